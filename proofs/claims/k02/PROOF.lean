import PyProof.Rows.All
import Wide.All
import OpenK.AllK
import Wide.FinOn
import HandS.ForMost
import HandS.EndBits
import HandS.Evl
import HandS.IsInst
import HandS.WideBits
import HandS.Style
import PySem.Challenge.RW_glassfall_k02_whole_fewest
set_option Elab.async false
set_option linter.all false
set_option maxRecDepth 100000
set_option maxHeartbeats 4000000
namespace GF
/-- ways to pick k of n -/
def bin : Nat → Nat → Nat
  | _, 0 => 1
  | 0, _ + 1 => 0
  | n + 1, k + 1 => bin n k + bin n (k + 1)
def fact : Nat → Nat
  | 0 => 1
  | k + 1 => fact k * (k + 1)
/-- how many storeys t tries and g glasses find -/
def R (t : Nat) : Nat → Nat
  | 0 => 0
  | g + 1 => R t g + bin t (g + 1)
theorem bin_zero (n : Nat) : bin n 0 = 1 := by cases n <;> rfl
theorem bin_lt : ∀ {n k : Nat}, n < k → bin n k = 0
  | _, 0, h => absurd h (Nat.not_lt_zero _)
  | 0, _ + 1, _ => rfl
  | n + 1, k + 1, h => by
    show bin n k + bin n (k + 1) = 0
    rw [bin_lt (show n < k by omega), bin_lt (show n < k + 1 by omega)]
theorem bin_succ_mul : ∀ (n k : Nat), (n + 1) * bin n k = bin (n + 1) (k + 1) * (k + 1)
  | 0, 0 => rfl
  | 0, k + 1 => by
    show (0 + 1) * 0 = (bin 0 (k + 1) + bin 0 (k + 2)) * (k + 1 + 1)
    rw [bin_lt (show 0 < k + 1 by omega), bin_lt (show 0 < k + 2 by omega)]
    simp
  | n + 1, 0 => by
    have h : (n + 1) * bin n 0 = bin (n + 1) 1 * 1 := bin_succ_mul n 0
    rw [bin_zero] at h
    show (n + 1 + 1) * bin (n + 1) 0 = (bin (n + 1) 0 + bin (n + 1) 1) * (0 + 1)
    rw [bin_zero]
    omega
  | n + 1, k + 1 => by
    have h1 := bin_succ_mul n k
    have h2 := bin_succ_mul n (k + 1)
    have e : bin (n + 1 + 1) (k + 1 + 1) = bin (n + 1) (k + 1) + bin (n + 1) (k + 1 + 1) := rfl
    have e2 : bin (n + 1) (k + 1) = bin n k + bin n (k + 1) := rfl
    rw [e, Nat.add_mul (bin (n + 1) (k + 1)), ← h2, Nat.add_mul (n + 1) 1, Nat.mul_add (bin (n + 1) (k + 1)) (k + 1) 1, ← h1, Nat.one_mul, Nat.mul_one]
    have e3 : (n + 1) * bin (n + 1) (k + 1) = (n + 1) * bin n k + (n + 1) * bin n (k + 1) := by rw [e2, Nat.mul_add]
    omega
theorem bin_mul (n k : Nat) : bin n (k + 1) * (k + 1) = bin n k * (n - k) := by
  by_cases h : n < k
  · rw [bin_lt h, bin_lt (show n < k + 1 by omega)]
    simp
  · have h1 := bin_succ_mul n k
    have e : bin (n + 1) (k + 1) = bin n k + bin n (k + 1) := rfl
    rw [e, Nat.add_mul (bin n k)] at h1
    have e2 : n + 1 = (n - k) + (k + 1) := by omega
    have e3 : (n + 1) * bin n k = bin n k * (n - k) + bin n k * (k + 1) := by
      rw [Nat.mul_comm, ← Nat.mul_add, ← e2]
    omega
theorem bin_div (n k : Nat) : bin n k * (n - k) / (k + 1) = bin n (k + 1) := by
  rw [← bin_mul]
  exact Nat.mul_div_cancel _ (Nat.succ_pos k)
theorem fact_pos : ∀ k, 0 < fact k
  | 0 => Nat.one_pos
  | k + 1 => Nat.mul_pos (fact_pos k) (Nat.succ_pos k)
theorem above_step (t k : Nat) : bin t k * fact k * (t - k) = bin t (k + 1) * fact (k + 1) := by
  show _ = bin t (k + 1) * (fact k * (k + 1))
  rw [Nat.mul_right_comm, ← bin_mul, Nat.mul_right_comm, Nat.mul_assoc]
theorem above_div (t k : Nat) : bin t k * fact k / fact k = bin t k := Nat.mul_div_cancel _ (fact_pos k)
theorem above_le : ∀ (t k : Nat), bin t k * fact k ≤ t ^ k
  | t, 0 => by rw [bin_zero]; exact Nat.le_refl _
  | t, k + 1 => by
    rw [← above_step, Nat.pow_succ]
    exact Nat.mul_le_mul (above_le t k) (Nat.sub_le _ _)
theorem bin_le (t k : Nat) : bin t k ≤ t ^ k := Nat.le_trans (Nat.le_mul_of_pos_right _ (fact_pos k)) (above_le t k)
theorem fact_le : ∀ (k m : Nat), k ≤ m → fact k ≤ m ^ k
  | 0, _, _ => Nat.le_refl _
  | k + 1, m, h => by
    rw [Nat.pow_succ]
    exact Nat.mul_le_mul (fact_le k m (by omega)) h
theorem pow_bits {t k b : Nat} (h : t < 2 ^ b) : t ^ k < 2 ^ (b * k + 1) := by
  have h1 : t ^ k ≤ (2 ^ b) ^ k := Nat.pow_le_pow_left (Nat.le_of_lt h) k
  rw [← Nat.pow_mul] at h1
  exact Nat.lt_of_le_of_lt h1 (Nat.pow_lt_pow_right (by decide) (Nat.lt_succ_self _))
theorem bits_mono {n a b : Nat} (h : n < 2 ^ a) (hab : a ≤ b) : n < 2 ^ b := Nat.lt_of_lt_of_le h (Nat.pow_le_pow_right (by decide) hab)
/-- bounds in bits, by name so that nothing reckons the powers -/
def BB : Nat := 110000
def BF : Nat := 3601
theorem bin_bits {t k : Nat} (h : t < 2 ^ 256) (hk : k ≤ 400) : bin t k < 2 ^ BB :=
  bits_mono (Nat.lt_of_le_of_lt (bin_le t k) (pow_bits h)) (show 256 * k + 1 ≤ 110000 by omega)
theorem above_bits {t k : Nat} (h : t < 2 ^ 256) (hk : k ≤ 400) : bin t k * fact k < 2 ^ BB :=
  bits_mono (Nat.lt_of_le_of_lt (above_le t k) (pow_bits h)) (show 256 * k + 1 ≤ 110000 by omega)
theorem fact_bits {k : Nat} (hk : k ≤ 400) : fact k < 2 ^ BF := by
  have h : fact k ≤ 400 ^ k := fact_le k 400 hk
  exact bits_mono (Nat.lt_of_le_of_lt h (pow_bits (b := 9) (by decide))) (show 9 * k + 1 ≤ 3601 by omega)
/-! ### R -/
theorem R_zero_t : ∀ g, R 0 g = 0
  | 0 => rfl
  | g + 1 => by
    show R 0 g + bin 0 (g + 1) = 0
    rw [R_zero_t g]
    rfl
theorem R_one (t : Nat) : R t 1 = t := by
  show 0 + bin t 1 = t
  rw [Nat.zero_add]
  have h : bin t 1 * 1 = bin t 0 * (t - 0) := bin_mul t 0
  rw [bin_zero] at h
  omega
theorem R_pascal (t : Nat) : ∀ g, R (t + 1) (g + 1) = R t g + 1 + R t (g + 1)
  | 0 => by
    show 0 + (bin t 0 + bin t 1) = 0 + 1 + (0 + bin t 1)
    rw [bin_zero]
    omega
  | g + 1 => by
    have h := R_pascal t g
    have e1 : R (t + 1) (g + 1 + 1) = R (t + 1) (g + 1) + (bin t (g + 1) + bin t (g + 1 + 1)) := rfl
    have e2 : R t (g + 1 + 1) = R t (g + 1) + bin t (g + 1 + 1) := rfl
    have e3 : R t (g + 1) = R t g + bin t (g + 1) := rfl
    omega
theorem R_succ_g (t g : Nat) : R t g ≤ R t (g + 1) := Nat.le_add_right _ _
theorem R_mono_g (t : Nat) {g h : Nat} (l : g ≤ h) : R t g ≤ R t h := by
  induction h with
  | zero =>
    have : g = 0 := by omega
    subst this
    exact Nat.le_refl _
  | succ h ih =>
    by_cases e : g = h + 1
    · subst e
      exact Nat.le_refl _
    · exact Nat.le_trans (ih (by omega)) (R_succ_g t h)
theorem R_succ_t (t : Nat) : ∀ g, R t g ≤ R (t + 1) g
  | 0 => Nat.le_refl _
  | g + 1 => by
    rw [R_pascal]
    omega
theorem R_lt_t (t g : Nat) (h : 0 < g) : R t g < R (t + 1) g := by
  obtain ⟨k, rfl⟩ : ∃ k, g = k + 1 := ⟨g - 1, by omega⟩
  rw [R_pascal]
  omega
theorem R_mono_t {t u : Nat} (g : Nat) (l : t ≤ u) : R t g ≤ R u g := by
  induction u with
  | zero =>
    have : t = 0 := by omega
    subst this
    exact Nat.le_refl _
  | succ u ih =>
    by_cases e : t = u + 1
    · subst e
      exact Nat.le_refl _
    · exact Nat.le_trans (ih (by omega)) (R_succ_t u g)
theorem R_over (t : Nat) : ∀ {g : Nat}, t ≤ g → R t g = R t t
  | 0, h => by
    have : t = 0 := by omega
    subst this
    rfl
  | g + 1, h => by
    by_cases e : t = g + 1
    · subst e
      rfl
    · show R t g + bin t (g + 1) = _
      rw [bin_lt (show t < g + 1 by omega), R_over t (show t ≤ g by omega)]
      rfl
theorem R_min (t g : Nat) : R t (min t g) = R t g := by
  by_cases h : t ≤ g
  · rw [Nat.min_eq_left h, R_over t h]
  · rw [Nat.min_eq_right (by omega)]
theorem R_full : ∀ (t g : Nat), t ≤ g → R t g + 1 = 2 ^ t
  | 0, g, _ => by
    rw [R_zero_t]
  | t + 1, 0, h => absurd h (by omega)
  | t + 1, g + 1, h => by
    have h1 := R_full t g (by omega)
    have h2 := R_full t (g + 1) (by omega)
    rw [R_pascal, Nat.pow_succ]
    omega
theorem R_le_pow (t g : Nat) : R t g + 1 ≤ 2 ^ t := by
  have h1 : R t g ≤ R t (g + t) := R_mono_g t (by omega)
  have h2 := R_full t (g + t) (by omega)
  omega
theorem R_ge (t : Nat) {g : Nat} (h : 0 < g) : t ≤ R t g := by
  have h1 : R t 1 ≤ R t g := R_mono_g t h
  rw [R_one] at h1
  exact h1
theorem R_zero_iff {t g : Nat} (h : t = 0 ∨ g = 0) : R t g = 0 := by
  rcases h with rfl | rfl
  · exact R_zero_t g
  · rfl
theorem R_pos {t g : Nat} (h1 : 0 < t) (h2 : 0 < g) : 0 < R t g := Nat.lt_of_lt_of_le h1 (R_ge t h2)
theorem R_pas {t g : Nat} (h1 : 0 < t) (h2 : 0 < g) : R t g = R (t - 1) (g - 1) + 1 + R (t - 1) g := by
  obtain ⟨k, rfl⟩ : ∃ k, g = k + 1 := ⟨g - 1, by omega⟩
  obtain ⟨u, rfl⟩ : ∃ u, t = u + 1 := ⟨t - 1, by omega⟩
  exact R_pascal u k
theorem R_two (t : Nat) : R t 2 * 2 = t * (t + 1) := by
  have h := bin_mul t 1
  have h1 : bin t 1 = t := by
    have := R_one t
    have e : R t 1 = 0 + bin t 1 := rfl
    omega
  have e : R t 2 = R t 1 + bin t 2 := rfl
  rw [R_one] at e
  rw [h1] at h
  have e3 : t * (t + 1) = t * (t - 1) + t * 2 := by
    rw [← Nat.mul_add]
    cases t with
    | zero => rfl
    | succ n => rfl
  have e4 : bin t (1 + 1) = bin t 2 := rfl
  omega
/-! ### the fewest tries -/
def Fw (s g t : Nat) : Prop := s ≤ R t g ∧ (t = 0 ∨ R (t - 1) g < s)
theorem Fw.uniq {s g t u : Nat} (a : Fw s g t) (b : Fw s g u) : t = u := by
  have key : ∀ {x y : Nat}, Fw s g x → Fw s g y → ¬ x < y := fun {x y} p q l => by
    rcases q.2 with z | z
    · omega
    · have h1 : R x g ≤ R (y - 1) g := R_mono_t g (by omega)
      have h2 := p.1
      omega
  have h1 := key a b
  have h2 := key b a
  omega
theorem Fw.ex {s g : Nat} : ∀ n : Nat, s ≤ R n g → ∃ t, Fw s g t ∧ t ≤ n
  | 0, h => ⟨0, ⟨h, .inl rfl⟩, Nat.le_refl _⟩
  | n + 1, h => by
    by_cases c : s ≤ R n g
    · obtain ⟨t, ht, hl⟩ := Fw.ex n c
      exact ⟨t, ht, by omega⟩
    · exact ⟨n + 1, ⟨h, .inr (by show R n g < s; omega)⟩, Nat.le_refl _⟩
theorem Fw.exists {s g : Nat} (h : 0 < g ∨ s = 0) : ∃ t, Fw s g t := by
  rcases h with h | h
  · obtain ⟨t, ht, _⟩ := Fw.ex s (R_ge s h)
    exact ⟨t, ht⟩
  · subst h
    exact ⟨0, Nat.zero_le _, .inl rfl⟩
noncomputable def fw (s g : Nat) : Nat := @dite _ (∃ t, Fw s g t) (Classical.propDecidable _) (fun h => Classical.choose h) (fun _ => 0)
theorem fw_spec {s g : Nat} (h : 0 < g ∨ s = 0) : Fw s g (fw s g) := by
  have e := Fw.exists h
  unfold fw
  rw [dif_pos e]
  exact Classical.choose_spec e
theorem fw_eq {s g t : Nat} (h : Fw s g t) : fw s g = t := by
  have e : ∃ t, Fw s g t := ⟨t, h⟩
  have q : Fw s g (fw s g) := by
    unfold fw
    rw [dif_pos e]
    exact Classical.choose_spec e
  exact q.uniq h
theorem fw_le {s g n : Nat} (h : s ≤ R n g) : fw s g ≤ n := by
  obtain ⟨t, ht, hl⟩ := Fw.ex n h
  rw [fw_eq ht]
  exact hl
theorem fw_le_self {s g : Nat} (h : 0 < g ∨ s = 0) : fw s g ≤ s := by
  rcases h with h | h
  · exact fw_le (R_ge s h)
  · subst h
    exact fw_le (Nat.zero_le _)
/-! ### the fewest glasses -/
def Gw (s b g : Nat) : Prop := s ≤ R b g ∧ (g = 0 ∨ R b (g - 1) < s)
theorem Gw.uniq {s b g u : Nat} (a : Gw s b g) (c : Gw s b u) : g = u := by
  have key : ∀ {x y : Nat}, Gw s b x → Gw s b y → ¬ x < y := fun {x y} p q l => by
    rcases q.2 with z | z
    · omega
    · have h1 : R b x ≤ R b (y - 1) := R_mono_g b (by omega)
      have h2 := p.1
      omega
  have h1 := key a c
  have h2 := key c a
  omega
theorem Gw.ex {s b : Nat} : ∀ n : Nat, s ≤ R b n → ∃ t, Gw s b t ∧ t ≤ n
  | 0, h => ⟨0, ⟨h, .inl rfl⟩, Nat.le_refl _⟩
  | n + 1, h => by
    by_cases c : s ≤ R b n
    · obtain ⟨t, ht, hl⟩ := Gw.ex n c
      exact ⟨t, ht, by omega⟩
    · exact ⟨n + 1, ⟨h, .inr (by show R b n < s; omega)⟩, Nat.le_refl _⟩
/-! ### bits -/
def bl (s : Nat) : Nat := PySem.Builtin.Int.intBits ((s : Nat) : Int)
theorem bl_lt (s : Nat) : s < 2 ^ bl s := by
  unfold bl PySem.Builtin.Int.intBits
  split
  · rename_i e
    have e' : s = 0 := by
      have : (s : Int) = 0 := by simpa using e
      omega
    subst e'
    exact Nat.one_pos
  · rw [Int.natAbs_natCast]
    exact Nat.lt_log2_self
theorem bl_ge {s : Nat} (h : 0 < s) : 2 ^ (bl s - 1) ≤ s := by
  unfold bl PySem.Builtin.Int.intBits
  split
  · rename_i e
    have e' : (s : Int) = 0 := by simpa using e
    omega
  · rw [Int.natAbs_natCast, Nat.add_sub_cancel]
    exact Nat.log2_self_le (by omega)
theorem bl_le {s : Nat} (h : s ≤ 10 ^ 60) : bl s ≤ 200 := by
  by_cases h0 : 0 < s
  · have h1 := bl_ge h0
    by_cases c : bl s ≤ 200
    · exact c
    · have h2 : 2 ^ 200 ≤ 2 ^ (bl s - 1) := Nat.pow_le_pow_right (by decide) (by omega)
      have h3 : (10 : Nat) ^ 60 < 2 ^ 200 := by decide
      omega
  · have e : s = 0 := by omega
    subst e
    decide
theorem bl_enough {s g : Nat} (h : bl s ≤ g) : s ≤ R (bl s) g := by
  have h1 := R_full (bl s) g h
  have h2 := bl_lt s
  omega
theorem Gw.exists (s : Nat) : ∃ f, Gw s (bl s) f ∧ f ≤ bl s := Gw.ex (bl s) (bl_enough (Nat.le_refl _))
/-- with as many glasses as it takes the tries are the bits -/
theorem fw_bits {s f : Nat} (h : Gw s (bl s) f) (h0 : 0 < f) : fw s f = bl s := by
  refine fw_eq ⟨h.1, ?_⟩
  by_cases hb : bl s = 0
  · exact .inl hb
  · refine .inr ?_
    have hs : 0 < s := by
      by_cases e : s = 0
      · subst e
        exact absurd rfl hb
      · omega
    have h1 := R_le_pow (bl s - 1) f
    have h2 := bl_ge hs
    omega
theorem fw_zero (g : Nat) : fw 0 g = 0 := fw_eq ⟨Nat.zero_le _, .inl rfl⟩
end GF

namespace GF
open PySem L2 Evl
/-- a promise by a relation of the arguments and the value; what was tracked stands -/
def spP (r : List V → V → Prop) : Sp := fun vs H Q _ => ∃ v, r vs v ∧ ∀ H2, Ex H H2 → Q v H2
section
variable {K : PySem.W.Frag} {σ : L2.St} {H H' : Hp} {ta tb tc te : TE} {x y z v : V}
theorem ev_p {r : List V → V → Prop} {E : XK} {t : TA} {vs : List V} (h : EvA t σ H vs) (hr : r vs v) : Ev (tCall (spP r) [] E t) σ H v := by
  refine ev_call h ?_
  rw [List.append_nil]
  exact fun H1 _ Q q E => ⟨v, hr, fun H2 e2 => q H2 e2⟩
theorem rc_min2 {i j : Int} : RC (fun xs H Q => ∃ i j, xs = [V.int i, V.int j] ∧ Q (V.int (if j < i then j else i)) H) [.int i, .int j] H (.int (if j < i then j else i)) := fun H1 _ _ q => ⟨i, j, rfl, q H1 (Ex.refl H1)⟩
theorem rc_max2 {i j : Int} : RC (fun xs H Q => ∃ i j, xs = [V.int i, V.int j] ∧ Q (V.int (if j > i then j else i)) H) [.int i, .int j] H (.int (if j > i then j else i)) := fun H1 _ _ q => ⟨i, j, rfl, q H1 (Ex.refl H1)⟩
theorem rc_abs {i : Int} : RC (fun xs H Q => ∃ i, xs = [V.int i] ∧ Q (V.int (if i < 0 then -i else i)) H) [.int i] H (.int (if i < 0 then -i else i)) := fun H1 _ _ q => ⟨i, rfl, q H1 (Ex.refl H1)⟩
theorem rc_sum {a : Addr} {ns : List Int} (h : SqL K H a (ns.map V.int)) : RC (rSum K) [.ref a] H (.int ns.sum) := fun H1 e _ q => ⟨a, ns, rfl, ex_l e h, q H1 (Ex.refl H1)⟩
theorem rc_lenL {a : Addr} {xs : List V} (h : SqL K H a xs) : RC (fun xs H Q => ∃ p ys, xs = [V.ref p] ∧ (SqL K H p ys ∨ SqT K H p ys) ∧ Q (V.int (List.length ys : Nat)) H) [.ref a] H (.int (xs.length : Nat)) := fun H1 e _ q => ⟨a, xs, rfl, .inl (ex_l e h), q H1 (Ex.refl H1)⟩
theorem rc_isi {c : V} {t u : Value} {b : Bool} (hc : ClsV c u) (ht : ∀ H1, Ex H H1 → TyX K H1 x t) (hb : PySem.W.kitOne K t u = some b) : RC (rIsi K) [x, c] H (.bl b) := fun H1 e _ q => ⟨x, c, t, u, b, rfl, hc, ht H1 e, hb, q H1 (Ex.refl H1)⟩
theorem rc_isi_int {i : Int} {n : String} {b : Bool} (hb : kitB "int" n = some b) : RC (rIsi K) [.int i, .ty n] H (.bl b) := rc_isi (.ty n) (fun _ _ => .base (.int i)) (kit_ty hb)
theorem rc_isi_bl {i : Bool} {n : String} {b : Bool} (hb : kitB "bool" n = some b) : RC (rIsi K) [.bl i, .ty n] H (.bl b) := rc_isi (.ty n) (fun _ _ => .base (.bl i)) (kit_ty hb)
theorem rv_eqI {i j : Int} : RV rEq (.int i) (.int j) H (.bl (decide (i = j))) := fun H1 _ Q q => ⟨rfl, by
  have e : decide (V.int i = V.int j) = decide (i = j) := by
    by_cases h : i = j
    · subst h
      simp
    · rw [decide_eq_false h, decide_eq_false (fun z => h (V.int.inj z))]
  rw [e]
  exact q H1 (Ex.refl H1)⟩
theorem rv_neI {i j : Int} : RV rNe (.int i) (.int j) H (.bl (!decide (i = j))) := fun H1 _ Q q => ⟨rfl, by
  have e : decide (V.int i = V.int j) = decide (i = j) := by
    by_cases h : i = j
    · subst h
      simp
    · rw [decide_eq_false h, decide_eq_false (fun z => h (V.int.inj z))]
  rw [e]
  exact q H1 (Ex.refl H1)⟩
theorem rv_eqB {i j : Bool} : RV rEq (.bl i) (.bl j) H (.bl (decide (i = j))) := fun H1 _ Q q => ⟨rfl, by
  have e : decide (V.bl i = V.bl j) = decide (i = j) := by
    cases i <;> cases j <;> rfl
  rw [e]
  exact q H1 (Ex.refl H1)⟩
theorem rv_neB {i j : Bool} : RV rNe (.bl i) (.bl j) H (.bl (!decide (i = j))) := fun H1 _ Q q => ⟨rfl, by
  have e : decide (V.bl i = V.bl j) = decide (i = j) := by
    cases i <;> cases j <;> rfl
  rw [e]
  exact q H1 (Ex.refl H1)⟩
theorem ev_chain {r r' : R2} {a b : Bool} (ha : Ev ta σ H x) (hb : Ev tb σ H y) (hc : Ev tc σ H z) (h1 : RV r x y H (.bl a)) (h2 : a = true → RV r' y z H (.bl b)) : Ev (tChain r r' ta tb tc) σ H (.bl (a && b)) := fun H1 e Q q =>
  ha H1 e _ fun H2 e2 => hb H2 (e.trans e2) _ fun H3 e3 => h1 H3 ((e.trans e2).trans e3) _ fun H4 e4 => ⟨a, rfl, by
    cases a with
    | true =>
      show tc σ H4 fun w' H5 => r' y w' H5 Q
      exact hc H4 (((e.trans e2).trans e3).trans e4) _ fun H5 e5 => h2 rfl H5 ((((e.trans e2).trans e3).trans e4).trans e5) Q fun H6 e6 => q H6 ((((e2.trans e3).trans e4).trans e5).trans e6)
    | false =>
      show Q (.bl false) H4
      exact q H4 ((e2.trans e3).trans e4)⟩
/-- the tuple just made, an item of it -/
theorem ev_ixU {xs : List V} {i : Int} (ha : EvU ta σ H xs) (hb : Ev tb σ H (.int i)) (hx : atI xs i = some v) : Ev (tOp (rIxT K) ta tb) σ H v := fun H1 e Q q =>
  ha H1 e _ fun p H2 _ e2 hp => hb H2 (e.trans e2) _ fun H3 e3 => ⟨p, xs, i, v, rfl, rfl, .inl (.inl (e3 p _ hp)), hx, q H3 (e2.trans e3)⟩
variable {D : Ends} {tz tu : TS}
/-- x op= e where the rule asks something -/
theorem s_augC {i : Nat} {C : Int → Int → Prop} {f : Int → Int → Int} {a b : Int} (hx : σ[i]? = some (some (.int a))) (h : Ev te σ H (.int b)) (hc : C a b) (k : ∀ H1, Ex H H1 → D.nx (σ.set i (some (.int (f a b)))) H1) : tAug i te (rI C fun i j => .int (f i j)) D σ H :=
  ⟨.int a, hx, h H (Ex.refl H) _ fun H1 e => ⟨a, b, rfl, rfl, hc, k H1 e⟩⟩
/-- a, b = x, y -/
theorem s_par {i j : Nat} {t : TA} {u w : V} (h : EvA t σ H [u, w]) (k : ∀ H1, Ex H H1 → D.nx ((σ.set i (some u)).set j (some w)) H1) : tPar i j t D σ H := h H (Ex.refl H) _ fun H1 e => ⟨u, w, rfl, k H1 e⟩
theorem q_par {i j : Nat} {t : TA} {u w : V} (h : EvA t σ H [u, w]) (k : ∀ H1, Ex H H1 → tz D ((σ.set i (some u)).set j (some w)) H1) : tSeq (tPar i j t) tz D σ H := s_par (D := { D with nx := tz D }) h k
theorem s_par3 {i j l : Nat} {t : TA} {u w m : V} (h : EvA t σ H [u, w, m]) (k : ∀ H1, Ex H H1 → D.nx (((σ.set i (some u)).set j (some w)).set l (some m)) H1) : tPar3 i j l t D σ H := h H (Ex.refl H) _ fun H1 e => ⟨u, w, m, rfl, k H1 e⟩
theorem q_par3 {i j l : Nat} {t : TA} {u w m : V} (h : EvA t σ H [u, w, m]) (k : ∀ H1, Ex H H1 → tz D (((σ.set i (some u)).set j (some w)).set l (some m)) H1) : tSeq (tPar3 i j l t) tz D σ H := s_par3 (D := { D with nx := tz D }) h k
/-- a, b, c = (x, y, z), the tuple made -/
theorem s_asg3 {i j l : Nat} {u w m : V} (h : EvU te σ H [u, w, m]) (k : ∀ H1, Ex H H1 → D.nx (((σ.set i (some u)).set j (some w)).set l (some m)) H1) : tAsg te (gTup K 3 (gCons (gName i) (gCons (gName j) (gCons (gName l) gNil)))) D σ H :=
  h H (Ex.refl H) _ fun p H1 _ e hp => ⟨p, _, rfl, .inl (.inl hp), rfl, u, _, rfl, w, _, rfl, m, _, rfl, rfl, k H1 e⟩
theorem q_asg3 {i j l : Nat} {u w m : V} (h : EvU te σ H [u, w, m]) (k : ∀ H1, Ex H H1 → tz D (((σ.set i (some u)).set j (some w)).set l (some m)) H1) : tSeq (tAsg te (gTup K 3 (gCons (gName i) (gCons (gName j) (gCons (gName l) gNil))))) tz D σ H := s_asg3 (D := { D with nx := tz D }) h k
end
/-! ### numbers -/
theorem min_nat (t g : Nat) : (if (g : Int) < (t : Int) then (g : Int) else (t : Int)) = ((min t g : Nat) : Int) := by
  by_cases h : g < t
  · rw [if_pos (by omega), Nat.min_eq_right (by omega)]
  · rw [if_neg (by omega), Nat.min_eq_left (by omega)]
theorem sub_nat {t i : Nat} (h : i ≤ t) : (t : Int) - (i : Int) = ((t - i : Nat) : Int) := by omega
theorem nat_bits {n b : Nat} (h : n < 2 ^ b) : ((n : Int)).natAbs < 2 ^ b := by
  rw [Int.natAbs_natCast]
  exact h
end GF

namespace GF
open PySem L2 Evl
/-! ### lists of tuples -/
def TupsAt (H : Hp) (as : List Addr) (rows : List (List V)) : Prop := as.length = rows.length ∧ ∀ (i : Nat) (a : Addr) (r : List V), as[i]? = some a → rows[i]? = some r → H a = some (.tup r)
def ListT (H : Hp) (p : Addr) (rows : List (List V)) : Prop := ∃ as : List Addr, H p = some (.lst (as.map V.ref)) ∧ TupsAt H as rows
theorem TupsAt.mono {H H' : Hp} {as : List Addr} {rows : List (List V)} (h : TupsAt H as rows) (e : Ex H H') : TupsAt H' as rows := ⟨h.1, fun i a r h1 h2 => e _ _ (h.2 i a r h1 h2)⟩
theorem TupsAt.nil {H : Hp} : TupsAt H [] [] := ⟨rfl, fun i a r h => by simp at h⟩
theorem ListT.mono {H H' : Hp} {p : Addr} {rows : List (List V)} (h : ListT H p rows) (e : Ex H H') : ListT H' p rows := by
  obtain ⟨as, h1, h2⟩ := h
  exact ⟨as, e _ _ h1, h2.mono e⟩
theorem TupsAt.snoc {H : Hp} {as : List Addr} {rows : List (List V)} {a : Addr} {r : List V} (h : TupsAt H as rows) (ha : H a = some (.tup r)) : TupsAt H (as ++ [a]) (rows ++ [r]) := by
  refine ⟨by rw [List.length_append, List.length_append, h.1]; rfl, fun i b s h1 h2 => ?_⟩
  by_cases hi : i < as.length
  · rw [List.getElem?_append_left hi] at h1
    rw [List.getElem?_append_left (by rw [← h.1]; exact hi)] at h2
    exact h.2 i b s h1 h2
  · rw [List.getElem?_append_right (by omega)] at h1
    rw [List.getElem?_append_right (by rw [← h.1]; omega)] at h2
    by_cases h0 : i - as.length = 0
    · rw [h0] at h1
      rw [← h.1, h0] at h2
      have e1 : a = b := Option.some.inj h1
      have e2 : r = s := Option.some.inj h2
      rw [← e1, ← e2]
      exact ha
    · obtain ⟨m, hm⟩ : ∃ m, i - as.length = m + 1 := ⟨i - as.length - 1, by omega⟩
      rw [hm] at h1
      simp at h1
theorem TupsAt.cons {H : Hp} {as : List Addr} {rows : List (List V)} {a : Addr} {r : List V} (ha : H a = some (.tup r)) (h : TupsAt H as rows) : TupsAt H (a :: as) (r :: rows) := by
  refine ⟨by rw [List.length_cons, List.length_cons, h.1], fun i b s h1 h2 => ?_⟩
  cases i with
  | zero =>
    have e1 : a = b := Option.some.inj h1
    have e2 : r = s := Option.some.inj h2
    rw [← e1, ← e2]
    exact ha
  | succ i => exact h.2 i b s h1 h2
/-- a store to a list leaves the tuples -/
theorem TupsAt.upd {H : Hp} {as : List Addr} {rows : List (List V)} {l : Addr} {xs ys : List V} (h : TupsAt H as rows) (hl : H l = some (.lst xs)) : TupsAt (upd H l (.lst ys)) as rows := ⟨h.1, fun i a r h1 h2 => by
  have q := h.2 i a r h1 h2
  rw [upd_ne (ne_of q hl (by intro z; cases z))]
  exact q⟩
section
variable {K : PySem.W.Frag} {σ : L2.St} {H H' : Hp} {ta tb tc te tl : TE} {x y z v u w m : V} {D : Ends} {tz tu : TS} {g : TG}
/-- arguments that are new tuples -/
def EvAU (t : TA) (σ : L2.St) (H : Hp) (rows : List (List V)) : Prop := ∀ H1, Ex H H1 → ∀ Q : List V → Hp → Prop, (∀ as H2, Ex H1 H2 → TupsAt H2 as rows → Q (as.map V.ref) H2) → t σ H1 Q
theorem eau_nil : EvAU tNil σ H [] := fun H1 _ Q q => q [] H1 (Ex.refl H1) .nil
theorem eau_cons {tr : TA} {r : List V} {rows : List (List V)} (h : EvU te σ H r) (hr : EvAU tr σ H rows) : EvAU (tCons te tr) σ H (r :: rows) := fun H1 e Q q =>
  h H1 e _ fun p H2 _ e2 hp => hr H2 (e.trans e2) _ fun as H3 e3 h3 => q (p :: as) H3 (e2.trans e3) (.cons (e3 p _ hp) h3)
theorem at_row {H : Hp} {as : List Addr} {rows : List (List V)} {j : Nat} {r : List V} (h : TupsAt H as rows) (hj : rows[j]? = some r) : ∃ a, as[j]? = some a ∧ H a = some (.tup r) := by
  have hlt : j < as.length := by
    rw [h.1]
    exact (List.getElem?_eq_some_iff.mp hj).1
  exact ⟨as[j], List.getElem?_eq_getElem hlt, h.2 j _ r (List.getElem?_eq_getElem hlt) hj⟩
/-- unpacking a tuple of three -/
theorem g_3 {i j l : Nat} {T : Addr} {Q : L2.St → Hp → Prop} (h : H T = some (.tup [u, w, m])) (k : Q (((σ.set i (some u)).set j (some w)).set l (some m)) H) : gTup K 3 (gCons (gName i) (gCons (gName j) (gCons (gName l) gNil))) (.ref T) σ H Q :=
  ⟨T, _, rfl, .inl (.inl h), rfl, u, _, rfl, w, _, rfl, m, _, rfl, rfl, k⟩
theorem g_2 {i j : Nat} {T : Addr} {Q : L2.St → Hp → Prop} (h : H T = some (.tup [u, w])) (k : Q ((σ.set i (some u)).set j (some w)) H) : gTup K 2 (gCons (gName i) (gCons (gName j) gNil)) (.ref T) σ H Q :=
  ⟨T, _, rfl, .inl (.inl h), rfl, u, _, rfl, w, _, rfl, rfl, k⟩
/-- a, b, c = (.., .., ..)[k] -/
theorem q_menu3 {i j l : Nat} {t : TA} {rows : List (List V)} {k : Int} {n : Nat} (h : EvAU t σ H rows) (hi : Ev tb σ H (.int k)) (hz : rows.length ≤ 100000) (hk : k = (n : Int)) (hr : rows[n]? = some [u, w, m])
    (q : ∀ H1, Ex H H1 → tz D (((σ.set i (some u)).set j (some w)).set l (some m)) H1) :
    tSeq (tAsg (tOp (rIxT K) (tTup t) tb) (gTup K 3 (gCons (gName i) (gCons (gName j) (gCons (gName l) gNil))))) tz D σ H :=
  h H (Ex.refl H) _ fun as H1 e1 h1 => ⟨sz_of (by rw [List.length_map, h1.1]; exact hz), fun p hp => hi _ (e1.trans (Ex.new hp)) _ fun H2 e2 => by
    obtain ⟨a, ha, hta⟩ := at_row h1 hr
    have hap : H2 a = some (.tup [u, w, m]) := e2 _ _ (Ex.new hp a _ hta)
    refine ⟨p, as.map V.ref, k, .ref a, rfl, rfl, .inl (.inl (e2 _ _ upd_same)), ?_, g_3 hap (q H2 ((e1.trans (Ex.new hp)).trans e2))⟩
    subst hk
    exact atI_nat (by rw [List.getElem?_map, ha]; rfl)⟩
/-- a, b, c = x, [], z -/
theorem q_par3L {i j l : Nat} {xs : List V} (ha : Ev ta σ H u) (hl : EvL tl σ H xs) (hc : Ev tc σ H m) (k : ∀ p H1, H p = none → Ex H H1 → H1 p = some (.lst xs) → tz D (((σ.set i (some u)).set j (some (.ref p))).set l (some m)) H1) :
    tSeq (tPar3 i j l (tCons ta (tCons tl (tCons tc tNil)))) tz D σ H :=
  ha H (Ex.refl H) _ fun H1 e1 => hl H1 e1 _ fun p H2 hp e2 h2 => hc H2 (e1.trans e2) _ fun H3 e3 => ⟨u, .ref p, m, rfl, k p H3 (fresh_back e1 hp) ((e1.trans e2).trans e3) (e3 _ _ h2)⟩
/-- what follows is shown once -/
theorem q_rest {tu : TS} (J : L2.St → Hp → Prop) (h1 : ∀ σ' H', J σ' H' → tz D σ' H') (h2 : (∀ σ' H', J σ' H' → tz D σ' H') → tSeq tu tz D σ H) : tSeq tu tz D σ H := h2 h1
/-- what a call hands back, by a word -/
def EvN (te : TE) (σ : L2.St) (H : Hp) (Post : V → Hp → Prop) : Prop := ∀ H1, Ex H H1 → ∀ Q : VK, (∀ v H2, Ex H1 H2 → Post v H2 → Q v H2) → te σ H1 Q
/-- a promise by a word of the value and the heap behind; what was tracked stands -/
def spN (r : Hp → List V → (V → Hp → Prop) → Prop) : Sp := fun vs H Q _ => ∃ Post, r H vs Post ∧ ∀ v H2, Ex H H2 → Post v H2 → Q v H2
theorem en_call {r : Hp → List V → (V → Hp → Prop) → Prop} {E : XK} {t : TA} {vs : List V} {Post : V → Hp → Prop} (h : EvA t σ H vs) (hr : ∀ H1, Ex H H1 → r H1 vs Post) : EvN (tCall (spN r) [] E t) σ H Post := fun H1 e Q q =>
  h H1 e _ fun H2 e2 => by
    show spN r (vs ++ []) H2 Q E
    rw [List.append_nil]
    exact ⟨Post, hr H2 (e.trans e2), fun v H3 e3 hp => q v H3 (e2.trans e3) hp⟩
/-- the argument a new list -/
theorem en_callL {r : Hp → List V → (V → Hp → Prop) → Prop} {E : XK} {xs : List V} {Post : V → Hp → Prop} (h : EvL te σ H xs) (hr : ∀ p H1, Ex H H1 → H1 p = some (.lst xs) → r H1 [.ref p] Post) : EvN (tCall (spN r) [] E (tCons te tNil)) σ H Post := fun H1 e Q q =>
  h H1 e _ fun p H2 _ e2 hp => ⟨Post, hr p H2 (e.trans e2) hp, fun v H3 e3 hP => q v H3 (e2.trans e3) hP⟩
/-- the argument what another call hands back -/
theorem en_callN {r : Hp → List V → (V → Hp → Prop) → Prop} {E : XK} {Mid Post : V → Hp → Prop} (h : EvN te σ H Mid) (hr : ∀ v H1, Ex H H1 → Mid v H1 → r H1 [v] Post) : EvN (tCall (spN r) [] E (tCons te tNil)) σ H Post := fun H1 e Q q =>
  h H1 e _ fun p H2 e2 hp => ⟨Post, hr p H2 (e.trans e2) hp, fun v H3 e3 hP => q v H3 (e2.trans e3) hP⟩
theorem en_of (h : Ev te σ H v) : EvN te σ H (fun v' H' => v' = v ∧ Ex H H') := fun H1 e Q q => h H1 e _ fun H2 e2 => q v H2 e2 ⟨rfl, e.trans e2⟩
theorem q_asgN {i : Nat} {Post : V → Hp → Prop} (h : EvN te σ H Post) (k : ∀ v H1, Ex H H1 → Post v H1 → tz D (σ.set i (some v)) H1) : tSeq (tAsg te (gName i)) tz D σ H := h H (Ex.refl H) _ fun v H1 e hp => k v H1 e hp
theorem s_retN {Post : V → Hp → Prop} (h : EvN te σ H Post) (k : ∀ v H1, Ex H H1 → Post v H1 → D.rt v H1) : tRet te D σ H := h H (Ex.refl H) _ fun v H1 e hp => k v H1 e hp
/-- unpacking a pair of a thing and a tuple of three -/
theorem g_1_3 {i j l n : Nat} {T T2 : Addr} {Q : L2.St → Hp → Prop} (h : H T = some (.tup [x, .ref T2])) (h2 : H T2 = some (.tup [u, w, m])) (k : Q ((((σ.set n (some x)).set i (some u)).set j (some w)).set l (some m)) H) :
    gTup K 2 (gCons (gName n) (gCons (gTup K 3 (gCons (gName i) (gCons (gName j) (gCons (gName l) gNil)))) gNil)) (.ref T) σ H Q :=
  ⟨T, _, rfl, .inl (.inl h), rfl, x, _, rfl, .ref T2, _, rfl, T2, _, rfl, .inl (.inl h2), rfl, u, _, rfl, w, _, rfl, m, _, rfl, rfl, rfl, k⟩
/-- for i, row in enumerate(a list of tuples) -/
theorem s_enumRows {Post : V → Hp → Prop} (h : EvN tl σ H Post)
    (hs : ∀ v H1, Ex H H1 → Post v H1 → ∃ (p : Addr) (as : List Addr) (rows : List (List V)) (Pv : Nat → L2.St → Hp → Prop), v = .ref p ∧ H1 p = some (.lst (as.map V.ref)) ∧ TupsAt H1 as rows ∧ Pv 0 σ H1 ∧
      (∀ i σ' H', Pv i σ' H' → H' p = some (.lst (as.map V.ref)) ∧ TupsAt H' as rows) ∧
      (∀ (n : Nat) row σ' H' T T2, rows[n]? = some row → Pv n σ' H' → H' T = none → H' T2 = some (.tup row) → g (.ref T) σ' (upd H' T (.tup [.int (n : Int), .ref T2])) fun σ2 H2 => tu { D with nx := Pv (n + 1), ct := Pv (n + 1), bk := D.nx } σ2 H2) ∧
      (∀ σ' H', Pv rows.length σ' H' → D.nx σ' H')) : tFor (iEnum K (tCons tl tNil)) g tu D σ H :=
  h H (Ex.refl H) _ fun v H1 e1 hp => by
    obtain ⟨p, as, rows, Pv, rfl, hl, ht, h0, keep, turn, done⟩ := hs v H1 e1 hp
    refine ⟨p, as.map V.ref, rfl, sq_of hl, fun i m σ' H' => i + m = rows.length ∧ Pv i σ' H', ⟨rows.length, Nat.zero_add _, h0⟩, ?_⟩
    rintro i m σ' H' ⟨him, hv⟩
    obtain ⟨k1, k2⟩ := keep i σ' H' hv
    by_cases hi : i < rows.length
    · have hia : i < as.length := by rw [ht.1]; exact hi
      have ha : (as.map V.ref)[i]? = some (.ref as[i]) := by rw [List.getElem?_map, List.getElem?_eq_getElem hia]; rfl
      refine .inr ⟨⟨_, _, sq_of k1, ha⟩, Pv (i + 1), fun σ2 H2 hN => ⟨m - 1, by omega, by omega, hN⟩, ?_⟩
      rintro x H2 ⟨T, x2, rfl, hT, rfl, hx⟩
      have ex2 : x2 = .ref as[i] := Option.some.inj ((hx _ (sq_of k1)).symm.trans ha)
      subst ex2
      exact turn i rows[i] σ' H' T as[i] (List.getElem?_eq_getElem hi) hv hT (k2.2 i _ _ (List.getElem?_eq_getElem hia) (List.getElem?_eq_getElem hi))
    · have e : i = rows.length := by omega
      subst e
      exact .inl ⟨⟨_, sq_of k1, by rw [List.length_map, ht.1]; exact Nat.le_refl _⟩, done σ' H' hv⟩
theorem q_enumRows {Post : V → Hp → Prop} (h : EvN tl σ H Post)
    (hs : ∀ v H1, Ex H H1 → Post v H1 → ∃ (p : Addr) (as : List Addr) (rows : List (List V)) (Pv : Nat → L2.St → Hp → Prop), v = .ref p ∧ H1 p = some (.lst (as.map V.ref)) ∧ TupsAt H1 as rows ∧ Pv 0 σ H1 ∧
      (∀ i σ' H', Pv i σ' H' → H' p = some (.lst (as.map V.ref)) ∧ TupsAt H' as rows) ∧
      (∀ (n : Nat) row σ' H' T T2, rows[n]? = some row → Pv n σ' H' → H' T = none → H' T2 = some (.tup row) → g (.ref T) σ' (upd H' T (.tup [.int (n : Int), .ref T2])) fun σ2 H2 => tu { D with nx := Pv (n + 1), ct := Pv (n + 1), bk := tz D } σ2 H2) ∧
      (∀ σ' H', Pv rows.length σ' H' → tz D σ' H')) : tSeq (tFor (iEnum K (tCons tl tNil)) g tu) tz D σ H :=
  s_enumRows (D := { D with nx := tz D }) h hs
/-- a loop over a list of tuples that a call hands back -/
theorem s_forRows {Post : V → Hp → Prop} (h : EvN tl σ H Post) (Pv : Nat → L2.St → Prop) (h0 : Pv 0 σ)
    (hs : ∀ v H1, Ex H H1 → Post v H1 → ∃ (p : Addr) (rows : List (List V)), v = .ref p ∧ ListT H1 p rows ∧
      (∀ n row σ' H' T, rows[n]? = some row → Pv n σ' → Ex H1 H' → H' T = some (.tup row) → g (.ref T) σ' H' fun σ2 H2 => tu { D with nx := fun σ3 H3 => Pv (n + 1) σ3 ∧ Ex H1 H3, ct := fun σ3 H3 => Pv (n + 1) σ3 ∧ Ex H1 H3, bk := D.nx } σ2 H2) ∧
      (∀ σ' H', Pv rows.length σ' → Ex H1 H' → D.nx σ' H')) : tFor (iList K tl) g tu D σ H :=
  h H (Ex.refl H) _ fun v H1 e1 hp => by
    obtain ⟨p, rows, rfl, ⟨as, hl, ht⟩, turn, done⟩ := hs v H1 e1 hp
    refine ⟨p, rfl, ⟨_, sq_of hl⟩, for_list (K := K) (xs := as.map V.ref) (fun n σ' H' => Pv n σ' ∧ Ex H1 H') ⟨h0, Ex.refl H1⟩ (fun n σ' H' _ q => sq_of (q.2 _ _ hl)) ?_ ?_⟩
    · rintro n x σ' H' hx ⟨hv, e2⟩
      rw [List.getElem?_map] at hx
      cases ha : as[n]? with
      | none =>
        rw [ha] at hx
        cases hx
      | some T =>
        rw [ha] at hx
        have ex : V.ref T = x := Option.some.inj hx
        rw [← ex]
        have hlt : n < rows.length := by
          rw [← ht.1]
          exact (List.getElem?_eq_some_iff.mp ha).1
        exact turn n rows[n] σ' H' T (List.getElem?_eq_getElem hlt) hv e2 (e2 _ _ (ht.2 n T _ ha (List.getElem?_eq_getElem hlt)))
    · rintro σ' H' ⟨hv, e2⟩
      rw [List.length_map, ht.1] at hv
      exact done σ' H' hv e2
theorem q_forRows {Post : V → Hp → Prop} (h : EvN tl σ H Post) (Pv : Nat → L2.St → Prop) (h0 : Pv 0 σ)
    (hs : ∀ v H1, Ex H H1 → Post v H1 → ∃ (p : Addr) (rows : List (List V)), v = .ref p ∧ ListT H1 p rows ∧
      (∀ n row σ' H' T, rows[n]? = some row → Pv n σ' → Ex H1 H' → H' T = some (.tup row) → g (.ref T) σ' H' fun σ2 H2 => tu { D with nx := fun σ3 H3 => Pv (n + 1) σ3 ∧ Ex H1 H3, ct := fun σ3 H3 => Pv (n + 1) σ3 ∧ Ex H1 H3, bk := tz D } σ2 H2) ∧
      (∀ σ' H', Pv rows.length σ' → Ex H1 H' → tz D σ' H')) : tSeq (tFor (iList K tl) g tu) tz D σ H :=
  s_forRows (D := { D with nx := tz D }) h Pv h0 hs
end
theorem cut63 (ns : List Int) : cutV (ns.map V.int) none (some 63) = (ns.take 63).map V.int := by
  unfold cutV
  rw [HT.sIx_none, show HT.sIx (ns.map V.int).length (ns.map V.int).length (some 63) = min 63 (ns.map V.int).length from HT.sIx_nat _ _ 63]
  rw [List.drop_zero, Nat.sub_zero, List.map_take, List.length_map]
  by_cases h : 63 ≤ ns.length
  · rw [Nat.min_eq_left h]
  · rw [Nat.min_eq_right (by omega), List.take_of_length_le (by rw [List.length_map]; omega), List.take_of_length_le (by rw [List.length_map]; omega)]
theorem cutTake (xs : List V) (n : Nat) : cutV xs none (some (n : Int)) = xs.take n := by
  unfold cutV
  rw [HT.sIx_none, show HT.sIx xs.length xs.length (some (n : Int)) = min n xs.length from HT.sIx_nat _ _ n, List.drop_zero, Nat.sub_zero]
  by_cases h : n ≤ xs.length
  · rw [Nat.min_eq_left h]
  · rw [Nat.min_eq_right (by omega), List.take_of_length_le (Nat.le_refl _), List.take_of_length_le (by omega)]
theorem TupsAt.take {H : Hp} {as : List Addr} {rows : List (List V)} (h : TupsAt H as rows) (n : Nat) : TupsAt H (as.take n) (rows.take n) := by
  refine ⟨by rw [List.length_take, List.length_take, h.1], fun i a r h1 h2 => ?_⟩
  rw [List.getElem?_take] at h1 h2
  split at h1
  · rename_i hi
    rw [if_pos hi] at h2
    exact h.2 i a r h1 h2
  · cases h1
theorem tup_stays {H : Hp} {a l : Addr} {r xs ys : List V} (h : H a = some (.tup r)) (hl : H l = some (.lst xs)) : upd H l (.lst ys) a = some (.tup r) := by
  rw [upd_ne (ne_of h hl (by intro z; cases z))]
  exact h
theorem args2 {a b c d : Int} (h1 : a = b) (h2 : c = d) : [V.int a, V.int c] = [V.int b, V.int d] := by rw [h1, h2]
theorem args1 {a b : Int} (h1 : a = b) : [V.int a] = [V.int b] := by rw [h1]
theorem args3 {a b c d e f : Int} (h1 : a = b) (h2 : c = d) (h3 : e = f) : [V.int a, V.int c, V.int e] = [V.int b, V.int d, V.int f] := by rw [h1, h2, h3]
end GF

namespace GF
open PySem L2 Evl
def topS (i : Nat) : Stmt := PySem.Challenge.pw_glassfall_k02_whole_fewest.main.body.getD i (.Pass ⟨0, 0, 0, 0⟩)
abbrev s_is_number : Stmt := topS 8
theorem sc_is_number : FnScope ["thing", "least", "most"] ["thing", "least", "most"] (defScope s_is_number) := ⟨rfl, rfl, rfl, by decide +kernel, rfl, by decide +kernel, by decide +kernel⟩
abbrev s_check_storeys : Stmt := topS 9
theorem sc_check_storeys : FnScope ["storeys"] ["storeys"] (defScope s_check_storeys) := ⟨rfl, rfl, rfl, by decide +kernel, rfl, by decide +kernel, by decide +kernel⟩
abbrev s_check_glasses : Stmt := topS 10
theorem sc_check_glasses : FnScope ["glasses"] ["glasses"] (defScope s_check_glasses) := ⟨rfl, rfl, rfl, by decide +kernel, rfl, by decide +kernel, by decide +kernel⟩
abbrev s_are_enough : Stmt := topS 11
theorem sc_are_enough : FnScope ["storeys", "glasses", "tries", "total", "ways", "picked"] ["storeys", "glasses", "tries"] (defScope s_are_enough) := ⟨rfl, rfl, rfl, by decide +kernel, rfl, by decide +kernel, by decide +kernel⟩
abbrev s_least_tries : Stmt := topS 12
theorem sc_least_tries : FnScope ["storeys", "glasses", "high", "low", "middle"] ["storeys", "glasses"] (defScope s_least_tries) := ⟨rfl, rfl, rfl, by decide +kernel, rfl, by decide +kernel, by decide +kernel⟩
abbrev s_check_found : Stmt := topS 13
theorem sc_check_found : FnScope ["storeys", "glasses"] ["storeys", "glasses"] (defScope s_check_found) := ⟨rfl, rfl, rfl, by decide +kernel, rfl, by decide +kernel, by decide +kernel⟩
abbrev s_fewest : Stmt := topS 14
theorem sc_fewest : FnScope ["storeys", "glasses"] ["storeys", "glasses"] (defScope s_fewest) := ⟨rfl, rfl, rfl, by decide +kernel, rfl, by decide +kernel, by decide +kernel⟩
abbrev s_glasses_for : Stmt := topS 15
theorem sc_glasses_for : FnScope ["storeys", "found"] ["storeys"] (defScope s_glasses_for) := ⟨rfl, rfl, rfl, by decide +kernel, rfl, by decide +kernel, by decide +kernel⟩
abbrev s_law_reach : Stmt := topS 17
theorem sc_law_reach : FnScope ["_law_tries", "_law_glasses", "_law_total", "_law_above", "_law_below", "_law_k"] ["_law_tries", "_law_glasses"] (defScope s_law_reach) := ⟨rfl, rfl, rfl, by decide +kernel, rfl, by decide +kernel, by decide +kernel⟩
abbrev s_law_states : Stmt := topS 18
theorem sc_law_states : FnScope ["_law_script", "_law_code", "_law_found", "_law_many", "_law_most", "_law_kinds", "_law_long", "_law_at", "_law_one", "_law_two", "_law_three", "_law_part", "_law_rest"] ["_law_script"] (defScope s_law_states) := ⟨rfl, rfl, rfl, by decide +kernel, rfl, by decide +kernel, by decide +kernel⟩
abbrev s_law_whole : Stmt := topS 19
theorem sc_law_whole : FnScope ["_law_found"] ["_law_found"] (defScope s_law_whole) := ⟨rfl, rfl, rfl, by decide +kernel, rfl, by decide +kernel, by decide +kernel⟩
abbrev s_law_near : Stmt := topS 20
theorem sc_law_near : FnScope ["_law_states_here", "_law_found", "_law_at", "_law_storeys", "_law_glasses", "_law_tries", "_law_most_found"] ["_law_states_here"] (defScope s_law_near) := ⟨rfl, rfl, rfl, by decide +kernel, rfl, by decide +kernel, by decide +kernel⟩
abbrev s_law_right : Stmt := topS 21
theorem sc_law_right : FnScope ["_law_storeys", "_law_glasses", "_law_tries"] ["_law_storeys", "_law_glasses"] (defScope s_law_right) := ⟨rfl, rfl, rfl, by decide +kernel, rfl, by decide +kernel, by decide +kernel⟩
abbrev s_law : Stmt := topS 22
theorem sc_law : FnScope ["_law_script", "_law_states_here", "_law_storeys", "_law_glasses", "_law_tries", "_law_many", "_law_bits"] ["_law_script"] (defScope s_law) := ⟨rfl, rfl, rfl, by decide +kernel, rfl, by decide +kernel, by decide +kernel⟩
/-- where the defs stand -/
structure Ad where
  a_is_number : Addr
  d_is_number : FuncData
  a_check_storeys : Addr
  d_check_storeys : FuncData
  a_check_glasses : Addr
  d_check_glasses : FuncData
  a_are_enough : Addr
  d_are_enough : FuncData
  a_least_tries : Addr
  d_least_tries : FuncData
  a_check_found : Addr
  d_check_found : FuncData
  a_fewest : Addr
  d_fewest : FuncData
  a_glasses_for : Addr
  d_glasses_for : FuncData
  a_law_reach : Addr
  d_law_reach : FuncData
  a_law_states : Addr
  d_law_states : FuncData
  a_law_whole : Addr
  d_law_whole : FuncData
  a_law_near : Addr
  d_law_near : FuncData
  a_law_right : Addr
  d_law_right : FuncData
  a_law : Addr
  d_law : FuncData
/-- what the top has written -/
structure Tx (K : PySem.W.Frag) (mg : Str → Option Value) (A : Ad) : Prop where
  f_is_number : Fun K "is_number" "is_number" s_is_number A.a_is_number A.d_is_number
  g_is_number : mg "is_number" = some (.ref A.a_is_number)
  b_is_number : Binds K A.d_is_number ["thing", "least", "most"] []
  f_check_storeys : Fun K "check_storeys" "check_storeys" s_check_storeys A.a_check_storeys A.d_check_storeys
  g_check_storeys : mg "check_storeys" = some (.ref A.a_check_storeys)
  b_check_storeys : Binds K A.d_check_storeys ["storeys"] []
  f_check_glasses : Fun K "check_glasses" "check_glasses" s_check_glasses A.a_check_glasses A.d_check_glasses
  g_check_glasses : mg "check_glasses" = some (.ref A.a_check_glasses)
  b_check_glasses : Binds K A.d_check_glasses ["glasses"] []
  f_are_enough : Fun K "are_enough" "are_enough" s_are_enough A.a_are_enough A.d_are_enough
  g_are_enough : mg "are_enough" = some (.ref A.a_are_enough)
  b_are_enough : Binds K A.d_are_enough ["storeys", "glasses", "tries"] []
  f_least_tries : Fun K "least_tries" "least_tries" s_least_tries A.a_least_tries A.d_least_tries
  g_least_tries : mg "least_tries" = some (.ref A.a_least_tries)
  b_least_tries : Binds K A.d_least_tries ["storeys", "glasses"] []
  f_check_found : Fun K "check_found" "check_found" s_check_found A.a_check_found A.d_check_found
  g_check_found : mg "check_found" = some (.ref A.a_check_found)
  b_check_found : Binds K A.d_check_found ["storeys", "glasses"] []
  f_fewest : Fun K "fewest" "fewest" s_fewest A.a_fewest A.d_fewest
  g_fewest : mg "fewest" = some (.ref A.a_fewest)
  b_fewest : Binds K A.d_fewest ["storeys", "glasses"] []
  f_glasses_for : Fun K "glasses_for" "glasses_for" s_glasses_for A.a_glasses_for A.d_glasses_for
  g_glasses_for : mg "glasses_for" = some (.ref A.a_glasses_for)
  b_glasses_for : Binds K A.d_glasses_for ["storeys"] []
  f_law_reach : Fun K "_law_reach" "_law_reach" s_law_reach A.a_law_reach A.d_law_reach
  g_law_reach : mg "_law_reach" = some (.ref A.a_law_reach)
  b_law_reach : Binds K A.d_law_reach ["_law_tries", "_law_glasses"] []
  f_law_states : Fun K "_law_states" "_law_states" s_law_states A.a_law_states A.d_law_states
  g_law_states : mg "_law_states" = some (.ref A.a_law_states)
  b_law_states : Binds K A.d_law_states ["_law_script"] []
  f_law_whole : Fun K "_law_whole" "_law_whole" s_law_whole A.a_law_whole A.d_law_whole
  g_law_whole : mg "_law_whole" = some (.ref A.a_law_whole)
  b_law_whole : Binds K A.d_law_whole ["_law_found"] []
  f_law_near : Fun K "_law_near" "_law_near" s_law_near A.a_law_near A.d_law_near
  g_law_near : mg "_law_near" = some (.ref A.a_law_near)
  b_law_near : Binds K A.d_law_near ["_law_states_here"] []
  f_law_right : Fun K "_law_right" "_law_right" s_law_right A.a_law_right A.d_law_right
  g_law_right : mg "_law_right" = some (.ref A.a_law_right)
  b_law_right : Binds K A.d_law_right ["_law_storeys", "_law_glasses"] []
  f_law : Fun K "law" "law" s_law A.a_law A.d_law
  g_law : mg "law" = some (.ref A.a_law)
  b_law : Binds K A.d_law ["_law_script"] []
  c_MOST_GLASSES : ∃ t, mg "MOST_GLASSES" = some (.int 300 t)
  c_MOST_STOREYS : ∃ t, mg "MOST_STOREYS" = some (.int 1000000000000000000000000000000000000000000000000000000000000 t)
  z_bool : mg "bool" = none
  z_enumerate : mg "enumerate" = none
  z_int : mg "int" = none
  z_isinstance : mg "isinstance" = none
  z_len : mg "len" = none
  z_max : mg "max" = none
  z_min : mg "min" = none
  z_range : mg "range" = none
  z_sum : mg "sum" = none

section
variable {P : Program} {w : World} {K : PySem.W.Frag} {mg : Str → Option Value} {base : Heap} {A : Ad}
def rNum (vs : List V) (v : V) : Prop := ∃ x lo hi : Int, vs = [.int x, .int lo, .int hi] ∧ v = .bl (decide (lo ≤ x) && decide (x ≤ hi))
theorem ok_is_number (T : Tx K mg A) : FnOk P w K mg base CX0 1 A.a_is_number A.d_is_number ["thing", "least", "most"] (spP rNum) := by
  refine T.f_is_number.ok sc_is_number (fun vs H Q E h => ?_) (fun cdv Ar outer s H vs Q E hr h => ?_)
  · obtain ⟨v, ⟨x, lo, hi, rfl, _⟩, _⟩ := h
    rfl
  · obtain ⟨v, ⟨x, lo, hi, rfl, rfl⟩, k⟩ := h
    refine ⟨_, (pss_one (ps_ret (pe_and (pe_callB call_isi (by rfl) T.z_isinstance (by decide +kernel) (pa_cons (pv 0) (pa_cons (pe_bltn (v := .ty "int") (by rfl) T.z_int (by decide +kernel) rfl) pa_nil))) (pe_and (pe_not (pe_callB call_isi (by rfl) T.z_isinstance (by decide +kernel) (pa_cons (pv 0) (pa_cons (pe_bltn (v := .ty "bool") (by rfl) T.z_bool (by decide +kernel) rfl) pa_nil)))) (pe_one (pe_chain op_le op_le (pv 1) (pv 0) (pv 2))))))), ?_⟩
    refine s_ret (ev_is (ev_andV (a := true) (ev_cb (ea_cons (ev_var rfl) (ea_cons ev_c ea_nil)) (rc_isi_int (by decide +kernel))) fun _ => ev_andV (a := true) (ev_is (ev_notV (ev_cb (ea_cons (ev_var rfl) (ea_cons ev_c ea_nil)) (rc_isi_int (b := false) (by decide +kernel)))) rfl) fun _ => ev_chain (ev_var rfl) (ev_var rfl) (ev_var rfl) rv_I0 fun _ => rv_I0) ?_) fun H1 e1 => k H1 e1
    rw [Bool.true_and, Bool.true_and]
/-- a check that lets its number pass -/
def rChk (most : Int) (vs : List V) (v : V) : Prop := ∃ x : Int, vs = [.int x] ∧ 0 ≤ x ∧ x ≤ most ∧ v = .non
theorem ok_check_storeys (T : Tx K mg A) : FnOk P w K mg base CX0 2 A.a_check_storeys A.d_check_storeys ["storeys"] (spP (rChk (10^60))) := by
  refine T.f_check_storeys.ok sc_check_storeys (fun vs H Q E h => ?_) (fun cdv Ar outer s H vs Q E hr h => ?_)
  · obtain ⟨v, ⟨x, rfl, _⟩, _⟩ := h
    rfl
  · obtain ⟨v, ⟨x, rfl, h0, h1, rfl⟩, k⟩ := h
    refine ⟨_, (pss_one (ps_if (pt_not (pt_val (pe_call (ok_is_number T) (hr.mono (by decide)) (by rfl) T.g_is_number T.f_is_number.kp T.b_is_number .nil pass0 (pa_cons (pv 0) (pa_cons pe_int (pa_cons (pe_glob (v := .int 1000000000000000000000000000000000000000000000000000000000000) (by rfl) T.c_MOST_STOREYS.choose_spec ⟨_, rfl⟩) pa_nil)))))) (pss_one ps_never) pss_nil)), ?_⟩
    refine s_when (et_not (et_B (ev_p (ea_cons (ev_var rfl) (ea_cons ev_c (ea_cons ev_c ea_nil))) ⟨x, 0, 10^60, rfl, rfl⟩))) (fun hb H1 e1 => ?_) (fun _ H1 e1 => k H1 e1)
    rw [decide_eq_true h0, decide_eq_true h1] at hb
    exact absurd hb (by decide)
theorem ok_check_glasses (T : Tx K mg A) : FnOk P w K mg base CX0 2 A.a_check_glasses A.d_check_glasses ["glasses"] (spP (rChk (300))) := by
  refine T.f_check_glasses.ok sc_check_glasses (fun vs H Q E h => ?_) (fun cdv Ar outer s H vs Q E hr h => ?_)
  · obtain ⟨v, ⟨x, rfl, _⟩, _⟩ := h
    rfl
  · obtain ⟨v, ⟨x, rfl, h0, h1, rfl⟩, k⟩ := h
    refine ⟨_, (pss_one (ps_if (pt_not (pt_val (pe_call (ok_is_number T) (hr.mono (by decide)) (by rfl) T.g_is_number T.f_is_number.kp T.b_is_number .nil pass0 (pa_cons (pv 0) (pa_cons pe_int (pa_cons (pe_glob (v := .int 300) (by rfl) T.c_MOST_GLASSES.choose_spec ⟨_, rfl⟩) pa_nil)))))) (pss_one ps_never) pss_nil)), ?_⟩
    refine s_when (et_not (et_B (ev_p (ea_cons (ev_var rfl) (ea_cons ev_c (ea_cons ev_c ea_nil))) ⟨x, 0, 300, rfl, rfl⟩))) (fun hb H1 e1 => ?_) (fun _ H1 e1 => k H1 e1)
    rw [decide_eq_true h0, decide_eq_true h1] at hb
    exact absurd hb (by decide)
def rReached (vs : List V) (v : V) : Prop := ∃ t g : Nat, vs = [.int (t : Int), .int (g : Int)] ∧ t < 2 ^ 256 ∧ g ≤ 400 ∧ v = .int ((R t g : Nat) : Int)
/-! ### are_enough -/
def rEnough (vs : List V) (v : V) : Prop := ∃ s g t : Nat, vs = [.int (s : Int), .int (g : Int), .int (t : Int)] ∧ t < 2 ^ 256 ∧ g ≤ 400 ∧ v = .bl (decide (s ≤ R t g))
theorem ok_are_enough (T : Tx K mg A) : FnOk P w K mg base CX0 1 A.a_are_enough A.d_are_enough ["storeys", "glasses", "tries"] (spP rEnough) := by
  refine T.f_are_enough.ok sc_are_enough (fun vs H Q E h => ?_) (fun cdv Ar outer s H vs Q E hr h => ?_)
  · obtain ⟨v, ⟨s, g, t, rfl, _⟩, _⟩ := h
    rfl
  · obtain ⟨v, ⟨st, g, t, rfl, ht, hg, rfl⟩, k⟩ := h
    refine ⟨_, (pss_cons (ps_set (i := 3) sc_are_enough.nd rfl (.inl rfl) pe_int)
      (pss_cons (ps_set (i := 4) sc_are_enough.nd rfl (.inl rfl) pe_int)
      (pss_cons (ps_for PassesOwn.never rfl (pi_range2 (by rfl) T.z_range (pa_cons pe_int (pa_cons (pe_op op_add (pe_callB (call_min2 rfl) (by rfl) T.z_min (by decide +kernel) (pa_cons (pv 2) (pa_cons (pv 1) pa_nil))) pe_int) pa_nil))) (pg_name (i := 5) sc_are_enough.nd rfl (.inl rfl))
        (pss_cons (ps_if (pt_cmpR op_ge (pv 3) (pv 0) (nomark _)) (pss_one (ps_ret pe_bl)) pss_nil)
      (pss_cons (ps_set (i := 4) sc_are_enough.nd rfl (.inl rfl) (pe_op op_fdivW (pe_op op_mulX (pv 4) (pe_op op_add (pe_op op_sub (pv 2) (pv 5)) pe_int)) (pv 5)))
      (pss_one (ps_aug (i := 3) sc_are_enough.nd rfl (.inl rfl) (pv 4) ip_add)))))
      (pss_one (ps_ret (pe_cmpR op_ge (pv 3) (pv 0) (nomark _))))))), ?_⟩
    refine q_asg ev_c fun H1 e1 => q_asg ev_c fun H2 e2 => ?_
    have hm : min t g ≤ 400 := Nat.le_trans (Nat.min_le_right t g) hg
    refine q_forR2 (lo := 1) (n := ((min t g : Nat) : Int) + 1) (ea_cons ev_c (ea_cons (ev_op (ev_is (ev_cb (ea_cons (ev_var rfl) (ea_cons (ev_var rfl) ea_nil)) rc_min2) (congrArg V.int (min_nat t g))) ev_c rv_I0) ea_nil)) ⟨by omega, by omega, by omega, by omega⟩
      (fun i σ' H' => ∃ y, σ' = [some (.int (st : Int)), some (.int (g : Int)), some (.int (t : Int)), some (.int ((R t i : Nat) : Int)), some (.int ((bin t i : Nat) : Int)), y] ∧ Ex H H') (fun H3 e3 => ⟨none, by rw [bin_zero]; rfl, (e1.trans e2).trans e3⟩) ?_ ?_
    · rintro i σ' H' hi ⟨y, rfl, e'⟩
      have hit : i < t := by have := Nat.min_le_left t g; omega
      have hig : i < g := by have := Nat.min_le_right t g; omega
      have hik : i ≤ 400 := by omega
      have e4 : (t : Int) - (1 + (i : Int)) + 1 = ((t - i : Nat) : Int) := by omega
      have e5 : (1 : Int) + (i : Int) = ((i + 1 : Nat) : Int) := by omega
      refine q_when (et_test (ev_op (ev_var rfl) (ev_var rfl) rv_I0)) (fun hb H3 e3 => ?_) (fun _ H3 e3 => ?_)
      · refine s_ret ev_c fun H4 e4 => ?_
        have h1 := of_decide_eq_true hb
        have h2 : R t i ≤ R t g := R_mono_g t (by omega)
        have h3 := k H4 ((e'.trans e3).trans e4)
        rw [decide_eq_true (show st ≤ R t g by omega)] at h3
        exact h3
      · refine q_asg (v := .int ((bin t (i + 1) : Nat) : Int)) (ev_is (ev_op (ev_op (ev_var rfl) (ev_op (ev_op (ev_var rfl) (ev_var rfl) rv_I0) ev_c rv_I0) (rv_I ?_)) (ev_var rfl) (rv_I ?_)) ?_) fun H4 e4 => ?_
        · rw [e4]
          exact mulx_ok (nat_bits (bin_bits ht hik)) (nat_bits (Nat.lt_of_le_of_lt (Nat.sub_le t i) ht)) (by decide)
        · rw [e5]
          exact wide_div (b := 30) (by omega) (by rw [Int.natAbs_natCast]; exact Nat.lt_of_le_of_lt (show i + 1 ≤ 401 by omega) (by decide)) (by decide) (by decide)
        · rw [e4, e5]
          refine congrArg V.int ?_
          rw [← Int.natCast_mul, ← Int.natCast_ediv, bin_div]
        · exact s_aug (f := fun i j => i + j) rfl (ev_var rfl) fun H5 e5 => ⟨some (.int (1 + (i : Int))), rfl, ((e'.trans e3).trans e4).trans e5⟩
    · rintro σ' H' ⟨y, rfl, e'⟩
      have en : (((min t g : Nat) : Int) + 1 - 1).toNat = min t g := by omega
      rw [en, R_min]
      refine s_ret (ev_is (ev_op (ev_var rfl) (ev_var rfl) rv_I0) ?_) fun H3 e3 => k H3 (e'.trans e3)
      refine congrArg V.bl (decide_eq_decide.mpr ?_)
      omega
/-! ### least_tries -/
def rLeast (vs : List V) (v : V) : Prop := ∃ s g : Nat, vs = [.int (s : Int), .int (g : Int)] ∧ s ≤ 10 ^ 60 ∧ g ≤ 400 ∧ (0 < g ∨ s = 0) ∧ v = .int ((fw s g : Nat) : Int)
theorem ok_least_tries (T : Tx K mg A) : FnOk P w K mg base CX0 2 A.a_least_tries A.d_least_tries ["storeys", "glasses"] (spP rLeast) := by
  refine T.f_least_tries.ok sc_least_tries (fun vs H Q E h => ?_) (fun cdv Ar outer s H vs Q E hr h => ?_)
  · obtain ⟨v, ⟨s, g, rfl, _⟩, _⟩ := h
    rfl
  · obtain ⟨v, ⟨st, g, rfl, hs, hg, hc, rfl⟩, k⟩ := h
    refine ⟨_, (pss_cons (ps_set (i := 2) sc_least_tries.nd rfl (.inl rfl) pe_int)
      (pss_cons (ps_while PassesOwn.never (pt_not (pt_val (pe_call (ok_are_enough T) (hr.mono (by decide)) (by rfl) T.g_are_enough T.f_are_enough.kp T.b_are_enough .nil pass0 (pa_cons (pv 0) (pa_cons (pv 1) (pa_cons (pv 2) pa_nil)))))) (pss_one (ps_aug (i := 2) sc_least_tries.nd rfl (.inl rfl) pe_int iop_mul)))
      (pss_cons (ps_set (i := 3) sc_least_tries.nd rfl (.inl rfl) pe_int)
      (pss_cons (ps_while PassesOwn.never (pt_cmpR op_lt (pv 3) (pv 2) (nomark _)) (pss_cons (ps_set (i := 4) sc_least_tries.nd rfl (.inl rfl) (pe_op op_fdivW (pe_op op_add (pv 3) (pv 2)) pe_int))
      (pss_one (ps_if (pt_val (pe_call (ok_are_enough T) (hr.mono (by decide)) (by rfl) T.g_are_enough T.f_are_enough.kp T.b_are_enough .nil pass0 (pa_cons (pv 0) (pa_cons (pv 1) (pa_cons (pv 4) pa_nil))))) (pss_one (ps_set (i := 2) sc_least_tries.nd rfl (.inl rfl) (pv 4))) (pss_one (ps_set (i := 3) sc_least_tries.nd rfl (.inl rfl) (pe_op op_add (pv 4) pe_int)))))))
      (pss_one (ps_ret (pv 3))))))), ?_⟩
    refine q_asg ev_c fun H1 e1 => ?_
    -- high, doubled until it is enough
    refine q_while (fun m σ' H' => ∃ h : Nat, σ' = [some (.int (st : Int)), some (.int (g : Int)), some (.int (h : Int)), none, none] ∧ 1 ≤ h ∧ h ≤ 2 * 10 ^ 60 ∧ m = st + 1 - h ∧ Ex H H') st ⟨1, rfl, Nat.le_refl _, by decide, by omega, e1⟩ ?_
    rintro m σ' H' ⟨h, rfl, h1, h2, rfl, e2⟩
    refine ⟨_, et_not (et_B (ev_p (ea_cons (ev_var rfl) (ea_cons (ev_var rfl) (ea_cons (ev_var rfl) ea_nil))) ⟨st, g, h, rfl, by omega, hg, rfl⟩)), fun hb H3 e3 => ?_, fun hb H3 e3 => ?_⟩
    · have hn : ¬ st ≤ R h g := fun z => by
        rw [decide_eq_true z] at hb
        cases hb
      have hg0 : 0 < g := by
        rcases hc with z | z
        · exact z
        · subst z
          exact absurd (Nat.zero_le _) hn
      have hh := R_ge h hg0
      refine ⟨fun σ2 H2 => ∃ h' : Nat, σ2 = [some (.int (st : Int)), some (.int (g : Int)), some (.int (h' : Int)), none, none] ∧ h' = h * 2 ∧ Ex H H2, ?_, ?_⟩
      · rintro σ2 H2 ⟨h', rfl, rfl, e4⟩
        exact ⟨st + 1 - h * 2, by omega, h * 2, rfl, by omega, by omega, rfl, e4⟩
      · refine s_augC (f := fun i j => i * j) rfl ev_c (.inr ⟨by decide, by decide⟩) fun H4 e4 => ⟨h * 2, ?_, rfl, (e2.trans e3).trans e4⟩
        rw [Int.natCast_mul]
        rfl
    · have hy : st ≤ R h g := by
        by_cases z : st ≤ R h g
        · exact z
        · rw [decide_eq_false z] at hb
          cases hb
      refine q_asg ev_c fun H4 e4 => ?_
      -- halving
      refine q_while (fun m σ' H' => ∃ (lo hi : Nat) (y : Option V), σ' = [some (.int (st : Int)), some (.int (g : Int)), some (.int (hi : Int)), some (.int (lo : Int)), y] ∧ lo ≤ hi ∧ hi ≤ 2 * 10 ^ 60 ∧ st ≤ R hi g ∧ (lo = 0 ∨ R (lo - 1) g < st) ∧ m = hi - lo ∧ Ex H H') h
        ⟨0, h, none, rfl, Nat.zero_le _, h2, hy, .inl rfl, rfl, (e2.trans e3).trans e4⟩ ?_
      rintro m σ' H' ⟨lo, hi, y, rfl, a1, a2, a3, a4, rfl, e5⟩
      refine ⟨_, et_test (ev_op (ev_var rfl) (ev_var rfl) rv_I0), fun hb H6 e6 => ?_, fun hb H6 e6 => ?_⟩
      · have hlt : lo < hi := by have := of_decide_eq_true hb; omega
        refine ⟨fun σ2 H2 => ∃ (lo' hi' : Nat) (y : Option V), σ2 = [some (.int (st : Int)), some (.int (g : Int)), some (.int (hi' : Int)), some (.int (lo' : Int)), y] ∧ lo' ≤ hi' ∧ hi' ≤ 2 * 10 ^ 60 ∧ st ≤ R hi' g ∧ (lo' = 0 ∨ R (lo' - 1) g < st) ∧ hi' - lo' < hi - lo ∧ Ex H H2, ?_, ?_⟩
        · rintro σ2 H2 ⟨lo', hi', y', rfl, b1, b2, b3, b4, b5, e7⟩
          exact ⟨hi' - lo', b5, lo', hi', y', rfl, b1, b2, b3, b4, rfl, e7⟩
        · refine q_asg (v := .int (((lo + hi) / 2 : Nat) : Int)) (ev_is (ev_op (ev_op (ev_var rfl) (ev_var rfl) rv_I0) ev_c (rv_I (wide_div (b := 30) (by decide) (by decide) (by decide) (by decide)))) (congrArg V.int (by omega))) fun H7 e7 => ?_
          refine s_if (et_B (ev_p (ea_cons (ev_var rfl) (ea_cons (ev_var rfl) (ea_cons (ev_var rfl) ea_nil))) ⟨st, g, (lo + hi) / 2, rfl, by omega, hg, rfl⟩)) (fun hb2 H8 e8 => ?_) (fun hb2 H8 e8 => ?_)
          · have q := of_decide_eq_true hb2
            exact s_asg (ev_var rfl) fun H9 e9 => ⟨lo, (lo + hi) / 2, _, rfl, by omega, by omega, q, a4, by omega, (((e5.trans e6).trans e7).trans e8).trans e9⟩
          · have q := of_decide_eq_false hb2
            refine s_asg (v := .int (((lo + hi) / 2 + 1 : Nat) : Int)) (ev_is (ev_op (ev_var rfl) ev_c rv_I0) (congrArg V.int (by omega))) fun H9 e9 => ⟨(lo + hi) / 2 + 1, hi, _, rfl, by omega, by omega, a3, .inr ?_, by omega, (((e5.trans e6).trans e7).trans e8).trans e9⟩
            rw [Nat.add_sub_cancel]
            omega
      · have hge : lo = hi := by have := of_decide_eq_false hb; omega
        subst hge
        refine s_ret (ev_var rfl) fun H7 e7 => ?_
        have q := k H7 ((e5.trans e6).trans e7)
        rw [fw_eq ⟨a3, a4⟩] at q
        exact q
/-! ### check_found, fewest, glasses_for -/
def rChkF (vs : List V) (v : V) : Prop := ∃ s g : Nat, vs = [.int (s : Int), .int (g : Int)] ∧ s ≤ 10 ^ 60 ∧ g ≤ 300 ∧ (0 < g ∨ s = 0) ∧ v = .non
theorem ok_check_found (T : Tx K mg A) : FnOk P w K mg base CX0 3 A.a_check_found A.d_check_found ["storeys", "glasses"] (spP rChkF) := by
  refine T.f_check_found.ok sc_check_found (fun vs H Q E h => ?_) (fun cdv Ar outer s H vs Q E hr h => ?_)
  · obtain ⟨v, ⟨s, g, rfl, _⟩, _⟩ := h
    rfl
  · obtain ⟨v, ⟨st, g, rfl, hs, hg, hc, rfl⟩, k⟩ := h
    refine ⟨_, (pss_cons (ps_expr (pe_call (ok_check_storeys T) (hr.mono (by decide)) (by rfl) T.g_check_storeys T.f_check_storeys.kp T.b_check_storeys .nil pass0 (pa_cons (pv 0) pa_nil)))
      (pss_cons (ps_expr (pe_call (ok_check_glasses T) (hr.mono (by decide)) (by rfl) T.g_check_glasses T.f_check_glasses.kp T.b_check_glasses .nil pass0 (pa_cons (pv 1) pa_nil)))
      (pss_one (ps_if (PW.pt (pw_and (pt_cmpR op_gt (pv 0) pe_int (nomark _)) (pw_and1 (pt_cmpR op_eq (pv 1) pe_int (nomark _))))) (pss_one ps_never) pss_nil)))), ?_⟩
    refine q_drop (ev_p (ea_cons (ev_var rfl) ea_nil) ⟨st, rfl, by omega, by omega, rfl⟩) fun H1 e1 => ?_
    refine q_drop (ev_p (ea_cons (ev_var rfl) ea_nil) ⟨g, rfl, by omega, by omega, rfl⟩) fun H2 e2 => ?_
    refine s_when (et_and (et_test (ev_op (ev_var rfl) ev_c rv_I0)) fun _ => et_test (ev_op (ev_var rfl) ev_c rv_eqI)) (fun hb H3 e3 => ?_) fun _ H3 e3 => k H3 ((e1.trans e2).trans e3)
    rw [Bool.and_eq_true] at hb
    have b1 := of_decide_eq_true hb.1
    have b2 := of_decide_eq_true hb.2
    omega
def rFewest (vs : List V) (v : V) : Prop := ∃ s g : Nat, vs = [.int (s : Int), .int (g : Int)] ∧ s ≤ 10 ^ 60 ∧ g ≤ 300 ∧ (0 < g ∨ s = 0) ∧ v = .int ((fw s g : Nat) : Int)
theorem ok_fewest (T : Tx K mg A) : FnOk P w K mg base CX0 4 A.a_fewest A.d_fewest ["storeys", "glasses"] (spP rFewest) := by
  refine T.f_fewest.ok sc_fewest (fun vs H Q E h => ?_) (fun cdv Ar outer s H vs Q E hr h => ?_)
  · obtain ⟨v, ⟨s, g, rfl, _⟩, _⟩ := h
    rfl
  · obtain ⟨v, ⟨st, g, rfl, hs, hg, hc, rfl⟩, k⟩ := h
    refine ⟨_, (pss_cons (ps_expr (pe_call (ok_check_found T) (hr.mono (by decide)) (by rfl) T.g_check_found T.f_check_found.kp T.b_check_found .nil pass0 (pa_cons (pv 0) (pa_cons (pv 1) pa_nil))))
      (pss_one (ps_ret (pe_call (ok_least_tries T) (hr.mono (by decide)) (by rfl) T.g_least_tries T.f_least_tries.kp T.b_least_tries .nil pass0 (pa_cons (pv 0) (pa_cons (pv 1) pa_nil)))))), ?_⟩
    refine q_drop (ev_p (ea_cons (ev_var rfl) (ea_cons (ev_var rfl) ea_nil)) ⟨st, g, rfl, hs, hg, hc, rfl⟩) fun H1 e1 => ?_
    exact s_ret (ev_p (ea_cons (ev_var rfl) (ea_cons (ev_var rfl) ea_nil)) ⟨st, g, rfl, hs, by omega, hc, rfl⟩) fun H2 e2 => k H2 (e1.trans e2)
def rGf (vs : List V) (v : V) : Prop := ∃ s f : Nat, vs = [.int (s : Int)] ∧ s ≤ 10 ^ 60 ∧ Gw s (bl s) f ∧ v = .int (f : Int)
theorem ev_bits {K : PySem.W.Frag} {σ : L2.St} {H : Hp} {te : TE} {s : Nat} (h : Ev te σ H (.int (s : Int))) : Ev (tBits te) σ H (.int ((bl s : Nat) : Int)) := fun H1 e Q q => h H1 e _ fun H2 e2 => ⟨(s : Int), rfl, q H2 e2⟩
theorem ok_glasses_for (T : Tx K mg A) : FnOk P w K mg base CX0 3 A.a_glasses_for A.d_glasses_for ["storeys"] (spP rGf) := by
  refine T.f_glasses_for.ok sc_glasses_for (fun vs H Q E h => ?_) (fun cdv Ar outer s H vs Q E hr h => ?_)
  · obtain ⟨v, ⟨s, f, rfl, _⟩, _⟩ := h
    rfl
  · obtain ⟨v, ⟨st, f, rfl, hs, hf, rfl⟩, k⟩ := h
    refine ⟨_, (pss_cons (ps_expr (pe_call (ok_check_storeys T) (hr.mono (by decide)) (by rfl) T.g_check_storeys T.f_check_storeys.kp T.b_check_storeys .nil pass0 (pa_cons (pv 0) pa_nil)))
      (pss_cons (ps_set (i := 1) sc_glasses_for.nd rfl (.inl rfl) pe_int)
      (pss_cons (ps_while PassesOwn.never (pt_not (pt_val (pe_call (ok_are_enough T) (hr.mono (by decide)) (by rfl) T.g_are_enough T.f_are_enough.kp T.b_are_enough .nil pass0 (pa_cons (pv 0) (pa_cons (pv 1) (pa_cons (pe_bits (pv 0)) pa_nil)))))) (pss_one (ps_aug (i := 1) sc_glasses_for.nd rfl (.inl rfl) pe_int ip_add)))
      (pss_one (ps_ret (pv 1)))))), ?_⟩
    have hb := bl_le hs
    refine q_drop (ev_p (ea_cons (ev_var rfl) ea_nil) ⟨st, rfl, by omega, by omega, rfl⟩) fun H1 e1 => ?_
    refine q_asg ev_c fun H2 e2 => ?_
    refine q_while (fun m σ' H' => ∃ x : Nat, σ' = [some (.int (st : Int)), some (.int (x : Int))] ∧ x ≤ bl st ∧ (x = 0 ∨ R (bl st) (x - 1) < st) ∧ m = bl st - x ∧ Ex H H') (bl st) ⟨0, rfl, Nat.zero_le _, .inl rfl, rfl, e1.trans e2⟩ ?_
    rintro m σ' H' ⟨x, rfl, x1, x2, rfl, e3⟩
    refine ⟨_, et_not (et_B (ev_p (ea_cons (ev_var rfl) (ea_cons (ev_var rfl) (ea_cons (ev_bits (K := K) (ev_var rfl)) ea_nil))) ⟨st, x, bl st, rfl, by omega, by omega, rfl⟩)), fun hb H4 e4 => ?_, fun hb H4 e4 => ?_⟩
    · have hn : ¬ st ≤ R (bl st) x := fun z => by
        rw [decide_eq_true z] at hb
        cases hb
      have hx : x < bl st := by
        by_cases z : x < bl st
        · exact z
        · exact absurd (bl_enough (by omega)) hn
      refine ⟨fun σ2 H2 => σ2 = [some (.int (st : Int)), some (.int ((x + 1 : Nat) : Int))] ∧ Ex H H2, ?_, ?_⟩
      · rintro σ2 H2 ⟨rfl, e5⟩
        exact ⟨bl st - (x + 1), by omega, x + 1, rfl, hx, .inr (by rw [Nat.add_sub_cancel]; omega), rfl, e5⟩
      · exact s_aug (f := fun i j => i + j) rfl ev_c fun H5 e5 => ⟨rfl, (e3.trans e4).trans e5⟩
    · have hy : st ≤ R (bl st) x := by
        by_cases z : st ≤ R (bl st) x
        · exact z
        · rw [decide_eq_false z] at hb
          cases hb
      refine s_ret (ev_var rfl) fun H5 e5 => ?_
      have q := k H5 ((e3.trans e4).trans e5)
      have e : f = x := hf.uniq ⟨hy, x2⟩
      rw [e] at q
      exact q
/-! ### _law_reach: numbers going down shared by such going up -/
theorem ok_law_reach (T : Tx K mg A) : FnOk P w K mg base CX0 1 A.a_law_reach A.d_law_reach ["_law_tries", "_law_glasses"] (spP rReached) := by
  refine T.f_law_reach.ok sc_law_reach (fun vs H Q E h => ?_) (fun cdv Ar outer s H vs Q E hr h => ?_)
  · obtain ⟨v, ⟨t, g, rfl, _⟩, _⟩ := h
    rfl
  · obtain ⟨v, ⟨t, g, rfl, ht, hg, rfl⟩, k⟩ := h
    refine ⟨_, (pss_cons (ps_asg (pe_tup (pa_cons pe_int (pa_cons pe_int (pa_cons pe_int pa_nil)))) (pg_tup rfl (pgs_cons (pg_name (i := 2) sc_law_reach.nd rfl (.inl rfl)) (pgs_cons (pg_name (i := 3) sc_law_reach.nd rfl (.inl rfl)) (pgs_cons (pg_name (i := 4) sc_law_reach.nd rfl (.inl rfl)) pgs_nil)))))
      (pss_cons (ps_for PassesOwn.never rfl (pi_range1 (by rfl) T.z_range (pa_cons (pe_callB (call_min2 rfl) (by rfl) T.z_min (by decide +kernel) (pa_cons (pv 0) (pa_cons (pv 1) pa_nil))) pa_nil)) (pg_name (i := 5) sc_law_reach.nd rfl (.inl rfl))
        (pss_cons (ps_par (i := 3) (j := 4) (by rfl) sc_law_reach.nd rfl rfl (by decide) rfl rfl (pa_cons (pe_op op_mulX (pv 3) (pe_op op_sub (pv 0) (pv 5))) (pa_cons (pe_op op_mulX (pv 4) (pe_op op_add (pv 5) pe_int)) pa_nil)) (by rfl))
      (pss_one (ps_set (i := 2) sc_law_reach.nd rfl (.inl rfl) (pe_op op_add (pv 2) (pe_op op_fdivW (pv 3) (pv 4)))))))
      (pss_one (ps_ret (pv 2))))), ?_⟩
    refine q_asg3 (eu_tup (ea_cons ev_c (ea_cons ev_c (ea_cons ev_c ea_nil))) (by decide)) fun H1 e1 => ?_
    have hm : min t g ≤ 400 := Nat.le_trans (Nat.min_le_right t g) hg
    refine q_forR1 (n := ((min t g : Nat) : Int)) (ea_cons (ev_is (ev_cb (ea_cons (ev_var rfl) (ea_cons (ev_var rfl) ea_nil)) rc_min2) (congrArg V.int (min_nat t g))) ea_nil) ⟨by omega, by omega⟩
      (fun i σ' H' => ∃ y, σ' = [some (.int (t : Int)), some (.int (g : Int)), some (.int ((R t i : Nat) : Int)), some (.int ((bin t i * fact i : Nat) : Int)), some (.int ((fact i : Nat) : Int)), y] ∧ Ex H H') (fun H3 e3 => ⟨none, by rw [bin_zero]; rfl, e1.trans e3⟩) ?_ ?_
    · rintro i σ' H' hi ⟨y, rfl, e'⟩
      have hit : i < t := by have := Nat.min_le_left t g; omega
      have hik : i + 1 ≤ 400 := by omega
      have e4 : (t : Int) - (i : Int) = ((t - i : Nat) : Int) := by omega
      have e5 : (i : Int) + 1 = ((i + 1 : Nat) : Int) := by omega
      refine q_par (u := .int ((bin t (i + 1) * fact (i + 1) : Nat) : Int)) (w := .int ((fact (i + 1) : Nat) : Int)) (ea_cons (ev_is (ev_op (ev_var rfl) (ev_op (ev_var rfl) (ev_var rfl) rv_I0) (rv_I ?_)) ?_) (ea_cons (ev_is (ev_op (ev_var rfl) (ev_op (ev_var rfl) ev_c rv_I0) (rv_I ?_)) ?_) ea_nil)) fun H3 e3 => ?_
      · rw [e4]
        exact mulx_ok (nat_bits (above_bits ht (by omega))) (nat_bits (Nat.lt_of_le_of_lt (Nat.sub_le t i) ht)) (by decide)
      · rw [e4, ← Int.natCast_mul, above_step]
      · rw [e5]
        exact mulx_ok (nat_bits (fact_bits (show i ≤ 400 by omega))) (nat_bits (b := 30) (Nat.lt_of_le_of_lt hik (by decide))) (by decide)
      · rw [e5, ← Int.natCast_mul]
        rfl
      · refine s_asg (v := .int ((R t (i + 1) : Nat) : Int)) (ev_is (ev_op (ev_var rfl) (ev_op (ev_var rfl) (ev_var rfl) (rv_I ?_)) rv_I0) ?_) fun H4 e4 => ⟨some (.int (i : Int)), rfl, (e'.trans e3).trans e4⟩
        · exact wide_div (b := BF) (by have := fact_pos (i + 1); omega) (nat_bits (fact_bits hik)) (by decide) (by decide)
        · rw [← Int.natCast_ediv, above_div, ← Int.natCast_add]
          rfl
    · rintro σ' H' ⟨y, rfl, e'⟩
      refine s_ret (ev_var rfl) fun H3 e3 => ?_
      rw [Int.toNat_natCast, R_min]
      exact k H3 (e'.trans e3)
def rWhole (vs : List V) (v : V) : Prop := ∃ x : Int, vs = [.int x] ∧ v = .bl true
theorem ok_law_whole (T : Tx K mg A) : FnOk P w K mg base CX0 1 A.a_law_whole A.d_law_whole ["_law_found"] (spP rWhole) := by
  refine T.f_law_whole.ok sc_law_whole (fun vs H Q E h => ?_) (fun cdv Ar outer s H vs Q E hr h => ?_)
  · obtain ⟨v, ⟨x, rfl, _⟩, _⟩ := h
    rfl
  · obtain ⟨v, ⟨x, rfl, rfl⟩, k⟩ := h
    refine ⟨_, (pss_one (ps_ret (pe_and (pe_callB call_isi (by rfl) T.z_isinstance (by decide +kernel) (pa_cons (pv 0) (pa_cons (pe_bltn (v := .ty "int") (by rfl) T.z_int (by decide +kernel) rfl) pa_nil))) (pe_one (pe_not (pe_callB call_isi (by rfl) T.z_isinstance (by decide +kernel) (pa_cons (pv 0) (pa_cons (pe_bltn (v := .ty "bool") (by rfl) T.z_bool (by decide +kernel) rfl) pa_nil)))))))), ?_⟩
    exact s_ret (ev_is (ev_andV (a := true) (ev_cb (ea_cons (ev_var rfl) (ea_cons ev_c ea_nil)) (rc_isi_int (by decide +kernel))) fun _ => ev_notV (ev_cb (ea_cons (ev_var rfl) (ea_cons ev_c ea_nil)) (rc_isi_int (b := false) (by decide +kernel)))) rfl) fun H1 e1 => k H1 e1
/-! ### _law_states: rows of storeys, glasses and tries -/
def okRow (r : Nat × Nat × Nat) : Prop := r.1 ≤ 10 ^ 60 ∧ r.2.1 ≤ 300 ∧ r.2.2 ≤ 10 ^ 40
def rowV (r : Nat × Nat × Nat) : List V := [.int (r.1 : Int), .int (r.2.1 : Int), .int (r.2.2 : Int)]
def GoodRows (n : Nat) (v : V) (H : Hp) : Prop := ∃ (p : Addr) (rows : List (Nat × Nat × Nat)), v = .ref p ∧ (∀ r ∈ rows, okRow r) ∧ rows.length ≤ n ∧ ListT H p (rows.map rowV)
def rStates (K : PySem.W.Frag) (H : Hp) (vs : List V) (Post : V → Hp → Prop) : Prop := ∃ (a : Addr) (ns : List Int), vs = [.ref a] ∧ SqL K H a (ns.map V.int) ∧ ns.length ≤ 63 ∧ (∀ z ∈ ns, Builtin.Int.intBits z ≤ 1048576) ∧ Post = GoodRows ns.length
/-- the menu of the greatest numbers -/
theorem menu_row (c : Int) : ∃ (n : Nat) (M L Z : Nat), c % 4 = (n : Int) ∧ ([[V.int 200, .int 7, .int 12], [.int (10 ^ (6 : Int).toNat), .int 20, .int 40], [.int (10 ^ (60 : Int).toNat), .int 40, .int 250], [.int (10 ^ (60 : Int).toNat), .int 9, .int (10 ^ (40 : Int).toNat)]] : List (List V))[n]? = some [.int (M : Int), .int (L : Int), .int (Z : Int)] ∧
    0 < M ∧ M ≤ 10 ^ 60 + 1 ∧ 0 < L ∧ L ≤ 301 ∧ 0 < Z ∧ Z ≤ 10 ^ 40 + 1 := by
  have h0 : 0 ≤ c % 4 := Int.emod_nonneg c (by decide)
  have h1 : c % 4 < 4 := Int.emod_lt_of_pos c (by decide)
  rcases (show c % 4 = 0 ∨ c % 4 = 1 ∨ c % 4 = 2 ∨ c % 4 = 3 by omega) with h | h | h | h
  · exact ⟨0, 200, 7, 12, h, rfl, by decide, by decide, by decide, by decide, by decide, by decide⟩
  · exact ⟨1, 10 ^ 6, 20, 40, h, rfl, by decide, by decide, by decide, by decide, by decide, by decide⟩
  · exact ⟨2, 10 ^ 60, 40, 250, h, rfl, by decide, by decide, by decide, by decide, by decide, by decide⟩
  · exact ⟨3, 10 ^ 60, 9, 10 ^ 40, h, rfl, by decide, by decide, by decide, by decide, by decide, by decide⟩
theorem menu_two (c : Int) : ∃ Z : Nat, atI [V.int 300, .int (10 ^ (40 : Int).toNat + 1)] (c % 2) = some (.int (Z : Int)) ∧ 0 < Z ∧ Z ≤ 10 ^ 40 + 1 := by
  have h0 : 0 ≤ c % 2 := Int.emod_nonneg c (by decide)
  have h1 : c % 2 < 2 := Int.emod_lt_of_pos c (by decide)
  rcases (show c % 2 = 0 ∨ c % 2 = 1 by omega) with h | h
  · exact ⟨300, by rw [h]; exact atI_nat (j := 0) rfl, by decide, by decide⟩
  · exact ⟨10 ^ 40 + 1, by rw [h]; exact atI_nat (j := 1) rfl, by decide, by decide⟩
theorem small_div {n : Nat} (h0 : 0 < n) (h : n ≤ 10 ^ 60 + 1) (i : Int) : CDivW i (n : Int) := wide_div (b := 201) (by omega) (nat_bits (Nat.lt_of_le_of_lt h (by decide))) (by decide) (by decide)
theorem mod_nat {n : Nat} (h0 : 0 < n) (i : Int) : ∃ m : Nat, i % (n : Int) = (m : Int) ∧ m < n := by
  have h1 : 0 ≤ i % (n : Int) := Int.emod_nonneg i (by omega)
  have h2 : i % (n : Int) < (n : Int) := Int.emod_lt_of_pos i (by omega)
  exact ⟨(i % (n : Int)).toNat, by omega, by omega⟩
theorem bits_lt {z : Int} {b : Nat} (h : Builtin.Int.intBits z ≤ b) : z.natAbs < 2 ^ b := by
  unfold Builtin.Int.intBits at h
  split at h
  · rename_i e
    have e' : z = 0 := by simpa using e
    subst e'
    exact Nat.pos_of_ne_zero (by simp)
  · exact Nat.lt_of_lt_of_le Nat.lt_log2_self (Nat.pow_le_pow_right (by decide) h)
def BS : Nat := 1048576
theorem part_bits {x y : Int} {i : Nat} (hx : x.natAbs < 2 ^ BS) (hy : y.natAbs < 2 ^ BS) (hi : i < 63) : (x * 48271 + y * 69621 + (i : Int) + 11).natAbs < 2 ^ (BS + 18) := by
  have e : 2 ^ (BS + 18) = 2 ^ BS * 262144 := by rw [Nat.pow_add]
  have h1 : 63 ≤ 2 ^ BS := by
    have : 2 ^ 6 ≤ 2 ^ BS := Nat.pow_le_pow_right (by decide) (by decide)
    omega
  rw [e]
  generalize 2 ^ BS = b at *
  omega
theorem ok_law_states (T : Tx K mg A) : FnOk P w K mg base CX0 1 A.a_law_states A.d_law_states ["_law_script"] (spN (rStates K)) := by
  refine T.f_law_states.ok sc_law_states (fun vs H Q E h => ?_) (fun cdv Ar outer s H vs Q E hr h => ?_)
  · obtain ⟨Post, ⟨a, ns, rfl, _⟩, _⟩ := h
    rfl
  · obtain ⟨Post, ⟨a, ns, rfl, hS, hlen, hbits, rfl⟩, k⟩ := h
    refine ⟨_, (pss_cons (ps_set (i := 0) sc_law_states.nd rfl (.inl rfl) (pe_slice sl_list (pv 0) po_none (po_some pe_int)))
      (pss_cons (ps_par3 (i := 1) (j := 2) (l := 3) (by rfl) sc_law_states.nd rfl rfl rfl (by decide) (by decide) (by decide) rfl rfl rfl (pa_cons (pe_callB (cr_sum rfl) (by rfl) T.z_sum (by decide +kernel) (pa_cons (pv 0) pa_nil)) (pa_cons (pe_lst pa_nil) (pa_cons (pe_callB call_len_seq (by rfl) T.z_len (by decide +kernel) (pa_cons (pv 0) pa_nil)) pa_nil))) (by rfl))
      (pss_cons (ps_asg (pe_ix ix_tup (pe_tup (pa_cons (pe_tup (pa_cons pe_int (pa_cons pe_int (pa_cons pe_int pa_nil)))) (pa_cons (pe_tup (pa_cons (pe_op op_pow pe_int pe_int) (pa_cons pe_int (pa_cons pe_int pa_nil)))) (pa_cons (pe_tup (pa_cons (pe_op op_pow pe_int pe_int) (pa_cons pe_int (pa_cons pe_int pa_nil)))) (pa_cons (pe_tup (pa_cons (pe_op op_pow pe_int pe_int) (pa_cons pe_int (pa_cons (pe_op op_pow pe_int pe_int) pa_nil)))) pa_nil))))) (pe_op op_mod (pv 1) pe_int) (fun _ _ => rfl)) (pg_tup rfl (pgs_cons (pg_name (i := 4) sc_law_states.nd rfl (.inl rfl)) (pgs_cons (pg_name (i := 5) sc_law_states.nd rfl (.inl rfl)) (pgs_cons (pg_name (i := 6) sc_law_states.nd rfl (.inl rfl)) pgs_nil)))))
      (pss_cons (ps_if (pt_cmpR op_eq (pe_op op_mod (pe_op op_fdivW (pv 1) pe_int) pe_int) pe_int (nomark _)) (pss_one (ps_par3 (i := 4) (j := 5) (l := 6) (by rfl) sc_law_states.nd rfl rfl rfl (by decide) (by decide) (by decide) rfl rfl rfl (pa_cons (pe_op op_add (pe_op op_pow pe_int pe_int) pe_int) (pa_cons pe_int (pa_cons (pe_ix ix_tup (pe_tup (pa_cons pe_int (pa_cons (pe_op op_add (pe_op op_pow pe_int pe_int) pe_int) pa_nil))) (pe_op op_mod (pv 1) pe_int) (fun _ _ => rfl)) pa_nil))) (by rfl))) pss_nil)
      (pss_cons (ps_for PassesOwn.never rfl (pi_range1 (by rfl) T.z_range (pa_cons (pe_ifExp (pt_cmpR op_eq (pv 5) pe_int (nomark _)) (pe_callB (call_min2 rfl) (by rfl) T.z_min (by decide +kernel) (pa_cons (pv 3) (pa_cons pe_int pa_nil))) (pv 3)) pa_nil)) (pg_name (i := 7) sc_law_states.nd rfl (.inl rfl))
        (pss_cons (ps_par (i := 8) (j := 9) (by rfl) sc_law_states.nd rfl rfl (by decide) rfl rfl (pa_cons (pe_ix ix_list (pv 0) (pv 7) (fun _ _ => rfl)) (pa_cons (pe_ix ix_list (pv 0) (pe_op op_mod (pe_op op_add (pv 7) pe_int) (pv 3)) (fun _ _ => rfl)) pa_nil)) (by rfl))
      (pss_cons (ps_set (i := 10) sc_law_states.nd rfl (.inl rfl) (pe_ix ix_list (pv 0) (pe_op op_mod (pe_op op_add (pv 7) pe_int) (pv 3)) (fun _ _ => rfl)))
      (pss_cons (ps_if (pt_cmpR op_eq (pe_op op_mod (pe_op op_fdivW (pv 1) pe_int) pe_int) pe_int (nomark _)) (pss_cons (ps_set (i := 11) sc_law_states.nd rfl (.inl rfl) (pe_op op_add (pe_op op_add (pe_op op_add (pe_op op_mulX (pv 8) pe_int) (pe_op op_mulX (pv 9) pe_int)) (pv 7)) pe_int))
      (pss_cons (ps_set (i := 8) sc_law_states.nd rfl (.inl rfl) (pe_op op_mulX (pe_op op_mulX (pv 11) (pv 11)) (pv 11)))
      (pss_cons (ps_set (i := 9) sc_law_states.nd rfl (.inl rfl) (pe_op op_add (pv 9) (pe_op op_mod (pe_op op_mulX (pv 11) (pv 11)) pe_int)))
      (pss_one (ps_set (i := 10) sc_law_states.nd rfl (.inl rfl) (pe_op op_add (pv 10) (pe_op op_mod (pe_op op_mulX (pv 11) (pv 11)) pe_int))))))) pss_nil)
      (pss_cons (ps_set (i := 12) sc_law_states.nd rfl (.inl rfl) (pe_op op_fdivW (pv 8) (pv 4)))
      (pss_one (ps_expr (pe_bm PySem.F.plainAttrs_list PySem.F.slot_list_append PySem.F.type_list_append mt_append (pv 2) (pa_cons (pe_tup (pa_cons (pe_op op_mod (pv 8) (pv 4)) (pa_cons (pe_op op_mod (pe_op op_add (pv 12) (pv 9)) (pv 5)) (pa_cons (pe_op op_mod (pe_op op_add (pe_op op_fdivW (pv 12) (pv 5)) (pv 10)) (pv 6)) pa_nil)))) pa_nil)))))))))
      (pss_one (ps_ret (pv 2)))))))), ?_⟩
    -- the first 63 cells
    refine q_asgL (el_sl (ev_var rfl) eo_none (eo_some ev_c) hS) fun c H1 hc e1 h1 => ?_
    rw [cut63, List.take_of_length_le hlen] at h1
    -- their sum, a new list, how many
    refine q_par3L (ev_cb (ea_cons (ev_var rfl) ea_nil) (rc_sum (sq_of h1))) (el_lst ea_nil (by decide)) (ev_cb (ea_cons (ev_var rfl) ea_nil) (rc_lenL (sq_of h1))) fun f H2 hf e2 h2 => ?_
    rw [List.length_map]
    have hcf : c ≠ f := ne_of_none h1 hf
    have hHf : H f = none := fresh_back e1 hf
    -- the menu, then the few cells with glasses to 300
    obtain ⟨n, M, L, Z, hn, hrow, m0, m1, l0, l1, z0, z1⟩ := menu_row ns.sum
    refine q_menu3 (eau_cons (eu_tup (ea_cons ev_c (ea_cons ev_c (ea_cons ev_c ea_nil))) (by decide)) (eau_cons (eu_tup (ea_cons (ev_op ev_c ev_c (rv_I (by show CPow _ _; exact ⟨by decide, by decide, by decide⟩))) (ea_cons ev_c (ea_cons ev_c ea_nil))) (by decide))
      (eau_cons (eu_tup (ea_cons (ev_op ev_c ev_c (rv_I (by show CPow _ _; exact ⟨by decide, by decide, by decide⟩))) (ea_cons ev_c (ea_cons ev_c ea_nil))) (by decide)) (eau_cons (eu_tup (ea_cons (ev_op ev_c ev_c (rv_I (by show CPow _ _; exact ⟨by decide, by decide, by decide⟩))) (ea_cons ev_c (ea_cons (ev_op ev_c ev_c (rv_I (by show CPow _ _; exact ⟨by decide, by decide, by decide⟩))) ea_nil))) (by decide)) eau_nil))))
      (ev_op (ev_var rfl) ev_c (rv_I (by show (0 : Int) < _; decide))) (by decide) hn hrow fun H3 e3 => ?_
    -- the loop, whatever the three numbers are
    refine q_rest (fun σ' H3 => ∃ (M L Z : Nat), σ' = [some (.ref c), some (.int ns.sum), some (.ref f), some (.int (ns.length : Int)), some (.int (M : Int)), some (.int (L : Int)), some (.int (Z : Int)), none, none, none, none, none, none] ∧ 0 < M ∧ M ≤ 10 ^ 60 + 1 ∧ 0 < L ∧ L ≤ 301 ∧ 0 < Z ∧ Z ≤ 10 ^ 40 + 1 ∧ Ex H2 H3) ?rest fun rest => ?main
    case rest =>
      clear e3 hrow hn m0 m1 l0 l1 z0 z1
      rintro _ H3 ⟨M, L, Z, rfl, m0, m1, l0, l1, z0, z1, e3⟩
      have hn : ∃ n : Nat, n ≤ ns.length ∧ (n : Int) = (if (L : Int) = 301 then (if (4 : Int) < (ns.length : Int) then 4 else (ns.length : Int)) else (ns.length : Int)) := by
        by_cases q1 : (L : Int) = 301
        · by_cases q2 : (4 : Int) < (ns.length : Int)
          · exact ⟨4, by omega, by rw [if_pos q1, if_pos q2]; rfl⟩
          · exact ⟨ns.length, by omega, by rw [if_pos q1, if_neg q2]⟩
        · exact ⟨ns.length, by omega, by rw [if_neg q1]⟩
      obtain ⟨n, hn1, hn2⟩ := hn
      refine q_forR1 (n := (n : Int)) (ea_cons (ev_if (et_test (ev_op (ev_var rfl) ev_c rv_eqI)) (fun hb => ev_is (ev_cb (ea_cons (ev_var rfl) (ea_cons ev_c ea_nil)) rc_min2) ?_) (fun hb => ev_is (ev_var rfl) ?_)) ea_nil) ⟨by omega, by omega⟩
        (fun i σ' H' => ∃ y0 y1 y2 y3 y4 y5, σ' = [some (.ref c), some (.int ns.sum), some (.ref f), some (.int (ns.length : Int)), some (.int (M : Int)), some (.int (L : Int)), some (.int (Z : Int)), y0, y1, y2, y3, y4, y5] ∧ Ex H H' ∧ H' c = some (.lst (ns.map V.int)) ∧
          ∃ (as : List Addr) (rows : List (Nat × Nat × Nat)), H' f = some (.lst (as.map V.ref)) ∧ TupsAt H' as (rows.map rowV) ∧ rows.length = i ∧ ∀ r ∈ rows, okRow r) (fun H4 e4 => ?_) ?_ ?_
      · rw [hn2, if_pos (of_decide_eq_true hb)]
      · rw [hn2, if_neg (of_decide_eq_false hb)]
      · exact ⟨none, none, none, none, none, none, rfl, ((e1.trans e2).trans e3).trans e4, e4 _ _ (e3 _ _ (e2 _ _ h1)), [], [], e4 _ _ (e3 _ _ h2), .nil, rfl, fun r hr => by cases hr⟩
      · rintro i σ' H' hi ⟨y0, y1, y2, y3, y4, y5, rfl, eH, hc', as, rows, hf', hT, hrl, hok⟩
        have hil : i < ns.length := by omega
        have hpos : 0 < ns.length := by omega
        have at1 : atI (ns.map V.int) (i : Int) = some (.int ns[i]) := atI_nat (by rw [List.getElem?_map, List.getElem?_eq_getElem hil]; rfl)
        have atm : ∀ j : Nat, ∃ z, z ∈ ns ∧ atI (ns.map V.int) (((i : Int) + (j : Int)) % (ns.length : Int)) = some (.int z) := fun j => by
          have hl : (i + j) % ns.length < ns.length := Nat.mod_lt _ hpos
          refine ⟨ns[(i + j) % ns.length], List.getElem_mem hl, ?_⟩
          rw [← Int.natCast_add, ← Int.natCast_emod]
          exact atI_nat (by rw [List.getElem?_map, List.getElem?_eq_getElem hl]; rfl)
        obtain ⟨b1, hb1, at2⟩ := atm 1
        obtain ⟨b2, hb2, at3⟩ := atm 2
        have hsq : SqL K H' c (ns.map V.int) := sq_of hc'
        refine q_par (ea_cons (ev_op (ev_var rfl) (ev_var rfl) (rv_ixL hsq at1)) (ea_cons (ev_op (ev_var rfl) (ev_op (ev_op (ev_var rfl) ev_c rv_I0) (ev_var rfl) (rv_I (by show (0 : Int) < _; omega))) (rv_ixL hsq at2)) ea_nil)) fun H4 e4 => ?_
        refine q_asg (ev_op (ev_var rfl) (ev_op (ev_op (ev_var rfl) ev_c rv_I0) (ev_var rfl) (rv_I (by show (0 : Int) < _; omega))) (rv_ixL (ex_l e4 hsq) at3)) fun H5 e5 => ?_
        have w0 : (ns[i]).natAbs < 2 ^ BS := bits_lt (hbits _ (List.getElem_mem hil))
        have w1 : b1.natAbs < 2 ^ BS := bits_lt (hbits _ hb1)
        have w2 : b2.natAbs < 2 ^ BS := bits_lt (hbits _ hb2)
        have e45 := e4.trans e5
        -- the row is laid, whatever the three cells are
        refine q_rest (fun σ' H6 => ∃ (o1 o2 o3 : Int) (yy : Option V), σ' = [some (.ref c), some (.int ns.sum), some (.ref f), some (.int (ns.length : Int)), some (.int (M : Int)), some (.int (L : Int)), some (.int (Z : Int)), some (.int (i : Int)), some (.int o1), some (.int o2), some (.int o3), yy, y5] ∧ Ex H' H6) ?lay fun lay => ?fork
        case lay =>
          rintro _ H6 ⟨o1, o2, o3, yy, rfl, e6⟩
          refine q_asg (ev_op (ev_var rfl) (ev_var rfl) (rv_I (small_div m0 m1 _))) fun H7 e7 => ?_
          have hf7 : H7 f = some (.lst (as.map V.ref)) := e7 _ _ (e6 _ _ hf')
          obtain ⟨s1, es1, ls1⟩ := mod_nat m0 o1
          obtain ⟨s2, es2, ls2⟩ := mod_nat l0 (o1 / (M : Int) + o2)
          obtain ⟨s3, es3, ls3⟩ := mod_nat z0 (o1 / (M : Int) / (L : Int) + o3)
          refine s_appU hf7 (ev_var rfl) (eu_tup (ea_cons (ev_op (ev_var rfl) (ev_var rfl) (rv_I (by show (0 : Int) < _; omega))) (ea_cons (ev_op (ev_op (ev_var rfl) (ev_var rfl) rv_I0) (ev_var rfl) (rv_I (by show (0 : Int) < _; omega)))
            (ea_cons (ev_op (ev_op (ev_op (ev_var rfl) (ev_var rfl) (rv_I (small_div l0 (Nat.le_trans l1 (by decide)) _))) (ev_var rfl) rv_I0) (ev_var rfl) (rv_I (by show (0 : Int) < _; omega))) ea_nil))) (by show 3 ≤ 100000; decide)) (by rw [List.length_map, hT.1, List.length_map]; omega) fun q H8 hq e8 h8 => ?_
          rw [es1, es2, es3] at h8
          have hf8 : H8 f = some (.lst (as.map V.ref)) := e8 _ _ hf7
          have hT8 : TupsAt H8 as (rows.map rowV) := hT.mono ((e6.trans e7).trans e8)
          refine ⟨_, _, _, _, _, _, rfl, Ex.mut (((eH.trans e6).trans e7).trans e8) hHf, ?_, as ++ [q], rows ++ [(s1, s2, s3)], ?_, ?_, ?_, ?_⟩
          · rw [upd_ne hcf]
            exact e8 _ _ (e7 _ _ (e6 _ _ hc'))
          · rw [upd_same, List.map_append]
            rfl
          · rw [List.map_append]
            exact (hT8.snoc h8).upd hf8
          · rw [List.length_append, hrl]
            rfl
          · intro r hr
            rcases List.mem_append.mp hr with z | z
            · exact hok r z
            · have er : r = (s1, s2, s3) := by simpa using z
              rw [er]
              exact ⟨by show s1 ≤ _; omega, by show s2 ≤ _; omega, by show s3 ≤ _; omega⟩
        refine q_when (et_test (ev_op (ev_op (ev_op (ev_var rfl) ev_c (rv_I (wide_div (b := 30) (by decide) (by decide) (by decide) (by decide)))) ev_c (rv_I (by show (0 : Int) < _; decide))) ev_c rv_eqI)) (fun _ H6 e6 => ?_) (fun _ H6 e6 => lay _ H6 ⟨_, _, _, _, rfl, e45.trans e6⟩)
        have hp := part_bits (x := ns[i]) (y := b1) (i := i) w0 w1 (by omega)
        have hm1 : ∀ z : Int, z.natAbs < 2 ^ BS → CMulX z 48271 := fun z hz => mulx_ok (b := 20) hz (by decide) (by decide)
        have hm2 : ∀ z : Int, z.natAbs < 2 ^ BS → CMulX z 69621 := fun z hz => mulx_ok (b := 20) hz (by decide) (by decide)
        have hpp := wide_lt hp hp
        refine q_asg (ev_op (ev_op (ev_op (ev_op (ev_var rfl) ev_c (rv_I (hm1 _ w0))) (ev_op (ev_var rfl) ev_c (rv_I (hm2 _ w1))) rv_I0) (ev_var rfl) rv_I0) ev_c rv_I0) fun H7 e7 => ?_
        refine q_asg (ev_op (ev_op (ev_var rfl) (ev_var rfl) (rv_I (mulx_ok hp hp (by decide)))) (ev_var rfl) (rv_I (mulx_ok hpp hp (by decide)))) fun H8 e8 => ?_
        refine q_asg (ev_op (ev_var rfl) (ev_op (ev_op (ev_var rfl) (ev_var rfl) (rv_I (mulx_ok hp hp (by decide)))) ev_c (rv_I (by show (0 : Int) < _; decide))) rv_I0) fun H9 e9 => ?_
        refine s_asg (ev_op (ev_var rfl) (ev_op (ev_op (ev_var rfl) (ev_var rfl) (rv_I (mulx_ok hp hp (by decide)))) ev_c (rv_I (by show (0 : Int) < _; decide))) rv_I0) fun H10 e10 => ?_
        exact lay _ H10 ⟨_, _, _, _, rfl, ((((e45.trans e6).trans e7).trans e8).trans e9).trans e10⟩
      · rintro σ' H' ⟨y0, y1, y2, y3, y4, y5, rfl, eH, hc', as, rows, hf', hT, hrl, hok⟩
        refine s_ret (ev_var rfl) fun H4 e4 => ?_
        rw [Int.toNat_natCast] at hrl
        exact k _ H4 (eH.trans e4) ⟨f, rows, rfl, hok, by omega, as, e4 _ _ hf', hT.mono e4⟩
    refine q_when (et_test (ev_op (ev_op (ev_op (ev_var rfl) ev_c (rv_I (wide_div (b := 30) (by decide) (by decide) (by decide) (by decide)))) ev_c (rv_I (by show (0 : Int) < _; decide))) ev_c rv_eqI)) (fun _ H4 e4 => ?_) (fun _ H4 e4 => rest _ H4 ⟨M, L, Z, rfl, m0, m1, l0, l1, z0, z1, e3.trans e4⟩)
    obtain ⟨Y, hY, y0, y1⟩ := menu_two ns.sum
    refine s_par3 (ea_cons (ev_op (ev_op ev_c ev_c (rv_I (by show CPow _ _; exact ⟨by decide, by decide, by decide⟩))) ev_c rv_I0) (ea_cons ev_c (ea_cons (ev_ixU (eu_tup (ea_cons ev_c (ea_cons (ev_op (ev_op ev_c ev_c (rv_I (by show CPow _ _; exact ⟨by decide, by decide, by decide⟩))) ev_c rv_I0) ea_nil)) (by decide)) (ev_op (ev_var rfl) ev_c (rv_I (by show (0 : Int) < _; decide))) hY) ea_nil))) fun H5 e5 => ?_
    exact rest _ H5 ⟨10 ^ 60 + 1, 301, Y, rfl, by decide, by decide, by decide, by decide, y0, y1, (e3.trans e4).trans e5⟩
def spLaw (K : PySem.W.Frag) : Sp := fun vs H Q _ => ∃ (a : Addr) (ns : List Int), vs = [.ref a] ∧ SqL K H a (ns.map V.int) ∧ ns.length ≤ 63 ∧ (∀ z ∈ ns, Builtin.Int.intBits z ≤ 1048576) ∧ ∀ H', Q (.bl true) H'
theorem row_at {rows : List (Nat × Nat × Nat)} {n : Nat} {row : List V} (h : (rows.map rowV)[n]? = some row) : ∃ r, r ∈ rows ∧ row = rowV r := by
  rw [List.getElem?_map] at h
  cases e : rows[n]? with
  | none =>
    rw [e] at h
    cases h
  | some r =>
    rw [e] at h
    exact ⟨r, List.mem_of_getElem? e, (Option.some.inj h).symm⟩
/-! ### _law_near -/
def rNear (H : Hp) (vs : List V) (Post : V → Hp → Prop) : Prop := ∃ (p : Addr) (rows : List (Nat × Nat × Nat)), vs = [.ref p] ∧ ListT H p (rows.map rowV) ∧ (∀ r ∈ rows, okRow r) ∧ rows.length ≤ 63 ∧ Post = GoodRows (2 * rows.length)
theorem near_min (x : Int) : ∃ m : Nat, (if (if x > 0 then x else 0) < (10 : Int) ^ (60 : Int).toNat then (if x > 0 then x else 0) else (10 : Int) ^ (60 : Int).toNat) = (m : Int) ∧ m ≤ 10 ^ 60 := by
  have e : (10 : Int) ^ (60 : Int).toNat = 10 ^ 60 := rfl
  rw [e]
  by_cases h : x > 0
  · rw [if_pos h]
    by_cases h2 : x < 10 ^ 60
    · rw [if_pos h2]
      exact ⟨x.toNat, by omega, by omega⟩
    · rw [if_neg h2]
      exact ⟨10 ^ 60, rfl, Nat.le_refl _⟩
  · rw [if_neg h, if_pos (by decide)]
    exact ⟨0, rfl, by decide⟩
theorem ok_law_near (T : Tx K mg A) : FnOk P w K mg base CX0 2 A.a_law_near A.d_law_near ["_law_states_here"] (spN rNear) := by
  refine T.f_law_near.ok sc_law_near (fun vs H Q E h => ?_) (fun cdv Ar outer s H vs Q E hr h => ?_)
  · obtain ⟨Post, ⟨p, rows, rfl, _⟩, _⟩ := h
    rfl
  · obtain ⟨Post, ⟨p, rows, rfl, hL, hok, hlen, rfl⟩, k⟩ := h
    refine ⟨_, (pss_cons (ps_set (i := 1) sc_law_near.nd rfl (.inl rfl) (pe_lst pa_nil))
      (pss_cons (ps_for PassesOwn.never rfl (pi_enum (by rfl) T.z_enumerate (pa_cons (pv 0) pa_nil)) (pg_tup rfl (pgs_cons (pg_name (i := 2) sc_law_near.nd rfl (.inl rfl)) (pgs_cons (pg_tup rfl (pgs_cons (pg_name (i := 3) sc_law_near.nd rfl (.inl rfl)) (pgs_cons (pg_name (i := 4) sc_law_near.nd rfl (.inl rfl)) (pgs_cons (pg_name (i := 5) sc_law_near.nd rfl (.inl rfl)) pgs_nil)))) pgs_nil)))
        (pss_cons (ps_set (i := 6) sc_law_near.nd rfl (.inl rfl) (pe_call (ok_law_reach T) (hr.mono (by decide)) (by rfl) T.g_law_reach T.f_law_reach.kp T.b_law_reach .nil pass0 (pa_cons (pv 5) (pa_cons (pv 4) pa_nil))))
      (pss_cons (ps_expr (pe_bm PySem.F.plainAttrs_list PySem.F.slot_list_append PySem.F.type_list_append mt_append (pv 1) (pa_cons (pe_tup (pa_cons (pv 3) (pa_cons (pv 4) (pa_cons (pv 5) pa_nil)))) pa_nil)))
      (pss_one (ps_expr (pe_bm PySem.F.plainAttrs_list PySem.F.slot_list_append PySem.F.type_list_append mt_append (pv 1) (pa_cons (pe_tup (pa_cons (pe_callB (call_min2 rfl) (by rfl) T.z_min (by decide +kernel) (pa_cons (pe_op op_pow pe_int pe_int) (pa_cons (pe_callB (call_max2 rfl) (by rfl) T.z_max (by decide +kernel) (pa_cons pe_int (pa_cons (pe_op op_sub (pe_op op_add (pv 6) (pe_op op_mod (pv 2) pe_int)) pe_int) pa_nil))) pa_nil))) (pa_cons (pv 4) (pa_cons (pv 5) pa_nil)))) pa_nil)))))))
      (pss_one (ps_ret (pv 1))))), ?_⟩
    refine q_asgL (el_lst ea_nil (by decide)) fun f H1 hf e1 h1 => ?_
    obtain ⟨as, hp, hT⟩ := hL.mono e1
    refine q_enumRows (en_of (ev_var rfl)) fun v H2 e2 hv => ?_
    obtain ⟨rfl, e2⟩ := hv
    have hpf : p ≠ f := by
      obtain ⟨as0, hp0, _⟩ := hL
      exact ne_of_none hp0 hf
    refine ⟨p, as, rows.map rowV, fun i σ' H' => ∃ y2 y3 y4 y5 y6, σ' = [some (.ref p), some (.ref f), y2, y3, y4, y5, y6] ∧ Ex H H' ∧ H' p = some (.lst (as.map V.ref)) ∧ TupsAt H' as (rows.map rowV) ∧
      ∃ (bs : List Addr) (out : List (Nat × Nat × Nat)), H' f = some (.lst (bs.map V.ref)) ∧ TupsAt H' bs (out.map rowV) ∧ out.length = 2 * i ∧ ∀ r ∈ out, okRow r, rfl, e2 _ _ hp, hT.mono e2,
      ⟨none, none, none, none, none, rfl, e1.trans e2, e2 _ _ hp, hT.mono e2, [], [], e2 _ _ h1, .nil, rfl, fun r hr => by cases hr⟩, ?_, ?_, ?_⟩
    · rintro i σ' H' ⟨y2, y3, y4, y5, y6, rfl, eH, q1, q2, _⟩
      exact ⟨q1, q2⟩
    · rintro n row σ' H' Tp T2 hrow ⟨y2, y3, y4, y5, y6, rfl, eH, q1, q2, bs, out, q3, q4, q5, q6⟩ hnew hT2
      obtain ⟨⟨sr, g, t⟩, hm, rfl⟩ := row_at hrow
      obtain ⟨hs, hg, ht⟩ := hok _ hm
      have hT2 : H' T2 = some (.tup [.int (sr : Int), .int (g : Int), .int (t : Int)]) := hT2
      have hs : sr ≤ 10 ^ 60 := hs
      have hg : g ≤ 300 := hg
      have ht : t ≤ 10 ^ 40 := ht
      have hn : n < rows.length := by
        have := (List.getElem?_eq_some_iff.mp hrow).1
        rw [List.length_map] at this
        exact this
      have eN : Ex H' (upd H' Tp (.tup [.int (n : Int), .ref T2])) := Ex.new hnew
      refine g_1_3 upd_same (eN _ _ hT2) ?_
      generalize upd H' Tp (.tup [.int (n : Int), .ref T2]) = H3 at eN
      refine q_asg (ev_p (ea_cons (ev_var rfl) (ea_cons (ev_var rfl) ea_nil)) ⟨t, g, rfl, by omega, by omega, rfl⟩) fun H4 e4 => ?_
      have e34 := eN.trans e4
      refine q_appU (e34 _ _ q3) (ev_var rfl) (eu_tup (ea_cons (ev_var rfl) (ea_cons (ev_var rfl) (ea_cons (ev_var rfl) ea_nil))) (by show 3 ≤ 100000; decide)) (by rw [List.length_map, q4.1, List.length_map]; omega) fun a1 H5 ha1 e5 h5 => ?_
      have e345 := e34.trans e5
      have f5 : H5 f = some (.lst (bs.map V.ref)) := e345 _ _ q3
      obtain ⟨m, hmin, hm60⟩ := near_min (((R t g : Nat) : Int) + (n : Int) % 3 - 1)
      refine s_appU (l := f) (xs := bs.map V.ref ++ [.ref a1]) upd_same (ev_var rfl) (eu_tup (ea_cons (ev_is (ev_cb (ea_cons (ev_op ev_c ev_c (rv_I (by show CPow _ _; exact ⟨by decide, by decide, by decide⟩))) (ea_cons (ev_cb (ea_cons ev_c (ea_cons (ev_op (ev_op (ev_var rfl) (ev_op (ev_var rfl) ev_c (rv_I (by show (0 : Int) < _; decide))) rv_I0) ev_c rv_I0) ea_nil)) rc_max2) ea_nil)) rc_min2) (congrArg V.int hmin)) (ea_cons (ev_var rfl) (ea_cons (ev_var rfl) ea_nil))) (by show 3 ≤ 100000; decide))
        (by rw [List.length_append, List.length_map, q4.1, List.length_map]; show out.length + 1 < 100000; omega) fun a2 H6 ha2 e6 h6 => ?_
      have hHf : H f = none := hf
      have exx : Ex H H6 := fun b o hb => by
        refine e6 _ _ ?_
        rw [upd_ne (ne_of_none hb hHf)]
        exact e345 _ _ (eH _ _ hb)
      have k1 : ∀ b r, H' b = some (.tup r) → H6 b = some (.tup r) := fun b r hb => e6 _ _ (tup_stays (e345 _ _ hb) f5)
      have f6 : H6 f = some (.lst (bs.map V.ref ++ [.ref a1])) := e6 _ _ upd_same
      refine ⟨_, _, _, _, _, rfl, Ex.mut exx hHf, ?_, ⟨q2.1, fun i a r i1 i2 => tup_stays (k1 _ _ (q2.2 i a r i1 i2)) f6⟩, bs ++ [a1] ++ [a2], out ++ [(sr, g, t)] ++ [(m, g, t)], ?_, ?_, ?_, ?_⟩
      · rw [upd_ne hpf]
        refine e6 _ _ ?_
        rw [upd_ne hpf]
        exact e345 _ _ q1
      · rw [upd_same, List.map_append, List.map_append]
        rfl
      · rw [List.map_append, List.map_append]
        have t6 : TupsAt H6 bs (out.map rowV) := ⟨q4.1, fun i a r i1 i2 => k1 _ _ (q4.2 i a r i1 i2)⟩
        have u1 : H6 a1 = some (.tup (rowV (sr, g, t))) := e6 _ _ (tup_stays h5 f5)
        exact ((t6.snoc u1).snoc h6).upd f6
      · rw [List.length_append, List.length_append, q5]
        show 2 * n + 1 + 1 = 2 * (n + 1)
        omega
      · intro r hr
        rcases List.mem_append.mp hr with z | z
        · rcases List.mem_append.mp z with z | z
          · exact q6 r z
          · have er : r = (sr, g, t) := by simpa using z
            rw [er]
            exact ⟨hs, hg, ht⟩
        · have er : r = (m, g, t) := by simpa using z
          rw [er]
          exact ⟨hm60, hg, ht⟩
    · rintro σ' H' ⟨y2, y3, y4, y5, y6, rfl, eH, q1, q2, bs, out, q3, q4, q5, q6⟩
      refine s_ret (ev_var rfl) fun H4 e4 => ?_
      rw [List.length_map] at q5
      exact k _ H4 (eH.trans e4) ⟨f, out, rfl, q6, by omega, bs, e4 _ _ q3, q4.mono e4⟩
/-! ### _law_right -/
def rRight (vs : List V) (v : V) : Prop := ∃ s g : Nat, vs = [.int (s : Int), .int (g : Int)] ∧ s ≤ 10 ^ 60 ∧ g ≤ 300 ∧ 0 < g ∧ v = .bl true
theorem ok_law_right (T : Tx K mg A) : FnOk P w K mg base CX0 5 A.a_law_right A.d_law_right ["_law_storeys", "_law_glasses"] (spP rRight) := by
  refine T.f_law_right.ok sc_law_right (fun vs H Q E h => ?_) (fun cdv Ar outer s H vs Q E hr h => ?_)
  · obtain ⟨v, ⟨s, g, rfl, _⟩, _⟩ := h
    rfl
  · obtain ⟨v, ⟨st, g, rfl, hs, hg, hg0, rfl⟩, k⟩ := h
    refine ⟨_, (pss_cons (ps_set (i := 2) sc_law_right.nd rfl (.inl rfl) (pe_call (ok_fewest T) (hr.mono (by decide)) (by rfl) T.g_fewest T.f_fewest.kp T.b_fewest .nil pass0 (pa_cons (pv 0) (pa_cons (pv 1) pa_nil))))
      (pss_cons (ps_if (PW.pt (pw_or (pt_not (pt_val (pe_call (ok_law_whole T) (hr.mono (by decide)) (by rfl) T.g_law_whole T.f_law_whole.kp T.b_law_whole .nil pass0 (pa_cons (pv 2) pa_nil)))) (pw_or (pt_cmpR op_lt (pv 2) pe_int (nomark _)) (pw_or1 (pt_cmpR op_lt (pe_call (ok_law_reach T) (hr.mono (by decide)) (by rfl) T.g_law_reach T.f_law_reach.kp T.b_law_reach .nil pass0 (pa_cons (pv 2) (pa_cons (pv 1) pa_nil))) (pv 0) (nomark _)))))) (pss_one (ps_ret pe_bl)) pss_nil)
      (pss_one (ps_ret (pe_or (pe_cmpR op_eq (pv 2) pe_int (nomark _)) (pe_one (pe_cmpR op_lt (pe_call (ok_law_reach T) (hr.mono (by decide)) (by rfl) T.g_law_reach T.f_law_reach.kp T.b_law_reach .nil pass0 (pa_cons (pe_op op_sub (pv 2) pe_int) (pa_cons (pv 1) pa_nil))) (pv 0) (nomark _)))))))), ?_⟩
    have hF := fw_spec (s := st) (.inl hg0)
    have hle := fw_le_self (s := st) (.inl hg0)
    refine q_asg (ev_p (ea_cons (ev_var rfl) (ea_cons (ev_var rfl) ea_nil)) ⟨st, g, rfl, hs, hg, .inl hg0, rfl⟩) fun H1 e1 => ?_
    refine q_when (et_or (et_not (et_B (ev_p (ea_cons (ev_var rfl) ea_nil) ⟨_, rfl, rfl⟩))) fun _ => et_or (et_test (ev_op (ev_var rfl) ev_c rv_I0)) fun _ => et_test (ev_op (ev_p (ea_cons (ev_var rfl) (ea_cons (ev_var rfl) ea_nil)) ⟨fw st g, g, rfl, by omega, by omega, rfl⟩) (ev_var rfl) rv_I0)) (fun hb => absurd hb ?_) fun _ H2 e2 => ?_
    · have h1 := hF.1
      rw [decide_eq_false (show ¬ ((fw st g : Nat) : Int) < 0 by omega), decide_eq_false (show ¬ ((R (fw st g) g : Nat) : Int) < (st : Int) by omega)]
      decide
    · refine s_ret (ev_is (ev_orV (ev_op (ev_var rfl) ev_c rv_eqI) fun c1 => ev_op (ev_p (ea_cons (ev_op (ev_var rfl) ev_c rv_I0) (ea_cons (ev_var rfl) ea_nil)) ⟨fw st g - 1, g, args2 (by have := of_decide_eq_false c1; omega) rfl, by omega, by omega, rfl⟩) (ev_var rfl) rv_I0) ?_) fun H3 e3 => k H3 ((e1.trans e2).trans e3)
      refine congrArg V.bl ?_
      rcases hF.2 with z | z
      · rw [decide_eq_true (show ((fw st g : Nat) : Int) = 0 by omega)]
        rfl
      · rw [decide_eq_true (show ((R (fw st g - 1) g : Nat) : Int) < (st : Int) by omega)]
        simp
theorem ok_law (T : Tx K mg A) : FnOk P w K mg base CX0 6 A.a_law A.d_law ["_law_script"] (spLaw K) := by
  refine T.f_law.ok sc_law (fun vs H Q E h => ?_) (fun cdv Ar outer s H vs Q E hr h => ?_)
  · obtain ⟨a, ns, rfl, _⟩ := h
    rfl
  · obtain ⟨a, ns, rfl, hS, hlen, hbits, k⟩ := h
    refine ⟨_, (pss_cons (ps_set (i := 1) sc_law.nd rfl (.inl rfl) (pe_call (ok_law_states T) (hr.mono (by decide)) (by rfl) T.g_law_states T.f_law_states.kp T.b_law_states .nil pass0 (pa_cons (pv 0) pa_nil)))
      (pss_cons (ps_for PassesOwn.never rfl (pi_list (pe_call (ok_law_near T) (hr.mono (by decide)) (by rfl) T.g_law_near T.f_law_near.kp T.b_law_near .nil pass0 (pa_cons (pv 1) pa_nil))) (pg_tup rfl (pgs_cons (pg_name (i := 2) sc_law.nd rfl (.inl rfl)) (pgs_cons (pg_name (i := 3) sc_law.nd rfl (.inl rfl)) (pgs_cons (pg_name (i := 4) sc_law.nd rfl (.inl rfl)) pgs_nil))))
        (pss_one (ps_if (PW.pt (pw_or (PW.pt (pw_and (pt_cmpR op_eq (pv 2) pe_int (nomark _)) (pw_and1 (pt_cmpR op_ne (pe_call (ok_fewest T) (hr.mono (by decide)) (by rfl) T.g_fewest T.f_fewest.kp T.b_fewest .nil pass0 (pa_cons pe_int (pa_cons (pv 3) pa_nil))) pe_int (nomark _))))) (pw_or1 (PW.pt (pw_and (pt_cmpR op_gt (pv 3) pe_int (nomark _)) (pw_and1 (pt_not (pt_val (pe_call (ok_law_right T) (hr.mono (by decide)) (by rfl) T.g_law_right T.f_law_right.kp T.b_law_right .nil pass0 (pa_cons (pv 2) (pa_cons (pv 3) pa_nil))))))))))) (pss_one (ps_ret pe_bl)) pss_nil)))
      (pss_cons (ps_for PassesOwn.never rfl (pi_list (pe_call (ok_law_near T) (hr.mono (by decide)) (by rfl) T.g_law_near T.f_law_near.kp T.b_law_near .nil pass0 (pa_cons (pe_slice sl_list (pv 1) po_none (po_some pe_int)) pa_nil))) (pg_tup rfl (pgs_cons (pg_name (i := 2) sc_law.nd rfl (.inl rfl)) (pgs_cons (pg_name (i := 3) sc_law.nd rfl (.inl rfl)) (pgs_cons (pg_name (i := 4) sc_law.nd rfl (.inl rfl)) pgs_nil))))
        (pss_cons (ps_set (i := 5) sc_law.nd rfl (.inl rfl) (pe_call (ok_glasses_for T) (hr.mono (by decide)) (by rfl) T.g_glasses_for T.f_glasses_for.kp T.b_glasses_for .nil pass0 (pa_cons (pv 2) pa_nil)))
      (pss_cons (ps_set (i := 6) sc_law.nd rfl (.inl rfl) (pe_bits (pv 2)))
      (pss_cons (ps_if (PW.pt (pw_or (pt_not (pt_val (pe_call (ok_law_whole T) (hr.mono (by decide)) (by rfl) T.g_law_whole T.f_law_whole.kp T.b_law_whole .nil pass0 (pa_cons (pv 5) pa_nil)))) (pw_or (pt_not (pt_chain op_le op_le pe_int (pv 5) (pv 6))) (pw_or1 (pt_cmpR op_lt (pe_call (ok_law_reach T) (hr.mono (by decide)) (by rfl) T.g_law_reach T.f_law_reach.kp T.b_law_reach .nil pass0 (pa_cons (pv 6) (pa_cons (pv 5) pa_nil))) (pv 2) (nomark _)))))) (pss_one (ps_ret pe_bl)) pss_nil)
      (pss_one (ps_if (PW.pt (pw_or (PW.pt (pw_and (pt_cmpR op_gt (pv 5) pe_int (nomark _)) (pw_and1 (pt_cmpR op_ge (pe_call (ok_law_reach T) (hr.mono (by decide)) (by rfl) T.g_law_reach T.f_law_reach.kp T.b_law_reach .nil pass0 (pa_cons (pv 6) (pa_cons (pe_op op_sub (pv 5) pe_int) pa_nil))) (pv 2) (nomark _))))) (pw_or1 (PW.pt (pw_and (pt_cmpR op_gt (pv 5) pe_int (nomark _)) (pw_and1 (pt_cmpR op_ne (pe_call (ok_fewest T) (hr.mono (by decide)) (by rfl) T.g_fewest T.f_fewest.kp T.b_fewest .nil pass0 (pa_cons (pv 2) (pa_cons (pv 5) pa_nil))) (pv 6) (nomark _)))))))) (pss_one (ps_ret pe_bl)) pss_nil))))))
      (pss_one (ps_ret (pe_and (pe_cmpR op_eq (pe_call (ok_fewest T) (hr.mono (by decide)) (by rfl) T.g_fewest T.f_fewest.kp T.b_fewest .nil pass0 (pa_cons pe_int (pa_cons pe_int pa_nil))) pe_int (nomark _)) (pe_and (pe_cmpR op_eq (pe_call (ok_fewest T) (hr.mono (by decide)) (by rfl) T.g_fewest T.f_fewest.kp T.b_fewest .nil pass0 (pa_cons pe_int (pa_cons pe_int pa_nil))) pe_int (nomark _)) (pe_and (pe_cmpR op_eq (pe_call (ok_glasses_for T) (hr.mono (by decide)) (by rfl) T.g_glasses_for T.f_glasses_for.kp T.b_glasses_for .nil pass0 (pa_cons pe_int pa_nil)) pe_int (nomark _)) (pe_one (pe_cmpR op_eq (pe_call (ok_glasses_for T) (hr.mono (by decide)) (by rfl) T.g_glasses_for T.f_glasses_for.kp T.b_glasses_for .nil pass0 (pa_cons pe_int pa_nil)) pe_int (nomark _))))))))))), ?_⟩
    refine q_asgN (en_call (ea_cons (ev_var rfl) ea_nil) fun H1 e1 => ⟨a, ns, rfl, ex_l e1 hS, hlen, hbits, rfl⟩) fun v H1 e1 hp => ?_
    obtain ⟨p, rows, rfl, hok, hl2, hL⟩ := hp
    -- fewest
    refine q_forRows (en_call (ea_cons (ev_var rfl) ea_nil) fun H2 e2 => ⟨p, rows, rfl, hL.mono e2, hok, by omega, rfl⟩) (fun _ σ' => ∃ y1 y2 y3 y4 y5, σ' = [some (.ref a), some (.ref p), y1, y2, y3, y4, y5]) ⟨_, _, _, _, _, rfl⟩ fun v H2 e2 hp => ?_
    obtain ⟨p2, rows2, rfl, hok2, hl3, hL2⟩ := hp
    refine ⟨p2, rows2.map rowV, rfl, hL2, ?_, ?_⟩
    · rintro n row σ' H' T' hrow ⟨y1, y2, y3, y4, y5, rfl⟩ e3 hT
      obtain ⟨⟨sr, g, t⟩, hm, rfl⟩ := row_at hrow
      obtain ⟨hs, hg, ht⟩ := hok2 _ hm
      have hT : H' T' = some (.tup [.int (sr : Int), .int (g : Int), .int (t : Int)]) := hT
      have hs : sr ≤ 10 ^ 60 := hs
      have hg : g ≤ 300 := hg
      have ht : t ≤ 10 ^ 40 := ht
      refine g_3 hT ?_
      refine s_when (et_or (et_and (et_test (ev_op (ev_var rfl) ev_c rv_eqI)) fun _ => et_test (ev_op (ev_p (ea_cons ev_c (ea_cons (ev_var rfl) ea_nil)) ⟨0, g, rfl, by decide, hg, .inr rfl, rfl⟩) ev_c rv_neI))
        fun _ => et_and (et_test (ev_op (ev_var rfl) ev_c rv_I0)) fun c1 => et_not (et_B (ev_p (ea_cons (ev_var rfl) (ea_cons (ev_var rfl) ea_nil)) ⟨sr, g, rfl, hs, hg, by have := of_decide_eq_true c1; omega, rfl⟩))) (fun hb => absurd hb ?_) fun _ H4 e4 => ⟨⟨_, _, _, _, _, rfl⟩, e3.trans e4⟩
      rw [fw_zero]
      simp
    · rintro σ' H' ⟨y1, y2, y3, y4, y5, rfl⟩ e3
      -- glasses_for
      obtain ⟨as, hp, hT⟩ := hL.mono (e2.trans e3)
      refine q_forRows (Post := GoodRows (2 * (rows.take 2).length)) (en_callL (el_sl (ev_var rfl) eo_none (eo_some ev_c) (sq_of (K := K) hp)) fun p3 H4 e4 h4 => ?_) (fun _ σ' => ∃ y1 y2 y3 y4 y5, σ' = [some (.ref a), some (.ref p), y1, y2, y3, y4, y5]) ⟨_, _, _, _, _, rfl⟩ fun v H4 e4 hp4 => ?_
      · refine ⟨p3, rows.take 2, rfl, ⟨as.take 2, ?_, ?_⟩, fun r hr => hok r (List.mem_of_mem_take hr), by rw [List.length_take]; omega, rfl⟩
        · rw [h4, show cutV (as.map V.ref) none (some 2) = (as.map V.ref).take 2 from cutTake (as.map V.ref) 2, List.map_take]
        · rw [List.map_take]
          exact (hT.mono e4).take 2
      obtain ⟨p4, rows4, rfl, hok4, hl4, hL4⟩ := hp4
      refine ⟨p4, rows4.map rowV, rfl, hL4, ?_, ?_⟩
      · rintro n row σ' H' T' hrow ⟨y1, y2, y3, y4, y5, rfl⟩ e5 hT
        obtain ⟨⟨sr, g, t⟩, hm, rfl⟩ := row_at hrow
        obtain ⟨hs, hg, ht⟩ := hok4 _ hm
        have hT : H' T' = some (.tup [.int (sr : Int), .int (g : Int), .int (t : Int)]) := hT
        have hs : sr ≤ 10 ^ 60 := hs
        obtain ⟨f, hf, hfb⟩ := Gw.exists sr
        have hb := bl_le hs
        refine g_3 hT ?_
        refine q_asg (ev_p (ea_cons (ev_var rfl) ea_nil) ⟨sr, f, rfl, hs, hf, rfl⟩) fun H6 e6 => ?_
        refine q_asg (ev_bits (K := K) (ev_var rfl)) fun H7 e7 => ?_
        refine q_when (et_or (et_not (et_B (ev_p (ea_cons (ev_var rfl) ea_nil) ⟨_, rfl, rfl⟩))) fun _ => et_or (et_not (et_test (ev_chain ev_c (ev_var rfl) (ev_var rfl) rv_I0 fun _ => rv_I0))) fun _ => et_test (ev_op (ev_p (ea_cons (ev_var rfl) (ea_cons (ev_var rfl) ea_nil)) ⟨bl sr, f, rfl, by omega, by omega, rfl⟩) (ev_var rfl) rv_I0)) (fun hb => absurd hb ?_) fun _ H8 e8 => ?_
        · have h1 := hf.1
          rw [decide_eq_true (show (0 : Int) ≤ (f : Int) by omega), decide_eq_true (show (f : Int) ≤ ((bl sr : Nat) : Int) by omega), decide_eq_false (show ¬ ((R (bl sr) f : Nat) : Int) < (sr : Int) by omega)]
          decide
        · refine s_when (et_or (et_and (et_test (ev_op (ev_var rfl) ev_c rv_I0)) fun c1 => et_test (ev_op (ev_p (ea_cons (ev_var rfl) (ea_cons (ev_op (ev_var rfl) ev_c rv_I0) ea_nil)) ⟨bl sr, f - 1, args2 rfl (by have := of_decide_eq_true c1; omega), by omega, by omega, rfl⟩) (ev_var rfl) rv_I0))
            fun _ => et_and (et_test (ev_op (ev_var rfl) ev_c rv_I0)) fun c1 => et_test (ev_op (ev_p (ea_cons (ev_var rfl) (ea_cons (ev_var rfl) ea_nil)) ⟨sr, f, rfl, hs, by omega, by have := of_decide_eq_true c1; omega, rfl⟩) (ev_var rfl) rv_neI)) (fun hb => absurd hb ?_) fun _ H9 e9 => ⟨⟨_, _, _, _, _, rfl⟩, (((e5.trans e6).trans e7).trans e8).trans e9⟩
          by_cases z : 0 < f
          · have h1 : R (bl sr) (f - 1) < sr := by
              rcases hf.2 with q | q
              · omega
              · exact q
            have h2 := fw_bits hf z
            rw [h2, decide_eq_true (rfl : ((bl sr : Nat) : Int) = ((bl sr : Nat) : Int)), decide_eq_false (show ¬ (sr : Int) ≤ ((R (bl sr) (f - 1) : Nat) : Int) by omega)]
            simp
          · rw [decide_eq_false (show ¬ (0 : Int) < (f : Int) by omega)]
            simp
      · rintro σ' H' ⟨y1, y2, y3, y4, y5, rfl⟩ e5
        refine s_ret (ev_is (ev_andV (ev_op (ev_p (ea_cons ev_c (ea_cons ev_c ea_nil)) ⟨100, 2, rfl, by decide, by decide, .inl (by decide), rfl⟩) ev_c rv_eqI) fun _ => ev_andV (ev_op (ev_p (ea_cons ev_c (ea_cons ev_c ea_nil)) ⟨0, 0, rfl, by decide, by decide, .inr rfl, rfl⟩) ev_c rv_eqI) fun _ =>
          ev_andV (ev_op (ev_p (ea_cons ev_c ea_nil) ⟨0, 0, rfl, by decide, ⟨Nat.zero_le _, .inl rfl⟩, rfl⟩) ev_c rv_eqI) fun _ => ev_op (ev_p (ea_cons ev_c ea_nil) ⟨7, 3, rfl, by decide, ⟨by decide, .inr (by decide)⟩, rfl⟩) ev_c rv_eqI) ?_) fun H6 e6 => k H6
        rw [fw_zero, fw_eq (s := 100) (g := 2) (t := 14) ⟨by decide, .inr (by decide)⟩]
        rfl
end
theorem all_mk {l : PySem.W.OpenLaw} {w : World} {K : PySem.W.Frag} {h : Heap} {mg : Str → Option Value} {fa : Addr} (X : K.In h) (G : h.Ns mainGlobals mg) (hfa : mg "law" = some (.ref fa))
    {f0 : Addr} {od0 an0 : Option Addr} {sl0 : Array (Option Value)} {oc0 kV0 dc0 pm0 cd0 ct0 : Value}
    {f1 : Addr} {od1 an1 : Option Addr} {sl1 : Array (Option Value)} {oc1 kV1 dc1 pm1 cd1 ct1 : Value}
    {f2 : Addr} {od2 an2 : Option Addr} {sl2 : Array (Option Value)} {oc2 kV2 dc2 pm2 cd2 ct2 : Value}
    {f3 : Addr} {od3 an3 : Option Addr} {sl3 : Array (Option Value)} {oc3 kV3 dc3 pm3 cd3 ct3 : Value}
    {f4 : Addr} {od4 an4 : Option Addr} {sl4 : Array (Option Value)} {oc4 kV4 dc4 pm4 cd4 ct4 : Value}
    {f5 : Addr} {od5 an5 : Option Addr} {sl5 : Array (Option Value)} {oc5 kV5 dc5 pm5 cd5 ct5 : Value}
    {f6 : Addr} {od6 an6 : Option Addr} {sl6 : Array (Option Value)} {oc6 kV6 dc6 pm6 cd6 ct6 : Value}
    {f7 : Addr} {od7 an7 : Option Addr} {sl7 : Array (Option Value)} {oc7 kV7 dc7 pm7 cd7 ct7 : Value}
    {f8 : Addr} {od8 an8 : Option Addr} {sl8 : Array (Option Value)} {oc8 kV8 dc8 pm8 cd8 ct8 : Value}
    {f9 : Addr} {od9 an9 : Option Addr} {sl9 : Array (Option Value)} {oc9 kV9 dc9 pm9 cd9 ct9 : Value}
    {f10 : Addr} {od10 an10 : Option Addr} {sl10 : Array (Option Value)} {oc10 kV10 dc10 pm10 cd10 ct10 : Value}
    {f11 : Addr} {od11 an11 : Option Addr} {sl11 : Array (Option Value)} {oc11 kV11 dc11 pm11 cd11 ct11 : Value}
    {f12 : Addr} {od12 an12 : Option Addr} {sl12 : Array (Option Value)} {oc12 kV12 dc12 pm12 cd12 ct12 : Value}
    {f13 : Addr} {od13 an13 : Option Addr} {sl13 : Array (Option Value)} {oc13 kV13 dc13 pm13 cd13 ct13 : Value}
    {t_MOST_GLASSES : Tok}
    {t_MOST_STOREYS : Tok}
    (a0 : PySem.W.nsIn K mainGlobals "is_number" = some (some (.ref f0)))
    (l0 : K.lookup f0 = some ⟨oc0, od0, .func (PySem.W.fnOf "is_number" "is_number" (defArgs s_is_number) (defBody s_is_number) (defScope s_is_number) .none kV0 dc0 pm0 an0 cd0 ct0), sl0⟩) (c0 : PySem.W.codeIn K cd0 "is_number" = true) (k0 : PySem.W.keepIn K (.ref f0) = true)
    (a1 : PySem.W.nsIn K mainGlobals "check_storeys" = some (some (.ref f1)))
    (l1 : K.lookup f1 = some ⟨oc1, od1, .func (PySem.W.fnOf "check_storeys" "check_storeys" (defArgs s_check_storeys) (defBody s_check_storeys) (defScope s_check_storeys) .none kV1 dc1 pm1 an1 cd1 ct1), sl1⟩) (c1 : PySem.W.codeIn K cd1 "check_storeys" = true) (k1 : PySem.W.keepIn K (.ref f1) = true)
    (a2 : PySem.W.nsIn K mainGlobals "check_glasses" = some (some (.ref f2)))
    (l2 : K.lookup f2 = some ⟨oc2, od2, .func (PySem.W.fnOf "check_glasses" "check_glasses" (defArgs s_check_glasses) (defBody s_check_glasses) (defScope s_check_glasses) .none kV2 dc2 pm2 an2 cd2 ct2), sl2⟩) (c2 : PySem.W.codeIn K cd2 "check_glasses" = true) (k2 : PySem.W.keepIn K (.ref f2) = true)
    (a3 : PySem.W.nsIn K mainGlobals "are_enough" = some (some (.ref f3)))
    (l3 : K.lookup f3 = some ⟨oc3, od3, .func (PySem.W.fnOf "are_enough" "are_enough" (defArgs s_are_enough) (defBody s_are_enough) (defScope s_are_enough) .none kV3 dc3 pm3 an3 cd3 ct3), sl3⟩) (c3 : PySem.W.codeIn K cd3 "are_enough" = true) (k3 : PySem.W.keepIn K (.ref f3) = true)
    (a4 : PySem.W.nsIn K mainGlobals "least_tries" = some (some (.ref f4)))
    (l4 : K.lookup f4 = some ⟨oc4, od4, .func (PySem.W.fnOf "least_tries" "least_tries" (defArgs s_least_tries) (defBody s_least_tries) (defScope s_least_tries) .none kV4 dc4 pm4 an4 cd4 ct4), sl4⟩) (c4 : PySem.W.codeIn K cd4 "least_tries" = true) (k4 : PySem.W.keepIn K (.ref f4) = true)
    (a5 : PySem.W.nsIn K mainGlobals "check_found" = some (some (.ref f5)))
    (l5 : K.lookup f5 = some ⟨oc5, od5, .func (PySem.W.fnOf "check_found" "check_found" (defArgs s_check_found) (defBody s_check_found) (defScope s_check_found) .none kV5 dc5 pm5 an5 cd5 ct5), sl5⟩) (c5 : PySem.W.codeIn K cd5 "check_found" = true) (k5 : PySem.W.keepIn K (.ref f5) = true)
    (a6 : PySem.W.nsIn K mainGlobals "fewest" = some (some (.ref f6)))
    (l6 : K.lookup f6 = some ⟨oc6, od6, .func (PySem.W.fnOf "fewest" "fewest" (defArgs s_fewest) (defBody s_fewest) (defScope s_fewest) .none kV6 dc6 pm6 an6 cd6 ct6), sl6⟩) (c6 : PySem.W.codeIn K cd6 "fewest" = true) (k6 : PySem.W.keepIn K (.ref f6) = true)
    (a7 : PySem.W.nsIn K mainGlobals "glasses_for" = some (some (.ref f7)))
    (l7 : K.lookup f7 = some ⟨oc7, od7, .func (PySem.W.fnOf "glasses_for" "glasses_for" (defArgs s_glasses_for) (defBody s_glasses_for) (defScope s_glasses_for) .none kV7 dc7 pm7 an7 cd7 ct7), sl7⟩) (c7 : PySem.W.codeIn K cd7 "glasses_for" = true) (k7 : PySem.W.keepIn K (.ref f7) = true)
    (a8 : PySem.W.nsIn K mainGlobals "_law_reach" = some (some (.ref f8)))
    (l8 : K.lookup f8 = some ⟨oc8, od8, .func (PySem.W.fnOf "_law_reach" "_law_reach" (defArgs s_law_reach) (defBody s_law_reach) (defScope s_law_reach) .none kV8 dc8 pm8 an8 cd8 ct8), sl8⟩) (c8 : PySem.W.codeIn K cd8 "_law_reach" = true) (k8 : PySem.W.keepIn K (.ref f8) = true)
    (a9 : PySem.W.nsIn K mainGlobals "_law_states" = some (some (.ref f9)))
    (l9 : K.lookup f9 = some ⟨oc9, od9, .func (PySem.W.fnOf "_law_states" "_law_states" (defArgs s_law_states) (defBody s_law_states) (defScope s_law_states) .none kV9 dc9 pm9 an9 cd9 ct9), sl9⟩) (c9 : PySem.W.codeIn K cd9 "_law_states" = true) (k9 : PySem.W.keepIn K (.ref f9) = true)
    (a10 : PySem.W.nsIn K mainGlobals "_law_whole" = some (some (.ref f10)))
    (l10 : K.lookup f10 = some ⟨oc10, od10, .func (PySem.W.fnOf "_law_whole" "_law_whole" (defArgs s_law_whole) (defBody s_law_whole) (defScope s_law_whole) .none kV10 dc10 pm10 an10 cd10 ct10), sl10⟩) (c10 : PySem.W.codeIn K cd10 "_law_whole" = true) (k10 : PySem.W.keepIn K (.ref f10) = true)
    (a11 : PySem.W.nsIn K mainGlobals "_law_near" = some (some (.ref f11)))
    (l11 : K.lookup f11 = some ⟨oc11, od11, .func (PySem.W.fnOf "_law_near" "_law_near" (defArgs s_law_near) (defBody s_law_near) (defScope s_law_near) .none kV11 dc11 pm11 an11 cd11 ct11), sl11⟩) (c11 : PySem.W.codeIn K cd11 "_law_near" = true) (k11 : PySem.W.keepIn K (.ref f11) = true)
    (a12 : PySem.W.nsIn K mainGlobals "_law_right" = some (some (.ref f12)))
    (l12 : K.lookup f12 = some ⟨oc12, od12, .func (PySem.W.fnOf "_law_right" "_law_right" (defArgs s_law_right) (defBody s_law_right) (defScope s_law_right) .none kV12 dc12 pm12 an12 cd12 ct12), sl12⟩) (c12 : PySem.W.codeIn K cd12 "_law_right" = true) (k12 : PySem.W.keepIn K (.ref f12) = true)
    (a13 : PySem.W.nsIn K mainGlobals "law" = some (some (.ref f13)))
    (l13 : K.lookup f13 = some ⟨oc13, od13, .func (PySem.W.fnOf "law" "law" (defArgs s_law) (defBody s_law) (defScope s_law) .none kV13 dc13 pm13 an13 cd13 ct13), sl13⟩) (c13 : PySem.W.codeIn K cd13 "law" = true) (k13 : PySem.W.keepIn K (.ref f13) = true)
    (q_MOST_GLASSES : PySem.W.nsIn K mainGlobals "MOST_GLASSES" = some (some (.int 300 t_MOST_GLASSES)))
    (q_MOST_STOREYS : PySem.W.nsIn K mainGlobals "MOST_STOREYS" = some (some (.int 1000000000000000000000000000000000000000000000000000000000000 t_MOST_STOREYS)))
    (z_bool : PySem.W.nsIn K mainGlobals "bool" = some none)
    (z_enumerate : PySem.W.nsIn K mainGlobals "enumerate" = some none)
    (z_int : PySem.W.nsIn K mainGlobals "int" = some none)
    (z_isinstance : PySem.W.nsIn K mainGlobals "isinstance" = some none)
    (z_len : PySem.W.nsIn K mainGlobals "len" = some none)
    (z_max : PySem.W.nsIn K mainGlobals "max" = some none)
    (z_min : PySem.W.nsIn K mainGlobals "min" = some none)
    (z_range : PySem.W.nsIn K mainGlobals "range" = some none)
    (z_sum : PySem.W.nsIn K mainGlobals "sum" = some none) :
    ∃ fd : FuncData, (∀ (s : Shared) (v : Value), BindsTo s fd ⟨[v], []⟩ [("_law_script", v)]) ∧ ∀ base : Heap, K.In base → base.Ns mainGlobals mg → FnOk l.prog w K mg base CX0 6 fa fd ["_law_script"] (spLaw K) := by
  have e := hfa.symm.trans (PySem.W.mg_of X G a13)
  have e2 : fa = f13 := by
    cases e
    rfl
  rw [e2]
  have T : Tx K mg { a_is_number := f0, d_is_number := PySem.W.fnOf "is_number" "is_number" (defArgs s_is_number) (defBody s_is_number) (defScope s_is_number) .none kV0 dc0 pm0 an0 cd0 ct0, a_check_storeys := f1, d_check_storeys := PySem.W.fnOf "check_storeys" "check_storeys" (defArgs s_check_storeys) (defBody s_check_storeys) (defScope s_check_storeys) .none kV1 dc1 pm1 an1 cd1 ct1, a_check_glasses := f2, d_check_glasses := PySem.W.fnOf "check_glasses" "check_glasses" (defArgs s_check_glasses) (defBody s_check_glasses) (defScope s_check_glasses) .none kV2 dc2 pm2 an2 cd2 ct2, a_are_enough := f3, d_are_enough := PySem.W.fnOf "are_enough" "are_enough" (defArgs s_are_enough) (defBody s_are_enough) (defScope s_are_enough) .none kV3 dc3 pm3 an3 cd3 ct3, a_least_tries := f4, d_least_tries := PySem.W.fnOf "least_tries" "least_tries" (defArgs s_least_tries) (defBody s_least_tries) (defScope s_least_tries) .none kV4 dc4 pm4 an4 cd4 ct4, a_check_found := f5, d_check_found := PySem.W.fnOf "check_found" "check_found" (defArgs s_check_found) (defBody s_check_found) (defScope s_check_found) .none kV5 dc5 pm5 an5 cd5 ct5, a_fewest := f6, d_fewest := PySem.W.fnOf "fewest" "fewest" (defArgs s_fewest) (defBody s_fewest) (defScope s_fewest) .none kV6 dc6 pm6 an6 cd6 ct6, a_glasses_for := f7, d_glasses_for := PySem.W.fnOf "glasses_for" "glasses_for" (defArgs s_glasses_for) (defBody s_glasses_for) (defScope s_glasses_for) .none kV7 dc7 pm7 an7 cd7 ct7, a_law_reach := f8, d_law_reach := PySem.W.fnOf "_law_reach" "_law_reach" (defArgs s_law_reach) (defBody s_law_reach) (defScope s_law_reach) .none kV8 dc8 pm8 an8 cd8 ct8, a_law_states := f9, d_law_states := PySem.W.fnOf "_law_states" "_law_states" (defArgs s_law_states) (defBody s_law_states) (defScope s_law_states) .none kV9 dc9 pm9 an9 cd9 ct9, a_law_whole := f10, d_law_whole := PySem.W.fnOf "_law_whole" "_law_whole" (defArgs s_law_whole) (defBody s_law_whole) (defScope s_law_whole) .none kV10 dc10 pm10 an10 cd10 ct10, a_law_near := f11, d_law_near := PySem.W.fnOf "_law_near" "_law_near" (defArgs s_law_near) (defBody s_law_near) (defScope s_law_near) .none kV11 dc11 pm11 an11 cd11 ct11, a_law_right := f12, d_law_right := PySem.W.fnOf "_law_right" "_law_right" (defArgs s_law_right) (defBody s_law_right) (defScope s_law_right) .none kV12 dc12 pm12 an12 cd12 ct12, a_law := f13, d_law := PySem.W.fnOf "law" "law" (defArgs s_law) (defBody s_law) (defScope s_law) .none kV13 dc13 pm13 an13 cd13 ct13 } :=
    { f_is_number := fun_mk (st := s_is_number) l0 c0 k0,
      g_is_number := PySem.W.mg_of X G a0,
      b_is_number := (fun_mk (st := s_is_number) l0 c0 k0).binds (ps := ["thing", "least", "most"]) fun _ _ _ _ _ _ us hl => match us, hl with | [_, _, _], _ => rfl,
      f_check_storeys := fun_mk (st := s_check_storeys) l1 c1 k1,
      g_check_storeys := PySem.W.mg_of X G a1,
      b_check_storeys := (fun_mk (st := s_check_storeys) l1 c1 k1).binds (ps := ["storeys"]) fun _ _ _ _ _ _ us hl => match us, hl with | [_], _ => rfl,
      f_check_glasses := fun_mk (st := s_check_glasses) l2 c2 k2,
      g_check_glasses := PySem.W.mg_of X G a2,
      b_check_glasses := (fun_mk (st := s_check_glasses) l2 c2 k2).binds (ps := ["glasses"]) fun _ _ _ _ _ _ us hl => match us, hl with | [_], _ => rfl,
      f_are_enough := fun_mk (st := s_are_enough) l3 c3 k3,
      g_are_enough := PySem.W.mg_of X G a3,
      b_are_enough := (fun_mk (st := s_are_enough) l3 c3 k3).binds (ps := ["storeys", "glasses", "tries"]) fun _ _ _ _ _ _ us hl => match us, hl with | [_, _, _], _ => rfl,
      f_least_tries := fun_mk (st := s_least_tries) l4 c4 k4,
      g_least_tries := PySem.W.mg_of X G a4,
      b_least_tries := (fun_mk (st := s_least_tries) l4 c4 k4).binds (ps := ["storeys", "glasses"]) fun _ _ _ _ _ _ us hl => match us, hl with | [_, _], _ => rfl,
      f_check_found := fun_mk (st := s_check_found) l5 c5 k5,
      g_check_found := PySem.W.mg_of X G a5,
      b_check_found := (fun_mk (st := s_check_found) l5 c5 k5).binds (ps := ["storeys", "glasses"]) fun _ _ _ _ _ _ us hl => match us, hl with | [_, _], _ => rfl,
      f_fewest := fun_mk (st := s_fewest) l6 c6 k6,
      g_fewest := PySem.W.mg_of X G a6,
      b_fewest := (fun_mk (st := s_fewest) l6 c6 k6).binds (ps := ["storeys", "glasses"]) fun _ _ _ _ _ _ us hl => match us, hl with | [_, _], _ => rfl,
      f_glasses_for := fun_mk (st := s_glasses_for) l7 c7 k7,
      g_glasses_for := PySem.W.mg_of X G a7,
      b_glasses_for := (fun_mk (st := s_glasses_for) l7 c7 k7).binds (ps := ["storeys"]) fun _ _ _ _ _ _ us hl => match us, hl with | [_], _ => rfl,
      f_law_reach := fun_mk (st := s_law_reach) l8 c8 k8,
      g_law_reach := PySem.W.mg_of X G a8,
      b_law_reach := (fun_mk (st := s_law_reach) l8 c8 k8).binds (ps := ["_law_tries", "_law_glasses"]) fun _ _ _ _ _ _ us hl => match us, hl with | [_, _], _ => rfl,
      f_law_states := fun_mk (st := s_law_states) l9 c9 k9,
      g_law_states := PySem.W.mg_of X G a9,
      b_law_states := (fun_mk (st := s_law_states) l9 c9 k9).binds (ps := ["_law_script"]) fun _ _ _ _ _ _ us hl => match us, hl with | [_], _ => rfl,
      f_law_whole := fun_mk (st := s_law_whole) l10 c10 k10,
      g_law_whole := PySem.W.mg_of X G a10,
      b_law_whole := (fun_mk (st := s_law_whole) l10 c10 k10).binds (ps := ["_law_found"]) fun _ _ _ _ _ _ us hl => match us, hl with | [_], _ => rfl,
      f_law_near := fun_mk (st := s_law_near) l11 c11 k11,
      g_law_near := PySem.W.mg_of X G a11,
      b_law_near := (fun_mk (st := s_law_near) l11 c11 k11).binds (ps := ["_law_states_here"]) fun _ _ _ _ _ _ us hl => match us, hl with | [_], _ => rfl,
      f_law_right := fun_mk (st := s_law_right) l12 c12 k12,
      g_law_right := PySem.W.mg_of X G a12,
      b_law_right := (fun_mk (st := s_law_right) l12 c12 k12).binds (ps := ["_law_storeys", "_law_glasses"]) fun _ _ _ _ _ _ us hl => match us, hl with | [_, _], _ => rfl,
      f_law := fun_mk (st := s_law) l13 c13 k13,
      g_law := PySem.W.mg_of X G a13,
      b_law := (fun_mk (st := s_law) l13 c13 k13).binds (ps := ["_law_script"]) fun _ _ _ _ _ _ us hl => match us, hl with | [_], _ => rfl,
      c_MOST_GLASSES := ⟨_, PySem.W.mg_of X G q_MOST_GLASSES⟩,
      c_MOST_STOREYS := ⟨_, PySem.W.mg_of X G q_MOST_STOREYS⟩,
      z_bool := PySem.W.mg_none_of X G z_bool,
      z_enumerate := PySem.W.mg_none_of X G z_enumerate,
      z_int := PySem.W.mg_none_of X G z_int,
      z_isinstance := PySem.W.mg_none_of X G z_isinstance,
      z_len := PySem.W.mg_none_of X G z_len,
      z_max := PySem.W.mg_none_of X G z_max,
      z_min := PySem.W.mg_none_of X G z_min,
      z_range := PySem.W.mg_none_of X G z_range,
      z_sum := PySem.W.mg_none_of X G z_sum }
  exact ⟨_, fun s v => .of_eq rfl, fun base _ _ => ok_law T⟩
end GF
open PySem PySem.W PyProof.Rows
set_option maxRecDepth 100000 in
set_option maxHeartbeats 0 in
theorem PySem.Challenge.cw_glassfall_k02_whole_fewest_holds : PySem.Challenge.rw_glassfall_k02_whole_fewest.Holds := by
  w_on; o_law; k_head; (case hw => w_witness2)
  k_fill
  refine L2.walk_ofB (l := PySem.Challenge.rw_glassfall_k02_whole_fewest) (n := 63) (k := 6) (x := "_law_script") (CX := fun _ => L2.CX0) (sp := fun w => GF.spLaw _) rfl (by decide) rfl ⟨rfl, by decide, by decide⟩ (fun w h Y => PySem.W.kIn_of Y) ?F (fun _ _ a ns hl hb _ hS => ⟨a, ns, rfl, hS, hl, hb, fun _ => rfl⟩) (fun _ _ _ _ _ h => h)
  case F =>
    intro w mg fa h KX G hmg
    refine' GF.all_mk KX G hmg ?a0 ?l0 ?c0 ?k0 ?a1 ?l1 ?c1 ?k1 ?a2 ?l2 ?c2 ?k2 ?a3 ?l3 ?c3 ?k3 ?a4 ?l4 ?c4 ?k4 ?a5 ?l5 ?c5 ?k5 ?a6 ?l6 ?c6 ?k6 ?a7 ?l7 ?c7 ?k7 ?a8 ?l8 ?c8 ?k8 ?a9 ?l9 ?c9 ?k9 ?a10 ?l10 ?c10 ?k10 ?a11 ?l11 ?c11 ?k11 ?a12 ?l12 ?c12 ?k12 ?a13 ?l13 ?c13 ?k13 ?q_MOST_GLASSES ?q_MOST_STOREYS ?z_bool ?z_enumerate ?z_int ?z_isinstance ?z_len ?z_max ?z_min ?z_range ?z_sum
    (case a0 => k_is)
    (case l0 => k_is)
    (case c0 => k_is)
    (case k0 => k_is)
    (case a1 => k_is)
    (case l1 => k_is)
    (case c1 => k_is)
    (case k1 => k_is)
    (case a2 => k_is)
    (case l2 => k_is)
    (case c2 => k_is)
    (case k2 => k_is)
    (case a3 => k_is)
    (case l3 => k_is)
    (case c3 => k_is)
    (case k3 => k_is)
    (case a4 => k_is)
    (case l4 => k_is)
    (case c4 => k_is)
    (case k4 => k_is)
    (case a5 => k_is)
    (case l5 => k_is)
    (case c5 => k_is)
    (case k5 => k_is)
    (case a6 => k_is)
    (case l6 => k_is)
    (case c6 => k_is)
    (case k6 => k_is)
    (case a7 => k_is)
    (case l7 => k_is)
    (case c7 => k_is)
    (case k7 => k_is)
    (case a8 => k_is)
    (case l8 => k_is)
    (case c8 => k_is)
    (case k8 => k_is)
    (case a9 => k_is)
    (case l9 => k_is)
    (case c9 => k_is)
    (case k9 => k_is)
    (case a10 => k_is)
    (case l10 => k_is)
    (case c10 => k_is)
    (case k10 => k_is)
    (case a11 => k_is)
    (case l11 => k_is)
    (case c11 => k_is)
    (case k11 => k_is)
    (case a12 => k_is)
    (case l12 => k_is)
    (case c12 => k_is)
    (case k12 => k_is)
    (case a13 => k_is)
    (case l13 => k_is)
    (case c13 => k_is)
    (case k13 => k_is)
    (case q_MOST_GLASSES => k_is)
    (case q_MOST_STOREYS => k_is)
    (case z_bool => k_is)
    (case z_enumerate => k_is)
    (case z_int => k_is)
    (case z_isinstance => k_is)
    (case z_len => k_is)
    (case z_max => k_is)
    (case z_min => k_is)
    (case z_range => k_is)
    (case z_sum => k_is)
