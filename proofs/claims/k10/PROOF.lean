import PyProof.Rows.All
import Wide.All
import OpenK.AllK
import Wide.FinOn
import HandS.ForMost
import HandS.EndBits
import HandS.EndTab
import HandS.Evl
import HandS.IsInst
import HandS.WideBits
import HandS.Style
import HandS.CallRecv
import HandS.ExcIs
import HandS.WordsExc
import HandS.Lambda
import KE.RegKIsAll
import KE.KNestM
import PySem.Challenge.RW_glassfall_k10_promises_by_hand
set_option Elab.async false
set_option linter.all false
set_option maxRecDepth 100000
set_option maxHeartbeats 4000000
namespace GF
/-- ways to pick k of n -/
def bin : Nat → Nat → Nat
  | _, 0 => 1
  | 0, _ + 1 => 0
  | n + 1, k + 1 => bin n k + bin n (k + 1)
def fact : Nat → Nat
  | 0 => 1
  | k + 1 => fact k * (k + 1)
/-- how many storeys t tries and g glasses find -/
def R (t : Nat) : Nat → Nat
  | 0 => 0
  | g + 1 => R t g + bin t (g + 1)
theorem bin_zero (n : Nat) : bin n 0 = 1 := by cases n <;> rfl
theorem bin_lt : ∀ {n k : Nat}, n < k → bin n k = 0
  | _, 0, h => absurd h (Nat.not_lt_zero _)
  | 0, _ + 1, _ => rfl
  | n + 1, k + 1, h => by
    show bin n k + bin n (k + 1) = 0
    rw [bin_lt (show n < k by omega), bin_lt (show n < k + 1 by omega)]
theorem bin_succ_mul : ∀ (n k : Nat), (n + 1) * bin n k = bin (n + 1) (k + 1) * (k + 1)
  | 0, 0 => rfl
  | 0, k + 1 => by
    show (0 + 1) * 0 = (bin 0 (k + 1) + bin 0 (k + 2)) * (k + 1 + 1)
    rw [bin_lt (show 0 < k + 1 by omega), bin_lt (show 0 < k + 2 by omega)]
    simp
  | n + 1, 0 => by
    have h : (n + 1) * bin n 0 = bin (n + 1) 1 * 1 := bin_succ_mul n 0
    rw [bin_zero] at h
    show (n + 1 + 1) * bin (n + 1) 0 = (bin (n + 1) 0 + bin (n + 1) 1) * (0 + 1)
    rw [bin_zero]
    omega
  | n + 1, k + 1 => by
    have h1 := bin_succ_mul n k
    have h2 := bin_succ_mul n (k + 1)
    have e : bin (n + 1 + 1) (k + 1 + 1) = bin (n + 1) (k + 1) + bin (n + 1) (k + 1 + 1) := rfl
    have e2 : bin (n + 1) (k + 1) = bin n k + bin n (k + 1) := rfl
    rw [e, Nat.add_mul (bin (n + 1) (k + 1)), ← h2, Nat.add_mul (n + 1) 1, Nat.mul_add (bin (n + 1) (k + 1)) (k + 1) 1, ← h1, Nat.one_mul, Nat.mul_one]
    have e3 : (n + 1) * bin (n + 1) (k + 1) = (n + 1) * bin n k + (n + 1) * bin n (k + 1) := by rw [e2, Nat.mul_add]
    omega
theorem bin_mul (n k : Nat) : bin n (k + 1) * (k + 1) = bin n k * (n - k) := by
  by_cases h : n < k
  · rw [bin_lt h, bin_lt (show n < k + 1 by omega)]
    simp
  · have h1 := bin_succ_mul n k
    have e : bin (n + 1) (k + 1) = bin n k + bin n (k + 1) := rfl
    rw [e, Nat.add_mul (bin n k)] at h1
    have e2 : n + 1 = (n - k) + (k + 1) := by omega
    have e3 : (n + 1) * bin n k = bin n k * (n - k) + bin n k * (k + 1) := by
      rw [Nat.mul_comm, ← Nat.mul_add, ← e2]
    omega
theorem bin_div (n k : Nat) : bin n k * (n - k) / (k + 1) = bin n (k + 1) := by
  rw [← bin_mul]
  exact Nat.mul_div_cancel _ (Nat.succ_pos k)
theorem fact_pos : ∀ k, 0 < fact k
  | 0 => Nat.one_pos
  | k + 1 => Nat.mul_pos (fact_pos k) (Nat.succ_pos k)
theorem above_step (t k : Nat) : bin t k * fact k * (t - k) = bin t (k + 1) * fact (k + 1) := by
  show _ = bin t (k + 1) * (fact k * (k + 1))
  rw [Nat.mul_right_comm, ← bin_mul, Nat.mul_right_comm, Nat.mul_assoc]
theorem above_div (t k : Nat) : bin t k * fact k / fact k = bin t k := Nat.mul_div_cancel _ (fact_pos k)
theorem above_le : ∀ (t k : Nat), bin t k * fact k ≤ t ^ k
  | t, 0 => by rw [bin_zero]; exact Nat.le_refl _
  | t, k + 1 => by
    rw [← above_step, Nat.pow_succ]
    exact Nat.mul_le_mul (above_le t k) (Nat.sub_le _ _)
theorem bin_le (t k : Nat) : bin t k ≤ t ^ k := Nat.le_trans (Nat.le_mul_of_pos_right _ (fact_pos k)) (above_le t k)
theorem fact_le : ∀ (k m : Nat), k ≤ m → fact k ≤ m ^ k
  | 0, _, _ => Nat.le_refl _
  | k + 1, m, h => by
    rw [Nat.pow_succ]
    exact Nat.mul_le_mul (fact_le k m (by omega)) h
theorem pow_bits {t k b : Nat} (h : t < 2 ^ b) : t ^ k < 2 ^ (b * k + 1) := by
  have h1 : t ^ k ≤ (2 ^ b) ^ k := Nat.pow_le_pow_left (Nat.le_of_lt h) k
  rw [← Nat.pow_mul] at h1
  exact Nat.lt_of_le_of_lt h1 (Nat.pow_lt_pow_right (by decide) (Nat.lt_succ_self _))
theorem bits_mono {n a b : Nat} (h : n < 2 ^ a) (hab : a ≤ b) : n < 2 ^ b := Nat.lt_of_lt_of_le h (Nat.pow_le_pow_right (by decide) hab)
/-- bounds in bits, by name so that nothing reckons the powers -/
def BB : Nat := 110000
def BF : Nat := 3601
theorem bin_bits {t k : Nat} (h : t < 2 ^ 256) (hk : k ≤ 400) : bin t k < 2 ^ BB :=
  bits_mono (Nat.lt_of_le_of_lt (bin_le t k) (pow_bits h)) (show 256 * k + 1 ≤ 110000 by omega)
theorem above_bits {t k : Nat} (h : t < 2 ^ 256) (hk : k ≤ 400) : bin t k * fact k < 2 ^ BB :=
  bits_mono (Nat.lt_of_le_of_lt (above_le t k) (pow_bits h)) (show 256 * k + 1 ≤ 110000 by omega)
theorem fact_bits {k : Nat} (hk : k ≤ 400) : fact k < 2 ^ BF := by
  have h : fact k ≤ 400 ^ k := fact_le k 400 hk
  exact bits_mono (Nat.lt_of_le_of_lt h (pow_bits (b := 9) (by decide))) (show 9 * k + 1 ≤ 3601 by omega)
/-! ### R -/
theorem R_zero_t : ∀ g, R 0 g = 0
  | 0 => rfl
  | g + 1 => by
    show R 0 g + bin 0 (g + 1) = 0
    rw [R_zero_t g]
    rfl
theorem R_one (t : Nat) : R t 1 = t := by
  show 0 + bin t 1 = t
  rw [Nat.zero_add]
  have h : bin t 1 * 1 = bin t 0 * (t - 0) := bin_mul t 0
  rw [bin_zero] at h
  omega
theorem R_pascal (t : Nat) : ∀ g, R (t + 1) (g + 1) = R t g + 1 + R t (g + 1)
  | 0 => by
    show 0 + (bin t 0 + bin t 1) = 0 + 1 + (0 + bin t 1)
    rw [bin_zero]
    omega
  | g + 1 => by
    have h := R_pascal t g
    have e1 : R (t + 1) (g + 1 + 1) = R (t + 1) (g + 1) + (bin t (g + 1) + bin t (g + 1 + 1)) := rfl
    have e2 : R t (g + 1 + 1) = R t (g + 1) + bin t (g + 1 + 1) := rfl
    have e3 : R t (g + 1) = R t g + bin t (g + 1) := rfl
    omega
theorem R_succ_g (t g : Nat) : R t g ≤ R t (g + 1) := Nat.le_add_right _ _
theorem R_mono_g (t : Nat) {g h : Nat} (l : g ≤ h) : R t g ≤ R t h := by
  induction h with
  | zero =>
    have : g = 0 := by omega
    subst this
    exact Nat.le_refl _
  | succ h ih =>
    by_cases e : g = h + 1
    · subst e
      exact Nat.le_refl _
    · exact Nat.le_trans (ih (by omega)) (R_succ_g t h)
theorem R_succ_t (t : Nat) : ∀ g, R t g ≤ R (t + 1) g
  | 0 => Nat.le_refl _
  | g + 1 => by
    rw [R_pascal]
    omega
theorem R_lt_t (t g : Nat) (h : 0 < g) : R t g < R (t + 1) g := by
  obtain ⟨k, rfl⟩ : ∃ k, g = k + 1 := ⟨g - 1, by omega⟩
  rw [R_pascal]
  omega
theorem R_mono_t {t u : Nat} (g : Nat) (l : t ≤ u) : R t g ≤ R u g := by
  induction u with
  | zero =>
    have : t = 0 := by omega
    subst this
    exact Nat.le_refl _
  | succ u ih =>
    by_cases e : t = u + 1
    · subst e
      exact Nat.le_refl _
    · exact Nat.le_trans (ih (by omega)) (R_succ_t u g)
theorem R_over (t : Nat) : ∀ {g : Nat}, t ≤ g → R t g = R t t
  | 0, h => by
    have : t = 0 := by omega
    subst this
    rfl
  | g + 1, h => by
    by_cases e : t = g + 1
    · subst e
      rfl
    · show R t g + bin t (g + 1) = _
      rw [bin_lt (show t < g + 1 by omega), R_over t (show t ≤ g by omega)]
      rfl
theorem R_min (t g : Nat) : R t (min t g) = R t g := by
  by_cases h : t ≤ g
  · rw [Nat.min_eq_left h, R_over t h]
  · rw [Nat.min_eq_right (by omega)]
theorem R_full : ∀ (t g : Nat), t ≤ g → R t g + 1 = 2 ^ t
  | 0, g, _ => by
    rw [R_zero_t]
  | t + 1, 0, h => absurd h (by omega)
  | t + 1, g + 1, h => by
    have h1 := R_full t g (by omega)
    have h2 := R_full t (g + 1) (by omega)
    rw [R_pascal, Nat.pow_succ]
    omega
theorem R_le_pow (t g : Nat) : R t g + 1 ≤ 2 ^ t := by
  have h1 : R t g ≤ R t (g + t) := R_mono_g t (by omega)
  have h2 := R_full t (g + t) (by omega)
  omega
theorem R_ge (t : Nat) {g : Nat} (h : 0 < g) : t ≤ R t g := by
  have h1 : R t 1 ≤ R t g := R_mono_g t h
  rw [R_one] at h1
  exact h1
theorem R_zero_iff {t g : Nat} (h : t = 0 ∨ g = 0) : R t g = 0 := by
  rcases h with rfl | rfl
  · exact R_zero_t g
  · rfl
theorem R_pos {t g : Nat} (h1 : 0 < t) (h2 : 0 < g) : 0 < R t g := Nat.lt_of_lt_of_le h1 (R_ge t h2)
theorem R_pas {t g : Nat} (h1 : 0 < t) (h2 : 0 < g) : R t g = R (t - 1) (g - 1) + 1 + R (t - 1) g := by
  obtain ⟨k, rfl⟩ : ∃ k, g = k + 1 := ⟨g - 1, by omega⟩
  obtain ⟨u, rfl⟩ : ∃ u, t = u + 1 := ⟨t - 1, by omega⟩
  exact R_pascal u k
theorem R_two (t : Nat) : R t 2 * 2 = t * (t + 1) := by
  have h := bin_mul t 1
  have h1 : bin t 1 = t := by
    have := R_one t
    have e : R t 1 = 0 + bin t 1 := rfl
    omega
  have e : R t 2 = R t 1 + bin t 2 := rfl
  rw [R_one] at e
  rw [h1] at h
  have e3 : t * (t + 1) = t * (t - 1) + t * 2 := by
    rw [← Nat.mul_add]
    cases t with
    | zero => rfl
    | succ n => rfl
  have e4 : bin t (1 + 1) = bin t 2 := rfl
  omega
/-! ### the fewest tries -/
def Fw (s g t : Nat) : Prop := s ≤ R t g ∧ (t = 0 ∨ R (t - 1) g < s)
theorem Fw.uniq {s g t u : Nat} (a : Fw s g t) (b : Fw s g u) : t = u := by
  have key : ∀ {x y : Nat}, Fw s g x → Fw s g y → ¬ x < y := fun {x y} p q l => by
    rcases q.2 with z | z
    · omega
    · have h1 : R x g ≤ R (y - 1) g := R_mono_t g (by omega)
      have h2 := p.1
      omega
  have h1 := key a b
  have h2 := key b a
  omega
theorem Fw.ex {s g : Nat} : ∀ n : Nat, s ≤ R n g → ∃ t, Fw s g t ∧ t ≤ n
  | 0, h => ⟨0, ⟨h, .inl rfl⟩, Nat.le_refl _⟩
  | n + 1, h => by
    by_cases c : s ≤ R n g
    · obtain ⟨t, ht, hl⟩ := Fw.ex n c
      exact ⟨t, ht, by omega⟩
    · exact ⟨n + 1, ⟨h, .inr (by show R n g < s; omega)⟩, Nat.le_refl _⟩
theorem Fw.exists {s g : Nat} (h : 0 < g ∨ s = 0) : ∃ t, Fw s g t := by
  rcases h with h | h
  · obtain ⟨t, ht, _⟩ := Fw.ex s (R_ge s h)
    exact ⟨t, ht⟩
  · subst h
    exact ⟨0, Nat.zero_le _, .inl rfl⟩
noncomputable def fw (s g : Nat) : Nat := @dite _ (∃ t, Fw s g t) (Classical.propDecidable _) (fun h => Classical.choose h) (fun _ => 0)
theorem fw_spec {s g : Nat} (h : 0 < g ∨ s = 0) : Fw s g (fw s g) := by
  have e := Fw.exists h
  unfold fw
  rw [dif_pos e]
  exact Classical.choose_spec e
theorem fw_eq {s g t : Nat} (h : Fw s g t) : fw s g = t := by
  have e : ∃ t, Fw s g t := ⟨t, h⟩
  have q : Fw s g (fw s g) := by
    unfold fw
    rw [dif_pos e]
    exact Classical.choose_spec e
  exact q.uniq h
theorem fw_le {s g n : Nat} (h : s ≤ R n g) : fw s g ≤ n := by
  obtain ⟨t, ht, hl⟩ := Fw.ex n h
  rw [fw_eq ht]
  exact hl
theorem fw_le_self {s g : Nat} (h : 0 < g ∨ s = 0) : fw s g ≤ s := by
  rcases h with h | h
  · exact fw_le (R_ge s h)
  · subst h
    exact fw_le (Nat.zero_le _)
/-! ### the fewest glasses -/
def Gw (s b g : Nat) : Prop := s ≤ R b g ∧ (g = 0 ∨ R b (g - 1) < s)
theorem Gw.uniq {s b g u : Nat} (a : Gw s b g) (c : Gw s b u) : g = u := by
  have key : ∀ {x y : Nat}, Gw s b x → Gw s b y → ¬ x < y := fun {x y} p q l => by
    rcases q.2 with z | z
    · omega
    · have h1 : R b x ≤ R b (y - 1) := R_mono_g b (by omega)
      have h2 := p.1
      omega
  have h1 := key a c
  have h2 := key c a
  omega
theorem Gw.ex {s b : Nat} : ∀ n : Nat, s ≤ R b n → ∃ t, Gw s b t ∧ t ≤ n
  | 0, h => ⟨0, ⟨h, .inl rfl⟩, Nat.le_refl _⟩
  | n + 1, h => by
    by_cases c : s ≤ R b n
    · obtain ⟨t, ht, hl⟩ := Gw.ex n c
      exact ⟨t, ht, by omega⟩
    · exact ⟨n + 1, ⟨h, .inr (by show R b n < s; omega)⟩, Nat.le_refl _⟩
/-! ### bits -/
def bl (s : Nat) : Nat := PySem.Builtin.Int.intBits ((s : Nat) : Int)
theorem bl_lt (s : Nat) : s < 2 ^ bl s := by
  unfold bl PySem.Builtin.Int.intBits
  split
  · rename_i e
    have e' : s = 0 := by
      have : (s : Int) = 0 := by simpa using e
      omega
    subst e'
    exact Nat.one_pos
  · rw [Int.natAbs_natCast]
    exact Nat.lt_log2_self
theorem bl_ge {s : Nat} (h : 0 < s) : 2 ^ (bl s - 1) ≤ s := by
  unfold bl PySem.Builtin.Int.intBits
  split
  · rename_i e
    have e' : (s : Int) = 0 := by simpa using e
    omega
  · rw [Int.natAbs_natCast, Nat.add_sub_cancel]
    exact Nat.log2_self_le (by omega)
theorem bl_le {s : Nat} (h : s ≤ 10 ^ 60) : bl s ≤ 200 := by
  by_cases h0 : 0 < s
  · have h1 := bl_ge h0
    by_cases c : bl s ≤ 200
    · exact c
    · have h2 : 2 ^ 200 ≤ 2 ^ (bl s - 1) := Nat.pow_le_pow_right (by decide) (by omega)
      have h3 : (10 : Nat) ^ 60 < 2 ^ 200 := by decide
      omega
  · have e : s = 0 := by omega
    subst e
    decide
theorem bl_enough {s g : Nat} (h : bl s ≤ g) : s ≤ R (bl s) g := by
  have h1 := R_full (bl s) g h
  have h2 := bl_lt s
  omega
theorem Gw.exists (s : Nat) : ∃ f, Gw s (bl s) f ∧ f ≤ bl s := Gw.ex (bl s) (bl_enough (Nat.le_refl _))
/-- with as many glasses as it takes the tries are the bits -/
theorem fw_bits {s f : Nat} (h : Gw s (bl s) f) (h0 : 0 < f) : fw s f = bl s := by
  refine fw_eq ⟨h.1, ?_⟩
  by_cases hb : bl s = 0
  · exact .inl hb
  · refine .inr ?_
    have hs : 0 < s := by
      by_cases e : s = 0
      · subst e
        exact absurd rfl hb
      · omega
    have h1 := R_le_pow (bl s - 1) f
    have h2 := bl_ge hs
    omega
theorem fw_zero (g : Nat) : fw 0 g = 0 := fw_eq ⟨Nat.zero_le _, .inl rfl⟩
end GF

namespace GF
open PySem L2 Evl
/-- a promise by a relation of the arguments and the value; what was tracked stands -/
def spP (r : List V → V → Prop) : Sp := fun vs H Q _ => ∃ v, r vs v ∧ ∀ H2, Ex H H2 → Q v H2
section
variable {K : PySem.W.Frag} {σ : L2.St} {H H' : Hp} {ta tb tc te : TE} {x y z v : V}
theorem ev_p {r : List V → V → Prop} {E : XK} {t : TA} {vs : List V} (h : EvA t σ H vs) (hr : r vs v) : Ev (tCall (spP r) [] E t) σ H v := by
  refine ev_call h ?_
  rw [List.append_nil]
  exact fun H1 _ Q q E => ⟨v, hr, fun H2 e2 => q H2 e2⟩
theorem rc_min2 {i j : Int} : RC (fun xs H Q => ∃ i j, xs = [V.int i, V.int j] ∧ Q (V.int (if j < i then j else i)) H) [.int i, .int j] H (.int (if j < i then j else i)) := fun H1 _ _ q => ⟨i, j, rfl, q H1 (Ex.refl H1)⟩
theorem rc_max2 {i j : Int} : RC (fun xs H Q => ∃ i j, xs = [V.int i, V.int j] ∧ Q (V.int (if j > i then j else i)) H) [.int i, .int j] H (.int (if j > i then j else i)) := fun H1 _ _ q => ⟨i, j, rfl, q H1 (Ex.refl H1)⟩
theorem rc_abs {i : Int} : RC (fun xs H Q => ∃ i, xs = [V.int i] ∧ Q (V.int (if i < 0 then -i else i)) H) [.int i] H (.int (if i < 0 then -i else i)) := fun H1 _ _ q => ⟨i, rfl, q H1 (Ex.refl H1)⟩
theorem rc_sum {a : Addr} {ns : List Int} (h : SqL K H a (ns.map V.int)) : RC (rSum K) [.ref a] H (.int ns.sum) := fun H1 e _ q => ⟨a, ns, rfl, ex_l e h, q H1 (Ex.refl H1)⟩
theorem rc_lenL {a : Addr} {xs : List V} (h : SqL K H a xs) : RC (fun xs H Q => ∃ p ys, xs = [V.ref p] ∧ (SqL K H p ys ∨ SqT K H p ys) ∧ Q (V.int (List.length ys : Nat)) H) [.ref a] H (.int (xs.length : Nat)) := fun H1 e _ q => ⟨a, xs, rfl, .inl (ex_l e h), q H1 (Ex.refl H1)⟩
theorem rc_isi {c : V} {t u : Value} {b : Bool} (hc : ClsV c u) (ht : ∀ H1, Ex H H1 → TyX K H1 x t) (hb : PySem.W.kitOne K t u = some b) : RC (rIsi K) [x, c] H (.bl b) := fun H1 e _ q => ⟨x, c, t, u, b, rfl, hc, ht H1 e, hb, q H1 (Ex.refl H1)⟩
theorem rc_isi_int {i : Int} {n : String} {b : Bool} (hb : kitB "int" n = some b) : RC (rIsi K) [.int i, .ty n] H (.bl b) := rc_isi (.ty n) (fun _ _ => .base (.int i)) (kit_ty hb)
theorem rc_isi_bl {i : Bool} {n : String} {b : Bool} (hb : kitB "bool" n = some b) : RC (rIsi K) [.bl i, .ty n] H (.bl b) := rc_isi (.ty n) (fun _ _ => .base (.bl i)) (kit_ty hb)
theorem rv_eqI {i j : Int} : RV rEq (.int i) (.int j) H (.bl (decide (i = j))) := fun H1 _ Q q => ⟨rfl, by
  have e : decide (V.int i = V.int j) = decide (i = j) := by
    by_cases h : i = j
    · subst h
      simp
    · rw [decide_eq_false h, decide_eq_false (fun z => h (V.int.inj z))]
  rw [e]
  exact q H1 (Ex.refl H1)⟩
theorem rv_neI {i j : Int} : RV rNe (.int i) (.int j) H (.bl (!decide (i = j))) := fun H1 _ Q q => ⟨rfl, by
  have e : decide (V.int i = V.int j) = decide (i = j) := by
    by_cases h : i = j
    · subst h
      simp
    · rw [decide_eq_false h, decide_eq_false (fun z => h (V.int.inj z))]
  rw [e]
  exact q H1 (Ex.refl H1)⟩
theorem rv_eqB {i j : Bool} : RV rEq (.bl i) (.bl j) H (.bl (decide (i = j))) := fun H1 _ Q q => ⟨rfl, by
  have e : decide (V.bl i = V.bl j) = decide (i = j) := by
    cases i <;> cases j <;> rfl
  rw [e]
  exact q H1 (Ex.refl H1)⟩
theorem rv_neB {i j : Bool} : RV rNe (.bl i) (.bl j) H (.bl (!decide (i = j))) := fun H1 _ Q q => ⟨rfl, by
  have e : decide (V.bl i = V.bl j) = decide (i = j) := by
    cases i <;> cases j <;> rfl
  rw [e]
  exact q H1 (Ex.refl H1)⟩
theorem ev_chain {r r' : R2} {a b : Bool} (ha : Ev ta σ H x) (hb : Ev tb σ H y) (hc : Ev tc σ H z) (h1 : RV r x y H (.bl a)) (h2 : a = true → RV r' y z H (.bl b)) : Ev (tChain r r' ta tb tc) σ H (.bl (a && b)) := fun H1 e Q q =>
  ha H1 e _ fun H2 e2 => hb H2 (e.trans e2) _ fun H3 e3 => h1 H3 ((e.trans e2).trans e3) _ fun H4 e4 => ⟨a, rfl, by
    cases a with
    | true =>
      show tc σ H4 fun w' H5 => r' y w' H5 Q
      exact hc H4 (((e.trans e2).trans e3).trans e4) _ fun H5 e5 => h2 rfl H5 ((((e.trans e2).trans e3).trans e4).trans e5) Q fun H6 e6 => q H6 ((((e2.trans e3).trans e4).trans e5).trans e6)
    | false =>
      show Q (.bl false) H4
      exact q H4 ((e2.trans e3).trans e4)⟩
/-- the tuple just made, an item of it -/
theorem ev_ixU {xs : List V} {i : Int} (ha : EvU ta σ H xs) (hb : Ev tb σ H (.int i)) (hx : atI xs i = some v) : Ev (tOp (rIxT K) ta tb) σ H v := fun H1 e Q q =>
  ha H1 e _ fun p H2 _ e2 hp => hb H2 (e.trans e2) _ fun H3 e3 => ⟨p, xs, i, v, rfl, rfl, .inl (.inl (e3 p _ hp)), hx, q H3 (e2.trans e3)⟩
variable {D : Ends} {tz tu : TS}
/-- x op= e where the rule asks something -/
theorem s_augC {i : Nat} {C : Int → Int → Prop} {f : Int → Int → Int} {a b : Int} (hx : σ[i]? = some (some (.int a))) (h : Ev te σ H (.int b)) (hc : C a b) (k : ∀ H1, Ex H H1 → D.nx (σ.set i (some (.int (f a b)))) H1) : tAug i te (rI C fun i j => .int (f i j)) D σ H :=
  ⟨.int a, hx, h H (Ex.refl H) _ fun H1 e => ⟨a, b, rfl, rfl, hc, k H1 e⟩⟩
/-- a, b = x, y -/
theorem s_par {i j : Nat} {t : TA} {u w : V} (h : EvA t σ H [u, w]) (k : ∀ H1, Ex H H1 → D.nx ((σ.set i (some u)).set j (some w)) H1) : tPar i j t D σ H := h H (Ex.refl H) _ fun H1 e => ⟨u, w, rfl, k H1 e⟩
theorem q_par {i j : Nat} {t : TA} {u w : V} (h : EvA t σ H [u, w]) (k : ∀ H1, Ex H H1 → tz D ((σ.set i (some u)).set j (some w)) H1) : tSeq (tPar i j t) tz D σ H := s_par (D := { D with nx := tz D }) h k
theorem s_par3 {i j l : Nat} {t : TA} {u w m : V} (h : EvA t σ H [u, w, m]) (k : ∀ H1, Ex H H1 → D.nx (((σ.set i (some u)).set j (some w)).set l (some m)) H1) : tPar3 i j l t D σ H := h H (Ex.refl H) _ fun H1 e => ⟨u, w, m, rfl, k H1 e⟩
theorem q_par3 {i j l : Nat} {t : TA} {u w m : V} (h : EvA t σ H [u, w, m]) (k : ∀ H1, Ex H H1 → tz D (((σ.set i (some u)).set j (some w)).set l (some m)) H1) : tSeq (tPar3 i j l t) tz D σ H := s_par3 (D := { D with nx := tz D }) h k
/-- a, b, c = (x, y, z), the tuple made -/
theorem s_asg3 {i j l : Nat} {u w m : V} (h : EvU te σ H [u, w, m]) (k : ∀ H1, Ex H H1 → D.nx (((σ.set i (some u)).set j (some w)).set l (some m)) H1) : tAsg te (gTup K 3 (gCons (gName i) (gCons (gName j) (gCons (gName l) gNil)))) D σ H :=
  h H (Ex.refl H) _ fun p H1 _ e hp => ⟨p, _, rfl, .inl (.inl hp), rfl, u, _, rfl, w, _, rfl, m, _, rfl, rfl, k H1 e⟩
theorem q_asg3 {i j l : Nat} {u w m : V} (h : EvU te σ H [u, w, m]) (k : ∀ H1, Ex H H1 → tz D (((σ.set i (some u)).set j (some w)).set l (some m)) H1) : tSeq (tAsg te (gTup K 3 (gCons (gName i) (gCons (gName j) (gCons (gName l) gNil))))) tz D σ H := s_asg3 (D := { D with nx := tz D }) h k
end
/-! ### numbers -/
theorem min_nat (t g : Nat) : (if (g : Int) < (t : Int) then (g : Int) else (t : Int)) = ((min t g : Nat) : Int) := by
  by_cases h : g < t
  · rw [if_pos (by omega), Nat.min_eq_right (by omega)]
  · rw [if_neg (by omega), Nat.min_eq_left (by omega)]
theorem sub_nat {t i : Nat} (h : i ≤ t) : (t : Int) - (i : Int) = ((t - i : Nat) : Int) := by omega
theorem nat_bits {n b : Nat} (h : n < 2 ^ b) : ((n : Int)).natAbs < 2 ^ b := by
  rw [Int.natAbs_natCast]
  exact h
end GF

namespace GF
open PySem L2 Evl
/-! ### lists of tuples -/
def TupsAt (H : Hp) (as : List Addr) (rows : List (List V)) : Prop := as.length = rows.length ∧ ∀ (i : Nat) (a : Addr) (r : List V), as[i]? = some a → rows[i]? = some r → H a = some (.tup r)
def ListT (H : Hp) (p : Addr) (rows : List (List V)) : Prop := ∃ as : List Addr, H p = some (.lst (as.map V.ref)) ∧ TupsAt H as rows
theorem TupsAt.mono {H H' : Hp} {as : List Addr} {rows : List (List V)} (h : TupsAt H as rows) (e : Ex H H') : TupsAt H' as rows := ⟨h.1, fun i a r h1 h2 => e _ _ (h.2 i a r h1 h2)⟩
theorem TupsAt.nil {H : Hp} : TupsAt H [] [] := ⟨rfl, fun i a r h => by simp at h⟩
theorem ListT.mono {H H' : Hp} {p : Addr} {rows : List (List V)} (h : ListT H p rows) (e : Ex H H') : ListT H' p rows := by
  obtain ⟨as, h1, h2⟩ := h
  exact ⟨as, e _ _ h1, h2.mono e⟩
theorem TupsAt.snoc {H : Hp} {as : List Addr} {rows : List (List V)} {a : Addr} {r : List V} (h : TupsAt H as rows) (ha : H a = some (.tup r)) : TupsAt H (as ++ [a]) (rows ++ [r]) := by
  refine ⟨by rw [List.length_append, List.length_append, h.1]; rfl, fun i b s h1 h2 => ?_⟩
  by_cases hi : i < as.length
  · rw [List.getElem?_append_left hi] at h1
    rw [List.getElem?_append_left (by rw [← h.1]; exact hi)] at h2
    exact h.2 i b s h1 h2
  · rw [List.getElem?_append_right (by omega)] at h1
    rw [List.getElem?_append_right (by rw [← h.1]; omega)] at h2
    by_cases h0 : i - as.length = 0
    · rw [h0] at h1
      rw [← h.1, h0] at h2
      have e1 : a = b := Option.some.inj h1
      have e2 : r = s := Option.some.inj h2
      rw [← e1, ← e2]
      exact ha
    · obtain ⟨m, hm⟩ : ∃ m, i - as.length = m + 1 := ⟨i - as.length - 1, by omega⟩
      rw [hm] at h1
      simp at h1
theorem TupsAt.cons {H : Hp} {as : List Addr} {rows : List (List V)} {a : Addr} {r : List V} (ha : H a = some (.tup r)) (h : TupsAt H as rows) : TupsAt H (a :: as) (r :: rows) := by
  refine ⟨by rw [List.length_cons, List.length_cons, h.1], fun i b s h1 h2 => ?_⟩
  cases i with
  | zero =>
    have e1 : a = b := Option.some.inj h1
    have e2 : r = s := Option.some.inj h2
    rw [← e1, ← e2]
    exact ha
  | succ i => exact h.2 i b s h1 h2
/-- a store to a list leaves the tuples -/
theorem TupsAt.upd {H : Hp} {as : List Addr} {rows : List (List V)} {l : Addr} {xs ys : List V} (h : TupsAt H as rows) (hl : H l = some (.lst xs)) : TupsAt (upd H l (.lst ys)) as rows := ⟨h.1, fun i a r h1 h2 => by
  have q := h.2 i a r h1 h2
  rw [upd_ne (ne_of q hl (by intro z; cases z))]
  exact q⟩
section
variable {K : PySem.W.Frag} {σ : L2.St} {H H' : Hp} {ta tb tc te tl : TE} {x y z v u w m : V} {D : Ends} {tz tu : TS} {g : TG}
/-- arguments that are new tuples -/
def EvAU (t : TA) (σ : L2.St) (H : Hp) (rows : List (List V)) : Prop := ∀ H1, Ex H H1 → ∀ Q : List V → Hp → Prop, (∀ as H2, Ex H1 H2 → TupsAt H2 as rows → Q (as.map V.ref) H2) → t σ H1 Q
theorem eau_nil : EvAU tNil σ H [] := fun H1 _ Q q => q [] H1 (Ex.refl H1) .nil
theorem eau_cons {tr : TA} {r : List V} {rows : List (List V)} (h : EvU te σ H r) (hr : EvAU tr σ H rows) : EvAU (tCons te tr) σ H (r :: rows) := fun H1 e Q q =>
  h H1 e _ fun p H2 _ e2 hp => hr H2 (e.trans e2) _ fun as H3 e3 h3 => q (p :: as) H3 (e2.trans e3) (.cons (e3 p _ hp) h3)
theorem at_row {H : Hp} {as : List Addr} {rows : List (List V)} {j : Nat} {r : List V} (h : TupsAt H as rows) (hj : rows[j]? = some r) : ∃ a, as[j]? = some a ∧ H a = some (.tup r) := by
  have hlt : j < as.length := by
    rw [h.1]
    exact (List.getElem?_eq_some_iff.mp hj).1
  exact ⟨as[j], List.getElem?_eq_getElem hlt, h.2 j _ r (List.getElem?_eq_getElem hlt) hj⟩
/-- unpacking a tuple of three -/
theorem g_3 {i j l : Nat} {T : Addr} {Q : L2.St → Hp → Prop} (h : H T = some (.tup [u, w, m])) (k : Q (((σ.set i (some u)).set j (some w)).set l (some m)) H) : gTup K 3 (gCons (gName i) (gCons (gName j) (gCons (gName l) gNil))) (.ref T) σ H Q :=
  ⟨T, _, rfl, .inl (.inl h), rfl, u, _, rfl, w, _, rfl, m, _, rfl, rfl, k⟩
theorem g_2 {i j : Nat} {T : Addr} {Q : L2.St → Hp → Prop} (h : H T = some (.tup [u, w])) (k : Q ((σ.set i (some u)).set j (some w)) H) : gTup K 2 (gCons (gName i) (gCons (gName j) gNil)) (.ref T) σ H Q :=
  ⟨T, _, rfl, .inl (.inl h), rfl, u, _, rfl, w, _, rfl, rfl, k⟩
/-- a, b, c = (.., .., ..)[k] -/
theorem q_menu3 {i j l : Nat} {t : TA} {rows : List (List V)} {k : Int} {n : Nat} (h : EvAU t σ H rows) (hi : Ev tb σ H (.int k)) (hz : rows.length ≤ 100000) (hk : k = (n : Int)) (hr : rows[n]? = some [u, w, m])
    (q : ∀ H1, Ex H H1 → tz D (((σ.set i (some u)).set j (some w)).set l (some m)) H1) :
    tSeq (tAsg (tOp (rIxT K) (tTup t) tb) (gTup K 3 (gCons (gName i) (gCons (gName j) (gCons (gName l) gNil))))) tz D σ H :=
  h H (Ex.refl H) _ fun as H1 e1 h1 => ⟨sz_of (by rw [List.length_map, h1.1]; exact hz), fun p hp => hi _ (e1.trans (Ex.new hp)) _ fun H2 e2 => by
    obtain ⟨a, ha, hta⟩ := at_row h1 hr
    have hap : H2 a = some (.tup [u, w, m]) := e2 _ _ (Ex.new hp a _ hta)
    refine ⟨p, as.map V.ref, k, .ref a, rfl, rfl, .inl (.inl (e2 _ _ upd_same)), ?_, g_3 hap (q H2 ((e1.trans (Ex.new hp)).trans e2))⟩
    subst hk
    exact atI_nat (by rw [List.getElem?_map, ha]; rfl)⟩
/-- a, b, c = x, [], z -/
theorem q_par3L {i j l : Nat} {xs : List V} (ha : Ev ta σ H u) (hl : EvL tl σ H xs) (hc : Ev tc σ H m) (k : ∀ p H1, H p = none → Ex H H1 → H1 p = some (.lst xs) → tz D (((σ.set i (some u)).set j (some (.ref p))).set l (some m)) H1) :
    tSeq (tPar3 i j l (tCons ta (tCons tl (tCons tc tNil)))) tz D σ H :=
  ha H (Ex.refl H) _ fun H1 e1 => hl H1 e1 _ fun p H2 hp e2 h2 => hc H2 (e1.trans e2) _ fun H3 e3 => ⟨u, .ref p, m, rfl, k p H3 (fresh_back e1 hp) ((e1.trans e2).trans e3) (e3 _ _ h2)⟩
/-- what follows is shown once -/
theorem q_rest {tu : TS} (J : L2.St → Hp → Prop) (h1 : ∀ σ' H', J σ' H' → tz D σ' H') (h2 : (∀ σ' H', J σ' H' → tz D σ' H') → tSeq tu tz D σ H) : tSeq tu tz D σ H := h2 h1
/-- what a call hands back, by a word -/
def EvN (te : TE) (σ : L2.St) (H : Hp) (Post : V → Hp → Prop) : Prop := ∀ H1, Ex H H1 → ∀ Q : VK, (∀ v H2, Ex H1 H2 → Post v H2 → Q v H2) → te σ H1 Q
/-- a promise by a word of the value and the heap behind; what was tracked stands -/
def spN (r : Hp → List V → (V → Hp → Prop) → Prop) : Sp := fun vs H Q _ => ∃ Post, r H vs Post ∧ ∀ v H2, Ex H H2 → Post v H2 → Q v H2
theorem en_call {r : Hp → List V → (V → Hp → Prop) → Prop} {E : XK} {t : TA} {vs : List V} {Post : V → Hp → Prop} (h : EvA t σ H vs) (hr : ∀ H1, Ex H H1 → r H1 vs Post) : EvN (tCall (spN r) [] E t) σ H Post := fun H1 e Q q =>
  h H1 e _ fun H2 e2 => by
    show spN r (vs ++ []) H2 Q E
    rw [List.append_nil]
    exact ⟨Post, hr H2 (e.trans e2), fun v H3 e3 hp => q v H3 (e2.trans e3) hp⟩
/-- the argument a new list -/
theorem en_callL {r : Hp → List V → (V → Hp → Prop) → Prop} {E : XK} {xs : List V} {Post : V → Hp → Prop} (h : EvL te σ H xs) (hr : ∀ p H1, Ex H H1 → H1 p = some (.lst xs) → r H1 [.ref p] Post) : EvN (tCall (spN r) [] E (tCons te tNil)) σ H Post := fun H1 e Q q =>
  h H1 e _ fun p H2 _ e2 hp => ⟨Post, hr p H2 (e.trans e2) hp, fun v H3 e3 hP => q v H3 (e2.trans e3) hP⟩
/-- the argument what another call hands back -/
theorem en_callN {r : Hp → List V → (V → Hp → Prop) → Prop} {E : XK} {Mid Post : V → Hp → Prop} (h : EvN te σ H Mid) (hr : ∀ v H1, Ex H H1 → Mid v H1 → r H1 [v] Post) : EvN (tCall (spN r) [] E (tCons te tNil)) σ H Post := fun H1 e Q q =>
  h H1 e _ fun p H2 e2 hp => ⟨Post, hr p H2 (e.trans e2) hp, fun v H3 e3 hP => q v H3 (e2.trans e3) hP⟩
theorem en_of (h : Ev te σ H v) : EvN te σ H (fun v' H' => v' = v ∧ Ex H H') := fun H1 e Q q => h H1 e _ fun H2 e2 => q v H2 e2 ⟨rfl, e.trans e2⟩
theorem q_asgN {i : Nat} {Post : V → Hp → Prop} (h : EvN te σ H Post) (k : ∀ v H1, Ex H H1 → Post v H1 → tz D (σ.set i (some v)) H1) : tSeq (tAsg te (gName i)) tz D σ H := h H (Ex.refl H) _ fun v H1 e hp => k v H1 e hp
theorem s_retN {Post : V → Hp → Prop} (h : EvN te σ H Post) (k : ∀ v H1, Ex H H1 → Post v H1 → D.rt v H1) : tRet te D σ H := h H (Ex.refl H) _ fun v H1 e hp => k v H1 e hp
/-- unpacking a pair of a thing and a tuple of three -/
theorem g_1_3 {i j l n : Nat} {T T2 : Addr} {Q : L2.St → Hp → Prop} (h : H T = some (.tup [x, .ref T2])) (h2 : H T2 = some (.tup [u, w, m])) (k : Q ((((σ.set n (some x)).set i (some u)).set j (some w)).set l (some m)) H) :
    gTup K 2 (gCons (gName n) (gCons (gTup K 3 (gCons (gName i) (gCons (gName j) (gCons (gName l) gNil)))) gNil)) (.ref T) σ H Q :=
  ⟨T, _, rfl, .inl (.inl h), rfl, x, _, rfl, .ref T2, _, rfl, T2, _, rfl, .inl (.inl h2), rfl, u, _, rfl, w, _, rfl, m, _, rfl, rfl, rfl, k⟩
/-- for i, row in enumerate(a list of tuples) -/
theorem s_enumRows {Post : V → Hp → Prop} (h : EvN tl σ H Post)
    (hs : ∀ v H1, Ex H H1 → Post v H1 → ∃ (p : Addr) (as : List Addr) (rows : List (List V)) (Pv : Nat → L2.St → Hp → Prop), v = .ref p ∧ H1 p = some (.lst (as.map V.ref)) ∧ TupsAt H1 as rows ∧ Pv 0 σ H1 ∧
      (∀ i σ' H', Pv i σ' H' → H' p = some (.lst (as.map V.ref)) ∧ TupsAt H' as rows) ∧
      (∀ (n : Nat) row σ' H' T T2, rows[n]? = some row → Pv n σ' H' → H' T = none → H' T2 = some (.tup row) → g (.ref T) σ' (upd H' T (.tup [.int (n : Int), .ref T2])) fun σ2 H2 => tu { D with nx := Pv (n + 1), ct := Pv (n + 1), bk := D.nx } σ2 H2) ∧
      (∀ σ' H', Pv rows.length σ' H' → D.nx σ' H')) : tFor (iEnum K (tCons tl tNil)) g tu D σ H :=
  h H (Ex.refl H) _ fun v H1 e1 hp => by
    obtain ⟨p, as, rows, Pv, rfl, hl, ht, h0, keep, turn, done⟩ := hs v H1 e1 hp
    refine ⟨p, as.map V.ref, rfl, sq_of hl, fun i m σ' H' => i + m = rows.length ∧ Pv i σ' H', ⟨rows.length, Nat.zero_add _, h0⟩, ?_⟩
    rintro i m σ' H' ⟨him, hv⟩
    obtain ⟨k1, k2⟩ := keep i σ' H' hv
    by_cases hi : i < rows.length
    · have hia : i < as.length := by rw [ht.1]; exact hi
      have ha : (as.map V.ref)[i]? = some (.ref as[i]) := by rw [List.getElem?_map, List.getElem?_eq_getElem hia]; rfl
      refine .inr ⟨⟨_, _, sq_of k1, ha⟩, Pv (i + 1), fun σ2 H2 hN => ⟨m - 1, by omega, by omega, hN⟩, ?_⟩
      rintro x H2 ⟨T, x2, rfl, hT, rfl, hx⟩
      have ex2 : x2 = .ref as[i] := Option.some.inj ((hx _ (sq_of k1)).symm.trans ha)
      subst ex2
      exact turn i rows[i] σ' H' T as[i] (List.getElem?_eq_getElem hi) hv hT (k2.2 i _ _ (List.getElem?_eq_getElem hia) (List.getElem?_eq_getElem hi))
    · have e : i = rows.length := by omega
      subst e
      exact .inl ⟨⟨_, sq_of k1, by rw [List.length_map, ht.1]; exact Nat.le_refl _⟩, done σ' H' hv⟩
theorem q_enumRows {Post : V → Hp → Prop} (h : EvN tl σ H Post)
    (hs : ∀ v H1, Ex H H1 → Post v H1 → ∃ (p : Addr) (as : List Addr) (rows : List (List V)) (Pv : Nat → L2.St → Hp → Prop), v = .ref p ∧ H1 p = some (.lst (as.map V.ref)) ∧ TupsAt H1 as rows ∧ Pv 0 σ H1 ∧
      (∀ i σ' H', Pv i σ' H' → H' p = some (.lst (as.map V.ref)) ∧ TupsAt H' as rows) ∧
      (∀ (n : Nat) row σ' H' T T2, rows[n]? = some row → Pv n σ' H' → H' T = none → H' T2 = some (.tup row) → g (.ref T) σ' (upd H' T (.tup [.int (n : Int), .ref T2])) fun σ2 H2 => tu { D with nx := Pv (n + 1), ct := Pv (n + 1), bk := tz D } σ2 H2) ∧
      (∀ σ' H', Pv rows.length σ' H' → tz D σ' H')) : tSeq (tFor (iEnum K (tCons tl tNil)) g tu) tz D σ H :=
  s_enumRows (D := { D with nx := tz D }) h hs
/-- a loop over a list of tuples that a call hands back -/
theorem s_forRows {Post : V → Hp → Prop} (h : EvN tl σ H Post) (Pv : Nat → L2.St → Prop) (h0 : Pv 0 σ)
    (hs : ∀ v H1, Ex H H1 → Post v H1 → ∃ (p : Addr) (rows : List (List V)), v = .ref p ∧ ListT H1 p rows ∧
      (∀ n row σ' H' T, rows[n]? = some row → Pv n σ' → Ex H1 H' → H' T = some (.tup row) → g (.ref T) σ' H' fun σ2 H2 => tu { D with nx := fun σ3 H3 => Pv (n + 1) σ3 ∧ Ex H1 H3, ct := fun σ3 H3 => Pv (n + 1) σ3 ∧ Ex H1 H3, bk := D.nx } σ2 H2) ∧
      (∀ σ' H', Pv rows.length σ' → Ex H1 H' → D.nx σ' H')) : tFor (iList K tl) g tu D σ H :=
  h H (Ex.refl H) _ fun v H1 e1 hp => by
    obtain ⟨p, rows, rfl, ⟨as, hl, ht⟩, turn, done⟩ := hs v H1 e1 hp
    refine ⟨p, rfl, ⟨_, sq_of hl⟩, for_list (K := K) (xs := as.map V.ref) (fun n σ' H' => Pv n σ' ∧ Ex H1 H') ⟨h0, Ex.refl H1⟩ (fun n σ' H' _ q => sq_of (q.2 _ _ hl)) ?_ ?_⟩
    · rintro n x σ' H' hx ⟨hv, e2⟩
      rw [List.getElem?_map] at hx
      cases ha : as[n]? with
      | none =>
        rw [ha] at hx
        cases hx
      | some T =>
        rw [ha] at hx
        have ex : V.ref T = x := Option.some.inj hx
        rw [← ex]
        have hlt : n < rows.length := by
          rw [← ht.1]
          exact (List.getElem?_eq_some_iff.mp ha).1
        exact turn n rows[n] σ' H' T (List.getElem?_eq_getElem hlt) hv e2 (e2 _ _ (ht.2 n T _ ha (List.getElem?_eq_getElem hlt)))
    · rintro σ' H' ⟨hv, e2⟩
      rw [List.length_map, ht.1] at hv
      exact done σ' H' hv e2
theorem q_forRows {Post : V → Hp → Prop} (h : EvN tl σ H Post) (Pv : Nat → L2.St → Prop) (h0 : Pv 0 σ)
    (hs : ∀ v H1, Ex H H1 → Post v H1 → ∃ (p : Addr) (rows : List (List V)), v = .ref p ∧ ListT H1 p rows ∧
      (∀ n row σ' H' T, rows[n]? = some row → Pv n σ' → Ex H1 H' → H' T = some (.tup row) → g (.ref T) σ' H' fun σ2 H2 => tu { D with nx := fun σ3 H3 => Pv (n + 1) σ3 ∧ Ex H1 H3, ct := fun σ3 H3 => Pv (n + 1) σ3 ∧ Ex H1 H3, bk := tz D } σ2 H2) ∧
      (∀ σ' H', Pv rows.length σ' → Ex H1 H' → tz D σ' H')) : tSeq (tFor (iList K tl) g tu) tz D σ H :=
  s_forRows (D := { D with nx := tz D }) h Pv h0 hs
end
/-! ### further values -/
section
variable {K : PySem.W.Frag} {σ : L2.St} {H H' : Hp} {ta tb tc te tl : TE} {t : TT} {x y z v : V} {D : Ends} {tz tu : TS}
theorem el_if {b : Bool} {xs : List V} (h : EvT t σ H b) (h1 : b = true → EvL ta σ H xs) (h2 : b = false → EvL tb σ H xs) : EvL (tIf t ta tb) σ H xs := fun H1 e Q q => h H1 e _ fun H2 e2 => by
  cases b with
  | true =>
    show ta σ H2 Q
    exact h1 rfl H2 (e.trans e2) Q fun p H3 hp e3 h3 => q p H3 (fresh_back e2 hp) (e2.trans e3) h3
  | false =>
    show tb σ H2 Q
    exact h2 rfl H2 (e.trans e2) Q fun p H3 hp e3 h3 => q p H3 (fresh_back e2 hp) (e2.trans e3) h3
theorem rv_eqS {i j : Str} : RV rEq (.str i) (.str j) H (.bl (decide (i = j))) := fun H1 _ Q q => ⟨rfl, by
  have e : decide (V.str i = V.str j) = decide (i = j) := by
    by_cases h : i = j
    · subst h
      simp
    · rw [decide_eq_false h, decide_eq_false (fun z => h (V.str.inj z))]
  rw [e]
  exact q H1 (Ex.refl H1)⟩
theorem rv_neS {i j : Str} : RV rNe (.str i) (.str j) H (.bl (!decide (i = j))) := fun H1 _ Q q => ⟨rfl, by
  have e : decide (V.str i = V.str j) = decide (i = j) := by
    by_cases h : i = j
    · subst h
      simp
    · rw [decide_eq_false h, decide_eq_false (fun z => h (V.str.inj z))]
  rw [e]
  exact q H1 (Ex.refl H1)⟩
/-- data at any depth stays -/
theorem dp_ex (e : Ex H H') {v : V} {d : PyData} (h : Dp K H v d) : Dp K H' v d :=
  Dp.rec (motive_1 := fun v d _ => Dp K H' v d) (motive_2 := fun vs ds _ => DpAll K H' vs ds) .non (fun b => .bl b) (fun i => .int i) (fun x => .str x) (fun hs _ ih => .lst (ex_l e hs) ih) (fun hs _ ih => .tup (ex_t e hs) ih) .nil (fun _ _ i1 i2 => .cons i1 i2) h
theorem rv_eqD {d f : PyData} (h1 : Dp K H x d) (h2 : Dp K H y f) (s1 : SeqAt.shaped d = true) (s2 : SeqAt.shaped f = true) : RV (rEqD K) x y H (.bl (PyData.eqv d f)) := fun H1 e _ q => ⟨d, f, dp_ex e h1, dp_ex e h2, s1, s2, q H1 (Ex.refl H1)⟩
theorem rv_neD {d f : PyData} (h1 : Dp K H x d) (h2 : Dp K H y f) (s1 : SeqAt.shaped d = true) (s2 : SeqAt.shaped f = true) : RV (rNeD K) x y H (.bl (!PyData.eqv d f)) := fun H1 e _ q => ⟨d, f, dp_ex e h1, dp_ex e h2, s1, s2, q H1 (Ex.refl H1)⟩
end
theorem cut63 (ns : List Int) : cutV (ns.map V.int) none (some 63) = (ns.take 63).map V.int := by
  unfold cutV
  rw [HT.sIx_none, show HT.sIx (ns.map V.int).length (ns.map V.int).length (some 63) = min 63 (ns.map V.int).length from HT.sIx_nat _ _ 63]
  rw [List.drop_zero, Nat.sub_zero, List.map_take, List.length_map]
  by_cases h : 63 ≤ ns.length
  · rw [Nat.min_eq_left h]
  · rw [Nat.min_eq_right (by omega), List.take_of_length_le (by rw [List.length_map]; omega), List.take_of_length_le (by rw [List.length_map]; omega)]
theorem cutTake (xs : List V) (n : Nat) : cutV xs none (some (n : Int)) = xs.take n := by
  unfold cutV
  rw [HT.sIx_none, show HT.sIx xs.length xs.length (some (n : Int)) = min n xs.length from HT.sIx_nat _ _ n, List.drop_zero, Nat.sub_zero]
  by_cases h : n ≤ xs.length
  · rw [Nat.min_eq_left h]
  · rw [Nat.min_eq_right (by omega), List.take_of_length_le (Nat.le_refl _), List.take_of_length_le (by omega)]
theorem TupsAt.take {H : Hp} {as : List Addr} {rows : List (List V)} (h : TupsAt H as rows) (n : Nat) : TupsAt H (as.take n) (rows.take n) := by
  refine ⟨by rw [List.length_take, List.length_take, h.1], fun i a r h1 h2 => ?_⟩
  rw [List.getElem?_take] at h1 h2
  split at h1
  · rename_i hi
    rw [if_pos hi] at h2
    exact h.2 i a r h1 h2
  · cases h1
theorem tup_stays {H : Hp} {a l : Addr} {r xs ys : List V} (h : H a = some (.tup r)) (hl : H l = some (.lst xs)) : upd H l (.lst ys) a = some (.tup r) := by
  rw [upd_ne (ne_of h hl (by intro z; cases z))]
  exact h
theorem args2 {a b c d : Int} (h1 : a = b) (h2 : c = d) : [V.int a, V.int c] = [V.int b, V.int d] := by rw [h1, h2]
theorem args1 {a b : Int} (h1 : a = b) : [V.int a] = [V.int b] := by rw [h1]
theorem args3 {a b c d e f : Int} (h1 : a = b) (h2 : c = d) (h3 : e = f) : [V.int a, V.int c, V.int e] = [V.int b, V.int d, V.int f] := by rw [h1, h2, h3]
end GF

namespace GF
open PySem L2 Evl
/-! ### one of two readings -/
def tAlt (t t' : TE) : TE := fun σ H Q => t σ H Q ∨ t' σ H Q
theorem pe_alt {X : Cx} {e : Expr} {t t' : TE} (h : PE X e t) (h' : PE X e t') : PE X e (tAlt t t') := ⟨fun pins s σ H Q I q => q.elim (fun z => h.run pins s σ H Q I z) fun z => h'.run pins s σ H Q I z⟩
/-! ### C(), C a class without __init__ -/
structure MkN (K : PySem.W.Frag) (C : Addr) : Prop where
  makes : PySem.W.makesIn K C = true
  init : PySem.W.findIn K (.ref C) "__init__" = some (some (.builtin "object.__init__"))
  kp : PySem.W.keepIn K (.ref C) = true
def tMakeN (C : Addr) : TE := fun _ H Q => ∀ x dx, H x = none → H dx = none → dx ≠ x → Q (.ref x) (upd (upd H dx (.own x)) x (.ins C dx []))
theorem run_makeN {X : Cx} {C : Addr} {pins : List (Addr × Obj)} {σ : L2.St} {H : Hp} {s : Shared} {Q : VK} (M : MkN X.K C) (I : Inv X pins σ H s) (h : tMakeN C σ H Q) :
    wpAny (model X.prog X.w) X.A (call (.ref C) []) (EP X pins σ Q) X.xe s := by
  have hq := h (s.heap.objs.size + 1) s.heap.objs.size (I.hok.fresh (Nat.le_succ _)) (I.hok.fresh (Nat.le_refl _)) (Nat.ne_of_lt (Nat.lt_succ_self _))
  have I2 := Inv.made (C := C) I
  have KX := I.kIn
  obtain ⟨hh, g, d, t, os⟩ := s
  have Y := PySem.W.makes_of (M := model X.prog X.w) KX M.makes
  refine wpAny_call (PySem.W.make_core Y (PySem.W.looks_findIn KX M.init) (fun self => PySem.W.Looks.of_pure (PySem.W.oi_bind self)) (.inr ⟨rfl, rfl⟩) ?_)
  have hx : ((hh.push PySem.W.emptyDict).push (PySem.W.instObj C hh.objs.size)).get? (hh.objs.size + 1) = some (PySem.W.instObj C hh.objs.size) := by
    have := Heap.get?_push_size (hh.push PySem.W.emptyDict) (o := PySem.W.instObj C hh.objs.size) rfl
    rwa [Heap.size_push] at this
  have l1 : PySem.W.Looks (model X.prog X.w) ((hh.push PySem.W.emptyDict).push (PySem.W.instObj C hh.objs.size)) (typeOf (.ref (hh.objs.size + 1))) (.ref C) := (PySem.W.Looks.ld hx).andThen .now
  have l2 : PySem.W.Looks (model X.prog X.w) ((hh.push PySem.W.emptyDict).push (PySem.W.instObj C hh.objs.size)) (isInstance (.ref (hh.objs.size + 1)) (.type "object")) true :=
    l1.andThen (Y.top.keeps fun b o e => Heap.get?_push_of_some _ (Heap.get?_push_of_some _ e))
  refine codeAny_call_builtin PySem.W.oi_plain PySem.W.entry_oi (@PySem.W.check_slot (model X.prog X.w) _ _ _ "object.__init__" "object" "__init__" (.ref (hh.objs.size + 1)) [] [] _ PySem.W.oi_kind PySem.W.oi_split l2 (PySem.W.oi_args (.ref (hh.objs.size + 1))) ?_)
  rw [PySem.W.oi_run]
  exact wpAny_pure ⟨rfl, .ref (hh.objs.size + 1), _, I2, rfl, hq⟩
theorem pe_makeN {X : Cx} {C : Addr} {x : Str} {p pos : Pos} (M : MkN X.K C) (hg : Gl X x) (hm : X.mg x = some (.ref C)) (hdb : (x == ("__debug__" : Str)) = false := by decide) : PE X (.Call (.Name x p) [] [] pos) (tMakeN C) := by
  refine ⟨fun pins s σ H Q I h => ?_⟩
  exact wpAny_Call_Name_kw (ld_glob I hg hm (PySem.W.callWith_K0 I.kIn M.kp (run_makeN M I h)) hdb)
/-! ### values that are new instances -/
def EvI (te : TE) (σ : L2.St) (H : Hp) (C : Addr) (fs : List (Str × V)) : Prop := ∀ H1, Ex H H1 → ∀ Q : VK, (∀ p dx H2, H1 p = none → Ex H1 H2 → H2 p = some (.ins C dx fs) → Q (.ref p) H2) → te σ H1 Q
/-- a promise by a relation of the heap, the arguments and the value -/
def spH (r : Hp → List V → V → Prop) : Sp := fun vs H Q _ => ∃ v, r H vs v ∧ ∀ H2, Ex H H2 → Q v H2
/-- __init__ that stores one field -/
def spInit (C : Addr) (f : Str) : Sp := fun vs H Q _ => ∃ (x dx : Addr) (v : V), vs = [.ref x, v] ∧ H x = some (.ins C dx []) ∧ Q .non (upd H x (.ins C dx [(f, v)]))
theorem look_same {f : Str} {v : V} : ([(f, v)] : List (Str × V)).lookup f = some v := by simp [List.lookup]
theorem look_other {f g : Str} {v : V} (h : (g == f) = false) : ([(f, v)] : List (Str × V)).lookup g = none := by simp [List.lookup, h]
section
variable {K : PySem.W.Frag} {σ : L2.St} {H H' : Hp} {ta tb tc te tl : TE} {x y z v : V} {C : Addr} {fs : List (Str × V)}
theorem ev_alt1 {t t' : TE} (h : Ev t σ H v) : Ev (tAlt t t') σ H v := fun H1 e Q q => .inl (h H1 e Q q)
theorem ev_alt2 {t t' : TE} (h : Ev t' σ H v) : Ev (tAlt t t') σ H v := fun H1 e Q q => .inr (h H1 e Q q)
theorem ei_makeN : EvI (tMakeN C) σ H C [] := fun H1 _ Q q x dx hx hdx ne => by
  have n2 : upd H1 dx (.own x) x = none := by
    rw [upd_ne (Ne.symm ne)]
    exact hx
  exact q x dx _ hx ((Ex.new hdx).trans (Ex.new n2)) upd_same
theorem ei_make {f : Str} {E : XK} {t : TA} (h : EvA t σ H [v]) : EvI (tMake C (spInit C f) [] E t) σ H C [(f, v)] := fun H1 e Q q => h H1 e _ fun H2 e2 x dx hx hdx ne => by
  have n2 : upd H2 dx (.own x) x = none := by
    rw [upd_ne (Ne.symm ne)]
    exact hx
  refine ⟨x, dx, v, rfl, upd_same, rfl, ?_⟩
  rw [upd_upd]
  exact q x dx _ (fresh_back e2 hx) (e2.trans ((Ex.new hdx).trans (Ex.new n2))) upd_same
theorem ev_h {r : Hp → List V → V → Prop} {E : XK} {t : TA} {vs : List V} (h : EvA t σ H vs) (hr : ∀ H1, Ex H H1 → r H1 vs v) : Ev (tCall (spH r) [] E t) σ H v := by
  refine ev_call h ?_
  rw [List.append_nil]
  exact fun H1 e1 Q q E => ⟨v, hr H1 e1, fun H2 e2 => q H2 e2⟩
theorem ev_meth {r : Hp → List V → V → Prop} {m : Str} {E : XK} {t : TA} {vs : List V} {a dx : Addr} (ha : Ev ta σ H (.ref a)) (hi : H a = some (.ins C dx fs)) (hl : fs.lookup m = none) (h : EvA t σ H vs) (hr : ∀ H1, Ex H H1 → r H1 (.ref a :: vs) v) :
    Ev (tMeth C m (spH r) [] E ta t) σ H v := fun H1 e Q q => ha H1 e _ fun H2 e2 => ⟨a, dx, fs, rfl, e2 _ _ (e _ _ hi), hl, h H2 (e.trans e2) _ fun H3 e3 => by
  rw [List.append_nil]
  exact ⟨v, hr H3 ((e.trans e2).trans e3), fun H4 e4 => q H4 ((e2.trans e3).trans e4)⟩⟩
/-- the receiver just made -/
theorem ev_methI {r : Hp → List V → V → Prop} {m : Str} {E : XK} {t : TA} {vs : List V} (ha : EvI ta σ H C fs) (hl : fs.lookup m = none) (h : EvA t σ H vs) (hr : ∀ a dx H1, Ex H H1 → H1 a = some (.ins C dx fs) → r H1 (.ref a :: vs) v) :
    Ev (tMeth C m (spH r) [] E ta t) σ H v := fun H1 e Q q => ha H1 e _ fun a dx H2 _ e2 h2 => ⟨a, dx, fs, rfl, h2, hl, h H2 (e.trans e2) _ fun H3 e3 => by
  rw [List.append_nil]
  exact ⟨v, hr a dx H3 ((e.trans e2).trans e3) (e3 _ _ h2), fun H4 e4 => q H4 ((e2.trans e3).trans e4)⟩⟩
theorem ev_fld {f : Str} {a dx : Addr} (ha : Ev ta σ H (.ref a)) (hi : H a = some (.ins C dx fs)) (hc : Cls K C) (hn : NoAttr K C f) (hl : fs.lookup f = some v) : Ev (tFld K ta f) σ H v := fun H1 e Q q =>
  ha H1 e _ fun H2 e2 => ⟨a, C, dx, fs, v, rfl, e2 _ _ (e _ _ hi), hc, hn, hl, q H2 e2⟩
variable {D : Ends} {tz : TS}
theorem s_asgI {i : Nat} (h : EvI te σ H C fs) (k : ∀ p dx H1, H p = none → Ex H H1 → H1 p = some (.ins C dx fs) → D.nx (σ.set i (some (.ref p))) H1) : tAsg te (gName i) D σ H := h H (Ex.refl H) _ k
theorem q_asgI {i : Nat} (h : EvI te σ H C fs) (k : ∀ p dx H1, H p = none → Ex H H1 → H1 p = some (.ins C dx fs) → tz D (σ.set i (some (.ref p))) H1) : tSeq (tAsg te (gName i)) tz D σ H := h H (Ex.refl H) _ k
theorem s_retI (h : EvI te σ H C fs) (k : ∀ p dx H1, H p = none → Ex H H1 → H1 p = some (.ins C dx fs) → D.rt (.ref p) H1) : tRet te D σ H := h H (Ex.refl H) _ k
theorem rv_notBl {a b : Bool} : RV rNotB (.bl a) (.bl b) H (.bl (!decide (a = b))) := fun H1 _ _ q => ⟨a, b, rfl, rfl, q H1 (Ex.refl H1)⟩
end
section
variable {K : PySem.W.Frag} {σ : L2.St} {H H' : Hp} {ta tb tc te tl : TE} {x y z v : V} {D : Ends} {tz : TS}
theorem en_callNW {r : Hp → List V → (V → Hp → Prop) → Prop} {E : XK} {Mid Post : V → Hp → Prop} (h : EvN te σ H Mid) (hr : ∀ v H1, Ex H H1 → Mid v H1 → ∃ P', r H1 [v] P' ∧ ∀ v' H2, P' v' H2 → Post v' H2) : EvN (tCall (spN r) [] E (tCons te tNil)) σ H Post := fun H1 e Q q =>
  h H1 e _ fun p H2 e2 hp => by
    obtain ⟨P', h1, h2⟩ := hr p H2 (e.trans e2) hp
    exact ⟨P', h1, fun v H3 e3 hP => q v H3 (e2.trans e3) (h2 v H3 hP)⟩
theorem ev_cbN {r : List V → Hp → VK → Prop} {c : V} {Post : V → Hp → Prop} (h : EvN ta σ H Post) (hr : ∀ v H1, Ex H H1 → Post v H1 → RC r [v, c] H1 z) : Ev (tCB r (tCons ta (tCons (tC c) tNil))) σ H z := fun H1 e Q q =>
  h H1 e _ fun v H2 e2 hp => hr v H2 (e.trans e2) hp H2 (Ex.refl H2) Q fun H3 e3 => q H3 (e2.trans e3)
theorem q_parN {i j : Nat} {P1 P2 : V → Hp → Prop} (ha : EvN ta σ H P1) (hb : EvN tb σ H P2) (k : ∀ v w H1 H2, Ex H H1 → P1 v H1 → Ex H1 H2 → P2 w H2 → tz D ((σ.set i (some v)).set j (some w)) H2) : tSeq (tPar i j (tCons ta (tCons tb tNil))) tz D σ H :=
  ha H (Ex.refl H) _ fun v H1 e1 h1 => hb H1 e1 _ fun w H2 e2 h2 => ⟨v, w, rfl, k v w H1 H2 e1 h1 e2 h2⟩
/-- a new list of new tuples -/
theorem en_lstT {t : TA} {rows : List (List V)} (h : EvAU t σ H rows) (hz : rows.length ≤ 100000) : EvN (tLst t) σ H (fun v H2 => ∃ p, v = .ref p ∧ H p = none ∧ ListT H2 p rows) := fun H1 e Q q =>
  h H1 e _ fun as H2 e2 h2 => ⟨sz_of (by rw [List.length_map, h2.1]; exact hz), fun p hp => q _ _ (e2.trans (Ex.new hp)) ⟨p, rfl, fresh_back e (fresh_back e2 hp), as, upd_same, h2.mono (Ex.new hp)⟩⟩
/-- two lists of tuples, one behind the other -/
theorem en_cat {l : Addr} {rows rows2 : List (List V)} {P : Addr → Hp → Prop} (ha : Ev ta σ H (.ref l)) (hl : ListT H l rows) (hb : EvN tb σ H (fun v H2 => ∃ p, v = .ref p ∧ H p = none ∧ ListT H2 p rows2)) (hz : rows.length + rows2.length ≤ 100000) :
    EvN (tOp rCat ta tb) σ H (fun v H2 => ∃ p, v = .ref p ∧ H p = none ∧ ListT H2 p (rows ++ rows2)) := fun H1 e Q q => ha H1 e _ fun H2 e2 => hb H2 (e.trans e2) _ fun v H3 e3 hv => by
  obtain ⟨b, rfl, _, bs, hb1, hb2⟩ := hv
  obtain ⟨as, ha1, ha2⟩ := hl.mono ((e.trans e2).trans e3)
  refine ⟨l, b, as.map V.ref, bs.map V.ref, rfl, rfl, ha1, hb1, sz_of (by rw [List.length_map, List.length_map, ha2.1, hb2.1]; exact hz), fun p hp => q _ _ ((e2.trans e3).trans (Ex.new hp)) ⟨p, rfl, fresh_back ((e.trans e2).trans e3) hp, as ++ bs, ?_, ?_⟩⟩
  · rw [List.map_append]
    exact upd_same
  · have a3 := ha2.mono (Ex.new hp (o := .lst (as.map V.ref ++ bs.map V.ref)))
    have b3 := hb2.mono (Ex.new hp (o := .lst (as.map V.ref ++ bs.map V.ref)))
    refine ⟨by rw [List.length_append, List.length_append, a3.1, b3.1], fun i a r h1 h2 => ?_⟩
    by_cases hi : i < as.length
    · rw [List.getElem?_append_left hi] at h1
      rw [List.getElem?_append_left (by rw [← a3.1]; exact hi)] at h2
      exact a3.2 i a r h1 h2
    · rw [List.getElem?_append_right (by omega)] at h1
      rw [List.getElem?_append_right (by rw [← a3.1]; omega), ← a3.1] at h2
      exact b3.2 _ a r h1 h2
end
section
variable {K : PySem.W.Frag} {σ : L2.St} {H H' : Hp} {ta tb tc te tl : TE} {x y z v : V}
theorem et_yes : EvT tYes σ H true := fun H1 _ _ q => q H1 (Ex.refl H1)
theorem given_all (xs : List V) (F : V → V) : given xs.length (fun _ => true) (fun i => F (xs.getD i .non)) = xs.map F := by
  unfold given
  apply List.ext_getElem?
  intro i
  rw [List.filter_eq_self.mpr (fun _ _ => rfl), List.getElem?_map, List.getElem?_map]
  by_cases h : i < xs.length
  · rw [List.getElem?_range h, List.getElem?_eq_getElem h]
    show some (F (xs.getD i .non)) = some (F xs[i])
    rw [List.getD_eq_getElem?_getD, List.getElem?_eq_getElem h]
    rfl
  · rw [List.getElem?_eq_none (by rw [List.length_range]; omega), List.getElem?_eq_none (by omega)]
    rfl
/-- [e for x in xs] -/
theorem el_mapL {a : Addr} {xs : List V} {j : Nat} {vs : List Nat} {F : V → V} (h : Ev tl σ H (.ref a)) (hx : SqL K H a xs) (hz : xs.length ≤ 40000) (hw : ∀ x, wipe ((wipe σ vs).set j (some x)) vs = wipe σ vs)
    (he : ∀ x, x ∈ xs → ∀ H1, Ex H H1 → Ev te ((wipe σ vs).set j (some x)) H1 (F x)) : EvL (tLc (iList K tl) (gName j) tYes te vs) σ H (xs.map F) := by
  have q := el_lcL (K := K) (te := te) (t := tYes) (fun _ => true) (fun i => F (xs.getD i .non)) h hx hz hw (fun _ _ _ _ _ => et_yes) (fun i x H1 e1 hi _ => by
    have e : xs.getD i .non = x := by
      rw [List.getD_eq_getElem?_getD, hi]
      rfl
    show Ev te _ H1 (F (xs.getD i .non))
    rw [e]
    exact he x (List.mem_of_getElem? hi) H1 e1)
  rw [given_all] at q
  exact q
theorem ev_allL {bs : List Bool} (h : EvL ta σ H (bs.map V.bl)) : Ev (tCB (rAll K) (tCons ta tNil)) σ H (.bl (bs.all id)) := fun H1 e Q q => h H1 e _ fun p H2 _ e2 h2 => ⟨p, bs, rfl, sq_of h2, q H2 e2⟩
theorem ev_anyL {bs : List Bool} (h : EvL ta σ H (bs.map V.bl)) : Ev (tCB (rAny K) (tCons ta tNil)) σ H (.bl (bs.any id)) := fun H1 e Q q => h H1 e _ fun p H2 _ e2 h2 => ⟨p, bs, rfl, sq_of h2, q H2 e2⟩
theorem ev_lenNew {xs : List V} (h : EvL ta σ H xs) : Ev (tCB (fun xs H Q => ∃ p ys, xs = [V.ref p] ∧ (SqL K H p ys ∨ SqT K H p ys) ∧ Q (V.int (List.length ys : Nat)) H) (tCons ta tNil)) σ H (.int (xs.length : Nat)) := fun H1 e Q q => h H1 e _ fun p H2 _ e2 h2 => ⟨p, xs, rfl, .inl (sq_of h2), q H2 e2⟩
theorem el_catL {l : Addr} {xs ys : List V} (ha : Ev ta σ H (.ref l)) (hl : H l = some (.lst xs)) (hb : EvL tb σ H ys) (hz : xs.length + ys.length ≤ 100000) : EvL (tOp rCat ta tb) σ H (xs ++ ys) := fun H1 e Q q => ha H1 e _ fun H2 e2 => hb H2 (e.trans e2) _ fun b H3 _ e3 h3 =>
  ⟨l, b, xs, ys, rfl, rfl, e3 _ _ (e2 _ _ (e _ _ hl)), h3, sz_of hz, fun p hp => q p _ (fresh_back (e2.trans e3) hp) ((e2.trans e3).trans (Ex.new hp)) upd_same⟩
end
/-- what isinstance asks of a class of one's own -/
structure TyI (K : PySem.W.Frag) (C : Addr) : Prop where
  cl : Cls K C
  ha : PySem.W.findIn K (.ref C) "__class__" = some (some (.builtin "object.__class__"))
  hn : PySem.W.specialIn K (.builtin "object.__class__") "__get__" = some (some (.builtin "getset_descriptor.__get__"))
  htk : PySem.W.takesIn K (.builtin "object.__class__") = some true
  hm : PySem.W.mroIn K C (.type "object") = some true
theorem rc_isi_ins {K : PySem.W.Frag} {H : Hp} {a C C' dx : Addr} {fs : List (Str × V)} {b : Bool} (t : TyI K C) (h : H a = some (.ins C dx fs)) (hb : PySem.W.kitOne K (.ref C) (.ref C') = some b) : RC (rIsi K) [.ref a, .ref C'] H (.bl b) :=
  rc_isi (.own C') (fun H1 e => .base (.ins (e _ _ h) t.cl t.ha t.hn t.htk t.hm)) hb
end GF

namespace GF
/-! ### picks, reckoned -/
def binF (n : Nat) : Nat → Nat
  | 0 => 1
  | k + 1 => binF n k * (n - k) / (k + 1)
theorem binF_eq (n : Nat) : ∀ k, binF n k = bin n k
  | 0 => (bin_zero n).symm
  | k + 1 => by
    show binF n k * (n - k) / (k + 1) = _
    rw [binF_eq n k, bin_div]
theorem bin_le_R (t : Nat) {g : Nat} (h : 0 < g) : bin t g ≤ R t g := by
  obtain ⟨k, rfl⟩ : ∃ k, g = k + 1 := ⟨g - 1, by omega⟩
  exact Nat.le_add_left _ _
/-! ### plays -/
/-- the storey that is tried next -/
def nx (s g t : Nat) : Nat := min s (R (t - 1) (g - 1) + 1)
theorem nx_pos {s g t : Nat} (h : 0 < s) : 0 < nx s g t := by
  unfold nx
  omega
theorem nx_le (s g t : Nat) : nx s g t ≤ s := Nat.min_le_left _ _
/-- a play that goes on: stands x, between lo and hi, with so many glasses and tries left -/
def pl (x : Nat) : Nat → Nat → Nat → Nat → List (Nat × Bool)
  | 0, _, _, _ => []
  | t + 1, lo, hi, left => if lo < hi then (if x < lo + nx (hi - lo) left (t + 1) then (lo + nx (hi - lo) left (t + 1), true) :: pl x t lo (lo + nx (hi - lo) left (t + 1) - 1) (left - 1) else (lo + nx (hi - lo) left (t + 1), false) :: pl x t (lo + nx (hi - lo) left (t + 1)) hi left) else []
theorem pl_len (x : Nat) : ∀ t lo hi left, (pl x t lo hi left).length ≤ t
  | 0, _, _, _ => Nat.le_refl _
  | t + 1, lo, hi, left => by
    unfold pl
    split
    · split
      · exact Nat.succ_le_succ (pl_len x t _ _ _)
      · exact Nat.succ_le_succ (pl_len x t _ _ _)
    · exact Nat.zero_le _
/-- where a play stands -/
structure At (x g t lo hi left : Nat) : Prop where
  lx : lo ≤ x
  xh : x ≤ hi
  fits : hi - lo ≤ R t left
  gl : left ≤ g
theorem At.pos {x g t lo hi left : Nat} (h : At x g t lo hi left) (hl : lo < hi) : 0 < t ∧ 0 < left := by
  have hf := h.fits
  by_cases z : t = 0 ∨ left = 0
  · rw [R_zero_iff z] at hf
    omega
  · omega
theorem At.broke {x g t lo hi left : Nat} (h : At x g t lo hi left) (hl : lo < hi) (hb : x < lo + nx (hi - lo) left t) : At x g (t - 1) lo (lo + nx (hi - lo) left t - 1) (left - 1) := by
  obtain ⟨h1, h2, h3, h4⟩ := h
  have m2 : nx (hi - lo) left t ≤ R (t - 1) (left - 1) + 1 := Nat.min_le_right _ _
  exact ⟨h1, by omega, by omega, by omega⟩
theorem At.held {x g t lo hi left : Nat} (h : At x g t lo hi left) (hl : lo < hi) (hb : ¬ x < lo + nx (hi - lo) left t) : At x g (t - 1) (lo + nx (hi - lo) left t) hi left := by
  have hp := h.pos hl
  obtain ⟨h1, h2, h3, h4⟩ := h
  have hP := R_pas hp.1 hp.2
  have hx : nx (hi - lo) left t = hi - lo ∨ nx (hi - lo) left t = R (t - 1) (left - 1) + 1 := by
    unfold nx
    omega
  refine ⟨by omega, h2, ?_, h4⟩
  rcases hx with e | e
  · omega
  · omega
theorem pl_step {x g t lo hi left : Nat} (h : At x g t lo hi left) (hl : lo < hi) :
    pl x t lo hi left = if x < lo + nx (hi - lo) left t then (lo + nx (hi - lo) left t, true) :: pl x (t - 1) lo (lo + nx (hi - lo) left t - 1) (left - 1) else (lo + nx (hi - lo) left t, false) :: pl x (t - 1) (lo + nx (hi - lo) left t) hi left := by
  have hp := h.pos hl
  obtain ⟨u, rfl⟩ : ∃ u, t = u + 1 := ⟨t - 1, by omega⟩
  show (if lo < hi then _ else _) = _
  rw [if_pos hl]
  rfl
theorem pl_end (x : Nat) {t lo hi left : Nat} (h : ¬ lo < hi) : pl x t lo hi left = [] := by
  cases t with
  | zero => rfl
  | succ u =>
    show (if lo < hi then _ else _) = _
    rw [if_neg h]
/-- the whole play -/
noncomputable def play (s g x : Nat) : List (Nat × Bool) := pl x (fw s g) 0 s g
theorem At.start {s g x : Nat} (hc : 0 < g ∨ s = 0) (hx : x ≤ s) : At x g (fw s g) 0 s g := ⟨Nat.zero_le _, hx, (fw_spec hc).1, Nat.le_refl _⟩
/-! ### how many tries the law's houses take -/
theorem fw_3 {s g : Nat} (hs : s < 60000) (hg : 3 ≤ g) : fw s g ≤ 1000 := by
  have h1 : R 346 2 ≤ R 346 g := R_mono_g 346 (by omega)
  have h2 := R_two 346
  have h3 := fw_le (s := s) (g := g) (n := 346) (by omega)
  omega
theorem fw_18 {s g : Nat} (hs : s < 10 ^ 30) (hg : 18 ≤ g) : fw s g ≤ 1000 := by
  have h0 : 10 ^ 30 ≤ bin 1000 18 := by
    rw [← binF_eq]
    decide +kernel
  have h1 : R 1000 18 ≤ R 1000 g := R_mono_g 1000 hg
  have h2 : bin 1000 18 ≤ R 1000 18 := bin_le_R 1000 (by decide)
  exact fw_le (by omega)
theorem fw_small {s g : Nat} (hs : s ≤ 1000) (hg : 0 < g) : fw s g ≤ 1000 := Nat.le_trans (fw_le_self (.inl hg)) hs
end GF

namespace GF
open PySem L2 Evl
/-! ### plays as lists of pairs -/
def prV (r : Nat × Bool) : List V := [.int (r.1 : Int), .bl r.2]
def prD (r : Nat × Bool) : PyData := .tuple [.int (r.1 : Int), .bool r.2]
theorem TupsAt.tail {H : Hp} {a : Addr} {as : List Addr} {r : List V} {rows : List (List V)} (h : TupsAt H (a :: as) (r :: rows)) : H a = some (.tup r) ∧ TupsAt H as rows :=
  ⟨h.2 0 a r rfl rfl, by have := h.1; simpa using this, fun i b s h1 h2 => h.2 (i + 1) b s h1 h2⟩
theorem dpa_pairs {K : PySem.W.Frag} {H : Hp} : ∀ (as : List Addr) (l : List (Nat × Bool)), TupsAt H as (l.map prV) → DpAll K H (as.map V.ref) (l.map prD)
  | [], [], _ => .nil
  | [], _ :: _, h => by have := h.1; simp at this
  | _ :: _, [], h => by have := h.1; simp at this
  | a :: as, r :: l, h => .cons (.tup (st_of h.tail.1) (.cons (.int _) (.cons (.bl _) .nil))) (dpa_pairs as l h.tail.2)
theorem dp_pairs {K : PySem.W.Frag} {H : Hp} {p : Addr} {l : List (Nat × Bool)} (h : ListT H p (l.map prV)) : Dp K H (.ref p) (.list (l.map prD)) := by
  obtain ⟨as, h1, h2⟩ := h
  exact .lst (sq_of h1) (dpa_pairs as l h2)
theorem lay_pairs : ∀ l : List (Nat × Bool), PyData.canLayAll0 (l.map prD) = true
  | [] => by simp [PyData.canLayAll0]
  | r :: l => by
    show (PyData.canLay0 (prD r) && PyData.canLayAll0 (l.map prD)) = true
    rw [lay_pairs l, Bool.and_true]
    rfl
theorem depth_pairs : ∀ l : List (Nat × Bool), PyData.depthAll (l.map prD) ≤ 1
  | [] => Nat.zero_le _
  | r :: l => by
    have h := depth_pairs l
    show max (PyData.depth (prD r)) (PyData.depthAll (l.map prD)) ≤ 1
    have e : PyData.depth (prD r) = 1 := rfl
    omega
theorem shaped_pairs (l : List (Nat × Bool)) : SeqAt.shaped (.list (l.map prD)) = true := by
  have h := depth_pairs l
  show (PyData.canLayAll0 (l.map prD) && decide (PyData.depthAll (l.map prD) + 1 ≤ 64)) = true
  rw [lay_pairs, decide_eq_true (by omega)]
  rfl
theorem eqv_pairs : ∀ l : List (Nat × Bool), PyData.eqvAll (l.map prD) (l.map prD) = true
  | [] => by simp [PyData.eqvAll]
  | r :: l => by
    show (PyData.eqv (prD r) (prD r) && PyData.eqvAll (l.map prD) (l.map prD)) = true
    rw [eqv_pairs l, Bool.and_true]
    obtain ⟨n, b⟩ := r
    show (((n : Int) == (n : Int)) && ((b == b) && true)) = true
    simp
theorem eqv_play (l : List (Nat × Bool)) : PyData.eqv (.list (l.map prD)) (.list (l.map prD)) = true := eqv_pairs l
section
variable {K : PySem.W.Frag} {σ : L2.St} {H H' : Hp} {ta tb tc te tl : TE} {x y z v : V} {D : Ends} {tz tu : TS} {g : TG}
theorem en_callW {r : Hp → List V → (V → Hp → Prop) → Prop} {E : XK} {t : TA} {vs : List V} {Post : V → Hp → Prop} (h : EvA t σ H vs) (hr : ∀ H1, Ex H H1 → ∃ P', r H1 vs P' ∧ ∀ v H2, P' v H2 → Post v H2) : EvN (tCall (spN r) [] E t) σ H Post := fun H1 e Q q =>
  h H1 e _ fun H2 e2 => by
    obtain ⟨P', h1, h2⟩ := hr H2 (e.trans e2)
    show spN r (vs ++ []) H2 Q E
    rw [List.append_nil]
    exact ⟨P', h1, fun v H3 e3 hp => q v H3 (e2.trans e3) (h2 v H3 hp)⟩
theorem q_augE {i : Nat} {f : Int → Int → Int} {a b c : Int} (hx : σ[i]? = some (some (.int a))) (h : Ev te σ H (.int b)) (hc : f a b = c) (k : ∀ H1, Ex H H1 → tz D (σ.set i (some (.int c))) H1) : tSeq (tAug i te (ipI f)) tz D σ H :=
  q_aug hx h fun H1 e1 => by rw [hc]; exact k H1 e1
theorem s_augE {i : Nat} {f : Int → Int → Int} {a b c : Int} (hx : σ[i]? = some (some (.int a))) (h : Ev te σ H (.int b)) (hc : f a b = c) (k : ∀ H1, Ex H H1 → D.nx (σ.set i (some (.int c))) H1) : tAug i te (ipI f) D σ H :=
  s_aug hx h fun H1 e1 => by rw [hc]; exact k H1 e1
/-- for a, b in zip(xs, ys) -/
theorem q_forZip {t : TA} {a b : Addr} {xs ys : List V} (h : EvA t σ H [.ref a, .ref b]) (hx : SqL K H a xs) (hy : SqL K H b ys) (Pv : Nat → L2.St → Hp → Prop) (h0 : ∀ H1, Ex H H1 → Pv 0 σ H1) (hl : ∀ i σ' H', Pv i σ' H' → SqL K H' a xs ∧ SqL K H' b ys)
    (hs : ∀ i x y σ' H' T, xs[i]? = some x → ys[i]? = some y → Pv i σ' H' → H' T = none → g (.ref T) σ' (upd H' T (.tup [x, y])) fun σ2 H2 => tu { D with nx := Pv (i + 1), ct := Pv (i + 1), bk := tz D } σ2 H2)
    (hd : ∀ i σ' H', (xs.length ≤ i ∨ ys.length ≤ i) → Pv i σ' H' → tz D σ' H') : tSeq (tFor (iZip K t) g tu) tz D σ H :=
  h H (Ex.refl H) _ fun H1 e1 => ⟨a, b, xs, ys, rfl, ex_l e1 hx, ex_l e1 hy, fun i m σ' H' => m = xs.length - i ∧ Pv i σ' H', ⟨xs.length, rfl, h0 H1 e1⟩, by
    rintro i m σ' H' ⟨rfl, hv⟩
    obtain ⟨k1, k2⟩ := hl i σ' H' hv
    by_cases hi : i < xs.length
    · by_cases hj : i < ys.length
      · refine .inr ⟨⟨xs, ys, xs[i], ys[i], k1, k2, List.getElem?_eq_getElem hi, List.getElem?_eq_getElem hj⟩, Pv (i + 1), fun σ2 H2 hN => ⟨xs.length - (i + 1), by omega, rfl, hN⟩, ?_⟩
        rintro x H2 ⟨T, x1, x2, rfl, hT, rfl, f1, f2⟩
        exact hs i x1 x2 σ' H' T (f1 _ k1) (f2 _ k2) hv hT
      · exact .inl ⟨⟨xs, ys, k1, k2, .inr (by omega)⟩, hd i σ' H' (.inr (by omega)) hv⟩
    · exact .inl ⟨⟨xs, ys, k1, k2, .inl (by omega)⟩, hd i σ' H' (.inl (by omega)) hv⟩⟩
theorem rc_isi_lst {a : Addr} {xs : List V} {n : String} {b : Bool} (h : H a = some (.lst xs)) (hb : kitB "list" n = some b) : RC (rIsi K) [.ref a, .ty n] H (.bl b) := rc_isi (.ty n) (fun H1 e => .base (.lst (e _ _ h))) (kit_ty hb)
theorem rc_isi_tup {a : Addr} {xs : List V} {n : String} {b : Bool} (h : H a = some (.tup xs)) (hb : kitB "tuple" n = some b) : RC (rIsi K) [.ref a, .ty n] H (.bl b) := rc_isi (.ty n) (fun H1 e => .base (.tup (e _ _ h))) (kit_ty hb)
theorem rc_lenT {a : Addr} {xs : List V} (h : SqT K H a xs) : RC (fun xs H Q => ∃ p ys, xs = [V.ref p] ∧ (SqL K H p ys ∨ SqT K H p ys) ∧ Q (V.int (List.length ys : Nat)) H) [.ref a] H (.int (xs.length : Nat)) := fun H1 e _ q => ⟨a, xs, rfl, .inr (ex_t e h), q H1 (Ex.refl H1)⟩
theorem q_asg2 {i j : Nat} {T : Addr} {u w : V} (h : Ev te σ H (.ref T)) (hT : H T = some (.tup [u, w])) (k : ∀ H1, Ex H H1 → tz D ((σ.set i (some u)).set j (some w)) H1) : tSeq (tAsg te (gTup K 2 (gCons (gName i) (gCons (gName j) gNil)))) tz D σ H :=
  h H (Ex.refl H) _ fun H1 e1 => g_2 (e1 _ _ hT) (k H1 e1)
end
/-- the items of a list of tuples -/
theorem tups_item {H : Hp} {as : List Addr} {l : List (Nat × Bool)} {i : Nat} {x : V} (h : TupsAt H as (l.map prV)) (hx : (as.map V.ref)[i]? = some x) : ∃ T r, x = .ref T ∧ l[i]? = some r ∧ H T = some (.tup (prV r)) := by
  rw [List.getElem?_map] at hx
  cases ha : as[i]? with
  | none =>
    rw [ha] at hx
    cases hx
  | some T =>
    rw [ha] at hx
    have hlt : i < l.length := by
      have h1 := (List.getElem?_eq_some_iff.mp ha).1
      have h2 := h.1
      rw [List.length_map] at h2
      omega
    exact ⟨T, l[i], (Option.some.inj hx).symm, List.getElem?_eq_getElem hlt, h.2 i T _ ha (by rw [List.getElem?_map, List.getElem?_eq_getElem hlt]; rfl)⟩
theorem drop_head {α : Type} {l : List α} {i : Nat} {r : α} (h : l[i]? = some r) : l.drop i = r :: l.drop (i + 1) := by
  have hlt := (List.getElem?_eq_some_iff.mp h)
  obtain ⟨h1, h2⟩ := hlt
  rw [List.drop_eq_getElem_cons h1, h2]
end GF

namespace GF
open PySem L2 Evl
/-! ### operands by a word -/
section
variable {K : PySem.W.Frag} {σ : L2.St} {H H' : Hp} {ta tb tc te tl : TE} {x y z v : V} {D : Ends} {tz tu : TS} {g : TG} {r : R2}
theorem EvN.mono {Post : V → Hp → Prop} (e : Ex H H') (h : EvN te σ H Post) : EvN te σ H' Post := fun H1 a Q q => h H1 (e.trans a) Q q
theorem EvN.weak {P1 P2 : V → Hp → Prop} (h : EvN te σ H P1) (k : ∀ v H1, Ex H H1 → P1 v H1 → P2 v H1) : EvN te σ H P2 := fun H1 e Q q => h H1 e Q fun v H2 e2 hp => q v H2 e2 (k v H2 (e.trans e2) hp)
theorem ev_opN1 {Post : V → Hp → Prop} (ha : EvN ta σ H Post) (hb : Ev tb σ H y) (hr : ∀ v H1, Ex H H1 → Post v H1 → RV r v y H1 z) : Ev (tOp r ta tb) σ H z := fun H1 e Q q =>
  ha H1 e _ fun v H2 e2 hp => hb H2 (e.trans e2) _ fun H3 e3 => hr v H2 (e.trans e2) hp H3 e3 Q fun H4 e4 => q H4 ((e2.trans e3).trans e4)
theorem ev_opNN {P1 P2 : V → Hp → Prop} (ha : EvN ta σ H P1) (hb : EvN tb σ H P2) (hr : ∀ v w H1 H2, Ex H H1 → P1 v H1 → Ex H1 H2 → P2 w H2 → RV r v w H2 z) : Ev (tOp r ta tb) σ H z := fun H1 e Q q =>
  ha H1 e _ fun v H2 e2 hp => hb H2 (e.trans e2) _ fun w H3 e3 hw => hr v w H2 H3 (e.trans e2) hp e3 hw H3 (Ex.refl H3) Q fun H4 e4 => q H4 ((e2.trans e3).trans e4)
theorem en_ofL {xs : List V} (h : EvL te σ H xs) : EvN te σ H (fun v H2 => ∃ p, v = .ref p ∧ H p = none ∧ H2 p = some (.lst xs)) := fun H1 e Q q => h H1 e _ fun p H2 hp e2 h2 => q _ H2 e2 ⟨p, rfl, fresh_back e hp, h2⟩
/-- for i, x in enumerate(xs) -/
theorem q_enumL {t : TA} {a : Addr} {xs : List V} (h : EvA t σ H [.ref a]) (hx : SqL K H a xs) (Pv : Nat → L2.St → Hp → Prop) (h0 : ∀ H1, Ex H H1 → Pv 0 σ H1) (hl : ∀ i σ' H', Pv i σ' H' → SqL K H' a xs)
    (hs : ∀ (i : Nat) x σ' H' T, xs[i]? = some x → Pv i σ' H' → H' T = none → g (.ref T) σ' (upd H' T (.tup [.int (i : Int), x])) fun σ2 H2 => tu { D with nx := Pv (i + 1), ct := Pv (i + 1), bk := tz D } σ2 H2)
    (hd : ∀ σ' H', Pv xs.length σ' H' → tz D σ' H') : tSeq (tFor (iEnum K t) g tu) tz D σ H :=
  h H (Ex.refl H) _ fun H1 e1 => ⟨a, xs, rfl, ex_l e1 hx, fun i m σ' H' => i + m = xs.length ∧ Pv i σ' H', ⟨xs.length, Nat.zero_add _, h0 H1 e1⟩, by
    rintro i m σ' H' ⟨him, hv⟩
    have k1 := hl i σ' H' hv
    by_cases hi : i < xs.length
    · refine .inr ⟨⟨xs, xs[i], k1, List.getElem?_eq_getElem hi⟩, Pv (i + 1), fun σ2 H2 hN => ⟨m - 1, by omega, by omega, hN⟩, ?_⟩
      rintro x H2 ⟨T, x1, rfl, hT, rfl, f1⟩
      exact hs i x1 σ' H' T (f1 _ k1) hv hT
    · have e : i = xs.length := by omega
      subst e
      exact .inl ⟨⟨xs, k1, Nat.le_refl _⟩, hd σ' H' hv⟩⟩
theorem ListT.frame {D q : Addr} {xs ys : List V} {rows : List (List V)} (h : ListT H q rows) (hD : H D = some (.lst xs)) (ne : q ≠ D) : ListT (upd H D (.lst ys)) q rows := by
  obtain ⟨as, h1, h2⟩ := h
  refine ⟨as, ?_, h2.upd hD⟩
  rw [upd_ne ne]
  exact h1
/-- [e for k in range(n)], each e a new list of tuples -/
theorem en_lcT {ta : TA} {j : Nat} {vs : List Nat} {n : Int} (rows : Nat → List (List V)) (h : EvA ta σ H [.int n]) (hn : 0 ≤ n ∧ n ≤ 40000) (hw : ∀ x, wipe ((wipe σ vs).set j (some x)) vs = wipe σ vs)
    (he : ∀ (i : Nat) H1, Ex H H1 → (i : Int) < n → EvN te ((wipe σ vs).set j (some (.int (i : Int)))) H1 (fun v H2 => ∃ p, v = .ref p ∧ H1 p = none ∧ ListT H2 p (rows i))) :
    EvN (tLc (iRng1 ta) (gName j) tYes te vs) σ H (fun v H2 => ∃ (p : Addr) (ps : List Addr), v = .ref p ∧ H p = none ∧ H2 p = some (.lst (ps.map V.ref)) ∧ ps.length = n.toNat ∧ ∀ (i : Nat) q, ps[i]? = some q → ListT H2 q (rows i)) := fun H0 e Q q => h H0 e _ fun H1 e1 => ⟨n, rfl, by omega, by omega, fun Dl hD =>
  lc_range (lo := 0) (n := n.toNat) (fun i H' => Ex H1 H' ∧ ∃ ps : List Addr, H' Dl = some (.lst (ps.map V.ref)) ∧ ps.length = i ∧ ∀ (k : Nat) p, ps[k]? = some p → p ≠ Dl ∧ ListT H' p (rows k)) ⟨Ex.new hD, [], upd_same, rfl, fun k p hk => by simp at hk⟩ (fun i H' hi p => by
    have e0 : (0 : Int) + (i : Int) = (i : Int) := Int.zero_add _
    obtain ⟨p1, ps, p2, p3, p4⟩ := p
    show wipe ((wipe σ vs).set j (some (.int ((0 : Int) + (i : Int))))) vs = wipe σ vs ∧ te ((wipe σ vs).set j (some (.int ((0 : Int) + (i : Int))))) H' fun y H4 => ∃ acc, H4 Dl = some (.lst acc) ∧ acc.length < sizeLine ∧ _
    rw [e0]
    refine ⟨hw _, he i H' ((e.trans e1).trans p1) (by omega) H' (Ex.refl H') _ fun v H4 e4 hv => ?_⟩
    obtain ⟨u, rfl, hu, hlu⟩ := hv
    refine ⟨ps.map V.ref, e4 _ _ p2, sz_lt (by rw [List.length_map]; omega), Ex.mut (p1.trans e4) hD, ps ++ [u], ?_, by rw [List.length_append, p3]; rfl, fun k c hk => ?_⟩
    · rw [upd_same, List.map_append]
      rfl
    · have hne : u ≠ Dl := Ne.symm (ne_of_none p2 hu)
      by_cases hki : k < ps.length
      · rw [List.getElem?_append_left hki] at hk
        obtain ⟨k1, k2⟩ := p4 k c hk
        exact ⟨k1, (k2.mono e4).frame (e4 _ _ p2) k1⟩
      · rw [List.getElem?_append_right (by omega)] at hk
        by_cases h0 : k - ps.length = 0
        · rw [h0] at hk
          have ec : u = c := Option.some.inj hk
          have ek : k = i := by omega
          rw [← ec, ek]
          exact ⟨hne, hlu.frame (e4 _ _ p2) hne⟩
        · obtain ⟨m, hm⟩ : ∃ m, k - ps.length = m + 1 := ⟨k - ps.length - 1, by omega⟩
          rw [hm] at hk
          simp at hk) (fun H' p => by
    obtain ⟨p1, ps, p2, p3, p4⟩ := p
    exact q _ H' (e1.trans p1) ⟨Dl, ps, rfl, fresh_back (e.trans e1) hD, p2, p3, fun k c hk => (p4 k c hk).2⟩)⟩
/-- [e for a, b in zip(xs, ys)], ys a new list, each e true -/
theorem el_lcZip {i j : Nat} {vs : List Nat} {a : Addr} {xs ys : List V} (ha : Ev ta σ H (.ref a)) (hx : SqL K H a xs) (hb : EvL tb σ H ys) (hz : xs.length ≤ 40000) (hw : ∀ x y, wipe (((wipe σ vs).set i (some x)).set j (some y)) vs = wipe σ vs)
    (he : ∀ (n : Nat) x y H1, Ex H H1 → xs[n]? = some x → ys[n]? = some y → Ev te (((wipe σ vs).set i (some x)).set j (some y)) H1 (.bl true)) :
    EvN (tLc (iZip K (tCons ta (tCons tb tNil))) (gTup K 2 (gCons (gName i) (gCons (gName j) gNil))) tYes te vs) σ H (fun v H2 => ∃ (p : Addr) (m : Nat), v = .ref p ∧ H2 p = some (.lst ((List.replicate m true).map V.bl))) := fun H0 e Q q => ha H0 e _ fun H1 e1 => hb H1 (e.trans e1) _ fun b H2 hbn e2 h2 =>
  ⟨a, b, xs, ys, rfl, ex_l ((e.trans e1).trans e2) hx, sq_of h2, fun Dl hD => ⟨fun n m H' => m = xs.length - n ∧ n ≤ xs.length ∧ Ex H2 H' ∧ H' Dl = some (.lst ((List.replicate n true).map V.bl)), ⟨xs.length, rfl, Nat.zero_le _, Ex.new hD, upd_same⟩, by
    rintro n m H' ⟨rfl, hn, p1, p2⟩
    have k1 := ex_l (((e.trans e1).trans e2).trans p1) hx
    have k2 : SqL K H' b ys := sq_of (p1 _ _ h2)
    by_cases hi : n < xs.length
    · by_cases hj : n < ys.length
      · refine .inr ⟨⟨xs, ys, xs[n], ys[n], k1, k2, List.getElem?_eq_getElem hi, List.getElem?_eq_getElem hj⟩, fun H3 => n + 1 ≤ xs.length ∧ Ex H2 H3 ∧ H3 Dl = some (.lst ((List.replicate (n + 1) true).map V.bl)), fun H3 hN => ⟨xs.length - (n + 1), by omega, rfl, hN⟩, ?_⟩
        rintro x H3 ⟨T, x1, x2, rfl, hT, rfl, f1, f2⟩
        have eN := Ex.new (o := .tup [x1, x2]) hT
        refine g_2 upd_same ⟨hw _ _, ?_⟩
        show te _ _ fun y H4 => ∃ acc, H4 Dl = some (.lst acc) ∧ acc.length < sizeLine ∧ _
        refine he n x1 x2 _ ((((e.trans e1).trans e2).trans p1).trans eN) (f1 _ k1) (f2 _ k2) _ (Ex.refl _) _ fun H4 e4 => ⟨_, e4 _ _ (eN _ _ p2), sz_lt (by rw [List.length_map, List.length_replicate]; omega), hi, Ex.mut ((p1.trans eN).trans e4) hD, ?_⟩
        rw [upd_same, List.replicate_succ', List.map_append]
        rfl
      · exact .inl ⟨⟨xs, ys, k1, k2, .inr (by omega)⟩, q _ H' ((e1.trans e2).trans p1) ⟨Dl, n, rfl, p2⟩⟩
    · exact .inl ⟨⟨xs, ys, k1, k2, .inl (by omega)⟩, q _ H' ((e1.trans e2).trans p1) ⟨Dl, n, rfl, p2⟩⟩⟩⟩
theorem ev_allN {m0 : Unit} (h : EvN ta σ H (fun v H2 => ∃ (p : Addr) (m : Nat), v = .ref p ∧ H2 p = some (.lst ((List.replicate m true).map V.bl)))) : Ev (tCB (rAll K) (tCons ta tNil)) σ H (.bl true) := fun H1 e Q q => h H1 e _ fun v H2 e2 hv => by
  obtain ⟨p, m, rfl, hp⟩ := hv
  refine ⟨p, List.replicate m true, rfl, sq_of hp, ?_⟩
  have e : (List.replicate m true).all id = true := by
    rw [List.all_eq_true]
    intro b hb
    rw [(List.mem_replicate.mp hb).2]
    rfl
  rw [e]
  exact q H2 e2
theorem el_is {xs ys : List V} (h : EvL te σ H xs) (e : xs = ys) : EvL te σ H ys := by
  rw [← e]
  exact h
theorem ev_sumL {ns : List Int} (h : EvL ta σ H (ns.map V.int)) : Ev (tCB (rSum K) (tCons ta tNil)) σ H (.int ns.sum) := fun H1 e Q q => h H1 e _ fun p H2 _ e2 h2 => ⟨p, ns, rfl, sq_of h2, q H2 e2⟩
/-- all([e for x in xs]), each e true -/
theorem ev_allMap {a : Addr} {xs : List V} {j : Nat} {vs : List Nat} (h : Ev tl σ H (.ref a)) (hx : SqL K H a xs) (hz : xs.length ≤ 40000) (hw : ∀ x, wipe ((wipe σ vs).set j (some x)) vs = wipe σ vs)
    (he : ∀ x, x ∈ xs → ∀ H1, Ex H H1 → Ev te ((wipe σ vs).set j (some x)) H1 (.bl true)) : Ev (tCB (rAll K) (tCons (tLc (iList K tl) (gName j) tYes te vs) tNil)) σ H (.bl true) := by
  have q := ev_allL (K := K) (bs := xs.map fun _ => true) (el_is (el_mapL (F := fun _ => .bl true) h hx hz hw he) (by rw [List.map_map]; rfl))
  have e : (xs.map fun _ => true).all id = true := by
    rw [List.all_eq_true]
    intro b hb
    obtain ⟨_, _, rfl⟩ := List.mem_map.mp hb
    rfl
  rw [e] at q
  exact q
theorem el_listOf {p : Addr} {xs : List V} (ha : Ev ta σ H (.ref p)) (h : SqL K H p xs) : EvL (tCB (fun xs H Q => ∃ p ys, xs = [V.ref p] ∧ (SqL K H p ys ∨ SqT K H p ys) ∧ ∀ l, H l = none → Q (V.ref l) (upd H l (.lst ys))) (tCons ta tNil)) σ H xs := el_list ha h
end
/-! ### plays side by side -/
def PlaysAt (H : Hp) (ps : List Addr) (s g : Nat) (xs : List Nat) : Prop := ps.length = xs.length ∧ ∀ (i : Nat) p x, ps[i]? = some p → xs[i]? = some x → ListT H p ((play s g x).map prV)
theorem PlaysAt.mono {H H' : Hp} {ps : List Addr} {s g : Nat} {xs : List Nat} (h : PlaysAt H ps s g xs) (e : Ex H H') : PlaysAt H' ps s g xs := ⟨h.1, fun i p x h1 h2 => (h.2 i p x h1 h2).mono e⟩
theorem PlaysAt.item {H : Hp} {ps : List Addr} {s g : Nat} {xs : List Nat} {i : Nat} {v : V} (h : PlaysAt H ps s g xs) (hv : (ps.map V.ref)[i]? = some v) : ∃ p x, v = .ref p ∧ xs[i]? = some x ∧ ListT H p ((play s g x).map prV) := by
  rw [List.getElem?_map] at hv
  cases hp : ps[i]? with
  | none =>
    rw [hp] at hv
    cases hv
  | some p =>
    rw [hp] at hv
    have hlt : i < xs.length := by
      have h1 := (List.getElem?_eq_some_iff.mp hp).1
      have h2 := h.1
      omega
    exact ⟨p, xs[i], (Option.some.inj hv).symm, List.getElem?_eq_getElem hlt, h.2 i p _ hp (List.getElem?_eq_getElem hlt)⟩
theorem PlaysAt.snoc {H : Hp} {ps : List Addr} {s g : Nat} {xs : List Nat} {p : Addr} {x : Nat} (h : PlaysAt H ps s g xs) (hp : ListT H p ((play s g x).map prV)) : PlaysAt H (ps ++ [p]) s g (xs ++ [x]) := by
  refine ⟨by rw [List.length_append, List.length_append, h.1]; rfl, fun i q y h1 h2 => ?_⟩
  by_cases hi : i < ps.length
  · rw [List.getElem?_append_left hi] at h1
    rw [List.getElem?_append_left (by rw [← h.1]; exact hi)] at h2
    exact h.2 i q y h1 h2
  · rw [List.getElem?_append_right (by omega)] at h1
    rw [List.getElem?_append_right (by rw [← h.1]; omega)] at h2
    by_cases h0 : i - ps.length = 0
    · rw [h0] at h1
      rw [← h.1, h0] at h2
      have e1 : p = q := Option.some.inj h1
      have e2 : x = y := Option.some.inj h2
      rw [← e1, ← e2]
      exact hp
    · obtain ⟨m, hm⟩ : ∃ m, i - ps.length = m + 1 := ⟨i - ps.length - 1, by omega⟩
      rw [hm] at h1
      simp at h1
/-- a store to another list -/
theorem PlaysAt.frame {H : Hp} {ps : List Addr} {s g : Nat} {xs : List Nat} {D : Addr} {us ys : List V} (h : PlaysAt H ps s g xs) (hD : H D = some (.lst us)) (ne : ∀ p ∈ ps, p ≠ D) : PlaysAt (upd H D (.lst ys)) ps s g xs :=
  ⟨h.1, fun i p x h1 h2 => (h.2 i p x h1 h2).frame hD (ne p (List.mem_of_getElem? h1))⟩
theorem PlaysAt.ne {H : Hp} {ps : List Addr} {s g : Nat} {xs : List Nat} {u : Addr} (h : PlaysAt H ps s g xs) (hu : H u = none) : ∀ p ∈ ps, p ≠ u := fun p hp => by
  obtain ⟨i, hi⟩ := List.getElem?_of_mem hp
  have hlt : i < xs.length := by
    have h1 := (List.getElem?_eq_some_iff.mp hi).1
    have h2 := h.1
    omega
  obtain ⟨as, h1, _⟩ := h.2 i p _ hi (List.getElem?_eq_getElem hlt)
  exact ne_of_none h1 hu
theorem mem_cut {xs : List V} {lo hi : Option Int} {y : V} (h : y ∈ cutV xs lo hi) : y ∈ xs := by
  unfold cutV at h
  exact List.mem_of_mem_drop (List.mem_of_mem_take h)
/-! ### numbers of the law -/
theorem sum_bits {b : Nat} : ∀ ns : List Int, (∀ z ∈ ns, z.natAbs < b) → ns.sum.natAbs ≤ ns.length * b
  | [], _ => Nat.zero_le _
  | z :: ns, h => by
    have h1 := sum_bits ns fun y hy => h y (List.mem_cons_of_mem _ hy)
    have h2 := h z List.mem_cons_self
    rw [List.sum_cons, List.length_cons, Nat.add_mul]
    omega
theorem small_div {n : Nat} (h0 : 0 < n) (h : n ≤ 10 ^ 60 + 1) (i : Int) : CDivW i (n : Int) := wide_div (b := 201) (by omega) (nat_bits (Nat.lt_of_le_of_lt h (by decide))) (by decide) (by decide)
theorem mod_nat {n : Nat} (h0 : 0 < n) (i : Int) : ∃ m : Nat, i % (n : Int) = (m : Int) ∧ m < n := by
  have h1 : 0 ≤ i % (n : Int) := Int.emod_nonneg i (by omega)
  have h2 : i % (n : Int) < (n : Int) := Int.emod_lt_of_pos i (by omega)
  exact ⟨(i % (n : Int)).toNat, by omega, by omega⟩
theorem bits_lt {z : Int} {b : Nat} (h : Builtin.Int.intBits z ≤ b) : z.natAbs < 2 ^ b := by
  unfold Builtin.Int.intBits at h
  split at h
  · rename_i e
    have e' : z = 0 := by simpa using e
    subst e'
    exact Nat.pos_of_ne_zero (by simp)
  · exact Nat.lt_of_lt_of_le Nat.lt_log2_self (Nat.pow_le_pow_right (by decide) h)
def BS : Nat := 1048576
theorem sum_lt {ns : List Int} (hl : ns.length ≤ 63) (h : ∀ z ∈ ns, z.natAbs < 2 ^ BS) : ns.sum.natAbs < 2 ^ (BS + 6) := by
  have h1 := sum_bits ns h
  have e : 2 ^ (BS + 6) = 2 ^ BS * 64 := by rw [Nat.pow_add]
  have h2 : 0 < 2 ^ BS := Nat.pow_pos (by decide)
  have h3 : ns.length * 2 ^ BS ≤ 63 * 2 ^ BS := Nat.mul_le_mul_right _ hl
  rw [e]
  generalize 2 ^ BS = b at *
  omega
theorem at_prev {ns : List Int} {i : Nat} (h : i < ns.length) : ∃ z, z ∈ ns ∧ atI (ns.map V.int) ((i : Int) - 1) = some (.int z) := by
  by_cases h0 : i = 0
  · subst h0
    have hl : ns.length - 1 < ns.length := by omega
    refine ⟨ns[ns.length - 1], List.getElem_mem hl, ?_⟩
    have e : ixN (ns.map V.int).length (((0 : Nat) : Int) - 1) = some (ns.length - 1) := by
      unfold ixN
      rw [List.length_map, if_neg (by decide), if_pos (by omega)]
      congr 1
      omega
    unfold atI
    rw [e]
    show (ns.map V.int)[ns.length - 1]? = _
    rw [List.getElem?_map, List.getElem?_eq_getElem hl]
    rfl
  · have hl : i - 1 < ns.length := by omega
    refine ⟨ns[i - 1], List.getElem_mem hl, ?_⟩
    rw [show (i : Int) - 1 = ((i - 1 : Nat) : Int) by omega]
    exact atI_nat (by rw [List.getElem?_map, List.getElem?_eq_getElem hl]; rfl)
theorem menu05 (c : Int) : ∃ (M g0 gm : Nat), atI [V.int 14, .int 300, .int 60000, .int (10 ^ (30 : Int).toNat)] (c % 4) = some (.int (M : Int)) ∧ atI [V.int 1, .int 1, .int 3, .int 18] (c % 4) = some (.int (g0 : Int)) ∧ atI [V.int 6, .int 5, .int 9, .int 60] (c % 4) = some (.int (gm : Int)) ∧
    0 < M ∧ M ≤ 10 ^ 30 ∧ 0 < g0 ∧ 0 < gm ∧ g0 + gm ≤ 300 ∧ ∀ s g, s < M → g0 ≤ g → fw s g ≤ 1000 := by
  have h0 : 0 ≤ c % 4 := Int.emod_nonneg c (by decide)
  have h1 : c % 4 < 4 := Int.emod_lt_of_pos c (by decide)
  rcases (show c % 4 = 0 ∨ c % 4 = 1 ∨ c % 4 = 2 ∨ c % 4 = 3 by omega) with h | h | h | h
  · exact ⟨14, 1, 6, by rw [h]; exact atI_nat (j := 0) rfl, by rw [h]; exact atI_nat (j := 0) rfl, by rw [h]; exact atI_nat (j := 0) rfl, by decide, by decide, by decide, by decide, by decide, fun s g hs hg => fw_small (by omega) (by omega)⟩
  · exact ⟨300, 1, 5, by rw [h]; exact atI_nat (j := 1) rfl, by rw [h]; exact atI_nat (j := 1) rfl, by rw [h]; exact atI_nat (j := 1) rfl, by decide, by decide, by decide, by decide, by decide, fun s g hs hg => fw_small (by omega) (by omega)⟩
  · exact ⟨60000, 3, 9, by rw [h]; exact atI_nat (j := 2) rfl, by rw [h]; exact atI_nat (j := 2) rfl, by rw [h]; exact atI_nat (j := 2) rfl, by decide, by decide, by decide, by decide, by decide, fun s g hs hg => fw_3 hs hg⟩
  · exact ⟨10 ^ 30, 18, 60, by rw [h]; exact atI_nat (j := 3) rfl, by rw [h]; exact atI_nat (j := 3) rfl, by rw [h]; exact atI_nat (j := 3) rfl, by decide, by decide, by decide, by decide, by decide, fun s g hs hg => fw_18 hs hg⟩
theorem fw_n1 (n : Nat) : fw n 1 = n := fw_eq ⟨by rw [R_one]; exact Nat.le_refl _, by
  rw [R_one]
  omega⟩
theorem play_000 : play 0 0 0 = [] := by
  unfold play
  exact pl_end 0 (by decide)
theorem play_311 : play 3 1 1 = [(1, false), (2, true)] := by
  unfold play
  rw [fw_n1]
  decide +kernel
end GF

namespace GF
/-! ### plays with one glass, with as many glasses as tries -/
def ups (x lo n : Nat) : List (Nat × Bool) := (List.range n).map fun k => (lo + 1 + k, decide (x < lo + 1 + k))
theorem ups_succ (x lo n : Nat) : ups x lo (n + 1) = (lo + 1, decide (x < lo + 1)) :: ups x (lo + 1) n := by
  unfold ups
  rw [List.range_succ_eq_map, List.map_cons, List.map_map]
  refine congrArg _ (List.map_congr_left fun k _ => ?_)
  show (lo + 1 + (k + 1), decide (x < lo + 1 + (k + 1))) = (lo + 1 + 1 + k, decide (x < lo + 1 + 1 + k))
  rw [show lo + 1 + (k + 1) = lo + 1 + 1 + k by omega]
theorem pl_one (x : Nat) : ∀ t lo hi, lo ≤ x → x ≤ hi → hi - lo ≤ t → pl x t lo hi 1 = ups x lo (min (x + 1) hi - lo)
  | 0, lo, hi, h1, h2, h3 => by
    rw [show min (x + 1) hi - lo = 0 by omega]
    rfl
  | t + 1, lo, hi, h1, h2, h3 => by
    by_cases hl : lo < hi
    · have hn : nx (hi - lo) 1 (t + 1) = 1 := by
        unfold nx
        show min (hi - lo) (R t 0 + 1) = 1
        have : R t 0 = 0 := rfl
        omega
      show (if lo < hi then _ else _) = _
      rw [if_pos hl, hn]
      by_cases c : x < lo + 1
      · rw [if_pos c, pl_end x (by omega), show min (x + 1) hi - lo = 0 + 1 by omega, ups_succ, decide_eq_true c]
        rfl
      · rw [if_neg c, pl_one x t (lo + 1) hi (by omega) h2 (by omega), show min (x + 1) hi - lo = (min (x + 1) hi - (lo + 1)) + 1 by omega, ups_succ, decide_eq_false c]
    · rw [pl_end x hl, show min (x + 1) hi - lo = 0 by omega]
      rfl
theorem fw_1 (n : Nat) : fw n 1 = n := fw_eq ⟨by rw [R_one]; exact Nat.le_refl _, by
  rw [R_one]
  omega⟩
theorem play_one {s x : Nat} (h : x ≤ s) : play s 1 x = ups x 0 (min (x + 1) s) := by
  unfold play
  rw [fw_1]
  exact pl_one x s 0 s (Nat.zero_le _) h (by omega)
def hv (x : Nat) : Nat → Nat → List (Nat × Bool)
  | 0, _ => []
  | t + 1, lo => if x < lo + 2 ^ t then (lo + 2 ^ t, true) :: hv x t lo else (lo + 2 ^ t, false) :: hv x t (lo + 2 ^ t)
theorem nx_full {t left : Nat} (h : t ≤ left) : nx (2 ^ (t + 1) - 1) (left + 1) (t + 1) = 2 ^ t := by
  have hp : 0 < 2 ^ t := Nat.pow_pos (by decide)
  have e2 : 2 ^ (t + 1) = 2 ^ t * 2 := Nat.pow_succ ..
  have := R_full t left h
  unfold nx
  show min _ (R t left + 1) = _
  omega
theorem pl_hv (x : Nat) : ∀ t lo left, t ≤ left → pl x t lo (lo + 2 ^ t - 1) left = hv x t lo
  | 0, lo, left, h => rfl
  | t + 1, lo, left, h => by
    have hp : 0 < 2 ^ t := Nat.pow_pos (by decide)
    have e2 : 2 ^ (t + 1) = 2 ^ t * 2 := Nat.pow_succ ..
    have hl : lo < lo + 2 ^ (t + 1) - 1 := by omega
    obtain ⟨l, rfl⟩ : ∃ l, left = l + 1 := ⟨left - 1, by omega⟩
    have hn : nx (lo + 2 ^ (t + 1) - 1 - lo) (l + 1) (t + 1) = 2 ^ t := by
      rw [show lo + 2 ^ (t + 1) - 1 - lo = 2 ^ (t + 1) - 1 by omega]
      exact nx_full (by omega)
    show (if _ then _ else _) = (if _ then _ else _)
    rw [if_pos hl, hn]
    by_cases c : x < lo + 2 ^ t
    · rw [if_pos c, if_pos c]
      show _ :: pl x t lo (lo + 2 ^ t - 1) l = _
      rw [pl_hv x t lo l (by omega)]
    · rw [if_neg c, if_neg c, show lo + 2 ^ (t + 1) - 1 = (lo + 2 ^ t) + 2 ^ t - 1 by omega, pl_hv x t (lo + 2 ^ t) (l + 1) (by omega)]
theorem fw_full {n g : Nat} (h : n ≤ g) : fw (2 ^ n - 1) g = n := by
  have h1 := R_full n g h
  refine fw_eq ⟨by omega, ?_⟩
  by_cases z : n = 0
  · exact .inl z
  · obtain ⟨k, rfl⟩ : ∃ k, n = k + 1 := ⟨n - 1, by omega⟩
    have h2 := R_full k g (by omega)
    have hp : 0 < 2 ^ k := Nat.pow_pos (by decide)
    have e2 : 2 ^ (k + 1) = 2 ^ k * 2 := Nat.pow_succ ..
    refine .inr ?_
    show R k g < _
    omega
theorem play_full {n g x : Nat} (h : n ≤ g) : play (2 ^ n - 1) g x = hv x n 0 := by
  unfold play
  rw [fw_full h]
  have q := pl_hv x n 0 g h
  rw [Nat.zero_add] at q
  exact q
theorem bin_self : ∀ n, bin n n = 1
  | 0 => rfl
  | n + 1 => by
    show bin n n + bin n (n + 1) = 1
    rw [bin_self n, bin_lt (Nat.lt_succ_self n)]
theorem R_less {n : Nat} (h : 0 < n) : R n (n - 1) + 2 = 2 ^ n := by
  obtain ⟨k, rfl⟩ : ∃ k, n = k + 1 := ⟨n - 1, by omega⟩
  have h1 := R_full (k + 1) (k + 1) (Nat.le_refl _)
  have e : R (k + 1) (k + 1) = R (k + 1) k + bin (k + 1) (k + 1) := rfl
  rw [bin_self] at e
  show R (k + 1) k + 2 = _
  omega
theorem fw_pow {n : Nat} (h : 0 < n) : fw (2 ^ n) n = n + 1 := by
  have h1 := R_less (n := n + 1) (by omega)
  have h2 := R_full n n (Nat.le_refl _)
  have e2 : 2 ^ (n + 1) = 2 ^ n * 2 := Nat.pow_succ ..
  have h3 : 2 ^ 1 ≤ 2 ^ n := Nat.pow_le_pow_right (by decide) h
  have h1' : R (n + 1) n + 2 = 2 ^ (n + 1) := h1
  refine fw_eq ⟨by omega, .inr ?_⟩
  show R n n < _
  omega
theorem fw_less {n : Nat} (h : 1 < n) : fw (2 ^ n - 1) (n - 1) = n + 1 := by
  have h1 := R_less (n := n) (by omega)
  have h2 := R_pas (t := n + 1) (g := n - 1) (by omega) (by omega)
  rw [Nat.add_sub_cancel] at h2
  refine fw_eq ⟨by omega, .inr ?_⟩
  show R n (n - 1) < _
  omega
theorem bl_full (n : Nat) : bl (2 ^ n - 1) = n := by
  have hp : 0 < 2 ^ n := Nat.pow_pos (by decide)
  have h1 := bl_lt (2 ^ n - 1)
  have a : n ≤ bl (2 ^ n - 1) := by
    by_cases c : n ≤ bl (2 ^ n - 1)
    · exact c
    · have h3 : 2 ^ (bl (2 ^ n - 1) + 1) ≤ 2 ^ n := Nat.pow_le_pow_right (by decide) (by omega)
      rw [Nat.pow_succ] at h3
      omega
  by_cases z : n = 0
  · subst z
    decide
  · have h3 : 2 ^ 1 ≤ 2 ^ n := Nat.pow_le_pow_right (by decide) (by omega)
    have h2 := bl_ge (s := 2 ^ n - 1) (by omega)
    by_cases c : bl (2 ^ n - 1) ≤ n
    · omega
    · have h4 : 2 ^ n ≤ 2 ^ (bl (2 ^ n - 1) - 1) := Nat.pow_le_pow_right (by decide) (by omega)
      omega
theorem gw_full {n : Nat} (h : 0 < n) : Gw (2 ^ n - 1) (bl (2 ^ n - 1)) n := by
  rw [bl_full]
  have h1 := R_full n n (Nat.le_refl _)
  have h2 := R_less h
  exact ⟨by omega, .inr (by omega)⟩
theorem gw_few : ∀ p ∈ ([(0, 0), (1, 1), (2, 1), (3, 2), (7, 3), (8, 2), (10, 2), (11, 3)] : List (Nat × Nat)), p.1 ≤ 10 ^ 60 ∧ Gw p.1 (bl p.1) p.2 := by
  unfold Gw
  decide +kernel
end GF

namespace GF
open PySem L2 Evl
section
variable {K : PySem.W.Frag} {σ : L2.St} {H H' : Hp} {ta tb tc te tl : TE} {t : TT} {x y z v u w m : V} {D : Ends} {tz tu : TS} {g : TG} {r : R2}
theorem eu_if {b : Bool} {xs : List V} (h : EvT t σ H b) (h1 : b = true → EvU ta σ H xs) (h2 : b = false → EvU tb σ H xs) : EvU (tIf t ta tb) σ H xs := fun H1 e Q q => h H1 e _ fun H2 e2 => by
  cases b with
  | true =>
    show ta σ H2 Q
    exact h1 rfl H2 (e.trans e2) Q fun p H3 hp e3 h3 => q p H3 (fresh_back e2 hp) (e2.trans e3) h3
  | false =>
    show tb σ H2 Q
    exact h2 rfl H2 (e.trans e2) Q fun p H3 hp e3 h3 => q p H3 (fresh_back e2 hp) (e2.trans e3) h3
theorem s_asg2U {i j : Nat} (h : EvU te σ H [u, w]) (k : ∀ H1, Ex H H1 → D.nx ((σ.set i (some u)).set j (some w)) H1) : tAsg te (gTup K 2 (gCons (gName i) (gCons (gName j) gNil))) D σ H :=
  h H (Ex.refl H) _ fun p H1 _ e1 hp => g_2 hp (k H1 e1)
theorem q_asg4L {i j l n : Nat} {xs : List V} (ha : Ev ta σ H u) (hb : Ev tb σ H w) (hl : EvL tl σ H xs) (hc : Ev tc σ H m) (k : ∀ p H1, H p = none → Ex H H1 → H1 p = some (.lst xs) → tz D ((((σ.set i (some u)).set j (some w)).set l (some (.ref p))).set n (some m)) H1) :
    tSeq (tAsg (tTup (tCons ta (tCons tb (tCons tl (tCons tc tNil))))) (gTup K 4 (gCons (gName i) (gCons (gName j) (gCons (gName l) (gCons (gName n) gNil)))))) tz D σ H :=
  ha H (Ex.refl H) _ fun H1 e1 => hb H1 e1 _ fun H2 e2 => hl H2 (e1.trans e2) _ fun p H3 hp e3 h3 => hc H3 ((e1.trans e2).trans e3) _ fun H4 e4 => ⟨sz_of (by show 4 ≤ 100000; decide), fun q hq => by
    have eN := Ex.new (o := .tup [u, w, .ref p, m]) hq
    exact ⟨q, _, rfl, .inl (.inl upd_same), rfl, u, _, rfl, w, _, rfl, .ref p, _, rfl, m, _, rfl, rfl, k p _ (fresh_back (e1.trans e2) hp) ((((e1.trans e2).trans e3).trans e4).trans eN) (eN _ _ (e4 _ _ h3))⟩⟩
/-- [(..) for k in range(lo, hi)] -/
theorem en_lcU2 {ta : TA} {j : Nat} {vs : List Nat} {lo hi : Int} (rows : Nat → List V) (h : EvA ta σ H [.int lo, .int hi]) (hn : 0 ≤ lo ∧ lo ≤ 40000 ∧ 0 ≤ hi ∧ hi ≤ 40000) (hw : ∀ x, wipe ((wipe σ vs).set j (some x)) vs = wipe σ vs)
    (he : ∀ (i : Nat) H1, Ex H H1 → lo + (i : Int) < hi → EvU te ((wipe σ vs).set j (some (.int (lo + (i : Int))))) H1 (rows i)) :
    EvN (tLc (iRng2 ta) (gName j) tYes te vs) σ H (fun v H2 => ∃ p, v = .ref p ∧ H p = none ∧ ListT H2 p ((List.range (hi - lo).toNat).map rows)) := fun H0 e Q q => h H0 e _ fun H1 e1 => ⟨lo, hi, rfl, ⟨by omega, by omega, by omega, by omega⟩, fun Dl hD =>
  lc_range (lo := lo) (n := (hi - lo).toNat) (fun i H' => Ex H1 H' ∧ ListT H' Dl ((List.range i).map rows)) ⟨Ex.new hD, [], upd_same, .nil⟩ (fun i H' hi' p => by
    obtain ⟨p1, as, p2, p3⟩ := p
    show wipe ((wipe σ vs).set j (some (.int (lo + (i : Int))))) vs = wipe σ vs ∧ te ((wipe σ vs).set j (some (.int (lo + (i : Int))))) H' fun y H4 => ∃ acc, H4 Dl = some (.lst acc) ∧ acc.length < sizeLine ∧ _
    refine ⟨hw _, he i H' ((e.trans e1).trans p1) (by omega) H' (Ex.refl H') _ fun u H4 hu e4 h4 => ⟨as.map V.ref, e4 _ _ p2, sz_lt ?_, Ex.mut (p1.trans e4) hD, as ++ [u], ?_, ?_⟩⟩
    · have := p3.1
      rw [List.length_map, List.length_range] at this
      rw [List.length_map]
      omega
    · rw [upd_same, List.map_append]
      rfl
    · rw [List.range_succ, List.map_append]
      exact ((p3.mono e4).snoc h4).upd (e4 _ _ p2)) (fun H' p => q _ H' (e1.trans p.1) ⟨Dl, rfl, fresh_back (e.trans e1) hD, p.2⟩)⟩
/-- [e for x in (..)], the tuple made -/
theorem el_lcTU {xs ys : List V} {j : Nat} {vs : List Nat} (h : EvU tl σ H xs) (hl : ys.length = xs.length) (hz : xs.length ≤ 40000) (hw : ∀ x, wipe ((wipe σ vs).set j (some x)) vs = wipe σ vs)
    (he : ∀ (i : Nat) x y H1, Ex H H1 → xs[i]? = some x → ys[i]? = some y → Ev te ((wipe σ vs).set j (some x)) H1 y) :
    EvL (tLc (iTup K tl) (gName j) tYes te vs) σ H ys := fun H0 e Q q => h H0 e _ fun a H1 ha e1 hx => ⟨a, rfl, ⟨xs, st_of hx⟩, fun Dl hD =>
  lc_tup (xs := xs) (fun i H' => Ex H1 H' ∧ H' Dl = some (.lst (ys.take i))) ⟨Ex.new hD, upd_same⟩ (fun i H' _ p => st_of (p.1 a _ hx)) (fun i x H' hi p => by
    have hlt := (List.getElem?_eq_some_iff.mp hi).1
    have hly : i < ys.length := by omega
    show wipe ((wipe σ vs).set j (some x)) vs = wipe σ vs ∧ te ((wipe σ vs).set j (some x)) H' fun y H4 => ∃ acc, H4 Dl = some (.lst acc) ∧ acc.length < sizeLine ∧ _
    refine ⟨hw x, he i x ys[i] H' ((e.trans e1).trans p.1) hi (List.getElem?_eq_getElem hly) H' (Ex.refl H') _ fun H4 e4 => ⟨_, e4 _ _ p.2, sz_lt (by rw [List.length_take]; omega), Ex.mut (p.1.trans e4) hD, ?_⟩⟩
    rw [upd_same, List.take_add_one, List.getElem?_eq_getElem hly]
    rfl) (fun H' p => by
    have e2 : ys.take xs.length = ys := List.take_of_length_le (by omega)
    have p2 := p.2
    rw [e2] at p2
    exact q Dl H' (fresh_back e1 hD) (e1.trans p.1) p2)⟩
end
theorem abs_nat (c : Int) : (if c < 0 then -c else c) = ((c.natAbs : Nat) : Int) := by
  split <;> omega
/-- a list of ints as data -/
theorem dpa_ints {K : PySem.W.Frag} {H : Hp} : ∀ ns : List Int, DpAll K H (ns.map V.int) (ns.map PyData.int)
  | [] => .nil
  | n :: ns => .cons (.int n) (dpa_ints ns)
theorem dp_ints {K : PySem.W.Frag} {H : Hp} {p : Addr} {ns : List Int} (h : H p = some (.lst (ns.map V.int))) : Dp K H (.ref p) (.list (ns.map PyData.int)) := .lst (sq_of h) (dpa_ints ns)
end GF

namespace GF
open PySem L2 Evl
/-! ### things that are no numbers -/
def Odd (H : Hp) (v : V) : Prop := v = .non ∨ (∃ b, v = .bl b) ∨ (∃ z, v = .str z) ∨ ∃ p, v = .ref p ∧ ((∃ xs, H p = some (.lst xs)) ∨ (∃ xs, H p = some (.tup xs)) ∨ ∃ kvs, H p = some (.dK kvs))
theorem Odd.mono {H H' : Hp} {v : V} (h : Odd H v) (e : Ex H H') : Odd H' v := by
  rcases h with h | h | h | ⟨p, rfl, h⟩
  · exact .inl h
  · exact .inr (.inl h)
  · exact .inr (.inr (.inl h))
  · refine .inr (.inr (.inr ⟨p, rfl, ?_⟩))
    rcases h with ⟨xs, h⟩ | ⟨xs, h⟩ | ⟨kvs, h⟩
    · exact .inl ⟨xs, e _ _ h⟩
    · exact .inr (.inl ⟨xs, e _ _ h⟩)
    · exact .inr (.inr ⟨kvs, e _ _ h⟩)
theorem odd_non {H : Hp} : Odd H .non := .inl rfl
theorem odd_bl {H : Hp} (b : Bool) : Odd H (.bl b) := .inr (.inl ⟨b, rfl⟩)
theorem odd_str {H : Hp} (z : Str) : Odd H (.str z) := .inr (.inr (.inl ⟨z, rfl⟩))
def Bad (H : Hp) (v : V) (lo hi : Int) : Prop := Odd H v ∨ ∃ n : Int, v = .int n ∧ ¬ (lo ≤ n ∧ n ≤ hi)
theorem Bad.mono {H H' : Hp} {v : V} {lo hi : Int} (h : Bad H v lo hi) (e : Ex H H') : Bad H' v lo hi := h.elim (fun z => .inl (z.mono e)) .inr
theorem bad_int {H : Hp} {n lo hi : Int} (h : ¬ (lo ≤ n ∧ n ≤ hi)) : Bad H (.int n) lo hi := .inr ⟨n, rfl, h⟩
def rNumX (H : Hp) (vs : List V) (v : V) : Prop := ∃ (x : V) (lo hi : Int), vs = [x, .int lo, .int hi] ∧ ((∃ n : Int, x = .int n ∧ v = .bl (decide (lo ≤ n) && decide (n ≤ hi))) ∨ (Odd H x ∧ v = .bl false))
theorem bad_num {H : Hp} {v : V} {lo hi : Int} (h : Bad H v lo hi) : rNumX H [v, .int lo, .int hi] (.bl false) := by
  refine ⟨v, lo, hi, rfl, ?_⟩
  rcases h with h | ⟨n, rfl, h⟩
  · exact .inr ⟨h, rfl⟩
  · refine .inl ⟨n, rfl, ?_⟩
    by_cases c : lo ≤ n
    · rw [decide_eq_true c, decide_eq_false (fun z => h ⟨c, z⟩)]
      rfl
    · rw [decide_eq_false c]
      rfl
theorem good_num {H : Hp} {n lo hi : Int} (h1 : lo ≤ n) (h2 : n ≤ hi) : rNumX H [.int n, .int lo, .int hi] (.bl true) := ⟨.int n, lo, hi, rfl, .inl ⟨n, rfl, by rw [decide_eq_true h1, decide_eq_true h2]; rfl⟩⟩
/-! ### promises of defs that may raise -/
def spPX (r : List V → V → Prop) (x : Hp → List V → Addr → Prop) : Sp := fun vs H Q E => (∃ v, r vs v ∧ ∀ H2, Ex H H2 → Q v H2) ∨ ∃ C, x H vs C ∧ ∀ H2, Ex H H2 → E (.ref C) none H2
def spNX (r : Hp → List V → (V → Hp → Prop) → Prop) (x : Hp → List V → Addr → Prop) : Sp := fun vs H Q E => (∃ Post, r H vs Post ∧ ∀ v H2, Ex H H2 → Post v H2 → Q v H2) ∨ ∃ C, x H vs C ∧ ∀ H2, Ex H H2 → E (.ref C) none H2
/-- it always raises -/
def spR (x : Hp → List V → Addr → Prop) : Sp := fun vs H _ E => ∃ C, x H vs C ∧ ∀ H2, Ex H H2 → E (.ref C) none H2
/-- it does not come to a value -/
def EvR (te : TE) (σ : L2.St) (H : Hp) : Prop := ∀ H1, Ex H H1 → ∀ Q : VK, te σ H1 Q
section
variable {K : PySem.W.Frag} {σ : L2.St} {H H' : Hp} {ta tb tc te tl : TE} {x y z v : V} {D : Ends} {tz tu : TS} {g : TG} {tt : TT}
theorem ev_px {r : List V → V → Prop} {xr : Hp → List V → Addr → Prop} {E : XK} {t : TA} {vs : List V} (h : EvA t σ H vs) (hr : r vs v) : Ev (tCall (spPX r xr) [] E t) σ H v := by
  refine ev_call h ?_
  rw [List.append_nil]
  exact fun H1 _ Q q E => .inl ⟨v, hr, fun H2 e2 => q H2 e2⟩
theorem en_callX {r : Hp → List V → (V → Hp → Prop) → Prop} {xr : Hp → List V → Addr → Prop} {E : XK} {t : TA} {vs : List V} {Post : V → Hp → Prop} (h : EvA t σ H vs) (hr : ∀ H1, Ex H H1 → ∃ P', r H1 vs P' ∧ ∀ v H2, P' v H2 → Post v H2) : EvN (tCall (spNX r xr) [] E t) σ H Post := fun H1 e Q q =>
  h H1 e _ fun H2 e2 => by
    obtain ⟨P', h1, h2⟩ := hr H2 (e.trans e2)
    show spNX r xr (vs ++ []) H2 Q E
    rw [List.append_nil]
    exact .inl ⟨P', h1, fun v H3 e3 hp => q v H3 (e2.trans e3) (h2 v H3 hp)⟩
theorem er_px {r : List V → V → Prop} {xr : Hp → List V → Addr → Prop} {E : XK} {t : TA} {vs : List V} {C : Addr} (h : EvA t σ H vs) (hx : ∀ H1, Ex H H1 → xr H1 vs C) (kE : ∀ H1, Ex H H1 → E (.ref C) none H1) : EvR (tCall (spPX r xr) [] E t) σ H := fun H1 e Q =>
  h H1 e _ fun H2 e2 => by
    show spPX r xr (vs ++ []) H2 Q E
    rw [List.append_nil]
    exact .inr ⟨C, hx H2 (e.trans e2), fun H3 e3 => kE H3 ((e.trans e2).trans e3)⟩
theorem er_nx {r : Hp → List V → (V → Hp → Prop) → Prop} {xr : Hp → List V → Addr → Prop} {E : XK} {t : TA} {vs : List V} {C : Addr} (h : EvA t σ H vs) (hx : ∀ H1, Ex H H1 → xr H1 vs C) (kE : ∀ H1, Ex H H1 → E (.ref C) none H1) : EvR (tCall (spNX r xr) [] E t) σ H := fun H1 e Q =>
  h H1 e _ fun H2 e2 => by
    show spNX r xr (vs ++ []) H2 Q E
    rw [List.append_nil]
    exact .inr ⟨C, hx H2 (e.trans e2), fun H3 e3 => kE H3 ((e.trans e2).trans e3)⟩
theorem er_if {b : Bool} (h : EvT tt σ H b) (h1 : b = true → EvR ta σ H) (h2 : b = false → EvR tb σ H) : EvR (tIf tt ta tb) σ H := fun H1 e Q => h H1 e _ fun H2 e2 => by
  cases b with
  | true =>
    show ta σ H2 Q
    exact h1 rfl H2 (e.trans e2) Q
  | false =>
    show tb σ H2 Q
    exact h2 rfl H2 (e.trans e2) Q
theorem s_retR (h : EvR te σ H) : tRet te D σ H := h H (Ex.refl H) _
theorem q_dropR (h : EvR te σ H) : tSeq (tDrop te) tz D σ H := h H (Ex.refl H) _
theorem s_dropR (h : EvR te σ H) : tDrop te D σ H := h H (Ex.refl H) _
theorem EvR.mono (h : EvR te σ H) (e : Ex H H') : EvR te σ H' := fun H1 e1 Q => h H1 (e.trans e1) Q
/-! ### isinstance of things that are no numbers -/
theorem rc_isi_odd (h : Odd H x) (hb : ∀ b, x ≠ .bl b) : RC (rIsi K) [x, .ty "int"] H (.bl false) := by
  rcases h with rfl | ⟨b, rfl⟩ | ⟨z, rfl⟩ | ⟨p, rfl, h⟩
  · exact rc_isi (.ty "int") (fun _ _ => .base .non) (kit_ty (by decide +kernel))
  · exact absurd rfl (hb b)
  · exact rc_isi (.ty "int") (fun _ _ => .base (.str z)) (kit_ty (by decide +kernel))
  · rcases h with ⟨xs, h⟩ | ⟨xs, h⟩ | ⟨kvs, h⟩
    · exact rc_isi (.ty "int") (fun H1 e => .base (.lst (e _ _ h))) (kit_ty (by decide +kernel))
    · exact rc_isi (.ty "int") (fun H1 e => .base (.tup (e _ _ h))) (kit_ty (by decide +kernel))
    · exact rc_isi (.ty "int") (fun H1 e => .base (.dK (e _ _ h))) (kit_ty (by decide +kernel))
end
end GF

namespace GF
open PySem L2 Evl
/-! ### things of any kind in a display -/
def EvAB (ta : TA) (σ : L2.St) (H : Hp) (Pv : V → Hp → Prop) (n : Nat) : Prop := ∀ H1, Ex H H1 → ∀ Q : List V → Hp → Prop, (∀ vs H2, Ex H1 H2 → vs.length = n → (∀ v ∈ vs, Pv v H2) → Q vs H2) → ta σ H1 Q
section
variable {K : PySem.W.Frag} {σ : L2.St} {H H' : Hp} {ta tb tc te tl : TE} {x y z v : V} {D : Ends} {tz tu : TS} {g : TG} {tt : TT}
theorem eab_nil {Pv : V → Hp → Prop} : EvAB tNil σ H Pv 0 := fun H1 _ Q q => q [] H1 (Ex.refl H1) rfl fun v hv => by cases hv
theorem eab_cons {tr : TA} {Pv : V → Hp → Prop} {n : Nat} (mono : ∀ v H H', Pv v H → Ex H H' → Pv v H') (h : EvN te σ H Pv) (hr : EvAB tr σ H Pv n) : EvAB (tCons te tr) σ H Pv (n + 1) := fun H1 e Q q =>
  h H1 e _ fun v H2 e2 hv => hr H2 (e.trans e2) _ fun vs H3 e3 hl hvs => q (v :: vs) H3 (e2.trans e3) (by rw [List.length_cons, hl]) fun u hu => by
    rcases List.mem_cons.mp hu with rfl | hu
    · exact mono _ _ _ hv e3
    · exact hvs u hu
theorem en_lstB {t : TA} {Pv : V → Hp → Prop} {n : Nat} (mono : ∀ v H H', Pv v H → Ex H H' → Pv v H') (h : EvAB t σ H Pv n) (hz : n ≤ 100000) : EvN (tLst t) σ H (fun v H2 => ∃ p us, v = .ref p ∧ H p = none ∧ H2 p = some (.lst us) ∧ us.length = n ∧ ∀ u ∈ us, Pv u H2) := fun H1 e Q q =>
  h H1 e _ fun vs H2 e2 hl hvs => ⟨sz_of (by rw [hl]; exact hz), fun p hp => q _ _ (e2.trans (Ex.new hp)) ⟨p, vs, rfl, fresh_back (e.trans e2) hp, upd_same, hl, fun u hu => mono _ _ _ (hvs u hu) (Ex.new hp)⟩⟩
theorem en_ev {Pv : V → Hp → Prop} (h : Ev te σ H v) (hp : ∀ H1, Ex H H1 → Pv v H1) : EvN te σ H Pv := fun H1 e Q q => h H1 e _ fun H2 e2 => q v H2 e2 (hp H2 (e.trans e2))
theorem en_evL {Pv : V → Hp → Prop} {xs : List V} (h : EvL te σ H xs) (hp : ∀ p H1, H1 p = some (.lst xs) → Pv (.ref p) H1) : EvN te σ H Pv := fun H1 e Q q => h H1 e _ fun p H2 _ e2 h2 => q _ H2 e2 (hp p H2 h2)
theorem en_evU {Pv : V → Hp → Prop} {xs : List V} (h : EvU te σ H xs) (hp : ∀ p H1, H1 p = some (.tup xs) → Pv (.ref p) H1) : EvN te σ H Pv := fun H1 e Q q => h H1 e _ fun p H2 _ e2 h2 => q _ H2 e2 (hp p H2 h2)
theorem en_dnew {Pv : V → Hp → Prop} (hp : ∀ p H1, H1 p = some (.dK []) → Pv (.ref p) H1) : EvN tDNewK σ H Pv := fun H1 e Q q p hn => q _ _ (Ex.new hn) (hp p _ upd_same)
/-- all([e for x in xs]), xs what a call hands back -/
theorem ev_allCall {Post : V → Hp → Prop} {j : Nat} {vs : List Nat} (h : EvN tl σ H Post) (hw : ∀ x, wipe ((wipe σ vs).set j (some x)) vs = wipe σ vs)
    (hP : ∀ v H1, Ex H H1 → Post v H1 → ∃ (p : Addr) (xs : List V), v = .ref p ∧ H1 p = some (.lst xs) ∧ xs.length ≤ 40000 ∧ ∀ x ∈ xs, ∀ H2, Ex H1 H2 → Ev te ((wipe σ vs).set j (some x)) H2 (.bl true)) :
    Ev (tCB (rAll K) (tCons (tLc (iList K tl) (gName j) tYes te vs) tNil)) σ H (.bl true) := fun H0 e Q q => h H0 e _ fun v H1 e1 hp => by
  obtain ⟨p, xs, rfl, hx, hz, he⟩ := hP v H1 (e.trans e1) hp
  refine ⟨p, rfl, ⟨xs, sq_of hx⟩, fun Dl hD => lc_list (K := K) (xs := xs) (fun i H' => Ex H1 H' ∧ H' Dl = some (.lst ((List.replicate i true).map V.bl))) ⟨Ex.new hD, upd_same⟩ (fun i H' _ w => sq_of (w.1 _ _ hx)) (fun i x H' hi w => ?_) fun H' w => ?_⟩
  · show wipe ((wipe σ vs).set j (some x)) vs = wipe σ vs ∧ te ((wipe σ vs).set j (some x)) H' fun y H4 => ∃ acc, H4 Dl = some (.lst acc) ∧ acc.length < sizeLine ∧ _
    have hlt := (List.getElem?_eq_some_iff.mp hi).1
    refine ⟨hw x, he x (List.mem_of_getElem? hi) H' w.1 H' (Ex.refl H') _ fun H4 e4 => ⟨_, e4 _ _ w.2, sz_lt (by rw [List.length_map, List.length_replicate]; omega), Ex.mut (w.1.trans e4) hD, ?_⟩⟩
    rw [upd_same, List.replicate_succ', List.map_append]
    rfl
  · refine ⟨Dl, List.replicate xs.length true, rfl, sq_of w.2, ?_⟩
    have e : (List.replicate xs.length true).all id = true := by
      rw [List.all_eq_true]
      intro b hb
      rw [(List.mem_replicate.mp hb).2]
      rfl
    rw [e]
    exact q H' (e1.trans w.1)
theorem ev_lenCall {Post : V → Hp → Prop} {n : Nat} (h : EvN ta σ H Post) (hP : ∀ v H1, Post v H1 → ∃ (p : Addr) (xs : List V), v = .ref p ∧ H1 p = some (.lst xs) ∧ xs.length = n) :
    Ev (tCB (fun xs H Q => ∃ p ys, xs = [V.ref p] ∧ (SqL K H p ys ∨ SqT K H p ys) ∧ Q (V.int (List.length ys : Nat)) H) (tCons ta tNil)) σ H (.int (n : Int)) := fun H1 e Q q => h H1 e _ fun v H2 e2 hv => by
  obtain ⟨p, xs, rfl, hx, rfl⟩ := hP v H2 hv
  exact ⟨p, xs, rfl, .inl (sq_of hx), q H2 e2⟩
/-- unpacking a tuple of five -/
theorem g_5 {i j l m n : Nat} {T : Addr} {a b c d e : V} {Q : L2.St → Hp → Prop} (h : H T = some (.tup [a, b, c, d, e])) (k : Q (((((σ.set i (some a)).set j (some b)).set l (some c)).set m (some d)).set n (some e)) H) :
    gTup K 5 (gCons (gName i) (gCons (gName j) (gCons (gName l) (gCons (gName m) (gCons (gName n) gNil))))) (.ref T) σ H Q :=
  ⟨T, _, rfl, .inl (.inl h), rfl, a, _, rfl, b, _, rfl, c, _, rfl, d, _, rfl, e, _, rfl, rfl, k⟩
/-! ### lists one behind the other, wherever they stand -/
def rCatS (K : PySem.W.Frag) : R2 := fun x y H Q => ∃ l b xs zs, x = .ref l ∧ y = .ref b ∧ SqL K H l xs ∧ SqL K H b zs ∧ xs.length + zs.length ≤ sizeLine ∧ ∀ p, H p = none → Q (.ref p) (upd H p (.lst (xs ++ zs)))
theorem el_catS {b : Addr} {xs ys : List V} (ha : EvL ta σ H xs) (hb : Ev tb σ H (.ref b)) (hy : SqL K H b ys) (hz : xs.length + ys.length ≤ 100000) : EvL (tOp (rCatS K) ta tb) σ H (xs ++ ys) := fun H1 e Q q =>
  ha H1 e _ fun l H2 _ e2 h2 => hb H2 (e.trans e2) _ fun H3 e3 => ⟨l, b, xs, ys, rfl, rfl, sq_of (e3 _ _ h2), ex_l ((e.trans e2).trans e3) hy, sz_of hz, fun p hp => q p _ (fresh_back (e2.trans e3) hp) ((e2.trans e3).trans (Ex.new hp)) upd_same⟩
end
section
open PySem.Spec PyProof.Rows
theorem op_catS {X : Cx} : OpR X (binaryOp .Add) (rCatS X.K) := by
  rintro pins s σ H x y v u Q I rx ry ⟨l, b, xs, zs, rfl, rfl, hl, hb, hz, q⟩
  cases rx
  cases ry
  obtain ⟨i1, r1, p1, _⟩ := I.list hl
  obtain ⟨i2, r2, p2, _⟩ := I.list hb
  obtain ⟨⟨c1, d1, t1, w1⟩, ho1, hc1, n1, hd1⟩ := p1.isList
  obtain ⟨⟨c2, d2, t2, w2⟩, ho2, hc2, n2, hd2⟩ := p2.isList
  dsimp only at hc1 hd1 hc2 hd2
  subst hc1 hd1 hc2 hd2
  have hsz : i1.toArray.size + i2.toArray.size ≤ sizeLine := by
    rw [List.size_toArray, List.size_toArray, ← r1.length, ← r2.length]
    exact hz
  refine concat_meets ⟨_, ho1, rfl⟩ ⟨_, ho2, rfl⟩ noFill_list_add seq_list_add PySem.F.slot_list_add PySem.F.entry_list_add (PySem.F.args_list_add_2 _ _) (list_addW l b i1.toArray i2.toArray n1 n2 d1 d2 w1 w2 hsz) ⟨ho1, ho2, ?_⟩
  have e : i1.toArray ++ i2.toArray = (i1 ++ i2).toArray := by simp
  rw [e]
  exact ⟨.ref _, _, I.lnew (t' := s.toks) (r1.append r2) (by rw [List.length_append]; exact hz), rfl, q _ I.fresh⟩
end
/-! ### lists of truths -/
theorem dpa_bools {K : PySem.W.Frag} {H : Hp} : ∀ bs : List Bool, DpAll K H (bs.map V.bl) (bs.map PyData.bool)
  | [] => .nil
  | b :: bs => .cons (.bl b) (dpa_bools bs)
theorem dp_bools {K : PySem.W.Frag} {H : Hp} {p : Addr} {bs : List Bool} (h : H p = some (.lst (bs.map V.bl))) : Dp K H (.ref p) (.list (bs.map PyData.bool)) := .lst (sq_of h) (dpa_bools bs)
def wh (c : Nat) : List Bool := [decide (c = 0), decide (c = 1), decide (c = 2), decide (c = 3), decide (c = 4), decide (c = 5), decide (c = 6)]
def wi (c : Int) : List Bool := [decide (0 = c), decide (1 = c), decide (2 = c), decide (3 = c), decide (4 = c), decide (5 = c), decide (6 = c)]
theorem wh_wi : ∀ c : Nat, c < 7 → PyData.eqv (.list ((wh c).map PyData.bool)) (.list ((wi (c : Int)).map PyData.bool)) = true
  | 0, _ => by decide +kernel
  | 1, _ => by decide +kernel
  | 2, _ => by decide +kernel
  | 3, _ => by decide +kernel
  | 4, _ => by decide +kernel
  | 5, _ => by decide +kernel
  | 6, _ => by decide +kernel
  | c + 7, h => absurd h (by omega)
theorem given_wi (c : Int) : given (7 : Int).toNat (fun _ => true) (fun i => V.bl (decide ((i : Int) = c))) = (wi c).map V.bl := rfl
end GF

/-! a lambda without parameters handed to a def of two, called there in a try -/
namespace GF
open PySem PySem.Spec PyProof.Rows L2
section
variable {X : Cx} {pins : List (Addr × Obj)} {σ : L2.St} {H : Hp} {s : Shared}
theorem lam_act {CXg : CXT} {Eg : XK} {Ng : List Str} {qg : Str} {sg : Scope} {g f c' : Addr} {cdg pm ctv : Value} {params : Arguments} {body : Expr} {scope : Scope} {k i : Nat} {a : Str} {pn : List (Addr × Obj)} {xe : Value → Shared → Prop} {W : WX} {tb : XK → TE} {p1 p2 : Pos}
    (I : Inv X pins σ H s) (L : LamX.LamS X.env.scope scope) (hf : s.heap.get? f = some (PySem.W.kla_obj "<lambda>" (X.env.qual ++ "<lambda>") params body scope (cloFrom X.env.cells scope.names []) pm c' ctv)) (hfn : H f = none) (hfr : f ∉ frs X.stack)
    (hbind : bindArgs (PySem.W.kla_fn "<lambda>" (X.env.qual ++ "<lambda>") params body scope (cloFrom X.env.cells scope.names []) pm (.ref c') ctv) ⟨[], []⟩ = pure [])
    (tk : L2.Takes ((cxOf CXg X.prog X.w X.K X.mg X.base Ng qg sg g cdg X.A X.stack s H Eg).tr pn xe) W) (hr : Room (k + 1) (X.A.deeper (envOfC qg sg s.heap.objs.size g cdg)))
    (hbody : ∀ (E : XK) (Ar : Around) (outer : List Env) (s : Shared) (H : Hp), Room k (Ar.deeper (LamX.lamEnv X scope s.heap.objs.size f c')) → PE (LamX.lamCx X Ar outer s H E scope f c') body (tb E))
    (hN : Ng[i]? = some a) (hv : Vis sg a) (h1 : (a == ("__debug__" : Str)) = false) (h2 : (a == ("__classdict__" : Str)) = false) :
    PE ((cxOf CXg X.prog X.w X.K X.mg X.base Ng qg sg g cdg X.A X.stack s H Eg).tr pn xe) (.Call (.Name a p1) [] [] p2)
      (fun τ HZ Q => τ[i]? = some (some (.ref f)) ∧ HZ c' = some (LamX.CodeO c' (X.env.qual ++ "<lambda>")) ∧ tb (WE W τ) σ HZ Q) := by
  constructor
  rintro pz sz τ HZ Q IZ ⟨hs, hc, ht⟩
  have hvar := (pe_var (pos := p1) (i := i) hN hv h1 h2).run pz sz τ HZ (fun v H' => v = .ref f ∧ H' = HZ) IZ ⟨.ref f, hs, rfl, rfl⟩
  refine wpAny_Call_Name_kw (thn hvar ?_)
  rintro u s1 ⟨v, H', I1, r1, ev, eH⟩
  subst ev
  rw [eH] at I1
  cases (show u = Value.ref f from r1)
  have ob : s1.heap.get? f = some (PySem.W.kla_obj "<lambda>" (X.env.qual ++ "<lambda>") params body scope (cloFrom X.env.cells scope.names []) pm c' ctv) := I1.base.keep f _ hf hfn hfr List.not_mem_nil
  refine PySem.W.callWith_F0 ⟨_, _, _, _, ob⟩ ?_
  obtain ⟨⟨oc, vs, tq, hoc, hdc, hvc⟩, _, _⟩ := I1.hok c' _ hc
  have run : codeAny (model X.prog X.w) (X.A.deeper (envOfC qg sg s.heap.objs.size g cdg)) (.call (.ref f) ⟨[], []⟩) (CR (L2.CX X.prog X.w) (envOfC qg sg s.heap.objs.size g cdg :: X.stack) X.prog X.w HZ s1 Q (WE W τ)) s1 := by
    refine PySem.W.kla_callFunE hr.depth ob rfl L.co L.gen rfl ⟨c', oc, vs, tq, rfl, hoc, hdc, hvc⟩ ?_
    rw [hbind]
    refine wpAny_pure (wpAny_newFunctionEnv (fun y hy => (L.own y hy).2) (fun y hy => absurd hy List.not_mem_nil) (fun hp hns hsb => ⟨I1.nolimit.fresh _ hsb, ?_⟩) L.kind)
    have keep : ∀ b o, s1.heap.get? b = some o → hp.get? b = some o := fun b o e => hsb.extBut b o (Nat.ne_of_lt (Heap.lt_size e)) (Heap.get?_push_of_some _ e)
    have J := LamX.lam_start2 (E := WE W τ) (f := f) (c' := c') (tk := s1.toks + ([] : List (Str × Value)).length) I L I1.env0 hr.hd I1.base hns keep
    refine PySem.W.kla_codeExpr (wpAny_mono ((hbody (WE W τ) _ _ s1 HZ (hr.deeper _)).run [] _ _ HZ Q J ht) ?_ fun _ _ hq => hq)
    rintro v s' ⟨w', H'', J', rv, q⟩
    exact ⟨w', H'', J'.os, J'.bare, J'.base, J'.hok, rv, q⟩
  refine wpAny_call (codeAny_mono run ?_)
  intro r s' hq
  match r, hq with
  | .error e, hq => exact L2.passAt tk τ pz HZ s1 e s' I1 hq
  | .ok (.ret u), hq => exact I1.after hq
  | .ok .next, hq => exact False.elim hq
  | .ok .brk, hq => exact False.elim hq
  | .ok .cont, hq => exact False.elim hq
/-- what the def makes of the lambda that it got, the second argument an int -/
def Gives2 (X : Cx) (Ng : List Str) (x : Str) (sg : Scope) (g : Addr) (cdg : Value) (bg : List Stmt) (a q : Str) (n : Int) (k : Nat) (TT : (XK → Hp → VK → Prop) → Hp → VK → Prop) : Prop :=
  ∀ (f c' : Addr) (s : Shared) (H : Hp) (Q : VK) (tl : XK → Hp → VK → Prop), Room k (X.A.deeper (envOfC x sg s.heap.objs.size g cdg)) →
    (∀ (W : WX) (pn : List (Addr × Obj)) (xe : Value → Shared → Prop) (p1 p2 : Pos), L2.Takes ((cxOf CX0 X.prog X.w X.K X.mg X.base Ng x sg g cdg X.A X.stack s H E0).nox.tr pn xe) W →
      PE ((cxOf CX0 X.prog X.w X.K X.mg X.base Ng x sg g cdg X.A X.stack s H E0).nox.tr pn xe) (.Call (.Name a p1) [] [] p2) (fun τ HZ Q => τ[0]? = some (some (.ref f)) ∧ HZ c' = some (LamX.CodeO c' q) ∧ tl (WE W τ) HZ Q)) →
    H c' = some (LamX.CodeO c' q) → TT tl H Q →
    ∃ t, PSs (cxOf CX0 X.prog X.w X.K X.mg X.base Ng x sg g cdg X.A X.stack s H E0).nox bg t ∧ t { nx := fun _ H' => Q .non H', rt := Q } (L2.start Ng [.ref f, .int n]) H
theorem pe_lam2 {Ts : List (Addr × Str)} {TT : (XK → Hp → VK → Prop) → Hp → VK → Prop} {x a b : Str} {g c Pt : Addr} {k : Nat} {pg : Arguments} {bg : List Stmt} {sg : Scope} {dV kV doc pm cdv ct oc : Value} {an od : Option Addr} {osl : Array (Option Value)} {Ng : List Str}
    {params : Arguments} {body : Expr} {scope : Scope} {t : XK → TE} {n : Int} {j : Nat} {p lpos cpos pos : Pos} (hg : Gl X x) (hm : X.mg x = some (.ref g)) (hk : PySem.W.keepIn X.K (.ref g) = true)
    (lk : X.K.lookup g = some ⟨oc, od, .func (PySem.W.fnOf x x pg bg sg dV kV doc pm an cdv ct), osl⟩) (hcg : PySem.W.codeIn X.K cdv x = true) (hb : L2.Binds X.K (PySem.W.fnOf x x pg bg sg dV kV doc pm an cdv ct) [a, b] []) (Sg : FnScope Ng [a, b] sg) (hNg : Ng[0]? = some a) (hva : Vis sg a)
    (hG : Gives2 X Ng x sg g cdv bg a (X.env.qual ++ "<lambda>") n (k + 1) TT)
    (TB : LamX.TabB X.base X.mg c Pt) (hcode : X.env.code = .ref c) (hmT : (Pt, X.env.qual ++ "<lambda>") ∈ Ts) (hu : ∀ q ∈ Ts, q.1 = Pt → q.2 = X.env.qual ++ "<lambda>") (hst : X.stack = X.env :: X.outer) (hfm : X.env.frame = some X.env.locals) (hfs : X.fs = frs X.outer) (hr : Room (k + 2) X.A) (L : LamX.LamS X.env.scope scope) (hdef : defaultsOf params X.env = ([], []))
    (hbind : ∀ (q : Str) (cl : List (Str × Addr)) (pm cv ctv : Value), bindArgs (PySem.W.kla_fn "<lambda>" q params body scope cl pm cv ctv) ⟨[], []⟩ = pure [])
    (hbody : ∀ (E : XK) (Ar : Around) (outer : List Env) (s : Shared) (H : Hp) (f c' : Addr), Room k (Ar.deeper (LamX.lamEnv X scope s.heap.objs.size f c')) → PE (LamX.lamCx X Ar outer s H E scope f c') body (t E))
    (hdb : (x == ("__debug__" : Str)) = false := by decide) (h1 : (a == ("__debug__" : Str)) = false := by decide) (h2 : (a == ("__classdict__" : Str)) = false := by decide) :
    PE X (.Call (.Name x p) [.Lambda params body scope lpos, .Constant (.int n) j cpos] [] pos) (LamX.tLam Ts TT t) := by
  constructor
  rintro pins s σ H Q I ⟨hT, h⟩
  refine wpAny_Call_Name_kw (ld_glob I hg hm ?_ hdb)
  refine PySem.W.callWith_K (h₀ := X.base) I.ok.mod.kin hk ?_ (by rfl) (by rfl)
  show wpAny _ _ (spliced ((false, eval (.Lambda params body scope lpos) X.env) :: backTo pos (starEach [.Constant (.int n) j cpos] X.env))) _ _ s
  refine Calls.spliced_cons (LamX.lam_make2 I TB hcode hmT hu hT hdef (L.has I.ok) ?_)
  intro f c' pm' ctv H1 s' I1 eN T1 hf hfn hfr hco
  have nL : f ≠ X.env.locals := fun z => hfr (by rw [hst]; exact List.mem_filterMap.mpr ⟨X.env, List.mem_cons_self, by rw [hfm, z]⟩)
  have nF : f ∉ X.fs := fun z => hfr (by
    rw [hfs] at z
    obtain ⟨e, he, q⟩ := List.mem_filterMap.mp z
    rw [hst]
    exact List.mem_filterMap.mpr ⟨e, List.mem_cons_of_mem _ he, q⟩)
  have I1p : Inv X (pins ++ [(f, PySem.W.kla_obj "<lambda>" (X.env.qual ++ "<lambda>") params body scope (cloFrom X.env.cells scope.names []) pm' c' ctv)]) σ H1 s' := I1.pins_of fun q hq => by
    rcases List.mem_append.mp hq with z | z
    · exact I1.pin q (List.mem_append_right _ z)
    · rw [List.mem_singleton.mp z]
      exact ⟨hf, hfn, nL, nF, fun v e => nomatch e⟩
  have hc : PA X [.Constant (.int n) j cpos] (tCons (tC (.int n)) tNil) := pa_cons pe_int pa_nil
  refine thn (hc.run pos _ s' σ H1 (fun vs H' => vs = [.int n] ∧ H' = H1) I1p ⟨rfl, rfl⟩) ?_
  rintro us s2 ⟨vs, H2, I2p, rv, ev, eH⟩
  subst ev
  rw [eH] at I2p
  have hf2 := (I2p.pin (f, _) (List.mem_append_right _ (List.mem_append_right _ List.mem_cons_self))).1
  have I2 := I2p.unpinned
  cases rv with
  | cons ru rn =>
    rename_i u us'
    cases rn
    refine ⟨I2.kIn, ?_⟩
    have run : codeAny (model X.prog X.w) X.A (.call (.ref g) ⟨[.ref f, u], []⟩) (CR CX0 X.stack X.prog X.w H1 s2 Q E0) s2 := by
      refine LamX.run_ofS (N := Ng) (ps := [a, b]) (us := [.ref f, u]) (vs := [.ref f, .int n]) lk hcg Sg hr I2.env0 (hb s2 [.ref f, u] I2.kIn rfl) (.cons rfl (.cons ru .nil)) rfl fun hr' => ?_
      obtain ⟨t', ht', hq'⟩ := hG f c' s2 H1 Q (fun E H' Q' => t E σ H' Q') hr' (fun W pn xe p1 p2 tk => lam_act (CXg := CX0) (Eg := E0) (i := 0) I2 L hf2 hfn hfr (hbind _ _ _ _ _) tk hr' (fun E Ar outer s H hr2 => hbody E Ar outer s H f c' hr2) hNg hva h1 h2) hco (h H1 eN T1)
      exact ⟨t', ht'.nox, hq'⟩
    refine wpAny_call (codeAny_mono run ?_)
    intro r s3 hq
    match r, hq with
    | .error e, hq => exact (show False from hq).elim
    | .ok (.ret u), hq => exact I2.after hq
    | .ok .next, hq => exact False.elim hq
    | .ok .brk, hq => exact False.elim hq
    | .ok .cont, hq => exact False.elim hq
end
end GF

namespace GF
open PySem L2 Evl
section
variable {K : PySem.W.Frag} {σ : L2.St} {H H' : Hp} {ta tb tc te tl : TE} {x y z v : V} {D : Ends} {tz tu : TS} {g : TG} {tt : TT}
/-- a call whose one argument is a new list -/
theorem ev_hL {r : Hp → List V → V → Prop} {E : XK} {xs : List V} (h : EvL te σ H xs) (hr : ∀ p H1, Ex H H1 → H1 p = some (.lst xs) → r H1 [.ref p] v) : Ev (tCall (spH r) [] E (tCons te tNil)) σ H v := fun H1 e Q q =>
  h H1 e _ fun p H2 _ e2 hp => ⟨v, hr p H2 (e.trans e2) hp, fun H3 e3 => q H3 (e2.trans e3)⟩
/-- [a for a, b in xs], xs a list of pairs -/
theorem el_lcFst {i j : Nat} {vs : List Nat} {a : Addr} {l : List (Nat × Bool)} (h : Ev tl σ H (.ref a)) (hl : ListT H a (l.map prV)) (hz : l.length ≤ 40000) (hw : ∀ x y, wipe (((wipe σ vs).set i (some x)).set j (some y)) vs = wipe σ vs)
    (he : ∀ (x y : V) H1, Ev te (((wipe σ vs).set i (some x)).set j (some y)) H1 x) :
    EvL (tLc (iList K tl) (gTup K 2 (gCons (gName i) (gCons (gName j) gNil))) tYes te vs) σ H ((l.map fun r => (r.1 : Int)).map V.int) := fun H0 e Q q => h H0 e _ fun H1 e1 => by
  obtain ⟨as, hx, hT⟩ := hl.mono (e.trans e1)
  have hal : as.length = l.length := by
    have := hT.1
    rw [List.length_map] at this
    exact this
  refine ⟨a, rfl, ⟨_, sq_of hx⟩, fun Dl hD => lc_list (K := K) (xs := as.map V.ref) (fun n H' => Ex H1 H' ∧ H' Dl = some (.lst (((l.take n).map fun r => (r.1 : Int)).map V.int))) ⟨Ex.new hD, upd_same⟩ (fun n H' _ w => sq_of (w.1 _ _ hx)) (fun n x H' hi w => ?_) fun H' w => ?_⟩
  · obtain ⟨T, r, rfl, hr, hTr⟩ := tups_item (hT.mono w.1) hi
    have hTr : H' T = some (.tup [.int (r.1 : Int), .bl r.2]) := hTr
    refine g_2 hTr ⟨hw _ _, ?_⟩
    show te _ _ fun y H4 => ∃ acc, H4 Dl = some (.lst acc) ∧ acc.length < sizeLine ∧ _
    refine he _ _ H' H' (Ex.refl H') _ fun H4 e4 => ⟨_, e4 _ _ w.2, sz_lt (by rw [List.length_map, List.length_map, List.length_take]; omega), Ex.mut (w.1.trans e4) hD, ?_⟩
    rw [upd_same, List.take_add_one, hr]
    simp
  · have w2 := w.2
    rw [List.length_map, hal, List.take_length] at w2
    exact q Dl H' (fresh_back e1 hD) (e1.trans w.1) w2
/-- xs.pop() -/
theorem q_pop {i : Nat} {l : Addr} {xs : List V} {y : V} (hl : H l = some (.lst (xs ++ [y]))) (ha : Ev ta σ H (.ref l)) (k : ∀ H1, Ex H H1 → tz D (σ.set i (some y)) (upd H1 l (.lst xs))) : tSeq (tAsg (tBM0 K "list" rPop ta) (gName i)) tz D σ H :=
  ha H (Ex.refl H) _ fun H1 e1 => ⟨Or.inl ⟨rfl, _, sq_of (e1 _ _ hl)⟩, l, xs ++ [y], y, rfl, rfl, e1 _ _ hl, by simp, by
    have e : (xs ++ [y]).dropLast = xs := List.dropLast_concat
    show tz D (σ.set i (some y)) (upd H1 l (.lst (xs ++ [y]).dropLast))
    rw [e]
    exact k H1 e1⟩
/-- xs.extend(ys), ys a new list -/
theorem s_extL {l : Addr} {xs ys : List V} (hl : H l = some (.lst xs)) (ha : Ev ta σ H (.ref l)) (h : EvL te σ H ys) (hz : xs.length + ys.length ≤ 100000) (k : ∀ H1, Ex H H1 → D.nx σ (upd H1 l (.lst (xs ++ ys)))) : tDrop (tBM K "list" rExtend ta (tCons te tNil)) D σ H :=
  ha H (Ex.refl H) _ fun H1 e1 => ⟨Or.inl ⟨rfl, xs, sq_of (e1 l _ hl)⟩, h H1 e1 _ fun p H2 hp e2 h2 => ⟨l, p, xs, ys, rfl, rfl, e2 l _ (e1 l _ hl), h2, sz_of hz, k H2 (e1.trans e2)⟩⟩
/-- lists of things, one behind the other -/
theorem en_catB {Pv : V → Hp → Prop} {l : Addr} {us : List V} {n : Nat} (mono : ∀ v H H', Pv v H → Ex H H' → Pv v H') (ha : Ev ta σ H (.ref l)) (hl : H l = some (.lst us)) (hu : ∀ u ∈ us, Pv u H) (hb : EvN tb σ H (fun v H2 => ∃ p us, v = .ref p ∧ H p = none ∧ H2 p = some (.lst us) ∧ us.length = n ∧ ∀ u ∈ us, Pv u H2)) (hz : us.length + n ≤ 100000) :
    EvN (tOp rCat ta tb) σ H (fun v H2 => ∃ p ws, v = .ref p ∧ H p = none ∧ H2 p = some (.lst ws) ∧ ws.length = us.length + n ∧ ∀ u ∈ ws, Pv u H2) := fun H1 e Q q => ha H1 e _ fun H2 e2 => hb H2 (e.trans e2) _ fun v H3 e3 hv => by
  obtain ⟨b, ws, rfl, _, hb1, hbl, hbu⟩ := hv
  have e13 := (e.trans e2).trans e3
  refine ⟨l, b, us, ws, rfl, rfl, e13 _ _ hl, hb1, sz_of (by omega), fun p hp => q _ _ ((e2.trans e3).trans (Ex.new hp)) ⟨p, us ++ ws, rfl, fresh_back e13 hp, upd_same, by rw [List.length_append, hbl], fun u h => ?_⟩⟩
  rcases List.mem_append.mp h with z | z
  · exact mono _ _ _ (hu u z) (e13.trans (Ex.new hp))
  · exact mono _ _ _ (hbu u z) (Ex.new hp)
theorem en_tupB {t : TA} {Pv : V → Hp → Prop} {n : Nat} (mono : ∀ v H H', Pv v H → Ex H H' → Pv v H') (h : EvAB t σ H Pv n) (hz : n ≤ 100000) : EvN (tTup t) σ H (fun v H2 => ∃ p us, v = .ref p ∧ H p = none ∧ H2 p = some (.tup us) ∧ us.length = n ∧ ∀ u ∈ us, Pv u H2) := fun H1 e Q q =>
  h H1 e _ fun vs H2 e2 hl hvs => ⟨sz_of (by rw [hl]; exact hz), fun p hp => q _ _ (e2.trans (Ex.new hp)) ⟨p, vs, rfl, fresh_back (e.trans e2) hp, upd_same, hl, fun u hu => mono _ _ _ (hvs u hu) (Ex.new hp)⟩⟩
/-- for x in a tuple that an expression hands back -/
theorem q_forTn {Post : V → Hp → Prop} (h : EvN tl σ H Post)
    (hs : ∀ v H1, Ex H H1 → Post v H1 → ∃ (p : Addr) (xs : List V) (Pv : Nat → L2.St → Hp → Prop), v = .ref p ∧ SqT K H1 p xs ∧ Pv 0 σ H1 ∧ (∀ i σ' H', i ≤ xs.length → Pv i σ' H' → SqT K H' p xs) ∧
      (∀ (i : Nat) x σ' H', xs[i]? = some x → Pv i σ' H' → g x σ' H' fun σ2 H2 => tu { D with nx := Pv (i + 1), ct := Pv (i + 1), bk := tz D } σ2 H2) ∧ (∀ σ' H', Pv xs.length σ' H' → tz D σ' H')) : tSeq (tFor (iTup K tl) g tu) tz D σ H :=
  h H (Ex.refl H) _ fun v H1 e1 hp => by
    obtain ⟨p, xs, Pv, rfl, hx, h0, hl, ht, hd⟩ := hs v H1 e1 hp
    exact ⟨p, rfl, ⟨xs, hx⟩, for_tup (D := { D with nx := tz D }) Pv h0 hl ht hd⟩
end
/-! ### all but the tables of code objects stay -/
theorem exn_l {K : PySem.W.Frag} {H H' : Hp} {a : Addr} {xs : List V} (e : LamX.ExtN H H') (h : SqL K H a xs) : SqL K H' a xs := by
  rcases h with (h | ⟨o, h⟩) | h
  · exact .inl (.inl (e _ _ h fun ps z => by cases z))
  · exact .inl (.inr ⟨o, e _ _ h fun ps z => by cases z⟩)
  · exact .inr h
theorem exn_t {H H' : Hp} {a : Addr} {xs : List V} (e : LamX.ExtN H H') (h : H a = some (.tup xs)) : H' a = some (.tup xs) := e _ _ h fun ps z => by cases z
theorem TupsAt.monoN {H H' : Hp} {as : List Addr} {rows : List (List V)} (h : TupsAt H as rows) (e : LamX.ExtN H H') : TupsAt H' as rows := ⟨h.1, fun i a r h1 h2 => exn_t e (h.2 i a r h1 h2)⟩
theorem Odd.monoN {H H' : Hp} {v : V} (h : Odd H v) (e : LamX.ExtN H H') : Odd H' v := by
  rcases h with h | h | h | ⟨p, rfl, h⟩
  · exact .inl h
  · exact .inr (.inl h)
  · exact .inr (.inr (.inl h))
  · refine .inr (.inr (.inr ⟨p, rfl, ?_⟩))
    rcases h with ⟨xs, h⟩ | ⟨xs, h⟩ | ⟨kvs, h⟩
    · exact .inl ⟨xs, e _ _ h fun ps z => by cases z⟩
    · exact .inr (.inl ⟨xs, e _ _ h fun ps z => by cases z⟩)
    · exact .inr (.inr ⟨kvs, e _ _ h fun ps z => by cases z⟩)
theorem Bad.monoN {H H' : Hp} {v : V} {lo hi : Int} (h : Bad H v lo hi) (e : LamX.ExtN H H') : Bad H' v lo hi := h.elim (fun z => .inl (z.monoN e)) .inr
/-! ### numbers of the laws -/
theorem fw_two : fw 500500 2 = 1000 := by
  have h1 := R_two 1000
  have h2 := R_two 999
  exact fw_eq ⟨by omega, .inr (by show R 999 2 < _; omega)⟩
theorem R_1000_2 : R 1000 2 = 500500 := by
  have h1 := R_two 1000
  omega
theorem fw_60 {g : Nat} (h : 200 ≤ g) : fw (10 ^ 60) g = 200 := by
  have h1 := R_full 200 g h
  have h2 := R_full 199 g (by omega)
  have h3 : (10 : Nat) ^ 60 < 2 ^ 200 := by decide
  have h4 : (2 : Nat) ^ 199 ≤ 10 ^ 60 := by decide
  exact fw_eq ⟨by omega, .inr (by show R 199 g < _; omega)⟩
end GF

/-! lambdas of one parameter that capture nothing, held as values, called by a slot's name -/
namespace GF
open PySem PySem.Spec PyProof.Rows L2
/-- the lambda's own object -/
def LamF (f : Addr) (q : Str) (params : Arguments) (body : Expr) (scope : Scope) (c' : Addr) : HO := .ext fun h => ∃ pm ctv : Value, h.get? f = some (PySem.W.kla_obj "<lambda>" q params body scope [] pm c' ctv)
theorem cloNone {cells : List (Str × Addr)} : ∀ {names : List (Str × NameKind)}, (∀ y ∈ names, y.2 ≠ .free) → cloFrom cells names [] = []
  | [], _ => rfl
  | (n, k) :: r, h => by
    have hk : (k == NameKind.free) = false := by
      have := h (n, k) List.mem_cons_self
      cases k <;> first | rfl | exact absurd rfl this
    unfold cloFrom
    rw [hk]
    exact cloNone fun y hy => h y (List.mem_cons_of_mem _ hy)
section
variable {X : Cx} {pins : List (Addr × Obj)} {σ : L2.St} {H : Hp} {s : Shared}
theorem lamF_ok {P : Program} {w : World} {H : Hp} {h : Heap} {f c' : Addr} {q : Str} {params : Arguments} {body : Expr} {scope : Scope} {pm ctv : Value} (e : h.get? f = some (PySem.W.kla_obj "<lambda>" q params body scope [] pm c' ctv)) : ObjOk P w H h f (LamF f q params body scope c') :=
  ⟨⟨pm, ctv, e⟩, ⟨_, e⟩, fun _ _ ⟨a, b, z⟩ st => ⟨a, b, st _ z⟩⟩
theorem lam_made {Ts : List (Addr × Str)} {c Pt : Addr} {params : Arguments} {body : Expr} {scope : Scope} {pos : Pos} {E : Value → Shared → Prop} {Q : Value → Shared → Prop} (I : Inv X pins σ H s) (TB : LamX.TabB X.base X.mg c Pt) (hcode : X.env.code = .ref c)
    (hm : (Pt, X.env.qual ++ "<lambda>") ∈ Ts) (hu : ∀ q ∈ Ts, q.1 = Pt → q.2 = X.env.qual ++ "<lambda>") (hT : LamX.Tabs Ts H) (hdef : defaultsOf params X.env = ([], [])) (hnf : ∀ y ∈ scope.names, y.2 ≠ .free)
    (h : ∀ (f c' : Addr) (H1 : Hp) (s' : Shared), Inv X pins σ H1 s' → H f = none → LamX.ExtN H H1 → LamX.Tabs Ts H1 → H1 f = some (LamF f (X.env.qual ++ "<lambda>") params body scope c') → H1 c' = some (LamX.CodeO c' (X.env.qual ++ "<lambda>")) → Q (.ref f) s') :
    wpAny (model X.prog X.w) X.A (eval (.Lambda params body scope pos) X.env) Q E s := by
  obtain ⟨ps, hP, htr, hknown⟩ := hT _ hm
  have hPs : s.heap.get? Pt = some { cls := .none, data := .fields ps } := I.hok Pt _ hP
  have hbm : s.heap.BuiltinsAt X.mg Pt := TB.bm.keeps I.bk
  have hclo : closureFor scope X.env = pure [] := by
    have z := closure_ok (scope := scope) (env := X.env) fun y hy e => absurd e (hnf y hy)
    rw [cloNone hnf] at z
    exact z
  refine PySem.W.kla_eval hdef ?_
  match hc : codeAmong pos ps.toList with
  | some cv =>
    obtain ⟨c', rfl, hco⟩ := hknown pos cv hc
    refine PySem.W.kla_makeFunctionHit (mg := X.mg) (c := c) (P := Pt) (ps := ps) hclo I.ok.glob (I.mod.glob.keeps I.bk) hcode (TB.code.keeps I.bk) hPs htr hc hbm ?_
    intro ctv h' tk hkeep hsz
    have Ia : Inv X pins σ H { s with heap := h', toks := tk } := I.kept hkeep
    have hfn : H h'.objs.size = none := I.hok.fresh hsz
    have Ib := Ia.laid (t' := tk) (a := h'.objs.size) (o := LamF h'.objs.size (X.env.qual ++ "<lambda>") params body scope c') (fun b o e => Heap.get?_push_of_some (h := h') (PySem.W.kla_obj "<lambda>" (X.env.qual ++ "<lambda>") params body scope [] ((X.mg "__name__").getD .none) c' ctv) e) (Nat.le_refl _) (lamF_ok (Heap.get?_push_size _ rfl))
    have grow : ∀ b o, H b = some o → upd H h'.objs.size (LamF h'.objs.size (X.env.qual ++ "<lambda>") params body scope c') b = some o := fun b o e => by
      rw [upd_ne (ne_of_none e hfn)]
      exact e
    exact h _ c' _ _ Ib hfn (LamX.ExtN.of grow) (hT.ext grow) upd_same (grow _ _ hco)
  | none =>
    refine PySem.W.kla_makeFunction (mg := X.mg) (c := c) (P := Pt) (ps := ps) hclo I.ok.glob (I.mod.glob.keeps I.bk) hcode (TB.code.keeps I.bk) hPs htr hc TB.gP hbm ?_
    rintro c' ctv h' tk hext hge hlt ⟨c2, oc, vs, tq, ec, hoc, hdc, hvc⟩ htab
    cases ec
    have hsz : s.heap.objs.size ≤ h'.objs.size := Nat.le_trans hge (Nat.le_of_lt hlt)
    have hcn : H c' = none := I.hok.fresh hge
    have Ia := LamX.inv_table (t' := tk) (c := c') (more := #[rawInt pos.line, rawInt pos.col, .ref c']) (h' := h') (q := X.env.qual ++ "<lambda>") I hP (fun b o nb e => hext b o nb e) htab hge ⟨oc, vs, tq, hoc, hdc, hvc⟩
    have hPc : Pt ≠ c' := ne_of_none hP hcn
    generalize hHa : upd (upd H Pt (.tbl (ps ++ #[rawInt pos.line, rawInt pos.col, .ref c']))) c' (LamX.CodeO c' (X.env.qual ++ "<lambda>")) = Ha at Ia
    have aP : Ha Pt = some (.tbl (ps ++ #[rawInt pos.line, rawInt pos.col, .ref c'])) := by rw [← hHa, upd_ne hPc, upd_same]
    have ac : Ha c' = some (LamX.CodeO c' (X.env.qual ++ "<lambda>")) := by rw [← hHa, upd_same]
    have ao : ∀ b o, H b = some o → b ≠ Pt → Ha b = some o := fun b o e nb => by
      rw [← hHa, upd_ne (ne_of_none e hcn), upd_ne nb]
      exact e
    have hfn : H h'.objs.size = none := I.hok.fresh hsz
    have hfa : Ha h'.objs.size = none := Ia.hok.fresh (Nat.le_refl _)
    have Ib := Ia.laid (t' := tk) (a := h'.objs.size) (o := LamF h'.objs.size (X.env.qual ++ "<lambda>") params body scope c') (fun b o e => Heap.get?_push_of_some (h := h') (PySem.W.kla_obj "<lambda>" (X.env.qual ++ "<lambda>") params body scope [] ((X.mg "__name__").getD .none) c' ctv) e) (Nat.le_refl _) (lamF_ok (Heap.get?_push_size _ rfl))
    have grow : ∀ b o, Ha b = some o → upd Ha h'.objs.size (LamF h'.objs.size (X.env.qual ++ "<lambda>") params body scope c') b = some o := fun b o e => by
      rw [upd_ne (ne_of_none e hfa)]
      exact e
    have hE : LamX.ExtN H Ha := fun b o e nt => ao b o e fun z => by
      rw [z, hP] at e
      exact nt _ (Option.some.inj e).symm
    have eL : (ps ++ #[rawInt pos.line, rawInt pos.col, .ref c']).toList = ps.toList ++ [rawInt pos.line, rawInt pos.col, .ref c'] := by simp
    have hTa : LamX.Tabs Ts Ha := fun q hq => by
      by_cases hb : q.1 = Pt
      · rw [hu q hq hb, hb]
        refine ⟨_, aP, by rw [eL]; exact PySem.TriplesOk_snoc _ _ _ _ htr, fun p' cv hcv => ?_⟩
        rw [eL] at hcv
        rcases LamX.among_app _ htr hcv with z | z
        · obtain ⟨c0, z1, z2⟩ := hknown p' cv z
          exact ⟨c0, z1, hE _ _ z2 LamX.codeO_ne⟩
        · exact ⟨c', z, ac⟩
      · obtain ⟨ps2, z1, z2, z3⟩ := hT q hq
        refine ⟨ps2, ao _ _ z1 hb, z2, fun p' cv hcv => ?_⟩
        obtain ⟨c0, y1, y2⟩ := z3 p' cv hcv
        exact ⟨c0, y1, hE _ _ y2 LamX.codeO_ne⟩
    exact h _ c' _ _ Ib hfn (hE.trans (LamX.ExtN.of grow)) (hTa.ext grow) upd_same (grow _ _ ac)
/-- lambda x: .. as a value -/
def tMkLam (Ts : List (Addr × Str)) (q : Str) (params : Arguments) (body : Expr) (scope : Scope) : TE := fun _ H Q => LamX.Tabs Ts H ∧ ∀ (f c' : Addr) (H1 : Hp), H f = none → LamX.ExtN H H1 → LamX.Tabs Ts H1 → H1 f = some (LamF f q params body scope c') → H1 c' = some (LamX.CodeO c' q) → Q (.ref f) H1
theorem pe_mkLam {Ts : List (Addr × Str)} {c Pt : Addr} {q : Str} {params : Arguments} {body : Expr} {scope : Scope} {pos : Pos} (TB : LamX.TabB X.base X.mg c Pt) (hcode : X.env.code = .ref c) (hq : X.env.qual ++ "<lambda>" = q) (hm : (Pt, q) ∈ Ts) (hu : ∀ p ∈ Ts, p.1 = Pt → p.2 = q) (hdef : defaultsOf params X.env = ([], [])) (hnf : ∀ y ∈ scope.names, y.2 ≠ .free) :
    PE X (.Lambda params body scope pos) (tMkLam Ts q params body scope) := by
  subst hq
  constructor
  rintro pins s σ H Q I ⟨hT, h⟩
  exact lam_made I TB hcode hm hu hT hdef hnf fun f c' H1 s' I1 hn eN T1 h1 h2 => ⟨.ref f, H1, I1, rfl, h f c' H1 hn eN T1 h1 h2⟩
end
/-! ### what such a lambda does when it is called -/
def LamOk (P : Program) (w : World) (K : PySem.W.Frag) (mg : Str → Option Value) (base : Heap) (k : Nat) (q : Str) (params : Arguments) (body : Expr) (scope : Scope) (sp : Sp) : Prop :=
  ∀ (Ar : Around) (outer : List Env) (s : Shared) (H : Hp) (f c' : Addr) (pm ctv u : Value) (v : V) (Q : VK) (E : XK), Room k Ar → Env0 P w K mg base Ar outer s H → s.heap.get? f = some (PySem.W.kla_obj "<lambda>" q params body scope [] pm c' ctv) → H c' = some (LamX.CodeO c' q) → RelV v u → sp [v] H Q E →
    codeAny (model P w) Ar (.call (.ref f) ⟨[u], []⟩) (CR (L2.CX P w) outer P w H s Q E) s
theorem lam_ok {P : Program} {w : World} {K : PySem.W.Frag} {mg : Str → Option Value} {base : Heap} {k : Nat} {q a : Str} {params : Arguments} {body : Expr} {scope : Scope} {t : XK → TE} (S : FnScope [a] [a] scope)
    (hbind : ∀ (pm cv ctv u : Value), bindArgs (PySem.W.kla_fn "<lambda>" q params body scope [] pm cv ctv) ⟨[u], []⟩ = pure [(a, u)])
    (hb : ∀ (f : Addr) (cd : Value) (Ar : Around) (outer : List Env) (s : Shared) (H : Hp) (E : XK), Room k (Ar.deeper (envOfC q scope s.heap.objs.size f cd)) → PE (cxOf (L2.CX P w) P w K mg base [a] q scope f cd Ar outer s H E) body (t E)) :
    LamOk P w K mg base (k + 1) q params body scope (fun vs H Q E => t E (vs.map some) H Q) := by
  intro Ar outer s H f c' pm ctv u v Q E hr e0 hf hc rv hsp
  obtain ⟨⟨oc, vs, tq, hoc, hdc, hvc⟩, _, _⟩ := e0.hok c' _ hc
  have lim : s.heap.NoLimit := e0.mod.nolimit.keeps fun b o e => (e0.bs b o e).1
  refine PySem.W.kla_callFunE hr.depth hf rfl S.co S.gen rfl ⟨c', oc, vs, tq, rfl, hoc, hdc, hvc⟩ ?_
  rw [hbind]
  have hkind : ∀ y ∈ [(a, u)], scope.names.lookup y.1 = some .local ∨ (scope.names.lookup y.1 = some .cell ∧ ((cellsFrom (s.heap.objs.size + 1) scope.names []).lookup y.1).isSome = true) := fun y hy => by
    rw [List.mem_singleton.mp hy]
    rcases S.par a List.mem_cons_self with z | z
    · exact .inl z
    · exact .inr ⟨z, PySem.W.cellsFrom_some _ _ _ (.inl z)⟩
  refine wpAny_pure (wpAny_newFunctionEnv_cells S.kind hkind ?_)
  rintro env rfl s1 x
  refine ⟨lim.keeps x.toInCall.keep, ?_⟩
  have J : Inv (cxOf (L2.CX P w) P w K mg base [a] q scope f (.ref c') Ar outer s H E) [] (L2.start [a] [v]) H s1 := inv_start (us := [u]) S hr.hd e0 rfl (.cons rv .nil) x
  refine PySem.W.kla_codeExpr (wpAny_mono ((hb f (.ref c') Ar outer s H E (hr.deeper _)).run [] s1 (L2.start [a] [v]) H Q J hsp) ?_ fun _ _ hq => hq)
  rintro v' s' ⟨w', H', J', r', q'⟩
  exact ⟨w', H', J'.os, J'.bare, J'.base, J'.hok, r', q'⟩
/-- f is such a lambda, with its promise -/
def AskL (P : Program) (w : World) (K : PySem.W.Frag) (mg : Str → Option Value) (base : Heap) (k : Nat) (H : Hp) (f : Addr) (sp : Sp) : Prop := ∃ (q : Str) (params : Arguments) (body : Expr) (scope : Scope) (c' : Addr), H f = some (LamF f q params body scope c') ∧ H c' = some (LamX.CodeO c' q) ∧ LamOk P w K mg base k q params body scope sp
section
variable {P : Program} {w : World} {K : PySem.W.Frag} {mg : Str → Option Value} {base : Heap} {k : Nat} {H H' : Hp} {f : Addr} {sp : Sp}
theorem AskL.monoN (h : AskL P w K mg base k H f sp) (e : LamX.ExtN H H') : AskL P w K mg base k H' f sp := by
  obtain ⟨q, params, body, scope, c', h1, h2, h3⟩ := h
  exact ⟨q, params, body, scope, c', e _ _ h1 (fun ps z => by unfold LamF at z; cases z), e _ _ h2 LamX.codeO_ne, h3⟩
theorem AskL.mono (h : AskL P w K mg base k H f sp) (e : ∀ b o, H b = some o → H' b = some o) : AskL P w K mg base k H' f sp := h.monoN (.of e)
end
def tCallLam (P : Program) (w : World) (K : PySem.W.Frag) (mg : Str → Option Value) (base : Heap) (k i : Nat) (E : L2.St → XK) (te : TE) : TE := fun σ H Q => ∃ f sp, σ[i]? = some (some (.ref f)) ∧ AskL P w K mg base k H f sp ∧ te σ H fun v H1 => AskL P w K mg base k H1 f sp ∧ sp [v] H1 Q (E σ)
theorem pe_callLam {X : Cx} {P : Program} {w : World} {K : PySem.W.Frag} {mg : Str → Option Value} {base : Heap} {k i : Nat} {W : WX} {x : Str} {p pos : Pos} {e : Expr} {te : TE} (x1 : X.prog = P) (x2 : X.w = w) (x3 : X.K = K) (x4 : X.mg = mg) (x5 : X.base = base) (hr : Room k X.A) (hN : X.N[i]? = some x) (hv : Vis X.env.scope x) (tk : L2.Takes X W) (he : PE X e te)
    (h1 : (x == ("__debug__" : Str)) = false := by decide) (h2 : (x == ("__classdict__" : Str)) = false := by decide) (h3 : starEach [e] X.env = (false, eval e X.env) :: starEach [] X.env := by rfl) (h4 : (backTo pos (starEach [] X.env)).any (·.1) = false := by rfl) :
    PE X (.Call (.Name x p) [e] [] pos) (tCallLam P w K mg base k i (WE W) te) := by
  subst x1 x2 x3 x4 x5
  constructor
  rintro pins s σ H Q I ⟨f, sp, hs, hA, ht⟩
  have hvar := (pe_var (pos := p) hN hv h1 h2).run pins s σ H (fun v H' => v = .ref f ∧ H' = H) I ⟨.ref f, hs, rfl, rfl⟩
  refine wpAny_Call_Name_kw (thn hvar ?_)
  rintro u s' ⟨v, H', I', r', ev, eH⟩
  subst ev eH
  cases r'
  have fnAt : ∀ {H2 : Hp} {s2 : Shared}, Inv X pins σ H2 s2 → AskL X.prog X.w X.K X.mg X.base k H2 f sp → PySem.W.FnAt f s2.heap := fun {H2 s2} I2 hA2 => by
    obtain ⟨q, params, body, scope, c', hf, _, _⟩ := hA2
    obtain ⟨⟨pm, ctv, z⟩, _, _⟩ := I2.hok f _ hf
    exact ⟨_, _, _, _, z⟩
  have ha : PA X [e] (tCons te tNil) := pa_cons he pa_nil h3
  refine PySem.W.callWith_F (fnAt I' hA) (thn (ha.run pos pins s' σ _ (fun vs H1 => ∃ v, vs = [v] ∧ AskL X.prog X.w X.K X.mg X.base k H1 f sp ∧ sp [v] H1 Q (WE W σ)) I' ?_) ?_) h3 h4
  · exact (show te σ _ fun v H1 => ∃ v', [v] = [v'] ∧ _ from by
      have e0 : (fun v H1 => AskL X.prog X.w X.K X.mg X.base k H1 f sp ∧ sp [v] H1 Q (WE W σ)) = fun v H1 => ∃ v', [v] = [v'] ∧ AskL X.prog X.w X.K X.mg X.base k H1 f sp ∧ sp [v'] H1 Q (WE W σ) := by
        funext v H1
        refine propext ⟨fun z => ⟨v, rfl, z⟩, ?_⟩
        rintro ⟨v', hv', z⟩
        cases hv'
        exact z
      rw [← e0]
      exact ht)
  · rintro us s2 ⟨vs, H2, I2, rv, v, rfl, hA2, q2⟩
    refine ⟨fnAt I2 hA2, ?_⟩
    obtain ⟨q, params, body, scope, c', hf, hc, hL⟩ := hA2
    obtain ⟨⟨pm, ctv, hob⟩, _, _⟩ := I2.hok f _ hf
    cases rv with
    | cons ru rn =>
      rename_i u1 us1
      cases rn
      refine wpAny_call (codeAny_mono (hL X.A X.stack s2 H2 f c' pm ctv u1 v Q (WE W σ) hr I2.env0 hob hc ru q2) ?_)
      intro r s3 hq
      match r, hq with
      | .error er, hq => exact L2.passAt tk σ pins H2 s2 er s3 I2 hq
      | .ok (.ret u), hq => exact I2.after hq
      | .ok .next, hq => exact False.elim hq
      | .ok .brk, hq => exact False.elim hq
      | .ok .cont, hq => exact False.elim hq
end GF

/-! lists of such lambdas -/
namespace GF
open PySem PySem.Spec PyProof.Rows L2 Evl
section
variable {P : Program} {w : World} {K : PySem.W.Frag} {mg : Str → Option Value} {base : Heap} {k : Nat} {Ts : List (Addr × Str)}
/-- lambda x: .., made, with its promise -/
def tAsk (P : Program) (w : World) (K : PySem.W.Frag) (mg : Str → Option Value) (base : Heap) (k : Nat) (Ts : List (Addr × Str)) (sp : Sp) : TE := fun _ H Q => LamX.Tabs Ts H ∧ ∀ (f : Addr) (H1 : Hp), LamX.ExtN H H1 → LamX.Tabs Ts H1 → AskL P w K mg base k H1 f sp → Q (.ref f) H1
theorem pe_ask {X : Cx} {c Pt : Addr} {q a : Str} {params : Arguments} {body : Expr} {scope : Scope} {pos : Pos} {t : XK → TE} (TB : LamX.TabB base mg c Pt) (x4 : X.mg = mg) (x5 : X.base = base) (hcode : X.env.code = .ref c) (hq : X.env.qual ++ "<lambda>" = q) (hm : (Pt, q) ∈ Ts) (hu : ∀ p ∈ Ts, p.1 = Pt → p.2 = q) (hdef : defaultsOf params X.env = ([], [])) (hnf : ∀ y ∈ scope.names, y.2 ≠ .free)
    (S : FnScope [a] [a] scope) (hbind : ∀ (pm cv ctv u : Value), bindArgs (PySem.W.kla_fn "<lambda>" q params body scope [] pm cv ctv) ⟨[u], []⟩ = pure [(a, u)])
    (hb : ∀ (f : Addr) (cd : Value) (Ar : Around) (outer : List Env) (s : Shared) (H : Hp) (E : XK), Room k (Ar.deeper (envOfC q scope s.heap.objs.size f cd)) → PE (cxOf (L2.CX P w) P w K mg base [a] q scope f cd Ar outer s H E) body (t E)) :
    PE X (.Lambda params body scope pos) (tAsk P w K mg base (k + 1) Ts (fun vs H Q E => t E (vs.map some) H Q)) := by
  subst x4 x5
  constructor
  rintro pins s σ H Q I ⟨hT, h⟩
  exact (pe_mkLam TB hcode hq hm hu hdef hnf).run pins s σ H Q I ⟨hT, fun f c' H1 hn eN T1 h1 h2 => h f H1 eN T1 ⟨q, params, body, scope, c', h1, h2, lam_ok S hbind hb⟩⟩
def AsksAt (P : Program) (w : World) (K : PySem.W.Frag) (mg : Str → Option Value) (base : Heap) (k : Nat) (H : Hp) : List Addr → List Sp → Prop
  | [], [] => True
  | f :: fs, sp :: sps => AskL P w K mg base k H f sp ∧ AsksAt P w K mg base k H fs sps
  | _, _ => False
theorem AsksAt.monoN {H H' : Hp} (e : LamX.ExtN H H') : ∀ {fs : List Addr} {sps : List Sp}, AsksAt P w K mg base k H fs sps → AsksAt P w K mg base k H' fs sps
  | [], [], _ => trivial
  | f :: fs, sp :: sps, h => ⟨h.1.monoN e, AsksAt.monoN e h.2⟩
  | [], _ :: _, h => h.elim
  | _ :: _, [], h => h.elim
theorem AsksAt.mono {H H' : Hp} (e : Ex H H') {fs : List Addr} {sps : List Sp} (h : AsksAt P w K mg base k H fs sps) : AsksAt P w K mg base k H' fs sps := h.monoN (.of e)
theorem AsksAt.app {H : Hp} {gs : List Addr} {sqs : List Sp} (h2 : AsksAt P w K mg base k H gs sqs) : ∀ {fs : List Addr} {sps : List Sp}, AsksAt P w K mg base k H fs sps → AsksAt P w K mg base k H (fs ++ gs) (sps ++ sqs)
  | [], [], _ => h2
  | f :: fs, sp :: sps, h => ⟨h.1, AsksAt.app h2 h.2⟩
  | [], _ :: _, h => h.elim
  | _ :: _, [], h => h.elim
theorem AsksAt.len {H : Hp} : ∀ {fs : List Addr} {sps : List Sp}, AsksAt P w K mg base k H fs sps → fs.length = sps.length
  | [], [], _ => rfl
  | f :: fs, sp :: sps, h => congrArg (· + 1) (AsksAt.len h.2)
  | [], _ :: _, h => h.elim
  | _ :: _, [], h => h.elim
def EvQ (P : Program) (w : World) (K : PySem.W.Frag) (mg : Str → Option Value) (base : Heap) (k : Nat) (Ts : List (Addr × Str)) (t : TA) (σ : L2.St) (sps : List Sp) : Prop := ∀ H, LamX.Tabs Ts H → ∀ Q : List V → Hp → Prop, (∀ fs H1, LamX.ExtN H H1 → LamX.Tabs Ts H1 → AsksAt P w K mg base k H1 fs sps → Q (fs.map V.ref) H1) → t σ H Q
variable {σ : L2.St} {H : Hp} {D : Ends} {tz : TS}
theorem eq_nil : EvQ P w K mg base k Ts tNil σ [] := fun H hT Q q => q [] H (.refl H) hT trivial
theorem eq_cons {sp : Sp} {tr : TA} {sps : List Sp} (h : EvQ P w K mg base k Ts tr σ sps) : EvQ P w K mg base k Ts (tCons (tAsk P w K mg base k Ts sp) tr) σ (sp :: sps) := fun H hT Q q =>
  ⟨hT, fun f H1 e1 T1 a1 => h H1 T1 _ fun fs H2 e2 T2 a2 => q (f :: fs) H2 (e1.trans e2) T2 ⟨a1.monoN e2, a2⟩⟩
/-- asks = [lambda .., ..] -/
theorem q_asks {i : Nat} {t : TA} {sps : List Sp} (hT : LamX.Tabs Ts H) (h : EvQ P w K mg base k Ts t σ sps) (hz : sps.length ≤ 100000) (kk : ∀ (l : Addr) (fs : List Addr) (H1 : Hp), LamX.ExtN H H1 → LamX.Tabs Ts H1 → H1 l = some (.lst (fs.map V.ref)) → AsksAt P w K mg base k H1 fs sps → tz D (σ.set i (some (.ref l))) H1) : tSeq (tAsg (tLst t) (gName i)) tz D σ H :=
  h H hT _ fun fs H1 e1 T1 a1 => ⟨sz_of (by rw [List.length_map, a1.len]; exact hz), fun l hl => kk l fs _ (e1.trans (.of (Ex.new hl))) (T1.ext (Ex.new hl)) upd_same (a1.mono (Ex.new hl))⟩
/-- asks = asks + [lambda .., ..] -/
theorem q_asksCat {i j : Nat} {t : TA} {sps sqs : List Sp} {l : Addr} {fs : List Addr} (hT : LamX.Tabs Ts H) (hl : H l = some (.lst (fs.map V.ref))) (ha : AsksAt P w K mg base k H fs sps) (hv : σ[j]? = some (some (.ref l))) (h : EvQ P w K mg base k Ts t σ sqs) (hz : sps.length + sqs.length ≤ 100000)
    (kk : ∀ (l : Addr) (fs : List Addr) (H1 : Hp), LamX.ExtN H H1 → LamX.Tabs Ts H1 → H1 l = some (.lst (fs.map V.ref)) → AsksAt P w K mg base k H1 fs (sps ++ sqs) → tz D (σ.set i (some (.ref l))) H1) : tSeq (tAsg (tOp rCat (tVar j) (tLst t)) (gName i)) tz D σ H :=
  ⟨_, hv, h H hT _ fun gs H1 e1 T1 a1 => ⟨sz_of (by rw [List.length_map, a1.len]; omega), fun b hb => by
    have eN : LamX.ExtN H (upd H1 b (.lst (gs.map V.ref))) := e1.trans (.of (Ex.new hb))
    refine ⟨l, b, fs.map V.ref, gs.map V.ref, rfl, rfl, eN _ _ hl (fun ps z => by cases z), upd_same, sz_of (by rw [List.length_map, List.length_map, ha.len, a1.len]; exact hz), fun p hp => ?_⟩
    have e2 := Ex.new (o := .lst (fs.map V.ref ++ gs.map V.ref)) hp
    refine kk p (fs ++ gs) _ (eN.trans (.of e2)) ((T1.ext (Ex.new hb)).ext e2) ?_ (AsksAt.app ((a1.mono (Ex.new hb)).mono e2) ((ha.monoN eN).mono e2))
    rw [List.map_append]
    exact upd_same⟩⟩
/-- [e for x in xs], by places -/
theorem el_byIx {a : Addr} {xs ys : List V} {j : Nat} {vs : List Nat} {tl te : TE} (h : Ev tl σ H (.ref a)) (hx : SqL K H a xs) (hl : ys.length = xs.length) (hz : xs.length ≤ 40000) (hw : ∀ x, wipe ((wipe σ vs).set j (some x)) vs = wipe σ vs)
    (he : ∀ (i : Nat) x y, xs[i]? = some x → ys[i]? = some y → ∀ H1, Ex H H1 → Ev te ((wipe σ vs).set j (some x)) H1 y) : EvL (tLc (iList K tl) (gName j) tYes te vs) σ H ys := by
  have q := el_lcL (K := K) (te := te) (t := tYes) (fun _ => true) (fun i => ys.getD i .non) h hx hz hw (fun _ _ _ _ _ => et_yes) (fun i x H1 e1 hi _ => by
    have hlt : i < ys.length := by
      have := (List.getElem?_eq_some_iff.mp hi).1
      omega
    have e : ys.getD i .non = ys[i] := by
      rw [List.getD_eq_getElem?_getD, List.getElem?_eq_getElem hlt]
      rfl
    rw [e]
    exact he i x ys[i] hi (List.getElem?_eq_getElem hlt) H1 e1)
  have e := given_all ys (fun v => v)
  rw [hl] at e
  rw [e, List.map_id'] at q
  exact q
/-! readings by the written part's own name, for suites -/
theorem op_inK {X : Cx} (hK : X.K = K) : OpR X (compareOp .In) (rIn K false) := by
  rw [← hK]
  exact op_in_seq
theorem ix_listK {X : Cx} (hK : X.K = K) : IxR X (rIxL K) := by
  rw [← hK]
  exact ix_list
theorem mt_indexK {X : Cx} (hK : X.K = K) : MtR X "list.index" (rIndex K) := by
  rw [← hK]
  exact mt_index
theorem ev_in {ta tb : TE} {p : Addr} {xs : List V} {x : V} (ha : Ev ta σ H x) (hb : Ev tb σ H (.ref p)) (hp : SqL K H p xs) (f1 : flatV x = true) (f2 : xs.all flatV = true) : Ev (tOp (rIn K false) ta tb) σ H (.bl (inV x xs)) :=
  ev_op ha hb fun H1 e Q q => ⟨p, xs, rfl, .inl (ex_l e hp), f1, f2, q H1 (Ex.refl H1)⟩
theorem rv_ixL {p : Addr} {xs : List V} {i : Int} {v : V} (hp : SqL K H p xs) (hx : atI xs i = some v) : RV (rIxL K) (.ref p) (.int i) H v := fun H1 e Q q => ⟨p, xs, i, v, rfl, rfl, ex_l e hp, hx, q H1 (Ex.refl H1)⟩
/-- xs.index(y) -/
theorem ev_index {ta tb : TE} {p : Addr} {ys : List V} {y z : V} {j : Nat} (ha : Ev ta σ H (.ref p)) (hb : Ev tb σ H y) (hl : H p = some (.lst ys)) (f1 : flatV y = true) (f2 : ys.all flatV = true) (hj : ys[j]? = some z) (hz : eqV z y = true) (hm : ∀ (m : Nat) (z' : V), m < j → ys[m]? = some z' → eqV z' y = false) : Ev (tBM K "list" (rIndex K) ta (tCons tb tNil)) σ H (.int (j : Nat)) := fun H1 e Q q =>
  ha H1 e _ fun H2 e2 => ⟨Or.inl ⟨rfl, ys, sq_of (e2 _ _ (e _ _ hl))⟩, hb H2 (e.trans e2) _ fun H3 e3 => ⟨p, ys, y, j, z, rfl, rfl, sq_of (e3 _ _ (e2 _ _ (e _ _ hl))), f1, f2, hj, hz, hm, q H3 (e2.trans e3)⟩⟩
theorem dpa_strs {H : Hp} : ∀ ss : List Str, DpAll K H (ss.map V.str) (ss.map PyData.str)
  | [] => .nil
  | s :: ss => .cons (.str s) (dpa_strs ss)
theorem dp_strs {H : Hp} {p : Addr} {ss : List Str} (h : H p = some (.lst (ss.map V.str))) : Dp K H (.ref p) (.list (ss.map PyData.str)) := .lst (sq_of h) (dpa_strs ss)
end
end GF

namespace GF
open PySem L2 Evl
def topS (i : Nat) : Stmt := PySem.Challenge.pw_glassfall_k10_promises_by_hand.main.body.getD i (.Pass ⟨0, 0, 0, 0⟩)
abbrev s_is_number : Stmt := topS 13
theorem sc_is_number : FnScope ["thing", "least", "most"] ["thing", "least", "most"] (defScope s_is_number) := ⟨rfl, rfl, rfl, by decide +kernel, rfl, by decide +kernel, by decide +kernel⟩
abbrev s_check_storeys : Stmt := topS 14
theorem sc_check_storeys : FnScope ["storeys"] ["storeys"] (defScope s_check_storeys) := ⟨rfl, rfl, rfl, by decide +kernel, rfl, by decide +kernel, by decide +kernel⟩
abbrev s_check_glasses : Stmt := topS 15
theorem sc_check_glasses : FnScope ["glasses"] ["glasses"] (defScope s_check_glasses) := ⟨rfl, rfl, rfl, by decide +kernel, rfl, by decide +kernel, by decide +kernel⟩
abbrev s_check_tries : Stmt := topS 16
theorem sc_check_tries : FnScope ["tries"] ["tries"] (defScope s_check_tries) := ⟨rfl, rfl, rfl, by decide +kernel, rfl, by decide +kernel, by decide +kernel⟩
abbrev s_reached : Stmt := topS 17
theorem sc_reached : FnScope ["tries", "glasses", "total", "ways", "picked"] ["tries", "glasses"] (defScope s_reached) := ⟨rfl, rfl, rfl, by decide +kernel, rfl, by decide +kernel, by decide +kernel⟩
abbrev s_are_enough : Stmt := topS 18
theorem sc_are_enough : FnScope ["storeys", "glasses", "tries", "total", "ways", "picked"] ["storeys", "glasses", "tries"] (defScope s_are_enough) := ⟨rfl, rfl, rfl, by decide +kernel, rfl, by decide +kernel, by decide +kernel⟩
abbrev s_least_tries : Stmt := topS 19
theorem sc_least_tries : FnScope ["storeys", "glasses", "high", "low", "middle"] ["storeys", "glasses"] (defScope s_least_tries) := ⟨rfl, rfl, rfl, by decide +kernel, rfl, by decide +kernel, by decide +kernel⟩
abbrev s_check_found : Stmt := topS 20
theorem sc_check_found : FnScope ["storeys", "glasses"] ["storeys", "glasses"] (defScope s_check_found) := ⟨rfl, rfl, rfl, by decide +kernel, rfl, by decide +kernel, by decide +kernel⟩
abbrev s_reach : Stmt := topS 21
theorem sc_reach : FnScope ["tries", "glasses"] ["tries", "glasses"] (defScope s_reach) := ⟨rfl, rfl, rfl, by decide +kernel, rfl, by decide +kernel, by decide +kernel⟩
abbrev s_fewest : Stmt := topS 22
theorem sc_fewest : FnScope ["storeys", "glasses"] ["storeys", "glasses"] (defScope s_fewest) := ⟨rfl, rfl, rfl, by decide +kernel, rfl, by decide +kernel, by decide +kernel⟩
abbrev s_glasses_for : Stmt := topS 23
theorem sc_glasses_for : FnScope ["storeys", "found"] ["storeys"] (defScope s_glasses_for) := ⟨rfl, rfl, rfl, by decide +kernel, rfl, by decide +kernel, by decide +kernel⟩
abbrev s_Done_shows : Stmt := inClass (topS 26) 0
theorem sc_Done_shows : FnScope ["self", "storeys", "glasses", "tries"] ["self", "storeys", "glasses", "tries"] (defScope s_Done_shows) := ⟨rfl, rfl, rfl, by decide +kernel, rfl, by decide +kernel, by decide +kernel⟩
abbrev s_Next__init : Stmt := inClass (topS 27) 0
theorem sc_Next__init : FnScope ["self", "storey"] ["self", "storey"] (defScope s_Next__init) := ⟨rfl, rfl, rfl, by decide +kernel, rfl, by decide +kernel, by decide +kernel⟩
abbrev s_Next_shows : Stmt := inClass (topS 27) 1
theorem sc_Next_shows : FnScope ["self", "storeys", "glasses", "tries"] ["self", "storeys", "glasses", "tries"] (defScope s_Next_shows) := ⟨rfl, rfl, rfl, by decide +kernel, rfl, by decide +kernel, by decide +kernel⟩
abbrev s_Short__init : Stmt := inClass (topS 28) 0
theorem sc_Short__init : FnScope ["self", "most"] ["self", "most"] (defScope s_Short__init) := ⟨rfl, rfl, rfl, by decide +kernel, rfl, by decide +kernel, by decide +kernel⟩
abbrev s_Short_shows : Stmt := inClass (topS 28) 1
theorem sc_Short_shows : FnScope ["self", "storeys", "glasses", "tries"] ["self", "storeys", "glasses", "tries"] (defScope s_Short_shows) := ⟨rfl, rfl, rfl, by decide +kernel, rfl, by decide +kernel, by decide +kernel⟩
abbrev s_next_of : Stmt := topS 31
theorem sc_next_of : FnScope ["storeys", "glasses", "tries"] ["storeys", "glasses", "tries"] (defScope s_next_of) := ⟨rfl, rfl, rfl, by decide +kernel, rfl, by decide +kernel, by decide +kernel⟩
abbrev s_told : Stmt := topS 32
theorem sc_told : FnScope ["storeys", "glasses", "tries", "most"] ["storeys", "glasses", "tries"] (defScope s_told) := ⟨rfl, rfl, rfl, by decide +kernel, rfl, by decide +kernel, by decide +kernel⟩
abbrev s_answer : Stmt := topS 33
theorem sc_answer : FnScope ["storeys", "glasses", "tries", "storey"] ["storeys", "glasses", "tries", "storey"] (defScope s_answer) := ⟨rfl, rfl, rfl, by decide +kernel, rfl, by decide +kernel, by decide +kernel⟩
abbrev s_tried : Stmt := topS 34
theorem sc_tried : FnScope ["storeys", "glasses", "stands", "tries", "found", "low", "high", "left", "storey", "broke"] ["storeys", "glasses", "stands"] (defScope s_tried) := ⟨rfl, rfl, rfl, by decide +kernel, rfl, by decide +kernel, by decide +kernel⟩
abbrev s_law_word : Stmt := topS 36
theorem sc_law_word : FnScope ["_law_ask", "_law_thing", "error", "_law_kinds", "_law_words"] ["_law_ask", "_law_thing"] (defScope s_law_word) := ⟨rfl, rfl, rfl, by decide +kernel, rfl, by decide +kernel, by decide +kernel⟩
abbrev s_law_counts_right : Stmt := topS 37
theorem sc_law_counts_right : FnScope ["_law_n", "_law_far", "_law_bad", "_law_asks", "_law_many", "_law_ask"] ["_law_n"] (defScope s_law_counts_right) := ⟨rfl, rfl, rfl, by decide +kernel, rfl, by decide +kernel, by decide +kernel⟩
abbrev s_law_told_right : Stmt := topS 38
theorem sc_law_told_right : FnScope ["_law_n", "_law_cases", "_law_storeys", "_law_glasses", "_law_tries", "_law_some", "_law_kind", "_law_asks", "_law_words", "_law_due", "_law_storey", "_law_ask"] ["_law_n"] (defScope s_law_told_right) := ⟨rfl, rfl, rfl, by decide +kernel, rfl, by decide +kernel, by decide +kernel⟩
abbrev s_law_play_right : Stmt := topS 39
theorem sc_law_play_right : FnScope ["_law_storeys", "_law_glasses", "_law_stands", "_law_low", "_law_high", "_law_broken", "_law_pairs", "_law_storey", "_law_is_broken"] ["_law_storeys", "_law_glasses", "_law_stands"] (defScope s_law_play_right) := ⟨rfl, rfl, rfl, by decide +kernel, rfl, by decide +kernel, by decide +kernel⟩
abbrev s_law_plays_right : Stmt := topS 40
theorem sc_law_plays_right : FnScope ["_law_n", "_law_due", "_law_stands", "_law_cases", "_law_storeys", "_law_glasses", "_law_asks", "_law_words", "_law_storey", "_law_ask"] ["_law_n"] (defScope s_law_plays_right) := ⟨rfl, rfl, rfl, by decide +kernel, rfl, by decide +kernel, by decide +kernel⟩
abbrev s_law : Stmt := topS 41
theorem sc_law : FnScope ["_law_script", "_law_n"] ["_law_script"] (defScope s_law) := ⟨rfl, rfl, rfl, by decide +kernel, rfl, by decide +kernel, by decide +kernel⟩
/-- a def whose code object is known -/
def FunC (K : PySem.W.Frag) (x qual : Str) (st : Stmt) (f : Addr) (fd : FuncData) (c : Addr) : Prop := ∃ (oc : Value) (od : Option Addr) (kV doc pm : Value) (an : Option Addr) (ct : Value) (osl : Array (Option Value)),
  fd = PySem.W.fnOf x qual (defArgs st) (defBody st) (defScope st) .none kV doc pm an (.ref c) ct ∧ K.lookup f = some ⟨oc, od, .func fd, osl⟩ ∧ PySem.W.codeIn K (.ref c) qual = true
/-- where the defs stand -/
structure Ad where
  a_is_number : Addr
  d_is_number : FuncData
  a_check_storeys : Addr
  d_check_storeys : FuncData
  a_check_glasses : Addr
  d_check_glasses : FuncData
  a_check_tries : Addr
  d_check_tries : FuncData
  a_reached : Addr
  d_reached : FuncData
  a_are_enough : Addr
  d_are_enough : FuncData
  a_least_tries : Addr
  d_least_tries : FuncData
  a_check_found : Addr
  d_check_found : FuncData
  a_reach : Addr
  d_reach : FuncData
  a_fewest : Addr
  d_fewest : FuncData
  a_glasses_for : Addr
  d_glasses_for : FuncData
  a_Done_shows : Addr
  d_Done_shows : FuncData
  a_Next__init : Addr
  d_Next__init : FuncData
  a_Next_shows : Addr
  d_Next_shows : FuncData
  a_Short__init : Addr
  d_Short__init : FuncData
  a_Short_shows : Addr
  d_Short_shows : FuncData
  a_next_of : Addr
  d_next_of : FuncData
  a_told : Addr
  d_told : FuncData
  a_answer : Addr
  d_answer : FuncData
  a_tried : Addr
  d_tried : FuncData
  a_law_word : Addr
  d_law_word : FuncData
  a_law_counts_right : Addr
  d_law_counts_right : FuncData
  a_law_told_right : Addr
  d_law_told_right : FuncData
  a_law_play_right : Addr
  d_law_play_right : FuncData
  a_law_plays_right : Addr
  d_law_plays_right : FuncData
  a_law : Addr
  d_law : FuncData
  a_Answer : Addr
  a_Done : Addr
  a_Next : Addr
  a_Short : Addr
  a_GlassError : Addr
  a_BadStoreys : Addr
  a_BadGlasses : Addr
  a_BadTries : Addr
  a_BadStorey : Addr
  a_NoGlass : Addr
  a_Found : Addr
  a_Long : Addr
  c_law_counts_right : Addr
  p_law_counts_right : Addr
  c_law_told_right : Addr
  p_law_told_right : Addr
  c_law_plays_right : Addr
  p_law_plays_right : Addr
/-- what the top has written -/
structure Tx (K : PySem.W.Frag) (mg : Str → Option Value) (A : Ad) : Prop where
  f_is_number : Fun K "is_number" "is_number" s_is_number A.a_is_number A.d_is_number
  g_is_number : mg "is_number" = some (.ref A.a_is_number)
  b_is_number : Binds K A.d_is_number ["thing", "least", "most"] []
  f_check_storeys : Fun K "check_storeys" "check_storeys" s_check_storeys A.a_check_storeys A.d_check_storeys
  g_check_storeys : mg "check_storeys" = some (.ref A.a_check_storeys)
  b_check_storeys : Binds K A.d_check_storeys ["storeys"] []
  f_check_glasses : Fun K "check_glasses" "check_glasses" s_check_glasses A.a_check_glasses A.d_check_glasses
  g_check_glasses : mg "check_glasses" = some (.ref A.a_check_glasses)
  b_check_glasses : Binds K A.d_check_glasses ["glasses"] []
  f_check_tries : Fun K "check_tries" "check_tries" s_check_tries A.a_check_tries A.d_check_tries
  g_check_tries : mg "check_tries" = some (.ref A.a_check_tries)
  b_check_tries : Binds K A.d_check_tries ["tries"] []
  f_reached : Fun K "reached" "reached" s_reached A.a_reached A.d_reached
  g_reached : mg "reached" = some (.ref A.a_reached)
  b_reached : Binds K A.d_reached ["tries", "glasses"] []
  f_are_enough : Fun K "are_enough" "are_enough" s_are_enough A.a_are_enough A.d_are_enough
  g_are_enough : mg "are_enough" = some (.ref A.a_are_enough)
  b_are_enough : Binds K A.d_are_enough ["storeys", "glasses", "tries"] []
  f_least_tries : Fun K "least_tries" "least_tries" s_least_tries A.a_least_tries A.d_least_tries
  g_least_tries : mg "least_tries" = some (.ref A.a_least_tries)
  b_least_tries : Binds K A.d_least_tries ["storeys", "glasses"] []
  f_check_found : Fun K "check_found" "check_found" s_check_found A.a_check_found A.d_check_found
  g_check_found : mg "check_found" = some (.ref A.a_check_found)
  b_check_found : Binds K A.d_check_found ["storeys", "glasses"] []
  f_reach : Fun K "reach" "reach" s_reach A.a_reach A.d_reach
  g_reach : mg "reach" = some (.ref A.a_reach)
  b_reach : Binds K A.d_reach ["tries", "glasses"] []
  f_fewest : Fun K "fewest" "fewest" s_fewest A.a_fewest A.d_fewest
  g_fewest : mg "fewest" = some (.ref A.a_fewest)
  b_fewest : Binds K A.d_fewest ["storeys", "glasses"] []
  f_glasses_for : Fun K "glasses_for" "glasses_for" s_glasses_for A.a_glasses_for A.d_glasses_for
  g_glasses_for : mg "glasses_for" = some (.ref A.a_glasses_for)
  b_glasses_for : Binds K A.d_glasses_for ["storeys"] []
  f_Done_shows : Fun K "shows" "Done.shows" s_Done_shows A.a_Done_shows A.d_Done_shows
  b_Done_shows : Binds K A.d_Done_shows ["self", "storeys", "glasses", "tries"] []
  f_Next__init : Fun K "__init__" "Next.__init__" s_Next__init A.a_Next__init A.d_Next__init
  b_Next__init : Binds K A.d_Next__init ["self", "storey"] []
  f_Next_shows : Fun K "shows" "Next.shows" s_Next_shows A.a_Next_shows A.d_Next_shows
  b_Next_shows : Binds K A.d_Next_shows ["self", "storeys", "glasses", "tries"] []
  f_Short__init : Fun K "__init__" "Short.__init__" s_Short__init A.a_Short__init A.d_Short__init
  b_Short__init : Binds K A.d_Short__init ["self", "most"] []
  f_Short_shows : Fun K "shows" "Short.shows" s_Short_shows A.a_Short_shows A.d_Short_shows
  b_Short_shows : Binds K A.d_Short_shows ["self", "storeys", "glasses", "tries"] []
  f_next_of : Fun K "next_of" "next_of" s_next_of A.a_next_of A.d_next_of
  g_next_of : mg "next_of" = some (.ref A.a_next_of)
  b_next_of : Binds K A.d_next_of ["storeys", "glasses", "tries"] []
  f_told : Fun K "told" "told" s_told A.a_told A.d_told
  g_told : mg "told" = some (.ref A.a_told)
  b_told : Binds K A.d_told ["storeys", "glasses", "tries"] []
  f_answer : Fun K "answer" "answer" s_answer A.a_answer A.d_answer
  g_answer : mg "answer" = some (.ref A.a_answer)
  b_answer : Binds K A.d_answer ["storeys", "glasses", "tries", "storey"] []
  f_tried : Fun K "tried" "tried" s_tried A.a_tried A.d_tried
  g_tried : mg "tried" = some (.ref A.a_tried)
  b_tried : Binds K A.d_tried ["storeys", "glasses", "stands"] []
  f_law_word : Fun K "_law_word" "_law_word" s_law_word A.a_law_word A.d_law_word
  g_law_word : mg "_law_word" = some (.ref A.a_law_word)
  b_law_word : Binds K A.d_law_word ["_law_ask", "_law_thing"] []
  f_law_counts_right : Fun K "_law_counts_right" "_law_counts_right" s_law_counts_right A.a_law_counts_right A.d_law_counts_right
  g_law_counts_right : mg "_law_counts_right" = some (.ref A.a_law_counts_right)
  b_law_counts_right : Binds K A.d_law_counts_right ["_law_n"] []
  fc_law_counts_right : FunC K "_law_counts_right" "_law_counts_right" s_law_counts_right A.a_law_counts_right A.d_law_counts_right A.c_law_counts_right
  f_law_told_right : Fun K "_law_told_right" "_law_told_right" s_law_told_right A.a_law_told_right A.d_law_told_right
  g_law_told_right : mg "_law_told_right" = some (.ref A.a_law_told_right)
  b_law_told_right : Binds K A.d_law_told_right ["_law_n"] []
  fc_law_told_right : FunC K "_law_told_right" "_law_told_right" s_law_told_right A.a_law_told_right A.d_law_told_right A.c_law_told_right
  f_law_play_right : Fun K "_law_play_right" "_law_play_right" s_law_play_right A.a_law_play_right A.d_law_play_right
  g_law_play_right : mg "_law_play_right" = some (.ref A.a_law_play_right)
  b_law_play_right : Binds K A.d_law_play_right ["_law_storeys", "_law_glasses", "_law_stands"] []
  f_law_plays_right : Fun K "_law_plays_right" "_law_plays_right" s_law_plays_right A.a_law_plays_right A.d_law_plays_right
  g_law_plays_right : mg "_law_plays_right" = some (.ref A.a_law_plays_right)
  b_law_plays_right : Binds K A.d_law_plays_right ["_law_n"] []
  fc_law_plays_right : FunC K "_law_plays_right" "_law_plays_right" s_law_plays_right A.a_law_plays_right A.d_law_plays_right A.c_law_plays_right
  f_law : Fun K "law" "law" s_law A.a_law A.d_law
  g_law : mg "law" = some (.ref A.a_law)
  b_law : Binds K A.d_law ["_law_script"] []
  g_Answer : mg "Answer" = some (.ref A.a_Answer)
  g_Done : mg "Done" = some (.ref A.a_Done)
  g_Next : mg "Next" = some (.ref A.a_Next)
  g_Short : mg "Short" = some (.ref A.a_Short)
  t_Done : TyI K A.a_Done
  k_Done : MkN K A.a_Done
  m_Done_shows : Meth K A.a_Done "shows" A.a_Done_shows
  i_Done_Answer : PySem.W.kitOne K (.ref A.a_Done) (.ref A.a_Answer) = some true
  i_Done_Done : PySem.W.kitOne K (.ref A.a_Done) (.ref A.a_Done) = some true
  i_Done_Next : PySem.W.kitOne K (.ref A.a_Done) (.ref A.a_Next) = some false
  i_Done_Short : PySem.W.kitOne K (.ref A.a_Done) (.ref A.a_Short) = some false
  t_Next : TyI K A.a_Next
  k_Next : Mk K A.a_Next A.a_Next__init
  n_Next_storey : NoAttr K A.a_Next "storey"
  m_Next_shows : Meth K A.a_Next "shows" A.a_Next_shows
  i_Next_Answer : PySem.W.kitOne K (.ref A.a_Next) (.ref A.a_Answer) = some true
  i_Next_Done : PySem.W.kitOne K (.ref A.a_Next) (.ref A.a_Done) = some false
  i_Next_Next : PySem.W.kitOne K (.ref A.a_Next) (.ref A.a_Next) = some true
  i_Next_Short : PySem.W.kitOne K (.ref A.a_Next) (.ref A.a_Short) = some false
  t_Short : TyI K A.a_Short
  k_Short : Mk K A.a_Short A.a_Short__init
  n_Short_most : NoAttr K A.a_Short "most"
  m_Short_shows : Meth K A.a_Short "shows" A.a_Short_shows
  i_Short_Answer : PySem.W.kitOne K (.ref A.a_Short) (.ref A.a_Answer) = some true
  i_Short_Done : PySem.W.kitOne K (.ref A.a_Short) (.ref A.a_Done) = some false
  i_Short_Next : PySem.W.kitOne K (.ref A.a_Short) (.ref A.a_Next) = some false
  i_Short_Short : PySem.W.kitOne K (.ref A.a_Short) (.ref A.a_Short) = some true
  g_GlassError : mg "GlassError" = some (.ref A.a_GlassError)
  g_BadStoreys : mg "BadStoreys" = some (.ref A.a_BadStoreys)
  x_BadStoreys : PySem.W.excIn K A.a_BadStoreys [.type "ValueError", .type "Exception", .type "BaseException", .type "object"] "ValueError.__new__" = true
  k_BadStoreys : PySem.W.keepIn K (.ref A.a_BadStoreys) = true
  b_BadStoreys : PySem.W.subIn K (.ref A.a_BadStoreys) (.type "BaseException") = some true
  y_BadStoreys : PySem.W.typeIn K (.ref A.a_BadStoreys) = some (.type "type")
  e_BadStoreys : ExcC K A.a_BadStoreys
  m_BadStoreys : PySem.W.exmOne K (.ref A.a_BadStoreys) (.ref A.a_GlassError) = some true
  i_BadStoreys_BadStoreys : PySem.W.kitOne K (.ref A.a_BadStoreys) (.ref A.a_BadStoreys) = some true
  i_BadStoreys_BadGlasses : PySem.W.kitOne K (.ref A.a_BadStoreys) (.ref A.a_BadGlasses) = some false
  i_BadStoreys_BadTries : PySem.W.kitOne K (.ref A.a_BadStoreys) (.ref A.a_BadTries) = some false
  i_BadStoreys_BadStorey : PySem.W.kitOne K (.ref A.a_BadStoreys) (.ref A.a_BadStorey) = some false
  i_BadStoreys_NoGlass : PySem.W.kitOne K (.ref A.a_BadStoreys) (.ref A.a_NoGlass) = some false
  i_BadStoreys_Found : PySem.W.kitOne K (.ref A.a_BadStoreys) (.ref A.a_Found) = some false
  i_BadStoreys_Long : PySem.W.kitOne K (.ref A.a_BadStoreys) (.ref A.a_Long) = some false
  g_BadGlasses : mg "BadGlasses" = some (.ref A.a_BadGlasses)
  x_BadGlasses : PySem.W.excIn K A.a_BadGlasses [.type "ValueError", .type "Exception", .type "BaseException", .type "object"] "ValueError.__new__" = true
  k_BadGlasses : PySem.W.keepIn K (.ref A.a_BadGlasses) = true
  b_BadGlasses : PySem.W.subIn K (.ref A.a_BadGlasses) (.type "BaseException") = some true
  y_BadGlasses : PySem.W.typeIn K (.ref A.a_BadGlasses) = some (.type "type")
  e_BadGlasses : ExcC K A.a_BadGlasses
  m_BadGlasses : PySem.W.exmOne K (.ref A.a_BadGlasses) (.ref A.a_GlassError) = some true
  i_BadGlasses_BadStoreys : PySem.W.kitOne K (.ref A.a_BadGlasses) (.ref A.a_BadStoreys) = some false
  i_BadGlasses_BadGlasses : PySem.W.kitOne K (.ref A.a_BadGlasses) (.ref A.a_BadGlasses) = some true
  i_BadGlasses_BadTries : PySem.W.kitOne K (.ref A.a_BadGlasses) (.ref A.a_BadTries) = some false
  i_BadGlasses_BadStorey : PySem.W.kitOne K (.ref A.a_BadGlasses) (.ref A.a_BadStorey) = some false
  i_BadGlasses_NoGlass : PySem.W.kitOne K (.ref A.a_BadGlasses) (.ref A.a_NoGlass) = some false
  i_BadGlasses_Found : PySem.W.kitOne K (.ref A.a_BadGlasses) (.ref A.a_Found) = some false
  i_BadGlasses_Long : PySem.W.kitOne K (.ref A.a_BadGlasses) (.ref A.a_Long) = some false
  g_BadTries : mg "BadTries" = some (.ref A.a_BadTries)
  x_BadTries : PySem.W.excIn K A.a_BadTries [.type "ValueError", .type "Exception", .type "BaseException", .type "object"] "ValueError.__new__" = true
  k_BadTries : PySem.W.keepIn K (.ref A.a_BadTries) = true
  b_BadTries : PySem.W.subIn K (.ref A.a_BadTries) (.type "BaseException") = some true
  y_BadTries : PySem.W.typeIn K (.ref A.a_BadTries) = some (.type "type")
  e_BadTries : ExcC K A.a_BadTries
  m_BadTries : PySem.W.exmOne K (.ref A.a_BadTries) (.ref A.a_GlassError) = some true
  i_BadTries_BadStoreys : PySem.W.kitOne K (.ref A.a_BadTries) (.ref A.a_BadStoreys) = some false
  i_BadTries_BadGlasses : PySem.W.kitOne K (.ref A.a_BadTries) (.ref A.a_BadGlasses) = some false
  i_BadTries_BadTries : PySem.W.kitOne K (.ref A.a_BadTries) (.ref A.a_BadTries) = some true
  i_BadTries_BadStorey : PySem.W.kitOne K (.ref A.a_BadTries) (.ref A.a_BadStorey) = some false
  i_BadTries_NoGlass : PySem.W.kitOne K (.ref A.a_BadTries) (.ref A.a_NoGlass) = some false
  i_BadTries_Found : PySem.W.kitOne K (.ref A.a_BadTries) (.ref A.a_Found) = some false
  i_BadTries_Long : PySem.W.kitOne K (.ref A.a_BadTries) (.ref A.a_Long) = some false
  g_BadStorey : mg "BadStorey" = some (.ref A.a_BadStorey)
  x_BadStorey : PySem.W.excIn K A.a_BadStorey [.type "ValueError", .type "Exception", .type "BaseException", .type "object"] "ValueError.__new__" = true
  k_BadStorey : PySem.W.keepIn K (.ref A.a_BadStorey) = true
  b_BadStorey : PySem.W.subIn K (.ref A.a_BadStorey) (.type "BaseException") = some true
  y_BadStorey : PySem.W.typeIn K (.ref A.a_BadStorey) = some (.type "type")
  e_BadStorey : ExcC K A.a_BadStorey
  m_BadStorey : PySem.W.exmOne K (.ref A.a_BadStorey) (.ref A.a_GlassError) = some true
  i_BadStorey_BadStoreys : PySem.W.kitOne K (.ref A.a_BadStorey) (.ref A.a_BadStoreys) = some false
  i_BadStorey_BadGlasses : PySem.W.kitOne K (.ref A.a_BadStorey) (.ref A.a_BadGlasses) = some false
  i_BadStorey_BadTries : PySem.W.kitOne K (.ref A.a_BadStorey) (.ref A.a_BadTries) = some false
  i_BadStorey_BadStorey : PySem.W.kitOne K (.ref A.a_BadStorey) (.ref A.a_BadStorey) = some true
  i_BadStorey_NoGlass : PySem.W.kitOne K (.ref A.a_BadStorey) (.ref A.a_NoGlass) = some false
  i_BadStorey_Found : PySem.W.kitOne K (.ref A.a_BadStorey) (.ref A.a_Found) = some false
  i_BadStorey_Long : PySem.W.kitOne K (.ref A.a_BadStorey) (.ref A.a_Long) = some false
  g_NoGlass : mg "NoGlass" = some (.ref A.a_NoGlass)
  x_NoGlass : PySem.W.excIn K A.a_NoGlass [.type "ValueError", .type "Exception", .type "BaseException", .type "object"] "ValueError.__new__" = true
  k_NoGlass : PySem.W.keepIn K (.ref A.a_NoGlass) = true
  b_NoGlass : PySem.W.subIn K (.ref A.a_NoGlass) (.type "BaseException") = some true
  y_NoGlass : PySem.W.typeIn K (.ref A.a_NoGlass) = some (.type "type")
  e_NoGlass : ExcC K A.a_NoGlass
  m_NoGlass : PySem.W.exmOne K (.ref A.a_NoGlass) (.ref A.a_GlassError) = some true
  i_NoGlass_BadStoreys : PySem.W.kitOne K (.ref A.a_NoGlass) (.ref A.a_BadStoreys) = some false
  i_NoGlass_BadGlasses : PySem.W.kitOne K (.ref A.a_NoGlass) (.ref A.a_BadGlasses) = some false
  i_NoGlass_BadTries : PySem.W.kitOne K (.ref A.a_NoGlass) (.ref A.a_BadTries) = some false
  i_NoGlass_BadStorey : PySem.W.kitOne K (.ref A.a_NoGlass) (.ref A.a_BadStorey) = some false
  i_NoGlass_NoGlass : PySem.W.kitOne K (.ref A.a_NoGlass) (.ref A.a_NoGlass) = some true
  i_NoGlass_Found : PySem.W.kitOne K (.ref A.a_NoGlass) (.ref A.a_Found) = some false
  i_NoGlass_Long : PySem.W.kitOne K (.ref A.a_NoGlass) (.ref A.a_Long) = some false
  g_Found : mg "Found" = some (.ref A.a_Found)
  x_Found : PySem.W.excIn K A.a_Found [.type "ValueError", .type "Exception", .type "BaseException", .type "object"] "ValueError.__new__" = true
  k_Found : PySem.W.keepIn K (.ref A.a_Found) = true
  b_Found : PySem.W.subIn K (.ref A.a_Found) (.type "BaseException") = some true
  y_Found : PySem.W.typeIn K (.ref A.a_Found) = some (.type "type")
  e_Found : ExcC K A.a_Found
  m_Found : PySem.W.exmOne K (.ref A.a_Found) (.ref A.a_GlassError) = some true
  i_Found_BadStoreys : PySem.W.kitOne K (.ref A.a_Found) (.ref A.a_BadStoreys) = some false
  i_Found_BadGlasses : PySem.W.kitOne K (.ref A.a_Found) (.ref A.a_BadGlasses) = some false
  i_Found_BadTries : PySem.W.kitOne K (.ref A.a_Found) (.ref A.a_BadTries) = some false
  i_Found_BadStorey : PySem.W.kitOne K (.ref A.a_Found) (.ref A.a_BadStorey) = some false
  i_Found_NoGlass : PySem.W.kitOne K (.ref A.a_Found) (.ref A.a_NoGlass) = some false
  i_Found_Found : PySem.W.kitOne K (.ref A.a_Found) (.ref A.a_Found) = some true
  i_Found_Long : PySem.W.kitOne K (.ref A.a_Found) (.ref A.a_Long) = some false
  g_Long : mg "Long" = some (.ref A.a_Long)
  x_Long : PySem.W.excIn K A.a_Long [.type "ValueError", .type "Exception", .type "BaseException", .type "object"] "ValueError.__new__" = true
  k_Long : PySem.W.keepIn K (.ref A.a_Long) = true
  b_Long : PySem.W.subIn K (.ref A.a_Long) (.type "BaseException") = some true
  y_Long : PySem.W.typeIn K (.ref A.a_Long) = some (.type "type")
  e_Long : ExcC K A.a_Long
  m_Long : PySem.W.exmOne K (.ref A.a_Long) (.ref A.a_GlassError) = some true
  i_Long_BadStoreys : PySem.W.kitOne K (.ref A.a_Long) (.ref A.a_BadStoreys) = some false
  i_Long_BadGlasses : PySem.W.kitOne K (.ref A.a_Long) (.ref A.a_BadGlasses) = some false
  i_Long_BadTries : PySem.W.kitOne K (.ref A.a_Long) (.ref A.a_BadTries) = some false
  i_Long_BadStorey : PySem.W.kitOne K (.ref A.a_Long) (.ref A.a_BadStorey) = some false
  i_Long_NoGlass : PySem.W.kitOne K (.ref A.a_Long) (.ref A.a_NoGlass) = some false
  i_Long_Found : PySem.W.kitOne K (.ref A.a_Long) (.ref A.a_Found) = some false
  i_Long_Long : PySem.W.kitOne K (.ref A.a_Long) (.ref A.a_Long) = some true
  ne_law_counts_right_law_told_right : A.p_law_counts_right ≠ A.p_law_told_right
  ne_law_counts_right_law_plays_right : A.p_law_counts_right ≠ A.p_law_plays_right
  ne_law_told_right_law_plays_right : A.p_law_told_right ≠ A.p_law_plays_right
  c_MOST_GLASSES : ∃ t, mg "MOST_GLASSES" = some (.int 300 t)
  c_MOST_PLAYED : ∃ t, mg "MOST_PLAYED" = some (.int 1000 t)
  c_MOST_STOREYS : ∃ t, mg "MOST_STOREYS" = some (.int 1000000000000000000000000000000000000000000000000000000000000 t)
  c_MOST_TRIES : ∃ t, mg "MOST_TRIES" = some (.int 10000000000000000000000000000000000000000 t)
  z_abs : mg "abs" = none
  z_any : mg "any" = none
  z_bool : mg "bool" = none
  z_int : mg "int" = none
  z_isinstance : mg "isinstance" = none
  z_len : mg "len" = none
  z_min : mg "min" = none
  z_range : mg "range" = none
  z_sum : mg "sum" = none

section
open PySem.Spec PyProof.Rows
/-! ### what is raised, taken, let through -/
theorem okN {P : Program} {w : World} {K : PySem.W.Frag} {mg : Str → Option Value} {base : Heap} {x qual : Str} {st : Stmt} {f : Addr} {fd : FuncData} {N ps : List Str} {k : Nat} {sp : Sp} (F : Fun K x qual st f fd) (S : FnScope N ps (defScope st)) (len : ∀ vs H Q E, sp vs H Q E → vs.length = ps.length)
    (hb : ∀ (cdv : Value) (Ar : Around) (outer : List Env) (s : Shared) (H : Hp) (vs : List V) (Q : VK) (E : XK), Room k (Ar.deeper (envOfC qual (defScope st) s.heap.objs.size f cdv)) → sp vs H Q E →
      ∃ t, PSs (cxOf (L2.CX P w) P w K mg base N qual (defScope st) f cdv Ar outer s H E) (defBody st) t ∧ t { nx := fun _ H' => Q .non H', rt := Q } (L2.start N vs) H) : FnOk P w K mg base (L2.CX P w) (k + 1) f fd ps sp := by
  obtain ⟨oc, od, kV, doc, pm, an, cdv, ct, osl, rfl, lk, hcd⟩ := F.ex
  exact fn_of lk hcd S len fun Ar outer s H vs Q E hr h => hb cdv Ar outer s H vs Q E hr h
theorem passN {X : Cx} : Passes (L2.CX X.prog X.w) X (fun _ _ _ => False) := fun _ _ _ _ _ _ _ h => by
  obtain ⟨_, _, _, _, _, _, _, _, _, _, _, _, z⟩ := h
  exact z.elim
theorem takesN {X : Cx} : L2.Takes X (fun _ _ _ _ => False) := fun _ _ h => by
  obtain ⟨_, _, _, _, _, _, _, _, _, _, _, _, _, _, _, _, z⟩ := h
  exact z.elim
theorem FnUp {P : Program} {w : World} {K : PySem.W.Frag} {mg : Str → Option Value} {base : Heap} {CX : CXT} {j k : Nat} {f : Addr} {fd : FuncData} {ps : List Str} {sp : Sp} (F : FnOk P w K mg base CX j f fd ps sp) (h : j ≤ k) : FnOk P w K mg base CX k f fd ps sp :=
  ⟨F.len, fun Ar outer s H args us vs Q E hr e0 b r q => F.run Ar outer s H args us vs Q E (hr.mono h) e0 b r q⟩
/-- a def that a slot may hold, with its promise -/
def HeldX (P : Program) (w : World) (K : PySem.W.Frag) (mg : Str → Option Value) (base : Heap) (k : Nat) (f : Addr) (sp : Sp) : Prop := ∃ (fd : FuncData) (ps : List Str), FnOk P w K mg base (L2.CX P w) k f fd ps sp ∧ PySem.W.keepIn K (.ref f) = true ∧ Binds K fd ps []
def tCallH (P : Program) (w : World) (K : PySem.W.Frag) (mg : Str → Option Value) (base : Heap) (k i : Nat) (E : L2.St → XK) (t : TA) : TE := fun σ H Q => ∃ f sp, σ[i]? = some (some (.ref f)) ∧ HeldX P w K mg base k f sp ∧ t σ H fun vs H1 => sp vs H1 Q (E σ)
theorem pe_callH {X : Cx} {k i : Nat} {E : L2.St → XK} {x : Str} {p pos : Pos} {e : Expr} {es : List Expr} {t : TA} (hr : Room k X.A) (hN : X.N[i]? = some x) (hv : Vis X.env.scope x) (hx : ∀ σ, PassesAt (L2.CX X.prog X.w) X σ (E σ)) (ha : PA X (e :: es) t)
    (h1 : (x == ("__debug__" : Str)) = false := by decide) (h2 : (x == ("__classdict__" : Str)) = false := by decide) (h3 : starEach (e :: es) X.env = (false, eval e X.env) :: starEach es X.env := by rfl) (h4 : (backTo pos (starEach es X.env)).any (·.1) = false := by rfl) :
    PE X (.Call (.Name x p) (e :: es) [] pos) (tCallH X.prog X.w X.K X.mg X.base k i E t) := by
  constructor
  rintro pins s σ H Q I ⟨f, sp, hs, ⟨fd, ps, F, hk, hb⟩, ht⟩
  have hvar := (pe_var (pos := p) hN hv h1 h2).run pins s σ H (fun v H' => v = .ref f ∧ H' = H) I ⟨.ref f, hs, rfl, rfl⟩
  refine wpAny_Call_Name_kw (thn hvar ?_)
  rintro u s' ⟨v, H', I', r', ev, eH⟩
  subst ev eH
  cases r'
  refine PySem.W.callWith_K (h₀ := X.base) I.ok.mod.kin hk (thn (ha.run pos pins s' σ _ _ I' ht) ?_) h3 h4
  rintro us s2 ⟨vs, H2, I2, r2, q2⟩
  exact ⟨I2.kIn, run_fnS F hr hb (hx σ) I2 r2 q2⟩
/-! ### readings by the written part's own name, for suites -/
theorem pe_callHK {X : Cx} {P : Program} {w : World} {K : PySem.W.Frag} {mg : Str → Option Value} {base : Heap} {k i : Nat} {E : L2.St → XK} {t : TA} {ex : Expr} (e1 : X.prog = P) (e2 : X.w = w) (e3 : X.K = K) (e4 : X.mg = mg) (e5 : X.base = base) (h : PE X ex (tCallH X.prog X.w X.K X.mg X.base k i E t)) : PE X ex (tCallH P w K mg base k i E t) := by
  subst e1 e2 e3 e4 e5
  exact h
theorem pe_bmK {X : Cx} {K : PySem.W.Frag} {T : String} {name : Str} {r : V → List V → Hp → VK → Prop} {o e : Expr} {es : List Expr} {to : TE} {t : TA} {apos cpos : Pos} (hK : X.K = K) (h : PE X (.Call (.Attribute o name apos) (e :: es) [] cpos) (tBM X.K T r to t)) : PE X (.Call (.Attribute o name apos) (e :: es) [] cpos) (tBM K T r to t) := by
  rw [← hK]
  exact h
theorem op_eqDK {X : Cx} {K : PySem.W.Frag} (hK : X.K = K) (hu : X.A.units + 64 < cLine) : OpR X (compareOp .Eq) (rEqD K) := by
  rw [← hK]
  exact op_eqD hu
theorem op_neDK {X : Cx} {K : PySem.W.Frag} (hK : X.K = K) (hu : X.A.units + 64 < cLine) : OpR X (compareOp .NotEq) (rNeD K) := by
  rw [← hK]
  exact op_neD hu
/-- isinstance of the error that the suite holds -/
def rIsE2 (K : PySem.W.Frag) (cls : Value) (d : Option Addr) (a : Addr) : List V → Hp → VK → Prop := fun xs H Q => ∃ D, cls = .ref D ∧ d = none ∧ ExcC K D ∧ rIsE K D a xs H Q
theorem call_isE2 {X : Cx} {a : Addr} {cls : Value} {d : Option Addr} {oe : Obj} {pn : List (Addr × Obj)} (hz : Zc cls d oe) (hf : ∃ vs, oe.data = .fields vs) : CallR (X.suite a ((a, oe) :: pn)) (.builtin "isinstance") (rIsE2 X.K cls d a) := by
  rintro pins s σ H xs us Q I r ⟨D, rfl, rfl, C, h⟩
  exact call_isE C hz hf pins s σ H xs us Q I r h
section
variable {K : PySem.W.Frag} {σ : L2.St} {H H' : Hp} {ta : TE} {D a C : Addr}
theorem rc_isE {b : Bool} (he : ExcC K D) (hk : PySem.W.kitOne K (.ref D) (.ref C) = some b) : RC (rIsE2 K (.ref D) none a) [.ref a, .ref C] H (.bl b) := fun H1 _ Q q => ⟨D, rfl, rfl, he, .ref C, .ref C, b, rfl, fun u hu => hu, hk, q H1 (Ex.refl H1)⟩
theorem rc_isEt {b : Bool} {n : String} (he : ExcC K D) (hk : PySem.W.kitOne K (.ref D) (.type n) = some b) : RC (rIsE2 K (.ref D) none a) [.ref a, .ty n] H (.bl b) := fun H1 _ Q q => ⟨D, rfl, rfl, he, .ty n, .type n, b, rfl, fun u hu => hu, hk, q H1 (Ex.refl H1)⟩
end
end
section
variable {P : Program} {w : World} {K : PySem.W.Frag} {mg : Str → Option Value} {base : Heap} {A : Ad}
theorem ok_is_number (T : Tx K mg A) : FnOk P w K mg base CX0 1 A.a_is_number A.d_is_number ["thing", "least", "most"] (spH rNumX) := by
  refine T.f_is_number.ok sc_is_number (fun vs H Q E h => ?_) (fun cdv Ar outer s H vs Q E hr h => ?_)
  · obtain ⟨v, ⟨x, lo, hi, rfl, _⟩, _⟩ := h
    rfl
  · obtain ⟨v, ⟨x, lo, hi, rfl, hx⟩, k⟩ := h
    refine ⟨_, (pss_one (ps_ret (pe_and (pe_callB call_isi (by rfl) T.z_isinstance (by decide +kernel) (pa_cons (pv 0) (pa_cons (pe_bltn (v := .ty "int") (by rfl) T.z_int (by decide +kernel) rfl) pa_nil))) (pe_and (pe_not (pe_callB call_isi (by rfl) T.z_isinstance (by decide +kernel) (pa_cons (pv 0) (pa_cons (pe_bltn (v := .ty "bool") (by rfl) T.z_bool (by decide +kernel) rfl) pa_nil)))) (pe_one (pe_chain op_le op_le (pv 1) (pv 0) (pv 2))))))), ?_⟩
    rcases hx with ⟨n, rfl, rfl⟩ | ⟨ho, rfl⟩
    · refine s_ret (ev_is (ev_andV (a := true) (ev_cb (ea_cons (ev_var rfl) (ea_cons ev_c ea_nil)) (rc_isi_int (by decide +kernel))) fun _ => ev_andV (a := true) (ev_is (ev_notV (ev_cb (ea_cons (ev_var rfl) (ea_cons ev_c ea_nil)) (rc_isi_int (b := false) (by decide +kernel)))) rfl) fun _ => ev_chain (ev_var rfl) (ev_var rfl) (ev_var rfl) rv_I0 fun _ => rv_I0) ?_) fun H1 e1 => k H1 e1
      rw [Bool.true_and, Bool.true_and]
    · by_cases hb : ∃ b, x = .bl b
      · obtain ⟨b, rfl⟩ := hb
        exact s_ret (ev_andV (a := true) (b := false) (ev_cb (ea_cons (ev_var rfl) (ea_cons ev_c ea_nil)) (rc_isi_bl (by decide +kernel))) fun _ => ev_andV (a := false) (b := false) (ev_is (ev_notV (ev_cb (ea_cons (ev_var rfl) (ea_cons ev_c ea_nil)) (rc_isi_bl (b := true) (by decide +kernel)))) rfl) fun z => nomatch z) fun H1 e1 => k H1 e1
      · exact s_ret (ev_andV (a := false) (b := false) (ev_cb (ea_cons (ev_var rfl) (ea_cons ev_c ea_nil)) (rc_isi_odd ho fun b hx => hb ⟨b, hx⟩)) fun z => nomatch z) fun H1 e1 => k H1 e1
/-- a check that lets its number pass, or refuses it -/
def rChk (most : Int) (vs : List V) (v : V) : Prop := ∃ x : Int, vs = [.int x] ∧ 0 ≤ x ∧ x ≤ most ∧ v = .non
def xChk (most : Int) (C0 : Addr) (H : Hp) (vs : List V) (C : Addr) : Prop := ∃ v, vs = [v] ∧ Bad H v 0 most ∧ C = C0
theorem ok_check_storeys (T : Tx K mg A) : FnOk P w K mg base (L2.CX P w) 2 A.a_check_storeys A.d_check_storeys ["storeys"] (spPX (rChk (10^60)) (xChk (10^60) A.a_BadStoreys)) := by
  refine okN T.f_check_storeys sc_check_storeys (fun vs H Q E h => ?_) (fun cdv Ar outer s H vs Q E hr h => ?_)
  · rcases h with ⟨v, ⟨x, rfl, _⟩, _⟩ | ⟨C, ⟨v, rfl, _⟩, _⟩ <;> rfl
  · refine ⟨_, (pss_one (ps_if (pt_not (pt_val (pe_call (ok_is_number (P := P) (w := w) (base := base) T) (hr.mono (by decide)) (by rfl) T.g_is_number T.f_is_number.kp T.b_is_number .nil pass0 (pa_cons (pv 0) (pa_cons pe_int (pa_cons (pe_glob (v := .int 1000000000000000000000000000000000000000000000000000000000000) (by rfl) T.c_MOST_STOREYS.choose_spec ⟨_, rfl⟩) pa_nil)))))) (pss_one (L2.ps_raise rfl (L2.takes_of rfl rfl rfl rfl) (L2.pmk_own PySem.F.excBase_ValueError T.x_BadStoreys T.g_BadStoreys T.k_BadStoreys (raises_own T.b_BadStoreys T.y_BadStoreys) (by rfl)))) pss_nil)), ?_⟩
    rcases h with ⟨v, ⟨x, rfl, h0, h1, rfl⟩, k⟩ | ⟨C, hx, kE⟩
    · refine s_when (et_not (et_B (ev_h (ea_cons (ev_var rfl) (ea_cons ev_c (ea_cons ev_c ea_nil))) fun H1 e1 => good_num h0 h1))) (fun hb H1 e1 => ?_) (fun _ H1 e1 => k H1 e1)
      exact absurd hb (by decide)
    · obtain ⟨v, rfl, hb, rfl⟩ := hx
      refine s_when (et_not (et_B (ev_h (ea_cons (ev_var rfl) (ea_cons ev_c (ea_cons ev_c ea_nil))) fun H1 e1 => bad_num (hb.mono e1)))) (fun _ H1 e1 => kE H1 e1) fun hb => absurd hb (by decide)
theorem ok_check_glasses (T : Tx K mg A) : FnOk P w K mg base (L2.CX P w) 2 A.a_check_glasses A.d_check_glasses ["glasses"] (spPX (rChk (300)) (xChk (300) A.a_BadGlasses)) := by
  refine okN T.f_check_glasses sc_check_glasses (fun vs H Q E h => ?_) (fun cdv Ar outer s H vs Q E hr h => ?_)
  · rcases h with ⟨v, ⟨x, rfl, _⟩, _⟩ | ⟨C, ⟨v, rfl, _⟩, _⟩ <;> rfl
  · refine ⟨_, (pss_one (ps_if (pt_not (pt_val (pe_call (ok_is_number (P := P) (w := w) (base := base) T) (hr.mono (by decide)) (by rfl) T.g_is_number T.f_is_number.kp T.b_is_number .nil pass0 (pa_cons (pv 0) (pa_cons pe_int (pa_cons (pe_glob (v := .int 300) (by rfl) T.c_MOST_GLASSES.choose_spec ⟨_, rfl⟩) pa_nil)))))) (pss_one (L2.ps_raise rfl (L2.takes_of rfl rfl rfl rfl) (L2.pmk_own PySem.F.excBase_ValueError T.x_BadGlasses T.g_BadGlasses T.k_BadGlasses (raises_own T.b_BadGlasses T.y_BadGlasses) (by rfl)))) pss_nil)), ?_⟩
    rcases h with ⟨v, ⟨x, rfl, h0, h1, rfl⟩, k⟩ | ⟨C, hx, kE⟩
    · refine s_when (et_not (et_B (ev_h (ea_cons (ev_var rfl) (ea_cons ev_c (ea_cons ev_c ea_nil))) fun H1 e1 => good_num h0 h1))) (fun hb H1 e1 => ?_) (fun _ H1 e1 => k H1 e1)
      exact absurd hb (by decide)
    · obtain ⟨v, rfl, hb, rfl⟩ := hx
      refine s_when (et_not (et_B (ev_h (ea_cons (ev_var rfl) (ea_cons ev_c (ea_cons ev_c ea_nil))) fun H1 e1 => bad_num (hb.mono e1)))) (fun _ H1 e1 => kE H1 e1) fun hb => absurd hb (by decide)
theorem ok_check_tries (T : Tx K mg A) : FnOk P w K mg base (L2.CX P w) 2 A.a_check_tries A.d_check_tries ["tries"] (spPX (rChk (10^40)) (xChk (10^40) A.a_BadTries)) := by
  refine okN T.f_check_tries sc_check_tries (fun vs H Q E h => ?_) (fun cdv Ar outer s H vs Q E hr h => ?_)
  · rcases h with ⟨v, ⟨x, rfl, _⟩, _⟩ | ⟨C, ⟨v, rfl, _⟩, _⟩ <;> rfl
  · refine ⟨_, (pss_one (ps_if (pt_not (pt_val (pe_call (ok_is_number (P := P) (w := w) (base := base) T) (hr.mono (by decide)) (by rfl) T.g_is_number T.f_is_number.kp T.b_is_number .nil pass0 (pa_cons (pv 0) (pa_cons pe_int (pa_cons (pe_glob (v := .int 10000000000000000000000000000000000000000) (by rfl) T.c_MOST_TRIES.choose_spec ⟨_, rfl⟩) pa_nil)))))) (pss_one (L2.ps_raise rfl (L2.takes_of rfl rfl rfl rfl) (L2.pmk_own PySem.F.excBase_ValueError T.x_BadTries T.g_BadTries T.k_BadTries (raises_own T.b_BadTries T.y_BadTries) (by rfl)))) pss_nil)), ?_⟩
    rcases h with ⟨v, ⟨x, rfl, h0, h1, rfl⟩, k⟩ | ⟨C, hx, kE⟩
    · refine s_when (et_not (et_B (ev_h (ea_cons (ev_var rfl) (ea_cons ev_c (ea_cons ev_c ea_nil))) fun H1 e1 => good_num h0 h1))) (fun hb H1 e1 => ?_) (fun _ H1 e1 => k H1 e1)
      exact absurd hb (by decide)
    · obtain ⟨v, rfl, hb, rfl⟩ := hx
      refine s_when (et_not (et_B (ev_h (ea_cons (ev_var rfl) (ea_cons ev_c (ea_cons ev_c ea_nil))) fun H1 e1 => bad_num (hb.mono e1)))) (fun _ H1 e1 => kE H1 e1) fun hb => absurd hb (by decide)
def rReached (vs : List V) (v : V) : Prop := ∃ t g : Nat, vs = [.int (t : Int), .int (g : Int)] ∧ t < 2 ^ 256 ∧ g ≤ 400 ∧ v = .int ((R t g : Nat) : Int)
/-! ### reached -/
theorem ok_reached (T : Tx K mg A) : FnOk P w K mg base CX0 1 A.a_reached A.d_reached ["tries", "glasses"] (spP rReached) := by
  refine T.f_reached.ok sc_reached (fun vs H Q E h => ?_) (fun cdv Ar outer s H vs Q E hr h => ?_)
  · obtain ⟨v, ⟨t, g, rfl, _⟩, _⟩ := h
    rfl
  · obtain ⟨v, ⟨t, g, rfl, ht, hg, rfl⟩, k⟩ := h
    refine ⟨_, (pss_cons (ps_set (i := 2) sc_reached.nd rfl (.inl rfl) pe_int)
      (pss_cons (ps_set (i := 3) sc_reached.nd rfl (.inl rfl) pe_int)
      (pss_cons (ps_for PassesOwn.never rfl (pi_range2 (by rfl) T.z_range (pa_cons pe_int (pa_cons (pe_op op_add (pe_callB (call_min2 rfl) (by rfl) T.z_min (by decide +kernel) (pa_cons (pv 0) (pa_cons (pv 1) pa_nil))) pe_int) pa_nil))) (pg_name (i := 4) sc_reached.nd rfl (.inl rfl))
        (pss_cons (ps_set (i := 3) sc_reached.nd rfl (.inl rfl) (pe_op op_fdivW (pe_op op_mulX (pv 3) (pe_op op_add (pe_op op_sub (pv 0) (pv 4)) pe_int)) (pv 4)))
      (pss_one (ps_aug (i := 2) sc_reached.nd rfl (.inl rfl) (pv 3) ip_add))))
      (pss_one (ps_ret (pv 2)))))), ?_⟩
    refine q_asg ev_c fun H1 e1 => q_asg ev_c fun H2 e2 => ?_
    have hm : min t g ≤ 400 := Nat.le_trans (Nat.min_le_right t g) hg
    refine q_forR2 (lo := 1) (n := ((min t g : Nat) : Int) + 1) (ea_cons ev_c (ea_cons (ev_op (ev_is (ev_cb (ea_cons (ev_var rfl) (ea_cons (ev_var rfl) ea_nil)) rc_min2) (congrArg V.int (min_nat t g))) ev_c rv_I0) ea_nil)) ⟨by omega, by omega, by omega, by omega⟩
      (fun i σ' H' => ∃ y, σ' = [some (.int (t : Int)), some (.int (g : Int)), some (.int ((R t i : Nat) : Int)), some (.int ((bin t i : Nat) : Int)), y] ∧ Ex H H') (fun H3 e3 => ⟨none, by rw [bin_zero]; rfl, (e1.trans e2).trans e3⟩) ?_ ?_
    · rintro i σ' H' hi ⟨y, rfl, e'⟩
      have hit : i < t := by have := Nat.min_le_left t g; omega
      have hik : i ≤ 400 := by omega
      have e4 : (t : Int) - (1 + (i : Int)) + 1 = ((t - i : Nat) : Int) := by omega
      have e5 : (1 : Int) + (i : Int) = ((i + 1 : Nat) : Int) := by omega
      refine q_asg (v := .int ((bin t (i + 1) : Nat) : Int)) (ev_is (ev_op (ev_op (ev_var rfl) (ev_op (ev_op (ev_var rfl) (ev_var rfl) rv_I0) ev_c rv_I0) (rv_I ?_)) (ev_var rfl) (rv_I ?_)) ?_) fun H3 e3 => ?_
      · rw [e4]
        exact mulx_ok (nat_bits (bin_bits ht hik)) (nat_bits (Nat.lt_of_le_of_lt (Nat.sub_le t i) ht)) (by decide)
      · rw [e5]
        exact wide_div (b := 30) (by omega) (by rw [Int.natAbs_natCast]; exact Nat.lt_of_le_of_lt (show i + 1 ≤ 401 by omega) (by decide)) (by decide) (by decide)
      · rw [e4, e5]
        refine congrArg V.int ?_
        rw [← Int.natCast_mul, ← Int.natCast_ediv, bin_div]
      · refine s_aug (f := fun i j => i + j) rfl (ev_var rfl) fun H4 e4 => ⟨some (.int (1 + (i : Int))), rfl, (e'.trans e3).trans e4⟩
    · rintro σ' H' ⟨y, rfl, e'⟩
      refine s_ret (ev_var rfl) fun H3 e3 => ?_
      have en : (((min t g : Nat) : Int) + 1 - 1).toNat = min t g := by omega
      rw [en, R_min]
      exact k H3 (e'.trans e3)
/-! ### are_enough -/
def rEnough (vs : List V) (v : V) : Prop := ∃ s g t : Nat, vs = [.int (s : Int), .int (g : Int), .int (t : Int)] ∧ t < 2 ^ 256 ∧ g ≤ 400 ∧ v = .bl (decide (s ≤ R t g))
theorem ok_are_enough (T : Tx K mg A) : FnOk P w K mg base CX0 1 A.a_are_enough A.d_are_enough ["storeys", "glasses", "tries"] (spP rEnough) := by
  refine T.f_are_enough.ok sc_are_enough (fun vs H Q E h => ?_) (fun cdv Ar outer s H vs Q E hr h => ?_)
  · obtain ⟨v, ⟨s, g, t, rfl, _⟩, _⟩ := h
    rfl
  · obtain ⟨v, ⟨st, g, t, rfl, ht, hg, rfl⟩, k⟩ := h
    refine ⟨_, (pss_cons (ps_set (i := 3) sc_are_enough.nd rfl (.inl rfl) pe_int)
      (pss_cons (ps_set (i := 4) sc_are_enough.nd rfl (.inl rfl) pe_int)
      (pss_cons (ps_for PassesOwn.never rfl (pi_range2 (by rfl) T.z_range (pa_cons pe_int (pa_cons (pe_op op_add (pe_callB (call_min2 rfl) (by rfl) T.z_min (by decide +kernel) (pa_cons (pv 2) (pa_cons (pv 1) pa_nil))) pe_int) pa_nil))) (pg_name (i := 5) sc_are_enough.nd rfl (.inl rfl))
        (pss_cons (ps_if (pt_cmpR op_ge (pv 3) (pv 0) (nomark _)) (pss_one (ps_ret pe_bl)) pss_nil)
      (pss_cons (ps_set (i := 4) sc_are_enough.nd rfl (.inl rfl) (pe_op op_fdivW (pe_op op_mulX (pv 4) (pe_op op_add (pe_op op_sub (pv 2) (pv 5)) pe_int)) (pv 5)))
      (pss_one (ps_aug (i := 3) sc_are_enough.nd rfl (.inl rfl) (pv 4) ip_add)))))
      (pss_one (ps_ret (pe_cmpR op_ge (pv 3) (pv 0) (nomark _))))))), ?_⟩
    refine q_asg ev_c fun H1 e1 => q_asg ev_c fun H2 e2 => ?_
    have hm : min t g ≤ 400 := Nat.le_trans (Nat.min_le_right t g) hg
    refine q_forR2 (lo := 1) (n := ((min t g : Nat) : Int) + 1) (ea_cons ev_c (ea_cons (ev_op (ev_is (ev_cb (ea_cons (ev_var rfl) (ea_cons (ev_var rfl) ea_nil)) rc_min2) (congrArg V.int (min_nat t g))) ev_c rv_I0) ea_nil)) ⟨by omega, by omega, by omega, by omega⟩
      (fun i σ' H' => ∃ y, σ' = [some (.int (st : Int)), some (.int (g : Int)), some (.int (t : Int)), some (.int ((R t i : Nat) : Int)), some (.int ((bin t i : Nat) : Int)), y] ∧ Ex H H') (fun H3 e3 => ⟨none, by rw [bin_zero]; rfl, (e1.trans e2).trans e3⟩) ?_ ?_
    · rintro i σ' H' hi ⟨y, rfl, e'⟩
      have hit : i < t := by have := Nat.min_le_left t g; omega
      have hig : i < g := by have := Nat.min_le_right t g; omega
      have hik : i ≤ 400 := by omega
      have e4 : (t : Int) - (1 + (i : Int)) + 1 = ((t - i : Nat) : Int) := by omega
      have e5 : (1 : Int) + (i : Int) = ((i + 1 : Nat) : Int) := by omega
      refine q_when (et_test (ev_op (ev_var rfl) (ev_var rfl) rv_I0)) (fun hb H3 e3 => ?_) (fun _ H3 e3 => ?_)
      · refine s_ret ev_c fun H4 e4 => ?_
        have h1 := of_decide_eq_true hb
        have h2 : R t i ≤ R t g := R_mono_g t (by omega)
        have h3 := k H4 ((e'.trans e3).trans e4)
        rw [decide_eq_true (show st ≤ R t g by omega)] at h3
        exact h3
      · refine q_asg (v := .int ((bin t (i + 1) : Nat) : Int)) (ev_is (ev_op (ev_op (ev_var rfl) (ev_op (ev_op (ev_var rfl) (ev_var rfl) rv_I0) ev_c rv_I0) (rv_I ?_)) (ev_var rfl) (rv_I ?_)) ?_) fun H4 e4 => ?_
        · rw [e4]
          exact mulx_ok (nat_bits (bin_bits ht hik)) (nat_bits (Nat.lt_of_le_of_lt (Nat.sub_le t i) ht)) (by decide)
        · rw [e5]
          exact wide_div (b := 30) (by omega) (by rw [Int.natAbs_natCast]; exact Nat.lt_of_le_of_lt (show i + 1 ≤ 401 by omega) (by decide)) (by decide) (by decide)
        · rw [e4, e5]
          refine congrArg V.int ?_
          rw [← Int.natCast_mul, ← Int.natCast_ediv, bin_div]
        · exact s_aug (f := fun i j => i + j) rfl (ev_var rfl) fun H5 e5 => ⟨some (.int (1 + (i : Int))), rfl, ((e'.trans e3).trans e4).trans e5⟩
    · rintro σ' H' ⟨y, rfl, e'⟩
      have en : (((min t g : Nat) : Int) + 1 - 1).toNat = min t g := by omega
      rw [en, R_min]
      refine s_ret (ev_is (ev_op (ev_var rfl) (ev_var rfl) rv_I0) ?_) fun H3 e3 => k H3 (e'.trans e3)
      refine congrArg V.bl (decide_eq_decide.mpr ?_)
      omega
/-! ### least_tries -/
def rLeast (vs : List V) (v : V) : Prop := ∃ s g : Nat, vs = [.int (s : Int), .int (g : Int)] ∧ s ≤ 10 ^ 60 ∧ g ≤ 400 ∧ (0 < g ∨ s = 0) ∧ v = .int ((fw s g : Nat) : Int)
theorem ok_least_tries (T : Tx K mg A) : FnOk P w K mg base CX0 2 A.a_least_tries A.d_least_tries ["storeys", "glasses"] (spP rLeast) := by
  refine T.f_least_tries.ok sc_least_tries (fun vs H Q E h => ?_) (fun cdv Ar outer s H vs Q E hr h => ?_)
  · obtain ⟨v, ⟨s, g, rfl, _⟩, _⟩ := h
    rfl
  · obtain ⟨v, ⟨st, g, rfl, hs, hg, hc, rfl⟩, k⟩ := h
    refine ⟨_, (pss_cons (ps_set (i := 2) sc_least_tries.nd rfl (.inl rfl) pe_int)
      (pss_cons (ps_while PassesOwn.never (pt_not (pt_val (pe_call (ok_are_enough (P := P) (w := w) (base := base) T) (hr.mono (by decide)) (by rfl) T.g_are_enough T.f_are_enough.kp T.b_are_enough .nil pass0 (pa_cons (pv 0) (pa_cons (pv 1) (pa_cons (pv 2) pa_nil)))))) (pss_one (ps_aug (i := 2) sc_least_tries.nd rfl (.inl rfl) pe_int iop_mul)))
      (pss_cons (ps_set (i := 3) sc_least_tries.nd rfl (.inl rfl) pe_int)
      (pss_cons (ps_while PassesOwn.never (pt_cmpR op_lt (pv 3) (pv 2) (nomark _)) (pss_cons (ps_set (i := 4) sc_least_tries.nd rfl (.inl rfl) (pe_op op_fdivW (pe_op op_add (pv 3) (pv 2)) pe_int))
      (pss_one (ps_if (pt_val (pe_call (ok_are_enough (P := P) (w := w) (base := base) T) (hr.mono (by decide)) (by rfl) T.g_are_enough T.f_are_enough.kp T.b_are_enough .nil pass0 (pa_cons (pv 0) (pa_cons (pv 1) (pa_cons (pv 4) pa_nil))))) (pss_one (ps_set (i := 2) sc_least_tries.nd rfl (.inl rfl) (pv 4))) (pss_one (ps_set (i := 3) sc_least_tries.nd rfl (.inl rfl) (pe_op op_add (pv 4) pe_int)))))))
      (pss_one (ps_ret (pv 3))))))), ?_⟩
    refine q_asg ev_c fun H1 e1 => ?_
    -- high, doubled until it is enough
    refine q_while (fun m σ' H' => ∃ h : Nat, σ' = [some (.int (st : Int)), some (.int (g : Int)), some (.int (h : Int)), none, none] ∧ 1 ≤ h ∧ h ≤ 2 * 10 ^ 60 ∧ m = st + 1 - h ∧ Ex H H') st ⟨1, rfl, Nat.le_refl _, by decide, by omega, e1⟩ ?_
    rintro m σ' H' ⟨h, rfl, h1, h2, rfl, e2⟩
    refine ⟨_, et_not (et_B (ev_p (ea_cons (ev_var rfl) (ea_cons (ev_var rfl) (ea_cons (ev_var rfl) ea_nil))) ⟨st, g, h, rfl, by omega, hg, rfl⟩)), fun hb H3 e3 => ?_, fun hb H3 e3 => ?_⟩
    · have hn : ¬ st ≤ R h g := fun z => by
        rw [decide_eq_true z] at hb
        cases hb
      have hg0 : 0 < g := by
        rcases hc with z | z
        · exact z
        · subst z
          exact absurd (Nat.zero_le _) hn
      have hh := R_ge h hg0
      refine ⟨fun σ2 H2 => ∃ h' : Nat, σ2 = [some (.int (st : Int)), some (.int (g : Int)), some (.int (h' : Int)), none, none] ∧ h' = h * 2 ∧ Ex H H2, ?_, ?_⟩
      · rintro σ2 H2 ⟨h', rfl, rfl, e4⟩
        exact ⟨st + 1 - h * 2, by omega, h * 2, rfl, by omega, by omega, rfl, e4⟩
      · refine s_augC (f := fun i j => i * j) rfl ev_c (.inr ⟨by decide, by decide⟩) fun H4 e4 => ⟨h * 2, ?_, rfl, (e2.trans e3).trans e4⟩
        rw [Int.natCast_mul]
        rfl
    · have hy : st ≤ R h g := by
        by_cases z : st ≤ R h g
        · exact z
        · rw [decide_eq_false z] at hb
          cases hb
      refine q_asg ev_c fun H4 e4 => ?_
      -- halving
      refine q_while (fun m σ' H' => ∃ (lo hi : Nat) (y : Option V), σ' = [some (.int (st : Int)), some (.int (g : Int)), some (.int (hi : Int)), some (.int (lo : Int)), y] ∧ lo ≤ hi ∧ hi ≤ 2 * 10 ^ 60 ∧ st ≤ R hi g ∧ (lo = 0 ∨ R (lo - 1) g < st) ∧ m = hi - lo ∧ Ex H H') h
        ⟨0, h, none, rfl, Nat.zero_le _, h2, hy, .inl rfl, rfl, (e2.trans e3).trans e4⟩ ?_
      rintro m σ' H' ⟨lo, hi, y, rfl, a1, a2, a3, a4, rfl, e5⟩
      refine ⟨_, et_test (ev_op (ev_var rfl) (ev_var rfl) rv_I0), fun hb H6 e6 => ?_, fun hb H6 e6 => ?_⟩
      · have hlt : lo < hi := by have := of_decide_eq_true hb; omega
        refine ⟨fun σ2 H2 => ∃ (lo' hi' : Nat) (y : Option V), σ2 = [some (.int (st : Int)), some (.int (g : Int)), some (.int (hi' : Int)), some (.int (lo' : Int)), y] ∧ lo' ≤ hi' ∧ hi' ≤ 2 * 10 ^ 60 ∧ st ≤ R hi' g ∧ (lo' = 0 ∨ R (lo' - 1) g < st) ∧ hi' - lo' < hi - lo ∧ Ex H H2, ?_, ?_⟩
        · rintro σ2 H2 ⟨lo', hi', y', rfl, b1, b2, b3, b4, b5, e7⟩
          exact ⟨hi' - lo', b5, lo', hi', y', rfl, b1, b2, b3, b4, rfl, e7⟩
        · refine q_asg (v := .int (((lo + hi) / 2 : Nat) : Int)) (ev_is (ev_op (ev_op (ev_var rfl) (ev_var rfl) rv_I0) ev_c (rv_I (wide_div (b := 30) (by decide) (by decide) (by decide) (by decide)))) (congrArg V.int (by omega))) fun H7 e7 => ?_
          refine s_if (et_B (ev_p (ea_cons (ev_var rfl) (ea_cons (ev_var rfl) (ea_cons (ev_var rfl) ea_nil))) ⟨st, g, (lo + hi) / 2, rfl, by omega, hg, rfl⟩)) (fun hb2 H8 e8 => ?_) (fun hb2 H8 e8 => ?_)
          · have q := of_decide_eq_true hb2
            exact s_asg (ev_var rfl) fun H9 e9 => ⟨lo, (lo + hi) / 2, _, rfl, by omega, by omega, q, a4, by omega, (((e5.trans e6).trans e7).trans e8).trans e9⟩
          · have q := of_decide_eq_false hb2
            refine s_asg (v := .int (((lo + hi) / 2 + 1 : Nat) : Int)) (ev_is (ev_op (ev_var rfl) ev_c rv_I0) (congrArg V.int (by omega))) fun H9 e9 => ⟨(lo + hi) / 2 + 1, hi, _, rfl, by omega, by omega, a3, .inr ?_, by omega, (((e5.trans e6).trans e7).trans e8).trans e9⟩
            rw [Nat.add_sub_cancel]
            omega
      · have hge : lo = hi := by have := of_decide_eq_false hb; omega
        subst hge
        refine s_ret (ev_var rfl) fun H7 e7 => ?_
        have q := k H7 ((e5.trans e6).trans e7)
        rw [fw_eq ⟨a3, a4⟩] at q
        exact q
/-! ### check_found, fewest, glasses_for -/
def rChkF (vs : List V) (v : V) : Prop := ∃ s g : Nat, vs = [.int (s : Int), .int (g : Int)] ∧ s ≤ 10 ^ 60 ∧ g ≤ 300 ∧ (0 < g ∨ s = 0) ∧ v = .non
/-- why a count of tries is refused -/
def xFound (A : Ad) (H : Hp) (vs : List V) (C : Addr) : Prop := ∃ s g : V, vs = [s, g] ∧ ((Bad H s 0 (10 ^ 60) ∧ C = A.a_BadStoreys) ∨ ∃ n : Nat, s = .int (n : Int) ∧ n ≤ 10 ^ 60 ∧ ((Bad H g 0 300 ∧ C = A.a_BadGlasses) ∨ (g = .int 0 ∧ 0 < n ∧ C = A.a_NoGlass)))
theorem xFound.mono {A : Ad} {H H' : Hp} {vs : List V} {C : Addr} (h : xFound A H vs C) (e : Ex H H') : xFound A H' vs C := by
  obtain ⟨s, g, rfl, h⟩ := h
  refine ⟨s, g, rfl, ?_⟩
  rcases h with ⟨hb, hc⟩ | ⟨n, hn, hl, ⟨hb, hc⟩ | h⟩
  · exact .inl ⟨hb.mono e, hc⟩
  · exact .inr ⟨n, hn, hl, .inl ⟨hb.mono e, hc⟩⟩
  · exact .inr ⟨n, hn, hl, .inr h⟩
theorem ok_check_found (T : Tx K mg A) : FnOk P w K mg base (L2.CX P w) 3 A.a_check_found A.d_check_found ["storeys", "glasses"] (spPX rChkF (xFound A)) := by
  refine okN T.f_check_found sc_check_found (fun vs H Q E h => ?_) (fun cdv Ar outer s H vs Q E hr h => ?_)
  · rcases h with ⟨v, ⟨s, g, rfl, _⟩, _⟩ | ⟨C, ⟨s, g, rfl, _⟩, _⟩ <;> rfl
  · refine ⟨_, (pss_cons (ps_expr (pe_call (ok_check_storeys (P := P) (w := w) (base := base) T) (hr.mono (by decide)) (by rfl) T.g_check_storeys T.f_check_storeys.kp T.b_check_storeys .nil (L2.passes_call (L2.takes_of rfl rfl rfl rfl) (fun _ _ _ _ h => h)) (pa_cons (pv 0) pa_nil)))
      (pss_cons (ps_expr (pe_call (ok_check_glasses (P := P) (w := w) (base := base) T) (hr.mono (by decide)) (by rfl) T.g_check_glasses T.f_check_glasses.kp T.b_check_glasses .nil (L2.passes_call (L2.takes_of rfl rfl rfl rfl) (fun _ _ _ _ h => h)) (pa_cons (pv 1) pa_nil)))
      (pss_one (ps_if (PW.pt (pw_and (pt_cmpR op_gt (pv 0) pe_int (nomark _)) (pw_and1 (pt_cmpR op_eq (pv 1) pe_int (nomark _))))) (pss_one (L2.ps_raise rfl (L2.takes_of rfl rfl rfl rfl) (L2.pmk_own PySem.F.excBase_ValueError T.x_NoGlass T.g_NoGlass T.k_NoGlass (raises_own T.b_NoGlass T.y_NoGlass) (by rfl)))) pss_nil)))), ?_⟩
    rcases h with ⟨v, ⟨st, g, rfl, hs, hg, hc, rfl⟩, k⟩ | ⟨C, hx, kE⟩
    · refine q_drop (ev_px (ea_cons (ev_var rfl) ea_nil) ⟨st, rfl, by omega, by omega, rfl⟩) fun H1 e1 => ?_
      refine q_drop (ev_px (ea_cons (ev_var rfl) ea_nil) ⟨g, rfl, by omega, by omega, rfl⟩) fun H2 e2 => ?_
      refine s_when (et_and (et_test (ev_op (ev_var rfl) ev_c rv_I0)) fun _ => et_test (ev_op (ev_var rfl) ev_c rv_eqI)) (fun hb H3 e3 => ?_) fun _ H3 e3 => k H3 ((e1.trans e2).trans e3)
      rw [Bool.and_eq_true] at hb
      have b1 := of_decide_eq_true hb.1
      have b2 := of_decide_eq_true hb.2
      omega
    · obtain ⟨v1, v2, rfl, hx⟩ := hx
      rcases hx with ⟨hb, rfl⟩ | ⟨st, rfl, hs, hx⟩
      · exact q_dropR (er_px (ea_cons (ev_var rfl) ea_nil) (fun H1 e1 => ⟨_, rfl, hb.mono e1, rfl⟩) kE)
      refine q_drop (ev_px (ea_cons (ev_var rfl) ea_nil) ⟨st, rfl, by omega, by omega, rfl⟩) fun H1 e1 => ?_
      rcases hx with ⟨hb, rfl⟩ | ⟨rfl, h0, rfl⟩
      · exact q_dropR (er_px (ea_cons (ev_var rfl) ea_nil) (fun H2 e2 => ⟨_, rfl, hb.mono (e1.trans e2), rfl⟩) fun H2 e2 => kE H2 (e1.trans e2))
      refine q_drop (ev_px (ea_cons (ev_var rfl) ea_nil) ⟨0, rfl, by omega, by omega, rfl⟩) fun H2 e2 => ?_
      refine s_when (et_and (et_test (ev_op (ev_var rfl) ev_c rv_I0)) fun _ => et_test (ev_op (ev_var rfl) ev_c rv_eqI)) (fun _ H3 e3 => kE H3 ((e1.trans e2).trans e3)) fun hb => absurd hb ?_
      rw [decide_eq_true (show (0 : Int) < (st : Int) by omega), decide_eq_true rfl]
      decide
/-! ### reach -/
def rReach (vs : List V) (v : V) : Prop := ∃ t g : Nat, vs = [.int (t : Int), .int (g : Int)] ∧ t ≤ 10 ^ 40 ∧ g ≤ 300 ∧ v = .int ((R t g : Nat) : Int)
def xReach (A : Ad) (H : Hp) (vs : List V) (C : Addr) : Prop := ∃ t g : V, vs = [t, g] ∧ ((Bad H t 0 (10 ^ 40) ∧ C = A.a_BadTries) ∨ ∃ n : Nat, t = .int (n : Int) ∧ n ≤ 10 ^ 40 ∧ Bad H g 0 300 ∧ C = A.a_BadGlasses)
theorem ok_reach (T : Tx K mg A) : FnOk P w K mg base (L2.CX P w) 3 A.a_reach A.d_reach ["tries", "glasses"] (spPX rReach (xReach A)) := by
  refine okN T.f_reach sc_reach (fun vs H Q E h => ?_) (fun cdv Ar outer s H vs Q E hr h => ?_)
  · rcases h with ⟨v, ⟨t, g, rfl, _⟩, _⟩ | ⟨C, ⟨s, g, rfl, _⟩, _⟩ <;> rfl
  · refine ⟨_, (pss_cons (ps_expr (pe_call (ok_check_tries (P := P) (w := w) (base := base) T) (hr.mono (by decide)) (by rfl) T.g_check_tries T.f_check_tries.kp T.b_check_tries .nil (L2.passes_call (L2.takes_of rfl rfl rfl rfl) (fun _ _ _ _ h => h)) (pa_cons (pv 0) pa_nil)))
      (pss_cons (ps_expr (pe_call (ok_check_glasses (P := P) (w := w) (base := base) T) (hr.mono (by decide)) (by rfl) T.g_check_glasses T.f_check_glasses.kp T.b_check_glasses .nil (L2.passes_call (L2.takes_of rfl rfl rfl rfl) (fun _ _ _ _ h => h)) (pa_cons (pv 1) pa_nil)))
      (pss_one (ps_ret (pe_call (ok_reached (P := P) (w := w) (base := base) T) (hr.mono (by decide)) (by rfl) T.g_reached T.f_reached.kp T.b_reached .nil pass0 (pa_cons (pv 0) (pa_cons (pv 1) pa_nil))))))), ?_⟩
    rcases h with ⟨v, ⟨t, g, rfl, ht, hg, rfl⟩, k⟩ | ⟨C, hx, kE⟩
    · refine q_drop (ev_px (ea_cons (ev_var rfl) ea_nil) ⟨t, rfl, by omega, by omega, rfl⟩) fun H1 e1 => ?_
      refine q_drop (ev_px (ea_cons (ev_var rfl) ea_nil) ⟨g, rfl, by omega, by omega, rfl⟩) fun H2 e2 => ?_
      exact s_ret (ev_p (ea_cons (ev_var rfl) (ea_cons (ev_var rfl) ea_nil)) ⟨t, g, rfl, by omega, by omega, rfl⟩) fun H3 e3 => k H3 ((e1.trans e2).trans e3)
    · obtain ⟨v1, v2, rfl, hx⟩ := hx
      rcases hx with ⟨hb, rfl⟩ | ⟨t, rfl, ht, hb, rfl⟩
      · exact q_dropR (er_px (ea_cons (ev_var rfl) ea_nil) (fun H1 e1 => ⟨_, rfl, hb.mono e1, rfl⟩) kE)
      refine q_drop (ev_px (ea_cons (ev_var rfl) ea_nil) ⟨t, rfl, by omega, by omega, rfl⟩) fun H1 e1 => ?_
      exact q_dropR (er_px (ea_cons (ev_var rfl) ea_nil) (fun H2 e2 => ⟨_, rfl, hb.mono (e1.trans e2), rfl⟩) fun H2 e2 => kE H2 (e1.trans e2))
def rFewest (vs : List V) (v : V) : Prop := ∃ s g : Nat, vs = [.int (s : Int), .int (g : Int)] ∧ s ≤ 10 ^ 60 ∧ g ≤ 300 ∧ (0 < g ∨ s = 0) ∧ v = .int ((fw s g : Nat) : Int)
theorem ok_fewest (T : Tx K mg A) : FnOk P w K mg base (L2.CX P w) 4 A.a_fewest A.d_fewest ["storeys", "glasses"] (spPX rFewest (xFound A)) := by
  refine okN T.f_fewest sc_fewest (fun vs H Q E h => ?_) (fun cdv Ar outer s H vs Q E hr h => ?_)
  · rcases h with ⟨v, ⟨s, g, rfl, _⟩, _⟩ | ⟨C, ⟨s, g, rfl, _⟩, _⟩ <;> rfl
  · refine ⟨_, (pss_cons (ps_expr (pe_call (ok_check_found (P := P) (w := w) (base := base) T) (hr.mono (by decide)) (by rfl) T.g_check_found T.f_check_found.kp T.b_check_found .nil (L2.passes_call (L2.takes_of rfl rfl rfl rfl) (fun _ _ _ _ h => h)) (pa_cons (pv 0) (pa_cons (pv 1) pa_nil))))
      (pss_one (ps_ret (pe_call (ok_least_tries (P := P) (w := w) (base := base) T) (hr.mono (by decide)) (by rfl) T.g_least_tries T.f_least_tries.kp T.b_least_tries .nil pass0 (pa_cons (pv 0) (pa_cons (pv 1) pa_nil)))))), ?_⟩
    rcases h with ⟨v, ⟨st, g, rfl, hs, hg, hc, rfl⟩, k⟩ | ⟨C, hx, kE⟩
    · refine q_drop (ev_px (ea_cons (ev_var rfl) (ea_cons (ev_var rfl) ea_nil)) ⟨st, g, rfl, hs, hg, hc, rfl⟩) fun H1 e1 => ?_
      exact s_ret (ev_p (ea_cons (ev_var rfl) (ea_cons (ev_var rfl) ea_nil)) ⟨st, g, rfl, hs, by omega, hc, rfl⟩) fun H2 e2 => k H2 (e1.trans e2)
    · have hx0 := hx
      obtain ⟨v1, v2, rfl, _⟩ := hx
      exact q_dropR (er_px (ea_cons (ev_var rfl) (ea_cons (ev_var rfl) ea_nil)) (fun H1 e1 => hx0.mono e1) kE)
def rGf (vs : List V) (v : V) : Prop := ∃ s f : Nat, vs = [.int (s : Int)] ∧ s ≤ 10 ^ 60 ∧ Gw s (bl s) f ∧ v = .int (f : Int)
theorem ev_bits {K : PySem.W.Frag} {σ : L2.St} {H : Hp} {te : TE} {s : Nat} (h : Ev te σ H (.int (s : Int))) : Ev (tBits te) σ H (.int ((bl s : Nat) : Int)) := fun H1 e Q q => h H1 e _ fun H2 e2 => ⟨(s : Int), rfl, q H2 e2⟩
theorem ok_glasses_for (T : Tx K mg A) : FnOk P w K mg base (L2.CX P w) 3 A.a_glasses_for A.d_glasses_for ["storeys"] (spPX rGf (xChk (10^60) A.a_BadStoreys)) := by
  refine okN T.f_glasses_for sc_glasses_for (fun vs H Q E h => ?_) (fun cdv Ar outer s H vs Q E hr h => ?_)
  · rcases h with ⟨v, ⟨s, f, rfl, _⟩, _⟩ | ⟨C, ⟨v, rfl, _⟩, _⟩ <;> rfl
  · refine ⟨_, (pss_cons (ps_expr (pe_call (ok_check_storeys (P := P) (w := w) (base := base) T) (hr.mono (by decide)) (by rfl) T.g_check_storeys T.f_check_storeys.kp T.b_check_storeys .nil (L2.passes_call (L2.takes_of rfl rfl rfl rfl) (fun _ _ _ _ h => h)) (pa_cons (pv 0) pa_nil)))
      (pss_cons (ps_set (i := 1) sc_glasses_for.nd rfl (.inl rfl) pe_int)
      (pss_cons (ps_while PassesOwn.leaving (pt_not (pt_val (pe_call (ok_are_enough (P := P) (w := w) (base := base) T) (hr.mono (by decide)) (by rfl) T.g_are_enough T.f_are_enough.kp T.b_are_enough .nil pass0 (pa_cons (pv 0) (pa_cons (pv 1) (pa_cons (pe_bits (pv 0)) pa_nil)))))) (pss_one (ps_aug (i := 1) sc_glasses_for.nd rfl (.inl rfl) pe_int ip_add)))
      (pss_one (ps_ret (pv 1)))))), ?_⟩
    rcases h with ⟨v, ⟨st, f, rfl, hs, hf, rfl⟩, k⟩ | ⟨C, hx, kE⟩
    · have hb := bl_le hs
      refine q_drop (ev_px (ea_cons (ev_var rfl) ea_nil) ⟨st, rfl, by omega, by omega, rfl⟩) fun H1 e1 => ?_
      refine q_asg ev_c fun H2 e2 => ?_
      refine q_while (fun m σ' H' => ∃ x : Nat, σ' = [some (.int (st : Int)), some (.int (x : Int))] ∧ x ≤ bl st ∧ (x = 0 ∨ R (bl st) (x - 1) < st) ∧ m = bl st - x ∧ Ex H H') (bl st) ⟨0, rfl, Nat.zero_le _, .inl rfl, rfl, e1.trans e2⟩ ?_
      rintro m σ' H' ⟨x, rfl, x1, x2, rfl, e3⟩
      refine ⟨_, et_not (et_B (ev_p (ea_cons (ev_var rfl) (ea_cons (ev_var rfl) (ea_cons (ev_bits (K := K) (ev_var rfl)) ea_nil))) ⟨st, x, bl st, rfl, by omega, by omega, rfl⟩)), fun hb H4 e4 => ?_, fun hb H4 e4 => ?_⟩
      · have hn : ¬ st ≤ R (bl st) x := fun z => by
          rw [decide_eq_true z] at hb
          cases hb
        have hx : x < bl st := by
          by_cases z : x < bl st
          · exact z
          · exact absurd (bl_enough (by omega)) hn
        refine ⟨fun σ2 H2 => σ2 = [some (.int (st : Int)), some (.int ((x + 1 : Nat) : Int))] ∧ Ex H H2, ?_, ?_⟩
        · rintro σ2 H2 ⟨rfl, e5⟩
          exact ⟨bl st - (x + 1), by omega, x + 1, rfl, hx, .inr (by rw [Nat.add_sub_cancel]; omega), rfl, e5⟩
        · exact s_aug (f := fun i j => i + j) rfl ev_c fun H5 e5 => ⟨rfl, (e3.trans e4).trans e5⟩
      · have hy : st ≤ R (bl st) x := by
          by_cases z : st ≤ R (bl st) x
          · exact z
          · rw [decide_eq_false z] at hb
            cases hb
        refine s_ret (ev_var rfl) fun H5 e5 => ?_
        have q := k H5 ((e3.trans e4).trans e5)
        have e : f = x := hf.uniq ⟨hy, x2⟩
        rw [e] at q
        exact q
    · obtain ⟨v, rfl, hb, rfl⟩ := hx
      exact q_dropR (er_px (ea_cons (ev_var rfl) ea_nil) (fun H1 e1 => ⟨_, rfl, hb.mono e1, rfl⟩) kE)
/-! ### the three answers -/
inductive Kd where
  | done | next (z : Int) | short (m : Int)
def Kd.o (A : Ad) (dx : Addr) : Kd → HO
  | .done => .ins A.a_Done dx []
  | .next z => .ins A.a_Next dx [("storey", .int z)]
  | .short m => .ins A.a_Short dx [("most", .int m)]
def KdAt (A : Ad) (H : Hp) (p : Addr) (k : Kd) : Prop := ∃ dx, H p = some (k.o A dx)
theorem KdAt.mono {A : Ad} {H H' : Hp} {p : Addr} {k : Kd} (h : KdAt A H p k) (e : Ex H H') : KdAt A H' p k := by
  obtain ⟨dx, h⟩ := h
  exact ⟨dx, e _ _ h⟩
def showsN (z : Int) (s g t : Nat) : Bool := if g = 0 ∨ t = 0 ∨ ¬ (1 ≤ z ∧ z ≤ (s : Int)) then false else if ((R (t - 1) (g - 1) : Nat) : Int) < z - 1 then false else decide ((s : Int) - z ≤ ((R (t - 1) g : Nat) : Int))
def Kd.shows (s g t : Nat) : Kd → Bool
  | .done => decide ((s : Int) = 0)
  | .next z => showsN z s g t
  | .short m => decide (m = ((R t g : Nat) : Int)) && decide (m < (s : Int))
def rShows (A : Ad) (k : Kd → Prop) (H : Hp) (vs : List V) (v : V) : Prop := ∃ (p : Addr) (kd : Kd) (s g t : Nat), vs = [.ref p, .int (s : Int), .int (g : Int), .int (t : Int)] ∧ KdAt A H p kd ∧ k kd ∧ t < 2 ^ 256 ∧ g ≤ 400 ∧ v = .bl (kd.shows s g t)
def isD : Kd → Prop
  | .done => True
  | _ => False
def isN : Kd → Prop
  | .next _ => True
  | _ => False
def isS : Kd → Prop
  | .short _ => True
  | _ => False
theorem ok_Next__init (T : Tx K mg A) : FnOk P w K mg base CX0 1 A.a_Next__init A.d_Next__init ["self", "storey"] (spInit A.a_Next "storey") := by
  refine T.f_Next__init.ok sc_Next__init (fun vs H Q E h => ?_) (fun cdv Ar outer s H vs Q E hr h => ?_)
  · obtain ⟨x, dx, v, rfl, _⟩ := h
    rfl
  · obtain ⟨x, dx, v, rfl, hx, k⟩ := h
    refine ⟨_, (pss_one (ps_fld (pv 0) (pv 1) rfl)), ?_⟩
    exact ⟨v, rfl, .ref x, rfl, x, A.a_Next, dx, [], rfl, hx, T.t_Next.cl, T.n_Next_storey, by decide, k⟩
theorem ok_Short__init (T : Tx K mg A) : FnOk P w K mg base CX0 1 A.a_Short__init A.d_Short__init ["self", "most"] (spInit A.a_Short "most") := by
  refine T.f_Short__init.ok sc_Short__init (fun vs H Q E h => ?_) (fun cdv Ar outer s H vs Q E hr h => ?_)
  · obtain ⟨x, dx, v, rfl, _⟩ := h
    rfl
  · obtain ⟨x, dx, v, rfl, hx, k⟩ := h
    refine ⟨_, (pss_one (ps_fld (pv 0) (pv 1) rfl)), ?_⟩
    exact ⟨v, rfl, .ref x, rfl, x, A.a_Short, dx, [], rfl, hx, T.t_Short.cl, T.n_Short_most, by decide, k⟩
theorem ok_Done_shows (T : Tx K mg A) : FnOk P w K mg base CX0 1 A.a_Done_shows A.d_Done_shows ["self", "storeys", "glasses", "tries"] (spH (rShows A isD)) := by
  refine T.f_Done_shows.ok sc_Done_shows (fun vs H Q E h => ?_) (fun cdv Ar outer s H vs Q E hr h => ?_)
  · obtain ⟨v, ⟨p, kd, s, g, t, rfl, _⟩, _⟩ := h
    rfl
  · obtain ⟨v, ⟨p, kd, st, g, t, rfl, hk, hi, ht, hg, rfl⟩, k⟩ := h
    refine ⟨_, (pss_one (ps_ret (pe_cmpR op_eq (pv 1) pe_int (nomark _)))), ?_⟩
    cases kd with
    | done => exact s_ret (ev_op (ev_var rfl) ev_c rv_eqI) fun H1 e1 => k H1 e1
    | next _ => exact hi.elim
    | short _ => exact hi.elim
theorem showsN_if (z : Int) (s g t : Nat) : showsN z s g t = if (decide ((g : Int) = 0) || (decide ((t : Int) = 0) || !(decide (1 ≤ z) && decide (z ≤ (s : Int))))) = true then false else if decide (((R (t - 1) (g - 1) : Nat) : Int) < z - 1) = true then false else decide ((s : Int) - z ≤ ((R (t - 1) g : Nat) : Int)) := by
  unfold showsN
  by_cases h : g = 0 ∨ t = 0 ∨ ¬ (1 ≤ z ∧ z ≤ (s : Int))
  · rw [if_pos h, if_pos]
    rcases h with h | h | h
    · rw [decide_eq_true (show (g : Int) = 0 by omega)]
      rfl
    · rw [decide_eq_true (show (t : Int) = 0 by omega)]
      simp
    · by_cases h1 : 1 ≤ z
      · rw [decide_eq_false (show ¬ z ≤ (s : Int) from fun q => h ⟨h1, q⟩)]
        simp
      · rw [decide_eq_false h1]
        simp
  · have h1 : 1 ≤ z ∧ z ≤ (s : Int) := by
      by_cases q : 1 ≤ z ∧ z ≤ (s : Int)
      · exact q
      · exact absurd (.inr (.inr q)) h
    have hc : ¬ (decide ((g : Int) = 0) || (decide ((t : Int) = 0) || !(decide (1 ≤ z) && decide (z ≤ (s : Int))))) = true := by
      rw [decide_eq_false (show ¬ (g : Int) = 0 by omega), decide_eq_false (show ¬ (t : Int) = 0 by omega), decide_eq_true h1.1, decide_eq_true h1.2]
      decide
    rw [if_neg h, if_neg hc]
    by_cases q : ((R (t - 1) (g - 1) : Nat) : Int) < z - 1
    · rw [if_pos q, if_pos (decide_eq_true q)]
    · rw [if_neg q, if_neg (by rw [decide_eq_false q]; exact Bool.false_ne_true)]
theorem ok_Next_shows (T : Tx K mg A) : FnOk P w K mg base CX0 2 A.a_Next_shows A.d_Next_shows ["self", "storeys", "glasses", "tries"] (spH (rShows A isN)) := by
  refine T.f_Next_shows.ok sc_Next_shows (fun vs H Q E h => ?_) (fun cdv Ar outer s H vs Q E hr h => ?_)
  · obtain ⟨v, ⟨p, kd, s, g, t, rfl, _⟩, _⟩ := h
    rfl
  · obtain ⟨v, ⟨p, kd, st, g, t, rfl, ⟨dx, hk⟩, hi, ht, hg, rfl⟩, k⟩ := h
    refine ⟨_, (pss_cons (ps_if (PW.pt (pw_or (pt_cmpR op_eq (pv 2) pe_int (nomark _)) (pw_or (pt_cmpR op_eq (pv 3) pe_int (nomark _)) (pw_or1 (pt_not (pt_chain op_le op_le pe_int (pe_fld (pv 0) rfl) (pv 1))))))) (pss_one (ps_ret pe_bl)) pss_nil)
      (pss_cons (ps_if (pt_cmpR op_gt (pe_op op_sub (pe_fld (pv 0) rfl) pe_int) (pe_call (ok_reached (P := P) (w := w) (base := base) T) (hr.mono (by decide)) (by rfl) T.g_reached T.f_reached.kp T.b_reached .nil pass0 (pa_cons (pe_op op_sub (pv 3) pe_int) (pa_cons (pe_op op_sub (pv 2) pe_int) pa_nil))) (nomark _)) (pss_one (ps_ret pe_bl)) pss_nil)
      (pss_one (ps_ret (pe_cmpR op_le (pe_op op_sub (pv 1) (pe_fld (pv 0) rfl)) (pe_call (ok_reached (P := P) (w := w) (base := base) T) (hr.mono (by decide)) (by rfl) T.g_reached T.f_reached.kp T.b_reached .nil pass0 (pa_cons (pe_op op_sub (pv 3) pe_int) (pa_cons (pv 2) pa_nil))) (nomark _)))))), ?_⟩
    cases kd with
    | done => exact hi.elim
    | short _ => exact hi.elim
    | next z =>
      have hk : H p = some (.ins A.a_Next dx [("storey", .int z)]) := hk
      have k : ∀ H2, Ex H H2 → Q (.bl (showsN z st g t)) H2 := k
      rw [showsN_if] at k
      have fld : ∀ {σ : L2.St} {H1 : Hp}, σ[0]? = some (some (.ref p)) → Ex H H1 → Ev (tFld K (tVar 0) "storey") σ H1 (.int z) := fun hs e1 => ev_fld (ev_var hs) (e1 _ _ hk) T.t_Next.cl T.n_Next_storey look_same
      refine q_when (et_or (et_test (ev_op (ev_var rfl) ev_c rv_eqI)) fun _ => et_or (et_test (ev_op (ev_var rfl) ev_c rv_eqI)) fun _ => et_not (et_test (ev_chain ev_c (fld rfl (Ex.refl H)) (ev_var rfl) rv_I0 fun _ => rv_I0))) (fun hb H1 e1 => ?_) fun hb H1 e1 => ?_
      · refine s_ret ev_c fun H2 e2 => ?_
        have q := k H2 (e1.trans e2)
        rw [if_pos hb] at q
        exact q
      · rw [if_neg (by rw [hb]; exact Bool.false_ne_true)] at k
        rw [Bool.or_eq_false_iff, Bool.or_eq_false_iff] at hb
        have g0 := of_decide_eq_false hb.1
        have t0 := of_decide_eq_false hb.2.1
        refine q_when (et_test (ev_op (ev_op (fld rfl e1) ev_c rv_I0) (ev_p (ea_cons (ev_op (ev_var rfl) ev_c rv_I0) (ea_cons (ev_op (ev_var rfl) ev_c rv_I0) ea_nil)) ⟨t - 1, g - 1, args2 (by omega) (by omega), by omega, by omega, rfl⟩) rv_I0)) (fun hb2 H2 e2 => ?_) fun hb2 H2 e2 => ?_
        · refine s_ret ev_c fun H3 e3 => ?_
          have q := k H3 ((e1.trans e2).trans e3)
          rw [if_pos hb2] at q
          exact q
        · rw [if_neg (by rw [hb2]; exact Bool.false_ne_true)] at k
          exact s_ret (ev_op (ev_op (ev_var rfl) (fld rfl (e1.trans e2)) rv_I0) (ev_p (ea_cons (ev_op (ev_var rfl) ev_c rv_I0) (ea_cons (ev_var rfl) ea_nil)) ⟨t - 1, g, args2 (by omega) rfl, by omega, by omega, rfl⟩) rv_I0) fun H3 e3 => k H3 ((e1.trans e2).trans e3)
theorem ok_Short_shows (T : Tx K mg A) : FnOk P w K mg base CX0 2 A.a_Short_shows A.d_Short_shows ["self", "storeys", "glasses", "tries"] (spH (rShows A isS)) := by
  refine T.f_Short_shows.ok sc_Short_shows (fun vs H Q E h => ?_) (fun cdv Ar outer s H vs Q E hr h => ?_)
  · obtain ⟨v, ⟨p, kd, s, g, t, rfl, _⟩, _⟩ := h
    rfl
  · obtain ⟨v, ⟨p, kd, st, g, t, rfl, ⟨dx, hk⟩, hi, ht, hg, rfl⟩, k⟩ := h
    refine ⟨_, (pss_one (ps_ret (pe_and (pe_cmpR op_eq (pe_fld (pv 0) rfl) (pe_call (ok_reached (P := P) (w := w) (base := base) T) (hr.mono (by decide)) (by rfl) T.g_reached T.f_reached.kp T.b_reached .nil pass0 (pa_cons (pv 3) (pa_cons (pv 2) pa_nil))) (nomark _)) (pe_one (pe_cmpR op_lt (pe_fld (pv 0) rfl) (pv 1) (nomark _)))))), ?_⟩
    cases kd with
    | done => exact hi.elim
    | next _ => exact hi.elim
    | short m =>
      have hk : H p = some (.ins A.a_Short dx [("most", .int m)]) := hk
      have fld : ∀ {σ : L2.St} {H1 : Hp}, σ[0]? = some (some (.ref p)) → Ex H H1 → Ev (tFld K (tVar 0) "most") σ H1 (.int m) := fun hs e1 => ev_fld (ev_var hs) (e1 _ _ hk) T.t_Short.cl T.n_Short_most look_same
      exact s_ret (ev_andV (ev_op (fld rfl (Ex.refl H)) (ev_p (ea_cons (ev_var rfl) (ea_cons (ev_var rfl) ea_nil)) ⟨t, g, rfl, ht, hg, rfl⟩) rv_eqI) fun _ => ev_op (fld rfl (Ex.refl H)) (ev_var rfl) rv_I0) fun H1 e1 => k H1 e1
/-- whatever the answer is, its own word -/
theorem no_shows1 {v : V} : ([("storey", v)] : List (Str × V)).lookup ("shows" : Str) = none := look_other (by decide +kernel)
theorem no_shows2 {v : V} : ([("most", v)] : List (Str × V)).lookup ("shows" : Str) = none := look_other (by decide +kernel)
theorem ev_shows {σ : L2.St} {H : Hp} {ta : TE} {p : Addr} {kd : Kd} {s g t : Nat} {E : XK} {tr : TA} (ha : Ev ta σ H (.ref p)) (hk : KdAt A H p kd) (h : EvA tr σ H [.int (s : Int), .int (g : Int), .int (t : Int)]) (ht : t < 2 ^ 256) (hg : g ≤ 400) :
    Ev (tAlt (tMeth A.a_Done "shows" (spH (rShows A isD)) [] E ta tr) (tAlt (tMeth A.a_Next "shows" (spH (rShows A isN)) [] E ta tr) (tMeth A.a_Short "shows" (spH (rShows A isS)) [] E ta tr))) σ H (.bl (kd.shows s g t)) := by
  obtain ⟨dx, hx⟩ := hk
  cases kd with
  | done => exact ev_alt1 (ev_meth ha hx rfl h fun H1 e1 => ⟨p, .done, s, g, t, rfl, ⟨dx, e1 _ _ hx⟩, trivial, ht, hg, rfl⟩)
  | next z => exact ev_alt2 (ev_alt1 (ev_meth ha hx no_shows1 h fun H1 e1 => ⟨p, .next z, s, g, t, rfl, ⟨dx, e1 _ _ hx⟩, trivial, ht, hg, rfl⟩))
  | short m => exact ev_alt2 (ev_alt2 (ev_meth ha hx no_shows2 h fun H1 e1 => ⟨p, .short m, s, g, t, rfl, ⟨dx, e1 _ _ hx⟩, trivial, ht, hg, rfl⟩))
/-! ### which answer it is -/
def Kd.d : Kd → Bool
  | .done => true
  | _ => false
def Kd.n : Kd → Bool
  | .next _ => true
  | _ => false
def Kd.s : Kd → Bool
  | .short _ => true
  | _ => false
def Kd.z : Kd → Int
  | .next z => z
  | _ => 0
def Kd.m : Kd → Int
  | .short m => m
  | _ => 0
theorem isi_d (T : Tx K mg A) {H : Hp} {p : Addr} {kd : Kd} (h : KdAt A H p kd) : RC (rIsi K) [.ref p, .ref A.a_Done] H (.bl kd.d) := by
  obtain ⟨dx, hx⟩ := h
  cases kd with
  | done => exact rc_isi_ins T.t_Done hx T.i_Done_Done
  | next z => exact rc_isi_ins T.t_Next hx T.i_Next_Done
  | short m => exact rc_isi_ins T.t_Short hx T.i_Short_Done
theorem isi_n (T : Tx K mg A) {H : Hp} {p : Addr} {kd : Kd} (h : KdAt A H p kd) : RC (rIsi K) [.ref p, .ref A.a_Next] H (.bl kd.n) := by
  obtain ⟨dx, hx⟩ := h
  cases kd with
  | done => exact rc_isi_ins T.t_Done hx T.i_Done_Next
  | next z => exact rc_isi_ins T.t_Next hx T.i_Next_Next
  | short m => exact rc_isi_ins T.t_Short hx T.i_Short_Next
theorem isi_s (T : Tx K mg A) {H : Hp} {p : Addr} {kd : Kd} (h : KdAt A H p kd) : RC (rIsi K) [.ref p, .ref A.a_Short] H (.bl kd.s) := by
  obtain ⟨dx, hx⟩ := h
  cases kd with
  | done => exact rc_isi_ins T.t_Done hx T.i_Done_Short
  | next z => exact rc_isi_ins T.t_Next hx T.i_Next_Short
  | short m => exact rc_isi_ins T.t_Short hx T.i_Short_Short
theorem isi_a (T : Tx K mg A) {H : Hp} {p : Addr} {kd : Kd} (h : KdAt A H p kd) : RC (rIsi K) [.ref p, .ref A.a_Answer] H (.bl true) := by
  obtain ⟨dx, hx⟩ := h
  cases kd with
  | done => exact rc_isi_ins T.t_Done hx T.i_Done_Answer
  | next z => exact rc_isi_ins T.t_Next hx T.i_Next_Answer
  | short m => exact rc_isi_ins T.t_Short hx T.i_Short_Answer
theorem fld_z (T : Tx K mg A) {σ : L2.St} {H : Hp} {ta : TE} {p : Addr} {kd : Kd} (h : KdAt A H p kd) (hn : kd.n = true) (ha : Ev ta σ H (.ref p)) : Ev (tFld K ta "storey") σ H (.int kd.z) := by
  obtain ⟨dx, hx⟩ := h
  cases kd with
  | done => cases hn
  | next z => exact ev_fld ha hx T.t_Next.cl T.n_Next_storey look_same
  | short m => cases hn
theorem fld_m (T : Tx K mg A) {σ : L2.St} {H : Hp} {ta : TE} {p : Addr} {kd : Kd} (h : KdAt A H p kd) (hn : kd.s = true) (ha : Ev ta σ H (.ref p)) : Ev (tFld K ta "most") σ H (.int kd.m) := by
  obtain ⟨dx, hx⟩ := h
  cases kd with
  | done => cases hn
  | next z => cases hn
  | short m => exact ev_fld ha hx T.t_Short.cl T.n_Short_most look_same
/-! ### next_of, told -/
def rNextOf (vs : List V) (v : V) : Prop := ∃ s g t : Nat, vs = [.int (s : Int), .int (g : Int), .int (t : Int)] ∧ 0 < g ∧ 0 < t ∧ t < 2 ^ 256 ∧ g ≤ 400 ∧ v = .int ((nx s g t : Nat) : Int)
theorem ok_next_of (T : Tx K mg A) : FnOk P w K mg base CX0 2 A.a_next_of A.d_next_of ["storeys", "glasses", "tries"] (spP rNextOf) := by
  refine T.f_next_of.ok sc_next_of (fun vs H Q E h => ?_) (fun cdv Ar outer s H vs Q E hr h => ?_)
  · obtain ⟨v, ⟨s, g, t, rfl, _⟩, _⟩ := h
    rfl
  · obtain ⟨v, ⟨st, g, t, rfl, g0, t0, ht, hg, rfl⟩, k⟩ := h
    refine ⟨_, (pss_one (ps_ret (pe_callB (call_min2 rfl) (by rfl) T.z_min (by decide +kernel) (pa_cons (pv 0) (pa_cons (pe_op op_add (pe_call (ok_reached (P := P) (w := w) (base := base) T) (hr.mono (by decide)) (by rfl) T.g_reached T.f_reached.kp T.b_reached .nil pass0 (pa_cons (pe_op op_sub (pv 2) pe_int) (pa_cons (pe_op op_sub (pv 1) pe_int) pa_nil))) pe_int) pa_nil))))), ?_⟩
    refine s_ret (ev_is (ev_cb (ea_cons (ev_var rfl) (ea_cons (ev_op (ev_p (ea_cons (ev_op (ev_var rfl) ev_c rv_I0) (ea_cons (ev_op (ev_var rfl) ev_c rv_I0) ea_nil)) ⟨t - 1, g - 1, args2 (by omega) (by omega), by omega, by omega, rfl⟩) ev_c rv_I0) ea_nil)) rc_min2) ?_) fun H1 e1 => k H1 e1
    exact congrArg V.int (min_nat st (R (t - 1) (g - 1) + 1))
def toldK (s g t : Nat) : Kd := if s = 0 then .done else if R t g < s then .short ((R t g : Nat) : Int) else .next ((nx s g t : Nat) : Int)
def PTold (A : Ad) (s g t : Nat) (v : V) (H : Hp) : Prop := ∃ p, v = .ref p ∧ KdAt A H p (toldK s g t)
def rTold (A : Ad) (_ : Hp) (vs : List V) (Post : V → Hp → Prop) : Prop := ∃ s g t : Nat, vs = [.int (s : Int), .int (g : Int), .int (t : Int)] ∧ s ≤ 10 ^ 60 ∧ g ≤ 300 ∧ t ≤ 10 ^ 40 ∧ Post = PTold A s g t
def xTold (A : Ad) (H : Hp) (vs : List V) (C : Addr) : Prop := ∃ s g t : V, vs = [s, g, t] ∧ ((Bad H s 0 (10 ^ 60) ∧ C = A.a_BadStoreys) ∨ ∃ n : Nat, s = .int (n : Int) ∧ n ≤ 10 ^ 60 ∧ ((Bad H g 0 300 ∧ C = A.a_BadGlasses) ∨ ∃ m : Nat, g = .int (m : Int) ∧ m ≤ 300 ∧ Bad H t 0 (10 ^ 40) ∧ C = A.a_BadTries))
theorem ok_told (T : Tx K mg A) : FnOk P w K mg base (L2.CX P w) 3 A.a_told A.d_told ["storeys", "glasses", "tries"] (spNX (rTold A) (xTold A)) := by
  refine okN T.f_told sc_told (fun vs H Q E h => ?_) (fun cdv Ar outer s H vs Q E hr h => ?_)
  · rcases h with ⟨Post, ⟨s, g, t, rfl, _⟩, _⟩ | ⟨C, ⟨s, g, t, rfl, _⟩, _⟩ <;> rfl
  · refine ⟨_, (pss_cons (ps_expr (pe_call (ok_check_storeys (P := P) (w := w) (base := base) T) (hr.mono (by decide)) (by rfl) T.g_check_storeys T.f_check_storeys.kp T.b_check_storeys .nil (L2.passes_call (L2.takes_of rfl rfl rfl rfl) (fun _ _ _ _ h => h)) (pa_cons (pv 0) pa_nil)))
      (pss_cons (ps_expr (pe_call (ok_check_glasses (P := P) (w := w) (base := base) T) (hr.mono (by decide)) (by rfl) T.g_check_glasses T.f_check_glasses.kp T.b_check_glasses .nil (L2.passes_call (L2.takes_of rfl rfl rfl rfl) (fun _ _ _ _ h => h)) (pa_cons (pv 1) pa_nil)))
      (pss_cons (ps_expr (pe_call (ok_check_tries (P := P) (w := w) (base := base) T) (hr.mono (by decide)) (by rfl) T.g_check_tries T.f_check_tries.kp T.b_check_tries .nil (L2.passes_call (L2.takes_of rfl rfl rfl rfl) (fun _ _ _ _ h => h)) (pa_cons (pv 2) pa_nil)))
      (pss_cons (ps_if (pt_cmpR op_eq (pv 0) pe_int (nomark _)) (pss_one (ps_ret (pe_makeN T.k_Done (by rfl) T.g_Done))) pss_nil)
      (pss_cons (ps_set (i := 3) sc_told.nd rfl (.inl rfl) (pe_call (ok_reached (P := P) (w := w) (base := base) T) (hr.mono (by decide)) (by rfl) T.g_reached T.f_reached.kp T.b_reached .nil pass0 (pa_cons (pv 2) (pa_cons (pv 1) pa_nil))))
      (pss_cons (ps_if (pt_cmpR op_lt (pv 3) (pv 0) (nomark _)) (pss_one (ps_ret (pe_make T.k_Short (ok_Short__init T) (hr.mono (by decide)) (by rfl) T.g_Short T.b_Short__init .nil pass0 (pa_cons (pv 3) pa_nil)))) pss_nil)
      (pss_one (ps_ret (pe_make T.k_Next (ok_Next__init T) (hr.mono (by decide)) (by rfl) T.g_Next T.b_Next__init .nil pass0 (pa_cons (pe_call (ok_next_of (P := P) (w := w) (base := base) T) (hr.mono (by decide)) (by rfl) T.g_next_of T.f_next_of.kp T.b_next_of .nil pass0 (pa_cons (pv 0) (pa_cons (pv 1) (pa_cons (pv 2) pa_nil)))) pa_nil)))))))))), ?_⟩
    rcases h with ⟨Post, ⟨st, g, t, rfl, hs, hg, ht, rfl⟩, k⟩ | ⟨C, hx, kE⟩
    · refine q_drop (ev_px (ea_cons (ev_var rfl) ea_nil) ⟨st, rfl, by omega, by omega, rfl⟩) fun H1 e1 => ?_
      refine q_drop (ev_px (ea_cons (ev_var rfl) ea_nil) ⟨g, rfl, by omega, by omega, rfl⟩) fun H2 e2 => ?_
      refine q_drop (ev_px (ea_cons (ev_var rfl) ea_nil) ⟨t, rfl, by omega, by omega, rfl⟩) fun H3 e3 => ?_
      have e13 := (e1.trans e2).trans e3
      unfold PTold toldK at k
      refine q_when (et_test (ev_op (ev_var rfl) ev_c rv_eqI)) (fun hb H4 e4 => ?_) fun hb H4 e4 => ?_
      · have c := of_decide_eq_true hb
        rw [if_pos (by omega)] at k
        exact s_retI ei_makeN fun p dx H5 _ e5 h5 => k _ H5 ((e13.trans e4).trans e5) ⟨p, rfl, dx, h5⟩
      · have c := of_decide_eq_false hb
        rw [if_neg (by omega)] at k
        refine q_asg (ev_p (ea_cons (ev_var rfl) (ea_cons (ev_var rfl) ea_nil)) ⟨t, g, rfl, by omega, by omega, rfl⟩) fun H5 e5 => ?_
        refine q_when (et_test (ev_op (ev_var rfl) (ev_var rfl) rv_I0)) (fun hb2 H6 e6 => ?_) fun hb2 H6 e6 => ?_
        · have c2 := of_decide_eq_true hb2
          rw [if_pos (by omega)] at k
          exact s_retI (ei_make (ea_cons (ev_var rfl) ea_nil)) fun p dx H7 _ e7 h7 => k _ H7 ((((e13.trans e4).trans e5).trans e6).trans e7) ⟨p, rfl, dx, h7⟩
        · have c2 := of_decide_eq_false hb2
          rw [if_neg (by omega)] at k
          have gt : 0 < g ∧ 0 < t := by
            by_cases z : t = 0 ∨ g = 0
            · have := R_zero_iff z
              omega
            · omega
          exact s_retI (ei_make (ea_cons (ev_p (ea_cons (ev_var rfl) (ea_cons (ev_var rfl) (ea_cons (ev_var rfl) ea_nil))) ⟨st, g, t, rfl, gt.1, gt.2, by omega, by omega, rfl⟩) ea_nil)) fun p dx H7 _ e7 h7 => k _ H7 ((((e13.trans e4).trans e5).trans e6).trans e7) ⟨p, rfl, dx, h7⟩
    · obtain ⟨v1, v2, v3, rfl, hx⟩ := hx
      rcases hx with ⟨hb, rfl⟩ | ⟨st, rfl, hs, hx⟩
      · exact q_dropR (er_px (ea_cons (ev_var rfl) ea_nil) (fun H1 e1 => ⟨_, rfl, hb.mono e1, rfl⟩) kE)
      refine q_drop (ev_px (ea_cons (ev_var rfl) ea_nil) ⟨st, rfl, by omega, by omega, rfl⟩) fun H1 e1 => ?_
      rcases hx with ⟨hb, rfl⟩ | ⟨g, rfl, hg, hx⟩
      · exact q_dropR (er_px (ea_cons (ev_var rfl) ea_nil) (fun H2 e2 => ⟨_, rfl, hb.mono (e1.trans e2), rfl⟩) fun H2 e2 => kE H2 (e1.trans e2))
      refine q_drop (ev_px (ea_cons (ev_var rfl) ea_nil) ⟨g, rfl, by omega, by omega, rfl⟩) fun H2 e2 => ?_
      obtain ⟨hb, rfl⟩ := hx
      exact q_dropR (er_px (ea_cons (ev_var rfl) ea_nil) (fun H3 e3 => ⟨_, rfl, hb.mono ((e1.trans e2).trans e3), rfl⟩) fun H3 e3 => kE H3 ((e1.trans e2).trans e3))
/-! ### answer, where there are more storeys than can be found -/
def sAns (t g x : Nat) : Str := if R (t - 1) (g - 1) < x - 1 then "breaks" else "holds"
def rAnswer (vs : List V) (v : V) : Prop := ∃ s g t x : Nat, vs = [.int (s : Int), .int (g : Int), .int (t : Int), .int (x : Int)] ∧ s ≤ 10 ^ 60 ∧ g ≤ 300 ∧ t ≤ 10 ^ 40 ∧ 0 < g ∧ 0 < t ∧ R t g < s ∧ 1 ≤ x ∧ x ≤ s ∧ v = .str (sAns t g x)
def xAnswer (A : Ad) (H : Hp) (vs : List V) (C : Addr) : Prop := ∃ s g t x : V, vs = [s, g, t, x] ∧ ((Bad H s 0 (10 ^ 60) ∧ C = A.a_BadStoreys) ∨ ∃ n : Nat, s = .int (n : Int) ∧ n ≤ 10 ^ 60 ∧ ((Bad H g 0 300 ∧ C = A.a_BadGlasses) ∨ ∃ m : Nat, g = .int (m : Int) ∧ m ≤ 300 ∧ ((Bad H t 0 (10 ^ 40) ∧ C = A.a_BadTries) ∨ ∃ u : Nat, t = .int (u : Int) ∧ u ≤ 10 ^ 40 ∧
  (((m = 0 ∨ u = 0) ∧ C = A.a_NoGlass) ∨ (0 < m ∧ 0 < u ∧ ((n ≤ R u m ∧ C = A.a_Found) ∨ (R u m < n ∧ Bad H x 1 (n : Int) ∧ C = A.a_BadStorey)))))))
theorem ok_answer (T : Tx K mg A) : FnOk P w K mg base (L2.CX P w) 3 A.a_answer A.d_answer ["storeys", "glasses", "tries", "storey"] (spPX rAnswer (xAnswer A)) := by
  refine okN T.f_answer sc_answer (fun vs H Q E h => ?_) (fun cdv Ar outer s H vs Q E hr h => ?_)
  · rcases h with ⟨v, ⟨s, g, t, x, rfl, _⟩, _⟩ | ⟨C, ⟨s, g, t, x, rfl, _⟩, _⟩ <;> rfl
  · refine ⟨_, (pss_cons (ps_expr (pe_call (ok_check_storeys (P := P) (w := w) (base := base) T) (hr.mono (by decide)) (by rfl) T.g_check_storeys T.f_check_storeys.kp T.b_check_storeys .nil (L2.passes_call (L2.takes_of rfl rfl rfl rfl) (fun _ _ _ _ h => h)) (pa_cons (pv 0) pa_nil)))
      (pss_cons (ps_expr (pe_call (ok_check_glasses (P := P) (w := w) (base := base) T) (hr.mono (by decide)) (by rfl) T.g_check_glasses T.f_check_glasses.kp T.b_check_glasses .nil (L2.passes_call (L2.takes_of rfl rfl rfl rfl) (fun _ _ _ _ h => h)) (pa_cons (pv 1) pa_nil)))
      (pss_cons (ps_expr (pe_call (ok_check_tries (P := P) (w := w) (base := base) T) (hr.mono (by decide)) (by rfl) T.g_check_tries T.f_check_tries.kp T.b_check_tries .nil (L2.passes_call (L2.takes_of rfl rfl rfl rfl) (fun _ _ _ _ h => h)) (pa_cons (pv 2) pa_nil)))
      (pss_cons (ps_if (PW.pt (pw_or (pt_cmpR op_eq (pv 1) pe_int (nomark _)) (pw_or1 (pt_cmpR op_eq (pv 2) pe_int (nomark _))))) (pss_one (L2.ps_raise rfl (L2.takes_of rfl rfl rfl rfl) (L2.pmk_own PySem.F.excBase_ValueError T.x_NoGlass T.g_NoGlass T.k_NoGlass (raises_own T.b_NoGlass T.y_NoGlass) (by rfl)))) pss_nil)
      (pss_cons (ps_if (pt_cmpR op_ge (pe_call (ok_reached (P := P) (w := w) (base := base) T) (hr.mono (by decide)) (by rfl) T.g_reached T.f_reached.kp T.b_reached .nil pass0 (pa_cons (pv 2) (pa_cons (pv 1) pa_nil))) (pv 0) (nomark _)) (pss_one (L2.ps_raise rfl (L2.takes_of rfl rfl rfl rfl) (L2.pmk_own PySem.F.excBase_ValueError T.x_Found T.g_Found T.k_Found (raises_own T.b_Found T.y_Found) (by rfl)))) pss_nil)
      (pss_cons (ps_if (pt_not (pt_val (pe_call (ok_is_number (P := P) (w := w) (base := base) T) (hr.mono (by decide)) (by rfl) T.g_is_number T.f_is_number.kp T.b_is_number .nil pass0 (pa_cons (pv 3) (pa_cons pe_int (pa_cons (pv 0) pa_nil)))))) (pss_one (L2.ps_raise rfl (L2.takes_of rfl rfl rfl rfl) (L2.pmk_own PySem.F.excBase_ValueError T.x_BadStorey T.g_BadStorey T.k_BadStorey (raises_own T.b_BadStorey T.y_BadStorey) (by rfl)))) pss_nil)
      (pss_cons (ps_if (pt_cmpR op_gt (pe_op op_sub (pv 3) pe_int) (pe_call (ok_reached (P := P) (w := w) (base := base) T) (hr.mono (by decide)) (by rfl) T.g_reached T.f_reached.kp T.b_reached .nil pass0 (pa_cons (pe_op op_sub (pv 2) pe_int) (pa_cons (pe_op op_sub (pv 1) pe_int) pa_nil))) (nomark _)) (pss_one (ps_ret pe_str)) pss_nil)
      (pss_one (ps_ret pe_str))))))))), ?_⟩
    rcases h with ⟨v, ⟨st, g, t, x, rfl, hs, hg, ht, g0, t0, hR, x1, x2, rfl⟩, k⟩ | ⟨C, hx, kE⟩
    · refine q_drop (ev_px (ea_cons (ev_var rfl) ea_nil) ⟨st, rfl, by omega, by omega, rfl⟩) fun H1 e1 => ?_
      refine q_drop (ev_px (ea_cons (ev_var rfl) ea_nil) ⟨g, rfl, by omega, by omega, rfl⟩) fun H2 e2 => ?_
      refine q_drop (ev_px (ea_cons (ev_var rfl) ea_nil) ⟨t, rfl, by omega, by omega, rfl⟩) fun H3 e3 => ?_
      refine q_when (et_or (et_test (ev_op (ev_var rfl) ev_c rv_eqI)) fun _ => et_test (ev_op (ev_var rfl) ev_c rv_eqI)) (fun hb => absurd hb ?_) fun _ H4 e4 => ?_
      · rw [decide_eq_false (show ¬ (g : Int) = 0 by omega), decide_eq_false (show ¬ (t : Int) = 0 by omega)]
        decide
      refine q_when (et_test (ev_op (ev_p (ea_cons (ev_var rfl) (ea_cons (ev_var rfl) ea_nil)) ⟨t, g, rfl, by omega, by omega, rfl⟩) (ev_var rfl) rv_I0)) (fun hb => absurd (of_decide_eq_true hb) (by omega)) fun _ H5 e5 => ?_
      refine q_when (et_not (et_B (ev_h (ea_cons (ev_var rfl) (ea_cons ev_c (ea_cons (ev_var rfl) ea_nil))) fun H6 e6 => good_num (show (1 : Int) ≤ (x : Int) by omega) (show (x : Int) ≤ (st : Int) by omega)))) (fun hb => absurd hb ?_) fun _ H6 e6 => ?_
      · decide
      have eH := ((((e1.trans e2).trans e3).trans e4).trans e5).trans e6
      refine q_when (et_test (ev_op (ev_op (ev_var rfl) ev_c rv_I0) (ev_p (ea_cons (ev_op (ev_var rfl) ev_c rv_I0) (ea_cons (ev_op (ev_var rfl) ev_c rv_I0) ea_nil)) ⟨t - 1, g - 1, args2 (by omega) (by omega), by omega, by omega, rfl⟩) rv_I0)) (fun hb H7 e7 => ?_) fun hb H7 e7 => ?_
      · refine s_ret ev_c fun H8 e8 => ?_
        have q := k H8 ((eH.trans e7).trans e8)
        have c := of_decide_eq_true hb
        unfold sAns at q
        rw [if_pos (by omega)] at q
        exact q
      · refine s_ret ev_c fun H8 e8 => ?_
        have q := k H8 ((eH.trans e7).trans e8)
        have c := of_decide_eq_false hb
        unfold sAns at q
        rw [if_neg (by omega)] at q
        exact q
    · obtain ⟨v1, v2, v3, v4, rfl, hx⟩ := hx
      rcases hx with ⟨hb, rfl⟩ | ⟨st, rfl, hs, hx⟩
      · exact q_dropR (er_px (ea_cons (ev_var rfl) ea_nil) (fun H1 e1 => ⟨_, rfl, hb.mono e1, rfl⟩) kE)
      refine q_drop (ev_px (ea_cons (ev_var rfl) ea_nil) ⟨st, rfl, by omega, by omega, rfl⟩) fun H1 e1 => ?_
      rcases hx with ⟨hb, rfl⟩ | ⟨g, rfl, hg, hx⟩
      · exact q_dropR (er_px (ea_cons (ev_var rfl) ea_nil) (fun H2 e2 => ⟨_, rfl, hb.mono (e1.trans e2), rfl⟩) fun H2 e2 => kE H2 (e1.trans e2))
      refine q_drop (ev_px (ea_cons (ev_var rfl) ea_nil) ⟨g, rfl, by omega, by omega, rfl⟩) fun H2 e2 => ?_
      rcases hx with ⟨hb, rfl⟩ | ⟨t, rfl, ht, hx⟩
      · exact q_dropR (er_px (ea_cons (ev_var rfl) ea_nil) (fun H3 e3 => ⟨_, rfl, hb.mono ((e1.trans e2).trans e3), rfl⟩) fun H3 e3 => kE H3 ((e1.trans e2).trans e3))
      refine q_drop (ev_px (ea_cons (ev_var rfl) ea_nil) ⟨t, rfl, by omega, by omega, rfl⟩) fun H3 e3 => ?_
      have e13 := (e1.trans e2).trans e3
      rcases hx with ⟨hb, rfl⟩ | ⟨g0, t0, hx⟩
      · refine q_when (et_or (et_test (ev_op (ev_var rfl) ev_c rv_eqI)) fun _ => et_test (ev_op (ev_var rfl) ev_c rv_eqI)) (fun _ H4 e4 => kE H4 (e13.trans e4)) fun hc => absurd hc ?_
        rcases hb with hb | hb
        · subst hb
          simp
        · subst hb
          simp
      refine q_when (et_or (et_test (ev_op (ev_var rfl) ev_c rv_eqI)) fun _ => et_test (ev_op (ev_var rfl) ev_c rv_eqI)) (fun hc => absurd hc ?_) fun _ H4 e4 => ?_
      · rw [decide_eq_false (show ¬ (g : Int) = 0 by omega), decide_eq_false (show ¬ (t : Int) = 0 by omega)]
        decide
      rcases hx with ⟨hb, rfl⟩ | ⟨hR, hb, rfl⟩
      · exact q_when (et_test (ev_op (ev_p (ea_cons (ev_var rfl) (ea_cons (ev_var rfl) ea_nil)) ⟨t, g, rfl, by omega, by omega, rfl⟩) (ev_var rfl) rv_I0)) (fun _ H5 e5 => kE H5 ((e13.trans e4).trans e5)) fun hc => absurd (of_decide_eq_false hc) (by omega)
      refine q_when (et_test (ev_op (ev_p (ea_cons (ev_var rfl) (ea_cons (ev_var rfl) ea_nil)) ⟨t, g, rfl, by omega, by omega, rfl⟩) (ev_var rfl) rv_I0)) (fun hc => absurd (of_decide_eq_true hc) (by omega)) fun _ H5 e5 => ?_
      have e15 := (e13.trans e4).trans e5
      exact q_when (et_not (et_B (ev_h (ea_cons (ev_var rfl) (ea_cons ev_c (ea_cons (ev_var rfl) ea_nil))) fun H6 e6 => bad_num (hb.mono (e15.trans e6))))) (fun _ H6 e6 => kE H6 (e15.trans e6)) fun hc => absurd hc (by decide)
/-! ### tried -/
def PPlay (H : Hp) (s g x : Nat) (v : V) (H2 : Hp) : Prop := ∃ p, v = .ref p ∧ H p = none ∧ ListT H2 p ((play s g x).map prV)
def rTried (H : Hp) (vs : List V) (Post : V → Hp → Prop) : Prop := ∃ s g x : Nat, vs = [.int (s : Int), .int (g : Int), .int (x : Int)] ∧ s ≤ 10 ^ 60 ∧ g ≤ 300 ∧ (0 < g ∨ s = 0) ∧ fw s g ≤ 1000 ∧ x ≤ s ∧ Post = PPlay H s g x
def xTried (A : Ad) (H : Hp) (vs : List V) (C : Addr) : Prop := ∃ s g x : V, vs = [s, g, x] ∧ (xFound A H [s, g] C ∨ ∃ n m : Nat, s = .int (n : Int) ∧ g = .int (m : Int) ∧ n ≤ 10 ^ 60 ∧ m ≤ 300 ∧ (0 < m ∨ n = 0) ∧ ((1000 < fw n m ∧ C = A.a_Long) ∨ (fw n m ≤ 1000 ∧ Bad H x 0 (n : Int) ∧ C = A.a_BadStorey)))
theorem ok_tried (T : Tx K mg A) : FnOk P w K mg base (L2.CX P w) 4 A.a_tried A.d_tried ["storeys", "glasses", "stands"] (spNX rTried (xTried A)) := by
  refine okN T.f_tried sc_tried (fun vs H Q E h => ?_) (fun cdv Ar outer s H vs Q E hr h => ?_)
  · rcases h with ⟨Post, ⟨s, g, x, rfl, _⟩, _⟩ | ⟨C, ⟨s, g, x, rfl, _⟩, _⟩ <;> rfl
  · refine ⟨_, (pss_cons (ps_expr (pe_call (ok_check_found (P := P) (w := w) (base := base) T) (hr.mono (by decide)) (by rfl) T.g_check_found T.f_check_found.kp T.b_check_found .nil (L2.passes_call (L2.takes_of rfl rfl rfl rfl) (fun _ _ _ _ h => h)) (pa_cons (pv 0) (pa_cons (pv 1) pa_nil))))
      (pss_cons (ps_set (i := 3) sc_tried.nd rfl (.inl rfl) (pe_call (ok_least_tries (P := P) (w := w) (base := base) T) (hr.mono (by decide)) (by rfl) T.g_least_tries T.f_least_tries.kp T.b_least_tries .nil pass0 (pa_cons (pv 0) (pa_cons (pv 1) pa_nil))))
      (pss_cons (ps_if (pt_cmpR op_gt (pv 3) (pe_glob (v := .int 1000) (by rfl) T.c_MOST_PLAYED.choose_spec ⟨_, rfl⟩) (nomark _)) (pss_one (L2.ps_raise rfl (L2.takes_of rfl rfl rfl rfl) (L2.pmk_own PySem.F.excBase_ValueError T.x_Long T.g_Long T.k_Long (raises_own T.b_Long T.y_Long) (by rfl)))) pss_nil)
      (pss_cons (ps_if (pt_not (pt_val (pe_call (ok_is_number (P := P) (w := w) (base := base) T) (hr.mono (by decide)) (by rfl) T.g_is_number T.f_is_number.kp T.b_is_number .nil pass0 (pa_cons (pv 2) (pa_cons pe_int (pa_cons (pv 0) pa_nil)))))) (pss_one (L2.ps_raise rfl (L2.takes_of rfl rfl rfl rfl) (L2.pmk_own PySem.F.excBase_ValueError T.x_BadStorey T.g_BadStorey T.k_BadStorey (raises_own T.b_BadStorey T.y_BadStorey) (by rfl)))) pss_nil)
      (pss_cons (ps_set (i := 4) sc_tried.nd rfl (.inl rfl) (pe_lst pa_nil))
      (pss_cons (ps_set (i := 5) sc_tried.nd rfl (.inl rfl) pe_int)
      (pss_cons (ps_set (i := 6) sc_tried.nd rfl (.inl rfl) (pv 0))
      (pss_cons (ps_set (i := 7) sc_tried.nd rfl (.inl rfl) (pv 1))
      (pss_cons (ps_while PassesOwn.leaving (pt_cmpR op_lt (pv 5) (pv 6) (nomark _)) (pss_cons (ps_set (i := 8) sc_tried.nd rfl (.inl rfl) (pe_op op_add (pv 5) (pe_call (ok_next_of (P := P) (w := w) (base := base) T) (hr.mono (by decide)) (by rfl) T.g_next_of T.f_next_of.kp T.b_next_of .nil pass0 (pa_cons (pe_op op_sub (pv 6) (pv 5)) (pa_cons (pv 7) (pa_cons (pv 3) pa_nil))))))
      (pss_cons (ps_aug (i := 3) sc_tried.nd rfl (.inl rfl) pe_int ip_sub)
      (pss_cons (ps_set (i := 9) sc_tried.nd rfl (.inl rfl) (pe_cmpR op_gt (pv 8) (pv 2) (nomark _)))
      (pss_cons (ps_if (pt_val (pv 9)) (pss_cons (ps_set (i := 6) sc_tried.nd rfl (.inl rfl) (pe_op op_sub (pv 8) pe_int))
      (pss_one (ps_aug (i := 7) sc_tried.nd rfl (.inl rfl) pe_int ip_sub))) (pss_one (ps_set (i := 5) sc_tried.nd rfl (.inl rfl) (pv 8))))
      (pss_one (ps_expr (pe_bm PySem.F.plainAttrs_list PySem.F.slot_list_append PySem.F.type_list_append mt_append (pv 4) (pa_cons (pe_tup (pa_cons (pv 8) (pa_cons (pv 9) pa_nil))) pa_nil)))))))))
      (pss_one (ps_ret (pv 4)))))))))))), ?_⟩
    rcases h with ⟨Post, ⟨st, g, x, rfl, hs, hg, hc, hT, hx, rfl⟩, k⟩ | ⟨C, hx, kE⟩
    · refine q_drop (ev_px (ea_cons (ev_var rfl) (ea_cons (ev_var rfl) ea_nil)) ⟨st, g, rfl, hs, hg, hc, rfl⟩) fun H1 e1 => ?_
      refine q_asg (ev_p (ea_cons (ev_var rfl) (ea_cons (ev_var rfl) ea_nil)) ⟨st, g, rfl, hs, by omega, hc, rfl⟩) fun H2 e2 => ?_
      refine q_when (et_test (ev_op (ev_var rfl) ev_c rv_I0)) (fun hb => absurd (of_decide_eq_true hb) (by omega)) fun _ H3 e3 => ?_
      refine q_when (et_not (et_B (ev_h (ea_cons (ev_var rfl) (ea_cons ev_c (ea_cons (ev_var rfl) ea_nil))) fun H6 e6 => good_num (show (0 : Int) ≤ (x : Int) by omega) (show (x : Int) ≤ (st : Int) by omega)))) (fun hb => absurd hb ?_) fun _ H4 e4 => ?_
      · decide
      have e14 := ((e1.trans e2).trans e3).trans e4
      refine q_asgL (el_lst ea_nil (by decide)) fun f H5 hf e5 h5 => ?_
      refine q_asg ev_c fun H6 e6 => q_asg (ev_var rfl) fun H7 e7 => q_asg (ev_var rfl) fun H8 e8 => ?_
      have hHf : H f = none := fresh_back e14 hf
      have hlen : (play st g x).length ≤ 1000 := Nat.le_trans (pl_len _ _ _ _ _) hT
      refine q_while (fun m σ' H' => ∃ (t lo hi left : Nat) (y8 y9 : Option V) (pre : List (Nat × Bool)) (as : List Addr), σ' = [some (.int (st : Int)), some (.int (g : Int)), some (.int (x : Int)), some (.int (t : Int)), some (.ref f), some (.int (lo : Int)), some (.int (hi : Int)), some (.int (left : Int)), y8, y9] ∧
        At x g t lo hi left ∧ t ≤ 1000 ∧ play st g x = pre ++ pl x t lo hi left ∧ H' f = some (.lst (as.map V.ref)) ∧ TupsAt H' as (pre.map prV) ∧ Ex H H' ∧ m = t) (fw st g)
        ⟨fw st g, 0, st, g, none, none, [], [], rfl, At.start hc hx, hT, rfl, e8 _ _ (e7 _ _ (e6 _ _ h5)), .nil, (((e14.trans e5).trans e6).trans e7).trans e8, rfl⟩ ?_
      rintro m σ' H' ⟨t, lo, hi, left, y8, y9, pre, as, rfl, hA, ht, hpl, hf', hT', eH, rfl⟩
      refine ⟨_, et_test (ev_op (ev_var rfl) (ev_var rfl) rv_I0), fun hb H9 e9 => ?_, fun hb H9 e9 => ?_⟩
      · have hlt : lo < hi := by have := of_decide_eq_true hb; omega
        obtain ⟨t0, l0⟩ := hA.pos hlt
        have hgl := hA.gl
        have hpre : pre.length + (pl x m lo hi left).length ≤ 1000 := by
          rw [hpl, List.length_append] at hlen
          exact hlen
        refine ⟨fun σ2 H2 => ∃ (lo' hi' left' : Nat) (y8 y9 : Option V) (pre' : List (Nat × Bool)) (as' : List Addr), σ2 = [some (.int (st : Int)), some (.int (g : Int)), some (.int (x : Int)), some (.int ((m - 1 : Nat) : Int)), some (.ref f), some (.int (lo' : Int)), some (.int (hi' : Int)), some (.int (left' : Int)), y8, y9] ∧
          At x g (m - 1) lo' hi' left' ∧ play st g x = pre' ++ pl x (m - 1) lo' hi' left' ∧ H2 f = some (.lst (as'.map V.ref)) ∧ TupsAt H2 as' (pre'.map prV) ∧ Ex H H2, ?_, ?_⟩
        · rintro σ2 H2 ⟨lo', hi', left', y8, y9, pre', as', rfl, q1, q2, q3, q4, q5⟩
          exact ⟨m - 1, by omega, m - 1, lo', hi', left', y8, y9, pre', as', rfl, q1, by omega, q2, q3, q4, q5, rfl⟩
        · have hst := pl_step hA hlt
          refine q_asg (v := .int ((lo + nx (hi - lo) left m : Nat) : Int)) (ev_is (ev_op (ev_var rfl) (ev_p (ea_cons (ev_op (ev_var rfl) (ev_var rfl) rv_I0) (ea_cons (ev_var rfl) (ea_cons (ev_var rfl) ea_nil))) ⟨hi - lo, left, m, args3 (by omega) rfl rfl, l0, t0, by omega, by omega, rfl⟩) rv_I0) (congrArg V.int (by omega))) fun H10 e10 => ?_
          generalize hy : lo + nx (hi - lo) left m = y at hst
          have np := nx_pos (s := hi - lo) (g := left) (t := m) (by omega)
          refine q_augE (f := fun i j => i - j) rfl ev_c (show (m : Int) - 1 = ((m - 1 : Nat) : Int) by omega) fun H11 e11 => ?_
          refine q_asg (ev_op (ev_var rfl) (ev_var rfl) rv_I0) fun H12 e12 => ?_
          have e9to12 := ((e9.trans e10).trans e11).trans e12
          by_cases c : x < y
          · rw [if_pos c] at hst
            have hA' := hA.broke hlt (by rw [hy]; exact c)
            rw [hy] at hA'
            refine q_if (et_B (ev_var rfl)) (fun _ H13 e13 => ?_) fun hb2 => absurd (of_decide_eq_false hb2) (by omega)
            refine q_asg (v := .int ((y - 1 : Nat) : Int)) (ev_is (ev_op (ev_var rfl) ev_c rv_I0) (congrArg V.int (by omega))) fun H14 e14 => ?_
            refine s_augE (f := fun i j => i - j) rfl ev_c (show (left : Int) - 1 = ((left - 1 : Nat) : Int) by omega) fun H15 e15 => ?_
            have e9to15 := ((e9to12.trans e13).trans e14).trans e15
            have hf15 := e9to15 _ _ hf'
            refine s_appU hf15 (ev_var rfl) (eu_tup (ea_cons (ev_var rfl) (ea_cons (ev_var rfl) ea_nil)) (by show 2 ≤ 100000; decide)) (by rw [List.length_map, hT'.1, List.length_map]; omega) fun a H16 _ e16 h16 => ?_
            refine ⟨lo, y - 1, left - 1, _, _, pre ++ [(y, true)], as ++ [a], rfl, hA', ?_, ?_, ?_, Ex.mut ((eH.trans e9to15).trans e16) hHf⟩
            · rw [hpl, hst]
              simp
            · rw [upd_same, List.map_append]
              rfl
            · rw [List.map_append]
              have h16 : H16 a = some (.tup (prV (y, true))) := by
                rw [h16, decide_eq_true (show (x : Int) < (y : Int) by omega)]
                rfl
              exact ((hT'.mono (e9to15.trans e16)).snoc h16).upd (e16 _ _ hf15)
          · rw [if_neg c] at hst
            have hA' := hA.held hlt (by rw [hy]; exact c)
            rw [hy] at hA'
            refine q_if (et_B (ev_var rfl)) (fun hb2 => absurd (of_decide_eq_true hb2) (by omega)) fun _ H13 e13 => ?_
            refine s_asg (ev_var rfl) fun H14 e14 => ?_
            have e9to15 := (e9to12.trans e13).trans e14
            have hf15 := e9to15 _ _ hf'
            refine s_appU hf15 (ev_var rfl) (eu_tup (ea_cons (ev_var rfl) (ea_cons (ev_var rfl) ea_nil)) (by show 2 ≤ 100000; decide)) (by rw [List.length_map, hT'.1, List.length_map]; omega) fun a H16 _ e16 h16 => ?_
            refine ⟨y, hi, left, _, _, pre ++ [(y, false)], as ++ [a], rfl, hA', ?_, ?_, ?_, Ex.mut ((eH.trans e9to15).trans e16) hHf⟩
            · rw [hpl, hst]
              simp
            · rw [upd_same, List.map_append]
              rfl
            · rw [List.map_append]
              have h16 : H16 a = some (.tup (prV (y, false))) := by
                rw [h16, decide_eq_false (show ¬ (x : Int) < (y : Int) by omega)]
                rfl
              exact ((hT'.mono (e9to15.trans e16)).snoc h16).upd (e16 _ _ hf15)
      · have hge : ¬ lo < hi := by have := of_decide_eq_false hb; omega
        rw [pl_end x hge, List.append_nil] at hpl
        refine s_ret (ev_var rfl) fun H10 e10 => ?_
        refine k _ H10 ((eH.trans e9).trans e10) ⟨f, rfl, hHf, as, e10 _ _ (e9 _ _ hf'), ?_⟩
        rw [hpl]
        exact hT'.mono (e9.trans e10)
    · obtain ⟨v1, v2, v3, rfl, hx⟩ := hx
      rcases hx with hx | ⟨st, g, rfl, rfl, hs, hg, hc, hx⟩
      · exact q_dropR (er_px (ea_cons (ev_var rfl) (ea_cons (ev_var rfl) ea_nil)) (fun H1 e1 => hx.mono e1) kE)
      refine q_drop (ev_px (ea_cons (ev_var rfl) (ea_cons (ev_var rfl) ea_nil)) ⟨st, g, rfl, hs, hg, hc, rfl⟩) fun H1 e1 => ?_
      refine q_asg (ev_p (ea_cons (ev_var rfl) (ea_cons (ev_var rfl) ea_nil)) ⟨st, g, rfl, hs, by omega, hc, rfl⟩) fun H2 e2 => ?_
      rcases hx with ⟨hT, rfl⟩ | ⟨hT, hb, rfl⟩
      · exact q_when (et_test (ev_op (ev_var rfl) ev_c rv_I0)) (fun _ H3 e3 => kE H3 ((e1.trans e2).trans e3)) fun hc => absurd (of_decide_eq_false hc) (by omega)
      refine q_when (et_test (ev_op (ev_var rfl) ev_c rv_I0)) (fun hb => absurd (of_decide_eq_true hb) (by omega)) fun _ H3 e3 => ?_
      have e13 := (e1.trans e2).trans e3
      exact q_when (et_not (et_B (ev_h (ea_cons (ev_var rfl) (ea_cons ev_c (ea_cons (ev_var rfl) ea_nil))) fun H6 e6 => bad_num (hb.mono (e13.trans e6))))) (fun _ H6 e6 => kE H6 (e13.trans e6)) fun hc => absurd hc (by decide)
/-! ### the seven refusals -/
def errOf (A : Ad) : Nat → Addr
  | 0 => A.a_BadStoreys
  | 1 => A.a_BadGlasses
  | 2 => A.a_BadTries
  | 3 => A.a_BadStorey
  | 4 => A.a_NoGlass
  | 5 => A.a_Found
  | _ => A.a_Long
theorem kit_err (T : Tx K mg A) : ∀ c k, c < 7 → k < 7 → PySem.W.kitOne K (.ref (errOf A c)) (.ref (errOf A k)) = some (decide (c = k))
  | 0, 0, _, _ => T.i_BadStoreys_BadStoreys
  | 0, 1, _, _ => T.i_BadStoreys_BadGlasses
  | 0, 2, _, _ => T.i_BadStoreys_BadTries
  | 0, 3, _, _ => T.i_BadStoreys_BadStorey
  | 0, 4, _, _ => T.i_BadStoreys_NoGlass
  | 0, 5, _, _ => T.i_BadStoreys_Found
  | 0, 6, _, _ => T.i_BadStoreys_Long
  | 1, 0, _, _ => T.i_BadGlasses_BadStoreys
  | 1, 1, _, _ => T.i_BadGlasses_BadGlasses
  | 1, 2, _, _ => T.i_BadGlasses_BadTries
  | 1, 3, _, _ => T.i_BadGlasses_BadStorey
  | 1, 4, _, _ => T.i_BadGlasses_NoGlass
  | 1, 5, _, _ => T.i_BadGlasses_Found
  | 1, 6, _, _ => T.i_BadGlasses_Long
  | 2, 0, _, _ => T.i_BadTries_BadStoreys
  | 2, 1, _, _ => T.i_BadTries_BadGlasses
  | 2, 2, _, _ => T.i_BadTries_BadTries
  | 2, 3, _, _ => T.i_BadTries_BadStorey
  | 2, 4, _, _ => T.i_BadTries_NoGlass
  | 2, 5, _, _ => T.i_BadTries_Found
  | 2, 6, _, _ => T.i_BadTries_Long
  | 3, 0, _, _ => T.i_BadStorey_BadStoreys
  | 3, 1, _, _ => T.i_BadStorey_BadGlasses
  | 3, 2, _, _ => T.i_BadStorey_BadTries
  | 3, 3, _, _ => T.i_BadStorey_BadStorey
  | 3, 4, _, _ => T.i_BadStorey_NoGlass
  | 3, 5, _, _ => T.i_BadStorey_Found
  | 3, 6, _, _ => T.i_BadStorey_Long
  | 4, 0, _, _ => T.i_NoGlass_BadStoreys
  | 4, 1, _, _ => T.i_NoGlass_BadGlasses
  | 4, 2, _, _ => T.i_NoGlass_BadTries
  | 4, 3, _, _ => T.i_NoGlass_BadStorey
  | 4, 4, _, _ => T.i_NoGlass_NoGlass
  | 4, 5, _, _ => T.i_NoGlass_Found
  | 4, 6, _, _ => T.i_NoGlass_Long
  | 5, 0, _, _ => T.i_Found_BadStoreys
  | 5, 1, _, _ => T.i_Found_BadGlasses
  | 5, 2, _, _ => T.i_Found_BadTries
  | 5, 3, _, _ => T.i_Found_BadStorey
  | 5, 4, _, _ => T.i_Found_NoGlass
  | 5, 5, _, _ => T.i_Found_Found
  | 5, 6, _, _ => T.i_Found_Long
  | 6, 0, _, _ => T.i_Long_BadStoreys
  | 6, 1, _, _ => T.i_Long_BadGlasses
  | 6, 2, _, _ => T.i_Long_BadTries
  | 6, 3, _, _ => T.i_Long_BadStorey
  | 6, 4, _, _ => T.i_Long_NoGlass
  | 6, 5, _, _ => T.i_Long_Found
  | 6, 6, _, _ => T.i_Long_Long
  | c + 7, _, h, _ => absurd h (by omega)
  | _, k + 7, _, h => absurd h (by omega)
theorem exc_err (T : Tx K mg A) : ∀ c, c < 7 → ExcC K (errOf A c)
  | 0, _ => T.e_BadStoreys
  | 1, _ => T.e_BadGlasses
  | 2, _ => T.e_BadTries
  | 3, _ => T.e_BadStorey
  | 4, _ => T.e_NoGlass
  | 5, _ => T.e_Found
  | 6, _ => T.e_Long
  | c + 7, h => absurd h (by omega)
theorem exm_err (T : Tx K mg A) : ∀ c, c < 7 → PySem.W.exmOne K (.ref (errOf A c)) (.ref A.a_GlassError) = some true
  | 0, _ => T.m_BadStoreys
  | 1, _ => T.m_BadGlasses
  | 2, _ => T.m_BadTries
  | 3, _ => T.m_BadStorey
  | 4, _ => T.m_NoGlass
  | 5, _ => T.m_Found
  | 6, _ => T.m_Long
  | c + 7, h => absurd h (by omega)
/-! ### _law_word -/
open PySem.Spec PyProof.Rows in
def qLam (x : Str) (sc : Scope) : Str := (envOfC x sc 0 0 .none).qual ++ "<lambda>"
def tsL (A : Ad) : List (Addr × Str) := [(A.p_law_counts_right, qLam "_law_counts_right" (defScope s_law_counts_right)), (A.p_law_told_right, qLam "_law_told_right" (defScope s_law_told_right)), (A.p_law_plays_right, qLam "_law_plays_right" (defScope s_law_plays_right))]
theorem tl_law_counts_right_m : (A.p_law_counts_right, qLam "_law_counts_right" (defScope s_law_counts_right)) ∈ tsL A := List.mem_cons_self
theorem tl_law_told_right_m : (A.p_law_told_right, qLam "_law_told_right" (defScope s_law_told_right)) ∈ tsL A := List.mem_cons_of_mem _ List.mem_cons_self
theorem tl_law_plays_right_m : (A.p_law_plays_right, qLam "_law_plays_right" (defScope s_law_plays_right)) ∈ tsL A := List.mem_cons_of_mem _ (List.mem_cons_of_mem _ List.mem_cons_self)
theorem tsL_of {p : Addr × Str} (h : p ∈ tsL A) : p = (A.p_law_counts_right, qLam "_law_counts_right" (defScope s_law_counts_right)) ∨ p = (A.p_law_told_right, qLam "_law_told_right" (defScope s_law_told_right)) ∨ p = (A.p_law_plays_right, qLam "_law_plays_right" (defScope s_law_plays_right)) := by
  rcases List.mem_cons.mp h with z | h
  · exact .inl z
  · rcases List.mem_cons.mp h with z | h
    · exact .inr (.inl z)
    · exact .inr (.inr (List.mem_singleton.mp h))
theorem tl_law_counts_right_u (T : Tx K mg A) : ∀ p ∈ tsL A, p.1 = A.p_law_counts_right → p.2 = qLam "_law_counts_right" (defScope s_law_counts_right) := fun p hp e => by
  rcases tsL_of hp with rfl | rfl | rfl
  · rfl
  · exact absurd e.symm T.ne_law_counts_right_law_told_right
  · exact absurd e.symm T.ne_law_counts_right_law_plays_right
theorem tl_law_told_right_u (T : Tx K mg A) : ∀ p ∈ tsL A, p.1 = A.p_law_told_right → p.2 = qLam "_law_told_right" (defScope s_law_told_right) := fun p hp e => by
  rcases tsL_of hp with rfl | rfl | rfl
  · exact absurd e T.ne_law_counts_right_law_told_right
  · rfl
  · exact absurd e.symm T.ne_law_told_right_law_plays_right
theorem tl_law_plays_right_u (T : Tx K mg A) : ∀ p ∈ tsL A, p.1 = A.p_law_plays_right → p.2 = qLam "_law_plays_right" (defScope s_law_plays_right) := fun p hp e => by
  rcases tsL_of hp with rfl | rfl | rfl
  · exact absurd e T.ne_law_counts_right_law_plays_right
  · exact absurd e T.ne_law_told_right_law_plays_right
  · rfl
def wd : Nat → Str
  | 0 => "storeys"
  | 1 => "glasses"
  | 2 => "tries"
  | 3 => "storey"
  | 4 => "none"
  | 5 => "found"
  | 6 => "long"
  | _ => "done"
def kb (c : Nat) : List Bool := [decide (c = 1), decide (c = 3), decide (c = 0), decide (c = 2), decide (c = 5), decide (c = 6), decide (c = 4)]
def kws : List V := [.str "glasses", .str "storey", .str "storeys", .str "tries", .str "found", .str "long", .str "none"]
theorem kb_all (c : Nat) : ((kb c).map V.bl).all flatV = true := rfl
theorem kb_ix : ∀ c, c < 7 → inV (.bl true) ((kb c).map V.bl) = true ∧ ∃ j : Nat, ((kb c).map V.bl)[j]? = some (.bl true) ∧ (∀ (m : Nat) (z' : V), m < j → ((kb c).map V.bl)[m]? = some z' → eqV z' (.bl true) = false) ∧ kws[j]? = some (.str (wd c))
  | 0, _ => ⟨rfl, 2, rfl, fun m z' h e => by (rcases (show m = 0 ∨ m = 1 by omega) with rfl | rfl) <;> (cases e; rfl), rfl⟩
  | 1, _ => ⟨rfl, 0, rfl, fun m z' h e => by omega, rfl⟩
  | 2, _ => ⟨rfl, 3, rfl, fun m z' h e => by (rcases (show m = 0 ∨ m = 1 ∨ m = 2 by omega) with rfl | rfl | rfl) <;> (cases e; rfl), rfl⟩
  | 3, _ => ⟨rfl, 1, rfl, fun m z' h e => by (obtain rfl : m = 0 := by omega); cases e; rfl, rfl⟩
  | 4, _ => ⟨rfl, 6, rfl, fun m z' h e => by (rcases (show m = 0 ∨ m = 1 ∨ m = 2 ∨ m = 3 ∨ m = 4 ∨ m = 5 by omega) with rfl | rfl | rfl | rfl | rfl | rfl) <;> (cases e; rfl), rfl⟩
  | 5, _ => ⟨rfl, 4, rfl, fun m z' h e => by (rcases (show m = 0 ∨ m = 1 ∨ m = 2 ∨ m = 3 by omega) with rfl | rfl | rfl | rfl) <;> (cases e; rfl), rfl⟩
  | 6, _ => ⟨rfl, 5, rfl, fun m z' h e => by (rcases (show m = 0 ∨ m = 1 ∨ m = 2 ∨ m = 3 ∨ m = 4 by omega) with rfl | rfl | rfl | rfl | rfl) <;> (cases e; rfl), rfl⟩
  | c + 7, h => absurd h (by omega)
/-- what a lambda does with v: it raises the kind c, or ends well (7) -/
def Does (A : Ad) (H : Hp) (sp : Sp) (v : V) (c : Nat) : Prop := (c < 7 ∧ ∀ H1, Ex H H1 → ∀ (E : XK) (Q : VK), (∀ H2, Ex H1 H2 → E (.ref (errOf A c)) none H2) → sp [v] H1 Q E) ∨ (c = 7 ∧ ∀ H1, Ex H H1 → ∀ (E : XK) (Q : VK), (∀ v' H2, Ex H1 H2 → Q v' H2) → sp [v] H1 Q E)
theorem Does.mono {H H' : Hp} {sp : Sp} {v : V} {c : Nat} (h : Does A H sp v c) (e : Ex H H') : Does A H' sp v c := h.elim (fun z => .inl ⟨z.1, fun H1 e1 => z.2 H1 (e.trans e1)⟩) fun z => .inr ⟨z.1, fun H1 e1 => z.2 H1 (e.trans e1)⟩
theorem does {H : Hp} {t : XK → TE} {v : V} (c : Nat) (hc : c < 7) (h : ∀ H1, Ex H H1 → ∀ E : XK, (∀ H2, Ex H1 H2 → E (.ref (errOf A c)) none H2) → EvR (t E) [some v] H1) : Does A H (fun vs H Q E => t E (vs.map some) H Q) v c :=
  .inl ⟨hc, fun H1 e1 E Q kE => h H1 e1 E kE H1 (Ex.refl H1) Q⟩
def spWord (P : Program) (w : World) (K : PySem.W.Frag) (mg : Str → Option Value) (base : Heap) (A : Ad) : Sp := fun vs H Q _ => ∃ (f : Addr) (v : V) (sp : Sp) (c : Nat), vs = [.ref f, v] ∧ AskL P w K mg base 5 H f sp ∧ Does A H sp v c ∧ ∀ H2, Ex H H2 → Q (.str (wd c)) H2
theorem ok_law_word (T : Tx K mg A) : FnOk P w K mg base CX0 6 A.a_law_word A.d_law_word ["_law_ask", "_law_thing"] (spWord P w K mg base A) := by
  refine T.f_law_word.ok sc_law_word (fun vs H Q E h => ?_) (fun cdv Ar outer s H vs Q E hr h => ?_)
  · obtain ⟨f, v, sp, c, rfl, _⟩ := h
    rfl
  · obtain ⟨f, v, sp, c, rfl, hA, hD, kQ⟩ := h
    refine ⟨_, (pss_cons (L2.ps_try_as (i := 2) rfl rfl sc_law_word.nd rfl rfl ⟨rfl, by decide, .inl T.g_GlassError⟩ takesN (fun W pn xe tk _ => (pss_one (ps_expr (pe_callLam (P := P) (w := w) (K := K) (mg := mg) (base := base) (k := 5) (i := 0) (by rfl) (by rfl) (by rfl) (by rfl) (by rfl) (hr.mono (by decide)) rfl (.inl rfl) tk (pv 1)))))
        (fun a oe cls d pn hz hf => (pss_cons (ps_set (i := 3) sc_law_word.nd rfl (.inl rfl) (pe_lst (pa_cons (pe_callB (call_isE2 hz hf) (by rfl) T.z_isinstance (by decide +kernel) (pa_cons (pv 2) (pa_cons (pe_glob (v := .ref A.a_BadGlasses) (by rfl) T.g_BadGlasses rfl) pa_nil))) (pa_cons (pe_callB (call_isE2 hz hf) (by rfl) T.z_isinstance (by decide +kernel) (pa_cons (pv 2) (pa_cons (pe_glob (v := .ref A.a_BadStorey) (by rfl) T.g_BadStorey rfl) pa_nil))) pa_nil))))
      (pss_cons (ps_set (i := 3) sc_law_word.nd rfl (.inl rfl) (pe_op op_cat (pv 3) (pe_lst (pa_cons (pe_callB (call_isE2 hz hf) (by rfl) T.z_isinstance (by decide +kernel) (pa_cons (pv 2) (pa_cons (pe_glob (v := .ref A.a_BadStoreys) (by rfl) T.g_BadStoreys rfl) pa_nil))) (pa_cons (pe_callB (call_isE2 hz hf) (by rfl) T.z_isinstance (by decide +kernel) (pa_cons (pv 2) (pa_cons (pe_glob (v := .ref A.a_BadTries) (by rfl) T.g_BadTries rfl) pa_nil))) pa_nil)))))
      (pss_cons (ps_set (i := 3) sc_law_word.nd rfl (.inl rfl) (pe_op op_cat (pv 3) (pe_lst (pa_cons (pe_callB (call_isE2 hz hf) (by rfl) T.z_isinstance (by decide +kernel) (pa_cons (pv 2) (pa_cons (pe_glob (v := .ref A.a_Found) (by rfl) T.g_Found rfl) pa_nil))) (pa_cons (pe_callB (call_isE2 hz hf) (by rfl) T.z_isinstance (by decide +kernel) (pa_cons (pv 2) (pa_cons (pe_glob (v := .ref A.a_Long) (by rfl) T.g_Long rfl) pa_nil))) (pa_cons (pe_callB (call_isE2 hz hf) (by rfl) T.z_isinstance (by decide +kernel) (pa_cons (pv 2) (pa_cons (pe_glob (v := .ref A.a_NoGlass) (by rfl) T.g_NoGlass rfl) pa_nil))) pa_nil))))))
      (pss_cons (ps_set (i := 4) sc_law_word.nd rfl (.inl rfl) (pe_lst (pa_cons pe_str (pa_cons pe_str (pa_cons pe_str (pa_cons pe_str (pa_cons pe_str (pa_cons pe_str (pa_cons pe_str pa_nil)))))))))
      (pss_one (ps_ret (pe_ifExp (pt_cmpR (op_inK (K := K) (by rfl)) pe_bl (pv 3) (by rfl)) (pe_ix (ix_listK (K := K) (by rfl)) (pv 4) (pe_bmK (K := K) (by rfl) (pe_bm PySem.F.plainAttrs_list PySem.F.slot_list_index PySem.F.type_list_index (mt_indexK (K := K) (by rfl)) (pv 3) (pa_cons pe_bl pa_nil))) (fun _ _ => rfl)) pe_str)))))))))
      (pss_one (ps_ret pe_str))), ?_⟩
    refine ⟨f, sp, rfl, hA, v, rfl, hA, ?_⟩
    rcases hD with ⟨hc, hD⟩ | ⟨rfl, hD⟩
    · refine hD H (Ex.refl H) _ _ fun H2 e2 => ?_
      refine ⟨true, exm_err T c hc, fun _ a ha => ?_, fun z => (nomatch z)⟩
      have hE := exc_err T c hc
      have is1 : ∀ {σ : L2.St} {H : Hp} {i : Nat} {x : Nat}, σ[2]? = some (some (.ref a)) → x < 7 → Ev (tCB (rIsE2 K (.ref (errOf A c)) none a) (tCons (tVar 2) (tCons (tC (.ref (errOf A x))) tNil))) σ H (.bl (decide (c = x))) := fun {σ H i x} h1 h2 => ev_cb (ea_cons (ev_var h1) (ea_cons ev_c ea_nil)) (rc_isE hE (kit_err T c x hc h2))
      refine q_asgL (xs := [.bl (decide (c = 1)), .bl (decide (c = 3))]) (el_lst (ea_cons (is1 (i := 0) (x := 1) rfl (by decide)) (ea_cons (is1 (i := 0) (x := 3) rfl (by decide)) ea_nil)) (by show 2 ≤ 100000; decide)) fun l3 H3 hl3 e3 h3 => ?_
      refine q_asgL (el_catL (ys := [.bl (decide (c = 0)), .bl (decide (c = 2))]) (ev_var rfl) h3 (el_lst (ea_cons (is1 (i := 0) (x := 0) rfl (by decide)) (ea_cons (is1 (i := 0) (x := 2) rfl (by decide)) ea_nil)) (by show 2 ≤ 100000; decide)) (by show 4 ≤ 100000; decide)) fun l4 H4 hl4 e4 h4 => ?_
      refine q_asgL (el_catL (ys := [.bl (decide (c = 5)), .bl (decide (c = 6)), .bl (decide (c = 4))]) (ev_var rfl) h4 (el_lst (ea_cons (is1 (i := 0) (x := 5) rfl (by decide)) (ea_cons (is1 (i := 0) (x := 6) rfl (by decide)) (ea_cons (is1 (i := 0) (x := 4) rfl (by decide)) ea_nil))) (by show 3 ≤ 100000; decide)) (by show 7 ≤ 100000; decide)) fun l5 H5 hl5 e5 h5 => ?_
      have h5 : H5 l5 = some (.lst ((kb c).map V.bl)) := h5
      refine q_asgL (xs := kws) (el_lst (ea_cons ev_c (ea_cons ev_c (ea_cons ev_c (ea_cons ev_c (ea_cons ev_c (ea_cons ev_c (ea_cons ev_c ea_nil))))))) (by show 7 ≤ 100000; decide)) fun l6 H6 hl6 e6 h6 => ?_
      obtain ⟨k1, j, k2, k3, k4⟩ := kb_ix c hc
      have h56 := e6 _ _ h5
      refine s_ret (ev_if (b := true) (et_is (et_test (ev_in ev_c (ev_var rfl) (sq_of h56) rfl (kb_all c))) k1) (fun _ => ev_op (ev_var rfl) (ev_index (ev_var rfl) ev_c h56 rfl (kb_all c) k2 rfl k3) (rv_ixL (sq_of h6) (atI_nat k4))) fun z => nomatch z) fun H7 e7 => kQ H7 ((((((e2.trans e3).trans e4).trans e5).trans e6).trans e7))
    · exact hD H (Ex.refl H) _ _ fun v' H2 e2 => kQ H2 e2
/-- a list of them asked -/
def DoAll (A : Ad) (H : Hp) (v : V) : List Sp → List Nat → Prop
  | [], [] => True
  | sp :: sps, c :: cs => Does A H sp v c ∧ DoAll A H v sps cs
  | _, _ => False
theorem ask_at {H : Hp} {v : V} : ∀ {fs : List Addr} {sps : List Sp} {cs : List Nat}, AsksAt P w K mg base 5 H fs sps → DoAll A H v sps cs → ∀ (i : Nat) (x y : V), (fs.map V.ref)[i]? = some x → (cs.map fun c => V.str (wd c))[i]? = some y → ∃ f sp c, x = .ref f ∧ AskL P w K mg base 5 H f sp ∧ Does A H sp v c ∧ y = .str (wd c)
  | [], [], [], _, _ => fun i x y h => by simp at h
  | f :: fs, sp :: sps, c :: cs, h1, h2 => fun i x y hx hy => by
    cases i with
    | zero =>
      cases hx
      cases hy
      exact ⟨f, sp, c, rfl, h1.1, h2.1, rfl⟩
    | succ i => exact ask_at h1.2 h2.2 i x y hx hy
  | [], _ :: _, _, h, _ => h.elim
  | _ :: _, [], _, h, _ => h.elim
  | [], [], _ :: _, _, h => h.elim
  | _ :: _, _ :: _, [], _, h => h.elim
theorem do_len {H : Hp} {v : V} : ∀ {sps : List Sp} {cs : List Nat}, DoAll A H v sps cs → sps.length = cs.length
  | [], [], _ => rfl
  | sp :: sps, c :: cs, h => congrArg (· + 1) (do_len h.2)
  | [], _ :: _, h => h.elim
  | _ :: _, [], h => h.elim
/-- [_law_word(ask, v) for ask in asks] -/
theorem el_words {σ : L2.St} {H : Hp} {l : Addr} {fs : List Addr} {sps : List Sp} {cs : List Nat} {v : V} {j : Nat} {vs : List Nat} {E : XK} {tl tv : TE} (hl : H l = some (.lst (fs.map V.ref))) (ha : AsksAt P w K mg base 5 H fs sps) (hd : DoAll A H v sps cs) (hz : cs.length ≤ 40000) (h : Ev tl σ H (.ref l)) (hw : ∀ x, wipe ((wipe σ vs).set j (some x)) vs = wipe σ vs)
    (hj : ∀ x, ((wipe σ vs).set j (some x))[j]? = some (some x)) (hv : ∀ x H1, Ev tv ((wipe σ vs).set j (some x)) H1 v) : EvL (tLc (iList K tl) (gName j) tYes (tCall (spWord P w K mg base A) [] E (tCons (tVar j) (tCons tv tNil))) vs) σ H (cs.map fun c => V.str (wd c)) := by
  have hn : (fs.map V.ref).length = cs.length := by rw [List.length_map, ha.len, do_len hd]
  refine el_byIx h (sq_of hl) (by rw [List.length_map, hn]) (by rw [hn]; exact hz) hw fun i x y hx hy H1 e1 => ?_
  obtain ⟨f, sp, c, rfl, h1, h2, rfl⟩ := ask_at ha hd i x y hx hy
  refine fun H2 e2 Q q => (ea_cons (ev_var (hj _)) (ea_cons (hv _ H1) ea_nil) : EvA _ _ H1 [.ref f, v]) H2 e2 _ fun H3 e3 => ?_
  show spWord P w K mg base A ([.ref f, v] ++ []) H3 Q E
  have e13 := (e1.trans e2).trans e3
  exact ⟨f, v, sp, c, rfl, h1.mono e13, h2.mono e13, fun H4 e4 => q H4 (e3.trans e4)⟩
theorem dp_words {H : Hp} {p : Addr} {cs : List Nat} (h : H p = some (.lst (cs.map fun c => V.str (wd c)))) : Dp K H (.ref p) (.list ((cs.map wd).map PyData.str)) := dp_strs (ss := cs.map wd) (by rw [List.map_map]; exact h)
/-! ### lists told apart -/
theorem eqv_ints : ∀ ns : List Int, PyData.eqvAll (ns.map PyData.int) (ns.map PyData.int) = true
  | [] => rfl
  | n :: ns => by
    show (PyData.eqv (.int n) (.int n) && PyData.eqvAll (ns.map PyData.int) (ns.map PyData.int)) = true
    rw [eqv_ints ns, Bool.and_true]
    show (n == n) = true
    exact beq_self_eq_true n
theorem lay_ints : ∀ ns : List Int, PyData.canLayAll0 (ns.map PyData.int) = true
  | [] => by simp [PyData.canLayAll0]
  | n :: ns => by
    show (PyData.canLay0 (.int n) && PyData.canLayAll0 (ns.map PyData.int)) = true
    rw [lay_ints ns, Bool.and_true]
    rfl
theorem depth_ints : ∀ ns : List Int, PyData.depthAll (ns.map PyData.int) = 0
  | [] => rfl
  | n :: ns => by
    show max (PyData.depth (.int n)) (PyData.depthAll (ns.map PyData.int)) = 0
    rw [depth_ints ns]
    rfl
theorem shaped_ints (ns : List Int) : SeqAt.shaped (.list (ns.map PyData.int)) = true := by
  show (PyData.canLayAll0 (ns.map PyData.int) && decide (PyData.depthAll (ns.map PyData.int) + 1 ≤ 64)) = true
  rw [lay_ints, depth_ints]
  rfl
/-- a list of plain things, as data -/
def Pl (K : PySem.W.Frag) (xs : List V) (d : PyData) : Prop := (∀ (H : Hp) (p : Addr), H p = some (.lst xs) → Dp K H (.ref p) d) ∧ SeqAt.shaped d = true ∧ PyData.eqv d d = true
theorem pl_ints (ns : List Int) : Pl K (ns.map V.int) (.list (ns.map PyData.int)) := ⟨fun H p h => dp_ints h, shaped_ints ns, eqv_ints ns⟩
section
variable {σ : L2.St} {H : Hp} {D : Ends} {ta tb : TE} {tz tu : TS} {xs : List V} {d : PyData}
theorem ev_neP (p : Pl K xs d) (h1 : EvL ta σ H xs) (h2 : EvL tb σ H xs) : Ev (tOp (rNeD K) ta tb) σ H (.bl false) :=
  ev_is (ev_opNN (z := .bl (!PyData.eqv d d)) (en_ofL h1) (en_ofL h2) fun v w H1 H2 e1 hv e2 hw => by
    obtain ⟨a, rfl, _, ha⟩ := hv
    obtain ⟨b, rfl, _, hb⟩ := hw
    exact rv_neD (p.1 _ _ (e2 _ _ ha)) (p.1 _ _ hb) p.2.1 p.2.1) (by rw [p.2.2]; rfl)
theorem ev_eqP (p : Pl K xs d) (h1 : EvL ta σ H xs) (h2 : EvL tb σ H xs) : Ev (tOp (rEqD K) ta tb) σ H (.bl true) :=
  ev_is (ev_opNN (z := .bl (PyData.eqv d d)) (en_ofL h1) (en_ofL h2) fun v w H1 H2 e1 hv e2 hw => by
    obtain ⟨a, rfl, _, ha⟩ := hv
    obtain ⟨b, rfl, _, hb⟩ := hw
    exact rv_eqD (p.1 _ _ (e2 _ _ ha)) (p.1 _ _ hb) p.2.1 p.2.1) (by rw [p.2.2])
/-- if .. != ..: return False, where they are alike -/
theorem q_neP (p : Pl K xs d) (h1 : EvL ta σ H xs) (h2 : EvL tb σ H xs) (k : ∀ H1, Ex H H1 → tz D σ H1) : tSeq (tIfS (tTest (tOp (rNeD K) ta tb)) tu tNext) tz D σ H :=
  q_when (et_test (ev_neP p h1 h2)) (fun z => nomatch z) fun _ => k
theorem s_neP (p : Pl K xs d) (h1 : EvL ta σ H xs) (h2 : EvL tb σ H xs) (k : ∀ H1, Ex H H1 → D.nx σ H1) : tIfS (tTest (tOp (rNeD K) ta tb)) tu tNext D σ H :=
  s_when (et_test (ev_neP p h1 h2)) (fun z => nomatch z) fun _ => k
theorem el_rep {n : Nat} (h : EvL ta σ H xs) (hn : n ≤ 1000) (hz : xs.length * n ≤ 100000) : EvL (tOp rRep ta (tC (.int (n : Int)))) σ H (List.replicate n xs).flatten := fun H1 e Q q => h H1 e _ fun l H2 hl e2 h2 =>
  ⟨l, (n : Int), xs, rfl, rfl, h2, by omega, by omega, sz_of (by rw [Int.toNat_natCast]; exact hz), fun p hp => q p _ (fresh_back e2 hp) (e2.trans (Ex.new hp)) (by rw [Int.toNat_natCast]; exact upd_same)⟩
theorem ev_reach {E : XK} {t : TA} {a b : Nat} {z : Int} (h : EvA t σ H [.int (a : Int), .int (b : Int)]) (ha : a ≤ 10 ^ 40) (hb : b ≤ 300) (hz : ((R a b : Nat) : Int) = z) : Ev (tCall (spPX rReach (xReach A)) [] E t) σ H (.int z) := ev_is (ev_px h ⟨a, b, rfl, ha, hb, rfl⟩) (congrArg V.int hz)
theorem ev_few {E : XK} {t : TA} {a b : Nat} {z : Int} (h : EvA t σ H [.int (a : Int), .int (b : Int)]) (ha : a ≤ 10 ^ 60) (hb : b ≤ 300) (hc : 0 < b ∨ a = 0) (hz : ((fw a b : Nat) : Int) = z) : Ev (tCall (spPX rFewest (xFound A)) [] E t) σ H (.int z) := ev_is (ev_px h ⟨a, b, rfl, ha, hb, hc, rfl⟩) (congrArg V.int hz)
end
theorem fwn {s g t : Nat} (h : Fw s g t) : ((fw s g : Nat) : Int) = (t : Int) := by rw [fw_eq h]
instance {s g t : Nat} : Decidable (Fw s g t) := inferInstanceAs (Decidable (_ ∧ _))
instance {s b g : Nat} : Decidable (Gw s b g) := inferInstanceAs (Decidable (_ ∧ _))
theorem words_pl (cs : List Nat) (hs : SeqAt.shaped (.list ((cs.map wd).map PyData.str)) = true) (he : PyData.eqv (.list ((cs.map wd).map PyData.str)) (.list ((cs.map wd).map PyData.str)) = true) : Pl K (cs.map fun c => V.str (wd c)) (.list ((cs.map wd).map PyData.str)) := ⟨fun H p h => dp_words h, hs, he⟩
/-! ### the tables stay while a list grows -/
theorem exn_mut {H1 H4 : Hp} {p : Addr} {o : HO} (e : LamX.ExtN H1 H4) (h : H1 p = none) : LamX.ExtN H1 (upd H4 p o) := fun b x hb hn => by
  rw [upd_ne (ne_of_none hb h)]
  exact e b x hb hn
theorem tabs_mut {Ts : List (Addr × Str)} {H4 : Hp} {p : Addr} {xs ys : List V} (h : LamX.Tabs Ts H4) (hp : H4 p = some (.lst xs)) : LamX.Tabs Ts (upd H4 p (.lst ys)) := fun q hq => by
  obtain ⟨ps, h1, h2, h3⟩ := h q hq
  have n1 : q.1 ≠ p := fun z => by
    rw [z, hp] at h1
    cases h1
  refine ⟨ps, by rw [upd_ne n1]; exact h1, h2, fun pos cv hc => ?_⟩
  obtain ⟨c, z1, z2⟩ := h3 pos cv hc
  have n2 : c ≠ p := fun z => by
    rw [z, hp] at z2
    have := Option.some.inj z2
    unfold LamX.CodeO at this
    cases this
  exact ⟨c, z1, by rw [upd_ne n2]; exact z2⟩
/-- [_law_word(lambda .., x) for x in (..)] -/
theorem lc_words {σ : L2.St} {H : Hp} {tl : TE} {xs : List V} {cs : List Nat} {j : Nat} {vs : List Nat} {sp : Sp} {E : XK} {Q : VK} (hT : LamX.Tabs (tsL A) H) (h : EvU tl σ H xs) (hl : cs.length = xs.length) (hz : xs.length ≤ 40000) (hw : ∀ x, wipe ((wipe σ vs).set j (some x)) vs = wipe σ vs)
    (hj : ∀ x, ((wipe σ vs).set j (some x))[j]? = some (some x)) (hd : ∀ (i : Nat) x c, xs[i]? = some x → cs[i]? = some c → ∀ H1, Does A H1 sp x c) (q : ∀ p H1, LamX.Tabs (tsL A) H1 → H1 p = some (.lst (cs.map fun c => V.str (wd c))) → Q (.ref p) H1) :
    tLc (iTup K tl) (gName j) tYes (tCall (spWord P w K mg base A) [] E (tCons (tAsk P w K mg base 5 (tsL A) sp) (tCons (tVar j) tNil))) vs σ H Q := h H (Ex.refl H) _ fun a H1 ha e1 hx => ⟨a, rfl, ⟨xs, st_of hx⟩, fun Dl hD =>
  lc_tup (xs := xs) (fun i H' => LamX.ExtN H1 H' ∧ LamX.Tabs (tsL A) H' ∧ H' Dl = some (.lst ((cs.map fun c => V.str (wd c)).take i))) ⟨.of (Ex.new hD), (hT.ext e1).ext (Ex.new hD), upd_same⟩ (fun i H' _ p => st_of (exn_t p.1 hx)) (fun i x H' hi p => by
    have hlt := (List.getElem?_eq_some_iff.mp hi).1
    have hly : i < cs.length := by omega
    have hci : cs[i]? = some cs[i] := List.getElem?_eq_getElem hly
    show wipe ((wipe σ vs).set j (some x)) vs = wipe σ vs ∧ (tCall (spWord P w K mg base A) [] E (tCons (tAsk P w K mg base 5 (tsL A) sp) (tCons (tVar j) tNil))) ((wipe σ vs).set j (some x)) H' fun y H4 => ∃ acc, H4 Dl = some (.lst acc) ∧ acc.length < sizeLine ∧ _
    refine ⟨hw x, p.2.1, fun f H2 eN T2 hA => ⟨x, hj x, ?_⟩⟩
    refine ⟨f, x, sp, cs[i], rfl, hA, hd i x _ hi hci H2, fun H4 e4 => ?_⟩
    have hDl : H4 Dl = some (.lst ((cs.map fun c => V.str (wd c)).take i)) := e4 _ _ (eN _ _ p.2.2 fun ps z => by cases z)
    refine ⟨_, hDl, sz_lt (by rw [List.length_take, List.length_map]; omega), exn_mut ((p.1.trans eN).trans (.of e4)) hD, tabs_mut (T2.ext e4) hDl, ?_⟩
    rw [upd_same, List.take_add_one, List.getElem?_map, hci]
    rfl) (fun H' p => by
    have e2 : (cs.map fun c => V.str (wd c)).take xs.length = cs.map fun c => V.str (wd c) := List.take_of_length_le (by rw [List.length_map]; omega)
    have p2 := p.2.2
    rw [e2] at p2
    exact q Dl H' p.2.1 p2)⟩
theorem s_retLcw {σ : L2.St} {H : Hp} {D : Ends} {r : R2} {tl tb : TE} {xs : List V} {cs : List Nat} {j : Nat} {vs : List Nat} {sp : Sp} {E : XK} (hT : LamX.Tabs (tsL A) H) (h : EvU tl σ H xs) (hl : cs.length = xs.length) (hz : xs.length ≤ 40000) (hw : ∀ x, wipe ((wipe σ vs).set j (some x)) vs = wipe σ vs)
    (hj : ∀ x, ((wipe σ vs).set j (some x))[j]? = some (some x)) (hd : ∀ (i : Nat) x c, xs[i]? = some x → cs[i]? = some c → ∀ H1, Does A H1 sp x c) (q : ∀ p H1, LamX.Tabs (tsL A) H1 → H1 p = some (.lst (cs.map fun c => V.str (wd c))) → tb σ H1 fun y H2 => r (.ref p) y H2 D.rt) :
    tRet (tOp r (tLc (iTup K tl) (gName j) tYes (tCall (spWord P w K mg base A) [] E (tCons (tAsk P w K mg base 5 (tsL A) sp) (tCons (tVar j) tNil))) vs) tb) D σ H := lc_words (Q := fun x H1 => tb σ H1 fun y H2 => r x y H2 D.rt) hT h hl hz hw hj hd q
theorem done_few {H : Hp} {E0 : Unit} : Does A H (fun vs H Q E => tCall (spPX rFewest (xFound A)) [] E (tCons (tVar 0) (tCons (tC (.int 0)) tNil)) (vs.map some) H Q) (.int 0) 7 :=
  .inr ⟨rfl, fun H1 e1 E Q q => (ev_few (A := A) (a := 0) (b := 0) (ea_cons (ev_var rfl) (ea_cons ev_c ea_nil)) (by decide) (by decide) (.inr rfl) rfl : Ev _ [some (.int 0)] H1 _) H1 (Ex.refl H1) _ fun H2 e2 => q _ H2 e2⟩
theorem none_few {H : Hp} {n : Nat} (h0 : 0 < n) (hn : n ≤ 10 ^ 60) : Does A H (fun vs H Q E => tCall (spPX rFewest (xFound A)) [] E (tCons (tVar 0) (tCons (tC (.int 0)) tNil)) (vs.map some) H Q) (.int (n : Int)) 4 :=
  does (t := fun E => tCall (spPX rFewest (xFound A)) [] E (tCons (tVar 0) (tCons (tC (.int 0)) tNil))) 4 (by decide) fun H1 e1 E kE => er_px (ea_cons (ev_var rfl) (ea_cons ev_c ea_nil)) (fun H2 e2 => ⟨_, _, rfl, .inr ⟨n, rfl, hn, .inr ⟨rfl, h0, rfl⟩⟩⟩) kE
open PySem.Spec PyProof.Rows in
theorem okC {x qual : Str} {st : Stmt} {f c : Addr} {fd : FuncData} {N ps : List Str} {k : Nat} {sp : Sp} (F : FunC K x qual st f fd c) (S : FnScope N ps (defScope st)) (len : ∀ vs H Q E, sp vs H Q E → vs.length = ps.length)
    (hb : ∀ (Ar : Around) (outer : List Env) (s : Shared) (H : Hp) (vs : List V) (Q : VK) (E : XK), Room k (Ar.deeper (envOfC qual (defScope st) s.heap.objs.size f (.ref c))) → sp vs H Q E →
      ∃ t, PSs (cxOf CX0 P w K mg base N qual (defScope st) f (.ref c) Ar outer s H E).nox (defBody st) t ∧ t { nx := fun _ H' => Q .non H', rt := Q } (L2.start N vs) H) : FnOk P w K mg base CX0 (k + 1) f fd ps sp := by
  obtain ⟨oc, od, kV, doc, pm, an, ct, osl, rfl, lk, hcd⟩ := F
  refine fn_of lk hcd S len fun Ar outer s H vs Q E hr h => ?_
  obtain ⟨t, h1, h2⟩ := hb Ar outer s H vs Q E hr h
  exact ⟨t, h1.nox, h2⟩
theorem BadM.mono {lo hi : Int} : ∀ (v : V) (H H' : Hp), Bad H v lo hi → Ex H H' → Bad H' v lo hi := fun v H H' h e => h.mono e
def spMk (A : Ad) : Sp := fun vs H Q _ => ∃ n : Nat, vs = [.int (n : Int)] ∧ 1 ≤ n ∧ n ≤ 10 ^ 30 ∧ LamX.Tabs (tsL A) H ∧ ∀ H2, LamX.Tabs (tsL A) H2 → Q (.bl true) H2
/-! ### _law_counts_right -/
theorem R_far2 : ((R (10 ^ 40) 2 : Nat) : Int) = ((10 ^ 40 : Nat) : Int) * (((10 ^ 40 : Nat) : Int) + 1) / 2 := by
  have h := R_two (10 ^ 40)
  have e : R (10 ^ 40) 2 = 10 ^ 40 * (10 ^ 40 + 1) / 2 := by omega
  rw [e]
  decide +kernel
theorem R_200 : R 200 300 = 2 ^ 200 - 1 := by
  have := R_full 200 300 (by decide)
  omega
theorem fw_100 : fw 100 2 = 14 := fw_eq ⟨by have := R_two 14; omega, .inr (by have := R_two 13; show R 13 2 < 100; omega)⟩
theorem fw_7 : fw 7 300 = 3 := fw_eq (by decide +kernel)
theorem gw_8 : ∀ p ∈ ([(0, 0), (1, 1), (2, 1), (3, 2), (4, 2), (6, 2), (7, 3), (8, 2)] : List (Nat × Nat)), p.1 ≤ 10 ^ 60 ∧ Gw p.1 (bl p.1) p.2 := by
  decide +kernel
theorem ok_law_counts_right (T : Tx K mg A) (TB : LamX.TabB base mg A.c_law_counts_right A.p_law_counts_right) : FnOk P w K mg base CX0 7 A.a_law_counts_right A.d_law_counts_right ["_law_n"] (spMk A) := by
  refine okC T.fc_law_counts_right sc_law_counts_right (fun vs H Q E h => ?_) (fun Ar outer s H vs Q E hr h => ?_)
  · obtain ⟨n, rfl, _⟩ := h
    rfl
  · obtain ⟨n, rfl, hn1, hn, hT, k⟩ := h
    refine ⟨_, (pss_cons (ps_set (i := 1) sc_law_counts_right.nd rfl (.inl rfl) (pe_op op_pow pe_int pe_int))
      (pss_cons (ps_if (pt_cmpR (op_neD hr.units) (pe_lst (pa_cons (pe_call (ok_reach (P := P) (w := w) (base := base) T) (hr.mono (by decide)) (by rfl) T.g_reach T.f_reach.kp T.b_reach .nil passN (pa_cons pe_int (pa_cons pe_int pa_nil))) (pa_cons (pe_call (ok_reach (P := P) (w := w) (base := base) T) (hr.mono (by decide)) (by rfl) T.g_reach T.f_reach.kp T.b_reach .nil passN (pa_cons pe_int (pa_cons pe_int pa_nil))) (pa_cons (pe_call (ok_reach (P := P) (w := w) (base := base) T) (hr.mono (by decide)) (by rfl) T.g_reach T.f_reach.kp T.b_reach .nil passN (pa_cons (pv 0) (pa_cons pe_int pa_nil))) (pa_cons (pe_call (ok_reach (P := P) (w := w) (base := base) T) (hr.mono (by decide)) (by rfl) T.g_reach T.f_reach.kp T.b_reach .nil passN (pa_cons pe_int (pa_cons pe_int pa_nil))) (pa_cons (pe_call (ok_reach (P := P) (w := w) (base := base) T) (hr.mono (by decide)) (by rfl) T.g_reach T.f_reach.kp T.b_reach .nil passN (pa_cons pe_int (pa_cons pe_int pa_nil))) (pa_cons (pe_call (ok_reach (P := P) (w := w) (base := base) T) (hr.mono (by decide)) (by rfl) T.g_reach T.f_reach.kp T.b_reach .nil passN (pa_cons (pv 0) (pa_cons pe_int pa_nil))) pa_nil))))))) (pe_lst (pa_cons pe_int (pa_cons pe_int (pa_cons (pv 0) (pa_cons pe_int (pa_cons pe_int (pa_cons pe_int pa_nil))))))) (nomark _)) (pss_one (ps_ret pe_bl)) pss_nil)
      (pss_cons (ps_if (pt_cmpR (op_neD hr.units) (pe_lst (pa_cons (pe_call (ok_reach (P := P) (w := w) (base := base) T) (hr.mono (by decide)) (by rfl) T.g_reach T.f_reach.kp T.b_reach .nil passN (pa_cons (pv 1) (pa_cons pe_int pa_nil))) (pa_cons (pe_call (ok_reach (P := P) (w := w) (base := base) T) (hr.mono (by decide)) (by rfl) T.g_reach T.f_reach.kp T.b_reach .nil passN (pa_cons (pv 1) (pa_cons pe_int pa_nil))) (pa_cons (pe_call (ok_reach (P := P) (w := w) (base := base) T) (hr.mono (by decide)) (by rfl) T.g_reach T.f_reach.kp T.b_reach .nil passN (pa_cons (pv 1) (pa_cons pe_int pa_nil))) pa_nil)))) (pe_lst (pa_cons (pv 1) (pa_cons (pe_op op_fdivW (pe_op op_mulX (pv 1) (pe_op op_add (pv 1) pe_int)) pe_int) (pa_cons pe_int pa_nil)))) (nomark _)) (pss_one (ps_ret pe_bl)) pss_nil)
      (pss_cons (ps_if (pt_cmpR (op_neD hr.units) (pe_lst (pa_cons (pe_call (ok_reach (P := P) (w := w) (base := base) T) (hr.mono (by decide)) (by rfl) T.g_reach T.f_reach.kp T.b_reach .nil passN (pa_cons pe_int (pa_cons pe_int pa_nil))) (pa_cons (pe_call (ok_reach (P := P) (w := w) (base := base) T) (hr.mono (by decide)) (by rfl) T.g_reach T.f_reach.kp T.b_reach .nil passN (pa_cons pe_int (pa_cons pe_int pa_nil))) (pa_cons (pe_call (ok_reach (P := P) (w := w) (base := base) T) (hr.mono (by decide)) (by rfl) T.g_reach T.f_reach.kp T.b_reach .nil passN (pa_cons pe_int (pa_cons pe_int pa_nil))) pa_nil)))) (pe_lst (pa_cons (pe_op op_sub (pe_op op_mulX (pe_op op_mulX (pe_op op_mulX (pe_op op_pow pe_int pe_int) (pe_op op_pow pe_int pe_int)) (pe_op op_pow pe_int pe_int)) (pe_op op_pow pe_int pe_int)) pe_int) (pa_cons pe_int (pa_cons pe_int pa_nil)))) (nomark _)) (pss_one (ps_ret pe_bl)) pss_nil)
      (pss_cons (ps_if (pt_cmpR (op_neD hr.units) (pe_lst (pa_cons (pe_call (ok_fewest (P := P) (w := w) (base := base) T) (hr.mono (by decide)) (by rfl) T.g_fewest T.f_fewest.kp T.b_fewest .nil passN (pa_cons pe_int (pa_cons pe_int pa_nil))) (pa_cons (pe_call (ok_fewest (P := P) (w := w) (base := base) T) (hr.mono (by decide)) (by rfl) T.g_fewest T.f_fewest.kp T.b_fewest .nil passN (pa_cons pe_int (pa_cons pe_int pa_nil))) (pa_cons (pe_call (ok_fewest (P := P) (w := w) (base := base) T) (hr.mono (by decide)) (by rfl) T.g_fewest T.f_fewest.kp T.b_fewest .nil passN (pa_cons pe_int (pa_cons pe_int pa_nil))) pa_nil)))) (pe_lst (pa_cons pe_int (pa_cons pe_int (pa_cons pe_int pa_nil)))) (nomark _)) (pss_one (ps_ret pe_bl)) pss_nil)
      (pss_cons (ps_if (pt_cmpR (op_neD hr.units) (pe_lst (pa_cons (pe_call (ok_fewest (P := P) (w := w) (base := base) T) (hr.mono (by decide)) (by rfl) T.g_fewest T.f_fewest.kp T.b_fewest .nil passN (pa_cons (pv 0) (pa_cons pe_int pa_nil))) (pa_cons (pe_call (ok_fewest (P := P) (w := w) (base := base) T) (hr.mono (by decide)) (by rfl) T.g_fewest T.f_fewest.kp T.b_fewest .nil passN (pa_cons pe_int (pa_cons pe_int pa_nil))) (pa_cons (pe_call (ok_fewest (P := P) (w := w) (base := base) T) (hr.mono (by decide)) (by rfl) T.g_fewest T.f_fewest.kp T.b_fewest .nil passN (pa_cons pe_int (pa_cons pe_int pa_nil))) pa_nil)))) (pe_lst (pa_cons (pv 0) (pa_cons pe_int (pa_cons pe_int pa_nil)))) (nomark _)) (pss_one (ps_ret pe_bl)) pss_nil)
      (pss_cons (ps_if (pt_cmpR (op_neD hr.units) (pe_lst (pa_cons (pe_call (ok_fewest (P := P) (w := w) (base := base) T) (hr.mono (by decide)) (by rfl) T.g_fewest T.f_fewest.kp T.b_fewest .nil passN (pa_cons pe_int (pa_cons pe_int pa_nil))) (pa_cons (pe_call (ok_fewest (P := P) (w := w) (base := base) T) (hr.mono (by decide)) (by rfl) T.g_fewest T.f_fewest.kp T.b_fewest .nil passN (pa_cons (pe_op op_pow pe_int pe_int) (pa_cons pe_int pa_nil))) (pa_cons (pe_call (ok_fewest (P := P) (w := w) (base := base) T) (hr.mono (by decide)) (by rfl) T.g_fewest T.f_fewest.kp T.b_fewest .nil passN (pa_cons (pe_op op_pow pe_int pe_int) (pa_cons pe_int pa_nil))) pa_nil)))) (pe_lst (pa_cons pe_int (pa_cons (pe_op op_pow pe_int pe_int) (pa_cons pe_int pa_nil)))) (nomark _)) (pss_one (ps_ret pe_bl)) pss_nil)
      (pss_cons (ps_if (pt_cmpR (op_neD hr.units) (pe_lst (pa_cons (pe_call (ok_fewest (P := P) (w := w) (base := base) T) (hr.mono (by decide)) (by rfl) T.g_fewest T.f_fewest.kp T.b_fewest .nil passN (pa_cons pe_int (pa_cons pe_int pa_nil))) (pa_cons (pe_call (ok_fewest (P := P) (w := w) (base := base) T) (hr.mono (by decide)) (by rfl) T.g_fewest T.f_fewest.kp T.b_fewest .nil passN (pa_cons pe_int (pa_cons pe_int pa_nil))) (pa_cons (pe_call (ok_fewest (P := P) (w := w) (base := base) T) (hr.mono (by decide)) (by rfl) T.g_fewest T.f_fewest.kp T.b_fewest .nil passN (pa_cons pe_int (pa_cons pe_int pa_nil))) pa_nil)))) (pe_lst (pa_cons pe_int (pa_cons pe_int (pa_cons pe_int pa_nil)))) (nomark _)) (pss_one (ps_ret pe_bl)) pss_nil)
      (pss_cons (ps_if (pt_cmpR (op_neD hr.units) (pe_lc (own := [("_law_many", 4)]) (g := (gName 4)) (tt := tYes) (by rfl) sc_law_counts_right.nd (pi_tup (pe_tup (pa_cons pe_int (pa_cons pe_int (pa_cons pe_int (pa_cons pe_int (pa_cons pe_int (pa_cons pe_int (pa_cons pe_int (pa_cons pe_int pa_nil)))))))))) (blkOk_by (own := [("_law_many", 4)]) (N := ["_law_n", "_law_far", "_law_bad", "_law_asks", "_law_many", "_law_ask"]) (sc := defScope s_law_counts_right) (by decide +kernel)) (fun _ _ _ _ _ => (pg_name (i := 4) sc_law_counts_right.nd rfl (.inl rfl))) (fun _ _ _ _ _ => pts_nil) (fun _ _ _ _ _ => (pe_call (ok_glasses_for (P := P) (w := w) (base := base) T) (hr.mono (by decide)) (by rfl) T.g_glasses_for T.f_glasses_for.kp T.b_glasses_for .nil passN (pa_cons (pv 4) pa_nil)))) (pe_lst (pa_cons pe_int (pa_cons pe_int (pa_cons pe_int (pa_cons pe_int (pa_cons pe_int (pa_cons pe_int (pa_cons pe_int (pa_cons pe_int pa_nil))))))))) (nomark _)) (pss_one (ps_ret pe_bl)) pss_nil)
      (pss_cons (ps_for PassesOwn.never rfl (pi_tup (pe_tup (pa_cons (pe_un un_neg pe_int) (pa_cons (pe_op op_add (pe_op op_pow pe_int pe_int) pe_int) (pa_cons pe_bl (pa_cons pe_non (pa_cons pe_str (pa_cons (pe_tup (pa_cons pe_int pa_nil)) pa_nil)))))))) (pg_name (i := 2) sc_law_counts_right.nd rfl (.inr rfl))
        (pss_cons (ps_set (i := 3) sc_law_counts_right.nd rfl (.inl rfl) (pe_lst (pa_cons (pe_ask (P := P) (w := w) (K := K) (mg := mg) (base := base) (k := 4) (Ts := tsL A) (a := "_law_one") (q := qLam "_law_counts_right" (defScope s_law_counts_right)) TB (by rfl) (by rfl) (by rfl) (by rfl) tl_law_counts_right_m (tl_law_counts_right_u T) (by rfl) (by decide) ⟨rfl, rfl, rfl, by decide +kernel, rfl, by decide +kernel, by decide +kernel⟩ (fun _ _ _ _ => rfl) (fun f cd Ar outer s H E hr2 => (pe_call (ok_fewest (P := P) (w := w) (base := base) T) (hr2.mono (by decide)) (by rfl) T.g_fewest T.f_fewest.kp T.b_fewest .nil (L2.passes_call (L2.takes_of rfl rfl rfl rfl) (fun _ _ _ _ h => h)) (pa_cons (pv 0) (pa_cons pe_non pa_nil))))) (pa_cons (pe_ask (P := P) (w := w) (K := K) (mg := mg) (base := base) (k := 4) (Ts := tsL A) (a := "_law_two") (q := qLam "_law_counts_right" (defScope s_law_counts_right)) TB (by rfl) (by rfl) (by rfl) (by rfl) tl_law_counts_right_m (tl_law_counts_right_u T) (by rfl) (by decide) ⟨rfl, rfl, rfl, by decide +kernel, rfl, by decide +kernel, by decide +kernel⟩ (fun _ _ _ _ => rfl) (fun f cd Ar outer s H E hr2 => (pe_call (ok_glasses_for (P := P) (w := w) (base := base) T) (hr2.mono (by decide)) (by rfl) T.g_glasses_for T.f_glasses_for.kp T.b_glasses_for .nil (L2.passes_call (L2.takes_of rfl rfl rfl rfl) (fun _ _ _ _ h => h)) (pa_cons (pv 0) pa_nil)))) pa_nil))))
      (pss_cons (ps_set (i := 3) sc_law_counts_right.nd rfl (.inl rfl) (pe_op op_cat (pv 3) (pe_lst (pa_cons (pe_ask (P := P) (w := w) (K := K) (mg := mg) (base := base) (k := 4) (Ts := tsL A) (a := "_law_six") (q := qLam "_law_counts_right" (defScope s_law_counts_right)) TB (by rfl) (by rfl) (by rfl) (by rfl) tl_law_counts_right_m (tl_law_counts_right_u T) (by rfl) (by decide) ⟨rfl, rfl, rfl, by decide +kernel, rfl, by decide +kernel, by decide +kernel⟩ (fun _ _ _ _ => rfl) (fun f cd Ar outer s H E hr2 => (pe_call (ok_told (P := P) (w := w) (base := base) T) (hr2.mono (by decide)) (by rfl) T.g_told T.f_told.kp T.b_told .nil (L2.passes_call (L2.takes_of rfl rfl rfl rfl) (fun _ _ _ _ h => h)) (pa_cons (pv 0) (pa_cons pe_non (pa_cons pe_non pa_nil)))))) pa_nil))))
      (pss_cons (ps_set (i := 3) sc_law_counts_right.nd rfl (.inl rfl) (pe_op op_cat (pv 3) (pe_lst (pa_cons (pe_ask (P := P) (w := w) (K := K) (mg := mg) (base := base) (k := 4) (Ts := tsL A) (a := "_law_it") (q := qLam "_law_counts_right" (defScope s_law_counts_right)) TB (by rfl) (by rfl) (by rfl) (by rfl) tl_law_counts_right_m (tl_law_counts_right_u T) (by rfl) (by decide) ⟨rfl, rfl, rfl, by decide +kernel, rfl, by decide +kernel, by decide +kernel⟩ (fun _ _ _ _ => rfl) (fun f cd Ar outer s H E hr2 => (pe_call (ok_answer (P := P) (w := w) (base := base) T) (hr2.mono (by decide)) (by rfl) T.g_answer T.f_answer.kp T.b_answer .nil (L2.passes_call (L2.takes_of rfl rfl rfl rfl) (fun _ _ _ _ h => h)) (pa_cons (pv 0) (pa_cons pe_non (pa_cons pe_non (pa_cons pe_non pa_nil))))))) (pa_cons (pe_ask (P := P) (w := w) (K := K) (mg := mg) (base := base) (k := 4) (Ts := tsL A) (a := "_law_me") (q := qLam "_law_counts_right" (defScope s_law_counts_right)) TB (by rfl) (by rfl) (by rfl) (by rfl) tl_law_counts_right_m (tl_law_counts_right_u T) (by rfl) (by decide) ⟨rfl, rfl, rfl, by decide +kernel, rfl, by decide +kernel, by decide +kernel⟩ (fun _ _ _ _ => rfl) (fun f cd Ar outer s H E hr2 => (pe_call (ok_tried (P := P) (w := w) (base := base) T) (hr2.mono (by decide)) (by rfl) T.g_tried T.f_tried.kp T.b_tried .nil (L2.passes_call (L2.takes_of rfl rfl rfl rfl) (fun _ _ _ _ h => h)) (pa_cons (pv 0) (pa_cons pe_non (pa_cons pe_non pa_nil)))))) pa_nil)))))
      (pss_one (ps_if (pt_cmpR (op_neD hr.units) (pe_lc (own := [("_law_ask", 5)]) (g := (gName 5)) (tt := tYes) (by rfl) sc_law_counts_right.nd (pi_list (pv 3)) (blkOk_by (own := [("_law_ask", 5)]) (N := ["_law_n", "_law_far", "_law_bad", "_law_asks", "_law_many", "_law_ask"]) (sc := defScope s_law_counts_right) (by decide +kernel)) (fun _ _ _ _ _ => (pg_name (i := 5) sc_law_counts_right.nd rfl (.inl rfl))) (fun _ _ _ _ _ => pts_nil) (fun _ _ _ _ _ => (pe_call (ok_law_word (P := P) (w := w) (base := base) T) (hr.mono (by decide)) (by rfl) T.g_law_word T.f_law_word.kp T.b_law_word .nil pass0 (pa_cons (pv 5) (pa_cons (pv 2) pa_nil))))) (pe_op op_rep (pe_lst (pa_cons pe_str pa_nil)) pe_int) (nomark _)) (pss_one (ps_ret pe_bl)) pss_nil))))))
      (pss_cons (ps_for PassesOwn.never rfl (pi_tup (pe_tup (pa_cons (pe_un un_neg pe_int) (pa_cons pe_int (pa_cons pe_bl (pa_cons pe_non pa_nil)))))) (pg_name (i := 2) sc_law_counts_right.nd rfl (.inr rfl))
        (pss_cons (ps_set (i := 3) sc_law_counts_right.nd rfl (.inl rfl) (pe_lst (pa_cons (pe_ask (P := P) (w := w) (K := K) (mg := mg) (base := base) (k := 4) (Ts := tsL A) (a := "_law_one") (q := qLam "_law_counts_right" (defScope s_law_counts_right)) TB (by rfl) (by rfl) (by rfl) (by rfl) tl_law_counts_right_m (tl_law_counts_right_u T) (by rfl) (by decide) ⟨rfl, rfl, rfl, by decide +kernel, rfl, by decide +kernel, by decide +kernel⟩ (fun _ _ _ _ => rfl) (fun f cd Ar outer s H E hr2 => (pe_call (ok_reach (P := P) (w := w) (base := base) T) (hr2.mono (by decide)) (by rfl) T.g_reach T.f_reach.kp T.b_reach .nil (L2.passes_call (L2.takes_of rfl rfl rfl rfl) (fun _ _ _ _ h => h)) (pa_cons pe_int (pa_cons (pv 0) pa_nil))))) (pa_cons (pe_ask (P := P) (w := w) (K := K) (mg := mg) (base := base) (k := 4) (Ts := tsL A) (a := "_law_two") (q := qLam "_law_counts_right" (defScope s_law_counts_right)) TB (by rfl) (by rfl) (by rfl) (by rfl) tl_law_counts_right_m (tl_law_counts_right_u T) (by rfl) (by decide) ⟨rfl, rfl, rfl, by decide +kernel, rfl, by decide +kernel, by decide +kernel⟩ (fun _ _ _ _ => rfl) (fun f cd Ar outer s H E hr2 => (pe_call (ok_fewest (P := P) (w := w) (base := base) T) (hr2.mono (by decide)) (by rfl) T.g_fewest T.f_fewest.kp T.b_fewest .nil (L2.passes_call (L2.takes_of rfl rfl rfl rfl) (fun _ _ _ _ h => h)) (pa_cons pe_int (pa_cons (pv 0) pa_nil))))) pa_nil))))
      (pss_cons (ps_set (i := 3) sc_law_counts_right.nd rfl (.inl rfl) (pe_op op_cat (pv 3) (pe_lst (pa_cons (pe_ask (P := P) (w := w) (K := K) (mg := mg) (base := base) (k := 4) (Ts := tsL A) (a := "_law_six") (q := qLam "_law_counts_right" (defScope s_law_counts_right)) TB (by rfl) (by rfl) (by rfl) (by rfl) tl_law_counts_right_m (tl_law_counts_right_u T) (by rfl) (by decide) ⟨rfl, rfl, rfl, by decide +kernel, rfl, by decide +kernel, by decide +kernel⟩ (fun _ _ _ _ => rfl) (fun f cd Ar outer s H E hr2 => (pe_call (ok_told (P := P) (w := w) (base := base) T) (hr2.mono (by decide)) (by rfl) T.g_told T.f_told.kp T.b_told .nil (L2.passes_call (L2.takes_of rfl rfl rfl rfl) (fun _ _ _ _ h => h)) (pa_cons pe_int (pa_cons (pv 0) (pa_cons pe_non pa_nil)))))) pa_nil))))
      (pss_cons (ps_set (i := 3) sc_law_counts_right.nd rfl (.inl rfl) (pe_op op_cat (pv 3) (pe_lst (pa_cons (pe_ask (P := P) (w := w) (K := K) (mg := mg) (base := base) (k := 4) (Ts := tsL A) (a := "_law_it") (q := qLam "_law_counts_right" (defScope s_law_counts_right)) TB (by rfl) (by rfl) (by rfl) (by rfl) tl_law_counts_right_m (tl_law_counts_right_u T) (by rfl) (by decide) ⟨rfl, rfl, rfl, by decide +kernel, rfl, by decide +kernel, by decide +kernel⟩ (fun _ _ _ _ => rfl) (fun f cd Ar outer s H E hr2 => (pe_call (ok_answer (P := P) (w := w) (base := base) T) (hr2.mono (by decide)) (by rfl) T.g_answer T.f_answer.kp T.b_answer .nil (L2.passes_call (L2.takes_of rfl rfl rfl rfl) (fun _ _ _ _ h => h)) (pa_cons pe_int (pa_cons (pv 0) (pa_cons pe_non (pa_cons pe_non pa_nil))))))) (pa_cons (pe_ask (P := P) (w := w) (K := K) (mg := mg) (base := base) (k := 4) (Ts := tsL A) (a := "_law_me") (q := qLam "_law_counts_right" (defScope s_law_counts_right)) TB (by rfl) (by rfl) (by rfl) (by rfl) tl_law_counts_right_m (tl_law_counts_right_u T) (by rfl) (by decide) ⟨rfl, rfl, rfl, by decide +kernel, rfl, by decide +kernel, by decide +kernel⟩ (fun _ _ _ _ => rfl) (fun f cd Ar outer s H E hr2 => (pe_call (ok_tried (P := P) (w := w) (base := base) T) (hr2.mono (by decide)) (by rfl) T.g_tried T.f_tried.kp T.b_tried .nil (L2.passes_call (L2.takes_of rfl rfl rfl rfl) (fun _ _ _ _ h => h)) (pa_cons pe_int (pa_cons (pv 0) (pa_cons pe_non pa_nil)))))) pa_nil)))))
      (pss_one (ps_if (pt_cmpR (op_neD hr.units) (pe_lc (own := [("_law_ask", 5)]) (g := (gName 5)) (tt := tYes) (by rfl) sc_law_counts_right.nd (pi_list (pv 3)) (blkOk_by (own := [("_law_ask", 5)]) (N := ["_law_n", "_law_far", "_law_bad", "_law_asks", "_law_many", "_law_ask"]) (sc := defScope s_law_counts_right) (by decide +kernel)) (fun _ _ _ _ _ => (pg_name (i := 5) sc_law_counts_right.nd rfl (.inl rfl))) (fun _ _ _ _ _ => pts_nil) (fun _ _ _ _ _ => (pe_call (ok_law_word (P := P) (w := w) (base := base) T) (hr.mono (by decide)) (by rfl) T.g_law_word T.f_law_word.kp T.b_law_word .nil pass0 (pa_cons (pv 5) (pa_cons (pv 2) pa_nil))))) (pe_op op_rep (pe_lst (pa_cons pe_str pa_nil)) pe_int) (nomark _)) (pss_one (ps_ret pe_bl)) pss_nil))))))
      (pss_cons (ps_for PassesOwn.never rfl (pi_tup (pe_tup (pa_cons (pe_un un_neg pe_int) (pa_cons (pe_op op_add (pe_op op_pow pe_int pe_int) pe_int) (pa_cons pe_bl (pa_cons pe_non pa_nil)))))) (pg_name (i := 2) sc_law_counts_right.nd rfl (.inr rfl))
        (pss_cons (ps_set (i := 3) sc_law_counts_right.nd rfl (.inl rfl) (pe_lst (pa_cons (pe_ask (P := P) (w := w) (K := K) (mg := mg) (base := base) (k := 4) (Ts := tsL A) (a := "_law_one") (q := qLam "_law_counts_right" (defScope s_law_counts_right)) TB (by rfl) (by rfl) (by rfl) (by rfl) tl_law_counts_right_m (tl_law_counts_right_u T) (by rfl) (by decide) ⟨rfl, rfl, rfl, by decide +kernel, rfl, by decide +kernel, by decide +kernel⟩ (fun _ _ _ _ => rfl) (fun f cd Ar outer s H E hr2 => (pe_call (ok_reach (P := P) (w := w) (base := base) T) (hr2.mono (by decide)) (by rfl) T.g_reach T.f_reach.kp T.b_reach .nil (L2.passes_call (L2.takes_of rfl rfl rfl rfl) (fun _ _ _ _ h => h)) (pa_cons (pv 0) (pa_cons pe_non pa_nil))))) (pa_cons (pe_ask (P := P) (w := w) (K := K) (mg := mg) (base := base) (k := 4) (Ts := tsL A) (a := "_law_six") (q := qLam "_law_counts_right" (defScope s_law_counts_right)) TB (by rfl) (by rfl) (by rfl) (by rfl) tl_law_counts_right_m (tl_law_counts_right_u T) (by rfl) (by decide) ⟨rfl, rfl, rfl, by decide +kernel, rfl, by decide +kernel, by decide +kernel⟩ (fun _ _ _ _ => rfl) (fun f cd Ar outer s H E hr2 => (pe_call (ok_told (P := P) (w := w) (base := base) T) (hr2.mono (by decide)) (by rfl) T.g_told T.f_told.kp T.b_told .nil (L2.passes_call (L2.takes_of rfl rfl rfl rfl) (fun _ _ _ _ h => h)) (pa_cons pe_int (pa_cons pe_int (pa_cons (pv 0) pa_nil)))))) (pa_cons (pe_ask (P := P) (w := w) (K := K) (mg := mg) (base := base) (k := 4) (Ts := tsL A) (a := "_law_it") (q := qLam "_law_counts_right" (defScope s_law_counts_right)) TB (by rfl) (by rfl) (by rfl) (by rfl) tl_law_counts_right_m (tl_law_counts_right_u T) (by rfl) (by decide) ⟨rfl, rfl, rfl, by decide +kernel, rfl, by decide +kernel, by decide +kernel⟩ (fun _ _ _ _ => rfl) (fun f cd Ar outer s H E hr2 => (pe_call (ok_answer (P := P) (w := w) (base := base) T) (hr2.mono (by decide)) (by rfl) T.g_answer T.f_answer.kp T.b_answer .nil (L2.passes_call (L2.takes_of rfl rfl rfl rfl) (fun _ _ _ _ h => h)) (pa_cons pe_int (pa_cons pe_int (pa_cons (pv 0) (pa_cons pe_non pa_nil))))))) pa_nil)))))
      (pss_one (ps_if (pt_cmpR (op_neD hr.units) (pe_lc (own := [("_law_ask", 5)]) (g := (gName 5)) (tt := tYes) (by rfl) sc_law_counts_right.nd (pi_list (pv 3)) (blkOk_by (own := [("_law_ask", 5)]) (N := ["_law_n", "_law_far", "_law_bad", "_law_asks", "_law_many", "_law_ask"]) (sc := defScope s_law_counts_right) (by decide +kernel)) (fun _ _ _ _ _ => (pg_name (i := 5) sc_law_counts_right.nd rfl (.inl rfl))) (fun _ _ _ _ _ => pts_nil) (fun _ _ _ _ _ => (pe_call (ok_law_word (P := P) (w := w) (base := base) T) (hr.mono (by decide)) (by rfl) T.g_law_word T.f_law_word.kp T.b_law_word .nil pass0 (pa_cons (pv 5) (pa_cons (pv 2) pa_nil))))) (pe_op op_rep (pe_lst (pa_cons pe_str pa_nil)) pe_int) (nomark _)) (pss_one (ps_ret pe_bl)) pss_nil))))
      (pss_one (ps_ret (pe_cmpR (op_eqD hr.units) (pe_lc (own := [("_law_many", 4)]) (g := (gName 4)) (tt := tYes) (by rfl) sc_law_counts_right.nd (pi_tup (pe_tup (pa_cons pe_int (pa_cons pe_int (pa_cons (pe_op op_pow pe_int pe_int) pa_nil))))) (blkOk_by (own := [("_law_many", 4)]) (N := ["_law_n", "_law_far", "_law_bad", "_law_asks", "_law_many", "_law_ask"]) (sc := defScope s_law_counts_right) (by decide +kernel)) (fun _ _ _ _ _ => (pg_name (i := 4) sc_law_counts_right.nd rfl (.inl rfl))) (fun _ _ _ _ _ => pts_nil) (fun _ _ _ _ _ => (pe_call (ok_law_word (P := P) (w := w) (base := base) T) (hr.mono (by decide)) (by rfl) T.g_law_word T.f_law_word.kp T.b_law_word .nil pass0 (pa_cons (pe_ask (P := P) (w := w) (K := K) (mg := mg) (base := base) (k := 4) (Ts := tsL A) (a := "_law_it") (q := qLam "_law_counts_right" (defScope s_law_counts_right)) TB (by rfl) (by rfl) (by rfl) (by rfl) tl_law_counts_right_m (tl_law_counts_right_u T) (by rfl) (by decide) ⟨rfl, rfl, rfl, by decide +kernel, rfl, by decide +kernel, by decide +kernel⟩ (fun _ _ _ _ => rfl) (fun f cd Ar outer s H E hr2 => (pe_call (ok_fewest (P := P) (w := w) (base := base) T) (hr2.mono (by decide)) (by rfl) T.g_fewest T.f_fewest.kp T.b_fewest .nil (L2.passes_call (L2.takes_of rfl rfl rfl rfl) (fun _ _ _ _ h => h)) (pa_cons (pv 0) (pa_cons pe_int pa_nil))))) (pa_cons (pv 4) pa_nil))))) (pe_lst (pa_cons pe_str (pa_cons pe_str (pa_cons pe_str pa_nil)))) (nomark _)))))))))))))))), ?_⟩
    have pw : ∀ {H : Hp} (b i : Nat), i ≤ 100 → b = 10 ∨ b = 2 → RV (rI CPow fun i j => .int (i ^ j.toNat)) (.int (b : Int)) (.int (i : Int)) H (.int ((b : Int) ^ ((i : Int)).toNat)) := fun {H} b i hi hb => rv_I ⟨by omega, by omega, by rcases hb with rfl | rfl <;> decide⟩
    have hn40 : n ≤ 10 ^ 40 := Nat.le_trans hn (by decide)
    have hn60 : n ≤ 10 ^ 60 := Nat.le_trans hn (by decide)
    refine q_asg (v := .int ((10 ^ 40 : Nat) : Int)) (ev_op ev_c ev_c (pw 10 40 (by decide) (.inl rfl))) fun H1 e1 => ?_
    refine q_neP (pl_ints [0, 5, (n : Int), 7, 10, 0])
      (el_lst (ea_cons (ev_reach (a := 0) (b := 300) (ea_cons ev_c (ea_cons ev_c ea_nil)) (by decide) (by decide) (by rw [R_zero_t]; rfl)) (ea_cons (ev_reach (a := 5) (b := 1) (ea_cons ev_c (ea_cons ev_c ea_nil)) (by decide) (by decide) (by rw [R_one]; rfl)) (ea_cons (ev_reach (a := n) (b := 1) (ea_cons (ev_var rfl) (ea_cons ev_c ea_nil)) hn40 (by decide) (by rw [R_one]))
        (ea_cons (ev_reach (a := 3) (b := 300) (ea_cons ev_c (ea_cons ev_c ea_nil)) (by decide) (by decide) (by decide +kernel)) (ea_cons (ev_reach (a := 4) (b := 2) (ea_cons ev_c (ea_cons ev_c ea_nil)) (by decide) (by decide) (by decide +kernel)) (ea_cons (ev_reach (a := n) (b := 0) (ea_cons (ev_var rfl) (ea_cons ev_c ea_nil)) hn40 (by decide) rfl) ea_nil)))))) (by show 6 ≤ 100000; decide))
      (el_lst (ea_cons ev_c (ea_cons ev_c (ea_cons (ev_var rfl) (ea_cons ev_c (ea_cons ev_c (ea_cons ev_c ea_nil)))))) (by show 6 ≤ 100000; decide)) fun H2 e2 => ?_
    refine q_neP (pl_ints [((10 ^ 40 : Nat) : Int), ((10 ^ 40 : Nat) : Int) * (((10 ^ 40 : Nat) : Int) + 1) / 2, 0])
      (el_lst (ea_cons (ev_reach (a := 10 ^ 40) (b := 1) (ea_cons (ev_var rfl) (ea_cons ev_c ea_nil)) (Nat.le_refl _) (by decide) (by rw [R_one])) (ea_cons (ev_reach (a := 10 ^ 40) (b := 2) (ea_cons (ev_var rfl) (ea_cons ev_c ea_nil)) (Nat.le_refl _) (by decide) R_far2) (ea_cons (ev_reach (a := 10 ^ 40) (b := 0) (ea_cons (ev_var rfl) (ea_cons ev_c ea_nil)) (Nat.le_refl _) (by decide) rfl) ea_nil))) (by show 3 ≤ 100000; decide))
      (el_lst (ea_cons (ev_var rfl) (ea_cons (ev_op (ev_op (ev_var rfl) (ev_op (ev_var rfl) ev_c rv_I0) (rv_I (mulx_ok (a := 200) (b := 200) (by decide) (by decide) (by decide)))) ev_c (rv_I (wide_div (b := 30) (by decide) (by decide) (by decide) (by decide)))) (ea_cons ev_c ea_nil))) (by show 3 ≤ 100000; decide)) fun H3 e3 => ?_
    refine q_neP (pl_ints [((2 ^ 200 - 1 : Nat) : Int), 0, 30])
      (el_lst (ea_cons (ev_reach (a := 200) (b := 300) (ea_cons ev_c (ea_cons ev_c ea_nil)) (by decide) (by decide) (by rw [R_200])) (ea_cons (ev_reach (a := 0) (b := 0) (ea_cons ev_c (ea_cons ev_c ea_nil)) (by decide) (by decide) rfl) (ea_cons (ev_reach (a := 5) (b := 4) (ea_cons ev_c (ea_cons ev_c ea_nil)) (by decide) (by decide) (by decide +kernel)) ea_nil))) (by show 3 ≤ 100000; decide))
      (el_lst (ea_cons (ev_is (ev_op (ev_op (ev_op (ev_op (ev_op ev_c ev_c (pw 2 50 (by decide) (.inr rfl))) (ev_op ev_c ev_c (pw 2 50 (by decide) (.inr rfl))) (rv_I (mulx_ok (a := 60) (b := 60) (by decide +kernel) (by decide +kernel) (by decide)))) (ev_op ev_c ev_c (pw 2 50 (by decide) (.inr rfl))) (rv_I (mulx_ok (a := 120) (b := 60) (by decide +kernel) (by decide +kernel) (by decide)))) (ev_op ev_c ev_c (pw 2 50 (by decide) (.inr rfl))) (rv_I (mulx_ok (a := 180) (b := 60) (by decide +kernel) (by decide +kernel) (by decide)))) ev_c rv_I0) (congrArg V.int (by decide +kernel))) (ea_cons ev_c (ea_cons ev_c ea_nil))) (by show 3 ≤ 100000; decide)) fun H4 e4 => ?_
    refine q_neP (pl_ints [0, 0, 1])
      (el_lst (ea_cons (ev_few (a := 0) (b := 0) (ea_cons ev_c (ea_cons ev_c ea_nil)) (by decide) (by decide) (.inr rfl) (by rw [fw_zero]; rfl)) (ea_cons (ev_few (a := 0) (b := 300) (ea_cons ev_c (ea_cons ev_c ea_nil)) (by decide) (by decide) (.inr rfl) (by rw [fw_zero]; rfl)) (ea_cons (ev_few (a := 1) (b := 1) (ea_cons ev_c (ea_cons ev_c ea_nil)) (by decide) (by decide) (.inl (by decide)) (by rw [fw_1]; rfl)) ea_nil))) (by show 3 ≤ 100000; decide))
      (el_lst (ea_cons ev_c (ea_cons ev_c (ea_cons ev_c ea_nil))) (by show 3 ≤ 100000; decide)) fun H5 e5 => ?_
    refine q_neP (pl_ints [(n : Int), 14, 3])
      (el_lst (ea_cons (ev_few (a := n) (b := 1) (ea_cons (ev_var rfl) (ea_cons ev_c ea_nil)) hn60 (by decide) (.inl (by decide)) (by rw [fw_1])) (ea_cons (ev_few (a := 100) (b := 2) (ea_cons ev_c (ea_cons ev_c ea_nil)) (by decide) (by decide) (.inl (by decide)) (by rw [fw_100]; rfl)) (ea_cons (ev_few (a := 7) (b := 300) (ea_cons ev_c (ea_cons ev_c ea_nil)) (by decide) (by decide) (.inl (by decide)) (by rw [fw_7]; rfl)) ea_nil))) (by show 3 ≤ 100000; decide))
      (el_lst (ea_cons (ev_var rfl) (ea_cons ev_c (ea_cons ev_c ea_nil))) (by show 3 ≤ 100000; decide)) fun H6 e6 => ?_
    refine q_neP (pl_ints [4, ((10 ^ 60 : Nat) : Int), 200])
      (el_lst (ea_cons (ev_few (a := 8) (b := 3) (ea_cons ev_c (ea_cons ev_c ea_nil)) (by decide) (by decide) (.inl (by decide)) (fwn (t := 4) (by decide +kernel))) (ea_cons (ev_few (a := 10 ^ 60) (b := 1) (ea_cons (ev_op ev_c ev_c (pw 10 60 (by decide) (.inl rfl))) (ea_cons ev_c ea_nil)) (Nat.le_refl _) (by decide) (.inl (by decide)) (by rw [fw_1])) (ea_cons (ev_few (a := 10 ^ 60) (b := 300) (ea_cons (ev_op ev_c ev_c (pw 10 60 (by decide) (.inl rfl))) (ea_cons ev_c ea_nil)) (Nat.le_refl _) (by decide) (.inl (by decide)) (by rw [fw_60 (by decide)]; rfl)) ea_nil))) (by show 3 ≤ 100000; decide))
      (el_lst (ea_cons ev_c (ea_cons (ev_op ev_c ev_c (pw 10 60 (by decide) (.inl rfl))) (ea_cons ev_c ea_nil))) (by show 3 ≤ 100000; decide)) fun H7 e7 => ?_
    refine q_neP (pl_ints [3, 4, 1])
      (el_lst (ea_cons (ev_few (a := 6) (b := 2) (ea_cons ev_c (ea_cons ev_c ea_nil)) (by decide) (by decide) (.inl (by decide)) (fwn (t := 3) (by decide +kernel))) (ea_cons (ev_few (a := 7) (b := 2) (ea_cons ev_c (ea_cons ev_c ea_nil)) (by decide) (by decide) (.inl (by decide)) (fwn (t := 4) (by decide +kernel))) (ea_cons (ev_few (a := 1) (b := 300) (ea_cons ev_c (ea_cons ev_c ea_nil)) (by decide) (by decide) (.inl (by decide)) (fwn (t := 1) (by decide +kernel))) ea_nil))) (by show 3 ≤ 100000; decide))
      (el_lst (ea_cons ev_c (ea_cons ev_c (ea_cons ev_c ea_nil))) (by show 3 ≤ 100000; decide)) fun H8 e8 => ?_
    refine q_neP (pl_ints [0, 1, 1, 2, 2, 2, 3, 2])
      (el_lcTU (xs := [.int 0, .int 1, .int 2, .int 3, .int 4, .int 6, .int 7, .int 8]) (eu_tup (ea_cons ev_c (ea_cons ev_c (ea_cons ev_c (ea_cons ev_c (ea_cons ev_c (ea_cons ev_c (ea_cons ev_c (ea_cons ev_c ea_nil)))))))) (by show 8 ≤ 100000; decide)) rfl (by show 8 ≤ 40000; decide) (fun _ => rfl) fun i x y H9 e9 hx hy => ?_)
      (el_lst (ea_cons ev_c (ea_cons ev_c (ea_cons ev_c (ea_cons ev_c (ea_cons ev_c (ea_cons ev_c (ea_cons ev_c (ea_cons ev_c ea_nil)))))))) (by show 8 ≤ 100000; decide)) fun H9 e9 => ?_
    · obtain ⟨a, b, rfl, rfl, hm⟩ : ∃ a b : Nat, x = .int (a : Int) ∧ y = .int (b : Int) ∧ (a, b) ∈ ([(0, 0), (1, 1), (2, 1), (3, 2), (4, 2), (6, 2), (7, 3), (8, 2)] : List (Nat × Nat)) := by
        have hlt : i < 8 := (List.getElem?_eq_some_iff.mp hx).1
        rcases (show i = 0 ∨ i = 1 ∨ i = 2 ∨ i = 3 ∨ i = 4 ∨ i = 5 ∨ i = 6 ∨ i = 7 by omega) with rfl | rfl | rfl | rfl | rfl | rfl | rfl | rfl <;> (cases hx; cases hy)
        · exact ⟨0, 0, rfl, rfl, by decide⟩
        · exact ⟨1, 1, rfl, rfl, by decide⟩
        · exact ⟨2, 1, rfl, rfl, by decide⟩
        · exact ⟨3, 2, rfl, rfl, by decide⟩
        · exact ⟨4, 2, rfl, rfl, by decide⟩
        · exact ⟨6, 2, rfl, rfl, by decide⟩
        · exact ⟨7, 3, rfl, rfl, by decide⟩
        · exact ⟨8, 2, rfl, rfl, by decide⟩
      obtain ⟨z1, z2⟩ := gw_8 _ hm
      exact ev_px (ea_cons (ev_var rfl) ea_nil) ⟨a, b, rfl, z1, z2, rfl⟩
    have hT9 : LamX.Tabs (tsL A) H9 := hT.ext ((((((((e1.trans e2).trans e3).trans e4).trans e5).trans e6).trans e7).trans e8).trans e9)
    clear hT e1 e2 e3 e4 e5 e6 e7 e8 e9
    -- no storeys
    refine q_forTn (en_tupB (n := 6) BadM.mono (eab_cons (Pv := fun v H => Bad H v 0 (10 ^ 60)) BadM.mono (en_ev (ev_un ev_c ru_neg) fun _ _ => bad_int (by decide)) (eab_cons BadM.mono (en_ev (ev_op (ev_op ev_c ev_c (pw 10 60 (by decide) (.inl rfl))) ev_c rv_I0) fun _ _ => bad_int (by decide +kernel)) (eab_cons BadM.mono (en_ev ev_c fun _ _ => .inl (odd_bl _)) (eab_cons BadM.mono (en_ev ev_c fun _ _ => .inl odd_non)
      (eab_cons BadM.mono (en_ev ev_c fun _ _ => .inl (odd_str _)) (eab_cons BadM.mono (en_evU (eu_tup (ea_cons ev_c ea_nil) (by show 1 ≤ 100000; decide)) fun p H1 h1 => .inl (.inr (.inr (.inr ⟨p, rfl, .inr (.inl ⟨_, h1⟩)⟩)))) eab_nil)))))) (by decide)) fun v Ha ea hv => ?_
    obtain ⟨p, us, rfl, _, hp, hul, hu⟩ := hv
    refine ⟨p, us, fun _ σ' H' => ∃ y2 y3, σ' = [some (.int (n : Int)), some (.int ((10 ^ 40 : Nat) : Int)), y2, y3, none, none] ∧ LamX.ExtN Ha H' ∧ LamX.Tabs (tsL A) H', rfl, st_of hp, ⟨_, _, rfl, LamX.ExtN.refl _, hT9.ext ea⟩, fun i σ' H' _ q => by obtain ⟨_, _, _, q, _⟩ := q; exact st_of (exn_t q hp), ?_, ?_⟩
    · rintro i x σ' H' hx ⟨y2, y3, rfl, eH, hT'⟩
      have hb : Bad H' x 0 (10 ^ 60) := (hu x (List.mem_of_getElem? hx)).monoN eH
      refine q_asks hT' (eq_cons (eq_cons eq_nil)) (by show 2 ≤ 100000; decide) fun l1 f1 Hb eb Tb hl1 ha1 => ?_
      refine q_asksCat Tb hl1 ha1 rfl (eq_cons eq_nil) (by show 3 ≤ 100000; decide) fun l2 f2 Hc ec Tc hl2 ha2 => ?_
      refine q_asksCat Tc hl2 ha2 rfl (eq_cons (eq_cons eq_nil)) (by show 5 ≤ 100000; decide) fun l3 f3 Hd ed Td hl3 ha3 => ?_
      have hb : Bad Hd x 0 (10 ^ 60) := ((hb.monoN eb).monoN ec).monoN ed
      refine s_neP (words_pl [0, 0, 0, 0, 0] (by decide +kernel) (by decide +kernel)) (el_words (v := x) hl3 ha3
        ⟨does 0 (by decide) fun H1 e1 E kE => er_px (ea_cons (ev_var rfl) (ea_cons ev_c ea_nil)) (fun H2 e2 => ⟨_, _, rfl, .inl ⟨hb.mono (e1.trans e2), rfl⟩⟩) kE,
         does 0 (by decide) fun H1 e1 E kE => er_px (ea_cons (ev_var rfl) ea_nil) (fun H2 e2 => ⟨_, rfl, hb.mono (e1.trans e2), rfl⟩) kE,
         does 0 (by decide) fun H1 e1 E kE => er_nx (ea_cons (ev_var rfl) (ea_cons ev_c (ea_cons ev_c ea_nil))) (fun H2 e2 => ⟨_, _, _, rfl, .inl ⟨hb.mono (e1.trans e2), rfl⟩⟩) kE,
         does 0 (by decide) fun H1 e1 E kE => er_px (ea_cons (ev_var rfl) (ea_cons ev_c (ea_cons ev_c (ea_cons ev_c ea_nil)))) (fun H2 e2 => ⟨_, _, _, _, rfl, .inl ⟨hb.mono (e1.trans e2), rfl⟩⟩) kE,
         does 0 (by decide) fun H1 e1 E kE => er_nx (ea_cons (ev_var rfl) (ea_cons ev_c (ea_cons ev_c ea_nil))) (fun H2 e2 => ⟨_, _, _, rfl, .inl ⟨_, _, rfl, .inl ⟨hb.mono (e1.trans e2), rfl⟩⟩⟩) kE, trivial⟩ (by show 5 ≤ 40000; decide) (ev_var rfl) (fun _ => rfl) (fun _ => rfl) (fun _ _ => ev_var rfl))
        (el_is (el_rep (n := 5) (el_lst (ea_cons ev_c ea_nil) (by show 1 ≤ 100000; decide)) (by decide) (by show 1 * 5 ≤ 100000; decide)) rfl) fun He ee => ⟨_, _, rfl, (((eH.trans eb).trans ec).trans ed).trans (.of ee), Td.ext ee⟩
    rintro σ' H' ⟨y2, y3, rfl, eH, hT'⟩
    clear hT9 eH hp hu hul ea
    -- no glasses
    refine q_forTn (en_tupB (n := 4) BadM.mono (eab_cons (Pv := fun v H => Bad H v 0 300) BadM.mono (en_ev (ev_un ev_c ru_neg) fun _ _ => bad_int (by decide)) (eab_cons BadM.mono (en_ev ev_c fun _ _ => bad_int (by decide)) (eab_cons BadM.mono (en_ev ev_c fun _ _ => .inl (odd_bl _)) (eab_cons BadM.mono (en_ev ev_c fun _ _ => .inl odd_non) eab_nil)))) (by decide)) fun v Ha ea hv => ?_
    obtain ⟨p, us, rfl, _, hp, hul, hu⟩ := hv
    refine ⟨p, us, fun _ σ' H' => ∃ y2 y3, σ' = [some (.int (n : Int)), some (.int ((10 ^ 40 : Nat) : Int)), y2, y3, none, none] ∧ LamX.ExtN Ha H' ∧ LamX.Tabs (tsL A) H', rfl, st_of hp, ⟨_, _, rfl, LamX.ExtN.refl _, hT'.ext ea⟩, fun i σ' H' _ q => by obtain ⟨_, _, _, q, _⟩ := q; exact st_of (exn_t q hp), ?_, ?_⟩
    · rintro i x σ' H' hx ⟨y2, y3, rfl, eH, hT'⟩
      have hb : Bad H' x 0 300 := (hu x (List.mem_of_getElem? hx)).monoN eH
      refine q_asks hT' (eq_cons (eq_cons eq_nil)) (by show 2 ≤ 100000; decide) fun l1 f1 Hb eb Tb hl1 ha1 => ?_
      refine q_asksCat Tb hl1 ha1 rfl (eq_cons eq_nil) (by show 3 ≤ 100000; decide) fun l2 f2 Hc ec Tc hl2 ha2 => ?_
      refine q_asksCat Tc hl2 ha2 rfl (eq_cons (eq_cons eq_nil)) (by show 5 ≤ 100000; decide) fun l3 f3 Hd ed Td hl3 ha3 => ?_
      have hb : Bad Hd x 0 300 := ((hb.monoN eb).monoN ec).monoN ed
      refine s_neP (words_pl [1, 1, 1, 1, 1] (by decide +kernel) (by decide +kernel)) (el_words (v := x) hl3 ha3
        ⟨does 1 (by decide) fun H1 e1 E kE => er_px (ea_cons ev_c (ea_cons (ev_var rfl) ea_nil)) (fun H2 e2 => ⟨_, _, rfl, .inr ⟨5, rfl, by decide, hb.mono (e1.trans e2), rfl⟩⟩) kE,
         does 1 (by decide) fun H1 e1 E kE => er_px (ea_cons ev_c (ea_cons (ev_var rfl) ea_nil)) (fun H2 e2 => ⟨_, _, rfl, .inr ⟨3, rfl, by decide, .inl ⟨hb.mono (e1.trans e2), rfl⟩⟩⟩) kE,
         does 1 (by decide) fun H1 e1 E kE => er_nx (ea_cons ev_c (ea_cons (ev_var rfl) (ea_cons ev_c ea_nil))) (fun H2 e2 => ⟨_, _, _, rfl, .inr ⟨3, rfl, by decide, .inl ⟨hb.mono (e1.trans e2), rfl⟩⟩⟩) kE,
         does 1 (by decide) fun H1 e1 E kE => er_px (ea_cons ev_c (ea_cons (ev_var rfl) (ea_cons ev_c (ea_cons ev_c ea_nil)))) (fun H2 e2 => ⟨_, _, _, _, rfl, .inr ⟨3, rfl, by decide, .inl ⟨hb.mono (e1.trans e2), rfl⟩⟩⟩) kE,
         does 1 (by decide) fun H1 e1 E kE => er_nx (ea_cons ev_c (ea_cons (ev_var rfl) (ea_cons ev_c ea_nil))) (fun H2 e2 => ⟨_, _, _, rfl, .inl ⟨_, _, rfl, .inr ⟨3, rfl, by decide, .inl ⟨hb.mono (e1.trans e2), rfl⟩⟩⟩⟩) kE, trivial⟩ (by show 5 ≤ 40000; decide) (ev_var rfl) (fun _ => rfl) (fun _ => rfl) (fun _ _ => ev_var rfl))
        (el_is (el_rep (n := 5) (el_lst (ea_cons ev_c ea_nil) (by show 1 ≤ 100000; decide)) (by decide) (by show 1 * 5 ≤ 100000; decide)) rfl) fun He ee => ⟨_, _, rfl, (((eH.trans eb).trans ec).trans ed).trans (.of ee), Td.ext ee⟩
    rintro σ' H' ⟨y2, y3, rfl, eH, hT'⟩
    clear eH hp hu hul ea
    -- no tries
    refine q_forTn (en_tupB (n := 4) BadM.mono (eab_cons (Pv := fun v H => Bad H v 0 (10 ^ 40)) BadM.mono (en_ev (ev_un ev_c ru_neg) fun _ _ => bad_int (by decide)) (eab_cons BadM.mono (en_ev (ev_op (ev_op ev_c ev_c (pw 10 40 (by decide) (.inl rfl))) ev_c rv_I0) fun _ _ => bad_int (by decide +kernel)) (eab_cons BadM.mono (en_ev ev_c fun _ _ => .inl (odd_bl _)) (eab_cons BadM.mono (en_ev ev_c fun _ _ => .inl odd_non) eab_nil)))) (by decide)) fun v Ha ea hv => ?_
    obtain ⟨p, us, rfl, _, hp, hul, hu⟩ := hv
    refine ⟨p, us, fun _ σ' H' => ∃ y2 y3, σ' = [some (.int (n : Int)), some (.int ((10 ^ 40 : Nat) : Int)), y2, y3, none, none] ∧ LamX.ExtN Ha H' ∧ LamX.Tabs (tsL A) H', rfl, st_of hp, ⟨_, _, rfl, LamX.ExtN.refl _, hT'.ext ea⟩, fun i σ' H' _ q => by obtain ⟨_, _, _, q, _⟩ := q; exact st_of (exn_t q hp), ?_, ?_⟩
    · rintro i x σ' H' hx ⟨y2, y3, rfl, eH, hT'⟩
      have hb : Bad H' x 0 (10 ^ 40) := (hu x (List.mem_of_getElem? hx)).monoN eH
      refine q_asks hT' (eq_cons (eq_cons (eq_cons eq_nil))) (by show 3 ≤ 100000; decide) fun l1 f1 Hd ed Td hl1 ha1 => ?_
      have hb : Bad Hd x 0 (10 ^ 40) := hb.monoN ed
      refine s_neP (words_pl [2, 2, 2] (by decide +kernel) (by decide +kernel)) (el_words (v := x) hl1 ha1
        ⟨does 2 (by decide) fun H1 e1 E kE => er_px (ea_cons (ev_var rfl) (ea_cons ev_c ea_nil)) (fun H2 e2 => ⟨_, _, rfl, .inl ⟨hb.mono (e1.trans e2), rfl⟩⟩) kE,
         does 2 (by decide) fun H1 e1 E kE => er_nx (ea_cons ev_c (ea_cons ev_c (ea_cons (ev_var rfl) ea_nil))) (fun H2 e2 => ⟨_, _, _, rfl, .inr ⟨3, rfl, by decide, .inr ⟨1, rfl, by decide, hb.mono (e1.trans e2), rfl⟩⟩⟩) kE,
         does 2 (by decide) fun H1 e1 E kE => er_px (ea_cons ev_c (ea_cons ev_c (ea_cons (ev_var rfl) (ea_cons ev_c ea_nil)))) (fun H2 e2 => ⟨_, _, _, _, rfl, .inr ⟨3, rfl, by decide, .inr ⟨1, rfl, by decide, .inl ⟨hb.mono (e1.trans e2), rfl⟩⟩⟩⟩) kE, trivial⟩ (by show 3 ≤ 40000; decide) (ev_var rfl) (fun _ => rfl) (fun _ => rfl) (fun _ _ => ev_var rfl))
        (el_is (el_rep (n := 3) (el_lst (ea_cons ev_c ea_nil) (by show 1 ≤ 100000; decide)) (by decide) (by show 1 * 3 ≤ 100000; decide)) rfl) fun He ee => ⟨_, _, rfl, (eH.trans ed).trans (.of ee), Td.ext ee⟩
    rintro σ' H' ⟨y2, y3, rfl, eH, hT'⟩
    refine s_retLcw (cs := [7, 4, 4]) (xs := [.int 0, .int 1, .int ((10 ^ 60 : Nat) : Int)]) hT' (eu_tup (ea_cons ev_c (ea_cons ev_c (ea_cons (ev_op ev_c ev_c (pw 10 60 (by decide) (.inl rfl))) ea_nil))) (by show 3 ≤ 100000; decide)) rfl (by show 3 ≤ 40000; decide) (fun _ => rfl) (fun _ => rfl) (fun i x c hx hc H1 => ?_) fun p Hb Tb hb => ?_
    · have hlt : i < 3 := (List.getElem?_eq_some_iff.mp hx).1
      rcases (show i = 0 ∨ i = 1 ∨ i = 2 by omega) with rfl | rfl | rfl <;> (cases hx; cases hc)
      · exact done_few (E0 := ())
      · exact none_few (n := 1) (by decide) (by decide)
      · exact none_few (n := 10 ^ 60) (by decide) (Nat.le_refl _)
    · refine (el_lst (ea_cons ev_c (ea_cons ev_c (ea_cons ev_c ea_nil))) (by show 3 ≤ 100000; decide) : EvL _ _ Hb _) Hb (Ex.refl Hb) _ fun q Hc hq ec hc => ?_
      have pl := words_pl (K := K) [7, 4, 4] (by decide +kernel) (by decide +kernel)
      exact ⟨_, _, pl.1 _ _ (ec _ _ hb), pl.1 _ _ hc, pl.2.1, pl.2.1, by rw [pl.2.2]; exact k _ (Tb.ext ec)⟩
/-! ### _law_told_right -/
theorem told_shows (s g t : Nat) : (toldK s g t).shows s g t = true := by
  unfold toldK
  by_cases h : s = 0
  · subst h
    rw [if_pos rfl]
    rfl
  · rw [if_neg h]
    by_cases h2 : R t g < s
    · rw [if_pos h2]
      show (decide (((R t g : Nat) : Int) = ((R t g : Nat) : Int)) && decide (((R t g : Nat) : Int) < (s : Int))) = true
      rw [decide_eq_true rfl, decide_eq_true (show ((R t g : Nat) : Int) < (s : Int) by omega)]
      rfl
    · rw [if_neg h2]
      have gt : 0 < g ∧ 0 < t := by
        by_cases z : t = 0 ∨ g = 0
        · have := R_zero_iff z
          omega
        · omega
      have hP := R_pas gt.2 gt.1
      show showsN ((nx s g t : Nat) : Int) s g t = true
      unfold showsN nx
      have m1 := Nat.min_le_left s (R (t - 1) (g - 1) + 1)
      have m2 := Nat.min_le_right s (R (t - 1) (g - 1) + 1)
      have m3 : min s (R (t - 1) (g - 1) + 1) = s ∨ min s (R (t - 1) (g - 1) + 1) = R (t - 1) (g - 1) + 1 := by omega
      generalize min s (R (t - 1) (g - 1) + 1) = n at m1 m2 m3
      rw [if_neg (by omega), if_neg (by omega), decide_eq_true (by omega)]
theorem R_199 : R 199 300 = 2 ^ 199 - 1 := by
  have := R_full 199 300 (by decide)
  omega
theorem R_199' : R 199 299 = 2 ^ 199 - 1 := by
  have := R_full 199 299 (by decide)
  omega
theorem R_200' : R 200 300 = 2 ^ 200 - 1 := by
  have := R_full 200 300 (by decide)
  omega
theorem sh_n1 {n : Nat} (h : 1 ≤ n) : showsN 1 n 1 n = true := by
  unfold showsN
  have e0 : R (n - 1) (1 - 1) = 0 := rfl
  have e1 : R (n - 1) 1 = n - 1 := R_one _
  rw [if_neg (by omega), e0, if_neg (by decide), e1, decide_eq_true (by omega)]
theorem sh_nm {n : Nat} (h : 1 ≤ n) : showsN 1 n 1 (n - 1) = false := by
  unfold showsN
  by_cases c : n - 1 = 0
  · rw [if_pos (.inr (.inl c))]
  · have e0 : R (n - 1 - 1) (1 - 1) = 0 := rfl
    have e1 : R (n - 1 - 1) 1 = n - 1 - 1 := R_one _
    rw [if_neg (by omega), e0, if_neg (by decide), e1, decide_eq_false (by omega)]
theorem sh_sn (n : Nat) : (Kd.short (n : Int)).shows (n + 1) 1 n = true := by
  show (decide ((n : Int) = ((R n 1 : Nat) : Int)) && decide ((n : Int) < ((n + 1 : Nat) : Int))) = true
  rw [R_one, decide_eq_true rfl, decide_eq_true (by omega)]
  rfl
theorem sh_P : showsN ((2 ^ 199 : Nat) : Int) (10 ^ 60) 300 200 = true := by
  unfold showsN
  rw [show R (200 - 1) (300 - 1) = 2 ^ 199 - 1 from R_199', show R (200 - 1) 300 = 2 ^ 199 - 1 from R_199]
  decide +kernel
theorem sh_P1 : (Kd.short ((2 ^ 199 - 1 : Nat) : Int)).shows (10 ^ 60) 300 199 = true := by
  show (decide (((2 ^ 199 - 1 : Nat) : Int) = ((R 199 300 : Nat) : Int)) && decide (((2 ^ 199 - 1 : Nat) : Int) < ((10 ^ 60 : Nat) : Int))) = true
  rw [R_199]
  decide +kernel
def GR (A : Ad) (v : V) (H : Hp) : Prop := ∃ (T a : Addr) (kd : Kd) (s g t : Nat) (due : Bool), v = .ref T ∧ H T = some (.tup [.int (s : Int), .int (g : Int), .int (t : Int), .ref a, .bl due]) ∧ KdAt A H a kd ∧ t < 2 ^ 256 ∧ g ≤ 400 ∧ kd.shows s g t = due
theorem GR.mono {A : Ad} : ∀ (v : V) (H H' : Hp), GR A v H → Ex H H' → GR A v H' := fun v H H' h e => by
  obtain ⟨T, a, kd, s, g, t, due, h1, h2, h3, h4⟩ := h
  exact ⟨T, a, kd, s, g, t, due, h1, e _ _ h2, h3.mono e, h4⟩
section
variable {σ : L2.St} {H : Hp} {E : XK} {tz : TA} {ts tg tt td : TE} {s g t : Nat} {due : Bool}
theorem en_r {te : TE} {C : Addr} {fs : List (Str × V)} {kd : Kd} (h : EvI te σ H C fs) (hk : ∀ (p dx : Addr) (H1 : Hp), H1 p = some (.ins C dx fs) → KdAt A H1 p kd) (hs : Ev ts σ H (.int (s : Int))) (hg : Ev tg σ H (.int (g : Int))) (ht : Ev tt σ H (.int (t : Int))) (hd : Ev td σ H (.bl due)) (ht2 : t < 2 ^ 256) (hg2 : g ≤ 400) (hd2 : kd.shows s g t = due) : EvN (tTup (tCons ts (tCons tg (tCons tt (tCons te (tCons td tNil)))))) σ H (GR A) := fun H1 e Q q =>
  hs H1 e _ fun Ha ea => hg Ha (e.trans ea) _ fun Hb eb => ht Hb ((e.trans ea).trans eb) _ fun Hc ec => h Hc (((e.trans ea).trans eb).trans ec) _ fun p dx H2 _ e2 h2 => hd H2 ((((e.trans ea).trans eb).trans ec).trans e2) _ fun H3 e3 =>
    ⟨sz_of (by show 5 ≤ 100000; decide), fun T hT => q _ _ (((((ea.trans eb).trans ec).trans e2).trans e3).trans (Ex.new hT)) ⟨T, p, kd, s, g, t, due, rfl, upd_same, (hk p dx _ (e3 _ _ h2)).mono (Ex.new hT), ht2, hg2, hd2⟩⟩
theorem en_rN {z : Int} (hs : Ev ts σ H (.int (s : Int))) (hg : Ev tg σ H (.int (g : Int))) (ht : Ev tt σ H (.int (t : Int))) (hz : EvA tz σ H [.int z]) (hd : Ev td σ H (.bl due)) (ht2 : t < 2 ^ 256) (hg2 : g ≤ 400) (hd2 : showsN z s g t = due) : EvN (tTup (tCons ts (tCons tg (tCons tt (tCons (tMake A.a_Next (spInit A.a_Next "storey") [] E tz) (tCons td tNil)))))) σ H (GR A) :=
  en_r (kd := .next z) (ei_make hz) (fun p dx H1 h => ⟨dx, h⟩) hs hg ht hd ht2 hg2 hd2
theorem en_rS {z : Int} (hs : Ev ts σ H (.int (s : Int))) (hg : Ev tg σ H (.int (g : Int))) (ht : Ev tt σ H (.int (t : Int))) (hz : EvA tz σ H [.int z]) (hd : Ev td σ H (.bl due)) (ht2 : t < 2 ^ 256) (hg2 : g ≤ 400) (hd2 : (Kd.short z).shows s g t = due) : EvN (tTup (tCons ts (tCons tg (tCons tt (tCons (tMake A.a_Short (spInit A.a_Short "most") [] E tz) (tCons td tNil)))))) σ H (GR A) :=
  en_r (kd := .short z) (ei_make hz) (fun p dx H1 h => ⟨dx, h⟩) hs hg ht hd ht2 hg2 hd2
theorem en_rD (hs : Ev ts σ H (.int (s : Int))) (hg : Ev tg σ H (.int (g : Int))) (ht : Ev tt σ H (.int (t : Int))) (hd : Ev td σ H (.bl due)) (ht2 : t < 2 ^ 256) (hg2 : g ≤ 400) (hd2 : Kd.done.shows s g t = due) : EvN (tTup (tCons ts (tCons tg (tCons tt (tCons (tMakeN A.a_Done) (tCons td tNil)))))) σ H (GR A) :=
  en_r (kd := .done) ei_makeN (fun p dx H1 h => ⟨dx, h⟩) hs hg ht hd ht2 hg2 hd2
/-- any([.. for s, g, t, some, due in cases]), never -/
theorem ev_noneR {i1 i2 i3 i4 i5 : Nat} {vs : List Nat} {tl te : TE} {l : Addr} {us : List V} (h : Ev tl σ H (.ref l)) (hl : H l = some (.lst us)) (hu : ∀ u ∈ us, GR A u H) (hz : us.length ≤ 40000) (hw : ∀ a b c d e, wipe ((((((wipe σ vs).set i1 (some a)).set i2 (some b)).set i3 (some c)).set i4 (some d)).set i5 (some e)) vs = wipe σ vs)
    (he : ∀ (a : Addr) (kd : Kd) (s g t : Nat) (H1 : Hp), KdAt A H1 a kd → t < 2 ^ 256 → g ≤ 400 → Ev te ((((((wipe σ vs).set i1 (some (.int (s : Int)))).set i2 (some (.int (g : Int)))).set i3 (some (.int (t : Int)))).set i4 (some (.ref a))).set i5 (some (.bl (kd.shows s g t)))) H1 (.bl false)) :
    Ev (tCB (rAny K) (tCons (tLc (iList K tl) (gTup K 5 (gCons (gName i1) (gCons (gName i2) (gCons (gName i3) (gCons (gName i4) (gCons (gName i5) gNil)))))) tYes te vs) tNil)) σ H (.bl false) := fun H0 e Q q => h H0 e _ fun H1 e1 => by
  have hx := e1 _ _ (e _ _ hl)
  refine ⟨l, rfl, ⟨us, sq_of hx⟩, fun Dl hD => lc_list (K := K) (xs := us) (fun i H' => Ex H1 H' ∧ H' Dl = some (.lst ((List.replicate i false).map V.bl))) ⟨Ex.new hD, upd_same⟩ (fun i H' _ w => sq_of (w.1 _ _ hx)) (fun i x H' hi w => ?_) fun H' w => ?_⟩
  · have hlt := (List.getElem?_eq_some_iff.mp hi).1
    obtain ⟨T, a, kd, s, g, t, due, rfl, h2, h3, h4, h5, h6⟩ := GR.mono _ _ _ (hu x (List.mem_of_getElem? hi)) ((e.trans e1).trans w.1)
    subst h6
    refine g_5 h2 ⟨hw _ _ _ _ _, ?_⟩
    show te _ _ fun y H4 => ∃ acc, H4 Dl = some (.lst acc) ∧ acc.length < sizeLine ∧ _
    refine he a kd s g t H' h3 h4 h5 H' (Ex.refl H') _ fun H4 e4 => ⟨_, e4 _ _ w.2, sz_lt (by rw [List.length_map, List.length_replicate]; omega), Ex.mut (w.1.trans e4) hD, ?_⟩
    rw [upd_same, List.replicate_succ', List.map_append]
    rfl
  · refine ⟨Dl, List.replicate us.length false, rfl, sq_of w.2, ?_⟩
    have e : (List.replicate us.length false).any id = false := by
      rw [List.any_eq_false]
      intro b hb
      rw [(List.mem_replicate.mp hb).2]
      decide
    rw [e]
    exact q H' (e1.trans w.1)
theorem g_4 {i j l m : Nat} {T : Addr} {a b c d : V} {Q : L2.St → Hp → Prop} (h : H T = some (.tup [a, b, c, d])) (k : Q ((((σ.set i (some a)).set j (some b)).set l (some c)).set m (some d)) H) :
    gTup K 4 (gCons (gName i) (gCons (gName j) (gCons (gName l) (gCons (gName m) gNil)))) (.ref T) σ H Q :=
  ⟨T, _, rfl, .inl (.inl h), rfl, a, _, rfl, b, _, rfl, c, _, rfl, d, _, rfl, rfl, k⟩
theorem ev_indexL {ta tb : TE} {ys : List V} {y z : V} {j : Nat} (ha : EvL ta σ H ys) (hb : Ev tb σ H y) (f1 : flatV y = true) (f2 : ys.all flatV = true) (hj : ys[j]? = some z) (hz : eqV z y = true) (hm : ∀ (m : Nat) (z' : V), m < j → ys[m]? = some z' → eqV z' y = false) : Ev (tBM K "list" (rIndex K) ta (tCons tb tNil)) σ H (.int (j : Nat)) := fun H1 e Q q =>
  ha H1 e _ fun p H2 _ e2 h2 => ⟨Or.inl ⟨rfl, ys, sq_of h2⟩, hb H2 (e.trans e2) _ fun H3 e3 => ⟨p, ys, y, j, z, rfl, rfl, sq_of (e3 _ _ h2), f1, f2, hj, hz, hm, q H3 (e2.trans e3)⟩⟩
theorem el_cat2 {ta tb : TE} {xs ys : List V} (ha : EvL ta σ H xs) (hb : EvL tb σ H ys) (hz : xs.length + ys.length ≤ 100000) : EvL (tOp rCat ta tb) σ H (xs ++ ys) := fun H1 e Q q => ha H1 e _ fun l H2 hl e2 h2 => hb H2 (e.trans e2) _ fun b H3 _ e3 h3 =>
  ⟨l, b, xs, ys, rfl, rfl, e3 _ _ h2, h3, sz_of hz, fun p hp => q p _ (fresh_back (e2.trans e3) hp) ((e2.trans e3).trans (Ex.new hp)) upd_same⟩
theorem el_rng2 {ta : TA} {te : TE} {j : Nat} {vs : List Nat} {lo hi : Int} {ys : List V} (h : EvA ta σ H [.int lo, .int hi]) (hn : 0 ≤ lo ∧ lo ≤ 40000 ∧ 0 ≤ hi ∧ hi ≤ 40000) (hl : ys.length = (hi - lo).toNat) (hw : ∀ x, wipe ((wipe σ vs).set j (some x)) vs = wipe σ vs)
    (he : ∀ (i : Nat) y H1, ys[i]? = some y → Ev te ((wipe σ vs).set j (some (.int (lo + (i : Int))))) H1 y) :
    EvL (tLc (iRng2 ta) (gName j) tYes te vs) σ H ys := fun H0 e Q q => h H0 e _ fun H1 e1 => ⟨lo, hi, rfl, ⟨by omega, by omega, by omega, by omega⟩, fun Dl hD =>
  lc_range (lo := lo) (n := (hi - lo).toNat) (fun i H' => Ex H1 H' ∧ H' Dl = some (.lst (ys.take i))) ⟨Ex.new hD, upd_same⟩ (fun i H' hi' p => by
    have hly : i < ys.length := by omega
    have hyi : ys[i]? = some ys[i] := List.getElem?_eq_getElem hly
    show wipe ((wipe σ vs).set j (some (.int (lo + (i : Int))))) vs = wipe σ vs ∧ te ((wipe σ vs).set j (some (.int (lo + (i : Int))))) H' fun y H4 => ∃ acc, H4 Dl = some (.lst acc) ∧ acc.length < sizeLine ∧ _
    refine ⟨hw _, he i _ H' hyi H' (Ex.refl H') _ fun H4 e4 => ⟨_, e4 _ _ p.2, sz_lt (by rw [List.length_take]; omega), Ex.mut (p.1.trans e4) hD, ?_⟩⟩
    rw [upd_same, List.take_add_one, hyi]
    rfl) (fun H' p => by
    have p2 := p.2
    rw [← hl, List.take_length] at p2
    exact q Dl H' (fresh_back e1 hD) (e1.trans p.1) p2)⟩
end
theorem pl_strs (ss : List Str) (hs : SeqAt.shaped (.list (ss.map PyData.str)) = true) (he : PyData.eqv (.list (ss.map PyData.str)) (.list (ss.map PyData.str)) = true) : Pl K (ss.map V.str) (.list (ss.map PyData.str)) := ⟨fun H p h => dp_strs h, hs, he⟩
theorem st_is {t : TS} {D : Ends} {σ σ' : L2.St} {H : Hp} (e : σ = σ') (h : t D σ' H) : t D σ H := e ▸ h
def knd : Kd → Nat
  | .done => 0
  | .next _ => 1
  | .short _ => 2
theorem kd_0 (g t : Nat) : knd (toldK 0 g t) = 0 := rfl
theorem kd_1 {s g t : Nat} (h0 : 0 < s) (h : s ≤ R t g) : knd (toldK s g t) = 1 := by
  unfold toldK
  rw [if_neg (by omega), if_neg (by omega)]
  rfl
theorem kd_2 {s g t : Nat} (h : R t g < s) : knd (toldK s g t) = 2 := by
  unfold toldK
  rw [if_neg (by omega), if_pos h]
  rfl
def GK (v : V) (H : Hp) : Prop := ∃ (Tp : Addr) (s g t c : Nat), v = .ref Tp ∧ H Tp = some (.tup [.int (s : Int), .int (g : Int), .int (t : Int), .int (c : Int)]) ∧ s ≤ 10 ^ 60 ∧ g ≤ 300 ∧ t ≤ 10 ^ 40 ∧ knd (toldK s g t) = c
theorem GK.mono : ∀ (v : V) (H H' : Hp), GK v H → Ex H H' → GK v H' := fun v H H' h e => by
  obtain ⟨Tp, s, g, t, c, h1, h2, h3⟩ := h
  exact ⟨Tp, s, g, t, c, h1, e _ _ h2, h3⟩
theorem en_gk {σ : L2.St} {H : Hp} {ta : TA} {s g t c : Nat} (h : EvA ta σ H [.int (s : Int), .int (g : Int), .int (t : Int), .int (c : Int)]) (h1 : s ≤ 10 ^ 60) (h2 : g ≤ 300) (h3 : t ≤ 10 ^ 40) (h4 : knd (toldK s g t) = c) : EvN (tTup ta) σ H GK :=
  en_evU (eu_tup h (by show 4 ≤ 100000; decide)) fun p H1 hp => ⟨p, s, g, t, c, rfl, hp, h1, h2, h3, h4⟩
theorem knd_ix (kd : Kd) : ∃ z, ([V.bl kd.d, .bl kd.n, .bl kd.s] : List V)[knd kd]? = some z ∧ eqV z (.bl true) = true ∧ ∀ (m : Nat) (z' : V), m < knd kd → ([V.bl kd.d, .bl kd.n, .bl kd.s] : List V)[m]? = some z' → eqV z' (.bl true) = false := by
  cases kd with
  | done => exact ⟨_, rfl, rfl, fun m z' h => absurd h (by show ¬ m < 0; omega)⟩
  | next z =>
    refine ⟨_, rfl, rfl, fun m z' h e => ?_⟩
    have h : m < 1 := h
    obtain rfl : m = 0 := by omega
    cases e
    rfl
  | short m =>
    refine ⟨_, rfl, rfl, fun m z' h e => ?_⟩
    have h : m < 2 := h
    rcases (show m = 0 ∨ m = 1 by omega) with rfl | rfl <;> (cases e; rfl)
theorem ok_law_told_right (T : Tx K mg A) (TB : LamX.TabB base mg A.c_law_told_right A.p_law_told_right) : FnOk P w K mg base CX0 7 A.a_law_told_right A.d_law_told_right ["_law_n"] (spMk A) := by
  refine okC T.fc_law_told_right sc_law_told_right (fun vs H Q E h => ?_) (fun Ar outer s H vs Q E hr h => ?_)
  · obtain ⟨n, rfl, _⟩ := h
    rfl
  · obtain ⟨n, rfl, hn1, hn, hT, k⟩ := h
    refine ⟨_, (pss_cons (ps_set (i := 1) sc_law_told_right.nd rfl (.inl rfl) (pe_lst (pa_cons (pe_tup (pa_cons pe_int (pa_cons pe_int (pa_cons pe_int (pa_cons (pe_makeN T.k_Done (by rfl) T.g_Done) (pa_cons pe_bl pa_nil)))))) (pa_cons (pe_tup (pa_cons pe_int (pa_cons pe_int (pa_cons pe_int (pa_cons (pe_makeN T.k_Done (by rfl) T.g_Done) (pa_cons pe_bl pa_nil)))))) (pa_cons (pe_tup (pa_cons pe_int (pa_cons pe_int (pa_cons pe_int (pa_cons (pe_makeN T.k_Done (by rfl) T.g_Done) (pa_cons pe_bl pa_nil)))))) pa_nil)))))
      (pss_cons (ps_set (i := 1) sc_law_told_right.nd rfl (.inl rfl) (pe_op op_cat (pv 1) (pe_lst (pa_cons (pe_tup (pa_cons pe_int (pa_cons pe_int (pa_cons pe_int (pa_cons (pe_make T.k_Next (ok_Next__init T) (hr.mono (by decide)) (by rfl) T.g_Next T.b_Next__init .nil pass0 (pa_cons pe_int pa_nil)) (pa_cons pe_bl pa_nil)))))) (pa_cons (pe_tup (pa_cons pe_int (pa_cons pe_int (pa_cons pe_int (pa_cons (pe_make T.k_Short (ok_Short__init T) (hr.mono (by decide)) (by rfl) T.g_Short T.b_Short__init .nil pass0 (pa_cons pe_int pa_nil)) (pa_cons pe_bl pa_nil)))))) (pa_cons (pe_tup (pa_cons pe_int (pa_cons pe_int (pa_cons pe_int (pa_cons (pe_make T.k_Next (ok_Next__init T) (hr.mono (by decide)) (by rfl) T.g_Next T.b_Next__init .nil pass0 (pa_cons pe_int pa_nil)) (pa_cons pe_bl pa_nil)))))) pa_nil))))))
      (pss_cons (ps_set (i := 1) sc_law_told_right.nd rfl (.inl rfl) (pe_op op_cat (pv 1) (pe_lst (pa_cons (pe_tup (pa_cons pe_int (pa_cons pe_int (pa_cons pe_int (pa_cons (pe_make T.k_Next (ok_Next__init T) (hr.mono (by decide)) (by rfl) T.g_Next T.b_Next__init .nil pass0 (pa_cons pe_int pa_nil)) (pa_cons pe_bl pa_nil)))))) (pa_cons (pe_tup (pa_cons pe_int (pa_cons pe_int (pa_cons pe_int (pa_cons (pe_make T.k_Next (ok_Next__init T) (hr.mono (by decide)) (by rfl) T.g_Next T.b_Next__init .nil pass0 (pa_cons pe_int pa_nil)) (pa_cons pe_bl pa_nil)))))) (pa_cons (pe_tup (pa_cons pe_int (pa_cons pe_int (pa_cons pe_int (pa_cons (pe_make T.k_Next (ok_Next__init T) (hr.mono (by decide)) (by rfl) T.g_Next T.b_Next__init .nil pass0 (pa_cons pe_int pa_nil)) (pa_cons pe_bl pa_nil)))))) pa_nil))))))
      (pss_cons (ps_set (i := 1) sc_law_told_right.nd rfl (.inl rfl) (pe_op op_cat (pv 1) (pe_lst (pa_cons (pe_tup (pa_cons pe_int (pa_cons pe_int (pa_cons pe_int (pa_cons (pe_make T.k_Next (ok_Next__init T) (hr.mono (by decide)) (by rfl) T.g_Next T.b_Next__init .nil pass0 (pa_cons pe_int pa_nil)) (pa_cons pe_bl pa_nil)))))) (pa_cons (pe_tup (pa_cons pe_int (pa_cons pe_int (pa_cons pe_int (pa_cons (pe_make T.k_Next (ok_Next__init T) (hr.mono (by decide)) (by rfl) T.g_Next T.b_Next__init .nil pass0 (pa_cons pe_int pa_nil)) (pa_cons pe_bl pa_nil)))))) (pa_cons (pe_tup (pa_cons pe_int (pa_cons pe_int (pa_cons pe_int (pa_cons (pe_make T.k_Next (ok_Next__init T) (hr.mono (by decide)) (by rfl) T.g_Next T.b_Next__init .nil pass0 (pa_cons pe_int pa_nil)) (pa_cons pe_bl pa_nil)))))) pa_nil))))))
      (pss_cons (ps_set (i := 1) sc_law_told_right.nd rfl (.inl rfl) (pe_op op_cat (pv 1) (pe_lst (pa_cons (pe_tup (pa_cons pe_int (pa_cons pe_int (pa_cons pe_int (pa_cons (pe_make T.k_Next (ok_Next__init T) (hr.mono (by decide)) (by rfl) T.g_Next T.b_Next__init .nil pass0 (pa_cons pe_int pa_nil)) (pa_cons pe_bl pa_nil)))))) (pa_cons (pe_tup (pa_cons pe_int (pa_cons pe_int (pa_cons pe_int (pa_cons (pe_make T.k_Next (ok_Next__init T) (hr.mono (by decide)) (by rfl) T.g_Next T.b_Next__init .nil pass0 (pa_cons pe_int pa_nil)) (pa_cons pe_bl pa_nil)))))) (pa_cons (pe_tup (pa_cons (pv 0) (pa_cons pe_int (pa_cons (pv 0) (pa_cons (pe_make T.k_Next (ok_Next__init T) (hr.mono (by decide)) (by rfl) T.g_Next T.b_Next__init .nil pass0 (pa_cons pe_int pa_nil)) (pa_cons pe_bl pa_nil)))))) pa_nil))))))
      (pss_cons (ps_set (i := 1) sc_law_told_right.nd rfl (.inl rfl) (pe_op op_cat (pv 1) (pe_lst (pa_cons (pe_tup (pa_cons (pv 0) (pa_cons pe_int (pa_cons (pe_op op_sub (pv 0) pe_int) (pa_cons (pe_make T.k_Next (ok_Next__init T) (hr.mono (by decide)) (by rfl) T.g_Next T.b_Next__init .nil pass0 (pa_cons pe_int pa_nil)) (pa_cons pe_bl pa_nil)))))) pa_nil))))
      (pss_cons (ps_set (i := 1) sc_law_told_right.nd rfl (.inl rfl) (pe_op op_cat (pv 1) (pe_lst (pa_cons (pe_tup (pa_cons pe_int (pa_cons pe_int (pa_cons pe_int (pa_cons (pe_make T.k_Short (ok_Short__init T) (hr.mono (by decide)) (by rfl) T.g_Short T.b_Short__init .nil pass0 (pa_cons pe_int pa_nil)) (pa_cons pe_bl pa_nil)))))) (pa_cons (pe_tup (pa_cons pe_int (pa_cons pe_int (pa_cons pe_int (pa_cons (pe_make T.k_Short (ok_Short__init T) (hr.mono (by decide)) (by rfl) T.g_Short T.b_Short__init .nil pass0 (pa_cons pe_int pa_nil)) (pa_cons pe_bl pa_nil)))))) (pa_cons (pe_tup (pa_cons pe_int (pa_cons pe_int (pa_cons pe_int (pa_cons (pe_make T.k_Short (ok_Short__init T) (hr.mono (by decide)) (by rfl) T.g_Short T.b_Short__init .nil pass0 (pa_cons pe_int pa_nil)) (pa_cons pe_bl pa_nil)))))) pa_nil))))))
      (pss_cons (ps_set (i := 1) sc_law_told_right.nd rfl (.inl rfl) (pe_op op_cat (pv 1) (pe_lst (pa_cons (pe_tup (pa_cons pe_int (pa_cons pe_int (pa_cons pe_int (pa_cons (pe_make T.k_Short (ok_Short__init T) (hr.mono (by decide)) (by rfl) T.g_Short T.b_Short__init .nil pass0 (pa_cons pe_int pa_nil)) (pa_cons pe_bl pa_nil)))))) (pa_cons (pe_tup (pa_cons pe_int (pa_cons pe_int (pa_cons pe_int (pa_cons (pe_make T.k_Short (ok_Short__init T) (hr.mono (by decide)) (by rfl) T.g_Short T.b_Short__init .nil pass0 (pa_cons pe_int pa_nil)) (pa_cons pe_bl pa_nil)))))) (pa_cons (pe_tup (pa_cons pe_int (pa_cons pe_int (pa_cons pe_int (pa_cons (pe_make T.k_Short (ok_Short__init T) (hr.mono (by decide)) (by rfl) T.g_Short T.b_Short__init .nil pass0 (pa_cons pe_int pa_nil)) (pa_cons pe_bl pa_nil)))))) pa_nil))))))
      (pss_cons (ps_set (i := 1) sc_law_told_right.nd rfl (.inl rfl) (pe_op op_cat (pv 1) (pe_lst (pa_cons (pe_tup (pa_cons (pe_op op_add (pv 0) pe_int) (pa_cons pe_int (pa_cons (pv 0) (pa_cons (pe_make T.k_Short (ok_Short__init T) (hr.mono (by decide)) (by rfl) T.g_Short T.b_Short__init .nil pass0 (pa_cons (pv 0) pa_nil)) (pa_cons pe_bl pa_nil)))))) (pa_cons (pe_tup (pa_cons pe_int (pa_cons pe_int (pa_cons pe_int (pa_cons (pe_make T.k_Next (ok_Next__init T) (hr.mono (by decide)) (by rfl) T.g_Next T.b_Next__init .nil pass0 (pa_cons pe_int pa_nil)) (pa_cons pe_bl pa_nil)))))) (pa_cons (pe_tup (pa_cons pe_int (pa_cons pe_int (pa_cons pe_int (pa_cons (pe_make T.k_Next (ok_Next__init T) (hr.mono (by decide)) (by rfl) T.g_Next T.b_Next__init .nil pass0 (pa_cons pe_int pa_nil)) (pa_cons pe_bl pa_nil)))))) pa_nil))))))
      (pss_cons (ps_set (i := 1) sc_law_told_right.nd rfl (.inl rfl) (pe_op op_cat (pv 1) (pe_lst (pa_cons (pe_tup (pa_cons pe_int (pa_cons pe_int (pa_cons pe_int (pa_cons (pe_make T.k_Next (ok_Next__init T) (hr.mono (by decide)) (by rfl) T.g_Next T.b_Next__init .nil pass0 (pa_cons pe_int pa_nil)) (pa_cons pe_bl pa_nil)))))) pa_nil))))
      (pss_cons (ps_set (i := 1) sc_law_told_right.nd rfl (.inl rfl) (pe_op op_cat (pv 1) (pe_lst (pa_cons (pe_tup (pa_cons (pe_op op_pow pe_int pe_int) (pa_cons pe_int (pa_cons pe_int (pa_cons (pe_make T.k_Next (ok_Next__init T) (hr.mono (by decide)) (by rfl) T.g_Next T.b_Next__init .nil pass0 (pa_cons (pe_op op_mulX (pe_op op_mulX (pe_op op_mulX (pe_op op_pow pe_int pe_int) (pe_op op_pow pe_int pe_int)) (pe_op op_pow pe_int pe_int)) (pe_op op_pow pe_int pe_int)) pa_nil)) (pa_cons pe_bl pa_nil)))))) pa_nil))))
      (pss_cons (ps_set (i := 1) sc_law_told_right.nd rfl (.inl rfl) (pe_op op_cat (pv 1) (pe_lst (pa_cons (pe_tup (pa_cons (pe_op op_pow pe_int pe_int) (pa_cons pe_int (pa_cons pe_int (pa_cons (pe_make T.k_Short (ok_Short__init T) (hr.mono (by decide)) (by rfl) T.g_Short T.b_Short__init .nil pass0 (pa_cons (pe_op op_sub (pe_op op_mulX (pe_op op_mulX (pe_op op_mulX (pe_op op_pow pe_int pe_int) (pe_op op_pow pe_int pe_int)) (pe_op op_pow pe_int pe_int)) (pe_op op_pow pe_int pe_int)) pe_int) pa_nil)) (pa_cons pe_bl pa_nil)))))) pa_nil))))
      (pss_cons (ps_if (pt_val (pe_callB (cr_any rfl) (by rfl) T.z_any (by decide +kernel) (pa_cons (pe_lc (own := [("_law_storeys", 2), ("_law_glasses", 3), ("_law_tries", 4), ("_law_some", 5), ("_law_due", 9)]) (g := (gTup K 5 (gCons (gName 2) (gCons (gName 3) (gCons (gName 4) (gCons (gName 5) (gCons (gName 9) gNil))))))) (tt := tYes) (by rfl) sc_law_told_right.nd (pi_list (pv 1)) (blkOk_by (own := [("_law_storeys", 2), ("_law_glasses", 3), ("_law_tries", 4), ("_law_some", 5), ("_law_due", 9)]) (N := ["_law_n", "_law_cases", "_law_storeys", "_law_glasses", "_law_tries", "_law_some", "_law_kind", "_law_asks", "_law_words", "_law_due", "_law_storey", "_law_ask"]) (sc := defScope s_law_told_right) (by decide +kernel)) (fun _ _ _ _ _ => (pg_tup rfl (pgs_cons (pg_name (i := 2) sc_law_told_right.nd rfl (.inl rfl)) (pgs_cons (pg_name (i := 3) sc_law_told_right.nd rfl (.inl rfl)) (pgs_cons (pg_name (i := 4) sc_law_told_right.nd rfl (.inl rfl)) (pgs_cons (pg_name (i := 5) sc_law_told_right.nd rfl (.inl rfl)) (pgs_cons (pg_name (i := 9) sc_law_told_right.nd rfl (.inl rfl)) pgs_nil))))))) (fun _ _ _ _ _ => pts_nil) (fun _ _ _ _ _ => (pe_cmpR op_ne (pe_alt (pe_meth (pv 5) T.t_Done.cl T.m_Done_shows (ok_Done_shows T) (hr.mono (by decide)) T.b_Done_shows .nil pass0 (pa_cons (pv 2) (pa_cons (pv 3) (pa_cons (pv 4) pa_nil)))) (pe_alt (pe_meth (pv 5) T.t_Next.cl T.m_Next_shows (ok_Next_shows T) (hr.mono (by decide)) T.b_Next_shows .nil pass0 (pa_cons (pv 2) (pa_cons (pv 3) (pa_cons (pv 4) pa_nil)))) (pe_meth (pv 5) T.t_Short.cl T.m_Short_shows (ok_Short_shows T) (hr.mono (by decide)) T.b_Short_shows .nil pass0 (pa_cons (pv 2) (pa_cons (pv 3) (pa_cons (pv 4) pa_nil)))))) (pv 9) (nomark _)))) pa_nil))) (pss_one (ps_ret pe_bl)) pss_nil)
      (pss_cons (ps_set (i := 1) sc_law_told_right.nd rfl (.inl rfl) (pe_lst (pa_cons (pe_tup (pa_cons pe_int (pa_cons pe_int (pa_cons pe_int (pa_cons pe_int pa_nil))))) (pa_cons (pe_tup (pa_cons pe_int (pa_cons pe_int (pa_cons pe_int (pa_cons pe_int pa_nil))))) (pa_cons (pe_tup (pa_cons pe_int (pa_cons pe_int (pa_cons pe_int (pa_cons pe_int pa_nil))))) (pa_cons (pe_tup (pa_cons pe_int (pa_cons pe_int (pa_cons pe_int (pa_cons pe_int pa_nil))))) (pa_cons (pe_tup (pa_cons pe_int (pa_cons pe_int (pa_cons pe_int (pa_cons pe_int pa_nil))))) (pa_cons (pe_tup (pa_cons pe_int (pa_cons pe_int (pa_cons pe_int (pa_cons pe_int pa_nil))))) (pa_cons (pe_tup (pa_cons pe_int (pa_cons pe_int (pa_cons pe_int (pa_cons pe_int pa_nil))))) pa_nil)))))))))
      (pss_cons (ps_set (i := 1) sc_law_told_right.nd rfl (.inl rfl) (pe_op op_cat (pv 1) (pe_lst (pa_cons (pe_tup (pa_cons pe_int (pa_cons pe_int (pa_cons pe_int (pa_cons pe_int pa_nil))))) (pa_cons (pe_tup (pa_cons pe_int (pa_cons pe_int (pa_cons pe_int (pa_cons pe_int pa_nil))))) (pa_cons (pe_tup (pa_cons (pe_op op_pow pe_int pe_int) (pa_cons pe_int (pa_cons pe_int (pa_cons pe_int pa_nil))))) (pa_cons (pe_tup (pa_cons (pe_op op_pow pe_int pe_int) (pa_cons pe_int (pa_cons pe_int (pa_cons pe_int pa_nil))))) (pa_cons (pe_tup (pa_cons (pv 0) (pa_cons pe_int (pa_cons (pv 0) (pa_cons pe_int pa_nil))))) pa_nil))))))))
      (pss_cons (ps_set (i := 1) sc_law_told_right.nd rfl (.inl rfl) (pe_op op_cat (pv 1) (pe_lst (pa_cons (pe_tup (pa_cons (pe_op op_add (pv 0) pe_int) (pa_cons pe_int (pa_cons (pv 0) (pa_cons pe_int pa_nil))))) pa_nil))))
      (pss_cons (ps_for PassesOwn.never rfl (pi_list (pv 1)) (pg_tup rfl (pgs_cons (pg_name (i := 2) sc_law_told_right.nd rfl (.inl rfl)) (pgs_cons (pg_name (i := 3) sc_law_told_right.nd rfl (.inl rfl)) (pgs_cons (pg_name (i := 4) sc_law_told_right.nd rfl (.inl rfl)) (pgs_cons (pg_name (i := 6) sc_law_told_right.nd rfl (.inl rfl)) pgs_nil)))))
        (pss_cons (ps_set (i := 5) sc_law_told_right.nd rfl (.inl rfl) (pe_call (ok_told (P := P) (w := w) (base := base) T) (hr.mono (by decide)) (by rfl) T.g_told T.f_told.kp T.b_told .nil passN (pa_cons (pv 2) (pa_cons (pv 3) (pa_cons (pv 4) pa_nil)))))
      (pss_cons (ps_if (pt_cmpR op_ne (pe_bm PySem.F.plainAttrs_list PySem.F.slot_list_index PySem.F.type_list_index mt_index (pe_lst (pa_cons (pe_callB call_isi (by rfl) T.z_isinstance (by decide +kernel) (pa_cons (pv 5) (pa_cons (pe_glob (v := .ref A.a_Done) (by rfl) T.g_Done rfl) pa_nil))) (pa_cons (pe_callB call_isi (by rfl) T.z_isinstance (by decide +kernel) (pa_cons (pv 5) (pa_cons (pe_glob (v := .ref A.a_Next) (by rfl) T.g_Next rfl) pa_nil))) (pa_cons (pe_callB call_isi (by rfl) T.z_isinstance (by decide +kernel) (pa_cons (pv 5) (pa_cons (pe_glob (v := .ref A.a_Short) (by rfl) T.g_Short rfl) pa_nil))) pa_nil)))) (pa_cons pe_bl pa_nil)) (pv 6) (nomark _)) (pss_one (ps_ret pe_bl)) pss_nil)
      (pss_one (ps_if (pt_not (pt_val (pe_alt (pe_meth (pv 5) T.t_Done.cl T.m_Done_shows (ok_Done_shows T) (hr.mono (by decide)) T.b_Done_shows .nil pass0 (pa_cons (pv 2) (pa_cons (pv 3) (pa_cons (pv 4) pa_nil)))) (pe_alt (pe_meth (pv 5) T.t_Next.cl T.m_Next_shows (ok_Next_shows T) (hr.mono (by decide)) T.b_Next_shows .nil pass0 (pa_cons (pv 2) (pa_cons (pv 3) (pa_cons (pv 4) pa_nil)))) (pe_meth (pv 5) T.t_Short.cl T.m_Short_shows (ok_Short_shows T) (hr.mono (by decide)) T.b_Short_shows .nil pass0 (pa_cons (pv 2) (pa_cons (pv 3) (pa_cons (pv 4) pa_nil)))))))) (pss_one (ps_ret pe_bl)) pss_nil)))))
      (pss_cons (ps_if (pt_cmpR (op_neD hr.units) (pe_lc (own := [("_law_storey", 10)]) (g := (gName 10)) (tt := tYes) (by rfl) sc_law_told_right.nd (pi_range2 (by rfl) T.z_range (pa_cons pe_int (pa_cons pe_int pa_nil))) (blkOk_by (own := [("_law_storey", 10)]) (N := ["_law_n", "_law_cases", "_law_storeys", "_law_glasses", "_law_tries", "_law_some", "_law_kind", "_law_asks", "_law_words", "_law_due", "_law_storey", "_law_ask"]) (sc := defScope s_law_told_right) (by decide +kernel)) (fun _ _ _ _ _ => (pg_name (i := 10) sc_law_told_right.nd rfl (.inl rfl))) (fun _ _ _ _ _ => pts_nil) (fun _ _ _ _ _ => (pe_call (ok_answer (P := P) (w := w) (base := base) T) (hr.mono (by decide)) (by rfl) T.g_answer T.f_answer.kp T.b_answer .nil passN (pa_cons pe_int (pa_cons pe_int (pa_cons pe_int (pa_cons (pv 10) pa_nil))))))) (pe_op op_cat (pe_op op_rep (pe_lst (pa_cons pe_str pa_nil)) pe_int) (pe_op op_rep (pe_lst (pa_cons pe_str pa_nil)) pe_int)) (nomark _)) (pss_one (ps_ret pe_bl)) pss_nil)
      (pss_cons (ps_if (pt_cmpR (op_neD hr.units) (pe_lc (own := [("_law_storey", 10)]) (g := (gName 10)) (tt := tYes) (by rfl) sc_law_told_right.nd (pi_tup (pe_tup (pa_cons pe_int (pa_cons pe_int pa_nil)))) (blkOk_by (own := [("_law_storey", 10)]) (N := ["_law_n", "_law_cases", "_law_storeys", "_law_glasses", "_law_tries", "_law_some", "_law_kind", "_law_asks", "_law_words", "_law_due", "_law_storey", "_law_ask"]) (sc := defScope s_law_told_right) (by decide +kernel)) (fun _ _ _ _ _ => (pg_name (i := 10) sc_law_told_right.nd rfl (.inl rfl))) (fun _ _ _ _ _ => pts_nil) (fun _ _ _ _ _ => (pe_call (ok_answer (P := P) (w := w) (base := base) T) (hr.mono (by decide)) (by rfl) T.g_answer T.f_answer.kp T.b_answer .nil passN (pa_cons pe_int (pa_cons pe_int (pa_cons pe_int (pa_cons (pv 10) pa_nil))))))) (pe_lst (pa_cons pe_str (pa_cons pe_str pa_nil))) (nomark _)) (pss_one (ps_ret pe_bl)) pss_nil)
      (pss_cons (ps_set (i := 7) sc_law_told_right.nd rfl (.inl rfl) (pe_lst (pa_cons (pe_ask (P := P) (w := w) (K := K) (mg := mg) (base := base) (k := 4) (Ts := tsL A) (a := "_law_one") (q := qLam "_law_told_right" (defScope s_law_told_right)) TB (by rfl) (by rfl) (by rfl) (by rfl) tl_law_told_right_m (tl_law_told_right_u T) (by rfl) (by decide) ⟨rfl, rfl, rfl, by decide +kernel, rfl, by decide +kernel, by decide +kernel⟩ (fun _ _ _ _ => rfl) (fun f cd Ar outer s H E hr2 => (pe_call (ok_answer (P := P) (w := w) (base := base) T) (hr2.mono (by decide)) (by rfl) T.g_answer T.f_answer.kp T.b_answer .nil (L2.passes_call (L2.takes_of rfl rfl rfl rfl) (fun _ _ _ _ h => h)) (pa_cons pe_int (pa_cons pe_int (pa_cons pe_int (pa_cons pe_non pa_nil))))))) (pa_cons (pe_ask (P := P) (w := w) (K := K) (mg := mg) (base := base) (k := 4) (Ts := tsL A) (a := "_law_two") (q := qLam "_law_told_right" (defScope s_law_told_right)) TB (by rfl) (by rfl) (by rfl) (by rfl) tl_law_told_right_m (tl_law_told_right_u T) (by rfl) (by decide) ⟨rfl, rfl, rfl, by decide +kernel, rfl, by decide +kernel, by decide +kernel⟩ (fun _ _ _ _ => rfl) (fun f cd Ar outer s H E hr2 => (pe_call (ok_answer (P := P) (w := w) (base := base) T) (hr2.mono (by decide)) (by rfl) T.g_answer T.f_answer.kp T.b_answer .nil (L2.passes_call (L2.takes_of rfl rfl rfl rfl) (fun _ _ _ _ h => h)) (pa_cons pe_int (pa_cons pe_int (pa_cons pe_int (pa_cons pe_non pa_nil))))))) pa_nil))))
      (pss_cons (ps_set (i := 7) sc_law_told_right.nd rfl (.inl rfl) (pe_op op_cat (pv 7) (pe_lst (pa_cons (pe_ask (P := P) (w := w) (K := K) (mg := mg) (base := base) (k := 4) (Ts := tsL A) (a := "_law_six") (q := qLam "_law_told_right" (defScope s_law_told_right)) TB (by rfl) (by rfl) (by rfl) (by rfl) tl_law_told_right_m (tl_law_told_right_u T) (by rfl) (by decide) ⟨rfl, rfl, rfl, by decide +kernel, rfl, by decide +kernel, by decide +kernel⟩ (fun _ _ _ _ => rfl) (fun f cd Ar outer s H E hr2 => (pe_call (ok_answer (P := P) (w := w) (base := base) T) (hr2.mono (by decide)) (by rfl) T.g_answer T.f_answer.kp T.b_answer .nil (L2.passes_call (L2.takes_of rfl rfl rfl rfl) (fun _ _ _ _ h => h)) (pa_cons pe_int (pa_cons pe_int (pa_cons pe_int (pa_cons pe_non pa_nil))))))) (pa_cons (pe_ask (P := P) (w := w) (K := K) (mg := mg) (base := base) (k := 4) (Ts := tsL A) (a := "_law_it") (q := qLam "_law_told_right" (defScope s_law_told_right)) TB (by rfl) (by rfl) (by rfl) (by rfl) tl_law_told_right_m (tl_law_told_right_u T) (by rfl) (by decide) ⟨rfl, rfl, rfl, by decide +kernel, rfl, by decide +kernel, by decide +kernel⟩ (fun _ _ _ _ => rfl) (fun f cd Ar outer s H E hr2 => (pe_call (ok_answer (P := P) (w := w) (base := base) T) (hr2.mono (by decide)) (by rfl) T.g_answer T.f_answer.kp T.b_answer .nil (L2.passes_call (L2.takes_of rfl rfl rfl rfl) (fun _ _ _ _ h => h)) (pa_cons pe_int (pa_cons pe_int (pa_cons pe_int (pa_cons pe_non pa_nil))))))) pa_nil)))))
      (pss_cons (ps_set (i := 7) sc_law_told_right.nd rfl (.inl rfl) (pe_op op_cat (pv 7) (pe_lst (pa_cons (pe_ask (P := P) (w := w) (K := K) (mg := mg) (base := base) (k := 4) (Ts := tsL A) (a := "_law_me") (q := qLam "_law_told_right" (defScope s_law_told_right)) TB (by rfl) (by rfl) (by rfl) (by rfl) tl_law_told_right_m (tl_law_told_right_u T) (by rfl) (by decide) ⟨rfl, rfl, rfl, by decide +kernel, rfl, by decide +kernel, by decide +kernel⟩ (fun _ _ _ _ => rfl) (fun f cd Ar outer s H E hr2 => (pe_call (ok_answer (P := P) (w := w) (base := base) T) (hr2.mono (by decide)) (by rfl) T.g_answer T.f_answer.kp T.b_answer .nil (L2.passes_call (L2.takes_of rfl rfl rfl rfl) (fun _ _ _ _ h => h)) (pa_cons pe_int (pa_cons pe_int (pa_cons pe_int (pa_cons pe_non pa_nil))))))) (pa_cons (pe_ask (P := P) (w := w) (K := K) (mg := mg) (base := base) (k := 4) (Ts := tsL A) (a := "_law_us") (q := qLam "_law_told_right" (defScope s_law_told_right)) TB (by rfl) (by rfl) (by rfl) (by rfl) tl_law_told_right_m (tl_law_told_right_u T) (by rfl) (by decide) ⟨rfl, rfl, rfl, by decide +kernel, rfl, by decide +kernel, by decide +kernel⟩ (fun _ _ _ _ => rfl) (fun f cd Ar outer s H E hr2 => (pe_call (ok_answer (P := P) (w := w) (base := base) T) (hr2.mono (by decide)) (by rfl) T.g_answer T.f_answer.kp T.b_answer .nil (L2.passes_call (L2.takes_of rfl rfl rfl rfl) (fun _ _ _ _ h => h)) (pa_cons pe_int (pa_cons pe_int (pa_cons pe_int (pa_cons pe_int pa_nil))))))) pa_nil)))))
      (pss_cons (ps_set (i := 7) sc_law_told_right.nd rfl (.inl rfl) (pe_op op_cat (pv 7) (pe_lst (pa_cons (pe_ask (P := P) (w := w) (K := K) (mg := mg) (base := base) (k := 4) (Ts := tsL A) (a := "_law_them") (q := qLam "_law_told_right" (defScope s_law_told_right)) TB (by rfl) (by rfl) (by rfl) (by rfl) tl_law_told_right_m (tl_law_told_right_u T) (by rfl) (by decide) ⟨rfl, rfl, rfl, by decide +kernel, rfl, by decide +kernel, by decide +kernel⟩ (fun _ _ _ _ => rfl) (fun f cd Ar outer s H E hr2 => (pe_call (ok_answer (P := P) (w := w) (base := base) T) (hr2.mono (by decide)) (by rfl) T.g_answer T.f_answer.kp T.b_answer .nil (L2.passes_call (L2.takes_of rfl rfl rfl rfl) (fun _ _ _ _ h => h)) (pa_cons pe_int (pa_cons pe_int (pa_cons pe_int (pa_cons pe_int pa_nil))))))) pa_nil))))
      (pss_cons (ps_set (i := 7) sc_law_told_right.nd rfl (.inl rfl) (pe_op op_cat (pv 7) (pe_lst (pa_cons (pe_ask (P := P) (w := w) (K := K) (mg := mg) (base := base) (k := 4) (Ts := tsL A) (a := "_law_her") (q := qLam "_law_told_right" (defScope s_law_told_right)) TB (by rfl) (by rfl) (by rfl) (by rfl) tl_law_told_right_m (tl_law_told_right_u T) (by rfl) (by decide) ⟨rfl, rfl, rfl, by decide +kernel, rfl, by decide +kernel, by decide +kernel⟩ (fun _ _ _ _ => rfl) (fun f cd Ar outer s H E hr2 => (pe_call (ok_answer (P := P) (w := w) (base := base) T) (hr2.mono (by decide)) (by rfl) T.g_answer T.f_answer.kp T.b_answer .nil (L2.passes_call (L2.takes_of rfl rfl rfl rfl) (fun _ _ _ _ h => h)) (pa_cons pe_int (pa_cons pe_int (pa_cons pe_int (pa_cons pe_bl pa_nil))))))) (pa_cons (pe_ask (P := P) (w := w) (K := K) (mg := mg) (base := base) (k := 4) (Ts := tsL A) (a := "_law_him") (q := qLam "_law_told_right" (defScope s_law_told_right)) TB (by rfl) (by rfl) (by rfl) (by rfl) tl_law_told_right_m (tl_law_told_right_u T) (by rfl) (by decide) ⟨rfl, rfl, rfl, by decide +kernel, rfl, by decide +kernel, by decide +kernel⟩ (fun _ _ _ _ => rfl) (fun f cd Ar outer s H E hr2 => (pe_call (ok_answer (P := P) (w := w) (base := base) T) (hr2.mono (by decide)) (by rfl) T.g_answer T.f_answer.kp T.b_answer .nil (L2.passes_call (L2.takes_of rfl rfl rfl rfl) (fun _ _ _ _ h => h)) (pa_cons pe_int (pa_cons pe_int (pa_cons pe_int (pa_cons pe_non pa_nil))))))) pa_nil)))))
      (pss_cons (ps_set (i := 8) sc_law_told_right.nd rfl (.inl rfl) (pe_lst (pa_cons pe_str (pa_cons pe_str (pa_cons pe_str (pa_cons pe_str (pa_cons pe_str (pa_cons pe_str (pa_cons pe_str (pa_cons pe_str (pa_cons pe_str pa_nil)))))))))))
      (pss_one (ps_ret (pe_cmpR (op_eqD hr.units) (pe_lc (own := [("_law_ask", 11)]) (g := (gName 11)) (tt := tYes) (by rfl) sc_law_told_right.nd (pi_list (pv 7)) (blkOk_by (own := [("_law_ask", 11)]) (N := ["_law_n", "_law_cases", "_law_storeys", "_law_glasses", "_law_tries", "_law_some", "_law_kind", "_law_asks", "_law_words", "_law_due", "_law_storey", "_law_ask"]) (sc := defScope s_law_told_right) (by decide +kernel)) (fun _ _ _ _ _ => (pg_name (i := 11) sc_law_told_right.nd rfl (.inl rfl))) (fun _ _ _ _ _ => pts_nil) (fun _ _ _ _ _ => (pe_call (ok_law_word (P := P) (w := w) (base := base) T) (hr.mono (by decide)) (by rfl) T.g_law_word T.f_law_word.kp T.b_law_word .nil pass0 (pa_cons (pv 11) (pa_cons pe_non pa_nil))))) (pv 8) (nomark _))))))))))))))))))))))))))))), ?_⟩
    have pw : ∀ {H : Hp} (b i : Nat), i ≤ 100 → b = 10 ∨ b = 2 → RV (rI CPow fun i j => .int (i ^ j.toNat)) (.int (b : Int)) (.int (i : Int)) H (.int ((b : Int) ^ ((i : Int)).toNat)) := fun {H} b i hi hb => rv_I ⟨by omega, by omega, by rcases hb with rfl | rfl <;> decide⟩
    have hn256 : n < 2 ^ 256 := Nat.lt_of_le_of_lt hn (by decide)
    refine q_asgN (en_lstB (n := 3) GR.mono (eab_cons GR.mono (en_rD (s := 0) (g := 0) (t := 0) (due := true) ev_c ev_c ev_c ev_c (by decide) (by decide) (by decide +kernel))
        (eab_cons GR.mono (en_rD (s := 0) (g := 5) (t := 9) (due := true) ev_c ev_c ev_c ev_c (by decide) (by decide) (by decide +kernel))
        (eab_cons GR.mono (en_rD (s := 1) (g := 5) (t := 9) (due := false) ev_c ev_c ev_c ev_c (by decide) (by decide) (by decide +kernel))
        eab_nil))) (by decide)) fun v H1 e1 hv => ?_
    obtain ⟨l1, u1, rfl, _, hl1, n1, g1⟩ := hv
    refine q_asgN (en_catB (n := 3) GR.mono (ev_var rfl) hl1 g1 (en_lstB GR.mono (eab_cons GR.mono (en_rN (z := 1) (s := 0) (g := 1) (t := 1) (due := false) ev_c ev_c ev_c (ea_cons ev_c ea_nil) ev_c (by decide) (by decide) (by decide +kernel))
        (eab_cons GR.mono (en_rS (z := 1) (s := 0) (g := 1) (t := 1) (due := false) ev_c ev_c ev_c (ea_cons ev_c ea_nil) ev_c (by decide) (by decide) (by decide +kernel))
        (eab_cons GR.mono (en_rN (z := 1) (s := 3) (g := 1) (t := 3) (due := true) ev_c ev_c ev_c (ea_cons ev_c ea_nil) ev_c (by decide) (by decide) (by decide +kernel))
        eab_nil))) (by decide)) (by omega)) fun v H2 e2 hv => ?_
    obtain ⟨l2, u2, rfl, _, hl2, n2, g2⟩ := hv
    refine q_asgN (en_catB (n := 3) GR.mono (ev_var rfl) hl2 g2 (en_lstB GR.mono (eab_cons GR.mono (en_rN (z := 2) (s := 3) (g := 1) (t := 3) (due := false) ev_c ev_c ev_c (ea_cons ev_c ea_nil) ev_c (by decide) (by decide) (by decide +kernel))
        (eab_cons GR.mono (en_rN (z := 3) (s := 3) (g := 2) (t := 3) (due := true) ev_c ev_c ev_c (ea_cons ev_c ea_nil) ev_c (by decide) (by decide) (by decide +kernel))
        (eab_cons GR.mono (en_rN (z := 4) (s := 3) (g := 2) (t := 3) (due := false) ev_c ev_c ev_c (ea_cons ev_c ea_nil) ev_c (by decide) (by decide) (by decide +kernel))
        eab_nil))) (by decide)) (by omega)) fun v H3 e3 hv => ?_
    obtain ⟨l3, u3, rfl, _, hl3, n3, g3⟩ := hv
    refine q_asgN (en_catB (n := 3) GR.mono (ev_var rfl) hl3 g3 (en_lstB GR.mono (eab_cons GR.mono (en_rN (z := 0) (s := 3) (g := 2) (t := 3) (due := false) ev_c ev_c ev_c (ea_cons ev_c ea_nil) ev_c (by decide) (by decide) (by decide +kernel))
        (eab_cons GR.mono (en_rN (z := 2) (s := 3) (g := 2) (t := 2) (due := true) ev_c ev_c ev_c (ea_cons ev_c ea_nil) ev_c (by decide) (by decide) (by decide +kernel))
        (eab_cons GR.mono (en_rN (z := 3) (s := 3) (g := 2) (t := 2) (due := false) ev_c ev_c ev_c (ea_cons ev_c ea_nil) ev_c (by decide) (by decide) (by decide +kernel))
        eab_nil))) (by decide)) (by omega)) fun v H4 e4 hv => ?_
    obtain ⟨l4, u4, rfl, _, hl4, n4, g4⟩ := hv
    refine q_asgN (en_catB (n := 3) GR.mono (ev_var rfl) hl4 g4 (en_lstB GR.mono (eab_cons GR.mono (en_rN (z := 1) (s := 3) (g := 0) (t := 9) (due := false) ev_c ev_c ev_c (ea_cons ev_c ea_nil) ev_c (by decide) (by decide) (by decide +kernel))
        (eab_cons GR.mono (en_rN (z := 1) (s := 3) (g := 9) (t := 0) (due := false) ev_c ev_c ev_c (ea_cons ev_c ea_nil) ev_c (by decide) (by decide) (by decide +kernel))
        (eab_cons GR.mono (en_rN (z := 1) (s := n) (g := 1) (t := n) (due := true) (ev_var rfl) ev_c (ev_var rfl) (ea_cons ev_c ea_nil) ev_c (by omega) (by decide) (sh_n1 hn1))
        eab_nil))) (by decide)) (by omega)) fun v H5 e5 hv => ?_
    obtain ⟨l5, u5, rfl, _, hl5, n5, g5⟩ := hv
    refine q_asgN (en_catB (n := 1) GR.mono (ev_var rfl) hl5 g5 (en_lstB GR.mono (eab_cons GR.mono (en_rN (z := 1) (s := n) (g := 1) (t := n - 1) (due := false) (ev_var rfl) ev_c (ev_is (ev_op (ev_var rfl) ev_c rv_I0) (congrArg V.int (show (n : Int) - 1 = ((n - 1 : Nat) : Int) by omega))) (ea_cons ev_c ea_nil) ev_c (by omega) (by decide) (sh_nm hn1))
        eab_nil) (by decide)) (by omega)) fun v H6 e6 hv => ?_
    obtain ⟨l6, u6, rfl, _, hl6, n6, g6⟩ := hv
    refine q_asgN (en_catB (n := 3) GR.mono (ev_var rfl) hl6 g6 (en_lstB GR.mono (eab_cons GR.mono (en_rS (z := 7) (s := 8) (g := 3) (t := 3) (due := true) ev_c ev_c ev_c (ea_cons ev_c ea_nil) ev_c (by decide) (by decide) (by decide +kernel))
        (eab_cons GR.mono (en_rS (z := 6) (s := 8) (g := 3) (t := 3) (due := false) ev_c ev_c ev_c (ea_cons ev_c ea_nil) ev_c (by decide) (by decide) (by decide +kernel))
        (eab_cons GR.mono (en_rS (z := 7) (s := 7) (g := 3) (t := 3) (due := false) ev_c ev_c ev_c (ea_cons ev_c ea_nil) ev_c (by decide) (by decide) (by decide +kernel))
        eab_nil))) (by decide)) (by omega)) fun v H7 e7 hv => ?_
    obtain ⟨l7, u7, rfl, _, hl7, n7, g7⟩ := hv
    refine q_asgN (en_catB (n := 3) GR.mono (ev_var rfl) hl7 g7 (en_lstB GR.mono (eab_cons GR.mono (en_rS (z := 0) (s := 5) (g := 0) (t := 9) (due := true) ev_c ev_c ev_c (ea_cons ev_c ea_nil) ev_c (by decide) (by decide) (by decide +kernel))
        (eab_cons GR.mono (en_rS (z := 0) (s := 5) (g := 3) (t := 0) (due := true) ev_c ev_c ev_c (ea_cons ev_c ea_nil) ev_c (by decide) (by decide) (by decide +kernel))
        (eab_cons GR.mono (en_rS (z := 8) (s := 8) (g := 3) (t := 3) (due := false) ev_c ev_c ev_c (ea_cons ev_c ea_nil) ev_c (by decide) (by decide) (by decide +kernel))
        eab_nil))) (by decide)) (by omega)) fun v H8 e8 hv => ?_
    obtain ⟨l8, u8, rfl, _, hl8, n8, g8⟩ := hv
    refine q_asgN (en_catB (n := 3) GR.mono (ev_var rfl) hl8 g8 (en_lstB GR.mono (eab_cons GR.mono (en_rS (z := (n : Int)) (s := n + 1) (g := 1) (t := n) (due := true) (ev_is (ev_op (ev_var rfl) ev_c rv_I0) (congrArg V.int (show (n : Int) + 1 = ((n + 1 : Nat) : Int) by omega))) ev_c (ev_var rfl) (ea_cons (ev_var rfl) ea_nil) ev_c (by omega) (by decide) (sh_sn n))
        (eab_cons GR.mono (en_rN (z := 4) (s := 7) (g := 3) (t := 3) (due := true) ev_c ev_c ev_c (ea_cons ev_c ea_nil) ev_c (by decide) (by decide) (by decide +kernel))
        (eab_cons GR.mono (en_rN (z := 3) (s := 7) (g := 3) (t := 3) (due := false) ev_c ev_c ev_c (ea_cons ev_c ea_nil) ev_c (by decide) (by decide) (by decide +kernel))
        eab_nil))) (by decide)) (by omega)) fun v H9 e9 hv => ?_
    obtain ⟨l9, u9, rfl, _, hl9, n9, g9⟩ := hv
    refine q_asgN (en_catB (n := 1) GR.mono (ev_var rfl) hl9 g9 (en_lstB GR.mono (eab_cons GR.mono (en_rN (z := 5) (s := 7) (g := 3) (t := 3) (due := false) ev_c ev_c ev_c (ea_cons ev_c ea_nil) ev_c (by decide) (by decide) (by decide +kernel))
        eab_nil) (by decide)) (by omega)) fun v H10 e10 hv => ?_
    obtain ⟨l10, u10, rfl, _, hl10, n10, g10⟩ := hv
    refine q_asgN (en_catB (n := 1) GR.mono (ev_var rfl) hl10 g10 (en_lstB GR.mono (eab_cons GR.mono (en_rN (z := ((2 ^ 199 : Nat) : Int)) (s := 10 ^ 60) (g := 300) (t := 200) (due := true) (ev_op ev_c ev_c (pw 10 60 (by decide) (.inl rfl))) ev_c ev_c (ea_cons (ev_is (ev_op (ev_op (ev_op (ev_op ev_c ev_c (pw 2 50 (by decide) (.inr rfl))) (ev_op ev_c ev_c (pw 2 50 (by decide) (.inr rfl))) (rv_I (mulx_ok (a := 60) (b := 60) (by decide +kernel) (by decide +kernel) (by decide)))) (ev_op ev_c ev_c (pw 2 50 (by decide) (.inr rfl))) (rv_I (mulx_ok (a := 120) (b := 60) (by decide +kernel) (by decide +kernel) (by decide)))) (ev_op ev_c ev_c (pw 2 49 (by decide) (.inr rfl))) (rv_I (mulx_ok (a := 180) (b := 60) (by decide +kernel) (by decide +kernel) (by decide)))) (congrArg V.int (by decide +kernel))) ea_nil) ev_c (by decide) (by decide) sh_P)
        eab_nil) (by decide)) (by omega)) fun v H11 e11 hv => ?_
    obtain ⟨l11, u11, rfl, _, hl11, n11, g11⟩ := hv
    refine q_asgN (en_catB (n := 1) GR.mono (ev_var rfl) hl11 g11 (en_lstB GR.mono (eab_cons GR.mono (en_rS (z := ((2 ^ 199 - 1 : Nat) : Int)) (s := 10 ^ 60) (g := 300) (t := 199) (due := true) (ev_op ev_c ev_c (pw 10 60 (by decide) (.inl rfl))) ev_c ev_c (ea_cons (ev_is (ev_op (ev_op (ev_op (ev_op (ev_op ev_c ev_c (pw 2 50 (by decide) (.inr rfl))) (ev_op ev_c ev_c (pw 2 50 (by decide) (.inr rfl))) (rv_I (mulx_ok (a := 60) (b := 60) (by decide +kernel) (by decide +kernel) (by decide)))) (ev_op ev_c ev_c (pw 2 50 (by decide) (.inr rfl))) (rv_I (mulx_ok (a := 120) (b := 60) (by decide +kernel) (by decide +kernel) (by decide)))) (ev_op ev_c ev_c (pw 2 49 (by decide) (.inr rfl))) (rv_I (mulx_ok (a := 180) (b := 60) (by decide +kernel) (by decide +kernel) (by decide)))) ev_c rv_I0) (congrArg V.int (by decide +kernel))) ea_nil) ev_c (by decide) (by decide) sh_P1)
        eab_nil) (by decide)) (by omega)) fun v H12 e12 hv => ?_
    obtain ⟨l12, u12, rfl, _, hl12, n12, g12⟩ := hv
    have eR : Ex H H12 := (((((((((((e1.trans e2).trans e3).trans e4).trans e5).trans e6).trans e7).trans e8).trans e9).trans e10).trans e11).trans e12)
    refine st_is (σ' := [some (.int (n : Int)), some (.ref l12), none, none, none, none, none, none, none, none, none, none]) rfl ?_
    refine q_when (et_B (ev_noneR (ev_var rfl) hl12 g12 (by omega) (fun _ _ _ _ _ => rfl) fun a kd s g t H1 hk ht hg => ev_is (ev_op (ev_shows (ev_var rfl) hk (ea_cons (ev_var rfl) (ea_cons (ev_var rfl) (ea_cons (ev_var rfl) ea_nil))) ht hg) (ev_var rfl) rv_neB) (by simp))) (fun hb => absurd hb (by decide)) fun _ H13 e13 => ?_
    refine q_asgN (en_lstB (n := 7) GK.mono (eab_cons GK.mono (en_gk (s := 0) (g := 0) (t := 0) (c := 0) (ea_cons ev_c (ea_cons ev_c (ea_cons ev_c (ea_cons ev_c ea_nil)))) (by decide) (by decide) (by decide) (kd_0 _ _))
        (eab_cons GK.mono (en_gk (s := 0) (g := 3) (t := 3) (c := 0) (ea_cons ev_c (ea_cons ev_c (ea_cons ev_c (ea_cons ev_c ea_nil)))) (by decide) (by decide) (by decide) (kd_0 _ _))
        (eab_cons GK.mono (en_gk (s := 3) (g := 1) (t := 3) (c := 1) (ea_cons ev_c (ea_cons ev_c (ea_cons ev_c (ea_cons ev_c ea_nil)))) (by decide) (by decide) (by decide) (kd_1 (by decide) (by decide +kernel)))
        (eab_cons GK.mono (en_gk (s := 3) (g := 1) (t := 2) (c := 2) (ea_cons ev_c (ea_cons ev_c (ea_cons ev_c (ea_cons ev_c ea_nil)))) (by decide) (by decide) (by decide) (kd_2 (by decide +kernel)))
        (eab_cons GK.mono (en_gk (s := 7) (g := 3) (t := 3) (c := 1) (ea_cons ev_c (ea_cons ev_c (ea_cons ev_c (ea_cons ev_c ea_nil)))) (by decide) (by decide) (by decide) (kd_1 (by decide) (by decide +kernel)))
        (eab_cons GK.mono (en_gk (s := 8) (g := 3) (t := 3) (c := 2) (ea_cons ev_c (ea_cons ev_c (ea_cons ev_c (ea_cons ev_c ea_nil)))) (by decide) (by decide) (by decide) (kd_2 (by decide +kernel)))
        (eab_cons GK.mono (en_gk (s := 1) (g := 0) (t := 5) (c := 2) (ea_cons ev_c (ea_cons ev_c (ea_cons ev_c (ea_cons ev_c ea_nil)))) (by decide) (by decide) (by decide) (kd_2 (by decide +kernel)))
        eab_nil))))))) (by decide)) fun v H14 e14 hv => ?_
    obtain ⟨l14, u14, rfl, _, hl14, n14, g14⟩ := hv
    refine q_asgN (en_catB (n := 5) GK.mono (ev_var rfl) hl14 g14 (en_lstB GK.mono (eab_cons GK.mono (en_gk (s := 1) (g := 5) (t := 0) (c := 2) (ea_cons ev_c (ea_cons ev_c (ea_cons ev_c (ea_cons ev_c ea_nil)))) (by decide) (by decide) (by decide) (kd_2 (by decide +kernel)))
        (eab_cons GK.mono (en_gk (s := 1) (g := 1) (t := 1) (c := 1) (ea_cons ev_c (ea_cons ev_c (ea_cons ev_c (ea_cons ev_c ea_nil)))) (by decide) (by decide) (by decide) (kd_1 (by decide) (by decide +kernel)))
        (eab_cons GK.mono (en_gk (s := 10 ^ 60) (g := 300) (t := 200) (c := 1) (ea_cons (ev_op ev_c ev_c (pw 10 60 (by decide) (.inl rfl))) (ea_cons ev_c (ea_cons ev_c (ea_cons ev_c ea_nil)))) (Nat.le_refl _) (by decide) (by decide) (kd_1 (by decide) (by rw [R_200']; decide)))
        (eab_cons GK.mono (en_gk (s := 10 ^ 60) (g := 300) (t := 199) (c := 2) (ea_cons (ev_op ev_c ev_c (pw 10 60 (by decide) (.inl rfl))) (ea_cons ev_c (ea_cons ev_c (ea_cons ev_c ea_nil)))) (Nat.le_refl _) (by decide) (by decide) (kd_2 (by rw [R_199]; decide)))
        (eab_cons GK.mono (en_gk (s := n) (g := 1) (t := n) (c := 1) (ea_cons (ev_var rfl) (ea_cons ev_c (ea_cons (ev_var rfl) (ea_cons ev_c ea_nil)))) (by omega) (by decide) (by omega) (kd_1 (by omega) (by rw [R_one]; exact Nat.le_refl _)))
        eab_nil))))) (by decide)) (by omega)) fun v H15 e15 hv => ?_
    obtain ⟨l15, u15, rfl, _, hl15, n15, g15⟩ := hv
    refine q_asgN (en_catB (n := 1) GK.mono (ev_var rfl) hl15 g15 (en_lstB GK.mono (eab_cons GK.mono (en_gk (s := n + 1) (g := 1) (t := n) (c := 2) (ea_cons (ev_is (ev_op (ev_var rfl) ev_c rv_I0) (congrArg V.int (show (n : Int) + 1 = ((n + 1 : Nat) : Int) by omega))) (ea_cons ev_c (ea_cons (ev_var rfl) (ea_cons ev_c ea_nil)))) (by omega) (by decide) (by omega) (kd_2 (by rw [R_one]; omega)))
        eab_nil) (by decide)) (by omega)) fun v H16 e16 hv => ?_
    obtain ⟨l16, u16, rfl, _, hl16, n16, g16⟩ := hv
    have eK : Ex H H16 := (((((((((((((((e1.trans e2).trans e3).trans e4).trans e5).trans e6).trans e7).trans e8).trans e9).trans e10).trans e11).trans e12).trans e13).trans e14).trans e15).trans e16)
    have hTK := hT.ext eK
    refine q_forL (xs := u16) (ev_var rfl) (sq_of hl16) (fun _ σ' H' => ∃ y2 y3 y4 y5 y6, σ' = [some (.int (n : Int)), some (.ref l16), y2, y3, y4, y5, y6, none, none, none, none, none] ∧ Ex H16 H') (fun H12 e12 => ⟨_, _, _, _, _, rfl, e12⟩) (fun i σ' H' _ q => by obtain ⟨_, _, _, _, _, _, e⟩ := q; exact sq_of (e _ _ hl16)) ?_ ?_
    · rintro i x σ' H' hx ⟨y2, y3, y4, y5, y6, rfl, eH⟩
      obtain ⟨Tp, s0, g0, t0, c0, rfl, hTp, z1, z2, z3, z4⟩ := GK.mono _ _ _ (g16 x (List.mem_of_getElem? hx)) eH
      refine g_4 hTp ?_
      refine q_asgN (Post := PTold A s0 g0 t0) (en_callX (ea_cons (ev_var rfl) (ea_cons (ev_var rfl) (ea_cons (ev_var rfl) ea_nil))) fun H9 e9 => ⟨_, ⟨s0, g0, t0, rfl, z1, z2, z3, rfl⟩, fun v H10 h => h⟩) fun v Ha ea hv => ?_
      obtain ⟨p, rfl, hk⟩ := hv
      have hsh := told_shows s0 g0 t0
      generalize toldK s0 g0 t0 = kd at z4 hk hsh
      obtain ⟨zz, k1, k2, k3⟩ := knd_ix kd
      refine q_when (et_test (ev_op (ev_indexL (j := knd kd) (el_lst (ea_cons (ev_cb (ea_cons (ev_var rfl) (ea_cons ev_c ea_nil)) (isi_d T hk)) (ea_cons (ev_cb (ea_cons (ev_var rfl) (ea_cons ev_c ea_nil)) (isi_n T hk)) (ea_cons (ev_cb (ea_cons (ev_var rfl) (ea_cons ev_c ea_nil)) (isi_s T hk)) ea_nil))) (by show 3 ≤ 100000; decide)) ev_c rfl rfl k1 k2 k3) (ev_var rfl) rv_neI)) (fun hb => absurd hb (by rw [z4]; simp)) fun _ Hb eb => ?_
      exact s_when (et_not (et_B (ev_shows (ev_var rfl) (hk.mono eb) (ea_cons (ev_var rfl) (ea_cons (ev_var rfl) (ea_cons (ev_var rfl) ea_nil))) (Nat.lt_of_le_of_lt z3 (by decide)) (Nat.le_trans z2 (by decide))))) (fun hb => absurd hb (by rw [hsh]; decide)) fun _ Hc ec => ⟨_, _, _, _, _, rfl, ((eH.trans ea).trans eb).trans ec⟩
    rintro σ' H' ⟨y2, y3, y4, y5, y6, rfl, eH⟩
    have hT1 := hTK.ext eH
    refine q_neP (pl_strs ["holds", "holds", "holds", "holds", "breaks", "breaks", "breaks", "breaks"] (by decide +kernel) (by decide +kernel))
      (el_rng2 (lo := 1) (hi := 9) (ea_cons ev_c (ea_cons ev_c ea_nil)) ⟨by decide, by decide, by decide, by decide⟩ rfl (fun _ => rfl) fun i y Ha hy => ?_)
      (el_cat2 (el_rep (n := 4) (el_lst (ea_cons ev_c ea_nil) (by show 1 ≤ 100000; decide)) (by decide) (by show 1 * 4 ≤ 100000; decide)) (el_rep (n := 4) (el_lst (ea_cons ev_c ea_nil) (by show 1 ≤ 100000; decide)) (by decide) (by show 1 * 4 ≤ 100000; decide)) (by decide)) fun Ha ea => ?_
    · have hlt : i < 8 := (List.getElem?_eq_some_iff.mp hy).1
      have hR : R 2 2 = 3 := by decide +kernel
      have hy2 : y = .str (sAns 3 3 (1 + i)) := by
        rcases (show i = 0 ∨ i = 1 ∨ i = 2 ∨ i = 3 ∨ i = 4 ∨ i = 5 ∨ i = 6 ∨ i = 7 by omega) with rfl | rfl | rfl | rfl | rfl | rfl | rfl | rfl <;> (cases hy; exact congrArg V.str (by decide +kernel))
      rw [hy2]
      exact ev_px (ea_cons ev_c (ea_cons ev_c (ea_cons ev_c (ea_cons (ev_is (ev_var rfl) (congrArg V.int (show (1 : Int) + (i : Int) = ((1 + i : Nat) : Int) by omega))) ea_nil)))) ⟨8, 3, 3, 1 + i, rfl, by decide, by decide, by decide, by decide, by decide, by decide +kernel, by omega, by omega, rfl⟩
    refine q_neP (pl_strs ["holds", "breaks"] (by decide +kernel) (by decide +kernel))
      (el_lcTU (xs := [.int 1, .int 2]) (eu_tup (ea_cons ev_c (ea_cons ev_c ea_nil)) (by show 2 ≤ 100000; decide)) rfl (by show 2 ≤ 40000; decide) (fun _ => rfl) fun i x y Hb eb hx hy => ?_)
      (el_lst (ea_cons ev_c (ea_cons ev_c ea_nil)) (by show 2 ≤ 100000; decide)) fun Hb eb => ?_
    · have hlt : i < 2 := (List.getElem?_eq_some_iff.mp hx).1
      have a1 : sAns 1 1 1 = "holds" := by decide +kernel
      have a2 : sAns 1 1 2 = "breaks" := by decide +kernel
      rcases (show i = 0 ∨ i = 1 by omega) with rfl | rfl <;> (cases hx; cases hy)
      · exact ev_is (ev_px (ea_cons ev_c (ea_cons ev_c (ea_cons ev_c (ea_cons (ev_var rfl) ea_nil)))) ⟨2, 1, 1, 1, rfl, by decide, by decide, by decide, by decide, by decide, by decide +kernel, by decide, by decide, rfl⟩) (congrArg V.str a1)
      · exact ev_is (ev_px (ea_cons ev_c (ea_cons ev_c (ea_cons ev_c (ea_cons (ev_var rfl) ea_nil)))) ⟨2, 1, 1, 2, rfl, by decide, by decide, by decide, by decide, by decide, by decide +kernel, by decide, by decide, rfl⟩) (congrArg V.str a2)
    refine q_asks ((hT1.ext ea).ext eb) (eq_cons (eq_cons eq_nil)) (by show 2 ≤ 100000; decide) fun l1 f1 Hc ec Tc hl1 ha1 => ?_
    refine q_asksCat Tc hl1 ha1 rfl (eq_cons (eq_cons eq_nil)) (by show 4 ≤ 100000; decide) fun l2 f2 Hd ed Td hl2 ha2 => ?_
    refine q_asksCat Td hl2 ha2 rfl (eq_cons (eq_cons eq_nil)) (by show 6 ≤ 100000; decide) fun l3 f3 He ee Te hl3 ha3 => ?_
    refine q_asksCat Te hl3 ha3 rfl (eq_cons eq_nil) (by show 7 ≤ 100000; decide) fun l4 f4 Hf ef Tf hl4 ha4 => ?_
    refine q_asksCat Tf hl4 ha4 rfl (eq_cons (eq_cons eq_nil)) (by show 9 ≤ 100000; decide) fun l5 f5 Hg eg Tg hl5 ha5 => ?_
    refine q_asgL (xs := ([4, 4, 4, 5, 5, 3, 3, 3, 3] : List Nat).map fun c => V.str (wd c)) (el_lst (ea_cons ev_c (ea_cons ev_c (ea_cons ev_c (ea_cons ev_c (ea_cons ev_c (ea_cons ev_c (ea_cons ev_c (ea_cons ev_c (ea_cons ev_c ea_nil))))))))) (by show 9 ≤ 100000; decide)) fun lw Hh hlw eh hw => ?_
    have pl := words_pl (K := K) [4, 4, 4, 5, 5, 3, 3, 3, 3] (by decide +kernel) (by decide +kernel)
    have no : ∀ {H : Hp} {E : XK} (s0 g0 t0 : Nat), s0 ≤ 10 ^ 60 → g0 ≤ 300 → t0 ≤ 10 ^ 40 → g0 = 0 ∨ t0 = 0 → (∀ H1, Ex H H1 → E (.ref A.a_NoGlass) none H1) → EvR (tCall (spPX rAnswer (xAnswer A)) [] E (tCons (tC (.int (s0 : Int))) (tCons (tC (.int (g0 : Int))) (tCons (tC (.int (t0 : Int))) (tCons (tC .non) tNil))))) [some .non] H := fun {H E} s0 g0 t0 h1 h2 h3 hz kE =>
      er_px (ea_cons ev_c (ea_cons ev_c (ea_cons ev_c (ea_cons ev_c ea_nil)))) (fun H2 e2 => ⟨_, _, _, _, rfl, .inr ⟨s0, rfl, h1, .inr ⟨g0, rfl, h2, .inr ⟨t0, rfl, h3, .inl ⟨hz, rfl⟩⟩⟩⟩⟩) kE
    have fo : ∀ {H : Hp} {E : XK} (s0 g0 t0 : Nat), s0 ≤ 10 ^ 60 → g0 ≤ 300 → t0 ≤ 10 ^ 40 → 0 < g0 → 0 < t0 → s0 ≤ R t0 g0 → (∀ H1, Ex H H1 → E (.ref A.a_Found) none H1) → EvR (tCall (spPX rAnswer (xAnswer A)) [] E (tCons (tC (.int (s0 : Int))) (tCons (tC (.int (g0 : Int))) (tCons (tC (.int (t0 : Int))) (tCons (tC .non) tNil))))) [some .non] H := fun {H E} s0 g0 t0 h1 h2 h3 h4 h5 hz kE =>
      er_px (ea_cons ev_c (ea_cons ev_c (ea_cons ev_c (ea_cons ev_c ea_nil)))) (fun H2 e2 => ⟨_, _, _, _, rfl, .inr ⟨s0, rfl, h1, .inr ⟨g0, rfl, h2, .inr ⟨t0, rfl, h3, .inr ⟨h4, h5, .inl ⟨hz, rfl⟩⟩⟩⟩⟩⟩) kE
    have ba : ∀ {H : Hp} {E : XK} (v : V), (∀ H1, Bad H1 v 1 8) → (∀ H1, Ex H H1 → E (.ref A.a_BadStorey) none H1) → EvR (tCall (spPX rAnswer (xAnswer A)) [] E (tCons (tC (.int 8)) (tCons (tC (.int 3)) (tCons (tC (.int 3)) (tCons (tC v) tNil))))) [some .non] H := fun {H E} v hb kE =>
      er_px (ea_cons ev_c (ea_cons ev_c (ea_cons ev_c (ea_cons ev_c ea_nil)))) (fun H2 e2 => ⟨_, _, _, _, rfl, .inr ⟨8, rfl, by decide, .inr ⟨3, rfl, by decide, .inr ⟨3, rfl, by decide, .inr ⟨by decide, by decide, .inr ⟨by decide +kernel, hb H2, rfl⟩⟩⟩⟩⟩⟩) kE
    refine s_ret (ev_is (ev_opN1 (en_ofL (el_words (cs := [4, 4, 4, 5, 5, 3, 3, 3, 3]) (v := .non) (eh _ _ hl5) (ha5.mono eh)
        ⟨does 4 (by decide) fun H1 e1 E kE => no 5 0 3 (by decide) (by decide) (by decide) (.inl rfl) kE,
         does 4 (by decide) fun H1 e1 E kE => no 5 3 0 (by decide) (by decide) (by decide) (.inr rfl) kE,
         does 4 (by decide) fun H1 e1 E kE => no 0 0 0 (by decide) (by decide) (by decide) (.inl rfl) kE,
         does 5 (by decide) fun H1 e1 E kE => fo 3 1 3 (by decide) (by decide) (by decide) (by decide) (by decide) (by decide +kernel) kE,
         does 5 (by decide) fun H1 e1 E kE => fo 0 1 1 (by decide) (by decide) (by decide) (by decide) (by decide) (Nat.zero_le _) kE,
         does 3 (by decide) fun H1 e1 E kE => ba (.int 0) (fun _ => bad_int (by decide)) kE,
         does 3 (by decide) fun H1 e1 E kE => ba (.int 9) (fun _ => bad_int (by decide)) kE,
         does 3 (by decide) fun H1 e1 E kE => ba (.bl true) (fun _ => .inl (odd_bl _)) kE,
         does 3 (by decide) fun H1 e1 E kE => ba .non (fun _ => .inl odd_non) kE, trivial⟩ (by show 9 ≤ 40000; decide) (ev_var rfl) (fun _ => rfl) (fun _ => rfl) (fun _ _ => ev_c))) (ev_var rfl) (z := .bl true) fun v Hi ei hv => ?_) rfl) fun Hi ei => k Hi (Tg.ext (eh.trans ei))
    obtain ⟨q, rfl, _, hq⟩ := hv
    have := rv_eqD (pl.1 _ _ hq) (pl.1 _ _ (ei _ _ hw)) pl.2.1 pl.2.1
    rw [pl.2.2] at this
    exact this
/-! ### _law_play_right -/
section
variable {σ : L2.St} {H : Hp} {D : Ends} {tz : TS} {ta tb tc tl te : TE} {u w0 m : V}
theorem q_asg4N {i j l n : Nat} {Post : V → Hp → Prop} (ha : Ev ta σ H u) (hb : Ev tb σ H w0) (hc : Ev tc σ H m) (hl : EvN tl σ H Post) (mono : ∀ v H H', Post v H → Ex H H' → Post v H') (k : ∀ v H1, Ex H H1 → Post v H1 → tz D ((((σ.set i (some u)).set j (some w0)).set l (some m)).set n (some v)) H1) :
    tSeq (tAsg (tTup (tCons ta (tCons tb (tCons tc (tCons tl tNil))))) (gTup K 4 (gCons (gName i) (gCons (gName j) (gCons (gName l) (gCons (gName n) gNil)))))) tz D σ H :=
  ha H (Ex.refl H) _ fun H1 e1 => hb H1 e1 _ fun H2 e2 => hc H2 (e1.trans e2) _ fun H3 e3 => hl H3 ((e1.trans e2).trans e3) _ fun v H4 e4 hp => ⟨sz_of (by show 4 ≤ 100000; decide), fun q hq => by
    have eN := Ex.new (o := .tup [u, w0, m, v]) hq
    exact ⟨q, _, rfl, .inl (.inl upd_same), rfl, u, _, rfl, w0, _, rfl, m, _, rfl, v, _, rfl, rfl, k v _ ((((e1.trans e2).trans e3).trans e4).trans eN) (mono _ _ _ hp eN)⟩⟩
theorem q_asg2U {i j : Nat} (h : EvU te σ H [u, w0]) (k : ∀ H1, Ex H H1 → tz D ((σ.set i (some u)).set j (some w0)) H1) : tSeq (tAsg te (gTup K 2 (gCons (gName i) (gCons (gName j) gNil)))) tz D σ H := s_asg2U (D := { D with nx := tz D }) h k
end
def rPlayR (vs : List V) (v : V) : Prop := ∃ s g x : Nat, vs = [.int (s : Int), .int (g : Int), .int (x : Int)] ∧ s ≤ 10 ^ 60 ∧ g ≤ 300 ∧ 0 < g ∧ fw s g ≤ 1000 ∧ x ≤ s ∧ v = .bl true
theorem ok_law_play_right (T : Tx K mg A) : FnOk P w K mg base CX0 5 A.a_law_play_right A.d_law_play_right ["_law_storeys", "_law_glasses", "_law_stands"] (spP rPlayR) := by
  refine T.f_law_play_right.ok sc_law_play_right (fun vs H Q E h => ?_) (fun cdv Ar outer s H vs Q E hr h => ?_)
  · obtain ⟨v, ⟨s, g, x, rfl, _⟩, _⟩ := h
    rfl
  · obtain ⟨v, ⟨st, g, x, rfl, hs, hg, hg0, hT, hx, rfl⟩, k⟩ := h
    refine ⟨_, (pss_cons (ps_asg (pe_tup (pa_cons pe_int (pa_cons (pv 0) (pa_cons pe_int (pa_cons (pe_call (ok_tried (P := P) (w := w) (base := base) T) (hr.mono (by decide)) (by rfl) T.g_tried T.f_tried.kp T.b_tried .nil passN (pa_cons (pv 0) (pa_cons (pv 1) (pa_cons (pv 2) pa_nil)))) pa_nil))))) (pg_tup rfl (pgs_cons (pg_name (i := 3) sc_law_play_right.nd rfl (.inl rfl)) (pgs_cons (pg_name (i := 4) sc_law_play_right.nd rfl (.inl rfl)) (pgs_cons (pg_name (i := 5) sc_law_play_right.nd rfl (.inl rfl)) (pgs_cons (pg_name (i := 6) sc_law_play_right.nd rfl (.inl rfl)) pgs_nil))))))
      (pss_cons (ps_if (pt_cmpR op_gt (pe_callB call_len_seq (by rfl) T.z_len (by decide +kernel) (pa_cons (pv 6) pa_nil)) (pe_call (ok_fewest (P := P) (w := w) (base := base) T) (hr.mono (by decide)) (by rfl) T.g_fewest T.f_fewest.kp T.b_fewest .nil passN (pa_cons (pv 0) (pa_cons (pv 1) pa_nil))) (nomark _)) (pss_one (ps_ret pe_bl)) pss_nil)
      (pss_cons (ps_for PassesOwn.never rfl (pi_list (pv 6)) (pg_tup rfl (pgs_cons (pg_name (i := 7) sc_law_play_right.nd rfl (.inl rfl)) (pgs_cons (pg_name (i := 8) sc_law_play_right.nd rfl (.inl rfl)) pgs_nil)))
        (pss_cons (ps_if (PW.pt (pw_or (pt_not (pt_chain op_lt op_le (pv 3) (pv 7) (pv 4))) (pw_or1 (pt_cmpR op_ne (pv 8) (pe_cmpR op_gt (pv 7) (pv 2) (nomark _)) (nomark _))))) (pss_one (ps_ret pe_bl)) pss_nil)
      (pss_cons (ps_asg (pe_ifExp (pt_val (pv 8)) (pe_tup (pa_cons (pv 3) (pa_cons (pe_op op_sub (pv 7) pe_int) pa_nil))) (pe_tup (pa_cons (pv 7) (pa_cons (pv 4) pa_nil)))) (pg_tup rfl (pgs_cons (pg_name (i := 3) sc_law_play_right.nd rfl (.inl rfl)) (pgs_cons (pg_name (i := 4) sc_law_play_right.nd rfl (.inl rfl)) pgs_nil))))
      (pss_one (ps_set (i := 5) sc_law_play_right.nd rfl (.inl rfl) (pe_op op_add (pv 5) (pe_ifExp (pt_val (pv 8)) pe_int pe_int)))))))
      (pss_one (ps_ret (pe_and (pe_chain op_eq op_eq (pv 3) (pv 4) (pv 2)) (pe_one (pe_cmpR op_le (pv 5) (pv 1) (nomark _))))))))), ?_⟩
    have hc : 0 < g ∨ st = 0 := .inl hg0
    refine q_asg4N (Post := PPlay H st g x) ev_c (ev_var rfl) ev_c (en_callX (ea_cons (ev_var rfl) (ea_cons (ev_var rfl) (ea_cons (ev_var rfl) ea_nil))) fun H9 e9 => ⟨PPlay H9 st g x, ⟨st, g, x, rfl, hs, hg, hc, hT, hx, rfl⟩, fun v H10 ⟨u, q1, q2, q3⟩ => ⟨u, q1, fresh_back e9 q2, q3⟩⟩) (fun v H H' ⟨u, q1, q2, q3⟩ e => ⟨u, q1, q2, q3.mono e⟩) fun v H2 e2 hv => ?_
    obtain ⟨p, rfl, _, hpl⟩ := hv
    obtain ⟨as, hp, hT'⟩ := _root_.id hpl
    have hlen : (play st g x).length ≤ fw st g := pl_len _ _ _ _ _
    have hal : (as.map V.ref).length = (play st g x).length := by
      have := hT'.1
      rw [List.length_map] at this
      rw [List.length_map, this]
    refine q_when (et_test (ev_op (ev_cb (ea_cons (ev_var rfl) ea_nil) (rc_lenL (sq_of hp))) (ev_px (ea_cons (ev_var rfl) (ea_cons (ev_var rfl) ea_nil)) ⟨st, g, rfl, hs, hg, hc, rfl⟩) rv_I0)) (fun hb => absurd hb ?_) fun _ H3 e3 => ?_
    · rw [hal, decide_eq_false (show ¬ ((fw st g : Nat) : Int) < (((play st g x).length : Nat) : Int) by omega)]
      decide
    refine q_forL (xs := as.map V.ref) (ev_var rfl) (sq_of (e3 _ _ hp)) (fun i σ' H' => ∃ (t lo hi left : Nat) (y7 y8 : Option V), σ' = [some (.int (st : Int)), some (.int (g : Int)), some (.int (x : Int)), some (.int (lo : Int)), some (.int (hi : Int)), some (.int ((g : Int) - (left : Int))), some (.ref p), y7, y8] ∧
      At x g t lo hi left ∧ (play st g x).drop i = pl x t lo hi left ∧ Ex H2 H') (fun H4 e4 => ⟨fw st g, 0, st, g, none, none, by rw [Int.sub_self]; rfl, At.start hc hx, rfl, e3.trans e4⟩) (fun i σ' H' _ q => by obtain ⟨_, _, _, _, _, _, _, _, _, e⟩ := q; exact sq_of (e _ _ hp)) ?_ ?_
    · rintro i x0 σ' H' hx0 ⟨t, lo, hi, left, y7, y8, rfl, hA, hd, eH⟩
      obtain ⟨Tp, r, rfl, hr, hTp⟩ := tups_item (hT'.mono eH) hx0
      rw [drop_head hr] at hd
      have hlt : lo < hi := by
        by_cases z : lo < hi
        · exact z
        · rw [pl_end x z] at hd
          cases hd
      rw [pl_step hA hlt] at hd
      have np := nx_pos (s := hi - lo) (g := left) (t := t) (by omega)
      have nl := nx_le (hi - lo) left t
      obtain ⟨y, b⟩ := r
      have hTp : H' Tp = some (.tup [.int (y : Int), .bl b]) := hTp
      refine g_2 hTp ?_
      have key : lo < y ∧ y ≤ hi ∧ b = decide (x < y) ∧ (x < y → At x g (t - 1) lo (y - 1) (left - 1) ∧ (play st g x).drop (i + 1) = pl x (t - 1) lo (y - 1) (left - 1)) ∧ (¬ x < y → At x g (t - 1) y hi left ∧ (play st g x).drop (i + 1) = pl x (t - 1) y hi left) := by
        by_cases c : x < lo + nx (hi - lo) left t
        · rw [if_pos c] at hd
          have h1 := (List.cons.inj hd).1
          have h2 := (List.cons.inj hd).2
          have ey : y = lo + nx (hi - lo) left t := congrArg Prod.fst h1
          have eb : b = true := congrArg Prod.snd h1
          have hA' := hA.broke hlt c
          rw [← ey] at hA' h2 c
          exact ⟨by omega, by omega, by rw [eb, decide_eq_true c], fun _ => ⟨hA', h2⟩, fun z => absurd c z⟩
        · rw [if_neg c] at hd
          have h1 := (List.cons.inj hd).1
          have h2 := (List.cons.inj hd).2
          have ey : y = lo + nx (hi - lo) left t := congrArg Prod.fst h1
          have eb : b = false := congrArg Prod.snd h1
          have hA' := hA.held hlt c
          rw [← ey] at hA' h2 c
          exact ⟨by omega, by omega, by rw [eb, decide_eq_false c], fun z => absurd z c, fun _ => ⟨hA', h2⟩⟩
      obtain ⟨k1, k2, k3, k4, k5⟩ := key
      obtain ⟨t0, l0⟩ := hA.pos hlt
      subst k3
      have ed : decide ((x : Int) < (y : Int)) = decide (x < y) := decide_eq_decide.mpr (by omega)
      refine q_when (et_or (et_not (et_test (ev_chain (ev_var rfl) (ev_var rfl) (ev_var rfl) rv_I0 fun _ => rv_I0))) fun _ => et_test (ev_op (ev_var rfl) (ev_op (ev_var rfl) (ev_var rfl) rv_I0) rv_neB)) (fun hb => absurd hb ?_) fun _ H5 e5 => ?_
      · rw [decide_eq_true (show (lo : Int) < (y : Int) by omega), decide_eq_true (show (y : Int) ≤ (hi : Int) by omega), ed]
        simp
      by_cases c : x < y
      · obtain ⟨q1, q2⟩ := k4 c
        have eb : decide (x < y) = true := decide_eq_true c
        refine q_asg2U (u := .int (lo : Int)) (w0 := .int ((y - 1 : Nat) : Int)) (eu_if (et_B (ev_var rfl)) (fun _ => eu_tup (ea_cons (ev_var rfl) (ea_cons (ev_is (ev_op (ev_var rfl) ev_c rv_I0) (congrArg V.int (by omega))) ea_nil)) (by show 2 ≤ 100000; decide)) fun z => absurd (z.symm.trans eb) (by decide)) fun H6 e6 => ?_
        refine s_asg (v := .int ((g : Int) - ((left - 1 : Nat) : Int))) (ev_is (ev_op (ev_var rfl) (ev_if (v := .int 1) (et_B (ev_var rfl)) (fun _ => ev_c) fun z => absurd (z.symm.trans eb) (by decide)) rv_I0) (congrArg V.int (by omega))) fun H7 e7 => ?_
        exact ⟨t - 1, lo, y - 1, left - 1, _, _, rfl, q1, q2, ((eH.trans e5).trans e6).trans e7⟩
      · obtain ⟨q1, q2⟩ := k5 c
        have eb : decide (x < y) = false := decide_eq_false c
        refine q_asg2U (u := .int (y : Int)) (w0 := .int (hi : Int)) (eu_if (et_B (ev_var rfl)) (fun z => absurd (z.symm.trans eb) (by decide)) fun _ => eu_tup (ea_cons (ev_var rfl) (ea_cons (ev_var rfl) ea_nil)) (by show 2 ≤ 100000; decide)) fun H6 e6 => ?_
        refine s_asg (v := .int ((g : Int) - (left : Int))) (ev_is (ev_op (ev_var rfl) (ev_if (v := .int 0) (et_B (ev_var rfl)) (fun z => absurd (z.symm.trans eb) (by decide)) fun _ => ev_c) rv_I0) (congrArg V.int (by omega))) fun H7 e7 => ?_
        exact ⟨t - 1, y, hi, left, _, _, rfl, q1, q2, ((eH.trans e5).trans e6).trans e7⟩
    · rintro σ' H' ⟨t, lo, hi, left, y7, y8, rfl, hA, hd, eH⟩
      rw [hal, List.drop_length] at hd
      have hge : ¬ lo < hi := fun z => by
        rw [pl_step hA z] at hd
        split at hd <;> cases hd
      obtain ⟨h1, h2, h3, h4⟩ := hA
      refine s_ret (ev_is (ev_andV (ev_chain (ev_var rfl) (ev_var rfl) (ev_var rfl) rv_eqI fun _ => rv_eqI) fun _ => ev_op (ev_var rfl) (ev_var rfl) rv_I0) ?_) fun H4 e4 => k H4 ((e2.trans eH).trans e4)
      rw [decide_eq_true (show (lo : Int) = (hi : Int) by omega), decide_eq_true (show (hi : Int) = (x : Int) by omega), decide_eq_true (show (g : Int) - (left : Int) ≤ (g : Int) by omega)]
      rfl
/-! ### _law_plays_right -/
section
variable {σ : L2.St} {H : Hp} {ta tb : TE}
/-- tried(..) != [(..), ..], where they are alike -/
theorem ev_neT {E : XK} {t : TA} {s g x : Nat} {l : List (Nat × Bool)} (h : EvA t σ H [.int (s : Int), .int (g : Int), .int (x : Int)]) (hs : s ≤ 10 ^ 60) (hg : g ≤ 300) (hc : 0 < g ∨ s = 0) (hT : fw s g ≤ 1000) (hx : x ≤ s) (hp : play s g x = l) (hb : EvN tb σ H (fun v H2 => ∃ p, v = .ref p ∧ H p = none ∧ ListT H2 p (l.map prV))) : Ev (tOp (rNeD K) (tCall (spNX rTried (xTried A)) [] E t) tb) σ H (.bl false) := by
  subst hp
  refine ev_is (ev_opNN (P1 := PPlay H s g x) (en_callX h fun H9 e9 => ⟨PPlay H9 s g x, ⟨s, g, x, rfl, hs, hg, hc, hT, hx, rfl⟩, fun v H10 ⟨u, q1, q2, q3⟩ => ⟨u, q1, fresh_back e9 q2, q3⟩⟩) hb (z := .bl (!PyData.eqv (.list ((play s g x).map prD)) (.list ((play s g x).map prD)))) fun v w H1 H2 e1 hv e2 hw => ?_) (by rw [eqv_play]; rfl)
  obtain ⟨u, rfl, _, hu⟩ := hv
  obtain ⟨b, rfl, _, hb⟩ := hw
  exact rv_neD (dp_pairs (hu.mono e2)) (dp_pairs hb) (shaped_pairs _) (shaped_pairs _)
/-- lists of plays -/
def LAll (H : Hp) : List Addr → List (List (Nat × Bool)) → Prop
  | [], [] => True
  | p :: ps, l :: ls => ListT H p (l.map prV) ∧ LAll H ps ls
  | _, _ => False
theorem LAll.mono {H H' : Hp} (e : Ex H H') : ∀ {ps : List Addr} {ls : List (List (Nat × Bool))}, LAll H ps ls → LAll H' ps ls
  | [], [], _ => trivial
  | p :: ps, l :: ls, h => ⟨h.1.mono e, LAll.mono e h.2⟩
  | [], _ :: _, h => h.elim
  | _ :: _, [], h => h.elim
theorem LAll.app {H : Hp} {qs : List Addr} {ms : List (List (Nat × Bool))} (h2 : LAll H qs ms) : ∀ {ps : List Addr} {ls : List (List (Nat × Bool))}, LAll H ps ls → LAll H (ps ++ qs) (ls ++ ms)
  | [], [], _ => h2
  | p :: ps, l :: ls, h => ⟨h.1, LAll.app h2 h.2⟩
  | [], _ :: _, h => h.elim
  | _ :: _, [], h => h.elim
theorem LAll.len {H : Hp} : ∀ {ps : List Addr} {ls : List (List (Nat × Bool))}, LAll H ps ls → ps.length = ls.length
  | [], [], _ => rfl
  | p :: ps, l :: ls, h => congrArg (· + 1) (LAll.len h.2)
  | [], _ :: _, h => h.elim
  | _ :: _, [], h => h.elim
theorem LAll.dp {H : Hp} : ∀ {ps : List Addr} {ls : List (List (Nat × Bool))}, LAll H ps ls → DpAll K H (ps.map V.ref) (ls.map fun l => .list (l.map prD))
  | [], [], _ => .nil
  | p :: ps, l :: ls, h => .cons (dp_pairs h.1) (LAll.dp h.2)
  | [], _ :: _, h => h.elim
  | _ :: _, [], h => h.elim
def PLL (ls : List (List (Nat × Bool))) (v : V) (H : Hp) : Prop := ∃ (p : Addr) (ps : List Addr), v = .ref p ∧ H p = some (.lst (ps.map V.ref)) ∧ LAll H ps ls
theorem PLL.mono {ls : List (List (Nat × Bool))} {v : V} {H H' : Hp} (h : PLL ls v H) (e : Ex H H') : PLL ls v H' := by
  obtain ⟨p, ps, h1, h2, h3⟩ := h
  exact ⟨p, ps, h1, e _ _ h2, h3.mono e⟩
def EvALL (t : TA) (σ : L2.St) (H : Hp) (ls : List (List (Nat × Bool))) : Prop := ∀ H1, Ex H H1 → ∀ Q : List V → Hp → Prop, (∀ ps H2, Ex H1 H2 → LAll H2 ps ls → Q (ps.map V.ref) H2) → t σ H1 Q
theorem eal_nil : EvALL tNil σ H [] := fun H1 _ Q q => q [] H1 (Ex.refl H1) trivial
theorem eal_cons {tr : TA} {l : List (Nat × Bool)} {ls : List (List (Nat × Bool))} (h : EvN ta σ H (fun v H2 => ∃ p, v = .ref p ∧ H p = none ∧ ListT H2 p (l.map prV))) (hr : EvALL tr σ H ls) : EvALL (tCons ta tr) σ H (l :: ls) := fun H1 e Q q =>
  h H1 e _ fun v H2 e2 hv => by
    obtain ⟨p, rfl, _, hp⟩ := hv
    exact hr H2 (e.trans e2) _ fun ps H3 e3 h3 => q (p :: ps) H3 (e2.trans e3) ⟨hp.mono e3, h3⟩
theorem en_LL {t : TA} {ls : List (List (Nat × Bool))} (h : EvALL t σ H ls) (hz : ls.length ≤ 100000) : EvN (tLst t) σ H (PLL ls) := fun H1 e Q q =>
  h H1 e _ fun ps H2 e2 h2 => ⟨sz_of (by rw [List.length_map, h2.len]; exact hz), fun p hp => q _ _ (e2.trans (Ex.new hp)) ⟨p, ps, rfl, upd_same, h2.mono (Ex.new hp)⟩⟩
theorem en_LLcat {p : Addr} {ls ms : List (List (Nat × Bool))} (ha : Ev ta σ H (.ref p)) (h1 : PLL ls (.ref p) H) (hb : EvN tb σ H (PLL ms)) (hz : ls.length + ms.length ≤ 100000) : EvN (tOp rCat ta tb) σ H (PLL (ls ++ ms)) := fun H1 e Q q => ha H1 e _ fun H2 e2 => hb H2 (e.trans e2) _ fun v H3 e3 hv => by
  obtain ⟨p', ps, e0, hp, h1⟩ := h1
  cases e0
  obtain ⟨b, qs, rfl, hb, h2⟩ := hv
  have e13 := (e.trans e2).trans e3
  refine ⟨p, b, ps.map V.ref, qs.map V.ref, rfl, rfl, e13 _ _ hp, hb, sz_of (by rw [List.length_map, List.length_map, h1.len, h2.len]; exact hz), fun r hr => q _ _ ((e2.trans e3).trans (Ex.new hr)) ⟨r, ps ++ qs, rfl, by rw [upd_same, List.map_append], LAll.app (h2.mono (Ex.new hr)) ((h1.mono e13).mono (Ex.new hr))⟩⟩
end
theorem play_z (g : Nat) : play 0 g 0 = [] := by
  unfold play
  rw [fw_zero]
  exact pl_end 0 (by decide)
theorem play_110 : play 1 1 0 = [(1, true)] := by unfold play; rw [fw_1]; decide +kernel
theorem play_111 : play 1 1 1 = [(1, false)] := by unfold play; rw [fw_1]; decide +kernel
theorem play_730 : play 7 3 0 = [(4, true), (2, true), (1, true)] := by unfold play; rw [show fw 7 3 = 3 from fw_eq (by decide +kernel)]; decide +kernel
theorem play_7h : play 7 300 7 = [(4, false), (6, false), (7, false)] := by unfold play; rw [show fw 7 300 = 3 from fw_eq (by decide +kernel)]; decide +kernel
theorem play_1000 : play 1000 1 1000 = (List.range 1000).map fun i => (1 + i, false) := by
  rw [play_one (Nat.le_refl _)]
  unfold ups
  apply List.map_congr_left
  intro i hi
  have := List.mem_range.mp hi
  have h : ¬ 1000 < 0 + 1 + i := by
    have : min (1000 + 1) 1000 = 1000 := by decide
    omega
  rw [decide_eq_false h, Nat.zero_add]
def GP (v : V) (H : Hp) : Prop := ∃ (Tp : Addr) (s g x : Nat), v = .ref Tp ∧ H Tp = some (.tup [.int (s : Int), .int (g : Int), .int (x : Int)]) ∧ s ≤ 10 ^ 60 ∧ g ≤ 300 ∧ 0 < g ∧ fw s g ≤ 1000 ∧ x ≤ s
theorem GP.mono : ∀ (v : V) (H H' : Hp), GP v H → Ex H H' → GP v H' := fun v H H' h e => by
  obtain ⟨Tp, s, g, x, h1, h2, h3⟩ := h
  exact ⟨Tp, s, g, x, h1, e _ _ h2, h3⟩
theorem en_gp {σ : L2.St} {H : Hp} {t : TA} {s g x : Nat} (h : EvA t σ H [.int (s : Int), .int (g : Int), .int (x : Int)]) (h1 : s ≤ 10 ^ 60) (h2 : g ≤ 300) (h3 : 0 < g) (h4 : fw s g ≤ 1000) (h5 : x ≤ s) : EvN (tTup t) σ H GP :=
  en_evU (eu_tup h (by show 3 ≤ 100000; decide)) fun p H1 hp => ⟨p, s, g, x, rfl, hp, h1, h2, h3, h4, h5⟩
theorem fw_5e5 : fw 500000 2 ≤ 1000 := fw_le (by rw [R_1000_2]; decide)
theorem pls_3 : play 3 1 0 = [(1, true)] ∧ play 3 1 1 = [(1, false), (2, true)] ∧ play 3 1 2 = [(1, false), (2, false), (3, true)] ∧ play 3 1 3 = [(1, false), (2, false), (3, false)] := by
  unfold play
  rw [fw_1]
  decide +kernel
def dueL : List (List (Nat × Bool)) := [[(1, true)], [(1, false), (2, true)], [(1, false), (2, false), (3, true)]] ++ [[(1, false), (2, false), (3, false)]]
theorem due_at {H : Hp} {ps : List Addr} (h1 : ps.length = 4) (h2 : ∀ (i : Nat) q, ps[i]? = some q → ListT H q ((play 3 1 i).map prV)) : LAll H ps dueL := by
  match ps, h1 with
  | [a, b, c, d], _ =>
    have p := pls_3
    refine ⟨?_, ?_, ?_, ?_, trivial⟩
    · rw [← p.1]; exact h2 0 a rfl
    · rw [← p.2.1]; exact h2 1 b rfl
    · rw [← p.2.2.1]; exact h2 2 c rfl
    · rw [← p.2.2.2]; exact h2 3 d rfl
def dueD : PyData := .list (dueL.map fun l => .list (l.map prD))
theorem due_sh : SeqAt.shaped dueD = true := by decide +kernel
theorem due_eq : PyData.eqv dueD dueD = true := by decide +kernel
theorem ok_law_plays_right (T : Tx K mg A) (TB : LamX.TabB base mg A.c_law_plays_right A.p_law_plays_right) : FnOk P w K mg base CX0 7 A.a_law_plays_right A.d_law_plays_right ["_law_n"] (spMk A) := by
  refine okC T.fc_law_plays_right sc_law_plays_right (fun vs H Q E h => ?_) (fun Ar outer s H vs Q E hr h => ?_)
  · obtain ⟨n, rfl, _⟩ := h
    rfl
  · obtain ⟨n, rfl, hn1, hn, hT, k⟩ := h
    refine ⟨_, (pss_cons (ps_if (PW.pt (pw_or (pt_cmpR (op_neD hr.units) (pe_call (ok_tried (P := P) (w := w) (base := base) T) (hr.mono (by decide)) (by rfl) T.g_tried T.f_tried.kp T.b_tried .nil passN (pa_cons pe_int (pa_cons pe_int (pa_cons pe_int pa_nil)))) (pe_lst pa_nil) (nomark _)) (pw_or (pt_cmpR (op_neD hr.units) (pe_call (ok_tried (P := P) (w := w) (base := base) T) (hr.mono (by decide)) (by rfl) T.g_tried T.f_tried.kp T.b_tried .nil passN (pa_cons pe_int (pa_cons pe_int (pa_cons pe_int pa_nil)))) (pe_lst pa_nil) (nomark _)) (pw_or1 (pt_cmpR (op_neD hr.units) (pe_call (ok_tried (P := P) (w := w) (base := base) T) (hr.mono (by decide)) (by rfl) T.g_tried T.f_tried.kp T.b_tried .nil passN (pa_cons pe_int (pa_cons pe_int (pa_cons pe_int pa_nil)))) (pe_lst (pa_cons (pe_tup (pa_cons pe_int (pa_cons pe_bl pa_nil))) pa_nil)) (nomark _)))))) (pss_one (ps_ret pe_bl)) pss_nil)
      (pss_cons (ps_if (pt_cmpR (op_neD hr.units) (pe_call (ok_tried (P := P) (w := w) (base := base) T) (hr.mono (by decide)) (by rfl) T.g_tried T.f_tried.kp T.b_tried .nil passN (pa_cons pe_int (pa_cons pe_int (pa_cons pe_int pa_nil)))) (pe_lst (pa_cons (pe_tup (pa_cons pe_int (pa_cons pe_bl pa_nil))) pa_nil)) (nomark _)) (pss_one (ps_ret pe_bl)) pss_nil)
      (pss_cons (ps_set (i := 1) sc_law_plays_right.nd rfl (.inl rfl) (pe_lst (pa_cons (pe_lst (pa_cons (pe_tup (pa_cons pe_int (pa_cons pe_bl pa_nil))) pa_nil)) (pa_cons (pe_lst (pa_cons (pe_tup (pa_cons pe_int (pa_cons pe_bl pa_nil))) (pa_cons (pe_tup (pa_cons pe_int (pa_cons pe_bl pa_nil))) pa_nil))) (pa_cons (pe_lst (pa_cons (pe_tup (pa_cons pe_int (pa_cons pe_bl pa_nil))) (pa_cons (pe_tup (pa_cons pe_int (pa_cons pe_bl pa_nil))) (pa_cons (pe_tup (pa_cons pe_int (pa_cons pe_bl pa_nil))) pa_nil)))) pa_nil)))))
      (pss_cons (ps_set (i := 1) sc_law_plays_right.nd rfl (.inl rfl) (pe_op op_cat (pv 1) (pe_lst (pa_cons (pe_lst (pa_cons (pe_tup (pa_cons pe_int (pa_cons pe_bl pa_nil))) (pa_cons (pe_tup (pa_cons pe_int (pa_cons pe_bl pa_nil))) (pa_cons (pe_tup (pa_cons pe_int (pa_cons pe_bl pa_nil))) pa_nil)))) pa_nil))))
      (pss_cons (ps_if (pt_cmpR (op_neD hr.units) (pe_lc (own := [("_law_stands", 2)]) (g := (gName 2)) (tt := tYes) (by rfl) sc_law_plays_right.nd (pi_range1 (by rfl) T.z_range (pa_cons pe_int pa_nil)) (blkOk_by (own := [("_law_stands", 2)]) (N := ["_law_n", "_law_due", "_law_stands", "_law_cases", "_law_storeys", "_law_glasses", "_law_asks", "_law_words", "_law_storey", "_law_ask"]) (sc := defScope s_law_plays_right) (by decide +kernel)) (fun _ _ _ _ _ => (pg_name (i := 2) sc_law_plays_right.nd rfl (.inl rfl))) (fun _ _ _ _ _ => pts_nil) (fun _ _ _ _ _ => (pe_call (ok_tried (P := P) (w := w) (base := base) T) (hr.mono (by decide)) (by rfl) T.g_tried T.f_tried.kp T.b_tried .nil passN (pa_cons pe_int (pa_cons pe_int (pa_cons (pv 2) pa_nil)))))) (pv 1) (nomark _)) (pss_one (ps_ret pe_bl)) pss_nil)
      (pss_cons (ps_if (pt_cmpR (op_neD hr.units) (pe_call (ok_tried (P := P) (w := w) (base := base) T) (hr.mono (by decide)) (by rfl) T.g_tried T.f_tried.kp T.b_tried .nil passN (pa_cons pe_int (pa_cons pe_int (pa_cons pe_int pa_nil)))) (pe_lst (pa_cons (pe_tup (pa_cons pe_int (pa_cons pe_bl pa_nil))) (pa_cons (pe_tup (pa_cons pe_int (pa_cons pe_bl pa_nil))) (pa_cons (pe_tup (pa_cons pe_int (pa_cons pe_bl pa_nil))) pa_nil)))) (nomark _)) (pss_one (ps_ret pe_bl)) pss_nil)
      (pss_cons (ps_if (pt_cmpR (op_neD hr.units) (pe_call (ok_tried (P := P) (w := w) (base := base) T) (hr.mono (by decide)) (by rfl) T.g_tried T.f_tried.kp T.b_tried .nil passN (pa_cons pe_int (pa_cons pe_int (pa_cons pe_int pa_nil)))) (pe_lst (pa_cons (pe_tup (pa_cons pe_int (pa_cons pe_bl pa_nil))) (pa_cons (pe_tup (pa_cons pe_int (pa_cons pe_bl pa_nil))) (pa_cons (pe_tup (pa_cons pe_int (pa_cons pe_bl pa_nil))) pa_nil)))) (nomark _)) (pss_one (ps_ret pe_bl)) pss_nil)
      (pss_cons (ps_if (pt_cmpR (op_neD hr.units) (pe_call (ok_tried (P := P) (w := w) (base := base) T) (hr.mono (by decide)) (by rfl) T.g_tried T.f_tried.kp T.b_tried .nil passN (pa_cons pe_int (pa_cons pe_int (pa_cons pe_int pa_nil)))) (pe_lc (own := [("_law_storey", 8)]) (g := (gName 8)) (tt := tYes) (by rfl) sc_law_plays_right.nd (pi_range2 (by rfl) T.z_range (pa_cons pe_int (pa_cons pe_int pa_nil))) (blkOk_by (own := [("_law_storey", 8)]) (N := ["_law_n", "_law_due", "_law_stands", "_law_cases", "_law_storeys", "_law_glasses", "_law_asks", "_law_words", "_law_storey", "_law_ask"]) (sc := defScope s_law_plays_right) (by decide +kernel)) (fun _ _ _ _ _ => (pg_name (i := 8) sc_law_plays_right.nd rfl (.inl rfl))) (fun _ _ _ _ _ => pts_nil) (fun _ _ _ _ _ => (pe_tup (pa_cons (pv 8) (pa_cons pe_bl pa_nil))))) (nomark _)) (pss_one (ps_ret pe_bl)) pss_nil)
      (pss_cons (ps_set (i := 3) sc_law_plays_right.nd rfl (.inl rfl) (pe_lst (pa_cons (pe_tup (pa_cons pe_int (pa_cons pe_int (pa_cons (pe_op op_mod (pv 0) pe_int) pa_nil)))) (pa_cons (pe_tup (pa_cons pe_int (pa_cons pe_int (pa_cons (pe_op op_mod (pv 0) pe_int) pa_nil)))) (pa_cons (pe_tup (pa_cons (pe_op op_pow pe_int pe_int) (pa_cons pe_int (pa_cons (pv 0) pa_nil)))) (pa_cons (pe_tup (pa_cons (pe_op op_pow pe_int pe_int) (pa_cons pe_int (pa_cons (pe_op op_pow pe_int pe_int) pa_nil)))) pa_nil))))))
      (pss_cons (ps_set (i := 3) sc_law_plays_right.nd rfl (.inl rfl) (pe_op op_cat (pv 3) (pe_lst (pa_cons (pe_tup (pa_cons (pe_op op_pow pe_int pe_int) (pa_cons pe_int (pa_cons pe_int pa_nil)))) (pa_cons (pe_tup (pa_cons pe_int (pa_cons pe_int (pa_cons (pe_op op_mod (pv 0) pe_int) pa_nil)))) (pa_cons (pe_tup (pa_cons pe_int (pa_cons pe_int (pa_cons (pe_op op_mod (pv 0) pe_int) pa_nil)))) pa_nil))))))
      (pss_cons (ps_for PassesOwn.never rfl (pi_list (pv 3)) (pg_tup rfl (pgs_cons (pg_name (i := 4) sc_law_plays_right.nd rfl (.inl rfl)) (pgs_cons (pg_name (i := 5) sc_law_plays_right.nd rfl (.inl rfl)) (pgs_cons (pg_name (i := 2) sc_law_plays_right.nd rfl (.inl rfl)) pgs_nil))))
        (pss_one (ps_if (pt_not (pt_val (pe_call (ok_law_play_right (P := P) (w := w) (base := base) T) (hr.mono (by decide)) (by rfl) T.g_law_play_right T.f_law_play_right.kp T.b_law_play_right .nil pass0 (pa_cons (pv 4) (pa_cons (pv 5) (pa_cons (pv 2) pa_nil)))))) (pss_one (ps_ret pe_bl)) pss_nil)))
      (pss_cons (ps_set (i := 6) sc_law_plays_right.nd rfl (.inl rfl) (pe_lst (pa_cons (pe_ask (P := P) (w := w) (K := K) (mg := mg) (base := base) (k := 4) (Ts := tsL A) (a := "_law_one") (q := qLam "_law_plays_right" (defScope s_law_plays_right)) TB (by rfl) (by rfl) (by rfl) (by rfl) tl_law_plays_right_m (tl_law_plays_right_u T) (by rfl) (by decide) ⟨rfl, rfl, rfl, by decide +kernel, rfl, by decide +kernel, by decide +kernel⟩ (fun _ _ _ _ => rfl) (fun f cd Ar outer s H E hr2 => (pe_call (ok_tried (P := P) (w := w) (base := base) T) (hr2.mono (by decide)) (by rfl) T.g_tried T.f_tried.kp T.b_tried .nil (L2.passes_call (L2.takes_of rfl rfl rfl rfl) (fun _ _ _ _ h => h)) (pa_cons pe_int (pa_cons pe_int (pa_cons pe_non pa_nil)))))) (pa_cons (pe_ask (P := P) (w := w) (K := K) (mg := mg) (base := base) (k := 4) (Ts := tsL A) (a := "_law_two") (q := qLam "_law_plays_right" (defScope s_law_plays_right)) TB (by rfl) (by rfl) (by rfl) (by rfl) tl_law_plays_right_m (tl_law_plays_right_u T) (by rfl) (by decide) ⟨rfl, rfl, rfl, by decide +kernel, rfl, by decide +kernel, by decide +kernel⟩ (fun _ _ _ _ => rfl) (fun f cd Ar outer s H E hr2 => (pe_call (ok_tried (P := P) (w := w) (base := base) T) (hr2.mono (by decide)) (by rfl) T.g_tried T.f_tried.kp T.b_tried .nil (L2.passes_call (L2.takes_of rfl rfl rfl rfl) (fun _ _ _ _ h => h)) (pa_cons pe_int (pa_cons pe_int (pa_cons pe_non pa_nil)))))) pa_nil))))
      (pss_cons (ps_set (i := 6) sc_law_plays_right.nd rfl (.inl rfl) (pe_op op_cat (pv 6) (pe_lst (pa_cons (pe_ask (P := P) (w := w) (K := K) (mg := mg) (base := base) (k := 4) (Ts := tsL A) (a := "_law_six") (q := qLam "_law_plays_right" (defScope s_law_plays_right)) TB (by rfl) (by rfl) (by rfl) (by rfl) tl_law_plays_right_m (tl_law_plays_right_u T) (by rfl) (by decide) ⟨rfl, rfl, rfl, by decide +kernel, rfl, by decide +kernel, by decide +kernel⟩ (fun _ _ _ _ => rfl) (fun f cd Ar outer s H E hr2 => (pe_call (ok_tried (P := P) (w := w) (base := base) T) (hr2.mono (by decide)) (by rfl) T.g_tried T.f_tried.kp T.b_tried .nil (L2.passes_call (L2.takes_of rfl rfl rfl rfl) (fun _ _ _ _ h => h)) (pa_cons pe_int (pa_cons pe_int (pa_cons pe_int pa_nil)))))) (pa_cons (pe_ask (P := P) (w := w) (K := K) (mg := mg) (base := base) (k := 4) (Ts := tsL A) (a := "_law_it") (q := qLam "_law_plays_right" (defScope s_law_plays_right)) TB (by rfl) (by rfl) (by rfl) (by rfl) tl_law_plays_right_m (tl_law_plays_right_u T) (by rfl) (by decide) ⟨rfl, rfl, rfl, by decide +kernel, rfl, by decide +kernel, by decide +kernel⟩ (fun _ _ _ _ => rfl) (fun f cd Ar outer s H E hr2 => (pe_call (ok_tried (P := P) (w := w) (base := base) T) (hr2.mono (by decide)) (by rfl) T.g_tried T.f_tried.kp T.b_tried .nil (L2.passes_call (L2.takes_of rfl rfl rfl rfl) (fun _ _ _ _ h => h)) (pa_cons pe_int (pa_cons pe_int (pa_cons (pe_un un_neg pe_int) pa_nil)))))) pa_nil)))))
      (pss_cons (ps_set (i := 6) sc_law_plays_right.nd rfl (.inl rfl) (pe_op op_cat (pv 6) (pe_lst (pa_cons (pe_ask (P := P) (w := w) (K := K) (mg := mg) (base := base) (k := 4) (Ts := tsL A) (a := "_law_me") (q := qLam "_law_plays_right" (defScope s_law_plays_right)) TB (by rfl) (by rfl) (by rfl) (by rfl) tl_law_plays_right_m (tl_law_plays_right_u T) (by rfl) (by decide) ⟨rfl, rfl, rfl, by decide +kernel, rfl, by decide +kernel, by decide +kernel⟩ (fun _ _ _ _ => rfl) (fun f cd Ar outer s H E hr2 => (pe_call (ok_tried (P := P) (w := w) (base := base) T) (hr2.mono (by decide)) (by rfl) T.g_tried T.f_tried.kp T.b_tried .nil (L2.passes_call (L2.takes_of rfl rfl rfl rfl) (fun _ _ _ _ h => h)) (pa_cons pe_int (pa_cons pe_int (pa_cons pe_bl pa_nil)))))) (pa_cons (pe_ask (P := P) (w := w) (K := K) (mg := mg) (base := base) (k := 4) (Ts := tsL A) (a := "_law_us") (q := qLam "_law_plays_right" (defScope s_law_plays_right)) TB (by rfl) (by rfl) (by rfl) (by rfl) tl_law_plays_right_m (tl_law_plays_right_u T) (by rfl) (by decide) ⟨rfl, rfl, rfl, by decide +kernel, rfl, by decide +kernel, by decide +kernel⟩ (fun _ _ _ _ => rfl) (fun f cd Ar outer s H E hr2 => (pe_call (ok_tried (P := P) (w := w) (base := base) T) (hr2.mono (by decide)) (by rfl) T.g_tried T.f_tried.kp T.b_tried .nil (L2.passes_call (L2.takes_of rfl rfl rfl rfl) (fun _ _ _ _ h => h)) (pa_cons pe_int (pa_cons pe_int (pa_cons pe_non pa_nil)))))) pa_nil)))))
      (pss_cons (ps_set (i := 6) sc_law_plays_right.nd rfl (.inl rfl) (pe_op op_cat (pv 6) (pe_lst (pa_cons (pe_ask (P := P) (w := w) (K := K) (mg := mg) (base := base) (k := 4) (Ts := tsL A) (a := "_law_them") (q := qLam "_law_plays_right" (defScope s_law_plays_right)) TB (by rfl) (by rfl) (by rfl) (by rfl) tl_law_plays_right_m (tl_law_plays_right_u T) (by rfl) (by decide) ⟨rfl, rfl, rfl, by decide +kernel, rfl, by decide +kernel, by decide +kernel⟩ (fun _ _ _ _ => rfl) (fun f cd Ar outer s H E hr2 => (pe_call (ok_tried (P := P) (w := w) (base := base) T) (hr2.mono (by decide)) (by rfl) T.g_tried T.f_tried.kp T.b_tried .nil (L2.passes_call (L2.takes_of rfl rfl rfl rfl) (fun _ _ _ _ h => h)) (pa_cons (pe_op op_pow pe_int pe_int) (pa_cons pe_int (pa_cons pe_int pa_nil)))))) (pa_cons (pe_ask (P := P) (w := w) (K := K) (mg := mg) (base := base) (k := 4) (Ts := tsL A) (a := "_law_her") (q := qLam "_law_plays_right" (defScope s_law_plays_right)) TB (by rfl) (by rfl) (by rfl) (by rfl) tl_law_plays_right_m (tl_law_plays_right_u T) (by rfl) (by decide) ⟨rfl, rfl, rfl, by decide +kernel, rfl, by decide +kernel, by decide +kernel⟩ (fun _ _ _ _ => rfl) (fun f cd Ar outer s H E hr2 => (pe_call (ok_tried (P := P) (w := w) (base := base) T) (hr2.mono (by decide)) (by rfl) T.g_tried T.f_tried.kp T.b_tried .nil (L2.passes_call (L2.takes_of rfl rfl rfl rfl) (fun _ _ _ _ h => h)) (pa_cons pe_int (pa_cons pe_int (pa_cons pe_int pa_nil)))))) pa_nil)))))
      (pss_cons (ps_set (i := 7) sc_law_plays_right.nd rfl (.inl rfl) (pe_lst (pa_cons pe_str (pa_cons pe_str (pa_cons pe_str (pa_cons pe_str (pa_cons pe_str (pa_cons pe_str (pa_cons pe_str (pa_cons pe_str pa_nil))))))))))
      (pss_one (ps_ret (pe_cmpR (op_eqD hr.units) (pe_lc (own := [("_law_ask", 9)]) (g := (gName 9)) (tt := tYes) (by rfl) sc_law_plays_right.nd (pi_list (pv 6)) (blkOk_by (own := [("_law_ask", 9)]) (N := ["_law_n", "_law_due", "_law_stands", "_law_cases", "_law_storeys", "_law_glasses", "_law_asks", "_law_words", "_law_storey", "_law_ask"]) (sc := defScope s_law_plays_right) (by decide +kernel)) (fun _ _ _ _ _ => (pg_name (i := 9) sc_law_plays_right.nd rfl (.inl rfl))) (fun _ _ _ _ _ => pts_nil) (fun _ _ _ _ _ => (pe_call (ok_law_word (P := P) (w := w) (base := base) T) (hr.mono (by decide)) (by rfl) T.g_law_word T.f_law_word.kp T.b_law_word .nil pass0 (pa_cons (pv 9) (pa_cons pe_non pa_nil))))) (pv 7) (nomark _)))))))))))))))))))), ?_⟩
    have pw : ∀ {H : Hp} (i : Nat), i ≤ 100 → RV (rI CPow fun i j => .int (i ^ j.toNat)) (.int 10) (.int (i : Int)) H (.int ((10 : Int) ^ ((i : Int)).toNat)) := fun {H} i hi => rv_I ⟨by omega, by omega, by decide⟩
    have hn60 : n ≤ 10 ^ 60 := Nat.le_trans hn (by decide)
    refine q_when (et_or (et_test (ev_neT (s := 0) (g := 0) (x := 0) (l := []) (ea_cons ev_c (ea_cons ev_c (ea_cons ev_c ea_nil))) (by decide) (by decide) (.inr rfl) (by rw [fw_zero]; decide) (by decide) (play_z 0) (en_lstT eau_nil (by decide)))) fun _ => et_or (et_test (ev_neT (s := 0) (g := 5) (x := 0) (l := []) (ea_cons ev_c (ea_cons ev_c (ea_cons ev_c ea_nil))) (by decide) (by decide) (.inr rfl) (by rw [fw_zero]; decide) (by decide) (play_z 5) (en_lstT eau_nil (by decide)))) fun _ =>
      et_test (ev_neT (s := 1) (g := 1) (x := 0) (l := [(1, true)]) (ea_cons ev_c (ea_cons ev_c (ea_cons ev_c ea_nil))) (by decide) (by decide) (.inl (by decide)) (by rw [fw_1]; decide) (by decide) play_110 (en_lstT (eau_cons (eu_tup (ea_cons ev_c (ea_cons ev_c ea_nil)) (by show 2 ≤ 100000; decide)) eau_nil) (by show 1 ≤ 100000; decide)))) (fun hb => absurd hb (by decide)) fun _ H1 e1 => ?_
    refine q_when (et_test (ev_neT (s := 1) (g := 1) (x := 1) (l := [(1, false)]) (ea_cons ev_c (ea_cons ev_c (ea_cons ev_c ea_nil))) (by decide) (by decide) (.inl (by decide)) (by rw [fw_1]; decide) (by decide) play_111 (en_lstT (eau_cons (eu_tup (ea_cons ev_c (ea_cons ev_c ea_nil)) (by show 2 ≤ 100000; decide)) eau_nil) (by show 1 ≤ 100000; decide)))) (fun hb => absurd hb (by decide)) fun _ H2 e2 => ?_
    refine q_asgN (Post := PLL [[(1, true)], [(1, false), (2, true)], [(1, false), (2, false), (3, true)]]) (en_LL (eal_cons (en_lstT (eau_cons (eu_tup (ea_cons ev_c (ea_cons ev_c ea_nil)) (by show 2 ≤ 100000; decide)) eau_nil) (by show 1 ≤ 100000; decide)) (eal_cons (en_lstT (eau_cons (eu_tup (ea_cons ev_c (ea_cons ev_c ea_nil)) (by show 2 ≤ 100000; decide)) (eau_cons (eu_tup (ea_cons ev_c (ea_cons ev_c ea_nil)) (by show 2 ≤ 100000; decide)) eau_nil)) (by show 2 ≤ 100000; decide))
      (eal_cons (en_lstT (eau_cons (eu_tup (ea_cons ev_c (ea_cons ev_c ea_nil)) (by show 2 ≤ 100000; decide)) (eau_cons (eu_tup (ea_cons ev_c (ea_cons ev_c ea_nil)) (by show 2 ≤ 100000; decide)) (eau_cons (eu_tup (ea_cons ev_c (ea_cons ev_c ea_nil)) (by show 2 ≤ 100000; decide)) eau_nil))) (by show 3 ≤ 100000; decide)) eal_nil))) (by show 3 ≤ 100000; decide)) fun v H3 e3 hv3 => ?_
    obtain ⟨d3, rfl⟩ : ∃ d3, v = .ref d3 := by
      obtain ⟨p, _, z, _⟩ := hv3
      exact ⟨p, z⟩
    refine q_asgN (Post := PLL dueL) (en_LLcat (ev_var rfl) hv3 (en_LL (eal_cons (en_lstT (eau_cons (eu_tup (ea_cons ev_c (ea_cons ev_c ea_nil)) (by show 2 ≤ 100000; decide)) (eau_cons (eu_tup (ea_cons ev_c (ea_cons ev_c ea_nil)) (by show 2 ≤ 100000; decide)) (eau_cons (eu_tup (ea_cons ev_c (ea_cons ev_c ea_nil)) (by show 2 ≤ 100000; decide)) eau_nil))) (by show 3 ≤ 100000; decide)) eal_nil) (by show 1 ≤ 100000; decide)) (by show 4 ≤ 100000; decide)) fun v H4 e4 hv4 => ?_
    obtain ⟨d4, p4, rfl, hd4, hL4⟩ := hv4
    refine q_when (et_test (ev_is (ev_opN1 (z := .bl (!PyData.eqv dueD dueD)) (en_lcT (n := 4) (fun i => (play 3 1 i).map prV) (ea_cons ev_c ea_nil) ⟨by decide, by decide⟩ (fun _ => rfl) fun i H5 e5 hi => en_callX (ea_cons ev_c (ea_cons ev_c (ea_cons (ev_var rfl) ea_nil))) fun H9 e9 => ⟨PPlay H9 3 1 i, ⟨3, 1, i, rfl, by decide, by decide, .inl (by decide), by rw [fw_1]; decide, by omega, rfl⟩, fun v H10 ⟨u, q1, q2, q3⟩ => ⟨u, q1, fresh_back e9 q2, q3⟩⟩) (ev_var rfl) fun v H5 e5 hv => ?_) (show V.bl (!PyData.eqv dueD dueD) = .bl false by rw [due_eq]; rfl))) (fun hb => absurd hb (by decide)) fun _ H5 e5 => ?_
    · obtain ⟨q, ps, rfl, _, hq, hl, hP⟩ := hv
      exact rv_neD (.lst (sq_of hq) (LAll.dp (due_at hl hP))) (.lst (sq_of (e5 _ _ hd4)) (LAll.dp (hL4.mono e5))) due_sh due_sh
    refine q_when (et_test (ev_neT (s := 7) (g := 3) (x := 0) (l := [(4, true), (2, true), (1, true)]) (ea_cons ev_c (ea_cons ev_c (ea_cons ev_c ea_nil))) (by decide) (by decide) (.inl (by decide)) (fw_small (by decide) (by decide)) (by decide) play_730 (en_lstT (eau_cons (eu_tup (ea_cons ev_c (ea_cons ev_c ea_nil)) (by show 2 ≤ 100000; decide)) (eau_cons (eu_tup (ea_cons ev_c (ea_cons ev_c ea_nil)) (by show 2 ≤ 100000; decide)) (eau_cons (eu_tup (ea_cons ev_c (ea_cons ev_c ea_nil)) (by show 2 ≤ 100000; decide)) eau_nil))) (by show 3 ≤ 100000; decide)))) (fun hb => absurd hb (by decide)) fun _ H6 e6 => ?_
    refine q_when (et_test (ev_neT (s := 7) (g := 300) (x := 7) (l := [(4, false), (6, false), (7, false)]) (ea_cons ev_c (ea_cons ev_c (ea_cons ev_c ea_nil))) (by decide) (by decide) (.inl (by decide)) (fw_small (by decide) (by decide)) (by decide) play_7h (en_lstT (eau_cons (eu_tup (ea_cons ev_c (ea_cons ev_c ea_nil)) (by show 2 ≤ 100000; decide)) (eau_cons (eu_tup (ea_cons ev_c (ea_cons ev_c ea_nil)) (by show 2 ≤ 100000; decide)) (eau_cons (eu_tup (ea_cons ev_c (ea_cons ev_c ea_nil)) (by show 2 ≤ 100000; decide)) eau_nil))) (by show 3 ≤ 100000; decide)))) (fun hb => absurd hb (by decide)) fun _ H7 e7 => ?_
    refine q_when (et_test (ev_neT (s := 1000) (g := 1) (x := 1000) (ea_cons ev_c (ea_cons ev_c (ea_cons ev_c ea_nil))) (by decide) (by decide) (.inl (by decide)) (by rw [fw_1]; decide) (by decide) play_1000 (EvN.weak (en_lcU2 (lo := 1) (hi := 1001) (fun i => [.int ((1 : Int) + (i : Int)), .bl false]) (ea_cons ev_c (ea_cons ev_c ea_nil)) ⟨by decide, by decide, by decide, by decide⟩ (fun _ => rfl) fun i H8 e8 hi => eu_tup (ea_cons (ev_var rfl) (ea_cons ev_c ea_nil)) (by show 2 ≤ 100000; decide)) fun v H8 e8 ⟨q, h1, h2, h3⟩ => ⟨q, h1, h2, by
      have e : ((List.range 1000).map fun i => ((1 + i, false) : Nat × Bool)).map prV = (List.range ((1001 : Int) - 1).toNat).map fun (i : Nat) => [V.int ((1 : Int) + (i : Int)), .bl false] := by
        rw [List.map_map, show ((1001 : Int) - 1).toNat = 1000 by decide]
        refine List.map_congr_left fun i _ => ?_
        show [V.int ((1 + i : Nat) : Int), .bl false] = _
        rw [show ((1 + i : Nat) : Int) = 1 + (i : Int) by omega]
      rw [e]
      exact h3⟩))) (fun hb => absurd hb (by decide)) fun _ H8 e8 => ?_
    refine q_asgN (en_lstB (n := 4) GP.mono (eab_cons GP.mono (en_gp (s := 100) (g := 2) (x := n % 101) (ea_cons ev_c (ea_cons ev_c (ea_cons (ev_is (ev_op (ev_var rfl) ev_c (rv_I (by show (0 : Int) < _; decide))) (congrArg V.int (show (n : Int) % 101 = ((n % 101 : Nat) : Int) by omega))) ea_nil))) (by decide) (by decide) (by decide) (fw_small (by decide) (by decide)) (by omega))
      (eab_cons GP.mono (en_gp (s := 6) (g := 2) (x := n % 7) (ea_cons ev_c (ea_cons ev_c (ea_cons (ev_is (ev_op (ev_var rfl) ev_c (rv_I (by show (0 : Int) < _; decide))) (congrArg V.int (show (n : Int) % 7 = ((n % 7 : Nat) : Int) by omega))) ea_nil))) (by decide) (by decide) (by decide) (fw_small (by decide) (by decide)) (by omega))
      (eab_cons GP.mono (en_gp (s := 10 ^ 60) (g := 300) (x := n) (ea_cons (ev_op ev_c ev_c (pw 60 (by decide))) (ea_cons ev_c (ea_cons (ev_var rfl) ea_nil))) (Nat.le_refl _) (by decide) (by decide) (by rw [fw_60 (by decide)]; decide) hn60)
      (eab_cons GP.mono (en_gp (s := 10 ^ 60) (g := 300) (x := 10 ^ 60) (ea_cons (ev_op ev_c ev_c (pw 60 (by decide))) (ea_cons ev_c (ea_cons (ev_op ev_c ev_c (pw 60 (by decide))) ea_nil))) (Nat.le_refl _) (by decide) (by decide) (by rw [fw_60 (by decide)]; decide) (Nat.le_refl _)) eab_nil)))) (by decide)) fun v H9 e9 hv => ?_
    obtain ⟨l9, u9, rfl, _, hl9, n9, g9⟩ := hv
    refine q_asgN (en_catB (n := 3) GP.mono (ev_var rfl) hl9 g9 (en_lstB GP.mono (eab_cons GP.mono (en_gp (s := 10 ^ 60) (g := 300) (x := 0) (ea_cons (ev_op ev_c ev_c (pw 60 (by decide))) (ea_cons ev_c (ea_cons ev_c ea_nil))) (Nat.le_refl _) (by decide) (by decide) (by rw [fw_60 (by decide)]; decide) (Nat.zero_le _))
      (eab_cons GP.mono (en_gp (s := 5) (g := 300) (x := n % 6) (ea_cons ev_c (ea_cons ev_c (ea_cons (ev_is (ev_op (ev_var rfl) ev_c (rv_I (by show (0 : Int) < _; decide))) (congrArg V.int (show (n : Int) % 6 = ((n % 6 : Nat) : Int) by omega))) ea_nil))) (by decide) (by decide) (by decide) (fw_small (by decide) (by decide)) (by omega))
      (eab_cons GP.mono (en_gp (s := 500000) (g := 2) (x := n % 500001) (ea_cons ev_c (ea_cons ev_c (ea_cons (ev_is (ev_op (ev_var rfl) ev_c (rv_I (by show (0 : Int) < _; decide))) (congrArg V.int (show (n : Int) % 500001 = ((n % 500001 : Nat) : Int) by omega))) ea_nil))) (by decide) (by decide) (by decide) fw_5e5 (by omega)) eab_nil))) (by decide)) (by omega)) fun v H10 e10 hv => ?_
    obtain ⟨l10, u10, rfl, _, hl10, n10, g10⟩ := hv
    have hT10 : LamX.Tabs (tsL A) H10 := hT.ext (((((((((e1.trans e2).trans e3).trans e4).trans e5).trans e6).trans e7).trans e8).trans e9).trans e10)
    refine q_forL (xs := u10) (ev_var rfl) (sq_of hl10) (fun _ σ' H' => ∃ y2 y4 y5, σ' = [some (.int (n : Int)), some (.ref d4), y2, some (.ref l10), y4, y5, none, none, none, none] ∧ Ex H10 H') (fun H12 e12 => ⟨_, _, _, rfl, e12⟩) (fun i σ' H' _ q => by obtain ⟨_, _, _, _, e⟩ := q; exact sq_of (e _ _ hl10)) ?_ ?_
    · rintro i x σ' H' hx ⟨y2, y4, y5, rfl, eH⟩
      obtain ⟨Tp, s0, g0, x0, rfl, hTp, z1, z2, z3, z4, z5⟩ := GP.mono _ _ _ (g10 x (List.mem_of_getElem? hx)) eH
      refine g_3 hTp ?_
      exact s_when (et_not (et_B (ev_p (ea_cons (ev_var rfl) (ea_cons (ev_var rfl) (ea_cons (ev_var rfl) ea_nil))) ⟨s0, g0, x0, rfl, z1, z2, z3, z4, z5, rfl⟩))) (fun hb => absurd hb (by decide)) fun _ H11 e11 => ⟨_, _, _, rfl, eH.trans e11⟩
    rintro σ' H' ⟨y2, y4, y5, rfl, eH⟩
    refine q_asks (hT10.ext eH) (eq_cons (eq_cons eq_nil)) (by show 2 ≤ 100000; decide) fun l1 f1 Ha ea Ta hl1 ha1 => ?_
    refine q_asksCat Ta hl1 ha1 rfl (eq_cons (eq_cons eq_nil)) (by show 4 ≤ 100000; decide) fun l2 f2 Hb eb Tb hl2 ha2 => ?_
    refine q_asksCat Tb hl2 ha2 rfl (eq_cons (eq_cons eq_nil)) (by show 6 ≤ 100000; decide) fun l3 f3 Hc ec Tc hl3 ha3 => ?_
    refine q_asksCat Tc hl3 ha3 rfl (eq_cons (eq_cons eq_nil)) (by show 8 ≤ 100000; decide) fun l4 f4 Hd ed Td hl4 ha4 => ?_
    refine q_asgL (xs := ([4, 6, 3, 3, 3, 3, 6, 3] : List Nat).map fun c => V.str (wd c)) (el_lst (ea_cons ev_c (ea_cons ev_c (ea_cons ev_c (ea_cons ev_c (ea_cons ev_c (ea_cons ev_c (ea_cons ev_c (ea_cons ev_c ea_nil)))))))) (by show 8 ≤ 100000; decide)) fun lw He hlw ee hw => ?_
    have pl := words_pl (K := K) [4, 6, 3, 3, 3, 3, 6, 3] (by decide +kernel) (by decide +kernel)
    have st : ∀ {H : Hp} {v : V} {E : XK} {te : TE}, (∀ H1, Ex H H1 → Bad H1 v 0 3) → (∀ H1, Ex H H1 → Ev te [some .non] H1 v) → (∀ H1, Ex H H1 → E (.ref A.a_BadStorey) none H1) → EvR (tCall (spNX rTried (xTried A)) [] E (tCons (tC (.int 3)) (tCons (tC (.int 1)) (tCons te tNil)))) [some .non] H := fun {H v E te} hb he kE =>
      er_nx (ea_cons ev_c (ea_cons ev_c (ea_cons (he _ (Ex.refl _)) ea_nil))) (fun H2 e2 => ⟨_, _, _, rfl, .inr ⟨3, 1, rfl, rfl, by decide, by decide, .inl (by decide), .inr ⟨by rw [fw_1]; decide, hb H2 e2, rfl⟩⟩⟩) kE
    refine s_ret (ev_is (ev_opN1 (en_ofL (el_words (cs := [4, 6, 3, 3, 3, 3, 6, 3]) (v := .non) (ee _ _ hl4) (ha4.mono ee)
        ⟨does 4 (by decide) fun H1 e1 E kE => er_nx (ea_cons ev_c (ea_cons ev_c (ea_cons ev_c ea_nil))) (fun H2 e2 => ⟨_, _, _, rfl, .inl ⟨_, _, rfl, .inr ⟨3, rfl, by decide, .inr ⟨rfl, by decide, rfl⟩⟩⟩⟩) kE,
         does 6 (by decide) fun H1 e1 E kE => er_nx (ea_cons ev_c (ea_cons ev_c (ea_cons ev_c ea_nil))) (fun H2 e2 => ⟨_, _, _, rfl, .inr ⟨1001, 1, rfl, rfl, by decide, by decide, .inl (by decide), .inl ⟨by rw [fw_1]; decide, rfl⟩⟩⟩) kE,
         does 3 (by decide) fun H1 e1 E kE => st (v := .int 4) (fun _ _ => bad_int (by decide)) (fun _ _ => ev_c) kE,
         does 3 (by decide) fun H1 e1 E kE => st (v := .int (-1)) (fun _ _ => bad_int (by decide)) (fun _ _ => ev_un ev_c ru_neg) kE,
         does 3 (by decide) fun H1 e1 E kE => st (v := .bl true) (fun _ _ => .inl (odd_bl _)) (fun _ _ => ev_c) kE,
         does 3 (by decide) fun H1 e1 E kE => st (v := .non) (fun _ _ => .inl odd_non) (fun _ _ => ev_c) kE,
         does 6 (by decide) fun H1 e1 E kE => er_nx (ea_cons (ev_op ev_c ev_c (pw 60 (by decide))) (ea_cons ev_c (ea_cons ev_c ea_nil))) (fun H2 e2 => ⟨_, _, _, rfl, .inr ⟨10 ^ 60, 1, rfl, rfl, Nat.le_refl _, by decide, .inl (by decide), .inl ⟨by rw [fw_1]; decide, rfl⟩⟩⟩) kE,
         does 3 (by decide) fun H1 e1 E kE => er_nx (ea_cons ev_c (ea_cons ev_c (ea_cons ev_c ea_nil))) (fun H2 e2 => ⟨_, _, _, rfl, .inr ⟨0, 0, rfl, rfl, by decide, by decide, .inr rfl, .inr ⟨by rw [fw_zero]; decide, bad_int (by decide), rfl⟩⟩⟩) kE, trivial⟩ (by show 8 ≤ 40000; decide) (ev_var rfl) (fun _ => rfl) (fun _ => rfl) (fun _ _ => ev_c))) (ev_var rfl) (z := .bl true) fun v Hf ef hv => ?_) rfl) fun Hf ef => k Hf (Td.ext (ee.trans ef))
    obtain ⟨q, rfl, _, hq⟩ := hv
    have := rv_eqD (pl.1 _ _ hq) (pl.1 _ _ (ef _ _ hw)) pl.2.1 pl.2.1
    rw [pl.2.2] at this
    exact this
/-! ### the law -/
def spLaw (K : PySem.W.Frag) (A : Ad) : Sp := fun vs H Q _ => ∃ (a : Addr) (ns : List Int), vs = [.ref a] ∧ SqL K H a (ns.map V.int) ∧ ns.length ≤ 63 ∧ (∀ z ∈ ns, Builtin.Int.intBits z ≤ 1048576) ∧ H A.p_law_counts_right = some (.tbl #[]) ∧ H A.p_law_told_right = some (.tbl #[]) ∧ H A.p_law_plays_right = some (.tbl #[]) ∧ ∀ H', Q (.bl true) H'
theorem ok_law (T : Tx K mg A) (TB_law_counts_right : LamX.TabB base mg A.c_law_counts_right A.p_law_counts_right) (TB_law_told_right : LamX.TabB base mg A.c_law_told_right A.p_law_told_right) (TB_law_plays_right : LamX.TabB base mg A.c_law_plays_right A.p_law_plays_right) : FnOk P w K mg base CX0 8 A.a_law A.d_law ["_law_script"] (spLaw K A) := by
  refine T.f_law.ok sc_law (fun vs H Q E h => ?_) (fun cdv Ar outer s H vs Q E hr h => ?_)
  · obtain ⟨a, ns, rfl, _⟩ := h
    rfl
  · obtain ⟨a, ns, rfl, hS, hlen, hbits, t1, t2, t3, k⟩ := h
    refine ⟨_, (pss_cons (ps_set (i := 1) sc_law.nd rfl (.inl rfl) (pe_op op_add pe_int (pe_op op_mod (pe_callB call_abs (by rfl) T.z_abs (by decide +kernel) (pa_cons (pe_callB (cr_sum rfl) (by rfl) T.z_sum (by decide +kernel) (pa_cons (pe_slice sl_list (pv 0) po_none (po_some pe_int)) pa_nil)) pa_nil)) (pe_op op_pow pe_int pe_int))))
      (pss_one (ps_ret (pe_and (pe_call (ok_law_counts_right (P := P) (w := w) (base := base) T TB_law_counts_right) (hr.mono (by decide)) (by rfl) T.g_law_counts_right T.f_law_counts_right.kp T.b_law_counts_right .nil pass0 (pa_cons (pv 1) pa_nil)) (pe_and (pe_call (ok_law_told_right (P := P) (w := w) (base := base) T TB_law_told_right) (hr.mono (by decide)) (by rfl) T.g_law_told_right T.f_law_told_right.kp T.b_law_told_right .nil pass0 (pa_cons (pv 1) pa_nil)) (pe_one (pe_call (ok_law_plays_right (P := P) (w := w) (base := base) T TB_law_plays_right) (hr.mono (by decide)) (by rfl) T.g_law_plays_right T.f_law_plays_right.kp T.b_law_plays_right .nil pass0 (pa_cons (pv 1) pa_nil)))))))), ?_⟩
    generalize hN : (ns.take 2).sum.natAbs = N
    have hcut : cutV (ns.map V.int) none (some 2) = (ns.take 2).map V.int := by
      show cutV (ns.map V.int) none (some ((2 : Nat) : Int)) = _
      rw [cutTake, List.map_take]
    have h30 : (10 : Int) ^ (30 : Int).toNat = ((10 ^ 30 : Nat) : Int) := by decide +kernel
    refine q_asg (v := .int ((1 + N % 10 ^ 30 : Nat) : Int)) (ev_is (ev_op ev_c (ev_op (ev_cb (ea_cons (ev_sumL (el_is (el_sl (ev_var rfl) eo_none (eo_some ev_c) hS) hcut)) ea_nil) rc_abs) (ev_is (ev_op ev_c ev_c (rv_I (by show CPow _ _; exact ⟨by decide, by decide, by decide⟩))) (congrArg V.int h30)) (rv_I (by show (0 : Int) < _; decide))) rv_I0) (congrArg V.int ?_)) fun H1 e1 => ?_
    · rw [abs_nat, hN]
      omega
    have hTabs : LamX.Tabs (tsL A) H1 := fun q hq => by
      rcases tsL_of hq with rfl | rfl | rfl
      · exact LamX.TabS.nil (e1 _ _ t1)
      · exact LamX.TabS.nil (e1 _ _ t2)
      · exact LamX.TabS.nil (e1 _ _ t3)
    have hb1 : 1 ≤ 1 + N % 10 ^ 30 := Nat.le_add_right _ _
    have hb2 : 1 + N % 10 ^ 30 ≤ 10 ^ 30 := by
      have := Nat.mod_lt N (show 0 < 10 ^ 30 by decide)
      omega
    generalize 1 + N % 10 ^ 30 = n at hb1 hb2
    have call : ∀ {H : Hp} {E : XK} {Q : VK}, LamX.Tabs (tsL A) H → (∀ H2, LamX.Tabs (tsL A) H2 → Q (.bl true) H2) → tCall (spMk A) [] E (tCons (tVar 1) tNil) [some (.ref a), some (.int (n : Int))] H Q := fun {H E Q} hT q =>
      (ea_cons (ev_var rfl) ea_nil : EvA (tCons (tVar 1) tNil) _ H [.int (n : Int)]) H (Ex.refl H) _ fun H2 e2 => ⟨n, rfl, hb1, hb2, hT.ext e2, q⟩
    exact call hTabs fun H2 T2 => ⟨true, rfl, call T2 fun H3 T3 => ⟨true, rfl, call T3 fun H4 T4 => k H4⟩⟩
end
theorem all_mk {l : PySem.W.OpenLaw} {w : World} {K : PySem.W.Frag} {h : Heap} {mg : Str → Option Value} {fa : Addr} (X : K.In h) (G : h.Ns mainGlobals mg) (hfa : mg "law" = some (.ref fa))
    {C_Answer : Addr}
    {C_Done : Addr}
    {C_Next : Addr}
    {C_Short : Addr}
    {f0 : Addr} {od0 an0 : Option Addr} {sl0 : Array (Option Value)} {oc0 kV0 dc0 pm0 cd0 ct0 : Value}
    {f1 : Addr} {od1 an1 : Option Addr} {sl1 : Array (Option Value)} {oc1 kV1 dc1 pm1 cd1 ct1 : Value}
    {f2 : Addr} {od2 an2 : Option Addr} {sl2 : Array (Option Value)} {oc2 kV2 dc2 pm2 cd2 ct2 : Value}
    {f3 : Addr} {od3 an3 : Option Addr} {sl3 : Array (Option Value)} {oc3 kV3 dc3 pm3 cd3 ct3 : Value}
    {f4 : Addr} {od4 an4 : Option Addr} {sl4 : Array (Option Value)} {oc4 kV4 dc4 pm4 cd4 ct4 : Value}
    {f5 : Addr} {od5 an5 : Option Addr} {sl5 : Array (Option Value)} {oc5 kV5 dc5 pm5 cd5 ct5 : Value}
    {f6 : Addr} {od6 an6 : Option Addr} {sl6 : Array (Option Value)} {oc6 kV6 dc6 pm6 cd6 ct6 : Value}
    {f7 : Addr} {od7 an7 : Option Addr} {sl7 : Array (Option Value)} {oc7 kV7 dc7 pm7 cd7 ct7 : Value}
    {f8 : Addr} {od8 an8 : Option Addr} {sl8 : Array (Option Value)} {oc8 kV8 dc8 pm8 cd8 ct8 : Value}
    {f9 : Addr} {od9 an9 : Option Addr} {sl9 : Array (Option Value)} {oc9 kV9 dc9 pm9 cd9 ct9 : Value}
    {f10 : Addr} {od10 an10 : Option Addr} {sl10 : Array (Option Value)} {oc10 kV10 dc10 pm10 cd10 ct10 : Value}
    {f11 : Addr} {od11 an11 : Option Addr} {sl11 : Array (Option Value)} {oc11 kV11 dc11 pm11 cd11 ct11 : Value}
    {f12 : Addr} {od12 an12 : Option Addr} {sl12 : Array (Option Value)} {oc12 kV12 dc12 pm12 cd12 ct12 : Value}
    {f13 : Addr} {od13 an13 : Option Addr} {sl13 : Array (Option Value)} {oc13 kV13 dc13 pm13 cd13 ct13 : Value}
    {f14 : Addr} {od14 an14 : Option Addr} {sl14 : Array (Option Value)} {oc14 kV14 dc14 pm14 cd14 ct14 : Value}
    {f15 : Addr} {od15 an15 : Option Addr} {sl15 : Array (Option Value)} {oc15 kV15 dc15 pm15 cd15 ct15 : Value}
    {f16 : Addr} {od16 an16 : Option Addr} {sl16 : Array (Option Value)} {oc16 kV16 dc16 pm16 cd16 ct16 : Value}
    {f17 : Addr} {od17 an17 : Option Addr} {sl17 : Array (Option Value)} {oc17 kV17 dc17 pm17 cd17 ct17 : Value}
    {f18 : Addr} {od18 an18 : Option Addr} {sl18 : Array (Option Value)} {oc18 kV18 dc18 pm18 cd18 ct18 : Value}
    {f19 : Addr} {od19 an19 : Option Addr} {sl19 : Array (Option Value)} {oc19 kV19 dc19 pm19 cd19 ct19 : Value}
    {f20 : Addr} {od20 an20 : Option Addr} {sl20 : Array (Option Value)} {oc20 kV20 dc20 pm20 cd20 ct20 : Value}
    {f21 : Addr} {od21 an21 : Option Addr} {sl21 : Array (Option Value)} {oc21 kV21 dc21 pm21 ct21 : Value} {cd21 pt21 : Addr} {cdd21 : Option Addr} {cvs21 : Array Value} {csl21 : Array (Option Value)}
    {f22 : Addr} {od22 an22 : Option Addr} {sl22 : Array (Option Value)} {oc22 kV22 dc22 pm22 ct22 : Value} {cd22 pt22 : Addr} {cdd22 : Option Addr} {cvs22 : Array Value} {csl22 : Array (Option Value)}
    {f23 : Addr} {od23 an23 : Option Addr} {sl23 : Array (Option Value)} {oc23 kV23 dc23 pm23 cd23 ct23 : Value}
    {f24 : Addr} {od24 an24 : Option Addr} {sl24 : Array (Option Value)} {oc24 kV24 dc24 pm24 ct24 : Value} {cd24 pt24 : Addr} {cdd24 : Option Addr} {cvs24 : Array Value} {csl24 : Array (Option Value)}
    {f25 : Addr} {od25 an25 : Option Addr} {sl25 : Array (Option Value)} {oc25 kV25 dc25 pm25 cd25 ct25 : Value}
    {C_GlassError : Addr}
    {C_BadStoreys : Addr}
    {C_BadGlasses : Addr}
    {C_BadTries : Addr}
    {C_BadStorey : Addr}
    {C_NoGlass : Addr}
    {C_Found : Addr}
    {C_Long : Addr}
    {t_MOST_GLASSES : Tok}
    {t_MOST_PLAYED : Tok}
    {t_MOST_STOREYS : Tok}
    {t_MOST_TRIES : Tok}
    (g_Answer : PySem.W.nsIn K mainGlobals "Answer" = some (some (.ref C_Answer)))
    (g_Done : PySem.W.nsIn K mainGlobals "Done" = some (some (.ref C_Done)))
    (g_Next : PySem.W.nsIn K mainGlobals "Next" = some (some (.ref C_Next)))
    (g_Short : PySem.W.nsIn K mainGlobals "Short" = some (some (.ref C_Short)))
    (a0 : PySem.W.nsIn K mainGlobals "is_number" = some (some (.ref f0)))
    (l0 : K.lookup f0 = some ⟨oc0, od0, .func (PySem.W.fnOf "is_number" "is_number" (defArgs s_is_number) (defBody s_is_number) (defScope s_is_number) .none kV0 dc0 pm0 an0 cd0 ct0), sl0⟩) (c0 : PySem.W.codeIn K cd0 "is_number" = true) (k0 : PySem.W.keepIn K (.ref f0) = true)
    (a1 : PySem.W.nsIn K mainGlobals "check_storeys" = some (some (.ref f1)))
    (l1 : K.lookup f1 = some ⟨oc1, od1, .func (PySem.W.fnOf "check_storeys" "check_storeys" (defArgs s_check_storeys) (defBody s_check_storeys) (defScope s_check_storeys) .none kV1 dc1 pm1 an1 cd1 ct1), sl1⟩) (c1 : PySem.W.codeIn K cd1 "check_storeys" = true) (k1 : PySem.W.keepIn K (.ref f1) = true)
    (a2 : PySem.W.nsIn K mainGlobals "check_glasses" = some (some (.ref f2)))
    (l2 : K.lookup f2 = some ⟨oc2, od2, .func (PySem.W.fnOf "check_glasses" "check_glasses" (defArgs s_check_glasses) (defBody s_check_glasses) (defScope s_check_glasses) .none kV2 dc2 pm2 an2 cd2 ct2), sl2⟩) (c2 : PySem.W.codeIn K cd2 "check_glasses" = true) (k2 : PySem.W.keepIn K (.ref f2) = true)
    (a3 : PySem.W.nsIn K mainGlobals "check_tries" = some (some (.ref f3)))
    (l3 : K.lookup f3 = some ⟨oc3, od3, .func (PySem.W.fnOf "check_tries" "check_tries" (defArgs s_check_tries) (defBody s_check_tries) (defScope s_check_tries) .none kV3 dc3 pm3 an3 cd3 ct3), sl3⟩) (c3 : PySem.W.codeIn K cd3 "check_tries" = true) (k3 : PySem.W.keepIn K (.ref f3) = true)
    (a4 : PySem.W.nsIn K mainGlobals "reached" = some (some (.ref f4)))
    (l4 : K.lookup f4 = some ⟨oc4, od4, .func (PySem.W.fnOf "reached" "reached" (defArgs s_reached) (defBody s_reached) (defScope s_reached) .none kV4 dc4 pm4 an4 cd4 ct4), sl4⟩) (c4 : PySem.W.codeIn K cd4 "reached" = true) (k4 : PySem.W.keepIn K (.ref f4) = true)
    (a5 : PySem.W.nsIn K mainGlobals "are_enough" = some (some (.ref f5)))
    (l5 : K.lookup f5 = some ⟨oc5, od5, .func (PySem.W.fnOf "are_enough" "are_enough" (defArgs s_are_enough) (defBody s_are_enough) (defScope s_are_enough) .none kV5 dc5 pm5 an5 cd5 ct5), sl5⟩) (c5 : PySem.W.codeIn K cd5 "are_enough" = true) (k5 : PySem.W.keepIn K (.ref f5) = true)
    (a6 : PySem.W.nsIn K mainGlobals "least_tries" = some (some (.ref f6)))
    (l6 : K.lookup f6 = some ⟨oc6, od6, .func (PySem.W.fnOf "least_tries" "least_tries" (defArgs s_least_tries) (defBody s_least_tries) (defScope s_least_tries) .none kV6 dc6 pm6 an6 cd6 ct6), sl6⟩) (c6 : PySem.W.codeIn K cd6 "least_tries" = true) (k6 : PySem.W.keepIn K (.ref f6) = true)
    (a7 : PySem.W.nsIn K mainGlobals "check_found" = some (some (.ref f7)))
    (l7 : K.lookup f7 = some ⟨oc7, od7, .func (PySem.W.fnOf "check_found" "check_found" (defArgs s_check_found) (defBody s_check_found) (defScope s_check_found) .none kV7 dc7 pm7 an7 cd7 ct7), sl7⟩) (c7 : PySem.W.codeIn K cd7 "check_found" = true) (k7 : PySem.W.keepIn K (.ref f7) = true)
    (a8 : PySem.W.nsIn K mainGlobals "reach" = some (some (.ref f8)))
    (l8 : K.lookup f8 = some ⟨oc8, od8, .func (PySem.W.fnOf "reach" "reach" (defArgs s_reach) (defBody s_reach) (defScope s_reach) .none kV8 dc8 pm8 an8 cd8 ct8), sl8⟩) (c8 : PySem.W.codeIn K cd8 "reach" = true) (k8 : PySem.W.keepIn K (.ref f8) = true)
    (a9 : PySem.W.nsIn K mainGlobals "fewest" = some (some (.ref f9)))
    (l9 : K.lookup f9 = some ⟨oc9, od9, .func (PySem.W.fnOf "fewest" "fewest" (defArgs s_fewest) (defBody s_fewest) (defScope s_fewest) .none kV9 dc9 pm9 an9 cd9 ct9), sl9⟩) (c9 : PySem.W.codeIn K cd9 "fewest" = true) (k9 : PySem.W.keepIn K (.ref f9) = true)
    (a10 : PySem.W.nsIn K mainGlobals "glasses_for" = some (some (.ref f10)))
    (l10 : K.lookup f10 = some ⟨oc10, od10, .func (PySem.W.fnOf "glasses_for" "glasses_for" (defArgs s_glasses_for) (defBody s_glasses_for) (defScope s_glasses_for) .none kV10 dc10 pm10 an10 cd10 ct10), sl10⟩) (c10 : PySem.W.codeIn K cd10 "glasses_for" = true) (k10 : PySem.W.keepIn K (.ref f10) = true)
    (a11 : PySem.W.findIn K (.ref C_Done) "shows" = some (some (.ref f11))) (i11 : PySem.W.isFn K (.ref f11) = true)
    (l11 : K.lookup f11 = some ⟨oc11, od11, .func (PySem.W.fnOf "shows" "Done.shows" (defArgs s_Done_shows) (defBody s_Done_shows) (defScope s_Done_shows) .none kV11 dc11 pm11 an11 cd11 ct11), sl11⟩) (c11 : PySem.W.codeIn K cd11 "Done.shows" = true) (k11 : PySem.W.keepIn K (.ref f11) = true)
    (a12 : PySem.W.findIn K (.ref C_Next) "__init__" = some (some (.ref f12))) (i12 : PySem.W.isFn K (.ref f12) = true)
    (l12 : K.lookup f12 = some ⟨oc12, od12, .func (PySem.W.fnOf "__init__" "Next.__init__" (defArgs s_Next__init) (defBody s_Next__init) (defScope s_Next__init) .none kV12 dc12 pm12 an12 cd12 ct12), sl12⟩) (c12 : PySem.W.codeIn K cd12 "Next.__init__" = true) (k12 : PySem.W.keepIn K (.ref f12) = true)
    (a13 : PySem.W.findIn K (.ref C_Next) "shows" = some (some (.ref f13))) (i13 : PySem.W.isFn K (.ref f13) = true)
    (l13 : K.lookup f13 = some ⟨oc13, od13, .func (PySem.W.fnOf "shows" "Next.shows" (defArgs s_Next_shows) (defBody s_Next_shows) (defScope s_Next_shows) .none kV13 dc13 pm13 an13 cd13 ct13), sl13⟩) (c13 : PySem.W.codeIn K cd13 "Next.shows" = true) (k13 : PySem.W.keepIn K (.ref f13) = true)
    (a14 : PySem.W.findIn K (.ref C_Short) "__init__" = some (some (.ref f14))) (i14 : PySem.W.isFn K (.ref f14) = true)
    (l14 : K.lookup f14 = some ⟨oc14, od14, .func (PySem.W.fnOf "__init__" "Short.__init__" (defArgs s_Short__init) (defBody s_Short__init) (defScope s_Short__init) .none kV14 dc14 pm14 an14 cd14 ct14), sl14⟩) (c14 : PySem.W.codeIn K cd14 "Short.__init__" = true) (k14 : PySem.W.keepIn K (.ref f14) = true)
    (a15 : PySem.W.findIn K (.ref C_Short) "shows" = some (some (.ref f15))) (i15 : PySem.W.isFn K (.ref f15) = true)
    (l15 : K.lookup f15 = some ⟨oc15, od15, .func (PySem.W.fnOf "shows" "Short.shows" (defArgs s_Short_shows) (defBody s_Short_shows) (defScope s_Short_shows) .none kV15 dc15 pm15 an15 cd15 ct15), sl15⟩) (c15 : PySem.W.codeIn K cd15 "Short.shows" = true) (k15 : PySem.W.keepIn K (.ref f15) = true)
    (a16 : PySem.W.nsIn K mainGlobals "next_of" = some (some (.ref f16)))
    (l16 : K.lookup f16 = some ⟨oc16, od16, .func (PySem.W.fnOf "next_of" "next_of" (defArgs s_next_of) (defBody s_next_of) (defScope s_next_of) .none kV16 dc16 pm16 an16 cd16 ct16), sl16⟩) (c16 : PySem.W.codeIn K cd16 "next_of" = true) (k16 : PySem.W.keepIn K (.ref f16) = true)
    (a17 : PySem.W.nsIn K mainGlobals "told" = some (some (.ref f17)))
    (l17 : K.lookup f17 = some ⟨oc17, od17, .func (PySem.W.fnOf "told" "told" (defArgs s_told) (defBody s_told) (defScope s_told) .none kV17 dc17 pm17 an17 cd17 ct17), sl17⟩) (c17 : PySem.W.codeIn K cd17 "told" = true) (k17 : PySem.W.keepIn K (.ref f17) = true)
    (a18 : PySem.W.nsIn K mainGlobals "answer" = some (some (.ref f18)))
    (l18 : K.lookup f18 = some ⟨oc18, od18, .func (PySem.W.fnOf "answer" "answer" (defArgs s_answer) (defBody s_answer) (defScope s_answer) .none kV18 dc18 pm18 an18 cd18 ct18), sl18⟩) (c18 : PySem.W.codeIn K cd18 "answer" = true) (k18 : PySem.W.keepIn K (.ref f18) = true)
    (a19 : PySem.W.nsIn K mainGlobals "tried" = some (some (.ref f19)))
    (l19 : K.lookup f19 = some ⟨oc19, od19, .func (PySem.W.fnOf "tried" "tried" (defArgs s_tried) (defBody s_tried) (defScope s_tried) .none kV19 dc19 pm19 an19 cd19 ct19), sl19⟩) (c19 : PySem.W.codeIn K cd19 "tried" = true) (k19 : PySem.W.keepIn K (.ref f19) = true)
    (a20 : PySem.W.nsIn K mainGlobals "_law_word" = some (some (.ref f20)))
    (l20 : K.lookup f20 = some ⟨oc20, od20, .func (PySem.W.fnOf "_law_word" "_law_word" (defArgs s_law_word) (defBody s_law_word) (defScope s_law_word) .none kV20 dc20 pm20 an20 cd20 ct20), sl20⟩) (c20 : PySem.W.codeIn K cd20 "_law_word" = true) (k20 : PySem.W.keepIn K (.ref f20) = true)
    (a21 : PySem.W.nsIn K mainGlobals "_law_counts_right" = some (some (.ref f21)))
    (l21 : K.lookup f21 = some ⟨oc21, od21, .func (PySem.W.fnOf "_law_counts_right" "_law_counts_right" (defArgs s_law_counts_right) (defBody s_law_counts_right) (defScope s_law_counts_right) .none kV21 dc21 pm21 an21 (.ref cd21) ct21), sl21⟩) (c21 : PySem.W.codeIn K (.ref cd21) "_law_counts_right" = true) (k21 : PySem.W.keepIn K (.ref f21) = true)
    (lc21 : K.lookup cd21 = some ⟨.type "code", cdd21, .fields cvs21, csl21⟩) (pc21 : cvs21[11]? = some (.ref pt21)) (hc21 : PySem.W.codeHdIn K cd21 pt21 = true) (nt21 : K.lookup pt21 = none) (tb21 : h.get? pt21 = some (PySem.W.tabObj #[]))
    (a22 : PySem.W.nsIn K mainGlobals "_law_told_right" = some (some (.ref f22)))
    (l22 : K.lookup f22 = some ⟨oc22, od22, .func (PySem.W.fnOf "_law_told_right" "_law_told_right" (defArgs s_law_told_right) (defBody s_law_told_right) (defScope s_law_told_right) .none kV22 dc22 pm22 an22 (.ref cd22) ct22), sl22⟩) (c22 : PySem.W.codeIn K (.ref cd22) "_law_told_right" = true) (k22 : PySem.W.keepIn K (.ref f22) = true)
    (lc22 : K.lookup cd22 = some ⟨.type "code", cdd22, .fields cvs22, csl22⟩) (pc22 : cvs22[11]? = some (.ref pt22)) (hc22 : PySem.W.codeHdIn K cd22 pt22 = true) (nt22 : K.lookup pt22 = none) (tb22 : h.get? pt22 = some (PySem.W.tabObj #[]))
    (a23 : PySem.W.nsIn K mainGlobals "_law_play_right" = some (some (.ref f23)))
    (l23 : K.lookup f23 = some ⟨oc23, od23, .func (PySem.W.fnOf "_law_play_right" "_law_play_right" (defArgs s_law_play_right) (defBody s_law_play_right) (defScope s_law_play_right) .none kV23 dc23 pm23 an23 cd23 ct23), sl23⟩) (c23 : PySem.W.codeIn K cd23 "_law_play_right" = true) (k23 : PySem.W.keepIn K (.ref f23) = true)
    (a24 : PySem.W.nsIn K mainGlobals "_law_plays_right" = some (some (.ref f24)))
    (l24 : K.lookup f24 = some ⟨oc24, od24, .func (PySem.W.fnOf "_law_plays_right" "_law_plays_right" (defArgs s_law_plays_right) (defBody s_law_plays_right) (defScope s_law_plays_right) .none kV24 dc24 pm24 an24 (.ref cd24) ct24), sl24⟩) (c24 : PySem.W.codeIn K (.ref cd24) "_law_plays_right" = true) (k24 : PySem.W.keepIn K (.ref f24) = true)
    (lc24 : K.lookup cd24 = some ⟨.type "code", cdd24, .fields cvs24, csl24⟩) (pc24 : cvs24[11]? = some (.ref pt24)) (hc24 : PySem.W.codeHdIn K cd24 pt24 = true) (nt24 : K.lookup pt24 = none) (tb24 : h.get? pt24 = some (PySem.W.tabObj #[]))
    (a25 : PySem.W.nsIn K mainGlobals "law" = some (some (.ref f25)))
    (l25 : K.lookup f25 = some ⟨oc25, od25, .func (PySem.W.fnOf "law" "law" (defArgs s_law) (defBody s_law) (defScope s_law) .none kV25 dc25 pm25 an25 cd25 ct25), sl25⟩) (c25 : PySem.W.codeIn K cd25 "law" = true) (k25 : PySem.W.keepIn K (.ref f25) = true)
    (pg_Done : PySem.W.plainGet K C_Done Str.empty = true) (hd_Done : PySem.W.hasDictIn K C_Done = true) (po_Done : PySem.W.plainOver K C_Done = true) (sa_Done : PySem.W.findIn K (.ref C_Done) "__setattr__" = some (some (.builtin "object.__setattr__"))) (mk_Done : PySem.W.makesIn K C_Done = true) (kc_Done : PySem.W.keepIn K (.ref C_Done) = true)
    (ca_Done : PySem.W.findIn K (.ref C_Done) "__class__" = some (some (.builtin "object.__class__"))) (cn_Done : PySem.W.specialIn K (.builtin "object.__class__") "__get__" = some (some (.builtin "getset_descriptor.__get__"))) (ct_Done : PySem.W.takesIn K (.builtin "object.__class__") = some true) (cm_Done : PySem.W.mroIn K C_Done (.type "object") = some true)
    (in_Done : PySem.W.findIn K (.ref C_Done) "__init__" = some (some (.builtin "object.__init__")))
    (i_Done_Answer : PySem.W.kitOne K (.ref C_Done) (.ref C_Answer) = some true)
    (i_Done_Done : PySem.W.kitOne K (.ref C_Done) (.ref C_Done) = some true)
    (i_Done_Next : PySem.W.kitOne K (.ref C_Done) (.ref C_Next) = some false)
    (i_Done_Short : PySem.W.kitOne K (.ref C_Done) (.ref C_Short) = some false)
    (pg_Next : PySem.W.plainGet K C_Next Str.empty = true) (hd_Next : PySem.W.hasDictIn K C_Next = true) (po_Next : PySem.W.plainOver K C_Next = true) (sa_Next : PySem.W.findIn K (.ref C_Next) "__setattr__" = some (some (.builtin "object.__setattr__"))) (mk_Next : PySem.W.makesIn K C_Next = true) (kc_Next : PySem.W.keepIn K (.ref C_Next) = true)
    (ca_Next : PySem.W.findIn K (.ref C_Next) "__class__" = some (some (.builtin "object.__class__"))) (cn_Next : PySem.W.specialIn K (.builtin "object.__class__") "__get__" = some (some (.builtin "getset_descriptor.__get__"))) (ct_Next : PySem.W.takesIn K (.builtin "object.__class__") = some true) (cm_Next : PySem.W.mroIn K C_Next (.type "object") = some true)
    (n_Next_storey : PySem.W.findIn K (.ref C_Next) "storey" = some none)
    (i_Next_Answer : PySem.W.kitOne K (.ref C_Next) (.ref C_Answer) = some true)
    (i_Next_Done : PySem.W.kitOne K (.ref C_Next) (.ref C_Done) = some false)
    (i_Next_Next : PySem.W.kitOne K (.ref C_Next) (.ref C_Next) = some true)
    (i_Next_Short : PySem.W.kitOne K (.ref C_Next) (.ref C_Short) = some false)
    (pg_Short : PySem.W.plainGet K C_Short Str.empty = true) (hd_Short : PySem.W.hasDictIn K C_Short = true) (po_Short : PySem.W.plainOver K C_Short = true) (sa_Short : PySem.W.findIn K (.ref C_Short) "__setattr__" = some (some (.builtin "object.__setattr__"))) (mk_Short : PySem.W.makesIn K C_Short = true) (kc_Short : PySem.W.keepIn K (.ref C_Short) = true)
    (ca_Short : PySem.W.findIn K (.ref C_Short) "__class__" = some (some (.builtin "object.__class__"))) (cn_Short : PySem.W.specialIn K (.builtin "object.__class__") "__get__" = some (some (.builtin "getset_descriptor.__get__"))) (ct_Short : PySem.W.takesIn K (.builtin "object.__class__") = some true) (cm_Short : PySem.W.mroIn K C_Short (.type "object") = some true)
    (n_Short_most : PySem.W.findIn K (.ref C_Short) "most" = some none)
    (i_Short_Answer : PySem.W.kitOne K (.ref C_Short) (.ref C_Answer) = some true)
    (i_Short_Done : PySem.W.kitOne K (.ref C_Short) (.ref C_Done) = some false)
    (i_Short_Next : PySem.W.kitOne K (.ref C_Short) (.ref C_Next) = some false)
    (i_Short_Short : PySem.W.kitOne K (.ref C_Short) (.ref C_Short) = some true)
    (g_GlassError : PySem.W.nsIn K mainGlobals "GlassError" = some (some (.ref C_GlassError)))
    (g_BadStoreys : PySem.W.nsIn K mainGlobals "BadStoreys" = some (some (.ref C_BadStoreys)))
    (g_BadGlasses : PySem.W.nsIn K mainGlobals "BadGlasses" = some (some (.ref C_BadGlasses)))
    (g_BadTries : PySem.W.nsIn K mainGlobals "BadTries" = some (some (.ref C_BadTries)))
    (g_BadStorey : PySem.W.nsIn K mainGlobals "BadStorey" = some (some (.ref C_BadStorey)))
    (g_NoGlass : PySem.W.nsIn K mainGlobals "NoGlass" = some (some (.ref C_NoGlass)))
    (g_Found : PySem.W.nsIn K mainGlobals "Found" = some (some (.ref C_Found)))
    (g_Long : PySem.W.nsIn K mainGlobals "Long" = some (some (.ref C_Long)))
    (b_GlassError : PySem.W.subIn K (.ref C_GlassError) (.type "BaseException") = some true) (y_GlassError : PySem.W.typeIn K (.ref C_GlassError) = some (.type "type")) (hd_GlassError : PySem.W.hasDictIn K C_GlassError = true)
    (b_BadStoreys : PySem.W.subIn K (.ref C_BadStoreys) (.type "BaseException") = some true) (y_BadStoreys : PySem.W.typeIn K (.ref C_BadStoreys) = some (.type "type")) (hd_BadStoreys : PySem.W.hasDictIn K C_BadStoreys = true)
    (x_BadStoreys : PySem.W.excIn K C_BadStoreys [.type "ValueError", .type "Exception", .type "BaseException", .type "object"] "ValueError.__new__" = true) (k_BadStoreys : PySem.W.keepIn K (.ref C_BadStoreys) = true)
    (s_BadStoreys : PySem.W.subIn K (.ref C_BadStoreys) (.ref C_GlassError) = some true)
    (ga_BadStoreys : PySem.W.findIn K (.ref C_BadStoreys) "__getattribute__" = some (some (.builtin "BaseException.__getattribute__"))) (gt_BadStoreys : PySem.W.findIn K (.ref C_BadStoreys) "__getattr__" = some none)
    (ca_BadStoreys : PySem.W.findIn K (.ref C_BadStoreys) "__class__" = some (some (.builtin "object.__class__"))) (cn_BadStoreys : PySem.W.specialIn K (.builtin "object.__class__") "__get__" = some (some (.builtin "getset_descriptor.__get__"))) (ct_BadStoreys : PySem.W.takesIn K (.builtin "object.__class__") = some true) (cm_BadStoreys : PySem.W.mroIn K C_BadStoreys (.type "object") = some true)
    (i_BadStoreys_BadStoreys : PySem.W.kitOne K (.ref C_BadStoreys) (.ref C_BadStoreys) = some true)
    (i_BadStoreys_BadGlasses : PySem.W.kitOne K (.ref C_BadStoreys) (.ref C_BadGlasses) = some false)
    (i_BadStoreys_BadTries : PySem.W.kitOne K (.ref C_BadStoreys) (.ref C_BadTries) = some false)
    (i_BadStoreys_BadStorey : PySem.W.kitOne K (.ref C_BadStoreys) (.ref C_BadStorey) = some false)
    (i_BadStoreys_NoGlass : PySem.W.kitOne K (.ref C_BadStoreys) (.ref C_NoGlass) = some false)
    (i_BadStoreys_Found : PySem.W.kitOne K (.ref C_BadStoreys) (.ref C_Found) = some false)
    (i_BadStoreys_Long : PySem.W.kitOne K (.ref C_BadStoreys) (.ref C_Long) = some false)
    (b_BadGlasses : PySem.W.subIn K (.ref C_BadGlasses) (.type "BaseException") = some true) (y_BadGlasses : PySem.W.typeIn K (.ref C_BadGlasses) = some (.type "type")) (hd_BadGlasses : PySem.W.hasDictIn K C_BadGlasses = true)
    (x_BadGlasses : PySem.W.excIn K C_BadGlasses [.type "ValueError", .type "Exception", .type "BaseException", .type "object"] "ValueError.__new__" = true) (k_BadGlasses : PySem.W.keepIn K (.ref C_BadGlasses) = true)
    (s_BadGlasses : PySem.W.subIn K (.ref C_BadGlasses) (.ref C_GlassError) = some true)
    (ga_BadGlasses : PySem.W.findIn K (.ref C_BadGlasses) "__getattribute__" = some (some (.builtin "BaseException.__getattribute__"))) (gt_BadGlasses : PySem.W.findIn K (.ref C_BadGlasses) "__getattr__" = some none)
    (ca_BadGlasses : PySem.W.findIn K (.ref C_BadGlasses) "__class__" = some (some (.builtin "object.__class__"))) (cn_BadGlasses : PySem.W.specialIn K (.builtin "object.__class__") "__get__" = some (some (.builtin "getset_descriptor.__get__"))) (ct_BadGlasses : PySem.W.takesIn K (.builtin "object.__class__") = some true) (cm_BadGlasses : PySem.W.mroIn K C_BadGlasses (.type "object") = some true)
    (i_BadGlasses_BadStoreys : PySem.W.kitOne K (.ref C_BadGlasses) (.ref C_BadStoreys) = some false)
    (i_BadGlasses_BadGlasses : PySem.W.kitOne K (.ref C_BadGlasses) (.ref C_BadGlasses) = some true)
    (i_BadGlasses_BadTries : PySem.W.kitOne K (.ref C_BadGlasses) (.ref C_BadTries) = some false)
    (i_BadGlasses_BadStorey : PySem.W.kitOne K (.ref C_BadGlasses) (.ref C_BadStorey) = some false)
    (i_BadGlasses_NoGlass : PySem.W.kitOne K (.ref C_BadGlasses) (.ref C_NoGlass) = some false)
    (i_BadGlasses_Found : PySem.W.kitOne K (.ref C_BadGlasses) (.ref C_Found) = some false)
    (i_BadGlasses_Long : PySem.W.kitOne K (.ref C_BadGlasses) (.ref C_Long) = some false)
    (b_BadTries : PySem.W.subIn K (.ref C_BadTries) (.type "BaseException") = some true) (y_BadTries : PySem.W.typeIn K (.ref C_BadTries) = some (.type "type")) (hd_BadTries : PySem.W.hasDictIn K C_BadTries = true)
    (x_BadTries : PySem.W.excIn K C_BadTries [.type "ValueError", .type "Exception", .type "BaseException", .type "object"] "ValueError.__new__" = true) (k_BadTries : PySem.W.keepIn K (.ref C_BadTries) = true)
    (s_BadTries : PySem.W.subIn K (.ref C_BadTries) (.ref C_GlassError) = some true)
    (ga_BadTries : PySem.W.findIn K (.ref C_BadTries) "__getattribute__" = some (some (.builtin "BaseException.__getattribute__"))) (gt_BadTries : PySem.W.findIn K (.ref C_BadTries) "__getattr__" = some none)
    (ca_BadTries : PySem.W.findIn K (.ref C_BadTries) "__class__" = some (some (.builtin "object.__class__"))) (cn_BadTries : PySem.W.specialIn K (.builtin "object.__class__") "__get__" = some (some (.builtin "getset_descriptor.__get__"))) (ct_BadTries : PySem.W.takesIn K (.builtin "object.__class__") = some true) (cm_BadTries : PySem.W.mroIn K C_BadTries (.type "object") = some true)
    (i_BadTries_BadStoreys : PySem.W.kitOne K (.ref C_BadTries) (.ref C_BadStoreys) = some false)
    (i_BadTries_BadGlasses : PySem.W.kitOne K (.ref C_BadTries) (.ref C_BadGlasses) = some false)
    (i_BadTries_BadTries : PySem.W.kitOne K (.ref C_BadTries) (.ref C_BadTries) = some true)
    (i_BadTries_BadStorey : PySem.W.kitOne K (.ref C_BadTries) (.ref C_BadStorey) = some false)
    (i_BadTries_NoGlass : PySem.W.kitOne K (.ref C_BadTries) (.ref C_NoGlass) = some false)
    (i_BadTries_Found : PySem.W.kitOne K (.ref C_BadTries) (.ref C_Found) = some false)
    (i_BadTries_Long : PySem.W.kitOne K (.ref C_BadTries) (.ref C_Long) = some false)
    (b_BadStorey : PySem.W.subIn K (.ref C_BadStorey) (.type "BaseException") = some true) (y_BadStorey : PySem.W.typeIn K (.ref C_BadStorey) = some (.type "type")) (hd_BadStorey : PySem.W.hasDictIn K C_BadStorey = true)
    (x_BadStorey : PySem.W.excIn K C_BadStorey [.type "ValueError", .type "Exception", .type "BaseException", .type "object"] "ValueError.__new__" = true) (k_BadStorey : PySem.W.keepIn K (.ref C_BadStorey) = true)
    (s_BadStorey : PySem.W.subIn K (.ref C_BadStorey) (.ref C_GlassError) = some true)
    (ga_BadStorey : PySem.W.findIn K (.ref C_BadStorey) "__getattribute__" = some (some (.builtin "BaseException.__getattribute__"))) (gt_BadStorey : PySem.W.findIn K (.ref C_BadStorey) "__getattr__" = some none)
    (ca_BadStorey : PySem.W.findIn K (.ref C_BadStorey) "__class__" = some (some (.builtin "object.__class__"))) (cn_BadStorey : PySem.W.specialIn K (.builtin "object.__class__") "__get__" = some (some (.builtin "getset_descriptor.__get__"))) (ct_BadStorey : PySem.W.takesIn K (.builtin "object.__class__") = some true) (cm_BadStorey : PySem.W.mroIn K C_BadStorey (.type "object") = some true)
    (i_BadStorey_BadStoreys : PySem.W.kitOne K (.ref C_BadStorey) (.ref C_BadStoreys) = some false)
    (i_BadStorey_BadGlasses : PySem.W.kitOne K (.ref C_BadStorey) (.ref C_BadGlasses) = some false)
    (i_BadStorey_BadTries : PySem.W.kitOne K (.ref C_BadStorey) (.ref C_BadTries) = some false)
    (i_BadStorey_BadStorey : PySem.W.kitOne K (.ref C_BadStorey) (.ref C_BadStorey) = some true)
    (i_BadStorey_NoGlass : PySem.W.kitOne K (.ref C_BadStorey) (.ref C_NoGlass) = some false)
    (i_BadStorey_Found : PySem.W.kitOne K (.ref C_BadStorey) (.ref C_Found) = some false)
    (i_BadStorey_Long : PySem.W.kitOne K (.ref C_BadStorey) (.ref C_Long) = some false)
    (b_NoGlass : PySem.W.subIn K (.ref C_NoGlass) (.type "BaseException") = some true) (y_NoGlass : PySem.W.typeIn K (.ref C_NoGlass) = some (.type "type")) (hd_NoGlass : PySem.W.hasDictIn K C_NoGlass = true)
    (x_NoGlass : PySem.W.excIn K C_NoGlass [.type "ValueError", .type "Exception", .type "BaseException", .type "object"] "ValueError.__new__" = true) (k_NoGlass : PySem.W.keepIn K (.ref C_NoGlass) = true)
    (s_NoGlass : PySem.W.subIn K (.ref C_NoGlass) (.ref C_GlassError) = some true)
    (ga_NoGlass : PySem.W.findIn K (.ref C_NoGlass) "__getattribute__" = some (some (.builtin "BaseException.__getattribute__"))) (gt_NoGlass : PySem.W.findIn K (.ref C_NoGlass) "__getattr__" = some none)
    (ca_NoGlass : PySem.W.findIn K (.ref C_NoGlass) "__class__" = some (some (.builtin "object.__class__"))) (cn_NoGlass : PySem.W.specialIn K (.builtin "object.__class__") "__get__" = some (some (.builtin "getset_descriptor.__get__"))) (ct_NoGlass : PySem.W.takesIn K (.builtin "object.__class__") = some true) (cm_NoGlass : PySem.W.mroIn K C_NoGlass (.type "object") = some true)
    (i_NoGlass_BadStoreys : PySem.W.kitOne K (.ref C_NoGlass) (.ref C_BadStoreys) = some false)
    (i_NoGlass_BadGlasses : PySem.W.kitOne K (.ref C_NoGlass) (.ref C_BadGlasses) = some false)
    (i_NoGlass_BadTries : PySem.W.kitOne K (.ref C_NoGlass) (.ref C_BadTries) = some false)
    (i_NoGlass_BadStorey : PySem.W.kitOne K (.ref C_NoGlass) (.ref C_BadStorey) = some false)
    (i_NoGlass_NoGlass : PySem.W.kitOne K (.ref C_NoGlass) (.ref C_NoGlass) = some true)
    (i_NoGlass_Found : PySem.W.kitOne K (.ref C_NoGlass) (.ref C_Found) = some false)
    (i_NoGlass_Long : PySem.W.kitOne K (.ref C_NoGlass) (.ref C_Long) = some false)
    (b_Found : PySem.W.subIn K (.ref C_Found) (.type "BaseException") = some true) (y_Found : PySem.W.typeIn K (.ref C_Found) = some (.type "type")) (hd_Found : PySem.W.hasDictIn K C_Found = true)
    (x_Found : PySem.W.excIn K C_Found [.type "ValueError", .type "Exception", .type "BaseException", .type "object"] "ValueError.__new__" = true) (k_Found : PySem.W.keepIn K (.ref C_Found) = true)
    (s_Found : PySem.W.subIn K (.ref C_Found) (.ref C_GlassError) = some true)
    (ga_Found : PySem.W.findIn K (.ref C_Found) "__getattribute__" = some (some (.builtin "BaseException.__getattribute__"))) (gt_Found : PySem.W.findIn K (.ref C_Found) "__getattr__" = some none)
    (ca_Found : PySem.W.findIn K (.ref C_Found) "__class__" = some (some (.builtin "object.__class__"))) (cn_Found : PySem.W.specialIn K (.builtin "object.__class__") "__get__" = some (some (.builtin "getset_descriptor.__get__"))) (ct_Found : PySem.W.takesIn K (.builtin "object.__class__") = some true) (cm_Found : PySem.W.mroIn K C_Found (.type "object") = some true)
    (i_Found_BadStoreys : PySem.W.kitOne K (.ref C_Found) (.ref C_BadStoreys) = some false)
    (i_Found_BadGlasses : PySem.W.kitOne K (.ref C_Found) (.ref C_BadGlasses) = some false)
    (i_Found_BadTries : PySem.W.kitOne K (.ref C_Found) (.ref C_BadTries) = some false)
    (i_Found_BadStorey : PySem.W.kitOne K (.ref C_Found) (.ref C_BadStorey) = some false)
    (i_Found_NoGlass : PySem.W.kitOne K (.ref C_Found) (.ref C_NoGlass) = some false)
    (i_Found_Found : PySem.W.kitOne K (.ref C_Found) (.ref C_Found) = some true)
    (i_Found_Long : PySem.W.kitOne K (.ref C_Found) (.ref C_Long) = some false)
    (b_Long : PySem.W.subIn K (.ref C_Long) (.type "BaseException") = some true) (y_Long : PySem.W.typeIn K (.ref C_Long) = some (.type "type")) (hd_Long : PySem.W.hasDictIn K C_Long = true)
    (x_Long : PySem.W.excIn K C_Long [.type "ValueError", .type "Exception", .type "BaseException", .type "object"] "ValueError.__new__" = true) (k_Long : PySem.W.keepIn K (.ref C_Long) = true)
    (s_Long : PySem.W.subIn K (.ref C_Long) (.ref C_GlassError) = some true)
    (ga_Long : PySem.W.findIn K (.ref C_Long) "__getattribute__" = some (some (.builtin "BaseException.__getattribute__"))) (gt_Long : PySem.W.findIn K (.ref C_Long) "__getattr__" = some none)
    (ca_Long : PySem.W.findIn K (.ref C_Long) "__class__" = some (some (.builtin "object.__class__"))) (cn_Long : PySem.W.specialIn K (.builtin "object.__class__") "__get__" = some (some (.builtin "getset_descriptor.__get__"))) (ct_Long : PySem.W.takesIn K (.builtin "object.__class__") = some true) (cm_Long : PySem.W.mroIn K C_Long (.type "object") = some true)
    (i_Long_BadStoreys : PySem.W.kitOne K (.ref C_Long) (.ref C_BadStoreys) = some false)
    (i_Long_BadGlasses : PySem.W.kitOne K (.ref C_Long) (.ref C_BadGlasses) = some false)
    (i_Long_BadTries : PySem.W.kitOne K (.ref C_Long) (.ref C_BadTries) = some false)
    (i_Long_BadStorey : PySem.W.kitOne K (.ref C_Long) (.ref C_BadStorey) = some false)
    (i_Long_NoGlass : PySem.W.kitOne K (.ref C_Long) (.ref C_NoGlass) = some false)
    (i_Long_Found : PySem.W.kitOne K (.ref C_Long) (.ref C_Found) = some false)
    (i_Long_Long : PySem.W.kitOne K (.ref C_Long) (.ref C_Long) = some true)
    (ne_law_counts_right_law_told_right : pt21 ≠ pt22)
    (ne_law_counts_right_law_plays_right : pt21 ≠ pt24)
    (ne_law_told_right_law_plays_right : pt22 ≠ pt24)
    (q_MOST_GLASSES : PySem.W.nsIn K mainGlobals "MOST_GLASSES" = some (some (.int 300 t_MOST_GLASSES)))
    (q_MOST_PLAYED : PySem.W.nsIn K mainGlobals "MOST_PLAYED" = some (some (.int 1000 t_MOST_PLAYED)))
    (q_MOST_STOREYS : PySem.W.nsIn K mainGlobals "MOST_STOREYS" = some (some (.int 1000000000000000000000000000000000000000000000000000000000000 t_MOST_STOREYS)))
    (q_MOST_TRIES : PySem.W.nsIn K mainGlobals "MOST_TRIES" = some (some (.int 10000000000000000000000000000000000000000 t_MOST_TRIES)))
    (z_abs : PySem.W.nsIn K mainGlobals "abs" = some none)
    (z_any : PySem.W.nsIn K mainGlobals "any" = some none)
    (z_bool : PySem.W.nsIn K mainGlobals "bool" = some none)
    (z_int : PySem.W.nsIn K mainGlobals "int" = some none)
    (z_isinstance : PySem.W.nsIn K mainGlobals "isinstance" = some none)
    (z_len : PySem.W.nsIn K mainGlobals "len" = some none)
    (z_min : PySem.W.nsIn K mainGlobals "min" = some none)
    (z_range : PySem.W.nsIn K mainGlobals "range" = some none)
    (z_sum : PySem.W.nsIn K mainGlobals "sum" = some none) :
    LamX.LawAtS l w K CX0 8 63 "_law_script" mg fa h := by
  have e := hfa.symm.trans (PySem.W.mg_of X G a25)
  have e2 : fa = f25 := by
    cases e
    rfl
  rw [e2]
  have T : Tx K mg { a_Answer := C_Answer, a_Done := C_Done, a_Next := C_Next, a_Short := C_Short, a_is_number := f0, d_is_number := PySem.W.fnOf "is_number" "is_number" (defArgs s_is_number) (defBody s_is_number) (defScope s_is_number) .none kV0 dc0 pm0 an0 cd0 ct0, a_check_storeys := f1, d_check_storeys := PySem.W.fnOf "check_storeys" "check_storeys" (defArgs s_check_storeys) (defBody s_check_storeys) (defScope s_check_storeys) .none kV1 dc1 pm1 an1 cd1 ct1, a_check_glasses := f2, d_check_glasses := PySem.W.fnOf "check_glasses" "check_glasses" (defArgs s_check_glasses) (defBody s_check_glasses) (defScope s_check_glasses) .none kV2 dc2 pm2 an2 cd2 ct2, a_check_tries := f3, d_check_tries := PySem.W.fnOf "check_tries" "check_tries" (defArgs s_check_tries) (defBody s_check_tries) (defScope s_check_tries) .none kV3 dc3 pm3 an3 cd3 ct3, a_reached := f4, d_reached := PySem.W.fnOf "reached" "reached" (defArgs s_reached) (defBody s_reached) (defScope s_reached) .none kV4 dc4 pm4 an4 cd4 ct4, a_are_enough := f5, d_are_enough := PySem.W.fnOf "are_enough" "are_enough" (defArgs s_are_enough) (defBody s_are_enough) (defScope s_are_enough) .none kV5 dc5 pm5 an5 cd5 ct5, a_least_tries := f6, d_least_tries := PySem.W.fnOf "least_tries" "least_tries" (defArgs s_least_tries) (defBody s_least_tries) (defScope s_least_tries) .none kV6 dc6 pm6 an6 cd6 ct6, a_check_found := f7, d_check_found := PySem.W.fnOf "check_found" "check_found" (defArgs s_check_found) (defBody s_check_found) (defScope s_check_found) .none kV7 dc7 pm7 an7 cd7 ct7, a_reach := f8, d_reach := PySem.W.fnOf "reach" "reach" (defArgs s_reach) (defBody s_reach) (defScope s_reach) .none kV8 dc8 pm8 an8 cd8 ct8, a_fewest := f9, d_fewest := PySem.W.fnOf "fewest" "fewest" (defArgs s_fewest) (defBody s_fewest) (defScope s_fewest) .none kV9 dc9 pm9 an9 cd9 ct9, a_glasses_for := f10, d_glasses_for := PySem.W.fnOf "glasses_for" "glasses_for" (defArgs s_glasses_for) (defBody s_glasses_for) (defScope s_glasses_for) .none kV10 dc10 pm10 an10 cd10 ct10, a_Done_shows := f11, d_Done_shows := PySem.W.fnOf "shows" "Done.shows" (defArgs s_Done_shows) (defBody s_Done_shows) (defScope s_Done_shows) .none kV11 dc11 pm11 an11 cd11 ct11, a_Next__init := f12, d_Next__init := PySem.W.fnOf "__init__" "Next.__init__" (defArgs s_Next__init) (defBody s_Next__init) (defScope s_Next__init) .none kV12 dc12 pm12 an12 cd12 ct12, a_Next_shows := f13, d_Next_shows := PySem.W.fnOf "shows" "Next.shows" (defArgs s_Next_shows) (defBody s_Next_shows) (defScope s_Next_shows) .none kV13 dc13 pm13 an13 cd13 ct13, a_Short__init := f14, d_Short__init := PySem.W.fnOf "__init__" "Short.__init__" (defArgs s_Short__init) (defBody s_Short__init) (defScope s_Short__init) .none kV14 dc14 pm14 an14 cd14 ct14, a_Short_shows := f15, d_Short_shows := PySem.W.fnOf "shows" "Short.shows" (defArgs s_Short_shows) (defBody s_Short_shows) (defScope s_Short_shows) .none kV15 dc15 pm15 an15 cd15 ct15, a_next_of := f16, d_next_of := PySem.W.fnOf "next_of" "next_of" (defArgs s_next_of) (defBody s_next_of) (defScope s_next_of) .none kV16 dc16 pm16 an16 cd16 ct16, a_told := f17, d_told := PySem.W.fnOf "told" "told" (defArgs s_told) (defBody s_told) (defScope s_told) .none kV17 dc17 pm17 an17 cd17 ct17, a_answer := f18, d_answer := PySem.W.fnOf "answer" "answer" (defArgs s_answer) (defBody s_answer) (defScope s_answer) .none kV18 dc18 pm18 an18 cd18 ct18, a_tried := f19, d_tried := PySem.W.fnOf "tried" "tried" (defArgs s_tried) (defBody s_tried) (defScope s_tried) .none kV19 dc19 pm19 an19 cd19 ct19, a_law_word := f20, d_law_word := PySem.W.fnOf "_law_word" "_law_word" (defArgs s_law_word) (defBody s_law_word) (defScope s_law_word) .none kV20 dc20 pm20 an20 cd20 ct20, c_law_counts_right := cd21, p_law_counts_right := pt21, a_law_counts_right := f21, d_law_counts_right := PySem.W.fnOf "_law_counts_right" "_law_counts_right" (defArgs s_law_counts_right) (defBody s_law_counts_right) (defScope s_law_counts_right) .none kV21 dc21 pm21 an21 (.ref cd21) ct21, c_law_told_right := cd22, p_law_told_right := pt22, a_law_told_right := f22, d_law_told_right := PySem.W.fnOf "_law_told_right" "_law_told_right" (defArgs s_law_told_right) (defBody s_law_told_right) (defScope s_law_told_right) .none kV22 dc22 pm22 an22 (.ref cd22) ct22, a_law_play_right := f23, d_law_play_right := PySem.W.fnOf "_law_play_right" "_law_play_right" (defArgs s_law_play_right) (defBody s_law_play_right) (defScope s_law_play_right) .none kV23 dc23 pm23 an23 cd23 ct23, c_law_plays_right := cd24, p_law_plays_right := pt24, a_law_plays_right := f24, d_law_plays_right := PySem.W.fnOf "_law_plays_right" "_law_plays_right" (defArgs s_law_plays_right) (defBody s_law_plays_right) (defScope s_law_plays_right) .none kV24 dc24 pm24 an24 (.ref cd24) ct24, a_law := f25, d_law := PySem.W.fnOf "law" "law" (defArgs s_law) (defBody s_law) (defScope s_law) .none kV25 dc25 pm25 an25 cd25 ct25, a_GlassError := C_GlassError, a_BadStoreys := C_BadStoreys, a_BadGlasses := C_BadGlasses, a_BadTries := C_BadTries, a_BadStorey := C_BadStorey, a_NoGlass := C_NoGlass, a_Found := C_Found, a_Long := C_Long } :=
    { g_Answer := PySem.W.mg_of X G g_Answer,
      g_Done := PySem.W.mg_of X G g_Done,
      g_Next := PySem.W.mg_of X G g_Next,
      g_Short := PySem.W.mg_of X G g_Short,
      f_is_number := fun_mk (st := s_is_number) l0 c0 k0,
      g_is_number := PySem.W.mg_of X G a0,
      b_is_number := (fun_mk (st := s_is_number) l0 c0 k0).binds (ps := ["thing", "least", "most"]) fun _ _ _ _ _ _ us hl => match us, hl with | [_, _, _], _ => rfl,
      f_check_storeys := fun_mk (st := s_check_storeys) l1 c1 k1,
      g_check_storeys := PySem.W.mg_of X G a1,
      b_check_storeys := (fun_mk (st := s_check_storeys) l1 c1 k1).binds (ps := ["storeys"]) fun _ _ _ _ _ _ us hl => match us, hl with | [_], _ => rfl,
      f_check_glasses := fun_mk (st := s_check_glasses) l2 c2 k2,
      g_check_glasses := PySem.W.mg_of X G a2,
      b_check_glasses := (fun_mk (st := s_check_glasses) l2 c2 k2).binds (ps := ["glasses"]) fun _ _ _ _ _ _ us hl => match us, hl with | [_], _ => rfl,
      f_check_tries := fun_mk (st := s_check_tries) l3 c3 k3,
      g_check_tries := PySem.W.mg_of X G a3,
      b_check_tries := (fun_mk (st := s_check_tries) l3 c3 k3).binds (ps := ["tries"]) fun _ _ _ _ _ _ us hl => match us, hl with | [_], _ => rfl,
      f_reached := fun_mk (st := s_reached) l4 c4 k4,
      g_reached := PySem.W.mg_of X G a4,
      b_reached := (fun_mk (st := s_reached) l4 c4 k4).binds (ps := ["tries", "glasses"]) fun _ _ _ _ _ _ us hl => match us, hl with | [_, _], _ => rfl,
      f_are_enough := fun_mk (st := s_are_enough) l5 c5 k5,
      g_are_enough := PySem.W.mg_of X G a5,
      b_are_enough := (fun_mk (st := s_are_enough) l5 c5 k5).binds (ps := ["storeys", "glasses", "tries"]) fun _ _ _ _ _ _ us hl => match us, hl with | [_, _, _], _ => rfl,
      f_least_tries := fun_mk (st := s_least_tries) l6 c6 k6,
      g_least_tries := PySem.W.mg_of X G a6,
      b_least_tries := (fun_mk (st := s_least_tries) l6 c6 k6).binds (ps := ["storeys", "glasses"]) fun _ _ _ _ _ _ us hl => match us, hl with | [_, _], _ => rfl,
      f_check_found := fun_mk (st := s_check_found) l7 c7 k7,
      g_check_found := PySem.W.mg_of X G a7,
      b_check_found := (fun_mk (st := s_check_found) l7 c7 k7).binds (ps := ["storeys", "glasses"]) fun _ _ _ _ _ _ us hl => match us, hl with | [_, _], _ => rfl,
      f_reach := fun_mk (st := s_reach) l8 c8 k8,
      g_reach := PySem.W.mg_of X G a8,
      b_reach := (fun_mk (st := s_reach) l8 c8 k8).binds (ps := ["tries", "glasses"]) fun _ _ _ _ _ _ us hl => match us, hl with | [_, _], _ => rfl,
      f_fewest := fun_mk (st := s_fewest) l9 c9 k9,
      g_fewest := PySem.W.mg_of X G a9,
      b_fewest := (fun_mk (st := s_fewest) l9 c9 k9).binds (ps := ["storeys", "glasses"]) fun _ _ _ _ _ _ us hl => match us, hl with | [_, _], _ => rfl,
      f_glasses_for := fun_mk (st := s_glasses_for) l10 c10 k10,
      g_glasses_for := PySem.W.mg_of X G a10,
      b_glasses_for := (fun_mk (st := s_glasses_for) l10 c10 k10).binds (ps := ["storeys"]) fun _ _ _ _ _ _ us hl => match us, hl with | [_], _ => rfl,
      f_Done_shows := fun_mk (st := s_Done_shows) l11 c11 k11,
      b_Done_shows := (fun_mk (st := s_Done_shows) l11 c11 k11).binds (ps := ["self", "storeys", "glasses", "tries"]) fun _ _ _ _ _ _ us hl => match us, hl with | [_, _, _, _], _ => rfl,
      f_Next__init := fun_mk (st := s_Next__init) l12 c12 k12,
      b_Next__init := (fun_mk (st := s_Next__init) l12 c12 k12).binds (ps := ["self", "storey"]) fun _ _ _ _ _ _ us hl => match us, hl with | [_, _], _ => rfl,
      f_Next_shows := fun_mk (st := s_Next_shows) l13 c13 k13,
      b_Next_shows := (fun_mk (st := s_Next_shows) l13 c13 k13).binds (ps := ["self", "storeys", "glasses", "tries"]) fun _ _ _ _ _ _ us hl => match us, hl with | [_, _, _, _], _ => rfl,
      f_Short__init := fun_mk (st := s_Short__init) l14 c14 k14,
      b_Short__init := (fun_mk (st := s_Short__init) l14 c14 k14).binds (ps := ["self", "most"]) fun _ _ _ _ _ _ us hl => match us, hl with | [_, _], _ => rfl,
      f_Short_shows := fun_mk (st := s_Short_shows) l15 c15 k15,
      b_Short_shows := (fun_mk (st := s_Short_shows) l15 c15 k15).binds (ps := ["self", "storeys", "glasses", "tries"]) fun _ _ _ _ _ _ us hl => match us, hl with | [_, _, _, _], _ => rfl,
      f_next_of := fun_mk (st := s_next_of) l16 c16 k16,
      g_next_of := PySem.W.mg_of X G a16,
      b_next_of := (fun_mk (st := s_next_of) l16 c16 k16).binds (ps := ["storeys", "glasses", "tries"]) fun _ _ _ _ _ _ us hl => match us, hl with | [_, _, _], _ => rfl,
      f_told := fun_mk (st := s_told) l17 c17 k17,
      g_told := PySem.W.mg_of X G a17,
      b_told := (fun_mk (st := s_told) l17 c17 k17).binds (ps := ["storeys", "glasses", "tries"]) fun _ _ _ _ _ _ us hl => match us, hl with | [_, _, _], _ => rfl,
      f_answer := fun_mk (st := s_answer) l18 c18 k18,
      g_answer := PySem.W.mg_of X G a18,
      b_answer := (fun_mk (st := s_answer) l18 c18 k18).binds (ps := ["storeys", "glasses", "tries", "storey"]) fun _ _ _ _ _ _ us hl => match us, hl with | [_, _, _, _], _ => rfl,
      f_tried := fun_mk (st := s_tried) l19 c19 k19,
      g_tried := PySem.W.mg_of X G a19,
      b_tried := (fun_mk (st := s_tried) l19 c19 k19).binds (ps := ["storeys", "glasses", "stands"]) fun _ _ _ _ _ _ us hl => match us, hl with | [_, _, _], _ => rfl,
      f_law_word := fun_mk (st := s_law_word) l20 c20 k20,
      g_law_word := PySem.W.mg_of X G a20,
      b_law_word := (fun_mk (st := s_law_word) l20 c20 k20).binds (ps := ["_law_ask", "_law_thing"]) fun _ _ _ _ _ _ us hl => match us, hl with | [_, _], _ => rfl,
      fc_law_counts_right := ⟨_, _, _, _, _, _, _, _, rfl, l21, c21⟩,
      f_law_counts_right := fun_mk (st := s_law_counts_right) l21 c21 k21,
      g_law_counts_right := PySem.W.mg_of X G a21,
      b_law_counts_right := (fun_mk (st := s_law_counts_right) l21 c21 k21).binds (ps := ["_law_n"]) fun _ _ _ _ _ _ us hl => match us, hl with | [_], _ => rfl,
      fc_law_told_right := ⟨_, _, _, _, _, _, _, _, rfl, l22, c22⟩,
      f_law_told_right := fun_mk (st := s_law_told_right) l22 c22 k22,
      g_law_told_right := PySem.W.mg_of X G a22,
      b_law_told_right := (fun_mk (st := s_law_told_right) l22 c22 k22).binds (ps := ["_law_n"]) fun _ _ _ _ _ _ us hl => match us, hl with | [_], _ => rfl,
      f_law_play_right := fun_mk (st := s_law_play_right) l23 c23 k23,
      g_law_play_right := PySem.W.mg_of X G a23,
      b_law_play_right := (fun_mk (st := s_law_play_right) l23 c23 k23).binds (ps := ["_law_storeys", "_law_glasses", "_law_stands"]) fun _ _ _ _ _ _ us hl => match us, hl with | [_, _, _], _ => rfl,
      fc_law_plays_right := ⟨_, _, _, _, _, _, _, _, rfl, l24, c24⟩,
      f_law_plays_right := fun_mk (st := s_law_plays_right) l24 c24 k24,
      g_law_plays_right := PySem.W.mg_of X G a24,
      b_law_plays_right := (fun_mk (st := s_law_plays_right) l24 c24 k24).binds (ps := ["_law_n"]) fun _ _ _ _ _ _ us hl => match us, hl with | [_], _ => rfl,
      f_law := fun_mk (st := s_law) l25 c25 k25,
      g_law := PySem.W.mg_of X G a25,
      b_law := (fun_mk (st := s_law) l25 c25 k25).binds (ps := ["_law_script"]) fun _ _ _ _ _ _ us hl => match us, hl with | [_], _ => rfl,
      t_Done := ⟨⟨pg_Done, hd_Done, po_Done, sa_Done⟩, ca_Done, cn_Done, ct_Done, cm_Done⟩,
      k_Done := ⟨mk_Done, in_Done, kc_Done⟩,
      m_Done_shows := ⟨a11, i11, k11⟩,
      i_Done_Answer := i_Done_Answer,
      i_Done_Done := i_Done_Done,
      i_Done_Next := i_Done_Next,
      i_Done_Short := i_Done_Short,
      t_Next := ⟨⟨pg_Next, hd_Next, po_Next, sa_Next⟩, ca_Next, cn_Next, ct_Next, cm_Next⟩,
      k_Next := ⟨mk_Next, a12, i12, kc_Next⟩,
      n_Next_storey := n_Next_storey,
      m_Next_shows := ⟨a13, i13, k13⟩,
      i_Next_Answer := i_Next_Answer,
      i_Next_Done := i_Next_Done,
      i_Next_Next := i_Next_Next,
      i_Next_Short := i_Next_Short,
      t_Short := ⟨⟨pg_Short, hd_Short, po_Short, sa_Short⟩, ca_Short, cn_Short, ct_Short, cm_Short⟩,
      k_Short := ⟨mk_Short, a14, i14, kc_Short⟩,
      n_Short_most := n_Short_most,
      m_Short_shows := ⟨a15, i15, k15⟩,
      i_Short_Answer := i_Short_Answer,
      i_Short_Done := i_Short_Done,
      i_Short_Next := i_Short_Next,
      i_Short_Short := i_Short_Short,
      g_GlassError := PySem.W.mg_of X G g_GlassError,
      g_BadStoreys := PySem.W.mg_of X G g_BadStoreys,
      g_BadGlasses := PySem.W.mg_of X G g_BadGlasses,
      g_BadTries := PySem.W.mg_of X G g_BadTries,
      g_BadStorey := PySem.W.mg_of X G g_BadStorey,
      g_NoGlass := PySem.W.mg_of X G g_NoGlass,
      g_Found := PySem.W.mg_of X G g_Found,
      g_Long := PySem.W.mg_of X G g_Long,
      x_BadStoreys := x_BadStoreys,
      k_BadStoreys := k_BadStoreys,
      b_BadStoreys := b_BadStoreys,
      y_BadStoreys := y_BadStoreys,
      e_BadStoreys := ⟨ga_BadStoreys, gt_BadStoreys, b_BadStoreys, hd_BadStoreys, ca_BadStoreys, cn_BadStoreys, ct_BadStoreys, cm_BadStoreys⟩,
      m_BadStoreys := PySem.W.exm_ref b_GlassError hd_GlassError y_GlassError s_BadStoreys,
      i_BadStoreys_BadStoreys := i_BadStoreys_BadStoreys,
      i_BadStoreys_BadGlasses := i_BadStoreys_BadGlasses,
      i_BadStoreys_BadTries := i_BadStoreys_BadTries,
      i_BadStoreys_BadStorey := i_BadStoreys_BadStorey,
      i_BadStoreys_NoGlass := i_BadStoreys_NoGlass,
      i_BadStoreys_Found := i_BadStoreys_Found,
      i_BadStoreys_Long := i_BadStoreys_Long,
      x_BadGlasses := x_BadGlasses,
      k_BadGlasses := k_BadGlasses,
      b_BadGlasses := b_BadGlasses,
      y_BadGlasses := y_BadGlasses,
      e_BadGlasses := ⟨ga_BadGlasses, gt_BadGlasses, b_BadGlasses, hd_BadGlasses, ca_BadGlasses, cn_BadGlasses, ct_BadGlasses, cm_BadGlasses⟩,
      m_BadGlasses := PySem.W.exm_ref b_GlassError hd_GlassError y_GlassError s_BadGlasses,
      i_BadGlasses_BadStoreys := i_BadGlasses_BadStoreys,
      i_BadGlasses_BadGlasses := i_BadGlasses_BadGlasses,
      i_BadGlasses_BadTries := i_BadGlasses_BadTries,
      i_BadGlasses_BadStorey := i_BadGlasses_BadStorey,
      i_BadGlasses_NoGlass := i_BadGlasses_NoGlass,
      i_BadGlasses_Found := i_BadGlasses_Found,
      i_BadGlasses_Long := i_BadGlasses_Long,
      x_BadTries := x_BadTries,
      k_BadTries := k_BadTries,
      b_BadTries := b_BadTries,
      y_BadTries := y_BadTries,
      e_BadTries := ⟨ga_BadTries, gt_BadTries, b_BadTries, hd_BadTries, ca_BadTries, cn_BadTries, ct_BadTries, cm_BadTries⟩,
      m_BadTries := PySem.W.exm_ref b_GlassError hd_GlassError y_GlassError s_BadTries,
      i_BadTries_BadStoreys := i_BadTries_BadStoreys,
      i_BadTries_BadGlasses := i_BadTries_BadGlasses,
      i_BadTries_BadTries := i_BadTries_BadTries,
      i_BadTries_BadStorey := i_BadTries_BadStorey,
      i_BadTries_NoGlass := i_BadTries_NoGlass,
      i_BadTries_Found := i_BadTries_Found,
      i_BadTries_Long := i_BadTries_Long,
      x_BadStorey := x_BadStorey,
      k_BadStorey := k_BadStorey,
      b_BadStorey := b_BadStorey,
      y_BadStorey := y_BadStorey,
      e_BadStorey := ⟨ga_BadStorey, gt_BadStorey, b_BadStorey, hd_BadStorey, ca_BadStorey, cn_BadStorey, ct_BadStorey, cm_BadStorey⟩,
      m_BadStorey := PySem.W.exm_ref b_GlassError hd_GlassError y_GlassError s_BadStorey,
      i_BadStorey_BadStoreys := i_BadStorey_BadStoreys,
      i_BadStorey_BadGlasses := i_BadStorey_BadGlasses,
      i_BadStorey_BadTries := i_BadStorey_BadTries,
      i_BadStorey_BadStorey := i_BadStorey_BadStorey,
      i_BadStorey_NoGlass := i_BadStorey_NoGlass,
      i_BadStorey_Found := i_BadStorey_Found,
      i_BadStorey_Long := i_BadStorey_Long,
      x_NoGlass := x_NoGlass,
      k_NoGlass := k_NoGlass,
      b_NoGlass := b_NoGlass,
      y_NoGlass := y_NoGlass,
      e_NoGlass := ⟨ga_NoGlass, gt_NoGlass, b_NoGlass, hd_NoGlass, ca_NoGlass, cn_NoGlass, ct_NoGlass, cm_NoGlass⟩,
      m_NoGlass := PySem.W.exm_ref b_GlassError hd_GlassError y_GlassError s_NoGlass,
      i_NoGlass_BadStoreys := i_NoGlass_BadStoreys,
      i_NoGlass_BadGlasses := i_NoGlass_BadGlasses,
      i_NoGlass_BadTries := i_NoGlass_BadTries,
      i_NoGlass_BadStorey := i_NoGlass_BadStorey,
      i_NoGlass_NoGlass := i_NoGlass_NoGlass,
      i_NoGlass_Found := i_NoGlass_Found,
      i_NoGlass_Long := i_NoGlass_Long,
      x_Found := x_Found,
      k_Found := k_Found,
      b_Found := b_Found,
      y_Found := y_Found,
      e_Found := ⟨ga_Found, gt_Found, b_Found, hd_Found, ca_Found, cn_Found, ct_Found, cm_Found⟩,
      m_Found := PySem.W.exm_ref b_GlassError hd_GlassError y_GlassError s_Found,
      i_Found_BadStoreys := i_Found_BadStoreys,
      i_Found_BadGlasses := i_Found_BadGlasses,
      i_Found_BadTries := i_Found_BadTries,
      i_Found_BadStorey := i_Found_BadStorey,
      i_Found_NoGlass := i_Found_NoGlass,
      i_Found_Found := i_Found_Found,
      i_Found_Long := i_Found_Long,
      x_Long := x_Long,
      k_Long := k_Long,
      b_Long := b_Long,
      y_Long := y_Long,
      e_Long := ⟨ga_Long, gt_Long, b_Long, hd_Long, ca_Long, cn_Long, ct_Long, cm_Long⟩,
      m_Long := PySem.W.exm_ref b_GlassError hd_GlassError y_GlassError s_Long,
      i_Long_BadStoreys := i_Long_BadStoreys,
      i_Long_BadGlasses := i_Long_BadGlasses,
      i_Long_BadTries := i_Long_BadTries,
      i_Long_BadStorey := i_Long_BadStorey,
      i_Long_NoGlass := i_Long_NoGlass,
      i_Long_Found := i_Long_Found,
      i_Long_Long := i_Long_Long,
      ne_law_counts_right_law_told_right := ne_law_counts_right_law_told_right,
      ne_law_counts_right_law_plays_right := ne_law_counts_right_law_plays_right,
      ne_law_told_right_law_plays_right := ne_law_told_right_law_plays_right,
      c_MOST_GLASSES := ⟨_, PySem.W.mg_of X G q_MOST_GLASSES⟩,
      c_MOST_PLAYED := ⟨_, PySem.W.mg_of X G q_MOST_PLAYED⟩,
      c_MOST_STOREYS := ⟨_, PySem.W.mg_of X G q_MOST_STOREYS⟩,
      c_MOST_TRIES := ⟨_, PySem.W.mg_of X G q_MOST_TRIES⟩,
      z_abs := PySem.W.mg_none_of X G z_abs,
      z_any := PySem.W.mg_none_of X G z_any,
      z_bool := PySem.W.mg_none_of X G z_bool,
      z_int := PySem.W.mg_none_of X G z_int,
      z_isinstance := PySem.W.mg_none_of X G z_isinstance,
      z_len := PySem.W.mg_none_of X G z_len,
      z_min := PySem.W.mg_none_of X G z_min,
      z_range := PySem.W.mg_none_of X G z_range,
      z_sum := PySem.W.mg_none_of X G z_sum }
  exact ⟨_, [(cd21, pt21), (cd22, pt22), (cd24, pt24)], spLaw K _, fun p hp => by
      rcases List.mem_cons.mp hp with rfl | hp
      · exact tb21
      rcases List.mem_cons.mp hp with rfl | hp
      · exact tb22
      rcases List.mem_cons.mp hp with rfl | hp
      · exact tb24
      exact absurd hp List.not_mem_nil,
    fun p hp => by
      rcases List.mem_cons.mp hp with rfl | hp
      · exact nt21
      rcases List.mem_cons.mp hp with rfl | hp
      · exact nt22
      rcases List.mem_cons.mp hp with rfl | hp
      · exact nt24
      exact absurd hp List.not_mem_nil,
    fun p hp => by
      rcases List.mem_cons.mp hp with rfl | hp
      · exact PySem.W.codeHd_of_K X hc21
      rcases List.mem_cons.mp hp with rfl | hp
      · exact PySem.W.codeHd_of_K X hc22
      rcases List.mem_cons.mp hp with rfl | hp
      · exact PySem.W.codeHd_of_K X hc24
      exact absurd hp List.not_mem_nil, fun s v => .of_eq rfl, fun H a ns hl hb hT hS => ⟨a, ns, rfl, hS, hl, hb, hT (cd21, pt21) (.head _), hT (cd22, pt22) (.tail _ (.head _)), hT (cd24, pt24) (.tail _ (.tail _ (.head _))), fun _ => rfl⟩, fun base _ _ TB => ok_law T (TB (cd21, pt21) (.head _)) (TB (cd22, pt22) (.tail _ (.head _))) (TB (cd24, pt24) (.tail _ (.tail _ (.head _))))⟩
end GF
open PySem PySem.W PyProof.Rows
set_option maxRecDepth 100000 in
set_option maxHeartbeats 0 in
theorem PySem.Challenge.cw_glassfall_k10_promises_by_hand_holds : PySem.Challenge.rw_glassfall_k10_promises_by_hand.Holds := by
  w_on; o_law; k_head; (case hw => w_witness2)
  k_fill
  refine LamX.walk_ofTs (l := PySem.Challenge.rw_glassfall_k10_promises_by_hand) (n := 63) (k := 8) (x := "_law_script") (CX := fun _ => L2.CX0) rfl (by decide) rfl ⟨rfl, by decide, by decide⟩ (fun w h Y => PySem.W.km_in_of Y) ?F (fun _ _ _ _ _ h => h)
  case F =>
    intro w mg fa h Y KX G hmg
    have hT8 := PySem.W.km_tabs_of Y
    refine' GF.all_mk KX G hmg ?g_Answer ?g_Done ?g_Next ?g_Short ?a0 ?l0 ?c0 ?k0 ?a1 ?l1 ?c1 ?k1 ?a2 ?l2 ?c2 ?k2 ?a3 ?l3 ?c3 ?k3 ?a4 ?l4 ?c4 ?k4 ?a5 ?l5 ?c5 ?k5 ?a6 ?l6 ?c6 ?k6 ?a7 ?l7 ?c7 ?k7 ?a8 ?l8 ?c8 ?k8 ?a9 ?l9 ?c9 ?k9 ?a10 ?l10 ?c10 ?k10 ?a11 ?i11 ?l11 ?c11 ?k11 ?a12 ?i12 ?l12 ?c12 ?k12 ?a13 ?i13 ?l13 ?c13 ?k13 ?a14 ?i14 ?l14 ?c14 ?k14 ?a15 ?i15 ?l15 ?c15 ?k15 ?a16 ?l16 ?c16 ?k16 ?a17 ?l17 ?c17 ?k17 ?a18 ?l18 ?c18 ?k18 ?a19 ?l19 ?c19 ?k19 ?a20 ?l20 ?c20 ?k20 ?a21 ?l21 ?c21 ?k21 ?lc21 ?pc21 ?hc21 ?nt21 ?tb21 ?a22 ?l22 ?c22 ?k22 ?lc22 ?pc22 ?hc22 ?nt22 ?tb22 ?a23 ?l23 ?c23 ?k23 ?a24 ?l24 ?c24 ?k24 ?lc24 ?pc24 ?hc24 ?nt24 ?tb24 ?a25 ?l25 ?c25 ?k25 ?pg_Done ?hd_Done ?po_Done ?sa_Done ?mk_Done ?kc_Done ?ca_Done ?cn_Done ?ct_Done ?cm_Done ?in_Done ?i_Done_Answer ?i_Done_Done ?i_Done_Next ?i_Done_Short ?pg_Next ?hd_Next ?po_Next ?sa_Next ?mk_Next ?kc_Next ?ca_Next ?cn_Next ?ct_Next ?cm_Next ?n_Next_storey ?i_Next_Answer ?i_Next_Done ?i_Next_Next ?i_Next_Short ?pg_Short ?hd_Short ?po_Short ?sa_Short ?mk_Short ?kc_Short ?ca_Short ?cn_Short ?ct_Short ?cm_Short ?n_Short_most ?i_Short_Answer ?i_Short_Done ?i_Short_Next ?i_Short_Short ?g_GlassError ?g_BadStoreys ?g_BadGlasses ?g_BadTries ?g_BadStorey ?g_NoGlass ?g_Found ?g_Long ?b_GlassError ?y_GlassError ?hd_GlassError ?b_BadStoreys ?y_BadStoreys ?hd_BadStoreys ?x_BadStoreys ?k_BadStoreys ?s_BadStoreys ?ga_BadStoreys ?gt_BadStoreys ?ca_BadStoreys ?cn_BadStoreys ?ct_BadStoreys ?cm_BadStoreys ?i_BadStoreys_BadStoreys ?i_BadStoreys_BadGlasses ?i_BadStoreys_BadTries ?i_BadStoreys_BadStorey ?i_BadStoreys_NoGlass ?i_BadStoreys_Found ?i_BadStoreys_Long ?b_BadGlasses ?y_BadGlasses ?hd_BadGlasses ?x_BadGlasses ?k_BadGlasses ?s_BadGlasses ?ga_BadGlasses ?gt_BadGlasses ?ca_BadGlasses ?cn_BadGlasses ?ct_BadGlasses ?cm_BadGlasses ?i_BadGlasses_BadStoreys ?i_BadGlasses_BadGlasses ?i_BadGlasses_BadTries ?i_BadGlasses_BadStorey ?i_BadGlasses_NoGlass ?i_BadGlasses_Found ?i_BadGlasses_Long ?b_BadTries ?y_BadTries ?hd_BadTries ?x_BadTries ?k_BadTries ?s_BadTries ?ga_BadTries ?gt_BadTries ?ca_BadTries ?cn_BadTries ?ct_BadTries ?cm_BadTries ?i_BadTries_BadStoreys ?i_BadTries_BadGlasses ?i_BadTries_BadTries ?i_BadTries_BadStorey ?i_BadTries_NoGlass ?i_BadTries_Found ?i_BadTries_Long ?b_BadStorey ?y_BadStorey ?hd_BadStorey ?x_BadStorey ?k_BadStorey ?s_BadStorey ?ga_BadStorey ?gt_BadStorey ?ca_BadStorey ?cn_BadStorey ?ct_BadStorey ?cm_BadStorey ?i_BadStorey_BadStoreys ?i_BadStorey_BadGlasses ?i_BadStorey_BadTries ?i_BadStorey_BadStorey ?i_BadStorey_NoGlass ?i_BadStorey_Found ?i_BadStorey_Long ?b_NoGlass ?y_NoGlass ?hd_NoGlass ?x_NoGlass ?k_NoGlass ?s_NoGlass ?ga_NoGlass ?gt_NoGlass ?ca_NoGlass ?cn_NoGlass ?ct_NoGlass ?cm_NoGlass ?i_NoGlass_BadStoreys ?i_NoGlass_BadGlasses ?i_NoGlass_BadTries ?i_NoGlass_BadStorey ?i_NoGlass_NoGlass ?i_NoGlass_Found ?i_NoGlass_Long ?b_Found ?y_Found ?hd_Found ?x_Found ?k_Found ?s_Found ?ga_Found ?gt_Found ?ca_Found ?cn_Found ?ct_Found ?cm_Found ?i_Found_BadStoreys ?i_Found_BadGlasses ?i_Found_BadTries ?i_Found_BadStorey ?i_Found_NoGlass ?i_Found_Found ?i_Found_Long ?b_Long ?y_Long ?hd_Long ?x_Long ?k_Long ?s_Long ?ga_Long ?gt_Long ?ca_Long ?cn_Long ?ct_Long ?cm_Long ?i_Long_BadStoreys ?i_Long_BadGlasses ?i_Long_BadTries ?i_Long_BadStorey ?i_Long_NoGlass ?i_Long_Found ?i_Long_Long ?ne_law_counts_right_law_told_right ?ne_law_counts_right_law_plays_right ?ne_law_told_right_law_plays_right ?q_MOST_GLASSES ?q_MOST_PLAYED ?q_MOST_STOREYS ?q_MOST_TRIES ?z_abs ?z_any ?z_bool ?z_int ?z_isinstance ?z_len ?z_min ?z_range ?z_sum
    (case g_Answer => k_is)
    (case g_Done => k_is)
    (case g_Next => k_is)
    (case g_Short => k_is)
    (case a0 => k_is)
    (case l0 => k_is)
    (case c0 => k_is)
    (case k0 => k_is)
    (case a1 => k_is)
    (case l1 => k_is)
    (case c1 => k_is)
    (case k1 => k_is)
    (case a2 => k_is)
    (case l2 => k_is)
    (case c2 => k_is)
    (case k2 => k_is)
    (case a3 => k_is)
    (case l3 => k_is)
    (case c3 => k_is)
    (case k3 => k_is)
    (case a4 => k_is)
    (case l4 => k_is)
    (case c4 => k_is)
    (case k4 => k_is)
    (case a5 => k_is)
    (case l5 => k_is)
    (case c5 => k_is)
    (case k5 => k_is)
    (case a6 => k_is)
    (case l6 => k_is)
    (case c6 => k_is)
    (case k6 => k_is)
    (case a7 => k_is)
    (case l7 => k_is)
    (case c7 => k_is)
    (case k7 => k_is)
    (case a8 => k_is)
    (case l8 => k_is)
    (case c8 => k_is)
    (case k8 => k_is)
    (case a9 => k_is)
    (case l9 => k_is)
    (case c9 => k_is)
    (case k9 => k_is)
    (case a10 => k_is)
    (case l10 => k_is)
    (case c10 => k_is)
    (case k10 => k_is)
    (case a11 => k_is)
    (case i11 => k_is)
    (case l11 => k_is)
    (case c11 => k_is)
    (case k11 => k_is)
    (case a12 => k_is)
    (case i12 => k_is)
    (case l12 => k_is)
    (case c12 => k_is)
    (case k12 => k_is)
    (case a13 => k_is)
    (case i13 => k_is)
    (case l13 => k_is)
    (case c13 => k_is)
    (case k13 => k_is)
    (case a14 => k_is)
    (case i14 => k_is)
    (case l14 => k_is)
    (case c14 => k_is)
    (case k14 => k_is)
    (case a15 => k_is)
    (case i15 => k_is)
    (case l15 => k_is)
    (case c15 => k_is)
    (case k15 => k_is)
    (case a16 => k_is)
    (case l16 => k_is)
    (case c16 => k_is)
    (case k16 => k_is)
    (case a17 => k_is)
    (case l17 => k_is)
    (case c17 => k_is)
    (case k17 => k_is)
    (case a18 => k_is)
    (case l18 => k_is)
    (case c18 => k_is)
    (case k18 => k_is)
    (case a19 => k_is)
    (case l19 => k_is)
    (case c19 => k_is)
    (case k19 => k_is)
    (case a20 => k_is)
    (case l20 => k_is)
    (case c20 => k_is)
    (case k20 => k_is)
    (case a21 => k_is)
    (case l21 => k_is)
    (case c21 => k_is)
    (case k21 => k_is)
    (case lc21 => k_is)
    (case pc21 => exact rfl)
    (case hc21 => kernel_rfl)
    (case nt21 => kernel_rfl)
    (case tb21 => exact hT8 _ (by k_mem))
    (case a22 => k_is)
    (case l22 => k_is)
    (case c22 => k_is)
    (case k22 => k_is)
    (case lc22 => k_is)
    (case pc22 => exact rfl)
    (case hc22 => kernel_rfl)
    (case nt22 => kernel_rfl)
    (case tb22 => exact hT8 _ (by k_mem))
    (case a23 => k_is)
    (case l23 => k_is)
    (case c23 => k_is)
    (case k23 => k_is)
    (case a24 => k_is)
    (case l24 => k_is)
    (case c24 => k_is)
    (case k24 => k_is)
    (case lc24 => k_is)
    (case pc24 => exact rfl)
    (case hc24 => kernel_rfl)
    (case nt24 => kernel_rfl)
    (case tb24 => exact hT8 _ (by k_mem))
    (case a25 => k_is)
    (case l25 => k_is)
    (case c25 => k_is)
    (case k25 => k_is)
    (case pg_Done => k_is)
    (case hd_Done => k_is)
    (case po_Done => k_is)
    (case sa_Done => k_is)
    (case mk_Done => k_is)
    (case kc_Done => k_is)
    (case ca_Done => k_is)
    (case cn_Done => k_is)
    (case ct_Done => k_is)
    (case cm_Done => k_is)
    (case in_Done => k_is)
    (case i_Done_Answer => kit_is)
    (case i_Done_Done => kit_is)
    (case i_Done_Next => kit_is)
    (case i_Done_Short => kit_is)
    (case pg_Next => k_is)
    (case hd_Next => k_is)
    (case po_Next => k_is)
    (case sa_Next => k_is)
    (case mk_Next => k_is)
    (case kc_Next => k_is)
    (case ca_Next => k_is)
    (case cn_Next => k_is)
    (case ct_Next => k_is)
    (case cm_Next => k_is)
    (case n_Next_storey => k_is)
    (case i_Next_Answer => kit_is)
    (case i_Next_Done => kit_is)
    (case i_Next_Next => kit_is)
    (case i_Next_Short => kit_is)
    (case pg_Short => k_is)
    (case hd_Short => k_is)
    (case po_Short => k_is)
    (case sa_Short => k_is)
    (case mk_Short => k_is)
    (case kc_Short => k_is)
    (case ca_Short => k_is)
    (case cn_Short => k_is)
    (case ct_Short => k_is)
    (case cm_Short => k_is)
    (case n_Short_most => k_is)
    (case i_Short_Answer => kit_is)
    (case i_Short_Done => kit_is)
    (case i_Short_Next => kit_is)
    (case i_Short_Short => kit_is)
    (case g_GlassError => k_is)
    (case g_BadStoreys => k_is)
    (case g_BadGlasses => k_is)
    (case g_BadTries => k_is)
    (case g_BadStorey => k_is)
    (case g_NoGlass => k_is)
    (case g_Found => k_is)
    (case g_Long => k_is)
    (case b_GlassError => k_is)
    (case y_GlassError => k_is)
    (case hd_GlassError => k_is)
    (case b_BadStoreys => k_is)
    (case y_BadStoreys => k_is)
    (case hd_BadStoreys => k_is)
    (case x_BadStoreys => k_exc)
    (case k_BadStoreys => k_is)
    (case s_BadStoreys => k_is)
    (case ga_BadStoreys => k_is)
    (case gt_BadStoreys => k_is)
    (case ca_BadStoreys => k_is)
    (case cn_BadStoreys => k_is)
    (case ct_BadStoreys => k_is)
    (case cm_BadStoreys => k_is)
    (case i_BadStoreys_BadStoreys => kit_is)
    (case i_BadStoreys_BadGlasses => kit_is)
    (case i_BadStoreys_BadTries => kit_is)
    (case i_BadStoreys_BadStorey => kit_is)
    (case i_BadStoreys_NoGlass => kit_is)
    (case i_BadStoreys_Found => kit_is)
    (case i_BadStoreys_Long => kit_is)
    (case b_BadGlasses => k_is)
    (case y_BadGlasses => k_is)
    (case hd_BadGlasses => k_is)
    (case x_BadGlasses => k_exc)
    (case k_BadGlasses => k_is)
    (case s_BadGlasses => k_is)
    (case ga_BadGlasses => k_is)
    (case gt_BadGlasses => k_is)
    (case ca_BadGlasses => k_is)
    (case cn_BadGlasses => k_is)
    (case ct_BadGlasses => k_is)
    (case cm_BadGlasses => k_is)
    (case i_BadGlasses_BadStoreys => kit_is)
    (case i_BadGlasses_BadGlasses => kit_is)
    (case i_BadGlasses_BadTries => kit_is)
    (case i_BadGlasses_BadStorey => kit_is)
    (case i_BadGlasses_NoGlass => kit_is)
    (case i_BadGlasses_Found => kit_is)
    (case i_BadGlasses_Long => kit_is)
    (case b_BadTries => k_is)
    (case y_BadTries => k_is)
    (case hd_BadTries => k_is)
    (case x_BadTries => k_exc)
    (case k_BadTries => k_is)
    (case s_BadTries => k_is)
    (case ga_BadTries => k_is)
    (case gt_BadTries => k_is)
    (case ca_BadTries => k_is)
    (case cn_BadTries => k_is)
    (case ct_BadTries => k_is)
    (case cm_BadTries => k_is)
    (case i_BadTries_BadStoreys => kit_is)
    (case i_BadTries_BadGlasses => kit_is)
    (case i_BadTries_BadTries => kit_is)
    (case i_BadTries_BadStorey => kit_is)
    (case i_BadTries_NoGlass => kit_is)
    (case i_BadTries_Found => kit_is)
    (case i_BadTries_Long => kit_is)
    (case b_BadStorey => k_is)
    (case y_BadStorey => k_is)
    (case hd_BadStorey => k_is)
    (case x_BadStorey => k_exc)
    (case k_BadStorey => k_is)
    (case s_BadStorey => k_is)
    (case ga_BadStorey => k_is)
    (case gt_BadStorey => k_is)
    (case ca_BadStorey => k_is)
    (case cn_BadStorey => k_is)
    (case ct_BadStorey => k_is)
    (case cm_BadStorey => k_is)
    (case i_BadStorey_BadStoreys => kit_is)
    (case i_BadStorey_BadGlasses => kit_is)
    (case i_BadStorey_BadTries => kit_is)
    (case i_BadStorey_BadStorey => kit_is)
    (case i_BadStorey_NoGlass => kit_is)
    (case i_BadStorey_Found => kit_is)
    (case i_BadStorey_Long => kit_is)
    (case b_NoGlass => k_is)
    (case y_NoGlass => k_is)
    (case hd_NoGlass => k_is)
    (case x_NoGlass => k_exc)
    (case k_NoGlass => k_is)
    (case s_NoGlass => k_is)
    (case ga_NoGlass => k_is)
    (case gt_NoGlass => k_is)
    (case ca_NoGlass => k_is)
    (case cn_NoGlass => k_is)
    (case ct_NoGlass => k_is)
    (case cm_NoGlass => k_is)
    (case i_NoGlass_BadStoreys => kit_is)
    (case i_NoGlass_BadGlasses => kit_is)
    (case i_NoGlass_BadTries => kit_is)
    (case i_NoGlass_BadStorey => kit_is)
    (case i_NoGlass_NoGlass => kit_is)
    (case i_NoGlass_Found => kit_is)
    (case i_NoGlass_Long => kit_is)
    (case b_Found => k_is)
    (case y_Found => k_is)
    (case hd_Found => k_is)
    (case x_Found => k_exc)
    (case k_Found => k_is)
    (case s_Found => k_is)
    (case ga_Found => k_is)
    (case gt_Found => k_is)
    (case ca_Found => k_is)
    (case cn_Found => k_is)
    (case ct_Found => k_is)
    (case cm_Found => k_is)
    (case i_Found_BadStoreys => kit_is)
    (case i_Found_BadGlasses => kit_is)
    (case i_Found_BadTries => kit_is)
    (case i_Found_BadStorey => kit_is)
    (case i_Found_NoGlass => kit_is)
    (case i_Found_Found => kit_is)
    (case i_Found_Long => kit_is)
    (case b_Long => k_is)
    (case y_Long => k_is)
    (case hd_Long => k_is)
    (case x_Long => k_exc)
    (case k_Long => k_is)
    (case s_Long => k_is)
    (case ga_Long => k_is)
    (case gt_Long => k_is)
    (case ca_Long => k_is)
    (case cn_Long => k_is)
    (case ct_Long => k_is)
    (case cm_Long => k_is)
    (case i_Long_BadStoreys => kit_is)
    (case i_Long_BadGlasses => kit_is)
    (case i_Long_BadTries => kit_is)
    (case i_Long_BadStorey => kit_is)
    (case i_Long_NoGlass => kit_is)
    (case i_Long_Found => kit_is)
    (case i_Long_Long => kit_is)
    (case ne_law_counts_right_law_told_right => decide)
    (case ne_law_counts_right_law_plays_right => decide)
    (case ne_law_told_right_law_plays_right => decide)
    (case q_MOST_GLASSES => k_is)
    (case q_MOST_PLAYED => k_is)
    (case q_MOST_STOREYS => k_is)
    (case q_MOST_TRIES => k_is)
    (case z_abs => k_is)
    (case z_any => k_is)
    (case z_bool => k_is)
    (case z_int => k_is)
    (case z_isinstance => k_is)
    (case z_len => k_is)
    (case z_min => k_is)
    (case z_range => k_is)
    (case z_sum => k_is)
