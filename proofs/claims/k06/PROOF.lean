import PyProof.Rows.All
import Wide.All
import OpenK.AllK
import Wide.FinOn
import HandS.ForMost
import HandS.EndBits
import HandS.Evl
import HandS.IsInst
import HandS.WideBits
import HandS.Style
import HandS.CallRecv
import KE.RegKIsAll
import PySem.Challenge.RW_glassfall_k06_answers_by_hand
set_option Elab.async false
set_option linter.all false
set_option maxRecDepth 100000
set_option maxHeartbeats 4000000
namespace GF
/-- ways to pick k of n -/
def bin : Nat → Nat → Nat
  | _, 0 => 1
  | 0, _ + 1 => 0
  | n + 1, k + 1 => bin n k + bin n (k + 1)
def fact : Nat → Nat
  | 0 => 1
  | k + 1 => fact k * (k + 1)
/-- how many storeys t tries and g glasses find -/
def R (t : Nat) : Nat → Nat
  | 0 => 0
  | g + 1 => R t g + bin t (g + 1)
theorem bin_zero (n : Nat) : bin n 0 = 1 := by cases n <;> rfl
theorem bin_lt : ∀ {n k : Nat}, n < k → bin n k = 0
  | _, 0, h => absurd h (Nat.not_lt_zero _)
  | 0, _ + 1, _ => rfl
  | n + 1, k + 1, h => by
    show bin n k + bin n (k + 1) = 0
    rw [bin_lt (show n < k by omega), bin_lt (show n < k + 1 by omega)]
theorem bin_succ_mul : ∀ (n k : Nat), (n + 1) * bin n k = bin (n + 1) (k + 1) * (k + 1)
  | 0, 0 => rfl
  | 0, k + 1 => by
    show (0 + 1) * 0 = (bin 0 (k + 1) + bin 0 (k + 2)) * (k + 1 + 1)
    rw [bin_lt (show 0 < k + 1 by omega), bin_lt (show 0 < k + 2 by omega)]
    simp
  | n + 1, 0 => by
    have h : (n + 1) * bin n 0 = bin (n + 1) 1 * 1 := bin_succ_mul n 0
    rw [bin_zero] at h
    show (n + 1 + 1) * bin (n + 1) 0 = (bin (n + 1) 0 + bin (n + 1) 1) * (0 + 1)
    rw [bin_zero]
    omega
  | n + 1, k + 1 => by
    have h1 := bin_succ_mul n k
    have h2 := bin_succ_mul n (k + 1)
    have e : bin (n + 1 + 1) (k + 1 + 1) = bin (n + 1) (k + 1) + bin (n + 1) (k + 1 + 1) := rfl
    have e2 : bin (n + 1) (k + 1) = bin n k + bin n (k + 1) := rfl
    rw [e, Nat.add_mul (bin (n + 1) (k + 1)), ← h2, Nat.add_mul (n + 1) 1, Nat.mul_add (bin (n + 1) (k + 1)) (k + 1) 1, ← h1, Nat.one_mul, Nat.mul_one]
    have e3 : (n + 1) * bin (n + 1) (k + 1) = (n + 1) * bin n k + (n + 1) * bin n (k + 1) := by rw [e2, Nat.mul_add]
    omega
theorem bin_mul (n k : Nat) : bin n (k + 1) * (k + 1) = bin n k * (n - k) := by
  by_cases h : n < k
  · rw [bin_lt h, bin_lt (show n < k + 1 by omega)]
    simp
  · have h1 := bin_succ_mul n k
    have e : bin (n + 1) (k + 1) = bin n k + bin n (k + 1) := rfl
    rw [e, Nat.add_mul (bin n k)] at h1
    have e2 : n + 1 = (n - k) + (k + 1) := by omega
    have e3 : (n + 1) * bin n k = bin n k * (n - k) + bin n k * (k + 1) := by
      rw [Nat.mul_comm, ← Nat.mul_add, ← e2]
    omega
theorem bin_div (n k : Nat) : bin n k * (n - k) / (k + 1) = bin n (k + 1) := by
  rw [← bin_mul]
  exact Nat.mul_div_cancel _ (Nat.succ_pos k)
theorem fact_pos : ∀ k, 0 < fact k
  | 0 => Nat.one_pos
  | k + 1 => Nat.mul_pos (fact_pos k) (Nat.succ_pos k)
theorem above_step (t k : Nat) : bin t k * fact k * (t - k) = bin t (k + 1) * fact (k + 1) := by
  show _ = bin t (k + 1) * (fact k * (k + 1))
  rw [Nat.mul_right_comm, ← bin_mul, Nat.mul_right_comm, Nat.mul_assoc]
theorem above_div (t k : Nat) : bin t k * fact k / fact k = bin t k := Nat.mul_div_cancel _ (fact_pos k)
theorem above_le : ∀ (t k : Nat), bin t k * fact k ≤ t ^ k
  | t, 0 => by rw [bin_zero]; exact Nat.le_refl _
  | t, k + 1 => by
    rw [← above_step, Nat.pow_succ]
    exact Nat.mul_le_mul (above_le t k) (Nat.sub_le _ _)
theorem bin_le (t k : Nat) : bin t k ≤ t ^ k := Nat.le_trans (Nat.le_mul_of_pos_right _ (fact_pos k)) (above_le t k)
theorem fact_le : ∀ (k m : Nat), k ≤ m → fact k ≤ m ^ k
  | 0, _, _ => Nat.le_refl _
  | k + 1, m, h => by
    rw [Nat.pow_succ]
    exact Nat.mul_le_mul (fact_le k m (by omega)) h
theorem pow_bits {t k b : Nat} (h : t < 2 ^ b) : t ^ k < 2 ^ (b * k + 1) := by
  have h1 : t ^ k ≤ (2 ^ b) ^ k := Nat.pow_le_pow_left (Nat.le_of_lt h) k
  rw [← Nat.pow_mul] at h1
  exact Nat.lt_of_le_of_lt h1 (Nat.pow_lt_pow_right (by decide) (Nat.lt_succ_self _))
theorem bits_mono {n a b : Nat} (h : n < 2 ^ a) (hab : a ≤ b) : n < 2 ^ b := Nat.lt_of_lt_of_le h (Nat.pow_le_pow_right (by decide) hab)
/-- bounds in bits, by name so that nothing reckons the powers -/
def BB : Nat := 110000
def BF : Nat := 3601
theorem bin_bits {t k : Nat} (h : t < 2 ^ 256) (hk : k ≤ 400) : bin t k < 2 ^ BB :=
  bits_mono (Nat.lt_of_le_of_lt (bin_le t k) (pow_bits h)) (show 256 * k + 1 ≤ 110000 by omega)
theorem above_bits {t k : Nat} (h : t < 2 ^ 256) (hk : k ≤ 400) : bin t k * fact k < 2 ^ BB :=
  bits_mono (Nat.lt_of_le_of_lt (above_le t k) (pow_bits h)) (show 256 * k + 1 ≤ 110000 by omega)
theorem fact_bits {k : Nat} (hk : k ≤ 400) : fact k < 2 ^ BF := by
  have h : fact k ≤ 400 ^ k := fact_le k 400 hk
  exact bits_mono (Nat.lt_of_le_of_lt h (pow_bits (b := 9) (by decide))) (show 9 * k + 1 ≤ 3601 by omega)
/-! ### R -/
theorem R_zero_t : ∀ g, R 0 g = 0
  | 0 => rfl
  | g + 1 => by
    show R 0 g + bin 0 (g + 1) = 0
    rw [R_zero_t g]
    rfl
theorem R_one (t : Nat) : R t 1 = t := by
  show 0 + bin t 1 = t
  rw [Nat.zero_add]
  have h : bin t 1 * 1 = bin t 0 * (t - 0) := bin_mul t 0
  rw [bin_zero] at h
  omega
theorem R_pascal (t : Nat) : ∀ g, R (t + 1) (g + 1) = R t g + 1 + R t (g + 1)
  | 0 => by
    show 0 + (bin t 0 + bin t 1) = 0 + 1 + (0 + bin t 1)
    rw [bin_zero]
    omega
  | g + 1 => by
    have h := R_pascal t g
    have e1 : R (t + 1) (g + 1 + 1) = R (t + 1) (g + 1) + (bin t (g + 1) + bin t (g + 1 + 1)) := rfl
    have e2 : R t (g + 1 + 1) = R t (g + 1) + bin t (g + 1 + 1) := rfl
    have e3 : R t (g + 1) = R t g + bin t (g + 1) := rfl
    omega
theorem R_succ_g (t g : Nat) : R t g ≤ R t (g + 1) := Nat.le_add_right _ _
theorem R_mono_g (t : Nat) {g h : Nat} (l : g ≤ h) : R t g ≤ R t h := by
  induction h with
  | zero =>
    have : g = 0 := by omega
    subst this
    exact Nat.le_refl _
  | succ h ih =>
    by_cases e : g = h + 1
    · subst e
      exact Nat.le_refl _
    · exact Nat.le_trans (ih (by omega)) (R_succ_g t h)
theorem R_succ_t (t : Nat) : ∀ g, R t g ≤ R (t + 1) g
  | 0 => Nat.le_refl _
  | g + 1 => by
    rw [R_pascal]
    omega
theorem R_lt_t (t g : Nat) (h : 0 < g) : R t g < R (t + 1) g := by
  obtain ⟨k, rfl⟩ : ∃ k, g = k + 1 := ⟨g - 1, by omega⟩
  rw [R_pascal]
  omega
theorem R_mono_t {t u : Nat} (g : Nat) (l : t ≤ u) : R t g ≤ R u g := by
  induction u with
  | zero =>
    have : t = 0 := by omega
    subst this
    exact Nat.le_refl _
  | succ u ih =>
    by_cases e : t = u + 1
    · subst e
      exact Nat.le_refl _
    · exact Nat.le_trans (ih (by omega)) (R_succ_t u g)
theorem R_over (t : Nat) : ∀ {g : Nat}, t ≤ g → R t g = R t t
  | 0, h => by
    have : t = 0 := by omega
    subst this
    rfl
  | g + 1, h => by
    by_cases e : t = g + 1
    · subst e
      rfl
    · show R t g + bin t (g + 1) = _
      rw [bin_lt (show t < g + 1 by omega), R_over t (show t ≤ g by omega)]
      rfl
theorem R_min (t g : Nat) : R t (min t g) = R t g := by
  by_cases h : t ≤ g
  · rw [Nat.min_eq_left h, R_over t h]
  · rw [Nat.min_eq_right (by omega)]
theorem R_full : ∀ (t g : Nat), t ≤ g → R t g + 1 = 2 ^ t
  | 0, g, _ => by
    rw [R_zero_t]
  | t + 1, 0, h => absurd h (by omega)
  | t + 1, g + 1, h => by
    have h1 := R_full t g (by omega)
    have h2 := R_full t (g + 1) (by omega)
    rw [R_pascal, Nat.pow_succ]
    omega
theorem R_le_pow (t g : Nat) : R t g + 1 ≤ 2 ^ t := by
  have h1 : R t g ≤ R t (g + t) := R_mono_g t (by omega)
  have h2 := R_full t (g + t) (by omega)
  omega
theorem R_ge (t : Nat) {g : Nat} (h : 0 < g) : t ≤ R t g := by
  have h1 : R t 1 ≤ R t g := R_mono_g t h
  rw [R_one] at h1
  exact h1
theorem R_zero_iff {t g : Nat} (h : t = 0 ∨ g = 0) : R t g = 0 := by
  rcases h with rfl | rfl
  · exact R_zero_t g
  · rfl
theorem R_pos {t g : Nat} (h1 : 0 < t) (h2 : 0 < g) : 0 < R t g := Nat.lt_of_lt_of_le h1 (R_ge t h2)
theorem R_pas {t g : Nat} (h1 : 0 < t) (h2 : 0 < g) : R t g = R (t - 1) (g - 1) + 1 + R (t - 1) g := by
  obtain ⟨k, rfl⟩ : ∃ k, g = k + 1 := ⟨g - 1, by omega⟩
  obtain ⟨u, rfl⟩ : ∃ u, t = u + 1 := ⟨t - 1, by omega⟩
  exact R_pascal u k
theorem R_two (t : Nat) : R t 2 * 2 = t * (t + 1) := by
  have h := bin_mul t 1
  have h1 : bin t 1 = t := by
    have := R_one t
    have e : R t 1 = 0 + bin t 1 := rfl
    omega
  have e : R t 2 = R t 1 + bin t 2 := rfl
  rw [R_one] at e
  rw [h1] at h
  have e3 : t * (t + 1) = t * (t - 1) + t * 2 := by
    rw [← Nat.mul_add]
    cases t with
    | zero => rfl
    | succ n => rfl
  have e4 : bin t (1 + 1) = bin t 2 := rfl
  omega
/-! ### the fewest tries -/
def Fw (s g t : Nat) : Prop := s ≤ R t g ∧ (t = 0 ∨ R (t - 1) g < s)
theorem Fw.uniq {s g t u : Nat} (a : Fw s g t) (b : Fw s g u) : t = u := by
  have key : ∀ {x y : Nat}, Fw s g x → Fw s g y → ¬ x < y := fun {x y} p q l => by
    rcases q.2 with z | z
    · omega
    · have h1 : R x g ≤ R (y - 1) g := R_mono_t g (by omega)
      have h2 := p.1
      omega
  have h1 := key a b
  have h2 := key b a
  omega
theorem Fw.ex {s g : Nat} : ∀ n : Nat, s ≤ R n g → ∃ t, Fw s g t ∧ t ≤ n
  | 0, h => ⟨0, ⟨h, .inl rfl⟩, Nat.le_refl _⟩
  | n + 1, h => by
    by_cases c : s ≤ R n g
    · obtain ⟨t, ht, hl⟩ := Fw.ex n c
      exact ⟨t, ht, by omega⟩
    · exact ⟨n + 1, ⟨h, .inr (by show R n g < s; omega)⟩, Nat.le_refl _⟩
theorem Fw.exists {s g : Nat} (h : 0 < g ∨ s = 0) : ∃ t, Fw s g t := by
  rcases h with h | h
  · obtain ⟨t, ht, _⟩ := Fw.ex s (R_ge s h)
    exact ⟨t, ht⟩
  · subst h
    exact ⟨0, Nat.zero_le _, .inl rfl⟩
noncomputable def fw (s g : Nat) : Nat := @dite _ (∃ t, Fw s g t) (Classical.propDecidable _) (fun h => Classical.choose h) (fun _ => 0)
theorem fw_spec {s g : Nat} (h : 0 < g ∨ s = 0) : Fw s g (fw s g) := by
  have e := Fw.exists h
  unfold fw
  rw [dif_pos e]
  exact Classical.choose_spec e
theorem fw_eq {s g t : Nat} (h : Fw s g t) : fw s g = t := by
  have e : ∃ t, Fw s g t := ⟨t, h⟩
  have q : Fw s g (fw s g) := by
    unfold fw
    rw [dif_pos e]
    exact Classical.choose_spec e
  exact q.uniq h
theorem fw_le {s g n : Nat} (h : s ≤ R n g) : fw s g ≤ n := by
  obtain ⟨t, ht, hl⟩ := Fw.ex n h
  rw [fw_eq ht]
  exact hl
theorem fw_le_self {s g : Nat} (h : 0 < g ∨ s = 0) : fw s g ≤ s := by
  rcases h with h | h
  · exact fw_le (R_ge s h)
  · subst h
    exact fw_le (Nat.zero_le _)
/-! ### the fewest glasses -/
def Gw (s b g : Nat) : Prop := s ≤ R b g ∧ (g = 0 ∨ R b (g - 1) < s)
theorem Gw.uniq {s b g u : Nat} (a : Gw s b g) (c : Gw s b u) : g = u := by
  have key : ∀ {x y : Nat}, Gw s b x → Gw s b y → ¬ x < y := fun {x y} p q l => by
    rcases q.2 with z | z
    · omega
    · have h1 : R b x ≤ R b (y - 1) := R_mono_g b (by omega)
      have h2 := p.1
      omega
  have h1 := key a c
  have h2 := key c a
  omega
theorem Gw.ex {s b : Nat} : ∀ n : Nat, s ≤ R b n → ∃ t, Gw s b t ∧ t ≤ n
  | 0, h => ⟨0, ⟨h, .inl rfl⟩, Nat.le_refl _⟩
  | n + 1, h => by
    by_cases c : s ≤ R b n
    · obtain ⟨t, ht, hl⟩ := Gw.ex n c
      exact ⟨t, ht, by omega⟩
    · exact ⟨n + 1, ⟨h, .inr (by show R b n < s; omega)⟩, Nat.le_refl _⟩
/-! ### bits -/
def bl (s : Nat) : Nat := PySem.Builtin.Int.intBits ((s : Nat) : Int)
theorem bl_lt (s : Nat) : s < 2 ^ bl s := by
  unfold bl PySem.Builtin.Int.intBits
  split
  · rename_i e
    have e' : s = 0 := by
      have : (s : Int) = 0 := by simpa using e
      omega
    subst e'
    exact Nat.one_pos
  · rw [Int.natAbs_natCast]
    exact Nat.lt_log2_self
theorem bl_ge {s : Nat} (h : 0 < s) : 2 ^ (bl s - 1) ≤ s := by
  unfold bl PySem.Builtin.Int.intBits
  split
  · rename_i e
    have e' : (s : Int) = 0 := by simpa using e
    omega
  · rw [Int.natAbs_natCast, Nat.add_sub_cancel]
    exact Nat.log2_self_le (by omega)
theorem bl_le {s : Nat} (h : s ≤ 10 ^ 60) : bl s ≤ 200 := by
  by_cases h0 : 0 < s
  · have h1 := bl_ge h0
    by_cases c : bl s ≤ 200
    · exact c
    · have h2 : 2 ^ 200 ≤ 2 ^ (bl s - 1) := Nat.pow_le_pow_right (by decide) (by omega)
      have h3 : (10 : Nat) ^ 60 < 2 ^ 200 := by decide
      omega
  · have e : s = 0 := by omega
    subst e
    decide
theorem bl_enough {s g : Nat} (h : bl s ≤ g) : s ≤ R (bl s) g := by
  have h1 := R_full (bl s) g h
  have h2 := bl_lt s
  omega
theorem Gw.exists (s : Nat) : ∃ f, Gw s (bl s) f ∧ f ≤ bl s := Gw.ex (bl s) (bl_enough (Nat.le_refl _))
/-- with as many glasses as it takes the tries are the bits -/
theorem fw_bits {s f : Nat} (h : Gw s (bl s) f) (h0 : 0 < f) : fw s f = bl s := by
  refine fw_eq ⟨h.1, ?_⟩
  by_cases hb : bl s = 0
  · exact .inl hb
  · refine .inr ?_
    have hs : 0 < s := by
      by_cases e : s = 0
      · subst e
        exact absurd rfl hb
      · omega
    have h1 := R_le_pow (bl s - 1) f
    have h2 := bl_ge hs
    omega
theorem fw_zero (g : Nat) : fw 0 g = 0 := fw_eq ⟨Nat.zero_le _, .inl rfl⟩
end GF

namespace GF
open PySem L2 Evl
/-- a promise by a relation of the arguments and the value; what was tracked stands -/
def spP (r : List V → V → Prop) : Sp := fun vs H Q _ => ∃ v, r vs v ∧ ∀ H2, Ex H H2 → Q v H2
section
variable {K : PySem.W.Frag} {σ : L2.St} {H H' : Hp} {ta tb tc te : TE} {x y z v : V}
theorem ev_p {r : List V → V → Prop} {E : XK} {t : TA} {vs : List V} (h : EvA t σ H vs) (hr : r vs v) : Ev (tCall (spP r) [] E t) σ H v := by
  refine ev_call h ?_
  rw [List.append_nil]
  exact fun H1 _ Q q E => ⟨v, hr, fun H2 e2 => q H2 e2⟩
theorem rc_min2 {i j : Int} : RC (fun xs H Q => ∃ i j, xs = [V.int i, V.int j] ∧ Q (V.int (if j < i then j else i)) H) [.int i, .int j] H (.int (if j < i then j else i)) := fun H1 _ _ q => ⟨i, j, rfl, q H1 (Ex.refl H1)⟩
theorem rc_max2 {i j : Int} : RC (fun xs H Q => ∃ i j, xs = [V.int i, V.int j] ∧ Q (V.int (if j > i then j else i)) H) [.int i, .int j] H (.int (if j > i then j else i)) := fun H1 _ _ q => ⟨i, j, rfl, q H1 (Ex.refl H1)⟩
theorem rc_abs {i : Int} : RC (fun xs H Q => ∃ i, xs = [V.int i] ∧ Q (V.int (if i < 0 then -i else i)) H) [.int i] H (.int (if i < 0 then -i else i)) := fun H1 _ _ q => ⟨i, rfl, q H1 (Ex.refl H1)⟩
theorem rc_sum {a : Addr} {ns : List Int} (h : SqL K H a (ns.map V.int)) : RC (rSum K) [.ref a] H (.int ns.sum) := fun H1 e _ q => ⟨a, ns, rfl, ex_l e h, q H1 (Ex.refl H1)⟩
theorem rc_lenL {a : Addr} {xs : List V} (h : SqL K H a xs) : RC (fun xs H Q => ∃ p ys, xs = [V.ref p] ∧ (SqL K H p ys ∨ SqT K H p ys) ∧ Q (V.int (List.length ys : Nat)) H) [.ref a] H (.int (xs.length : Nat)) := fun H1 e _ q => ⟨a, xs, rfl, .inl (ex_l e h), q H1 (Ex.refl H1)⟩
theorem rc_isi {c : V} {t u : Value} {b : Bool} (hc : ClsV c u) (ht : ∀ H1, Ex H H1 → TyX K H1 x t) (hb : PySem.W.kitOne K t u = some b) : RC (rIsi K) [x, c] H (.bl b) := fun H1 e _ q => ⟨x, c, t, u, b, rfl, hc, ht H1 e, hb, q H1 (Ex.refl H1)⟩
theorem rc_isi_int {i : Int} {n : String} {b : Bool} (hb : kitB "int" n = some b) : RC (rIsi K) [.int i, .ty n] H (.bl b) := rc_isi (.ty n) (fun _ _ => .base (.int i)) (kit_ty hb)
theorem rc_isi_bl {i : Bool} {n : String} {b : Bool} (hb : kitB "bool" n = some b) : RC (rIsi K) [.bl i, .ty n] H (.bl b) := rc_isi (.ty n) (fun _ _ => .base (.bl i)) (kit_ty hb)
theorem rv_eqI {i j : Int} : RV rEq (.int i) (.int j) H (.bl (decide (i = j))) := fun H1 _ Q q => ⟨rfl, by
  have e : decide (V.int i = V.int j) = decide (i = j) := by
    by_cases h : i = j
    · subst h
      simp
    · rw [decide_eq_false h, decide_eq_false (fun z => h (V.int.inj z))]
  rw [e]
  exact q H1 (Ex.refl H1)⟩
theorem rv_neI {i j : Int} : RV rNe (.int i) (.int j) H (.bl (!decide (i = j))) := fun H1 _ Q q => ⟨rfl, by
  have e : decide (V.int i = V.int j) = decide (i = j) := by
    by_cases h : i = j
    · subst h
      simp
    · rw [decide_eq_false h, decide_eq_false (fun z => h (V.int.inj z))]
  rw [e]
  exact q H1 (Ex.refl H1)⟩
theorem rv_eqB {i j : Bool} : RV rEq (.bl i) (.bl j) H (.bl (decide (i = j))) := fun H1 _ Q q => ⟨rfl, by
  have e : decide (V.bl i = V.bl j) = decide (i = j) := by
    cases i <;> cases j <;> rfl
  rw [e]
  exact q H1 (Ex.refl H1)⟩
theorem rv_neB {i j : Bool} : RV rNe (.bl i) (.bl j) H (.bl (!decide (i = j))) := fun H1 _ Q q => ⟨rfl, by
  have e : decide (V.bl i = V.bl j) = decide (i = j) := by
    cases i <;> cases j <;> rfl
  rw [e]
  exact q H1 (Ex.refl H1)⟩
theorem ev_chain {r r' : R2} {a b : Bool} (ha : Ev ta σ H x) (hb : Ev tb σ H y) (hc : Ev tc σ H z) (h1 : RV r x y H (.bl a)) (h2 : a = true → RV r' y z H (.bl b)) : Ev (tChain r r' ta tb tc) σ H (.bl (a && b)) := fun H1 e Q q =>
  ha H1 e _ fun H2 e2 => hb H2 (e.trans e2) _ fun H3 e3 => h1 H3 ((e.trans e2).trans e3) _ fun H4 e4 => ⟨a, rfl, by
    cases a with
    | true =>
      show tc σ H4 fun w' H5 => r' y w' H5 Q
      exact hc H4 (((e.trans e2).trans e3).trans e4) _ fun H5 e5 => h2 rfl H5 ((((e.trans e2).trans e3).trans e4).trans e5) Q fun H6 e6 => q H6 ((((e2.trans e3).trans e4).trans e5).trans e6)
    | false =>
      show Q (.bl false) H4
      exact q H4 ((e2.trans e3).trans e4)⟩
/-- the tuple just made, an item of it -/
theorem ev_ixU {xs : List V} {i : Int} (ha : EvU ta σ H xs) (hb : Ev tb σ H (.int i)) (hx : atI xs i = some v) : Ev (tOp (rIxT K) ta tb) σ H v := fun H1 e Q q =>
  ha H1 e _ fun p H2 _ e2 hp => hb H2 (e.trans e2) _ fun H3 e3 => ⟨p, xs, i, v, rfl, rfl, .inl (.inl (e3 p _ hp)), hx, q H3 (e2.trans e3)⟩
variable {D : Ends} {tz tu : TS}
/-- x op= e where the rule asks something -/
theorem s_augC {i : Nat} {C : Int → Int → Prop} {f : Int → Int → Int} {a b : Int} (hx : σ[i]? = some (some (.int a))) (h : Ev te σ H (.int b)) (hc : C a b) (k : ∀ H1, Ex H H1 → D.nx (σ.set i (some (.int (f a b)))) H1) : tAug i te (rI C fun i j => .int (f i j)) D σ H :=
  ⟨.int a, hx, h H (Ex.refl H) _ fun H1 e => ⟨a, b, rfl, rfl, hc, k H1 e⟩⟩
/-- a, b = x, y -/
theorem s_par {i j : Nat} {t : TA} {u w : V} (h : EvA t σ H [u, w]) (k : ∀ H1, Ex H H1 → D.nx ((σ.set i (some u)).set j (some w)) H1) : tPar i j t D σ H := h H (Ex.refl H) _ fun H1 e => ⟨u, w, rfl, k H1 e⟩
theorem q_par {i j : Nat} {t : TA} {u w : V} (h : EvA t σ H [u, w]) (k : ∀ H1, Ex H H1 → tz D ((σ.set i (some u)).set j (some w)) H1) : tSeq (tPar i j t) tz D σ H := s_par (D := { D with nx := tz D }) h k
theorem s_par3 {i j l : Nat} {t : TA} {u w m : V} (h : EvA t σ H [u, w, m]) (k : ∀ H1, Ex H H1 → D.nx (((σ.set i (some u)).set j (some w)).set l (some m)) H1) : tPar3 i j l t D σ H := h H (Ex.refl H) _ fun H1 e => ⟨u, w, m, rfl, k H1 e⟩
theorem q_par3 {i j l : Nat} {t : TA} {u w m : V} (h : EvA t σ H [u, w, m]) (k : ∀ H1, Ex H H1 → tz D (((σ.set i (some u)).set j (some w)).set l (some m)) H1) : tSeq (tPar3 i j l t) tz D σ H := s_par3 (D := { D with nx := tz D }) h k
/-- a, b, c = (x, y, z), the tuple made -/
theorem s_asg3 {i j l : Nat} {u w m : V} (h : EvU te σ H [u, w, m]) (k : ∀ H1, Ex H H1 → D.nx (((σ.set i (some u)).set j (some w)).set l (some m)) H1) : tAsg te (gTup K 3 (gCons (gName i) (gCons (gName j) (gCons (gName l) gNil)))) D σ H :=
  h H (Ex.refl H) _ fun p H1 _ e hp => ⟨p, _, rfl, .inl (.inl hp), rfl, u, _, rfl, w, _, rfl, m, _, rfl, rfl, k H1 e⟩
theorem q_asg3 {i j l : Nat} {u w m : V} (h : EvU te σ H [u, w, m]) (k : ∀ H1, Ex H H1 → tz D (((σ.set i (some u)).set j (some w)).set l (some m)) H1) : tSeq (tAsg te (gTup K 3 (gCons (gName i) (gCons (gName j) (gCons (gName l) gNil))))) tz D σ H := s_asg3 (D := { D with nx := tz D }) h k
end
/-! ### numbers -/
theorem min_nat (t g : Nat) : (if (g : Int) < (t : Int) then (g : Int) else (t : Int)) = ((min t g : Nat) : Int) := by
  by_cases h : g < t
  · rw [if_pos (by omega), Nat.min_eq_right (by omega)]
  · rw [if_neg (by omega), Nat.min_eq_left (by omega)]
theorem sub_nat {t i : Nat} (h : i ≤ t) : (t : Int) - (i : Int) = ((t - i : Nat) : Int) := by omega
theorem nat_bits {n b : Nat} (h : n < 2 ^ b) : ((n : Int)).natAbs < 2 ^ b := by
  rw [Int.natAbs_natCast]
  exact h
end GF

namespace GF
open PySem L2 Evl
/-! ### lists of tuples -/
def TupsAt (H : Hp) (as : List Addr) (rows : List (List V)) : Prop := as.length = rows.length ∧ ∀ (i : Nat) (a : Addr) (r : List V), as[i]? = some a → rows[i]? = some r → H a = some (.tup r)
def ListT (H : Hp) (p : Addr) (rows : List (List V)) : Prop := ∃ as : List Addr, H p = some (.lst (as.map V.ref)) ∧ TupsAt H as rows
theorem TupsAt.mono {H H' : Hp} {as : List Addr} {rows : List (List V)} (h : TupsAt H as rows) (e : Ex H H') : TupsAt H' as rows := ⟨h.1, fun i a r h1 h2 => e _ _ (h.2 i a r h1 h2)⟩
theorem TupsAt.nil {H : Hp} : TupsAt H [] [] := ⟨rfl, fun i a r h => by simp at h⟩
theorem ListT.mono {H H' : Hp} {p : Addr} {rows : List (List V)} (h : ListT H p rows) (e : Ex H H') : ListT H' p rows := by
  obtain ⟨as, h1, h2⟩ := h
  exact ⟨as, e _ _ h1, h2.mono e⟩
theorem TupsAt.snoc {H : Hp} {as : List Addr} {rows : List (List V)} {a : Addr} {r : List V} (h : TupsAt H as rows) (ha : H a = some (.tup r)) : TupsAt H (as ++ [a]) (rows ++ [r]) := by
  refine ⟨by rw [List.length_append, List.length_append, h.1]; rfl, fun i b s h1 h2 => ?_⟩
  by_cases hi : i < as.length
  · rw [List.getElem?_append_left hi] at h1
    rw [List.getElem?_append_left (by rw [← h.1]; exact hi)] at h2
    exact h.2 i b s h1 h2
  · rw [List.getElem?_append_right (by omega)] at h1
    rw [List.getElem?_append_right (by rw [← h.1]; omega)] at h2
    by_cases h0 : i - as.length = 0
    · rw [h0] at h1
      rw [← h.1, h0] at h2
      have e1 : a = b := Option.some.inj h1
      have e2 : r = s := Option.some.inj h2
      rw [← e1, ← e2]
      exact ha
    · obtain ⟨m, hm⟩ : ∃ m, i - as.length = m + 1 := ⟨i - as.length - 1, by omega⟩
      rw [hm] at h1
      simp at h1
theorem TupsAt.cons {H : Hp} {as : List Addr} {rows : List (List V)} {a : Addr} {r : List V} (ha : H a = some (.tup r)) (h : TupsAt H as rows) : TupsAt H (a :: as) (r :: rows) := by
  refine ⟨by rw [List.length_cons, List.length_cons, h.1], fun i b s h1 h2 => ?_⟩
  cases i with
  | zero =>
    have e1 : a = b := Option.some.inj h1
    have e2 : r = s := Option.some.inj h2
    rw [← e1, ← e2]
    exact ha
  | succ i => exact h.2 i b s h1 h2
/-- a store to a list leaves the tuples -/
theorem TupsAt.upd {H : Hp} {as : List Addr} {rows : List (List V)} {l : Addr} {xs ys : List V} (h : TupsAt H as rows) (hl : H l = some (.lst xs)) : TupsAt (upd H l (.lst ys)) as rows := ⟨h.1, fun i a r h1 h2 => by
  have q := h.2 i a r h1 h2
  rw [upd_ne (ne_of q hl (by intro z; cases z))]
  exact q⟩
section
variable {K : PySem.W.Frag} {σ : L2.St} {H H' : Hp} {ta tb tc te tl : TE} {x y z v u w m : V} {D : Ends} {tz tu : TS} {g : TG}
/-- arguments that are new tuples -/
def EvAU (t : TA) (σ : L2.St) (H : Hp) (rows : List (List V)) : Prop := ∀ H1, Ex H H1 → ∀ Q : List V → Hp → Prop, (∀ as H2, Ex H1 H2 → TupsAt H2 as rows → Q (as.map V.ref) H2) → t σ H1 Q
theorem eau_nil : EvAU tNil σ H [] := fun H1 _ Q q => q [] H1 (Ex.refl H1) .nil
theorem eau_cons {tr : TA} {r : List V} {rows : List (List V)} (h : EvU te σ H r) (hr : EvAU tr σ H rows) : EvAU (tCons te tr) σ H (r :: rows) := fun H1 e Q q =>
  h H1 e _ fun p H2 _ e2 hp => hr H2 (e.trans e2) _ fun as H3 e3 h3 => q (p :: as) H3 (e2.trans e3) (.cons (e3 p _ hp) h3)
theorem at_row {H : Hp} {as : List Addr} {rows : List (List V)} {j : Nat} {r : List V} (h : TupsAt H as rows) (hj : rows[j]? = some r) : ∃ a, as[j]? = some a ∧ H a = some (.tup r) := by
  have hlt : j < as.length := by
    rw [h.1]
    exact (List.getElem?_eq_some_iff.mp hj).1
  exact ⟨as[j], List.getElem?_eq_getElem hlt, h.2 j _ r (List.getElem?_eq_getElem hlt) hj⟩
/-- unpacking a tuple of three -/
theorem g_3 {i j l : Nat} {T : Addr} {Q : L2.St → Hp → Prop} (h : H T = some (.tup [u, w, m])) (k : Q (((σ.set i (some u)).set j (some w)).set l (some m)) H) : gTup K 3 (gCons (gName i) (gCons (gName j) (gCons (gName l) gNil))) (.ref T) σ H Q :=
  ⟨T, _, rfl, .inl (.inl h), rfl, u, _, rfl, w, _, rfl, m, _, rfl, rfl, k⟩
theorem g_2 {i j : Nat} {T : Addr} {Q : L2.St → Hp → Prop} (h : H T = some (.tup [u, w])) (k : Q ((σ.set i (some u)).set j (some w)) H) : gTup K 2 (gCons (gName i) (gCons (gName j) gNil)) (.ref T) σ H Q :=
  ⟨T, _, rfl, .inl (.inl h), rfl, u, _, rfl, w, _, rfl, rfl, k⟩
/-- a, b, c = (.., .., ..)[k] -/
theorem q_menu3 {i j l : Nat} {t : TA} {rows : List (List V)} {k : Int} {n : Nat} (h : EvAU t σ H rows) (hi : Ev tb σ H (.int k)) (hz : rows.length ≤ 100000) (hk : k = (n : Int)) (hr : rows[n]? = some [u, w, m])
    (q : ∀ H1, Ex H H1 → tz D (((σ.set i (some u)).set j (some w)).set l (some m)) H1) :
    tSeq (tAsg (tOp (rIxT K) (tTup t) tb) (gTup K 3 (gCons (gName i) (gCons (gName j) (gCons (gName l) gNil))))) tz D σ H :=
  h H (Ex.refl H) _ fun as H1 e1 h1 => ⟨sz_of (by rw [List.length_map, h1.1]; exact hz), fun p hp => hi _ (e1.trans (Ex.new hp)) _ fun H2 e2 => by
    obtain ⟨a, ha, hta⟩ := at_row h1 hr
    have hap : H2 a = some (.tup [u, w, m]) := e2 _ _ (Ex.new hp a _ hta)
    refine ⟨p, as.map V.ref, k, .ref a, rfl, rfl, .inl (.inl (e2 _ _ upd_same)), ?_, g_3 hap (q H2 ((e1.trans (Ex.new hp)).trans e2))⟩
    subst hk
    exact atI_nat (by rw [List.getElem?_map, ha]; rfl)⟩
/-- a, b, c = x, [], z -/
theorem q_par3L {i j l : Nat} {xs : List V} (ha : Ev ta σ H u) (hl : EvL tl σ H xs) (hc : Ev tc σ H m) (k : ∀ p H1, H p = none → Ex H H1 → H1 p = some (.lst xs) → tz D (((σ.set i (some u)).set j (some (.ref p))).set l (some m)) H1) :
    tSeq (tPar3 i j l (tCons ta (tCons tl (tCons tc tNil)))) tz D σ H :=
  ha H (Ex.refl H) _ fun H1 e1 => hl H1 e1 _ fun p H2 hp e2 h2 => hc H2 (e1.trans e2) _ fun H3 e3 => ⟨u, .ref p, m, rfl, k p H3 (fresh_back e1 hp) ((e1.trans e2).trans e3) (e3 _ _ h2)⟩
/-- what follows is shown once -/
theorem q_rest {tu : TS} (J : L2.St → Hp → Prop) (h1 : ∀ σ' H', J σ' H' → tz D σ' H') (h2 : (∀ σ' H', J σ' H' → tz D σ' H') → tSeq tu tz D σ H) : tSeq tu tz D σ H := h2 h1
/-- what a call hands back, by a word -/
def EvN (te : TE) (σ : L2.St) (H : Hp) (Post : V → Hp → Prop) : Prop := ∀ H1, Ex H H1 → ∀ Q : VK, (∀ v H2, Ex H1 H2 → Post v H2 → Q v H2) → te σ H1 Q
/-- a promise by a word of the value and the heap behind; what was tracked stands -/
def spN (r : Hp → List V → (V → Hp → Prop) → Prop) : Sp := fun vs H Q _ => ∃ Post, r H vs Post ∧ ∀ v H2, Ex H H2 → Post v H2 → Q v H2
theorem en_call {r : Hp → List V → (V → Hp → Prop) → Prop} {E : XK} {t : TA} {vs : List V} {Post : V → Hp → Prop} (h : EvA t σ H vs) (hr : ∀ H1, Ex H H1 → r H1 vs Post) : EvN (tCall (spN r) [] E t) σ H Post := fun H1 e Q q =>
  h H1 e _ fun H2 e2 => by
    show spN r (vs ++ []) H2 Q E
    rw [List.append_nil]
    exact ⟨Post, hr H2 (e.trans e2), fun v H3 e3 hp => q v H3 (e2.trans e3) hp⟩
/-- the argument a new list -/
theorem en_callL {r : Hp → List V → (V → Hp → Prop) → Prop} {E : XK} {xs : List V} {Post : V → Hp → Prop} (h : EvL te σ H xs) (hr : ∀ p H1, Ex H H1 → H1 p = some (.lst xs) → r H1 [.ref p] Post) : EvN (tCall (spN r) [] E (tCons te tNil)) σ H Post := fun H1 e Q q =>
  h H1 e _ fun p H2 _ e2 hp => ⟨Post, hr p H2 (e.trans e2) hp, fun v H3 e3 hP => q v H3 (e2.trans e3) hP⟩
/-- the argument what another call hands back -/
theorem en_callN {r : Hp → List V → (V → Hp → Prop) → Prop} {E : XK} {Mid Post : V → Hp → Prop} (h : EvN te σ H Mid) (hr : ∀ v H1, Ex H H1 → Mid v H1 → r H1 [v] Post) : EvN (tCall (spN r) [] E (tCons te tNil)) σ H Post := fun H1 e Q q =>
  h H1 e _ fun p H2 e2 hp => ⟨Post, hr p H2 (e.trans e2) hp, fun v H3 e3 hP => q v H3 (e2.trans e3) hP⟩
theorem en_of (h : Ev te σ H v) : EvN te σ H (fun v' H' => v' = v ∧ Ex H H') := fun H1 e Q q => h H1 e _ fun H2 e2 => q v H2 e2 ⟨rfl, e.trans e2⟩
theorem q_asgN {i : Nat} {Post : V → Hp → Prop} (h : EvN te σ H Post) (k : ∀ v H1, Ex H H1 → Post v H1 → tz D (σ.set i (some v)) H1) : tSeq (tAsg te (gName i)) tz D σ H := h H (Ex.refl H) _ fun v H1 e hp => k v H1 e hp
theorem s_retN {Post : V → Hp → Prop} (h : EvN te σ H Post) (k : ∀ v H1, Ex H H1 → Post v H1 → D.rt v H1) : tRet te D σ H := h H (Ex.refl H) _ fun v H1 e hp => k v H1 e hp
/-- unpacking a pair of a thing and a tuple of three -/
theorem g_1_3 {i j l n : Nat} {T T2 : Addr} {Q : L2.St → Hp → Prop} (h : H T = some (.tup [x, .ref T2])) (h2 : H T2 = some (.tup [u, w, m])) (k : Q ((((σ.set n (some x)).set i (some u)).set j (some w)).set l (some m)) H) :
    gTup K 2 (gCons (gName n) (gCons (gTup K 3 (gCons (gName i) (gCons (gName j) (gCons (gName l) gNil)))) gNil)) (.ref T) σ H Q :=
  ⟨T, _, rfl, .inl (.inl h), rfl, x, _, rfl, .ref T2, _, rfl, T2, _, rfl, .inl (.inl h2), rfl, u, _, rfl, w, _, rfl, m, _, rfl, rfl, rfl, k⟩
/-- for i, row in enumerate(a list of tuples) -/
theorem s_enumRows {Post : V → Hp → Prop} (h : EvN tl σ H Post)
    (hs : ∀ v H1, Ex H H1 → Post v H1 → ∃ (p : Addr) (as : List Addr) (rows : List (List V)) (Pv : Nat → L2.St → Hp → Prop), v = .ref p ∧ H1 p = some (.lst (as.map V.ref)) ∧ TupsAt H1 as rows ∧ Pv 0 σ H1 ∧
      (∀ i σ' H', Pv i σ' H' → H' p = some (.lst (as.map V.ref)) ∧ TupsAt H' as rows) ∧
      (∀ (n : Nat) row σ' H' T T2, rows[n]? = some row → Pv n σ' H' → H' T = none → H' T2 = some (.tup row) → g (.ref T) σ' (upd H' T (.tup [.int (n : Int), .ref T2])) fun σ2 H2 => tu { D with nx := Pv (n + 1), ct := Pv (n + 1), bk := D.nx } σ2 H2) ∧
      (∀ σ' H', Pv rows.length σ' H' → D.nx σ' H')) : tFor (iEnum K (tCons tl tNil)) g tu D σ H :=
  h H (Ex.refl H) _ fun v H1 e1 hp => by
    obtain ⟨p, as, rows, Pv, rfl, hl, ht, h0, keep, turn, done⟩ := hs v H1 e1 hp
    refine ⟨p, as.map V.ref, rfl, sq_of hl, fun i m σ' H' => i + m = rows.length ∧ Pv i σ' H', ⟨rows.length, Nat.zero_add _, h0⟩, ?_⟩
    rintro i m σ' H' ⟨him, hv⟩
    obtain ⟨k1, k2⟩ := keep i σ' H' hv
    by_cases hi : i < rows.length
    · have hia : i < as.length := by rw [ht.1]; exact hi
      have ha : (as.map V.ref)[i]? = some (.ref as[i]) := by rw [List.getElem?_map, List.getElem?_eq_getElem hia]; rfl
      refine .inr ⟨⟨_, _, sq_of k1, ha⟩, Pv (i + 1), fun σ2 H2 hN => ⟨m - 1, by omega, by omega, hN⟩, ?_⟩
      rintro x H2 ⟨T, x2, rfl, hT, rfl, hx⟩
      have ex2 : x2 = .ref as[i] := Option.some.inj ((hx _ (sq_of k1)).symm.trans ha)
      subst ex2
      exact turn i rows[i] σ' H' T as[i] (List.getElem?_eq_getElem hi) hv hT (k2.2 i _ _ (List.getElem?_eq_getElem hia) (List.getElem?_eq_getElem hi))
    · have e : i = rows.length := by omega
      subst e
      exact .inl ⟨⟨_, sq_of k1, by rw [List.length_map, ht.1]; exact Nat.le_refl _⟩, done σ' H' hv⟩
theorem q_enumRows {Post : V → Hp → Prop} (h : EvN tl σ H Post)
    (hs : ∀ v H1, Ex H H1 → Post v H1 → ∃ (p : Addr) (as : List Addr) (rows : List (List V)) (Pv : Nat → L2.St → Hp → Prop), v = .ref p ∧ H1 p = some (.lst (as.map V.ref)) ∧ TupsAt H1 as rows ∧ Pv 0 σ H1 ∧
      (∀ i σ' H', Pv i σ' H' → H' p = some (.lst (as.map V.ref)) ∧ TupsAt H' as rows) ∧
      (∀ (n : Nat) row σ' H' T T2, rows[n]? = some row → Pv n σ' H' → H' T = none → H' T2 = some (.tup row) → g (.ref T) σ' (upd H' T (.tup [.int (n : Int), .ref T2])) fun σ2 H2 => tu { D with nx := Pv (n + 1), ct := Pv (n + 1), bk := tz D } σ2 H2) ∧
      (∀ σ' H', Pv rows.length σ' H' → tz D σ' H')) : tSeq (tFor (iEnum K (tCons tl tNil)) g tu) tz D σ H :=
  s_enumRows (D := { D with nx := tz D }) h hs
/-- a loop over a list of tuples that a call hands back -/
theorem s_forRows {Post : V → Hp → Prop} (h : EvN tl σ H Post) (Pv : Nat → L2.St → Prop) (h0 : Pv 0 σ)
    (hs : ∀ v H1, Ex H H1 → Post v H1 → ∃ (p : Addr) (rows : List (List V)), v = .ref p ∧ ListT H1 p rows ∧
      (∀ n row σ' H' T, rows[n]? = some row → Pv n σ' → Ex H1 H' → H' T = some (.tup row) → g (.ref T) σ' H' fun σ2 H2 => tu { D with nx := fun σ3 H3 => Pv (n + 1) σ3 ∧ Ex H1 H3, ct := fun σ3 H3 => Pv (n + 1) σ3 ∧ Ex H1 H3, bk := D.nx } σ2 H2) ∧
      (∀ σ' H', Pv rows.length σ' → Ex H1 H' → D.nx σ' H')) : tFor (iList K tl) g tu D σ H :=
  h H (Ex.refl H) _ fun v H1 e1 hp => by
    obtain ⟨p, rows, rfl, ⟨as, hl, ht⟩, turn, done⟩ := hs v H1 e1 hp
    refine ⟨p, rfl, ⟨_, sq_of hl⟩, for_list (K := K) (xs := as.map V.ref) (fun n σ' H' => Pv n σ' ∧ Ex H1 H') ⟨h0, Ex.refl H1⟩ (fun n σ' H' _ q => sq_of (q.2 _ _ hl)) ?_ ?_⟩
    · rintro n x σ' H' hx ⟨hv, e2⟩
      rw [List.getElem?_map] at hx
      cases ha : as[n]? with
      | none =>
        rw [ha] at hx
        cases hx
      | some T =>
        rw [ha] at hx
        have ex : V.ref T = x := Option.some.inj hx
        rw [← ex]
        have hlt : n < rows.length := by
          rw [← ht.1]
          exact (List.getElem?_eq_some_iff.mp ha).1
        exact turn n rows[n] σ' H' T (List.getElem?_eq_getElem hlt) hv e2 (e2 _ _ (ht.2 n T _ ha (List.getElem?_eq_getElem hlt)))
    · rintro σ' H' ⟨hv, e2⟩
      rw [List.length_map, ht.1] at hv
      exact done σ' H' hv e2
theorem q_forRows {Post : V → Hp → Prop} (h : EvN tl σ H Post) (Pv : Nat → L2.St → Prop) (h0 : Pv 0 σ)
    (hs : ∀ v H1, Ex H H1 → Post v H1 → ∃ (p : Addr) (rows : List (List V)), v = .ref p ∧ ListT H1 p rows ∧
      (∀ n row σ' H' T, rows[n]? = some row → Pv n σ' → Ex H1 H' → H' T = some (.tup row) → g (.ref T) σ' H' fun σ2 H2 => tu { D with nx := fun σ3 H3 => Pv (n + 1) σ3 ∧ Ex H1 H3, ct := fun σ3 H3 => Pv (n + 1) σ3 ∧ Ex H1 H3, bk := tz D } σ2 H2) ∧
      (∀ σ' H', Pv rows.length σ' → Ex H1 H' → tz D σ' H')) : tSeq (tFor (iList K tl) g tu) tz D σ H :=
  s_forRows (D := { D with nx := tz D }) h Pv h0 hs
end
/-! ### further values -/
section
variable {K : PySem.W.Frag} {σ : L2.St} {H H' : Hp} {ta tb tc te tl : TE} {t : TT} {x y z v : V} {D : Ends} {tz tu : TS}
theorem el_if {b : Bool} {xs : List V} (h : EvT t σ H b) (h1 : b = true → EvL ta σ H xs) (h2 : b = false → EvL tb σ H xs) : EvL (tIf t ta tb) σ H xs := fun H1 e Q q => h H1 e _ fun H2 e2 => by
  cases b with
  | true =>
    show ta σ H2 Q
    exact h1 rfl H2 (e.trans e2) Q fun p H3 hp e3 h3 => q p H3 (fresh_back e2 hp) (e2.trans e3) h3
  | false =>
    show tb σ H2 Q
    exact h2 rfl H2 (e.trans e2) Q fun p H3 hp e3 h3 => q p H3 (fresh_back e2 hp) (e2.trans e3) h3
theorem rv_eqS {i j : Str} : RV rEq (.str i) (.str j) H (.bl (decide (i = j))) := fun H1 _ Q q => ⟨rfl, by
  have e : decide (V.str i = V.str j) = decide (i = j) := by
    by_cases h : i = j
    · subst h
      simp
    · rw [decide_eq_false h, decide_eq_false (fun z => h (V.str.inj z))]
  rw [e]
  exact q H1 (Ex.refl H1)⟩
theorem rv_neS {i j : Str} : RV rNe (.str i) (.str j) H (.bl (!decide (i = j))) := fun H1 _ Q q => ⟨rfl, by
  have e : decide (V.str i = V.str j) = decide (i = j) := by
    by_cases h : i = j
    · subst h
      simp
    · rw [decide_eq_false h, decide_eq_false (fun z => h (V.str.inj z))]
  rw [e]
  exact q H1 (Ex.refl H1)⟩
/-- data at any depth stays -/
theorem dp_ex (e : Ex H H') {v : V} {d : PyData} (h : Dp K H v d) : Dp K H' v d :=
  Dp.rec (motive_1 := fun v d _ => Dp K H' v d) (motive_2 := fun vs ds _ => DpAll K H' vs ds) .non (fun b => .bl b) (fun i => .int i) (fun x => .str x) (fun hs _ ih => .lst (ex_l e hs) ih) (fun hs _ ih => .tup (ex_t e hs) ih) .nil (fun _ _ i1 i2 => .cons i1 i2) h
theorem rv_eqD {d f : PyData} (h1 : Dp K H x d) (h2 : Dp K H y f) (s1 : SeqAt.shaped d = true) (s2 : SeqAt.shaped f = true) : RV (rEqD K) x y H (.bl (PyData.eqv d f)) := fun H1 e _ q => ⟨d, f, dp_ex e h1, dp_ex e h2, s1, s2, q H1 (Ex.refl H1)⟩
theorem rv_neD {d f : PyData} (h1 : Dp K H x d) (h2 : Dp K H y f) (s1 : SeqAt.shaped d = true) (s2 : SeqAt.shaped f = true) : RV (rNeD K) x y H (.bl (!PyData.eqv d f)) := fun H1 e _ q => ⟨d, f, dp_ex e h1, dp_ex e h2, s1, s2, q H1 (Ex.refl H1)⟩
end
theorem cut63 (ns : List Int) : cutV (ns.map V.int) none (some 63) = (ns.take 63).map V.int := by
  unfold cutV
  rw [HT.sIx_none, show HT.sIx (ns.map V.int).length (ns.map V.int).length (some 63) = min 63 (ns.map V.int).length from HT.sIx_nat _ _ 63]
  rw [List.drop_zero, Nat.sub_zero, List.map_take, List.length_map]
  by_cases h : 63 ≤ ns.length
  · rw [Nat.min_eq_left h]
  · rw [Nat.min_eq_right (by omega), List.take_of_length_le (by rw [List.length_map]; omega), List.take_of_length_le (by rw [List.length_map]; omega)]
theorem cutTake (xs : List V) (n : Nat) : cutV xs none (some (n : Int)) = xs.take n := by
  unfold cutV
  rw [HT.sIx_none, show HT.sIx xs.length xs.length (some (n : Int)) = min n xs.length from HT.sIx_nat _ _ n, List.drop_zero, Nat.sub_zero]
  by_cases h : n ≤ xs.length
  · rw [Nat.min_eq_left h]
  · rw [Nat.min_eq_right (by omega), List.take_of_length_le (Nat.le_refl _), List.take_of_length_le (by omega)]
theorem TupsAt.take {H : Hp} {as : List Addr} {rows : List (List V)} (h : TupsAt H as rows) (n : Nat) : TupsAt H (as.take n) (rows.take n) := by
  refine ⟨by rw [List.length_take, List.length_take, h.1], fun i a r h1 h2 => ?_⟩
  rw [List.getElem?_take] at h1 h2
  split at h1
  · rename_i hi
    rw [if_pos hi] at h2
    exact h.2 i a r h1 h2
  · cases h1
theorem tup_stays {H : Hp} {a l : Addr} {r xs ys : List V} (h : H a = some (.tup r)) (hl : H l = some (.lst xs)) : upd H l (.lst ys) a = some (.tup r) := by
  rw [upd_ne (ne_of h hl (by intro z; cases z))]
  exact h
theorem args2 {a b c d : Int} (h1 : a = b) (h2 : c = d) : [V.int a, V.int c] = [V.int b, V.int d] := by rw [h1, h2]
theorem args1 {a b : Int} (h1 : a = b) : [V.int a] = [V.int b] := by rw [h1]
theorem args3 {a b c d e f : Int} (h1 : a = b) (h2 : c = d) (h3 : e = f) : [V.int a, V.int c, V.int e] = [V.int b, V.int d, V.int f] := by rw [h1, h2, h3]
end GF

namespace GF
open PySem L2 Evl
/-! ### one of two readings -/
def tAlt (t t' : TE) : TE := fun σ H Q => t σ H Q ∨ t' σ H Q
theorem pe_alt {X : Cx} {e : Expr} {t t' : TE} (h : PE X e t) (h' : PE X e t') : PE X e (tAlt t t') := ⟨fun pins s σ H Q I q => q.elim (fun z => h.run pins s σ H Q I z) fun z => h'.run pins s σ H Q I z⟩
/-! ### C(), C a class without __init__ -/
structure MkN (K : PySem.W.Frag) (C : Addr) : Prop where
  makes : PySem.W.makesIn K C = true
  init : PySem.W.findIn K (.ref C) "__init__" = some (some (.builtin "object.__init__"))
  kp : PySem.W.keepIn K (.ref C) = true
def tMakeN (C : Addr) : TE := fun _ H Q => ∀ x dx, H x = none → H dx = none → dx ≠ x → Q (.ref x) (upd (upd H dx (.own x)) x (.ins C dx []))
theorem run_makeN {X : Cx} {C : Addr} {pins : List (Addr × Obj)} {σ : L2.St} {H : Hp} {s : Shared} {Q : VK} (M : MkN X.K C) (I : Inv X pins σ H s) (h : tMakeN C σ H Q) :
    wpAny (model X.prog X.w) X.A (call (.ref C) []) (EP X pins σ Q) X.xe s := by
  have hq := h (s.heap.objs.size + 1) s.heap.objs.size (I.hok.fresh (Nat.le_succ _)) (I.hok.fresh (Nat.le_refl _)) (Nat.ne_of_lt (Nat.lt_succ_self _))
  have I2 := Inv.made (C := C) I
  have KX := I.kIn
  obtain ⟨hh, g, d, t, os⟩ := s
  have Y := PySem.W.makes_of (M := model X.prog X.w) KX M.makes
  refine wpAny_call (PySem.W.make_core Y (PySem.W.looks_findIn KX M.init) (fun self => PySem.W.Looks.of_pure (PySem.W.oi_bind self)) (.inr ⟨rfl, rfl⟩) ?_)
  have hx : ((hh.push PySem.W.emptyDict).push (PySem.W.instObj C hh.objs.size)).get? (hh.objs.size + 1) = some (PySem.W.instObj C hh.objs.size) := by
    have := Heap.get?_push_size (hh.push PySem.W.emptyDict) (o := PySem.W.instObj C hh.objs.size) rfl
    rwa [Heap.size_push] at this
  have l1 : PySem.W.Looks (model X.prog X.w) ((hh.push PySem.W.emptyDict).push (PySem.W.instObj C hh.objs.size)) (typeOf (.ref (hh.objs.size + 1))) (.ref C) := (PySem.W.Looks.ld hx).andThen .now
  have l2 : PySem.W.Looks (model X.prog X.w) ((hh.push PySem.W.emptyDict).push (PySem.W.instObj C hh.objs.size)) (isInstance (.ref (hh.objs.size + 1)) (.type "object")) true :=
    l1.andThen (Y.top.keeps fun b o e => Heap.get?_push_of_some _ (Heap.get?_push_of_some _ e))
  refine codeAny_call_builtin PySem.W.oi_plain PySem.W.entry_oi (@PySem.W.check_slot (model X.prog X.w) _ _ _ "object.__init__" "object" "__init__" (.ref (hh.objs.size + 1)) [] [] _ PySem.W.oi_kind PySem.W.oi_split l2 (PySem.W.oi_args (.ref (hh.objs.size + 1))) ?_)
  rw [PySem.W.oi_run]
  exact wpAny_pure ⟨rfl, .ref (hh.objs.size + 1), _, I2, rfl, hq⟩
theorem pe_makeN {X : Cx} {C : Addr} {x : Str} {p pos : Pos} (M : MkN X.K C) (hg : Gl X x) (hm : X.mg x = some (.ref C)) (hdb : (x == ("__debug__" : Str)) = false := by decide) : PE X (.Call (.Name x p) [] [] pos) (tMakeN C) := by
  refine ⟨fun pins s σ H Q I h => ?_⟩
  exact wpAny_Call_Name_kw (ld_glob I hg hm (PySem.W.callWith_K0 I.kIn M.kp (run_makeN M I h)) hdb)
/-! ### values that are new instances -/
def EvI (te : TE) (σ : L2.St) (H : Hp) (C : Addr) (fs : List (Str × V)) : Prop := ∀ H1, Ex H H1 → ∀ Q : VK, (∀ p dx H2, H1 p = none → Ex H1 H2 → H2 p = some (.ins C dx fs) → Q (.ref p) H2) → te σ H1 Q
/-- a promise by a relation of the heap, the arguments and the value -/
def spH (r : Hp → List V → V → Prop) : Sp := fun vs H Q _ => ∃ v, r H vs v ∧ ∀ H2, Ex H H2 → Q v H2
/-- __init__ that stores one field -/
def spInit (C : Addr) (f : Str) : Sp := fun vs H Q _ => ∃ (x dx : Addr) (v : V), vs = [.ref x, v] ∧ H x = some (.ins C dx []) ∧ Q .non (upd H x (.ins C dx [(f, v)]))
theorem look_same {f : Str} {v : V} : ([(f, v)] : List (Str × V)).lookup f = some v := by simp [List.lookup]
theorem look_other {f g : Str} {v : V} (h : (g == f) = false) : ([(f, v)] : List (Str × V)).lookup g = none := by simp [List.lookup, h]
section
variable {K : PySem.W.Frag} {σ : L2.St} {H H' : Hp} {ta tb tc te tl : TE} {x y z v : V} {C : Addr} {fs : List (Str × V)}
theorem ev_alt1 {t t' : TE} (h : Ev t σ H v) : Ev (tAlt t t') σ H v := fun H1 e Q q => .inl (h H1 e Q q)
theorem ev_alt2 {t t' : TE} (h : Ev t' σ H v) : Ev (tAlt t t') σ H v := fun H1 e Q q => .inr (h H1 e Q q)
theorem ei_makeN : EvI (tMakeN C) σ H C [] := fun H1 _ Q q x dx hx hdx ne => by
  have n2 : upd H1 dx (.own x) x = none := by
    rw [upd_ne (Ne.symm ne)]
    exact hx
  exact q x dx _ hx ((Ex.new hdx).trans (Ex.new n2)) upd_same
theorem ei_make {f : Str} {E : XK} {t : TA} (h : EvA t σ H [v]) : EvI (tMake C (spInit C f) [] E t) σ H C [(f, v)] := fun H1 e Q q => h H1 e _ fun H2 e2 x dx hx hdx ne => by
  have n2 : upd H2 dx (.own x) x = none := by
    rw [upd_ne (Ne.symm ne)]
    exact hx
  refine ⟨x, dx, v, rfl, upd_same, rfl, ?_⟩
  rw [upd_upd]
  exact q x dx _ (fresh_back e2 hx) (e2.trans ((Ex.new hdx).trans (Ex.new n2))) upd_same
theorem ev_h {r : Hp → List V → V → Prop} {E : XK} {t : TA} {vs : List V} (h : EvA t σ H vs) (hr : ∀ H1, Ex H H1 → r H1 vs v) : Ev (tCall (spH r) [] E t) σ H v := by
  refine ev_call h ?_
  rw [List.append_nil]
  exact fun H1 e1 Q q E => ⟨v, hr H1 e1, fun H2 e2 => q H2 e2⟩
theorem ev_meth {r : Hp → List V → V → Prop} {m : Str} {E : XK} {t : TA} {vs : List V} {a dx : Addr} (ha : Ev ta σ H (.ref a)) (hi : H a = some (.ins C dx fs)) (hl : fs.lookup m = none) (h : EvA t σ H vs) (hr : ∀ H1, Ex H H1 → r H1 (.ref a :: vs) v) :
    Ev (tMeth C m (spH r) [] E ta t) σ H v := fun H1 e Q q => ha H1 e _ fun H2 e2 => ⟨a, dx, fs, rfl, e2 _ _ (e _ _ hi), hl, h H2 (e.trans e2) _ fun H3 e3 => by
  rw [List.append_nil]
  exact ⟨v, hr H3 ((e.trans e2).trans e3), fun H4 e4 => q H4 ((e2.trans e3).trans e4)⟩⟩
/-- the receiver just made -/
theorem ev_methI {r : Hp → List V → V → Prop} {m : Str} {E : XK} {t : TA} {vs : List V} (ha : EvI ta σ H C fs) (hl : fs.lookup m = none) (h : EvA t σ H vs) (hr : ∀ a dx H1, Ex H H1 → H1 a = some (.ins C dx fs) → r H1 (.ref a :: vs) v) :
    Ev (tMeth C m (spH r) [] E ta t) σ H v := fun H1 e Q q => ha H1 e _ fun a dx H2 _ e2 h2 => ⟨a, dx, fs, rfl, h2, hl, h H2 (e.trans e2) _ fun H3 e3 => by
  rw [List.append_nil]
  exact ⟨v, hr a dx H3 ((e.trans e2).trans e3) (e3 _ _ h2), fun H4 e4 => q H4 ((e2.trans e3).trans e4)⟩⟩
theorem ev_fld {f : Str} {a dx : Addr} (ha : Ev ta σ H (.ref a)) (hi : H a = some (.ins C dx fs)) (hc : Cls K C) (hn : NoAttr K C f) (hl : fs.lookup f = some v) : Ev (tFld K ta f) σ H v := fun H1 e Q q =>
  ha H1 e _ fun H2 e2 => ⟨a, C, dx, fs, v, rfl, e2 _ _ (e _ _ hi), hc, hn, hl, q H2 e2⟩
variable {D : Ends} {tz : TS}
theorem s_asgI {i : Nat} (h : EvI te σ H C fs) (k : ∀ p dx H1, H p = none → Ex H H1 → H1 p = some (.ins C dx fs) → D.nx (σ.set i (some (.ref p))) H1) : tAsg te (gName i) D σ H := h H (Ex.refl H) _ k
theorem q_asgI {i : Nat} (h : EvI te σ H C fs) (k : ∀ p dx H1, H p = none → Ex H H1 → H1 p = some (.ins C dx fs) → tz D (σ.set i (some (.ref p))) H1) : tSeq (tAsg te (gName i)) tz D σ H := h H (Ex.refl H) _ k
theorem s_retI (h : EvI te σ H C fs) (k : ∀ p dx H1, H p = none → Ex H H1 → H1 p = some (.ins C dx fs) → D.rt (.ref p) H1) : tRet te D σ H := h H (Ex.refl H) _ k
theorem rv_notBl {a b : Bool} : RV rNotB (.bl a) (.bl b) H (.bl (!decide (a = b))) := fun H1 _ _ q => ⟨a, b, rfl, rfl, q H1 (Ex.refl H1)⟩
end
section
variable {K : PySem.W.Frag} {σ : L2.St} {H H' : Hp} {ta tb tc te tl : TE} {x y z v : V} {D : Ends} {tz : TS}
theorem en_callNW {r : Hp → List V → (V → Hp → Prop) → Prop} {E : XK} {Mid Post : V → Hp → Prop} (h : EvN te σ H Mid) (hr : ∀ v H1, Ex H H1 → Mid v H1 → ∃ P', r H1 [v] P' ∧ ∀ v' H2, P' v' H2 → Post v' H2) : EvN (tCall (spN r) [] E (tCons te tNil)) σ H Post := fun H1 e Q q =>
  h H1 e _ fun p H2 e2 hp => by
    obtain ⟨P', h1, h2⟩ := hr p H2 (e.trans e2) hp
    exact ⟨P', h1, fun v H3 e3 hP => q v H3 (e2.trans e3) (h2 v H3 hP)⟩
theorem ev_cbN {r : List V → Hp → VK → Prop} {c : V} {Post : V → Hp → Prop} (h : EvN ta σ H Post) (hr : ∀ v H1, Ex H H1 → Post v H1 → RC r [v, c] H1 z) : Ev (tCB r (tCons ta (tCons (tC c) tNil))) σ H z := fun H1 e Q q =>
  h H1 e _ fun v H2 e2 hp => hr v H2 (e.trans e2) hp H2 (Ex.refl H2) Q fun H3 e3 => q H3 (e2.trans e3)
theorem q_parN {i j : Nat} {P1 P2 : V → Hp → Prop} (ha : EvN ta σ H P1) (hb : EvN tb σ H P2) (k : ∀ v w H1 H2, Ex H H1 → P1 v H1 → Ex H1 H2 → P2 w H2 → tz D ((σ.set i (some v)).set j (some w)) H2) : tSeq (tPar i j (tCons ta (tCons tb tNil))) tz D σ H :=
  ha H (Ex.refl H) _ fun v H1 e1 h1 => hb H1 e1 _ fun w H2 e2 h2 => ⟨v, w, rfl, k v w H1 H2 e1 h1 e2 h2⟩
/-- a new list of new tuples -/
theorem en_lstT {t : TA} {rows : List (List V)} (h : EvAU t σ H rows) (hz : rows.length ≤ 100000) : EvN (tLst t) σ H (fun v H2 => ∃ p, v = .ref p ∧ H p = none ∧ ListT H2 p rows) := fun H1 e Q q =>
  h H1 e _ fun as H2 e2 h2 => ⟨sz_of (by rw [List.length_map, h2.1]; exact hz), fun p hp => q _ _ (e2.trans (Ex.new hp)) ⟨p, rfl, fresh_back e (fresh_back e2 hp), as, upd_same, h2.mono (Ex.new hp)⟩⟩
/-- two lists of tuples, one behind the other -/
theorem en_cat {l : Addr} {rows rows2 : List (List V)} {P : Addr → Hp → Prop} (ha : Ev ta σ H (.ref l)) (hl : ListT H l rows) (hb : EvN tb σ H (fun v H2 => ∃ p, v = .ref p ∧ H p = none ∧ ListT H2 p rows2)) (hz : rows.length + rows2.length ≤ 100000) :
    EvN (tOp rCat ta tb) σ H (fun v H2 => ∃ p, v = .ref p ∧ H p = none ∧ ListT H2 p (rows ++ rows2)) := fun H1 e Q q => ha H1 e _ fun H2 e2 => hb H2 (e.trans e2) _ fun v H3 e3 hv => by
  obtain ⟨b, rfl, _, bs, hb1, hb2⟩ := hv
  obtain ⟨as, ha1, ha2⟩ := hl.mono ((e.trans e2).trans e3)
  refine ⟨l, b, as.map V.ref, bs.map V.ref, rfl, rfl, ha1, hb1, sz_of (by rw [List.length_map, List.length_map, ha2.1, hb2.1]; exact hz), fun p hp => q _ _ ((e2.trans e3).trans (Ex.new hp)) ⟨p, rfl, fresh_back ((e.trans e2).trans e3) hp, as ++ bs, ?_, ?_⟩⟩
  · rw [List.map_append]
    exact upd_same
  · have a3 := ha2.mono (Ex.new hp (o := .lst (as.map V.ref ++ bs.map V.ref)))
    have b3 := hb2.mono (Ex.new hp (o := .lst (as.map V.ref ++ bs.map V.ref)))
    refine ⟨by rw [List.length_append, List.length_append, a3.1, b3.1], fun i a r h1 h2 => ?_⟩
    by_cases hi : i < as.length
    · rw [List.getElem?_append_left hi] at h1
      rw [List.getElem?_append_left (by rw [← a3.1]; exact hi)] at h2
      exact a3.2 i a r h1 h2
    · rw [List.getElem?_append_right (by omega)] at h1
      rw [List.getElem?_append_right (by rw [← a3.1]; omega), ← a3.1] at h2
      exact b3.2 _ a r h1 h2
end
section
variable {K : PySem.W.Frag} {σ : L2.St} {H H' : Hp} {ta tb tc te tl : TE} {x y z v : V}
theorem et_yes : EvT tYes σ H true := fun H1 _ _ q => q H1 (Ex.refl H1)
theorem given_all (xs : List V) (F : V → V) : given xs.length (fun _ => true) (fun i => F (xs.getD i .non)) = xs.map F := by
  unfold given
  apply List.ext_getElem?
  intro i
  rw [List.filter_eq_self.mpr (fun _ _ => rfl), List.getElem?_map, List.getElem?_map]
  by_cases h : i < xs.length
  · rw [List.getElem?_range h, List.getElem?_eq_getElem h]
    show some (F (xs.getD i .non)) = some (F xs[i])
    rw [List.getD_eq_getElem?_getD, List.getElem?_eq_getElem h]
    rfl
  · rw [List.getElem?_eq_none (by rw [List.length_range]; omega), List.getElem?_eq_none (by omega)]
    rfl
/-- [e for x in xs] -/
theorem el_mapL {a : Addr} {xs : List V} {j : Nat} {vs : List Nat} {F : V → V} (h : Ev tl σ H (.ref a)) (hx : SqL K H a xs) (hz : xs.length ≤ 40000) (hw : ∀ x, wipe ((wipe σ vs).set j (some x)) vs = wipe σ vs)
    (he : ∀ x, x ∈ xs → ∀ H1, Ex H H1 → Ev te ((wipe σ vs).set j (some x)) H1 (F x)) : EvL (tLc (iList K tl) (gName j) tYes te vs) σ H (xs.map F) := by
  have q := el_lcL (K := K) (te := te) (t := tYes) (fun _ => true) (fun i => F (xs.getD i .non)) h hx hz hw (fun _ _ _ _ _ => et_yes) (fun i x H1 e1 hi _ => by
    have e : xs.getD i .non = x := by
      rw [List.getD_eq_getElem?_getD, hi]
      rfl
    show Ev te _ H1 (F (xs.getD i .non))
    rw [e]
    exact he x (List.mem_of_getElem? hi) H1 e1)
  rw [given_all] at q
  exact q
theorem ev_allL {bs : List Bool} (h : EvL ta σ H (bs.map V.bl)) : Ev (tCB (rAll K) (tCons ta tNil)) σ H (.bl (bs.all id)) := fun H1 e Q q => h H1 e _ fun p H2 _ e2 h2 => ⟨p, bs, rfl, sq_of h2, q H2 e2⟩
theorem ev_anyL {bs : List Bool} (h : EvL ta σ H (bs.map V.bl)) : Ev (tCB (rAny K) (tCons ta tNil)) σ H (.bl (bs.any id)) := fun H1 e Q q => h H1 e _ fun p H2 _ e2 h2 => ⟨p, bs, rfl, sq_of h2, q H2 e2⟩
theorem ev_lenNew {xs : List V} (h : EvL ta σ H xs) : Ev (tCB (fun xs H Q => ∃ p ys, xs = [V.ref p] ∧ (SqL K H p ys ∨ SqT K H p ys) ∧ Q (V.int (List.length ys : Nat)) H) (tCons ta tNil)) σ H (.int (xs.length : Nat)) := fun H1 e Q q => h H1 e _ fun p H2 _ e2 h2 => ⟨p, xs, rfl, .inl (sq_of h2), q H2 e2⟩
theorem el_catL {l : Addr} {xs ys : List V} (ha : Ev ta σ H (.ref l)) (hl : H l = some (.lst xs)) (hb : EvL tb σ H ys) (hz : xs.length + ys.length ≤ 100000) : EvL (tOp rCat ta tb) σ H (xs ++ ys) := fun H1 e Q q => ha H1 e _ fun H2 e2 => hb H2 (e.trans e2) _ fun b H3 _ e3 h3 =>
  ⟨l, b, xs, ys, rfl, rfl, e3 _ _ (e2 _ _ (e _ _ hl)), h3, sz_of hz, fun p hp => q p _ (fresh_back (e2.trans e3) hp) ((e2.trans e3).trans (Ex.new hp)) upd_same⟩
end
/-- what isinstance asks of a class of one's own -/
structure TyI (K : PySem.W.Frag) (C : Addr) : Prop where
  cl : Cls K C
  ha : PySem.W.findIn K (.ref C) "__class__" = some (some (.builtin "object.__class__"))
  hn : PySem.W.specialIn K (.builtin "object.__class__") "__get__" = some (some (.builtin "getset_descriptor.__get__"))
  htk : PySem.W.takesIn K (.builtin "object.__class__") = some true
  hm : PySem.W.mroIn K C (.type "object") = some true
theorem rc_isi_ins {K : PySem.W.Frag} {H : Hp} {a C C' dx : Addr} {fs : List (Str × V)} {b : Bool} (t : TyI K C) (h : H a = some (.ins C dx fs)) (hb : PySem.W.kitOne K (.ref C) (.ref C') = some b) : RC (rIsi K) [.ref a, .ref C'] H (.bl b) :=
  rc_isi (.own C') (fun H1 e => .base (.ins (e _ _ h) t.cl t.ha t.hn t.htk t.hm)) hb
end GF

namespace GF
open PySem L2 Evl
def topS (i : Nat) : Stmt := PySem.Challenge.pw_glassfall_k06_answers_by_hand.main.body.getD i (.Pass ⟨0, 0, 0, 0⟩)
abbrev s_reached : Stmt := topS 1
theorem sc_reached : FnScope ["tries", "glasses", "total", "ways", "picked"] ["tries", "glasses"] (defScope s_reached) := ⟨rfl, rfl, rfl, by decide +kernel, rfl, by decide +kernel, by decide +kernel⟩
abbrev s_Done_shows : Stmt := inClass (topS 4) 0
theorem sc_Done_shows : FnScope ["self", "storeys", "glasses", "tries"] ["self", "storeys", "glasses", "tries"] (defScope s_Done_shows) := ⟨rfl, rfl, rfl, by decide +kernel, rfl, by decide +kernel, by decide +kernel⟩
abbrev s_Next__init : Stmt := inClass (topS 5) 0
theorem sc_Next__init : FnScope ["self", "storey"] ["self", "storey"] (defScope s_Next__init) := ⟨rfl, rfl, rfl, by decide +kernel, rfl, by decide +kernel, by decide +kernel⟩
abbrev s_Next_shows : Stmt := inClass (topS 5) 1
theorem sc_Next_shows : FnScope ["self", "storeys", "glasses", "tries"] ["self", "storeys", "glasses", "tries"] (defScope s_Next_shows) := ⟨rfl, rfl, rfl, by decide +kernel, rfl, by decide +kernel, by decide +kernel⟩
abbrev s_Short__init : Stmt := inClass (topS 6) 0
theorem sc_Short__init : FnScope ["self", "most"] ["self", "most"] (defScope s_Short__init) := ⟨rfl, rfl, rfl, by decide +kernel, rfl, by decide +kernel, by decide +kernel⟩
abbrev s_Short_shows : Stmt := inClass (topS 6) 1
theorem sc_Short_shows : FnScope ["self", "storeys", "glasses", "tries"] ["self", "storeys", "glasses", "tries"] (defScope s_Short_shows) := ⟨rfl, rfl, rfl, by decide +kernel, rfl, by decide +kernel, by decide +kernel⟩
abbrev s_law_reach : Stmt := topS 8
theorem sc_law_reach : FnScope ["_law_tries", "_law_glasses", "_law_total", "_law_above", "_law_below", "_law_k"] ["_law_tries", "_law_glasses"] (defScope s_law_reach) := ⟨rfl, rfl, rfl, by decide +kernel, rfl, by decide +kernel, by decide +kernel⟩
abbrev s_law_states : Stmt := topS 9
theorem sc_law_states : FnScope ["_law_script", "_law_code", "_law_found", "_law_many", "_law_most", "_law_kinds", "_law_long", "_law_at", "_law_one", "_law_two", "_law_three", "_law_part", "_law_rest"] ["_law_script"] (defScope s_law_states) := ⟨rfl, rfl, rfl, by decide +kernel, rfl, by decide +kernel, by decide +kernel⟩
abbrev s_law_near : Stmt := topS 10
theorem sc_law_near : FnScope ["_law_states_here", "_law_found", "_law_at", "_law_storeys", "_law_glasses", "_law_tries", "_law_most_found"] ["_law_states_here"] (defScope s_law_near) := ⟨rfl, rfl, rfl, by decide +kernel, rfl, by decide +kernel, by decide +kernel⟩
abbrev s_law_says : Stmt := topS 11
theorem sc_law_says : FnScope ["_law_said", "_law_due"] ["_law_said", "_law_due"] (defScope s_law_says) := ⟨rfl, rfl, rfl, by decide +kernel, rfl, by decide +kernel, by decide +kernel⟩
abbrev s_law : Stmt := topS 12
theorem sc_law : FnScope ["_law_script", "_law_at", "_law_storeys", "_law_glasses", "_law_tries", "_law_cell", "_law_most_found", "_law_first", "_law_above", "_law_storey", "_law_due", "_law_made", "_law_most", "_law_good", "_law_bad", "_law_said"] ["_law_script"] (defScope s_law) := ⟨rfl, rfl, rfl, by decide +kernel, rfl, by decide +kernel, by decide +kernel⟩
/-- where the defs stand -/
structure Ad where
  a_reached : Addr
  d_reached : FuncData
  a_Done_shows : Addr
  d_Done_shows : FuncData
  a_Next__init : Addr
  d_Next__init : FuncData
  a_Next_shows : Addr
  d_Next_shows : FuncData
  a_Short__init : Addr
  d_Short__init : FuncData
  a_Short_shows : Addr
  d_Short_shows : FuncData
  a_law_reach : Addr
  d_law_reach : FuncData
  a_law_states : Addr
  d_law_states : FuncData
  a_law_near : Addr
  d_law_near : FuncData
  a_law_says : Addr
  d_law_says : FuncData
  a_law : Addr
  d_law : FuncData
  a_Answer : Addr
  a_Done : Addr
  a_Next : Addr
  a_Short : Addr
/-- what the top has written -/
structure Tx (K : PySem.W.Frag) (mg : Str → Option Value) (A : Ad) : Prop where
  f_reached : Fun K "reached" "reached" s_reached A.a_reached A.d_reached
  g_reached : mg "reached" = some (.ref A.a_reached)
  b_reached : Binds K A.d_reached ["tries", "glasses"] []
  f_Done_shows : Fun K "shows" "Done.shows" s_Done_shows A.a_Done_shows A.d_Done_shows
  b_Done_shows : Binds K A.d_Done_shows ["self", "storeys", "glasses", "tries"] []
  f_Next__init : Fun K "__init__" "Next.__init__" s_Next__init A.a_Next__init A.d_Next__init
  b_Next__init : Binds K A.d_Next__init ["self", "storey"] []
  f_Next_shows : Fun K "shows" "Next.shows" s_Next_shows A.a_Next_shows A.d_Next_shows
  b_Next_shows : Binds K A.d_Next_shows ["self", "storeys", "glasses", "tries"] []
  f_Short__init : Fun K "__init__" "Short.__init__" s_Short__init A.a_Short__init A.d_Short__init
  b_Short__init : Binds K A.d_Short__init ["self", "most"] []
  f_Short_shows : Fun K "shows" "Short.shows" s_Short_shows A.a_Short_shows A.d_Short_shows
  b_Short_shows : Binds K A.d_Short_shows ["self", "storeys", "glasses", "tries"] []
  f_law_reach : Fun K "_law_reach" "_law_reach" s_law_reach A.a_law_reach A.d_law_reach
  g_law_reach : mg "_law_reach" = some (.ref A.a_law_reach)
  b_law_reach : Binds K A.d_law_reach ["_law_tries", "_law_glasses"] []
  f_law_states : Fun K "_law_states" "_law_states" s_law_states A.a_law_states A.d_law_states
  g_law_states : mg "_law_states" = some (.ref A.a_law_states)
  b_law_states : Binds K A.d_law_states ["_law_script"] []
  f_law_near : Fun K "_law_near" "_law_near" s_law_near A.a_law_near A.d_law_near
  g_law_near : mg "_law_near" = some (.ref A.a_law_near)
  b_law_near : Binds K A.d_law_near ["_law_states_here"] []
  f_law_says : Fun K "_law_says" "_law_says" s_law_says A.a_law_says A.d_law_says
  g_law_says : mg "_law_says" = some (.ref A.a_law_says)
  b_law_says : Binds K A.d_law_says ["_law_said", "_law_due"] []
  f_law : Fun K "law" "law" s_law A.a_law A.d_law
  g_law : mg "law" = some (.ref A.a_law)
  b_law : Binds K A.d_law ["_law_script"] []
  g_Answer : mg "Answer" = some (.ref A.a_Answer)
  g_Done : mg "Done" = some (.ref A.a_Done)
  g_Next : mg "Next" = some (.ref A.a_Next)
  g_Short : mg "Short" = some (.ref A.a_Short)
  t_Done : TyI K A.a_Done
  k_Done : MkN K A.a_Done
  m_Done_shows : Meth K A.a_Done "shows" A.a_Done_shows
  i_Done_Answer : PySem.W.kitOne K (.ref A.a_Done) (.ref A.a_Answer) = some true
  i_Done_Done : PySem.W.kitOne K (.ref A.a_Done) (.ref A.a_Done) = some true
  i_Done_Next : PySem.W.kitOne K (.ref A.a_Done) (.ref A.a_Next) = some false
  i_Done_Short : PySem.W.kitOne K (.ref A.a_Done) (.ref A.a_Short) = some false
  t_Next : TyI K A.a_Next
  k_Next : Mk K A.a_Next A.a_Next__init
  n_Next_storey : NoAttr K A.a_Next "storey"
  m_Next_shows : Meth K A.a_Next "shows" A.a_Next_shows
  i_Next_Answer : PySem.W.kitOne K (.ref A.a_Next) (.ref A.a_Answer) = some true
  i_Next_Done : PySem.W.kitOne K (.ref A.a_Next) (.ref A.a_Done) = some false
  i_Next_Next : PySem.W.kitOne K (.ref A.a_Next) (.ref A.a_Next) = some true
  i_Next_Short : PySem.W.kitOne K (.ref A.a_Next) (.ref A.a_Short) = some false
  t_Short : TyI K A.a_Short
  k_Short : Mk K A.a_Short A.a_Short__init
  n_Short_most : NoAttr K A.a_Short "most"
  m_Short_shows : Meth K A.a_Short "shows" A.a_Short_shows
  i_Short_Answer : PySem.W.kitOne K (.ref A.a_Short) (.ref A.a_Answer) = some true
  i_Short_Done : PySem.W.kitOne K (.ref A.a_Short) (.ref A.a_Done) = some false
  i_Short_Next : PySem.W.kitOne K (.ref A.a_Short) (.ref A.a_Next) = some false
  i_Short_Short : PySem.W.kitOne K (.ref A.a_Short) (.ref A.a_Short) = some true
  z_all : mg "all" = none
  z_bool : mg "bool" = none
  z_enumerate : mg "enumerate" = none
  z_isinstance : mg "isinstance" = none
  z_len : mg "len" = none
  z_max : mg "max" = none
  z_min : mg "min" = none
  z_range : mg "range" = none
  z_sum : mg "sum" = none

section
variable {P : Program} {w : World} {K : PySem.W.Frag} {mg : Str → Option Value} {base : Heap} {A : Ad}
def rReached (vs : List V) (v : V) : Prop := ∃ t g : Nat, vs = [.int (t : Int), .int (g : Int)] ∧ t < 2 ^ 256 ∧ g ≤ 400 ∧ v = .int ((R t g : Nat) : Int)
/-! ### reached -/
theorem ok_reached (T : Tx K mg A) : FnOk P w K mg base CX0 1 A.a_reached A.d_reached ["tries", "glasses"] (spP rReached) := by
  refine T.f_reached.ok sc_reached (fun vs H Q E h => ?_) (fun cdv Ar outer s H vs Q E hr h => ?_)
  · obtain ⟨v, ⟨t, g, rfl, _⟩, _⟩ := h
    rfl
  · obtain ⟨v, ⟨t, g, rfl, ht, hg, rfl⟩, k⟩ := h
    refine ⟨_, (pss_cons (ps_set (i := 2) sc_reached.nd rfl (.inl rfl) pe_int)
      (pss_cons (ps_set (i := 3) sc_reached.nd rfl (.inl rfl) pe_int)
      (pss_cons (ps_for PassesOwn.never rfl (pi_range2 (by rfl) T.z_range (pa_cons pe_int (pa_cons (pe_op op_add (pe_callB (call_min2 rfl) (by rfl) T.z_min (by decide +kernel) (pa_cons (pv 0) (pa_cons (pv 1) pa_nil))) pe_int) pa_nil))) (pg_name (i := 4) sc_reached.nd rfl (.inl rfl))
        (pss_cons (ps_set (i := 3) sc_reached.nd rfl (.inl rfl) (pe_op op_fdivW (pe_op op_mulX (pv 3) (pe_op op_add (pe_op op_sub (pv 0) (pv 4)) pe_int)) (pv 4)))
      (pss_one (ps_aug (i := 2) sc_reached.nd rfl (.inl rfl) (pv 3) ip_add))))
      (pss_one (ps_ret (pv 2)))))), ?_⟩
    refine q_asg ev_c fun H1 e1 => q_asg ev_c fun H2 e2 => ?_
    have hm : min t g ≤ 400 := Nat.le_trans (Nat.min_le_right t g) hg
    refine q_forR2 (lo := 1) (n := ((min t g : Nat) : Int) + 1) (ea_cons ev_c (ea_cons (ev_op (ev_is (ev_cb (ea_cons (ev_var rfl) (ea_cons (ev_var rfl) ea_nil)) rc_min2) (congrArg V.int (min_nat t g))) ev_c rv_I0) ea_nil)) ⟨by omega, by omega, by omega, by omega⟩
      (fun i σ' H' => ∃ y, σ' = [some (.int (t : Int)), some (.int (g : Int)), some (.int ((R t i : Nat) : Int)), some (.int ((bin t i : Nat) : Int)), y] ∧ Ex H H') (fun H3 e3 => ⟨none, by rw [bin_zero]; rfl, (e1.trans e2).trans e3⟩) ?_ ?_
    · rintro i σ' H' hi ⟨y, rfl, e'⟩
      have hit : i < t := by have := Nat.min_le_left t g; omega
      have hik : i ≤ 400 := by omega
      have e4 : (t : Int) - (1 + (i : Int)) + 1 = ((t - i : Nat) : Int) := by omega
      have e5 : (1 : Int) + (i : Int) = ((i + 1 : Nat) : Int) := by omega
      refine q_asg (v := .int ((bin t (i + 1) : Nat) : Int)) (ev_is (ev_op (ev_op (ev_var rfl) (ev_op (ev_op (ev_var rfl) (ev_var rfl) rv_I0) ev_c rv_I0) (rv_I ?_)) (ev_var rfl) (rv_I ?_)) ?_) fun H3 e3 => ?_
      · rw [e4]
        exact mulx_ok (nat_bits (bin_bits ht hik)) (nat_bits (Nat.lt_of_le_of_lt (Nat.sub_le t i) ht)) (by decide)
      · rw [e5]
        exact wide_div (b := 30) (by omega) (by rw [Int.natAbs_natCast]; exact Nat.lt_of_le_of_lt (show i + 1 ≤ 401 by omega) (by decide)) (by decide) (by decide)
      · rw [e4, e5]
        refine congrArg V.int ?_
        rw [← Int.natCast_mul, ← Int.natCast_ediv, bin_div]
      · refine s_aug (f := fun i j => i + j) rfl (ev_var rfl) fun H4 e4 => ⟨some (.int (1 + (i : Int))), rfl, (e'.trans e3).trans e4⟩
    · rintro σ' H' ⟨y, rfl, e'⟩
      refine s_ret (ev_var rfl) fun H3 e3 => ?_
      have en : (((min t g : Nat) : Int) + 1 - 1).toNat = min t g := by omega
      rw [en, R_min]
      exact k H3 (e'.trans e3)
/-! ### the three answers -/
inductive Kd where
  | done | next (z : Int) | short (m : Int)
def Kd.o (A : Ad) (dx : Addr) : Kd → HO
  | .done => .ins A.a_Done dx []
  | .next z => .ins A.a_Next dx [("storey", .int z)]
  | .short m => .ins A.a_Short dx [("most", .int m)]
def KdAt (A : Ad) (H : Hp) (p : Addr) (k : Kd) : Prop := ∃ dx, H p = some (k.o A dx)
theorem KdAt.mono {A : Ad} {H H' : Hp} {p : Addr} {k : Kd} (h : KdAt A H p k) (e : Ex H H') : KdAt A H' p k := by
  obtain ⟨dx, h⟩ := h
  exact ⟨dx, e _ _ h⟩
def showsN (z : Int) (s g t : Nat) : Bool := if g = 0 ∨ t = 0 ∨ ¬ (1 ≤ z ∧ z ≤ (s : Int)) then false else if ((R (t - 1) (g - 1) : Nat) : Int) < z - 1 then false else decide ((s : Int) - z ≤ ((R (t - 1) g : Nat) : Int))
def Kd.shows (s g t : Nat) : Kd → Bool
  | .done => decide ((s : Int) = 0)
  | .next z => showsN z s g t
  | .short m => decide (m = ((R t g : Nat) : Int)) && decide (m < (s : Int))
def rShows (A : Ad) (k : Kd → Prop) (H : Hp) (vs : List V) (v : V) : Prop := ∃ (p : Addr) (kd : Kd) (s g t : Nat), vs = [.ref p, .int (s : Int), .int (g : Int), .int (t : Int)] ∧ KdAt A H p kd ∧ k kd ∧ t < 2 ^ 256 ∧ g ≤ 400 ∧ v = .bl (kd.shows s g t)
def isD : Kd → Prop
  | .done => True
  | _ => False
def isN : Kd → Prop
  | .next _ => True
  | _ => False
def isS : Kd → Prop
  | .short _ => True
  | _ => False
theorem ok_Next__init (T : Tx K mg A) : FnOk P w K mg base CX0 1 A.a_Next__init A.d_Next__init ["self", "storey"] (spInit A.a_Next "storey") := by
  refine T.f_Next__init.ok sc_Next__init (fun vs H Q E h => ?_) (fun cdv Ar outer s H vs Q E hr h => ?_)
  · obtain ⟨x, dx, v, rfl, _⟩ := h
    rfl
  · obtain ⟨x, dx, v, rfl, hx, k⟩ := h
    refine ⟨_, (pss_one (ps_fld (pv 0) (pv 1) rfl)), ?_⟩
    exact ⟨v, rfl, .ref x, rfl, x, A.a_Next, dx, [], rfl, hx, T.t_Next.cl, T.n_Next_storey, by decide, k⟩
theorem ok_Short__init (T : Tx K mg A) : FnOk P w K mg base CX0 1 A.a_Short__init A.d_Short__init ["self", "most"] (spInit A.a_Short "most") := by
  refine T.f_Short__init.ok sc_Short__init (fun vs H Q E h => ?_) (fun cdv Ar outer s H vs Q E hr h => ?_)
  · obtain ⟨x, dx, v, rfl, _⟩ := h
    rfl
  · obtain ⟨x, dx, v, rfl, hx, k⟩ := h
    refine ⟨_, (pss_one (ps_fld (pv 0) (pv 1) rfl)), ?_⟩
    exact ⟨v, rfl, .ref x, rfl, x, A.a_Short, dx, [], rfl, hx, T.t_Short.cl, T.n_Short_most, by decide, k⟩
theorem ok_Done_shows (T : Tx K mg A) : FnOk P w K mg base CX0 1 A.a_Done_shows A.d_Done_shows ["self", "storeys", "glasses", "tries"] (spH (rShows A isD)) := by
  refine T.f_Done_shows.ok sc_Done_shows (fun vs H Q E h => ?_) (fun cdv Ar outer s H vs Q E hr h => ?_)
  · obtain ⟨v, ⟨p, kd, s, g, t, rfl, _⟩, _⟩ := h
    rfl
  · obtain ⟨v, ⟨p, kd, st, g, t, rfl, hk, hi, ht, hg, rfl⟩, k⟩ := h
    refine ⟨_, (pss_one (ps_ret (pe_cmpR op_eq (pv 1) pe_int (nomark _)))), ?_⟩
    cases kd with
    | done => exact s_ret (ev_op (ev_var rfl) ev_c rv_eqI) fun H1 e1 => k H1 e1
    | next _ => exact hi.elim
    | short _ => exact hi.elim
theorem showsN_if (z : Int) (s g t : Nat) : showsN z s g t = if (decide ((g : Int) = 0) || (decide ((t : Int) = 0) || !(decide (1 ≤ z) && decide (z ≤ (s : Int))))) = true then false else if decide (((R (t - 1) (g - 1) : Nat) : Int) < z - 1) = true then false else decide ((s : Int) - z ≤ ((R (t - 1) g : Nat) : Int)) := by
  unfold showsN
  by_cases h : g = 0 ∨ t = 0 ∨ ¬ (1 ≤ z ∧ z ≤ (s : Int))
  · rw [if_pos h, if_pos]
    rcases h with h | h | h
    · rw [decide_eq_true (show (g : Int) = 0 by omega)]
      rfl
    · rw [decide_eq_true (show (t : Int) = 0 by omega)]
      simp
    · by_cases h1 : 1 ≤ z
      · rw [decide_eq_false (show ¬ z ≤ (s : Int) from fun q => h ⟨h1, q⟩)]
        simp
      · rw [decide_eq_false h1]
        simp
  · have h1 : 1 ≤ z ∧ z ≤ (s : Int) := by
      by_cases q : 1 ≤ z ∧ z ≤ (s : Int)
      · exact q
      · exact absurd (.inr (.inr q)) h
    have hc : ¬ (decide ((g : Int) = 0) || (decide ((t : Int) = 0) || !(decide (1 ≤ z) && decide (z ≤ (s : Int))))) = true := by
      rw [decide_eq_false (show ¬ (g : Int) = 0 by omega), decide_eq_false (show ¬ (t : Int) = 0 by omega), decide_eq_true h1.1, decide_eq_true h1.2]
      decide
    rw [if_neg h, if_neg hc]
    by_cases q : ((R (t - 1) (g - 1) : Nat) : Int) < z - 1
    · rw [if_pos q, if_pos (decide_eq_true q)]
    · rw [if_neg q, if_neg (by rw [decide_eq_false q]; exact Bool.false_ne_true)]
theorem ok_Next_shows (T : Tx K mg A) : FnOk P w K mg base CX0 2 A.a_Next_shows A.d_Next_shows ["self", "storeys", "glasses", "tries"] (spH (rShows A isN)) := by
  refine T.f_Next_shows.ok sc_Next_shows (fun vs H Q E h => ?_) (fun cdv Ar outer s H vs Q E hr h => ?_)
  · obtain ⟨v, ⟨p, kd, s, g, t, rfl, _⟩, _⟩ := h
    rfl
  · obtain ⟨v, ⟨p, kd, st, g, t, rfl, ⟨dx, hk⟩, hi, ht, hg, rfl⟩, k⟩ := h
    refine ⟨_, (pss_cons (ps_if (PW.pt (pw_or (pt_cmpR op_eq (pv 2) pe_int (nomark _)) (pw_or (pt_cmpR op_eq (pv 3) pe_int (nomark _)) (pw_or1 (pt_not (pt_chain op_le op_le pe_int (pe_fld (pv 0) rfl) (pv 1))))))) (pss_one (ps_ret pe_bl)) pss_nil)
      (pss_cons (ps_if (pt_cmpR op_gt (pe_op op_sub (pe_fld (pv 0) rfl) pe_int) (pe_call (ok_reached T) (hr.mono (by decide)) (by rfl) T.g_reached T.f_reached.kp T.b_reached .nil pass0 (pa_cons (pe_op op_sub (pv 3) pe_int) (pa_cons (pe_op op_sub (pv 2) pe_int) pa_nil))) (nomark _)) (pss_one (ps_ret pe_bl)) pss_nil)
      (pss_one (ps_ret (pe_cmpR op_le (pe_op op_sub (pv 1) (pe_fld (pv 0) rfl)) (pe_call (ok_reached T) (hr.mono (by decide)) (by rfl) T.g_reached T.f_reached.kp T.b_reached .nil pass0 (pa_cons (pe_op op_sub (pv 3) pe_int) (pa_cons (pv 2) pa_nil))) (nomark _)))))), ?_⟩
    cases kd with
    | done => exact hi.elim
    | short _ => exact hi.elim
    | next z =>
      have hk : H p = some (.ins A.a_Next dx [("storey", .int z)]) := hk
      have k : ∀ H2, Ex H H2 → Q (.bl (showsN z st g t)) H2 := k
      rw [showsN_if] at k
      have fld : ∀ {σ : L2.St} {H1 : Hp}, σ[0]? = some (some (.ref p)) → Ex H H1 → Ev (tFld K (tVar 0) "storey") σ H1 (.int z) := fun hs e1 => ev_fld (ev_var hs) (e1 _ _ hk) T.t_Next.cl T.n_Next_storey look_same
      refine q_when (et_or (et_test (ev_op (ev_var rfl) ev_c rv_eqI)) fun _ => et_or (et_test (ev_op (ev_var rfl) ev_c rv_eqI)) fun _ => et_not (et_test (ev_chain ev_c (fld rfl (Ex.refl H)) (ev_var rfl) rv_I0 fun _ => rv_I0))) (fun hb H1 e1 => ?_) fun hb H1 e1 => ?_
      · refine s_ret ev_c fun H2 e2 => ?_
        have q := k H2 (e1.trans e2)
        rw [if_pos hb] at q
        exact q
      · rw [if_neg (by rw [hb]; exact Bool.false_ne_true)] at k
        rw [Bool.or_eq_false_iff, Bool.or_eq_false_iff] at hb
        have g0 := of_decide_eq_false hb.1
        have t0 := of_decide_eq_false hb.2.1
        refine q_when (et_test (ev_op (ev_op (fld rfl e1) ev_c rv_I0) (ev_p (ea_cons (ev_op (ev_var rfl) ev_c rv_I0) (ea_cons (ev_op (ev_var rfl) ev_c rv_I0) ea_nil)) ⟨t - 1, g - 1, args2 (by omega) (by omega), by omega, by omega, rfl⟩) rv_I0)) (fun hb2 H2 e2 => ?_) fun hb2 H2 e2 => ?_
        · refine s_ret ev_c fun H3 e3 => ?_
          have q := k H3 ((e1.trans e2).trans e3)
          rw [if_pos hb2] at q
          exact q
        · rw [if_neg (by rw [hb2]; exact Bool.false_ne_true)] at k
          exact s_ret (ev_op (ev_op (ev_var rfl) (fld rfl (e1.trans e2)) rv_I0) (ev_p (ea_cons (ev_op (ev_var rfl) ev_c rv_I0) (ea_cons (ev_var rfl) ea_nil)) ⟨t - 1, g, args2 (by omega) rfl, by omega, by omega, rfl⟩) rv_I0) fun H3 e3 => k H3 ((e1.trans e2).trans e3)
theorem ok_Short_shows (T : Tx K mg A) : FnOk P w K mg base CX0 2 A.a_Short_shows A.d_Short_shows ["self", "storeys", "glasses", "tries"] (spH (rShows A isS)) := by
  refine T.f_Short_shows.ok sc_Short_shows (fun vs H Q E h => ?_) (fun cdv Ar outer s H vs Q E hr h => ?_)
  · obtain ⟨v, ⟨p, kd, s, g, t, rfl, _⟩, _⟩ := h
    rfl
  · obtain ⟨v, ⟨p, kd, st, g, t, rfl, ⟨dx, hk⟩, hi, ht, hg, rfl⟩, k⟩ := h
    refine ⟨_, (pss_one (ps_ret (pe_and (pe_cmpR op_eq (pe_fld (pv 0) rfl) (pe_call (ok_reached T) (hr.mono (by decide)) (by rfl) T.g_reached T.f_reached.kp T.b_reached .nil pass0 (pa_cons (pv 3) (pa_cons (pv 2) pa_nil))) (nomark _)) (pe_one (pe_cmpR op_lt (pe_fld (pv 0) rfl) (pv 1) (nomark _)))))), ?_⟩
    cases kd with
    | done => exact hi.elim
    | next _ => exact hi.elim
    | short m =>
      have hk : H p = some (.ins A.a_Short dx [("most", .int m)]) := hk
      have fld : ∀ {σ : L2.St} {H1 : Hp}, σ[0]? = some (some (.ref p)) → Ex H H1 → Ev (tFld K (tVar 0) "most") σ H1 (.int m) := fun hs e1 => ev_fld (ev_var hs) (e1 _ _ hk) T.t_Short.cl T.n_Short_most look_same
      exact s_ret (ev_andV (ev_op (fld rfl (Ex.refl H)) (ev_p (ea_cons (ev_var rfl) (ea_cons (ev_var rfl) ea_nil)) ⟨t, g, rfl, ht, hg, rfl⟩) rv_eqI) fun _ => ev_op (fld rfl (Ex.refl H)) (ev_var rfl) rv_I0) fun H1 e1 => k H1 e1
/-- whatever the answer is, its own word -/
theorem no_shows1 {v : V} : ([("storey", v)] : List (Str × V)).lookup ("shows" : Str) = none := look_other (by decide +kernel)
theorem no_shows2 {v : V} : ([("most", v)] : List (Str × V)).lookup ("shows" : Str) = none := look_other (by decide +kernel)
theorem ev_shows {σ : L2.St} {H : Hp} {ta : TE} {p : Addr} {kd : Kd} {s g t : Nat} {E : XK} {tr : TA} (ha : Ev ta σ H (.ref p)) (hk : KdAt A H p kd) (h : EvA tr σ H [.int (s : Int), .int (g : Int), .int (t : Int)]) (ht : t < 2 ^ 256) (hg : g ≤ 400) :
    Ev (tAlt (tMeth A.a_Done "shows" (spH (rShows A isD)) [] E ta tr) (tAlt (tMeth A.a_Next "shows" (spH (rShows A isN)) [] E ta tr) (tMeth A.a_Short "shows" (spH (rShows A isS)) [] E ta tr))) σ H (.bl (kd.shows s g t)) := by
  obtain ⟨dx, hx⟩ := hk
  cases kd with
  | done => exact ev_alt1 (ev_meth ha hx rfl h fun H1 e1 => ⟨p, .done, s, g, t, rfl, ⟨dx, e1 _ _ hx⟩, trivial, ht, hg, rfl⟩)
  | next z => exact ev_alt2 (ev_alt1 (ev_meth ha hx no_shows1 h fun H1 e1 => ⟨p, .next z, s, g, t, rfl, ⟨dx, e1 _ _ hx⟩, trivial, ht, hg, rfl⟩))
  | short m => exact ev_alt2 (ev_alt2 (ev_meth ha hx no_shows2 h fun H1 e1 => ⟨p, .short m, s, g, t, rfl, ⟨dx, e1 _ _ hx⟩, trivial, ht, hg, rfl⟩))
/-! ### which answer it is -/
def Kd.d : Kd → Bool
  | .done => true
  | _ => false
def Kd.n : Kd → Bool
  | .next _ => true
  | _ => false
def Kd.s : Kd → Bool
  | .short _ => true
  | _ => false
def Kd.z : Kd → Int
  | .next z => z
  | _ => 0
def Kd.m : Kd → Int
  | .short m => m
  | _ => 0
theorem isi_d (T : Tx K mg A) {H : Hp} {p : Addr} {kd : Kd} (h : KdAt A H p kd) : RC (rIsi K) [.ref p, .ref A.a_Done] H (.bl kd.d) := by
  obtain ⟨dx, hx⟩ := h
  cases kd with
  | done => exact rc_isi_ins T.t_Done hx T.i_Done_Done
  | next z => exact rc_isi_ins T.t_Next hx T.i_Next_Done
  | short m => exact rc_isi_ins T.t_Short hx T.i_Short_Done
theorem isi_n (T : Tx K mg A) {H : Hp} {p : Addr} {kd : Kd} (h : KdAt A H p kd) : RC (rIsi K) [.ref p, .ref A.a_Next] H (.bl kd.n) := by
  obtain ⟨dx, hx⟩ := h
  cases kd with
  | done => exact rc_isi_ins T.t_Done hx T.i_Done_Next
  | next z => exact rc_isi_ins T.t_Next hx T.i_Next_Next
  | short m => exact rc_isi_ins T.t_Short hx T.i_Short_Next
theorem isi_s (T : Tx K mg A) {H : Hp} {p : Addr} {kd : Kd} (h : KdAt A H p kd) : RC (rIsi K) [.ref p, .ref A.a_Short] H (.bl kd.s) := by
  obtain ⟨dx, hx⟩ := h
  cases kd with
  | done => exact rc_isi_ins T.t_Done hx T.i_Done_Short
  | next z => exact rc_isi_ins T.t_Next hx T.i_Next_Short
  | short m => exact rc_isi_ins T.t_Short hx T.i_Short_Short
theorem isi_a (T : Tx K mg A) {H : Hp} {p : Addr} {kd : Kd} (h : KdAt A H p kd) : RC (rIsi K) [.ref p, .ref A.a_Answer] H (.bl true) := by
  obtain ⟨dx, hx⟩ := h
  cases kd with
  | done => exact rc_isi_ins T.t_Done hx T.i_Done_Answer
  | next z => exact rc_isi_ins T.t_Next hx T.i_Next_Answer
  | short m => exact rc_isi_ins T.t_Short hx T.i_Short_Answer
theorem fld_z (T : Tx K mg A) {σ : L2.St} {H : Hp} {ta : TE} {p : Addr} {kd : Kd} (h : KdAt A H p kd) (hn : kd.n = true) (ha : Ev ta σ H (.ref p)) : Ev (tFld K ta "storey") σ H (.int kd.z) := by
  obtain ⟨dx, hx⟩ := h
  cases kd with
  | done => cases hn
  | next z => exact ev_fld ha hx T.t_Next.cl T.n_Next_storey look_same
  | short m => cases hn
theorem fld_m (T : Tx K mg A) {σ : L2.St} {H : Hp} {ta : TE} {p : Addr} {kd : Kd} (h : KdAt A H p kd) (hn : kd.s = true) (ha : Ev ta σ H (.ref p)) : Ev (tFld K ta "most") σ H (.int kd.m) := by
  obtain ⟨dx, hx⟩ := h
  cases kd with
  | done => cases hn
  | next z => cases hn
  | short m => exact ev_fld ha hx T.t_Short.cl T.n_Short_most look_same
/-! ### _law_reach: numbers going down shared by such going up -/
theorem ok_law_reach (T : Tx K mg A) : FnOk P w K mg base CX0 1 A.a_law_reach A.d_law_reach ["_law_tries", "_law_glasses"] (spP rReached) := by
  refine T.f_law_reach.ok sc_law_reach (fun vs H Q E h => ?_) (fun cdv Ar outer s H vs Q E hr h => ?_)
  · obtain ⟨v, ⟨t, g, rfl, _⟩, _⟩ := h
    rfl
  · obtain ⟨v, ⟨t, g, rfl, ht, hg, rfl⟩, k⟩ := h
    refine ⟨_, (pss_cons (ps_asg (pe_tup (pa_cons pe_int (pa_cons pe_int (pa_cons pe_int pa_nil)))) (pg_tup rfl (pgs_cons (pg_name (i := 2) sc_law_reach.nd rfl (.inl rfl)) (pgs_cons (pg_name (i := 3) sc_law_reach.nd rfl (.inl rfl)) (pgs_cons (pg_name (i := 4) sc_law_reach.nd rfl (.inl rfl)) pgs_nil)))))
      (pss_cons (ps_for PassesOwn.never rfl (pi_range1 (by rfl) T.z_range (pa_cons (pe_callB (call_min2 rfl) (by rfl) T.z_min (by decide +kernel) (pa_cons (pv 0) (pa_cons (pv 1) pa_nil))) pa_nil)) (pg_name (i := 5) sc_law_reach.nd rfl (.inl rfl))
        (pss_cons (ps_par (i := 3) (j := 4) (by rfl) sc_law_reach.nd rfl rfl (by decide) rfl rfl (pa_cons (pe_op op_mulX (pv 3) (pe_op op_sub (pv 0) (pv 5))) (pa_cons (pe_op op_mulX (pv 4) (pe_op op_add (pv 5) pe_int)) pa_nil)) (by rfl))
      (pss_one (ps_set (i := 2) sc_law_reach.nd rfl (.inl rfl) (pe_op op_add (pv 2) (pe_op op_fdivW (pv 3) (pv 4)))))))
      (pss_one (ps_ret (pv 2))))), ?_⟩
    refine q_asg3 (eu_tup (ea_cons ev_c (ea_cons ev_c (ea_cons ev_c ea_nil))) (by decide)) fun H1 e1 => ?_
    have hm : min t g ≤ 400 := Nat.le_trans (Nat.min_le_right t g) hg
    refine q_forR1 (n := ((min t g : Nat) : Int)) (ea_cons (ev_is (ev_cb (ea_cons (ev_var rfl) (ea_cons (ev_var rfl) ea_nil)) rc_min2) (congrArg V.int (min_nat t g))) ea_nil) ⟨by omega, by omega⟩
      (fun i σ' H' => ∃ y, σ' = [some (.int (t : Int)), some (.int (g : Int)), some (.int ((R t i : Nat) : Int)), some (.int ((bin t i * fact i : Nat) : Int)), some (.int ((fact i : Nat) : Int)), y] ∧ Ex H H') (fun H3 e3 => ⟨none, by rw [bin_zero]; rfl, e1.trans e3⟩) ?_ ?_
    · rintro i σ' H' hi ⟨y, rfl, e'⟩
      have hit : i < t := by have := Nat.min_le_left t g; omega
      have hik : i + 1 ≤ 400 := by omega
      have e4 : (t : Int) - (i : Int) = ((t - i : Nat) : Int) := by omega
      have e5 : (i : Int) + 1 = ((i + 1 : Nat) : Int) := by omega
      refine q_par (u := .int ((bin t (i + 1) * fact (i + 1) : Nat) : Int)) (w := .int ((fact (i + 1) : Nat) : Int)) (ea_cons (ev_is (ev_op (ev_var rfl) (ev_op (ev_var rfl) (ev_var rfl) rv_I0) (rv_I ?_)) ?_) (ea_cons (ev_is (ev_op (ev_var rfl) (ev_op (ev_var rfl) ev_c rv_I0) (rv_I ?_)) ?_) ea_nil)) fun H3 e3 => ?_
      · rw [e4]
        exact mulx_ok (nat_bits (above_bits ht (by omega))) (nat_bits (Nat.lt_of_le_of_lt (Nat.sub_le t i) ht)) (by decide)
      · rw [e4, ← Int.natCast_mul, above_step]
      · rw [e5]
        exact mulx_ok (nat_bits (fact_bits (show i ≤ 400 by omega))) (nat_bits (b := 30) (Nat.lt_of_le_of_lt hik (by decide))) (by decide)
      · rw [e5, ← Int.natCast_mul]
        rfl
      · refine s_asg (v := .int ((R t (i + 1) : Nat) : Int)) (ev_is (ev_op (ev_var rfl) (ev_op (ev_var rfl) (ev_var rfl) (rv_I ?_)) rv_I0) ?_) fun H4 e4 => ⟨some (.int (i : Int)), rfl, (e'.trans e3).trans e4⟩
        · exact wide_div (b := BF) (by have := fact_pos (i + 1); omega) (nat_bits (fact_bits hik)) (by decide) (by decide)
        · rw [← Int.natCast_ediv, above_div, ← Int.natCast_add]
          rfl
    · rintro σ' H' ⟨y, rfl, e'⟩
      refine s_ret (ev_var rfl) fun H3 e3 => ?_
      rw [Int.toNat_natCast, R_min]
      exact k H3 (e'.trans e3)
/-! ### _law_states: rows of storeys, glasses and tries -/
def okRow (r : Nat × Nat × Nat) : Prop := r.1 ≤ 10 ^ 60 ∧ r.2.1 ≤ 300 ∧ r.2.2 ≤ 10 ^ 40
def rowV (r : Nat × Nat × Nat) : List V := [.int (r.1 : Int), .int (r.2.1 : Int), .int (r.2.2 : Int)]
def GoodRows (n : Nat) (v : V) (H : Hp) : Prop := ∃ (p : Addr) (rows : List (Nat × Nat × Nat)), v = .ref p ∧ (∀ r ∈ rows, okRow r) ∧ rows.length ≤ n ∧ ListT H p (rows.map rowV)
def rStates (K : PySem.W.Frag) (H : Hp) (vs : List V) (Post : V → Hp → Prop) : Prop := ∃ (a : Addr) (ns : List Int), vs = [.ref a] ∧ SqL K H a (ns.map V.int) ∧ ns.length ≤ 63 ∧ (∀ z ∈ ns, Builtin.Int.intBits z ≤ 1048576) ∧ Post = GoodRows ns.length
/-- the menu of the greatest numbers -/
theorem menu_row (c : Int) : ∃ (n : Nat) (M L Z : Nat), c % 4 = (n : Int) ∧ ([[V.int 200, .int 7, .int 12], [.int (10 ^ (6 : Int).toNat), .int 20, .int 40], [.int (10 ^ (60 : Int).toNat), .int 40, .int 250], [.int (10 ^ (60 : Int).toNat), .int 9, .int (10 ^ (40 : Int).toNat)]] : List (List V))[n]? = some [.int (M : Int), .int (L : Int), .int (Z : Int)] ∧
    0 < M ∧ M ≤ 10 ^ 60 + 1 ∧ 0 < L ∧ L ≤ 301 ∧ 0 < Z ∧ Z ≤ 10 ^ 40 + 1 := by
  have h0 : 0 ≤ c % 4 := Int.emod_nonneg c (by decide)
  have h1 : c % 4 < 4 := Int.emod_lt_of_pos c (by decide)
  rcases (show c % 4 = 0 ∨ c % 4 = 1 ∨ c % 4 = 2 ∨ c % 4 = 3 by omega) with h | h | h | h
  · exact ⟨0, 200, 7, 12, h, rfl, by decide, by decide, by decide, by decide, by decide, by decide⟩
  · exact ⟨1, 10 ^ 6, 20, 40, h, rfl, by decide, by decide, by decide, by decide, by decide, by decide⟩
  · exact ⟨2, 10 ^ 60, 40, 250, h, rfl, by decide, by decide, by decide, by decide, by decide, by decide⟩
  · exact ⟨3, 10 ^ 60, 9, 10 ^ 40, h, rfl, by decide, by decide, by decide, by decide, by decide, by decide⟩
theorem menu_two (c : Int) : ∃ Z : Nat, atI [V.int 300, .int (10 ^ (40 : Int).toNat + 1)] (c % 2) = some (.int (Z : Int)) ∧ 0 < Z ∧ Z ≤ 10 ^ 40 + 1 := by
  have h0 : 0 ≤ c % 2 := Int.emod_nonneg c (by decide)
  have h1 : c % 2 < 2 := Int.emod_lt_of_pos c (by decide)
  rcases (show c % 2 = 0 ∨ c % 2 = 1 by omega) with h | h
  · exact ⟨300, by rw [h]; exact atI_nat (j := 0) rfl, by decide, by decide⟩
  · exact ⟨10 ^ 40 + 1, by rw [h]; exact atI_nat (j := 1) rfl, by decide, by decide⟩
theorem small_div {n : Nat} (h0 : 0 < n) (h : n ≤ 10 ^ 60 + 1) (i : Int) : CDivW i (n : Int) := wide_div (b := 201) (by omega) (nat_bits (Nat.lt_of_le_of_lt h (by decide))) (by decide) (by decide)
theorem mod_nat {n : Nat} (h0 : 0 < n) (i : Int) : ∃ m : Nat, i % (n : Int) = (m : Int) ∧ m < n := by
  have h1 : 0 ≤ i % (n : Int) := Int.emod_nonneg i (by omega)
  have h2 : i % (n : Int) < (n : Int) := Int.emod_lt_of_pos i (by omega)
  exact ⟨(i % (n : Int)).toNat, by omega, by omega⟩
theorem bits_lt {z : Int} {b : Nat} (h : Builtin.Int.intBits z ≤ b) : z.natAbs < 2 ^ b := by
  unfold Builtin.Int.intBits at h
  split at h
  · rename_i e
    have e' : z = 0 := by simpa using e
    subst e'
    exact Nat.pos_of_ne_zero (by simp)
  · exact Nat.lt_of_lt_of_le Nat.lt_log2_self (Nat.pow_le_pow_right (by decide) h)
def BS : Nat := 1048576
theorem part_bits {x y : Int} {i : Nat} (hx : x.natAbs < 2 ^ BS) (hy : y.natAbs < 2 ^ BS) (hi : i < 63) : (x * 48271 + y * 69621 + (i : Int) + 11).natAbs < 2 ^ (BS + 18) := by
  have e : 2 ^ (BS + 18) = 2 ^ BS * 262144 := by rw [Nat.pow_add]
  have h1 : 63 ≤ 2 ^ BS := by
    have : 2 ^ 6 ≤ 2 ^ BS := Nat.pow_le_pow_right (by decide) (by decide)
    omega
  rw [e]
  generalize 2 ^ BS = b at *
  omega
theorem ok_law_states (T : Tx K mg A) : FnOk P w K mg base CX0 1 A.a_law_states A.d_law_states ["_law_script"] (spN (rStates K)) := by
  refine T.f_law_states.ok sc_law_states (fun vs H Q E h => ?_) (fun cdv Ar outer s H vs Q E hr h => ?_)
  · obtain ⟨Post, ⟨a, ns, rfl, _⟩, _⟩ := h
    rfl
  · obtain ⟨Post, ⟨a, ns, rfl, hS, hlen, hbits, rfl⟩, k⟩ := h
    refine ⟨_, (pss_cons (ps_set (i := 0) sc_law_states.nd rfl (.inl rfl) (pe_slice sl_list (pv 0) po_none (po_some pe_int)))
      (pss_cons (ps_par3 (i := 1) (j := 2) (l := 3) (by rfl) sc_law_states.nd rfl rfl rfl (by decide) (by decide) (by decide) rfl rfl rfl (pa_cons (pe_callB (cr_sum rfl) (by rfl) T.z_sum (by decide +kernel) (pa_cons (pv 0) pa_nil)) (pa_cons (pe_lst pa_nil) (pa_cons (pe_callB call_len_seq (by rfl) T.z_len (by decide +kernel) (pa_cons (pv 0) pa_nil)) pa_nil))) (by rfl))
      (pss_cons (ps_asg (pe_ix ix_tup (pe_tup (pa_cons (pe_tup (pa_cons pe_int (pa_cons pe_int (pa_cons pe_int pa_nil)))) (pa_cons (pe_tup (pa_cons (pe_op op_pow pe_int pe_int) (pa_cons pe_int (pa_cons pe_int pa_nil)))) (pa_cons (pe_tup (pa_cons (pe_op op_pow pe_int pe_int) (pa_cons pe_int (pa_cons pe_int pa_nil)))) (pa_cons (pe_tup (pa_cons (pe_op op_pow pe_int pe_int) (pa_cons pe_int (pa_cons (pe_op op_pow pe_int pe_int) pa_nil)))) pa_nil))))) (pe_op op_mod (pv 1) pe_int) (fun _ _ => rfl)) (pg_tup rfl (pgs_cons (pg_name (i := 4) sc_law_states.nd rfl (.inl rfl)) (pgs_cons (pg_name (i := 5) sc_law_states.nd rfl (.inl rfl)) (pgs_cons (pg_name (i := 6) sc_law_states.nd rfl (.inl rfl)) pgs_nil)))))
      (pss_cons (ps_if (pt_cmpR op_eq (pe_op op_mod (pe_op op_fdivW (pv 1) pe_int) pe_int) pe_int (nomark _)) (pss_one (ps_par3 (i := 4) (j := 5) (l := 6) (by rfl) sc_law_states.nd rfl rfl rfl (by decide) (by decide) (by decide) rfl rfl rfl (pa_cons (pe_op op_add (pe_op op_pow pe_int pe_int) pe_int) (pa_cons pe_int (pa_cons (pe_ix ix_tup (pe_tup (pa_cons pe_int (pa_cons (pe_op op_add (pe_op op_pow pe_int pe_int) pe_int) pa_nil))) (pe_op op_mod (pv 1) pe_int) (fun _ _ => rfl)) pa_nil))) (by rfl))) pss_nil)
      (pss_cons (ps_for PassesOwn.never rfl (pi_range1 (by rfl) T.z_range (pa_cons (pe_ifExp (pt_cmpR op_eq (pv 5) pe_int (nomark _)) (pe_callB (call_min2 rfl) (by rfl) T.z_min (by decide +kernel) (pa_cons (pv 3) (pa_cons pe_int pa_nil))) (pv 3)) pa_nil)) (pg_name (i := 7) sc_law_states.nd rfl (.inl rfl))
        (pss_cons (ps_par (i := 8) (j := 9) (by rfl) sc_law_states.nd rfl rfl (by decide) rfl rfl (pa_cons (pe_ix ix_list (pv 0) (pv 7) (fun _ _ => rfl)) (pa_cons (pe_ix ix_list (pv 0) (pe_op op_mod (pe_op op_add (pv 7) pe_int) (pv 3)) (fun _ _ => rfl)) pa_nil)) (by rfl))
      (pss_cons (ps_set (i := 10) sc_law_states.nd rfl (.inl rfl) (pe_ix ix_list (pv 0) (pe_op op_mod (pe_op op_add (pv 7) pe_int) (pv 3)) (fun _ _ => rfl)))
      (pss_cons (ps_if (pt_cmpR op_eq (pe_op op_mod (pe_op op_fdivW (pv 1) pe_int) pe_int) pe_int (nomark _)) (pss_cons (ps_set (i := 11) sc_law_states.nd rfl (.inl rfl) (pe_op op_add (pe_op op_add (pe_op op_add (pe_op op_mulX (pv 8) pe_int) (pe_op op_mulX (pv 9) pe_int)) (pv 7)) pe_int))
      (pss_cons (ps_set (i := 8) sc_law_states.nd rfl (.inl rfl) (pe_op op_mulX (pe_op op_mulX (pv 11) (pv 11)) (pv 11)))
      (pss_cons (ps_set (i := 9) sc_law_states.nd rfl (.inl rfl) (pe_op op_add (pv 9) (pe_op op_mod (pe_op op_mulX (pv 11) (pv 11)) pe_int)))
      (pss_one (ps_set (i := 10) sc_law_states.nd rfl (.inl rfl) (pe_op op_add (pv 10) (pe_op op_mod (pe_op op_mulX (pv 11) (pv 11)) pe_int))))))) pss_nil)
      (pss_cons (ps_set (i := 12) sc_law_states.nd rfl (.inl rfl) (pe_op op_fdivW (pv 8) (pv 4)))
      (pss_one (ps_expr (pe_bm PySem.F.plainAttrs_list PySem.F.slot_list_append PySem.F.type_list_append mt_append (pv 2) (pa_cons (pe_tup (pa_cons (pe_op op_mod (pv 8) (pv 4)) (pa_cons (pe_op op_mod (pe_op op_add (pv 12) (pv 9)) (pv 5)) (pa_cons (pe_op op_mod (pe_op op_add (pe_op op_fdivW (pv 12) (pv 5)) (pv 10)) (pv 6)) pa_nil)))) pa_nil)))))))))
      (pss_one (ps_ret (pv 2)))))))), ?_⟩
    -- the first 63 cells
    refine q_asgL (el_sl (ev_var rfl) eo_none (eo_some ev_c) hS) fun c H1 hc e1 h1 => ?_
    rw [cut63, List.take_of_length_le hlen] at h1
    -- their sum, a new list, how many
    refine q_par3L (ev_cb (ea_cons (ev_var rfl) ea_nil) (rc_sum (sq_of h1))) (el_lst ea_nil (by decide)) (ev_cb (ea_cons (ev_var rfl) ea_nil) (rc_lenL (sq_of h1))) fun f H2 hf e2 h2 => ?_
    rw [List.length_map]
    have hcf : c ≠ f := ne_of_none h1 hf
    have hHf : H f = none := fresh_back e1 hf
    -- the menu, then the few cells with glasses to 300
    obtain ⟨n, M, L, Z, hn, hrow, m0, m1, l0, l1, z0, z1⟩ := menu_row ns.sum
    refine q_menu3 (eau_cons (eu_tup (ea_cons ev_c (ea_cons ev_c (ea_cons ev_c ea_nil))) (by decide)) (eau_cons (eu_tup (ea_cons (ev_op ev_c ev_c (rv_I (by show CPow _ _; exact ⟨by decide, by decide, by decide⟩))) (ea_cons ev_c (ea_cons ev_c ea_nil))) (by decide))
      (eau_cons (eu_tup (ea_cons (ev_op ev_c ev_c (rv_I (by show CPow _ _; exact ⟨by decide, by decide, by decide⟩))) (ea_cons ev_c (ea_cons ev_c ea_nil))) (by decide)) (eau_cons (eu_tup (ea_cons (ev_op ev_c ev_c (rv_I (by show CPow _ _; exact ⟨by decide, by decide, by decide⟩))) (ea_cons ev_c (ea_cons (ev_op ev_c ev_c (rv_I (by show CPow _ _; exact ⟨by decide, by decide, by decide⟩))) ea_nil))) (by decide)) eau_nil))))
      (ev_op (ev_var rfl) ev_c (rv_I (by show (0 : Int) < _; decide))) (by decide) hn hrow fun H3 e3 => ?_
    -- the loop, whatever the three numbers are
    refine q_rest (fun σ' H3 => ∃ (M L Z : Nat), σ' = [some (.ref c), some (.int ns.sum), some (.ref f), some (.int (ns.length : Int)), some (.int (M : Int)), some (.int (L : Int)), some (.int (Z : Int)), none, none, none, none, none, none] ∧ 0 < M ∧ M ≤ 10 ^ 60 + 1 ∧ 0 < L ∧ L ≤ 301 ∧ 0 < Z ∧ Z ≤ 10 ^ 40 + 1 ∧ Ex H2 H3) ?rest fun rest => ?main
    case rest =>
      clear e3 hrow hn m0 m1 l0 l1 z0 z1
      rintro _ H3 ⟨M, L, Z, rfl, m0, m1, l0, l1, z0, z1, e3⟩
      have hn : ∃ n : Nat, n ≤ ns.length ∧ (n : Int) = (if (L : Int) = 301 then (if (4 : Int) < (ns.length : Int) then 4 else (ns.length : Int)) else (ns.length : Int)) := by
        by_cases q1 : (L : Int) = 301
        · by_cases q2 : (4 : Int) < (ns.length : Int)
          · exact ⟨4, by omega, by rw [if_pos q1, if_pos q2]; rfl⟩
          · exact ⟨ns.length, by omega, by rw [if_pos q1, if_neg q2]⟩
        · exact ⟨ns.length, by omega, by rw [if_neg q1]⟩
      obtain ⟨n, hn1, hn2⟩ := hn
      refine q_forR1 (n := (n : Int)) (ea_cons (ev_if (et_test (ev_op (ev_var rfl) ev_c rv_eqI)) (fun hb => ev_is (ev_cb (ea_cons (ev_var rfl) (ea_cons ev_c ea_nil)) rc_min2) ?_) (fun hb => ev_is (ev_var rfl) ?_)) ea_nil) ⟨by omega, by omega⟩
        (fun i σ' H' => ∃ y0 y1 y2 y3 y4 y5, σ' = [some (.ref c), some (.int ns.sum), some (.ref f), some (.int (ns.length : Int)), some (.int (M : Int)), some (.int (L : Int)), some (.int (Z : Int)), y0, y1, y2, y3, y4, y5] ∧ Ex H H' ∧ H' c = some (.lst (ns.map V.int)) ∧
          ∃ (as : List Addr) (rows : List (Nat × Nat × Nat)), H' f = some (.lst (as.map V.ref)) ∧ TupsAt H' as (rows.map rowV) ∧ rows.length = i ∧ ∀ r ∈ rows, okRow r) (fun H4 e4 => ?_) ?_ ?_
      · rw [hn2, if_pos (of_decide_eq_true hb)]
      · rw [hn2, if_neg (of_decide_eq_false hb)]
      · exact ⟨none, none, none, none, none, none, rfl, ((e1.trans e2).trans e3).trans e4, e4 _ _ (e3 _ _ (e2 _ _ h1)), [], [], e4 _ _ (e3 _ _ h2), .nil, rfl, fun r hr => by cases hr⟩
      · rintro i σ' H' hi ⟨y0, y1, y2, y3, y4, y5, rfl, eH, hc', as, rows, hf', hT, hrl, hok⟩
        have hil : i < ns.length := by omega
        have hpos : 0 < ns.length := by omega
        have at1 : atI (ns.map V.int) (i : Int) = some (.int ns[i]) := atI_nat (by rw [List.getElem?_map, List.getElem?_eq_getElem hil]; rfl)
        have atm : ∀ j : Nat, ∃ z, z ∈ ns ∧ atI (ns.map V.int) (((i : Int) + (j : Int)) % (ns.length : Int)) = some (.int z) := fun j => by
          have hl : (i + j) % ns.length < ns.length := Nat.mod_lt _ hpos
          refine ⟨ns[(i + j) % ns.length], List.getElem_mem hl, ?_⟩
          rw [← Int.natCast_add, ← Int.natCast_emod]
          exact atI_nat (by rw [List.getElem?_map, List.getElem?_eq_getElem hl]; rfl)
        obtain ⟨b1, hb1, at2⟩ := atm 1
        obtain ⟨b2, hb2, at3⟩ := atm 2
        have hsq : SqL K H' c (ns.map V.int) := sq_of hc'
        refine q_par (ea_cons (ev_op (ev_var rfl) (ev_var rfl) (rv_ixL hsq at1)) (ea_cons (ev_op (ev_var rfl) (ev_op (ev_op (ev_var rfl) ev_c rv_I0) (ev_var rfl) (rv_I (by show (0 : Int) < _; omega))) (rv_ixL hsq at2)) ea_nil)) fun H4 e4 => ?_
        refine q_asg (ev_op (ev_var rfl) (ev_op (ev_op (ev_var rfl) ev_c rv_I0) (ev_var rfl) (rv_I (by show (0 : Int) < _; omega))) (rv_ixL (ex_l e4 hsq) at3)) fun H5 e5 => ?_
        have w0 : (ns[i]).natAbs < 2 ^ BS := bits_lt (hbits _ (List.getElem_mem hil))
        have w1 : b1.natAbs < 2 ^ BS := bits_lt (hbits _ hb1)
        have w2 : b2.natAbs < 2 ^ BS := bits_lt (hbits _ hb2)
        have e45 := e4.trans e5
        -- the row is laid, whatever the three cells are
        refine q_rest (fun σ' H6 => ∃ (o1 o2 o3 : Int) (yy : Option V), σ' = [some (.ref c), some (.int ns.sum), some (.ref f), some (.int (ns.length : Int)), some (.int (M : Int)), some (.int (L : Int)), some (.int (Z : Int)), some (.int (i : Int)), some (.int o1), some (.int o2), some (.int o3), yy, y5] ∧ Ex H' H6) ?lay fun lay => ?fork
        case lay =>
          rintro _ H6 ⟨o1, o2, o3, yy, rfl, e6⟩
          refine q_asg (ev_op (ev_var rfl) (ev_var rfl) (rv_I (small_div m0 m1 _))) fun H7 e7 => ?_
          have hf7 : H7 f = some (.lst (as.map V.ref)) := e7 _ _ (e6 _ _ hf')
          obtain ⟨s1, es1, ls1⟩ := mod_nat m0 o1
          obtain ⟨s2, es2, ls2⟩ := mod_nat l0 (o1 / (M : Int) + o2)
          obtain ⟨s3, es3, ls3⟩ := mod_nat z0 (o1 / (M : Int) / (L : Int) + o3)
          refine s_appU hf7 (ev_var rfl) (eu_tup (ea_cons (ev_op (ev_var rfl) (ev_var rfl) (rv_I (by show (0 : Int) < _; omega))) (ea_cons (ev_op (ev_op (ev_var rfl) (ev_var rfl) rv_I0) (ev_var rfl) (rv_I (by show (0 : Int) < _; omega)))
            (ea_cons (ev_op (ev_op (ev_op (ev_var rfl) (ev_var rfl) (rv_I (small_div l0 (Nat.le_trans l1 (by decide)) _))) (ev_var rfl) rv_I0) (ev_var rfl) (rv_I (by show (0 : Int) < _; omega))) ea_nil))) (by show 3 ≤ 100000; decide)) (by rw [List.length_map, hT.1, List.length_map]; omega) fun q H8 hq e8 h8 => ?_
          rw [es1, es2, es3] at h8
          have hf8 : H8 f = some (.lst (as.map V.ref)) := e8 _ _ hf7
          have hT8 : TupsAt H8 as (rows.map rowV) := hT.mono ((e6.trans e7).trans e8)
          refine ⟨_, _, _, _, _, _, rfl, Ex.mut (((eH.trans e6).trans e7).trans e8) hHf, ?_, as ++ [q], rows ++ [(s1, s2, s3)], ?_, ?_, ?_, ?_⟩
          · rw [upd_ne hcf]
            exact e8 _ _ (e7 _ _ (e6 _ _ hc'))
          · rw [upd_same, List.map_append]
            rfl
          · rw [List.map_append]
            exact (hT8.snoc h8).upd hf8
          · rw [List.length_append, hrl]
            rfl
          · intro r hr
            rcases List.mem_append.mp hr with z | z
            · exact hok r z
            · have er : r = (s1, s2, s3) := by simpa using z
              rw [er]
              exact ⟨by show s1 ≤ _; omega, by show s2 ≤ _; omega, by show s3 ≤ _; omega⟩
        refine q_when (et_test (ev_op (ev_op (ev_op (ev_var rfl) ev_c (rv_I (wide_div (b := 30) (by decide) (by decide) (by decide) (by decide)))) ev_c (rv_I (by show (0 : Int) < _; decide))) ev_c rv_eqI)) (fun _ H6 e6 => ?_) (fun _ H6 e6 => lay _ H6 ⟨_, _, _, _, rfl, e45.trans e6⟩)
        have hp := part_bits (x := ns[i]) (y := b1) (i := i) w0 w1 (by omega)
        have hm1 : ∀ z : Int, z.natAbs < 2 ^ BS → CMulX z 48271 := fun z hz => mulx_ok (b := 20) hz (by decide) (by decide)
        have hm2 : ∀ z : Int, z.natAbs < 2 ^ BS → CMulX z 69621 := fun z hz => mulx_ok (b := 20) hz (by decide) (by decide)
        have hpp := wide_lt hp hp
        refine q_asg (ev_op (ev_op (ev_op (ev_op (ev_var rfl) ev_c (rv_I (hm1 _ w0))) (ev_op (ev_var rfl) ev_c (rv_I (hm2 _ w1))) rv_I0) (ev_var rfl) rv_I0) ev_c rv_I0) fun H7 e7 => ?_
        refine q_asg (ev_op (ev_op (ev_var rfl) (ev_var rfl) (rv_I (mulx_ok hp hp (by decide)))) (ev_var rfl) (rv_I (mulx_ok hpp hp (by decide)))) fun H8 e8 => ?_
        refine q_asg (ev_op (ev_var rfl) (ev_op (ev_op (ev_var rfl) (ev_var rfl) (rv_I (mulx_ok hp hp (by decide)))) ev_c (rv_I (by show (0 : Int) < _; decide))) rv_I0) fun H9 e9 => ?_
        refine s_asg (ev_op (ev_var rfl) (ev_op (ev_op (ev_var rfl) (ev_var rfl) (rv_I (mulx_ok hp hp (by decide)))) ev_c (rv_I (by show (0 : Int) < _; decide))) rv_I0) fun H10 e10 => ?_
        exact lay _ H10 ⟨_, _, _, _, rfl, ((((e45.trans e6).trans e7).trans e8).trans e9).trans e10⟩
      · rintro σ' H' ⟨y0, y1, y2, y3, y4, y5, rfl, eH, hc', as, rows, hf', hT, hrl, hok⟩
        refine s_ret (ev_var rfl) fun H4 e4 => ?_
        rw [Int.toNat_natCast] at hrl
        exact k _ H4 (eH.trans e4) ⟨f, rows, rfl, hok, by omega, as, e4 _ _ hf', hT.mono e4⟩
    refine q_when (et_test (ev_op (ev_op (ev_op (ev_var rfl) ev_c (rv_I (wide_div (b := 30) (by decide) (by decide) (by decide) (by decide)))) ev_c (rv_I (by show (0 : Int) < _; decide))) ev_c rv_eqI)) (fun _ H4 e4 => ?_) (fun _ H4 e4 => rest _ H4 ⟨M, L, Z, rfl, m0, m1, l0, l1, z0, z1, e3.trans e4⟩)
    obtain ⟨Y, hY, y0, y1⟩ := menu_two ns.sum
    refine s_par3 (ea_cons (ev_op (ev_op ev_c ev_c (rv_I (by show CPow _ _; exact ⟨by decide, by decide, by decide⟩))) ev_c rv_I0) (ea_cons ev_c (ea_cons (ev_ixU (eu_tup (ea_cons ev_c (ea_cons (ev_op (ev_op ev_c ev_c (rv_I (by show CPow _ _; exact ⟨by decide, by decide, by decide⟩))) ev_c rv_I0) ea_nil)) (by decide)) (ev_op (ev_var rfl) ev_c (rv_I (by show (0 : Int) < _; decide))) hY) ea_nil))) fun H5 e5 => ?_
    exact rest _ H5 ⟨10 ^ 60 + 1, 301, Y, rfl, by decide, by decide, by decide, by decide, y0, y1, (e3.trans e4).trans e5⟩
def spLaw (K : PySem.W.Frag) : Sp := fun vs H Q _ => ∃ (a : Addr) (ns : List Int), vs = [.ref a] ∧ SqL K H a (ns.map V.int) ∧ ns.length ≤ 63 ∧ (∀ z ∈ ns, Builtin.Int.intBits z ≤ 1048576) ∧ ∀ H', Q (.bl true) H'
theorem row_at {rows : List (Nat × Nat × Nat)} {n : Nat} {row : List V} (h : (rows.map rowV)[n]? = some row) : ∃ r, r ∈ rows ∧ row = rowV r := by
  rw [List.getElem?_map] at h
  cases e : rows[n]? with
  | none =>
    rw [e] at h
    cases h
  | some r =>
    rw [e] at h
    exact ⟨r, List.mem_of_getElem? e, (Option.some.inj h).symm⟩
/-! ### _law_near -/
def rNear (H : Hp) (vs : List V) (Post : V → Hp → Prop) : Prop := ∃ (p : Addr) (rows : List (Nat × Nat × Nat)), vs = [.ref p] ∧ ListT H p (rows.map rowV) ∧ (∀ r ∈ rows, okRow r) ∧ rows.length ≤ 63 ∧ Post = GoodRows (2 * rows.length)
theorem near_min (x : Int) : ∃ m : Nat, (if (if x > 0 then x else 0) < (10 : Int) ^ (60 : Int).toNat then (if x > 0 then x else 0) else (10 : Int) ^ (60 : Int).toNat) = (m : Int) ∧ m ≤ 10 ^ 60 := by
  have e : (10 : Int) ^ (60 : Int).toNat = 10 ^ 60 := rfl
  rw [e]
  by_cases h : x > 0
  · rw [if_pos h]
    by_cases h2 : x < 10 ^ 60
    · rw [if_pos h2]
      exact ⟨x.toNat, by omega, by omega⟩
    · rw [if_neg h2]
      exact ⟨10 ^ 60, rfl, Nat.le_refl _⟩
  · rw [if_neg h, if_pos (by decide)]
    exact ⟨0, rfl, by decide⟩
theorem ok_law_near (T : Tx K mg A) : FnOk P w K mg base CX0 2 A.a_law_near A.d_law_near ["_law_states_here"] (spN rNear) := by
  refine T.f_law_near.ok sc_law_near (fun vs H Q E h => ?_) (fun cdv Ar outer s H vs Q E hr h => ?_)
  · obtain ⟨Post, ⟨p, rows, rfl, _⟩, _⟩ := h
    rfl
  · obtain ⟨Post, ⟨p, rows, rfl, hL, hok, hlen, rfl⟩, k⟩ := h
    refine ⟨_, (pss_cons (ps_set (i := 1) sc_law_near.nd rfl (.inl rfl) (pe_lst pa_nil))
      (pss_cons (ps_for PassesOwn.never rfl (pi_enum (by rfl) T.z_enumerate (pa_cons (pv 0) pa_nil)) (pg_tup rfl (pgs_cons (pg_name (i := 2) sc_law_near.nd rfl (.inl rfl)) (pgs_cons (pg_tup rfl (pgs_cons (pg_name (i := 3) sc_law_near.nd rfl (.inl rfl)) (pgs_cons (pg_name (i := 4) sc_law_near.nd rfl (.inl rfl)) (pgs_cons (pg_name (i := 5) sc_law_near.nd rfl (.inl rfl)) pgs_nil)))) pgs_nil)))
        (pss_cons (ps_set (i := 6) sc_law_near.nd rfl (.inl rfl) (pe_call (ok_law_reach T) (hr.mono (by decide)) (by rfl) T.g_law_reach T.f_law_reach.kp T.b_law_reach .nil pass0 (pa_cons (pv 5) (pa_cons (pv 4) pa_nil))))
      (pss_cons (ps_expr (pe_bm PySem.F.plainAttrs_list PySem.F.slot_list_append PySem.F.type_list_append mt_append (pv 1) (pa_cons (pe_tup (pa_cons (pv 3) (pa_cons (pv 4) (pa_cons (pv 5) pa_nil)))) pa_nil)))
      (pss_one (ps_expr (pe_bm PySem.F.plainAttrs_list PySem.F.slot_list_append PySem.F.type_list_append mt_append (pv 1) (pa_cons (pe_tup (pa_cons (pe_callB (call_min2 rfl) (by rfl) T.z_min (by decide +kernel) (pa_cons (pe_op op_pow pe_int pe_int) (pa_cons (pe_callB (call_max2 rfl) (by rfl) T.z_max (by decide +kernel) (pa_cons pe_int (pa_cons (pe_op op_sub (pe_op op_add (pv 6) (pe_op op_mod (pv 2) pe_int)) pe_int) pa_nil))) pa_nil))) (pa_cons (pv 4) (pa_cons (pv 5) pa_nil)))) pa_nil)))))))
      (pss_one (ps_ret (pv 1))))), ?_⟩
    refine q_asgL (el_lst ea_nil (by decide)) fun f H1 hf e1 h1 => ?_
    obtain ⟨as, hp, hT⟩ := hL.mono e1
    refine q_enumRows (en_of (ev_var rfl)) fun v H2 e2 hv => ?_
    obtain ⟨rfl, e2⟩ := hv
    have hpf : p ≠ f := by
      obtain ⟨as0, hp0, _⟩ := hL
      exact ne_of_none hp0 hf
    refine ⟨p, as, rows.map rowV, fun i σ' H' => ∃ y2 y3 y4 y5 y6, σ' = [some (.ref p), some (.ref f), y2, y3, y4, y5, y6] ∧ Ex H H' ∧ H' p = some (.lst (as.map V.ref)) ∧ TupsAt H' as (rows.map rowV) ∧
      ∃ (bs : List Addr) (out : List (Nat × Nat × Nat)), H' f = some (.lst (bs.map V.ref)) ∧ TupsAt H' bs (out.map rowV) ∧ out.length = 2 * i ∧ ∀ r ∈ out, okRow r, rfl, e2 _ _ hp, hT.mono e2,
      ⟨none, none, none, none, none, rfl, e1.trans e2, e2 _ _ hp, hT.mono e2, [], [], e2 _ _ h1, .nil, rfl, fun r hr => by cases hr⟩, ?_, ?_, ?_⟩
    · rintro i σ' H' ⟨y2, y3, y4, y5, y6, rfl, eH, q1, q2, _⟩
      exact ⟨q1, q2⟩
    · rintro n row σ' H' Tp T2 hrow ⟨y2, y3, y4, y5, y6, rfl, eH, q1, q2, bs, out, q3, q4, q5, q6⟩ hnew hT2
      obtain ⟨⟨sr, g, t⟩, hm, rfl⟩ := row_at hrow
      obtain ⟨hs, hg, ht⟩ := hok _ hm
      have hT2 : H' T2 = some (.tup [.int (sr : Int), .int (g : Int), .int (t : Int)]) := hT2
      have hs : sr ≤ 10 ^ 60 := hs
      have hg : g ≤ 300 := hg
      have ht : t ≤ 10 ^ 40 := ht
      have hn : n < rows.length := by
        have := (List.getElem?_eq_some_iff.mp hrow).1
        rw [List.length_map] at this
        exact this
      have eN : Ex H' (upd H' Tp (.tup [.int (n : Int), .ref T2])) := Ex.new hnew
      refine g_1_3 upd_same (eN _ _ hT2) ?_
      generalize upd H' Tp (.tup [.int (n : Int), .ref T2]) = H3 at eN
      refine q_asg (ev_p (ea_cons (ev_var rfl) (ea_cons (ev_var rfl) ea_nil)) ⟨t, g, rfl, by omega, by omega, rfl⟩) fun H4 e4 => ?_
      have e34 := eN.trans e4
      refine q_appU (e34 _ _ q3) (ev_var rfl) (eu_tup (ea_cons (ev_var rfl) (ea_cons (ev_var rfl) (ea_cons (ev_var rfl) ea_nil))) (by show 3 ≤ 100000; decide)) (by rw [List.length_map, q4.1, List.length_map]; omega) fun a1 H5 ha1 e5 h5 => ?_
      have e345 := e34.trans e5
      have f5 : H5 f = some (.lst (bs.map V.ref)) := e345 _ _ q3
      obtain ⟨m, hmin, hm60⟩ := near_min (((R t g : Nat) : Int) + (n : Int) % 3 - 1)
      refine s_appU (l := f) (xs := bs.map V.ref ++ [.ref a1]) upd_same (ev_var rfl) (eu_tup (ea_cons (ev_is (ev_cb (ea_cons (ev_op ev_c ev_c (rv_I (by show CPow _ _; exact ⟨by decide, by decide, by decide⟩))) (ea_cons (ev_cb (ea_cons ev_c (ea_cons (ev_op (ev_op (ev_var rfl) (ev_op (ev_var rfl) ev_c (rv_I (by show (0 : Int) < _; decide))) rv_I0) ev_c rv_I0) ea_nil)) rc_max2) ea_nil)) rc_min2) (congrArg V.int hmin)) (ea_cons (ev_var rfl) (ea_cons (ev_var rfl) ea_nil))) (by show 3 ≤ 100000; decide))
        (by rw [List.length_append, List.length_map, q4.1, List.length_map]; show out.length + 1 < 100000; omega) fun a2 H6 ha2 e6 h6 => ?_
      have hHf : H f = none := hf
      have exx : Ex H H6 := fun b o hb => by
        refine e6 _ _ ?_
        rw [upd_ne (ne_of_none hb hHf)]
        exact e345 _ _ (eH _ _ hb)
      have k1 : ∀ b r, H' b = some (.tup r) → H6 b = some (.tup r) := fun b r hb => e6 _ _ (tup_stays (e345 _ _ hb) f5)
      have f6 : H6 f = some (.lst (bs.map V.ref ++ [.ref a1])) := e6 _ _ upd_same
      refine ⟨_, _, _, _, _, rfl, Ex.mut exx hHf, ?_, ⟨q2.1, fun i a r i1 i2 => tup_stays (k1 _ _ (q2.2 i a r i1 i2)) f6⟩, bs ++ [a1] ++ [a2], out ++ [(sr, g, t)] ++ [(m, g, t)], ?_, ?_, ?_, ?_⟩
      · rw [upd_ne hpf]
        refine e6 _ _ ?_
        rw [upd_ne hpf]
        exact e345 _ _ q1
      · rw [upd_same, List.map_append, List.map_append]
        rfl
      · rw [List.map_append, List.map_append]
        have t6 : TupsAt H6 bs (out.map rowV) := ⟨q4.1, fun i a r i1 i2 => k1 _ _ (q4.2 i a r i1 i2)⟩
        have u1 : H6 a1 = some (.tup (rowV (sr, g, t))) := e6 _ _ (tup_stays h5 f5)
        exact ((t6.snoc u1).snoc h6).upd f6
      · rw [List.length_append, List.length_append, q5]
        show 2 * n + 1 + 1 = 2 * (n + 1)
        omega
      · intro r hr
        rcases List.mem_append.mp hr with z | z
        · rcases List.mem_append.mp z with z | z
          · exact q6 r z
          · have er : r = (sr, g, t) := by simpa using z
            rw [er]
            exact ⟨hs, hg, ht⟩
        · have er : r = (m, g, t) := by simpa using z
          rw [er]
          exact ⟨hm60, hg, ht⟩
    · rintro σ' H' ⟨y2, y3, y4, y5, y6, rfl, eH, q1, q2, bs, out, q3, q4, q5, q6⟩
      refine s_ret (ev_var rfl) fun H4 e4 => ?_
      rw [List.length_map] at q5
      exact k _ H4 (eH.trans e4) ⟨f, out, rfl, q6, by omega, bs, e4 _ _ q3, q4.mono e4⟩
/-! ### _law_says -/
def rSays (vs : List V) (v : V) : Prop := ∃ a b : Bool, vs = [.bl a, .bl b] ∧ v = .bl (decide (a = b))
theorem ok_law_says (T : Tx K mg A) : FnOk P w K mg base CX0 1 A.a_law_says A.d_law_says ["_law_said", "_law_due"] (spP rSays) := by
  refine T.f_law_says.ok sc_law_says (fun vs H Q E h => ?_) (fun cdv Ar outer s H vs Q E hr h => ?_)
  · obtain ⟨v, ⟨a, b, rfl, _⟩, _⟩ := h
    rfl
  · obtain ⟨v, ⟨a, b, rfl, rfl⟩, k⟩ := h
    refine ⟨_, (pss_one (ps_ret (pe_and (pe_callB call_isi (by rfl) T.z_isinstance (by decide +kernel) (pa_cons (pv 0) (pa_cons (pe_bltn (v := .ty "bool") (by rfl) T.z_bool (by decide +kernel) rfl) pa_nil))) (pe_one (pe_cmpR op_eq (pv 0) (pv 1) (nomark _)))))), ?_⟩
    exact s_ret (ev_is (ev_andV (a := true) (ev_cb (ea_cons (ev_var rfl) (ea_cons ev_c ea_nil)) (rc_isi_bl (by decide +kernel))) fun _ => ev_op (ev_var rfl) (ev_var rfl) rv_eqB) rfl) fun H1 e1 => k H1 e1
/-! ### what is asked -/
theorem first_is (g t : Nat) : (if (decide ((0 : Int) < (g : Int)) && decide ((0 : Int) < (t : Int))) = true then ((R (t - 1) (g - 1) : Nat) : Int) + 1 else 1) = ((R (t - 1) (g - 1) + 1 : Nat) : Int) := by
  by_cases h : (decide ((0 : Int) < (g : Int)) && decide ((0 : Int) < (t : Int))) = true
  · rw [if_pos h]
    rfl
  · rw [if_neg h]
    have q : t - 1 = 0 ∨ g - 1 = 0 := by
      by_cases hg : (0 : Int) < (g : Int)
      · by_cases ht : (0 : Int) < (t : Int)
        · exact absurd (by rw [decide_eq_true hg, decide_eq_true ht]; rfl) h
        · omega
      · omega
    rw [R_zero_iff q]
    rfl
theorem due_next (z : Int) (s g t : Nat) : (decide ((0 : Int) < (g : Int)) && (decide ((0 : Int) < (t : Int)) && ((decide ((1 : Int) ≤ z) && decide (z ≤ (s : Int))) && (decide (z ≤ ((R (t - 1) (g - 1) + 1 : Nat) : Int)) && decide ((s : Int) - z ≤ ((R (t - 1) g : Nat) : Int)))))) = showsN z s g t := by
  unfold showsN
  by_cases h : g = 0 ∨ t = 0 ∨ ¬ (1 ≤ z ∧ z ≤ (s : Int))
  · rw [if_pos h]
    rcases h with h | h | h
    · rw [decide_eq_false (show ¬ (0 : Int) < (g : Int) by omega)]
      rfl
    · rw [decide_eq_false (show ¬ (0 : Int) < (t : Int) by omega)]
      simp
    · by_cases h1 : (1 : Int) ≤ z
      · rw [decide_eq_false (show ¬ z ≤ (s : Int) from fun q => h ⟨h1, q⟩)]
        simp
      · rw [decide_eq_false h1]
        simp
  · have h1 : 1 ≤ z ∧ z ≤ (s : Int) := by
      by_cases q : 1 ≤ z ∧ z ≤ (s : Int)
      · exact q
      · exact absurd (.inr (.inr q)) h
    rw [if_neg h, decide_eq_true (show (0 : Int) < (g : Int) by omega), decide_eq_true (show (0 : Int) < (t : Int) by omega), decide_eq_true h1.1, decide_eq_true h1.2]
    by_cases q : ((R (t - 1) (g - 1) : Nat) : Int) < z - 1
    · rw [if_pos q, decide_eq_false (show ¬ z ≤ ((R (t - 1) (g - 1) + 1 : Nat) : Int) by omega)]
      rfl
    · rw [if_neg q, decide_eq_true (show z ≤ ((R (t - 1) (g - 1) + 1 : Nat) : Int) by omega)]
      rfl
theorem int_at {zs : List Int} {i : Nat} {x : V} (h : (zs.map V.int)[i]? = some x) : ∃ z, x = .int z := by
  rw [List.getElem?_map] at h
  cases e : zs[i]? with
  | none =>
    rw [e] at h
    cases h
  | some z =>
    rw [e] at h
    exact ⟨z, (Option.some.inj h).symm⟩
/-- an answer just made, asked -/
theorem shows_next (T : Tx K mg A) {σ : L2.St} {H : Hp} {ta : TE} {E : XK} {tr : TA} {z : Int} {s g t : Nat} {b : Bool} (ha : EvI ta σ H A.a_Next [("storey", .int z)]) (h : EvA tr σ H [.int (s : Int), .int (g : Int), .int (t : Int)]) (ht : t < 2 ^ 256) (hg : g ≤ 400) (hb : showsN z s g t = b) :
    Ev (tMeth A.a_Next "shows" (spH (rShows A isN)) [] E ta tr) σ H (.bl b) := ev_methI ha no_shows1 h fun a dx H1 _ h1 => ⟨a, .next z, s, g, t, rfl, ⟨dx, h1⟩, trivial, ht, hg, by rw [← hb]; rfl⟩
theorem shows_short (T : Tx K mg A) {σ : L2.St} {H : Hp} {ta : TE} {E : XK} {tr : TA} {m : Int} {s g t : Nat} {b : Bool} (ha : EvI ta σ H A.a_Short [("most", .int m)]) (h : EvA tr σ H [.int (s : Int), .int (g : Int), .int (t : Int)]) (ht : t < 2 ^ 256) (hg : g ≤ 400) (hb : (decide (m = ((R t g : Nat) : Int)) && decide (m < (s : Int))) = b) :
    Ev (tMeth A.a_Short "shows" (spH (rShows A isS)) [] E ta tr) σ H (.bl b) := ev_methI ha no_shows2 h fun a dx H1 _ h1 => ⟨a, .short m, s, g, t, rfl, ⟨dx, h1⟩, trivial, ht, hg, by rw [← hb]; rfl⟩
theorem shows_done (T : Tx K mg A) {σ : L2.St} {H : Hp} {ta : TE} {E : XK} {tr : TA} {s g t : Nat} {b : Bool} (ha : EvI ta σ H A.a_Done []) (h : EvA tr σ H [.int (s : Int), .int (g : Int), .int (t : Int)]) (ht : t < 2 ^ 256) (hg : g ≤ 400) (hb : decide ((s : Int) = 0) = b) :
    Ev (tMeth A.a_Done "shows" (spH (rShows A isD)) [] E ta tr) σ H (.bl b) := ev_methI ha rfl h fun a dx H1 _ h1 => ⟨a, .done, s, g, t, rfl, ⟨dx, h1⟩, trivial, ht, hg, by rw [← hb]; rfl⟩
theorem ok_law (T : Tx K mg A) : FnOk P w K mg base CX0 3 A.a_law A.d_law ["_law_script"] (spLaw K) := by
  refine T.f_law.ok sc_law (fun vs H Q E h => ?_) (fun cdv Ar outer s H vs Q E hr h => ?_)
  · obtain ⟨a, ns, rfl, _⟩ := h
    rfl
  · obtain ⟨a, ns, rfl, hS, hlen, hbits, k⟩ := h
    refine ⟨_, (pss_cons (ps_for PassesOwn.never rfl (pi_enum (by rfl) T.z_enumerate (pa_cons (pe_call (ok_law_near T) (hr.mono (by decide)) (by rfl) T.g_law_near T.f_law_near.kp T.b_law_near .nil pass0 (pa_cons (pe_call (ok_law_states T) (hr.mono (by decide)) (by rfl) T.g_law_states T.f_law_states.kp T.b_law_states .nil pass0 (pa_cons (pv 0) pa_nil)) pa_nil)) pa_nil)) (pg_tup rfl (pgs_cons (pg_name (i := 1) sc_law.nd rfl (.inl rfl)) (pgs_cons (pg_tup rfl (pgs_cons (pg_name (i := 2) sc_law.nd rfl (.inl rfl)) (pgs_cons (pg_name (i := 3) sc_law.nd rfl (.inl rfl)) (pgs_cons (pg_name (i := 4) sc_law.nd rfl (.inl rfl)) pgs_nil)))) pgs_nil)))
        (pss_cons (ps_set (i := 5) sc_law.nd rfl (.inl rfl) (pe_ix ix_list (pv 0) (pe_op op_mod (pe_op op_fdivW (pv 1) pe_int) (pe_callB call_len_seq (by rfl) T.z_len (by decide +kernel) (pa_cons (pe_slice sl_list (pv 0) po_none (po_some pe_int)) pa_nil))) (fun _ _ => rfl)))
      (pss_cons (ps_set (i := 6) sc_law.nd rfl (.inl rfl) (pe_call (ok_law_reach T) (hr.mono (by decide)) (by rfl) T.g_law_reach T.f_law_reach.kp T.b_law_reach .nil pass0 (pa_cons (pv 4) (pa_cons (pv 3) pa_nil))))
      (pss_cons (ps_set (i := 7) sc_law.nd rfl (.inl rfl) (pe_ifExp (PW.pt (pw_and (pt_cmpR op_gt (pv 3) pe_int (nomark _)) (pw_and1 (pt_cmpR op_gt (pv 4) pe_int (nomark _))))) (pe_op op_add (pe_call (ok_law_reach T) (hr.mono (by decide)) (by rfl) T.g_law_reach T.f_law_reach.kp T.b_law_reach .nil pass0 (pa_cons (pe_op op_sub (pv 4) pe_int) (pa_cons (pe_op op_sub (pv 3) pe_int) pa_nil))) pe_int) pe_int))
      (pss_cons (ps_set (i := 8) sc_law.nd rfl (.inl rfl) (pe_ifExp (pt_cmpR op_gt (pv 4) pe_int (nomark _)) (pe_call (ok_law_reach T) (hr.mono (by decide)) (by rfl) T.g_law_reach T.f_law_reach.kp T.b_law_reach .nil pass0 (pa_cons (pe_op op_sub (pv 4) pe_int) (pa_cons (pv 3) pa_nil))) pe_int))
      (pss_cons (ps_for PassesOwn.never rfl (pi_list (pe_lst (pa_cons (pv 7) (pa_cons (pe_op op_add (pv 7) pe_int) (pa_cons (pe_op op_sub (pv 2) (pv 8)) (pa_cons (pe_op op_sub (pe_op op_sub (pv 2) (pv 8)) pe_int) (pa_cons pe_int (pa_cons (pv 2) (pa_cons pe_int (pa_cons (pe_un un_neg (pv 5)) (pa_cons (pv 5) pa_nil))))))))))) (pg_name (i := 9) sc_law.nd rfl (.inl rfl))
        (pss_cons (ps_set (i := 10) sc_law.nd rfl (.inl rfl) (pe_and (pe_cmpR op_gt (pv 3) pe_int (nomark _)) (pe_and (pe_cmpR op_gt (pv 4) pe_int (nomark _)) (pe_and (pe_chain op_le op_le pe_int (pv 9) (pv 2)) (pe_and (pe_cmpR op_le (pv 9) (pv 7) (nomark _)) (pe_one (pe_cmpR op_le (pe_op op_sub (pv 2) (pv 9)) (pv 8) (nomark _))))))))
      (pss_cons (ps_set (i := 11) sc_law.nd rfl (.inl rfl) (pe_make T.k_Next (ok_Next__init T) (hr.mono (by decide)) (by rfl) T.g_Next T.b_Next__init .nil pass0 (pa_cons (pv 9) pa_nil)))
      (pss_one (ps_if (PW.pt (pw_or (pt_cmpR op_ne (pe_fld (pv 11) rfl) (pv 9) (nomark _)) (pw_or1 (pt_not (pt_val (pe_call (ok_law_says T) (hr.mono (by decide)) (by rfl) T.g_law_says T.f_law_says.kp T.b_law_says .nil pass0 (pa_cons (pe_alt (pe_meth (pv 11) T.t_Done.cl T.m_Done_shows (ok_Done_shows T) (hr.mono (by decide)) T.b_Done_shows .nil pass0 (pa_cons (pv 2) (pa_cons (pv 3) (pa_cons (pv 4) pa_nil)))) (pe_alt (pe_meth (pv 11) T.t_Next.cl T.m_Next_shows (ok_Next_shows T) (hr.mono (by decide)) T.b_Next_shows .nil pass0 (pa_cons (pv 2) (pa_cons (pv 3) (pa_cons (pv 4) pa_nil)))) (pe_meth (pv 11) T.t_Short.cl T.m_Short_shows (ok_Short_shows T) (hr.mono (by decide)) T.b_Short_shows .nil pass0 (pa_cons (pv 2) (pa_cons (pv 3) (pa_cons (pv 4) pa_nil)))))) (pa_cons (pv 10) pa_nil)))))))) (pss_one (ps_ret pe_bl)) pss_nil)))))
      (pss_cons (ps_for PassesOwn.never rfl (pi_list (pe_lst (pa_cons (pv 6) (pa_cons (pe_op op_add (pv 6) pe_int) (pa_cons (pe_op op_sub (pv 6) pe_int) (pa_cons (pv 2) (pa_cons (pe_un un_neg pe_int) (pa_cons (pv 5) pa_nil)))))))) (pg_name (i := 12) sc_law.nd rfl (.inl rfl))
        (pss_cons (ps_set (i := 11) sc_law.nd rfl (.inl rfl) (pe_make T.k_Short (ok_Short__init T) (hr.mono (by decide)) (by rfl) T.g_Short T.b_Short__init .nil pass0 (pa_cons (pv 12) pa_nil)))
      (pss_cons (ps_set (i := 10) sc_law.nd rfl (.inl rfl) (pe_and (pe_cmpR op_eq (pv 12) (pv 6) (nomark _)) (pe_one (pe_cmpR op_lt (pv 12) (pv 2) (nomark _)))))
      (pss_one (ps_if (PW.pt (pw_or (pt_cmpR op_ne (pe_fld (pv 11) rfl) (pv 12) (nomark _)) (pw_or1 (pt_not (pt_val (pe_call (ok_law_says T) (hr.mono (by decide)) (by rfl) T.g_law_says T.f_law_says.kp T.b_law_says .nil pass0 (pa_cons (pe_alt (pe_meth (pv 11) T.t_Done.cl T.m_Done_shows (ok_Done_shows T) (hr.mono (by decide)) T.b_Done_shows .nil pass0 (pa_cons (pv 2) (pa_cons (pv 3) (pa_cons (pv 4) pa_nil)))) (pe_alt (pe_meth (pv 11) T.t_Next.cl T.m_Next_shows (ok_Next_shows T) (hr.mono (by decide)) T.b_Next_shows .nil pass0 (pa_cons (pv 2) (pa_cons (pv 3) (pa_cons (pv 4) pa_nil)))) (pe_meth (pv 11) T.t_Short.cl T.m_Short_shows (ok_Short_shows T) (hr.mono (by decide)) T.b_Short_shows .nil pass0 (pa_cons (pv 2) (pa_cons (pv 3) (pa_cons (pv 4) pa_nil)))))) (pa_cons (pv 10) pa_nil)))))))) (pss_one (ps_ret pe_bl)) pss_nil)))))
      (pss_one (ps_if (pt_not (pt_val (pe_call (ok_law_says T) (hr.mono (by decide)) (by rfl) T.g_law_says T.f_law_says.kp T.b_law_says .nil pass0 (pa_cons (pe_meth (pe_makeN T.k_Done (by rfl) T.g_Done) T.t_Done.cl T.m_Done_shows (ok_Done_shows T) (hr.mono (by decide)) T.b_Done_shows .nil pass0 (pa_cons (pv 2) (pa_cons (pv 3) (pa_cons (pv 4) pa_nil)))) (pa_cons (pe_cmpR op_eq (pv 2) pe_int (nomark _)) pa_nil))))) (pss_one (ps_ret pe_bl)) pss_nil)))))))))
      (pss_cons (ps_set (i := 13) sc_law.nd rfl (.inl rfl) (pe_lst (pa_cons (pe_meth (pe_make T.k_Next (ok_Next__init T) (hr.mono (by decide)) (by rfl) T.g_Next T.b_Next__init .nil pass0 (pa_cons pe_int pa_nil)) T.t_Next.cl T.m_Next_shows (ok_Next_shows T) (hr.mono (by decide)) T.b_Next_shows .nil pass0 (pa_cons pe_int (pa_cons pe_int (pa_cons pe_int pa_nil)))) (pa_cons (pe_meth (pe_make T.k_Next (ok_Next__init T) (hr.mono (by decide)) (by rfl) T.g_Next T.b_Next__init .nil pass0 (pa_cons pe_int pa_nil)) T.t_Next.cl T.m_Next_shows (ok_Next_shows T) (hr.mono (by decide)) T.b_Next_shows .nil pass0 (pa_cons pe_int (pa_cons pe_int (pa_cons pe_int pa_nil)))) (pa_cons (pe_meth (pe_make T.k_Short (ok_Short__init T) (hr.mono (by decide)) (by rfl) T.g_Short T.b_Short__init .nil pass0 (pa_cons pe_int pa_nil)) T.t_Short.cl T.m_Short_shows (ok_Short_shows T) (hr.mono (by decide)) T.b_Short_shows .nil pass0 (pa_cons pe_int (pa_cons pe_int (pa_cons pe_int pa_nil)))) (pa_cons (pe_meth (pe_makeN T.k_Done (by rfl) T.g_Done) T.t_Done.cl T.m_Done_shows (ok_Done_shows T) (hr.mono (by decide)) T.b_Done_shows .nil pass0 (pa_cons pe_int (pa_cons pe_int (pa_cons pe_int pa_nil)))) pa_nil))))))
      (pss_cons (ps_set (i := 14) sc_law.nd rfl (.inl rfl) (pe_lst (pa_cons (pe_meth (pe_make T.k_Next (ok_Next__init T) (hr.mono (by decide)) (by rfl) T.g_Next T.b_Next__init .nil pass0 (pa_cons pe_int pa_nil)) T.t_Next.cl T.m_Next_shows (ok_Next_shows T) (hr.mono (by decide)) T.b_Next_shows .nil pass0 (pa_cons pe_int (pa_cons pe_int (pa_cons pe_int pa_nil)))) (pa_cons (pe_meth (pe_make T.k_Next (ok_Next__init T) (hr.mono (by decide)) (by rfl) T.g_Next T.b_Next__init .nil pass0 (pa_cons pe_int pa_nil)) T.t_Next.cl T.m_Next_shows (ok_Next_shows T) (hr.mono (by decide)) T.b_Next_shows .nil pass0 (pa_cons pe_int (pa_cons pe_int (pa_cons pe_int pa_nil)))) (pa_cons (pe_meth (pe_make T.k_Next (ok_Next__init T) (hr.mono (by decide)) (by rfl) T.g_Next T.b_Next__init .nil pass0 (pa_cons pe_int pa_nil)) T.t_Next.cl T.m_Next_shows (ok_Next_shows T) (hr.mono (by decide)) T.b_Next_shows .nil pass0 (pa_cons pe_int (pa_cons pe_int (pa_cons pe_int pa_nil)))) (pa_cons (pe_meth (pe_make T.k_Next (ok_Next__init T) (hr.mono (by decide)) (by rfl) T.g_Next T.b_Next__init .nil pass0 (pa_cons pe_int pa_nil)) T.t_Next.cl T.m_Next_shows (ok_Next_shows T) (hr.mono (by decide)) T.b_Next_shows .nil pass0 (pa_cons pe_int (pa_cons pe_int (pa_cons pe_int pa_nil)))) pa_nil))))))
      (pss_cons (ps_set (i := 14) sc_law.nd rfl (.inl rfl) (pe_op op_cat (pv 14) (pe_lst (pa_cons (pe_meth (pe_make T.k_Next (ok_Next__init T) (hr.mono (by decide)) (by rfl) T.g_Next T.b_Next__init .nil pass0 (pa_cons pe_int pa_nil)) T.t_Next.cl T.m_Next_shows (ok_Next_shows T) (hr.mono (by decide)) T.b_Next_shows .nil pass0 (pa_cons pe_int (pa_cons pe_int (pa_cons pe_int pa_nil)))) (pa_cons (pe_meth (pe_make T.k_Short (ok_Short__init T) (hr.mono (by decide)) (by rfl) T.g_Short T.b_Short__init .nil pass0 (pa_cons pe_int pa_nil)) T.t_Short.cl T.m_Short_shows (ok_Short_shows T) (hr.mono (by decide)) T.b_Short_shows .nil pass0 (pa_cons pe_int (pa_cons pe_int (pa_cons pe_int pa_nil)))) (pa_cons (pe_meth (pe_make T.k_Short (ok_Short__init T) (hr.mono (by decide)) (by rfl) T.g_Short T.b_Short__init .nil pass0 (pa_cons pe_int pa_nil)) T.t_Short.cl T.m_Short_shows (ok_Short_shows T) (hr.mono (by decide)) T.b_Short_shows .nil pass0 (pa_cons pe_int (pa_cons pe_int (pa_cons pe_int pa_nil)))) (pa_cons (pe_meth (pe_makeN T.k_Done (by rfl) T.g_Done) T.t_Done.cl T.m_Done_shows (ok_Done_shows T) (hr.mono (by decide)) T.b_Done_shows .nil pass0 (pa_cons pe_int (pa_cons pe_int (pa_cons pe_int pa_nil)))) pa_nil)))))))
      (pss_one (ps_ret (pe_and (pe_callB (cr_all rfl) (by rfl) T.z_all (by decide +kernel) (pa_cons (pe_lc (own := [("_law_said", 15)]) (g := (gName 15)) (tt := tYes) (by rfl) sc_law.nd (pi_list (pv 13)) (blkOk_by (own := [("_law_said", 15)]) (N := ["_law_script", "_law_at", "_law_storeys", "_law_glasses", "_law_tries", "_law_cell", "_law_most_found", "_law_first", "_law_above", "_law_storey", "_law_due", "_law_made", "_law_most", "_law_good", "_law_bad", "_law_said"]) (sc := defScope s_law) (by decide +kernel)) (fun _ _ _ _ _ => (pg_name (i := 15) sc_law.nd rfl (.inl rfl))) (fun _ _ _ _ _ => pts_nil) (fun _ _ _ _ _ => (pe_call (ok_law_says T) (hr.mono (by decide)) (by rfl) T.g_law_says T.f_law_says.kp T.b_law_says .nil pass0 (pa_cons (pv 15) (pa_cons pe_bl pa_nil))))) pa_nil)) (pe_one (pe_callB (cr_all rfl) (by rfl) T.z_all (by decide +kernel) (pa_cons (pe_lc (own := [("_law_said", 15)]) (g := (gName 15)) (tt := tYes) (by rfl) sc_law.nd (pi_list (pv 14)) (blkOk_by (own := [("_law_said", 15)]) (N := ["_law_script", "_law_at", "_law_storeys", "_law_glasses", "_law_tries", "_law_cell", "_law_most_found", "_law_first", "_law_above", "_law_storey", "_law_due", "_law_made", "_law_most", "_law_good", "_law_bad", "_law_said"]) (sc := defScope s_law) (by decide +kernel)) (fun _ _ _ _ _ => (pg_name (i := 15) sc_law.nd rfl (.inl rfl))) (fun _ _ _ _ _ => pts_nil) (fun _ _ _ _ _ => (pe_call (ok_law_says T) (hr.mono (by decide)) (by rfl) T.g_law_says T.f_law_says.kp T.b_law_says .nil pass0 (pa_cons (pv 15) (pa_cons pe_bl pa_nil))))) pa_nil)))))))))), ?_⟩
    refine q_enumRows (Post := GoodRows (2 * ns.length)) (en_callNW (en_call (ea_cons (ev_var rfl) ea_nil) fun H1 e1 => ⟨a, ns, rfl, ex_l e1 hS, hlen, hbits, rfl⟩) fun v H1 e1 hm => ?_) fun v H1 e1 hp => ?_
    · obtain ⟨p, rows, rfl, hok, hl, hL⟩ := hm
      refine ⟨_, ⟨p, rows, rfl, hL, hok, by omega, rfl⟩, fun v' H2 h2 => ?_⟩
      obtain ⟨p2, rows2, h1, h3, h4, h5⟩ := h2
      exact ⟨p2, rows2, h1, h3, by omega, h5⟩
    obtain ⟨p, rows, rfl, hok, hl2, as, hLp, hLT⟩ := hp
    refine ⟨p, as, rows.map rowV, fun _ σ' H' => ∃ y1 y2 y3 y4 y5 y6 y7 y8 y9 y10 y11 y12 y13 y14 y15, σ' = [some (.ref a), y1, y2, y3, y4, y5, y6, y7, y8, y9, y10, y11, y12, y13, y14, y15] ∧ Ex H1 H', rfl, hLp, hLT, ⟨_, _, _, _, _, _, _, _, _, _, _, _, _, _, _, rfl, Ex.refl _⟩, ?_, ?_, ?_⟩
    · rintro i σ' H' ⟨y1, y2, y3, y4, y5, y6, y7, y8, y9, y10, y11, y12, y13, y14, y15, rfl, eH⟩
      exact ⟨eH _ _ hLp, hLT.mono eH⟩
    · rintro n row σ' H' Tp T2 hrow ⟨y1, y2, y3, y4, y5, y6, y7, y8, y9, y10, y11, y12, y13, y14, y15, rfl, eH⟩ hnew hT2
      obtain ⟨⟨sr, g, t⟩, hm, rfl⟩ := row_at hrow
      obtain ⟨hs, hg, ht⟩ := hok _ hm
      have hT2 : H' T2 = some (.tup [.int (sr : Int), .int (g : Int), .int (t : Int)]) := hT2
      have hs : sr ≤ 10 ^ 60 := hs
      have hg : g ≤ 300 := hg
      have ht : t ≤ 10 ^ 40 := ht
      have ht2 : t < 2 ^ 256 := by omega
      have hn : n < rows.length := by
        have := (List.getElem?_eq_some_iff.mp hrow).1
        rw [List.length_map] at this
        exact this
      have hpos : 0 < ns.length := by omega
      have eN : Ex H' (upd H' Tp (.tup [.int (n : Int), .ref T2])) := Ex.new hnew
      refine g_1_3 upd_same (eN _ _ hT2) ?_
      generalize upd H' Tp (.tup [.int (n : Int), .ref T2]) = H3 at eN
      have e13 := (e1.trans eH).trans eN
      have hS3 : SqL K H3 a (ns.map V.int) := ex_l e13 hS
      have hcut : (cutV (ns.map V.int) none (some 63)).length = ns.length := by rw [cut63, List.take_of_length_le hlen, List.length_map]
      obtain ⟨cz, hcz⟩ : ∃ cz, atI (ns.map V.int) ((n : Int) / 2 % (ns.length : Int)) = some (.int cz) := by
        have hl : n / 2 % ns.length < ns.length := Nat.mod_lt _ hpos
        refine ⟨ns[n / 2 % ns.length], ?_⟩
        have e2 : (n : Int) / 2 = ((n / 2 : Nat) : Int) := by omega
        rw [e2, ← Int.natCast_emod]
        exact atI_nat (by rw [List.getElem?_map, List.getElem?_eq_getElem hl]; rfl)
      refine q_asg (ev_op (ev_var rfl) (ev_op (ev_op (ev_var rfl) ev_c (rv_I (wide_div (b := 30) (by decide) (by decide) (by decide) (by decide)))) (ev_is (ev_lenNew (el_sl (ev_var rfl) eo_none (eo_some ev_c) hS3)) (by rw [hcut])) (rv_I (by show (0 : Int) < _; omega))) (rv_ixL hS3 hcz)) fun H4 e4 => ?_
      refine q_asg (ev_p (ea_cons (ev_var rfl) (ea_cons (ev_var rfl) ea_nil)) ⟨t, g, rfl, ht2, by omega, rfl⟩) fun H5 e5 => ?_
      refine q_asg (v := .int ((R (t - 1) (g - 1) + 1 : Nat) : Int)) (ev_if (et_and (et_test (ev_op (ev_var rfl) ev_c rv_I0)) fun _ => et_test (ev_op (ev_var rfl) ev_c rv_I0)) (fun hb => ?_) fun hb => ?_) fun H6 e6 => ?_
      · have c := (Bool.and_eq_true _ _).mp hb
        have c1 := of_decide_eq_true c.1
        have c2 := of_decide_eq_true c.2
        exact ev_is (ev_op (ev_p (ea_cons (ev_op (ev_var rfl) ev_c rv_I0) (ea_cons (ev_op (ev_var rfl) ev_c rv_I0) ea_nil)) ⟨t - 1, g - 1, args2 (by omega) (by omega), by omega, by omega, rfl⟩) ev_c rv_I0) rfl
      · refine ev_is ev_c (congrArg V.int ?_)
        rw [← first_is, if_neg (by rw [hb]; exact Bool.false_ne_true)]
      refine q_asg (v := .int ((R (t - 1) g : Nat) : Int)) (ev_if (et_test (ev_op (ev_var rfl) ev_c rv_I0)) (fun hb => ?_) fun hb => ?_) fun H7 e7 => ?_
      · have c1 := of_decide_eq_true hb
        exact ev_p (ea_cons (ev_op (ev_var rfl) ev_c rv_I0) (ea_cons (ev_var rfl) ea_nil)) ⟨t - 1, g, args2 (by omega) rfl, by omega, by omega, rfl⟩
      · have c1 := of_decide_eq_false hb
        refine ev_is ev_c (congrArg V.int ?_)
        rw [R_zero_iff (.inl (show t - 1 = 0 by omega))]
        rfl
      have e37 := ((((eH.trans eN).trans e4).trans e5).trans e6).trans e7
      -- Next by hand
      refine q_forNL (xs := ([((R (t - 1) (g - 1) + 1 : Nat) : Int), ((R (t - 1) (g - 1) + 1 : Nat) : Int) + 1, (sr : Int) - ((R (t - 1) g : Nat) : Int), (sr : Int) - ((R (t - 1) g : Nat) : Int) - 1, 1, (sr : Int), 0, -cz, cz] : List Int).map V.int)
        (el_lst (ea_cons (ev_var rfl) (ea_cons (ev_op (ev_var rfl) ev_c rv_I0) (ea_cons (ev_op (ev_var rfl) (ev_var rfl) rv_I0) (ea_cons (ev_op (ev_op (ev_var rfl) (ev_var rfl) rv_I0) ev_c rv_I0) (ea_cons ev_c (ea_cons (ev_var rfl) (ea_cons ev_c (ea_cons (ev_un (ev_var rfl) ru_neg) (ea_cons (ev_var rfl) ea_nil))))))))) (by show 9 ≤ 100000; decide))
        (fun q i σ' H' => ∃ y9 y10 y11, σ' = [some (.ref a), some (.int (n : Int)), some (.int (sr : Int)), some (.int (g : Int)), some (.int (t : Int)), some (.int cz), some (.int ((R t g : Nat) : Int)), some (.int ((R (t - 1) (g - 1) + 1 : Nat) : Int)), some (.int ((R (t - 1) g : Nat) : Int)), y9, y10, y11, y12, y13, y14, y15] ∧ Ex H7 H' ∧
          SqL K H' q (([((R (t - 1) (g - 1) + 1 : Nat) : Int), ((R (t - 1) (g - 1) + 1 : Nat) : Int) + 1, (sr : Int) - ((R (t - 1) g : Nat) : Int), (sr : Int) - ((R (t - 1) g : Nat) : Int) - 1, 1, (sr : Int), 0, -cz, cz] : List Int).map V.int))
        (fun q H8 hq e8 h8 => ⟨_, _, _, rfl, e8, sq_of h8⟩) (fun q i σ' H' _ z => by obtain ⟨_, _, _, _, _, z⟩ := z; exact z) ?_ ?_
      · rintro q i x σ' H8 hx ⟨y9, y10, y11, rfl, e8, hq⟩
        obtain ⟨z, rfl⟩ := int_at hx
        refine q_asg (ev_is (ev_andV (ev_op (ev_var rfl) ev_c rv_I0) fun _ => ev_andV (ev_op (ev_var rfl) ev_c rv_I0) fun _ => ev_andV (ev_chain ev_c (ev_var rfl) (ev_var rfl) rv_I0 fun _ => rv_I0) fun _ => ev_andV (ev_op (ev_var rfl) (ev_var rfl) rv_I0) fun _ => ev_op (ev_op (ev_var rfl) (ev_var rfl) rv_I0) (ev_var rfl) rv_I0) (congrArg V.bl (due_next z sr g t))) fun H9 e9 => ?_
        refine q_asgI (ei_make (ea_cons (ev_var rfl) ea_nil)) fun m dx H10 _ e10 h10 => ?_
        have hk : KdAt A H10 m (.next z) := ⟨dx, h10⟩
        refine s_when (et_or (et_test (ev_op (fld_z T hk rfl (ev_var rfl)) (ev_var rfl) rv_neI)) fun _ => et_not (et_B (ev_p (ea_cons (ev_shows (ev_var rfl) hk (ea_cons (ev_var rfl) (ea_cons (ev_var rfl) (ea_cons (ev_var rfl) ea_nil))) ht2 (by omega)) (ea_cons (ev_var rfl) ea_nil)) ⟨_, _, rfl, rfl⟩)))
          (fun hb => absurd hb ?_) fun _ H11 e11 => ⟨_, _, _, rfl, ((e8.trans e9).trans e10).trans e11, ex_l ((e9.trans e10).trans e11) hq⟩
        show ¬ (!decide (z = z) || !decide (showsN z sr g t = showsN z sr g t)) = true
        simp
      · rintro q σ' H8 ⟨y9, y10, y11, rfl, e8, _⟩
        -- Short by hand
        refine q_forNL (xs := ([((R t g : Nat) : Int), ((R t g : Nat) : Int) + 1, ((R t g : Nat) : Int) - 1, (sr : Int), -1, cz] : List Int).map V.int)
          (el_lst (ea_cons (ev_var rfl) (ea_cons (ev_op (ev_var rfl) ev_c rv_I0) (ea_cons (ev_op (ev_var rfl) ev_c rv_I0) (ea_cons (ev_var rfl) (ea_cons (ev_un ev_c ru_neg) (ea_cons (ev_var rfl) ea_nil)))))) (by show 6 ≤ 100000; decide))
          (fun q i σ' H' => ∃ y9 y10 y11 y12, σ' = [some (.ref a), some (.int (n : Int)), some (.int (sr : Int)), some (.int (g : Int)), some (.int (t : Int)), some (.int cz), some (.int ((R t g : Nat) : Int)), some (.int ((R (t - 1) (g - 1) + 1 : Nat) : Int)), some (.int ((R (t - 1) g : Nat) : Int)), y9, y10, y11, y12, y13, y14, y15] ∧ Ex H8 H' ∧
            SqL K H' q (([((R t g : Nat) : Int), ((R t g : Nat) : Int) + 1, ((R t g : Nat) : Int) - 1, (sr : Int), -1, cz] : List Int).map V.int))
          (fun q H9 hq e9 h9 => ⟨_, _, _, _, rfl, e9, sq_of h9⟩) (fun q i σ' H' _ z => by obtain ⟨_, _, _, _, _, _, z⟩ := z; exact z) ?_ ?_
        · rintro q i x σ' H9 hx ⟨y9, y10, y11, y12, rfl, e9, hq⟩
          obtain ⟨z, rfl⟩ := int_at hx
          refine q_asgI (ei_make (ea_cons (ev_var rfl) ea_nil)) fun m dx H10 _ e10 h10 => ?_
          have hk : KdAt A H10 m (.short z) := ⟨dx, h10⟩
          refine q_asg (ev_andV (ev_op (ev_var rfl) (ev_var rfl) rv_eqI) fun _ => ev_op (ev_var rfl) (ev_var rfl) rv_I0) fun H11 e11 => ?_
          have hk := hk.mono e11
          refine s_when (et_or (et_test (ev_op (fld_m T hk rfl (ev_var rfl)) (ev_var rfl) rv_neI)) fun _ => et_not (et_B (ev_p (ea_cons (ev_shows (ev_var rfl) hk (ea_cons (ev_var rfl) (ea_cons (ev_var rfl) (ea_cons (ev_var rfl) ea_nil))) ht2 (by omega)) (ea_cons (ev_var rfl) ea_nil)) ⟨_, _, rfl, rfl⟩)))
            (fun hb => absurd hb ?_) fun _ H12 e12 => ⟨_, _, _, _, rfl, ((e9.trans e10).trans e11).trans e12, ex_l ((e10.trans e11).trans e12) hq⟩
          show ¬ (!decide (z = z) || !decide ((decide (z = ((R t g : Nat) : Int)) && decide (z < (sr : Int))) = (decide (z = ((R t g : Nat) : Int)) && decide (z < (sr : Int))))) = true
          simp
        · rintro q σ' H9 ⟨y9, y10, y11, y12, rfl, e9, _⟩
          refine s_when (et_not (et_B (ev_p (ea_cons (shows_done T ei_makeN (ea_cons (ev_var rfl) (ea_cons (ev_var rfl) (ea_cons (ev_var rfl) ea_nil))) ht2 (by omega) rfl) (ea_cons (ev_op (ev_var rfl) ev_c rv_eqI) ea_nil)) ⟨_, _, rfl, rfl⟩)))
            (fun hb => absurd hb (by simp)) fun _ H10 e10 => ⟨_, _, _, _, _, _, _, _, _, _, _, _, _, _, _, rfl, ((e37.trans e8).trans e9).trans e10⟩
    · rintro σ' H' ⟨y1, y2, y3, y4, y5, y6, y7, y8, y9, y10, y11, y12, y13, y14, y15, rfl, eH⟩
      have n4 : ∀ {σ : L2.St} {H : Hp} {i j l : Int}, EvA (tCons (tC (.int i)) (tCons (tC (.int j)) (tCons (tC (.int l)) tNil))) σ H [.int i, .int j, .int l] := ea_cons ev_c (ea_cons ev_c (ea_cons ev_c ea_nil))
      refine q_asgL (xs := ([true, true, true, true] : List Bool).map V.bl) (el_lst (ea_cons (shows_next T (s := 10) (g := 2) (t := 4) (ei_make (ea_cons ev_c ea_nil)) n4 (by decide) (by decide) (by decide)) (ea_cons (shows_next T (s := 1) (g := 1) (t := 1) (ei_make (ea_cons ev_c ea_nil)) n4 (by decide) (by decide) (by decide))
        (ea_cons (shows_short T (s := 1) (g := 0) (t := 5) (ei_make (ea_cons ev_c ea_nil)) n4 (by decide) (by decide) (by decide)) (ea_cons (shows_done T (s := 0) (g := 0) (t := 0) ei_makeN n4 (by decide) (by decide) (by decide)) ea_nil)))) (by decide)) fun l1 H3 _ e3 h3 => ?_
      refine q_asgL (xs := ([false, false, false, false] : List Bool).map V.bl) (el_lst (ea_cons (shows_next T (s := 10) (g := 2) (t := 4) (ei_make (ea_cons ev_c ea_nil)) n4 (by decide) (by decide) (by decide)) (ea_cons (shows_next T (s := 10) (g := 2) (t := 4) (ei_make (ea_cons ev_c ea_nil)) n4 (by decide) (by decide) (by decide))
        (ea_cons (shows_next T (s := 1) (g := 1) (t := 0) (ei_make (ea_cons ev_c ea_nil)) n4 (by decide) (by decide) (by decide)) (ea_cons (shows_next T (s := 1) (g := 0) (t := 1) (ei_make (ea_cons ev_c ea_nil)) n4 (by decide) (by decide) (by decide)) ea_nil)))) (by decide)) fun l2 H4 _ e4 h4 => ?_
      refine q_asgL (xs := ([false, false, false, false] : List Bool).map V.bl ++ ([false, false, false, false] : List Bool).map V.bl) (el_catL (ev_var rfl) h4 (el_lst (ea_cons (shows_next T (s := 0) (g := 3) (t := 3) (ei_make (ea_cons ev_c ea_nil)) n4 (by decide) (by decide) (by decide)) (ea_cons (shows_short T (s := 0) (g := 0) (t := 0) (ei_make (ea_cons ev_c ea_nil)) n4 (by decide) (by decide) (by decide))
        (ea_cons (shows_short T (s := 11) (g := 2) (t := 4) (ei_make (ea_cons ev_c ea_nil)) n4 (by decide) (by decide) (by decide)) (ea_cons (shows_done T (s := 1) (g := 300) (t := 300) ei_makeN n4 (by decide) (by decide) (by decide)) ea_nil)))) (by decide)) (by decide)) fun l3 H5 _ e5 h5 => ?_
      refine s_ret (ev_is (ev_andV (ev_allL (bs := [true, true, true, true]) (el_mapL (F := fun x => .bl (decide (x = .bl true))) (ev_var rfl) (sq_of (e5 _ _ (e4 _ _ h3))) (by decide) (fun _ => rfl) fun x hx H6 e6 => ?_)) fun _ =>
        ev_allL (bs := [true, true, true, true, true, true, true, true]) (el_mapL (F := fun x => .bl (decide (x = .bl false))) (ev_var rfl) (sq_of h5) (by decide) (fun _ => rfl) fun x hx H6 e6 => ?_)) rfl) fun H6 e6 => k H6
      · have ex : x = .bl true := by simpa using hx
        subst ex
        exact ev_p (ea_cons (ev_var rfl) (ea_cons ev_c ea_nil)) ⟨true, true, rfl, rfl⟩
      · have ex : x = .bl false := by simpa using hx
        subst ex
        exact ev_p (ea_cons (ev_var rfl) (ea_cons ev_c ea_nil)) ⟨false, false, rfl, rfl⟩
end
theorem all_mk {l : PySem.W.OpenLaw} {w : World} {K : PySem.W.Frag} {h : Heap} {mg : Str → Option Value} {fa : Addr} (X : K.In h) (G : h.Ns mainGlobals mg) (hfa : mg "law" = some (.ref fa))
    {C_Answer : Addr}
    {C_Done : Addr}
    {C_Next : Addr}
    {C_Short : Addr}
    {f0 : Addr} {od0 an0 : Option Addr} {sl0 : Array (Option Value)} {oc0 kV0 dc0 pm0 cd0 ct0 : Value}
    {f1 : Addr} {od1 an1 : Option Addr} {sl1 : Array (Option Value)} {oc1 kV1 dc1 pm1 cd1 ct1 : Value}
    {f2 : Addr} {od2 an2 : Option Addr} {sl2 : Array (Option Value)} {oc2 kV2 dc2 pm2 cd2 ct2 : Value}
    {f3 : Addr} {od3 an3 : Option Addr} {sl3 : Array (Option Value)} {oc3 kV3 dc3 pm3 cd3 ct3 : Value}
    {f4 : Addr} {od4 an4 : Option Addr} {sl4 : Array (Option Value)} {oc4 kV4 dc4 pm4 cd4 ct4 : Value}
    {f5 : Addr} {od5 an5 : Option Addr} {sl5 : Array (Option Value)} {oc5 kV5 dc5 pm5 cd5 ct5 : Value}
    {f6 : Addr} {od6 an6 : Option Addr} {sl6 : Array (Option Value)} {oc6 kV6 dc6 pm6 cd6 ct6 : Value}
    {f7 : Addr} {od7 an7 : Option Addr} {sl7 : Array (Option Value)} {oc7 kV7 dc7 pm7 cd7 ct7 : Value}
    {f8 : Addr} {od8 an8 : Option Addr} {sl8 : Array (Option Value)} {oc8 kV8 dc8 pm8 cd8 ct8 : Value}
    {f9 : Addr} {od9 an9 : Option Addr} {sl9 : Array (Option Value)} {oc9 kV9 dc9 pm9 cd9 ct9 : Value}
    {f10 : Addr} {od10 an10 : Option Addr} {sl10 : Array (Option Value)} {oc10 kV10 dc10 pm10 cd10 ct10 : Value}
    (g_Answer : PySem.W.nsIn K mainGlobals "Answer" = some (some (.ref C_Answer)))
    (g_Done : PySem.W.nsIn K mainGlobals "Done" = some (some (.ref C_Done)))
    (g_Next : PySem.W.nsIn K mainGlobals "Next" = some (some (.ref C_Next)))
    (g_Short : PySem.W.nsIn K mainGlobals "Short" = some (some (.ref C_Short)))
    (a0 : PySem.W.nsIn K mainGlobals "reached" = some (some (.ref f0)))
    (l0 : K.lookup f0 = some ⟨oc0, od0, .func (PySem.W.fnOf "reached" "reached" (defArgs s_reached) (defBody s_reached) (defScope s_reached) .none kV0 dc0 pm0 an0 cd0 ct0), sl0⟩) (c0 : PySem.W.codeIn K cd0 "reached" = true) (k0 : PySem.W.keepIn K (.ref f0) = true)
    (a1 : PySem.W.findIn K (.ref C_Done) "shows" = some (some (.ref f1))) (i1 : PySem.W.isFn K (.ref f1) = true)
    (l1 : K.lookup f1 = some ⟨oc1, od1, .func (PySem.W.fnOf "shows" "Done.shows" (defArgs s_Done_shows) (defBody s_Done_shows) (defScope s_Done_shows) .none kV1 dc1 pm1 an1 cd1 ct1), sl1⟩) (c1 : PySem.W.codeIn K cd1 "Done.shows" = true) (k1 : PySem.W.keepIn K (.ref f1) = true)
    (a2 : PySem.W.findIn K (.ref C_Next) "__init__" = some (some (.ref f2))) (i2 : PySem.W.isFn K (.ref f2) = true)
    (l2 : K.lookup f2 = some ⟨oc2, od2, .func (PySem.W.fnOf "__init__" "Next.__init__" (defArgs s_Next__init) (defBody s_Next__init) (defScope s_Next__init) .none kV2 dc2 pm2 an2 cd2 ct2), sl2⟩) (c2 : PySem.W.codeIn K cd2 "Next.__init__" = true) (k2 : PySem.W.keepIn K (.ref f2) = true)
    (a3 : PySem.W.findIn K (.ref C_Next) "shows" = some (some (.ref f3))) (i3 : PySem.W.isFn K (.ref f3) = true)
    (l3 : K.lookup f3 = some ⟨oc3, od3, .func (PySem.W.fnOf "shows" "Next.shows" (defArgs s_Next_shows) (defBody s_Next_shows) (defScope s_Next_shows) .none kV3 dc3 pm3 an3 cd3 ct3), sl3⟩) (c3 : PySem.W.codeIn K cd3 "Next.shows" = true) (k3 : PySem.W.keepIn K (.ref f3) = true)
    (a4 : PySem.W.findIn K (.ref C_Short) "__init__" = some (some (.ref f4))) (i4 : PySem.W.isFn K (.ref f4) = true)
    (l4 : K.lookup f4 = some ⟨oc4, od4, .func (PySem.W.fnOf "__init__" "Short.__init__" (defArgs s_Short__init) (defBody s_Short__init) (defScope s_Short__init) .none kV4 dc4 pm4 an4 cd4 ct4), sl4⟩) (c4 : PySem.W.codeIn K cd4 "Short.__init__" = true) (k4 : PySem.W.keepIn K (.ref f4) = true)
    (a5 : PySem.W.findIn K (.ref C_Short) "shows" = some (some (.ref f5))) (i5 : PySem.W.isFn K (.ref f5) = true)
    (l5 : K.lookup f5 = some ⟨oc5, od5, .func (PySem.W.fnOf "shows" "Short.shows" (defArgs s_Short_shows) (defBody s_Short_shows) (defScope s_Short_shows) .none kV5 dc5 pm5 an5 cd5 ct5), sl5⟩) (c5 : PySem.W.codeIn K cd5 "Short.shows" = true) (k5 : PySem.W.keepIn K (.ref f5) = true)
    (a6 : PySem.W.nsIn K mainGlobals "_law_reach" = some (some (.ref f6)))
    (l6 : K.lookup f6 = some ⟨oc6, od6, .func (PySem.W.fnOf "_law_reach" "_law_reach" (defArgs s_law_reach) (defBody s_law_reach) (defScope s_law_reach) .none kV6 dc6 pm6 an6 cd6 ct6), sl6⟩) (c6 : PySem.W.codeIn K cd6 "_law_reach" = true) (k6 : PySem.W.keepIn K (.ref f6) = true)
    (a7 : PySem.W.nsIn K mainGlobals "_law_states" = some (some (.ref f7)))
    (l7 : K.lookup f7 = some ⟨oc7, od7, .func (PySem.W.fnOf "_law_states" "_law_states" (defArgs s_law_states) (defBody s_law_states) (defScope s_law_states) .none kV7 dc7 pm7 an7 cd7 ct7), sl7⟩) (c7 : PySem.W.codeIn K cd7 "_law_states" = true) (k7 : PySem.W.keepIn K (.ref f7) = true)
    (a8 : PySem.W.nsIn K mainGlobals "_law_near" = some (some (.ref f8)))
    (l8 : K.lookup f8 = some ⟨oc8, od8, .func (PySem.W.fnOf "_law_near" "_law_near" (defArgs s_law_near) (defBody s_law_near) (defScope s_law_near) .none kV8 dc8 pm8 an8 cd8 ct8), sl8⟩) (c8 : PySem.W.codeIn K cd8 "_law_near" = true) (k8 : PySem.W.keepIn K (.ref f8) = true)
    (a9 : PySem.W.nsIn K mainGlobals "_law_says" = some (some (.ref f9)))
    (l9 : K.lookup f9 = some ⟨oc9, od9, .func (PySem.W.fnOf "_law_says" "_law_says" (defArgs s_law_says) (defBody s_law_says) (defScope s_law_says) .none kV9 dc9 pm9 an9 cd9 ct9), sl9⟩) (c9 : PySem.W.codeIn K cd9 "_law_says" = true) (k9 : PySem.W.keepIn K (.ref f9) = true)
    (a10 : PySem.W.nsIn K mainGlobals "law" = some (some (.ref f10)))
    (l10 : K.lookup f10 = some ⟨oc10, od10, .func (PySem.W.fnOf "law" "law" (defArgs s_law) (defBody s_law) (defScope s_law) .none kV10 dc10 pm10 an10 cd10 ct10), sl10⟩) (c10 : PySem.W.codeIn K cd10 "law" = true) (k10 : PySem.W.keepIn K (.ref f10) = true)
    (pg_Done : PySem.W.plainGet K C_Done Str.empty = true) (hd_Done : PySem.W.hasDictIn K C_Done = true) (po_Done : PySem.W.plainOver K C_Done = true) (sa_Done : PySem.W.findIn K (.ref C_Done) "__setattr__" = some (some (.builtin "object.__setattr__"))) (mk_Done : PySem.W.makesIn K C_Done = true) (kc_Done : PySem.W.keepIn K (.ref C_Done) = true)
    (ca_Done : PySem.W.findIn K (.ref C_Done) "__class__" = some (some (.builtin "object.__class__"))) (cn_Done : PySem.W.specialIn K (.builtin "object.__class__") "__get__" = some (some (.builtin "getset_descriptor.__get__"))) (ct_Done : PySem.W.takesIn K (.builtin "object.__class__") = some true) (cm_Done : PySem.W.mroIn K C_Done (.type "object") = some true)
    (in_Done : PySem.W.findIn K (.ref C_Done) "__init__" = some (some (.builtin "object.__init__")))
    (i_Done_Answer : PySem.W.kitOne K (.ref C_Done) (.ref C_Answer) = some true)
    (i_Done_Done : PySem.W.kitOne K (.ref C_Done) (.ref C_Done) = some true)
    (i_Done_Next : PySem.W.kitOne K (.ref C_Done) (.ref C_Next) = some false)
    (i_Done_Short : PySem.W.kitOne K (.ref C_Done) (.ref C_Short) = some false)
    (pg_Next : PySem.W.plainGet K C_Next Str.empty = true) (hd_Next : PySem.W.hasDictIn K C_Next = true) (po_Next : PySem.W.plainOver K C_Next = true) (sa_Next : PySem.W.findIn K (.ref C_Next) "__setattr__" = some (some (.builtin "object.__setattr__"))) (mk_Next : PySem.W.makesIn K C_Next = true) (kc_Next : PySem.W.keepIn K (.ref C_Next) = true)
    (ca_Next : PySem.W.findIn K (.ref C_Next) "__class__" = some (some (.builtin "object.__class__"))) (cn_Next : PySem.W.specialIn K (.builtin "object.__class__") "__get__" = some (some (.builtin "getset_descriptor.__get__"))) (ct_Next : PySem.W.takesIn K (.builtin "object.__class__") = some true) (cm_Next : PySem.W.mroIn K C_Next (.type "object") = some true)
    (n_Next_storey : PySem.W.findIn K (.ref C_Next) "storey" = some none)
    (i_Next_Answer : PySem.W.kitOne K (.ref C_Next) (.ref C_Answer) = some true)
    (i_Next_Done : PySem.W.kitOne K (.ref C_Next) (.ref C_Done) = some false)
    (i_Next_Next : PySem.W.kitOne K (.ref C_Next) (.ref C_Next) = some true)
    (i_Next_Short : PySem.W.kitOne K (.ref C_Next) (.ref C_Short) = some false)
    (pg_Short : PySem.W.plainGet K C_Short Str.empty = true) (hd_Short : PySem.W.hasDictIn K C_Short = true) (po_Short : PySem.W.plainOver K C_Short = true) (sa_Short : PySem.W.findIn K (.ref C_Short) "__setattr__" = some (some (.builtin "object.__setattr__"))) (mk_Short : PySem.W.makesIn K C_Short = true) (kc_Short : PySem.W.keepIn K (.ref C_Short) = true)
    (ca_Short : PySem.W.findIn K (.ref C_Short) "__class__" = some (some (.builtin "object.__class__"))) (cn_Short : PySem.W.specialIn K (.builtin "object.__class__") "__get__" = some (some (.builtin "getset_descriptor.__get__"))) (ct_Short : PySem.W.takesIn K (.builtin "object.__class__") = some true) (cm_Short : PySem.W.mroIn K C_Short (.type "object") = some true)
    (n_Short_most : PySem.W.findIn K (.ref C_Short) "most" = some none)
    (i_Short_Answer : PySem.W.kitOne K (.ref C_Short) (.ref C_Answer) = some true)
    (i_Short_Done : PySem.W.kitOne K (.ref C_Short) (.ref C_Done) = some false)
    (i_Short_Next : PySem.W.kitOne K (.ref C_Short) (.ref C_Next) = some false)
    (i_Short_Short : PySem.W.kitOne K (.ref C_Short) (.ref C_Short) = some true)
    (z_all : PySem.W.nsIn K mainGlobals "all" = some none)
    (z_bool : PySem.W.nsIn K mainGlobals "bool" = some none)
    (z_enumerate : PySem.W.nsIn K mainGlobals "enumerate" = some none)
    (z_isinstance : PySem.W.nsIn K mainGlobals "isinstance" = some none)
    (z_len : PySem.W.nsIn K mainGlobals "len" = some none)
    (z_max : PySem.W.nsIn K mainGlobals "max" = some none)
    (z_min : PySem.W.nsIn K mainGlobals "min" = some none)
    (z_range : PySem.W.nsIn K mainGlobals "range" = some none)
    (z_sum : PySem.W.nsIn K mainGlobals "sum" = some none) :
    ∃ fd : FuncData, (∀ (s : Shared) (v : Value), BindsTo s fd ⟨[v], []⟩ [("_law_script", v)]) ∧ ∀ base : Heap, K.In base → base.Ns mainGlobals mg → FnOk l.prog w K mg base CX0 3 fa fd ["_law_script"] (spLaw K) := by
  have e := hfa.symm.trans (PySem.W.mg_of X G a10)
  have e2 : fa = f10 := by
    cases e
    rfl
  rw [e2]
  have T : Tx K mg { a_Answer := C_Answer, a_Done := C_Done, a_Next := C_Next, a_Short := C_Short, a_reached := f0, d_reached := PySem.W.fnOf "reached" "reached" (defArgs s_reached) (defBody s_reached) (defScope s_reached) .none kV0 dc0 pm0 an0 cd0 ct0, a_Done_shows := f1, d_Done_shows := PySem.W.fnOf "shows" "Done.shows" (defArgs s_Done_shows) (defBody s_Done_shows) (defScope s_Done_shows) .none kV1 dc1 pm1 an1 cd1 ct1, a_Next__init := f2, d_Next__init := PySem.W.fnOf "__init__" "Next.__init__" (defArgs s_Next__init) (defBody s_Next__init) (defScope s_Next__init) .none kV2 dc2 pm2 an2 cd2 ct2, a_Next_shows := f3, d_Next_shows := PySem.W.fnOf "shows" "Next.shows" (defArgs s_Next_shows) (defBody s_Next_shows) (defScope s_Next_shows) .none kV3 dc3 pm3 an3 cd3 ct3, a_Short__init := f4, d_Short__init := PySem.W.fnOf "__init__" "Short.__init__" (defArgs s_Short__init) (defBody s_Short__init) (defScope s_Short__init) .none kV4 dc4 pm4 an4 cd4 ct4, a_Short_shows := f5, d_Short_shows := PySem.W.fnOf "shows" "Short.shows" (defArgs s_Short_shows) (defBody s_Short_shows) (defScope s_Short_shows) .none kV5 dc5 pm5 an5 cd5 ct5, a_law_reach := f6, d_law_reach := PySem.W.fnOf "_law_reach" "_law_reach" (defArgs s_law_reach) (defBody s_law_reach) (defScope s_law_reach) .none kV6 dc6 pm6 an6 cd6 ct6, a_law_states := f7, d_law_states := PySem.W.fnOf "_law_states" "_law_states" (defArgs s_law_states) (defBody s_law_states) (defScope s_law_states) .none kV7 dc7 pm7 an7 cd7 ct7, a_law_near := f8, d_law_near := PySem.W.fnOf "_law_near" "_law_near" (defArgs s_law_near) (defBody s_law_near) (defScope s_law_near) .none kV8 dc8 pm8 an8 cd8 ct8, a_law_says := f9, d_law_says := PySem.W.fnOf "_law_says" "_law_says" (defArgs s_law_says) (defBody s_law_says) (defScope s_law_says) .none kV9 dc9 pm9 an9 cd9 ct9, a_law := f10, d_law := PySem.W.fnOf "law" "law" (defArgs s_law) (defBody s_law) (defScope s_law) .none kV10 dc10 pm10 an10 cd10 ct10 } :=
    { g_Answer := PySem.W.mg_of X G g_Answer,
      g_Done := PySem.W.mg_of X G g_Done,
      g_Next := PySem.W.mg_of X G g_Next,
      g_Short := PySem.W.mg_of X G g_Short,
      f_reached := fun_mk (st := s_reached) l0 c0 k0,
      g_reached := PySem.W.mg_of X G a0,
      b_reached := (fun_mk (st := s_reached) l0 c0 k0).binds (ps := ["tries", "glasses"]) fun _ _ _ _ _ _ us hl => match us, hl with | [_, _], _ => rfl,
      f_Done_shows := fun_mk (st := s_Done_shows) l1 c1 k1,
      b_Done_shows := (fun_mk (st := s_Done_shows) l1 c1 k1).binds (ps := ["self", "storeys", "glasses", "tries"]) fun _ _ _ _ _ _ us hl => match us, hl with | [_, _, _, _], _ => rfl,
      f_Next__init := fun_mk (st := s_Next__init) l2 c2 k2,
      b_Next__init := (fun_mk (st := s_Next__init) l2 c2 k2).binds (ps := ["self", "storey"]) fun _ _ _ _ _ _ us hl => match us, hl with | [_, _], _ => rfl,
      f_Next_shows := fun_mk (st := s_Next_shows) l3 c3 k3,
      b_Next_shows := (fun_mk (st := s_Next_shows) l3 c3 k3).binds (ps := ["self", "storeys", "glasses", "tries"]) fun _ _ _ _ _ _ us hl => match us, hl with | [_, _, _, _], _ => rfl,
      f_Short__init := fun_mk (st := s_Short__init) l4 c4 k4,
      b_Short__init := (fun_mk (st := s_Short__init) l4 c4 k4).binds (ps := ["self", "most"]) fun _ _ _ _ _ _ us hl => match us, hl with | [_, _], _ => rfl,
      f_Short_shows := fun_mk (st := s_Short_shows) l5 c5 k5,
      b_Short_shows := (fun_mk (st := s_Short_shows) l5 c5 k5).binds (ps := ["self", "storeys", "glasses", "tries"]) fun _ _ _ _ _ _ us hl => match us, hl with | [_, _, _, _], _ => rfl,
      f_law_reach := fun_mk (st := s_law_reach) l6 c6 k6,
      g_law_reach := PySem.W.mg_of X G a6,
      b_law_reach := (fun_mk (st := s_law_reach) l6 c6 k6).binds (ps := ["_law_tries", "_law_glasses"]) fun _ _ _ _ _ _ us hl => match us, hl with | [_, _], _ => rfl,
      f_law_states := fun_mk (st := s_law_states) l7 c7 k7,
      g_law_states := PySem.W.mg_of X G a7,
      b_law_states := (fun_mk (st := s_law_states) l7 c7 k7).binds (ps := ["_law_script"]) fun _ _ _ _ _ _ us hl => match us, hl with | [_], _ => rfl,
      f_law_near := fun_mk (st := s_law_near) l8 c8 k8,
      g_law_near := PySem.W.mg_of X G a8,
      b_law_near := (fun_mk (st := s_law_near) l8 c8 k8).binds (ps := ["_law_states_here"]) fun _ _ _ _ _ _ us hl => match us, hl with | [_], _ => rfl,
      f_law_says := fun_mk (st := s_law_says) l9 c9 k9,
      g_law_says := PySem.W.mg_of X G a9,
      b_law_says := (fun_mk (st := s_law_says) l9 c9 k9).binds (ps := ["_law_said", "_law_due"]) fun _ _ _ _ _ _ us hl => match us, hl with | [_, _], _ => rfl,
      f_law := fun_mk (st := s_law) l10 c10 k10,
      g_law := PySem.W.mg_of X G a10,
      b_law := (fun_mk (st := s_law) l10 c10 k10).binds (ps := ["_law_script"]) fun _ _ _ _ _ _ us hl => match us, hl with | [_], _ => rfl,
      t_Done := ⟨⟨pg_Done, hd_Done, po_Done, sa_Done⟩, ca_Done, cn_Done, ct_Done, cm_Done⟩,
      k_Done := ⟨mk_Done, in_Done, kc_Done⟩,
      m_Done_shows := ⟨a1, i1, k1⟩,
      i_Done_Answer := i_Done_Answer,
      i_Done_Done := i_Done_Done,
      i_Done_Next := i_Done_Next,
      i_Done_Short := i_Done_Short,
      t_Next := ⟨⟨pg_Next, hd_Next, po_Next, sa_Next⟩, ca_Next, cn_Next, ct_Next, cm_Next⟩,
      k_Next := ⟨mk_Next, a2, i2, kc_Next⟩,
      n_Next_storey := n_Next_storey,
      m_Next_shows := ⟨a3, i3, k3⟩,
      i_Next_Answer := i_Next_Answer,
      i_Next_Done := i_Next_Done,
      i_Next_Next := i_Next_Next,
      i_Next_Short := i_Next_Short,
      t_Short := ⟨⟨pg_Short, hd_Short, po_Short, sa_Short⟩, ca_Short, cn_Short, ct_Short, cm_Short⟩,
      k_Short := ⟨mk_Short, a4, i4, kc_Short⟩,
      n_Short_most := n_Short_most,
      m_Short_shows := ⟨a5, i5, k5⟩,
      i_Short_Answer := i_Short_Answer,
      i_Short_Done := i_Short_Done,
      i_Short_Next := i_Short_Next,
      i_Short_Short := i_Short_Short,
      z_all := PySem.W.mg_none_of X G z_all,
      z_bool := PySem.W.mg_none_of X G z_bool,
      z_enumerate := PySem.W.mg_none_of X G z_enumerate,
      z_isinstance := PySem.W.mg_none_of X G z_isinstance,
      z_len := PySem.W.mg_none_of X G z_len,
      z_max := PySem.W.mg_none_of X G z_max,
      z_min := PySem.W.mg_none_of X G z_min,
      z_range := PySem.W.mg_none_of X G z_range,
      z_sum := PySem.W.mg_none_of X G z_sum }
  exact ⟨_, fun s v => .of_eq rfl, fun base _ _ => ok_law T⟩
end GF
open PySem PySem.W PyProof.Rows
set_option maxRecDepth 100000 in
set_option maxHeartbeats 0 in
theorem PySem.Challenge.cw_glassfall_k06_answers_by_hand_holds : PySem.Challenge.rw_glassfall_k06_answers_by_hand.Holds := by
  w_on; o_law; k_head; (case hw => w_witness2)
  k_fill
  refine L2.walk_ofB (l := PySem.Challenge.rw_glassfall_k06_answers_by_hand) (n := 63) (k := 3) (x := "_law_script") (CX := fun _ => L2.CX0) (sp := fun w => GF.spLaw _) rfl (by decide) rfl ⟨rfl, by decide, by decide⟩ (fun w h Y => PySem.W.kIn_of Y) ?F (fun _ _ a ns hl hb _ hS => ⟨a, ns, rfl, hS, hl, hb, fun _ => rfl⟩) (fun _ _ _ _ _ h => h)
  case F =>
    intro w mg fa h KX G hmg
    refine' GF.all_mk KX G hmg ?g_Answer ?g_Done ?g_Next ?g_Short ?a0 ?l0 ?c0 ?k0 ?a1 ?i1 ?l1 ?c1 ?k1 ?a2 ?i2 ?l2 ?c2 ?k2 ?a3 ?i3 ?l3 ?c3 ?k3 ?a4 ?i4 ?l4 ?c4 ?k4 ?a5 ?i5 ?l5 ?c5 ?k5 ?a6 ?l6 ?c6 ?k6 ?a7 ?l7 ?c7 ?k7 ?a8 ?l8 ?c8 ?k8 ?a9 ?l9 ?c9 ?k9 ?a10 ?l10 ?c10 ?k10 ?pg_Done ?hd_Done ?po_Done ?sa_Done ?mk_Done ?kc_Done ?ca_Done ?cn_Done ?ct_Done ?cm_Done ?in_Done ?i_Done_Answer ?i_Done_Done ?i_Done_Next ?i_Done_Short ?pg_Next ?hd_Next ?po_Next ?sa_Next ?mk_Next ?kc_Next ?ca_Next ?cn_Next ?ct_Next ?cm_Next ?n_Next_storey ?i_Next_Answer ?i_Next_Done ?i_Next_Next ?i_Next_Short ?pg_Short ?hd_Short ?po_Short ?sa_Short ?mk_Short ?kc_Short ?ca_Short ?cn_Short ?ct_Short ?cm_Short ?n_Short_most ?i_Short_Answer ?i_Short_Done ?i_Short_Next ?i_Short_Short ?z_all ?z_bool ?z_enumerate ?z_isinstance ?z_len ?z_max ?z_min ?z_range ?z_sum
    (case g_Answer => k_is)
    (case g_Done => k_is)
    (case g_Next => k_is)
    (case g_Short => k_is)
    (case a0 => k_is)
    (case l0 => k_is)
    (case c0 => k_is)
    (case k0 => k_is)
    (case a1 => k_is)
    (case i1 => k_is)
    (case l1 => k_is)
    (case c1 => k_is)
    (case k1 => k_is)
    (case a2 => k_is)
    (case i2 => k_is)
    (case l2 => k_is)
    (case c2 => k_is)
    (case k2 => k_is)
    (case a3 => k_is)
    (case i3 => k_is)
    (case l3 => k_is)
    (case c3 => k_is)
    (case k3 => k_is)
    (case a4 => k_is)
    (case i4 => k_is)
    (case l4 => k_is)
    (case c4 => k_is)
    (case k4 => k_is)
    (case a5 => k_is)
    (case i5 => k_is)
    (case l5 => k_is)
    (case c5 => k_is)
    (case k5 => k_is)
    (case a6 => k_is)
    (case l6 => k_is)
    (case c6 => k_is)
    (case k6 => k_is)
    (case a7 => k_is)
    (case l7 => k_is)
    (case c7 => k_is)
    (case k7 => k_is)
    (case a8 => k_is)
    (case l8 => k_is)
    (case c8 => k_is)
    (case k8 => k_is)
    (case a9 => k_is)
    (case l9 => k_is)
    (case c9 => k_is)
    (case k9 => k_is)
    (case a10 => k_is)
    (case l10 => k_is)
    (case c10 => k_is)
    (case k10 => k_is)
    (case pg_Done => k_is)
    (case hd_Done => k_is)
    (case po_Done => k_is)
    (case sa_Done => k_is)
    (case mk_Done => k_is)
    (case kc_Done => k_is)
    (case ca_Done => k_is)
    (case cn_Done => k_is)
    (case ct_Done => k_is)
    (case cm_Done => k_is)
    (case in_Done => k_is)
    (case i_Done_Answer => kit_is)
    (case i_Done_Done => kit_is)
    (case i_Done_Next => kit_is)
    (case i_Done_Short => kit_is)
    (case pg_Next => k_is)
    (case hd_Next => k_is)
    (case po_Next => k_is)
    (case sa_Next => k_is)
    (case mk_Next => k_is)
    (case kc_Next => k_is)
    (case ca_Next => k_is)
    (case cn_Next => k_is)
    (case ct_Next => k_is)
    (case cm_Next => k_is)
    (case n_Next_storey => k_is)
    (case i_Next_Answer => kit_is)
    (case i_Next_Done => kit_is)
    (case i_Next_Next => kit_is)
    (case i_Next_Short => kit_is)
    (case pg_Short => k_is)
    (case hd_Short => k_is)
    (case po_Short => k_is)
    (case sa_Short => k_is)
    (case mk_Short => k_is)
    (case kc_Short => k_is)
    (case ca_Short => k_is)
    (case cn_Short => k_is)
    (case ct_Short => k_is)
    (case cm_Short => k_is)
    (case n_Short_most => k_is)
    (case i_Short_Answer => kit_is)
    (case i_Short_Done => kit_is)
    (case i_Short_Next => kit_is)
    (case i_Short_Short => kit_is)
    (case z_all => k_is)
    (case z_bool => k_is)
    (case z_enumerate => k_is)
    (case z_isinstance => k_is)
    (case z_len => k_is)
    (case z_max => k_is)
    (case z_min => k_is)
    (case z_range => k_is)
    (case z_sum => k_is)
