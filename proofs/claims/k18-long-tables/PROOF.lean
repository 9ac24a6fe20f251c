import PyProof.Rows.All
import Wide.All
import OpenK.AllK
import Wide.FinOn
import HandS.ForMost
import HandS.Exc
import HandS.IsInst
import HandS.Zip
import HandS.Walk
import HandS.DictComp
import HandS.SortInts
import HandS.Strs
import HandS.Deep
import HandS.TupLen
import KE.GoesMore
import KE.GoesEnum
import KE.Datum
import HandS.Conv
import PySem.Challenge.RW_nearwish_k18_whole_long_tables
section
/-! The abstract part: a finite monoid, words, the sets of all words of one length come again. -/
set_option autoImplicit false
namespace K18

class Mo (S : Type) extends Mul S where
  e1 : S
  assoc : ∀ a b c : S, a * b * c = a * (b * c)
  onel : ∀ a : S, e1 * a = a
  oner : ∀ a : S, a * e1 = a

def pw {S : Type} [Mo S] (a : S) : Nat → S
  | 0 => Mo.e1
  | n + 1 => a * pw a n

section
variable {S : Type} [Mo S]

theorem pw_add (a : S) (m n : Nat) : pw a (m + n) = pw a m * pw a n := by
  induction m with
  | zero => rw [Nat.zero_add]; exact (Mo.onel _).symm
  | succ m ih =>
    rw [Nat.succ_add]
    show a * pw a (m + n) = a * pw a m * pw a n
    rw [ih, Mo.assoc]

theorem pw_one (a : S) : pw a 1 = a := Mo.oner a

/-- the monoid's exponents: groups of order one, two and three alone -/
def Exp (S : Type) [Mo S] : Prop := ∀ s : S, pw s 9 = pw s 7 ∨ pw s 10 = pw s 7

theorem exp_six (hx : Exp S) (s : S) (n : Nat) (hn : 7 ≤ n) : pw s (n + 6) = pw s n := by
  obtain ⟨k, rfl⟩ : ∃ k, n = 7 + k := ⟨n - 7, by omega⟩
  have h7 : pw s (7 + 6) = pw s 7 := by
    rcases hx s with h | h
    · have a : pw s (7 + 2) = pw s 7 := h
      have b : pw s (7 + 2 + 2) = pw s 7 := by rw [pw_add, a, ← pw_add]; exact a
      have c : pw s (7 + 2 + 2 + 2) = pw s 7 := by rw [pw_add, b, ← pw_add]; exact a
      exact c
    · have a : pw s (7 + 3) = pw s 7 := h
      have b : pw s (7 + 3 + 3) = pw s 7 := by rw [pw_add, a, ← pw_add]; exact a
      exact b
  have : 7 + k + 6 = 7 + 6 + k := by omega
  rw [this, pw_add, h7, ← pw_add]

theorem idem12 (hx : Exp S) (s : S) : pw s 12 * pw s 12 = pw s 12 := by
  rw [← pw_add]
  have a : pw s (12 + 6) = pw s 12 := exp_six hx s 12 (by omega)
  have b : pw s (18 + 6) = pw s 18 := exp_six hx s 18 (by omega)
  exact b.trans a

theorem fix_pw {v y : S} (h : v * y = v) (n : Nat) : v * pw y n = v := by
  induction n with
  | zero => exact Mo.oner v
  | succ n ih =>
    show v * (y * pw y n) = v
    rw [← Mo.assoc, h, ih]

/-- a power that is cancelled by another one -/
theorem cancel_pow {e a b : S} (he : e * e = e) (ha : e * a = a) (ha' : a * e = a) (hb : e * b = b) (hb' : b * e = b) (h : a * b = e) (n : Nat) :
    pw a (n + 1) * pw b (n + 1) = e := by
  induction n with
  | zero =>
    show a * pw a 0 * (b * pw b 0) = e
    rw [show pw a 0 = Mo.e1 from rfl, show pw b 0 = Mo.e1 from rfl, Mo.oner, Mo.oner, h]
  | succ n ih =>
    have e1 : pw a (n + 1 + 1) = pw a (n + 1) * a := by rw [pw_add a (n + 1) 1, pw_one]
    show pw a (n + 1 + 1) * (b * pw b (n + 1)) = e
    rw [e1, Mo.assoc, ← Mo.assoc a b, h]
    have : e * pw b (n + 1) = pw b (n + 1) := by
      show e * (b * pw b n) = b * pw b n
      rw [← Mo.assoc, hb]
    rw [this, ih]

theorem unit_order (hx : Exp S) {e a b : S} (he : e * e = e) (ha : e * a = a) (ha' : a * e = a) (hb : e * b = b) (hb' : b * e = b) (h : a * b = e) :
    (a * a = e ∨ a * (a * a) = e) ∧ b * a = e := by
  have c7 : pw a 7 * pw b 7 = e := cancel_pow he ha ha' hb hb' h 6
  rcases hx a with q | q
  · have k : a * a = e := by
      have : pw a 9 * pw b 7 = e := by rw [q, c7]
      rw [show (9 : Nat) = 2 + 7 from rfl, pw_add, Mo.assoc, c7] at this
      have p2 : pw a 2 = a * a := by
        show a * (a * Mo.e1) = a * a
        rw [Mo.oner]
      rw [p2, Mo.assoc, ha'] at this
      exact this
    refine ⟨.inl k, ?_⟩
    have : b = a := by
      calc b = e * b := hb.symm
        _ = a * a * b := by rw [k]
        _ = a * (a * b) := Mo.assoc _ _ _
        _ = a := by rw [h, ha']
    rw [this, k]
  · have k : a * (a * a) = e := by
      have : pw a 10 * pw b 7 = e := by rw [q, c7]
      rw [show (10 : Nat) = 3 + 7 from rfl, pw_add, Mo.assoc, c7] at this
      have p3 : pw a 3 = a * (a * a) := by
        show a * (a * (a * Mo.e1)) = a * (a * a)
        rw [Mo.oner]
      rw [p3, Mo.assoc, Mo.assoc, ha'] at this
      exact this
    refine ⟨.inr k, ?_⟩
    have : b = a * a := by
      calc b = e * b := hb.symm
        _ = a * (a * a) * b := by rw [k]
        _ = a * (a * (a * b)) := by rw [Mo.assoc, Mo.assoc]
        _ = a * a := by rw [h, ha']
    rw [this, Mo.assoc, k]
end

/-! ### numbers -/
theorem exists_least (p : Nat → Prop) (h : ∃ n, p n) : ∃ n, p n ∧ ∀ m, m < n → ¬ p m := by
  obtain ⟨n, hn⟩ := h
  induction n using Nat.strongRecOn with
  | ind n ih =>
    by_cases q : ∃ m, m < n ∧ p m
    · obtain ⟨m, hm, pm⟩ := q
      exact ih m hm pm
    · exact ⟨n, hn, fun m hm pm => q ⟨m, hm, pm⟩⟩

theorem exists_gcd (p : Nat → Prop) (h0 : p 0) (hadd : ∀ a b, p a → p b → p (a + b)) (g : Nat) (hg : 0 < g) (pg : p g) :
    ∃ D, 0 < D ∧ (∀ n, p n → D ∣ n) ∧ ∃ a, p a ∧ p (a + D) := by
  obtain ⟨D, ⟨hD, a, pa, paD⟩, hmin⟩ := exists_least (fun d => 0 < d ∧ ∃ a, p a ∧ p (a + d)) ⟨g, hg, 0, h0, by rwa [Nat.zero_add]⟩
  refine ⟨D, hD, ?_, a, pa, paD⟩
  have hmul : ∀ x, p x → ∀ k, p (k * x) := by
    intro x px k
    induction k with
    | zero => rw [Nat.zero_mul]; exact h0
    | succ k ih => rw [Nat.succ_mul]; exact hadd _ _ ih px
  intro n pn
  by_cases hr : n % D = 0
  · exact Nat.dvd_of_mod_eq_zero hr
  · exfalso
    refine hmin (n % D) (Nat.mod_lt _ hD) ⟨Nat.pos_of_ne_zero hr, n / D * (a + D), hmul _ paD _, ?_⟩
    have e : n / D * (a + D) + n % D = n + n / D * a := by
      have := Nat.div_add_mod n D
      rw [Nat.mul_add, Nat.mul_comm (n / D) D]
      omega
    rw [e]
    exact hadd _ _ pn (hmul _ pa _)

/-- two lists, one within the other -/
theorem ph {α β : Type} (l : List α) (f : α → β) (m : List β) (hl : l.Nodup) (hi : ∀ a, a ∈ l → ∀ b, b ∈ l → f a = f b → a = b) (hm : ∀ a, a ∈ l → f a ∈ m) :
    l.length ≤ m.length := by
  have nd : (l.map f).Nodup := by
    rw [List.nodup_iff_pairwise_ne, List.pairwise_map]
    rw [List.nodup_iff_pairwise_ne] at hl
    refine List.Pairwise.imp_of_mem ?_ hl
    intro a b ha hb hab e
    exact hab (hi a ha b hb e)
  have := nd.length_le_of_subset (l₂ := m) (by
    intro x hx
    obtain ⟨a, ha, rfl⟩ := List.mem_map.mp hx
    exact hm a ha)
  rwa [List.length_map] at this

theorem nodup_filter {α : Type} (p : α → Bool) {l : List α} (h : l.Nodup) : (l.filter p).Nodup :=
  List.Pairwise.filter p h

/-! ### the knapsack -/
def wt (d : Nat) : Nat := if 3 ∣ d then d * d / 3 else if 2 ∣ d then d * d / 2 else d * d
def knap : List Nat → Nat → Nat → Bool
  | [], _, acc => acc ≤ 2520
  | d :: ds, b, acc => knap ds b acc && (if wt d ≤ b then knap ds (b - wt d) (Nat.lcm acc d) else true)
theorem knap_all {l : List Nat} : ∀ {b acc : Nat}, knap l b acc = true → ∀ s, List.Sublist s l → (s.map wt).sum ≤ b → s.foldl Nat.lcm acc ≤ 2520 := by
  induction l with
  | nil =>
    intro b acc h s hs _
    cases hs
    simpa [knap] using h
  | cons d ds ih =>
    intro b acc h s hs hb
    rw [knap, Bool.and_eq_true] at h
    cases hs with
    | cons _ hs => exact ih h.1 s hs hb
    | cons_cons _ hs =>
      rename_i s
      rw [List.map_cons, List.sum_cons] at hb
      have h2 := h.2
      rw [if_pos (by omega)] at h2
      exact ih h2 s hs (by omega)
theorem knap_run : knap (List.range 37) 200 1 = true := by decide +kernel

theorem dvd_foldl_lcm (l : List Nat) : ∀ (acc : Nat), acc ∣ l.foldl Nat.lcm acc ∧ ∀ d, d ∈ l → d ∣ l.foldl Nat.lcm acc := by
  induction l with
  | nil => intro acc; exact ⟨Nat.dvd_refl _, fun d hd => nomatch hd⟩
  | cons x xs ih =>
    intro acc
    obtain ⟨h1, h2⟩ := ih (Nat.lcm acc x)
    refine ⟨Nat.dvd_trans (Nat.dvd_lcm_left acc x) h1, fun d hd => ?_⟩
    rcases List.mem_cons.mp hd with rfl | hd
    · exact Nat.dvd_trans (Nat.dvd_lcm_right acc d) h1
    · exact h2 d hd
theorem foldl_lcm_pos (l : List Nat) : ∀ (acc : Nat), 0 < acc → (∀ d, d ∈ l → 0 < d) → 0 < l.foldl Nat.lcm acc := by
  induction l with
  | nil => intro acc h _; exact h
  | cons x xs ih =>
    intro acc h hd
    exact ih _ (Nat.lcm_pos h (hd x (List.mem_cons_self))) (fun d h' => hd d (List.mem_cons_of_mem _ h'))

/-! ### the numbers of the bound -/
def numOk (D D' c : Nat) : Bool := !(D' * c ≤ 200) || decide (c + D * (200 - D' * c) + c * (c / D) ≤ 1905)
theorem num_run : (List.range 37).all (fun c => (List.range 37).all fun D => D = 0 || c < D || (numOk D D c && (D % 2 != 0 || numOk D (D / 2) c) && (D % 3 != 0 || numOk D (D / 3) c))) = true := by decide +kernel
theorem num_ok {D D' c : Nat} (hD : 0 < D) (hc : D ≤ c) (hc36 : c ≤ 36) (h : D = D' ∨ D = 2 * D' ∨ D = 3 * D') (hn : D' * c ≤ 200) : c + D * (200 - D' * c) + c * (c / D) ≤ 1905 := by
  have h1 := List.all_eq_true.mp num_run c (List.mem_range.mpr (by omega))
  have h2 := List.all_eq_true.mp h1 D (List.mem_range.mpr (by omega))
  rw [Bool.or_eq_true, Bool.or_eq_true] at h2
  rcases h2 with (h2 | h2) | h2
  · have := of_decide_eq_true h2; omega
  · have := of_decide_eq_true h2; omega
  · rw [Bool.and_eq_true, Bool.and_eq_true] at h2
    obtain ⟨⟨k1, k2⟩, k3⟩ := h2
    have key : ∀ {x : Nat}, numOk D x c = true → x * c ≤ 200 → c + D * (200 - x * c) + c * (c / D) ≤ 1905 := by
      intro x hx hxc
      unfold numOk at hx
      rw [Bool.or_eq_true] at hx
      rcases hx with hx | hx
      · simp [hxc] at hx
      · exact of_decide_eq_true hx
    rcases h with rfl | rfl | rfl
    · exact key k1 hn
    · rw [Bool.or_eq_true] at k2
      rcases k2 with k2 | k2
      · simp at k2
      · rw [Nat.mul_div_cancel_left _ (by omega)] at k2
        exact key k2 hn
    · rw [Bool.or_eq_true] at k3
      rcases k3 with k3 | k3
      · simp at k3
      · rw [Nat.mul_div_cancel_left _ (by omega)] at k3
        exact key k3 hn
end K18
end
section
set_option autoImplicit false
namespace K18
section
variable {L S : Type} [Mo S]

/-- words and their elements -/
structure Gen (φ : List L → S) : Prop where
  nil : φ [] = Mo.e1
  app : ∀ a b, φ (a ++ b) = φ a * φ b
  sur : ∀ s, ∃ w, φ w = s

variable {φ : List L → S}

/-- the lengths of words that lead back to e -/
def Cl (φ : List L → S) (e : S) (n : Nat) : Prop := ∃ w, w.length = n ∧ e * φ w = e

theorem Cl.zero (G : Gen φ) (e : S) : Cl φ e 0 := ⟨[], rfl, by rw [G.nil, Mo.oner]⟩
theorem Cl.add (G : Gen φ) {e : S} {a b : Nat} (h : Cl φ e a) (k : Cl φ e b) : Cl φ e (a + b) := by
  obtain ⟨w, rfl, hw⟩ := h
  obtain ⟨u, rfl, hu⟩ := k
  exact ⟨w ++ u, List.length_append, by rw [G.app, ← Mo.assoc, hw, hu]⟩

/-- everything about an idempotent that a word z that is not empty makes -/
structure Idem (φ : List L → S) (all : List S) (z : List L) (e : S) (D D' : Nat) (R : List S) : Prop where
  ez : φ z = e
  ne : z ≠ []
  ee : e * e = e
  pos : 0 < D
  dv : ∀ n, Cl φ e n → D ∣ n
  df : ∃ a, Cl φ e a ∧ Cl φ e (a + D)
  o : D = D' ∨ D = 2 * D' ∨ D = 3 * D'
  un : ∀ w b, e * φ w * e * b = e → e * b = b → b * e = b → D' ∣ w.length
  nd : R.Nodup
  mem : ∀ s, s ∈ R ↔ ∃ a b, s = e * a ∧ s * b = e

theorem dvd_two {D n : Nat} (h : D ∣ 2 * n) (hD : ¬ 2 ∣ D) : D ∣ n := by
  refine Nat.Coprime.dvd_of_dvd_mul_left ?_ h
  have : Nat.gcd D 2 ∣ 2 := Nat.gcd_dvd_right D 2
  have h2 : Nat.gcd D 2 ∣ D := Nat.gcd_dvd_left D 2
  have le : Nat.gcd D 2 ≤ 2 := Nat.le_of_dvd (by decide) this
  have ps : 0 < Nat.gcd D 2 := Nat.gcd_pos_of_pos_right _ (by decide)
  show Nat.gcd D 2 = 1
  have : Nat.gcd D 2 ≠ 2 := fun q => hD (q ▸ h2)
  omega
theorem dvd_three {D n : Nat} (h : D ∣ 3 * n) (hD : ¬ 3 ∣ D) : D ∣ n := by
  refine Nat.Coprime.dvd_of_dvd_mul_left ?_ h
  have h3 : Nat.gcd D 3 ∣ 3 := Nat.gcd_dvd_right D 3
  have h2 : Nat.gcd D 3 ∣ D := Nat.gcd_dvd_left D 3
  have le : Nat.gcd D 3 ≤ 3 := Nat.le_of_dvd (by decide) h3
  have ps : 0 < Nat.gcd D 3 := Nat.gcd_pos_of_pos_right _ (by decide)
  show Nat.gcd D 3 = 1
  have : Nat.gcd D 3 ≠ 3 := fun q => hD (q ▸ h2)
  have : Nat.gcd D 3 ≠ 2 := fun q => by
    rw [q] at h3
    omega
  omega

theorem idem_exists (G : Gen φ) (hx : Exp S) (all : List S) (hall : ∀ s, s ∈ all) (hnd : all.Nodup) {z : List L} {e : S} (ez : φ z = e) (ne : z ≠ []) (ee : e * e = e) :
    ∃ D D' R, Idem φ all z e D D' R := by
  have hg : 0 < z.length := List.length_pos_iff.mpr ne
  obtain ⟨D, hD, dv, df⟩ := exists_gcd (Cl φ e) (Cl.zero G e) (fun _ _ => Cl.add G) z.length hg ⟨z, rfl, by rw [ez, ee]⟩
  have dg : D ∣ z.length := dv _ ⟨z, rfl, by rw [ez, ee]⟩
  -- a unit
  let U : List L → Prop := fun w => ∃ b, e * φ w * e * b = e ∧ e * b = b ∧ b * e = b
  have hU : ∀ w, U w → D ∣ 2 * w.length ∨ D ∣ 3 * w.length := by
    rintro w ⟨b, h, hb, hb'⟩
    have ha : e * (e * φ w * e) = e * φ w * e := by rw [← Mo.assoc, ← Mo.assoc, ee]
    have ha' : (e * φ w * e) * e = e * φ w * e := by rw [Mo.assoc, ee]
    obtain ⟨h2 | h3, _⟩ := unit_order hx ee ha ha' hb hb' h
    · left
      have : Cl φ e (w ++ z ++ (w ++ z)).length := ⟨_, rfl, by
        rw [G.app, G.app, ez]
        calc e * (φ w * e * (φ w * e)) = e * φ w * (e * e) * (φ w * e) := by simp only [Mo.assoc, ee]
          _ = (e * φ w * e) * (e * φ w * e) := by simp only [Mo.assoc]
          _ = e := h2⟩
      have h' := dv _ this
      simp only [List.length_append] at h'
      have : D ∣ 2 * z.length := Nat.dvd_trans dg ⟨2, Nat.mul_comm _ _⟩
      have e2 : w.length + z.length + (w.length + z.length) = 2 * w.length + 2 * z.length := by omega
      rw [e2] at h'
      exact (Nat.dvd_add_iff_left this).mpr h'
    · right
      have : Cl φ e (w ++ z ++ (w ++ z ++ (w ++ z))).length := ⟨_, rfl, by
        simp only [G.app, ez]
        calc e * (φ w * e * (φ w * e * (φ w * e))) = e * φ w * (e * e) * (φ w * (e * e) * (φ w * e)) := by simp only [Mo.assoc, ee]
          _ = (e * φ w * e) * ((e * φ w * e) * (e * φ w * e)) := by simp only [Mo.assoc]
          _ = e := h3⟩
      have h' := dv _ this
      simp only [List.length_append] at h'
      have : D ∣ 3 * z.length := Nat.dvd_trans dg ⟨3, Nat.mul_comm _ _⟩
      have e2 : w.length + z.length + (w.length + z.length + (w.length + z.length)) = 3 * w.length + 3 * z.length := by omega
      rw [e2] at h'
      exact (Nat.dvd_add_iff_left this).mpr h'
  have hUU : ∀ w1 w2, U w1 → U w2 → U (w1 ++ z ++ w2) := by
    rintro w1 w2 ⟨b1, h1, p1, q1⟩ ⟨b2, h2, p2, q2⟩
    refine ⟨b2 * b1, ?_, by rw [← Mo.assoc, p2], by rw [Mo.assoc, q1]⟩
    rw [G.app, G.app, ez]
    calc e * (φ w1 * e * φ w2) * e * (b2 * b1) = e * φ w1 * (e * e) * φ w2 * e * b2 * b1 := by simp only [Mo.assoc, ee]
      _ = e * φ w1 * e * (e * φ w2 * e * b2) * b1 := by simp only [Mo.assoc]
      _ = e * φ w1 * (e * e) * b1 := by rw [h2]; simp only [Mo.assoc]
      _ = e * φ w1 * e * b1 := by rw [ee]
      _ = e := h1
  have hdic : (∀ w, U w → D ∣ 2 * w.length) ∨ (∀ w, U w → D ∣ 3 * w.length) := by
    by_cases q : ∀ w, U w → D ∣ 2 * w.length
    · exact .inl q
    · refine .inr fun w2 u2 => ?_
      obtain ⟨w1, hw1⟩ := Classical.not_forall.mp q
      obtain ⟨u1, n1⟩ := Classical.not_imp.mp hw1
      have t1 : D ∣ 3 * w1.length := (hU w1 u1).resolve_left n1
      by_cases t2 : D ∣ 3 * w2.length
      · exact t2
      · exfalso
        have t2' : D ∣ 2 * w2.length := (hU w2 u2).resolve_right t2
        have l : (w1 ++ z ++ w2).length = w1.length + z.length + w2.length := by simp only [List.length_append]
        rcases hU _ (hUU w1 w2 u1 u2) with h | h
        · rw [l] at h
          have g2 : D ∣ 2 * z.length := Nat.dvd_trans dg ⟨2, Nat.mul_comm _ _⟩
          have : D ∣ 2 * w1.length + (2 * z.length + 2 * w2.length) := by
            have e2 : 2 * w1.length + (2 * z.length + 2 * w2.length) = 2 * (w1.length + z.length + w2.length) := by omega
            rwa [e2]
          exact n1 ((Nat.dvd_add_iff_left (Nat.dvd_add g2 t2')).mpr this)
        · rw [l] at h
          have g2 : D ∣ 3 * z.length := Nat.dvd_trans dg ⟨3, Nat.mul_comm _ _⟩
          have : D ∣ 3 * w2.length + (3 * z.length + 3 * w1.length) := by
            have e2 : 3 * w2.length + (3 * z.length + 3 * w1.length) = 3 * (w1.length + z.length + w2.length) := by omega
            rwa [e2]
          exact t2 ((Nat.dvd_add_iff_left (Nat.dvd_add g2 t1)).mpr this)
  have hD' : ∃ D', (D = D' ∨ D = 2 * D' ∨ D = 3 * D') ∧ ∀ w, U w → D' ∣ w.length := by
    rcases hdic with h | h
    · by_cases q : 2 ∣ D
      · obtain ⟨k, rfl⟩ := q
        exact ⟨k, .inr (.inl rfl), fun w u => Nat.dvd_of_mul_dvd_mul_left (by decide) (h w u)⟩
      · exact ⟨D, .inl rfl, fun w u => dvd_two (h w u) q⟩
    · by_cases q : 3 ∣ D
      · obtain ⟨k, rfl⟩ := q
        exact ⟨k, .inr (.inr rfl), fun w u => Nat.dvd_of_mul_dvd_mul_left (by decide) (h w u)⟩
      · exact ⟨D, .inl rfl, fun w u => dvd_three (h w u) q⟩
  obtain ⟨D', o, un⟩ := hD'
  classical
  refine ⟨D, D', all.filter (fun s => decide (∃ a b, s = e * a ∧ s * b = e)), ez, ne, ee, hD, dv, df, o, fun w b h1 h2 h3 => un w ⟨b, h1, h2, h3⟩, nodup_filter _ hnd, fun s => ?_⟩
  rw [List.mem_filter, decide_eq_true_eq]
  exact ⟨fun h => h.2, fun h => ⟨hall s, h⟩⟩
end
end K18
end
section
set_option autoImplicit false
namespace K18
section
variable {L S : Type} [Mo S] {φ : List L → S} {all : List S} {z : List L} {e : S} {D D' : Nat} {R : List S}

theorem Idem.dg (I : Idem φ all z e D D' R) : D ∣ z.length := I.dv _ ⟨z, rfl, by rw [I.ez, I.ee]⟩
theorem Idem.len (I : Idem φ all z e D D' R) : 0 < z.length := List.length_pos_iff.mpr I.ne
theorem Idem.pos' (I : Idem φ all z e D D' R) : 0 < D' := by
  have := I.pos
  rcases I.o with h | h | h <;> omega
theorem Idem.le' (I : Idem φ all z e D D' R) : D' ≤ D := by
  rcases I.o with h | h | h <;> omega
theorem Idem.e_mem (I : Idem φ all z e D D' R) : e ∈ R := (I.mem e).mpr ⟨e, e, I.ee.symm, I.ee⟩

/-- z = p i ++ s i -/
theorem Idem.parts (G : Gen φ) (I : Idem φ all z e D D' R) (i : Nat) : φ (z.take i) * φ (z.drop i) = e := by
  rw [← G.app, List.take_append_drop, I.ez]

/-- at least D elements stand in R -/
theorem Idem.D_le (G : Gen φ) (I : Idem φ all z e D D' R) : D ≤ R.length := by
  have := ph (List.range D) (fun i => e * φ (z.take i)) R List.nodup_range (fun i hi j hj h => ?_) (fun i hi => (I.mem _).mpr ⟨φ (z.take i), φ (z.drop i), rfl, by rw [Mo.assoc, I.parts G, I.ee]⟩)
  · rwa [List.length_range] at this
  · have key : ∀ i j, i < j → j < D → e * φ (z.take i) = e * φ (z.take j) → False := by
      intro i j hij hj h
      have c : Cl φ e (z.take j ++ z.drop i).length := ⟨_, rfl, by rw [G.app, ← Mo.assoc, ← h, Mo.assoc, I.parts G, I.ee]⟩
      have d := I.dv _ c
      have hDz : D ≤ z.length := Nat.le_of_dvd I.len I.dg
      rw [List.length_append, List.length_take, List.length_drop, Nat.min_eq_left (by omega)] at d
      have e1 : j + (z.length - i) = z.length + (j - i) := by omega
      rw [e1] at d
      have d2 : D ∣ j - i := (Nat.dvd_add_iff_right I.dg).mpr d
      have := Nat.le_of_dvd (by omega) d2
      omega
    have hi' := List.mem_range.mp hi
    have hj' := List.mem_range.mp hj
    rcases Nat.lt_trichotomy i j with q | q | q
    · exact (key i j q hj' h).elim
    · exact q
    · exact (key j i q hi' h.symm).elim

/-- the elements that are counted for e -/
def Jl (φ : List L → S) (z : List L) (D' : Nat) (R : List S) : List S := (List.range D').flatMap fun i => R.map fun r => φ (z.drop i) * r

theorem Jl_mem {s : S} : s ∈ Jl φ z D' R ↔ ∃ i, i < D' ∧ ∃ r, r ∈ R ∧ φ (z.drop i) * r = s := by
  unfold Jl
  rw [List.mem_flatMap]
  constructor
  · rintro ⟨i, hi, h⟩
    obtain ⟨r, hr, h⟩ := List.mem_map.mp h
    exact ⟨i, List.mem_range.mp hi, r, hr, h⟩
  · rintro ⟨i, hi, r, hr, h⟩
    exact ⟨i, List.mem_range.mpr hi, List.mem_map.mpr ⟨r, hr, h⟩⟩

theorem Jl_len : (Jl φ z D' R).length = D' * R.length := by
  unfold Jl
  rw [List.length_flatMap]
  simp only [List.length_map]
  rw [List.map_const', List.sum_replicate_nat, List.length_range]

theorem Idem.e_mul (I : Idem φ all z e D D' R) {r : S} (h : r ∈ R) : e * r = r := by
  obtain ⟨a, b, h1, _⟩ := (I.mem r).mp h
  rw [h1, ← Mo.assoc, I.ee]

theorem Idem.Jl_nodup (G : Gen φ) (hx : Exp S) (I : Idem φ all z e D D' R) : (Jl φ z D' R).Nodup := by
  have hDz : D ≤ z.length := Nat.le_of_dvd I.len I.dg
  have hle := I.le'
  -- from one element of the list the place i
  have key : ∀ i j, i < D' → j < D' → ∀ r, r ∈ R → ∀ r', r' ∈ R → φ (z.drop i) * r = φ (z.drop j) * r' → i = j := by
    intro i j hi hj r hr r' hr' h
    obtain ⟨a', b', hr1', hr2'⟩ := (I.mem r').mp hr'
    obtain ⟨a, b, hr1, hr2⟩ := (I.mem r).mp hr
    -- r = e p_i s_j r', so e = (e p_i s_j e) (r' b)
    have h1 : r = e * (φ (z.take i) * φ (z.drop j)) * e * r' := by
      calc r = e * r := (I.e_mul hr).symm
        _ = e * (e * r) := by rw [← Mo.assoc, I.ee]
        _ = e * (φ (z.take i) * φ (z.drop i) * r) := by rw [I.parts G]
        _ = e * (φ (z.take i) * (φ (z.drop j) * r')) := by rw [Mo.assoc, h]
        _ = e * (φ (z.take i) * (φ (z.drop j) * (e * r'))) := by rw [I.e_mul hr']
        _ = e * (φ (z.take i) * φ (z.drop j)) * e * r' := by simp only [Mo.assoc]
    have h2 : e * φ (z.take i ++ z.drop j) * e * (r' * b * e) = e := by
      rw [G.app]
      calc e * (φ (z.take i) * φ (z.drop j)) * e * (r' * b * e) = (e * (φ (z.take i) * φ (z.drop j)) * e * r') * b * e := by simp only [Mo.assoc]
        _ = r * b * e := by rw [← h1]
        _ = e := by rw [hr2, I.ee]
    have d := I.un _ _ h2 (by rw [← Mo.assoc, ← Mo.assoc, I.e_mul hr']) (by rw [Mo.assoc, I.ee])
    rw [List.length_append, List.length_take, List.length_drop, Nat.min_eq_left (by omega)] at d
    have dz : D' ∣ z.length := Nat.dvd_trans (by rcases I.o with q | q | q <;> rw [q] <;> first | exact Nat.dvd_refl _ | exact Nat.dvd_mul_left _ _) I.dg
    rcases Nat.lt_trichotomy i j with q | q | q
    · exfalso
      have e1 : z.length = i + (z.length - j) + (j - i) := by omega
      have : D' ∣ j - i := by
        rw [e1] at dz
        exact (Nat.dvd_add_iff_right d).mpr dz
      have := Nat.le_of_dvd (by omega) this
      omega
    · exact q
    · exfalso
      have e1 : i + (z.length - j) = z.length + (i - j) := by omega
      rw [e1] at d
      have : D' ∣ i - j := (Nat.dvd_add_iff_right dz).mpr d
      have := Nat.le_of_dvd (by omega) this
      omega
  unfold Jl
  rw [List.nodup_iff_pairwise_ne, List.pairwise_flatMap]
  constructor
  · intro i hi
    rw [List.pairwise_map]
    have nd := I.nd
    rw [List.nodup_iff_pairwise_ne] at nd
    refine List.Pairwise.imp_of_mem ?_ nd
    intro r r' hr hr' hne h
    apply hne
    have : φ (z.take i) * (φ (z.drop i) * r) = φ (z.take i) * (φ (z.drop i) * r') := by rw [h]
    rw [← Mo.assoc, ← Mo.assoc, I.parts G, I.e_mul hr, I.e_mul hr'] at this
    exact this
  · have nr := @List.nodup_range D'
    rw [List.nodup_iff_pairwise_ne] at nr
    refine List.Pairwise.imp_of_mem ?_ nr
    intro i j hi hj hne x hx y hy hxy
    obtain ⟨r, hr, rfl⟩ := List.mem_map.mp hx
    obtain ⟨r', hr', rfl⟩ := List.mem_map.mp hy
    exact hne (key i j (List.mem_range.mp hi) (List.mem_range.mp hj) r hr r' hr' hxy)

/-- what an element of the list tells -/
theorem Idem.Jl_out (G : Gen φ) (I : Idem φ all z e D D' R) {s : S} (h : s ∈ Jl φ z D' R) : (∃ p t, p * s * t = e) ∧ (∃ x y, s = x * e * y) := by
  obtain ⟨i, _, r, hr, rfl⟩ := Jl_mem.mp h
  obtain ⟨a, b, h1, h2⟩ := (I.mem r).mp hr
  refine ⟨⟨φ (z.take i), b, ?_⟩, ⟨φ (z.drop i), a, ?_⟩⟩
  · rw [← Mo.assoc, I.parts G, I.e_mul hr, h2]
  · rw [Mo.assoc, ← h1]

theorem dvd_of_factor (G : Gen φ) {e' : S} (ee : e * e = e) (dv : ∀ n, Cl φ e n → D ∣ n) {x y : S} (h : e = x * e' * y) {w : List L} (hw : e' * φ w = e') : D ∣ w.length := by
  obtain ⟨wx, rfl⟩ := G.sur x
  obtain ⟨wy, rfl⟩ := G.sur y
  obtain ⟨wz, rfl⟩ := G.sur e'
  have c1 := dv _ ⟨wx ++ wz ++ wy, rfl, by rw [G.app, G.app, ← h, ee]⟩
  have c2 := dv _ ⟨wx ++ (wz ++ w) ++ wy, rfl, by rw [G.app, G.app, G.app, hw, ← h, ee]⟩
  simp only [List.length_append] at c1 c2
  have e1 : wx.length + (wz.length + w.length) + wy.length = wx.length + wz.length + wy.length + w.length := by omega
  rw [e1] at c2
  exact (Nat.dvd_add_iff_right c1).mpr c2

theorem Idem.disj (G : Gen φ) {z2 : List L} {e2 : S} {D2 D2' : Nat} {R2 : List S} (I : Idem φ all z e D D' R) (I2 : Idem φ all z2 e2 D2 D2' R2) {s : S} (h : s ∈ Jl φ z D' R) (h2 : s ∈ Jl φ z2 D2' R2) : D = D2 := by
  obtain ⟨⟨p, t, hp⟩, ⟨x, y, hxy⟩⟩ := I.Jl_out G h
  obtain ⟨⟨p2, t2, hp2⟩, ⟨x2, y2, hxy2⟩⟩ := I2.Jl_out G h2
  have f1 : e = (p * x2) * e2 * (y2 * t) := by
    rw [← hp, hxy2]
    simp only [Mo.assoc]
  have f2 : e2 = (p2 * x) * e * (y * t2) := by
    rw [← hp2, hxy]
    simp only [Mo.assoc]
  have d1 : D ∣ D2 := by
    obtain ⟨a, ⟨w, hl, hw⟩, ⟨w', hl', hw'⟩⟩ := I2.df
    have := dvd_of_factor G I.ee I.dv f1 hw
    have k := dvd_of_factor G I.ee I.dv f1 hw'
    rw [hl'] at k
    rw [hl] at this
    exact (Nat.dvd_add_iff_right this).mpr k
  have d2 : D2 ∣ D := by
    obtain ⟨a, ⟨w, hl, hw⟩, ⟨w', hl', hw'⟩⟩ := I.df
    have := dvd_of_factor G I2.ee I2.dv f2 hw
    have k := dvd_of_factor G I2.ee I2.dv f2 hw'
    rw [hl'] at k
    rw [hl] at this
    exact (Nat.dvd_add_iff_right this).mpr k
  exact Nat.dvd_antisymm d1 d2

theorem Idem.wt_le (G : Gen φ) (I : Idem φ all z e D D' R) : wt D ≤ (Jl φ z D' R).length := by
  rw [Jl_len]
  have h1 := I.D_le G
  have h2 : D' * D ≤ D' * R.length := Nat.mul_le_mul_left _ h1
  refine Nat.le_trans ?_ h2
  unfold wt
  rcases I.o with h | h | h
  · rw [← h]
    split
    · exact Nat.div_le_self _ _
    · split
      · exact Nat.div_le_self _ _
      · exact Nat.le_refl _
  · subst h
    have e2 : 2 * D' * (2 * D') = 2 * (D' * (2 * D')) := Nat.mul_assoc _ _ _
    split
    · rw [e2]
      exact Nat.le_trans (Nat.div_le_div_left (a := 2 * (D' * (2 * D'))) (by decide : 2 ≤ 3) (by decide)) (by rw [Nat.mul_div_cancel_left _ (by decide)]; exact Nat.le_refl _)
    · split
      · rw [e2, Nat.mul_div_cancel_left _ (by decide)]
        exact Nat.le_refl _
      · rename_i q
        exact (q ⟨D', rfl⟩).elim
  · subst h
    have e2 : 3 * D' * (3 * D') = 3 * (D' * (3 * D')) := Nat.mul_assoc _ _ _
    split
    · rw [e2, Nat.mul_div_cancel_left _ (by decide)]
      exact Nat.le_refl _
    · rename_i q
      exact (q ⟨D', rfl⟩).elim

/-- D is the round of some idempotent -/
def IsD (φ : List L → S) (all : List S) (D : Nat) : Prop := ∃ z e D' R, Idem φ all z e D D' R

theorem lists_exist (G : Gen φ) (hx : Exp S) : ∀ ds : List Nat, ds.Nodup → (∀ d, d ∈ ds → IsD φ all d) →
    ∃ l : List S, l.Nodup ∧ (ds.map wt).sum ≤ l.length ∧ ∀ s, s ∈ l → ∃ d, d ∈ ds ∧ ∃ z e D' R, Idem φ all z e d D' R ∧ s ∈ Jl φ z D' R := by
  intro ds
  induction ds with
  | nil => intro _ _; exact ⟨[], List.nodup_nil, Nat.le_refl _, fun s hs => nomatch hs⟩
  | cons d ds ih =>
    intro nd h
    rw [List.nodup_cons] at nd
    obtain ⟨l, hl, hs, hm⟩ := ih nd.2 (fun d' hd' => h d' (List.mem_cons_of_mem _ hd'))
    obtain ⟨z, e, D', R, I⟩ := h d List.mem_cons_self
    refine ⟨Jl φ z D' R ++ l, ?_, ?_, ?_⟩
    · rw [List.nodup_append]
      refine ⟨I.Jl_nodup G hx, hl, fun a ha b hb hab => ?_⟩
      obtain ⟨d2, hd2, z2, e2, D2', R2, I2, hb2⟩ := hm b hb
      have := I.disj G I2 ha (hab ▸ hb2)
      exact nd.1 (this ▸ hd2)
    · rw [List.map_cons, List.sum_cons, List.length_append]
      exact Nat.add_le_add (I.wt_le G) hs
    · intro s hs
      rcases List.mem_append.mp hs with hs | hs
      · exact ⟨d, List.mem_cons_self, z, e, D', R, I, hs⟩
      · obtain ⟨d2, hd2, r⟩ := hm s hs
        exact ⟨d2, List.mem_cons_of_mem _ hd2, r⟩

/-- one number that all rounds divide -/
theorem period (G : Gen φ) (hx : Exp S) (hall : ∀ s : S, s ∈ all) (hN : all.length ≤ 200) (h36 : ∀ d, IsD φ all d → d ≤ 36) :
    ∃ p, 0 < p ∧ p ≤ 2520 ∧ ∀ d, IsD φ all d → d ∣ p := by
  classical
  let ds := (List.range 37).filter fun d => decide (IsD φ all d)
  have hd : ∀ d, d ∈ ds ↔ IsD φ all d := by
    intro d
    rw [List.mem_filter, decide_eq_true_eq, List.mem_range]
    exact ⟨fun h => h.2, fun h => ⟨by have := h36 d h; omega, h⟩⟩
  have nd : ds.Nodup := nodup_filter _ List.nodup_range
  obtain ⟨l, hl, hs, _⟩ := lists_exist (all := all) G hx ds nd (fun d h => (hd d).mp h)
  have hl2 : l.length ≤ all.length := hl.length_le_of_subset (fun s _ => hall s)
  have pos : ∀ d, d ∈ ds → 0 < d := by
    intro d h
    obtain ⟨_, _, _, _, I⟩ := (hd d).mp h
    exact I.pos
  refine ⟨ds.foldl Nat.lcm 1, foldl_lcm_pos ds 1 (by decide) pos, knap_all knap_run ds List.filter_sublist (by omega), fun d h => (dvd_foldl_lcm ds 1).2 d ((hd d).mpr h)⟩
end
end K18
end
section
set_option autoImplicit false
namespace K18
section
variable {L S : Type} [Mo S] {φ : List L → S} {all : List S} {z : List L} {e : S} {D D' : Nat} {R : List S}

def rep (y : List L) : Nat → List L
  | 0 => []
  | n + 1 => y ++ rep y n
theorem rep_pw (G : Gen φ) (y : List L) (n : Nat) : φ (rep y n) = pw (φ y) n := by
  induction n with
  | zero => exact G.nil
  | succ n ih =>
    show φ (y ++ rep y n) = φ y * pw (φ y) n
    rw [G.app, ih]

theorem mod_of_dvd {D a b t : Nat} (h1 : D ∣ a + t) (h2 : D ∣ b + t) : a % D = b % D := by
  have key : ∀ a b : Nat, a ≤ b → D ∣ a + t → D ∣ b + t → a % D = b % D := by
    intro a b hab h1 h2
    obtain ⟨k, rfl⟩ : ∃ k, b = a + k := ⟨b - a, by omega⟩
    have e1 : a + k + t = a + t + k := by omega
    rw [e1] at h2
    obtain ⟨m, rfl⟩ := (Nat.dvd_add_iff_right h1).mpr h2
    rw [Nat.add_mul_mod_self_left]
  rcases Nat.le_total a b with h | h
  · exact key a b h h1 h2
  · exact (key b a h h2 h1).symm

theorem filter_split {α : Type} (p : α → Bool) (l : List α) : (l.filter p).length + (l.filter fun a => !p a).length = l.length := by
  induction l with
  | nil => rfl
  | cons x xs ih =>
    rw [List.filter_cons, List.filter_cons, List.length_cons]
    cases p x <;> simp <;> omega

theorem pair_len {α : Type} (F : List α) (n : Nat) : (F.flatMap fun s => (List.range n).map fun r => (s, r)).length = F.length * n := by
  rw [List.length_flatMap]
  simp only [List.length_map, List.length_range]
  rw [List.map_const', List.sum_replicate_nat]
theorem pair_mem {α : Type} {F : List α} {n : Nat} {s : α} {r : Nat} (h : s ∈ F) (hr : r < n) : (s, r) ∈ F.flatMap fun s => (List.range n).map fun r => (s, r) :=
  List.mem_flatMap.mpr ⟨s, h, List.mem_map.mpr ⟨r, List.mem_range.mpr hr, rfl⟩⟩

theorem cl_mul (G : Gen φ) {e : S} {a : Nat} (h : Cl φ e a) (k : Nat) : Cl φ e (k * a) := by
  induction k with
  | zero => rw [Nat.zero_mul]; exact Cl.zero G e
  | succ k ih => rw [Nat.succ_mul]; exact Cl.add G ih h

theorem cut (G : Gen φ) {v : S} {y : List L} {j k : Nat} (hjk : j < k) (hk : k ≤ y.length) (h : v * φ (y.take j) = v * φ (y.take k)) :
    v * φ (y.take j ++ y.drop k) = v * φ y ∧ (y.take j ++ y.drop k).length + (k - j) = y.length := by
  constructor
  · rw [G.app, ← Mo.assoc, h, Mo.assoc, ← G.app, List.take_append_drop]
  · rw [List.length_append, List.length_take, List.length_drop, Nat.min_eq_left (by omega)]
    omega

theorem inj_of_lt {α : Type} {f : Nat → α} {p : Nat → Prop} (h : ∀ j k, j < k → p j → p k → f j = f k → False) (a b : Nat) (ha : p a) (hb : p b) (e : f a = f b) : a = b := by
  rcases Nat.lt_trichotomy a b with q | q | q
  · exact (h a b q ha hb e).elim
  · exact q
  · exact (h b a q hb ha e.symm).elim

/-- the closed words at e have every length from a bound on that D divides -/
theorem Idem.closed_all (G : Gen φ) (I : Idem φ all z e D D' R) {l : Nat} (hD : D ∣ l) (hl : R.length * (R.length / D) ≤ l) : Cl φ e l := by
  obtain ⟨g, ⟨hg, ⟨y0, hy0, hc0⟩⟩, gmin⟩ := exists_least (fun g => 0 < g ∧ Cl φ e g) ⟨z.length, I.len, z, rfl, by rw [I.ez, I.ee]⟩
  have dg : D ∣ g := I.dv _ ⟨y0, hy0, hc0⟩
  have inR : ∀ (y : List L) (j : Nat), e * φ y = e → e * φ (y.take j) ∈ R := by
    intro y j h
    refine (I.mem _).mpr ⟨φ (y.take j), φ (y.drop j), rfl, ?_⟩
    rw [Mo.assoc, ← G.app, List.take_append_drop, h]
  -- g is at most R's length
  have gR : g ≤ R.length := by
    have := ph (List.range g) (fun j => e * φ (y0.take j)) R List.nodup_range ?_ (fun j _ => inR y0 j hc0)
    · rwa [List.length_range] at this
    · intro a ha b hb hab
      refine inj_of_lt (f := fun j => e * φ (y0.take j)) (p := fun j => j < g) ?_ a b (List.mem_range.mp ha) (List.mem_range.mp hb) hab
      intro j k hjk _ hk h
      obtain ⟨c1, c2⟩ := cut G hjk (by omega) h
      exact gmin (y0.take j ++ y0.drop k).length (by omega) ⟨by omega, _, rfl, c1.trans hc0⟩
  -- a closed word of every residue
  obtain ⟨k, rfl⟩ := hD
  obtain ⟨n, ⟨⟨y, hy, hcy⟩, hn⟩, nmin⟩ := exists_least (fun n => Cl φ e n ∧ n % g = (D * k) % g) (by
    obtain ⟨a, h1, h2⟩ := I.df
    refine ⟨k * (a + D) + (g - 1) * (k * a), Cl.add G (cl_mul G h2 k) (cl_mul G (cl_mul G h1 k) _), ?_⟩
    have : k * (a + D) + (g - 1) * (k * a) = D * k + g * (k * a) := by
      obtain ⟨g', rfl⟩ : ∃ g', g = g' + 1 := ⟨g - 1, by omega⟩
      rw [Nat.add_sub_cancel, Nat.mul_add, Nat.succ_mul, Nat.mul_comm k D]
      omega
    rw [this, Nat.add_mul_mod_self_left])
  have hlen : n ≤ R.length * (g / D) := by
    have := ph (List.range n) (fun j => (e * φ (y.take j), (j % g) / D)) (R.flatMap fun s => (List.range (g / D)).map fun r => (s, r)) List.nodup_range ?_ ?_
    · rwa [List.length_range, pair_len] at this
    · intro a ha b hb hab
      refine inj_of_lt (f := fun j => (e * φ (y.take j), (j % g) / D)) (p := fun j => j < n) ?_ a b (List.mem_range.mp ha) (List.mem_range.mp hb) hab
      intro j k' hjk _ hk h
      obtain ⟨h1, h2⟩ := Prod.mk.inj h
      obtain ⟨c1, c2⟩ := cut G hjk (by omega) h1
      have hjD : j % D = k' % D := by
        obtain ⟨_, b, _, hb⟩ := (I.mem _).mp (inR y j hcy)
        obtain ⟨wb, rfl⟩ := G.sur b
        have d1 := I.dv _ ⟨y.take j ++ wb, rfl, by rw [G.app, ← Mo.assoc, hb]⟩
        have d2 := I.dv _ ⟨y.take k' ++ wb, rfl, by rw [G.app, ← Mo.assoc, ← h1, hb]⟩
        rw [List.length_append, List.length_take, Nat.min_eq_left (by omega)] at d1 d2
        exact mod_of_dvd d1 d2
      have hjg : j % g = k' % g := by
        have e1 : j % g % D = k' % g % D := by rw [Nat.mod_mod_of_dvd _ dg, Nat.mod_mod_of_dvd _ dg, hjD]
        have a1 := Nat.div_add_mod (j % g) D
        have a2 := Nat.div_add_mod (k' % g) D
        rw [← a1, ← a2, h2, e1]
      refine nmin (y.take j ++ y.drop k').length (by omega) ⟨⟨_, rfl, c1.trans hcy⟩, ?_⟩
      rw [← hn]
      have : (k' - j) % g = 0 := Nat.sub_mod_eq_zero_of_mod_eq hjg.symm
      have c3 : n = (y.take j ++ y.drop k').length + (k' - j) := by omega
      rw [c3, Nat.add_mod, this, Nat.add_zero, Nat.mod_mod]
    · intro j _
      refine pair_mem (inR y j hcy) ?_
      rw [Nat.div_lt_iff_lt_mul I.pos, Nat.div_mul_cancel dg]
      exact Nat.mod_lt _ hg
  have hle : n ≤ D * k := by
    refine Nat.le_trans hlen (Nat.le_trans (Nat.mul_le_mul_left _ (Nat.div_le_div_right gR)) hl)
  have hmul : (D * k - n) % g = 0 := Nat.sub_mod_eq_zero_of_mod_eq hn.symm
  obtain ⟨m, hm⟩ := Nat.dvd_of_mod_eq_zero hmul
  have : D * k = n + m * g := by
    rw [Nat.mul_comm m g]
    omega
  rw [this]
  exact Cl.add G ⟨y, hy, hcy⟩ (cl_mul G ⟨y0, hy0, hc0⟩ m)

theorem take_app (w : List L) {i j : Nat} (h : i ≤ j) : w.take i ++ (w.take j).drop i = w.take j := by
  have : w.take i = (w.take j).take i := by rw [List.take_take, Nat.min_eq_left h]
  rw [this, List.take_append_drop]

theorem pump (G : Gen φ) (hx : Exp S) (hall : ∀ s : S, s ∈ all) (hnd : all.Nodup) (hN : all.length ≤ 200)
    (h36 : ∀ (z : List L), z ≠ [] → φ z * φ z = φ z → ∀ ys : List S, ys.Nodup → (∀ y, y ∈ ys → ∃ a b, y = φ z * a ∧ y * b = φ z) → ys.length ≤ 36)
    {P : Nat} (hP : ∀ d, IsD φ all d → d ∣ P) {w : List L} {n' : Nat} (hw : 1905 ≤ w.length) (hn' : 1905 ≤ n') (hmod : w.length % P = n' % P) :
    ∃ w', w'.length = n' ∧ φ w' = φ w := by
  classical
  -- 1. the first place on a cycle
  obtain ⟨i, ⟨hi, y, hy, hvy⟩, imin⟩ := exists_least (fun i => i ≤ 200 ∧ ∃ y : List L, y ≠ [] ∧ φ (w.take i) * φ y = φ (w.take i)) (by
    apply Classical.byContradiction
    intro hno
    have := ph (List.range 201) (fun i => φ (w.take i)) all List.nodup_range ?_ (fun i _ => hall _)
    · rw [List.length_range] at this
      omega
    · intro a ha b hb hab
      refine inj_of_lt (f := fun j => φ (w.take j)) (p := fun j => j < 201) ?_ a b (List.mem_range.mp ha) (List.mem_range.mp hb) hab
      intro j k hjk hj hk h
      refine hno ⟨j, by omega, (w.take k).drop j, ?_, ?_⟩
      · intro q
        have := congrArg List.length q
        rw [List.length_drop, List.length_take, Nat.min_eq_left (by omega)] at this
        simp at this
        omega
      · rw [← G.app, take_app w (by omega)]
        exact h.symm)
  have early : ∀ j, j < i → ¬ ∃ y : List L, y ≠ [] ∧ φ (w.take j) * φ y = φ (w.take j) := fun j hj q => imin j hj ⟨by omega, q⟩
  let V : List S := (List.range i).map fun j => φ (w.take j)
  have Vnd : V.Nodup := by
    have nr := @List.nodup_range i
    rw [List.nodup_iff_pairwise_ne] at nr
    show ((List.range i).map fun j => φ (w.take j)).Nodup
    rw [List.nodup_iff_pairwise_ne, List.pairwise_map]
    refine List.Pairwise.imp_of_mem ?_ nr
    intro a b ha hb hab q
    apply hab
    refine inj_of_lt (f := fun j => φ (w.take j)) (p := fun j => j < i) ?_ a b (List.mem_range.mp ha) (List.mem_range.mp hb) q
    intro j k hjk hj hk h
    refine early j hj ⟨(w.take k).drop j, ?_, ?_⟩
    · intro q
      have := congrArg List.length q
      rw [List.length_drop, List.length_take, Nat.min_eq_left (by omega)] at this
      simp at this
      omega
    · rw [← G.app, take_app w (by omega)]
      exact h.symm
  -- 2. the idempotent
  have ze : φ (rep y 12) = pw (φ y) 12 := rep_pw G y 12
  have zne : rep y 12 ≠ [] := by
    intro q
    apply hy
    have : (y ++ rep y 11) = [] := q
    exact (List.append_eq_nil_iff.mp this).1
  obtain ⟨D, D', R, I⟩ := idem_exists G hx all hall hnd ze zne (idem12 hx _)
  generalize hez : rep y 12 = z at I
  generalize hee : pw (φ y) 12 = e at I
  have ve : φ (w.take i) * e = φ (w.take i) := by
    rw [← hee]
    exact fix_pw hvy 12
  have R36 : R.length ≤ 36 := h36 z I.ne (by rw [I.ez, I.ee]) R I.nd (fun y hy => by rw [I.ez]; exact (I.mem y).mp hy)
  have DR := I.D_le G
  -- 3. the shortest way from there
  obtain ⟨m, ⟨q, hqm, hqv, hqD⟩, qmin⟩ := exists_least (fun m => ∃ q : List L, q.length = m ∧ φ (w.take i) * φ q = φ w ∧ m % D = (w.length - i) % D) ⟨_, w.drop i, rfl, by rw [← G.app, List.take_append_drop], by rw [List.length_drop]⟩
  have noCut : ∀ j k, j < k → k ≤ m → φ (w.take i) * φ (q.take j) = φ (w.take i) * φ (q.take k) → j % D = k % D → False := by
    intro j k hjk hk h hD
    obtain ⟨c1, c2⟩ := cut G hjk (by omega) h
    refine qmin (q.take j ++ q.drop k).length (by omega) ⟨_, rfl, c1.trans hqv, ?_⟩
    rw [← hqD]
    have : (k - j) % D = 0 := Nat.sub_mod_eq_zero_of_mod_eq hD.symm
    have c3 : m = (q.take j ++ q.drop k).length + (k - j) := by omega
    rw [c3, Nat.add_mod _ (k - j), this, Nat.add_zero, Nat.mod_mod]
  let J := Jl φ z D' R
  have Jnd : J.Nodup := I.Jl_nodup G hx
  let A := (List.range (m + 1)).filter fun j => decide (φ (w.take i) * φ (q.take j) ∈ J)
  let B := (List.range (m + 1)).filter fun j => !decide (φ (w.take i) * φ (q.take j) ∈ J)
  have hAB : A.length + B.length = m + 1 := by
    have := filter_split (fun j => decide (φ (w.take i) * φ (q.take j) ∈ J)) (List.range (m + 1))
    rw [List.length_range] at this
    exact this
  -- in J: the nodes of R
  have hA : A.length ≤ R.length := by
    have inR : ∀ j, φ (w.take i) * φ (q.take j) ∈ J → e * φ (q.take j) ∈ R := by
      intro j hj
      obtain ⟨⟨p, t, hp⟩, _⟩ := I.Jl_out G hj
      have h1 : (p * φ (w.take i)) * e * (φ (q.take j) * t) = e := by
        calc (p * φ (w.take i)) * e * (φ (q.take j) * t) = p * ((φ (w.take i) * e) * φ (q.take j)) * t := by simp only [Mo.assoc]
          _ = e := by rw [ve, hp]
      have ha : e * (e * (p * φ (w.take i)) * e) = e * (p * φ (w.take i)) * e := by rw [← Mo.assoc, ← Mo.assoc, I.ee]
      have ha' : (e * (p * φ (w.take i)) * e) * e = e * (p * φ (w.take i)) * e := by rw [Mo.assoc _ e e, I.ee]
      have hb : e * (e * (φ (q.take j) * t) * e) = e * (φ (q.take j) * t) * e := by rw [← Mo.assoc, ← Mo.assoc, I.ee]
      have hb' : (e * (φ (q.take j) * t) * e) * e = e * (φ (q.take j) * t) * e := by rw [Mo.assoc _ e e, I.ee]
      have hab : (e * (p * φ (w.take i)) * e) * (e * (φ (q.take j) * t) * e) = e := by
        calc (e * (p * φ (w.take i)) * e) * (e * (φ (q.take j) * t) * e) = e * ((p * φ (w.take i)) * (e * e) * (φ (q.take j) * t)) * e := by simp only [Mo.assoc]
          _ = e * ((p * φ (w.take i)) * e * (φ (q.take j) * t)) * e := by rw [I.ee]
          _ = e * e * e := by rw [h1]
          _ = e := by rw [I.ee, I.ee]
      obtain ⟨_, hba⟩ := unit_order hx I.ee ha ha' hb hb' hab
      refine (I.mem _).mpr ⟨_, t * (e * (e * (p * φ (w.take i)) * e)), rfl, ?_⟩
      calc e * φ (q.take j) * (t * (e * (e * (p * φ (w.take i)) * e))) = (e * (φ (q.take j) * t) * e) * (e * (p * φ (w.take i)) * e) := by simp only [Mo.assoc]
        _ = e := hba
    refine ph A (fun j => e * φ (q.take j)) R (nodup_filter _ List.nodup_range) ?_ (fun j hj => ?_)
    · intro a ha b hb hab
      refine inj_of_lt (f := fun j => e * φ (q.take j)) (p := fun j => j ∈ A) ?_ a b ha hb hab
      intro j k hjk hj hk h
      rw [List.mem_filter, decide_eq_true_eq, List.mem_range] at hj hk
      refine noCut j k hjk (by omega) ?_ ?_
      · rw [← ve, Mo.assoc, Mo.assoc, h]
      · obtain ⟨_, b, _, hb⟩ := (I.mem _).mp (inR j hj.2)
        obtain ⟨wb, rfl⟩ := G.sur b
        have d1 := I.dv _ ⟨q.take j ++ wb, rfl, by rw [G.app, ← Mo.assoc, hb]⟩
        have d2 := I.dv _ ⟨q.take k ++ wb, rfl, by rw [G.app, ← Mo.assoc, ← h, hb]⟩
        rw [List.length_append, List.length_take, Nat.min_eq_left (by omega)] at d1 d2
        exact mod_of_dvd d1 d2
    · rw [List.mem_filter, decide_eq_true_eq] at hj
      exact inR j hj.2
  -- the others
  let F := all.filter fun s => !decide (s ∈ J) && !decide (s ∈ V)
  have hB : B.length ≤ F.length * D := by
    have := ph B (fun j => (φ (w.take i) * φ (q.take j), j % D)) (F.flatMap fun s => (List.range D).map fun r => (s, r)) (nodup_filter _ List.nodup_range) ?_ ?_
    · rwa [pair_len] at this
    · intro a ha b hb hab
      refine inj_of_lt (f := fun j => (φ (w.take i) * φ (q.take j), j % D)) (p := fun j => j ∈ B) ?_ a b ha hb hab
      intro j k hjk hj hk h
      rw [List.mem_filter, List.mem_range] at hj hk
      obtain ⟨h1, h2⟩ := Prod.mk.inj h
      exact noCut j k hjk (by omega) h1 h2
    · intro j hj
      rw [List.mem_filter, Bool.not_eq_true', decide_eq_false_iff_not, List.mem_range] at hj
      refine pair_mem ?_ (Nat.mod_lt _ I.pos)
      rw [List.mem_filter, Bool.and_eq_true, Bool.not_eq_true', Bool.not_eq_true', decide_eq_false_iff_not, decide_eq_false_iff_not]
      refine ⟨hall _, hj.2, fun hV => ?_⟩
      obtain ⟨k, hk, hkv⟩ := List.mem_map.mp hV
      rw [List.mem_range] at hk
      refine early k hk ⟨(w.take i).drop k ++ q.take j, ?_, ?_⟩
      · intro q'
        have := congrArg List.length (List.append_eq_nil_iff.mp q').1
        rw [List.length_drop, List.length_take, Nat.min_eq_left (by omega)] at this
        simp at this
        omega
      · rw [G.app, ← Mo.assoc, ← G.app, take_app w (by omega)]
        exact hkv.symm
  have hF : F.length + J.length + V.length ≤ all.length := by
    have nd : (F ++ (J ++ V)).Nodup := by
      rw [List.nodup_append, List.nodup_append]
      refine ⟨nodup_filter _ hnd, ⟨Jnd, Vnd, ?_⟩, ?_⟩
      · intro a ha b hb hab
        subst hab
        obtain ⟨k, hk, hkv⟩ := List.mem_map.mp hb
        obtain ⟨i0, _, r, hr, hs⟩ := Jl_mem.mp ha
        obtain ⟨a', b', h1, h2⟩ := (I.mem r).mp hr
        obtain ⟨wa, rfl⟩ := G.sur a'
        obtain ⟨wb, rfl⟩ := G.sur b'
        refine early k (List.mem_range.mp hk) ⟨wb ++ z ++ wa, ?_, ?_⟩
        · intro q'
          exact I.ne (List.append_eq_nil_iff.mp (List.append_eq_nil_iff.mp q').1).2
        · show φ (w.take k) * _ = φ (w.take k)
          rw [show φ (w.take k) = a from hkv, ← hs, G.app, G.app, I.ez]
          calc φ (z.drop i0) * r * (φ wb * e * φ wa) = φ (z.drop i0) * ((r * φ wb) * e * φ wa) := by simp only [Mo.assoc]
            _ = φ (z.drop i0) * r := by rw [h2, I.ee, ← h1]
      · intro a ha b hb hab
        subst hab
        rw [List.mem_filter, Bool.and_eq_true, Bool.not_eq_true', Bool.not_eq_true', decide_eq_false_iff_not, decide_eq_false_iff_not] at ha
        rcases List.mem_append.mp hb with h | h
        · exact ha.2.1 h
        · exact ha.2.2 h
    have := nd.length_le_of_subset (l₂ := all) (fun s _ => hall s)
    simp only [List.length_append] at this
    omega
  have hJ : J.length = D' * R.length := Jl_len
  have hV : V.length = i := by
    show ((List.range i).map _).length = i
    rw [List.length_map, List.length_range]
  -- 4. the numbers
  have hM : i + D' * R.length ≤ 200 := by omega
  have num := num_ok I.pos DR R36 I.o (by omega : D' * R.length ≤ 200)
  have hFM : F.length * D ≤ (200 - D' * R.length - i) * D := Nat.mul_le_mul_right _ (by omega)
  have hsplit : (200 - D' * R.length - i) * D + i * D = D * (200 - D' * R.length) := by
    rw [← Nat.add_mul, Nat.mul_comm]
    congr 1
    omega
  have hiD : i ≤ i * D := Nat.le_mul_of_pos_right _ I.pos
  have hbound : i + m + R.length * (R.length / D) ≤ 1905 := by omega
  -- 5. the word of the wanted length
  have hDP : D ∣ P := hP D ⟨z, e, D', R, I⟩
  have hmodD : w.length % D = n' % D := by
    rw [← Nat.mod_mod_of_dvd w.length hDP, ← Nat.mod_mod_of_dvd n' hDP, hmod]
  have hres : n' % D = (i + m) % D := by
    rw [← hmodD, Nat.add_mod, hqD, ← Nat.add_mod]
    congr 1
    omega
  have hdv : D ∣ n' - (i + m) := Nat.dvd_of_mod_eq_zero (Nat.sub_mod_eq_zero_of_mod_eq hres)
  obtain ⟨u, hu, hue⟩ := I.closed_all G hdv (by omega)
  refine ⟨w.take i ++ u ++ q, ?_, ?_⟩
  · rw [List.length_append, List.length_append, List.length_take, Nat.min_eq_left (by omega)]
    omega
  · rw [G.app, G.app]
    have : φ (w.take i) * φ u = φ (w.take i) := by
      rw [← ve, Mo.assoc, hue]
    rw [this, hqv]

/-- the sets of the elements of all words of one length come again, soon -/
theorem levels (G : Gen φ) (hx : Exp S) (hall : ∀ s : S, s ∈ all) (hnd : all.Nodup) (hN : all.length ≤ 200)
    (h36 : ∀ (z : List L), z ≠ [] → φ z * φ z = φ z → ∀ ys : List S, ys.Nodup → (∀ y, y ∈ ys → ∃ a b, y = φ z * a ∧ y * b = φ z) → ys.length ≤ 36) :
    ∃ m p, 0 < p ∧ m + p ≤ 4425 ∧ ∀ s : S, (∃ w, w.length = m ∧ φ w = s) ↔ (∃ w, w.length = m + p ∧ φ w = s) := by
  have hd36 : ∀ d, IsD φ all d → d ≤ 36 := by
    rintro d ⟨z, e, D', R, I⟩
    exact Nat.le_trans (I.D_le G) (h36 z I.ne (by rw [I.ez, I.ee]) R I.nd (fun y hy => by rw [I.ez]; exact (I.mem y).mp hy))
  obtain ⟨p, hp, hp2, hP⟩ := period (all := all) G hx hall hN hd36
  refine ⟨1905, p, hp, by omega, fun s => ⟨?_, ?_⟩⟩
  · rintro ⟨w, hw, rfl⟩
    exact pump G hx hall hnd hN h36 hP (by omega) (by omega) (by rw [hw]; exact (Nat.add_mod_right _ _).symm)
  · rintro ⟨w, hw, rfl⟩
    exact pump G hx hall hnd hN h36 hP (by omega) (by omega) (by rw [hw]; exact Nat.add_mod_right _ _)
end
end K18
end
section
set_option autoImplicit false
namespace K18
/-! ### masks, letters put behind a word -/
def orAll : List Nat → Nat
  | [] => 0
  | m :: l => m ||| orAll l
theorem orAll_bit (l : List Nat) (q : Nat) : (orAll l).testBit q = true ↔ ∃ m, m ∈ l ∧ m.testBit q = true := by
  induction l with
  | nil => simp [orAll]
  | cons x xs ih =>
    rw [orAll, Nat.testBit_or, Bool.or_eq_true, ih]
    constructor
    · rintro (h | ⟨m, hm, h⟩)
      · exact ⟨x, List.mem_cons_self, h⟩
      · exact ⟨m, List.mem_cons_of_mem _ hm, h⟩
    · rintro ⟨m, hm, h⟩
      rcases List.mem_cons.mp hm with rfl | hm
      · exact .inl h
      · exact .inr ⟨m, hm, h⟩

/-- the places of a letter: s cells in a row -/
def places (s x : Nat) : List Nat := (List.range s).map fun j => x * s + j
theorem places_mem {s x p : Nat} : p ∈ places s x ↔ ∃ j, j < s ∧ p = x * s + j := by
  unfold places
  rw [List.mem_map]
  constructor
  · rintro ⟨j, hj, h⟩
    exact ⟨j, List.mem_range.mp hj, h.symm⟩
  · rintro ⟨j, hj, h⟩
    exact ⟨j, List.mem_range.mpr hj, h.symm⟩

/-- the mask behind one letter more -/
def st (A : List Nat) (s x m : Nat) : Nat := orAll (((places s x).filter fun p => m.testBit p).map fun p => A.getD p 0)
theorem st_bit (A : List Nat) (s x m q : Nat) : (st A s x m).testBit q = true ↔ ∃ j, j < s ∧ m.testBit (x * s + j) = true ∧ (A.getD (x * s + j) 0).testBit q = true := by
  unfold st
  rw [orAll_bit]
  constructor
  · rintro ⟨r, hr, h⟩
    obtain ⟨p, hp, rfl⟩ := List.mem_map.mp hr
    rw [List.mem_filter] at hp
    obtain ⟨j, hj, rfl⟩ := places_mem.mp hp.1
    exact ⟨j, hj, hp.2, h⟩
  · rintro ⟨j, hj, h1, h2⟩
    exact ⟨_, List.mem_map.mpr ⟨x * s + j, List.mem_filter.mpr ⟨places_mem.mpr ⟨j, hj, rfl⟩, h1⟩, rfl⟩, h2⟩

def act (A : List Nat) (s : Nat) (w : List Nat) (m : Nat) : Nat := w.foldl (fun m x => st A s x m) m
theorem act_app (A : List Nat) (s : Nat) (u w : List Nat) (m : Nat) : act A s (u ++ w) m = act A s w (act A s u m) := List.foldl_append
theorem act_cons (A : List Nat) (s x : Nat) (w : List Nat) (m : Nat) : act A s (x :: w) m = act A s w (st A s x m) := rfl

theorem bit_ext {a b : Nat} (h : ∀ q, a.testBit q = true ↔ b.testBit q = true) : a = b := by
  refine Nat.eq_of_testBit_eq fun q => ?_
  rw [Bool.eq_iff_iff]
  exact h q

/-- act is linear -/
theorem act_lin (A : List Nat) (s : Nat) (w : List Nat) : ∀ (m : Nat) (I : List Nat), (∀ q, m.testBit q = true ↔ ∃ i, i ∈ I ∧ i.testBit q = true) →
    ∀ q, (act A s w m).testBit q = true ↔ ∃ i, i ∈ I ∧ (act A s w i).testBit q = true := by
  induction w with
  | nil => intro m I h; exact h
  | cons x w ih =>
    intro m I h q
    rw [act_cons, ih (st A s x m) (I.map (st A s x)) ?_ q]
    · constructor
      · rintro ⟨i, hi, h⟩
        obtain ⟨i0, h0, rfl⟩ := List.mem_map.mp hi
        exact ⟨i0, h0, h⟩
      · rintro ⟨i, hi, h⟩
        exact ⟨_, List.mem_map.mpr ⟨i, hi, rfl⟩, h⟩
    · intro q
      rw [st_bit]
      constructor
      · rintro ⟨j, hj, h1, h2⟩
        obtain ⟨i, hi, hb⟩ := (h _).mp h1
        exact ⟨_, List.mem_map.mpr ⟨i, hi, rfl⟩, (st_bit _ _ _ _ _).mpr ⟨j, hj, hb, h2⟩⟩
      · rintro ⟨i, hi, hb⟩
        obtain ⟨i0, h0, rfl⟩ := List.mem_map.mp hi
        obtain ⟨j, hj, h1, h2⟩ := (st_bit _ _ _ _ _).mp hb
        exact ⟨j, hj, (h _).mpr ⟨i0, h0, h1⟩, h2⟩

/-- behind a first letter x the rows of x alone count -/
theorem act_st (A : List Nat) (s : Nat) (w : List Nat) (x m q : Nat) :
    (act A s w (st A s x m)).testBit q = true ↔ ∃ j, j < s ∧ m.testBit (x * s + j) = true ∧ (act A s w (A.getD (x * s + j) 0)).testBit q = true := by
  rw [act_lin A s w (st A s x m) (((places s x).filter fun p => m.testBit p).map fun p => A.getD p 0) (fun q => orAll_bit _ q)]
  constructor
  · rintro ⟨i, hi, h⟩
    obtain ⟨p, hp, rfl⟩ := List.mem_map.mp hi
    rw [List.mem_filter] at hp
    obtain ⟨j, hj, rfl⟩ := places_mem.mp hp.1
    exact ⟨j, hj, hp.2, h⟩
  · rintro ⟨j, hj, h1, h2⟩
    exact ⟨_, List.mem_map.mpr ⟨x * s + j, List.mem_filter.mpr ⟨places_mem.mpr ⟨j, hj, rfl⟩, h1⟩, rfl⟩, h2⟩

/-- the table of a word: its rows -/
def tb (A : List Nat) (s : Nat) (w : List Nat) : List Nat := A.map (act A s w)
theorem tb_nil (A : List Nat) (s : Nat) : tb A s [] = A := by
  unfold tb
  rw [show act A s [] = id from rfl, List.map_id]
theorem tb_snoc (A : List Nat) (s : Nat) (w : List Nat) (x : Nat) : tb A s (w ++ [x]) = (tb A s w).map (st A s x) := by
  unfold tb
  rw [List.map_map]
  refine List.map_congr_left fun m _ => ?_
  rw [act_app]
  rfl
theorem tb_get {A : List Nat} {s : Nat} {w w' : List Nat} (h : tb A s w = tb A s w') (m : Nat) (hm : m ∈ A) : act A s w m = act A s w' m :=
  List.map_inj_left.mp h m hm
theorem act_zero (A : List Nat) (s : Nat) (w : List Nat) : act A s w 0 = 0 := by
  induction w with
  | nil => rfl
  | cons x w ih =>
    rw [act_cons]
    have : st A s x 0 = 0 := bit_ext fun q => by
      rw [st_bit]
      simp
    rw [this, ih]
theorem tb_getD {A : List Nat} {s : Nat} {w w' : List Nat} (h : tb A s w = tb A s w') (p : Nat) : act A s w (A.getD p 0) = act A s w' (A.getD p 0) := by
  by_cases hp : p < A.length
  · refine tb_get h _ ?_
    rw [List.getD_eq_getElem?_getD, List.getElem?_eq_getElem hp]
    exact List.getElem_mem hp
  · rw [List.getD_eq_getElem?_getD, List.getElem?_eq_none (by omega)]
    show act A s w 0 = act A s w' 0
    rw [act_zero, act_zero]
theorem tb_congr {A : List Nat} {s : Nat} {u u' w w' : List Nat} (h : tb A s u = tb A s u') (k : tb A s w = tb A s w') : tb A s (u ++ w) = tb A s (u' ++ w') := by
  unfold tb
  refine List.map_congr_left fun m hm => ?_
  rw [act_app, act_app, tb_get h m hm]
  -- act w and act w' agree behind u'
  have key : ∀ (v : List Nat), act A s w (act A s v m) = act A s w' (act A s v m) := by
    intro v
    rcases List.eq_nil_or_concat v with rfl | ⟨v', x, rfl⟩
    · exact tb_get k m hm
    · rw [List.concat_eq_append, act_app]
      show act A s w (st A s x _) = act A s w' (st A s x _)
      refine bit_ext fun q => ?_
      rw [act_st, act_st]
      simp only [tb_getD k]
  exact key u'

/-! ### the monoid of the tables -/
section
variable (k s : Nat) (A : List Nat)
def vals (w : List (Fin k)) : List Nat := w.map Fin.val
def same : Setoid (List (Fin k)) where
  r u w := tb A s (vals k u) = tb A s (vals k w)
  iseqv := ⟨fun _ => rfl, fun h => h.symm, fun h1 h2 => h1.trans h2⟩
def Tb : Type := Quotient (same k s A)
def cls (w : List (Fin k)) : Tb k s A := Quotient.mk (same k s A) w
theorem vals_app (u w : List (Fin k)) : vals k (u ++ w) = vals k u ++ vals k w := List.map_append
def Tb.mul (a b : Tb k s A) : Tb k s A := Quotient.lift₂ (s₁ := same k s A) (s₂ := same k s A) (fun u w => cls k s A (u ++ w)) (by
  intro u w u' w' h h'
  refine Quotient.sound (s := same k s A) ?_
  show tb A s (vals k (u ++ w)) = tb A s (vals k (u' ++ w'))
  rw [vals_app, vals_app]
  exact tb_congr h h') a b
instance instMo : Mo (Tb k s A) where
  mul := Tb.mul k s A
  e1 := cls k s A []
  assoc := by
    intro a b c
    induction a using Quotient.ind
    induction b using Quotient.ind
    induction c using Quotient.ind
    exact congrArg (cls k s A) (List.append_assoc _ _ _)
  onel := by
    intro a
    induction a using Quotient.ind
    rfl
  oner := by
    intro a
    induction a using Quotient.ind
    exact congrArg (cls k s A) (List.append_nil _)
theorem gen : Gen (cls k s A) where
  nil := rfl
  app _ _ := rfl
  sur a := by
    induction a using Quotient.ind
    exact ⟨_, rfl⟩
theorem cls_eq {u w : List (Fin k)} : cls k s A u = cls k s A w ↔ tb A s (vals k u) = tb A s (vals k w) :=
  ⟨fun h => Quotient.exact (s := same k s A) h, fun h => Quotient.sound (s := same k s A) h⟩
end
end K18
end
section
set_option autoImplicit false
set_option maxRecDepth 100000
namespace K18
/-! ### 3 x 3 matrices of flags as numbers -/
def enc (f : Nat → Nat → Bool) : Nat := (List.range 9).foldl (fun a t => a + (if f (t / 3) (t % 3) then 2 ^ t else 0)) 0
theorem enc_bits : ∀ a b c d e f g h i : Bool, ((List.range 9).all fun t => (((List.range 9).foldl (fun x t => x + (if [a, b, c, d, e, f, g, h, i].getD t false then 2 ^ t else 0)) 0).testBit t == [a, b, c, d, e, f, g, h, i].getD t false)) = true := by decide +kernel
theorem enc_lt9 : ∀ a b c d e f g h i : Bool, ((List.range 9).foldl (fun x t => x + (if [a, b, c, d, e, f, g, h, i].getD t false then 2 ^ t else 0)) 0) < 512 := by decide +kernel
theorem enc_as (f : Nat → Nat → Bool) : enc f = (List.range 9).foldl (fun x t => x + (if [f 0 0, f 0 1, f 0 2, f 1 0, f 1 1, f 1 2, f 2 0, f 2 1, f 2 2].getD t false then 2 ^ t else 0)) 0 := rfl
theorem enc_lt (f : Nat → Nat → Bool) : enc f < 512 := by
  rw [enc_as]
  exact enc_lt9 _ _ _ _ _ _ _ _ _
theorem enc_get (f : Nat → Nat → Bool) {c d : Nat} (hc : c < 3) (hd : d < 3) : (enc f).testBit (3 * c + d) = f c d := by
  rw [enc_as]
  have h := enc_bits (f 0 0) (f 0 1) (f 0 2) (f 1 0) (f 1 1) (f 1 2) (f 2 0) (f 2 1) (f 2 2)
  have h2 := List.all_eq_true.mp h (3 * c + d) (List.mem_range.mpr (by omega))
  rw [beq_iff_eq] at h2
  rw [h2]
  have hc' : c = 0 ∨ c = 1 ∨ c = 2 := by omega
  have hd' : d = 0 ∨ d = 1 ∨ d = 2 := by omega
  rcases hc' with rfl | rfl | rfl <;> rcases hd' with rfl | rfl | rfl <;> rfl
def mulM (a b : Nat) : Nat := enc fun c d => (a.testBit (3 * c) && b.testBit d) || (a.testBit (3 * c + 1) && b.testBit (3 + d)) || (a.testBit (3 * c + 2) && b.testBit (6 + d))
def oneM : Nat := enc fun c d => c == d
def powM (a : Nat) : Nat → Nat
  | 0 => oneM
  | n + 1 => mulM a (powM a n)
theorem powM_run : ((List.range 512).all fun m => powM m 8 == powM m 6 || powM m 9 == powM m 6) = true := by decide +kernel
theorem mulM_get (a b : Nat) {c d : Nat} (hc : c < 3) (hd : d < 3) : (mulM a b).testBit (3 * c + d) = true ↔ ∃ i, i < 3 ∧ a.testBit (3 * c + i) = true ∧ b.testBit (3 * i + d) = true := by
  unfold mulM
  rw [enc_get _ hc hd, Bool.or_eq_true, Bool.or_eq_true, Bool.and_eq_true, Bool.and_eq_true, Bool.and_eq_true]
  constructor
  · rintro ((h | h) | h)
    · exact ⟨0, by decide, h.1, by rw [Nat.mul_zero, Nat.zero_add]; exact h.2⟩
    · exact ⟨1, by decide, h.1, h.2⟩
    · exact ⟨2, by decide, h.1, h.2⟩
  · rintro ⟨i, hi, h1, h2⟩
    have hi' : i = 0 ∨ i = 1 ∨ i = 2 := by omega
    rcases hi' with rfl | rfl | rfl
    · rw [Nat.mul_zero, Nat.zero_add] at h2
      exact .inl (.inl ⟨h1, h2⟩)
    · exact .inl (.inr ⟨h1, h2⟩)
    · exact .inr ⟨h1, h2⟩

section
variable {k s : Nat} {A : List Nat}
theorem vals_rep (w : List (Fin k)) (j : Nat) : vals k (rep w j) = rep (vals k w) j := by
  induction j with
  | zero => rfl
  | succ j ih =>
    show vals k (w ++ rep w j) = vals k w ++ rep (vals k w) j
    rw [vals_app, ih]

theorem act_rep (hs : s ≤ 3) (u : List Nat) (x : Nat) : ∀ (j y q : Nat),
    (act A s (rep (u ++ [x]) j) (st A s x y)).testBit q = true ↔
      ∃ c, c < s ∧ y.testBit (x * s + c) = true ∧ ∃ d, d < s ∧ (powM (enc fun c d => decide (c < s) && decide (d < s) && (act A s u (A.getD (x * s + c) 0)).testBit (x * s + d)) j).testBit (3 * c + d) = true ∧ (A.getD (x * s + d) 0).testBit q = true := by
  intro j
  induction j with
  | zero =>
    intro y q
    show (st A s x y).testBit q = true ↔ _
    rw [st_bit]
    constructor
    · rintro ⟨c, hc, h1, h2⟩
      refine ⟨c, hc, h1, c, hc, ?_, h2⟩
      show (enc _).testBit _ = true
      rw [enc_get _ (by omega) (by omega)]
      simp
    · rintro ⟨c, hc, h1, d, hd, h2, h3⟩
      have h2 : (enc fun c d => c == d).testBit (3 * c + d) = true := h2
      rw [enc_get _ (by omega) (by omega), beq_iff_eq] at h2
      subst h2
      exact ⟨c, hc, h1, h3⟩
  | succ j ih =>
    intro y q
    show (act A s (u ++ [x] ++ rep (u ++ [x]) j) (st A s x y)).testBit q = true ↔ _
    rw [act_app, act_app]
    show (act A s (rep (u ++ [x]) j) (st A s x (act A s u (st A s x y)))).testBit q = true ↔ _
    rw [ih]
    constructor
    · rintro ⟨c, hc, h1, d, hd, h2, h3⟩
      rw [act_st] at h1
      obtain ⟨c0, hc0, h4, h5⟩ := h1
      refine ⟨c0, hc0, h4, d, hd, (mulM_get _ _ (by omega) (by omega)).mpr ⟨c, by omega, ?_, h2⟩, h3⟩
      rw [enc_get _ (by omega) (by omega), h5]
      simp [hc, hc0]
    · rintro ⟨c0, hc0, h4, d, hd, h2, h3⟩
      obtain ⟨c, hc, h5, h6⟩ := (mulM_get _ _ (by omega) (by omega)).mp h2
      rw [enc_get _ (by omega) hc, Bool.and_eq_true, Bool.and_eq_true, decide_eq_true_eq, decide_eq_true_eq] at h5
      refine ⟨c, h5.1.2, (act_st _ _ _ _ _ _).mpr ⟨c0, hc0, h4, h5.2⟩, d, hd, h6, h3⟩

theorem concat_of_ne {α : Type} {w : List α} (h : w ≠ []) : ∃ u x, w = u ++ [x] := by
  rcases List.eq_nil_or_concat w with rfl | ⟨u, x, rfl⟩
  · exact (h rfl).elim
  · exact ⟨u, x, List.concat_eq_append⟩

theorem exp_tb (hs : s ≤ 3) : Exp (Tb k s A) := by
  intro a
  obtain ⟨w, rfl⟩ := (gen k s A).sur a
  rw [← rep_pw (gen k s A), ← rep_pw (gen k s A), ← rep_pw (gen k s A)]
  by_cases hw : w = []
  · subst hw
    have : ∀ n, rep ([] : List (Fin k)) n = [] := by
      intro n
      induction n with
      | zero => rfl
      | succ n ih => show [] ++ rep [] n = []; rw [ih]; rfl
    rw [this, this]
    exact .inl rfl
  · obtain ⟨w0, l, rfl⟩ := concat_of_ne hw
    have hv : vals k (w0 ++ [l]) = vals k w0 ++ [l.val] := vals_app k w0 [l]
    -- the rows of the word n + 1 times
    have row : ∀ (n m q : Nat), (act A s (vals k (rep (w0 ++ [l]) (n + 1))) m).testBit q = true ↔ ∃ c, c < s ∧ (act A s (vals k w0) m).testBit (l.val * s + c) = true ∧ ∃ d, d < s ∧ (powM (enc fun c d => decide (c < s) && decide (d < s) && (act A s (vals k w0) (A.getD (l.val * s + c) 0)).testBit (l.val * s + d)) n).testBit (3 * c + d) = true ∧ (A.getD (l.val * s + d) 0).testBit q = true := by
      intro n m q
      rw [vals_rep, hv]
      show (act A s (vals k w0 ++ [l.val] ++ rep (vals k w0 ++ [l.val]) n) m).testBit q = true ↔ _
      rw [act_app, act_app]
      exact act_rep hs _ _ n _ q
    have same : ∀ n n', powM (enc fun c d => decide (c < s) && decide (d < s) && (act A s (vals k w0) (A.getD (l.val * s + c) 0)).testBit (l.val * s + d)) n = powM (enc fun c d => decide (c < s) && decide (d < s) && (act A s (vals k w0) (A.getD (l.val * s + c) 0)).testBit (l.val * s + d)) n' → cls k s A (rep (w0 ++ [l]) (n + 1)) = cls k s A (rep (w0 ++ [l]) (n' + 1)) := by
      intro n n' h
      rw [cls_eq]
      refine List.map_congr_left fun m _ => bit_ext fun q => ?_
      rw [row, row, h]
    have run := List.all_eq_true.mp powM_run _ (List.mem_range.mpr (enc_lt fun c d => decide (c < s) && decide (d < s) && (act A s (vals k w0) (A.getD (l.val * s + c) 0)).testBit (l.val * s + d)))
    rw [Bool.or_eq_true, beq_iff_eq, beq_iff_eq] at run
    rcases run with h | h
    · exact .inl (same 8 6 h)
    · exact .inr (same 9 6 h)

/-! ### the nodes of a round -/
def Sub (a : Nat) (I : List Nat) : Prop := ∀ q, a.testBit q = true → ∃ i, i ∈ I ∧ i.testBit q = true
theorem Sub.act {w : List Nat} {a : Nat} {I : List Nat} (h : Sub a I) : Sub (act A s w a) (I.map (K18.act A s w)) := by
  intro q hq
  have lin := act_lin A s w (orAll I) I (fun q => orAll_bit I q) q
  have h2 : (K18.act A s w (orAll I)).testBit q = true := by
    have l2 := act_lin A s w (orAll I) (a :: I) (fun q => by
      rw [orAll_bit]
      constructor
      · rintro ⟨m, hm, hb⟩
        exact ⟨m, List.mem_cons_of_mem _ hm, hb⟩
      · rintro ⟨m, hm, hb⟩
        rcases List.mem_cons.mp hm with rfl | hm
        · exact h q hb
        · exact ⟨m, hm, hb⟩) q
    exact l2.mpr ⟨a, List.mem_cons_self, hq⟩
  obtain ⟨i, hi, hb⟩ := lin.mp h2
  exact ⟨_, List.mem_map.mpr ⟨i, hi, rfl⟩, hb⟩

def cut8 (code c : Nat) : Nat := code / 8 ^ c % 8
def patB (code I c : Nat) : Bool := cut8 code c &&& orAll (((List.range 3).filter fun i => I.testBit i).map (cut8 code)) == cut8 code c
def pat (code : Nat) : Nat := (List.range 24).foldl (fun n t => 2 * n + (if patB code (t / 3) (t % 3) then 1 else 0)) 0
def patTab : List Nat := [16777215, 8255455, 8255455, 8255455, 8255455, 8255455, 8255455, 8255455, 12057471, 4191231, 3535711, 4060127, 3535711, 4060127, 3535711, 4060127, 12057471, 3535711, 4191231, 4060127, 3535711, 3535711, 4060127, 4060127, 12057471, 3666815, 3666815, 4191231, 3535711, 3535711, 3535711, 4060127, 12057471, 3535711, 3535711, 3535711, 4191231, 4060127, 4060127, 4060127, 12057471, 3666815, 3535711, 3535711, 3666815, 4191231, 3535711, 4060127, 12057471, 3535711, 3666815, 3535711, 3666815, 3535711, 4191231, 4060127, 12057471, 3666815, 3666815, 3666815, 3666815, 3666815, 3666815, 4191231, 14381055, 6127615, 5859295, 6125535, 5859295, 6125535, 5859295, 6125535, 9699327, 2097151, 1177567, 1963999, 1177567, 1963999, 1177567, 1963999, 9661311, 1407871, 1795071, 1930239, 1139551, 1405791, 1663967, 1930207, 9698175, 1571711, 1307647, 2094079, 1176415, 1438559, 1176543, 1962975, 9661311, 1407871, 1139551, 1405791, 1795071, 1930239, 1663967, 1930207, 9698175, 1571711, 1176415, 1438559, 1307647, 2094079, 1176543, 1962975, 9661311, 1407871, 1270655, 1405823, 1270655, 1405823, 1795071, 1930239, 9698175, 1571711, 1307519, 1569663, 1307519, 1569663, 1307647, 2094079, 14381055, 5859295, 6127615, 6125535, 5859295, 5859295, 6125535, 6125535, 9661311, 1795071, 1407871, 1930239, 1139551, 1663967, 1405791, 1930207, 9699327, 1177567, 2097151, 1963999, 1177567, 1177567, 1963999, 1963999, 9698175, 1307647, 1571711, 2094079, 1176415, 1176543, 1438559, 1962975, 9661311, 1139551, 1407871, 1405791, 1795071, 1663967, 1930239, 1930207, 9661311, 1270655, 1407871, 1405823, 1270655, 1795071, 1405823, 1930239, 9698175, 1176415, 1571711, 1438559, 1307647, 1176543, 2094079, 1962975, 9698175, 1307519, 1571711, 1569663, 1307519, 1307647, 1569663, 2094079, 14381055, 5861375, 5861375, 6127615, 5859295, 5859295, 5859295, 6125535, 9662463, 1798143, 1146879, 1933311, 1140703, 1664991, 1144799, 1931231, 9662463, 1146879, 1798143, 1933311, 1140703, 1144799, 1664991, 1931231, 9699327, 1310719, 1310719, 2097151, 1177567, 1177567, 1177567, 1963999, 9661311, 1141631, 1141631, 1407871, 1795071, 1663999, 1663999, 1930239, 9661311, 1272703, 1145727, 1407871, 1270783, 1795071, 1143807, 1930239, 9661311, 1145727, 1272703, 1407871, 1270783, 1143807, 1795071, 1930239, 9698175, 1309567, 1309567, 1571711, 1307647, 1307647, 1307647, 2094079, 14381055, 5859295, 5859295, 5859295, 6127615, 6125535, 6125535, 6125535, 9661311, 1795071, 1139551, 1663967, 1407871, 1930239, 1405791, 1930207, 9661311, 1139551, 1795071, 1663967, 1407871, 1405791, 1930239, 1930207, 9661311, 1270655, 1270655, 1795071, 1407871, 1405823, 1405823, 1930239, 9699327, 1177567, 1177567, 1177567, 2097151, 1963999, 1963999, 1963999, 9698175, 1307647, 1176415, 1176543, 1571711, 2094079, 1438559, 1962975, 9698175, 1176415, 1307647, 1176543, 1571711, 1438559, 2094079, 1962975, 9698175, 1307519, 1307519, 1307647, 1571711, 1569663, 1569663, 2094079, 14381055, 5861375, 5859295, 5859295, 5861375, 6127615, 5859295, 6125535, 9662463, 1798143, 1140703, 1664991, 1146879, 1933311, 1144799, 1931231, 9661311, 1141631, 1795071, 1663999, 1141631, 1407871, 1663999, 1930239, 9661311, 1272703, 1270783, 1795071, 1145727, 1407871, 1143807, 1930239, 9662463, 1146879, 1140703, 1144799, 1798143, 1933311, 1664991, 1931231, 9699327, 1310719, 1177567, 1177567, 1310719, 2097151, 1177567, 1963999, 9661311, 1145727, 1270783, 1143807, 1272703, 1407871, 1795071, 1930239, 9698175, 1309567, 1307647, 1307647, 1309567, 1571711, 1307647, 2094079, 14381055, 5859295, 5861375, 5859295, 5861375, 5859295, 6127615, 6125535, 9661311, 1795071, 1141631, 1663999, 1141631, 1663999, 1407871, 1930239, 9662463, 1140703, 1798143, 1664991, 1146879, 1144799, 1933311, 1931231, 9661311, 1270783, 1272703, 1795071, 1145727, 1143807, 1407871, 1930239, 9662463, 1140703, 1146879, 1144799, 1798143, 1664991, 1933311, 1931231, 9661311, 1270783, 1145727, 1143807, 1272703, 1795071, 1407871, 1930239, 9699327, 1177567, 1310719, 1177567, 1310719, 1177567, 2097151, 1963999, 9698175, 1307647, 1309567, 1307647, 1309567, 1307647, 1571711, 2094079, 14381055, 5861375, 5861375, 5861375, 5861375, 5861375, 5861375, 6127615, 9662463, 1798143, 1142783, 1667071, 1142783, 1667071, 1146879, 1933311, 9662463, 1142783, 1798143, 1667071, 1142783, 1146879, 1667071, 1933311, 9662463, 1273855, 1273855, 1798143, 1146879, 1146879, 1146879, 1933311, 9662463, 1142783, 1142783, 1146879, 1798143, 1667071, 1667071, 1933311, 9662463, 1273855, 1146879, 1146879, 1273855, 1798143, 1146879, 1933311, 9662463, 1146879, 1273855, 1146879, 1273855, 1146879, 1798143, 1933311, 9699327, 1310719, 1310719, 1310719, 1310719, 1310719, 1310719, 2097151]
theorem pat_run : (List.range 512).map pat = patTab := by decide +kernel
theorem pat_count : (patTab.all fun a => (patTab.filter fun b => b == a).length ≤ 18) = true := by decide +kernel
def okCode (s code : Nat) : Bool := (List.range 3).all fun c => if c < s then cut8 code c < 2 ^ s else cut8 code c == 0
/-- the codes with one pattern, for letters with s cells -/
def alike (s a : Nat) : List Nat := (List.range 512).filter fun code => okCode s code && pat code == a
theorem alike_2 : ((List.range 512).all fun c => !okCode 2 c || (alike 2 (pat c)).length ≤ 3) = true := by decide +kernel
theorem alike_1 : ((List.range 512).all fun c => !okCode 1 c || (alike 1 (pat c)).length ≤ 3) = true := by decide +kernel
theorem alike_0 : ((List.range 512).all fun c => !okCode 0 c || (alike 0 (pat c)).length ≤ 3) = true := by decide +kernel
theorem filter_map_len {α β : Type} (f : α → β) (p : β → Bool) (l : List α) : ((l.map f).filter p).length = (l.filter fun a => p (f a)).length := by
  rw [List.filter_map, List.length_map]
  rfl
theorem filter_len_le {α : Type} (p r : α → Bool) (l : List α) (h : ∀ a, p a = true → r a = true) : (l.filter p).length ≤ (l.filter r).length := by
  induction l with
  | nil => exact Nat.le_refl _
  | cons x xs ih =>
    rw [List.filter_cons, List.filter_cons]
    cases hp : p x with
    | true =>
      rw [h x hp]
      exact Nat.succ_le_succ ih
    | false =>
      cases hr : r x with
      | true => exact Nat.le_succ_of_le ih
      | false => exact ih
theorem alike_3 (s c : Nat) (hc : c < 512) : (alike s (pat c)).length ≤ 18 := by
  have h : pat c ∈ patTab := by
    rw [← pat_run]
    exact List.mem_map.mpr ⟨c, List.mem_range.mpr hc, rfl⟩
  have := of_decide_eq_true (List.all_eq_true.mp pat_count _ h)
  rw [← pat_run, filter_map_len] at this
  refine Nat.le_trans (filter_len_le _ _ _ fun a ha => ?_) this
  rw [Bool.and_eq_true] at ha
  exact ha.2
theorem alike_k {k s c : Nat} (hks : (k ≤ 2 ∧ s ≤ 3) ∨ (k ≤ 3 ∧ s ≤ 2)) (hc : c < 512) (ho : okCode s c = true) : k * (alike s (pat c)).length ≤ 36 := by
  rcases hks with ⟨hk, hs⟩ | ⟨hk, hs⟩
  · exact Nat.le_trans (Nat.mul_le_mul hk (alike_3 s c hc)) (by decide)
  · have : (alike s (pat c)).length ≤ 3 := by
      have hs' : s = 0 ∨ s = 1 ∨ s = 2 := by omega
      have f : ∀ t, (((List.range 512).all fun c => !okCode t c || (alike t (pat c)).length ≤ 3) = true) → okCode t c = true → (alike t (pat c)).length ≤ 3 := by
        intro t ht ho
        have := List.all_eq_true.mp ht c (List.mem_range.mpr hc)
        rw [ho] at this
        exact of_decide_eq_true this
      rcases hs' with rfl | rfl | rfl
      · exact f 0 alike_0 ho
      · exact f 1 alike_1 ho
      · exact f 2 alike_2 ho
    exact Nat.le_trans (Nat.mul_le_mul hk this) (by decide)
end
end K18
end
section
set_option autoImplicit false
set_option maxRecDepth 100000
namespace K18
section
variable {k s : Nat} {A : List Nat}

/-- the row of the cell c of the letter x, behind a word -/
def rho (A : List Nat) (s x : Nat) (w : List Nat) (c : Nat) : Nat := act A s w (A.getD (x * s + c) 0)
theorem rho_cls {x : Nat} {u w : List (Fin k)} (h : cls k s A u = cls k s A w) (c : Nat) : rho A s x (vals k u) c = rho A s x (vals k w) c :=
  tb_getD ((cls_eq k s A).mp h) _
theorem rho_app (x : Nat) (u w : List Nat) (c : Nat) : rho A s x (u ++ w) c = act A s w (rho A s x u c) := act_app _ _ _ _ _

/-- what is met of a row at the places of a letter -/
def met (s x m : Nat) : Nat := m / 2 ^ (x * s) % 2 ^ s
theorem met_bit (s x m : Nat) {j : Nat} (hj : j < s) : (met s x m).testBit j = m.testBit (x * s + j) := by
  unfold met
  rw [Nat.testBit_mod_two_pow, ← Nat.shiftRight_eq_div_pow, Nat.testBit_shiftRight]
  simp [hj]
theorem met_lt (s x m : Nat) : met s x m < 2 ^ s := Nat.mod_lt _ (Nat.two_pow_pos s)
theorem met_high (s x m : Nat) {j : Nat} (hj : s ≤ j) : (met s x m).testBit j = false :=
  Nat.testBit_lt_two_pow (Nat.lt_of_lt_of_le (met_lt s x m) (Nat.pow_le_pow_right (by decide) hj))
/-- the code of three rows at a letter -/
def codeOf (s x : Nat) (r : Nat → Nat) : Nat := (if 0 < s then met s x (r 0) else 0) + 8 * (if 1 < s then met s x (r 1) else 0) + 64 * (if 2 < s then met s x (r 2) else 0)
theorem lt8 {s x m : Nat} (hs : s ≤ 3) : met s x m < 8 := Nat.lt_of_lt_of_le (met_lt s x m) (Nat.pow_le_pow_right (n := 2) (by decide) hs)
theorem codeOf_cut {s x : Nat} (hs : s ≤ 3) (r : Nat → Nat) {c : Nat} (hc : c < 3) : cut8 (codeOf s x r) c = if c < s then met s x (r c) else 0 := by
  have h0 : (if 0 < s then met s x (r 0) else 0) < 8 := by split; exact lt8 hs; decide
  have h1 : (if 1 < s then met s x (r 1) else 0) < 8 := by split; exact lt8 hs; decide
  have h2 : (if 2 < s then met s x (r 2) else 0) < 8 := by split; exact lt8 hs; decide
  unfold codeOf cut8
  have hc' : c = 0 ∨ c = 1 ∨ c = 2 := by omega
  generalize ha : (if 0 < s then met s x (r 0) else 0) = a at h0 ⊢
  generalize hb : (if 1 < s then met s x (r 1) else 0) = b at h1 ⊢
  generalize hd : (if 2 < s then met s x (r 2) else 0) = d at h2 ⊢
  rcases hc' with rfl | rfl | rfl
  · rw [ha]
    show (a + 8 * b + 64 * d) / 1 % 8 = a
    omega
  · rw [hb]
    show (a + 8 * b + 64 * d) / 8 % 8 = b
    omega
  · rw [hd]
    show (a + 8 * b + 64 * d) / 64 % 8 = d
    omega
theorem codeOf_lt {s x : Nat} (hs : s ≤ 3) (r : Nat → Nat) : codeOf s x r < 512 := by
  have h0 : (if 0 < s then met s x (r 0) else 0) < 8 := by split; exact lt8 hs; decide
  have h1 : (if 1 < s then met s x (r 1) else 0) < 8 := by split; exact lt8 hs; decide
  have h2 : (if 2 < s then met s x (r 2) else 0) < 8 := by split; exact lt8 hs; decide
  unfold codeOf
  omega
theorem codeOf_ok {s x : Nat} (hs : s ≤ 3) (r : Nat → Nat) : okCode s (codeOf s x r) = true := by
  unfold okCode
  rw [List.all_eq_true]
  intro c hc
  rw [codeOf_cut hs r (List.mem_range.mp hc)]
  split
  · exact decide_eq_true (met_lt _ _ _)
  · rfl

theorem and_eq_iff {a b : Nat} : (a &&& b == a) = true ↔ ∀ q, a.testBit q = true → b.testBit q = true := by
  rw [beq_iff_eq]
  constructor
  · intro h q hq
    rw [← h, Nat.testBit_and, Bool.and_eq_true] at hq
    exact hq.2
  · intro h
    refine bit_ext fun q => ?_
    rw [Nat.testBit_and, Bool.and_eq_true]
    exact ⟨fun x => x.1, fun x => ⟨x, h q x⟩⟩

/-- the rows of E among which one is looked for -/
def among (s I : Nat) (r : Nat → Nat) : List Nat := ((List.range s).filter fun i => I.testBit i).map r
theorem among_mem {s I q : Nat} {r : Nat → Nat} : (∃ i, i ∈ among s I r ∧ i.testBit q = true) ↔ ∃ i, i < s ∧ I.testBit i = true ∧ (r i).testBit q = true := by
  unfold among
  constructor
  · rintro ⟨_, h, hq⟩
    obtain ⟨i, hi, rfl⟩ := List.mem_map.mp h
    rw [List.mem_filter] at hi
    exact ⟨i, List.mem_range.mp hi.1, hi.2, hq⟩
  · rintro ⟨i, hi, hI, hq⟩
    exact ⟨_, List.mem_map.mpr ⟨i, List.mem_filter.mpr ⟨List.mem_range.mpr hi, hI⟩, rfl⟩, hq⟩

/-- a flag of the pattern, by the bits at a letter -/
theorem patB_iff {s x : Nat} (hs : s ≤ 3) (r : Nat → Nat) {I c : Nat} (hc : c < s) :
    patB (codeOf s x r) I c = true ↔ ∀ j, j < s → (r c).testBit (x * s + j) = true → ∃ i, i < s ∧ I.testBit i = true ∧ (r i).testBit (x * s + j) = true := by
  unfold patB
  rw [and_eq_iff, codeOf_cut hs r (by omega), if_pos hc]
  constructor
  · intro h j hj hb
    rw [← met_bit s x _ hj] at hb
    obtain ⟨m, hm, hmb⟩ := (orAll_bit _ _).mp (h j hb)
    obtain ⟨i, hi, rfl⟩ := List.mem_map.mp hm
    rw [List.mem_filter, List.mem_range] at hi
    rw [codeOf_cut hs r hi.1] at hmb
    by_cases his : i < s
    · rw [if_pos his, met_bit s x _ hj] at hmb
      exact ⟨i, his, hi.2, hmb⟩
    · rw [if_neg his] at hmb
      simp at hmb
  · intro h q hb
    have hq : q < s := by
      apply Classical.byContradiction
      intro hq
      rw [met_high s x _ (by omega)] at hb
      cases hb
    rw [met_bit s x _ hq] at hb
    obtain ⟨i, hi, hI, hr⟩ := h q hq hb
    refine (orAll_bit _ _).mpr ⟨_, List.mem_map.mpr ⟨i, List.mem_filter.mpr ⟨List.mem_range.mpr (by omega), hI⟩, rfl⟩, ?_⟩
    rw [codeOf_cut hs r (by omega), if_pos hi, met_bit s x _ hq]
    exact hr
theorem patB_top {s x : Nat} (hs : s ≤ 3) (r : Nat → Nat) {I c : Nat} (hc : ¬ c < s) (hc3 : c < 3) : patB (codeOf s x r) I c = true := by
  unfold patB
  rw [codeOf_cut hs r hc3, if_neg hc, Nat.zero_and]
  rfl
theorem foldl_ext {α β : Type} (f g : β → α → β) (l : List α) : (∀ b a, a ∈ l → f b a = g b a) → ∀ b, l.foldl f b = l.foldl g b := by
  induction l with
  | nil => intro _ b; rfl
  | cons x xs ih =>
    intro h b
    show xs.foldl f (f b x) = xs.foldl g (g b x)
    rw [h b x List.mem_cons_self]
    exact ih (fun b a ha => h b a (List.mem_cons_of_mem _ ha)) _
theorem pat_eq {a b : Nat} (h : ∀ I c, c < 3 → patB a I c = patB b I c) : pat a = pat b := by
  unfold pat
  refine foldl_ext _ _ _ (fun n t _ => ?_) 0
  rw [h (t / 3) (t % 3) (Nat.mod_lt _ (by decide))]

theorem st_of_met {s x m m' : Nat} (h : met s x m = met s x m') : st A s x m = st A s x m' := by
  refine bit_ext fun q => ?_
  rw [st_bit, st_bit]
  constructor
  · rintro ⟨j, hj, h1, h2⟩
    refine ⟨j, hj, ?_, h2⟩
    rw [← met_bit s x _ hj] at h1 ⊢
    rw [← h]
    exact h1
  · rintro ⟨j, hj, h1, h2⟩
    refine ⟨j, hj, ?_, h2⟩
    rw [← met_bit s x _ hj] at h1 ⊢
    rw [h]
    exact h1

theorem sub_st {s x m : Nat} {I : List Nat} (h : ∀ j, j < s → m.testBit (x * s + j) = true → ∃ i, i ∈ I ∧ i.testBit (x * s + j) = true) : Sub (st A s x m) (I.map (st A s x)) := by
  intro q hq
  obtain ⟨j, hj, h1, h2⟩ := (st_bit _ _ _ _ _).mp hq
  obtain ⟨i, hi, hb⟩ := h j hj h1
  exact ⟨_, List.mem_map.mpr ⟨i, hi, rfl⟩, (st_bit _ _ _ _ _).mpr ⟨j, hj, hb, h2⟩⟩

theorem round_36 (hks : (k ≤ 2 ∧ s ≤ 3) ∨ (k ≤ 3 ∧ s ≤ 2)) (z : List (Fin k)) (hz : z ≠ []) (ez : cls k s A z * cls k s A z = cls k s A z)
    (ys : List (Tb k s A)) (nd : ys.Nodup) (hy : ∀ y, y ∈ ys → ∃ a b, y = cls k s A z * a ∧ y * b = cls k s A z) : ys.length ≤ 36 := by
  have hs : s ≤ 3 := by omega
  obtain ⟨z0, l, rfl⟩ := concat_of_ne hz
  generalize hE : cls k s A (z0 ++ [l]) = E at ez hy
  have G := gen k s A
  -- an element that E leaves alone is told by its rows behind l
  have det : ∀ u w : List (Fin k), E * cls k s A u = cls k s A u → E * cls k s A w = cls k s A w → (∀ c, c < s → rho A s l.val (vals k u) c = rho A s l.val (vals k w) c) → cls k s A u = cls k s A w := by
    intro u w hu hw h
    have e1 : cls k s A (z0 ++ [l] ++ u) = cls k s A u := by rw [G.app, hE, hu]
    have e2 : cls k s A (z0 ++ [l] ++ w) = cls k s A w := by rw [G.app, hE, hw]
    rw [← e1, ← e2, cls_eq]
    refine List.map_congr_left fun m _ => bit_ext fun q => ?_
    have v1 : ∀ x : List (Fin k), vals k (z0 ++ [l] ++ x) = vals k z0 ++ (l.val :: vals k x) := by
      intro x
      rw [vals_app, vals_app, List.append_assoc]
      rfl
    rw [v1, v1, act_app, act_app, act_cons, act_cons, act_st, act_st]
    constructor
    · rintro ⟨j, hj, h1, h2⟩
      exact ⟨j, hj, h1, by have := h j hj; unfold rho at this; rw [← this]; exact h2⟩
    · rintro ⟨j, hj, h1, h2⟩
      exact ⟨j, hj, h1, by have := h j hj; unfold rho at this; rw [this]; exact h2⟩
  -- the last step to each of them
  have last : ∀ y, y ∈ ys → ∃ (u : List (Fin k)) (x : Fin k), y = cls k s A (u ++ [x]) ∧ E * cls k s A u = cls k s A u ∧ ∃ b, cls k s A u * b = E := by
    intro y hy'
    obtain ⟨a, b, h1, h2⟩ := hy y hy'
    obtain ⟨wa, rfl⟩ := G.sur a
    have hne : z0 ++ [l] ++ wa ≠ [] := by simp
    obtain ⟨u, x, hu⟩ := concat_of_ne hne
    have e1 : E * cls k s A wa = cls k s A (u ++ [x]) := by rw [← hu, G.app, hE]
    refine ⟨z0 ++ [l] ++ u, x, ?_, ?_, cls k s A [x] * b, ?_⟩
    · rw [List.append_assoc, G.app, ← e1, hE, h1, ← Mo.assoc, ez]
    · rw [G.app, hE, ← Mo.assoc, ez]
    · rw [G.app, hE, Mo.assoc, ← Mo.assoc (cls k s A u), ← G.app, ← e1, ← h1, h2, ez]
  -- the pattern is E's
  have sub_in : ∀ (u w : List (Fin k)) (I c : Nat), Sub (rho A s l.val (vals k u) c) (among s I (rho A s l.val (vals k u))) → Sub (rho A s l.val (vals k (u ++ w)) c) (among s I (rho A s l.val (vals k (u ++ w)))) := by
    intro u w I c h
    have := h.act (A := A) (s := s) (w := vals k w)
    rw [vals_app, rho_app]
    unfold among at this ⊢
    rw [List.map_map] at this
    rw [show rho A s l.val (vals k u ++ vals k w) = act A s (vals k w) ∘ rho A s l.val (vals k u) from funext fun c => rho_app _ _ _ _]
    exact this
  have rho_fun : ∀ {u w : List (Fin k)}, cls k s A u = cls k s A w → rho A s l.val (vals k u) = rho A s l.val (vals k w) := fun h => funext fun c => rho_cls h c
  have pat_all : ∀ (u : List (Fin k)) (x : Fin k), E * cls k s A u = cls k s A u → (∃ b, cls k s A u * b = E) → (∃ b, cls k s A (u ++ [x]) * b = E) → ∀ I c, c < s →
      (patB (codeOf s x.val (rho A s l.val (vals k u))) I c = true ↔ Sub (rho A s l.val (vals k (z0 ++ [l])) c) (among s I (rho A s l.val (vals k (z0 ++ [l]))))) := by
    intro u x hu hub hxb I c hc
    rw [patB_iff hs _ hc]
    constructor
    · intro h
      -- to the next row, and on to E
      have h1 : Sub (rho A s l.val (vals k (u ++ [x])) c) (among s I (rho A s l.val (vals k (u ++ [x])))) := by
        have := sub_st (A := A) (m := rho A s l.val (vals k u) c) (I := among s I (rho A s l.val (vals k u))) (fun j hj hb => by
          obtain ⟨i, hi, hI, hr⟩ := h j hj hb
          exact among_mem.mpr ⟨i, hi, hI, hr⟩)
        unfold among at this ⊢
        rw [List.map_map] at this
        rw [show rho A s l.val (vals k (u ++ [x])) = st A s x.val ∘ rho A s l.val (vals k u) from funext fun c => by rw [vals_app, rho_app]; rfl]
        exact this
      obtain ⟨b, hb⟩ := hxb
      obtain ⟨wb, rfl⟩ := G.sur b
      have h2 := sub_in (u ++ [x]) wb I c h1
      rw [← G.app, ← hE] at hb
      rw [rho_fun hb] at h2
      exact h2
    · intro h j hj hb
      obtain ⟨wu, hwu⟩ := G.sur (cls k s A u)
      have h2 := sub_in (z0 ++ [l]) u I c h
      rw [rho_fun (show cls k s A (z0 ++ [l] ++ u) = cls k s A u by rw [G.app, hE, hu])] at h2
      obtain ⟨i, hi, hib⟩ := h2 _ hb
      obtain ⟨i', hi', hI, hr⟩ := among_mem.mp ⟨i, hi, hib⟩
      exact ⟨i', hi', hI, hr⟩
  -- a code for each
  classical
  have key : ∀ y : {y // y ∈ ys}, ∃ p : Nat × Nat, p.1 < k ∧ p.2 < 512 ∧ okCode s p.2 = true ∧ (∀ I c, c < 3 → (patB p.2 I c = true ↔ (c < s → Sub (rho A s l.val (vals k (z0 ++ [l])) c) (among s I (rho A s l.val (vals k (z0 ++ [l]))))))) ∧
      ∃ (u : List (Fin k)) (x : Fin k), y.1 = cls k s A (u ++ [x]) ∧ E * cls k s A u = cls k s A u ∧ p = (x.val, codeOf s x.val (rho A s l.val (vals k u))) := by
    rintro ⟨y, hy'⟩
    obtain ⟨u, x, h1, h2, h3⟩ := last y hy'
    obtain ⟨a, b, _, hb⟩ := hy y hy'
    refine ⟨(x.val, codeOf s x.val (rho A s l.val (vals k u))), x.isLt, codeOf_lt hs _, codeOf_ok hs _, fun I c hc => ?_, u, x, h1, h2, rfl⟩
    by_cases hcs : c < s
    · rw [pat_all u x h2 h3 ⟨b, by rw [← h1]; exact hb⟩ I c hcs]
      exact ⟨fun h _ => h, fun h => h hcs⟩
    · exact ⟨fun _ h => (hcs h).elim, fun _ => patB_top hs _ hcs hc⟩
  by_cases h0 : ys = []
  · rw [h0]
    exact Nat.zero_le _
  · obtain ⟨y0, hy0⟩ := List.exists_mem_of_ne_nil _ h0
    let f : {y // y ∈ ys} → Nat × Nat := fun y => Classical.choose (key y)
    have hf : ∀ y, _ := fun y => Classical.choose_spec (key y)
    obtain ⟨c1, c2, c3, c4, _⟩ := hf ⟨y0, hy0⟩
    have := ph ys.attach f ((List.range k).flatMap fun x => (alike s (pat (f ⟨y0, hy0⟩).2)).map fun c => (x, c)) ?_ ?_ ?_
    · rw [List.length_attach, List.length_flatMap] at this
      simp only [List.length_map] at this
      rw [List.map_const', List.sum_replicate_nat, List.length_range] at this
      exact Nat.le_trans this (alike_k hks c2 c3)
    · rw [List.nodup_iff_pairwise_ne] at nd ⊢
      have : List.Pairwise (fun a b : {y // y ∈ ys} => a.1 ≠ b.1) ys.attach := by
        rw [← List.pairwise_map (f := fun a : {y // y ∈ ys} => a.1) (R := fun a b => a ≠ b), List.attach_map_subtype_val]
        exact nd
      exact this.imp fun h e => h (congrArg Subtype.val e)
    · intro a _ b _ hab
      obtain ⟨_, _, _, _, u, x, h1, h2, h3⟩ := hf a
      obtain ⟨_, _, _, _, u', x', h1', h2', h3'⟩ := hf b
      have e3 : (x.val, codeOf s x.val (rho A s l.val (vals k u))) = (x'.val, codeOf s x'.val (rho A s l.val (vals k u'))) := by
        rw [← h3, ← h3']
        exact hab
      obtain ⟨ex, ec⟩ := Prod.mk.inj e3
      have exx : x = x' := Fin.eq_of_val_eq ex
      subst exx
      apply Subtype.ext
      rw [h1, h1']
      refine det _ _ (by rw [G.app, ← Mo.assoc, h2]) (by rw [G.app, ← Mo.assoc, h2']) fun c hc => ?_
      have : cut8 _ c = cut8 _ c := congrArg (fun n => cut8 n c) ec
      rw [codeOf_cut hs _ (by omega), codeOf_cut hs _ (by omega), if_pos hc, if_pos hc] at this
      rw [vals_app, vals_app, rho_app, rho_app]
      exact st_of_met this
    · intro a _
      obtain ⟨d1, d2, d3, d4, _⟩ := hf a
      refine List.mem_flatMap.mpr ⟨(f a).1, List.mem_range.mpr d1, List.mem_map.mpr ⟨(f a).2, ?_, rfl⟩⟩
      unfold alike
      rw [List.mem_filter, List.mem_range, Bool.and_eq_true, beq_iff_eq]
      refine ⟨d2, d3, pat_eq fun I c hc => ?_⟩
      rw [Bool.eq_iff_iff]
      exact (d4 I c hc).trans (c4 I c hc).symm
end
end K18
end
section
set_option autoImplicit false
namespace K18
theorem dedup {α : Type} (l : List α) : ∃ l' : List α, l'.Nodup ∧ (∀ x, x ∈ l ↔ x ∈ l') ∧ l'.length ≤ l.length := by
  classical
  induction l with
  | nil => exact ⟨[], List.nodup_nil, fun _ => Iff.rfl, Nat.le_refl _⟩
  | cons x xs ih =>
    obtain ⟨l', h1, h2, h3⟩ := ih
    by_cases hx : x ∈ l'
    · refine ⟨l', h1, fun y => ?_, Nat.le_succ_of_le h3⟩
      rw [List.mem_cons, h2]
      exact ⟨fun h => h.elim (fun e => e ▸ hx) id, .inr⟩
    · refine ⟨x :: l', List.nodup_cons.mpr ⟨hx, h1⟩, fun y => ?_, Nat.succ_le_succ h3⟩
      rw [List.mem_cons, List.mem_cons, h2]

/-- a word of the letters below k -/
def Wd (k : Nat) (w : List Nat) : Prop := ∀ x, x ∈ w → x < k
theorem Wd.of_vals {k : Nat} {w : List Nat} (h : Wd k w) : ∃ u : List (Fin k), vals k u = w := by
  induction w with
  | nil => exact ⟨[], rfl⟩
  | cons x xs ih =>
    obtain ⟨u, hu⟩ := ih fun y hy => h y (List.mem_cons_of_mem _ hy)
    exact ⟨⟨x, h x List.mem_cons_self⟩ :: u, by show x :: vals k u = _; rw [hu]⟩
theorem vals_wd {k : Nat} (u : List (Fin k)) : Wd k (vals k u) := by
  intro x hx
  obtain ⟨y, _, rfl⟩ := List.mem_map.mp hx
  exact y.isLt
theorem vals_len {k : Nat} (u : List (Fin k)) : (vals k u).length = u.length := List.length_map _

/-- at n: the tables of the words of n letters -/
def At (k s : Nat) (A : List Nat) (n : Nat) (t : List Nat) : Prop := ∃ w, Wd k w ∧ w.length = n ∧ tb A s w = t

theorem lev_tables {k s : Nat} {A : List Nat} (hks : k = 1 ∨ (k ≤ 2 ∧ s ≤ 3) ∨ (k ≤ 3 ∧ s ≤ 2)) (ts : List (List Nat)) (hlen : ts.length ≤ 200) (cover : ∀ w, Wd k w → tb A s w ∈ ts) :
    ∃ m p, 0 < p ∧ m + p ≤ 4425 ∧ ∀ t, At k s A m t ↔ At k s A (m + p) t := by
  classical
  rcases hks with rfl | hks
  · -- one letter: one table for each length
    have one : ∀ n, Wd 1 (List.replicate n 0) := by
      intro n x hx
      rw [(List.mem_replicate.mp hx).2]
      decide
    have rep0 : ∀ w, Wd 1 w → w = List.replicate w.length 0 := by
      intro w hw
      refine List.eq_replicate_iff.mpr ⟨rfl, fun x hx => ?_⟩
      have := hw x hx
      omega
    have : ∃ i j, i < j ∧ j < 201 ∧ tb A s (List.replicate i 0) = tb A s (List.replicate j 0) := by
      apply Classical.byContradiction
      intro hno
      have := ph (List.range 201) (fun i => tb A s (List.replicate i 0)) ts List.nodup_range ?_ (fun i _ => cover _ (one i))
      · rw [List.length_range] at this
        omega
      · intro a ha b hb hab
        refine inj_of_lt (f := fun j => tb A s (List.replicate j 0)) (p := fun j => j < 201) ?_ a b (List.mem_range.mp ha) (List.mem_range.mp hb) hab
        intro j k hjk _ hk h
        exact hno ⟨j, k, hjk, hk, h⟩
    obtain ⟨i, j, hij, hj, h⟩ := this
    refine ⟨i, j - i, by omega, by omega, fun t => ⟨?_, ?_⟩⟩
    · rintro ⟨w, hw, hl, rfl⟩
      refine ⟨List.replicate j 0, one j, by rw [List.length_replicate]; omega, ?_⟩
      rw [rep0 w hw, hl, h]
    · rintro ⟨w, hw, hl, rfl⟩
      refine ⟨List.replicate i 0, one i, by rw [List.length_replicate], ?_⟩
      rw [rep0 w hw, hl, h]
      congr 2
      omega
  · have G := gen k s A
    obtain ⟨all, nd, hmem, hle⟩ := dedup (ts.filterMap fun t => if h : ∃ w : List (Fin k), tb A s (vals k w) = t then some (cls k s A (Classical.choose h)) else none)
    have hall : ∀ a : Tb k s A, a ∈ all := by
      intro a
      obtain ⟨w, rfl⟩ := G.sur a
      rw [← hmem, List.mem_filterMap]
      refine ⟨tb A s (vals k w), cover _ (vals_wd w), ?_⟩
      have h : ∃ u : List (Fin k), tb A s (vals k u) = tb A s (vals k w) := ⟨w, rfl⟩
      rw [dif_pos h]
      exact congrArg some ((cls_eq k s A).mpr (Classical.choose_spec h))
    have hN : all.length ≤ 200 := Nat.le_trans hle (Nat.le_trans (List.length_filterMap_le _ _) hlen)
    obtain ⟨m, p, hp, hmp, h⟩ := levels G (exp_tb (by omega)) hall nd hN (fun z hz ez ys hnd hy => round_36 hks z hz ez ys hnd hy)
    have conv : ∀ n t, At k s A n t ↔ ∃ a : Tb k s A, (∃ w : List (Fin k), w.length = n ∧ cls k s A w = a) ∧ ∃ u, cls k s A u = a ∧ tb A s (vals k u) = t := by
      intro n t
      constructor
      · rintro ⟨w, hw, hl, ht⟩
        obtain ⟨u, rfl⟩ := hw.of_vals
        exact ⟨cls k s A u, ⟨u, by rw [← hl, vals_len], rfl⟩, u, rfl, ht⟩
      · rintro ⟨a, ⟨w, hl, hw⟩, u, hu, ht⟩
        exact ⟨vals k w, vals_wd w, by rw [vals_len, hl], by rw [← ht, (cls_eq k s A).mp (hw.trans hu.symm)]⟩
    refine ⟨m, p, hp, hmp, fun t => ?_⟩
    rw [conv, conv]
    constructor
    · rintro ⟨a, ha, r⟩
      exact ⟨a, (h a).mp ha, r⟩
    · rintro ⟨a, ha, r⟩
      exact ⟨a, (h a).mpr ha, r⟩
end K18
end
section
set_option Elab.async false
set_option linter.all false
set_option maxRecDepth 100000
/-! The text by places; what is shared. -/
namespace N18
open PySem PySem.Spec PyProof.Rows L2 TL
def topS (i : Nat) : Stmt := PySem.Challenge.pw_nearwish_k18_whole_long_tables.main.body.getD i (.Pass ⟨0, 0, 0, 0⟩)
abbrev sIsInteger : Stmt := topS 8
abbrev sCheckNumber : Stmt := topS 9
abbrev sIsStringOf : Stmt := topS 10
abbrev sIsChoice : Stmt := topS 11
abbrev sCheckWord : Stmt := topS 12
abbrev sPlainRows : Stmt := topS 14
abbrev sCrossed : Stmt := topS 15
abbrev sPutBehind : Stmt := topS 16
abbrev sPutAhead : Stmt := topS 17
abbrev sAsTable : Stmt := topS 18
abbrev sAsRows : Stmt := topS 19
abbrev sCInit : Stmt := inClass (topS 22) 0
abbrev sGoOn : Stmt := inClass (topS 22) 1
abbrev sNextLevel : Stmt := inClass (topS 22) 2
abbrev sLevels : Stmt := inClass (topS 22) 3
abbrev sFirstWord : Stmt := inClass (topS 22) 4
abbrev sClosed : Stmt := topS 23
abbrev sNumberOf : Stmt := topS 26
abbrev sTable : Stmt := topS 27
abbrev sTables : Stmt := topS 28
abbrev sStart : Stmt := topS 29
abbrev sLongs : Stmt := topS 30
abbrev sWordWith : Stmt := topS 31
abbrev sIsPair : Stmt := topS 35
abbrev sArePairs : Stmt := topS 36
abbrev sWInit : Stmt := inClass (topS 37) 0
abbrev sKeep : Stmt := inClass (topS 37) 1
abbrev sHand : Stmt := topS 39
abbrev sDraw : Stmt := topS 40
abbrev sLetters : Stmt := topS 41
abbrev sCells : Stmt := topS 42
abbrev sKnown : Stmt := topS 43
abbrev sFits : Stmt := topS 44
abbrev sPairs : Stmt := topS 45
abbrev sSmall : Stmt := topS 46
abbrev sWord : Stmt := topS 47
abbrev sPlain : Stmt := topS 48
abbrev sBehind : Stmt := topS 49
abbrev sClosure : Stmt := topS 50
abbrev sLawLevels : Stmt := topS 51
abbrev sLaw : Stmt := topS 52

/-- a def of the text that other defs call: its promise, found by its name -/
def Cal (P : Program) (w : World) (K : PySem.W.Frag) (mg : Str → Option Value) (base : Heap) (x : Str) (k : Nat) (ps : List Str) (sp : Sp) : Prop :=
  ∃ (f : Addr) (fd : FuncData), FnOk P w K mg base CX0 k f fd ps sp ∧ mg x = some (.ref f) ∧ PySem.W.keepIn K (.ref f) = true ∧ Binds K fd ps []
section
variable {P : Program} {w : World} {K : PySem.W.Frag} {mg : Str → Option Value} {base : Heap}
theorem Cal.mono {x : Str} {j k : Nat} {ps : List Str} {sp : Sp} (c : Cal P w K mg base x j ps sp) (h : j ≤ k) : Cal P w K mg base x k ps sp := by
  obtain ⟨f, fd, F, m, kp, b⟩ := c
  exact ⟨f, fd, F.mono h, m, kp, b⟩
end

/-! ### texts by their signs -/
def tx (l : List Nat) : Str := ⟨l.toArray⟩
theorem tl_tx (l : List Nat) : tl (tx l) = l := by simp [tl, tx]
theorem tx_tl (z : Str) : tx (tl z) = z := mk_tl z
theorem tx_len (l : List Nat) : (tx l).length = l.length := by simp [tx, Str.length]
theorem tx_app (a b : List Nat) : tx a ++ tx b = tx (a ++ b) := ext_tl (by rw [tl_append, tl_tx, tl_tx, tl_tx])
theorem tx_inj {a b : List Nat} (h : tx a = tx b) : a = b := by rw [← tl_tx a, h, tl_tx]
theorem tx_one (c : Nat) : tx [c] = (⟨#[c]⟩ : Str) := rfl
theorem tx_nil : tx [] = Str.empty := rfl
theorem tx_cps (l : List Nat) (i : Nat) : (tx l).cps[i]? = l[i]? := by simp [tx]
theorem tx_size (l : List Nat) : (tx l).cps.size = l.length := by simp [tx]

/-! ### heaps -/
theorem same_upd {H : Hp} {p : Addr} {o : HO} (h : H p = none) : Same H (upd H p o) := fun b x e => by
  rw [upd_ne (ne_of_none e h)]
  exact e
/-- all that was tracked is as it was, but what stands at a -/
def But (a : Addr) (H H' : Hp) : Prop := ∀ b o, b ≠ a → H b = some o → H' b = some o
theorem But.of {a : Addr} {H H' : Hp} (h : Same H H') : But a H H' := fun b o _ e => h b o e
theorem But.refl (a : Addr) (H : Hp) : But a H H := fun _ _ _ e => e
theorem But.trans {a : Addr} {H H1 H2 : Hp} (x : But a H H1) (y : But a H1 H2) : But a H H2 := fun b o n e => y b o n (x b o n e)
theorem But.upd {a : Addr} {H : Hp} {o : HO} : But a H (upd H a o) := fun b x n e => by
  rw [upd_ne n]
  exact e
theorem But.free {a l : Addr} {H H' : Hp} (e : But a H H') (n : l ≠ a) (h : H' l = none) : H l = none := by
  cases q : H l with
  | none => rfl
  | some o =>
    rw [e l o n q] at h
    cases h
/-- a list, a tuple: either -/
def Sq (K : PySem.W.Frag) (H : Hp) (a : Addr) (xs : List V) : Prop := H a = some (.lst xs) ∨ H a = some (.tup xs)
theorem _root_.L2.Same.sq {K : PySem.W.Frag} {H H' : Hp} {a : Addr} {xs : List V} (s : Same H H') (h : Sq K H a xs) : Sq K H' a xs := h.elim (fun e => .inl (s _ _ e)) fun e => .inr (s _ _ e)
end N18
namespace N18
open PySem
/-- the built-in names that the text leaves alone -/
structure Bt (mg : Str → Option Value) : Prop where
  isi : mg "isinstance" = none
  int : mg "int" = none
  bool : mg "bool" = none
  str : mg "str" = none
  len : mg "len" = none
  set : mg "set" = none
  tuple : mg "tuple" = none
  zip : mg "zip" = none
  list : mg "list" = none
  range : mg "range" = none
  enum : mg "enumerate" = none
  any : mg "any" = none
  sorted : mg "sorted" = none
  sum : mg "sum" = none
  max : mg "max" = none
  abs : mg "abs" = none
end N18
end
section
set_option Elab.async false
set_option linter.all false
set_option maxRecDepth 100000
set_option maxHeartbeats 4000000
namespace N18
open PySem PySem.Spec PyProof.Rows L2 TL
section
variable {P : Program} {w : World} {K : PySem.W.Frag} {mg : Str → Option Value} {base : Heap}
/-! ### is_string_of -/
def spIsStringOf : Sp := fun vs H Q _ => ∃ z s : Str, vs = [.str z, .str s] ∧ (∀ c ∈ tl z, c ∈ tl s) ∧ Q (.bl true) H
theorem scIsStringOf : FnScope ["thing", "signs", "sign"] ["thing", "signs"] (defScope sIsStringOf) := ⟨rfl, rfl, rfl, by decide +kernel, rfl, by decide +kernel, by decide +kernel⟩
theorem ok_isStringOf {f : Addr} {fd : FuncData} (F : Fun K "is_string_of" "is_string_of" sIsStringOf f fd) (B : Bt mg) : FnOk P w K mg base CX0 1 f fd ["thing", "signs"] spIsStringOf := by
  refine F.ok scIsStringOf (fun vs H Q E h => ?_) (fun cdv A outer s H vs Q E hr h => ?_)
  · obtain ⟨z, s, rfl, _⟩ := h
    rfl
  · obtain ⟨z, sg, rfl, hc, q⟩ := h
    refine ⟨_, pss_cons (ps_if (pt_not (pt_val (pe_callB call_isi (by rfl) B.isi (by decide +kernel) (pa_cons (pv 0) (pa_cons (pe_bltn (v := .ty "str") (by rfl) B.str (by decide +kernel) rfl) pa_nil))))) (pss_one (ps_ret pe_bl)) pss_nil)
      (pss_cons (ps_for PassesOwn.never rfl (pi_str (pv 0)) (pg_name (i := 2) scIsStringOf.nd rfl (.inl rfl))
        (pss_one (ps_if (pt_cmpR op_notIn_sign (pv 2) (pv 1) rfl) (pss_one (ps_ret pe_bl)) pss_nil)))
      (pss_one (ps_ret pe_bl))), ?_⟩
    refine ⟨_, rfl, .str z, .ty "str", _, _, true, rfl, .ty _, .base (.str _), kit_ty (by decide +kernel), _, rfl, ?_⟩
    refine iteF ?_
    refine ⟨_, rfl, z, rfl, for_it walk_str (fun i σ H' => H' = H ∧ ∃ v, σ = [some (.str z), some (.str sg), v]) ⟨rfl, none, rfl⟩ (fun _ _ _ _ _ => trivial) ?_ ?_⟩
    · rintro i x σ H1 H2 hi ⟨rfl, v, rfl⟩ ⟨rfl, c, hcz, rfl⟩
      refine ⟨_, rfl, _, rfl, c, sg, rfl, rfl, _, rfl, ?_⟩
      have hm : c ∈ tl sg := by
        refine hc c ?_
        obtain ⟨h1, h2⟩ := Array.getElem?_eq_some_iff.mp hcz
        rw [← h2]
        exact Array.getElem_mem_toList h1
      refine iteNS hm ?_
      exact ⟨rfl, _, rfl⟩
    · rintro σ H1 ⟨rfl, v, rfl⟩
      exact q
end
end N18
end
section
set_option Elab.async false
set_option linter.all false
set_option maxRecDepth 100000
set_option maxHeartbeats 4000000
namespace N18
open PySem PySem.Spec PyProof.Rows L2 TL
/-! ### a wish as data -/
structure Inst where
  k : Nat
  s : Nat
  gl : List Nat
  sl : List Nat
  A : List Nat
structure Inst.Ok (I : Inst) : Prop where
  gk : I.gl.length = I.k
  sk : I.sl.length = I.s
  gn : I.gl.Nodup
  sn : I.sl.Nodup
  gs : ∀ c ∈ I.gl, 97 ≤ c ∧ c ≤ 122
  ss : ∀ c ∈ I.sl, 65 ≤ c ∧ c ≤ 90
  al : I.A.length = I.k * I.s
  alt : ∀ m ∈ I.A, m < 2 ^ (I.k * I.s)
  k1 : 1 ≤ I.k
  s1 : 1 ≤ I.s
  s4 : I.s ≤ 4
  n6 : I.k * I.s ≤ 6
  ks : I.k = 1 ∨ (I.k ≤ 2 ∧ I.s ≤ 3) ∨ (I.k ≤ 3 ∧ I.s ≤ 2)
def Inst.n (I : Inst) : Nat := I.k * I.s
theorem Inst.Ok.k3 {I : Inst} (h : I.Ok) : I.k ≤ 3 := by
  have := h.ks
  omega
/-- the cells, as signs -/
def Inst.cells (I : Inst) : List (List Nat) := I.gl.flatMap fun g => I.sl.map fun c => [g, c]
def Inst.cellS (I : Inst) : List Str := I.cells.map tx
def Inst.bits (I : Inst) : List Int := (List.range I.n).map fun i => ((2 ^ i : Nat) : Int)
def nV (m : Nat) : V := .int (m : Int)
def Inst.placeVs (I : Inst) (x : Nat) : List V := (K18.places I.s x).map nV
theorem flat_get {α β : Type} (l : List α) (m : List β) : ∀ p, (l.flatMap fun a => m.map fun b => (a, b))[p]? = (l[p / m.length]?).bind fun a => (m[p % m.length]?).map fun b => (a, b) := by
  induction l with
  | nil => intro p; simp
  | cons a l ih =>
    intro p
    rw [List.flatMap_cons]
    by_cases hp : p < m.length
    · rw [List.getElem?_append_left (by simpa using hp), Nat.div_eq_of_lt hp, Nat.mod_eq_of_lt hp, List.getElem?_map]
      rfl
    · by_cases h0 : m.length = 0
      · have hm : m = [] := List.eq_nil_of_length_eq_zero h0
        subst hm
        have e0 : ∀ l : List α, (l.flatMap fun a => ([] : List β).map fun b => (a, b)) = [] := by
          intro l
          induction l with
          | nil => rfl
          | cons x xs ih => rw [List.flatMap_cons, ih]; rfl
        rw [e0]
        cases (a :: l)[p / ([] : List β).length]? <;> rfl
      · rw [List.getElem?_append_right (by simpa using Nat.le_of_not_lt hp), List.length_map, ih]
        have h1 : p = (p - m.length) + m.length := by omega
        have e1 : p / m.length = (p - m.length) / m.length + 1 := by
          conv => lhs; rw [h1]
          rw [Nat.add_div_right _ (by omega)]
        have e2 : p % m.length = (p - m.length) % m.length := by
          conv => lhs; rw [h1]
          rw [Nat.add_mod_right]
        rw [e1, e2, List.getElem?_cons_succ]
theorem cells_pairs (I : Inst) : I.cells = (I.gl.flatMap fun a => I.sl.map fun b => (a, b)).map fun x => [x.1, x.2] := by
  unfold Inst.cells
  rw [List.map_flatMap]
  congr 1
  funext a
  rw [List.map_map]
  rfl
theorem Inst.Ok.clen {I : Inst} (h : I.Ok) : I.cells.length = I.n := by
  unfold Inst.cells Inst.n
  rw [List.length_flatMap]
  simp only [List.length_map]
  rw [List.map_const', List.sum_replicate_nat, h.gk, h.sk]
theorem Inst.Ok.cget {I : Inst} (h : I.Ok) (p : Nat) : I.cells[p]? = (I.gl[p / I.s]?).bind fun a => (I.sl[p % I.s]?).map fun b => [a, b] := by
  rw [cells_pairs, List.getElem?_map, flat_get, h.sk]
  cases I.gl[p / I.s]? with
  | none => rfl
  | some a =>
    show Option.map _ (Option.map _ _) = Option.map _ _
    cases I.sl[p % I.s]? <;> rfl
/-- a cell has two signs -/
theorem Inst.cell2 {I : Inst} {c : List Nat} (h : c ∈ I.cells) : ∃ g ∈ I.gl, ∃ d ∈ I.sl, c = [g, d] := by
  unfold Inst.cells at h
  obtain ⟨g, hg, h⟩ := List.mem_flatMap.mp h
  obtain ⟨d, hd, rfl⟩ := List.mem_map.mp h
  exact ⟨g, hg, d, hd, rfl⟩
theorem nodup_of_get {α : Type} {l : List α} (h : ∀ i j, i < j → j < l.length → l[i]? ≠ l[j]?) : l.Nodup := by
  rw [List.nodup_iff_pairwise_ne, List.pairwise_iff_getElem]
  intro i j hi hj hij e
  refine h i j hij hj ?_
  rw [List.getElem?_eq_getElem hi, List.getElem?_eq_getElem hj, e]
theorem nd_get {α : Type} {l : List α} (h : l.Nodup) {i j : Nat} {x : α} (hi : l[i]? = some x) (hj : l[j]? = some x) : i = j := nd_ix h hi hj
theorem Inst.Ok.cnd {I : Inst} (h : I.Ok) : I.cells.Nodup := by
  refine nodup_of_get fun i j hij hj e => ?_
  rw [h.clen] at hj
  have hs : 0 < I.s := h.s1
  have hn : I.n = I.k * I.s := rfl
  have gi : i / I.s < I.k := by rw [Nat.div_lt_iff_lt_mul hs]; omega
  have gj : j / I.s < I.k := by rw [Nat.div_lt_iff_lt_mul hs]; omega
  have mi : i % I.s < I.s := Nat.mod_lt _ hs
  have mj : j % I.s < I.s := Nat.mod_lt _ hs
  rw [h.cget, h.cget, List.getElem?_eq_getElem (show i / I.s < I.gl.length by rw [h.gk]; exact gi), List.getElem?_eq_getElem (show j / I.s < I.gl.length by rw [h.gk]; exact gj),
    List.getElem?_eq_getElem (show i % I.s < I.sl.length by rw [h.sk]; exact mi), List.getElem?_eq_getElem (show j % I.s < I.sl.length by rw [h.sk]; exact mj)] at e
  have e := Option.some.inj e
  injection e with e1 e2
  injection e2 with e2 _
  have q1 : i / I.s = j / I.s := (List.getElem_inj h.gn).mp e1
  have q2 : i % I.s = j % I.s := (List.getElem_inj h.sn).mp e2
  have a1 := Nat.div_add_mod i I.s
  have a2 := Nat.div_add_mod j I.s
  rw [q1, q2] at a1
  omega

/-! ### a wish in the heap -/
/-- what stands behind the attributes -/
structure WParts (H : Hp) (I : Inst) (ca ia pa ba ra : Addr) (pl : List Addr) : Prop where
  cells : H ca = some (.lst (I.cellS.map V.str))
  index : H ia = some (.dK (I.cellS.zipIdx.map fun c => ((Sum.inr c.1 : Key), nV c.2)))
  places : H pa = some (.dK ((I.gl.zip pl).map fun c => ((Sum.inr (tx [c.1]) : Key), V.ref c.2)))
  pll : pl.length = I.k
  plv : ∀ x a, pl[x]? = some a → H a = some (.lst (I.placeVs x))
  bits : H ba = some (.lst (I.bits.map V.int))
  rows : H ra = some (.lst (I.A.map nV))
theorem WParts.same {H H' : Hp} {I : Inst} {ca ia pa ba ra : Addr} {pl : List Addr} (W : WParts H I ca ia pa ba ra pl) (s : Same H H') : WParts H' I ca ia pa ba ra pl :=
  ⟨s _ _ W.cells, s _ _ W.index, s _ _ W.places, W.pll, fun x a h => s _ _ (W.plv x a h), s _ _ W.bits, s _ _ W.rows⟩
theorem WParts.but {H H' : Hp} {I : Inst} {ca ia pa ba ra p C dx : Addr} {fs : List (Str × V)} {pl : List Addr} (W : WParts H I ca ia pa ba ra pl) (hp : H p = some (.ins C dx fs)) (s : But p H H') : WParts H' I ca ia pa ba ra pl :=
  ⟨s _ _ (ne_of W.cells hp (by intro z; cases z)) W.cells, s _ _ (ne_of W.index hp (by intro z; cases z)) W.index, s _ _ (ne_of W.places hp (by intro z; cases z)) W.places, W.pll, fun x a h => s _ _ (ne_of (W.plv x a h) hp (by intro z; cases z)) (W.plv x a h),
    s _ _ (ne_of W.bits hp (by intro z; cases z)) W.bits, s _ _ (ne_of W.rows hp (by intro z; cases z)) W.rows⟩
/-- the attributes that are read -/
structure WFld (I : Inst) (fs : List (Str × V)) (ca ia pa ba ra : Addr) (cl : V) : Prop where
  given : fs.lookup ("kept_given" : Str) = some (.str (tx I.gl))
  cells : fs.lookup ("kept_cells" : Str) = some (.ref ca)
  index : fs.lookup ("kept_index" : Str) = some (.ref ia)
  places : fs.lookup ("kept_places" : Str) = some (.ref pa)
  bits : fs.lookup ("kept_bits" : Str) = some (.ref ba)
  rows : fs.lookup ("kept_rows" : Str) = some (.ref ra)
  clo : fs.lookup ("kept_closure" : Str) = some cl
  few : fs.length ≤ 20
/-- a wish stands at p; cl: its kept_closure -/
def WishAt (C : Addr) (H : Hp) (p : Addr) (I : Inst) (cl : V) : Prop :=
  ∃ (dx : Addr) (fs : List (Str × V)) (ca ia pa ba ra : Addr) (pl : List Addr), H p = some (.ins C dx fs) ∧ WFld I fs ca ia pa ba ra cl ∧ WParts H I ca ia pa ba ra pl
theorem WishAt.same {C : Addr} {H H' : Hp} {p : Addr} {I : Inst} {cl : V} (W : WishAt C H p I cl) (s : Same H H') : WishAt C H' p I cl := by
  obtain ⟨dx, fs, ca, ia, pa, ba, ra, pl, h, F, P⟩ := W
  exact ⟨dx, fs, ca, ia, pa, ba, ra, pl, s _ _ h, F, P.same s⟩
/-- the class Wish as the top has made it -/
structure WTxt (K : PySem.W.Frag) (C : Addr) : Prop where
  cl : Cls K C
  nG : NoAttr K C "kept_given"
  nC : NoAttr K C "kept_cells"
  nI : NoAttr K C "kept_index"
  nP : NoAttr K C "kept_places"
  nB : NoAttr K C "kept_bits"
  nR : NoAttr K C "kept_rows"
  nL : NoAttr K C "kept_closure"
section
variable {P : Program} {w : World} {K : PySem.W.Frag} {mg : Str → Option Value} {base : Heap}
/-! ### is_integer, check_number -/
def spIsInteger : Sp := fun vs H Q _ => ∃ n : Int, vs = [.int n] ∧ Q (.bl true) H
theorem scIsInteger : FnScope ["thing"] ["thing"] (defScope sIsInteger) := ⟨rfl, rfl, rfl, by decide +kernel, rfl, by decide +kernel, by decide +kernel⟩
theorem ok_isInteger {f : Addr} {fd : FuncData} (F : Fun K "is_integer" "is_integer" sIsInteger f fd) (B : Bt mg) : FnOk P w K mg base CX0 1 f fd ["thing"] spIsInteger := by
  refine F.ok scIsInteger (fun vs H Q E h => ?_) (fun cdv A outer s H vs Q E hr h => ?_)
  · obtain ⟨n, rfl, _⟩ := h
    rfl
  · obtain ⟨n, rfl, q⟩ := h
    refine ⟨_, pss_one (ps_ret (pe_and (pe_callB call_isi (by rfl) B.isi (by decide +kernel) (pa_cons (pv 0) (pa_cons (pe_bltn (v := .ty "int") (by rfl) B.int (by decide +kernel) rfl) pa_nil)))
      (pe_one (pe_not (pe_callB call_isi (by rfl) B.isi (by decide +kernel) (pa_cons (pv 0) (pa_cons (pe_bltn (v := .ty "bool") (by rfl) B.bool (by decide +kernel) rfl) pa_nil))))))), ?_⟩
    refine ⟨_, rfl, .int n, .ty "int", _, _, true, rfl, .ty _, .base (.int _), kit_ty (by decide +kernel), true, rfl, iteT ?_⟩
    exact ⟨_, rfl, .int n, .ty "bool", _, _, false, rfl, .ty _, .base (.int _), kit_ty (by decide +kernel), false, rfl, q⟩
def spCheckNumber : Sp := fun vs H Q _ => ∃ n a b : Int, vs = [.int n, .int a, .int b] ∧ a ≤ n ∧ n ≤ b ∧ Q .non H
theorem scCheckNumber : FnScope ["thing", "least", "most"] ["thing", "least", "most"] (defScope sCheckNumber) := ⟨rfl, rfl, rfl, by decide +kernel, rfl, by decide +kernel, by decide +kernel⟩
theorem ok_checkNumber {f : Addr} {fd : FuncData} (F : Fun K "check_number" "check_number" sCheckNumber f fd) (c1 : Cal P w K mg base "is_integer" 1 ["thing"] spIsInteger) : FnOk P w K mg base CX0 2 f fd ["thing", "least", "most"] spCheckNumber := by
  obtain ⟨g, gd, G, mG, kG, bG⟩ := c1
  refine F.ok scCheckNumber (fun vs H Q E h => ?_) (fun cdv A outer s H vs Q E hr h => ?_)
  · obtain ⟨n, a, b, rfl, _⟩ := h
    rfl
  · obtain ⟨n, a, b, rfl, h1, h2, q⟩ := h
    refine ⟨_, pss_one (ps_if (PW.pt (pw_or (pt_not (pt_val (pe_call G hr (by rfl) mG kG bG .nil pass0 (pa_cons (pv 0) pa_nil)))) (pw_or (pt_cmpR op_lt (pv 0) (pv 1) (nomark _)) (pw_or1 (pt_cmpR op_gt (pv 0) (pv 2) (nomark _)))))) (pss_one ps_never) pss_nil), ?_⟩
    refine ⟨_, rfl, n, rfl, true, rfl, iteF ?_⟩
    refine ⟨_, rfl, _, rfl, _, _, rfl, rfl, _, rfl, ?_⟩
    rw [decide_eq_false (by omega)]
    refine iteF ?_
    refine ⟨_, rfl, _, rfl, _, _, rfl, rfl, _, rfl, ?_⟩
    rw [decide_eq_false (by omega)]
    exact iteF q
/-! ### check_word -/
def spCheckWord (C : Addr) : Sp := fun vs H Q _ => ∃ (p : Addr) (I : Inst) (cl : V) (wd : List Nat), vs = [.ref p, .str (tx wd)] ∧ WishAt C H p I cl ∧ (∀ c ∈ wd, c ∈ I.gl) ∧ Q .non H
theorem scCheckWord : FnScope ["wish", "thing"] ["wish", "thing"] (defScope sCheckWord) := ⟨rfl, rfl, rfl, by decide +kernel, rfl, by decide +kernel, by decide +kernel⟩
theorem ok_checkWord {C f : Addr} {fd : FuncData} (F : Fun K "check_word" "check_word" sCheckWord f fd) (T : WTxt K C) (c1 : Cal P w K mg base "is_string_of" 1 ["thing", "signs"] spIsStringOf) : FnOk P w K mg base CX0 2 f fd ["wish", "thing"] (spCheckWord C) := by
  obtain ⟨g, gd, G, mG, kG, bG⟩ := c1
  refine F.ok scCheckWord (fun vs H Q E h => ?_) (fun cdv A outer s H vs Q E hr h => ?_)
  · obtain ⟨p, I, cl, wd, rfl, _⟩ := h
    rfl
  · obtain ⟨p, I, cl, wd, rfl, ⟨dx, fs, ca, ia, pa, ba, ra, pl, hp, Fl, _⟩, hw, q⟩ := h
    refine ⟨_, pss_one (ps_if (pt_not (pt_val (pe_call G hr (by rfl) mG kG bG .nil pass0 (pa_cons (pv 1) (pa_cons (pe_fld (pv 0) rfl) pa_nil))))) (pss_one ps_never) pss_nil), ?_⟩
    refine ⟨_, rfl, _, rfl, p, C, dx, _, _, rfl, hp, T.cl, T.nG, Fl.given, _, _, rfl, by rw [tl_tx, tl_tx]; exact hw, true, rfl, iteF q⟩
/-! ### plain_rows -/
def spPlainRows (C : Addr) : Sp := fun vs H Q _ => ∃ (p : Addr) (I : Inst) (cl : V), vs = [.ref p] ∧ I.Ok ∧ WishAt C H p I cl ∧ ∀ H' t, Same H H' → H t = none → H' t = some (.tup (I.A.map nV)) → Q (.ref t) H'
theorem scPlainRows : FnScope ["wish"] ["wish"] (defScope sPlainRows) := ⟨rfl, rfl, rfl, by decide +kernel, rfl, by decide +kernel, by decide +kernel⟩
theorem ok_plainRows {C f : Addr} {fd : FuncData} (F : Fun K "plain_rows" "plain_rows" sPlainRows f fd) (T : WTxt K C) (B : Bt mg) : FnOk P w K mg base CX0 1 f fd ["wish"] (spPlainRows C) := by
  refine F.ok scPlainRows (fun vs H Q E h => ?_) (fun cdv A outer s H vs Q E hr h => ?_)
  · obtain ⟨p, I, cl, rfl, _⟩ := h
    rfl
  · obtain ⟨p, I, cl, rfl, ok, ⟨dx, fs, ca, ia, pa, ba, ra, pl, hp, Fl, Pt⟩, q⟩ := h
    refine ⟨_, pss_one (ps_ret (pe_callTy call_tuple_of (by rfl) B.tuple (by decide +kernel) (pa_cons (pe_fld (pv 0) rfl) pa_nil))), ?_⟩
    refine ⟨_, rfl, p, C, dx, _, _, rfl, hp, T.cl, T.nR, Fl.rows, _, _, rfl, .inl ⟨SqL.of Pt.rows, fun t ht => ?_⟩⟩
    exact q _ t (same_upd ht) ht upd_same
end
end N18
end
section
set_option Elab.async false
set_option linter.all false
set_option maxRecDepth 100000
set_option maxHeartbeats 4000000
/-! Own rules: a walk over a list or a tuple, whichever stands there; zip of a list and such a thing. -/
namespace N18
open PySem PySem.Spec PyProof.Rows L2 TL
theorem ne_ad {x y : Nat} (h : x < y ∨ y < x) : x ≠ y := by omega
section
variable {X : Cx} {tg : Expr}
/-- a walk over what is a list or a tuple -/
def iSeq (K : PySem.W.Frag) (tl : TE) : TI := fun σ H R => tl σ H fun x H1 =>
  ∃ a, x = .ref a ∧ (((∃ xs, SqL K H1 a xs) ∧ R (Itl K a) H1) ∨ ((∃ xs, SqT K H1 a xs) ∧ R (Itt K a) H1))
theorem pi_seq {l : Expr} {tl : TE} (hl : PE X l tl) : PI X tg l (iSeq X.K tl) := by
  constructor
  intro pins s σ H R I h
  refine thn (hl.run pins s σ H _ I h) ?_
  rintro v s1 ⟨x, H1, I1, r1, a, rfl, q⟩
  cases r1
  have fresh : ∀ b ∈ [s1.heap.objs.size], FpOk X pins H1 b := by
    intro b hb
    rw [List.mem_singleton] at hb
    rw [hb]
    exact I1.fpOk (Nat.le_refl _) (I1.hok.fresh (Nat.le_refl _))
  have kept : ∀ o : Obj, Inv X pins σ H1 { s1 with heap := s1.heap.push o } := fun o => I1.kept (t' := s1.toks) fun b u e => Heap.get?_push_of_some _ e
  rcases q with ⟨⟨xs, hq⟩, q⟩ | ⟨⟨xs, hq⟩, q⟩
  · obtain ⟨its, _, p, _⟩ := I1.list hq
    exact wpAny_pyIter_list p.isList ⟨_, _, _, _, H1, rfl, kept _, turn_list a _, ⟨_, Heap.get?_push_size _ rfl, rfl, rfl⟩, fresh, q⟩
  · obtain ⟨its, _, p, _⟩ := I1.tuple hq
    exact wpAny_pyIter_tuple (show s1.heap.IsTuple a its.toArray from p) ⟨_, _, _, _, H1, rfl, kept _, turn_tuple a _, ⟨_, Heap.get?_push_size _ rfl, rfl, rfl⟩, fresh, q⟩

/-- zip of the list at a and the tuple at b -/
def ItzM (K : PySem.W.Frag) (a b : Addr) : It where
  go i H := ∃ (xs ys : List V) (x y : V), SqL K H a xs ∧ SqT K H b ys ∧ xs[i]? = some x ∧ ys[i]? = some y
  yld i H v H' := ∃ T x y, v = .ref T ∧ H T = none ∧ H' = upd H T (.tup [x, y]) ∧ (∀ xs, SqL K H a xs → xs[i]? = some x) ∧ ∀ ys, SqT K H b ys → ys[i]? = some y
  stop i H := ∃ xs ys : List V, SqL K H a xs ∧ SqT K H b ys ∧ xs.length = ys.length ∧ xs.length = i

theorem turn_zipM {P : Program} {w : World} {K : PySem.W.Frag} {elts : List Expr} {kk : Nat} {tpos : Pos} {a b N : Nat} (ha : a < N) (hb : b < N) :
    Turn P w K (.Tuple elts kk tpos) (ItzM K a b) [N + 4, N + 2, N + 3, N, N + 1] (N + 4)
      (fun i h => IsZip h (N + 4) (N + 2) (N + 3) .none ∧ IsTupOf2 h (N + 2) (.ref N) (.ref (N + 1)) ∧ (∃ x y, IsTupOf2 h (N + 3) x y) ∧ h.IsListIter N a i ∧ h.IsTupleIter (N + 1) b i) := by
  have sep : ZipSep2 (N + 4) (N + 2) (N + 3) N (N + 1) [N, a] [N + 1, b] := zip_sep2 (N := N) (fp1 := [a]) (fp2 := [b]) (by intro c hc; rw [List.mem_singleton] at hc; rw [hc]; exact ha) (by intro c hc; rw [List.mem_singleton] at hc; rw [hc]; exact hb)
  have five : ∀ {c : Nat}, c ∈ [N + 4, N + 2, N + 3, N, N + 1] → c = N + 4 ∨ c = N + 2 ∨ c = N + 3 ∨ c = N ∨ c = N + 1 := by
    intro c hc
    simpa using hc
  constructor
  case mem => simp
  case obj =>
    rintro i h ⟨h1, h2, ⟨x, y, h3⟩, ⟨o4, e4, _, d4⟩, ⟨o5, e5, _, d5⟩⟩ c hc
    rcases five hc with rfl | rfl | rfl | rfl | rfl
    · exact ⟨_, h1, fun v q => nomatch q⟩
    · exact ⟨_, h2, fun v q => nomatch q⟩
    · exact ⟨_, h3, fun v q => nomatch q⟩
    · refine ⟨o4, e4, fun v q => ?_⟩
      rw [d4] at q
      cases q
    · refine ⟨o5, e5, fun v q => ?_⟩
      rw [d5] at q
      cases q
  case keep =>
    rintro i h h' ⟨h1, h2, ⟨x, y, h3⟩, h4, h5⟩ k
    exact ⟨k _ (by simp) _ h1, k _ (by simp) _ h2, ⟨x, y, k _ (by simp) _ h3⟩, h4.at fun o e => k _ (by simp) o e, h5.at fun o e => k _ (by simp) o e⟩
  case item =>
    rintro X rfl rfl rfl hc i pins s σ H E I hf ⟨h1, h2, ⟨x0, y0, h3⟩, h4, h5⟩ ⟨xs, ys, x, y, qx, qy, gx, gy⟩
    obtain ⟨us, ru, pu, _⟩ := I.list qx
    obtain ⟨ws, rw', pw', _⟩ := I.tuple qy
    obtain ⟨u, eu, ru1⟩ := ru.get gx
    obtain ⟨v, ev, rv1⟩ := rw'.get gy
    have hlt1 : i < us.toArray.size := by
      have := (List.getElem?_eq_some_iff.mp eu).1
      simpa using this
    have hlt2 : i < ws.toArray.size := by
      have := (List.getElem?_eq_some_iff.mp ev).1
      simpa using this
    have hh : X.A.in1.handled = none := I.ok.hd hc
    refine wpAny_pyNext_zipD2_item sep (.list hh N a (ne_ad (by omega)) us.toArray) (.tuple hh (N + 1) b (ne_ad (by omega)) ws.toArray) h1 h2 h3 ⟨h4, pu.isList⟩ ⟨h5, pw'⟩ hlt1 hlt2 ?_
    intro x1 x2 g tk e1 e2 g1 g3 g4 g5 gT _ gk
    have e1' : x1 = u := by
      have : us.toArray[i]? = some x1 := e1
      rw [List.getElem?_toArray, eu] at this
      exact (Option.some.inj this).symm
    have e2' : x2 = v := by
      have : ws.toArray[i]? = some x2 := e2
      rw [List.getElem?_toArray, ev] at this
      exact (Option.some.inj this).symm
    subst e1' e2'
    have big : N + 4 < (s.heap.objs.size : Nat) := Heap.lt_size h1
    refine ⟨_, rfl, wpAny_letOwnedTupleGo_zip (s := { s with heap := g, toks := tk }) g1 ?_⟩
    intro g' z' sb
    have gTT : g'.get? s.heap.objs.size = some { cls := .type "tuple", data := .seq #[x1, x2] } := (sb.2 _ (Nat.ne_of_gt big)).trans gT
    have new : ObjOk X.prog X.w (upd H s.heap.objs.size (.tup [x, y])) g' s.heap.objs.size (.tup [x, y]) :=
      ⟨by show 2 ≤ sizeLine; decide, [x1, x2], .cons ru1 (.cons rv1 .nil), ⟨_, gTT, rfl, _, rfl⟩⟩
    have out : ∀ c o, c ∉ [N + 4, N + 2, N + 3, N, N + 1] → s.heap.get? c = some o → g'.get? c = some o := by
      intro c o hc e
      have n4 : c ≠ N + 4 := fun q => hc (by simp [q])
      exact (sb.2 c n4).trans (gk c o n4 (fun q => hc (by simp [q])) (fun q => hc (by simp [q])) (fun q => hc (by simp [q])) e)
    refine ⟨.ref s.heap.objs.size, _, I.turnedNew (t' := tk) out hf (Nat.le_refl _) new, rfl, ⟨_, x, y, rfl, I.hok.fresh (Nat.le_refl _), rfl, ?_, ?_⟩, ⟨z', ?_, ⟨x1, x2, ?_⟩, ?_, ?_⟩, ?_⟩
    · intro l hl
      rw [I.list_inj hl qx]
      exact gx
    · intro l hl
      rw [I.tuple_inj hl qy]
      exact gy
    · exact (sb.2 (N + 2) (ne_ad (by omega))).trans (gk (N + 2) _ (ne_ad (by omega)) (ne_ad (by omega)) (ne_ad (by omega)) (ne_ad (by omega)) h2)
    · exact (sb.2 (N + 3) (ne_ad (by omega))).trans g3
    · exact g4.1.at fun o q => (sb.2 N (ne_ad (by omega))).trans q
    · exact g5.1.at fun o q => (sb.2 (N + 1) (ne_ad (by omega))).trans q
    · intro c hcm
      have cl : c ≤ N + 4 := by
        rcases five hcm with e | e | e | e | e <;> rw [e]
        · exact Nat.le_refl _
        · exact Nat.add_le_add_left (by decide) N
        · exact Nat.add_le_add_left (by decide) N
        · exact Nat.le_add_right N 4
        · exact Nat.add_le_add_left (by decide) N
      have : c < s.heap.objs.size := Nat.lt_of_le_of_lt cl big
      rw [upd_ne (Nat.ne_of_lt this)]
      exact (hf c hcm).1
  case done =>
    rintro X rfl rfl rfl hc i pins s σ H E I hf ⟨h1, h2, ⟨x0, y0, h3⟩, h4, h5⟩ ⟨xs, ys, qx, qy, hlen, rfl⟩
    obtain ⟨us, ru, pu, _⟩ := I.list qx
    obtain ⟨ws, rw', pw', _⟩ := I.tuple qy
    have n1 : xs.length = us.toArray.size := by rw [List.size_toArray]; exact ru.length
    have n2 : xs.length = ws.toArray.size := by rw [List.size_toArray, hlen]; exact rw'.length
    have hh : X.A.in1.handled = none := I.ok.hd hc
    refine wpAny_pyNext_zipD2_end sep (.list hh N a (ne_ad (by omega)) us.toArray) (.tuple hh (N + 1) b (ne_ad (by omega)) ws.toArray) h1 h2 h3 ⟨h4, pu.isList⟩ ⟨h5, pw'⟩ (Nat.le_of_eq n1) (Nat.le_of_eq n2) (.inl n1) ?_
    intro g tk gk
    refine ⟨rfl, I.turnedL (t' := tk) (ch := [N + 4, N + 2, N + 3, N, N + 1]) ?_ hf⟩
    intro c o hc e
    exact gk c o (fun q => hc (by simp [q])) (fun q => hc (by simp [q])) (fun q => hc (by simp [q])) (fun q => hc (by simp [q])) e
  case self =>
    intro A i s Q E st h
    exact wpAny_pyIter_zip st.1 h

/-- zip of a list and of a list or a tuple -/
def iZip2 (K : PySem.W.Frag) (ta : TA) : TI := fun σ H R => ta σ H fun vs H1 =>
  ∃ a b xs ys, vs = [.ref a, .ref b] ∧ SqL K H1 a xs ∧ ((SqL K H1 b ys ∧ R (Itz K a b) H1) ∨ (SqT K H1 b ys ∧ R (ItzM K a b) H1))
theorem pi_zip2 {e e2 : Expr} {ta : TA} {p pos tpos : Pos} {elts : List Expr} {kk : Nat} (hg : Gl X "zip") (hm : X.mg "zip" = none) (ha : PA X [e, e2] ta)
    (hs : starEach [e, e2] X.env = (false, eval e X.env) :: starEach [e2] X.env := by rfl) (hpl : (backTo pos (starEach [e2] X.env)).any (·.1) = false := by rfl) :
    PI X (.Tuple elts kk tpos) (.Call (.Name "zip" p) [e, e2] [] pos) (iZip2 X.K ta) := by
  constructor
  intro pins s σ H R I h
  refine Call_ (ld_blt I hg hm PyProof.Rows.boot_zip (PyProof.Rows.callWith_type1 (thn (ha.run pos pins s σ H _ I h) ?_) hs hpl))
  rintro us s1 ⟨vs, H1, I1, r1, a, b, xs, ys, rfl, qx, q⟩
  obtain ⟨u1, u2, rfl, k1, k2⟩ := vals2 r1
  cases k1
  cases k2
  generalize hN : s1.heap.objs.size = N
  have fresh : ∀ c ∈ [N + 4, N + 2, N + 3, N, N + 1], FpOk X pins H1 c := by
    intro c hc
    have : s1.heap.objs.size ≤ c := by
      rw [hN]
      have e : c = N + 4 ∨ c = N + 2 ∨ c = N + 3 ∨ c = N ∨ c = N + 1 := by simpa using hc
      rcases e with e | e | e | e | e <;> rw [e]
      · exact Nat.le_add_right N 4
      · exact Nat.le_add_right N 2
      · exact Nat.le_add_right N 3
      · exact Nat.le_refl N
      · exact Nat.le_add_right N 1
    exact I1.fpOk this (I1.hok.fresh this)
  obtain ⟨us, ru, pu, _⟩ := I1.list qx
  rcases q with ⟨qy, q⟩ | ⟨qy, q⟩
  · obtain ⟨ws, rw', pw', _⟩ := I1.list qy
    refine call_zip_2 pu.isList pw'.isList ?_
    rw [hN]
    intro g hz hTI hTO h1 h2 hsz hk
    refine wpAny_pyIter_zip hz ⟨N + 4, _, _, _, H1, rfl, I1.kept (t' := s1.toks) hk, turn_zip (PySem.W.ktu_apart N a b (hN ▸ pu.lt) (hN ▸ pw'.lt)), ⟨hz, hTI, ⟨_, _, hTO⟩, h1, h2⟩, fresh, q⟩
  · obtain ⟨ws, rw', pw', _⟩ := I1.tuple qy
    refine zip_begins2 (begins_list a us.toArray) (begins_tuple b ws.toArray) pu.isList pw' ?_
    rw [hN]
    intro g hz hTI hTO h1 h2 hsz hk
    have lb : b < N := by
      obtain ⟨o, ho, _⟩ := pw'
      rw [← hN]
      exact Heap.lt_size ho
    refine wpAny_pyIter_zip hz ⟨N + 4, _, _, _, H1, rfl, I1.kept (t' := s1.toks) hk, turn_zipM (hN ▸ pu.lt) lb, ⟨hz, hTI, ⟨_, _, hTO⟩, ⟨_, h1, rfl, rfl⟩, ⟨_, h2, rfl, rfl⟩⟩, fresh, q⟩
end
section
variable {K : PySem.W.Frag} {a b : Addr} {xs ys : List V}
theorem walk_zipM (h : xs.length = ys.length) : Walk (ItzM K a b) xs.length (fun H => SqL K H a xs ∧ SqT K H b ys) (YPair (fun i => xs[i]?) (fun i => ys[i]?)) := by
  refine ⟨fun i H hi q => ?_, fun H q => ⟨xs, ys, q.1, q.2, h, rfl⟩, fun i H v H' hi q y => ?_⟩
  · exact ⟨xs, ys, xs[i], ys[i], q.1, q.2, List.getElem?_eq_getElem hi, List.getElem?_eq_getElem (h ▸ hi)⟩
  · obtain ⟨T, x, z, rfl, h1, rfl, h2, h3⟩ := y
    exact ⟨T, x, z, rfl, h1, rfl, h2 _ q.1, h3 _ q.2⟩
end
end N18
end
section
set_option Elab.async false
set_option linter.all false
set_option maxRecDepth 100000
set_option maxHeartbeats 4000000
namespace N18
open PySem PySem.Spec PyProof.Rows L2 TL
/-! ### masks -/
def pm (ms : List Nat) (row : Nat) (ps : List Nat) : Nat := K18.orAll ((ps.filter fun p => row.testBit p).map fun p => ms.getD p 0)
theorem orAll_snoc (l : List Nat) (x : Nat) : K18.orAll (l ++ [x]) = K18.orAll l ||| x := by
  induction l with
  | nil => show x ||| 0 = 0 ||| x; rw [Nat.or_comm]
  | cons a l ih => show a ||| K18.orAll (l ++ [x]) = a ||| K18.orAll l ||| x; rw [ih, Nat.or_assoc]
theorem pm_yes {ms : List Nat} {row : Nat} {ps : List Nat} {p : Nat} (h : row.testBit p = true) : pm ms row (ps ++ [p]) = pm ms row ps ||| ms.getD p 0 := by
  unfold pm
  rw [List.filter_append, List.map_append, List.filter_cons, h]
  exact orAll_snoc _ _
theorem pm_no {ms : List Nat} {row : Nat} {ps : List Nat} {p : Nat} (h : row.testBit p = false) : pm ms row (ps ++ [p]) = pm ms row ps := by
  unfold pm
  rw [List.filter_append, List.filter_cons, h]
  show K18.orAll (List.map _ (_ ++ [])) = _
  rw [List.append_nil]
theorem and_pow_pos (m p : Nat) : 0 < m &&& 2 ^ p ↔ m.testBit p = true := by
  constructor
  · intro h
    apply Classical.byContradiction
    intro hn
    have : m &&& 2 ^ p = 0 := by
      refine Nat.eq_of_testBit_eq fun q => ?_
      rw [Nat.testBit_and, Nat.testBit_two_pow, Nat.zero_testBit]
      by_cases e : p = q
      · subst e
        rw [Bool.not_eq_true] at hn
        rw [hn, Bool.false_and]
      · simp [e]
    omega
  · intro h
    apply Nat.pos_of_ne_zero
    intro e
    have : (m &&& 2 ^ p).testBit p = (0 : Nat).testBit p := by rw [e]
    rw [Nat.testBit_and, h, Nat.testBit_two_pow, Nat.zero_testBit] at this
    simp at this
theorem bit_gt (m p : Nat) : decide ((0 : Int) < Builtin.bitAnd (m : Int) ((2 ^ p : Nat) : Int)) = m.testBit p := by
  rw [bitAnd_pp (Int.natCast_nonneg _) (Int.natCast_nonneg _), Int.toNat_natCast, Int.toNat_natCast, Bool.eq_iff_iff, decide_eq_true_eq, ← and_pow_pos]
  omega
theorem bit_or (m p : Nat) : Builtin.bitOr (m : Int) (p : Int) = ((m ||| p : Nat) : Int) := by
  rw [Bits.bitOr_pp (Int.natCast_nonneg _) (Int.natCast_nonneg _), Int.toNat_natCast, Int.toNat_natCast]
theorem bits_get {I : Inst} {p : Nat} (h : p < I.n) : (I.bits.map V.int)[p]? = some (.int ((2 ^ p : Nat) : Int)) := by
  unfold Inst.bits
  rw [List.map_map, List.getElem?_map, List.getElem?_range h]
  rfl
theorem bits_len (I : Inst) : (I.bits.map V.int).length = I.n := by
  unfold Inst.bits
  rw [List.length_map, List.length_map, List.length_range]
theorem nv_get {ms : List Nat} {p : Nat} (h : p < ms.length) : (ms.map nV)[p]? = some (nV (ms.getD p 0)) := by
  rw [List.getElem?_map, List.getElem?_eq_getElem h, List.getD_eq_getElem?_getD, List.getElem?_eq_getElem h]
  rfl
/-- a place of the letter x lies in the wish -/
theorem place_lt {I : Inst} (ok : I.Ok) {x : Nat} (hx : x < I.k) {j p : Nat} (h : (K18.places I.s x)[j]? = some p) : p < I.n := by
  obtain ⟨j', hj, rfl⟩ := K18.places_mem.mp (List.mem_of_getElem? h)
  have : (x + 1) * I.s ≤ I.k * I.s := Nat.mul_le_mul_right _ hx
  have e : (x + 1) * I.s = x * I.s + I.s := Nat.succ_mul _ _
  show x * I.s + j' < I.k * I.s
  omega
theorem places_len (s x : Nat) : (K18.places s x).length = s := by
  unfold K18.places
  rw [List.length_map, List.length_range]
/-- the list of a letter's places, in the dict -/
theorem places_val {gl : List Nat} {pl : List Addr} (hn : gl.Nodup) {x c : Nat} {a : Addr} (h1 : gl[x]? = some c) (h2 : pl[x]? = some a) :
    valV ((gl.zip pl).map fun c => ((Sum.inr (tx [c.1]) : Key), V.ref c.2)) (Sum.inr (tx [c])) = some (V.ref a) := by
  induction gl generalizing pl x with
  | nil => simp at h1
  | cons g gl ih =>
    cases pl with
    | nil => simp at h2
    | cons b pl =>
      rw [List.nodup_cons] at hn
      cases x with
      | zero =>
        have e1 : g = c := Option.some.inj h1
        have e2 : b = a := Option.some.inj h2
        subst e1 e2
        exact valV_pos (p := ((Sum.inr (tx [g]) : Key), V.ref b)) rfl
      | succ x =>
        have h1' : gl[x]? = some c := h1
        have ne : ¬ (Sum.inr (tx [g]) : Key) = Sum.inr (tx [c]) := by
          intro e
          have e := tx_inj (Sum.inr.inj e)
          injection e with e _
          exact hn.1 (e ▸ List.mem_of_getElem? h1')
        show valV (((Sum.inr (tx [g]) : Key), V.ref b) :: _) _ = _
        rw [valV_neg ne]
        exact ih hn.2 h1' h2
theorem take_snoc {α : Type} {l : List α} {i : Nat} {a : α} (h : l[i]? = some a) : l.take (i + 1) = l.take i ++ [a] := by
  rw [List.take_add_one, h]
  rfl
theorem _root_.L2.Same.put {H H' : Hp} {a : Addr} {o : HO} (s : Same H H') (h : H a = none) : Same H (upd H' a o) := fun b x e => by
  rw [upd_ne (ne_of_none e h)]
  exact s _ _ e
theorem _root_.L2.Same.sqT {K : PySem.W.Frag} {H H' : Hp} {a : Addr} {xs : List V} (s : Same H H') (h : H a = some (.tup xs)) : SqT K H' a xs := SqT.of (s _ _ h)
section
variable {P : Program} {w : World} {K : PySem.W.Frag} {mg : Str → Option Value} {base : Heap}
/-! ### crossed -/
def spCrossed (K : PySem.W.Frag) (C : Addr) : Sp := fun vs H Q _ => ∃ (p : Addr) (I : Inst) (cl : V) (ra : Addr) (rs : List Nat) (x c : Nat) (ma : Addr) (ms : List Nat),
  vs = [.ref p, .ref ra, .str (tx [c]), .ref ma] ∧ I.Ok ∧ WishAt C H p I cl ∧ I.gl[x]? = some c ∧ Sq K H ra (rs.map nV) ∧ rs.length ≤ 6 ∧ Sq K H ma (ms.map nV) ∧ ms.length = I.n ∧
  ∀ H' t, Same H H' → H t = none → H' t = some (.tup ((rs.map (K18.st ms I.s x)).map nV)) → Q (.ref t) H'
theorem scCrossed : FnScope ["wish", "rows", "letter", "more", "places", "found", "row", "mask", "place"] ["wish", "rows", "letter", "more"] (defScope sCrossed) := ⟨rfl, rfl, rfl, by decide +kernel, rfl, by decide +kernel, by decide +kernel⟩
theorem ok_crossed {C f : Addr} {fd : FuncData} (F : Fun K "crossed" "crossed" sCrossed f fd) (T : WTxt K C) (B : Bt mg) : FnOk P w K mg base CX0 1 f fd ["wish", "rows", "letter", "more"] (spCrossed K C) := by
  refine F.ok scCrossed (fun vs H Q E h => ?_) (fun cdv A outer s H vs Q E hr h => ?_)
  · obtain ⟨p, I, cl, ra, rs, x, c, ma, ms, rfl, _⟩ := h
    rfl
  · obtain ⟨p, I, cl, ra, rs, x, c, ma, ms, rfl, ok, ⟨dx, fs, ca, ia, pa, ba, wa, pl, hp, Fl, Pt⟩, hx, hra, hrl, hma, hml, q⟩ := h
    have hu := hu_of hr
    have hxk : x < I.k := by
      rw [← ok.gk]
      exact (List.getElem?_eq_some_iff.mp hx).1
    obtain ⟨la, hla⟩ : ∃ la, pl[x]? = some la := ⟨pl[x]'(by rw [Pt.pll]; exact hxk), List.getElem?_eq_getElem _⟩
    have hlv := Pt.plv x la hla
    refine ⟨_, pss_cons (ps_set (i := 4) scCrossed.nd rfl (.inl rfl) (pe_dget hu (pe_fld (pv 0) rfl) (pv 2) (fun _ _ => rfl)))
      (pss_cons (ps_set (i := 5) scCrossed.nd rfl (.inl rfl) (pe_lst pa_nil))
      (pss_cons (ps_for PassesOwn.never rfl (pi_seq (pv 1)) (pg_name (i := 6) scCrossed.nd rfl (.inl rfl))
        (pss_cons (ps_set (i := 7) scCrossed.nd rfl (.inl rfl) pe_int)
        (pss_cons (ps_for PassesOwn.never rfl (pi_list (pv 4)) (pg_name (i := 8) scCrossed.nd rfl (.inl rfl))
          (pss_one (ps_if (pt_cmpR op_gt (pe_op op_and (pv 6) (pe_ix ix_list (pe_fld (pv 0) rfl) (pv 8) (fun _ _ => rfl))) pe_int (nomark _))
            (pss_one (ps_set (i := 7) scCrossed.nd rfl (.inl rfl) (pe_op op_or (pv 7) (pe_ix ix_seq (pv 3) (pv 8) (fun _ _ => rfl))))) pss_nil)))
        (pss_one (ps_expr (pe_bm PySem.F.plainAttrs_list PySem.F.slot_list_append PySem.F.type_list_append mt_append (pv 5) (pa_cons (pv 7) pa_nil)))))))
      (pss_one (ps_ret (pe_callTy call_tuple_of (by rfl) B.tuple (by decide +kernel) (pa_cons (pv 5) pa_nil)))))), ?_⟩
    -- places = wish.kept_places[letter]; found = []
    refine ⟨_, rfl, p, C, dx, _, _, rfl, hp, T.cl, T.nP, Fl.places, _, rfl, pa, .ref la, rfl, ?_, Nat.zero_le _, fun fa hfa => ?_⟩
    · have := DGet.k (k := (Sum.inr (tx [c]) : Key)) Pt.places
      rw [places_val ok.gn hx hla] at this
      exact this
    have s1 : Same H (upd H fa (.lst [])) := same_upd hfa
    -- for row in rows
    refine ⟨_, rfl, ra, rfl, ?_⟩
    rcases hra with h | h
    all_goals
      first
      | refine .inl ⟨⟨_, s1.seq (SqL.of h)⟩, for_it (walk_list (xs := rs.map nV)) (fun i σ H' => ∃ y6 y7 y8, σ = [some (.ref p), some (.ref ra), some (.str (tx [c])), some (.ref ma), some (.ref la), some (.ref fa), y6, y7, y8] ∧
          Same H H' ∧ H' fa = some (.lst (((rs.take i).map (K18.st ms I.s x)).map nV))) ⟨none, none, none, rfl, s1, upd_same⟩ ?_ ?_ ?_⟩
      | refine .inr ⟨⟨_, s1.sqT h⟩, for_it (walk_tup (xs := rs.map nV)) (fun i σ H' => ∃ y6 y7 y8, σ = [some (.ref p), some (.ref ra), some (.str (tx [c])), some (.ref ma), some (.ref la), some (.ref fa), y6, y7, y8] ∧
          Same H H' ∧ H' fa = some (.lst (((rs.take i).map (K18.st ms I.s x)).map nV))) ⟨none, none, none, rfl, s1, upd_same⟩ ?_ ?_ ?_⟩
      · rintro i σ H' hi ⟨y6, y7, y8, rfl, s2, hf⟩
        first
        | exact s2.seq (SqL.of h)
        | exact s2.sqT h
      · rintro i v σ H1 H2 hi ⟨y6, y7, y8, rfl, s2, hf⟩ ⟨rfl, hv⟩
        rw [List.length_map] at hi
        rw [List.getElem?_map, List.getElem?_eq_getElem hi] at hv
        have hv : nV rs[i] = v := Option.some.inj hv
        subst hv
        -- mask = 0; for place in places
        refine ⟨_, rfl, la, rfl, ⟨_, s2.seq (SqL.of hlv)⟩, for_it (walk_list (xs := I.placeVs x)) (fun j σ H' => ∃ y8, σ = [some (.ref p), some (.ref ra), some (.str (tx [c])), some (.ref ma), some (.ref la), some (.ref fa), some (nV rs[i]), some (nV (pm ms rs[i] ((K18.places I.s x).take j))), y8] ∧ H' = H2)
          ⟨y8, rfl, rfl⟩ ?_ ?_ ?_⟩
        · rintro j σ H' _ ⟨y8, rfl, rfl⟩
          exact s2.seq (SqL.of hlv)
        · rintro j v σ H3 H4 hj ⟨y8, rfl, rfl⟩ ⟨rfl, hv⟩
          unfold Inst.placeVs at hv hj
          rw [List.length_map] at hj
          rw [List.getElem?_map] at hv
          obtain ⟨pc, hpc, rfl⟩ : ∃ pc, (K18.places I.s x)[j]? = some pc ∧ v = nV pc := by
            rw [List.getElem?_eq_getElem hj] at hv
            exact ⟨_, List.getElem?_eq_getElem hj, (Option.some.inj hv).symm⟩
          have hpn : pc < I.n := place_lt ok hxk hpc
          refine ⟨_, rfl, _, rfl, p, C, dx, _, _, rfl, s2 _ _ hp, T.cl, T.nB, Fl.bits, _, rfl, ba, _, _, _, rfl, rfl, SqL.of (s2 _ _ Pt.bits), atI_nat (bits_get hpn), _, _, rfl, rfl, _, _, rfl, rfl, _, rfl, ?_⟩
          show (if decide ((0 : Int) < Builtin.bitAnd ((rs[i] : Nat) : Int) ((2 ^ pc : Nat) : Int)) = true then _ else _)
          rw [bit_gt]
          cases hb : rs[i].testBit pc with
          | true =>
            refine iteT ?_
            have fin : ∀ (v' : V), v' = nV (pm ms rs[i] ((K18.places I.s x).take (j + 1))) → ∃ y8, [some (.ref p), some (.ref ra), some (.str (tx [c])), some (.ref ma), some (.ref la), some (.ref fa), some (nV rs[i]), some v', some (nV pc)] = [some (.ref p), some (.ref ra), some (.str (tx [c])), some (.ref ma), some (.ref la), some (.ref fa), some (nV rs[i]), some (nV (pm ms rs[i] ((K18.places I.s x).take (j + 1)))), y8] ∧ H4 = H4 := fun v' e => ⟨some (nV pc), by rw [e], rfl⟩
            have em : V.int (Builtin.bitOr ((pm ms rs[i] ((K18.places I.s x).take j) : Nat) : Int) ((ms.getD pc 0 : Nat) : Int)) = nV (pm ms rs[i] ((K18.places I.s x).take (j + 1))) := by
              rw [bit_or, take_snoc hpc, pm_yes hb]
              rfl
            rcases hma with hm | hm
            · exact ⟨_, rfl, _, rfl, _, rfl, .inl ⟨ma, _, _, _, rfl, rfl, s2.seq (SqL.of hm), atI_nat (nv_get (by rw [hml]; exact hpn)), _, _, rfl, rfl, fin _ em⟩⟩
            · exact ⟨_, rfl, _, rfl, _, rfl, .inr (.inl ⟨ma, _, _, _, rfl, rfl, s2.sqT hm, atI_nat (nv_get (by rw [hml]; exact hpn)), _, _, rfl, rfl, fin _ em⟩)⟩
          | false =>
            refine iteF ⟨some (nV pc), ?_, rfl⟩
            rw [take_snoc hpc, pm_no hb]
            rfl
        · rintro σ H3 ⟨y8, rfl, rfl⟩
          -- found.append(mask)
          refine ⟨_, rfl, .inl ⟨rfl, _, SqL.of hf⟩, _, rfl, fa, _, _, rfl, rfl, hf, ?_, ?_⟩
          · rw [List.length_map, List.length_map, List.length_take]
            exact small1000 (by omega)
          · refine ⟨_, _, _, rfl, s2.put hfa, ?_⟩
            rw [upd_same, take_snoc (List.getElem?_eq_getElem hi), List.map_append, List.map_append]
            unfold Inst.placeVs
            rw [List.length_map, List.take_length]
            rfl
      · rintro σ H1 ⟨y6, y7, y8, rfl, s2, hf⟩
        rw [List.length_map, List.take_length] at hf
        refine ⟨_, rfl, _, _, rfl, .inl ⟨SqL.of hf, fun t ht => ?_⟩⟩
        exact q _ t (s2.trans (same_upd ht)) (s2.free ht) upd_same
end
end N18
end
section
set_option Elab.async false
set_option linter.all false
set_option maxRecDepth 100000
set_option maxHeartbeats 4000000
namespace N18
open PySem PySem.Spec PyProof.Rows L2 TL
/-! ### the table as pairs of cells -/
def rowTo (I : Inst) (c : List Nat) (m j : Nat) : List (List Nat) := ((List.range j).filter fun q => m.testBit q).map fun q => c ++ I.cells.getD q []
def tabTo (I : Inst) (rs : List Nat) (i : Nat) : List (List Nat) := (List.range i).flatMap fun p => rowTo I (I.cells.getD p []) (rs.getD p 0) I.n
def tabL (I : Inst) (rs : List Nat) : List (List Nat) := tabTo I rs rs.length
def tabS (I : Inst) (rs : List Nat) : List Str := (tabL I rs).map tx
theorem rowTo_yes {I : Inst} {c : List Nat} {m j : Nat} (h : m.testBit j = true) : rowTo I c m (j + 1) = rowTo I c m j ++ [c ++ I.cells.getD j []] := by
  unfold rowTo
  rw [List.range_succ, List.filter_append, List.map_append, List.filter_cons, h]
  rfl
theorem rowTo_no {I : Inst} {c : List Nat} {m j : Nat} (h : m.testBit j = false) : rowTo I c m (j + 1) = rowTo I c m j := by
  unfold rowTo
  rw [List.range_succ, List.filter_append, List.filter_cons, h]
  show List.map _ (_ ++ []) = _
  rw [List.append_nil]
theorem rowTo_len (I : Inst) (c : List Nat) (m j : Nat) : (rowTo I c m j).length ≤ j := by
  unfold rowTo
  rw [List.length_map]
  exact Nat.le_trans (List.length_filter_le _ _) (Nat.le_of_eq List.length_range)
theorem tabTo_succ (I : Inst) (rs : List Nat) (i : Nat) : tabTo I rs (i + 1) = tabTo I rs i ++ rowTo I (I.cells.getD i []) (rs.getD i 0) I.n := by
  unfold tabTo
  rw [List.range_succ, List.flatMap_append, List.flatMap_cons, List.flatMap_nil, List.append_nil]
theorem tabTo_len (I : Inst) (rs : List Nat) (i : Nat) : (tabTo I rs i).length ≤ i * I.n := by
  induction i with
  | zero => exact Nat.zero_le _
  | succ i ih =>
    rw [tabTo_succ, List.length_append, Nat.succ_mul]
    exact Nat.add_le_add ih (rowTo_len _ _ _ _)
theorem cellV_get {I : Inst} (ok : I.Ok) {i : Nat} (h : i < I.n) : (I.cellS.map V.str)[i]? = some (.str (tx (I.cells.getD i []))) := by
  unfold Inst.cellS
  rw [List.getElem?_map, List.getElem?_map, List.getD_eq_getElem?_getD, List.getElem?_eq_getElem (by rw [ok.clen]; exact h)]
  rfl
theorem cellV_len {I : Inst} (ok : I.Ok) : (I.cellS.map V.str).length = I.n := by
  unfold Inst.cellS
  rw [List.length_map, List.length_map, ok.clen]
theorem n_le {I : Inst} (ok : I.Ok) : I.n ≤ 6 := ok.n6
theorem nv_getI {ms : List Nat} {p : Nat} {v : V} (h : (ms.map nV)[p]? = some v) : p < ms.length ∧ v = nV (ms.getD p 0) := by
  have hp : p < ms.length := by
    have := (List.getElem?_eq_some_iff.mp h).1
    rwa [List.length_map] at this
  refine ⟨hp, ?_⟩
  rw [nv_get hp] at h
  exact (Option.some.inj h).symm
theorem cell_len2 {I : Inst} {i : Nat} (ok : I.Ok) (h : i < I.n) : (I.cells.getD i []).length = 2 := by
  rw [List.getD_eq_getElem?_getD, List.getElem?_eq_getElem (by rw [ok.clen]; exact h)]
  obtain ⟨g, _, d, _, e⟩ := I.cell2 (List.getElem_mem (l := I.cells) (by rw [ok.clen]; exact h))
  rw [Option.getD_some, e]
  rfl
section
variable {P : Program} {w : World} {K : PySem.W.Frag} {mg : Str → Option Value} {base : Heap}
/-! ### put_behind, put_ahead -/
def spPutBehind (K : PySem.W.Frag) (C : Addr) : Sp := fun vs H Q _ => ∃ (p : Addr) (I : Inst) (cl : V) (ra : Addr) (rs : List Nat) (x c : Nat),
  vs = [.ref p, .ref ra, .str (tx [c])] ∧ I.Ok ∧ WishAt C H p I cl ∧ I.gl[x]? = some c ∧ H ra = some (.tup (rs.map nV)) ∧ rs.length ≤ 6 ∧
  ∀ H' t, Same H H' → H t = none → H' t = some (.tup ((rs.map (K18.st I.A I.s x)).map nV)) → Q (.ref t) H'
theorem scPutBehind : FnScope ["wish", "rows", "letter"] ["wish", "rows", "letter"] (defScope sPutBehind) := ⟨rfl, rfl, rfl, by decide +kernel, rfl, by decide +kernel, by decide +kernel⟩
theorem ok_putBehind {C f : Addr} {fd : FuncData} (F : Fun K "put_behind" "put_behind" sPutBehind f fd) (T : WTxt K C) (c1 : Cal P w K mg base "crossed" 1 ["wish", "rows", "letter", "more"] (spCrossed K C)) : FnOk P w K mg base CX0 2 f fd ["wish", "rows", "letter"] (spPutBehind K C) := by
  obtain ⟨g, gd, G, mG, kG, bG⟩ := c1
  refine F.ok scPutBehind (fun vs H Q E h => ?_) (fun cdv A outer s H vs Q E hr h => ?_)
  · obtain ⟨p, I, cl, ra, rs, x, c, rfl, _⟩ := h
    rfl
  · obtain ⟨p, I, cl, ra, rs, x, c, rfl, ok, W, hx, hra, hl, q⟩ := h
    obtain ⟨dx, fs, ca, ia, pa, ba, wa, pl, hp, Fl, Pt⟩ := id W
    refine ⟨_, pss_one (ps_ret (pe_call G hr (by rfl) mG kG bG .nil pass0 (pa_cons (pv 0) (pa_cons (pv 1) (pa_cons (pv 2) (pa_cons (pe_fld (pv 0) rfl) pa_nil)))))), ?_⟩
    exact ⟨_, rfl, _, rfl, _, rfl, _, rfl, p, C, dx, _, _, rfl, hp, T.cl, T.nR, Fl.rows, p, I, cl, ra, rs, x, c, wa, I.A, rfl, ok, W, hx, .inr hra, hl, .inl Pt.rows, ok.al, q⟩
def spPutAhead (K : PySem.W.Frag) (C : Addr) : Sp := fun vs H Q _ => ∃ (p : Addr) (I : Inst) (cl : V) (ra : Addr) (rs : List Nat) (x c : Nat),
  vs = [.ref p, .str (tx [c]), .ref ra] ∧ I.Ok ∧ WishAt C H p I cl ∧ I.gl[x]? = some c ∧ H ra = some (.tup (rs.map nV)) ∧ rs.length = I.n ∧
  ∀ H' t, Same H H' → H t = none → H' t = some (.tup ((I.A.map (K18.st rs I.s x)).map nV)) → Q (.ref t) H'
theorem scPutAhead : FnScope ["wish", "letter", "rows"] ["wish", "letter", "rows"] (defScope sPutAhead) := ⟨rfl, rfl, rfl, by decide +kernel, rfl, by decide +kernel, by decide +kernel⟩
theorem ok_putAhead {C f : Addr} {fd : FuncData} (F : Fun K "put_ahead" "put_ahead" sPutAhead f fd) (T : WTxt K C) (c1 : Cal P w K mg base "crossed" 1 ["wish", "rows", "letter", "more"] (spCrossed K C)) : FnOk P w K mg base CX0 2 f fd ["wish", "letter", "rows"] (spPutAhead K C) := by
  obtain ⟨g, gd, G, mG, kG, bG⟩ := c1
  refine F.ok scPutAhead (fun vs H Q E h => ?_) (fun cdv A outer s H vs Q E hr h => ?_)
  · obtain ⟨p, I, cl, ra, rs, x, c, rfl, _⟩ := h
    rfl
  · obtain ⟨p, I, cl, ra, rs, x, c, rfl, ok, W, hx, hra, hl, q⟩ := h
    obtain ⟨dx, fs, ca, ia, pa, ba, wa, pl, hp, Fl, Pt⟩ := id W
    refine ⟨_, pss_one (ps_ret (pe_call G hr (by rfl) mG kG bG .nil pass0 (pa_cons (pv 0) (pa_cons (pe_fld (pv 0) rfl) (pa_cons (pv 1) (pa_cons (pv 2) pa_nil)))))), ?_⟩
    exact ⟨_, rfl, _, rfl, p, C, dx, _, _, rfl, hp, T.cl, T.nR, Fl.rows, _, rfl, _, rfl, p, I, cl, wa, I.A, x, c, ra, rs, rfl, ok, W, hx, .inl Pt.rows, by rw [ok.al]; exact ok.n6, .inr hra, hl, q⟩
/-! ### as_table -/
def spAsTable (K : PySem.W.Frag) (C : Addr) : Sp := fun vs H Q _ => ∃ (p : Addr) (I : Inst) (cl : V) (ra : Addr) (rs : List Nat),
  vs = [.ref p, .ref ra] ∧ I.Ok ∧ WishAt C H p I cl ∧ Sq K H ra (rs.map nV) ∧ rs.length = I.n ∧
  ∀ H' t, Same H H' → H t = none → H' t = some (.tup ((tabS I rs).map V.str)) → Q (.ref t) H'
theorem scAsTable : FnScope ["wish", "rows", "found", "one", "row", "other", "bit"] ["wish", "rows"] (defScope sAsTable) := ⟨rfl, rfl, rfl, by decide +kernel, rfl, by decide +kernel, by decide +kernel⟩
theorem ok_asTable {C f : Addr} {fd : FuncData} (F : Fun K "as_table" "as_table" sAsTable f fd) (T : WTxt K C) (B : Bt mg) : FnOk P w K mg base CX0 1 f fd ["wish", "rows"] (spAsTable K C) := by
  refine F.ok scAsTable (fun vs H Q E h => ?_) (fun cdv A outer s H vs Q E hr h => ?_)
  · obtain ⟨p, I, cl, ra, rs, rfl, _⟩ := h
    rfl
  · obtain ⟨p, I, cl, ra, rs, rfl, ok, ⟨dx, fs, ca, ia, pa, ba, wa, pl, hp, Fl, Pt⟩, hra, hrl, q⟩ := h
    have n6 := ok.n6
    have hn : I.n = I.k * I.s := rfl
    refine ⟨_, pss_cons (ps_set (i := 2) scAsTable.nd rfl (.inl rfl) (pe_lst pa_nil))
      (pss_cons (ps_for PassesOwn.never rfl (pi_zip2 (by rfl) B.zip (pa_cons (pe_fld (pv 0) rfl) (pa_cons (pv 1) pa_nil)))
          (pg_tup rfl (pgs_cons (pg_name (i := 3) scAsTable.nd rfl (.inl rfl)) (pgs_cons (pg_name (i := 4) scAsTable.nd rfl (.inl rfl)) pgs_nil)))
        (pss_one (ps_for PassesOwn.never rfl (pi_zip (by rfl) B.zip (pa_cons (pe_fld (pv 0) rfl) (pa_cons (pe_fld (pv 0) rfl) pa_nil)))
            (pg_tup rfl (pgs_cons (pg_name (i := 5) scAsTable.nd rfl (.inl rfl)) (pgs_cons (pg_name (i := 6) scAsTable.nd rfl (.inl rfl)) pgs_nil)))
          (pss_one (ps_if (pt_cmpR op_gt (pe_op op_and (pv 4) (pv 6)) pe_int (nomark _))
            (pss_one (ps_expr (pe_bm PySem.F.plainAttrs_list PySem.F.slot_list_append PySem.F.type_list_append mt_append (pv 2) (pa_cons (pe_op op_add_str (pv 3) (pv 5)) pa_nil)))) pss_nil)))))
      (pss_one (ps_ret (pe_callTy call_tuple_of (by rfl) B.tuple (by decide +kernel) (pa_cons (pv 2) pa_nil))))), ?_⟩
    refine ⟨Nat.zero_le _, fun fa hfa => ?_⟩
    have s1 : Same H (upd H fa (.lst [])) := same_upd hfa
    refine ⟨_, rfl, p, C, dx, _, _, rfl, s1 _ _ hp, T.cl, T.nC, Fl.cells, _, rfl, ca, ra, I.cellS.map V.str, rs.map nV, rfl, s1.seq (SqL.of Pt.cells), ?_⟩
    have hlen : (I.cellS.map V.str).length = (rs.map nV).length := by rw [cellV_len ok, List.length_map, hrl]
    rcases hra with h | h
    all_goals
      first
      | refine .inl ⟨s1.seq (SqL.of h), for_it (walk_zip (n := I.n) (xs := I.cellS.map V.str) (ys := rs.map nV) (by rw [← hlen, cellV_len ok, Nat.min_self])) (fun i σ H' => ∃ y3 y4 y5 y6, σ = [some (.ref p), some (.ref ra), some (.ref fa), y3, y4, y5, y6] ∧
          Same H H' ∧ H' fa = some (.lst (((tabTo I rs i).map tx).map V.str))) ⟨none, none, none, none, rfl, s1, upd_same⟩ ?_ ?_ ?_⟩
      | refine .inr ⟨s1.sqT h, for_it (walk_zipM (xs := I.cellS.map V.str) (ys := rs.map nV) hlen) (fun i σ H' => ∃ y3 y4 y5 y6, σ = [some (.ref p), some (.ref ra), some (.ref fa), y3, y4, y5, y6] ∧
          Same H H' ∧ H' fa = some (.lst (((tabTo I rs i).map tx).map V.str))) ⟨none, none, none, none, rfl, s1, upd_same⟩ ?_ ?_ ?_⟩
      · rintro i σ H' hi ⟨y3, y4, y5, y6, rfl, s2, hf⟩
        first
        | exact ⟨s2.seq (SqL.of Pt.cells), s2.seq (SqL.of h)⟩
        | exact ⟨s2.seq (SqL.of Pt.cells), s2.sqT h⟩
      · rintro i v σ H1 H2 hi ⟨y3, y4, y5, y6, rfl, s2, hf⟩ ⟨t, x1, x2, rfl, ht, rfl, g1, g2⟩
        have g1 : (I.cellS.map V.str)[i]? = some x1 := g1
        have g2 : (rs.map nV)[i]? = some x2 := g2
        obtain ⟨hi2, rfl⟩ := nv_getI g2
        have hin : i < I.n := by rw [← hrl]; exact hi2
        rw [cellV_get ok hin] at g1
        have g1 := Option.some.inj g1
        subst g1
        have s3 : Same H (upd H1 t (.tup [.str (tx (I.cells.getD i [])), nV (rs.getD i 0)])) := s2.trans (same_upd ht)
        refine ⟨t, [_, _], rfl, .inl (.inl upd_same), rfl, _, [_], rfl, _, [], rfl, rfl, ?_⟩
        refine ⟨_, rfl, p, C, dx, _, _, rfl, s3 _ _ hp, T.cl, T.nC, Fl.cells, _, rfl, p, C, dx, _, _, rfl, s3 _ _ hp, T.cl, T.nB, Fl.bits, ca, ba, _, _, rfl, s3.seq (SqL.of Pt.cells), s3.seq (SqL.of Pt.bits), ?_⟩
        refine for_it (walk_zip (n := I.n) (xs := I.cellS.map V.str) (ys := I.bits.map V.int) (by rw [cellV_len ok, bits_len, Nat.min_self])) (fun j σ H' => ∃ y5 y6, σ = [some (.ref p), some (.ref ra), some (.ref fa), some (.str (tx (I.cells.getD i []))), some (nV (rs.getD i 0)), y5, y6] ∧
          Same H H' ∧ H' fa = some (.lst (((tabTo I rs i ++ rowTo I (I.cells.getD i []) (rs.getD i 0) j).map tx).map V.str))) ⟨y5, y6, rfl, s3, ?_⟩ ?_ ?_ ?_
        · rw [upd_ne (ne_of_none hf ht), hf]
          show _ = some (HO.lst (((tabTo I rs i ++ []).map tx).map V.str))
          rw [List.append_nil]
        · rintro j σ H' _ ⟨z5, z6, rfl, s4, hf4⟩
          exact ⟨s4.seq (SqL.of Pt.cells), s4.seq (SqL.of Pt.bits)⟩
        · rintro j v σ H3 H4 hj ⟨z5, z6, rfl, s4, hf4⟩ ⟨t2, w1, w2, rfl, ht2, rfl, k1, k2⟩
          have k1 : (I.cellS.map V.str)[j]? = some w1 := k1
          have k2 : (I.bits.map V.int)[j]? = some w2 := k2
          rw [cellV_get ok hj] at k1
          rw [bits_get hj] at k2
          have k1 := Option.some.inj k1
          have k2 := Option.some.inj k2
          subst k1 k2
          have s5 : Same H (upd H3 t2 (.tup [.str (tx (I.cells.getD j [])), .int ((2 ^ j : Nat) : Int)])) := s4.trans (same_upd ht2)
          have hf5 : (upd H3 t2 (.tup [.str (tx (I.cells.getD j [])), .int ((2 ^ j : Nat) : Int)])) fa = some (.lst (((tabTo I rs i ++ rowTo I (I.cells.getD i []) (rs.getD i 0) j).map tx).map V.str)) := by rw [upd_ne (ne_of_none hf4 ht2), hf4]
          refine ⟨t2, [_, _], rfl, .inl (.inl upd_same), rfl, _, [_], rfl, _, [], rfl, rfl, ?_⟩
          refine ⟨_, rfl, _, rfl, _, _, rfl, rfl, _, _, rfl, rfl, _, rfl, ?_⟩
          show (if decide ((0 : Int) < Builtin.bitAnd ((rs.getD i 0 : Nat) : Int) ((2 ^ j : Nat) : Int)) = true then _ else _)
          rw [bit_gt]
          cases hb : (rs.getD i 0).testBit j with
          | true =>
            refine iteT ?_
            refine ⟨_, rfl, .inl ⟨rfl, _, SqL.of hf5⟩, _, rfl, _, rfl, _, _, rfl, rfl, ?_, fa, _, _, rfl, rfl, hf5, ?_, ?_⟩
            · rw [tx_len, tx_len, cell_len2 ok hin, cell_len2 ok hj]
              decide
            · rw [List.length_map, List.length_map, List.length_append]
              have h1 := tabTo_len I rs i
              have h2 := rowTo_len I (I.cells.getD i []) (rs.getD i 0) j
              have h3 : i * I.n ≤ 6 * 6 := Nat.mul_le_mul (by omega) (by omega)
              exact small1000 (by omega)
            · refine ⟨_, _, rfl, s5.put hfa, ?_⟩
              rw [upd_same, rowTo_yes hb, tx_app, ← List.append_assoc, List.map_append (l₁ := tabTo I rs i ++ _), List.map_append (f := V.str)]
              rfl
          | false =>
            refine iteF ⟨_, _, rfl, s5, ?_⟩
            rw [rowTo_no hb]
            exact hf5
        · rintro σ H3 ⟨z5, z6, rfl, s4, hf4⟩
          refine ⟨_, _, _, _, rfl, s4, ?_⟩
          rw [tabTo_succ]
          exact hf4
      · rintro σ H1 ⟨y3, y4, y5, y6, rfl, s2, hf⟩
        refine ⟨_, rfl, _, _, rfl, .inl ⟨SqL.of hf, fun t ht => ?_⟩⟩
        refine q _ t (s2.trans (same_upd ht)) (s2.free ht) ?_
        first
        | (rw [upd_same, ← hrl]; rfl)
        | (rw [upd_same, cellV_len ok, ← hrl]; rfl)
end
end N18
end
section
set_option Elab.async false
set_option linter.all false
set_option maxRecDepth 100000
set_option maxHeartbeats 4000000
/-! Data compared: texts of letters, ints, lists and tuples of them. -/
namespace N18
open PySem PySem.Spec PyProof.Rows L2 TL PySem.W
/-- data that may be compared: laid, not deep -/
structure Good {α : Type} [DecidableEq α] [Datum α] (a : α) : Prop where
  lay : (Datum.toD a).canLay0 = true
theorem Good.shaped {α : Type} [DecidableEq α] [Datum α] (hd : Datum.depth α ≤ 64) {a : α} (g : Good a) : SeqAt.shaped (Datum.toD a) = true := by
  show ((Datum.toD a).canLay0 && decide ((Datum.toD a).depth ≤ 64)) = true
  rw [g.lay, decide_eq_true (Nat.le_trans (Datum.depth_le a) hd)]
  rfl
theorem good_int (i : Int) : Good i := ⟨rfl⟩
theorem good_bool (b : Bool) : Good b := ⟨rfl⟩
theorem layAll {α : Type} [DecidableEq α] [Datum α] : ∀ {l : List α}, (∀ a ∈ l, Good a) → PyData.canLayAll0 (l.map Datum.toD) = true
  | [], _ => rfl
  | a :: l, h => by
    rw [List.map_cons, PyData.canLayAll0, (h a List.mem_cons_self).lay, layAll fun b hb => h b (List.mem_cons_of_mem _ hb)]
    rfl
theorem good_list {α : Type} [DecidableEq α] [Datum α] {l : List α} (h : ∀ a ∈ l, Good a) : Good l := ⟨by
  show (PyData.list (l.map Datum.toD)).canLay0 = true
  simp only [PyData.canLay0]
  exact layAll h⟩
theorem good_tup {α : Type} [DecidableEq α] [Datum α] {l : List α} (h : ∀ a ∈ l, Good a) : Good (Tup.mk l) := ⟨by
  show (PyData.tuple (l.map Datum.toD)).canLay0 = true
  simp only [PyData.canLay0]
  exact layAll h⟩
theorem good_tx {l : List Nat} (h : ∀ c ∈ l, c < 0x110000) : Good (tx l) := ⟨by
  show (tx l).cps.all (· < 0x110000) = true
  rw [Array.all_eq_true']
  intro c hc
  exact decide_eq_true (h c (by simpa [tx] using hc))⟩
section
variable {K : PySem.W.Frag} {H : Hp}
theorem dp_strs : ∀ (l : List Str), DpAll K H (l.map V.str) (l.map Datum.toD)
  | [] => .nil
  | x :: l => .cons (.str x) (dp_strs l)
theorem dp_ints : ∀ (l : List Int), DpAll K H (l.map V.int) (l.map Datum.toD)
  | [] => .nil
  | x :: l => .cons (.int x) (dp_ints l)
theorem dp_bools : ∀ (l : List Bool), DpAll K H (l.map V.bl) (l.map Datum.toD)
  | [] => .nil
  | x :: l => .cons (.bl x) (dp_bools l)
theorem dp_tupS {t : Addr} {l : List Str} (h : H t = some (.tup (l.map V.str))) : Dp K H (.ref t) (Datum.toD (Tup.mk l)) := .tup (SqT.of h) (dp_strs l)
theorem dp_lstI {t : Addr} {l : List Int} (h : H t = some (.lst (l.map V.int))) : Dp K H (.ref t) (Datum.toD l) := .lst (SqL.of h) (dp_ints l)
theorem dp_refs {α : Type} [DecidableEq α] [Datum α] : ∀ {ts : List Addr} {xs : List α}, Paired (fun t x => Dp K H (.ref t) (Datum.toD x)) ts xs → DpAll K H (ts.map V.ref) (xs.map Datum.toD)
  | _, _, .nil => .nil
  | _, _, .cons h r => .cons h (dp_refs r)
end
theorem any_eqv {α : Type} [DecidableEq α] [Datum α] (l : List α) (a : α) : ((l.map Datum.toD).any fun z => PyData.eqv z (Datum.toD a)) = decide (a ∈ l) := by
  induction l with
  | nil => simp
  | cons b l ih =>
    rw [List.map_cons, List.any_cons, Datum.eqv, ih, Bool.eq_iff_iff, Bool.or_eq_true, decide_eq_true_eq, decide_eq_true_eq, decide_eq_true_eq, List.mem_cons]
    exact ⟨fun h => h.elim (fun e => .inl e.symm) .inr, fun h => h.elim (fun e => .inl e.symm) .inr⟩

/-! ### the pairs of a table -/
def tabP (I : Inst) (rs : List Nat) : List (Nat × Nat) := (List.range rs.length).flatMap fun p => ((List.range I.n).filter fun q => (rs.getD p 0).testBit q).map fun q => (p, q)
def pairL (I : Inst) (x : Nat × Nat) : List Nat := I.cells.getD x.1 [] ++ I.cells.getD x.2 []
theorem tabL_pairs (I : Inst) (rs : List Nat) : tabL I rs = (tabP I rs).map (pairL I) := by
  unfold tabL tabTo tabP rowTo
  rw [List.map_flatMap]
  congr 1
  funext p
  rw [List.map_map]
  rfl
theorem tabP_mem {I : Inst} {rs : List Nat} {p q : Nat} : (p, q) ∈ tabP I rs ↔ p < rs.length ∧ q < I.n ∧ (rs.getD p 0).testBit q = true := by
  unfold tabP
  rw [List.mem_flatMap]
  constructor
  · rintro ⟨a, ha, h⟩
    obtain ⟨b, hb, e⟩ := List.mem_map.mp h
    rw [List.mem_filter, List.mem_range] at hb
    injection e with e1 e2
    subst e1 e2
    exact ⟨List.mem_range.mp ha, hb.1, hb.2⟩
  · rintro ⟨h1, h2, h3⟩
    exact ⟨p, List.mem_range.mpr h1, List.mem_map.mpr ⟨q, List.mem_filter.mpr ⟨List.mem_range.mpr h2, h3⟩, rfl⟩⟩
theorem cell_small {I : Inst} (ok : I.Ok) {i : Nat} : ∀ c ∈ I.cells.getD i [], c < 0x110000 := by
  intro c hc
  rw [List.getD_eq_getElem?_getD] at hc
  cases h : I.cells[i]? with
  | none =>
    rw [h] at hc
    simp at hc
  | some x =>
    rw [h] at hc
    obtain ⟨g, hg, d, hd, rfl⟩ := I.cell2 (List.mem_of_getElem? h)
    have h1 := ok.gs g hg
    have h2 := ok.ss d hd
    have : c = g ∨ c = d := by simpa using hc
    omega
theorem good_pair {I : Inst} (ok : I.Ok) (x : Nat × Nat) : Good (tx (pairL I x)) := good_tx fun c hc => by
  rcases List.mem_append.mp hc with h | h
  · exact cell_small ok c h
  · exact cell_small ok c h
theorem good_tab {I : Inst} (ok : I.Ok) (rs : List Nat) : Good (Tup.mk (tabS I rs)) := good_tup fun z hz => by
  unfold tabS at hz
  rw [tabL_pairs, List.map_map] at hz
  obtain ⟨x, _, rfl⟩ := List.mem_map.mp hz
  exact good_pair ok x
/-- the rows are told by the table -/
theorem tabS_inj {I : Inst} (ok : I.Ok) {rs rs' : List Nat} (h1 : rs.length = I.n) (h2 : rs'.length = I.n) (b1 : ∀ m ∈ rs, m < 2 ^ I.n) (b2 : ∀ m ∈ rs', m < 2 ^ I.n) (h : tabS I rs = tabS I rs') : rs = rs' := by
  have inj : ∀ x y : Nat × Nat, x ∈ tabP I rs → y ∈ tabP I rs' → tx (pairL I x) = tx (pairL I y) → x = y := by
    rintro ⟨a, b⟩ ⟨c, d⟩ hx hy e
    obtain ⟨l1, l2, _⟩ := tabP_mem.mp hx
    obtain ⟨l3, l4, _⟩ := tabP_mem.mp hy
    rw [h1] at l1
    rw [h2] at l3
    have e := tx_inj e
    obtain ⟨e1, e2⟩ := List.append_inj e (by rw [cell_len2 ok l1, cell_len2 ok l3])
    have get : ∀ i, i < I.n → I.cells[i]? = some (I.cells.getD i []) := by
      intro i hi
      rw [List.getD_eq_getElem?_getD, List.getElem?_eq_getElem (by rw [ok.clen]; exact hi)]
      rfl
    have q1 := nd_get ok.cnd (get a l1) ((get c l3).trans (by rw [e1]))
    have q2 := nd_get ok.cnd (get b l2) ((get d l4).trans (by rw [e2]))
    subst q1 q2
    rfl
  have sub : ∀ {r r' : List Nat}, tabS I r = tabS I r' → (∀ x y : Nat × Nat, x ∈ tabP I r → y ∈ tabP I r' → tx (pairL I x) = tx (pairL I y) → x = y) → ∀ x, x ∈ tabP I r → x ∈ tabP I r' := by
    intro r r' h inj x hx
    have : tx (pairL I x) ∈ tabS I r := by
      unfold tabS
      rw [tabL_pairs]
      exact List.mem_map.mpr ⟨_, List.mem_map.mpr ⟨x, hx, rfl⟩, rfl⟩
    rw [h] at this
    unfold tabS at this
    rw [tabL_pairs] at this
    obtain ⟨_, hz, e⟩ := List.mem_map.mp this
    obtain ⟨y, hy, rfl⟩ := List.mem_map.mp hz
    rw [inj x y hx hy e.symm]
    exact hy
  have s1 := sub h inj
  have s2 := sub h.symm (fun x y hx hy e => (inj y x hy hx e.symm).symm)
  refine List.ext_getElem? fun p => ?_
  by_cases hp : p < I.n
  · have hp1 : p < rs.length := by omega
    have hp2 : p < rs'.length := by omega
    rw [List.getElem?_eq_getElem hp1, List.getElem?_eq_getElem hp2]
    congr 1
    have g1 : rs.getD p 0 = rs[p] := by rw [List.getD_eq_getElem?_getD, List.getElem?_eq_getElem hp1]; rfl
    have g2 : rs'.getD p 0 = rs'[p] := by rw [List.getD_eq_getElem?_getD, List.getElem?_eq_getElem hp2]; rfl
    refine K18.bit_ext fun q => ?_
    have m1 : rs[p].testBit q = true → q < I.n := fun hq => by
      apply Classical.byContradiction
      intro hn
      rw [Nat.testBit_lt_two_pow (Nat.lt_of_lt_of_le (b1 _ (List.getElem_mem hp1)) (Nat.pow_le_pow_right (by decide) (by omega)))] at hq
      cases hq
    have m2 : rs'[p].testBit q = true → q < I.n := fun hq => by
      apply Classical.byContradiction
      intro hn
      rw [Nat.testBit_lt_two_pow (Nat.lt_of_lt_of_le (b2 _ (List.getElem_mem hp2)) (Nat.pow_le_pow_right (by decide) (by omega)))] at hq
      cases hq
    constructor
    · intro hq
      have := tabP_mem.mp (s1 (p, q) (tabP_mem.mpr ⟨hp1, m1 hq, by rw [g1]; exact hq⟩))
      rw [g2] at this
      exact this.2.2
    · intro hq
      have := tabP_mem.mp (s2 (p, q) (tabP_mem.mpr ⟨hp2, m2 hq, by rw [g2]; exact hq⟩))
      rw [g1] at this
      exact this.2.2
  · rw [List.getElem?_eq_none (by omega), List.getElem?_eq_none (by omega)]
end N18
end
section
set_option Elab.async false
set_option linter.all false
set_option maxRecDepth 100000
set_option maxHeartbeats 4000000
namespace N18
open PySem PySem.Spec PyProof.Rows L2 TL PySem.W
theorem cut_lo {a b : List Nat} (h : a.length = 2) : cutS (tx (a ++ b)) none (some 2) = tx a := by
  unfold cutS
  rw [HT.sIx_none, show HT.sIx (tx (a ++ b)).length (tx (a ++ b)).length (some 2) = min 2 (tx (a ++ b)).length from HT.sIx_nat _ _ 2]
  have : min 2 (tx (a ++ b)).length = 2 := by rw [tx_len, List.length_append]; omega
  rw [this]
  show tx (List.take (2 - 0) (List.drop 0 (tl (tx (a ++ b))))) = tx a
  rw [tl_tx, List.drop_zero, Nat.sub_zero, ← h, List.take_left]
theorem cut_hi {a b : List Nat} (h : a.length = 2) : cutS (tx (a ++ b)) (some 2) none = tx b := by
  unfold cutS
  rw [HT.sIx_none, show HT.sIx (tx (a ++ b)).length 0 (some 2) = min 2 (tx (a ++ b)).length from HT.sIx_nat _ _ 2]
  have : min 2 (tx (a ++ b)).length = 2 := by rw [tx_len, List.length_append]; omega
  rw [this]
  show tx (List.take ((tx (a ++ b)).length - 2) (List.drop 2 (tl (tx (a ++ b))))) = tx b
  rw [tl_tx, tx_len, List.length_append, ← h, List.drop_left, Nat.add_sub_cancel_left, List.take_length]
theorem index_val {cs : List Str} (hn : cs.Nodup) {i : Nat} {c : Str} (h : cs[i]? = some c) (k : Nat) :
    valV ((cs.zipIdx k).map fun c => ((Sum.inr c.1 : Key), nV c.2)) (Sum.inr c) = some (nV (k + i)) := by
  induction cs generalizing i k with
  | nil => simp at h
  | cons x cs ih =>
    rw [List.nodup_cons] at hn
    rw [List.zipIdx_cons, List.map_cons]
    cases i with
    | zero =>
      have e : x = c := Option.some.inj h
      subst e
      exact valV_pos (p := ((Sum.inr x : Key), nV k)) rfl
    | succ i =>
      have h' : cs[i]? = some c := h
      rw [valV_neg (p := ((Sum.inr x : Key), nV k)) fun e => hn.1 (Sum.inr.inj e ▸ List.mem_of_getElem? h'), ih hn.2 h' (k + 1)]
      congr 2
      omega
theorem cellS_nd {I : Inst} (ok : I.Ok) : I.cellS.Nodup := by
  unfold Inst.cellS
  have h := ok.cnd
  rw [List.nodup_iff_pairwise_ne] at h ⊢
  rw [List.pairwise_map]
  exact h.imp fun hne e => hne (tx_inj e)
theorem cellS_get {I : Inst} (ok : I.Ok) {i : Nat} (h : i < I.n) : I.cellS[i]? = some (tx (I.cells.getD i [])) := by
  unfold Inst.cellS
  rw [List.getElem?_map, List.getD_eq_getElem?_getD, List.getElem?_eq_getElem (by rw [ok.clen]; exact h)]
  rfl
theorem getD_set {l : List Nat} {a v : Nat} (h : a < l.length) (b : Nat) : (l.set a v).getD b 0 = if b = a then v else l.getD b 0 := by
  rw [List.getD_eq_getElem?_getD, List.getD_eq_getElem?_getD, List.getElem?_set]
  by_cases e : a = b
  · subst e
    rw [if_pos rfl, if_pos h, if_pos rfl]
    rfl
  · rw [if_neg e, if_neg (fun q => e q.symm)]
theorem map_set (l : List Nat) (a v : Nat) : (l.set a v).map nV = (l.map nV).set a (nV v) := List.map_set
section
variable {P : Program} {w : World} {K : PySem.W.Frag} {mg : Str → Option Value} {base : Heap}
/-! ### as_rows -/
def spAsRows (K : PySem.W.Frag) (C : Addr) : Sp := fun vs H Q _ => ∃ (p : Addr) (I : Inst) (cl : V) (ta : Addr) (rs : List Nat),
  vs = [.ref p, .ref ta] ∧ I.Ok ∧ WishAt C H p I cl ∧ H ta = some (.tup ((tabS I rs).map V.str)) ∧ rs.length = I.n ∧ (∀ m ∈ rs, m < 2 ^ I.n) ∧
  ∀ H' t, Same H H' → H t = none → H' t = some (.tup (rs.map nV)) → Q (.ref t) H'
theorem scAsRows : FnScope ["wish", "thing", "rows", "item", "one", "other"] ["wish", "thing"] (defScope sAsRows) := ⟨rfl, rfl, rfl, by decide +kernel, rfl, by decide +kernel, by decide +kernel⟩
theorem ok_asRows {C f : Addr} {fd : FuncData} (F : Fun K "as_rows" "as_rows" sAsRows f fd) (T : WTxt K C) (B : Bt mg) (c1 : Cal P w K mg base "as_table" 1 ["wish", "rows"] (spAsTable K C)) : FnOk P w K mg base CX0 2 f fd ["wish", "thing"] (spAsRows K C) := by
  obtain ⟨g, gd, G, mG, kG, bG⟩ := c1
  refine F.ok scAsRows (fun vs H Q E h => ?_) (fun cdv A outer s H vs Q E hr h => ?_)
  · obtain ⟨p, I, cl, ta, rs, rfl, _⟩ := h
    rfl
  · obtain ⟨p, I, cl, ta, rs, rfl, ok, W, hta, hrl, hrb, q⟩ := h
    obtain ⟨dx, fs, ca, ia, pa, ba, wa, pl, hp, Fl, Pt⟩ := id W
    have hu := hu_of hr
    have n6 : I.n ≤ 6 := ok.n6
    refine ⟨_, pss_cons (ps_if (pt_not (pt_val (pe_callB call_isi (by rfl) B.isi (by decide +kernel) (pa_cons (pv 1) (pa_cons (pe_bltn (v := .ty "tuple") (by rfl) B.tuple (by decide +kernel) rfl) pa_nil))))) (pss_one (ps_ret pe_non)) pss_nil)
      (pss_cons (ps_set (i := 2) scAsRows.nd rfl (.inl rfl) (pe_op op_rep (pe_lst (pa_cons pe_int pa_nil)) (pe_callB call_len_seq (by rfl) B.len PySem.boot_len (pa_cons (pe_fld (pv 0) rfl) pa_nil))))
      (pss_cons (ps_for PassesOwn.never rfl (pi_tup (pv 1)) (pg_name (i := 3) scAsRows.nd rfl (.inl rfl))
        (pss_cons (ps_if (PW.pt (pw_or (pt_not (pt_val (pe_callB call_isi (by rfl) B.isi (by decide +kernel) (pa_cons (pv 3) (pa_cons (pe_bltn (v := .ty "str") (by rfl) B.str (by decide +kernel) rfl) pa_nil)))))
            (pw_or1 (pt_cmpR op_ne (pe_callB call_len_str (by rfl) B.len PySem.boot_len (pa_cons (pv 3) pa_nil)) pe_int (nomark _))))) (pss_one (ps_ret pe_non)) pss_nil)
        (pss_cons (ps_set (i := 4) scAsRows.nd rfl (.inl rfl) (pe_dget1 hu (pe_fld (pv 0) rfl) (pe_slice sl_str (pv 3) po_none (po_some pe_int)) ⟨rfl, rfl, rfl, rfl⟩))
        (pss_cons (ps_set (i := 5) scAsRows.nd rfl (.inl rfl) (pe_dget1 hu (pe_fld (pv 0) rfl) (pe_slice sl_str (pv 3) (po_some pe_int) po_none) ⟨rfl, rfl, rfl, rfl⟩))
        (pss_cons (ps_if (PW.pt (pw_or (pt_cmpR op_isN (pv 4) pe_non (nomark _)) (pw_or1 (pt_cmpR op_isN (pv 5) pe_non (nomark _))))) (pss_one (ps_ret pe_non)) pss_nil)
        (pss_one (ps_asg (pe_op op_or (pe_ix ix_list (pv 2) (pv 4) (fun _ _ => rfl)) (pe_ix ix_list (pe_fld (pv 0) rfl) (pv 5) (fun _ _ => rfl))) (pg_sub (pv 2) (pv 4) set_list))))))))
      (pss_cons (ps_if (pt_cmpR (op_neD hr.units) (pe_call G hr (by rfl) mG kG bG .nil pass0 (pa_cons (pv 0) (pa_cons (pv 2) pa_nil))) (pv 1) (nomark _)) (pss_one (ps_ret pe_non)) pss_nil)
      (pss_one (ps_ret (pe_callTy call_tuple_of (by rfl) B.tuple (by decide +kernel) (pa_cons (pv 2) pa_nil))))))), ?_⟩
    refine ⟨_, rfl, .ref ta, .ty "tuple", _, _, true, rfl, .ty _, .base (.tup hta), kit_ty (by decide +kernel), _, rfl, iteF ?_⟩
    -- rows = [0] * len(wish.kept_cells)
    refine ⟨by show 1 ≤ sizeLine; decide, fun z hz => ?_⟩
    have s0 : Same H (upd H z (.lst [.int 0])) := same_upd hz
    refine ⟨_, rfl, p, C, dx, _, _, rfl, s0 _ _ hp, T.cl, T.nC, Fl.cells, ca, _, rfl, .inl (s0.seq (SqL.of Pt.cells)), z, ((I.cellS.map V.str).length : Nat), _, rfl, rfl, upd_same, by omega, by rw [cellV_len ok]; omega, ?_, fun rl hrl0 => ?_⟩
    · rw [cellV_len ok]
      show 1 * _ ≤ sizeLine
      rw [Int.toNat_natCast, Nat.one_mul]
      exact Nat.le_of_lt (small1000 (by omega))
    have rl0 : H rl = none := s0.free hrl0
    have e0 : (List.replicate ((I.cellS.map V.str).length : Int).toNat [V.int 0]).flatten = (List.replicate I.n 0).map nV := by
      rw [cellV_len ok, Int.toNat_natCast, List.flatten_replicate_singleton, List.map_replicate]
      rfl
    rw [e0]
    generalize hH1 : upd (upd H z (.lst [.int 0])) rl (.lst ((List.replicate I.n 0).map nV)) = H1
    have s1 : Same H H1 := by rw [← hH1]; exact s0.trans (same_upd hrl0)
    have r1 : H1 rl = some (.lst ((List.replicate I.n 0).map nV)) := by rw [← hH1]; exact upd_same
    -- for item in thing
    have items : (tabS I rs).map V.str = (tabP I rs).map fun x => V.str (tx (pairL I x)) := by
      unfold tabS
      rw [tabL_pairs, List.map_map, List.map_map]
      rfl
    refine ⟨_, rfl, ta, rfl, ⟨_, s1.sqT hta⟩, for_it (walk_tup (xs := (tabS I rs).map V.str)) (fun i σ H' => ∃ (y3 y4 y5 : Option V) (r : List Nat), σ = [some (.ref p), some (.ref ta), some (.ref rl), y3, y4, y5] ∧
      Same H H' ∧ H' rl = some (.lst (r.map nV)) ∧ r.length = I.n ∧ ∀ a b, a < I.n → ((r.getD a 0).testBit b = true ↔ (a, b) ∈ (tabP I rs).take i)) ⟨none, none, none, _, rfl, s1, r1, List.length_replicate, ?_⟩ ?_ ?_ ?_⟩
    · intro a b ha
      rw [List.getD_eq_getElem?_getD, List.getElem?_replicate, if_pos ha]
      simp
    · rintro i σ H' _ ⟨y3, y4, y5, r, rfl, s2, _⟩
      exact s2.sqT hta
    · rintro i v σ H2 H3 hi ⟨y3, y4, y5, r, rfl, s2, hr2, hrn, hbits⟩ ⟨rfl, hv⟩
      rw [items] at hv hi
      rw [List.length_map] at hi
      rw [List.getElem?_map, List.getElem?_eq_getElem hi] at hv
      have hv := Option.some.inj hv
      subst hv
      generalize hx : (tabP I rs)[i] = x at *
      obtain ⟨a, b⟩ := x
      have hm : (a, b) ∈ tabP I rs := by rw [← hx]; exact List.getElem_mem hi
      obtain ⟨ha, hb, _⟩ := tabP_mem.mp hm
      rw [hrl] at ha
      have la := cell_len2 ok ha
      have lb := cell_len2 ok hb
      have len4 : (tx (pairL I (a, b))).length = 4 := by
        rw [tx_len]
        show (_ ++ _ : List Nat).length = 4
        rw [List.length_append, la, lb]
      refine ⟨_, rfl, .str _, .ty "str", _, _, true, rfl, .ty _, .base (.str _), kit_ty (by decide +kernel), _, rfl, iteF ?_⟩
      refine ⟨_, rfl, _, rfl, by rw [len4]; decide, rfl, _, rfl, ?_⟩
      refine iteNS (by rw [len4]; rfl) ?_
      have c1 : cutS (tx (pairL I (a, b))) none (some 2) = tx (I.cells.getD a []) := cut_lo la
      have c2 : cutS (tx (pairL I (a, b))) (some 2) none = tx (I.cells.getD b []) := cut_hi la
      have g1 := DGet.k (k := (Sum.inr (tx (I.cells.getD a [])) : Key)) (s2 _ _ Pt.index)
      rw [index_val (cellS_nd ok) (cellS_get ok ha) 0, Nat.zero_add] at g1
      have g2 := DGet.k (k := (Sum.inr (tx (I.cells.getD b [])) : Key)) (s2 _ _ Pt.index)
      rw [index_val (cellS_nd ok) (cellS_get ok hb) 0, Nat.zero_add] at g2
      refine ⟨_, rfl, p, C, dx, _, _, rfl, s2 _ _ hp, T.cl, T.nI, Fl.index, ia, rfl, .inl ⟨_, .inl (s2 _ _ Pt.index)⟩, _, rfl, _, rfl, _, rfl, by rw [len4]; decide, some (nV a), by rw [c1]; exact g1, ?_⟩
      refine ⟨_, rfl, p, C, dx, _, _, rfl, s2 _ _ hp, T.cl, T.nI, Fl.index, ia, rfl, .inl ⟨_, .inl (s2 _ _ Pt.index)⟩, _, rfl, _, rfl, _, rfl, by rw [len4]; decide, some (nV b), by rw [c2]; exact g2, ?_⟩
      refine ⟨_, rfl, rfl, _, rfl, iteF ?_⟩
      refine ⟨_, rfl, rfl, _, rfl, iteF ?_⟩
      have har : a < r.length := by omega
      refine ⟨_, rfl, _, rfl, rl, _, _, _, rfl, rfl, SqL.of hr2, atI_nat (nv_get har), _, rfl, p, C, dx, _, _, rfl, s2 _ _ hp, T.cl, T.nB, Fl.bits, _, rfl, ba, _, _, _, rfl, rfl, SqL.of (s2 _ _ Pt.bits), atI_nat (bits_get hb), _, _, rfl, rfl, ?_⟩
      have hix : ixN (r.map nV).length ((a : Nat) : Int) = some a := by
        unfold ixN
        rw [if_pos (by omega), if_pos (by rw [List.length_map]; omega), Int.toNat_natCast]
      refine ⟨_, rfl, _, rfl, rl, _, _, _, rfl, rfl, hr2, hix, ?_⟩
      have ev : V.int (Builtin.bitOr ((r.getD a 0 : Nat) : Int) ((2 ^ b : Nat) : Int)) = nV (r.getD a 0 ||| 2 ^ b) := by
        rw [bit_or]
        rfl
      refine ⟨_, _, _, r.set a (r.getD a 0 ||| 2 ^ b), rfl, s2.put rl0, ?_, by rw [List.length_set]; exact hrn, fun a' b' ha' => ?_⟩
      · rw [upd_same, map_set, ← ev]
      · rw [take_snoc (List.getElem?_eq_getElem hi), hx, List.mem_append, List.mem_singleton, getD_set har]
        by_cases e : a' = a
        · subst e
          rw [if_pos rfl, Nat.testBit_or, Bool.or_eq_true, hbits _ _ ha', Nat.testBit_two_pow]
          constructor
          · rintro (h | h)
            · exact .inl h
            · exact .inr (by rw [of_decide_eq_true h])
          · rintro (h | h)
            · exact .inl h
            · injection h with _ h2
              exact .inr (decide_eq_true h2.symm)
        · rw [if_neg e, hbits _ _ ha']
          exact ⟨.inl, fun h => h.elim id fun q => by injection q with q1 _; exact (e q1).elim⟩
    · rintro σ H2 ⟨y3, y4, y5, r, rfl, s2, hr2, hrn, hbits⟩
      rw [items, List.length_map, List.take_length] at hbits
      have er : r = rs := by
        refine List.ext_getElem? fun a => ?_
        by_cases ha : a < I.n
        · have l1 : a < r.length := by omega
          have l2 : a < rs.length := by omega
          rw [List.getElem?_eq_getElem l1, List.getElem?_eq_getElem l2]
          congr 1
          have g1 : r.getD a 0 = r[a] := by rw [List.getD_eq_getElem?_getD, List.getElem?_eq_getElem l1]; rfl
          have g2 : rs.getD a 0 = rs[a] := by rw [List.getD_eq_getElem?_getD, List.getElem?_eq_getElem l2]; rfl
          refine K18.bit_ext fun b => ?_
          rw [← g1, hbits a b ha, tabP_mem, g2]
          constructor
          · exact fun h => h.2.2
          · intro h
            refine ⟨l2, ?_, h⟩
            apply Classical.byContradiction
            intro hn
            rw [Nat.testBit_lt_two_pow (Nat.lt_of_lt_of_le (hrb _ (List.getElem_mem l2)) (Nat.pow_le_pow_right (by decide) (by omega)))] at h
            cases h
        · rw [List.getElem?_eq_none (by omega), List.getElem?_eq_none (by omega)]
      subst er
      -- if as_table(wish, rows) != thing
      refine ⟨_, rfl, _, rfl, p, I, cl, rl, r, rfl, ok, W.same s2, .inl hr2, hrl, fun H3 t s3 ht h3 => ?_⟩
      refine ⟨_, rfl, Datum.toD (Tup.mk (tabS I r)), Datum.toD (Tup.mk (tabS I r)), dp_tupS h3, dp_tupS (s3 _ _ (s2 _ _ hta)), (good_tab ok r).shaped (by decide), (good_tab ok r).shaped (by decide), _, rfl, ?_⟩
      rw [Datum.eqv, decide_eq_true rfl]
      refine iteF ?_
      refine ⟨_, rfl, _, _, rfl, .inl ⟨SqL.of (s3 _ _ hr2), fun u hu2 => ?_⟩⟩
      exact q _ u ((s2.trans s3).trans (same_upd hu2)) ((s2.trans s3).free hu2) upd_same
end
end N18
end
section
set_option Elab.async false
set_option linter.all false
set_option maxRecDepth 100000
set_option maxHeartbeats 4000000
/-! All tables, in the order in which they are met. -/
namespace N18
abbrev Ent := List Nat × List Nat
def stepR (I : Inst) (r : List Nat) (x : Nat) : List Nat := r.map (K18.st I.A I.s x)
def ent (fd : List Ent) (i : Nat) : Ent := fd.getD i ([], [])
def rowsOf (fd : List Ent) : List (List Nat) := fd.map (·.2)
def addOne (I : Inst) (i : Nat) (fd : List Ent) (x : Nat) : List Ent :=
  if stepR I (ent fd i).2 x ∈ rowsOf fd then fd else fd ++ [((ent fd i).1 ++ [x], stepR I (ent fd i).2 x)]
def goTo (I : Inst) (i : Nat) (fd : List Ent) (j : Nat) : List Ent := (List.range j).foldl (addOne I i) fd
def goOn (I : Inst) (fd : List Ent) (i : Nat) : List Ent := goTo I i fd I.k
def bfs (I : Inst) : Nat → List Ent
  | 0 => [([], I.A)]
  | n + 1 => if n < (bfs I n).length then goOn I (bfs I n) n else bfs I n
theorem goTo_succ (I : Inst) (i : Nat) (fd : List Ent) (j : Nat) : goTo I i fd (j + 1) = addOne I i (goTo I i fd j) j := by
  unfold goTo
  rw [List.range_succ, List.foldl_append]
  rfl
theorem goTo_zero (I : Inst) (i : Nat) (fd : List Ent) : goTo I i fd 0 = fd := rfl
theorem ent_get {fd : List Ent} {i : Nat} (h : i < fd.length) : fd[i]? = some (ent fd i) := by
  unfold ent
  rw [List.getD_eq_getElem?_getD, List.getElem?_eq_getElem h]
  rfl
theorem rowsOf_get {fd : List Ent} {i : Nat} (h : i < fd.length) : (rowsOf fd)[i]? = some (ent fd i).2 := by
  unfold rowsOf
  rw [List.getElem?_map, ent_get h]
  rfl
theorem rowsOf_len (fd : List Ent) : (rowsOf fd).length = fd.length := List.length_map _
theorem ent_app {fd more : List Ent} {i : Nat} (h : i < fd.length) : ent (fd ++ more) i = ent fd i := by
  unfold ent
  rw [List.getD_eq_getElem?_getD, List.getD_eq_getElem?_getD, List.getElem?_append_left h]

/-- what is true of the list of the tables met so far -/
structure Fd (I : Inst) (fd : List Ent) : Prop where
  one : 0 < fd.length
  nd : (rowsOf fd).Nodup
  wd : ∀ e ∈ fd, K18.Wd I.k e.1
  tb : ∀ e ∈ fd, e.2 = K18.tb I.A I.s e.1
  wl : ∀ i, i < fd.length → (ent fd i).1.length ≤ i
theorem tb_len (I : Inst) (w : List Nat) : (K18.tb I.A I.s w).length = I.A.length := List.length_map _
theorem st_lt {I : Inst} (ok : I.Ok) (x m : Nat) : K18.st I.A I.s x m < 2 ^ I.n := by
  apply Nat.lt_of_not_le
  intro h
  obtain ⟨q, hq, hb⟩ := Nat.exists_ge_and_testBit_of_ge_two_pow h
  obtain ⟨j, _, _, h2⟩ := (K18.st_bit _ _ _ _ _).mp hb
  rw [List.getD_eq_getElem?_getD] at h2
  cases h3 : I.A[x * I.s + j]? with
  | none =>
    rw [h3] at h2
    simp at h2
  | some a =>
    rw [h3] at h2
    have ha := ok.alt a (List.mem_of_getElem? h3)
    have h2 : a.testBit q = true := h2
    have := Nat.testBit_lt_two_pow (Nat.lt_of_lt_of_le ha (Nat.pow_le_pow_right (n := 2) (by decide) (show I.k * I.s ≤ q from hq)))
    rw [this] at h2
    cases h2
theorem tb_lt {I : Inst} (ok : I.Ok) (w : List Nat) : ∀ m ∈ K18.tb I.A I.s w, m < 2 ^ I.n := by
  rcases List.eq_nil_or_concat w with rfl | ⟨u, x, rfl⟩
  · rw [K18.tb_nil]
    exact ok.alt
  · rw [List.concat_eq_append, K18.tb_snoc]
    intro m hm
    obtain ⟨a, _, rfl⟩ := List.mem_map.mp hm
    exact st_lt ok x a
theorem Fd.rlen {I : Inst} {fd : List Ent} (F : Fd I fd) (ok : I.Ok) {e : Ent} (h : e ∈ fd) : e.2.length = I.n := by
  rw [F.tb e h, tb_len, ok.al]
  rfl
theorem Fd.rlt {I : Inst} {fd : List Ent} (F : Fd I fd) (ok : I.Ok) {e : Ent} (h : e ∈ fd) : ∀ m ∈ e.2, m < 2 ^ I.n := by
  rw [F.tb e h]
  exact tb_lt ok _
theorem ent_mem {fd : List Ent} {i : Nat} (h : i < fd.length) : ent fd i ∈ fd := List.mem_of_getElem? (ent_get h)
theorem addOne_app (I : Inst) (i : Nat) (fd : List Ent) (x : Nat) : ∃ more, addOne I i fd x = fd ++ more ∧ more.length ≤ 1 := by
  unfold addOne
  split
  · exact ⟨[], (List.append_nil _).symm, by decide⟩
  · exact ⟨_, rfl, Nat.le_refl _⟩
theorem addOne_mem (I : Inst) (i : Nat) (fd : List Ent) (x : Nat) : stepR I (ent fd i).2 x ∈ rowsOf (addOne I i fd x) := by
  unfold addOne
  split
  · assumption
  · unfold rowsOf
    rw [List.map_append]
    exact List.mem_append_right _ (List.mem_singleton.mpr rfl)
theorem Fd.add {I : Inst} {fd : List Ent} (F : Fd I fd) {i x : Nat} (hi : i < fd.length) (hx : x < I.k) : Fd I (addOne I i fd x) := by
  unfold addOne
  split
  · exact F
  · rename_i hn
    have hm := ent_mem hi
    refine ⟨by rw [List.length_append]; exact Nat.lt_of_lt_of_le F.one (Nat.le_add_right _ _), ?_, ?_, ?_, ?_⟩
    · unfold rowsOf
      rw [List.map_append, List.nodup_append]
      refine ⟨F.nd, by simp, fun a ha b hb e => ?_⟩
      rw [List.map_cons, List.map_nil, List.mem_singleton] at hb
      have e' : a = stepR I (ent fd i).2 x := e.trans hb
      exact hn (by rw [← e']; exact ha)
    · intro e he
      rcases List.mem_append.mp he with h | h
      · exact F.wd e h
      · rw [List.mem_singleton] at h
        subst h
        intro y hy
        rcases List.mem_append.mp hy with h | h
        · exact F.wd _ hm y h
        · rw [List.mem_singleton] at h
          rw [h]
          exact hx
    · intro e he
      rcases List.mem_append.mp he with h | h
      · exact F.tb e h
      · rw [List.mem_singleton] at h
        subst h
        show stepR I _ x = K18.tb I.A I.s (_ ++ [x])
        rw [K18.tb_snoc, ← F.tb _ hm]
        rfl
    · intro j hj
      by_cases hjl : j < fd.length
      · rw [ent_app hjl]
        exact F.wl j hjl
      · rw [List.length_append, List.length_singleton] at hj
        have : j = fd.length := by omega
        subst this
        unfold ent
        rw [List.getD_eq_getElem?_getD, List.getElem?_append_right (Nat.le_refl _), Nat.sub_self]
        show (_ ++ [x] : List Nat).length ≤ _
        rw [List.length_append]
        have := F.wl i hi
        show _ + 1 ≤ _
        unfold ent at this
        omega
theorem goTo_app (I : Inst) (i : Nat) (fd : List Ent) (j : Nat) : ∃ more, goTo I i fd j = fd ++ more := by
  induction j with
  | zero => exact ⟨[], (List.append_nil _).symm⟩
  | succ j ih =>
    obtain ⟨m, hm⟩ := ih
    obtain ⟨m2, h2, _⟩ := addOne_app I i (goTo I i fd j) j
    exact ⟨m ++ m2, by rw [goTo_succ, h2, hm, List.append_assoc]⟩
theorem goTo_len (I : Inst) (i : Nat) (fd : List Ent) (j : Nat) : fd.length ≤ (goTo I i fd j).length := by
  obtain ⟨m, hm⟩ := goTo_app I i fd j
  rw [hm, List.length_append]
  exact Nat.le_add_right _ _
theorem goTo_mono (I : Inst) (i : Nat) (fd : List Ent) {j j' : Nat} (h : j ≤ j') : ∃ more, goTo I i fd j' = goTo I i fd j ++ more := by
  induction j' with
  | zero =>
    have : j = 0 := by omega
    subst this
    exact ⟨[], (List.append_nil _).symm⟩
  | succ j' ih =>
    by_cases e : j = j' + 1
    · subst e
      exact ⟨[], (List.append_nil _).symm⟩
    · obtain ⟨m, hm⟩ := ih (by omega)
      obtain ⟨m2, h2, _⟩ := addOne_app I i (goTo I i fd j') j'
      exact ⟨m ++ m2, by rw [goTo_succ, h2, hm, List.append_assoc]⟩
theorem Fd.go {I : Inst} {fd : List Ent} (F : Fd I fd) {i : Nat} (hi : i < fd.length) : ∀ j, j ≤ I.k → Fd I (goTo I i fd j)
  | 0, _ => F
  | j + 1, h => by
    rw [goTo_succ]
    exact (F.go hi j (by omega)).add (Nat.lt_of_lt_of_le hi (goTo_len _ _ _ _)) (by omega)
theorem goTo_ent (I : Inst) {i : Nat} {fd : List Ent} (hi : i < fd.length) (j : Nat) : ent (goTo I i fd j) i = ent fd i := by
  obtain ⟨m, hm⟩ := goTo_app I i fd j
  rw [hm, ent_app hi]
theorem rowsOf_app (a b : List Ent) : rowsOf (a ++ b) = rowsOf a ++ rowsOf b := List.map_append
theorem goTo_mem (I : Inst) {i : Nat} {fd : List Ent} (hi : i < fd.length) {x j : Nat} (h : x < j) : stepR I (ent fd i).2 x ∈ rowsOf (goTo I i fd j) := by
  obtain ⟨m, hm⟩ := goTo_mono I i fd (show x + 1 ≤ j from h)
  rw [hm, rowsOf_app, goTo_succ]
  have := addOne_mem I i (goTo I i fd x) x
  rw [goTo_ent I hi] at this
  exact List.mem_append_left _ this
theorem fd_zero {I : Inst} : Fd I (bfs I 0) where
  one := Nat.one_pos
  nd := by simp [rowsOf, bfs]
  wd e he := by
    rw [List.mem_singleton.mp he]
    intro y hy
    cases hy
  tb e he := by
    rw [List.mem_singleton.mp he, K18.tb_nil]
  wl i hi := by
    have : i = 0 := by
      have : i < 1 := hi
      omega
    subst this
    exact Nat.le_refl _
theorem bfs_fd (I : Inst) : ∀ n, Fd I (bfs I n)
  | 0 => fd_zero
  | n + 1 => by
    show Fd I (if n < (bfs I n).length then goOn I (bfs I n) n else bfs I n)
    split
    · rename_i h
      exact (bfs_fd I n).go h I.k (Nat.le_refl _)
    · exact bfs_fd I n
theorem bfs_succ (I : Inst) {n : Nat} (h : n < (bfs I n).length) : bfs I (n + 1) = goOn I (bfs I n) n := by
  show (if n < (bfs I n).length then goOn I (bfs I n) n else bfs I n) = _
  rw [if_pos h]
theorem bfs_stay (I : Inst) {n : Nat} (h : ¬ n < (bfs I n).length) : bfs I (n + 1) = bfs I n := by
  show (if n < (bfs I n).length then goOn I (bfs I n) n else bfs I n) = _
  rw [if_neg h]
theorem bfs_app (I : Inst) {n m : Nat} (h : n ≤ m) : ∃ more, bfs I m = bfs I n ++ more := by
  induction m with
  | zero =>
    have : n = 0 := by omega
    subst this
    exact ⟨[], (List.append_nil _).symm⟩
  | succ m ih =>
    by_cases e : n = m + 1
    · subst e
      exact ⟨[], (List.append_nil _).symm⟩
    · obtain ⟨mo, hm⟩ := ih (by omega)
      by_cases hl : m < (bfs I m).length
      · obtain ⟨m2, h2⟩ := goTo_app I m (bfs I m) I.k
        exact ⟨mo ++ m2, by rw [bfs_succ I hl, goOn, h2, hm, List.append_assoc]⟩
      · exact ⟨mo, by rw [bfs_stay I hl, hm]⟩
theorem bfs_end (I : Inst) {n m : Nat} (h : ¬ n < (bfs I n).length) (hm : n ≤ m) : bfs I m = bfs I n := by
  induction m with
  | zero =>
    have : n = 0 := by omega
    subst this
    rfl
  | succ m ih =>
    by_cases e : n = m + 1
    · subst e
      rfl
    · have := ih (by omega)
      rw [bfs_stay I (by rw [this]; omega), this]
/-- the wish has at most 200 tables -/
def Small (I : Inst) : Prop := ∀ n, n ≤ 200 → (bfs I n).length ≤ 200
def all (I : Inst) : List Ent := bfs I 200
theorem Small.len {I : Inst} (h : Small I) : (all I).length ≤ 200 := h 200 (Nat.le_refl _)
theorem all_fd (I : Inst) : Fd I (all I) := bfs_fd I 200
/-- at each place of the list the steps lie within it -/
theorem Small.closed {I : Inst} (h : Small I) {i x : Nat} (hi : i < (all I).length) (hx : x < I.k) : stepR I (ent (all I) i).2 x ∈ rowsOf (all I) := by
  have h2 := h.len
  by_cases hl : i < (bfs I i).length
  · obtain ⟨m, hm⟩ := bfs_app I (show i + 1 ≤ 200 by omega)
    have e1 : ent (all I) i = ent (bfs I i) i := by
      obtain ⟨m', hm'⟩ := bfs_app I (show i ≤ 200 by omega)
      show ent (bfs I 200) i = _
      rw [hm', ent_app hl]
    rw [e1]
    show _ ∈ rowsOf (bfs I 200)
    rw [hm, rowsOf_app, bfs_succ I hl]
    exact List.mem_append_left _ (goTo_mem I hl hx)
  · have : all I = bfs I i := bfs_end I hl (by omega)
    rw [this] at hi
    exact (hl hi).elim
/-- every word's table is there -/
theorem Small.cover {I : Inst} (h : Small I) : ∀ (n : Nat) (w : List Nat), w.length = n → K18.Wd I.k w → K18.tb I.A I.s w ∈ rowsOf (all I) := by
  intro n
  induction n with
  | zero =>
    intro w hw _
    have : w = [] := List.eq_nil_of_length_eq_zero hw
    subst this
    obtain ⟨m, hm⟩ := bfs_app I (show 0 ≤ 200 by omega)
    show _ ∈ rowsOf (bfs I 200)
    rw [K18.tb_nil, hm]
    exact List.mem_cons_self
  | succ n ih =>
    intro w hw hwd
    rcases List.eq_nil_or_concat w with rfl | ⟨u, x, rfl⟩
    · simp at hw
    · rw [List.concat_eq_append] at hw hwd ⊢
      have hul : u.length = n := by
        rw [List.length_append] at hw
        simpa using hw
      have h1 := ih u hul fun y hy => hwd y (List.mem_append_left _ hy)
      have hx : x < I.k := hwd x (List.mem_append_right _ (List.mem_singleton.mpr rfl))
      obtain ⟨i, hi⟩ := List.getElem?_of_mem h1
      have hil : i < (all I).length := by
        have := (List.getElem?_eq_some_iff.mp hi).1
        rwa [rowsOf_len] at this
      rw [rowsOf_get hil] at hi
      have hi := Option.some.inj hi
      have := h.closed hil hx
      rw [hi] at this
      rw [K18.tb_snoc]
      exact this
/-- the number of the table behind one letter more -/
def endOf (I : Inst) (fd : List Ent) (i x : Nat) : Nat := (rowsOf fd).idxOf (stepR I (ent fd i).2 x)
theorem endOf_app {I : Inst} {fd more : List Ent} {i x : Nat} (hi : i < fd.length) (hm : stepR I (ent fd i).2 x ∈ rowsOf fd) : endOf I (fd ++ more) i x = endOf I fd i x := by
  unfold endOf
  rw [ent_app hi, rowsOf_app, List.idxOf_append, if_pos hm]
theorem idx_of {l : List (List Nat)} (hn : l.Nodup) {i : Nat} {r : List Nat} (h : l[i]? = some r) : l.idxOf r = i := by
  have hm := List.mem_of_getElem? h
  have h2 : l.idxOf r < l.length := List.idxOf_lt_length_of_mem hm
  have h3 : l[l.idxOf r]? = some r := by
    rw [List.getElem?_eq_getElem h2, List.getElem_idxOf]
  exact nd_get hn h3 h
theorem Small.end_lt {I : Inst} (h : Small I) {i x : Nat} (hi : i < (all I).length) (hx : x < I.k) : endOf I (all I) i x < (all I).length := by
  have := List.idxOf_lt_length_of_mem (h.closed hi hx)
  rwa [rowsOf_len] at this
theorem Small.end_row {I : Inst} (h : Small I) {i x : Nat} (hi : i < (all I).length) (hx : x < I.k) : (ent (all I) (endOf I (all I) i x)).2 = stepR I (ent (all I) i).2 x := by
  have h1 := h.end_lt hi hx
  have h2 := rowsOf_get h1
  have h3 : (rowsOf (all I))[endOf I (all I) i x]? = some (stepR I (ent (all I) i).2 x) := by
    unfold endOf
    rw [List.getElem?_eq_getElem (by rw [rowsOf_len]; exact h1), List.getElem_idxOf]
  exact Option.some.inj (h2.symm.trans h3)
end N18
end
section
set_option Elab.async false
set_option linter.all false
set_option maxRecDepth 100000
set_option maxHeartbeats 4000000
namespace N18
open PySem PySem.Spec PyProof.Rows L2 TL PySem.W
/-! ### dicts that number a list -/
section
variable {κ : Type} [DecidableEq κ]
def dictOf (ks : List κ) : List (κ × V) := ks.zipIdx.map fun c => (c.1, nV c.2)
theorem dict_some {ks : List κ} (hn : ks.Nodup) {i : Nat} {k : κ} (h : ks[i]? = some k) (m : Nat) : valV ((ks.zipIdx m).map fun c => (c.1, nV c.2)) k = some (nV (m + i)) := by
  induction ks generalizing i m with
  | nil => simp at h
  | cons x ks ih =>
    rw [List.nodup_cons] at hn
    rw [List.zipIdx_cons, List.map_cons]
    cases i with
    | zero => exact valV_pos (p := (x, nV m)) (Option.some.inj h)
    | succ i =>
      have h' : ks[i]? = some k := h
      have hne : ¬ x = k := fun e => hn.1 (by rw [e]; exact List.mem_of_getElem? h')
      rw [valV_neg (p := (x, nV m)) hne, ih hn.2 h' (m + 1)]
      congr 2
      omega
theorem dictOf_some {ks : List κ} (hn : ks.Nodup) {i : Nat} {k : κ} (h : ks[i]? = some k) : valV (dictOf ks) k = some (nV i) := by
  have := dict_some hn h 0
  rwa [Nat.zero_add] at this
theorem dict_none {ks : List κ} {k : κ} (h : k ∉ ks) (m : Nat) : valV ((ks.zipIdx m).map fun c => (c.1, nV c.2)) k = none := by
  induction ks generalizing m with
  | nil => rfl
  | cons x ks ih =>
    rw [List.mem_cons, not_or] at h
    rw [List.zipIdx_cons, List.map_cons, valV_neg (p := (x, nV m)) fun e => h.1 e.symm]
    exact ih h.2 (m + 1)
theorem dictOf_none {ks : List κ} {k : κ} (h : k ∉ ks) : valV (dictOf ks) k = none := dict_none h 0
theorem dictOf_put {ks : List κ} {k : κ} (h : k ∉ ks) : putK (dictOf ks) k (nV ks.length) = dictOf (ks ++ [k]) := by
  rw [putK_new _ (dictOf_none h)]
  unfold dictOf
  rw [List.zipIdx_append, List.map_append, Nat.zero_add]
  rfl
theorem dictOf_len (ks : List κ) : (dictOf ks).length = ks.length := by
  unfold dictOf
  rw [List.length_map, List.length_zipIdx]
end
/-- rows as a dict's key -/
def keyR (r : List Nat) : List Key := r.map fun m : Nat => (Sum.inl (m : Int) : Key)
theorem keyR_map (r : List Nat) : (keyR r).map kV = r.map nV := by
  unfold keyR
  rw [List.map_map]
  rfl
theorem keyR_inj {a b : List Nat} (h : keyR a = keyR b) : a = b := by
  unfold keyR at h
  refine List.map_inj_right (f := fun m : Nat => (Sum.inl (m : Int) : Key)) ?_ |>.mp h
  intro x y e
  exact Int.ofNat.inj (Sum.inl.inj e)
theorem keysR_nd {l : List (List Nat)} (h : l.Nodup) : (l.map keyR).Nodup := by
  rw [List.nodup_iff_pairwise_ne] at h ⊢
  rw [List.pairwise_map]
  exact h.imp fun hne e => hne (keyR_inj e)
theorem keysR_mem {l : List (List Nat)} {r : List Nat} : keyR r ∈ l.map keyR ↔ r ∈ l := by
  constructor
  · intro h
    obtain ⟨a, ha, e⟩ := List.mem_map.mp h
    rw [← keyR_inj e]
    exact ha
  · intro h
    exact List.mem_map.mpr ⟨r, h, rfl⟩
/-- a word, as signs -/
def wordL (I : Inst) (w : List Nat) : List Nat := w.map fun x => I.gl.getD x 0
theorem wordL_len (I : Inst) (w : List Nat) : (wordL I w).length = w.length := List.length_map _
def letK (I : Inst) (x : Nat) : Key := Sum.inr (tx [I.gl.getD x 0])
def endsTo (I : Inst) (fd : List Ent) (i j : Nat) : List (Key × V) := (List.range j).map fun x => (letK I x, nV (endOf I fd i x))
theorem endsTo_succ (I : Inst) (fd : List Ent) (i j : Nat) : endsTo I fd i (j + 1) = endsTo I fd i j ++ [(letK I j, nV (endOf I fd i j))] := by
  unfold endsTo
  rw [List.range_succ, List.map_append]
  rfl
theorem endsTo_app {I : Inst} {fd more : List Ent} {i j : Nat} (hi : i < fd.length) (h : ∀ x, x < j → stepR I (ent fd i).2 x ∈ rowsOf fd) : endsTo I (fd ++ more) i j = endsTo I fd i j := by
  unfold endsTo
  refine List.map_congr_left fun x hx => ?_
  rw [endOf_app hi (h x (List.mem_range.mp hx))]
theorem letK_inj {I : Inst} (ok : I.Ok) {x y : Nat} (hx : x < I.k) (hy : y < I.k) (h : letK I x = letK I y) : x = y := by
  have h := tx_inj (Sum.inr.inj h)
  injection h with h _
  have g : ∀ z, z < I.k → I.gl[z]? = some (I.gl.getD z 0) := by
    intro z hz
    rw [List.getD_eq_getElem?_getD, List.getElem?_eq_getElem (by rw [ok.gk]; exact hz)]
    rfl
  exact nd_get ok.gn (g x hx) ((g y hy).trans (by rw [h]))
theorem endsTo_none {I : Inst} (ok : I.Ok) {fd : List Ent} {i j : Nat} (hj : j < I.k) : valV (endsTo I fd i j) (letK I j) = none := by
  cases h : valV (endsTo I fd i j) (letK I j) with
  | none => rfl
  | some v =>
    exfalso
    have := valV_in h
    obtain ⟨p, hp, e⟩ := List.mem_map.mp this
    unfold endsTo at hp
    obtain ⟨x, hx, rfl⟩ := List.mem_map.mp hp
    have hx := List.mem_range.mp hx
    have := letK_inj ok (by omega) hj e
    omega

/-! ### the closure while it is made -/
structure CloP (H0 H : Hp) (I : Inst) (fd : List Ent) (ra wa na ba : Addr) (rts bts : List Addr) : Prop where
  same : Same H0 H
  d1 : ra ≠ wa
  d2 : ra ≠ ba
  d3 : wa ≠ ba
  r0 : H0 ra = none
  w0 : H0 wa = none
  n0 : H0 na = none
  b0 : H0 ba = none
  rows : H ra = some (.lst (rts.map V.ref))
  rl : rts.length = fd.length
  rv : ∀ i t, rts[i]? = some t → H t = some (.tup ((ent fd i).2.map nV))
  words : H wa = some (.lst (fd.map fun e => V.str (tx (wordL I e.1))))
  num : H na = some (.dT (dictOf ((rowsOf fd).map keyR)))
  beh : H ba = some (.lst (bts.map V.ref))
  bl : bts.length ≤ fd.length
  bv : ∀ i d, bts[i]? = some d → H d = some (.dK (endsTo I fd i I.k))
  cl : ∀ i x, i < bts.length → x < I.k → stepR I (ent fd i).2 x ∈ rowsOf fd
theorem CloP.mono {H0 H H' : Hp} {I : Inst} {fd : List Ent} {ra wa na ba : Addr} {rts bts : List Addr} (c : CloP H0 H I fd ra wa na ba rts bts) (s : Same H H') : CloP H0 H' I fd ra wa na ba rts bts :=
  ⟨c.same.trans s, c.d1, c.d2, c.d3, c.r0, c.w0, c.n0, c.b0, s _ _ c.rows, c.rl, fun i t h => s _ _ (c.rv i t h), s _ _ c.words, s _ _ c.num, s _ _ c.beh, c.bl, fun i d h => s _ _ (c.bv i d h), c.cl⟩
/-- one table more -/
theorem CloP.add {H0 H : Hp} {I : Inst} {fd : List Ent} {ra wa na ba t : Addr} {rts bts : List Addr} {e : Ent} (c : CloP H0 H I fd ra wa na ba rts bts) (ht : H t = some (.tup (e.2.map nV))) :
    CloP H0 (upd (upd (upd H na (.dT (dictOf ((rowsOf (fd ++ [e])).map keyR)))) ra (.lst (rts.map V.ref ++ [.ref t]))) wa (.lst ((fd.map fun e => V.str (tx (wordL I e.1))) ++ [V.str (tx (wordL I e.1))]))) I (fd ++ [e]) ra wa na ba (rts ++ [t]) bts := by
  have nra : ra ≠ na := ne_of c.rows c.num (by intro z; cases z)
  have nwa : wa ≠ na := ne_of c.words c.num (by intro z; cases z)
  have nba : ba ≠ na := ne_of c.beh c.num (by intro z; cases z)
  generalize hH' : upd (upd (upd H na (.dT (dictOf ((rowsOf (fd ++ [e])).map keyR)))) ra (.lst (rts.map V.ref ++ [.ref t]))) wa (.lst ((fd.map fun e => V.str (tx (wordL I e.1))) ++ [V.str (tx (wordL I e.1))])) = H'
  have keep : ∀ b o, b ≠ na → b ≠ ra → b ≠ wa → H b = some o → H' b = some o := by
    intro b o h1 h2 h3 h4
    rw [← hH', upd_ne h3, upd_ne h2, upd_ne h1]
    exact h4
  have tupK : ∀ b xs, H b = some (.tup xs) → H' b = some (.tup xs) := fun b xs h => keep b _ (ne_of h c.num (by intro z; cases z)) (ne_of h c.rows (by intro z; cases z)) (ne_of h c.words (by intro z; cases z)) h
  have dkK : ∀ b xs, H b = some (.dK xs) → H' b = some (.dK xs) := fun b xs h => keep b _ (ne_of h c.num (by intro z; cases z)) (ne_of h c.rows (by intro z; cases z)) (ne_of h c.words (by intro z; cases z)) h
  refine ⟨?_, c.d1, c.d2, c.d3, c.r0, c.w0, c.n0, c.b0, ?_, ?_, ?_, ?_, ?_, ?_, ?_, ?_, ?_⟩
  · intro b o h
    exact keep b o (ne_of_none h c.n0) (ne_of_none h c.r0) (ne_of_none h c.w0) (c.same _ _ h)
  · rw [← hH', upd_ne c.d1, upd_same, List.map_append]
    rfl
  · rw [List.length_append, List.length_append, c.rl]
    rfl
  · intro i u h
    by_cases hi : i < rts.length
    · rw [List.getElem?_append_left hi] at h
      rw [ent_app (by rw [← c.rl]; exact hi)]
      exact tupK _ _ (c.rv i u h)
    · rw [List.getElem?_append_right (by omega)] at h
      have hi0 : i - rts.length = 0 := by
        have := (List.getElem?_eq_some_iff.mp h).1
        simp at this
        omega
      rw [hi0] at h
      have h : t = u := Option.some.inj h
      subst h
      have : i = fd.length := by rw [← c.rl]; omega
      subst this
      have e1 : ent (fd ++ [e]) fd.length = e := by
        unfold ent
        rw [List.getD_eq_getElem?_getD, List.getElem?_append_right (Nat.le_refl _), Nat.sub_self]
        rfl
      rw [e1]
      exact tupK _ _ ht
  · rw [← hH', upd_same, List.map_append]
    rfl
  · rw [← hH', upd_ne (Ne.symm nwa), upd_ne (Ne.symm nra), upd_same]
  · exact keep _ _ nba (Ne.symm c.d2) (Ne.symm c.d3) c.beh
  · rw [List.length_append]
    exact Nat.le_trans c.bl (Nat.le_add_right _ _)
  · intro i d h
    have hi : i < bts.length := (List.getElem?_eq_some_iff.mp h).1
    rw [endsTo_app (Nat.lt_of_lt_of_le hi c.bl) (fun x hx => c.cl i x hi hx)]
    exact dkK _ _ (c.bv i d h)
  · intro i x hi hx
    rw [ent_app (Nat.lt_of_lt_of_le hi c.bl), rowsOf_app]
    exact List.mem_append_left _ (c.cl i x hi hx)
/-- the dict of one table's ends is laid down -/
theorem CloP.done {H0 H : Hp} {I : Inst} {fd : List Ent} {ra wa na ba d : Addr} {rts bts : List Addr} (c : CloP H0 H I fd ra wa na ba rts bts) (hb : bts.length < fd.length) (hd : H d = some (.dK (endsTo I fd bts.length I.k)))
    (hc : ∀ x, x < I.k → stepR I (ent fd bts.length).2 x ∈ rowsOf fd) : CloP H0 (upd H ba (.lst (bts.map V.ref ++ [.ref d]))) I fd ra wa na ba rts (bts ++ [d]) := by
  have nba : ba ≠ na := ne_of c.beh c.num (by intro z; cases z)
  have keep : ∀ b o, b ≠ ba → H b = some o → (upd H ba (.lst (bts.map V.ref ++ [.ref d]))) b = some o := by
    intro b o h1 h4
    rw [upd_ne h1]
    exact h4
  refine ⟨?_, c.d1, c.d2, c.d3, c.r0, c.w0, c.n0, c.b0, ?_, c.rl, ?_, ?_, ?_, ?_, ?_, ?_, ?_⟩
  · intro b o h
    exact keep b o (ne_of_none h c.b0) (c.same _ _ h)
  · exact keep _ _ c.d2 c.rows
  · intro i t h
    have := c.rv i t h
    exact keep _ _ (ne_of this c.beh (by intro z; cases z)) this
  · exact keep _ _ c.d3 c.words
  · exact keep _ _ (Ne.symm nba) c.num
  · rw [upd_same, List.map_append]
    rfl
  · rw [List.length_append]
    exact hb
  · intro i u h
    by_cases hi : i < bts.length
    · rw [List.getElem?_append_left hi] at h
      have := c.bv i u h
      exact keep _ _ (ne_of this c.beh (by intro z; cases z)) this
    · rw [List.getElem?_append_right (by omega)] at h
      have hi0 : i - bts.length = 0 := by
        have := (List.getElem?_eq_some_iff.mp h).1
        simp at this
        omega
      rw [hi0] at h
      have h : d = u := Option.some.inj h
      subst h
      have : i = bts.length := by omega
      subst this
      exact keep _ _ (ne_of hd c.beh (by intro z; cases z)) hd
  · intro i x hi hx
    rw [List.length_append, List.length_singleton] at hi
    by_cases h : i < bts.length
    · exact c.cl i x h hx
    · have : i = bts.length := by omega
      subst this
      exact hc x hx
end N18
end
section
set_option Elab.async false
set_option linter.all false
set_option maxRecDepth 100000
set_option maxHeartbeats 4000000
namespace N18
open PySem PySem.Spec PyProof.Rows L2 TL PySem.W
/-- the class Closure as the top has made it -/
structure CTxt (K : PySem.W.Frag) (CC : Addr) : Prop where
  cl : Cls K CC
  nR : NoAttr K CC "rows"
  nW : NoAttr K CC "words"
  nN : NoAttr K CC "number"
  nB : NoAttr K CC "behind"
  nA : NoAttr K CC "ahead"
  nS : NoAttr K CC "start"
  nP : NoAttr K CC "period"
  nL : NoAttr K CC "longs"
/-- the attributes that stand from the beginning -/
structure CFld (fs : List (Str × V)) (ra wa na ba : Addr) : Prop where
  rows : fs.lookup ("rows" : Str) = some (.ref ra)
  words : fs.lookup ("words" : Str) = some (.ref wa)
  num : fs.lookup ("number" : Str) = some (.ref na)
  beh : fs.lookup ("behind" : Str) = some (.ref ba)
  few : fs.length ≤ 20
theorem CloP.dict {H0 H : Hp} {I : Inst} {fd : List Ent} {ra wa na ba d : Addr} {rts bts : List Addr} {kvs : List (Key × V)} (c : CloP H0 H I fd ra wa na ba rts bts) (h0 : H0 d = none) (hd : H d = some (.dK kvs))
    (hn : ∀ (i : Nat) (u : Addr), bts[i]? = some u → u ≠ d) (o : HO) : CloP H0 (upd H d o) I fd ra wa na ba rts bts := by
  have keep : ∀ b x, b ≠ d → H b = some x → (upd H d o) b = some x := by
    intro b x h1 h2
    rw [upd_ne h1]
    exact h2
  refine ⟨?_, c.d1, c.d2, c.d3, c.r0, c.w0, c.n0, c.b0, ?_, c.rl, ?_, ?_, ?_, ?_, c.bl, ?_, c.cl⟩
  · intro b x h
    exact keep b x (ne_of_none h h0) (c.same _ _ h)
  · exact keep _ _ (ne_of c.rows hd (by intro z; cases z)) c.rows
  · intro i t h
    have := c.rv i t h
    exact keep _ _ (ne_of this hd (by intro z; cases z)) this
  · exact keep _ _ (ne_of c.words hd (by intro z; cases z)) c.words
  · exact keep _ _ (ne_of c.num hd (by intro z; cases z)) c.num
  · exact keep _ _ (ne_of c.beh hd (by intro z; cases z)) c.beh
  · intro i u h
    exact keep _ _ (hn i u h) (c.bv i u h)
theorem letter_get {I : Inst} {x c : Nat} (h : (tx I.gl).cps[x]? = some c) : I.gl[x]? = some c ∧ I.gl.getD x 0 = c := by
  rw [tx_cps] at h
  exact ⟨h, by rw [List.getD_eq_getElem?_getD, h]; rfl⟩
theorem Small.at_lt {I : Inst} (sm : Small I) {n : Nat} (h : n < (bfs I n).length) : n < 200 := by
  by_cases q : n ≤ 200
  · have := sm n q
    omega
  · obtain ⟨m, hm⟩ := bfs_app I (show 200 ≤ n by omega)
    have h2 := sm 200 (Nat.le_refl _)
    have : ¬ 200 < (bfs I 200).length := by omega
    rw [bfs_end I this (by omega)] at h
    omega
section
variable {P : Program} {w : World} {K : PySem.W.Frag} {mg : Str → Option Value} {base : Heap}
/-! ### Closure.go_on -/
def spGoOn (C CC : Addr) : Sp := fun vs H Q _ => ∃ (H0 : Hp) (c p dx : Addr) (fs : List (Str × V)) (I : Inst) (cl : V) (n : Nat) (ra wa na ba : Addr) (rts bts : List Addr),
  vs = [.ref c, .ref p, .int (n : Nat)] ∧ I.Ok ∧ Small I ∧ WishAt C H0 p I cl ∧ H0 c = none ∧ H c = some (.ins CC dx fs) ∧ CFld fs ra wa na ba ∧ CloP H0 H I (bfs I n) ra wa na ba rts bts ∧ bts.length = n ∧ n < (bfs I n).length ∧
  ∀ (H' : Hp) (rts' bts' : List Addr), H' c = some (.ins CC dx fs) → CloP H0 H' I (bfs I (n + 1)) ra wa na ba rts' bts' → bts'.length = n + 1 → Q .non H'
theorem scGoOn : FnScope ["self", "wish", "at", "ends", "letter", "rows"] ["self", "wish", "at"] (defScope sGoOn) := ⟨rfl, rfl, rfl, by decide +kernel, rfl, by decide +kernel, by decide +kernel⟩
theorem ok_goOn {C CC f : Addr} {fd : FuncData} (F : Fun K "go_on" "Closure.go_on" sGoOn f fd) (T : WTxt K C) (TC : CTxt K CC) (B : Bt mg) {tk : Tok} (mM : mg "MOST_TABLES" = some (.int 200 tk))
    (c1 : Cal P w K mg base "put_behind" 2 ["wish", "rows", "letter"] (spPutBehind K C)) : FnOk P w K mg base CX0 3 f fd ["self", "wish", "at"] (spGoOn C CC) := by
  obtain ⟨g, gd, G, mG, kG, bG⟩ := c1
  refine F.ok scGoOn (fun vs H Q E h => ?_) (fun cdv A outer s H vs Q E hr h => ?_)
  · obtain ⟨H0, c, p, dx, fs, I, cl, n, ra, wa, na, ba, rts, bts, rfl, _⟩ := h
    rfl
  · obtain ⟨H0, c, p, dx, fs, I, cl, n, ra, wa, na, ba, rts, bts, rfl, ok, sm, W, hc0, hc, Fc, Cp, hbl, hn, q⟩ := h
    obtain ⟨wdx, wfs, ca, ia, pa, bba, wra, pl, hp, Fl, Pt⟩ := id W
    have hu := hu_of hr
    have n200 := sm.at_lt hn
    have F0 := bfs_fd I n
    have hgo : bfs I (n + 1) = goTo I n (bfs I n) I.k := bfs_succ I hn
    have hmax : ∀ j, j ≤ I.k → (goTo I n (bfs I n) j).length ≤ 200 := by
      intro j hj
      have h1 := sm (n + 1) (by omega)
      rw [hgo] at h1
      obtain ⟨m, hm⟩ := goTo_mono I n (bfs I n) hj
      rw [hm, List.length_append] at h1
      omega
    refine ⟨_, pss_cons (ps_set (i := 3) scGoOn.nd rfl (.inl rfl) pe_dnewK)
      (pss_cons (ps_for PassesOwn.never rfl (pi_str (pe_fld (pv 1) rfl)) (pg_name (i := 4) scGoOn.nd rfl (.inl rfl))
        (pss_cons (ps_set (i := 5) scGoOn.nd rfl (.inl rfl) (pe_call G hr (by rfl) mG kG bG .nil pass0 (pa_cons (pv 1) (pa_cons (pe_ix ix_list (pe_fld (pv 0) rfl) (pv 2) (fun _ _ => rfl)) (pa_cons (pv 4) pa_nil)))))
        (pss_cons (ps_if (pt_cmp (pc_dnotin hu (pv 5) (pe_fld (pv 0) rfl)))
          (pss_cons (ps_if (pt_cmpR op_eq (pe_callB call_len_seq (by rfl) B.len PySem.boot_len (pa_cons (pe_fld (pv 0) rfl) pa_nil)) (pe_glob (v := .int 200) (by rfl) mM ⟨_, rfl⟩) (nomark _)) (pss_one ps_never) pss_nil)
          (pss_cons (ps_dput hu (pe_fld (pv 0) rfl) (pv 5) (pe_callB call_len_seq (by rfl) B.len PySem.boot_len (pa_cons (pe_fld (pv 0) rfl) pa_nil)) rfl)
          (pss_cons (ps_expr (pe_bm PySem.F.plainAttrs_list PySem.F.slot_list_append PySem.F.type_list_append mt_append (pe_fld (pv 0) rfl) (pa_cons (pv 5) pa_nil)))
          (pss_one (ps_expr (pe_bm PySem.F.plainAttrs_list PySem.F.slot_list_append PySem.F.type_list_append mt_append (pe_fld (pv 0) rfl) (pa_cons (pe_op op_add_str (pe_ix ix_list (pe_fld (pv 0) rfl) (pv 2) (fun _ _ => rfl)) (pv 4)) pa_nil)))))))
          pss_nil)
        (pss_one (ps_dput hu (pv 3) (pv 4) (pe_dget hu (pe_fld (pv 0) rfl) (pv 5) (fun _ _ => rfl)) rfl)))))
      (pss_one (ps_expr (pe_bm PySem.F.plainAttrs_list PySem.F.slot_list_append PySem.F.type_list_append mt_append (pe_fld (pv 0) rfl) (pa_cons (pv 3) pa_nil))))), ?_⟩
    intro ea hea
    have s1 : Same H (upd H ea (.dK [])) := same_upd hea
    have hea0 : H0 ea = none := Cp.same.free hea
    have hbne : ∀ (i : Nat) (u : Addr), bts[i]? = some u → u ≠ ea := fun i u h => ne_of_none (Cp.bv i u h) hea
    -- for letter in wish.kept_given
    refine ⟨_, rfl, p, C, wdx, _, _, rfl, s1 _ _ (Cp.same _ _ hp), T.cl, T.nG, Fl.given, tx I.gl, rfl, for_it walk_str (fun j σ H' => ∃ (y4 y5 : Option V) (rts' : List Addr), σ = [some (.ref c), some (.ref p), some (.int (n : Nat)), some (.ref ea), y4, y5] ∧
      H' c = some (.ins CC dx fs) ∧ CloP H0 H' I (goTo I n (bfs I n) j) ra wa na ba rts' bts ∧ H' ea = some (.dK (endsTo I (goTo I n (bfs I n) j) n j))) ⟨none, none, rts, rfl, s1 _ _ hc, Cp.mono s1, upd_same⟩ (fun _ _ _ _ _ => trivial) ?_ ?_⟩
    · rintro j v σ H1 H1' hj ⟨y4, y5, rts', rfl, hc1, C1, he1⟩ ⟨rfl, lc, hlc, rfl⟩
      rw [tx_size, ok.gk] at hj
      obtain ⟨hgl, hgd⟩ := letter_get hlc
      generalize hfd : goTo I n (bfs I n) j = fdj at *
      have Fj : Fd I fdj := by rw [← hfd]; exact F0.go hn j (by omega)
      have hent : ent fdj n = ent (bfs I n) n := by rw [← hfd]; exact goTo_ent I hn j
      have hnj : n < fdj.length := by rw [← hfd]; exact Nat.lt_of_lt_of_le hn (goTo_len _ _ _ _)
      have hsucc : goTo I n (bfs I n) (j + 1) = addOne I n fdj j := by rw [goTo_succ, hfd]
      have hl200 : fdj.length ≤ 200 := by rw [← hfd]; exact hmax j (by omega)
      obtain ⟨t0, ht0⟩ : ∃ t0, rts'[n]? = some t0 := ⟨rts'[n]'(by rw [C1.rl]; exact hnj), List.getElem?_eq_getElem _⟩
      have hr0 := C1.rv n t0 ht0
      have hrl : (ent fdj n).2.length = I.n := Fj.rlen ok (ent_mem hnj)
      have n6 : I.n ≤ 6 := ok.n6
      refine ⟨_, rfl, _, rfl, c, CC, dx, _, _, rfl, hc1, TC.cl, TC.nR, Fc.rows, _, rfl, ra, _, _, .ref t0, rfl, rfl, SqL.of C1.rows, atI_nat (by rw [List.getElem?_map, ht0]; rfl), _, rfl, p, I, cl, t0, (ent fdj n).2, j, lc, rfl, ok, W.same C1.same, hgl, hr0, by omega, fun H2 t s2 ht h2t => ?_⟩
      have C2 := C1.mono s2
      have hc2 := s2 _ _ hc1
      have he2 := s2 _ _ he1
      have hstep : (ent fdj n).2.map (K18.st I.A I.s j) = stepR I (ent fdj n).2 j := rfl
      rw [hstep] at h2t
      generalize hr : stepR I (ent fdj n).2 j = r at *
      have keyT : H2 t = some (.tup ((keyR r).map kV)) := by rw [keyR_map]; exact h2t
      -- the last store of a turn
      have fin : ∀ (H5 : Hp) (rts5 : List Addr), H5 c = some (.ins CC dx fs) → CloP H0 H5 I (addOne I n fdj j) ra wa na ba rts5 bts → H5 ea = some (.dK (endsTo I fdj n j)) → H5 t = some (.tup ((keyR r).map kV)) →
          DGet H5 na (.ref t) (some (nV (endOf I (addOne I n fdj j) n j))) ∧ ∃ H6, DPut H5 ea (.str ⟨#[lc]⟩) (nV (endOf I (addOne I n fdj j) n j)) H6 ∧ H6 c = some (.ins CC dx fs) ∧ CloP H0 H6 I (addOne I n fdj j) ra wa na ba rts5 bts ∧ H6 ea = some (.dK (endsTo I (addOne I n fdj j) n (j + 1))) := by
        intro H5 rts5 k1 k2 k3 k4
        obtain ⟨more, hm, _⟩ := addOne_app I n fdj j
        have hmemj := addOne_mem I n fdj j
        have F1 : Fd I (addOne I n fdj j) := Fj.add hnj hj
        have hee : ent (addOne I n fdj j) n = ent fdj n := by rw [hm, ent_app hnj]
        have hget : (rowsOf (addOne I n fdj j))[endOf I (addOne I n fdj j) n j]? = some r := by
          unfold endOf
          rw [hee, hr] at *
          rw [List.getElem?_eq_getElem (List.idxOf_lt_length_of_mem hmemj), List.getElem_idxOf]
        refine ⟨?_, ?_⟩
        · have := DGet.t k2.num k4
          rw [dictOf_some (keysR_nd F1.nd) (i := endOf I (addOne I n fdj j) n j) (by rw [List.getElem?_map, hget]; rfl)] at this
          exact this
        · have hll : (endsTo I fdj n j).length < sizeLine := by
            unfold endsTo
            rw [List.length_map, List.length_range]
            exact small1000 (by have := ok.k3; omega)
          have dp := DPut.k (k := letK I j) (v := nV (endOf I (addOne I n fdj j) n j)) k3 hll
          have hk : kV (letK I j) = .str ⟨#[lc]⟩ := by
            unfold letK
            rw [hgd]
            rfl
          rw [hk] at dp
          have nec : c ≠ ea := ne_of k1 k3 (by intro z; cases z)
          have C6 : CloP H0 (upd H5 ea (.dK (putK (endsTo I fdj n j) (letK I j) (nV (endOf I (addOne I n fdj j) n j))))) I (addOne I n fdj j) ra wa na ba rts5 bts := by
            exact k2.dict hea0 k3 hbne _
          refine ⟨_, dp, by rw [upd_ne nec]; exact k1, C6, ?_⟩
          rw [upd_same, putK_new _ (endsTo_none ok hj), endsTo_succ, hm, endsTo_app hnj]
          intro x hx
          rw [hent, ← hfd]
          exact goTo_mem I hn hx
      have ndk : ¬ keyR r ∈ (rowsOf fdj).map keyR ↔ ¬ r ∈ rowsOf fdj := not_congr keysR_mem
      have dg := DGet.t C2.num keyT
      by_cases hm : r ∈ rowsOf fdj
      · -- it is known
        have ha : addOne I n fdj j = fdj := by
          unfold addOne
          rw [hr, if_pos hm]
        obtain ⟨f1, H6, f2, f3, f4, f5⟩ := fin H2 rts' hc2 (by rw [ha]; exact C2) he2 keyT
        obtain ⟨i0, hi0⟩ := List.getElem?_of_mem hm
        rw [dictOf_some (keysR_nd Fj.nd) (i := i0) (by rw [List.getElem?_map, hi0]; rfl)] at dg
        refine ⟨_, rfl, _, rfl, c, CC, dx, _, _, rfl, hc2, TC.cl, TC.nN, Fc.num, na, _, rfl, dg, _, rfl, iteF ?_⟩
        refine ⟨_, rfl, c, CC, dx, _, _, rfl, hc2, TC.cl, TC.nN, Fc.num, _, rfl, na, _, rfl, f1, _, rfl, _, rfl, ea, H6, rfl, f2, _, _, rts', rfl, f3, ?_, ?_⟩
        · rw [hsucc]
          exact f4
        · rw [hsucc]
          exact f5
      · -- it is new
        have ha : addOne I n fdj j = fdj ++ [((ent fdj n).1 ++ [j], r)] := by
          unfold addOne
          rw [hr, if_neg hm]
        have hl1 : fdj.length + 1 ≤ 200 := by
          have := hmax (j + 1) (by omega)
          rw [hsucc, ha, List.length_append] at this
          exact this
        rw [dictOf_none (fun q => hm (keysR_mem.mp q))] at dg
        refine ⟨_, rfl, _, rfl, c, CC, dx, _, _, rfl, hc2, TC.cl, TC.nN, Fc.num, na, _, rfl, dg, _, rfl, iteT ?_⟩
        refine ⟨_, rfl, c, CC, dx, _, _, rfl, hc2, TC.cl, TC.nR, Fc.rows, ra, _, rfl, .inl (SqL.of C2.rows), rfl, _, rfl, ?_⟩
        have hne : decide (V.int (((rts'.map V.ref).length : Nat) : Int) = V.int 200) = false := by
          refine decide_eq_false fun e => ?_
          injection e with e
          rw [List.length_map, C2.rl] at e
          omega
        rw [hne]
        refine iteF ?_
        -- the three stores
        have hlen : (rts'.map V.ref).length = ((rowsOf fdj).map keyR).length := by rw [List.length_map, List.length_map, rowsOf_len, C2.rl]
        have dp := DPut.t (v := V.int (((rts'.map V.ref).length : Nat) : Int)) C2.num keyT (by rw [dictOf_len, ← hlen, List.length_map, C2.rl]; exact small1000 (by omega))
        have eput : putK (dictOf ((rowsOf fdj).map keyR)) (keyR r) (V.int (((rts'.map V.ref).length : Nat) : Int)) = dictOf ((rowsOf (addOne I n fdj j)).map keyR) := by
          rw [ha, hlen]
          show putK _ _ (nV _) = _
          rw [dictOf_put (fun q => hm (keysR_mem.mp q)), rowsOf_app, List.map_append]
          rfl
        rw [eput] at dp
        have nra : ra ≠ na := ne_of C2.rows C2.num (by intro z; cases z)
        have nwa : wa ≠ na := ne_of C2.words C2.num (by intro z; cases z)
        have nca : c ≠ na := ne_of hc2 C2.num (by intro z; cases z)
        have ncr : c ≠ ra := ne_of hc2 C2.rows (by intro z; cases z)
        have ncw : c ≠ wa := ne_of hc2 C2.words (by intro z; cases z)
        have nea : ea ≠ na := ne_of he2 C2.num (by intro z; cases z)
        have ner : ea ≠ ra := ne_of he2 C2.rows (by intro z; cases z)
        have new' : ea ≠ wa := ne_of he2 C2.words (by intro z; cases z)
        have nta : t ≠ na := ne_of h2t C2.num (by intro z; cases z)
        have ntr : t ≠ ra := ne_of h2t C2.rows (by intro z; cases z)
        have ntw : t ≠ wa := ne_of h2t C2.words (by intro z; cases z)
        have Ca := C2.add (t := t) (e := ((ent fdj n).1 ++ [j], r)) h2t
        rw [← ha] at Ca
        obtain ⟨f1, H6, f2, f3, f4, f5⟩ := fin _ _ (by rw [upd_ne ncw, upd_ne ncr, upd_ne nca]; exact hc2) Ca (by rw [upd_ne new', upd_ne ner, upd_ne nea]; exact he2) (by rw [upd_ne ntw, upd_ne ntr, upd_ne nta]; exact keyT)
        have w1 : ∀ o, (upd H2 na o) ra = some (.lst (rts'.map V.ref)) := fun o => by rw [upd_ne nra]; exact C2.rows
        have wl : (ent fdj n).1.length ≤ 200 := by have := Fj.wl n hnj; omega
        refine ⟨_, rfl, c, CC, dx, _, _, rfl, hc2, TC.cl, TC.nR, Fc.rows, ra, _, rfl, .inl (SqL.of C2.rows), _, rfl, c, CC, dx, _, _, rfl, hc2, TC.cl, TC.nN, Fc.num, _, rfl, na, _, rfl, dp, ?_⟩
        refine ⟨_, rfl, c, CC, dx, _, _, rfl, by rw [upd_ne nca]; exact hc2, TC.cl, TC.nR, Fc.rows, .inl ⟨rfl, _, SqL.of (w1 _)⟩, _, rfl, ra, _, _, rfl, rfl, w1 _, by rw [List.length_map, C2.rl]; exact small1000 (by omega), ?_⟩
        have w2 : ∀ o o', (upd (upd H2 na o) ra o') wa = some (.lst (fdj.map fun e => V.str (tx (wordL I e.1)))) := fun o o' => by rw [upd_ne (Ne.symm C2.d1), upd_ne nwa]; exact C2.words
        refine ⟨_, rfl, c, CC, dx, _, _, rfl, by rw [upd_ne ncr, upd_ne nca]; exact hc2, TC.cl, TC.nW, Fc.words, .inl ⟨rfl, _, SqL.of (w2 _ _)⟩, _, rfl, c, CC, dx, _, _, rfl, by rw [upd_ne ncr, upd_ne nca]; exact hc2, TC.cl, TC.nW, Fc.words, _, rfl, wa, _, _, _, rfl, rfl, SqL.of (w2 _ _), atI_nat (by rw [List.getElem?_map, ent_get hnj]; rfl), _, rfl, _, _, rfl, rfl, ?_, wa, _, _, rfl, rfl, w2 _ _, by rw [List.length_map]; exact small1000 (by omega), ?_⟩
        · rw [tx_len, wordL_len]
          show _ + 1 ≤ sizeLine
          have := small1000 (show (ent fdj n).1.length ≤ 1000 by omega)
          omega
        · have ew : tx (wordL I (ent fdj n).1) ++ (⟨#[lc]⟩ : Str) = tx (wordL I ((ent fdj n).1 ++ [j])) := by
            rw [← tx_one, tx_app]
            unfold wordL
            rw [List.map_append, List.map_cons, hgd]
            rfl
          rw [ew]
          refine ⟨_, rfl, c, CC, dx, _, _, rfl, by rw [upd_ne ncw, upd_ne ncr, upd_ne nca]; exact hc2, TC.cl, TC.nN, Fc.num, _, rfl, na, _, rfl, f1, _, rfl, _, rfl, ea, H6, rfl, f2, _, _, rts' ++ [t], rfl, f3, ?_, ?_⟩
          · rw [hsucc]
            exact f4
          · rw [hsucc]
            exact f5
    · rintro σ H1 ⟨y4, y5, rts', rfl, hc1, C1, he1⟩
      rw [tx_size, ok.gk] at C1 he1
      rw [← hgo] at C1 he1
      have hlt : bts.length < (bfs I (n + 1)).length := by
        rw [hbl, hgo]
        exact Nat.lt_of_lt_of_le hn (goTo_len _ _ _ _)
      subst hbl
      have hent : ent (bfs I (bts.length + 1)) bts.length = ent (bfs I bts.length) bts.length := by
        rw [hgo]
        exact goTo_ent I hn I.k
      have C3 := C1.done hlt he1 (fun x hx => by rw [hent, hgo]; exact goTo_mem I hn hx)
      refine ⟨_, rfl, c, CC, dx, _, _, rfl, hc1, TC.cl, TC.nB, Fc.beh, .inl ⟨rfl, _, SqL.of C1.beh⟩, _, rfl, ba, _, _, rfl, rfl, C1.beh, by rw [List.length_map]; exact small1000 (by omega), ?_⟩
      refine q _ rts' _ ?_ C3 (by rw [List.length_append]; rfl)
      rw [upd_ne (ne_of hc1 C1.beh (by intro z; cases z))]
      exact hc1
end
end N18
end
section
set_option Elab.async false
set_option linter.all false
set_option maxRecDepth 100000
set_option maxHeartbeats 4000000
/-! The levels: the ascending lists of the numbers of the tables of all words of one length. -/
namespace N18
def levStep (I : Inst) (L : List Nat) : List Nat := (List.range (all I).length).filter fun i => L.any fun a => (List.range I.k).any fun x => endOf I (all I) a x == i
def lev (I : Inst) : Nat → List Nat
  | 0 => [0]
  | n + 1 => levStep I (lev I n)
theorem levStep_mem {I : Inst} {L : List Nat} {i : Nat} : i ∈ levStep I L ↔ i < (all I).length ∧ ∃ a, a ∈ L ∧ ∃ x, x < I.k ∧ endOf I (all I) a x = i := by
  unfold levStep
  rw [List.mem_filter, List.mem_range, List.any_eq_true]
  refine and_congr_right fun _ => ⟨?_, ?_⟩
  · rintro ⟨a, ha, h⟩
    obtain ⟨x, hx, h⟩ := List.any_eq_true.mp h
    exact ⟨a, ha, x, List.mem_range.mp hx, beq_iff_eq.mp h⟩
  · rintro ⟨a, ha, x, hx, h⟩
    exact ⟨a, ha, List.any_eq_true.mpr ⟨x, List.mem_range.mpr hx, beq_iff_eq.mpr h⟩⟩
theorem asc_filter (n : Nat) (p : Nat → Bool) : List.Pairwise (fun a b => a < b) ((List.range n).filter p) := List.Pairwise.filter p List.pairwise_lt_range
theorem lev_asc (I : Inst) : ∀ n, List.Pairwise (fun a b => a < b) (lev I n)
  | 0 => by simp [lev]
  | n + 1 => asc_filter _ _
theorem lev_lt (I : Inst) : ∀ n i, i ∈ lev I n → i < (all I).length
  | 0, i, h => by
    rw [List.mem_singleton.mp h]
    exact (all_fd I).one
  | n + 1, i, h => (levStep_mem.mp h).1
theorem lev_len (I : Inst) (n : Nat) : (lev I n).length ≤ (all I).length := by
  have nd : (lev I n).Nodup := (lev_asc I n).imp fun h => Nat.ne_of_lt h
  have := nd.length_le_of_subset (l₂ := List.range (all I).length) fun i hi => List.mem_range.mpr (lev_lt I n i hi)
  rwa [List.length_range] at this
theorem asc_eq {a b : List Nat} (ha : List.Pairwise (fun x y => x < y) a) (hb : List.Pairwise (fun x y => x < y) b) (h : ∀ i, i ∈ a ↔ i ∈ b) : a = b := by
  have na : a.Nodup := ha.imp fun h => Nat.ne_of_lt h
  have nb : b.Nodup := hb.imp fun h => Nat.ne_of_lt h
  exact List.Perm.eq_of_pairwise (le := fun x y => x < y) (fun x y _ _ h1 h2 => (Nat.lt_asymm h1 h2).elim) ha hb ((List.perm_ext_iff_of_nodup na nb).mpr h)
/-- a level holds the tables of the words of its length -/
theorem lev_mem {I : Inst} (sm : Small I) : ∀ (n i : Nat), i ∈ lev I n ↔ i < (all I).length ∧ ∃ w, K18.Wd I.k w ∧ w.length = n ∧ K18.tb I.A I.s w = (ent (all I) i).2 := by
  intro n
  induction n with
  | zero =>
    intro i
    show i ∈ [0] ↔ _
    rw [List.mem_singleton]
    have h0 : (ent (all I) 0).2 = I.A := by
      obtain ⟨m, hm⟩ := bfs_app I (show 0 ≤ 200 by omega)
      show (ent (bfs I 200) 0).2 = _
      rw [hm, ent_app (by show 0 < 1; decide)]
      rfl
    constructor
    · rintro rfl
      exact ⟨(all_fd I).one, [], fun x hx => (nomatch hx), rfl, by rw [K18.tb_nil, h0]⟩
    · rintro ⟨hi, w, _, hw, ht⟩
      have : w = [] := List.eq_nil_of_length_eq_zero hw
      subst this
      rw [K18.tb_nil] at ht
      have h1 := rowsOf_get hi
      have h2 := rowsOf_get (all_fd I).one
      rw [h0, ht] at h2
      exact nd_get (all_fd I).nd h1 h2
  | succ n ih =>
    intro i
    show i ∈ levStep I (lev I n) ↔ _
    rw [levStep_mem]
    refine and_congr_right fun hi => ⟨?_, ?_⟩
    · rintro ⟨a, ha, x, hx, rfl⟩
      obtain ⟨hal, w, hw, hl, ht⟩ := (ih a).mp ha
      refine ⟨w ++ [x], ?_, by rw [List.length_append, hl]; rfl, ?_⟩
      · intro y hy
        rcases List.mem_append.mp hy with h | h
        · exact hw y h
        · rw [List.mem_singleton.mp h]
          exact hx
      · rw [K18.tb_snoc, ht, sm.end_row hal hx]
        rfl
    · rintro ⟨w, hw, hl, ht⟩
      rcases List.eq_nil_or_concat w with rfl | ⟨u, x, rfl⟩
      · simp at hl
      · rw [List.concat_eq_append] at hw hl ht
        have hul : u.length = n := by
          rw [List.length_append] at hl
          simpa using hl
        have hu : K18.Wd I.k u := fun y hy => hw y (List.mem_append_left _ hy)
        have hx : x < I.k := hw x (List.mem_append_right _ (List.mem_singleton.mpr rfl))
        obtain ⟨a, ha⟩ := List.getElem?_of_mem (sm.cover n u hul hu)
        have hal : a < (all I).length := by
          have := (List.getElem?_eq_some_iff.mp ha).1
          rwa [rowsOf_len] at this
        rw [rowsOf_get hal] at ha
        have ha := Option.some.inj ha
        refine ⟨a, (ih a).mpr ⟨hal, u, hu, hul, ha.symm⟩, x, hx, ?_⟩
        have h1 := rowsOf_get (sm.end_lt hal hx)
        have h2 := rowsOf_get hi
        rw [sm.end_row hal hx] at h1
        rw [← ht, K18.tb_snoc, ← ha] at h2
        exact nd_get (all_fd I).nd h1 h2
/-- a level comes again within 4425 -/
theorem lev_again {I : Inst} (ok : I.Ok) (sm : Small I) : ∃ m p, 0 < p ∧ m + p ≤ 4425 ∧ lev I m = lev I (m + p) := by
  obtain ⟨m, p, hp, hmp, h⟩ := K18.lev_tables (k := I.k) (s := I.s) (A := I.A) ok.ks (rowsOf (all I)) (by rw [rowsOf_len]; exact sm.len) (fun w hw => sm.cover w.length w rfl hw)
  refine ⟨m, p, hp, hmp, asc_eq (lev_asc I _) (lev_asc I _) fun i => ?_⟩
  rw [lev_mem sm, lev_mem sm]
  refine and_congr_right fun _ => ?_
  have := h (ent (all I) i).2
  constructor
  · rintro ⟨w, h1, h2, h3⟩
    exact this.mp ⟨w, h1, h2, h3⟩
  · rintro ⟨w, h1, h2, h3⟩
    exact this.mpr ⟨w, h1, h2, h3⟩
/-- the first level that was there before, at T; its first place, at m -/
structure Again (I : Inst) (m T : Nat) : Prop where
  lt : m < T
  le : T ≤ 4425
  eq : lev I T = lev I m
  nd : ((List.range T).map (lev I)).Nodup
theorem again_exists {I : Inst} (ok : I.Ok) (sm : Small I) : ∃ m T, Again I m T := by
  obtain ⟨m0, p0, hp0, hmp, h0⟩ := lev_again ok sm
  obtain ⟨T, ⟨m, hm, he⟩, hmin⟩ := K18.exists_least (fun T => ∃ m, m < T ∧ lev I T = lev I m) ⟨m0 + p0, m0, by omega, h0.symm⟩
  refine ⟨m, T, hm, ?_, he, ?_⟩
  · apply Classical.byContradiction
    intro q
    exact hmin (m0 + p0) (by omega) ⟨m0, by omega, h0.symm⟩
  · rw [List.nodup_iff_pairwise_ne, List.pairwise_map]
    refine List.Pairwise.imp_of_mem ?_ (List.pairwise_lt_range (n := T))
    intro a b ha hb hab e
    exact hmin b (List.mem_range.mp hb) ⟨a, hab, e.symm⟩
theorem Again.uniq {I : Inst} {m T : Nat} (a : Again I m T) {j : Nat} (hj : j < T) (h : lev I j = lev I T) : j = m := by
  have g : ∀ i, i < T → ((List.range T).map (lev I))[i]? = some (lev I i) := by
    intro i hi
    rw [List.getElem?_map, List.getElem?_range hi]
    rfl
  have h1 := g j hj
  rw [h, a.eq] at h1
  exact nd_get a.nd h1 (g m a.lt)
theorem Again.new {I : Inst} {m T : Nat} (a : Again I m T) {j : Nat} (hj : j < T) : lev I j ∉ (List.range j).map (lev I) := by
  intro h
  obtain ⟨i, hi, e⟩ := List.mem_map.mp h
  rw [List.mem_range] at hi
  have g : ∀ i, i < T → ((List.range T).map (lev I))[i]? = some (lev I i) := by
    intro i hi
    rw [List.getElem?_map, List.getElem?_range hi]
    rfl
  have h1 := g i (by omega)
  rw [e] at h1
  have := nd_get a.nd h1 (g j hj)
  omega
/-- from m on the levels come again and again -/
theorem Again.later {I : Inst} {m T : Nat} (a : Again I m T) : ∀ n, m ≤ n → lev I (n + (T - m)) = lev I n := by
  intro n hn
  obtain ⟨d, rfl⟩ : ∃ d, n = m + d := ⟨n - m, by omega⟩
  have hT := a.lt
  induction d with
  | zero =>
    have : m + 0 + (T - m) = T := by omega
    rw [this]
    exact a.eq
  | succ d ih =>
    have e1 : m + (d + 1) + (T - m) = (m + d + (T - m)) + 1 := by omega
    rw [e1]
    show levStep I (lev I (m + d + (T - m))) = levStep I (lev I (m + d))
    rw [ih (by omega)]
/-- the numbers of the long tables, ascending -/
def longL (I : Inst) (m T : Nat) : List Nat := (List.range (all I).length).filter fun i => (List.range T).any fun n => decide (m ≤ n) && (lev I n).contains i
theorem longL_mem {I : Inst} {m T i : Nat} : i ∈ longL I m T ↔ i < (all I).length ∧ ∃ n, m ≤ n ∧ n < T ∧ i ∈ lev I n := by
  unfold longL
  rw [List.mem_filter, List.mem_range, List.any_eq_true]
  refine and_congr_right fun _ => ⟨?_, ?_⟩
  · rintro ⟨n, hn, h⟩
    rw [Bool.and_eq_true, decide_eq_true_eq, List.contains_iff_mem] at h
    exact ⟨n, h.1, List.mem_range.mp hn, h.2⟩
  · rintro ⟨n, h1, h2, h3⟩
    exact ⟨n, List.mem_range.mpr h2, by rw [Bool.and_eq_true, decide_eq_true_eq, List.contains_iff_mem]; exact ⟨h1, h3⟩⟩
theorem longL_asc (I : Inst) (m T : Nat) : List.Pairwise (fun a b => a < b) (longL I m T) := asc_filter _ _
/-- every level from m on is one of those of the round -/
theorem Again.into {I : Inst} {m T : Nat} (a : Again I m T) : ∀ n, m ≤ n → ∃ j, m ≤ j ∧ j < T ∧ lev I n = lev I j := by
  intro n
  induction n using Nat.strongRecOn with
  | ind n ih =>
    intro hn
    by_cases h : n < T
    · exact ⟨n, hn, h, rfl⟩
    · have hT := a.lt
      obtain ⟨j, h1, h2, h3⟩ := ih (n - (T - m)) (by omega) (by omega)
      have := a.later (n - (T - m)) (by omega)
      have e : n - (T - m) + (T - m) = n := by omega
      rw [e] at this
      exact ⟨j, h1, h2, this.trans h3⟩
/-- .. and each of the round comes within any stretch of its length -/
theorem Again.within {I : Inst} {m T : Nat} (a : Again I m T) {j : Nat} (h1 : m ≤ j) (h2 : j < T) : ∀ b, m ≤ b → ∃ n, b ≤ n ∧ n < b + (T - m) ∧ lev I n = lev I j := by
  intro b
  induction b with
  | zero =>
    intro hb
    exact ⟨j, by omega, by have := a.lt; omega, rfl⟩
  | succ b ih =>
    intro hb
    by_cases e : m = b + 1
    · exact ⟨j, by omega, by omega, rfl⟩
    · obtain ⟨n, g1, g2, g3⟩ := ih (by omega)
      by_cases q : n = b
      · subst q
        exact ⟨n + (T - m), by have := a.lt; omega, by omega, (a.later n (by omega)).trans g3⟩
      · exact ⟨n, by omega, by omega, g3⟩
end N18
end
section
set_option Elab.async false
set_option linter.all false
set_option maxRecDepth 100000
set_option maxHeartbeats 4000000
namespace N18
open PySem PySem.Spec PyProof.Rows L2 TL PySem.W
/-! ### a dict of numbers, each with True -/
def trueD (ks : List Nat) : List (Key × V) := ks.map fun m : Nat => ((Sum.inl (m : Int) : Key), V.bl true)
def addN (ks : List Nat) (m : Nat) : List Nat := if m ∈ ks then ks else ks ++ [m]
theorem addN_mem {ks : List Nat} {m z : Nat} : z ∈ addN ks m ↔ z ∈ ks ∨ z = m := by
  unfold addN
  split
  · rename_i h
    exact ⟨.inl, fun q => q.elim id fun e => e ▸ h⟩
  · rw [List.mem_append, List.mem_singleton]
theorem addN_nd {ks : List Nat} {m : Nat} (h : ks.Nodup) : (addN ks m).Nodup := by
  unfold addN
  split
  · exact h
  · rename_i hm
    rw [List.nodup_append]
    refine ⟨h, by simp, fun a ha b hb e => ?_⟩
    rw [List.mem_singleton] at hb
    exact hm (by rw [← hb, ← e]; exact ha)
theorem addN_len (ks : List Nat) (m : Nat) : (addN ks m).length ≤ ks.length + 1 := by
  unfold addN
  split
  · exact Nat.le_succ _
  · rw [List.length_append]
    exact Nat.le_refl _
theorem trueD_val {ks : List Nat} {m : Nat} : valV (trueD ks) (Sum.inl (m : Int)) = if m ∈ ks then some (.bl true) else none := by
  induction ks with
  | nil => rfl
  | cons a ks ih =>
    show valV (((Sum.inl (a : Int) : Key), V.bl true) :: trueD ks) _ = _
    by_cases e : a = m
    · subst e
      rw [valV_pos (p := ((Sum.inl (a : Int) : Key), V.bl true)) rfl, if_pos List.mem_cons_self]
    · have ne : ¬ (Sum.inl (a : Int) : Key) = Sum.inl (m : Int) := fun q => e (Int.ofNat.inj (Sum.inl.inj q))
      rw [valV_neg (p := ((Sum.inl (a : Int) : Key), V.bl true)) ne, ih]
      by_cases hm : m ∈ ks
      · rw [if_pos hm, if_pos (List.mem_cons_of_mem _ hm)]
      · rw [if_neg hm, if_neg fun q => (List.mem_cons.mp q).elim (fun q => e q.symm) hm]
theorem trueD_put (ks : List Nat) (m : Nat) : putK (trueD ks) (Sum.inl (m : Int)) (.bl true) = trueD (addN ks m) := by
  unfold addN
  split
  · rename_i h
    unfold putK
    rw [valV_any, trueD_val, if_pos h]
    show List.map _ _ = _
    unfold trueD
    rw [List.map_map]
    refine List.map_congr_left fun a _ => ?_
    show (if (Sum.inl (a : Int) : Key) = Sum.inl (m : Int) then _ else _) = _
    split <;> rfl
  · rename_i h
    rw [putK_new _ (by rw [trueD_val, if_neg h])]
    unfold trueD
    rw [List.map_append]
    rfl
theorem trueD_keys (ks : List Nat) : (trueD ks).map (fun kv => kV kv.1) = (ks.map fun m : Nat => (m : Int)).map V.int := by
  unfold trueD
  rw [List.map_map, List.map_map]
  rfl
theorem trueD_len (ks : List Nat) : (trueD ks).length = ks.length := List.length_map _
/-- sorted gives the ascending list -/
theorem sorted_asc {ks L : List Nat} {ns : List Int} (hn : ks.Nodup) (hL : List.Pairwise (fun a b => a < b) L) (h : ∀ z, z ∈ ks ↔ z ∈ L) (hp : ns.Perm (ks.map fun m : Nat => (m : Int))) (hs : ns.Pairwise (· ≤ ·)) : ns.map V.int = L.map nV := by
  have nL : L.Nodup := hL.imp fun h => Nat.ne_of_lt h
  have p2 : ks.Perm L := (List.perm_ext_iff_of_nodup hn nL).mpr h
  have e : ns = L.map fun m : Nat => (m : Int) := by
    refine List.Perm.eq_of_pairwise (le := fun a b => a ≤ b) (fun a b _ _ h1 h2 => Int.le_antisymm h1 h2) hs ?_ (hp.trans (p2.map _))
    rw [List.pairwise_map]
    exact hL.imp fun h => by omega
  rw [e, List.map_map]
  rfl
section
variable {P : Program} {w : World} {K : PySem.W.Frag} {mg : Str → Option Value} {base : Heap}
/-! ### Closure.next_level -/
def spNextLevel (CC : Addr) : Sp := fun vs H Q _ => ∃ (H0 : Hp) (c dx : Addr) (fs : List (Str × V)) (I : Inst) (ra wa na ba : Addr) (rts bts : List Addr) (la : Addr) (L : List Nat),
  vs = [.ref c, .ref la] ∧ I.Ok ∧ Small I ∧ H c = some (.ins CC dx fs) ∧ CFld fs ra wa na ba ∧ CloP H0 H I (all I) ra wa na ba rts bts ∧ bts.length = (all I).length ∧ H la = some (.tup (L.map nV)) ∧ (∀ a ∈ L, a < (all I).length) ∧
  ∀ (H' : Hp) (t : Addr), Same H H' → H t = none → H' t = some (.tup ((levStep I L).map nV)) → Q (.ref t) H'
theorem scNextLevel : FnScope ["self", "level", "found", "at", "end"] ["self", "level"] (defScope sNextLevel) := ⟨rfl, rfl, rfl, by decide +kernel, rfl, by decide +kernel, by decide +kernel⟩
theorem ok_nextLevel {CC f : Addr} {fd : FuncData} (F : Fun K "next_level" "Closure.next_level" sNextLevel f fd) (TC : CTxt K CC) (B : Bt mg) : FnOk P w K mg base CX0 1 f fd ["self", "level"] (spNextLevel CC) := by
  refine F.ok scNextLevel (fun vs H Q E h => ?_) (fun cdv A outer s H vs Q E hr h => ?_)
  · obtain ⟨H0, c, dx, fs, I, ra, wa, na, ba, rts, bts, la, L, rfl, _⟩ := h
    rfl
  · obtain ⟨H0, c, dx, fs, I, ra, wa, na, ba, rts, bts, la, L, rfl, ok, sm, hc, Fc, Cp, hbl, hla, hL, q⟩ := h
    have hu := hu_of hr
    have hN := sm.len
    refine ⟨_, pss_cons (ps_set (i := 2) scNextLevel.nd rfl (.inl rfl) pe_dnewK)
      (pss_cons (ps_for PassesOwn.never rfl (pi_tup (pv 1)) (pg_name (i := 3) scNextLevel.nd rfl (.inl rfl))
        (pss_one (ps_lock (ps_for PassesOwn.never rfl (pi_values (pe_ix ix_list (pe_fld (pv 0) rfl) (pv 3) (fun _ _ => rfl))) (pg_name (i := 4) scNextLevel.nd rfl (.inl rfl))
          (pss_one (ps_dput hu (pv 2) (pv 4) pe_bl rfl))))))
      (pss_one (ps_ret (pe_callTy call_tuple_of (by rfl) B.tuple (by decide +kernel) (pa_cons (pe_callB cr_sortedI (by rfl) B.sorted (by decide +kernel) (pa_cons (pe_callTy (call_list_dK rfl) (by rfl) B.list (by decide +kernel) (pa_cons (pv 2) pa_nil)) pa_nil)) pa_nil))))), ?_⟩
    intro fa hfa
    have s1 : Same H (upd H fa (.dK [])) := same_upd hfa
    refine ⟨_, rfl, la, rfl, ⟨_, s1.sqT hla⟩, for_it (walk_tup (xs := L.map nV)) (fun i σ H' => ∃ (y3 y4 : Option V) (ks : List Nat), σ = [some (.ref c), some (.ref la), some (.ref fa), y3, y4] ∧ Same H H' ∧ H' fa = some (.dK (trueD ks)) ∧ ks.Nodup ∧
      (∀ z, z ∈ ks ↔ ∃ a, a ∈ L.take i ∧ ∃ x, x < I.k ∧ endOf I (all I) a x = z)) ⟨none, none, [], rfl, s1, upd_same, List.nodup_nil, fun z => ⟨fun h => (nomatch h), fun ⟨a, h, _⟩ => (nomatch h)⟩⟩ ?_ ?_ ?_⟩
    · rintro i σ H' _ ⟨y3, y4, ks, rfl, s2, _⟩
      exact s2.sqT hla
    · rintro i v σ H1 H1' hi ⟨y3, y4, ks, rfl, s2, hf, hnd, hks⟩ ⟨rfl, hv⟩
      obtain ⟨hi2, rfl⟩ := nv_getI hv
      have hLi : L[i]? = some (L.getD i 0) := by rw [List.getD_eq_getElem?_getD, List.getElem?_eq_getElem hi2]; rfl
      generalize hat : L.getD i 0 = at' at *
      have hatN : at' < (all I).length := hL _ (List.mem_of_getElem? hLi)
      obtain ⟨d, hd⟩ : ∃ d, bts[at']? = some d := ⟨bts[at']'(by omega), List.getElem?_eq_getElem _⟩
      have hdv := Cp.bv at' d hd
      have hd1 := s2 _ _ hdv
      have nfd : fa ≠ d := Ne.symm (ne_of_none hdv hfa)
      refine ⟨d, _, hd1, trivial, fun od => ?_⟩
      generalize hu2 : HO.dK (endsTo I (all I) at' I.k) = u at *
      have lk : ∀ b o, b ≠ d → H1' b = some o → (upd H1' d (.frz od u)) b = some o := fun b o h1 h2 => by rw [upd_ne h1]; exact h2
      have ncd : c ≠ d := ne_of hc hdv (by rw [← hu2]; intro z; cases z)
      have nbd : ba ≠ d := ne_of Cp.beh hdv (by rw [← hu2]; intro z; cases z)
      refine ⟨_, rfl, c, CC, dx, _, _, rfl, lk _ _ ncd (s2 _ _ hc), TC.cl, TC.nB, Fc.beh, _, rfl, ba, _, _, .ref d, rfl, rfl, SqL.of (lk _ _ nbd (s2 _ _ Cp.beh)), atI_nat (by rw [List.getElem?_map, hd]; rfl), d, od, endsTo I (all I) at' I.k, rfl, by rw [hu2]; exact upd_same, ?_⟩
      refine for_it (walk_values (kvs := endsTo I (all I) at' I.k)) (fun j σ H' => ∃ (y4 : Option V) (ks : List Nat), σ = [some (.ref c), some (.ref la), some (.ref fa), some (nV at'), y4] ∧ H' d = some (.frz od u) ∧ (∀ b o, b ≠ d → H b = some o → H' b = some o) ∧ H' fa = some (.dK (trueD ks)) ∧ ks.Nodup ∧
        (∀ z, z ∈ ks ↔ (∃ a, a ∈ L.take i ∧ ∃ x, x < I.k ∧ endOf I (all I) a x = z) ∨ ∃ x, x < j ∧ endOf I (all I) at' x = z)) ⟨y4, ks, rfl, upd_same, fun b o h1 h2 => lk b o h1 (s2 _ _ h2), by rw [upd_ne nfd]; exact hf, hnd, fun z => by rw [hks]; exact ⟨.inl, fun h => h.elim id fun ⟨x, hx, _⟩ => (Nat.not_lt_zero _ hx).elim⟩⟩ ?_ ?_ ?_
      · rintro j σ H' _ ⟨y4, ks, rfl, h1, _⟩
        rw [hu2]
        exact h1
      · rintro j v σ H2 H2' hj ⟨y4, ks2, rfl, g1, g2, g3, g4, g5⟩ ⟨rfl, kk, hv⟩
        have hjk : j < I.k := by
          unfold endsTo at hj
          rwa [List.length_map, List.length_range] at hj
        unfold endsTo at hv
        rw [List.getElem?_map, List.getElem?_range hjk] at hv
        have hv := Option.some.inj hv
        injection hv with _ hv
        subst hv
        have hz : endOf I (all I) at' j < (all I).length := sm.end_lt hatN hjk
        have klen : ks2.length ≤ 200 := by
          have := g4.length_le_of_subset (l₂ := List.range (all I).length) (fun z hz => by
            rw [List.mem_range]
            rcases (g5 z).mp hz with ⟨a, ha, x, hx, rfl⟩ | ⟨x, hx, rfl⟩
            · exact sm.end_lt (hL a (List.mem_of_mem_take ha)) hx
            · exact sm.end_lt hatN (by omega))
          rw [List.length_range] at this
          omega
        have dp := DPut.k (k := (Sum.inl ((endOf I (all I) at' j : Nat) : Int) : Key)) (v := .bl true) g3 (by rw [trueD_len]; exact small1000 (by omega))
        rw [trueD_put] at dp
        refine ⟨_, rfl, _, rfl, fa, _, rfl, dp, _, addN ks2 (endOf I (all I) at' j), rfl, by rw [upd_ne (Ne.symm nfd)]; exact g1, fun b o h1 h2 => ?_, upd_same, addN_nd g4, fun z => ?_⟩
        · rw [upd_ne (ne_of_none h2 hfa)]
          exact g2 b o h1 h2
        · rw [addN_mem, g5]
          constructor
          · rintro ((h | ⟨x, hx, h⟩) | h)
            · exact .inl h
            · exact .inr ⟨x, by omega, h⟩
            · exact .inr ⟨j, by omega, h.symm⟩
          · rintro (h | ⟨x, hx, h⟩)
            · exact .inl (.inl h)
            · by_cases e : x = j
              · subst e
                exact .inr h.symm
              · exact .inl (.inr ⟨x, by omega, h⟩)
      · rintro σ H2 ⟨y4, ks2, rfl, g1, g2, g3, g4, g5⟩
        refine ⟨g1, _, _, ks2, rfl, fun b o hb => ?_, by rw [upd_ne nfd]; exact g3, g4, fun z => ?_⟩
        · by_cases e : b = d
          · subst e
            rw [upd_same, ← hdv]
            exact hb
          · rw [upd_ne e]
            exact g2 b o e hb
        · have hlk : (endsTo I (all I) at' I.k).length = I.k := by
            unfold endsTo
            rw [List.length_map, List.length_range]
          rw [hlk] at g5
          rw [g5, take_snoc hLi]
          constructor
          · rintro (⟨a, ha, h⟩ | h)
            · exact ⟨a, List.mem_append_left _ ha, h⟩
            · exact ⟨at', List.mem_append_right _ (List.mem_singleton.mpr rfl), h⟩
          · rintro ⟨a, ha, h⟩
            rcases List.mem_append.mp ha with ha | ha
            · exact .inl ⟨a, ha, h⟩
            · rw [List.mem_singleton.mp ha] at h
              exact .inr h
    · rintro σ H1 ⟨y3, y4, ks, rfl, s2, hf, hnd, hks⟩
      rw [List.length_map, List.take_length] at hks
      refine ⟨_, rfl, fa, _, rfl, hf, fun l hl => ?_⟩
      rw [trueD_keys]
      refine ⟨l, _, rfl, SqL.of upd_same, fun ns p hp hs hpn => ?_⟩
      have hL2 : ∀ z, z ∈ ks ↔ z ∈ levStep I L := by
        intro z
        rw [hks, levStep_mem]
        constructor
        · rintro ⟨a, ha, x, hx, rfl⟩
          exact ⟨sm.end_lt (hL a ha) hx, a, ha, x, hx, rfl⟩
        · rintro ⟨_, h⟩
          exact h
      rw [sorted_asc hnd (asc_filter _ _) hL2 hp hs]
      refine ⟨p, _, rfl, .inl ⟨SqL.of upd_same, fun t ht => ?_⟩⟩
      exact q _ t (((s2.trans (same_upd hl)).trans (same_upd hpn)).trans (same_upd ht)) (((s2.trans (same_upd hl)).trans (same_upd hpn)).free ht) upd_same
end
end N18
end
section
set_option Elab.async false
set_option linter.all false
set_option maxRecDepth 100000
set_option maxHeartbeats 4000000
namespace N18
open PySem PySem.Spec PyProof.Rows L2 TL PySem.W
/-- no attribute hides a method -/
structure CMeth (fs : List (Str × V)) : Prop where
  go : fs.lookup ("go_on" : Str) = none
  nl : fs.lookup ("next_level" : Str) = none
  lv : fs.lookup ("levels" : Str) = none
  fw : fs.lookup ("first_word" : Str) = none
theorem CMeth.put {fs : List (Str × V)} (h : CMeth fs) {f : Str} {v : V} (n1 : ¬ ("go_on" : Str) = f) (n2 : ¬ ("next_level" : Str) = f) (n3 : ¬ ("levels" : Str) = f) (n4 : ¬ ("first_word" : Str) = f) : CMeth (putF f v fs) :=
  ⟨by rw [lookup_putF, if_neg n1]; exact h.go, by rw [lookup_putF, if_neg n2]; exact h.nl, by rw [lookup_putF, if_neg n3]; exact h.lv, by rw [lookup_putF, if_neg n4]; exact h.fw⟩
theorem CFld.put {fs : List (Str × V)} {ra wa na ba : Addr} (h : CFld fs ra wa na ba) {f : Str} {v : V} (n1 : ¬ ("rows" : Str) = f) (n2 : ¬ ("words" : Str) = f) (n3 : ¬ ("number" : Str) = f) (n4 : ¬ ("behind" : Str) = f) (hl : fs.length ≤ 19) : CFld (putF f v fs) ra wa na ba :=
  ⟨by rw [lookup_putF, if_neg n1]; exact h.rows, by rw [lookup_putF, if_neg n2]; exact h.words, by rw [lookup_putF, if_neg n3]; exact h.num, by rw [lookup_putF, if_neg n4]; exact h.beh, by have := length_putF f v fs; omega⟩
/-- the instance itself is changed -/
theorem CloP.inst {H0 H : Hp} {I : Inst} {fd : List Ent} {ra wa na ba c CC dx : Addr} {rts bts : List Addr} {fs : List (Str × V)} (k : CloP H0 H I fd ra wa na ba rts bts) (h0 : H0 c = none) (hc : H c = some (.ins CC dx fs)) (o : HO) : CloP H0 (upd H c o) I fd ra wa na ba rts bts := by
  have keep : ∀ b x, b ≠ c → H b = some x → (upd H c o) b = some x := by
    intro b x h1 h2
    rw [upd_ne h1]
    exact h2
  refine ⟨?_, k.d1, k.d2, k.d3, k.r0, k.w0, k.n0, k.b0, ?_, k.rl, ?_, ?_, ?_, ?_, k.bl, ?_, k.cl⟩
  · intro b x h
    exact keep b x (ne_of_none h h0) (k.same _ _ h)
  · exact keep _ _ (ne_of k.rows hc (by intro z; cases z)) k.rows
  · intro i t h
    have := k.rv i t h
    exact keep _ _ (ne_of this hc (by intro z; cases z)) this
  · exact keep _ _ (ne_of k.words hc (by intro z; cases z)) k.words
  · exact keep _ _ (ne_of k.num hc (by intro z; cases z)) k.num
  · exact keep _ _ (ne_of k.beh hc (by intro z; cases z)) k.beh
  · intro i u h
    have := k.bv i u h
    exact keep _ _ (ne_of this hc (by intro z; cases z)) this
theorem cut_from (xs : List V) (m : Nat) : cutV xs (some (m : Int)) none = xs.drop m := by
  unfold cutV
  rw [show HT.sIx xs.length 0 (some (m : Int)) = min m xs.length from HT.sIx_nat xs.length 0 m, HT.sIx_none]
  by_cases h : m ≤ xs.length
  · rw [Nat.min_eq_left h, List.take_of_length_le (by rw [List.length_drop]; exact Nat.le_refl _)]
  · rw [Nat.min_eq_right (by omega), List.drop_length, List.drop_of_length_le (by omega)]
    exact List.take_nil
def levK (I : Inst) (n : Nat) : List (List Key) := (List.range n).map fun j => keyR (lev I j)
theorem levK_succ (I : Inst) (n : Nat) : levK I (n + 1) = levK I n ++ [keyR (lev I n)] := by
  unfold levK
  rw [List.range_succ, List.map_append]
  rfl
theorem levK_len (I : Inst) (n : Nat) : (levK I n).length = n := by
  unfold levK
  rw [List.length_map, List.length_range]
theorem levK_mem {I : Inst} {n : Nat} {L : List Nat} : keyR L ∈ levK I n ↔ L ∈ (List.range n).map (lev I) := by
  have : levK I n = ((List.range n).map (lev I)).map keyR := by
    unfold levK
    rw [List.map_map]
    rfl
  rw [this]
  exact keysR_mem
theorem levK_nd {I : Inst} {m T : Nat} (a : Again I m T) : (levK I T).Nodup := by
  have : levK I T = ((List.range T).map (lev I)).map keyR := by
    unfold levK
    rw [List.map_map]
    rfl
  rw [this]
  exact keysR_nd a.nd
section
variable {P : Program} {w : World} {K : PySem.W.Frag} {mg : Str → Option Value} {base : Heap}
/-! ### Closure.levels -/
def spLevels (CC : Addr) : Sp := fun vs H Q _ => ∃ (H0 : Hp) (c dx : Addr) (fs : List (Str × V)) (I : Inst) (ra wa na ba : Addr) (rts bts : List Addr) (m T : Nat),
  vs = [.ref c] ∧ I.Ok ∧ Small I ∧ H0 c = none ∧ H c = some (.ins CC dx fs) ∧ CFld fs ra wa na ba ∧ CMeth fs ∧ fs.length ≤ 10 ∧ CloP H0 H I (all I) ra wa na ba rts bts ∧ bts.length = (all I).length ∧ Again I m T ∧
  ∀ (H' : Hp) (fs' : List (Str × V)) (lo : Addr), H' c = some (.ins CC dx fs') → CFld fs' ra wa na ba → CMeth fs' → fs'.lookup ("start" : Str) = some (nV m) → fs'.lookup ("period" : Str) = some (nV (T - m)) → fs'.lookup ("longs" : Str) = some (.ref lo) →
    H0 lo = none → H' lo = some (.lst ((longL I m T).map nV)) → CloP H0 H' I (all I) ra wa na ba rts bts → Q .non H'
theorem scLevels : FnScope ["self", "level", "seen", "order", "long_ones", "known", "at"] ["self"] (defScope sLevels) := ⟨rfl, rfl, rfl, by decide +kernel, rfl, by decide +kernel, by decide +kernel⟩
theorem ok_levels {CC f g : Addr} {fd gd : FuncData} (F : Fun K "levels" "Closure.levels" sLevels f fd) (TC : CTxt K CC) (B : Bt mg) (G : FnOk P w K mg base CX0 1 g gd ["self", "level"] (spNextLevel CC)) (mG : Meth K CC "next_level" g) (bG : Binds K gd ["self", "level"] []) :
    FnOk P w K mg base CX0 2 f fd ["self"] (spLevels CC) := by
  refine F.ok scLevels (fun vs H Q E h => ?_) (fun cdv A outer s H vs Q E hr h => ?_)
  · obtain ⟨H0, c, dx, fs, I, ra, wa, na, ba, rts, bts, m, T, rfl, _⟩ := h
    rfl
  · obtain ⟨H0, c, dx, fs, I, ra, wa, na, ba, rts, bts, m, T, rfl, ok, sm, hc0, hc, Fc, Mc, hfl, Cp, hbl, ag, q⟩ := h
    have hu := hu_of hr
    have hN := sm.len
    have hT := ag.le
    have hmT := ag.lt
    refine ⟨_, pss_cons (ps_set (i := 1) scLevels.nd rfl (.inl rfl) (pe_tup (pa_cons pe_int pa_nil)))
      (pss_cons (ps_set (i := 2) scLevels.nd rfl (.inl rfl) pe_dnewT)
      (pss_cons (ps_set (i := 3) scLevels.nd rfl (.inl rfl) (pe_lst pa_nil))
      (pss_cons (ps_while PassesOwn.never (pt_cmp (pc_dnotin hu (pv 1) (pv 2)))
        (pss_cons (ps_dput hu (pv 2) (pv 1) (pe_callB call_len_seq (by rfl) B.len PySem.boot_len (pa_cons (pv 3) pa_nil)) rfl)
        (pss_cons (ps_expr (pe_bm PySem.F.plainAttrs_list PySem.F.slot_list_append PySem.F.type_list_append mt_append (pv 3) (pa_cons (pv 1) pa_nil)))
        (pss_one (ps_set (i := 1) scLevels.nd rfl (.inl rfl) (pe_meth (pv 0) TC.cl mG G hr bG .nil pass0 (pa_cons (pv 1) pa_nil)))))))
      (pss_cons (ps_fld (pv 0) (pe_dget hu (pv 2) (pv 1) (fun _ _ => rfl)) rfl)
      (pss_cons (ps_fld (pv 0) (pe_op op_sub (pe_callB call_len_seq (by rfl) B.len PySem.boot_len (pa_cons (pv 3) pa_nil)) (pe_fld (pv 0) rfl)) rfl)
      (pss_cons (ps_set (i := 4) scLevels.nd rfl (.inl rfl) pe_dnewK)
      (pss_cons (ps_for PassesOwn.never rfl (pi_list (pe_slice sl_list (pv 3) (po_some (pe_fld (pv 0) rfl)) po_none)) (pg_name (i := 5) scLevels.nd rfl (.inl rfl))
        (pss_one (ps_for PassesOwn.never rfl (pi_tup (pv 5)) (pg_name (i := 6) scLevels.nd rfl (.inl rfl)) (pss_one (ps_dput hu (pv 4) (pv 6) pe_bl rfl)))))
      (pss_one (ps_fld (pv 0) (pe_callB cr_sortedI (by rfl) B.sorted (by decide +kernel) (pa_cons (pe_callTy (call_list_dK rfl) (by rfl) B.list (by decide +kernel) (pa_cons (pv 4) pa_nil)) pa_nil)) rfl))))))))), ?_⟩
    -- level = (0,); seen = {}; order = []
    refine ⟨by show 1 ≤ sizeLine; decide, fun l0 hl0 => ?_⟩
    intro sa hsa
    refine ⟨Nat.zero_le _, fun oa hoa => ?_⟩
    generalize hH1 : upd H l0 (.tup [.int 0]) = H1 at *
    have s1 : Same H H1 := by rw [← hH1]; exact same_upd hl0
    have hl1 : H1 l0 = some (.tup [.int 0]) := by rw [← hH1]; exact upd_same
    have s2 : Same H (upd (upd H1 sa (.dT [])) oa (.lst [])) := (s1.trans (same_upd hsa)).trans (same_upd hoa)
    have hsaH : H sa = none := s1.free hsa
    have hoaH : H oa = none := (s1.trans (same_upd hsa)).free hoa
    have nso : sa ≠ oa := ne_of_none (upd_same (H := H1) (a := sa) (o := .dT [])) hoa
    -- while level not in seen
    refine ⟨fun k σ H' => ∃ (i : Nat) (la : Addr) (ts : List Addr), k + i = T ∧ σ = [some (.ref c), some (.ref la), some (.ref sa), some (.ref oa), none, none, none] ∧ Same H H' ∧ H' la = some (.tup ((lev I i).map nV)) ∧ H' sa = some (.dT (dictOf (levK I i))) ∧ H' oa = some (.lst (ts.map V.ref)) ∧
        ts.length = i ∧ ∀ j t, ts[j]? = some t → H' t = some (.tup ((lev I j).map nV)),
      ⟨T, 0, l0, [], by omega, rfl, s2, ?_, ?_, upd_same, rfl, fun j t h => by simp at h⟩, ?_⟩
    · exact (same_upd hoa) _ _ ((same_upd hsa) _ _ hl1)
    · rw [upd_ne nso, upd_same]
      rfl
    · rintro k σ H2 ⟨i, la, ts, hk, rfl, s3, hla, hsa2, hoa2, htl, hts⟩
      have hla' : H2 la = some (.tup ((keyR (lev I i)).map kV)) := by rw [keyR_map]; exact hla
      have dg := DGet.t hsa2 hla'
      by_cases hi : i < T
      · -- new
        have hnew : keyR (lev I i) ∉ levK I i := fun h => ag.new hi (levK_mem.mp h)
        rw [dictOf_none hnew] at dg
        refine ⟨_, rfl, _, rfl, sa, _, rfl, dg, _, rfl, ?_⟩
        refine iteT ?_
        refine ⟨fun σ' H' => ∃ (la : Addr) (ts : List Addr), σ' = [some (.ref c), some (.ref la), some (.ref sa), some (.ref oa), none, none, none] ∧ Same H H' ∧ H' la = some (.tup ((lev I (i + 1)).map nV)) ∧ H' sa = some (.dT (dictOf (levK I (i + 1)))) ∧ H' oa = some (.lst (ts.map V.ref)) ∧
          ts.length = i + 1 ∧ ∀ j t, ts[j]? = some t → H' t = some (.tup ((lev I j).map nV)), ?_, ?_⟩
        · rintro σ' H' ⟨la', ts', r⟩
          exact ⟨k - 1, by omega, i + 1, la', ts', by omega, r⟩
        · have dp := DPut.t (v := V.int (((ts.map V.ref).length : Nat) : Int)) hsa2 hla' (by rw [dictOf_len, levK_len]; exact Nat.lt_of_le_of_lt (show i ≤ 5000 by omega) (by decide))
          have eput : putK (dictOf (levK I i)) (keyR (lev I i)) (V.int (((ts.map V.ref).length : Nat) : Int)) = dictOf (levK I (i + 1)) := by
            rw [List.length_map, htl]
            have := dictOf_put hnew
            rw [levK_len] at this
            rw [levK_succ]
            exact this
          rw [eput] at dp
          refine ⟨_, rfl, oa, _, rfl, .inl (SqL.of hoa2), _, rfl, _, rfl, sa, _, rfl, dp, ?_⟩
          have noa : oa ≠ sa := Ne.symm nso
          have nla : la ≠ sa := ne_of hla hsa2 (by intro z; cases z)
          have nlo : la ≠ oa := ne_of hla hoa2 (by intro z; cases z)
          have o3 : ∀ o, (upd H2 sa o) oa = some (.lst (ts.map V.ref)) := fun o => by rw [upd_ne noa]; exact hoa2
          refine ⟨_, rfl, .inl ⟨rfl, _, SqL.of (o3 _)⟩, _, rfl, oa, _, _, rfl, rfl, o3 _, by rw [List.length_map, htl]; exact Nat.lt_of_le_of_lt (show i ≤ 5000 by omega) (by decide), ?_⟩
          generalize hH3 : upd (upd H2 sa (.dT (dictOf (levK I (i + 1))))) oa (.lst (ts.map V.ref ++ [.ref la])) = H3
          have s4 : Same H H3 := by
            rw [← hH3]
            exact (s3.put hsaH).put hoaH
          have tk : ∀ b xs, H2 b = some (.tup xs) → H3 b = some (.tup xs) := by
            intro b xs h
            rw [← hH3, upd_ne (ne_of h (o3 (.dT [])|> fun _ => hoa2) (by intro z; cases z)), upd_ne (ne_of h hsa2 (by intro z; cases z))]
            exact h
          have h3o : H3 oa = some (.lst ((ts ++ [la]).map V.ref)) := by
            rw [← hH3, upd_same, List.map_append]
            rfl
          have h3s : H3 sa = some (.dT (dictOf (levK I (i + 1)))) := by
            rw [← hH3, upd_ne nso, upd_same]
          refine ⟨_, rfl, c, dx, fs, rfl, s4 _ _ hc, Mc.nl, _, rfl, H0, c, dx, fs, I, ra, wa, na, ba, rts, bts, la, lev I i, rfl, ok, sm, s4 _ _ hc, Fc, Cp.mono s4, hbl, tk _ _ hla, fun a ha => lev_lt I i a ha, fun H4 t s5 ht h4 => ?_⟩
          refine ⟨t, ts ++ [la], rfl, s4.trans s5, h4, s5 _ _ h3s, s5 _ _ h3o, by rw [List.length_append, htl]; rfl, fun j u h => ?_⟩
          by_cases hj : j < ts.length
          · rw [List.getElem?_append_left hj] at h
            exact s5 _ _ (tk _ _ (hts j u h))
          · rw [List.getElem?_append_right (by omega)] at h
            have hj0 : j - ts.length = 0 := by
              have := (List.getElem?_eq_some_iff.mp h).1
              simp at this
              omega
            rw [hj0] at h
            have h : la = u := Option.some.inj h
            subst h
            have : j = i := by omega
            subst this
            exact s5 _ _ (tk _ _ hla)
      · -- it was there
        have hiT : i = T := by omega
        subst hiT
        have hget : (levK I i)[m]? = some (keyR (lev I i)) := by
          unfold levK
          rw [List.getElem?_map, List.getElem?_range hmT, ag.eq]
          rfl
        rw [dictOf_some (levK_nd ag) hget] at dg
        refine ⟨_, rfl, _, rfl, sa, _, rfl, dg, _, rfl, ?_⟩
        refine iteF ?_
        have C2 := Cp.mono s3
        have hc2 := s3 _ _ hc
        -- self.start = seen[level]
        refine ⟨_, rfl, _, rfl, sa, _, rfl, dg, _, rfl, c, CC, dx, _, rfl, hc2, TC.cl, TC.nS, by omega, ?_⟩
        generalize hfs1 : putF "start" (nV m) fs = fs1
        have Fc1 : CFld fs1 ra wa na ba := by rw [← hfs1]; exact Fc.put (by decide +kernel) (by decide +kernel) (by decide +kernel) (by decide +kernel) (by omega)
        have Mc1 : CMeth fs1 := by rw [← hfs1]; exact Mc.put (by decide +kernel) (by decide +kernel) (by decide +kernel) (by decide +kernel)
        have ls1 : fs1.lookup ("start" : Str) = some (nV m) := by rw [← hfs1, lookup_putF, if_pos rfl]
        have fl1 : fs1.length ≤ 11 := by rw [← hfs1]; have := length_putF "start" (nV m) fs; omega
        have nco : oa ≠ c := ne_of hoa2 hc2 (by intro z; cases z)
        have o4 : ∀ o, (upd H2 c o) oa = some (.lst (ts.map V.ref)) := fun o => by rw [upd_ne nco]; exact hoa2
        -- self.period = len(order) - self.start
        refine ⟨_, rfl, oa, _, rfl, .inl (SqL.of (o4 _)), _, rfl, c, CC, dx, _, _, rfl, upd_same, TC.cl, TC.nS, ls1, _, _, rfl, rfl, ?_⟩
        have eper : V.int ((((ts.map V.ref).length : Nat) : Int) - ((m : Nat) : Int)) = nV (i - m) := by
          rw [List.length_map, htl]
          show V.int _ = V.int _
          congr 1
          omega
        dsimp only
        rw [eper]
        refine ⟨_, rfl, c, CC, dx, _, rfl, upd_same, TC.cl, TC.nP, by omega, ?_⟩
        rw [upd_upd]
        generalize hfs2 : putF "period" (nV (i - m)) fs1 = fs2
        have Fc2 : CFld fs2 ra wa na ba := by rw [← hfs2]; exact Fc1.put (by decide +kernel) (by decide +kernel) (by decide +kernel) (by decide +kernel) (by omega)
        have Mc2 : CMeth fs2 := by rw [← hfs2]; exact Mc1.put (by decide +kernel) (by decide +kernel) (by decide +kernel) (by decide +kernel)
        have ls2 : fs2.lookup ("start" : Str) = some (nV m) := by rw [← hfs2, lookup_putF, if_neg (by decide +kernel)]; exact ls1
        have lp2 : fs2.lookup ("period" : Str) = some (nV (i - m)) := by rw [← hfs2, lookup_putF, if_pos rfl]
        have fl2 : fs2.length ≤ 12 := by rw [← hfs2]; have := length_putF "period" (nV (i - m)) fs1; omega
        generalize hHB : upd H2 c (.ins CC dx fs2) = HB
        have hcB : HB c = some (.ins CC dx fs2) := by rw [← hHB]; exact upd_same
        have CB : CloP H0 HB I (all I) ra wa na ba rts bts := by rw [← hHB]; exact C2.inst hc0 hc2 _
        have oB : HB oa = some (.lst (ts.map V.ref)) := by rw [← hHB]; exact o4 _
        have tB : ∀ j t, ts[j]? = some t → HB t = some (.tup ((lev I j).map nV)) := by
          intro j t h
          rw [← hHB, upd_ne (ne_of (hts j t h) hc2 (by intro z; cases z))]
          exact hts j t h
        -- for known in order[self.start:]
        intro za hza
        have sB : Same HB (upd HB za (.dK [])) := same_upd hza
        refine ⟨_, rfl, _, rfl, c, CC, dx, _, _, rfl, sB _ _ hcB, TC.cl, TC.nS, ls2, _, rfl, oa, _, rfl, SqL.of (sB _ _ oB), fun pa hpa => ?_⟩
        have sC : Same HB (upd (upd HB za (.dK [])) pa (.lst (cutV (ts.map V.ref) (some ((m : Nat) : Int)) none))) := sB.trans (same_upd hpa)
        have npz : za ≠ pa := ne_of_none (upd_same (H := HB) (a := za) (o := .dK [])) hpa
        have pc : (upd (upd HB za (.dK [])) pa (.lst (cutV (ts.map V.ref) (some ((m : Nat) : Int)) none))) pa = some (.lst ((ts.drop m).map V.ref)) := by
          rw [upd_same, cut_from, List.map_drop]
        have zc : (upd (upd HB za (.dK [])) pa (.lst (cutV (ts.map V.ref) (some ((m : Nat) : Int)) none))) za = some (.dK (trueD [])) := by
          rw [upd_ne npz, upd_same]
          rfl
        have hpaB : HB pa = none := sB.free hpa
        refine ⟨pa, rfl, ⟨_, SqL.of pc⟩, for_it (walk_list (xs := (ts.drop m).map V.ref)) (fun e σ H' => ∃ (y5 y6 : Option V) (ks : List Nat), σ = [some (.ref c), some (.ref la), some (.ref sa), some (.ref oa), some (.ref za), y5, y6] ∧ Same HB H' ∧ H' pa = some (.lst ((ts.drop m).map V.ref)) ∧
          H' za = some (.dK (trueD ks)) ∧ ks.Nodup ∧ ∀ z, z ∈ ks ↔ ∃ n, m ≤ n ∧ n < m + e ∧ z ∈ lev I n) ⟨none, none, [], rfl, sC, pc, zc, List.nodup_nil, fun z => ⟨fun h => (nomatch h), fun ⟨n, h1, h2, _⟩ => by omega⟩⟩ ?_ ?_ ?_⟩
        · rintro e σ H' _ ⟨y5, y6, ks, rfl, _, h1, _⟩
          exact SqL.of h1
        · rintro e v σ H3 H3' he ⟨y5, y6, ks, rfl, s6, hp6, hz6, hnd, hks⟩ ⟨rfl, hv⟩
          rw [List.getElem?_map, List.getElem?_drop] at hv
          rw [List.length_map, List.length_drop, htl] at he
          obtain ⟨t, ht⟩ : ∃ t, ts[m + e]? = some t := ⟨ts[m + e]'(by omega), List.getElem?_eq_getElem _⟩
          rw [ht] at hv
          have hv := Option.some.inj hv
          subst hv
          have ht3 := s6 _ _ (tB _ _ ht)
          refine ⟨_, rfl, t, rfl, ⟨_, SqT.of ht3⟩, for_it (walk_tup (xs := (lev I (m + e)).map nV)) (fun j σ H' => ∃ (y6 : Option V) (ks : List Nat), σ = [some (.ref c), some (.ref la), some (.ref sa), some (.ref oa), some (.ref za), some (.ref t), y6] ∧ Same HB H' ∧ H' pa = some (.lst ((ts.drop m).map V.ref)) ∧
            H' za = some (.dK (trueD ks)) ∧ ks.Nodup ∧ ∀ z, z ∈ ks ↔ (∃ n, m ≤ n ∧ n < m + e ∧ z ∈ lev I n) ∨ z ∈ (lev I (m + e)).take j) ⟨y6, ks, rfl, s6, hp6, hz6, hnd, fun z => by rw [hks]; exact ⟨.inl, fun h => h.elim id fun h => (nomatch h)⟩⟩ ?_ ?_ ?_⟩
          · rintro j σ H' _ ⟨y6, ks, rfl, h1, _⟩
            exact SqT.of (h1 _ _ (tB _ _ ht))
          · rintro j v σ H4 H4' hj ⟨y6, ks2, rfl, s7, hp7, hz7, hnd2, hks2⟩ ⟨rfl, hv⟩
            obtain ⟨hj2, rfl⟩ := nv_getI hv
            have hget : (lev I (m + e))[j]? = some ((lev I (m + e)).getD j 0) := by rw [List.getD_eq_getElem?_getD, List.getElem?_eq_getElem hj2]; rfl
            have klen : ks2.length ≤ 200 := by
              have := hnd2.length_le_of_subset (l₂ := List.range (all I).length) (fun z hz => by
                rw [List.mem_range]
                rcases (hks2 z).mp hz with ⟨n, _, _, h⟩ | h
                · exact lev_lt I n z h
                · exact lev_lt I _ z (List.mem_of_mem_take h))
              rw [List.length_range] at this
              omega
            have dp := DPut.k (k := (Sum.inl (((lev I (m + e)).getD j 0 : Nat) : Int) : Key)) (v := .bl true) hz7 (by rw [trueD_len]; exact small1000 (by omega))
            rw [trueD_put] at dp
            refine ⟨_, rfl, _, rfl, za, _, rfl, dp, _, addN ks2 ((lev I (m + e)).getD j 0), rfl, s7.put hza, by rw [upd_ne (Ne.symm npz)]; exact hp7, upd_same, addN_nd hnd2, fun z => ?_⟩
            rw [addN_mem, hks2, take_snoc hget, List.mem_append, List.mem_singleton, or_assoc]
          · rintro σ H4 ⟨y6, ks2, rfl, s7, hp7, hz7, hnd2, hks2⟩
            refine ⟨_, _, ks2, rfl, s7, hp7, hz7, hnd2, fun z => ?_⟩
            rw [List.length_map, List.take_length] at hks2
            rw [hks2]
            constructor
            · rintro (⟨n, h1, h2, h3⟩ | h)
              · exact ⟨n, h1, by omega, h3⟩
              · exact ⟨m + e, by omega, by omega, h⟩
            · rintro ⟨n, h1, h2, h3⟩
              by_cases q : n = m + e
              · subst q
                exact .inr h3
              · exact .inl ⟨n, h1, by omega, h3⟩
        · rintro σ H3 ⟨y5, y6, ks, rfl, s6, hp6, hz6, hnd, hks⟩
          rw [List.length_map, List.length_drop, htl] at hks
          refine ⟨_, rfl, za, _, rfl, hz6, fun l hl => ?_⟩
          rw [trueD_keys]
          refine ⟨l, _, rfl, SqL.of upd_same, fun ns lo hp hs hlo => ?_⟩
          have hL2 : ∀ z, z ∈ ks ↔ z ∈ longL I m i := by
            intro z
            rw [hks, longL_mem]
            constructor
            · rintro ⟨n, h1, h2, h3⟩
              exact ⟨lev_lt I n z h3, n, h1, by omega, h3⟩
            · rintro ⟨_, n, h1, h2, h3⟩
              exact ⟨n, h1, by omega, h3⟩
          rw [sorted_asc hnd (longL_asc I m i) hL2 hp hs]
          have hloB : HB lo = none := (s6.trans (same_upd hl)).free hlo
          have sL : ∀ o, Same HB (upd (upd H3 l (.lst ((ks.map fun m : Nat => (m : Int)).map V.int))) lo o) := fun o => (s6.trans (same_upd hl)).trans (same_upd hlo)
          have hcL := fun o => sL o _ _ hcB
          refine ⟨_, rfl, c, CC, dx, _, rfl, hcL _, TC.cl, TC.nL, by omega, ?_⟩
          have CL := (CB.mono (sL (.lst ((longL I m i).map nV)))).inst hc0 (hcL _) (.ins CC dx (putF "longs" (.ref lo) fs2))
          refine q _ (putF "longs" (.ref lo) fs2) lo upd_same (Fc2.put (by decide +kernel) (by decide +kernel) (by decide +kernel) (by decide +kernel) (by omega)) (Mc2.put (by decide +kernel) (by decide +kernel) (by decide +kernel) (by decide +kernel)) ?_ ?_ ?_ (CB.same.free hloB) ?_ CL
          · rw [lookup_putF, if_neg (by decide +kernel)]
            exact ls2
          · rw [lookup_putF, if_neg (by decide +kernel)]
            exact lp2
          · rw [lookup_putF, if_pos rfl]
          · rw [upd_ne (Ne.symm (ne_of_none hcB hloB)), upd_same]
end
end N18
end
section
set_option Elab.async false
set_option linter.all false
set_option maxRecDepth 100000
set_option maxHeartbeats 4000000
namespace N18
open PySem PySem.Spec PyProof.Rows L2 TL PySem.W
/-- a dict comprehension over what is walked -/
theorem dc_it {J : It} {n : Nat} {G : Hp → Prop} {Y : Nat → Hp → V → Hp → Prop} (w : Walk J n G Y) {g : TG} {tt : TT} {tk tv : TE} {vs : List Nat} {σ : L2.St} {H1 : Hp} {D : Addr} {Qd : Hp → Prop} (Pv : Nat → Hp → Prop) (h0 : Pv 0 (upd H1 D (.dK []))) (hG : ∀ i H, i ≤ n → Pv i H → G H)
    (hs : ∀ i x H H', i < n → Pv i H → Y i H x H' → g x (wipe σ vs) H' fun σ2 H2 => wipe σ2 vs = wipe σ vs ∧ tt σ2 H2 fun b H3 =>
      if b = true then tk σ2 H3 fun y H4 => tv σ2 H4 fun z H5 => ∃ kvs k, y = kV k ∧ H5 D = some (.dK kvs) ∧ kvs.length < sizeLine ∧ Pv (i + 1) (upd H5 D (.dK (putK kvs k z))) else Pv (i + 1) H3) (hd : ∀ H, Pv n H → Qd H) :
    ∃ W : Nat → Nat → Hp → Prop, (∃ m, W 0 m (upd H1 D (.dK []))) ∧ ∀ i m H, W i m H →
      (J.stop i H ∧ Qd H) ∨ (J.go i H ∧ ∃ Nx : Hp → Prop, (∀ H', Nx H' → ∃ m', m' < m ∧ W (i + 1) m' H') ∧ ∀ x H', J.yld i H x H' → g x (wipe σ vs) H' fun σ2 H2 => wipe σ2 vs = wipe σ vs ∧ tt σ2 H2 fun b H3 =>
        if b = true then tk σ2 H3 fun y H4 => tv σ2 H4 fun z H5 => ∃ kvs k, y = kV k ∧ H5 D = some (.dK kvs) ∧ kvs.length < sizeLine ∧ Nx (upd H5 D (.dK (putK kvs k z))) else Nx H3) := by
  refine ⟨fun i m H => m = n - i ∧ i ≤ n ∧ Pv i H, ⟨n, by simp, Nat.zero_le _, h0⟩, ?_⟩
  rintro i m H ⟨rfl, hi, p⟩
  have q := hG i H hi p
  by_cases hlt : i < n
  · refine .inr ⟨w.goes i H hlt q, Pv (i + 1), fun H' p' => ⟨n - (i + 1), by omega, rfl, hlt, p'⟩, fun x H' y => hs i x H H' hlt p (w.yields i H x H' hlt q y)⟩
  · have e : i = n := by omega
    subst e
    exact .inl ⟨w.stops H q, hd H p⟩
/-! ### where a word of some length leads to g -/
def backP (I : Inst) (L : List Nat) (i : Nat) : Bool := (List.range I.k).any fun x => L.contains (endOf I (all I) i x)
def backTo (I : Inst) (L : List Nat) (e : Nat) : List Nat := (List.range e).filter (backP I L)
def back (I : Inst) (g : Nat) : Nat → List Nat
  | 0 => [g]
  | j + 1 => backTo I (back I g j) (all I).length
theorem back_step (I : Inst) (g j : Nat) : back I g (j + 1) = backTo I (back I g j) (all I).length := rfl
theorem backTo_mem {I : Inst} {L : List Nat} {e i : Nat} : i ∈ backTo I L e ↔ i < e ∧ ∃ x, x < I.k ∧ endOf I (all I) i x ∈ L := by
  unfold backTo backP
  rw [List.mem_filter, List.mem_range, List.any_eq_true]
  refine and_congr_right fun _ => ⟨?_, ?_⟩
  · rintro ⟨x, hx, h⟩
    exact ⟨x, List.mem_range.mp hx, List.contains_iff_mem.mp h⟩
  · rintro ⟨x, hx, h⟩
    exact ⟨x, List.mem_range.mpr hx, List.contains_iff_mem.mpr h⟩
theorem back_succ {I : Inst} {g j i : Nat} : i ∈ back I g (j + 1) ↔ i < (all I).length ∧ ∃ x, x < I.k ∧ endOf I (all I) i x ∈ back I g j := by
  rw [back_step]
  exact backTo_mem
theorem backTo_len (I : Inst) (L : List Nat) (e : Nat) : (backTo I L e).length ≤ e := by
  have := List.length_filter_le (backP I L) (List.range e)
  rw [List.length_range] at this
  exact this
theorem backTo_succ (I : Inst) (L : List Nat) (e : Nat) : backTo I L (e + 1) = if backP I L e = true then addN (backTo I L e) e else backTo I L e := by
  have hn : e ∉ backTo I L e := by
    rw [backTo_mem]
    rintro ⟨h, _⟩
    exact Nat.lt_irrefl _ h
  unfold addN
  rw [if_neg hn]
  unfold backTo
  rw [List.range_succ, List.filter_append]
  cases h : backP I L e with
  | true => rw [if_pos rfl, List.filter_cons_of_pos h]; rfl
  | false =>
    rw [if_neg (by decide), List.filter_cons_of_neg (by rw [h]; decide)]
    exact List.append_nil _
/-- a goal among the tables of the words of length n is reached from the start -/
theorem back_of_lev {I : Inst} {g n : Nat} (h : g ∈ lev I n) : ∀ j, j ≤ n → ∃ i, i ∈ lev I (n - j) ∧ i ∈ back I g j
  | 0, _ => ⟨g, h, List.mem_singleton.mpr rfl⟩
  | j + 1, hj => by
    obtain ⟨i, h1, h2⟩ := back_of_lev h j (by omega)
    have e : n - j = (n - (j + 1)) + 1 := by omega
    rw [e] at h1
    obtain ⟨_, a, ha, x, hx, rfl⟩ := levStep_mem.mp h1
    exact ⟨a, ha, back_succ.mpr ⟨lev_lt I _ a ha, x, hx, h2⟩⟩
theorem back_zero {I : Inst} {g n : Nat} (h : g ∈ lev I n) : 0 ∈ back I g n := by
  obtain ⟨i, h1, h2⟩ := back_of_lev h n (Nat.le_refl _)
  rw [Nat.sub_self] at h1
  rw [← List.mem_singleton.mp h1]
  exact h2
/-- a word whose table is the i-th -/
def Leads (I : Inst) (wd : List Nat) (i : Nat) : Prop := K18.Wd I.k wd ∧ K18.tb I.A I.s wd = (ent (all I) i).2
theorem Leads.nil (I : Inst) : Leads I [] 0 := by
  refine ⟨fun x hx => (nomatch hx), ?_⟩
  obtain ⟨m, hm⟩ := bfs_app I (show 0 ≤ 200 by omega)
  show _ = (ent (bfs I 200) 0).2
  rw [hm, ent_app (by show 0 < 1; decide), K18.tb_nil]
  rfl
theorem Leads.snoc {I : Inst} (sm : Small I) {wd : List Nat} {i x : Nat} (h : Leads I wd i) (hi : i < (all I).length) (hx : x < I.k) : Leads I (wd ++ [x]) (endOf I (all I) i x) := by
  refine ⟨fun y hy => ?_, ?_⟩
  · rcases List.mem_append.mp hy with h' | h'
    · exact h.1 y h'
    · rw [List.mem_singleton.mp h']
      exact hx
  · rw [K18.tb_snoc, h.2, sm.end_row hi hx]
    rfl
theorem Leads.lev {I : Inst} (sm : Small I) {wd : List Nat} {i : Nat} (h : Leads I wd i) (hi : i < (all I).length) : i ∈ lev I wd.length := (lev_mem sm _ _).mpr ⟨hi, wd, h.1, rfl, h.2⟩
theorem wordL_snoc (I : Inst) (wd : List Nat) (x : Nat) : wordL I (wd ++ [x]) = wordL I wd ++ [I.gl.getD x 0] := by
  unfold wordL
  rw [List.map_append]
  rfl
/-! ### a whole closure -/
/-- its attributes -/
structure CloF (fs : List (Str × V)) (ra wa na ba lo : Addr) (m T : Nat) : Prop where
  fld : CFld fs ra wa na ba
  meth : CMeth fs
  st : fs.lookup ("start" : Str) = some (nV m)
  pe : fs.lookup ("period" : Str) = some (nV (T - m))
  lo : fs.lookup ("longs" : Str) = some (.ref lo)
/-- a whole closure stands at c -/
def CloAt (CC : Addr) (H : Hp) (c : Addr) (I : Inst) (m T : Nat) : Prop := ∃ (dx : Addr) (fs : List (Str × V)) (ra wa na ba lo : Addr) (H0 : Hp) (rts bts : List Addr),
  H c = some (.ins CC dx fs) ∧ CloF fs ra wa na ba lo m T ∧ CloP H0 H I (all I) ra wa na ba rts bts ∧ bts.length = (all I).length ∧ H lo = some (.lst ((longL I m T).map nV))
theorem CloAt.same {CC : Addr} {H H' : Hp} {c : Addr} {I : Inst} {m T : Nat} (k : CloAt CC H c I m T) (s : Same H H') : CloAt CC H' c I m T := by
  obtain ⟨dx, fs, ra, wa, na, ba, lo, H0, rts, bts, h1, h2, h3, h4, h5⟩ := k
  exact ⟨dx, fs, ra, wa, na, ba, lo, H0, rts, bts, s _ _ h1, h2, h3.mono s, h4, s _ _ h5⟩
/-- texts put together, in place -/
def ipS : TIp := fun x y H Q => ∃ a b, x = .str a ∧ y = .str b ∧ a.length + b.length ≤ sizeLine ∧ Q (.str (a ++ b)) H
theorem ip_addS {X : Cx} : PIp X .Add ipS := fun pins s σ H x y u v Q I rx ry h => iop_add_str pins s σ H x y u v Q I rx ry h
theorem trueD_has {ks : List Nat} {m : Nat} : (valV (trueD ks) (Sum.inl (m : Int))).isSome = decide (m ∈ ks) := by
  rw [trueD_val]
  by_cases h : m ∈ ks
  · rw [if_pos h, decide_eq_true h]
    rfl
  · rw [if_neg h, decide_eq_false h]
    rfl
theorem endsTo_get {I : Inst} {fd : List Ent} {i j x : Nat} (h : x < j) : (endsTo I fd i j)[x]? = some (letK I x, nV (endOf I fd i x)) := by
  unfold endsTo
  rw [List.getElem?_map, List.getElem?_range h]
  rfl
theorem endsTo_len (I : Inst) (fd : List Ent) (i j : Nat) : (endsTo I fd i j).length = j := by
  unfold endsTo
  rw [List.length_map, List.length_range]
/-! ### a heap without one place -/
def minus (h : Addr) (H : Hp) : Hp := fun a => if a = h then none else H a
theorem minus_ne {h a : Addr} {H : Hp} (n : a ≠ h) : minus h H a = H a := if_neg n
theorem minus_some {h a : Addr} {H : Hp} {o : HO} (e : minus h H a = some o) : a ≠ h ∧ H a = some o := by
  unfold minus at e
  by_cases n : a = h
  · rw [if_pos n] at e
    cases e
  · rw [if_neg n] at e
    exact ⟨n, e⟩
theorem minus_sub (h : Addr) (H : Hp) : Same (minus h H) H := fun _ _ e => (minus_some e).2
theorem minus_same {h : Addr} {H H' : Hp} (s : Same H H') : Same (minus h H) (minus h H') := fun a o e => by
  obtain ⟨n, e⟩ := minus_some e
  rw [minus_ne n]
  exact s _ _ e
theorem minus_but {h : Addr} {H H' : Hp} (s : But h H H') : Same (minus h H) (minus h H') := fun a o e => by
  obtain ⟨n, e⟩ := minus_some e
  rw [minus_ne n]
  exact s _ _ n e
theorem minus_but2 {h p : Addr} {H H' : Hp} (s : But p H H') : But p (minus h H) (minus h H') := fun a o np e => by
  obtain ⟨n, e⟩ := minus_some e
  rw [minus_ne n]
  exact s _ _ np e
/-- a whole closure, made over the heap H0 -/
def CloAtB (H0 : Hp) (CC : Addr) (H : Hp) (c : Addr) (I : Inst) (m T : Nat) : Prop := ∃ (dx : Addr) (fs : List (Str × V)) (ra wa na ba lo : Addr) (rts bts : List Addr),
  H c = some (.ins CC dx fs) ∧ CloF fs ra wa na ba lo m T ∧ CloP H0 H I (all I) ra wa na ba rts bts ∧ bts.length = (all I).length ∧ H lo = some (.lst ((longL I m T).map nV)) ∧ H0 lo = none
theorem CloAtB.at {H0 : Hp} {CC : Addr} {H : Hp} {c : Addr} {I : Inst} {m T : Nat} (k : CloAtB H0 CC H c I m T) : CloAt CC H c I m T := by
  obtain ⟨dx, fs, ra, wa, na, ba, lo, rts, bts, h1, h2, h3, h4, h5, h6⟩ := k
  exact ⟨dx, fs, ra, wa, na, ba, lo, H0, rts, bts, h1, h2, h3, h4, h5⟩
theorem CloAtB.minus {H0 : Hp} {CC : Addr} {H : Hp} {c h : Addr} {I : Inst} {m T : Nat} {xs : List V} (k : CloAtB H0 CC H c I m T) (hh0 : H0 h = some (.lst xs)) : CloAt CC (minus h H) c I m T := by
  obtain ⟨dx, fs, ra, wa, na, ba, lo, rts, bts, h1, h2, k, h4, h5, h6⟩ := k
  have hh := k.same _ _ hh0
  have kp : ∀ a o, a ≠ h → H a = some o → N18.minus h H a = some o := fun a o n e => by
    rw [minus_ne n]
    exact e
  have nw : ∀ a, H0 a = none → a ≠ h := fun a e z => by
    rw [z, hh0] at e
    cases e
  refine ⟨dx, fs, ra, wa, na, ba, lo, fun _ => none, rts, bts, kp _ _ (ne_of h1 hh (by intro z; cases z)) h1, h2, ?_, h4, kp _ _ (nw _ h6) h5⟩
  refine ⟨fun _ _ h => (nomatch h), k.d1, k.d2, k.d3, rfl, rfl, rfl, rfl, kp _ _ (nw _ k.r0) k.rows, k.rl, ?_, kp _ _ (nw _ k.w0) k.words, kp _ _ (nw _ k.n0) k.num, kp _ _ (nw _ k.b0) k.beh, k.bl, ?_, k.cl⟩
  · intro i t e
    exact kp _ _ (ne_of (k.rv i t e) hh (by intro z; cases z)) (k.rv i t e)
  · intro i t e
    exact kp _ _ (ne_of (k.bv i t e) hh (by intro z; cases z)) (k.bv i t e)
end N18
end
section
set_option Elab.async false
set_option linter.all false
set_option maxRecDepth 100000
set_option maxHeartbeats 4000000
namespace N18
open PySem PySem.Spec PyProof.Rows L2 TL PySem.W
theorem unlock_same {H4 H5 : Hp} {b : Addr} {u : HO} (k : ∀ a o, a ≠ b → H4 a = some o → H5 a = some o) (hb : H4 b = some u) : Same H4 (upd H5 b u) := by
  intro a o h
  by_cases e : a = b
  · subst e
    rw [upd_same, ← hb]
    exact h
  · rw [upd_ne e]
    exact k a o e h
theorem small5000 {n : Nat} (h : n ≤ 5001) : n < sizeLine := Nat.lt_of_le_of_lt h (by decide)
section
variable {P : Program} {w : World} {K : PySem.W.Frag} {mg : Str → Option Value} {base : Heap}
/-! ### Closure.first_word -/
def spFirstWord (CC : Addr) : Sp := fun vs H Q _ => ∃ (c : Addr) (I : Inst) (m T n g : Nat) (ga : Addr),
  vs = [.ref c, .int (n : Nat), .ref ga] ∧ I.Ok ∧ Small I ∧ CloAt CC H c I m T ∧ H ga = some (.lst [nV g]) ∧ g < (all I).length ∧ n ≤ 5000 ∧
  ∀ (H' : Hp), Same H H' → (g ∉ lev I n → Q .non H') ∧ (∀ wd : List Nat, wd.length = n → Leads I wd g → Q (.str (tx (wordL I wd))) H')
abbrev nFW : List Str := ["self", "length", "goals", "alive", "step", "last", "ones", "at", "ends", "end", "word", "letter", "goal"]
theorem scFirstWord : FnScope nFW ["self", "length", "goals"] (defScope sFirstWord) := ⟨rfl, rfl, rfl, by decide +kernel, rfl, by decide +kernel, by decide +kernel⟩
theorem ok_firstWord {CC f : Addr} {fd : FuncData} (F : Fun K "first_word" "Closure.first_word" sFirstWord f fd) (TC : CTxt K CC) (B : Bt mg) : FnOk P w K mg base CX0 1 f fd ["self", "length", "goals"] (spFirstWord CC) := by
  refine F.ok scFirstWord (fun vs H Q E h => ?_) (fun cdv A outer s H vs Q E hr h => ?_)
  · obtain ⟨c, I, m, T, n, g, ga, rfl, _⟩ := h
    rfl
  · obtain ⟨c, I, m, T, n, g, ga, rfl, ok, sm, Cl, hga, hg, hn, q⟩ := h
    obtain ⟨dx, fs, ra, wa, na, ba, lo, H0, rts, bts, hc, Fc, Cp, hbl, _⟩ := Cl
    have hu := hu_of hr
    have hN := sm.len
    have Fb := Fc.fld.beh
    have nd := scFirstWord.nd
    refine ⟨_, pss_cons (ps_set (i := 3) nd rfl (.inl rfl) (pe_lst (pa_cons (pe_dc (own := [("goal", 12)]) (g := gName 12) (tt := tYes) rfl nd (pi_list (pv 2)) (blkOk_by (N := nFW) (sc := defScope sFirstWord) (by decide +kernel)) (fun _ _ _ _ _ => pg_name (i := 12) nd rfl (.inl rfl)) (fun _ _ _ _ _ => pts_nil) (fun _ _ _ _ _ => pv 12) (fun _ _ _ _ _ => pe_bl)) pa_nil)))
      (pss_cons (ps_for PassesOwn.never rfl (pi_range1 (by rfl) B.range (pa_cons (pv 1) pa_nil)) (pg_name (i := 4) nd rfl (.inl rfl))
        (pss_cons (ps_set (i := 5) nd rfl (.inr rfl) (pe_ix ix_list (pv 3) (pv 4) (fun _ _ => rfl)))
        (pss_cons (ps_set (i := 6) nd rfl (.inl rfl) pe_dnewK)
        (pss_cons (ps_for PassesOwn.never rfl (pi_enum (by rfl) B.enum (pa_cons (pe_fld (pv 0) rfl) pa_nil)) (pg_tup rfl (pgs_cons (pg_name (i := 7) nd rfl (.inl rfl)) (pgs_cons (pg_name (i := 8) nd rfl (.inl rfl)) pgs_nil)))
          (pss_one (ps_if (pt_val (pe_callB (cr_any rfl) (by rfl) B.any (by decide +kernel) (pa_cons (pe_lock (pe_lc (own := [("end", 9)]) (g := gName 9) (tt := tYes) rfl nd (pi_values (pv 8)) (blkOk_by (N := nFW) (sc := defScope sFirstWord) (by decide +kernel)) (fun _ _ _ _ _ => pg_name (i := 9) nd rfl (.inl rfl)) (fun _ _ _ _ _ => pts_nil) (fun _ _ _ _ _ => pe_cmp (pc_din hu (pv 9) (pv 5)) rfl))) pa_nil)))
            (pss_one (ps_dput hu (pv 6) (pv 7) pe_bl rfl)) pss_nil)))
        (pss_one (ps_expr (pe_bm PySem.F.plainAttrs_list PySem.F.slot_list_append PySem.F.type_list_append mt_append (pv 3) (pa_cons (pv 6) pa_nil))))))))
      (pss_cons (ps_if (pt_cmp (pc_dnotin hu pe_int (pe_ix ix_list (pv 3) (pv 1) (fun _ _ => rfl)))) (pss_one (ps_ret pe_non)) pss_nil)
      (pss_cons (ps_set (i := 7) nd rfl (.inl rfl) pe_int)
      (pss_cons (ps_set (i := 10) nd rfl (.inl rfl) pe_str)
      (pss_cons (ps_for PassesOwn.never rfl (pi_range1 (by rfl) B.range (pa_cons (pv 1) pa_nil)) (pg_name (i := 4) nd rfl (.inl rfl))
        (pss_one (ps_lock (ps_for PassesOwn.never rfl (pi_items (pe_ix ix_list (pe_fld (pv 0) rfl) (pv 7) (fun _ _ => rfl))) (pg_tup rfl (pgs_cons (pg_name (i := 11) nd rfl (.inl rfl)) (pgs_cons (pg_name (i := 9) nd rfl (.inl rfl)) pgs_nil)))
          (pss_one (ps_if (pt_cmp (pc_din hu (pv 9) (pe_ix ix_list (pv 3) (pe_op op_sub (pe_op op_sub (pv 1) (pv 4)) pe_int) (fun _ _ => rfl))))
            (pss_cons (ps_set (i := 7) nd rfl (.inl rfl) (pv 9))
            (pss_cons (ps_aug (i := 10) nd rfl (.inl rfl) (pv 11) ip_addS)
            (pss_one ps_break))) pss_nil))))))
      (pss_one (ps_ret (pv 10)))))))), ?_⟩
    refine ⟨_, rfl, ga, rfl, ⟨_, SqL.of hga⟩, fun D hD => ?_⟩
    have s1 : Same H (upd H D (.dK [])) := same_upd hD
    refine dc_it (walk_list (xs := [nV g])) (fun i H' => Same H H' ∧ H' D = some (.dK (trueD ([g].take i)))) ⟨s1, upd_same⟩ ?_ ?_ ?_
    · rintro i H' _ ⟨h1, _⟩
      exact SqL.of (h1 _ _ hga)
    · rintro i x H1 H1' hi ⟨h1, h2⟩ ⟨rfl, hv⟩
      have hi : i < 1 := hi
      have hi0 : i = 0 := by omega
      subst hi0
      have hv : some (nV g) = some x := hv
      have hv := Option.some.inj hv
      subst hv
      refine ⟨rfl, ?_⟩
      refine ⟨_, rfl, _, Sum.inl (g : Int), rfl, h2, small1000 (Nat.zero_le _), h1.put hD, ?_⟩
      rw [upd_same]
      rfl
    · rintro H1 ⟨h1, h2⟩
      have h2 : H1 D = some (.dK (trueD [g])) := h2
      refine ⟨by show 1 ≤ sizeLine; decide, fun al hal => ?_⟩
      have s2 : Same H (upd H1 al (.lst [V.ref D])) := h1.trans (same_upd hal)
      have hal0 : H al = none := h1.free hal
      refine ⟨_, rfl, ((n : Nat) : Int), rfl, by omega, by omega, ?_⟩
      refine for_it (walk_range (lo := 0) (n := n)) (fun j σ H' => ∃ (y4 y5 y6 y7 y8 : Option V) (ds : List Addr), σ = [some (.ref c), some (.int (n : Nat)), some (.ref ga), some (.ref al), y4, y5, y6, y7, y8, none, none, none, none] ∧ Same H H' ∧ H' al = some (.lst (ds.map V.ref)) ∧ ds.length = j + 1 ∧ ∀ i d, ds[i]? = some d → H d = none ∧ H' d = some (.dK (trueD (back I g i))))
        ⟨none, none, none, none, none, [D], rfl, s2, upd_same, rfl, ?_⟩ (fun _ _ _ _ _ => trivial) ?_ ?_
      · intro i d h
        cases i with
        | zero =>
          have h : D = d := Option.some.inj h
          subst h
          rw [upd_ne (ne_of_none h2 hal)]
          exact ⟨hD, h2⟩
        | succ i => simp at h
      · rintro j v σ H2 H2' hj ⟨y4, y5, y6, y7, y8, ds, rfl, s3, hal3, hdl, hds⟩ ⟨rfl, hv⟩
        have hv : v = nV j := by rw [hv]; show V.int _ = V.int _; rw [Int.zero_add]
        subst hv
        obtain ⟨d, hd⟩ : ∃ d, ds[j]? = some d := ⟨ds[j]'(by omega), List.getElem?_eq_getElem _⟩
        have hd2 := hds j d hd
        refine ⟨_, rfl, _, rfl, al, _, _, .ref d, rfl, rfl, SqL.of hal3, atI_nat (by rw [List.getElem?_map, hd]; rfl), fun oa hoa => ?_⟩
        have s4 : Same H (upd H2' oa (.dK [])) := s3.trans (same_upd hoa)
        have hoa0 : H oa = none := s3.free hoa
        have hne : ∀ i d', ds[i]? = some d' → d' ≠ oa := fun i d' h => ne_of_none (hds i d' h).2 hoa
        refine ⟨_, rfl, c, CC, dx, _, _, rfl, s4 _ _ hc, TC.cl, TC.nB, Fb, ba, bts.map V.ref, rfl, SqL.of (s4 _ _ Cp.beh), ?_⟩
        refine for_it (walk_enum (xs := bts.map V.ref)) (fun e σ H' => ∃ (y7 y8 : Option V), σ = [some (.ref c), some (.int (n : Nat)), some (.ref ga), some (.ref al), some (nV j), some (.ref d), some (.ref oa), y7, y8, none, none, none, none] ∧ Same H H' ∧ H' al = some (.lst (ds.map V.ref)) ∧ (∀ i d, ds[i]? = some d → H' d = some (.dK (trueD (back I g i)))) ∧ H' oa = some (.dK (trueD (backTo I (back I g j) e)))) ⟨y7, y8, rfl, s4, ?_, ?_, ?_⟩ ?_ ?_ ?_
        · rw [upd_ne (ne_of_none hal3 hoa)]
          exact hal3
        · intro i d' h
          rw [upd_ne (hne i d' h)]
          exact (hds i d' h).2
        · rw [upd_same]
          rfl
        · rintro e σ H' _ ⟨y7, y8, rfl, h1, _⟩
          exact SqL.of (h1 _ _ Cp.beh)
        · rintro e v σ H3 H3' he ⟨y7, y8, rfl, s5, a5, d5, o5⟩ ⟨t, x1, x2, rfl, ht, rfl, g1, g2⟩
          have g1 : some (V.int ((e : Nat) : Int)) = some x1 := g1
          have g2 : (bts.map V.ref)[e]? = some x2 := g2
          have g1 := Option.some.inj g1
          subst g1
          rw [List.length_map, hbl] at he
          obtain ⟨b, hb⟩ : ∃ b, bts[e]? = some b := ⟨bts[e]'(by omega), List.getElem?_eq_getElem _⟩
          rw [List.getElem?_map, hb] at g2
          have g2 : V.ref b = x2 := Option.some.inj g2
          subst g2
          have hb0 := Cp.bv e b hb
          refine ⟨t, [_, _], rfl, .inl (.inl upd_same), rfl, _, [_], rfl, _, [], rfl, rfl, ?_⟩
          generalize hH4 : upd H3 t (.tup [V.int ((e : Nat) : Int), V.ref b]) = H4
          have s34 : Same H3 H4 := by rw [← hH4]; exact same_upd ht
          have s6 := s5.trans s34
          have hdb : d ≠ b := Ne.symm (ne_of_none hb0 hd2.1)
          -- any([..])
          refine ⟨b, .dK (endsTo I (all I) e I.k), s6 _ _ hb0, trivial, fun od => ?_⟩
          refine ⟨_, rfl, b, od, endsTo I (all I) e I.k, rfl, upd_same, fun L hL => ?_⟩
          have hLb : L ≠ b := fun z => by
            rw [z, upd_same] at hL
            cases hL
          have hL4 : H4 L = none := by
            rw [upd_ne hLb] at hL
            exact hL
          refine lc_it (walk_values (kvs := endsTo I (all I) e I.k)) (fun x H' => H' b = some (.frz od (.dK (endsTo I (all I) e I.k))) ∧ (∀ a o, a ≠ b → H4 a = some o → H' a = some o) ∧ H' L = some (.lst (((List.range x).map fun y => (back I g j).contains (endOf I (all I) e y)).map V.bl))) ⟨?_, ?_, upd_same⟩ ?_ ?_ ?_
          · rw [upd_ne (Ne.symm hLb), upd_same]
          · intro a o n1 h
            rw [upd_ne (ne_of_none h hL4), upd_ne n1]
            exact h
          · rintro x H' _ ⟨h1, _⟩
            exact h1
          · rintro x v H5 H5' hx ⟨f5, k5, l5⟩ ⟨rfl, kk, hv⟩
            rw [endsTo_len] at hx
            rw [endsTo_get hx] at hv
            have hv := Option.some.inj hv
            injection hv with _ hv
            subst hv
            refine ⟨rfl, ?_⟩
            have dg := DGet.k (k := (Sum.inl ((endOf I (all I) e x : Nat) : Int) : Key)) (k5 _ _ hdb (s34 _ _ (d5 j d hd)))
            have nLb := hLb
            refine ⟨_, rfl, _, rfl, d, _, rfl, dg, _, l5, by rw [List.length_map, List.length_map, List.length_range]; exact small1000 (by have := ok.k3; omega), ?_, ?_, ?_⟩
            · rw [upd_ne (Ne.symm hLb)]
              exact f5
            · intro a o n1 h
              rw [upd_ne (ne_of_none h hL4)]
              exact k5 a o n1 h
            · rw [upd_same, trueD_has, List.range_succ, List.map_append, List.map_append]
              congr 3
              show [V.bl _] = [V.bl ((back I g j).contains (endOf I (all I) e x))]
              rw [List.contains_eq_mem]
          · rintro H5 ⟨f5, k5, l5⟩
            refine ⟨f5, L, _, rfl, SqL.of (by rw [upd_ne hLb]; exact l5), _, rfl, ?_⟩
            rw [endsTo_len]
            have s45 := unlock_same k5 (s6 _ _ hb0)
            have s7 := s6.trans s45
            generalize hH6 : upd H5 b (.dK (endsTo I (all I) e I.k)) = H6 at *
            have s36 := s34.trans s45
            have ea : (((List.range I.k).map fun y => (back I g j).contains (endOf I (all I) e y)).any id) = backP I (back I g j) e := by
              rw [List.any_map]
              rfl
            rw [ea]
            have hsucc := backTo_succ I (back I g j) e
            cases hP : backP I (back I g j) e with
            | true =>
              rw [hP, if_pos rfl] at hsucc
              have dp := DPut.k (k := (Sum.inl ((e : Nat) : Int) : Key)) (v := .bl true) (s36 _ _ o5) (by rw [trueD_len]; exact small1000 (by have := backTo_len I (back I g j) e; omega))
              rw [trueD_put, ← hsucc] at dp
              refine iteT ⟨_, rfl, _, rfl, oa, _, rfl, dp, _, _, rfl, s7.put hoa0, ?_, ?_, upd_same⟩
              · rw [upd_ne (ne_of a5 o5 (by intro z; cases z))]
                exact s36 _ _ a5
              · intro i d' h
                rw [upd_ne (hne i d' h)]
                exact s36 _ _ (d5 i d' h)
            | false =>
              rw [hP, if_neg (by decide)] at hsucc
              refine iteF ⟨_, _, rfl, s7, s36 _ _ a5, fun i d' h => s36 _ _ (d5 i d' h), ?_⟩
              rw [hsucc]
              exact s36 _ _ o5
        · rintro σ H3 ⟨y7, y8, rfl, s5, a5, d5, o5⟩
          rw [List.length_map, hbl, ← back_step] at o5
          refine ⟨_, rfl, .inl ⟨rfl, _, SqL.of a5⟩, _, rfl, al, _, _, rfl, rfl, a5, by rw [List.length_map, hdl]; exact small5000 (by omega), ?_⟩
          refine ⟨_, _, _, _, _, ds ++ [oa], rfl, s5.put hal0, by rw [upd_same, List.map_append]; rfl, by rw [List.length_append, hdl]; rfl, fun i d' h => ?_⟩
          by_cases hi : i < ds.length
          · rw [List.getElem?_append_left hi] at h
            rw [upd_ne (ne_of (d5 i d' h) a5 (by intro z; cases z))]
            exact ⟨(hds i d' h).1, d5 i d' h⟩
          · rw [List.getElem?_append_right (by omega)] at h
            have hi0 : i - ds.length = 0 := by
              have := (List.getElem?_eq_some_iff.mp h).1
              simp at this
              omega
            rw [hi0] at h
            have h : oa = d' := Option.some.inj h
            subst h
            have : i = j + 1 := by omega
            subst this
            rw [upd_ne (ne_of o5 a5 (by intro z; cases z))]
            exact ⟨hoa0, o5⟩
      · rintro σ H2 ⟨y4, y5, y6, y7, y8, ds, rfl, s3, hal3, hdl, hds⟩
        have hget : ∀ i, i ≤ n → ∃ d, ds[i]? = some d ∧ H2 d = some (.dK (trueD (back I g i))) ∧ H d = none := fun i hi => by
          have hi2 : i < ds.length := by omega
          refine ⟨ds[i], List.getElem?_eq_getElem hi2, ?_⟩
          have := hds i ds[i] (List.getElem?_eq_getElem hi2)
          exact ⟨this.2, this.1⟩
        obtain ⟨d, hd, hd2, _⟩ := hget n (Nat.le_refl n)
        have dg := DGet.k (k := (Sum.inl ((0 : Nat) : Int) : Key)) hd2
        rw [trueD_val] at dg
        by_cases h0 : 0 ∈ back I g n
        · rw [if_pos h0] at dg
          refine ⟨_, rfl, _, rfl, al, _, _, .ref d, rfl, rfl, SqL.of hal3, atI_nat (by rw [List.getElem?_map, hd]; rfl), d, _, rfl, dg, _, rfl, iteF ?_⟩
          refine ⟨_, rfl, ((n : Nat) : Int), rfl, by omega, by omega, ?_⟩
          refine for_it (walk_range (lo := 0) (n := n)) (fun j σ H' => ∃ (y4 y9 y11 : Option V) (i : Nat) (wd : List Nat), σ = [some (.ref c), some (.int (n : Nat)), some (.ref ga), some (.ref al), y4, y5, y6, some (nV i), y8, y9, some (.str (tx (wordL I wd))), y11, none] ∧ Same H2 H' ∧ wd.length = j ∧ Leads I wd i ∧ i < (all I).length ∧ i ∈ back I g (n - j))
            ⟨_, _, _, 0, [], rfl, fun _ _ h => h, rfl, Leads.nil I, (all_fd I).one, h0⟩ (fun _ _ _ _ _ => trivial) ?_ ?_
          · rintro j v σ H3 H3' hj ⟨y4, y9, y11, i, wd, rfl, s4, hwl, hld, hi, hib⟩ ⟨rfl, hv⟩
            have hv : v = nV j := by rw [hv]; show V.int _ = V.int _; rw [Int.zero_add]
            subst hv
            obtain ⟨b, hb⟩ : ∃ b, bts[i]? = some b := ⟨bts[i]'(by omega), List.getElem?_eq_getElem _⟩
            have hb0 := Cp.bv i b hb
            have s5 := s3.trans s4
            obtain ⟨d', hd', hd2', hdf⟩ := hget (n - j - 1) (by omega)
            have hdb : d' ≠ b := Ne.symm (ne_of_none hb0 hdf)
            have hat : atI (ds.map V.ref) ((n : Int) - (j : Int) - 1) = some (.ref d') := by
              rw [show (n : Int) - (j : Int) - 1 = ((n - j - 1 : Nat) : Int) by omega]
              exact atI_nat (by rw [List.getElem?_map, hd']; rfl)
            have hex : ∃ x, x < I.k ∧ endOf I (all I) i x ∈ back I g (n - j - 1) := by
              have e1 : n - j = (n - j - 1) + 1 := by omega
              rw [e1] at hib
              exact (back_succ.mp hib).2
            refine ⟨b, .dK (endsTo I (all I) i I.k), s5 _ _ hb0, trivial, fun od => ?_⟩
            generalize hKv : HO.dK (endsTo I (all I) i I.k) = u at *
            have lk : ∀ a o, a ≠ b → H3' a = some o → (upd H3' b (.frz od u)) a = some o := fun a o h1 h2 => by rw [upd_ne h1]; exact h2
            have ncb : c ≠ b := ne_of hc hb0 (by rw [← hKv]; intro z; cases z)
            have nbb : ba ≠ b := ne_of Cp.beh hb0 (by rw [← hKv]; intro z; cases z)
            refine ⟨_, rfl, c, CC, dx, _, _, rfl, lk _ _ ncb (s5 _ _ hc), TC.cl, TC.nB, Fb, _, rfl, ba, _, _, .ref b, rfl, rfl, SqL.of (lk _ _ nbb (s5 _ _ Cp.beh)), atI_nat (by rw [List.getElem?_map, hb]; rfl), b, od, endsTo I (all I) i I.k, rfl, by rw [hKv]; exact upd_same, ?_⟩
            refine for_it (walk_items (kvs := endsTo I (all I) i I.k)) (fun x σ H' => ∃ (y9 y11 : Option V), σ = [some (.ref c), some (.int (n : Nat)), some (.ref ga), some (.ref al), some (nV j), y5, y6, some (nV i), y8, y9, some (.str (tx (wordL I wd))), y11, none] ∧ H' b = some (.frz od u) ∧ (∀ a o, a ≠ b → H3' a = some o → H' a = some o) ∧ ∀ x', x' < x → endOf I (all I) i x' ∉ back I g (n - j - 1))
              ⟨y9, y11, rfl, upd_same, lk, fun x' h => absurd h (Nat.not_lt_zero _)⟩ ?_ ?_ ?_
            · rintro x σ H' _ ⟨z9, z11, rfl, h1, _⟩
              rw [hKv]
              exact h1
            · rintro x v σ H4 H4' hx ⟨z9, z11, rfl, f4, k4, no4⟩ ⟨t, x1, x2, rfl, ht, rfl, g1, g2⟩
              rw [endsTo_len] at hx
              have g1 : (endsTo I (all I) i I.k)[x]?.map (fun kv => kV kv.1) = some x1 := g1
              have g2 : (endsTo I (all I) i I.k)[x]?.map Prod.snd = some x2 := g2
              rw [endsTo_get hx] at g1 g2
              have g1 := Option.some.inj g1
              have g2 := Option.some.inj g2
              subst g1 g2
              have htb : t ≠ b := fun z => by
                rw [z, f4] at ht
                cases ht
              refine ⟨t, [_, _], rfl, .inl (.inl upd_same), rfl, _, [_], rfl, _, [], rfl, rfl, ?_⟩
              generalize hH5 : upd H4 t (.tup [kV (letK I x), nV (endOf I (all I) i x)]) = H5
              have k5 : ∀ a o, a ≠ b → H3' a = some o → H5 a = some o := fun a o h1 h2 => by
                have := k4 a o h1 h2
                rw [← hH5, upd_ne (ne_of_none this ht)]
                exact this
              have f5 : H5 b = some (.frz od u) := by
                rw [← hH5, upd_ne (Ne.symm htb)]
                exact f4
              have nab : al ≠ b := Ne.symm (ne_of_none hb0 hal0)
              have dg5 := DGet.k (k := (Sum.inl ((endOf I (all I) i x : Nat) : Int) : Key)) (k5 _ _ hdb (s4 _ _ hd2'))
              rw [trueD_val] at dg5
              by_cases hm : endOf I (all I) i x ∈ back I g (n - j - 1)
              · rw [if_pos hm] at dg5
                refine ⟨_, rfl, _, rfl, _, rfl, _, rfl, _, _, rfl, rfl, _, _, rfl, rfl, al, _, _, .ref d', rfl, rfl, SqL.of (k5 _ _ nab (s4 _ _ hal3)), hat, d', _, rfl, dg5, _, rfl, iteT ?_⟩
                have ew : tx (wordL I wd) ++ tx [I.gl.getD x 0] = tx (wordL I (wd ++ [x])) := by rw [tx_app, wordL_snoc]
                refine ⟨_, rfl, _, rfl, _, rfl, _, _, rfl, rfl, ?_, f5, _, _, _, endOf I (all I) i x, wd ++ [x], by rw [← ew]; rfl, s4.trans (unlock_same k5 (s5 _ _ hb0)), by rw [List.length_append, hwl]; rfl, hld.snoc sm hi hx, sm.end_lt hi hx, ?_⟩
                · rw [tx_len, tx_len, wordL_len, hwl]
                  exact Nat.le_of_lt (small5000 (show j + 1 ≤ 5001 by omega))
                · rw [show n - (j + 1) = n - j - 1 by omega]
                  exact hm
              · rw [if_neg hm] at dg5
                refine ⟨_, rfl, _, rfl, _, rfl, _, rfl, _, _, rfl, rfl, _, _, rfl, rfl, al, _, _, .ref d', rfl, rfl, SqL.of (k5 _ _ nab (s4 _ _ hal3)), hat, d', _, rfl, dg5, _, rfl, iteF ?_⟩
                refine ⟨_, _, rfl, f5, k5, fun x' h => ?_⟩
                by_cases e : x' = x
                · subst e
                  exact hm
                · exact no4 x' (by omega)
            · rintro σ H4 ⟨z9, z11, rfl, f4, k4, no4⟩
              rw [endsTo_len] at no4
              obtain ⟨x, hx, hm⟩ := hex
              exact (no4 x hx hm).elim
          · rintro σ H3 ⟨y4, y9, y11, i, wd, rfl, s4, hwl, hld, hi, hib⟩
            rw [Nat.sub_self] at hib
            have hib : i = g := List.mem_singleton.mp hib
            subst hib
            exact ⟨_, rfl, (q H3 (s3.trans s4)).2 wd hwl hld⟩
        · rw [if_neg h0] at dg
          refine ⟨_, rfl, _, rfl, al, _, _, .ref d, rfl, rfl, SqL.of hal3, atI_nat (by rw [List.getElem?_map, hd]; rfl), d, _, rfl, dg, _, rfl, iteT ?_⟩
          exact (q H2 s3).1 fun h => h0 (back_zero h)
end
end N18
end
section
set_option Elab.async false
set_option linter.all false
set_option maxRecDepth 100000
set_option maxHeartbeats 4000000
namespace N18
open PySem PySem.Spec PyProof.Rows L2 TL PySem.W
/-- a displayed dict of one pair, its key a tuple -/
def tDispT (tk tv : TE) : TE := fun σ H Q => ∀ p, H p = none → tk σ (upd H p (.dT [])) fun x H1 => tv σ H1 fun y H2 => H2 p = some (.dT []) ∧ ∃ (b : Addr) (ks : List Key), x = .ref b ∧ H2 b = some (.tup (ks.map kV)) ∧ Q (.ref p) (upd H2 p (.dT [(ks, y)]))
theorem pe_dispT {X : Cx} {pos : Pos} {k v : Expr} {tk tv : TE} (hu : X.A.units + 1 < cLine) (hk : PE X k tk) (hv : PE X v tv) : PE X (.Dict [some k] [v] pos) (tDispT tk tv) := by
  refine ⟨fun pins s σ H Q I q => ?_⟩
  have hn := I.hok.fresh (Nat.le_refl s.heap.objs.size)
  have I1 := I.laid (a := s.heap.objs.size) (o := .dT []) (h' := s.heap.push { cls := .type "dict", data := .dict #[] }) (t' := s.toks) (fun _ _ q => Heap.get?_push_of_some _ q) (Nat.le_refl _) (dt_empty s.heap I.big)
  have hl := pairTrees_length [some k] [v] X.env pos rfl rfl
  have hl1 : (pairTrees [some k] [v] X.env pos).length = 1 := hl
  rw [arm_eval_Dict, zip_pairTrees [some k] [v] X.env pos rfl rfl, dictDisplay_pairs _ (by intro z; rw [z] at hl1; cases hl1) (by rw [hl1]; decide)]
  refine wpAny_bind (wpAny_standAt (wpAny_bind ?_))
  unfold subDict
  refine wpAny_bind (wpAny_alloc ?_)
  refine wpAny_bind (wpAny_holding ?_)
  rw [if_pos (by rw [hl1]; decide)]
  refine wpAny_bind (pairTrees_cons_walk (thn (hk.run pins _ σ _ _ I1 (q _ hn)) fun u s1 ⟨x, H1, I2, rx, q1⟩ => thn (hv.run pins s1 σ H1 _ I2 q1) fun r s2 ⟨y, H2, I3, ry, q2⟩ => pairTrees_nil_walk ?_))
  obtain ⟨e, b, ks, rfl, eb, q3⟩ := q2
  cases (show u = Value.ref b from rx)
  refine wpAny_holding ?_
  rw [List.forIn_cons]
  obtain ⟨z, hd, xs, rel, dd⟩ := dt_of I3.hok e
  cases rel
  refine wpAny_bind (wpAny_bind (wpAny_bind (wpAny_dictSet_heap (hsz := Nat.zero_le _) (Nat.lt_of_succ_lt hu) (key_of I3.hok eb) dd fun h' dd' hs => wpAny_pure ?_)))
  dsimp only
  rw [List.forIn_nil]
  refine wpAny_pure (wpAny_pure (wpAny_pure (wpAny_pure ⟨.ref s.heap.objs.size, _, ?_, rfl, q3⟩)))
  obtain ⟨qq, es, ep, hq, h2, h3, h4, _, h5⟩ := dd'
  refine d_write I3 (by rw [e]; exact True.intro) hs ⟨qq, hq⟩ ⟨by show 1 ≤ sizeLine; decide, hd, _, (KT.put (H := H2) (kvs := []) (xs := []) .nil ks eb ry).keeps fun c ys ec => ?_, qq, es, ep, hq, h2, h3, h4, h5⟩
  rw [upd_ne (ne_of ec e (fun z => nomatch z))]
  exact ec
end N18
end
section
set_option Elab.async false
set_option linter.all false
set_option maxRecDepth 100000
set_option maxHeartbeats 4000000
namespace N18
open PySem PySem.Spec PyProof.Rows L2 TL PySem.W
theorem tb_getDm (A : List Nat) (s : Nat) (w : List Nat) (p : Nat) : (K18.tb A s w).getD p 0 = K18.act A s w (A.getD p 0) := by
  unfold K18.tb
  rw [List.getD_eq_getElem?_getD, List.getD_eq_getElem?_getD, List.getElem?_map]
  cases h : A[p]? with
  | none => exact (K18.act_zero A s w).symm
  | some a => rfl
theorem tb_ahead (A : List Nat) (s : Nat) (w : List Nat) (x : Nat) : A.map (K18.st (K18.tb A s w) s x) = K18.tb A s (x :: w) := by
  show _ = A.map (K18.act A s (x :: w))
  refine List.map_congr_left fun m _ => K18.bit_ext fun q => ?_
  rw [K18.act_cons, K18.act_st, K18.st_bit]
  refine exists_congr fun j => ?_
  rw [tb_getDm]
theorem upd_comm {H : Hp} {a b : Addr} {x y : HO} (n : a ≠ b) : upd (upd H a x) b y = upd (upd H b y) a x := by
  funext z
  by_cases h1 : z = b
  · subst h1
    rw [upd_same, upd_ne (Ne.symm n), upd_same]
  · rw [upd_ne h1]
    by_cases h2 : z = a
    · subst h2
      rw [upd_same, upd_same]
    · rw [upd_ne h2, upd_ne h2, upd_ne h1]
/-- the same rules, the frame written out: within a comprehension the context is bound -/
theorem pe_fldK {X : Cx} {e : Expr} {f : Str} {pos : Pos} {ta : TE} (K : PySem.W.Frag) (hK : X.K = K) (he : PE X e ta) (hb : attributeBase e f X.env (eval e X.env) = eval e X.env) : PE X (.Attribute e f pos) (tFld K ta f) := by
  subst hK
  exact pe_fld he hb
theorem ix_listK {X : Cx} (K : PySem.W.Frag) (hK : X.K = K) : IxR X (rIxL K) := by
  subst hK
  exact ix_list
theorem bfs_zero (I : Inst) : bfs I 0 = [([], I.A)] := rfl
section
variable {P : Program} {w : World} {K : PySem.W.Frag} {mg : Str → Option Value} {base : Heap}
/-! ### Closure.__init__ -/
def spCInit (C CC : Addr) : Sp := fun vs H Q _ => ∃ (H0 : Hp) (c p dx : Addr) (I : Inst) (cl : V) (m T : Nat),
  vs = [.ref c, .ref p] ∧ I.Ok ∧ Small I ∧ WishAt C H0 p I cl ∧ Again I m T ∧ H0 c = none ∧ Same H0 H ∧ H c = some (.ins CC dx []) ∧
  ∀ (H' : Hp), Same H0 H' → CloAtB H0 CC H' c I m T → Q .non H'
abbrev nCI : List Str := ["self", "wish", "rows", "letter"]
theorem scCInit : FnScope nCI ["self", "wish"] (defScope sCInit) := ⟨rfl, rfl, rfl, by decide +kernel, rfl, by decide +kernel, by decide +kernel⟩
theorem ok_cInit {C CC f g1 g2 : Addr} {fd gd1 gd2 : FuncData} (F : Fun K "__init__" "Closure.__init__" sCInit f fd) (T : WTxt K C) (TC : CTxt K CC) (B : Bt mg)
    (c1 : Cal P w K mg base "plain_rows" 3 ["wish"] (spPlainRows C)) (c2 : Cal P w K mg base "put_ahead" 3 ["wish", "letter", "rows"] (spPutAhead K C))
    (G1 : FnOk P w K mg base CX0 3 g1 gd1 ["self", "wish", "at"] (spGoOn C CC)) (mG1 : Meth K CC "go_on" g1) (bG1 : Binds K gd1 ["self", "wish", "at"] [])
    (G2 : FnOk P w K mg base CX0 3 g2 gd2 ["self"] (spLevels CC)) (mG2 : Meth K CC "levels" g2) (bG2 : Binds K gd2 ["self"] []) :
    FnOk P w K mg base CX0 4 f fd ["self", "wish"] (spCInit C CC) := by
  obtain ⟨ga, gda, Ga, mGa, kGa, bGa⟩ := c1
  obtain ⟨gb, gdb, Gb, mGb, kGb, bGb⟩ := c2
  refine F.ok scCInit (fun vs H Q E h => ?_) (fun cdv A outer s H vs Q E hr h => ?_)
  · obtain ⟨H0, c, p, dx, I, cl, m, T', rfl, _⟩ := h
    rfl
  · obtain ⟨H0, c, p, dx, I, cl, m, T', rfl, ok, sm, W, ag, hc0, s0, hc, q⟩ := h
    have hu := hu_of hr
    have nd := scCInit.nd
    have hN := sm.len
    refine ⟨_, pss_cons (ps_fld (pv 0) (pe_lst (pa_cons (pe_call Ga hr (by rfl) mGa kGa bGa .nil pass0 (pa_cons (pv 1) pa_nil)) pa_nil)) rfl)
      (pss_cons (ps_fld (pv 0) (pe_lst (pa_cons pe_str pa_nil)) rfl)
      (pss_cons (ps_fld (pv 0) (pe_dispT hu (pe_ix ix_list (pe_fld (pv 0) rfl) pe_int (fun _ _ => rfl)) pe_int) rfl)
      (pss_cons (ps_fld (pv 0) (pe_lst pa_nil) rfl)
      (pss_cons (ps_while PassesOwn.never (pt_cmpR op_lt (pe_callB call_len_seq (by rfl) B.len PySem.boot_len (pa_cons (pe_fld (pv 0) rfl) pa_nil)) (pe_callB call_len_seq (by rfl) B.len PySem.boot_len (pa_cons (pe_fld (pv 0) rfl) pa_nil)) (nomark _))
        (pss_one (ps_expr (pe_meth (pv 0) TC.cl mG1 G1 hr bG1 .nil pass0 (pa_cons (pv 1) (pa_cons (pe_callB call_len_seq (by rfl) B.len PySem.boot_len (pa_cons (pe_fld (pv 0) rfl) pa_nil)) pa_nil))))))
      (pss_cons (ps_fld (pv 0) (pe_lst pa_nil) rfl)
      (pss_cons (ps_for PassesOwn.never rfl (pi_list (pe_fld (pv 0) rfl)) (pg_name (i := 2) nd rfl (.inr rfl))
        (pss_one (ps_expr (pe_bm PySem.F.plainAttrs_list PySem.F.slot_list_append PySem.F.type_list_append mt_append (pe_fld (pv 0) rfl) (pa_cons
          (pe_dc (own := [("letter", 3)]) (g := gName 3) (tt := tYes) rfl nd (pi_str (pe_fld (pv 1) rfl)) (blkOk_by (N := nCI) (sc := defScope sCInit) (by decide +kernel)) (fun _ _ _ _ _ => pg_name (i := 3) nd rfl (.inl rfl)) (fun _ _ _ _ _ => pts_nil) (fun _ _ _ _ _ => pv 3)
            (fun _ _ _ _ _ => pe_dget hu (pe_fldK K rfl (pv 0) rfl) (pe_call (E := E0) Gb hr (by rfl) mGb kGb bGb .nil pass0 (pa_cons (pv 1) (pa_cons (pv 3) (pa_cons (pv 2) pa_nil)))) (fun _ _ => rfl))) pa_nil)))))
      (pss_one (ps_expr (pe_meth0 (pv 0) TC.cl mG2 G2 hr bG2 .nil pass0))))))))), ?_⟩
    obtain ⟨wdx, wfs, ca, ia, pa, bba, wra, pl, hp, Fl, Pt⟩ := id W
    -- self.rows = [plain_rows(wish)]
    refine ⟨_, rfl, p, I, cl, rfl, ok, W.same s0, fun H1 t s1 ht0 ht => ?_⟩
    have s01 := s0.trans s1
    have hc1 := s1 _ _ hc
    have ntc : c ≠ t := ne_of_none hc ht0
    refine ⟨by show 1 ≤ sizeLine; decide, fun ra hra => ?_⟩
    refine ⟨_, rfl, c, CC, dx, _, rfl, by rw [upd_ne (ne_of_none hc1 hra)]; exact hc1, TC.cl, TC.nR, by decide, ?_⟩
    generalize hfs1 : putF "rows" (V.ref ra) [] = fs1
    have nrc : ra ≠ c := Ne.symm (ne_of_none hc1 hra)
    have ntr : t ≠ ra := ne_of_none ht hra
    generalize hH2 : upd (upd H1 ra (.lst [.ref t])) c (.ins CC dx fs1) = H2
    have hc2 : H2 c = some (.ins CC dx fs1) := by rw [← hH2, upd_same]
    have hr2 : H2 ra = some (.lst [.ref t]) := by rw [← hH2, upd_ne nrc, upd_same]
    have ht2 : H2 t = some (.tup (I.A.map nV)) := by rw [← hH2, upd_ne (Ne.symm ntc), upd_ne ntr]; exact ht
    have s2 : Same H0 H2 := by
      intro a o h
      rw [← hH2, upd_ne (ne_of_none h hc0), upd_ne (ne_of_none (s01 _ _ h) hra)]
      exact s01 _ _ h
    have hra0 : H0 ra = none := s01.free hra
    -- self.words = ['']
    refine ⟨by show 1 ≤ sizeLine; decide, fun wa hwa => ?_⟩
    refine ⟨_, rfl, c, CC, dx, _, rfl, by rw [upd_ne (ne_of_none hc2 hwa)]; exact hc2, TC.cl, TC.nW, by rw [← hfs1]; have := length_putF "rows" (V.ref ra) []; exact Nat.lt_of_le_of_lt this (by decide), ?_⟩
    generalize hfs2 : putF "words" (V.ref wa) fs1 = fs2
    have nwc : wa ≠ c := Ne.symm (ne_of_none hc2 hwa)
    have nrw : ra ≠ wa := ne_of_none hr2 hwa
    generalize hH3 : upd (upd H2 wa (.lst [V.str ""])) c (.ins CC dx fs2) = H3
    have hc3 : H3 c = some (.ins CC dx fs2) := by rw [← hH3, upd_same]
    have hr3 : H3 ra = some (.lst [.ref t]) := by rw [← hH3, upd_ne nrc, upd_ne nrw]; exact hr2
    have ht3 : H3 t = some (.tup (I.A.map nV)) := by rw [← hH3, upd_ne (Ne.symm ntc), upd_ne (ne_of_none ht2 hwa)]; exact ht2
    have hw3 : H3 wa = some (.lst [V.str ""]) := by rw [← hH3, upd_ne nwc, upd_same]
    have s3 : Same H0 H3 := by
      intro a o h
      rw [← hH3, upd_ne (ne_of_none h hc0), upd_ne (ne_of_none (s2 _ _ h) hwa)]
      exact s2 _ _ h
    have hwa0 : H0 wa = none := s2.free hwa
    have l1 : fs1.lookup ("rows" : Str) = some (.ref ra) := by rw [← hfs1, lookup_putF, if_pos rfl]
    have l2r : fs2.lookup ("rows" : Str) = some (.ref ra) := by rw [← hfs2, lookup_putF, if_neg (by decide +kernel)]; exact l1
    have l2w : fs2.lookup ("words" : Str) = some (.ref wa) := by rw [← hfs2, lookup_putF, if_pos rfl]
    have n1 : fs1.length ≤ 1 := by rw [← hfs1]; exact length_putF "rows" (V.ref ra) []
    have n2 : fs2.length ≤ 2 := by rw [← hfs2]; have := length_putF "words" (V.ref wa) fs1; omega
    -- self.number = {self.rows[0]: 0}
    intro na hna
    have hD : ∀ a o, H3 a = some o → (upd H3 na (.dT [])) a = some o := fun a o h => by rw [upd_ne (ne_of_none h hna)]; exact h
    refine ⟨_, rfl, c, CC, dx, _, _, rfl, hD _ _ hc3, TC.cl, TC.nR, l2r, ra, _, _, .ref t, rfl, rfl, SqL.of (hD _ _ hr3), rfl, ?_⟩
    refine ⟨upd_same, t, keyR I.A, rfl, by rw [keyR_map]; exact hD _ _ ht3, ?_⟩
    rw [upd_upd]
    have hE : ∀ a o x, H3 a = some o → (upd H3 na x) a = some o := fun a o x h => by rw [upd_ne (ne_of_none h hna)]; exact h
    refine ⟨_, rfl, c, CC, dx, _, rfl, hE _ _ _ hc3, TC.cl, TC.nN, by omega, ?_⟩
    generalize hfs3 : putF "number" (V.ref na) fs2 = fs3
    have nnc : na ≠ c := Ne.symm (ne_of_none hc3 hna)
    generalize hH4 : upd (upd H3 na (.dT [(keyR I.A, V.int 0)])) c (.ins CC dx fs3) = H4
    have hc4 : H4 c = some (.ins CC dx fs3) := by rw [← hH4, upd_same]
    have hr4 : H4 ra = some (.lst [.ref t]) := by rw [← hH4, upd_ne nrc]; exact hE _ _ _ hr3
    have ht4 : H4 t = some (.tup (I.A.map nV)) := by rw [← hH4, upd_ne (Ne.symm ntc)]; exact hE _ _ _ ht3
    have hw4 : H4 wa = some (.lst [V.str ""]) := by rw [← hH4, upd_ne nwc]; exact hE _ _ _ hw3
    have hn4 : H4 na = some (.dT [(keyR I.A, V.int 0)]) := by rw [← hH4, upd_ne nnc, upd_same]
    have s4 : Same H0 H4 := by
      intro a o h
      rw [← hH4, upd_ne (ne_of_none h hc0)]
      exact hE _ _ _ (s3 _ _ h)
    have hna0 : H0 na = none := s3.free hna
    have l3r : fs3.lookup ("rows" : Str) = some (.ref ra) := by rw [← hfs3, lookup_putF, if_neg (by decide +kernel)]; exact l2r
    have l3w : fs3.lookup ("words" : Str) = some (.ref wa) := by rw [← hfs3, lookup_putF, if_neg (by decide +kernel)]; exact l2w
    have l3n : fs3.lookup ("number" : Str) = some (.ref na) := by rw [← hfs3, lookup_putF, if_pos rfl]
    have n3 : fs3.length ≤ 3 := by rw [← hfs3]; have := length_putF "number" (V.ref na) fs2; omega
    -- self.behind = []
    refine ⟨Nat.zero_le _, fun ba hba => ?_⟩
    refine ⟨_, rfl, c, CC, dx, _, rfl, by rw [upd_ne (ne_of_none hc4 hba)]; exact hc4, TC.cl, TC.nB, by omega, ?_⟩
    generalize hfs4 : putF "behind" (V.ref ba) fs3 = fs4
    have nbc : ba ≠ c := Ne.symm (ne_of_none hc4 hba)
    have hG : ∀ a o x, H4 a = some o → (upd H4 ba x) a = some o := fun a o x h => by rw [upd_ne (ne_of_none h hba)]; exact h
    have hba0 : H0 ba = none := s4.free hba
    generalize hH5 : upd (upd H4 ba (.lst [])) c (.ins CC dx fs4) = H5
    have hc5 : H5 c = some (.ins CC dx fs4) := by rw [← hH5, upd_same]
    have k5 : ∀ a o, a ≠ c → H4 a = some o → H5 a = some o := fun a o n h => by
      rw [← hH5, upd_ne n]
      exact hG _ _ _ h
    have s5 : Same H0 H5 := fun a o h => k5 a o (ne_of_none h hc0) (s4 _ _ h)
    have C5 : CloP H0 H5 I (bfs I 0) ra wa na ba [t] [] := by
      refine ⟨s5, nrw, ne_of_none hr4 hba, ne_of_none hw4 hba, hra0, hwa0, hna0, hba0, k5 _ _ nrc hr4, rfl, ?_, k5 _ _ nwc hw4, k5 _ _ nnc hn4, ?_, Nat.zero_le _, ?_, ?_⟩
      · intro i u h
        cases i with
        | zero =>
          have h : t = u := Option.some.inj h
          subst h
          exact k5 _ _ (Ne.symm ntc) ht4
        | succ i => simp at h
      · rw [← hH5, upd_ne nbc, upd_same]
        rfl
      · intro i u h
        simp at h
      · intro i x h
        exact absurd h (Nat.not_lt_zero _)
    have Fc : CFld fs4 ra wa na ba := by
      refine ⟨?_, ?_, ?_, ?_, ?_⟩
      · rw [← hfs4, lookup_putF, if_neg (by decide +kernel)]
        exact l3r
      · rw [← hfs4, lookup_putF, if_neg (by decide +kernel)]
        exact l3w
      · rw [← hfs4, lookup_putF, if_neg (by decide +kernel)]
        exact l3n
      · rw [← hfs4, lookup_putF, if_pos rfl]
      · rw [← hfs4]
        have := length_putF "behind" (V.ref ba) fs3
        omega
    have n4 : fs4.length ≤ 4 := by rw [← hfs4]; have := length_putF "behind" (V.ref ba) fs3; omega
    have Mc : CMeth fs4 := by
      have M0 : CMeth [] := ⟨rfl, rfl, rfl, rfl⟩
      rw [← hfs4, ← hfs3, ← hfs2, ← hfs1]
      exact (((M0.put (by decide +kernel) (by decide +kernel) (by decide +kernel) (by decide +kernel)).put (by decide +kernel) (by decide +kernel) (by decide +kernel) (by decide +kernel)).put (by decide +kernel) (by decide +kernel) (by decide +kernel) (by decide +kernel)).put (by decide +kernel) (by decide +kernel) (by decide +kernel) (by decide +kernel)
    -- while
    refine ⟨fun k σ H' => ∃ (n : Nat) (rts bts : List Addr), k + n = 201 ∧ σ = [some (.ref c), some (.ref p), none, none] ∧ H' c = some (.ins CC dx fs4) ∧ CloP H0 H' I (bfs I n) ra wa na ba rts bts ∧ bts.length = n ∧ n ≤ 200,
      ⟨201, 0, [t], [], rfl, rfl, hc5, C5, rfl, by omega⟩, ?_⟩
    rintro k σ H6 ⟨n, rts, bts, hk, rfl, hc6, C6, hbl, hn⟩
    refine ⟨_, rfl, c, CC, dx, _, _, rfl, hc6, TC.cl, TC.nB, Fc.beh, ba, _, rfl, .inl (SqL.of C6.beh), _, rfl, c, CC, dx, _, _, rfl, hc6, TC.cl, TC.nR, Fc.rows, ra, _, rfl, .inl (SqL.of C6.rows), _, _, rfl, rfl, _, rfl, ?_⟩
    have ecmp : decide ((((bts.map V.ref).length : Nat) : Int) < (((rts.map V.ref).length : Nat) : Int)) = decide (n < (bfs I n).length) := by
      rw [List.length_map, List.length_map, hbl, C6.rl]
      exact decide_eq_decide.mpr Int.ofNat_lt
    dsimp only
    rw [ecmp]
    by_cases hlt : n < (bfs I n).length
    · rw [decide_eq_true hlt]
      refine iteT ?_
      have n200 := sm.at_lt hlt
      refine ⟨fun σ' H' => ∃ (rts bts : List Addr), σ' = [some (.ref c), some (.ref p), none, none] ∧ H' c = some (.ins CC dx fs4) ∧ CloP H0 H' I (bfs I (n + 1)) ra wa na ba rts bts ∧ bts.length = n + 1, ?_, ?_⟩
      · rintro σ' H' ⟨rts', bts', e, r1, r2, r3⟩
        exact ⟨k - 1, by omega, n + 1, rts', bts', by omega, e, r1, r2, r3, by omega⟩
      · refine ⟨_, rfl, c, dx, fs4, rfl, hc6, Mc.go, _, rfl, _, rfl, c, CC, dx, _, _, rfl, hc6, TC.cl, TC.nB, Fc.beh, ba, _, rfl, .inl (SqL.of C6.beh), ?_⟩
        refine ⟨H0, c, p, dx, fs4, I, cl, n, ra, wa, na, ba, rts, bts, ?_, ok, sm, W, hc0, hc6, Fc, C6, hbl, hlt, fun H7 rts' bts' r1 r2 r3 => ?_⟩
        · rw [List.length_map, hbl]
          rfl
        · exact ⟨rts', bts', rfl, r1, r2, r3⟩
    · rw [decide_eq_false hlt]
      refine iteF ?_
      have eall : all I = bfs I n := bfs_end I hlt hn
      rw [← eall] at C6
      have hbl2 : bts.length = (all I).length := by
        have := C6.bl
        rw [eall] at this ⊢
        omega
      -- self.ahead = []
      refine ⟨Nat.zero_le _, fun aa haa => ?_⟩
      refine ⟨_, rfl, c, CC, dx, _, rfl, by rw [upd_ne (ne_of_none hc6 haa)]; exact hc6, TC.cl, TC.nA, by omega, ?_⟩
      generalize hfs5 : putF "ahead" (V.ref aa) fs4 = fs5
      have Fc5 : CFld fs5 ra wa na ba := by rw [← hfs5]; exact Fc.put (by decide +kernel) (by decide +kernel) (by decide +kernel) (by decide +kernel) (by omega)
      have Mc5 : CMeth fs5 := by rw [← hfs5]; exact Mc.put (by decide +kernel) (by decide +kernel) (by decide +kernel) (by decide +kernel)
      have n5 : fs5.length ≤ 5 := by rw [← hfs5]; have := length_putF "ahead" (V.ref aa) fs4; omega
      have la5 : fs5.lookup ("ahead" : Str) = some (V.ref aa) := by rw [← hfs5, lookup_putF, if_pos rfl]
      have nac : aa ≠ c := Ne.symm (ne_of_none hc6 haa)
      rw [upd_comm nac]
      generalize hHX : upd H6 c (.ins CC dx fs5) = HX
      have hcX : HX c = some (.ins CC dx fs5) := by rw [← hHX, upd_same]
      have CX' : CloP H0 HX I (all I) ra wa na ba rts bts := by rw [← hHX]; exact C6.inst hc0 hc6 _
      have haX : HX aa = none := by rw [← hHX, upd_ne nac]; exact haa
      have hpX : HX p = some (.ins C wdx wfs) := CX'.same _ _ hp
      have sX : Same HX (upd HX aa (.lst [])) := same_upd haX
      -- for rows in self.rows
      refine ⟨_, rfl, c, CC, dx, _, _, rfl, sX _ _ hcX, TC.cl, TC.nR, Fc5.rows, ra, rfl, ⟨_, SqL.of (sX _ _ CX'.rows)⟩, for_it (walk_list (xs := rts.map V.ref)) (fun i σ H' => ∃ (y2 : Option V) (hs : List V), σ = [some (.ref c), some (.ref p), y2, none] ∧ Same HX H' ∧ H' aa = some (.lst hs) ∧ hs.length = i) ⟨none, [], rfl, sX, upd_same, rfl⟩ ?_ ?_ ?_⟩
      · rintro i σ H' _ ⟨y2, hs, rfl, h1, _⟩
        exact SqL.of (h1 _ _ CX'.rows)
      · rintro i v σ H7 H7' hi ⟨y2, hs, rfl, s7, a7, hsl⟩ ⟨rfl, hv⟩
        rw [List.length_map, CX'.rl] at hi
        obtain ⟨u, hu'⟩ : ∃ u, rts[i]? = some u := ⟨rts[i]'(by rw [CX'.rl]; exact hi), List.getElem?_eq_getElem _⟩
        rw [List.getElem?_map, hu'] at hv
        have hv := Option.some.inj hv
        subst hv
        have hu7 := CX'.rv i u hu'
        refine ⟨_, rfl, c, CC, dx, _, _, rfl, s7 _ _ hcX, TC.cl, TC.nA, la5, .inl ⟨rfl, _, SqL.of a7⟩, ?_⟩
        -- the dict
        refine ⟨_, rfl, p, C, wdx, _, _, rfl, s7 _ _ hpX, T.cl, T.nG, Fl.given, tx I.gl, rfl, fun D hD => ?_⟩
        have hDX : HX D = none := s7.free hD
        have naD : aa ≠ D := ne_of_none a7 hD
        refine dc_it walk_str (fun j H' => Same HX H' ∧ H' aa = some (.lst hs) ∧ ∃ kvs, H' D = some (.dK kvs) ∧ kvs.length ≤ j) ⟨s7.trans (same_upd hD), by rw [upd_ne naD]; exact a7, [], upd_same, Nat.le_refl _⟩ (fun _ _ _ _ => trivial) ?_ ?_
        · rintro j v H8 H8' hj ⟨s8, a8, kvs, d8, kl⟩ ⟨rfl, lc, hlc, rfl⟩
          rw [tx_size, ok.gk] at hj
          obtain ⟨hgl, hgd⟩ := letter_get hlc
          refine ⟨rfl, ?_⟩
          have hrl : (ent (all I) i).2.length = I.n := (all_fd I).rlen ok (ent_mem hi)
          refine ⟨_, rfl, _, rfl, c, CC, dx, _, _, rfl, s8 _ _ hcX, TC.cl, TC.nN, Fc5.num, _, rfl, _, rfl, _, rfl, p, I, cl, u, (ent (all I) i).2, j, lc, rfl, ok, W.same (CX'.same.trans s8), hgl, s8 _ _ hu7, hrl, fun H9 t9 s9 _ ht9 => ?_⟩
          have etb : I.A.map (K18.st (ent (all I) i).2 I.s j) = K18.tb I.A I.s (j :: (ent (all I) i).1) := by
            rw [(all_fd I).tb _ (ent_mem hi)]
            exact tb_ahead _ _ _ _
          have hmem : K18.tb I.A I.s (j :: (ent (all I) i).1) ∈ rowsOf (all I) := by
            refine sm.cover _ _ rfl fun y hy => ?_
            rcases List.mem_cons.mp hy with rfl | h
            · exact hj
            · exact (all_fd I).wd _ (ent_mem hi) y h
          obtain ⟨z, hz⟩ := List.getElem?_of_mem hmem
          rw [etb] at ht9
          have dg := DGet.t (s9 _ _ (s8 _ _ CX'.num)) (k := keyR (K18.tb I.A I.s (j :: (ent (all I) i).1))) (b := t9) (by rw [keyR_map]; exact ht9)
          rw [dictOf_some (keysR_nd (all_fd I).nd) (i := z) (by rw [List.getElem?_map, hz]; rfl)] at dg
          have d9 := s9 _ _ d8
          refine ⟨na, _, rfl, dg, kvs, Sum.inr (⟨#[lc]⟩ : Str), rfl, d9, small1000 (by have := ok.k3; omega), (s8.trans s9).put hDX, ?_, _, upd_same, Nat.le_trans (length_putK _ _ _) (by omega)⟩
          rw [upd_ne naD]
          exact s9 _ _ a8
        · rintro H8 ⟨s8, a8, kvs, d8, kl⟩
          refine ⟨aa, _, _, rfl, rfl, a8, small1000 (by omega), _, hs ++ [V.ref D], rfl, s8.put haX, upd_same, by rw [List.length_append, hsl]; rfl⟩
      · rintro σ H7 ⟨y2, hs, rfl, s7, a7, hsl⟩
        refine ⟨_, rfl, c, dx, fs5, rfl, s7 _ _ hcX, Mc5.lv, H0, c, dx, fs5, I, ra, wa, na, ba, rts, bts, m, T', rfl, ok, sm, hc0, s7 _ _ hcX, Fc5, Mc5, by omega, CX'.mono s7, hbl2, ag, fun H8 fs8 lo h1 h2 h3 h4 h5 h6 h7 h8 h9 => ?_⟩
        exact q _ h9.same ⟨dx, fs8, ra, wa, na, ba, lo, rts, bts, h1, ⟨h2, h3, h4, h5, h6⟩, h9, hbl2, h8, h7⟩
end
end N18
end
section
set_option Elab.async false
set_option linter.all false
set_option maxRecDepth 100000
set_option maxHeartbeats 4000000
namespace N18
open PySem PySem.Spec PyProof.Rows L2 TL PySem.W
theorem CloP.forget {H0 H : Hp} {I : Inst} {fd : List Ent} {ra wa na ba : Addr} {rts bts : List Addr} (k : CloP H0 H I fd ra wa na ba rts bts) : CloP (fun _ => none) H I fd ra wa na ba rts bts :=
  ⟨fun _ _ h => (nomatch h), k.d1, k.d2, k.d3, rfl, rfl, rfl, rfl, k.rows, k.rl, k.rv, k.words, k.num, k.beh, k.bl, k.bv, k.cl⟩
/-- a wish beside it is changed -/
theorem CloAt.but {CC C : Addr} {H H' : Hp} {c p dx : Addr} {fs : List (Str × V)} {I : Inst} {m T : Nat} (k : CloAt CC H c I m T) (n : c ≠ p) (hp : H p = some (.ins C dx fs)) (s : But p H H') : CloAt CC H' c I m T := by
  obtain ⟨dx, fs, ra, wa, na, ba, lo, H0, rts, bts, h1, h2, h3, h4, h5⟩ := k
  refine ⟨dx, fs, ra, wa, na, ba, lo, fun _ => none, rts, bts, s _ _ n h1, h2, ?_, h4, s _ _ (ne_of h5 hp (by intro z; cases z)) h5⟩
  have k := h3.forget
  refine ⟨fun _ _ h => (nomatch h), k.d1, k.d2, k.d3, rfl, rfl, rfl, rfl, ?_, k.rl, ?_, ?_, ?_, ?_, k.bl, ?_, k.cl⟩
  · exact s _ _ (ne_of k.rows hp (by intro z; cases z)) k.rows
  · intro i t h
    exact s _ _ (ne_of (k.rv i t h) hp (by intro z; cases z)) (k.rv i t h)
  · exact s _ _ (ne_of k.words hp (by intro z; cases z)) k.words
  · exact s _ _ (ne_of k.num hp (by intro z; cases z)) k.num
  · exact s _ _ (ne_of k.beh hp (by intro z; cases z)) k.beh
  · intro i t h
    exact s _ _ (ne_of (k.bv i t h) hp (by intro z; cases z)) (k.bv i t h)
theorem length_putF_old (f : Str) (v : V) : ∀ (fs : List (Str × V)) (x : V), fs.lookup f = some x → (putF f v fs).length = fs.length
  | [], _, h => nomatch h
  | (g, y) :: r, x, h => by
    unfold putF
    by_cases e : g = f
    · rw [if_pos e]
      rfl
    · rw [if_neg e]
      have e2 : (f == g) = false := beq_eq_false_iff_ne.mpr (Ne.symm e)
      rw [List.lookup_cons, e2] at h
      show (putF f v r).length + 1 = r.length + 1
      rw [length_putF_old f v r x h]
/-- the closure is kept with its wish -/
structure Kept (C CC : Addr) (H : Hp) (p c : Addr) (I : Inst) (m T : Nat) : Prop where
  ok : I.Ok
  sm : Small I
  ag : Again I m T
  wi : WishAt C H p I (.ref c)
  cl : CloAt CC H c I m T
theorem Kept.same {C CC : Addr} {H H' : Hp} {p c : Addr} {I : Inst} {m T : Nat} (k : Kept C CC H p c I m T) (s : Same H H') : Kept C CC H' p c I m T := ⟨k.ok, k.sm, k.ag, k.wi.same s, k.cl.same s⟩
section
variable {P : Program} {w : World} {K : PySem.W.Frag} {mg : Str → Option Value} {base : Heap}
/-! ### closed -/
def spClosed (C CC : Addr) : Sp := fun vs H Q _ => ∃ (p : Addr) (I : Inst) (m T : Nat), vs = [.ref p] ∧
  ((I.Ok ∧ Small I ∧ Again I m T ∧ ∃ (h : Addr) (xs : List V), H h = some (.lst xs) ∧ WishAt C (minus h H) p I .non ∧ ∀ H' c, But p H H' → Kept C CC (minus h H') p c I m T → Q (.ref c) H') ∨ ∃ c, Kept C CC H p c I m T ∧ Q (.ref c) H)
theorem scClosed : FnScope ["wish"] ["wish"] (defScope sClosed) := ⟨rfl, rfl, rfl, by decide +kernel, rfl, by decide +kernel, by decide +kernel⟩
theorem ok_closed {C CC f g : Addr} {fd gd : FuncData} (F : Fun K "closed" "closed" sClosed f fd) (T : WTxt K C) (B : Bt mg) (M : Mk K CC g) (mM : mg "Closure" = some (.ref CC))
    (G : FnOk P w K mg base CX0 4 g gd ["self", "wish"] (spCInit C CC)) (bG : Binds K gd ["self", "wish"] []) : FnOk P w K mg base CX0 6 f fd ["wish"] (spClosed C CC) := by
  refine F.ok scClosed (fun vs H Q E h => ?_) (fun cdv A outer s H vs Q E hr h => ?_)
  · obtain ⟨p, I, m, T', rfl, _⟩ := h
    rfl
  · obtain ⟨p, I, m, T', rfl, h⟩ := h
    refine ⟨_, pss_cons (ps_if (pt_cmpR op_isN (pe_fld (pv 0) rfl) pe_non (nomark _)) (pss_one (ps_fld (pv 0) (pe_make M G hr (by rfl) mM bG .nil pass0 (pa_cons (pv 0) pa_nil)) rfl)) pss_nil)
      (pss_one (ps_ret (pe_fld (pv 0) rfl))), ?_⟩
    rcases h with ⟨ok, sm, ag, hh, hxs, hhx, Wm, q⟩ | ⟨c, k, q⟩
    · obtain ⟨dx, fs, ca, ia, pa, ba, ra, pl, hpm, Fl, Pt⟩ := id Wm
      have W := Wm.same (minus_sub hh H)
      obtain ⟨nph, hp⟩ := minus_some hpm
      refine ⟨_, rfl, p, C, dx, _, _, rfl, hp, T.cl, T.nL, Fl.clo, rfl, _, rfl, ?_⟩
      refine iteT ?_
      refine ⟨_, rfl, fun x d hx hd n => ?_⟩
      have s1 : Same H (upd (upd H d (.own x)) x (.ins CC d [])) := (same_upd hd).trans (same_upd (by rw [upd_ne (Ne.symm n)]; exact hx))
      refine ⟨H, x, p, d, I, .non, m, T', rfl, ok, sm, W, ag, hx, s1, upd_same, fun H2 s2 Cl => ⟨rfl, ?_⟩⟩
      have hp2 := s2 _ _ hp
      refine ⟨_, rfl, p, C, dx, _, rfl, hp2, T.cl, T.nL, by have := Fl.few; omega, ?_⟩
      have bt : But p H2 (upd H2 p (.ins C dx (putF "kept_closure" (V.ref x) fs))) := But.upd
      refine ⟨_, rfl, p, C, dx, _, _, rfl, upd_same, T.cl, T.nL, by rw [lookup_putF, if_pos rfl], ?_⟩
      have hp2m : minus hh H2 p = some (.ins C dx fs) := by rw [minus_ne nph]; exact hp2
      refine q _ x ((But.of s2).trans bt) ⟨ok, sm, ag, ?_, (Cl.minus hhx).but (Ne.symm (ne_of_none hp hx)) hp2m (minus_but2 bt)⟩
      refine ⟨dx, _, ca, ia, pa, ba, ra, pl, by rw [minus_ne nph]; exact upd_same, ?_, (Pt.same (minus_same s2)).but hp2m (minus_but2 bt)⟩
      refine ⟨?_, ?_, ?_, ?_, ?_, ?_, by rw [lookup_putF, if_pos rfl], ?_⟩
      · rw [lookup_putF, if_neg (by decide +kernel)]
        exact Fl.given
      · rw [lookup_putF, if_neg (by decide +kernel)]
        exact Fl.cells
      · rw [lookup_putF, if_neg (by decide +kernel)]
        exact Fl.index
      · rw [lookup_putF, if_neg (by decide +kernel)]
        exact Fl.places
      · rw [lookup_putF, if_neg (by decide +kernel)]
        exact Fl.bits
      · rw [lookup_putF, if_neg (by decide +kernel)]
        exact Fl.rows
      · rw [length_putF_old _ _ _ _ Fl.clo]
        exact Fl.few
    · obtain ⟨dx, fs, ca, ia, pa, ba, ra, pl, hp, Fl, Pt⟩ := k.wi
      refine ⟨_, rfl, p, C, dx, _, _, rfl, hp, T.cl, T.nL, Fl.clo, rfl, _, rfl, ?_⟩
      refine iteF ?_
      exact ⟨_, rfl, p, C, dx, _, _, rfl, hp, T.cl, T.nL, Fl.clo, q⟩
/-! ### number_of -/
def spNumberOf (C CC : Addr) : Sp := fun vs H Q _ => ∃ (p c : Addr) (I : Inst) (m T : Nat) (ta : Addr) (g : Nat), vs = [.ref p, .ref ta] ∧ Kept C CC H p c I m T ∧ g < (all I).length ∧
  H ta = some (.tup ((tabS I (ent (all I) g).2).map V.str)) ∧ ∀ H', Same H H' → Q (nV g) H'
theorem scNumberOf : FnScope ["wish", "thing", "found", "rows"] ["wish", "thing"] (defScope sNumberOf) := ⟨rfl, rfl, rfl, by decide +kernel, rfl, by decide +kernel, by decide +kernel⟩
theorem ok_numberOf {C CC f : Addr} {fd : FuncData} (F : Fun K "number_of" "number_of" sNumberOf f fd) (T : WTxt K C) (TC : CTxt K CC)
    (c1 : Cal P w K mg base "closed" 6 ["wish"] (spClosed C CC)) (c2 : Cal P w K mg base "as_rows" 6 ["wish", "thing"] (spAsRows K C)) : FnOk P w K mg base CX0 7 f fd ["wish", "thing"] (spNumberOf C CC) := by
  obtain ⟨ga, gda, Ga, mGa, kGa, bGa⟩ := c1
  obtain ⟨gb, gdb, Gb, mGb, kGb, bGb⟩ := c2
  refine F.ok scNumberOf (fun vs H Q E h => ?_) (fun cdv A outer s H vs Q E hr h => ?_)
  · obtain ⟨p, c, I, m, T', ta, g, rfl, _⟩ := h
    rfl
  · obtain ⟨p, c, I, m, T', ta, g, rfl, k, hg, hta, q⟩ := h
    have hu := hu_of hr
    have nd := scNumberOf.nd
    refine ⟨_, pss_cons (ps_set (i := 2) nd rfl (.inl rfl) (pe_call Ga hr (by rfl) mGa kGa bGa .nil pass0 (pa_cons (pv 0) pa_nil)))
      (pss_cons (ps_set (i := 3) nd rfl (.inl rfl) (pe_call Gb hr (by rfl) mGb kGb bGb .nil pass0 (pa_cons (pv 0) (pa_cons (pv 1) pa_nil))))
      (pss_cons (ps_if (PW.pt (pw_or (pt_cmpR op_isN (pv 3) pe_non (nomark _)) (pw_or1 (pt_cmp (pc_dnotin hu (pv 3) (pe_fld (pv 2) rfl)))))) (pss_one ps_never) pss_nil)
      (pss_one (ps_ret (pe_dget hu (pe_fld (pv 2) rfl) (pv 3) (fun _ _ => rfl)))))), ?_⟩
    refine ⟨_, rfl, p, I, m, T', rfl, .inr ⟨c, k, ?_⟩⟩
    have hrl := (all_fd I).rlen k.ok (ent_mem hg)
    refine ⟨_, rfl, _, rfl, p, I, .ref c, ta, (ent (all I) g).2, rfl, k.ok, k.wi, hta, hrl, (all_fd I).rlt k.ok (ent_mem hg), fun H1 t s1 _ ht => ?_⟩
    have k1 := k.same s1
    obtain ⟨dx, fs, ra, wa, na, ba, lo, H0, rts, bts, hc, Fc, Cp, hbl, _⟩ := k1.cl
    have dg := DGet.t Cp.num (k := keyR (ent (all I) g).2) (b := t) (by rw [keyR_map]; exact ht)
    rw [dictOf_some (keysR_nd (all_fd I).nd) (i := g) (by rw [List.getElem?_map, rowsOf_get hg]; rfl)] at dg
    refine ⟨_, rfl, rfl, _, rfl, iteF ?_⟩
    refine ⟨_, rfl, _, rfl, c, CC, dx, _, _, rfl, hc, TC.cl, TC.nN, Fc.fld.num, na, _, rfl, dg, _, rfl, iteF ?_⟩
    refine ⟨_, rfl, c, CC, dx, _, _, rfl, hc, TC.cl, TC.nN, Fc.fld.num, _, rfl, na, _, rfl, dg, q _ s1⟩
end
end N18
end
section
set_option Elab.async false
set_option linter.all false
set_option maxRecDepth 100000
set_option maxHeartbeats 4000000
namespace N18
open PySem PySem.Spec PyProof.Rows L2 TL PySem.W
theorem wordL_get {I : Inst} (ok : I.Ok) {wd : List Nat} (hw : K18.Wd I.k wd) {j lc : Nat} (h : (tx (wordL I wd)).cps[j]? = some lc) : ∃ x, wd[j]? = some x ∧ x < I.k ∧ I.gl[x]? = some lc := by
  rw [tx_cps] at h
  unfold wordL at h
  rw [List.getElem?_map] at h
  cases e : wd[j]? with
  | none =>
    rw [e] at h
    cases h
  | some x =>
    rw [e] at h
    have h : I.gl.getD x 0 = lc := Option.some.inj h
    have hx := hw x (List.mem_of_getElem? e)
    refine ⟨x, rfl, hx, ?_⟩
    rw [List.getD_eq_getElem?_getD, List.getElem?_eq_getElem (by rw [ok.gk]; exact hx)] at h
    rw [List.getElem?_eq_getElem (by rw [ok.gk]; exact hx)]
    exact congrArg some h
theorem wordL_in {I : Inst} (ok : I.Ok) {wd : List Nat} (hw : K18.Wd I.k wd) : ∀ c ∈ wordL I wd, c ∈ I.gl := by
  intro c hc
  obtain ⟨x, hx, rfl⟩ := List.mem_map.mp hc
  have := hw x hx
  rw [List.getD_eq_getElem?_getD, List.getElem?_eq_getElem (by rw [ok.gk]; exact this)]
  exact List.getElem_mem _
section
variable {P : Program} {w : World} {K : PySem.W.Frag} {mg : Str → Option Value} {base : Heap}
/-! ### table -/
def spTable (K : PySem.W.Frag) (C : Addr) : Sp := fun vs H Q _ => ∃ (p : Addr) (I : Inst) (cl : V) (wd : List Nat), vs = [.ref p, .str (tx (wordL I wd))] ∧ I.Ok ∧ WishAt C H p I cl ∧ K18.Wd I.k wd ∧
  ∀ H' t, Same H H' → H t = none → H' t = some (.tup ((tabS I (K18.tb I.A I.s wd)).map V.str)) → Q (.ref t) H'
theorem scTable : FnScope ["wish", "word", "rows", "letter"] ["wish", "word"] (defScope sTable) := ⟨rfl, rfl, rfl, by decide +kernel, rfl, by decide +kernel, by decide +kernel⟩
theorem ok_table {C f : Addr} {fd : FuncData} (F : Fun K "table" "table" sTable f fd) (T : WTxt K C)
    (c1 : Cal P w K mg base "check_word" 2 ["wish", "thing"] (spCheckWord C)) (c2 : Cal P w K mg base "plain_rows" 2 ["wish"] (spPlainRows C)) (c3 : Cal P w K mg base "put_behind" 2 ["wish", "rows", "letter"] (spPutBehind K C))
    (c4 : Cal P w K mg base "as_table" 2 ["wish", "rows"] (spAsTable K C)) : FnOk P w K mg base CX0 3 f fd ["wish", "word"] (spTable K C) := by
  obtain ⟨ga, gda, Ga, mGa, kGa, bGa⟩ := c1
  obtain ⟨gb, gdb, Gb, mGb, kGb, bGb⟩ := c2
  obtain ⟨gc, gdc, Gc, mGc, kGc, bGc⟩ := c3
  obtain ⟨gd, gdd, Gd, mGd, kGd, bGd⟩ := c4
  refine F.ok scTable (fun vs H Q E h => ?_) (fun cdv A outer s H vs Q E hr h => ?_)
  · obtain ⟨p, I, cl, wd, rfl, _⟩ := h
    rfl
  · obtain ⟨p, I, cl, wd, rfl, ok, W, hw, q⟩ := h
    have nd := scTable.nd
    refine ⟨_, pss_cons (ps_expr (pe_call Ga hr (by rfl) mGa kGa bGa .nil pass0 (pa_cons (pv 0) (pa_cons (pv 1) pa_nil))))
      (pss_cons (ps_set (i := 2) nd rfl (.inl rfl) (pe_call Gb hr (by rfl) mGb kGb bGb .nil pass0 (pa_cons (pv 0) pa_nil)))
      (pss_cons (ps_for PassesOwn.never rfl (pi_str (pv 1)) (pg_name (i := 3) nd rfl (.inl rfl))
        (pss_one (ps_set (i := 2) nd rfl (.inl rfl) (pe_call Gc hr (by rfl) mGc kGc bGc .nil pass0 (pa_cons (pv 0) (pa_cons (pv 2) (pa_cons (pv 3) pa_nil)))))))
      (pss_one (ps_ret (pe_call Gd hr (by rfl) mGd kGd bGd .nil pass0 (pa_cons (pv 0) (pa_cons (pv 2) pa_nil))))))), ?_⟩
    refine ⟨_, rfl, _, rfl, p, I, cl, wordL I wd, rfl, W, wordL_in ok hw, ?_⟩
    refine ⟨_, rfl, p, I, cl, rfl, ok, W, fun H1 t s1 _ ht => ?_⟩
    refine ⟨_, rfl, tx (wordL I wd), rfl, for_it walk_str (fun j σ H' => ∃ (y3 : Option V) (ra : Addr), σ = [some (.ref p), some (.str (tx (wordL I wd))), some (.ref ra), y3] ∧ Same H H' ∧ H' ra = some (.tup ((K18.tb I.A I.s (wd.take j)).map nV)))
      ⟨none, t, rfl, s1, by rw [List.take_zero, K18.tb_nil]; exact ht⟩ (fun _ _ _ _ _ => trivial) ?_ ?_⟩
    · rintro j v σ H2 H2' hj ⟨y3, ra, rfl, s2, hra⟩ ⟨rfl, lc, hlc, rfl⟩
      obtain ⟨x, hx, hxk, hgl⟩ := wordL_get ok hw hlc
      refine ⟨_, rfl, _, rfl, _, rfl, p, I, cl, ra, K18.tb I.A I.s (wd.take j), x, lc, rfl, ok, W.same s2, hgl, hra, by rw [tb_len, ok.al]; exact ok.n6, fun H3 t3 s3 _ ht3 => ?_⟩
      refine ⟨_, t3, rfl, s2.trans s3, ?_⟩
      rw [take_snoc hx, K18.tb_snoc]
      exact ht3
    · rintro σ H2 ⟨y3, ra, rfl, s2, hra⟩
      rw [tx_size, wordL_len, List.take_length] at hra
      exact ⟨_, rfl, _, rfl, p, I, cl, ra, _, rfl, ok, W.same s2, .inr hra, by rw [tb_len, ok.al]; rfl, fun H3 t3 s3 hn ht3 => q _ t3 (s2.trans s3) (s2.free hn) ht3⟩
/-! ### start -/
def spStart (C CC : Addr) : Sp := fun vs H Q _ => ∃ (p : Addr) (I : Inst) (m T : Nat), vs = [.ref p] ∧ I.Ok ∧ Small I ∧ Again I m T ∧ ∃ (h : Addr) (xs : List V), H h = some (.lst xs) ∧ WishAt C (minus h H) p I .non ∧
  ∀ H' c t, But p H H' → Kept C CC (minus h H') p c I m T → H' t = some (.tup [nV m, nV (T - m)]) → Q (.ref t) H'
theorem scStart : FnScope ["wish", "found"] ["wish"] (defScope sStart) := ⟨rfl, rfl, rfl, by decide +kernel, rfl, by decide +kernel, by decide +kernel⟩
theorem ok_start {C CC f : Addr} {fd : FuncData} (F : Fun K "start" "start" sStart f fd) (TC : CTxt K CC) (c1 : Cal P w K mg base "closed" 6 ["wish"] (spClosed C CC)) : FnOk P w K mg base CX0 7 f fd ["wish"] (spStart C CC) := by
  obtain ⟨ga, gda, Ga, mGa, kGa, bGa⟩ := c1
  refine F.ok scStart (fun vs H Q E h => ?_) (fun cdv A outer s H vs Q E hr h => ?_)
  · obtain ⟨p, I, m, T', rfl, _⟩ := h
    rfl
  · obtain ⟨p, I, m, T', rfl, ok, sm, ag, hh, hxs, hhx, W, q⟩ := h
    refine ⟨_, pss_cons (ps_set (i := 1) scStart.nd rfl (.inl rfl) (pe_call Ga hr (by rfl) mGa kGa bGa .nil pass0 (pa_cons (pv 0) pa_nil)))
      (pss_one (ps_ret (pe_tup (pa_cons (pe_fld (pv 1) rfl) (pa_cons (pe_fld (pv 1) rfl) pa_nil))))), ?_⟩
    refine ⟨_, rfl, p, I, m, T', rfl, .inl ⟨ok, sm, ag, hh, hxs, hhx, W, fun H1 c b1 k => ?_⟩⟩
    obtain ⟨dx, fs, ra, wa, na, ba, lo, H0, rts, bts, hc, Fc, Cp, hbl, _⟩ := (k.same (minus_sub hh H1)).cl
    refine ⟨_, rfl, c, CC, dx, _, _, rfl, hc, TC.cl, TC.nS, Fc.st, _, rfl, c, CC, dx, _, _, rfl, hc, TC.cl, TC.nP, Fc.pe, by show 2 ≤ sizeLine; decide, fun t ht => ?_⟩
    refine q _ c t (b1.trans (But.of (same_upd ht))) (k.same (minus_same (same_upd ht))) upd_same
/-! ### longs -/
def spLongs (C CC : Addr) : Sp := fun vs H Q _ => ∃ (p c : Addr) (I : Inst) (m T : Nat), vs = [.ref p] ∧ Kept C CC H p c I m T ∧
  ∀ (H' : Hp) (la : Addr) (ts : List Addr), Same H H' → H la = none → H' la = some (.lst (ts.map V.ref)) → ts.length = (longL I m T).length →
    (∀ (i : Nat) (t : Addr) (g : Nat), ts[i]? = some t → (longL I m T)[i]? = some g → t ≠ la ∧ H' t = some (.tup ((tabS I (ent (all I) g).2).map V.str))) → Q (.ref la) H'
abbrev nLongs : List Str := ["wish", "found", "at"]
theorem scLongs : FnScope nLongs ["wish"] (defScope sLongs) := ⟨rfl, rfl, rfl, by decide +kernel, rfl, by decide +kernel, by decide +kernel⟩
theorem ok_longs {C CC f : Addr} {fd : FuncData} (F : Fun K "longs" "longs" sLongs f fd) (TC : CTxt K CC) (c1 : Cal P w K mg base "closed" 6 ["wish"] (spClosed C CC))
    (c2 : Cal P w K mg base "as_table" 6 ["wish", "rows"] (spAsTable K C)) : FnOk P w K mg base CX0 7 f fd ["wish"] (spLongs C CC) := by
  obtain ⟨ga, gda, Ga, mGa, kGa, bGa⟩ := c1
  obtain ⟨gb, gdb, Gb, mGb, kGb, bGb⟩ := c2
  refine F.ok scLongs (fun vs H Q E h => ?_) (fun cdv A outer s H vs Q E hr h => ?_)
  · obtain ⟨p, c, I, m, T', rfl, _⟩ := h
    rfl
  · obtain ⟨p, c, I, m, T', rfl, k, q⟩ := h
    have nd := scLongs.nd
    refine ⟨_, pss_cons (ps_set (i := 1) nd rfl (.inr rfl) (pe_call Ga hr (by rfl) mGa kGa bGa .nil pass0 (pa_cons (pv 0) pa_nil)))
      (pss_one (ps_ret (pe_lc (own := [("at", 2)]) (g := gName 2) (tt := tYes) rfl nd (pi_list (pe_fld (pv 1) rfl)) (blkOk_by (N := nLongs) (sc := defScope sLongs) (by decide +kernel)) (fun _ _ _ _ _ => pg_name (i := 2) nd rfl (.inl rfl)) (fun _ _ _ _ _ => pts_nil)
        (fun _ _ _ _ _ => pe_call (E := E0) Gb hr (by rfl) mGb kGb bGb .nil pass0 (pa_cons (pv 0) (pa_cons (pe_ix (ix_listK K rfl) (pe_fldK K rfl (pv 1) rfl) (pv 2) (fun _ _ => rfl)) pa_nil)))))), ?_⟩
    refine ⟨_, rfl, p, I, m, T', rfl, .inr ⟨c, k, ?_⟩⟩
    obtain ⟨dx, fs, ra, wa, na, ba, lo, H0, rts, bts, hc, Fc, Cp, hbl, hlo⟩ := k.cl
    refine ⟨_, rfl, c, CC, dx, _, _, rfl, hc, TC.cl, TC.nL, Fc.lo, lo, rfl, ⟨_, SqL.of hlo⟩, fun L hL => ?_⟩
    refine lc_it (walk_list (xs := (longL I m T').map nV)) (fun i H' => Same H H' ∧ ∃ ts : List Addr, H' L = some (.lst (ts.map V.ref)) ∧ ts.length = i ∧ ∀ (j : Nat) (t : Addr) (g : Nat), ts[j]? = some t → (longL I m T')[j]? = some g → H' t = some (.tup ((tabS I (ent (all I) g).2).map V.str)))
      ⟨same_upd hL, [], upd_same, rfl, fun j t g h => by simp at h⟩ ?_ ?_ ?_
    · rintro i H' _ ⟨h1, _⟩
      exact SqL.of (h1 _ _ hlo)
    · rintro i v H1 H1' hi ⟨s1, ts, l1, tl, tv⟩ ⟨rfl, hv⟩
      obtain ⟨hi2, rfl⟩ := nv_getI hv
      generalize hg : (longL I m T').getD i 0 = g at *
      have hget : (longL I m T')[i]? = some g := by rw [← hg, List.getD_eq_getElem?_getD, List.getElem?_eq_getElem hi2]; rfl
      have hgl : g < (all I).length := (longL_mem.mp (List.mem_of_getElem? hget)).1
      obtain ⟨t0, ht0⟩ : ∃ t0, rts[g]? = some t0 := ⟨rts[g]'(by rw [Cp.rl]; exact hgl), List.getElem?_eq_getElem _⟩
      have hr0 := Cp.rv g t0 ht0
      have hN := k.sm.len
      have hl6 : (longL I m T').length ≤ 200 := by
        have h1 : (longL I m T').length ≤ (List.range (all I).length).length := List.length_filter_le _ _
        rw [List.length_range] at h1
        omega
      refine ⟨rfl, ?_⟩
      refine ⟨_, rfl, _, rfl, c, CC, dx, _, _, rfl, s1 _ _ hc, TC.cl, TC.nR, Fc.fld.rows, _, rfl, ra, _, _, .ref t0, rfl, rfl, SqL.of (s1 _ _ Cp.rows), atI_nat (by rw [List.getElem?_map, ht0]; rfl), p, I, .ref c, t0, (ent (all I) g).2, rfl, k.ok, k.wi.same s1, .inr (s1 _ _ hr0), (all_fd I).rlen k.ok (ent_mem hgl), fun H2 t2 s2 hn2 ht2 => ?_⟩
      have l2 := s2 _ _ l1
      refine ⟨_, l2, by rw [List.length_map, tl]; exact small1000 (by omega), (s1.trans s2).put hL, ts ++ [t2], ?_, by rw [List.length_append, tl]; rfl, fun j t g' h1 h2 => ?_⟩
      · rw [upd_same, List.map_append]
        rfl
      · by_cases hj : j < ts.length
        · rw [List.getElem?_append_left hj] at h1
          have := s2 _ _ (tv j t g' h1 h2)
          rw [upd_ne (ne_of this l2 (by intro z; cases z))]
          exact this
        · rw [List.getElem?_append_right (by omega)] at h1
          have hj0 : j - ts.length = 0 := by
            have := (List.getElem?_eq_some_iff.mp h1).1
            simp at this
            omega
          rw [hj0] at h1
          have h1 : t2 = t := Option.some.inj h1
          subst h1
          have : j = i := by omega
          subst this
          rw [hget] at h2
          have h2 := Option.some.inj h2
          subst h2
          rw [upd_ne (ne_of ht2 l2 (by intro z; cases z))]
          exact ht2
    · rintro H1 ⟨s1, ts, l1, tl, tv⟩
      rw [List.length_map] at tl
      exact q _ L ts s1 hL l1 tl fun i t g h1 h2 => ⟨ne_of (tv i t g h1 h2) l1 (by intro z; cases z), tv i t g h1 h2⟩
end
end N18
end
section
set_option Elab.async false
set_option linter.all false
set_option maxRecDepth 100000
set_option maxHeartbeats 4000000
namespace N18
open PySem PySem.Spec PyProof.Rows L2 TL PySem.W
section
variable {P : Program} {w : World} {K : PySem.W.Frag} {mg : Str → Option Value} {base : Heap}
/-! ### tables -/
def spTables (C CC : Addr) : Sp := fun vs H Q _ => ∃ (p c : Addr) (I : Inst) (m T : Nat), vs = [.ref p] ∧ Kept C CC H p c I m T ∧
  ∀ (H' : Hp) (la : Addr) (qs : List Addr), Same H H' → H la = none → H' la = some (.lst (qs.map V.ref)) → qs.length = (all I).length →
    (∀ (i : Nat) (q : Addr), qs[i]? = some q → ∃ t, H' q = some (.tup [.str (tx (wordL I (ent (all I) i).1)), .ref t]) ∧ H' t = some (.tup ((tabS I (ent (all I) i).2).map V.str))) → Q (.ref la) H'
abbrev nTables : List Str := ["wish", "found", "word", "rows"]
theorem scTables : FnScope nTables ["wish"] (defScope sTables) := ⟨rfl, rfl, rfl, by decide +kernel, rfl, by decide +kernel, by decide +kernel⟩
theorem ok_tables {C CC f : Addr} {fd : FuncData} (F : Fun K "tables" "tables" sTables f fd) (TC : CTxt K CC) (B : Bt mg) (c1 : Cal P w K mg base "closed" 6 ["wish"] (spClosed C CC))
    (c2 : Cal P w K mg base "as_table" 6 ["wish", "rows"] (spAsTable K C)) : FnOk P w K mg base CX0 7 f fd ["wish"] (spTables C CC) := by
  obtain ⟨ga, gda, Ga, mGa, kGa, bGa⟩ := c1
  obtain ⟨gb, gdb, Gb, mGb, kGb, bGb⟩ := c2
  refine F.ok scTables (fun vs H Q E h => ?_) (fun cdv A outer s H vs Q E hr h => ?_)
  · obtain ⟨p, c, I, m, T', rfl, _⟩ := h
    rfl
  · obtain ⟨p, c, I, m, T', rfl, k, q⟩ := h
    have nd := scTables.nd
    refine ⟨_, pss_cons (ps_set (i := 1) nd rfl (.inl rfl) (pe_call Ga hr (by rfl) mGa kGa bGa .nil pass0 (pa_cons (pv 0) pa_nil)))
      (pss_one (ps_ret (pe_lc (own := [("word", 2), ("rows", 3)]) (g := gTup K 2 (gCons (gName 2) (gCons (gName 3) gNil))) (tt := tYes) rfl nd (pi_zip (by rfl) B.zip (pa_cons (pe_fld (pv 1) rfl) (pa_cons (pe_fld (pv 1) rfl) pa_nil))) (blkOk_by (N := nTables) (sc := defScope sTables) (by decide +kernel))
        (fun _ _ _ _ _ => pg_tup rfl (pgs_cons (pg_name (i := 2) nd rfl (.inl rfl)) (pgs_cons (pg_name (i := 3) nd rfl (.inl rfl)) pgs_nil))) (fun _ _ _ _ _ => pts_nil)
        (fun _ _ _ _ _ => pe_tup (pa_cons (pv 2) (pa_cons (pe_call (E := E0) Gb hr (by rfl) mGb kGb bGb .nil pass0 (pa_cons (pv 0) (pa_cons (pv 3) pa_nil))) pa_nil)))))), ?_⟩
    refine ⟨_, rfl, p, I, m, T', rfl, .inr ⟨c, k, ?_⟩⟩
    obtain ⟨dx, fs, ra, wa, na, ba, lo, H0, rts, bts, hc, Fc, Cp, hbl, hlo⟩ := k.cl
    have hN := k.sm.len
    have hlen : ((all I).map fun e => V.str (tx (wordL I e.1))).length = (rts.map V.ref).length := by rw [List.length_map, List.length_map, Cp.rl]
    refine ⟨_, rfl, c, CC, dx, _, _, rfl, hc, TC.cl, TC.nW, Fc.fld.words, _, rfl, c, CC, dx, _, _, rfl, hc, TC.cl, TC.nR, Fc.fld.rows, wa, ra, _, _, rfl, SqL.of Cp.words, SqL.of Cp.rows, fun L hL => ?_⟩
    refine lc_it (walk_zip (n := (all I).length) (xs := (all I).map fun e => V.str (tx (wordL I e.1))) (ys := rts.map V.ref) (by rw [← hlen, List.length_map, Nat.min_self])) (fun i H' => Same H H' ∧ ∃ qs : List Addr, H' L = some (.lst (qs.map V.ref)) ∧ qs.length = i ∧
        ∀ (j : Nat) (q : Addr), qs[j]? = some q → ∃ t, H' q = some (.tup [.str (tx (wordL I (ent (all I) j).1)), .ref t]) ∧ H' t = some (.tup ((tabS I (ent (all I) j).2).map V.str)))
      ⟨same_upd hL, [], upd_same, rfl, fun j q h => by simp at h⟩ ?_ ?_ ?_
    · rintro i H' _ ⟨h1, _⟩
      exact ⟨SqL.of (h1 _ _ Cp.words), SqL.of (h1 _ _ Cp.rows)⟩
    · rintro i v H1 H1' hi ⟨s1, qs, l1, ql, qv⟩ ⟨z, x1, x2, rfl, hz, rfl, g1, g2⟩
      have g1 : ((all I).map fun e => V.str (tx (wordL I e.1)))[i]? = some x1 := g1
      have g2 : (rts.map V.ref)[i]? = some x2 := g2
      obtain ⟨t0, ht0⟩ : ∃ t0, rts[i]? = some t0 := ⟨rts[i]'(by rw [Cp.rl]; exact hi), List.getElem?_eq_getElem _⟩
      rw [List.getElem?_map, ent_get hi] at g1
      rw [List.getElem?_map, ht0] at g2
      have g1 := Option.some.inj g1
      have g2 := Option.some.inj g2
      subst g1 g2
      have hr0 := Cp.rv i t0 ht0
      refine ⟨z, [_, _], rfl, .inl (.inl upd_same), rfl, _, [_], rfl, _, [], rfl, rfl, rfl, ?_⟩
      generalize hH2 : upd H1 z (.tup [V.str (tx (wordL I (ent (all I) i).1)), V.ref t0]) = H2
      have s12 : Same H1 H2 := by rw [← hH2]; exact same_upd hz
      have s2 := s1.trans s12
      refine ⟨_, rfl, _, rfl, _, rfl, p, I, .ref c, t0, (ent (all I) i).2, rfl, k.ok, k.wi.same s2, .inr (s2 _ _ hr0), (all_fd I).rlen k.ok (ent_mem hi), fun H3 t3 s3 hn3 ht3 => ?_⟩
      refine ⟨by show 2 ≤ sizeLine; decide, fun y hy => ?_⟩
      have s34 : Same H3 (upd H3 y (.tup [.str (tx (wordL I (ent (all I) i).1)), .ref t3])) := same_upd hy
      have s14 := (s12.trans s3).trans s34
      have l4 := s14 _ _ l1
      refine ⟨_, l4, by rw [List.length_map, ql]; exact small1000 (by omega), (s1.trans s14).put hL, qs ++ [y], ?_, by rw [List.length_append, ql]; rfl, fun j q' h1 => ?_⟩
      · rw [upd_same, List.map_append]
        rfl
      · by_cases hj : j < qs.length
        · rw [List.getElem?_append_left hj] at h1
          obtain ⟨t, e1, e2⟩ := qv j q' h1
          have e1 := s14 _ _ e1
          have e2 := s14 _ _ e2
          exact ⟨t, by rw [upd_ne (ne_of e1 l4 (by intro z; cases z))]; exact e1, by rw [upd_ne (ne_of e2 l4 (by intro z; cases z))]; exact e2⟩
        · rw [List.getElem?_append_right (by omega)] at h1
          have hj0 : j - qs.length = 0 := by
            have := (List.getElem?_eq_some_iff.mp h1).1
            simp at this
            omega
          rw [hj0] at h1
          have h1 : y = q' := Option.some.inj h1
          subst h1
          have : j = i := by omega
          subst this
          have e2 := s34 _ _ ht3
          have e1 : (upd H3 y (.tup [.str (tx (wordL I (ent (all I) j).1)), .ref t3])) y = some (.tup [.str (tx (wordL I (ent (all I) j).1)), .ref t3]) := upd_same
          exact ⟨t3, by rw [upd_ne (ne_of e1 l4 (by intro z; cases z))]; exact e1, by rw [upd_ne (ne_of e2 l4 (by intro z; cases z))]; exact e2⟩
    · rintro H1 ⟨s1, qs, l1, ql, qv⟩
      exact q _ L qs s1 hL l1 ql qv
/-! ### word_with -/
def spWordWith (C CC : Addr) : Sp := fun vs H Q _ => ∃ (p c : Addr) (I : Inst) (m T : Nat) (ta : Addr) (g b : Nat), vs = [.ref p, .ref ta, .int (b : Nat)] ∧ Kept C CC H p c I m T ∧ b ≤ 60 ∧ g ∈ longL I m T ∧
  H ta = some (.tup ((tabS I (ent (all I) g).2).map V.str)) ∧ ∀ H' wd, Same H H' → b ≤ wd.length → wd.length < max b m + (T - m) → Leads I wd g → Q (.str (tx (wordL I wd))) H'
theorem scWordWith : FnScope ["wish", "table", "least", "found", "at", "length", "word"] ["wish", "table", "least"] (defScope sWordWith) := ⟨rfl, rfl, rfl, by decide +kernel, rfl, by decide +kernel, by decide +kernel⟩
theorem ok_wordWith {C CC f g2 : Addr} {fd gd2 : FuncData} (F : Fun K "word_with" "word_with" sWordWith f fd) (TC : CTxt K CC) (B : Bt mg) {tk : Tok} (mM : mg "MOST_LEAST" = some (.int 60 tk)) (c1 : Cal P w K mg base "closed" 7 ["wish"] (spClosed C CC))
    (c2 : Cal P w K mg base "number_of" 7 ["wish", "thing"] (spNumberOf C CC)) (c3 : Cal P w K mg base "check_number" 7 ["thing", "least", "most"] spCheckNumber)
    (G : FnOk P w K mg base CX0 7 g2 gd2 ["self", "length", "goals"] (spFirstWord CC)) (mG : Meth K CC "first_word" g2) (bG : Binds K gd2 ["self", "length", "goals"] []) :
    FnOk P w K mg base CX0 8 f fd ["wish", "table", "least"] (spWordWith C CC) := by
  obtain ⟨ga, gda, Ga, mGa, kGa, bGa⟩ := c1
  obtain ⟨gb, gdb, Gb, mGb, kGb, bGb⟩ := c2
  obtain ⟨gc, gdc, Gc, mGc, kGc, bGc⟩ := c3
  refine F.ok scWordWith (fun vs H Q E h => ?_) (fun cdv A outer s H vs Q E hr h => ?_)
  · obtain ⟨p, c, I, m, T', ta, g, b, rfl, _⟩ := h
    rfl
  · obtain ⟨p, c, I, m, T', ta, g, b, rfl, k, hb, hg, hta, q⟩ := h
    have nd := scWordWith.nd
    have ag := k.ag
    have hT := ag.le
    have hmT := ag.lt
    refine ⟨_, pss_cons (ps_set (i := 3) nd rfl (.inl rfl) (pe_call Ga hr (by rfl) mGa kGa bGa .nil pass0 (pa_cons (pv 0) pa_nil)))
      (pss_cons (ps_set (i := 4) nd rfl (.inl rfl) (pe_call Gb hr (by rfl) mGb kGb bGb .nil pass0 (pa_cons (pv 0) (pa_cons (pv 1) pa_nil))))
      (pss_cons (ps_expr (pe_call Gc hr (by rfl) mGc kGc bGc .nil pass0 (pa_cons (pv 2) (pa_cons pe_int (pa_cons (pe_glob (v := .int 60) (by rfl) mM ⟨_, rfl⟩) pa_nil)))))
      (pss_cons (ps_for PassesOwn.never rfl (pi_range2 (by rfl) B.range (pa_cons (pv 2) (pa_cons (pe_op op_add (pe_callB (call_max2 rfl) (by rfl) B.max (by decide +kernel) (pa_cons (pv 2) (pa_cons (pe_fld (pv 3) rfl) pa_nil))) (pe_fld (pv 3) rfl)) pa_nil))) (pg_name (i := 5) nd rfl (.inl rfl))
        (pss_cons (ps_set (i := 6) nd rfl (.inl rfl) (pe_meth (pv 3) TC.cl mG G hr bG .nil pass0 (pa_cons (pv 5) (pa_cons (pe_lst (pa_cons (pv 4) pa_nil)) pa_nil))))
        (pss_one (ps_if (pt_cmpR op_notN (pv 6) pe_non (nomark _)) (pss_one (ps_ret (pv 6))) pss_nil))))
      (pss_one (ps_ret pe_non))))), ?_⟩
    refine ⟨_, rfl, p, I, m, T', rfl, .inr ⟨c, k, ?_⟩⟩
    have hgl : g < (all I).length := (longL_mem.mp hg).1
    refine ⟨_, rfl, _, rfl, p, c, I, m, T', ta, g, rfl, k, hgl, hta, fun H1 s1 => ?_⟩
    have k1 := k.same s1
    refine ⟨_, rfl, _, _, _, rfl, by omega, by omega, ?_⟩
    obtain ⟨dx, fs, ra, wa, na, ba, lo, H0, rts, bts, hc, Fc, Cp, hbl, hlo⟩ := k1.cl
    refine ⟨_, rfl, _, rfl, _, rfl, c, CC, dx, _, _, rfl, hc, TC.cl, TC.nS, Fc.st, _, _, rfl, _, rfl, c, CC, dx, _, _, rfl, hc, TC.cl, TC.nP, Fc.pe, _, _, rfl, rfl, _, _, rfl, ?_⟩
    have emax : (if ((m : Nat) : Int) > ((b : Nat) : Int) then ((m : Nat) : Int) else ((b : Nat) : Int)) + ((T' - m : Nat) : Int) = ((max b m + (T' - m) : Nat) : Int) := by
      split <;> omega
    dsimp only
    rw [emax]
    generalize hN : max b m + (T' - m) = N at *
    have hN2 : N ≤ 5000 := by omega
    have hbN : b ≤ N := by omega
    refine ⟨by omega, ?_⟩
    have eN : (((N : Nat) : Int) - ((b : Nat) : Int)).toNat = N - b := by omega
    rw [eN]
    refine for_it (D := { nx := tRet (tC V.non) { nx := fun x H' => Q V.non H', rt := Q }, rt := Q }) (walk_range (lo := (b : Int)) (n := N - b)) (fun i σ H' => ∃ (y5 y6 : Option V), σ = [some (.ref p), some (.ref ta), some (.int (b : Nat)), some (.ref c), some (nV g), y5, y6] ∧ Same H H' ∧ ∀ j, j < i → g ∉ lev I (b + j))
      ⟨none, none, rfl, s1, fun j h => absurd h (Nat.not_lt_zero _)⟩ (fun _ _ _ _ _ => trivial) ?_ ?_
    · rintro i v σ H2 H2' hi ⟨y5, y6, rfl, s2, hno⟩ ⟨rfl, hv⟩
      have hv : v = nV (b + i) := by rw [hv]; show V.int _ = V.int _; congr 1
      subst hv
      have k2 := k.same s2
      obtain ⟨dx2, fs2, ra2, wa2, na2, ba2, lo2, H02, rts2, bts2, hc2, Fc2, _⟩ := k2.cl
      refine ⟨_, rfl, c, dx2, fs2, rfl, hc2, Fc2.meth.fw, _, rfl, _, rfl, by show 1 ≤ sizeLine; decide, fun gq hgq => ?_⟩
      have s3 : Same H2' (upd H2' gq (.lst [nV g])) := same_upd hgq
      refine ⟨c, I, m, T', b + i, g, gq, rfl, k.ok, k.sm, (k2.same s3).cl, upd_same, hgl, by omega, fun H3 s4 => ⟨fun hng => ?_, fun wd hl hld => ?_⟩⟩
      · refine ⟨_, rfl, rfl, _, rfl, iteF ?_⟩
        refine ⟨_, _, rfl, (s2.trans s3).trans s4, fun j hj => ?_⟩
        by_cases e : j = i
        · rw [e]
          exact hng
        · exact hno j (by omega)
      · refine ⟨_, rfl, rfl, _, rfl, iteT ?_⟩
        exact ⟨_, rfl, q _ wd ((s2.trans s3).trans s4) (by omega) (by omega) hld⟩
    · rintro σ H2 ⟨y5, y6, rfl, s2, hno⟩
      exfalso
      obtain ⟨_, j, h1, h2, h3⟩ := longL_mem.mp hg
      obtain ⟨n, g1, g2, g3⟩ := ag.within h1 h2 (max b m) (by omega)
      refine hno (n - b) (by omega) ?_
      rw [show b + (n - b) = n by omega, g3]
      exact h3
end
end N18
end
section
set_option Elab.async false
set_option linter.all false
set_option maxRecDepth 100000
set_option maxHeartbeats 4000000
/-! len(set(text)), the text's signs all unlike: a rule of this claim's own. -/
namespace N18
open PySem PySem.Spec PyProof.Rows L2 TL PySem.W
def sgn (c : Nat) : Str := ⟨#[c]⟩
theorem sgn_inj {c d : Nat} (h : sgn c = sgn d) : c = d := by
  have h2 : [c] = [d] := congrArg (fun y : Str => y.cps.toList) h
  injection h2
section
variable {pg : Program} {wd : World} {A : Around} {R : Result → Shared → Prop} {it : Addr} {fp wr : List Addr} {n : Nat} {Pt : Nat → Value → Prop} {St : Nat → Heap → Prop}
theorem loopTxt (W : Walks pg wd A.in1 it fp wr n Pt St) (D : Addr) (hD : D ∉ fp) (xs : List Str) (nd : xs.Nodup) (hl : xs.length = n) (hb : n + 1 < scanBound)
    (hv : ∀ i v, Pt i v → ∃ c t, xs[i]? = some c ∧ v = .str c t) :
    ∀ (k i : Nat) (z : Shared), n - i = k → i ≤ n → St i z.heap → z.heap.SetOf (PySem.strKind pg wd) D (fun q => (xs.take i).any fun y => y == q) i →
      (∀ h' tk, (∀ b o, b ≠ D → b ∉ wr → z.heap.get? b = some o → h'.get? b = some o) → h'.SetOf (PySem.strKind pg wd) D (fun q => (xs.take n).any fun y => y == q) n → R (.ok (.ret .none)) { z with heap := h', toks := tk }) →
      codeAny (model pg wd) A (.builtin "set.update.loop" ⟨[.ref D, .ref it], []⟩) R z := by
  have hw : D ∉ wr := fun q => hD (W.sub _ q)
  intro k
  induction k with
  | zero =>
    intro i z hk hi hst hS hR
    have e : i = n := by omega
    subst e
    refine codeAny_builtin PyProof.Rows.F.entry_set_update_loop ?_
    rw [Around.under_plainId PyProof.Rows.F.plain_set_update_loop _]
    show wpAny _ A.in1 (pyNext (.ref it) >>= _) _ _ z
    refine wpAny_bind (W.done z _ _ hst fun h' tk hk' => ?_)
    show wpAny _ A.in1 (ret Value.none) _ _ _
    refine wpAny_pure (hR h' tk (fun b o _ hbw hg => hk' b o hbw hg) ?_)
    obtain ⟨o, es, ep, t, ho, rest⟩ := hS
    exact ⟨o, es, ep, t, hk' _ _ hw ho, rest⟩
  | succ k ih =>
    intro i z hk hi hst hS hR
    have hlt : i < n := by omega
    refine codeAny_builtin PyProof.Rows.F.entry_set_update_loop ?_
    rw [Around.under_plainId PyProof.Rows.F.plain_set_update_loop _]
    show wpAny _ A.in1 (pyNext (.ref it) >>= _) _ _ z
    refine wpAny_bind (W.item i z _ _ hlt hst fun v h1 tk1 hP hst1 hk1 => ?_)
    obtain ⟨c, t, hc, rfl⟩ := hv i v hP
    have hS1 : h1.SetOf (PySem.strKind pg wd) D (fun q => (xs.take i).any fun y => y == q) i := by
      obtain ⟨o, es, ep, tb, ho, rest⟩ := hS
      exact ⟨o, es, ep, tb, hk1 _ _ hw ho, rest⟩
    show wpAny _ A.in1 (holding [Value.str c t] (setAdd D (.str c t)) >>= _) _ _ _
    refine wpAny_bind (wpAny_holding ?_)
    unfold setAdd
    refine wpAny_holding ?_
    refine wpAny_bind ((PySem.strKind pg wd).pyHash (k := c) (strKind_is _ _ _ _) ?_)
    refine wpAny_setAddHashed_of (knd := PySem.strKind pg wd) (s := { z with heap := h1, toks := tk1 + 1 }) (strKind_is _ _ _ _) rfl hS1 (by omega) fun h2 hsb hS2 => ?_
    have hnew : ((xs.take i).any fun y => y == c) = false := by
      rw [List.any_eq_false]
      intro y hy e
      have e : y = c := beq_iff_eq.mp e
      subst e
      obtain ⟨j, hj⟩ := List.getElem?_of_mem hy
      have hji : j < i := by
        have := (List.getElem?_eq_some_iff.mp hj).1
        rw [List.length_take] at this
        omega
      rw [List.getElem?_take_of_lt hji] at hj
      have := nd_ix nd hj hc
      omega
    have hSi : h2.SetOf (PySem.strKind pg wd) D (fun q => (xs.take (i + 1)).any fun y => y == q) (i + 1) := by
      refine SetOf_congr hS2 (fun q => ?_) (by rw [hnew]; rfl)
      rw [List.take_succ, hc, List.any_append]
      congr 1
      show decide (q = c) = (c == q || false)
      rw [Bool.or_false]
      by_cases e : q = c
      · subst e
        rw [decide_eq_true rfl, beq_self_eq_true]
      · rw [decide_eq_false e, beq_eq_false_iff_ne.mpr (Ne.symm e)]
    refine wpAny_pure ⟨plainId_quiet PyProof.Rows.F.plain_set_update_loop _, ih (i + 1) _ (by omega) hlt (W.frame _ h1 h2 hst1 fun b hbf o e => ?_) hSi fun h3 tk3 hk3 hS3 => ?_⟩
    · rw [hsb.2 b (fun q : b = D => hD (by rw [← q]; exact hbf))]
      exact e
    · refine hR h3 tk3 (fun b o n1 n2 e => hk3 b o n1 n2 ?_) hS3
      show h2.get? b = some o
      rw [hsb.2 b n1]
      exact hk1 _ _ n2 e
end
section
variable {pg : Program} {wd : World} {A : Around} {E : Value → Shared → Prop} {z : Shared}
/-- the set made anew, before anything is in it -/
def newSet (led : Bool) : Obj := { cls := .type "set", dict := none, data := .set #[] 0 (.fresh 0 0 led) }
theorem call_set_text {x : Str} {u : Tok} {Q : Value → Shared → Prop} (hh : A.handled = none) (nd : x.cps.toList.Nodup) (hb : x.cps.size + 1 < scanBound)
    (h : ∀ (h' : Heap) (tk : Nat), (∃ S, h'.SetOf (PySem.strKind pg wd) z.heap.objs.size S x.cps.size) → (∀ b o, b < z.heap.objs.size → z.heap.get? b = some o → h'.get? b = some o) → Q (.ref z.heap.objs.size) { z with heap := h', toks := tk }) :
    wpAny (model pg wd) A (call (.type "set") [.str x u]) Q E z := by
  obtain ⟨mc, mt, hmro⟩ := PySem.F.called_set.mro
  have hmade := PySem.F.called_set.made
  have hsub := PySem.F.called_set.sub
  refine wpAny_call (codeAny_of_tree ?_)
  show wpAny _ _ (callAny (.type "set") _) _ _ _
  refine wpAny_pure ⟨Code.quiet_builtin _ (by decide +kernel), codeAny_builtin PySem.F.entry_type_call ?_⟩
  rw [Around.under_plain (weight_type_call_type "set" [.str x u] []) rfl]
  have k1 := PySem.F.called_set.notType
  have k2 := PySem.F.called_set.canCreate
  have k3 := PySem.F.typeCall_set_1 (.str x u)
  repeat (any_goals (first | assumption | wp_step))
  refine codeAny_mono (code_set_new_1 (.str x u) (E := E) (Q₁ := fun obj s₁ => ∃ led : Bool, obj = .ref z.heap.objs.size ∧ s₁ = { z with heap := z.heap.push (newSet led) }) fun led => ⟨led, rfl, rfl⟩) fun r s₁ hr => ?_
  cases r with
  | error e => exact hr
  | ok fl =>
    cases fl with
    | ret obj =>
      obtain ⟨led, rfl, rfl⟩ := hr
      have hS : (z.heap.push (newSet led)).get? z.heap.objs.size = some (newSet led) := Heap.get?_push_size _ rfl
      have hT : Shared.TypeIs { z with heap := z.heap.push (newSet led) } (.ref z.heap.objs.size) "set" := ⟨_, hS, rfl⟩
      have hli := PySem.F.called_set.init.lookup
      have hbi := PySem.F.called_set.init.bind (.ref z.heap.objs.size)
      repeat (any_goals (first | assumption | wp_step))
      refine codeAny_mono (codeAny_call_builtin (R := wants (fun r s₂ => r = .none ∧ ∃ h' tk, s₂ = { z with heap := h', toks := tk } ∧ (∃ S, h'.SetOf (PySem.strKind pg wd) z.heap.objs.size S x.cps.size) ∧
          (∀ b o, b < z.heap.objs.size → z.heap.get? b = some o → h'.get? b = some o)) E) PySem.F.called_set.init.plain PySem.F.entry_set_init (check_set_init_1 hT ?_)) fun r₂ s₂ hr₂ => ?_
      · have q1 := PySem.F.sub_str_set
        have q2 := PySem.F.sub_str_frozenset
        have q3 : (Value.type "str" == Value.type "dict") = false := by decide
        unfold Builtin.«set.__init__» noKeywords Builtin.Frozenset.updateFrom
        generalize hPI : pyIter = PI
        wp_walk
        subst hPI
        refine wpAny_pyIter_str fun o St hW hst => ?_
        refine wpAny_bind (wpAny_runValue ?_)
        have hh3 : A.in1.in1.in1.handled = none := by simp [hh]
        have hD : z.heap.objs.size ∉ [(z.heap.push (newSet led)).objs.size] := by
          rw [Heap.size_push, List.mem_singleton]
          exact Nat.ne_of_lt (Nat.lt_succ_self _)
        have ndx : (x.cps.toList.map sgn).Nodup := by
          rw [List.nodup_iff_pairwise_ne, List.pairwise_map]
          exact (List.nodup_iff_pairwise_ne.mp nd).imp fun hne e => hne (sgn_inj e)
        refine loopTxt (hW _ hh3) z.heap.objs.size hD (x.cps.toList.map sgn) ndx (by simp) hb ?hv (x.cps.size - 0) 0 _ (by omega) (Nat.zero_le _) hst ?hS0 ?hR
        case hv =>
          rintro i v ⟨c, t, hc, rfl⟩
          refine ⟨sgn c, t, ?_, rfl⟩
          rw [List.getElem?_map, Array.getElem?_toList, hc]
          rfl
        case hS0 =>
          have hg : ((z.heap.push (newSet led)).push o).get? z.heap.objs.size = some (newSet led) := Heap.get?_push_of_some _ hS
          exact PyProof.Rows.SetOf_congr ((PyProof.Rows.setObjOf_fresh (knd := PySem.strKind pg wd) led).setOf hg (by unfold scanBound; omega)) (fun _ => rfl) rfl
        case hR =>
          intro h' tk hk' hS'
          show wpAny _ _ _ _ _ _
          refine wpAny_pure ?_
          show wpAny _ _ (ret Value.none) _ _ _
          refine wpAny_pure ⟨rfl, h', tk, rfl, ⟨_, hS'⟩, fun b o' hb e => ?_⟩
          refine hk' b o' (Nat.ne_of_lt hb) ?_ (Heap.get?_push_of_some _ (Heap.get?_push_of_some _ e))
          rw [Heap.size_push, List.mem_singleton]
          exact Nat.ne_of_lt (Nat.lt_succ_of_lt hb)
      · cases r₂ with
        | error e => exact hr₂
        | ok fl₂ =>
          cases fl₂ with
          | ret r =>
            obtain ⟨rfl, h', tk, rfl, hS', hk'⟩ := hr₂
            repeat (any_goals (first | assumption | wp_step))
            exact h _ _ hS' hk'
          | _ => exact hr₂.elim
    | _ => exact hr.elim
end
/-- len(set(text)), no sign in it twice -/
def tLenSetT (ta : TE) : TE := fun σ H Q => ta σ H fun x H1 => ∃ l : List Nat, x = .str (tx l) ∧ l.Nodup ∧ l.length ≤ 100 ∧ Q (.int l.length) H1
theorem pe_lenSetT {X : Cx} {a : Expr} {ta : TE} {p p2 q pos : Pos} (hc : X.calm = true) (hg : Gl X "len") (hm : X.mg "len" = none) (hg2 : Gl X "set") (hm2 : X.mg "set" = none) (ha : PE X a ta)
    (na : starEach [a] X.env = (false, eval a X.env) :: starEach [] X.env := by rfl) : PE X (.Call (.Name "len" p) [.Call (.Name "set" p2) [a] [] q] [] pos) (tLenSetT ta) := by
  refine ⟨fun pins s σ H Q I h => ?_⟩
  refine Call_ (ld_blt I hg hm boot_len ?_)
  refine PyProof.Rows.callWith_builtin1 (PyProof.Rows.args_cons ?_ rfl) rfl rfl
  refine Call_ (ld_blt I hg2 hm2 boot_set ?_)
  refine PyProof.Rows.callWith_type1 (PyProof.Rows.args_cons (thn (ha.run pins s σ H _ I h) fun v s1 ⟨x, H1, I1, r1, q1⟩ => PyProof.Rows.args_nil ?_) na) na rfl
  obtain ⟨l, rfl, nd, hl, q1⟩ := q1
  obtain ⟨u, rfl⟩ := r1
  have hsz : (tx l).cps.size = l.length := tx_size l
  refine call_set_text (I1.ok.hd hc) (by simpa [tx] using nd) (by rw [hsz]; unfold scanBound; omega) fun h' tk ⟨S, hS⟩ hk => ?_
  refine PyProof.Rows.args_nil ?_
  rw [hsz] at hS
  obtain ⟨o, es, ep, t, ho, hex, hd, _, _, _, hf, hn⟩ := hS
  have I2 : Inv X pins σ H1 { s1 with heap := h', toks := tk } := I1.kept fun b o e => hk b o (Heap.lt_size e) e
  exact call_len_set ho hex hd hf (by rw [hn]; omega) ⟨.int l.length, H1, I2.tok _, ⟨_, by rw [hn]⟩, q1⟩
end N18
end
section
set_option Elab.async false
set_option linter.all false
set_option maxRecDepth 100000
set_option maxHeartbeats 4000000
namespace N18
open PySem PySem.Spec PyProof.Rows L2 TL PySem.W
/-! ### dicts that say True -/
section
variable {κ : Type} [DecidableEq κ]
def trueK (ks : List κ) : List (κ × V) := ks.map fun k => (k, V.bl true)
theorem trueK_len (ks : List κ) : (trueK ks).length = ks.length := List.length_map _
theorem trueK_none {ks : List κ} {k : κ} (h : k ∉ ks) : valV (trueK ks) k = none := by
  induction ks with
  | nil => rfl
  | cons x ks ih =>
    rw [List.mem_cons, not_or] at h
    show valV ((x, V.bl true) :: trueK ks) k = none
    rw [valV_neg (p := (x, V.bl true)) fun e => h.1 e.symm]
    exact ih h.2
theorem trueK_some {ks : List κ} {k : κ} (h : k ∈ ks) : valV (trueK ks) k = some (.bl true) := by
  induction ks with
  | nil => exact (List.not_mem_nil h).elim
  | cons x ks ih =>
    show valV ((x, V.bl true) :: trueK ks) k = _
    by_cases e : x = k
    · exact valV_pos (p := (x, V.bl true)) e
    · rw [valV_neg (p := (x, V.bl true)) e]
      exact ih (List.mem_of_ne_of_mem (Ne.symm e) h)
theorem trueK_has (ks : List κ) (k : κ) : (valV (trueK ks) k).isSome = decide (k ∈ ks) := by
  by_cases h : k ∈ ks
  · rw [trueK_some h, decide_eq_true h]
    rfl
  · rw [trueK_none h, decide_eq_false h]
    rfl
theorem trueK_put {ks : List κ} {k : κ} (h : k ∉ ks) : putK (trueK ks) k (.bl true) = trueK (ks ++ [k]) := by
  rw [putK_new _ (trueK_none h)]
  unfold trueK
  rw [List.map_append]
  rfl
theorem putK_mem {ks : List κ} {k : κ} (h : k ∈ ks) : putK (trueK ks) k (.bl true) = trueK ks := by
  unfold putK
  have e : ((trueK ks).any fun kv => decide (kv.1 = k)) = true := by
    rw [List.any_eq_true]
    exact ⟨(k, .bl true), List.mem_map.mpr ⟨k, h, rfl⟩, decide_eq_true rfl⟩
  rw [if_pos e]
  unfold trueK
  rw [List.map_map]
  refine List.map_congr_left fun x _ => ?_
  show (if x = k then (x, V.bl true) else (x, V.bl true)) = (x, V.bl true)
  split <;> rfl
end
/-- texts as keys -/
def tkK (p : List Nat) : Key := Sum.inr (tx p)
theorem tkK_inj {a b : List Nat} (h : tkK a = tkK b) : a = b := tx_inj (Sum.inr.inj h)
theorem tkK_mem {ps : List (List Nat)} {p : List Nat} : tkK p ∈ ps.map tkK ↔ p ∈ ps := by
  constructor
  · intro h
    obtain ⟨a, ha, e⟩ := List.mem_map.mp h
    rw [← tkK_inj e]
    exact ha
  · intro h
    exact List.mem_map.mpr ⟨p, h, rfl⟩
theorem tkK_nd {ps : List (List Nat)} (h : ps.Nodup) : (ps.map tkK).Nodup := by
  rw [List.nodup_iff_pairwise_ne] at h ⊢
  rw [List.pairwise_map]
  exact h.imp fun hne e => hne (tkK_inj e)
def tV (p : List Nat) : V := .str (tx p)
section
variable {P : Program} {w : World} {K : PySem.W.Frag} {mg : Str → Option Value} {base : Heap}
/-! ### is_choice -/
def spIsChoice : Sp := fun vs H Q _ => ∃ (l al : List Nat), vs = [.str (tx l), .str (tx al)] ∧ (∀ c ∈ l, c ∈ al) ∧ l.Nodup ∧ l.length ≤ 100 ∧ Q (.bl true) H
theorem scIsChoice : FnScope ["thing", "signs"] ["thing", "signs"] (defScope sIsChoice) := ⟨rfl, rfl, rfl, by decide +kernel, rfl, by decide +kernel, by decide +kernel⟩
theorem ok_isChoice {f : Addr} {fd : FuncData} (F : Fun K "is_choice" "is_choice" sIsChoice f fd) (B : Bt mg) (c1 : Cal P w K mg base "is_string_of" 1 ["thing", "signs"] spIsStringOf) : FnOk P w K mg base CX0 2 f fd ["thing", "signs"] spIsChoice := by
  obtain ⟨g, gd, G, mG, kG, bG⟩ := c1
  refine F.ok scIsChoice (fun vs H Q E h => ?_) (fun cdv A outer s H vs Q E hr h => ?_)
  · obtain ⟨l, al, rfl, _⟩ := h
    rfl
  · obtain ⟨l, al, rfl, hin, nd, hl, q⟩ := h
    refine ⟨_, pss_one (ps_ret (pe_and (pe_call G hr (by rfl) mG kG bG .nil pass0 (pa_cons (pv 0) (pa_cons (pv 1) pa_nil)))
      (pe_one (pe_cmpR op_eq (pe_lenSetT rfl (by rfl) B.len (by rfl) B.set (pv 0)) (pe_callB call_len_str (by rfl) B.len PySem.boot_len (pa_cons (pv 0) pa_nil)) (nomark _))))), ?_⟩
    refine ⟨_, rfl, _, rfl, tx l, tx al, rfl, by rw [tl_tx, tl_tx]; exact hin, true, rfl, iteT ?_⟩
    have ee : decide (V.int ((l.length : Nat) : Int) = V.int (((tx l).length : Nat) : Int)) = true := decide_eq_true (by rw [tx_len])
    refine ⟨_, rfl, l, rfl, nd, hl, _, rfl, tx l, rfl, by rw [tx_len]; exact Nat.le_of_lt (small1000 (by omega)), ?_⟩
    dsimp only
    refine ⟨rfl, ?_⟩
    rw [ee]
    exact q
/-! ### is_pair -/
def spIsPair : Sp := fun vs H Q _ => ∃ (g1 s1 g2 s2 : Nat) (gl sl : List Nat), vs = [tV [g1, s1, g2, s2], tV gl, tV sl] ∧ g1 ∈ gl ∧ s1 ∈ sl ∧ g2 ∈ gl ∧ s2 ∈ sl ∧ Q (.bl true) H
theorem scIsPair : FnScope ["thing", "given", "said"] ["thing", "given", "said"] (defScope sIsPair) := ⟨rfl, rfl, rfl, by decide +kernel, rfl, by decide +kernel, by decide +kernel⟩
theorem ok_isPair {f : Addr} {fd : FuncData} (F : Fun K "is_pair" "is_pair" sIsPair f fd) (B : Bt mg) : FnOk P w K mg base CX0 1 f fd ["thing", "given", "said"] spIsPair := by
  refine F.ok scIsPair (fun vs H Q E h => ?_) (fun cdv A outer s H vs Q E hr h => ?_)
  · obtain ⟨g1, s1, g2, s2, gl, sl, rfl, _⟩ := h
    rfl
  · obtain ⟨g1, s1, g2, s2, gl, sl, rfl, h1, h2, h3, h4, q⟩ := h
    refine ⟨_, pss_cons (ps_if (PW.pt (pw_or (pt_not (pt_val (pe_callB call_isi (by rfl) B.isi (by decide +kernel) (pa_cons (pv 0) (pa_cons (pe_bltn (v := .ty "str") (by rfl) B.str (by decide +kernel) rfl) pa_nil)))))
        (pw_or1 (pt_cmpR op_ne (pe_callB call_len_str (by rfl) B.len PySem.boot_len (pa_cons (pv 0) pa_nil)) pe_int (nomark _))))) (pss_one (ps_ret pe_bl)) pss_nil)
      (pss_one (ps_ret (pe_and (pe_cmpR op_in_sign (pe_ix ix_str (pv 0) pe_int (fun _ _ => rfl)) (pv 1) rfl)
        (pe_and (pe_cmpR op_in_sign (pe_ix ix_str (pv 0) pe_int (fun _ _ => rfl)) (pv 2) rfl)
        (pe_and (pe_cmpR op_in_sign (pe_ix ix_str (pv 0) pe_int (fun _ _ => rfl)) (pv 1) rfl)
        (pe_one (pe_cmpR op_in_sign (pe_ix ix_str (pv 0) pe_int (fun _ _ => rfl)) (pv 2) rfl))))))), ?_⟩
    refine ⟨_, rfl, .str (tx [g1, s1, g2, s2]), .ty "str", _, _, true, rfl, .ty _, .base (.str _), kit_ty (by decide +kernel), _, rfl, ?_⟩
    refine iteF ?_
    have l4 : (tx [g1, s1, g2, s2]).length ≤ sizeLine := by
      rw [tx_len]
      exact Nat.le_of_lt (small1000 (show 4 ≤ 1000 by omega))
    refine ⟨_, rfl, _, rfl, l4, rfl, _, rfl, ?_⟩
    refine iteNS (by rfl) ?_
    have m : ∀ (c : Nat) (l : List Nat), c ∈ l → decide (c ∈ (tx l).cps.toList) = true := fun c l h => decide_eq_true (show c ∈ tl (tx l) by rw [tl_tx]; exact h)
    refine ⟨_, rfl, tx [g1, s1, g2, s2], 0, g1, rfl, rfl, l4, rfl, _, rfl, g1, tx gl, rfl, rfl, true, congrArg V.bl (m _ _ h1), iteT ?_⟩
    refine ⟨_, rfl, tx [g1, s1, g2, s2], 1, s1, rfl, rfl, l4, rfl, _, rfl, s1, tx sl, rfl, rfl, true, congrArg V.bl (m _ _ h2), iteT ?_⟩
    refine ⟨_, rfl, tx [g1, s1, g2, s2], 2, g2, rfl, rfl, l4, rfl, _, rfl, g2, tx gl, rfl, rfl, true, congrArg V.bl (m _ _ h3), iteT ?_⟩
    refine ⟨_, rfl, tx [g1, s1, g2, s2], 3, s2, rfl, rfl, l4, rfl, _, rfl, s2, tx sl, rfl, rfl, ?_⟩
    rw [m _ _ h4]
    exact q
/-! ### are_pairs -/
def spArePairs : Sp := fun vs H Q _ => ∃ (la : Addr) (ps : List (List Nat)) (gl sl : List Nat), vs = [.ref la, tV gl, tV sl] ∧ H la = some (.lst (ps.map tV)) ∧ ps.Nodup ∧ ps.length ≤ 100 ∧
  (∀ p ∈ ps, ∃ g1 s1 g2 s2, p = [g1, s1, g2, s2] ∧ g1 ∈ gl ∧ s1 ∈ sl ∧ g2 ∈ gl ∧ s2 ∈ sl) ∧ ∀ H', Same H H' → Q (.bl true) H'
theorem scArePairs : FnScope ["thing", "given", "said", "seen", "pair"] ["thing", "given", "said"] (defScope sArePairs) := ⟨rfl, rfl, rfl, by decide +kernel, rfl, by decide +kernel, by decide +kernel⟩
theorem ok_arePairs {f : Addr} {fd : FuncData} (F : Fun K "are_pairs" "are_pairs" sArePairs f fd) (B : Bt mg) (c1 : Cal P w K mg base "is_pair" 1 ["thing", "given", "said"] spIsPair) : FnOk P w K mg base CX0 2 f fd ["thing", "given", "said"] spArePairs := by
  obtain ⟨g, gd, G, mG, kG, bG⟩ := c1
  refine F.ok scArePairs (fun vs H Q E h => ?_) (fun cdv A outer s H vs Q E hr h => ?_)
  · obtain ⟨la, ps, gl, sl, rfl, _⟩ := h
    rfl
  · obtain ⟨la, ps, gl, sl, rfl, hla, nd, hl, hps, q⟩ := h
    have hu := hu_of hr
    have nd' := scArePairs.nd
    refine ⟨_, pss_cons (ps_if (pt_not (pt_val (pe_callB call_isi (by rfl) B.isi (by decide +kernel) (pa_cons (pv 0) (pa_cons (pe_bltn (v := .ty "list") (by rfl) B.list (by decide +kernel) rfl) pa_nil))))) (pss_one (ps_ret pe_bl)) pss_nil)
      (pss_cons (ps_set (i := 3) nd' rfl (.inl rfl) pe_dnewK)
      (pss_cons (ps_for PassesOwn.never rfl (pi_list (pv 0)) (pg_name (i := 4) nd' rfl (.inl rfl))
        (pss_cons (ps_if (PW.pt (pw_or (pt_not (pt_val (pe_call G hr (by rfl) mG kG bG .nil pass0 (pa_cons (pv 4) (pa_cons (pv 1) (pa_cons (pv 2) pa_nil)))))) (pw_or1 (pt_cmp (pc_din hu (pv 4) (pv 3)))))) (pss_one (ps_ret pe_bl)) pss_nil)
        (pss_one (ps_dput hu (pv 3) (pv 4) pe_bl rfl))))
      (pss_one (ps_ret pe_bl)))), ?_⟩
    refine ⟨_, rfl, .ref la, .ty "list", _, _, true, rfl, .ty _, .base (.lst hla), kit_ty (by decide +kernel), _, rfl, iteF ?_⟩
    intro sa hsa
    have s1 : Same H (upd H sa (.dK [])) := same_upd hsa
    refine ⟨_, rfl, la, rfl, ⟨_, SqL.of (s1 _ _ hla)⟩, for_it (walk_list (xs := ps.map tV)) (fun i σ H' => ∃ (y4 : Option V), σ = [some (.ref la), some (tV gl), some (tV sl), some (.ref sa), y4] ∧ Same H H' ∧ H' sa = some (.dK (trueK ((ps.take i).map tkK)))) ⟨none, rfl, s1, upd_same⟩ ?_ ?_ ?_⟩
    · rintro i σ H' _ ⟨y4, rfl, h1, _⟩
      exact SqL.of (h1 _ _ hla)
    · rintro i v σ H1 H1' hi ⟨y4, rfl, s2, hs2⟩ ⟨rfl, hv⟩
      rw [List.length_map] at hi
      rw [List.getElem?_map, List.getElem?_eq_getElem hi] at hv
      have hv := Option.some.inj hv
      subst hv
      generalize hp : ps[i] = p at *
      have hget : ps[i]? = some p := by rw [List.getElem?_eq_getElem hi, hp]
      obtain ⟨g1, s1', g2, s2', rfl, m1, m2, m3, m4⟩ := hps p (List.mem_of_getElem? hget)
      have hnew : tkK [g1, s1', g2, s2'] ∉ (ps.take i).map tkK := by
        rw [tkK_mem]
        intro h
        obtain ⟨j, hj⟩ := List.getElem?_of_mem h
        have hji : j < i := by
          have := (List.getElem?_eq_some_iff.mp hj).1
          rw [List.length_take] at this
          omega
        rw [List.getElem?_take_of_lt hji] at hj
        have := nd_get nd hj hget
        omega
      have dg := DGet.k (k := tkK [g1, s1', g2, s2']) hs2
      rw [trueK_none hnew] at dg
      have dp := DPut.k (k := tkK [g1, s1', g2, s2']) (v := .bl true) hs2 (by rw [trueK_len, List.length_map, List.length_take]; exact small1000 (by omega))
      rw [trueK_put hnew] at dp
      refine ⟨_, rfl, _, rfl, _, rfl, g1, s1', g2, s2', gl, sl, rfl, m1, m2, m3, m4, true, rfl, iteF ?_⟩
      refine ⟨_, rfl, _, rfl, sa, _, rfl, dg, _, rfl, iteF ?_⟩
      refine ⟨_, rfl, _, rfl, sa, _, rfl, dp, _, rfl, s2.put hsa, ?_⟩
      rw [upd_same, take_snoc hget, List.map_append]
      rfl
    · rintro σ H1 ⟨y4, rfl, s2, hs2⟩
      exact q _ s2
end
end N18
end
section
set_option Elab.async false
set_option linter.all false
set_option maxRecDepth 100000
set_option maxHeartbeats 4000000
namespace N18
open PySem PySem.Spec PyProof.Rows L2 TL PySem.W
/-! ### a comprehension of two clauses -/
theorem lc1_it {J : It} {n : Nat} {G : Hp → Prop} {Y : Nat → Hp → V → Hp → Prop} (w : Walk J n G Y) {g : TG} {tt : TT} {te : TE} {vs : List Nat} {σ : L2.St} {H1 : Hp} {D : Addr} {Qd : Hp → Prop} (Pv : Nat → Hp → Prop) (h0 : Pv 0 H1) (hG : ∀ i H, i ≤ n → Pv i H → G H)
    (hs : ∀ i x H H', i < n → Pv i H → Y i H x H' → g x (wipe σ vs) H' fun σ2 H2 => wipe σ2 vs = wipe σ vs ∧ tt σ2 H2 fun b H3 =>
      if b = true then te σ2 H3 fun y H4 => ∃ acc, H4 D = some (.lst acc) ∧ acc.length < sizeLine ∧ Pv (i + 1) (upd H4 D (.lst (acc ++ [y]))) else Pv (i + 1) H3) (hd : ∀ H, Pv n H → Qd H) :
    ∃ W : Nat → Nat → Hp → Prop, (∃ m, W 0 m H1) ∧ ∀ i m H, W i m H →
      (J.stop i H ∧ Qd H) ∨ (J.go i H ∧ ∃ Nx : Hp → Prop, (∀ H', Nx H' → ∃ m', m' < m ∧ W (i + 1) m' H') ∧ ∀ x H', J.yld i H x H' → g x (wipe σ vs) H' fun σ2 H2 => wipe σ2 vs = wipe σ vs ∧ tt σ2 H2 fun b H3 =>
        if b = true then te σ2 H3 fun y H4 => ∃ acc, H4 D = some (.lst acc) ∧ acc.length < sizeLine ∧ Nx (upd H4 D (.lst (acc ++ [y]))) else Nx H3) := by
  refine ⟨fun i m H => m = n - i ∧ i ≤ n ∧ Pv i H, ⟨n, by simp, Nat.zero_le _, h0⟩, ?_⟩
  rintro i m H ⟨rfl, hi, p⟩
  have q := hG i H hi p
  by_cases hlt : i < n
  · refine .inr ⟨w.goes i H hlt q, Pv (i + 1), fun H' p' => ⟨n - (i + 1), by omega, rfl, hlt, p'⟩, fun x H' y => hs i x H H' hlt p (w.yields i H x H' hlt q y)⟩
  · have e : i = n := by omega
    subst e
    exact .inl ⟨w.stops H q, hd H p⟩
theorem lc2_it {J : It} {n : Nat} {G : Hp → Prop} {Y : Nat → Hp → V → Hp → Prop} (w : Walk J n G Y) {g : TG} {tt : TT} {wi1 : TI} {g1 : TG} {tt1 : TT} {te : TE} {vs vs1 : List Nat} {σ : L2.St} {H1 : Hp} {D : Addr} {Qd : Hp → Prop} (Pv : Nat → Hp → Prop) (h0 : Pv 0 (upd H1 D (.lst []))) (hG : ∀ i H, i ≤ n → Pv i H → G H)
    (hs : ∀ i x H H', i < n → Pv i H → Y i H x H' → g x (wipe σ vs) H' fun σ2 H2 => wipe σ2 vs = wipe σ vs ∧ tt σ2 H2 fun b H3 =>
      if b = true then wi1 σ2 H3 fun J1 H4 => ∃ W1 : Nat → Nat → Hp → Prop, (∃ m, W1 0 m H4) ∧ ∀ j k H, W1 j k H →
        (J1.stop j H ∧ Pv (i + 1) H) ∨ (J1.go j H ∧ ∃ Nx1 : Hp → Prop, (∀ H', Nx1 H' → ∃ k', k' < k ∧ W1 (j + 1) k' H') ∧ ∀ x H', J1.yld j H x H' → g1 x (wipe σ2 vs1) H' fun σ3 H5 => wipe σ3 vs1 = wipe σ2 vs1 ∧ tt1 σ3 H5 fun b H6 =>
          if b = true then te σ3 H6 fun y H7 => ∃ acc, H7 D = some (.lst acc) ∧ acc.length < sizeLine ∧ Nx1 (upd H7 D (.lst (acc ++ [y]))) else Nx1 H6)
      else Pv (i + 1) H3) (hd : ∀ H, Pv n H → Qd H) :
    ∃ W : Nat → Nat → Hp → Prop, (∃ m, W 0 m (upd H1 D (.lst []))) ∧ ∀ i m H, W i m H →
      (J.stop i H ∧ Qd H) ∨ (J.go i H ∧ ∃ Nx : Hp → Prop, (∀ H', Nx H' → ∃ m', m' < m ∧ W (i + 1) m' H') ∧ ∀ x H', J.yld i H x H' → g x (wipe σ vs) H' fun σ2 H2 => wipe σ2 vs = wipe σ vs ∧ tt σ2 H2 fun b H3 =>
      if b = true then wi1 σ2 H3 fun J1 H4 => ∃ W1 : Nat → Nat → Hp → Prop, (∃ m, W1 0 m H4) ∧ ∀ j k H, W1 j k H →
        (J1.stop j H ∧ Nx H) ∨ (J1.go j H ∧ ∃ Nx1 : Hp → Prop, (∀ H', Nx1 H' → ∃ k', k' < k ∧ W1 (j + 1) k' H') ∧ ∀ x H', J1.yld j H x H' → g1 x (wipe σ2 vs1) H' fun σ3 H5 => wipe σ3 vs1 = wipe σ2 vs1 ∧ tt1 σ3 H5 fun b H6 =>
          if b = true then te σ3 H6 fun y H7 => ∃ acc, H7 D = some (.lst acc) ∧ acc.length < sizeLine ∧ Nx1 (upd H7 D (.lst (acc ++ [y]))) else Nx1 H6)
      else Nx H3) := by
  refine ⟨fun i m H => m = n - i ∧ i ≤ n ∧ Pv i H, ⟨n, by simp, Nat.zero_le _, h0⟩, ?_⟩
  rintro i m H ⟨rfl, hi, p⟩
  have q := hG i H hi p
  by_cases hlt : i < n
  · refine .inr ⟨w.goes i H hlt q, Pv (i + 1), fun H' p' => ⟨n - (i + 1), by omega, rfl, hlt, p'⟩, fun x H' y => hs i x H H' hlt p (w.yields i H x H' hlt q y)⟩
  · have e : i = n := by omega
    subst e
    exact .inl ⟨w.stops H q, hd H p⟩
/-! ### sums of different powers of two -/
def pows (f : Nat → Bool) (n : Nat) : Nat := (((List.range n).filter f).map fun q => 2 ^ q).sum
theorem pows_succ (f : Nat → Bool) (n : Nat) : pows f (n + 1) = pows f n + if f n = true then 2 ^ n else 0 := by
  unfold pows
  rw [List.range_succ, List.filter_append, List.map_append, List.sum_append]
  congr 1
  cases h : f n with
  | true => rw [List.filter_cons_of_pos h]; simp
  | false => rw [List.filter_cons_of_neg (by rw [h]; decide)]; rfl
theorem pows_lt (f : Nat → Bool) : ∀ n, pows f n < 2 ^ n
  | 0 => by
    show 0 < 1
    decide
  | n + 1 => by
    have := pows_lt f n
    rw [pows_succ, Nat.pow_succ]
    split <;> omega
theorem pows_bit (f : Nat → Bool) : ∀ n q, (pows f n).testBit q = (decide (q < n) && f q)
  | 0, q => by
    show (0 : Nat).testBit q = _
    rw [Nat.zero_testBit, decide_eq_false (Nat.not_lt_zero q), Bool.false_and]
  | n + 1, q => by
    have ih := pows_bit f n q
    have hlt := pows_lt f n
    rw [pows_succ]
    cases h : f n with
    | false =>
      rw [if_neg (by decide), Nat.add_zero, ih]
      by_cases e : q = n
      · subst e
        rw [h, Bool.and_false, Bool.and_false]
      · rw [show decide (q < n) = decide (q < n + 1) from decide_eq_decide.mpr (by omega)]
    | true =>
      rw [if_pos rfl, Nat.add_comm]
      by_cases e : q = n
      · subst e
        rw [Nat.testBit_two_pow_add_eq, ih, decide_eq_false (Nat.lt_irrefl q), decide_eq_true (Nat.lt_succ_self q), h]
        rfl
      · by_cases e2 : q < n
        · rw [Nat.testBit_two_pow_add_gt e2, ih, decide_eq_true e2, decide_eq_true (Nat.lt_succ_of_lt e2)]
        · rw [Nat.testBit_lt_two_pow, decide_eq_false (by omega), Bool.false_and]
          have h2 : 2 ^ (n + 1) ≤ 2 ^ q := Nat.pow_le_pow_right (by decide) (by omega)
          rw [Nat.pow_succ] at h2
          omega
theorem sum_cast : ∀ l : List Nat, (l.map fun q : Nat => ((2 ^ q : Nat) : Int)).sum = (((l.map fun q => 2 ^ q).sum : Nat) : Int)
  | [] => rfl
  | a :: l => by
    rw [List.map_cons, List.map_cons, List.sum_cons, List.sum_cons, sum_cast l]
    exact (Int.natCast_add _ _).symm
/-! ### the wish of these letters and pairs -/
structure LOk (gl sl : List Nat) : Prop where
  gn : gl.Nodup
  sn : sl.Nodup
  gs : ∀ c ∈ gl, 97 ≤ c ∧ c ≤ 122
  ss : ∀ c ∈ sl, 65 ≤ c ∧ c ≤ 90
  k1 : 1 ≤ gl.length
  s1 : 1 ≤ sl.length
  s4 : sl.length ≤ 4
  n6 : gl.length * sl.length ≤ 6
  ks : gl.length = 1 ∨ (gl.length ≤ 2 ∧ sl.length ≤ 3) ∨ (gl.length ≤ 3 ∧ sl.length ≤ 2)
def cellsL (gl sl : List Nat) : List (List Nat) := gl.flatMap fun g => sl.map fun c => [g, c]
def fitP (ps cs : List (List Nat)) (one : List Nat) (q : Nat) : Bool := decide (one ++ cs.getD q [] ∈ ps)
def instOf (gl sl : List Nat) (ps : List (List Nat)) : Inst := ⟨gl.length, sl.length, gl, sl, (cellsL gl sl).map fun one => pows (fitP ps (cellsL gl sl) one) (gl.length * sl.length)⟩
theorem instOf_cells (gl sl : List Nat) (ps : List (List Nat)) : (instOf gl sl ps).cells = cellsL gl sl := rfl
theorem cellsL_len (gl sl : List Nat) : (cellsL gl sl).length = gl.length * sl.length := by
  unfold cellsL
  rw [List.length_flatMap]
  simp only [List.length_map]
  rw [List.map_const', List.sum_replicate_nat]
theorem LOk.ok {gl sl : List Nat} (h : LOk gl sl) (ps : List (List Nat)) : (instOf gl sl ps).Ok where
  gk := rfl
  sk := rfl
  gn := h.gn
  sn := h.sn
  gs := h.gs
  ss := h.ss
  al := by
    show ((cellsL gl sl).map _).length = gl.length * sl.length
    rw [List.length_map, cellsL_len]
  alt m hm := by
    obtain ⟨one, _, rfl⟩ := List.mem_map.mp hm
    exact pows_lt _ _
  k1 := h.k1
  s1 := h.s1
  s4 := h.s4
  n6 := h.n6
  ks := h.ks
/-- what is set in the rows -/
theorem instOf_bit {gl sl : List Nat} {ps : List (List Nat)} {p q : Nat} (hp : p < gl.length * sl.length) (hq : q < gl.length * sl.length) :
    (((instOf gl sl ps).A.getD p 0).testBit q = true) ↔ (cellsL gl sl).getD p [] ++ (cellsL gl sl).getD q [] ∈ ps := by
  have e : (instOf gl sl ps).A.getD p 0 = pows (fitP ps (cellsL gl sl) ((cellsL gl sl).getD p [])) (gl.length * sl.length) := by
    show ((cellsL gl sl).map _).getD p 0 = _
    have hp' : p < (cellsL gl sl).length := by rw [cellsL_len]; exact hp
    rw [List.getD_eq_getElem?_getD, List.getD_eq_getElem?_getD, List.getElem?_map, List.getElem?_eq_getElem hp']
    rfl
  rw [e, pows_bit, decide_eq_true hq, Bool.true_and]
  unfold fitP
  exact decide_eq_true_iff
def cellsTo (gl sl : List Nat) (i : Nat) : List (List Nat) := cellsL (gl.take i) sl
theorem cellsTo_succ {gl sl : List Nat} {i g : Nat} (h : gl[i]? = some g) : cellsTo gl sl (i + 1) = cellsTo gl sl i ++ sl.map fun c => [g, c] := by
  unfold cellsTo cellsL
  rw [take_snoc h, List.flatMap_append, List.flatMap_cons, List.flatMap_nil, List.append_nil]
theorem cellsTo_all (gl sl : List Nat) : cellsTo gl sl gl.length = cellsL gl sl := by
  unfold cellsTo
  rw [List.take_length]
theorem cellsTo_len (gl sl : List Nat) (i : Nat) : (cellsTo gl sl i).length ≤ gl.length * sl.length := by
  unfold cellsTo
  rw [cellsL_len, List.length_take]
  exact Nat.mul_le_mul_right _ (Nat.min_le_right _ _)
/-- dicts by their keys, in numbers -/
theorem index_eq (I : Inst) : dictOf (I.cells.map tkK) = I.cellS.zipIdx.map fun c => ((Sum.inr c.1 : Key), nV c.2) := by
  unfold dictOf Inst.cellS
  rw [List.zipIdx_map, List.zipIdx_map, List.map_map, List.map_map]
  rfl
theorem places_eq {k s x : Nat} (hs : 0 < s) (hx : x < k) : ((List.range (k * s)).filter fun q => q / s == x) = K18.places s x := by
  refine asc_eq (asc_filter _ _) ?_ fun i => ?_
  · unfold K18.places
    rw [List.pairwise_map]
    exact List.pairwise_lt_range.imp fun h => by omega
  · rw [List.mem_filter, List.mem_range, beq_iff_eq, K18.places_mem]
    constructor
    · rintro ⟨h1, rfl⟩
      refine ⟨i % s, Nat.mod_lt _ hs, ?_⟩
      have := Nat.div_add_mod i s
      rw [Nat.mul_comm] at this
      omega
    · rintro ⟨j, hj, rfl⟩
      refine ⟨?_, ?_⟩
      · have : (x + 1) * s ≤ k * s := Nat.mul_le_mul_right _ hx
        rw [Nat.succ_mul] at this
        omega
      · rw [Nat.mul_comm, Nat.mul_add_div hs, Nat.div_eq_of_lt hj, Nat.add_zero]
end N18
end
section
set_option Elab.async false
set_option linter.all false
set_option maxRecDepth 100000
set_option maxHeartbeats 4000000
namespace N18
open PySem PySem.Spec PyProof.Rows L2 TL PySem.W
structure WTxt2 (K : PySem.W.Frag) (C : Addr) : Prop where
  nS : NoAttr K C "kept_said"
  nK : NoAttr K C "kept_known"
  nQ : NoAttr K C "kept_pairs"
theorem places_none {gl : List Nat} {pl : List Addr} {c : Nat} (h : c ∉ gl) : valV ((gl.zip pl).map fun c => ((Sum.inr (tx [c.1]) : Key), V.ref c.2)) (Sum.inr (tx [c])) = none := by
  induction gl generalizing pl with
  | nil => rfl
  | cons g gl ih =>
    cases pl with
    | nil => rfl
    | cons b pl =>
      rw [List.mem_cons, not_or] at h
      have ne : ¬ (Sum.inr (tx [g]) : Key) = Sum.inr (tx [c]) := by
        intro e
        have e := tx_inj (Sum.inr.inj e)
        injection e with e _
        exact h.1 e.symm
      show valV (((Sum.inr (tx [g]) : Key), V.ref b) :: _) _ = _
      rw [valV_neg ne]
      exact ih h.2
theorem range_filter_succ (f : Nat → Bool) (i : Nat) : (List.range (i + 1)).filter f = (List.range i).filter f ++ if f i = true then [i] else [] := by
  rw [List.range_succ, List.filter_append]
  congr 1
  cases h : f i with
  | true => rw [List.filter_cons_of_pos h]; rfl
  | false => rw [List.filter_cons_of_neg (by rw [h]; decide)]; rfl
theorem cellsL_get {gl sl : List Nat} {i : Nat} (h : i < gl.length * sl.length) : ∃ g d, gl[i / sl.length]? = some g ∧ sl[i % sl.length]? = some d ∧ (cellsL gl sl)[i]? = some [g, d] := by
  have hs : 0 < sl.length := by
    apply Nat.pos_of_ne_zero
    intro e
    rw [e, Nat.mul_zero] at h
    omega
  have h1 : i / sl.length < gl.length := by rw [Nat.div_lt_iff_lt_mul hs]; exact h
  have h2 : i % sl.length < sl.length := Nat.mod_lt _ hs
  refine ⟨gl[i / sl.length], sl[i % sl.length], List.getElem?_eq_getElem h1, List.getElem?_eq_getElem h2, ?_⟩
  have e : cellsL gl sl = (gl.flatMap fun a => sl.map fun b => (a, b)).map fun x => [x.1, x.2] := cells_pairs ⟨gl.length, sl.length, gl, sl, []⟩
  rw [e, List.getElem?_map, flat_get, List.getElem?_eq_getElem h1, List.getElem?_eq_getElem h2]
  rfl
section
variable {P : Program} {w : World} {K : PySem.W.Frag} {mg : Str → Option Value} {base : Heap}
/-! ### Wish.keep -/
def spKeep (C : Addr) : Sp := fun vs H Q _ => ∃ (H0 : Hp) (p dx la : Addr) (gl sl : List Nat) (ps : List (List Nat)), vs = [.ref p, tV gl, tV sl, .ref la] ∧ LOk gl sl ∧ H0 la = some (.lst (ps.map tV)) ∧ ps.Nodup ∧ ps.length ≤ 100 ∧
  H0 p = none ∧ Same H0 H ∧ H p = some (.ins C dx []) ∧ ∀ H', Same H0 H' → (∀ (h : Addr) (o : HO), H0 h = some o → WishAt C (minus h H') p (instOf gl sl ps) .non) → Q .non H'
abbrev nKeep : List Str := ["self", "given", "said", "pairs", "index", "cell", "bit", "one", "behind", "letter", "word", "pair", "other"]
theorem scKeep : FnScope nKeep ["self", "given", "said", "pairs"] (defScope sKeep) := ⟨rfl, rfl, rfl, by decide +kernel, rfl, by decide +kernel, by decide +kernel⟩
theorem ok_keep {C f : Addr} {fd : FuncData} (F : Fun K "keep" "Wish.keep" sKeep f fd) (T : WTxt K C) (T2 : WTxt2 K C) (B : Bt mg) : FnOk P w K mg base CX0 1 f fd ["self", "given", "said", "pairs"] (spKeep C) := by
  refine F.ok scKeep (fun vs H Q E h => ?_) (fun cdv A outer s H vs Q E hr h => ?_)
  · obtain ⟨H0, p, dx, la, gl, sl, ps, rfl, _⟩ := h
    rfl
  · obtain ⟨H0, p, dx, la, gl, sl, ps, rfl, lok, hla, pnd, pln, hp0, s0, hp, q⟩ := h
    have hu := hu_of hr
    have nd := scKeep.nd
    have ok := lok.ok ps
    have nn : gl.length * sl.length ≤ 6 := lok.n6
    refine ⟨_, pss_cons (ps_fld (pv 0) (pv 1) rfl)
      (pss_cons (ps_fld (pv 0) (pv 2) rfl)
      (pss_cons (ps_fld (pv 0) (pe_lc2 (own := [("letter", 9), ("word", 10)]) (vs1 := [10]) (g := gName 9) (tt := tYes) (g1 := gName 10) (tt1 := tYes) rfl nd (pi_str (pv 1)) (blkOk_by (N := nKeep) (sc := defScope sKeep) (by decide +kernel)) (by decide) (fun _ _ _ _ _ => pg_name (i := 9) nd rfl (.inl rfl)) (fun _ _ _ _ _ => pts_nil) (fun _ _ _ _ _ => pi_str (pv 2)) (fun _ _ _ _ _ => pg_name (i := 10) nd rfl (.inl rfl)) (fun _ _ _ _ _ => pts_nil) (fun _ _ _ _ _ => pe_op op_add_str (pv 9) (pv 10))) rfl)
      (pss_cons (ps_fld (pv 0) (pe_dc (own := [("index", 4), ("cell", 5)]) (g := gTup K 2 (gCons (gName 4) (gCons (gName 5) gNil))) (tt := tYes) rfl nd (pi_enum (by rfl) B.enum (pa_cons (pe_fld (pv 0) rfl) pa_nil)) (blkOk_by (N := nKeep) (sc := defScope sKeep) (by decide +kernel)) (fun _ _ _ _ _ => pg_tup rfl (pgs_cons (pg_name (i := 4) nd rfl (.inl rfl)) (pgs_cons (pg_name (i := 5) nd rfl (.inl rfl)) pgs_nil))) (fun _ _ _ _ _ => pts_nil) (fun _ _ _ _ _ => pv 5) (fun _ _ _ _ _ => pv 4)) rfl)
      (pss_cons (ps_fld (pv 0) (pe_dc (own := [("letter", 9)]) (g := gName 9) (tt := tYes) rfl nd (pi_str (pv 1)) (blkOk_by (N := nKeep) (sc := defScope sKeep) (by decide +kernel)) (fun _ _ _ _ _ => pg_name (i := 9) nd rfl (.inl rfl)) (fun _ _ _ _ _ => pts_nil) (fun _ _ _ _ _ => pv 9) (fun _ _ _ _ _ => pe_lst pa_nil)) rfl)
      (pss_cons (ps_fld (pv 0) (pe_lst pa_nil) rfl)
      (pss_cons (ps_set (i := 6) nd rfl (.inl rfl) pe_int)
      (pss_cons (ps_for PassesOwn.never rfl (pi_enum (by rfl) B.enum (pa_cons (pe_fld (pv 0) rfl) pa_nil)) (pg_tup rfl (pgs_cons (pg_name (i := 4) nd rfl (.inl rfl)) (pgs_cons (pg_name (i := 5) nd rfl (.inl rfl)) pgs_nil)))
        (pss_cons (ps_expr (pe_bm PySem.F.plainAttrs_list PySem.F.slot_list_append PySem.F.type_list_append mt_append (pe_dget hu (pe_fld (pv 0) rfl) (pe_ix ix_str (pv 5) pe_int (fun _ _ => rfl)) (fun _ _ => rfl)) (pa_cons (pv 4) pa_nil)))
        (pss_cons (ps_expr (pe_bm PySem.F.plainAttrs_list PySem.F.slot_list_append PySem.F.type_list_append mt_append (pe_fld (pv 0) rfl) (pa_cons (pv 6) pa_nil)))
        (pss_one (ps_set (i := 6) nd rfl (.inl rfl) (pe_op op_mul pe_int (pv 6)))))))
      (pss_cons (ps_fld (pv 0) (pe_dc (own := [("pair", 11)]) (g := gName 11) (tt := tYes) rfl nd (pi_list (pv 3)) (blkOk_by (N := nKeep) (sc := defScope sKeep) (by decide +kernel)) (fun _ _ _ _ _ => pg_name (i := 11) nd rfl (.inl rfl)) (fun _ _ _ _ _ => pts_nil) (fun _ _ _ _ _ => pv 11) (fun _ _ _ _ _ => pe_bl)) rfl)
      (pss_cons (ps_fld (pv 0) (pe_lst pa_nil) rfl)
      (pss_cons (ps_fld (pv 0) (pe_lst pa_nil) rfl)
      (pss_cons (ps_for PassesOwn.never rfl (pi_list (pe_fld (pv 0) rfl)) (pg_name (i := 7) nd rfl (.inr rfl))
        (pss_cons (ps_setLc (i := 8) (own := [("other", 12)]) (g := gName 12) rfl nd rfl rfl (sw_true rfl rfl rfl (by decide +kernel)) (pi_list (pe_fld (pv 0) rfl)) (blkOk_by (N := nKeep) (sc := defScope sKeep) (by decide +kernel)) (fun _ _ _ _ _ => pg_name (i := 12) nd rfl (.inl rfl)) (fun _ _ _ _ _ => pts_one (pt_cmp (pc_din hu (pe_op op_add_str (pv 7) (pv 12)) (pe_fldK K rfl (pv 0) rfl)))) (fun _ _ _ _ _ => pv 12))
        (pss_cons (ps_expr (pe_bm PySem.F.plainAttrs_list PySem.F.slot_list_extend PySem.F.type_list_extend mt_extend (pe_fld (pv 0) rfl) (pa_cons (pe_lc (own := [("other", 12)]) (g := gName 12) (tt := tYes) rfl nd (pi_list (pv 8)) (blkOk_by (N := nKeep) (sc := defScope sKeep) (by decide +kernel)) (fun _ _ _ _ _ => pg_name (i := 12) nd rfl (.inl rfl)) (fun _ _ _ _ _ => pts_nil) (fun _ _ _ _ _ => pe_op op_add_str (pv 7) (pv 12))) pa_nil)))
        (pss_one (ps_expr (pe_bm PySem.F.plainAttrs_list PySem.F.slot_list_append PySem.F.type_list_append mt_append (pe_fld (pv 0) rfl) (pa_cons (pe_callB (cr_sum rfl) (by rfl) B.sum (by decide +kernel) (pa_cons (pe_lc (own := [("other", 12)]) (g := gName 12) (tt := tYes) rfl nd (pi_list (pv 8)) (blkOk_by (N := nKeep) (sc := defScope sKeep) (by decide +kernel)) (fun _ _ _ _ _ => pg_name (i := 12) nd rfl (.inl rfl)) (fun _ _ _ _ _ => pts_nil)
            (fun _ _ _ _ _ => pe_ix (ix_listK K rfl) (pe_fldK K rfl (pv 0) rfl) (pe_dget hu (pe_fldK K rfl (pv 0) rfl) (pv 12) (fun _ _ => rfl)) (fun _ _ => rfl))) pa_nil)) pa_nil)))))))
      (pss_one (ps_fld (pv 0) pe_non rfl))))))))))))), ?_⟩
    -- given, said
    refine ⟨_, rfl, ?_⟩
    refine ⟨_, rfl, p, C, dx, _, rfl, hp, T.cl, T.nG, by decide, ?_⟩
    generalize hfs1 : putF "kept_given" (tV gl) [] = fs1
    have ln1 : fs1.length ≤ 1 := by rw [← hfs1]; have := length_putF "kept_given" (tV gl) []; exact this
    have l1given : fs1.lookup ("kept_given" : Str) = some (tV gl) := by rw [← hfs1, lookup_putF, if_pos rfl]
    generalize hH1 : upd H p (.ins C dx fs1) = H1
    have hp1 : H1 p = some (.ins C dx fs1) := by rw [← hH1, upd_same]
    have s1 : Same H0 H1 := by rw [← hH1]; exact s0.put hp0
    refine ⟨_, rfl, ?_⟩
    refine ⟨_, rfl, p, C, dx, _, rfl, hp1, T.cl, T2.nS, by omega, ?_⟩
    generalize hfs2 : putF "kept_said" (tV sl) fs1 = fs2
    have ln2 : fs2.length ≤ 2 := by rw [← hfs2]; have := length_putF "kept_said" (tV sl) fs1; omega
    have l2given : fs2.lookup ("kept_given" : Str) = some (tV gl) := by rw [← hfs2, lookup_putF, if_neg (by decide +kernel)]; exact l1given
    have l2said : fs2.lookup ("kept_said" : Str) = some (tV sl) := by rw [← hfs2, lookup_putF, if_pos rfl]
    generalize hH2 : upd H1 p (.ins C dx fs2) = H2
    have hp2 : H2 p = some (.ins C dx fs2) := by rw [← hH2, upd_same]
    have s2 : Same H0 H2 := by rw [← hH2]; exact s1.put hp0
    -- cells
    refine ⟨_, rfl, tx gl, rfl, fun ca hca => ?_⟩
    refine lc2_it walk_str (fun i H' => Same H2 H' ∧ H' ca = some (.lst ((cellsTo gl sl i).map tV))) ⟨same_upd hca, upd_same⟩ (fun _ _ _ _ => trivial) ?_ ?_
    · rintro i v Ha Ha' hi ⟨sa, ea⟩ ⟨rfl, c, hc, rfl⟩
      rw [tx_cps] at hc
      refine ⟨rfl, ?_⟩
      refine ⟨_, rfl, tx sl, rfl, ?_⟩
      refine lc1_it walk_str (fun j H' => Same H2 H' ∧ H' ca = some (.lst ((cellsTo gl sl i ++ (sl.take j).map fun d => [c, d]).map tV))) ⟨sa, by rw [List.take_zero, List.map_nil, List.append_nil]; exact ea⟩ (fun _ _ _ _ => trivial) ?_ ?_
      · rintro j v Hb Hb' hj ⟨sb, eb⟩ ⟨rfl, d, hd, rfl⟩
        rw [tx_cps] at hd
        refine ⟨rfl, ?_⟩
        have hl := cellsTo_len gl sl i
        have h4 := lok.s4
        refine ⟨_, rfl, _, rfl, _, _, rfl, rfl, by rw [← tx_one, ← tx_one, tx_len, tx_len]; exact (by decide : 2 ≤ sizeLine), _, eb, ?_, sb.put hca, ?_⟩
        · rw [List.length_map, List.length_append, List.length_map, List.length_take]
          exact small1000 (by omega)
        · rw [upd_same, take_snoc hd, List.map_append (f := fun d => [c, d]), ← List.append_assoc, List.map_append (l₁ := cellsTo gl sl i ++ _), ← tx_one, ← tx_one, tx_app]
          rfl
      · rintro Hb ⟨sb, eb⟩
        refine ⟨sb, ?_⟩
        rw [tx_size, List.take_length] at eb
        rw [cellsTo_succ hc]
        exact eb
    rintro Ha ⟨sa, ea⟩
    rw [tx_size, cellsTo_all] at ea
    have npc : p ≠ ca := ne_of_none hp2 hca
    refine ⟨_, rfl, p, C, dx, _, rfl, (sa _ _ hp2), T.cl, T.nC, by omega, ?_⟩
    generalize hfs3 : putF "kept_cells" (V.ref ca) fs2 = fs3
    have ln3 : fs3.length ≤ 3 := by rw [← hfs3]; have := length_putF "kept_cells" (V.ref ca) fs2; omega
    have l3given : fs3.lookup ("kept_given" : Str) = some (tV gl) := by rw [← hfs3, lookup_putF, if_neg (by decide +kernel)]; exact l2given
    have l3said : fs3.lookup ("kept_said" : Str) = some (tV sl) := by rw [← hfs3, lookup_putF, if_neg (by decide +kernel)]; exact l2said
    have l3cells : fs3.lookup ("kept_cells" : Str) = some (V.ref ca) := by rw [← hfs3, lookup_putF, if_pos rfl]
    generalize hH3 : upd Ha p (.ins C dx fs3) = H3
    have hp3 : H3 p = some (.ins C dx fs3) := by rw [← hH3, upd_same]
    have s3 : Same H0 H3 := by rw [← hH3]; exact (s2.trans sa).put hp0
    have c3 : H3 ca = some (.lst ((cellsL gl sl).map tV)) := by rw [← hH3, upd_ne (Ne.symm npc)]; exact ea
    -- index
    refine ⟨_, rfl, p, C, dx, _, _, rfl, hp3, T.cl, T.nC, l3cells, ca, _, rfl, SqL.of c3, fun ia hia => ?_⟩
    refine dc_it (walk_enum (xs := (cellsL gl sl).map tV)) (fun i H' => Same H3 H' ∧ H' ia = some (.dK (dictOf (((cellsL gl sl).take i).map tkK)))) ⟨same_upd hia, upd_same⟩ ?_ ?_ ?_
    · rintro i H' _ ⟨h1, _⟩
      exact SqL.of (h1 _ _ c3)
    · rintro i v Hb Hb' hi ⟨sb, eb⟩ ⟨t, x1, x2, rfl, ht, rfl, g1, g2⟩
      have g1 : some (V.int ((i : Nat) : Int)) = some x1 := g1
      have g1 := Option.some.inj g1
      subst g1
      have g2 : ((cellsL gl sl).map tV)[i]? = some x2 := g2
      rw [List.length_map] at hi
      rw [List.getElem?_map, List.getElem?_eq_getElem hi] at g2
      have g2 := Option.some.inj g2
      subst g2
      generalize hce : (cellsL gl sl)[i] = ce at *
      have hget : (cellsL gl sl)[i]? = some ce := by rw [List.getElem?_eq_getElem hi, hce]
      refine ⟨t, [_, _], rfl, .inl (.inl upd_same), rfl, _, [_], rfl, _, [], rfl, rfl, rfl, ?_⟩
      have eb' : (upd Hb t (.tup [V.int ((i : Nat) : Int), tV ce])) ia = some (.dK (dictOf (((cellsL gl sl).take i).map tkK))) := by rw [upd_ne (ne_of_none eb ht)]; exact eb
      have hcl := cellsL_len gl sl
      refine ⟨_, rfl, _, rfl, _, tkK ce, rfl, eb', by rw [dictOf_len, List.length_map, List.length_take]; exact small1000 (by omega), (sb.trans (same_upd ht)).put hia, ?_⟩
      have hnew : tkK ce ∉ ((cellsL gl sl).take i).map tkK := by
        rw [tkK_mem]
        intro h
        obtain ⟨j, hj⟩ := List.getElem?_of_mem h
        have hji : j < i := by
          have := (List.getElem?_eq_some_iff.mp hj).1
          rw [List.length_take] at this
          omega
        rw [List.getElem?_take_of_lt hji] at hj
        have := nd_get ok.cnd hj hget
        omega
      rw [upd_same, take_snoc hget, List.map_append]
      have := dictOf_put hnew
      rw [List.length_map, List.length_take, Nat.min_eq_left (Nat.le_of_lt hi)] at this
      exact congrArg some (congrArg HO.dK this)
    rintro Hb ⟨sb, eb⟩
    rw [List.length_map, List.take_length] at eb
    have npi : p ≠ ia := ne_of_none hp3 hia
    refine ⟨_, rfl, p, C, dx, _, rfl, (sb _ _ hp3), T.cl, T.nI, by omega, ?_⟩
    generalize hfs4 : putF "kept_index" (V.ref ia) fs3 = fs4
    have ln4 : fs4.length ≤ 4 := by rw [← hfs4]; have := length_putF "kept_index" (V.ref ia) fs3; omega
    have l4given : fs4.lookup ("kept_given" : Str) = some (tV gl) := by rw [← hfs4, lookup_putF, if_neg (by decide +kernel)]; exact l3given
    have l4said : fs4.lookup ("kept_said" : Str) = some (tV sl) := by rw [← hfs4, lookup_putF, if_neg (by decide +kernel)]; exact l3said
    have l4cells : fs4.lookup ("kept_cells" : Str) = some (V.ref ca) := by rw [← hfs4, lookup_putF, if_neg (by decide +kernel)]; exact l3cells
    have l4index : fs4.lookup ("kept_index" : Str) = some (V.ref ia) := by rw [← hfs4, lookup_putF, if_pos rfl]
    generalize hH4 : upd Hb p (.ins C dx fs4) = H4
    have hp4 : H4 p = some (.ins C dx fs4) := by rw [← hH4, upd_same]
    have s4 : Same H0 H4 := by rw [← hH4]; exact (s3.trans sb).put hp0
    have c4 : H4 ca = some (.lst ((cellsL gl sl).map tV)) := by rw [← hH4, upd_ne (Ne.symm npc)]; exact sb _ _ c3
    have i4 : H4 ia = some (.dK (dictOf ((cellsL gl sl).map tkK))) := by rw [← hH4, upd_ne (Ne.symm npi)]; exact eb
    -- places
    refine ⟨_, rfl, tx gl, rfl, fun pa hpa => ?_⟩
    refine dc_it walk_str (fun i H' => Same H4 H' ∧ ∃ pl : List Addr, H' pa = some (.dK (((gl.take i).zip pl).map fun c => ((Sum.inr (tx [c.1]) : Key), V.ref c.2))) ∧ pl.length = i ∧ pl.Nodup ∧ ∀ a ∈ pl, H4 a = none ∧ H' a = some (.lst [])) ⟨same_upd hpa, [], upd_same, rfl, List.nodup_nil, fun a h => (nomatch h)⟩ (fun _ _ _ _ => trivial) ?_ ?_
    · rintro i v Hc Hc' hi ⟨sc, pl, ec, hpl, hnd, hev⟩ ⟨rfl, c, hc, rfl⟩
      rw [tx_cps] at hc
      have hig : i < gl.length := (List.getElem?_eq_some_iff.mp hc).1
      have k3 := ok.k3
      have hk3 : gl.length ≤ 3 := k3
      refine ⟨rfl, ?_⟩
      refine ⟨_, rfl, Nat.zero_le _, fun a ha => ?_⟩
      have ec' : (upd Hc' a (.lst [])) pa = some (.dK (((gl.take i).zip pl).map fun c => ((Sum.inr (tx [c.1]) : Key), V.ref c.2))) := by rw [upd_ne (ne_of_none ec ha)]; exact ec
      have hnew : c ∉ gl.take i := by
        intro h
        obtain ⟨j, hj⟩ := List.getElem?_of_mem h
        have hji : j < i := by
          have := (List.getElem?_eq_some_iff.mp hj).1
          rw [List.length_take] at this
          omega
        rw [List.getElem?_take_of_lt hji] at hj
        have := nd_get lok.gn hj hc
        omega
      refine ⟨_, Sum.inr (⟨#[c]⟩ : Str), rfl, ec', ?_, (sc.trans (same_upd ha)).put hpa, pl ++ [a], ?_, by rw [List.length_append, hpl]; rfl, ?_, ?_⟩
      · rw [List.length_map, List.length_zip, List.length_take]
        exact small1000 (by omega)
      · rw [upd_same, ← tx_one, putK_new _ (places_none hnew), take_snoc hc, List.zip_append (by rw [List.length_take, hpl]; omega), List.map_append]
        rfl
      · rw [List.nodup_append]
        refine ⟨hnd, by simp, fun b hb d hd e => ?_⟩
        rw [List.mem_singleton] at hd
        have := (hev b hb).2
        rw [e, hd, ha] at this
        cases this
      · intro b hb
        rcases List.mem_append.mp hb with h | h
        · obtain ⟨h1, h2⟩ := hev b h
          refine ⟨h1, ?_⟩
          rw [upd_ne (ne_of h2 ec (by intro z; cases z)), upd_ne (ne_of_none h2 ha)]
          exact h2
        · rw [List.mem_singleton] at h
          subst h
          refine ⟨sc.free ha, ?_⟩
          rw [upd_ne (Ne.symm (ne_of_none ec ha)), upd_same]
    rintro Hc ⟨sc, pl, ec, hpl, hplnd, hev⟩
    rw [tx_size] at ec hpl
    rw [List.take_length] at ec
    have npp : p ≠ pa := ne_of_none hp4 hpa
    refine ⟨_, rfl, p, C, dx, _, rfl, (sc _ _ hp4), T.cl, T.nP, by omega, ?_⟩
    generalize hfs5 : putF "kept_places" (V.ref pa) fs4 = fs5
    have ln5 : fs5.length ≤ 5 := by rw [← hfs5]; have := length_putF "kept_places" (V.ref pa) fs4; omega
    have l5given : fs5.lookup ("kept_given" : Str) = some (tV gl) := by rw [← hfs5, lookup_putF, if_neg (by decide +kernel)]; exact l4given
    have l5said : fs5.lookup ("kept_said" : Str) = some (tV sl) := by rw [← hfs5, lookup_putF, if_neg (by decide +kernel)]; exact l4said
    have l5cells : fs5.lookup ("kept_cells" : Str) = some (V.ref ca) := by rw [← hfs5, lookup_putF, if_neg (by decide +kernel)]; exact l4cells
    have l5index : fs5.lookup ("kept_index" : Str) = some (V.ref ia) := by rw [← hfs5, lookup_putF, if_neg (by decide +kernel)]; exact l4index
    have l5places : fs5.lookup ("kept_places" : Str) = some (V.ref pa) := by rw [← hfs5, lookup_putF, if_pos rfl]
    generalize hH5 : upd Hc p (.ins C dx fs5) = H5
    have hp5 : H5 p = some (.ins C dx fs5) := by rw [← hH5, upd_same]
    have s5 : Same H0 H5 := by rw [← hH5]; exact (s4.trans sc).put hp0
    have c5 : H5 ca = some (.lst ((cellsL gl sl).map tV)) := by rw [← hH5, upd_ne (Ne.symm npc)]; exact sc _ _ c4
    have i5 : H5 ia = some (.dK (dictOf ((cellsL gl sl).map tkK))) := by rw [← hH5, upd_ne (Ne.symm npi)]; exact sc _ _ i4
    have a5 : H5 pa = some (.dK ((gl.zip pl).map fun c => ((Sum.inr (tx [c.1]) : Key), V.ref c.2))) := by rw [← hH5, upd_ne (Ne.symm npp)]; exact ec
    have pl5 : ∀ a ∈ pl, H0 a = none ∧ a ≠ p ∧ a ≠ ca ∧ H5 a = some (.lst []) := by
      intro a ha
      obtain ⟨h1, h2⟩ := hev a ha
      have n1 : a ≠ p := Ne.symm (ne_of_none hp4 h1)
      refine ⟨s4.free h1, n1, Ne.symm (ne_of_none c4 h1), ?_⟩
      rw [← hH5, upd_ne n1]
      exact h2
    -- bits
    refine ⟨Nat.zero_le _, fun ba hba => ?_⟩
    have npb : p ≠ ba := ne_of_none hp5 hba
    refine ⟨_, rfl, p, C, dx, _, rfl, (by rw [upd_ne npb]; exact hp5), T.cl, T.nB, by omega, ?_⟩
    generalize hfs6 : putF "kept_bits" (V.ref ba) fs5 = fs6
    have ln6 : fs6.length ≤ 6 := by rw [← hfs6]; have := length_putF "kept_bits" (V.ref ba) fs5; omega
    have l6given : fs6.lookup ("kept_given" : Str) = some (tV gl) := by rw [← hfs6, lookup_putF, if_neg (by decide +kernel)]; exact l5given
    have l6said : fs6.lookup ("kept_said" : Str) = some (tV sl) := by rw [← hfs6, lookup_putF, if_neg (by decide +kernel)]; exact l5said
    have l6cells : fs6.lookup ("kept_cells" : Str) = some (V.ref ca) := by rw [← hfs6, lookup_putF, if_neg (by decide +kernel)]; exact l5cells
    have l6index : fs6.lookup ("kept_index" : Str) = some (V.ref ia) := by rw [← hfs6, lookup_putF, if_neg (by decide +kernel)]; exact l5index
    have l6places : fs6.lookup ("kept_places" : Str) = some (V.ref pa) := by rw [← hfs6, lookup_putF, if_neg (by decide +kernel)]; exact l5places
    have l6bits : fs6.lookup ("kept_bits" : Str) = some (V.ref ba) := by rw [← hfs6, lookup_putF, if_pos rfl]
    generalize hH6 : upd (upd H5 ba (.lst [])) p (.ins C dx fs6) = H6
    have ncb : ca ≠ ba := ne_of_none c5 hba
    have hp6 : H6 p = some (.ins C dx fs6) := by rw [← hH6, upd_same]
    have k6 : ∀ a o, a ≠ p → H5 a = some o → H6 a = some o := fun a o n h => by rw [← hH6, upd_ne n, upd_ne (ne_of_none h hba)]; exact h
    have s6 : Same H0 H6 := fun a o h => k6 a o (ne_of_none h hp0) (s5 _ _ h)
    have c6 := k6 _ _ (Ne.symm npc) c5
    have i6 := k6 _ _ (Ne.symm npi) i5
    have a6 := k6 _ _ (Ne.symm npp) a5
    have b6 : H6 ba = some (.lst []) := by rw [← hH6, upd_ne (Ne.symm npb), upd_same]
    have pl6 : ∀ a ∈ pl, H0 a = none ∧ a ≠ p ∧ a ≠ ca ∧ a ≠ ba := fun a ha => ⟨(pl5 a ha).1, (pl5 a ha).2.1, (pl5 a ha).2.2.1, ne_of_none (pl5 a ha).2.2.2 hba⟩
    have hba0 : H0 ba = none := s5.free hba
    -- the loop
    refine ⟨_, rfl, p, C, dx, _, _, rfl, hp6, T.cl, T.nC, l6cells, ca, _, rfl, SqL.of c6, ?_⟩
    refine for_it (walk_enum (xs := (cellsL gl sl).map tV)) (fun i σ H' => ∃ (y4 y5 : Option V), σ = [some (.ref p), some (tV gl), some (tV sl), some (.ref la), y4, y5, some (nV (2 ^ i)), none, none, none, none, none, none] ∧ H' p = some (.ins C dx fs6) ∧ Same H0 H' ∧
        H' ca = some (.lst ((cellsL gl sl).map tV)) ∧ H' ia = some (.dK (dictOf ((cellsL gl sl).map tkK))) ∧ H' pa = some (.dK ((gl.zip pl).map fun c => ((Sum.inr (tx [c.1]) : Key), V.ref c.2))) ∧
        (∀ (x : Nat) (a : Addr), pl[x]? = some a → H' a = some (.lst (((List.range i).filter fun q => q / sl.length == x).map nV))) ∧ H' ba = some (.lst ((List.range i).map fun q => nV (2 ^ q))))
      ⟨none, none, rfl, hp6, s6, c6, i6, a6, fun x a h => k6 _ _ (pl6 a (List.mem_of_getElem? h)).2.1 (pl5 a (List.mem_of_getElem? h)).2.2.2, b6⟩ ?_ ?_ ?_
    · rintro i σ H' _ ⟨y4, y5, rfl, _, _, h1, _⟩
      exact SqL.of h1
    · rintro i v σ Hd Hd' hi ⟨y4, y5, rfl, pd, sd, cd, id', ad, ld, bd⟩ ⟨t, x1, x2, rfl, ht, rfl, g1, g2⟩
      have g1 : some (V.int ((i : Nat) : Int)) = some x1 := g1
      have g1 := Option.some.inj g1
      subst g1
      have g2 : ((cellsL gl sl).map tV)[i]? = some x2 := g2
      rw [List.length_map, cellsL_len] at hi
      obtain ⟨g, d, hg, hd, hce⟩ := cellsL_get hi
      rw [List.getElem?_map, hce] at g2
      have g2 : tV [g, d] = x2 := Option.some.inj g2
      subst g2
      have hxk : i / sl.length < gl.length := (List.getElem?_eq_some_iff.mp hg).1
      obtain ⟨a, hpla⟩ : ∃ a, pl[i / sl.length]? = some a := ⟨pl[i / sl.length]'(by rw [hpl]; exact hxk), List.getElem?_eq_getElem _⟩
      obtain ⟨na0, nap, nac, nab⟩ := pl6 a (List.mem_of_getElem? hpla)
      refine ⟨t, [_, _], rfl, .inl (.inl upd_same), rfl, _, [_], rfl, _, [], rfl, rfl, ?_⟩
      generalize hHe : upd Hd t (.tup [V.int ((i : Nat) : Int), tV [g, d]]) = He
      have se : Same Hd He := by rw [← hHe]; exact same_upd ht
      have dg := DGet.k (k := (Sum.inr (tx [g]) : Key)) (se _ _ ad)
      rw [places_val lok.gn hg hpla] at dg
      have la' := se _ _ (ld _ _ hpla)
      have l2 : (tx [g, d]).length ≤ sizeLine := by
        rw [tx_len]
        exact Nat.le_of_lt (small1000 (show 2 ≤ 1000 by omega))
      refine ⟨_, rfl, p, C, dx, _, _, rfl, se _ _ pd, T.cl, T.nP, l6places, _, rfl, tx [g, d], 0, g, rfl, rfl, l2, rfl, pa, .ref a, rfl, dg, .inl ⟨rfl, _, SqL.of la'⟩, _, rfl, a, _, _, rfl, rfl, la', ?_, ?_⟩
      · rw [List.length_map]
        have := List.length_filter_le (fun q => q / sl.length == i / sl.length) (List.range i)
        rw [List.length_range] at this
        exact small1000 (by omega)
      generalize hHf : upd He a (.lst ((((List.range i).filter fun q => q / sl.length == i / sl.length).map nV) ++ [V.int ((i : Nat) : Int)])) = Hf
      have kf : ∀ b o, b ≠ a → Hd b = some o → Hf b = some o := fun b o n h => by rw [← hHf, upd_ne n]; exact se _ _ h
      have pf := kf _ _ (Ne.symm nap) pd
      have bf := kf _ _ (Ne.symm nab) bd
      refine ⟨_, rfl, p, C, dx, _, _, rfl, pf, T.cl, T.nB, l6bits, .inl ⟨rfl, _, SqL.of bf⟩, _, rfl, ba, _, _, rfl, rfl, bf, by rw [List.length_map, List.length_range]; exact small1000 (by omega), ?_⟩
      refine ⟨_, rfl, _, _, rfl, rfl, .inl ⟨by decide, by decide⟩, ?_⟩
      have kg : ∀ b o, b ≠ a → b ≠ ba → Hd b = some o → (upd Hf ba (.lst (((List.range i).map fun q => nV (2 ^ q)) ++ [nV (2 ^ i)]))) b = some o := fun b o n1 n2 h => by rw [upd_ne n2]; exact kf b o n1 h
      have nab' : a ≠ ba := nab
      refine ⟨some (nV i), some (tV [g, d]), ?_, kg _ _ (Ne.symm nap) npb pd, fun b o h => kg b o (ne_of_none h na0) (ne_of_none h hba0) (sd _ _ h), kg _ _ (Ne.symm nac) ncb cd, kg _ _ (ne_of id' (ld _ _ hpla) (by intro z; cases z)) (ne_of id' bd (by intro z; cases z)) id', kg _ _ (ne_of ad (ld _ _ hpla) (by intro z; cases z)) (ne_of ad bd (by intro z; cases z)) ad, fun x b hb => ?_, ?_⟩
      · show [_, _, _, _, _, _, some (V.int (2 * ((2 ^ i : Nat) : Int))), _, _, _, _, _, _] = _
        have : V.int (2 * ((2 ^ i : Nat) : Int)) = nV (2 ^ (i + 1)) := by
          show V.int _ = V.int _
          rw [Nat.pow_succ]
          congr 1
          omega
        rw [this]
        rfl
      · obtain ⟨_, _, _, nbb⟩ := pl6 b (List.mem_of_getElem? hb)
        rw [range_filter_succ, List.map_append]
        by_cases e : x = i / sl.length
        · subst e
          rw [hpla] at hb
          have hb := Option.some.inj hb
          subst hb
          rw [upd_ne nbb, ← hHf, upd_same, beq_self_eq_true, if_pos rfl]
          rfl
        · have hne : b ≠ a := by
            intro z
            rw [z] at hb
            exact e (nd_get hplnd hb hpla)
          rw [if_neg (by rw [beq_iff_eq]; exact fun z => e z.symm), List.map_nil, List.append_nil]
          exact kg _ _ hne nbb (ld _ _ hb)
      · rw [upd_same, List.range_succ, List.map_append]
        rfl
    rintro σ Hd ⟨y4, y5, rfl, pd, sd, cd, id', ad, ld, bd⟩
    rw [List.length_map, cellsL_len] at ld bd
    -- known
    refine ⟨_, rfl, la, rfl, ⟨_, SqL.of (sd _ _ hla)⟩, fun ka hka => ?_⟩
    refine dc_it (walk_list (xs := ps.map tV)) (fun i H' => Same Hd H' ∧ H' ka = some (.dK (trueK ((ps.take i).map tkK)))) ⟨same_upd hka, upd_same⟩ ?_ ?_ ?_
    · rintro i H' _ ⟨h1, _⟩
      exact SqL.of (h1 _ _ (sd _ _ hla))
    · rintro i v He He' hi ⟨se, ee⟩ ⟨rfl, hv⟩
      rw [List.length_map] at hi
      rw [List.getElem?_map, List.getElem?_eq_getElem hi] at hv
      have hv := Option.some.inj hv
      subst hv
      generalize hpp : ps[i] = pp at *
      have hget : ps[i]? = some pp := by rw [List.getElem?_eq_getElem hi, hpp]
      refine ⟨rfl, ?_⟩
      have hnew : tkK pp ∉ (ps.take i).map tkK := by
        rw [tkK_mem]
        intro h
        obtain ⟨j, hj⟩ := List.getElem?_of_mem h
        have hji : j < i := by
          have := (List.getElem?_eq_some_iff.mp hj).1
          rw [List.length_take] at this
          omega
        rw [List.getElem?_take_of_lt hji] at hj
        have := nd_get pnd hj hget
        omega
      refine ⟨_, rfl, _, tkK pp, rfl, ee, by rw [trueK_len, List.length_map, List.length_take]; exact small1000 (by omega), se.put hka, ?_⟩
      rw [upd_same, trueK_put hnew, take_snoc hget, List.map_append]
      rfl
    rintro He ⟨se, ee⟩
    rw [List.length_map, List.take_length] at ee
    have npk : p ≠ ka := ne_of_none pd hka
    refine ⟨_, rfl, p, C, dx, _, rfl, (se _ _ pd), T.cl, T2.nK, by omega, ?_⟩
    generalize hfs7 : putF "kept_known" (V.ref ka) fs6 = fs7
    have ln7 : fs7.length ≤ 7 := by rw [← hfs7]; have := length_putF "kept_known" (V.ref ka) fs6; omega
    have l7given : fs7.lookup ("kept_given" : Str) = some (tV gl) := by rw [← hfs7, lookup_putF, if_neg (by decide +kernel)]; exact l6given
    have l7said : fs7.lookup ("kept_said" : Str) = some (tV sl) := by rw [← hfs7, lookup_putF, if_neg (by decide +kernel)]; exact l6said
    have l7cells : fs7.lookup ("kept_cells" : Str) = some (V.ref ca) := by rw [← hfs7, lookup_putF, if_neg (by decide +kernel)]; exact l6cells
    have l7index : fs7.lookup ("kept_index" : Str) = some (V.ref ia) := by rw [← hfs7, lookup_putF, if_neg (by decide +kernel)]; exact l6index
    have l7places : fs7.lookup ("kept_places" : Str) = some (V.ref pa) := by rw [← hfs7, lookup_putF, if_neg (by decide +kernel)]; exact l6places
    have l7bits : fs7.lookup ("kept_bits" : Str) = some (V.ref ba) := by rw [← hfs7, lookup_putF, if_neg (by decide +kernel)]; exact l6bits
    have l7known : fs7.lookup ("kept_known" : Str) = some (V.ref ka) := by rw [← hfs7, lookup_putF, if_pos rfl]
    generalize hH7 : upd He p (.ins C dx fs7) = H7
    have hp7 : H7 p = some (.ins C dx fs7) := by rw [← hH7, upd_same]
    have k7 : ∀ a o, a ≠ p → He a = some o → H7 a = some o := fun a o n h => by rw [← hH7, upd_ne n]; exact h
    -- pairs
    refine ⟨Nat.zero_le _, fun qa hqa => ?_⟩
    have npq : p ≠ qa := ne_of_none hp7 hqa
    refine ⟨_, rfl, p, C, dx, _, rfl, (by rw [upd_ne npq]; exact hp7), T.cl, T2.nQ, by omega, ?_⟩
    generalize hfs8 : putF "kept_pairs" (V.ref qa) fs7 = fs8
    have ln8 : fs8.length ≤ 8 := by rw [← hfs8]; have := length_putF "kept_pairs" (V.ref qa) fs7; omega
    have l8given : fs8.lookup ("kept_given" : Str) = some (tV gl) := by rw [← hfs8, lookup_putF, if_neg (by decide +kernel)]; exact l7given
    have l8said : fs8.lookup ("kept_said" : Str) = some (tV sl) := by rw [← hfs8, lookup_putF, if_neg (by decide +kernel)]; exact l7said
    have l8cells : fs8.lookup ("kept_cells" : Str) = some (V.ref ca) := by rw [← hfs8, lookup_putF, if_neg (by decide +kernel)]; exact l7cells
    have l8index : fs8.lookup ("kept_index" : Str) = some (V.ref ia) := by rw [← hfs8, lookup_putF, if_neg (by decide +kernel)]; exact l7index
    have l8places : fs8.lookup ("kept_places" : Str) = some (V.ref pa) := by rw [← hfs8, lookup_putF, if_neg (by decide +kernel)]; exact l7places
    have l8bits : fs8.lookup ("kept_bits" : Str) = some (V.ref ba) := by rw [← hfs8, lookup_putF, if_neg (by decide +kernel)]; exact l7bits
    have l8known : fs8.lookup ("kept_known" : Str) = some (V.ref ka) := by rw [← hfs8, lookup_putF, if_neg (by decide +kernel)]; exact l7known
    have l8pairs : fs8.lookup ("kept_pairs" : Str) = some (V.ref qa) := by rw [← hfs8, lookup_putF, if_pos rfl]
    generalize hH8 : upd (upd H7 qa (.lst [])) p (.ins C dx fs8) = H8
    have hp8 : H8 p = some (.ins C dx fs8) := by rw [← hH8, upd_same]
    have q8 : H8 qa = some (.lst []) := by rw [← hH8, upd_ne (Ne.symm npq), upd_same]
    have k8 : ∀ a o, a ≠ p → H7 a = some o → H8 a = some o := fun a o n h => by rw [← hH8, upd_ne n, upd_ne (ne_of_none h hqa)]; exact h
    -- rows
    refine ⟨Nat.zero_le _, fun ra hra => ?_⟩
    have npr : p ≠ ra := ne_of_none hp8 hra
    refine ⟨_, rfl, p, C, dx, _, rfl, (by rw [upd_ne npr]; exact hp8), T.cl, T.nR, by omega, ?_⟩
    generalize hfs9 : putF "kept_rows" (V.ref ra) fs8 = fs9
    have ln9 : fs9.length ≤ 9 := by rw [← hfs9]; have := length_putF "kept_rows" (V.ref ra) fs8; omega
    have l9given : fs9.lookup ("kept_given" : Str) = some (tV gl) := by rw [← hfs9, lookup_putF, if_neg (by decide +kernel)]; exact l8given
    have l9said : fs9.lookup ("kept_said" : Str) = some (tV sl) := by rw [← hfs9, lookup_putF, if_neg (by decide +kernel)]; exact l8said
    have l9cells : fs9.lookup ("kept_cells" : Str) = some (V.ref ca) := by rw [← hfs9, lookup_putF, if_neg (by decide +kernel)]; exact l8cells
    have l9index : fs9.lookup ("kept_index" : Str) = some (V.ref ia) := by rw [← hfs9, lookup_putF, if_neg (by decide +kernel)]; exact l8index
    have l9places : fs9.lookup ("kept_places" : Str) = some (V.ref pa) := by rw [← hfs9, lookup_putF, if_neg (by decide +kernel)]; exact l8places
    have l9bits : fs9.lookup ("kept_bits" : Str) = some (V.ref ba) := by rw [← hfs9, lookup_putF, if_neg (by decide +kernel)]; exact l8bits
    have l9known : fs9.lookup ("kept_known" : Str) = some (V.ref ka) := by rw [← hfs9, lookup_putF, if_neg (by decide +kernel)]; exact l8known
    have l9pairs : fs9.lookup ("kept_pairs" : Str) = some (V.ref qa) := by rw [← hfs9, lookup_putF, if_neg (by decide +kernel)]; exact l8pairs
    have l9rows : fs9.lookup ("kept_rows" : Str) = some (V.ref ra) := by rw [← hfs9, lookup_putF, if_pos rfl]
    generalize hH9 : upd (upd H8 ra (.lst [])) p (.ins C dx fs9) = H9
    have hp9 : H9 p = some (.ins C dx fs9) := by rw [← hH9, upd_same]
    have q9 : H9 qa = some (.lst []) := by rw [← hH9, upd_ne (Ne.symm npq), upd_ne (ne_of_none q8 hra)]; exact q8
    have r9 : H9 ra = some (.lst []) := by rw [← hH9, upd_ne (Ne.symm npr), upd_same]
    have nqr : qa ≠ ra := ne_of_none q8 hra
    have k9 : ∀ a o, a ≠ p → He a = some o → H9 a = some o := fun a o n h => by
      have h8 := k8 _ _ n (k7 _ _ n h)
      rw [← hH9, upd_ne n, upd_ne (ne_of_none h8 hra)]
      exact h8
    -- what stays: the base HK
    generalize hHK : upd He p (.ins C dx fs9) = HK
    have hKp : HK p = some (.ins C dx fs9) := by rw [← hHK, upd_same]
    have kK : ∀ a o, a ≠ p → He a = some o → HK a = some o := fun a o n h => by rw [← hHK, upd_ne n]; exact h
    have SK : Same HK H9 := fun a o h => by
      by_cases e : a = p
      · subst e
        rw [hp9, ← hKp]
        exact h
      · rw [← hHK, upd_ne e] at h
        exact k9 a o e h
    have qK : HK qa = none := by
      rw [← hHK, upd_ne (Ne.symm npq)]
      rw [← hH7, upd_ne (Ne.symm npq)] at hqa
      exact hqa
    have rK : HK ra = none := by
      rw [← hHK, upd_ne (Ne.symm npr)]
      have : H7 ra = none := by
        rw [← hH8, upd_ne (Ne.symm npr), upd_ne (Ne.symm nqr)] at hra
        exact hra
      rw [← hH7, upd_ne (Ne.symm npr)] at this
      exact this
    have s0K : Same H0 HK := fun a o h => kK _ _ (ne_of_none h hp0) (se _ _ (sd _ _ h))
    have cK := kK _ _ (Ne.symm npc) (se _ _ cd)
    have iK := kK _ _ (Ne.symm npi) (se _ _ id')
    have aK := kK _ _ (Ne.symm npp) (se _ _ ad)
    have bK := kK _ _ (Ne.symm npb) (se _ _ bd)
    have nK := kK _ _ (Ne.symm npk) ee
    have lK : ∀ (x : Nat) (a : Addr), pl[x]? = some a → HK a = some (.lst (((List.range (gl.length * sl.length)).filter fun q => q / sl.length == x).map nV)) := fun x a h => kK _ _ (pl6 a (List.mem_of_getElem? h)).2.1 (se _ _ (ld _ _ h))
    -- for one in self.kept_cells
    refine ⟨_, rfl, p, C, dx, _, _, rfl, hp9, T.cl, T.nC, l9cells, ca, rfl, ⟨_, SqL.of (SK _ _ cK)⟩, ?_⟩
    refine for_it (walk_list (xs := (cellsL gl sl).map tV)) (fun i σ H' => ∃ (y7 y8 : Option V) (xs : List V), σ = [some (.ref p), some (tV gl), some (tV sl), some (.ref la), y4, y5, some (nV (2 ^ ((cellsL gl sl).map tV).length)), y7, y8, none, none, none, none] ∧ Same HK H' ∧ H' qa = some (.lst xs) ∧ xs.length ≤ i * 6 ∧
        H' ra = some (.lst (((instOf gl sl ps).A.take i).map nV))) ⟨none, none, [], rfl, SK, q9, Nat.zero_le _, r9⟩ ?_ ?_ ?_
    · rintro i σ H' _ ⟨y7, y8, xs, rfl, h1, _⟩
      exact SqL.of (h1 _ _ cK)
    · rintro i v σ Hf Hf' hi ⟨y7, y8, xs, rfl, sf, qf, xl, rf⟩ ⟨rfl, hv⟩
      rw [List.length_map, cellsL_len] at hi
      have hi2 : i < (cellsL gl sl).length := by rw [cellsL_len]; exact hi
      rw [List.getElem?_map, List.getElem?_eq_getElem hi2] at hv
      have hv := Option.some.inj hv
      subst hv
      generalize hone : (cellsL gl sl)[i] = one at *
      have hget : (cellsL gl sl)[i]? = some one := by rw [List.getElem?_eq_getElem hi2, hone]
      have one2 : one.length = 2 := by
        obtain ⟨g, d, _, _, h⟩ := cellsL_get hi
        rw [hget] at h
        rw [Option.some.inj h]
        rfl
      -- behind
      refine ⟨_, rfl, p, C, dx, _, _, rfl, sf _ _ hKp, T.cl, T.nC, l9cells, ca, rfl, ⟨_, SqL.of (sf _ _ cK)⟩, fun D hD => ?_⟩
      have Dq : D ≠ qa := Ne.symm (ne_of_none qf hD)
      have Dr : D ≠ ra := Ne.symm (ne_of_none rf hD)
      have DK : HK D = none := sf.free hD
      refine lc_it (walk_list (xs := (cellsL gl sl).map tV)) (fun j H' => Same Hf' H' ∧ H' D = some (.lst (((List.range j).filter (fitP ps (cellsL gl sl) one)).map fun q => tV ((cellsL gl sl).getD q [])))) ⟨same_upd hD, upd_same⟩ ?_ ?_ ?_
      · rintro j H' _ ⟨h1, _⟩
        exact SqL.of (h1 _ _ (sf _ _ cK))
      · rintro j v Hg Hg' hj ⟨sg, eg⟩ ⟨rfl, hv⟩
        rw [List.length_map, cellsL_len] at hj
        have hj2 : j < (cellsL gl sl).length := by rw [cellsL_len]; exact hj
        have hcj : (cellsL gl sl)[j]? = some ((cellsL gl sl).getD j []) := by rw [List.getD_eq_getElem?_getD, List.getElem?_eq_getElem hj2]; rfl
        rw [List.getElem?_map, hcj] at hv
        have hv := Option.some.inj hv
        subst hv
        have two : ((cellsL gl sl).getD j []).length = 2 := by
          obtain ⟨g, d, _, _, h⟩ := cellsL_get hj
          rw [hcj] at h
          rw [Option.some.inj h]
          rfl
        refine ⟨rfl, ?_⟩
        have sKg := sf.trans sg
        have dg := DGet.k (k := tkK (one ++ (cellsL gl sl).getD j [])) (sKg _ _ nK)
        have ek : V.str (tx one ++ tx ((cellsL gl sl).getD j [])) = kV (tkK (one ++ (cellsL gl sl).getD j [])) := by rw [tx_app]; rfl
        refine ⟨_, rfl, _, rfl, _, _, rfl, rfl, by rw [tx_len, tx_len, one2, two]; decide, _, rfl, p, C, dx, _, _, rfl, sKg _ _ hKp, T.cl, T2.nK, l9known, ka, _, rfl, by rw [ek]; exact dg, _, rfl, ?_⟩
        have efit : (valV (trueK (ps.map tkK)) (tkK (one ++ (cellsL gl sl).getD j []))).isSome = fitP ps (cellsL gl sl) one j := by
          unfold fitP
          by_cases hm : one ++ (cellsL gl sl).getD j [] ∈ ps
          · rw [trueK_some (tkK_mem.mpr hm), decide_eq_true hm]
            rfl
          · rw [trueK_none fun h => hm (tkK_mem.mp h), decide_eq_false hm]
            rfl
        rw [efit, range_filter_succ]
        have hfl := List.length_filter_le (fitP ps (cellsL gl sl) one) (List.range j)
        rw [List.length_range] at hfl
        cases hfit : fitP ps (cellsL gl sl) one j with
        | true =>
          refine iteT ⟨_, rfl, _, eg, by rw [List.length_map]; exact small1000 (by omega), sg.put hD, ?_⟩
          rw [upd_same, if_pos rfl, List.map_append]
          rfl
        | false =>
          refine iteF ⟨sg, ?_⟩
          rw [if_neg (by decide), List.append_nil]
          exact eg
      rintro Hg ⟨sg, eg⟩
      rw [List.length_map, cellsL_len] at eg
      generalize hbq : (List.range (gl.length * sl.length)).filter (fitP ps (cellsL gl sl) one) = bq at eg
      have bql : bq.length ≤ 6 := by
        rw [← hbq]
        have := List.length_filter_le (fitP ps (cellsL gl sl) one) (List.range (gl.length * sl.length))
        rw [List.length_range] at this
        omega
      have bqm : ∀ q ∈ bq, q < gl.length * sl.length := by
        intro q hq
        rw [← hbq, List.mem_filter, List.mem_range] at hq
        exact hq.1
      have sKg := sf.trans sg
      have qg := sg _ _ qf
      have rg := sg _ _ rf
      -- pairs.extend
      refine ⟨_, rfl, p, C, dx, _, _, rfl, sKg _ _ hKp, T.cl, T2.nQ, l9pairs, .inl ⟨rfl, _, SqL.of qg⟩, _, rfl, D, rfl, ⟨_, SqL.of eg⟩, fun E hE => ?_⟩
      refine lc_it (walk_list (xs := bq.map fun q => tV ((cellsL gl sl).getD q []))) (fun j H' => Same Hg H' ∧ ∃ zs : List V, zs.length = j ∧ H' E = some (.lst zs)) ⟨same_upd hE, [], rfl, upd_same⟩ ?_ ?_ ?_
      · rintro j H' _ ⟨h1, _⟩
        exact SqL.of (h1 _ _ eg)
      · rintro j v Hh Hh' hj ⟨sh, zs, zl, eh⟩ ⟨rfl, hv⟩
        rw [List.length_map] at hj
        rw [List.getElem?_map, List.getElem?_eq_getElem hj] at hv
        have hv := Option.some.inj hv
        subst hv
        have hqm := bqm bq[j] (List.getElem_mem hj)
        have two : ((cellsL gl sl).getD bq[j] []).length = 2 := by
          obtain ⟨g, d, _, _, h⟩ := cellsL_get hqm
          rw [List.getD_eq_getElem?_getD, h]
          rfl
        refine ⟨rfl, ?_⟩
        refine ⟨_, rfl, _, rfl, _, _, rfl, rfl, by rw [tx_len, tx_len, one2, two]; decide, _, eh, small1000 (by omega), sh.put hE, zs ++ [_], by rw [List.length_append, zl]; rfl, upd_same⟩
      rintro Hh ⟨sh, zs, zl, eh⟩
      rw [List.length_map] at zl
      have qh := sh _ _ qg
      have nqE : qa ≠ E := ne_of_none qg hE
      refine ⟨qa, E, xs, zs, rfl, rfl, qh, eh, Nat.le_of_lt (small1000 (by omega)), ?_⟩
      generalize hHi : upd Hh qa (.lst (xs ++ zs)) = Hi
      have sKi : Same HK Hi := by rw [← hHi]; exact (sKg.trans sh).put qK
      have ki : ∀ a o, a ≠ qa → Hg a = some o → Hi a = some o := fun a o n h => by rw [← hHi, upd_ne n]; exact sh _ _ h
      have ri := ki _ _ (Ne.symm nqr) rg
      have ei := ki _ _ Dq eg
      have qi : Hi qa = some (.lst (xs ++ zs)) := by rw [← hHi, upd_same]
      -- rows.append(sum(..))
      refine ⟨_, rfl, p, C, dx, _, _, rfl, sKi _ _ hKp, T.cl, T.nR, l9rows, .inl ⟨rfl, _, SqL.of ri⟩, _, rfl, D, rfl, ⟨_, SqL.of ei⟩, fun G hG => ?_⟩
      refine lc_it (walk_list (xs := bq.map fun q => tV ((cellsL gl sl).getD q []))) (fun j H' => Same Hi H' ∧ H' G = some (.lst (((bq.take j).map fun q : Nat => ((2 ^ q : Nat) : Int)).map V.int))) ⟨same_upd hG, upd_same⟩ ?_ ?_ ?_
      · rintro j H' _ ⟨h1, _⟩
        exact SqL.of (h1 _ _ ei)
      · rintro j v Hj Hj' hj ⟨sj, ej⟩ ⟨rfl, hv⟩
        rw [List.length_map] at hj
        have hbj : bq[j]? = some bq[j] := List.getElem?_eq_getElem hj
        rw [List.getElem?_map, hbj] at hv
        have hv := Option.some.inj hv
        subst hv
        generalize hq : bq[j] = qq at *
        have hqm := bqm qq (List.mem_of_getElem? hbj)
        have hcq : (cellsL gl sl)[qq]? = some ((cellsL gl sl).getD qq []) := by rw [List.getD_eq_getElem?_getD, List.getElem?_eq_getElem (by rw [cellsL_len]; exact hqm)]; rfl
        have sKj := sKi.trans sj
        have dg := DGet.k (k := tkK ((cellsL gl sl).getD qq [])) (sKj _ _ iK)
        rw [dictOf_some (tkK_nd (show (cellsL gl sl).Nodup from ok.cnd)) (i := qq) (by rw [List.getElem?_map, hcq]; rfl)] at dg
        refine ⟨rfl, ?_⟩
        refine ⟨_, rfl, p, C, dx, _, _, rfl, sKj _ _ hKp, T.cl, T.nB, l9bits, _, rfl, p, C, dx, _, _, rfl, sKj _ _ hKp, T.cl, T.nI, l9index, _, rfl, ia, _, rfl, dg, ba, _, _, _, rfl, rfl, SqL.of (sKj _ _ bK), atI_nat (by rw [List.getElem?_map, List.getElem?_range hqm]; rfl), _, ej, by rw [List.length_map, List.length_map, List.length_take]; exact small1000 (by omega), sj.put hG, ?_⟩
        rw [upd_same, take_snoc hbj, List.map_append, List.map_append]
        rfl
      rintro Hj ⟨sj, ej⟩
      rw [List.length_map, List.take_length] at ej
      have rj := sj _ _ ri
      refine ⟨G, _, rfl, SqL.of ej, ra, _, _, rfl, rfl, rj, ?_, ?_⟩
      · rw [List.length_map, List.length_take]
        exact small1000 (by omega)
      refine ⟨_, _, xs ++ zs, rfl, (sKi.trans sj).put rK, ?_, ?_, ?_⟩
      · rw [upd_ne nqr]
        exact sj _ _ qi
      · rw [List.length_append, zl]
        omega
      · have hA : (instOf gl sl ps).A[i]? = some (pows (fitP ps (cellsL gl sl) one) (gl.length * sl.length)) := by
          show ((cellsL gl sl).map _)[i]? = _
          rw [List.getElem?_map, hget]
          rfl
        rw [upd_same, take_snoc hA, List.map_append, sum_cast]
        unfold pows
        rw [hbq]
        rfl
    rintro σ Hf ⟨y7, y8, xs, rfl, sf, qf, xl, rf⟩
    rw [List.length_map, cellsL_len] at rf
    have hAl : (instOf gl sl ps).A.length = gl.length * sl.length := ok.al
    rw [← hAl, List.take_length] at rf
    refine ⟨_, rfl, p, C, dx, _, rfl, (sf _ _ hKp), T.cl, T.nL, by omega, ?_⟩
    generalize hfs10 : putF "kept_closure" V.non fs9 = fs10
    have ln10 : fs10.length ≤ 10 := by rw [← hfs10]; have := length_putF "kept_closure" V.non fs9; omega
    have l10given : fs10.lookup ("kept_given" : Str) = some (tV gl) := by rw [← hfs10, lookup_putF, if_neg (by decide +kernel)]; exact l9given
    have l10said : fs10.lookup ("kept_said" : Str) = some (tV sl) := by rw [← hfs10, lookup_putF, if_neg (by decide +kernel)]; exact l9said
    have l10cells : fs10.lookup ("kept_cells" : Str) = some (V.ref ca) := by rw [← hfs10, lookup_putF, if_neg (by decide +kernel)]; exact l9cells
    have l10index : fs10.lookup ("kept_index" : Str) = some (V.ref ia) := by rw [← hfs10, lookup_putF, if_neg (by decide +kernel)]; exact l9index
    have l10places : fs10.lookup ("kept_places" : Str) = some (V.ref pa) := by rw [← hfs10, lookup_putF, if_neg (by decide +kernel)]; exact l9places
    have l10bits : fs10.lookup ("kept_bits" : Str) = some (V.ref ba) := by rw [← hfs10, lookup_putF, if_neg (by decide +kernel)]; exact l9bits
    have l10known : fs10.lookup ("kept_known" : Str) = some (V.ref ka) := by rw [← hfs10, lookup_putF, if_neg (by decide +kernel)]; exact l9known
    have l10pairs : fs10.lookup ("kept_pairs" : Str) = some (V.ref qa) := by rw [← hfs10, lookup_putF, if_neg (by decide +kernel)]; exact l9pairs
    have l10rows : fs10.lookup ("kept_rows" : Str) = some (V.ref ra) := by rw [← hfs10, lookup_putF, if_neg (by decide +kernel)]; exact l9rows
    have l10closure : fs10.lookup ("kept_closure" : Str) = some V.non := by rw [← hfs10, lookup_putF, if_pos rfl]
    have kF : ∀ a o, a ≠ p → Hf a = some o → (upd Hf p (.ins C dx fs10)) a = some o := fun a o n h => by rw [upd_ne n]; exact h
    refine q _ (fun a o h => kF _ _ (ne_of_none h hp0) (sf _ _ (s0K _ _ h))) fun hh ho hho => ?_
    have hN : ∀ a, H0 a = none → a ≠ hh := fun a e z => by
      rw [z, hho] at e
      cases e
    refine ⟨dx, fs10, ca, ia, pa, ba, ra, pl, by rw [minus_ne (hN _ hp0)]; exact upd_same, ⟨l10given, l10cells, l10index, l10places, l10bits, l10rows, l10closure, by omega⟩, ?_⟩
    have kF : ∀ a o, H0 a = none → a ≠ p → Hf a = some o → minus hh (upd Hf p (.ins C dx fs10)) a = some o := fun a o n0 n h => by rw [minus_ne (hN _ n0)]; exact kF a o n h
    have ca0 : H0 ca = none := s2.free hca
    have ia0 : H0 ia = none := s3.free hia
    have pa0 : H0 pa = none := s4.free hpa
    have ra0 : H0 ra = none := s0K.free rK
    refine ⟨?_, ?_, ?_, hpl, ?_, ?_, kF _ _ ra0 (Ne.symm npr) rf⟩
    · have := kF _ _ ca0 (Ne.symm npc) (sf _ _ cK)
      show _ = some (HO.lst (((cellsL gl sl).map tx).map V.str))
      rw [this, List.map_map]
      rfl
    · rw [← index_eq, instOf_cells]
      exact kF _ _ ia0 (Ne.symm npi) (sf _ _ iK)
    · exact kF _ _ pa0 (Ne.symm npp) (sf _ _ aK)
    · intro x a h
      have hx : x < gl.length := by rw [← hpl]; exact (List.getElem?_eq_some_iff.mp h).1
      have := kF _ _ (pl6 a (List.mem_of_getElem? h)).1 (pl6 a (List.mem_of_getElem? h)).2.1 (sf _ _ (lK x a h))
      rw [places_eq lok.s1 hx] at this
      exact this
    · have := kF _ _ hba0 (Ne.symm npb) (sf _ _ bK)
      rw [this]
      unfold Inst.bits
      rw [List.map_map]
      rfl
end
end N18
end
section
set_option Elab.async false
set_option linter.all false
set_option maxRecDepth 100000
set_option maxHeartbeats 4000000
namespace N18
open PySem PySem.Spec PyProof.Rows L2 TL PySem.W
def smallL : List Nat := (List.range 26).map fun i => 97 + i
def greatL : List Nat := (List.range 26).map fun i => 65 + i
theorem small_tx : tx smallL = ("abcdefghijklmnopqrstuvwxyz" : Str) := by decide +kernel
theorem great_tx : tx greatL = ("ABCDEFGHIJKLMNOPQRSTUVWXYZ" : Str) := by decide +kernel
theorem smallL_mem {c : Nat} : c ∈ smallL ↔ 97 ≤ c ∧ c ≤ 122 := by
  unfold smallL
  rw [List.mem_map]
  constructor
  · rintro ⟨i, hi, rfl⟩
    rw [List.mem_range] at hi
    omega
  · rintro ⟨h1, h2⟩
    exact ⟨c - 97, List.mem_range.mpr (by omega), by omega⟩
theorem greatL_mem {c : Nat} : c ∈ greatL ↔ 65 ≤ c ∧ c ≤ 90 := by
  unfold greatL
  rw [List.mem_map]
  constructor
  · rintro ⟨i, hi, rfl⟩
    rw [List.mem_range] at hi
    omega
  · rintro ⟨h1, h2⟩
    exact ⟨c - 65, List.mem_range.mpr (by omega), by omega⟩
/-- pairs of cells of these letters -/
def PrOk (gl sl : List Nat) (ps : List (List Nat)) : Prop := ∀ p ∈ ps, ∃ g1 s1 g2 s2, p = [g1, s1, g2, s2] ∧ g1 ∈ gl ∧ s1 ∈ sl ∧ g2 ∈ gl ∧ s2 ∈ sl
section
variable {P : Program} {w : World} {K : PySem.W.Frag} {mg : Str → Option Value} {base : Heap}
/-! ### Wish.__init__ -/
def spWInit (C : Addr) : Sp := fun vs H Q _ => ∃ (H0 : Hp) (p dx la : Addr) (gl sl : List Nat) (ps : List (List Nat)), vs = [.ref p, tV gl, tV sl, .ref la] ∧ LOk gl sl ∧ H0 la = some (.lst (ps.map tV)) ∧ ps.Nodup ∧ ps.length ≤ 100 ∧ PrOk gl sl ps ∧
  H0 p = none ∧ Same H0 H ∧ H p = some (.ins C dx []) ∧ ∀ H', Same H0 H' → (∀ (h : Addr) (o : HO), H0 h = some o → WishAt C (minus h H') p (instOf gl sl ps) .non) → Q .non H'
theorem scWInit : FnScope ["self", "given", "said", "pairs"] ["self", "given", "said", "pairs"] (defScope sWInit) := ⟨rfl, rfl, rfl, by decide +kernel, rfl, by decide +kernel, by decide +kernel⟩
theorem ok_wInit {C f g3 : Addr} {fd gd3 : FuncData} (F : Fun K "__init__" "Wish.__init__" sWInit f fd) (T : WTxt K C) (B : Bt mg) {tk1 tk2 : Tok} (mS : mg "SMALL" = some (.str ("abcdefghijklmnopqrstuvwxyz" : Str) tk1)) (mL : mg "GREAT" = some (.str ("ABCDEFGHIJKLMNOPQRSTUVWXYZ" : Str) tk2))
    (c1 : Cal P w K mg base "is_choice" 2 ["thing", "signs"] spIsChoice) (c2 : Cal P w K mg base "are_pairs" 2 ["thing", "given", "said"] spArePairs)
    (G3 : FnOk P w K mg base CX0 2 g3 gd3 ["self", "given", "said", "pairs"] (spKeep C)) (mG3 : Meth K C "keep" g3) (bG3 : Binds K gd3 ["self", "given", "said", "pairs"] []) :
    FnOk P w K mg base CX0 3 f fd ["self", "given", "said", "pairs"] (spWInit C) := by
  obtain ⟨ga, gda, Ga, mGa, kGa, bGa⟩ := c1
  obtain ⟨gb, gdb, Gb, mGb, kGb, bGb⟩ := c2
  refine F.ok scWInit (fun vs H Q E h => ?_) (fun cdv A outer s H vs Q E hr h => ?_)
  · obtain ⟨H0, p, dx, la, gl, sl, ps, rfl, _⟩ := h
    rfl
  · obtain ⟨H0, p, dx, la, gl, sl, ps, rfl, lok, hla, pnd, pln, pok, hp0, s0, hp, q⟩ := h
    have ok := lok.ok ps
    have k3 : gl.length ≤ 3 := ok.k3
    have h1 := lok.k1
    have h2 := lok.s1
    have h3 := lok.s4
    refine ⟨_, pss_cons (ps_if (PW.pt (pw_or (pt_not (pt_val (pe_call Ga hr (by rfl) mGa kGa bGa .nil pass0 (pa_cons (pv 1) (pa_cons (pe_glob (v := .str ("abcdefghijklmnopqrstuvwxyz" : Str)) (by rfl) mS ⟨_, rfl⟩) pa_nil)))))
          (pw_or1 (pt_not (pt_chain op_le op_le pe_int (pe_callB call_len_str (by rfl) B.len PySem.boot_len (pa_cons (pv 1) pa_nil)) pe_int))))) (pss_one ps_never) pss_nil)
      (pss_cons (ps_if (PW.pt (pw_or (pt_not (pt_val (pe_call Ga hr (by rfl) mGa kGa bGa .nil pass0 (pa_cons (pv 2) (pa_cons (pe_glob (v := .str ("ABCDEFGHIJKLMNOPQRSTUVWXYZ" : Str)) (by rfl) mL ⟨_, rfl⟩) pa_nil)))))
          (pw_or1 (pt_not (pt_chain op_le op_le pe_int (pe_callB call_len_str (by rfl) B.len PySem.boot_len (pa_cons (pv 2) pa_nil)) pe_int))))) (pss_one ps_never) pss_nil)
      (pss_cons (ps_if (pt_not (pt_val (pe_call Gb hr (by rfl) mGb kGb bGb .nil pass0 (pa_cons (pv 3) (pa_cons (pv 1) (pa_cons (pv 2) pa_nil)))))) (pss_one ps_never) pss_nil)
      (pss_one (ps_expr (pe_meth (pv 0) T.cl mG3 G3 hr bG3 .nil pass0 (pa_cons (pv 1) (pa_cons (pv 2) (pa_cons (pv 3) pa_nil)))))))), ?_⟩
    have small : ∀ n, n ≤ 4 → (n : Nat) ≤ sizeLine := fun n h => Nat.le_of_lt (small1000 (by omega))
    refine ⟨_, rfl, gl, smallL, by rw [small_tx]; rfl, fun c hc => smallL_mem.mpr (lok.gs c hc), lok.gn, by omega, true, rfl, iteF ?_⟩
    refine ⟨_, rfl, tx gl, rfl, by rw [tx_len]; exact small _ (by omega), _, _, rfl, rfl, _, rfl, ?_⟩
    rw [tx_len, decide_eq_true (show (1 : Int) ≤ ((gl.length : Nat) : Int) by omega)]
    refine iteT ⟨_, _, rfl, rfl, _, rfl, ?_⟩
    rw [decide_eq_true (show ((gl.length : Nat) : Int) ≤ 3 by omega)]
    refine iteF ?_
    refine ⟨_, rfl, sl, greatL, by rw [great_tx]; rfl, fun c hc => greatL_mem.mpr (lok.ss c hc), lok.sn, by omega, true, rfl, iteF ?_⟩
    refine ⟨_, rfl, tx sl, rfl, by rw [tx_len]; exact small _ (by omega), _, _, rfl, rfl, _, rfl, ?_⟩
    rw [tx_len, decide_eq_true (show (1 : Int) ≤ ((sl.length : Nat) : Int) by omega)]
    refine iteT ⟨_, _, rfl, rfl, _, rfl, ?_⟩
    rw [decide_eq_true (show ((sl.length : Nat) : Int) ≤ 4 by omega)]
    refine iteF ?_
    refine ⟨_, rfl, _, rfl, _, rfl, la, ps, gl, sl, rfl, s0 _ _ hla, pnd, pln, pok, fun H1 s1 => ⟨true, rfl, iteF ?_⟩⟩
    exact ⟨_, rfl, p, dx, [], rfl, s1 _ _ hp, rfl, _, rfl, _, rfl, _, rfl, H0, p, dx, la, gl, sl, ps, rfl, lok, hla, pnd, pln, hp0, s0.trans s1, s1 _ _ hp, q⟩
end
end N18
end
section
set_option Elab.async false
set_option linter.all false
set_option maxRecDepth 100000
set_option maxHeartbeats 4000000
namespace N18
open PySem PySem.Spec PyProof.Rows L2 TL PySem.W
/-- a place between: what holds there is told -/
def tCut (t u : TS) : TS := fun D σ H => ∃ Mid : L2.St → Hp → Prop, t { D with nx := Mid } σ H ∧ ∀ σ' H', Mid σ' H' → u D σ' H'
theorem pss_cut {X : Cx} {st : Stmt} {rest : List Stmt} {t u : TS} (h1 : PS X st t) (h2 : PSs X rest u) : PSs X (st :: rest) (tCut t u) := by
  refine ⟨fun pins s σ H D I h => ?_⟩
  obtain ⟨Mid, ha, hb⟩ := h
  refine wpAny_execs_cons (thn (h1.run pins s σ H { D with nx := Mid } I ha) fun f s1 q => ?_)
  cases f with
  | next =>
    obtain ⟨σ', H', I', m⟩ := q
    exact h2.run pins s1 σ' H' D I' (hb _ _ m)
  | brk => exact q
  | cont => exact q
  | ret v => exact q
/-! ### the law's hand -/
abbrev hd (ca : Addr) (i c : Nat) (s k : Int) : List V := [.ref ca, nV i, nV c, .int s, .int k]
def HandAt (H : Hp) (h ca : Addr) : Prop := ∃ (ns : List Nat) (i c : Nat) (s k : Int), H h = some (.lst (hd ca i c s k)) ∧ H ca = some (.lst (ns.map nV)) ∧ ca ≠ h
theorem HandAt.same {H H' : Hp} {h ca : Addr} (a : HandAt H h ca) (s : Same H H') : HandAt H' h ca := by
  obtain ⟨ns, i, c, x, k, h1, h2, h3⟩ := a
  exact ⟨ns, i, c, x, k, s _ _ h1, s _ _ h2, h3⟩
theorem HandAt.upd {H : Hp} {h ca b : Addr} {o : HO} (a : HandAt H h ca) (n1 : b ≠ h) (n2 : b ≠ ca) : HandAt (L2.upd H b o) h ca := by
  obtain ⟨ns, i, c, x, k, h1, h2, h3⟩ := a
  exact ⟨ns, i, c, x, k, by rw [upd_ne (Ne.symm n1)]; exact h1, by rw [upd_ne (Ne.symm n2)]; exact h2, h3⟩
/-- a new thing is not the hand -/
theorem HandAt.ne {H : Hp} {h ca b : Addr} (a : HandAt H h ca) (hb : H b = none) : b ≠ h ∧ b ≠ ca := by
  obtain ⟨ns, i, c, x, k, h1, h2, h3⟩ := a
  exact ⟨Ne.symm (ne_of_none h1 hb), Ne.symm (ne_of_none h2 hb)⟩
theorem But.put' {a b : Addr} {H H' : Hp} {o : HO} (s : But a H H') (h : H b = none) : But a H (L2.upd H' b o) := fun c x n e => by
  rw [upd_ne (ne_of_none e h)]
  exact s c x n e
section
variable {P : Program} {w : World} {K : PySem.W.Frag} {mg : Str → Option Value} {base : Heap}
def spHand (K : PySem.W.Frag) : Sp := fun vs H Q _ => ∃ (a : Addr) (ns : List Int), vs = [.ref a] ∧ SqL K H a (ns.map V.int) ∧ ∀ H' h ca, Same H H' → H h = none → H ca = none → HandAt H' h ca → Q (.ref h) H'
abbrev nHand : List Str := ["_law_script", "_law_cells_here", "_law_cell"]
theorem scHand : FnScope nHand ["_law_script"] (defScope sHand) := ⟨rfl, rfl, rfl, by decide +kernel, rfl, by decide +kernel, by decide +kernel⟩
theorem cut_to (xs : List V) (m : Nat) : cutV xs none (some (m : Int)) = xs.take m := by
  unfold cutV
  rw [show HT.sIx xs.length xs.length (some (m : Int)) = min m xs.length from HT.sIx_nat xs.length xs.length m, HT.sIx_none, List.drop_zero, Nat.sub_zero]
  by_cases h : m ≤ xs.length
  · rw [Nat.min_eq_left h]
  · rw [Nat.min_eq_right (by omega), List.take_length, List.take_of_length_le (by omega)]
theorem abs_eq (i : Int) : V.int (if i < 0 then -i else i) = nV i.natAbs := by
  show V.int _ = V.int _
  congr 1
  split <;> omega
theorem ok_hand {f : Addr} {fd : FuncData} (F : Fun K "_law_hand" "_law_hand" sHand f fd) (B : Bt mg) : FnOk P w K mg base CX0 1 f fd ["_law_script"] (spHand K) := by
  refine F.ok scHand (fun vs H Q E h => ?_) (fun cdv A outer s H vs Q E hr h => ?_)
  · obtain ⟨a, ns, rfl, _⟩ := h
    rfl
  · obtain ⟨a, ns, rfl, ha, q⟩ := h
    have nd := scHand.nd
    refine ⟨_, pss_cons (ps_setLc (i := 1) (own := [("_law_cell", 2)]) (g := gName 2) (tt := tYes) rfl nd rfl rfl (sw_true rfl rfl rfl (by decide +kernel)) (pi_list (pe_slice sl_list (pv 0) po_none (po_some pe_int))) (blkOk_by (N := nHand) (sc := defScope sHand) (by decide +kernel)) (fun _ _ _ _ _ => pg_name (i := 2) nd rfl (.inl rfl)) (fun _ _ _ _ _ => pts_nil)
        (fun _ _ _ _ _ => pe_callB call_abs (by rfl) B.abs (by decide +kernel) (pa_cons (pe_callTy call_int1 (by rfl) B.int (by decide +kernel) (pa_cons (pv 2) pa_nil)) pa_nil)))
      (pss_one (ps_ret (pe_lst (pa_cons (pv 1) (pa_cons pe_int (pa_cons pe_int (pa_cons (pe_op op_add pe_int (pe_callB call_len_seq (by rfl) B.len PySem.boot_len (pa_cons (pv 1) pa_nil))) (pa_cons pe_int pa_nil)))))))), ?_⟩
    refine ⟨_, rfl, _, rfl, a, _, rfl, ha, fun sa hsa => ?_⟩
    have ec : cutV (ns.map V.int) none (some 63) = (ns.take 63).map V.int := by
      have := cut_to (ns.map V.int) 63
      rw [← List.map_take] at this
      exact this
    have s1 : Same H (upd H sa (.lst (cutV (ns.map V.int) none (some 63)))) := same_upd hsa
    have e1 : (upd H sa (.lst (cutV (ns.map V.int) none (some 63)))) sa = some (.lst ((ns.take 63).map V.int)) := by rw [upd_same, ec]
    generalize hH1 : upd H sa (.lst (cutV (ns.map V.int) none (some 63))) = H1 at *
    refine ⟨sa, rfl, ⟨_, SqL.of e1⟩, fun ca hca => ?_⟩
    refine lc_it (walk_list (xs := (ns.take 63).map V.int)) (fun i H' => Same H1 H' ∧ H' ca = some (.lst ((((ns.take 63).take i).map Int.natAbs).map nV))) ⟨same_upd hca, upd_same⟩ ?_ ?_ ?_
    · rintro i H' _ ⟨h1, _⟩
      exact SqL.of (h1 _ _ e1)
    · rintro i v H2 H2' hi ⟨s2, e2⟩ ⟨rfl, hv⟩
      rw [List.length_map] at hi
      have hget : (ns.take 63)[i]? = some (ns.take 63)[i] := List.getElem?_eq_getElem hi
      rw [List.getElem?_map, hget] at hv
      have hv := Option.some.inj hv
      subst hv
      rw [List.length_take] at hi
      refine ⟨rfl, ?_⟩
      refine ⟨_, rfl, .inl ⟨_, rfl, _, rfl, ?_⟩⟩
      refine ⟨_, e2, by rw [List.length_map, List.length_map, List.length_take]; exact small1000 (by omega), s2.put hca, ?_⟩
      rw [upd_same, take_snoc hget, List.map_append, List.map_append, abs_eq]
      rfl
    rintro H2 ⟨s2, e2⟩
    rw [List.length_map, List.take_length] at e2
    refine ⟨_, rfl, _, rfl, ca, _, rfl, .inl (SqL.of e2), _, _, rfl, rfl, by show 5 ≤ sizeLine; decide, fun h hh => ?_⟩
    refine q _ h ca ((s1.trans s2).trans (same_upd hh)) ((s1.trans s2).free hh) (s1.free hca) ⟨_, 0, 0, _, 0, upd_same, by rw [upd_ne (ne_of_none e2 hh)]; exact e2, ne_of_none e2 hh⟩
/-! ### one draw -/
def spDraw : Sp := fun vs H Q _ => ∃ (h ca : Addr) (m : Nat), vs = [.ref h, nV m] ∧ 0 < m ∧ m ≤ 1000 ∧ HandAt H h ca ∧ ∀ H' d, d < m → But h H H' → HandAt H' h ca → Q (nV d) H'
theorem scDraw : FnScope ["_law_hand_here", "_law_many", "_law_cell", "_law_digit", "_law_number"] ["_law_hand_here", "_law_many"] (defScope sDraw) := ⟨rfl, rfl, rfl, by decide +kernel, rfl, by decide +kernel, by decide +kernel⟩
theorem mod_nV (x : Int) {m : Nat} (h : 0 < m) : ∃ d, d < m ∧ V.int (x % (m : Int)) = nV d := by
  have h1 := Int.emod_nonneg x (show (m : Int) ≠ 0 by omega)
  have h2 := Int.emod_lt_of_pos x (show (0 : Int) < m by omega)
  refine ⟨(x % (m : Int)).toNat, by omega, ?_⟩
  show V.int _ = V.int _
  congr 1
  omega
theorem ok_draw {f : Addr} {fd : FuncData} (F : Fun K "_law_draw" "_law_draw" sDraw f fd) (B : Bt mg) : FnOk P w K mg base CX0 1 f fd ["_law_hand_here", "_law_many"] spDraw := by
  refine F.ok scDraw (fun vs H Q E h => ?_) (fun cdv A outer s H vs Q E hr h => ?_)
  · obtain ⟨h, ca, m, rfl, _⟩ := h
    rfl
  · obtain ⟨h, ca, m, rfl, hm, hm2, ⟨ns, i, c, x, k, hh, hca, nch⟩, q⟩ := h
    have nd := scDraw.nd
    refine ⟨_, pss_cut (ps_if (PW.pt (pw_and (pt_cmpR op_eq (pe_ix ix_list (pv 0) pe_int (fun _ _ => rfl)) pe_int (nomark _)) (pw_and1 (pt_cmpR op_lt (pe_ix ix_list (pv 0) pe_int (fun _ _ => rfl)) (pe_callB call_len_seq (by rfl) B.len PySem.boot_len (pa_cons (pe_ix ix_list (pv 0) pe_int (fun _ _ => rfl)) pa_nil)) (nomark _)))))
        (pss_cons (ps_set (i := 2) nd rfl (.inl rfl) (pe_ix ix_list (pe_ix ix_list (pv 0) pe_int (fun _ _ => rfl)) (pe_ix ix_list (pv 0) pe_int (fun _ _ => rfl)) (fun _ _ => rfl)))
        (pss_cons (ps_asg (pe_op op_add (pe_ix ix_list (pv 0) pe_int (fun _ _ => rfl)) pe_int) (pg_sub (pv 0) pe_int set_list))
        (pss_cons (ps_asg (pe_op op_mod (pe_callTy call_int1 (by rfl) B.int (by decide +kernel) (pa_cons (pe_op op_add (pe_op op_add (pe_op op_mul (pe_ix ix_list (pv 0) pe_int (fun _ _ => rfl)) pe_int) (pv 2)) pe_int) pa_nil)) pe_int) (pg_sub (pv 0) pe_int set_list))
        (pss_one (ps_if (pt_cmpR op_ge (pv 2) (pe_op op_pow pe_int pe_int) (nomark _)) (pss_one (ps_asg (pv 2) (pg_sub (pv 0) pe_int set_list))) pss_nil))))) pss_nil)
      (pss_cons (ps_if (pt_cmpR op_gt (pe_ix ix_list (pv 0) pe_int (fun _ _ => rfl)) pe_int (nomark _))
        (pss_cons (ps_set (i := 3) nd rfl (.inl rfl) (pe_op op_mod (pe_callTy call_int1 (by rfl) B.int (by decide +kernel) (pa_cons (pe_ix ix_list (pv 0) pe_int (fun _ _ => rfl)) pa_nil)) (pv 1)))
        (pss_cons (ps_asg (pe_op op_fdiv (pe_ix ix_list (pv 0) pe_int (fun _ _ => rfl)) (pv 1)) (pg_sub (pv 0) pe_int set_list))
        (pss_one (ps_ret (pv 3))))) pss_nil)
      (pss_cons (ps_asg (pe_op op_add (pe_ix ix_list (pv 0) pe_int (fun _ _ => rfl)) pe_int) (pg_sub (pv 0) pe_int set_list))
      (pss_cons (ps_set (i := 4) nd rfl (.inl rfl) (pe_op op_mod (pe_callTy call_int1 (by rfl) B.int (by decide +kernel) (pa_cons (pe_op op_mul (pe_callTy call_int1 (by rfl) B.int (by decide +kernel) (pa_cons (pe_op op_add (pe_ix ix_list (pv 0) pe_int (fun _ _ => rfl)) (pe_op op_mul pe_int (pe_ix ix_list (pv 0) pe_int (fun _ _ => rfl)))) pa_nil)) pe_int) pa_nil)) pe_int))
      (pss_cons (ps_set (i := 4) nd rfl (.inl rfl) (pe_op op_mod (pe_callTy call_int1 (by rfl) B.int (by decide +kernel) (pa_cons (pe_op op_mul (pv 4) (pe_op op_add (pe_op op_fdiv (pv 4) pe_int) pe_int)) pa_nil)) pe_int))
      (pss_cons (ps_set (i := 4) nd rfl (.inl rfl) (pe_op op_mod (pe_callTy call_int1 (by rfl) B.int (by decide +kernel) (pa_cons (pe_op op_mul (pv 4) (pe_op op_add (pe_op op_fdiv (pv 4) pe_int) pe_int)) pa_nil)) pe_int))
      (pss_one (ps_ret (pe_op op_mod (pe_callTy call_int1 (by rfl) B.int (by decide +kernel) (pa_cons (pe_op op_fdiv (pv 4) pe_int) pa_nil)) (pv 1))))))))), ?_⟩
    -- the first if
    have upd2 : ∀ (G : Hp) (o o' : HO), upd (upd G h o) h o' = upd G h o' := fun G o o' => upd_upd
    have nca : ∀ (o : HO), (upd H h o) ca = some (.lst (ns.map nV)) := fun o => by rw [upd_ne nch]; exact hca
    refine ⟨fun σ' H' => ∃ (y2 : Option V) (i c : Nat) (x : Int), σ' = [some (.ref h), some (nV m), y2, none, none] ∧ But h H H' ∧ H' h = some (.lst (hd ca i c x k)) ∧ H' ca = some (.lst (ns.map nV)), ?_, ?_⟩
    · refine ⟨_, rfl, h, _, _, _, rfl, rfl, SqL.of hh, rfl, rfl, _, rfl, ?_⟩
      by_cases hc0 : c = 0
      · subst hc0
        refine iteT ⟨_, rfl, h, _, _, _, rfl, rfl, SqL.of hh, rfl, _, rfl, h, _, _, _, rfl, rfl, SqL.of hh, rfl, ca, _, rfl, .inl (SqL.of hca), _, _, rfl, rfl, _, rfl, ?_⟩
        by_cases hi : i < ns.length
        · have hdec : decide (((i : Nat) : Int) < (((ns.map nV).length : Nat) : Int)) = true := decide_eq_true (by rw [List.length_map]; omega)
          refine (show (if decide (((i : Nat) : Int) < (((ns.map nV).length : Nat) : Int)) = true then _ else _) from ?_)
          rw [hdec]
          refine iteT ?_
          refine ⟨_, rfl, h, _, _, _, rfl, rfl, SqL.of hh, rfl, _, rfl, h, _, _, _, rfl, rfl, SqL.of hh, rfl, ca, _, _, nV (ns.getD i 0), rfl, rfl, SqL.of hca, atI_nat (nv_get hi), ?_⟩
          refine ⟨_, rfl, h, _, _, _, rfl, rfl, SqL.of hh, rfl, _, _, rfl, rfl, _, rfl, h, _, _, _, rfl, rfl, hh, rfl, ?_⟩
          refine ⟨_, rfl, h, _, _, _, rfl, rfl, SqL.of upd_same, rfl, _, _, rfl, rfl, .inr ⟨by decide, by decide⟩, _, rfl, _, _, rfl, rfl, _, _, rfl, rfl, .inl ⟨_, rfl, _, _, rfl, rfl, (by decide : (0 : Int) < 2147483629), _, rfl, h, _, _, _, rfl, rfl, upd_same, rfl, ?_⟩⟩
          rw [upd2]
          refine ⟨_, rfl, _, _, rfl, rfl, ⟨by decide, by decide, by decide⟩, _, _, rfl, rfl, _, rfl, ?_⟩
          by_cases hb : (10 : Int) ^ (18 : Int).toNat ≤ ((ns.getD i 0 : Nat) : Int)
          · refine (show (if decide ((10 : Int) ^ (18 : Int).toNat ≤ ((ns.getD i 0 : Nat) : Int)) = true then _ else _) from ?_)
            rw [decide_eq_true hb]
            refine iteT ⟨_, rfl, _, rfl, h, _, _, _, rfl, rfl, upd_same, rfl, ?_⟩
            rw [upd2]
            exact ⟨_, i + 1, ns.getD i 0, _, rfl, But.upd, upd_same, nca _⟩
          · refine (show (if decide ((10 : Int) ^ (18 : Int).toNat ≤ ((ns.getD i 0 : Nat) : Int)) = true then _ else _) from ?_)
            rw [decide_eq_false hb]
            exact iteF ⟨_, i + 1, 0, _, rfl, But.upd, upd_same, nca _⟩
        · have hdec : decide (((i : Nat) : Int) < (((ns.map nV).length : Nat) : Int)) = false := decide_eq_false (by rw [List.length_map]; omega)
          refine (show (if decide (((i : Nat) : Int) < (((ns.map nV).length : Nat) : Int)) = true then _ else _) from ?_)
          rw [hdec]
          exact iteF ⟨none, i, 0, x, rfl, But.refl _ _, hh, hca⟩
      · have hne : decide (nV c = V.int 0) = false := decide_eq_false fun e => hc0 (by injection e with e; omega)
        rw [hne]
        exact iteF ⟨none, i, c, x, rfl, But.refl _ _, hh, hca⟩
    · rintro σ' H1 ⟨y2, i, c, x, rfl, b1, h1, a1⟩
      refine ⟨_, rfl, h, _, _, _, rfl, rfl, SqL.of h1, rfl, _, _, rfl, rfl, _, rfl, ?_⟩
      have nca1 : ∀ (o : HO), (upd H1 h o) ca = some (.lst (ns.map nV)) := fun o => by rw [upd_ne nch]; exact a1
      by_cases hc0 : 0 < c
      · refine (show (if decide ((0 : Int) < ((c : Nat) : Int)) = true then _ else _) from ?_)
        rw [decide_eq_true (show (0 : Int) < ((c : Nat) : Int) by omega)]
        obtain ⟨d, hd1, hd2⟩ := mod_nV (c : Int) hm
        refine iteT ⟨_, rfl, h, _, _, _, rfl, rfl, SqL.of h1, rfl, .inl ⟨_, rfl, _, rfl, _, _, rfl, rfl, by omega, ?_⟩⟩
        refine ⟨_, rfl, h, _, _, _, rfl, rfl, SqL.of h1, rfl, _, rfl, _, _, rfl, rfl, ⟨by omega, by omega⟩, _, rfl, h, _, _, _, rfl, rfl, h1, rfl, ?_⟩
        refine ⟨_, rfl, ?_⟩
        dsimp only
        rw [hd2]
        refine q _ d hd1 (b1.trans But.upd) ⟨ns, i, c / m, x, k, ?_, nca1 _, nch⟩
        rw [upd_same]
        rfl
      · refine (show (if decide ((0 : Int) < ((c : Nat) : Int)) = true then _ else _) from ?_)
        rw [decide_eq_false (show ¬ (0 : Int) < ((c : Nat) : Int) by omega)]
        refine iteF ?_
        refine ⟨_, rfl, h, _, _, _, rfl, rfl, SqL.of h1, rfl, _, _, rfl, rfl, _, rfl, h, _, _, _, rfl, rfl, h1, rfl, ?_⟩
        generalize hH2 : upd H1 h _ = H2
        have h2 : H2 h = some (.lst (hd ca i c x (k + 1))) := by rw [← hH2, upd_same]; rfl
        have b2 : But h H H2 := by rw [← hH2]; exact b1.trans But.upd
        have a2 : H2 ca = some (.lst (ns.map nV)) := by rw [← hH2]; exact nca1 _
        refine ⟨_, rfl, h, _, _, _, rfl, rfl, SqL.of h2, rfl, _, rfl, h, _, _, _, rfl, rfl, SqL.of h2, rfl, _, _, rfl, rfl, .inl ⟨by decide, by decide⟩, _, _, rfl, rfl, .inl ⟨_, rfl, _, _, rfl, rfl, .inr ⟨by decide, by decide⟩, .inl ⟨_, rfl, _, _, rfl, rfl, (by decide : (0 : Int) < 2147483647), ?_⟩⟩⟩
        dsimp only
        generalize hn1 : (x + 7919 * (k + 1)) * 48271 % 2147483647 = n1
        have n1a : 0 ≤ n1 := by rw [← hn1]; exact Int.emod_nonneg _ (by decide)
        have n1b : n1 < 2147483647 := by rw [← hn1]; exact Int.emod_lt_of_pos _ (by decide)
        refine ⟨_, rfl, _, rfl, _, _, rfl, rfl, ⟨by decide, by decide⟩, _, _, rfl, rfl, _, _, rfl, rfl, .inl ⟨by omega, by omega⟩, .inl ⟨_, rfl, _, _, rfl, rfl, (by decide : (0 : Int) < 2147483647), ?_⟩⟩
        dsimp only
        generalize hn2 : n1 * (n1 / 1009 + 69621) % 2147483647 = n2
        have n2a : 0 ≤ n2 := by rw [← hn2]; exact Int.emod_nonneg _ (by decide)
        have n2b : n2 < 2147483647 := by rw [← hn2]; exact Int.emod_lt_of_pos _ (by decide)
        refine ⟨_, rfl, _, rfl, _, _, rfl, rfl, ⟨by decide, by decide⟩, _, _, rfl, rfl, _, _, rfl, rfl, .inl ⟨by omega, by omega⟩, .inl ⟨_, rfl, _, _, rfl, rfl, (by decide : (0 : Int) < 2147483399), ?_⟩⟩
        dsimp only
        generalize hn3 : n2 * (n2 / 2003 + 40692) % 2147483399 = n3
        obtain ⟨d, hd1, hd2⟩ := mod_nV (n3 / 16) hm
        refine ⟨_, rfl, _, _, rfl, rfl, ⟨by decide, by decide⟩, .inl ⟨_, rfl, _, rfl, _, _, rfl, rfl, by omega, ?_⟩⟩
        dsimp only
        rw [hd2]
        exact q _ d hd1 b2 ⟨ns, i, c, x, k + 1, h2, a2, nch⟩
end
end N18
end
section
set_option Elab.async false
set_option linter.all false
set_option maxRecDepth 100000
set_option maxHeartbeats 4000000
namespace N18
open PySem PySem.Spec PyProof.Rows L2 TL PySem.W
theorem cutS_to (l : List Nat) (d : Nat) : cutS (tx l) none (some (d : Int)) = tx (l.take d) := by
  unfold cutS
  rw [HT.sIx_none, show HT.sIx (tx l).length (tx l).length (some (d : Int)) = min d (tx l).length from HT.sIx_nat _ _ d]
  show tx (List.take (min d (tx l).length - 0) (List.drop 0 (tl (tx l)))) = _
  rw [tl_tx, List.drop_zero, Nat.sub_zero, tx_len]
  by_cases h : d ≤ l.length
  · rw [Nat.min_eq_left h]
  · rw [Nat.min_eq_right (by omega), List.take_length, List.take_of_length_le (by omega)]
theorem cutS_from (l : List Nat) (d : Nat) : cutS (tx l) (some (d : Int)) none = tx (l.drop d) := by
  unfold cutS
  rw [HT.sIx_none, show HT.sIx (tx l).length 0 (some (d : Int)) = min d (tx l).length from HT.sIx_nat _ _ d]
  show tx (List.take ((tx l).length - min d (tx l).length) (List.drop (min d (tx l).length) (tl (tx l)))) = _
  rw [tl_tx, tx_len]
  by_cases h : d ≤ l.length
  · rw [Nat.min_eq_left h, List.take_of_length_le (by rw [List.length_drop]; exact Nat.le_refl _)]
  · rw [Nat.min_eq_right (by omega), List.drop_length, List.drop_of_length_le (by omega), List.take_nil]
theorem perm_pull (l : List Nat) {d : Nat} (h : d < l.length) : (l[d] :: (l.take d ++ l.drop (d + 1))).Perm l := by
  have e : l = l.take d ++ l[d] :: l.drop (d + 1) := by
    rw [← List.drop_eq_getElem_cons h, List.take_append_drop]
  have := (List.perm_middle (a := l[d]) (l₁ := l.take d) (l₂ := l.drop (d + 1))).symm
  exact this.trans (by rw [← e])
theorem atI_str {l : List Nat} {d : Nat} (h : d < l.length) : atI (tx l).cps.toList ((d : Nat) : Int) = some l[d] := by
  show atI (tl (tx l)) _ = _
  rw [tl_tx]
  exact atI_nat (List.getElem?_eq_getElem h)
theorem sign_tx (c : Nat) : V.str (⟨#[c]⟩ : Str) = tV [c] := rfl
section
variable {P : Program} {w : World} {K : PySem.W.Frag} {mg : Str → Option Value} {base : Heap}
/-! ### letters -/
def spLetters : Sp := fun vs H Q _ => ∃ (h ca : Addr) (l : List Nat) (m : Nat), vs = [.ref h, tV l, nV m] ∧ l.Nodup ∧ m ≤ l.length ∧ l.length ≤ 100 ∧ HandAt H h ca ∧
  ∀ (H' : Hp) (fnd : List Nat), But h H H' → HandAt H' h ca → fnd.length = m → fnd.Nodup → (∀ c ∈ fnd, c ∈ l) → Q (tV fnd) H'
theorem scLetters : FnScope ["_law_hand_here", "_law_signs", "_law_many", "_law_rest", "_law_found", "_law_turn", "_law_at"] ["_law_hand_here", "_law_signs", "_law_many"] (defScope sLetters) := ⟨rfl, rfl, rfl, by decide +kernel, rfl, by decide +kernel, by decide +kernel⟩
theorem ok_letters {f : Addr} {fd : FuncData} (F : Fun K "_law_letters" "_law_letters" sLetters f fd) (B : Bt mg) (c1 : Cal P w K mg base "_law_draw" 1 ["_law_hand_here", "_law_many"] spDraw) : FnOk P w K mg base CX0 2 f fd ["_law_hand_here", "_law_signs", "_law_many"] spLetters := by
  obtain ⟨g, gd, G, mG, kG, bG⟩ := c1
  refine F.ok scLetters (fun vs H Q E h => ?_) (fun cdv A outer s H vs Q E hr h => ?_)
  · obtain ⟨h, ca, l, m, rfl, _⟩ := h
    rfl
  · obtain ⟨h, ca, l, m, rfl, hnd, hm, hl, hh, q⟩ := h
    have nd := scLetters.nd
    refine ⟨_, pss_cons (ps_set (i := 3) nd rfl (.inl rfl) (pv 1))
      (pss_cons (ps_set (i := 4) nd rfl (.inl rfl) pe_str)
      (pss_cons (ps_for PassesOwn.never rfl (pi_range1 (by rfl) B.range (pa_cons (pv 2) pa_nil)) (pg_name (i := 5) nd rfl (.inl rfl))
        (pss_cons (ps_set (i := 6) nd rfl (.inl rfl) (pe_call G hr (by rfl) mG kG bG .nil pass0 (pa_cons (pv 0) (pa_cons (pe_callB call_len_str (by rfl) B.len PySem.boot_len (pa_cons (pv 3) pa_nil)) pa_nil))))
        (pss_cons (ps_set (i := 4) nd rfl (.inl rfl) (pe_op op_add_str (pv 4) (pe_ix ix_str (pv 3) (pv 6) (fun _ _ => rfl))))
        (pss_one (ps_set (i := 3) nd rfl (.inl rfl) (pe_op op_add_str (pe_slice sl_str (pv 3) po_none (po_some (pv 6))) (pe_slice sl_str (pv 3) (po_some (pe_op op_add (pv 6) pe_int)) po_none)))))))
      (pss_one (ps_ret (pv 4))))), ?_⟩
    refine ⟨_, rfl, ?_⟩
    refine ⟨_, rfl, ((m : Nat) : Int), rfl, by omega, by omega, ?_⟩
    refine for_it (walk_range (lo := 0) (n := m)) (fun i σ H' => ∃ (y5 y6 : Option V) (rest fnd : List Nat), σ = [some (.ref h), some (tV l), some (nV m), some (tV rest), some (tV fnd), y5, y6] ∧ But h H H' ∧ HandAt H' h ca ∧ fnd.length = i ∧ (fnd ++ rest).Perm l)
      ⟨none, none, l, [], rfl, But.refl _ _, hh, rfl, List.Perm.refl _⟩ (fun _ _ _ _ _ => trivial) ?_ ?_
    · rintro i v σ H1 H1' hi ⟨y5, y6, rest, fnd, rfl, b1, h1, fl, pm⟩ ⟨rfl, hv⟩
      have plen := pm.length_eq
      rw [List.length_append] at plen
      have small : ∀ n, n ≤ 200 → n ≤ sizeLine := fun n h => Nat.le_of_lt (small1000 (by omega))
      refine ⟨_, rfl, _, rfl, tx rest, rfl, small _ (by rw [tx_len]; omega), h, ca, rest.length, by rw [tx_len]; rfl, by omega, by omega, h1, fun H2 d hd b2 h2 => ?_⟩
      refine ⟨_, rfl, _, rfl, _, rfl, tx rest, ((d : Nat) : Int), rest[d], rfl, rfl, small _ (by rw [tx_len]; omega), atI_str hd, _, _, rfl, rfl, ?_, ?_⟩
      · rw [← tx_one, tx_len, tx_len]
        exact small _ (by show fnd.length + 1 ≤ 200; omega)
      refine ⟨_, rfl, _, rfl, _, rfl, tx rest, rfl, small _ (by rw [tx_len]; omega), _, rfl, _, rfl, _, _, rfl, rfl, _, rfl, tx rest, rfl, small _ (by rw [tx_len]; omega), _, _, rfl, rfl, ?_, ?_⟩
      · rw [cutS_to, show ((d : Nat) : Int) + 1 = ((d + 1 : Nat) : Int) by omega, cutS_from, tx_len, tx_len, List.length_take, List.length_drop]
        exact small _ (by omega)
      refine ⟨some v, some (nV d), rest.take d ++ rest.drop (d + 1), fnd ++ [rest[d]], ?_, b1.trans b2, h2, by rw [List.length_append, fl]; rfl, ?_⟩
      · rw [cutS_to, show ((d : Nat) : Int) + 1 = ((d + 1 : Nat) : Int) by omega, cutS_from, tx_app, ← tx_one, tx_app]
        rfl
      · rw [List.append_assoc]
        exact (List.Perm.append_left fnd (perm_pull rest hd)).trans pm
    · rintro σ H1 ⟨y5, y6, rest, fnd, rfl, b1, h1, fl, pm⟩
      have nd2 : (fnd ++ rest).Nodup := pm.nodup_iff.mpr hnd
      exact ⟨_, rfl, q H1 fnd b1 h1 fl (List.nodup_append.mp nd2).1 fun c hc => pm.mem_iff.mp (List.mem_append_left _ hc)⟩
/-! ### cells -/
def spCells : Sp := fun vs H Q _ => ∃ (gl sl : List Nat), vs = [tV gl, tV sl] ∧ gl.length * sl.length ≤ 6 ∧ ∀ (H' : Hp) (a : Addr), Same H H' → H a = none → H' a = some (.lst ((cellsL gl sl).map tV)) → Q (.ref a) H'
abbrev nCells : List Str := ["_law_given", "_law_said", "_law_cells_here", "_law_letter", "_law_word_here"]
theorem scCells : FnScope nCells ["_law_given", "_law_said"] (defScope sCells) := ⟨rfl, rfl, rfl, by decide +kernel, rfl, by decide +kernel, by decide +kernel⟩
theorem ok_cells {f : Addr} {fd : FuncData} (F : Fun K "_law_cells" "_law_cells" sCells f fd) : FnOk P w K mg base CX0 1 f fd ["_law_given", "_law_said"] spCells := by
  refine F.ok scCells (fun vs H Q E h => ?_) (fun cdv A outer s H vs Q E hr h => ?_)
  · obtain ⟨gl, sl, rfl, _⟩ := h
    rfl
  · obtain ⟨gl, sl, rfl, hn, q⟩ := h
    have nd := scCells.nd
    refine ⟨_, pss_cons (ps_set (i := 2) nd rfl (.inl rfl) (pe_lst pa_nil))
      (pss_cons (ps_for PassesOwn.never rfl (pi_str (pv 0)) (pg_name (i := 3) nd rfl (.inr rfl))
        (pss_one (ps_set (i := 2) nd rfl (.inl rfl) (pe_op op_cat (pv 2) (pe_lc (own := [("_law_word_here", 4)]) (g := gName 4) (tt := tYes) rfl nd (pi_str (pv 1)) (blkOk_by (N := nCells) (sc := defScope sCells) (by decide +kernel)) (fun _ _ _ _ _ => pg_name (i := 4) nd rfl (.inl rfl)) (fun _ _ _ _ _ => pts_nil) (fun _ _ _ _ _ => pe_op op_add_str (pv 3) (pv 4)))))))
      (pss_one (ps_ret (pv 2)))), ?_⟩
    refine ⟨Nat.zero_le _, fun l0 hl0 => ?_⟩
    refine ⟨_, rfl, tx gl, rfl, for_it walk_str (fun i σ H' => ∃ (y3 : Option V) (a : Addr), σ = [some (tV gl), some (tV sl), some (.ref a), y3, none] ∧ Same H H' ∧ H a = none ∧ H' a = some (.lst ((cellsTo gl sl i).map tV))) ⟨none, l0, rfl, same_upd hl0, hl0, upd_same⟩ (fun _ _ _ _ _ => trivial) ?_ ?_⟩
    · rintro i v σ H1 H1' hi ⟨y3, a, rfl, s1, ha0, ha⟩ ⟨rfl, c, hc, rfl⟩
      rw [tx_cps] at hc
      refine ⟨_, rfl, _, rfl, tx sl, rfl, fun D hD => ?_⟩
      have hl := cellsTo_len gl sl i
      have hl1 := cellsTo_len gl sl (i + 1)
      rw [cellsTo_succ hc, List.length_append, List.length_map] at hl1
      refine lc_it walk_str (fun j H' => Same H1' H' ∧ H' D = some (.lst ((sl.take j).map fun d => tV [c, d]))) ⟨same_upd hD, upd_same⟩ (fun _ _ _ _ => trivial) ?_ ?_
      · rintro j v H2 H2' hj ⟨s2, e2⟩ ⟨rfl, d, hd, rfl⟩
        rw [tx_cps] at hd
        refine ⟨rfl, ?_⟩
        refine ⟨_, rfl, _, rfl, _, _, rfl, rfl, by rw [← tx_one, ← tx_one, tx_len, tx_len]; exact (by decide : 2 ≤ sizeLine), _, e2, ?_, s2.put hD, ?_⟩
        · rw [List.length_map, List.length_take]
          exact small1000 (by omega)
        · rw [upd_same, take_snoc hd, List.map_append, ← tx_one, ← tx_one, tx_app]
          rfl
      rintro H2 ⟨s2, e2⟩
      rw [tx_size, List.take_length] at e2
      refine ⟨a, D, _, _, rfl, rfl, s2 _ _ ha, e2, ?_, fun p hp => ?_⟩
      · rw [List.length_map, List.length_map]
        exact Nat.le_of_lt (small1000 (by omega))
      refine ⟨_, p, rfl, (s1.trans s2).trans (same_upd hp), (s1.trans s2).free hp, ?_⟩
      rw [upd_same, cellsTo_succ hc, List.map_append, List.map_map]
      rfl
    · rintro σ H1 ⟨y3, a, rfl, s1, ha0, ha⟩
      rw [tx_size, cellsTo_all] at ha
      exact ⟨_, rfl, q H1 a s1 ha0 ha⟩
/-! ### known -/
def spKnown (K : PySem.W.Frag) : Sp := fun vs H Q _ => ∃ (a : Addr) (ps : List (List Nat)), vs = [.ref a] ∧ Sq K H a (ps.map tV) ∧ ps.Nodup ∧ ps.length ≤ 100 ∧ ∀ (H' : Hp) (d : Addr), Same H H' → H d = none → H' d = some (.dK (trueK (ps.map tkK))) → Q (.ref d) H'
theorem scKnown : FnScope ["_law_pairs_here", "_law_known_here", "_law_pair"] ["_law_pairs_here"] (defScope sKnown) := ⟨rfl, rfl, rfl, by decide +kernel, rfl, by decide +kernel, by decide +kernel⟩
theorem ok_known {f : Addr} {fd : FuncData} (F : Fun K "_law_known" "_law_known" sKnown f fd) : FnOk P w K mg base CX0 1 f fd ["_law_pairs_here"] (spKnown K) := by
  refine F.ok scKnown (fun vs H Q E h => ?_) (fun cdv A outer s H vs Q E hr h => ?_)
  · obtain ⟨a, ps, rfl, _⟩ := h
    rfl
  · obtain ⟨a, ps, rfl, ha, hnd, hl, q⟩ := h
    have hu := hu_of hr
    have nd := scKnown.nd
    refine ⟨_, pss_cons (ps_set (i := 1) nd rfl (.inl rfl) pe_dnewK)
      (pss_cons (ps_for PassesOwn.never rfl (pi_seq (pv 0)) (pg_name (i := 2) nd rfl (.inl rfl)) (pss_one (ps_dput hu (pv 1) (pv 2) pe_bl rfl)))
      (pss_one (ps_ret (pv 1)))), ?_⟩
    intro d hd
    have s1 : Same H (upd H d (.dK [])) := same_upd hd
    have step : ∀ (i : Nat) (H' : Hp) (v : V), i < (ps.map tV).length → Same H H' → H' d = some (.dK (trueK ((ps.take i).map tkK))) → (ps.map tV)[i]? = some v →
        ∃ H2, DPut H' d v (.bl true) H2 ∧ Same H H2 ∧ H2 d = some (.dK (trueK ((ps.take (i + 1)).map tkK))) := by
      intro i H' v hi s2 h2 hv
      rw [List.length_map] at hi
      rw [List.getElem?_map, List.getElem?_eq_getElem hi] at hv
      have hv := Option.some.inj hv
      subst hv
      generalize hp : ps[i] = p at *
      have hget : ps[i]? = some p := by rw [List.getElem?_eq_getElem hi, hp]
      have hnew : tkK p ∉ (ps.take i).map tkK := by
        rw [tkK_mem]
        intro h
        obtain ⟨j, hj⟩ := List.getElem?_of_mem h
        have hji : j < i := by
          have := (List.getElem?_eq_some_iff.mp hj).1
          rw [List.length_take] at this
          omega
        rw [List.getElem?_take_of_lt hji] at hj
        have := nd_get hnd hj hget
        omega
      have dp := DPut.k (k := tkK p) (v := .bl true) h2 (by rw [trueK_len, List.length_map, List.length_take]; exact small1000 (by omega))
      rw [trueK_put hnew] at dp
      refine ⟨_, dp, s2.put hd, ?_⟩
      rw [upd_same, take_snoc hget, List.map_append]
      rfl
    refine ⟨_, rfl, a, rfl, ?_⟩
    rcases ha with h | h
    all_goals
      first
      | refine .inl ⟨⟨_, s1.seq (SqL.of h)⟩, for_it (walk_list (xs := ps.map tV)) (fun i σ H' => ∃ (y2 : Option V), σ = [some (.ref a), some (.ref d), y2] ∧ Same H H' ∧ H' d = some (.dK (trueK ((ps.take i).map tkK)))) ⟨none, rfl, s1, upd_same⟩ ?_ ?_ ?_⟩
      | refine .inr ⟨⟨_, s1.sqT h⟩, for_it (walk_tup (xs := ps.map tV)) (fun i σ H' => ∃ (y2 : Option V), σ = [some (.ref a), some (.ref d), y2] ∧ Same H H' ∧ H' d = some (.dK (trueK ((ps.take i).map tkK)))) ⟨none, rfl, s1, upd_same⟩ ?_ ?_ ?_⟩
      · rintro i σ H' hi ⟨y2, rfl, s2, hf⟩
        first
        | exact s2.seq (SqL.of h)
        | exact s2.sqT h
      · rintro i v σ H1 H2 hi ⟨y2, rfl, s2, hf⟩ ⟨rfl, hv⟩
        obtain ⟨H3, dp, s3, h3⟩ := step i H2 v hi s2 hf hv
        exact ⟨_, rfl, _, rfl, d, _, rfl, dp, _, rfl, s3, h3⟩
      · rintro σ H1 ⟨y2, rfl, s2, hf⟩
        rw [List.length_map, List.take_length] at hf
        exact ⟨_, rfl, q _ d s2 hd hf⟩
/-! ### word -/
def spWord : Sp := fun vs H Q _ => ∃ (h ca : Addr) (I : Inst) (m : Nat), vs = [.ref h, tV I.gl, nV m] ∧ I.Ok ∧ m ≤ 100 ∧ HandAt H h ca ∧
  ∀ (H' : Hp) (wd : List Nat), But h H H' → HandAt H' h ca → wd.length = m → K18.Wd I.k wd → Q (tV (wordL I wd)) H'
theorem scWord : FnScope ["_law_hand_here", "_law_given", "_law_many", "_law_word_here", "_law_turn"] ["_law_hand_here", "_law_given", "_law_many"] (defScope sWord) := ⟨rfl, rfl, rfl, by decide +kernel, rfl, by decide +kernel, by decide +kernel⟩
theorem ok_word {f : Addr} {fd : FuncData} (F : Fun K "_law_word" "_law_word" sWord f fd) (B : Bt mg) (c1 : Cal P w K mg base "_law_draw" 1 ["_law_hand_here", "_law_many"] spDraw) : FnOk P w K mg base CX0 2 f fd ["_law_hand_here", "_law_given", "_law_many"] spWord := by
  obtain ⟨g, gd, G, mG, kG, bG⟩ := c1
  refine F.ok scWord (fun vs H Q E h => ?_) (fun cdv A outer s H vs Q E hr h => ?_)
  · obtain ⟨h, ca, I, m, rfl, _⟩ := h
    rfl
  · obtain ⟨h, ca, I, m, rfl, ok, hm, hh, q⟩ := h
    have nd := scWord.nd
    refine ⟨_, pss_cons (ps_set (i := 3) nd rfl (.inl rfl) pe_str)
      (pss_cons (ps_for PassesOwn.never rfl (pi_range1 (by rfl) B.range (pa_cons (pv 2) pa_nil)) (pg_name (i := 4) nd rfl (.inl rfl))
        (pss_one (ps_set (i := 3) nd rfl (.inl rfl) (pe_op op_add_str (pv 3) (pe_ix ix_str (pv 1) (pe_call G hr (by rfl) mG kG bG .nil pass0 (pa_cons (pv 0) (pa_cons (pe_callB call_len_str (by rfl) B.len PySem.boot_len (pa_cons (pv 1) pa_nil)) pa_nil))) (fun _ _ => rfl))))))
      (pss_one (ps_ret (pv 3)))), ?_⟩
    have k3 := ok.k3
    have gk := ok.gk
    have k1 := ok.k1
    have small : ∀ n, n ≤ 200 → n ≤ sizeLine := fun n h => Nat.le_of_lt (small1000 (by omega))
    refine ⟨_, rfl, ((m : Nat) : Int), rfl, by omega, by omega, ?_⟩
    refine for_it (walk_range (lo := 0) (n := m)) (fun i σ H' => ∃ (y4 : Option V) (wd : List Nat), σ = [some (.ref h), some (tV I.gl), some (nV m), some (tV (wordL I wd)), y4] ∧ But h H H' ∧ HandAt H' h ca ∧ wd.length = i ∧ K18.Wd I.k wd)
      ⟨none, [], rfl, But.refl _ _, hh, rfl, fun x hx => (nomatch hx)⟩ (fun _ _ _ _ _ => trivial) ?_ ?_
    · rintro i v σ H1 H1' hi ⟨y4, wd, rfl, b1, h1, wl, hw⟩ ⟨rfl, hv⟩
      refine ⟨_, rfl, _, rfl, _, rfl, _, rfl, tx I.gl, rfl, small _ (by rw [tx_len]; omega), h, ca, I.gl.length, by rw [tx_len]; rfl, by omega, by omega, h1, fun H2 d hd b2 h2 => ?_⟩
      refine ⟨tx I.gl, ((d : Nat) : Int), I.gl[d], rfl, rfl, small _ (by rw [tx_len]; omega), atI_str hd, _, _, rfl, rfl, ?_, ?_⟩
      · rw [← tx_one, tx_len, tx_len, wordL_len]
        exact small _ (by show wd.length + 1 ≤ 200; omega)
      refine ⟨some v, wd ++ [d], ?_, b1.trans b2, h2, by rw [List.length_append, wl]; rfl, fun x hx => ?_⟩
      · have e : I.gl.getD d 0 = I.gl[d] := by rw [List.getD_eq_getElem?_getD, List.getElem?_eq_getElem hd]; rfl
        rw [wordL_snoc, e, ← tx_one, tx_app]
        rfl
      · rcases List.mem_append.mp hx with h' | h'
        · exact hw x h'
        · rw [List.mem_singleton.mp h', ← gk]
          exact hd
    · rintro σ H1 ⟨y4, wd, rfl, b1, h1, wl, hw⟩
      exact ⟨_, rfl, q H1 wd b1 h1 wl hw⟩
end
end N18
end
section
set_option Elab.async false
set_option linter.all false
set_option maxRecDepth 100000
set_option maxHeartbeats 4000000
namespace N18
open PySem PySem.Spec PyProof.Rows L2 TL PySem.W
theorem atI_last {l : List Nat} (h : 0 < l.length) : ∃ c, atI (tx l).cps.toList (-1) = some c := by
  refine ⟨l[l.length - 1], ?_⟩
  show atI (tl (tx l)) _ = _
  rw [tl_tx]
  unfold atI ixN
  rw [if_neg (by decide), if_pos (by omega)]
  show l[((-1 : Int) + (l.length : Int)).toNat]? = _
  rw [show ((-1 : Int) + (l.length : Int)).toNat = l.length - 1 by omega]
  exact List.getElem?_eq_getElem (by omega)
section
variable {P : Program} {w : World} {K : PySem.W.Frag} {mg : Str → Option Value} {base : Heap}
/-! ### fits -/
def spFits : Sp := fun vs H Q _ => ∃ (k : Nat) (gl sl : List Nat) (a b c d : Nat), vs = [nV k, tV gl, tV sl, tV [a, b], tV [c, d]] ∧ 0 < gl.length ∧ gl.length ≤ 100 ∧ 0 < sl.length ∧ sl.length ≤ 100 ∧ ∀ (H' : Hp) (r : Bool), Same H H' → Q (.bl r) H'
abbrev nFits : List Str := ["_law_kind", "_law_given", "_law_said", "_law_one", "_law_other", "_law_first", "_law_second", "_law_last", "_law_ends"]
theorem scFits : FnScope nFits ["_law_kind", "_law_given", "_law_said", "_law_one", "_law_other"] (defScope sFits) := ⟨rfl, rfl, rfl, by decide +kernel, rfl, by decide +kernel, by decide +kernel⟩
theorem ok_fits {f : Addr} {fd : FuncData} (F : Fun K "_law_fits" "_law_fits" sFits f fd) (B : Bt mg) : FnOk P w K mg base CX0 1 f fd ["_law_kind", "_law_given", "_law_said", "_law_one", "_law_other"] spFits := by
  refine F.ok scFits (fun vs H Q E h => ?_) (fun cdv A outer s H vs Q E hr h => ?_)
  · obtain ⟨k, gl, sl, a, b, c, d, rfl, _⟩ := h
    rfl
  · obtain ⟨k, gl, sl, a, b, c, d, rfl, g0, g1, s0, s1, q⟩ := h
    have nd := scFits.nd
    refine ⟨_, pss_cons (ps_set (i := 5) nd rfl (.inl rfl) (pe_m1 PySem.F.slot_str_find PySem.F.type_str_find mt_find (pv 2) (pe_ix ix_str (pv 3) pe_int (fun _ _ => rfl))))
      (pss_cons (ps_set (i := 6) nd rfl (.inl rfl) (pe_m1 PySem.F.slot_str_find PySem.F.type_str_find mt_find (pv 2) (pe_ix ix_str (pv 4) pe_int (fun _ _ => rfl))))
      (pss_cons (ps_set (i := 7) nd rfl (.inl rfl) (pe_op op_sub (pe_callB call_len_str (by rfl) B.len PySem.boot_len (pa_cons (pv 2) pa_nil)) pe_int))
      (pss_cons (ps_if (pt_cmpR op_eq (pv 0) pe_int (nomark _)) (pss_one (ps_ret (pe_or (pe_cmpR op_eq (pv 6) (pv 5) (nomark _)) (pe_one (pe_cmpR op_eq (pv 6) (pe_op op_mod (pe_callTy call_int1 (by rfl) B.int (by decide +kernel) (pa_cons (pe_op op_add (pv 5) pe_int) pa_nil)) (pe_callB call_len_str (by rfl) B.len PySem.boot_len (pa_cons (pv 2) pa_nil))) (nomark _)))))) pss_nil)
      (pss_cons (ps_if (pt_cmpR op_eq (pv 0) pe_int (nomark _)) (pss_one (ps_ret (pe_cmpR op_eq (pv 6) (pe_op op_mod (pe_callTy call_int1 (by rfl) B.int (by decide +kernel) (pa_cons (pe_op op_add (pv 5) pe_int) pa_nil)) (pe_callB call_len_str (by rfl) B.len PySem.boot_len (pa_cons (pv 2) pa_nil))) (nomark _)))) pss_nil)
      (pss_cons (ps_if (PW.pt (pw_or (pt_cmpR op_lt (pv 0) pe_int (nomark _)) (pw_or (pt_cmpR op_eq (pe_callB call_len_str (by rfl) B.len PySem.boot_len (pa_cons (pv 1) pa_nil)) pe_int (nomark _)) (pw_or1 (pt_cmpR op_lt (pv 7) pe_int (nomark _)))))) (pss_one (ps_ret (pe_cmpR op_ne (pv 5) (pv 6) (nomark _)))) pss_nil)
      (pss_cons (ps_set (i := 8) nd rfl (.inl rfl) (pe_lst (pa_cons (pe_cmpR op_eq (pe_ix ix_str (pv 3) pe_int (fun _ _ => rfl)) (pe_ix ix_str (pv 1) (pe_un un_neg pe_int) (fun _ _ => rfl)) (nomark _)) (pa_cons (pe_cmpR op_eq (pe_ix ix_str (pv 4) pe_int (fun _ _ => rfl)) (pe_ix ix_str (pv 1) (pe_un un_neg pe_int) (fun _ _ => rfl)) (nomark _)) pa_nil))))
      (pss_cons (ps_if (pt_cmpR (op_eqD hr.units) (pv 8) (pe_lst (pa_cons pe_bl (pa_cons pe_bl pa_nil))) (nomark _)) (pss_one (ps_ret (pe_and (pe_cmpR op_eq (pv 5) pe_int (nomark _)) (pe_one (pe_cmpR op_eq (pv 6) pe_int (nomark _)))))) pss_nil)
      (pss_cons (ps_if (pt_cmpR (op_eqD hr.units) (pv 8) (pe_lst (pa_cons pe_bl (pa_cons pe_bl pa_nil))) (nomark _)) (pss_one (ps_ret (pe_and (pe_cmpR op_eq (pv 5) pe_int (nomark _)) (pe_one (pe_cmpR op_lt (pv 6) (pv 7) (nomark _)))))) pss_nil)
      (pss_cons (ps_if (pt_cmpR (op_eqD hr.units) (pv 8) (pe_lst (pa_cons pe_bl (pa_cons pe_bl pa_nil))) (nomark _)) (pss_one (ps_ret (pe_and (pe_cmpR op_eq (pv 6) pe_int (nomark _)) (pe_one (pe_cmpR op_lt (pv 5) (pv 7) (nomark _)))))) pss_nil)
      (pss_cons (ps_if (PW.pt (pw_or (pt_cmpR op_eq (pv 5) (pv 7) (nomark _)) (pw_or1 (pt_cmpR op_eq (pv 6) (pv 7) (nomark _))))) (pss_one (ps_ret (pe_cmpR op_eq (pv 5) (pv 6) (nomark _)))) pss_nil)
      (pss_one (ps_ret (pe_cmpR op_ne (pv 5) (pv 6) (nomark _)))))))))))))), ?_⟩
    have small : ∀ n, n ≤ 200 → n ≤ sizeLine := fun n h => Nat.le_of_lt (small1000 (by omega))
    have l2 : ∀ x y : Nat, (tx [x, y]).length ≤ sizeLine := fun x y => by rw [tx_len]; exact small _ (show 2 ≤ 200 by omega)
    have ls : (tx sl).length ≤ sizeLine := by rw [tx_len]; exact small _ (by omega)
    have lg : (tx gl).length ≤ sizeLine := by rw [tx_len]; exact small _ (by omega)
    have ps : (0 : Int) < ((tx sl).length : Nat) := by rw [tx_len]; omega
    obtain ⟨cl, hcl⟩ := atI_last g0
    refine ⟨_, rfl, ⟨_, rfl⟩, _, rfl, tx [a, b], 1, b, rfl, rfl, l2 _ _, rfl, _, _, rfl, rfl, ?_⟩
    refine ⟨_, rfl, ⟨_, rfl⟩, _, rfl, tx [c, d], 1, d, rfl, rfl, l2 _ _, rfl, _, _, rfl, rfl, ?_⟩
    refine ⟨_, rfl, _, rfl, ls, _, _, rfl, rfl, ?_⟩
    dsimp only
    generalize Txt.find (tx sl) _ = x5
    generalize Txt.find (tx sl) _ = x6
    generalize (((tx sl).length : Nat) : Int) - 1 = x7
    refine ⟨_, rfl, rfl, _, rfl, ?_⟩
    refine ite2 (fun _ => ?_) fun _ => ?_
    · refine ⟨_, rfl, _, rfl, rfl, _, rfl, ?_⟩
      refine ite2 (fun _ => q _ _ (fun _ _ h => h)) fun _ => ?_
      exact ⟨_, rfl, _, rfl, _, _, rfl, rfl, .inl ⟨_, rfl, _, rfl, _, rfl, ls, _, _, rfl, rfl, ps, rfl, q _ _ (fun _ _ h => h)⟩⟩
    refine ⟨_, rfl, rfl, _, rfl, ?_⟩
    refine ite2 (fun _ => ?_) fun _ => ?_
    · exact ⟨_, rfl, _, rfl, _, _, rfl, rfl, .inl ⟨_, rfl, _, rfl, _, rfl, ls, _, _, rfl, rfl, ps, rfl, q _ _ (fun _ _ h => h)⟩⟩
    have ne : ∀ (H' : Hp), Same H H' → Q (V.bl (!decide (V.int x5 = V.int x6))) H' := fun H' s => q _ _ s
    refine ⟨_, rfl, _, _, rfl, rfl, _, rfl, ?_⟩
    refine ite2 (fun _ => ?_) fun _ => ?_
    · exact ⟨_, rfl, _, rfl, rfl, ne _ (fun _ _ h => h)⟩
    refine ⟨_, rfl, _, rfl, lg, rfl, _, rfl, ?_⟩
    refine ite2 (fun _ => ?_) fun _ => ?_
    · exact ⟨_, rfl, _, rfl, rfl, ne _ (fun _ _ h => h)⟩
    refine ⟨_, rfl, _, _, rfl, rfl, _, rfl, ?_⟩
    refine ite2 (fun _ => ?_) fun _ => ?_
    · exact ⟨_, rfl, _, rfl, rfl, ne _ (fun _ _ h => h)⟩
    refine ⟨_, rfl, tx [a, b], 0, a, rfl, rfl, l2 _ _, rfl, _, rfl, _, rfl, tx gl, -1, cl, rfl, rfl, lg, hcl, rfl, _, rfl, tx [c, d], 0, c, rfl, rfl, l2 _ _, rfl, _, rfl, _, rfl, tx gl, -1, cl, rfl, rfl, lg, hcl, rfl, by show 2 ≤ sizeLine; decide, fun ea hea => ?_⟩
    generalize decide (V.str (⟨#[a]⟩ : Str) = _) = b1
    generalize decide (V.str (⟨#[c]⟩ : Str) = _) = b2
    have sa : Same H (upd H ea (.lst [V.bl b1, V.bl b2])) := same_upd hea
    have ha : (upd H ea (.lst [V.bl b1, V.bl b2])) ea = some (.lst ([b1, b2].map V.bl)) := upd_same
    generalize hH1 : upd H ea (.lst [V.bl b1, V.bl b2]) = H1 at *
    have sh : ∀ x y : Bool, SeqAt.shaped (Datum.toD [x, y]) = true := fun x y => (good_list (fun b _ => good_bool b)).shaped (by decide)
    have dpb : ∀ {H' : Hp} {z : Addr} (x y : Bool), H' z = some (.lst ([x, y].map V.bl)) → Dp K H' (.ref z) (Datum.toD [x, y]) := fun x y h => .lst (SqL.of h) (dp_bools _)
    refine ⟨_, rfl, by show 2 ≤ sizeLine; decide, fun e2 he2 => ?_⟩
    have sb : Same H1 (upd H1 e2 (.lst [V.bl true, V.bl true])) := same_upd he2
    refine ⟨_, _, dpb b1 b2 (sb _ _ ha), dpb true true upd_same, sh _ _, sh _ _, _, rfl, ?_⟩
    replace sb := sa.trans sb
    have ha2 := same_upd (o := .lst [V.bl true, V.bl true]) he2 _ _ ha
    generalize upd H1 e2 (.lst [V.bl true, V.bl true]) = H2 at *
    refine ite2 (fun _ => ?_) fun _ => ?_
    · refine ⟨_, rfl, rfl, _, rfl, ite2 (fun _ => ?_) fun _ => q _ _ sb⟩
      exact ⟨_, rfl, rfl, q _ _ sb⟩
    refine ⟨_, rfl, by show 2 ≤ sizeLine; decide, fun e3 he3 => ?_⟩
    have sc : Same H2 (upd H2 e3 (.lst [V.bl true, V.bl false])) := same_upd he3
    refine ⟨_, _, dpb b1 b2 (sc _ _ ha2), dpb true false upd_same, sh _ _, sh _ _, _, rfl, ?_⟩
    replace sc := sb.trans sc
    have ha3 := same_upd (o := .lst [V.bl true, V.bl false]) he3 _ _ ha2
    generalize upd H2 e3 (.lst [V.bl true, V.bl false]) = H3 at *
    refine ite2 (fun _ => ?_) fun _ => ?_
    · refine ⟨_, rfl, rfl, _, rfl, ite2 (fun _ => ?_) fun _ => q _ _ sc⟩
      exact ⟨_, rfl, _, rfl, _, _, rfl, rfl, q _ _ sc⟩
    refine ⟨_, rfl, by show 2 ≤ sizeLine; decide, fun e4 he4 => ?_⟩
    have sd : Same H3 (upd H3 e4 (.lst [V.bl false, V.bl true])) := same_upd he4
    refine ⟨_, _, dpb b1 b2 (sd _ _ ha3), dpb false true upd_same, sh _ _, sh _ _, _, rfl, ?_⟩
    replace sd := sc.trans sd
    generalize upd H3 e4 (.lst [V.bl false, V.bl true]) = H4 at *
    refine ite2 (fun _ => ?_) fun _ => ?_
    · refine ⟨_, rfl, rfl, _, rfl, ite2 (fun _ => ?_) fun _ => q _ _ sd⟩
      exact ⟨_, rfl, _, rfl, _, _, rfl, rfl, q _ _ sd⟩
    refine ⟨_, rfl, _, rfl, rfl, _, rfl, ite2 (fun _ => ?_) fun _ => ?_⟩
    · exact ⟨_, rfl, _, rfl, rfl, q _ _ sd⟩
    refine ⟨_, rfl, _, rfl, rfl, _, rfl, ite2 (fun _ => ?_) fun _ => ?_⟩
    · exact ⟨_, rfl, _, rfl, rfl, q _ _ sd⟩
    exact ⟨_, rfl, _, rfl, rfl, q _ _ sd⟩
/-! ### pairs -/
def allTo (cs : List (List Nat)) (i : Nat) : List (List Nat) := (cs.take i).flatMap fun a => cs.map fun b => a ++ b
theorem allTo_succ {cs : List (List Nat)} {i : Nat} {a : List Nat} (h : cs[i]? = some a) : allTo cs (i + 1) = allTo cs i ++ cs.map fun b => a ++ b := by
  unfold allTo
  rw [take_snoc h, List.flatMap_append, List.flatMap_cons, List.flatMap_nil, List.append_nil]
theorem allTo_nd {cs : List (List Nat)} (hn : cs.Nodup) (h2 : ∀ c ∈ cs, c.length = 2) (i : Nat) : (allTo cs i).Nodup := by
  unfold allTo
  rw [List.nodup_iff_pairwise_ne, List.pairwise_flatMap]
  have hn' := hn
  rw [List.nodup_iff_pairwise_ne] at hn'
  refine ⟨fun a ha => ?_, ?_⟩
  · rw [List.pairwise_map]
    exact hn'.imp fun hne e => hne (List.append_cancel_left e)
  · refine List.Pairwise.imp_of_mem ?_ (hn'.sublist (List.take_sublist i cs))
    intro a b ha hb hne x hx y hy e
    obtain ⟨x', hx', rfl⟩ := List.mem_map.mp hx
    obtain ⟨y', hy', rfl⟩ := List.mem_map.mp hy
    exact hne (List.append_inj e (by rw [h2 a (List.mem_of_mem_take ha), h2 b (List.mem_of_mem_take hb)])).1
theorem allTo_len (cs : List (List Nat)) (i : Nat) : (allTo cs i).length ≤ cs.length * cs.length := by
  unfold allTo
  rw [List.length_flatMap]
  simp only [List.length_map]
  rw [List.map_const', List.sum_replicate_nat, List.length_take]
  exact Nat.mul_le_mul_right _ (Nat.min_le_right _ _)
theorem cell_two {gl sl : List Nat} : ∀ c ∈ cellsL gl sl, c.length = 2 := by
  intro c hc
  unfold cellsL at hc
  obtain ⟨g, _, h⟩ := List.mem_flatMap.mp hc
  obtain ⟨d, _, rfl⟩ := List.mem_map.mp h
  rfl
def spPairs : Sp := fun vs H Q _ => ∃ (h ha : Addr) (gl sl : List Nat), vs = [.ref h, tV gl, tV sl] ∧ LOk gl sl ∧ HandAt H h ha ∧
  ∀ (H' : Hp) (la : Addr) (ps : List (List Nat)), But h H H' → HandAt H' h ha → la ≠ h → H la = none → H' la = some (.lst (ps.map tV)) → ps.Nodup → ps.length ≤ 36 → PrOk gl sl ps → Q (.ref la) H'
abbrev nPairs : List Str := ["_law_hand_here", "_law_given", "_law_said", "_law_kind", "_law_share", "_law_cells_here", "_law_pairs_here", "_law_one", "_law_other", "_law_fits_here"]
theorem scPairs : FnScope nPairs ["_law_hand_here", "_law_given", "_law_said"] (defScope sPairs) := ⟨rfl, rfl, rfl, by decide +kernel, rfl, by decide +kernel, by decide +kernel⟩
theorem ok_pairs {f : Addr} {fd : FuncData} (F : Fun K "_law_pairs" "_law_pairs" sPairs f fd) (B : Bt mg) (c1 : Cal P w K mg base "_law_draw" 1 ["_law_hand_here", "_law_many"] spDraw) (c2 : Cal P w K mg base "_law_cells" 1 ["_law_given", "_law_said"] spCells)
    (c3 : Cal P w K mg base "_law_fits" 1 ["_law_kind", "_law_given", "_law_said", "_law_one", "_law_other"] spFits) : FnOk P w K mg base CX0 2 f fd ["_law_hand_here", "_law_given", "_law_said"] spPairs := by
  obtain ⟨ga, gda, Ga, mGa, kGa, bGa⟩ := c1
  obtain ⟨gb, gdb, Gb, mGb, kGb, bGb⟩ := c2
  obtain ⟨gc, gdc, Gc, mGc, kGc, bGc⟩ := c3
  refine F.ok scPairs (fun vs H Q E h => ?_) (fun cdv A outer s H vs Q E hr h => ?_)
  · obtain ⟨h, ha, gl, sl, rfl, _⟩ := h
    rfl
  · obtain ⟨h, ha, gl, sl, rfl, lok, hh, q⟩ := h
    have nd := scPairs.nd
    refine ⟨_, pss_cons (ps_set (i := 3) nd rfl (.inl rfl) (pe_call Ga hr (by rfl) mGa kGa bGa .nil pass0 (pa_cons (pv 0) (pa_cons pe_int pa_nil))))
      (pss_cons (ps_set (i := 4) nd rfl (.inl rfl) (pe_op op_add pe_int (pe_call Ga hr (by rfl) mGa kGa bGa .nil pass0 (pa_cons (pv 0) (pa_cons pe_int pa_nil)))))
      (pss_cons (ps_set (i := 5) nd rfl (.inl rfl) (pe_call Gb hr (by rfl) mGb kGb bGb .nil pass0 (pa_cons (pv 1) (pa_cons (pv 2) pa_nil))))
      (pss_cons (ps_set (i := 6) nd rfl (.inl rfl) (pe_lst pa_nil))
      (pss_cons (ps_for PassesOwn.never rfl (pi_list (pv 5)) (pg_name (i := 7) nd rfl (.inl rfl))
        (pss_one (ps_for PassesOwn.never rfl (pi_list (pv 5)) (pg_name (i := 8) nd rfl (.inl rfl))
          (pss_cut (ps_set (i := 9) nd rfl (.inl rfl) (pe_or (pe_cmpR op_lt (pv 3) pe_int (nomark _)) (pe_one (pe_call Gc hr (by rfl) mGc kGc bGc .nil pass0 (pa_cons (pv 3) (pa_cons (pv 1) (pa_cons (pv 2) (pa_cons (pv 7) (pa_cons (pv 8) pa_nil)))))))))
          (pss_one (ps_if (PW.pt (pw_and (pt_val (pv 9)) (pw_and1 (PW.pt (pw_or (pt_cmpR op_gt (pv 3) pe_int (nomark _)) (pw_or1 (pt_cmpR op_lt (pe_call Ga hr (by rfl) mGa kGa bGa .nil pass0 (pa_cons (pv 0) (pa_cons pe_int pa_nil))) (pe_op op_add (pv 4) (pe_callTy call_int1 (by rfl) B.int (by decide +kernel) (pa_cons (pe_cmpR op_gt (pv 3) pe_int (nomark _)) pa_nil))) (nomark _))))))))
            (pss_one (ps_expr (pe_bm PySem.F.plainAttrs_list PySem.F.slot_list_append PySem.F.type_list_append mt_append (pv 6) (pa_cons (pe_op op_add_str (pv 7) (pv 8)) pa_nil)))) pss_nil))))))
      (pss_one (ps_ret (pv 6))))))), ?_⟩
    have nn : gl.length * sl.length ≤ 6 := lok.n6
    have k3 : gl.length ≤ 3 := (lok.ok []).k3
    have s4 := lok.s4
    have k1 := lok.k1
    have s1 := lok.s1
    have cnd : (cellsL gl sl).Nodup := (lok.ok []).cnd
    have ctwo := @cell_two gl sl
    have cll := cellsL_len gl sl
    generalize hcs : cellsL gl sl = cs at *
    refine ⟨_, rfl, h, ha, 8, rfl, by omega, by omega, hh, fun H1 kd hkd b1 h1 => ?_⟩
    refine ⟨_, rfl, h, ha, 3, rfl, by omega, by omega, h1, fun H2 sd hsd b2 h2 => ?_⟩
    refine ⟨_, _, rfl, rfl, _, rfl, _, rfl, gl, sl, rfl, nn, fun H3 ca s3 hca0 hca => ?_⟩
    rw [hcs] at hca
    have b3 : But h H H3 := (b1.trans b2).trans (But.of s3)
    have h3 := h2.same s3
    refine ⟨Nat.zero_le _, fun la hla => ?_⟩
    have cah := (h2.ne hca0).1
    obtain ⟨lah, laa⟩ := h3.ne hla
    have cal : ca ≠ la := ne_of_none hca hla
    have la0 : H la = none := b3.free lah hla
    have b4 : But h H (upd H3 la (.lst [])) := b3.trans (But.of (same_upd hla))
    have h4 : HandAt (upd H3 la (.lst [])) h ha := h3.same (same_upd hla)
    have c4 : (upd H3 la (.lst [])) ca = some (.lst (cs.map tV)) := by rw [upd_ne cal]; exact hca
    have l4 : (upd H3 la (.lst [])) la = some (.lst (([] : List (List Nat)).map tV)) := upd_same
    generalize upd H3 la (.lst []) = H4 at *
    clear b1 h1 b2 h2 s3 hca b3 h3 hla hca0
    refine ⟨_, rfl, ca, rfl, ⟨_, SqL.of c4⟩, ?_⟩
    refine for_it (walk_list (xs := cs.map tV)) (fun i σ H' => ∃ (y7 y8 y9 : Option V) (ps : List (List Nat)), σ = [some (.ref h), some (tV gl), some (tV sl), some (nV kd), some (.int (1 + (sd : Int))), some (.ref ca), some (.ref la), y7, y8, y9] ∧
        But h H H' ∧ HandAt H' h ha ∧ H' ca = some (.lst (cs.map tV)) ∧ H' la = some (.lst (ps.map tV)) ∧ List.Sublist ps (allTo cs i)) ⟨none, none, none, [], rfl, b4, h4, c4, l4, List.nil_sublist _⟩ ?_ ?_ ?_
    · rintro i σ H' _ ⟨y7, y8, y9, ps, rfl, _, _, h1, _⟩
      exact SqL.of h1
    · rintro i v σ H5 H5' hi ⟨y7, y8, y9, ps, rfl, b5, h5, c5, l5, sub5⟩ ⟨rfl, hv⟩
      rw [List.length_map] at hi
      have hget : cs[i]? = some cs[i] := List.getElem?_eq_getElem hi
      rw [List.getElem?_map, hget] at hv
      have hv := Option.some.inj hv
      subst hv
      generalize hone : cs[i] = one at *
      have one2 := ctwo one (List.mem_of_getElem? hget)
      refine ⟨_, rfl, ca, rfl, ⟨_, SqL.of c5⟩, ?_⟩
      refine for_it (walk_list (xs := cs.map tV)) (fun j σ H' => ∃ (y8 y9 : Option V) (ps : List (List Nat)), σ = [some (.ref h), some (tV gl), some (tV sl), some (nV kd), some (.int (1 + (sd : Int))), some (.ref ca), some (.ref la), some (tV one), y8, y9] ∧
          But h H H' ∧ HandAt H' h ha ∧ H' ca = some (.lst (cs.map tV)) ∧ H' la = some (.lst (ps.map tV)) ∧ List.Sublist ps (allTo cs i ++ (cs.take j).map fun b => one ++ b)) ⟨y8, y9, ps, rfl, b5, h5, c5, l5, by rw [List.take_zero, List.map_nil, List.append_nil]; exact sub5⟩ ?_ ?_ ?_
      · rintro j σ H' _ ⟨y8, y9, ps, rfl, _, _, h1, _⟩
        exact SqL.of h1
      · rintro j v σ H6 H6' hj ⟨y8, y9, ps, rfl, b6, h6, c6, l6, sub6⟩ ⟨rfl, hv⟩
        rw [List.length_map] at hj
        have hgj : cs[j]? = some cs[j] := List.getElem?_eq_getElem hj
        rw [List.getElem?_map, hgj] at hv
        have hv := Option.some.inj hv
        subst hv
        generalize hoth : cs[j] = oth at *
        have oth2 := ctwo oth (List.mem_of_getElem? hgj)
        have sub7 : List.Sublist ps (allTo cs i ++ (cs.take (j + 1)).map fun b => one ++ b) := by
          rw [take_snoc hgj, List.map_append, ← List.append_assoc]
          exact sub6.trans (List.sublist_append_left _ _)
        have sub8 : List.Sublist (ps ++ [one ++ oth]) (allTo cs i ++ (cs.take (j + 1)).map fun b => one ++ b) := by
          rw [take_snoc hgj, List.map_append, ← List.append_assoc]
          exact sub6.append (List.Sublist.refl _)
        have plen : ps.length ≤ 100 := by
          have h1 := sub7.length_le
          have h2 := allTo_len cs i
          rw [List.length_append, List.length_map, List.length_take] at h1
          have h3 : cs.length * cs.length ≤ 6 * 6 := Nat.mul_le_mul (by omega) (by omega)
          omega
        -- fits
        refine ⟨fun σ' H' => ∃ (b : Bool), σ' = [some (.ref h), some (tV gl), some (tV sl), some (nV kd), some (.int (1 + (sd : Int))), some (.ref ca), some (.ref la), some (tV one), some (tV oth), some (.bl b)] ∧ Same H6' H', ?_, ?_⟩
        · refine ⟨_, rfl, _, _, rfl, rfl, _, rfl, ?_⟩
          refine ite2 (fun _ => ⟨true, rfl, fun _ _ h => h⟩) fun _ => ?_
          obtain ⟨a1, a2, rfl⟩ : ∃ a1 a2, one = [a1, a2] := by
            match one, one2 with
            | [x, y], _ => exact ⟨x, y, rfl⟩
          obtain ⟨a3, a4, rfl⟩ : ∃ a3 a4, oth = [a3, a4] := by
            match oth, oth2 with
            | [x, y], _ => exact ⟨x, y, rfl⟩
          exact ⟨_, rfl, _, rfl, _, rfl, _, rfl, _, rfl, kd, gl, sl, a1, a2, a3, a4, rfl, by omega, by omega, by omega, by omega, fun H7 r s7 => ⟨r, rfl, s7⟩⟩
        rintro σ' H7 ⟨b, rfl, s7⟩
        have b7 := b6.trans (But.of s7)
        have h7 := h6.same s7
        have c7 := s7 _ _ c6
        have l7 := s7 _ _ l6
        -- the end of a turn, with or without an append
        have app : ∀ (H8 : Hp), But h H7 H8 → HandAt H8 h ha → ∃ (l : Addr) (xs : List V) (y : V), V.ref la = V.ref l ∧ [tV (one ++ oth)] = [y] ∧ H8 l = some (.lst xs) ∧ xs.length < sizeLine ∧
            (But h H (upd H8 l (.lst (xs ++ [y]))) ∧ HandAt (upd H8 l (.lst (xs ++ [y]))) h ha ∧ (upd H8 l (.lst (xs ++ [y]))) ca = some (.lst (cs.map tV)) ∧ (upd H8 l (.lst (xs ++ [y]))) la = some (.lst ((ps ++ [one ++ oth]).map tV))) := by
          intro H8 b8 h8
          refine ⟨la, ps.map tV, _, rfl, rfl, b8 _ _ lah l7, by rw [List.length_map]; exact small1000 (by omega), ?_, h8.upd lah laa, ?_, ?_⟩
          · intro z o n e
            by_cases ez : z = la
            · rw [ez, la0] at e
              cases e
            · rw [upd_ne ez]
              exact b8 _ _ n (b7 _ _ n e)
          · rw [upd_ne cal]
            exact b8 _ _ cah c7
          · rw [upd_same, List.map_append]
            rfl
        have eapp : tx one ++ tx oth = tx (one ++ oth) := tx_app _ _
        have lapp : (tx one).length + (tx oth).length ≤ sizeLine := by rw [tx_len, tx_len, one2, oth2]; decide
        refine ⟨_, rfl, b, rfl, ?_⟩
        refine ite2 (fun _ => ?_) fun _ => ?_
        · refine ⟨_, rfl, _, _, rfl, rfl, _, rfl, ?_⟩
          refine ite2 (fun _ => ?_) fun _ => ?_
          · obtain ⟨l, xs, y, e1, e2, e3, e4, e5, e6, e7, e8⟩ := app H7 (But.refl _ _) h7
            refine ⟨_, rfl, .inl ⟨rfl, _, SqL.of l7⟩, _, rfl, _, rfl, _, _, rfl, rfl, lapp, l, xs, y, e1, by rw [eapp]; exact e2, e3, e4, ?_⟩
            exact ⟨_, _, _, rfl, e5, e6, e7, e8, sub8⟩
          · refine ⟨_, rfl, h, ha, 4, rfl, by omega, by omega, h7, fun H8 dd hdd b8 h8 => ?_⟩
            refine ⟨_, rfl, _, rfl, _, _, rfl, rfl, .inr ⟨_, rfl, _, _, rfl, rfl, _, _, rfl, rfl, _, rfl, ?_⟩⟩
            refine ite2 (fun _ => ?_) fun _ => ?_
            · obtain ⟨l, xs, y, e1, e2, e3, e4, e5, e6, e7, e8⟩ := app H8 b8 h8
              refine ⟨_, rfl, .inl ⟨rfl, _, SqL.of (b8 _ _ lah l7)⟩, _, rfl, _, rfl, _, _, rfl, rfl, lapp, l, xs, y, e1, by rw [eapp]; exact e2, e3, e4, ?_⟩
              exact ⟨_, _, _, rfl, e5, e6, e7, e8, sub8⟩
            · exact ⟨_, _, _, rfl, b7.trans b8, h8, b8 _ _ cah c7, b8 _ _ lah l7, sub7⟩
        · exact ⟨_, _, _, rfl, b7, h7, c7, l7, sub7⟩
      · rintro σ H6 ⟨y8, y9, ps, rfl, b6, h6, c6, l6, sub6⟩
        rw [List.length_map, List.take_length] at sub6
        refine ⟨_, _, _, ps, rfl, b6, h6, c6, l6, ?_⟩
        rw [allTo_succ hget]
        exact sub6
    · rintro σ H5 ⟨y7, y8, y9, ps, rfl, b5, h5, c5, l5, sub5⟩
      rw [List.length_map] at sub5
      refine ⟨_, rfl, q H5 la ps b5 h5 lah la0 l5 (sub5.nodup (allTo_nd cnd ctwo _)) ?_ ?_⟩
      · have h1 := sub5.length_le
        have h2 := allTo_len cs cs.length
        have h3 : cs.length * cs.length ≤ 6 * 6 := Nat.mul_le_mul (by omega) (by omega)
        omega
      · intro p hp
        have := sub5.subset hp
        unfold allTo at this
        rw [List.take_length] at this
        obtain ⟨a, ha', hb'⟩ := List.mem_flatMap.mp this
        obtain ⟨b, hb, rfl⟩ := List.mem_map.mp hb'
        rw [← hcs] at ha' hb
        unfold cellsL at ha' hb
        obtain ⟨g1, m1, h1⟩ := List.mem_flatMap.mp ha'
        obtain ⟨d1, m2, rfl⟩ := List.mem_map.mp h1
        obtain ⟨g2, m3, h2⟩ := List.mem_flatMap.mp hb
        obtain ⟨d2, m4, rfl⟩ := List.mem_map.mp h2
        exact ⟨g1, d1, g2, d2, rfl, m1, m2, m3, m4⟩
end
end N18
end
section
set_option Elab.async false
set_option linter.all false
set_option maxRecDepth 100000
set_option maxHeartbeats 4000000
namespace N18
open PySem PySem.Spec PyProof.Rows L2 TL PySem.W
def sizes : List (Nat × Nat) := [(1, 2), (1, 3), (2, 2), (2, 3), (2, 2), (1, 4), (3, 2), (2, 3), (3, 1), (2, 1)]
section
variable {P : Program} {w : World} {K : PySem.W.Frag} {mg : Str → Option Value} {base : Heap}
/-! ### small -/
def spSmall : Sp := fun vs H Q _ => ∃ (h ha : Addr), vs = [.ref h] ∧ HandAt H h ha ∧
  ∀ (H' : Hp) (t la : Addr) (gl sl : List Nat) (ps : List (List Nat)), But h H H' → HandAt H' h ha → t ≠ h → la ≠ h → H la = none → H' t = some (.tup [tV gl, tV sl, .ref la]) → H' la = some (.lst (ps.map tV)) → LOk gl sl → ps.Nodup → ps.length ≤ 36 → PrOk gl sl ps → Q (.ref t) H'
theorem scSmall : FnScope ["_law_hand_here", "_law_many", "_law_told", "_law_given", "_law_said"] ["_law_hand_here"] (defScope sSmall) := ⟨rfl, rfl, rfl, by decide +kernel, rfl, by decide +kernel, by decide +kernel⟩
theorem ok_small {f : Addr} {fd : FuncData} (F : Fun K "_law_small" "_law_small" sSmall f fd) (B : Bt mg) (c1 : Cal P w K mg base "_law_draw" 2 ["_law_hand_here", "_law_many"] spDraw) (c2 : Cal P w K mg base "_law_letters" 2 ["_law_hand_here", "_law_signs", "_law_many"] spLetters)
    (c3 : Cal P w K mg base "_law_pairs" 2 ["_law_hand_here", "_law_given", "_law_said"] spPairs) : FnOk P w K mg base CX0 3 f fd ["_law_hand_here"] spSmall := by
  obtain ⟨ga, gda, Ga, mGa, kGa, bGa⟩ := c1
  obtain ⟨gb, gdb, Gb, mGb, kGb, bGb⟩ := c2
  obtain ⟨gc, gdc, Gc, mGc, kGc, bGc⟩ := c3
  refine F.ok scSmall (fun vs H Q E h => ?_) (fun cdv A outer s H vs Q E hr h => ?_)
  · obtain ⟨h, ha, rfl, _⟩ := h
    rfl
  · obtain ⟨h, ha, rfl, hh, q⟩ := h
    have nd := scSmall.nd
    refine ⟨_, pss_cut (ps_asg (pe_ix ix_list (pe_lst (pa_cons (pe_tup (pa_cons pe_int (pa_cons pe_int pa_nil))) (pa_cons (pe_tup (pa_cons pe_int (pa_cons pe_int pa_nil))) (pa_cons (pe_tup (pa_cons pe_int (pa_cons pe_int pa_nil))) (pa_cons (pe_tup (pa_cons pe_int (pa_cons pe_int pa_nil))) (pa_cons (pe_tup (pa_cons pe_int (pa_cons pe_int pa_nil))) (pa_cons (pe_tup (pa_cons pe_int (pa_cons pe_int pa_nil))) (pa_cons (pe_tup (pa_cons pe_int (pa_cons pe_int pa_nil))) (pa_cons (pe_tup (pa_cons pe_int (pa_cons pe_int pa_nil))) (pa_cons (pe_tup (pa_cons pe_int (pa_cons pe_int pa_nil))) (pa_cons (pe_tup (pa_cons pe_int (pa_cons pe_int pa_nil))) pa_nil))))))))))) (pe_call Ga hr (by rfl) mGa kGa bGa .nil pass0 (pa_cons (pv 0) (pa_cons pe_int pa_nil))) (fun _ _ => rfl)) (pg_tup rfl (pgs_cons (pg_name (i := 1) nd rfl (.inl rfl)) (pgs_cons (pg_name (i := 2) nd rfl (.inl rfl)) pgs_nil))))
      (pss_cons (ps_set (i := 3) nd rfl (.inl rfl) (pe_call Gb hr (by rfl) mGb kGb bGb .nil pass0 (pa_cons (pv 0) (pa_cons pe_str (pa_cons (pv 1) pa_nil)))))
      (pss_cons (ps_set (i := 4) nd rfl (.inl rfl) (pe_call Gb hr (by rfl) mGb kGb bGb .nil pass0 (pa_cons (pv 0) (pa_cons pe_str (pa_cons (pv 2) pa_nil)))))
      (pss_one (ps_ret (pe_tup (pa_cons (pv 3) (pa_cons (pv 4) (pa_cons (pe_call Gc hr (by rfl) mGc kGc bGc .nil pass0 (pa_cons (pv 0) (pa_cons (pv 3) (pa_cons (pv 4) pa_nil)))) pa_nil)))))))), ?_⟩
    refine ⟨fun σ' H' => ∃ (a b : Nat), σ' = [some (.ref h), some (nV a), some (nV b), none, none] ∧ (a, b) ∈ sizes ∧ But h H H' ∧ HandAt H' h ha, ?_, ?_⟩
    · skip
      refine ⟨by show 2 ≤ sizeLine; decide, fun t0 n0 => ?_⟩
      have s0 : Same H (upd H t0 (.tup [.int 1, .int 2])) := same_upd n0
      have e0 : (upd H t0 (.tup [.int 1, .int 2])) t0 = some (.tup [nV 1, nV 2]) := upd_same
      generalize upd H t0 (.tup [.int 1, .int 2]) = J1 at *
      refine ⟨by show 2 ≤ sizeLine; decide, fun t1 n1 => ?_⟩
      have s1 : Same J1 (upd J1 t1 (.tup [.int 1, .int 3])) := same_upd n1
      have e1 : (upd J1 t1 (.tup [.int 1, .int 3])) t1 = some (.tup [nV 1, nV 3]) := upd_same
      generalize upd J1 t1 (.tup [.int 1, .int 3]) = J2 at *
      refine ⟨by show 2 ≤ sizeLine; decide, fun t2 n2 => ?_⟩
      have s2 : Same J2 (upd J2 t2 (.tup [.int 2, .int 2])) := same_upd n2
      have e2 : (upd J2 t2 (.tup [.int 2, .int 2])) t2 = some (.tup [nV 2, nV 2]) := upd_same
      generalize upd J2 t2 (.tup [.int 2, .int 2]) = J3 at *
      refine ⟨by show 2 ≤ sizeLine; decide, fun t3 n3 => ?_⟩
      have s3 : Same J3 (upd J3 t3 (.tup [.int 2, .int 3])) := same_upd n3
      have e3 : (upd J3 t3 (.tup [.int 2, .int 3])) t3 = some (.tup [nV 2, nV 3]) := upd_same
      generalize upd J3 t3 (.tup [.int 2, .int 3]) = J4 at *
      refine ⟨by show 2 ≤ sizeLine; decide, fun t4 n4 => ?_⟩
      have s4 : Same J4 (upd J4 t4 (.tup [.int 2, .int 2])) := same_upd n4
      have e4 : (upd J4 t4 (.tup [.int 2, .int 2])) t4 = some (.tup [nV 2, nV 2]) := upd_same
      generalize upd J4 t4 (.tup [.int 2, .int 2]) = J5 at *
      refine ⟨by show 2 ≤ sizeLine; decide, fun t5 n5 => ?_⟩
      have s5 : Same J5 (upd J5 t5 (.tup [.int 1, .int 4])) := same_upd n5
      have e5 : (upd J5 t5 (.tup [.int 1, .int 4])) t5 = some (.tup [nV 1, nV 4]) := upd_same
      generalize upd J5 t5 (.tup [.int 1, .int 4]) = J6 at *
      refine ⟨by show 2 ≤ sizeLine; decide, fun t6 n6 => ?_⟩
      have s6 : Same J6 (upd J6 t6 (.tup [.int 3, .int 2])) := same_upd n6
      have e6 : (upd J6 t6 (.tup [.int 3, .int 2])) t6 = some (.tup [nV 3, nV 2]) := upd_same
      generalize upd J6 t6 (.tup [.int 3, .int 2]) = J7 at *
      refine ⟨by show 2 ≤ sizeLine; decide, fun t7 n7 => ?_⟩
      have s7 : Same J7 (upd J7 t7 (.tup [.int 2, .int 3])) := same_upd n7
      have e7 : (upd J7 t7 (.tup [.int 2, .int 3])) t7 = some (.tup [nV 2, nV 3]) := upd_same
      generalize upd J7 t7 (.tup [.int 2, .int 3]) = J8 at *
      refine ⟨by show 2 ≤ sizeLine; decide, fun t8 n8 => ?_⟩
      have s8 : Same J8 (upd J8 t8 (.tup [.int 3, .int 1])) := same_upd n8
      have e8 : (upd J8 t8 (.tup [.int 3, .int 1])) t8 = some (.tup [nV 3, nV 1]) := upd_same
      generalize upd J8 t8 (.tup [.int 3, .int 1]) = J9 at *
      refine ⟨by show 2 ≤ sizeLine; decide, fun t9 n9 => ?_⟩
      have s9 : Same J9 (upd J9 t9 (.tup [.int 2, .int 1])) := same_upd n9
      have e9 : (upd J9 t9 (.tup [.int 2, .int 1])) t9 = some (.tup [nV 2, nV 1]) := upd_same
      generalize upd J9 t9 (.tup [.int 2, .int 1]) = J10 at *
      refine ⟨by show 10 ≤ sizeLine; decide, fun l hl => ?_⟩
      have el : (upd J10 l (.lst [.ref t0, .ref t1, .ref t2, .ref t3, .ref t4, .ref t5, .ref t6, .ref t7, .ref t8, .ref t9])) l = some (.lst [.ref t0, .ref t1, .ref t2, .ref t3, .ref t4, .ref t5, .ref t6, .ref t7, .ref t8, .ref t9]) := upd_same
      have sl : Same J10 (upd J10 l (.lst [.ref t0, .ref t1, .ref t2, .ref t3, .ref t4, .ref t5, .ref t6, .ref t7, .ref t8, .ref t9])) := same_upd hl
      generalize upd J10 l (.lst [.ref t0, .ref t1, .ref t2, .ref t3, .ref t4, .ref t5, .ref t6, .ref t7, .ref t8, .ref t9]) = J at *
      have sJ : Same H J := (((((((((s0.trans s1).trans s2).trans s3).trans s4).trans s5).trans s6).trans s7).trans s8).trans s9).trans sl
      refine ⟨_, rfl, h, ha, 10, rfl, by omega, by omega, hh.same sJ, fun H1 d hd b1 h1 => ?_⟩
      have lh : l ≠ h := (hh.same (((((((((s0.trans s1).trans s2).trans s3).trans s4).trans s5).trans s6).trans s7).trans s8).trans s9)).ne hl |>.1
      have bJ : But h H H1 := (But.of sJ).trans b1
      have el1 := b1 _ _ lh el
      have main : ∃ (t : Addr) (a b : Nat), ([.ref t0, .ref t1, .ref t2, .ref t3, .ref t4, .ref t5, .ref t6, .ref t7, .ref t8, .ref t9] : List V)[d]? = some (.ref t) ∧ H1 t = some (.tup [nV a, nV b]) ∧ (a, b) ∈ sizes := by
        have m0 : t0 ≠ h := (hh.ne n0).1
        have m1 : t1 ≠ h := ((hh.same s0).ne n1).1
        have m2 : t2 ≠ h := ((hh.same (s0.trans s1)).ne n2).1
        have m3 : t3 ≠ h := ((hh.same ((s0.trans s1).trans s2)).ne n3).1
        have m4 : t4 ≠ h := ((hh.same (((s0.trans s1).trans s2).trans s3)).ne n4).1
        have m5 : t5 ≠ h := ((hh.same ((((s0.trans s1).trans s2).trans s3).trans s4)).ne n5).1
        have m6 : t6 ≠ h := ((hh.same (((((s0.trans s1).trans s2).trans s3).trans s4).trans s5)).ne n6).1
        have m7 : t7 ≠ h := ((hh.same ((((((s0.trans s1).trans s2).trans s3).trans s4).trans s5).trans s6)).ne n7).1
        have m8 : t8 ≠ h := ((hh.same (((((((s0.trans s1).trans s2).trans s3).trans s4).trans s5).trans s6).trans s7)).ne n8).1
        have m9 : t9 ≠ h := ((hh.same ((((((((s0.trans s1).trans s2).trans s3).trans s4).trans s5).trans s6).trans s7).trans s8)).ne n9).1
        have hd2 : d = 0 ∨ d = 1 ∨ d = 2 ∨ d = 3 ∨ d = 4 ∨ d = 5 ∨ d = 6 ∨ d = 7 ∨ d = 8 ∨ d = 9 := by omega
        rcases hd2 with rfl | rfl | rfl | rfl | rfl | rfl | rfl | rfl | rfl | rfl
        · exact ⟨t0, 1, 2, rfl, b1 _ _ m0 (sl _ _ (((((((((s1.trans s2).trans s3).trans s4).trans s5).trans s6).trans s7).trans s8).trans s9) _ _ e0)), by decide⟩
        · exact ⟨t1, 1, 3, rfl, b1 _ _ m1 (sl _ _ ((((((((s2.trans s3).trans s4).trans s5).trans s6).trans s7).trans s8).trans s9) _ _ e1)), by decide⟩
        · exact ⟨t2, 2, 2, rfl, b1 _ _ m2 (sl _ _ (((((((s3.trans s4).trans s5).trans s6).trans s7).trans s8).trans s9) _ _ e2)), by decide⟩
        · exact ⟨t3, 2, 3, rfl, b1 _ _ m3 (sl _ _ ((((((s4.trans s5).trans s6).trans s7).trans s8).trans s9) _ _ e3)), by decide⟩
        · exact ⟨t4, 2, 2, rfl, b1 _ _ m4 (sl _ _ (((((s5.trans s6).trans s7).trans s8).trans s9) _ _ e4)), by decide⟩
        · exact ⟨t5, 1, 4, rfl, b1 _ _ m5 (sl _ _ ((((s6.trans s7).trans s8).trans s9) _ _ e5)), by decide⟩
        · exact ⟨t6, 3, 2, rfl, b1 _ _ m6 (sl _ _ (((s7.trans s8).trans s9) _ _ e6)), by decide⟩
        · exact ⟨t7, 2, 3, rfl, b1 _ _ m7 (sl _ _ ((s8.trans s9) _ _ e7)), by decide⟩
        · exact ⟨t8, 3, 1, rfl, b1 _ _ m8 (sl _ _ (s9 _ _ e8)), by decide⟩
        · exact ⟨t9, 2, 1, rfl, b1 _ _ m9 (sl _ _ e9), by decide⟩
      obtain ⟨t, a, b, hg, ht, hab⟩ := main
      refine ⟨l, _, _, _, rfl, rfl, SqL.of el1, atI_nat hg, ?_⟩
      exact ⟨t, [_, _], rfl, .inl (.inl ht), rfl, _, [_], rfl, _, [], rfl, rfl, a, b, rfl, hab, bJ, h1⟩
    rintro σ' H1 ⟨a, b, rfl, hab, b1, h1⟩
    have hs : 1 ≤ a ∧ 1 ≤ b ∧ a ≤ 3 ∧ b ≤ 4 ∧ a * b ≤ 6 ∧ (a = 1 ∨ (a ≤ 2 ∧ b ≤ 3) ∨ (a ≤ 3 ∧ b ≤ 2)) := by
      have : ∀ x ∈ sizes, 1 ≤ x.1 ∧ 1 ≤ x.2 ∧ x.1 ≤ 3 ∧ x.2 ≤ 4 ∧ x.1 * x.2 ≤ 6 ∧ (x.1 = 1 ∨ (x.1 ≤ 2 ∧ x.2 ≤ 3) ∨ (x.1 ≤ 3 ∧ x.2 ≤ 2)) := by decide
      exact this _ hab
    have n1 : smallL.Nodup := by decide
    have n2 : greatL.Nodup := by decide
    have l1 : smallL.length = 26 := by decide
    have l2 : greatL.length = 26 := by decide
    refine ⟨_, rfl, _, rfl, h, ha, smallL, a, by show _ = [_, V.str (tx smallL), _]; rw [small_tx]; rfl, n1, by omega, by omega, h1, fun H2 gl b2 h2 gll gnd gin => ?_⟩
    refine ⟨_, rfl, _, rfl, h, ha, greatL, b, by show _ = [_, V.str (tx greatL), _]; rw [great_tx]; rfl, n2, by omega, by omega, h2, fun H3 sl b3 h3 sll snd sin => ?_⟩
    have lok : LOk gl sl := ⟨gnd, snd, fun c hc => smallL_mem.mp (gin c hc), fun c hc => greatL_mem.mp (sin c hc), by omega, by omega, by omega, by rw [gll, sll]; exact hs.2.2.2.2.1, by rw [gll, sll]; exact hs.2.2.2.2.2⟩
    have b13 := (b1.trans b2).trans b3
    refine ⟨_, rfl, _, rfl, _, rfl, _, rfl, _, rfl, h, ha, gl, sl, rfl, lok, h3, fun H4 la ps b4 h4 lah la0 hla pnd pll pok => ?_⟩
    refine ⟨by show 3 ≤ sizeLine; decide, fun t ht => ?_⟩
    have st : Same H4 (upd H4 t (.tup [tV gl, tV sl, .ref la])) := same_upd ht
    exact q _ t la gl sl ps ((b13.trans b4).trans (But.of st)) (h4.same st) (h4.ne ht).1 lah (b13.free lah la0) upd_same (st _ _ hla) lok pnd pll pok
end
end N18
end
section
set_option Elab.async false
set_option linter.all false
set_option maxRecDepth 100000
set_option maxHeartbeats 4000000
namespace N18
open PySem PySem.Spec PyProof.Rows L2 TL PySem.W
/-! ### the table, pair by pair -/
theorem cget_n {I : Inst} (ok : I.Ok) {i : Nat} (h : i < I.n) : I.cells[i]? = some (I.cells.getD i []) := by
  rw [List.getD_eq_getElem?_getD, List.getElem?_eq_getElem (by rw [ok.clen]; exact h)]
  rfl
theorem pair_inj {I : Inst} (ok : I.Ok) {p q p' q' : Nat} (hp : p < I.n) (hq : q < I.n) (hp' : p' < I.n) (hq' : q' < I.n) (e : I.cells.getD p [] ++ I.cells.getD q [] = I.cells.getD p' [] ++ I.cells.getD q' []) : p = p' ∧ q = q' := by
  obtain ⟨e1, e2⟩ := List.append_inj e (by rw [cell_len2 ok hp, cell_len2 ok hp'])
  exact ⟨nd_get ok.cnd (cget_n ok hp) ((cget_n ok hp').trans (by rw [e1])), nd_get ok.cnd (cget_n ok hq) ((cget_n ok hq').trans (by rw [e2]))⟩
theorem tabL_mem {I : Inst} (ok : I.Ok) {rs : List Nat} (hl : rs.length = I.n) {p q : Nat} (hp : p < I.n) (hq : q < I.n) : I.cells.getD p [] ++ I.cells.getD q [] ∈ tabL I rs ↔ (rs.getD p 0).testBit q = true := by
  rw [tabL_pairs, List.mem_map]
  constructor
  · rintro ⟨⟨a, b⟩, hm, e⟩
    obtain ⟨ha, hb, hbit⟩ := tabP_mem.mp hm
    rw [hl] at ha
    obtain ⟨rfl, rfl⟩ := pair_inj ok ha hb hp hq e
    exact hbit
  · intro h
    exact ⟨(p, q), tabP_mem.mpr ⟨by rw [hl]; exact hp, hq, h⟩, rfl⟩
theorem tabL_nd {I : Inst} (ok : I.Ok) {rs : List Nat} (hl : rs.length = I.n) : (tabL I rs).Nodup := by
  rw [tabL_pairs, List.nodup_iff_pairwise_ne, List.pairwise_map]
  have h1 : List.Pairwise (fun a b : Nat × Nat => a ≠ b) (tabP I rs) := by
    unfold tabP
    rw [List.pairwise_flatMap]
    refine ⟨fun p _ => ?_, ?_⟩
    · rw [List.pairwise_map]
      exact (asc_filter _ _).imp fun h e => Nat.ne_of_lt h (Prod.mk.inj e).2
    · refine List.pairwise_lt_range.imp ?_
      intro a b hab x hx y hy e
      obtain ⟨q, _, rfl⟩ := List.mem_map.mp hx
      obtain ⟨q', _, rfl⟩ := List.mem_map.mp hy
      exact Nat.ne_of_lt hab (Prod.mk.inj e).1
  refine List.Pairwise.imp_of_mem ?_ h1
  rintro ⟨a, b⟩ ⟨c, d⟩ hx hy hne e
  obtain ⟨h1, h2, _⟩ := tabP_mem.mp hx
  obtain ⟨h3, h4, _⟩ := tabP_mem.mp hy
  rw [hl] at h1 h3
  obtain ⟨rfl, rfl⟩ := pair_inj ok h1 h2 h3 h4 e
  exact hne rfl
theorem tabL_len {I : Inst} (ok : I.Ok) {rs : List Nat} (hl : rs.length = I.n) : (tabL I rs).length ≤ 36 := by
  have h := tabTo_len I rs rs.length
  have n6 : I.n ≤ 6 := ok.n6
  have h3 : rs.length * I.n ≤ 6 * 6 := Nat.mul_le_mul (by omega) n6
  unfold tabL
  omega
theorem tabS_map (I : Inst) (rs : List Nat) : (tabS I rs).map V.str = (tabL I rs).map tV := by
  unfold tabS
  rw [List.map_map]
  rfl
/-- the pairs are those of the wish's rows -/
structure Fits (I : Inst) (ps : List (List Nat)) : Prop where
  ok : I.Ok
  bit : ∀ p q, p < I.n → q < I.n → ((I.A.getD p 0).testBit q = true ↔ I.cells.getD p [] ++ I.cells.getD q [] ∈ ps)
theorem LOk.fits {gl sl : List Nat} (h : LOk gl sl) (ps : List (List Nat)) : Fits (instOf gl sl ps) ps := ⟨h.ok ps, fun _ _ hp hq => instOf_bit hp hq⟩
/-- a block within a block -/
theorem blkOk_in {N : List Str} {sc scope : Scope} {own : List (Str × Nat)} {env : Env} (h : BlkOk N sc scope own) : BlkOk N (relabel sc env) scope own := by
  refine ⟨h.kind, h.uniq, h.ix, fun y hy e => ?_, h.own⟩
  have key : ∀ (names : List (Str × NameKind)) (x : Str), names.lookup x = some .cell ∨ names.lookup x = some .free →
      (names.map fun (n, k) => if (k == NameKind.free && env.scope.kind == .function && env.kindOf n == some .cell) then (n, NameKind.cell) else (n, k)).lookup x = some .cell ∨
      (names.map fun (n, k) => if (k == NameKind.free && env.scope.kind == .function && env.kindOf n == some .cell) then (n, NameKind.cell) else (n, k)).lookup x = some .free := by
    intro names x
    induction names with
    | nil => intro h; simp at h
    | cons a r ih =>
      obtain ⟨n, k⟩ := a
      intro h
      rw [List.map_cons]
      show List.lookup x ((if (k == NameKind.free && env.scope.kind == .function && env.kindOf n == some .cell) = true then (n, NameKind.cell) else (n, k)) :: _) = _ ∨ List.lookup x ((if (k == NameKind.free && env.scope.kind == .function && env.kindOf n == some .cell) = true then (n, NameKind.cell) else (n, k)) :: _) = _
      by_cases hc : (k == NameKind.free && env.scope.kind == .function && env.kindOf n == some .cell) = true
      · rw [if_pos hc]
        cases hx : x == n with
        | true =>
          left
          simp only [List.lookup_cons, hx]
        | false =>
          simp only [List.lookup_cons, hx] at h ⊢
          exact ih h
      · rw [if_neg hc]
        cases hx : x == n with
        | true =>
          simp only [List.lookup_cons, hx] at h ⊢
          exact h
        | false =>
          simp only [List.lookup_cons, hx] at h ⊢
          exact ih h
  exact key sc.names y.1 (h.free y hy e)
section
variable {P : Program} {w : World} {K : PySem.W.Frag} {mg : Str → Option Value} {base : Heap}
/-! ### plain -/
def spPlain : Sp := fun vs H Q _ => ∃ (ca ka : Addr) (I : Inst) (ps : List (List Nat)), vs = [.ref ca, .ref ka] ∧ Fits I ps ∧ H ca = some (.lst (I.cells.map tV)) ∧ H ka = some (.dK (trueK (ps.map tkK))) ∧
  ∀ (H' : Hp) (t : Addr), Same H H' → H t = none → H' t = some (.tup ((tabL I I.A).map tV)) → Q (.ref t) H'
abbrev nPlain : List Str := ["_law_cells_here", "_law_known_here", "_law_found", "_law_one", "_law_other"]
theorem scPlain : FnScope nPlain ["_law_cells_here", "_law_known_here"] (defScope sPlain) := ⟨rfl, rfl, rfl, by decide +kernel, rfl, by decide +kernel, by decide +kernel⟩
theorem ok_plain {f : Addr} {fd : FuncData} (F : Fun K "_law_plain" "_law_plain" sPlain f fd) (B : Bt mg) : FnOk P w K mg base CX0 1 f fd ["_law_cells_here", "_law_known_here"] spPlain := by
  refine F.ok scPlain (fun vs H Q E h => ?_) (fun cdv A outer s H vs Q E hr h => ?_)
  · obtain ⟨ca, ka, I, ps, rfl, _⟩ := h
    rfl
  · obtain ⟨ca, ka, I, ps, rfl, ft, hca, hka, q⟩ := h
    have hu := hu_of hr
    have nd := scPlain.nd
    have ok := ft.ok
    have n6 : I.n ≤ 6 := ok.n6
    have hcl := ok.clen
    refine ⟨_, pss_cons (ps_set (i := 2) nd rfl (.inl rfl) (pe_lst pa_nil))
      (pss_cons (ps_for PassesOwn.never rfl (pi_list (pv 0)) (pg_name (i := 3) nd rfl (.inr rfl))
        (pss_one (ps_set (i := 2) nd rfl (.inl rfl) (pe_op op_cat (pv 2) (pe_lc (own := [("_law_other", 4)]) (g := gName 4) rfl nd (pi_list (pv 0)) (blkOk_by (N := nPlain) (sc := defScope sPlain) (by decide +kernel)) (fun _ _ _ _ _ => pg_name (i := 4) nd rfl (.inl rfl)) (fun _ _ _ _ _ => pts_one (pt_cmp (pc_din hu (pe_op op_add_str (pv 3) (pv 4)) (pv 1))))
          (fun _ _ _ _ _ => pe_op op_add_str (pv 3) (pv 4)))))))
      (pss_one (ps_ret (pe_callTy call_tuple_of (by rfl) B.tuple (by decide +kernel) (pa_cons (pv 2) pa_nil))))), ?_⟩
    refine ⟨Nat.zero_le _, fun l0 hl0 => ?_⟩
    refine ⟨_, rfl, ca, rfl, ⟨_, SqL.of (same_upd hl0 _ _ hca)⟩, ?_⟩
    refine for_it (walk_list (xs := I.cells.map tV)) (fun i σ H' => ∃ (y3 : Option V) (a : Addr), σ = [some (.ref ca), some (.ref ka), some (.ref a), y3, none] ∧ Same H H' ∧ H' a = some (.lst ((tabTo I I.A i).map tV))) ⟨none, l0, rfl, same_upd hl0, upd_same⟩ ?_ ?_ ?_
    · rintro i σ H' _ ⟨y3, a, rfl, s1, _⟩
      exact SqL.of (s1 _ _ hca)
    · rintro i v σ H1 H1' hi ⟨y3, a, rfl, s1, ha⟩ ⟨rfl, hv⟩
      rw [List.length_map, hcl] at hi
      rw [List.getElem?_map, cget_n ok hi] at hv
      have hv := Option.some.inj hv
      subst hv
      have one2 := cell_len2 ok hi
      generalize hone : I.cells.getD i [] = one at *
      refine ⟨_, rfl, _, rfl, ca, rfl, ⟨_, SqL.of (s1 _ _ hca)⟩, fun D hD => ?_⟩
      refine lc_it (walk_list (xs := I.cells.map tV)) (fun j H' => Same H1' H' ∧ H' D = some (.lst ((rowTo I one (I.A.getD i 0) j).map tV))) ⟨same_upd hD, upd_same⟩ ?_ ?_ ?_
      · rintro j H' _ ⟨s2, _⟩
        exact SqL.of (s2 _ _ (s1 _ _ hca))
      · rintro j v H2 H2' hj ⟨s2, e2⟩ ⟨rfl, hv⟩
        rw [List.length_map, hcl] at hj
        rw [List.getElem?_map, cget_n ok hj] at hv
        have hv := Option.some.inj hv
        subst hv
        have oth2 := cell_len2 ok hj
        have dg := DGet.k (k := tkK (one ++ I.cells.getD j [])) (s2 _ _ (s1 _ _ hka))
        have ek : V.str (tx one ++ tx (I.cells.getD j [])) = kV (tkK (one ++ I.cells.getD j [])) := by rw [tx_app]; rfl
        have lapp : (tx one).length + (tx (I.cells.getD j [])).length ≤ sizeLine := by rw [tx_len, tx_len, one2, oth2]; decide
        refine ⟨rfl, ?_⟩
        refine ⟨_, rfl, _, rfl, _, _, rfl, rfl, lapp, _, rfl, ka, _, rfl, by rw [ek]; exact dg, _, rfl, ?_⟩
        have hb := ft.bit i j hi hj
        rw [hone] at hb
        by_cases hm : one ++ I.cells.getD j [] ∈ ps
        · rw [trueK_some (tkK_mem.mpr hm)]
          refine iteT ⟨_, rfl, _, rfl, _, _, rfl, rfl, lapp, _, e2, ?_, s2.put hD, ?_⟩
          · have := rowTo_len I one (I.A.getD i 0) j
            rw [List.length_map]
            exact small1000 (by omega)
          · rw [upd_same, rowTo_yes (hb.mpr hm), List.map_append, tx_app]
            rfl
        · rw [trueK_none fun h => hm (tkK_mem.mp h)]
          refine iteF ⟨s2, ?_⟩
          rw [rowTo_no (by rw [← Bool.not_eq_true]; exact fun h => hm (hb.mp h))]
          exact e2
      rintro H2 ⟨s2, e2⟩
      rw [List.length_map, hcl] at e2
      refine ⟨a, D, _, _, rfl, rfl, s2 _ _ ha, e2, ?_, fun p hp => ?_⟩
      · have h1 := tabTo_len I I.A i
        have h2 := rowTo_len I one (I.A.getD i 0) I.n
        have h3 : i * I.n ≤ 6 * 6 := Nat.mul_le_mul (by omega) n6
        rw [List.length_map, List.length_map]
        exact Nat.le_of_lt (small1000 (by omega))
      refine ⟨_, p, rfl, (s1.trans s2).trans (same_upd hp), ?_⟩
      rw [upd_same, tabTo_succ, List.map_append, hone]
    · rintro σ H1 ⟨y3, a, rfl, s1, ha⟩
      rw [List.length_map, hcl] at ha
      have hal : I.A.length = I.n := ok.al
      refine ⟨_, rfl, a, _, rfl, .inl ⟨SqL.of ha, fun t ht => ?_⟩⟩
      refine q _ t (s1.trans (same_upd ht)) (s1.free ht) ?_
      rw [upd_same]
      unfold tabL
      rw [hal]
end
end N18
end
section
set_option Elab.async false
set_option linter.all false
set_option maxRecDepth 100000
set_option maxHeartbeats 4000000
namespace N18
open PySem PySem.Spec PyProof.Rows L2 TL PySem.W
theorem stepR_len (I : Inst) (rs : List Nat) (x : Nat) : (stepR I rs x).length = rs.length := List.length_map _
theorem stepR_get (I : Inst) {rs : List Nat} {x p : Nat} (h : p < rs.length) : (stepR I rs x).getD p 0 = K18.st I.A I.s x (rs.getD p 0) := by
  unfold stepR
  rw [List.getD_eq_getElem?_getD, List.getD_eq_getElem?_getD, List.getElem?_map, List.getElem?_eq_getElem h]
  rfl
def waysOf (I : Inst) (m x : Nat) : List Nat := (K18.places I.s x).filter fun q => m.testBit q
theorem way_bit {I : Inst} {ps : List (List Nat)} (ft : Fits I ps) {m x j : Nat} (hx : x < I.k) (hj : j < I.n) :
    ((waysOf I m x).any fun q => decide (I.cells.getD q [] ++ I.cells.getD j [] ∈ ps)) = (K18.st I.A I.s x m).testBit j := by
  rw [Bool.eq_iff_iff, List.any_eq_true, K18.st_bit]
  unfold waysOf
  constructor
  · rintro ⟨q, hq, h⟩
    rw [List.mem_filter] at hq
    obtain ⟨j', hj', rfl⟩ := K18.places_mem.mp hq.1
    have hqn : x * I.s + j' < I.n := by
      obtain ⟨i, hi⟩ := List.getElem?_of_mem hq.1
      exact place_lt ft.ok hx hi
    exact ⟨j', hj', hq.2, (ft.bit _ _ hqn hj).mpr (of_decide_eq_true h)⟩
  · rintro ⟨j', hj', h1, h2⟩
    have hm : x * I.s + j' ∈ K18.places I.s x := K18.places_mem.mpr ⟨j', hj', rfl⟩
    have hqn : x * I.s + j' < I.n := by
      obtain ⟨i, hi⟩ := List.getElem?_of_mem hm
      exact place_lt ft.ok hx hi
    exact ⟨_, List.mem_filter.mpr ⟨hm, h1⟩, decide_eq_true ((ft.bit _ _ hqn hj).mp h2)⟩
theorem take_filter_succ {α : Type} {l : List α} {i : Nat} {a : α} (f : α → Bool) (h : l[i]? = some a) : (l.take (i + 1)).filter f = (l.take i).filter f ++ if f a = true then [a] else [] := by
  rw [take_snoc h, List.filter_append]
  congr 1
  cases e : f a with
  | true => rw [List.filter_cons_of_pos e]; rfl
  | false => rw [List.filter_cons_of_neg (by rw [e]; decide)]; rfl
theorem cr_anyK {X : Cx} (K : PySem.W.Frag) (hK : X.K = K) (hc : X.calm = true) : CallR X (.builtin "any") (rAny K) := by
  subst hK
  exact cr_any hc
theorem pi_listK {X : Cx} {tg l : Expr} {tl : TE} (K : PySem.W.Frag) (hK : X.K = K) (hl : PE X l tl) : PI X tg l (iList K tl) := by
  subst hK
  exact pi_list hl
/-- the scope of the block within which another stands -/
def scOther : Scope := {
  kind := .function,
  names := [(".0", .local), ("_law_other", .cell), ("any", .globalImplicit), ("_law_known_here", .free), ("_law_one", .free), ("_law_ways", .free)],
  isGenerator := false,
  isCoroutine := false,
  more := [] }
section
variable {P : Program} {w : World} {K : PySem.W.Frag} {mg : Str → Option Value} {base : Heap}
/-! ### behind -/
def spBehind : Sp := fun vs H Q _ => ∃ (ca ka ra : Addr) (I : Inst) (ps : List (List Nat)) (rs : List Nat) (x c : Nat), vs = [.ref ca, .ref ka, .ref ra, tV [c]] ∧ Fits I ps ∧ H ca = some (.lst (I.cells.map tV)) ∧ H ka = some (.dK (trueK (ps.map tkK))) ∧
  H ra = some (.tup ((tabL I rs).map tV)) ∧ rs.length = I.n ∧ I.gl[x]? = some c ∧ ∀ (H' : Hp) (t : Addr), Same H H' → H t = none → H' t = some (.tup ((tabL I (stepR I rs x)).map tV)) → Q (.ref t) H'
abbrev nBehind : List Str := ["_law_cells_here", "_law_known_here", "_law_rows", "_law_letter", "_law_has", "_law_places", "_law_found", "_law_one", "_law_ways", "_law_cell", "_law_other"]
theorem scBehind : FnScope nBehind ["_law_cells_here", "_law_known_here", "_law_rows", "_law_letter"] (defScope sBehind) := ⟨rfl, rfl, rfl, by decide +kernel, rfl, by decide +kernel, by decide +kernel⟩
theorem ok_behind {f : Addr} {fd : FuncData} (F : Fun K "_law_behind" "_law_behind" sBehind f fd) (B : Bt mg) (c1 : Cal P w K mg base "_law_known" 1 ["_law_pairs_here"] (spKnown K)) : FnOk P w K mg base CX0 2 f fd ["_law_cells_here", "_law_known_here", "_law_rows", "_law_letter"] spBehind := by
  obtain ⟨ga, gda, Ga, mGa, kGa, bGa⟩ := c1
  refine F.ok scBehind (fun vs H Q E h => ?_) (fun cdv A outer s H vs Q E hr h => ?_)
  · obtain ⟨ca, ka, ra, I, ps, rs, x, c, rfl, _⟩ := h
    rfl
  · obtain ⟨ca, ka, ra, I, ps, rs, x, c, rfl, ft, hca, hka, hra, hrl, hx, q⟩ := h
    have hu := hu_of hr
    have nd := scBehind.nd
    have ok := ft.ok
    have n6 : I.n ≤ 6 := ok.n6
    have hcl := ok.clen
    have hxk : x < I.k := by rw [← ok.gk]; exact (List.getElem?_eq_some_iff.mp hx).1
    refine ⟨_, pss_cons (ps_set (i := 4) nd rfl (.inr rfl) (pe_call Ga hr (by rfl) mGa kGa bGa .nil pass0 (pa_cons (pv 2) pa_nil)))
      (pss_cons (ps_setLc (i := 5) (own := [("_law_cell", 9)]) (g := gName 9) rfl nd rfl rfl (sw_true rfl rfl rfl (by decide +kernel)) (pi_list (pv 0)) (blkOk_by (N := nBehind) (sc := defScope sBehind) (by decide +kernel)) (fun _ _ _ _ _ => pg_name (i := 9) nd rfl (.inl rfl)) (fun _ _ _ _ _ => pts_one (pt_cmpR op_eq (pe_ix ix_str (pv 9) pe_int (fun _ _ => rfl)) (pv 3) (nomark _))) (fun _ _ _ _ _ => pv 9))
      (pss_cons (ps_set (i := 6) nd rfl (.inl rfl) (pe_lst pa_nil))
      (pss_cons (ps_for PassesOwn.never rfl (pi_list (pv 0)) (pg_name (i := 7) nd rfl (.inr rfl))
        (pss_cons (ps_set (i := 8) nd rfl (.inr rfl) (pe_lc (own := [("_law_cell", 9)]) (g := gName 9) rfl nd (pi_list (pv 5)) (blkOk_by (N := nBehind) (sc := defScope sBehind) (by decide +kernel)) (fun _ _ _ _ _ => pg_name (i := 9) nd rfl (.inl rfl)) (fun _ _ _ _ _ => pts_one (pt_cmp (pc_din hu (pe_op op_add_str (pv 7) (pv 9)) (pv 4)))) (fun _ _ _ _ _ => pv 9)))
        (pss_one (ps_set (i := 6) nd rfl (.inl rfl) (pe_op op_cat (pv 6) (pe_lc (own := [("_law_other", 10)]) (g := gName 10) rfl nd (pi_list (pv 0)) (blkOk_by (N := nBehind) (sc := defScope sBehind) (by decide +kernel)) (fun _ _ _ _ _ => pg_name (i := 10) nd rfl (.inr rfl))
          (fun _ _ _ _ _ => pts_one (pt_val (pe_callB (cr_anyK K rfl rfl) (by rfl) B.any (by decide +kernel) (pa_cons (pe_lc (own := [("_law_cell", 9)]) (g := gName 9) (tt := tYes) rfl nd (pi_listK K rfl (pv 8)) (blkOk_in (blkOk_by (N := nBehind) (sc := scOther) (by decide +kernel))) (fun _ _ _ _ _ => pg_name (i := 9) nd rfl (.inl rfl)) (fun _ _ _ _ _ => pts_nil)
            (fun _ _ _ _ _ => pe_cmp (pc_din hu (pe_op op_add_str (pv 9) (pv 10)) (pv 1)) rfl)) pa_nil))))
          (fun _ _ _ _ _ => pe_op op_add_str (pv 7) (pv 10))))))))
      (pss_one (ps_ret (pe_callTy call_tuple_of (by rfl) B.tuple (by decide +kernel) (pa_cons (pv 6) pa_nil))))))), ?_⟩
    refine ⟨_, rfl, ra, tabL I rs, rfl, .inr hra, tabL_nd ok hrl, Nat.le_trans (tabL_len ok hrl) (by decide), fun H1 hs s1 hs0 hhs => ?_⟩
    -- places
    have hca1 := s1 _ _ hca
    refine ⟨_, rfl, ca, rfl, ⟨_, SqL.of hca1⟩, fun pa hpa => ?_⟩
    refine lc_it (walk_list (xs := I.cells.map tV)) (fun j H' => Same H1 H' ∧ H' pa = some (.lst (((List.range j).filter fun q => q / I.s == x).map fun q => tV (I.cells.getD q [])))) ⟨same_upd hpa, upd_same⟩ ?_ ?_ ?_
    · rintro j H' _ ⟨s2, _⟩
      exact SqL.of (s2 _ _ hca1)
    · rintro j v H2 H2' hj ⟨s2, e2⟩ ⟨rfl, hv⟩
      rw [List.length_map, hcl] at hj
      rw [List.getElem?_map, cget_n ok hj] at hv
      have hv := Option.some.inj hv
      subst hv
      have hjk : j / I.s < I.k := by rw [Nat.div_lt_iff_lt_mul ok.s1]; exact hj
      obtain ⟨g, hg⟩ : ∃ g, I.gl[j / I.s]? = some g := ⟨I.gl[j / I.s]'(by rw [ok.gk]; exact hjk), List.getElem?_eq_getElem _⟩
      obtain ⟨d, hce⟩ : ∃ d, I.cells.getD j [] = [g, d] := by
        have h := ok.cget j
        rw [cget_n ok hj, hg] at h
        cases hd : I.sl[j % I.s]? with
        | none =>
          rw [hd] at h
          cases h
        | some d =>
          rw [hd] at h
          exact ⟨d, Option.some.inj h⟩
      have l2 : (tx [g, d]).length ≤ sizeLine := by
        rw [tx_len]
        exact Nat.le_of_lt (small1000 (show 2 ≤ 1000 by omega))
      rw [hce]
      refine ⟨rfl, ?_⟩
      refine ⟨_, rfl, tx [g, d], 0, g, rfl, rfl, l2, rfl, _, rfl, rfl, _, rfl, ?_⟩
      have hfl := List.length_filter_le (fun q => q / I.s == x) (List.range j)
      rw [List.length_range] at hfl
      rw [range_filter_succ, List.map_append]
      by_cases e : j / I.s = x
      · have hgc : g = c := by
          rw [e, hx] at hg
          exact (Option.some.inj hg).symm
        subst hgc
        have hd : decide (V.str (⟨#[g]⟩ : Str) = tV [g]) = true := decide_eq_true rfl
        rw [hd]
        refine iteT ⟨_, rfl, _, e2, by rw [List.length_map]; exact small1000 (by omega), s2.put hpa, ?_⟩
        rw [upd_same, e, beq_self_eq_true, if_pos rfl, List.map_cons, hce]
        rfl
      · have hgc : g ≠ c := fun z => e (nd_get ok.gn (by rw [hg, z]) hx)
        have hd : decide (V.str (⟨#[g]⟩ : Str) = tV [c]) = false := decide_eq_false fun z => by
          have z : tx [g] = tx [c] := V.str.inj z
          have z := tx_inj z
          injection z with z _
          exact hgc z
        rw [hd]
        refine iteF ⟨s2, ?_⟩
        rw [if_neg (by rw [beq_iff_eq]; exact e), List.map_nil, List.append_nil]
        exact e2
    rintro H2 ⟨s2, e2⟩
    rw [List.length_map, hcl, show I.n = I.k * I.s from rfl, places_eq ok.s1 hxk] at e2
    have s02 := s1.trans s2
    have hhs2 := s2 _ _ hhs
    -- found = []; for one in cells
    refine ⟨Nat.zero_le _, fun l0 hl0 => ?_⟩
    have pll : (K18.places I.s x).length = I.s := places_len _ _
    have s6 : I.s ≤ 6 := by have := ok.s4; omega
    refine ⟨_, rfl, ca, rfl, ⟨_, SqL.of (same_upd hl0 _ _ (s02 _ _ hca))⟩, ?_⟩
    refine for_it (walk_list (xs := I.cells.map tV)) (fun i σ H' => ∃ (y7 y8 : Option V) (a : Addr), σ = [some (.ref ca), some (.ref ka), some (.ref ra), some (tV [c]), some (.ref hs), some (.ref pa), some (.ref a), y7, y8, none, none] ∧ Same H2 H' ∧ H' a = some (.lst ((tabTo I (stepR I rs x) i).map tV))) ⟨none, none, l0, rfl, same_upd hl0, upd_same⟩ ?_ ?_ ?_
    · rintro i σ H' _ ⟨y7, y8, a, rfl, s3, _⟩
      exact SqL.of (s3 _ _ (s02 _ _ hca))
    · rintro i v σ H3 H3' hi ⟨y7, y8, a, rfl, s3, ha⟩ ⟨rfl, hv⟩
      rw [List.length_map, hcl] at hi
      rw [List.getElem?_map, cget_n ok hi] at hv
      have hv := Option.some.inj hv
      subst hv
      have one2 := cell_len2 ok hi
      have hst : (stepR I rs x).getD i 0 = K18.st I.A I.s x (rs.getD i 0) := stepR_get I (by rw [hrl]; exact hi)
      generalize hone : I.cells.getD i [] = one at *
      -- ways
      refine ⟨_, rfl, pa, rfl, ⟨_, SqL.of (s3 _ _ e2)⟩, fun wa hwa => ?_⟩
      refine lc_it (walk_list (xs := (K18.places I.s x).map fun q => tV (I.cells.getD q []))) (fun j H' => Same H3' H' ∧ H' wa = some (.lst ((((K18.places I.s x).take j).filter fun q => (rs.getD i 0).testBit q).map fun q => tV (I.cells.getD q [])))) ⟨same_upd hwa, upd_same⟩ ?_ ?_ ?_
      · rintro j H' _ ⟨s4, _⟩
        exact SqL.of (s4 _ _ (s3 _ _ e2))
      · rintro j v H4 H4' hj ⟨s4, e4⟩ ⟨rfl, hv⟩
        rw [List.length_map] at hj
        have hgj : (K18.places I.s x)[j]? = some (K18.places I.s x)[j] := List.getElem?_eq_getElem hj
        rw [List.getElem?_map, hgj] at hv
        have hv := Option.some.inj hv
        subst hv
        generalize hqq : (K18.places I.s x)[j] = qq at *
        have hqn : qq < I.n := place_lt ok hxk hgj
        have oth2 := cell_len2 ok hqn
        have dg := DGet.k (k := tkK (one ++ I.cells.getD qq [])) (s4 _ _ (s3 _ _ hhs2))
        have ek : V.str (tx one ++ tx (I.cells.getD qq [])) = kV (tkK (one ++ I.cells.getD qq [])) := by rw [tx_app]; rfl
        have lapp : (tx one).length + (tx (I.cells.getD qq [])).length ≤ sizeLine := by rw [tx_len, tx_len, one2, oth2]; decide
        have hb := tabL_mem ok hrl hi hqn
        rw [hone] at hb
        have hfl := List.length_filter_le (fun q => (rs.getD i 0).testBit q) ((K18.places I.s x).take j)
        rw [List.length_take] at hfl
        refine ⟨rfl, ?_⟩
        refine ⟨_, rfl, _, rfl, _, _, rfl, rfl, lapp, _, rfl, hs, _, rfl, by rw [ek]; exact dg, _, rfl, ?_⟩
        rw [take_filter_succ _ hgj, List.map_append]
        by_cases hm : one ++ I.cells.getD qq [] ∈ tabL I rs
        · rw [trueK_some (tkK_mem.mpr hm), hb.mp hm]
          refine iteT ⟨_, rfl, _, e4, by rw [List.length_map]; exact small1000 (by omega), s4.put hwa, ?_⟩
          rw [upd_same]
          rfl
        · rw [trueK_none fun h => hm (tkK_mem.mp h), (Bool.not_eq_true _).mp fun h => hm (hb.mpr h)]
          refine iteF ⟨s4, ?_⟩
          rw [if_neg (by decide), List.map_nil, List.append_nil]
          exact e4
      rintro H4 ⟨s4, e4⟩
      rw [List.length_map, List.take_length] at e4
      have e4 : H4 wa = some (.lst ((waysOf I (rs.getD i 0) x).map fun q => tV (I.cells.getD q []))) := e4
      have wl : (waysOf I (rs.getD i 0) x).length ≤ 6 := by
        have := List.length_filter_le (fun q => (rs.getD i 0).testBit q) (K18.places I.s x)
        unfold waysOf
        omega
      have wm : ∀ q ∈ waysOf I (rs.getD i 0) x, q < I.n := by
        intro q hq
        unfold waysOf at hq
        rw [List.mem_filter] at hq
        obtain ⟨z, hz⟩ := List.getElem?_of_mem hq.1
        exact place_lt ok hxk hz
      have s24 := s3.trans s4
      -- the row
      refine ⟨_, rfl, _, rfl, ca, rfl, ⟨_, SqL.of (s24 _ _ (s02 _ _ hca))⟩, fun D hD => ?_⟩
      refine lc_it (walk_list (xs := I.cells.map tV)) (fun j H' => Same H4 H' ∧ H' D = some (.lst ((rowTo I one ((stepR I rs x).getD i 0) j).map tV))) ⟨same_upd hD, upd_same⟩ ?_ ?_ ?_
      · rintro j H' _ ⟨s5, _⟩
        exact SqL.of (s5 _ _ (s24 _ _ (s02 _ _ hca)))
      · rintro j v H5 H5' hj ⟨s5, e5⟩ ⟨rfl, hv⟩
        rw [List.length_map, hcl] at hj
        rw [List.getElem?_map, cget_n ok hj] at hv
        have hv := Option.some.inj hv
        subst hv
        have oth2 := cell_len2 ok hj
        have lapp : (tx one).length + (tx (I.cells.getD j [])).length ≤ sizeLine := by rw [tx_len, tx_len, one2, oth2]; decide
        refine ⟨rfl, ?_⟩
        refine ⟨_, rfl, wa, rfl, ⟨_, SqL.of (s5 _ _ e4)⟩, fun E hE => ?_⟩
        refine lc_it (walk_list (xs := (waysOf I (rs.getD i 0) x).map fun q => tV (I.cells.getD q []))) (fun l H' => Same H5' H' ∧ H' E = some (.lst ((((waysOf I (rs.getD i 0) x).take l).map fun q => decide (I.cells.getD q [] ++ I.cells.getD j [] ∈ ps)).map V.bl))) ⟨same_upd hE, upd_same⟩ ?_ ?_ ?_
        · rintro l H' _ ⟨s6', _⟩
          exact SqL.of (s6' _ _ (s5 _ _ e4))
        · rintro l v H6 H6' hl ⟨s6', e6⟩ ⟨rfl, hv⟩
          rw [List.length_map] at hl
          have hgl : (waysOf I (rs.getD i 0) x)[l]? = some (waysOf I (rs.getD i 0) x)[l] := List.getElem?_eq_getElem hl
          rw [List.getElem?_map, hgl] at hv
          have hv := Option.some.inj hv
          subst hv
          generalize hqq : (waysOf I (rs.getD i 0) x)[l] = qq at *
          have hqn := wm qq (List.mem_of_getElem? hgl)
          have way2 := cell_len2 ok hqn
          have dg := DGet.k (k := tkK (I.cells.getD qq [] ++ I.cells.getD j [])) (s6' _ _ (s5 _ _ (s24 _ _ (s02 _ _ hka))))
          have ek : V.str (tx (I.cells.getD qq []) ++ tx (I.cells.getD j [])) = kV (tkK (I.cells.getD qq [] ++ I.cells.getD j [])) := by rw [tx_app]; rfl
          have lapp2 : (tx (I.cells.getD qq [])).length + (tx (I.cells.getD j [])).length ≤ sizeLine := by rw [tx_len, tx_len, way2, oth2]; decide
          have hisS : (valV (trueK (ps.map tkK)) (tkK (I.cells.getD qq [] ++ I.cells.getD j []))).isSome = decide (I.cells.getD qq [] ++ I.cells.getD j [] ∈ ps) := by
            by_cases hm : I.cells.getD qq [] ++ I.cells.getD j [] ∈ ps
            · rw [trueK_some (tkK_mem.mpr hm), decide_eq_true hm]
              rfl
            · rw [trueK_none fun h => hm (tkK_mem.mp h), decide_eq_false hm]
              rfl
          refine ⟨rfl, ?_⟩
          refine ⟨_, rfl, _, rfl, _, _, rfl, rfl, lapp2, _, rfl, ka, _, rfl, by rw [ek]; exact dg, _, e6, by rw [List.length_map, List.length_map, List.length_take]; exact small1000 (by omega), s6'.put hE, ?_⟩
          rw [upd_same, hisS, take_snoc hgl, List.map_append, List.map_append]
          rfl
        rintro H6 ⟨s6', e6⟩
        rw [List.length_map, List.take_length] at e6
        refine ⟨E, _, rfl, SqL.of e6, _, rfl, ?_⟩
        have hany : ((((waysOf I (rs.getD i 0) x).map fun q => decide (I.cells.getD q [] ++ I.cells.getD j [] ∈ ps)).any id)) = (K18.st I.A I.s x (rs.getD i 0)).testBit j := by
          rw [List.any_map, ← way_bit ft hxk hj]
          rfl
        rw [hany]
        have s46 := s5.trans s6'
        cases hbit : (K18.st I.A I.s x (rs.getD i 0)).testBit j with
        | true =>
          refine iteT ⟨_, rfl, _, rfl, _, _, rfl, rfl, lapp, _, s6' _ _ e5, ?_, s46.put hD, ?_⟩
          · have := rowTo_len I one ((stepR I rs x).getD i 0) j
            rw [List.length_map]
            exact small1000 (by omega)
          · rw [upd_same, rowTo_yes (by rw [hst]; exact hbit), List.map_append, tx_app]
            rfl
        | false =>
          refine iteF ⟨s46, ?_⟩
          rw [rowTo_no (by rw [hst]; exact hbit)]
          exact s6' _ _ e5
      rintro H5 ⟨s5, e5⟩
      rw [List.length_map, hcl] at e5
      have s25 := s24.trans s5
      refine ⟨a, D, _, _, rfl, rfl, s5 _ _ (s4 _ _ ha), e5, ?_, fun p hp => ?_⟩
      · have h1 := tabTo_len I (stepR I rs x) i
        have h2 := rowTo_len I one ((stepR I rs x).getD i 0) I.n
        have h3 : i * I.n ≤ 6 * 6 := Nat.mul_le_mul (by omega) n6
        rw [List.length_map, List.length_map]
        exact Nat.le_of_lt (small1000 (by omega))
      refine ⟨_, _, p, rfl, s25.trans (same_upd hp), ?_⟩
      rw [upd_same, tabTo_succ, List.map_append, hone]
    · rintro σ H3 ⟨y7, y8, a, rfl, s3, ha⟩
      rw [List.length_map, hcl] at ha
      have hsl : (stepR I rs x).length = I.n := by rw [stepR_len, hrl]
      refine ⟨_, rfl, a, _, rfl, .inl ⟨SqL.of ha, fun t ht => ?_⟩⟩
      refine q _ t ((s02.trans s3).trans (same_upd ht)) ((s02.trans s3).free ht) ?_
      rw [upd_same]
      unfold tabL
      rw [hsl]
end
end N18
end
section
set_option Elab.async false
set_option linter.all false
set_option maxRecDepth 100000
set_option maxHeartbeats 4000000
namespace N18
open PySem PySem.Spec PyProof.Rows L2 TL PySem.W
/-- a table as a dict's key -/
def keyT (I : Inst) (rs : List Nat) : List Key := (tabL I rs).map tkK
theorem keyT_map (I : Inst) (rs : List Nat) : (keyT I rs).map kV = (tabL I rs).map tV := by
  unfold keyT
  rw [List.map_map]
  rfl
theorem keyT_inj {I : Inst} (ok : I.Ok) {r r' : List Nat} (h1 : r.length = I.n) (h2 : r'.length = I.n) (b1 : ∀ m ∈ r, m < 2 ^ I.n) (b2 : ∀ m ∈ r', m < 2 ^ I.n) (h : keyT I r = keyT I r') : r = r' := by
  refine tabS_inj ok h1 h2 b1 b2 ?_
  unfold keyT at h
  unfold tabS
  have := (List.map_inj_right (f := tkK) fun x y e => tkK_inj e).mp h
  rw [this]
structure GoodR (I : Inst) (r : List Nat) : Prop where
  len : r.length = I.n
  lt : ∀ m ∈ r, m < 2 ^ I.n
theorem Fd.good {I : Inst} {fd : List Ent} (F : Fd I fd) (ok : I.Ok) : ∀ r ∈ rowsOf fd, GoodR I r := by
  intro r hr
  unfold rowsOf at hr
  obtain ⟨e, he, rfl⟩ := List.mem_map.mp hr
  exact ⟨F.rlen ok he, F.rlt ok he⟩
theorem keysT_mem {I : Inst} (ok : I.Ok) {l : List (List Nat)} (hl : ∀ r ∈ l, GoodR I r) {r : List Nat} (hr : GoodR I r) : keyT I r ∈ l.map (keyT I) ↔ r ∈ l := by
  constructor
  · intro h
    obtain ⟨a, ha, e⟩ := List.mem_map.mp h
    have g := hl a ha
    rw [← keyT_inj ok g.len hr.len g.lt hr.lt e]
    exact ha
  · intro h
    exact List.mem_map.mpr ⟨r, h, rfl⟩
theorem keysT_nd {I : Inst} (ok : I.Ok) {l : List (List Nat)} (hl : ∀ r ∈ l, GoodR I r) (h : l.Nodup) : (l.map (keyT I)).Nodup := by
  rw [List.nodup_iff_pairwise_ne] at h ⊢
  rw [List.pairwise_map]
  refine List.Pairwise.imp_of_mem ?_ h
  intro a b ha hb hne e
  exact hne (keyT_inj ok (hl a ha).len (hl b hb).len (hl a ha).lt (hl b hb).lt e)
/-- the list of the first words and their tables -/
structure FndAt (H : Hp) (I : Inst) (fd : List Ent) (fa : Addr) (qs : List Addr) : Prop where
  fnd : H fa = some (.lst (qs.map V.ref))
  ql : qs.length = fd.length
  qv : ∀ (i : Nat) (q : Addr), qs[i]? = some q → ∃ t, H q = some (.tup [tV (wordL I (ent fd i).1), .ref t]) ∧ H t = some (.tup ((tabL I (ent fd i).2).map tV))
theorem FndAt.same {H H' : Hp} {I : Inst} {fd : List Ent} {fa : Addr} {qs : List Addr} (k : FndAt H I fd fa qs) (s : Same H H') : FndAt H' I fd fa qs := by
  refine ⟨s _ _ k.fnd, k.ql, fun i q h => ?_⟩
  obtain ⟨t, h1, h2⟩ := k.qv i q h
  exact ⟨t, s _ _ h1, s _ _ h2⟩
theorem FndAt.get {H : Hp} {I : Inst} {fd : List Ent} {fa : Addr} {qs : List Addr} (k : FndAt H I fd fa qs) {i : Nat} (h : i < fd.length) : ∃ q t, qs[i]? = some q ∧ H q = some (.tup [tV (wordL I (ent fd i).1), .ref t]) ∧ H t = some (.tup ((tabL I (ent fd i).2).map tV)) := by
  have hq : qs[i]? = some (qs[i]'(by rw [k.ql]; exact h)) := List.getElem?_eq_getElem _
  obtain ⟨t, h1, h2⟩ := k.qv i _ hq
  exact ⟨_, t, hq, h1, h2⟩
theorem FndAt.dict {H : Hp} {I : Inst} {fd : List Ent} {fa na : Addr} {qs : List Addr} {kvs : List (List Key × V)} {o : HO} (k : FndAt H I fd fa qs) (hn : H na = some (.dT kvs)) : FndAt (upd H na o) I fd fa qs := by
  have keep : ∀ b x, H b = some x → x ≠ .dT kvs → (upd H na o) b = some x := by
    intro b x h1 h2
    rw [upd_ne (ne_of h1 hn h2)]
    exact h1
  refine ⟨keep _ _ k.fnd (fun z => by cases z), k.ql, fun i q h => ?_⟩
  obtain ⟨t, h1, h2⟩ := k.qv i q h
  exact ⟨t, keep _ _ h1 (fun z => by cases z), keep _ _ h2 (fun z => by cases z)⟩
theorem FndAt.add {H : Hp} {I : Inst} {fd : List Ent} {fa q t : Addr} {qs : List Addr} {e : Ent} (k : FndAt H I fd fa qs) (h1 : H q = some (.tup [tV (wordL I e.1), .ref t])) (h2 : H t = some (.tup ((tabL I e.2).map tV))) :
    FndAt (upd H fa (.lst (qs.map V.ref ++ [.ref q]))) I (fd ++ [e]) fa (qs ++ [q]) := by
  have tupK : ∀ b xs, H b = some (.tup xs) → (upd H fa (.lst (qs.map V.ref ++ [.ref q]))) b = some (.tup xs) := fun b xs h => by
    rw [upd_ne (ne_of h k.fnd (by intro z; cases z))]
    exact h
  refine ⟨?_, by rw [List.length_append, List.length_append, k.ql]; rfl, fun i u h => ?_⟩
  · rw [upd_same, List.map_append]
    rfl
  · by_cases hi : i < qs.length
    · rw [List.getElem?_append_left hi] at h
      obtain ⟨t', g1, g2⟩ := k.qv i u h
      rw [ent_app (by rw [← k.ql]; exact hi)]
      exact ⟨t', tupK _ _ g1, tupK _ _ g2⟩
    · rw [List.getElem?_append_right (by omega)] at h
      have hi0 : i - qs.length = 0 := by
        have := (List.getElem?_eq_some_iff.mp h).1
        simp at this
        omega
      rw [hi0] at h
      have h : q = u := Option.some.inj h
      subst h
      have : i = fd.length := by rw [← k.ql]; omega
      subst this
      have e1 : ent (fd ++ [e]) fd.length = e := by
        unfold ent
        rw [List.getD_eq_getElem?_getD, List.getElem?_append_right (Nat.le_refl _), Nat.sub_self]
        rfl
      rw [e1]
      exact ⟨t, tupK _ _ h1, tupK _ _ h2⟩
theorem addOne_len (I : Inst) (i : Nat) (fd : List Ent) (x : Nat) : (addOne I i fd x).length ≤ fd.length + 1 := by
  obtain ⟨m, hm, hl⟩ := addOne_app I i fd x
  rw [hm, List.length_append]
  omega
theorem goTo_len_le (I : Inst) (i : Nat) (fd : List Ent) : ∀ j, (goTo I i fd j).length ≤ fd.length + j
  | 0 => Nat.le_refl _
  | j + 1 => by
    have := goTo_len_le I i fd j
    have h := addOne_len I i (goTo I i fd j) j
    rw [goTo_succ]
    omega
section
variable {P : Program} {w : World} {K : PySem.W.Frag} {mg : Str → Option Value} {base : Heap}
/-! ### closure -/
def spClosureL : Sp := fun vs H Q _ => ∃ (ca ka : Addr) (I : Inst) (ps : List (List Nat)), vs = [tV I.gl, .ref ca, .ref ka] ∧ Fits I ps ∧ H ca = some (.lst (I.cells.map tV)) ∧ H ka = some (.dK (trueK (ps.map tkK))) ∧
  (¬ Small I → ∀ H', Same H H' → Q .non H') ∧ (Small I → ∀ (H' : Hp) (fa : Addr) (qs : List Addr), Same H H' → H fa = none → FndAt H' I (all I) fa qs → Q (.ref fa) H')
abbrev nClosure : List Str := ["_law_given", "_law_cells_here", "_law_known_here", "_law_found", "_law_numbers", "_law_at", "_law_letter", "_law_rows"]
theorem scClosure : FnScope nClosure ["_law_given", "_law_cells_here", "_law_known_here"] (defScope sClosure) := ⟨rfl, rfl, rfl, by decide +kernel, rfl, by decide +kernel, by decide +kernel⟩
theorem ok_closureL {f : Addr} {fd : FuncData} (F : Fun K "_law_closure" "_law_closure" sClosure f fd) (B : Bt mg) (c1 : Cal P w K mg base "_law_plain" 2 ["_law_cells_here", "_law_known_here"] spPlain)
    (c2 : Cal P w K mg base "_law_behind" 2 ["_law_cells_here", "_law_known_here", "_law_rows", "_law_letter"] spBehind) : FnOk P w K mg base CX0 3 f fd ["_law_given", "_law_cells_here", "_law_known_here"] spClosureL := by
  obtain ⟨ga, gda, Ga, mGa, kGa, bGa⟩ := c1
  obtain ⟨gb, gdb, Gb, mGb, kGb, bGb⟩ := c2
  refine F.ok scClosure (fun vs H Q E h => ?_) (fun cdv A outer s H vs Q E hr h => ?_)
  · obtain ⟨ca, ka, I, ps, rfl, _⟩ := h
    rfl
  · obtain ⟨ca, ka, I, ps, rfl, ft, hca, hka, qn, qs'⟩ := h
    have hu := hu_of hr
    have nd := scClosure.nd
    have ok := ft.ok
    have k3 := ok.k3
    refine ⟨_, pss_cons (ps_set (i := 3) nd rfl (.inl rfl) (pe_lst (pa_cons (pe_tup (pa_cons pe_str (pa_cons (pe_call Ga hr (by rfl) mGa kGa bGa .nil pass0 (pa_cons (pv 1) (pa_cons (pv 2) pa_nil))) pa_nil))) pa_nil)))
      (pss_cons (ps_set (i := 4) nd rfl (.inl rfl) (pe_dispT hu (pe_ix ix_tup (pe_ix ix_list (pv 3) pe_int (fun _ _ => rfl)) pe_int (fun _ _ => rfl)) pe_int))
      (pss_cons (ps_for PassesOwn.never rfl (pi_range1 (by rfl) B.range (pa_cons pe_int pa_nil)) (pg_name (i := 5) nd rfl (.inl rfl))
        (pss_cut (ps_if (pt_cmpR op_lt (pv 5) (pe_callB call_len_seq (by rfl) B.len PySem.boot_len (pa_cons (pv 3) pa_nil)) (nomark _))
          (pss_one (ps_for PassesOwn.never rfl (pi_str (pv 0)) (pg_name (i := 6) nd rfl (.inl rfl))
            (pss_cons (ps_set (i := 7) nd rfl (.inl rfl) (pe_call Gb hr (by rfl) mGb kGb bGb .nil pass0 (pa_cons (pv 1) (pa_cons (pv 2) (pa_cons (pe_ix ix_tup (pe_ix ix_list (pv 3) (pv 5) (fun _ _ => rfl)) pe_int (fun _ _ => rfl)) (pa_cons (pv 6) pa_nil))))))
            (pss_one (ps_if (pt_cmp (pc_dnotin hu (pv 7) (pv 4)))
              (pss_cons (ps_dput hu (pv 4) (pv 7) (pe_callB call_len_seq (by rfl) B.len PySem.boot_len (pa_cons (pv 3) pa_nil)) rfl)
              (pss_one (ps_expr (pe_bm PySem.F.plainAttrs_list PySem.F.slot_list_append PySem.F.type_list_append mt_append (pv 3) (pa_cons (pe_tup (pa_cons (pe_op op_add_str (pe_ix ix_tup (pe_ix ix_list (pv 3) (pv 5) (fun _ _ => rfl)) pe_int (fun _ _ => rfl)) (pv 6)) (pa_cons (pv 7) pa_nil))) pa_nil))))) pss_nil)))))
          pss_nil)
        (pss_one (ps_if (pt_cmpR op_gt (pe_callB call_len_seq (by rfl) B.len PySem.boot_len (pa_cons (pv 3) pa_nil)) pe_int (nomark _)) (pss_one (ps_ret pe_non)) pss_nil))))
      (pss_one (ps_ret (pv 3))))), ?_⟩
    -- found = [('', plain)]
    refine ⟨_, rfl, _, rfl, ca, ka, I, ps, rfl, ft, hca, hka, fun H1 t s1 ht0 ht => ?_⟩
    refine ⟨by show 2 ≤ sizeLine; decide, fun q hq => ?_⟩
    refine ⟨by show 1 ≤ sizeLine; decide, fun fa hfa => ?_⟩
    have s2 : Same H1 (upd (upd H1 q (.tup [.str "", .ref t])) fa (.lst [.ref q])) := (same_upd hq).trans (same_upd hfa)
    have fa0 : H fa = none := (s1.trans (same_upd hq)).free hfa
    have f2 : FndAt (upd (upd H1 q (.tup [.str "", .ref t])) fa (.lst [.ref q])) I (bfs I 0) fa [q] := by
      refine ⟨upd_same, rfl, fun i u h => ?_⟩
      cases i with
      | zero =>
        have h : q = u := Option.some.inj h
        subst h
        refine ⟨t, ?_, s2 _ _ ht⟩
        rw [upd_ne (ne_of_none upd_same hfa), upd_same]
        rfl
      | succ i => simp at h
    generalize upd (upd H1 q (.tup [.str "", .ref t])) fa (.lst [.ref q]) = H2 at *
    have s02 := s1.trans s2
    -- numbers
    intro na hna
    have s3 : Same H2 (upd H2 na (.dT [])) := same_upd hna
    obtain ⟨q0, t0, hq0, e1, e2⟩ := f2.get (i := 0) (by show 0 < 1; decide)
    have e2' : H2 t0 = some (.tup ((tabL I I.A).map tV)) := e2
    refine ⟨_, rfl, fa, _, _, .ref q0, rfl, rfl, SqL.of (s3 _ _ f2.fnd), atI_nat (j := 0) (by rw [List.getElem?_map, hq0]; rfl), q0, _, _, _, rfl, rfl, SqT.of (s3 _ _ e1), rfl, ?_⟩
    refine ⟨upd_same, t0, keyT I I.A, rfl, by rw [keyT_map]; exact s3 _ _ e2', ?_⟩
    rw [upd_upd]
    have s4 : Same H2 (upd H2 na (.dT [(keyT I I.A, V.int 0)])) := same_upd hna
    have n4 : (upd H2 na (.dT [(keyT I I.A, V.int 0)])) na = some (.dT (dictOf ((rowsOf (bfs I 0)).map (keyT I)))) := upd_same
    have f4 := f2.same s4
    generalize upd H2 na (.dT [(keyT I I.A, V.int 0)]) = H4 at *
    have s04 := s02.trans s4
    have na0 : H na = none := s02.free hna
    clear s3 e1 e2 e2' hna hq0
    -- for at in range(200)
    refine ⟨200, rfl, by decide, by decide, ?_⟩
    have fin : ∀ (σ' : L2.St) (H' : Hp), True := fun _ _ => trivial
    refine for_it (walk_range (lo := 0) (n := 200)) (fun n σ H' => ∃ (y5 y6 y7 : Option V) (qs : List Addr), σ = [some (tV I.gl), some (.ref ca), some (.ref ka), some (.ref fa), some (.ref na), y5, y6, y7] ∧ Same H H' ∧ FndAt H' I (bfs I n) fa qs ∧ H' na = some (.dT (dictOf ((rowsOf (bfs I n)).map (keyT I)))) ∧ ∀ m, m ≤ n → (bfs I m).length ≤ 200)
      ⟨none, none, none, [q], rfl, s04, f4, n4, fun m hm => by
        have : m = 0 := by omega
        subst this
        show 1 ≤ 200
        decide⟩ (fun _ _ _ _ _ => trivial) ?_ ?_
    · rintro n v σ H5 H5' hn ⟨y5, y6, y7, qs, rfl, s5, f5, n5, small⟩ ⟨rfl, hv⟩
      have hv : v = nV n := by rw [hv]; show V.int _ = V.int _; rw [Int.zero_add]
      subst hv
      have len5 := small n (Nat.le_refl n)
      have F0 := bfs_fd I n
      refine ⟨fun σ' H' => ∃ (y6 y7 : Option V) (qs : List Addr), σ' = [some (tV I.gl), some (.ref ca), some (.ref ka), some (.ref fa), some (.ref na), some (nV n), y6, y7] ∧ Same H H' ∧ FndAt H' I (bfs I (n + 1)) fa qs ∧ H' na = some (.dT (dictOf ((rowsOf (bfs I (n + 1))).map (keyT I)))), ?_, ?_⟩
      · refine ⟨_, rfl, _, rfl, fa, _, rfl, .inl (SqL.of f5.fnd), _, _, rfl, rfl, _, rfl, ?_⟩
        have ecmp : decide (((n : Nat) : Int) < (((qs.map V.ref).length : Nat) : Int)) = decide (n < (bfs I n).length) := by
          rw [List.length_map, f5.ql]
          exact decide_eq_decide.mpr Int.ofNat_lt
        dsimp only
        rw [ecmp]
        by_cases hlt : n < (bfs I n).length
        · rw [decide_eq_true hlt]
          refine iteT ?_
          have hgo : bfs I (n + 1) = goTo I n (bfs I n) I.k := bfs_succ I hlt
          refine ⟨_, rfl, tx I.gl, rfl, for_it walk_str (fun j σ H' => ∃ (y6 y7 : Option V) (qs : List Addr), σ = [some (tV I.gl), some (.ref ca), some (.ref ka), some (.ref fa), some (.ref na), some (nV n), y6, y7] ∧ Same H H' ∧ FndAt H' I (goTo I n (bfs I n) j) fa qs ∧ H' na = some (.dT (dictOf ((rowsOf (goTo I n (bfs I n) j)).map (keyT I))))) ⟨y6, y7, qs, rfl, s5, f5, n5⟩ (fun _ _ _ _ _ => trivial) ?_ ?_⟩
          · rintro j v σ H6 H6' hj ⟨y6, y7, qs, rfl, s6, f6, n6⟩ ⟨rfl, lc, hlc, rfl⟩
            rw [tx_size, ok.gk] at hj
            obtain ⟨hgl, hgd⟩ := letter_get hlc
            have hlen := goTo_len_le I n (bfs I n) j
            generalize hfd : goTo I n (bfs I n) j = fdj at *
            have Fj : Fd I fdj := by rw [← hfd]; exact F0.go hlt j (by omega)
            have hnj : n < fdj.length := by rw [← hfd]; exact Nat.lt_of_lt_of_le hlt (goTo_len _ _ _ _)
            have hsucc : goTo I n (bfs I n) (j + 1) = addOne I n fdj j := by rw [goTo_succ, hfd]
            obtain ⟨q0, t0, hq0, e1, e2⟩ := f6.get hnj
            have hrl : (ent fdj n).2.length = I.n := Fj.rlen ok (ent_mem hnj)
            refine ⟨_, rfl, _, rfl, _, rfl, _, rfl, fa, _, _, .ref q0, rfl, rfl, SqL.of f6.fnd, atI_nat (by rw [List.getElem?_map, hq0]; rfl), q0, _, _, _, rfl, rfl, SqT.of e1, rfl, _, rfl, ca, ka, t0, I, ps, (ent fdj n).2, j, lc, rfl, ft, s6 _ _ hca, s6 _ _ hka, e2, hrl, hgl, fun H7 t7 s7 ht70 ht7 => ?_⟩
            have f7 := f6.same s7
            have n7 := s7 _ _ n6
            have s07 := s6.trans s7
            have keyE : H7 t7 = some (.tup ((keyT I (stepR I (ent fdj n).2 j)).map kV)) := by rw [keyT_map]; exact ht7
            have F1 : Fd I (addOne I n fdj j) := Fj.add hnj hj
            have gR : GoodR I (stepR I (ent fdj n).2 j) := F1.good ok _ (addOne_mem I n fdj j)
            generalize hr' : stepR I (ent fdj n).2 j = r at *
            have dg := DGet.t n7 keyE
            by_cases hm : r ∈ rowsOf fdj
            · have ha : addOne I n fdj j = fdj := by
                unfold addOne
                rw [hr', if_pos hm]
              obtain ⟨i0, hi0⟩ := List.getElem?_of_mem hm
              rw [dictOf_some (keysT_nd ok (Fj.good ok) Fj.nd) (i := i0) (by rw [List.getElem?_map, hi0]; rfl)] at dg
              refine ⟨_, rfl, _, rfl, na, _, rfl, dg, _, rfl, iteF ?_⟩
              refine ⟨_, _, qs, rfl, s07, ?_, ?_⟩
              · rw [hsucc, ha]
                exact f7
              · rw [hsucc, ha]
                exact n7
            · have ha : addOne I n fdj j = fdj ++ [((ent fdj n).1 ++ [j], r)] := by
                unfold addOne
                rw [hr', if_neg hm]
              have hnk : keyT I r ∉ (rowsOf fdj).map (keyT I) := fun h => hm ((keysT_mem ok (Fj.good ok) gR).mp h)
              rw [dictOf_none hnk] at dg
              refine ⟨_, rfl, _, rfl, na, _, rfl, dg, _, rfl, iteT ?_⟩
              have hlenq : (qs.map V.ref).length = ((rowsOf fdj).map (keyT I)).length := by rw [List.length_map, List.length_map, rowsOf_len, f6.ql]
              have dp := DPut.t (v := V.int (((qs.map V.ref).length : Nat) : Int)) n7 keyE (by rw [dictOf_len, ← hlenq, List.length_map, f6.ql]; exact small1000 (by omega))
              have eput : putK (dictOf ((rowsOf fdj).map (keyT I))) (keyT I r) (V.int (((qs.map V.ref).length : Nat) : Int)) = dictOf ((rowsOf (addOne I n fdj j)).map (keyT I)) := by
                rw [ha, hlenq]
                show putK _ _ (nV _) = _
                rw [dictOf_put hnk, rowsOf_app, List.map_append]
                rfl
              rw [eput] at dp
              refine ⟨_, rfl, fa, _, rfl, .inl (SqL.of f7.fnd), _, rfl, _, rfl, na, _, rfl, dp, ?_⟩
              have f8 : FndAt (upd H7 na (.dT (dictOf ((rowsOf (addOne I n fdj j)).map (keyT I))))) I fdj fa qs := f7.dict n7
              have n8 : (upd H7 na (.dT (dictOf ((rowsOf (addOne I n fdj j)).map (keyT I))))) na = some (.dT (dictOf ((rowsOf (addOne I n fdj j)).map (keyT I)))) := upd_same
              have s08 : Same H (upd H7 na (.dT (dictOf ((rowsOf (addOne I n fdj j)).map (keyT I))))) := s07.put na0
              have t8 : (upd H7 na (.dT (dictOf ((rowsOf (addOne I n fdj j)).map (keyT I))))) t7 = some (.tup ((tabL I r).map tV)) := by
                rw [upd_ne (ne_of ht7 n7 (by intro z; cases z))]
                exact ht7
              generalize upd H7 na (.dT (dictOf ((rowsOf (addOne I n fdj j)).map (keyT I)))) = H8 at *
              obtain ⟨q8, t8', hq8, g1, g2⟩ := f8.get hnj
              have wl : (ent fdj n).1.length ≤ 300 := by have := Fj.wl n hnj; omega
              refine ⟨_, rfl, .inl ⟨rfl, _, SqL.of f8.fnd⟩, _, rfl, _, rfl, fa, _, _, .ref q8, rfl, rfl, SqL.of f8.fnd, atI_nat (by rw [List.getElem?_map, hq8]; rfl), q8, _, _, _, rfl, rfl, SqT.of g1, rfl, _, rfl, _, _, rfl, rfl, ?_, _, rfl, by show 2 ≤ sizeLine; decide, fun q9 hq9 => ?_⟩
              · rw [tx_len, wordL_len]
                show _ + 1 ≤ sizeLine
                have := small1000 (show (ent fdj n).1.length ≤ 1000 by omega)
                omega
              have ew : V.str (tx (wordL I (ent fdj n).1) ++ (⟨#[lc]⟩ : Str)) = tV (wordL I ((ent fdj n).1 ++ [j])) := by
                rw [← tx_one, tx_app, wordL_snoc, hgd]
                rfl
              rw [ew] at *
              have s9 : Same H8 (upd H8 q9 (.tup [tV (wordL I ((ent fdj n).1 ++ [j])), .ref t7])) := same_upd hq9
              have e9 : (upd H8 q9 (.tup [tV (wordL I ((ent fdj n).1 ++ [j])), .ref t7])) q9 = some (.tup [tV (wordL I ((ent fdj n).1 ++ [j])), .ref t7]) := upd_same
              generalize upd H8 q9 (.tup [tV (wordL I ((ent fdj n).1 ++ [j])), .ref t7]) = H9 at *
              have f9 := f8.same s9
              have f10 := f9.add (e := ((ent fdj n).1 ++ [j], r)) e9 (s9 _ _ t8)
              rw [← ha] at f10
              refine ⟨fa, _, _, rfl, rfl, f9.fnd, by rw [List.length_map, f6.ql]; exact small1000 (by omega), ?_⟩
              refine ⟨_, _, qs ++ [q9], rfl, (s08.trans s9).put fa0, ?_, ?_⟩
              · rw [hsucc]
                exact f10
              · rw [hsucc, upd_ne (ne_of (s9 _ _ n8) f9.fnd (by intro z; cases z))]
                exact s9 _ _ n8
          · rintro σ H6 ⟨y6, y7, qs, rfl, s6, f6, n6⟩
            rw [tx_size, ok.gk, ← hgo] at f6 n6
            exact ⟨_, _, qs, rfl, s6, f6, n6⟩
        · rw [decide_eq_false hlt]
          have hst := bfs_stay I hlt
          refine iteF ⟨y6, y7, qs, rfl, s5, ?_, ?_⟩
          · rw [hst]
            exact f5
          · rw [hst]
            exact n5
      · rintro σ' H6 ⟨y6, y7, qs, rfl, s6, f6, n6⟩
        refine ⟨_, rfl, fa, _, rfl, .inl (SqL.of f6.fnd), _, _, rfl, rfl, _, rfl, ?_⟩
        by_cases hbig : 200 < (bfs I (n + 1)).length
        · have hd : decide ((200 : Int) < (((qs.map V.ref).length : Nat) : Int)) = true := decide_eq_true (by rw [List.length_map, f6.ql]; omega)
          dsimp only
          rw [hd]
          refine iteT (qn (fun sm => ?_) _ s6)
          have := sm (n + 1) (by omega)
          omega
        · have hd : decide ((200 : Int) < (((qs.map V.ref).length : Nat) : Int)) = false := decide_eq_false (by rw [List.length_map, f6.ql]; omega)
          dsimp only
          rw [hd]
          refine iteF ⟨_, _, _, qs, rfl, s6, f6, n6, fun m hm => ?_⟩
          by_cases e : m = n + 1
          · rw [e]
            omega
          · exact small m (by omega)
    · rintro σ H5 ⟨y5, y6, y7, qs, rfl, s5, f5, n5, small⟩
      exact ⟨_, rfl, qs' small _ fa qs s5 fa0 f5⟩
end
end N18
end
section
set_option Elab.async false
set_option linter.all false
set_option maxRecDepth 100000
set_option maxHeartbeats 4000000
namespace N18
open PySem PySem.Spec PyProof.Rows L2 TL PySem.W
/-! ### lists of numbers, compared -/
def intL (l : List Nat) : List Int := l.map fun m : Nat => (m : Int)
theorem intL_V (l : List Nat) : (intL l).map V.int = l.map nV := by
  unfold intL
  rw [List.map_map]
  rfl
theorem intL_inj {a b : List Nat} (h : intL a = intL b) : a = b := (List.map_inj_right fun x y e => Int.ofNat.inj e).mp h
theorem paired_get {α β : Type} {R : α → β → Prop} : ∀ {ts : List α} {xs : List β}, ts.length = xs.length → (∀ (i : Nat) (t : α) (x : β), ts[i]? = some t → xs[i]? = some x → R t x) → Paired R ts xs
  | [], [], _, _ => .nil
  | [], _ :: _, h, _ => nomatch h
  | _ :: _, [], h, _ => nomatch h
  | t :: ts, x :: xs, h, f => .cons (f 0 t x rfl rfl) (paired_get (Nat.succ.inj h) fun i a b h1 h2 => f (i + 1) a b h1 h2)
def levD (I : Inst) (n : Nat) : List (List Int) := (List.range n).map fun j => intL (lev I j)
theorem levD_len (I : Inst) (n : Nat) : (levD I n).length = n := by
  unfold levD
  rw [List.length_map, List.length_range]
theorem levD_get {I : Inst} {n j : Nat} (h : j < n) : (levD I n)[j]? = some (intL (lev I j)) := by
  unfold levD
  rw [List.getElem?_map, List.getElem?_range h]
  rfl
theorem levD_mem {I : Inst} {n : Nat} {L : List Nat} : intL L ∈ levD I n ↔ L ∈ (List.range n).map (lev I) := by
  unfold levD
  rw [List.mem_map, List.mem_map]
  constructor
  · rintro ⟨j, hj, e⟩
    exact ⟨j, hj, intL_inj e⟩
  · rintro ⟨j, hj, rfl⟩
    exact ⟨j, hj, rfl⟩
theorem any_mem {α : Type} [DecidableEq α] [Datum α] {l : List α} {a : α} : ((l.map Datum.toD).any fun z => PyData.eqv z (Datum.toD a)) = true ↔ a ∈ l := by
  rw [List.any_eq_true]
  constructor
  · rintro ⟨z, hz, he⟩
    obtain ⟨b, hb, rfl⟩ := List.mem_map.mp hz
    rw [Datum.eqv] at he
    rw [← of_decide_eq_true he]
    exact hb
  · intro h
    exact ⟨_, List.mem_map.mpr ⟨a, h, rfl⟩, by rw [Datum.eqv]; exact decide_eq_true rfl⟩
theorem good_ints (l : List Int) : Good l := good_list fun i _ => good_int i
theorem sh_ints (l : List Int) : SeqAt.shaped (Datum.toD l) = true := (good_ints l).shaped (by decide)
theorem sh_levD (I : Inst) (n : Nat) : SeqAt.shaped (Datum.toD (levD I n)) = true := (good_list fun l _ => good_ints l).shaped (by decide)
/-- the levels met so far, in a list -/
structure SeenAt (H : Hp) (I : Inst) (n : Nat) (sa : Addr) (ls : List Addr) : Prop where
  seen : H sa = some (.lst (ls.map V.ref))
  len : ls.length = n
  lv : ∀ (j : Nat) (a : Addr), ls[j]? = some a → a ≠ sa ∧ H a = some (.lst ((lev I j).map nV))
theorem SeenAt.same {H H' : Hp} {I : Inst} {n : Nat} {sa : Addr} {ls : List Addr} (k : SeenAt H I n sa ls) (s : Same H H') : SeenAt H' I n sa ls :=
  ⟨s _ _ k.seen, k.len, fun j a h => ⟨(k.lv j a h).1, s _ _ (k.lv j a h).2⟩⟩
theorem SeenAt.add {H : Hp} {I : Inst} {n : Nat} {sa la : Addr} {ls : List Addr} (k : SeenAt H I n sa ls) (n1 : la ≠ sa) (h : H la = some (.lst ((lev I n).map nV))) : SeenAt (upd H sa (.lst (ls.map V.ref ++ [.ref la]))) I (n + 1) sa (ls ++ [la]) := by
  refine ⟨?_, by rw [List.length_append, k.len]; rfl, fun j a hj => ?_⟩
  · rw [upd_same, List.map_append]
    rfl
  · by_cases hl : j < ls.length
    · rw [List.getElem?_append_left hl] at hj
      obtain ⟨g1, g2⟩ := k.lv j a hj
      exact ⟨g1, by rw [upd_ne g1]; exact g2⟩
    · rw [List.getElem?_append_right (by omega)] at hj
      have hj0 : j - ls.length = 0 := by
        have := (List.getElem?_eq_some_iff.mp hj).1
        simp at this
        omega
      rw [hj0] at hj
      have hj : la = a := Option.some.inj hj
      subst hj
      have : j = n := by have := k.len; omega
      subst this
      exact ⟨n1, by rw [upd_ne n1]; exact h⟩
section
variable {K : PySem.W.Frag}
theorem dp_lev {H : Hp} {a : Addr} {L : List Nat} (h : H a = some (.lst (L.map nV))) : Dp K H (.ref a) (Datum.toD (intL L)) := dp_lstI (by rw [intL_V]; exact h)
theorem SeenAt.dp {H : Hp} {I : Inst} {n : Nat} {sa : Addr} {ls : List Addr} (k : SeenAt H I n sa ls) : Dp K H (.ref sa) (.list ((levD I n).map Datum.toD)) := by
  refine .lst (SqL.of k.seen) (dp_refs (paired_get (by rw [k.len, levD_len]) fun i t x h1 h2 => ?_))
  have hi : i < n := by
    rw [← k.len]
    exact (List.getElem?_eq_some_iff.mp h1).1
  rw [levD_get hi] at h2
  rw [← Option.some.inj h2]
  exact dp_lev (k.lv i t h1).2
end
def endsV (I : Inst) (i : Nat) : List V := (List.range I.k).map fun x => nV (endOf I (all I) i x)
section
variable {P : Program} {w : World} {K : PySem.W.Frag} {mg : Str → Option Value} {base : Heap}
/-! ### levels -/
def spLevelsL : Sp := fun vs H Q _ => ∃ (ca ka fa : Addr) (I : Inst) (ps : List (List Nat)) (qs : List Addr) (m T : Nat), vs = [tV I.gl, .ref ca, .ref ka, .ref fa] ∧ Fits I ps ∧ H ca = some (.lst (I.cells.map tV)) ∧ H ka = some (.dK (trueK (ps.map tkK))) ∧
  Small I ∧ FndAt H I (all I) fa qs ∧ Again I m T ∧ ∀ (H' : Hp) (t sa : Addr) (ls : List Addr), Same H H' → H t = none → H sa = none → H' t = some (.tup [nV m, nV (T - m), .ref sa]) → SeenAt H' I T sa ls → Q (.ref t) H'
abbrev nLev : List Str := ["_law_given", "_law_cells_here", "_law_known_here", "_law_found", "_law_numbers", "_law_at", "_law_ends", "_law_word_here", "_law_rows", "_law_level", "_law_seen", "_law_turn", "_law_more", "_law_end", "_law_least", "_law_letter"]
theorem scLev : FnScope nLev ["_law_given", "_law_cells_here", "_law_known_here", "_law_found"] (defScope sLawLevels) := ⟨rfl, rfl, rfl, by decide +kernel, rfl, by decide +kernel, by decide +kernel⟩
theorem ok_levelsL {f : Addr} {fd : FuncData} (F : Fun K "_law_levels" "_law_levels" sLawLevels f fd) (B : Bt mg)
    (c2 : Cal P w K mg base "_law_behind" 2 ["_law_cells_here", "_law_known_here", "_law_rows", "_law_letter"] spBehind) : FnOk P w K mg base CX0 3 f fd ["_law_given", "_law_cells_here", "_law_known_here", "_law_found"] spLevelsL := by
  obtain ⟨gb, gdb, Gb, mGb, kGb, bGb⟩ := c2
  refine F.ok scLev (fun vs H Q E h => ?_) (fun cdv A outer s H vs Q E hr h => ?_)
  · obtain ⟨ca, ka, fa, I, ps, qs, m, T, rfl, _⟩ := h
    rfl
  · obtain ⟨ca, ka, fa, I, ps, qs, m, T, rfl, ft, hca, hka, sm, fa1, ag, q⟩ := h
    have hu := hu_of hr
    have hu65 : (A.deeper (envOfC "_law_levels" (defScope sLawLevels) s.heap.objs.size f cdv)).units + 65 < cLine := by have := hr.un; omega
    have nd := scLev.nd
    have ok := ft.ok
    have k3 := ok.k3
    have hN := sm.len
    have hmT := ag.lt
    have hT := ag.le
    have Fall := all_fd I
    refine ⟨_, pss_cons (ps_set (i := 4) nd rfl (.inr rfl) pe_dnewT)
      (pss_cons (ps_for PassesOwn.never rfl (pi_range1 (by rfl) B.range (pa_cons (pe_callB call_len_seq (by rfl) B.len PySem.boot_len (pa_cons (pv 3) pa_nil)) pa_nil)) (pg_name (i := 5) nd rfl (.inl rfl))
        (pss_one (ps_dput hu (pv 4) (pe_ix ix_tup (pe_ix ix_list (pv 3) (pv 5) (fun _ _ => rfl)) pe_int (fun _ _ => rfl)) (pv 5) rfl)))
      (pss_cons (ps_set (i := 6) nd rfl (.inl rfl) (pe_lst pa_nil))
      (pss_cons (ps_for PassesOwn.never rfl (pi_list (pv 3)) (pg_tup rfl (pgs_cons (pg_name (i := 7) nd rfl (.inl rfl)) (pgs_cons (pg_name (i := 8) nd rfl (.inr rfl)) pgs_nil)))
        (pss_one (ps_expr (pe_bm PySem.F.plainAttrs_list PySem.F.slot_list_append PySem.F.type_list_append mt_append (pv 6) (pa_cons
          (pe_lc (own := [("_law_letter", 15)]) (g := gName 15) (tt := tYes) rfl nd (pi_str (pv 0)) (blkOk_by (N := nLev) (sc := defScope sLawLevels) (by decide +kernel)) (fun _ _ _ _ _ => pg_name (i := 15) nd rfl (.inl rfl)) (fun _ _ _ _ _ => pts_nil)
            (fun _ _ _ _ _ => pe_dget hu (pv 4) (pe_call (E := E0) Gb hr (by rfl) mGb kGb bGb .nil pass0 (pa_cons (pv 1) (pa_cons (pv 2) (pa_cons (pv 8) (pa_cons (pv 15) pa_nil))))) (fun _ _ => rfl))) pa_nil)))))
      (pss_cons (ps_set (i := 9) nd rfl (.inl rfl) (pe_lst (pa_cons pe_int pa_nil)))
      (pss_cons (ps_set (i := 10) nd rfl (.inl rfl) (pe_lst pa_nil))
      (pss_cons (ps_for PassesOwn.never rfl (pi_range1 (by rfl) B.range (pa_cons pe_int pa_nil)) (pg_name (i := 11) nd rfl (.inl rfl))
        (pss_cons (ps_if (pt_cmpR (op_inD hu65) (pv 9) (pv 10) rfl) (pss_one ps_break) pss_nil)
        (pss_cons (ps_expr (pe_bm PySem.F.plainAttrs_list PySem.F.slot_list_append PySem.F.type_list_append mt_append (pv 10) (pa_cons (pv 9) pa_nil)))
        (pss_cons (ps_set (i := 12) nd rfl (.inl rfl) pe_dnewK)
        (pss_cons (ps_for PassesOwn.never rfl (pi_list (pv 9)) (pg_name (i := 5) nd rfl (.inl rfl))
          (pss_one (ps_for PassesOwn.never rfl (pi_list (pe_ix ix_list (pv 6) (pv 5) (fun _ _ => rfl))) (pg_name (i := 13) nd rfl (.inl rfl)) (pss_one (ps_dput hu (pv 12) (pv 13) pe_bl rfl)))))
        (pss_one (ps_set (i := 9) nd rfl (.inl rfl) (pe_callB cr_sortedI (by rfl) B.sorted (by decide +kernel) (pa_cons (pe_callTy (call_list_dK rfl) (by rfl) B.list (by decide +kernel) (pa_cons (pv 12) pa_nil)) pa_nil)))))))))
      (pss_cons (ps_set (i := 14) nd rfl (.inl rfl) (pe_bm PySem.F.plainAttrs_list PySem.F.slot_list_index PySem.F.type_list_index (mt_indexD hu65) (pv 10) (pa_cons (pv 9) pa_nil)))
      (pss_one (ps_ret (pe_tup (pa_cons (pv 14) (pa_cons (pe_op op_sub (pe_callB call_len_seq (by rfl) B.len PySem.boot_len (pa_cons (pv 10) pa_nil)) (pv 14)) (pa_cons (pv 10) pa_nil))))))))))))), ?_⟩
    -- numbers
    intro na hna
    refine ⟨_, rfl, fa, _, rfl, .inl (SqL.of (same_upd hna _ _ fa1.fnd)), _, rfl, by rw [List.length_map, fa1.ql]; omega, by rw [List.length_map, fa1.ql]; omega, ?_⟩
    have elen : ((((qs.map V.ref).length : Nat) : Int)).toNat = (all I).length := by rw [List.length_map, fa1.ql, Int.toNat_natCast]
    rw [elen]
    have knd : ((rowsOf (all I)).map (keyT I)).Nodup := keysT_nd ok (Fall.good ok) Fall.nd
    refine for_it (walk_range (lo := 0) (n := (all I).length)) (fun i σ H' => ∃ (y5 : Option V), σ = [some (tV I.gl), some (.ref ca), some (.ref ka), some (.ref fa), some (.ref na), y5, none, none, none, none, none, none, none, none, none, none] ∧ Same H H' ∧ H' na = some (.dT (dictOf (((rowsOf (all I)).map (keyT I)).take i))))
      ⟨none, rfl, same_upd hna, upd_same⟩ (fun _ _ _ _ _ => trivial) ?_ ?_
    · rintro i v σ H1 H1' hi ⟨y5, rfl, s1, n1⟩ ⟨rfl, hv⟩
      have hv : v = nV i := by rw [hv]; show V.int _ = V.int _; rw [Int.zero_add]
      subst hv
      obtain ⟨q0, t0, hq0, e1, e2⟩ := (fa1.same s1).get hi
      have hget : ((rowsOf (all I)).map (keyT I))[i]? = some (keyT I (ent (all I) i).2) := by rw [List.getElem?_map, rowsOf_get hi]; rfl
      have hnew : keyT I (ent (all I) i).2 ∉ ((rowsOf (all I)).map (keyT I)).take i := by
        intro h
        obtain ⟨j, hj⟩ := List.getElem?_of_mem h
        have hji : j < i := by
          have := (List.getElem?_eq_some_iff.mp hj).1
          rw [List.length_take] at this
          omega
        rw [List.getElem?_take_of_lt hji] at hj
        have := nd_get knd hj hget
        omega
      have tl : (((rowsOf (all I)).map (keyT I)).take i).length = i := by rw [List.length_take, List.length_map, rowsOf_len]; omega
      have dp := DPut.t (v := nV i) (k := keyT I (ent (all I) i).2) (b := t0) n1 (by rw [keyT_map]; exact e2) (by rw [dictOf_len, tl]; exact small1000 (by omega))
      have eput := dictOf_put hnew
      rw [tl] at eput
      rw [eput, ← take_snoc hget] at dp
      exact ⟨_, rfl, _, rfl, _, rfl, _, rfl, fa, _, _, .ref q0, rfl, rfl, SqL.of (s1 _ _ fa1.fnd), atI_nat (by rw [List.getElem?_map, hq0]; rfl), q0, _, _, _, rfl, rfl, SqT.of e1, rfl, na, _, rfl, dp, _, rfl, s1.put hna, upd_same⟩
    rintro σ H1 ⟨y5, rfl, s1, n1⟩
    rw [List.take_of_length_le (by rw [List.length_map, rowsOf_len]; exact Nat.le_refl _)] at n1
    have f1 := fa1.same s1
    -- ends
    refine ⟨Nat.zero_le _, fun ea hea => ?_⟩
    have s2 : Same H1 (upd H1 ea (.lst [])) := same_upd hea
    refine ⟨_, rfl, fa, rfl, ⟨_, SqL.of (s2 _ _ f1.fnd)⟩, ?_⟩
    refine for_it (walk_list (xs := qs.map V.ref)) (fun i σ H' => ∃ (y7 y8 : Option V) (es : List Addr), σ = [some (tV I.gl), some (.ref ca), some (.ref ka), some (.ref fa), some (.ref na), y5, some (.ref ea), y7, y8, none, none, none, none, none, none, none] ∧ Same H1 H' ∧ H' ea = some (.lst (es.map V.ref)) ∧ es.length = i ∧ ∀ (j : Nat) (a : Addr), es[j]? = some a → a ≠ ea ∧ H' a = some (.lst (endsV I j)))
      ⟨none, none, [], rfl, s2, upd_same, rfl, fun j a h => by simp at h⟩ ?_ ?_ ?_
    · rintro i σ H' _ ⟨y7, y8, es, rfl, s3, _⟩
      exact SqL.of (s3 _ _ f1.fnd)
    · rintro i v σ H2 H2' hi ⟨y7, y8, es, rfl, s3, e3, el, ev⟩ ⟨rfl, hv⟩
      rw [List.length_map, f1.ql] at hi
      obtain ⟨q0, t0, hq0, e1, e2⟩ := (f1.same s3).get hi
      rw [List.getElem?_map, hq0] at hv
      have hv := Option.some.inj hv
      subst hv
      have hrl : (ent (all I) i).2.length = I.n := Fall.rlen ok (ent_mem hi)
      refine ⟨q0, [_, _], rfl, .inl (.inl e1), rfl, _, [_], rfl, _, [], rfl, rfl, ?_⟩
      refine ⟨_, rfl, .inl ⟨rfl, _, SqL.of e3⟩, _, rfl, tx I.gl, rfl, fun D hD => ?_⟩
      refine lc_it walk_str (fun j H' => Same H2' H' ∧ H' D = some (.lst ((List.range j).map fun x => nV (endOf I (all I) i x)))) ⟨same_upd hD, upd_same⟩ (fun _ _ _ _ => trivial) ?_ ?_
      · rintro j v H3 H3' hj ⟨s4, e4⟩ ⟨rfl, lc, hlc, rfl⟩
        rw [tx_size, ok.gk] at hj
        obtain ⟨hgl, hgd⟩ := letter_get hlc
        have s14 := (s1.trans s3).trans s4
        refine ⟨rfl, ?_⟩
        refine ⟨_, rfl, _, rfl, _, rfl, _, rfl, _, rfl, ca, ka, t0, I, ps, (ent (all I) i).2, j, lc, rfl, ft, s14 _ _ hca, s14 _ _ hka, s4 _ _ e2, hrl, hgl, fun H4 t4 s5 _ ht4 => ?_⟩
        have hmem := sm.closed hi hj
        have gz : (rowsOf (all I))[endOf I (all I) i j]? = some (stepR I (ent (all I) i).2 j) := by
          unfold endOf
          rw [List.getElem?_eq_getElem (List.idxOf_lt_length_of_mem hmem), List.getElem_idxOf]
        have dg := DGet.t (k := keyT I (stepR I (ent (all I) i).2 j)) (b := t4) (s5 _ _ (s4 _ _ (s3 _ _ n1))) (by rw [keyT_map]; exact ht4)
        rw [dictOf_some knd (i := endOf I (all I) i j) (by rw [List.getElem?_map, gz]; rfl)] at dg
        refine ⟨na, _, rfl, dg, _, s5 _ _ e4, by rw [List.length_map, List.length_range]; exact small1000 (by omega), (s4.trans s5).put hD, ?_⟩
        rw [upd_same, List.range_succ, List.map_append]
        rfl
      rintro H3 ⟨s4, e4⟩
      rw [tx_size, ok.gk] at e4
      have e34 := s4 _ _ e3
      have nDe : D ≠ ea := Ne.symm (ne_of_none e3 hD)
      refine ⟨ea, _, _, rfl, rfl, e34, by rw [List.length_map, el]; exact small1000 (by omega), ?_⟩
      refine ⟨_, _, es ++ [D], rfl, (s3.trans s4).put hea, by rw [upd_same, List.map_append]; rfl, by rw [List.length_append, el]; rfl, fun j a h => ?_⟩
      by_cases hj : j < es.length
      · rw [List.getElem?_append_left hj] at h
        obtain ⟨g1, g2⟩ := ev j a h
        exact ⟨g1, by rw [upd_ne g1]; exact s4 _ _ g2⟩
      · rw [List.getElem?_append_right (by omega)] at h
        have hj0 : j - es.length = 0 := by
          have := (List.getElem?_eq_some_iff.mp h).1
          simp at this
          omega
        rw [hj0] at h
        have h : D = a := Option.some.inj h
        subst h
        have : j = i := by omega
        subst this
        exact ⟨nDe, by rw [upd_ne nDe]; exact e4⟩
    rintro σ H2 ⟨y7, y8, es, rfl, s3, e3, el, ev⟩
    rw [List.length_map, f1.ql] at el
    -- level = [0]; seen = []
    refine ⟨by show 1 ≤ sizeLine; decide, fun l0 hl0 => ?_⟩
    have s4 : Same H2 (upd H2 l0 (.lst [.int 0])) := same_upd hl0
    have l4 : (upd H2 l0 (.lst [.int 0])) l0 = some (.lst ((lev I 0).map nV)) := upd_same
    generalize upd H2 l0 (.lst [.int 0]) = H3 at *
    have e4 := s4 _ _ e3
    have ev4 : ∀ (j : Nat) (a : Addr), es[j]? = some a → H3 a = some (.lst (endsV I j)) := fun j a h => s4 _ _ (ev j a h).2
    have s04 := (s1.trans s3).trans s4
    refine ⟨Nat.zero_le _, fun sa hsa => ?_⟩
    have sa0 : H sa = none := s04.free hsa
    refine ⟨5000, rfl, by decide, by decide, ?_⟩
    refine for_it (walk_range (lo := 0) (n := 5000)) (fun i σ H' => ∃ (y5 y11 y12 y13 : Option V) (la : Addr) (ls : List Addr), σ = [some (tV I.gl), some (.ref ca), some (.ref ka), some (.ref fa), some (.ref na), y5, some (.ref ea), y7, y8, some (.ref la), some (.ref sa), y11, y12, y13, none, none] ∧ Same H3 H' ∧ la ≠ sa ∧ H' la = some (.lst ((lev I i).map nV)) ∧ SeenAt H' I i sa ls ∧ i ≤ T)
      ⟨y5, none, none, none, l0, [], rfl, same_upd hsa, ne_of_none l4 hsa, by rw [upd_ne (ne_of_none l4 hsa)]; exact l4, ⟨upd_same, rfl, fun j a h => by simp at h⟩, Nat.zero_le _⟩ (fun _ _ _ _ _ => trivial) ?_ ?_
    · rintro i v σ H4 H4' hi ⟨y5, y11, y12, y13, la, ls, rfl, s5, nls, hla, sn, hiT⟩ ⟨rfl, hv⟩
      have dpl : Dp K H4' (.ref la) (Datum.toD (intL (lev I i))) := dp_lev hla
      have dps : Dp K H4' (.ref sa) (.list ((levD I i).map Datum.toD)) := sn.dp
      refine ⟨_, rfl, _, rfl, _, _, dpl, dps, sh_ints _, sh_levD I i, _, rfl, ?_⟩
      by_cases hiT2 : i = T
      · -- it was there: break
        subst hiT2
        have hin : intL (lev I i) ∈ levD I i := by
          rw [levD_mem, ag.eq]
          exact List.mem_map.mpr ⟨m, List.mem_range.mpr hmT, rfl⟩
        have hany : (((levD I i).map Datum.toD).any fun z => PyData.eqv z (Datum.toD (intL (lev I i)))) = true := by
          exact any_mem.mpr hin
        rw [hany]
        refine iteT ?_
        refine ⟨_, rfl, .inl ⟨rfl, _, SqL.of sn.seen⟩, _, rfl, sa, .ref la, _, _, m, _, rfl, rfl, dps, dpl, sh_levD I i, sh_ints _, by rw [List.getElem?_map, levD_get hmT]; rfl, ?_, ?_, ?_⟩
        · rw [Datum.eqv, ag.eq]
          exact decide_eq_true rfl
        · intro j z' hj hz
          rw [List.getElem?_map, levD_get (show j < i by omega)] at hz
          have hz := Option.some.inj hz
          rw [← hz, Datum.eqv]
          refine decide_eq_false fun e => ?_
          have := ag.uniq (show j < i by omega) (intL_inj e)
          omega
        · refine ⟨_, rfl, _, rfl, sa, _, rfl, .inl (SqL.of sn.seen), _, rfl, _, _, rfl, rfl, _, rfl, by show 3 ≤ sizeLine; decide, fun t ht => ?_⟩
          have st : Same H4' (upd H4' t (.tup [V.int ((m : Nat) : Int), V.int ((((ls.map V.ref).length : Nat) : Int) - ((m : Nat) : Int)), .ref sa])) := same_upd ht
          have s05 := s04.trans s5
          refine q _ t sa ls (s05.trans st) (s05.free ht) sa0 ?_ (sn.same st)
          rw [upd_same]
          have : V.int ((((ls.map V.ref).length : Nat) : Int) - ((m : Nat) : Int)) = nV (i - m) := by
            rw [List.length_map, sn.len]
            show V.int _ = V.int _
            congr 1
            omega
          show some (HO.tup [V.int ((m : Nat) : Int), V.int ((((ls.map V.ref).length : Nat) : Int) - ((m : Nat) : Int)), V.ref sa]) = _
          rw [this]
          rfl
      · have hlt : i < T := by omega
        have hnin : intL (lev I i) ∉ levD I i := fun h => ag.new hlt (levD_mem.mp h)
        have hany : (((levD I i).map Datum.toD).any fun z => PyData.eqv z (Datum.toD (intL (lev I i)))) = false := by
          exact (Bool.not_eq_true _).mp fun h => hnin (any_mem.mp h)
        rw [hany]
        refine iteF ?_
        refine ⟨_, rfl, .inl ⟨rfl, _, SqL.of sn.seen⟩, _, rfl, sa, _, _, rfl, rfl, sn.seen, by rw [List.length_map, sn.len]; exact small5000 (by omega), ?_⟩
        have sn5 := sn.add nls hla
        have s6 : Same H3 (upd H4' sa (.lst (ls.map V.ref ++ [.ref la]))) := s5.put hsa
        have l6 : (upd H4' sa (.lst (ls.map V.ref ++ [.ref la]))) la = some (.lst ((lev I i).map nV)) := by rw [upd_ne nls]; exact hla
        generalize upd H4' sa (.lst (ls.map V.ref ++ [.ref la])) = H5 at *
        -- more
        intro ma hma
        have s7 : Same H5 (upd H5 ma (.dK [])) := same_upd hma
        refine ⟨_, rfl, la, rfl, ⟨_, SqL.of (s7 _ _ l6)⟩, ?_⟩
        refine for_it (walk_list (xs := (lev I i).map nV)) (fun j σ H' => ∃ (y5 y13 : Option V) (ks : List Nat), σ = [some (tV I.gl), some (.ref ca), some (.ref ka), some (.ref fa), some (.ref na), y5, some (.ref ea), y7, y8, some (.ref la), some (.ref sa), some v, some (.ref ma), y13, none, none] ∧ Same H5 H' ∧ H' ma = some (.dK (trueD ks)) ∧ ks.Nodup ∧
            (∀ z, z ∈ ks ↔ ∃ a, a ∈ (lev I i).take j ∧ ∃ x, x < I.k ∧ endOf I (all I) a x = z)) ⟨y5, y13, [], rfl, s7, upd_same, List.nodup_nil, fun z => ⟨fun h => (nomatch h), fun ⟨a, h, _⟩ => (nomatch h)⟩⟩ ?_ ?_ ?_
        · rintro j σ H' _ ⟨y5, y13, ks, rfl, h1, _⟩
          exact SqL.of (h1 _ _ l6)
        · rintro j v2 σ H6 H6' hj ⟨y5, y13, ks, rfl, s8, m8, knd8, hks⟩ ⟨rfl, hv2⟩
          obtain ⟨hj2, rfl⟩ := nv_getI hv2
          have hLj : (lev I i)[j]? = some ((lev I i).getD j 0) := by rw [List.getD_eq_getElem?_getD, List.getElem?_eq_getElem hj2]; rfl
          generalize hat : (lev I i).getD j 0 = at' at *
          have hatN : at' < (all I).length := lev_lt I i _ (List.mem_of_getElem? hLj)
          obtain ⟨d, hd⟩ : ∃ d, es[at']? = some d := ⟨es[at']'(by omega), List.getElem?_eq_getElem _⟩
          have s68 := s6.trans s8
          have hdv := s68 _ _ (ev4 at' d hd)
          refine ⟨_, rfl, _, rfl, ea, _, _, .ref d, rfl, rfl, SqL.of (s68 _ _ e4), atI_nat (by rw [List.getElem?_map, hd]; rfl), d, rfl, ⟨_, SqL.of hdv⟩, ?_⟩
          refine for_it (walk_list (xs := endsV I at')) (fun l σ H' => ∃ (y13 : Option V) (ks : List Nat), σ = [some (tV I.gl), some (.ref ca), some (.ref ka), some (.ref fa), some (.ref na), some (nV at'), some (.ref ea), y7, y8, some (.ref la), some (.ref sa), some v, some (.ref ma), y13, none, none] ∧ Same H5 H' ∧ H' ma = some (.dK (trueD ks)) ∧ ks.Nodup ∧
              (∀ z, z ∈ ks ↔ (∃ a, a ∈ (lev I i).take j ∧ ∃ x, x < I.k ∧ endOf I (all I) a x = z) ∨ ∃ x, x < l ∧ endOf I (all I) at' x = z)) ⟨y13, ks, rfl, s8, m8, knd8, fun z => by rw [hks]; exact ⟨.inl, fun h => h.elim id fun ⟨x, hx, _⟩ => (Nat.not_lt_zero _ hx).elim⟩⟩ ?_ ?_ ?_
          · rintro l σ H' _ ⟨y13, ks, rfl, h1, _⟩
            exact SqL.of ((s6.trans h1) _ _ (ev4 at' d hd))
          · rintro l v3 σ H7 H7' hl ⟨y13, ks2, rfl, s9, m9, knd9, hks9⟩ ⟨rfl, hv3⟩
            have hlk : l < I.k := by
              unfold endsV at hl
              rwa [List.length_map, List.length_range] at hl
            unfold endsV at hv3
            rw [List.getElem?_map, List.getElem?_range hlk] at hv3
            have hv3 := Option.some.inj hv3
            subst hv3
            have hz : endOf I (all I) at' l < (all I).length := sm.end_lt hatN hlk
            have klen : ks2.length ≤ 200 := by
              have := knd9.length_le_of_subset (l₂ := List.range (all I).length) (fun z hz => by
                rw [List.mem_range]
                rcases (hks9 z).mp hz with ⟨a, ha, x, hx, rfl⟩ | ⟨x, hx, rfl⟩
                · exact sm.end_lt (lev_lt I i a (List.mem_of_mem_take ha)) hx
                · exact sm.end_lt hatN (by omega))
              rw [List.length_range] at this
              omega
            have dp := DPut.k (k := (Sum.inl ((endOf I (all I) at' l : Nat) : Int) : Key)) (v := .bl true) m9 (by rw [trueD_len]; exact small1000 (by omega))
            rw [trueD_put] at dp
            refine ⟨_, rfl, _, rfl, ma, _, rfl, dp, _, addN ks2 (endOf I (all I) at' l), rfl, s9.put hma, upd_same, addN_nd knd9, fun z => ?_⟩
            rw [addN_mem, hks9]
            constructor
            · rintro ((h | ⟨x, hx, h⟩) | h)
              · exact .inl h
              · exact .inr ⟨x, by omega, h⟩
              · exact .inr ⟨l, by omega, h.symm⟩
            · rintro (h | ⟨x, hx, h⟩)
              · exact .inl (.inl h)
              · by_cases e : x = l
                · subst e
                  exact .inr h.symm
                · exact .inl (.inr ⟨x, by omega, h⟩)
          · rintro σ H7 ⟨y13, ks2, rfl, s9, m9, knd9, hks9⟩
            have hlk : (endsV I at').length = I.k := by
              unfold endsV
              rw [List.length_map, List.length_range]
            rw [hlk] at hks9
            refine ⟨_, _, ks2, rfl, s9, m9, knd9, fun z => ?_⟩
            rw [hks9, take_snoc hLj]
            constructor
            · rintro (⟨a, ha, h⟩ | h)
              · exact ⟨a, List.mem_append_left _ ha, h⟩
              · exact ⟨at', List.mem_append_right _ (List.mem_singleton.mpr rfl), h⟩
            · rintro ⟨a, ha, h⟩
              rcases List.mem_append.mp ha with ha | ha
              · exact .inl ⟨a, ha, h⟩
              · rw [List.mem_singleton.mp ha] at h
                exact .inr h
        rintro σ H6 ⟨y5, y13, ks, rfl, s8, m8, knd8, hks⟩
        rw [List.length_map, List.take_length] at hks
        refine ⟨_, rfl, ma, _, rfl, m8, fun l hl => ?_⟩
        rw [trueD_keys]
        refine ⟨l, _, rfl, SqL.of upd_same, fun ns p hp hs hpn => ?_⟩
        have hL2 : ∀ z, z ∈ ks ↔ z ∈ levStep I (lev I i) := by
          intro z
          rw [hks, levStep_mem]
          constructor
          · rintro ⟨a, ha, x, hx, rfl⟩
            exact ⟨sm.end_lt (lev_lt I i a ha) hx, a, ha, x, hx, rfl⟩
          · rintro ⟨_, h⟩
            exact h
        rw [sorted_asc knd8 (asc_filter _ _) hL2 hp hs]
        have s9 : Same H6 (upd (upd H6 l (.lst ((ks.map fun m : Nat => (m : Int)).map V.int))) p (.lst ((levStep I (lev I i)).map nV))) := (same_upd hl).trans (same_upd hpn)
        have sn9 := (sn5.same s8).same s9
        have pne : p ≠ sa := by
          have h := (sn5.same s8).seen
          have h2 := (same_upd (o := .lst ((ks.map fun m : Nat => (m : Int)).map V.int)) hl) _ _ h
          exact Ne.symm (ne_of_none h2 hpn)
        exact ⟨_, _, _, _, p, ls ++ [la], rfl, (s6.trans s8).trans s9, pne, upd_same, sn9, hlt⟩
    · rintro σ H4 ⟨y5, y11, y12, y13, la, ls, rfl, s5, nls, hla, sn, hiT⟩
      omega
end
end N18
end
section
set_option Elab.async false
set_option linter.all false
set_option maxRecDepth 100000
set_option maxHeartbeats 4000000
namespace N18
open PySem PySem.Spec PyProof.Rows L2 TL PySem.W
/-! ### the long tables, as data -/
def dueD (I : Inst) (Ls : List Nat) : List (Tup Str) := Ls.map fun g => Tup.mk (tabS I (ent (all I) g).2)
structure DueAt (H : Hp) (I : Inst) (Ls : List Nat) (du : Addr) (us : List Addr) : Prop where
  due : H du = some (.lst (us.map V.ref))
  len : us.length = Ls.length
  uv : ∀ (i : Nat) (u : Addr) (g : Nat), us[i]? = some u → Ls[i]? = some g → H u = some (.tup ((tabS I (ent (all I) g).2).map V.str))
theorem DueAt.same {H H' : Hp} {I : Inst} {Ls : List Nat} {du : Addr} {us : List Addr} (k : DueAt H I Ls du us) (s : Same H H') : DueAt H' I Ls du us :=
  ⟨s _ _ k.due, k.len, fun i u g h1 h2 => s _ _ (k.uv i u g h1 h2)⟩
theorem DueAt.dp {K : PySem.W.Frag} {H : Hp} {I : Inst} {Ls : List Nat} {du : Addr} {us : List Addr} (k : DueAt H I Ls du us) : Dp K H (.ref du) (.list ((dueD I Ls).map Datum.toD)) := by
  refine .lst (SqL.of k.due) (dp_refs (paired_get (by unfold dueD; rw [k.len, List.length_map]) fun i u x h1 h2 => ?_))
  unfold dueD at h2
  rw [List.getElem?_map] at h2
  cases hg : Ls[i]? with
  | none =>
    rw [hg] at h2
    cases h2
  | some g =>
    rw [hg] at h2
    rw [← Option.some.inj h2]
    exact dp_tupS (k.uv i u g h1 hg)
theorem sh_tab {I : Inst} (ok : I.Ok) (r : List Nat) : SeqAt.shaped (Datum.toD (Tup.mk (tabS I r))) = true := (good_tab ok r).shaped (by decide)
theorem sh_due {I : Inst} (ok : I.Ok) (Ls : List Nat) : SeqAt.shaped (Datum.toD (dueD I Ls)) = true := by
  refine (good_list fun t ht => ?_).shaped (by decide)
  unfold dueD at ht
  obtain ⟨g, _, rfl⟩ := List.mem_map.mp ht
  exact good_tab ok _
theorem sh_dueL {I : Inst} (ok : I.Ok) (Ls : List Nat) : SeqAt.shaped (.list ((dueD I Ls).map Datum.toD)) = true := sh_due ok Ls
theorem DueAt.dpD {K : PySem.W.Frag} {H : Hp} {I : Inst} {Ls : List Nat} {du : Addr} {us : List Addr} (k : DueAt H I Ls du us) : Dp K H (.ref du) (Datum.toD (dueD I Ls)) := k.dp
theorem tab_inj {I : Inst} (ok : I.Ok) {i j : Nat} (hi : i < (all I).length) (hj : j < (all I).length) (h : tabS I (ent (all I) i).2 = tabS I (ent (all I) j).2) : i = j := by
  have F := all_fd I
  have e := tabS_inj ok (F.rlen ok (ent_mem hi)) (F.rlen ok (ent_mem hj)) (F.rlt ok (ent_mem hi)) (F.rlt ok (ent_mem hj)) h
  have h1 := rowsOf_get hi
  have h2 := rowsOf_get hj
  rw [← e] at h2
  exact nd_get F.nd h1 h2
theorem tup_inj {a b : List Str} (h : Tup.mk a = Tup.mk b) : a = b := by
  injection h
theorem dueD_mem {I : Inst} (ok : I.Ok) {Ls : List Nat} (hl : ∀ g ∈ Ls, g < (all I).length) {i : Nat} (hi : i < (all I).length) : Tup.mk (tabS I (ent (all I) i).2) ∈ dueD I Ls ↔ i ∈ Ls := by
  unfold dueD
  rw [List.mem_map]
  constructor
  · rintro ⟨g, hg, e⟩
    have e2 := tab_inj ok (hl g hg) hi (tup_inj e)
    subst e2
    exact hg
  · intro h
    exact ⟨i, h, rfl⟩
theorem any_due {I : Inst} (ok : I.Ok) {Ls : List Nat} (hl : ∀ g ∈ Ls, g < (all I).length) {i : Nat} (hi : i < (all I).length) : (((dueD I Ls).map Datum.toD).any fun z => PyData.eqv z (Datum.toD (Tup.mk (tabS I (ent (all I) i).2)))) = decide (i ∈ Ls) := by
  rw [Bool.eq_iff_iff, any_mem, dueD_mem ok hl hi, decide_eq_true_eq]
/-- a word of at least m letters has a long table -/
theorem long_of_word {I : Inst} (sm : Small I) {m T : Nat} (ag : Again I m T) {wd : List Nat} (hw : K18.Wd I.k wd) (hm : m ≤ wd.length) : ∃ g, g ∈ longL I m T ∧ (ent (all I) g).2 = K18.tb I.A I.s wd := by
  obtain ⟨g, hg⟩ := List.getElem?_of_mem (sm.cover _ wd rfl hw)
  have hgl : g < (all I).length := by
    have := (List.getElem?_eq_some_iff.mp hg).1
    rwa [rowsOf_len] at this
  rw [rowsOf_get hgl] at hg
  have hg := Option.some.inj hg
  have hl : g ∈ lev I wd.length := (lev_mem sm _ _).mpr ⟨hgl, wd, hw, rfl, hg.symm⟩
  obtain ⟨j, h1, h2, h3⟩ := ag.into wd.length hm
  rw [h3] at hl
  exact ⟨g, longL_mem.mpr ⟨hgl, j, h1, h2, hl⟩, hg⟩
theorem long_some {I : Inst} (ok : I.Ok) (sm : Small I) {m T : Nat} (ag : Again I m T) : 0 < (longL I m T).length := by
  obtain ⟨g, hg, _⟩ := long_of_word sm ag (wd := List.replicate m 0) (fun x hx => by rw [(List.mem_replicate.mp hx).2]; exact ok.k1) (by rw [List.length_replicate]; exact Nat.le_refl m)
  exact List.length_pos_of_mem hg
theorem long_lt {I : Inst} {m T : Nat} : ∀ g ∈ longL I m T, g < (all I).length := fun g hg => (longL_mem.mp hg).1
theorem long_len {I : Inst} (sm : Small I) (m T : Nat) : (longL I m T).length ≤ 200 := by
  have h1 : (longL I m T).length ≤ (List.range (all I).length).length := List.length_filter_le _ _
  rw [List.length_range] at h1
  have := sm.len
  omega
theorem long_filter {I : Inst} {m T : Nat} : ((List.range (all I).length).filter fun i => decide (i ∈ longL I m T)) = longL I m T := by
  refine asc_eq (asc_filter _ _) (longL_asc I m T) fun i => ?_
  rw [List.mem_filter, List.mem_range, decide_eq_true_eq]
  exact ⟨fun h => h.2, fun h => ⟨long_lt i h, h⟩⟩
/-! ### rules within a block -/
theorem ix_tupK {X : Cx} (K : PySem.W.Frag) (hK : X.K = K) : IxR X (rIxT K) := by
  subst hK
  exact ix_tup
theorem call_isiB {X : Cx} (K : PySem.W.Frag) (hK : X.K = K) : CallR X (.builtin "isinstance") (rIsi K) := by
  subst hK
  exact call_isi
theorem op_inDK {X : Cx} (K : PySem.W.Frag) (hK : X.K = K) (hu : X.A.units + 65 < cLine) : OpR X (compareOp .In) (rInD K) := by
  subst hK
  exact op_inD hu
/-- what holds behind the tests of the lists: apart from the hand -/
structure LS (C CC : Addr) (H : Hp) (h hc p c du : Addr) (us : List Addr) (I : Inst) (m T : Nat) : Prop where
  kept : Kept C CC (minus h H) p c I m T
  hand : HandAt H h hc
  due : DueAt (minus h H) I (longL I m T) du us
theorem LS.same {C CC h hc p c du : Addr} {H H' : Hp} {us : List Addr} {I : Inst} {m T : Nat} (k : LS C CC H h hc p c du us I m T) (s : Same H H') : LS C CC H' h hc p c du us I m T :=
  ⟨k.kept.same (minus_same s), k.hand.same s, k.due.same (minus_same s)⟩
theorem LS.draw {C CC h hc p c du : Addr} {H H' : Hp} {us : List Addr} {I : Inst} {m T : Nat} (k : LS C CC H h hc p c du us I m T) (s : But h H H') (hh : HandAt H' h hc) : LS C CC H' h hc p c du us I m T :=
  ⟨k.kept.same (minus_but s), hh, k.due.same (minus_but s)⟩
end N18
end
section
set_option Elab.async false
set_option linter.all false
set_option maxRecDepth 100000
set_option maxHeartbeats 4000000
namespace N18
open PySem PySem.Spec PyProof.Rows L2 TL PySem.W
/-- one statement, what follows it kept small -/
theorem step {t u : TS} {D : Ends} {σ : L2.St} {H : Hp} (h : ∀ R : L2.St → Hp → Prop, (∀ σ' H', u D σ' H' → R σ' H') → t { D with nx := R } σ H) : tSeq t u D σ H := h (u D) fun _ _ x => x
theorem stepS {t u : TS} {D : Ends} {σ : L2.St} {H : Hp} (σ0 : L2.St) (e : σ = σ0) (h : ∀ R : L2.St → Hp → Prop, (∀ σ' H', u D σ' H' → R σ' H') → t { D with nx := R } σ0 H) : tSeq t u D σ H := by
  subst e
  exact h (u D) fun _ _ x => x
theorem fin_true {Qb : Bool → Prop} {p : Prop} [Decidable p] (h : p) (q : Qb true) : Qb (decide p) := by
  rw [decide_eq_true h]
  exact q
section
variable {P : Program} {w : World} {K : PySem.W.Frag} {mg : Str → Option Value} {base : Heap}
/-! ### law -/
def spLaw (K : PySem.W.Frag) : Sp := fun vs H Q _ => ∃ (a : Addr) (ns : List Int), vs = [.ref a] ∧ SqL K H a (ns.map V.int) ∧ ns.length ≤ 63 ∧ ∀ H', Q (.bl true) H'
abbrev nLaw : List Str := ["_law_script", "_law_hand_here", "_law_given", "_law_said", "_law_pairs_here", "_law_cells_here", "_law_known_here", "_law_closure_here", "_law_wish", "_law_least", "_law_round_of", "_law_levels_here", "_law_told", "_law_marks", "_law_level", "_law_at", "_law_due", "_law_turn", "_law_shown", "_law_word_here", "_law_rows", "_law_every", "_law_part"]
theorem scLaw : FnScope nLaw ["_law_script"] (defScope sLaw) := ⟨rfl, rfl, rfl, by decide +kernel, rfl, by decide +kernel, by decide +kernel⟩
theorem ok_law {C CC f gW : Addr} {fd gdW : FuncData} (F : Fun K "law" "law" sLaw f fd) (B : Bt mg) (M : Mk K C gW) (mC : mg "Wish" = some (.ref C)) (GW : FnOk P w K mg base CX0 7 gW gdW ["self", "given", "said", "pairs"] (spWInit C)) (bW : Binds K gdW ["self", "given", "said", "pairs"] [])
    (c1 : Cal P w K mg base "_law_hand" 8 ["_law_script"] (spHand K)) (c2 : Cal P w K mg base "_law_small" 8 ["_law_hand_here"] spSmall) (c3 : Cal P w K mg base "_law_cells" 8 ["_law_given", "_law_said"] spCells) (c4 : Cal P w K mg base "_law_known" 8 ["_law_pairs_here"] (spKnown K))
    (c5 : Cal P w K mg base "_law_closure" 8 ["_law_given", "_law_cells_here", "_law_known_here"] spClosureL) (c6 : Cal P w K mg base "_law_levels" 8 ["_law_given", "_law_cells_here", "_law_known_here", "_law_found"] spLevelsL)
    (c7 : Cal P w K mg base "start" 8 ["wish"] (spStart C CC)) (c8 : Cal P w K mg base "longs" 8 ["wish"] (spLongs C CC)) (c9 : Cal P w K mg base "tables" 8 ["wish"] (spTables C CC)) (c10 : Cal P w K mg base "_law_word" 8 ["_law_hand_here", "_law_given", "_law_many"] spWord)
    (c11 : Cal P w K mg base "_law_draw" 8 ["_law_hand_here", "_law_many"] spDraw) (c12 : Cal P w K mg base "table" 8 ["wish", "word"] (spTable K C)) (c13 : Cal P w K mg base "word_with" 8 ["wish", "table", "least"] (spWordWith C CC)) :
    FnOk P w K mg base CX0 9 f fd ["_law_script"] (spLaw K) := by
  obtain ⟨g1, gd1, G1, mG1, kG1, bG1⟩ := c1
  obtain ⟨g2, gd2, G2, mG2, kG2, bG2⟩ := c2
  obtain ⟨g3, gd3, G3, mG3, kG3, bG3⟩ := c3
  obtain ⟨g4, gd4, G4, mG4, kG4, bG4⟩ := c4
  obtain ⟨g5, gd5, G5, mG5, kG5, bG5⟩ := c5
  obtain ⟨g6, gd6, G6, mG6, kG6, bG6⟩ := c6
  obtain ⟨g7, gd7, G7, mG7, kG7, bG7⟩ := c7
  obtain ⟨g8, gd8, G8, mG8, kG8, bG8⟩ := c8
  obtain ⟨g9, gd9, G9, mG9, kG9, bG9⟩ := c9
  obtain ⟨g10, gd10, G10, mG10, kG10, bG10⟩ := c10
  obtain ⟨g11, gd11, G11, mG11, kG11, bG11⟩ := c11
  obtain ⟨g12, gd12, G12, mG12, kG12, bG12⟩ := c12
  obtain ⟨g13, gd13, G13, mG13, kG13, bG13⟩ := c13
  refine F.ok scLaw (fun vs H Q E h => ?_) (fun cdv A outer s H vs Q E hr h => ?_)
  · obtain ⟨a, ns, rfl, _⟩ := h
    rfl
  · obtain ⟨a, ns, rfl, hS, hns, q⟩ := h
    have hu := hu_of hr
    have hu65 : (A.deeper (envOfC "law" (defScope sLaw) s.heap.objs.size f cdv)).units + 65 < cLine := by have := hr.un; omega
    have nd := scLaw.nd
    refine ⟨_, pss_cons (ps_set (i := 1) nd rfl (.inl rfl) (pe_call G1 hr (by rfl) mG1 kG1 bG1 .nil pass0 (pa_cons (pv 0) pa_nil)))
      (pss_cons (ps_asg (pe_call G2 hr (by rfl) mG2 kG2 bG2 .nil pass0 (pa_cons (pv 1) pa_nil)) (pg_tup rfl (pgs_cons (pg_name (i := 2) nd rfl (.inl rfl)) (pgs_cons (pg_name (i := 3) nd rfl (.inl rfl)) (pgs_cons (pg_name (i := 4) nd rfl (.inl rfl)) pgs_nil)))))
      (pss_cons (ps_set (i := 5) nd rfl (.inl rfl) (pe_call G3 hr (by rfl) mG3 kG3 bG3 .nil pass0 (pa_cons (pv 2) (pa_cons (pv 3) pa_nil))))
      (pss_cons (ps_set (i := 6) nd rfl (.inl rfl) (pe_call G4 hr (by rfl) mG4 kG4 bG4 .nil pass0 (pa_cons (pv 4) pa_nil)))
      (pss_cons (ps_set (i := 7) nd rfl (.inr rfl) (pe_call G5 hr (by rfl) mG5 kG5 bG5 .nil pass0 (pa_cons (pv 2) (pa_cons (pv 5) (pa_cons (pv 6) pa_nil)))))
      (pss_cons (ps_if (pt_cmpR op_isN (pv 7) pe_non (nomark _)) (pss_one (ps_ret pe_bl)) pss_nil)
      (pss_cons (ps_set (i := 8) nd rfl (.inl rfl) (pe_make M GW hr (by rfl) mC bW .nil pass0 (pa_cons (pv 2) (pa_cons (pv 3) (pa_cons (pv 4) pa_nil)))))
      (pss_cons (ps_asg (pe_call G6 hr (by rfl) mG6 kG6 bG6 .nil pass0 (pa_cons (pv 2) (pa_cons (pv 5) (pa_cons (pv 6) (pa_cons (pv 7) pa_nil))))) (pg_tup rfl (pgs_cons (pg_name (i := 9) nd rfl (.inl rfl)) (pgs_cons (pg_name (i := 10) nd rfl (.inl rfl)) (pgs_cons (pg_name (i := 11) nd rfl (.inl rfl)) pgs_nil)))))
      (pss_cons (ps_set (i := 12) nd rfl (.inl rfl) (pe_call G7 hr (by rfl) mG7 kG7 bG7 .nil pass0 (pa_cons (pv 8) pa_nil)))
      (pss_cons (ps_if (PW.pt (pw_or (pt_cmpR (op_neD hr.units) (pv 12) (pe_tup (pa_cons (pv 9) (pa_cons (pv 10) pa_nil))) (nomark _))
          (pw_or (pt_not (pt_val (pe_callB call_isi (by rfl) B.isi (by decide +kernel) (pa_cons (pv 12) (pa_cons (pe_bltn (v := .ty "tuple") (by rfl) B.tuple (by decide +kernel) rfl) pa_nil)))))
          (pw_or1 (pt_cmpR op_in_seq pe_bl (pe_lc (own := [("_law_part", 22)]) (g := gName 22) (tt := tYes) rfl nd (pi_tup (pv 12)) (blkOk_by (N := nLaw) (sc := defScope sLaw) (by decide +kernel)) (fun _ _ _ _ _ => pg_name (i := 22) nd rfl (.inl rfl)) (fun _ _ _ _ _ => pts_nil)
            (fun _ _ _ _ _ => pe_callB (call_isiB K rfl) (by rfl) B.isi (by decide +kernel) (pa_cons (pv 22) (pa_cons (pe_bltn (v := .ty "bool") (by rfl) B.bool (by decide +kernel) rfl) pa_nil)))) rfl))))) (pss_one (ps_ret pe_bl)) pss_nil)
      (pss_cons (ps_set (i := 13) nd rfl (.inl rfl) pe_dnewK)
      (pss_cons (ps_for PassesOwn.never rfl (pi_list (pe_slice sl_list (pv 11) (po_some (pv 9)) po_none)) (pg_name (i := 14) nd rfl (.inl rfl))
        (pss_one (ps_for PassesOwn.never rfl (pi_list (pv 14)) (pg_name (i := 15) nd rfl (.inl rfl)) (pss_one (ps_dput hu (pv 13) (pv 15) pe_bl rfl)))))
      (pss_cons (ps_set (i := 16) nd rfl (.inr rfl) (pe_lc (own := [("_law_at", 15)]) (g := gName 15) (tt := tYes) rfl nd (pi_list (pe_callB cr_sortedI (by rfl) B.sorted (by decide +kernel) (pa_cons (pe_callTy (call_list_dK rfl) (by rfl) B.list (by decide +kernel) (pa_cons (pv 13) pa_nil)) pa_nil))) (blkOk_by (N := nLaw) (sc := defScope sLaw) (by decide +kernel)) (fun _ _ _ _ _ => pg_name (i := 15) nd rfl (.inl rfl)) (fun _ _ _ _ _ => pts_nil)
          (fun _ _ _ _ _ => pe_ix (ix_tupK K rfl) (pe_ix (ix_listK K rfl) (pv 7) (pv 15) (fun _ _ => rfl)) pe_int (fun _ _ => rfl))))
      (pss_cons (ps_for PassesOwn.never rfl (pi_range1 (by rfl) B.range (pa_cons pe_int pa_nil)) (pg_name (i := 17) nd rfl (.inl rfl))
        (pss_cons (ps_set (i := 18) nd rfl (.inl rfl) (pe_call G8 hr (by rfl) mG8 kG8 bG8 .nil pass0 (pa_cons (pv 8) pa_nil)))
        (pss_cons (ps_if (PW.pt (pw_or (pt_not (pt_val (pe_callB call_isi (by rfl) B.isi (by decide +kernel) (pa_cons (pv 18) (pa_cons (pe_bltn (v := .ty "list") (by rfl) B.list (by decide +kernel) rfl) pa_nil)))))
            (pw_or1 (pt_cmpR (op_neD hr.units) (pv 18) (pv 16) (nomark _))))) (pss_one (ps_ret pe_bl)) pss_nil)
        (pss_cons (ps_expr (pe_bm PySem.F.plainAttrs_list PySem.F.slot_list_append PySem.F.type_list_append mt_append (pv 18) (pa_cons (pe_tup pa_nil) pa_nil)))
        (pss_one (ps_asg pe_non (pg_sub (pv 18) pe_int set_list)))))))
      (pss_cons (ps_setLc (i := 21) (own := [("_law_word_here", 19), ("_law_rows", 20)]) (g := gTup K 2 (gCons (gName 19) (gCons (gName 20) gNil))) (tt := tYes) rfl nd rfl rfl (sw_true rfl rfl rfl (by decide +kernel)) (pi_list (pe_call G9 hr (by rfl) mG9 kG9 bG9 .nil pass0 (pa_cons (pv 8) pa_nil))) (blkOk_by (N := nLaw) (sc := defScope sLaw) (by decide +kernel))
          (fun _ _ _ _ _ => pg_tup rfl (pgs_cons (pg_name (i := 19) nd rfl (.inl rfl)) (pgs_cons (pg_name (i := 20) nd rfl (.inl rfl)) pgs_nil))) (fun _ _ _ _ _ => pts_nil) (fun _ _ _ _ _ => pv 20))
      (pss_cons (ps_if (pt_cmpR (op_neD hr.units) (pe_lc (own := [("_law_rows", 20)]) (g := gName 20) rfl nd (pi_list (pv 21)) (blkOk_by (N := nLaw) (sc := defScope sLaw) (by decide +kernel)) (fun _ _ _ _ _ => pg_name (i := 20) nd rfl (.inl rfl)) (fun _ _ _ _ _ => pts_one (pt_cmpR (op_inDK K rfl hu65) (pv 20) (pv 16) rfl)) (fun _ _ _ _ _ => pv 20)) (pv 16) (nomark _)) (pss_one (ps_ret pe_bl)) pss_nil)
      (pss_cut (ps_if (pt_cmpR op_lt (pv 9) pe_int (nomark _))
        (pss_one (ps_for PassesOwn.never rfl (pi_range1 (by rfl) B.range (pa_cons pe_int pa_nil)) (pg_name (i := 17) nd rfl (.inl rfl))
          (pss_cons (ps_set (i := 19) nd rfl (.inl rfl) (pe_call G10 hr (by rfl) mG10 kG10 bG10 .nil pass0 (pa_cons (pv 1) (pa_cons (pv 2) (pa_cons (pe_op op_add (pv 9) (pe_call G11 hr (by rfl) mG11 kG11 bG11 .nil pass0 (pa_cons (pv 1) (pa_cons pe_int pa_nil)))) pa_nil)))))
          (pss_one (ps_if (pt_cmpR (op_notInD hu65) (pe_call G12 hr (by rfl) mG12 kG12 bG12 .nil pass0 (pa_cons (pv 8) (pa_cons (pv 19) pa_nil))) (pv 16) rfl) (pss_one (ps_ret pe_bl)) pss_nil))))) pss_nil)
      (pss_cons (ps_set (i := 20) nd rfl (.inl rfl) (pe_ix ix_list (pv 16) (pe_call G11 hr (by rfl) mG11 kG11 bG11 .nil pass0 (pa_cons (pv 1) (pa_cons (pe_callB call_len_seq (by rfl) B.len PySem.boot_len (pa_cons (pv 16) pa_nil)) pa_nil))) (fun _ _ => rfl)))
      (pss_cons (ps_set (i := 19) nd rfl (.inl rfl) (pe_call G13 hr (by rfl) mG13 kG13 bG13 .nil pass0 (pa_cons (pv 8) (pa_cons (pv 20) (pa_cons pe_int pa_nil)))))
      (pss_cons (ps_if (PW.pt (pw_or (pt_not (pt_val (pe_callB call_isi (by rfl) B.isi (by decide +kernel) (pa_cons (pv 19) (pa_cons (pe_bltn (v := .ty "str") (by rfl) B.str (by decide +kernel) rfl) pa_nil)))))
          (pw_or (pt_cmpR op_lt (pe_callB call_len_str (by rfl) B.len PySem.boot_len (pa_cons (pv 19) pa_nil)) pe_int (nomark _))
          (pw_or1 (PW.pt (pw_and (pt_cmpR op_le (pe_callB call_len_str (by rfl) B.len PySem.boot_len (pa_cons (pv 19) pa_nil)) pe_int (nomark _)) (pw_and1 (pt_cmpR (op_neD hr.units) (pe_call G12 hr (by rfl) mG12 kG12 bG12 .nil pass0 (pa_cons (pv 8) (pa_cons (pv 19) pa_nil))) (pv 20) (nomark _))))))))) (pss_one (ps_ret pe_bl)) pss_nil)
      (pss_one (ps_ret (pe_cmpR op_lt (pe_callB call_len_str (by rfl) B.len PySem.boot_len (pa_cons (pv 19) pa_nil)) (pe_op op_add (pe_callB (call_max2 rfl) (by rfl) B.max (by decide +kernel) (pa_cons pe_int (pa_cons (pv 9) pa_nil))) (pv 10)) (nomark _))))))))))))))))))))))), ?_⟩
    refine stepS [some (.ref a), none, none, none, none, none, none, none, none, none, none, none, none, none, none, none, none, none, none, none, none, none, none] rfl fun R hR => ?_
    refine ⟨_, rfl, a, ns, rfl, hS, fun H1 h hc s1 hh0 hc0 hh1 => ?_⟩
    refine hR _ _ (stepS [some (.ref a), some (.ref h), none, none, none, none, none, none, none, none, none, none, none, none, none, none, none, none, none, none, none, none, none] rfl fun R2 hR2 => ?_)
    clear hR R
    refine ⟨_, rfl, h, hc, rfl, hh1, fun H2 t la gl sl ps b2 hh2 nth nlh hla0 ht hla lok pnd pll pok => ?_⟩
    refine ⟨t, [_, _, _], rfl, .inl (.inl ht), rfl, _, [_, _], rfl, _, [_], rfl, _, [], rfl, rfl, ?_⟩
    refine hR2 _ _ (stepS [some (.ref a), some (.ref h), some (tV gl), some (tV sl), some (.ref la), none, none, none, none, none, none, none, none, none, none, none, none, none, none, none, none, none, none] rfl fun R hR => ?_)
    clear hR2 R2
    refine ⟨_, rfl, _, rfl, gl, sl, rfl, lok.n6, fun H3 ca s3 hca0 hca => ?_⟩
    refine hR _ _ (stepS [some (.ref a), some (.ref h), some (tV gl), some (tV sl), some (.ref la), some (.ref ca), none, none, none, none, none, none, none, none, none, none, none, none, none, none, none, none, none] rfl fun R2 hR2 => ?_)
    clear hR R
    refine ⟨_, rfl, la, ps, rfl, .inl (s3 _ _ hla), pnd, by omega, fun H4 ka s4 hka0 hka => ?_⟩
    refine hR2 _ _ (stepS [some (.ref a), some (.ref h), some (tV gl), some (tV sl), some (.ref la), some (.ref ca), some (.ref ka), none, none, none, none, none, none, none, none, none, none, none, none, none, none, none, none] rfl fun R hR => ?_)
    clear hR2 R2
    have ft := lok.fits ps
    have hca4 := s4 _ _ hca
    obtain ⟨I, hI⟩ : ∃ I, instOf gl sl ps = I := ⟨_, rfl⟩
    rw [hI] at ft
    have ecells : I.cells = cellsL gl sl := by rw [← hI]; rfl
    have egl : I.gl = gl := by rw [← hI]; rfl
    rw [← ecells] at hca4
    have ok := ft.ok
    refine ⟨_, rfl, _, rfl, _, rfl, ca, ka, I, ps, by rw [egl]; rfl, ft, hca4, hka, fun nsm H5 s5 => ?_, fun sm H5 fa qs s5 hfa0 hf5 => ?_⟩
    · -- more than 200 tables
      refine hR _ _ (stepS [some (.ref a), some (.ref h), some (tV gl), some (tV sl), some (.ref la), some (.ref ca), some (.ref ka), some .non, none, none, none, none, none, none, none, none, none, none, none, none, none, none, none] rfl fun R2 hR2 => ?_)
      exact ⟨_, rfl, rfl, _, rfl, iteT (q _)⟩
    refine hR _ _ (stepS [some (.ref a), some (.ref h), some (tV gl), some (tV sl), some (.ref la), some (.ref ca), some (.ref ka), some (.ref fa), none, none, none, none, none, none, none, none, none, none, none, none, none, none, none] rfl fun R2 hR2 => ?_)
    clear hR R
    obtain ⟨m, T, ag⟩ := again_exists ok sm
    have hmT := ag.lt
    have hT := ag.le
    refine ⟨_, rfl, rfl, _, rfl, iteF ?_⟩
    refine hR2 _ _ (stepS [some (.ref a), some (.ref h), some (tV gl), some (tV sl), some (.ref la), some (.ref ca), some (.ref ka), some (.ref fa), none, none, none, none, none, none, none, none, none, none, none, none, none, none, none] rfl fun R hR => ?_)
    clear hR2 R2
    have s45 := s4.trans s5
    have s25 := s3.trans s45
    have hh5 := hh2.same s25
    have hla5 := s25 _ _ hla
    have hca5 := s5 _ _ hca4
    have hka5 := s5 _ _ hka
    -- the wish
    refine ⟨_, rfl, _, rfl, _, rfl, fun x d hx hd nxd => ?_⟩
    have sx : Same H5 (upd (upd H5 d (.own x)) x (.ins C d [])) := (same_upd hd).trans (same_upd (by rw [upd_ne (Ne.symm nxd)]; exact hx))
    refine ⟨H5, x, d, la, gl, sl, ps, rfl, lok, hla5, pnd, by omega, pok, hx, sx, upd_same, fun H6 s6 hW => ⟨rfl, ?_⟩⟩
    refine hR _ _ (stepS [some (.ref a), some (.ref h), some (tV gl), some (tV sl), some (.ref la), some (.ref ca), some (.ref ka), some (.ref fa), some (.ref x), none, none, none, none, none, none, none, none, none, none, none, none, none, none] rfl fun R2 hR2 => ?_)
    clear hR R
    rw [hI] at hW
    have hW6 : ∃ o, H5 h = some (.lst o) := by
      obtain ⟨ns', i', c', x', k', e, _⟩ := hh5
      exact ⟨_, e⟩
    obtain ⟨ho, hho⟩ := hW6
    have hW6 := hW h _ hho
    clear hW
    -- the levels
    refine ⟨_, rfl, _, rfl, _, rfl, _, rfl, ca, ka, fa, I, ps, qs, m, T, by rw [egl]; rfl, ft, s6 _ _ hca5, s6 _ _ hka5, sm, hf5.same s6, ag, fun H7 t7 sa ls s7 ht70 hsa0 ht7 hsn7 => ?_⟩
    refine ⟨t7, [_, _, _], rfl, .inl (.inl ht7), rfl, _, [_, _], rfl, _, [_], rfl, _, [], rfl, rfl, ?_⟩
    refine hR2 _ _ (stepS [some (.ref a), some (.ref h), some (tV gl), some (tV sl), some (.ref la), some (.ref ca), some (.ref ka), some (.ref fa), some (.ref x), some (nV m), some (nV (T - m)), some (.ref sa), none, none, none, none, none, none, none, none, none, none, none] rfl fun R hR => ?_)
    clear hR2 R2
    have s57 := s6.trans s7
    have hW7 := hW6.same (minus_same s7)
    -- start
    refine ⟨_, rfl, x, I, m, T, rfl, ok, sm, ag, h, _, s57 _ _ hho, hW7, fun H8 c t8 b8 kp8 ht8 => ?_⟩
    refine hR _ _ (stepS [some (.ref a), some (.ref h), some (tV gl), some (tV sl), some (.ref la), some (.ref ca), some (.ref ka), some (.ref fa), some (.ref x), some (nV m), some (nV (T - m)), some (.ref sa), some (.ref t8), none, none, none, none, none, none, none, none, none, none] rfl fun R2 hR2 => ?_)
    clear hR R
    obtain ⟨dx7, fs7, _, _, _, _, _, _, hx7m, _, _⟩ := hW7
    obtain ⟨nxh, hx7⟩ := minus_some hx7m
    have keep8 : ∀ a o, H7 a = some o → o ≠ .ins C dx7 fs7 → H8 a = some o := fun a o e n => b8 a o (ne_of e hx7 n) e
    have f8 : FndAt H8 I (all I) fa qs := by
      have k := (hf5.same s57)
      refine ⟨keep8 _ _ k.fnd (by intro z; cases z), k.ql, fun i u e => ?_⟩
      obtain ⟨t', h1, h2⟩ := k.qv i u e
      exact ⟨t', keep8 _ _ h1 (by intro z; cases z), keep8 _ _ h2 (by intro z; cases z)⟩
    have sn8 : SeenAt H8 I T sa ls := ⟨keep8 _ _ hsn7.seen (by intro z; cases z), hsn7.len, fun j a e => ⟨(hsn7.lv j a e).1, keep8 _ _ (hsn7.lv j a e).2 (by intro z; cases z)⟩⟩
    have hh8 : HandAt H8 h hc := by
      obtain ⟨ns', i', c', x', k', e1, e2, e3⟩ := hh5.same s57
      exact ⟨ns', i', c', x', k', keep8 _ _ e1 (by intro z; cases z), keep8 _ _ e2 (by intro z; cases z), e3⟩
    clear hh5 hf5 hsn7 hW6 keep8
    -- told
    refine ⟨_, rfl, _, rfl, _, rfl, by show 2 ≤ sizeLine; decide, fun t9 ht9 => ?_⟩
    have s9 : Same H8 (upd H8 t9 (.tup [nV m, nV (T - m)])) := same_upd ht9
    have e9 : (upd H8 t9 (.tup [nV m, nV (T - m)])) t9 = some (.tup [nV m, nV (T - m)]) := upd_same
    generalize upd H8 t9 (.tup [nV m, nV (T - m)]) = H9 at s9 e9 ⊢
    have dpt : ∀ {z : Addr}, H9 z = some (.tup [nV m, nV (T - m)]) → Dp K H9 (.ref z) (Datum.toD (Tup.mk (intL [m, T - m]))) := fun e => .tup (SqT.of e) (dp_ints (intL [m, T - m]))
    have sht : SeqAt.shaped (Datum.toD (Tup.mk (intL [m, T - m]))) = true := (good_tup fun i _ => good_int i).shaped (by decide)
    refine ⟨_, _, dpt (s9 _ _ ht8), dpt e9, sht, sht, _, rfl, ?_⟩
    rw [Datum.eqv, decide_eq_true rfl]
    refine iteF ?_
    refine ⟨_, rfl, .ref t8, .ty "tuple", _, _, true, rfl, .ty _, .base (.tup (s9 _ _ ht8)), kit_ty (by decide +kernel), _, rfl, iteF ?_⟩
    refine ⟨_, rfl, t8, rfl, ⟨_, SqT.of (s9 _ _ ht8)⟩, fun D hD => ?_⟩
    refine lc_it (walk_tup (xs := [nV m, nV (T - m)])) (fun i H' => Same H9 H' ∧ H' D = some (.lst ((List.replicate i false).map V.bl))) ⟨same_upd hD, upd_same⟩ ?_ ?_ ?_
    · rintro i H' _ ⟨s10, _⟩
      exact SqT.of ((s9.trans s10) _ _ ht8)
    · rintro i v H10 H10' hi ⟨s10, e10⟩ ⟨rfl, hv⟩
      have hi : i < 2 := hi
      obtain ⟨nn, rfl⟩ : ∃ nn : Nat, v = nV nn := by
        have : i = 0 ∨ i = 1 := by omega
        rcases this with rfl | rfl
        · exact ⟨m, (Option.some.inj hv).symm⟩
        · exact ⟨T - m, (Option.some.inj hv).symm⟩
      refine ⟨rfl, ?_⟩
      refine ⟨_, rfl, .int (nn : Int), .ty "bool", _, _, false, rfl, .ty _, .base (.int _), kit_ty (by decide +kernel), _, e10, by rw [List.length_map, List.length_replicate]; exact small1000 (by omega), s10.put hD, ?_⟩
      rw [upd_same, List.replicate_succ', List.map_append]
      rfl
    rintro H10 ⟨s10, e10⟩
    have e10 : H10 D = some (.lst [V.bl false, V.bl false]) := e10
    refine ⟨D, _, rfl, .inl (SqL.of e10), rfl, rfl, false, rfl, iteF ?_⟩
    refine hR2 _ _ (stepS [some (.ref a), some (.ref h), some (tV gl), some (tV sl), some (.ref la), some (.ref ca), some (.ref ka), some (.ref fa), some (.ref x), some (nV m), some (nV (T - m)), some (.ref sa), some (.ref t8), none, none, none, none, none, none, none, none, none, none] rfl fun R hR => ?_)
    clear hR2 R2
    have s8t := s9.trans s10
    -- marks
    intro ma hma
    refine hR _ _ (stepS [some (.ref a), some (.ref h), some (tV gl), some (tV sl), some (.ref la), some (.ref ca), some (.ref ka), some (.ref fa), some (.ref x), some (nV m), some (nV (T - m)), some (.ref sa), some (.ref t8), some (.ref ma), none, none, none, none, none, none, none, none, none] rfl fun R2 hR2 => ?_)
    clear hR R
    have s11 : Same H10 (upd H10 ma (.dK [])) := same_upd hma
    have s811 := s8t.trans s11
    have sn11 := sn8.same s811
    refine ⟨_, rfl, _, rfl, _, rfl, sa, _, rfl, SqL.of sn11.seen, fun pa hpa => ?_⟩
    have pc : (upd (upd H10 ma (.dK [])) pa (.lst (cutV (ls.map V.ref) (some ((m : Nat) : Int)) none))) pa = some (.lst ((ls.drop m).map V.ref)) := by rw [upd_same, cut_from, List.map_drop]
    have npz : ma ≠ pa := ne_of_none (upd_same (H := H10) (a := ma) (o := .dK [])) hpa
    have zc : (upd (upd H10 ma (.dK [])) pa (.lst (cutV (ls.map V.ref) (some ((m : Nat) : Int)) none))) ma = some (.dK (trueD [])) := by
      rw [upd_ne npz, upd_same]
      rfl
    have sC : Same H10 (upd (upd H10 ma (.dK [])) pa (.lst (cutV (ls.map V.ref) (some ((m : Nat) : Int)) none))) := s11.trans (same_upd hpa)
    generalize upd (upd H10 ma (.dK [])) pa (.lst (cutV (ls.map V.ref) (some ((m : Nat) : Int)) none)) = HC at pc zc sC ⊢
    have hpa0 : H10 pa = none := s11.free hpa
    have sn10 := sn8.same s8t
    have f10 := f8.same s8t
    have hh10 := hh8.same s8t
    have lsl : ls.length = T := sn8.len
    refine ⟨pa, rfl, ⟨_, SqL.of pc⟩, ?_⟩
    refine for_it (walk_list (xs := (ls.drop m).map V.ref)) (fun e σ H' => ∃ (y14 y15 : Option V) (ks : List Nat), σ = [some (.ref a), some (.ref h), some (tV gl), some (tV sl), some (.ref la), some (.ref ca), some (.ref ka), some (.ref fa), some (.ref x), some (nV m), some (nV (T - m)), some (.ref sa), some (.ref t8), some (.ref ma), y14, y15, none, none, none, none, none, none, none] ∧ Same H10 H' ∧ H' pa = some (.lst ((ls.drop m).map V.ref)) ∧
      H' ma = some (.dK (trueD ks)) ∧ ks.Nodup ∧ ∀ z, z ∈ ks ↔ ∃ n, m ≤ n ∧ n < m + e ∧ z ∈ lev I n) ⟨none, none, [], rfl, sC, pc, zc, List.nodup_nil, fun z => ⟨fun h => (nomatch h), fun ⟨n, h1, h2, _⟩ => by omega⟩⟩ ?_ ?_ ?_
    · rintro e σ H' _ ⟨y14, y15, ks, rfl, _, h1, _⟩
      exact SqL.of h1
    · rintro e v σ H3 H3' he ⟨y14, y15, ks, rfl, s6', hp6, hz6, hnd, hks⟩ ⟨rfl, hv⟩
      rw [List.getElem?_map, List.getElem?_drop] at hv
      rw [List.length_map, List.length_drop, lsl] at he
      obtain ⟨t, ht⟩ : ∃ t, ls[m + e]? = some t := ⟨ls[m + e]'(by omega), List.getElem?_eq_getElem _⟩
      rw [ht] at hv
      have hv := Option.some.inj hv
      subst hv
      have ht3 := s6' _ _ (sn10.lv _ _ ht).2
      refine ⟨_, rfl, t, rfl, ⟨_, SqL.of ht3⟩, ?_⟩
      refine for_it (walk_list (xs := (lev I (m + e)).map nV)) (fun j σ H' => ∃ (y15 : Option V) (ks : List Nat), σ = [some (.ref a), some (.ref h), some (tV gl), some (tV sl), some (.ref la), some (.ref ca), some (.ref ka), some (.ref fa), some (.ref x), some (nV m), some (nV (T - m)), some (.ref sa), some (.ref t8), some (.ref ma), some (.ref t), y15, none, none, none, none, none, none, none] ∧ Same H10 H' ∧ H' pa = some (.lst ((ls.drop m).map V.ref)) ∧
        H' ma = some (.dK (trueD ks)) ∧ ks.Nodup ∧ ∀ z, z ∈ ks ↔ (∃ n, m ≤ n ∧ n < m + e ∧ z ∈ lev I n) ∨ z ∈ (lev I (m + e)).take j) ⟨y15, ks, rfl, s6', hp6, hz6, hnd, fun z => by rw [hks]; exact ⟨.inl, fun h => h.elim id fun h => (nomatch h)⟩⟩ ?_ ?_ ?_
      · rintro j σ H' _ ⟨y15, ks, rfl, h1, _⟩
        exact SqL.of (h1 _ _ (sn10.lv _ _ ht).2)
      · rintro j v σ H4' H5' hj ⟨y15, ks2, rfl, s7', hp7, hz7, hnd2, hks2⟩ ⟨rfl, hv⟩
        obtain ⟨hj2, rfl⟩ := nv_getI hv
        have hget : (lev I (m + e))[j]? = some ((lev I (m + e)).getD j 0) := by rw [List.getD_eq_getElem?_getD, List.getElem?_eq_getElem hj2]; rfl
        have klen : ks2.length ≤ 200 := by
          have := hnd2.length_le_of_subset (l₂ := List.range (all I).length) (fun z hz => by
            rw [List.mem_range]
            rcases (hks2 z).mp hz with ⟨n, _, _, h⟩ | h
            · exact lev_lt I n z h
            · exact lev_lt I _ z (List.mem_of_mem_take h))
          rw [List.length_range] at this
          have := sm.len
          omega
        have dp := DPut.k (k := (Sum.inl (((lev I (m + e)).getD j 0 : Nat) : Int) : Key)) (v := .bl true) hz7 (by rw [trueD_len]; exact small1000 (by omega))
        rw [trueD_put] at dp
        refine ⟨_, rfl, _, rfl, ma, _, rfl, dp, _, addN ks2 ((lev I (m + e)).getD j 0), rfl, s7'.put hma, by rw [upd_ne (Ne.symm npz)]; exact hp7, upd_same, addN_nd hnd2, fun z => ?_⟩
        rw [addN_mem, hks2, take_snoc hget, List.mem_append, List.mem_singleton, or_assoc]
      · rintro σ H4' ⟨y15, ks2, rfl, s7', hp7, hz7, hnd2, hks2⟩
        refine ⟨_, _, ks2, rfl, s7', hp7, hz7, hnd2, fun z => ?_⟩
        rw [List.length_map, List.take_length] at hks2
        rw [hks2]
        constructor
        · rintro (⟨n, h1, h2, h3⟩ | h)
          · exact ⟨n, h1, by omega, h3⟩
          · exact ⟨m + e, by omega, by omega, h⟩
        · rintro ⟨n, h1, h2, h3⟩
          by_cases q : n = m + e
          · subst q
            exact .inr h3
          · exact .inl ⟨n, h1, by omega, h3⟩
    rintro σ H12 ⟨y14, y15, ks, rfl, s12, hp12, hz12, hnd, hks⟩
    refine hR2 _ _ (stepS [some (.ref a), some (.ref h), some (tV gl), some (tV sl), some (.ref la), some (.ref ca), some (.ref ka), some (.ref fa), some (.ref x), some (nV m), some (nV (T - m)), some (.ref sa), some (.ref t8), some (.ref ma), y14, y15, none, none, none, none, none, none, none] rfl fun R hR => ?_)
    clear hR2 R2
    rw [List.length_map, List.length_drop, lsl] at hks
    have hL2 : ∀ z, z ∈ ks ↔ z ∈ longL I m T := by
      intro z
      rw [hks, longL_mem]
      constructor
      · rintro ⟨n, h1, h2, h3⟩
        exact ⟨lev_lt I n z h3, n, h1, by omega, h3⟩
      · rintro ⟨_, n, h1, h2, h3⟩
        exact ⟨n, h1, by omega, h3⟩
    -- due
    refine ⟨_, rfl, ma, _, rfl, hz12, fun l hl => ?_⟩
    rw [trueD_keys]
    refine ⟨l, _, rfl, SqL.of upd_same, fun ns2 p hp hs hpn => ?_⟩
    rw [sorted_asc hnd (longL_asc I m T) hL2 hp hs]
    have s13 : Same H12 (upd (upd H12 l (.lst ((ks.map fun m : Nat => (m : Int)).map V.int))) p (.lst ((longL I m T).map nV))) := (same_upd hl).trans (same_upd hpn)
    have p13 : (upd (upd H12 l (.lst ((ks.map fun m : Nat => (m : Int)).map V.int))) p (.lst ((longL I m T).map nV))) p = some (.lst ((longL I m T).map nV)) := upd_same
    generalize upd (upd H12 l (.lst ((ks.map fun m : Nat => (m : Int)).map V.int))) p (.lst ((longL I m T).map nV)) = H13 at s13 p13 ⊢
    have s10d := s12.trans s13
    have f13 := f10.same s10d
    have hlen := long_len sm m T
    refine ⟨p, rfl, ⟨_, SqL.of p13⟩, fun du hdu => ?_⟩
    refine lc_it (walk_list (xs := (longL I m T).map nV)) (fun i H' => Same H13 H' ∧ ∃ us : List Addr, H' du = some (.lst (us.map V.ref)) ∧ us.length = i ∧ ∀ (j : Nat) (u : Addr) (g : Nat), us[j]? = some u → (longL I m T)[j]? = some g → H13 u = some (.tup ((tabS I (ent (all I) g).2).map V.str)))
      ⟨same_upd hdu, [], upd_same, rfl, fun j u g h => by simp at h⟩ ?_ ?_ ?_
    · rintro i H' _ ⟨h1, _⟩
      exact SqL.of (h1 _ _ p13)
    · rintro i v H14 H14' hi ⟨s14, us, e14, ul, uv⟩ ⟨rfl, hv⟩
      obtain ⟨hi2, rfl⟩ := nv_getI hv
      generalize hg : (longL I m T).getD i 0 = g at hv ⊢
      have hget : (longL I m T)[i]? = some g := by rw [← hg, List.getD_eq_getElem?_getD, List.getElem?_eq_getElem hi2]; rfl
      have hgl := long_lt g (List.mem_of_getElem? hget)
      obtain ⟨q0, t0, hq0, h1, h2⟩ := f13.get hgl
      refine ⟨rfl, ?_⟩
      refine ⟨_, rfl, _, rfl, fa, _, _, .ref q0, rfl, rfl, SqL.of (s14 _ _ f13.fnd), atI_nat (by rw [List.getElem?_map, hq0]; rfl), q0, _, _, .ref t0, rfl, rfl, SqT.of (s14 _ _ h1), rfl, ?_⟩
      refine ⟨_, e14, by rw [List.length_map, ul]; exact small1000 (by omega), s14.put hdu, us ++ [t0], ?_, by rw [List.length_append, ul]; rfl, fun j u g' k1 k2 => ?_⟩
      · rw [upd_same, List.map_append]
        rfl
      · by_cases hj : j < us.length
        · rw [List.getElem?_append_left hj] at k1
          exact uv j u g' k1 k2
        · rw [List.getElem?_append_right (by omega)] at k1
          have hj0 : j - us.length = 0 := by
            have := (List.getElem?_eq_some_iff.mp k1).1
            simp at this
            omega
          rw [hj0] at k1
          have k1 : t0 = u := Option.some.inj k1
          subst k1
          have : j = i := by omega
          subst this
          rw [hget] at k2
          have k2 := Option.some.inj k2
          subst k2
          rw [tabS_map]
          exact h2
    rintro H14 ⟨s14, us, e14, ul, uv⟩
    refine hR _ _ (stepS [some (.ref a), some (.ref h), some (tV gl), some (tV sl), some (.ref la), some (.ref ca), some (.ref ka), some (.ref fa), some (.ref x), some (nV m), some (nV (T - m)), some (.ref sa), some (.ref t8), some (.ref ma), y14, y15, some (.ref du), none, none, none, none, none, none] rfl fun R2 hR2 => ?_)
    clear hR R
    rw [List.length_map] at ul
    have s814 := (s8t.trans s10d).trans s14
    have hh14 := hh8.same s814
    have ndu : du ≠ h := (hh8.same (s8t.trans s10d)).ne hdu |>.1
    have ls14 : LS C CC H14 h hc x c du us I m T := by
      refine ⟨kp8.same (minus_same s814), hh14, ?_, ul, fun i u g k1 k2 => ?_⟩
      · rw [minus_ne ndu]
        exact e14
      · have hu14 := s14 _ _ (uv i u g k1 k2)
        obtain ⟨ns', i', c', x', k', e1, _⟩ := hh14
        rw [minus_ne (ne_of hu14 e1 (by intro z; cases z))]
        exact hu14
    clear uv e14 s14 s13 p13 hz12 hp12 hks hL2 f13 s10d s12 pc zc sC sn10 f10 hh10 sn11
    have shd : SeqAt.shaped (Datum.toD (dueD I (longL I m T))) = true := sh_due ok _
    -- twice: longs
    refine ⟨2, rfl, by decide, by decide, ?_⟩
    refine for_it (walk_range (lo := 0) (n := 2)) (fun i σ H' => ∃ (y17 y18 : Option V), σ = [some (.ref a), some (.ref h), some (tV gl), some (tV sl), some (.ref la), some (.ref ca), some (.ref ka), some (.ref fa), some (.ref x), some (nV m), some (nV (T - m)), some (.ref sa), some (.ref t8), some (.ref ma), y14, y15, some (.ref du), y17, y18, none, none, none, none] ∧ LS C CC H' h hc x c du us I m T) ⟨none, none, rfl, ls14⟩ (fun _ _ _ _ _ => trivial) ?_ ?_
    · rintro i v σ H15 H15' hi ⟨y17, y18, rfl, ls15⟩ ⟨rfl, hv⟩
      refine step fun R hR => ?_
      refine ⟨_, rfl, x, c, I, m, T, rfl, ls15.kept.same (minus_sub h _), fun H16 lo ts s16 lo0 hlo tsl tsv => ?_⟩
      refine hR _ _ (step fun R2 hR2 => ?_)
      clear hR R
      have d16 : DueAt H16 I (longL I m T) lo ts := ⟨hlo, tsl, fun j u g k1 k2 => (tsv j u g k1 k2).2⟩
      have l16 := ls15.same s16
      have du16 := l16.due.same (minus_sub h _)
      refine ⟨_, rfl, .ref lo, .ty "list", _, _, true, rfl, .ty _, .base (.lst hlo), kit_ty (by decide +kernel), _, rfl, iteF ?_⟩
      refine ⟨_, rfl, _, rfl, Datum.toD (dueD I (longL I m T)), Datum.toD (dueD I (longL I m T)), d16.dpD, du16.dpD, shd, shd, _, rfl, ?_⟩
      rw [Datum.eqv, decide_eq_true rfl]
      refine iteF ?_
      refine hR2 _ _ (step fun R hR => ?_)
      clear hR2 R2
      refine ⟨_, rfl, .inl ⟨rfl, _, SqL.of hlo⟩, Nat.zero_le _, fun e he => ?_⟩
      have hlo2 : (upd H16 e (.tup [])) lo = some (.lst (ts.map V.ref)) := by rw [upd_ne (ne_of_none hlo he)]; exact hlo
      refine ⟨lo, _, _, rfl, rfl, hlo2, by rw [List.length_map, tsl]; exact small1000 (by omega), ?_⟩
      refine hR _ _ ?_
      clear hR R
      refine ⟨_, rfl, lo, _, _, 0, rfl, rfl, upd_same, ?_, ?_⟩
      · unfold ixN
        rw [if_pos (by decide), if_pos (by rw [List.length_append, List.length_map]; show (0 : Int) < ((_ + 1 : Nat) : Int); omega)]
        rfl
      · exact ⟨_, _, rfl, ls15.same (((s16.trans (same_upd he)).put lo0).put lo0)⟩
    rintro σ H15 ⟨y17, y18, rfl, ls15⟩
    refine hR2 _ _ (stepS [some (.ref a), some (.ref h), some (tV gl), some (tV sl), some (.ref la), some (.ref ca), some (.ref ka), some (.ref fa), some (.ref x), some (nV m), some (nV (T - m)), some (.ref sa), some (.ref t8), some (.ref ma), y14, y15, some (.ref du), y17, y18, none, none, none, none] rfl fun R hR => ?_)
    clear hR2 R2
    -- every
    refine ⟨_, rfl, x, c, I, m, T, rfl, ls15.kept.same (minus_sub h _), fun H16 lq qs2 s16 lq0 hlq ql qv => ?_⟩
    refine ⟨lq, rfl, ⟨_, SqL.of hlq⟩, fun ev hev => ?_⟩
    have hN := sm.len
    refine lc_it (walk_list (xs := qs2.map V.ref)) (fun i H' => Same H16 H' ∧ ∃ es : List Addr, H' ev = some (.lst (es.map V.ref)) ∧ es.length = i ∧ ∀ (j : Nat) (t : Addr), es[j]? = some t → H16 t = some (.tup ((tabS I (ent (all I) j).2).map V.str)))
      ⟨same_upd hev, [], upd_same, rfl, fun j t h => by simp at h⟩ ?_ ?_ ?_
    · rintro i H' _ ⟨h1, _⟩
      exact SqL.of (h1 _ _ hlq)
    · rintro i v H17 H17' hi ⟨s17, es, e17, el, evv⟩ ⟨rfl, hv⟩
      rw [List.length_map] at hi
      have hget : qs2[i]? = some qs2[i] := List.getElem?_eq_getElem hi
      rw [List.getElem?_map, hget] at hv
      have hv := Option.some.inj hv
      subst hv
      obtain ⟨t0, h1, h2⟩ := qv i _ hget
      refine ⟨_, [_, _], rfl, .inl (.inl (s17 _ _ h1)), rfl, _, [_], rfl, _, [], rfl, rfl, rfl, ?_⟩
      refine ⟨_, rfl, _, e17, by rw [List.length_map, el]; exact small1000 (by omega), s17.put hev, es ++ [t0], ?_, by rw [List.length_append, el]; rfl, fun j t k1 => ?_⟩
      · rw [upd_same, List.map_append]
        rfl
      · by_cases hj : j < es.length
        · rw [List.getElem?_append_left hj] at k1
          exact evv j t k1
        · rw [List.getElem?_append_right (by omega)] at k1
          have hj0 : j - es.length = 0 := by
            have := (List.getElem?_eq_some_iff.mp k1).1
            simp at this
            omega
          rw [hj0] at k1
          have k1 : t0 = t := Option.some.inj k1
          subst k1
          have : j = i := by omega
          subst this
          exact h2
    rintro H17 ⟨s17, es, e17, el, evv⟩
    refine hR _ _ (stepS [some (.ref a), some (.ref h), some (tV gl), some (tV sl), some (.ref la), some (.ref ca), some (.ref ka), some (.ref fa), some (.ref x), some (nV m), some (nV (T - m)), some (.ref sa), some (.ref t8), some (.ref ma), y14, y15, some (.ref du), y17, y18, none, none, some (.ref ev), none] rfl fun R2 hR2 => ?_)
    clear hR R
    rw [List.length_map, ql] at el
    have ls17 := (ls15.same s16).same s17
    have evv17 : ∀ (j : Nat) (t : Addr), es[j]? = some t → H17 t = some (.tup ((tabS I (ent (all I) j).2).map V.str)) := fun j t k => s17 _ _ (evv j t k)
    have du17 := ls17.due.same (minus_sub h _)
    -- the long ones of all
    refine ⟨_, rfl, ev, rfl, ⟨_, SqL.of e17⟩, fun D hD => ?_⟩
    refine lc_it (walk_list (xs := es.map V.ref)) (fun i H' => Same H17 H' ∧ ∃ vs : List Addr, DueAt H' I ((List.range i).filter fun z => decide (z ∈ longL I m T)) D vs) ⟨same_upd hD, [], upd_same, rfl, fun j u g h => by simp at h⟩ ?_ ?_ ?_
    · rintro i H' _ ⟨h1, _⟩
      exact SqL.of (h1 _ _ e17)
    · rintro i v H18 H18' hi ⟨s18, vs, d18⟩ ⟨rfl, hv⟩
      rw [List.length_map, el] at hi
      obtain ⟨t0, ht0⟩ : ∃ t0, es[i]? = some t0 := ⟨es[i]'(by omega), List.getElem?_eq_getElem _⟩
      rw [List.getElem?_map, ht0] at hv
      have hv := Option.some.inj hv
      subst hv
      have ht17 := s18 _ _ (evv17 i t0 ht0)
      refine ⟨rfl, ?_⟩
      refine ⟨_, rfl, _, rfl, Datum.toD (Tup.mk (tabS I (ent (all I) i).2)), (dueD I (longL I m T)).map Datum.toD, dp_tupS ht17, (du17.same s18).dp, sh_tab ok _, sh_dueL ok _, ?_⟩
      have eb := any_due ok (Ls := longL I m T) long_lt hi
      generalize (((dueD I (longL I m T)).map Datum.toD).any fun z => PyData.eqv z (Datum.toD (Tup.mk (tabS I (ent (all I) i).2)))) = bb at eb ⊢
      refine ⟨_, rfl, ?_⟩
      by_cases hin : i ∈ longL I m T
      · have eb : bb = true := eb.trans (decide_eq_true hin)
        subst eb
        have hfl := List.length_filter_le (fun z => decide (z ∈ longL I m T)) (List.range i)
        rw [List.length_range] at hfl
        refine iteT ⟨_, rfl, _, d18.due, by rw [List.length_map, d18.len]; exact small1000 (by omega), s18.put hD, vs ++ [t0], ?_⟩
        rw [range_filter_succ, if_pos (decide_eq_true hin)]
        refine ⟨by rw [upd_same, List.map_append]; rfl, by rw [List.length_append, List.length_append, d18.len]; rfl, fun j u g k1 k2 => ?_⟩
        have tk : ∀ b xs, H18' b = some (.tup xs) → (upd H18' D (.lst (vs.map V.ref ++ [.ref t0]))) b = some (.tup xs) := fun b xs e => by
          rw [upd_ne (ne_of e d18.due (by intro z; cases z))]
          exact e
        by_cases hj : j < vs.length
        · rw [List.getElem?_append_left hj] at k1
          rw [List.getElem?_append_left (by rw [← d18.len]; exact hj)] at k2
          exact tk _ _ (d18.uv j u g k1 k2)
        · rw [List.getElem?_append_right (by omega)] at k1
          rw [List.getElem?_append_right (by rw [← d18.len]; omega)] at k2
          have hj0 : j - vs.length = 0 := by
            have := (List.getElem?_eq_some_iff.mp k1).1
            simp at this
            omega
          rw [← d18.len, hj0] at k2
          rw [hj0] at k1
          have k1 : t0 = u := Option.some.inj k1
          have k2 : i = g := Option.some.inj k2
          subst k1 k2
          exact tk _ _ ht17
      · have eb : bb = false := eb.trans (decide_eq_false hin)
        subst eb
        refine iteF ⟨s18, vs, ?_⟩
        have en : ¬ (decide (i ∈ longL I m T) = true) := fun h => hin (of_decide_eq_true h)
        rw [range_filter_succ, if_neg en, List.append_nil]
        exact d18
    rintro H18 ⟨s18, vs, d18⟩
    rw [List.length_map, el, long_filter] at d18
    have ls18 := ls17.same s18
    refine ⟨_, rfl, Datum.toD (dueD I (longL I m T)), Datum.toD (dueD I (longL I m T)), d18.dpD, (du17.same s18).dpD, shd, shd, _, rfl, ?_⟩
    rw [Datum.eqv, decide_eq_true rfl]
    refine iteF ?_
    refine hR2 _ _ ?_
    clear hR2 R2
    refine ⟨fun σ' H' => ∃ (z17 z19 : Option V), σ' = [some (.ref a), some (.ref h), some (tV gl), some (tV sl), some (.ref la), some (.ref ca), some (.ref ka), some (.ref fa), some (.ref x), some (nV m), some (nV (T - m)), some (.ref sa), some (.ref t8), some (.ref ma), y14, y15, some (.ref du), z17, y18, z19, none, some (.ref ev), none] ∧ LS C CC H' h hc x c du us I m T, ?_, ?_⟩
    · refine ⟨_, rfl, _, _, rfl, rfl, _, rfl, ?_⟩
      refine ite2 (fun hlt => ?_) fun _ => ⟨_, _, rfl, ls18⟩
      have hm30 : m < 30 := by
        have := of_decide_eq_true hlt
        omega
      clear hlt
      refine ⟨4, rfl, by decide, by decide, ?_⟩
      refine for_it (walk_range (lo := 0) (n := 4)) (fun i σ H' => ∃ (z17 z19 : Option V), σ = [some (.ref a), some (.ref h), some (tV gl), some (tV sl), some (.ref la), some (.ref ca), some (.ref ka), some (.ref fa), some (.ref x), some (nV m), some (nV (T - m)), some (.ref sa), some (.ref t8), some (.ref ma), y14, y15, some (.ref du), z17, y18, z19, none, some (.ref ev), none] ∧ LS C CC H' h hc x c du us I m T) ⟨_, none, rfl, ls18⟩ (fun _ _ _ _ _ => trivial) ?_ ?_
      · rintro i v σ H19 H19' hi ⟨z17, z19, rfl, ls19⟩ ⟨rfl, hv⟩
        refine step fun R hR => ?_
        refine ⟨_, rfl, _, rfl, _, rfl, _, rfl, h, hc, 5, rfl, by omega, by omega, ls19.hand, fun H20 dd hdd b20 h20 => ?_⟩
        have ls20 := ls19.draw b20 h20
        refine ⟨_, _, rfl, rfl, h, hc, I, m + dd, by rw [egl]; rfl, ok, by omega, h20, fun H21 wd b21 h21 wl wdk => ?_⟩
        have ls21 := ls20.draw b21 h21
        refine hR _ _ ?_
        clear hR R
        have k21 := ls21.kept.same (minus_sub h _)
        refine ⟨_, rfl, _, rfl, x, I, .ref c, wd, rfl, ok, k21.wi, wdk, fun H22 t s22 _ ht => ?_⟩
        have ls22 := ls21.same s22
        obtain ⟨g, hg, hge⟩ := long_of_word sm ag wdk (show m ≤ wd.length by omega)
        rw [← hge] at ht
        refine ⟨_, rfl, Datum.toD (Tup.mk (tabS I (ent (all I) g).2)), (dueD I (longL I m T)).map Datum.toD, dp_tupS ht, (ls22.due.same (minus_sub h _)).dp, sh_tab ok _, sh_dueL ok _, ?_⟩
        have eb := any_due ok (Ls := longL I m T) long_lt (long_lt g hg)
        generalize (((dueD I (longL I m T)).map Datum.toD).any fun z => PyData.eqv z (Datum.toD (Tup.mk (tabS I (ent (all I) g).2)))) = bb at eb ⊢
        have eb : bb = true := eb.trans (decide_eq_true hg)
        subst eb
        refine ⟨_, rfl, ?_⟩
        exact iteF ⟨_, _, rfl, ls22⟩
      · rintro σ H19 ⟨z17, z19, rfl, ls19⟩
        exact ⟨_, _, rfl, ls19⟩
    rintro σ' H19 ⟨z17, z19, rfl, ls19⟩
    refine step fun R hR => ?_
    have hpos := long_some ok sm ag
    refine ⟨_, rfl, _, rfl, _, rfl, du, _, rfl, .inl (SqL.of (ls19.due.same (minus_sub h _)).due), h, hc, us.length, by rw [List.length_map]; rfl, by omega, by omega, ls19.hand, fun H20 dd hdd b20 h20 => ?_⟩
    have ls20 := ls19.draw b20 h20
    have du20 := ls20.due.same (minus_sub h _)
    obtain ⟨u, hu'⟩ : ∃ u, us[dd]? = some u := ⟨us[dd], List.getElem?_eq_getElem hdd⟩
    obtain ⟨g, hg⟩ : ∃ g, (longL I m T)[dd]? = some g := ⟨(longL I m T)[dd]'(by omega), List.getElem?_eq_getElem _⟩
    have hgm := List.mem_of_getElem? hg
    refine ⟨du, _, _, .ref u, rfl, rfl, SqL.of du20.due, atI_nat (by rw [List.getElem?_map, hu']; rfl), ?_⟩
    refine hR _ _ (stepS [some (.ref a), some (.ref h), some (tV gl), some (tV sl), some (.ref la), some (.ref ca), some (.ref ka), some (.ref fa), some (.ref x), some (nV m), some (nV (T - m)), some (.ref sa), some (.ref t8), some (.ref ma), y14, y15, some (.ref du), z17, y18, z19, some (.ref u), some (.ref ev), none] rfl fun R2 hR2 => ?_)
    clear hR R
    refine ⟨_, rfl, _, rfl, x, c, I, m, T, u, g, 40, rfl, ls20.kept.same (minus_sub h _), by omega, hgm, du20.uv dd u g hu' hg, fun H21 wd s21 hw1 hw2 hld => ?_⟩
    refine hR2 _ _ (stepS [some (.ref a), some (.ref h), some (tV gl), some (tV sl), some (.ref la), some (.ref ca), some (.ref ka), some (.ref fa), some (.ref x), some (nV m), some (nV (T - m)), some (.ref sa), some (.ref t8), some (.ref ma), y14, y15, some (.ref du), z17, y18, some (tV (wordL I wd)), some (.ref u), some (.ref ev), none] rfl fun R hR => ?_)
    clear hR2 R2
    have ls21 := ls20.same s21
    have k21 := ls21.kept.same (minus_sub h _)
    have hu21 := s21 _ _ (du20.uv dd u g hu' hg)
    have wlen : wd.length ≤ 5000 := by omega
    have lw : (tx (wordL I wd)).length ≤ sizeLine := by
      rw [tx_len, wordL_len]
      exact Nat.le_of_lt (small5000 (by omega))
    have last : ∀ H', (tRet (tOp (rI0 fun i j => .bl (decide (i < j))) (tCB (fun xs H Q => ∃ a : Str, xs = [.str a] ∧ a.length ≤ sizeLine ∧ Q (.int a.length) H) (tCons (tVar 19) tNil)) (tOp (rI0 fun i j => .int (i + j)) (tCB (fun xs H Q => ∃ i j : Int, xs = [.int i, .int j] ∧ Q (.int (if j > i then j else i)) H) (tCons (tC (.int 40)) (tCons (tVar 9) tNil))) (tVar 10)))) { nx := fun x H' => Q V.non H', rt := Q } [some (.ref a), some (.ref h), some (tV gl), some (tV sl), some (.ref la), some (.ref ca), some (.ref ka), some (.ref fa), some (.ref x), some (nV m), some (nV (T - m)), some (.ref sa), some (.ref t8), some (.ref ma), y14, y15, some (.ref du), z17, y18, some (tV (wordL I wd)), some (.ref u), some (.ref ev), none] H' := by
      intro H'
      refine ⟨_, rfl, tx (wordL I wd), rfl, lw, _, rfl, _, _, rfl, _, rfl, _, _, rfl, rfl, _, _, rfl, rfl, ?_⟩
      exact fin_true (Qb := fun b => Q (V.bl b) _) (by rw [tx_len, wordL_len]; split <;> omega) (q _)
    refine ⟨_, rfl, .str (tx (wordL I wd)), .ty "str", _, _, true, rfl, .ty _, .base (.str _), kit_ty (by decide +kernel), _, rfl, iteF ?_⟩
    refine ⟨_, rfl, tx (wordL I wd), rfl, lw, _, _, rfl, rfl, _, rfl, ?_⟩
    rw [tx_len, wordL_len, decide_eq_false (show ¬ ((wd.length : Nat) : Int) < 40 by omega)]
    refine iteF ?_
    refine ⟨_, rfl, tx (wordL I wd), rfl, lw, _, _, rfl, rfl, _, rfl, ?_⟩
    refine ite2 (fun _ => ?_) fun _ => ?_
    · refine ⟨_, rfl, _, rfl, x, I, .ref c, wd, rfl, ok, k21.wi, hld.1, fun H22 t s22 _ ht => ?_⟩
      rw [hld.2] at ht
      refine ⟨_, rfl, Datum.toD (Tup.mk (tabS I (ent (all I) g).2)), Datum.toD (Tup.mk (tabS I (ent (all I) g).2)), dp_tupS ht, dp_tupS (s22 _ _ hu21), sh_tab ok _, sh_tab ok _, _, rfl, ?_⟩
      rw [Datum.eqv, decide_eq_true rfl]
      refine iteF ?_
      exact hR _ _ (last _)
    · refine iteF ?_
      exact hR _ _ (last _)
end
end N18
end
section
set_option Elab.async false
set_option linter.all false
set_option maxRecDepth 100000
set_option maxHeartbeats 4000000
namespace N18
open PySem PySem.Spec PyProof.Rows L2 TL PySem.W
theorem all_mk {l : PySem.W.OpenLaw} {w : World} {K : PySem.W.Frag} {h : Heap} {mg : Str → Option Value} {fa C CC f1 f2 f3 f4 f5 f6 f7 f8 f9 f10 f11 f12 f13 f14 f15 f16 f17 f18 f19 f20 f21 f22 f23 f24 f25 f26 f27 f28 f29 f30 f31 f32 f33 f34 f35 f36 f37 f38 f39 f40 f41 : Addr} (X : K.In h) (G : h.Ns mainGlobals mg) (hfa : mg "law" = some (.ref fa))
    {od1 an1 od2 an2 od3 an3 od4 an4 od5 an5 od6 an6 od7 an7 od8 an8 od9 an9 od10 an10 od11 an11 od12 an12 od13 an13 od14 an14 od15 an15 od16 an16 od17 an17 od18 an18 od19 an19 od20 an20 od21 an21 od22 an22 od23 an23 od24 an24 od25 an25 od26 an26 od27 an27 od28 an28 od29 an29 od30 an30 od31 an31 od32 an32 od33 an33 od34 an34 od35 an35 od36 an36 od37 an37 od38 an38 od39 an39 od40 an40 od41 an41 : Option Addr}
    {sl1 sl2 sl3 sl4 sl5 sl6 sl7 sl8 sl9 sl10 sl11 sl12 sl13 sl14 sl15 sl16 sl17 sl18 sl19 sl20 sl21 sl22 sl23 sl24 sl25 sl26 sl27 sl28 sl29 sl30 sl31 sl32 sl33 sl34 sl35 sl36 sl37 sl38 sl39 sl40 sl41 : Array (Option Value)}
    {oc1 kV1 dc1 pm1 cd1 ct1 oc2 kV2 dc2 pm2 cd2 ct2 oc3 kV3 dc3 pm3 cd3 ct3 oc4 kV4 dc4 pm4 cd4 ct4 oc5 kV5 dc5 pm5 cd5 ct5 oc6 kV6 dc6 pm6 cd6 ct6 oc7 kV7 dc7 pm7 cd7 ct7 oc8 kV8 dc8 pm8 cd8 ct8 oc9 kV9 dc9 pm9 cd9 ct9 oc10 kV10 dc10 pm10 cd10 ct10 oc11 kV11 dc11 pm11 cd11 ct11 oc12 kV12 dc12 pm12 cd12 ct12 oc13 kV13 dc13 pm13 cd13 ct13 oc14 kV14 dc14 pm14 cd14 ct14 oc15 kV15 dc15 pm15 cd15 ct15 oc16 kV16 dc16 pm16 cd16 ct16 oc17 kV17 dc17 pm17 cd17 ct17 oc18 kV18 dc18 pm18 cd18 ct18 oc19 kV19 dc19 pm19 cd19 ct19 oc20 kV20 dc20 pm20 cd20 ct20 oc21 kV21 dc21 pm21 cd21 ct21 oc22 kV22 dc22 pm22 cd22 ct22 oc23 kV23 dc23 pm23 cd23 ct23 oc24 kV24 dc24 pm24 cd24 ct24 oc25 kV25 dc25 pm25 cd25 ct25 oc26 kV26 dc26 pm26 cd26 ct26 oc27 kV27 dc27 pm27 cd27 ct27 oc28 kV28 dc28 pm28 cd28 ct28 oc29 kV29 dc29 pm29 cd29 ct29 oc30 kV30 dc30 pm30 cd30 ct30 oc31 kV31 dc31 pm31 cd31 ct31 oc32 kV32 dc32 pm32 cd32 ct32 oc33 kV33 dc33 pm33 cd33 ct33 oc34 kV34 dc34 pm34 cd34 ct34 oc35 kV35 dc35 pm35 cd35 ct35 oc36 kV36 dc36 pm36 cd36 ct36 oc37 kV37 dc37 pm37 cd37 ct37 oc38 kV38 dc38 pm38 cd38 ct38 oc39 kV39 dc39 pm39 cd39 ct39 oc40 kV40 dc40 pm40 cd40 ct40 oc41 kV41 dc41 pm41 cd41 ct41 : Value}
    {tkM tkL tkS tkG : Tok}
    (aC : PySem.W.nsIn K mainGlobals "Wish" = some (some (.ref C)))
    (aD : PySem.W.nsIn K mainGlobals "Closure" = some (some (.ref CC)))
    (a1 : PySem.W.nsIn K mainGlobals "is_integer" = some (some (.ref f1)))
    (l1 : K.lookup f1 = some ⟨oc1, od1, .func (PySem.W.fnOf "is_integer" "is_integer" (defArgs sIsInteger) (defBody sIsInteger) (defScope sIsInteger) .none kV1 dc1 pm1 an1 cd1 ct1), sl1⟩)
    (c1 : PySem.W.codeIn K cd1 "is_integer" = true)
    (k1 : PySem.W.keepIn K (.ref f1) = true)
    (a2 : PySem.W.nsIn K mainGlobals "check_number" = some (some (.ref f2)))
    (l2 : K.lookup f2 = some ⟨oc2, od2, .func (PySem.W.fnOf "check_number" "check_number" (defArgs sCheckNumber) (defBody sCheckNumber) (defScope sCheckNumber) .none kV2 dc2 pm2 an2 cd2 ct2), sl2⟩)
    (c2 : PySem.W.codeIn K cd2 "check_number" = true)
    (k2 : PySem.W.keepIn K (.ref f2) = true)
    (a3 : PySem.W.nsIn K mainGlobals "is_string_of" = some (some (.ref f3)))
    (l3 : K.lookup f3 = some ⟨oc3, od3, .func (PySem.W.fnOf "is_string_of" "is_string_of" (defArgs sIsStringOf) (defBody sIsStringOf) (defScope sIsStringOf) .none kV3 dc3 pm3 an3 cd3 ct3), sl3⟩)
    (c3 : PySem.W.codeIn K cd3 "is_string_of" = true)
    (k3 : PySem.W.keepIn K (.ref f3) = true)
    (a4 : PySem.W.nsIn K mainGlobals "is_choice" = some (some (.ref f4)))
    (l4 : K.lookup f4 = some ⟨oc4, od4, .func (PySem.W.fnOf "is_choice" "is_choice" (defArgs sIsChoice) (defBody sIsChoice) (defScope sIsChoice) .none kV4 dc4 pm4 an4 cd4 ct4), sl4⟩)
    (c4 : PySem.W.codeIn K cd4 "is_choice" = true)
    (k4 : PySem.W.keepIn K (.ref f4) = true)
    (a5 : PySem.W.nsIn K mainGlobals "check_word" = some (some (.ref f5)))
    (l5 : K.lookup f5 = some ⟨oc5, od5, .func (PySem.W.fnOf "check_word" "check_word" (defArgs sCheckWord) (defBody sCheckWord) (defScope sCheckWord) .none kV5 dc5 pm5 an5 cd5 ct5), sl5⟩)
    (c5 : PySem.W.codeIn K cd5 "check_word" = true)
    (k5 : PySem.W.keepIn K (.ref f5) = true)
    (a6 : PySem.W.nsIn K mainGlobals "plain_rows" = some (some (.ref f6)))
    (l6 : K.lookup f6 = some ⟨oc6, od6, .func (PySem.W.fnOf "plain_rows" "plain_rows" (defArgs sPlainRows) (defBody sPlainRows) (defScope sPlainRows) .none kV6 dc6 pm6 an6 cd6 ct6), sl6⟩)
    (c6 : PySem.W.codeIn K cd6 "plain_rows" = true)
    (k6 : PySem.W.keepIn K (.ref f6) = true)
    (a7 : PySem.W.nsIn K mainGlobals "crossed" = some (some (.ref f7)))
    (l7 : K.lookup f7 = some ⟨oc7, od7, .func (PySem.W.fnOf "crossed" "crossed" (defArgs sCrossed) (defBody sCrossed) (defScope sCrossed) .none kV7 dc7 pm7 an7 cd7 ct7), sl7⟩)
    (c7 : PySem.W.codeIn K cd7 "crossed" = true)
    (k7 : PySem.W.keepIn K (.ref f7) = true)
    (a8 : PySem.W.nsIn K mainGlobals "put_behind" = some (some (.ref f8)))
    (l8 : K.lookup f8 = some ⟨oc8, od8, .func (PySem.W.fnOf "put_behind" "put_behind" (defArgs sPutBehind) (defBody sPutBehind) (defScope sPutBehind) .none kV8 dc8 pm8 an8 cd8 ct8), sl8⟩)
    (c8 : PySem.W.codeIn K cd8 "put_behind" = true)
    (k8 : PySem.W.keepIn K (.ref f8) = true)
    (a9 : PySem.W.nsIn K mainGlobals "put_ahead" = some (some (.ref f9)))
    (l9 : K.lookup f9 = some ⟨oc9, od9, .func (PySem.W.fnOf "put_ahead" "put_ahead" (defArgs sPutAhead) (defBody sPutAhead) (defScope sPutAhead) .none kV9 dc9 pm9 an9 cd9 ct9), sl9⟩)
    (c9 : PySem.W.codeIn K cd9 "put_ahead" = true)
    (k9 : PySem.W.keepIn K (.ref f9) = true)
    (a10 : PySem.W.nsIn K mainGlobals "as_table" = some (some (.ref f10)))
    (l10 : K.lookup f10 = some ⟨oc10, od10, .func (PySem.W.fnOf "as_table" "as_table" (defArgs sAsTable) (defBody sAsTable) (defScope sAsTable) .none kV10 dc10 pm10 an10 cd10 ct10), sl10⟩)
    (c10 : PySem.W.codeIn K cd10 "as_table" = true)
    (k10 : PySem.W.keepIn K (.ref f10) = true)
    (a11 : PySem.W.nsIn K mainGlobals "as_rows" = some (some (.ref f11)))
    (l11 : K.lookup f11 = some ⟨oc11, od11, .func (PySem.W.fnOf "as_rows" "as_rows" (defArgs sAsRows) (defBody sAsRows) (defScope sAsRows) .none kV11 dc11 pm11 an11 cd11 ct11), sl11⟩)
    (c11 : PySem.W.codeIn K cd11 "as_rows" = true)
    (k11 : PySem.W.keepIn K (.ref f11) = true)
    (a12 : PySem.W.nsIn K mainGlobals "closed" = some (some (.ref f12)))
    (l12 : K.lookup f12 = some ⟨oc12, od12, .func (PySem.W.fnOf "closed" "closed" (defArgs sClosed) (defBody sClosed) (defScope sClosed) .none kV12 dc12 pm12 an12 cd12 ct12), sl12⟩)
    (c12 : PySem.W.codeIn K cd12 "closed" = true)
    (k12 : PySem.W.keepIn K (.ref f12) = true)
    (a13 : PySem.W.nsIn K mainGlobals "number_of" = some (some (.ref f13)))
    (l13 : K.lookup f13 = some ⟨oc13, od13, .func (PySem.W.fnOf "number_of" "number_of" (defArgs sNumberOf) (defBody sNumberOf) (defScope sNumberOf) .none kV13 dc13 pm13 an13 cd13 ct13), sl13⟩)
    (c13 : PySem.W.codeIn K cd13 "number_of" = true)
    (k13 : PySem.W.keepIn K (.ref f13) = true)
    (a14 : PySem.W.nsIn K mainGlobals "table" = some (some (.ref f14)))
    (l14 : K.lookup f14 = some ⟨oc14, od14, .func (PySem.W.fnOf "table" "table" (defArgs sTable) (defBody sTable) (defScope sTable) .none kV14 dc14 pm14 an14 cd14 ct14), sl14⟩)
    (c14 : PySem.W.codeIn K cd14 "table" = true)
    (k14 : PySem.W.keepIn K (.ref f14) = true)
    (a15 : PySem.W.nsIn K mainGlobals "tables" = some (some (.ref f15)))
    (l15 : K.lookup f15 = some ⟨oc15, od15, .func (PySem.W.fnOf "tables" "tables" (defArgs sTables) (defBody sTables) (defScope sTables) .none kV15 dc15 pm15 an15 cd15 ct15), sl15⟩)
    (c15 : PySem.W.codeIn K cd15 "tables" = true)
    (k15 : PySem.W.keepIn K (.ref f15) = true)
    (a16 : PySem.W.nsIn K mainGlobals "start" = some (some (.ref f16)))
    (l16 : K.lookup f16 = some ⟨oc16, od16, .func (PySem.W.fnOf "start" "start" (defArgs sStart) (defBody sStart) (defScope sStart) .none kV16 dc16 pm16 an16 cd16 ct16), sl16⟩)
    (c16 : PySem.W.codeIn K cd16 "start" = true)
    (k16 : PySem.W.keepIn K (.ref f16) = true)
    (a17 : PySem.W.nsIn K mainGlobals "longs" = some (some (.ref f17)))
    (l17 : K.lookup f17 = some ⟨oc17, od17, .func (PySem.W.fnOf "longs" "longs" (defArgs sLongs) (defBody sLongs) (defScope sLongs) .none kV17 dc17 pm17 an17 cd17 ct17), sl17⟩)
    (c17 : PySem.W.codeIn K cd17 "longs" = true)
    (k17 : PySem.W.keepIn K (.ref f17) = true)
    (a18 : PySem.W.nsIn K mainGlobals "word_with" = some (some (.ref f18)))
    (l18 : K.lookup f18 = some ⟨oc18, od18, .func (PySem.W.fnOf "word_with" "word_with" (defArgs sWordWith) (defBody sWordWith) (defScope sWordWith) .none kV18 dc18 pm18 an18 cd18 ct18), sl18⟩)
    (c18 : PySem.W.codeIn K cd18 "word_with" = true)
    (k18 : PySem.W.keepIn K (.ref f18) = true)
    (a19 : PySem.W.nsIn K mainGlobals "is_pair" = some (some (.ref f19)))
    (l19 : K.lookup f19 = some ⟨oc19, od19, .func (PySem.W.fnOf "is_pair" "is_pair" (defArgs sIsPair) (defBody sIsPair) (defScope sIsPair) .none kV19 dc19 pm19 an19 cd19 ct19), sl19⟩)
    (c19 : PySem.W.codeIn K cd19 "is_pair" = true)
    (k19 : PySem.W.keepIn K (.ref f19) = true)
    (a20 : PySem.W.nsIn K mainGlobals "are_pairs" = some (some (.ref f20)))
    (l20 : K.lookup f20 = some ⟨oc20, od20, .func (PySem.W.fnOf "are_pairs" "are_pairs" (defArgs sArePairs) (defBody sArePairs) (defScope sArePairs) .none kV20 dc20 pm20 an20 cd20 ct20), sl20⟩)
    (c20 : PySem.W.codeIn K cd20 "are_pairs" = true)
    (k20 : PySem.W.keepIn K (.ref f20) = true)
    (a21 : PySem.W.nsIn K mainGlobals "_law_hand" = some (some (.ref f21)))
    (l21 : K.lookup f21 = some ⟨oc21, od21, .func (PySem.W.fnOf "_law_hand" "_law_hand" (defArgs sHand) (defBody sHand) (defScope sHand) .none kV21 dc21 pm21 an21 cd21 ct21), sl21⟩)
    (c21 : PySem.W.codeIn K cd21 "_law_hand" = true)
    (k21 : PySem.W.keepIn K (.ref f21) = true)
    (a22 : PySem.W.nsIn K mainGlobals "_law_draw" = some (some (.ref f22)))
    (l22 : K.lookup f22 = some ⟨oc22, od22, .func (PySem.W.fnOf "_law_draw" "_law_draw" (defArgs sDraw) (defBody sDraw) (defScope sDraw) .none kV22 dc22 pm22 an22 cd22 ct22), sl22⟩)
    (c22 : PySem.W.codeIn K cd22 "_law_draw" = true)
    (k22 : PySem.W.keepIn K (.ref f22) = true)
    (a23 : PySem.W.nsIn K mainGlobals "_law_letters" = some (some (.ref f23)))
    (l23 : K.lookup f23 = some ⟨oc23, od23, .func (PySem.W.fnOf "_law_letters" "_law_letters" (defArgs sLetters) (defBody sLetters) (defScope sLetters) .none kV23 dc23 pm23 an23 cd23 ct23), sl23⟩)
    (c23 : PySem.W.codeIn K cd23 "_law_letters" = true)
    (k23 : PySem.W.keepIn K (.ref f23) = true)
    (a24 : PySem.W.nsIn K mainGlobals "_law_cells" = some (some (.ref f24)))
    (l24 : K.lookup f24 = some ⟨oc24, od24, .func (PySem.W.fnOf "_law_cells" "_law_cells" (defArgs sCells) (defBody sCells) (defScope sCells) .none kV24 dc24 pm24 an24 cd24 ct24), sl24⟩)
    (c24 : PySem.W.codeIn K cd24 "_law_cells" = true)
    (k24 : PySem.W.keepIn K (.ref f24) = true)
    (a25 : PySem.W.nsIn K mainGlobals "_law_known" = some (some (.ref f25)))
    (l25 : K.lookup f25 = some ⟨oc25, od25, .func (PySem.W.fnOf "_law_known" "_law_known" (defArgs sKnown) (defBody sKnown) (defScope sKnown) .none kV25 dc25 pm25 an25 cd25 ct25), sl25⟩)
    (c25 : PySem.W.codeIn K cd25 "_law_known" = true)
    (k25 : PySem.W.keepIn K (.ref f25) = true)
    (a26 : PySem.W.nsIn K mainGlobals "_law_fits" = some (some (.ref f26)))
    (l26 : K.lookup f26 = some ⟨oc26, od26, .func (PySem.W.fnOf "_law_fits" "_law_fits" (defArgs sFits) (defBody sFits) (defScope sFits) .none kV26 dc26 pm26 an26 cd26 ct26), sl26⟩)
    (c26 : PySem.W.codeIn K cd26 "_law_fits" = true)
    (k26 : PySem.W.keepIn K (.ref f26) = true)
    (a27 : PySem.W.nsIn K mainGlobals "_law_pairs" = some (some (.ref f27)))
    (l27 : K.lookup f27 = some ⟨oc27, od27, .func (PySem.W.fnOf "_law_pairs" "_law_pairs" (defArgs sPairs) (defBody sPairs) (defScope sPairs) .none kV27 dc27 pm27 an27 cd27 ct27), sl27⟩)
    (c27 : PySem.W.codeIn K cd27 "_law_pairs" = true)
    (k27 : PySem.W.keepIn K (.ref f27) = true)
    (a28 : PySem.W.nsIn K mainGlobals "_law_small" = some (some (.ref f28)))
    (l28 : K.lookup f28 = some ⟨oc28, od28, .func (PySem.W.fnOf "_law_small" "_law_small" (defArgs sSmall) (defBody sSmall) (defScope sSmall) .none kV28 dc28 pm28 an28 cd28 ct28), sl28⟩)
    (c28 : PySem.W.codeIn K cd28 "_law_small" = true)
    (k28 : PySem.W.keepIn K (.ref f28) = true)
    (a29 : PySem.W.nsIn K mainGlobals "_law_word" = some (some (.ref f29)))
    (l29 : K.lookup f29 = some ⟨oc29, od29, .func (PySem.W.fnOf "_law_word" "_law_word" (defArgs sWord) (defBody sWord) (defScope sWord) .none kV29 dc29 pm29 an29 cd29 ct29), sl29⟩)
    (c29 : PySem.W.codeIn K cd29 "_law_word" = true)
    (k29 : PySem.W.keepIn K (.ref f29) = true)
    (a30 : PySem.W.nsIn K mainGlobals "_law_plain" = some (some (.ref f30)))
    (l30 : K.lookup f30 = some ⟨oc30, od30, .func (PySem.W.fnOf "_law_plain" "_law_plain" (defArgs sPlain) (defBody sPlain) (defScope sPlain) .none kV30 dc30 pm30 an30 cd30 ct30), sl30⟩)
    (c30 : PySem.W.codeIn K cd30 "_law_plain" = true)
    (k30 : PySem.W.keepIn K (.ref f30) = true)
    (a31 : PySem.W.nsIn K mainGlobals "_law_behind" = some (some (.ref f31)))
    (l31 : K.lookup f31 = some ⟨oc31, od31, .func (PySem.W.fnOf "_law_behind" "_law_behind" (defArgs sBehind) (defBody sBehind) (defScope sBehind) .none kV31 dc31 pm31 an31 cd31 ct31), sl31⟩)
    (c31 : PySem.W.codeIn K cd31 "_law_behind" = true)
    (k31 : PySem.W.keepIn K (.ref f31) = true)
    (a32 : PySem.W.nsIn K mainGlobals "_law_closure" = some (some (.ref f32)))
    (l32 : K.lookup f32 = some ⟨oc32, od32, .func (PySem.W.fnOf "_law_closure" "_law_closure" (defArgs sClosure) (defBody sClosure) (defScope sClosure) .none kV32 dc32 pm32 an32 cd32 ct32), sl32⟩)
    (c32 : PySem.W.codeIn K cd32 "_law_closure" = true)
    (k32 : PySem.W.keepIn K (.ref f32) = true)
    (a33 : PySem.W.nsIn K mainGlobals "_law_levels" = some (some (.ref f33)))
    (l33 : K.lookup f33 = some ⟨oc33, od33, .func (PySem.W.fnOf "_law_levels" "_law_levels" (defArgs sLawLevels) (defBody sLawLevels) (defScope sLawLevels) .none kV33 dc33 pm33 an33 cd33 ct33), sl33⟩)
    (c33 : PySem.W.codeIn K cd33 "_law_levels" = true)
    (k33 : PySem.W.keepIn K (.ref f33) = true)
    (a34 : PySem.W.nsIn K mainGlobals "law" = some (some (.ref f34)))
    (l34 : K.lookup f34 = some ⟨oc34, od34, .func (PySem.W.fnOf "law" "law" (defArgs sLaw) (defBody sLaw) (defScope sLaw) .none kV34 dc34 pm34 an34 cd34 ct34), sl34⟩)
    (c34 : PySem.W.codeIn K cd34 "law" = true)
    (k34 : PySem.W.keepIn K (.ref f34) = true)
    (a35 : PySem.W.findIn K (.ref C) "__init__" = some (some (.ref f35)))
    (i35 : PySem.W.isFn K (.ref f35) = true)
    (l35 : K.lookup f35 = some ⟨oc35, od35, .func (PySem.W.fnOf "__init__" "Wish.__init__" (defArgs sWInit) (defBody sWInit) (defScope sWInit) .none kV35 dc35 pm35 an35 cd35 ct35), sl35⟩)
    (c35 : PySem.W.codeIn K cd35 "Wish.__init__" = true)
    (k35 : PySem.W.keepIn K (.ref f35) = true)
    (a36 : PySem.W.findIn K (.ref C) "keep" = some (some (.ref f36)))
    (i36 : PySem.W.isFn K (.ref f36) = true)
    (l36 : K.lookup f36 = some ⟨oc36, od36, .func (PySem.W.fnOf "keep" "Wish.keep" (defArgs sKeep) (defBody sKeep) (defScope sKeep) .none kV36 dc36 pm36 an36 cd36 ct36), sl36⟩)
    (c36 : PySem.W.codeIn K cd36 "Wish.keep" = true)
    (k36 : PySem.W.keepIn K (.ref f36) = true)
    (a37 : PySem.W.findIn K (.ref CC) "__init__" = some (some (.ref f37)))
    (i37 : PySem.W.isFn K (.ref f37) = true)
    (l37 : K.lookup f37 = some ⟨oc37, od37, .func (PySem.W.fnOf "__init__" "Closure.__init__" (defArgs sCInit) (defBody sCInit) (defScope sCInit) .none kV37 dc37 pm37 an37 cd37 ct37), sl37⟩)
    (c37 : PySem.W.codeIn K cd37 "Closure.__init__" = true)
    (k37 : PySem.W.keepIn K (.ref f37) = true)
    (a38 : PySem.W.findIn K (.ref CC) "go_on" = some (some (.ref f38)))
    (i38 : PySem.W.isFn K (.ref f38) = true)
    (l38 : K.lookup f38 = some ⟨oc38, od38, .func (PySem.W.fnOf "go_on" "Closure.go_on" (defArgs sGoOn) (defBody sGoOn) (defScope sGoOn) .none kV38 dc38 pm38 an38 cd38 ct38), sl38⟩)
    (c38 : PySem.W.codeIn K cd38 "Closure.go_on" = true)
    (k38 : PySem.W.keepIn K (.ref f38) = true)
    (a39 : PySem.W.findIn K (.ref CC) "next_level" = some (some (.ref f39)))
    (i39 : PySem.W.isFn K (.ref f39) = true)
    (l39 : K.lookup f39 = some ⟨oc39, od39, .func (PySem.W.fnOf "next_level" "Closure.next_level" (defArgs sNextLevel) (defBody sNextLevel) (defScope sNextLevel) .none kV39 dc39 pm39 an39 cd39 ct39), sl39⟩)
    (c39 : PySem.W.codeIn K cd39 "Closure.next_level" = true)
    (k39 : PySem.W.keepIn K (.ref f39) = true)
    (a40 : PySem.W.findIn K (.ref CC) "levels" = some (some (.ref f40)))
    (i40 : PySem.W.isFn K (.ref f40) = true)
    (l40 : K.lookup f40 = some ⟨oc40, od40, .func (PySem.W.fnOf "levels" "Closure.levels" (defArgs sLevels) (defBody sLevels) (defScope sLevels) .none kV40 dc40 pm40 an40 cd40 ct40), sl40⟩)
    (c40 : PySem.W.codeIn K cd40 "Closure.levels" = true)
    (k40 : PySem.W.keepIn K (.ref f40) = true)
    (a41 : PySem.W.findIn K (.ref CC) "first_word" = some (some (.ref f41)))
    (i41 : PySem.W.isFn K (.ref f41) = true)
    (l41 : K.lookup f41 = some ⟨oc41, od41, .func (PySem.W.fnOf "first_word" "Closure.first_word" (defArgs sFirstWord) (defBody sFirstWord) (defScope sFirstWord) .none kV41 dc41 pm41 an41 cd41 ct41), sl41⟩)
    (c41 : PySem.W.codeIn K cd41 "Closure.first_word" = true)
    (k41 : PySem.W.keepIn K (.ref f41) = true)
    (wpg : PySem.W.plainGet K C Str.empty = true)
    (whd : PySem.W.hasDictIn K C = true)
    (wpo : PySem.W.plainOver K C = true)
    (wsa : PySem.W.findIn K (.ref C) "__setattr__" = some (some (.builtin "object.__setattr__")))
    (wmk : PySem.W.makesIn K C = true)
    (wkc : PySem.W.keepIn K (.ref C) = true)
    (dpg : PySem.W.plainGet K CC Str.empty = true)
    (dhd : PySem.W.hasDictIn K CC = true)
    (dpo : PySem.W.plainOver K CC = true)
    (dsa : PySem.W.findIn K (.ref CC) "__setattr__" = some (some (.builtin "object.__setattr__")))
    (dmk : PySem.W.makesIn K CC = true)
    (dkc : PySem.W.keepIn K (.ref CC) = true)
    (nw_kept_given : PySem.W.findIn K (.ref C) "kept_given" = some none)
    (nw_kept_said : PySem.W.findIn K (.ref C) "kept_said" = some none)
    (nw_kept_cells : PySem.W.findIn K (.ref C) "kept_cells" = some none)
    (nw_kept_index : PySem.W.findIn K (.ref C) "kept_index" = some none)
    (nw_kept_places : PySem.W.findIn K (.ref C) "kept_places" = some none)
    (nw_kept_bits : PySem.W.findIn K (.ref C) "kept_bits" = some none)
    (nw_kept_known : PySem.W.findIn K (.ref C) "kept_known" = some none)
    (nw_kept_pairs : PySem.W.findIn K (.ref C) "kept_pairs" = some none)
    (nw_kept_rows : PySem.W.findIn K (.ref C) "kept_rows" = some none)
    (nw_kept_closure : PySem.W.findIn K (.ref C) "kept_closure" = some none)
    (nd_rows : PySem.W.findIn K (.ref CC) "rows" = some none)
    (nd_words : PySem.W.findIn K (.ref CC) "words" = some none)
    (nd_number : PySem.W.findIn K (.ref CC) "number" = some none)
    (nd_behind : PySem.W.findIn K (.ref CC) "behind" = some none)
    (nd_ahead : PySem.W.findIn K (.ref CC) "ahead" = some none)
    (nd_start : PySem.W.findIn K (.ref CC) "start" = some none)
    (nd_period : PySem.W.findIn K (.ref CC) "period" = some none)
    (nd_longs : PySem.W.findIn K (.ref CC) "longs" = some none)
    (gM : PySem.W.nsIn K mainGlobals "MOST_TABLES" = some (some (.int 200 tkM)))
    (gL : PySem.W.nsIn K mainGlobals "MOST_LEAST" = some (some (.int 60 tkL)))
    (gS : PySem.W.nsIn K mainGlobals "SMALL" = some (some (.str ("abcdefghijklmnopqrstuvwxyz" : Str) tkS)))
    (gG : PySem.W.nsIn K mainGlobals "GREAT" = some (some (.str ("ABCDEFGHIJKLMNOPQRSTUVWXYZ" : Str) tkG)))
    (z_isinstance : PySem.W.nsIn K mainGlobals "isinstance" = some none)
    (z_int : PySem.W.nsIn K mainGlobals "int" = some none)
    (z_bool : PySem.W.nsIn K mainGlobals "bool" = some none)
    (z_str : PySem.W.nsIn K mainGlobals "str" = some none)
    (z_len : PySem.W.nsIn K mainGlobals "len" = some none)
    (z_set : PySem.W.nsIn K mainGlobals "set" = some none)
    (z_tuple : PySem.W.nsIn K mainGlobals "tuple" = some none)
    (z_zip : PySem.W.nsIn K mainGlobals "zip" = some none)
    (z_list : PySem.W.nsIn K mainGlobals "list" = some none)
    (z_range : PySem.W.nsIn K mainGlobals "range" = some none)
    (z_enumerate : PySem.W.nsIn K mainGlobals "enumerate" = some none)
    (z_any : PySem.W.nsIn K mainGlobals "any" = some none)
    (z_sorted : PySem.W.nsIn K mainGlobals "sorted" = some none)
    (z_sum : PySem.W.nsIn K mainGlobals "sum" = some none)
    (z_max : PySem.W.nsIn K mainGlobals "max" = some none)
    (z_abs : PySem.W.nsIn K mainGlobals "abs" = some none)
    : ∃ fd : FuncData, (∀ (s : Shared) (v : Value), BindsTo s fd ⟨[v], []⟩ [("_law_script", v)]) ∧ ∀ base : Heap, K.In base → base.Ns mainGlobals mg → FnOk l.prog w K mg base CX0 9 fa fd ["_law_script"] (spLaw K) := by
  have e := hfa.symm.trans (PySem.W.mg_of X G a34)
  cases e
  have B : Bt mg := ⟨PySem.W.mg_none_of X G z_isinstance, PySem.W.mg_none_of X G z_int, PySem.W.mg_none_of X G z_bool, PySem.W.mg_none_of X G z_str, PySem.W.mg_none_of X G z_len, PySem.W.mg_none_of X G z_set, PySem.W.mg_none_of X G z_tuple, PySem.W.mg_none_of X G z_zip, PySem.W.mg_none_of X G z_list, PySem.W.mg_none_of X G z_range, PySem.W.mg_none_of X G z_enumerate, PySem.W.mg_none_of X G z_any, PySem.W.mg_none_of X G z_sorted, PySem.W.mg_none_of X G z_sum, PySem.W.mg_none_of X G z_max, PySem.W.mg_none_of X G z_abs⟩
  have T : WTxt K C := ⟨⟨wpg, whd, wpo, wsa⟩, nw_kept_given, nw_kept_cells, nw_kept_index, nw_kept_places, nw_kept_bits, nw_kept_rows, nw_kept_closure⟩
  have T2 : WTxt2 K C := ⟨nw_kept_said, nw_kept_known, nw_kept_pairs⟩
  have TC : CTxt K CC := ⟨⟨dpg, dhd, dpo, dsa⟩, nd_rows, nd_words, nd_number, nd_behind, nd_ahead, nd_start, nd_period, nd_longs⟩
  have F1 := fun_mk (st := sIsInteger) l1 c1 k1
  have b1 := F1.binds (ps := ["thing"]) fun _ _ _ _ _ _ us hl => match us, hl with | [_], _ => rfl
  have F2 := fun_mk (st := sCheckNumber) l2 c2 k2
  have b2 := F2.binds (ps := ["thing", "least", "most"]) fun _ _ _ _ _ _ us hl => match us, hl with | [_, _, _], _ => rfl
  have F3 := fun_mk (st := sIsStringOf) l3 c3 k3
  have b3 := F3.binds (ps := ["thing", "signs"]) fun _ _ _ _ _ _ us hl => match us, hl with | [_, _], _ => rfl
  have F4 := fun_mk (st := sIsChoice) l4 c4 k4
  have b4 := F4.binds (ps := ["thing", "signs"]) fun _ _ _ _ _ _ us hl => match us, hl with | [_, _], _ => rfl
  have F5 := fun_mk (st := sCheckWord) l5 c5 k5
  have b5 := F5.binds (ps := ["wish", "thing"]) fun _ _ _ _ _ _ us hl => match us, hl with | [_, _], _ => rfl
  have F6 := fun_mk (st := sPlainRows) l6 c6 k6
  have b6 := F6.binds (ps := ["wish"]) fun _ _ _ _ _ _ us hl => match us, hl with | [_], _ => rfl
  have F7 := fun_mk (st := sCrossed) l7 c7 k7
  have b7 := F7.binds (ps := ["wish", "rows", "letter", "more"]) fun _ _ _ _ _ _ us hl => match us, hl with | [_, _, _, _], _ => rfl
  have F8 := fun_mk (st := sPutBehind) l8 c8 k8
  have b8 := F8.binds (ps := ["wish", "rows", "letter"]) fun _ _ _ _ _ _ us hl => match us, hl with | [_, _, _], _ => rfl
  have F9 := fun_mk (st := sPutAhead) l9 c9 k9
  have b9 := F9.binds (ps := ["wish", "letter", "rows"]) fun _ _ _ _ _ _ us hl => match us, hl with | [_, _, _], _ => rfl
  have F10 := fun_mk (st := sAsTable) l10 c10 k10
  have b10 := F10.binds (ps := ["wish", "rows"]) fun _ _ _ _ _ _ us hl => match us, hl with | [_, _], _ => rfl
  have F11 := fun_mk (st := sAsRows) l11 c11 k11
  have b11 := F11.binds (ps := ["wish", "thing"]) fun _ _ _ _ _ _ us hl => match us, hl with | [_, _], _ => rfl
  have F12 := fun_mk (st := sClosed) l12 c12 k12
  have b12 := F12.binds (ps := ["wish"]) fun _ _ _ _ _ _ us hl => match us, hl with | [_], _ => rfl
  have F13 := fun_mk (st := sNumberOf) l13 c13 k13
  have b13 := F13.binds (ps := ["wish", "thing"]) fun _ _ _ _ _ _ us hl => match us, hl with | [_, _], _ => rfl
  have F14 := fun_mk (st := sTable) l14 c14 k14
  have b14 := F14.binds (ps := ["wish", "word"]) fun _ _ _ _ _ _ us hl => match us, hl with | [_, _], _ => rfl
  have F15 := fun_mk (st := sTables) l15 c15 k15
  have b15 := F15.binds (ps := ["wish"]) fun _ _ _ _ _ _ us hl => match us, hl with | [_], _ => rfl
  have F16 := fun_mk (st := sStart) l16 c16 k16
  have b16 := F16.binds (ps := ["wish"]) fun _ _ _ _ _ _ us hl => match us, hl with | [_], _ => rfl
  have F17 := fun_mk (st := sLongs) l17 c17 k17
  have b17 := F17.binds (ps := ["wish"]) fun _ _ _ _ _ _ us hl => match us, hl with | [_], _ => rfl
  have F18 := fun_mk (st := sWordWith) l18 c18 k18
  have b18 := F18.binds (ps := ["wish", "table", "least"]) fun _ _ _ _ _ _ us hl => match us, hl with | [_, _, _], _ => rfl
  have F19 := fun_mk (st := sIsPair) l19 c19 k19
  have b19 := F19.binds (ps := ["thing", "given", "said"]) fun _ _ _ _ _ _ us hl => match us, hl with | [_, _, _], _ => rfl
  have F20 := fun_mk (st := sArePairs) l20 c20 k20
  have b20 := F20.binds (ps := ["thing", "given", "said"]) fun _ _ _ _ _ _ us hl => match us, hl with | [_, _, _], _ => rfl
  have F21 := fun_mk (st := sHand) l21 c21 k21
  have b21 := F21.binds (ps := ["_law_script"]) fun _ _ _ _ _ _ us hl => match us, hl with | [_], _ => rfl
  have F22 := fun_mk (st := sDraw) l22 c22 k22
  have b22 := F22.binds (ps := ["_law_hand_here", "_law_many"]) fun _ _ _ _ _ _ us hl => match us, hl with | [_, _], _ => rfl
  have F23 := fun_mk (st := sLetters) l23 c23 k23
  have b23 := F23.binds (ps := ["_law_hand_here", "_law_signs", "_law_many"]) fun _ _ _ _ _ _ us hl => match us, hl with | [_, _, _], _ => rfl
  have F24 := fun_mk (st := sCells) l24 c24 k24
  have b24 := F24.binds (ps := ["_law_given", "_law_said"]) fun _ _ _ _ _ _ us hl => match us, hl with | [_, _], _ => rfl
  have F25 := fun_mk (st := sKnown) l25 c25 k25
  have b25 := F25.binds (ps := ["_law_pairs_here"]) fun _ _ _ _ _ _ us hl => match us, hl with | [_], _ => rfl
  have F26 := fun_mk (st := sFits) l26 c26 k26
  have b26 := F26.binds (ps := ["_law_kind", "_law_given", "_law_said", "_law_one", "_law_other"]) fun _ _ _ _ _ _ us hl => match us, hl with | [_, _, _, _, _], _ => rfl
  have F27 := fun_mk (st := sPairs) l27 c27 k27
  have b27 := F27.binds (ps := ["_law_hand_here", "_law_given", "_law_said"]) fun _ _ _ _ _ _ us hl => match us, hl with | [_, _, _], _ => rfl
  have F28 := fun_mk (st := sSmall) l28 c28 k28
  have b28 := F28.binds (ps := ["_law_hand_here"]) fun _ _ _ _ _ _ us hl => match us, hl with | [_], _ => rfl
  have F29 := fun_mk (st := sWord) l29 c29 k29
  have b29 := F29.binds (ps := ["_law_hand_here", "_law_given", "_law_many"]) fun _ _ _ _ _ _ us hl => match us, hl with | [_, _, _], _ => rfl
  have F30 := fun_mk (st := sPlain) l30 c30 k30
  have b30 := F30.binds (ps := ["_law_cells_here", "_law_known_here"]) fun _ _ _ _ _ _ us hl => match us, hl with | [_, _], _ => rfl
  have F31 := fun_mk (st := sBehind) l31 c31 k31
  have b31 := F31.binds (ps := ["_law_cells_here", "_law_known_here", "_law_rows", "_law_letter"]) fun _ _ _ _ _ _ us hl => match us, hl with | [_, _, _, _], _ => rfl
  have F32 := fun_mk (st := sClosure) l32 c32 k32
  have b32 := F32.binds (ps := ["_law_given", "_law_cells_here", "_law_known_here"]) fun _ _ _ _ _ _ us hl => match us, hl with | [_, _, _], _ => rfl
  have F33 := fun_mk (st := sLawLevels) l33 c33 k33
  have b33 := F33.binds (ps := ["_law_given", "_law_cells_here", "_law_known_here", "_law_found"]) fun _ _ _ _ _ _ us hl => match us, hl with | [_, _, _, _], _ => rfl
  have F34 := fun_mk (st := sLaw) l34 c34 k34
  have b34 := F34.binds (ps := ["_law_script"]) fun _ _ _ _ _ _ us hl => match us, hl with | [_], _ => rfl
  have F35 := fun_mk (st := sWInit) l35 c35 k35
  have b35 := F35.binds (ps := ["self", "given", "said", "pairs"]) fun _ _ _ _ _ _ us hl => match us, hl with | [_, _, _, _], _ => rfl
  have F36 := fun_mk (st := sKeep) l36 c36 k36
  have b36 := F36.binds (ps := ["self", "given", "said", "pairs"]) fun _ _ _ _ _ _ us hl => match us, hl with | [_, _, _, _], _ => rfl
  have F37 := fun_mk (st := sCInit) l37 c37 k37
  have b37 := F37.binds (ps := ["self", "wish"]) fun _ _ _ _ _ _ us hl => match us, hl with | [_, _], _ => rfl
  have F38 := fun_mk (st := sGoOn) l38 c38 k38
  have b38 := F38.binds (ps := ["self", "wish", "at"]) fun _ _ _ _ _ _ us hl => match us, hl with | [_, _, _], _ => rfl
  have F39 := fun_mk (st := sNextLevel) l39 c39 k39
  have b39 := F39.binds (ps := ["self", "level"]) fun _ _ _ _ _ _ us hl => match us, hl with | [_, _], _ => rfl
  have F40 := fun_mk (st := sLevels) l40 c40 k40
  have b40 := F40.binds (ps := ["self"]) fun _ _ _ _ _ _ us hl => match us, hl with | [_], _ => rfl
  have F41 := fun_mk (st := sFirstWord) l41 c41 k41
  have b41 := F41.binds (ps := ["self", "length", "goals"]) fun _ _ _ _ _ _ us hl => match us, hl with | [_, _, _], _ => rfl
  refine ⟨PySem.W.fnOf "law" "law" (defArgs sLaw) (defBody sLaw) (defScope sLaw) .none kV34 dc34 pm34 an34 cd34 ct34, fun s v => .of_eq rfl, fun base hb1 hb2 => ?_⟩
  have q3 : FnOk l.prog w K mg base CX0 1 f3 _ ["thing", "signs"] spIsStringOf := ok_isStringOf F3 B
  have C3 : Cal l.prog w K mg base "is_string_of" 1 ["thing", "signs"] spIsStringOf := ⟨_, _, q3, PySem.W.mg_of X G a3, k3, b3⟩
  have q1 : FnOk l.prog w K mg base CX0 1 f1 _ ["thing"] spIsInteger := ok_isInteger F1 B
  have C1 : Cal l.prog w K mg base "is_integer" 1 ["thing"] spIsInteger := ⟨_, _, q1, PySem.W.mg_of X G a1, k1, b1⟩
  have q2 : FnOk l.prog w K mg base CX0 2 f2 _ ["thing", "least", "most"] spCheckNumber := ok_checkNumber F2 C1
  have C2 : Cal l.prog w K mg base "check_number" 2 ["thing", "least", "most"] spCheckNumber := ⟨_, _, q2, PySem.W.mg_of X G a2, k2, b2⟩
  have q5 : FnOk l.prog w K mg base CX0 2 f5 _ ["wish", "thing"] (spCheckWord C) := ok_checkWord F5 T C3
  have C5 : Cal l.prog w K mg base "check_word" 2 ["wish", "thing"] (spCheckWord C) := ⟨_, _, q5, PySem.W.mg_of X G a5, k5, b5⟩
  have q6 : FnOk l.prog w K mg base CX0 1 f6 _ ["wish"] (spPlainRows C) := ok_plainRows F6 T B
  have C6 : Cal l.prog w K mg base "plain_rows" 1 ["wish"] (spPlainRows C) := ⟨_, _, q6, PySem.W.mg_of X G a6, k6, b6⟩
  have q7 : FnOk l.prog w K mg base CX0 1 f7 _ ["wish", "rows", "letter", "more"] (spCrossed K C) := ok_crossed F7 T B
  have C7 : Cal l.prog w K mg base "crossed" 1 ["wish", "rows", "letter", "more"] (spCrossed K C) := ⟨_, _, q7, PySem.W.mg_of X G a7, k7, b7⟩
  have q8 : FnOk l.prog w K mg base CX0 2 f8 _ ["wish", "rows", "letter"] (spPutBehind K C) := ok_putBehind F8 T C7
  have C8 : Cal l.prog w K mg base "put_behind" 2 ["wish", "rows", "letter"] (spPutBehind K C) := ⟨_, _, q8, PySem.W.mg_of X G a8, k8, b8⟩
  have q9 : FnOk l.prog w K mg base CX0 2 f9 _ ["wish", "letter", "rows"] (spPutAhead K C) := ok_putAhead F9 T C7
  have C9 : Cal l.prog w K mg base "put_ahead" 2 ["wish", "letter", "rows"] (spPutAhead K C) := ⟨_, _, q9, PySem.W.mg_of X G a9, k9, b9⟩
  have q10 : FnOk l.prog w K mg base CX0 1 f10 _ ["wish", "rows"] (spAsTable K C) := ok_asTable F10 T B
  have C10 : Cal l.prog w K mg base "as_table" 1 ["wish", "rows"] (spAsTable K C) := ⟨_, _, q10, PySem.W.mg_of X G a10, k10, b10⟩
  have q11 : FnOk l.prog w K mg base CX0 2 f11 _ ["wish", "thing"] (spAsRows K C) := ok_asRows F11 T B C10
  have C11 : Cal l.prog w K mg base "as_rows" 2 ["wish", "thing"] (spAsRows K C) := ⟨_, _, q11, PySem.W.mg_of X G a11, k11, b11⟩
  have q38 : FnOk l.prog w K mg base CX0 3 f38 _ ["self", "wish", "at"] (spGoOn C CC) := ok_goOn F38 T TC B (PySem.W.mg_of X G gM) C8
  have q39 : FnOk l.prog w K mg base CX0 1 f39 _ ["self", "level"] (spNextLevel CC) := ok_nextLevel F39 TC B
  have q40 : FnOk l.prog w K mg base CX0 2 f40 _ ["self"] (spLevels CC) := ok_levels F40 TC B q39 ⟨a39, i39, k39⟩ b39
  have q41 : FnOk l.prog w K mg base CX0 1 f41 _ ["self", "length", "goals"] (spFirstWord CC) := ok_firstWord F41 TC B
  have q37 : FnOk l.prog w K mg base CX0 4 f37 _ ["self", "wish"] (spCInit C CC) := ok_cInit F37 T TC B (C6.mono (by decide)) (C9.mono (by decide)) q38 ⟨a38, i38, k38⟩ b38 (q40.mono (by decide)) ⟨a40, i40, k40⟩ b40
  have q12 : FnOk l.prog w K mg base CX0 6 f12 _ ["wish"] (spClosed C CC) := ok_closed F12 T B ⟨dmk, a37, i37, dkc⟩ (PySem.W.mg_of X G aD) q37 b37
  have C12 : Cal l.prog w K mg base "closed" 6 ["wish"] (spClosed C CC) := ⟨_, _, q12, PySem.W.mg_of X G a12, k12, b12⟩
  have q13 : FnOk l.prog w K mg base CX0 7 f13 _ ["wish", "thing"] (spNumberOf C CC) := ok_numberOf F13 T TC C12 (C11.mono (by decide))
  have C13 : Cal l.prog w K mg base "number_of" 7 ["wish", "thing"] (spNumberOf C CC) := ⟨_, _, q13, PySem.W.mg_of X G a13, k13, b13⟩
  have q14 : FnOk l.prog w K mg base CX0 3 f14 _ ["wish", "word"] (spTable K C) := ok_table F14 T C5 (C6.mono (by decide)) C8 (C10.mono (by decide))
  have C14 : Cal l.prog w K mg base "table" 3 ["wish", "word"] (spTable K C) := ⟨_, _, q14, PySem.W.mg_of X G a14, k14, b14⟩
  have q16 : FnOk l.prog w K mg base CX0 7 f16 _ ["wish"] (spStart C CC) := ok_start F16 TC C12
  have C16 : Cal l.prog w K mg base "start" 7 ["wish"] (spStart C CC) := ⟨_, _, q16, PySem.W.mg_of X G a16, k16, b16⟩
  have q17 : FnOk l.prog w K mg base CX0 7 f17 _ ["wish"] (spLongs C CC) := ok_longs F17 TC C12 (C10.mono (by decide))
  have C17 : Cal l.prog w K mg base "longs" 7 ["wish"] (spLongs C CC) := ⟨_, _, q17, PySem.W.mg_of X G a17, k17, b17⟩
  have q15 : FnOk l.prog w K mg base CX0 7 f15 _ ["wish"] (spTables C CC) := ok_tables F15 TC B C12 (C10.mono (by decide))
  have C15 : Cal l.prog w K mg base "tables" 7 ["wish"] (spTables C CC) := ⟨_, _, q15, PySem.W.mg_of X G a15, k15, b15⟩
  have q18 : FnOk l.prog w K mg base CX0 8 f18 _ ["wish", "table", "least"] (spWordWith C CC) := ok_wordWith F18 TC B (PySem.W.mg_of X G gL) (C12.mono (by decide)) C13 (C2.mono (by decide)) (q41.mono (by decide)) ⟨a41, i41, k41⟩ b41
  have C18 : Cal l.prog w K mg base "word_with" 8 ["wish", "table", "least"] (spWordWith C CC) := ⟨_, _, q18, PySem.W.mg_of X G a18, k18, b18⟩
  have q4 : FnOk l.prog w K mg base CX0 2 f4 _ ["thing", "signs"] spIsChoice := ok_isChoice F4 B C3
  have C4 : Cal l.prog w K mg base "is_choice" 2 ["thing", "signs"] spIsChoice := ⟨_, _, q4, PySem.W.mg_of X G a4, k4, b4⟩
  have q19 : FnOk l.prog w K mg base CX0 1 f19 _ ["thing", "given", "said"] spIsPair := ok_isPair F19 B
  have C19 : Cal l.prog w K mg base "is_pair" 1 ["thing", "given", "said"] spIsPair := ⟨_, _, q19, PySem.W.mg_of X G a19, k19, b19⟩
  have q20 : FnOk l.prog w K mg base CX0 2 f20 _ ["thing", "given", "said"] spArePairs := ok_arePairs F20 B C19
  have C20 : Cal l.prog w K mg base "are_pairs" 2 ["thing", "given", "said"] spArePairs := ⟨_, _, q20, PySem.W.mg_of X G a20, k20, b20⟩
  have q36 : FnOk l.prog w K mg base CX0 1 f36 _ ["self", "given", "said", "pairs"] (spKeep C) := ok_keep F36 T T2 B
  have q35 : FnOk l.prog w K mg base CX0 3 f35 _ ["self", "given", "said", "pairs"] (spWInit C) := ok_wInit F35 T B (PySem.W.mg_of X G gS) (PySem.W.mg_of X G gG) C4 C20 (q36.mono (by decide)) ⟨a36, i36, k36⟩ b36
  have q21 : FnOk l.prog w K mg base CX0 1 f21 _ ["_law_script"] (spHand K) := ok_hand F21 B
  have C21 : Cal l.prog w K mg base "_law_hand" 1 ["_law_script"] (spHand K) := ⟨_, _, q21, PySem.W.mg_of X G a21, k21, b21⟩
  have q22 : FnOk l.prog w K mg base CX0 1 f22 _ ["_law_hand_here", "_law_many"] spDraw := ok_draw F22 B
  have C22 : Cal l.prog w K mg base "_law_draw" 1 ["_law_hand_here", "_law_many"] spDraw := ⟨_, _, q22, PySem.W.mg_of X G a22, k22, b22⟩
  have q23 : FnOk l.prog w K mg base CX0 2 f23 _ ["_law_hand_here", "_law_signs", "_law_many"] spLetters := ok_letters F23 B C22
  have C23 : Cal l.prog w K mg base "_law_letters" 2 ["_law_hand_here", "_law_signs", "_law_many"] spLetters := ⟨_, _, q23, PySem.W.mg_of X G a23, k23, b23⟩
  have q24 : FnOk l.prog w K mg base CX0 1 f24 _ ["_law_given", "_law_said"] spCells := ok_cells F24
  have C24 : Cal l.prog w K mg base "_law_cells" 1 ["_law_given", "_law_said"] spCells := ⟨_, _, q24, PySem.W.mg_of X G a24, k24, b24⟩
  have q25 : FnOk l.prog w K mg base CX0 1 f25 _ ["_law_pairs_here"] (spKnown K) := ok_known F25
  have C25 : Cal l.prog w K mg base "_law_known" 1 ["_law_pairs_here"] (spKnown K) := ⟨_, _, q25, PySem.W.mg_of X G a25, k25, b25⟩
  have q26 : FnOk l.prog w K mg base CX0 1 f26 _ ["_law_kind", "_law_given", "_law_said", "_law_one", "_law_other"] spFits := ok_fits F26 B
  have C26 : Cal l.prog w K mg base "_law_fits" 1 ["_law_kind", "_law_given", "_law_said", "_law_one", "_law_other"] spFits := ⟨_, _, q26, PySem.W.mg_of X G a26, k26, b26⟩
  have q27 : FnOk l.prog w K mg base CX0 2 f27 _ ["_law_hand_here", "_law_given", "_law_said"] spPairs := ok_pairs F27 B C22 C24 C26
  have C27 : Cal l.prog w K mg base "_law_pairs" 2 ["_law_hand_here", "_law_given", "_law_said"] spPairs := ⟨_, _, q27, PySem.W.mg_of X G a27, k27, b27⟩
  have q28 : FnOk l.prog w K mg base CX0 3 f28 _ ["_law_hand_here"] spSmall := ok_small F28 B (C22.mono (by decide)) C23 C27
  have C28 : Cal l.prog w K mg base "_law_small" 3 ["_law_hand_here"] spSmall := ⟨_, _, q28, PySem.W.mg_of X G a28, k28, b28⟩
  have q29 : FnOk l.prog w K mg base CX0 2 f29 _ ["_law_hand_here", "_law_given", "_law_many"] spWord := ok_word F29 B C22
  have C29 : Cal l.prog w K mg base "_law_word" 2 ["_law_hand_here", "_law_given", "_law_many"] spWord := ⟨_, _, q29, PySem.W.mg_of X G a29, k29, b29⟩
  have q30 : FnOk l.prog w K mg base CX0 1 f30 _ ["_law_cells_here", "_law_known_here"] spPlain := ok_plain F30 B
  have C30 : Cal l.prog w K mg base "_law_plain" 1 ["_law_cells_here", "_law_known_here"] spPlain := ⟨_, _, q30, PySem.W.mg_of X G a30, k30, b30⟩
  have q31 : FnOk l.prog w K mg base CX0 2 f31 _ ["_law_cells_here", "_law_known_here", "_law_rows", "_law_letter"] spBehind := ok_behind F31 B C25
  have C31 : Cal l.prog w K mg base "_law_behind" 2 ["_law_cells_here", "_law_known_here", "_law_rows", "_law_letter"] spBehind := ⟨_, _, q31, PySem.W.mg_of X G a31, k31, b31⟩
  have q32 : FnOk l.prog w K mg base CX0 3 f32 _ ["_law_given", "_law_cells_here", "_law_known_here"] spClosureL := ok_closureL F32 B (C30.mono (by decide)) C31
  have C32 : Cal l.prog w K mg base "_law_closure" 3 ["_law_given", "_law_cells_here", "_law_known_here"] spClosureL := ⟨_, _, q32, PySem.W.mg_of X G a32, k32, b32⟩
  have q33 : FnOk l.prog w K mg base CX0 3 f33 _ ["_law_given", "_law_cells_here", "_law_known_here", "_law_found"] spLevelsL := ok_levelsL F33 B C31
  have C33 : Cal l.prog w K mg base "_law_levels" 3 ["_law_given", "_law_cells_here", "_law_known_here", "_law_found"] spLevelsL := ⟨_, _, q33, PySem.W.mg_of X G a33, k33, b33⟩
  exact ok_law F34 B ⟨wmk, a35, i35, wkc⟩ (PySem.W.mg_of X G aC) (q35.mono (by decide)) b35 (C21.mono (by decide)) (C28.mono (by decide)) (C24.mono (by decide)) (C25.mono (by decide)) (C32.mono (by decide)) (C33.mono (by decide)) (C16.mono (by decide)) (C17.mono (by decide)) (C15.mono (by decide)) (C29.mono (by decide)) (C22.mono (by decide)) (C14.mono (by decide)) (C18.mono (by decide))
end N18
end
set_option Elab.async false
set_option linter.all false
set_option maxRecDepth 100000
open PySem PySem.W PyProof.Rows
set_option maxRecDepth 100000 in
set_option maxHeartbeats 0 in
theorem PySem.Challenge.cw_nearwish_k18_whole_long_tables_holds : PySem.Challenge.rw_nearwish_k18_whole_long_tables.Holds := by
  w_on; o_law; k_head; (case hw => w_witness2)
  k_fill
  refine L2.walk_of (l := PySem.Challenge.rw_nearwish_k18_whole_long_tables) (n := 63) (k := 9) (x := "_law_script") (CX := fun _ => L2.CX0) (sp := fun w => N18.spLaw _) rfl (by decide) rfl ⟨rfl, by decide, by decide⟩ (fun w h Y => PySem.W.kIn_of Y) ?F (fun _ _ a ns hl _ hS => ⟨a, ns, rfl, hS, hl, fun _ => rfl⟩) (fun _ _ _ _ _ h => h)
  case F =>
    intro w mg fa h KX G hmg
    refine' N18.all_mk KX G hmg ?aC ?aD ?a1 ?l1 ?c1 ?k1 ?a2 ?l2 ?c2 ?k2 ?a3 ?l3 ?c3 ?k3 ?a4 ?l4 ?c4 ?k4 ?a5 ?l5 ?c5 ?k5 ?a6 ?l6 ?c6 ?k6 ?a7 ?l7 ?c7 ?k7 ?a8 ?l8 ?c8 ?k8 ?a9 ?l9 ?c9 ?k9 ?a10 ?l10 ?c10 ?k10 ?a11 ?l11 ?c11 ?k11 ?a12 ?l12 ?c12 ?k12 ?a13 ?l13 ?c13 ?k13 ?a14 ?l14 ?c14 ?k14 ?a15 ?l15 ?c15 ?k15 ?a16 ?l16 ?c16 ?k16 ?a17 ?l17 ?c17 ?k17 ?a18 ?l18 ?c18 ?k18 ?a19 ?l19 ?c19 ?k19 ?a20 ?l20 ?c20 ?k20 ?a21 ?l21 ?c21 ?k21 ?a22 ?l22 ?c22 ?k22 ?a23 ?l23 ?c23 ?k23 ?a24 ?l24 ?c24 ?k24 ?a25 ?l25 ?c25 ?k25 ?a26 ?l26 ?c26 ?k26 ?a27 ?l27 ?c27 ?k27 ?a28 ?l28 ?c28 ?k28 ?a29 ?l29 ?c29 ?k29 ?a30 ?l30 ?c30 ?k30 ?a31 ?l31 ?c31 ?k31 ?a32 ?l32 ?c32 ?k32 ?a33 ?l33 ?c33 ?k33 ?a34 ?l34 ?c34 ?k34 ?a35 ?i35 ?l35 ?c35 ?k35 ?a36 ?i36 ?l36 ?c36 ?k36 ?a37 ?i37 ?l37 ?c37 ?k37 ?a38 ?i38 ?l38 ?c38 ?k38 ?a39 ?i39 ?l39 ?c39 ?k39 ?a40 ?i40 ?l40 ?c40 ?k40 ?a41 ?i41 ?l41 ?c41 ?k41 ?wpg ?whd ?wpo ?wsa ?wmk ?wkc ?dpg ?dhd ?dpo ?dsa ?dmk ?dkc ?nw_kept_given ?nw_kept_said ?nw_kept_cells ?nw_kept_index ?nw_kept_places ?nw_kept_bits ?nw_kept_known ?nw_kept_pairs ?nw_kept_rows ?nw_kept_closure ?nd_rows ?nd_words ?nd_number ?nd_behind ?nd_ahead ?nd_start ?nd_period ?nd_longs ?gM ?gL ?gS ?gG ?z_isinstance ?z_int ?z_bool ?z_str ?z_len ?z_set ?z_tuple ?z_zip ?z_list ?z_range ?z_enumerate ?z_any ?z_sorted ?z_sum ?z_max ?z_abs
    (case aC => k_is); (case aD => k_is); (case a1 => k_is); (case l1 => k_is); (case c1 => k_is); (case k1 => k_is)
    (case a2 => k_is); (case l2 => k_is); (case c2 => k_is); (case k2 => k_is); (case a3 => k_is); (case l3 => k_is)
    (case c3 => k_is); (case k3 => k_is); (case a4 => k_is); (case l4 => k_is); (case c4 => k_is); (case k4 => k_is)
    (case a5 => k_is); (case l5 => k_is); (case c5 => k_is); (case k5 => k_is); (case a6 => k_is); (case l6 => k_is)
    (case c6 => k_is); (case k6 => k_is); (case a7 => k_is); (case l7 => k_is); (case c7 => k_is); (case k7 => k_is)
    (case a8 => k_is); (case l8 => k_is); (case c8 => k_is); (case k8 => k_is); (case a9 => k_is); (case l9 => k_is)
    (case c9 => k_is); (case k9 => k_is); (case a10 => k_is); (case l10 => k_is); (case c10 => k_is); (case k10 => k_is)
    (case a11 => k_is); (case l11 => k_is); (case c11 => k_is); (case k11 => k_is); (case a12 => k_is); (case l12 => k_is)
    (case c12 => k_is); (case k12 => k_is); (case a13 => k_is); (case l13 => k_is); (case c13 => k_is); (case k13 => k_is)
    (case a14 => k_is); (case l14 => k_is); (case c14 => k_is); (case k14 => k_is); (case a15 => k_is); (case l15 => k_is)
    (case c15 => k_is); (case k15 => k_is); (case a16 => k_is); (case l16 => k_is); (case c16 => k_is); (case k16 => k_is)
    (case a17 => k_is); (case l17 => k_is); (case c17 => k_is); (case k17 => k_is); (case a18 => k_is); (case l18 => k_is)
    (case c18 => k_is); (case k18 => k_is); (case a19 => k_is); (case l19 => k_is); (case c19 => k_is); (case k19 => k_is)
    (case a20 => k_is); (case l20 => k_is); (case c20 => k_is); (case k20 => k_is); (case a21 => k_is); (case l21 => k_is)
    (case c21 => k_is); (case k21 => k_is); (case a22 => k_is); (case l22 => k_is); (case c22 => k_is); (case k22 => k_is)
    (case a23 => k_is); (case l23 => k_is); (case c23 => k_is); (case k23 => k_is); (case a24 => k_is); (case l24 => k_is)
    (case c24 => k_is); (case k24 => k_is); (case a25 => k_is); (case l25 => k_is); (case c25 => k_is); (case k25 => k_is)
    (case a26 => k_is); (case l26 => k_is); (case c26 => k_is); (case k26 => k_is); (case a27 => k_is); (case l27 => k_is)
    (case c27 => k_is); (case k27 => k_is); (case a28 => k_is); (case l28 => k_is); (case c28 => k_is); (case k28 => k_is)
    (case a29 => k_is); (case l29 => k_is); (case c29 => k_is); (case k29 => k_is); (case a30 => k_is); (case l30 => k_is)
    (case c30 => k_is); (case k30 => k_is); (case a31 => k_is); (case l31 => k_is); (case c31 => k_is); (case k31 => k_is)
    (case a32 => k_is); (case l32 => k_is); (case c32 => k_is); (case k32 => k_is); (case a33 => k_is); (case l33 => k_is)
    (case c33 => k_is); (case k33 => k_is); (case a34 => k_is); (case l34 => k_is); (case c34 => k_is); (case k34 => k_is)
    (case a35 => k_is); (case i35 => k_is); (case l35 => k_is); (case c35 => k_is); (case k35 => k_is); (case a36 => k_is)
    (case i36 => k_is); (case l36 => k_is); (case c36 => k_is); (case k36 => k_is); (case a37 => k_is); (case i37 => k_is)
    (case l37 => k_is); (case c37 => k_is); (case k37 => k_is); (case a38 => k_is); (case i38 => k_is); (case l38 => k_is)
    (case c38 => k_is); (case k38 => k_is); (case a39 => k_is); (case i39 => k_is); (case l39 => k_is); (case c39 => k_is)
    (case k39 => k_is); (case a40 => k_is); (case i40 => k_is); (case l40 => k_is); (case c40 => k_is); (case k40 => k_is)
    (case a41 => k_is); (case i41 => k_is); (case l41 => k_is); (case c41 => k_is); (case k41 => k_is); (case wpg => k_is)
    (case whd => k_is); (case wpo => k_is); (case wsa => k_is); (case wmk => k_is); (case wkc => k_is); (case dpg => k_is)
    (case dhd => k_is); (case dpo => k_is); (case dsa => k_is); (case dmk => k_is); (case dkc => k_is); (case nw_kept_given => k_is)
    (case nw_kept_said => k_is); (case nw_kept_cells => k_is); (case nw_kept_index => k_is); (case nw_kept_places => k_is); (case nw_kept_bits => k_is); (case nw_kept_known => k_is)
    (case nw_kept_pairs => k_is); (case nw_kept_rows => k_is); (case nw_kept_closure => k_is); (case nd_rows => k_is); (case nd_words => k_is); (case nd_number => k_is)
    (case nd_behind => k_is); (case nd_ahead => k_is); (case nd_start => k_is); (case nd_period => k_is); (case nd_longs => k_is); (case gM => k_is)
    (case gL => k_is); (case gS => k_is); (case gG => k_is); (case z_isinstance => k_is); (case z_int => k_is); (case z_bool => k_is)
    (case z_str => k_is); (case z_len => k_is); (case z_set => k_is); (case z_tuple => k_is); (case z_zip => k_is); (case z_list => k_is)
    (case z_range => k_is); (case z_enumerate => k_is); (case z_any => k_is); (case z_sorted => k_is); (case z_sum => k_is); (case z_max => k_is)
    (case z_abs => k_is)
