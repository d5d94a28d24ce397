import PyProof.Rows.All
import Wide.All
import OpenK.AllK
import Wide.FinOn
import HandS.ForMost
import HandS.Flow
import HandS.Style
import HandS.IsInst
import HandS.WideBits
import HandS.TupLe
import HandS.TupAny
import HandS.Conv
import HandS.Walk
import HandS.NoneIn
import HandS.Zip
import HandS.Zip0
import HandS.TupSets
import HandS.Steps
import HandS.TupLen
import KE.SortData
import PySem.Challenge.RW_silencers_k20_whole_smallest_and_greates
import KE.GoesMore
import KE.DataMinMax
set_option Elab.async false
set_option linter.all false
section
set_option autoImplicit false
set_option linter.all false
namespace Mi
/-- set difference of masks -/
def sd (a b : Nat) : Nat := a ^^^ (a &&& b)
theorem tb_sd (a b i : Nat) : (sd a b).testBit i = (a.testBit i && !b.testBit i) := by
  unfold sd
  rw [Nat.testBit_xor, Nat.testBit_and]
  cases a.testBit i <;> cases b.testBit i <;> rfl
theorem and_le (a b : Nat) : a &&& b ≤ a := Nat.and_le_left
theorem sub_and (a : Nat) : ∀ b : Nat, a - (a &&& b) = sd a b := by
  induction a using Nat.strongRecOn with
  | _ a ih =>
    intro b
    by_cases h0 : a = 0
    · subst h0
      unfold sd
      simp
    · have i := ih (a / 2) (by omega) (b / 2)
      have e1 : (a &&& b) / 2 = a / 2 &&& b / 2 := Nat.and_div_two
      have e2 : (sd a b) / 2 = sd (a / 2) (b / 2) := by
        unfold sd
        rw [Nat.xor_div_two, Nat.and_div_two]
      have l := and_le (a / 2) (b / 2)
      have m1 : (a &&& b) % 2 = 1 ↔ (a % 2 = 1 ∧ b % 2 = 1) := by
        have := Nat.testBit_and a b 0
        simp only [Nat.testBit_zero] at this
        rw [Bool.eq_iff_iff] at this
        simpa using this
      have m2 : (sd a b) % 2 = 1 ↔ (a % 2 = 1 ∧ ¬ b % 2 = 1) := by
        have := tb_sd a b 0
        simp only [Nat.testBit_zero] at this
        rw [Bool.eq_iff_iff] at this
        simpa using this
      have l2 := and_le a b
      generalize a &&& b = c at *
      generalize sd a b = d at *
      generalize a / 2 &&& b / 2 = c' at *
      generalize sd (a / 2) (b / 2) = d' at *
      omega
theorem ext {a b : Nat} (h : ∀ i, a.testBit i = b.testBit i) : a = b := Nat.eq_of_testBit_eq h
theorem tb_one (i j : Nat) : (1 <<< i).testBit j = decide (i = j) := by
  rw [Nat.one_shiftLeft, Nat.testBit_two_pow]
theorem tb_lt {a i n : Nat} (h : a.testBit i = true) (ha : a < 2 ^ n) : i < n := by
  by_cases q : i < n
  · exact q
  · have := Nat.testBit_lt_two_pow (Nat.lt_of_lt_of_le ha (Nat.pow_le_pow_right (by decide) (Nat.le_of_not_lt q)))
    rw [this] at h
    cases h
theorem tb_le {a i : Nat} (h : a.testBit i = true) : i < a := Nat.lt_of_lt_of_le Nat.lt_two_pow_self (Nat.ge_two_pow_of_testBit h)
theorem lt_of_tb {a n : Nat} (h : ∀ i, a.testBit i = true → i < n) : a < 2 ^ n := by
  apply Nat.lt_pow_two_of_testBit
  intro i hi
  cases q : a.testBit i with
  | false => rfl
  | true => exact absurd (h i q) (by omega)
theorem zero_of {a : Nat} (h : ∀ i, a.testBit i = false) : a = 0 := ext fun i => by rw [h i, Nat.zero_testBit]
theorem tb_of_ne {a : Nat} (h : a ≠ 0) : ∃ i, a.testBit i = true := by
  refine Classical.byContradiction fun n => h (zero_of fun i => ?_)
  cases q : a.testBit i with
  | false => rfl
  | true => exact absurd ⟨i, q⟩ n

/-! ### lots -/
def lot (a : Nat) : List Nat := (List.range a).filter fun i => a.testBit i
theorem mem_lot {a i : Nat} : i ∈ lot a ↔ a.testBit i = true := by
  unfold lot
  rw [List.mem_filter, List.mem_range]
  exact ⟨fun h => h.2, fun h => ⟨tb_le h, h⟩⟩
def Asc (l : List Nat) : Prop := l.Pairwise (· < ·)
theorem lot_asc (a : Nat) : Asc (lot a) := List.Pairwise.filter _ List.pairwise_lt_range
theorem asc_ext : ∀ {l m : List Nat}, Asc l → Asc m → (∀ i, i ∈ l ↔ i ∈ m) → l = m
  | [], [], _, _, _ => rfl
  | [], b :: m, _, _, h => by simpa using h b
  | a :: l, [], _, _, h => by simpa using h a
  | a :: l, b :: m, hl, hm, h => by
    obtain ⟨l1, l2⟩ := List.pairwise_cons.mp hl
    obtain ⟨m1, m2⟩ := List.pairwise_cons.mp hm
    have e : a = b := by
      have x := (h a).mp List.mem_cons_self
      have y := (h b).mpr List.mem_cons_self
      rcases List.mem_cons.mp x with x | x
      · exact x
      · rcases List.mem_cons.mp y with y | y
        · exact y.symm
        · have := l1 b y; have := m1 a x; omega
    subst e
    congr 1
    refine asc_ext l2 m2 fun i => ⟨fun hi => ?_, fun hi => ?_⟩
    · rcases List.mem_cons.mp ((h i).mp (List.mem_cons_of_mem _ hi)) with e | e
      · have := l1 i hi; omega
      · exact e
    · rcases List.mem_cons.mp ((h i).mpr (List.mem_cons_of_mem _ hi)) with e | e
      · have := m1 i hi; omega
      · exact e
theorem lot_of_asc {a : Nat} {l : List Nat} (h : Asc l) (m : ∀ i, i ∈ l ↔ a.testBit i = true) : lot a = l := asc_ext (lot_asc a) h fun i => mem_lot.trans (m i).symm
theorem lot_range {a n : Nat} (h : a < 2 ^ n) : lot a = (List.range n).filter fun i => a.testBit i :=
  lot_of_asc (List.Pairwise.filter _ List.pairwise_lt_range) fun i => by
    rw [List.mem_filter, List.mem_range]
    exact ⟨fun h => h.2, fun q => ⟨tb_lt q h, q⟩⟩
theorem asc_nodup {l : List Nat} (h : Asc l) : l.Nodup := List.Pairwise.imp (fun h e => by omega) h
theorem lot_nodup (a : Nat) : (lot a).Nodup := asc_nodup (lot_asc a)
theorem lot_inj {a b : Nat} (h : lot a = lot b) : a = b := ext fun i => by
  have : a.testBit i = true ↔ b.testBit i = true := by rw [← mem_lot, ← mem_lot, h]
  cases x : a.testBit i <;> cases y : b.testBit i <;> simp [x, y] at this <;> rfl
theorem lot_zero : lot 0 = [] := rfl
theorem lot_one (i : Nat) : lot (1 <<< i) = [i] := lot_of_asc (List.pairwise_singleton _ _) fun j => by
  rw [tb_one]
  simp
  exact ⟨Eq.symm, Eq.symm⟩
theorem lot_nil {a : Nat} (h : lot a = []) : a = 0 := lot_inj (h.trans lot_zero.symm)
theorem lot_lt {a n i : Nat} (h : a < 2 ^ n) (hi : i ∈ lot a) : i < n := tb_lt (mem_lot.mp hi) h
/-! ### how many -/
def pc (a : Nat) : Nat := (lot a).length
theorem pc_zero : pc 0 = 0 := rfl
theorem pc_one (i : Nat) : pc (1 <<< i) = 1 := by unfold pc; rw [lot_one]; rfl
theorem pc_eq_zero {a : Nat} (h : pc a = 0) : a = 0 := lot_nil (List.length_eq_zero_iff.mp h)
theorem pc_pos {a : Nat} (h : a ≠ 0) : 0 < pc a := by
  cases e : pc a with
  | zero => exact absurd (pc_eq_zero e) h
  | succ n => exact Nat.succ_pos n
theorem pc_range {a n : Nat} (h : a < 2 ^ n) : pc a = (List.range n).countP fun i => a.testBit i := by
  unfold pc
  rw [lot_range h, List.countP_eq_length_filter]
theorem pc_le {a n : Nat} (h : a < 2 ^ n) : pc a ≤ n := by
  rw [pc_range h]
  have := List.countP_le_length (p := fun i => a.testBit i) (l := List.range n)
  rw [List.length_range] at this
  exact this
theorem countP_disj {l : List Nat} {p q r : Nat → Bool} (h : ∀ i ∈ l, r i = (p i || q i)) (d : ∀ i ∈ l, (p i && q i) = false) : l.countP r = l.countP p + l.countP q := by
  induction l with
  | nil => rfl
  | cons a l ih =>
    have i := ih (fun i hi => h i (List.mem_cons_of_mem _ hi)) (fun i hi => d i (List.mem_cons_of_mem _ hi))
    have h1 := h a List.mem_cons_self
    have d1 := d a List.mem_cons_self
    rw [List.countP_cons, List.countP_cons, List.countP_cons, i, h1]
    cases x : p a <;> cases y : q a <;> simp [x, y] at d1 ⊢ <;> omega
theorem pc_or {a b : Nat} (d : a &&& b = 0) : pc (a ||| b) = pc a + pc b := by
  obtain ⟨n, ha, hb⟩ : ∃ n, a < 2 ^ n ∧ b < 2 ^ n := ⟨a + b, Nat.lt_of_lt_of_le Nat.lt_two_pow_self (Nat.pow_le_pow_right (by decide) (by omega)), Nat.lt_of_lt_of_le Nat.lt_two_pow_self (Nat.pow_le_pow_right (by decide) (by omega))⟩
  rw [pc_range (Nat.or_lt_two_pow ha hb), pc_range ha, pc_range hb]
  refine countP_disj (fun i _ => Nat.testBit_or a b i) fun i _ => ?_
  rw [← Nat.testBit_and, d, Nat.zero_testBit]
theorem pc_mono {a b : Nat} (h : ∀ i, a.testBit i = true → b.testBit i = true) : pc a ≤ pc b := by
  have e : b = a ||| sd b a := ext fun i => by
    rw [Nat.testBit_or, tb_sd]
    have := h i
    cases x : a.testBit i <;> cases y : b.testBit i <;> simp [x, y] at this ⊢
  have d : a &&& sd b a = 0 := zero_of fun i => by
    rw [Nat.testBit_and, tb_sd]
    cases x : a.testBit i <;> cases y : b.testBit i <;> rfl
  rw [e, pc_or d]
  omega
theorem pc_full (n : Nat) : pc (2 ^ n - 1) = n := by
  have h : 2 ^ n - 1 < 2 ^ n := Nat.sub_lt (Nat.two_pow_pos n) (by decide)
  rw [pc_range h]
  have : (List.range n).countP (fun i => (2 ^ n - 1).testBit i) = (List.range n).length := by
    rw [List.countP_eq_length]
    intro i hi
    rw [Nat.testBit_two_pow_sub_one]
    exact decide_eq_true (List.mem_range.mp hi)
  rw [this, List.length_range]
/-! ### masks of lists -/
def mk (l : List Nat) : Nat := l.foldl (fun m i => m ||| 1 <<< i) 0
theorem tb_foldl (l : List Nat) (m i : Nat) : (l.foldl (fun m i => m ||| 1 <<< i) m).testBit i = (m.testBit i || decide (i ∈ l)) := by
  induction l generalizing m with
  | nil => simp
  | cons a l ih =>
    rw [List.foldl_cons, ih, Nat.testBit_or, tb_one]
    by_cases h : a = i
    · subst h; simp
    · have h' : ¬ i = a := fun e => h e.symm
      simp [h, h']
theorem tb_mk (l : List Nat) (i : Nat) : (mk l).testBit i = decide (i ∈ l) := by
  unfold mk
  rw [tb_foldl, Nat.zero_testBit, Bool.false_or]
theorem mk_lot (a : Nat) : mk (lot a) = a := ext fun i => by
  rw [tb_mk]
  cases x : a.testBit i with
  | true => exact decide_eq_true (mem_lot.mpr x)
  | false => exact decide_eq_false fun h => by rw [mem_lot, x] at h; cases h
theorem lot_mk {l : List Nat} (h : Asc l) : lot (mk l) = l := lot_of_asc h fun i => by rw [tb_mk]; simp
theorem mk_snoc (l : List Nat) (i : Nat) : mk (l ++ [i]) = mk l ||| 1 <<< i := by unfold mk; rw [List.foldl_append]; rfl

/-! ### the lowest bit -/
theorem low_form : ∀ a : Nat, a ≠ 0 → ∃ k m, a = 2 ^ k * (2 * m + 1)
  | a, h => by
    rcases Nat.mod_two_eq_zero_or_one a with x | x
    · obtain ⟨k, m, e⟩ := low_form (a / 2) (by omega)
      refine ⟨k + 1, m, ?_⟩
      rw [Nat.pow_succ, Nat.mul_comm (2 ^ k) 2, Nat.mul_assoc, ← e]
      omega
    · exact ⟨0, a / 2, by rw [Nat.pow_zero]; omega⟩
  termination_by a => a
  decreasing_by omega
theorem and_pred (m : Nat) : ∀ k : Nat, (2 ^ k * (2 * m + 1)) &&& (2 ^ k * (2 * m + 1) - 1) = 2 ^ k * (2 * m)
  | 0 => by
    rw [Nat.pow_zero, Nat.one_mul, Nat.one_mul, Nat.add_sub_cancel]
    refine ext fun i => ?_
    rw [Nat.testBit_and]
    cases i with
    | zero => simp [Nat.testBit_zero]
    | succ i =>
      rw [Nat.testBit_add_one, Nat.testBit_add_one, show (2 * m + 1) / 2 = m by omega, show (2 * m) / 2 = m by omega, Bool.and_self]
  | k + 1 => by
    have ih := and_pred m k
    have p : 0 < 2 ^ k * (2 * m + 1) := Nat.mul_pos (Nat.two_pow_pos k) (by omega)
    have e : ∀ x, 2 ^ (k + 1) * x = 2 * (2 ^ k * x) := fun x => by rw [Nat.pow_succ, Nat.mul_comm (2 ^ k) 2, Nat.mul_assoc]
    rw [e, e]
    generalize 2 ^ k * (2 * m + 1) = y at *
    generalize 2 ^ k * (2 * m) = z at *
    refine ext fun i => ?_
    rw [Nat.testBit_and]
    cases i with
    | zero => simp [Nat.testBit_zero]
    | succ i =>
      rw [Nat.testBit_add_one, Nat.testBit_add_one, Nat.testBit_add_one, show (2 * y) / 2 = y by omega, show (2 * y - 1) / 2 = y - 1 by omega, show (2 * z) / 2 = z by omega, ← ih, Nat.testBit_and]
theorem low_bits {a k m : Nat} (e : a = 2 ^ k * (2 * m + 1)) : a.testBit k = true ∧ (∀ i, i < k → a.testBit i = false) ∧ a &&& (a - 1) = sd a (1 <<< k) ∧ a - (a &&& (a - 1)) = 2 ^ k := by
  have t : ∀ i, a.testBit i = (decide (k ≤ i) && (2 * m + 1).testBit (i - k)) := fun i => by
    rw [e, Nat.mul_comm, Nat.testBit_mul_two_pow]
  have u : ∀ i, (2 ^ k * (2 * m)).testBit i = (decide (k ≤ i) && (2 * m).testBit (i - k)) := fun i => by
    rw [Nat.mul_comm, Nat.testBit_mul_two_pow]
  refine ⟨?_, fun i hi => ?_, ?_, ?_⟩
  · rw [t, Nat.sub_self, Nat.testBit_zero]
    simp
  · rw [t]
    simp
    omega
  · rw [show a &&& (a - 1) = 2 ^ k * (2 * m) by rw [e]; exact and_pred m k]
    refine ext fun i => ?_
    rw [u, tb_sd, t, tb_one]
    by_cases h : k ≤ i
    · by_cases h2 : k = i
      · subst h2
        simp [Nat.testBit_zero]
      · obtain ⟨j, hj⟩ : ∃ j, i - k = j + 1 := ⟨i - k - 1, by omega⟩
        rw [hj, Nat.testBit_add_one, Nat.testBit_add_one, show (2 * m + 1) / 2 = m by omega, show (2 * m) / 2 = m by omega]
        simp [h2]
    · simp [h]
  · rw [show a &&& (a - 1) = 2 ^ k * (2 * m) by rw [e]; exact and_pred m k]
    rw [e, ← Nat.mul_sub]
    rw [show 2 * m + 1 - 2 * m = 1 by omega, Nat.mul_one]
theorem lot_low {a k : Nat} (h : a.testBit k = true) (l : ∀ i, i < k → a.testBit i = false) : lot a = k :: lot (sd a (1 <<< k)) := by
  refine lot_of_asc (List.pairwise_cons.mpr ⟨fun i hi => ?_, lot_asc _⟩) fun i => ?_
  · rw [mem_lot, tb_sd, tb_one] at hi
    have : a.testBit i = true ∧ ¬ k = i := by simpa using hi
    by_cases q : k < i
    · exact q
    · have := l i (by omega)
      simp_all
  · rw [List.mem_cons, mem_lot, tb_sd, tb_one]
    by_cases q : k = i
    · subst q; simp [h]
    · have q' : ¬ i = k := fun e => q e.symm
      simp [q, q']
end Mi
end

section
set_option autoImplicit false
set_option linter.all false
namespace Mi
/-- ties as masks -/
structure Gr (nr : Nat → Nat) : Prop where
  sym : ∀ p q, (nr p).testBit q = true → (nr q).testBit p = true
  irr : ∀ p, (nr p).testBit p = false
/-- c: parts of f, not tied, that silence all others of f and all of s -/
structure Sol (nr : Nat → Nat) (f s c : Nat) : Prop where
  sub : ∀ p, c.testBit p = true → f.testBit p = true
  free : ∀ p, f.testBit p = true → (c.testBit p = true ↔ ∀ q, (nr p).testBit q = true → c.testBit q = false)
  shut : ∀ p, s.testBit p = true → ∃ q, (nr p).testBit q = true ∧ c.testBit q = true
section
variable {nr : Nat → Nat} {f s c q : Nat}
theorem sol_out (hq : f.testBit q = true) (n : c.testBit q = false) : Sol nr (sd f (1 <<< q)) (s ||| 1 <<< q) c ↔ Sol nr f s c := by
  constructor
  · intro h
    have h1 := h.sub
    have h2 := h.free
    have h3 := h.shut
    simp only [tb_sd, tb_one, Nat.testBit_or] at h1 h2 h3
    refine ⟨?_, ?_, ?_⟩
    · intro p hp
      have := h1 p hp
      simp at this
      exact this.1
    · intro p hp
      by_cases e : q = p
      · subst e
        obtain ⟨r, hr, hc⟩ := h3 q (by simp)
        constructor
        · intro z
          rw [n] at z
          cases z
        · intro z
          rw [z r hr] at hc
          cases hc
      · exact h2 p (by simp [hp, e])
    · intro p hp
      exact h3 p (by simp [hp])
  · intro h
    refine ⟨?_, ?_, ?_⟩
    · intro p hp
      rw [tb_sd, tb_one, h.sub p hp]
      by_cases e : q = p
      · subst e
        rw [n] at hp
        cases hp
      · simp [e]
    · intro p hp
      rw [tb_sd] at hp
      have : f.testBit p = true := by
        revert hp
        cases f.testBit p <;> simp
      exact h.free p this
    · intro p hp
      rw [Nat.testBit_or, tb_one] at hp
      by_cases e : q = p
      · subst e
        refine Classical.byContradiction fun z => ?_
        have := (h.free q hq).mpr fun r hr => by
          cases y : c.testBit r with
          | false => rfl
          | true => exact absurd ⟨r, hr, y⟩ z
        rw [n] at this
        cases this
      · refine h.shut p ?_
        simpa [e] using hp
theorem sol_in (G : Gr nr) (hq : f.testBit q = true) (n : c.testBit q = false) : Sol nr (sd (sd f (1 <<< q)) (nr q)) (sd s (nr q)) c ↔ Sol nr f s (c ||| 1 <<< q) := by
  have iq := G.irr q
  have sy := G.sym
  constructor
  · intro h
    have h1 := h.sub
    have h2 := h.free
    have h3 := h.shut
    simp only [tb_sd, tb_one] at h1 h2 h3
    refine ⟨?_, ?_, ?_⟩
    · intro p hp
      rw [Nat.testBit_or, tb_one] at hp
      by_cases e : q = p
      · subst e; exact hq
      · have := h1 p (by simpa [e] using hp)
        simp at this
        exact this.1.1
    · intro p hp
      simp only [Nat.testBit_or, tb_one]
      by_cases e : q = p
      · subst e
        simp
        intro r hr
        constructor
        · cases y : c.testBit r with
          | false => rfl
          | true =>
            have := h1 r y
            simp [hr] at this
        · intro e
          subst e
          rw [iq] at hr
          cases hr
      · by_cases hn : (nr q).testBit p = true
        · have cp : c.testBit p = false := by
            cases y : c.testBit p with
            | false => rfl
            | true =>
              have := h1 p y
              simp [hn] at this
          simp [e, cp]
          exact ⟨q, sy q p hn, fun z => rfl⟩
        · have := h2 p (by simp [hp, e, hn])
          simp [e]
          rw [this]
          constructor
          · intro z r hr
            refine ⟨z r hr, fun e2 => ?_⟩
            subst e2
            exact hn (sy p q hr)
          · intro z r hr
            exact (z r hr).1
    · intro p hp
      by_cases hn : (nr q).testBit p = true
      · exact ⟨q, sy q p hn, by simp [Nat.testBit_or, tb_one]⟩
      · obtain ⟨r, hr, hc⟩ := h3 p (by simp [hp, hn])
        exact ⟨r, hr, by simp [Nat.testBit_or, hc]⟩
  · intro h
    have h1 := h.sub
    have h2 := h.free
    have h3 := h.shut
    simp only [Nat.testBit_or, tb_one] at h1 h2 h3
    have hcn : ∀ r, (nr q).testBit r = true → c.testBit r = false := fun r hr => by
      have := ((h2 q hq).mp (by simp)) r hr
      simp at this
      exact this.1
    refine ⟨?_, ?_, ?_⟩
    · intro p hp
      simp only [tb_sd, tb_one]
      have a := h1 p (by simp [hp])
      have b : ¬ q = p := fun e => by
        subst e
        rw [n] at hp
        cases hp
      have d : (nr q).testBit p = false := by
        cases y : (nr q).testBit p with
        | false => rfl
        | true =>
          rw [hcn p y] at hp
          cases hp
      simp [a, b, d]
    · intro p hp
      simp only [tb_sd, tb_one] at hp
      simp at hp
      obtain ⟨⟨a, b⟩, d⟩ := hp
      have := h2 p a
      simp [b] at this
      rw [this]
      constructor
      · intro z r hr
        exact (z r hr).1
      · intro z r hr
        refine ⟨z r hr, fun e2 => ?_⟩
        subst e2
        rw [sy p q hr] at d
        cases d
    · intro p hp
      rw [tb_sd] at hp
      simp at hp
      obtain ⟨r, hr, hc⟩ := h3 p hp.1
      by_cases e : q = r
      · subst e
        rw [sy p q hr] at hp
        simp at hp
      · exact ⟨r, hr, by simpa [e] using hc⟩
end

/-! ### the branches -/
/-- what is still to be gone through: chosen, free, shut -/
structure Item where
  ch : Nat
  fr : Nat
  sh : Nat
/-- the lots that an item stands for -/
def Ext (nr : Nat → Nat) (it : Item) (c : Nat) : Prop := ∃ d, Sol nr it.fr it.sh d ∧ c = it.ch ||| d
def kids (nr : Nat → Nat) (ch : Nat) : Nat → Nat → List Nat → List Item
  | _, _, [] => []
  | f, s, q :: qs => ⟨ch ||| 1 <<< q, sd (sd f (1 <<< q)) (nr q), sd s (nr q)⟩ :: kids nr ch (sd f (1 <<< q)) (s ||| 1 <<< q) qs
open Classical in
noncomputable def ways (nr : Nat → Nat) (l : List Item) (c : Nat) : Nat := l.countP fun it => decide (Ext nr it c)
open Classical in
noncomputable def one (p : Prop) : Nat := if p then 1 else 0
theorem one_t {p : Prop} (h : p) : one p = 1 := if_pos h
theorem one_f {p : Prop} (h : ¬ p) : one p = 0 := if_neg h
theorem one_congr {p q : Prop} (h : p ↔ q) : one p = one q := by
  by_cases x : p
  · rw [one_t x, one_t (h.mp x)]
  · rw [one_f x, one_f fun z => x (h.mpr z)]
theorem ways_nil (nr : Nat → Nat) (c : Nat) : ways nr [] c = 0 := rfl
theorem ways_cons (nr : Nat → Nat) (a : Item) (l : List Item) (c : Nat) : ways nr (a :: l) c = one (Ext nr a c) + ways nr l c := by
  unfold ways
  rw [List.countP_cons]
  by_cases h : Ext nr a c
  · rw [one_t h]; simp [h, Nat.add_comm]
  · rw [one_f h]; simp [h]
theorem ways_append (nr : Nat → Nat) (l m : List Item) (c : Nat) : ways nr (l ++ m) c = ways nr l c + ways nr m c := by
  unfold ways
  rw [List.countP_append]
theorem sol_eq_and {nr : Nat → Nat} {f s d ch c : Nat} (h : Sol nr f s d) (dj : ch &&& f = 0) (e : c = ch ||| d) : d = sd c ch := ext fun i => by
  rw [e, tb_sd, Nat.testBit_or]
  have a := h.sub i
  have b : (ch &&& f).testBit i = false := by rw [dj, Nat.zero_testBit]
  rw [Nat.testBit_and] at b
  cases x : d.testBit i <;> cases y : ch.testBit i <;> simp [x, y] at a b ⊢
  rw [a] at b
  cases b
theorem kids_ways {nr : Nat → Nat} (G : Gr nr) (ch c : Nat) : ∀ (qs : List Nat) (f s : Nat), qs.Nodup → (∀ q ∈ qs, f.testBit q = true) → ch &&& f = 0 →
    ways nr (kids nr ch f s qs) c = one (∃ d, Sol nr f s d ∧ c = ch ||| d ∧ ∃ q ∈ qs, d.testBit q = true)
  | [], f, s, _, _, _ => by
    rw [one_f]
    · rfl
    · rintro ⟨d, _, _, q, hq, _⟩
      cases hq
  | q :: qs, f, s, hn, hf, dj => by
    obtain ⟨n1, n2⟩ := List.nodup_cons.mp hn
    have hq := hf q List.mem_cons_self
    have chq : ch.testBit q = false := by
      have b : (ch &&& f).testBit q = false := by rw [dj, Nat.zero_testBit]
      rw [Nat.testBit_and, hq, Bool.and_true] at b
      exact b
    have dj2 : ch &&& sd f (1 <<< q) = 0 := zero_of fun i => by
      have b : (ch &&& f).testBit i = false := by rw [dj, Nat.zero_testBit]
      rw [Nat.testBit_and] at b ⊢
      rw [tb_sd]
      cases x : ch.testBit i <;> cases y : f.testBit i <;> simp [x, y] at b ⊢
    have hf2 : ∀ r ∈ qs, (sd f (1 <<< q)).testBit r = true := fun r hr => by
      rw [tb_sd, tb_one, hf r (List.mem_cons_of_mem _ hr)]
      have : ¬ q = r := fun e => n1 (e ▸ hr)
      simp [this]
    have ih := kids_ways G ch c qs (sd f (1 <<< q)) (s ||| 1 <<< q) n2 hf2 dj2
    show ways nr (⟨ch ||| 1 <<< q, sd (sd f (1 <<< q)) (nr q), sd s (nr q)⟩ :: kids nr ch (sd f (1 <<< q)) (s ||| 1 <<< q) qs) c = _
    rw [ways_cons, ih]
    by_cases A : Ext nr ⟨ch ||| 1 <<< q, sd (sd f (1 <<< q)) (nr q), sd s (nr q)⟩ c
    · rw [one_t A]
      obtain ⟨d, hd, e⟩ := A
      have e : c = (ch ||| 1 <<< q) ||| d := e
      have hd : Sol nr (sd (sd f (1 <<< q)) (nr q)) (sd s (nr q)) d := hd
      have dq : d.testBit q = false := by
        cases y : d.testBit q with
        | false => rfl
        | true =>
          have := hd.sub q y
          simp [tb_sd, tb_one] at this
      have hd2 := (sol_in G hq dq).mp hd
      rw [one_f, one_t]
      · refine ⟨d ||| 1 <<< q, hd2, ?_, q, List.mem_cons_self, ?_⟩
        · rw [e, Nat.or_assoc, Nat.or_comm (1 <<< q) d]
        · rw [Nat.testBit_or, tb_one]; simp
      · rintro ⟨d2, h2, e2, r, hr, hr2⟩
        have cq : c.testBit q = true := by
          rw [e]
          simp [Nat.testBit_or, tb_one]
        rw [e2, Nat.testBit_or, chq, Bool.false_or] at cq
        have := h2.sub q cq
        simp [tb_sd, tb_one] at this
    · rw [one_f A, Nat.zero_add]
      refine one_congr ⟨?_, ?_⟩
      · rintro ⟨d, hd, e, r, hr, hr2⟩
        have dq : d.testBit q = false := by
          cases y : d.testBit q with
          | false => rfl
          | true =>
            have := hd.sub q y
            simp [tb_sd, tb_one] at this
        exact ⟨d, (sol_out hq dq).mp hd, e, r, List.mem_cons_of_mem _ hr, hr2⟩
      · rintro ⟨d, hd, e, r, hr, hr2⟩
        cases dq : d.testBit q with
        | false =>
          refine ⟨d, (sol_out hq dq).mpr hd, e, r, ?_, hr2⟩
          rcases List.mem_cons.mp hr with z | z
          · rw [z, dq] at hr2
            cases hr2
          · exact z
        | true =>
          refine absurd ⟨sd d (1 <<< q), ?_, ?_⟩ A
          · show Sol nr (sd (sd f (1 <<< q)) (nr q)) (sd s (nr q)) (sd d (1 <<< q))
            refine (sol_in G hq (by simp [tb_sd, tb_one])).mpr ?_
            have : sd d (1 <<< q) ||| 1 <<< q = d := ext fun i => by
              rw [Nat.testBit_or, tb_sd, tb_one]
              by_cases z : q = i
              · subst z; simp [dq]
              · simp [z]
            rw [this]
            exact hd
          · show c = (ch ||| 1 <<< q) ||| sd d (1 <<< q)
            rw [e]
            refine ext fun i => ?_
            rw [Nat.testBit_or, Nat.testBit_or, Nat.testBit_or, tb_sd, tb_one]
            by_cases z : q = i
            · subst z; simp [dq]
            · simp [z]

/-! ### the fork -/
def nb (nr : Nat → Nat) (f p : Nat) : Nat := (nr p ||| 1 <<< p) &&& f
/-- b: the fewest parts of f that some part has with all tied to it -/
structure Fork (nr : Nat → Nat) (f s b : Nat) : Prop where
  ex : ∃ p, (f ||| s).testBit p = true ∧ b = nb nr f p
  le : ∀ q, (f ||| s).testBit q = true → pc b ≤ pc (nb nr f q)
theorem tb_nb (nr : Nat → Nat) (f p i : Nat) : (nb nr f p).testBit i = (((nr p).testBit i || decide (p = i)) && f.testBit i) := by
  unfold nb
  rw [Nat.testBit_and, Nat.testBit_or, tb_one]
section
variable {nr : Nat → Nat} {f s b c d ch : Nat}
theorem Fork.sub (F : Fork nr f s b) {i : Nat} (h : b.testBit i = true) : f.testBit i = true := by
  obtain ⟨p, _, rfl⟩ := F.ex
  rw [tb_nb] at h
  simp at h
  exact h.2
theorem Fork.hit (F : Fork nr f s b) (h : Sol nr f s d) : ∃ q, b.testBit q = true ∧ d.testBit q = true := by
  obtain ⟨p, hp, rfl⟩ := F.ex
  by_cases dp : d.testBit p = true
  · refine ⟨p, ?_, dp⟩
    rw [tb_nb, h.sub p dp]
    simp
  · have : ∃ q, (nr p).testBit q = true ∧ d.testBit q = true := by
      rw [Nat.testBit_or] at hp
      rcases Bool.or_eq_true_iff.mp hp with hp | hp
      · refine Classical.byContradiction fun z => dp ((h.free p hp).mpr fun q hq => ?_)
        cases y : d.testBit q with
        | false => rfl
        | true => exact absurd ⟨q, hq, y⟩ z
      · exact h.shut p hp
    obtain ⟨q, hq, hd⟩ := this
    refine ⟨q, ?_, hd⟩
    rw [tb_nb, hq, h.sub q hd]
    rfl
/-- the kids of an item stand for just what it stands for, each lot once -/
theorem fork_ways (G : Gr nr) (F : Fork nr f s b) (dj : ch &&& f = 0) (c : Nat) : ways nr (kids nr ch f s (lot b)) c = one (Ext nr ⟨ch, f, s⟩ c) := by
  rw [kids_ways G ch c (lot b) f s (lot_nodup b) (fun q hq => F.sub (mem_lot.mp hq)) dj]
  refine one_congr ⟨fun ⟨d, hd, e, _⟩ => ⟨d, hd, e⟩, fun ⟨d, hd, e⟩ => ?_⟩
  have hd : Sol nr f s d := hd
  obtain ⟨q, hb, hq⟩ := F.hit hd
  exact ⟨d, hd, e, q, mem_lot.mpr hb, hq⟩
theorem ext_leaf (nr : Nat → Nat) (ch c : Nat) : Ext nr ⟨ch, 0, 0⟩ c ↔ c = ch := by
  constructor
  · rintro ⟨d, hd, e⟩
    have : d = 0 := zero_of fun i => by
      cases y : d.testBit i with
      | false => rfl
      | true =>
        have : (0 : Nat).testBit i = true := hd.sub i y
        rw [Nat.zero_testBit] at this
        cases this
    have e : c = ch ||| d := e
    rw [e, this, Nat.or_zero]
  · intro e
    refine ⟨0, ⟨fun p h => ?_, fun p h => ?_, fun p h => ?_⟩, ?_⟩
    · rw [Nat.zero_testBit] at h; cases h
    · rw [Nat.zero_testBit] at h; cases h
    · rw [Nat.zero_testBit] at h; cases h
    · rw [e]; exact (Nat.or_zero ch).symm

/-! ### how many at most -/
/-- what the branches leave -/
theorem kid_less (F : Fork nr f s b) {q g : Nat} (hq : f.testBit q = true) (hg : ∀ i, g.testBit i = true → f.testBit i = true ∧ ¬ q = i ∧ (nr q).testBit i = false) : pc g + pc b ≤ pc f := by
  have h1 := F.le q (by rw [Nat.testBit_or, hq]; rfl)
  have dj : g &&& nb nr f q = 0 := zero_of fun i => by
    rw [Nat.testBit_and, tb_nb]
    cases y : g.testBit i with
    | false => rfl
    | true =>
      obtain ⟨_, e, n⟩ := hg i y
      simp [e, n]
  have h2 := pc_or dj
  have h3 : pc (g ||| nb nr f q) ≤ pc f := pc_mono fun i h => by
    rw [Nat.testBit_or, tb_nb] at h
    rcases Bool.or_eq_true_iff.mp h with h | h
    · exact (hg i h).1
    · simp at h; exact h.2
  omega
end
theorem two_three : ∀ k : Nat, k * 2 ^ k < 3 ^ k
  | 0 => by decide
  | 1 => by decide
  | 2 => by decide
  | k + 3 => by
    have h := two_three (k + 2)
    rw [Nat.pow_succ, Nat.pow_succ 3]
    have e : (k + 2 + 1) * (2 ^ (k + 2) * 2) = (k + 2) * 2 ^ (k + 2) * 2 + 2 ^ (k + 2) * 2 := by
      rw [Nat.add_mul, Nat.one_mul, Nat.mul_assoc]
    have l : 2 ^ (k + 2) * 2 ≤ (k + 2) * 2 ^ (k + 2) := by
      rw [Nat.mul_comm (2 ^ (k + 2)) 2]
      exact Nat.mul_le_mul_right _ (by omega)
    show (k + 2 + 1) * (2 ^ (k + 2) * 2) < 3 ^ (k + 2) * 3
    rw [e]
    generalize (k + 2) * 2 ^ (k + 2) = x at *
    generalize 2 ^ (k + 2) * 2 = y at *
    generalize 3 ^ (k + 2) = z at *
    omega
/-- the weight of an item with m free parts -/
def wt (m : Nat) : Nat := 3 ^ m * 2 ^ (24 - m)
theorem wt_step {m : Nat} (h : m < 24) : wt m ≤ wt (m + 1) := by
  unfold wt
  rw [show 24 - m = (24 - (m + 1)) + 1 by omega, Nat.pow_succ, Nat.pow_succ 3 m]
  generalize 3 ^ m = x
  generalize 2 ^ (24 - (m + 1)) = y
  rw [Nat.mul_comm y 2, ← Nat.mul_assoc]
  exact Nat.mul_le_mul_right _ (Nat.mul_le_mul_left _ (by decide))
theorem wt_mono {m n : Nat} (h : m ≤ n) (hn : n ≤ 24) : wt m ≤ wt n := by
  induction n with
  | zero => rw [Nat.le_zero.mp h]; exact Nat.le_refl _
  | succ n ih =>
    by_cases e : m = n + 1
    · rw [e]; exact Nat.le_refl _
    · exact Nat.le_trans (ih (by omega) (by omega)) (wt_step (by omega))
theorem wt_pos (m : Nat) : 0 < wt m := Nat.mul_pos (Nat.pow_pos (by decide)) (Nat.two_pow_pos _)
theorem wt_ge {m : Nat} (h : m ≤ 24) : 2 ^ 24 ≤ wt m := wt_mono (Nat.zero_le m) h
theorem wt_fork {m k : Nat} (hm : m ≤ 24) (hk : k ≤ m) : k * wt (m - k) < wt m := by
  unfold wt
  have h := two_three k
  have e1 : 24 - (m - k) = (24 - m) + k := by omega
  have e2 : 3 ^ m = 3 ^ (m - k) * 3 ^ k := by rw [← Nat.pow_add]; congr 1; omega
  rw [e1, Nat.pow_add, e2]
  have p1 : 0 < 3 ^ (m - k) := Nat.pow_pos (by decide)
  have p2 : 0 < 2 ^ (24 - m) := Nat.two_pow_pos _
  generalize 3 ^ (m - k) = x at *
  generalize 2 ^ (24 - m) = y at *
  generalize 2 ^ k = z at *
  generalize 3 ^ k = u at *
  have a : k * (x * (y * z)) = (x * y) * (k * z) := by
    rw [← Nat.mul_assoc x y z, ← Nat.mul_assoc k, Nat.mul_comm k (x * y), Nat.mul_assoc (x * y) k z]
  have b : x * u * y = (x * y) * u := by rw [Nat.mul_assoc, Nat.mul_comm u y, ← Nat.mul_assoc]
  rw [a, b]
  exact Nat.mul_lt_mul_of_pos_left h (Nat.mul_pos p1 p2)
def wts (l : List Item) : Nat := (l.map fun it => wt (pc it.fr)).sum
theorem wts_nil : wts [] = 0 := rfl
theorem wts_cons (a : Item) (l : List Item) : wts (a :: l) = wt (pc a.fr) + wts l := List.sum_cons
theorem wts_append (l m : List Item) : wts (l ++ m) = wts l + wts m := by
  unfold wts
  rw [List.map_append, List.sum_append]
theorem wts_le {l : List Item} {m : Nat} (hm : m ≤ 24) (h : ∀ it ∈ l, pc it.fr ≤ m) : wts l ≤ l.length * wt m := by
  induction l with
  | nil => rw [wts_nil]; exact Nat.zero_le _
  | cons a l ih =>
    rw [wts_cons, List.length_cons, Nat.add_mul, Nat.one_mul, Nat.add_comm]
    exact Nat.add_le_add (ih fun it hi => h it (List.mem_cons_of_mem _ hi)) (wt_mono (h a List.mem_cons_self) hm)
theorem wts_len {l : List Item} (h : ∀ it ∈ l, pc it.fr ≤ 24) : l.length * 2 ^ 24 ≤ wts l := by
  induction l with
  | nil => exact Nat.zero_le _
  | cons a l ih =>
    rw [wts_cons, List.length_cons, Nat.add_mul, Nat.one_mul, Nat.add_comm]
    exact Nat.add_le_add (wt_ge (h a List.mem_cons_self)) (ih fun it hi => h it (List.mem_cons_of_mem _ hi))
theorem kids_len (nr : Nat → Nat) (ch : Nat) : ∀ (qs : List Nat) (f s : Nat), (kids nr ch f s qs).length = qs.length
  | [], _, _ => rfl
  | _ :: qs, _, _ => congrArg (· + 1) (kids_len nr ch qs _ _)
theorem kids_mem {nr : Nat → Nat} {ch : Nat} {it : Item} : ∀ {qs : List Nat} {f s : Nat}, it ∈ kids nr ch f s qs → ∃ q ∈ qs, it.ch = ch ||| 1 <<< q ∧ ∀ i, it.fr.testBit i = true → f.testBit i = true ∧ ¬ q = i ∧ (nr q).testBit i = false
  | [], _, _, h => by cases h
  | q :: qs, f, s, h => by
    rcases List.mem_cons.mp h with e | h
    · subst e
      refine ⟨q, List.mem_cons_self, rfl, fun i hi => ?_⟩
      simp only [tb_sd, tb_one] at hi
      simp at hi
      exact ⟨hi.1.1, hi.1.2, hi.2⟩
    · obtain ⟨r, hr, e, z⟩ := kids_mem h
      refine ⟨r, List.mem_cons_of_mem _ hr, e, fun i hi => ?_⟩
      obtain ⟨a, b⟩ := z i hi
      rw [tb_sd] at a
      simp at a
      exact ⟨a.1, b⟩
theorem kids_wts {nr : Nat → Nat} {f s b ch : Nat} (F : Fork nr f s b) (hf : pc f ≤ 24) : wts (kids nr ch f s (lot b)) < wt (pc f) := by
  have hb : pc b ≤ pc f := pc_mono fun i h => F.sub h
  refine Nat.lt_of_le_of_lt (wts_le (m := pc f - pc b) (by omega) fun it hi => ?_) ?_
  · obtain ⟨q, hq, _, z⟩ := kids_mem hi
    have := kid_less F (F.sub (mem_lot.mp hq)) z
    omega
  · rw [kids_len]
    exact wt_fork hf hb

/-! ### the counter: a bound alone -/
def Bd (k m : Nat) : Prop := k * 2 ^ m ≤ 3 ^ m
theorem bd_one : Bd 1 0 := by unfold Bd; decide
theorem bd_zero (m : Nat) : Bd 0 m := by unfold Bd; rw [Nat.zero_mul]; exact Nat.zero_le _
theorem bd_mul {k l m n : Nat} (h : Bd k m) (h' : Bd l n) : Bd (k * l) (m + n) := by
  unfold Bd at *
  rw [Nat.pow_add, Nat.pow_add]
  have : k * l * (2 ^ m * 2 ^ n) = (k * 2 ^ m) * (l * 2 ^ n) := by
    generalize 2 ^ m = x
    generalize 2 ^ n = y
    rw [Nat.mul_assoc, Nat.mul_assoc, ← Nat.mul_assoc l, Nat.mul_comm l x, Nat.mul_assoc x]
  rw [this]
  exact Nat.mul_le_mul h h'
theorem bd_mono {k m n : Nat} (h : Bd k m) (hm : m ≤ n) : Bd k n := by
  have := bd_mul h (show Bd 1 (n - m) by unfold Bd; rw [Nat.one_mul]; exact Nat.pow_le_pow_left (by decide) _)
  rw [Nat.mul_one, show m + (n - m) = n by omega] at this
  exact this
theorem bd_fork {t m k : Nat} (h : t * 2 ^ (m - k) ≤ k * 3 ^ (m - k)) (hk : k ≤ m) : Bd t m := by
  unfold Bd
  have h3 := Nat.le_of_lt (two_three k)
  have e1 : 2 ^ m = 2 ^ (m - k) * 2 ^ k := by rw [← Nat.pow_add]; congr 1; omega
  have e2 : 3 ^ m = 3 ^ (m - k) * 3 ^ k := by rw [← Nat.pow_add]; congr 1; omega
  rw [e1, e2, ← Nat.mul_assoc]
  refine Nat.le_trans (Nat.mul_le_mul_right _ h) ?_
  rw [Nat.mul_comm k, Nat.mul_assoc]
  exact Nat.mul_le_mul_left _ h3
theorem bd_small {k m : Nat} (h : Bd k m) (hm : m ≤ 16) : k ≤ 656 := by
  have h := bd_mono h hm
  unfold Bd at h
  have e1 : (2 : Nat) ^ 16 = 65536 := by decide
  have e2 : (3 : Nat) ^ 16 = 43046721 := by decide
  rw [e1, e2] at h
  omega
end Mi
end

section
set_option autoImplicit false
set_option linter.all false
namespace Mi
section
variable {nr : Nat → Nat}
theorem sd_zero (a : Nat) : sd 0 a = 0 := zero_of fun i => by rw [tb_sd, Nat.zero_testBit]; rfl
theorem sd_lt {f q : Nat} (h : f.testBit q = true) : sd f (1 <<< q) < f := by
  have e := sub_and f (1 <<< q)
  have p : f &&& 1 <<< q ≠ 0 := fun z => by
    have : (f &&& 1 <<< q).testBit q = false := by rw [z, Nat.zero_testBit]
    rw [Nat.testBit_and, h, tb_one] at this
    simp at this
  have := and_le f (1 <<< q)
  omega
theorem sd_le (f g : Nat) : sd f g ≤ f := by
  have e := sub_and f g
  omega
theorem no_bit {i : Nat} {p : Prop} (h : (0 : Nat).testBit i = true) : p := by
  rw [Nat.zero_testBit] at h
  cases h
theorem sol_empty (f : Nat) : Sol nr 0 0 0 := ⟨fun p h => no_bit h, fun p h => no_bit h, fun p h => no_bit h⟩
theorem sol_exists (G : Gr nr) (f : Nat) : ∃ c, Sol nr f 0 c := by
  induction f using Nat.strongRecOn with
  | _ f ih =>
    by_cases h : f = 0
    · subst h
      exact ⟨0, sol_empty 0⟩
    · obtain ⟨q, hq⟩ := tb_of_ne h
      obtain ⟨c, hc⟩ := ih (sd (sd f (1 <<< q)) (nr q)) (Nat.lt_of_le_of_lt (sd_le _ _) (sd_lt hq))
      have cq : c.testBit q = false := by
        cases y : c.testBit q with
        | false => rfl
        | true =>
          have := hc.sub q y
          rw [tb_sd, tb_sd, tb_one] at this
          simp at this
      refine ⟨c ||| 1 <<< q, (sol_in G hq cq).mp ?_⟩
      rw [sd_zero]
      exact hc
/-- no part of p is tied to one of q -/
def Apart (nr : Nat → Nat) (p q : Nat) : Prop := ∀ i j, p.testBit i = true → q.testBit j = true → (nr i).testBit j = false
theorem sol_join {p q a b : Nat} (G : Gr nr) (dj : p &&& q = 0) (ap : Apart nr p q) (ha : Sol nr p 0 a) (hb : Sol nr q 0 b) : Sol nr (p ||| q) 0 (a ||| b) := by
  have ap2 : ∀ i j, q.testBit i = true → p.testBit j = true → (nr i).testBit j = false := fun i j hi hj => by
    cases y : (nr i).testBit j with
    | false => rfl
    | true =>
      have := ap j i hj hi
      rw [G.sym i j y] at this
      cases this
  have nz : ∀ i, p.testBit i = true → q.testBit i = true → False := fun i h1 h2 => by
    have : (p &&& q).testBit i = false := by rw [dj, Nat.zero_testBit]
    rw [Nat.testBit_and, h1, h2] at this
    cases this
  refine ⟨fun i h => ?_, fun i h => ?_, fun i h => by rw [Nat.zero_testBit] at h; cases h⟩
  · rw [Nat.testBit_or] at h ⊢
    rcases Bool.or_eq_true_iff.mp h with h | h
    · rw [ha.sub i h]; rfl
    · rw [hb.sub i h]; simp
  · rw [Nat.testBit_or] at h
    rcases Bool.or_eq_true_iff.mp h with h | h
    · have b0 : b.testBit i = false := by
        cases y : b.testBit i with
        | false => rfl
        | true => exact (nz i h (hb.sub i y)).elim
      rw [Nat.testBit_or, b0, Bool.or_false, ha.free i h]
      constructor
      · intro z j hj
        have bj : b.testBit j = false := by
          cases y : b.testBit j with
          | false => rfl
          | true =>
            rw [ap i j h (hb.sub j y)] at hj
            cases hj
        rw [Nat.testBit_or, z j hj, bj]; rfl
      · intro z j hj
        have := z j hj
        rw [Nat.testBit_or] at this
        exact (Bool.or_eq_false_iff.mp this).1
    · have a0 : a.testBit i = false := by
        cases y : a.testBit i with
        | false => rfl
        | true => exact (nz i (ha.sub i y) h).elim
      rw [Nat.testBit_or, a0, Bool.false_or, hb.free i h]
      constructor
      · intro z j hj
        have aj : a.testBit j = false := by
          cases y : a.testBit j with
          | false => rfl
          | true =>
            rw [ap2 i j h (ha.sub j y)] at hj
            cases hj
        rw [Nat.testBit_or, z j hj, aj]; rfl
      · intro z j hj
        have := z j hj
        rw [Nat.testBit_or] at this
        exact (Bool.or_eq_false_iff.mp this).2
theorem sol_split {p q c : Nat} (G : Gr nr) (ap : Apart nr p q) (h : Sol nr (p ||| q) 0 c) : Sol nr p 0 (c &&& p) := by
  refine ⟨fun i z => ?_, fun i z => ?_, fun i h => by rw [Nat.zero_testBit] at h; cases h⟩
  · rw [Nat.testBit_and] at z
    exact (Bool.and_eq_true_iff.mp z).2
  · rw [Nat.testBit_and, z, Bool.and_true, h.free i (by rw [Nat.testBit_or, z]; rfl)]
    constructor
    · intro y j hj
      rw [Nat.testBit_and, y j hj]; rfl
    · intro y j hj
      have := y j hj
      rw [Nat.testBit_and] at this
      cases cj : c.testBit j with
      | false => rfl
      | true =>
        rw [cj, Bool.true_and] at this
        have u := h.sub j cj
        rw [Nat.testBit_or, this, Bool.false_or] at u
        rw [ap i j z u] at hj
        cases hj
theorem Apart.symm {p q : Nat} (G : Gr nr) (ap : Apart nr p q) : Apart nr q p := fun i j hi hj => by
  cases y : (nr i).testBit j with
  | false => rfl
  | true =>
    have := ap j i hj hi
    rw [G.sym i j y] at this
    cases this
end

/-! ### the order of lots -/
def lx : List Nat → List Nat → Bool
  | [], [] => false
  | [], _ :: _ => true
  | _ :: _, [] => false
  | x :: xs, y :: ys => if x = y then lx xs ys else decide (x < y)
theorem lx_irr : ∀ l : List Nat, lx l l = false
  | [] => rfl
  | x :: l => by show (if x = x then lx l l else decide (x < x)) = false; rw [if_pos rfl]; exact lx_irr l
theorem lx_asym : ∀ l m : List Nat, lx l m = true → lx m l = false
  | [], [], h => by cases h
  | [], y :: m, _ => rfl
  | x :: l, [], h => by cases h
  | x :: l, y :: m, h => by
    have h : (if x = y then lx l m else decide (x < y)) = true := h
    show (if y = x then lx m l else decide (y < x)) = false
    by_cases e : x = y
    · rw [if_pos e] at h; rw [if_pos e.symm]; exact lx_asym l m h
    · rw [if_neg e] at h; rw [if_neg (Ne.symm e)]
      have := of_decide_eq_true h
      exact decide_eq_false (by omega)
theorem lx_tot : ∀ l m : List Nat, lx l m = false → lx m l = false → l = m
  | [], [], _, _ => rfl
  | [], y :: m, h, _ => by cases h
  | x :: l, [], _, h => by cases h
  | x :: l, y :: m, h, h' => by
    have h : (if x = y then lx l m else decide (x < y)) = false := h
    have h' : (if y = x then lx m l else decide (y < x)) = false := h'
    by_cases e : x = y
    · rw [if_pos e] at h; rw [if_pos e.symm] at h'; rw [e, lx_tot l m h h']
    · rw [if_neg e] at h; rw [if_neg (Ne.symm e)] at h'
      have a := of_decide_eq_false h
      have b := of_decide_eq_false h'
      omega
theorem lx_ntr : ∀ l m n : List Nat, lx m l = false → lx n m = false → lx n l = false
  | [], m, [], _, _ => rfl
  | [], [], z :: n, _, h => h
  | [], y :: m, z :: n, _, _ => rfl
  | x :: l, [], _, h, _ => by cases h
  | x :: l, y :: m, [], _, h => by cases h
  | x :: l, y :: m, z :: n, h, h' => by
    have h : (if y = x then lx m l else decide (y < x)) = false := h
    have h' : (if z = y then lx n m else decide (z < y)) = false := h'
    show (if z = x then lx n l else decide (z < x)) = false
    by_cases e : y = x
    · rw [if_pos e] at h
      by_cases e' : z = y
      · rw [if_pos e'] at h'; rw [if_pos (e'.trans e)]; exact lx_ntr l m n h h'
      · rw [if_neg e'] at h'; rw [if_neg (fun q => e' (q.trans e.symm))]; rw [← e]; exact h'
    · rw [if_neg e] at h
      have a := of_decide_eq_false h
      by_cases e' : z = y
      · rw [if_neg (fun q => e (e'.symm.trans q)), e']; exact h
      · rw [if_neg e'] at h'
        have b := of_decide_eq_false h'
        rw [if_neg (by omega)]
        exact decide_eq_false (by omega)
theorem lx_first : ∀ (l m : List Nat) (k : Nat), Asc l → Asc m → l.length = m.length → k ∈ l → ¬ k ∈ m → (∀ j, j < k → (j ∈ l ↔ j ∈ m)) → lx l m = true
  | [], _, _, _, _, _, h, _, _ => by cases h
  | x :: l, [], _, _, _, h, _, _, _ => by cases h
  | x :: l, y :: m, k, hl, hm, hn, h1, h2, h3 => by
    obtain ⟨l1, l2⟩ := List.pairwise_cons.mp hl
    obtain ⟨m1, m2⟩ := List.pairwise_cons.mp hm
    show (if x = y then lx l m else decide (x < y)) = true
    have kx : x ≤ k := by
      rcases List.mem_cons.mp h1 with e | e
      · omega
      · exact Nat.le_of_lt (l1 k e)
    by_cases e : x = y
    · rw [if_pos e]
      subst e
      have kne : k ≠ x := fun z => h2 (z ▸ List.mem_cons_self)
      refine lx_first l m k l2 m2 (Nat.succ.inj hn) ((List.mem_cons.mp h1).resolve_left kne) (fun z => h2 (List.mem_cons_of_mem _ z)) fun j hj => ?_
      have := h3 j hj
      rw [List.mem_cons, List.mem_cons] at this
      by_cases jx : j = x
      · subst jx
        exact ⟨fun z => absurd (l1 j z) (Nat.lt_irrefl _), fun z => absurd (m1 j z) (Nat.lt_irrefl _)⟩
      · exact ⟨fun z => (this.mp (.inr z)).resolve_left jx, fun z => (this.mpr (.inr z)).resolve_left jx⟩
    · rw [if_neg e]
      refine decide_eq_true ?_
      by_cases q : x < y
      · exact q
      · have yx : y < x := by omega
        have := (h3 y (by omega)).mpr List.mem_cons_self
        rcases List.mem_cons.mp this with z | z
        · omega
        · have := l1 y z; omega
/-- the first part in which they differ is of x -/
def dl (x y : Nat) : Prop := ∃ k, (∀ j, j < k → x.testBit j = y.testBit j) ∧ x.testBit k = true ∧ y.testBit k = false
theorem lx_of_dl {x y : Nat} (h : pc x = pc y) (d : dl x y) : lx (lot x) (lot y) = true := by
  obtain ⟨k, h1, h2, h3⟩ := d
  refine lx_first _ _ k (lot_asc x) (lot_asc y) h (mem_lot.mpr h2) (fun z => ?_) fun j hj => ?_
  · rw [mem_lot, h3] at z; cases z
  · rw [mem_lot, mem_lot, h1 j hj]
theorem dl_tot {x y : Nat} (h : x ≠ y) : dl x y ∨ dl y x := by
  have : ∃ k, x.testBit k ≠ y.testBit k := Classical.byContradiction fun z => h (ext fun i => Classical.byContradiction fun q => z ⟨i, q⟩)
  have least : ∃ k, x.testBit k ≠ y.testBit k ∧ ∀ j, j < k → x.testBit j = y.testBit j := by
    obtain ⟨k, hk⟩ := this
    induction k using Nat.strongRecOn with
    | _ k ih =>
      by_cases q : ∃ j, j < k ∧ x.testBit j ≠ y.testBit j
      · obtain ⟨j, hj, n⟩ := q
        exact ih j hj n
      · exact ⟨k, hk, fun j hj => Classical.byContradiction fun n => q ⟨j, hj, n⟩⟩
  obtain ⟨k, hk, hj⟩ := least
  cases a : x.testBit k <;> cases b : y.testBit k <;> rw [a, b] at hk
  · exact absurd rfl hk
  · exact .inr ⟨k, fun j z => (hj j z).symm, b, a⟩
  · exact .inl ⟨k, hj, a, b⟩
  · exact absurd rfl hk
theorem dl_of_lx {x y : Nat} (h : pc x = pc y) (l : lx (lot x) (lot y) = true) : dl x y := by
  have ne : x ≠ y := fun e => by
    rw [e, lx_irr] at l; cases l
  rcases dl_tot ne with d | d
  · exact d
  · have := lx_of_dl h.symm d
    rw [lx_asym _ _ this] at l; cases l
/-- a stands ahead of b: fewer (sign 1) or more (sign -1) parts, then the order -/
def ahead (g : Int) (a b : List Nat) : Bool := decide (g * a.length < g * b.length) || (decide (g * a.length = g * b.length) && lx a b)
theorem ahead_false {g : Int} {a b : List Nat} : ahead g a b = false ↔ g * (b.length : Int) ≤ g * a.length ∧ (g * (a.length : Int) = g * b.length → lx a b = false) := by
  unfold ahead
  rw [Bool.or_eq_false_iff, decide_eq_false_iff_not, Bool.and_eq_false_iff, decide_eq_false_iff_not]
  constructor
  · rintro ⟨h1, h2⟩
    refine ⟨by omega, fun e => h2.resolve_left fun z => z e⟩
  · rintro ⟨h1, h2⟩
    refine ⟨by omega, ?_⟩
    by_cases e : g * (a.length : Int) = g * b.length
    · exact .inr (h2 e)
    · exact .inl e
theorem ahead_irr (g : Int) (a : List Nat) : ahead g a a = false := ahead_false.mpr ⟨Int.le_refl _, fun _ => lx_irr a⟩
theorem ahead_asym {g : Int} {a b : List Nat} (h : ahead g a b = true) : ahead g b a = false := by
  refine ahead_false.mpr ?_
  unfold ahead at h
  rcases Bool.or_eq_true_iff.mp h with h | h
  · have := of_decide_eq_true h
    exact ⟨by omega, fun e => by omega⟩
  · obtain ⟨h1, h2⟩ := Bool.and_eq_true_iff.mp h
    have := of_decide_eq_true h1
    exact ⟨by omega, fun _ => lx_asym _ _ h2⟩
theorem ahead_tot {g : Int} {a b : List Nat} (h : ahead g a b = false) (h' : ahead g b a = false) : a = b := by
  obtain ⟨a1, a2⟩ := ahead_false.mp h
  obtain ⟨b1, b2⟩ := ahead_false.mp h'
  exact lx_tot _ _ (a2 (by omega)) (b2 (by omega))
theorem ahead_ntr {g : Int} {a b c : List Nat} (h : ahead g b a = false) (h' : ahead g c b = false) : ahead g c a = false := by
  obtain ⟨a1, a2⟩ := ahead_false.mp h
  obtain ⟨b1, b2⟩ := ahead_false.mp h'
  refine ahead_false.mpr ⟨by omega, fun e => ?_⟩
  exact lx_ntr _ _ _ (a2 (by omega)) (b2 (by omega))

/-! ### the best rest -/
structure Best (nr : Nat → Nat) (f : Nat) (g : Int) (m : Nat) : Prop where
  sol : Sol nr f 0 m
  le : ∀ c, Sol nr f 0 c → ahead g (lot c) (lot m) = false
theorem Best.uniq {nr : Nat → Nat} {f m m' : Nat} {g : Int} (h : Best nr f g m) (h' : Best nr f g m') : m = m' := lot_inj (ahead_tot (h'.le m h.sol) (h.le m' h'.sol))
theorem best_empty (nr : Nat → Nat) (g : Int) : Best nr 0 g 0 := ⟨sol_empty 0, fun c h => by
  have : c = 0 := zero_of fun i => by
    cases y : c.testBit i with
    | false => rfl
    | true =>
      have := h.sub i y
      rw [Nat.zero_testBit] at this; cases this
  rw [this]
  exact ahead_irr g _⟩
theorem and_of_or {c p q : Nat} (h : ∀ i, c.testBit i = true → (p ||| q).testBit i = true) : c = (c &&& p) ||| (c &&& q) := ext fun i => by
  have := h i
  rw [Nat.testBit_or, Nat.testBit_and, Nat.testBit_and]
  rw [Nat.testBit_or] at this
  cases x : c.testBit i
  · rfl
  · have := this x
    revert this
    cases p.testBit i <;> cases q.testBit i <;> simp
theorem dj_and {p q a b : Nat} (dj : p &&& q = 0) (ha : ∀ i, a.testBit i = true → p.testBit i = true) (hb : ∀ i, b.testBit i = true → q.testBit i = true) : a &&& b = 0 := zero_of fun i => by
  have : (p &&& q).testBit i = false := by rw [dj, Nat.zero_testBit]
  rw [Nat.testBit_and] at this ⊢
  cases x : a.testBit i
  · rfl
  · cases y : b.testBit i
    · rfl
    · rw [ha i x, hb i y] at this; cases this
theorem best_join {nr : Nat → Nat} {p q A B : Nat} {g : Int} (G : Gr nr) (hg : g = 1 ∨ g = -1) (dj : p &&& q = 0) (ap : Apart nr p q) (hA : Best nr p g A) (hB : Best nr q g B) : Best nr (p ||| q) g (A ||| B) := by
  refine ⟨sol_join G dj ap hA.sol hB.sol, fun c hc => ?_⟩
  have sa := sol_split G ap hc
  have sb : Sol nr q 0 (c &&& q) := sol_split (q := p) G (ap.symm G) (by rw [Nat.or_comm]; exact hc)
  have ec := and_of_or hc.sub
  have d1 : (c &&& p) &&& (c &&& q) = 0 := dj_and dj sa.sub sb.sub
  have d2 : A &&& B = 0 := dj_and dj hA.sol.sub hB.sol.sub
  have pcc : pc c = pc (c &&& p) + pc (c &&& q) := (congrArg pc ec).trans (pc_or d1)
  have pcm := pc_or d2
  obtain ⟨a1, a2⟩ := ahead_false.mp (hA.le _ sa)
  obtain ⟨b1, b2⟩ := ahead_false.mp (hB.le _ sb)
  have l1 : ((lot c).length : Int) = ((lot (c &&& p)).length : Int) + ((lot (c &&& q)).length : Int) := by
    have : (lot c).length = (lot (c &&& p)).length + (lot (c &&& q)).length := pcc
    omega
  have l2 : ((lot (A ||| B)).length : Int) = ((lot A).length : Int) + ((lot B).length : Int) := by
    have : (lot (A ||| B)).length = (lot A).length + (lot B).length := pcm
    omega
  refine ahead_false.mpr ⟨?_, fun e => ?_⟩
  · rw [l1, l2, Int.mul_add, Int.mul_add]
    omega
  · rw [l1, l2, Int.mul_add, Int.mul_add] at e
    have e1 : g * ((lot (c &&& p)).length : Int) = g * (lot A).length := by omega
    have e2 : g * ((lot (c &&& q)).length : Int) = g * (lot B).length := by omega
    have f1 : pc (c &&& p) = pc A := by
      show (lot (c &&& p)).length = (lot A).length
      rcases hg with rfl | rfl <;> omega
    have f2 : pc (c &&& q) = pc B := by
      show (lot (c &&& q)).length = (lot B).length
      rcases hg with rfl | rfl <;> omega
    have a2 := a2 e1
    have b2 := b2 e2
    cases z : lx (lot c) (lot (A ||| B)) with
    | false => rfl
    | true =>
      obtain ⟨k, h1, h2, h3⟩ := dl_of_lx (by rw [pcc, pcm, f1, f2]) z
      have pj : ∀ j, j < k → (c &&& p).testBit j = A.testBit j := fun j hj => by
        have := h1 j hj
        rw [Nat.testBit_or] at this
        rw [Nat.testBit_and, this]
        cases x : A.testBit j with
        | true => rw [hA.sol.sub j x]; rfl
        | false =>
          cases y : B.testBit j with
          | false => rfl
          | true =>
            have u : (p &&& q).testBit j = false := by rw [dj, Nat.zero_testBit]
            rw [Nat.testBit_and, hB.sol.sub j y, Bool.and_true] at u
            rw [u]; rfl
      have qj : ∀ j, j < k → (c &&& q).testBit j = B.testBit j := fun j hj => by
        have := h1 j hj
        rw [Nat.testBit_or] at this
        rw [Nat.testBit_and, this]
        cases x : B.testBit j with
        | true => rw [hB.sol.sub j x]; simp
        | false =>
          cases y : A.testBit j with
          | false => rfl
          | true =>
            have u : (p &&& q).testBit j = false := by rw [dj, Nat.zero_testBit]
            rw [Nat.testBit_and, hA.sol.sub j y, Bool.true_and] at u
            rw [u]; rfl
      rw [Nat.testBit_or] at h3
      obtain ⟨n1, n2⟩ := Bool.or_eq_false_iff.mp h3
      have := hc.sub k h2
      rw [Nat.testBit_or] at this
      rcases Bool.or_eq_true_iff.mp this with w | w
      · have := lx_of_dl f1 ⟨k, pj, by rw [Nat.testBit_and, h2, w]; rfl, n1⟩
        rw [a2] at this; cases this
      · have := lx_of_dl f2 ⟨k, qj, by rw [Nat.testBit_and, h2, w]; rfl, n2⟩
        rw [b2] at this; cases this

/-! ### pieces -/
/-- a list of parts of f, closed under ties within f, one behind another -/
inductive Parts (nr : Nat → Nat) : Nat → List Nat → Prop
  | nil : Parts nr 0 []
  | cons {f p : Nat} {ps : List Nat} : p ≠ 0 → (∀ i, p.testBit i = true → f.testBit i = true) → (∀ i j, p.testBit i = true → (nr i).testBit j = true → f.testBit j = true → p.testBit j = true) → Parts nr (sd f p) ps → Parts nr f (p :: ps)
theorem sd_or {f p : Nat} (h : ∀ i, p.testBit i = true → f.testBit i = true) : p ||| sd f p = f := ext fun i => by
  have := h i
  rw [Nat.testBit_or, tb_sd]
  cases x : p.testBit i <;> cases y : f.testBit i <;> simp [x, y] at this ⊢
theorem sd_and (f p : Nat) : p &&& sd f p = 0 := zero_of fun i => by
  rw [Nat.testBit_and, tb_sd]
  cases p.testBit i <;> cases f.testBit i <;> rfl
/-- behind some of the pieces: what is done, what is left -/
structure Done (nr : Nat → Nat) (f d r : Nat) : Prop where
  or : d ||| r = f
  dj : d &&& r = 0
  ap : Apart nr d r
theorem Done.start (nr : Nat → Nat) (f : Nat) : Done nr f 0 f := ⟨Nat.zero_or f, Nat.zero_and f, fun i j h => by rw [Nat.zero_testBit] at h; cases h⟩
section
variable {nr : Nat → Nat} {f d r p m m' : Nat} {g : Int}
theorem Done.step (G : Gr nr) (D : Done nr f d r) (hp : ∀ i, p.testBit i = true → r.testBit i = true) (hc : ∀ i j, p.testBit i = true → (nr i).testBit j = true → r.testBit j = true → p.testBit j = true) :
    Done nr f (d ||| p) (sd r p) ∧ d &&& p = 0 ∧ Apart nr d p := by
  have dp : d &&& p = 0 := dj_and D.dj (fun _ h => h) hp
  refine ⟨⟨?_, ?_, ?_⟩, dp, fun i j hi hj => D.ap i j hi (hp j hj)⟩
  · rw [Nat.or_assoc, sd_or hp, D.or]
  · refine zero_of fun i => ?_
    have u : (d &&& r).testBit i = false := by rw [D.dj, Nat.zero_testBit]
    rw [Nat.testBit_and] at u
    rw [Nat.testBit_and, Nat.testBit_or, tb_sd]
    cases x : d.testBit i <;> cases y : r.testBit i <;> cases z : p.testBit i <;> simp [x, y, z] at u ⊢
  · intro i j hi hj
    rw [tb_sd] at hj
    simp at hj
    rw [Nat.testBit_or] at hi
    rcases Bool.or_eq_true_iff.mp hi with hi | hi
    · exact D.ap i j hi hj.1
    · cases y : (nr i).testBit j with
      | false => rfl
      | true =>
        have := hc i j hi y hj.1
        rw [hj.2] at this; cases this
theorem Done.best (G : Gr nr) (hg : g = 1 ∨ g = -1) (D : Done nr f d r) (hp : ∀ i, p.testBit i = true → r.testBit i = true) (hc : ∀ i j, p.testBit i = true → (nr i).testBit j = true → r.testBit j = true → p.testBit j = true)
    (hm : Best nr d g m) (hm' : Best nr p g m') : Done nr f (d ||| p) (sd r p) ∧ Best nr (d ||| p) g (m ||| m') := by
  obtain ⟨D', dp, ap⟩ := D.step G hp hc
  exact ⟨D', best_join G hg dp ap hm hm'⟩
end
end Mi
end

section
set_option autoImplicit false
set_option linter.all false
namespace Mi
def addTie (N : List Nat) (t : Nat × Nat) : List Nat :=
  (N.set t.1 (N.getD t.1 0 ||| 1 <<< t.2)).set t.2 ((N.set t.1 (N.getD t.1 0 ||| 1 <<< t.2)).getD t.2 0 ||| 1 <<< t.1)
def nearOf (n : Nat) (ts : List (Nat × Nat)) : List Nat := ts.foldl addTie (List.replicate n 0)
def nr (N : List Nat) (i : Nat) : Nat := N.getD i 0
theorem addTie_length (N : List Nat) (t : Nat × Nat) : (addTie N t).length = N.length := by
  unfold addTie
  rw [List.length_set, List.length_set]
theorem foldl_length (ts : List (Nat × Nat)) (N : List Nat) : (ts.foldl addTie N).length = N.length := by
  induction ts generalizing N with
  | nil => rfl
  | cons t ts ih => rw [List.foldl_cons, ih, addTie_length]
theorem nearOf_length (n : Nat) (ts : List (Nat × Nat)) : (nearOf n ts).length = n := by
  unfold nearOf
  rw [foldl_length, List.length_replicate]
theorem getD_set {N : List Nat} {i k v : Nat} (h : k < N.length) : (N.set k v).getD i 0 = if i = k then v else N.getD i 0 := by
  rw [List.getD_eq_getElem?_getD, List.getD_eq_getElem?_getD, List.getElem?_set]
  by_cases e : k = i
  · subst e
    rw [if_pos rfl, if_pos rfl, if_pos h]
    rfl
  · rw [if_neg e, if_neg (fun q => e q.symm)]
theorem tb_addTie {N : List Nat} {t : Nat × Nat} (h1 : t.1 < N.length) (h2 : t.2 < N.length) (i j : Nat) :
    ((addTie N t).getD i 0).testBit j = ((N.getD i 0).testBit j || (decide (i = t.1) && decide (j = t.2)) || (decide (i = t.2) && decide (j = t.1))) := by
  unfold addTie
  rw [getD_set (by rw [List.length_set]; exact h2), getD_set h1, getD_set h1]
  by_cases a : i = t.2
  · rw [if_pos a, Nat.testBit_or, tb_one]
    by_cases b : t.2 = t.1
    · rw [if_pos b, Nat.testBit_or, tb_one]
      have e1 : i = t.1 := a.trans b
      rw [e1]
      by_cases c : t.2 = j
      · subst c; simp [b]
      · have c' : ¬ j = t.2 := fun e => c e.symm
        by_cases d : t.1 = j
        · exact absurd (b.trans d) c
        · have d' : ¬ j = t.1 := fun e => d e.symm
          simp [c, c', d, d']
    · rw [if_neg b, a]
      have b' : ¬ t.2 = t.1 := b
      by_cases d : t.1 = j
      · subst d; simp [b]
      · have d' : ¬ j = t.1 := fun e => d e.symm
        simp [b, d, d']
  · rw [if_neg a]
    by_cases b : i = t.1
    · rw [if_pos b, Nat.testBit_or, tb_one]
      by_cases c : t.2 = j
      · subst c; simp [b]
      · have c' : ¬ j = t.2 := fun e => c e.symm
        rw [b] at a
        simp [b, c, c', a]
    · rw [if_neg b]
      simp [a, b]
theorem tb_foldT : ∀ (ts : List (Nat × Nat)) (N : List Nat), (∀ t ∈ ts, t.1 < N.length ∧ t.2 < N.length) → ∀ i j,
    ((ts.foldl addTie N).getD i 0).testBit j = ((N.getD i 0).testBit j || decide ((i, j) ∈ ts) || decide ((j, i) ∈ ts))
  | [], N, _, i, j => by simp
  | t :: ts, N, h, i, j => by
    obtain ⟨h1, h2⟩ := h t List.mem_cons_self
    have ih := tb_foldT ts (addTie N t) (fun u hu => by rw [addTie_length]; exact h u (List.mem_cons_of_mem _ hu)) i j
    rw [List.foldl_cons, ih, tb_addTie h1 h2, Bool.eq_iff_iff]
    obtain ⟨a, b⟩ := t
    simp only [Bool.or_eq_true, Bool.and_eq_true, decide_eq_true_eq, List.mem_cons, Prod.mk.injEq]
    constructor
    · rintro (((( h | ⟨rfl, rfl⟩) | ⟨rfl, rfl⟩) | h) | h)
      · exact .inl (.inl h)
      · exact .inl (.inr (.inl ⟨rfl, rfl⟩))
      · exact .inr (.inl ⟨rfl, rfl⟩)
      · exact .inl (.inr (.inr h))
      · exact .inr (.inr h)
    · rintro ((h | ⟨rfl, rfl⟩ | h) | ⟨rfl, rfl⟩ | h)
      · exact .inl (.inl (.inl (.inl h)))
      · exact .inl (.inl (.inl (.inr ⟨rfl, rfl⟩)))
      · exact .inl (.inr h)
      · exact .inl (.inl (.inr ⟨rfl, rfl⟩))
      · exact .inr h
def TiesIn (n : Nat) (ts : List (Nat × Nat)) : Prop := ∀ t ∈ ts, t.1 < t.2 ∧ t.2 < n
theorem tb_near {n : Nat} {ts : List (Nat × Nat)} (h : TiesIn n ts) (i j : Nat) : (nr (nearOf n ts) i).testBit j = (decide ((i, j) ∈ ts) || decide ((j, i) ∈ ts)) := by
  unfold nr nearOf
  rw [tb_foldT ts _ (fun t ht => by
    have := h t ht
    rw [List.length_replicate]
    omega)]
  have : (List.replicate n 0).getD i 0 = 0 := by
    rw [List.getD_eq_getElem?_getD, List.getElem?_replicate]
    by_cases q : i < n <;> simp [q]
  rw [this, Nat.zero_testBit, Bool.false_or]
theorem near_iff {n : Nat} {ts : List (Nat × Nat)} (h : TiesIn n ts) (i j : Nat) : (nr (nearOf n ts) i).testBit j = true ↔ (i, j) ∈ ts ∨ (j, i) ∈ ts := by
  rw [tb_near h]
  simp
/-- near is that of a web of n parts -/
structure Good (n : Nat) (N : List Nat) : Prop where
  len : N.length = n
  gr : Gr (nr N)
  lt : ∀ i, nr N i < 2 ^ n
theorem good_near {n : Nat} {ts : List (Nat × Nat)} (h : TiesIn n ts) : Good n (nearOf n ts) where
  len := nearOf_length n ts
  gr := ⟨fun p q z => (near_iff h q p).mpr ((near_iff h p q).mp z).symm, fun p => by
    cases y : (nr (nearOf n ts) p).testBit p with
    | false => rfl
    | true =>
      rcases (near_iff h p p).mp y with m | m
      · have := (h _ m).1; simp at this
      · have := (h _ m).1; simp at this⟩
  lt := fun i => lt_of_tb fun j hj => by
    rcases (near_iff h i j).mp hj with m | m
    · exact (h _ m).2
    · have := h _ m
      simp at this
      omega
/-- the order of ties -/
def tlt (s t : Nat × Nat) : Prop := s.1 < t.1 ∨ (s.1 = t.1 ∧ s.2 < t.2)
end Mi
end

section
set_option autoImplicit false
set_option linter.all false
namespace Mi
/-- all parts tied to some of m -/
def silm (N : List Nat) (m : Nat) : Nat := (lot m).foldl (fun r p => r ||| nr N p) 0
def orN (N : List Nat) (l : List Nat) : Nat := l.foldl (fun r p => r ||| nr N p) 0
theorem tb_orN (N : List Nat) (l : List Nat) (i : Nat) : (orN N l).testBit i = true ↔ ∃ p ∈ l, (nr N p).testBit i = true := by
  have : ∀ (l : List Nat) (r : Nat), (l.foldl (fun r p => r ||| nr N p) r).testBit i = true ↔ r.testBit i = true ∨ ∃ p ∈ l, (nr N p).testBit i = true := by
    intro l
    induction l with
    | nil => intro r; simp
    | cons a l ih =>
      intro r
      rw [List.foldl_cons, ih, Nat.testBit_or]
      simp [or_assoc]
  unfold orN
  rw [this, Nat.zero_testBit]
  simp
theorem orN_snoc (N : List Nat) (l : List Nat) (p : Nat) : orN N (l ++ [p]) = orN N l ||| nr N p := by unfold orN; rw [List.foldl_append]; rfl
theorem orN_take {N l : List Nat} {i p : Nat} (h : l[i]? = some p) : orN N (l.take (i + 1)) = orN N (l.take i) ||| nr N p := by
  rw [List.take_add_one, h]
  exact orN_snoc N _ p
theorem tb_silm (N : List Nat) (m i : Nat) : (silm N m).testBit i = true ↔ ∃ p, m.testBit p = true ∧ (nr N p).testBit i = true := by
  show (orN N (lot m)).testBit i = true ↔ _
  rw [tb_orN]
  constructor
  · rintro ⟨p, h, z⟩; exact ⟨p, mem_lot.mp h, z⟩
  · rintro ⟨p, h, z⟩; exact ⟨p, mem_lot.mpr h, z⟩
theorem tb_full (n i : Nat) : (2 ^ n - 1).testBit i = decide (i < n) := Nat.testBit_two_pow_sub_one n i
/-- a rest is what no call changes -/
theorem rest_iff {n : Nat} {N : List Nat} {c : Nat} (G : Good n N) (hc : c < 2 ^ n) : sd (2 ^ n - 1) (silm N c) = c ↔ Sol (nr N) (2 ^ n - 1) 0 c := by
  have key : ∀ p, (silm N c).testBit p = true ↔ ¬ ∀ q, (nr N p).testBit q = true → c.testBit q = false := fun p => by
    rw [tb_silm]
    constructor
    · rintro ⟨q, h1, h2⟩ z
      have := z q (G.gr.sym q p h2)
      rw [h1] at this
      cases this
    · intro z
      refine Classical.byContradiction fun y => z fun q hq => ?_
      cases x : c.testBit q with
      | false => rfl
      | true => exact absurd ⟨q, x, G.gr.sym p q hq⟩ y
  constructor
  · intro e
    have e' : ∀ p, c.testBit p = (decide (p < n) && !(silm N c).testBit p) := fun p => by
      have h := tb_sd (2 ^ n - 1) (silm N c) p
      rw [e, tb_full] at h
      exact h
    refine ⟨fun p h => ?_, fun p h => ?_, fun p h => no_bit h⟩
    · rw [tb_full]
      exact decide_eq_true (tb_lt h hc)
    · rw [tb_full] at h
      rw [e' p, h, Bool.true_and]
      have := key p
      cases x : (silm N c).testBit p with
      | false =>
        rw [x] at this
        simp
        refine Classical.byContradiction fun y => ?_
        have := this.mpr fun z => y fun q hq => by have := z q hq; simpa using this
        cases this
      | true =>
        rw [x] at this
        have := this.mp rfl
        simp
        refine Classical.byContradiction fun y => this fun q hq => ?_
        cases w : c.testBit q with
        | false => rfl
        | true => exact absurd ⟨q, hq, w⟩ y
  · intro h
    refine ext fun p => ?_
    rw [tb_sd, tb_full]
    by_cases hp : p < n
    · have f := h.free p (by rw [tb_full]; exact decide_eq_true hp)
      have k := key p
      rw [decide_eq_true hp, Bool.true_and]
      cases x : (silm N c).testBit p with
      | false =>
        rw [x] at k
        have : c.testBit p = true := f.mpr (Classical.byContradiction fun z => by
          have := k.mpr z
          cases this)
        rw [this]; rfl
      | true =>
        rw [x] at k
        cases y : c.testBit p with
        | false => rfl
        | true => exact absurd (f.mp y) (k.mp rfl)
    · rw [decide_eq_false hp]
      cases y : c.testBit p with
      | false => rfl
      | true => exact absurd (tb_lt y hc) hp
/-- behind a turn of piece_from's loop -/
structure Grow (N : List Nat) (b k found edge : Nat) : Prop where
  sub : ∀ i, found.testBit i = true → b.testBit i = true
  edg : ∀ i, edge.testBit i = true → found.testBit i = true
  has : found.testBit k = true
  clo : ∀ i j, found.testBit i = true → edge.testBit i = false → (nr N i).testBit j = true → b.testBit j = true → found.testBit j = true
theorem grow_start {N : List Nat} {b k : Nat} (h : b.testBit k = true) : Grow N b k (1 <<< k) (1 <<< k) where
  sub := fun i hi => by
    rw [tb_one] at hi
    have := of_decide_eq_true hi
    rw [← this]; exact h
  edg := fun i hi => hi
  has := by rw [tb_one]; simp
  clo := fun i j hi he => by rw [hi] at he; cases he
theorem grow_step {N : List Nat} {b k found edge : Nat} (g : Grow N b k found edge) : Grow N b k (found ||| sd (silm N edge &&& b) found) (sd (silm N edge &&& b) found) where
  sub := fun i hi => by
    rw [Nat.testBit_or, tb_sd, Nat.testBit_and] at hi
    rcases Bool.or_eq_true_iff.mp hi with h | h
    · exact g.sub i h
    · simp at h; exact h.1.2
  edg := fun i hi => by rw [Nat.testBit_or, hi, Bool.or_true]
  has := by rw [Nat.testBit_or, g.has]; rfl
  clo := fun i j hi he hn hb => by
    rw [Nat.testBit_or, he, Bool.or_false] at hi
    rw [Nat.testBit_or]
    cases x : found.testBit j with
    | true => rfl
    | false =>
      rw [Bool.false_or, tb_sd, x, Nat.testBit_and, hb]
      cases e : edge.testBit i with
      | false =>
        have := g.clo i j hi e hn hb
        rw [x] at this; cases this
      | true =>
        have := (tb_silm N edge j).mpr ⟨i, e, hn⟩
        rw [this]; rfl
theorem grow_less {N : List Nat} {b k found edge : Nat} (g : Grow N b k found edge) (ne : edge ≠ 0) :
    2 * (b - (found ||| sd (silm N edge &&& b) found)) + (if sd (silm N edge &&& b) found = 0 then 0 else 1) < 2 * (b - found) + (if edge = 0 then 0 else 1) := by
  have g' := grow_step g
  have le : found ||| sd (silm N edge &&& b) found ≤ b := by
    have e : b = (found ||| sd (silm N edge &&& b) found) ||| b := ext fun i => by
      rw [Nat.testBit_or]
      cases x : (found ||| sd (silm N edge &&& b) found).testBit i with
      | false => rfl
      | true => rw [g'.sub i x]; rfl
    exact Nat.le_trans Nat.left_le_or (Nat.le_of_eq e.symm)
  rw [if_neg ne]
  by_cases z : sd (silm N edge &&& b) found = 0
  · rw [z, Nat.or_zero, if_pos rfl]
    omega
  · rw [if_neg z]
    have d : found &&& sd (silm N edge &&& b) found = 0 := sd_and _ _
    have : found < found ||| sd (silm N edge &&& b) found := by
      obtain ⟨i, hi⟩ := tb_of_ne z
      have l : found ≤ found ||| sd (silm N edge &&& b) found := Nat.left_le_or
      refine Nat.lt_of_le_of_ne l fun e => ?_
      have : found.testBit i = true := by rw [e, Nat.testBit_or, hi, Bool.or_true]
      rw [tb_sd, this] at hi
      simp at hi
    omega
theorem grow_end {N : List Nat} {b k found : Nat} (g : Grow N b k found 0) : ∀ i j, found.testBit i = true → (nr N i).testBit j = true → b.testBit j = true → found.testBit j = true :=
  fun i j h1 h2 h3 => g.clo i j h1 (Nat.zero_testBit i) h2 h3
theorem sd_lt_of {f p : Nat} (h0 : p ≠ 0) (h : ∀ i, p.testBit i = true → f.testBit i = true) : sd f p < f := by
  have e := sub_and f p
  have : f &&& p = p := ext fun i => by
    rw [Nat.testBit_and]
    cases x : p.testBit i with
    | false => rw [Bool.and_false]
    | true => rw [h i x]; rfl
  rw [this] at e
  have l : p ≤ f := by
    have := and_le f p
    rw [‹f &&& p = p›] at this
    exact this
  omega
theorem lt_of_sub {a f n : Nat} (hf : f < 2 ^ n) (h : ∀ i, a.testBit i = true → f.testBit i = true) : a < 2 ^ n := lt_of_tb fun i hi => tb_lt (h i hi) hf
theorem lt24 {m n : Nat} (h : m < 2 ^ n) (hn : n ≤ 24) : m < 2 ^ 24 := Nat.lt_of_lt_of_le h (Nat.pow_le_pow_right (by decide) hn)
theorem nb_lt {f n : Nat} (hf : f < 2 ^ n) (r : Nat → Nat) (p : Nat) : nb r f p < 2 ^ n := lt_of_sub hf fun i hi => by
  rw [tb_nb] at hi
  simp at hi
  exact hi.2
theorem mask_pos {b : Nat} (h : b ≠ 0) : ∃ k, b.testBit k = true ∧ ∀ i, i < k → b.testBit i = false := by
  obtain ⟨k, m, e⟩ := low_form b h
  obtain ⟨h1, h2, _⟩ := low_bits e
  exact ⟨k, h1, h2⟩
end Mi
end

section
set_option autoImplicit false
set_option linter.all false
namespace Mi
structure Fine (n : Nat) (it : Item) : Prop where
  dj : it.ch &&& it.fr = 0
  c : it.ch < 2 ^ n
  f : it.fr < 2 ^ n
  s : it.sh < 2 ^ n
structure Run (nr : Nat → Nat) (n : Nat) (it0 : Item) (its : List Item) (fnd : List Nat) : Prop where
  cnt : ∀ c, fnd.count c + ways nr its c = one (Ext nr it0 c)
  wgt : fnd.length * 2 ^ 24 + wts its ≤ wt (pc it0.fr)
  fine : ∀ it ∈ its, Fine n it
section
variable {nr : Nat → Nat} {n b : Nat} {it0 it : Item} {its : List Item} {fnd : List Nat}
theorem Run.start (h : Fine n it0) : Run nr n it0 [it0] [] where
  cnt := fun c => by rw [ways_cons, ways_nil, List.count_nil]; omega
  wgt := by rw [wts_cons, wts_nil]; simp
  fine := fun it hi => by rw [List.mem_singleton.mp hi]; exact h
theorem wt_zero : wt 0 = 2 ^ 24 := by unfold wt; rw [Nat.pow_zero, Nat.one_mul]
theorem Run.leaf {c : Nat} (R : Run nr n it0 (its ++ [⟨c, 0, 0⟩]) fnd) : Run nr n it0 its (fnd ++ [c]) where
  cnt := fun d => by
    have h := R.cnt d
    rw [ways_append, ways_cons, ways_nil] at h
    rw [List.count_append, List.count_singleton, ← h]
    by_cases e : d = c
    · rw [one_t ((ext_leaf nr c d).mpr e), e]; simp; omega
    · rw [one_f (fun z => e ((ext_leaf nr c d).mp z))]
      have : ¬ (c == d) = true := by simp; exact fun z => e z.symm
      rw [if_neg this]; omega
  wgt := by
    have h := R.wgt
    rw [wts_append, wts_cons, wts_nil] at h
    have e : pc (Item.mk c 0 0).fr = 0 := pc_zero
    rw [e, wt_zero] at h
    rw [List.length_append, List.length_singleton]
    generalize 2 ^ 24 = z at *
    rw [Nat.add_mul, Nat.one_mul]
    omega
  fine := fun it hi => R.fine it (List.mem_append_left _ hi)
theorem kid_fine {b : Nat} (h : Fine n it) (F : Fork nr it.fr it.sh b) {f s : Nat} : ∀ {qs : List Nat}, (∀ q ∈ qs, it.fr.testBit q = true) → (∀ i, f.testBit i = true → it.fr.testBit i = true) → s < 2 ^ n → ∀ k ∈ kids nr it.ch f s qs, Fine n k := by
  intro qs
  induction qs generalizing f s with
  | nil => intro _ _ _ k hk; cases hk
  | cons q qs ih =>
    intro hq hf hs k hk
    have q1 := hq q List.mem_cons_self
    have qn : q < n := tb_lt q1 h.f
    have p1 : 1 <<< q < 2 ^ n := by rw [Nat.one_shiftLeft]; exact Nat.pow_lt_pow_right (by decide) qn
    rcases List.mem_cons.mp hk with e | hk
    · subst e
      refine ⟨?_, Nat.or_lt_two_pow h.c p1, ?_, ?_⟩
      · refine zero_of fun i => ?_
        have u : (it.ch &&& it.fr).testBit i = false := by rw [h.dj, Nat.zero_testBit]
        rw [Nat.testBit_and] at u
        rw [Nat.testBit_and, Nat.testBit_or, tb_sd, tb_sd, tb_one]
        have := hf i
        by_cases e : q = i
        · subst e; simp
        · simp [e]
          intro hc hfi
          rw [hc, this hfi] at u
          cases u
      · refine lt_of_sub h.f fun i hi => ?_
        rw [tb_sd, tb_sd] at hi
        simp only [Bool.and_eq_true] at hi
        exact hf i hi.1.1
      · refine lt_of_sub hs fun i hi => ?_
        rw [tb_sd] at hi
        simp only [Bool.and_eq_true] at hi
        exact hi.1
    · refine ih (fun r hr => hq r (List.mem_cons_of_mem _ hr)) (fun i hi => ?_) (Nat.or_lt_two_pow hs p1) k hk
      rw [tb_sd] at hi
      simp only [Bool.and_eq_true] at hi
      exact hf i hi.1
theorem Run.fork (G : Gr nr) (hn : n ≤ 24) (R : Run nr n it0 (its ++ [it]) fnd) (F : Fork nr it.fr it.sh b) :
    Run nr n it0 (its ++ kids nr it.ch it.fr it.sh (lot b)) fnd ∧ wts (its ++ kids nr it.ch it.fr it.sh (lot b)) < wts (its ++ [it]) := by
  have fi := R.fine it (List.mem_append_right _ List.mem_cons_self)
  have lt := kids_wts F (ch := it.ch) (show pc it.fr ≤ 24 from Nat.le_trans (pc_le fi.f) hn)
  refine ⟨⟨fun c => ?_, ?_, fun k hk => ?_⟩, ?_⟩
  · have h := R.cnt c
    rw [ways_append, ways_cons, ways_nil] at h
    rw [ways_append, fork_ways G F fi.dj c]
    exact h
  · have h := R.wgt
    rw [wts_append, wts_cons, wts_nil] at h
    rw [wts_append]
    omega
  · rcases List.mem_append.mp hk with hk | hk
    · exact R.fine k (List.mem_append_left _ hk)
    · exact kid_fine fi F (fun q hq => F.sub (mem_lot.mp hq)) (fun _ h => h) fi.s k hk
  · rw [wts_append, wts_append, wts_cons, wts_nil]
    omega
theorem Run.few (R : Run nr n it0 its fnd) (h0 : pc it0.fr ≤ 24) (hn : n ≤ 24) : fnd.length + its.length ≤ 16834 := by
  have h1 := R.wgt
  have h2 := wts_len (l := its) fun it hi => Nat.le_trans (pc_le (R.fine it hi).f) hn
  have h3 := wt_mono h0 (Nat.le_refl 24)
  have h4 : wt 24 = 282429536481 := by decide
  have h5 : (2 : Nat) ^ 24 = 16777216 := by decide
  rw [h4] at h3
  rw [h5] at h1 h2
  omega
theorem Run.nodup (R : Run nr n it0 [] fnd) : fnd.Nodup := by
  rw [List.nodup_iff_count]
  intro c
  have h := R.cnt c
  rw [ways_nil] at h
  unfold one at h
  split at h <;> omega
theorem Run.mem (R : Run nr n it0 [] fnd) (c : Nat) : c ∈ fnd ↔ Ext nr it0 c := by
  rw [← List.count_pos_iff]
  have h := R.cnt c
  rw [ways_nil] at h
  by_cases e : Ext nr it0 c
  · rw [one_t e] at h
    exact ⟨fun _ => e, fun _ => by omega⟩
  · rw [one_f e] at h
    exact ⟨fun z => by omega, fun z => absurd z e⟩
end
theorem ext_zero {nr : Nat → Nat} {f c : Nat} : Ext nr ⟨0, f, 0⟩ c ↔ Sol nr f 0 c := by
  constructor
  · rintro ⟨d, h, e⟩
    have e : c = 0 ||| d := e
    rw [e, Nat.zero_or]
    exact h
  · intro h
    exact ⟨c, h, (Nat.zero_or c).symm⟩
theorem sd_z (f : Nat) : sd f 0 = f := ext fun i => by rw [tb_sd, Nat.zero_testBit]; simp
theorem silm_zero (N : List Nat) : silm N 0 = 0 := rfl
/-- all rests of the parts f, each once -/
structure Lists (nr : Nat → Nat) (f : Nat) (l : List Nat) : Prop where
  nd : l.Nodup
  mem : ∀ c, c ∈ l ↔ Sol nr f 0 c
  few : l.length ≤ 16834
/-- fork's loop -/
structure Least (nr : Nat → Nat) (f : Nat) (l : List Nat) (b : Nat) : Prop where
  ex : ∃ p ∈ l, b = nb nr f p
  le : ∀ q ∈ l, pc b ≤ pc (nb nr f q)
theorem least_one (nr : Nat → Nat) (f p : Nat) : Least nr f [p] (nb nr f p) := ⟨⟨p, List.mem_cons_self, rfl⟩, fun q hq => by rw [List.mem_singleton.mp hq]; exact Nat.le_refl _⟩
theorem Least.yes {nr : Nat → Nat} {f b p : Nat} {l : List Nat} (L : Least nr f l b) (h : pc (nb nr f p) < pc b) : Least nr f (l ++ [p]) (nb nr f p) :=
  ⟨⟨p, List.mem_append_right _ List.mem_cons_self, rfl⟩, fun q hq => by
    rcases List.mem_append.mp hq with hq | hq
    · have := L.le q hq; omega
    · rw [List.mem_singleton.mp hq]; exact Nat.le_refl _⟩
theorem Least.no {nr : Nat → Nat} {f b p : Nat} {l : List Nat} (L : Least nr f l b) (h : ¬ pc (nb nr f p) < pc b) : Least nr f (l ++ [p]) b :=
  ⟨let ⟨q, hq, e⟩ := L.ex; ⟨q, List.mem_append_left _ hq, e⟩, fun q hq => by
    rcases List.mem_append.mp hq with hq | hq
    · exact L.le q hq
    · rw [List.mem_singleton.mp hq]; omega⟩
theorem Least.fork {nr : Nat → Nat} {f s b : Nat} (L : Least nr f (lot (f ||| s)) b) : Fork nr f s b :=
  ⟨let ⟨p, hp, e⟩ := L.ex; ⟨p, mem_lot.mp hp, e⟩, fun q hq => L.le q (mem_lot.mpr hq)⟩
end Mi
end

section
set_option autoImplicit false
set_option linter.all false
namespace Mi
/-- how many entries the counter makes at most -/
def ent (m : Nat) : Nat := 17 * (2 ^ m - 1)
theorem ent_zero : ent 0 = 0 := rfl
theorem ent_add (a b : Nat) : ent a + ent b ≤ ent (a + b) := by
  unfold ent
  have h1 := Nat.two_pow_pos a
  have h2 := Nat.two_pow_pos b
  rw [Nat.pow_add, ← Nat.mul_add]
  refine Nat.mul_le_mul_left _ ?_
  generalize 2 ^ a = x at *
  generalize 2 ^ b = y at *
  obtain ⟨x', rfl⟩ : ∃ x', x = x' + 1 := ⟨x - 1, by omega⟩
  obtain ⟨y', rfl⟩ : ∃ y', y = y' + 1 := ⟨y - 1, by omega⟩
  have : (x' + 1) * (y' + 1) = x' * y' + x' + y' + 1 := by
    rw [Nat.add_mul, Nat.mul_add, Nat.mul_one, Nat.one_mul]; omega
  rw [this]
  omega
theorem ent_mono {a b : Nat} (h : a ≤ b) : ent a ≤ ent b := by
  have := ent_add a (b - a)
  rw [show a + (b - a) = b by omega] at this
  omega
theorem k_pow : ∀ k : Nat, 2 * k ≤ 2 ^ k
  | 0 => by decide
  | 1 => by decide
  | k + 2 => by
    have := k_pow (k + 1)
    rw [Nat.pow_succ]
    omega
theorem ent_fork {m k : Nat} (h : k ≤ m) : k * (16 + ent (m - k)) ≤ ent m := by
  unfold ent
  have h1 := k_pow k
  have e : 2 ^ m = 2 ^ (m - k) * 2 ^ k := by rw [← Nat.pow_add]; congr 1; omega
  rw [e]
  have p := Nat.two_pow_pos (m - k)
  generalize 2 ^ (m - k) = x at *
  generalize hz : 2 ^ k = z at *
  obtain ⟨x', rfl⟩ : ∃ x', x = x' + 1 := ⟨x - 1, by omega⟩
  rw [Nat.add_sub_cancel]
  by_cases k0 : k = 0
  · subst k0; simp
  · have z1 : 2 ≤ z := by omega
    have a1 : k * (16 + 17 * x') = 16 * k + 17 * (k * x') := by
      rw [Nat.mul_add, Nat.mul_comm k 16, Nat.mul_left_comm]
    have a2 : (x' + 1) * z = x' * z + z := by rw [Nat.add_mul, Nat.one_mul]
    rw [a1, a2]
    have a3 : 2 * (k * x') ≤ x' * z := by
      have := Nat.mul_le_mul_right x' h1
      rw [Nat.mul_assoc, Nat.mul_comm z x'] at this
      exact this
    generalize k * x' = u at *
    generalize x' * z = v at *
    omega
theorem ent_16 : ent 16 = 1114095 := by decide
theorem parts_pc {nr : Nat → Nat} {f : Nat} {ps : List Nat} (h : Parts nr f ps) : ps.length ≤ pc f := by
  induction h with
  | nil => exact Nat.zero_le _
  | @cons f p ps p0 sub clo t ih =>
    have d := sd_and f p
    have e := pc_or d
    rw [sd_or sub] at e
    have := pc_pos p0
    rw [List.length_cons]
    omega
/-- the pieces, without what is tied -/
theorem parts_step {nr : Nat → Nat} {r p : Nat} {ps : List Nat} (h : Parts nr r (p :: ps)) : p ≠ 0 ∧ (∀ i, p.testBit i = true → r.testBit i = true) ∧ (∀ i j, p.testBit i = true → (nr i).testBit j = true → r.testBit j = true → p.testBit j = true) ∧ Parts nr (sd r p) ps := by
  cases h with
  | cons a b c d => exact ⟨a, b, c, d⟩
theorem pc_and_step {d p f r : Nat} (dj : d &&& r = 0) (sub : ∀ i, p.testBit i = true → r.testBit i = true) : pc ((d ||| p) &&& f) = pc (d &&& f) + pc (p &&& f) := by
  have e : (d ||| p) &&& f = (d &&& f) ||| (p &&& f) := ext fun i => by
    simp only [Nat.testBit_and, Nat.testBit_or]
    cases d.testBit i <;> cases p.testBit i <;> cases f.testBit i <;> rfl
  rw [e]
  refine pc_or (zero_of fun i => ?_)
  have u : (d &&& r).testBit i = false := by rw [dj, Nat.zero_testBit]
  have s := sub i
  simp only [Nat.testBit_and] at u ⊢
  cases a : d.testBit i <;> cases b : p.testBit i <;> cases c : f.testBit i <;> simp_all
theorem dj_step {d p r : Nat} (dj : d &&& r = 0) (sub : ∀ i, p.testBit i = true → r.testBit i = true) : (d ||| p) &&& sd r p = 0 := zero_of fun i => by
  have u : (d &&& r).testBit i = false := by rw [dj, Nat.zero_testBit]
  simp only [Nat.testBit_and, Nat.testBit_or, tb_sd] at u ⊢
  cases a : d.testBit i <;> cases b : p.testBit i <;> cases c : r.testBit i <;> simp_all
theorem pc_and_le (d f : Nat) : pc (d &&& f) ≤ pc f := pc_mono fun i h => by
  rw [Nat.testBit_and] at h
  exact (Bool.and_eq_true_iff.mp h).2
theorem bd_le {t m : Nat} (h : Bd t m) (hm : m ≤ 16) : t ≤ 656 := bd_small h hm
theorem and_split {p f s : Nat} (sub : ∀ i, p.testBit i = true → (f ||| s).testBit i = true) : (p &&& f) ||| (p &&& s) = p := ext fun i => by
  have := sub i
  simp only [Nat.testBit_and, Nat.testBit_or] at this ⊢
  cases a : p.testBit i <;> cases b : f.testBit i <;> cases c : s.testBit i <;> simp_all
/-- behind i branches of k: the total so far -/
theorem sum_bd {t i m : Nat} {u : Nat} (h : t * 2 ^ m ≤ i * 3 ^ m) (hu : Bd u m) : (t + u) * 2 ^ m ≤ (i + 1) * 3 ^ m := by
  unfold Bd at hu
  rw [Nat.add_mul, Nat.add_mul, Nat.one_mul]
  omega
end Mi
end

section
set_option autoImplicit false
set_option linter.all false
namespace Mi
def bestOf (g : Int) (c : Nat) (cs : List Nat) : Nat := cs.foldl (fun a y => if ahead g (lot y) (lot a) = true then y else a) c
theorem bestOf_spec (g : Int) : ∀ (cs : List Nat) (c : Nat) (seen : List Nat), (∀ e ∈ seen, ahead g (lot e) (lot c) = false) → c ∈ seen → bestOf g c cs ∈ seen ++ cs ∧ ∀ e ∈ seen ++ cs, ahead g (lot e) (lot (bestOf g c cs)) = false
  | [], c, seen, h, hc => by
    rw [List.append_nil]
    exact ⟨hc, h⟩
  | y :: cs, c, seen, h, hc => by
    have ih := bestOf_spec g cs (if ahead g (lot y) (lot c) = true then y else c) (seen ++ [y]) (fun e he => by
      by_cases z : ahead g (lot y) (lot c) = true
      · rw [if_pos z]
        rcases List.mem_append.mp he with he | he
        · exact ahead_ntr (ahead_asym z) (h e he)
        · rw [List.mem_singleton.mp he]
          exact ahead_irr g _
      · rw [if_neg z]
        rcases List.mem_append.mp he with he | he
        · exact h e he
        · rw [List.mem_singleton.mp he]
          simpa using z) (by
      by_cases z : ahead g (lot y) (lot c) = true
      · rw [if_pos z]
        exact List.mem_append_right _ List.mem_cons_self
      · rw [if_neg z]
        exact List.mem_append_left _ hc)
    rw [List.append_assoc] at ih
    exact ih
theorem bestOf_best {nr : Nat → Nat} {f : Nat} {g : Int} {c : Nat} {cs : List Nat} (L : Lists nr f (c :: cs)) : Best nr f g (bestOf g c cs) := by
  obtain ⟨h1, h2⟩ := bestOf_spec g cs c [c] (fun e he => by rw [List.mem_singleton.mp he]; exact ahead_irr g _) List.mem_cons_self
  exact ⟨(L.mem _).mp h1, fun d hd => h2 d ((L.mem d).mpr hd)⟩
theorem parts_nil {nr : Nat → Nat} {r : Nat} (h : Parts nr r []) : r = 0 := by
  cases h
  rfl
theorem lists_ne {nr : Nat → Nat} {f : Nat} {l : List Nat} (G : Gr nr) (L : Lists nr f l) : ∃ c cs, l = c :: cs := by
  obtain ⟨c, hc⟩ := sol_exists G f
  cases l with
  | nil => exact absurd ((L.mem c).mpr hc) (by simp)
  | cons a l => exact ⟨a, l, rfl⟩
end Mi
end

section
set_option autoImplicit false
set_option linter.all false
namespace Mi
/-! ### webs of one near list are of one kind -/
theorem sol_congr {nr nr' : Nat → Nat} {f c : Nat} (h : ∀ p, f.testBit p = true → nr p = nr' p) (S : Sol nr f 0 c) : Sol nr' f 0 c := by
  refine ⟨S.sub, fun p hp => ?_, fun p hp => by rw [Nat.zero_testBit] at hp; cases hp⟩
  rw [← h p hp]
  exact S.free p hp
theorem best_congr {nr nr' : Nat → Nat} {f m : Nat} {g : Int} (h : ∀ p, f.testBit p = true → nr p = nr' p) (B : Best nr f g m) : Best nr' f g m :=
  ⟨sol_congr h B.sol, fun c hc => B.le c (sol_congr (fun p hp => (h p hp).symm) hc)⟩
theorem full_tb (n i : Nat) : (2 ^ n - 1).testBit i = decide (i < n) := Nat.testBit_two_pow_sub_one n i
theorem tb_shl (b n j : Nat) : (b <<< n).testBit j = (decide (n ≤ j) && b.testBit (j - n)) := by
  rw [Nat.testBit_shiftLeft]
/-! ### moved on -/
section
variable {nr nr2 : Nat → Nat} {n f : Nat}
theorem sol_up (h : ∀ p, f.testBit p = true → ∀ q, (nr (p + n)).testBit q = (decide (n ≤ q) && (nr2 p).testBit (q - n))) {b : Nat} (S : Sol nr2 f 0 b) : Sol nr (f <<< n) 0 (b <<< n) := by
  refine ⟨fun p hp => ?_, fun p hp => ?_, fun p hp => by rw [Nat.zero_testBit] at hp; cases hp⟩
  · rw [tb_shl] at hp ⊢
    rw [Bool.and_eq_true] at hp ⊢
    exact ⟨hp.1, S.sub _ hp.2⟩
  · rw [tb_shl, Bool.and_eq_true, decide_eq_true_iff] at hp
    obtain ⟨k, rfl⟩ : ∃ k, p = k + n := ⟨p - n, by omega⟩
    rw [Nat.add_sub_cancel] at hp
    rw [tb_shl, Nat.add_sub_cancel, decide_eq_true (by omega : n ≤ k + n), Bool.true_and, S.free k hp.2]
    constructor
    · intro z q hq
      rw [h k hp.2, Bool.and_eq_true, decide_eq_true_iff] at hq
      rw [tb_shl, z _ hq.2, Bool.and_false]
    · intro z q hq
      have := z (q + n) (by rw [h k hp.2, Nat.add_sub_cancel, hq, decide_eq_true (by omega : n ≤ q + n)]; rfl)
      rw [tb_shl, Nat.add_sub_cancel, decide_eq_true (by omega : n ≤ q + n), Bool.true_and] at this
      exact this
theorem shr_shl {c : Nat} (hc : ∀ p, c.testBit p = true → (f <<< n).testBit p = true) : (c >>> n) <<< n = c := ext fun i => by
  rw [tb_shl, Nat.testBit_shiftRight]
  cases e : c.testBit i with
  | true =>
    have := hc i e
    rw [tb_shl, Bool.and_eq_true, decide_eq_true_iff] at this
    rw [decide_eq_true this.1, Bool.true_and, show n + (i - n) = i by omega, e]
  | false =>
    by_cases z : n ≤ i
    · rw [show n + (i - n) = i by omega, e, Bool.and_false]
    · rw [decide_eq_false z, Bool.false_and]
theorem sol_down (h : ∀ p, f.testBit p = true → ∀ q, (nr (p + n)).testBit q = (decide (n ≤ q) && (nr2 p).testBit (q - n))) {c : Nat} (S : Sol nr (f <<< n) 0 c) : Sol nr2 f 0 (c >>> n) := by
  have up : ∀ k, (f <<< n).testBit (k + n) = f.testBit k := fun k => by
    rw [tb_shl, Nat.add_sub_cancel, decide_eq_true (by omega : n ≤ k + n), Bool.true_and]
  refine ⟨fun p hp => ?_, fun p hp => ?_, fun p hp => by rw [Nat.zero_testBit] at hp; cases hp⟩
  · rw [Nat.testBit_shiftRight] at hp
    have := S.sub _ hp
    rw [Nat.add_comm, up] at this
    exact this
  · have := S.free (p + n) (by rw [up]; exact hp)
    rw [Nat.testBit_shiftRight, Nat.add_comm, this]
    constructor
    · intro z q hq
      rw [Nat.testBit_shiftRight, Nat.add_comm]
      exact z (q + n) (by rw [h p hp, Nat.add_sub_cancel, hq, decide_eq_true (by omega : n ≤ q + n)]; rfl)
    · intro z q hq
      rw [h p hp, Bool.and_eq_true, decide_eq_true_iff] at hq
      have := z _ hq.2
      rw [Nat.testBit_shiftRight, show n + (q - n) = q by omega] at this
      exact this
theorem lot_shl (b n : Nat) : lot (b <<< n) = (lot b).map (· + n) := by
  refine lot_of_asc (List.pairwise_map.mpr ((lot_asc b).imp fun {x y} h => by omega)) fun i => ?_
  rw [tb_shl, Bool.and_eq_true, decide_eq_true_iff, List.mem_map]
  constructor
  · rintro ⟨k, hk, rfl⟩
    rw [Nat.add_sub_cancel]
    exact ⟨by omega, mem_lot.mp hk⟩
  · rintro ⟨h1, h2⟩
    exact ⟨i - n, mem_lot.mpr h2, by omega⟩
theorem lx_map (n : Nat) : ∀ l m : List Nat, lx (l.map (· + n)) (m.map (· + n)) = lx l m
  | [], [] => rfl
  | [], _ :: _ => rfl
  | _ :: _, [] => rfl
  | x :: l, y :: m => by
    show (if x + n = y + n then lx (l.map (· + n)) (m.map (· + n)) else decide (x + n < y + n)) = if x = y then lx l m else decide (x < y)
    rw [lx_map n l m]
    by_cases h : x = y
    · rw [if_pos h, if_pos (by omega)]
    · rw [if_neg h, if_neg (by omega), Bool.eq_iff_iff, decide_eq_true_iff, decide_eq_true_iff]
      omega
theorem best_up {g : Int} (h : ∀ p, f.testBit p = true → ∀ q, (nr (p + n)).testBit q = (decide (n ≤ q) && (nr2 p).testBit (q - n))) {b : Nat} (B : Best nr2 f g b) : Best nr (f <<< n) g (b <<< n) := by
  refine ⟨sol_up h B.sol, fun c hc => ?_⟩
  have e := shr_shl hc.sub
  have := B.le _ (sol_down h hc)
  rw [← e, lot_shl, lot_shl]
  unfold ahead at this ⊢
  rw [List.length_map, List.length_map, lx_map]
  exact this
end
/-! ### two webs beside one another -/
structure Join (n m : Nat) (N1 N2 N : List Nat) : Prop where
  lo : ∀ p, p < n → nr N p = nr N1 p
  hi : ∀ p, ∀ q, (nr N (p + n)).testBit q = (decide (n ≤ q) && (nr N2 p).testBit (q - n))
theorem join_of {n m : Nat} {ts us ws : List (Nat × Nat)} (h1 : TiesIn n ts) (h2 : TiesIn m us) (h3 : TiesIn (n + m) ws) (hw : ∀ t, t ∈ ws ↔ t ∈ ts ∨ t ∈ us.map fun t => (t.1 + n, t.2 + n)) :
    Join n m (nearOf n ts) (nearOf m us) (nearOf (n + m) ws) := by
  have up : ∀ i j, (i, j) ∈ us.map (fun t => (t.1 + n, t.2 + n)) ↔ n ≤ i ∧ n ≤ j ∧ (i - n, j - n) ∈ us := fun i j => by
    rw [List.mem_map]
    constructor
    · rintro ⟨⟨a, b⟩, h, e⟩
      injection e with e1 e2
      simp only at e1 e2
      subst e1
      subst e2
      rw [Nat.add_sub_cancel, Nat.add_sub_cancel]
      exact ⟨by omega, by omega, h⟩
    · rintro ⟨a, b, h⟩
      exact ⟨_, h, by simp only; rw [show i - n + n = i by omega, show j - n + n = j by omega]⟩
  have lo : ∀ i j, (i, j) ∈ ts → i < n ∧ j < n := fun i j h => by
    have := h1 _ h
    simp only at this
    omega
  constructor
  · intro p hp
    refine ext fun q => Bool.eq_iff_iff.mpr ?_
    rw [near_iff h3, near_iff h1, hw, hw, up, up]
    constructor
    · rintro ((h | h) | (h | h))
      · exact .inl h
      · omega
      · exact .inr h
      · omega
    · rintro (h | h)
      · exact .inl (.inl h)
      · exact .inr (.inl h)
  · intro p q
    rw [Bool.eq_iff_iff, Bool.and_eq_true, decide_eq_true_iff, near_iff h3, near_iff h2, hw, hw, up, up, Nat.add_sub_cancel]
    constructor
    · rintro ((h | h) | (h | h))
      · have := lo _ _ h
        omega
      · exact ⟨h.2.1, .inl h.2.2⟩
      · have := lo _ _ h
        omega
      · exact ⟨h.1, .inr h.2.2⟩
    · rintro ⟨h, h' | h'⟩
      · exact .inl (.inr ⟨by omega, h, h'⟩)
      · exact .inr (.inr ⟨h, by omega, h'⟩)
section
variable {n m : Nat} {N1 N2 N : List Nat}
theorem full_or (n m : Nat) : (2 ^ n - 1) ||| (2 ^ m - 1) <<< n = 2 ^ (n + m) - 1 := ext fun i => by
  rw [Nat.testBit_or, tb_shl, full_tb, full_tb, full_tb, Bool.eq_iff_iff, Bool.or_eq_true, Bool.and_eq_true, decide_eq_true_iff, decide_eq_true_iff, decide_eq_true_iff, decide_eq_true_iff]
  omega
theorem full_dj (n m : Nat) : (2 ^ n - 1) &&& (2 ^ m - 1) <<< n = 0 := zero_of fun i => by
  rw [Nat.testBit_and, tb_shl, full_tb, Bool.eq_false_iff]
  intro h
  rw [Bool.and_eq_true, Bool.and_eq_true, decide_eq_true_iff, decide_eq_true_iff] at h
  omega
theorem Join.apart (J : Join n m N1 N2 N) (G1 : Good n N1) : Apart (nr N) (2 ^ n - 1) ((2 ^ m - 1) <<< n) := fun i j hi hj => by
  rw [full_tb, decide_eq_true_iff] at hi
  rw [tb_shl, Bool.and_eq_true, decide_eq_true_iff] at hj
  rw [J.lo i hi]
  cases e : (nr N1 i).testBit j with
  | false => rfl
  | true =>
    have := tb_lt e (G1.lt i)
    omega
theorem Join.best {g : Int} {A B : Nat} (J : Join n m N1 N2 N) (G1 : Good n N1) (G : Good (n + m) N) (hg : g = 1 ∨ g = -1) (hA : Best (nr N1) (2 ^ n - 1) g A) (hB : Best (nr N2) (2 ^ m - 1) g B) :
    Best (nr N) (2 ^ (n + m) - 1) g (A ||| B <<< n) := by
  rw [← full_or]
  refine best_join G.gr hg (full_dj n m) (J.apart G1) (best_congr (fun p hp => ?_) hA) (best_up (fun p hp q => J.hi p q) hB)
  rw [full_tb, decide_eq_true_iff] at hp
  exact (J.lo p hp).symm
theorem Join.sol (J : Join n m N1 N2 N) (G1 : Good n N1) (G : Good (n + m) N) (c : Nat) : Sol (nr N) (2 ^ (n + m) - 1) 0 c ↔ ∃ a b, Sol (nr N1) (2 ^ n - 1) 0 a ∧ Sol (nr N2) (2 ^ m - 1) 0 b ∧ c = a ||| b <<< n := by
  have lo : ∀ p, (2 ^ n - 1).testBit p = true → nr N p = nr N1 p := fun p hp => by
    rw [full_tb, decide_eq_true_iff] at hp
    exact J.lo p hp
  constructor
  · intro h
    rw [← full_or] at h
    have ap := J.apart G1
    have s1 := sol_split G.gr ap h
    have s2 : Sol (nr N) ((2 ^ m - 1) <<< n) 0 (c &&& (2 ^ m - 1) <<< n) := sol_split (q := 2 ^ n - 1) G.gr (ap.symm G.gr) (by rw [Nat.or_comm]; exact h)
    refine ⟨_, _, sol_congr lo s1, sol_down (fun p hp q => J.hi p q) s2, ?_⟩
    rw [shr_shl s2.sub]
    exact (and_of_or h.sub)
  · rintro ⟨a, b, h1, h2, rfl⟩
    rw [← full_or]
    exact sol_join G.gr (full_dj n m) (J.apart G1) (sol_congr (fun p hp => (lo p hp).symm) h1) (sol_up (fun p hp q => J.hi p q) h2)
theorem lot_join {a b n : Nat} (ha : a < 2 ^ n) : lot (a ||| b <<< n) = lot a ++ (lot b).map (· + n) := by
  refine lot_of_asc (List.pairwise_append.mpr ⟨lot_asc a, ?_, fun x hx y hy => ?_⟩) fun i => ?_
  · rw [← lot_shl]
    exact lot_asc _
  · obtain ⟨k, _, rfl⟩ := List.mem_map.mp hy
    have := lot_lt ha hx
    omega
  · rw [List.mem_append, ← lot_shl, mem_lot, mem_lot, Nat.testBit_or, Bool.or_eq_true]
end
/-! ### sums -/
def sm (l : List Nat) (f : Nat → Nat) : Nat := (l.map f).sum
theorem sm_nil (f : Nat → Nat) : sm [] f = 0 := rfl
theorem sm_cons (a : Nat) (l : List Nat) (f : Nat → Nat) : sm (a :: l) f = f a + sm l f := by
  unfold sm
  rw [List.map_cons, List.sum_cons]
theorem sm_snoc (a : Nat) (f : Nat → Nat) : ∀ l : List Nat, sm (l ++ [a]) f = sm l f + f a
  | [] => by
    show sm [a] f = _
    rw [sm_cons, sm_nil, Nat.add_comm]
  | b :: l => by
    rw [List.cons_append, sm_cons, sm_cons, sm_snoc a f l]
    omega
theorem sm_congr {l : List Nat} {f g : Nat → Nat} (h : ∀ a ∈ l, f a = g a) : sm l f = sm l g := by
  unfold sm
  rw [List.map_congr_left h]
theorem sm_add (f g : Nat → Nat) : ∀ l : List Nat, sm l (fun a => f a + g a) = sm l f + sm l g
  | [] => rfl
  | a :: l => by
    rw [sm_cons, sm_cons, sm_cons, sm_add f g l]
    omega
theorem sm_zero : ∀ l : List Nat, sm l (fun _ => 0) = 0
  | [] => rfl
  | a :: l => by rw [sm_cons, sm_zero l]
theorem sm_mul (k : Nat) (f : Nat → Nat) : ∀ l : List Nat, sm l (fun a => k * f a) = k * sm l f
  | [] => by rw [sm_nil, sm_nil, Nat.mul_zero]
  | a :: l => by rw [sm_cons, sm_cons, sm_mul k f l, Nat.mul_add]
theorem sm_one {s : Nat} (f : Nat → Nat) : ∀ l : List Nat, l.Nodup → s ∈ l → sm l (fun a => (if s = a then 1 else 0) * f a) = f s
  | [], _, h => by cases h
  | a :: l, nd, h => by
    obtain ⟨na, nd⟩ := List.nodup_cons.mp nd
    rw [sm_cons]
    by_cases e : s = a
    · subst e
      rw [if_pos rfl, Nat.one_mul]
      have : sm l (fun a => (if s = a then 1 else 0) * f a) = sm l fun _ => 0 := sm_congr fun b hb => by
        rw [if_neg (fun z : s = b => na (by rw [z]; exact hb)), Nat.zero_mul]
      rw [this, sm_zero]
      rfl
    · rw [if_neg e, Nat.zero_mul, Nat.zero_add]
      exact sm_one f l nd ((List.mem_cons.mp h).resolve_left e)
theorem sm_count {l : List Nat} (nd : l.Nodup) (f : Nat → Nat) : ∀ S : List Nat, (∀ s ∈ S, s ∈ l) → sm l (fun a => S.count a * f a) = sm S f
  | [], _ => by
    rw [sm_nil, ← sm_zero l]
    exact sm_congr fun a _ => by rw [List.count_nil, Nat.zero_mul]
  | s :: S, h => by
    rw [sm_cons, ← sm_count nd f S fun x hx => h x (List.mem_cons_of_mem _ hx), ← sm_one f l nd (h s List.mem_cons_self), ← sm_add]
    refine sm_congr fun a _ => ?_
    rw [← Nat.add_mul, List.count_cons]
    congr 1
    rw [Nat.add_comm]
    congr 1
    by_cases e : s = a
    · rw [if_pos e, if_pos (beq_iff_eq.mpr e)]
    · rw [if_neg e, if_neg fun z => e (beq_iff_eq.mp z)]
theorem count_map_sm {S : List Nat} {h : Nat → Nat} {i : Nat} : (S.map h).count i = sm S fun x => if h x = i then 1 else 0 := by
  induction S with
  | nil => rfl
  | cons s S ih =>
    rw [List.map_cons, List.count_cons, sm_cons, ih, Nat.add_comm]
    congr 1
    by_cases e : h s = i
    · rw [if_pos e, if_pos (beq_iff_eq.mpr e)]
    · rw [if_neg e, if_neg fun z => e (beq_iff_eq.mp z)]
theorem sm_map (h f : Nat → Nat) : ∀ S : List Nat, sm (S.map h) f = sm S fun x => f (h x)
  | [] => rfl
  | s :: S => by rw [List.map_cons, sm_cons, sm_cons, sm_map h f S]
theorem sm_flat (f : Nat → Nat) (k : Nat → List Nat) : ∀ S : List Nat, sm (S.flatMap k) f = sm S fun x => sm (k x) f
  | [] => rfl
  | s :: S => by
    rw [List.flatMap_cons, sm_cons, ← sm_flat f k S]
    unfold sm
    rw [List.map_append, List.sum_append]
theorem perm_of {α : Type} : ∀ {l m : List α}, l.Nodup → m.Nodup → (∀ x, x ∈ l ↔ x ∈ m) → l.Perm m
  | [], m, _, _, h => by
    cases m with
    | nil => exact .refl _
    | cons b m => exact absurd ((h b).mpr List.mem_cons_self) List.not_mem_nil
  | a :: l, m, nl, nm, h => by
    obtain ⟨m1, m2, rfl⟩ := List.append_of_mem ((h a).mp List.mem_cons_self)
    obtain ⟨na, nl⟩ := List.nodup_cons.mp nl
    have nm' := (List.perm_middle.nodup_iff).mp nm
    obtain ⟨nb, nm'⟩ := List.nodup_cons.mp nm'
    refine (List.Perm.cons a (perm_of nl nm' fun x => ?_)).trans List.perm_middle.symm
    have hx := h x
    rw [List.mem_cons, List.perm_middle.mem_iff, List.mem_cons] at hx
    constructor
    · intro z
      rcases hx.mp (.inr z) with e | e
      · subst e
        exact absurd z na
      · exact e
    · intro z
      rcases hx.mpr (.inr z) with e | e
      · subst e
        exact absurd z nb
      · exact e
theorem Lists.perm {nr : Nat → Nat} {f : Nat} {l l' : List Nat} (h : Lists nr f l) (h' : Lists nr f l') : l.Perm l' := perm_of h.nd h'.nd fun c => (h.mem c).trans (h'.mem c).symm
theorem Lists.count {nr : Nat → Nat} {f : Nat} {l l' : List Nat} (h : Lists nr f l) (h' : Lists nr f l') (i : Nat) : (l.map pc).count i = (l'.map pc).count i := ((h.perm h').map pc).count_eq i
theorem pc_shl (b n : Nat) : pc (b <<< n) = pc b := by
  unfold pc
  rw [lot_shl, List.length_map]
theorem pc_join {a b n : Nat} (ha : a < 2 ^ n) : pc (a ||| b <<< n) = pc a + pc b := by
  unfold pc
  rw [lot_join ha, List.length_append, List.length_map]
theorem join_inj {a b c d n : Nat} (ha : a < 2 ^ n) (hc : c < 2 ^ n) (h : a ||| b <<< n = c ||| d <<< n) : a = c ∧ b = d := by
  have hb : ∀ i, (a ||| b <<< n).testBit i = (c ||| d <<< n).testBit i := fun i => by rw [h]
  constructor
  · refine ext fun i => ?_
    have := hb i
    rw [Nat.testBit_or, Nat.testBit_or, tb_shl, tb_shl] at this
    by_cases z : n ≤ i
    · cases e : a.testBit i with
      | true => have := tb_lt e ha; omega
      | false =>
        cases e' : c.testBit i with
        | true => have := tb_lt e' hc; omega
        | false => rfl
    · rwa [decide_eq_false z, Bool.false_and, Bool.false_and, Bool.or_false, Bool.or_false] at this
  · refine ext fun i => ?_
    have := hb (i + n)
    rw [Nat.testBit_or, Nat.testBit_or, tb_shl, tb_shl, Nat.add_sub_cancel, decide_eq_true (by omega : n ≤ i + n), Bool.true_and, Bool.true_and] at this
    have z1 : a.testBit (i + n) = false := by
      cases e : a.testBit (i + n) with
      | true => have := tb_lt e ha; omega
      | false => rfl
    have z2 : c.testBit (i + n) = false := by
      cases e : c.testBit (i + n) with
      | true => have := tb_lt e hc; omega
      | false => rfl
    rwa [z1, z2, Bool.false_or, Bool.false_or] at this
/-- what the law's two loops add up -/
def conv (ka kb : List Nat) (g1 g2 : Nat → Nat) (i : Nat) : Nat := sm ka fun a => sm kb fun b => if a + b = i then g1 a * g2 b else 0
theorem conv_count {n m : Nat} {N1 N2 N L1 L2 L ka kb : List Nat} (J : Join n m N1 N2 N) (G1 : Good n N1) (G : Good (n + m) N) (h1 : Lists (nr N1) (2 ^ n - 1) L1) (h2 : Lists (nr N2) (2 ^ m - 1) L2) (h : Lists (nr N) (2 ^ (n + m) - 1) L)
    (na : ka.Nodup) (nb : kb.Nodup) (ia : ∀ x ∈ L1.map pc, x ∈ ka) (ib : ∀ x ∈ L2.map pc, x ∈ kb) (i : Nat) : conv ka kb (fun i => (L1.map pc).count i) (fun i => (L2.map pc).count i) i = (L.map pc).count i := by
  have lt1 : ∀ a ∈ L1, a < 2 ^ n := fun a ha => lt_of_tb fun i hi => by
    have := ((h1.mem a).mp ha).sub i hi
    rwa [full_tb, decide_eq_true_iff] at this
  have e1 : conv ka kb (fun i => (L1.map pc).count i) (fun i => (L2.map pc).count i) i = sm (L1.map pc) fun a => sm (L2.map pc) fun b => if a + b = i then 1 else 0 := by
    rw [← sm_count na _ _ ia]
    refine sm_congr fun a _ => ?_
    rw [← sm_count nb _ _ ib, ← sm_mul]
    refine sm_congr fun b _ => ?_
    by_cases z : a + b = i
    · rw [if_pos z, if_pos z, Nat.mul_one]
    · rw [if_neg z, if_neg z, Nat.mul_zero, Nat.mul_zero]
  have pm : L.Perm (L1.flatMap fun a => L2.map fun b => a ||| b <<< n) := by
    refine perm_of h.nd ?_ fun c => ?_
    · refine List.pairwise_flatMap.mpr ⟨fun a ha => List.pairwise_map.mpr (h2.nd.imp fun {x y} hxy e => hxy (join_inj (lt1 a ha) (lt1 a ha) e).2), ?_⟩
      refine List.Pairwise.imp_of_mem (fun {a a'} ha ha' hne x hx y hy e => ?_) h1.nd
      obtain ⟨b, _, rfl⟩ := List.mem_map.mp hx
      obtain ⟨b', _, rfl⟩ := List.mem_map.mp hy
      exact hne (join_inj (lt1 a ha) (lt1 a' ha') e).1
    · rw [h.mem, J.sol G1 G, List.mem_flatMap]
      constructor
      · rintro ⟨a, b, ha, hb, rfl⟩
        exact ⟨a, (h1.mem a).mpr ha, List.mem_map.mpr ⟨b, (h2.mem b).mpr hb, rfl⟩⟩
      · rintro ⟨a, ha, hb⟩
        obtain ⟨b, hb2, rfl⟩ := List.mem_map.mp hb
        exact ⟨a, b, (h1.mem a).mp ha, (h2.mem b).mp hb2, rfl⟩
  rw [(pm.map pc).count_eq, count_map_sm, sm_flat, e1, sm_map]
  refine sm_congr fun a ha => ?_
  rw [sm_map, sm_map]
  refine sm_congr fun b _ => ?_
  rw [pc_join (lt1 a ha)]
end Mi
end

section
set_option autoImplicit false
set_option linter.all false
namespace Mi
/-! ### rows -/
theorem sol_check {nr : Nat → Nat} {n c : Nat} (hc : c < 2 ^ n) (h : ∀ i, i < n → c.testBit i = decide (nr i &&& c = 0)) : Sol nr (2 ^ n - 1) 0 c := by
  refine ⟨fun p hp => ?_, fun p hp => ?_, fun p hp => by rw [Nat.zero_testBit] at hp; cases hp⟩
  · rw [full_tb]
    exact decide_eq_true (tb_lt hp hc)
  · rw [full_tb, decide_eq_true_iff] at hp
    rw [h p hp, decide_eq_true_iff]
    constructor
    · intro z q hq
      have : (nr p &&& c).testBit q = (0 : Nat).testBit q := by rw [z]
      rw [Nat.testBit_and, hq, Bool.true_and, Nat.zero_testBit] at this
      exact this
    · intro z
      refine zero_of fun q => ?_
      rw [Nat.testBit_and]
      cases e : (nr p).testBit q with
      | false => rfl
      | true => rw [z q e]; rfl
theorem pc_or_le (a b : Nat) : pc (a ||| b) ≤ pc a + pc b := by
  have e : a ||| b = a ||| sd b a := ext fun i => by
    rw [Nat.testBit_or, Nat.testBit_or, tb_sd]
    cases a.testBit i <;> cases b.testBit i <;> rfl
  have d : a &&& sd b a = 0 := zero_of fun i => by
    rw [Nat.testBit_and, tb_sd]
    cases a.testBit i <;> cases b.testBit i <;> rfl
  rw [e, pc_or d]
  have : pc (sd b a) ≤ pc b := pc_mono fun i h => by
    rw [tb_sd, Bool.and_eq_true] at h
    exact h.1
  omega
theorem pc_shr (a n : Nat) : pc (a >>> n) ≤ pc a := by
  rw [← pc_shl (a >>> n) n]
  refine pc_mono fun i h => ?_
  rw [tb_shl, Bool.and_eq_true, decide_eq_true_iff, Nat.testBit_shiftRight, show n + (i - n) = i by omega] at h
  exact h.2
def RowN (n : Nat) (nr : Nat → Nat) : Prop := ∀ i j, (nr i).testBit j = true ↔ (i + 1 < n ∧ j = i + 1) ∨ (j + 1 < n ∧ i = j + 1)
theorem row_low {n m : Nat} {nr : Nat → Nat} (R : RowN n nr) (S : Sol nr (2 ^ n - 1) 0 m) : n ≤ 3 * pc m := by
  have cov : ∀ i, (2 ^ n - 1).testBit i = true → ((m ||| m <<< 1) ||| m >>> 1).testBit i = true := fun i hi => by
    rw [Nat.testBit_or, Nat.testBit_or, tb_shl, Nat.testBit_shiftRight]
    cases e : m.testBit i with
    | true => rfl
    | false =>
      by_cases z : (decide (1 ≤ i) && m.testBit (i - 1) || m.testBit (1 + i)) = true
      · rw [Bool.or_assoc, z]
        rfl
      · have : m.testBit i = true := (S.free i hi).mpr fun q hq => by
          rw [Bool.or_eq_true, Bool.and_eq_true, decide_eq_true_iff] at z
          cases y : m.testBit q with
          | false => rfl
          | true =>
            rcases (R i q).mp hq with ⟨h1, rfl⟩ | ⟨h1, rfl⟩
            · exact absurd (.inr (by rw [Nat.add_comm]; exact y)) z
            · exact absurd (.inl ⟨by omega, by rw [Nat.add_sub_cancel]; exact y⟩) z
        rw [e] at this
        cases this
  have h1 := pc_mono cov
  rw [pc_full] at h1
  have h2 := pc_or_le (m ||| m <<< 1) (m >>> 1)
  have h3 := pc_or_le m (m <<< 1)
  have h4 := pc_shr m 1
  rw [pc_shl] at h3
  omega
theorem row_high {n m : Nat} {nr : Nat → Nat} (R : RowN n nr) (S : Sol nr (2 ^ n - 1) 0 m) : 2 * pc m ≤ n + 1 := by
  have lt : ∀ i, m.testBit i = true → i < n := fun i hi => by
    have := S.sub i hi
    rwa [full_tb, decide_eq_true_iff] at this
  have d : m &&& m <<< 1 = 0 := zero_of fun i => by
    rw [Nat.testBit_and, tb_shl, Bool.eq_false_iff]
    intro z
    rw [Bool.and_eq_true, Bool.and_eq_true, decide_eq_true_iff] at z
    have l := lt i z.1
    have := (S.free i (S.sub i z.1)).mp z.1 (i - 1) ((R i (i - 1)).mpr (.inr ⟨by omega, by omega⟩))
    rw [z.2.2] at this
    cases this
  have h1 : pc (m ||| m <<< 1) ≤ pc (2 ^ (n + 1) - 1) := pc_mono fun i hi => by
    rw [full_tb]
    rw [Nat.testBit_or, Bool.or_eq_true, tb_shl, Bool.and_eq_true, decide_eq_true_iff] at hi
    refine decide_eq_true ?_
    rcases hi with hi | ⟨_, hi⟩
    · have := lt i hi
      omega
    · have := lt _ hi
      omega
  rw [pc_full, pc_or d, pc_shl] at h1
  omega
def rowNear (n i : Nat) : Nat := (if i + 1 < n then 1 <<< (i + 1) else 0) ||| (if 1 ≤ i then 1 <<< (i - 1) else 0)
theorem rowNear_eq {n i : Nat} {nr : Nat → Nat} (R : RowN n nr) (hi : i < n) : nr i = rowNear n i := ext fun j => by
  rw [Bool.eq_iff_iff, R, rowNear, Nat.testBit_or, Bool.or_eq_true]
  refine or_congr ?_ ?_
  · by_cases h : i + 1 < n
    · rw [if_pos h, tb_one, decide_eq_true_iff]
      omega
    · rw [if_neg h, Nat.zero_testBit]
      constructor
      · omega
      · intro z; cases z
  · by_cases h : 1 ≤ i
    · rw [if_pos h, tb_one, decide_eq_true_iff]
      omega
    · rw [if_neg h, Nat.zero_testBit]
      constructor
      · omega
      · intro z; cases z
def cnt (n c : Nat) : Nat := (List.range n).countP fun i => c.testBit i
def rowB (n c : Nat) : Bool := (decide (c < 2 ^ n)) && (List.range n).all fun i => c.testBit i == decide (rowNear n i &&& c = 0)
def fewRow (n : Nat) : Nat := mk ((List.range ((n + 2) / 3)).map fun i => 3 * i + (if n % 3 = 0 then 1 else 0))
def mostRow (n : Nat) : Nat := mk ((List.range ((n + 1) / 2)).map fun i => 2 * i)
theorem few_ok : ∀ n, n < 25 → (rowB n (fewRow n) && decide (cnt n (fewRow n) = (n + 2) / 3)) = true := by decide +kernel
theorem most_ok : ∀ n, n < 25 → (rowB n (mostRow n) && decide (cnt n (mostRow n) = (n + 1) / 2)) = true := by decide +kernel
theorem row_sol {n c : Nat} {nr : Nat → Nat} (R : RowN n nr) (h : rowB n c = true) : Sol nr (2 ^ n - 1) 0 c ∧ c < 2 ^ n := by
  unfold rowB at h
  rw [Bool.and_eq_true, decide_eq_true_iff, List.all_eq_true] at h
  refine ⟨sol_check h.1 fun i hi => ?_, h.1⟩
  rw [rowNear_eq R hi]
  exact beq_iff_eq.mp (h.2 i (List.mem_range.mpr hi))
theorem row_few {n m : Nat} {nr : Nat → Nat} (hn : n ≤ 24) (R : RowN n nr) (B : Best nr (2 ^ n - 1) 1 m) : pc m = (n + 2) / 3 := by
  have h := few_ok n (by omega)
  rw [Bool.and_eq_true, decide_eq_true_iff] at h
  obtain ⟨s, lt⟩ := row_sol R h.1
  have e : pc (fewRow n) = (n + 2) / 3 := by rw [pc_range lt]; exact h.2
  have le := (ahead_false.mp (B.le _ s)).1
  have low := row_low R B.sol
  have le2 : (pc m : Int) ≤ pc (fewRow n) := by
    unfold pc
    omega
  omega
theorem row_most {n m : Nat} {nr : Nat → Nat} (hn : n ≤ 24) (R : RowN n nr) (B : Best nr (2 ^ n - 1) (-1) m) : pc m = (n + 1) / 2 := by
  have h := most_ok n (by omega)
  rw [Bool.and_eq_true, decide_eq_true_iff] at h
  obtain ⟨s, lt⟩ := row_sol R h.1
  have e : pc (mostRow n) = (n + 1) / 2 := by rw [pc_range lt]; exact h.2
  have le := (ahead_false.mp (B.le _ s)).1
  have low := row_high R B.sol
  have le2 : (pc (mostRow n) : Int) ≤ pc m := by
    unfold pc
    omega
  omega
theorem row_near {n : Nat} {ws : List (Nat × Nat)} (h : TiesIn n ws) (hw : ∀ i j, (i, j) ∈ ws ↔ i + 1 < n ∧ j = i + 1) : RowN n (nr (nearOf n ws)) := fun i j => by
  rw [near_iff h, hw, hw]
/-- the smallest number of the rests is that of the best -/
theorem best_min {nr : Nat → Nat} {f m c : Nat} (B : Best nr f 1 m) (S : Sol nr f 0 c) : pc m ≤ pc c := by
  have le := (ahead_false.mp (B.le _ S)).1
  have le2 : (pc m : Int) ≤ pc c := by
    unfold pc
    omega
  omega
end Mi
end

section
set_option autoImplicit false
set_option linter.all false
namespace Mi
/-! ### groups: all tied, and stars -/
theorem tb_one_iff {x y : Nat} : (1 <<< x).testBit y = true ↔ x = y := by rw [tb_one, decide_eq_true_iff]
theorem clique_best {nr : Nat → Nat} {G m : Nat} {g : Int} (hn : ∀ x, G.testBit x = true → ∀ y, (nr x).testBit y = true ↔ G.testBit y = true ∧ x ≠ y) (hm : G.testBit m = true) (le : ∀ x, G.testBit x = true → m ≤ x) : Best nr G g (1 <<< m) := by
  refine ⟨⟨fun p hp => ?_, fun p hp => ?_, fun p hp => by rw [Nat.zero_testBit] at hp; cases hp⟩, fun c hc => ?_⟩
  · rw [← tb_one_iff.mp hp]
    exact hm
  · constructor
    · intro h q hq
      rw [← tb_one_iff.mp h] at hq
      cases e : (1 <<< m).testBit q with
      | false => rfl
      | true => exact absurd (tb_one_iff.mp e) ((hn m hm q).mp hq).2
    · intro h
      by_cases e : m = p
      · exact tb_one_iff.mpr e
      · have := h m ((hn p hp m).mpr ⟨hm, fun z => e z.symm⟩)
        rw [tb_one_iff.mpr rfl] at this
        cases this
  · obtain ⟨x, hx⟩ : ∃ x, c.testBit x = true := by
      cases e : c.testBit m with
      | true => exact ⟨m, e⟩
      | false =>
        by_cases z : ∃ x, c.testBit x = true
        · exact z
        · exfalso
          have := (hc.free m hm).mpr fun q _ => by
            cases y : c.testBit q with
            | false => rfl
            | true => exact absurd ⟨q, y⟩ z
          rw [e] at this
          cases this
    have gx := hc.sub x hx
    have ec : c = 1 <<< x := ext fun y => by
      rw [tb_one]
      cases e : c.testBit y with
      | true =>
        by_cases z : x = y
        · exact (decide_eq_true z).symm
        · exfalso
          have := (hc.free x gx).mp hx y ((hn x gx y).mpr ⟨hc.sub y e, z⟩)
          rw [e] at this
          cases this
      | false =>
        by_cases z : x = y
        · rw [← z, hx] at e
          cases e
        · exact (decide_eq_false z).symm
    rw [ec, lot_one, lot_one]
    refine ahead_false.mpr ⟨Int.le_refl _, fun _ => ?_⟩
    show (if x = m then false else decide (x < m)) = false
    have := le x gx
    by_cases e : x = m
    · rw [if_pos e]
    · rw [if_neg e]
      exact decide_eq_false (by omega)
section
variable {nr : Nat → Nat} {G z : Nat} (hn : ∀ x, G.testBit x = true → ∀ y, (nr x).testBit y = true ↔ G.testBit y = true ∧ x ≠ y ∧ (x = z ∨ y = z)) (hz : G.testBit z = true) (h3 : 3 ≤ pc G)
include hn hz
theorem star_sol {c : Nat} (hc : Sol nr G 0 c) : c = 1 <<< z ∨ c = sd G (1 <<< z) := by
  cases e : c.testBit z with
  | true =>
    refine .inl (ext fun y => ?_)
    rw [tb_one]
    cases f : c.testBit y with
    | true =>
      by_cases w : z = y
      · exact (decide_eq_true w).symm
      · exfalso
        have := (hc.free z hz).mp e y ((hn z hz y).mpr ⟨hc.sub y f, w, .inl rfl⟩)
        rw [f] at this
        cases this
    | false =>
      by_cases w : z = y
      · rw [← w, e] at f
        cases f
      · exact (decide_eq_false w).symm
  | false =>
    refine .inr (ext fun y => ?_)
    rw [tb_sd, tb_one]
    cases f : G.testBit y with
    | false =>
      cases k : c.testBit y with
      | false => rfl
      | true =>
        rw [hc.sub y k] at f
        cases f
    | true =>
      by_cases w : z = y
      · rw [← w, e, decide_eq_true rfl]
        rfl
      · rw [decide_eq_false w]
        exact (hc.free y f).mpr fun q hq => by
          rcases ((hn y f q).mp hq).2.2 with k | k
          · exact absurd k.symm w
          · rw [k, e]
theorem star_one : Sol nr G 0 (1 <<< z) := by
  refine ⟨fun p hp => ?_, fun p hp => ?_, fun p hp => by rw [Nat.zero_testBit] at hp; cases hp⟩
  · rw [← tb_one_iff.mp hp]
    exact hz
  · constructor
    · intro h q hq
      rw [← tb_one_iff.mp h] at hq
      cases e : (1 <<< z).testBit q with
      | false => rfl
      | true => exact absurd (tb_one_iff.mp e) ((hn z hz q).mp hq).2.1
    · intro h
      by_cases e : z = p
      · exact tb_one_iff.mpr e
      · have := h z ((hn p hp z).mpr ⟨hz, fun w => e w.symm, .inr rfl⟩)
        rw [tb_one_iff.mpr rfl] at this
        cases this
include h3
theorem pc_leaves : pc (sd G (1 <<< z)) + 1 = pc G := by
  have sub : ∀ i, (1 <<< z).testBit i = true → G.testBit i = true := fun i hi => by
    rw [← tb_one_iff.mp hi]
    exact hz
  have := pc_or (sd_and G (1 <<< z))
  rw [sd_or sub, pc_one] at this
  omega
theorem star_leaves : Sol nr G 0 (sd G (1 <<< z)) := by
  refine ⟨fun p hp => ?_, fun p hp => ?_, fun p hp => by rw [Nat.zero_testBit] at hp; cases hp⟩
  · rw [tb_sd, Bool.and_eq_true] at hp
    exact hp.1
  · rw [tb_sd, hp, tb_one, Bool.true_and]
    by_cases e : z = p
    · subst e
      rw [decide_eq_true rfl]
      constructor
      · intro h
        cases h
      · intro h
        obtain ⟨y, hy⟩ := tb_of_ne (a := sd G (1 <<< z)) fun w => by
          have := pc_leaves hn hz h3
          rw [w, pc_zero] at this
          omega
        have gy := hy
        rw [tb_sd, Bool.and_eq_true, tb_one] at gy
        have zy : z ≠ y := fun k => by
          rw [decide_eq_true k] at gy
          cases gy.2
        have := h y ((hn z hz y).mpr ⟨gy.1, zy, .inl rfl⟩)
        rw [hy] at this
        cases this
    · rw [decide_eq_false e]
      refine ⟨fun _ q hq => ?_, fun _ => rfl⟩
      rcases ((hn p hp q).mp hq).2.2 with k | k
      · exact absurd k.symm e
      · rw [k, tb_sd, tb_one, decide_eq_true rfl]
        exact Bool.and_false _
theorem star_few : Best nr G 1 (1 <<< z) := by
  refine ⟨star_one hn hz, fun c hc => ?_⟩
  rcases star_sol hn hz hc with rfl | rfl
  · exact ahead_irr _ _
  · have := pc_leaves hn hz h3
    refine ahead_false.mpr ⟨?_, fun e => ?_⟩
    · rw [lot_one]
      show 1 * ((1 : Nat) : Int) ≤ 1 * (pc (sd G (1 <<< z)) : Int)
      omega
    · rw [lot_one] at e
      have e : 1 * (pc (sd G (1 <<< z)) : Int) = 1 * ((1 : Nat) : Int) := e
      omega
theorem star_most : Best nr G (-1) (sd G (1 <<< z)) := by
  refine ⟨star_leaves hn hz h3, fun c hc => ?_⟩
  rcases star_sol hn hz hc with rfl | rfl
  · have := pc_leaves hn hz h3
    refine ahead_false.mpr ⟨?_, fun e => ?_⟩
    · rw [lot_one]
      show -1 * (pc (sd G (1 <<< z)) : Int) ≤ -1 * ((1 : Nat) : Int)
      omega
    · rw [lot_one] at e
      have e : -1 * ((1 : Nat) : Int) = -1 * (pc (sd G (1 <<< z)) : Int) := e
      omega
  · exact ahead_irr _ _
end
/-! ### groups one behind another -/
abbrev Gp := Nat × Nat × Bool
def idxG (g : Gp) : List (Nat × Nat) := (List.range' 1 (g.2.1 - 1)).flatMap fun a => (if g.2.2 = true then [0] else List.range a).map fun b => (g.1 + a, g.1 + b)
def idx (gs : List Gp) : List (Nat × Nat) := gs.flatMap idxG
def Cont : Nat → List Gp → Nat → Prop
  | s, [], n => s = n
  | s, g :: gs, n => g.1 = s ∧ 2 ≤ g.2.1 ∧ g.2.1 ≤ 4 ∧ (g.2.2 = true → 3 ≤ g.2.1) ∧ Cont (s + g.2.1) gs n
def mn : List Nat → Nat
  | [] => 0
  | x :: l => l.foldl min x
theorem foldl_min : ∀ (l : List Nat) (x : Nat), l.foldl min x ≤ x ∧ (∀ y ∈ l, l.foldl min x ≤ y) ∧ (l.foldl min x = x ∨ l.foldl min x ∈ l)
  | [], x => ⟨Nat.le_refl _, fun y h => (by cases h), .inl rfl⟩
  | a :: l, x => by
    obtain ⟨h1, h2, h3⟩ := foldl_min l (min x a)
    rw [List.foldl_cons]
    have m1 := Nat.min_le_left x a
    have m2 := Nat.min_le_right x a
    refine ⟨Nat.le_trans h1 m1, fun y hy => ?_, ?_⟩
    · rcases List.mem_cons.mp hy with rfl | hy
      · exact Nat.le_trans h1 m2
      · exact h2 y hy
    · rcases h3 with h3 | h3
      · rw [h3]
        by_cases z : x ≤ a
        · exact .inl (Nat.min_eq_left z)
        · rw [Nat.min_eq_right (by omega)]
          exact .inr List.mem_cons_self
      · exact .inr (List.mem_cons_of_mem _ h3)
theorem mn_spec : ∀ {l : List Nat}, l ≠ [] → mn l ∈ l ∧ ∀ y ∈ l, mn l ≤ y
  | [], h => absurd rfl h
  | x :: l, _ => by
    obtain ⟨h1, h2, h3⟩ := foldl_min l x
    refine ⟨?_, fun y hy => ?_⟩
    · rcases h3 with h3 | h3
      · show l.foldl min x ∈ _
        rw [h3]
        exact List.mem_cons_self
      · exact List.mem_cons_of_mem _ h3
    · rcases List.mem_cons.mp hy with rfl | hy
      · exact h1
      · exact h2 y hy
theorem mn_uniq {l : List Nat} {m : Nat} (h : m ∈ l) (le : ∀ y ∈ l, m ≤ y) : m = mn l := by
  have ne : l ≠ [] := fun e => by rw [e] at h; cases h
  obtain ⟨h1, h2⟩ := mn_spec ne
  have := h2 m h
  have := le _ h1
  omega
def pts (σ : List Nat) (g : Gp) : List Nat := (σ.drop g.1).take g.2.1
def few (σ : List Nat) (g : Gp) : Nat := if g.2.2 = true then (pts σ g).headD 0 else mn (pts σ g)
def most (σ : List Nat) (g : Gp) : List Nat := if g.2.2 = true then (pts σ g).drop 1 else [mn (pts σ g)]
theorem mem_idxG {g : Gp} {a b : Nat} : (a, b) ∈ idxG g ↔ g.1 ≤ b ∧ b < a ∧ a < g.1 + g.2.1 ∧ (g.2.2 = true → b = g.1) := by
  unfold idxG
  rw [List.mem_flatMap]
  constructor
  · rintro ⟨x, hx, h⟩
    obtain ⟨y, hy, e⟩ := List.mem_map.mp h
    injection e with e1 e2
    rw [List.mem_range'_1] at hx
    by_cases z : g.2.2 = true
    · rw [if_pos z, List.mem_singleton] at hy
      exact ⟨by omega, by omega, by omega, fun _ => by omega⟩
    · rw [if_neg z, List.mem_range] at hy
      exact ⟨by omega, by omega, by omega, fun w => absurd w z⟩
  · rintro ⟨h1, h2, h3, h4⟩
    refine ⟨a - g.1, by rw [List.mem_range'_1]; omega, List.mem_map.mpr ⟨b - g.1, ?_, by rw [show g.1 + (a - g.1) = a by omega, show g.1 + (b - g.1) = b by omega]⟩⟩
    by_cases z : g.2.2 = true
    · rw [if_pos z, List.mem_singleton]
      have := h4 z
      omega
    · rw [if_neg z, List.mem_range]
      omega
theorem idx_in : ∀ {gs : List Gp} {s n : Nat}, Cont s gs n → s ≤ n ∧ ∀ a b, (a, b) ∈ idx gs → s ≤ b ∧ b < a ∧ a < n
  | [], s, n, h => ⟨Nat.le_of_eq h, fun a b h => by cases h⟩
  | g :: gs, s, n, h => by
    obtain ⟨h1, h2, h3, h4, h5⟩ := h
    obtain ⟨i1, i2⟩ := idx_in h5
    refine ⟨by omega, fun a b hab => ?_⟩
    unfold idx at hab
    rw [List.flatMap_cons, List.mem_append] at hab
    rcases hab with hab | hab
    · obtain ⟨a1, a2, a3, _⟩ := mem_idxG.mp hab
      omega
    · have := i2 a b hab
      omega
theorem mk_append (l m : List Nat) : mk (l ++ m) = mk l ||| mk m := ext fun i => by
  rw [Nat.testBit_or, tb_mk, tb_mk, tb_mk, Bool.eq_iff_iff, Bool.or_eq_true, decide_eq_true_iff, decide_eq_true_iff, decide_eq_true_iff, List.mem_append]
theorem mk_one (x : Nat) : mk [x] = 1 <<< x := ext fun i => by
  rw [tb_mk, tb_one, Bool.eq_iff_iff, decide_eq_true_iff, decide_eq_true_iff, List.mem_singleton]
  exact eq_comm
theorem pc_mk {l : List Nat} (h : l.Nodup) : pc (mk l) = l.length :=
  (perm_of (lot_nodup _) h fun x => by rw [mem_lot, tb_mk, decide_eq_true_iff]).length_eq
theorem plt {σ : List Nat} {n a : Nat} (h : σ.Perm (List.range n)) (ha : a < n) : ∃ hl : a < σ.length, σ.getD a 0 = σ[a] ∧ σ[a] < n := by
  have hl : a < σ.length := by rw [h.length_eq, List.length_range]; exact ha
  refine ⟨hl, by rw [List.getD_eq_getElem?_getD, List.getElem?_eq_getElem hl]; rfl, ?_⟩
  exact List.mem_range.mp (h.mem_iff.mp (List.getElem_mem hl))
theorem pinj {σ : List Nat} {n a b : Nat} (h : σ.Perm (List.range n)) (ha : a < n) (hb : b < n) (e : σ.getD a 0 = σ.getD b 0) : a = b := by
  obtain ⟨la, ea, _⟩ := plt h ha
  obtain ⟨lb, eb, _⟩ := plt h hb
  rw [ea, eb] at e
  have nd : σ.Pairwise (· ≠ ·) := h.nodup_iff.mpr List.nodup_range
  rcases Nat.lt_trichotomy a b with z | z | z
  · exact absurd e (List.pairwise_iff_getElem.mp nd a b la lb z)
  · exact z
  · exact absurd e.symm (List.pairwise_iff_getElem.mp nd b a lb la z)
theorem mem_dropD {σ : List Nat} {s x : Nat} : x ∈ σ.drop s ↔ ∃ a, s ≤ a ∧ a < σ.length ∧ x = σ.getD a 0 := by
  rw [List.mem_iff_getElem?]
  constructor
  · rintro ⟨i, hi⟩
    rw [List.getElem?_drop] at hi
    obtain ⟨l, e⟩ := List.getElem?_eq_some_iff.mp hi
    exact ⟨s + i, by omega, l, by rw [List.getD_eq_getElem?_getD, hi]; rfl⟩
  · rintro ⟨a, h1, h2, rfl⟩
    refine ⟨a - s, ?_⟩
    rw [List.getElem?_drop, show s + (a - s) = a by omega, List.getElem?_eq_getElem h2, List.getD_eq_getElem?_getD, List.getElem?_eq_getElem h2]
    rfl
theorem mem_pts {σ : List Nat} {g : Gp} {x : Nat} : x ∈ pts σ g ↔ ∃ a, g.1 ≤ a ∧ a < g.1 + g.2.1 ∧ a < σ.length ∧ x = σ.getD a 0 := by
  unfold pts
  rw [List.mem_iff_getElem?]
  constructor
  · rintro ⟨i, hi⟩
    have il : i < g.2.1 := by
      have := (List.getElem?_eq_some_iff.mp hi).1
      rw [List.length_take] at this
      omega
    rw [List.getElem?_take_of_lt il, List.getElem?_drop] at hi
    obtain ⟨l, e⟩ := List.getElem?_eq_some_iff.mp hi
    exact ⟨g.1 + i, by omega, by omega, l, by rw [List.getD_eq_getElem?_getD, hi]; rfl⟩
  · rintro ⟨a, h1, h2, h3, rfl⟩
    refine ⟨a - g.1, ?_⟩
    rw [List.getElem?_take_of_lt (by omega), List.getElem?_drop, show g.1 + (a - g.1) = a by omega, List.getElem?_eq_getElem h3, List.getD_eq_getElem?_getD, List.getElem?_eq_getElem h3]
    rfl
section
variable {σ N : List Nat} {n : Nat} {E : List (Nat × Nat)} (hσ : σ.Perm (List.range n)) (G : Good n N)
  (hN : ∀ a b, a < n → b < n → ((nr N (σ.getD a 0)).testBit (σ.getD b 0) = true ↔ (a, b) ∈ E ∨ (b, a) ∈ E))
include hσ G hN
theorem near_pts {a y : Nat} (ha : a < n) : (nr N (σ.getD a 0)).testBit y = true ↔ ∃ b, b < n ∧ y = σ.getD b 0 ∧ ((a, b) ∈ E ∨ (b, a) ∈ E) := by
  constructor
  · intro h
    have ly := tb_lt h (G.lt _)
    have : y ∈ σ := hσ.mem_iff.mpr (List.mem_range.mpr ly)
    have : y ∈ σ.drop 0 := this
    obtain ⟨b, _, hb, rfl⟩ := mem_dropD.mp this
    rw [hσ.length_eq, List.length_range] at hb
    exact ⟨b, hb, rfl, (hN a b ha hb).mp h⟩
  · rintro ⟨b, hb, rfl, h⟩
    exact (hN a b ha hb).mpr h
theorem group_best {g : Gp} (h1 : 2 ≤ g.2.1) (h3 : g.2.2 = true → 3 ≤ g.2.1) (hn : g.1 + g.2.1 ≤ n) (hE : ∀ a b, g.1 ≤ a → a < g.1 + g.2.1 → ((a, b) ∈ E ↔ (a, b) ∈ idxG g) ∧ ((b, a) ∈ E ↔ (b, a) ∈ idxG g)) :
    Best (nr N) (mk (pts σ g)) 1 (mk [few σ g]) ∧ Best (nr N) (mk (pts σ g)) (-1) (mk (most σ g)) ∧ (∀ x ∈ most σ g, x ∈ pts σ g) ∧ few σ g ∈ pts σ g ∧ (most σ g).Nodup := by
  have len : σ.length = n := by rw [hσ.length_eq, List.length_range]
  have nd : σ.Nodup := hσ.nodup_iff.mpr List.nodup_range
  have ndp : (pts σ g).Nodup := (nd.sublist (List.drop_sublist _ _)).sublist (List.take_sublist _ _)
  have lp : (pts σ g).length = g.2.1 := by
    unfold pts
    rw [List.length_take, List.length_drop, len]
    omega
  have tp : ∀ x, (mk (pts σ g)).testBit x = true ↔ ∃ a, g.1 ≤ a ∧ a < g.1 + g.2.1 ∧ x = σ.getD a 0 := fun x => by
    rw [tb_mk, decide_eq_true_iff, mem_pts]
    constructor
    · rintro ⟨a, h1, h2, _, h3⟩
      exact ⟨a, h1, h2, h3⟩
    · rintro ⟨a, h1, h2, h3⟩
      exact ⟨a, h1, h2, by omega, h3⟩
  have ne : pts σ g ≠ [] := fun e => by
    rw [e] at lp
    simp at lp
    omega
  have nn : ∀ a y, g.1 ≤ a → a < g.1 + g.2.1 → ((nr N (σ.getD a 0)).testBit y = true ↔ ∃ b, g.1 ≤ b ∧ b < g.1 + g.2.1 ∧ y = σ.getD b 0 ∧ a ≠ b ∧ (g.2.2 = true → a = g.1 ∨ b = g.1)) := fun a y ha hb => by
    rw [near_pts hσ G hN (by omega)]
    constructor
    · rintro ⟨b, lb, rfl, h⟩
      rw [(hE a b ha hb).1, (hE a b ha hb).2, mem_idxG, mem_idxG] at h
      rcases h with ⟨e1, e2, e3, e4⟩ | ⟨e1, e2, e3, e4⟩
      · exact ⟨b, e1, by omega, rfl, by omega, fun z => .inr (e4 z)⟩
      · exact ⟨b, by omega, e3, rfl, by omega, fun z => .inl (e4 z)⟩
    · rintro ⟨b, e1, e2, rfl, e3, e4⟩
      refine ⟨b, by omega, rfl, ?_⟩
      rw [(hE a b ha hb).1, (hE a b ha hb).2, mem_idxG, mem_idxG]
      by_cases z : b < a
      · exact .inl ⟨e1, z, hb, fun w => by
          have := e4 w
          omega⟩
      · exact .inr ⟨ha, by omega, e2, fun w => by
          have := e4 w
          omega⟩
  by_cases st : g.2.2 = true
  · have e1 : few σ g = σ.getD g.1 0 := by
      unfold few
      rw [if_pos st]
      unfold pts
      have : (σ.drop g.1).take g.2.1 = σ[g.1]'(by omega) :: ((σ.drop (g.1 + 1)).take (g.2.1 - 1)) := by
        rw [List.drop_eq_getElem_cons (by omega), show g.2.1 = (g.2.1 - 1) + 1 by omega, List.take_succ_cons]
        rfl
      rw [this, List.getD_eq_getElem?_getD, List.getElem?_eq_getElem (by omega)]
      rfl
    obtain ⟨z0, r, ep⟩ : ∃ z0 r, pts σ g = z0 :: r := by
      cases e : pts σ g with
      | nil => exact absurd e ne
      | cons z0 r => exact ⟨z0, r, rfl⟩
    have ez : few σ g = z0 := by
      unfold few
      rw [if_pos st, ep]
      rfl
    have em : most σ g = r := by
      unfold most
      rw [if_pos st, ep]
      rfl
    rw [ep] at ndp
    obtain ⟨nz, ndr⟩ := List.nodup_cons.mp ndp
    have hz : (mk (pts σ g)).testBit (few σ g) = true := by
      rw [tb_mk, decide_eq_true_iff, ez, ep]
      exact List.mem_cons_self
    have hn2 : ∀ x, (mk (pts σ g)).testBit x = true → ∀ y, (nr N x).testBit y = true ↔ (mk (pts σ g)).testBit y = true ∧ x ≠ y ∧ (x = few σ g ∨ y = few σ g) := fun x hx y => by
      obtain ⟨a, a1, a2, rfl⟩ := (tp x).mp hx
      rw [nn a y a1 a2, tp]
      constructor
      · rintro ⟨b, b1, b2, rfl, b3, b4⟩
        refine ⟨⟨b, b1, b2, rfl⟩, fun e => b3 (pinj hσ (by omega) (by omega) e), ?_⟩
        rw [e1]
        rcases b4 st with rfl | rfl
        · exact .inl rfl
        · exact .inr rfl
      · rintro ⟨⟨b, b1, b2, rfl⟩, c1, c2⟩
        refine ⟨b, b1, b2, rfl, fun e => c1 (by rw [e]), fun _ => ?_⟩
        rw [e1] at c2
        rcases c2 with c2 | c2
        · exact .inl (pinj hσ (by omega) (by omega) c2)
        · exact .inr (pinj hσ (by omega) (by omega) c2)
    have p3 : 3 ≤ pc (mk (pts σ g)) := by
      rw [ep, pc_mk ndp, ← ep, lp]
      exact h3 st
    have el : mk (most σ g) = sd (mk (pts σ g)) (1 <<< few σ g) := ext fun i => by
      rw [tb_sd, tb_mk, tb_mk, tb_one, ez, em, ep, Bool.eq_iff_iff, Bool.and_eq_true, decide_eq_true_iff, decide_eq_true_iff, Bool.not_eq_true', decide_eq_false_iff_not, List.mem_cons]
      constructor
      · intro h
        exact ⟨.inr h, fun e => nz (by rw [e]; exact h)⟩
      · rintro ⟨h | h, h'⟩
        · exact absurd h.symm h'
        · exact h
    rw [mk_one, el]
    refine ⟨star_few hn2 hz p3, star_most hn2 hz p3, fun x hx => ?_, ?_, ?_⟩
    · rw [em] at hx
      rw [ep]
      exact List.mem_cons_of_mem _ hx
    · rw [ez, ep]
      exact List.mem_cons_self
    · rw [em]
      exact ndr
  · have ef : few σ g = mn (pts σ g) := by
      unfold few
      rw [if_neg st]
    have em : most σ g = [mn (pts σ g)] := by
      unfold most
      rw [if_neg st]
    obtain ⟨m1, m2⟩ := mn_spec ne
    have hn2 : ∀ x, (mk (pts σ g)).testBit x = true → ∀ y, (nr N x).testBit y = true ↔ (mk (pts σ g)).testBit y = true ∧ x ≠ y := fun x hx y => by
      obtain ⟨a, a1, a2, rfl⟩ := (tp x).mp hx
      rw [nn a y a1 a2, tp]
      constructor
      · rintro ⟨b, b1, b2, rfl, b3, b4⟩
        exact ⟨⟨b, b1, b2, rfl⟩, fun e => b3 (pinj hσ (by omega) (by omega) e)⟩
      · rintro ⟨⟨b, b1, b2, rfl⟩, c1⟩
        exact ⟨b, b1, b2, rfl, fun e => c1 (by rw [e]), fun w => absurd w st⟩
    have hm : (mk (pts σ g)).testBit (mn (pts σ g)) = true := by
      rw [tb_mk]
      exact decide_eq_true m1
    have hle : ∀ x, (mk (pts σ g)).testBit x = true → mn (pts σ g) ≤ x := fun x hx => by
      rw [tb_mk, decide_eq_true_iff] at hx
      exact m2 x hx
    rw [em, ef, mk_one]
    refine ⟨clique_best hn2 hm hle, clique_best hn2 hm hle, fun x hx => ?_, m1, List.nodup_cons.mpr ⟨List.not_mem_nil, List.nodup_nil⟩⟩
    rw [List.mem_singleton.mp hx]
    exact m1
theorem groups_best : ∀ {gs : List Gp} {s : Nat}, Cont s gs n → (∀ a b, s ≤ a ∨ s ≤ b → ((a, b) ∈ E ↔ (a, b) ∈ idx gs)) →
    Best (nr N) (mk (σ.drop s)) 1 (mk (gs.map (few σ))) ∧ Best (nr N) (mk (σ.drop s)) (-1) (mk (gs.flatMap (most σ))) ∧
    (gs.map (few σ)).Nodup ∧ (gs.flatMap (most σ)).Nodup ∧ (∀ x ∈ gs.map (few σ), x ∈ σ.drop s) ∧ ∀ x ∈ gs.flatMap (most σ), x ∈ σ.drop s
  | [], s, h, _ => by
    have h : s = n := h
    have : σ.drop s = [] := List.drop_eq_nil_of_le (by rw [hσ.length_eq, List.length_range]; omega)
    rw [this]
    exact ⟨best_empty _ _, best_empty _ _, List.nodup_nil, List.nodup_nil, fun x h => h, fun x h => h⟩
  | g :: gs, s, h, hE => by
    obtain ⟨h1, h2, h3, h4, h5⟩ := h
    subst h1
    have len : σ.length = n := by rw [hσ.length_eq, List.length_range]
    obtain ⟨b1, b2⟩ := idx_in h5
    have memE : ∀ a b, (a, b) ∈ idx (g :: gs) ↔ (a, b) ∈ idxG g ∨ (a, b) ∈ idx gs := fun a b => by
      unfold idx
      rw [List.flatMap_cons, List.mem_append]
    have e1 : ∀ a b, g.1 ≤ a → a < g.1 + g.2.1 → ((a, b) ∈ E ↔ (a, b) ∈ idxG g) ∧ ((b, a) ∈ E ↔ (b, a) ∈ idxG g) := fun a b ha hb => by
      rw [hE a b (.inl ha), hE b a (.inr ha), memE, memE]
      refine ⟨⟨fun z => z.resolve_right fun w => ?_, .inl⟩, ⟨fun z => z.resolve_right fun w => ?_, .inl⟩⟩
      · have := b2 a b w
        omega
      · have := b2 b a w
        omega
    have e2 : ∀ a b, g.1 + g.2.1 ≤ a ∨ g.1 + g.2.1 ≤ b → ((a, b) ∈ E ↔ (a, b) ∈ idx gs) := fun a b hab => by
      rw [hE a b (by omega), memE]
      refine ⟨fun z => z.resolve_left fun w => ?_, .inr⟩
      have := mem_idxG.mp w
      omega
    obtain ⟨g1, g2, g3, g4, g5⟩ := group_best hσ G hN h2 h4 b1 e1
    obtain ⟨r1, r2, r3, r4, r5, r6⟩ := groups_best h5 e2
    have split : σ.drop g.1 = pts σ g ++ σ.drop (g.1 + g.2.1) := by
      unfold pts
      rw [← List.drop_drop, List.take_append_drop]
    have nd : σ.Nodup := hσ.nodup_iff.mpr List.nodup_range
    have disj : ∀ x, x ∈ pts σ g → x ∈ σ.drop (g.1 + g.2.1) → False := fun x hx hy => by
      obtain ⟨a, a1, a2, a3, rfl⟩ := mem_pts.mp hx
      obtain ⟨b, c1, c2, c3⟩ := mem_dropD.mp hy
      have := pinj hσ (by omega) (by omega) c3
      omega
    have dj : mk (pts σ g) &&& mk (σ.drop (g.1 + g.2.1)) = 0 := zero_of fun i => by
      rw [Nat.testBit_and, tb_mk, tb_mk, Bool.eq_false_iff]
      intro z
      rw [Bool.and_eq_true, decide_eq_true_iff, decide_eq_true_iff] at z
      exact disj i z.1 z.2
    have ap : Apart (nr N) (mk (pts σ g)) (mk (σ.drop (g.1 + g.2.1))) := fun i j hi hj => by
      rw [tb_mk, decide_eq_true_iff] at hi hj
      obtain ⟨a, a1, a2, a3, rfl⟩ := mem_pts.mp hi
      obtain ⟨b, c1, c2, rfl⟩ := mem_dropD.mp hj
      rw [Bool.eq_false_iff]
      intro z
      rw [hN a b (by omega) (by omega), (e1 a b a1 a2).1, (e1 a b a1 a2).2, mem_idxG, mem_idxG] at z
      omega
    have ef : (g :: gs).map (few σ) = [few σ g] ++ gs.map (few σ) := rfl
    have em : (g :: gs).flatMap (most σ) = most σ g ++ gs.flatMap (most σ) := List.flatMap_cons ..
    rw [ef, em, split, mk_append, mk_append, mk_append]
    refine ⟨best_join G.gr (.inl rfl) dj ap g1 r1, best_join G.gr (.inr rfl) dj ap g2 r2, ?_, ?_, fun x hx => ?_, fun x hx => ?_⟩
    · refine List.nodup_cons.mpr ⟨fun hx => disj _ g4 (r5 _ hx), r3⟩
    · refine List.nodup_append.mpr ⟨g5, r4, fun a ha b hb e => ?_⟩
      subst e
      exact disj _ (g3 _ ha) (r6 _ hb)
    · rcases List.mem_append.mp hx with hx | hx
      · rw [List.mem_singleton.mp hx]
        exact List.mem_append.mpr (.inl g4)
      · exact List.mem_append.mpr (.inr (r5 x hx))
    · rcases List.mem_append.mp hx with hx | hx
      · exact List.mem_append.mpr (.inl (g3 x hx))
      · exact List.mem_append.mpr (.inr (r6 x hx))
end
end Mi
end

section
set_option Elab.async false
set_option maxRecDepth 100000
namespace Sil
open PySem L2
def top (i : Nat) : Stmt := PySem.Challenge.pw_silencers_k20_whole_smallest_and_greates.main.body.getD i (.Pass ⟨0, 0, 0, 0⟩)
abbrev s_is_integer : Stmt := top 6
abbrev s_is_between : Stmt := top 7
abbrev s_is_pair : Stmt := top 8
abbrev s_is_lot : Stmt := top 9
abbrev s_check_number : Stmt := top 10
abbrev s_bits_of : Stmt := top 11
abbrev s_lowest : Stmt := top 12
abbrev s_lot_of : Stmt := top 13
abbrev s_many_of : Stmt := top 14
abbrev s_is_tie : Stmt := top 17
abbrev s_web_of : Stmt := top 19
abbrev s_moved_on : Stmt := top 20
abbrev s_beside : Stmt := top 21
abbrev s_row : Stmt := top 22
abbrev s_silenced : Stmt := top 24
abbrev s_changing : Stmt := top 25
abbrev s_is_rest_bits : Stmt := top 26
abbrev s_is_rest : Stmt := top 27
abbrev s_piece_from : Stmt := top 29
abbrev s_pieces_within : Stmt := top 30
abbrev s_fork : Stmt := top 33
abbrev s_listed_from : Stmt := top 35
abbrev s_rests_within : Stmt := top 36
abbrev s_many_rests : Stmt := top 37
abbrev s_check_listed : Stmt := top 38
abbrev s_best_by_pieces : Stmt := top 39
abbrev s_rest_sizes : Stmt := top 40
abbrev s_smallest_rest : Stmt := top 41
abbrev s_greatest_rest : Stmt := top 42
abbrev s_law_is_integer : Stmt := top 44
abbrev s_law_source : Stmt := top 45
abbrev s_law_draw : Stmt := top 46
abbrev s_law_perm : Stmt := top 47
abbrev s_law_ties : Stmt := top 48
abbrev s_law_size : Stmt := top 49
abbrev s_law_near : Stmt := top 50
abbrev s_law_lot : Stmt := top 51
abbrev s_law_is_rest : Stmt := top 52
abbrev s_law_rests : Stmt := top 53
abbrev s_law_same : Stmt := top 54
abbrev s_law_least : Stmt := top 55
abbrev s_law_same_dict : Stmt := top 56
abbrev s_law_groups_hold : Stmt := top 57
abbrev s_law : Stmt := top 58
abbrev m_Web_init : Stmt := inClass (top 18) 0
abbrev m_Web_begin : Stmt := inClass (top 18) 1
abbrev m_Web_eq : Stmt := inClass (top 18) 2
abbrev m_Counter_init : Stmt := inClass (top 34) 0
abbrev m_Counter_of : Stmt := inClass (top 34) 1
abbrev m_Counter_of_piece : Stmt := inClass (top 34) 2
abbrev n_is_integer : List Str := ["thing"]
theorem sc_is_integer : FnScope n_is_integer ["thing"] (defScope s_is_integer) := by
  refine ⟨rfl, rfl, rfl, ?_, rfl, ?_, ?_⟩ <;> decide +kernel
abbrev n_is_between : List Str := ["thing", "least", "most"]
theorem sc_is_between : FnScope n_is_between ["thing", "least", "most"] (defScope s_is_between) := by
  refine ⟨rfl, rfl, rfl, ?_, rfl, ?_, ?_⟩ <;> decide +kernel
abbrev n_is_pair : List Str := ["thing"]
theorem sc_is_pair : FnScope n_is_pair ["thing"] (defScope s_is_pair) := by
  refine ⟨rfl, rfl, rfl, ?_, rfl, ?_, ?_⟩ <;> decide +kernel
abbrev n_is_lot : List Str := ["thing", "many", "last", "item"]
theorem sc_is_lot : FnScope n_is_lot ["thing", "many"] (defScope s_is_lot) := by
  refine ⟨rfl, rfl, rfl, ?_, rfl, ?_, ?_⟩ <;> decide +kernel
abbrev n_check_number : List Str := ["thing", "least", "most"]
theorem sc_check_number : FnScope n_check_number ["thing", "least", "most"] (defScope s_check_number) := by
  refine ⟨rfl, rfl, rfl, ?_, rfl, ?_, ?_⟩ <;> decide +kernel
abbrev n_bits_of : List Str := ["lot", "found", "item"]
theorem sc_bits_of : FnScope n_bits_of ["lot"] (defScope s_bits_of) := by
  refine ⟨rfl, rfl, rfl, ?_, rfl, ?_, ?_⟩ <;> decide +kernel
abbrev n_lowest : List Str := ["bits"]
theorem sc_lowest : FnScope n_lowest ["bits"] (defScope s_lowest) := by
  refine ⟨rfl, rfl, rfl, ?_, rfl, ?_, ?_⟩ <;> decide +kernel
abbrev n_lot_of : List Str := ["bits", "found"]
theorem sc_lot_of : FnScope n_lot_of ["bits"] (defScope s_lot_of) := by
  refine ⟨rfl, rfl, rfl, ?_, rfl, ?_, ?_⟩ <;> decide +kernel
abbrev n_many_of : List Str := ["bits"]
theorem sc_many_of : FnScope n_many_of ["bits"] (defScope s_many_of) := by
  refine ⟨rfl, rfl, rfl, ?_, rfl, ?_, ?_⟩ <;> decide +kernel
abbrev n_is_tie : List Str := ["thing", "size"]
theorem sc_is_tie : FnScope n_is_tie ["thing", "size"] (defScope s_is_tie) := by
  refine ⟨rfl, rfl, rfl, ?_, rfl, ?_, ?_⟩ <;> decide +kernel
abbrev n_web_of : List Str := ["size", "pairs", "found", "ties", "one", "other"]
theorem sc_web_of : FnScope n_web_of ["size", "pairs"] (defScope s_web_of) := by
  refine ⟨rfl, rfl, rfl, ?_, rfl, ?_, ?_⟩ <;> decide +kernel
abbrev n_moved_on : List Str := ["ties", "many", "one", "other"]
theorem sc_moved_on : FnScope n_moved_on ["ties", "many"] (defScope s_moved_on) := by
  refine ⟨rfl, rfl, rfl, ?_, rfl, ?_, ?_⟩ <;> decide +kernel
abbrev n_beside : List Str := ["one", "other"]
theorem sc_beside : FnScope n_beside ["one", "other"] (defScope s_beside) := by
  refine ⟨rfl, rfl, rfl, ?_, rfl, ?_, ?_⟩ <;> decide +kernel
abbrev n_row : List Str := ["size", "part"]
theorem sc_row : FnScope n_row ["size"] (defScope s_row) := by
  refine ⟨rfl, rfl, rfl, ?_, rfl, ?_, ?_⟩ <;> decide +kernel
abbrev n_silenced : List Str := ["web", "bits", "found", "part"]
theorem sc_silenced : FnScope n_silenced ["web", "bits"] (defScope s_silenced) := by
  refine ⟨rfl, rfl, rfl, ?_, rfl, ?_, ?_⟩ <;> decide +kernel
abbrev n_changing : List Str := ["web", "bits", "right"]
theorem sc_changing : FnScope n_changing ["web", "bits"] (defScope s_changing) := by
  refine ⟨rfl, rfl, rfl, ?_, rfl, ?_, ?_⟩ <;> decide +kernel
abbrev n_is_rest_bits : List Str := ["web", "bits"]
theorem sc_is_rest_bits : FnScope n_is_rest_bits ["web", "bits"] (defScope s_is_rest_bits) := by
  refine ⟨rfl, rfl, rfl, ?_, rfl, ?_, ?_⟩ <;> decide +kernel
abbrev n_is_rest : List Str := ["web", "thing"]
theorem sc_is_rest : FnScope n_is_rest ["web", "thing"] (defScope s_is_rest) := by
  refine ⟨rfl, rfl, rfl, ?_, rfl, ?_, ?_⟩ <;> decide +kernel
abbrev n_piece_from : List Str := ["web", "bits", "part", "found", "edge", "reach", "other"]
theorem sc_piece_from : FnScope n_piece_from ["web", "bits", "part"] (defScope s_piece_from) := by
  refine ⟨rfl, rfl, rfl, ?_, rfl, ?_, ?_⟩ <;> decide +kernel
abbrev n_pieces_within : List Str := ["web", "bits", "found", "piece"]
theorem sc_pieces_within : FnScope n_pieces_within ["web", "bits"] (defScope s_pieces_within) := by
  refine ⟨rfl, rfl, rfl, ?_, rfl, ?_, ?_⟩ <;> decide +kernel
abbrev n_fork : List Str := ["web", "free", "shut", "best", "part", "here"]
theorem sc_fork : FnScope n_fork ["web", "free", "shut"] (defScope s_fork) := by
  refine ⟨rfl, rfl, rfl, ?_, rfl, ?_, ?_⟩ <;> decide +kernel
abbrev n_listed_from : List Str := ["web", "chosen", "free", "shut", "waiting", "found", "part", "near"]
theorem sc_listed_from : FnScope n_listed_from ["web", "chosen", "free", "shut"] (defScope s_listed_from) := by
  refine ⟨rfl, rfl, rfl, ?_, rfl, ?_, ?_⟩ <;> decide +kernel
abbrev n_rests_within : List Str := ["web", "free", "keep", "out"]
theorem sc_rests_within : FnScope n_rests_within ["web", "free", "keep"] (defScope s_rests_within) := by
  refine ⟨rfl, rfl, rfl, ?_, rfl, ?_, ?_⟩ <;> decide +kernel
abbrev n_many_rests : List Str := ["web"]
theorem sc_many_rests : FnScope n_many_rests ["web"] (defScope s_many_rests) := by
  refine ⟨rfl, rfl, rfl, ?_, rfl, ?_, ?_⟩ <;> decide +kernel
abbrev n_check_listed : List Str := ["number"]
theorem sc_check_listed : FnScope n_check_listed ["number"] (defScope s_check_listed) := by
  refine ⟨rfl, rfl, rfl, ?_, rfl, ?_, ?_⟩ <;> decide +kernel
abbrev n_best_by_pieces : List Str := ["web", "sign", "found", "piece", "lots", "bits", "lot"]
theorem sc_best_by_pieces : FnScope n_best_by_pieces ["web", "sign"] (defScope s_best_by_pieces) := by
  refine ⟨rfl, rfl, rfl, ?_, rfl, ?_, ?_⟩ <;> decide +kernel
abbrev n_rest_sizes : List Str := ["web", "found", "rest", "many"]
theorem sc_rest_sizes : FnScope n_rest_sizes ["web"] (defScope s_rest_sizes) := by
  refine ⟨rfl, rfl, rfl, ?_, rfl, ?_, ?_⟩ <;> decide +kernel
abbrev n_smallest_rest : List Str := ["web"]
theorem sc_smallest_rest : FnScope n_smallest_rest ["web"] (defScope s_smallest_rest) := by
  refine ⟨rfl, rfl, rfl, ?_, rfl, ?_, ?_⟩ <;> decide +kernel
abbrev n_greatest_rest : List Str := ["web"]
theorem sc_greatest_rest : FnScope n_greatest_rest ["web"] (defScope s_greatest_rest) := by
  refine ⟨rfl, rfl, rfl, ?_, rfl, ?_, ?_⟩ <;> decide +kernel
abbrev n_law_is_integer : List Str := ["_law_thing"]
theorem sc_law_is_integer : FnScope n_law_is_integer ["_law_thing"] (defScope s_law_is_integer) := by
  refine ⟨rfl, rfl, rfl, ?_, rfl, ?_, ?_⟩ <;> decide +kernel
abbrev n_law_source : List Str := ["_law_script", "_law_k", "_law_fold", "_law_item", "_law_cell"]
theorem sc_law_source : FnScope n_law_source ["_law_script", "_law_k"] (defScope s_law_source) := by
  refine ⟨rfl, rfl, rfl, ?_, rfl, ?_, ?_⟩ <;> decide +kernel
abbrev n_law_draw : List Str := ["_law_source_here", "_law_many", "_law_got", "_law_number"]
theorem sc_law_draw : FnScope n_law_draw ["_law_source_here", "_law_many"] (defScope s_law_draw) := by
  refine ⟨rfl, rfl, rfl, ?_, rfl, ?_, ?_⟩ <;> decide +kernel
abbrev n_law_perm : List Str := ["_law_source_here", "_law_many", "_law_left", "_law_found", "_law_k"]
theorem sc_law_perm : FnScope n_law_perm ["_law_source_here", "_law_many"] (defScope s_law_perm) := by
  refine ⟨rfl, rfl, rfl, ?_, rfl, ?_, ?_⟩ <;> decide +kernel
abbrev n_law_ties : List Str := ["_law_source_here", "_law_size_here", "_law_style", "_law_names", "_law_found", "_law_one", "_law_other", "_law_pair", "_law_take"]
theorem sc_law_ties : FnScope n_law_ties ["_law_source_here", "_law_size_here"] (defScope s_law_ties) := by
  refine ⟨rfl, rfl, rfl, ?_, rfl, ?_, ?_⟩ <;> decide +kernel
abbrev n_law_size : List Str := ["_law_source_here", "_law_most"]
theorem sc_law_size : FnScope n_law_size ["_law_source_here", "_law_most"] (defScope s_law_size) := by
  refine ⟨rfl, rfl, rfl, ?_, rfl, ?_, ?_⟩ <;> decide +kernel
abbrev n_law_near : List Str := ["_law_size_here", "_law_ties_here", "_law_found", "_law_part", "_law_one", "_law_other"]
theorem sc_law_near : FnScope n_law_near ["_law_size_here", "_law_ties_here"] (defScope s_law_near) := by
  refine ⟨rfl, rfl, rfl, ?_, rfl, ?_, ?_⟩ <;> decide +kernel
abbrev n_law_lot : List Str := ["_law_bits", "_law_size_here", "_law_part"]
theorem sc_law_lot : FnScope n_law_lot ["_law_bits", "_law_size_here"] (defScope s_law_lot) := by
  refine ⟨rfl, rfl, rfl, ?_, rfl, ?_, ?_⟩ <;> decide +kernel
abbrev n_law_is_rest : List Str := ["_law_near_here", "_law_bits", "_law_part"]
theorem sc_law_is_rest : FnScope n_law_is_rest ["_law_near_here", "_law_bits"] (defScope s_law_is_rest) := by
  refine ⟨rfl, rfl, rfl, ?_, rfl, ?_, ?_⟩ <;> decide +kernel
abbrev n_law_rests : List Str := ["_law_size_here", "_law_ties_here", "_law_near_here", "_law_bits"]
theorem sc_law_rests : FnScope n_law_rests ["_law_size_here", "_law_ties_here"] (defScope s_law_rests) := by
  refine ⟨rfl, rfl, rfl, ?_, rfl, ?_, ?_⟩ <;> decide +kernel
abbrev n_law_same : List Str := ["_law_told", "_law_due", "_law_one", "_law_other"]
theorem sc_law_same : FnScope n_law_same ["_law_told", "_law_due"] (defScope s_law_same) := by
  refine ⟨rfl, rfl, rfl, ?_, rfl, ?_, ?_⟩ <;> decide +kernel
abbrev n_law_least : List Str := ["_law_lots", "_law_sign", "_law_best", "_law_lot_here"]
theorem sc_law_least : FnScope n_law_least ["_law_lots", "_law_sign"] (defScope s_law_least) := by
  refine ⟨rfl, rfl, rfl, ?_, rfl, ?_, ?_⟩ <;> decide +kernel
abbrev n_law_same_dict : List Str := ["_law_told", "_law_due", "_law_key"]
theorem sc_law_same_dict : FnScope n_law_same_dict ["_law_told", "_law_due"] (defScope s_law_same_dict) := by
  refine ⟨rfl, rfl, rfl, ?_, rfl, ?_, ?_⟩ <;> decide +kernel
abbrev n_law_groups_hold : List Str := ["_law_source_here", "_law_groups", "_law_size_here", "_law_turn", "_law_many", "_law_star", "_law_names", "_law_ties_here", "_law_few", "_law_most", "_law_group", "_law_parts", "_law_part", "_law_at", "_law_web"]
theorem sc_law_groups_hold : FnScope n_law_groups_hold ["_law_source_here"] (defScope s_law_groups_hold) := by
  refine ⟨rfl, rfl, rfl, ?_, rfl, ?_, ?_⟩ <;> decide +kernel
abbrev n_law : List Str := ["_law_script", "_law_k", "_law_source_here", "_law_size_here", "_law_ties_here", "_law_web", "_law_every", "_law_sizes", "_law_lot_here", "_law_told", "_law_more", "_law_other", "_law_both", "_law_moved", "_law_part", "_law_here", "_law_there", "_law_mine", "_law_yours", "_law_many", "_law_one", "_law_two"]
theorem sc_law : FnScope n_law ["_law_script"] (defScope s_law) := by
  refine ⟨rfl, rfl, rfl, ?_, rfl, ?_, ?_⟩ <;> decide +kernel
abbrev n_Web_init : List Str := ["self", "size", "ties", "number", "item"]
theorem sc_Web_init : FnScope n_Web_init ["self", "size", "ties"] (defScope m_Web_init) := by
  refine ⟨rfl, rfl, rfl, ?_, rfl, ?_, ?_⟩ <;> decide +kernel
abbrev n_Web_begin : List Str := ["self", "size", "ties", "one", "other"]
theorem sc_Web_begin : FnScope n_Web_begin ["self", "size", "ties"] (defScope m_Web_begin) := by
  refine ⟨rfl, rfl, rfl, ?_, rfl, ?_, ?_⟩ <;> decide +kernel
abbrev n_Web_eq : List Str := ["self", "other"]
theorem sc_Web_eq : FnScope n_Web_eq ["self", "other"] (defScope m_Web_eq) := by
  refine ⟨rfl, rfl, rfl, ?_, rfl, ?_, ?_⟩ <;> decide +kernel
abbrev n_Counter_init : List Str := ["self", "web"]
theorem sc_Counter_init : FnScope n_Counter_init ["self", "web"] (defScope m_Counter_init) := by
  refine ⟨rfl, rfl, rfl, ?_, rfl, ?_, ?_⟩ <;> decide +kernel
abbrev n_Counter_of : List Str := ["self", "free", "shut", "found", "piece"]
theorem sc_Counter_of : FnScope n_Counter_of ["self", "free", "shut"] (defScope m_Counter_of) := by
  refine ⟨rfl, rfl, rfl, ?_, rfl, ?_, ?_⟩ <;> decide +kernel
abbrev n_Counter_of_piece : List Str := ["self", "free", "shut", "total", "left", "out", "part", "near"]
theorem sc_Counter_of_piece : FnScope n_Counter_of_piece ["self", "free", "shut"] (defScope m_Counter_of_piece) := by
  refine ⟨rfl, rfl, rfl, ?_, rfl, ?_, ?_⟩ <;> decide +kernel
/-- a def of the text where it stands -/
structure DefAt (K : PySem.W.Frag) (mg : Str → Option Value) (x : Str) (st : Stmt) (ps : List Str) where
  f : Addr
  fd : FuncData
  F : Fun K x x st f fd
  b : Binds K fd ps []
  g : mg x = some (.ref f)
/-- a method -/
structure MethAt (K : PySem.W.Frag) (C : Addr) (m qual : Str) (st : Stmt) (ps : List Str) where
  f : Addr
  fd : FuncData
  F : Fun K m qual st f fd
  b : Binds K fd ps []
  g : Meth K C m f
structure MakeAt (K : PySem.W.Frag) (C : Addr) (qual : Str) (st : Stmt) (ps : List Str) where
  f : Addr
  fd : FuncData
  F : Fun K "__init__" qual st f fd
  b : Binds K fd ps []
  m : Mk K C f
/-- an int at the top -/
structure ConAt (mg : Str → Option Value) (x : Str) (n : Int) where
  t : Tok
  g : mg x = some (.int n t)
/-- what the top has written -/
structure Txt (K : PySem.W.Frag) (mg : Str → Option Value) where
  is_integer : DefAt K mg "is_integer" s_is_integer ["thing"]
  is_between : DefAt K mg "is_between" s_is_between ["thing", "least", "most"]
  is_pair : DefAt K mg "is_pair" s_is_pair ["thing"]
  is_lot : DefAt K mg "is_lot" s_is_lot ["thing", "many"]
  check_number : DefAt K mg "check_number" s_check_number ["thing", "least", "most"]
  bits_of : DefAt K mg "bits_of" s_bits_of ["lot"]
  lowest : DefAt K mg "lowest" s_lowest ["bits"]
  lot_of : DefAt K mg "lot_of" s_lot_of ["bits"]
  many_of : DefAt K mg "many_of" s_many_of ["bits"]
  is_tie : DefAt K mg "is_tie" s_is_tie ["thing", "size"]
  web_of : DefAt K mg "web_of" s_web_of ["size", "pairs"]
  moved_on : DefAt K mg "moved_on" s_moved_on ["ties", "many"]
  beside : DefAt K mg "beside" s_beside ["one", "other"]
  row : DefAt K mg "row" s_row ["size"]
  silenced : DefAt K mg "silenced" s_silenced ["web", "bits"]
  changing : DefAt K mg "changing" s_changing ["web", "bits"]
  is_rest_bits : DefAt K mg "is_rest_bits" s_is_rest_bits ["web", "bits"]
  is_rest : DefAt K mg "is_rest" s_is_rest ["web", "thing"]
  piece_from : DefAt K mg "piece_from" s_piece_from ["web", "bits", "part"]
  pieces_within : DefAt K mg "pieces_within" s_pieces_within ["web", "bits"]
  fork : DefAt K mg "fork" s_fork ["web", "free", "shut"]
  listed_from : DefAt K mg "listed_from" s_listed_from ["web", "chosen", "free", "shut"]
  rests_within : DefAt K mg "rests_within" s_rests_within ["web", "free", "keep"]
  many_rests : DefAt K mg "many_rests" s_many_rests ["web"]
  check_listed : DefAt K mg "check_listed" s_check_listed ["number"]
  best_by_pieces : DefAt K mg "best_by_pieces" s_best_by_pieces ["web", "sign"]
  rest_sizes : DefAt K mg "rest_sizes" s_rest_sizes ["web"]
  smallest_rest : DefAt K mg "smallest_rest" s_smallest_rest ["web"]
  greatest_rest : DefAt K mg "greatest_rest" s_greatest_rest ["web"]
  law_is_integer : DefAt K mg "_law_is_integer" s_law_is_integer ["_law_thing"]
  law_source : DefAt K mg "_law_source" s_law_source ["_law_script", "_law_k"]
  law_draw : DefAt K mg "_law_draw" s_law_draw ["_law_source_here", "_law_many"]
  law_perm : DefAt K mg "_law_perm" s_law_perm ["_law_source_here", "_law_many"]
  law_ties : DefAt K mg "_law_ties" s_law_ties ["_law_source_here", "_law_size_here"]
  law_size : DefAt K mg "_law_size" s_law_size ["_law_source_here", "_law_most"]
  law_near : DefAt K mg "_law_near" s_law_near ["_law_size_here", "_law_ties_here"]
  law_lot : DefAt K mg "_law_lot" s_law_lot ["_law_bits", "_law_size_here"]
  law_is_rest : DefAt K mg "_law_is_rest" s_law_is_rest ["_law_near_here", "_law_bits"]
  law_rests : DefAt K mg "_law_rests" s_law_rests ["_law_size_here", "_law_ties_here"]
  law_same : DefAt K mg "_law_same" s_law_same ["_law_told", "_law_due"]
  law_least : DefAt K mg "_law_least" s_law_least ["_law_lots", "_law_sign"]
  law_same_dict : DefAt K mg "_law_same_dict" s_law_same_dict ["_law_told", "_law_due"]
  law_groups_hold : DefAt K mg "_law_groups_hold" s_law_groups_hold ["_law_source_here"]
  law : DefAt K mg "law" s_law ["_law_script"]
  MOST_PARTS : ConAt mg "MOST_PARTS" 24
  MOST_LISTED : ConAt mg "MOST_LISTED" 2000
  CWeb : Addr
  gWeb : mg "Web" = some (.ref CWeb)
  cWeb : Cls K CWeb
  CCounter : Addr
  gCounter : mg "Counter" = some (.ref CCounter)
  cCounter : Cls K CCounter
  na_Web_size : NoAttr K CWeb "size"
  na_Web_ties : NoAttr K CWeb "ties"
  na_Web_whole : NoAttr K CWeb "whole"
  na_Web_near : NoAttr K CWeb "near"
  na_Counter_web : NoAttr K CCounter "web"
  na_Counter_known : NoAttr K CCounter "known"
  Web_init : MakeAt K CWeb "Web.__init__" m_Web_init ["self", "size", "ties"]
  Web_begin : MethAt K CWeb "begin" "Web.begin" m_Web_begin ["self", "size", "ties"]
  Counter_init : MakeAt K CCounter "Counter.__init__" m_Counter_init ["self", "web"]
  Counter_of : MethAt K CCounter "of" "Counter.of" m_Counter_of ["self", "free", "shut"]
  Counter_of_piece : MethAt K CCounter "of_piece" "Counter.of_piece" m_Counter_of_piece ["self", "free", "shut"]
  b_isinstance : mg "isinstance" = none
  b_int : mg "int" = none
  b_bool : mg "bool" = none
  b_tuple : mg "tuple" = none
  b_list : mg "list" = none
  b_len : mg "len" = none
  b_enumerate : mg "enumerate" = none
  b_range : mg "range" = none
  b_min : mg "min" = none
  b_max : mg "max" = none
  b_sorted : mg "sorted" = none
  b_set : mg "set" = none
  b_all : mg "all" = none
  b_zip : mg "zip" = none
  b_dict : mg "dict" = none
  b_str : mg "str" = none
end Sil
end

section
set_option Elab.async false
set_option maxRecDepth 100000
set_option maxHeartbeats 4000000
set_option linter.all false
namespace Sil
open PySem L2
/-! ### enumerate over a tuple -/
set_option maxHeartbeats 4000000 in
theorem enum_new1 {v : Value} {o : Obj} {H : Heap → Prop} (B : Begins v o H) :
    Meets (Builtin.«enumerate.__new__» ⟨[.type "enumerate", v], []⟩) (fun _ R s => H s.heap ∧
      R (.ok (.ret (.ref (s.heap.push o).objs.size))) { s with heap := (s.heap.push o).push { cls := .type "enumerate", data := .fields #[.none, .bool false, .ref s.heap.objs.size, rawInt 0, .none, .none] } }) :=
  .of_wp fun prog w A R s h => by
    obtain ⟨hp, g, d, tk, os⟩ := s
    obtain ⟨h1, h⟩ := h
    have hsub := sub_enumerate
    have q1 : ∀ {A' : Around} {E : Value → Shared → Prop} {Q : Value → Shared → Prop}, Q (.ref hp.objs.size) ⟨hp.push o, g, d, tk, os⟩ → wpAny (model prog w) A' (pyIter v) Q E ⟨hp, g, d, tk, os⟩ :=
      fun q => B.iter prog w _ _ ⟨hp, g, d, tk, os⟩ _ h1 q
    wp_walk using q1
    refine wpAny_stack_any fun st => wpAny_pure ?_
    split
    · rename_i c _ _ _ _ _
      cases (c == Value.type "enumerate")
      · wp_walk using q1
        exact ⟨_, rfl, h⟩
      · wp_walk using q1
        exact ⟨_, rfl, h⟩
    · wp_walk using q1
      exact ⟨_, rfl, h⟩
theorem enum_call1 {prog : Program} {w : World} {A : Around} {E : Value → Shared → Prop} {s : Shared} {v : Value} {o : Obj} {H : Heap → Prop} {Q : Value → Shared → Prop} (B : Begins v o H) (h1 : H s.heap)
    (h : ∀ h', IsEnum h' (s.heap.objs.size + 1) s.heap.objs.size 0 .none → h'.get? s.heap.objs.size = some o → h'.objs.size = s.heap.objs.size + 2 →
      (∀ b o, s.heap.get? b = some o → h'.get? b = some o) → Q (.ref (s.heap.objs.size + 1)) { s with heap := h' }) :
    wpAny (model prog w) A (call (.type "enumerate") [v]) Q E s := by
  refine callType_new F.called_enumerate (by decide) (F.typeCall_enumerate_1 _) (F.newCall_enumerate_1 _) (fun obj => F.args_object_init_2 obj _) F.entry_enumerate_new (enum_new1 B) ⟨h1, ?_⟩
  have hz : (s.heap.push o).objs.size = s.heap.objs.size + 1 := Heap.size_push ..
  show _ ∧ _
  rw [hz]
  have he : IsEnum ((s.heap.push o).push { cls := .type "enumerate", data := .fields #[.none, .bool false, .ref s.heap.objs.size, rawInt 0, .none, .none] }) (s.heap.objs.size + 1) s.heap.objs.size 0 .none := by
    have := Heap.get?_push_size (s.heap.push o) (o := { cls := .type "enumerate", data := .fields #[.none, .bool false, .ref s.heap.objs.size, rawInt 0, .none, .none] }) rfl
    rw [hz] at this
    exact this
  refine ⟨⟨_, he, rfl⟩, h _ he (Heap.get?_push_of_some _ (Heap.get?_push_size _ B.free)) (by rw [Heap.size_push, hz]) fun b o x => Heap.get?_push_of_some _ (Heap.get?_push_of_some _ x)⟩
def IteT (K : PySem.W.Frag) (a : Addr) : It :=
  ⟨fun i H => ∃ (xs : List V) (x : V), SqT K H a xs ∧ xs[i]? = some x, fun i H v H' => ∃ T x, v = .ref T ∧ H T = none ∧ H' = upd H T (.tup [.int (i : Nat), x]) ∧ ∀ xs, SqT K H a xs → xs[i]? = some x,
    fun i H => ∃ xs : List V, SqT K H a xs ∧ xs.length ≤ i⟩
theorem turn_enumT {P : Program} {w : World} {K : PySem.W.Frag} {elts : List Expr} {kk : Nat} {tpos : Pos} (a e it : Addr) (hae : a ≠ it) :
    Turn P w K (.Tuple elts kk tpos) (IteT K a) [e, it] e (fun i h => (∃ old, IsEnum h e it ((i : Nat) : Int) old) ∧ h.IsTupleIter it a i ∧ e ≠ it) where
  mem := by simp
  obj := fun i h st b hb => by
    obtain ⟨⟨old, he⟩, ⟨o, ho, hc, hd⟩, _⟩ := st
    have e' : b = e ∨ b = it := by simpa using hb
    rcases e' with z | z
    · rw [z]; exact ⟨_, he, fun v q => nomatch q⟩
    · rw [z]; exact ⟨o, ho, fun v q => by rw [hd] at q; cases q⟩
  keep := fun i h h' st k => let ⟨⟨old, he⟩, hi, hne⟩ := st; ⟨⟨old, k e (by simp) _ he⟩, hi.at fun o q => k it (by simp) o q, hne⟩
  item := by
    intro X hP hw hK hc i pins s σ H E I hf st hg
    subst hP hw hK
    obtain ⟨⟨old, he⟩, hit, hne⟩ := st
    obtain ⟨xs, x, hq, hx⟩ := hg
    obtain ⟨its, rv, p, hz⟩ := I.tuple hq
    obtain ⟨u, hu, ru⟩ := rv.get hx
    have hel : e < s.heap.objs.size := Heap.lt_size he
    have hil : it < s.heap.objs.size := by obtain ⟨_, q, _⟩ := hit; exact Heap.lt_size q
    have hlt : i < its.toArray.size := by
      obtain ⟨h1, _⟩ := List.getElem?_eq_some_iff.mp hu
      simpa using h1
    have p' : s.heap.IsTuple a its.toArray := p
    by_cases hea : e = a
    · exfalso
      obtain ⟨oT, h1, h2, _⟩ := p'
      rw [← hea] at h1
      rw [he] at h1
      cases h1
      exact absurd (show Value.type "enumerate" = Value.type "tuple" from h2) (by decide +kernel)
    refine wpAny_pyNext_enum_itemD (Draws.tuple (prog := X.prog) (w := X.w) (A := X.A.in1) (I.ok.hd hc) it a hae its.toArray) he ⟨hit, p'⟩ hlt hne (by simp [hne, hea]) fun x1 h' tk hx1 ho hst' hT hsz hk => ?_
    have ex : x1 = u := by
      have h2 : its.toArray[i]? = some u := by simpa using hu
      rw [h2] at hx1
      exact (Option.some.inj hx1).symm
    subst ex
    refine ⟨_, rfl, wpAny_letOwnedTupleGo_enum (s := { s with heap := h', toks := tk + 1 }) ho fun h'' he' sb => ?_⟩
    have hT2 : h''.get? s.heap.objs.size = some { cls := .type "tuple", data := .seq #[.int i tk, x1] } := (sb.2 _ (Nat.ne_of_gt hel)).trans hT
    have new : ObjOk X.prog X.w (upd H s.heap.objs.size (.tup [.int (i : Nat), x])) h'' s.heap.objs.size (.tup [.int (i : Nat), x]) :=
      ⟨by show 2 ≤ sizeLine; decide, [.int i tk, x1], .cons ⟨_, rfl⟩ (.cons ru .nil), ⟨_, hT2, rfl, _, rfl⟩⟩
    have I1 : L2.Inv X pins σ (upd H s.heap.objs.size (.tup [.int (i : Nat), x])) { s with heap := h'', toks := tk + 1 } :=
      I.turnedNew (ch := [e, it]) (fun b ob hb q => (sb.2 b (fun z => hb (by simp [z]))).trans (hk b ob (fun z => hb (by simp [z])) (fun z => hb (by simp [z])) q)) hf (Nat.le_refl _) new
    refine ⟨.ref s.heap.objs.size, _, I1, rfl, ⟨_, x, rfl, I.hok.fresh (Nat.le_refl _), rfl, fun ys hy => by rw [I.tuple_inj hy hq]; exact hx⟩, ⟨⟨x1, ?_⟩, hst'.1.at fun o q => (sb.2 it (Ne.symm hne)).trans q, hne⟩, fun b hb => ?_⟩
    · have e1 : ((i + 1 : Nat) : Int) = (i : Int) + 1 := by omega
      rw [e1]; exact he'
    · have hb' : b < s.heap.objs.size := by
        have e' : b = e ∨ b = it := by simpa using hb
        rcases e' with z | z
        · rw [z]; exact hel
        · rw [z]; exact hil
      rw [upd_ne (Nat.ne_of_lt hb')]
      exact (hf b hb).1
  done := by
    intro X hP hw hK hc i pins s σ H E I hf st hg
    subst hP hw hK
    obtain ⟨⟨old, he⟩, hit, hne⟩ := st
    obtain ⟨xs, hq, hx⟩ := hg
    obtain ⟨its, rv, p, hz⟩ := I.tuple hq
    obtain ⟨f0, f1, f2, f3, f4, f5⟩ := hf it (by simp)
    have hl := rv.length
    have hT : s.TypeIs (.ref e) "enumerate" := ⟨_, he, rfl⟩
    unfold pyNext
    refine wpAny_bind (wpAny_attempt (wpAny_callSpecial?_slot (name := Str.ofString "__next__") hT F.slot_enumerate_next
      (wpAny_call_entry F.slot_enumerate_next hT F.entry_enumerate_next ?_ (F.args_enumerate_next_1 _))))
    show wpAny _ _ (field (.ref e) 2 >>= _) _ _ _
    refine wpAny_bind (wpAny_field he rfl (x := .ref it) rfl ?_)
    refine wpAny_bind (wpAny_nextOf_tuple_end (I.ok.hd hc) hit (show s.heap.IsTuple a its.toArray from p) (by simp; omega) fun h' x he' hx' => ?_)
    obtain ⟨o, ho, hc'⟩ := hx'
    refine wpAny_bind (wpAny_isInstance (T := "StopIteration") (b := true) ⟨o, ho, hc'⟩ isSubtype_stop ?_)
    exact wpAny_pure ⟨rfl, I.turned (t' := s.toks) (fun b o hb q => he' b o hb q) f0 f1 f3 f4 f5⟩
  self := fun A i s Q E st h => let ⟨⟨_, he⟩, _⟩ := st; wpAny_pyIter_enum he h
def iEnumT (K : PySem.W.Frag) (ta : TA) : TI := fun σ H R => ta σ H fun vs H1 => ∃ a xs, vs = [.ref a] ∧ SqT K H1 a xs ∧ R (IteT K a) H1
theorem pi_enumT {X : Cx} {e : Expr} {ta : TA} {p pos tpos : Pos} {elts : List Expr} {kk : Nat} (hg : Gl X "enumerate") (hm : X.mg "enumerate" = none) (ha : PA X [e] ta) (hs : starEach [e] X.env = [(false, eval e X.env)] := by rfl) :
    PI X (.Tuple elts kk tpos) (.Call (.Name "enumerate" p) [e] [] pos) (iEnumT X.K ta) := by
  refine ⟨fun pins s σ H R I h => ?_⟩
  refine PyProof.Rows.Call_ (ld_blt I hg hm PyProof.Rows.boot_enumerate (PyProof.Rows.callWith_type1 (thn (ha.run pos pins s σ H _ I h) fun us s1 ⟨vs, H1, I1, r1, q1⟩ => ?_) hs rfl))
  obtain ⟨a, xs, ex, hq, q⟩ := q1
  subst ex
  cases r1 with
  | cons r rr =>
    cases rr
    cases r
    obtain ⟨its, rv, p', hz⟩ := I1.tuple hq
    have pt : s1.heap.IsTuple a its.toArray := p'
    have hal : a < s1.heap.objs.size := by obtain ⟨_, q1, _⟩ := pt; exact Heap.lt_size q1
    refine enum_call1 (begins_tuple a its.toArray) pt fun h' he hit hsz hk => wpAny_pyIter_enum he ?_
    have I2 : L2.Inv X pins σ H1 { s1 with heap := h' } := I1.kept (t' := s1.toks) hk
    refine ⟨s1.heap.objs.size + 1, [s1.heap.objs.size + 1, s1.heap.objs.size], _, _, H1, rfl, I2, turn_enumT a (s1.heap.objs.size + 1) s1.heap.objs.size (Nat.ne_of_lt hal), ⟨⟨.none, he⟩, ⟨_, hit, rfl, rfl⟩, Nat.succ_ne_self _⟩, fun b hb => ?_, q⟩
    have e' : b = s1.heap.objs.size + 1 ∨ b = s1.heap.objs.size := by simpa using hb
    have hle : s1.heap.objs.size ≤ b := by
      rcases e' with z | z
      · rw [z]; exact Nat.le_add_right _ _
      · rw [z]; exact Nat.le_refl _
    exact I1.fpOk hle (I1.hok.fresh hle)
theorem walk_enumT {K : PySem.W.Frag} {a : Addr} {xs : List V} : Walk (IteT K a) xs.length (fun H => SqT K H a xs) (YPair (fun i => some (.int (i : Nat))) (fun i => xs[i]?)) := by
  refine ⟨fun i _ hi q => ⟨xs, xs[i], q, by simp [hi]⟩, fun _ q => ⟨xs, q, Nat.le_refl _⟩, fun i H v H' _ q y => ?_⟩
  obtain ⟨T, x, h1, h2, h3, h4⟩ := y
  exact ⟨T, .int (i : Nat), x, h1, h2, h3, rfl, h4 xs q⟩

/-! ### data in order: <, min, sorted -/
section
variable {X : Cx}
def rLtD (K : PySem.W.Frag) : R2 := fun x y H Q => ∃ d e, Dp K H x d ∧ Dp K H y e ∧ PySem.W.alike d e = true ∧ d ≠ .none ∧ d.depth ≤ 8 ∧ Q (.bl (PySem.W.dataLt d e)) H
theorem op_ltD (hu : X.A.units + 64 < cLine) : OpR X (compareOp .Lt) (rLtD X.K) := by
  intro pins s σ H x y v u Q I rx ry h
  obtain ⟨d, e, hd, he, al, nn, dep, q⟩ := h
  obtain ⟨as, r1⟩ := Dp.reads I d x v hd rx
  obtain ⟨bs, r2⟩ := Dp.reads I e y u he ry
  exact PySem.W.rcLt_alike d e X.A s v u as bs r1 r2 al nn (by omega) X.prog X.w X.xe _ ⟨.bl _, H, I, rfl, q⟩
/-- min(xs), xs a list of alike data -/
def rMinD (K : PySem.W.Frag) : List V → Hp → VK → Prop := fun vs H Q => ∃ (a : Addr) (xs : List V) (d : PyData) (ds : List PyData), vs = [.ref a] ∧ SqL K H a xs ∧ DpAll K H xs (d :: ds) ∧ PySem.W.AlikeAll (d :: ds) ∧ PyData.depthAll (d :: ds) ≤ 8 ∧
  ∀ (i : Nat) v, xs[i]? = some v → (d :: ds)[i]? = some (PySem.W.minD d ds) → Q v H
theorem dpAll_reads {pins : List (Addr × Obj)} {σ : St} {H : Hp} {s : Shared} (I : L2.Inv X pins σ H s) : ∀ {xs : List V} {us : List Value} {ds : List PyData}, Vals xs us → DpAll X.K H xs ds → ∃ as, ReadsAll s.heap us ds as
  | [], _, _, .nil, .nil => ⟨_, ReadsAll.nil⟩
  | _ :: _, _, _, .cons r rs, .cons h hs => by
    obtain ⟨as, a⟩ := Dp.reads I _ _ _ h r
    obtain ⟨bs, b⟩ := dpAll_reads I rs hs
    exact ⟨_, ReadsAll.cons a b⟩
theorem dpAll_len {K : PySem.W.Frag} {H : Hp} : ∀ {xs : List V} {ds : List PyData}, DpAll K H xs ds → xs.length = ds.length
  | _, _, .nil => rfl
  | _, _, .cons _ t => congrArg (· + 1) (dpAll_len t)
theorem dpAll_get {K : PySem.W.Frag} {H : Hp} : ∀ {xs : List V} {ds : List PyData} {i : Nat} {v : V} {d : PyData}, DpAll K H xs ds → xs[i]? = some v → ds[i]? = some d → Dp K H v d
  | _, _, _, _, _, .nil, h, _ => by simp at h
  | _, _, 0, _, _, .cons a _, h, h' => by
    simp at h h'
    subst h h'
    exact a
  | _, _, i + 1, _, _, .cons _ t, h, h' => dpAll_get t (by simpa using h) (by simpa using h')
theorem minD_mem (x : PyData) : ∀ xs : List PyData, PySem.W.minD x xs ∈ x :: xs := by
  unfold PySem.W.minD
  intro xs
  induction xs generalizing x with
  | nil => exact List.mem_cons_self
  | cons y ys ih =>
    rw [List.foldl_cons]
    rcases List.mem_cons.mp (ih (if PySem.W.dataLt y x = true then y else x)) with e | e
    · rw [e]
      split
      · exact List.mem_cons_of_mem _ List.mem_cons_self
      · exact List.mem_cons_self
    · exact List.mem_cons_of_mem _ (List.mem_cons_of_mem _ e)
theorem cr_minD (hc : X.calm = true) (hu : X.A.units + 64 < cLine) : CallR X (.builtin "min") (rMinD X.K) := by
  intro pins s σ H vs us Q I r h
  obtain ⟨a, xs, d, ds, rfl, hs, hd, al, dep, q⟩ := h
  obtain ⟨its, rv, hl, hz⟩ := I.list hs
  rw [Vals.ref1 r]
  obtain ⟨as, ra⟩ := dpAll_reads I rv hd
  refine PySem.W.min_list_data (I.ok.hd hc) hl.isList (by simpa using ra) al (by omega) fun i v h' tk bs hv rd hk => ?_
  have hv' : its[i]? = some v := by simpa using hv
  have il : i < xs.length := by
    rw [rv.length]
    exact (List.getElem?_eq_some_iff.mp hv').1
  have ix : xs[i]? = some xs[i] := List.getElem?_eq_getElem il
  obtain ⟨u, hu1, ru⟩ := rv.get ix
  rw [hv'] at hu1
  cases hu1
  have il2 : i < (d :: ds).length := by rw [← dpAll_len hd]; exact il
  have idx : (d :: ds)[i]? = some (d :: ds)[i] := List.getElem?_eq_getElem il2
  have dp := dpAll_get hd ix idx
  have J : L2.Inv X pins σ H { s with heap := h', toks := tk } := I.kept hk
  obtain ⟨cs, rc⟩ := Dp.reads J _ _ _ dp ru
  have e : (d :: ds)[i] = PySem.W.minD d ds := PySem.W.alike_unique _ _ _ _ _ (al.1 _ (List.getElem_mem _) _ (minD_mem d ds)) rc rd
  exact ⟨xs[i], H, J, ru, q i _ ix (by rw [idx, e])⟩
/-- sorted(xs), xs a list of alike data: the same items, in some order -/
def rSortD (K : PySem.W.Frag) : List V → Hp → VK → Prop := fun vs H Q => ∃ (a : Addr) (xs : List V) (ds : List PyData), vs = [.ref a] ∧ SqL K H a xs ∧ DpAll K H xs ds ∧ PySem.W.AllAlike ds ∧ PySem.W.Sortable ds ∧ PyData.depthAll ds ≤ 8 ∧
  ∀ (ys : List V) p, ys.Perm xs → H p = none → Q (.ref p) (upd H p (.lst ys))
theorem depth_mem {d : PyData} : ∀ {ds : List PyData}, d ∈ ds → d.depth ≤ PyData.depthAll ds
  | _ :: _, h => by
    rw [PyData.depthAll]
    rcases List.mem_cons.mp h with e | h
    · rw [e]; exact Nat.le_max_left _ _
    · exact Nat.le_trans (depth_mem h) (Nat.le_max_right _ _)
theorem each_zip {pins : List (Addr × Obj)} {σ : St} {H : Hp} {s : Shared} (I : L2.Inv X pins σ H s) : ∀ {xs : List V} {us : List Value} {ds : List PyData}, Vals xs us → DpAll X.K H xs ds →
    PySem.W.EachIs (fun v (b : V × PyData) => RelV b.1 v) us (xs.zip ds) ∧ PySem.W.EachIs (fun v (b : V × PyData) => ∃ as, Reads s.heap v b.2 as) us (xs.zip ds)
  | [], _, _, .nil, .nil => ⟨.nil, .nil⟩
  | _ :: _, _, _, .cons r rs, .cons h hs => by
    obtain ⟨e1, e2⟩ := each_zip I rs hs
    exact ⟨.cons r e1, .cons (Dp.reads I _ _ _ h r) e2⟩
theorem each_vals : ∀ {us : List Value} {bs : List (V × PyData)}, PySem.W.EachIs (fun v (b : V × PyData) => RelV b.1 v) us bs → Vals (bs.map Prod.fst) us
  | _, _, .nil => .nil
  | _, _, .cons r t => .cons r (each_vals t)
theorem zip_snd : ∀ {xs : List V} {ds : List PyData}, xs.length = ds.length → (xs.zip ds).map Prod.snd = ds
  | [], [], _ => rfl
  | x :: xs, d :: ds, h => congrArg (d :: ·) (zip_snd (Nat.succ.inj h))
theorem zip_fst : ∀ {xs : List V} {ds : List PyData}, xs.length = ds.length → (xs.zip ds).map Prod.fst = xs
  | [], [], _ => rfl
  | x :: xs, d :: ds, h => congrArg (x :: ·) (zip_fst (Nat.succ.inj h))
theorem cr_sortD (hu : X.A.units + 64 < cLine) : CallR X (.builtin "sorted") (rSortD X.K) := by
  intro pins s σ H vs us Q I r h
  obtain ⟨a, xs, ds, rfl, hs, hd, al, so, dep, q⟩ := h
  obtain ⟨its, rv, hl, hz⟩ := I.list hs
  rw [Vals.ref1 r]
  obtain ⟨e1, e2⟩ := each_zip I rv hd
  have el := dpAll_len hd
  have z2 := zip_snd el
  have zl : (xs.zip ds).length = xs.length := by rw [List.length_zip, ← el, Nat.min_self]
  refine PySem.W.sorted_data (enc := Prod.snd) hl.isList e1 e2 (by rw [z2]; exact al) (by rw [z2]; exact so) (by rw [zl]; exact hz) (fun b hb => ?_) fun out h1 h2 => ?_
  · have : b.2 ∈ ds := by rw [← z2]; exact List.mem_map.mpr ⟨b, hb, rfl⟩
    have := depth_mem this
    omega
  · have hv := each_vals h2
    obtain ⟨ep, he'⟩ := PyProof.Rows.sortedAll_at s.heap its out.toArray
    have hp : (((xs.zip ds).mergeSort (PySem.W.dataLe false Prod.snd)).map Prod.fst).Perm xs := by
      have := (List.mergeSort_perm (xs.zip ds) (PySem.W.dataLe false Prod.snd)).map Prod.fst
      rw [zip_fst el] at this
      exact this
    exact ⟨.ref _, upd H (s.heap.objs.size + 1) (.lst _), I.laid (t' := s.toks) (fun _ _ => PyProof.Rows.sortedAll_old) (Nat.le_succ _) ⟨by rw [hp.length_eq]; exact hz, out, ep, hv, he'⟩, rfl, q _ _ hp (I.hok.fresh (Nat.le_succ _))⟩
end
/-! ### lots as data -/
def dI (l : List Int) : PyData := .tuple (l.map .int)
theorem dp_ints {K : PySem.W.Frag} {H : Hp} : ∀ l : List Int, DpAll K H (l.map V.int) (l.map .int)
  | [] => .nil
  | x :: l => .cons (.int x) (dp_ints l)
theorem dp_tup {K : PySem.W.Frag} {H : Hp} {a : Addr} {l : List Int} (h : SqT K H a (l.map V.int)) : Dp K H (.ref a) (dI l) := .tup h (dp_ints l)
theorem alike_dI (l m : List Int) : PySem.W.alike (dI l) (dI m) = true := by
  show PySem.W.alike (.tuple _) (.tuple _) = true
  rw [PySem.W.alike]
  exact PySem.W.alike_ints l m
end Sil
end

section
set_option Elab.async false
set_option maxRecDepth 100000
set_option maxHeartbeats 4000000
set_option linter.all false
namespace Sil
open PySem L2 Mi
/-! ### masks -/
def rN2 (g : Nat → Nat → Nat) : R2 := fun x y H Q => ∃ a b : Nat, x = .int (a : Int) ∧ y = .int (b : Int) ∧ Q (.int ((g a b : Nat) : Int)) H
section
variable {X : Cx}
theorem op_orN : OpR X (binaryOp .BitOr) (rN2 (· ||| ·)) := by
  intro pins s σ H x y v u Q I rx ry h
  obtain ⟨a, b, rfl, rfl, q⟩ := h
  refine op_or pins s σ H _ _ v u Q I rx ry ⟨_, _, rfl, rfl, ?_⟩
  show Q (.int (Builtin.bitOr (a : Int) (b : Int))) H
  rw [bitOr_nn (Int.natCast_nonneg _) (Int.natCast_nonneg _)]
  exact q
theorem op_andN : OpR X (binaryOp .BitAnd) (rN2 (· &&& ·)) := by
  intro pins s σ H x y v u Q I rx ry h
  obtain ⟨a, b, rfl, rfl, q⟩ := h
  refine op_and pins s σ H _ _ v u Q I rx ry ⟨_, _, rfl, rfl, ?_⟩
  show Q (.int (Builtin.bitAnd (a : Int) (b : Int))) H
  rw [PyProof.Rows.bitAnd_pp (Int.natCast_nonneg _) (Int.natCast_nonneg _)]
  exact q
def rSd : R2 := fun x y H Q => ∃ a b : Nat, x = .int (a : Int) ∧ y = .int (Builtin.bitNot (b : Int)) ∧ Q (.int ((sd a b : Nat) : Int)) H
theorem op_sdN : OpR X (binaryOp .BitAnd) rSd := by
  intro pins s σ H x y v u Q I rx ry h
  obtain ⟨a, b, rfl, rfl, q⟩ := h
  refine op_and pins s σ H _ _ v u Q I rx ry ⟨_, _, rfl, rfl, ?_⟩
  have n : ¬ (0 : Int) ≤ Builtin.bitNot (b : Int) := by
    show ¬ (0 : Int) ≤ -(b : Int) - 1
    omega
  have e : Builtin.bitNot (Builtin.bitNot (b : Int)) = (b : Int) := by
    show -(-(b : Int) - 1) - 1 = (b : Int)
    omega
  show Q (.int (Builtin.bitAnd (a : Int) (Builtin.bitNot (b : Int)))) H
  rw [PyProof.Rows.bitAnd_pn (Int.natCast_nonneg _) n, e, Int.toNat_natCast, Int.toNat_natCast]
  have l := and_le a b
  have c : ((a : Int) - ((a &&& b : Nat) : Int)) = ((sd a b : Nat) : Int) := by
    rw [← sub_and]
    omega
  rw [c]
  exact q
theorem op_xorN : OpR X (binaryOp .BitXor) (rN2 (· ^^^ ·)) := by
  intro pins s σ H x y v u Q I rx ry h
  obtain ⟨a, b, rfl, rfl, q⟩ := h
  refine op_xor pins s σ H _ _ v u Q I rx ry ⟨_, _, rfl, rfl, ?_⟩
  have e : Builtin.bitXor (a : Int) (b : Int) = ((a ^^^ b : Nat) : Int) := by
    show Builtin.bitOr (a : Int) (b : Int) - Builtin.bitAnd (a : Int) (b : Int) = _
    rw [bitOr_nn (Int.natCast_nonneg _) (Int.natCast_nonneg _), PyProof.Rows.bitAnd_pp (Int.natCast_nonneg _) (Int.natCast_nonneg _), Int.toNat_natCast, Int.toNat_natCast]
    have e1 : a ^^^ b = sd (a ||| b) (a &&& b) := ext fun i => by
      rw [Nat.testBit_xor, tb_sd, Nat.testBit_or, Nat.testBit_and]
      cases a.testBit i <;> cases b.testBit i <;> rfl
    have e2 : (a ||| b) &&& (a &&& b) = a &&& b := ext fun i => by
      rw [Nat.testBit_and, Nat.testBit_or, Nat.testBit_and]
      cases a.testBit i <;> cases b.testBit i <;> rfl
    have l := and_le (a ||| b) (a &&& b)
    rw [e1, ← sub_and, e2]
    rw [e2] at l
    omega
  show Q (.int (Builtin.bitXor (a : Int) (b : Int))) H
  rw [e]
  exact q
/-- 1 << k -/
def rBit : R2 := fun x y H Q => ∃ k : Nat, x = .int 1 ∧ y = .int (k : Int) ∧ k ≤ 1000 ∧ Q (.int ((1 <<< k : Nat) : Int)) H
theorem op_bitN : OpR X (binaryOp .LShift) rBit := by
  intro pins s σ H x y v u Q I rx ry h
  obtain ⟨k, rfl, rfl, hk, q⟩ := h
  refine op_oneShl pins s σ H _ _ v u Q I rx ry ⟨k, rfl, rfl, by omega, ?_⟩
  have e : (2 : Int) ^ k = ((1 <<< k : Nat) : Int) := by rw [Nat.one_shiftLeft, PyProof.Rows.two_pow_cast]
  rw [e]
  exact q
/-- n >> k -/
theorem op_shrNN : OpR X (binaryOp .RShift) (rN2 (· >>> ·)) := by
  intro pins s σ H x y v u Q I rx ry h
  obtain ⟨a, k, rfl, rfl, q⟩ := h
  refine op_shrN pins s σ H _ _ v u Q I rx ry ⟨(a : Int), k, rfl, rfl, ?_⟩
  have e : (a : Int) / 2 ^ k = ((a >>> k : Nat) : Int) := by
    rw [Nat.shiftRight_eq_div_pow, PyProof.Rows.two_pow_cast]
    exact (Int.natCast_ediv a (2 ^ k)).symm
  rw [e]
  exact q
/-- n & -n -/
def rLow : R2 := fun x y H Q => ∃ a : Nat, x = .int (a : Int) ∧ y = .int (-(a : Int)) ∧ a ≠ 0 ∧ Q (.int ((a - (a &&& (a - 1)) : Nat) : Int)) H
theorem op_lowN : OpR X (binaryOp .BitAnd) rLow := by
  intro pins s σ H x y v u Q I rx ry h
  obtain ⟨a, rfl, rfl, ha, q⟩ := h
  refine op_and pins s σ H _ _ v u Q I rx ry ⟨_, _, rfl, rfl, ?_⟩
  have e : (Builtin.bitNot (-(a : Int))).toNat = a - 1 := by
    show (-(-(a : Int)) - 1).toNat = a - 1
    omega
  have l := and_le a (a - 1)
  show Q (.int (Builtin.bitAnd (a : Int) (-(a : Int)))) H
  rw [PyProof.Rows.bitAnd_pn (Int.natCast_nonneg _) (by omega), e, Int.toNat_natCast]
  have c : ((a : Int) - ((a &&& (a - 1) : Nat) : Int)) = ((a - (a &&& (a - 1)) : Nat) : Int) := by omega
  rw [c]
  exact q
end
theorem bits_pow (k : Nat) : Builtin.Int.intBits (((2 ^ k : Nat)) : Int) = k + 1 := by
  unfold Builtin.Int.intBits
  have p := Nat.two_pow_pos k
  rw [if_neg fun h => absurd (Int.ofNat_eq_zero.mp (beq_iff_eq.mp h)) (Nat.ne_of_gt p)]
  have : ((2 ^ k : Nat) : Int).natAbs = 2 ^ k := Int.natAbs_natCast _
  rw [this, Nat.log2_two_pow]

/-! ### what stands where -/
def iv (l : List Nat) : List V := l.map fun (i : Nat) => V.int (i : Int)
theorem iv_length (l : List Nat) : (iv l).length = l.length := by unfold iv; exact List.length_map _
theorem iv_get {l : List Nat} {i : Nat} {v : V} (h : (iv l)[i]? = some v) : ∃ k, l[i]? = some k ∧ v = .int (k : Int) := by
  unfold iv at h
  rw [List.getElem?_map] at h
  cases e : l[i]? with
  | none => rw [e] at h; cases h
  | some k =>
    rw [e] at h
    exact ⟨k, rfl, (Option.some.inj h).symm⟩
theorem iv_at {l : List Nat} {i k : Nat} (h : l[i]? = some k) : (iv l)[i]? = some (.int (k : Int)) := by
  unfold iv
  rw [List.getElem?_map, h]
  rfl
theorem iv_snoc (l : List Nat) (k : Nat) : iv l ++ [.int (k : Int)] = iv (l ++ [k]) := by unfold iv; rw [List.map_append]; rfl
theorem same_new {H : Hp} {p : Addr} {o : HO} (h : H p = none) : Same H (upd H p o) := fun b x e => by
  rw [upd_ne (ne_of_none e h)]
  exact e
/-- all but p stays -/
theorem same_put {H0 H : Hp} {p : Addr} {o : HO} (h : Same H0 H) (n : H0 p = none) : Same H0 (upd H p o) := fun b x e => by
  rw [upd_ne (ne_of_none e n)]
  exact h b x e
theorem _root_.L2.Same.tup {K : PySem.W.Frag} {H H' : Hp} {a : Addr} {xs : List V} (e : Same H H') (h : SqT K H a xs) : SqT K H' a xs := by
  rcases h with (h | ⟨o, h⟩) | h
  · exact .inl (.inl (e _ _ h))
  · exact .inl (.inr ⟨o, e _ _ h⟩)
  · exact .inr h
theorem le_line {n : Nat} (h : n ≤ 16777216) : n ≤ sizeLine := by rw [PySem.sizeLine_eq]; exact h
theorem lt_line {n : Nat} (h : n < 16777216) : n < sizeLine := by rw [PySem.sizeLine_eq]; exact h
theorem mk_take {l : List Nat} {i k : Nat} (h : l[i]? = some k) : mk (l.take (i + 1)) = mk (l.take i) ||| 1 <<< k := by
  rw [List.take_add_one, h]
  exact mk_snoc _ _
theorem new_lst {H : Hp} {p : Addr} : upd H p (.lst []) p = some (.lst (iv [])) := upd_same
section
variable {P : Program} {w : World} {K : PySem.W.Frag} {mg : Str → Option Value} {base : Heap}
/-! ### bits_of -/
def spBitsOf (K : PySem.W.Frag) : Sp := fun vs H Q _ => ∃ (a : Addr) (l : List Nat), vs = [.ref a] ∧ SqT K H a (iv l) ∧ (∀ i ∈ l, i ≤ 1000) ∧ Q (.int ((mk l : Nat) : Int)) H
theorem ok_bits_of (T : Txt K mg) : FnOk P w K mg base CX0 1 T.bits_of.f T.bits_of.fd ["lot"] (spBitsOf K) := by
  refine T.bits_of.F.ok sc_bits_of (fun vs H Q E h => ?_) (fun cdv A outer s H vs Q E hr h => ?_)
  · obtain ⟨a, l, rfl, _⟩ := h
    rfl
  · obtain ⟨a, l, rfl, hS, hl, q⟩ := h
    have nd := sc_bits_of.nd
    refine ⟨_, pss_cons (ps_set (i := 1) nd rfl (.inl rfl) pe_int)
      (pss_cons (ps_for PassesOwn.never rfl (pi_tup (pv 0)) (pg_name (i := 2) nd rfl (.inl rfl))
        (pss_one (ps_set (i := 1) nd rfl (.inl rfl) (pe_op op_orN (pv 1) (pe_op op_bitN pe_int (pv 2))))))
      (pss_one (ps_ret (pv 1)))), ?_⟩
    refine ⟨_, rfl, a, rfl, ⟨_, hS⟩, for_it (walk_tup (xs := iv l)) (fun i σ H' => ∃ v, σ = [some (.ref a), some (.int ((mk (l.take i) : Nat) : Int)), v] ∧ H' = H)
      ⟨none, rfl, rfl⟩ (fun i σ H' _ ⟨_, _, e⟩ => e ▸ hS) ?_ ?_⟩
    · rintro i x σ H1 H2 hi ⟨v, rfl, rfl⟩ ⟨rfl, hx⟩
      obtain ⟨k, hk, rfl⟩ := iv_get hx
      refine ⟨_, rfl, _, rfl, k, rfl, rfl, hl k (List.mem_of_getElem? hk), mk (l.take i), 1 <<< k, rfl, rfl, ?_⟩
      exact ⟨some (.int (k : Int)), by rw [mk_take hk]; rfl, rfl⟩
    · rintro σ H' ⟨v, rfl, rfl⟩
      refine ⟨_, rfl, ?_⟩
      rw [iv_length, List.take_length]
      exact q
/-! ### lowest -/
def spLowest : Sp := fun vs H Q _ => ∃ (m k : Nat), vs = [.int (m : Int)] ∧ m.testBit k = true ∧ (∀ i, i < k → m.testBit i = false) ∧ Q (.int (k : Int)) H
theorem low_uniq {a k j : Nat} (h : a.testBit k = true) (l : ∀ i, i < k → a.testBit i = false) (h' : a.testBit j = true) (l' : ∀ i, i < j → a.testBit i = false) : k = j := by
  rcases Nat.lt_trichotomy k j with z | z | z
  · rw [l' k z] at h; cases h
  · exact z
  · rw [l j z] at h'; cases h'
theorem ok_lowest (T : Txt K mg) : FnOk P w K mg base CX0 1 T.lowest.f T.lowest.fd ["bits"] spLowest := by
  refine T.lowest.F.ok sc_lowest (fun vs H Q E h => ?_) (fun cdv A outer s H vs Q E hr h => ?_)
  · obtain ⟨m, k, rfl, _⟩ := h
    rfl
  · obtain ⟨m, k, rfl, hk, hl, q⟩ := h
    refine ⟨_, pss_one (ps_ret (pe_op op_sub (pe_bits (pe_op op_lowN (pv 0) (pe_un un_neg (pv 0)))) pe_int)), ?_⟩
    have m0 : m ≠ 0 := fun e => by rw [e, Nat.zero_testBit] at hk; cases hk
    obtain ⟨k', n', e⟩ := low_form m m0
    obtain ⟨b1, b2, b3, b4⟩ := low_bits e
    have ek := low_uniq hk hl b1 b2
    refine ⟨_, rfl, _, rfl, _, rfl, m, rfl, rfl, m0, _, rfl, _, _, rfl, rfl, ?_⟩
    rw [b4, bits_pow]
    show Q (.int (((k' + 1 : Nat) : Int) - 1)) _
    rw [show (((k' + 1 : Nat) : Int) - 1) = (k : Int) by omega]
    exact q
/-! ### lot_of -/
def spLotOf : Sp := fun vs H Q _ => ∃ (m : Nat), vs = [.int (m : Int)] ∧ m < 2 ^ 24 ∧ ∀ p H', Same H H' → H p = none → H' p = some (.tup (iv (lot m))) → Q (.ref p) H'
theorem ok_lot_of (T : Txt K mg) : FnOk P w K mg base CX0 2 T.lot_of.f T.lot_of.fd ["bits"] spLotOf := by
  refine T.lot_of.F.ok sc_lot_of (fun vs H Q E h => ?_) (fun cdv A outer s H vs Q E hr h => ?_)
  · obtain ⟨m, rfl, _⟩ := h
    rfl
  · obtain ⟨m, rfl, hm, q⟩ := h
    have nd := sc_lot_of.nd
    refine ⟨_, pss_cons (ps_set (i := 1) nd rfl (.inl rfl) (pe_lst pa_nil))
      (pss_cons (ps_while PassesOwn.never (pt_cmpR op_gt (pv 0) pe_int (nomark _))
        (pss_cons (ps_expr (pe_bm PySem.F.plainAttrs_list PySem.F.slot_list_append PySem.F.type_list_append mt_append (pv 1) (pa_cons (pe_call (ok_lowest T) hr (by rfl) T.lowest.g T.lowest.F.kp T.lowest.b .nil pass0 (pa_cons (pv 0) pa_nil)) pa_nil)))
        (pss_one (ps_set (i := 0) nd rfl (.inl rfl) (pe_op op_andN (pv 0) (pe_op op_subN (pv 0) pe_int))))))
      (pss_one (ps_ret (pe_callTy call_tuple_of (by rfl) T.b_tuple (by decide +kernel) (pa_cons (pv 1) pa_nil))))), ?_⟩
    refine ⟨Nat.zero_le _, fun o no => ?_⟩
    refine ⟨fun mu σ H' => ∃ (b : Nat) (pre : List Nat), mu = b ∧ σ = [some (.int (b : Int)), some (.ref o)] ∧ Same H H' ∧ H' o = some (.lst (iv pre)) ∧ pre ++ lot b = lot m, ⟨m, m, [], rfl, rfl, same_new no, new_lst, rfl⟩, ?_⟩
    rintro mu σ H' ⟨b, pre, rfl, rfl, sm, ho, e⟩
    have len : pre.length ≤ 24 := by
      have h1 := pc_le hm
      have h2 : (pre ++ lot mu).length = (lot m).length := by rw [e]
      rw [List.length_append] at h2
      unfold pc at h1
      omega
    refine ⟨_, rfl, _, _, rfl, rfl, _, rfl, ?_⟩
    refine ite2 (fun c => ?_) (fun c => ?_)
    · have b0 : mu ≠ 0 := fun z => by
        rw [z] at c
        exact absurd (of_decide_eq_true c) (by decide)
      obtain ⟨k, n, e'⟩ := low_form mu b0
      obtain ⟨b1, b2, b3, b4⟩ := low_bits e'
      refine ⟨fun σ' H' => ∃ pre', σ' = [some (.int ((mu &&& (mu - 1) : Nat) : Int)), some (.ref o)] ∧ Same H H' ∧ H' o = some (.lst (iv pre')) ∧ pre' ++ lot (mu &&& (mu - 1)) = lot m, ?_, ?_⟩
      · rintro σ' H2 ⟨pre', e1, s2, h2, e2⟩
        refine ⟨_, ?_, _, pre', rfl, e1, s2, h2, e2⟩
        rw [b3]
        exact sd_lt b1
      · refine ⟨_, rfl, .inl ⟨rfl, _, SqL.of ho⟩, _, rfl, mu, k, rfl, b1, b2, o, _, _, rfl, rfl, ho, by rw [iv_length]; exact lt_line (by omega), ?_⟩
        refine ⟨_, rfl, _, rfl, mu, 1, rfl, rfl, by omega, mu, mu - 1, rfl, rfl, pre ++ [k], rfl, same_put sm no, ?_, ?_⟩
        · rw [upd_same, iv_snoc]
        · rw [b3, List.append_assoc, ← e]
          congr 1
          exact (lot_low b1 b2).symm
    · have b0 : mu = 0 := by
        have := of_decide_eq_false (Bool.eq_false_iff.mpr c)
        omega
      subst b0
      have e3 : pre = lot m := by
        rw [← e, lot_zero, List.append_nil]
      subst e3
      refine ⟨_, rfl, o, _, rfl, .inl ⟨SqL.of ho, fun l nl => ?_⟩⟩
      exact q l _ (fun b z h => by rw [upd_ne (ne_of_none (sm _ _ h) nl)]; exact sm _ _ h) (sm.free nl) upd_same
/-! ### many_of -/
def spManyOf : Sp := fun vs H Q _ => ∃ (m : Nat), vs = [.int (m : Int)] ∧ m < 2 ^ 24 ∧ ∀ H', Same H H' → Q (.int ((pc m : Nat) : Int)) H'
theorem ok_many_of (T : Txt K mg) : FnOk P w K mg base CX0 3 T.many_of.f T.many_of.fd ["bits"] spManyOf := by
  refine T.many_of.F.ok sc_many_of (fun vs H Q E h => ?_) (fun cdv A outer s H vs Q E hr h => ?_)
  · obtain ⟨m, rfl, _⟩ := h
    rfl
  · obtain ⟨m, rfl, hm, q⟩ := h
    refine ⟨_, pss_one (ps_ret (pe_callB call_len_seq (by rfl) T.b_len PySem.boot_len (pa_cons (pe_call (ok_lot_of T) hr (by rfl) T.lot_of.g T.lot_of.F.kp T.lot_of.b .nil pass0 (pa_cons (pv 0) pa_nil)) pa_nil))), ?_⟩
    refine ⟨_, rfl, m, rfl, hm, fun p H' sm np hp => ?_⟩
    refine ⟨p, _, rfl, .inr (SqT.of hp), ?_⟩
    rw [iv_length]
    exact q H' sm
end
end Sil
end

section
set_option Elab.async false
set_option maxRecDepth 100000
set_option maxHeartbeats 4000000
set_option linter.all false
namespace Sil
open PySem L2 Mi
theorem kit_int_int : kitB "int" "int" = some true := by decide +kernel
theorem kit_int_bool : kitB "int" "bool" = some false := by decide +kernel
theorem kit_tup_tup : kitB "tuple" "tuple" = some true := by decide +kernel
theorem tyx_tup {K : PySem.W.Frag} {H : Hp} {a : Addr} {xs : List V} (h : SqT K H a xs) : TyX K H (.ref a) (.type "tuple") := by
  rcases h with (h | ⟨o, h⟩) | ⟨o, its, n, h1, h2, _⟩
  · exact .base (.tup h)
  · exact .fTuple h
  · exact .kTuple h1 h2
section
variable {P : Program} {w : World} {K : PySem.W.Frag} {mg : Str → Option Value} {base : Heap}
/-! ### is_integer, is_between, is_pair, is_tie, is_lot, check_number: all of right things -/
def spIsInteger : Sp := fun vs H Q _ => ∃ n : Int, vs = [.int n] ∧ Q (.bl true) H
theorem ok_is_integer (T : Txt K mg) : FnOk P w K mg base CX0 1 T.is_integer.f T.is_integer.fd ["thing"] spIsInteger := by
  refine T.is_integer.F.ok sc_is_integer (fun vs H Q E h => ?_) (fun cdv A outer s H vs Q E hr h => ?_)
  · obtain ⟨n, rfl, _⟩ := h
    rfl
  · obtain ⟨n, rfl, q⟩ := h
    refine ⟨_, (pss_one (ps_ret (pe_and (pe_callB call_isi (by rfl) T.b_isinstance (by decide +kernel) (pa_cons (pv 0) (pa_cons (pe_bltn (v := .ty "int") (by rfl) T.b_int (by decide +kernel) rfl) pa_nil))) (pe_one (pe_not (pe_callB call_isi (by rfl) T.b_isinstance (by decide +kernel) (pa_cons (pv 0) (pa_cons (pe_bltn (v := .ty "bool") (by rfl) T.b_bool (by decide +kernel) rfl) pa_nil)))))))), ?_⟩
    refine ⟨_, rfl, .int n, .ty "int", .type "int", .type "int", true, rfl, .ty _, .base (.int n), kit_ty kit_int_int, true, rfl, iteT ?_⟩
    exact ⟨_, rfl, .int n, .ty "bool", .type "int", .type "bool", false, rfl, .ty _, .base (.int n), kit_ty kit_int_bool, false, rfl, q⟩
def spIsBetween : Sp := fun vs H Q _ => ∃ x lo hi : Int, vs = [.int x, .int lo, .int hi] ∧ lo ≤ x ∧ x ≤ hi ∧ Q (.bl true) H
theorem ok_is_between (T : Txt K mg) : FnOk P w K mg base CX0 2 T.is_between.f T.is_between.fd ["thing", "least", "most"] spIsBetween := by
  refine T.is_between.F.ok sc_is_between (fun vs H Q E h => ?_) (fun cdv A outer s H vs Q E hr h => ?_)
  · obtain ⟨x, lo, hi, rfl, _⟩ := h
    rfl
  · obtain ⟨x, lo, hi, rfl, h1, h2, q⟩ := h
    refine ⟨_, (pss_one (ps_ret (pe_and (pe_call (ok_is_integer T) (hr.mono (by decide)) (by rfl) T.is_integer.g T.is_integer.F.kp T.is_integer.b .nil pass0 (pa_cons (pv 0) pa_nil)) (pe_one (pe_chain op_le op_le (pv 1) (pv 0) (pv 2)))))), ?_⟩
    refine ⟨_, rfl, x, rfl, true, rfl, iteT ?_⟩
    refine ⟨_, rfl, _, rfl, lo, x, rfl, rfl, true, ?_, ?_⟩
    · show V.bl (decide (lo ≤ x)) = V.bl true
      rw [decide_eq_true h1]
    · refine iteT ⟨_, rfl, x, hi, rfl, rfl, ?_⟩
      show Q (V.bl (decide (x ≤ hi))) H
      rw [decide_eq_true h2]
      exact q
def spIsPair (K : PySem.W.Frag) : Sp := fun vs H Q _ => ∃ (a : Addr) (x y : V), vs = [.ref a] ∧ SqT K H a [x, y] ∧ Q (.bl true) H
theorem ok_is_pair (T : Txt K mg) : FnOk P w K mg base CX0 1 T.is_pair.f T.is_pair.fd ["thing"] (spIsPair K) := by
  refine T.is_pair.F.ok sc_is_pair (fun vs H Q E h => ?_) (fun cdv A outer s H vs Q E hr h => ?_)
  · obtain ⟨a, x, y, rfl, _⟩ := h
    rfl
  · obtain ⟨a, x, y, rfl, hS, q⟩ := h
    refine ⟨_, (pss_one (ps_ret (pe_and (pe_callB call_isi (by rfl) T.b_isinstance (by decide +kernel) (pa_cons (pv 0) (pa_cons (pe_bltn (v := .ty "tuple") (by rfl) T.b_tuple (by decide +kernel) rfl) pa_nil))) (pe_one (pe_cmpR op_eq (pe_callB call_len_seq (by rfl) T.b_len PySem.boot_len (pa_cons (pv 0) pa_nil)) pe_int (nomark _)))))), ?_⟩
    refine ⟨_, rfl, .ref a, .ty "tuple", .type "tuple", .type "tuple", true, rfl, .ty _, tyx_tup hS, kit_ty kit_tup_tup, true, rfl, iteT ?_⟩
    exact ⟨_, rfl, a, _, rfl, .inr hS, rfl, q⟩
def spIsTie (K : PySem.W.Frag) : Sp := fun vs H Q _ => ∃ (a : Addr) (x y n : Nat), vs = [.ref a, .int (n : Int)] ∧ SqT K H a [.int (x : Int), .int (y : Int)] ∧ x < y ∧ y < n ∧ Q (.bl true) H
theorem ok_is_tie (T : Txt K mg) : FnOk P w K mg base CX0 3 T.is_tie.f T.is_tie.fd ["thing", "size"] (spIsTie K) := by
  refine T.is_tie.F.ok sc_is_tie (fun vs H Q E h => ?_) (fun cdv A outer s H vs Q E hr h => ?_)
  · obtain ⟨a, x, y, n, rfl, _⟩ := h
    rfl
  · obtain ⟨a, x, y, n, rfl, hS, h1, h2, q⟩ := h
    refine ⟨_, (pss_one (ps_ret (pe_and (pe_call (ok_is_pair T) (hr.mono (by decide)) (by rfl) T.is_pair.g T.is_pair.F.kp T.is_pair.b .nil pass0 (pa_cons (pv 0) pa_nil)) (pe_and (pe_call (ok_is_between T) (hr.mono (by decide)) (by rfl) T.is_between.g T.is_between.F.kp T.is_between.b .nil pass0 (pa_cons (pe_ix ix_tup (pv 0) pe_int (fun _ _ => rfl)) (pa_cons pe_int (pa_cons (pe_op op_sub (pv 1) pe_int) pa_nil)))) (pe_one (pe_call (ok_is_between T) (hr.mono (by decide)) (by rfl) T.is_between.g T.is_between.F.kp T.is_between.b .nil pass0 (pa_cons (pe_ix ix_tup (pv 0) pe_int (fun _ _ => rfl)) (pa_cons (pe_op op_add (pe_ix ix_tup (pv 0) pe_int (fun _ _ => rfl)) pe_int) (pa_cons (pe_op op_sub (pv 1) pe_int) pa_nil))))))))), ?_⟩
    have at0 : atI [V.int (x : Int), .int (y : Int)] 0 = some (.int (x : Int)) := atI_nat (j := 0) rfl
    have at1 : atI [V.int (x : Int), .int (y : Int)] 1 = some (.int (y : Int)) := atI_nat (j := 1) rfl
    refine ⟨_, rfl, a, _, _, rfl, hS, true, rfl, iteT ?_⟩
    refine ⟨_, rfl, a, _, 0, _, rfl, rfl, hS, at0, _, rfl, _, _, rfl, rfl, (x : Int), 0, (n : Int) - 1, rfl, by omega, by omega, true, rfl, iteT ?_⟩
    exact ⟨_, rfl, a, _, 1, _, rfl, rfl, hS, at1, _, rfl, a, _, 0, _, rfl, rfl, hS, at0, _, _, rfl, rfl, _, rfl, _, _, rfl, rfl, (y : Int), (x : Int) + 1, (n : Int) - 1, rfl, by omega, by omega, q⟩
def spCheckNumber : Sp := fun vs H Q _ => ∃ x lo hi : Int, vs = [.int x, .int lo, .int hi] ∧ lo ≤ x ∧ x ≤ hi ∧ Q .non H
theorem ok_check_number (T : Txt K mg) : FnOk P w K mg base CX0 3 T.check_number.f T.check_number.fd ["thing", "least", "most"] spCheckNumber := by
  refine T.check_number.F.ok sc_check_number (fun vs H Q E h => ?_) (fun cdv A outer s H vs Q E hr h => ?_)
  · obtain ⟨x, lo, hi, rfl, _⟩ := h
    rfl
  · obtain ⟨x, lo, hi, rfl, h1, h2, q⟩ := h
    refine ⟨_, (pss_one (ps_if (pt_not (pt_val (pe_call (ok_is_between T) (hr.mono (by decide)) (by rfl) T.is_between.g T.is_between.F.kp T.is_between.b .nil pass0 (pa_cons (pv 0) (pa_cons (pv 1) (pa_cons (pv 2) pa_nil))))))
        (pss_one ps_never)
        pss_nil)), ?_⟩
    exact ⟨_, rfl, _, rfl, _, rfl, x, lo, hi, rfl, h1, h2, true, rfl, iteF q⟩
/-- an ascending lot of parts below n -/
def spIsLot (K : PySem.W.Frag) : Sp := fun vs H Q _ => ∃ (a : Addr) (l : List Nat) (n : Nat), vs = [.ref a, .int (n : Int)] ∧ SqT K H a (iv l) ∧ Asc l ∧ (∀ i ∈ l, i < n) ∧ Q (.bl true) H
theorem ok_is_lot (T : Txt K mg) : FnOk P w K mg base CX0 3 T.is_lot.f T.is_lot.fd ["thing", "many"] (spIsLot K) := by
  refine T.is_lot.F.ok sc_is_lot (fun vs H Q E h => ?_) (fun cdv A outer s H vs Q E hr h => ?_)
  · obtain ⟨a, l, n, rfl, _⟩ := h
    rfl
  · obtain ⟨a, l, n, rfl, hS, hA, hb, q⟩ := h
    have nd := sc_is_lot.nd
    refine ⟨_, (pss_cons (ps_if (pt_not (pt_val (pe_callB call_isi (by rfl) T.b_isinstance (by decide +kernel) (pa_cons (pv 0) (pa_cons (pe_bltn (v := .ty "tuple") (by rfl) T.b_tuple (by decide +kernel) rfl) pa_nil)))))
        (pss_one (ps_ret pe_bl))
        pss_nil)
      (pss_cons (ps_set (i := 2) nd rfl (Or.inl rfl) (pe_un un_neg pe_int))
      (pss_cons (ps_for PassesOwn.never rfl (pi_tup (pv 0)) (pg_name (i := 3) nd rfl (Or.inl rfl))
        (pss_cons (ps_if (pt_not (pt_val (pe_call (ok_is_between T) (hr.mono (by decide)) (by rfl) T.is_between.g T.is_between.F.kp T.is_between.b .nil pass0 (pa_cons (pv 3) (pa_cons (pe_op op_add (pv 2) pe_int) (pa_cons (pe_op op_sub (pv 1) pe_int) pa_nil))))))
            (pss_one (ps_ret pe_bl))
            pss_nil)
          (pss_one (ps_set (i := 2) nd rfl (Or.inl rfl) (pv 3)))))
      (pss_one (ps_ret pe_bl))))), ?_⟩
    refine ⟨_, rfl, .ref a, .ty "tuple", .type "tuple", .type "tuple", true, rfl, .ty _, tyx_tup hS, kit_ty kit_tup_tup, true, rfl, iteF ?_⟩
    refine ⟨_, rfl, _, rfl, a, rfl, ⟨_, hS⟩, for_it (walk_tup (xs := iv l)) (fun i σ H' => ∃ (la : Int) (v : Option V), σ = [some (.ref a), some (.int (n : Int)), some (.int la), v] ∧ H' = H ∧ ∀ k, l[i]? = some k → la < (k : Int))
      ⟨-1, none, rfl, rfl, fun k hk => by omega⟩ (fun i σ H' _ ⟨_, _, _, e, _⟩ => e ▸ hS) ?_ ?_⟩
    · rintro i x σ H1 H2 hi ⟨la, v, rfl, rfl, hl⟩ ⟨rfl, hx⟩
      obtain ⟨k, hk, rfl⟩ := iv_get hx
      have k1 := hl k hk
      have k2 := hb k (List.mem_of_getElem? hk)
      refine ⟨_, rfl, _, rfl, _, _, rfl, rfl, _, rfl, _, _, rfl, rfl, (k : Int), la + 1, (n : Int) - 1, rfl, by omega, by omega, true, rfl, iteF ?_⟩
      refine ⟨_, rfl, (k : Int), some (.int (k : Int)), rfl, rfl, fun j hj => ?_⟩
      obtain ⟨h1, e1⟩ := List.getElem?_eq_some_iff.mp hk
      obtain ⟨h2, e2⟩ := List.getElem?_eq_some_iff.mp hj
      have := List.pairwise_iff_getElem.mp hA i (i + 1) h1 h2 (Nat.lt_succ_self _)
      omega
    · rintro σ H' ⟨la, v, rfl, rfl, hl⟩
      exact q
end
end Sil
end

section
set_option Elab.async false
set_option maxRecDepth 100000
set_option maxHeartbeats 4000000
set_option linter.all false
namespace Sil
open PySem L2 Mi
/-! ### a web's attributes -/
theorem n_st : ¬ (("size" : Str) = "ties") := by decide +kernel
theorem n_sw : ¬ (("size" : Str) = "whole") := by decide +kernel
theorem n_sn : ¬ (("size" : Str) = "near") := by decide +kernel
theorem n_tw : ¬ (("ties" : Str) = "whole") := by decide +kernel
theorem n_tn : ¬ (("ties" : Str) = "near") := by decide +kernel
theorem n_wn : ¬ (("whole" : Str) = "near") := by decide +kernel
def wf (n : Nat) (tp np : Addr) : List (Str × V) := putF "near" (.ref np) (putF "whole" (.int ((2 ^ n - 1 : Nat) : Int)) (putF "ties" (.ref tp) (putF "size" (.int (n : Int)) [])))
theorem putF_hit (f : Str) (v u : V) (r : List (Str × V)) : putF f v ((f, u) :: r) = (f, v) :: r := by
  show (if f = f then _ else _) = _
  rw [if_pos rfl]
theorem putF_no {f g : Str} (h : ¬ g = f) (v u : V) (r : List (Str × V)) : putF f v ((g, u) :: r) = (g, u) :: putF f v r := by
  show (if g = f then _ else _) = _
  rw [if_neg h]
theorem putF_nil (f : Str) (v : V) : putF f v [] = [(f, v)] := rfl
theorem wf_eq (n : Nat) (tp np : Addr) : wf n tp np = ([("size", V.int (n : Int)), ("ties", V.ref tp), ("whole", V.int ((2 ^ n - 1 : Nat) : Int)), ("near", V.ref np)] : List (Str × V)) := by
  unfold wf
  rw [putF_nil, putF_no n_st, putF_nil, putF_no n_sw, putF_no n_tw, putF_nil, putF_no n_sn, putF_no n_tn, putF_no n_wn, putF_nil]
theorem wf_again (n m : Nat) (tp np tp' np' : Addr) : putF "near" (.ref np) (putF "whole" (.int ((2 ^ n - 1 : Nat) : Int)) (putF "ties" (.ref tp) (putF "size" (.int (n : Int)) (wf m tp' np')))) = wf n tp np := by
  rw [wf_eq m, wf_eq n, putF_hit, putF_no n_st, putF_hit, putF_no n_sw, putF_no n_tw, putF_hit, putF_no n_sn, putF_no n_tn, putF_no n_wn, putF_hit]
theorem wf_near (n : Nat) (tp np : Addr) : (wf n tp np).lookup ("near" : Str) = some (.ref np) := by
  unfold wf
  rw [lookup_putF, if_pos rfl]
theorem wf_whole (n : Nat) (tp np : Addr) : (wf n tp np).lookup ("whole" : Str) = some (.int ((2 ^ n - 1 : Nat) : Int)) := by
  unfold wf
  rw [lookup_putF, if_neg n_wn, lookup_putF, if_pos rfl]
theorem wf_ties (n : Nat) (tp np : Addr) : (wf n tp np).lookup ("ties" : Str) = some (.ref tp) := by
  unfold wf
  rw [lookup_putF, if_neg n_tn, lookup_putF, if_neg n_tw, lookup_putF, if_pos rfl]
theorem wf_size (n : Nat) (tp np : Addr) : (wf n tp np).lookup ("size" : Str) = some (.int (n : Int)) := by
  unfold wf
  rw [lookup_putF, if_neg n_sn, lookup_putF, if_neg n_sw, lookup_putF, if_neg n_st, lookup_putF, if_pos rfl]
theorem wf_no (n : Nat) (tp np : Addr) {m : Str} (h1 : ¬ m = "near") (h2 : ¬ m = "whole") (h3 : ¬ m = "ties") (h4 : ¬ m = "size") : (wf n tp np).lookup m = none := by
  unfold wf
  rw [lookup_putF, if_neg h1, lookup_putF, if_neg h2, lookup_putF, if_neg h3, lookup_putF, if_neg h4]
  rfl
theorem wf_len (n : Nat) (tp np : Addr) : (wf n tp np).length < 1000 := by
  rw [wf_eq]
  show 4 < 1000
  decide
/-- a pair of parts -/
abbrev pr (t : Nat × Nat) : List V := [.int (t.1 : Int), .int (t.2 : Int)]
/-- the tuple at tp holds just the ties ts -/
def TiesAt (K : PySem.W.Frag) (H : Hp) (tp : Addr) (ts : List (Nat × Nat)) : Prop :=
  ∃ as : List Addr, SqT K H tp (as.map V.ref) ∧ as.length = ts.length ∧ ∀ (i : Nat) a t, as[i]? = some a → ts[i]? = some t → SqT K H a (pr t)
/-- a web of n parts with the ties ts stands at p -/
def WebAt (K : PySem.W.Frag) (C : Addr) (H : Hp) (p : Addr) (n : Nat) (ts : List (Nat × Nat)) : Prop :=
  ∃ dx tp np, H p = some (.ins C dx (wf n tp np)) ∧ H np = some (.lst (iv (nearOf n ts))) ∧ TiesAt K H tp ts
/-- all but p stays -/
def Keep (p : Addr) (H H' : Hp) : Prop := ∀ b o, H b = some o → b ≠ p → H' b = some o
theorem Keep.tup {K : PySem.W.Frag} {H H' : Hp} {p a : Addr} {o : HO} {xs : List V} (k : Keep p H H') (hp : H p = some o) (ho : ∀ ys, o ≠ .tup ys) (hf : ∀ ob u, o ≠ .frz ob u) (h : SqT K H a xs) : SqT K H' a xs := by
  rcases h with (h | ⟨ob, h⟩) | h
  · refine .inl (.inl (k _ _ h fun e => ?_))
    rw [e, hp] at h
    exact ho xs (Option.some.inj h)
  · refine .inl (.inr ⟨ob, k _ _ h fun e => ?_⟩)
    rw [e, hp] at h
    exact hf ob _ (Option.some.inj h)
  · exact .inr h
theorem Keep.ties {K : PySem.W.Frag} {H H' : Hp} {p tp : Addr} {o : HO} {ts : List (Nat × Nat)} (k : Keep p H H') (hp : H p = some o) (ho : ∀ ys, o ≠ .tup ys) (hf : ∀ ob u, o ≠ .frz ob u) (h : TiesAt K H tp ts) : TiesAt K H' tp ts := by
  obtain ⟨as, h1, h2, h3⟩ := h
  exact ⟨as, k.tup hp ho hf h1, h2, fun i a t e1 e2 => k.tup hp ho hf (h3 i a t e1 e2)⟩
theorem same_ties {K : PySem.W.Frag} {H H' : Hp} {tp : Addr} {ts : List (Nat × Nat)} (k : Same H H') (h : TiesAt K H tp ts) : TiesAt K H' tp ts := by
  obtain ⟨as, h1, h2, h3⟩ := h
  exact ⟨as, k.tup h1, h2, fun i a t e1 e2 => k.tup (h3 i a t e1 e2)⟩
theorem same_web {K : PySem.W.Frag} {C : Addr} {H H' : Hp} {p : Addr} {n : Nat} {ts : List (Nat × Nat)} (k : Same H H') (h : WebAt K C H p n ts) : WebAt K C H' p n ts := by
  obtain ⟨dx, tp, np, h1, h2, h3⟩ := h
  exact ⟨dx, tp, np, k _ _ h1, k _ _ h2, same_ties k h3⟩
theorem TiesAt.at {K : PySem.W.Frag} {H : Hp} {tp : Addr} {ts : List (Nat × Nat)} {as : List Addr} (h2 : as.length = ts.length) (h3 : ∀ (i : Nat) a t, as[i]? = some a → ts[i]? = some t → SqT K H a (pr t)) {i : Nat} {x : V} (h : (as.map V.ref)[i]? = some x) :
    ∃ a t, as[i]? = some a ∧ ts[i]? = some t ∧ x = .ref a ∧ SqT K H a (pr t) := by
  rw [List.getElem?_map] at h
  cases e : as[i]? with
  | none => rw [e] at h; cases h
  | some a =>
    rw [e] at h
    have hi : i < ts.length := by
      rw [← h2]
      exact (List.getElem?_eq_some_iff.mp e).1
    exact ⟨a, ts[i], rfl, List.getElem?_eq_getElem hi, (Option.some.inj h).symm, h3 i a _ e (List.getElem?_eq_getElem hi)⟩
theorem upd3 {H : Hp} {p a b : Addr} {o o1 o2 : HO} (h1 : p ≠ a) (h2 : p ≠ b) : upd (upd (upd H p o) a o1) b o2 p = some o := by
  rw [upd_ne h2, upd_ne h1, upd_same]
theorem ixN_nat {n k : Nat} (h : k < n) : ixN n (k : Int) = some k := by
  unfold ixN
  rw [if_pos (Int.natCast_nonneg k), if_pos (by omega), Int.toNat_natCast]
theorem iv_set (l : List Nat) (k v : Nat) : (iv l).set k (.int (v : Int)) = iv (l.set k v) := by
  unfold iv
  rw [List.map_set]
theorem iv_getD {l : List Nat} {k : Nat} (h : k < l.length) : atI (iv l) (k : Int) = some (.int ((l.getD k 0 : Nat) : Int)) := by
  refine atI_nat (iv_at ?_)
  rw [List.getD_eq_getElem?_getD, List.getElem?_eq_getElem h]
  rfl
theorem rep0 (n : Nat) : (List.replicate n [V.int 0]).flatten = iv (List.replicate n 0) := by
  unfold iv
  rw [List.map_replicate]
  induction n with
  | zero => rfl
  | succ n ih => rw [List.replicate_succ, List.flatten_cons, ih, List.replicate_succ]; rfl
section
variable {P : Program} {w : World} {K : PySem.W.Frag} {mg : Str → Option Value} {base : Heap}
def spBegin (K : PySem.W.Frag) (C : Addr) : Sp := fun vs H Q _ => ∃ (p dx tp : Addr) (fs : List (Str × V)) (n : Nat) (ts : List (Nat × Nat)), vs = [.ref p, .int (n : Int), .ref tp] ∧ H p = some (.ins C dx fs) ∧ (fs = [] ∨ ∃ m a b, fs = wf m a b) ∧ n ≤ 24 ∧ TiesIn n ts ∧ TiesAt K H tp ts ∧
  ∀ H' np, H np = none → H' p = some (.ins C dx (wf n tp np)) → H' np = some (.lst (iv (nearOf n ts))) → Keep p H H' → Q .non H'
theorem ok_Web_begin (T : Txt K mg) : FnOk P w K mg base CX0 1 T.Web_begin.f T.Web_begin.fd ["self", "size", "ties"] (spBegin K T.CWeb) := by
  refine T.Web_begin.F.ok sc_Web_begin (fun vs H Q E h => ?_) (fun cdv A outer s H vs Q E hr h => ?_)
  · obtain ⟨p, dx, tp, fs, n, ts, rfl, _⟩ := h
    rfl
  · obtain ⟨p, dx, tp, fs, n, ts, rfl, hp, hf, hn, hti, hta, q⟩ := h
    have nd := sc_Web_begin.nd
    refine ⟨_, (pss_cons (ps_fld (pv 0) (pv 1) rfl)
      (pss_cons (ps_fld (pv 0) (pv 2) rfl)
      (pss_cons (ps_fld (pv 0) (pe_op op_subN (pe_op op_bitN pe_int (pv 1)) pe_int) rfl)
      (pss_cons (ps_fld (pv 0) (pe_op op_rep (pe_lst (pa_cons pe_int pa_nil)) (pv 1)) rfl)
      (pss_one (ps_for PassesOwn.never rfl (pi_tup (pv 2)) (pg_tup (by rfl) (pgs_cons (pg_name (i := 3) nd rfl (Or.inl rfl)) (pgs_cons (pg_name (i := 4) nd rfl (Or.inl rfl)) pgs_nil)))
        (pss_cons (ps_asg (pe_op op_orN (pe_ix ix_list (pe_fld (pv 0) rfl) (pv 3) (fun _ _ => rfl)) (pe_op op_bitN pe_int (pv 4))) (pg_sub (pe_fld (pv 0) rfl) (pv 3) set_list))
          (pss_one (ps_asg (pe_op op_orN (pe_ix ix_list (pe_fld (pv 0) rfl) (pv 4) (fun _ _ => rfl)) (pe_op op_bitN pe_int (pv 3))) (pg_sub (pe_fld (pv 0) rfl) (pv 4) set_list)))))))))), ?_⟩
    have fl : fs.length ≤ 4 := by
      rcases hf with rfl | ⟨m, a, b, rfl⟩
      · exact Nat.zero_le _
      · rw [wf_eq]; exact Nat.le_refl _
    have l1 := length_putF ("size" : Str) (.int (n : Int)) fs
    have l2 := length_putF ("ties" : Str) (.ref tp) (putF "size" (.int (n : Int)) fs)
    have l3 := length_putF ("whole" : Str) (.int ((1 <<< n - 1 : Nat) : Int)) (putF "ties" (.ref tp) (putF "size" (.int (n : Int)) fs))
    -- size, ties
    refine ⟨_, rfl, _, rfl, p, T.CWeb, dx, fs, rfl, hp, T.cWeb, T.na_Web_size, by omega, ?_⟩
    refine ⟨_, rfl, _, rfl, p, T.CWeb, dx, _, rfl, upd_same, T.cWeb, T.na_Web_ties, by omega, ?_⟩
    rw [upd_upd]
    -- whole
    refine ⟨_, rfl, n, rfl, rfl, by omega, 1 <<< n, 1, rfl, rfl, ?_, _, rfl, p, T.CWeb, dx, _, rfl, upd_same, T.cWeb, T.na_Web_whole, by omega, ?_⟩
    · rw [Nat.one_shiftLeft]; exact Nat.two_pow_pos n
    rw [upd_upd]
    -- near
    refine ⟨Nat.succ_le_of_lt (lt_line (by decide)), fun l0 nl0 => ?_⟩
    refine ⟨_, rfl, l0, (n : Int), _, rfl, rfl, upd_same, by omega, by omega, ?_, fun np nnp => ?_⟩
    · rw [Int.toNat_natCast]
      exact le_line (by simp; omega)
    have pl0 : p ≠ l0 := fun e => by rw [e, upd_same] at nl0; cases nl0
    have npp : np ≠ p := fun e => by rw [e, upd_ne pl0, upd_same] at nnp; cases nnp
    have npl : np ≠ l0 := fun e => by rw [e, upd_same] at nnp; cases nnp
    have np0 : H np = none := by
      rw [upd_ne npl, upd_ne npp] at nnp
      exact nnp
    have l00 : H l0 = none := by
      rw [upd_ne pl0.symm] at nl0
      exact nl0
    refine ⟨_, rfl, p, T.CWeb, dx, _, rfl, upd3 pl0 npp.symm, T.cWeb, T.na_Web_near, by omega, ?_⟩
    have ew : putF "near" (V.ref np) (putF "whole" (V.int ((1 <<< n - 1 : Nat) : Int)) (putF "ties" (V.ref tp) (putF "size" (V.int (n : Int)) fs))) = wf n tp np := by
      rw [Nat.one_shiftLeft]
      rcases hf with rfl | ⟨m, a, b, rfl⟩
      · rfl
      · exact wf_again n m tp np a b
    rw [ew, Int.toNat_natCast, rep0]
    -- the heap at the loop's start
    generalize hH1 : upd (upd (upd (upd H p _) l0 _) np _) p _ = H1
    have k1 : Keep p H H1 := fun b o e hb => by
      rw [← hH1, upd_ne hb, upd_ne (ne_of_none e np0), upd_ne (ne_of_none e l00), upd_ne hb]
      exact e
    have hp1 : H1 p = some (.ins T.CWeb dx (wf n tp np)) := by rw [← hH1, upd_same]
    have hn1 : H1 np = some (.lst (iv (List.replicate n 0))) := by rw [← hH1, upd_ne npp, upd_same]
    obtain ⟨as, a1, a2, a3⟩ := hta
    have kt : ∀ {H2 : Hp} {a : Addr} {xs : List V}, Keep p H H2 → SqT K H a xs → SqT K H2 a xs := fun k h => k.tup hp (fun _ z => by cases z) (fun _ _ z => by cases z) h
    refine ⟨_, rfl, tp, rfl, ⟨_, kt k1 a1⟩, for_it (walk_tup (xs := as.map V.ref)) (fun i σ H2 => ∃ (u v : Option V), σ = [some (.ref p), some (.int (n : Int)), some (.ref tp), u, v] ∧ Keep p H H2 ∧ H2 p = some (.ins T.CWeb dx (wf n tp np)) ∧ H2 np = some (.lst (iv ((ts.take i).foldl addTie (List.replicate n 0)))))
      ⟨none, none, rfl, k1, hp1, hn1⟩ (fun i σ H2 _ ⟨_, _, _, k, _⟩ => kt k a1) ?_ ?_⟩
    · rintro i x σ H2 H2' hi ⟨u, v, rfl, k2, hp2, hn2⟩ ⟨rfl, hx⟩
      obtain ⟨a, t, ea, et, rfl, ha⟩ := TiesAt.at (tp := tp) a2 a3 hx
      obtain ⟨b1, b2⟩ := hti t (List.mem_of_getElem? et)
      have ha2 := kt k2 ha
      have ln : ((ts.take i).foldl addTie (List.replicate n 0)).length = n := by rw [foldl_length, List.length_replicate]
      generalize hN : (ts.take i).foldl addTie (List.replicate n 0) = N at hn2 ln
      refine ⟨a, _, rfl, ha2, rfl, _, _, rfl, _, _, rfl, rfl, ?_⟩
      refine ⟨_, rfl, p, T.CWeb, dx, _, _, rfl, hp2, T.cWeb, T.na_Web_near, wf_near _ _ _, _, rfl, np, _, (t.1 : Int), _, rfl, rfl, SqL.of hn2, iv_getD (by omega), _, rfl, t.2, rfl, rfl, by omega, N.getD t.1 0, 1 <<< t.2, rfl, rfl, ?_⟩
      refine ⟨_, rfl, p, T.CWeb, dx, _, _, rfl, hp2, T.cWeb, T.na_Web_near, wf_near _ _ _, _, rfl, np, _, (t.1 : Int), t.1, rfl, rfl, hn2, by rw [iv_length]; exact ixN_nat (by omega), ?_⟩
      rw [iv_set]
      have hp3 : (upd H2' np (.lst (iv (N.set t.1 (N.getD t.1 0 ||| 1 <<< t.2))))) p = some (.ins T.CWeb dx (wf n tp np)) := by
        rw [upd_ne npp.symm]
        exact hp2
      refine ⟨_, rfl, p, T.CWeb, dx, _, _, rfl, hp3, T.cWeb, T.na_Web_near, wf_near _ _ _, _, rfl, np, _, (t.2 : Int), _, rfl, rfl, SqL.of upd_same, iv_getD (by rw [List.length_set]; omega), _, rfl, t.1, rfl, rfl, by omega, (N.set t.1 (N.getD t.1 0 ||| 1 <<< t.2)).getD t.2 0, 1 <<< t.1, rfl, rfl, ?_⟩
      refine ⟨_, rfl, p, T.CWeb, dx, _, _, rfl, hp3, T.cWeb, T.na_Web_near, wf_near _ _ _, _, rfl, np, _, (t.2 : Int), t.2, rfl, rfl, upd_same, by rw [iv_length, List.length_set]; exact ixN_nat (by omega), ?_⟩
      rw [iv_set, upd_upd]
      refine ⟨_, _, rfl, fun b o e hb => ?_, ?_, ?_⟩
      · rw [upd_ne (ne_of_none e np0)]
        exact k2 b o e hb
      · rw [upd_ne npp.symm]
        exact hp2
      · rw [upd_same, List.take_add_one, et]
        show _ = some (HO.lst (iv ((ts.take i ++ [t]).foldl addTie (List.replicate n 0))))
        rw [List.foldl_append, hN]
        rfl
    · rintro σ H2 ⟨u, v, rfl, k2, hp2, hn2⟩
      rw [List.length_map, a2, List.take_length] at hn2
      exact q H2 np np0 hp2 hn2 k2
end
end Sil
end

section
set_option Elab.async false
set_option maxRecDepth 100000
set_option maxHeartbeats 4000000
set_option linter.all false
namespace Sil
open PySem L2 Mi
theorem pair_le {s t : Nat × Nat} (h : tlt s t) : Ob.lexAt (fun j => decide (([(t.1 : Int), (t.2 : Int)] : List Int).getD j 0 = ([(s.1 : Int), (s.2 : Int)] : List Int).getD j 0)) (fun j => decide (([(t.1 : Int), (t.2 : Int)] : List Int).getD j 0 ≤ ([(s.1 : Int), (s.2 : Int)] : List Int).getD j 0))
    (decide (([(t.1 : Int), (t.2 : Int)] : List Int).length ≤ ([(s.1 : Int), (s.2 : Int)] : List Int).length)) 0 (min ([(t.1 : Int), (t.2 : Int)] : List Int).length ([(s.1 : Int), (s.2 : Int)] : List Int).length) = false := by
  show (if decide ((t.1 : Int) = (s.1 : Int)) = true then (if decide ((t.2 : Int) = (s.2 : Int)) = true then _ else decide ((t.2 : Int) ≤ (s.2 : Int))) else decide ((t.1 : Int) ≤ (s.1 : Int))) = false
  unfold tlt at h
  by_cases e1 : (t.1 : Int) = (s.1 : Int)
  · rw [if_pos (decide_eq_true e1), if_neg (by simp; omega)]
    exact decide_eq_false (by omega)
  · rw [if_neg (by simpa using e1)]
    exact decide_eq_false (by omega)
section
variable {P : Program} {w : World} {K : PySem.W.Frag} {mg : Str → Option Value} {base : Heap}
def spWebInit (K : PySem.W.Frag) (C : Addr) : Sp := fun vs H Q _ => ∃ (p dx tp : Addr) (n : Nat) (ts : List (Nat × Nat)), vs = [.ref p, .int (n : Int), .ref tp] ∧ H p = some (.ins C dx []) ∧ 1 ≤ n ∧ n ≤ 24 ∧ TiesIn n ts ∧ ts.Pairwise tlt ∧ TiesAt K H tp ts ∧
  ∀ H' np, H np = none → H' p = some (.ins C dx (wf n tp np)) → H' np = some (.lst (iv (nearOf n ts))) → Keep p H H' → Q .non H'
theorem ok_Web_init (T : Txt K mg) : FnOk P w K mg base CX0 4 T.Web_init.f T.Web_init.fd ["self", "size", "ties"] (spWebInit K T.CWeb) := by
  refine T.Web_init.F.ok sc_Web_init (fun vs H Q E h => ?_) (fun cdv A outer s H vs Q E hr h => ?_)
  · obtain ⟨p, dx, tp, n, ts, rfl, _⟩ := h
    rfl
  · obtain ⟨p, dx, tp, n, ts, rfl, hp, h1, hn, hti, htl, hta, q⟩ := h
    have nd := sc_Web_init.nd
    refine ⟨_, (pss_cons (ps_if (pt_not (pt_val (pe_call (ok_is_between T) (hr.mono (by decide)) (by rfl) T.is_between.g T.is_between.F.kp T.is_between.b .nil pass0 (pa_cons (pv 1) (pa_cons pe_int (pa_cons (pe_glob (v := .int 24) (by rfl) T.MOST_PARTS.g ⟨_, rfl⟩) pa_nil))))))
        (pss_one ps_never)
        pss_nil)
      (pss_cons (ps_if (pt_not (pt_val (pe_callB call_isi (by rfl) T.b_isinstance (by decide +kernel) (pa_cons (pv 2) (pa_cons (pe_bltn (v := .ty "tuple") (by rfl) T.b_tuple (by decide +kernel) rfl) pa_nil)))))
        (pss_one ps_never)
        pss_nil)
      (pss_cons (ps_for PassesOwn.never rfl (pi_enumT (by rfl) T.b_enumerate (pa_cons (pv 2) pa_nil)) (pg_tup (by rfl) (pgs_cons (pg_name (i := 3) nd rfl (Or.inl rfl)) (pgs_cons (pg_name (i := 4) nd rfl (Or.inl rfl)) pgs_nil)))
        (pss_one (ps_if (PW.pt (pw_or (pt_not (pt_val (pe_call (ok_is_tie T) (hr.mono (by decide)) (by rfl) T.is_tie.g T.is_tie.F.kp T.is_tie.b .nil pass0 (pa_cons (pv 4) (pa_cons (pv 1) pa_nil))))) (pw_or1 (PW.pt (pw_and (pt_cmpR op_gt (pv 3) pe_int (nomark _)) (pw_and1 (pt_cmpR (op_leT hr.units0) (pv 4) (pe_ix ix_tup (pv 2) (pe_op op_subN (pv 3) pe_int) (fun _ _ => rfl)) (nomark _))))))))
            (pss_one ps_never)
            pss_nil)))
      (pss_one (ps_expr (pe_meth (pv 0) T.cWeb T.Web_begin.g (ok_Web_begin T) (hr.mono (by decide)) T.Web_begin.b .nil pass0 (pa_cons (pv 1) (pa_cons (pv 2) pa_nil)))))))), ?_⟩
    refine ⟨_, rfl, (n : Int), 1, 24, rfl, by omega, by omega, true, rfl, iteF ?_⟩
    obtain ⟨as, a1, a2, a3⟩ := id hta
    refine ⟨_, rfl, .ref tp, .ty "tuple", .type "tuple", .type "tuple", true, rfl, .ty _, tyx_tup a1, kit_ty kit_tup_tup, true, rfl, iteF ?_⟩
    refine ⟨_, rfl, tp, _, rfl, a1, for_it (walk_enumT (xs := as.map V.ref)) (fun i σ H2 => ∃ (u v : Option V), σ = [some (.ref p), some (.int (n : Int)), some (.ref tp), u, v] ∧ Same H H2)
      ⟨none, none, rfl, Same.refl H⟩ (fun i σ H2 _ ⟨_, _, _, k⟩ => k.tup a1) ?_ ?_⟩
    · rintro i x σ H2 H3 hi ⟨u, v, rfl, k2⟩ ⟨Tn, x1, x2, rfl, nT, rfl, e1, e2⟩
      cases e1
      obtain ⟨a, t, ea, et, rfl, ha⟩ := TiesAt.at (tp := tp) a2 a3 e2
      have k3 : Same H (upd H2 Tn (.tup [.int (i : Nat), .ref a])) := k2.trans (same_new nT)
      obtain ⟨b1, b2⟩ := hti t (List.mem_of_getElem? et)
      refine ⟨Tn, _, rfl, SqT.of upd_same, rfl, _, _, rfl, _, _, rfl, rfl, ?_⟩
      refine ⟨_, rfl, _, rfl, a, t.1, t.2, n, rfl, k3.tup ha, b1, b2, true, rfl, iteF ?_⟩
      refine ⟨_, rfl, (i : Int), 0, rfl, rfl, _, rfl, ?_⟩
      cases i with
      | zero => exact iteF (iteF ⟨_, _, rfl, k3⟩)
      | succ i =>
        refine ite2 (fun _ => ?_) (fun c => absurd (decide_eq_true (by omega)) c)
        have li : i < ts.length := by
          have := (List.getElem?_eq_some_iff.mp et).1
          omega
        have la : i < as.length := by omega
        have ep : as[i]? = some as[i] := List.getElem?_eq_getElem la
        have eq := List.getElem?_eq_getElem li
        have hs := a3 i _ _ ep eq
        have ht : tlt ts[i] t := by
          obtain ⟨l2, e2⟩ := List.getElem?_eq_some_iff.mp et
          have := List.pairwise_iff_getElem.mp htl i (i + 1) li l2 (Nat.lt_succ_self _)
          rw [e2] at this
          exact this
        refine ⟨_, rfl, _, rfl, _, rfl, i + 1, 1, rfl, rfl, by omega, tp, _, (i : Int), .ref as[i], rfl, ?_, k3.tup a1, atI_nat (by rw [List.getElem?_map, ep]; rfl), a, as[i], [(t.1 : Int), (t.2 : Int)], [((ts[i]).1 : Int), ((ts[i]).2 : Int)], rfl, rfl, k3.tup ha, k3.tup hs, false, ?_, ?_⟩
        · rw [Nat.add_sub_cancel]
        · rw [pair_le ht]
        · exact iteF ⟨_, _, rfl, k3⟩
    · rintro σ H2 ⟨u, v, rfl, k2⟩
      refine ⟨_, rfl, p, dx, [], rfl, k2 _ _ hp, rfl, _, rfl, _, rfl, p, dx, tp, [], n, ts, rfl, k2 _ _ hp, .inl rfl, hn, hti, same_ties k2 hta, fun H' np nnp h2 h3 k3 => ?_⟩
      exact q H' np (k2.free nnp) h2 h3 fun b o e hb => k3 b o (k2 b o e) hb
end
end Sil
end

section
set_option Elab.async false
set_option maxRecDepth 100000
set_option maxHeartbeats 4000000
set_option linter.all false
namespace Sil
open PySem L2 Mi
section
variable {P : Program} {w : World} {K : PySem.W.Frag} {mg : Str → Option Value} {base : Heap}
/-- what the masks' functions ask of a web: near alone -/
def NearAt (C : Addr) (H : Hp) (p : Addr) (n : Nat) (N : List Nat) : Prop := ∃ dx tp np, H p = some (.ins C dx (wf n tp np)) ∧ H np = some (.lst (iv N))
theorem WebAt.near {C : Addr} {H : Hp} {p : Addr} {n : Nat} {ts : List (Nat × Nat)} (h : WebAt K C H p n ts) : NearAt C H p n (nearOf n ts) :=
  let ⟨dx, tp, np, h1, h2, _⟩ := h; ⟨dx, tp, np, h1, h2⟩
theorem same_near {C : Addr} {H H' : Hp} {p : Addr} {n : Nat} {N : List Nat} (k : Same H H') (h : NearAt C H p n N) : NearAt C H' p n N :=
  let ⟨dx, tp, np, h1, h2⟩ := h; ⟨dx, tp, np, k _ _ h1, k _ _ h2⟩
theorem getD_at {N : List Nat} {k : Nat} (h : k < N.length) : atI (iv N) (k : Int) = some (.int ((nr N k : Nat) : Int)) := iv_getD h
/-! ### silenced -/
def spSilenced (C : Addr) : Sp := fun vs H Q _ => ∃ (p : Addr) (n m : Nat) (N : List Nat), vs = [.ref p, .int (m : Int)] ∧ NearAt C H p n N ∧ Good n N ∧ n ≤ 24 ∧ m < 2 ^ n ∧ ∀ H', Same H H' → Q (.int ((silm N m : Nat) : Int)) H'
theorem ok_silenced (T : Txt K mg) : FnOk P w K mg base CX0 3 T.silenced.f T.silenced.fd ["web", "bits"] (spSilenced T.CWeb) := by
  refine T.silenced.F.ok sc_silenced (fun vs H Q E h => ?_) (fun cdv A outer s H vs Q E hr h => ?_)
  · obtain ⟨p, n, m, N, rfl, _⟩ := h
    rfl
  · obtain ⟨p, n, m, N, rfl, ⟨dx, tp, np, hp, hn⟩, G, h24, hm, q⟩ := h
    have nd := sc_silenced.nd
    refine ⟨_, (pss_cons (ps_set (i := 2) nd rfl (Or.inl rfl) pe_int)
      (pss_cons (ps_for PassesOwn.never rfl (pi_tup (pe_call (ok_lot_of T) (hr.mono (by decide)) (by rfl) T.lot_of.g T.lot_of.F.kp T.lot_of.b .nil pass0 (pa_cons (pv 1) pa_nil))) (pg_name (i := 3) nd rfl (Or.inl rfl))
        (pss_one (ps_set (i := 2) nd rfl (Or.inl rfl) (pe_op op_orN (pv 2) (pe_ix ix_list (pe_fld (pv 0) rfl) (pv 3) (fun _ _ => rfl))))))
      (pss_one (ps_ret (pv 2))))), ?_⟩
    refine ⟨_, rfl, m, rfl, lt24 hm h24, fun t H1 k1 nt ht => ?_⟩
    refine ⟨t, rfl, ⟨_, SqT.of ht⟩, for_it (walk_tup (xs := iv (lot m))) (fun i σ H2 => ∃ (v : Option V), σ = [some (.ref p), some (.int (m : Int)), some (.int ((orN N ((lot m).take i) : Nat) : Int)), v] ∧ H2 = H1)
      ⟨none, rfl, rfl⟩ (fun i σ H2 _ ⟨_, _, e⟩ => e ▸ SqT.of ht) ?_ ?_⟩
    · rintro i x σ H2 H3 hi ⟨v, rfl, rfl⟩ ⟨rfl, hx⟩
      obtain ⟨k, hk, rfl⟩ := iv_get hx
      have kl : k < N.length := by rw [G.len]; exact lot_lt hm (List.mem_of_getElem? hk)
      refine ⟨_, rfl, _, rfl, p, T.CWeb, dx, _, _, rfl, k1 _ _ hp, T.cWeb, T.na_Web_near, wf_near _ _ _, _, rfl, np, _, (k : Int), _, rfl, rfl, SqL.of (k1 _ _ hn), getD_at kl, orN N ((lot m).take i), nr N k, rfl, rfl, ?_⟩
      exact ⟨some (.int (k : Int)), by rw [orN_take hk]; rfl, rfl⟩
    · rintro σ H2 ⟨v, rfl, rfl⟩
      refine ⟨_, rfl, ?_⟩
      rw [iv_length, List.take_length]
      exact q _ k1
/-! ### changing, is_rest_bits, is_rest -/
def spChanging (C : Addr) : Sp := fun vs H Q _ => ∃ (p : Addr) (n m : Nat) (N : List Nat), vs = [.ref p, .int (m : Int)] ∧ NearAt C H p n N ∧ Good n N ∧ n ≤ 24 ∧ m < 2 ^ n ∧ ∀ H', Same H H' → Q (.int ((sd (2 ^ n - 1) (silm N m) ^^^ m : Nat) : Int)) H'
theorem ok_changing (T : Txt K mg) : FnOk P w K mg base CX0 4 T.changing.f T.changing.fd ["web", "bits"] (spChanging T.CWeb) := by
  refine T.changing.F.ok sc_changing (fun vs H Q E h => ?_) (fun cdv A outer s H vs Q E hr h => ?_)
  · obtain ⟨p, n, m, N, rfl, _⟩ := h
    rfl
  · obtain ⟨p, n, m, N, rfl, hN, G, h24, hm, q⟩ := h
    have nd := sc_changing.nd
    refine ⟨_, (pss_cons (ps_set (i := 2) nd rfl (Or.inl rfl) (pe_op op_sdN (pe_fld (pv 0) rfl) (pe_un un_inv (pe_call (ok_silenced T) (hr.mono (by decide)) (by rfl) T.silenced.g T.silenced.F.kp T.silenced.b .nil pass0 (pa_cons (pv 0) (pa_cons (pv 1) pa_nil))))))
      (pss_one (ps_ret (pe_op op_xorN (pv 2) (pv 1))))), ?_⟩
    obtain ⟨dx, tp, np, hp, hn⟩ := id hN
    refine ⟨_, rfl, p, T.CWeb, dx, _, _, rfl, hp, T.cWeb, T.na_Web_whole, wf_whole _ _ _, _, rfl, _, rfl, p, n, m, N, rfl, hN, G, h24, hm, fun H1 k1 => ?_⟩
    exact ⟨_, rfl, 2 ^ n - 1, silm N m, rfl, rfl, _, rfl, _, rfl, sd (2 ^ n - 1) (silm N m), m, rfl, rfl, q H1 k1⟩
def spIsRestBits (C : Addr) : Sp := fun vs H Q _ => ∃ (p : Addr) (n m : Nat) (N : List Nat), vs = [.ref p, .int (m : Int)] ∧ NearAt C H p n N ∧ Good n N ∧ n ≤ 24 ∧ m < 2 ^ n ∧ Sol (nr N) (2 ^ n - 1) 0 m ∧ ∀ H', Same H H' → Q (.bl true) H'
theorem ok_is_rest_bits (T : Txt K mg) : FnOk P w K mg base CX0 5 T.is_rest_bits.f T.is_rest_bits.fd ["web", "bits"] (spIsRestBits T.CWeb) := by
  refine T.is_rest_bits.F.ok sc_is_rest_bits (fun vs H Q E h => ?_) (fun cdv A outer s H vs Q E hr h => ?_)
  · obtain ⟨p, n, m, N, rfl, _⟩ := h
    rfl
  · obtain ⟨p, n, m, N, rfl, hN, G, h24, hm, hs, q⟩ := h
    refine ⟨_, (pss_one (ps_ret (pe_cmpR op_eq (pe_call (ok_changing T) (hr.mono (by decide)) (by rfl) T.changing.g T.changing.F.kp T.changing.b .nil pass0 (pa_cons (pv 0) (pa_cons (pv 1) pa_nil))) pe_int (nomark _)))), ?_⟩
    refine ⟨_, rfl, _, rfl, p, n, m, N, rfl, hN, G, h24, hm, fun H1 k1 => ⟨rfl, ?_⟩⟩
    rw [(rest_iff G hm).mpr hs, Nat.xor_self]
    exact q H1 k1
def spIsRest (K : PySem.W.Frag) (C : Addr) : Sp := fun vs H Q _ => ∃ (p a : Addr) (n : Nat) (N l : List Nat), vs = [.ref p, .ref a] ∧ NearAt C H p n N ∧ Good n N ∧ n ≤ 24 ∧ SqT K H a (iv l) ∧ Asc l ∧ (∀ i ∈ l, i < n) ∧ Sol (nr N) (2 ^ n - 1) 0 (mk l) ∧ ∀ H', Same H H' → Q (.bl true) H'
theorem ok_is_rest (T : Txt K mg) : FnOk P w K mg base CX0 6 T.is_rest.f T.is_rest.fd ["web", "thing"] (spIsRest K T.CWeb) := by
  refine T.is_rest.F.ok sc_is_rest (fun vs H Q E h => ?_) (fun cdv A outer s H vs Q E hr h => ?_)
  · obtain ⟨p, a, n, N, l, rfl, _⟩ := h
    rfl
  · obtain ⟨p, a, n, N, l, rfl, hN, G, h24, hS, hA, hl, hs, q⟩ := h
    refine ⟨_, (pss_one (ps_ret (pe_and (pe_call (ok_is_lot T) (hr.mono (by decide)) (by rfl) T.is_lot.g T.is_lot.F.kp T.is_lot.b .nil pass0 (pa_cons (pv 1) (pa_cons (pe_fld (pv 0) rfl) pa_nil))) (pe_one (pe_call (ok_is_rest_bits T) (hr.mono (by decide)) (by rfl) T.is_rest_bits.g T.is_rest_bits.F.kp T.is_rest_bits.b .nil pass0 (pa_cons (pv 0) (pa_cons (pe_call (ok_bits_of T) (hr.mono (by decide)) (by rfl) T.bits_of.g T.bits_of.F.kp T.bits_of.b .nil pass0 (pa_cons (pv 1) pa_nil)) pa_nil))))))), ?_⟩
    obtain ⟨dx, tp, np, hp, hn⟩ := id hN
    refine ⟨_, rfl, _, rfl, p, T.CWeb, dx, _, _, rfl, hp, T.cWeb, T.na_Web_size, wf_size _ _ _, a, l, n, rfl, hS, hA, hl, true, rfl, iteT ?_⟩
    refine ⟨_, rfl, _, rfl, a, l, rfl, hS, fun i hi => by have := hl i hi; omega, p, n, mk l, N, rfl, hN, G, h24, lt_of_tb fun i hi => ?_, hs, q⟩
    rw [tb_mk] at hi
    exact hl i (of_decide_eq_true hi)
/-! ### piece_from -/
def spPieceFrom (C : Addr) : Sp := fun vs H Q _ => ∃ (p : Addr) (n b k : Nat) (N : List Nat), vs = [.ref p, .int (b : Int), .int (k : Int)] ∧ NearAt C H p n N ∧ Good n N ∧ n ≤ 24 ∧ b < 2 ^ n ∧ b.testBit k = true ∧
  ∀ (g : Nat) H', Same H H' → g.testBit k = true → (∀ i, g.testBit i = true → b.testBit i = true) → (∀ i j, g.testBit i = true → (nr N i).testBit j = true → b.testBit j = true → g.testBit j = true) → Q (.int (g : Int)) H'
theorem ok_piece_from (T : Txt K mg) : FnOk P w K mg base CX0 3 T.piece_from.f T.piece_from.fd ["web", "bits", "part"] (spPieceFrom T.CWeb) := by
  refine T.piece_from.F.ok sc_piece_from (fun vs H Q E h => ?_) (fun cdv A outer s H vs Q E hr h => ?_)
  · obtain ⟨p, n, b, k, N, rfl, _⟩ := h
    rfl
  · obtain ⟨p, n, b, k, N, rfl, ⟨dx, tp, np, hp, hn⟩, G, h24, hb, hk, q⟩ := h
    have nd := sc_piece_from.nd
    have kn : k < n := tb_lt hk hb
    refine ⟨_, (pss_cons (ps_set (i := 3) nd rfl (Or.inl rfl) (pe_op op_bitN pe_int (pv 2)))
      (pss_cons (ps_set (i := 4) nd rfl (Or.inl rfl) (pv 3))
      (pss_cons (ps_while PassesOwn.never (pt_cmpR op_gt (pv 4) pe_int (nomark _))
        (pss_cons (ps_set (i := 5) nd rfl (Or.inl rfl) pe_int)
          (pss_cons (ps_for PassesOwn.never rfl (pi_tup (pe_call (ok_lot_of T) (hr.mono (by decide)) (by rfl) T.lot_of.g T.lot_of.F.kp T.lot_of.b .nil pass0 (pa_cons (pv 4) pa_nil))) (pg_name (i := 6) nd rfl (Or.inl rfl))
            (pss_one (ps_set (i := 5) nd rfl (Or.inl rfl) (pe_op op_orN (pv 5) (pe_ix ix_list (pe_fld (pv 0) rfl) (pv 6) (fun _ _ => rfl))))))
          (pss_cons (ps_set (i := 4) nd rfl (Or.inl rfl) (pe_op op_sdN (pe_op op_andN (pv 5) (pv 1)) (pe_un un_inv (pv 3))))
          (pss_one (ps_set (i := 3) nd rfl (Or.inl rfl) (pe_op op_orN (pv 3) (pv 4))))))))
      (pss_one (ps_ret (pv 3)))))), ?_⟩
    refine ⟨_, rfl, k, rfl, rfl, by omega, _, rfl, ?_⟩
    refine ⟨fun mu σ H1 => ∃ (fo ed : Nat) (x y : Option V), mu = 2 * (b - fo) + (if ed = 0 then 0 else 1) ∧ σ = [some (.ref p), some (.int (b : Int)), some (.int (k : Int)), some (.int (fo : Int)), some (.int (ed : Int)), x, y] ∧ Same H H1 ∧ Grow N b k fo ed,
      ⟨_, _, _, none, none, rfl, rfl, Same.refl H, grow_start hk⟩, ?_⟩
    rintro mu σ H1 ⟨fo, ed, x, y, rfl, rfl, k1, g⟩
    refine ⟨_, rfl, (ed : Int), 0, rfl, rfl, _, rfl, ite2 (fun c => ?_) (fun c => ?_)⟩
    · have e0 : ed ≠ 0 := fun z => by
        rw [z] at c
        exact absurd (of_decide_eq_true c) (by decide)
      have el : ed < 2 ^ n := lt_of_sub hb fun i hi => g.sub i (g.edg i hi)
      refine ⟨fun σ' H' => ∃ (x y : Option V), σ' = [some (.ref p), some (.int (b : Int)), some (.int (k : Int)), some (.int ((fo ||| sd (silm N ed &&& b) fo : Nat) : Int)), some (.int ((sd (silm N ed &&& b) fo : Nat) : Int)), x, y] ∧ Same H H', ?_, ?_⟩
      · rintro σ' H' ⟨x, y, rfl, k2⟩
        exact ⟨_, grow_less g e0, _, _, x, y, rfl, rfl, k2, grow_step g⟩
      · refine ⟨_, rfl, ed, rfl, lt24 el h24, fun t H2 k2 nt ht => ?_⟩
        have k12 := k1.trans k2
        refine ⟨t, rfl, ⟨_, SqT.of ht⟩, for_it (walk_tup (xs := iv (lot ed))) (fun i σ H3 => ∃ (v : Option V), σ = [some (.ref p), some (.int (b : Int)), some (.int (k : Int)), some (.int (fo : Int)), some (.int (ed : Int)), some (.int ((orN N ((lot ed).take i) : Nat) : Int)), v] ∧ H3 = H2)
          ⟨y, rfl, rfl⟩ (fun i σ H3 _ ⟨_, _, e⟩ => e ▸ SqT.of ht) ?_ ?_⟩
        · rintro i z σ H3 H4 hi ⟨v, rfl, rfl⟩ ⟨rfl, hx⟩
          obtain ⟨j, hj, rfl⟩ := iv_get hx
          have jl : j < N.length := by rw [G.len]; exact lot_lt el (List.mem_of_getElem? hj)
          refine ⟨_, rfl, _, rfl, p, T.CWeb, dx, _, _, rfl, k12 _ _ hp, T.cWeb, T.na_Web_near, wf_near _ _ _, _, rfl, np, _, (j : Int), _, rfl, rfl, SqL.of (k12 _ _ hn), getD_at jl, orN N ((lot ed).take i), nr N j, rfl, rfl, ?_⟩
          exact ⟨some (.int (j : Int)), by rw [orN_take hj]; rfl, rfl⟩
        · rintro σ H3 ⟨v, rfl, rfl⟩
          rw [iv_length, List.take_length]
          refine ⟨_, rfl, _, rfl, silm N ed, b, rfl, rfl, _, rfl, _, rfl, silm N ed &&& b, fo, rfl, rfl, ?_⟩
          exact ⟨_, rfl, _, rfl, fo, sd (silm N ed &&& b) fo, rfl, rfl, _, _, rfl, k12⟩
    · have e0 : ed = 0 := by
        have := of_decide_eq_false (Bool.eq_false_iff.mpr c)
        omega
      subst e0
      exact ⟨_, rfl, q fo H1 k1 g.has g.sub (grow_end g)⟩
/-! ### pieces_within -/
def spPieces (C : Addr) : Sp := fun vs H Q _ => ∃ (p : Addr) (n b : Nat) (N : List Nat), vs = [.ref p, .int (b : Int)] ∧ NearAt C H p n N ∧ Good n N ∧ n ≤ 24 ∧ b < 2 ^ n ∧
  ∀ (ps : List Nat) (a : Addr) H', Same H H' → H a = none → H' a = some (.lst (iv ps)) → Parts (nr N) b ps → Q (.ref a) H'
theorem ok_pieces_within (T : Txt K mg) : FnOk P w K mg base CX0 4 T.pieces_within.f T.pieces_within.fd ["web", "bits"] (spPieces T.CWeb) := by
  refine T.pieces_within.F.ok sc_pieces_within (fun vs H Q E h => ?_) (fun cdv A outer s H vs Q E hr h => ?_)
  · obtain ⟨p, n, b, N, rfl, _⟩ := h
    rfl
  · obtain ⟨p, n, b, N, rfl, hN, G, h24, hb, q⟩ := h
    have nd := sc_pieces_within.nd
    refine ⟨_, (pss_cons (ps_set (i := 2) nd rfl (Or.inl rfl) (pe_lst pa_nil))
      (pss_cons (ps_while PassesOwn.never (pt_cmpR op_gt (pv 1) pe_int (nomark _))
        (pss_cons (ps_set (i := 3) nd rfl (Or.inl rfl) (pe_call (ok_piece_from T) (hr.mono (by decide)) (by rfl) T.piece_from.g T.piece_from.F.kp T.piece_from.b .nil pass0 (pa_cons (pv 0) (pa_cons (pv 1) (pa_cons (pe_call (ok_lowest T) (hr.mono (by decide)) (by rfl) T.lowest.g T.lowest.F.kp T.lowest.b .nil pass0 (pa_cons (pv 1) pa_nil)) pa_nil)))))
          (pss_cons (ps_expr (pe_bm PySem.F.plainAttrs_list PySem.F.slot_list_append PySem.F.type_list_append mt_append (pv 2) (pa_cons (pv 3) pa_nil)))
          (pss_one (ps_set (i := 1) nd rfl (Or.inl rfl) (pe_op op_sdN (pv 1) (pe_un un_inv (pv 3))))))))
      (pss_one (ps_ret (pv 2))))), ?_⟩
    refine ⟨Nat.zero_le _, fun o no => ?_⟩
    refine ⟨fun mu σ H1 => ∃ (r : Nat) (dn : List Nat) (x : Option V), mu = r ∧ σ = [some (.ref p), some (.int (r : Int)), some (.ref o), x] ∧ Same H H1 ∧ H1 o = some (.lst (iv dn)) ∧ (∀ i, r.testBit i = true → b.testBit i = true) ∧ dn.length + r ≤ b ∧ ∀ rs, Parts (nr N) r rs → Parts (nr N) b (dn ++ rs),
      ⟨b, b, [], none, rfl, rfl, same_new no, new_lst, fun _ h => h, by simp, fun rs h => h⟩, ?_⟩
    rintro mu σ H1 ⟨r, dn, x, rfl, rfl, k1, ho, sub, len, fin⟩
    have rl : mu < 2 ^ n := lt_of_sub hb sub
    refine ⟨_, rfl, (mu : Int), 0, rfl, rfl, _, rfl, ite2 (fun c => ?_) (fun c => ?_)⟩
    · have e0 : mu ≠ 0 := fun z => by
        rw [z] at c
        exact absurd (of_decide_eq_true c) (by decide)
      obtain ⟨k, hk, hlow⟩ := mask_pos e0
      have bl : b < 16777216 := lt24 hb h24
      refine ⟨fun σ' H' => ∃ (g : Nat) (x : Option V), σ' = [some (.ref p), some (.int ((sd mu g : Nat) : Int)), some (.ref o), x] ∧ Same H H' ∧ H' o = some (.lst (iv (dn ++ [g]))) ∧ g ≠ 0 ∧ (∀ i, g.testBit i = true → mu.testBit i = true) ∧ (∀ i j, g.testBit i = true → (nr N i).testBit j = true → mu.testBit j = true → g.testBit j = true), ?_, ?_⟩
      · rintro σ' H' ⟨g, x, rfl, k2, h2, g0, g1, g2⟩
        have lt := sd_lt_of g0 g1
        refine ⟨_, lt, _, dn ++ [g], x, rfl, rfl, k2, h2, fun i hi => ?_, ?_, fun rs h => ?_⟩
        · rw [tb_sd] at hi
          simp at hi
          exact sub i hi.1
        · rw [List.length_append, List.length_singleton]
          omega
        · rw [List.append_assoc]
          exact fin _ (Parts.cons g0 g1 g2 h)
      · refine ⟨_, rfl, _, rfl, _, rfl, mu, k, rfl, hk, hlow, p, n, mu, k, N, rfl, same_near k1 hN, G, h24, rl, hk, fun g H2 k2 gk g1 g2 => ?_⟩
        have g0 : g ≠ 0 := fun z => by rw [z, Nat.zero_testBit] at gk; cases gk
        refine ⟨_, rfl, .inl ⟨rfl, _, SqL.of (k2 _ _ ho)⟩, _, rfl, o, _, _, rfl, rfl, k2 _ _ ho, by rw [iv_length]; exact lt_line (by omega), ?_⟩
        refine ⟨_, rfl, _, rfl, _, rfl, mu, g, rfl, rfl, g, _, rfl, same_put (k1.trans k2) no, ?_, g0, g1, g2⟩
        rw [upd_same, iv_snoc]
    · have e0 : mu = 0 := by
        have := of_decide_eq_false (Bool.eq_false_iff.mpr c)
        omega
      subst e0
      have := fin [] Parts.nil
      rw [List.append_nil] at this
      exact ⟨_, rfl, q dn o H1 k1 no ho this⟩
end
end Sil
end

section
set_option Elab.async false
set_option maxRecDepth 100000
set_option maxHeartbeats 4000000
set_option linter.all false
namespace Sil
open PySem L2 Mi
theorem one_lt {q n : Nat} (h : q < n) : 1 <<< q < 2 ^ n := by rw [Nat.one_shiftLeft]; exact Nat.pow_lt_pow_right (by decide) h
theorem V.int_inj0 {a : Nat} (h : V.int (a : Int) = V.int 0) : a = 0 := Int.ofNat_eq_zero.mp (V.int.inj h)
theorem l1 : 1 ≤ sizeLine := le_line (by decide)
theorem l2 : 2 ≤ sizeLine := le_line (by decide)
theorem l3 : 3 ≤ sizeLine := le_line (by decide)
section
variable {P : Program} {w : World} {K : PySem.W.Frag} {mg : Str → Option Value} {base : Heap}
/-! ### fork -/
def spFork (C : Addr) : Sp := fun vs H Q _ => ∃ (p : Addr) (n f s : Nat) (N : List Nat), vs = [.ref p, .int (f : Int), .int (s : Int)] ∧ NearAt C H p n N ∧ Good n N ∧ n ≤ 24 ∧ f < 2 ^ n ∧ s < 2 ^ n ∧ f ||| s ≠ 0 ∧
  ∀ (b : Nat) (a : Addr) H', Same H H' → H a = none → H' a = some (.lst (iv (lot b))) → Fork (nr N) f s b → Q (.ref a) H'
theorem ok_fork (T : Txt K mg) : FnOk P w K mg base CX0 4 T.fork.f T.fork.fd ["web", "free", "shut"] (spFork T.CWeb) := by
  refine T.fork.F.ok sc_fork (fun vs H Q E h => ?_) (fun cdv A outer s H vs Q E hr h => ?_)
  · obtain ⟨p, n, f, s, N, rfl, _⟩ := h
    rfl
  · obtain ⟨p, n, f, sh, N, rfl, ⟨dx, tp, np, hp, hn⟩, G, h24, hf, hs, h0, q⟩ := h
    have nd := sc_fork.nd
    have fs := Nat.or_lt_two_pow hf hs
    refine ⟨_, (pss_cons (ps_set (i := 3) nd rfl (Or.inl rfl) pe_non)
      (pss_cons (ps_for PassesOwn.never rfl (pi_tup (pe_call (ok_lot_of T) (hr.mono (by decide)) (by rfl) T.lot_of.g T.lot_of.F.kp T.lot_of.b .nil pass0 (pa_cons (pe_op op_orN (pv 1) (pv 2)) pa_nil))) (pg_name (i := 4) nd rfl (Or.inl rfl))
        (pss_cons (ps_set (i := 5) nd rfl (Or.inl rfl) (pe_op op_andN (pe_op op_orN (pe_ix ix_list (pe_fld (pv 0) rfl) (pv 4) (fun _ _ => rfl)) (pe_op op_bitN pe_int (pv 4))) (pv 1)))
          (pss_one (ps_if (PW.pt (pw_or (pt_cmpR op_isN (pv 3) pe_non (nomark _)) (pw_or1 (pt_cmpR op_lt (pe_call (ok_many_of T) (hr.mono (by decide)) (by rfl) T.many_of.g T.many_of.F.kp T.many_of.b .nil pass0 (pa_cons (pv 5) pa_nil)) (pe_call (ok_many_of T) (hr.mono (by decide)) (by rfl) T.many_of.g T.many_of.F.kp T.many_of.b .nil pass0 (pa_cons (pv 3) pa_nil)) (nomark _)))))
            (pss_one (ps_set (i := 3) nd rfl (Or.inl rfl) (pv 5)))
            pss_nil))))
      (pss_one (ps_ret (pe_callTy call_list_of (by rfl) T.b_list (by decide +kernel) (pa_cons (pe_call (ok_lot_of T) (hr.mono (by decide)) (by rfl) T.lot_of.g T.lot_of.F.kp T.lot_of.b .nil pass0 (pa_cons (pv 3) pa_nil)) pa_nil)))))), ?_⟩
    refine ⟨_, rfl, _, rfl, f, sh, rfl, rfl, f ||| sh, rfl, lt24 fs h24, fun t H1 k1 nt ht => ?_⟩
    refine ⟨t, rfl, ⟨_, SqT.of ht⟩, for_it (walk_tup (xs := iv (lot (f ||| sh)))) (fun i σ H2 => ∃ (bv : V) (u v : Option V), σ = [some (.ref p), some (.int (f : Int)), some (.int (sh : Int)), some bv, u, v] ∧ Same H1 H2 ∧
        ((i = 0 ∧ bv = .non) ∨ ∃ b : Nat, bv = .int (b : Int) ∧ Least (nr N) f ((lot (f ||| sh)).take i) b))
      ⟨.non, none, none, rfl, Same.refl _, .inl ⟨rfl, rfl⟩⟩ (fun i σ H2 _ ⟨_, _, _, _, k, _⟩ => k.tup (SqT.of ht)) ?_ ?_⟩
    · rintro i x σ H2 H3 hi ⟨bv, u, v, rfl, k2, hb⟩ ⟨rfl, hx⟩
      obtain ⟨j, hj, rfl⟩ := iv_get hx
      have jn : j < n := lot_lt fs (List.mem_of_getElem? hj)
      have jl : j < N.length := by rw [G.len]; exact jn
      have k12 := k1.trans k2
      refine ⟨_, rfl, p, T.CWeb, dx, _, _, rfl, k12 _ _ hp, T.cWeb, T.na_Web_near, wf_near _ _ _, _, rfl, np, _, (j : Int), _, rfl, rfl, SqL.of (k12 _ _ hn), getD_at jl, _, rfl, j, rfl, rfl, by omega, nr N j, 1 <<< j, rfl, rfl, _, rfl, nr N j ||| 1 <<< j, f, rfl, rfl, ?_⟩
      have nbl : nb (nr N) f j < 2 ^ 24 := lt24 (nb_lt hf _ _) h24
      have tk : (lot (f ||| sh)).take (i + 1) = (lot (f ||| sh)).take i ++ [j] := by rw [List.take_add_one, hj]; rfl
      refine ⟨_, rfl, rfl, _, rfl, ?_⟩
      rcases hb with ⟨rfl, rfl⟩ | ⟨b, rfl, L⟩
      · refine iteT ?_
        refine ⟨_, rfl, _, _, _, rfl, k2, .inr ⟨nb (nr N) f j, rfl, ?_⟩⟩
        rw [tk]
        exact least_one _ _ _
      · obtain ⟨q0, _, eb⟩ := id L.ex
        have bl : b < 2 ^ 24 := by rw [eb]; exact lt24 (nb_lt hf _ _) h24
        refine iteF ?_
        refine ⟨_, rfl, nb (nr N) f j, rfl, nbl, fun H4 k4 => ?_⟩
        refine ⟨_, rfl, b, rfl, bl, fun H5 k5 => ?_⟩
        have k25 := (k2.trans k4).trans k5
        refine ⟨_, _, rfl, rfl, _, rfl, ite2 (fun c => ?_) (fun c => ?_)⟩
        · have c := of_decide_eq_true c
          refine ⟨_, rfl, _, _, _, rfl, k25, .inr ⟨nb (nr N) f j, rfl, ?_⟩⟩
          rw [tk]
          exact L.yes (by omega)
        · have c := of_decide_eq_false (Bool.eq_false_iff.mpr c)
          refine ⟨_, _, _, rfl, k25, .inr ⟨b, rfl, ?_⟩⟩
          rw [tk]
          exact L.no (by omega)
    · rintro σ H2 ⟨bv, u, v, rfl, k2, hb⟩
      rw [iv_length, List.take_length] at hb
      rcases hb with ⟨e, _⟩ | ⟨b, rfl, L⟩
      · exact absurd (lot_nil (List.length_eq_zero_iff.mp e)) h0
      · have F := L.fork
        have bl : b < 2 ^ 24 := lt24 (lt_of_sub hf fun i hi => F.sub hi) h24
        refine ⟨_, rfl, b, rfl, bl, fun t2 H3 k3 nt2 ht2 => ?_⟩
        refine ⟨t2, _, rfl, .inr (SqT.of ht2), fun l nl => ?_⟩
        have k123 := (k1.trans k2).trans k3
        exact q b l _ (k123.trans (same_new nl)) (k123.free nl) upd_same F
/-! ### listed_from -/
def itv (it : Item) : List V := [.int (it.ch : Int), .int (it.fr : Int), .int (it.sh : Int)]
def spListed (C : Addr) : Sp := fun vs H Q _ => ∃ (p : Addr) (n : Nat) (it : Item) (N : List Nat), vs = [.ref p, .int (it.ch : Int), .int (it.fr : Int), .int (it.sh : Int)] ∧ NearAt C H p n N ∧ Good n N ∧ n ≤ 24 ∧ Fine n it ∧
  ∀ (l : List Nat) (a : Addr) H', Same H H' → H a = none → H' a = some (.lst (iv l)) → Run (nr N) n it [] l → Q (.ref a) H'
theorem ok_listed_from (T : Txt K mg) : FnOk P w K mg base CX0 5 T.listed_from.f T.listed_from.fd ["web", "chosen", "free", "shut"] (spListed T.CWeb) := by
  refine T.listed_from.F.ok sc_listed_from (fun vs H Q E h => ?_) (fun cdv A outer s H vs Q E hr h => ?_)
  · obtain ⟨p, n, it, N, rfl, _⟩ := h
    rfl
  · obtain ⟨p, n, it0, N, rfl, ⟨dx, tp, np, hp, hn⟩, G, h24, fine, q⟩ := h
    have nd := sc_listed_from.nd
    refine ⟨_, (pss_cons (ps_set (i := 4) nd rfl (Or.inl rfl) (pe_lst (pa_cons (pe_tup (pa_cons (pv 1) (pa_cons (pv 2) (pa_cons (pv 3) pa_nil)))) pa_nil)))
      (pss_cons (ps_set (i := 5) nd rfl (Or.inl rfl) (pe_lst pa_nil))
      (pss_cons (ps_while PassesOwn.never (pt_cmpR op_gt (pe_callB call_len_seq (by rfl) T.b_len PySem.boot_len (pa_cons (pv 4) pa_nil)) pe_int (nomark _))
        (pss_cons (ps_asg (pe_bm0 PySem.F.plainAttrs_list PySem.F.slot_list_pop PySem.F.type_list_pop mt_pop (pv 4)) (pg_tup (by rfl) (pgs_cons (pg_name (i := 1) nd rfl (Or.inl rfl)) (pgs_cons (pg_name (i := 2) nd rfl (Or.inl rfl)) (pgs_cons (pg_name (i := 3) nd rfl (Or.inl rfl)) pgs_nil)))))
          (pss_one (ps_if (pt_cmpR op_eq (pe_op op_orN (pv 2) (pv 3)) pe_int (nomark _))
            (pss_one (ps_expr (pe_bm PySem.F.plainAttrs_list PySem.F.slot_list_append PySem.F.type_list_append mt_append (pv 5) (pa_cons (pv 1) pa_nil))))
            (pss_one (ps_for PassesOwn.never rfl (pi_list (pe_call (ok_fork T) (hr.mono (by decide)) (by rfl) T.fork.g T.fork.F.kp T.fork.b .nil pass0 (pa_cons (pv 0) (pa_cons (pv 2) (pa_cons (pv 3) pa_nil))))) (pg_name (i := 6) nd rfl (Or.inl rfl))
                (pss_cons (ps_set (i := 7) nd rfl (Or.inl rfl) (pe_ix ix_list (pe_fld (pv 0) rfl) (pv 6) (fun _ _ => rfl)))
                  (pss_cons (ps_set (i := 2) nd rfl (Or.inl rfl) (pe_op op_sdN (pv 2) (pe_un un_inv (pe_op op_bitN pe_int (pv 6)))))
                  (pss_cons (ps_expr (pe_bm PySem.F.plainAttrs_list PySem.F.slot_list_append PySem.F.type_list_append mt_append (pv 4) (pa_cons (pe_tup (pa_cons (pe_op op_orN (pv 1) (pe_op op_bitN pe_int (pv 6))) (pa_cons (pe_op op_sdN (pv 2) (pe_un un_inv (pv 7))) (pa_cons (pe_op op_sdN (pv 3) (pe_un un_inv (pv 7))) pa_nil)))) pa_nil)))
                  (pss_one (ps_set (i := 3) nd rfl (Or.inl rfl) (pe_op op_orN (pv 3) (pe_op op_bitN pe_int (pv 6))))))))))))))
      (pss_one (ps_ret (pv 5)))))), ?_⟩
    have pc0 : pc it0.fr ≤ 24 := Nat.le_trans (pc_le fine.f) h24
    -- waiting = [(chosen, free, shut)], found = []
    refine ⟨_, rfl, _, rfl, _, rfl, l3, fun t0 nt0 => ⟨l1, fun wl nwl => ?_⟩⟩
    refine ⟨Nat.zero_le _, fun fo nfo => ?_⟩
    have wt0 : wl ≠ t0 := fun e => by rw [e, upd_same] at nwl; cases nwl
    have fw : fo ≠ wl := fun e => by rw [e, upd_same] at nfo; cases nfo
    have ft : fo ≠ t0 := fun e => by rw [e, upd_ne wt0.symm, upd_same] at nfo; cases nfo
    have wl0 : H wl = none := by rw [upd_ne wt0] at nwl; exact nwl
    have fo0 : H fo = none := by rw [upd_ne fw, upd_ne ft] at nfo; exact nfo
    refine ⟨fun mu σ H1 => ∃ (ps : List (Addr × Item)) (fnd : List Nat) (c f s : V) (x y : Option V), mu = wts (ps.map Prod.snd) ∧ σ = [some (.ref p), some c, some f, some s, some (.ref wl), some (.ref fo), x, y] ∧ Same H H1 ∧
        H1 wl = some (.lst (ps.map fun r => V.ref r.1)) ∧ (∀ r ∈ ps, H1 r.1 = some (.tup (itv r.2))) ∧ H1 fo = some (.lst (iv fnd)) ∧ Run (nr N) n it0 (ps.map Prod.snd) fnd,
      ⟨_, [(t0, it0)], [], _, _, _, none, none, rfl, rfl, ?_, ?_, fun r hr' => ?_, new_lst, Run.start fine⟩, ?_⟩
    · exact ((same_new nt0).trans (same_new nwl)).trans (same_new nfo)
    · rw [upd_ne fw.symm, upd_same]
      rfl
    · rw [List.mem_singleton.mp hr']
      show upd _ _ _ t0 = _
      rw [upd_ne ft.symm, upd_ne wt0.symm, upd_same]
      rfl
    rintro mu σ H1 ⟨ps, fnd, c, f, s', x, y, rfl, rfl, k1, hw, hps, hfo, R⟩
    have few := R.few pc0 h24
    refine ⟨_, rfl, wl, _, rfl, .inl (SqL.of hw), _, _, rfl, rfl, _, rfl, ite2 (fun cc => ?_) (fun cc => ?_)⟩
    · -- chosen, free, shut = waiting.pop()
      rcases List.eq_nil_or_concat ps with e | ⟨qs, r, e⟩
      · rw [e] at cc
        exact absurd (of_decide_eq_true cc) (by decide)
      rw [List.concat_eq_append] at e
      subst e
      have hr1 := hps r (List.mem_append_right _ List.mem_cons_self)
      obtain ⟨ra, it⟩ := r
      have em : (qs ++ [(ra, it)]).map (fun r => V.ref r.1) = qs.map (fun r => V.ref r.1) ++ [V.ref ra] := by rw [List.map_append]; rfl
      have es : (qs ++ [(ra, it)]).map Prod.snd = qs.map Prod.snd ++ [it] := by rw [List.map_append]; rfl
      rw [em] at hw
      rw [es] at R ⊢
      have fi := R.fine it (List.mem_append_right _ List.mem_cons_self)
      have hra : ra ≠ wl := fun e => by
        have h2 : H1 ra = some (.tup (itv it)) := hr1
        rw [e, hw] at h2
        cases h2
      refine ⟨fun σ' H' => ∃ (ps' : List (Addr × Item)) (fnd' : List Nat) (c f s : V) (x y : Option V), wts (ps'.map Prod.snd) < wts (qs.map Prod.snd ++ [it]) ∧ σ' = [some (.ref p), some c, some f, some s, some (.ref wl), some (.ref fo), x, y] ∧ Same H H' ∧
          H' wl = some (.lst (ps'.map fun r => V.ref r.1)) ∧ (∀ r ∈ ps', H' r.1 = some (.tup (itv r.2))) ∧ H' fo = some (.lst (iv fnd')) ∧ Run (nr N) n it0 (ps'.map Prod.snd) fnd', ?_, ?_⟩
      · rintro σ' H' ⟨ps', fnd', c, f, s, x, y, lt, rfl, k2, a1, a2, a3, a4⟩
        exact ⟨_, lt, ps', fnd', c, f, s, x, y, rfl, rfl, k2, a1, a2, a3, a4⟩
      refine ⟨_, rfl, .inl ⟨rfl, _, SqL.of hw⟩, wl, _, V.ref ra, rfl, rfl, hw, ?_, ?_⟩
      · rw [List.length_append, List.length_singleton, Nat.add_sub_cancel]
        exact List.getElem?_concat_length
      rw [List.dropLast_concat]
      have hfw : fo ≠ wl := fw
      -- the heap behind the pop
      generalize hH2 : upd H1 wl (.lst (qs.map fun r => V.ref r.1)) = H2
      have k2 : Same H H2 := by rw [← hH2]; exact same_put k1 wl0
      have hw2 : H2 wl = some (.lst (qs.map fun r => V.ref r.1)) := by rw [← hH2, upd_same]
      have hf2 : H2 fo = some (.lst (iv fnd)) := by rw [← hH2, upd_ne hfw]; exact hfo
      have hq2 : ∀ r ∈ qs, H2 r.1 = some (.tup (itv r.2)) := fun r hr' => by
        have h3 := hps r (List.mem_append_left _ hr')
        rw [← hH2, upd_ne (fun e => by rw [e, hw] at h3; cases h3)]
        exact h3
      have hr2 : H2 ra = some (.tup (itv it)) := by rw [← hH2, upd_ne hra]; exact hr1
      refine ⟨ra, itv it, rfl, SqT.of hr2, rfl, _, _, rfl, _, _, rfl, _, _, rfl, rfl, ?_⟩
      -- if free | shut == 0
      refine ⟨_, rfl, _, rfl, it.fr, it.sh, rfl, rfl, rfl, _, rfl, ite2 (fun ce => ?_) (fun ce => ?_)⟩
      · have e0 : it.fr ||| it.sh = 0 := V.int_inj0 (of_decide_eq_true ce)
        have ef : it.fr = 0 := by
          have := Nat.left_le_or (n := it.fr) (m := it.sh)
          omega
        have esh : it.sh = 0 := by
          have := Nat.right_le_or (n := it.fr) (m := it.sh)
          omega
        refine ⟨_, rfl, .inl ⟨rfl, _, SqL.of hf2⟩, _, rfl, fo, _, _, rfl, rfl, hf2, by rw [iv_length]; exact lt_line (by omega), ?_⟩
        obtain ⟨c1, f1, s1⟩ := it
        subst ef
        subst esh
        refine ⟨qs, fnd ++ [c1], _, _, _, _, _, ?_, rfl, same_put k2 fo0, ?_, fun r hr' => ?_, ?_, R.leaf⟩
        · rw [wts_append, wts_cons]
          have := wt_pos (pc (Item.mk c1 0 0).fr)
          omega
        · rw [upd_ne hfw.symm]
          exact hw2
        · have h3 := hq2 r hr'
          rw [upd_ne (fun e => by rw [e, hf2] at h3; cases h3)]
          exact h3
        · rw [upd_same, iv_snoc]
      · have e0 : it.fr ||| it.sh ≠ 0 := fun z => ce (decide_eq_true (congrArg (fun a : Nat => V.int (a : Int)) z))
        refine ⟨_, rfl, _, rfl, _, rfl, p, n, it.fr, it.sh, N, rfl, ⟨dx, tp, np, k2 _ _ hp, k2 _ _ hn⟩, G, h24, fi.f, fi.s, e0, fun b ql H3 k3 nql hql F => ?_⟩
        have k23 := k2.trans k3
        obtain ⟨R', less⟩ := R.fork G.gr h24 F
        have bsub : ∀ i ∈ lot b, i < n := fun i hi => tb_lt (F.sub (mem_lot.mp hi)) fi.f
        refine ⟨ql, rfl, ⟨_, SqL.of hql⟩, for_it (walk_list (xs := iv (lot b))) (fun i σ H4 => ∃ (dn : List (Addr × Item)) (fr sh : Nat) (x y : Option V), σ = [some (.ref p), some (.int (it.ch : Int)), some (.int (fr : Int)), some (.int (sh : Int)), some (.ref wl), some (.ref fo), x, y] ∧ Same H H4 ∧ H4 ql = some (.lst (iv (lot b))) ∧
            H4 wl = some (.lst ((qs ++ dn).map fun r => V.ref r.1)) ∧ (∀ r ∈ qs ++ dn, H4 r.1 = some (.tup (itv r.2))) ∧ H4 fo = some (.lst (iv fnd)) ∧ dn.map Prod.snd ++ kids (nr N) it.ch fr sh ((lot b).drop i) = kids (nr N) it.ch it.fr it.sh (lot b))
          ⟨[], it.fr, it.sh, _, _, rfl, k23, hql, ?_, fun r hr' => ?_, k3 _ _ hf2, rfl⟩ (fun i σ H4 _ ⟨_, _, _, _, _, _, _, h4, _⟩ => SqL.of h4) ?_ ?_⟩
        · rw [List.append_nil]
          exact k3 _ _ hw2
        · rw [List.append_nil] at hr'
          exact k3 _ _ (hq2 r hr')
        · rintro i z σ H4 H5 hi ⟨dn, fr, sh, x, y, rfl, k4, h4q, h4w, h4r, h4f, ek⟩ ⟨rfl, hx⟩
          obtain ⟨j, hj, rfl⟩ := iv_get hx
          have jn : j < n := bsub j (List.mem_of_getElem? hj)
          have jl : j < N.length := by rw [G.len]; exact jn
          obtain ⟨il, ej⟩ := List.getElem?_eq_some_iff.mp hj
          have ed : (lot b).drop i = j :: (lot b).drop (i + 1) := by rw [List.drop_eq_getElem_cons il, ej]
          rw [ed] at ek
          have kl : (qs ++ dn).length ≤ 16834 := by
            have h5 := R'.few pc0 h24
            rw [← ek, List.length_append, List.length_append, List.length_map, List.length_map] at h5
            rw [List.length_append]
            omega
          refine ⟨_, rfl, p, T.CWeb, dx, _, _, rfl, k4 _ _ hp, T.cWeb, T.na_Web_near, wf_near _ _ _, _, rfl, np, _, (j : Int), _, rfl, rfl, SqL.of (k4 _ _ hn), getD_at jl, ?_⟩
          refine ⟨_, rfl, _, rfl, j, rfl, rfl, by omega, _, rfl, fr, 1 <<< j, rfl, rfl, ?_⟩
          refine ⟨_, rfl, .inl ⟨rfl, _, SqL.of h4w⟩, _, rfl, _, rfl, j, rfl, rfl, by omega, it.ch, 1 <<< j, rfl, rfl, _, rfl, _, rfl, _, rfl, sd fr (1 <<< j), nr N j, rfl, rfl, _, rfl, _, rfl, _, rfl, sh, nr N j, rfl, rfl, l3, fun tn ntn => ?_⟩
          have tw : tn ≠ wl := fun e => by rw [e, h4w] at ntn; cases ntn
          have tf : tn ≠ fo := fun e => by rw [e, h4f] at ntn; cases ntn
          have qw : ql ≠ wl := fun e => by rw [e, hw2] at nql; cases nql
          refine ⟨wl, _, _, rfl, rfl, by rw [upd_ne tw.symm]; exact h4w, by rw [List.length_map]; exact lt_line (by omega), ?_⟩
          refine ⟨_, rfl, _, rfl, j, rfl, rfl, by omega, sh, 1 <<< j, rfl, rfl, ?_⟩
          refine ⟨dn ++ [(tn, ⟨it.ch ||| 1 <<< j, sd (sd fr (1 <<< j)) (nr N j), sd sh (nr N j)⟩)], sd fr (1 <<< j), sh ||| 1 <<< j, _, _, rfl, same_put (k4.trans (same_new ntn)) wl0, ?_, ?_, fun r hr' => ?_, ?_, ?_⟩
          · rw [upd_ne qw, upd_ne (ne_of_none h4q ntn)]
            exact h4q
          · rw [upd_same, ← List.append_assoc, List.map_append (l₁ := qs ++ dn)]
            rfl
          · rw [← List.append_assoc] at hr'
            rcases List.mem_append.mp hr' with hr' | hr'
            · have h5 := h4r r hr'
              rw [upd_ne (fun e => by rw [e, h4w] at h5; cases h5), upd_ne (ne_of_none h5 ntn)]
              exact h5
            · rw [List.mem_singleton.mp hr']
              show upd _ _ _ tn = _
              rw [upd_ne tw, upd_same]
              rfl
          · rw [upd_ne hfw, upd_ne tf.symm]
            exact h4f
          · rw [List.map_append, List.append_assoc, ← ek]
            rfl
        · rintro σ H4 ⟨dn, fr, sh, x, y, rfl, k4, h4q, h4w, h4r, h4f, ek⟩
          rw [iv_length, List.drop_length] at ek
          have ek : dn.map Prod.snd = kids (nr N) it.ch it.fr it.sh (lot b) := by rw [← ek]; exact (List.append_nil _).symm
          refine ⟨qs ++ dn, fnd, _, _, _, _, _, ?_, rfl, k4, h4w, h4r, h4f, ?_⟩
          · rw [List.map_append, ek]
            exact less
          · rw [List.map_append, ek]
            exact R'
    · have e : ps = [] := by
        cases ps with
        | nil => rfl
        | cons r rs =>
          refine absurd (decide_eq_true ?_) cc
          rw [List.length_map, List.length_cons]
          omega
      subst e
      exact ⟨_, rfl, q fnd fo H1 k1 fo0 hfo R⟩
/-! ### rests_within -/
def spRestsWithin (C : Addr) : Sp := fun vs H Q _ => ∃ (p : Addr) (n f : Nat) (N : List Nat), vs = [.ref p, .int (f : Int), .int 0] ∧ NearAt C H p n N ∧ Good n N ∧ n ≤ 24 ∧ f < 2 ^ n ∧
  ∀ (l : List Nat) (a : Addr) H', Same H H' → H a = none → H' a = some (.lst (iv l)) → Lists (nr N) f l → Q (.ref a) H'
theorem ok_rests_within (T : Txt K mg) : FnOk P w K mg base CX0 6 T.rests_within.f T.rests_within.fd ["web", "free", "keep"] (spRestsWithin T.CWeb) := by
  refine T.rests_within.F.ok sc_rests_within (fun vs H Q E h => ?_) (fun cdv A outer s H vs Q E hr h => ?_)
  · obtain ⟨p, n, f, N, rfl, _⟩ := h
    rfl
  · obtain ⟨p, n, f, N, rfl, hN, G, h24, hf, q⟩ := h
    have nd := sc_rests_within.nd
    have p0 : 0 < 2 ^ n := Nat.two_pow_pos n
    refine ⟨_, (pss_cons (ps_set (i := 3) nd rfl (Or.inl rfl) (pe_call (ok_silenced T) (hr.mono (by decide)) (by rfl) T.silenced.g T.silenced.F.kp T.silenced.b .nil pass0 (pa_cons (pv 0) (pa_cons (pv 2) pa_nil))))
      (pss_cons (ps_if (pt_cmpR op_gt (pe_op op_andN (pv 3) (pv 2)) pe_int (nomark _))
        (pss_one (ps_ret (pe_lst pa_nil)))
        pss_nil)
      (pss_one (ps_ret (pe_call (ok_listed_from T) (hr.mono (by decide)) (by rfl) T.listed_from.g T.listed_from.F.kp T.listed_from.b .nil pass0 (pa_cons (pv 0) (pa_cons (pv 2) (pa_cons (pe_op op_sdN (pe_op op_sdN (pv 1) (pe_un un_inv (pv 2))) (pe_un un_inv (pv 3))) (pa_cons pe_int pa_nil))))))))), ?_⟩
    refine ⟨_, rfl, _, rfl, p, n, 0, N, rfl, hN, G, h24, p0, fun H1 k1 => ?_⟩
    refine ⟨_, rfl, _, rfl, silm N 0, 0, rfl, rfl, _, 0, rfl, rfl, false, ?_, iteF ?_⟩
    · show V.bl (decide ((0 : Int) < ((silm N 0 &&& 0 : Nat) : Int))) = V.bl false
      rw [Nat.and_zero]
      rfl
    refine ⟨_, rfl, _, rfl, _, rfl, _, rfl, _, rfl, f, 0, rfl, rfl, _, rfl, _, rfl, sd f 0, silm N 0, rfl, rfl, p, n, ⟨0, f, 0⟩, N, ?_, same_near k1 hN, G, h24, ⟨Nat.zero_and f, p0, hf, p0⟩, fun l a H2 k2 na ha R => ?_⟩
    · rw [silm_zero, sd_z, sd_z]
      rfl
    · refine q l a H2 (k1.trans k2) (k1.free na) ha ⟨R.nodup, fun c => (R.mem c).trans ext_zero, ?_⟩
      have := R.few (show pc f ≤ 24 from Nat.le_trans (pc_le hf) h24) h24
      omega
end
end Sil
end

section
set_option Elab.async false
set_option maxRecDepth 100000
set_option maxHeartbeats 4000000
set_option linter.all false
namespace Sil
open PySem L2 Mi
/-! ### the counter's attributes -/
theorem n_wk : ¬ (("web" : Str) = "known") := by decide +kernel
def cf (p d : Addr) : List (Str × V) := putF "known" (.ref d) (putF "web" (.ref p) [])
theorem cf_web (p d : Addr) : (cf p d).lookup ("web" : Str) = some (.ref p) := by
  unfold cf
  rw [lookup_putF, if_neg n_wk, lookup_putF, if_pos rfl]
theorem cf_known (p d : Addr) : (cf p d).lookup ("known" : Str) = some (.ref d) := by
  unfold cf
  rw [lookup_putF, if_pos rfl]
theorem cf_no (p d : Addr) {m : Str} (h1 : ¬ m = "known") (h2 : ¬ m = "web") : (cf p d).lookup m = none := by
  unfold cf
  rw [lookup_putF, if_neg h1, lookup_putF, if_neg h2]
  rfl
abbrev key2 (f s : Nat) : List Key := [Sum.inl (f : Int), Sum.inl (s : Int)]
/-- what is remembered keeps the bound -/
def Known (kvs : List (List Key × V)) : Prop := ∀ (f s : Nat) (v : V), valV kvs (key2 f s) = some v → ∃ t : Nat, v = .int (t : Int) ∧ Bd t (pc f)
theorem key2_inj {f s f' s' : Nat} (h : key2 f s = key2 f' s') : f = f' := by
  have h1 := (List.cons.inj h).1
  have := Sum.inl.inj h1
  omega
theorem Known.put {kvs : List (List Key × V)} {f s t : Nat} (k : Known kvs) (h : Bd t (pc f)) : Known (putK kvs (key2 f s) (.int (t : Int))) := fun f' s' v e => by
  rw [valV_put] at e
  by_cases q : key2 f' s' = key2 f s
  · rw [if_pos q] at e
    cases e
    rw [key2_inj q]
    exact ⟨t, rfl, h⟩
  · rw [if_neg q] at e
    exact k f' s' v e
/-- a counter of the web at p stands at c -/
def CtAt (C C2 : Addr) (H : Hp) (c p d : Addr) (n : Nat) (N : List Nat) (kvs : List (List Key × V)) : Prop :=
  (∃ dx, H c = some (.ins C2 dx (cf p d))) ∧ H d = some (.dT kvs) ∧ NearAt C H p n N
theorem Keep.trans {p : Addr} {H H1 H2 : Hp} (a : Keep p H H1) (b : Keep p H1 H2) : Keep p H H2 := fun x o e n => b x o (a x o e n) n
theorem Keep.of {p : Addr} {H H1 : Hp} (a : Same H H1) : Keep p H H1 := fun x o e _ => a x o e
theorem Keep.put {p : Addr} {H H1 : Hp} {o : HO} (a : Keep p H H1) : Keep p H (upd H1 p o) := fun x u e n => by
  rw [upd_ne n]
  exact a x u e n
theorem Keep.ct {C C2 : Addr} {H H' : Hp} {c p d : Addr} {n : Nat} {N : List Nat} {kvs kvs' : List (List Key × V)} (h : CtAt C C2 H c p d n N kvs) (k : Keep d H H') (hd : H' d = some (.dT kvs')) : CtAt C C2 H' c p d n N kvs' := by
  obtain ⟨⟨dx, hc⟩, h0, dw, tp, np, hp, hn⟩ := h
  refine ⟨⟨dx, k _ _ hc fun e => ?_⟩, hd, dw, tp, np, k _ _ hp fun e => ?_, k _ _ hn fun e => ?_⟩
  · rw [e, h0] at hc; cases hc
  · rw [e, h0] at hp; cases hp
  · rw [e, h0] at hn; cases hn
theorem len_put (kvs : List (List Key × V)) (k : List Key) (v : V) : (putK kvs k v).length ≤ kvs.length + 1 := length_putK kvs k v
section
variable {P : Program} {w : World} {K : PySem.W.Frag} {mg : Str → Option Value} {base : Heap}
/-- of: parts with fewer than m free ones -/
def spOf (C C2 : Addr) (m : Nat) : Sp := fun vs H Q _ => ∃ (c p d : Addr) (n f s : Nat) (N : List Nat) (kvs : List (List Key × V)), vs = [.ref c, .int (f : Int), .int (s : Int)] ∧ CtAt C C2 H c p d n N kvs ∧ Good n N ∧ n ≤ 16 ∧ f < 2 ^ n ∧ s < 2 ^ n ∧ pc f < m ∧ Known kvs ∧ kvs.length + 16 + ent (pc f) ≤ 2000000 ∧
  ∀ (t : Nat) (kvs' : List (List Key × V)) H', Keep d H H' → H' d = some (.dT kvs') → Known kvs' → kvs'.length ≤ kvs.length + 16 + ent (pc f) → Bd t (pc f) → Q (.int (t : Int)) H'
def spOfPiece (C C2 : Addr) (m : Nat) : Sp := fun vs H Q _ => ∃ (c p d : Addr) (n f s : Nat) (N : List Nat) (kvs : List (List Key × V)), vs = [.ref c, .int (f : Int), .int (s : Int)] ∧ CtAt C C2 H c p d n N kvs ∧ Good n N ∧ n ≤ 16 ∧ f < 2 ^ n ∧ s < 2 ^ n ∧ f ||| s ≠ 0 ∧ pc f < m ∧ Known kvs ∧ kvs.length + 1 + ent (pc f) ≤ 2000000 ∧
  ∀ (t : Nat) (kvs' : List (List Key × V)) H', Keep d H H' → H' d = some (.dT kvs') → Known kvs' → kvs'.length ≤ kvs.length + 1 + ent (pc f) → Bd t (pc f) → Q (.int (t : Int)) H'
theorem ok_of_piece (T : Txt K mg) {m k : Nat} (hk : 4 ≤ k) (GO : FnOk P w K mg base CX0 k T.Counter_of.f T.Counter_of.fd ["self", "free", "shut"] (spOf T.CWeb T.CCounter m)) :
    FnOk P w K mg base CX0 (k + 1) T.Counter_of_piece.f T.Counter_of_piece.fd ["self", "free", "shut"] (spOfPiece T.CWeb T.CCounter (m + 1)) := by
  refine T.Counter_of_piece.F.ok sc_Counter_of_piece (fun vs H Q E h => ?_) (fun cdv A outer s H vs Q E hr h => ?_)
  · obtain ⟨c, p, d, n, f, s, N, kvs, rfl, _⟩ := h
    rfl
  · obtain ⟨c, p, d, n, f, s, N, kvs, rfl, hC, G, h16, hf, hs, h0, hm, kn, room, q⟩ := h
    have nd := sc_Counter_of_piece.nd
    have hu := hu_of hr
    have h24 : n ≤ 24 := by omega
    refine ⟨_, (pss_cons (ps_if (pt_cmp (pc_dnotin hu (pe_tup (pa_cons (pv 1) (pa_cons (pv 2) pa_nil))) (pe_fld (pv 0) rfl)))
        (pss_cons (ps_set (i := 3) nd rfl (Or.inl rfl) pe_int)
          (pss_cons (ps_par (i := 4) (j := 5) (by rfl) nd rfl rfl (by decide) rfl rfl (pa_cons (pv 1) (pa_cons (pv 2) pa_nil)) (by rfl))
          (pss_cons (ps_for PassesOwn.never rfl (pi_list (pe_call (ok_fork T) (hr.mono hk) (by rfl) T.fork.g T.fork.F.kp T.fork.b .nil pass0 (pa_cons (pe_fld (pv 0) rfl) (pa_cons (pv 1) (pa_cons (pv 2) pa_nil))))) (pg_name (i := 6) nd rfl (Or.inl rfl))
            (pss_cons (ps_set (i := 7) nd rfl (Or.inl rfl) (pe_ix ix_list (pe_fld (pe_fld (pv 0) rfl) rfl) (pv 6) (fun _ _ => rfl)))
              (pss_cons (ps_set (i := 4) nd rfl (Or.inl rfl) (pe_op op_sdN (pv 4) (pe_un un_inv (pe_op op_bitN pe_int (pv 6)))))
              (pss_cons (ps_aug (i := 3) nd rfl (Or.inl rfl) (pe_meth (pv 0) T.cCounter T.Counter_of.g GO hr T.Counter_of.b .nil pass0 (pa_cons (pe_op op_sdN (pv 4) (pe_un un_inv (pv 7))) (pa_cons (pe_op op_sdN (pv 5) (pe_un un_inv (pv 7))) pa_nil))) ip_add)
              (pss_one (ps_set (i := 5) nd rfl (Or.inl rfl) (pe_op op_orN (pv 5) (pe_op op_bitN pe_int (pv 6)))))))))
          (pss_one (ps_dput hu (pe_fld (pv 0) rfl) (pe_tup (pa_cons (pv 1) (pa_cons (pv 2) pa_nil))) (pv 3) rfl)))))
        pss_nil)
      (pss_one (ps_ret (pe_dget hu (pe_fld (pv 0) rfl) (pe_tup (pa_cons (pv 1) (pa_cons (pv 2) pa_nil))) (fun _ _ => rfl))))), ?_⟩
    obtain ⟨⟨dx, hc⟩, hd, hN⟩ := id hC
    refine ⟨_, rfl, _, rfl, l2, fun t1 nt1 => ?_⟩
    have k1 := same_new (o := .tup [.int (f : Int), .int (s : Int)]) nt1
    refine ⟨_, rfl, c, T.CCounter, dx, _, _, rfl, k1 _ _ hc, T.cCounter, T.na_Counter_known, cf_known _ _, d, _, rfl, DGet.t (k := key2 f s) (k1 _ _ hd) upd_same, _, rfl, ?_⟩
    cases e : valV kvs (key2 f s) with
    | some v =>
      refine iteF ?_
      obtain ⟨t, rfl, hb⟩ := kn f s v e
      refine ⟨_, rfl, c, T.CCounter, dx, _, _, rfl, k1 _ _ hc, T.cCounter, T.na_Counter_known, cf_known _ _, _, rfl, _, rfl, l2, fun t2 nt2 => ?_⟩
      have k2 := k1.trans (same_new (o := .tup [.int (f : Int), .int (s : Int)]) nt2)
      have g := DGet.t (a := d) (b := t2) (k := key2 f s) (k2 _ _ hd) upd_same
      rw [e] at g
      exact ⟨d, _, rfl, g, q t kvs _ (Keep.of k2) (k2 _ _ hd) kn (by omega) hb⟩
    | none =>
      refine iteT ?_
      refine ⟨_, rfl, _, rfl, _, _, rfl, ?_⟩
      refine ⟨_, rfl, c, T.CCounter, dx, _, _, rfl, k1 _ _ hc, T.cCounter, T.na_Counter_web, cf_web _ _, _, rfl, _, rfl, p, n, f, s, N, rfl, same_near k1 hN, G, h24, hf, hs, h0, fun b ql H2 k2 nql hql F => ?_⟩
      have k12 := k1.trans k2
      have bm : pc b ≤ pc f := pc_mono fun i h => F.sub h
      have qd : ql ≠ d := (ne_of_none (k1 _ _ hd) nql).symm
      refine ⟨ql, rfl, ⟨_, SqL.of hql⟩, for_it (walk_list (xs := iv (lot b))) (fun i σ H3 => ∃ (tt l o : Nat) (x y : Option V) (kv : List (List Key × V)), σ = [some (.ref c), some (.int (f : Int)), some (.int (s : Int)), some (.int (tt : Int)), some (.int (l : Int)), some (.int (o : Int)), x, y] ∧ Keep d H H3 ∧ H3 ql = some (.lst (iv (lot b))) ∧
          H3 d = some (.dT kv) ∧ Known kv ∧ kv.length ≤ kvs.length + i * (16 + ent (pc f - pc b)) ∧ tt * 2 ^ (pc f - pc b) ≤ i * 3 ^ (pc f - pc b) ∧ (∀ j, l.testBit j = true → f.testBit j = true) ∧ o < 2 ^ n)
        ⟨0, f, s, none, none, kvs, rfl, Keep.of k12, hql, k12 _ _ hd, kn, by omega, by simp, fun _ h => h, hs⟩ (fun i σ H3 _ ⟨_, _, _, _, _, _, _, _, h, _⟩ => SqL.of h) ?_ ?_⟩
      · rintro i z σ H3 H4 hi ⟨tt, l, o, x, y, kv, rfl, k3, h3q, h3d, kn3, len3, sum3, sub3, ob⟩ ⟨rfl, hx⟩
        obtain ⟨j, hj, rfl⟩ := iv_get hx
        have jb : b.testBit j = true := mem_lot.mp (List.mem_of_getElem? hj)
        have jf := F.sub jb
        have jn : j < n := tb_lt jf hf
        have il : i < pc b := by rw [iv_length] at hi; exact hi
        have hC3 := Keep.ct hC k3 h3d
        obtain ⟨⟨dx3, hc3⟩, hd3, dw, tp, np, hp3, hn3⟩ := id hC3
        -- near
        refine ⟨_, rfl, c, T.CCounter, dx3, _, _, rfl, hc3, T.cCounter, T.na_Counter_web, cf_web _ _, p, T.CWeb, dw, _, _, rfl, hp3, T.cWeb, T.na_Web_near, wf_near _ _ _, _, rfl, np, _, (j : Int), _, rfl, rfl, SqL.of hn3, getD_at (by rw [G.len]; exact jn), ?_⟩
        refine ⟨_, rfl, _, rfl, j, rfl, rfl, by omega, _, rfl, l, 1 <<< j, rfl, rfl, ?_⟩
        -- total += self.of(..)
        have less : pc (sd (sd l (1 <<< j)) (nr N j)) + pc b ≤ pc f := kid_less F jf fun r hr' => by
          rw [tb_sd, tb_sd, tb_one] at hr'
          simp only [Bool.and_eq_true, Bool.not_eq_true', decide_eq_false_iff_not] at hr'
          exact ⟨sub3 r hr'.1.1, hr'.1.2, hr'.2⟩
        have lf : sd (sd l (1 <<< j)) (nr N j) < 2 ^ n := lt_of_sub hf fun r hr' => by
          rw [tb_sd, tb_sd] at hr'
          simp only [Bool.and_eq_true] at hr'
          exact sub3 r hr'.1.1
        have lo : sd o (nr N j) < 2 ^ n := lt_of_sub ob fun r hr' => by
          rw [tb_sd] at hr'
          simp only [Bool.and_eq_true] at hr'
          exact hr'.1
        have em := ent_mono (show pc (sd (sd l (1 <<< j)) (nr N j)) ≤ pc f - pc b by omega)
        have ef := ent_fork bm
        have e1 : i * (16 + ent (pc f - pc b)) + (16 + ent (pc f - pc b)) ≤ pc b * (16 + ent (pc f - pc b)) := by
          have := Nat.mul_le_mul_right (16 + ent (pc f - pc b)) (show i + 1 ≤ pc b by omega)
          rw [Nat.add_mul, Nat.one_mul] at this
          exact this
        refine ⟨_, rfl, _, rfl, c, dx3, _, rfl, hc3, cf_no _ _ (by decide +kernel) (by decide +kernel), _, rfl, _, rfl, _, rfl, sd l (1 <<< j), nr N j, rfl, rfl, _, rfl, _, rfl, _, rfl, o, nr N j, rfl, rfl,
          c, p, d, n, _, _, N, kv, rfl, hC3, G, h16, lf, lo, by omega, kn3, by omega, fun t kv' H5 k5 h5d kn5 len5 bt => ?_⟩
        refine ⟨_, _, rfl, rfl, ?_⟩
        refine ⟨_, rfl, _, rfl, j, rfl, rfl, by omega, o, 1 <<< j, rfl, rfl, ?_⟩
        refine ⟨tt + t, sd l (1 <<< j), o ||| 1 <<< j, _, _, kv', rfl, k3.trans k5, k5 _ _ h3q qd, h5d, kn5, ?_, sum_bd sum3 (bd_mono bt (by omega)), fun r hr' => ?_, Nat.or_lt_two_pow ob (one_lt jn)⟩
        · rw [Nat.add_mul, Nat.one_mul]
          omega
        · rw [tb_sd] at hr'
          simp only [Bool.and_eq_true] at hr'
          exact sub3 r hr'.1
      · rintro σ H3 ⟨tt, l, o, x, y, kv, rfl, k3, h3q, h3d, kn3, len3, sum3, sub3, ob⟩
        rw [iv_length] at len3 sum3
        have ef := ent_fork bm
        have bt : Bd tt (pc f) := bd_fork sum3 bm
        have len3 : kv.length ≤ kvs.length + pc b * (16 + ent (pc f - pc b)) := len3
        obtain ⟨⟨dx3, hc3⟩, hd3, hN3⟩ := id (Keep.ct hC k3 h3d)
        refine ⟨_, rfl, _, rfl, c, T.CCounter, dx3, _, _, rfl, hc3, T.cCounter, T.na_Counter_known, cf_known _ _, _, rfl, _, rfl, l2, fun t2 nt2 => ?_⟩
        have t2d : t2 ≠ d := (ne_of_none h3d nt2).symm
        have k4 := same_new (o := .tup [.int (f : Int), .int (s : Int)]) nt2
        refine ⟨d, _, rfl, DPut.t (k := key2 f s) (k4 _ _ h3d) upd_same (lt_line (by omega)), ?_⟩
        have k5 : Keep d H (upd (upd H3 t2 (.tup [.int (f : Int), .int (s : Int)])) d (.dT (putK kv (key2 f s) (.int (tt : Int))))) := (k3.trans (Keep.of k4)).put
        have kn5 := kn3.put (s := s) bt
        have l5 := len_put kv (key2 f s) (.int (tt : Int))
        obtain ⟨⟨dx5, hc5⟩, hd5, _⟩ := id (Keep.ct hC k5 upd_same)
        refine ⟨_, rfl, c, T.CCounter, dx5, _, _, rfl, hc5, T.cCounter, T.na_Counter_known, cf_known _ _, _, rfl, _, rfl, l2, fun t3 nt3 => ?_⟩
        have k6 := same_new (o := .tup [.int (f : Int), .int (s : Int)]) nt3
        have g := DGet.t (a := d) (b := t3) (k := key2 f s) (k6 _ _ hd5) upd_same
        rw [valV_put, if_pos rfl] at g
        exact ⟨d, _, rfl, g, q tt _ _ (k5.trans (Keep.of k6)) (k6 _ _ hd5) kn5 (by omega) bt⟩
end
end Sil
end

section
set_option Elab.async false
set_option maxRecDepth 100000
set_option maxHeartbeats 4000000
set_option linter.all false
namespace Sil
open PySem L2 Mi
/-! ### dicts of numbers -/
/-- the dict that has the value g i at each i where g is not 0 -/
structure DK (kvs : List (Key × V)) (g : Nat → Nat) : Prop where
  nd : (kvs.map (·.1)).Nodup
  key : ∀ k ∈ kvs.map (·.1), ∃ i : Nat, k = Sum.inl (i : Int)
  val : ∀ i : Nat, valV kvs (Sum.inl (i : Int) : Key) = if g i = 0 then none else some (.int ((g i : Nat) : Int))
theorem dk_nil : DK [] (fun _ => 0) := ⟨List.nodup_nil, fun k h => (by cases h), fun i => rfl⟩
theorem putK_old {kvs : List (Key × V)} {k : Key} (v : V) {u : V} (h : valV kvs k = some u) : (putK kvs k v).map (·.1) = kvs.map (·.1) := by
  unfold putK
  have : (kvs.any fun kv => decide (kv.1 = k)) = true := by rw [valV_any, h]; rfl
  rw [if_pos this, List.map_map]
  refine List.map_congr_left fun p hp => ?_
  show (if p.1 = k then (p.1, v) else p).1 = p.1
  split <;> rfl
theorem DK.put {kvs : List (Key × V)} {g : Nat → Nat} (D : DK kvs g) (k x : Nat) (hx : x ≠ 0) : DK (putK kvs (Sum.inl (k : Int)) (.int (x : Int))) (fun i => if i = k then x else g i) := by
  refine ⟨?_, ?_, ?_⟩
  · cases e : valV kvs (Sum.inl (k : Int) : Key) with
    | none => exact nd_putK _ D.nd e
    | some u => rw [putK_old _ e]; exact D.nd
  · intro key hk
    cases e : valV kvs (Sum.inl (k : Int) : Key) with
    | none =>
      rw [putK_new _ e, List.map_append] at hk
      rcases List.mem_append.mp hk with h | h
      · exact D.key key h
      · exact ⟨k, by simpa using h⟩
    | some u => rw [putK_old _ e] at hk; exact D.key key hk
  · intro i
    rw [valV_put]
    by_cases e : i = k
    · rw [if_pos (by rw [e]), if_pos e, if_neg hx]
    · rw [if_neg (fun z => e (by have := Sum.inl.inj z; omega)), if_neg e]
      exact D.val i
theorem DK.congr {kvs : List (Key × V)} {g h : Nat → Nat} (D : DK kvs g) (e : ∀ i, g i = h i) : DK kvs h := (funext e : g = h) ▸ D
theorem DK.getD {kvs : List (Key × V)} {g : Nat → Nat} (D : DK kvs g) (i : Nat) : (valV kvs (Sum.inl (i : Int) : Key)).getD (.int 0) = .int ((g i : Nat) : Int) := by
  rw [D.val]
  by_cases e : g i = 0
  · rw [if_pos e, e]; rfl
  · rw [if_neg e]; rfl
theorem iop_mulN {X : Cx} : OpR X (inplaceOp .Mult) (fun x y H Q => ∃ a b : Nat, x = .int (a : Int) ∧ y = .int (b : Int) ∧ a ≤ 1000000 ∧ Q (.int ((a * b : Nat) : Int)) H) := by
  intro pins s σ H x y v u Q I rx ry h
  obtain ⟨a, b, rfl, rfl, ha, q⟩ := h
  refine iop_mul pins s σ H _ _ v u Q I rx ry ⟨_, _, rfl, rfl, .inl ⟨by omega, by omega⟩, ?_⟩
  show Q (.int ((a : Int) * (b : Int))) H
  rw [← Int.natCast_mul]
  exact q
section
variable {P : Program} {w : World} {K : PySem.W.Frag} {mg : Str → Option Value} {base : Heap}
theorem ok_of (T : Txt K mg) {m k : Nat} (hk : 4 ≤ k) (GP : FnOk P w K mg base CX0 k T.Counter_of_piece.f T.Counter_of_piece.fd ["self", "free", "shut"] (spOfPiece T.CWeb T.CCounter m)) :
    FnOk P w K mg base CX0 (k + 1) T.Counter_of.f T.Counter_of.fd ["self", "free", "shut"] (spOf T.CWeb T.CCounter m) := by
  refine T.Counter_of.F.ok sc_Counter_of (fun vs H Q E h => ?_) (fun cdv A outer s H vs Q E hr h => ?_)
  · obtain ⟨c, p, d, n, f, s, N, kvs, rfl, _⟩ := h
    rfl
  · obtain ⟨c, p, d, n, f, sh, N, kvs, rfl, hC, G, h16, hf, hs, hm, kn, room, q⟩ := h
    have nd := sc_Counter_of.nd
    have h24 : n ≤ 24 := by omega
    have fs := Nat.or_lt_two_pow hf hs
    have pf : pc f ≤ 16 := Nat.le_trans (pc_le hf) h16
    refine ⟨_, (pss_cons (ps_set (i := 3) nd rfl (Or.inl rfl) pe_int)
      (pss_cons (ps_for PassesOwn.never rfl (pi_list (pe_call (ok_pieces_within T) (hr.mono hk) (by rfl) T.pieces_within.g T.pieces_within.F.kp T.pieces_within.b .nil pass0 (pa_cons (pe_fld (pv 0) rfl) (pa_cons (pe_op op_orN (pv 1) (pv 2)) pa_nil)))) (pg_name (i := 4) nd rfl (Or.inl rfl))
        (pss_cons (ps_aug (i := 3) nd rfl (Or.inl rfl) (pe_meth (pv 0) T.cCounter T.Counter_of_piece.g GP hr T.Counter_of_piece.b .nil pass0 (pa_cons (pe_op op_andN (pv 4) (pv 1)) (pa_cons (pe_op op_andN (pv 4) (pv 2)) pa_nil))) iop_mulN)
          (pss_one (ps_if (pt_cmpR op_eq (pv 3) pe_int (nomark _))
            (pss_one (ps_ret pe_int))
            pss_nil))))
      (pss_one (ps_ret (pv 3))))), ?_⟩
    obtain ⟨⟨dx, hc⟩, hd, hN⟩ := id hC
    refine ⟨_, rfl, c, T.CCounter, dx, _, _, rfl, hc, T.cCounter, T.na_Counter_web, cf_web _ _, _, rfl, _, rfl, f, sh, rfl, rfl, p, n, f ||| sh, N, rfl, hN, G, h24, fs, fun ps a H1 k1 na ha PP => ?_⟩
    have ad : a ≠ d := (ne_of_none hd na).symm
    have pl : ps.length ≤ 16 := Nat.le_trans (parts_pc PP) (Nat.le_trans (pc_le fs) h16)
    refine ⟨a, rfl, ⟨_, SqL.of ha⟩, for_it (walk_list (xs := iv ps)) (fun i σ H2 => ∃ (fo dn r : Nat) (x : Option V) (kv : List (List Key × V)), σ = [some (.ref c), some (.int (f : Int)), some (.int (sh : Int)), some (.int (fo : Int)), x] ∧ Keep d H H2 ∧ H2 a = some (.lst (iv ps)) ∧
        H2 d = some (.dT kv) ∧ Known kv ∧ kv.length ≤ kvs.length + i + ent (pc (dn &&& f)) ∧ Bd fo (pc (dn &&& f)) ∧ dn &&& r = 0 ∧ Parts (nr N) r (ps.drop i) ∧ ∀ j, r.testBit j = true → (f ||| sh).testBit j = true)
      ⟨1, 0, f ||| sh, none, kvs, rfl, Keep.of k1, ha, k1 _ _ hd, kn, by rw [Nat.zero_and, pc_zero, ent_zero]; omega, by rw [Nat.zero_and, pc_zero]; exact bd_one, Nat.zero_and _, PP, fun _ h => h⟩ (fun i σ H2 _ ⟨_, _, _, _, _, _, _, h, _⟩ => SqL.of h) ?_ ?_⟩
    · rintro i z σ H2 H3 hi ⟨fo, dn, r, x, kv, rfl, k2, h2a, h2d, kn2, len2, bd2, dj, PP2, sub⟩ ⟨rfl, hx⟩
      obtain ⟨g, hg, rfl⟩ := iv_get hx
      obtain ⟨il, eg⟩ := List.getElem?_eq_some_iff.mp hg
      have ed : ps.drop i = g :: ps.drop (i + 1) := by rw [List.drop_eq_getElem_cons il, eg]
      rw [ed] at PP2
      obtain ⟨g0, gs, gc, PP3⟩ := parts_step PP2
      have gsub : ∀ j, g.testBit j = true → (f ||| sh).testBit j = true := fun j h => sub j (gs j h)
      have ne0 : (g &&& f) ||| (g &&& sh) ≠ 0 := by rw [and_split gsub]; exact g0
      have e1 := pc_and_step (f := f) dj gs
      have e2 := pc_and_le (dn ||| g) f
      have e3 := ent_add (pc (dn &&& f)) (pc (g &&& f))
      have e4 := ent_mono (show pc (dn &&& f) + pc (g &&& f) ≤ pc f by omega)
      have e5 := pc_and_le g f
      have hC2 := Keep.ct hC k2 h2d
      obtain ⟨⟨dx2, hc2⟩, hd2, hN2⟩ := id hC2
      refine ⟨_, rfl, _, rfl, c, dx2, _, rfl, hc2, cf_no _ _ (by decide +kernel) (by decide +kernel), _, rfl, _, rfl, g, f, rfl, rfl, _, rfl, _, rfl, g, sh, rfl, rfl,
        c, p, d, n, g &&& f, g &&& sh, N, kv, rfl, hC2, G, h16, Nat.and_lt_two_pow _ hf, Nat.and_lt_two_pow _ hs, ne0, by omega, kn2, by omega, fun t kv' H4 k4 h4d kn4 len4 bt => ?_⟩
      have fo6 := bd_le bd2 (by omega)
      have b4 := bd_mul bd2 bt
      rw [← e1] at b4
      refine ⟨fo, t, rfl, rfl, by omega, ?_⟩
      refine ⟨_, rfl, rfl, _, rfl, ite2 (fun ce => ?_) (fun ce => ?_)⟩
      · exact q 0 kv' H4 (k2.trans k4) h4d kn4 (by omega) (bd_zero _)
      · refine ⟨fo * t, dn ||| g, sd r g, _, kv', rfl, k2.trans k4, k4 _ _ h2a ad, h4d, kn4, by rw [e1]; omega, b4, dj_step dj gs, PP3, fun j h => ?_⟩
        rw [tb_sd] at h
        simp only [Bool.and_eq_true] at h
        exact sub j h.1
    · rintro σ H2 ⟨fo, dn, r, x, kv, rfl, k2, h2a, h2d, kn2, len2, bd2, dj, PP2, sub⟩
      have e2 := pc_and_le dn f
      have e4 := ent_mono e2
      rw [iv_length] at len2
      exact ⟨_, rfl, q fo kv H2 k2 h2d kn2 (by omega) (bd_mono bd2 e2)⟩
theorem ok_none {f : Addr} {fd : FuncData} {ps : List Str} {sp : Sp} (k : Nat) (h : ∀ vs H Q E, ¬ sp vs H Q E) : FnOk P w K mg base CX0 k f fd ps sp :=
  ⟨fun vs H Q E z => absurd z (h vs H Q E), fun _ _ _ H _ _ vs Q E _ _ _ _ z => absurd z (h vs H Q E)⟩
theorem ok_of_all (T : Txt K mg) : ∀ m : Nat, FnOk P w K mg base CX0 (2 * m + 5) T.Counter_of.f T.Counter_of.fd ["self", "free", "shut"] (spOf T.CWeb T.CCounter m)
  | 0 => ok_none _ fun vs H Q E z => by
    obtain ⟨_, _, _, _, _, _, _, _, _, _, _, _, _, _, h, _⟩ := z
    exact Nat.not_lt_zero _ h
  | m + 1 => by
    have h1 := ok_of_all T m
    have h2 := ok_of_piece T (show 4 ≤ 2 * m + 5 by omega) h1
    exact ok_of T (show 4 ≤ 2 * m + 5 + 1 by omega) h2
/-! ### Counter.__init__ -/
def spCtInit (C2 : Addr) : Sp := fun vs H Q _ => ∃ (c dx p : Addr), vs = [.ref c, .ref p] ∧ H c = some (.ins C2 dx []) ∧ ∀ d H', H d = none → H' c = some (.ins C2 dx (cf p d)) → H' d = some (.dT []) → Keep c H H' → Q .non H'
theorem ok_Counter_init (T : Txt K mg) : FnOk P w K mg base CX0 1 T.Counter_init.f T.Counter_init.fd ["self", "web"] (spCtInit T.CCounter) := by
  refine T.Counter_init.F.ok sc_Counter_init (fun vs H Q E h => ?_) (fun cdv A outer s H vs Q E hr h => ?_)
  · obtain ⟨c, dx, p, rfl, _⟩ := h
    rfl
  · obtain ⟨c, dx, p, rfl, hc, q⟩ := h
    refine ⟨_, (pss_cons (ps_fld (pv 0) (pv 1) rfl)
      (pss_one (ps_fld (pv 0) pe_dnewT rfl))), ?_⟩
    refine ⟨_, rfl, _, rfl, c, T.CCounter, dx, [], rfl, hc, T.cCounter, T.na_Counter_web, by decide, ?_⟩
    intro d nd
    have cd : c ≠ d := fun e => by rw [e, upd_same] at nd; cases nd
    have d0 : H d = none := by rw [upd_ne cd.symm] at nd; exact nd
    refine ⟨_, rfl, c, T.CCounter, dx, _, rfl, (by rw [upd_ne cd, upd_same]), T.cCounter, T.na_Counter_known, (by show 1 < 1000; decide), ?_⟩
    refine q d _ d0 upd_same (by rw [upd_ne cd.symm, upd_same]) fun b o e hb => ?_
    rw [upd_ne hb, upd_ne (ne_of_none e d0), upd_ne hb]
    exact e
/-! ### many_rests, check_listed -/
def spManyRests (C : Addr) : Sp := fun vs H Q _ => ∃ (p : Addr) (n : Nat) (N : List Nat), vs = [.ref p] ∧ NearAt C H p n N ∧ Good n N ∧ n ≤ 16 ∧ ∀ (t : Nat) H', Same H H' → t ≤ 656 → Q (.int (t : Int)) H'
theorem ok_many_rests (T : Txt K mg) : FnOk P w K mg base CX0 40 T.many_rests.f T.many_rests.fd ["web"] (spManyRests T.CWeb) := by
  refine T.many_rests.F.ok sc_many_rests (fun vs H Q E h => ?_) (fun cdv A outer s H vs Q E hr h => ?_)
  · obtain ⟨p, n, N, rfl, _⟩ := h
    rfl
  · obtain ⟨p, n, N, rfl, hN, G, h16, q⟩ := h
    refine ⟨_, (pss_one (ps_ret (pe_meth (pe_make T.Counter_init.m (ok_Counter_init T) (hr.mono (by decide)) (by rfl) T.gCounter T.Counter_init.b .nil pass0 (pa_cons (pv 0) pa_nil)) T.cCounter T.Counter_of.g (ok_of_all T 17) hr T.Counter_of.b .nil pass0 (pa_cons (pe_fld (pv 0) rfl) (pa_cons pe_int pa_nil))))), ?_⟩
    refine ⟨_, rfl, fun x dx nx ndx ne => ?_⟩
    refine ⟨x, dx, p, rfl, upd_same, fun d H1 nd h1 h2 k1 => ⟨rfl, ?_⟩⟩
    have k0 : Same H (upd (upd H dx (.own x)) x (.ins T.CCounter dx [])) := fun b o e => by
      rw [upd_ne (ne_of_none e nx), upd_ne (ne_of_none e ndx)]
      exact e
    have k2 : Same H H1 := fun b o e => k1 b o (k0 b o e) (ne_of_none e nx)
    have hN1 := same_near k2 hN
    obtain ⟨dw, tp, np, hp, hn⟩ := id hN1
    refine ⟨x, dx, _, rfl, h1, cf_no _ _ (by decide +kernel) (by decide +kernel), ?_⟩
    have wl : 2 ^ n - 1 < 2 ^ n := Nat.sub_lt (Nat.two_pow_pos n) (by decide)
    have d0 : H d = none := k0.free nd
    refine ⟨_, rfl, p, T.CWeb, dw, _, _, rfl, hp, T.cWeb, T.na_Web_whole, wf_whole _ _ _, x, p, d, n, 2 ^ n - 1, 0, N, [], rfl, ⟨⟨dx, h1⟩, h2, hN1⟩, G, h16, wl, Nat.two_pow_pos n, ?_, fun f s v e => (by cases e), ?_, fun t kvs' H3 k3 h3d kn3 l3 bt => ?_⟩
    · rw [pc_full]; omega
    · rw [pc_full]
      have := ent_mono h16
      rw [ent_16] at this
      show 0 + 16 + ent n ≤ 2000000
      omega
    · rw [pc_full] at bt
      exact q t H3 (fun b o e => k3 b o (k2 b o e) (ne_of_none e d0)) (bd_le bt h16)
def spCheckListed : Sp := fun vs H Q _ => ∃ (t : Int), vs = [.int t] ∧ t ≤ 2000 ∧ Q .non H
theorem ok_check_listed (T : Txt K mg) : FnOk P w K mg base CX0 1 T.check_listed.f T.check_listed.fd ["number"] spCheckListed := by
  refine T.check_listed.F.ok sc_check_listed (fun vs H Q E h => ?_) (fun cdv A outer s H vs Q E hr h => ?_)
  · obtain ⟨t, rfl, _⟩ := h
    rfl
  · obtain ⟨t, rfl, h1, q⟩ := h
    refine ⟨_, (pss_one (ps_if (pt_cmpR op_gt (pv 0) (pe_glob (v := .int 2000) (by rfl) T.MOST_LISTED.g ⟨_, rfl⟩) (nomark _))
        (pss_one ps_never)
        pss_nil)), ?_⟩
    refine ⟨_, rfl, _, _, rfl, rfl, _, rfl, ite2 (fun c => ?_) (fun c => q)⟩
    have := of_decide_eq_true c
    omega
/-! ### rest_sizes -/
def spRestSizes (C : Addr) : Sp := fun vs H Q _ => ∃ (p : Addr) (n : Nat) (N : List Nat), vs = [.ref p] ∧ NearAt C H p n N ∧ Good n N ∧ n ≤ 16 ∧
  ∀ (l : List Nat) (d : Addr) (kvs : List (Key × V)) H', Same H H' → H d = none → H' d = some (.dK kvs) → Lists (nr N) (2 ^ n - 1) l → DK kvs (fun i => (l.map pc).count i) → Q (.ref d) H'
theorem ok_rest_sizes (T : Txt K mg) : FnOk P w K mg base CX0 41 T.rest_sizes.f T.rest_sizes.fd ["web"] (spRestSizes T.CWeb) := by
  refine T.rest_sizes.F.ok sc_rest_sizes (fun vs H Q E h => ?_) (fun cdv A outer s H vs Q E hr h => ?_)
  · obtain ⟨p, n, N, rfl, _⟩ := h
    rfl
  · obtain ⟨p, n, N, rfl, hN, G, h16, q⟩ := h
    have nd := sc_rest_sizes.nd
    have hu := hu_of hr
    have h24 : n ≤ 24 := by omega
    have wl : 2 ^ n - 1 < 2 ^ n := Nat.sub_lt (Nat.two_pow_pos n) (by decide)
    refine ⟨_, (pss_cons (ps_expr (pe_call (ok_check_listed T) (hr.mono (by decide)) (by rfl) T.check_listed.g T.check_listed.F.kp T.check_listed.b .nil pass0 (pa_cons (pe_call (ok_many_rests T) (hr.mono (by decide)) (by rfl) T.many_rests.g T.many_rests.F.kp T.many_rests.b .nil pass0 (pa_cons (pv 0) pa_nil)) pa_nil)))
      (pss_cons (ps_set (i := 1) nd rfl (Or.inl rfl) pe_dnewK)
      (pss_cons (ps_for PassesOwn.never rfl (pi_list (pe_call (ok_rests_within T) (hr.mono (by decide)) (by rfl) T.rests_within.g T.rests_within.F.kp T.rests_within.b .nil pass0 (pa_cons (pv 0) (pa_cons (pe_fld (pv 0) rfl) (pa_cons pe_int pa_nil))))) (pg_name (i := 2) nd rfl (Or.inl rfl))
        (pss_cons (ps_set (i := 3) nd rfl (Or.inl rfl) (pe_call (ok_many_of T) (hr.mono (by decide)) (by rfl) T.many_of.g T.many_of.F.kp T.many_of.b .nil pass0 (pa_cons (pv 2) pa_nil)))
          (pss_one (ps_dput hu (pv 1) (pv 3) (pe_op op_add (pe_dget2 hu (pv 1) (pv 3) pe_int ⟨rfl, rfl, rfl, rfl⟩) pe_int) rfl))))
      (pss_one (ps_ret (pv 1)))))), ?_⟩
    refine ⟨_, rfl, p, n, N, rfl, hN, G, h16, fun t H1 k1 ht => ⟨(t : Int), rfl, by omega, ?_⟩⟩
    intro d nnd
    have d0 := k1.free nnd
    have k2 : Same H (upd H1 d (.dK [])) := k1.trans (same_new nnd)
    have hN2 := same_near k2 hN
    obtain ⟨dw, tp, np, hp, hn⟩ := id hN2
    refine ⟨_, rfl, _, rfl, p, T.CWeb, dw, _, _, rfl, hp, T.cWeb, T.na_Web_whole, wf_whole _ _ _, p, n, 2 ^ n - 1, N, rfl, hN2, G, h24, wl, fun l a H3 k3 na ha L => ?_⟩
    have ad : a ≠ d := (ne_of_none upd_same na).symm
    have few := L.few
    refine ⟨a, rfl, ⟨_, SqL.of ha⟩, for_it (walk_list (xs := iv l)) (fun i σ H4 => ∃ (x y : Option V) (kvs : List (Key × V)), σ = [some (.ref p), some (.ref d), x, y] ∧ Same H H4 ∧ H4 a = some (.lst (iv l)) ∧ H4 d = some (.dK kvs) ∧ kvs.length ≤ i ∧ DK kvs (fun j => ((l.take i).map pc).count j))
      ⟨none, none, [], rfl, k2.trans k3, ha, k3 _ _ upd_same, Nat.le_refl _, dk_nil⟩ (fun i σ H4 _ ⟨_, _, _, _, _, h, _⟩ => SqL.of h) ?_ ?_⟩
    · rintro i z σ H4 H5 hi ⟨x, y, kvs, rfl, k4, h4a, h4d, len, D⟩ ⟨rfl, hx⟩
      obtain ⟨j, hj, rfl⟩ := iv_get hx
      have jl : j < 2 ^ n := lt_of_sub wl ((L.mem j).mp (List.mem_of_getElem? hj)).sub
      rw [iv_length] at hi
      refine ⟨_, rfl, j, rfl, lt24 jl h24, fun H6 k6 => ?_⟩
      refine ⟨_, rfl, d, rfl, .inl ⟨kvs, .inl (k6 _ _ h4d)⟩, _, rfl, _, DGet.k (k := Sum.inl ((pc j : Nat) : Int)) (k6 _ _ h4d), ?_⟩
      rw [D.getD]
      refine ⟨_, _, rfl, rfl, _, rfl, _, rfl, d, _, rfl, DPut.k (k := Sum.inl ((pc j : Nat) : Int)) (k6 _ _ h4d) (lt_line (by omega)), ?_⟩
      refine ⟨_, _, _, rfl, same_put (k4.trans k6) d0, ?_, upd_same, ?_, ?_⟩
      · rw [upd_ne ad]
        exact k6 _ _ h4a
      · exact Nat.le_trans (length_putK _ _ _) (by omega)
      · have D2 := D.put (pc j) (((l.take i).map pc).count (pc j) + 1) (by omega)
        refine D2.congr fun r => ?_
        rw [List.take_add_one, hj]
        show _ = (((l.take i) ++ [j]).map pc).count r
        rw [List.map_append, List.count_append, List.map_singleton, List.count_singleton]
        by_cases e : r = pc j
        · rw [if_pos e, e]; simp
        · have e' : ¬ (pc j == r) = true := by simp; exact fun z => e z.symm
          rw [if_neg e, if_neg e', Nat.add_zero]
    · rintro σ H4 ⟨x, y, kvs, rfl, k4, h4a, h4d, len, D⟩
      rw [iv_length, List.take_length] at D
      exact ⟨_, rfl, q l d kvs H4 k4 d0 h4d L D⟩
end
end Sil
end

section
set_option Elab.async false
set_option maxRecDepth 100000
set_option maxHeartbeats 4000000
set_option linter.all false
namespace Sil
open PySem L2 Mi
theorem len_K {X : Cx} {K : PySem.W.Frag} (h : X.K = K) : CallR X (.builtin "len") (fun xs H Q => ∃ p ys, xs = [.ref p] ∧ (SqL K H p ys ∨ SqT K H p ys) ∧ Q (.int ys.length) H) := h ▸ call_len_seq
theorem ixL_K {X : Cx} {K : PySem.W.Frag} (h : X.K = K) : IxR X (rIxL K) := h ▸ ix_list
theorem ixT_K {X : Cx} {K : PySem.W.Frag} (h : X.K = K) : IxR X (rIxT K) := h ▸ ix_tup
theorem yesT {σ : St} {H : Hp} {A B : Hp → Prop} (h : A H) : tYes σ H fun b H3 => if b = true then A H3 else B H3 := by
  show if true = true then A H else B H
  rw [if_pos rfl]
  exact h
/-! ### keys in order -/
def zi (l : List Nat) : List Int := l.map fun (i : Nat) => (i : Int)
theorem iv_zi (l : List Nat) : iv l = (zi l).map V.int := by
  unfold iv zi
  rw [List.map_map]
  rfl
theorem zi_inj : ∀ {l m : List Nat}, zi l = zi m → l = m
  | [], [], _ => rfl
  | [], _ :: _, h => by cases h
  | _ :: _, [], h => by cases h
  | a :: l, b :: m, h => by
    have h1 : (a : Int) = (b : Int) := (List.cons.inj h).1
    have h2 := (List.cons.inj h).2
    rw [zi_inj (l := l) (m := m) h2]
    have : a = b := by omega
    rw [this]
theorem row_lx : ∀ l m : List Nat, PySem.W.rowLt ((zi l).map .int) ((zi m).map .int) = lx l m := fun l m => by
  rw [PySem.W.dataLt_ints]
  have : ∀ l m : List Nat, (zi l < zi m) ↔ lx l m = true := by
    intro l
    induction l with
    | nil =>
      intro m
      cases m with
      | nil => exact ⟨fun h => absurd h (List.lt_irrefl _), fun h => by cases h⟩
      | cons b m => exact ⟨fun _ => rfl, fun _ => List.nil_lt_cons _ _⟩
    | cons a l ih =>
      intro m
      cases m with
      | nil => exact ⟨fun h => absurd h (List.not_lt_nil _), fun h => by cases h⟩
      | cons b m =>
        show ((a : Int) :: zi l < (b : Int) :: zi m) ↔ (if a = b then lx l m else decide (a < b)) = true
        rw [List.cons_lt_cons_iff, ih m]
        by_cases e : a = b
        · subst e
          rw [if_pos rfl]
          exact ⟨fun h => by rcases h with h | h; exact absurd h (Int.lt_irrefl _); exact h.2, fun h => .inr ⟨rfl, h⟩⟩
        · rw [if_neg e, decide_eq_true_iff]
          exact ⟨fun h => by rcases h with h | h; omega; omega, fun h => .inl (by omega)⟩
  cases h : lx l m with
  | true => exact decide_eq_true ((this l m).mpr h)
  | false => exact decide_eq_false fun z => by rw [(this l m).mp z] at h; cases h
def dLot (l : List Nat) : PyData := dI (zi l)
theorem lt_lot (l m : List Nat) : PySem.W.dataLt (dLot l) (dLot m) = lx l m := by
  show PySem.W.dataLt (.tuple _) (.tuple _) = _
  rw [PySem.W.dataLt_tuple]
  exact row_lx l m
def dKey (g : Int) (c : Nat) : PyData := .tuple [.int (g * ((lot c).length : Int)), dLot (lot c)]
theorem eqv_lot : ∀ {l m : List Nat}, PyData.eqv (dLot l) (dLot m) = true → l = m := fun {l m} h => by
  have h : PyData.eqv (.tuple ((zi l).map .int)) (.tuple ((zi m).map .int)) = true := h
  rw [PyData.eqv] at h
  have : ∀ l m : List Int, PyData.eqvAll (l.map .int) (m.map .int) = true → l = m := by
    intro l
    induction l with
    | nil => intro m h; cases m with
      | nil => rfl
      | cons b m => simp [PyData.eqvAll] at h
    | cons a l ih => intro m h; cases m with
      | nil => simp [PyData.eqvAll] at h
      | cons b m =>
        rw [List.map_cons, List.map_cons, PyData.eqvAll, Bool.and_eq_true] at h
        have h1 : a = b := by simpa [PyData.eqv] using h.1
        rw [h1, ih m h.2]
  exact zi_inj (this _ _ h)
theorem lt_key (g : Int) (a b : Nat) : PySem.W.dataLt (dKey g a) (dKey g b) = ahead g (lot a) (lot b) := by
  unfold dKey
  rw [PySem.W.dataLt_pair (x := .int _) (x' := .int _) rfl (show PySem.W.alike (dLot (lot a)) (dLot (lot b)) = true from alike_dI _ _), PySem.W.dataLt_int, lt_lot]
  unfold ahead
  have e1 : PyData.eqv (.int (g * ((lot a).length : Int))) (.int (g * ((lot b).length : Int))) = decide (g * ((lot a).length : Int) = g * (lot b).length) := by
    rw [PyData.eqv]
    exact Bool.beq_eq_decide_eq _ _
  rw [e1]
  by_cases h : g * ((lot a).length : Int) = g * (lot b).length
  · rw [decide_eq_true h, if_pos rfl, decide_eq_false (show ¬ g * ((lot a).length : Int) < g * (lot b).length by omega), Bool.false_or, Bool.true_and]
    by_cases z : PyData.eqv (dLot (lot a)) (dLot (lot b)) = true
    · rw [if_pos z, eqv_lot z, lx_irr]
    · rw [if_neg z]
  · rw [decide_eq_false h, if_neg Bool.false_ne_true, Bool.false_and, Bool.or_false]
theorem key_inj {g : Int} {a b : Nat} (h : dKey g a = dKey g b) : a = b := by
  unfold dKey at h
  injection h with h
  injection h with _ h
  injection h with h _
  have h : PyData.tuple ((zi (lot a)).map .int) = PyData.tuple ((zi (lot b)).map .int) := h
  injection h with h
  have : ∀ l m : List Int, l.map PyData.int = m.map PyData.int → l = m := by
    intro l
    induction l with
    | nil => intro m h; cases m with
      | nil => rfl
      | cons b m => simp at h
    | cons a l ih => intro m h; cases m with
      | nil => simp at h
      | cons b m =>
        rw [List.map_cons, List.map_cons] at h
        injection h with h1 h2
        injection h1 with h1
        rw [h1, ih m h2]
  exact lot_inj (zi_inj (this _ _ h))
theorem min_key (g : Int) : ∀ (cs : List Nat) (c : Nat), PySem.W.minD (dKey g c) (cs.map (dKey g)) = dKey g (bestOf g c cs)
  | [], _ => rfl
  | y :: cs, c => by
    have ih := min_key g cs (if ahead g (lot y) (lot c) = true then y else c)
    unfold PySem.W.minD bestOf at *
    rw [List.map_cons, List.foldl_cons, List.foldl_cons, lt_key, ← ih]
    by_cases z : ahead g (lot y) (lot c) = true
    · rw [if_pos z, if_pos z]
    · rw [if_neg z, if_neg z]
theorem dep_lot (l : List Nat) : (dLot l).depth = 1 := by
  show (PyData.tuple ((zi l).map .int)).depth = 1
  rw [PyData.depth, PySem.W.depth_ints]
theorem dep_key (g : Int) (c : Nat) : (dKey g c).depth = 2 := by
  unfold dKey
  rw [PyData.depth, PyData.depthAll, PyData.depthAll, PyData.depthAll, dep_lot, PyData.depth]
  rfl
theorem dep_keys (g : Int) : ∀ cs : List Nat, PyData.depthAll (cs.map (dKey g)) ≤ 2
  | [] => by rw [List.map_nil, PyData.depthAll]; exact Nat.zero_le _
  | c :: cs => by
    rw [List.map_cons, PyData.depthAll, dep_key]
    exact Nat.max_le.mpr ⟨Nat.le_refl _, dep_keys g cs⟩
theorem alike_keys (g : Int) (cs : List Nat) : PySem.W.AlikeAll (cs.map (dKey g)) := by
  refine ⟨fun x hx y hy => ?_, fun x hx => ?_⟩
  · obtain ⟨a, _, rfl⟩ := List.mem_map.mp hx
    obtain ⟨b, _, rfl⟩ := List.mem_map.mp hy
    unfold dKey
    rw [PySem.W.alike, PySem.W.alikeAll, PySem.W.alikeAll, PySem.W.alikeAll, PySem.W.alike]
    have : PySem.W.alike (dLot (lot a)) (dLot (lot b)) = true := alike_dI _ _
    rw [this]
    rfl
  · obtain ⟨a, _, rfl⟩ := List.mem_map.mp hx
    unfold dKey
    exact fun z => by cases z
theorem dp_keys {K : PySem.W.Frag} {H : Hp} (g : Int) : ∀ qs : List (Addr × Addr × Nat), (∀ q ∈ qs, H q.1 = some (.tup [.int (g * ((lot q.2.2).length : Int)), .ref q.2.1]) ∧ H q.2.1 = some (.tup (iv (lot q.2.2)))) →
    DpAll K H (qs.map fun q => V.ref q.1) ((qs.map fun q => q.2.2).map (dKey g))
  | [], _ => .nil
  | q :: qs, h => by
    obtain ⟨h1, h2⟩ := h q List.mem_cons_self
    refine .cons (.tup (SqT.of h1) (.cons (.int _) (.cons (dp_tup (SqT.of ?_)) .nil))) (dp_keys g qs fun r hr => h r (List.mem_cons_of_mem _ hr))
    rw [← iv_zi]
    exact h2
section
variable {P : Program} {w : World} {K : PySem.W.Frag} {mg : Str → Option Value} {base : Heap}
def spBest (C : Addr) : Sp := fun vs H Q _ => ∃ (p : Addr) (g : Int) (n : Nat) (N : List Nat), vs = [.ref p, .int g] ∧ (g = 1 ∨ g = -1) ∧ NearAt C H p n N ∧ Good n N ∧ n ≤ 24 ∧
  ∀ (m : Nat) (a : Addr) H', Same H H' → H a = none → H' a = some (.tup (iv (lot m))) → Best (nr N) (2 ^ n - 1) g m → Q (.ref a) H'
theorem ok_best_by_pieces (T : Txt K mg) : FnOk P w K mg base CX0 7 T.best_by_pieces.f T.best_by_pieces.fd ["web", "sign"] (spBest T.CWeb) := by
  refine T.best_by_pieces.F.ok sc_best_by_pieces (fun vs H Q E h => ?_) (fun cdv A outer s H vs Q E hr h => ?_)
  · obtain ⟨p, g, n, N, rfl, _⟩ := h
    rfl
  · obtain ⟨p, g, n, N, rfl, hg, hN, G, h24, q⟩ := h
    have nd := sc_best_by_pieces.nd
    have wl : 2 ^ n - 1 < 2 ^ n := Nat.sub_lt (Nat.two_pow_pos n) (by decide)
    refine ⟨_, (pss_cons (ps_set (i := 2) nd rfl (Or.inl rfl) pe_int)
      (pss_cons (ps_for PassesOwn.never rfl (pi_list (pe_call (ok_pieces_within T) (hr.mono (by decide)) (by rfl) T.pieces_within.g T.pieces_within.F.kp T.pieces_within.b .nil pass0 (pa_cons (pv 0) (pa_cons (pe_fld (pv 0) rfl) pa_nil)))) (pg_name (i := 3) nd rfl (Or.inl rfl))
        (pss_cons (ps_setLc (i := 4) (own := [("bits", 5)]) rfl nd rfl rfl (sw_true rfl rfl rfl (by decide +kernel)) (pi_list (pe_call (ok_rests_within T) (hr.mono (by decide)) (by rfl) T.rests_within.g T.rests_within.F.kp T.rests_within.b .nil pass0 (pa_cons (pv 0) (pa_cons (pv 3) (pa_cons pe_int pa_nil))))) (blkOk_by (N := n_best_by_pieces) (sc := defScope s_best_by_pieces) (by decide +kernel)) (fun _ _ _ _ _ => (pg_name (i := 5) nd rfl (Or.inl rfl))) (fun _ _ _ _ _ => pts_nil) (fun _ _ _ _ _ => (pe_call (ok_lot_of T) (hr.mono (by decide)) (by rfl) T.lot_of.g T.lot_of.F.kp T.lot_of.b .nil pass0 (pa_cons (pv 5) pa_nil))))
          (pss_one (ps_set (i := 2) nd rfl (Or.inl rfl) (pe_op op_orN (pv 2) (pe_call (ok_bits_of T) (hr.mono (by decide)) (by rfl) T.bits_of.g T.bits_of.F.kp T.bits_of.b .nil pass0 (pa_cons (pe_ix (ixT_K (K := K) rfl) (pe_callB (cr_minD rfl hr.units) (by rfl) T.b_min (by decide +kernel) (pa_cons (pe_lc (own := [("lot", 6)]) rfl nd (pi_list (pv 4)) (blkOk_by (N := n_best_by_pieces) (sc := defScope s_best_by_pieces) (by decide +kernel)) (fun _ _ _ _ _ => (pg_name (i := 6) nd rfl (Or.inl rfl))) (fun _ _ _ _ _ => pts_nil) (fun _ _ _ _ _ => (pe_tup (pa_cons (pe_op op_mul (pv 1) (pe_callB (len_K (K := K) rfl) (by rfl) T.b_len PySem.boot_len (pa_cons (pv 6) pa_nil))) (pa_cons (pv 6) pa_nil))))) pa_nil)) pe_int (fun _ _ => rfl)) pa_nil)))))))
      (pss_one (ps_ret (pe_call (ok_lot_of T) (hr.mono (by decide)) (by rfl) T.lot_of.g T.lot_of.F.kp T.lot_of.b .nil pass0 (pa_cons (pv 2) pa_nil)))))), ?_⟩
    obtain ⟨dx, tp, np, hp, hn⟩ := id hN
    refine ⟨_, rfl, _, rfl, p, T.CWeb, dx, _, _, rfl, hp, T.cWeb, T.na_Web_whole, wf_whole _ _ _, p, n, 2 ^ n - 1, N, rfl, hN, G, h24, wl, fun ps a H1 k1 na ha PP => ?_⟩
    refine ⟨a, rfl, ⟨_, SqL.of ha⟩, for_it (walk_list (xs := iv ps)) (fun i σ H2 => ∃ (m dn r : Nat) (x y z u : Option V), σ = [some (.ref p), some (.int g), some (.int (m : Int)), x, y, z, u] ∧ Same H1 H2 ∧ Done (nr N) (2 ^ n - 1) dn r ∧ Best (nr N) dn g m ∧ Parts (nr N) r (ps.drop i))
      ⟨0, 0, 2 ^ n - 1, none, none, none, none, rfl, Same.refl _, Done.start _ _, best_empty _ _, PP⟩ (fun i σ H2 _ ⟨_, _, _, _, _, _, _, _, k, _⟩ => k.seq (SqL.of ha)) ?_ ?_⟩
    · rintro i zz σ H2 H3 hi ⟨m, dn, r, x, y, z, u, rfl, k2, D, B, PP2⟩ ⟨rfl, hx⟩
      obtain ⟨pc1, hg1, rfl⟩ := iv_get hx
      obtain ⟨il, eg⟩ := List.getElem?_eq_some_iff.mp hg1
      have ed : ps.drop i = pc1 :: ps.drop (i + 1) := by rw [List.drop_eq_getElem_cons il, eg]
      rw [ed] at PP2
      obtain ⟨g0, gs, gc, PP3⟩ := parts_step PP2
      have k12 := k1.trans k2
      have rsub : ∀ j, r.testBit j = true → (2 ^ n - 1).testBit j = true := fun j h => by rw [← D.or, Nat.testBit_or, h, Bool.or_true]
      have pl : pc1 < 2 ^ n := lt_of_sub wl fun j h => rsub j (gs j h)
      -- lots
      refine ⟨_, rfl, _, rfl, p, n, pc1, N, rfl, same_near k12 hN, G, h24, pl, fun L la H4 k4 nla hla LL => ?_⟩
      have few := LL.few
      refine ⟨la, rfl, ⟨_, SqL.of hla⟩, fun D1 nD1 => lc_it (walk_list (xs := iv L)) (fun j H5 => ∃ ks : List (Addr × Nat), Same H4 H5 ∧ H5 D1 = some (.lst (ks.map fun k => V.ref k.1)) ∧ (∀ k ∈ ks, H5 k.1 = some (.tup (iv (lot k.2)))) ∧ ks.map Prod.snd = L.take j)
        ⟨[], same_new nD1, upd_same, fun k hk => (by cases hk), rfl⟩ (fun j H5 _ ⟨_, k, _⟩ => k.seq (SqL.of hla)) ?_ ?_⟩
      · rintro j z1 H5 H6 hj ⟨ks, k5, h5, h5k, ek⟩ ⟨rfl, hz⟩
        obtain ⟨c, hc, rfl⟩ := iv_get hz
        have cl : c < 2 ^ n := lt_of_sub pl ((LL.mem c).mp (List.mem_of_getElem? hc)).sub
        refine ⟨rfl, yesT ?_⟩
        refine ⟨_, rfl, c, rfl, lt24 cl h24, fun t H7 k7 nt ht => ?_⟩
        have tD : t ≠ D1 := fun e => by rw [e, h5] at nt; cases nt
        have kl : ks.length ≤ 16834 := by
          have := congrArg List.length ek
          rw [List.length_map, List.length_take] at this
          omega
        refine ⟨_, k7 _ _ h5, by rw [List.length_map]; exact lt_line (by omega), ks ++ [(t, c)], same_put (k5.trans k7) nD1, ?_, fun k hk => ?_, ?_⟩
        · rw [upd_same, List.map_append]
          rfl
        · rcases List.mem_append.mp hk with hk | hk
          · have h8 := k7 _ _ (h5k k hk)
            have h9 := k7 _ _ h5
            rw [upd_ne (fun e => by rw [e, h9] at h8; cases h8)]
            exact h8
          · rw [List.mem_singleton.mp hk, upd_ne tD]
            exact ht
        · rw [List.map_append, ek, List.take_add_one, hc]
          rfl
      · rintro H5 ⟨ks, k5, h5, h5k, ek⟩
        rw [iv_length, List.take_length] at ek
        -- min of the keys
        refine ⟨_, rfl, _, rfl, D1, rfl, ⟨_, SqL.of h5⟩, fun D2 nD2 => lc_it (walk_list (xs := ks.map fun k => V.ref k.1)) (fun j H6 => ∃ qs : List (Addr × Addr × Nat), Same H5 H6 ∧ H6 D2 = some (.lst (qs.map fun k => V.ref k.1)) ∧ (∀ k ∈ qs, H6 k.1 = some (.tup [.int (g * ((lot k.2.2).length : Int)), .ref k.2.1])) ∧ qs.map Prod.snd = ks.take j)
          ⟨[], same_new nD2, upd_same, fun k hk => (by cases hk), rfl⟩ (fun j H6 _ ⟨_, k, _⟩ => k.seq (SqL.of h5)) ?_ ?_⟩
        · rintro j z1 H6 H7 hj ⟨qs, k6, h6, h6k, eq⟩ ⟨rfl, hz⟩
          rw [List.getElem?_map] at hz
          cases ekj : ks[j]? with
          | none => rw [ekj] at hz; cases hz
          | some kj =>
            rw [ekj] at hz
            obtain ⟨ta, c⟩ := kj
            obtain rfl : z1 = V.ref ta := (Option.some.inj hz).symm
            have hta := h5k _ (List.mem_of_getElem? ekj)
            have ql : qs.length ≤ 16834 := by
              have e1 := congrArg List.length eq
              have e2 := congrArg List.length ek
              rw [List.length_map] at e2
              rw [List.length_map, List.length_take] at e1
              omega
            refine ⟨rfl, yesT ?_⟩
            refine ⟨_, rfl, _, rfl, ta, _, rfl, .inr (SqT.of (k6 _ _ hta)), _, _, rfl, rfl, .inl ⟨by omega, by omega⟩, _, rfl, l2, fun t nt => ?_⟩
            have tD : t ≠ D2 := fun e => by rw [e, h6] at nt; cases nt
            refine ⟨_, by rw [upd_ne tD.symm]; exact h6, by rw [List.length_map]; exact lt_line (by omega), qs ++ [(t, ta, c)], same_put (k6.trans (same_new nt)) nD2, ?_, fun k hk => ?_, ?_⟩
            · rw [upd_same, List.map_append]
              rfl
            · rcases List.mem_append.mp hk with hk | hk
              · have h8 := h6k k hk
                rw [upd_ne (fun e => by rw [e, h6] at h8; cases h8), upd_ne (ne_of_none h8 nt)]
                exact h8
              · rw [List.mem_singleton.mp hk, upd_ne tD, upd_same]
                show some (HO.tup [V.int (g * ((iv (lot c)).length : Int)), _]) = _
                rw [iv_length]
            · rw [List.map_append, eq, List.take_add_one, ekj]
              rfl
        · rintro H6 ⟨qs, k6, h6, h6k, eq⟩
          rw [List.length_map, List.take_length] at eq
          obtain ⟨c0, cs, eL⟩ := lists_ne G.gr LL
          have e22 : qs.map (fun k => k.2.2) = c0 :: cs := by
            rw [← eL, ← ek, ← eq, List.map_map]
            rfl
          have lotAt : ∀ k ∈ qs, H6 k.2.1 = some (.tup (iv (lot k.2.2))) := fun k hk => by
            have : k.2 ∈ ks := by rw [← eq]; exact List.mem_map.mpr ⟨k, hk, rfl⟩
            exact k6 _ _ (h5k _ this)
          have dp := dp_keys (K := K) (H := H6) g qs fun k hk => ⟨h6k k hk, lotAt k hk⟩
          rw [e22] at dp
          refine ⟨D2, _, dKey g c0, cs.map (dKey g), rfl, SqL.of h6, dp, alike_keys g (c0 :: cs), Nat.le_trans (dep_keys g (c0 :: cs)) (by decide), fun j v hv hm => ?_⟩
          rw [min_key] at hm
          rw [List.getElem?_map] at hv
          cases eqj : qs[j]? with
          | none => rw [eqj] at hv; cases hv
          | some qj =>
            rw [eqj] at hv
            obtain ⟨qa, ta, c⟩ := qj
            obtain rfl : v = V.ref qa := (Option.some.inj hv).symm
            have mem := List.mem_of_getElem? eqj
            have ec : c = bestOf g c0 cs := by
              have h1 : (qs.map (fun k => k.2.2))[j]? = some c := by rw [List.getElem?_map, eqj]; rfl
              rw [e22] at h1
              have h2 : ((c0 :: cs).map (dKey g))[j]? = some (dKey g c) := by rw [List.getElem?_map, h1]; rfl
              have h3 : some (dKey g c) = some (dKey g (bestOf g c0 cs)) := h2.symm.trans hm
              exact key_inj (Option.some.inj h3)
            subst ec
            have hq := h6k _ mem
            have ht := lotAt _ mem
            rw [eL] at LL
            have BB := bestOf_best (g := g) LL
            refine ⟨qa, _, 1, V.ref ta, rfl, rfl, SqT.of hq, atI_nat (j := 1) rfl, ta, lot (bestOf g c0 cs), rfl, SqT.of ht, fun j hj => ?_, m, mk (lot (bestOf g c0 cs)), rfl, rfl, ?_⟩
            · have := lot_lt (lt_of_sub pl BB.sol.sub) hj
              omega
            · rw [mk_lot]
              obtain ⟨D', B'⟩ := D.best G.gr hg gs gc B BB
              exact ⟨m ||| bestOf g c0 cs, _, _, _, _, _, _, rfl, ((k2.trans k4).trans k5).trans k6, D', B', PP3⟩
    · rintro σ H2 ⟨m, dn, r, x, y, z, u, rfl, k2, D, B, PP2⟩
      rw [iv_length, List.drop_length] at PP2
      have r0 := parts_nil PP2
      have e := D.or
      rw [r0, Nat.or_zero] at e
      rw [e] at B
      refine ⟨_, rfl, m, rfl, lt24 (lt_of_sub wl B.sol.sub) h24, fun t H3 k3 nt ht => ?_⟩
      have k12 := k1.trans k2
      exact q m t H3 (k12.trans k3) (k12.free nt) ht B
def spSmallest (C : Addr) (g : Int) : Sp := fun vs H Q _ => ∃ (p : Addr) (n : Nat) (N : List Nat), vs = [.ref p] ∧ NearAt C H p n N ∧ Good n N ∧ n ≤ 24 ∧
  ∀ (m : Nat) (a : Addr) H', Same H H' → H a = none → H' a = some (.tup (iv (lot m))) → Best (nr N) (2 ^ n - 1) g m → Q (.ref a) H'
theorem ok_smallest_rest (T : Txt K mg) : FnOk P w K mg base CX0 8 T.smallest_rest.f T.smallest_rest.fd ["web"] (spSmallest T.CWeb 1) := by
  refine T.smallest_rest.F.ok sc_smallest_rest (fun vs H Q E h => ?_) (fun cdv A outer s H vs Q E hr h => ?_)
  · obtain ⟨p, n, N, rfl, _⟩ := h
    rfl
  · obtain ⟨p, n, N, rfl, hN, G, h24, q⟩ := h
    refine ⟨_, (pss_one (ps_ret (pe_call (ok_best_by_pieces T) (hr.mono (by decide)) (by rfl) T.best_by_pieces.g T.best_by_pieces.F.kp T.best_by_pieces.b .nil pass0 (pa_cons (pv 0) (pa_cons pe_int pa_nil))))), ?_⟩
    exact ⟨_, rfl, p, 1, n, N, rfl, .inl rfl, hN, G, h24, q⟩
theorem ok_greatest_rest (T : Txt K mg) : FnOk P w K mg base CX0 8 T.greatest_rest.f T.greatest_rest.fd ["web"] (spSmallest T.CWeb (-1)) := by
  refine T.greatest_rest.F.ok sc_greatest_rest (fun vs H Q E h => ?_) (fun cdv A outer s H vs Q E hr h => ?_)
  · obtain ⟨p, n, N, rfl, _⟩ := h
    rfl
  · obtain ⟨p, n, N, rfl, hN, G, h24, q⟩ := h
    refine ⟨_, (pss_one (ps_ret (pe_call (ok_best_by_pieces T) (hr.mono (by decide)) (by rfl) T.best_by_pieces.g T.best_by_pieces.F.kp T.best_by_pieces.b .nil pass0 (pa_cons (pv 0) (pa_cons (pe_un un_neg pe_int) pa_nil))))), ?_⟩
    exact ⟨_, rfl, _, rfl, p, -1, n, N, rfl, .inr rfl, hN, G, h24, q⟩
end
end Sil
end

section
set_option Elab.async false
set_option maxRecDepth 100000
set_option maxHeartbeats 4000000
set_option linter.all false
namespace Sil
open PySem L2 Mi
theorem tup_K {X : Cx} {K : PySem.W.Frag} {es : List Expr} {k n : Nat} {t : TGs} {pos : Pos} (hK : X.K = K) (hc : X.calm = true) (h : PGs X es t)
    (hn : (assignEach es X.env).length = n := by rfl) (hst : (assignEach es X.env).findIdx? (·.1) = none := by rfl) : PG X (.Tuple es k pos) (gTup K n t) := hK ▸ pg_tup hc h hn hst
/-! ### ties as addresses with their pairs -/
abbrev TA2 := Addr × (Nat × Nat)
def rf (ks : List TA2) : List V := ks.map fun k => V.ref k.1
def At2 (K : PySem.W.Frag) (H : Hp) (ks : List TA2) : Prop := ∀ k ∈ ks, SqT K H k.1 (pr k.2)
theorem At2.same {K : PySem.W.Frag} {H H' : Hp} {ks : List TA2} (k : Same H H') (h : At2 K H ks) : At2 K H' ks := fun x hx => k.tup (h x hx)
theorem rf_get {ks : List TA2} {j : Nat} {x : V} (h : (rf ks)[j]? = some x) : ∃ k, ks[j]? = some k ∧ x = .ref k.1 := by
  unfold rf at h
  rw [List.getElem?_map] at h
  cases e : ks[j]? with
  | none => rw [e] at h; cases h
  | some k => rw [e] at h; exact ⟨k, rfl, (Option.some.inj h).symm⟩
theorem rf_len (ks : List TA2) : (rf ks).length = ks.length := List.length_map _
theorem ties_of {K : PySem.W.Frag} {H : Hp} {tp : Addr} {ks : List TA2} (h1 : SqT K H tp (rf ks)) (h2 : At2 K H ks) : TiesAt K H tp (ks.map Prod.snd) := by
  refine ⟨ks.map Prod.fst, by rw [List.map_map]; exact h1, by rw [List.length_map, List.length_map], fun i a t e1 e2 => ?_⟩
  rw [List.getElem?_map] at e1 e2
  cases e : ks[i]? with
  | none => rw [e] at e1; cases e1
  | some k =>
    rw [e] at e1 e2
    rw [← Option.some.inj e1, ← Option.some.inj e2]
    exact h2 k (List.mem_of_getElem? e)
theorem of_ties {K : PySem.W.Frag} {H : Hp} {tp : Addr} {ts : List (Nat × Nat)} (h : TiesAt K H tp ts) : ∃ ks : List TA2, SqT K H tp (rf ks) ∧ At2 K H ks ∧ ks.map Prod.snd = ts := by
  obtain ⟨as, h1, h2, h3⟩ := h
  refine ⟨as.zip ts, ?_, fun k hk => ?_, ?_⟩
  · have : rf (as.zip ts) = as.map V.ref := by
      show (as.zip ts).map (V.ref ∘ Prod.fst) = _
      rw [← List.map_map, List.map_fst_zip (Nat.le_of_eq h2)]
    rw [this]
    exact h1
  · obtain ⟨i, hi⟩ := List.getElem?_of_mem hk
    have := List.getElem?_zip_eq_some.mp hi
    exact h3 i _ _ this.1 this.2
  · exact List.map_snd_zip (Nat.le_of_eq h2.symm)
theorem lift_map {α β : Type} {f : α → β} {qs : List α} : ∀ {L : List β}, (∀ p ∈ L, ∃ k ∈ qs, f k = p) → ∃ M : List α, L = M.map f ∧ ∀ k ∈ M, k ∈ qs
  | [], _ => ⟨[], rfl, fun k hk => (by cases hk)⟩
  | p :: L, h => by
    obtain ⟨k, hk, rfl⟩ := h p List.mem_cons_self
    obtain ⟨M, rfl, hM⟩ := lift_map (L := L) fun q hq => h q (List.mem_cons_of_mem _ hq)
    refine ⟨k :: M, rfl, fun x hx => ?_⟩
    rcases List.mem_cons.mp hx with rfl | hx
    · exact hk
    · exact hM x hx
def ip (k : TA2) : Addr × List Int := (k.1, [(k.2.1 : Int), (k.2.2 : Int)])
theorem ip_inj {j k : TA2} (h : (ip j).2 = (ip k).2) : j.2 = k.2 := by
  obtain ⟨a, b, c⟩ := j
  obtain ⟨a', b', c'⟩ := k
  have h : [(b : Int), (c : Int)] = [(b' : Int), (c' : Int)] := h
  injection h with h1 h2
  injection h2 with h2 _
  have e1 : b = b' := by omega
  have e2 : c = c' := by omega
  rw [e1, e2]
section
variable {P : Program} {w : World} {K : PySem.W.Frag} {mg : Str → Option Value} {base : Heap}
def spWebOf (K : PySem.W.Frag) (C : Addr) : Sp := fun vs H Q _ => ∃ (a : Addr) (n : Nat) (ks : List TA2), vs = [.int (n : Int), .ref a] ∧ SqL K H a (rf ks) ∧ At2 K H ks ∧ n ≤ 24 ∧ TiesIn n (ks.map Prod.snd) ∧ ks.length < 64 ∧
  ∀ (p : Addr) (ts : List (Nat × Nat)) H', Same H H' → H p = none → WebAt K C H' p n ts → (∀ t, t ∈ ts ↔ t ∈ ks.map Prod.snd) → Q (.ref p) H'
theorem ok_web_of (T : Txt K mg) : FnOk P w K mg base CX0 6 T.web_of.f T.web_of.fd ["size", "pairs"] (spWebOf K T.CWeb) := by
  refine T.web_of.F.ok sc_web_of (fun vs H Q E h => ?_) (fun cdv A outer s H vs Q E hr h => ?_)
  · obtain ⟨a, n, ks, rfl, _⟩ := h
    rfl
  · obtain ⟨a, n, ks, rfl, ha, hk, h24, hT, few, q⟩ := h
    have nd := sc_web_of.nd
    refine ⟨_, (pss_cons (ps_set (i := 2) nd rfl (Or.inl rfl) (pe_make T.Web_init.m (ok_Web_init T) (hr.mono (by decide)) (by rfl) T.gWeb T.Web_init.b .nil pass0 (pa_cons pe_int (pa_cons (pe_tup pa_nil) pa_nil))))
      (pss_cons (ps_setLc (i := 3) (own := [("one", 4), ("other", 5)]) rfl nd rfl rfl (sw_true rfl rfl rfl (by decide +kernel)) (pi_list (pv 1)) (blkOk_by (N := n_web_of) (sc := defScope s_web_of) (by decide +kernel)) (fun _ _ _ _ _ => (tup_K (K := K) (n := 2) rfl (by rfl) (pgs_cons (pg_name (i := 4) nd rfl (Or.inl rfl)) (pgs_cons (pg_name (i := 5) nd rfl (Or.inl rfl)) pgs_nil)))) (fun _ _ _ _ _ => pts_nil) (fun _ _ _ _ _ => (pe_tup (pa_cons (pe_callB (call_min2 rfl) (by rfl) T.b_min (by decide +kernel) (pa_cons (pv 4) (pa_cons (pv 5) pa_nil))) (pa_cons (pe_callB (call_max2 rfl) (by rfl) T.b_max (by decide +kernel) (pa_cons (pv 4) (pa_cons (pv 5) pa_nil))) pa_nil)))))
      (pss_cons (ps_expr (pe_meth (pv 2) T.cWeb T.Web_begin.g (ok_Web_begin T) (hr.mono (by decide)) T.Web_begin.b .nil pass0 (pa_cons (pv 0) (pa_cons (pe_callTy call_tuple_of (by rfl) T.b_tuple (by decide +kernel) (pa_cons (pe_callB (cr_sortedT (by rfl)) (by rfl) T.b_sorted (by decide +kernel) (pa_cons (pe_callTy (cr_setOfT (by rfl) (by exact hr.units)) (by rfl) T.b_set (by decide +kernel) (pa_cons (pv 3) pa_nil)) pa_nil)) pa_nil)) pa_nil))))
      (pss_one (ps_ret (pv 2)))))), ?_⟩
    refine ⟨by decide, fun e ne => ?_⟩
    have s1 : Same H (upd H e (.tup [])) := same_new ne
    refine fun x dx nx ndx nxd => ?_
    have s2 : Same H (upd (upd (upd H e (.tup [])) dx (.own x)) x (.ins T.CWeb dx [])) := fun b o h => by
      have := s1 b o h
      rw [upd_ne (ne_of_none this nx), upd_ne (ne_of_none this ndx)]
      exact this
    have x0 : H x = none := by
      by_cases z : x = e
      · rw [z]; exact ne
      · rw [upd_ne z] at nx; exact nx
    have ex : e ≠ x := fun z => by rw [← z, upd_same] at nx; cases nx
    have ed : e ≠ dx := fun z => by rw [← z, upd_same] at ndx; cases ndx
    refine ⟨x, dx, e, 1, [], rfl, upd_same, by decide, by decide, fun t ht => (by cases ht), .nil, ⟨[], SqT.of (by rw [upd_ne ex, upd_ne ed, upd_same]; rfl), rfl, fun i a t h => (by cases h)⟩, fun H1 np nnp hp1 hn1 k1 => ⟨rfl, ?_⟩⟩
    have s3 : Same H H1 := fun b o h => k1 b o (s2 b o h) (ne_of_none h x0)
    refine ⟨_, rfl, a, rfl, ⟨_, s3.seq ha⟩, fun D nD => lc_it (walk_list (xs := rf ks)) (fun j H2 => ∃ qs : List TA2, Same H1 H2 ∧ H2 D = some (.lst (rf qs)) ∧ At2 K H2 qs ∧ qs.map Prod.snd = (ks.map Prod.snd).take j)
      ⟨[], same_new nD, upd_same, fun k hk => (by cases hk), rfl⟩ (fun j H2 _ ⟨_, k, _⟩ => k.seq (s3.seq ha)) ?_ ?_⟩
    · rintro j z H2 H3 hj ⟨qs, k2, hD, h2, eq⟩ ⟨rfl, hz⟩
      obtain ⟨k, hkj, rfl⟩ := rf_get hz
      have hkm := List.mem_of_getElem? hkj
      have ht := (s3.trans k2).tup (hk k hkm)
      have lt := (hT k.2 (List.mem_map.mpr ⟨k, hkm, rfl⟩)).1
      have ql : qs.length ≤ 63 := by
        have := congrArg List.length eq
        rw [List.length_map, List.length_take, List.length_map] at this
        omega
      refine ⟨k.1, _, rfl, ht, rfl, _, _, rfl, _, _, rfl, rfl, ?_⟩
      refine ⟨rfl, yesT ?_⟩
      refine ⟨_, rfl, _, rfl, _, _, rfl, _, rfl, _, rfl, _, _, rfl, l2, fun t nt => ?_⟩
      have tD : t ≠ D := fun e => by rw [e, hD] at nt; cases nt
      rw [if_neg (show ¬ ((k.2.2 : Int) < (k.2.1 : Int)) by omega), if_pos (show ((k.2.2 : Int) > (k.2.1 : Int)) by omega)]
      refine ⟨_, by rw [upd_ne tD.symm]; exact hD, by rw [rf_len]; exact lt_line (by omega), qs ++ [(t, k.2)], same_put (k2.trans (same_new nt)) nD, ?_, fun y hy => ?_, ?_⟩
      · rw [upd_same]
        unfold rf
        rw [List.map_append]
        rfl
      · have sD : Same H3 (upd H3 t (.tup (pr k.2))) := same_new nt
        rcases List.mem_append.mp hy with hy | hy
        · have h8 := sD.tup (h2 y hy)
          exact (show Keep D _ _ from fun b o hb ne => by rw [upd_ne ne]; exact hb).tup (sD _ _ hD) (fun _ z => by cases z) (fun _ _ z => by cases z) h8
        · rw [List.mem_singleton.mp hy]
          exact SqT.of (by rw [upd_ne tD, upd_same])
      · rw [List.map_append, eq, List.take_add_one, List.getElem?_map, hkj]
        rfl
    · rintro H2 ⟨qs, k2, hD, h2, eq⟩
      rw [rf_len, ← List.length_map (f := Prod.snd), List.take_length] at eq
      have ql : qs.length = ks.length := by
        have := congrArg List.length eq
        rwa [List.length_map, List.length_map] at this
      refine ⟨_, rfl, x, dx, _, rfl, k2 _ _ hp1, wf_no _ _ _ (by decide +kernel) (by decide +kernel) (by decide +kernel) (by decide +kernel), ?_⟩
      refine ⟨_, rfl, _, rfl, D, qs.map ip, rfl, ?_, fun p hp => ?_, by rw [List.length_map]; omega, fun S L nS hsub hsup => ?_⟩
      · rw [List.map_map]
        exact SqL.of hD
      · obtain ⟨k, hk, rfl⟩ := List.mem_map.mp hp
        exact h2 k hk
      · have kS : Same H2 (upd H2 S (SetTO P w S L)) := same_new nS
        have hb : ∀ p ∈ L, p.2.length = 2 ∧ TS.Bd 64 p.2 := fun p hp => by
          obtain ⟨k, hk, rfl⟩ := List.mem_map.mp (hsub p hp)
          have hm : k.2 ∈ ks.map Prod.snd := by rw [← eq]; exact List.mem_map.mpr ⟨k, hk, rfl⟩
          obtain ⟨b1, b2⟩ := hT k.2 hm
          refine ⟨rfl, fun v hv => ?_⟩
          have hv : v ∈ [(k.2.1 : Int), (k.2.2 : Int)] := hv
          rcases List.mem_cons.mp hv with rfl | hv
          · omega
          · rw [List.mem_singleton.mp hv]; omega
        refine ⟨S, L, 2, 64, rfl, upd_same, fun p hp => ?_, by decide, hb, fun L' lp pm _ lt _ nlp => ?_⟩
        · obtain ⟨k, hk, rfl⟩ := List.mem_map.mp (hsub p hp)
          exact kS.tup (h2 k hk)
        · obtain ⟨M, rfl, hM⟩ := lift_map (f := ip) (qs := qs) (L := L') fun p hp => by
            obtain ⟨k, hk, e⟩ := List.mem_map.mp (hsub p (pm.mem_iff.mp hp))
            exact ⟨k, hk, e⟩
          have kl := same_new (o := HO.lst ((M.map ip).map fun q => V.ref q.1)) nlp
          have e1 : (M.map ip).map (fun q => V.ref q.1) = rf M := by
            rw [List.map_map]
            rfl
          rw [e1] at kl ⊢
          refine ⟨lp, _, rfl, .inl ⟨SqL.of upd_same, fun tp ntp => ?_⟩⟩
          have kt := same_new (o := HO.tup (rf M)) ntp
          have kk := (kS.trans kl).trans kt
          have mm : ∀ t, t ∈ M.map Prod.snd ↔ t ∈ ks.map Prod.snd := fun t => by
            rw [← eq]
            constructor
            · intro h
              obtain ⟨k, hk, rfl⟩ := List.mem_map.mp h
              exact List.mem_map.mpr ⟨k, hM k hk, rfl⟩
            · intro h
              obtain ⟨k, hk, rfl⟩ := List.mem_map.mp h
              have h3 := hsup (ip k) (List.mem_map.mpr ⟨k, hk, rfl⟩)
              obtain ⟨p, hp, ep⟩ := List.mem_map.mp h3
              obtain ⟨j, hj, rfl⟩ := List.mem_map.mp (pm.mem_iff.mpr hp)
              exact List.mem_map.mpr ⟨j, hj, ip_inj ep⟩
          refine ⟨x, dx, tp, _, n, M.map Prod.snd, rfl, kk _ _ (k2 _ _ hp1), .inr ⟨_, _, _, rfl⟩, h24, fun t ht => hT t ((mm t).mp ht), ties_of (SqT.of upd_same) (At2.same kk fun k hk => h2 k (hM k hk)), fun H4 np4 nnp4 hp4 hn4 k4 => ?_⟩
          have s4 : Same H H4 := fun b o h => k4 b o (kk _ _ (k2 _ _ (s3 b o h))) (ne_of_none h x0)
          refine ⟨_, rfl, q x _ H4 s4 x0 ⟨dx, tp, np4, hp4, hn4, ?_⟩ mm⟩
          exact k4.ties (kk _ _ (k2 _ _ hp1)) (fun _ z => by cases z) (fun _ _ z => by cases z) (ties_of (SqT.of upd_same) (At2.same kk fun k hk => h2 k (hM k hk)))
end
end Sil
end

section
set_option Elab.async false
set_option maxRecDepth 100000
set_option maxHeartbeats 4000000
set_option linter.all false
namespace Sil
open PySem L2 Mi
def shp (k : Nat) (t : Nat × Nat) : Nat × Nat := (t.1 + k, t.2 + k)
/-- a list of ties in the making -/
theorem put_tie {K : PySem.W.Frag} {H1 H3 : Hp} {D t : Addr} {qs : List TA2} {p : Nat × Nat} (k2 : Same H1 H3) (hD1 : H1 D = none) (hD : H3 D = some (.lst (rf qs))) (h2 : At2 K H3 qs) (nt : H3 t = none) :
    t ≠ D ∧ Same H1 (upd (upd H3 t (.tup (pr p))) D (.lst (rf qs ++ [.ref t]))) ∧ upd (upd H3 t (.tup (pr p))) D (.lst (rf qs ++ [.ref t])) D = some (.lst (rf (qs ++ [(t, p)]))) ∧ At2 K (upd (upd H3 t (.tup (pr p))) D (.lst (rf qs ++ [.ref t]))) (qs ++ [(t, p)]) := by
  have tD : t ≠ D := fun e => by rw [e, hD] at nt; cases nt
  refine ⟨tD, same_put (k2.trans (same_new nt)) hD1, ?_, fun y hy => ?_⟩
  · rw [upd_same]
    unfold rf
    rw [List.map_append]
    rfl
  · have sD : Same H3 (upd H3 t (.tup (pr p))) := same_new nt
    rcases List.mem_append.mp hy with hy | hy
    · have h8 := sD.tup (h2 y hy)
      exact (show Keep D _ _ from fun b o hb ne => by rw [upd_ne ne]; exact hb).tup (sD _ _ hD) (fun _ z => by cases z) (fun _ _ z => by cases z) h8
    · rw [List.mem_singleton.mp hy]
      exact SqT.of (by rw [upd_ne tD, upd_same])
section
variable {P : Program} {w : World} {K : PySem.W.Frag} {mg : Str → Option Value} {base : Heap}
def spMoved (K : PySem.W.Frag) : Sp := fun vs H Q _ => ∃ (a : Addr) (n : Nat) (ks : List TA2), vs = [.ref a, .int (n : Int)] ∧ SqT K H a (rf ks) ∧ At2 K H ks ∧ ks.length < 64 ∧
  ∀ (D : Addr) (qs : List TA2) H', Same H H' → H D = none → H' D = some (.lst (rf qs)) → At2 K H' qs → qs.map Prod.snd = (ks.map Prod.snd).map (shp n) → Q (.ref D) H'
theorem ok_moved_on (T : Txt K mg) : FnOk P w K mg base CX0 1 T.moved_on.f T.moved_on.fd ["ties", "many"] (spMoved K) := by
  refine T.moved_on.F.ok sc_moved_on (fun vs H Q E h => ?_) (fun cdv A outer s H vs Q E hr h => ?_)
  · obtain ⟨a, n, ks, rfl, _⟩ := h
    rfl
  · obtain ⟨a, n, ks, rfl, ha, hk, few, q⟩ := h
    have nd := sc_moved_on.nd
    refine ⟨_, (pss_one (ps_ret (pe_lc (own := [("one", 2), ("other", 3)]) rfl nd (pi_tup (pv 0)) (blkOk_by (N := n_moved_on) (sc := defScope s_moved_on) (by decide +kernel)) (fun _ _ _ _ _ => (tup_K (K := K) (n := 2) rfl (by rfl) (pgs_cons (pg_name (i := 2) nd rfl (Or.inl rfl)) (pgs_cons (pg_name (i := 3) nd rfl (Or.inl rfl)) pgs_nil)))) (fun _ _ _ _ _ => pts_nil) (fun _ _ _ _ _ => (pe_tup (pa_cons (pe_op op_add (pv 2) (pv 1)) (pa_cons (pe_op op_add (pv 3) (pv 1)) pa_nil))))))), ?_⟩
    refine ⟨_, rfl, a, rfl, ⟨_, ha⟩, fun D nD => lc_it (walk_tup (xs := rf ks)) (fun j H2 => ∃ qs : List TA2, Same H H2 ∧ H2 D = some (.lst (rf qs)) ∧ At2 K H2 qs ∧ qs.map Prod.snd = ((ks.map Prod.snd).take j).map (shp n))
      ⟨[], same_new nD, upd_same, fun k hk => (by cases hk), rfl⟩ (fun j H2 _ ⟨_, k, _⟩ => k.tup ha) ?_ ?_⟩
    · rintro j z H2 H3 hj ⟨qs, k2, hD, h2, eq⟩ ⟨rfl, hz⟩
      obtain ⟨k, hkj, rfl⟩ := rf_get hz
      have ht := k2.tup (hk k (List.mem_of_getElem? hkj))
      have ql : qs.length ≤ 63 := by
        have := congrArg List.length eq
        rw [List.length_map, List.length_map, List.length_take, List.length_map] at this
        omega
      refine ⟨k.1, _, rfl, ht, rfl, _, _, rfl, _, _, rfl, rfl, ?_⟩
      refine ⟨rfl, yesT ?_⟩
      refine ⟨_, rfl, _, rfl, _, _, rfl, rfl, _, rfl, _, rfl, _, _, rfl, rfl, l2, fun t nt => ?_⟩
      obtain ⟨tD, c1, c2, c3⟩ := put_tie (p := shp n k.2) k2 nD hD h2 nt
      refine ⟨_, by rw [upd_ne tD.symm]; exact hD, by rw [rf_len]; exact lt_line (by omega), qs ++ [(t, shp n k.2)], c1, c2, c3, ?_⟩
      rw [List.map_append, eq, List.take_add_one, List.getElem?_map, hkj, List.map_append]
      rfl
    · rintro H2 ⟨qs, k2, hD, h2, eq⟩
      rw [rf_len, ← List.length_map (f := Prod.snd) (as := ks), List.take_length] at eq
      exact q D qs H2 k2 nD hD h2 eq
def spBeside (K : PySem.W.Frag) (C : Addr) : Sp := fun vs H Q _ => ∃ (p1 p2 : Addr) (n m : Nat) (ts us : List (Nat × Nat)), vs = [.ref p1, .ref p2] ∧ WebAt K C H p1 n ts ∧ WebAt K C H p2 m us ∧ TiesIn n ts ∧ TiesIn m us ∧ n + m ≤ 24 ∧ ts.length + us.length < 64 ∧
  ∀ (p : Addr) (ws : List (Nat × Nat)) H', Same H H' → H p = none → WebAt K C H' p (n + m) ws → (∀ t, t ∈ ws ↔ t ∈ ts ∨ t ∈ us.map (shp n)) → Q (.ref p) H'
theorem ok_beside (T : Txt K mg) : FnOk P w K mg base CX0 7 T.beside.f T.beside.fd ["one", "other"] (spBeside K T.CWeb) := by
  refine T.beside.F.ok sc_beside (fun vs H Q E h => ?_) (fun cdv A outer s H vs Q E hr h => ?_)
  · obtain ⟨p1, p2, n, m, ts, us, rfl, _⟩ := h
    rfl
  · obtain ⟨p1, p2, n, m, ts, us, rfl, h1, h2, i1, i2, h24, few, q⟩ := h
    refine ⟨_, (pss_one (ps_ret (pe_call (ok_web_of T) (hr.mono (by decide)) (by rfl) T.web_of.g T.web_of.F.kp T.web_of.b .nil pass0 (pa_cons (pe_op op_add (pe_fld (pv 0) rfl) (pe_fld (pv 1) rfl)) (pa_cons (pe_op op_cat (pe_callTy call_list_of (by rfl) T.b_list (by decide +kernel) (pa_cons (pe_fld (pv 0) rfl) pa_nil)) (pe_call (ok_moved_on T) (hr.mono (by decide)) (by rfl) T.moved_on.g T.moved_on.F.kp T.moved_on.b .nil pass0 (pa_cons (pe_fld (pv 1) rfl) (pa_cons (pe_fld (pv 0) rfl) pa_nil)))) pa_nil))))), ?_⟩
    obtain ⟨dx1, tp1, np1, hp1, hn1, ht1⟩ := id h1
    obtain ⟨dx2, tp2, np2, hp2, hn2, ht2⟩ := id h2
    obtain ⟨ks1, hs1, ha1, rfl⟩ := of_ties ht1
    obtain ⟨ks2, hs2, ha2, rfl⟩ := of_ties ht2
    rw [List.length_map, List.length_map] at few
    refine ⟨_, rfl, p1, T.CWeb, dx1, _, _, rfl, hp1, T.cWeb, T.na_Web_size, wf_size _ _ _, _, rfl, p2, T.CWeb, dx2, _, _, rfl, hp2, T.cWeb, T.na_Web_size, wf_size _ _ _, _, _, rfl, rfl, ?_⟩
    refine ⟨_, rfl, p1, T.CWeb, dx1, _, _, rfl, hp1, T.cWeb, T.na_Web_ties, wf_ties _ _ _, tp1, _, rfl, .inr hs1, fun D1 nD1 => ?_⟩
    have k1 := same_new (o := HO.lst (rf ks1)) nD1
    refine ⟨_, rfl, p2, T.CWeb, dx2, _, _, rfl, k1 _ _ hp2, T.cWeb, T.na_Web_ties, wf_ties _ _ _, _, rfl, p1, T.CWeb, dx1, _, _, rfl, k1 _ _ hp1, T.cWeb, T.na_Web_size, wf_size _ _ _, tp2, n, ks2, rfl, k1.tup hs2, ha2.same k1, by omega, fun D2 qs H2 k2 nD2 hD2 a2 e2 => ?_⟩
    have ql : qs.length = ks2.length := by
      have := congrArg List.length e2
      rwa [List.length_map, List.length_map, List.length_map] at this
    refine ⟨D1, D2, _, _, rfl, rfl, k2 _ _ upd_same, hD2, by rw [rf_len, rf_len]; exact le_line (by omega), fun D3 nD3 => ?_⟩
    have k3 := same_new (o := HO.lst (rf ks1 ++ rf qs)) nD3
    have ec : rf ks1 ++ rf qs = rf (ks1 ++ qs) := (List.map_append).symm
    have em : (ks1 ++ qs).map Prod.snd = ks1.map Prod.snd ++ (ks2.map Prod.snd).map (shp n) := by rw [List.map_append, e2]
    have kk := (k1.trans k2).trans k3
    refine ⟨D3, n + m, ks1 ++ qs, ?_, ?_, fun k hk => ?_, h24, ?_, ?_, fun p ws H4 k4 np hw mm => ?_⟩
    · rw [Int.natCast_add]
      rfl
    · rw [← ec]
      exact SqL.of upd_same
    · rcases List.mem_append.mp hk with hk | hk
      · exact kk.tup (ha1 k hk)
      · exact k3.tup (a2 k hk)
    · rw [em]
      intro t ht
      rcases List.mem_append.mp ht with ht | ht
      · have := i1 t ht
        omega
      · obtain ⟨u, hu, rfl⟩ := List.mem_map.mp ht
        have := i2 u hu
        show u.1 + n < u.2 + n ∧ u.2 + n < n + m
        omega
    · rw [List.length_append, ql]
      exact few
    · refine q p ws H4 (kk.trans k4) (kk.free np) hw fun t => ?_
      rw [mm, em, List.mem_append]
def spRow (K : PySem.W.Frag) (C : Addr) : Sp := fun vs H Q _ => ∃ n : Nat, vs = [.int (n : Int)] ∧ 1 ≤ n ∧ n ≤ 24 ∧
  ∀ (p : Addr) (ws : List (Nat × Nat)) H', Same H H' → H p = none → WebAt K C H' p n ws → TiesIn n ws → (∀ i j, (i, j) ∈ ws ↔ i + 1 < n ∧ j = i + 1) → Q (.ref p) H'
theorem ok_row (T : Txt K mg) : FnOk P w K mg base CX0 7 T.row.f T.row.fd ["size"] (spRow K T.CWeb) := by
  refine T.row.F.ok sc_row (fun vs H Q E h => ?_) (fun cdv A outer s H vs Q E hr h => ?_)
  · obtain ⟨n, rfl, _⟩ := h
    rfl
  · obtain ⟨n, rfl, h1, h24, q⟩ := h
    have nd := sc_row.nd
    refine ⟨_, (pss_cons (ps_expr (pe_call (ok_check_number T) (hr.mono (by decide)) (by rfl) T.check_number.g T.check_number.F.kp T.check_number.b .nil pass0 (pa_cons (pv 0) (pa_cons pe_int (pa_cons (pe_glob (v := .int 24) (by rfl) T.MOST_PARTS.g ⟨_, rfl⟩) pa_nil)))))
      (pss_one (ps_ret (pe_call (ok_web_of T) (hr.mono (by decide)) (by rfl) T.web_of.g T.web_of.F.kp T.web_of.b .nil pass0 (pa_cons (pv 0) (pa_cons (pe_lc (own := [("part", 1)]) rfl nd (pi_range1 (by rfl) T.b_range (pa_cons (pe_op op_sub (pv 0) pe_int) pa_nil)) (blkOk_by (N := n_row) (sc := defScope s_row) (by decide +kernel)) (fun _ _ _ _ _ => (pg_name (i := 1) nd rfl (Or.inl rfl))) (fun _ _ _ _ _ => pts_nil) (fun _ _ _ _ _ => (pe_tup (pa_cons (pv 1) (pa_cons (pe_op op_add (pv 1) pe_int) pa_nil))))) pa_nil)))))), ?_⟩
    refine ⟨_, rfl, n, 1, 24, rfl, by omega, by omega, ?_⟩
    refine ⟨_, rfl, _, rfl, _, _, rfl, rfl, _, rfl, ?_, ?_, ?_⟩
    · have : (2 : Int) ^ 62 = 4611686018427387904 := by decide
      omega
    · have : (2 : Int) ^ 62 = 4611686018427387904 := by decide
      omega
    have en : ((n : Int) - 1).toNat = n - 1 := by omega
    rw [en]
    refine fun D nD => lc_it walk_range (fun j H2 => ∃ qs : List TA2, Same H H2 ∧ H2 D = some (.lst (rf qs)) ∧ At2 K H2 qs ∧ qs.map Prod.snd = (List.range j).map fun i => (i, i + 1))
      ⟨[], same_new nD, upd_same, fun k hk => (by cases hk), rfl⟩ (fun j H2 _ _ => trivial) ?_ ?_
    · rintro j z H2 H3 hj ⟨qs, k2, hD, h2, eq⟩ ⟨rfl, rfl⟩
      have ql : qs.length ≤ 23 := by
        have := congrArg List.length eq
        rw [List.length_map, List.length_map, List.length_range] at this
        omega
      refine ⟨rfl, yesT ?_⟩
      refine ⟨_, rfl, _, rfl, _, _, rfl, rfl, l2, fun t nt => ?_⟩
      obtain ⟨tD, c1, c2, c3⟩ := put_tie (p := (j, j + 1)) k2 nD hD h2 nt
      have ep : ([V.int (0 + (j : Int)), V.int (0 + (j : Int) + 1)] : List V) = pr (j, j + 1) := by
        show _ = [V.int (j : Int), V.int ((j + 1 : Nat) : Int)]
        rw [Int.zero_add]
        rfl
      rw [ep]
      refine ⟨_, by rw [upd_ne tD.symm]; exact hD, by rw [rf_len]; exact lt_line (by omega), qs ++ [(t, (j, j + 1))], c1, c2, c3, ?_⟩
      rw [List.map_append, eq, List.range_succ, List.map_append]
      rfl
    · rintro H2 ⟨qs, k2, hD, h2, eq⟩
      have mem : ∀ t, t ∈ qs.map Prod.snd ↔ t.1 + 1 < n ∧ t.2 = t.1 + 1 := fun t => by
        rw [eq, List.mem_map]
        constructor
        · rintro ⟨i, hi, rfl⟩
          have := List.mem_range.mp hi
          exact ⟨by show i + 1 < n; omega, rfl⟩
        · rintro ⟨a1, a2⟩
          refine ⟨t.1, List.mem_range.mpr (by omega), ?_⟩
          rw [← a2]
      have ql : qs.length ≤ 23 := by
        have := congrArg List.length eq
        rw [List.length_map, List.length_map, List.length_range] at this
        omega
      have ti : TiesIn n (qs.map Prod.snd) := fun t ht => by
        have := (mem t).mp ht
        omega
      refine ⟨D, n, qs, rfl, SqL.of hD, h2, h24, ti, by omega, fun p ws H4 k4 np hw mm => ?_⟩
      exact q p ws H4 (k2.trans k4) (k2.free np) hw (fun t ht => ti t ((mm t).mp ht)) fun i j => by rw [mm, mem]
end
end Sil
end

section
set_option Elab.async false
set_option maxRecDepth 100000
set_option maxHeartbeats 4000000
set_option linter.all false
namespace Sil
open PySem L2 Mi
/-! ### the law's own source of numbers -/
def Src (H : Hp) (S : Addr) : Prop := ∃ a b c d e : Int, H S = some (.lst [.int a, .int b, .int c, .int d, .int e])
theorem cut_mem {xs : List V} {lo hi : Option Int} {x : V} (h : x ∈ cutV xs lo hi) : x ∈ xs := by
  unfold cutV at h
  exact List.mem_of_mem_drop (List.mem_of_mem_take h)
theorem Keep.refl (p : Addr) (H : Hp) : Keep p H H := fun _ _ h _ => h
theorem Same.keep {p : Addr} {H H' : Hp} (k : Same H H') : Keep p H H' := fun b o h _ => k b o h
theorem keep_upd {p : Addr} {H : Hp} {o : HO} : Keep p H (upd H p o) := fun b u h ne => by
  rw [upd_ne ne]
  exact h
theorem Src.same {H H' : Hp} {S : Addr} (k : Same H H') (h : Src H S) : Src H' S := let ⟨a, b, c, d, e, h⟩ := h; ⟨a, b, c, d, e, k _ _ h⟩
theorem mod_nat {x m : Int} {n : Nat} (h : m = (n : Int)) (hn : 1 ≤ n) : ∃ d : Nat, x % m = (d : Int) ∧ d < n := by
  subst h
  have h1 := Int.emod_nonneg x (b := (n : Int)) (by omega)
  have h2 := Int.emod_lt_of_pos x (b := (n : Int)) (by omega)
  exact ⟨(x % (n : Int)).toNat, by omega, by omega⟩
theorem l5 {a b c d e : V} : [a, b, c, d, e].length ≤ sizeLine := le_line (by show 5 ≤ 16777216; decide)
section
variable {P : Program} {w : World} {K : PySem.W.Frag} {mg : Str → Option Value} {base : Heap}
theorem ok_law_is_integer (T : Txt K mg) : FnOk P w K mg base CX0 1 T.law_is_integer.f T.law_is_integer.fd ["_law_thing"] spIsInteger := by
  refine T.law_is_integer.F.ok sc_law_is_integer (fun vs H Q E h => ?_) (fun cdv A outer s H vs Q E hr h => ?_)
  · obtain ⟨n, rfl, _⟩ := h
    rfl
  · obtain ⟨n, rfl, q⟩ := h
    refine ⟨_, (pss_one (ps_ret (pe_and (pe_callB call_isi (by rfl) T.b_isinstance (by decide +kernel) (pa_cons (pv 0) (pa_cons (pe_bltn (v := .ty "int") (by rfl) T.b_int (by decide +kernel) rfl) pa_nil))) (pe_one (pe_not (pe_callB call_isi (by rfl) T.b_isinstance (by decide +kernel) (pa_cons (pv 0) (pa_cons (pe_bltn (v := .ty "bool") (by rfl) T.b_bool (by decide +kernel) rfl) pa_nil)))))))), ?_⟩
    refine ⟨_, rfl, .int n, .ty "int", .type "int", .type "int", true, rfl, .ty _, .base (.int n), kit_ty kit_int_int, true, rfl, iteT ?_⟩
    exact ⟨_, rfl, .int n, .ty "bool", .type "int", .type "bool", false, rfl, .ty _, .base (.int n), kit_ty kit_int_bool, false, rfl, q⟩
def spLawSource (K : PySem.W.Frag) : Sp := fun vs H Q _ => ∃ (a : Addr) (ns : List Int) (k : Nat), vs = [.ref a, .int (k : Int)] ∧ SqL K H a (ns.map V.int) ∧ ns.length ≤ 63 ∧
  ∀ (S : Addr) H', Same H H' → H S = none → Src H' S → Q (.ref S) H'
theorem ok_law_source (T : Txt K mg) : FnOk P w K mg base CX0 1 T.law_source.f T.law_source.fd ["_law_script", "_law_k"] (spLawSource K) := by
  refine T.law_source.F.ok sc_law_source (fun vs H Q E h => ?_) (fun cdv A outer s H vs Q E hr h => ?_)
  · obtain ⟨a, ns, k, rfl, _⟩ := h
    rfl
  · obtain ⟨a, ns, k, rfl, ha, h63, q⟩ := h
    have nd := sc_law_source.nd
    refine ⟨_, (pss_cons (ps_set (i := 2) nd rfl (Or.inl rfl) pe_int)
      (pss_cons (ps_for PassesOwn.never rfl (pi_list (pe_slice sl_list (pv 0) po_none (po_some pe_int))) (pg_name (i := 3) nd rfl (Or.inl rfl))
        (pss_one (ps_set (i := 2) nd rfl (Or.inl rfl) (pe_op op_mod (pe_callTy call_int1 (by rfl) T.b_int (by decide +kernel) (pa_cons (pe_op op_add (pe_op op_add (pe_op op_mul (pv 2) pe_int) (pe_op op_mod (pe_callTy call_int1 (by rfl) T.b_int (by decide +kernel) (pa_cons (pv 3) pa_nil)) pe_int)) pe_int) pa_nil)) pe_int))))
      (pss_cons (ps_set (i := 4) nd rfl (Or.inl rfl) (pe_ifExp (pt_cmpR op_lt (pv 1) (pe_callB call_len_seq (by rfl) T.b_len PySem.boot_len (pa_cons (pv 0) pa_nil)) (nomark _)) (pe_callTy call_int1 (by rfl) T.b_int (by decide +kernel) (pa_cons (pe_ix ix_list (pv 0) (pv 1) (fun _ _ => rfl)) pa_nil)) pe_int))
      (pss_one (ps_ret (pe_lst (pa_cons (pe_ifExp (pt_cmpR op_ge (pv 4) (pe_op op_pow pe_int pe_int) (nomark _)) (pv 4) pe_int) (pa_cons (pe_op op_mod (pe_callTy call_int1 (by rfl) T.b_int (by decide +kernel) (pa_cons (pv 4) pa_nil)) pe_int) (pa_cons (pv 2) (pa_cons (pe_op op_add (pv 1) pe_int) (pa_cons pe_int pa_nil))))))))))), ?_⟩
    refine ⟨_, rfl, _, rfl, a, _, rfl, ha, fun p np => ?_⟩
    have kp := same_new (o := HO.lst (cutV (ns.map V.int) none (some 63))) np
    refine ⟨p, rfl, ⟨_, SqL.of upd_same⟩, for_it (walk_list (xs := cutV (ns.map V.int) none (some 63))) (fun i σ H2 => ∃ (f : Int) (x : Option V), σ = [some (.ref a), some (.int (k : Int)), some (.int f), x, none] ∧ Same (upd H p (.lst (cutV (ns.map V.int) none (some 63)))) H2)
      ⟨31, none, rfl, Same.refl _⟩ (fun i σ H2 _ ⟨_, _, _, k2⟩ => k2.seq (SqL.of upd_same)) ?_ ?_⟩
    · rintro i z σ H2 H3 hi ⟨f, x, rfl, k2⟩ ⟨rfl, hz⟩
      obtain ⟨v, _, rfl⟩ := List.mem_map.mp (cut_mem (List.mem_of_getElem? hz))
      refine ⟨_, rfl, _, _, rfl, rfl, .inr ⟨by decide, by decide⟩, _, rfl, .inl ⟨_, rfl, _, _, rfl, rfl, (show (0 : Int) < 2147483629 by decide), _, _, rfl, rfl, _, _, rfl, rfl, .inl ⟨_, rfl, _, _, rfl, rfl, (show (0 : Int) < 2147483647 by decide), ?_⟩⟩⟩
      exact ⟨_, _, rfl, k2⟩
    · rintro σ H2 ⟨f, x, rfl, k2⟩
      have k0 := kp.trans k2
      refine ⟨_, rfl, _, rfl, a, _, rfl, .inl (k0.seq ha), _, _, rfl, rfl, _, rfl, ite2 (fun h => ?_) fun h => ?_⟩
      · have hk : k < ns.length := by
          have := of_decide_eq_true h
          rw [List.length_map] at this
          omega
        have e : (ns.map V.int)[k]? = some (.int ns[k]) := by rw [List.getElem?_map, List.getElem?_eq_getElem hk]; rfl
        refine ⟨_, rfl, _, rfl, a, _, (k : Int), _, rfl, rfl, k0.seq ha, atI_nat e, .inl ⟨_, rfl, ?_⟩⟩
        generalize ns[k] = cell
        refine ⟨_, rfl, _, _, rfl, rfl, ⟨by decide, by decide, by decide⟩, _, _, rfl, rfl, _, rfl, ite2 (fun _ => ?_) fun _ => ?_⟩
        · refine ⟨_, rfl, _, rfl, .inl ⟨_, rfl, _, _, rfl, rfl, (show (0 : Int) < 2147483629 by decide), _, rfl, _, rfl, _, _, rfl, rfl, l5, fun S nS => ?_⟩⟩
          exact q S _ (k0.trans (same_new nS)) (k0.free nS) ⟨_, _, _, _, _, upd_same⟩
        · refine ⟨_, rfl, .inl ⟨_, rfl, _, _, rfl, rfl, (show (0 : Int) < 2147483629 by decide), _, rfl, _, rfl, _, _, rfl, rfl, l5, fun S nS => ?_⟩⟩
          exact q S _ (k0.trans (same_new nS)) (k0.free nS) ⟨_, _, _, _, _, upd_same⟩
      · refine ⟨_, rfl, _, _, rfl, rfl, ⟨by decide, by decide, by decide⟩, _, _, rfl, rfl, _, rfl, ite2 (fun _ => ?_) fun _ => ?_⟩
        · refine ⟨_, rfl, _, rfl, .inl ⟨_, rfl, _, _, rfl, rfl, (show (0 : Int) < 2147483629 by decide), _, rfl, _, rfl, _, _, rfl, rfl, l5, fun S nS => ?_⟩⟩
          exact q S _ (k0.trans (same_new nS)) (k0.free nS) ⟨_, _, _, _, _, upd_same⟩
        · refine ⟨_, rfl, .inl ⟨_, rfl, _, _, rfl, rfl, (show (0 : Int) < 2147483629 by decide), _, rfl, _, rfl, _, _, rfl, rfl, l5, fun S nS => ?_⟩⟩
          exact q S _ (k0.trans (same_new nS)) (k0.free nS) ⟨_, _, _, _, _, upd_same⟩
def spDraw : Sp := fun vs H Q _ => ∃ (S : Addr) (m : Nat), vs = [.ref S, .int (m : Int)] ∧ Src H S ∧ 1 ≤ m ∧ m ≤ 1000 ∧
  ∀ (d : Nat) H', d < m → Keep S H H' → Src H' S → Q (.int (d : Int)) H'
theorem ok_law_draw (T : Txt K mg) : FnOk P w K mg base CX0 1 T.law_draw.f T.law_draw.fd ["_law_source_here", "_law_many"] spDraw := by
  refine T.law_draw.F.ok sc_law_draw (fun vs H Q E h => ?_) (fun cdv A outer s H vs Q E hr h => ?_)
  · obtain ⟨S, m, rfl, _⟩ := h
    rfl
  · obtain ⟨S, m, rfl, hS, h1, h1000, q⟩ := h
    obtain ⟨a, b, c, d, e, hS⟩ := hS
    have nd := sc_law_draw.nd
    refine ⟨_, (pss_cons (ps_if (pt_cmpR op_gt (pe_ix ix_list (pv 0) pe_int (fun _ _ => rfl)) pe_int (nomark _))
        (pss_cons (ps_set (i := 2) nd rfl (Or.inl rfl) (pe_op op_mod (pe_callTy call_int1 (by rfl) T.b_int (by decide +kernel) (pa_cons (pe_ix ix_list (pv 0) pe_int (fun _ _ => rfl)) pa_nil)) (pv 1)))
          (pss_cons (ps_asg (pe_op op_fdiv (pe_ix ix_list (pv 0) pe_int (fun _ _ => rfl)) (pv 1)) (pg_sub (pv 0) pe_int set_list))
          (pss_one (ps_ret (pv 2)))))
        pss_nil)
      (pss_cons (ps_asg (pe_op op_add (pe_ix ix_list (pv 0) pe_int (fun _ _ => rfl)) pe_int) (pg_sub (pv 0) pe_int set_list))
      (pss_cons (ps_set (i := 3) nd rfl (Or.inl rfl) (pe_op op_mod (pe_callTy call_int1 (by rfl) T.b_int (by decide +kernel) (pa_cons (pe_op op_mul (pe_op op_add (pe_op op_add (pe_op op_add (pe_ix ix_list (pv 0) pe_int (fun _ _ => rfl)) (pe_ix ix_list (pv 0) pe_int (fun _ _ => rfl))) (pe_op op_mul pe_int (pe_ix ix_list (pv 0) pe_int (fun _ _ => rfl)))) (pe_op op_mul pe_int (pe_ix ix_list (pv 0) pe_int (fun _ _ => rfl)))) pe_int) pa_nil)) pe_int))
      (pss_cons (ps_set (i := 3) nd rfl (Or.inl rfl) (pe_op op_mod (pe_callTy call_int1 (by rfl) T.b_int (by decide +kernel) (pa_cons (pe_op op_mul (pv 3) (pe_op op_add (pe_op op_fdiv (pv 3) pe_int) pe_int)) pa_nil)) pe_int))
      (pss_cons (ps_set (i := 3) nd rfl (Or.inl rfl) (pe_op op_mod (pe_callTy call_int1 (by rfl) T.b_int (by decide +kernel) (pa_cons (pe_op op_mul (pv 3) (pe_op op_add (pe_op op_fdiv (pv 3) pe_int) pe_int)) pa_nil)) pe_int))
      (pss_one (ps_ret (pe_op op_mod (pe_callTy call_int1 (by rfl) T.b_int (by decide +kernel) (pa_cons (pe_op op_fdiv (pv 3) pe_int) pa_nil)) (pv 1))))))))), ?_⟩
    have at0 : ∀ {a b c d e : Int}, atI [V.int a, V.int b, V.int c, V.int d, V.int e] 0 = some (.int a) := rfl
    have at1 : ∀ {a b c d e : Int}, atI [V.int a, V.int b, V.int c, V.int d, V.int e] 1 = some (.int b) := rfl
    have at2 : ∀ {a b c d e : Int}, atI [V.int a, V.int b, V.int c, V.int d, V.int e] 2 = some (.int c) := rfl
    have at3 : ∀ {a b c d e : Int}, atI [V.int a, V.int b, V.int c, V.int d, V.int e] 3 = some (.int d) := rfl
    have at4 : ∀ {a b c d e : Int}, atI [V.int a, V.int b, V.int c, V.int d, V.int e] 4 = some (.int e) := rfl
    refine ⟨_, rfl, S, _, 0, _, rfl, rfl, SqL.of hS, at0, _, _, rfl, rfl, _, rfl, ite2 (fun _ => ?_) fun _ => ?_⟩
    · obtain ⟨x, ex, hx⟩ := mod_nat (x := a) (m := (m : Int)) rfl h1
      refine ⟨_, rfl, S, _, 0, _, rfl, rfl, SqL.of hS, at0, .inl ⟨_, rfl, _, rfl, _, _, rfl, rfl, (by omega), ?_⟩⟩
      refine ⟨_, rfl, S, _, 0, _, rfl, rfl, SqL.of hS, at0, _, rfl, _, _, rfl, rfl, ⟨by omega, by omega⟩, ?_⟩
      refine ⟨_, rfl, S, _, 0, 0, rfl, rfl, hS, rfl, ?_⟩
      refine ⟨_, rfl, ?_⟩
      show Q (.int (a % (m : Int))) _
      rw [ex]
      exact q x _ hx keep_upd ⟨_, _, _, _, _, upd_same⟩
    · refine ⟨_, rfl, S, _, 4, _, rfl, rfl, SqL.of hS, at4, _, _, rfl, rfl, ?_⟩
      refine ⟨_, rfl, S, _, 4, 4, rfl, rfl, hS, rfl, ?_⟩
      have hS2 : upd H S (.lst [V.int a, V.int b, V.int c, V.int d, V.int (e + 1)]) S = some (.lst [V.int a, V.int b, V.int c, V.int d, V.int (e + 1)]) := upd_same
      have kS : Keep S H (upd H S (.lst [V.int a, V.int b, V.int c, V.int d, V.int (e + 1)])) := keep_upd
      show tSeq _ _ _ _ (upd H S (.lst [V.int a, V.int b, V.int c, V.int d, V.int (e + 1)]))
      generalize upd H S (.lst [V.int a, V.int b, V.int c, V.int d, V.int (e + 1)]) = H1 at hS2 kS ⊢
      refine ⟨_, rfl, S, _, 1, _, rfl, rfl, SqL.of hS2, at1, _, rfl, S, _, 2, _, rfl, rfl, SqL.of hS2, at2, _, _, rfl, rfl, ?_⟩
      refine ⟨_, rfl, S, _, 3, _, rfl, rfl, SqL.of hS2, at3, _, _, rfl, rfl, .inl ⟨by decide, by decide⟩, _, _, rfl, rfl, ?_⟩
      refine ⟨_, rfl, S, _, 4, _, rfl, rfl, SqL.of hS2, at4, _, _, rfl, rfl, .inl ⟨by decide, by decide⟩, _, _, rfl, rfl, ?_⟩
      refine ⟨_, _, rfl, rfl, .inr ⟨by decide, by decide⟩, .inl ⟨_, rfl, _, _, rfl, rfl, (show (0 : Int) < 2147483647 by decide), ?_⟩⟩
      obtain ⟨x1, e1, l1⟩ := mod_nat (x := (b + c + 7919 * d + 104729 * (e + 1)) * 48271) (m := 2147483647) (n := 2147483647) rfl (by decide)
      show gName 3 (.int ((b + c + 7919 * d + 104729 * (e + 1)) * 48271 % 2147483647)) _ _ _
      rw [e1]
      refine ⟨_, rfl, _, rfl, _, _, rfl, rfl, ⟨by decide, by decide⟩, _, _, rfl, rfl, _, _, rfl, rfl, .inl ⟨by omega, by omega⟩, .inl ⟨_, rfl, _, _, rfl, rfl, (show (0 : Int) < 2147483647 by decide), ?_⟩⟩
      obtain ⟨x2, e2, l2⟩ := mod_nat (x := (x1 : Int) * ((x1 : Int) / 1009 + 69621)) (m := 2147483647) (n := 2147483647) rfl (by decide)
      show gName 3 (.int ((x1 : Int) * ((x1 : Int) / 1009 + 69621) % 2147483647)) _ _ _
      rw [e2]
      refine ⟨_, rfl, _, rfl, _, _, rfl, rfl, ⟨by decide, by decide⟩, _, _, rfl, rfl, _, _, rfl, rfl, .inl ⟨by omega, by omega⟩, .inl ⟨_, rfl, _, _, rfl, rfl, (show (0 : Int) < 2147483399 by decide), ?_⟩⟩
      refine ⟨_, rfl, _, _, rfl, rfl, ⟨by decide, by decide⟩, .inl ⟨_, rfl, _, rfl, _, _, rfl, rfl, (by omega), ?_⟩⟩
      obtain ⟨x3, e3, l3⟩ := mod_nat (x := (x2 : Int) * ((x2 : Int) / 2003 + 40692) % 2147483399 / 16) (m := (m : Int)) rfl h1
      show Q (.int ((x2 : Int) * ((x2 : Int) / 2003 + 40692) % 2147483399 / 16 % (m : Int))) _
      rw [e3]
      exact q x3 _ l3 kS ⟨_, _, _, _, _, hS2⟩
end
end Sil
end

section
set_option Elab.async false
set_option maxRecDepth 100000
set_option maxHeartbeats 4000000
set_option linter.all false
namespace Sil
open PySem L2 Mi
/-- from the middle of two statements on -/
theorem seq_cut {t u : TS} {D : Ends} {σ : St} {H : Hp} (M : St → Hp → Prop) (h1 : ∀ D' : Ends, (∀ σ' H', M σ' H' → D'.nx σ' H') → t D' σ H) (h2 : ∀ σ' H', M σ' H' → u D σ' H') : tSeq t u D σ H := h1 { D with nx := u D } h2
theorem perm_lift {α β : Type} {f : α → β} : ∀ {qs : List α} {ys : List β}, ys.Perm (qs.map f) → ∃ ks : List α, ks.Perm qs ∧ ys = ks.map f
  | [], ys, h => ⟨[], .refl _, List.perm_nil.mp h⟩
  | q :: qs, ys, h => by
    rw [List.map_cons] at h
    obtain ⟨l1, l2, rfl⟩ := List.append_of_mem (h.mem_iff.mpr List.mem_cons_self)
    have h2 : (l1 ++ l2).Perm (qs.map f) := (List.perm_middle.symm.trans h).cons_inv
    obtain ⟨ks, hp, e⟩ := perm_lift h2
    obtain ⟨k1, k2, rfl, rfl, rfl⟩ := List.map_eq_append_iff.mp e.symm
    exact ⟨k1 ++ q :: k2, List.perm_middle.trans (.cons q hp), by rw [List.map_append, List.map_cons]⟩
theorem Keep.srcT {K : PySem.W.Frag} {H H' : Hp} {S a : Addr} {xs : List V} (k : Keep S H H') (hS : Src H S) (h : SqT K H a xs) : SqT K H' a xs :=
  let ⟨_, _, _, _, _, hS⟩ := hS; k.tup hS (fun _ z => by cases z) (fun _ _ z => by cases z) h
theorem Keep.at2 {K : PySem.W.Frag} {H H' : Hp} {S : Addr} {ks : List TA2} (k : Keep S H H') (hS : Src H S) (h : At2 K H ks) : At2 K H' ks := fun x hx => k.srcT hS (h x hx)
theorem src_ne {H : Hp} {S a : Addr} (hS : Src H S) (h : H a = none) : a ≠ S := fun e => by
  obtain ⟨_, _, _, _, _, hS⟩ := hS
  rw [e, hS] at h
  cases h
theorem Keep.free {p : Addr} {H H' : Hp} (k : Keep p H H') {a : Addr} (h : H' a = none) (hp : ∃ o, H' p = some o) : H a = none := by
  cases e : H a with
  | none => rfl
  | some o =>
    by_cases z : a = p
    · obtain ⟨o, hp⟩ := hp
      rw [z, hp] at h
      cases h
    · rw [k a o e z] at h
      cases h
theorem Src.some {H : Hp} {S : Addr} (h : Src H S) : ∃ o, H S = some o := let ⟨_, _, _, _, _, h⟩ := h; ⟨_, h⟩
theorem lo62 (n : Nat) : -(2 ^ 62 : Int) ≤ (n : Int) := by
  have : (2 : Int) ^ 62 = 4611686018427387904 := by decide
  omega
theorem hi62 {n : Nat} (h : n ≤ 16777216) : (n : Int) < 2 ^ 62 := by
  have : (2 : Int) ^ 62 = 4611686018427387904 := by decide
  omega
theorem lo63 (n : Nat) : -(2 ^ 63 : Int) ≤ (n : Int) := by
  have : (2 : Int) ^ 63 = 9223372036854775808 := by decide
  omega
theorem hi63 {n : Nat} (h : n ≤ 16777216) : (n : Int) < 2 ^ 63 := by
  have : (2 : Int) ^ 63 = 9223372036854775808 := by decide
  omega
theorem iv_erase : ∀ (l : List Nat) (d : Nat), (iv l).eraseIdx d = iv (l.eraseIdx d)
  | [], _ => rfl
  | _ :: _, 0 => rfl
  | x :: l, d + 1 => congrArg (V.int (x : Int) :: ·) (iv_erase l d)
theorem erase_perm : ∀ (l : List Nat) {d : Nat} (h : d < l.length), (l[d] :: l.eraseIdx d).Perm l
  | x :: l, 0, _ => .refl _
  | x :: l, d + 1, h => .trans (.swap _ _ _) (.cons x (erase_perm l (Nat.lt_of_succ_lt_succ h)))
/-! ### ties put in order -/
theorem sort_ties {K : PySem.W.Frag} {H : Hp} {qs : List TA2} {n : Nat} (h2 : At2 K H qs) (hd : (qs.map Prod.snd).Nodup) (hT : TiesIn n (qs.map Prod.snd)) (hn : n ≤ 24) (hl : qs.length < 64) :
    (rf qs).length < 64 ∧ (∀ x ∈ rf qs, ∃ ns, TupI K H x ns ∧ ns.length = 2 ∧ TS.Bd 64 ns) ∧
    ∀ ys : List V, ys.Perm (rf qs) → ys.Pairwise (fun x y => ∀ n m, TupI K H x n → TupI K H y m → TS.code 64 n ≤ TS.code 64 m) → ∃ ks : List TA2, ys = rf ks ∧ ks.Perm qs ∧ (ks.map Prod.snd).Pairwise tlt := by
  have bd : ∀ k ∈ qs, 0 ≤ (k.2.1 : Int) ∧ (k.2.1 : Int) < 64 ∧ 0 ≤ (k.2.2 : Int) ∧ (k.2.2 : Int) < 64 := fun k hk => by
    have := hT k.2 (List.mem_map.mpr ⟨k, hk, rfl⟩)
    omega
  have ti : ∀ k ∈ qs, TupI K H (.ref k.1) [(k.2.1 : Int), (k.2.2 : Int)] := fun k hk => ⟨k.1, rfl, h2 k hk⟩
  refine ⟨by rw [rf_len]; exact hl, fun x hx => ?_, fun ys hp pw => ?_⟩
  · obtain ⟨k, hk, rfl⟩ := List.mem_map.mp hx
    refine ⟨_, ti k hk, rfl, fun v hv => ?_⟩
    have := bd k hk
    rcases List.mem_cons.mp hv with rfl | hv
    · omega
    · rw [List.mem_singleton.mp hv]; omega
  · obtain ⟨ks, hk, rfl⟩ := perm_lift (f := fun k : TA2 => V.ref k.1) hp
    refine ⟨ks, rfl, hk, ?_⟩
    have nd : (ks.map Prod.snd).Nodup := (hk.map Prod.snd).nodup_iff.mpr hd
    rw [List.pairwise_map] at pw ⊢
    have nd2 : ks.Pairwise fun x y => x.2 ≠ y.2 := List.pairwise_map.mp nd
    refine (pw.and nd2).imp_of_mem fun {x y} hx hy h => ?_
    have hx := hk.mem_iff.mp hx
    have hy := hk.mem_iff.mp hy
    have c := h.1 _ _ (ti x hx) (ti y hy)
    have bx := bd x hx
    have bY := bd y hy
    have ne : ([(x.2.1 : Int), (x.2.2 : Int)] : List Int) ≠ [(y.2.1 : Int), (y.2.2 : Int)] := fun e => h.2 (ip_inj e)
    have := pair_lt c ne ⟨bx.1, bx.2.1⟩ ⟨bx.2.2.1, bx.2.2.2⟩ ⟨bY.1, bY.2.1⟩ ⟨bY.2.2.1, bY.2.2.2⟩
    unfold tlt
    omega
/-! ### pairs of a renaming -/
def pq (σ : List Nat) (a b : Nat) : Nat × Nat := if σ.getD b 0 < σ.getD a 0 then (σ.getD b 0, σ.getD a 0) else (σ.getD a 0, σ.getD b 0)
theorem perm_lt {σ : List Nat} {n a : Nat} (h : σ.Perm (List.range n)) (ha : a < n) : ∃ hl : a < σ.length, σ.getD a 0 = σ[a] ∧ σ[a] < n := by
  have hl : a < σ.length := by rw [h.length_eq, List.length_range]; exact ha
  refine ⟨hl, by rw [List.getD_eq_getElem?_getD, List.getElem?_eq_getElem hl]; rfl, ?_⟩
  exact List.mem_range.mp (h.mem_iff.mp (List.getElem_mem hl))
theorem perm_inj {σ : List Nat} {n a b : Nat} (h : σ.Perm (List.range n)) (ha : a < n) (hb : b < n) (e : σ.getD a 0 = σ.getD b 0) : a = b := by
  obtain ⟨la, ea, _⟩ := perm_lt h ha
  obtain ⟨lb, eb, _⟩ := perm_lt h hb
  rw [ea, eb] at e
  have nd : σ.Pairwise (· ≠ ·) := h.nodup_iff.mpr List.nodup_range
  rcases Nat.lt_trichotomy a b with z | z | z
  · exact absurd e (List.pairwise_iff_getElem.mp nd a b la lb z)
  · exact z
  · exact absurd e.symm (List.pairwise_iff_getElem.mp nd b a lb la z)
theorem pq_in {σ : List Nat} {n a b : Nat} (h : σ.Perm (List.range n)) (hb : b < a) (ha : a < n) : (pq σ a b).1 < (pq σ a b).2 ∧ (pq σ a b).2 < n := by
  obtain ⟨_, ea, la⟩ := perm_lt h ha
  obtain ⟨_, eb, lb⟩ := perm_lt h (Nat.lt_trans hb ha)
  have ne : σ.getD a 0 ≠ σ.getD b 0 := fun e => by
    have := perm_inj h ha (Nat.lt_trans hb ha) e
    omega
  unfold pq
  rw [← ea] at la
  rw [← eb] at lb
  split
  · exact ⟨by assumption, la⟩
  · exact ⟨by omega, lb⟩
theorem pq_inj {σ : List Nat} {n a b c d : Nat} (h : σ.Perm (List.range n)) (hb : b < a) (ha : a < n) (hd : d < c) (hc : c < n) (e : pq σ a b = pq σ c d) : a = c ∧ b = d := by
  have i1 := @perm_inj σ n a c h ha hc
  have i2 := @perm_inj σ n b d h (by omega) (by omega)
  have i3 := @perm_inj σ n a d h ha (by omega)
  have i4 := @perm_inj σ n b c h (by omega) hc
  unfold pq at e
  split at e <;> split at e <;> (injection e with e1 e2)
  · exact ⟨i1 e2, i2 e1⟩
  · have := i3 e2
    have := i4 e1
    omega
  · have := i3 e1
    have := i4 e2
    omega
  · exact ⟨i1 e1, i2 e2⟩
def tri : Nat → Nat
  | 0 => 0
  | n + 1 => tri n + n
structure Drawn (n : Nat) (σ : List Nat) (i j : Nat) (ts : List (Nat × Nat)) : Prop where
  nd : ts.Nodup
  of : ∀ t ∈ ts, ∃ a b, b < a ∧ a < n ∧ (a < i ∨ (a = i ∧ b < j)) ∧ t = pq σ a b
  len : ts.length ≤ tri i + j
theorem Drawn.step {n : Nat} {σ : List Nat} {i j : Nat} {ts : List (Nat × Nat)} (h : σ.Perm (List.range n)) (D : Drawn n σ i j ts) (hj : j < i) (hi : i < n) : Drawn n σ i (j + 1) (ts ++ [pq σ i j]) where
  nd := by
    rw [List.nodup_append]
    refine ⟨D.nd, List.nodup_cons.mpr ⟨List.not_mem_nil, List.nodup_nil⟩, fun a ha b hb e => ?_⟩
    rw [List.mem_singleton.mp hb] at e
    obtain ⟨c, d, h1, h2, h3, rfl⟩ := D.of a ha
    obtain ⟨rfl, rfl⟩ := pq_inj h h1 h2 hj hi e
    omega
  of := fun t ht => by
    rcases List.mem_append.mp ht with ht | ht
    · obtain ⟨c, d, h1, h2, h3, rfl⟩ := D.of t ht
      exact ⟨c, d, h1, h2, by omega, rfl⟩
    · rw [List.mem_singleton.mp ht]
      exact ⟨i, j, hj, hi, .inr ⟨rfl, by omega⟩, rfl⟩
  len := by
    rw [List.length_append, List.length_singleton]
    have := D.len
    omega
theorem Drawn.skip {n : Nat} {σ : List Nat} {i j : Nat} {ts : List (Nat × Nat)} (D : Drawn n σ i j ts) : Drawn n σ i (j + 1) ts where
  nd := D.nd
  of := fun t ht => by
    obtain ⟨c, d, h1, h2, h3, e⟩ := D.of t ht
    exact ⟨c, d, h1, h2, by omega, e⟩
  len := by have := D.len; omega
theorem Drawn.row {n : Nat} {σ : List Nat} {i : Nat} {ts : List (Nat × Nat)} (D : Drawn n σ i i ts) : Drawn n σ (i + 1) 0 ts where
  nd := D.nd
  of := fun t ht => by
    obtain ⟨c, d, h1, h2, h3, e⟩ := D.of t ht
    exact ⟨c, d, h1, h2, by omega, e⟩
  len := by
    have := D.len
    show _ ≤ tri i + i + 0
    omega
theorem Drawn.ties {n : Nat} {σ : List Nat} {i j : Nat} {ts : List (Nat × Nat)} (h : σ.Perm (List.range n)) (D : Drawn n σ i j ts) : TiesIn n ts := fun t ht => by
  obtain ⟨c, d, h1, h2, h3, rfl⟩ := D.of t ht
  exact pq_in h h1 h2
theorem tri8 : ∀ n, n ≤ 8 → tri n ≤ 28 := by decide
section
variable {P : Program} {w : World} {K : PySem.W.Frag} {mg : Str → Option Value} {base : Heap}
def spLawSize : Sp := fun vs H Q _ => ∃ (S : Addr) (m : Nat), vs = [.ref S, .int (m : Int)] ∧ Src H S ∧ 1 ≤ m ∧ m ≤ 1000 ∧
  ∀ (n : Nat) H', 1 ≤ n → n ≤ m → Keep S H H' → Src H' S → Q (.int (n : Int)) H'
theorem ok_law_size (T : Txt K mg) : FnOk P w K mg base CX0 2 T.law_size.f T.law_size.fd ["_law_source_here", "_law_most"] spLawSize := by
  refine T.law_size.F.ok sc_law_size (fun vs H Q E h => ?_) (fun cdv A outer s H vs Q E hr h => ?_)
  · obtain ⟨S, m, rfl, _⟩ := h
    rfl
  · obtain ⟨S, m, rfl, hS, h1, hm, q⟩ := h
    refine ⟨_, (pss_one (ps_ret (pe_ifExp (pt_cmpR op_gt (pe_call (ok_law_draw T) (hr.mono (by decide)) (by rfl) T.law_draw.g T.law_draw.F.kp T.law_draw.b .nil pass0 (pa_cons (pv 0) (pa_cons pe_int pa_nil))) pe_int (nomark _)) (pe_callB (call_max2 rfl) (by rfl) T.b_max (by decide +kernel) (pa_cons pe_int (pa_cons (pe_op op_sub (pv 1) (pe_call (ok_law_draw T) (hr.mono (by decide)) (by rfl) T.law_draw.g T.law_draw.F.kp T.law_draw.b .nil pass0 (pa_cons (pv 0) (pa_cons pe_int pa_nil)))) pa_nil))) (pe_op op_add pe_int (pe_call (ok_law_draw T) (hr.mono (by decide)) (by rfl) T.law_draw.g T.law_draw.F.kp T.law_draw.b .nil pass0 (pa_cons (pv 0) (pa_cons (pv 1) pa_nil))))))), ?_⟩
    refine ⟨_, rfl, S, 3, rfl, hS, by decide, by decide, fun d H1 hd k1 s1 => ⟨_, _, rfl, rfl, _, rfl, ite2 (fun _ => ?_) fun _ => ?_⟩⟩
    · refine ⟨_, rfl, _, rfl, S, 3, rfl, s1, by decide, by decide, fun d2 H2 hd2 k2 s2 => ⟨_, _, rfl, rfl, _, _, rfl, ?_⟩⟩
      have e : (if (m : Int) - (d2 : Int) > 1 then (m : Int) - (d2 : Int) else 1) = (((if m - d2 > 1 then m - d2 else 1) : Nat) : Int) := by
        by_cases z : m - d2 > 1
        · rw [if_pos z, if_pos (by omega)]
          omega
        · rw [if_neg z, if_neg (by omega)]
          rfl
      rw [e]
      refine q _ H2 ?_ ?_ (k1.trans k2) s2
      · split <;> omega
      · split <;> omega
    · refine ⟨_, rfl, _, rfl, S, m, rfl, s1, h1, hm, fun d2 H2 hd2 k2 s2 => ⟨_, _, rfl, rfl, ?_⟩⟩
      have e : (1 : Int) + (d2 : Int) = ((1 + d2 : Nat) : Int) := by omega
      show Q (.int ((1 : Int) + (d2 : Int))) _
      rw [e]
      exact q _ H2 (by omega) (by omega) (k1.trans k2) s2
def spPerm : Sp := fun vs H Q _ => ∃ (S : Addr) (n : Nat), vs = [.ref S, .int (n : Int)] ∧ Src H S ∧ n ≤ 24 ∧
  ∀ (a : Addr) (l : List Nat) H', Keep S H H' → Src H' S → H a = none → H' a = some (.lst (iv l)) → l.Perm (List.range n) → Q (.ref a) H'
theorem ok_law_perm (T : Txt K mg) : FnOk P w K mg base CX0 2 T.law_perm.f T.law_perm.fd ["_law_source_here", "_law_many"] spPerm := by
  refine T.law_perm.F.ok sc_law_perm (fun vs H Q E h => ?_) (fun cdv A outer s H vs Q E hr h => ?_)
  · obtain ⟨S, n, rfl, _⟩ := h
    rfl
  · obtain ⟨S, n, rfl, hS, h24, q⟩ := h
    have nd := sc_law_perm.nd
    refine ⟨_, (pss_cons (ps_set (i := 2) nd rfl (Or.inl rfl) (pe_listRg (by rfl) (by rfl) T.b_list (prg_1 (by rfl) T.b_range (pv 1))))
      (pss_cons (ps_set (i := 3) nd rfl (Or.inl rfl) (pe_lst pa_nil))
      (pss_cons (ps_for PassesOwn.never rfl (pi_range1 (by rfl) T.b_range (pa_cons (pv 1) pa_nil)) (pg_name (i := 4) nd rfl (Or.inl rfl))
        (pss_one (ps_expr (pe_bm PySem.F.plainAttrs_list PySem.F.slot_list_append PySem.F.type_list_append mt_append (pv 3) (pa_cons (pe_bm PySem.F.plainAttrs_list PySem.F.slot_list_pop PySem.F.type_list_pop mt_popAt (pv 2) (pa_cons (pe_call (ok_law_draw T) (hr.mono (by decide)) (by rfl) T.law_draw.g T.law_draw.F.kp T.law_draw.b .nil pass0 (pa_cons (pv 0) (pa_cons (pe_callB call_len_seq (by rfl) T.b_len PySem.boot_len (pa_cons (pv 2) pa_nil)) pa_nil))) pa_nil)) pa_nil)))))
      (pss_one (ps_ret (pv 3)))))), ?_⟩
    refine ⟨_, rfl, _, rfl, RgOk.of_le (by decide) (by omega) (by decide) (by omega), fun L nL => ?_⟩
    have er : rgV 0 (n : Int) = iv (List.range n) := by
      unfold rgV iv
      rw [show ((n : Int) - 0).toNat = n by omega]
      exact List.map_congr_left fun i _ => by rw [Int.zero_add]
    rw [er]
    refine ⟨Nat.zero_le _, fun F nF => ?_⟩
    have hLF : L ≠ F := fun e => by rw [← e, upd_same] at nF; cases nF
    have F0 : H F = none := by rw [upd_ne hLF.symm] at nF; exact nF
    have LS := src_ne hS nL
    have FS := src_ne hS F0
    refine ⟨_, rfl, _, rfl, lo62 n, hi62 (by omega), ?_⟩
    rw [Int.toNat_natCast]
    refine for_it walk_range (fun i σ H2 => ∃ (lf fd : List Nat) (x : Option V), σ = [some (.ref S), some (.int (n : Int)), some (.ref L), some (.ref F), x] ∧ Keep S H H2 ∧ Src H2 S ∧ H2 L = some (.lst (iv lf)) ∧ H2 F = some (.lst (iv fd)) ∧ fd.length = i ∧ (fd ++ lf).Perm (List.range n))
      ⟨List.range n, [], none, rfl, fun b o e ne => ?_, ?_, ?_, upd_same, rfl, .refl _⟩ (fun i σ H2 _ _ => trivial) ?_ ?_
    · rw [upd_ne (ne_of_none e F0), upd_ne (ne_of_none e nL)]
      exact e
    · obtain ⟨c1, c2, c3, c4, c5, c6⟩ := hS
      exact ⟨c1, c2, c3, c4, c5, by rw [upd_ne FS.symm, upd_ne LS.symm]; exact c6⟩
    · rw [upd_ne hLF, upd_same]
    · rintro i z σ H2 H3 hi ⟨lf, fd, x, rfl, k2, s2, hL, hF, len, pm⟩ ⟨rfl, rfl⟩
      have tot : fd.length + lf.length = n := by
        have := pm.length_eq
        rwa [List.length_append, List.length_range] at this
      refine ⟨_, rfl, .inl ⟨rfl, _, SqL.of hF⟩, _, rfl, .inl ⟨rfl, _, SqL.of hL⟩, _, rfl, _, rfl, L, _, rfl, .inl (SqL.of hL), S, lf.length, ?_, s2, by omega, by omega, fun d H4 hd k4 s4 => ?_⟩
      · rw [iv_length]
        rfl
      have hL4 := k4 _ _ hL LS
      have hF4 := k4 _ _ hF FS
      have hg : (iv lf)[d]? = some (.int ((lf[d] : Nat) : Int)) := iv_at (List.getElem?_eq_getElem hd)
      refine ⟨L, _, (d : Int), d, _, rfl, rfl, hL4, lo63 d, hi63 (by omega), ?_, hg, ?_⟩
      · rw [iv_length]
        exact PySem.seqIndex_of (by omega) (by omega)
      have hF5 : (upd H4 L (.lst ((iv lf).eraseIdx d))) F = some (.lst (iv fd)) := by rw [upd_ne hLF.symm]; exact hF4
      refine ⟨F, _, _, rfl, rfl, hF5, by rw [iv_length]; exact lt_line (by omega), lf.eraseIdx d, fd ++ [lf[d]], _, rfl, fun b o e ne => ?_, ?_, ?_, ?_, by rw [List.length_append, len]; rfl, ?_⟩
      · have := k4 b o (k2 b o e ne) ne
        rw [upd_ne (ne_of_none e F0), upd_ne (ne_of_none e nL)]
        exact this
      · obtain ⟨c1, c2, c3, c4, c5, c6⟩ := s4
        exact ⟨c1, c2, c3, c4, c5, by rw [upd_ne FS.symm, upd_ne LS.symm]; exact c6⟩
      · rw [upd_ne hLF, upd_same]
        rw [iv_erase]
      · rw [upd_same]
        unfold iv
        rw [List.map_append]
        rfl
      · refine List.Perm.trans ?_ pm
        rw [List.append_assoc]
        refine List.Perm.append_left fd ?_
        show (lf[d] :: lf.eraseIdx d).Perm lf
        exact erase_perm lf hd
    · rintro σ H2 ⟨lf, fd, x, rfl, k2, s2, hL, hF, len, pm⟩
      have tot : fd.length + lf.length = n := by
        have := pm.length_eq
        rwa [List.length_append, List.length_range] at this
      have l0 : lf = [] := List.length_eq_zero_iff.mp (by omega)
      rw [l0, List.append_nil] at pm
      exact ⟨_, rfl, q F fd H2 k2 s2 F0 hF pm⟩
end
end Sil
end

section
set_option Elab.async false
set_option maxRecDepth 100000
set_option maxHeartbeats 4000000
set_option linter.all false
namespace Sil
open PySem L2 Mi
theorem nw {H : Hp} {a : Addr} {o : HO} (h : H a = none) : Same H (upd H a o) := same_new h
section
variable {P : Program} {w : World} {K : PySem.W.Frag} {mg : Str → Option Value} {base : Heap}
theorem pq_min (σ : List Nat) (a b : Nat) : ([V.int (if ((σ.getD b 0 : Nat) : Int) < ((σ.getD a 0 : Nat) : Int) then ((σ.getD b 0 : Nat) : Int) else ((σ.getD a 0 : Nat) : Int)), V.int (if ((σ.getD b 0 : Nat) : Int) > ((σ.getD a 0 : Nat) : Int) then ((σ.getD b 0 : Nat) : Int) else ((σ.getD a 0 : Nat) : Int))] : List V) = pr (pq σ a b) := by
  unfold pq
  by_cases h : σ.getD b 0 < σ.getD a 0
  · rw [if_pos (by omega), if_neg (by omega), if_pos h]
  · rw [if_neg (by omega), if_neg h]
    by_cases e : σ.getD b 0 = σ.getD a 0
    · rw [e, if_neg (by omega)]
    · rw [if_pos (by omega)]
def spTies (K : PySem.W.Frag) : Sp := fun vs H Q _ => ∃ (S : Addr) (n : Nat), vs = [.ref S, .int (n : Int)] ∧ Src H S ∧ 1 ≤ n ∧ n ≤ 8 ∧
  ∀ (a : Addr) (ts : List (Nat × Nat)) H', Keep S H H' → Src H' S → H a = none → TiesAt K H' a ts → TiesIn n ts → ts.Pairwise tlt → ts.length ≤ 28 → Q (.ref a) H'
theorem ok_law_ties (T : Txt K mg) : FnOk P w K mg base CX0 3 T.law_ties.f T.law_ties.fd ["_law_source_here", "_law_size_here"] (spTies K) := by
  refine T.law_ties.F.ok sc_law_ties (fun vs H Q E h => ?_) (fun cdv A outer s H vs Q E hr h => ?_)
  · obtain ⟨S, n, rfl, _⟩ := h
    rfl
  · obtain ⟨S, n, rfl, hS, h1, h8, q⟩ := h
    have nd := sc_law_ties.nd
    refine ⟨_, (pss_cons (ps_set (i := 2) nd rfl (Or.inl rfl) (pe_call (ok_law_draw T) (hr.mono (by decide)) (by rfl) T.law_draw.g T.law_draw.F.kp T.law_draw.b .nil pass0 (pa_cons (pv 0) (pa_cons pe_int pa_nil))))
      (pss_cons (ps_set (i := 3) nd rfl (Or.inl rfl) (pe_call (ok_law_perm T) (hr.mono (by decide)) (by rfl) T.law_perm.g T.law_perm.F.kp T.law_perm.b .nil pass0 (pa_cons (pv 0) (pa_cons (pv 1) pa_nil))))
      (pss_cons (ps_set (i := 4) nd rfl (Or.inl rfl) (pe_lst pa_nil))
      (pss_cons (ps_for PassesOwn.never rfl (pi_range1 (by rfl) T.b_range (pa_cons (pv 1) pa_nil)) (pg_name (i := 5) nd rfl (Or.inl rfl))
        (pss_one (ps_for PassesOwn.never rfl (pi_range1 (by rfl) T.b_range (pa_cons (pv 5) pa_nil)) (pg_name (i := 6) nd rfl (Or.inl rfl))
            (pss_cons (ps_set (i := 7) nd rfl (Or.inl rfl) (pe_tup (pa_cons (pe_callB (call_min2 rfl) (by rfl) T.b_min (by decide +kernel) (pa_cons (pe_ix ix_list (pv 3) (pv 5) (fun _ _ => rfl)) (pa_cons (pe_ix ix_list (pv 3) (pv 6) (fun _ _ => rfl)) pa_nil))) (pa_cons (pe_callB (call_max2 rfl) (by rfl) T.b_max (by decide +kernel) (pa_cons (pe_ix ix_list (pv 3) (pv 5) (fun _ _ => rfl)) (pa_cons (pe_ix ix_list (pv 3) (pv 6) (fun _ _ => rfl)) pa_nil))) pa_nil))))
              (pss_cons (ps_if (pt_cmpR op_eq (pv 2) pe_int (nomark _))
                (pss_one (ps_set (i := 8) nd rfl (Or.inl rfl) (pe_or (pe_cmpR op_eq (pe_op op_add (pv 6) pe_int) (pv 5) (nomark _)) (pe_one (pe_and (pe_cmpR op_eq (pv 6) pe_int (nomark _)) (pe_and (pe_cmpR op_eq (pv 5) (pe_op op_sub (pv 1) pe_int) (nomark _)) (pe_one (pe_cmpR op_eq (pe_call (ok_law_draw T) (hr.mono (by decide)) (by rfl) T.law_draw.g T.law_draw.F.kp T.law_draw.b .nil pass0 (pa_cons (pv 0) (pa_cons pe_int pa_nil))) pe_int (nomark _)))))))))
                (pss_one (ps_if (pt_cmpR op_eq (pv 2) pe_int (nomark _))
                    (pss_one (ps_set (i := 8) nd rfl (Or.inl rfl) (pe_cmpR op_eq (pe_callTy call_int1 (by rfl) T.b_int (by decide +kernel) (pa_cons (pe_op op_fdiv (pv 5) pe_int) pa_nil)) (pe_callTy call_int1 (by rfl) T.b_int (by decide +kernel) (pa_cons (pe_op op_fdiv (pv 6) pe_int) pa_nil)) (nomark _))))
                    (pss_one (ps_if (pt_cmpR op_eq (pv 2) pe_int (nomark _))
                        (pss_one (ps_set (i := 8) nd rfl (Or.inl rfl) (pe_and (pe_cmpR op_ne (pe_op op_mod (pe_callTy call_int1 (by rfl) T.b_int (by decide +kernel) (pa_cons (pv 5) pa_nil)) pe_int) (pe_op op_mod (pe_callTy call_int1 (by rfl) T.b_int (by decide +kernel) (pa_cons (pv 6) pa_nil)) pe_int) (nomark _)) (pe_one (pe_cmpR op_gt (pe_call (ok_law_draw T) (hr.mono (by decide)) (by rfl) T.law_draw.g T.law_draw.F.kp T.law_draw.b .nil pass0 (pa_cons (pv 0) (pa_cons pe_int pa_nil))) pe_int (nomark _))))))
                        (pss_one (ps_if (pt_cmpR op_eq (pv 2) pe_int (nomark _))
                            (pss_one (ps_set (i := 8) nd rfl (Or.inl rfl) (pe_cmpR op_gt (pe_call (ok_law_draw T) (hr.mono (by decide)) (by rfl) T.law_draw.g T.law_draw.F.kp T.law_draw.b .nil pass0 (pa_cons (pv 0) (pa_cons pe_int pa_nil))) pe_int (nomark _))))
                            (pss_one (ps_set (i := 8) nd rfl (Or.inl rfl) (pe_cmpR op_lt (pe_call (ok_law_draw T) (hr.mono (by decide)) (by rfl) T.law_draw.g T.law_draw.F.kp T.law_draw.b .nil pass0 (pa_cons (pv 0) (pa_cons pe_int pa_nil))) (pe_op op_sub (pv 2) pe_int) (nomark _)))))))))))
              (pss_one (ps_if (pt_val (pv 8))
                (pss_one (ps_expr (pe_bm PySem.F.plainAttrs_list PySem.F.slot_list_append PySem.F.type_list_append mt_append (pv 4) (pa_cons (pv 7) pa_nil))))
                pss_nil)))))))
      (pss_one (ps_ret (pe_callTy call_tuple_of (by rfl) T.b_tuple (by decide +kernel) (pa_cons (pe_callB (cr_sortT (d := 2) (B := 64) (by decide)) (by rfl) T.b_sorted (by decide +kernel) (pa_cons (pv 4) pa_nil)) pa_nil)))))))), ?_⟩
    refine ⟨_, rfl, S, 7, rfl, hS, by decide, by decide, fun style H1 hst k1 s1 => ?_⟩
    refine ⟨_, rfl, _, rfl, S, n, rfl, s1, by omega, fun N σ H2 k2 s2 nN hN pm => ?_⟩
    refine ⟨Nat.zero_le _, fun F nF => ?_⟩
    have k12 := k1.trans k2
    have N0 : H N = none := k1.free nN s1.some
    have F0 : H F = none := k12.free nF s2.some
    have FS := src_ne hS F0
    have NS := src_ne hS N0
    have NF : N ≠ F := fun e => by rw [e, nF] at hN; cases hN
    have kF := nw (o := HO.lst []) nF
    refine ⟨_, rfl, _, rfl, lo62 n, hi62 (by omega), ?_⟩
    rw [Int.toNat_natCast]
    refine for_it walk_range (fun i st H3 => ∃ (qs : List TA2) (x y z u : Option V), st = [some (.ref S), some (.int (n : Int)), some (.int (style : Int)), some (.ref N), some (.ref F), x, y, z, u] ∧ Keep S H H3 ∧ Src H3 S ∧ H3 N = some (.lst (iv σ)) ∧ H3 F = some (.lst (rf qs)) ∧ At2 K H3 qs ∧ Drawn n σ i 0 (qs.map Prod.snd))
      ⟨[], none, none, none, none, rfl, k12.trans (Same.keep kF), s2.same kF, kF _ _ hN, upd_same, fun k hk => (by cases hk), ⟨.nil, fun t ht => (by cases ht), Nat.zero_le _⟩⟩ (fun i σ H2 _ _ => trivial) ?_ ?_
    · rintro i z σ1 H3 H4 hi ⟨qs, x, y, z', u, rfl, k3, s3, hN3, hF3, a3, D⟩ ⟨rfl, rfl⟩
      show gName 5 (.int (0 + (i : Int))) _ _ _
      rw [Int.zero_add]
      refine ⟨_, rfl, _, rfl, lo62 i, hi62 (n := i) (by omega), ?_⟩
      rw [Int.toNat_natCast]
      refine for_it walk_range (fun j st H5 => ∃ (qs : List TA2) (y z u : Option V), st = [some (.ref S), some (.int (n : Int)), some (.int (style : Int)), some (.ref N), some (.ref F), some (.int (i : Int)), y, z, u] ∧ Keep S H H5 ∧ Src H5 S ∧ H5 N = some (.lst (iv σ)) ∧ H5 F = some (.lst (rf qs)) ∧ At2 K H5 qs ∧ Drawn n σ i j (qs.map Prod.snd))
        ⟨qs, _, _, _, rfl, k3, s3, hN3, hF3, a3, D⟩ (fun i σ H2 _ _ => trivial) ?_ ?_
      · rintro j z σ2 H5 H6 hj ⟨qs, y, z', u, rfl, k5, s5, hN5, hF5, a5, D5⟩ ⟨rfl, rfl⟩
        show gName 6 (.int (0 + (j : Int))) _ _ _
        rw [Int.zero_add]
        obtain ⟨il, ei, _⟩ := perm_lt pm hi
        obtain ⟨jl, ej, _⟩ := perm_lt pm (Nat.lt_trans hj hi)
        have gi : atI (iv σ) (i : Int) = some (.int ((σ.getD i 0 : Nat) : Int)) := atI_nat (iv_at (by rw [ei]; exact List.getElem?_eq_getElem il))
        have gj : atI (iv σ) (j : Int) = some (.int ((σ.getD j 0 : Nat) : Int)) := atI_nat (iv_at (by rw [ej]; exact List.getElem?_eq_getElem jl))
        refine ⟨_, rfl, _, rfl, N, _, _, _, rfl, rfl, SqL.of hN5, gi, _, rfl, _, rfl, N, _, _, _, rfl, rfl, SqL.of hN5, gj, _, _, rfl, ?_⟩
        refine ⟨_, rfl, _, rfl, N, _, _, _, rfl, rfl, SqL.of hN5, gi, _, rfl, _, rfl, N, _, _, _, rfl, rfl, SqL.of hN5, gj, _, _, rfl, l2, fun t nt => ?_⟩
        rw [pq_min]
        have kt := nw (o := HO.tup (pr (pq σ i j))) nt
        have tF : t ≠ F := fun e => by rw [e, hF5] at nt; cases nt
        dsimp only [gName]
        refine seq_cut (fun st H7 => ∃ b : Bool, st = [some (.ref S), some (.int (n : Int)), some (.int (style : Int)), some (.ref N), some (.ref F), some (.int (i : Int)), some (.int (j : Int)), some (.ref t), some (.bl b)] ∧ Keep S (upd H6 t (.tup (pr (pq σ i j)))) H7 ∧ Src H7 S) (fun D' hD => ?_) ?_
        · have s6 := s5.same kt
          generalize upd H6 t (.tup (pr (pq σ i j))) = H7 at *
          refine ⟨_, rfl, rfl, _, rfl, ite2 (fun _ => ?_) fun _ => ?_⟩
          · refine ⟨_, rfl, _, _, rfl, rfl, _, rfl, rfl, _, rfl, ite2 (fun _ => ?_) fun _ => ?_⟩
            · exact hD _ _ ⟨true, rfl, Keep.refl _ _, s6⟩
            · refine ⟨_, rfl, rfl, _, rfl, ite2 (fun _ => ?_) fun _ => ?_⟩
              · refine ⟨_, rfl, _, rfl, _, _, rfl, rfl, rfl, _, rfl, ite2 (fun _ => ?_) fun _ => ?_⟩
                · refine ⟨_, rfl, S, 2, rfl, s6, by decide, by decide, fun d H8 hd k8 s8 => ⟨rfl, ?_⟩⟩
                  exact hD _ _ ⟨_, rfl, k8, s8⟩
                · exact hD _ _ ⟨false, rfl, Keep.refl _ _, s6⟩
              · exact hD _ _ ⟨false, rfl, Keep.refl _ _, s6⟩
          · refine ⟨_, rfl, rfl, _, rfl, ite2 (fun _ => ?_) fun _ => ?_⟩
            · refine ⟨_, rfl, _, _, rfl, rfl, ⟨by decide, by decide⟩, .inl ⟨_, rfl, _, rfl, _, _, rfl, rfl, ⟨by decide, by decide⟩, .inl ⟨_, rfl, rfl, ?_⟩⟩⟩
              exact hD _ _ ⟨_, rfl, Keep.refl _ _, s6⟩
            · refine ⟨_, rfl, rfl, _, rfl, ite2 (fun _ => ?_) fun _ => ?_⟩
              · refine ⟨_, rfl, .inl ⟨_, rfl, _, _, rfl, rfl, (show (0 : Int) < 2 by decide), _, rfl, .inl ⟨_, rfl, _, _, rfl, rfl, (show (0 : Int) < 2 by decide), rfl, _, rfl, ite2 (fun _ => ?_) fun _ => ?_⟩⟩⟩
                · refine ⟨_, rfl, S, 3, rfl, s6, by decide, by decide, fun d H8 hd k8 s8 => ⟨_, _, rfl, rfl, ?_⟩⟩
                  exact hD _ _ ⟨_, rfl, k8, s8⟩
                · exact hD _ _ ⟨false, rfl, Keep.refl _ _, s6⟩
              · refine ⟨_, rfl, rfl, _, rfl, ite2 (fun _ => ?_) fun _ => ?_⟩
                · refine ⟨_, rfl, S, 5, rfl, s6, by decide, by decide, fun d H8 hd k8 s8 => ⟨_, _, rfl, rfl, ?_⟩⟩
                  exact hD _ _ ⟨_, rfl, k8, s8⟩
                · refine ⟨_, rfl, S, 6, rfl, s6, by decide, by decide, fun d H8 hd k8 s8 => ⟨_, rfl, _, _, rfl, rfl, _, _, rfl, rfl, ?_⟩⟩
                  exact hD _ _ ⟨_, rfl, k8, s8⟩
        · rintro st H7 ⟨b, rfl, k7, s7⟩
          have hF7 : H7 F = some (.lst (rf qs)) := k7 _ _ (kt _ _ hF5) FS
          have hN7 : H7 N = some (.lst (iv σ)) := k7 _ _ (kt _ _ hN5) NS
          have a7 : At2 K H7 qs := k7.at2 (s5.same kt) (a5.same kt)
          have k57 : Keep S H H7 := (k5.trans (Same.keep kt)).trans k7
          have t7 : H7 t = some (.tup (pr (pq σ i j))) := k7 _ _ upd_same (src_ne s5 nt)
          have ql : qs.length ≤ 16777214 := by
            have := D5.len
            rw [List.length_map] at this
            have := tri8 i (by omega)
            omega
          refine ⟨_, rfl, _, rfl, ite2 (fun _ => ?_) fun _ => ?_⟩
          · refine ⟨_, rfl, .inl ⟨rfl, _, SqL.of hF7⟩, _, rfl, F, _, _, rfl, rfl, hF7, by rw [rf_len]; exact lt_line (by omega), ?_⟩
            refine ⟨qs ++ [(t, pq σ i j)], _, _, _, rfl, fun b o e ne => ?_, ?_, ?_, ?_, fun x hx => ?_, ?_⟩
            · rw [upd_ne (ne_of_none e F0)]
              exact k57 b o e ne
            · obtain ⟨c1, c2, c3, c4, c5, c6⟩ := s7
              exact ⟨c1, c2, c3, c4, c5, by rw [upd_ne FS.symm]; exact c6⟩
            · rw [upd_ne NF]
              exact hN7
            · rw [upd_same]
              unfold rf
              rw [List.map_append]
              rfl
            · rcases List.mem_append.mp hx with hx | hx
              · exact keep_upd.tup hF7 (fun _ z => by cases z) (fun _ _ z => by cases z) (a7 x hx)
              · rw [List.mem_singleton.mp hx]
                exact SqT.of (by rw [upd_ne tF]; exact t7)
            · rw [List.map_append]
              exact D5.step pm hj hi
          · exact ⟨qs, _, _, _, rfl, k57, s7, hN7, hF7, a7, D5.skip⟩
      · rintro σ2 H5 ⟨qs, y, z', u, rfl, k5, s5, hN5, hF5, a5, D5⟩
        exact ⟨qs, _, _, _, _, rfl, k5, s5, hN5, hF5, a5, D5.row⟩
    · rintro σ1 H3 ⟨qs, x, y, z', u, rfl, k3, s3, hN3, hF3, a3, D⟩
      have ln : (qs.map Prod.snd).length ≤ 28 := Nat.le_trans D.len (tri8 n h8)
      have lq : qs.length ≤ 28 := by rwa [List.length_map] at ln
      obtain ⟨e1, e2, e3⟩ := sort_ties a3 D.nd (D.ties pm) (by omega) (by omega)
      refine ⟨_, rfl, F, rf qs, rfl, SqL.of hF3, e1, e2, fun ys p hp hq np => ?_⟩
      obtain ⟨ks, rfl, hk, pw⟩ := e3 ys hp hq
      have kp := nw (o := HO.lst (rf ks)) np
      refine ⟨p, _, rfl, .inl ⟨SqL.of upd_same, fun tp ntp => ?_⟩⟩
      have kt := nw (o := HO.tup (rf ks)) ntp
      have kk := kp.trans kt
      have am : At2 K H3 ks := fun k h => a3 k (hk.mem_iff.mp h)
      have mm := hk.map Prod.snd
      refine q tp (ks.map Prod.snd) _ (k3.trans (Same.keep kk)) (s3.same kk) (k3.free (kp.free ntp) s3.some) (ties_of (SqT.of upd_same) (am.same kk)) (fun t ht => (D.ties pm) t (mm.mem_iff.mp ht)) pw ?_
      rw [mm.length_eq]
      exact ln
end
end Sil
end

section
set_option Elab.async false
set_option maxRecDepth 100000
set_option maxHeartbeats 4000000
set_option linter.all false
namespace Sil
open PySem L2 Mi
theorem filter_snoc {α : Type} {p : α → Bool} {l : List α} {i : Nat} {x : α} (h : l[i]? = some x) : (l.take (i + 1)).filter p = (l.take i).filter p ++ (if p x = true then [x] else []) := by
  rw [List.take_add_one, h, List.filter_append]
  congr 1
  show [x].filter p = _
  by_cases z : p x = true
  · rw [if_pos z, List.filter_cons_of_pos z]
    rfl
  · rw [if_neg z, List.filter_cons_of_neg z]
    rfl
theorem range_take {i n : Nat} (h : i ≤ n) : (List.range n).take i = List.range i := by
  rw [List.take_range, Nat.min_eq_left h]
theorem range_snoc {p : Nat → Bool} {i : Nat} : (List.range (i + 1)).filter p = (List.range i).filter p ++ (if p i = true then [i] else []) := by
  rw [List.range_succ, List.filter_append]
  congr 1
  by_cases z : p i = true
  · rw [if_pos z, List.filter_cons_of_pos z]
    rfl
  · rw [if_neg z, List.filter_cons_of_neg z]
    rfl
/-- the law's own check of a lot -/
def restB (n : Nat) (N : List Nat) (m : Nat) : Bool := (List.range n).all fun i => m.testBit i == decide (nr N i &&& m = 0)
theorem restB_iff {n m : Nat} {N : List Nat} (hm : m < 2 ^ n) : restB n N m = true ↔ Sol (nr N) (2 ^ n - 1) 0 m := by
  unfold restB
  rw [List.all_eq_true]
  have key : ∀ i, (decide (nr N i &&& m = 0) = true ↔ ∀ q, (nr N i).testBit q = true → m.testBit q = false) := fun i => by
    rw [decide_eq_true_iff]
    constructor
    · intro h q hq
      cases e : m.testBit q with
      | false => rfl
      | true =>
        have : (nr N i &&& m).testBit q = true := by rw [Nat.testBit_and, hq, e]; rfl
        rw [h, Nat.zero_testBit] at this
        cases this
    · intro h
      refine zero_of fun q => ?_
      rw [Nat.testBit_and]
      cases e : (nr N i).testBit q with
      | false => rfl
      | true => rw [h q e]; rfl
  have full : ∀ i, (2 ^ n - 1).testBit i = true ↔ i < n := fun i => by
    rw [Nat.testBit_two_pow_sub_one, decide_eq_true_iff]
  constructor
  · intro h
    refine ⟨fun p hp => (full p).mpr (tb_lt hp hm), fun p hp => ?_, fun p hp => by rw [Nat.zero_testBit] at hp; cases hp⟩
    have := beq_iff_eq.mp (h p (List.mem_range.mpr ((full p).mp hp)))
    rw [this]
    exact key p
  · intro h i hi
    have := h.free i ((full i).mpr (List.mem_range.mp hi))
    rw [← key i] at this
    exact beq_iff_eq.mpr (Bool.eq_iff_iff.mpr this)
theorem and_one {m i : Nat} : decide (V.int (((m >>> i) &&& 1 : Nat) : Int) = V.int 1) = m.testBit i := by
  rw [dec_int, Nat.testBit, Nat.one_and_eq_mod_two, Nat.and_one_is_mod]
  rcases Nat.mod_two_eq_zero_or_one (m >>> i) with h | h <;> rw [h] <;> rfl
theorem dec_bl (a b : Bool) : decide (V.bl a = V.bl b) = (a == b) := by cases a <;> cases b <;> decide
theorem dec_zero (k : Nat) : decide (V.int (k : Int) = V.int 0) = decide (k = 0) := by
  rw [dec_int]
  cases k with
  | zero => rfl
  | succ k => rfl
section
variable {P : Program} {w : World} {K : PySem.W.Frag} {mg : Str → Option Value} {base : Heap}
def spLawNear (K : PySem.W.Frag) : Sp := fun vs H Q _ => ∃ (n : Nat) (tp : Addr) (ts : List (Nat × Nat)), vs = [.int (n : Int), .ref tp] ∧ n ≤ 8 ∧ TiesIn n ts ∧ TiesAt K H tp ts ∧
  ∀ (a : Addr) H', Same H H' → H a = none → H' a = some (.lst (iv (nearOf n ts))) → Q (.ref a) H'
theorem ok_law_near (T : Txt K mg) : FnOk P w K mg base CX0 1 T.law_near.f T.law_near.fd ["_law_size_here", "_law_ties_here"] (spLawNear K) := by
  refine T.law_near.F.ok sc_law_near (fun vs H Q E h => ?_) (fun cdv A outer s H vs Q E hr h => ?_)
  · obtain ⟨n, tp, ts, rfl, _⟩ := h
    rfl
  · obtain ⟨n, tp, ts, rfl, h8, hti, hta, q⟩ := h
    have nd := sc_law_near.nd
    obtain ⟨as, a1, a2, a3⟩ := hta
    refine ⟨_, (pss_cons (ps_setLc (i := 2) (own := [("_law_part", 3)]) rfl nd rfl rfl (sw_true rfl rfl rfl (by decide +kernel)) (pi_range1 (by rfl) T.b_range (pa_cons (pv 0) pa_nil)) (blkOk_by (N := n_law_near) (sc := defScope s_law_near) (by decide +kernel)) (fun _ _ _ _ _ => (pg_name (i := 3) nd rfl (Or.inl rfl))) (fun _ _ _ _ _ => pts_nil) (fun _ _ _ _ _ => pe_int))
      (pss_cons (ps_for PassesOwn.never rfl (pi_tup (pv 1)) (pg_tup (by rfl) (pgs_cons (pg_name (i := 4) nd rfl (Or.inl rfl)) (pgs_cons (pg_name (i := 5) nd rfl (Or.inl rfl)) pgs_nil)))
        (pss_cons (ps_asg (pe_op op_orN (pe_ix ix_list (pv 2) (pv 4) (fun _ _ => rfl)) (pe_op op_bitN pe_int (pv 5))) (pg_sub (pv 2) (pv 4) set_list))
          (pss_one (ps_asg (pe_op op_orN (pe_ix ix_list (pv 2) (pv 5) (fun _ _ => rfl)) (pe_op op_bitN pe_int (pv 4))) (pg_sub (pv 2) (pv 5) set_list)))))
      (pss_one (ps_ret (pv 2))))), ?_⟩
    refine ⟨_, rfl, _, rfl, lo62 n, hi62 (by omega), ?_⟩
    rw [Int.toNat_natCast]
    refine fun D nD => lc_it walk_range (fun j H2 => Same H H2 ∧ H2 D = some (.lst (iv (List.replicate j 0))))
      ⟨same_new nD, upd_same⟩ (fun j H2 _ _ => trivial) ?_ ?_
    · rintro j z H2 H3 hj ⟨k2, hD⟩ ⟨rfl, rfl⟩
      refine ⟨rfl, yesT ?_⟩
      refine ⟨_, hD, by rw [iv_length, List.length_replicate]; exact lt_line (by omega), same_put k2 nD, ?_⟩
      rw [upd_same, List.replicate_succ']
      unfold iv
      rw [List.map_append]
      rfl
    · rintro H1 ⟨k1, hD1⟩
      refine ⟨_, rfl, tp, rfl, ⟨_, k1.tup a1⟩, for_it (walk_tup (xs := as.map V.ref)) (fun i σ H2 => ∃ (x u v : Option V), σ = [some (.int (n : Int)), some (.ref tp), some (.ref D), x, u, v] ∧ Same H H2 ∧ H2 D = some (.lst (iv ((ts.take i).foldl addTie (List.replicate n 0)))))
        ⟨none, none, none, rfl, k1, hD1⟩ (fun i σ H2 _ ⟨_, _, _, _, k, _⟩ => k.tup a1) ?_ ?_⟩
      · rintro i x σ H2 H3 hi ⟨x0, u, v, rfl, k2, hn2⟩ ⟨rfl, hx⟩
        obtain ⟨a, t, ea, et, rfl, ha⟩ := TiesAt.at (tp := tp) a2 a3 hx
        obtain ⟨b1, b2⟩ := hti t (List.mem_of_getElem? et)
        have ha2 := k2.tup ha
        have ln : ((ts.take i).foldl addTie (List.replicate n 0)).length = n := by rw [foldl_length, List.length_replicate]
        generalize hN : (ts.take i).foldl addTie (List.replicate n 0) = N at hn2 ln
        refine ⟨a, _, rfl, ha2, rfl, _, _, rfl, _, _, rfl, rfl, ?_⟩
        refine ⟨_, rfl, _, rfl, D, _, (t.1 : Int), _, rfl, rfl, SqL.of hn2, iv_getD (by omega), _, rfl, t.2, rfl, rfl, by omega, N.getD t.1 0, 1 <<< t.2, rfl, rfl, ?_⟩
        refine ⟨_, rfl, _, rfl, D, _, (t.1 : Int), t.1, rfl, rfl, hn2, by rw [iv_length]; exact ixN_nat (by omega), ?_⟩
        rw [iv_set]
        refine ⟨_, rfl, _, rfl, D, _, (t.2 : Int), _, rfl, rfl, SqL.of upd_same, iv_getD (by rw [List.length_set]; omega), _, rfl, t.1, rfl, rfl, by omega, (N.set t.1 (N.getD t.1 0 ||| 1 <<< t.2)).getD t.2 0, 1 <<< t.1, rfl, rfl, ?_⟩
        refine ⟨_, rfl, _, rfl, D, _, (t.2 : Int), t.2, rfl, rfl, upd_same, by rw [iv_length, List.length_set]; exact ixN_nat (by omega), ?_⟩
        rw [iv_set, upd_upd]
        refine ⟨_, _, _, rfl, same_put k2 nD, ?_⟩
        rw [upd_same, List.take_add_one, et]
        show _ = some (HO.lst (iv ((ts.take i ++ [t]).foldl addTie (List.replicate n 0))))
        rw [List.foldl_append, hN]
        rfl
      · rintro σ H2 ⟨x0, u, v, rfl, k2, hn2⟩
        rw [List.length_map, a2, List.take_length] at hn2
        exact ⟨_, rfl, q D H2 k2 nD hn2⟩
def spLawLot : Sp := fun vs H Q _ => ∃ (n m : Nat), vs = [.int (m : Int), .int (n : Int)] ∧ n ≤ 8 ∧ m < 2 ^ n ∧
  ∀ (a : Addr) H', Same H H' → H a = none → H' a = some (.tup (iv (lot m))) → Q (.ref a) H'
theorem ok_law_lot (T : Txt K mg) : FnOk P w K mg base CX0 1 T.law_lot.f T.law_lot.fd ["_law_bits", "_law_size_here"] spLawLot := by
  refine T.law_lot.F.ok sc_law_lot (fun vs H Q E h => ?_) (fun cdv A outer s H vs Q E hr h => ?_)
  · obtain ⟨n, m, rfl, _⟩ := h
    rfl
  · obtain ⟨n, m, rfl, h8, hm, q⟩ := h
    have nd := sc_law_lot.nd
    refine ⟨_, (pss_one (ps_ret (pe_callTy call_tuple_of (by rfl) T.b_tuple (by decide +kernel) (pa_cons (pe_lc (own := [("_law_part", 2)]) rfl nd (pi_range1 (by rfl) T.b_range (pa_cons (pv 1) pa_nil)) (blkOk_by (N := n_law_lot) (sc := defScope s_law_lot) (by decide +kernel)) (fun _ _ _ _ _ => (pg_name (i := 2) nd rfl (Or.inl rfl))) (fun _ _ _ _ _ => pts_one (pt_cmpR op_eq (pe_op op_andN (pe_op op_shrNN (pv 0) (pv 2)) pe_int) pe_int (nomark _))) (fun _ _ _ _ _ => (pv 2))) pa_nil)))), ?_⟩
    refine ⟨_, rfl, _, rfl, lo62 n, hi62 (by omega), ?_⟩
    rw [Int.toNat_natCast]
    refine fun D nD => lc_it walk_range (fun j H2 => Same H H2 ∧ H2 D = some (.lst (iv ((List.range j).filter fun i => m.testBit i))))
      ⟨same_new nD, upd_same⟩ (fun j H2 _ _ => trivial) ?_ ?_
    · rintro j z H2 H3 hj ⟨k2, hD⟩ ⟨rfl, rfl⟩
      refine ⟨rfl, _, rfl, _, rfl, m, j, rfl, ?_, m >>> j, 1, rfl, rfl, rfl, _, rfl, ?_⟩
      · show V.int (0 + (j : Int)) = _
        rw [Int.zero_add]
      rw [and_one]
      have len : (iv ((List.range j).filter fun i => m.testBit i)).length < sizeLine := by
        rw [iv_length]
        refine lt_line (Nat.lt_of_le_of_lt (List.length_filter_le _ _) ?_)
        rw [List.length_range]
        omega
      refine ite2 (fun z => ?_) fun z => ?_
      · refine ⟨_, rfl, _, hD, len, same_put k2 nD, ?_⟩
        rw [upd_same, range_snoc, if_pos z]
        unfold iv
        rw [List.map_append]
        show some (HO.lst (_ ++ [V.int (0 + (j : Int))])) = _
        rw [Int.zero_add]
        rfl
      · refine ⟨k2, ?_⟩
        rw [hD, range_snoc, if_neg z, List.append_nil]
    · rintro H2 ⟨k2, hD⟩
      refine ⟨D, _, rfl, .inl ⟨SqL.of hD, fun a na => q a _ (k2.trans (same_new na)) (k2.free na) ?_⟩⟩
      rw [upd_same, lot_range hm]
def spLawIsRest : Sp := fun vs H Q _ => ∃ (a : Addr) (n m : Nat) (N : List Nat), vs = [.ref a, .int (m : Int)] ∧ H a = some (.lst (iv N)) ∧ N.length = n ∧ n ≤ 8 ∧
  ∀ H', Same H H' → Q (.bl (restB n N m)) H'
theorem ok_law_is_rest (T : Txt K mg) : FnOk P w K mg base CX0 1 T.law_is_rest.f T.law_is_rest.fd ["_law_near_here", "_law_bits"] spLawIsRest := by
  refine T.law_is_rest.F.ok sc_law_is_rest (fun vs H Q E h => ?_) (fun cdv A outer s H vs Q E hr h => ?_)
  · obtain ⟨a, n, m, N, rfl, _⟩ := h
    rfl
  · obtain ⟨a, n, m, N, rfl, ha, hl, h8, q⟩ := h
    have nd := sc_law_is_rest.nd
    refine ⟨_, (pss_one (ps_ret (pe_callB (cr_all rfl) (by rfl) T.b_all (by decide +kernel) (pa_cons (pe_lc (own := [("_law_part", 2)]) rfl nd (pi_range1 (by rfl) T.b_range (pa_cons (pe_callB call_len_seq (by rfl) T.b_len PySem.boot_len (pa_cons (pv 0) pa_nil)) pa_nil)) (blkOk_by (N := n_law_is_rest) (sc := defScope s_law_is_rest) (by decide +kernel)) (fun _ _ _ _ _ => (pg_name (i := 2) nd rfl (Or.inl rfl))) (fun _ _ _ _ _ => pts_nil) (fun _ _ _ _ _ => (pe_cmpR op_eq (pe_cmpR op_eq (pe_op op_andN (pe_op op_shrNN (pv 1) (pv 2)) pe_int) pe_int (nomark _)) (pe_cmpR op_eq (pe_op op_andN (pe_ix (ixL_K (K := K) rfl) (pv 0) (pv 2) (fun _ _ => rfl)) (pv 1)) pe_int (nomark _)) (nomark _)))) pa_nil)))), ?_⟩
    refine ⟨_, rfl, a, _, rfl, .inl (SqL.of ha), _, rfl, ?_⟩
    rw [iv_length, hl]
    refine ⟨lo62 n, hi62 (by omega), ?_⟩
    rw [Int.toNat_natCast]
    refine fun D nD => lc_it walk_range (fun j H2 => Same H H2 ∧ H2 D = some (.lst (((List.range j).map fun i => m.testBit i == decide (nr N i &&& m = 0)).map V.bl)))
      ⟨same_new nD, upd_same⟩ (fun j H2 _ _ => trivial) ?_ ?_
    · rintro j z H2 H3 hj ⟨k2, hD⟩ ⟨rfl, rfl⟩
      refine ⟨rfl, yesT ?_⟩
      refine ⟨_, rfl, _, rfl, m, j, rfl, ?_, m >>> j, 1, rfl, rfl, rfl, _, rfl, _, rfl, a, _, (j : Int), _, rfl, ?_, SqL.of (k2 _ _ ha), iv_getD (by omega), _, rfl, nr N j, m, rfl, rfl, rfl, ?_⟩
      · show V.int (0 + (j : Int)) = _
        rw [Int.zero_add]
      · show V.int (0 + (j : Int)) = _
        rw [Int.zero_add]
      refine ⟨rfl, _, hD, ?_, same_put k2 nD, ?_⟩
      · rw [List.length_map, List.length_map, List.length_range]
        exact lt_line (by omega)
      · rw [upd_same, and_one, List.range_succ, List.map_append, List.map_append]
        rw [dec_bl, dec_zero]
        rfl
    · rintro H2 ⟨k2, hD⟩
      refine ⟨D, _, rfl, SqL.of hD, ?_⟩
      have : restB n N m = ((List.range n).map fun i => m.testBit i == decide (nr N i &&& m = 0)).all id := by
        unfold restB
        rw [List.all_map]
        rfl
      rw [← this]
      exact q H2 k2
end
end Sil
end

section
set_option Elab.async false
set_option maxRecDepth 100000
set_option maxHeartbeats 4000000
set_option linter.all false
namespace Sil
open PySem L2 Mi
abbrev LA := Addr × Nat
def rl (ks : List LA) : List V := ks.map fun k => V.ref k.1
def AtL (H : Hp) (ks : List LA) : Prop := ∀ k ∈ ks, H k.1 = some (.tup (iv (lot k.2)))
theorem AtL.same {H H' : Hp} {ks : List LA} (k : Same H H') (h : AtL H ks) : AtL H' ks := fun x hx => k _ _ (h x hx)
theorem rl_len (ks : List LA) : (rl ks).length = ks.length := List.length_map _
theorem rl_get {ks : List LA} {j : Nat} {x : V} (h : (rl ks)[j]? = some x) : ∃ k, ks[j]? = some k ∧ x = .ref k.1 := by
  unfold rl at h
  rw [List.getElem?_map] at h
  cases e : ks[j]? with
  | none => rw [e] at h; cases h
  | some k => rw [e] at h; exact ⟨k, rfl, (Option.some.inj h).symm⟩
theorem put_lot {H1 H3 : Hp} {D t : Addr} {qs : List LA} {m : Nat} (k2 : Same H1 H3) (hD1 : H1 D = none) (hD : H3 D = some (.lst (rl qs))) (h2 : AtL H3 qs) (ht : H3 t = some (.tup (iv (lot m)))) :
    Same H1 (upd H3 D (.lst (rl qs ++ [.ref t]))) ∧ upd H3 D (.lst (rl qs ++ [.ref t])) D = some (.lst (rl (qs ++ [(t, m)]))) ∧ AtL (upd H3 D (.lst (rl qs ++ [.ref t]))) (qs ++ [(t, m)]) := by
  refine ⟨same_put k2 hD1, ?_, fun y hy => ?_⟩
  · rw [upd_same]
    unfold rl
    rw [List.map_append]
    rfl
  · have nD : ∀ {a : Addr} {xs : List V}, H3 a = some (.tup xs) → a ≠ D := fun h e => by rw [e, hD] at h; cases h
    rcases List.mem_append.mp hy with hy | hy
    · rw [upd_ne (nD (h2 y hy))]
      exact h2 y hy
    · rw [List.mem_singleton.mp hy, upd_ne (nD ht)]
      exact ht
theorem dp_lots {K : PySem.W.Frag} {H : Hp} : ∀ ks : List LA, AtL H ks → DpAll K H (rl ks) (ks.map fun k => dLot (lot k.2))
  | [], _ => .nil
  | k :: ks, h => by
    refine .cons (dp_tup (SqT.of ?_)) (dp_lots ks fun x hx => h x (List.mem_cons_of_mem _ hx))
    rw [← iv_zi]
    exact h k List.mem_cons_self
theorem sol_ne {nr : Nat → Nat} {f c : Nat} (h : Sol nr f 0 c) (hf : f ≠ 0) : c ≠ 0 := fun e => by
  subst e
  refine hf (zero_of fun p => ?_)
  cases y : f.testBit p with
  | false => rfl
  | true =>
    have := (h.free p y).mpr fun q _ => Nat.zero_testBit q
    rw [Nat.zero_testBit] at this
    cases this
theorem dep_lots : ∀ ks : List LA, PyData.depthAll (ks.map fun k => dLot (lot k.2)) ≤ 8
  | [] => by rw [List.map_nil, PyData.depthAll]; decide
  | k :: ks => by
    rw [List.map_cons, PyData.depthAll, dep_lot]
    exact Nat.max_le.mpr ⟨by decide, dep_lots ks⟩
section
variable {P : Program} {w : World} {K : PySem.W.Frag} {mg : Str → Option Value} {base : Heap}
def spLawRests (K : PySem.W.Frag) : Sp := fun vs H Q _ => ∃ (n : Nat) (tp : Addr) (ts : List (Nat × Nat)), vs = [.int (n : Int), .ref tp] ∧ 1 ≤ n ∧ n ≤ 8 ∧ TiesIn n ts ∧ TiesAt K H tp ts ∧
  ∀ (a : Addr) (ks : List LA) H', Same H H' → H a = none → H' a = some (.lst (rl ks)) → AtL H' ks → Lists (nr (nearOf n ts)) (2 ^ n - 1) (ks.map Prod.snd) → Q (.ref a) H'
theorem ok_law_rests (T : Txt K mg) : FnOk P w K mg base CX0 2 T.law_rests.f T.law_rests.fd ["_law_size_here", "_law_ties_here"] (spLawRests K) := by
  refine T.law_rests.F.ok sc_law_rests (fun vs H Q E h => ?_) (fun cdv A outer s H vs Q E hr h => ?_)
  · obtain ⟨n, tp, ts, rfl, _⟩ := h
    rfl
  · obtain ⟨n, tp, ts, rfl, h1, h8, hti, hta, q⟩ := h
    have nd := sc_law_rests.nd
    refine ⟨_, (pss_cons (ps_set (i := 2) nd rfl (Or.inr rfl) (pe_call (ok_law_near T) (hr.mono (by decide)) (by rfl) T.law_near.g T.law_near.F.kp T.law_near.b .nil pass0 (pa_cons (pv 0) (pa_cons (pv 1) pa_nil))))
      (pss_one (ps_ret (pe_callB (cr_sortD hr.units) (by rfl) T.b_sorted (by decide +kernel) (pa_cons (pe_lc (own := [("_law_bits", 3)]) rfl nd (pi_range1 (by rfl) T.b_range (pa_cons (pe_op op_bitN pe_int (pv 0)) pa_nil)) (blkOk_by (N := n_law_rests) (sc := defScope s_law_rests) (by decide +kernel)) (fun _ _ _ _ _ => (pg_name (i := 3) nd rfl (Or.inl rfl))) (fun _ _ _ _ _ => pts_one (pt_val (pe_call (ok_law_is_rest T) (hr.mono (by decide)) (by rfl) T.law_is_rest.g T.law_is_rest.F.kp T.law_is_rest.b .nil pass0 (pa_cons (pv 2) (pa_cons (pv 3) pa_nil))))) (fun _ _ _ _ _ => (pe_call (ok_law_lot T) (hr.mono (by decide)) (by rfl) T.law_lot.g T.law_lot.F.kp T.law_lot.b .nil pass0 (pa_cons (pv 3) (pa_cons (pv 0) pa_nil))))) pa_nil))))), ?_⟩
    refine ⟨_, rfl, _, rfl, n, tp, ts, rfl, h8, hti, hta, fun N H1 k1 nN hN => ?_⟩
    have p8 : 2 ^ n ≤ 256 := Nat.pow_le_pow_right (n := 2) (by decide) h8
    have e1 : 1 <<< n = 2 ^ n := Nat.one_shiftLeft n
    have G := good_near hti
    refine ⟨_, rfl, n, rfl, rfl, by omega, _, rfl, ?_⟩
    rw [e1]
    refine ⟨lo62 _, hi62 (by omega), ?_⟩
    rw [Int.toNat_natCast]
    refine fun D nD => lc_it walk_range (fun j H2 => ∃ qs : List LA, Same H1 H2 ∧ H2 D = some (.lst (rl qs)) ∧ AtL H2 qs ∧ qs.map Prod.snd = (List.range j).filter (restB n (nearOf n ts)))
      ⟨[], same_new nD, upd_same, fun k hk => (by cases hk), rfl⟩ (fun j H2 _ _ => trivial) ?_ ?_
    · rintro j z H2 H3 hj ⟨qs, k2, hD, h2, eq⟩ ⟨rfl, rfl⟩
      have ql : qs.length ≤ 256 := by
        have := congrArg List.length eq
        rw [List.length_map] at this
        rw [this]
        refine Nat.le_trans (List.length_filter_le _ _) ?_
        rw [List.length_range]
        omega
      refine ⟨rfl, _, rfl, _, rfl, N, n, j, nearOf n ts, ?_, k2 _ _ hN, nearOf_length n ts, h8, fun H4 k4 => ?_⟩
      · show [V.ref N, V.int (0 + (j : Int))] = _
        rw [Int.zero_add]
      refine ⟨_, rfl, ite2 (fun z => ?_) fun z => ?_⟩
      · refine ⟨_, rfl, _, rfl, n, j, ?_, h8, hj, fun t H5 k5 nt ht => ?_⟩
        · show [V.int (0 + (j : Int)), V.int (n : Int)] = _
          rw [Int.zero_add]
        have k35 := k4.trans k5
        obtain ⟨c1, c2, c3⟩ := put_lot (k2.trans k35) nD (k35 _ _ hD) (h2.same k35) ht
        refine ⟨_, k35 _ _ hD, by rw [rl_len]; exact lt_line (by omega), _, c1, c2, c3, ?_⟩
        rw [List.map_append, eq, range_snoc, if_pos z]
        rfl
      · refine ⟨qs, k2.trans k4, k4 _ _ hD, h2.same k4, ?_⟩
        rw [eq, range_snoc, if_neg z, List.append_nil]
    · rintro H2 ⟨qs, k2, hD, h2, eq⟩
      have sol : ∀ m, m ∈ qs.map Prod.snd ↔ Sol (nr (nearOf n ts)) (2 ^ n - 1) 0 m := fun m => by
        rw [eq, List.mem_filter, List.mem_range]
        constructor
        · exact fun h => (restB_iff h.1).mp h.2
        · intro h
          have := lt_of_sub (Nat.sub_lt (Nat.two_pow_pos n) (by decide)) h.sub
          exact ⟨this, (restB_iff this).mpr h⟩
      have ql : qs.length ≤ 256 := by
        have := congrArg List.length eq
        rw [List.length_map] at this
        rw [this]
        refine Nat.le_trans (List.length_filter_le _ _) ?_
        rw [List.length_range]
        omega
      have f0 : 2 ^ n - 1 ≠ 0 := by
        have : 2 ^ 1 ≤ 2 ^ n := Nat.pow_le_pow_right (by decide) h1
        omega
      refine ⟨D, rl qs, _, rfl, SqL.of hD, dp_lots qs h2, fun d hd d' hd' => ?_, .inl fun d hd => ?_, dep_lots qs, fun ys p hp np => ?_⟩
      · obtain ⟨k, _, rfl⟩ := List.mem_map.mp hd
        obtain ⟨k', _, rfl⟩ := List.mem_map.mp hd'
        exact alike_dI _ _
      · obtain ⟨k, hk, rfl⟩ := List.mem_map.mp hd
        have ne := sol_ne ((sol k.2).mp (List.mem_map.mpr ⟨k, hk, rfl⟩)) f0
        cases e : lot k.2 with
        | nil => exact absurd (lot_nil e) ne
        | cons x l => exact ⟨_, _, rfl⟩
      · obtain ⟨ks, hk, rfl⟩ := perm_lift (f := fun k : LA => V.ref k.1) hp
        have kp := nw (o := HO.lst (rl ks)) np
        have mm := hk.map Prod.snd
        refine q p ks _ ((k1.trans k2).trans kp) (k1.free (k2.free np)) upd_same (AtL.same kp fun x hx => h2 x (hk.mem_iff.mp hx)) ⟨?_, fun c => ?_, ?_⟩
        · rw [mm.nodup_iff, eq]
          exact List.Pairwise.filter _ List.nodup_range
        · rw [mm.mem_iff, sol]
        · rw [mm.length_eq, List.length_map]
          omega
def bl (g : Int) : List Nat → Option Nat
  | [] => none
  | c :: cs => some (bestOf g c cs)
theorem bl_snoc (g : Int) (y : Nat) : ∀ l : List Nat, bl g (l ++ [y]) = some (match bl g l with | none => y | some a => if ahead g (lot y) (lot a) = true then y else a)
  | [] => rfl
  | c :: cs => by
    show some (bestOf g c (cs ++ [y])) = _
    unfold bestOf
    rw [List.foldl_append]
    rfl
def bv : Option LA → V
  | none => .non
  | some k => .ref k.1
def spLawLeast : Sp := fun vs H Q _ => ∃ (a : Addr) (ks : List LA) (g : Int) (c : Nat) (cs : List Nat), vs = [.ref a, .int g] ∧ (g = 1 ∨ g = -1) ∧ H a = some (.lst (rl ks)) ∧ AtL H ks ∧ ks.map Prod.snd = c :: cs ∧
  ∀ (t : Addr) H', Same H H' → H' t = some (.tup (iv (lot (bestOf g c cs)))) → Q (.ref t) H'
theorem dp_key {K : PySem.W.Frag} {H : Hp} {t a : Addr} {g : Int} {m : Nat} (ht : H t = some (.tup [.int (g * ((lot m).length : Int)), .ref a])) (ha : H a = some (.tup (iv (lot m)))) : Dp K H (.ref t) (dKey g m) := by
  refine .tup (SqT.of ht) (.cons (.int _) (.cons (dp_tup (SqT.of ?_)) .nil))
  rw [← iv_zi]
  exact ha
theorem alike_key (g : Int) (a b : Nat) : PySem.W.alike (dKey g a) (dKey g b) = true := (alike_keys g [a, b]).1 _ List.mem_cons_self _ (List.mem_cons_of_mem _ List.mem_cons_self)
theorem ok_law_least (T : Txt K mg) : FnOk P w K mg base CX0 1 T.law_least.f T.law_least.fd ["_law_lots", "_law_sign"] spLawLeast := by
  refine T.law_least.F.ok sc_law_least (fun vs H Q E h => ?_) (fun cdv A outer s H vs Q E hr h => ?_)
  · obtain ⟨a, ks, g, c, cs, rfl, _⟩ := h
    rfl
  · obtain ⟨a, ks, g, c, cs, rfl, hg, ha, hk, ec, q⟩ := h
    have nd := sc_law_least.nd
    refine ⟨_, (pss_cons (ps_set (i := 2) nd rfl (Or.inl rfl) pe_non)
      (pss_cons (ps_for PassesOwn.never rfl (pi_list (pv 0)) (pg_name (i := 3) nd rfl (Or.inl rfl))
        (pss_one (ps_if (PW.pt (pw_or (pt_cmpR op_isN (pv 2) pe_non (nomark _)) (pw_or1 (pt_cmpR (op_ltD hr.units) (pe_tup (pa_cons (pe_op op_mul (pv 1) (pe_callB call_len_seq (by rfl) T.b_len PySem.boot_len (pa_cons (pv 3) pa_nil))) (pa_cons (pv 3) pa_nil))) (pe_tup (pa_cons (pe_op op_mul (pv 1) (pe_callB call_len_seq (by rfl) T.b_len PySem.boot_len (pa_cons (pv 2) pa_nil))) (pa_cons (pv 2) pa_nil))) (nomark _)))))
            (pss_one (ps_set (i := 2) nd rfl (Or.inl rfl) (pv 3)))
            pss_nil)))
      (pss_one (ps_ret (pv 2))))), ?_⟩
    refine ⟨_, rfl, a, rfl, ⟨_, SqL.of ha⟩, for_it (walk_list (xs := rl ks)) (fun i σ H2 => ∃ (b : Option LA) (x : Option V), σ = [some (.ref a), some (.int g), some (bv b), x] ∧ Same H H2 ∧ (∀ k, b = some k → k ∈ ks) ∧ b.map Prod.snd = bl g ((ks.map Prod.snd).take i))
      ⟨none, none, rfl, Same.refl _, fun k hk => (by cases hk), rfl⟩ (fun i σ H2 _ ⟨_, _, _, k, _⟩ => k.seq (SqL.of ha)) ?_ ?_⟩
    · rintro i z σ H2 H3 hi ⟨b, x, rfl, k2, hb, eb⟩ ⟨rfl, hz⟩
      obtain ⟨k, hki, rfl⟩ := rl_get hz
      have hkm := List.mem_of_getElem? hki
      have tk : bl g ((ks.map Prod.snd).take (i + 1)) = some (match b.map Prod.snd with | none => k.2 | some a => if ahead g (lot k.2) (lot a) = true then k.2 else a) := by
        rw [List.take_add_one, List.getElem?_map, hki, eb]
        exact bl_snoc g k.2 _
      have hk2 := k2 _ _ (hk k hkm)
      refine ⟨_, rfl, rfl, _, rfl, ?_⟩
      cases b with
      | none =>
        refine iteT ?_
        exact ⟨_, rfl, some k, _, rfl, k2, fun j hj => by rw [← Option.some.inj hj]; exact hkm, tk.symm⟩
      | some j =>
        have hj := hb j rfl
        have hj2 := k2 _ _ (hk j hj)
        refine iteF ?_
        refine ⟨_, rfl, _, rfl, k.1, _, rfl, .inr (SqT.of hk2), _, _, rfl, rfl, .inl ⟨by omega, by omega⟩, _, rfl, l2, fun t nt => ?_⟩
        have kt := nw (o := HO.tup [V.int (g * ((iv (lot k.2)).length : Int)), .ref k.1]) nt
        refine ⟨_, rfl, _, rfl, j.1, _, rfl, .inr (SqT.of (kt _ _ hj2)), _, _, rfl, rfl, .inl ⟨by omega, by omega⟩, _, rfl, l2, fun u nu => ?_⟩
        have ku := nw (o := HO.tup [V.int (g * ((iv (lot j.2)).length : Int)), .ref j.1]) nu
        have d1 : Dp K _ (.ref t) (dKey g k.2) := dp_key (by rw [← iv_length]; exact ku _ _ upd_same) (ku _ _ (kt _ _ hk2))
        have d2 : Dp K _ (.ref u) (dKey g j.2) := dp_key (by rw [← iv_length]; exact upd_same) (ku _ _ (kt _ _ hj2))
        refine ⟨_, _, d1, d2, alike_key _ _ _, (fun z => by cases z), (by rw [dep_key]; decide), _, rfl, ?_⟩
        rw [lt_key]
        have kk := (k2.trans kt).trans ku
        refine ite2 (fun z => ?_) fun z => ?_
        · refine ⟨_, rfl, some k, _, rfl, kk, fun j hj => by rw [← Option.some.inj hj]; exact hkm, ?_⟩
          rw [tk]
          show _ = some (if _ then _ else _)
          rw [if_pos z]
          rfl
        · refine ⟨some j, _, rfl, kk, hb, ?_⟩
          rw [tk]
          show _ = some (if _ then _ else _)
          rw [if_neg z]
          rfl
    · rintro σ H2 ⟨b, x, rfl, k2, hb, eb⟩
      rw [rl_len, ← List.length_map (f := Prod.snd) (as := ks), List.take_length, ec] at eb
      cases b with
      | none => cases eb
      | some j =>
        have e : j.2 = bestOf g c cs := Option.some.inj eb
        refine ⟨_, rfl, q j.1 H2 k2 ?_⟩
        rw [← e]
        exact k2 _ _ (hk j (hb j rfl))
end
end Sil
end

section
set_option Elab.async false
set_option maxRecDepth 100000
set_option maxHeartbeats 4000000
set_option linter.all false
namespace Sil
open PySem L2 Mi
theorem kit_int_str : kitB "int" "str" = some false := by decide +kernel
theorem kit_int_list : kitB "int" "list" = some false := by decide +kernel
theorem kit_int_tup : kitB "int" "tuple" = some false := by decide +kernel
theorem kit_tup_list : kitB "tuple" "list" = some false := by decide +kernel
theorem kit_dict : kitB "dict" "dict" = some true := by decide +kernel
theorem any_int {K : PySem.W.Frag} : PySem.W.kitAny K (.type "int") [.type "list", .type "tuple"] = some false :=
  kitAny_cons (kit_ty kit_int_list) (fun _ => kitAny_cons (kit_ty kit_int_tup) (fun _ => rfl) (fun z => by cases z)) (fun z => by cases z)
theorem any_tup {K : PySem.W.Frag} : PySem.W.kitAny K (.type "tuple") [.type "list", .type "tuple"] = some true :=
  kitAny_cons (kit_ty kit_tup_list) (fun _ => kitAny_cons (kit_ty kit_tup_tup) (fun z => by cases z) (fun _ => rfl)) (fun z => by cases z)
theorem walk_zipTT {K : PySem.W.Frag} {a b : Addr} {xs : List V} : Walk (RZ.ItzT K a b) xs.length (fun H => SqT K H a xs ∧ SqT K H b xs) (YPair (fun i => xs[i]?) (fun i => xs[i]?)) := by
  refine ⟨fun i _ hi q => ⟨xs, xs, xs[i], xs[i], q.1, q.2, by simp [hi], by simp [hi]⟩, fun _ q => ⟨xs, xs, q.1, q.2, .inl (Nat.le_refl _)⟩, fun i H v H' _ q y => ?_⟩
  obtain ⟨T, x, y, h1, h2, h3, h4, h5⟩ := y
  exact ⟨T, x, y, h1, h2, h3, h4 xs q.1, h5 xs q.2⟩
theorem rep_all (n : Nat) : (List.replicate n true).all id = true := by
  rw [List.all_eq_true]
  intro x hx
  rw [(List.mem_replicate.mp hx).2]
  rfl
theorem len_sub {α : Type} : ∀ {l m : List α}, l.Nodup → (∀ x ∈ l, x ∈ m) → l.length ≤ m.length
  | [], _, _, _ => Nat.zero_le _
  | a :: l, m, nd, h => by
    obtain ⟨m1, m2, rfl⟩ := List.append_of_mem (h a List.mem_cons_self)
    obtain ⟨na, nd⟩ := List.nodup_cons.mp nd
    have := len_sub (m := m1 ++ m2) nd fun x hx => by
      have := h x (List.mem_cons_of_mem _ hx)
      rcases List.mem_append.mp this with z | z
      · exact List.mem_append.mpr (.inl z)
      · rcases List.mem_cons.mp z with z | z
        · rw [z] at hx
          exact absurd hx na
        · exact List.mem_append.mpr (.inr z)
    rw [List.length_append] at this ⊢
    rw [List.length_cons, List.length_cons]
    omega
theorem DK.has {kvs : List (Key × V)} {g : Nat → Nat} (D : DK kvs g) {i : Nat} {k : Key} {v : V} (h : kvs[i]? = some (k, v)) : ∃ j : Nat, k = Sum.inl (j : Int) ∧ g j ≠ 0 := by
  have hm : (k, v) ∈ kvs := List.mem_of_getElem? h
  have hk : k ∈ kvs.map (·.1) := List.mem_map.mpr ⟨_, hm, rfl⟩
  obtain ⟨j, rfl⟩ := D.key k hk
  refine ⟨j, rfl, fun e => ?_⟩
  have := D.val j
  rw [if_pos e] at this
  have h2 := valV_any (Sum.inl (j : Int) : Key) kvs
  rw [this] at h2
  have h3 : (kvs.any fun kv => decide (kv.1 = (Sum.inl (j : Int) : Key))) = true := List.any_eq_true.mpr ⟨_, hm, decide_eq_true rfl⟩
  rw [h3] at h2
  cases h2
theorem DK.hit {kvs : List (Key × V)} {g : Nat → Nat} (D : DK kvs g) {j : Nat} (h : g j ≠ 0) : valV kvs (Sum.inl (j : Int) : Key) = some (.int ((g j : Nat) : Int)) := by
  rw [D.val, if_neg h]
theorem DK.sub {kvs kvs' : List (Key × V)} {g : Nat → Nat} (D : DK kvs g) (D' : DK kvs' g) : ∀ k ∈ kvs.map (·.1), k ∈ kvs'.map (·.1) := fun k hk => by
  obtain ⟨p, hp, rfl⟩ := List.mem_map.mp hk
  obtain ⟨i, hi⟩ := List.getElem?_of_mem hp
  obtain ⟨j, e, hj⟩ := D.has (k := p.1) (v := p.2) hi
  have h := D'.hit hj
  have h2 := valV_any (Sum.inl (j : Int) : Key) kvs'
  rw [h] at h2
  obtain ⟨q, hq, z⟩ := List.any_eq_true.mp h2
  rw [e]
  exact List.mem_map.mpr ⟨q, hq, of_decide_eq_true z⟩
theorem DK.len {kvs kvs' : List (Key × V)} {g : Nat → Nat} (D : DK kvs g) (D' : DK kvs' g) : kvs.length = kvs'.length := by
  have h1 : (kvs.map (·.1)).length ≤ (kvs'.map (·.1)).length := len_sub D.nd (D.sub D')
  have h2 : (kvs'.map (·.1)).length ≤ (kvs.map (·.1)).length := len_sub D'.nd (D'.sub D)
  rw [List.length_map, List.length_map] at h1 h2
  omega
section
variable {P : Program} {w : World} {K : PySem.W.Frag} {mg : Str → Option Value} {base : Heap}
def spSameInt : Sp := fun vs H Q _ => ∃ x : Int, vs = [.int x, .int x] ∧ ∀ H', Same H H' → Q (.bl true) H'
theorem ok_same_int (T : Txt K mg) : FnOk P w K mg base CX0 2 T.law_same.f T.law_same.fd ["_law_told", "_law_due"] spSameInt := by
  refine T.law_same.F.ok sc_law_same (fun vs H Q E h => ?_) (fun cdv A outer s H vs Q E hr h => ?_)
  · obtain ⟨x, rfl, _⟩ := h
    rfl
  · obtain ⟨x, rfl, q⟩ := h
    have nd := sc_law_same.nd
    have all0 : FnOk P w K mg base CX0 1 T.law_same.f T.law_same.fd ["_law_told", "_law_due"] (fun _ _ _ _ => False) := by
      refine T.law_same.F.ok sc_law_same (fun vs H Q E h => False.elim h) (fun cdv A outer s H vs Q E hr h => False.elim h)
    refine ⟨_, (pss_cons (ps_if (pt_val (pe_callB call_isiT (by rfl) T.b_isinstance (by decide +kernel) (pa_cons (pv 1) (pa_cons (pe_tup (pa_cons (pe_bltn (v := .ty "list") (by rfl) T.b_list (by decide +kernel) rfl) (pa_cons (pe_bltn (v := .ty "tuple") (by rfl) T.b_tuple (by decide +kernel) rfl) pa_nil))) pa_nil))))
        (pss_cons (ps_if (PW.pt (pw_or (pt_cmpR op_ne (pe_callB call_isi (by rfl) T.b_isinstance (by decide +kernel) (pa_cons (pv 0) (pa_cons (pe_bltn (v := .ty "list") (by rfl) T.b_list (by decide +kernel) rfl) pa_nil))) (pe_callB call_isi (by rfl) T.b_isinstance (by decide +kernel) (pa_cons (pv 1) (pa_cons (pe_bltn (v := .ty "list") (by rfl) T.b_list (by decide +kernel) rfl) pa_nil))) (nomark _)) (pw_or (pt_not (pt_val (pe_callB call_isiT (by rfl) T.b_isinstance (by decide +kernel) (pa_cons (pv 0) (pa_cons (pe_tup (pa_cons (pe_bltn (v := .ty "list") (by rfl) T.b_list (by decide +kernel) rfl) (pa_cons (pe_bltn (v := .ty "tuple") (by rfl) T.b_tuple (by decide +kernel) rfl) pa_nil))) pa_nil))))) (pw_or1 (pt_cmpR op_ne (pe_callB call_len_seq (by rfl) T.b_len PySem.boot_len (pa_cons (pv 0) pa_nil)) (pe_callB call_len_seq (by rfl) T.b_len PySem.boot_len (pa_cons (pv 1) pa_nil)) (nomark _))))))
            (pss_one (ps_ret pe_bl))
            pss_nil)
          (pss_one (ps_ret (pe_callB (cr_all rfl) (by rfl) T.b_all (by decide +kernel) (pa_cons (pe_lc (own := [("_law_one", 2), ("_law_other", 3)]) rfl nd (RZ.pi_zipA (by rfl) T.b_zip (pa_cons (pv 0) (pa_cons (pv 1) pa_nil))) (blkOk_by (N := n_law_same) (sc := defScope s_law_same) (by decide +kernel)) (fun _ _ _ _ _ => (tup_K (K := K) (n := 2) rfl (by rfl) (pgs_cons (pg_name (i := 2) nd rfl (Or.inl rfl)) (pgs_cons (pg_name (i := 3) nd rfl (Or.inl rfl)) pgs_nil)))) (fun _ _ _ _ _ => pts_nil) (fun _ _ _ _ _ => (pe_call (all0) (hr.mono (by decide)) (by rfl) T.law_same.g T.law_same.F.kp T.law_same.b .nil pass0 (pa_cons (pv 2) (pa_cons (pv 3) pa_nil))))) pa_nil)))))
        pss_nil)
      (pss_cons (ps_if (pt_cmpR op_isN (pv 1) pe_non (nomark _))
        (pss_one (ps_ret (pe_cmpR op_isN (pv 0) pe_non (nomark _))))
        pss_nil)
      (pss_cons (ps_if (pt_val (pe_callB call_isi (by rfl) T.b_isinstance (by decide +kernel) (pa_cons (pv 1) (pa_cons (pe_bltn (v := .ty "bool") (by rfl) T.b_bool (by decide +kernel) rfl) pa_nil))))
        (pss_one (ps_ret (pe_and (pe_callB call_isi (by rfl) T.b_isinstance (by decide +kernel) (pa_cons (pv 0) (pa_cons (pe_bltn (v := .ty "bool") (by rfl) T.b_bool (by decide +kernel) rfl) pa_nil))) (pe_one (pe_cmpR op_eq (pv 0) (pv 1) (nomark _))))))
        pss_nil)
      (pss_cons (ps_if (pt_val (pe_callB call_isi (by rfl) T.b_isinstance (by decide +kernel) (pa_cons (pv 1) (pa_cons (pe_bltn (v := .ty "str") (by rfl) T.b_str (by decide +kernel) rfl) pa_nil))))
        (pss_one (ps_ret (pe_and (pe_callB call_isi (by rfl) T.b_isinstance (by decide +kernel) (pa_cons (pv 0) (pa_cons (pe_bltn (v := .ty "str") (by rfl) T.b_str (by decide +kernel) rfl) pa_nil))) (pe_one (pe_cmpR op_eq (pv 0) (pv 1) (nomark _))))))
        pss_nil)
      (pss_one (ps_ret (pe_and (pe_call (ok_law_is_integer T) (hr.mono (by decide)) (by rfl) T.law_is_integer.g T.law_is_integer.F.kp T.law_is_integer.b .nil pass0 (pa_cons (pv 0) pa_nil)) (pe_one (pe_cmpR op_eq (pv 0) (pv 1) (nomark _)))))))))), ?_⟩
    refine ⟨_, rfl, l2, fun tp ntp => ?_⟩
    have k1 := nw (o := HO.tup [V.ty "list", V.ty "tuple"]) ntp
    refine ⟨.int x, tp, _, .type "int", _, false, rfl, upd_same, .cons (.ty _) (.cons (.ty _) .nil), .base (.int x), any_int, false, rfl, iteF ?_⟩
    refine ⟨_, rfl, rfl, _, rfl, iteF ?_⟩
    refine ⟨_, rfl, .int x, .ty "bool", .type "int", .type "bool", false, rfl, .ty _, .base (.int x), kit_ty kit_int_bool, false, rfl, iteF ?_⟩
    refine ⟨_, rfl, .int x, .ty "str", .type "int", .type "str", false, rfl, .ty _, .base (.int x), kit_ty kit_int_str, false, rfl, iteF ?_⟩
    refine ⟨_, rfl, x, rfl, true, rfl, iteT ?_⟩
    refine ⟨_, rfl, _, rfl, rfl, ?_⟩
    rw [decide_eq_true rfl]
    exact q _ k1
def spSameTup (K : PySem.W.Frag) : Sp := fun vs H Q _ => ∃ (a b : Addr) (l : List Nat), vs = [.ref a, .ref b] ∧ SqT K H a (iv l) ∧ SqT K H b (iv l) ∧ l.length ≤ 24 ∧ ∀ H', Same H H' → Q (.bl true) H'
theorem ok_same_tup (T : Txt K mg) : FnOk P w K mg base CX0 3 T.law_same.f T.law_same.fd ["_law_told", "_law_due"] (spSameTup K) := by
  refine T.law_same.F.ok sc_law_same (fun vs H Q E h => ?_) (fun cdv A outer s H vs Q E hr h => ?_)
  · obtain ⟨a, b, l, rfl, _⟩ := h
    rfl
  · obtain ⟨a, b, l, rfl, ha, hb, hl, q⟩ := h
    have nd := sc_law_same.nd
    refine ⟨_, (pss_cons (ps_if (pt_val (pe_callB call_isiT (by rfl) T.b_isinstance (by decide +kernel) (pa_cons (pv 1) (pa_cons (pe_tup (pa_cons (pe_bltn (v := .ty "list") (by rfl) T.b_list (by decide +kernel) rfl) (pa_cons (pe_bltn (v := .ty "tuple") (by rfl) T.b_tuple (by decide +kernel) rfl) pa_nil))) pa_nil))))
        (pss_cons (ps_if (PW.pt (pw_or (pt_cmpR op_ne (pe_callB call_isi (by rfl) T.b_isinstance (by decide +kernel) (pa_cons (pv 0) (pa_cons (pe_bltn (v := .ty "list") (by rfl) T.b_list (by decide +kernel) rfl) pa_nil))) (pe_callB call_isi (by rfl) T.b_isinstance (by decide +kernel) (pa_cons (pv 1) (pa_cons (pe_bltn (v := .ty "list") (by rfl) T.b_list (by decide +kernel) rfl) pa_nil))) (nomark _)) (pw_or (pt_not (pt_val (pe_callB call_isiT (by rfl) T.b_isinstance (by decide +kernel) (pa_cons (pv 0) (pa_cons (pe_tup (pa_cons (pe_bltn (v := .ty "list") (by rfl) T.b_list (by decide +kernel) rfl) (pa_cons (pe_bltn (v := .ty "tuple") (by rfl) T.b_tuple (by decide +kernel) rfl) pa_nil))) pa_nil))))) (pw_or1 (pt_cmpR op_ne (pe_callB call_len_seq (by rfl) T.b_len PySem.boot_len (pa_cons (pv 0) pa_nil)) (pe_callB call_len_seq (by rfl) T.b_len PySem.boot_len (pa_cons (pv 1) pa_nil)) (nomark _))))))
            (pss_one (ps_ret pe_bl))
            pss_nil)
          (pss_one (ps_ret (pe_callB (cr_all rfl) (by rfl) T.b_all (by decide +kernel) (pa_cons (pe_lc (own := [("_law_one", 2), ("_law_other", 3)]) rfl nd (RZ.pi_zipA (by rfl) T.b_zip (pa_cons (pv 0) (pa_cons (pv 1) pa_nil))) (blkOk_by (N := n_law_same) (sc := defScope s_law_same) (by decide +kernel)) (fun _ _ _ _ _ => (tup_K (K := K) (n := 2) rfl (by rfl) (pgs_cons (pg_name (i := 2) nd rfl (Or.inl rfl)) (pgs_cons (pg_name (i := 3) nd rfl (Or.inl rfl)) pgs_nil)))) (fun _ _ _ _ _ => pts_nil) (fun _ _ _ _ _ => (pe_call (ok_same_int T) (hr.mono (by decide)) (by rfl) T.law_same.g T.law_same.F.kp T.law_same.b .nil pass0 (pa_cons (pv 2) (pa_cons (pv 3) pa_nil))))) pa_nil)))))
        pss_nil)
      (pss_cons (ps_if (pt_cmpR op_isN (pv 1) pe_non (nomark _))
        (pss_one (ps_ret (pe_cmpR op_isN (pv 0) pe_non (nomark _))))
        pss_nil)
      (pss_cons (ps_if (pt_val (pe_callB call_isi (by rfl) T.b_isinstance (by decide +kernel) (pa_cons (pv 1) (pa_cons (pe_bltn (v := .ty "bool") (by rfl) T.b_bool (by decide +kernel) rfl) pa_nil))))
        (pss_one (ps_ret (pe_and (pe_callB call_isi (by rfl) T.b_isinstance (by decide +kernel) (pa_cons (pv 0) (pa_cons (pe_bltn (v := .ty "bool") (by rfl) T.b_bool (by decide +kernel) rfl) pa_nil))) (pe_one (pe_cmpR op_eq (pv 0) (pv 1) (nomark _))))))
        pss_nil)
      (pss_cons (ps_if (pt_val (pe_callB call_isi (by rfl) T.b_isinstance (by decide +kernel) (pa_cons (pv 1) (pa_cons (pe_bltn (v := .ty "str") (by rfl) T.b_str (by decide +kernel) rfl) pa_nil))))
        (pss_one (ps_ret (pe_and (pe_callB call_isi (by rfl) T.b_isinstance (by decide +kernel) (pa_cons (pv 0) (pa_cons (pe_bltn (v := .ty "str") (by rfl) T.b_str (by decide +kernel) rfl) pa_nil))) (pe_one (pe_cmpR op_eq (pv 0) (pv 1) (nomark _))))))
        pss_nil)
      (pss_one (ps_ret (pe_and (pe_call (ok_law_is_integer T) (hr.mono (by decide)) (by rfl) T.law_is_integer.g T.law_is_integer.F.kp T.law_is_integer.b .nil pass0 (pa_cons (pv 0) pa_nil)) (pe_one (pe_cmpR op_eq (pv 0) (pv 1) (nomark _)))))))))), ?_⟩
    refine ⟨_, rfl, l2, fun tp ntp => ?_⟩
    have k1 := nw (o := HO.tup [V.ty "list", V.ty "tuple"]) ntp
    refine ⟨.ref b, tp, _, .type "tuple", _, true, rfl, upd_same, .cons (.ty _) (.cons (.ty _) .nil), tyx_tup (k1.tup hb), any_tup, true, rfl, iteT ?_⟩
    refine ⟨_, rfl, .ref a, .ty "list", .type "tuple", .type "list", false, rfl, .ty _, tyx_tup (k1.tup ha), kit_ty kit_tup_list, _, rfl, .ref b, .ty "list", .type "tuple", .type "list", false, rfl, .ty _, tyx_tup (k1.tup hb), kit_ty kit_tup_list, rfl, _, rfl, iteF ?_⟩
    refine ⟨_, rfl, l2, fun tp2 ntp2 => ?_⟩
    have k2 := k1.trans (nw (o := HO.tup [V.ty "list", V.ty "tuple"]) ntp2)
    refine ⟨.ref a, tp2, _, .type "tuple", _, true, rfl, upd_same, .cons (.ty _) (.cons (.ty _) .nil), tyx_tup (k2.tup ha), any_tup, true, rfl, iteF ?_⟩
    refine ⟨_, rfl, a, _, rfl, .inr (k2.tup ha), _, rfl, b, _, rfl, .inr (k2.tup hb), rfl, _, rfl, ite2 (fun z => ?_) fun _ => ?_⟩
    · rw [decide_eq_true rfl] at z
      cases z
    refine ⟨_, rfl, _, rfl, a, b, iv l, iv l, rfl, .inr ⟨k2.tup ha, k2.tup hb, fun D nD => lc_it (walk_zipTT (xs := iv l)) (fun j H2 => Same H H2 ∧ H2 D = some (.lst ((List.replicate j true).map V.bl)))
      ⟨k2.trans (same_new nD), upd_same⟩ (fun j H2 _ ⟨k, _⟩ => ⟨k.tup ha, k.tup hb⟩) ?_ ?_⟩⟩
    · rintro j z H2 H3 hj ⟨k2', hD⟩ ⟨t, x, y, rfl, nt, rfl, hx, hy⟩
      have hy : (iv l)[j]? = some y := hy
      have hx : (iv l)[j]? = some x := hx
      obtain ⟨c, hc, rfl⟩ := iv_get hx
      rw [hx] at hy
      cases hy
      have kt := nw (o := HO.tup [V.int (c : Int), V.int (c : Int)]) nt
      rw [iv_length] at hj
      refine ⟨t, _, rfl, SqT.of upd_same, rfl, _, _, rfl, _, _, rfl, rfl, ?_⟩
      refine ⟨rfl, yesT ?_⟩
      refine ⟨_, rfl, _, rfl, (c : Int), rfl, fun H6 k6 => ?_⟩
      have tD : t ≠ D := fun e => by rw [e, hD] at nt; cases nt
      have k7 := kt.trans k6
      refine ⟨_, k7 _ _ hD, ?_, same_put (k2'.trans k7) (k2.free nD), ?_⟩
      · rw [List.length_map, List.length_replicate]
        exact lt_line (by omega)
      · rw [upd_same, List.replicate_succ', List.map_append]
        rfl
    · rintro H2 ⟨k3, hD⟩
      refine ⟨D, _, rfl, SqL.of hD, ?_⟩
      rw [rep_all]
      exact q H2 k3
def spSameDict : Sp := fun vs H Q _ => ∃ (a b : Addr) (kvs kvs' : List (Key × V)) (g : Nat → Nat), vs = [.ref a, .ref b] ∧ a ≠ b ∧ H a = some (.dK kvs) ∧ H b = some (.dK kvs') ∧ DK kvs g ∧ DK kvs' g ∧ kvs'.length ≤ 1000 ∧ ∀ H', Same H H' → Q (.bl true) H'
theorem ok_same_dict (T : Txt K mg) : FnOk P w K mg base CX0 4 T.law_same_dict.f T.law_same_dict.fd ["_law_told", "_law_due"] spSameDict := by
  refine T.law_same_dict.F.ok sc_law_same_dict (fun vs H Q E h => ?_) (fun cdv A outer s H vs Q E hr h => ?_)
  · obtain ⟨a, b, kvs, kvs', g, rfl, _⟩ := h
    rfl
  · obtain ⟨a, b, kvs, kvs', g, rfl, ab, ha, hb, D1, D2, few, q⟩ := h
    have nd := sc_law_same_dict.nd
    have hu := hu_of hr
    refine ⟨_, (pss_cons (ps_if (PW.pt (pw_or (pt_not (pt_val (pe_callB call_isi (by rfl) T.b_isinstance (by decide +kernel) (pa_cons (pv 0) (pa_cons (pe_bltn (v := .ty "dict") (by rfl) T.b_dict (by decide +kernel) rfl) pa_nil))))) (pw_or1 (pt_cmpR op_ne (pe_callB call_lenD (by rfl) T.b_len PySem.boot_len (pa_cons (pv 0) pa_nil)) (pe_callB call_lenD (by rfl) T.b_len PySem.boot_len (pa_cons (pv 1) pa_nil)) (nomark _)))))
        (pss_one (ps_ret pe_bl))
        pss_nil)
      (pss_one (ps_ret (pe_lock (pe_callB (cr_all rfl) (by rfl) T.b_all (by decide +kernel) (pa_cons (pe_lc (own := [("_law_key", 2)]) rfl nd (pi_keys (pv 1)) (blkOk_by (N := n_law_same_dict) (sc := defScope s_law_same_dict) (by decide +kernel)) (fun _ _ _ _ _ => (pg_name (i := 2) nd rfl (Or.inl rfl))) (fun _ _ _ _ _ => pts_nil) (fun _ _ _ _ _ => (pe_and (pe_cmp (pc_din hu (pv 2) (pv 0))) (pe_one (pe_call (ok_same_int T) (hr.mono (by decide)) (by rfl) T.law_same.g T.law_same.F.kp T.law_same.b .nil pass0 (pa_cons (pe_dget hu (pv 0) (pv 2) (fun _ _ => rfl)) (pa_cons (pe_dget hu (pv 1) (pv 2) (fun _ _ => rfl)) pa_nil))))))) pa_nil)))))), ?_⟩
    refine ⟨_, rfl, .ref a, .ty "dict", .type "dict", .type "dict", true, rfl, .ty _, .base (.dK ha), kit_ty kit_dict, true, rfl, iteF ?_⟩
    refine ⟨_, rfl, a, kvs, rfl, ha, _, rfl, b, kvs', rfl, hb, rfl, _, rfl, ite2 (fun z => ?_) fun _ => ?_⟩
    · rw [D1.len D2, decide_eq_true rfl] at z
      cases z
    refine ⟨b, _, hb, trivial, fun od => ?_⟩
    have ha0 : upd H b (.frz od (.dK kvs')) a = some (.dK kvs) := by rw [upd_ne ab]; exact ha
    refine ⟨_, rfl, b, od, rfl, .inl ⟨kvs', upd_same, fun D nD => lc_it walk_keys (fun j H2 => Same (upd H b (.frz od (.dK kvs'))) H2 ∧ H2 D = some (.lst ((List.replicate j true).map V.bl)))
      ⟨same_new nD, upd_same⟩ (fun j H2 _ ⟨k, _⟩ => k _ _ upd_same) ?_ ?_⟩⟩
    · rintro j z H2 H3 hj ⟨k2, hD⟩ ⟨rfl, k, v, hkv, rfl⟩
      obtain ⟨i, rfl, hi⟩ := D2.has hkv
      have g1 : DGet H3 a (.int (i : Int)) (some (.int ((g i : Nat) : Int))) := D1.hit hi ▸ DGet.k (k := Sum.inl ((i : Nat) : Int)) (k2 _ _ ha0)
      have g2 : DGet H3 b (.int (i : Int)) (some (.int ((g i : Nat) : Int))) := D2.hit hi ▸ .inl ⟨kvs', Sum.inl ((i : Nat) : Int), .inr ⟨od, k2 _ _ upd_same⟩, rfl, rfl⟩
      refine ⟨rfl, yesT ?_⟩
      refine ⟨_, rfl, _, rfl, a, _, rfl, g1, true, rfl, iteT ?_⟩
      refine ⟨_, rfl, _, rfl, a, _, rfl, g1, _, rfl, _, rfl, b, _, rfl, g2, ((g i : Nat) : Int), rfl, fun H6 k6 => ?_⟩
      refine ⟨_, k6 _ _ hD, ?_, same_put (k2.trans k6) nD, ?_⟩
      · rw [List.length_map, List.length_replicate]
        exact lt_line (by omega)
      · rw [upd_same, List.replicate_succ', List.map_append]
        rfl
    · rintro H2 ⟨k3, hD⟩
      refine ⟨D, _, rfl, SqL.of hD, k3 _ _ upd_same, ?_⟩
      rw [rep_all]
      refine q _ fun c o e => ?_
      by_cases z : c = b
      · rw [z, upd_same]
        rw [z, hb] at e
        exact e
      · rw [upd_ne z]
        exact k3 _ _ (by rw [upd_ne z]; exact e)
end
end Sil
end

section
set_option Elab.async false
set_option maxRecDepth 100000
set_option maxHeartbeats 4000000
set_option linter.all false
namespace Sil
open PySem L2 Mi
/-! ### the groups of the law -/
theorem cut_to (l : List Nat) (k : Nat) : cutV (iv l) none (some (k : Int)) = iv (l.take k) := by
  unfold cutV iv
  rw [HT.sIx_none, HT.sIx_nat, List.drop_zero, Nat.sub_zero, List.map_take, List.take_eq_take_iff]
  rw [List.length_map]
  omega
theorem cut_one (l : List Nat) : cutV (iv l) (some 1) none = iv (l.drop 1) := by
  unfold cutV iv
  have : HT.sIx (l.map fun (i : Nat) => V.int (i : Int)).length 0 (some 1) = min 1 (l.map fun (i : Nat) => V.int (i : Int)).length := HT.sIx_nat _ 0 1
  rw [HT.sIx_none, this, List.map_drop, List.length_map]
  cases l with
  | nil => rfl
  | cons x l =>
    rw [List.length_cons, show min 1 (l.length + 1) = 1 by omega]
    refine List.take_of_length_le ?_
    rw [List.length_drop, List.length_map, List.length_cons]
    omega
theorem rg_nat (s k : Nat) : rgV (s : Int) ((s : Int) + (k : Int)) = iv (List.range' s k) := by
  unfold rgV iv
  rw [show ((s : Int) + (k : Int) - (s : Int)).toNat = k by omega, List.range'_eq_map_range, List.map_map]
  exact List.map_congr_left fun i _ => by
    show V.int _ = V.int _
    congr 1
def cOf (g : Gp) (a : Nat) : Nat := if g.2.2 = true then 1 else a
def pqp (σ : List Nat) (t : Nat × Nat) : Nat × Nat := pq σ t.1 t.2
def rowT (σ : List Nat) (g : Gp) (a : Nat) : List (Nat × Nat) := (List.range (cOf g a)).map fun b => pq σ (g.1 + a) (g.1 + b)
theorem idxG_row (σ : List Nat) (g : Gp) : (idxG g).map (pqp σ) = (List.range' 1 (g.2.1 - 1)).flatMap (rowT σ g) := by
  unfold idxG
  rw [List.map_flatMap]
  congr 1
  funext a
  rw [List.map_map]
  unfold rowT cOf
  by_cases z : g.2.2 = true
  · rw [if_pos z, if_pos z]
    rfl
  · rw [if_neg z, if_neg z]
    rfl
theorem cont_snoc : ∀ {gs : List Gp} {s n k : Nat} {st : Bool}, Cont s gs n → 2 ≤ k → k ≤ 4 → (st = true → 3 ≤ k) → Cont s (gs ++ [(n, k, st)]) (n + k)
  | [], s, n, k, st, h, h1, h2, h3 => by
    have h : s = n := h
    subst h
    exact ⟨rfl, h1, h2, h3, rfl⟩
  | g :: gs, s, n, k, st, h, h1, h2, h3 => ⟨h.1, h.2.1, h.2.2.1, h.2.2.2.1, cont_snoc h.2.2.2.2 h1 h2 h3⟩
theorem cont_mem : ∀ {gs : List Gp} {s n : Nat}, Cont s gs n → ∀ g ∈ gs, 2 ≤ g.2.1 ∧ g.2.1 ≤ 4 ∧ (g.2.2 = true → 3 ≤ g.2.1) ∧ g.1 + g.2.1 ≤ n
  | [], _, _, _, g, h => by cases h
  | g :: gs, s, n, h, g', hg => by
    have b := (idx_in h.2.2.2.2).1
    have e := h.1
    rcases List.mem_cons.mp hg with rfl | hg
    · exact ⟨h.2.1, h.2.2.1, h.2.2.2.1, by omega⟩
    · exact cont_mem h.2.2.2.2 g' hg
theorem idxG_nodup (g : Gp) : (idxG g).Nodup := by
  unfold idxG
  refine List.pairwise_flatMap.mpr ⟨fun a ha => List.pairwise_map.mpr ?_, ?_⟩
  · have : (if g.2.2 = true then [0] else List.range a).Nodup := by
      split
      · exact List.nodup_cons.mpr ⟨List.not_mem_nil, List.nodup_nil⟩
      · exact List.nodup_range
    refine this.imp fun {x y} h e => h ?_
    injection e with _ e
    omega
  · refine (List.nodup_range' (s := 1) (n := g.2.1 - 1)).imp fun {a b} h x hx y hy e => h ?_
    obtain ⟨c, _, rfl⟩ := List.mem_map.mp hx
    obtain ⟨d, _, rfl⟩ := List.mem_map.mp hy
    injection e with e _
    omega
theorem idx_nodup : ∀ {gs : List Gp} {s n : Nat}, Cont s gs n → (idx gs).Nodup
  | [], _, _, _ => List.nodup_nil
  | g :: gs, s, n, h => by
    unfold idx
    rw [List.flatMap_cons]
    refine List.nodup_append.mpr ⟨idxG_nodup g, idx_nodup h.2.2.2.2, fun a ha b hb e => ?_⟩
    subst e
    have h1 := mem_idxG.mp (show (a.1, a.2) ∈ idxG g from ha)
    have h2 := (idx_in h.2.2.2.2).2 a.1 a.2 hb
    have := h.1
    omega
theorem idxG_len {g : Gp} (h1 : 2 ≤ g.2.1) (h2 : g.2.1 ≤ 4) : 2 * (idxG g).length ≤ 3 * g.2.1 := by
  obtain ⟨s, k, st⟩ := g
  have h1 : 2 ≤ k := h1
  have h2 : k ≤ 4 := h2
  have : k = 2 ∨ k = 3 ∨ k = 4 := by omega
  rcases this with rfl | rfl | rfl <;> cases st
  · exact (by decide : 2 * 1 ≤ 3 * 2)
  · exact (by decide : 2 * 1 ≤ 3 * 2)
  · exact (by decide : 2 * 3 ≤ 3 * 3)
  · exact (by decide : 2 * 2 ≤ 3 * 3)
  · exact (by decide : 2 * 6 ≤ 3 * 4)
  · exact (by decide : 2 * 3 ≤ 3 * 4)
theorem idx_len : ∀ {gs : List Gp} {s n : Nat}, Cont s gs n → 2 * (idx gs).length + 3 * s ≤ 3 * n
  | [], s, n, h => by
    have h : s = n := h
    subst h
    show 2 * 0 + _ ≤ _
    omega
  | g :: gs, s, n, h => by
    have h2 := idx_len h.2.2.2.2
    have h3 := idxG_len h.2.1 h.2.2.1
    unfold idx at h2 ⊢
    rw [List.flatMap_cons, List.length_append]
    omega
theorem map_nodup {α β : Type} {f : α → β} : ∀ {l : List α}, l.Nodup → (∀ x ∈ l, ∀ y ∈ l, f x = f y → x = y) → (l.map f).Nodup := fun {l} h hf =>
  List.pairwise_map.mpr (h.imp_of_mem fun {x y} hx hy ne e => ne (hf x hx y hy e))
structure GT (gs : List Gp) (n : Nat) (σ : List Nat) (ts : List (Nat × Nat)) : Prop where
  ti : TiesIn n ts
  nd : ts.Nodup
  len : ts.length ≤ 36
theorem gt_of {gs : List Gp} {n : Nat} {σ : List Nat} (h : Cont 0 gs n) (hn : n ≤ 24) (hσ : σ.Perm (List.range n)) : GT gs n σ ((idx gs).map (pqp σ)) := by
  have inn := (idx_in h).2
  refine ⟨fun t ht => ?_, map_nodup (idx_nodup h) fun x hx y hy e => ?_, ?_⟩
  · obtain ⟨x, hx, rfl⟩ := List.mem_map.mp ht
    have := inn x.1 x.2 hx
    exact pq_in hσ this.2.1 this.2.2
  · have h1 := inn x.1 x.2 hx
    have h2 := inn y.1 y.2 hy
    obtain ⟨e1, e2⟩ := pq_inj hσ h1.2.1 h1.2.2 h2.2.1 h2.2.2 e
    exact Prod.ext e1 e2
  · rw [List.length_map]
    have := idx_len h
    omega
theorem pq_eq {σ : List Nat} {a b : Nat} : pq σ a b = (σ.getD a 0, σ.getD b 0) ∨ pq σ a b = (σ.getD b 0, σ.getD a 0) := by
  unfold pq
  split
  · exact .inr rfl
  · exact .inl rfl
theorem gt_near {gs : List Gp} {n : Nat} {σ : List Nat} {ts : List (Nat × Nat)} (h : Cont 0 gs n) (hσ : σ.Perm (List.range n)) (ht : TiesIn n ts) (hm : ∀ t, t ∈ ts ↔ t ∈ (idx gs).map (pqp σ)) :
    ∀ a b, a < n → b < n → ((nr (nearOf n ts) (σ.getD a 0)).testBit (σ.getD b 0) = true ↔ (a, b) ∈ idx gs ∨ (b, a) ∈ idx gs) := fun a b ha hb => by
  have inn := (idx_in h).2
  rw [near_iff ht, hm, hm]
  have one : ∀ a b, a < n → b < n → (σ.getD a 0, σ.getD b 0) ∈ (idx gs).map (pqp σ) → (a, b) ∈ idx gs ∨ (b, a) ∈ idx gs := fun a b ha hb hx => by
    obtain ⟨⟨c, d⟩, hcd, e⟩ := List.mem_map.mp hx
    have b1 := inn c d hcd
    have e : pq σ c d = (σ.getD a 0, σ.getD b 0) := e
    rcases pq_eq (σ := σ) (a := c) (b := d) with z | z
    · rw [z] at e
      injection e with e1 e2
      rw [pinj hσ (by omega) ha e1, pinj hσ (by omega) hb e2] at hcd
      exact .inl hcd
    · rw [z] at e
      injection e with e1 e2
      rw [pinj hσ (by omega) ha e1, pinj hσ (by omega) hb e2] at hcd
      exact .inr hcd
  have two : ∀ a b, (a, b) ∈ idx gs → (σ.getD a 0, σ.getD b 0) ∈ (idx gs).map (pqp σ) ∨ (σ.getD b 0, σ.getD a 0) ∈ (idx gs).map (pqp σ) := fun a b hab => by
    rcases pq_eq (σ := σ) (a := a) (b := b) with z | z
    · exact .inl (List.mem_map.mpr ⟨_, hab, z⟩)
    · exact .inr (List.mem_map.mpr ⟨_, hab, z⟩)
  constructor
  · rintro (z | z)
    · exact one a b ha hb z
    · exact (one b a hb ha z).symm
  · rintro (z | z)
    · exact two a b z
    · exact (two b a z).symm
/-- lots of groups: put in order, they are the best -/
theorem lot_perm {F l : List Nat} (nd : F.Nodup) (hp : l.Perm F) (pw : (zi l).Pairwise (· ≤ ·)) : lot (mk F) = l := by
  refine lot_of_asc ?_ fun i => ?_
  · have h1 : l.Pairwise (· ≠ ·) := hp.nodup_iff.mpr nd
    have h2 := List.pairwise_map.mp pw
    exact (h2.and h1).imp fun {x y} h => by
      have := h.1
      have := h.2
      omega
  · rw [tb_mk, decide_eq_true_iff, hp.mem_iff]
theorem many_at : ∀ d : Nat, d < 6 → ∃ k : Nat, 2 ≤ k ∧ k ≤ 4 ∧ atI [V.int 3, V.int 3, V.int 3, V.int 2, V.int 3, V.int 4] (d : Int) = some (.int (k : Int)) := by
  intro d hd
  have : d = 0 ∨ d = 1 ∨ d = 2 ∨ d = 3 ∨ d = 4 ∨ d = 5 := by omega
  rcases this with rfl | rfl | rfl | rfl | rfl | rfl
  · exact ⟨3, by decide, by decide, rfl⟩
  · exact ⟨3, by decide, by decide, rfl⟩
  · exact ⟨3, by decide, by decide, rfl⟩
  · exact ⟨2, by decide, by decide, rfl⟩
  · exact ⟨3, by decide, by decide, rfl⟩
  · exact ⟨4, by decide, by decide, rfl⟩
theorem pts_len {σ : List Nat} {n : Nat} {g : Gp} (hσ : σ.Perm (List.range n)) (h : g.1 + g.2.1 ≤ n) : (pts σ g).length = g.2.1 := by
  unfold pts
  rw [List.length_take, List.length_drop, hσ.length_eq, List.length_range]
  omega
theorem pts_get {σ : List Nat} {n : Nat} {g : Gp} {j : Nat} (hσ : σ.Perm (List.range n)) (h : g.1 + g.2.1 ≤ n) (hj : j < g.2.1) : (pts σ g)[j]? = some (σ.getD (g.1 + j) 0) := by
  unfold pts
  have : g.1 + j < σ.length := by
    rw [hσ.length_eq, List.length_range]
    omega
  rw [List.getElem?_take_of_lt hj, List.getElem?_drop, List.getElem?_eq_getElem this, List.getD_eq_getElem?_getD, List.getElem?_eq_getElem this]
  rfl
/-- a group of the law as it stands -/
structure GA where
  t : Addr
  l : Addr
  g : Gp
def rg (gl : List GA) : List V := gl.map fun x => V.ref x.t
def GpAt (H : Hp) (gl : List GA) : Prop := ∀ x ∈ gl, H x.t = some (.tup [.ref x.l, .bl x.g.2.2]) ∧ H x.l = some (.lst (iv (List.range' x.g.1 x.g.2.1)))
theorem GpAt.same {H H' : Hp} {gl : List GA} (k : Same H H') (h : GpAt H gl) : GpAt H' gl := fun x hx => ⟨k _ _ (h x hx).1, k _ _ (h x hx).2⟩
theorem rg_get {gl : List GA} {j : Nat} {x : V} (h : (rg gl)[j]? = some x) : ∃ k, gl[j]? = some k ∧ x = .ref k.t := by
  unfold rg at h
  rw [List.getElem?_map] at h
  cases e : gl[j]? with
  | none => rw [e] at h; cases h
  | some k => rw [e] at h; exact ⟨k, rfl, (Option.some.inj h).symm⟩
/-- the lists that the groups fill -/
structure Fill (K : PySem.W.Frag) (H0 : Hp) (T F M : Addr) (H : Hp) (qs : List TA2) (fe mo : List Nat) : Prop where
  k : Same H0 H
  t : H T = some (.lst (rf qs))
  f : H F = some (.lst (iv fe))
  m : H M = some (.lst (iv mo))
  a : At2 K H qs
section
variable {K : PySem.W.Frag} {H0 H H' : Hp} {T F M : Addr} {qs es : List TA2} {fe mo x : List Nat}
theorem Fill.same (k : Same H H') (S : Fill K H0 T F M H qs fe mo) : Fill K H0 T F M H' qs fe mo := ⟨S.k.trans k, k _ _ S.t, k _ _ S.f, k _ _ S.m, S.a.same k⟩
theorem at2_upd {p : Addr} {ys zs : List V} (h : At2 K H qs) (hp : H p = some (.lst ys)) : At2 K (upd H p (.lst zs)) qs := fun x hx => keep_upd.tup hp (fun _ z => by cases z) (fun _ _ z => by cases z) (h x hx)
theorem Fill.ties (S : Fill K H0 T F M H qs fe mo) (h0 : H0 T = none) (tf : T ≠ F) (tm : T ≠ M) (ha : At2 K H es) : Fill K H0 T F M (upd H T (.lst (rf qs ++ rf es))) (qs ++ es) fe mo := by
  refine ⟨same_put S.k h0, ?_, by rw [upd_ne tf.symm]; exact S.f, by rw [upd_ne tm.symm]; exact S.m, fun x hx => ?_⟩
  · rw [upd_same]
    unfold rf
    rw [List.map_append]
  · rcases List.mem_append.mp hx with hx | hx
    · exact at2_upd S.a S.t x hx
    · exact at2_upd ha S.t x hx
theorem Fill.few (S : Fill K H0 T F M H qs fe mo) (h0 : H0 F = none) (tf : T ≠ F) (fm : F ≠ M) (y : Nat) : Fill K H0 T F M (upd H F (.lst (iv fe ++ [.int (y : Int)]))) qs (fe ++ [y]) mo := by
  refine ⟨same_put S.k h0, by rw [upd_ne tf]; exact S.t, ?_, by rw [upd_ne fm.symm]; exact S.m, at2_upd S.a S.f⟩
  rw [upd_same]
  unfold iv
  rw [List.map_append]
  rfl
theorem Fill.most (S : Fill K H0 T F M H qs fe mo) (h0 : H0 M = none) (tm : T ≠ M) (fm : F ≠ M) (y : List Nat) : Fill K H0 T F M (upd H M (.lst (iv mo ++ iv y))) qs fe (mo ++ y) := by
  refine ⟨same_put S.k h0, by rw [upd_ne tm]; exact S.t, by rw [upd_ne fm]; exact S.f, ?_, at2_upd S.a S.m⟩
  rw [upd_same]
  unfold iv
  rw [List.map_append]
end
end Sil
end

section
set_option Elab.async false
set_option maxRecDepth 100000
set_option maxHeartbeats 8000000
set_option linter.all false
namespace Sil
open PySem L2 Mi
theorem l6 {a b c d e f : V} : [a, b, c, d, e, f].length ≤ sizeLine := le_line (by show 6 ≤ 16777216; decide)
theorem idx_take {gs : List Gp} {i : Nat} : (idx (gs.take i)).length ≤ (idx gs).length := by
  have : idx gs = idx (gs.take i) ++ idx (gs.drop i) := by
    unfold idx
    rw [← List.flatMap_append, List.take_append_drop]
  rw [this, List.length_append]
  omega
theorem most_len {σ : List Nat} {g : Gp} {n : Nat} (hσ : σ.Perm (List.range n)) (h : g.1 + g.2.1 ≤ n) (h4 : g.2.1 ≤ 4) : (most σ g).length ≤ 4 := by
  unfold most
  split
  · rw [List.length_drop, pts_len hσ h]
    omega
  · show 1 ≤ 4
    decide
theorem flat_len {α β : Type} {f : α → List β} : ∀ {l : List α}, (∀ x ∈ l, (f x).length ≤ 4) → (l.flatMap f).length ≤ 4 * l.length
  | [], _ => Nat.zero_le _
  | x :: l, h => by
    have h1 := h x List.mem_cons_self
    have h2 := flat_len fun y hy => h y (List.mem_cons_of_mem x hy)
    rw [List.flatMap_cons, List.length_append, List.length_cons]
    omega
section
variable {P : Program} {w : World} {K : PySem.W.Frag} {mg : Str → Option Value} {base : Heap}
def spGroups : Sp := fun vs H Q _ => ∃ S : Addr, vs = [.ref S] ∧ Src H S ∧ ∀ H', Keep S H H' → Q (.bl true) H'
theorem ok_groups (T : Txt K mg) : FnOk P w K mg base CX0 9 T.law_groups_hold.f T.law_groups_hold.fd ["_law_source_here"] spGroups := by
  refine T.law_groups_hold.F.ok sc_law_groups_hold (fun vs H Q E h => ?_) (fun cdv A outer s H vs Q E hr h => ?_)
  · obtain ⟨S, rfl, _⟩ := h
    rfl
  · obtain ⟨S, rfl, hS, q⟩ := h
    have nd := sc_law_groups_hold.nd
    refine ⟨_, (pss_cons (ps_set (i := 1) nd rfl (Or.inl rfl) (pe_lst pa_nil))
      (pss_cons (ps_set (i := 2) nd rfl (Or.inl rfl) pe_int)
      (pss_cons (ps_for PassesOwn.never rfl (pi_range1 (by rfl) T.b_range (pa_cons pe_int pa_nil)) (pg_name (i := 3) nd rfl (Or.inl rfl))
        (pss_cons (ps_set (i := 4) nd rfl (Or.inl rfl) (pe_ix ix_tup (pe_tup (pa_cons pe_int (pa_cons pe_int (pa_cons pe_int (pa_cons pe_int (pa_cons pe_int (pa_cons pe_int pa_nil))))))) (pe_call (ok_law_draw T) (hr.mono (by decide)) (by rfl) T.law_draw.g T.law_draw.F.kp T.law_draw.b .nil pass0 (pa_cons (pv 0) (pa_cons pe_int pa_nil))) (fun _ _ => rfl)))
          (pss_cons (ps_set (i := 5) nd rfl (Or.inl rfl) (pe_and (pe_cmpR op_gt (pv 4) pe_int (nomark _)) (pe_one (pe_cmpR op_eq (pe_call (ok_law_draw T) (hr.mono (by decide)) (by rfl) T.law_draw.g T.law_draw.F.kp T.law_draw.b .nil pass0 (pa_cons (pv 0) (pa_cons pe_int pa_nil))) pe_int (nomark _)))))
          (pss_one (ps_if (pt_cmpR op_lt (pe_op op_add (pv 2) (pv 4)) pe_int (nomark _))
            (pss_cons (ps_expr (pe_bm PySem.F.plainAttrs_list PySem.F.slot_list_append PySem.F.type_list_append mt_append (pv 1) (pa_cons (pe_tup (pa_cons (pe_listRg (by rfl) (by rfl) T.b_list (prg_2 (by rfl) T.b_range (pv 2) (pe_op op_add (pv 2) (pv 4)))) (pa_cons (pv 5) pa_nil))) pa_nil)))
              (pss_one (ps_set (i := 2) nd rfl (Or.inl rfl) (pe_op op_add (pv 2) (pv 4)))))
            pss_nil)))))
      (pss_cons (ps_set (i := 6) nd rfl (Or.inr rfl) (pe_call (ok_law_perm T) (hr.mono (by decide)) (by rfl) T.law_perm.g T.law_perm.F.kp T.law_perm.b .nil pass0 (pa_cons (pv 0) (pa_cons (pv 2) pa_nil))))
      (pss_cons (ps_set (i := 7) nd rfl (Or.inl rfl) (pe_lst pa_nil))
      (pss_cons (ps_set (i := 8) nd rfl (Or.inl rfl) (pe_lst pa_nil))
      (pss_cons (ps_set (i := 9) nd rfl (Or.inl rfl) (pe_lst pa_nil))
      (pss_cons (ps_for PassesOwn.never rfl (pi_list (pv 1)) (pg_tup (by rfl) (pgs_cons (pg_name (i := 10) nd rfl (Or.inl rfl)) (pgs_cons (pg_name (i := 5) nd rfl (Or.inl rfl)) pgs_nil)))
        (pss_cons (ps_set (i := 11) nd rfl (Or.inr rfl) (pe_lc (own := [("_law_part", 12)]) rfl nd (pi_list (pv 10)) (blkOk_by (N := n_law_groups_hold) (sc := defScope s_law_groups_hold) (by decide +kernel)) (fun _ _ _ _ _ => (pg_name (i := 12) nd rfl (Or.inl rfl))) (fun _ _ _ _ _ => pts_nil) (fun _ _ _ _ _ => (pe_ix (ixL_K (K := K) rfl) (pv 6) (pv 12) (fun _ _ => rfl)))))
          (pss_cons (ps_for PassesOwn.never rfl (pi_range2 (by rfl) T.b_range (pa_cons pe_int (pa_cons (pe_callB call_len_seq (by rfl) T.b_len PySem.boot_len (pa_cons (pv 11) pa_nil)) pa_nil))) (pg_name (i := 13) nd rfl (Or.inr rfl))
            (pss_one (ps_expr (pe_bm PySem.F.plainAttrs_list PySem.F.slot_list_extend PySem.F.type_list_extend mt_extend (pv 7) (pa_cons (pe_lc (own := [("_law_part", 12)]) rfl nd (pi_list (pe_ifExp (pt_val (pv 5)) (pe_slice sl_list (pv 11) po_none (po_some pe_int)) (pe_slice sl_list (pv 11) po_none (po_some (pv 13))))) (blkOk_by (N := n_law_groups_hold) (sc := defScope s_law_groups_hold) (by decide +kernel)) (fun _ _ _ _ _ => (pg_name (i := 12) nd rfl (Or.inl rfl))) (fun _ _ _ _ _ => pts_nil) (fun _ _ _ _ _ => (pe_tup (pa_cons (pe_callB (call_min2 rfl) (by rfl) T.b_min (by decide +kernel) (pa_cons (pe_ix (ixL_K (K := K) rfl) (pv 11) (pv 13) (fun _ _ => rfl)) (pa_cons (pv 12) pa_nil))) (pa_cons (pe_callB (call_max2 rfl) (by rfl) T.b_max (by decide +kernel) (pa_cons (pe_ix (ixL_K (K := K) rfl) (pv 11) (pv 13) (fun _ _ => rfl)) (pa_cons (pv 12) pa_nil))) pa_nil))))) pa_nil)))))
          (pss_cons (ps_expr (pe_bm PySem.F.plainAttrs_list PySem.F.slot_list_append PySem.F.type_list_append mt_append (pv 8) (pa_cons (pe_ifExp (pt_val (pv 5)) (pe_ix ix_list (pv 11) pe_int (fun _ _ => rfl)) (pe_callB (cr_min rfl) (by rfl) T.b_min (by decide +kernel) (pa_cons (pv 11) pa_nil))) pa_nil)))
          (pss_one (ps_expr (pe_bm PySem.F.plainAttrs_list PySem.F.slot_list_extend PySem.F.type_list_extend mt_extend (pv 9) (pa_cons (pe_ifExp (pt_val (pv 5)) (pe_slice sl_list (pv 11) (po_some pe_int) po_none) (pe_lst (pa_cons (pe_callB (cr_min rfl) (by rfl) T.b_min (by decide +kernel) (pa_cons (pv 11) pa_nil)) pa_nil))) pa_nil))))))))
      (pss_cons (ps_set (i := 14) nd rfl (Or.inl rfl) (pe_make T.Web_init.m (ok_Web_init T) (hr.mono (by decide)) (by rfl) T.gWeb T.Web_init.b .nil pass0 (pa_cons (pv 2) (pa_cons (pe_callTy call_tuple_of (by rfl) T.b_tuple (by decide +kernel) (pa_cons (pe_callB (cr_sortT (d := 2) (B := 64) (by decide)) (by rfl) T.b_sorted (by decide +kernel) (pa_cons (pv 7) pa_nil)) pa_nil)) pa_nil))))
      (pss_cons (ps_if (pt_not (pt_val (pe_call (ok_same_tup T) (hr.mono (by decide)) (by rfl) T.law_same.g T.law_same.F.kp T.law_same.b .nil pass0 (pa_cons (pe_call (ok_smallest_rest T) (hr.mono (by decide)) (by rfl) T.smallest_rest.g T.smallest_rest.F.kp T.smallest_rest.b .nil pass0 (pa_cons (pv 14) pa_nil)) (pa_cons (pe_callTy call_tuple_of (by rfl) T.b_tuple (by decide +kernel) (pa_cons (pe_callB cr_sorted (by rfl) T.b_sorted (by decide +kernel) (pa_cons (pv 8) pa_nil)) pa_nil)) pa_nil)))))
        (pss_one (ps_ret pe_bl))
        pss_nil)
      (pss_one (ps_ret (pe_call (ok_same_tup T) (hr.mono (by decide)) (by rfl) T.law_same.g T.law_same.F.kp T.law_same.b .nil pass0 (pa_cons (pe_call (ok_greatest_rest T) (hr.mono (by decide)) (by rfl) T.greatest_rest.g T.greatest_rest.F.kp T.greatest_rest.b .nil pass0 (pa_cons (pv 14) pa_nil)) (pa_cons (pe_callTy call_tuple_of (by rfl) T.b_tuple (by decide +kernel) (pa_cons (pe_callB cr_sorted (by rfl) T.b_sorted (by decide +kernel) (pa_cons (pv 9) pa_nil)) pa_nil)) pa_nil))))))))))))))), ?_⟩
    refine ⟨Nat.zero_le _, fun Gl nGl => ?_⟩
    have GS := src_ne hS nGl
    refine ⟨_, rfl, (by decide), (by decide), for_it walk_range (fun i st H2 => ∃ (gl : List GA) (n : Nat) (x y z : Option V), st = [some (.ref S), some (.ref Gl), some (.int (n : Int)), x, y, z, none, none, none, none, none, none, none, none, none] ∧
        Keep S H H2 ∧ Src H2 S ∧ H2 Gl = some (.lst (rg gl)) ∧ GpAt H2 gl ∧ (∀ x ∈ gl, x.l ≠ Gl ∧ x.l ≠ S) ∧ Cont 0 (gl.map (·.g)) n ∧ n ≤ 24 ∧ (1 ≤ i → 1 ≤ n) ∧ gl.length ≤ i)
      ⟨[], 0, none, none, none, rfl, Same.keep (nw nGl), hS.same (nw nGl), upd_same, fun x hx => (by cases hx), fun x hx => (by cases hx), rfl, by decide, fun h => absurd h (by decide), Nat.le_refl _⟩ (fun i σ H2 _ _ => trivial) ?_ ?_⟩
    · rintro i zz σ H2 H3 hi ⟨gl, n, x, y, z, rfl, k2, s2, hG, gp, gne, ct, n24, n1, gll⟩ ⟨rfl, rfl⟩
      have hi : i < 11 := hi
      refine ⟨l6, fun t nt => ?_⟩
      have kt := nw (o := HO.tup [V.int 3, V.int 3, V.int 3, V.int 2, V.int 3, V.int 4]) nt
      refine ⟨_, rfl, S, 6, rfl, s2.same kt, by decide, by decide, fun d H4 hd k4 s4 => ?_⟩
      obtain ⟨k, kl, kh, hat⟩ := many_at d hd
      refine ⟨t, _, (d : Int), _, rfl, rfl, SqT.of (k4 _ _ upd_same (src_ne s2 nt)), hat, ?_⟩
      have k24 : Keep S H3 H4 := (Same.keep kt).trans k4
      dsimp only [gName]
      refine seq_cut (fun st H5 => ∃ b : Bool, st = [some (.ref S), some (.ref Gl), some (.int (n : Int)), some (.int (0 + (i : Int))), some (.int (k : Int)), some (.bl b), none, none, none, none, none, none, none, none, none] ∧ (b = true → 3 ≤ k) ∧ Keep S H3 H5 ∧ Src H5 S) (fun D' hD => ?_) ?_
      · refine ⟨_, rfl, _, _, rfl, rfl, _, rfl, ite2 (fun h => ?_) fun _ => ?_⟩
        · have h := of_decide_eq_true h
          refine ⟨_, rfl, S, 5, rfl, s4, by decide, by decide, fun d2 H5 hd2 k5 s5 => ⟨rfl, ?_⟩⟩
          exact hD _ _ ⟨_, rfl, fun _ => by omega, k24.trans k5, s5⟩
        · exact hD _ _ ⟨false, rfl, fun h => (by cases h), k24, s4⟩
      · rintro st H5 ⟨b, rfl, hb, k5, s5⟩
        have hG5 := k5 _ _ hG GS
        have tS : ∀ {x : GA}, x ∈ gl → x.t ≠ S := fun hx e => by
          obtain ⟨_, _, _, _, _, h⟩ := s2
          have := (gp _ hx).1
          rw [e, h] at this
          cases this
        have gp5 : GpAt H5 gl := fun x hx => ⟨k5 _ _ (gp x hx).1 (tS hx), k5 _ _ (gp x hx).2 (gne x hx).2⟩
        refine ⟨_, rfl, _, rfl, _, _, rfl, rfl, _, _, rfl, rfl, _, rfl, ite2 (fun h => ?_) fun h => ?_⟩
        · have h := of_decide_eq_true h
          refine ⟨_, rfl, .inl ⟨rfl, _, SqL.of hG5⟩, _, rfl, _, rfl, _, rfl, _, _, rfl, rfl, _, _, rfl, rfl, RgOk.of_le (by omega) (by omega) (by omega) (by omega), fun L nL => ?_⟩
          rw [rg_nat]
          have kL := nw (o := HO.lst (iv (List.range' n k))) nL
          refine ⟨_, rfl, l2, fun u nu => ?_⟩
          have ku := nw (o := HO.tup [V.ref L, V.bl b]) nu
          have hG6 := ku _ _ (kL _ _ hG5)
          refine ⟨Gl, _, _, rfl, rfl, hG6, ?_, ?_⟩
          · unfold rg
            rw [List.length_map]
            exact lt_line (by omega)
          have kk := kL.trans ku
          have L0 : L ≠ Gl := fun e => by rw [e, hG5] at nL; cases nL
          have u0 : u ≠ Gl := fun e => by rw [e, kL _ _ hG5] at nu; cases nu
          have hL : (upd (upd H5 L (.lst (iv (List.range' n k)))) u (.tup [V.ref L, V.bl b])) L = some (.lst (iv (List.range' n k))) := ku _ _ upd_same
          have Gl0 : H Gl = none := nGl
          refine ⟨_, rfl, _, rfl, _, _, rfl, rfl, gl ++ [⟨u, L, (n, k, b)⟩], n + k, _, _, _, rfl, ?_, ?_, ?_, fun x hx => ?_, fun x hx => ?_, ?_, by omega, fun _ => by omega, ?_⟩
          · intro a o e ne
            rw [upd_ne (ne_of_none e Gl0)]
            exact kk _ _ (k5 _ _ (k2 _ _ e ne) ne)
          · obtain ⟨c1, c2, c3, c4, c5, c6⟩ := s5
            exact ⟨c1, c2, c3, c4, c5, by rw [upd_ne GS.symm]; exact kk _ _ c6⟩
          · rw [upd_same]
            unfold rg
            rw [List.map_append]
            rfl
          · rcases List.mem_append.mp hx with hx | hx
            · have h1 := gp5 x hx
              have t0 : x.t ≠ Gl := fun e => by
                have := h1.1
                rw [e, hG5] at this
                cases this
              rw [upd_ne t0, upd_ne (gne x hx).1]
              exact ⟨kk _ _ h1.1, kk _ _ h1.2⟩
            · rw [List.mem_singleton.mp hx]
              show upd _ Gl _ u = _ ∧ upd _ Gl _ L = _
              rw [upd_ne u0, upd_ne L0]
              exact ⟨upd_same, hL⟩
          · rcases List.mem_append.mp hx with hx | hx
            · exact gne x hx
            · rw [List.mem_singleton.mp hx]
              exact ⟨L0, src_ne s5 nL⟩
          · rw [List.map_append]
            exact cont_snoc ct kl kh hb
          · rw [List.length_append]
            exact Nat.succ_le_succ gll
        · have h := of_decide_eq_false (Bool.eq_false_iff.mpr h)
          exact ⟨gl, n, _, _, _, rfl, k2.trans k5, s5, hG5, gp5, gne, ct, n24, fun _ => by omega, Nat.le_succ_of_le gll⟩
    · rintro σ H2 ⟨gl, n, x, y, z, rfl, k2, s2, hG, gp, gne, ct, n24, n1, gll⟩
      have gll : gl.length ≤ 11 := gll
      have n1 : 1 ≤ n := n1 (by decide)
      refine ⟨_, rfl, _, rfl, S, n, rfl, s2, by omega, fun N σ H3 k3 s3 nN hN pm => ?_⟩
      have tS : ∀ {x : GA}, x ∈ gl → x.t ≠ S := fun hx e => by
        obtain ⟨_, _, _, _, _, h⟩ := s2
        have := (gp _ hx).1
        rw [e, h] at this
        cases this
      have gp3 : GpAt H3 gl := fun x hx => ⟨k3 _ _ (gp x hx).1 (tS hx), k3 _ _ (gp x hx).2 (gne x hx).2⟩
      have hG3 := k3 _ _ hG GS
      have k03 : Keep S H H3 := k2.trans k3
      refine ⟨Nat.zero_le _, fun T0 nT => ⟨Nat.zero_le _, fun F0 nF => ⟨Nat.zero_le _, fun M0 nM => ?_⟩⟩⟩
      have TF : T0 ≠ F0 := fun e => by rw [← e, upd_same] at nF; cases nF
      have FM : F0 ≠ M0 := fun e => by rw [← e, upd_same] at nM; cases nM
      have TM : T0 ≠ M0 := fun e => by rw [← e, upd_ne TF, upd_same] at nM; cases nM
      have F3 : H3 F0 = none := (nw (o := HO.lst []) nT).free nF
      have M3 : H3 M0 = none := (nw (o := HO.lst []) nT).free ((nw (o := HO.lst []) nF).free nM)
      have S0 : Fill K H3 T0 F0 M0 (upd (upd (upd H3 T0 (.lst [])) F0 (.lst [])) M0 (.lst [])) [] [] [] :=
        ⟨((nw nT).trans (nw nF)).trans (nw nM), by rw [upd_ne TM, upd_ne TF, upd_same]; rfl, by rw [upd_ne FM, upd_same]; rfl, by rw [upd_same]; rfl, fun k hk => (by cases hk)⟩
      have cm := cont_mem ct
      refine ⟨_, rfl, Gl, rfl, ⟨_, SqL.of (S0.k _ _ hG3)⟩, for_it (walk_list (xs := rg gl)) (fun i st H4 => ∃ (qs : List TA2) (x3 x4 x5 x10 x11 x12 x13 : Option V), st = [some (.ref S), some (.ref Gl), some (.int (n : Int)), x3, x4, x5, some (.ref N), some (.ref T0), some (.ref F0), some (.ref M0), x10, x11, x12, x13, none] ∧
          Fill K H3 T0 F0 M0 H4 qs (((gl.map (·.g)).take i).map (few σ)) (((gl.map (·.g)).take i).flatMap (most σ)) ∧ qs.map Prod.snd = (idx ((gl.map (·.g)).take i)).map (pqp σ))
        ⟨[], _, _, _, none, none, none, none, rfl, S0, rfl⟩ (fun i st H4 _ ⟨_, _, _, _, _, _, _, _, _, S4, _⟩ => SqL.of (S4.k _ _ hG3)) ?_ ?_⟩
      · rintro i zz st H4 H5 hi ⟨qs, x3, x4, x5, x10, x11, x12, x13, rfl, S4, eq⟩ ⟨rfl, hz⟩
        obtain ⟨G, hGi, rfl⟩ := rg_get hz
        have hGm := List.mem_of_getElem? hGi
        obtain ⟨hGt, hGL⟩ := gp3 G hGm
        generalize eg : G.g = g at hGt hGL
        have gm : g ∈ gl.map (·.g) := List.mem_map.mpr ⟨G, hGm, eg⟩
        have ggi : (gl.map (·.g))[i]? = some g := by rw [List.getElem?_map, hGi, ← eg]; rfl
        obtain ⟨c2, c4, c3, cn⟩ := cm g gm
        have pl := pts_len pm cn
        have tk : (gl.map (·.g)).take (i + 1) = (gl.map (·.g)).take i ++ [g] := by rw [List.take_add_one, ggi]; rfl
        have tkl : ((gl.map (·.g)).take i).length ≤ 11 := by
          rw [List.length_take, List.length_map]
          omega
        have bl : qs.length ≤ 36 := by
          have h1 := congrArg List.length eq
          rw [List.length_map, List.length_map] at h1
          have h2 := idx_take (gs := gl.map (·.g)) (i := i)
          have h3 := idx_len ct
          omega
        refine ⟨G.t, _, rfl, SqT.of (S4.k _ _ hGt), rfl, _, _, rfl, _, _, rfl, rfl, ?_⟩
        refine ⟨_, rfl, G.l, rfl, ⟨_, SqL.of (S4.k _ _ hGL)⟩, fun Pa nPa => lc_it (walk_list (xs := iv (List.range' g.1 g.2.1))) (fun j H6 => Same H5 H6 ∧ H6 Pa = some (.lst (iv ((pts σ g).take j))))
          ⟨same_new nPa, upd_same⟩ (fun j H6 _ ⟨k, _⟩ => SqL.of (k _ _ (S4.k _ _ hGL))) ?_ ?_⟩
        · rintro j z H6 H7 hj ⟨k6, h6⟩ ⟨rfl, hz⟩
          rw [iv_length, List.length_range'] at hj
          obtain ⟨c, hc, rfl⟩ := iv_get hz
          have ec : c = g.1 + j := by
            rw [List.getElem?_range' hj] at hc
            have := Option.some.inj hc
            omega
          subst ec
          have S7 := S4.same k6
          obtain ⟨il, ei, _⟩ := perm_lt (a := g.1 + j) pm (by omega)
          have gi : atI (iv σ) ((g.1 + j : Nat) : Int) = some (.int ((σ.getD (g.1 + j) 0 : Nat) : Int)) := atI_nat (iv_at (by rw [ei]; exact List.getElem?_eq_getElem il))
          refine ⟨rfl, yesT ?_⟩
          refine ⟨_, rfl, _, rfl, N, _, _, _, rfl, rfl, SqL.of (S7.k _ _ hN), gi, ?_⟩
          refine ⟨_, h6, ?_, same_put k6 nPa, ?_⟩
          · rw [iv_length, List.length_take]
            exact lt_line (by omega)
          · rw [upd_same, List.take_add_one, pts_get pm cn hj]
            unfold iv
            rw [List.map_append]
            rfl
        · rintro H6 ⟨k6, h6⟩
          rw [iv_length, List.length_range', ← pl, List.take_length] at h6
          have S6 := S4.same k6
          have Pnew : ∀ {a : Addr} {o : HO}, H5 a = some o → Pa ≠ a := fun h e => by rw [e, h] at nPa; cases nPa
          have PT := Pnew S4.t
          have PF := Pnew S4.f
          have PM := Pnew S4.m
          refine ⟨_, rfl, Pa, _, rfl, .inl (SqL.of h6), _, _, rfl, ?_⟩
          rw [iv_length, pl]
          refine ⟨⟨by decide, by decide, lo62 _, hi62 (by omega)⟩, ?_⟩
          rw [show ((g.2.1 : Int) - 1).toNat = g.2.1 - 1 by omega]
          refine for_it walk_range (fun i' st H7 => ∃ (qs' : List TA2) (y12 y13 : Option V), st = [some (.ref S), some (.ref Gl), some (.int (n : Int)), x3, x4, some (.bl g.2.2), some (.ref N), some (.ref T0), some (.ref F0), some (.ref M0), some (.ref G.l), some (.ref Pa), y12, y13, none] ∧
              Fill K H3 T0 F0 M0 H7 qs' (((gl.map (·.g)).take i).map (few σ)) (((gl.map (·.g)).take i).flatMap (most σ)) ∧ H7 Pa = some (.lst (iv (pts σ g))) ∧ qs'.map Prod.snd = qs.map Prod.snd ++ (List.range' 1 i').flatMap (rowT σ g) ∧ qs'.length ≤ 36 + 4 * i')
            ⟨qs, _, _, rfl, S6, h6, by rw [List.range'_zero, List.flatMap_nil, List.append_nil], bl⟩ (fun _ _ _ _ _ => trivial) ?_ ?_
          · rintro i' zz st H7 H8 hi' ⟨qs', y12, y13, rfl, S7, h7, eq', bl'⟩ ⟨rfl, rfl⟩
            show gName 13 (.int (1 + (i' : Int))) _ _ _
            rw [show (1 : Int) + (i' : Int) = ((1 + i' : Nat) : Int) by omega]
            have cl : cOf g (1 + i') ≤ 1 + i' := by
              unfold cOf
              split <;> omega
            have il : g.1 + (1 + i') < n := by omega
            obtain ⟨al, ea, _⟩ := perm_lt (a := g.1 + (1 + i')) pm il
            have ga : atI (iv (pts σ g)) ((1 + i' : Nat) : Int) = some (.int ((σ.getD (g.1 + (1 + i')) 0 : Nat) : Int)) := atI_nat (iv_at (pts_get pm cn (by omega)))
            refine ⟨_, rfl, .inl ⟨rfl, _, SqL.of S7.t⟩, _, rfl, _, rfl, ite2 (fun st => ?_) fun st => ?_⟩
            · refine ⟨_, rfl, _, rfl, Pa, _, rfl, SqL.of h7, fun A nA => ?_⟩
              have eA : cutV (iv (pts σ g)) none (some 1) = iv ((pts σ g).take (cOf g (1 + i'))) := by
                unfold cOf
                rw [if_pos st]
                exact cut_to _ 1
              rw [eA]
              have kA := nw (o := HO.lst (iv ((pts σ g).take (cOf g (1 + i'))))) nA
              have S8 := S7.same kA
              have h8 := kA _ _ h7
              refine ⟨A, rfl, ⟨_, SqL.of upd_same⟩, fun E nE => lc_it (walk_list (xs := iv ((pts σ g).take (cOf g (1 + i'))))) (fun j H9 => ∃ es : List TA2, Same (upd H8 A (.lst (iv ((pts σ g).take (cOf g (1 + i')))))) H9 ∧ H9 E = some (.lst (rf es)) ∧ At2 K H9 es ∧ es.map Prod.snd = (List.range j).map fun b => pq σ (g.1 + (1 + i')) (g.1 + b))
                ⟨[], same_new nE, upd_same, fun k hk => (by cases hk), rfl⟩ (fun j H9 _ ⟨_, k, _⟩ => SqL.of (k _ _ upd_same)) ?_ ?_⟩
              · rintro j z H9 H10 hj ⟨es, k9, hE, a9, ee⟩ ⟨rfl, hz⟩
                rw [iv_length, List.length_take, pl] at hj
                obtain ⟨c, hc, rfl⟩ := iv_get hz
                rw [List.getElem?_take_of_lt (by omega), pts_get pm cn (by omega)] at hc
                have hc := Option.some.inj hc
                subst hc
                have lee : es.length ≤ 100 := by
                  have := congrArg List.length ee
                  rw [List.length_map, List.length_map, List.length_range] at this
                  omega
                have h9 := k9 _ _ h8
                refine ⟨rfl, yesT ?_⟩
                refine ⟨_, rfl, _, rfl, Pa, _, _, _, rfl, rfl, SqL.of h9, ga, _, rfl, _, _, rfl, ?_⟩
                refine ⟨_, rfl, _, rfl, Pa, _, _, _, rfl, rfl, SqL.of h9, ga, _, rfl, _, _, rfl, l2, fun t nt => ?_⟩
                rw [pq_min]
                obtain ⟨tD, d1, d2, d3⟩ := put_tie (p := pq σ (g.1 + (1 + i')) (g.1 + j)) k9 nE hE a9 nt
                refine ⟨_, by rw [upd_ne tD.symm]; exact hE, by rw [rf_len]; exact lt_line (by omega), es ++ [(t, pq σ (g.1 + (1 + i')) (g.1 + j))], d1, d2, d3, ?_⟩
                rw [List.map_append, ee, List.range_succ, List.map_append]
                rfl
              · rintro H9 ⟨es, k9, hE, a9, ee⟩
                have ec : min (cOf g (1 + i')) g.2.1 = cOf g (1 + i') := by omega
                rw [iv_length, List.length_take, pl, ec] at ee
                have S9 := S8.same k9
                have el : es.length ≤ 4 := by
                  have := congrArg List.length ee
                  rw [List.length_map, List.length_map, List.length_range] at this
                  omega
                refine ⟨T0, E, _, _, rfl, rfl, S9.t, hE, by rw [rf_len, rf_len]; exact le_line (by omega), ?_⟩
                refine ⟨qs' ++ es, _, _, rfl, S9.ties nT TF TM a9, by rw [upd_ne PT]; exact k9 _ _ h8, ?_, ?_⟩
                · rw [List.map_append, eq', ee, List.range'_concat, List.flatMap_append, List.append_assoc, List.flatMap_cons, List.flatMap_nil, List.append_nil, Nat.one_mul]
                  rfl
                · rw [List.length_append]
                  omega
            · refine ⟨_, rfl, _, rfl, _, rfl, Pa, _, rfl, SqL.of h7, fun A nA => ?_⟩
              have eA : cutV (iv (pts σ g)) none (some ((1 + i' : Nat) : Int)) = iv ((pts σ g).take (cOf g (1 + i'))) := by
                unfold cOf
                rw [if_neg st]
                exact cut_to _ _
              rw [eA]
              have kA := nw (o := HO.lst (iv ((pts σ g).take (cOf g (1 + i'))))) nA
              have S8 := S7.same kA
              have h8 := kA _ _ h7
              refine ⟨A, rfl, ⟨_, SqL.of upd_same⟩, fun E nE => lc_it (walk_list (xs := iv ((pts σ g).take (cOf g (1 + i'))))) (fun j H9 => ∃ es : List TA2, Same (upd H8 A (.lst (iv ((pts σ g).take (cOf g (1 + i')))))) H9 ∧ H9 E = some (.lst (rf es)) ∧ At2 K H9 es ∧ es.map Prod.snd = (List.range j).map fun b => pq σ (g.1 + (1 + i')) (g.1 + b))
                ⟨[], same_new nE, upd_same, fun k hk => (by cases hk), rfl⟩ (fun j H9 _ ⟨_, k, _⟩ => SqL.of (k _ _ upd_same)) ?_ ?_⟩
              · rintro j z H9 H10 hj ⟨es, k9, hE, a9, ee⟩ ⟨rfl, hz⟩
                rw [iv_length, List.length_take, pl] at hj
                obtain ⟨c, hc, rfl⟩ := iv_get hz
                rw [List.getElem?_take_of_lt (by omega), pts_get pm cn (by omega)] at hc
                have hc := Option.some.inj hc
                subst hc
                have lee : es.length ≤ 100 := by
                  have := congrArg List.length ee
                  rw [List.length_map, List.length_map, List.length_range] at this
                  omega
                have h9 := k9 _ _ h8
                refine ⟨rfl, yesT ?_⟩
                refine ⟨_, rfl, _, rfl, Pa, _, _, _, rfl, rfl, SqL.of h9, ga, _, rfl, _, _, rfl, ?_⟩
                refine ⟨_, rfl, _, rfl, Pa, _, _, _, rfl, rfl, SqL.of h9, ga, _, rfl, _, _, rfl, l2, fun t nt => ?_⟩
                rw [pq_min]
                obtain ⟨tD, d1, d2, d3⟩ := put_tie (p := pq σ (g.1 + (1 + i')) (g.1 + j)) k9 nE hE a9 nt
                refine ⟨_, by rw [upd_ne tD.symm]; exact hE, by rw [rf_len]; exact lt_line (by omega), es ++ [(t, pq σ (g.1 + (1 + i')) (g.1 + j))], d1, d2, d3, ?_⟩
                rw [List.map_append, ee, List.range_succ, List.map_append]
                rfl
              · rintro H9 ⟨es, k9, hE, a9, ee⟩
                have ec : min (cOf g (1 + i')) g.2.1 = cOf g (1 + i') := by omega
                rw [iv_length, List.length_take, pl, ec] at ee
                have S9 := S8.same k9
                have el : es.length ≤ 4 := by
                  have := congrArg List.length ee
                  rw [List.length_map, List.length_map, List.length_range] at this
                  omega
                refine ⟨T0, E, _, _, rfl, rfl, S9.t, hE, by rw [rf_len, rf_len]; exact le_line (by omega), ?_⟩
                refine ⟨qs' ++ es, _, _, rfl, S9.ties nT TF TM a9, by rw [upd_ne PT]; exact k9 _ _ h8, ?_, ?_⟩
                · rw [List.map_append, eq', ee, List.range'_concat, List.flatMap_append, List.append_assoc, List.flatMap_cons, List.flatMap_nil, List.append_nil, Nat.one_mul]
                  rfl
                · rw [List.length_append]
                  omega
          · rintro st H7 ⟨qs', y12, y13, rfl, S7, h7, eq', bl'⟩
            have eq2 : qs'.map Prod.snd = (idx ((gl.map (·.g)).take (i + 1))).map (pqp σ) := by
              rw [eq', eq, tk]
              unfold idx
              rw [List.flatMap_append, List.map_append, List.flatMap_cons, List.flatMap_nil, List.append_nil, idxG_row]
            have ef : ((gl.map (·.g)).take (i + 1)).map (few σ) = ((gl.map (·.g)).take i).map (few σ) ++ [few σ g] := by rw [tk, List.map_append]; rfl
            have em : ((gl.map (·.g)).take (i + 1)).flatMap (most σ) = ((gl.map (·.g)).take i).flatMap (most σ) ++ most σ g := by
              rw [tk, List.flatMap_append, List.flatMap_cons, List.flatMap_nil, List.append_nil]
            have lf : (iv (((gl.map (·.g)).take i).map (few σ))).length < sizeLine := by
              rw [iv_length, List.length_map]
              exact lt_line (by omega)
            have ml := most_len pm cn c4
            have lm : (iv (((gl.map (·.g)).take i).flatMap (most σ))).length + (iv (most σ g)).length ≤ sizeLine := by
              rw [iv_length, iv_length]
              have := flat_len (f := most σ) (l := (gl.map (·.g)).take i) fun x hx => by
                have := cm x (List.mem_of_mem_take hx)
                exact most_len pm this.2.2.2 this.2.1
              exact le_line (by omega)
            refine ⟨_, rfl, .inl ⟨rfl, _, SqL.of S7.f⟩, _, rfl, _, rfl, ite2 (fun st => ?_) fun st => ?_⟩
            · obtain ⟨x0, r, ep⟩ : ∃ x0 r, pts σ g = x0 :: r := by
                cases e : pts σ g with
                | nil => rw [e] at pl; simp at pl; omega
                | cons x0 r => exact ⟨x0, r, rfl⟩
              have e0 : few σ g = x0 := by
                unfold few
                rw [if_pos st, ep]
                rfl
              have e1 : most σ g = (pts σ g).drop 1 := by
                unfold most
                rw [if_pos st]
              refine ⟨_, rfl, Pa, _, 0, .int (x0 : Int), rfl, rfl, SqL.of h7, (by rw [ep]; exact atI_nat (j := 0) rfl), F0, _, _, rfl, rfl, S7.f, lf, ?_⟩
              have S8 := S7.few F3 TF FM x0
              have h8 : (upd H7 F0 (.lst (iv (((gl.map (·.g)).take i).map (few σ)) ++ [.int (x0 : Int)]))) Pa = some (.lst (iv (pts σ g))) := by rw [upd_ne PF]; exact h7
              refine ⟨_, rfl, .inl ⟨rfl, _, SqL.of S8.m⟩, _, rfl, _, rfl, ite2 (fun _ => ?_) fun w => absurd st w⟩
              refine ⟨_, rfl, _, rfl, Pa, _, rfl, SqL.of h8, fun A nA => ?_⟩
              rw [cut_one, ← e1]
              have S9 := S8.same (nw (o := HO.lst (iv (most σ g))) nA)
              refine ⟨M0, A, _, _, rfl, rfl, S9.m, upd_same, lm, qs', _, _, _, _, _, _, _, rfl, ?_, eq2⟩
              rw [ef, em, e0]
              exact S9.most M3 TM FM _
            · have e0 : few σ g = mn (pts σ g) := by
                unfold few
                rw [if_neg st]
              have e1 : most σ g = [mn (pts σ g)] := by
                unfold most
                rw [if_neg st]
              have pos : 0 < (zi (pts σ g)).length := by
                unfold zi
                rw [List.length_map, pl]
                omega
              refine ⟨_, rfl, Pa, zi (pts σ g), rfl, SqL.of (by rw [← iv_zi]; exact h7), pos, fun m hm hle => ?_⟩
              obtain ⟨m, hm2, rfl⟩ := List.mem_map.mp hm
              have emn : m = mn (pts σ g) := mn_uniq hm2 fun y hy => by
                have := hle _ (List.mem_map.mpr ⟨y, hy, rfl⟩)
                omega
              subst emn
              refine ⟨F0, _, _, rfl, rfl, S7.f, lf, ?_⟩
              have S8 := S7.few F3 TF FM (mn (pts σ g))
              have h8 : (upd H7 F0 (.lst (iv (((gl.map (·.g)).take i).map (few σ)) ++ [.int ((mn (pts σ g) : Nat) : Int)]))) Pa = some (.lst (iv (pts σ g))) := by rw [upd_ne PF]; exact h7
              refine ⟨_, rfl, .inl ⟨rfl, _, SqL.of S8.m⟩, _, rfl, _, rfl, ite2 (fun w => absurd w st) fun _ => ?_⟩
              refine ⟨_, rfl, Pa, zi (pts σ g), rfl, SqL.of (by rw [← iv_zi]; exact h8), pos, fun m hm hle => ?_⟩
              obtain ⟨m, hm3, rfl⟩ := List.mem_map.mp hm
              have emn : m = mn (pts σ g) := mn_uniq hm3 fun y hy => by
                have := hle _ (List.mem_map.mpr ⟨y, hy, rfl⟩)
                omega
              subst emn
              refine ⟨l1, fun A nA => ?_⟩
              have S9 := S8.same (nw (o := HO.lst [V.int ((mn (pts σ g) : Nat) : Int)]) nA)
              rw [e1] at em lm
              refine ⟨M0, A, _, _, rfl, rfl, S9.m, upd_same, lm, qs', _, _, _, _, _, _, _, rfl, ?_, eq2⟩
              rw [ef, em, e0]
              exact S9.most M3 TM FM [mn (pts σ g)]
      · rintro st H4 ⟨qs, x3, x4, x5, x10, x11, x12, x13, rfl, S4, eq⟩
        have el : (rg gl).length = (gl.map (·.g)).length := by
          unfold rg
          rw [List.length_map, List.length_map]
        rw [el, List.take_length] at S4 eq
        have gt := gt_of ct n24 pm
        rw [← eq] at gt
        have ql : qs.length ≤ 36 := by
          have := gt.len
          rwa [List.length_map] at this
        obtain ⟨e1, e2, e3⟩ := sort_ties S4.a gt.nd gt.ti n24 (by omega)
        refine ⟨_, rfl, _, rfl, T0, rf qs, rfl, SqL.of S4.t, e1, e2, fun ys p hp hq np => ?_⟩
        obtain ⟨ks, rfl, hk, pw⟩ := e3 ys hp hq
        have kp := nw (o := HO.lst (rf ks)) np
        refine ⟨p, _, rfl, .inl ⟨SqL.of upd_same, fun tp ntp => ?_⟩⟩
        have kt := nw (o := HO.tup (rf ks)) ntp
        have k5 := kp.trans kt
        have a5 : At2 K _ ks := At2.same k5 fun k h => S4.a k (hk.mem_iff.mp h)
        have mm := hk.map Prod.snd
        have ti : TiesIn n (ks.map Prod.snd) := fun t ht => gt.ti t (mm.mem_iff.mp ht)
        refine fun W dx nW ndx nWd => ?_
        have kW : Same (upd (upd H4 p (.lst (rf ks))) tp (.tup (rf ks))) (upd (upd (upd (upd H4 p (.lst (rf ks))) tp (.tup (rf ks))) dx (.own W)) W (.ins T.CWeb dx [])) := fun b o e => by
          rw [upd_ne (ne_of_none e nW), upd_ne (ne_of_none e ndx)]
          exact e
        have kW4 := k5.trans kW
        have tiesW := same_ties kW (ties_of (SqT.of upd_same) a5)
        refine ⟨W, dx, tp, n, ks.map Prod.snd, rfl, upd_same, n1, n24, ti, pw, tiesW, fun H5 np5 nnp5 hW hNp kk => ⟨rfl, ?_⟩⟩
        have k45 : Same H4 H5 := fun b o e => kk b o (kW4 b o e) (ne_of_none (k5 b o e) nW)
        have hNear : NearAt T.CWeb H5 W n (nearOf n (ks.map Prod.snd)) := ⟨dx, tp, np5, hW, hNp⟩
        have Gd := good_near ti
        have near := gt_near ct pm ti fun t => by rw [mm.mem_iff, eq]
        obtain ⟨b1, b2, b3, b4, _, _⟩ := groups_best (s := 0) pm Gd near ct fun a b _ => Iff.rfl
        have full : mk (σ.drop 0) = 2 ^ n - 1 := ext fun i => by
          rw [tb_mk, full_tb, Bool.eq_iff_iff, decide_eq_true_iff, decide_eq_true_iff, List.drop_zero, pm.mem_iff, List.mem_range]
        rw [full] at b1 b2
        have S5 := S4.same k45
        have lenF : (zi ((gl.map (·.g)).map (few σ))).length < 64 := by
          unfold zi
          rw [List.length_map, List.length_map, List.length_map]
          omega
        have lenM : (zi ((gl.map (·.g)).flatMap (most σ))).length < 64 := by
          unfold zi
          have := flat_len (f := most σ) (l := gl.map (·.g)) fun x hx => by
            have := cm x hx
            exact most_len pm this.2.2.2 this.2.1
          rw [List.length_map] at this ⊢
          omega
        refine ⟨_, rfl, W, n, _, rfl, hNear, Gd, n24, fun m a H6 k6 na ha B => ?_⟩
        have S6 := S5.same k6
        refine ⟨_, rfl, F0, zi ((gl.map (·.g)).map (few σ)), rfl, SqL.of (by rw [← iv_zi]; exact S6.f), lenF, fun ns p2 hp2 hw2 np2 => ?_⟩
        obtain ⟨l, hl, rfl⟩ := perm_lift (f := fun (i : Nat) => (i : Int)) hp2
        have elt : lot m = l := by
          rw [B.uniq b1]
          exact lot_perm b3 hl hw2
        have kp2 := nw (o := HO.lst ((zi l).map V.int)) np2
        refine ⟨p2, _, rfl, .inl ⟨SqL.of upd_same, fun tq ntq => ?_⟩⟩
        have ktq := nw (o := HO.tup ((zi l).map V.int)) ntq
        have k7 := kp2.trans ktq
        have len24 : ∀ {m : Nat} {g : Int}, Best (nr (nearOf n (ks.map Prod.snd))) (2 ^ n - 1) g m → (lot m).length ≤ 24 := fun {m g} B => by
          have := pc_le (lt_of_sub (Nat.sub_lt (Nat.two_pow_pos n) (by decide)) B.sol.sub)
          unfold pc at this
          omega
        refine ⟨a, tq, lot m, rfl, SqT.of (k7 _ _ ha), SqT.of (by rw [elt, iv_zi]; exact upd_same), len24 B, fun H7 k8 => ⟨true, rfl, iteF ?_⟩⟩
        have k67 := k7.trans k8
        have k57 := k6.trans k67
        refine ⟨_, rfl, W, n, _, rfl, same_near k57 hNear, Gd, n24, fun m' a' H8 k9 na' ha' B' => ?_⟩
        have S8 := (S6.same k67).same k9
        refine ⟨_, rfl, M0, zi ((gl.map (·.g)).flatMap (most σ)), rfl, SqL.of (by rw [← iv_zi]; exact S8.m), lenM, fun ns p3 hp3 hw3 np3 => ?_⟩
        obtain ⟨l', hl', rfl⟩ := perm_lift (f := fun (i : Nat) => (i : Int)) hp3
        have elt' : lot m' = l' := by
          rw [B'.uniq b2]
          exact lot_perm b4 hl' hw3
        have kp3 := nw (o := HO.lst ((zi l').map V.int)) np3
        refine ⟨p3, _, rfl, .inl ⟨SqL.of upd_same, fun tr ntr => ?_⟩⟩
        have ktr := nw (o := HO.tup ((zi l').map V.int)) ntr
        have k10 := kp3.trans ktr
        refine ⟨a', tr, lot m', rfl, SqT.of (k10 _ _ ha'), SqT.of (by rw [elt', iv_zi]; exact upd_same), len24 B', fun H9 k11 => ?_⟩
        exact q H9 (k03.trans (Same.keep (((S4.k.trans k45).trans (k57.trans k9)).trans (k10.trans k11))))
end
end Sil
end

section
set_option Elab.async false
set_option maxRecDepth 100000
set_option maxHeartbeats 4000000
set_option linter.all false
namespace Sil
open PySem L2 Mi
theorem Same.src {H1 H2 H3 : Hp} {S : Addr} (k : Same H1 H2) (h : H1 S = none) (k2 : Keep S H2 H3) : Same H1 H3 := fun b o e => k2 b o (k b o e) (ne_of_none e h)
/-! ### a web behind draws -/
def Wb (K : PySem.W.Frag) (C S : Addr) (H : Hp) (p n : Addr) (ts : List (Nat × Nat)) : Prop := ∃ dx tp np, np ≠ S ∧ H p = some (.ins C dx (wf n tp np)) ∧ H np = some (.lst (iv (nearOf n ts))) ∧ TiesAt K H tp ts
section
variable {K : PySem.W.Frag} {C S p n : Addr} {H H' : Hp} {ts : List (Nat × Nat)}
theorem Wb.same (k : Same H H') (h : Wb K C S H p n ts) : Wb K C S H' p n ts :=
  let ⟨dx, tp, np, h0, h1, h2, h3⟩ := h; ⟨dx, tp, np, h0, k _ _ h1, k _ _ h2, same_ties k h3⟩
theorem Wb.keep (k : Keep S H H') (hS : Src H S) (h : Wb K C S H p n ts) : Wb K C S H' p n ts := by
  obtain ⟨dx, tp, np, h0, h1, h2, h3⟩ := h
  have pS : p ≠ S := fun e => by
    obtain ⟨_, _, _, _, _, hS⟩ := hS
    rw [e, hS] at h1
    cases h1
  obtain ⟨_, _, _, _, _, hS'⟩ := id hS
  exact ⟨dx, tp, np, h0, k _ _ h1 pS, k _ _ h2 h0, k.ties hS' (fun _ z => by cases z) (fun _ _ z => by cases z) h3⟩
theorem Wb.web (h : Wb K C S H p n ts) : WebAt K C H p n ts := let ⟨dx, tp, np, _, h1, h2, h3⟩ := h; ⟨dx, tp, np, h1, h2, h3⟩
theorem Wb.near (h : Wb K C S H p n ts) : NearAt C H p n (nearOf n ts) := let ⟨dx, tp, np, _, h1, h2, _⟩ := h; ⟨dx, tp, np, h1, h2⟩
end
/-! ### tuples of lots, alike -/
theorem eqv_dI (l : List Int) : PyData.eqv (dI l) (dI l) = true := PySem.W.eqv_refl_alike _ (alike_dI l l)
theorem lay_ints : ∀ l : List Int, PyData.canLayAll0 (l.map .int) = true
  | [] => rfl
  | x :: l => by
    rw [List.map_cons, PyData.canLayAll0, lay_ints l]
    rfl
theorem shaped_dI (l : List Int) : PySem.SeqAt.shaped (dI l) = true := by
  unfold PySem.SeqAt.shaped dI
  rw [PyData.canLay0, lay_ints, PyData.depth, PySem.W.depth_ints]
  rfl
theorem lot_ne {m : Nat} (h : m ≠ 0) : lot m ≠ [] := fun e => h (lot_nil e)
theorem best_ne {nr : Nat → Nat} {n m : Nat} {g : Int} (B : Best nr (2 ^ n - 1) g m) (hn : 1 ≤ n) : lot m ≠ [] := by
  refine lot_ne (sol_ne B.sol ?_)
  have : 2 ^ 1 ≤ 2 ^ n := Nat.pow_le_pow_right (by decide) hn
  omega
theorem best_len {nr : Nat → Nat} {n m : Nat} {g : Int} (B : Best nr (2 ^ n - 1) g m) (hn : n ≤ 24) : (lot m).length ≤ 24 := by
  have := pc_le (lt_of_sub (Nat.sub_lt (Nat.two_pow_pos n) (by decide)) B.sol.sub)
  unfold pc at this
  omega
theorem best_lt {nr : Nat → Nat} {n m : Nat} {g : Int} (B : Best nr (2 ^ n - 1) g m) : m < 2 ^ n := lt_of_sub (Nat.sub_lt (Nat.two_pow_pos n) (by decide)) B.sol.sub
/-! ### dicts of numbers -/
theorem lift_ex {α β : Type} {f : α → β} : ∀ {L : List β}, (∀ p ∈ L, ∃ k, f k = p) → ∃ M : List α, L = M.map f
  | [], _ => ⟨[], rfl⟩
  | p :: L, h => by
    obtain ⟨k, rfl⟩ := h p List.mem_cons_self
    obtain ⟨M, rfl⟩ := lift_ex (L := L) fun q hq => h q (List.mem_cons_of_mem _ hq)
    exact ⟨k :: M, rfl⟩
def inl (j : Nat) : Key := Sum.inl (j : Int)
theorem inl_inj {i j : Nat} (h : inl i = inl j) : i = j := by
  have := Sum.inl.inj h
  omega
theorem DK.keys {kvs : List (Key × V)} {g : Nat → Nat} (D : DK kvs g) : ∃ ka : List Nat, kvs.map (·.1) = ka.map inl ∧ ka.Nodup ∧ ∀ j, j ∈ ka ↔ g j ≠ 0 := by
  obtain ⟨ka, e⟩ := lift_ex (f := inl) (L := kvs.map (·.1)) fun p hp => by
    obtain ⟨i, rfl⟩ := D.key p hp
    exact ⟨i, rfl⟩
  have nd : ka.Nodup := by
    have h := D.nd
    rw [e] at h
    exact (List.pairwise_map.mp h).imp fun {x y} h z => h (by rw [z])
  refine ⟨ka, e, nd, fun j => ⟨fun h => ?_, fun h => ?_⟩⟩
  · have hk : inl j ∈ kvs.map (·.1) := by
      rw [e]
      exact List.mem_map.mpr ⟨j, h, rfl⟩
    obtain ⟨p, hp, ep⟩ := List.mem_map.mp hk
    obtain ⟨i, hi⟩ := List.getElem?_of_mem hp
    obtain ⟨j', e', h'⟩ := D.has (k := p.1) (v := p.2) hi
    have : j = j' := inl_inj (ep.symm.trans e')
    rw [this]
    exact h'
  · have := valV_in (D.hit h)
    rw [e] at this
    obtain ⟨i, hi, ei⟩ := List.mem_map.mp this
    rw [← inl_inj ei]
    exact hi
theorem DK.few {kvs : List (Key × V)} {g : Nat → Nat} {b : Nat} (D : DK kvs g) (h : ∀ j, g j ≠ 0 → j < b) : kvs.length ≤ b := by
  obtain ⟨ka, e, nd, m⟩ := D.keys
  have h1 := congrArg List.length e
  rw [List.length_map, List.length_map] at h1
  have h2 := len_sub (m := List.range b) nd fun x hx => List.mem_range.mpr (h x ((m x).mp hx))
  rw [List.length_range] at h2
  omega
theorem count_ne {l : List Nat} {j : Nat} : l.count j ≠ 0 ↔ j ∈ l := by
  rw [← List.count_pos_iff]
  omega
theorem lists_few {nr : Nat → Nat} {n : Nat} {l : List Nat} (L : Lists nr (2 ^ n - 1) l) {j : Nat} (h : (l.map pc).count j ≠ 0) : j < n + 1 := by
  obtain ⟨c, hc, rfl⟩ := List.mem_map.mp (count_ne.mp h)
  have := pc_le (lt_of_sub (Nat.sub_lt (Nat.two_pow_pos n) (by decide)) ((L.mem c).mp hc).sub)
  omega
/-- one more of a number -/
theorem DK.more {kvs : List (Key × V)} {g : Nat → Nat} (D : DK kvs g) (k x : Nat) (hx : x ≠ 0) : DK (putK kvs (Sum.inl (k : Int)) (.int ((g k + x : Nat) : Int))) (fun i => g i + if k = i then x else 0) := by
  refine (D.put k (g k + x) (by omega)).congr fun i => ?_
  by_cases e : i = k
  · rw [if_pos e, e, if_pos rfl]
  · rw [if_neg e, if_neg fun z => e z.symm]
    rfl
theorem take_snoc {l : List Nat} {j x : Nat} (h : l[j]? = some x) : l.take (j + 1) = l.take j ++ [x] := by
  rw [List.take_add_one, h]
  rfl
end Sil
end

section
set_option Elab.async false
set_option maxRecDepth 100000
set_option maxHeartbeats 16000000
set_option linter.all false
namespace Sil
open PySem L2 Mi
theorem key_at {kvs : List (Key × V)} {ka : List Nat} (e : kvs.map (·.1) = ka.map inl) {j : Nat} {k : Key} {v : V} (h : kvs[j]? = some (k, v)) : ∃ a, ka[j]? = some a ∧ k = inl a := by
  have h1 : (kvs.map (·.1))[j]? = some k := by rw [List.getElem?_map, h]; rfl
  rw [e, List.getElem?_map] at h1
  cases e2 : ka[j]? with
  | none => rw [e2] at h1; cases h1
  | some a =>
    rw [e2] at h1
    exact ⟨a, rfl, (Option.some.inj h1).symm⟩
theorem upd_swap {H : Hp} {x y : Addr} {o u : HO} (h : x ≠ y) : upd (upd H x o) y u = upd (upd H y u) x o := by
  funext b
  by_cases z : b = y
  · rw [z, upd_same, upd_ne h.symm, upd_same]
  · rw [upd_ne z]
    by_cases w : b = x
    · rw [w, upd_same, upd_same]
    · rw [upd_ne w, upd_ne w, upd_ne z]
theorem row_same {n : Nat} {nr nr' : Nat → Nat} (R : RowN n nr) (R' : RowN n nr') (p : Nat) : nr p = nr' p := Mi.ext fun q => Bool.eq_iff_iff.mpr ((R p q).trans (R' p q).symm)
theorem unlock {HB H' : Hp} {d : Addr} {u fz : HO} (h : HB d = some u) (k : Same (upd HB d fz) H') : Same HB (upd H' d u) := fun b o e => by
  by_cases z : b = d
  · rw [z, upd_same, ← h, ← z]
    exact e
  · rw [upd_ne z]
    exact k b o (by rw [upd_ne z]; exact e)
theorem sol_iff_best {nr : Nat → Nat} {f c : Nat} {cs : List Nat} {g : Int} {L : List Nat} (LL : Lists nr f L) (e : L = c :: cs) : Best nr f g (bestOf g c cs) := by
  rw [e] at LL
  exact bestOf_best LL
section
variable {P : Program} {w : World} {K : PySem.W.Frag} {mg : Str → Option Value} {base : Heap}
def spLaw (K : PySem.W.Frag) : Sp := fun vs H Q _ => ∃ (a : Addr) (ns : List Int), vs = [V.ref a] ∧ SqL K H a (ns.map V.int) ∧ ns.length ≤ 63 ∧ ∀ H', Q (.bl true) H'
theorem ok_law (T : Txt K mg) : FnOk P w K mg base CX0 43 T.law.f T.law.fd ["_law_script"] (spLaw K) := by
  refine T.law.F.ok sc_law (fun vs H Q E h => ?_) (fun cdv A outer s H vs Q E hr h => ?_)
  · obtain ⟨a, ns, rfl, _⟩ := h
    rfl
  · obtain ⟨a, ns, rfl, ha, h63, q⟩ := h
    have nd := sc_law.nd
    have hu := hu_of hr
    refine ⟨_, (pss_cons (ps_if (pt_not (pt_val (pe_call (ok_groups T) (hr.mono (by decide)) (by rfl) T.law_groups_hold.g T.law_groups_hold.F.kp T.law_groups_hold.b .nil pass0 (pa_cons (pe_call (ok_law_source T) (hr.mono (by decide)) (by rfl) T.law_source.g T.law_source.F.kp T.law_source.b .nil pass0 (pa_cons (pv 0) (pa_cons pe_int pa_nil))) pa_nil))))
        (pss_one (ps_ret pe_bl))
        pss_nil)
      (pss_cons (ps_for PassesOwn.never rfl (pi_range1 (by rfl) T.b_range (pa_cons pe_int pa_nil)) (pg_name (i := 1) nd rfl (Or.inl rfl))
        (pss_cons (ps_set (i := 2) nd rfl (Or.inl rfl) (pe_call (ok_law_source T) (hr.mono (by decide)) (by rfl) T.law_source.g T.law_source.F.kp T.law_source.b .nil pass0 (pa_cons (pv 0) (pa_cons (pv 1) pa_nil))))
          (pss_cons (ps_set (i := 3) nd rfl (Or.inr rfl) (pe_call (ok_law_size T) (hr.mono (by decide)) (by rfl) T.law_size.g T.law_size.F.kp T.law_size.b .nil pass0 (pa_cons (pv 2) (pa_cons pe_int pa_nil))))
          (pss_cons (ps_set (i := 4) nd rfl (Or.inl rfl) (pe_call (ok_law_ties T) (hr.mono (by decide)) (by rfl) T.law_ties.g T.law_ties.F.kp T.law_ties.b .nil pass0 (pa_cons (pv 2) (pa_cons (pv 3) pa_nil))))
          (pss_cons (ps_set (i := 5) nd rfl (Or.inl rfl) (pe_make T.Web_init.m (ok_Web_init T) (hr.mono (by decide)) (by rfl) T.gWeb T.Web_init.b .nil pass0 (pa_cons (pv 3) (pa_cons (pv 4) pa_nil))))
          (pss_cons (ps_set (i := 6) nd rfl (Or.inl rfl) (pe_call (ok_law_rests T) (hr.mono (by decide)) (by rfl) T.law_rests.g T.law_rests.F.kp T.law_rests.b .nil pass0 (pa_cons (pv 3) (pa_cons (pv 4) pa_nil))))
          (pss_cons (ps_if (pt_not (pt_val (pe_call (ok_same_tup T) (hr.mono (by decide)) (by rfl) T.law_same.g T.law_same.F.kp T.law_same.b .nil pass0 (pa_cons (pe_call (ok_smallest_rest T) (hr.mono (by decide)) (by rfl) T.smallest_rest.g T.smallest_rest.F.kp T.smallest_rest.b .nil pass0 (pa_cons (pv 5) pa_nil)) (pa_cons (pe_call (ok_law_least T) (hr.mono (by decide)) (by rfl) T.law_least.g T.law_least.F.kp T.law_least.b .nil pass0 (pa_cons (pv 6) (pa_cons pe_int pa_nil))) pa_nil)))))
            (pss_one (ps_ret pe_bl))
            pss_nil)
          (pss_cons (ps_if (pt_not (pt_val (pe_call (ok_same_tup T) (hr.mono (by decide)) (by rfl) T.law_same.g T.law_same.F.kp T.law_same.b .nil pass0 (pa_cons (pe_call (ok_greatest_rest T) (hr.mono (by decide)) (by rfl) T.greatest_rest.g T.greatest_rest.F.kp T.greatest_rest.b .nil pass0 (pa_cons (pv 5) pa_nil)) (pa_cons (pe_call (ok_law_least T) (hr.mono (by decide)) (by rfl) T.law_least.g T.law_least.F.kp T.law_least.b .nil pass0 (pa_cons (pv 6) (pa_cons (pe_un un_neg pe_int) pa_nil))) pa_nil)))))
            (pss_one (ps_ret pe_bl))
            pss_nil)
          (pss_cons (ps_set (i := 7) nd rfl (Or.inl rfl) pe_dnewK)
          (pss_cons (ps_for PassesOwn.never rfl (pi_list (pv 6)) (pg_name (i := 8) nd rfl (Or.inl rfl))
            (pss_one (ps_dput hu (pv 7) (pe_callB call_len_seq (by rfl) T.b_len PySem.boot_len (pa_cons (pv 8) pa_nil)) (pe_op op_add (pe_dget2 hu (pv 7) (pe_callB call_len_seq (by rfl) T.b_len PySem.boot_len (pa_cons (pv 8) pa_nil)) pe_int ⟨rfl, rfl, rfl, rfl⟩) pe_int) rfl)))
          (pss_cons (ps_set (i := 9) nd rfl (Or.inl rfl) (pe_call (ok_rest_sizes T) (hr.mono (by decide)) (by rfl) T.rest_sizes.g T.rest_sizes.F.kp T.rest_sizes.b .nil pass0 (pa_cons (pv 5) pa_nil)))
          (pss_cons (ps_if (PW.pt (pw_or (pt_not (pt_val (pe_call (ok_same_dict T) (hr.mono (by decide)) (by rfl) T.law_same_dict.g T.law_same_dict.F.kp T.law_same_dict.b .nil pass0 (pa_cons (pv 9) (pa_cons (pv 7) pa_nil))))) (pw_or1 (pt_cmpR op_ne (pe_callB (cr_min rfl) (by rfl) T.b_min (by decide +kernel) (pa_cons (pe_callTy (call_list_dK rfl) (by rfl) T.b_list (by decide +kernel) (pa_cons (pv 9) pa_nil)) pa_nil)) (pe_callB call_len_seq (by rfl) T.b_len PySem.boot_len (pa_cons (pe_call (ok_smallest_rest T) (hr.mono (by decide)) (by rfl) T.smallest_rest.g T.smallest_rest.F.kp T.smallest_rest.b .nil pass0 (pa_cons (pv 5) pa_nil)) pa_nil)) (nomark _)))))
            (pss_one (ps_ret pe_bl))
            pss_nil)
          (pss_cons (ps_dput hu (pv 9) pe_int pe_int rfl)
          (pss_cons (ps_if (pt_not (pt_val (pe_call (ok_same_dict T) (hr.mono (by decide)) (by rfl) T.law_same_dict.g T.law_same_dict.F.kp T.law_same_dict.b .nil pass0 (pa_cons (pe_call (ok_rest_sizes T) (hr.mono (by decide)) (by rfl) T.rest_sizes.g T.rest_sizes.F.kp T.rest_sizes.b .nil pass0 (pa_cons (pv 5) pa_nil)) (pa_cons (pv 7) pa_nil)))))
            (pss_one (ps_ret pe_bl))
            pss_nil)
          (pss_cons (ps_set (i := 10) nd rfl (Or.inl rfl) (pe_op op_add pe_int (pe_call (ok_law_draw T) (hr.mono (by decide)) (by rfl) T.law_draw.g T.law_draw.F.kp T.law_draw.b .nil pass0 (pa_cons (pv 2) (pa_cons pe_int pa_nil)))))
          (pss_cons (ps_set (i := 11) nd rfl (Or.inl rfl) (pe_make T.Web_init.m (ok_Web_init T) (hr.mono (by decide)) (by rfl) T.gWeb T.Web_init.b .nil pass0 (pa_cons (pv 10) (pa_cons (pe_call (ok_law_ties T) (hr.mono (by decide)) (by rfl) T.law_ties.g T.law_ties.F.kp T.law_ties.b .nil pass0 (pa_cons (pv 2) (pa_cons (pv 10) pa_nil))) pa_nil))))
          (pss_cons (ps_set (i := 12) nd rfl (Or.inl rfl) (pe_call (ok_beside T) (hr.mono (by decide)) (by rfl) T.beside.g T.beside.F.kp T.beside.b .nil pass0 (pa_cons (pv 5) (pa_cons (pv 11) pa_nil))))
          (pss_cons (ps_set (i := 13) nd rfl (Or.inl rfl) (pe_callTy call_tuple_of (by rfl) T.b_tuple (by decide +kernel) (pa_cons (pe_lc (own := [("_law_part", 14)]) rfl nd (pi_tup (pe_call (ok_smallest_rest T) (hr.mono (by decide)) (by rfl) T.smallest_rest.g T.smallest_rest.F.kp T.smallest_rest.b .nil pass0 (pa_cons (pv 11) pa_nil))) (blkOk_by (N := n_law) (sc := defScope s_law) (by decide +kernel)) (fun _ _ _ _ _ => (pg_name (i := 14) nd rfl (Or.inl rfl))) (fun _ _ _ _ _ => pts_nil) (fun _ _ _ _ _ => (pe_op op_add (pv 14) (pv 3)))) pa_nil)))
          (pss_cons (ps_if (pt_cmpR (op_neD hr.units) (pe_call (ok_smallest_rest T) (hr.mono (by decide)) (by rfl) T.smallest_rest.g T.smallest_rest.F.kp T.smallest_rest.b .nil pass0 (pa_cons (pv 12) pa_nil)) (pe_op op_catA (pe_call (ok_smallest_rest T) (hr.mono (by decide)) (by rfl) T.smallest_rest.g T.smallest_rest.F.kp T.smallest_rest.b .nil pass0 (pa_cons (pv 5) pa_nil)) (pv 13)) (nomark _))
            (pss_one (ps_ret pe_bl))
            pss_nil)
          (pss_cons (ps_set (i := 15) nd rfl (Or.inl rfl) (pe_call (ok_rest_sizes T) (hr.mono (by decide)) (by rfl) T.rest_sizes.g T.rest_sizes.F.kp T.rest_sizes.b .nil pass0 (pa_cons (pv 5) pa_nil)))
          (pss_cons (ps_set (i := 16) nd rfl (Or.inl rfl) (pe_call (ok_rest_sizes T) (hr.mono (by decide)) (by rfl) T.rest_sizes.g T.rest_sizes.F.kp T.rest_sizes.b .nil pass0 (pa_cons (pv 11) pa_nil)))
          (pss_cons (ps_set (i := 7) nd rfl (Or.inl rfl) pe_dnewK)
          (pss_cons (ps_lock (ps_for PassesOwn.never rfl (pi_keys (pv 15)) (pg_name (i := 17) nd rfl (Or.inl rfl))
            (pss_one (ps_lock (ps_for PassesOwn.never rfl (pi_keys (pv 16)) (pg_name (i := 18) nd rfl (Or.inl rfl))
                (pss_one (ps_dput hu (pv 7) (pe_op op_add (pv 17) (pv 18)) (pe_op op_add (pe_dget2 hu (pv 7) (pe_op op_add (pv 17) (pv 18)) pe_int ⟨rfl, rfl, rfl, rfl⟩) (pe_op op_mul (pe_dget hu (pv 15) (pv 17) (fun _ _ => rfl)) (pe_dget hu (pv 16) (pv 18) (fun _ _ => rfl)))) rfl)))))))
          (pss_cons (ps_if (pt_not (pt_val (pe_call (ok_same_dict T) (hr.mono (by decide)) (by rfl) T.law_same_dict.g T.law_same_dict.F.kp T.law_same_dict.b .nil pass0 (pa_cons (pe_call (ok_rest_sizes T) (hr.mono (by decide)) (by rfl) T.rest_sizes.g T.rest_sizes.F.kp T.rest_sizes.b .nil pass0 (pa_cons (pv 12) pa_nil)) (pa_cons (pv 7) pa_nil)))))
            (pss_one (ps_ret pe_bl))
            pss_nil)
          (pss_cons (ps_set (i := 13) nd rfl (Or.inl rfl) (pe_callTy call_tuple_of (by rfl) T.b_tuple (by decide +kernel) (pa_cons (pe_lc (own := [("_law_part", 14)]) rfl nd (pi_tup (pe_call (ok_greatest_rest T) (hr.mono (by decide)) (by rfl) T.greatest_rest.g T.greatest_rest.F.kp T.greatest_rest.b .nil pass0 (pa_cons (pv 11) pa_nil))) (blkOk_by (N := n_law) (sc := defScope s_law) (by decide +kernel)) (fun _ _ _ _ _ => (pg_name (i := 14) nd rfl (Or.inl rfl))) (fun _ _ _ _ _ => pts_nil) (fun _ _ _ _ _ => (pe_op op_add (pv 14) (pv 3)))) pa_nil)))
          (pss_one (ps_if (pt_cmpR (op_neD hr.units) (pe_call (ok_greatest_rest T) (hr.mono (by decide)) (by rfl) T.greatest_rest.g T.greatest_rest.F.kp T.greatest_rest.b .nil pass0 (pa_cons (pv 12) pa_nil)) (pe_op op_catA (pe_call (ok_greatest_rest T) (hr.mono (by decide)) (by rfl) T.greatest_rest.g T.greatest_rest.F.kp T.greatest_rest.b .nil pass0 (pa_cons (pv 5) pa_nil)) (pv 13)) (nomark _))
            (pss_one (ps_ret pe_bl))
            pss_nil)))))))))))))))))))))))))))
      (pss_cons (ps_set (i := 19) nd rfl (Or.inl rfl) (pe_op op_add pe_int (pe_call (ok_law_draw T) (hr.mono (by decide)) (by rfl) T.law_draw.g T.law_draw.F.kp T.law_draw.b .nil pass0 (pa_cons (pe_call (ok_law_source T) (hr.mono (by decide)) (by rfl) T.law_source.g T.law_source.F.kp T.law_source.b .nil pass0 (pa_cons (pv 0) (pa_cons pe_int pa_nil))) (pa_cons pe_int pa_nil)))))
      (pss_cons (ps_set (i := 20) nd rfl (Or.inl rfl) (pe_call (ok_smallest_rest T) (hr.mono (by decide)) (by rfl) T.smallest_rest.g T.smallest_rest.F.kp T.smallest_rest.b .nil pass0 (pa_cons (pe_call (ok_row T) (hr.mono (by decide)) (by rfl) T.row.g T.row.F.kp T.row.b .nil pass0 (pa_cons (pv 19) pa_nil)) pa_nil)))
      (pss_cons (ps_set (i := 21) nd rfl (Or.inl rfl) (pe_call (ok_greatest_rest T) (hr.mono (by decide)) (by rfl) T.greatest_rest.g T.greatest_rest.F.kp T.greatest_rest.b .nil pass0 (pa_cons (pe_call (ok_row T) (hr.mono (by decide)) (by rfl) T.row.g T.row.F.kp T.row.b .nil pass0 (pa_cons (pv 19) pa_nil)) pa_nil)))
      (pss_cons (ps_if (PW.pt (pw_or (pt_cmpR op_ne (pe_callB call_len_seq (by rfl) T.b_len PySem.boot_len (pa_cons (pv 20) pa_nil)) (pe_op op_fdiv (pe_op op_add (pv 19) pe_int) pe_int) (nomark _)) (pw_or1 (pt_cmpR op_ne (pe_callB call_len_seq (by rfl) T.b_len PySem.boot_len (pa_cons (pv 21) pa_nil)) (pe_op op_fdiv (pe_op op_add (pv 19) pe_int) pe_int) (nomark _)))))
        (pss_one (ps_ret pe_bl))
        pss_nil)
      (pss_one (ps_ret (pe_and (pe_cmpR op_isBl (pe_call (ok_is_rest T) (hr.mono (by decide)) (by rfl) T.is_rest.g T.is_rest.F.kp T.is_rest.b .nil pass0 (pa_cons (pe_call (ok_row T) (hr.mono (by decide)) (by rfl) T.row.g T.row.F.kp T.row.b .nil pass0 (pa_cons (pv 19) pa_nil)) (pa_cons (pv 20) pa_nil))) pe_bl (nomark _)) (pe_one (pe_cmpR op_isBl (pe_call (ok_is_rest T) (hr.mono (by decide)) (by rfl) T.is_rest.g T.is_rest.F.kp T.is_rest.b .nil pass0 (pa_cons (pe_call (ok_row T) (hr.mono (by decide)) (by rfl) T.row.g T.row.F.kp T.row.b .nil pass0 (pa_cons (pv 19) pa_nil)) (pa_cons (pv 21) pa_nil))) pe_bl (nomark _)))))))))))), ?_⟩
    -- the groups
    refine ⟨_, rfl, a, ns, 9, rfl, ha, h63, fun S0 H1 k1 nS0 s1 => ?_⟩
    refine ⟨S0, rfl, s1, fun H2 k2 => ⟨true, rfl, iteF ?_⟩⟩
    have k12 : Same H H2 := Same.src k1 nS0 k2
    refine ⟨_, rfl, (by decide), (by decide), for_it walk_range (fun i st H3 => ∃ (x1 x2 x3 x4 x5 x6 x7 x8 x9 x10 x11 x12 x13 x14 x15 x16 x17 x18 x19 x20 x21 : Option V), st = [some (.ref a), x1, x2, x3, x4, x5, x6, x7, x8, x9, x10, x11, x12, x13, x14, x15, x16, x17, x18, x19, x20, x21] ∧ Same H H3)
      ⟨none, none, none, none, none, none, none, none, none, none, none, none, none, none, none, none, none, none, none, none, none, rfl, k12⟩ (fun _ _ _ _ _ => trivial) ?_ ?_⟩
    · rintro i zz st H3 H4 hi ⟨x1, x2, x3, x4, x5, x6, x7, x8, x9, x10, x11, x12, x13, x14, x15, x16, x17, x18, x19, x20, x21, rfl, kH⟩ ⟨rfl, rfl⟩
      show gName 1 (.int (0 + (i : Int))) _ _ _
      rw [Int.zero_add]
      have haH := kH.seq ha
      refine ⟨_, rfl, _, rfl, a, ns, i, rfl, haH, h63, fun S H1 k1 nS s1 => ?_⟩
      have SH : H S = none := kH.free nS
      refine ⟨_, rfl, S, 8, rfl, s1, by decide, by decide, fun n H2 n1 n8 k2 s2 => ?_⟩
      refine ⟨_, rfl, _, rfl, S, n, rfl, s2, n1, n8, fun tp ts H5 k5 s5 ntp hta hti pw tl => ?_⟩
      have kH5 : Same H H5 := Same.src (kH.trans k1) SH (k2.trans k5)
      -- the web
      refine ⟨_, rfl, _, rfl, fun W dx nW ndx nWd => ?_⟩
      have kW : Same H5 (upd (upd H5 dx (.own W)) W (.ins T.CWeb dx [])) := fun b o e => by
        rw [upd_ne (ne_of_none e nW), upd_ne (ne_of_none e ndx)]
        exact e
      refine ⟨W, dx, tp, n, ts, rfl, upd_same, n1, by omega, hti, pw, same_ties kW hta, fun H6 np nnp hW hNp kk => ⟨rfl, ?_⟩⟩
      have k56 : Same H5 H6 := fun b o e => kk b o (kW b o e) (ne_of_none e nW)
      have wb6 : Wb K T.CWeb S H6 W n ts := ⟨dx, tp, np, fun e => (by
        rw [e] at nnp
        obtain ⟨_, _, _, _, _, h⟩ := s5.same kW
        rw [h] at nnp
        cases nnp), hW, hNp, same_ties k56 hta⟩
      have Gd := good_near hti
      -- all rests
      refine ⟨_, rfl, _, rfl, n, tp, ts, rfl, n1, n8, hti, same_ties k56 hta, fun Ev ks H7 k7 nEv hEv aEv LL => ?_⟩
      obtain ⟨c0, cs, ec⟩ := lists_ne Gd.gr LL
      have n24 : n ≤ 24 := by omega
      -- the smallest
      refine ⟨_, rfl, W, n, _, rfl, (wb6.same k7).near, Gd, n24, fun m1 a1 H8 k8 _ ha1 B1 => ?_⟩
      refine ⟨_, rfl, Ev, ks, 1, c0, cs, rfl, .inl rfl, k8 _ _ hEv, aEv.same k8, ec, fun t1 H9 k9 ht1 => ?_⟩
      have e1 := B1.uniq (sol_iff_best (g := 1) LL ec)
      refine ⟨a1, t1, lot m1, rfl, SqT.of (k9 _ _ ha1), SqT.of (by rw [e1]; exact ht1), best_len B1 n24, fun H10 k10 => ⟨true, rfl, iteF ?_⟩⟩
      have k710 := (k8.trans k9).trans k10
      -- the greatest
      refine ⟨_, rfl, W, n, _, rfl, ((wb6.same k7).same k710).near, Gd, n24, fun m2 a2 H11 k11 _ ha2 B2 => ?_⟩
      refine ⟨_, rfl, _, rfl, Ev, ks, -1, c0, cs, rfl, .inr rfl, (k710.trans k11) _ _ hEv, (aEv.same k710).same k11, ec, fun t2 H12 k12 ht2 => ?_⟩
      have e2 := B2.uniq (sol_iff_best (g := -1) LL ec)
      refine ⟨a2, t2, lot m2, rfl, SqT.of (k12 _ _ ha2), SqT.of (by rw [e2]; exact ht2), best_len B2 n24, fun H13 k13 => ⟨true, rfl, iteF ?_⟩⟩
      have k713 : Same H7 H13 := ((k710.trans k11).trans k12).trans k13
      have wb13 := (wb6.same k7).same k713
      have kH13 : Same H H13 := ((kH5.trans k56).trans k7).trans k713
      have s13 : Src H13 S := ((s5.same k56).same k7).same k713
      -- the sizes
      intro d nd13
      have few := LL.few
      rw [List.length_map] at few
      refine ⟨_, rfl, Ev, rfl, ⟨_, SqL.of ((nw nd13) _ _ (k713 _ _ hEv))⟩, for_it (walk_list (xs := rl ks)) (fun j st H14 => ∃ (x : Option V) (kvs : List (Key × V)), st = [some (.ref a), some (.int (i : Int)), some (.ref S), some (.int (n : Int)), some (.ref tp), some (.ref W), some (.ref Ev), some (.ref d), x, x9, x10, x11, x12, x13, x14, x15, x16, x17, x18, x19, x20, x21] ∧
          Same H13 H14 ∧ H14 d = some (.dK kvs) ∧ kvs.length ≤ j ∧ DK kvs (fun r => (((ks.map Prod.snd).take j).map pc).count r))
        ⟨_, [], rfl, nw nd13, upd_same, Nat.le_refl _, dk_nil⟩ (fun j st H14 _ ⟨_, _, _, k, _⟩ => SqL.of (k _ _ (k713 _ _ hEv))) ?_ ?_⟩
      · rintro j z st H14 H15 hj ⟨x, kvs, rfl, k14, h14, len, D⟩ ⟨rfl, hz⟩
        rw [rl_len] at hj
        obtain ⟨k, hkj, rfl⟩ := rl_get hz
        have hk := k14 _ _ (k713 _ _ (aEv k (List.mem_of_getElem? hkj)))
        refine ⟨_, rfl, d, rfl, .inl ⟨kvs, .inl h14⟩, _, rfl, k.1, _, rfl, .inr (SqT.of hk), _, DGet.k (k := Sum.inl (((iv (lot k.2)).length : Nat) : Int)) h14, ?_⟩
        rw [D.getD]
        refine ⟨_, _, rfl, rfl, _, rfl, _, rfl, k.1, _, rfl, .inr (SqT.of hk), d, _, rfl, DPut.k (k := Sum.inl (((iv (lot k.2)).length : Nat) : Int)) h14 (lt_line (by omega)), ?_⟩
        refine ⟨_, _, rfl, same_put k14 nd13, upd_same, Nat.le_trans (length_putK _ _ _) (by omega), ?_⟩
        have D2 := D.more (iv (lot k.2)).length 1 (by decide)
        refine D2.congr fun r => ?_
        rw [take_snoc (x := k.2) (by rw [List.getElem?_map, hkj]; rfl), List.map_append, List.count_append, List.map_singleton, List.count_singleton, iv_length]
        congr 1
        show (if pc k.2 = r then 1 else 0) = _
        by_cases e : pc k.2 = r
        · rw [if_pos e, if_pos (beq_iff_eq.mpr e)]
        · rw [if_neg e, if_neg fun z => e (beq_iff_eq.mp z)]
      · rintro st H14 ⟨x, kvs1, rfl, k14, h14, len, D1⟩
        rw [rl_len, ← List.length_map (f := Prod.snd) (as := ks), List.take_length] at D1
        have len1 : kvs1.length ≤ 9 := D1.few fun j hj => Nat.lt_of_lt_of_le (lists_few LL hj) (by omega)
        have wb14 := wb13.same k14
        -- told
        refine ⟨_, rfl, W, n, _, rfl, wb14.near, Gd, by omega, fun l2' td kvs2 H15 k15 ntd htd LL2 D2 => ?_⟩
        have dtd : td ≠ d := fun e => by rw [e, h14] at ntd; cases ntd
        have D2' : DK kvs2 (fun r => (((ks.map Prod.snd)).map pc).count r) := D2.congr fun r => LL2.count LL r
        refine ⟨_, rfl, _, rfl, td, d, kvs2, kvs1, _, rfl, dtd, htd, k15 _ _ h14, D2', D1, by omega, fun H16 k16 => ⟨true, rfl, iteF ?_⟩⟩
        -- min(list(told)) is the smallest's length
        obtain ⟨ka, eka, nka, mka⟩ := D2'.keys
        refine ⟨_, rfl, td, kvs2, rfl, k16 _ _ htd, fun ls nls => ?_⟩
        have els : (kvs2.map fun kv => kV kv.1) = (zi ka).map V.int := by
          have : (kvs2.map fun kv => kV kv.1) = (kvs2.map (·.1)).map kV := by rw [List.map_map]; rfl
          rw [this, eka, List.map_map]
          unfold zi
          rw [List.map_map]
          rfl
        rw [els]
        have kls := nw (o := HO.lst ((zi ka).map V.int)) nls
        have memka : ∀ j, j ∈ ka ↔ j ∈ (ks.map Prod.snd).map pc := fun j => (mka j).trans count_ne
        have pos : 0 < (zi ka).length := by
          have : pc c0 ∈ ka := (memka _).mpr (List.mem_map.mpr ⟨c0, by rw [ec]; exact List.mem_cons_self, rfl⟩)
          unfold zi
          rw [List.length_map]
          exact List.length_pos_of_mem this
        refine ⟨ls, zi ka, rfl, SqL.of upd_same, pos, fun mm hmm hle => ?_⟩
        obtain ⟨j0, hj0, rfl⟩ := List.mem_map.mp hmm
        refine ⟨_, rfl, W, n, _, rfl, (((wb14.same k15).same k16).same kls).near, Gd, n24, fun m3 a3 H17 k17 _ ha3 B3 => ?_⟩
        refine ⟨a3, _, rfl, .inr (SqT.of ha3), rfl, _, rfl, ite2 (fun z => ?_) fun _ => ?_⟩
        · exfalso
          have ej : j0 = (iv (lot m3)).length := by
            rw [iv_length]
            obtain ⟨c, hc, ecj⟩ := List.mem_map.mp ((memka j0).mp hj0)
            have h1 : pc m3 ≤ j0 := by
              rw [← ecj]
              exact best_min B3 ((LL.mem c).mp hc)
            have h2 := hle ((pc m3 : Nat) : Int) (List.mem_map.mpr ⟨pc m3, (memka _).mpr (List.mem_map.mpr ⟨m3, (LL.mem m3).mpr B3.sol, rfl⟩), rfl⟩)
            show j0 = pc m3
            omega
          rw [ej, decide_eq_true rfl] at z
          cases z
        have k1517 : Same H15 H17 := (k16.trans kls).trans k17
        -- told[0] = 7
        have len2 : kvs2.length ≤ 9 := D2'.few fun j hj => Nat.lt_of_lt_of_le (lists_few LL hj) (by omega)
        refine ⟨_, rfl, td, _, rfl, DPut.k (k := Sum.inl 0) (k1517 _ _ htd) (lt_line (by omega)), ?_⟩
        have k1418 := same_put (o := HO.dK (putK kvs2 (Sum.inl 0) (.int 7))) (k15.trans k1517) ntd
        generalize upd H17 td (.dK (putK kvs2 (Sum.inl 0) (.int 7))) = H18 at k1418 ⊢
        -- told anew
        refine ⟨_, rfl, W, n, _, rfl, (wb14.same k1418).near, Gd, by omega, fun l3 t3 kvs3 H19 k19 nt3 ht3 LL3 D3 => ?_⟩
        have k1419 := k1418.trans k19
        have dt3 : t3 ≠ d := fun e => by rw [e, k1418 _ _ h14] at nt3; cases nt3
        refine ⟨_, rfl, t3, d, kvs3, kvs1, _, rfl, dt3, ht3, k1419 _ _ h14, D3.congr fun r => LL3.count LL r, D1, by omega, fun H20 k20 => ⟨true, rfl, iteF ?_⟩⟩
        have k1320 : Same H13 H20 := k14.trans (k1419.trans k20)
        -- the other web
        refine ⟨_, rfl, S, 8, rfl, s13.same k1320, by decide, by decide, fun e0 H21 he0 k21 s21 => ⟨_, _, rfl, rfl, ?_⟩⟩
        show gName 10 (.int (1 + (e0 : Int))) _ _ _
        rw [show (1 : Int) + (e0 : Int) = ((1 + e0 : Nat) : Int) by omega]
        have m1' : 1 ≤ 1 + e0 := by omega
        have m8 : 1 + e0 ≤ 8 := by omega
        generalize 1 + e0 = m at m1' m8 ⊢
        have wb21 := (wb13.same k1320).keep k21 (s13.same k1320)
        refine ⟨_, rfl, _, rfl, _, rfl, S, m, rfl, s21, m1', m8, fun tq us H22 k22 s22 ntq htq hui pu ul => ?_⟩
        have wb22 := wb21.keep k22 s21
        have kH22 : Same H H22 := Same.src (kH13.trans k1320) SH (k21.trans k22)
        refine fun W2 dx2 nW2 ndx2 nWd2 => ?_
        have kW2 : Same H22 (upd (upd H22 dx2 (.own W2)) W2 (.ins T.CWeb dx2 [])) := fun b o e => by
          rw [upd_ne (ne_of_none e nW2), upd_ne (ne_of_none e ndx2)]
          exact e
        refine ⟨W2, dx2, tq, m, us, rfl, upd_same, m1', by omega, hui, pu, same_ties kW2 htq, fun H23 np2 nnp2 hW2 hNp2 kk2 => ⟨rfl, ?_⟩⟩
        have k23 : Same H22 H23 := fun b o e => kk2 b o (kW2 b o e) (ne_of_none e nW2)
        have wb23 := wb22.same k23
        have web2 : WebAt K T.CWeb H23 W2 m us := ⟨dx2, tq, np2, hW2, hNp2, same_ties k23 htq⟩
        have Gd2 := good_near hui
        -- beside one another
        refine ⟨_, rfl, _, rfl, W, W2, n, m, ts, us, rfl, wb23.web, web2, hti, hui, by omega, by omega, fun Bo ws H24 k24 _ hBo mem => ?_⟩
        have hwi : TiesIn (n + m) ws := fun t ht => by
          rcases (mem t).mp ht with h | h
          · have := hti t h
            omega
          · obtain ⟨u, hu', rfl⟩ := List.mem_map.mp h
            have := hui u hu'
            show u.1 + n < u.2 + n ∧ u.2 + n < n + m
            omega
        have Gd3 := good_near hwi
        have JJ := join_of hti hui hwi mem
        have wb24 := wb23.same k24
        have web2' := same_web k24 web2
        have nm24 : n + m ≤ 24 := by omega
        have m24 : m ≤ 24 := by omega
        refine ⟨_, rfl, W2, m, _, rfl, web2'.near, Gd2, m24, fun bm bt H25 kb _ hbt BB => ?_⟩
        refine ⟨bt, rfl, ⟨_, SqT.of hbt⟩, fun D nD => lc_it (walk_tup (xs := iv (lot bm))) (fun j H26 => Same H25 H26 ∧ H26 D = some (.lst (iv (((lot bm).take j).map (· + n)))))
          ⟨same_new nD, upd_same⟩ (fun j H26 _ ⟨k, _⟩ => SqT.of (k _ _ hbt)) ?_ ?_⟩
        · rintro j z H26 H27 hj ⟨k26, hD⟩ ⟨rfl, hz⟩
          obtain ⟨c, hc, rfl⟩ := iv_get hz
          have bl := best_len BB m24
          refine ⟨rfl, yesT ?_⟩
          refine ⟨_, rfl, _, rfl, _, _, rfl, rfl, _, hD, ?_, same_put k26 nD, ?_⟩
          · rw [iv_length, List.length_map, List.length_take]
            exact lt_line (by omega)
          · rw [upd_same, take_snoc hc]
            unfold iv
            rw [List.map_append, List.map_append]
            rfl
        · rintro H26 ⟨k26, hD⟩
          rw [iv_length, List.take_length] at hD
          refine ⟨D, _, rfl, .inl ⟨SqL.of hD, fun mv nmv => ?_⟩⟩
          have hmv : upd H26 mv (.tup (iv ((lot bm).map (· + n)))) mv = some (.tup (iv ((lot bm).map (· + n)))) := upd_same
          have kmv := kb.trans (k26.trans (nw (o := HO.tup (iv ((lot bm).map (· + n)))) nmv))
          generalize upd H26 mv (.tup (iv ((lot bm).map (· + n)))) = H27 at hmv kmv ⊢
          refine ⟨_, rfl, Bo, n + m, _, rfl, (same_web kmv hBo).near, Gd3, nm24, fun cm ct H28 kc _ hct BC => ?_⟩
          refine ⟨_, rfl, W, n, _, rfl, (wb24.same (kmv.trans kc)).near, Gd, n24, fun am at0 H29 ka' _ hat BA => ?_⟩
          have hmv2 := ka' _ _ (kc _ _ hmv)
          have eC : cm = am ||| bm <<< n := BC.uniq (JJ.best Gd Gd3 (.inl rfl) BA BB)
          have eL : iv (lot am) ++ iv ((lot bm).map (· + n)) = iv (lot cm) := by
            rw [eC, lot_join (best_lt BA)]
            exact List.map_append.symm
          have nA0 : iv (lot am) ≠ [] := fun e => best_ne BA n1 (List.map_eq_nil_iff.mp e)
          have nB0 : iv ((lot bm).map (· + n)) ≠ [] := fun e => best_ne BB m1' (List.map_eq_nil_iff.mp (List.map_eq_nil_iff.mp e))
          refine ⟨_, rfl, at0, mv, _, _, rfl, rfl, SqT.of hat, SqT.of hmv2, ?_, fun e => absurd e nA0, fun _ e => absurd e nB0, fun _ _ pt npt => ?_⟩
          · rw [iv_length, iv_length, List.length_map]
            have := best_len BA n24
            have := best_len BB m24
            exact le_line (by omega)
          rw [eL]
          have kpt := nw (o := HO.tup (iv (lot cm))) npt
          refine ⟨dI (zi (lot cm)), dI (zi (lot cm)), dp_tup (SqT.of (by rw [← iv_zi]; exact kpt _ _ (ka' _ _ hct))), dp_tup (SqT.of (by rw [← iv_zi]; exact upd_same)), shaped_dI _, shaped_dI _, _, rfl, ite2 (fun z => ?_) fun _ => ?_⟩
          · rw [eqv_dI] at z
            cases z
          have k30 := ((kmv.trans kc).trans ka').trans kpt
          -- the numbers of both
          refine ⟨_, rfl, W, n, _, rfl, (wb24.same k30).near, Gd, by omega, fun lA hd kvsA H31 k31 nhd hhd LA DA => ?_⟩
          refine ⟨_, rfl, W2, m, _, rfl, (same_web (k30.trans k31) web2').near, Gd2, by omega, fun lB yd kvsB H32 k32 nyd hyd LB DB => ?_⟩
          intro d2 nd2
          have hhd2 := k32 _ _ hhd
          obtain ⟨kA, eA, nA, mA⟩ := DA.keys
          obtain ⟨kB, eB, nB, mB⟩ := DB.keys
          have lenA : kvsA.length ≤ 9 := DA.few fun j hj => Nat.lt_of_lt_of_le (lists_few LA hj) (by omega)
          have lenB : kvsB.length ≤ 9 := DB.few fun j hj => Nat.lt_of_lt_of_le (lists_few LB hj) (by omega)
          have lkA : kA.length = kvsA.length := by
            have := congrArg List.length eA
            rwa [List.length_map, List.length_map, eq_comm] at this
          have lkB : kB.length = kvsB.length := by
            have := congrArg List.length eB
            rwa [List.length_map, List.length_map, eq_comm] at this
          have hy : hd ≠ yd := fun e => by rw [← e, hhd2.symm.symm] at hyd; rw [e] at hhd; rw [hhd] at nyd; cases nyd
          have hd2 : hd ≠ d2 := fun e => by rw [← e, hhd2] at nd2; cases nd2
          have yd2 : yd ≠ d2 := fun e => by rw [← e, hyd] at nd2; cases nd2
          have bigA : ∀ r, (lA.map pc).count r < 18446744073709551616 := fun r => by
            have h1 := List.count_le_length (a := r) (l := lA.map pc)
            have h2 := LA.few
            rw [List.length_map] at h1
            omega
          refine ⟨hd, .dK kvsA, (nw nd2) _ _ hhd2, trivial, fun od => ?_⟩
          generalize hHB : upd H32 hd (.frz od (.dK kvsA)) = HB
          have hb2 : HB d2 = none := by rw [← hHB, upd_ne hd2.symm]; exact nd2
          have hby : HB yd = some (.dK kvsB) := by rw [← hHB, upd_ne hy.symm]; exact hyd
          have hbh : HB hd = some (.frz od (.dK kvsA)) := by rw [← hHB, upd_same]
          have e0h : upd (upd H32 d2 (.dK [])) hd (.frz od (.dK kvsA)) = upd HB d2 (.dK []) := by
            rw [← hHB]
            exact upd_swap hd2.symm
          rw [e0h]
          have hbh0 : upd HB d2 (.dK []) hd = some (.frz od (.dK kvsA)) := by rw [upd_ne hd2]; exact hbh
          refine ⟨_, rfl, hd, od, rfl, .inl ⟨kvsA, hbh0, for_it walk_keys (fun j st H33 => ∃ (y17 y18 : Option V) (kvs : List (Key × V)), st = [some (.ref a), some (.int (i : Int)), some (.ref S), some (.int (n : Int)), some (.ref tp), some (.ref W), some (.ref Ev), some (.ref d2), x, some (.ref td), some (.int (m : Int)), some (.ref W2), some (.ref Bo), some (.ref mv), x14, some (.ref hd), some (.ref yd), y17, y18, x19, x20, x21] ∧
              Same HB H33 ∧ H33 d2 = some (.dK kvs) ∧ kvs.length ≤ 10 * j ∧ DK kvs (fun r => sm (kA.take j) fun u => sm kB fun v => if u + v = r then (lA.map pc).count u * (lB.map pc).count v else 0))
            ⟨_, _, [], rfl, nw hb2, upd_same, Nat.zero_le _, dk_nil⟩ (fun j st H33 _ ⟨_, _, _, _, k, _⟩ => k _ _ hbh) ?_ ?_⟩⟩
          · rintro j z st H33 H34 hj ⟨y17, y18, kvs, rfl, k33, h33, len33, D33⟩ ⟨rfl, k, v, hkv, rfl⟩
            obtain ⟨u, hu1, rfl⟩ := key_at eA hkv
            have gu : (lA.map pc).count u ≠ 0 := (mA u).mp (List.mem_of_getElem? hu1)
            refine ⟨yd, .dK kvsB, k33 _ _ hby, trivial, fun od' => ?_⟩
            generalize hHC : upd HB yd (.frz od' (.dK kvsB)) = HC
            have k34 : Same HC (upd H34 yd (.frz od' (.dK kvsB))) := fun b o e => by
              rw [← hHC] at e
              by_cases z : b = yd
              · rw [z, upd_same] at e ⊢
                exact e
              · rw [upd_ne z] at e ⊢
                exact k33 b o e
            have hc2 : HC d2 = none := by rw [← hHC, upd_ne yd2.symm]; exact hb2
            have hcy : HC yd = some (.frz od' (.dK kvsB)) := by rw [← hHC, upd_same]
            have hch : HC hd = some (.frz od (.dK kvsA)) := by rw [← hHC, upd_ne hy]; exact hbh
            refine ⟨_, rfl, yd, od', rfl, .inl ⟨kvsB, upd_same, for_it walk_keys (fun j' st H35 => ∃ (y18 : Option V) (kvs : List (Key × V)), st = [some (.ref a), some (.int (i : Int)), some (.ref S), some (.int (n : Int)), some (.ref tp), some (.ref W), some (.ref Ev), some (.ref d2), x, some (.ref td), some (.int (m : Int)), some (.ref W2), some (.ref Bo), some (.ref mv), x14, some (.ref hd), some (.ref yd), some (kV (inl u)), y18, x19, x20, x21] ∧
                Same HC H35 ∧ H35 d2 = some (.dK kvs) ∧ kvs.length ≤ 10 * j + j' ∧ DK kvs (fun r => (sm (kA.take j) fun u => sm kB fun v => if u + v = r then (lA.map pc).count u * (lB.map pc).count v else 0) + sm (kB.take j') fun v => if u + v = r then (lA.map pc).count u * (lB.map pc).count v else 0))
              ⟨_, kvs, rfl, k34, by rw [upd_ne yd2.symm]; exact h33, len33, D33⟩ (fun j st H35 _ ⟨_, _, _, k, _⟩ => k _ _ hcy) ?_ ?_⟩⟩
            · rintro j' z st H35 H36 hj' ⟨y18, kvs', rfl, k35, h35, len35, D35⟩ ⟨rfl, k', v', hkv', rfl⟩
              obtain ⟨r0, hr1, rfl⟩ := key_at eB hkv'
              have gr : (lB.map pc).count r0 ≠ 0 := (mB r0).mp (List.mem_of_getElem? hr1)
              have g1 : DGet H36 hd (kV (inl u)) (some (.int (((lA.map pc).count u : Nat) : Int))) := DA.hit gu ▸ .inl ⟨kvsA, inl u, .inr ⟨od, k35 _ _ hch⟩, rfl, rfl⟩
              have g2 : DGet H36 yd (kV (inl r0)) (some (.int (((lB.map pc).count r0 : Nat) : Int))) := DB.hit gr ▸ .inl ⟨kvsB, inl r0, .inr ⟨od', k35 _ _ hcy⟩, rfl, rfl⟩
              have bu := bigA u
              refine ⟨_, rfl, d2, rfl, .inl ⟨kvs', .inl h35⟩, _, rfl, _, rfl, (u : Int), (r0 : Int), rfl, rfl, _, DGet.k (k := Sum.inl ((u + r0 : Nat) : Int)) h35, ?_⟩
              rw [D35.getD]
              refine ⟨_, rfl, _, rfl, hd, _, rfl, g1, _, rfl, _, rfl, yd, _, rfl, g2, _, _, rfl, rfl, .inl ⟨by omega, by omega⟩, _, _, rfl, rfl, ?_⟩
              refine ⟨_, rfl, _, rfl, _, rfl, (u : Int), (r0 : Int), rfl, rfl, d2, _, rfl, DPut.k (k := Sum.inl ((u + r0 : Nat) : Int)) h35 (lt_line (by omega)), ?_⟩
              refine ⟨_, _, rfl, same_put k35 hc2, upd_same, Nat.le_trans (length_putK _ _ _) (by omega), ?_⟩
              refine DK.congr (D35.more (u + r0) ((lA.map pc).count u * (lB.map pc).count r0) (Nat.mul_ne_zero gu gr)) fun r => ?_
              rw [take_snoc hr1, sm_snoc, Nat.add_assoc]
            · rintro st H35 ⟨y18, kvs', rfl, k35, h35, len35, D35⟩
              rw [← lkB, List.take_length] at D35
              rw [← hHC] at k35
              refine ⟨k35 _ _ upd_same, _, _, kvs', rfl, unlock hby k35, by rw [upd_ne yd2.symm]; exact h35, by omega, ?_⟩
              refine D35.congr fun r => ?_
              rw [take_snoc hu1, sm_snoc]
          · rintro st H33 ⟨y17, y18, kvsS, rfl, k33, h33, len33, D33⟩
            rw [← lkA, List.take_length] at D33
            rw [← hHB] at k33
            refine ⟨k33 _ _ upd_same, ?_⟩
            have k32' : Same H32 (upd H33 hd (.dK kvsA)) := unlock hhd2 k33
            have hS2 : upd H33 hd (.dK kvsA) d2 = some (.dK kvsS) := by rw [upd_ne hd2.symm]; exact h33
            generalize upd H33 hd (.dK kvsA) = H37 at k32' hS2 ⊢
            have k2437 : Same H24 H37 := ((k30.trans k31).trans k32).trans k32'
            refine ⟨_, rfl, Bo, n + m, _, rfl, (same_web k2437 hBo).near, Gd3, by omega, fun lC cd kvsC H38 k38 ncd hcd LC DC => ?_⟩
            have cd2 : cd ≠ d2 := fun e => by rw [e, hS2] at ncd; cases ncd
            have DS : DK kvsS (fun r => (lC.map pc).count r) := D33.congr fun r => conv_count JJ Gd Gd3 LA LB LC nA nB (fun x hx => (mA x).mpr (count_ne.mpr hx)) (fun x hx => (mB x).mpr (count_ne.mpr hx)) r
            have lenS : kvsS.length ≤ 100 := by omega
            refine ⟨_, rfl, cd, d2, kvsC, kvsS, _, rfl, cd2, hcd, k38 _ _ hS2, DC, DS, by omega, fun H39 k39 => ⟨true, rfl, iteF ?_⟩⟩
            have k2439 := (k2437.trans k38).trans k39
            have wb24 := wb24.same k2439
            have web2' := same_web k2439 web2'
            have hBo := same_web k2439 hBo
            have kH24 : Same H H39 := ((kH22.trans k23).trans k24).trans k2439
            refine ⟨_, rfl, W2, m, _, rfl, web2'.near, Gd2, m24, fun bm bt H40 kb _ hbt BB => ?_⟩
            refine ⟨bt, rfl, ⟨_, SqT.of hbt⟩, fun D nD => lc_it (walk_tup (xs := iv (lot bm))) (fun j H26 => Same H40 H26 ∧ H26 D = some (.lst (iv (((lot bm).take j).map (· + n)))))
              ⟨same_new nD, upd_same⟩ (fun j H26 _ ⟨k, _⟩ => SqT.of (k _ _ hbt)) ?_ ?_⟩
            · rintro j z H26 H27 hj ⟨k26, hD⟩ ⟨rfl, hz⟩
              obtain ⟨c, hc, rfl⟩ := iv_get hz
              have bl := best_len BB m24
              refine ⟨rfl, yesT ?_⟩
              refine ⟨_, rfl, _, rfl, _, _, rfl, rfl, _, hD, ?_, same_put k26 nD, ?_⟩
              · rw [iv_length, List.length_map, List.length_take]
                exact lt_line (by omega)
              · rw [upd_same, take_snoc hc]
                unfold iv
                rw [List.map_append, List.map_append]
                rfl
            · rintro H41 ⟨k26, hD⟩
              rw [iv_length, List.take_length] at hD
              refine ⟨D, _, rfl, .inl ⟨SqL.of hD, fun mv nmv => ?_⟩⟩
              have hmv : upd H41 mv (.tup (iv ((lot bm).map (· + n)))) mv = some (.tup (iv ((lot bm).map (· + n)))) := upd_same
              have kmv := kb.trans (k26.trans (nw (o := HO.tup (iv ((lot bm).map (· + n)))) nmv))
              generalize upd H41 mv (.tup (iv ((lot bm).map (· + n)))) = H42 at hmv kmv ⊢
              refine ⟨_, rfl, Bo, n + m, _, rfl, (same_web kmv hBo).near, Gd3, nm24, fun cm ct H43 kc _ hct BC => ?_⟩
              refine ⟨_, rfl, W, n, _, rfl, (wb24.same (kmv.trans kc)).near, Gd, n24, fun am at0 H44 ka' _ hat BA => ?_⟩
              have hmv2 := ka' _ _ (kc _ _ hmv)
              have eC : cm = am ||| bm <<< n := BC.uniq (JJ.best Gd Gd3 (.inr rfl) BA BB)
              have eL : iv (lot am) ++ iv ((lot bm).map (· + n)) = iv (lot cm) := by
                rw [eC, lot_join (best_lt BA)]
                exact List.map_append.symm
              have nA0 : iv (lot am) ≠ [] := fun e => best_ne BA n1 (List.map_eq_nil_iff.mp e)
              have nB0 : iv ((lot bm).map (· + n)) ≠ [] := fun e => best_ne BB m1' (List.map_eq_nil_iff.mp (List.map_eq_nil_iff.mp e))
              refine ⟨_, rfl, at0, mv, _, _, rfl, rfl, SqT.of hat, SqT.of hmv2, ?_, fun e => absurd e nA0, fun _ e => absurd e nB0, fun _ _ pt npt => ?_⟩
              · rw [iv_length, iv_length, List.length_map]
                have := best_len BA n24
                have := best_len BB m24
                exact le_line (by omega)
              rw [eL]
              have kpt := nw (o := HO.tup (iv (lot cm))) npt
              refine ⟨dI (zi (lot cm)), dI (zi (lot cm)), dp_tup (SqT.of (by rw [← iv_zi]; exact kpt _ _ (ka' _ _ hct))), dp_tup (SqT.of (by rw [← iv_zi]; exact upd_same)), shaped_dI _, shaped_dI _, _, rfl, ite2 (fun z => ?_) fun _ => ?_⟩
              · rw [eqv_dI] at z
                cases z
              have k50 := ((kmv.trans kc).trans ka').trans kpt
              exact ⟨_, _, _, _, _, _, _, _, _, _, _, _, _, _, _, _, _, _, _, _, _, rfl, kH24.trans k50⟩
    · rintro st H3 ⟨x1, x2, x3, x4, x5, x6, x7, x8, x9, x10, x11, x12, x13, x14, x15, x16, x17, x18, x19, x20, x21, rfl, kH⟩
      refine ⟨_, rfl, a, ns, 3, rfl, kH.seq ha, h63, fun S H4 k4 nS s4 => ?_⟩
      refine ⟨S, 24, rfl, s4, by decide, by decide, fun e0 H5 he0 k5 s5 => ⟨_, _, rfl, rfl, ?_⟩⟩
      show gName 19 (.int (1 + (e0 : Int))) _ _ _
      rw [show (1 : Int) + (e0 : Int) = ((1 + e0 : Nat) : Int) by omega]
      have n1 : 1 ≤ 1 + e0 := by omega
      have n24 : 1 + e0 ≤ 24 := by omega
      generalize 1 + e0 = n at n1 n24 ⊢
      refine ⟨_, rfl, n, rfl, n1, n24, fun p1 w1 H6 k6 _ hw1 ti1 mem1 => ?_⟩
      refine ⟨p1, n, _, rfl, hw1.near, good_near ti1, n24, fun m1 a1 H7 k7 _ ha1 B1 => ?_⟩
      refine ⟨_, rfl, n, rfl, n1, n24, fun p2 w2 H8 k8 _ hw2 ti2 mem2 => ?_⟩
      refine ⟨p2, n, _, rfl, hw2.near, good_near ti2, n24, fun m2 a2 H9 k9 _ ha2 B2 => ?_⟩
      have R1 := row_near ti1 mem1
      have R2 := row_near ti2 mem2
      have h1 := (k8.trans k9) _ _ ha1
      have f1 : ((iv (lot m1)).length : Int) = ((n : Int) + 2) / 3 := by
        rw [iv_length]
        have := row_few n24 R1 B1
        unfold pc at this
        omega
      have f2 : ((iv (lot m2)).length : Int) = ((n : Int) + 1) / 2 := by
        rw [iv_length]
        have := row_most n24 R2 B2
        unfold pc at this
        omega
      refine ⟨_, rfl, a1, _, rfl, .inr (SqT.of h1), _, rfl, _, _, rfl, rfl, _, _, rfl, rfl, ⟨by decide, by decide⟩, rfl, _, rfl, ite2 (fun z => ?_) fun _ => ?_⟩
      · rw [f1, decide_eq_true rfl] at z
        cases z
      refine ⟨_, rfl, a2, _, rfl, .inr (SqT.of ha2), _, rfl, _, _, rfl, rfl, _, _, rfl, rfl, ⟨by decide, by decide⟩, rfl, _, rfl, ite2 (fun z => ?_) fun _ => ?_⟩
      · rw [f2, decide_eq_true rfl] at z
        cases z
      refine ⟨_, rfl, n, rfl, n1, n24, fun p3 w3 H10 k10 _ hw3 ti3 mem3 => ?_⟩
      have R3 := row_near ti3 mem3
      refine ⟨_, rfl, p3, a1, n, _, lot m1, rfl, hw3.near, good_near ti3, n24, SqT.of (k10 _ _ h1), lot_asc _, fun i hi => lot_lt (best_lt B1) hi, by rw [mk_lot]; exact sol_congr (fun p _ => row_same R1 R3 p) B1.sol, fun H11 k11 => ⟨_, _, rfl, rfl, _, rfl, iteT ?_⟩⟩
      refine ⟨_, rfl, n, rfl, n1, n24, fun p4 w4 H12 k12 _ hw4 ti4 mem4 => ?_⟩
      have R4 := row_near ti4 mem4
      refine ⟨_, rfl, p4, a2, n, _, lot m2, rfl, hw4.near, good_near ti4, n24, SqT.of ((k10.trans (k11.trans k12)) _ _ ha2), lot_asc _, fun i hi => lot_lt (best_lt B2) hi, by rw [mk_lot]; exact sol_congr (fun p _ => row_same R2 R4 p) B2.sol, fun H13 k13 => ⟨_, _, rfl, rfl, ?_⟩⟩
      exact q H13
end
end Sil
end

section
set_option Elab.async false
set_option maxRecDepth 100000
set_option maxHeartbeats 16000000
set_option linter.all false
namespace Sil
open PySem L2
section
variable {K : PySem.W.Frag} {h : Heap} {mg : Str → Option Value}
/-- the place of a def, from what the top has written -/
def defAt (X : K.In h) (G : h.Ns mainGlobals mg) {x : Str} {st : Stmt} {f : Addr} {oc : Value} {od an : Option Addr} {sl : Array (Option Value)} {kV dc pm cd ct : Value} (ps : List Str)
    (a : PySem.W.nsIn K mainGlobals x = some (some (.ref f))) (l : K.lookup f = some ⟨oc, od, .func (PySem.W.fnOf x x (defArgs st) (defBody st) (defScope st) .none kV dc pm an cd ct), sl⟩) (c : PySem.W.codeIn K cd x = true) (k : PySem.W.keepIn K (.ref f) = true)
    (b : Fun K x x st f (PySem.W.fnOf x x (defArgs st) (defBody st) (defScope st) .none kV dc pm an cd ct) → Binds K (PySem.W.fnOf x x (defArgs st) (defBody st) (defScope st) .none kV dc pm an cd ct) ps []) : DefAt K mg x st ps :=
  ⟨f, _, fun_mk l c k, b (fun_mk l c k), PySem.W.mg_of X G a⟩
def methAt {C : Addr} {m qual : Str} {st : Stmt} {f : Addr} {oc : Value} {od an : Option Addr} {sl : Array (Option Value)} {kV dc pm cd ct : Value} (ps : List Str)
    (a : PySem.W.findIn K (.ref C) m = some (some (.ref f))) (i : PySem.W.isFn K (.ref f) = true) (l : K.lookup f = some ⟨oc, od, .func (PySem.W.fnOf m qual (defArgs st) (defBody st) (defScope st) .none kV dc pm an cd ct), sl⟩) (c : PySem.W.codeIn K cd qual = true) (k : PySem.W.keepIn K (.ref f) = true)
    (b : Fun K m qual st f (PySem.W.fnOf m qual (defArgs st) (defBody st) (defScope st) .none kV dc pm an cd ct) → Binds K (PySem.W.fnOf m qual (defArgs st) (defBody st) (defScope st) .none kV dc pm an cd ct) ps []) : MethAt K C m qual st ps :=
  ⟨f, _, fun_mk l c k, b (fun_mk l c k), ⟨a, i, k⟩⟩
def makeAt {C : Addr} {qual : Str} {st : Stmt} {f : Addr} {oc : Value} {od an : Option Addr} {sl : Array (Option Value)} {kV dc pm cd ct : Value} (ps : List Str)
    (a : PySem.W.findIn K (.ref C) "__init__" = some (some (.ref f))) (i : PySem.W.isFn K (.ref f) = true) (l : K.lookup f = some ⟨oc, od, .func (PySem.W.fnOf "__init__" qual (defArgs st) (defBody st) (defScope st) .none kV dc pm an cd ct), sl⟩) (c : PySem.W.codeIn K cd qual = true) (k : PySem.W.keepIn K (.ref f) = true)
    (b : Fun K "__init__" qual st f (PySem.W.fnOf "__init__" qual (defArgs st) (defBody st) (defScope st) .none kV dc pm an cd ct) → Binds K (PySem.W.fnOf "__init__" qual (defArgs st) (defBody st) (defScope st) .none kV dc pm an cd ct) ps [])
    (mk : PySem.W.makesIn K C = true) (kc : PySem.W.keepIn K (.ref C) = true) : MakeAt K C qual st ps :=
  ⟨f, _, fun_mk l c k, b (fun_mk l c k), ⟨mk, a, i, kc⟩⟩
end
theorem all_mk {l : PySem.W.OpenLaw} {w : World} {K : PySem.W.Frag} {h : Heap} {mg : Str → Option Value} {fa : Addr} (X : K.In h) (G : h.Ns mainGlobals mg) (hfa : mg "law" = some (.ref fa))
    {f_is_integer : Addr} {od_is_integer an_is_integer : Option Addr} {sl_is_integer : Array (Option Value)} {oc_is_integer kV_is_integer dc_is_integer pm_is_integer cd_is_integer ct_is_integer : Value}
    {f_is_between : Addr} {od_is_between an_is_between : Option Addr} {sl_is_between : Array (Option Value)} {oc_is_between kV_is_between dc_is_between pm_is_between cd_is_between ct_is_between : Value}
    {f_is_pair : Addr} {od_is_pair an_is_pair : Option Addr} {sl_is_pair : Array (Option Value)} {oc_is_pair kV_is_pair dc_is_pair pm_is_pair cd_is_pair ct_is_pair : Value}
    {f_is_lot : Addr} {od_is_lot an_is_lot : Option Addr} {sl_is_lot : Array (Option Value)} {oc_is_lot kV_is_lot dc_is_lot pm_is_lot cd_is_lot ct_is_lot : Value}
    {f_check_number : Addr} {od_check_number an_check_number : Option Addr} {sl_check_number : Array (Option Value)} {oc_check_number kV_check_number dc_check_number pm_check_number cd_check_number ct_check_number : Value}
    {f_bits_of : Addr} {od_bits_of an_bits_of : Option Addr} {sl_bits_of : Array (Option Value)} {oc_bits_of kV_bits_of dc_bits_of pm_bits_of cd_bits_of ct_bits_of : Value}
    {f_lowest : Addr} {od_lowest an_lowest : Option Addr} {sl_lowest : Array (Option Value)} {oc_lowest kV_lowest dc_lowest pm_lowest cd_lowest ct_lowest : Value}
    {f_lot_of : Addr} {od_lot_of an_lot_of : Option Addr} {sl_lot_of : Array (Option Value)} {oc_lot_of kV_lot_of dc_lot_of pm_lot_of cd_lot_of ct_lot_of : Value}
    {f_many_of : Addr} {od_many_of an_many_of : Option Addr} {sl_many_of : Array (Option Value)} {oc_many_of kV_many_of dc_many_of pm_many_of cd_many_of ct_many_of : Value}
    {f_is_tie : Addr} {od_is_tie an_is_tie : Option Addr} {sl_is_tie : Array (Option Value)} {oc_is_tie kV_is_tie dc_is_tie pm_is_tie cd_is_tie ct_is_tie : Value}
    {f_web_of : Addr} {od_web_of an_web_of : Option Addr} {sl_web_of : Array (Option Value)} {oc_web_of kV_web_of dc_web_of pm_web_of cd_web_of ct_web_of : Value}
    {f_moved_on : Addr} {od_moved_on an_moved_on : Option Addr} {sl_moved_on : Array (Option Value)} {oc_moved_on kV_moved_on dc_moved_on pm_moved_on cd_moved_on ct_moved_on : Value}
    {f_beside : Addr} {od_beside an_beside : Option Addr} {sl_beside : Array (Option Value)} {oc_beside kV_beside dc_beside pm_beside cd_beside ct_beside : Value}
    {f_row : Addr} {od_row an_row : Option Addr} {sl_row : Array (Option Value)} {oc_row kV_row dc_row pm_row cd_row ct_row : Value}
    {f_silenced : Addr} {od_silenced an_silenced : Option Addr} {sl_silenced : Array (Option Value)} {oc_silenced kV_silenced dc_silenced pm_silenced cd_silenced ct_silenced : Value}
    {f_changing : Addr} {od_changing an_changing : Option Addr} {sl_changing : Array (Option Value)} {oc_changing kV_changing dc_changing pm_changing cd_changing ct_changing : Value}
    {f_is_rest_bits : Addr} {od_is_rest_bits an_is_rest_bits : Option Addr} {sl_is_rest_bits : Array (Option Value)} {oc_is_rest_bits kV_is_rest_bits dc_is_rest_bits pm_is_rest_bits cd_is_rest_bits ct_is_rest_bits : Value}
    {f_is_rest : Addr} {od_is_rest an_is_rest : Option Addr} {sl_is_rest : Array (Option Value)} {oc_is_rest kV_is_rest dc_is_rest pm_is_rest cd_is_rest ct_is_rest : Value}
    {f_piece_from : Addr} {od_piece_from an_piece_from : Option Addr} {sl_piece_from : Array (Option Value)} {oc_piece_from kV_piece_from dc_piece_from pm_piece_from cd_piece_from ct_piece_from : Value}
    {f_pieces_within : Addr} {od_pieces_within an_pieces_within : Option Addr} {sl_pieces_within : Array (Option Value)} {oc_pieces_within kV_pieces_within dc_pieces_within pm_pieces_within cd_pieces_within ct_pieces_within : Value}
    {f_fork : Addr} {od_fork an_fork : Option Addr} {sl_fork : Array (Option Value)} {oc_fork kV_fork dc_fork pm_fork cd_fork ct_fork : Value}
    {f_listed_from : Addr} {od_listed_from an_listed_from : Option Addr} {sl_listed_from : Array (Option Value)} {oc_listed_from kV_listed_from dc_listed_from pm_listed_from cd_listed_from ct_listed_from : Value}
    {f_rests_within : Addr} {od_rests_within an_rests_within : Option Addr} {sl_rests_within : Array (Option Value)} {oc_rests_within kV_rests_within dc_rests_within pm_rests_within cd_rests_within ct_rests_within : Value}
    {f_many_rests : Addr} {od_many_rests an_many_rests : Option Addr} {sl_many_rests : Array (Option Value)} {oc_many_rests kV_many_rests dc_many_rests pm_many_rests cd_many_rests ct_many_rests : Value}
    {f_check_listed : Addr} {od_check_listed an_check_listed : Option Addr} {sl_check_listed : Array (Option Value)} {oc_check_listed kV_check_listed dc_check_listed pm_check_listed cd_check_listed ct_check_listed : Value}
    {f_best_by_pieces : Addr} {od_best_by_pieces an_best_by_pieces : Option Addr} {sl_best_by_pieces : Array (Option Value)} {oc_best_by_pieces kV_best_by_pieces dc_best_by_pieces pm_best_by_pieces cd_best_by_pieces ct_best_by_pieces : Value}
    {f_rest_sizes : Addr} {od_rest_sizes an_rest_sizes : Option Addr} {sl_rest_sizes : Array (Option Value)} {oc_rest_sizes kV_rest_sizes dc_rest_sizes pm_rest_sizes cd_rest_sizes ct_rest_sizes : Value}
    {f_smallest_rest : Addr} {od_smallest_rest an_smallest_rest : Option Addr} {sl_smallest_rest : Array (Option Value)} {oc_smallest_rest kV_smallest_rest dc_smallest_rest pm_smallest_rest cd_smallest_rest ct_smallest_rest : Value}
    {f_greatest_rest : Addr} {od_greatest_rest an_greatest_rest : Option Addr} {sl_greatest_rest : Array (Option Value)} {oc_greatest_rest kV_greatest_rest dc_greatest_rest pm_greatest_rest cd_greatest_rest ct_greatest_rest : Value}
    {f_law_is_integer : Addr} {od_law_is_integer an_law_is_integer : Option Addr} {sl_law_is_integer : Array (Option Value)} {oc_law_is_integer kV_law_is_integer dc_law_is_integer pm_law_is_integer cd_law_is_integer ct_law_is_integer : Value}
    {f_law_source : Addr} {od_law_source an_law_source : Option Addr} {sl_law_source : Array (Option Value)} {oc_law_source kV_law_source dc_law_source pm_law_source cd_law_source ct_law_source : Value}
    {f_law_draw : Addr} {od_law_draw an_law_draw : Option Addr} {sl_law_draw : Array (Option Value)} {oc_law_draw kV_law_draw dc_law_draw pm_law_draw cd_law_draw ct_law_draw : Value}
    {f_law_perm : Addr} {od_law_perm an_law_perm : Option Addr} {sl_law_perm : Array (Option Value)} {oc_law_perm kV_law_perm dc_law_perm pm_law_perm cd_law_perm ct_law_perm : Value}
    {f_law_ties : Addr} {od_law_ties an_law_ties : Option Addr} {sl_law_ties : Array (Option Value)} {oc_law_ties kV_law_ties dc_law_ties pm_law_ties cd_law_ties ct_law_ties : Value}
    {f_law_size : Addr} {od_law_size an_law_size : Option Addr} {sl_law_size : Array (Option Value)} {oc_law_size kV_law_size dc_law_size pm_law_size cd_law_size ct_law_size : Value}
    {f_law_near : Addr} {od_law_near an_law_near : Option Addr} {sl_law_near : Array (Option Value)} {oc_law_near kV_law_near dc_law_near pm_law_near cd_law_near ct_law_near : Value}
    {f_law_lot : Addr} {od_law_lot an_law_lot : Option Addr} {sl_law_lot : Array (Option Value)} {oc_law_lot kV_law_lot dc_law_lot pm_law_lot cd_law_lot ct_law_lot : Value}
    {f_law_is_rest : Addr} {od_law_is_rest an_law_is_rest : Option Addr} {sl_law_is_rest : Array (Option Value)} {oc_law_is_rest kV_law_is_rest dc_law_is_rest pm_law_is_rest cd_law_is_rest ct_law_is_rest : Value}
    {f_law_rests : Addr} {od_law_rests an_law_rests : Option Addr} {sl_law_rests : Array (Option Value)} {oc_law_rests kV_law_rests dc_law_rests pm_law_rests cd_law_rests ct_law_rests : Value}
    {f_law_same : Addr} {od_law_same an_law_same : Option Addr} {sl_law_same : Array (Option Value)} {oc_law_same kV_law_same dc_law_same pm_law_same cd_law_same ct_law_same : Value}
    {f_law_least : Addr} {od_law_least an_law_least : Option Addr} {sl_law_least : Array (Option Value)} {oc_law_least kV_law_least dc_law_least pm_law_least cd_law_least ct_law_least : Value}
    {f_law_same_dict : Addr} {od_law_same_dict an_law_same_dict : Option Addr} {sl_law_same_dict : Array (Option Value)} {oc_law_same_dict kV_law_same_dict dc_law_same_dict pm_law_same_dict cd_law_same_dict ct_law_same_dict : Value}
    {f_law_groups_hold : Addr} {od_law_groups_hold an_law_groups_hold : Option Addr} {sl_law_groups_hold : Array (Option Value)} {oc_law_groups_hold kV_law_groups_hold dc_law_groups_hold pm_law_groups_hold cd_law_groups_hold ct_law_groups_hold : Value}
    {f_law : Addr} {od_law an_law : Option Addr} {sl_law : Array (Option Value)} {oc_law kV_law dc_law pm_law cd_law ct_law : Value}
    {t_MOST_PARTS : Tok}
    {t_MOST_LISTED : Tok}
    {C_Web : Addr}
    {C_Counter : Addr}
    {f_Web_init : Addr} {od_Web_init an_Web_init : Option Addr} {sl_Web_init : Array (Option Value)} {oc_Web_init kV_Web_init dc_Web_init pm_Web_init cd_Web_init ct_Web_init : Value}
    {f_Web_begin : Addr} {od_Web_begin an_Web_begin : Option Addr} {sl_Web_begin : Array (Option Value)} {oc_Web_begin kV_Web_begin dc_Web_begin pm_Web_begin cd_Web_begin ct_Web_begin : Value}
    {f_Counter_init : Addr} {od_Counter_init an_Counter_init : Option Addr} {sl_Counter_init : Array (Option Value)} {oc_Counter_init kV_Counter_init dc_Counter_init pm_Counter_init cd_Counter_init ct_Counter_init : Value}
    {f_Counter_of : Addr} {od_Counter_of an_Counter_of : Option Addr} {sl_Counter_of : Array (Option Value)} {oc_Counter_of kV_Counter_of dc_Counter_of pm_Counter_of cd_Counter_of ct_Counter_of : Value}
    {f_Counter_of_piece : Addr} {od_Counter_of_piece an_Counter_of_piece : Option Addr} {sl_Counter_of_piece : Array (Option Value)} {oc_Counter_of_piece kV_Counter_of_piece dc_Counter_of_piece pm_Counter_of_piece cd_Counter_of_piece ct_Counter_of_piece : Value}
    (a_is_integer : PySem.W.nsIn K mainGlobals "is_integer" = some (some (.ref f_is_integer)))
    (l_is_integer : K.lookup f_is_integer = some ⟨oc_is_integer, od_is_integer, .func (PySem.W.fnOf "is_integer" "is_integer" (defArgs s_is_integer) (defBody s_is_integer) (defScope s_is_integer) .none kV_is_integer dc_is_integer pm_is_integer an_is_integer cd_is_integer ct_is_integer), sl_is_integer⟩)
    (c_is_integer : PySem.W.codeIn K cd_is_integer "is_integer" = true)
    (k_is_integer : PySem.W.keepIn K (.ref f_is_integer) = true)
    (a_is_between : PySem.W.nsIn K mainGlobals "is_between" = some (some (.ref f_is_between)))
    (l_is_between : K.lookup f_is_between = some ⟨oc_is_between, od_is_between, .func (PySem.W.fnOf "is_between" "is_between" (defArgs s_is_between) (defBody s_is_between) (defScope s_is_between) .none kV_is_between dc_is_between pm_is_between an_is_between cd_is_between ct_is_between), sl_is_between⟩)
    (c_is_between : PySem.W.codeIn K cd_is_between "is_between" = true)
    (k_is_between : PySem.W.keepIn K (.ref f_is_between) = true)
    (a_is_pair : PySem.W.nsIn K mainGlobals "is_pair" = some (some (.ref f_is_pair)))
    (l_is_pair : K.lookup f_is_pair = some ⟨oc_is_pair, od_is_pair, .func (PySem.W.fnOf "is_pair" "is_pair" (defArgs s_is_pair) (defBody s_is_pair) (defScope s_is_pair) .none kV_is_pair dc_is_pair pm_is_pair an_is_pair cd_is_pair ct_is_pair), sl_is_pair⟩)
    (c_is_pair : PySem.W.codeIn K cd_is_pair "is_pair" = true)
    (k_is_pair : PySem.W.keepIn K (.ref f_is_pair) = true)
    (a_is_lot : PySem.W.nsIn K mainGlobals "is_lot" = some (some (.ref f_is_lot)))
    (l_is_lot : K.lookup f_is_lot = some ⟨oc_is_lot, od_is_lot, .func (PySem.W.fnOf "is_lot" "is_lot" (defArgs s_is_lot) (defBody s_is_lot) (defScope s_is_lot) .none kV_is_lot dc_is_lot pm_is_lot an_is_lot cd_is_lot ct_is_lot), sl_is_lot⟩)
    (c_is_lot : PySem.W.codeIn K cd_is_lot "is_lot" = true)
    (k_is_lot : PySem.W.keepIn K (.ref f_is_lot) = true)
    (a_check_number : PySem.W.nsIn K mainGlobals "check_number" = some (some (.ref f_check_number)))
    (l_check_number : K.lookup f_check_number = some ⟨oc_check_number, od_check_number, .func (PySem.W.fnOf "check_number" "check_number" (defArgs s_check_number) (defBody s_check_number) (defScope s_check_number) .none kV_check_number dc_check_number pm_check_number an_check_number cd_check_number ct_check_number), sl_check_number⟩)
    (c_check_number : PySem.W.codeIn K cd_check_number "check_number" = true)
    (k_check_number : PySem.W.keepIn K (.ref f_check_number) = true)
    (a_bits_of : PySem.W.nsIn K mainGlobals "bits_of" = some (some (.ref f_bits_of)))
    (l_bits_of : K.lookup f_bits_of = some ⟨oc_bits_of, od_bits_of, .func (PySem.W.fnOf "bits_of" "bits_of" (defArgs s_bits_of) (defBody s_bits_of) (defScope s_bits_of) .none kV_bits_of dc_bits_of pm_bits_of an_bits_of cd_bits_of ct_bits_of), sl_bits_of⟩)
    (c_bits_of : PySem.W.codeIn K cd_bits_of "bits_of" = true)
    (k_bits_of : PySem.W.keepIn K (.ref f_bits_of) = true)
    (a_lowest : PySem.W.nsIn K mainGlobals "lowest" = some (some (.ref f_lowest)))
    (l_lowest : K.lookup f_lowest = some ⟨oc_lowest, od_lowest, .func (PySem.W.fnOf "lowest" "lowest" (defArgs s_lowest) (defBody s_lowest) (defScope s_lowest) .none kV_lowest dc_lowest pm_lowest an_lowest cd_lowest ct_lowest), sl_lowest⟩)
    (c_lowest : PySem.W.codeIn K cd_lowest "lowest" = true)
    (k_lowest : PySem.W.keepIn K (.ref f_lowest) = true)
    (a_lot_of : PySem.W.nsIn K mainGlobals "lot_of" = some (some (.ref f_lot_of)))
    (l_lot_of : K.lookup f_lot_of = some ⟨oc_lot_of, od_lot_of, .func (PySem.W.fnOf "lot_of" "lot_of" (defArgs s_lot_of) (defBody s_lot_of) (defScope s_lot_of) .none kV_lot_of dc_lot_of pm_lot_of an_lot_of cd_lot_of ct_lot_of), sl_lot_of⟩)
    (c_lot_of : PySem.W.codeIn K cd_lot_of "lot_of" = true)
    (k_lot_of : PySem.W.keepIn K (.ref f_lot_of) = true)
    (a_many_of : PySem.W.nsIn K mainGlobals "many_of" = some (some (.ref f_many_of)))
    (l_many_of : K.lookup f_many_of = some ⟨oc_many_of, od_many_of, .func (PySem.W.fnOf "many_of" "many_of" (defArgs s_many_of) (defBody s_many_of) (defScope s_many_of) .none kV_many_of dc_many_of pm_many_of an_many_of cd_many_of ct_many_of), sl_many_of⟩)
    (c_many_of : PySem.W.codeIn K cd_many_of "many_of" = true)
    (k_many_of : PySem.W.keepIn K (.ref f_many_of) = true)
    (a_is_tie : PySem.W.nsIn K mainGlobals "is_tie" = some (some (.ref f_is_tie)))
    (l_is_tie : K.lookup f_is_tie = some ⟨oc_is_tie, od_is_tie, .func (PySem.W.fnOf "is_tie" "is_tie" (defArgs s_is_tie) (defBody s_is_tie) (defScope s_is_tie) .none kV_is_tie dc_is_tie pm_is_tie an_is_tie cd_is_tie ct_is_tie), sl_is_tie⟩)
    (c_is_tie : PySem.W.codeIn K cd_is_tie "is_tie" = true)
    (k_is_tie : PySem.W.keepIn K (.ref f_is_tie) = true)
    (a_web_of : PySem.W.nsIn K mainGlobals "web_of" = some (some (.ref f_web_of)))
    (l_web_of : K.lookup f_web_of = some ⟨oc_web_of, od_web_of, .func (PySem.W.fnOf "web_of" "web_of" (defArgs s_web_of) (defBody s_web_of) (defScope s_web_of) .none kV_web_of dc_web_of pm_web_of an_web_of cd_web_of ct_web_of), sl_web_of⟩)
    (c_web_of : PySem.W.codeIn K cd_web_of "web_of" = true)
    (k_web_of : PySem.W.keepIn K (.ref f_web_of) = true)
    (a_moved_on : PySem.W.nsIn K mainGlobals "moved_on" = some (some (.ref f_moved_on)))
    (l_moved_on : K.lookup f_moved_on = some ⟨oc_moved_on, od_moved_on, .func (PySem.W.fnOf "moved_on" "moved_on" (defArgs s_moved_on) (defBody s_moved_on) (defScope s_moved_on) .none kV_moved_on dc_moved_on pm_moved_on an_moved_on cd_moved_on ct_moved_on), sl_moved_on⟩)
    (c_moved_on : PySem.W.codeIn K cd_moved_on "moved_on" = true)
    (k_moved_on : PySem.W.keepIn K (.ref f_moved_on) = true)
    (a_beside : PySem.W.nsIn K mainGlobals "beside" = some (some (.ref f_beside)))
    (l_beside : K.lookup f_beside = some ⟨oc_beside, od_beside, .func (PySem.W.fnOf "beside" "beside" (defArgs s_beside) (defBody s_beside) (defScope s_beside) .none kV_beside dc_beside pm_beside an_beside cd_beside ct_beside), sl_beside⟩)
    (c_beside : PySem.W.codeIn K cd_beside "beside" = true)
    (k_beside : PySem.W.keepIn K (.ref f_beside) = true)
    (a_row : PySem.W.nsIn K mainGlobals "row" = some (some (.ref f_row)))
    (l_row : K.lookup f_row = some ⟨oc_row, od_row, .func (PySem.W.fnOf "row" "row" (defArgs s_row) (defBody s_row) (defScope s_row) .none kV_row dc_row pm_row an_row cd_row ct_row), sl_row⟩)
    (c_row : PySem.W.codeIn K cd_row "row" = true)
    (k_row : PySem.W.keepIn K (.ref f_row) = true)
    (a_silenced : PySem.W.nsIn K mainGlobals "silenced" = some (some (.ref f_silenced)))
    (l_silenced : K.lookup f_silenced = some ⟨oc_silenced, od_silenced, .func (PySem.W.fnOf "silenced" "silenced" (defArgs s_silenced) (defBody s_silenced) (defScope s_silenced) .none kV_silenced dc_silenced pm_silenced an_silenced cd_silenced ct_silenced), sl_silenced⟩)
    (c_silenced : PySem.W.codeIn K cd_silenced "silenced" = true)
    (k_silenced : PySem.W.keepIn K (.ref f_silenced) = true)
    (a_changing : PySem.W.nsIn K mainGlobals "changing" = some (some (.ref f_changing)))
    (l_changing : K.lookup f_changing = some ⟨oc_changing, od_changing, .func (PySem.W.fnOf "changing" "changing" (defArgs s_changing) (defBody s_changing) (defScope s_changing) .none kV_changing dc_changing pm_changing an_changing cd_changing ct_changing), sl_changing⟩)
    (c_changing : PySem.W.codeIn K cd_changing "changing" = true)
    (k_changing : PySem.W.keepIn K (.ref f_changing) = true)
    (a_is_rest_bits : PySem.W.nsIn K mainGlobals "is_rest_bits" = some (some (.ref f_is_rest_bits)))
    (l_is_rest_bits : K.lookup f_is_rest_bits = some ⟨oc_is_rest_bits, od_is_rest_bits, .func (PySem.W.fnOf "is_rest_bits" "is_rest_bits" (defArgs s_is_rest_bits) (defBody s_is_rest_bits) (defScope s_is_rest_bits) .none kV_is_rest_bits dc_is_rest_bits pm_is_rest_bits an_is_rest_bits cd_is_rest_bits ct_is_rest_bits), sl_is_rest_bits⟩)
    (c_is_rest_bits : PySem.W.codeIn K cd_is_rest_bits "is_rest_bits" = true)
    (k_is_rest_bits : PySem.W.keepIn K (.ref f_is_rest_bits) = true)
    (a_is_rest : PySem.W.nsIn K mainGlobals "is_rest" = some (some (.ref f_is_rest)))
    (l_is_rest : K.lookup f_is_rest = some ⟨oc_is_rest, od_is_rest, .func (PySem.W.fnOf "is_rest" "is_rest" (defArgs s_is_rest) (defBody s_is_rest) (defScope s_is_rest) .none kV_is_rest dc_is_rest pm_is_rest an_is_rest cd_is_rest ct_is_rest), sl_is_rest⟩)
    (c_is_rest : PySem.W.codeIn K cd_is_rest "is_rest" = true)
    (k_is_rest : PySem.W.keepIn K (.ref f_is_rest) = true)
    (a_piece_from : PySem.W.nsIn K mainGlobals "piece_from" = some (some (.ref f_piece_from)))
    (l_piece_from : K.lookup f_piece_from = some ⟨oc_piece_from, od_piece_from, .func (PySem.W.fnOf "piece_from" "piece_from" (defArgs s_piece_from) (defBody s_piece_from) (defScope s_piece_from) .none kV_piece_from dc_piece_from pm_piece_from an_piece_from cd_piece_from ct_piece_from), sl_piece_from⟩)
    (c_piece_from : PySem.W.codeIn K cd_piece_from "piece_from" = true)
    (k_piece_from : PySem.W.keepIn K (.ref f_piece_from) = true)
    (a_pieces_within : PySem.W.nsIn K mainGlobals "pieces_within" = some (some (.ref f_pieces_within)))
    (l_pieces_within : K.lookup f_pieces_within = some ⟨oc_pieces_within, od_pieces_within, .func (PySem.W.fnOf "pieces_within" "pieces_within" (defArgs s_pieces_within) (defBody s_pieces_within) (defScope s_pieces_within) .none kV_pieces_within dc_pieces_within pm_pieces_within an_pieces_within cd_pieces_within ct_pieces_within), sl_pieces_within⟩)
    (c_pieces_within : PySem.W.codeIn K cd_pieces_within "pieces_within" = true)
    (k_pieces_within : PySem.W.keepIn K (.ref f_pieces_within) = true)
    (a_fork : PySem.W.nsIn K mainGlobals "fork" = some (some (.ref f_fork)))
    (l_fork : K.lookup f_fork = some ⟨oc_fork, od_fork, .func (PySem.W.fnOf "fork" "fork" (defArgs s_fork) (defBody s_fork) (defScope s_fork) .none kV_fork dc_fork pm_fork an_fork cd_fork ct_fork), sl_fork⟩)
    (c_fork : PySem.W.codeIn K cd_fork "fork" = true)
    (k_fork : PySem.W.keepIn K (.ref f_fork) = true)
    (a_listed_from : PySem.W.nsIn K mainGlobals "listed_from" = some (some (.ref f_listed_from)))
    (l_listed_from : K.lookup f_listed_from = some ⟨oc_listed_from, od_listed_from, .func (PySem.W.fnOf "listed_from" "listed_from" (defArgs s_listed_from) (defBody s_listed_from) (defScope s_listed_from) .none kV_listed_from dc_listed_from pm_listed_from an_listed_from cd_listed_from ct_listed_from), sl_listed_from⟩)
    (c_listed_from : PySem.W.codeIn K cd_listed_from "listed_from" = true)
    (k_listed_from : PySem.W.keepIn K (.ref f_listed_from) = true)
    (a_rests_within : PySem.W.nsIn K mainGlobals "rests_within" = some (some (.ref f_rests_within)))
    (l_rests_within : K.lookup f_rests_within = some ⟨oc_rests_within, od_rests_within, .func (PySem.W.fnOf "rests_within" "rests_within" (defArgs s_rests_within) (defBody s_rests_within) (defScope s_rests_within) .none kV_rests_within dc_rests_within pm_rests_within an_rests_within cd_rests_within ct_rests_within), sl_rests_within⟩)
    (c_rests_within : PySem.W.codeIn K cd_rests_within "rests_within" = true)
    (k_rests_within : PySem.W.keepIn K (.ref f_rests_within) = true)
    (a_many_rests : PySem.W.nsIn K mainGlobals "many_rests" = some (some (.ref f_many_rests)))
    (l_many_rests : K.lookup f_many_rests = some ⟨oc_many_rests, od_many_rests, .func (PySem.W.fnOf "many_rests" "many_rests" (defArgs s_many_rests) (defBody s_many_rests) (defScope s_many_rests) .none kV_many_rests dc_many_rests pm_many_rests an_many_rests cd_many_rests ct_many_rests), sl_many_rests⟩)
    (c_many_rests : PySem.W.codeIn K cd_many_rests "many_rests" = true)
    (k_many_rests : PySem.W.keepIn K (.ref f_many_rests) = true)
    (a_check_listed : PySem.W.nsIn K mainGlobals "check_listed" = some (some (.ref f_check_listed)))
    (l_check_listed : K.lookup f_check_listed = some ⟨oc_check_listed, od_check_listed, .func (PySem.W.fnOf "check_listed" "check_listed" (defArgs s_check_listed) (defBody s_check_listed) (defScope s_check_listed) .none kV_check_listed dc_check_listed pm_check_listed an_check_listed cd_check_listed ct_check_listed), sl_check_listed⟩)
    (c_check_listed : PySem.W.codeIn K cd_check_listed "check_listed" = true)
    (k_check_listed : PySem.W.keepIn K (.ref f_check_listed) = true)
    (a_best_by_pieces : PySem.W.nsIn K mainGlobals "best_by_pieces" = some (some (.ref f_best_by_pieces)))
    (l_best_by_pieces : K.lookup f_best_by_pieces = some ⟨oc_best_by_pieces, od_best_by_pieces, .func (PySem.W.fnOf "best_by_pieces" "best_by_pieces" (defArgs s_best_by_pieces) (defBody s_best_by_pieces) (defScope s_best_by_pieces) .none kV_best_by_pieces dc_best_by_pieces pm_best_by_pieces an_best_by_pieces cd_best_by_pieces ct_best_by_pieces), sl_best_by_pieces⟩)
    (c_best_by_pieces : PySem.W.codeIn K cd_best_by_pieces "best_by_pieces" = true)
    (k_best_by_pieces : PySem.W.keepIn K (.ref f_best_by_pieces) = true)
    (a_rest_sizes : PySem.W.nsIn K mainGlobals "rest_sizes" = some (some (.ref f_rest_sizes)))
    (l_rest_sizes : K.lookup f_rest_sizes = some ⟨oc_rest_sizes, od_rest_sizes, .func (PySem.W.fnOf "rest_sizes" "rest_sizes" (defArgs s_rest_sizes) (defBody s_rest_sizes) (defScope s_rest_sizes) .none kV_rest_sizes dc_rest_sizes pm_rest_sizes an_rest_sizes cd_rest_sizes ct_rest_sizes), sl_rest_sizes⟩)
    (c_rest_sizes : PySem.W.codeIn K cd_rest_sizes "rest_sizes" = true)
    (k_rest_sizes : PySem.W.keepIn K (.ref f_rest_sizes) = true)
    (a_smallest_rest : PySem.W.nsIn K mainGlobals "smallest_rest" = some (some (.ref f_smallest_rest)))
    (l_smallest_rest : K.lookup f_smallest_rest = some ⟨oc_smallest_rest, od_smallest_rest, .func (PySem.W.fnOf "smallest_rest" "smallest_rest" (defArgs s_smallest_rest) (defBody s_smallest_rest) (defScope s_smallest_rest) .none kV_smallest_rest dc_smallest_rest pm_smallest_rest an_smallest_rest cd_smallest_rest ct_smallest_rest), sl_smallest_rest⟩)
    (c_smallest_rest : PySem.W.codeIn K cd_smallest_rest "smallest_rest" = true)
    (k_smallest_rest : PySem.W.keepIn K (.ref f_smallest_rest) = true)
    (a_greatest_rest : PySem.W.nsIn K mainGlobals "greatest_rest" = some (some (.ref f_greatest_rest)))
    (l_greatest_rest : K.lookup f_greatest_rest = some ⟨oc_greatest_rest, od_greatest_rest, .func (PySem.W.fnOf "greatest_rest" "greatest_rest" (defArgs s_greatest_rest) (defBody s_greatest_rest) (defScope s_greatest_rest) .none kV_greatest_rest dc_greatest_rest pm_greatest_rest an_greatest_rest cd_greatest_rest ct_greatest_rest), sl_greatest_rest⟩)
    (c_greatest_rest : PySem.W.codeIn K cd_greatest_rest "greatest_rest" = true)
    (k_greatest_rest : PySem.W.keepIn K (.ref f_greatest_rest) = true)
    (a_law_is_integer : PySem.W.nsIn K mainGlobals "_law_is_integer" = some (some (.ref f_law_is_integer)))
    (l_law_is_integer : K.lookup f_law_is_integer = some ⟨oc_law_is_integer, od_law_is_integer, .func (PySem.W.fnOf "_law_is_integer" "_law_is_integer" (defArgs s_law_is_integer) (defBody s_law_is_integer) (defScope s_law_is_integer) .none kV_law_is_integer dc_law_is_integer pm_law_is_integer an_law_is_integer cd_law_is_integer ct_law_is_integer), sl_law_is_integer⟩)
    (c_law_is_integer : PySem.W.codeIn K cd_law_is_integer "_law_is_integer" = true)
    (k_law_is_integer : PySem.W.keepIn K (.ref f_law_is_integer) = true)
    (a_law_source : PySem.W.nsIn K mainGlobals "_law_source" = some (some (.ref f_law_source)))
    (l_law_source : K.lookup f_law_source = some ⟨oc_law_source, od_law_source, .func (PySem.W.fnOf "_law_source" "_law_source" (defArgs s_law_source) (defBody s_law_source) (defScope s_law_source) .none kV_law_source dc_law_source pm_law_source an_law_source cd_law_source ct_law_source), sl_law_source⟩)
    (c_law_source : PySem.W.codeIn K cd_law_source "_law_source" = true)
    (k_law_source : PySem.W.keepIn K (.ref f_law_source) = true)
    (a_law_draw : PySem.W.nsIn K mainGlobals "_law_draw" = some (some (.ref f_law_draw)))
    (l_law_draw : K.lookup f_law_draw = some ⟨oc_law_draw, od_law_draw, .func (PySem.W.fnOf "_law_draw" "_law_draw" (defArgs s_law_draw) (defBody s_law_draw) (defScope s_law_draw) .none kV_law_draw dc_law_draw pm_law_draw an_law_draw cd_law_draw ct_law_draw), sl_law_draw⟩)
    (c_law_draw : PySem.W.codeIn K cd_law_draw "_law_draw" = true)
    (k_law_draw : PySem.W.keepIn K (.ref f_law_draw) = true)
    (a_law_perm : PySem.W.nsIn K mainGlobals "_law_perm" = some (some (.ref f_law_perm)))
    (l_law_perm : K.lookup f_law_perm = some ⟨oc_law_perm, od_law_perm, .func (PySem.W.fnOf "_law_perm" "_law_perm" (defArgs s_law_perm) (defBody s_law_perm) (defScope s_law_perm) .none kV_law_perm dc_law_perm pm_law_perm an_law_perm cd_law_perm ct_law_perm), sl_law_perm⟩)
    (c_law_perm : PySem.W.codeIn K cd_law_perm "_law_perm" = true)
    (k_law_perm : PySem.W.keepIn K (.ref f_law_perm) = true)
    (a_law_ties : PySem.W.nsIn K mainGlobals "_law_ties" = some (some (.ref f_law_ties)))
    (l_law_ties : K.lookup f_law_ties = some ⟨oc_law_ties, od_law_ties, .func (PySem.W.fnOf "_law_ties" "_law_ties" (defArgs s_law_ties) (defBody s_law_ties) (defScope s_law_ties) .none kV_law_ties dc_law_ties pm_law_ties an_law_ties cd_law_ties ct_law_ties), sl_law_ties⟩)
    (c_law_ties : PySem.W.codeIn K cd_law_ties "_law_ties" = true)
    (k_law_ties : PySem.W.keepIn K (.ref f_law_ties) = true)
    (a_law_size : PySem.W.nsIn K mainGlobals "_law_size" = some (some (.ref f_law_size)))
    (l_law_size : K.lookup f_law_size = some ⟨oc_law_size, od_law_size, .func (PySem.W.fnOf "_law_size" "_law_size" (defArgs s_law_size) (defBody s_law_size) (defScope s_law_size) .none kV_law_size dc_law_size pm_law_size an_law_size cd_law_size ct_law_size), sl_law_size⟩)
    (c_law_size : PySem.W.codeIn K cd_law_size "_law_size" = true)
    (k_law_size : PySem.W.keepIn K (.ref f_law_size) = true)
    (a_law_near : PySem.W.nsIn K mainGlobals "_law_near" = some (some (.ref f_law_near)))
    (l_law_near : K.lookup f_law_near = some ⟨oc_law_near, od_law_near, .func (PySem.W.fnOf "_law_near" "_law_near" (defArgs s_law_near) (defBody s_law_near) (defScope s_law_near) .none kV_law_near dc_law_near pm_law_near an_law_near cd_law_near ct_law_near), sl_law_near⟩)
    (c_law_near : PySem.W.codeIn K cd_law_near "_law_near" = true)
    (k_law_near : PySem.W.keepIn K (.ref f_law_near) = true)
    (a_law_lot : PySem.W.nsIn K mainGlobals "_law_lot" = some (some (.ref f_law_lot)))
    (l_law_lot : K.lookup f_law_lot = some ⟨oc_law_lot, od_law_lot, .func (PySem.W.fnOf "_law_lot" "_law_lot" (defArgs s_law_lot) (defBody s_law_lot) (defScope s_law_lot) .none kV_law_lot dc_law_lot pm_law_lot an_law_lot cd_law_lot ct_law_lot), sl_law_lot⟩)
    (c_law_lot : PySem.W.codeIn K cd_law_lot "_law_lot" = true)
    (k_law_lot : PySem.W.keepIn K (.ref f_law_lot) = true)
    (a_law_is_rest : PySem.W.nsIn K mainGlobals "_law_is_rest" = some (some (.ref f_law_is_rest)))
    (l_law_is_rest : K.lookup f_law_is_rest = some ⟨oc_law_is_rest, od_law_is_rest, .func (PySem.W.fnOf "_law_is_rest" "_law_is_rest" (defArgs s_law_is_rest) (defBody s_law_is_rest) (defScope s_law_is_rest) .none kV_law_is_rest dc_law_is_rest pm_law_is_rest an_law_is_rest cd_law_is_rest ct_law_is_rest), sl_law_is_rest⟩)
    (c_law_is_rest : PySem.W.codeIn K cd_law_is_rest "_law_is_rest" = true)
    (k_law_is_rest : PySem.W.keepIn K (.ref f_law_is_rest) = true)
    (a_law_rests : PySem.W.nsIn K mainGlobals "_law_rests" = some (some (.ref f_law_rests)))
    (l_law_rests : K.lookup f_law_rests = some ⟨oc_law_rests, od_law_rests, .func (PySem.W.fnOf "_law_rests" "_law_rests" (defArgs s_law_rests) (defBody s_law_rests) (defScope s_law_rests) .none kV_law_rests dc_law_rests pm_law_rests an_law_rests cd_law_rests ct_law_rests), sl_law_rests⟩)
    (c_law_rests : PySem.W.codeIn K cd_law_rests "_law_rests" = true)
    (k_law_rests : PySem.W.keepIn K (.ref f_law_rests) = true)
    (a_law_same : PySem.W.nsIn K mainGlobals "_law_same" = some (some (.ref f_law_same)))
    (l_law_same : K.lookup f_law_same = some ⟨oc_law_same, od_law_same, .func (PySem.W.fnOf "_law_same" "_law_same" (defArgs s_law_same) (defBody s_law_same) (defScope s_law_same) .none kV_law_same dc_law_same pm_law_same an_law_same cd_law_same ct_law_same), sl_law_same⟩)
    (c_law_same : PySem.W.codeIn K cd_law_same "_law_same" = true)
    (k_law_same : PySem.W.keepIn K (.ref f_law_same) = true)
    (a_law_least : PySem.W.nsIn K mainGlobals "_law_least" = some (some (.ref f_law_least)))
    (l_law_least : K.lookup f_law_least = some ⟨oc_law_least, od_law_least, .func (PySem.W.fnOf "_law_least" "_law_least" (defArgs s_law_least) (defBody s_law_least) (defScope s_law_least) .none kV_law_least dc_law_least pm_law_least an_law_least cd_law_least ct_law_least), sl_law_least⟩)
    (c_law_least : PySem.W.codeIn K cd_law_least "_law_least" = true)
    (k_law_least : PySem.W.keepIn K (.ref f_law_least) = true)
    (a_law_same_dict : PySem.W.nsIn K mainGlobals "_law_same_dict" = some (some (.ref f_law_same_dict)))
    (l_law_same_dict : K.lookup f_law_same_dict = some ⟨oc_law_same_dict, od_law_same_dict, .func (PySem.W.fnOf "_law_same_dict" "_law_same_dict" (defArgs s_law_same_dict) (defBody s_law_same_dict) (defScope s_law_same_dict) .none kV_law_same_dict dc_law_same_dict pm_law_same_dict an_law_same_dict cd_law_same_dict ct_law_same_dict), sl_law_same_dict⟩)
    (c_law_same_dict : PySem.W.codeIn K cd_law_same_dict "_law_same_dict" = true)
    (k_law_same_dict : PySem.W.keepIn K (.ref f_law_same_dict) = true)
    (a_law_groups_hold : PySem.W.nsIn K mainGlobals "_law_groups_hold" = some (some (.ref f_law_groups_hold)))
    (l_law_groups_hold : K.lookup f_law_groups_hold = some ⟨oc_law_groups_hold, od_law_groups_hold, .func (PySem.W.fnOf "_law_groups_hold" "_law_groups_hold" (defArgs s_law_groups_hold) (defBody s_law_groups_hold) (defScope s_law_groups_hold) .none kV_law_groups_hold dc_law_groups_hold pm_law_groups_hold an_law_groups_hold cd_law_groups_hold ct_law_groups_hold), sl_law_groups_hold⟩)
    (c_law_groups_hold : PySem.W.codeIn K cd_law_groups_hold "_law_groups_hold" = true)
    (k_law_groups_hold : PySem.W.keepIn K (.ref f_law_groups_hold) = true)
    (a_law : PySem.W.nsIn K mainGlobals "law" = some (some (.ref f_law)))
    (l_law : K.lookup f_law = some ⟨oc_law, od_law, .func (PySem.W.fnOf "law" "law" (defArgs s_law) (defBody s_law) (defScope s_law) .none kV_law dc_law pm_law an_law cd_law ct_law), sl_law⟩)
    (c_law : PySem.W.codeIn K cd_law "law" = true)
    (k_law : PySem.W.keepIn K (.ref f_law) = true)
    (a_MOST_PARTS : PySem.W.nsIn K mainGlobals "MOST_PARTS" = some (some (.int 24 t_MOST_PARTS)))
    (a_MOST_LISTED : PySem.W.nsIn K mainGlobals "MOST_LISTED" = some (some (.int 2000 t_MOST_LISTED)))
    (a_Web : PySem.W.nsIn K mainGlobals "Web" = some (some (.ref C_Web)))
    (pg_Web : PySem.W.plainGet K C_Web Str.empty = true)
    (hd_Web : PySem.W.hasDictIn K C_Web = true)
    (po_Web : PySem.W.plainOver K C_Web = true)
    (sa_Web : PySem.W.findIn K (.ref C_Web) "__setattr__" = some (some (.builtin "object.__setattr__")))
    (mk_Web : PySem.W.makesIn K C_Web = true)
    (kc_Web : PySem.W.keepIn K (.ref C_Web) = true)
    (na_Web_size : PySem.W.findIn K (.ref C_Web) "size" = some none)
    (na_Web_ties : PySem.W.findIn K (.ref C_Web) "ties" = some none)
    (na_Web_whole : PySem.W.findIn K (.ref C_Web) "whole" = some none)
    (na_Web_near : PySem.W.findIn K (.ref C_Web) "near" = some none)
    (a_Counter : PySem.W.nsIn K mainGlobals "Counter" = some (some (.ref C_Counter)))
    (pg_Counter : PySem.W.plainGet K C_Counter Str.empty = true)
    (hd_Counter : PySem.W.hasDictIn K C_Counter = true)
    (po_Counter : PySem.W.plainOver K C_Counter = true)
    (sa_Counter : PySem.W.findIn K (.ref C_Counter) "__setattr__" = some (some (.builtin "object.__setattr__")))
    (mk_Counter : PySem.W.makesIn K C_Counter = true)
    (kc_Counter : PySem.W.keepIn K (.ref C_Counter) = true)
    (na_Counter_web : PySem.W.findIn K (.ref C_Counter) "web" = some none)
    (na_Counter_known : PySem.W.findIn K (.ref C_Counter) "known" = some none)
    (a_Web_init : PySem.W.findIn K (.ref C_Web) "__init__" = some (some (.ref f_Web_init)))
    (i_Web_init : PySem.W.isFn K (.ref f_Web_init) = true)
    (l_Web_init : K.lookup f_Web_init = some ⟨oc_Web_init, od_Web_init, .func (PySem.W.fnOf "__init__" "Web.__init__" (defArgs m_Web_init) (defBody m_Web_init) (defScope m_Web_init) .none kV_Web_init dc_Web_init pm_Web_init an_Web_init cd_Web_init ct_Web_init), sl_Web_init⟩)
    (c_Web_init : PySem.W.codeIn K cd_Web_init "Web.__init__" = true)
    (k_Web_init : PySem.W.keepIn K (.ref f_Web_init) = true)
    (a_Web_begin : PySem.W.findIn K (.ref C_Web) "begin" = some (some (.ref f_Web_begin)))
    (i_Web_begin : PySem.W.isFn K (.ref f_Web_begin) = true)
    (l_Web_begin : K.lookup f_Web_begin = some ⟨oc_Web_begin, od_Web_begin, .func (PySem.W.fnOf "begin" "Web.begin" (defArgs m_Web_begin) (defBody m_Web_begin) (defScope m_Web_begin) .none kV_Web_begin dc_Web_begin pm_Web_begin an_Web_begin cd_Web_begin ct_Web_begin), sl_Web_begin⟩)
    (c_Web_begin : PySem.W.codeIn K cd_Web_begin "Web.begin" = true)
    (k_Web_begin : PySem.W.keepIn K (.ref f_Web_begin) = true)
    (a_Counter_init : PySem.W.findIn K (.ref C_Counter) "__init__" = some (some (.ref f_Counter_init)))
    (i_Counter_init : PySem.W.isFn K (.ref f_Counter_init) = true)
    (l_Counter_init : K.lookup f_Counter_init = some ⟨oc_Counter_init, od_Counter_init, .func (PySem.W.fnOf "__init__" "Counter.__init__" (defArgs m_Counter_init) (defBody m_Counter_init) (defScope m_Counter_init) .none kV_Counter_init dc_Counter_init pm_Counter_init an_Counter_init cd_Counter_init ct_Counter_init), sl_Counter_init⟩)
    (c_Counter_init : PySem.W.codeIn K cd_Counter_init "Counter.__init__" = true)
    (k_Counter_init : PySem.W.keepIn K (.ref f_Counter_init) = true)
    (a_Counter_of : PySem.W.findIn K (.ref C_Counter) "of" = some (some (.ref f_Counter_of)))
    (i_Counter_of : PySem.W.isFn K (.ref f_Counter_of) = true)
    (l_Counter_of : K.lookup f_Counter_of = some ⟨oc_Counter_of, od_Counter_of, .func (PySem.W.fnOf "of" "Counter.of" (defArgs m_Counter_of) (defBody m_Counter_of) (defScope m_Counter_of) .none kV_Counter_of dc_Counter_of pm_Counter_of an_Counter_of cd_Counter_of ct_Counter_of), sl_Counter_of⟩)
    (c_Counter_of : PySem.W.codeIn K cd_Counter_of "Counter.of" = true)
    (k_Counter_of : PySem.W.keepIn K (.ref f_Counter_of) = true)
    (a_Counter_of_piece : PySem.W.findIn K (.ref C_Counter) "of_piece" = some (some (.ref f_Counter_of_piece)))
    (i_Counter_of_piece : PySem.W.isFn K (.ref f_Counter_of_piece) = true)
    (l_Counter_of_piece : K.lookup f_Counter_of_piece = some ⟨oc_Counter_of_piece, od_Counter_of_piece, .func (PySem.W.fnOf "of_piece" "Counter.of_piece" (defArgs m_Counter_of_piece) (defBody m_Counter_of_piece) (defScope m_Counter_of_piece) .none kV_Counter_of_piece dc_Counter_of_piece pm_Counter_of_piece an_Counter_of_piece cd_Counter_of_piece ct_Counter_of_piece), sl_Counter_of_piece⟩)
    (c_Counter_of_piece : PySem.W.codeIn K cd_Counter_of_piece "Counter.of_piece" = true)
    (k_Counter_of_piece : PySem.W.keepIn K (.ref f_Counter_of_piece) = true)
    (z_isinstance : PySem.W.nsIn K mainGlobals "isinstance" = some none)
    (z_int : PySem.W.nsIn K mainGlobals "int" = some none)
    (z_bool : PySem.W.nsIn K mainGlobals "bool" = some none)
    (z_tuple : PySem.W.nsIn K mainGlobals "tuple" = some none)
    (z_list : PySem.W.nsIn K mainGlobals "list" = some none)
    (z_len : PySem.W.nsIn K mainGlobals "len" = some none)
    (z_enumerate : PySem.W.nsIn K mainGlobals "enumerate" = some none)
    (z_range : PySem.W.nsIn K mainGlobals "range" = some none)
    (z_min : PySem.W.nsIn K mainGlobals "min" = some none)
    (z_max : PySem.W.nsIn K mainGlobals "max" = some none)
    (z_sorted : PySem.W.nsIn K mainGlobals "sorted" = some none)
    (z_set : PySem.W.nsIn K mainGlobals "set" = some none)
    (z_all : PySem.W.nsIn K mainGlobals "all" = some none)
    (z_zip : PySem.W.nsIn K mainGlobals "zip" = some none)
    (z_dict : PySem.W.nsIn K mainGlobals "dict" = some none)
    (z_str : PySem.W.nsIn K mainGlobals "str" = some none) :
    ∃ fd : FuncData, (∀ (s : Shared) (v : Value), BindsTo s fd ⟨[v], []⟩ [("_law_script", v)]) ∧ ∀ base : Heap, K.In base → base.Ns mainGlobals mg → FnOk l.prog w K mg base CX0 43 fa fd ["_law_script"] (spLaw K) := by
  have e := hfa.symm.trans (PySem.W.mg_of X G a_law)
  cases e
  let T : Txt K mg := {
    is_integer := defAt X G ["thing"] a_is_integer l_is_integer c_is_integer k_is_integer (fun F => F.binds fun _ _ _ _ _ _ us hl => match us, hl with | [_], _ => rfl)
    is_between := defAt X G ["thing", "least", "most"] a_is_between l_is_between c_is_between k_is_between (fun F => F.binds fun _ _ _ _ _ _ us hl => match us, hl with | [_, _, _], _ => rfl)
    is_pair := defAt X G ["thing"] a_is_pair l_is_pair c_is_pair k_is_pair (fun F => F.binds fun _ _ _ _ _ _ us hl => match us, hl with | [_], _ => rfl)
    is_lot := defAt X G ["thing", "many"] a_is_lot l_is_lot c_is_lot k_is_lot (fun F => F.binds fun _ _ _ _ _ _ us hl => match us, hl with | [_, _], _ => rfl)
    check_number := defAt X G ["thing", "least", "most"] a_check_number l_check_number c_check_number k_check_number (fun F => F.binds fun _ _ _ _ _ _ us hl => match us, hl with | [_, _, _], _ => rfl)
    bits_of := defAt X G ["lot"] a_bits_of l_bits_of c_bits_of k_bits_of (fun F => F.binds fun _ _ _ _ _ _ us hl => match us, hl with | [_], _ => rfl)
    lowest := defAt X G ["bits"] a_lowest l_lowest c_lowest k_lowest (fun F => F.binds fun _ _ _ _ _ _ us hl => match us, hl with | [_], _ => rfl)
    lot_of := defAt X G ["bits"] a_lot_of l_lot_of c_lot_of k_lot_of (fun F => F.binds fun _ _ _ _ _ _ us hl => match us, hl with | [_], _ => rfl)
    many_of := defAt X G ["bits"] a_many_of l_many_of c_many_of k_many_of (fun F => F.binds fun _ _ _ _ _ _ us hl => match us, hl with | [_], _ => rfl)
    is_tie := defAt X G ["thing", "size"] a_is_tie l_is_tie c_is_tie k_is_tie (fun F => F.binds fun _ _ _ _ _ _ us hl => match us, hl with | [_, _], _ => rfl)
    web_of := defAt X G ["size", "pairs"] a_web_of l_web_of c_web_of k_web_of (fun F => F.binds fun _ _ _ _ _ _ us hl => match us, hl with | [_, _], _ => rfl)
    moved_on := defAt X G ["ties", "many"] a_moved_on l_moved_on c_moved_on k_moved_on (fun F => F.binds fun _ _ _ _ _ _ us hl => match us, hl with | [_, _], _ => rfl)
    beside := defAt X G ["one", "other"] a_beside l_beside c_beside k_beside (fun F => F.binds fun _ _ _ _ _ _ us hl => match us, hl with | [_, _], _ => rfl)
    row := defAt X G ["size"] a_row l_row c_row k_row (fun F => F.binds fun _ _ _ _ _ _ us hl => match us, hl with | [_], _ => rfl)
    silenced := defAt X G ["web", "bits"] a_silenced l_silenced c_silenced k_silenced (fun F => F.binds fun _ _ _ _ _ _ us hl => match us, hl with | [_, _], _ => rfl)
    changing := defAt X G ["web", "bits"] a_changing l_changing c_changing k_changing (fun F => F.binds fun _ _ _ _ _ _ us hl => match us, hl with | [_, _], _ => rfl)
    is_rest_bits := defAt X G ["web", "bits"] a_is_rest_bits l_is_rest_bits c_is_rest_bits k_is_rest_bits (fun F => F.binds fun _ _ _ _ _ _ us hl => match us, hl with | [_, _], _ => rfl)
    is_rest := defAt X G ["web", "thing"] a_is_rest l_is_rest c_is_rest k_is_rest (fun F => F.binds fun _ _ _ _ _ _ us hl => match us, hl with | [_, _], _ => rfl)
    piece_from := defAt X G ["web", "bits", "part"] a_piece_from l_piece_from c_piece_from k_piece_from (fun F => F.binds fun _ _ _ _ _ _ us hl => match us, hl with | [_, _, _], _ => rfl)
    pieces_within := defAt X G ["web", "bits"] a_pieces_within l_pieces_within c_pieces_within k_pieces_within (fun F => F.binds fun _ _ _ _ _ _ us hl => match us, hl with | [_, _], _ => rfl)
    fork := defAt X G ["web", "free", "shut"] a_fork l_fork c_fork k_fork (fun F => F.binds fun _ _ _ _ _ _ us hl => match us, hl with | [_, _, _], _ => rfl)
    listed_from := defAt X G ["web", "chosen", "free", "shut"] a_listed_from l_listed_from c_listed_from k_listed_from (fun F => F.binds fun _ _ _ _ _ _ us hl => match us, hl with | [_, _, _, _], _ => rfl)
    rests_within := defAt X G ["web", "free", "keep"] a_rests_within l_rests_within c_rests_within k_rests_within (fun F => F.binds fun _ _ _ _ _ _ us hl => match us, hl with | [_, _, _], _ => rfl)
    many_rests := defAt X G ["web"] a_many_rests l_many_rests c_many_rests k_many_rests (fun F => F.binds fun _ _ _ _ _ _ us hl => match us, hl with | [_], _ => rfl)
    check_listed := defAt X G ["number"] a_check_listed l_check_listed c_check_listed k_check_listed (fun F => F.binds fun _ _ _ _ _ _ us hl => match us, hl with | [_], _ => rfl)
    best_by_pieces := defAt X G ["web", "sign"] a_best_by_pieces l_best_by_pieces c_best_by_pieces k_best_by_pieces (fun F => F.binds fun _ _ _ _ _ _ us hl => match us, hl with | [_, _], _ => rfl)
    rest_sizes := defAt X G ["web"] a_rest_sizes l_rest_sizes c_rest_sizes k_rest_sizes (fun F => F.binds fun _ _ _ _ _ _ us hl => match us, hl with | [_], _ => rfl)
    smallest_rest := defAt X G ["web"] a_smallest_rest l_smallest_rest c_smallest_rest k_smallest_rest (fun F => F.binds fun _ _ _ _ _ _ us hl => match us, hl with | [_], _ => rfl)
    greatest_rest := defAt X G ["web"] a_greatest_rest l_greatest_rest c_greatest_rest k_greatest_rest (fun F => F.binds fun _ _ _ _ _ _ us hl => match us, hl with | [_], _ => rfl)
    law_is_integer := defAt X G ["_law_thing"] a_law_is_integer l_law_is_integer c_law_is_integer k_law_is_integer (fun F => F.binds fun _ _ _ _ _ _ us hl => match us, hl with | [_], _ => rfl)
    law_source := defAt X G ["_law_script", "_law_k"] a_law_source l_law_source c_law_source k_law_source (fun F => F.binds fun _ _ _ _ _ _ us hl => match us, hl with | [_, _], _ => rfl)
    law_draw := defAt X G ["_law_source_here", "_law_many"] a_law_draw l_law_draw c_law_draw k_law_draw (fun F => F.binds fun _ _ _ _ _ _ us hl => match us, hl with | [_, _], _ => rfl)
    law_perm := defAt X G ["_law_source_here", "_law_many"] a_law_perm l_law_perm c_law_perm k_law_perm (fun F => F.binds fun _ _ _ _ _ _ us hl => match us, hl with | [_, _], _ => rfl)
    law_ties := defAt X G ["_law_source_here", "_law_size_here"] a_law_ties l_law_ties c_law_ties k_law_ties (fun F => F.binds fun _ _ _ _ _ _ us hl => match us, hl with | [_, _], _ => rfl)
    law_size := defAt X G ["_law_source_here", "_law_most"] a_law_size l_law_size c_law_size k_law_size (fun F => F.binds fun _ _ _ _ _ _ us hl => match us, hl with | [_, _], _ => rfl)
    law_near := defAt X G ["_law_size_here", "_law_ties_here"] a_law_near l_law_near c_law_near k_law_near (fun F => F.binds fun _ _ _ _ _ _ us hl => match us, hl with | [_, _], _ => rfl)
    law_lot := defAt X G ["_law_bits", "_law_size_here"] a_law_lot l_law_lot c_law_lot k_law_lot (fun F => F.binds fun _ _ _ _ _ _ us hl => match us, hl with | [_, _], _ => rfl)
    law_is_rest := defAt X G ["_law_near_here", "_law_bits"] a_law_is_rest l_law_is_rest c_law_is_rest k_law_is_rest (fun F => F.binds fun _ _ _ _ _ _ us hl => match us, hl with | [_, _], _ => rfl)
    law_rests := defAt X G ["_law_size_here", "_law_ties_here"] a_law_rests l_law_rests c_law_rests k_law_rests (fun F => F.binds fun _ _ _ _ _ _ us hl => match us, hl with | [_, _], _ => rfl)
    law_same := defAt X G ["_law_told", "_law_due"] a_law_same l_law_same c_law_same k_law_same (fun F => F.binds fun _ _ _ _ _ _ us hl => match us, hl with | [_, _], _ => rfl)
    law_least := defAt X G ["_law_lots", "_law_sign"] a_law_least l_law_least c_law_least k_law_least (fun F => F.binds fun _ _ _ _ _ _ us hl => match us, hl with | [_, _], _ => rfl)
    law_same_dict := defAt X G ["_law_told", "_law_due"] a_law_same_dict l_law_same_dict c_law_same_dict k_law_same_dict (fun F => F.binds fun _ _ _ _ _ _ us hl => match us, hl with | [_, _], _ => rfl)
    law_groups_hold := defAt X G ["_law_source_here"] a_law_groups_hold l_law_groups_hold c_law_groups_hold k_law_groups_hold (fun F => F.binds fun _ _ _ _ _ _ us hl => match us, hl with | [_], _ => rfl)
    law := defAt X G ["_law_script"] a_law l_law c_law k_law (fun F => F.binds fun _ _ _ _ _ _ us hl => match us, hl with | [_], _ => rfl)
    MOST_PARTS := ⟨t_MOST_PARTS, PySem.W.mg_of X G a_MOST_PARTS⟩
    MOST_LISTED := ⟨t_MOST_LISTED, PySem.W.mg_of X G a_MOST_LISTED⟩
    CWeb := C_Web
    gWeb := PySem.W.mg_of X G a_Web
    cWeb := ⟨pg_Web, hd_Web, po_Web, sa_Web⟩
    na_Web_size := na_Web_size
    na_Web_ties := na_Web_ties
    na_Web_whole := na_Web_whole
    na_Web_near := na_Web_near
    CCounter := C_Counter
    gCounter := PySem.W.mg_of X G a_Counter
    cCounter := ⟨pg_Counter, hd_Counter, po_Counter, sa_Counter⟩
    na_Counter_web := na_Counter_web
    na_Counter_known := na_Counter_known
    Web_init := makeAt ["self", "size", "ties"] a_Web_init i_Web_init l_Web_init c_Web_init k_Web_init (fun F => F.binds fun _ _ _ _ _ _ us hl => match us, hl with | [_, _, _], _ => rfl) mk_Web kc_Web
    Web_begin := methAt ["self", "size", "ties"] a_Web_begin i_Web_begin l_Web_begin c_Web_begin k_Web_begin (fun F => F.binds fun _ _ _ _ _ _ us hl => match us, hl with | [_, _, _], _ => rfl)
    Counter_init := makeAt ["self", "web"] a_Counter_init i_Counter_init l_Counter_init c_Counter_init k_Counter_init (fun F => F.binds fun _ _ _ _ _ _ us hl => match us, hl with | [_, _], _ => rfl) mk_Counter kc_Counter
    Counter_of := methAt ["self", "free", "shut"] a_Counter_of i_Counter_of l_Counter_of c_Counter_of k_Counter_of (fun F => F.binds fun _ _ _ _ _ _ us hl => match us, hl with | [_, _, _], _ => rfl)
    Counter_of_piece := methAt ["self", "free", "shut"] a_Counter_of_piece i_Counter_of_piece l_Counter_of_piece c_Counter_of_piece k_Counter_of_piece (fun F => F.binds fun _ _ _ _ _ _ us hl => match us, hl with | [_, _, _], _ => rfl)
    b_isinstance := PySem.W.mg_none_of X G z_isinstance
    b_int := PySem.W.mg_none_of X G z_int
    b_bool := PySem.W.mg_none_of X G z_bool
    b_tuple := PySem.W.mg_none_of X G z_tuple
    b_list := PySem.W.mg_none_of X G z_list
    b_len := PySem.W.mg_none_of X G z_len
    b_enumerate := PySem.W.mg_none_of X G z_enumerate
    b_range := PySem.W.mg_none_of X G z_range
    b_min := PySem.W.mg_none_of X G z_min
    b_max := PySem.W.mg_none_of X G z_max
    b_sorted := PySem.W.mg_none_of X G z_sorted
    b_set := PySem.W.mg_none_of X G z_set
    b_all := PySem.W.mg_none_of X G z_all
    b_zip := PySem.W.mg_none_of X G z_zip
    b_dict := PySem.W.mg_none_of X G z_dict
    b_str := PySem.W.mg_none_of X G z_str
  }
  exact ⟨PySem.W.fnOf "law" "law" (defArgs s_law) (defBody s_law) (defScope s_law) .none kV_law dc_law pm_law an_law cd_law ct_law, fun s v => .of_eq rfl, fun base _ _ => ok_law T⟩
theorem walk {l : PySem.W.OpenLaw} {q : Program} {loose : List Str} {XP : (Str → Option Value) → Heap → Prop} {YP : World → Heap → Prop} {d : DefRec} {K : Params → PySem.W.Frag} (hn : l.most = some 63) (hdf : d.params.defaults = [])
    (hY : ∀ (w : World) (h : Heap), YP w h → (K w.params).In h)
    (F : ∀ (w : World) (mg : Str → Option Value) (fa : Addr) (h : Heap), (K w.params).In h → h.Ns mainGlobals mg → mg d.name = some (.ref fa) →
      ∃ fd : FuncData, (∀ (s : Shared) (u : Value), BindsTo s fd ⟨[u], []⟩ [("_law_script", u)]) ∧ ∀ base : Heap, (K w.params).In base → base.Ns mainGlobals mg → FnOk l.prog w (K w.params) mg base CX0 43 fa fd ["_law_script"] (spLaw (K w.params))) :
    PySem.W.WalkO q loose XP YP l.row.toRowW d [] (fun f vs => PySem.call f vs) :=
  L2.walk_of (n := 63) (k := 43) (x := "_law_script") (CX := fun _ => CX0) (sp := fun w => spLaw (K w.params)) hn (by decide) hdf ⟨rfl, by decide, by decide⟩ hY F (fun _ _ a ns hl _ hS => ⟨a, ns, rfl, hS, hl, fun _ => rfl⟩) fun _ _ _ _ _ z => z
end Sil
end

section
set_option Elab.async false

open PySem PySem.W PyProof.Rows in
set_option maxRecDepth 100000 in
set_option maxHeartbeats 0 in
theorem PySem.Challenge.cw_silencers_k20_whole_smallest_and_greates_holds : PySem.Challenge.rw_silencers_k20_whole_smallest_and_greates.Holds := by
  w_on; o_law; k_head; (case hw => w_witness2)
  k_fill
  refine Sil.walk (l := PySem.Challenge.rw_silencers_k20_whole_smallest_and_greates) rfl rfl (fun w h Y => PySem.W.kIn_of Y) ?F
  case F =>
    intro w mg fa h KX G hmg
    refine' Sil.all_mk KX G hmg ?a_is_integer ?l_is_integer ?c_is_integer ?k_is_integer ?a_is_between ?l_is_between ?c_is_between ?k_is_between ?a_is_pair ?l_is_pair ?c_is_pair ?k_is_pair ?a_is_lot ?l_is_lot ?c_is_lot ?k_is_lot ?a_check_number ?l_check_number ?c_check_number ?k_check_number ?a_bits_of ?l_bits_of ?c_bits_of ?k_bits_of ?a_lowest ?l_lowest ?c_lowest ?k_lowest ?a_lot_of ?l_lot_of ?c_lot_of ?k_lot_of ?a_many_of ?l_many_of ?c_many_of ?k_many_of ?a_is_tie ?l_is_tie ?c_is_tie ?k_is_tie ?a_web_of ?l_web_of ?c_web_of ?k_web_of ?a_moved_on ?l_moved_on ?c_moved_on ?k_moved_on ?a_beside ?l_beside ?c_beside ?k_beside ?a_row ?l_row ?c_row ?k_row ?a_silenced ?l_silenced ?c_silenced ?k_silenced ?a_changing ?l_changing ?c_changing ?k_changing ?a_is_rest_bits ?l_is_rest_bits ?c_is_rest_bits ?k_is_rest_bits ?a_is_rest ?l_is_rest ?c_is_rest ?k_is_rest ?a_piece_from ?l_piece_from ?c_piece_from ?k_piece_from ?a_pieces_within ?l_pieces_within ?c_pieces_within ?k_pieces_within ?a_fork ?l_fork ?c_fork ?k_fork ?a_listed_from ?l_listed_from ?c_listed_from ?k_listed_from ?a_rests_within ?l_rests_within ?c_rests_within ?k_rests_within ?a_many_rests ?l_many_rests ?c_many_rests ?k_many_rests ?a_check_listed ?l_check_listed ?c_check_listed ?k_check_listed ?a_best_by_pieces ?l_best_by_pieces ?c_best_by_pieces ?k_best_by_pieces ?a_rest_sizes ?l_rest_sizes ?c_rest_sizes ?k_rest_sizes ?a_smallest_rest ?l_smallest_rest ?c_smallest_rest ?k_smallest_rest ?a_greatest_rest ?l_greatest_rest ?c_greatest_rest ?k_greatest_rest ?a_law_is_integer ?l_law_is_integer ?c_law_is_integer ?k_law_is_integer ?a_law_source ?l_law_source ?c_law_source ?k_law_source ?a_law_draw ?l_law_draw ?c_law_draw ?k_law_draw ?a_law_perm ?l_law_perm ?c_law_perm ?k_law_perm ?a_law_ties ?l_law_ties ?c_law_ties ?k_law_ties ?a_law_size ?l_law_size ?c_law_size ?k_law_size ?a_law_near ?l_law_near ?c_law_near ?k_law_near ?a_law_lot ?l_law_lot ?c_law_lot ?k_law_lot ?a_law_is_rest ?l_law_is_rest ?c_law_is_rest ?k_law_is_rest ?a_law_rests ?l_law_rests ?c_law_rests ?k_law_rests ?a_law_same ?l_law_same ?c_law_same ?k_law_same ?a_law_least ?l_law_least ?c_law_least ?k_law_least ?a_law_same_dict ?l_law_same_dict ?c_law_same_dict ?k_law_same_dict ?a_law_groups_hold ?l_law_groups_hold ?c_law_groups_hold ?k_law_groups_hold ?a_law ?l_law ?c_law ?k_law ?a_MOST_PARTS ?a_MOST_LISTED ?a_Web ?pg_Web ?hd_Web ?po_Web ?sa_Web ?mk_Web ?kc_Web ?na_Web_size ?na_Web_ties ?na_Web_whole ?na_Web_near ?a_Counter ?pg_Counter ?hd_Counter ?po_Counter ?sa_Counter ?mk_Counter ?kc_Counter ?na_Counter_web ?na_Counter_known ?a_Web_init ?i_Web_init ?l_Web_init ?c_Web_init ?k_Web_init ?a_Web_begin ?i_Web_begin ?l_Web_begin ?c_Web_begin ?k_Web_begin ?a_Counter_init ?i_Counter_init ?l_Counter_init ?c_Counter_init ?k_Counter_init ?a_Counter_of ?i_Counter_of ?l_Counter_of ?c_Counter_of ?k_Counter_of ?a_Counter_of_piece ?i_Counter_of_piece ?l_Counter_of_piece ?c_Counter_of_piece ?k_Counter_of_piece ?z_isinstance ?z_int ?z_bool ?z_tuple ?z_list ?z_len ?z_enumerate ?z_range ?z_min ?z_max ?z_sorted ?z_set ?z_all ?z_zip ?z_dict ?z_str
    (case a_is_integer => k_is)
    (case l_is_integer => k_is)
    (case c_is_integer => k_is)
    (case k_is_integer => k_is)
    (case a_is_between => k_is)
    (case l_is_between => k_is)
    (case c_is_between => k_is)
    (case k_is_between => k_is)
    (case a_is_pair => k_is)
    (case l_is_pair => k_is)
    (case c_is_pair => k_is)
    (case k_is_pair => k_is)
    (case a_is_lot => k_is)
    (case l_is_lot => k_is)
    (case c_is_lot => k_is)
    (case k_is_lot => k_is)
    (case a_check_number => k_is)
    (case l_check_number => k_is)
    (case c_check_number => k_is)
    (case k_check_number => k_is)
    (case a_bits_of => k_is)
    (case l_bits_of => k_is)
    (case c_bits_of => k_is)
    (case k_bits_of => k_is)
    (case a_lowest => k_is)
    (case l_lowest => k_is)
    (case c_lowest => k_is)
    (case k_lowest => k_is)
    (case a_lot_of => k_is)
    (case l_lot_of => k_is)
    (case c_lot_of => k_is)
    (case k_lot_of => k_is)
    (case a_many_of => k_is)
    (case l_many_of => k_is)
    (case c_many_of => k_is)
    (case k_many_of => k_is)
    (case a_is_tie => k_is)
    (case l_is_tie => k_is)
    (case c_is_tie => k_is)
    (case k_is_tie => k_is)
    (case a_web_of => k_is)
    (case l_web_of => k_is)
    (case c_web_of => k_is)
    (case k_web_of => k_is)
    (case a_moved_on => k_is)
    (case l_moved_on => k_is)
    (case c_moved_on => k_is)
    (case k_moved_on => k_is)
    (case a_beside => k_is)
    (case l_beside => k_is)
    (case c_beside => k_is)
    (case k_beside => k_is)
    (case a_row => k_is)
    (case l_row => k_is)
    (case c_row => k_is)
    (case k_row => k_is)
    (case a_silenced => k_is)
    (case l_silenced => k_is)
    (case c_silenced => k_is)
    (case k_silenced => k_is)
    (case a_changing => k_is)
    (case l_changing => k_is)
    (case c_changing => k_is)
    (case k_changing => k_is)
    (case a_is_rest_bits => k_is)
    (case l_is_rest_bits => k_is)
    (case c_is_rest_bits => k_is)
    (case k_is_rest_bits => k_is)
    (case a_is_rest => k_is)
    (case l_is_rest => k_is)
    (case c_is_rest => k_is)
    (case k_is_rest => k_is)
    (case a_piece_from => k_is)
    (case l_piece_from => k_is)
    (case c_piece_from => k_is)
    (case k_piece_from => k_is)
    (case a_pieces_within => k_is)
    (case l_pieces_within => k_is)
    (case c_pieces_within => k_is)
    (case k_pieces_within => k_is)
    (case a_fork => k_is)
    (case l_fork => k_is)
    (case c_fork => k_is)
    (case k_fork => k_is)
    (case a_listed_from => k_is)
    (case l_listed_from => k_is)
    (case c_listed_from => k_is)
    (case k_listed_from => k_is)
    (case a_rests_within => k_is)
    (case l_rests_within => k_is)
    (case c_rests_within => k_is)
    (case k_rests_within => k_is)
    (case a_many_rests => k_is)
    (case l_many_rests => k_is)
    (case c_many_rests => k_is)
    (case k_many_rests => k_is)
    (case a_check_listed => k_is)
    (case l_check_listed => k_is)
    (case c_check_listed => k_is)
    (case k_check_listed => k_is)
    (case a_best_by_pieces => k_is)
    (case l_best_by_pieces => k_is)
    (case c_best_by_pieces => k_is)
    (case k_best_by_pieces => k_is)
    (case a_rest_sizes => k_is)
    (case l_rest_sizes => k_is)
    (case c_rest_sizes => k_is)
    (case k_rest_sizes => k_is)
    (case a_smallest_rest => k_is)
    (case l_smallest_rest => k_is)
    (case c_smallest_rest => k_is)
    (case k_smallest_rest => k_is)
    (case a_greatest_rest => k_is)
    (case l_greatest_rest => k_is)
    (case c_greatest_rest => k_is)
    (case k_greatest_rest => k_is)
    (case a_law_is_integer => k_is)
    (case l_law_is_integer => k_is)
    (case c_law_is_integer => k_is)
    (case k_law_is_integer => k_is)
    (case a_law_source => k_is)
    (case l_law_source => k_is)
    (case c_law_source => k_is)
    (case k_law_source => k_is)
    (case a_law_draw => k_is)
    (case l_law_draw => k_is)
    (case c_law_draw => k_is)
    (case k_law_draw => k_is)
    (case a_law_perm => k_is)
    (case l_law_perm => k_is)
    (case c_law_perm => k_is)
    (case k_law_perm => k_is)
    (case a_law_ties => k_is)
    (case l_law_ties => k_is)
    (case c_law_ties => k_is)
    (case k_law_ties => k_is)
    (case a_law_size => k_is)
    (case l_law_size => k_is)
    (case c_law_size => k_is)
    (case k_law_size => k_is)
    (case a_law_near => k_is)
    (case l_law_near => k_is)
    (case c_law_near => k_is)
    (case k_law_near => k_is)
    (case a_law_lot => k_is)
    (case l_law_lot => k_is)
    (case c_law_lot => k_is)
    (case k_law_lot => k_is)
    (case a_law_is_rest => k_is)
    (case l_law_is_rest => k_is)
    (case c_law_is_rest => k_is)
    (case k_law_is_rest => k_is)
    (case a_law_rests => k_is)
    (case l_law_rests => k_is)
    (case c_law_rests => k_is)
    (case k_law_rests => k_is)
    (case a_law_same => k_is)
    (case l_law_same => k_is)
    (case c_law_same => k_is)
    (case k_law_same => k_is)
    (case a_law_least => k_is)
    (case l_law_least => k_is)
    (case c_law_least => k_is)
    (case k_law_least => k_is)
    (case a_law_same_dict => k_is)
    (case l_law_same_dict => k_is)
    (case c_law_same_dict => k_is)
    (case k_law_same_dict => k_is)
    (case a_law_groups_hold => k_is)
    (case l_law_groups_hold => k_is)
    (case c_law_groups_hold => k_is)
    (case k_law_groups_hold => k_is)
    (case a_law => k_is)
    (case l_law => k_is)
    (case c_law => k_is)
    (case k_law => k_is)
    (case a_MOST_PARTS => k_is)
    (case a_MOST_LISTED => k_is)
    (case a_Web => k_is)
    (case pg_Web => k_is)
    (case hd_Web => k_is)
    (case po_Web => k_is)
    (case sa_Web => k_is)
    (case mk_Web => k_is)
    (case kc_Web => k_is)
    (case na_Web_size => k_is)
    (case na_Web_ties => k_is)
    (case na_Web_whole => k_is)
    (case na_Web_near => k_is)
    (case a_Counter => k_is)
    (case pg_Counter => k_is)
    (case hd_Counter => k_is)
    (case po_Counter => k_is)
    (case sa_Counter => k_is)
    (case mk_Counter => k_is)
    (case kc_Counter => k_is)
    (case na_Counter_web => k_is)
    (case na_Counter_known => k_is)
    (case a_Web_init => k_is)
    (case i_Web_init => k_is)
    (case l_Web_init => k_is)
    (case c_Web_init => k_is)
    (case k_Web_init => k_is)
    (case a_Web_begin => k_is)
    (case i_Web_begin => k_is)
    (case l_Web_begin => k_is)
    (case c_Web_begin => k_is)
    (case k_Web_begin => k_is)
    (case a_Counter_init => k_is)
    (case i_Counter_init => k_is)
    (case l_Counter_init => k_is)
    (case c_Counter_init => k_is)
    (case k_Counter_init => k_is)
    (case a_Counter_of => k_is)
    (case i_Counter_of => k_is)
    (case l_Counter_of => k_is)
    (case c_Counter_of => k_is)
    (case k_Counter_of => k_is)
    (case a_Counter_of_piece => k_is)
    (case i_Counter_of_piece => k_is)
    (case l_Counter_of_piece => k_is)
    (case c_Counter_of_piece => k_is)
    (case k_Counter_of_piece => k_is)
    (case z_isinstance => k_is)
    (case z_int => k_is)
    (case z_bool => k_is)
    (case z_tuple => k_is)
    (case z_list => k_is)
    (case z_len => k_is)
    (case z_enumerate => k_is)
    (case z_range => k_is)
    (case z_min => k_is)
    (case z_max => k_is)
    (case z_sorted => k_is)
    (case z_set => k_is)
    (case z_all => k_is)
    (case z_zip => k_is)
    (case z_dict => k_is)
    (case z_str => k_is)
end
