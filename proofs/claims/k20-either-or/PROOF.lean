import PyProof.Rows.All
import Wide.All
import OpenK.AllK
import Wide.FinOn
import HandS.ForMost
import HandS.Set
import HandS.SetBool
import HandS.Conv
import HandS.WideBits
import HandS.DictComp
import HandS.FStr
import HandS.Deep
import HandS.More
import HandS.Flow
import HandS.Style
import HandS.IsInst
import KE.OsArith
import KE.KBits
import HandS.Walk
import HandS.Text
import PySem.Challenge.RW_whocrosses_k20_whole_either_or
set_option Elab.async false
set_option maxRecDepth 100000
set_option maxHeartbeats 4000000
/-! Own mathematics, part A: numbers as rows of bits. -/
namespace Bits

/-- how many binary digits -/
def bl (n : Nat) : Nat := if n = 0 then 0 else n.log2 + 1
theorem bl_zero : bl 0 = 0 := rfl
theorem lt_bl (n : Nat) : n < 2 ^ bl n := by
  unfold bl
  split
  · rename_i h; rw [h]; decide
  · exact Nat.lt_log2_self
theorem bl_le {n k : Nat} (h : n < 2 ^ k) : bl n ≤ k := by
  unfold bl
  split
  · exact Nat.zero_le _
  · rename_i hn
    exact (Nat.log2_lt hn).mpr h
theorem bl_pos {n : Nat} (h : n ≠ 0) : 0 < bl n := by
  unfold bl
  rw [if_neg h]
  exact Nat.succ_pos _
theorem bl_ne {n : Nat} (h : 0 < bl n) : n ≠ 0 := fun e => by rw [e, bl_zero] at h; exact Nat.lt_irrefl _ h
theorem bl_top {n : Nat} (h : n ≠ 0) : n.testBit (bl n - 1) = true := by
  unfold bl
  rw [if_neg h, Nat.add_sub_cancel]
  exact Nat.testBit_log2 h
theorem bl_high {n i : Nat} (h : bl n ≤ i) : n.testBit i = false :=
  Nat.testBit_lt_two_pow (Nat.lt_of_lt_of_le (lt_bl n) (Nat.pow_le_pow_right (by decide) h))
theorem bl_low {n : Nat} (h : n ≠ 0) : 2 ^ (bl n - 1) ≤ n := by
  unfold bl
  rw [if_neg h, Nat.add_sub_cancel]
  exact Nat.log2_self_le h
theorem lt_of_bits {n k : Nat} (h : ∀ i, k ≤ i → n.testBit i = false) : n < 2 ^ k := Nat.lt_pow_two_of_testBit _ h
/-- two numbers of one length: the sum is shorter -/
theorem bl_xor {a b : Nat} (h : a ≠ 0) (e : bl b = bl a) : bl (a ^^^ b) < bl a := by
  have hb : b ≠ 0 := bl_ne (by rw [e]; exact bl_pos h)
  have q : a ^^^ b < 2 ^ (bl a - 1) := by
    refine lt_of_bits fun i hi => ?_
    rw [Nat.testBit_xor]
    by_cases hi2 : i = bl a - 1
    · rw [hi2, bl_top h]
      have z := bl_top hb
      rw [e] at z
      rw [z]
      rfl
    · have hl : bl a ≤ i := by omega
      rw [bl_high hl, bl_high (by rw [e]; exact hl)]
      rfl
  have z := bl_le q
  have p := bl_pos h
  omega
theorem bl_two_pow (k : Nat) : bl (2 ^ k) = k + 1 := by
  unfold bl
  rw [if_neg (Nat.ne_of_gt (Nat.two_pow_pos k)), Nat.log2_two_pow]

/-! ### parity -/
/-- whether there is an odd number of ones -/
def par (n : Nat) : Bool := if h : n = 0 then false else ((n % 2 == 1) ^^ par (n / 2))
termination_by n
decreasing_by omega
theorem par_zero : par 0 = false := by unfold par; rw [dif_pos rfl]
theorem par_step (n : Nat) : par n = ((n % 2 == 1) ^^ par (n / 2)) := by
  by_cases h : n = 0
  · subst h; rw [par_zero]; rfl
  · rw [par, dif_neg h]
theorem par_one : par 1 = true := by rw [par_step]; rw [show 1 / 2 = 0 from rfl, par_zero]; rfl
theorem mod2_xor (a b : Nat) : ((a ^^^ b) % 2 == 1) = ((a % 2 == 1) ^^ (b % 2 == 1)) := by
  have h := Nat.testBit_xor a b 0
  rw [Nat.testBit_zero, Nat.testBit_zero, Nat.testBit_zero] at h
  rw [Bool.beq_eq_decide_eq, Bool.beq_eq_decide_eq, Bool.beq_eq_decide_eq]
  exact h
theorem par_xor (a : Nat) : ∀ b, par (a ^^^ b) = (par a ^^ par b) := by
  induction a using Nat.strongRecOn with
  | _ a ih =>
    intro b
    by_cases h : a = 0
    · subst h; rw [Nat.zero_xor, par_zero, Bool.false_xor]
    · rw [par_step (a ^^^ b), par_step a, par_step b, mod2_xor, Nat.xor_div_two, ih (a / 2) (by omega)]
      cases (a % 2 == 1) <;> cases (b % 2 == 1) <;> cases par (a / 2) <;> cases par (b / 2) <;> rfl
theorem par_double (n : Nat) : par (2 * n) = par n := by
  rw [par_step, show 2 * n / 2 = n by omega, show 2 * n % 2 = 0 by omega]
  cases par n <;> rfl
theorem par_shift (n k : Nat) : par (n * 2 ^ k) = par n := by
  induction k with
  | zero => rw [Nat.pow_zero, Nat.mul_one]
  | succ k ih => rw [show n * 2 ^ (k + 1) = 2 * (n * 2 ^ k) by rw [Nat.pow_succ, Nat.mul_comm (2 ^ k) 2, Nat.mul_left_comm], par_double, ih]
theorem split_at (n k : Nat) : n = (n / 2 ^ k) * 2 ^ k ^^^ (n % 2 ^ k) := by
  refine Nat.eq_of_testBit_eq fun i => ?_
  rw [Nat.testBit_xor, Nat.testBit_mul_two_pow, Nat.testBit_div_two_pow, Nat.testBit_mod_two_pow]
  by_cases h : k ≤ i
  · rw [show i - k + k = i by omega]
    have h2 : ¬ i < k := by omega
    simp [h, h2]
  · have h2 : i < k := by omega
    simp [h, h2]
theorem par_fold (n k : Nat) : par ((n / 2 ^ k) ^^^ (n % 2 ^ k)) = par n := by
  conv => rhs; rw [split_at n k]
  rw [par_xor, par_xor, par_shift]
theorem par_small {n : Nat} (h : n < 2) : (n == 1) = par n := by
  match n, h with
  | 0, _ => rw [par_zero]; rfl
  | 1, _ => rw [par_one]; rfl
/-- folding halves the length -/
theorem fold_lt {n w k : Nat} (h : n < 2 ^ w) (hk : w ≤ 2 * k) : (n / 2 ^ k) ^^^ (n % 2 ^ k) < 2 ^ k := by
  refine lt_of_bits fun i hi => ?_
  rw [Nat.testBit_xor, Nat.testBit_div_two_pow, Nat.testBit_mod_two_pow]
  have h1 : n.testBit (i + k) = false := Nat.testBit_lt_two_pow (Nat.lt_of_lt_of_le h (Nat.pow_le_pow_right (by decide) (by omega)))
  have h2 : ¬ i < k := by omega
  simp [h1, h2]

/-! ### the places of ones -/
def places (n : Nat) : List Nat := (List.range (bl n)).filter fun i => n.testBit i
theorem mem_places {n i : Nat} : i ∈ places n ↔ n.testBit i = true := by
  unfold places
  rw [List.mem_filter, List.mem_range]
  constructor
  · exact fun h => h.2
  · intro h
    refine ⟨?_, h⟩
    by_cases hi : i < bl n
    · exact hi
    · rw [bl_high (by omega)] at h
      cases h
theorem places_asc (n : Nat) : (places n).Pairwise (· < ·) := List.Pairwise.filter _ List.pairwise_lt_range
/-- strictly ascending lists with the same members are one -/
theorem asc_ext : ∀ {l m : List Nat}, l.Pairwise (· < ·) → m.Pairwise (· < ·) → (∀ i, i ∈ l ↔ i ∈ m) → l = m
  | [], [], _, _, _ => rfl
  | [], y :: m, _, _, h => by have z := (h y).mpr List.mem_cons_self; cases z
  | x :: l, [], _, _, h => by have z := (h x).mp List.mem_cons_self; cases z
  | x :: l, y :: m, hl, hm, h => by
    obtain ⟨l1, l2⟩ := List.pairwise_cons.mp hl
    obtain ⟨m1, m2⟩ := List.pairwise_cons.mp hm
    have e : x = y := by
      rcases List.mem_cons.mp ((h x).mp List.mem_cons_self) with a | a
      · exact a
      · rcases List.mem_cons.mp ((h y).mpr List.mem_cons_self) with b | b
        · exact b.symm
        · have := m1 x a
          have := l1 y b
          omega
    subst e
    have q : l = m := asc_ext l2 m2 fun i => by
      constructor
      · intro hi
        rcases List.mem_cons.mp ((h i).mp (List.mem_cons_of_mem _ hi)) with a | a
        · have := l1 i hi; omega
        · exact a
      · intro hi
        rcases List.mem_cons.mp ((h i).mpr (List.mem_cons_of_mem _ hi)) with a | a
        · have := m1 i hi; omega
        · exact a
    rw [q]
theorem places_zero : places 0 = [] := rfl
/-- the lowest one -/
theorem low_form : ∀ n : Nat, n ≠ 0 → ∃ k a, n = 2 ^ k * (2 * a + 1) := by
  intro n
  induction n using Nat.strongRecOn with
  | _ n ih =>
    intro h
    by_cases e : n % 2 = 1
    · exact ⟨0, n / 2, by rw [Nat.pow_zero, Nat.one_mul]; omega⟩
    · obtain ⟨k, a, q⟩ := ih (n / 2) (by omega) (by omega)
      refine ⟨k + 1, a, ?_⟩
      rw [Nat.pow_succ, Nat.mul_comm (2 ^ k) 2, Nat.mul_assoc, ← q]
      omega
theorem low_xor (k a : Nat) : 2 ^ k * (2 * a + 1) ^^^ 2 ^ k = 2 ^ k * (2 * a) := by
  have e : ∀ x : Nat, 2 ^ k * x = x * 2 ^ k := fun x => Nat.mul_comm _ _
  refine Nat.eq_of_testBit_eq fun i => ?_
  rw [Nat.testBit_xor, e, e, Nat.testBit_mul_two_pow, Nat.testBit_mul_two_pow, Nat.testBit_two_pow]
  by_cases h : k ≤ i
  · by_cases h2 : k = i
    · subst h2
      simp [Nat.testBit_zero]
    · obtain ⟨j, rfl⟩ : ∃ j, i = k + (j + 1) := ⟨i - k - 1, by omega⟩
      have h3 : k + (j + 1) - k = j + 1 := by omega
      rw [h3, Nat.testBit_succ, Nat.testBit_succ, show (2 * a + 1) / 2 = a by omega, show 2 * a / 2 = a by omega]
      simp [h2]
  · have h2 : ¬ k = i := by omega
    simp [h, h2]
theorem low_places (k a : Nat) : places (2 ^ k * (2 * a + 1)) = k :: places (2 ^ k * (2 * a)) := by
  have e : ∀ x : Nat, 2 ^ k * x = x * 2 ^ k := fun x => Nat.mul_comm _ _
  have t : ∀ i, (2 ^ k * (2 * a)).testBit i = true → k < i := fun i h => by
    rw [e, Nat.testBit_mul_two_pow] at h
    by_cases h1 : k ≤ i
    · by_cases h2 : k = i
      · subst h2
        simp [Nat.testBit_zero] at h
      · omega
    · simp [h1] at h
  refine asc_ext (places_asc _) (List.pairwise_cons.mpr ⟨fun i hi => t i (mem_places.mp hi), places_asc _⟩) fun i => ?_
  rw [mem_places, List.mem_cons, mem_places, ← low_xor, Nat.testBit_xor, Nat.testBit_two_pow]
  by_cases h : i = k
  · subst h
    rw [e, Nat.testBit_mul_two_pow]
    simp [Nat.testBit_zero]
  · have h2 : ¬ k = i := fun q => h q.symm
    simp [h, h2]

/-! ### sums over two of chosen numbers -/
/-- the sum of the f k whose bit stands in s, k below n -/
def sel (f : Nat → Nat) (s : Nat) : Nat → Nat
  | 0 => 0
  | n + 1 => sel f s n ^^^ (if s.testBit n then f n else 0)
theorem xor4 (a b c d : Nat) : (a ^^^ b) ^^^ (c ^^^ d) = (a ^^^ c) ^^^ (b ^^^ d) := by
  refine Nat.eq_of_testBit_eq fun i => ?_
  rw [Nat.testBit_xor, Nat.testBit_xor, Nat.testBit_xor, Nat.testBit_xor, Nat.testBit_xor, Nat.testBit_xor]
  cases a.testBit i <;> cases b.testBit i <;> cases c.testBit i <;> cases d.testBit i <;> rfl
theorem sel_xor (f : Nat → Nat) (s t : Nat) : ∀ n, sel f (s ^^^ t) n = sel f s n ^^^ sel f t n
  | 0 => (Nat.xor_zero 0).symm
  | n + 1 => by
    unfold sel
    rw [sel_xor f s t n, xor4, Nat.testBit_xor]
    cases s.testBit n <;> cases t.testBit n <;> simp
theorem sel_congr {f g : Nat → Nat} {s : Nat} : ∀ {n : Nat}, (∀ k, k < n → f k = g k) → sel f s n = sel g s n
  | 0, _ => rfl
  | n + 1, h => by
    unfold sel
    rw [sel_congr fun k hk => h k (Nat.lt_succ_of_lt hk), h n (Nat.lt_succ_self n)]
theorem sel_more {f : Nat → Nat} {s n : Nat} (hs : s < 2 ^ n) : ∀ m, sel f s (n + m) = sel f s n
  | 0 => rfl
  | m + 1 => by
    show sel f s (n + m) ^^^ (if s.testBit (n + m) then f (n + m) else 0) = sel f s n
    have h : s.testBit (n + m) = false := Nat.testBit_lt_two_pow (Nat.lt_of_lt_of_le hs (Nat.pow_le_pow_right (by decide) (by omega)))
    rw [h, sel_more hs m]
    exact Nat.xor_zero _
theorem sel_zero (f : Nat → Nat) : ∀ n, sel f 0 n = 0
  | 0 => rfl
  | n + 1 => by
    unfold sel
    rw [sel_zero f n, Nat.zero_testBit, if_neg Bool.false_ne_true]
    exact Nat.xor_zero 0
theorem sel_one (f : Nat → Nat) (k : Nat) : sel f (2 ^ k) (k + 1) = f k := by
  have h : ∀ n, n ≤ k → sel f (2 ^ k) n = 0 := by
    intro n
    induction n with
    | zero => intro _; rfl
    | succ n ih =>
      intro hn
      unfold sel
      rw [ih (by omega), Nat.testBit_two_pow]
      have : ¬ k = n := by omega
      simp [this]
  unfold sel
  rw [h k (Nat.le_refl _), Nat.testBit_two_pow]
  simp
/-- .. as a fold over a list -/
def xsum (l : List Nat) : Nat := l.foldl (fun a x => a ^^^ x) 0
theorem foldl_xor (l : List Nat) : ∀ a, l.foldl (fun a x => a ^^^ x) a = a ^^^ xsum l := by
  induction l with
  | nil => intro a; exact (Nat.xor_zero a).symm
  | cons x l ih =>
    intro a
    rw [List.foldl_cons, ih]
    show _ = a ^^^ (List.foldl (fun a x => a ^^^ x) (0 ^^^ x) l)
    rw [ih, Nat.zero_xor, Nat.xor_assoc]
theorem xsum_cons (x : Nat) (l : List Nat) : xsum (x :: l) = x ^^^ xsum l := by
  unfold xsum
  rw [List.foldl_cons, foldl_xor, Nat.zero_xor]
  rfl
theorem xsum_append (l m : List Nat) : xsum (l ++ m) = xsum l ^^^ xsum m := by
  unfold xsum
  rw [List.foldl_append, foldl_xor]
  rfl
theorem sel_filter (f : Nat → Nat) (s : Nat) : ∀ n, sel f s n = xsum (((List.range n).filter fun i => s.testBit i).map f)
  | 0 => rfl
  | n + 1 => by
    rw [List.range_succ, List.filter_append, List.map_append, xsum_append, ← sel_filter f s n]
    show sel f s n ^^^ (if s.testBit n then f n else 0) = _
    cases h : s.testBit n
    · simp [h, xsum]
    · simp [h, xsum]
theorem sel_places {f : Nat → Nat} {s n : Nat} (hs : s < 2 ^ n) : sel f s n = xsum ((places s).map f) := by
  have h : bl s ≤ n := bl_le hs
  obtain ⟨m, rfl⟩ : ∃ m, n = bl s + m := ⟨n - bl s, by omega⟩
  rw [sel_more (lt_bl s) m, sel_filter]
  rfl
end Bits

/-! Own mathematics, part B: elimination over two. -/
namespace Bits

/-- c keeps the row of these bits with this number -/
def kp (c b a : Nat) : Prop := par (b &&& c) = (a == 1)
/-- what c makes of a row, over two -/
def ph (c b a : Nat) : Bool := par (b &&& c) ^^ (a == 1)
theorem kp_ph {c b a : Nat} : kp c b a ↔ ph c b a = false := by
  unfold kp ph
  cases par (b &&& c) <;> cases (a == 1) <;> simp
theorem bit_xor {a n : Nat} (ha : a < 2) (hn : n < 2) : a ^^^ n < 2 ∧ ((a ^^^ n) == 1) = ((a == 1) ^^ (n == 1)) := by
  match a, n, ha, hn with
  | 0, 0, _, _ => exact ⟨by decide, by decide⟩
  | 0, 1, _, _ => exact ⟨by decide, by decide⟩
  | 1, 0, _, _ => exact ⟨by decide, by decide⟩
  | 1, 1, _, _ => exact ⟨by decide, by decide⟩
theorem ph_xor {c b a o n : Nat} (ha : a < 2) (hn : n < 2) : ph c (b ^^^ o) (a ^^^ n) = (ph c b a ^^ ph c o n) := by
  unfold ph
  rw [Nat.and_xor_distrib_right, par_xor, (bit_xor ha hn).2]
  cases par (b &&& c) <;> cases par (o &&& c) <;> cases (a == 1) <;> cases (n == 1) <;> rfl

/-! ### rows that are kept, by their lengths -/
abbrev Rw := Nat × Nat × Nat
abbrev KRows := List (Nat × Rw)
def look (k : KRows) (w : Nat) : Option Rw := (k.find? fun p => decide (p.1 = w)).map (·.2)
theorem look_some {k : KRows} {w : Nat} {r : Rw} (h : look k w = some r) : (w, r) ∈ k := by
  unfold look at h
  cases e : k.find? fun p => decide (p.1 = w) with
  | none => rw [e] at h; cases h
  | some p =>
    rw [e] at h
    have q : p.2 = r := Option.some.inj h
    have hp := List.find?_some e
    have z : p.1 = w := of_decide_eq_true hp
    have m := List.mem_of_find?_eq_some e
    rw [← q, ← z]
    exact m
theorem look_none {k : KRows} {w : Nat} (h : look k w = none) : ∀ p ∈ k, p.1 ≠ w := by
  intro p hp e
  unfold look at h
  cases q : k.find? fun p => decide (p.1 = w) with
  | some r => rw [q] at h; cases h
  | none =>
    have z := List.find?_eq_none.mp q p hp
    exact z (decide_eq_true e)

/-- a row less the kept ones, the first number is fuel -/
def red : Nat → KRows → Rw → Rw
  | 0, _, r => r
  | f + 1, k, (b, a, s) => if b = 0 then (b, a, s) else match look k (bl b) with
    | none => (b, a, s)
    | some (o, n, m) => red f k (b ^^^ o, a ^^^ n, s ^^^ m)
theorem red_zero (f : Nat) (k : KRows) (a s : Nat) : red f k (0, a, s) = (0, a, s) := by
  cases f with
  | zero => rfl
  | succ f => simp [red]
theorem red_stop {f : Nat} {k : KRows} {b a s : Nat} (h : look k (bl b) = none) : red f k (b, a, s) = (b, a, s) := by
  cases f with
  | zero => rfl
  | succ f =>
    unfold red
    split
    · rfl
    · rw [h]
theorem red_go {f : Nat} {k : KRows} {b a s o n m : Nat} (hb : b ≠ 0) (h : look k (bl b) = some (o, n, m)) : red (f + 1) k (b, a, s) = red f k (b ^^^ o, a ^^^ n, s ^^^ m) := by
  conv => lhs; unfold red
  rw [if_neg hb, h]

/-- the rows k keep what their sources say: B, A the rows that were put in, m their number -/
structure KOk (B A : Nat → Nat) (m : Nat) (k : KRows) : Prop where
  nd : (k.map (·.1)).Nodup
  row : ∀ p ∈ k, p.1 = bl p.2.1 ∧ p.2.1 ≠ 0 ∧ p.2.2.1 < 2 ∧ p.2.2.2 < 2 ^ m ∧ sel B p.2.2.2 m = p.2.1 ∧ sel A p.2.2.2 m = p.2.2.1
  sp : ∀ c, (∀ p ∈ k, kp c p.2.1 p.2.2.1) → ∀ i, i < m → kp c (B i) (A i)

theorem xor_lt {a b n : Nat} (ha : a < 2 ^ n) (hb : b < 2 ^ n) : a ^^^ b < 2 ^ n := Nat.xor_lt_two_pow ha hb

/-- what red makes: its sources, its worth under each choice, and its end -/
theorem red_ok {B A : Nat → Nat} {m M : Nat} {k : KRows} (hk : ∀ p ∈ k, p.1 = bl p.2.1 ∧ p.2.1 ≠ 0 ∧ p.2.2.1 < 2 ∧ p.2.2.2 < 2 ^ M ∧ sel B p.2.2.2 M = p.2.1 ∧ sel A p.2.2.2 M = p.2.2.1) :
    ∀ (f b a s : Nat), bl b ≤ f → a < 2 → s < 2 ^ M → sel B s M = b → sel A s M = a →
      let r := red f k (b, a, s)
      r.2.1 < 2 ∧ r.2.2 < 2 ^ M ∧ sel B r.2.2 M = r.1 ∧ sel A r.2.2 M = r.2.1 ∧ (r.1 = 0 ∨ look k (bl r.1) = none) ∧
        ∀ c, (∀ p ∈ k, kp c p.2.1 p.2.2.1) → ph c r.1 r.2.1 = ph c b a := by
  intro f
  induction f with
  | zero =>
    intro b a s hf ha hs e1 e2
    have hb : b = 0 := by
      by_cases h : b = 0
      · exact h
      · have := bl_pos h; omega
    exact ⟨ha, hs, e1, e2, .inl hb, fun c _ => rfl⟩
  | succ f ih =>
    intro b a s hf ha hs e1 e2
    by_cases hb : b = 0
    · subst hb
      rw [red_zero]
      exact ⟨ha, hs, e1, e2, .inl rfl, fun c _ => rfl⟩
    · cases hl : look k (bl b) with
      | none =>
        rw [red_stop hl]
        exact ⟨ha, hs, e1, e2, .inr hl, fun c _ => rfl⟩
      | some r =>
        obtain ⟨o, n, q⟩ := r
        rw [red_go hb hl]
        obtain ⟨h1, h2, h3, h4, h5, h6⟩ := hk _ (look_some hl)
        dsimp only at h1 h2 h3 h4 h5 h6
        have hlt : bl (b ^^^ o) < bl b := bl_xor hb h1.symm
        obtain ⟨z1, z2, z3, z4, z5, z6⟩ := ih (b ^^^ o) (a ^^^ n) (s ^^^ q) (by omega) (bit_xor ha h3).1 (xor_lt hs h4) (by rw [sel_xor, e1, h5]) (by rw [sel_xor, e2, h6])
        refine ⟨z1, z2, z3, z4, z5, fun c hc => ?_⟩
        rw [z6 c hc, ph_xor ha h3, kp_ph.mp (hc _ (look_some hl))]
        simp

theorem sel_succ {f : Nat → Nat} {s m : Nat} (hs : s < 2 ^ m) : sel f s (m + 1) = sel f s m := sel_more hs 1
/-- the next row, put in -/
theorem put_ok {B A : Nat → Nat} {m : Nat} {k : KRows} (K : KOk B A m k) (hA : A m < 2) {b a s : Nat} (e : red (bl (B m)) k (B m, A m, 2 ^ m) = (b, a, s)) :
    a < 2 ∧ s < 2 ^ (m + 1) ∧ sel B s (m + 1) = b ∧ sel A s (m + 1) = a ∧ (b = 0 → a = 0 → KOk B A (m + 1) k) ∧ (b ≠ 0 → KOk B A (m + 1) (k ++ [(bl b, (b, a, s))])) := by
  have hk : ∀ p ∈ k, p.1 = bl p.2.1 ∧ p.2.1 ≠ 0 ∧ p.2.2.1 < 2 ∧ p.2.2.2 < 2 ^ (m + 1) ∧ sel B p.2.2.2 (m + 1) = p.2.1 ∧ sel A p.2.2.2 (m + 1) = p.2.2.1 := fun p hp => by
    obtain ⟨h1, h2, h3, h4, h5, h6⟩ := K.row p hp
    exact ⟨h1, h2, h3, Nat.lt_of_lt_of_le h4 (Nat.pow_le_pow_right (by decide) (Nat.le_succ m)), (sel_succ h4).trans h5, (sel_succ h4).trans h6⟩
  have z := red_ok (m := m) (M := m + 1) hk (bl (B m)) (B m) (A m) (2 ^ m) (Nat.le_refl _) hA (Nat.pow_lt_pow_right (by decide) (Nat.lt_succ_self m)) (sel_one B m) (sel_one A m)
  rw [e] at z
  obtain ⟨z1, z2, z3, z4, z5, z6⟩ := z
  dsimp only at z1 z2 z3 z4 z5 z6
  refine ⟨z1, z2, z3, z4, fun hb ha => ⟨K.nd, hk, fun c hc i hi => ?_⟩, fun hb => ⟨?_, fun p hp => ?_, fun c hc i hi => ?_⟩⟩
  · by_cases him : i < m
    · exact K.sp c hc i him
    · have ei : i = m := by omega
      subst ei
      rw [kp_ph, ← z6 c hc, hb, ha]
      unfold ph
      rw [Nat.zero_and, par_zero]
      rfl
  · rw [List.map_append, List.nodup_append]
    refine ⟨K.nd, by simp, fun x hx y hy => ?_⟩
    obtain ⟨p, hp, rfl⟩ := List.mem_map.mp hx
    have hy' : y = bl b := by simpa using hy
    rw [hy']
    rcases z5 with z | z
    · exact absurd z hb
    · exact look_none z p hp
  · rcases List.mem_append.mp hp with h | h
    · exact hk p h
    · have ep : p = (bl b, (b, a, s)) := by simpa using h
      subst ep
      exact ⟨rfl, hb, z1, z2, z3, z4⟩
  · have hc' : ∀ p ∈ k, kp c p.2.1 p.2.2.1 := fun p hp => hc p (List.mem_append_left _ hp)
    by_cases him : i < m
    · exact K.sp c hc' i him
    · have ei : i = m := by omega
      subst ei
      rw [kp_ph, ← z6 c hc']
      exact kp_ph.mp (hc (bl b, (b, a, s)) (List.mem_append_right _ (List.mem_singleton.mpr rfl)))

/-- all rows put in; .inl: the sources of one that falls with 1 -/
def putAll : List (Nat × Nat) → Nat → KRows → Sum Nat KRows
  | [], _, k => .inr k
  | (b, a) :: r, m, k => match red (bl b) k (b, a, 2 ^ m) with
    | (b', a', s) => if b' = 0 then (if a' = 1 then .inl s else putAll r (m + 1) k) else putAll r (m + 1) (k ++ [(bl b', (b', a', s))])
theorem putAll_ok {B A : Nat → Nat} : ∀ (R : List (Nat × Nat)) (m : Nat) (k : KRows), KOk B A m k → (∀ i p, R[i]? = some p → B (m + i) = p.1 ∧ A (m + i) = p.2 ∧ p.2 < 2) →
    (∀ s, putAll R m k = .inl s → s < 2 ^ (m + R.length) ∧ sel B s (m + R.length) = 0 ∧ sel A s (m + R.length) = 1) ∧ (∀ k', putAll R m k = .inr k' → KOk B A (m + R.length) k')
  | [], m, k, K, _ => ⟨fun s h => (by cases h), fun k' h => (by cases h; exact K)⟩
  | (b, a) :: R, m, k, K, hR => by
    obtain ⟨e1, e2, e3⟩ := hR 0 (b, a) rfl
    dsimp only at e1 e2 e3
    rw [Nat.add_zero] at e1 e2
    have hR' : ∀ i p, R[i]? = some p → B (m + 1 + i) = p.1 ∧ A (m + 1 + i) = p.2 ∧ p.2 < 2 := fun i p h => by
      have z := hR (i + 1) p h
      rw [show m + 1 + i = m + (i + 1) by omega]
      exact z
    have hlen : m + ((b, a) :: R).length = m + 1 + R.length := by rw [List.length_cons]; omega
    rw [hlen]
    cases hr : red (bl b) k (b, a, 2 ^ m) with
    | mk b' q =>
      obtain ⟨a', s'⟩ := q
      have hr2 : red (bl (B m)) k (B m, A m, 2 ^ m) = (b', a', s') := by rw [e1, e2]; exact hr
      obtain ⟨z1, z2, z3, z4, z5, z6⟩ := put_ok K (by rw [e2]; exact e3) hr2
      have hunf : putAll ((b, a) :: R) m k = if b' = 0 then (if a' = 1 then .inl s' else putAll R (m + 1) k) else putAll R (m + 1) (k ++ [(bl b', (b', a', s'))]) := by
        conv => lhs; unfold putAll
        rw [hr]
      rw [hunf]
      by_cases hb : b' = 0
      · rw [if_pos hb]
        by_cases ha : a' = 1
        · rw [if_pos ha]
          refine ⟨fun s h => ?_, fun k' h => by cases h⟩
          have es : s' = s := Sum.inl.inj h
          subst es
          refine ⟨Nat.lt_of_lt_of_le z2 (Nat.pow_le_pow_right (by decide) (Nat.le_add_right _ _)), ?_, ?_⟩
          · rw [sel_more z2, z3, hb]
          · rw [sel_more z2, z4, ha]
        · rw [if_neg ha]
          exact putAll_ok R (m + 1) k (z5 hb (by omega)) hR'
      · rw [if_neg hb]
        exact putAll_ok R (m + 1) _ (z6 hb) hR'

/-! ### a choice for rows of unlike lengths -/
def stepC (c : Nat) (r : Nat × Nat) : Nat := if par (r.1 &&& c) ≠ (r.2 == 1) then c ||| 2 ^ (bl r.1 - 1) else c
theorem and_pow_zero {b k : Nat} (h : b < 2 ^ k) : b &&& 2 ^ k = 0 := by
  refine Nat.eq_of_testBit_eq fun i => ?_
  rw [Nat.testBit_and, Nat.testBit_two_pow, Nat.zero_testBit]
  by_cases e : k = i
  · subst e
    rw [Nat.testBit_lt_two_pow h]
    rfl
  · simp [e]
theorem and_top {b : Nat} (h : b ≠ 0) : b &&& 2 ^ (bl b - 1) = 2 ^ (bl b - 1) := by
  refine Nat.eq_of_testBit_eq fun i => ?_
  rw [Nat.testBit_and, Nat.testBit_two_pow]
  by_cases e : bl b - 1 = i
  · subst e
    rw [bl_top h]
    simp
  · simp [e]
theorem par_pow (k : Nat) : par (2 ^ k) = true := by
  have h := par_shift 1 k
  rw [Nat.one_mul] at h
  rw [h, par_one]
theorem or_pow {c k : Nat} (h : c < 2 ^ k) : c ||| 2 ^ k = c ^^^ 2 ^ k := by
  refine Nat.eq_of_testBit_eq fun i => ?_
  rw [Nat.testBit_or, Nat.testBit_xor, Nat.testBit_two_pow]
  by_cases e : k = i
  · subst e
    rw [Nat.testBit_lt_two_pow h]
    simp
  · simp [e]
theorem stepC_keeps {c b a : Nat} (hb : b ≠ 0) (hc : c < 2 ^ (bl b - 1)) : kp (stepC c (b, a)) b a ∧ stepC c (b, a) < 2 ^ bl b ∧ ∀ b' a', b' < 2 ^ (bl b - 1) → (kp (stepC c (b, a)) b' a' ↔ kp c b' a') := by
  have p0 := bl_pos hb
  have hup : (2 : Nat) ^ (bl b - 1) ≤ 2 ^ bl b := Nat.pow_le_pow_right (by decide) (by omega)
  have hlt : (2 : Nat) ^ (bl b - 1) < 2 ^ bl b := Nat.pow_lt_pow_right (by decide) (by omega)
  unfold stepC
  by_cases h : par (b &&& c) ≠ (a == 1)
  · rw [if_pos h, or_pow hc]
    refine ⟨?_, xor_lt (Nat.lt_of_lt_of_le hc hup) hlt, fun b' a' h' => ?_⟩
    · unfold kp
      rw [Nat.and_xor_distrib_left, par_xor, and_top hb, par_pow]
      revert h
      cases par (b &&& c) <;> cases (a == 1) <;> simp
    · unfold kp
      rw [Nat.and_xor_distrib_left, par_xor, and_pow_zero h', par_zero]
      simp
  · rw [if_neg h]
    refine ⟨by simpa [kp] using h, Nat.lt_of_lt_of_le hc hup, fun b' a' _ => Iff.rfl⟩
/-- along rows whose lengths ascend -/
theorem foldC_ok : ∀ (R : List (Nat × Nat)) (c w : Nat), c < 2 ^ w → (∀ r ∈ R, r.1 ≠ 0 ∧ w < bl r.1) → (R.map fun r => bl r.1).Pairwise (· < ·) →
    (∀ b a, b < 2 ^ w → (kp (R.foldl stepC c) b a ↔ kp c b a)) ∧ ∀ r ∈ R, kp (R.foldl stepC c) r.1 r.2
  | [], c, w, _, _, _ => ⟨fun _ _ _ => Iff.rfl, fun r h => by cases h⟩
  | (b, a) :: R, c, w, hc, hR, hp => by
    obtain ⟨hb, hw⟩ := hR (b, a) List.mem_cons_self
    dsimp only at hb hw
    obtain ⟨p1, p2⟩ := List.pairwise_cons.mp hp
    have hw1 : (2 : Nat) ^ w ≤ 2 ^ (bl b - 1) := Nat.pow_le_pow_right (by decide) (by omega)
    obtain ⟨s1, s2, s3⟩ := stepC_keeps (a := a) hb (Nat.lt_of_lt_of_le hc hw1)
    obtain ⟨i1, i2⟩ := foldC_ok R (stepC c (b, a)) (bl b) s2 (fun r hr => ⟨(hR r (List.mem_cons_of_mem _ hr)).1, p1 _ (List.mem_map.mpr ⟨r, hr, rfl⟩)⟩) p2
    rw [List.foldl_cons]
    refine ⟨fun b' a' h' => ?_, fun r hr => ?_⟩
    · rw [i1 b' a' (Nat.lt_of_lt_of_le h' (Nat.pow_le_pow_right (by decide) (by omega)))]
      exact s3 b' a' (Nat.lt_of_lt_of_le h' hw1)
    · rcases List.mem_cons.mp hr with e | e
      · subst e
        exact (i1 b a (lt_bl b)).mpr s1
      · exact i2 r e
theorem foldC_lt : ∀ (R : List (Nat × Nat)) (c n : Nat), c < 2 ^ n → (∀ r ∈ R, bl r.1 ≤ n ∧ r.1 ≠ 0) → R.foldl stepC c < 2 ^ n
  | [], _, _, h, _ => h
  | (b, a) :: R, c, n, h, hR => by
    rw [List.foldl_cons]
    refine foldC_lt R _ n ?_ fun r hr => hR r (List.mem_cons_of_mem _ hr)
    obtain ⟨h1, h2⟩ := hR (b, a) List.mem_cons_self
    have p0 := bl_pos h2
    unfold stepC
    split
    · exact Nat.or_lt_two_pow h (Nat.pow_lt_pow_right (by decide) (show bl b - 1 < n by have : bl b ≤ n := h1; have : 0 < bl b := p0; omega))
    · exact h
/-- .. in any order there is one -/
theorem exists_c : ∀ (n : Nat) (R : List (Nat × Nat)), (∀ r ∈ R, r.1 ≠ 0 ∧ bl r.1 ≤ n) → (R.map fun r => bl r.1).Nodup → ∃ c, c < 2 ^ n ∧ ∀ r ∈ R, kp c r.1 r.2
  | 0, R, hR, _ => ⟨0, by decide, fun r hr => by
      obtain ⟨h1, h2⟩ := hR r hr
      have := bl_pos h1
      omega⟩
  | n + 1, R, hR, nd => by
    have hsub : ((R.filter fun r => decide (bl r.1 ≤ n)).map fun r => bl r.1).Nodup := (List.Sublist.map _ List.filter_sublist).nodup nd
    obtain ⟨c, hc, hk⟩ := exists_c n (R.filter fun r => decide (bl r.1 ≤ n)) (fun r hr => by
      obtain ⟨h1, h2⟩ := List.mem_filter.mp hr
      exact ⟨(hR r h1).1, of_decide_eq_true h2⟩) hsub
    by_cases hx : ∃ r ∈ R, bl r.1 = n + 1
    · obtain ⟨⟨b, a⟩, hr, e⟩ := hx
      dsimp only at e
      have hb := (hR _ hr).1
      dsimp only at hb
      obtain ⟨s1, s2, s3⟩ := stepC_keeps (c := c) (a := a) hb (by rw [e]; exact hc)
      refine ⟨stepC c (b, a), by rw [← e]; exact s2, fun r hr2 => ?_⟩
      by_cases hle : bl r.1 ≤ n
      · refine (s3 r.1 r.2 ?_).mpr (hk r (List.mem_filter.mpr ⟨hr2, decide_eq_true hle⟩))
        rw [e]
        exact Nat.lt_of_lt_of_le (lt_bl r.1) (Nat.pow_le_pow_right (by decide) hle)
      · have e2 : bl r.1 = bl b := by have := (hR r hr2).2; omega
        have er : r = (b, a) := by
          obtain ⟨i, hi, qi⟩ := List.getElem_of_mem hr2
          obtain ⟨j, hj, qj⟩ := List.getElem_of_mem hr
          have hij : i = j := by
            have z := (List.getElem_inj (h₀ := by rw [List.length_map]; exact hi) (h₁ := by rw [List.length_map]; exact hj) nd).mp (by rw [List.getElem_map, List.getElem_map, qi, qj]; exact e2)
            exact z
          subst hij
          rw [← qi, qj]
        subst er
        exact s1
    · refine ⟨c, Nat.lt_of_lt_of_le hc (Nat.pow_le_pow_right (by decide) (Nat.le_succ n)), fun r hr => hk r (List.mem_filter.mpr ⟨hr, decide_eq_true ?_⟩)⟩
      have h1 := (hR r hr).2
      have h2 : bl r.1 ≠ n + 1 := fun e => hx ⟨r, hr, e⟩
      omega
end Bits

/-! Own mathematics, part C: the choice that solve_rows makes; masks over lists of names. -/
namespace Bits
/-- the lengths of the kept rows, ascending -/
def wds (k : KRows) : List Nat := (List.range 1001).filter fun w => (look k w).isSome
theorem look_of {k : KRows} (nd : (k.map (·.1)).Nodup) {w : Nat} {r : Rw} (h : (w, r) ∈ k) : look k w = some r := by
  induction k with
  | nil => cases h
  | cons p k ih =>
    obtain ⟨d1, d2⟩ := List.nodup_cons.mp (show (p.1 :: k.map (·.1)).Nodup from nd)
    unfold look
    rw [List.find?_cons]
    by_cases e : p.1 = w
    · rcases List.mem_cons.mp h with z | z
      · subst z; simp
      · exact absurd (List.mem_map.mpr ⟨(w, r), z, rfl⟩) (by rw [← e]; exact d1)
    · rw [decide_eq_false e]
      rcases List.mem_cons.mp h with z | z
      · subst z; exact absurd rfl e
      · exact ih d2 z
theorem mem_wds {k : KRows} (hk : ∀ p ∈ k, p.1 ≤ 1000) (nd : (k.map (·.1)).Nodup) {w : Nat} : w ∈ wds k ↔ w ∈ k.map (·.1) := by
  unfold wds
  rw [List.mem_filter, List.mem_range]
  constructor
  · intro ⟨_, h⟩
    obtain ⟨r, hr⟩ := Option.isSome_iff_exists.mp h
    exact List.mem_map.mpr ⟨(w, r), look_some hr, rfl⟩
  · intro h
    obtain ⟨p, hp, rfl⟩ := List.mem_map.mp h
    refine ⟨by have := hk p hp; omega, ?_⟩
    rw [look_of nd (r := p.2) hp]
    rfl
theorem wds_asc (k : KRows) : (wds k).Pairwise (· < ·) := List.Pairwise.filter _ List.pairwise_lt_range
/-- what solve_rows does with the row of the length w -/
def stepW (k : KRows) (c w : Nat) : Nat := match look k w with
  | some (b, a, _) => stepC c (b, a)
  | none => c
def solveM (k : KRows) : Nat := (wds k).foldl (stepW k) 0
/-- the kept rows in the order of their lengths -/
def rowsOf (k : KRows) : List (Nat × Nat) := (wds k).filterMap fun w => (look k w).map fun r => (r.1, r.2.1)
theorem fold_rows (k : KRows) : ∀ (l : List Nat) (c : Nat), l.foldl (stepW k) c = (l.filterMap fun w => (look k w).map fun r => (r.1, r.2.1)).foldl stepC c
  | [], _ => rfl
  | w :: l, c => by
    rw [List.foldl_cons, List.filterMap_cons]
    unfold stepW
    cases h : look k w with
    | none => exact fold_rows k l c
    | some r => exact fold_rows k l _
theorem solve_ok {k : KRows} (nd : (k.map (·.1)).Nodup) {n : Nat} (hn : n ≤ 1000) (hk : ∀ p ∈ k, p.1 = bl p.2.1 ∧ p.2.1 ≠ 0 ∧ p.1 ≤ n) :
    solveM k < 2 ^ n ∧ ∀ p ∈ k, kp (solveM k) p.2.1 p.2.2.1 := by
  have hr : ∀ r ∈ rowsOf k, r.1 ≠ 0 ∧ bl r.1 ≤ n := by
    intro r h
    obtain ⟨w, _, e⟩ := List.mem_filterMap.mp h
    cases q : look k w with
    | none => rw [q] at e; cases e
    | some z =>
      rw [q] at e
      have e' := Option.some.inj e
      subst e'
      obtain ⟨h1, h2, h3⟩ := hk _ (look_some q)
      dsimp only at h1 h2 h3 ⊢
      exact ⟨h2, by rw [← h1]; exact h3⟩
  have hw : (rowsOf k).map (fun r => bl r.1) = wds k := by
    unfold rowsOf
    have all : ∀ w ∈ wds k, ∃ r, look k w = some r ∧ bl r.1 = w := fun w h => by
      have h2 := (List.mem_filter.mp h).2
      obtain ⟨r, hr⟩ := Option.isSome_iff_exists.mp h2
      exact ⟨r, hr, (hk _ (look_some hr)).1.symm⟩
    generalize wds k = l at all
    induction l with
    | nil => rfl
    | cons w l ih =>
      obtain ⟨r, h1, h2⟩ := all w List.mem_cons_self
      rw [List.filterMap_cons, h1]
      show bl r.1 :: _ = _
      rw [h2, ih fun x hx => all x (List.mem_cons_of_mem _ hx)]
  have e : solveM k = (rowsOf k).foldl stepC 0 := fold_rows k _ 0
  rw [e]
  refine ⟨foldC_lt _ 0 n (Nat.two_pow_pos n) fun r h => ⟨(hr r h).2, (hr r h).1⟩, fun p hp => ?_⟩
  obtain ⟨_, z⟩ := foldC_ok (rowsOf k) 0 0 (by decide) (fun r h => ⟨(hr r h).1, bl_pos (hr r h).1⟩) (by rw [hw]; exact wds_asc k)
  refine z (p.2.1, p.2.2.1) (List.mem_filterMap.mpr ⟨p.1, ?_, ?_⟩)
  · exact (mem_wds (fun q hq => Nat.le_trans (hk q hq).2.2 hn) nd).mpr (List.mem_map.mpr ⟨p, hp, rfl⟩)
  · rw [look_of nd (r := p.2) hp]
    rfl

/-! ### sums over two along a list -/
/-- whether an odd number of the items is so -/
def XA {α : Type} (f : α → Bool) : List α → Bool
  | [] => false
  | x :: l => f x ^^ XA f l
theorem XA_congr {α : Type} {f g : α → Bool} : ∀ {l : List α}, (∀ x ∈ l, f x = g x) → XA f l = XA g l
  | [], _ => rfl
  | x :: l, h => by
    unfold XA
    rw [h x List.mem_cons_self, XA_congr fun y hy => h y (List.mem_cons_of_mem _ hy)]
theorem XA_false {α : Type} {f : α → Bool} : ∀ {l : List α}, (∀ x ∈ l, f x = false) → XA f l = false
  | [], _ => rfl
  | x :: l, h => by
    unfold XA
    rw [h x List.mem_cons_self, XA_false fun y hy => h y (List.mem_cons_of_mem _ hy)]
    rfl
theorem XA_filter {α : Type} {f r : α → Bool} : ∀ {l : List α}, (∀ x ∈ l, f x = true → r x = true) → XA f (l.filter r) = XA f l
  | [], _ => rfl
  | x :: l, h => by
    have ih := XA_filter (f := f) (r := r) (l := l) fun y hy => h y (List.mem_cons_of_mem _ hy)
    rw [List.filter_cons]
    cases hr : r x with
    | true => rw [if_pos rfl]; unfold XA; rw [ih]
    | false =>
      rw [if_neg Bool.false_ne_true, ih]
      have hf : f x = false := by
        cases e : f x with
        | false => rfl
        | true => rw [h x List.mem_cons_self e] at hr; cases hr
      show _ = (f x ^^ XA f l)
      rw [hf, Bool.false_xor]
theorem XA_append {α : Type} (f : α → Bool) : ∀ l m : List α, XA f (l ++ m) = (XA f l ^^ XA f m)
  | [], m => by simp [XA]
  | x :: l, m => by
    show (f x ^^ XA f (l ++ m)) = ((f x ^^ XA f l) ^^ XA f m)
    rw [XA_append f l m, Bool.xor_assoc]
/-- the bits of a list of answers, the first one lowest -/
def mk : List Bool → Nat
  | [] => 0
  | b :: l => (if b then 1 else 0) + 2 * mk l
theorem mk_bit : ∀ (l : List Bool) (i : Nat), (mk l).testBit i = l.getD i false
  | [], i => by simp [mk]
  | b :: l, 0 => by
    rw [Nat.testBit_zero]
    unfold mk
    cases b <;> simp <;> omega
  | b :: l, i + 1 => by
    rw [Nat.testBit_succ]
    have e : mk (b :: l) / 2 = mk l := by
      show ((if b then 1 else 0) + 2 * mk l) / 2 = mk l
      cases b <;> simp <;> omega
    rw [e, mk_bit l i]
    rfl
theorem mk_lt : ∀ l : List Bool, mk l < 2 ^ l.length
  | [] => by decide
  | b :: l => by
    have := mk_lt l
    unfold mk
    rw [List.length_cons, Nat.pow_succ]
    cases b <;> simp <;> omega
/-- which of the names are so, as bits -/
def msk {α : Type} (f : α → Bool) (N : List α) : Nat := mk (N.map f)
theorem msk_bit {α : Type} (f : α → Bool) (N : List α) (i : Nat) : (msk f N).testBit i = (N[i]?.map f).getD false := by
  unfold msk
  rw [mk_bit, List.getD_eq_getElem?_getD, List.getElem?_map]
theorem msk_lt {α : Type} (f : α → Bool) (N : List α) : msk f N < 2 ^ N.length := by
  have h := mk_lt (N.map f)
  rw [List.length_map] at h
  exact h
theorem par_mk : ∀ l : List Bool, par (mk l) = XA id l
  | [] => par_zero
  | b :: l => by
    unfold mk XA
    rw [par_step]
    have e1 : ((if b then 1 else 0) + 2 * mk l) / 2 = mk l := by cases b <;> simp <;> omega
    have e2 : (((if b then 1 else 0) + 2 * mk l) % 2 == 1) = b := by cases b <;> simp <;> omega
    rw [e1, e2, par_mk l]
    rfl
theorem XA_map {α β : Type} (f : β → Bool) (g : α → β) : ∀ l : List α, XA f (l.map g) = XA (fun x => f (g x)) l
  | [] => rfl
  | x :: l => by
    rw [List.map_cons]
    unfold XA
    rw [XA_map f g l]
theorem msk_and {α : Type} (f g : α → Bool) (N : List α) : msk f N &&& msk g N = msk (fun x => f x && g x) N := by
  refine Nat.eq_of_testBit_eq fun i => ?_
  rw [Nat.testBit_and, msk_bit, msk_bit, msk_bit]
  cases N[i]? <;> rfl
theorem par_msk {α : Type} (f : α → Bool) (N : List α) : par (msk f N) = XA f N := by
  unfold msk
  rw [par_mk, XA_map]
  rfl
theorem par_and {α : Type} (f g : α → Bool) (N : List α) : par (msk f N &&& msk g N) = XA (fun x => f x && g x) N := by rw [msk_and, par_msk]
/-- any number of so many bits is such a mask, by the places -/
theorem msk_of {b : Nat} {n : Nat} (h : b < 2 ^ n) : b = msk (fun i => b.testBit i) (List.range n) := by
  refine Nat.eq_of_testBit_eq fun i => ?_
  rw [msk_bit]
  by_cases hi : i < n
  · rw [List.getElem?_range hi]
    rfl
  · rw [List.getElem?_eq_none (by rw [List.length_range]; omega)]
    exact Nat.testBit_lt_two_pow (Nat.lt_of_lt_of_le h (Nat.pow_le_pow_right (by decide) (by omega)))
end Bits

/-! The rows with their number as the lowest bit: a walk down the steps, and whether a choice is left. -/
namespace Bits
def fi (c r : Nat) : Bool := par (r &&& c)
theorem fi_xor (c a b : Nat) : fi c (a ^^^ b) = (fi c a ^^ fi c b) := by
  unfold fi
  rw [Nat.and_xor_distrib_right, par_xor]
theorem fi_zero (c : Nat) : fi c 0 = false := by unfold fi; rw [Nat.zero_and, par_zero]
theorem two_parts (b a : Nat) (h : a < 2) : (2 * b + a) % 2 = a ∧ (2 * b + a) / 2 = b := ⟨by omega, by omega⟩
theorem fi_odd {c b a : Nat} (h : a < 2) : fi (2 * c + 1) (2 * b + a) = ph c b a := by
  unfold fi ph
  rw [par_step]
  have h1 : ((2 * b + a) &&& (2 * c + 1)) % 2 = a := by
    have z := Nat.and_mod_two_pow (a := 2 * b + a) (b := 2 * c + 1) (n := 1)
    rw [Nat.pow_one] at z
    rw [z]
    have e1 : (2 * b + a) % 2 = a := by omega
    have e2 : (2 * c + 1) % 2 = 1 := by omega
    rw [e1, e2, Nat.and_one_is_mod]
    omega
  have h2 : ((2 * b + a) &&& (2 * c + 1)) / 2 = b &&& c := by
    rw [Nat.and_div_two]
    congr 1 <;> omega
  rw [h1, h2]
  exact Bool.xor_comm _ _
theorem fi_one {c : Nat} (h : c % 2 = 1) : fi c 1 = true := by
  unfold fi
  rw [Nat.and_comm, Nat.and_one_is_mod, h, par_one]
theorem odd_form {c : Nat} (h : c % 2 = 1) : c = 2 * (c / 2) + 1 := by omega

/-- steps: width to row and lot -/
abbrev Steps := List (Nat × (Nat × Nat))
def look2 (S : Steps) (w : Nat) : Option (Nat × Nat) := (S.find? fun p => decide (p.1 = w)).map (·.2)
theorem look2_some {S : Steps} {w : Nat} {r : Nat × Nat} (h : look2 S w = some r) : (w, r) ∈ S := by
  unfold look2 at h
  cases e : S.find? fun p => decide (p.1 = w) with
  | none => rw [e] at h; cases h
  | some q =>
    rw [e] at h
    obtain rfl := Option.some.inj h
    have h1 := List.find?_some e
    have h2 : q.1 = w := of_decide_eq_true h1
    rw [← h2]
    exact List.mem_of_find?_eq_some e
theorem look2_none {S : Steps} {w : Nat} (h : look2 S w = none) : w ∉ S.map (·.1) := by
  intro hw
  obtain ⟨p, hp, e⟩ := List.mem_map.mp hw
  unfold look2 at h
  have h1 := List.find?_eq_none.mp (Option.map_eq_none_iff.mp h) p hp
  exact h1 (decide_eq_true e)
structure StOk (rows : List Nat) (S : Steps) (C : List (Nat × Nat)) : Prop where
  fwd : ∀ c, (∀ r ∈ rows, fi c r = false) → (∀ p ∈ S, fi c p.2.1 = false) ∧ (∀ q ∈ C, fi c q.1 = false)
  bwd : ∀ c, (∀ p ∈ S, fi c p.2.1 = false) → (∀ q ∈ C, fi c q.1 = false) → ∀ r ∈ rows, fi c r = false
  nd : (S.map (·.1)).Nodup
  row : ∀ p ∈ S, p.1 = bl p.2.1 ∧ 2 ≤ p.2.1
  cl : ∀ q ∈ C, q.1 < 2
theorem stOk_nil : StOk [] [] [] := ⟨fun _ _ => ⟨(fun p hp => by cases hp), fun q hq => by cases hq⟩, fun _ _ _ r hr => (by cases hr), List.nodup_nil, (fun p hp => by cases hp), fun q hq => by cases hq⟩
theorem StOk.close {rows : List Nat} {S : Steps} {C : List (Nat × Nat)} (h : StOk rows S C) {r r' l' : Nat} (e : ∀ c, (∀ p ∈ S, fi c p.2.1 = false) → fi c r' = fi c r) (hr : r' < 2) : StOk (rows ++ [r]) S (C ++ [(r', l')]) :=
  ⟨fun c hc => by
    obtain ⟨z1, z2⟩ := h.fwd c fun y hy => hc y (List.mem_append_left _ hy)
    refine ⟨z1, fun q hq => ?_⟩
    rcases List.mem_append.mp hq with hq | hq
    · exact z2 q hq
    · rw [List.mem_singleton.mp hq]
      dsimp only
      rw [e c z1]
      exact hc r (List.mem_append_right _ (List.mem_singleton.mpr rfl)),
   fun c h1 h2 y hy => by
    rcases List.mem_append.mp hy with hy | hy
    · exact h.bwd c h1 (fun q hq => h2 q (List.mem_append_left _ hq)) y hy
    · rw [List.mem_singleton.mp hy, ← e c h1]
      exact h2 (r', l') (List.mem_append_right _ (List.mem_singleton.mpr rfl)),
   h.nd, h.row, fun q hq => by
    rcases List.mem_append.mp hq with hq | hq
    · exact h.cl q hq
    · rw [List.mem_singleton.mp hq]; exact hr⟩
theorem StOk.step {rows : List Nat} {S : Steps} {C : List (Nat × Nat)} (h : StOk rows S C) {r r' l' : Nat} (e : ∀ c, (∀ p ∈ S, fi c p.2.1 = false) → fi c r' = fi c r) (hr : 2 ≤ r') (hl : look2 S (bl r') = none) : StOk (rows ++ [r]) (S ++ [(bl r', (r', l'))]) C :=
  ⟨fun c hc => by
    obtain ⟨z1, z2⟩ := h.fwd c fun y hy => hc y (List.mem_append_left _ hy)
    refine ⟨fun p hp => ?_, z2⟩
    rcases List.mem_append.mp hp with hp | hp
    · exact z1 p hp
    · rw [List.mem_singleton.mp hp]
      dsimp only
      rw [e c z1]
      exact hc r (List.mem_append_right _ (List.mem_singleton.mpr rfl)),
   fun c h1 h2 y hy => by
    have h1' : ∀ p ∈ S, fi c p.2.1 = false := fun p hp => h1 p (List.mem_append_left _ hp)
    rcases List.mem_append.mp hy with hy | hy
    · exact h.bwd c h1' h2 y hy
    · rw [List.mem_singleton.mp hy, ← e c h1']
      exact h1 (bl r', (r', l')) (List.mem_append_right _ (List.mem_singleton.mpr rfl)),
   by
    rw [List.map_append]
    refine (List.perm_append_singleton _ _).nodup_iff.mpr (List.nodup_cons.mpr ⟨look2_none hl, h.nd⟩),
   fun p hp => by
    rcases List.mem_append.mp hp with hp | hp
    · exact h.row p hp
    · rw [List.mem_singleton.mp hp]; exact ⟨rfl, hr⟩, h.cl⟩
theorem bl_half {b a : Nat} (ha : a < 2) (h : 2 ≤ 2 * b + a) : bl (2 * b + a) = bl b + 1 := by
  have hb : b ≠ 0 := by omega
  unfold bl
  rw [if_neg (by omega), if_neg hb]
  congr 1
  have : Nat.log2 (2 * b + a) = Nat.log2 ((2 * b + a) / 2) + 1 := by
    rw [Nat.log2_def]
    rw [if_pos h]
  rw [this, show (2 * b + a) / 2 = b by omega]
theorem le_sum {x : Nat} : ∀ {l : List Nat}, x ∈ l → x ≤ l.sum
  | y :: l, h => by
    rw [List.sum_cons]
    rcases List.mem_cons.mp h with e | e
    · omega
    · have := le_sum e; omega
/-- no closed row says 1: a choice is left -/
theorem StOk.free {rows : List Nat} {S : Steps} {C : List (Nat × Nat)} (h : StOk rows S C) (hc : ∀ q ∈ C, q.1 ≠ 1) : ∃ c, ∀ r ∈ rows, fi (2 * c + 1) r = false := by
  have hw : ∀ p ∈ S, ∃ b a, p.2.1 = 2 * b + a ∧ a < 2 := fun p _ => ⟨p.2.1 / 2, p.2.1 % 2, by omega, by omega⟩
  obtain ⟨n, hn⟩ : ∃ n, ∀ p ∈ S, p.1 ≤ n := by
    refine ⟨(S.map (·.1)).sum, fun p hp => ?_⟩
    exact le_sum (List.mem_map.mpr ⟨p, hp, rfl⟩)
  obtain ⟨c, _, hk⟩ := exists_c n (S.map fun p => (p.2.1 / 2, p.2.1 % 2)) (fun r hr => by
    obtain ⟨p, hp, rfl⟩ := List.mem_map.mp hr
    obtain ⟨g1, g2⟩ := h.row p hp
    dsimp only
    refine ⟨by omega, ?_⟩
    have z := bl_half (b := p.2.1 / 2) (a := p.2.1 % 2) (by omega) (by omega)
    rw [show 2 * (p.2.1 / 2) + p.2.1 % 2 = p.2.1 by omega] at z
    have := hn p hp
    omega) (by
    rw [List.map_map]
    have e : S.map ((fun r : Nat × Nat => bl r.1) ∘ fun p => (p.2.1 / 2, p.2.1 % 2)) = (S.map (·.1)).map fun w => w - 1 := by
      rw [List.map_map]
      refine List.map_congr_left fun p hp => ?_
      obtain ⟨g1, g2⟩ := h.row p hp
      show bl (p.2.1 / 2) = p.1 - 1
      have z := bl_half (b := p.2.1 / 2) (a := p.2.1 % 2) (by omega) (by omega)
      rw [show 2 * (p.2.1 / 2) + p.2.1 % 2 = p.2.1 by omega] at z
      omega
    rw [e]
    have hpos : ∀ w ∈ S.map (·.1), 0 < w := fun w hw => by
      obtain ⟨p, hp, rfl⟩ := List.mem_map.mp hw
      obtain ⟨g1, g2⟩ := h.row p hp
      rw [g1]
      exact bl_pos (by omega)
    have nd := h.nd
    unfold List.Nodup at nd ⊢
    rw [List.pairwise_map]
    refine List.Pairwise.imp_of_mem (fun {a b} ha hb hab => ?_) nd
    have h1 := hpos a ha
    have h2 := hpos b hb
    omega)
  refine ⟨c, h.bwd (2 * c + 1) (fun p hp => ?_) fun q hq => ?_⟩
  · have z := hk _ (List.mem_map.mpr ⟨p, hp, rfl⟩)
    dsimp only at z
    rw [show p.2.1 = 2 * (p.2.1 / 2) + p.2.1 % 2 by omega, fi_odd (by omega)]
    exact kp_ph.mp z
  · have h1 := h.cl q hq
    have h2 := hc q hq
    have : q.1 = 0 := by omega
    rw [this, fi_zero]
/-- some closed row says 1: none is left -/
theorem StOk.clash {rows : List Nat} {S : Steps} {C : List (Nat × Nat)} (h : StOk rows S C) {q : Nat × Nat} (hq : q ∈ C) (h1 : q.1 = 1) (c : Nat) (hc : ∀ r ∈ rows, fi (2 * c + 1) r = false) : False := by
  have z := (h.fwd _ hc).2 q hq
  rw [h1, fi_one (by omega)] at z
  cases z
end Bits

/-! Own rules, part A: sets of keys with their walk, set comprehensions (one and two clauses), sorted of such sets. -/
namespace Own
open PySem PySem.Spec PyProof.Rows L2

/-- the key that stands in an entry of a set's table -/
def entKey (en : Int × Value) : Key := match en.2 with
  | .int i _ => Sum.inl i
  | .str z _ => Sum.inr z
  | _ => Sum.inl 0
def EntOk (w : World) (en : Int × Value) : Prop := ∃ q : Key, keyIs q en.2 = true ∧ en.1 = keyH w q

theorem entKey_of {en : Int × Value} {q : Key} (hk : keyIs q en.2 = true) : entKey en = q := by
  obtain ⟨i, t, rfl, e⟩ | ⟨z, t, rfl, e⟩ := keyIs_shape hk <;> (unfold entKey; rw [e])

/-- a set whose members are just the keys of a list (in some order) -/
def KSet (w : World) (h : Heap) (a : Addr) (ks : List Key) : Prop :=
  ∃ ob es ep tb, h.get? a = some ob ∧ ob.ExactSet ∧ ob.data = .set es ep tb ∧ (∀ en ∈ es.toList, EntOk w en) ∧ (es.toList.map entKey).Perm ks ∧ ks.Nodup ∧
    es.size < scanBound ∧ tb.fits es.size = true ∧ Ris tb.place.toList ∧ (w.params.followText "set-order" = true ∨ tb.led = true)
/-- is it among them -/
def hasK (ks : List Key) (q : Key) : Bool := ks.any fun k => decide (k = q)
theorem hasK_iff {ks : List Key} {q : Key} : hasK ks q = true ↔ q ∈ ks := by
  unfold hasK
  rw [List.any_eq_true]
  constructor
  · intro ⟨x, hx, e⟩
    rw [← of_decide_eq_true e]
    exact hx
  · intro hq
    exact ⟨q, hq, decide_eq_true rfl⟩
theorem hasK_no {ks : List Key} {q : Key} (h : q ∉ ks) : hasK ks q = false := by
  cases e : hasK ks q with
  | false => rfl
  | true => exact absurd (hasK_iff.mp e) h
def addK (ks : List Key) (q : Key) : List Key := if hasK ks q = true then ks else ks ++ [q]

section
variable {P : Program} {w : World} {h h' : Heap} {a : Addr} {ks : List Key}
theorem KSet.keep (R : KSet w h a ks) (k : ∀ ob, h.get? a = some ob → h'.get? a = some ob) : KSet w h' a ks := by
  obtain ⟨ob, es, ep, tb, e, r⟩ := R
  exact ⟨ob, es, ep, tb, k ob e, r⟩
theorem ents_elems {l : List (Int × Value)} (g : ∀ en ∈ l, EntOk w en) : ElemsOf (mixKind P w) l := by
  intro en hen
  obtain ⟨q, h1, h2⟩ := g en hen
  refine ⟨⟨q, h1, h2⟩, ?_⟩
  obtain ⟨i, t, _, e⟩ | ⟨z, t, _, e⟩ := keyIs_shape h1 <;> (rw [e]; rfl)
theorem ent_is {en : Int × Value} (g : EntOk w en) (q : Key) : (mixKind P w).is q en.2 = true ↔ entKey en = q := by
  obtain ⟨q0, h1, _⟩ := g
  constructor
  · intro hq
    exact entKey_of hq
  · intro hq
    rw [entKey_of h1] at hq
    subst hq
    exact h1
theorem ents_mem {l : List (Int × Value)} (g : ∀ en ∈ l, EntOk w en) (q : Key) : q ∈ l.map entKey ↔ ∃ en ∈ l, (mixKind P w).is q en.2 = true := by
  constructor
  · intro hq
    obtain ⟨en, hen, e⟩ := List.mem_map.mp hq
    exact ⟨en, hen, (ent_is (g en hen) q).mpr e⟩
  · intro ⟨en, hen, e⟩
    exact List.mem_map.mpr ⟨en, hen, (ent_is (g en hen) q).mp e⟩
end

section
variable {P : Program} {w : World} {A : Around} {E : Value → Shared → Prop} {s : Shared} {a : Addr} {ks : List Key}

/-- the store behind laying a new entry, whether the table is laid anew or not -/
theorem kset_store {gw : Bool → Sem Unit} (hgw : ∀ (b : Bool) (s1 : Shared) (Q1 : Unit → Shared → Prop), Q1 () s1 → wpAny (model P w) A (gw b) Q1 E s1)
    {ob : Obj} {es : Array (Int × Value)} {ep : Nat} {tb : SetTable} (ho : s.heap.get? a = some ob) (hx : ob.ExactSet) (hd : ob.data = .set es ep tb)
    {es1 : Array (Int × Value)} {t2 : SetTable} {ks' : List Key} (g1 : ∀ en ∈ es1.toList, EntOk w en) (p1 : (es1.toList.map entKey).Perm ks') (n1 : ks'.Nodup)
    (b1 : es1.size < scanBound) (f2 : t2.fits es1.size = true) (r2 : Ris t2.place.toList) (l2 : w.params.followText "set-order" = true ∨ t2.led = true) {dummy : Bool} {R : Option Bool → Shared → Prop}
    (hR : ∀ h', Heap.SameBut a s.heap h' → KSet w h' a ks' → R (some true) { s with heap := h' }) :
    wpAny (model P w) A (do
        storeSet a es1 t2
        if (!dummy && t2.tooFull) = true then do
            gw (relayAll t2 es1 (SetTable.grown es1.size)).2.2
            storeSet a (relayAll t2 es1 (SetTable.grown es1.size)).1 (relayAll t2 es1 (SetTable.grown es1.size)).2.1
            pure (some true)
          else pure (some true)) R E s := by
  refine wpAny_bind (wpAny_storeSet_of ho hd ?goal1 (fits_of_scanBound b1))
  case goal1 =>
  have e1 := L2.store_at (es' := es1) (t' := t2) ho hd
  have sm := Heap.SameBut.update s.heap a (Obj.putSet es1 t2)
  by_cases hfull : (!dummy && t2.tooFull) = true
  · rw [if_pos hfull]
    have q1 := relayAll_perm t2 es1 (SetTable.grown es1.size)
    have q2 := relayAll_fits t2 es1 (SetTable.grown es1.size)
    have q3 := relayAll_ris t2 es1 (SetTable.grown es1.size)
    have q4 := relayAll_led t2 es1 (SetTable.grown es1.size)
    generalize relayAll t2 es1 (SetTable.grown es1.size) = Z at q1 q2 q3 q4 ⊢
    obtain ⟨es2, t3, gave⟩ := Z
    dsimp only at q1 q2 q3 q4 ⊢
    have hs2 : es2.size = es1.size := by rw [← Array.length_toList, q1.length_eq, Array.length_toList]
    have b2 : es2.size < scanBound := by rw [hs2]; exact b1
    refine wpAny_bind (hgw _ _ _ ?_)
    refine wpAny_bind (wpAny_storeSet_of e1 rfl ?_ (fits_of_scanBound b2))
    have e2 := L2.store_at (es' := es2) (t' := t3) e1 rfl
    refine wpAny_pure (hR _ (sm.trans (Heap.SameBut.update _ a _)) ?_)
    exact ⟨_, es2, _, t3, e2, hx, rfl, fun en hen => g1 en (q1.mem_iff.mp hen), (q1.map entKey).trans p1, n1, b2, q2, q3, l2.imp id fun z => by rw [q4]; exact z⟩
  · rw [if_neg hfull]
    exact wpAny_pure (hR _ sm ⟨_, es1, _, t2, e1, hx, rfl, g1, p1, n1, b1, f2, r2, l2⟩)

theorem kset_add_hashed {q : Key} {u : Value} {Q : Bool → Shared → Prop} (hu : keyIs q u = true) (hsc : u.scannable = true) (R : KSet w s.heap a ks) (room : ks.length + 1 < scanBound)
    (hQ : ∀ h', Heap.SameBut a s.heap h' → KSet w h' a (addK ks q) → Q (!hasK ks q) { s with heap := h' }) :
    wpAny (model P w) A (setAddHashed a u ((mixKind P w).hash q)) Q E s := by
  obtain ⟨ob, es, ep, tb, ho, hx, hd, g, pm, nd, hb, hf, hr, hl⟩ := R
  have hkey : (mixKind P w).is q u = true := hu
  have hel : ElemsOf (mixKind P w) es.toList := ents_elems g
  have hsz : es.size = ks.length := by rw [← pm.length_eq, List.length_map, Array.length_toList]
  unfold setAddHashed setAddHashedIn
  refine wpAny_holding (wpAny_bind (wpAny_setState_of ho hd hf ?_))
  dsimp only
  rw [byScan_of hsc hb hel]
  simp only [↓reduceIte]
  unfold setAddByScan
  refine wpAny_bind ?_
  refine wpAny_bind (wpAny_rule ?_)
  refine wpAny_bind (wpAny_setScan_of hkey ho hd hf hel ?_)
  cases hfi : List.findIdx? (fun en => (mixKind P w).is q en.2) es.toList with
  | some j =>
    dsimp only
    obtain ⟨hj, pj, _⟩ := List.findIdx?_eq_some_iff_getElem.mp hfi
    have hin : q ∈ ks := pm.mem_iff.mp ((ents_mem (P := P) (w := w) g q).mpr ⟨es.toList[j], List.getElem_mem hj, pj⟩)
    refine wpAny_pure (wpAny_pure ?_)
    have z := hQ s.heap (Heap.SameBut.refl a s.heap) (by unfold addK; rw [if_pos (hasK_iff.mpr hin)]; exact ⟨ob, es, ep, tb, ho, hx, hd, g, pm, nd, hb, hf, hr, hl⟩)
    rw [hasK_iff.mpr hin] at z
    exact z
  | none =>
    dsimp only
    have hnin : q ∉ ks := fun z => by
      obtain ⟨en, hen, y⟩ := (ents_mem (P := P) (w := w) g q).mp (pm.mem_iff.mpr z)
      have c := List.findIdx?_eq_none_iff.mp hfi en hen
      rw [y] at c
      cases c
    have hgw : ∀ (b : Bool) {s1 : Shared} {Q1 : Unit → Shared → Prop}, Q1 () s1 → wpAny (model P w) A (match b with | true => rule "set.scan.the-table-gave-way" | false => pure ()) Q1 E s1 := by
      intro b s1 Q1 z
      cases b
      · exact wpAny_pure z
      · exact wpAny_rule z
    have a1 := layNew_perm tb es ((mixKind P w).hash q) u
    have a2 := layNew_fits tb es ((mixKind P w).hash q) u
    have a3 := layNew_ris tb es ((mixKind P w).hash q) u hr
    have a4 := layNew_led tb es ((mixKind P w).hash q) u
    generalize layNew tb es ((mixKind P w).hash q) u = Z at a1 a2 a3 a4 ⊢
    obtain ⟨es1, t1, dummy, gave⟩ := Z
    dsimp only at a1 a2 a3 a4 ⊢
    rw [Array.toList_push] at a1
    have c1 : es1.toList.Perm (((mixKind P w).hash q, u) :: es.toList) := a1.trans (List.perm_append_singleton _ _)
    have g1 : ∀ en ∈ es1.toList, EntOk w en := fun en hen => by
      rcases List.mem_cons.mp (c1.mem_iff.mp hen) with z | z
      · rw [z]; exact ⟨q, hu, rfl⟩
      · exact g en z
    have ek : entKey ((mixKind P w).hash q, u) = q := entKey_of hu
    have p1 : (es1.toList.map entKey).Perm (addK ks q) := by
      unfold addK
      rw [if_neg (by rw [hasK_no hnin]; exact Bool.false_ne_true)]
      refine (c1.map entKey).trans ?_
      rw [List.map_cons, ek]
      exact (List.Perm.cons q pm).trans (List.perm_append_singleton q ks).symm
    have n1 : (addK ks q).Nodup := by
      unfold addK
      rw [if_neg (by rw [hasK_no hnin]; exact Bool.false_ne_true)]
      exact (List.perm_append_singleton q ks).nodup_iff.mpr (List.nodup_cons.mpr ⟨hnin, nd⟩)
    have s1 : es1.size = ks.length + 1 := by rw [← Array.length_toList, c1.length_eq, List.length_cons, Array.length_toList, hsz]
    have b1 : es1.size < scanBound := by rw [s1]; exact room
    have l1 : w.params.followText "set-order" = true ∨ t1.led = true := hl.imp id fun z => by rw [a4]; exact z
    have fin : ∀ h', Heap.SameBut a s.heap h' → KSet w h' a (addK ks q) → Q true { s with heap := h' } := fun h' sb r => by
      have z := hQ h' sb r
      rw [hasK_no hnin] at z
      exact z
    refine wpAny_bind (hgw _ ?_)
    split
    · refine wpAny_bind ?_
      rw [hashByValue_scannable 8 hsc]
      refine wpAny_pure ?_
      refine kset_store (fun b s2 Q2 z => hgw b z) ho hx hd g1 p1 n1 b1 ?_ ?_ ?_ ?_
      · first | (split <;> first | exact a2 | exact SetTable.fits_plain_off a2) | exact a2
      · first | (split <;> exact a3) | exact a3
      · first | (split <;> exact l1) | exact l1
      · intro h' sb r; dsimp only; exact wpAny_pure (fin h' sb r)
    · refine wpAny_bind (wpAny_pure ?_)
      simp only [↓reduceIte]
      refine kset_store (fun b s2 Q2 z => hgw b z) ho hx hd g1 p1 n1 b1 a2 a3 l1 ?_
      intro h' sb r; dsimp only; exact wpAny_pure (fin h' sb r)

/-- found.add(x), x a key -/
theorem kset_add {q : Key} {u : Value} {Q : Value → Shared → Prop} (hu : keyIs q u = true) (hsc : u.scannable = true) (R : KSet w s.heap a ks) (room : ks.length + 1 < scanBound)
    (hQ : ∀ h' tk, Heap.SameBut a s.heap h' → KSet w h' a (addK ks q) → Q .none { s with heap := h', toks := tk }) :
    wpAny (model P w) A (call (.builtin "set.add") [.ref a, u]) Q E s := by
  obtain ⟨ob, es, ep, tb, ho, hx, hd, _⟩ := id R
  have hT : s.TypeIs (.ref a) "set" := ⟨ob, ho, hx.1⟩
  refine wpAny_call_entry F.slot_set_add hT F.entry_set_add ?_ (F.args_set_add_2 _ _)
  unfold Builtin.«set.add» Builtin.Frozenset.oneOther
  simp only [List.isEmpty_nil, bind_assoc]
  unfold Builtin.Frozenset.addrOf setAdd
  refine wpAny_bind (wpAny_pure ?_)
  try dsimp only
  refine wpAny_bind (wpAny_pure ?_)
  try dsimp only
  refine wpAny_bind ?_
  refine wpAny_holding ?_
  refine wpAny_bind ((mixKind P w).pyHash (k := q) hu ?_)
  refine kset_add_hashed (s := { s with toks := s.toks + 1 }) hu hsc R room fun h' sb r => ?_
  show wpAny _ _ (ret Value.none) _ _ _
  exact wpAny_pure ⟨_, rfl, hQ h' _ sb r⟩
/-- a new set -/
theorem kset_fresh (w : World) (h : Heap) : KSet w (h.push { cls := .type "set", dict := none, data := .set #[] 0 (.fresh 0 0 (!w.params.followText "set-order")) }) h.objs.size [] := by
  refine ⟨_, #[], 0, _, Heap.get?_push_size _ rfl, ⟨rfl, rfl, rfl⟩, rfl, (fun en hen => by simp at hen), (by simp), List.nodup_nil, (by decide), (by rfl), List.Pairwise.nil, ?_⟩
  show _ ∨ (!w.params.followText "set-order") = true
  cases w.params.followText "set-order"
  · exact .inr rfl
  · exact .inl rfl
end

/-! ### as a tracked thing -/
def KSetO (w : World) (a : Addr) (ks : List Key) : HO := .ext fun h => KSet w h a ks
theorem ksetO_ok {P : Program} {w : World} {H : Hp} {h : Heap} {a : Addr} {ks : List Key} (R : KSet w h a ks) : ObjOk P w H h a (KSetO w a ks) := by
  obtain ⟨ob, _, _, _, ho, _⟩ := id R
  exact ⟨R, ⟨ob, ho⟩, fun h1 h2 p k => p.keep k⟩
section
variable {X : Cx} {pins : List (Addr × Obj)} {σ : L2.St} {H : Hp} {s : Shared} {a : Addr} {ks : List Key}
theorem ksetO_get (I : Inv X pins σ H s) (ha : H a = some (KSetO X.w a ks)) : KSet X.w s.heap a ks := (I.hok a _ ha).1
theorem relK_is {q : Key} {u : Value} (r : RelV (kV q) u) : keyIs q u = true ∧ u.scannable = true := by
  cases q with
  | inl i => obtain ⟨t, rfl⟩ := r; exact ⟨keyIs_int i t, rfl⟩
  | inr z => obtain ⟨t, rfl⟩ := r; exact ⟨keyIs_str z t, rfl⟩
theorem ksetO_add {E : Value → Shared → Prop} {q : Key} {u : Value} {Q : Value → Shared → Prop} (I : Inv X pins σ H s) (ha : H a = some (KSetO X.w a ks)) (r : RelV (kV q) u) (room : ks.length + 1 < scanBound)
    (h : ∀ s', Inv X pins σ (upd H a (KSetO X.w a (addK ks q))) s' → Q .none s') : wpAny (model X.prog X.w) X.A (call (.builtin "set.add") [.ref a, u]) Q E s := by
  obtain ⟨r1, r2⟩ := relK_is r
  refine kset_add r1 r2 (ksetO_get I ha) room fun h' tk sb new => ?_
  have he : ∃ v, h'.get? a = some v := by
    obtain ⟨ob, _, _, _, ho, _⟩ := id new
    exact ⟨ob, ho⟩
  exact h _ (I.write (e := a) (t' := tk) (by rw [ha]; trivial) (.inl rfl) (fun b v hb hv => (sb.2 b hb).trans hv) he (ksetO_ok new))

/-! ### sorted(a set of texts) -/
theorem strs_split : ∀ (vs : List Value) (zs : List PySem.Str), (vs.map fun v => entKey (0, v)) = zs.map Sum.inr → (∀ v ∈ vs, ∃ q : Key, keyIs q v = true) → StrsAre vs zs
  | [], [], _, _ => .nil
  | [], _ :: _, e, _ => by simp at e
  | _ :: _, [], e, _ => by simp at e
  | v :: vs, z :: zs, e, g => by
    obtain ⟨q, hq⟩ := g v List.mem_cons_self
    have e1 : entKey (0, v) = Sum.inr z := by simpa using congrArg List.head? e
    have e2 : (vs.map fun v => entKey (0, v)) = zs.map Sum.inr := by simpa using congrArg List.tail e
    rw [entKey_of (en := (0, v)) hq] at e1
    subst e1
    obtain ⟨i, t, c, _⟩ | ⟨y, t, c, rfl⟩ := keyIs_shape hq
    · cases c
    · cases c
      exact .cons _ t (strs_split vs zs e2 fun u hu => g u (List.mem_cons_of_mem _ hu))
theorem inr_list : ∀ (ks : List Key) (zs : List PySem.Str), ks.Perm (zs.map Sum.inr) → ∃ ys : List PySem.Str, ks = ys.map Sum.inr ∧ ys.Perm zs := by
  intro ks zs p
  have all : ∀ k ∈ ks, ∃ y, k = Sum.inr y := fun k hk => by
    obtain ⟨y, _, e⟩ := List.mem_map.mp (p.mem_iff.mp hk)
    exact ⟨y, e.symm⟩
  have mk : ∀ l : List Key, (∀ k ∈ l, ∃ y, k = Sum.inr y) → ∃ ys : List PySem.Str, l = ys.map Sum.inr := by
    intro l
    induction l with
    | nil => intro _; exact ⟨[], rfl⟩
    | cons k l ih =>
      intro hl
      obtain ⟨y, rfl⟩ := hl k List.mem_cons_self
      obtain ⟨ys, rfl⟩ := ih fun z hz => hl z (List.mem_cons_of_mem _ hz)
      exact ⟨y :: ys, rfl⟩
  obtain ⟨ys, rfl⟩ := mk ks all
  refine ⟨ys, rfl, ?_⟩
  have q := p.map (fun k : Key => match k with | .inr y => y | .inl _ => Str.empty)
  rw [List.map_map, List.map_map] at q
  have e : ((fun k : Key => match k with | .inr y => y | .inl _ => Str.empty) ∘ (Sum.inr : PySem.Str → Key)) = id := rfl
  rw [e, List.map_id, List.map_id] at q
  exact q
def rSortedKS (w : World) : List V → Hp → VK → Prop := fun vs H Q => ∃ (a : Addr) (zs : List PySem.Str), vs = [V.ref a] ∧ H a = some (KSetO w a (zs.map Sum.inr)) ∧ zs.length < 64 ∧
  ∀ (ys : List PySem.Str) (p : Addr), ys.Perm zs → sortedS ys = true → H p = none → Q (.ref p) (upd H p (.lst (ys.map V.str)))
theorem cr_sortedKS (hc : X.calm = true) : CallR X (.builtin "sorted") (rSortedKS X.w) := by
  intro pins s σ H vs us Q I r h
  obtain ⟨a, zs, rfl, ha, h64, q⟩ := h
  rw [Vals.ref1 r]
  obtain ⟨ob, es, ep, tb, ho, hx, hd, g, pm, nd, hb, hf, hr, hl⟩ := ksetO_get I ha
  refine Calls.call_function_entry kind_sorted plain_sorted entry_sorted (args_sorted1 _) ?_
  unfold Builtin.«sorted»
  refine wpAny_bind (m := checkCount "sorted" 1 1 _) (wpAny_pure ?_)
  refine wpAny_bind (collect_set (A := X.A.in1) (I.ok.hd hc) ⟨ob, ho, hx.1, hd⟩ hf hb hr hl fun s1 ws k1 hz g1' o1 pw => ?_)
  have pk : (ws.map fun v => entKey (0, v)).Perm (zs.map Sum.inr) := by
    have z := pw.map fun v => entKey (0, v)
    rw [List.map_map] at z
    exact z.trans pm
  obtain ⟨ys0, e0, p0⟩ := inr_list _ _ pk
  have hS : StrsAre ws ys0 := strs_split ws ys0 e0 fun v hv => by
    obtain ⟨en, hen, e⟩ := List.mem_map.mp (pw.mem_iff.mp hv)
    obtain ⟨k, hk, _⟩ := g en hen
    exact ⟨k, by rw [← e]; exact hk⟩
  have hwl : ws.length = zs.length := by
    have z := pk.length_eq
    rw [List.length_map, List.length_map] at z
    exact z
  have h64' : ws.length < 64 := by rw [hwl]; exact h64
  refine wpAny_bind (wpAny_newList ?_ (by rw [sizeLine_eq]; omega))
  have hoL : (s1.heap.push (seqObj "list" ws.toArray 0)).get? s1.heap.objs.size = some (seqObj "list" ws.toArray 0) := Heap.get?_push_size _ rfl
  have hwz : ws.length ≤ sizeLine := by rw [sizeLine_eq]; omega
  refine wpAny_bind (wpAny_holding (wpAny_call_entry slot_list_sort ⟨_, hoL, rfl⟩ entry_list_sort
    (list_sort_treeK strKind_oneLt hoL hS.keysOf (fun v1 v2 rest e => keyKind_strs (by rw [← e]; exact hS)) h64' fun st' hp hs => ⟨_, rfl, ?_⟩) (args_list_sort _)))
  obtain ⟨ys, g1, g2, g3⟩ := sorted_out_str hS hp hs
  obtain ⟨c, hc⟩ := sortedHeap_at (vs := ws) (out := (arrOf st').map (·.2)) hoL
  have old : ∀ b u, s.heap.get? b = some u → (sortedHeap (s1.heap.push (seqObj "list" ws.toArray 0)) s1.heap.objs.size ws ((arrOf st').map (·.2))).get? b = some u := fun b u e => by
    have z := k1 b u e
    have hlt := Heap.lt_size z
    rw [sortedHeap_old (Nat.ne_of_lt hlt) (by rw [size_push']; exact Nat.lt_succ_of_lt hlt)]
    exact Heap.get?_push_of_some _ z
  have hn : H s1.heap.objs.size = none := I.hok.fresh hz
  have hlen : (ys.map V.str).length ≤ sizeLine := by
    have z := (g2.trans p0).length_eq
    rw [List.length_map, z, sizeLine_eq]
    omega
  generalize sortedHeap (s1.heap.push (seqObj "list" ws.toArray 0)) s1.heap.objs.size ws ((arrOf st').map (·.2)) = hh at hc old
  have J : Inv X pins σ (upd H s1.heap.objs.size (.lst (ys.map V.str))) { s with heap := hh, gens := s1.gens, drawn := s1.drawn, toks := s1.toks } :=
    I.call (ch := []) (Un.laid old hz hn) (I.hok.laid old hz ⟨hlen, ((arrOf st').map (·.2)).toList, c, vals_of_strs g1, by rw [Array.toArray_toList]; exact hc⟩) (by rw [g1']; exact I.bare) (fun _ z => nomatch z)
  have e : ({ s1 with heap := hh } : Shared) = { s with heap := hh, gens := s1.gens, drawn := s1.drawn, toks := s1.toks } := by
    cases s1
    cases s
    cases o1
    rfl
  refine wpAny_pure ⟨_, rfl, ?_⟩
  show EP X pins σ Q (.ref s1.heap.objs.size) { s1 with heap := hh }
  rw [e]
  exact ⟨.ref _, _, J, rfl, q ys _ (g2.trans p0) g3 hn⟩
end
end Own

/-! Own rules, part B: a set comprehension of two clauses whose elements are keys. -/
namespace Own
open PySem PySem.Spec PyProof.Rows L2

section
variable {prog : Program} {w : World} {A : Around} {R : Result → Shared → Prop} {s : Shared} {el t0 i0 t1 i1 : Expr} {f0 f1 : List Expr} {sc : Scope} {ps : Pos} {it acc : Value} {env : Env}
/-- the expression of such a comprehension -/
abbrev SC2 (el t0 i0 t1 i1 : Expr) (f0 f1 : List Expr) (sc : Scope) (ps : Pos) : Expr := .SetComp el [⟨t0, i0, f0, 0⟩, ⟨t1, i1, f1, 0⟩] sc ps
theorem sc2_turn_out (el t0 i0 t1 i1 : Expr) (f0 f1 : List Expr) (sc : Scope) (ps : Pos) (it acc : Value) (env : Env) :
    compTurn (SC2 el t0 i0 t1 i1 f0 f1 sc ps) 0 it acc env = (do
      standAt i0.pos
      match ← pyNext it with
      | none => pure (.done .next)
      | some item =>
        letOwnedTupleGo t0 it item
        assign t0 env item
        let mut good := true
        for c in f0 do
          if good then good ← isTrue c env (eval c env)
        if good then
          let x ← eval i1 env
          standAt i1.pos
          let x ← foldedSetIterable i1 env x
          let _ ← runOwn (.compStart (SC2 el t0 i0 t1 i1 f0 f1 sc ps) 1 (← holding [x] (pyIter x)) acc env) env
        again (.compLoop (SC2 el t0 i0 t1 i1 f0 f1 sc ps) 0 it acc env)) := by rfl
theorem sc2_turn_in (el t0 i0 t1 i1 : Expr) (f0 f1 : List Expr) (sc : Scope) (ps : Pos) (it acc : Value) (env : Env) :
    compTurn (SC2 el t0 i0 t1 i1 f0 f1 sc ps) 1 it acc env = (do
      standAt i1.pos
      match ← pyNext it with
      | none => pure (.done .next)
      | some item =>
        letOwnedTupleGo t1 it item
        assign t1 env item
        let mut good := true
        for c in f1 do
          if good then good ← isTrue c env (eval c env)
        if good then
          (do let y ← eval el env; standAt el.pos; let _ ← call (.builtin "set.add") [acc, y])
        again (.compLoop (SC2 el t0 i0 t1 i1 f0 f1 sc ps) 1 it acc env)) := by rfl

theorem sc2_loop_out (hs : ∀ x, foldedSetIterable i1 env x = pure x) (J : Nat → Shared → Prop)
    (turn : ∀ n s, J n s → wpAny (model prog w) A (pyNext it) (fun r s1 => match r with
      | none => R (.ok .next) s1
      | some v => wpAny (model prog w) A (letOwnedTupleGo t0 it v) (fun _ s2 => wpAny (model prog w) A (assign t0 env v) (fun _ s3 =>
          wpAny (model prog w) A (forIn f0 true fun c r => if r = true then do let ok ← isTrue c env (eval c env); pure (ForInStep.yield ok) else pure (ForInStep.yield r)) (fun ok s4 =>
            if ok = true then wpAny (model prog w) A (eval i1 env) (fun x s5 => wpAny (model prog w) A (pyIter x) (fun itn s6 =>
              codeAny (model prog w) A (.compStart (SC2 el t0 i0 t1 i1 f0 f1 sc ps) 1 itn acc env) (fun r z => match r with
                | .ok _ => ∃ m, m < n ∧ J m z
                | .error _ => False) s6) (notedBy (model prog w) A env fun e z => R (.error e) z) s5) (notedBy (model prog w) A env fun e z => R (.error e) z) s4
            else ∃ m, m < n ∧ J m s4) (notedBy (model prog w) A env fun e z => R (.error e) z) s3) (notedBy (model prog w) A env fun e z => R (.error e) z) s2) (notedBy (model prog w) A env fun e z => R (.error e) z) s1) (notedBy (model prog w) A env fun e z => R (.error e) z) s)
    (n : Nat) (h : J n s) : codeAny (model prog w) A (.compLoop (SC2 el t0 i0 t1 i1 f0 f1 sc ps) 0 it acc env) R s := by
  refine codeAny_loop rfl J (fun n s hJ => ?_) n h
  show wpAny _ A ((compTurn (SC2 el t0 i0 t1 i1 f0 f1 sc ps) 0 it acc env).onRaise (fun x => do noteFrame x env; theTreesLotGoes x)) _ _ s
  refine wpAny_noted ?_
  rw [sc2_turn_out]
  refine wpAny_bind (wpAny_standAt (wpAny_bind (wpAny_mono (turn n s hJ) (fun r s1 q1 => ?_) fun _ _ y => y)))
  cases r with
  | none => exact wpAny_pure q1
  | some v =>
    refine wpAny_bind (wpAny_mono q1 (fun _ s2 q2 => ?_) fun _ _ y => y)
    refine wpAny_bind (wpAny_mono q2 (fun _ s3 q3 => wpAny_bind (wpAny_mono q3 (fun ok s4 q4 => ?_) fun _ _ y => y)) fun _ _ y => y)
    cases ok with
    | false => exact wpAny_pure ⟨rfl, q4⟩
    | true =>
      refine wpAny_bind (wpAny_mono q4 (fun x s5 q5 => ?_) fun _ _ y => y)
      refine wpAny_bind (wpAny_standAt (wpAny_bind (wpAny_of_eq (hs x) (wpAny_bind (wpAny_holding (wpAny_mono q5 (fun itn s6 q6 => ?_) fun _ _ y => y))))))
      refine wpAny_bind (wpAny_runOwn ?_)
      rw [Around.mark_none]
      refine codeAny_mono q6 fun r z hr => ?_
      cases r with
      | ok f =>
        first
          | exact wpAny_pure ⟨rfl, hr⟩
          | exact wpAny_bind (wpAny_pure (wpAny_pure ⟨rfl, hr⟩))
      | error e => exact hr.elim
theorem sc2_loop_in (J : Nat → Shared → Prop)
    (turn : ∀ n s, J n s → wpAny (model prog w) A (pyNext it) (fun r s1 => match r with
      | none => R (.ok .next) s1
      | some v => wpAny (model prog w) A (letOwnedTupleGo t1 it v) (fun _ s2 => wpAny (model prog w) A (assign t1 env v) (fun _ s3 =>
          wpAny (model prog w) A (forIn f1 true fun c r => if r = true then do let ok ← isTrue c env (eval c env); pure (ForInStep.yield ok) else pure (ForInStep.yield r)) (fun ok s4 =>
            if ok = true then wpAny (model prog w) A (eval el env) (fun x s5 =>
              wpAny (model prog w) A (call (.builtin "set.add") [acc, x]) (fun _ s6 => ∃ m, m < n ∧ J m s6) (notedBy (model prog w) A env fun e z => R (.error e) z) s5) (notedBy (model prog w) A env fun e z => R (.error e) z) s4
            else ∃ m, m < n ∧ J m s4) (notedBy (model prog w) A env fun e z => R (.error e) z) s3) (notedBy (model prog w) A env fun e z => R (.error e) z) s2) (notedBy (model prog w) A env fun e z => R (.error e) z) s1) (notedBy (model prog w) A env fun e z => R (.error e) z) s)
    (n : Nat) (h : J n s) : codeAny (model prog w) A (.compLoop (SC2 el t0 i0 t1 i1 f0 f1 sc ps) 1 it acc env) R s := by
  refine codeAny_loop rfl J (fun n s hJ => ?_) n h
  show wpAny _ A ((compTurn (SC2 el t0 i0 t1 i1 f0 f1 sc ps) 1 it acc env).onRaise (fun x => do noteFrame x env; theTreesLotGoes x)) _ _ s
  refine wpAny_noted ?_
  rw [sc2_turn_in]
  refine wpAny_bind (wpAny_standAt (wpAny_bind (wpAny_mono (turn n s hJ) (fun r s1 q1 => ?_) fun _ _ y => y)))
  cases r with
  | none => exact wpAny_pure q1
  | some v =>
    refine wpAny_bind (wpAny_mono q1 (fun _ s2 q2 => ?_) fun _ _ y => y)
    refine wpAny_bind (wpAny_mono q2 (fun _ s3 q3 => wpAny_bind (wpAny_mono q3 (fun ok s4 q4 => ?_) fun _ _ y => y)) fun _ _ y => y)
    cases ok with
    | false => exact wpAny_pure ⟨rfl, q4⟩
    | true =>
      exact wpAny_bind (wpAny_bind (wpAny_mono q4 (fun x s5 q5 => wpAny_bind (wpAny_standAt (wpAny_bind (wpAny_mono q5 (fun _ s6 q6 => wpAny_pure (wpAny_pure ⟨rfl, q6⟩)) fun _ _ y => y)))) fun _ _ y => y))
theorem sc2_start1 (h0 : codeAny (model prog w) A (.compLoop (SC2 el t0 i0 t1 i1 f0 f1 sc ps) 1 it acc env) R s)
    (h : wpAny (model prog w) A (pyIter it) (fun itn z => codeAny (model prog w) A (.compLoop (SC2 el t0 i0 t1 i1 f0 f1 sc ps) 1 itn acc env) R z)
      (notedBy (model prog w) A env fun x z => R (.error x) z) s) : codeAny (model prog w) A (.compStart (SC2 el t0 i0 t1 i1 f0 f1 sc ps) 1 it acc env) R s := by
  refine codeAny_of_tree ?_
  show wpAny _ _ ((compStart (SC2 el t0 i0 t1 i1 f0 f1 sc ps) 1 it acc env).onRaise (fun x => do noteFrame x env; standAt theWindowsPlace)) _ _ s
  refine wpAny_notedAt ?_
  unfold compStart
  show wpAny _ _ (ask >>= _) _ _ s
  refine wpAny_bind (wpAny_askSetting (wpAny_ite ?_))
  split
  · first
      | exact wpAny_bind (wpAny_pure (wpAny_pure (And.intro rfl h0)))
      | exact wpAny_pure (And.intro rfl h0)
  · first
      | exact wpAny_bind (wpAny_rule (wpAny_bind (wpAny_standAt (wpAny_bind (wpAny_mono h (fun itn z y => wpAny_pure (And.intro rfl y)) fun _ _ x => x)))))
      | (refine wpAny_bind (wpAny_rule ?_); show wpAny _ _ (standAt i1.pos >>= _) _ _ s; exact wpAny_bind (wpAny_standAt (wpAny_bind (wpAny_mono h (fun itn z y => wpAny_pure (And.intro rfl y)) fun _ _ x => x))))
end

section
variable {X : Cx}
/-- {elt for tg in iter if .. for tg1 in iter1 if ..}, elt a key: D is the new set. vs: the block's names; vs1: those of the second target -/
def tSc2 (w : World) (wi : TI) (g : TG) (tt : TT) (wi1 : TI) (g1 : TG) (tt1 : TT) (te : TE) (vs vs1 : List Nat) : TE := fun σ H Q => wi σ H fun J H1 => ∀ D, H1 D = none → ∃ W : Nat → Nat → Hp → Prop, (∃ m, W 0 m (upd H1 D (KSetO w D []))) ∧ ∀ i m H, W i m H →
  (J.stop i H ∧ Q (.ref D) H) ∨ (J.go i H ∧ ∃ Nx : Hp → Prop, (∀ H', Nx H' → ∃ m', m' < m ∧ W (i + 1) m' H') ∧ ∀ x H', J.yld i H x H' → g x (wipe σ vs) H' fun σ2 H2 => wipe σ2 vs = wipe σ vs ∧ tt σ2 H2 fun b H3 =>
    if b = true then wi1 σ2 H3 fun J1 H4 => ∃ W1 : Nat → Nat → Hp → Prop, (∃ m, W1 0 m H4) ∧ ∀ j k H, W1 j k H →
      (J1.stop j H ∧ Nx H) ∨ (J1.go j H ∧ ∃ Nx1 : Hp → Prop, (∀ H', Nx1 H' → ∃ k', k' < k ∧ W1 (j + 1) k' H') ∧ ∀ x H', J1.yld j H x H' → g1 x (wipe σ2 vs1) H' fun σ3 H5 => wipe σ3 vs1 = wipe σ2 vs1 ∧ tt1 σ3 H5 fun b H6 =>
        if b = true then te σ3 H6 fun y H7 => ∃ (q : Key) (ks : List Key), y = kV q ∧ H7 D = some (KSetO w D ks) ∧ ks.length + 1 < scanBound ∧ Nx1 (upd H7 D (KSetO w D (addK ks q))) else Nx1 H6)
    else Nx H3)
theorem pe_sc2 {el tg iter tg1 iter1 : Expr} {ifs ifs1 : List Expr} {scope : Scope} {own : List (PySem.Str × Nat)} {vs1 : List Nat} {pos : Pos} {wi wi1 : TI} {g g1 : TG} {tt tt1 : TT} {te : TE}
    (hc : X.calm = true) (hN : X.N.Nodup) (hi : PI X tg iter wi) (ok : BlkOk X.N X.env.scope scope own) (hv : ∀ i ∈ vs1, i ∈ own.map (·.2))
    (hg : ∀ (s : Shared) (H : Hp) (C : Addr) (cl : List (PySem.Str × Addr)) (fp : List Addr), PG (X.blk s H scope (compEnvC scope cl C X.env) fp) tg g)
    (ht : ∀ (s : Shared) (H : Hp) (C : Addr) (cl : List (PySem.Str × Addr)) (fp : List Addr), PTs (X.blk s H scope (compEnvC scope cl C X.env) fp) ifs tt)
    (hi1 : ∀ (s : Shared) (H : Hp) (C : Addr) (cl : List (PySem.Str × Addr)) (fp : List Addr), PI (X.blk s H scope (compEnvC scope cl C X.env) fp) tg1 iter1 wi1)
    (hg1 : ∀ (s : Shared) (H : Hp) (C : Addr) (cl : List (PySem.Str × Addr)) (fp : List Addr), PG (X.blk s H scope (compEnvC scope cl C X.env) fp) tg1 g1)
    (ht1 : ∀ (s : Shared) (H : Hp) (C : Addr) (cl : List (PySem.Str × Addr)) (fp : List Addr), PTs (X.blk s H scope (compEnvC scope cl C X.env) fp) ifs1 tt1)
    (he : ∀ (s : Shared) (H : Hp) (C : Addr) (cl : List (PySem.Str × Addr)) (fp : List Addr), PE (X.blk s H scope (compEnvC scope cl C X.env) fp) el te)
    (hs : ∀ x, foldedSetIterable iter X.env x = pure x := by intro _; rfl) (hs1 : ∀ env x, foldedSetIterable iter1 env x = pure x := by intro _ _; rfl) :
    PE X (.SetComp el [⟨tg, iter, ifs, 0⟩, ⟨tg1, iter1, ifs1, 0⟩] scope pos) (tSc2 X.w wi g tt wi1 g1 tt1 te (own.map (·.2)) vs1) := by
  refine ⟨fun pins s σ H Q I h => ?_⟩
  have hfree : ∀ y ∈ scope.names, y.2 = .free → ∃ c, X.env.cells.lookup y.1 = some c := fun y hy e => by
    rcases ok.free y hy e with k | k
    · exact I.ok.has _ (.inl k)
    · exact I.ok.has _ (.inr k)
  rw [PpSet.eval_SetComp]
  refine wpAny_comprehension_free rfl hs (closure_ok hfree) ok.kind (fun y hy e => by rw [ok.uniq y hy, e])
    (thn (hi.run pins s σ H _ I h) fun xv s1 hx => thn hx fun itv s2 h2 => ?_)
  obtain ⟨it, fp, tn, J, H2, e, I2, T, st2, f2, q⟩ := h2
  subst e
  refine PpSet.newSet_ok (newEnv_comp ?_)
  generalize hD : s2.heap.objs.size = D
  have hDn : H2 D = none := I2.hok.fresh (Nat.le_of_eq hD)
  obtain ⟨W, ⟨m0, w0⟩, turn⟩ := q D hDn
  generalize hs3 : ({ s2 with heap := s2.heap.push { cls := .type "set", dict := none, data := .set #[] 0 (.fresh 0 0 (!X.w.params.followText "set-order")) } } : Shared) = s3
  have I3 : Inv X pins σ (upd H2 D (KSetO X.w D [])) s3 := by
    rw [← hs3]
    refine I2.laid (t' := s2.toks) (fun b o e => Heap.get?_push_of_some _ e) (Nat.le_of_eq hD) ?_
    rw [← hD]
    exact ksetO_ok (kset_fresh X.w _)
  have h3 : s3.heap = s2.heap.push { cls := .type "set", dict := none, data := .set #[] 0 (.fresh 0 0 (!X.w.params.followText "set-order")) } := by rw [← hs3]
  have f3 : ∀ b ∈ fp, FpOk X pins (upd H2 D (KSetO X.w D [])) b ∧ b < s3.heap.objs.size := fun b hb => by
    obtain ⟨o, e, _⟩ := T.obj _ _ st2 b hb
    have hlt := Heap.lt_size e
    refine ⟨⟨?_, (f2 b hb).2⟩, by rw [h3, Heap.size_push]; exact Nat.lt_succ_of_lt hlt⟩
    rw [upd_ne (by rw [← hD]; exact Nat.ne_of_lt hlt)]
    exact (f2 b hb).1
  have st3 : tn 0 s3.heap := T.keep _ _ _ st2 fun b _ o e => by rw [h3]; exact Heap.get?_push_of_some _ e
  have I4 := block_start I3 ok hN f3
  have pg := hg s3 (upd H2 D (KSetO X.w D [])) s3.heap.objs.size (cellsFrom (s3.heap.objs.size + 1) scope.names (cloFrom X.env.cells scope.names [])) fp
  have pt := ht s3 (upd H2 D (KSetO X.w D [])) s3.heap.objs.size (cellsFrom (s3.heap.objs.size + 1) scope.names (cloFrom X.env.cells scope.names [])) fp
  have pe := he s3 (upd H2 D (KSetO X.w D [])) s3.heap.objs.size (cellsFrom (s3.heap.objs.size + 1) scope.names (cloFrom X.env.cells scope.names [])) fp
  have pi1 := hi1 s3 (upd H2 D (KSetO X.w D [])) s3.heap.objs.size (cellsFrom (s3.heap.objs.size + 1) scope.names (cloFrom X.env.cells scope.names [])) fp
  have pg1 := hg1 s3 (upd H2 D (KSetO X.w D [])) s3.heap.objs.size (cellsFrom (s3.heap.objs.size + 1) scope.names (cloFrom X.env.cells scope.names [])) fp
  have pt1 := ht1 s3 (upd H2 D (KSetO X.w D [])) s3.heap.objs.size (cellsFrom (s3.heap.objs.size + 1) scope.names (cloFrom X.env.cells scope.names [])) fp
  show codeAny _ _ (.compStart (SC2 el tg iter tg1 iter1 ifs ifs1 scope pos) 0 (.ref it) (.ref D) (compEnvC scope (cellsFrom (s3.heap.objs.size + 1) scope.names (cloFrom X.env.cells scope.names [])) s3.heap.objs.size X.env)) (compPost (model X.prog X.w) X.A X.xe none (EP X pins σ Q) (.ref D) s3.heap.objs.size) { s3 with heap := pushCells (s3.heap.push { cls := .type "dict", data := .dict #[] }) scope.names }
  have nfp : ∀ b ∈ fp, (upd H2 D (KSetO X.w D [])) b = none := fun b hb => (f3 b hb).1.1
  generalize hce : compEnvC scope (cellsFrom (s3.heap.objs.size + 1) scope.names (cloFrom X.env.cells scope.names [])) s3.heap.objs.size X.env = ce at I4 pg pt pe pi1 pg1 pt1 ⊢
  have cL : ce.locals = s3.heap.objs.size := by subst hce; rfl
  generalize hH3 : upd H2 D (KSetO X.w D []) = H3 at I3 I4 pg pt pe pi1 pg1 pt1 w0 nfp f3
  generalize hs4 : ({ s3 with heap := pushCells (s3.heap.push { cls := .type "dict", data := .dict #[] }) scope.names } : Shared) = s4 at I4 ⊢
  have st4 : tn 0 s4.heap := T.keep _ _ _ st3 fun b _ o e => by rw [← hs4]; exact pushCells_keeps _ _ _ _ (Heap.get?_push_of_some _ e)
  have stat : ∀ {σ' : L2.St} {H' : Hp} {z : Shared}, Inv (X.blk s3 H3 scope ce fp) [] σ' H' z → (∀ b ∈ fp, H' b = none) → ∀ b ∈ fp, FpOk (X.blk s3 H3 scope ce fp) [] H' b := fun {σ' H' z} I' hn b hb =>
    ⟨hn b hb, (I'.ok.exf b hb).1, I'.ok.exfs b hb, .inl hb, fun x c e => (I'.ok.exf b hb).2 x c e, fun p hp => absurd (show p ∈ ([] : List (Addr × Obj)) ++ [] from hp) (by simp)⟩
  have loop : codeAny (model X.prog X.w) X.A (.compLoop (SC2 el tg iter tg1 iter1 ifs ifs1 scope pos) 0 (.ref it) (.ref D) ce) (compPost (model X.prog X.w) X.A X.xe none (EP X pins σ Q) (.ref D) s3.heap.objs.size) s4 := by
    refine sc2_loop_out (hs1 ce) (fun n z => ∃ i H', Inv (X.blk s3 H3 scope ce fp) [] (wipe σ (own.map (·.2))) H' z ∧ tn i z.heap ∧ (∀ b ∈ fp, H' b = none) ∧ W i n H') ?_ m0 ⟨0, H3, I4, st4, nfp, w0⟩
    rintro n s5 ⟨i, H5, I5, st5, n5, w5⟩
    rcases turn i n H5 w5 with ⟨stop, qq⟩ | ⟨go, Nx, hNx, step⟩
    · have td := T.done (X.blk s3 H3 scope ce fp) rfl rfl rfl hc i [] s5 _ H5 (fun _ _ => False) I5 (stat I5 n5) st5 stop
      refine thnF td fun r s6 ⟨hr, I6⟩ => ?_
      subst hr
      have I7 : Inv X pins σ H5 s6 := I3.call' (ch := fp) I6.os I6.base I6.hok I6.bare fun b hb => ⟨(f3 b hb).1.2.2.2.1, (f3 b hb).1.2.1, (f3 b hb).1.2.2.2.2.1, (f3 b hb).1.2.2.2.2.2⟩
      have nC : H5 s3.heap.objs.size = none := by
        have z : H5 ce.locals = none := I6.free
        rw [cL] at z
        exact z
      obtain ⟨m, hn, _⟩ := I6.loc
      have hn : s6.heap.Ns ce.locals m := hn
      rw [cL] at hn
      obtain ⟨k0, k1, k2, k3, k4, k5⟩ := I3.fpOk (Nat.le_refl _) nC
      exact ⟨m, hn, fun h'' sb => ⟨.ref D, H5, I7.turned (t' := s6.toks) (fun b o hb e => (sb.2 b hb).trans e) k0 k1 k3 k4 k5, rfl, qq⟩⟩
    · have ti := T.item (X.blk s3 H3 scope ce fp) rfl rfl rfl hc i [] s5 _ H5 (fun _ _ => False) I5 (stat I5 n5) st5 go
      refine thnF ti fun r s6 ⟨u, hr, h6⟩ => ?_
      subst hr
      refine thnF h6 fun _ s7 ⟨x, H7, I7, r7, y7, st7, n7⟩ => ?_
      have I7' := I7.pinned (stat I7 n7) (T.obj _ _ st7)
      refine thnF (pg.run _ s7 _ H7 x u _ I7' r7 (step x H7 y7)) fun _ s8 ⟨σ8, H8, I8, hw8, q8⟩ => ?_
      refine thnF (pt.run _ s8 σ8 H8 _ I8 q8) fun b s9 ⟨H9, I9, q9⟩ => ?_
      have fin : ∀ {σ9 : L2.St} {z : Shared} {H' : Hp}, Inv (X.blk s3 H3 scope ce fp) ([] ++ pinsAt fp s7.heap) σ9 H' z → (wipe σ (own.map (·.2))).length = σ9.length → (∀ (j : Nat) v, (wipe σ (own.map (·.2)))[j]? = some (some v) → σ9[j]? = some (some v)) → Nx H' →
          ∃ m, m < n ∧ ∃ i H', Inv (X.blk s3 H3 scope ce fp) [] (wipe σ (own.map (·.2))) H' z ∧ tn i z.heap ∧ (∀ b ∈ fp, H' b = none) ∧ W i m H' := fun {σ9 z H'} I' hl hk nx => by
        obtain ⟨m', hm, w'⟩ := hNx H' nx
        have pin' : ∀ b ∈ fp, ∀ o, s7.heap.get? b = some o → z.heap.get? b = some o ∧ H' b = none := fun b hb o e =>
          let y := I'.pin (b, o) (List.mem_append_right _ (List.mem_append_right _ (mem_pinsAt hb e)))
          ⟨y.1, y.2.1⟩
        refine ⟨m', hm, i + 1, H', (I'.unpinned (pins := [])).weak hl hk, T.keep _ _ _ st7 fun b hb o e => (pin' b hb o e).1, fun b hb => ?_, w'⟩
        obtain ⟨o, e, _⟩ := T.obj _ _ st7 b hb
        exact (pin' b hb o e).2
      have hl8 : (wipe σ (own.map (·.2))).length = σ8.length := by rw [← hw8, wipe_length]
      have hk8 : ∀ (j : Nat) v, (wipe σ (own.map (·.2)))[j]? = some (some v) → σ8[j]? = some (some v) := fun j v e => by
        rw [← hw8] at e
        exact (wipe_some e).1
      have hk9 : ∀ (j : Nat) v, (wipe σ (own.map (·.2)))[j]? = some (some v) → (wipe σ8 vs1)[j]? = some (some v) := fun j v e => by
        rw [← hw8] at e
        obtain ⟨e1, e2⟩ := wipe_some e
        rw [wipe_out fun y => e2 (hv j y)]
        exact e1
      cases b with
      | false =>
        simp only [Bool.false_eq_true, if_false] at q9 ⊢
        exact fin I9 hl8 hk8 q9
      | true =>
        simp only [if_true] at q9 ⊢
        refine thnF (pi1.run _ s9 σ8 H9 _ I9 q9) fun xv s10 hx => thnF hx fun itv s11 h11 => ?_
        obtain ⟨it1, fp1, tn1, J1, H11, e1, I11, T1, st11, f11, W1, ⟨m1, w1⟩, turn1⟩ := h11
        subst e1
        have stat1 : ∀ {H' : Hp}, (∀ b ∈ fp1, H' b = none) → ∀ b ∈ fp1, FpOk (X.blk s3 H3 scope ce fp) ([] ++ pinsAt fp s7.heap) H' b := fun hn b hb => ⟨hn b hb, (f11 b hb).2⟩
        have loop1 : codeAny (model X.prog X.w) X.A (.compLoop (SC2 el tg iter tg1 iter1 ifs ifs1 scope pos) 1 (.ref it1) (.ref D) ce)
            (fun r z => match r with
              | .ok _ => ∃ m, m < n ∧ ∃ i H', Inv (X.blk s3 H3 scope ce fp) [] (wipe σ (own.map (·.2))) H' z ∧ tn i z.heap ∧ (∀ b ∈ fp, H' b = none) ∧ W i m H'
              | .error _ => False) s11 := by
          refine sc2_loop_in (fun k z => ∃ j H', Inv (X.blk s3 H3 scope ce fp) ([] ++ pinsAt fp s7.heap) (wipe σ8 vs1) H' z ∧ tn1 j z.heap ∧ (∀ b ∈ fp1, H' b = none) ∧ W1 j k H') ?_ m1 ⟨0, H11, I11.weak (wipe_length _ _) (fun j v e => (wipe_some e).1), st11, fun b hb => (f11 b hb).1, w1⟩
          rintro k s12 ⟨j, H12, I12, st12, n12, w12⟩
          rcases turn1 j k H12 w12 with ⟨stop1, nx1⟩ | ⟨go1, Nx1, hNx1, step1⟩
          · refine thnF (T1.done (X.blk s3 H3 scope ce fp) rfl rfl rfl hc j _ s12 (wipe σ8 vs1) H12 (fun _ _ => False) I12 (stat1 n12) st12 stop1) fun r s13 ⟨hr, I13⟩ => ?_
            subst hr
            exact fin I13 (hl8.trans (wipe_length σ8 vs1).symm) hk9 nx1
          · refine thnF (T1.item (X.blk s3 H3 scope ce fp) rfl rfl rfl hc j _ s12 (wipe σ8 vs1) H12 (fun _ _ => False) I12 (stat1 n12) st12 go1) fun r s13 ⟨u1, hr, h13⟩ => ?_
            subst hr
            refine thnF h13 fun _ s14 ⟨x1, H14, I14, r14, y14, st14, n14⟩ => ?_
            have I14' := I14.pinned (stat1 n14) (T1.obj _ _ st14)
            refine thnF (pg1.run _ s14 (wipe σ8 vs1) H14 x1 u1 _ I14' r14 (step1 x1 H14 y14)) fun _ s15 ⟨σ15, H15, I15, hw15, q15⟩ => ?_
            refine thnF (pt1.run _ s15 σ15 H15 _ I15 q15) fun b1 s16 ⟨H16, I16, q16⟩ => ?_
            have fin1 : ∀ {z : Shared} {H' : Hp}, Inv (X.blk s3 H3 scope ce fp) (([] ++ pinsAt fp s7.heap) ++ pinsAt fp1 s14.heap) σ15 H' z → Nx1 H' → ∃ m, m < k ∧ ∃ j H', Inv (X.blk s3 H3 scope ce fp) ([] ++ pinsAt fp s7.heap) (wipe σ8 vs1) H' z ∧ tn1 j z.heap ∧ (∀ b ∈ fp1, H' b = none) ∧ W1 j m H' := fun {z H'} I' nx => by
              obtain ⟨m', hm, w'⟩ := hNx1 H' nx
              have pin' : ∀ b ∈ fp1, ∀ o, s14.heap.get? b = some o → z.heap.get? b = some o ∧ H' b = none := fun b hb o e =>
                let y := I'.pin (b, o) (List.mem_append_right _ (List.mem_append_right _ (mem_pinsAt hb e)))
                ⟨y.1, y.2.1⟩
              refine ⟨m', hm, j + 1, H', I'.unpinned.weak (by rw [← hw15, wipe_length]) (fun j v e => by rw [← hw15] at e; exact (wipe_some e).1), T1.keep _ _ _ st14 fun b hb o e => (pin' b hb o e).1, fun b hb => ?_, w'⟩
              obtain ⟨o, e, _⟩ := T1.obj _ _ st14 b hb
              exact (pin' b hb o e).2
            cases b1 with
            | false =>
              simp only [Bool.false_eq_true, if_false] at q16 ⊢
              exact fin1 I16 q16
            | true =>
              simp only [if_true] at q16 ⊢
              refine thnF (pe.run _ s16 σ15 H16 _ I16 q16) fun y s17 ⟨yv, H17, I17, r17, kq, ks, ey, hD17, hz17, nx⟩ => ?_
              subst ey
              exact ksetO_add (X := X.blk s3 H3 scope ce fp) I17 hD17 r17 hz17 fun s18 I18 => fin1 I18 nx
        exact sc2_start1 loop1 (T1.self X.A 0 _ _ _ st11 loop1)
  exact PpSet.codeAny_compStart_set loop (T.self X.A 0 _ _ _ st4 loop)
end
end Own

/-! Own rules, part C: callable defs, walks over a list or a tuple, hidden places, data. -/
namespace Own
open PySem PySem.Spec PyProof.Rows L2

/-! ### defs as they stand, and what they promise -/
/-- a def of the module, with its parameters -/
def DefAt (K : PySem.W.Frag) (mg : PySem.Str → Option Value) (x : PySem.Str) (st : Stmt) (ps : List PySem.Str) : Prop :=
  ∃ (f : Addr) (fd : FuncData), L2.Fun K x x st f fd ∧ mg x = some (.ref f) ∧ Binds K fd ps []
/-- a method m of the class at C -/
def MetAt (K : PySem.W.Frag) (C : Addr) (m qual : PySem.Str) (st : Stmt) (ps : List PySem.Str) : Prop :=
  ∃ (f : Addr) (fd : FuncData), L2.Fun K m qual st f fd ∧ Cls K C ∧ Meth K C m f ∧ Binds K fd ps []
/-- the __init__ of the class at C, which stands under the name x -/
def IniAt (K : PySem.W.Frag) (mg : PySem.Str → Option Value) (C : Addr) (x qual : PySem.Str) (st : Stmt) (ps : List PySem.Str) : Prop :=
  ∃ (f : Addr) (fd : FuncData), L2.Fun K "__init__" qual st f fd ∧ Mk K C f ∧ mg x = some (.ref C) ∧ Binds K fd ps []

/-- a def that may be called by its name, with its promise -/
def Cal (P : Program) (w : World) (K : PySem.W.Frag) (mg : PySem.Str → Option Value) (base : Heap) (k : Nat) (x : PySem.Str) (sp : Sp) : Prop :=
  ∃ (f : Addr) (fd : FuncData) (ps : List PySem.Str), FnOk P w K mg base CX0 k f fd ps sp ∧ mg x = some (.ref f) ∧ PySem.W.keepIn K (.ref f) = true ∧ Binds K fd ps []
/-- a method, with its promise -/
def Met (P : Program) (w : World) (K : PySem.W.Frag) (mg : PySem.Str → Option Value) (base : Heap) (k : Nat) (C : Addr) (m : PySem.Str) (sp : Sp) : Prop :=
  ∃ (f : Addr) (fd : FuncData) (ps : List PySem.Str), Cls K C ∧ Meth K C m f ∧ FnOk P w K mg base CX0 k f fd ps sp ∧ Binds K fd ps []
/-- a class that may be made by its name; sp is its __init__'s promise -/
def Mak (P : Program) (w : World) (K : PySem.W.Frag) (mg : PySem.Str → Option Value) (base : Heap) (k : Nat) (x : PySem.Str) (C : Addr) (sp : Sp) : Prop :=
  ∃ (f : Addr) (fd : FuncData) (ps : List PySem.Str), Mk K C f ∧ FnOk P w K mg base CX0 k f fd ps sp ∧ mg x = some (.ref C) ∧ Binds K fd ps []
section
variable {P : Program} {w : World} {K : PySem.W.Frag} {mg : PySem.Str → Option Value} {base : Heap}
theorem cal_of {x : PySem.Str} {st : Stmt} {N ps : List PySem.Str} {k : Nat} {sp : Sp} (D : DefAt K mg x st ps) (S : FnScope N ps (defScope st)) (len : ∀ vs H Q E, sp vs H Q E → vs.length = ps.length)
    (body : ∀ (f : Addr) (cdv : Value) (A : Around) (outer : List Env) (s : Shared) (H : Hp) (vs : List V) (Q : VK) (E : XK), Room k (A.deeper (envOfC x (defScope st) s.heap.objs.size f cdv)) → sp vs H Q E →
      ∃ t, PSs (cxOf CX0 P w K mg base N x (defScope st) f cdv A outer s H E).nox (defBody st) t ∧ t { nx := fun _ H' => Q .non H', rt := Q } (start N vs) H) : Cal P w K mg base (k + 1) x sp := by
  obtain ⟨f, fd, F, hm, b⟩ := D
  exact ⟨f, fd, ps, F.ok S len (fun cdv A outer s H vs Q E hr h => body f cdv A outer s H vs Q E hr h), hm, F.kp, b⟩
theorem met_of {C : Addr} {m qual : PySem.Str} {st : Stmt} {N ps : List PySem.Str} {k : Nat} {sp : Sp} (D : MetAt K C m qual st ps) (S : FnScope N ps (defScope st)) (len : ∀ vs H Q E, sp vs H Q E → vs.length = ps.length)
    (body : ∀ (f : Addr) (cdv : Value) (A : Around) (outer : List Env) (s : Shared) (H : Hp) (vs : List V) (Q : VK) (E : XK), Room k (A.deeper (envOfC qual (defScope st) s.heap.objs.size f cdv)) → sp vs H Q E →
      ∃ t, PSs (cxOf CX0 P w K mg base N qual (defScope st) f cdv A outer s H E).nox (defBody st) t ∧ t { nx := fun _ H' => Q .non H', rt := Q } (start N vs) H) : Met P w K mg base (k + 1) C m sp := by
  obtain ⟨f, fd, F, c, me, b⟩ := D
  exact ⟨f, fd, ps, c, me, F.ok S len (fun cdv A outer s H vs Q E hr h => body f cdv A outer s H vs Q E hr h), b⟩
theorem mak_of {C : Addr} {x qual : PySem.Str} {st : Stmt} {N ps : List PySem.Str} {k : Nat} {sp : Sp} (D : IniAt K mg C x qual st ps) (S : FnScope N ps (defScope st)) (len : ∀ vs H Q E, sp vs H Q E → vs.length = ps.length)
    (body : ∀ (f : Addr) (cdv : Value) (A : Around) (outer : List Env) (s : Shared) (H : Hp) (vs : List V) (Q : VK) (E : XK), Room k (A.deeper (envOfC qual (defScope st) s.heap.objs.size f cdv)) → sp vs H Q E →
      ∃ t, PSs (cxOf CX0 P w K mg base N qual (defScope st) f cdv A outer s H E).nox (defBody st) t ∧ t { nx := fun _ H' => Q .non H', rt := Q } (start N vs) H) : Mak P w K mg base (k + 1) x C sp := by
  obtain ⟨f, fd, F, M, hm, b⟩ := D
  exact ⟨f, fd, ps, M, F.ok S len (fun cdv A outer s H vs Q E hr h => body f cdv A outer s H vs Q E hr h), hm, b⟩
end
/-- the built-in names that no def of the module takes -/
structure Blt (mg : PySem.Str → Option Value) : Prop where
  len : mg "len" = none
  int : mg "int" = none
  sum : mg "sum" = none
  all : mg "all" = none
  any : mg "any" = none
  sorted : mg "sorted" = none
  list : mg "list" = none
  tuple : mg "tuple" = none
  isinstance : mg "isinstance" = none
  range : mg "range" = none
  enumerate : mg "enumerate" = none
  str : mg "str" = none
  bool : mg "bool" = none

section
variable {X : Cx}
theorem pe_mk0 {k j : Nat} {C : Addr} {x : PySem.Str} {sp : Sp} {p pos : Pos} (c : Mak X.prog X.w X.K X.mg X.base k x C sp) (hr : Room j X.A) (hk : k + 1 ≤ j) (hg : Gl X x)
    (hdb : (x == ("__debug__" : PySem.Str)) = false := by decide) : PE X (.Call (.Name x p) [] [] pos) (tMake C sp [] E0 tNil) := by
  obtain ⟨f, fd, ps, M, F, hm, b⟩ := c
  exact pe_make0 M F (hr.mono hk) hg hm b .nil pass0 hdb
theorem pe_mk {k j : Nat} {C : Addr} {x : PySem.Str} {sp : Sp} {p pos : Pos} {e : Expr} {es : List Expr} {t : TA} (c : Mak X.prog X.w X.K X.mg X.base k x C sp) (hr : Room j X.A) (hk : k + 1 ≤ j) (hg : Gl X x) (ha : PA X (e :: es) t)
    (hdb : (x == ("__debug__" : PySem.Str)) = false := by decide) (he : starEach (e :: es) X.env = (false, eval e X.env) :: starEach es X.env := by rfl) (hpl : (backTo pos (starEach es X.env)).any (·.1) = false := by rfl) :
    PE X (.Call (.Name x p) (e :: es) [] pos) (tMake C sp [] E0 t) := by
  obtain ⟨f, fd, ps, M, F, hm, b⟩ := c
  exact pe_make M F (hr.mono hk) hg hm b .nil pass0 ha hdb he hpl
theorem pe_c {k j : Nat} {x : PySem.Str} {sp : Sp} {p pos : Pos} {e : Expr} {es : List Expr} {t : TA} (c : Cal X.prog X.w X.K X.mg X.base k x sp) (hr : Room j X.A) (hk : k ≤ j) (hg : Gl X x) (ha : PA X (e :: es) t)
    (hdb : (x == ("__debug__" : PySem.Str)) = false := by decide) (he : starEach (e :: es) X.env = (false, eval e X.env) :: starEach es X.env := by rfl) (hpl : (backTo pos (starEach es X.env)).any (·.1) = false := by rfl) :
    PE X (.Call (.Name x p) (e :: es) [] pos) (tCall sp [] E0 t) := by
  obtain ⟨f, fd, ps, F, hm, kp, b⟩ := c
  exact pe_call F (hr.mono hk) hg hm kp b .nil pass0 ha hdb he hpl
theorem pe_mt {k j : Nat} {C : Addr} {m : PySem.Str} {sp : Sp} {pos apos : Pos} {o e : Expr} {es : List Expr} {ta : TE} {t : TA} {pl : Sem Bool} (c : Met X.prog X.w X.K X.mg X.base k C m sp) (hr : Room j X.A) (hk : k ≤ j) (he : PE X o ta) (ha : PA X (e :: es) t)
    (hst : starEach (e :: es) X.env = (false, eval e X.env) :: starEach es X.env := by rfl) (hpl : (backTo pos (starEach es X.env)).any (·.1) = false := by rfl)
    (ht : eval (.Call (.Attribute o m apos) (e :: es) [] pos) X.env = (do
      let ov ← eval o X.env
      standAt apos.atName
      let (fv, fst) ← holding [ov] (getMethod ov m pl)
      callWith pos fv fst (backTo pos (starEach (e :: es) X.env)) (backToKw pos (keywordEach [] X.env))) := by rfl) :
    PE X (.Call (.Attribute o m apos) (e :: es) [] pos) (tMeth C m sp [] E0 ta t) := by
  obtain ⟨f, fd, ps, hc, hm, F, b⟩ := c
  exact pe_meth (pl := pl) he hc hm F (hr.mono hk) b .nil pass0 ha hst hpl ht
theorem pe_mt0 {k j : Nat} {C : Addr} {m : PySem.Str} {sp : Sp} {pos apos : Pos} {o : Expr} {ta : TE} {pl : Sem Bool} (c : Met X.prog X.w X.K X.mg X.base k C m sp) (hr : Room j X.A) (hk : k ≤ j) (he : PE X o ta)
    (ht : eval (.Call (.Attribute o m apos) [] [] pos) X.env = (do
      let ov ← eval o X.env
      standAt apos.atName
      let (fv, fst) ← holding [ov] (getMethod ov m pl)
      callWith pos fv fst (backTo pos (starEach [] X.env)) (backToKw pos (keywordEach [] X.env))) := by rfl) :
    PE X (.Call (.Attribute o m apos) [] [] pos) (tMeth C m sp [] E0 ta tNil) := by
  obtain ⟨f, fd, ps, hc, hm, F, b⟩ := c
  exact pe_meth0 (pl := pl) he hc hm F (hr.mono hk) b .nil pass0 ht
/-- x op= e by the rule of the in-place operator -/
theorem ip_of {op : Operator} {r : R2} (h : OpR X (inplaceOp op) r) : PIp X op r := fun pins s σ H x y u v Q I rx ry q => h pins s σ H x y u v Q I rx ry q
/-- a list or a tuple, walked -/
def iSeq (K : PySem.W.Frag) (tl : TE) : TI := fun σ H R => iList K tl σ H R ∨ iTup K tl σ H R
theorem pi_seq {tg l : Expr} {tl : TE} (hl : PE X l tl) : PI X tg l (iSeq X.K tl) :=
  ⟨fun pins s σ H R I h => h.elim (fun a => (pi_list hl).run pins s σ H R I a) fun a => (pi_tup hl).run pins s σ H R I a⟩
end

/-! ### hidden places -/
/-- the heap without the places of B -/
def hid (B : List Addr) (H : Hp) : Hp := fun a => if a ∈ B then none else H a
theorem hid_in {B : List Addr} {H : Hp} {a : Addr} (h : a ∈ B) : hid B H a = none := by unfold hid; rw [if_pos h]
theorem hid_out {B : List Addr} {H : Hp} {a : Addr} (h : a ∉ B) : hid B H a = H a := by unfold hid; rw [if_neg h]
theorem hid_some {B : List Addr} {H : Hp} {a : Addr} {o : HO} : hid B H a = some o ↔ a ∉ B ∧ H a = some o := by
  unfold hid
  by_cases h : a ∈ B
  · rw [if_pos h]; exact ⟨fun e => (by cases e), fun e => absurd h e.1⟩
  · rw [if_neg h]; exact ⟨fun e => ⟨h, e⟩, fun e => e.2⟩
theorem hid_nil {H : Hp} : hid [] H = H := by funext a; unfold hid; rw [if_neg (by simp)]
theorem Same.tupq {K : PySem.W.Frag} {H H' : Hp} {a : Addr} {xs : List V} (e : Same H H') (h : SqT K H a xs) : SqT K H' a xs := by
  rcases h with (h | ⟨o, h⟩) | h
  · exact .inl (.inl (e _ _ h))
  · exact .inl (.inr ⟨o, e _ _ h⟩)
  · exact .inr h
theorem Same.hid {H H' : Hp} (B : List Addr) (e : Same H H') : Same (hid B H) (hid B H') := fun a o h => by
  rw [hid_some] at h ⊢
  exact ⟨h.1, e a o h.2⟩
theorem hid_sub {B : List Addr} {H : Hp} : Same (hid B H) H := fun _ _ h => (hid_some.mp h).2
theorem hid_mono {B B' : List Addr} {H : Hp} (h : ∀ a ∈ B, a ∈ B') : Same (hid B' H) (hid B H) := fun a o e =>
  hid_some.mpr ⟨fun z => (hid_some.mp e).1 (h a z), (hid_some.mp e).2⟩
theorem hid_upd {B : List Addr} {H : Hp} {p : Addr} {o : HO} (h : p ∈ B) : hid B (upd H p o) = hid B H := by
  funext a
  unfold hid
  by_cases ha : a ∈ B
  · rw [if_pos ha, if_pos ha]
  · rw [if_neg ha, if_neg ha]
    exact upd_ne fun e => ha (e ▸ h)
theorem Same.upd_new {H : Hp} {p : Addr} {o : HO} (h : H p = none) : Same H (upd H p o) := fun a u e => by
  rw [upd_ne (ne_of_none e h)]
  exact e
/-- behind a store at a hidden place -/
theorem same_hid_upd {B : List Addr} {H : Hp} {p : Addr} {o : HO} (h : p ∈ B) : Same (hid B H) (hid B (upd H p o)) := by
  rw [hid_upd h]
  exact Same.refl _
theorem same_upd_r {H0 H : Hp} {p : Addr} {o : HO} (e : Same H0 H) (h : H0 p = none) : Same H0 (upd H p o) := fun a u q => by
  rw [upd_ne (ne_of_none q h)]
  exact e a u q
/-- all of B is tracked -/
def Trk (B : List Addr) (H : Hp) : Prop := ∀ a ∈ B, H a ≠ none
theorem Trk.new {B : List Addr} {H : Hp} {p : Addr} (t : Trk B H) (h : H p = none) : p ∉ B := fun z => t p z h

/-! ### data -/
mutual
theorem dp_same {K : PySem.W.Frag} {H H' : Hp} (e : Same H H') : ∀ {v : V} {d : PyData}, Dp K H v d → Dp K H' v d
  | _, _, .non => .non
  | _, _, .bl b => .bl b
  | _, _, .int i => .int i
  | _, _, .str x => .str x
  | _, _, .lst h a => .lst (e.seq h) (dpa_same e a)
  | _, _, .tup h a => .tup (Own.Same.tupq e h) (dpa_same e a)
theorem dpa_same {K : PySem.W.Frag} {H H' : Hp} (e : Same H H') : ∀ {vs : List V} {ds : List PyData}, DpAll K H vs ds → DpAll K H' vs ds
  | _, _, .nil => .nil
  | _, _, .cons h t => .cons (dp_same e h) (dpa_same e t)
end
/-- the items of a list of data -/
theorem dpa_get {K : PySem.W.Frag} {H : Hp} : ∀ {vs : List V} {ds : List PyData} {i : Nat} {v : V}, DpAll K H vs ds → vs[i]? = some v → ∃ d, ds[i]? = some d ∧ Dp K H v d
  | _, _, 0, _, .cons h _, e => by
    have e' := Option.some.inj e
    subst e'
    exact ⟨_, rfl, h⟩
  | _, _, i + 1, v, .cons _ t, e => by
    obtain ⟨d, h1, h2⟩ := dpa_get (i := i) (v := v) t e
    exact ⟨d, h1, h2⟩
theorem dpa_get' {K : PySem.W.Frag} {H : Hp} : ∀ {vs : List V} {ds : List PyData} {i : Nat} {d : PyData}, DpAll K H vs ds → ds[i]? = some d → ∃ v, vs[i]? = some v ∧ Dp K H v d
  | _, _, 0, _, .cons h _, e => by
    have e' := Option.some.inj e
    subst e'
    exact ⟨_, rfl, h⟩
  | _, _, i + 1, d, .cons _ t, e => by
    obtain ⟨v, h1, h2⟩ := dpa_get' (i := i) (d := d) t e
    exact ⟨v, h1, h2⟩
theorem dpa_len {K : PySem.W.Frag} {H : Hp} : ∀ {vs : List V} {ds : List PyData}, DpAll K H vs ds → vs.length = ds.length
  | _, _, .nil => rfl
  | _, _, .cons _ t => by rw [List.length_cons, List.length_cons, dpa_len t]
theorem dpa_app {K : PySem.W.Frag} {H : Hp} : ∀ {vs ws : List V} {ds es : List PyData}, DpAll K H vs ds → DpAll K H ws es → DpAll K H (vs ++ ws) (ds ++ es)
  | _, _, _, _, .nil, b => b
  | _, _, _, _, .cons h t, b => .cons h (dpa_app t b)
theorem dpa_take {K : PySem.W.Frag} {H : Hp} : ∀ {vs : List V} {ds : List PyData} (n : Nat), DpAll K H vs ds → DpAll K H (vs.take n) (ds.take n)
  | _, _, 0, _ => .nil
  | _, _, _ + 1, .nil => .nil
  | _, _, n + 1, .cons h t => .cons h (dpa_take n t)
theorem dpa_drop {K : PySem.W.Frag} {H : Hp} : ∀ {vs : List V} {ds : List PyData} (n : Nat), DpAll K H vs ds → DpAll K H (vs.drop n) (ds.drop n)
  | _, _, 0, h => h
  | _, _, _ + 1, .nil => .nil
  | _, _, n + 1, .cons _ t => dpa_drop n t
theorem dpa_strs {K : PySem.W.Frag} {H : Hp} : ∀ (xs : List PySem.Str), DpAll K H (xs.map V.str) (xs.map PyData.str)
  | [] => .nil
  | x :: xs => .cons (.str x) (dpa_strs xs)
theorem dpa_ints {K : PySem.W.Frag} {H : Hp} : ∀ (ns : List Int), DpAll K H (ns.map V.int) (ns.map PyData.int)
  | [] => .nil
  | n :: ns => .cons (.int n) (dpa_ints ns)
theorem dpa_strs_inv {K : PySem.W.Frag} {H : Hp} : ∀ {vs : List V} {xs : List PySem.Str}, DpAll K H vs (xs.map PyData.str) → vs = xs.map V.str
  | _, [], .nil => rfl
  | _, _ :: _, .cons (.str _) t => by rw [dpa_strs_inv t]; rfl
theorem dpa_ints_inv {K : PySem.W.Frag} {H : Hp} : ∀ {vs : List V} {ns : List Int}, DpAll K H vs (ns.map PyData.int) → vs = ns.map V.int
  | _, [], .nil => rfl
  | _, _ :: _, .cons (.int _) t => by rw [dpa_ints_inv t]; rfl
theorem dp_list {K : PySem.W.Frag} {H : Hp} {v : V} {ds : List PyData} (h : Dp K H v (.list ds)) : ∃ a vs, v = .ref a ∧ SqL K H a vs ∧ DpAll K H vs ds := by
  cases h with
  | lst h a => exact ⟨_, _, rfl, h, a⟩
theorem dp_tup {K : PySem.W.Frag} {H : Hp} {v : V} {ds : List PyData} (h : Dp K H v (.tuple ds)) : ∃ a vs, v = .ref a ∧ SqT K H a vs ∧ DpAll K H vs ds := by
  cases h with
  | tup h a => exact ⟨_, _, rfl, h, a⟩
/-- a new list, a new tuple, of data that is there -/
theorem dp_new_l {K : PySem.W.Frag} {H : Hp} {p : Addr} {vs : List V} {ds : List PyData} (hp : H p = some (.lst vs)) (h : DpAll K H vs ds) : Dp K H (.ref p) (.list ds) := .lst (SqL.of hp) h
theorem dp_new_t {K : PySem.W.Frag} {H : Hp} {p : Addr} {vs : List V} {ds : List PyData} (hp : H p = some (.tup vs)) (h : DpAll K H vs ds) : Dp K H (.ref p) (.tuple ds) := .tup (SqT.of hp) h
/-- data away from B -/
abbrev Da (K : PySem.W.Frag) (B : List Addr) (H : Hp) (v : V) (d : PyData) : Prop := Dp K (hid B H) v d
abbrev DaAll (K : PySem.W.Frag) (B : List Addr) (H : Hp) (vs : List V) (ds : List PyData) : Prop := DpAll K (hid B H) vs ds
end Own

/-! Own rules, part D: operators on numbers from nought, on bools and texts; a letter for what is drawn. -/
namespace Own
open PySem PySem.Spec PyProof.Rows L2 Bits

theorem b_xor (a b : Nat) : Builtin.bitXor (a : Int) (b : Int) = ((a ^^^ b : Nat) : Int) := by
  rw [bitXor_pp (Int.natCast_nonneg a) (Int.natCast_nonneg b), Int.toNat_natCast, Int.toNat_natCast]
theorem b_or (a b : Nat) : Builtin.bitOr (a : Int) (b : Int) = ((a ||| b : Nat) : Int) := by
  rw [bitOr_pp (Int.natCast_nonneg a) (Int.natCast_nonneg b), Int.toNat_natCast, Int.toNat_natCast]
theorem b_and (a b : Nat) : Builtin.bitAnd (a : Int) (b : Int) = ((a &&& b : Nat) : Int) := by
  rw [bitAnd_pp (Int.natCast_nonneg a) (Int.natCast_nonneg b), Int.toNat_natCast, Int.toNat_natCast]
theorem b_len (n : Nat) : Builtin.Int.intBits (n : Int) = bl n := by
  unfold Builtin.Int.intBits bl
  by_cases h : n = 0
  · subst h; rfl
  · have h2 : ¬ ((n : Int) = 0) := by omega
    rw [if_neg h, if_neg (by simpa using h2), Int.natAbs_natCast]
theorem pow_cast (k : Nat) : (2 : Int) ^ k = ((2 ^ k : Nat) : Int) := by rw [Int.natCast_pow]; rfl

/-- two numbers from nought, under a condition -/
def rN (C : Nat → Nat → Prop) (g : Nat → Nat → Nat) : R2 := fun x y H Q => ∃ n m : Nat, x = .int (n : Int) ∧ y = .int (m : Int) ∧ C n m ∧ Q (.int ((g n m : Nat) : Int)) H
def rN0 (g : Nat → Nat → Nat) : R2 := fun x y H Q => ∃ n m : Nat, x = .int (n : Int) ∧ y = .int (m : Int) ∧ Q (.int ((g n m : Nat) : Int)) H
def rB0 (g : Nat → Nat → Bool) : R2 := fun x y H Q => ∃ n m : Nat, x = .int (n : Int) ∧ y = .int (m : Int) ∧ Q (.bl (g n m)) H
section
variable {X : Cx}
theorem on_of0 {f : Value → Value → Sem Value} {g : Int → Int → Int} {h : Nat → Nat → Nat} (r : OpR X f (rI0 fun i j => .int (g i j))) (e : ∀ n m : Nat, g n m = ((h n m : Nat) : Int)) : OpR X f (rN0 h) := by
  intro pins s σ H x y v u Q I rx ry z
  obtain ⟨n, m, rfl, rfl, q⟩ := z
  exact r pins s σ H _ _ v u Q I rx ry ⟨_, _, rfl, rfl, by show Q (.int (g n m)) H; rw [e]; exact q⟩
theorem on_of {f : Value → Value → Sem Value} {C : Int → Int → Prop} {D : Nat → Nat → Prop} {g : Int → Int → Int} {h : Nat → Nat → Nat} (r : OpR X f (rI C fun i j => .int (g i j))) (c : ∀ n m : Nat, D n m → C n m) (e : ∀ n m : Nat, g n m = ((h n m : Nat) : Int)) :
    OpR X f (rN D h) := by
  intro pins s σ H x y v u Q I rx ry z
  obtain ⟨n, m, rfl, rfl, d, q⟩ := z
  exact r pins s σ H _ _ v u Q I rx ry ⟨_, _, rfl, rfl, c n m d, by show Q (.int (g n m)) H; rw [e]; exact q⟩
theorem ob_of {f : Value → Value → Sem Value} {g : Int → Int → Bool} {h : Nat → Nat → Bool} (r : OpR X f (rI0 fun i j => .bl (g i j))) (e : ∀ n m : Nat, g n m = h n m) : OpR X f (rB0 h) := by
  intro pins s σ H x y v u Q I rx ry z
  obtain ⟨n, m, rfl, rfl, q⟩ := z
  exact r pins s σ H _ _ v u Q I rx ry ⟨_, _, rfl, rfl, by show Q (.bl (g n m)) H; rw [e]; exact q⟩
abbrev NMul (n m : Nat) : Prop := n < 2 ^ 64 ∨ m < 2 ^ 64
abbrev NDiv (_ m : Nat) : Prop := 0 < m ∧ m < 1073741824
abbrev NShl (n k : Nat) : Prop := k ≤ 1000000 ∧ n < 2 ^ 64
theorem on_add : OpR X (binaryOp .Add) (rN0 fun n m => n + m) := on_of0 op_add fun n m => (Int.natCast_add n m).symm
theorem on_sub : OpR X (binaryOp .Sub) (rN (fun n m => m ≤ n) fun n m => n - m) := by
  intro pins s σ H x y v u Q I rx ry z
  obtain ⟨n, m, rfl, rfl, c, q⟩ := z
  have e : (n : Int) - (m : Int) = ((n - m : Nat) : Int) := by omega
  exact op_sub pins s σ H _ _ v u Q I rx ry ⟨_, _, rfl, rfl, by show Q (.int ((n : Int) - (m : Int))) H; rw [e]; exact q⟩
theorem on_mul : OpR X (binaryOp .Mult) (rN NMul fun n m => n * m) := on_of op_mul (fun n m h => h.imp (fun h => ⟨by omega, by omega⟩) fun h => ⟨by omega, by omega⟩) fun n m => (Int.natCast_mul n m).symm
theorem on_fdiv : OpR X (binaryOp .FloorDiv) (rN NDiv fun n m => n / m) := on_of op_fdiv (fun n m h => ⟨by have := h.1; omega, by have := h.2; omega⟩) fun n m => (Int.natCast_ediv n m).symm
theorem on_mod : OpR X (binaryOp .Mod) (rN (fun _ m => 0 < m) fun n m => n % m) := on_of op_mod (fun n m h => by have : 0 < m := h; omega) fun n m => (Int.natCast_emod n m).symm
theorem on_shl : OpR X (binaryOp .LShift) (rN NShl fun n k => n * 2 ^ k) := on_of op_shl (fun n k h => ⟨by omega, by have := h.1; omega, by rw [Int.natAbs_natCast]; exact h.2⟩) fun n k => by
  rw [Int.toNat_natCast, pow_cast, Int.natCast_mul]
theorem on_shr : OpR X (binaryOp .RShift) (rN0 fun n k => n / 2 ^ k) := by
  intro pins s σ H x y v u Q I rx ry z
  obtain ⟨n, k, rfl, rfl, q⟩ := z
  refine op_shr pins s σ H _ _ v u Q I rx ry ⟨_, _, rfl, rfl, by show (0 : Int) ≤ _; omega, ?_⟩
  show Q (.int ((n : Int) / 2 ^ (k : Int).toNat)) H
  rw [Int.toNat_natCast, pow_cast, ← Int.natCast_ediv]
  exact q
theorem on_and : OpR X (binaryOp .BitAnd) (rN0 fun n m => n &&& m) := on_of0 op_and b_and
theorem on_or : OpR X (binaryOp .BitOr) (rN0 fun n m => n ||| m) := on_of0 op_or b_or
theorem on_xor : OpR X (binaryOp .BitXor) (rN0 fun n m => n ^^^ m) := on_of0 op_xor b_xor
theorem in_add : OpR X (inplaceOp .Add) (rN0 fun n m => n + m) := on_of0 iop_add fun n m => (Int.natCast_add n m).symm
theorem in_and : OpR X (inplaceOp .BitAnd) (rN0 fun n m => n &&& m) := on_of0 iop_and b_and
theorem in_or : OpR X (inplaceOp .BitOr) (rN0 fun n m => n ||| m) := on_of0 iop_or b_or
theorem in_xor : OpR X (inplaceOp .BitXor) (rN0 fun n m => n ^^^ m) := on_of0 iop_xor b_xor
/-- the lowest one of a number, as n & -n gives it -/
def low (n : Nat) : Nat := (Builtin.bitAnd (n : Int) (-(n : Int))).toNat
theorem low_eq (j a : Nat) : low (2 ^ j * (2 * a + 1)) = 2 ^ j := by
  have z := PySem.W.kbt_low j (a : Int)
  have e1 : ((2 ^ j * (2 * a + 1) : Nat) : Int) = 2 ^ j * (2 * (a : Int) + 1) := by rw [Int.natCast_mul, ← pow_cast]; rfl
  unfold low
  rw [e1, z, pow_cast, Int.toNat_natCast]
theorem low_cast (n : Nat) : Builtin.bitAnd (n : Int) (-(n : Int)) = ((low n : Nat) : Int) := by
  by_cases h : n = 0
  · subst h; rfl
  · obtain ⟨j, a, rfl⟩ := low_form n h
    rw [low_eq]
    have z := PySem.W.kbt_low j (a : Int)
    have e1 : ((2 ^ j * (2 * a + 1) : Nat) : Int) = 2 ^ j * (2 * (a : Int) + 1) := by rw [Int.natCast_mul, ← pow_cast]; rfl
    rw [e1, z, pow_cast]
def rLow : R2 := fun x y H Q => ∃ n : Nat, x = .int (n : Int) ∧ y = .int (-(n : Int)) ∧ Q (.int ((low n : Nat) : Int)) H
theorem on_low : OpR X (binaryOp .BitAnd) rLow := by
  intro pins s σ H x y v u Q I rx ry z
  obtain ⟨n, rfl, rfl, q⟩ := z
  exact op_and pins s σ H _ _ v u Q I rx ry ⟨_, _, rfl, rfl, by show Q (.int (Builtin.bitAnd (n : Int) (-(n : Int)))) H; rw [low_cast]; exact q⟩
/-- any whole number % a positive one: some number below it -/
def rMod : R2 := fun x y H Q => ∃ (i : Int) (m : Nat), x = .int i ∧ y = .int (m : Int) ∧ 0 < m ∧ ∀ r : Nat, r < m → (r : Int) = i % (m : Int) → Q (.int (r : Int)) H
theorem on_modI : OpR X (binaryOp .Mod) rMod := by
  intro pins s σ H x y v u Q I rx ry z
  obtain ⟨i, m, rfl, rfl, c, q⟩ := z
  have h0 : 0 ≤ i % (m : Int) := Int.emod_nonneg i (by omega)
  have h1 : i % (m : Int) < m := Int.emod_lt_of_pos i (by omega)
  have e : (((i % (m : Int)).toNat : Nat) : Int) = i % (m : Int) := Int.toNat_of_nonneg h0
  refine op_mod pins s σ H _ _ v u Q I rx ry ⟨_, _, rfl, rfl, by show (0 : Int) < _; omega, ?_⟩
  show Q (.int (i % (m : Int))) H
  rw [← e]
  exact q _ (by omega) e
theorem oc_lt : OpR X (compareOp .Lt) (rB0 fun n m => decide (n < m)) := ob_of op_lt fun n m => decide_eq_decide.mpr (by omega)
theorem oc_le : OpR X (compareOp .LtE) (rB0 fun n m => decide (n ≤ m)) := ob_of op_le fun n m => decide_eq_decide.mpr (by omega)
theorem oc_gt : OpR X (compareOp .Gt) (rB0 fun n m => decide (m < n)) := ob_of op_gt fun n m => decide_eq_decide.mpr (by omega)
theorem oc_ge : OpR X (compareOp .GtE) (rB0 fun n m => decide (m ≤ n)) := ob_of op_ge fun n m => decide_eq_decide.mpr (by omega)
theorem oc_eq : OpR X (compareOp .Eq) (rB0 fun n m => decide (n = m)) := by
  intro pins s σ H x y v u Q I rx ry z
  obtain ⟨n, m, rfl, rfl, q⟩ := z
  have e : decide (V.int (n : Int) = V.int (m : Int)) = decide (n = m) := decide_eq_decide.mpr ⟨fun h => by have := V.int.inj h; omega, fun h => by rw [h]⟩
  exact op_eq pins s σ H _ _ v u Q I rx ry ⟨rfl, by rw [e]; exact q⟩
theorem oc_ne : OpR X (compareOp .NotEq) (rB0 fun n m => !decide (n = m)) := by
  intro pins s σ H x y v u Q I rx ry z
  obtain ⟨n, m, rfl, rfl, q⟩ := z
  have e : decide (V.int (n : Int) = V.int (m : Int)) = decide (n = m) := decide_eq_decide.mpr ⟨fun h => by have := V.int.inj h; omega, fun h => by rw [h]⟩
  exact op_ne pins s σ H _ _ v u Q I rx ry ⟨rfl, by rw [e]; exact q⟩
/-- texts -/
def rS0 (g : PySem.Str → PySem.Str → Bool) : R2 := fun x y H Q => ∃ a b : PySem.Str, x = .str a ∧ y = .str b ∧ Q (.bl (g a b)) H
theorem os_eq : OpR X (compareOp .Eq) (rS0 fun a b => decide (a = b)) := by
  intro pins s σ H x y v u Q I rx ry z
  obtain ⟨a, b, rfl, rfl, q⟩ := z
  have e : decide (V.str a = V.str b) = decide (a = b) := decide_eq_decide.mpr ⟨V.str.inj, fun h => by rw [h]⟩
  exact op_eq pins s σ H _ _ v u Q I rx ry ⟨rfl, by rw [e]; exact q⟩
theorem os_ne : OpR X (compareOp .NotEq) (rS0 fun a b => !decide (a = b)) := by
  intro pins s σ H x y v u Q I rx ry z
  obtain ⟨a, b, rfl, rfl, q⟩ := z
  have e : decide (V.str a = V.str b) = decide (a = b) := decide_eq_decide.mpr ⟨V.str.inj, fun h => by rw [h]⟩
  exact op_ne pins s σ H _ _ v u Q I rx ry ⟨rfl, by rw [e]; exact q⟩
/-- bools -/
def rL0 (g : Bool → Bool → Bool) : R2 := fun x y H Q => ∃ a b : Bool, x = .bl a ∧ y = .bl b ∧ Q (.bl (g a b)) H
theorem ol_ne : OpR X (compareOp .NotEq) (rL0 fun a b => a != b) := by
  intro pins s σ H x y v u Q I rx ry z
  obtain ⟨a, b, rfl, rfl, q⟩ := z
  have e : (!decide (V.bl a = V.bl b)) = (a != b) := by cases a <;> cases b <;> rfl
  exact op_ne pins s σ H _ _ v u Q I rx ry ⟨rfl, by rw [e]; exact q⟩
theorem ol_eq : OpR X (compareOp .Eq) (rL0 fun a b => a == b) := by
  intro pins s σ H x y v u Q I rx ry z
  obtain ⟨a, b, rfl, rfl, q⟩ := z
  have e : decide (V.bl a = V.bl b) = (a == b) := by cases a <;> cases b <;> rfl
  exact op_eq pins s σ H _ _ v u Q I rx ry ⟨rfl, by rw [e]; exact q⟩
/-- n.bit_length() of a number from nought -/
def tBitsN (to : TE) : TE := fun σ H Q => to σ H fun x H1 => ∃ n : Nat, x = .int (n : Int) ∧ Q (.int ((bl n : Nat) : Int)) H1
/-- n as a test, a number from nought -/
def tTruN (t : TE) : TT := fun σ H Q => t σ H fun x H1 => ∃ n : Nat, x = .int (n : Int) ∧ Q (!decide (n = 0)) H1
/-- n % m where the left one may be any number -/
theorem pe_monoE {e : Expr} {t t' : TE} (h : PE X e t) (m : ∀ σ H Q, t' σ H Q → t σ H Q) : PE X e t' := ⟨fun pins s σ H Q I q => h.run pins s σ H Q I (m σ H Q q)⟩
theorem pt_monoE {e : Expr} {t t' : TT} (h : PT X e t) (m : ∀ σ H Q, t' σ H Q → t σ H Q) : PT X e t' := ⟨fun pins s σ H Q I q => h.run pins s σ H Q I (m σ H Q q)⟩
/-- a reading that lets its end be weakened -/
def up (t : TE) : TE := fun σ H Q => ∃ R : VK, t σ H R ∧ ∀ v H', R v H' → Q v H'
theorem pe_up {e : Expr} {t : TE} (h : PE X e t) : PE X e (up t) := by
  refine ⟨fun pins s σ H Q I q => ?_⟩
  obtain ⟨R, q, m⟩ := q
  exact thn (h.run pins s σ H R I q) fun v s1 ⟨x, H1, I1, r1, q1⟩ => ⟨x, H1, I1, r1, m _ _ q1⟩
theorem pe_bitsN {o : Expr} {to : TE} {apos pos : Pos} (ho : PE X o to) (hbase : attributeBase o "bit_length" X.env (eval o X.env) = eval o X.env := by rfl)
    (hline : (apos.endLine == pos.line) = true := by rfl) : PE X (.Call (.Attribute o "bit_length" apos) [] [] pos) (tBitsN to) :=
  pe_monoE (pe_bits (pe_up ho) hbase hline) fun _ _ _ q => ⟨_, q, fun _ _ ⟨n, e, z⟩ => ⟨n, e, by rw [b_len]; exact z⟩⟩
theorem pt_truN {a : Expr} {ta : TE} (ha : PE X a ta) (he : ∀ whole, isTrue a X.env whole = (do let v ← whole; standAt a.pos; holding [v] (truthy v)) := by intro _; rfl) : PT X a (tTruN ta) :=
  pt_monoE (pt_truth (pe_up ha) he) fun _ _ _ q => ⟨_, q, fun _ _ ⟨n, e, z⟩ => ⟨!decide (n = 0), by
    rw [e]
    show (!decide (n = 0)) = ((n : Int) != 0)
    rw [bne, Bool.beq_eq_decide_eq]
    congr 1
    exact decide_eq_decide.mpr (by omega), z⟩⟩
end
end Own

/-! Own rules, part E: walks that gather a list, a dict, a set; sums of numbers from nought. -/
namespace Own
open PySem PySem.Spec PyProof.Rows L2 Bits

theorem hid_one_new {H : Hp} {p : Addr} {o : HO} (h : H p = none) : hid [p] (upd H p o) = H := by
  funext a
  unfold hid
  by_cases e : a = p
  · subst e; simp [h]
  · rw [if_neg (by simpa using e)]; exact upd_ne e
theorem hid_one_upd {H : Hp} {p : Addr} {o : HO} : hid [p] (upd H p o) = hid [p] H := hid_upd List.mem_cons_self

section
variable {J : It} {n : Nat} {G : Hp → Prop} {Y : Nat → Hp → V → Hp → Prop}
/-- [e for x in .. if ..]: A speaks of the turn, the list so far and the heap without it -/
theorem lc_acc (w : Walk J n G Y) (hn : n ≤ 1000000) {g : TG} {tt : TT} {te : TE} {vs : List Nat} {σ : L2.St} {H1 : Hp} {D : Addr} {Qd : Hp → Prop} (hD : H1 D = none) (A : Nat → List V → Hp → Prop) (h0 : A 0 [] H1)
    (hG : ∀ i acc H, i ≤ n → H D = some (.lst acc) → A i acc (hid [D] H) → G H)
    (hs : ∀ i x acc H H', i < n → H D = some (.lst acc) → A i acc (hid [D] H) → Y i H x H' → g x (wipe σ vs) H' fun σ2 H2 => wipe σ2 vs = wipe σ vs ∧ tt σ2 H2 fun b H3 =>
      if b = true then te σ2 H3 fun y H4 => H4 D = some (.lst acc) ∧ A (i + 1) (acc ++ [y]) (hid [D] H4) else H3 D = some (.lst acc) ∧ A (i + 1) acc (hid [D] H3))
    (hd : ∀ acc H, H D = some (.lst acc) → A n acc (hid [D] H) → Qd H) (mono : ∀ σ H R R', (∀ v H', R v H' → R' v H') → te σ H R → te σ H R') (monoT : ∀ σ H R R', (∀ v H', R v H' → R' v H') → tt σ H R → tt σ H R')
    (monoG : ∀ x σ H R R', (∀ s H', R s H' → R' s H') → g x σ H R → g x σ H R') :
    ∃ W : Nat → Nat → Hp → Prop, (∃ m, W 0 m (upd H1 D (.lst []))) ∧ ∀ i m H, W i m H →
      (J.stop i H ∧ Qd H) ∨ (J.go i H ∧ ∃ Nx : Hp → Prop, (∀ H', Nx H' → ∃ m', m' < m ∧ W (i + 1) m' H') ∧ ∀ x H', J.yld i H x H' → g x (wipe σ vs) H' fun σ2 H2 => wipe σ2 vs = wipe σ vs ∧ tt σ2 H2 fun b H3 =>
        if b = true then te σ2 H3 fun y H4 => ∃ acc, H4 D = some (.lst acc) ∧ acc.length < sizeLine ∧ Nx (upd H4 D (.lst (acc ++ [y]))) else Nx H3) := by
  have sz : ∀ k, k ≤ n → k < sizeLine ∨ k = sizeLine := fun k hk => .inl (by rw [sizeLine_eq]; omega)
  refine lc_it w (fun i H => ∃ acc, H D = some (.lst acc) ∧ acc.length ≤ i ∧ A i acc (hid [D] H)) ⟨[], upd_same, Nat.le_refl _, by rw [hid_one_new hD]; exact h0⟩
    (fun i H hi ⟨acc, h1, _, h3⟩ => hG i acc H hi h1 h3) ?_ (fun H ⟨acc, h1, _, h3⟩ => hd acc H h1 h3)
  rintro i x H H' hi ⟨acc, h1, h2, h3⟩ y
  refine monoG x _ _ _ _ (fun σ2 H2 ⟨e, q⟩ => ⟨e, ?_⟩) (hs i x acc H H' hi h1 h3 y)
  refine monoT _ _ _ _ (fun b H3 q => ?_) q
  cases b with
  | true =>
    simp only [if_true] at q ⊢
    refine mono _ _ _ _ (fun y H4 ⟨z1, z2⟩ => ?_) q
    refine ⟨acc, z1, by rw [sizeLine_eq]; omega, acc ++ [y], upd_same, by rw [List.length_append, List.length_singleton]; omega, ?_⟩
    rw [hid_one_upd]
    exact z2
  | false =>
    simp only [Bool.false_eq_true, if_false] at q ⊢
    exact ⟨acc, q.1, by omega, q.2⟩
/-- {k: v for x in ..}: as lc_it -/
theorem dc_it (w : Walk J n G Y) {g : TG} {tt : TT} {tk tv : TE} {vs : List Nat} {σ : L2.St} {H1 : Hp} {D : Addr} {Qd : Hp → Prop} (Pv : Nat → Hp → Prop) (h0 : Pv 0 (upd H1 D (.dK []))) (hG : ∀ i H, i ≤ n → Pv i H → G H)
    (hs : ∀ i x H H', i < n → Pv i H → Y i H x H' → g x (wipe σ vs) H' fun σ2 H2 => wipe σ2 vs = wipe σ vs ∧ tt σ2 H2 fun b H3 =>
      if b = true then tk σ2 H3 fun y H4 => tv σ2 H4 fun z H5 => ∃ kvs k, y = kV k ∧ H5 D = some (.dK kvs) ∧ kvs.length < sizeLine ∧ Pv (i + 1) (upd H5 D (.dK (putK kvs k z))) else Pv (i + 1) H3) (hd : ∀ H, Pv n H → Qd H) :
    ∃ W : Nat → Nat → Hp → Prop, (∃ m, W 0 m (upd H1 D (.dK []))) ∧ ∀ i m H, W i m H →
      (J.stop i H ∧ Qd H) ∨ (J.go i H ∧ ∃ Nx : Hp → Prop, (∀ H', Nx H' → ∃ m', m' < m ∧ W (i + 1) m' H') ∧ ∀ x H', J.yld i H x H' → g x (wipe σ vs) H' fun σ2 H2 => wipe σ2 vs = wipe σ vs ∧ tt σ2 H2 fun b H3 =>
        if b = true then tk σ2 H3 fun y H4 => tv σ2 H4 fun z H5 => ∃ kvs k, y = kV k ∧ H5 D = some (.dK kvs) ∧ kvs.length < sizeLine ∧ Nx (upd H5 D (.dK (putK kvs k z))) else Nx H3) := by
  refine ⟨fun i m H => m = n - i ∧ i ≤ n ∧ Pv i H, ⟨n, by simp, Nat.zero_le _, h0⟩, ?_⟩
  rintro i m H ⟨rfl, hi, p⟩
  have q := hG i H hi p
  by_cases hlt : i < n
  · exact .inr ⟨w.goes i H hlt q, Pv (i + 1), fun H' p' => ⟨n - (i + 1), by omega, rfl, hlt, p'⟩, fun x H' y => hs i x H H' hlt p (w.yields i H x H' hlt q y)⟩
  · have e : i = n := by omega
    subst e
    exact .inl ⟨w.stops H q, hd H p⟩
/-- the inner loop of a set comprehension of two clauses, its outer one: by words alone -/
theorem walk_by {Qd : Hp → Prop} {B : Nat → (Hp → Prop) → V → Hp → Prop} (w : Walk J n G Y) (Pv : Nat → Hp → Prop) {H1 : Hp} (h0 : Pv 0 H1) (hG : ∀ i H, i ≤ n → Pv i H → G H)
    (hs : ∀ i x H H', i < n → Pv i H → Y i H x H' → B i (Pv (i + 1)) x H') (hd : ∀ H, Pv n H → Qd H) :
    ∃ W : Nat → Nat → Hp → Prop, (∃ m, W 0 m H1) ∧ ∀ i m H, W i m H → (J.stop i H ∧ Qd H) ∨ (J.go i H ∧ ∃ Nx : Hp → Prop, (∀ H', Nx H' → ∃ m', m' < m ∧ W (i + 1) m' H') ∧ ∀ x H', J.yld i H x H' → B i Nx x H') := by
  refine ⟨fun i m H => m = n - i ∧ i ≤ n ∧ Pv i H, ⟨n, by simp, Nat.zero_le _, h0⟩, ?_⟩
  rintro i m H ⟨rfl, hi, p⟩
  have q := hG i H hi p
  by_cases hlt : i < n
  · exact .inr ⟨w.goes i H hlt q, Pv (i + 1), fun H' p' => ⟨n - (i + 1), by omega, rfl, hlt, p'⟩, fun x H' y => hs i x H H' hlt p (w.yields i H x H' hlt q y)⟩
  · have e : i = n := by omega
    subst e
    exact .inl ⟨w.stops H q, hd H p⟩
end
/-- a list or a tuple of these items -/
def Sq (K : PySem.W.Frag) (H : Hp) (a : Addr) (xs : List V) : Prop := SqL K H a xs ∨ SqT K H a xs
theorem Sq.same {K : PySem.W.Frag} {H H' : Hp} {a : Addr} {xs : List V} (h : Sq K H a xs) (e : Same H H') : Sq K H' a xs := h.imp e.seq (Own.Same.tupq e)
/-- what stood as a list or a tuple at a stands so still -/
def KpSq (K : PySem.W.Frag) (H : Hp) (a : Addr) (xs : List V) (H' : Hp) : Prop := (SqL K H a xs → SqL K H' a xs) ∧ (SqT K H a xs → SqT K H' a xs)
theorem KpSq.of {K : PySem.W.Frag} {H H' : Hp} {a : Addr} {xs : List V} (e : Same H H') : KpSq K H a xs H' := ⟨e.seq, Own.Same.tupq e⟩
/-- walking a list or a tuple: one proof for both -/
theorem seq_go {K : PySem.W.Frag} {tl : TE} {σ : L2.St} {H H1 : Hp} {a : Addr} {xs : List V} {R : It → Hp → Prop} (hl : ∀ Q : VK, Q (.ref a) H1 → tl σ H Q) (hs : Sq K H1 a xs)
    (hR : ∀ J, Walk J xs.length (KpSq K H1 a xs) (YAt xs) → R J H1) : iSeq K tl σ H R := by
  rcases hs with h | h
  · exact .inl (hl _ ⟨a, rfl, ⟨xs, h⟩, hR _ (walk_list.mono (fun H q => q.1 h) fun _ _ _ _ _ _ y => y)⟩)
  · exact .inr (hl _ ⟨a, rfl, ⟨xs, h⟩, hR _ (walk_tup.mono (fun H q => q.2 h) fun _ _ _ _ _ _ y => y)⟩)
/-- sum(a list of numbers from nought) -/
def rSumN (K : PySem.W.Frag) : List V → Hp → VK → Prop := fun vs H Q => ∃ (a : Addr) (ns : List Nat), vs = [V.ref a] ∧ SqL K H a (ns.map fun (n : Nat) => V.int (n : Int)) ∧ Q (.int ((ns.sum : Nat) : Int)) H
theorem sum_cast : ∀ ns : List Nat, (ns.map fun (n : Nat) => (n : Int)).sum = ((ns.sum : Nat) : Int)
  | [] => rfl
  | n :: ns => by rw [List.map_cons, List.sum_cons, List.sum_cons, sum_cast ns, Int.natCast_add]
theorem cr_sumN {X : Cx} (hc : X.calm = true) : CallR X (.builtin "sum") (rSumN X.K) := by
  intro pins s σ H vs us Q I r h
  obtain ⟨a, ns, rfl, hs, q⟩ := h
  refine cr_sum hc pins s σ H [.ref a] us Q I r ⟨a, ns.map fun (n : Nat) => (n : Int), rfl, ?_, by rw [sum_cast]; exact q⟩
  rw [List.map_map]
  exact hs
end Own

/-! Own rules, part F: lists of texts in their order. -/
namespace Own
open PySem PySem.Spec PyProof.Rows L2 Bits

/-- walking a list or a tuple that stands in H0: what H0 had stays -/
theorem seq_goS {K : PySem.W.Frag} {tl : TE} {σ : L2.St} {H H1 H0 : Hp} {a : Addr} {xs : List V} {R : It → Hp → Prop} (hl : ∀ Q : VK, Q (.ref a) H1 → tl σ H Q) (hs : Sq K H0 a xs) (he : Same H0 H1)
    (hR : ∀ J, Walk J xs.length (fun H => Same H0 H) (YAt xs) → R J H1) : iSeq K tl σ H R := by
  rcases hs with h | h
  · exact .inl (hl _ ⟨a, rfl, ⟨xs, he.seq h⟩, hR _ (walk_list.mono (fun H q => q.seq h) fun _ _ _ _ _ _ y => y)⟩)
  · exact .inr (hl _ ⟨a, rfl, ⟨xs, Own.Same.tupq he h⟩, hR _ (walk_tup.mono (fun H q => Own.Same.tupq q h) fun _ _ _ _ _ _ y => y)⟩)
theorem same_none {H H' : Hp} {a : Addr} (e : Same H H') (h : H' a = none) : H a = none := by
  cases z : H a with
  | none => rfl
  | some o => rw [e _ _ z] at h; cases h
/-- behind a new place -/
theorem same_new {H H' : Hp} {a : Addr} {o : HO} (e : Same H H') (h : H' a = none) : Same H (upd H' a o) := e.trans (Same.upd_new h)
/-- a stands not behind b -/
def sle (a b : PySem.Str) : Prop := ltCps b.cps.toList a.cps.toList = false
theorem sle_iff {a b : PySem.Str} : sle a b ↔ a.cps.toList ≤ b.cps.toList := by
  unfold sle
  rw [ltCps_eq, decide_eq_false_iff_not]
  exact List.not_lt
theorem sle_trans {a b c : PySem.Str} (h : sle a b) (g : sle b c) : sle a c := sle_iff.mpr (List.le_trans (sle_iff.mp h) (sle_iff.mp g))
theorem sle_anti {a b : PySem.Str} (h : sle a b) (g : sle b a) : a = b := PySem.Str.ext' (Array.toList_inj.mp (List.le_antisymm (sle_iff.mp h) (sle_iff.mp g)))
theorem risingS_pw : ∀ (l : List PySem.Str) (p : PySem.Str), risingS p l = true → (p :: l).Pairwise sle
  | [], _, _ => List.pairwise_singleton ..
  | x :: r, p, h => by
    unfold risingS at h
    rw [Bool.and_eq_true] at h
    have h1 : sle p x := by unfold sle; simpa using h.1
    have ih := risingS_pw r x h.2
    refine List.pairwise_cons.mpr ⟨fun y hy => ?_, ih⟩
    rcases List.mem_cons.mp hy with e | e
    · rw [e]; exact h1
    · exact sle_trans h1 ((List.pairwise_cons.mp ih).1 y e)
theorem sortedS_pw {l : List PySem.Str} (h : sortedS l = true) : l.Pairwise sle := by
  cases l with
  | nil => exact List.Pairwise.nil
  | cons x r => exact risingS_pw r x h
/-- names in their order, each once -/
structure Asc (l : List PySem.Str) : Prop where
  pw : l.Pairwise sle
  nd : l.Nodup
theorem Asc.ext {l m : List PySem.Str} (h : Asc l) (g : Asc m) (e : ∀ z, z ∈ l ↔ z ∈ m) : l = m :=
  List.Perm.eq_of_pairwise (le := sle) (fun _ _ _ _ h g => sle_anti h g) h.pw g.pw ((List.perm_ext_iff_of_nodup h.nd g.nd).mpr e)
theorem Asc.filter {l : List PySem.Str} (h : Asc l) (f : PySem.Str → Bool) : Asc (l.filter f) := ⟨h.pw.filter _, h.nd.filter _⟩
theorem nodup_len {α : Type} [DecidableEq α] : ∀ {l m : List α}, l.Nodup → (∀ z ∈ l, z ∈ m) → l.length ≤ m.length
  | [], _, _, _ => Nat.zero_le _
  | x :: l, m, h, g => by
    obtain ⟨h1, h2⟩ := List.nodup_cons.mp h
    have hx := g x List.mem_cons_self
    have ih := nodup_len (l := l) (m := m.erase x) h2 fun z hz => (List.mem_erase_of_ne fun e => h1 (by rw [← e]; exact hz)).mpr (g z (List.mem_cons_of_mem _ hz))
    rw [List.length_erase_of_mem hx] at ih
    have := List.length_pos_of_mem hx
    rw [List.length_cons]
    omega
/-- the next name, if it is new -/
def addS (zs : List PySem.Str) (z : PySem.Str) : List PySem.Str := if z ∈ zs then zs else zs ++ [z]
theorem addS_mem {zs : List PySem.Str} {z y : PySem.Str} : y ∈ addS zs z ↔ y ∈ zs ∨ y = z := by
  unfold addS
  split
  · next h => exact ⟨.inl, fun q => q.elim id fun e => e ▸ h⟩
  · simp
theorem addS_nd {zs : List PySem.Str} {z : PySem.Str} (h : zs.Nodup) : (addS zs z).Nodup := by
  unfold addS
  split
  · exact h
  · next g => exact (List.perm_append_singleton z zs).nodup_iff.mpr (List.nodup_cons.mpr ⟨g, h⟩)
theorem addK_map (zs : List PySem.Str) (z : PySem.Str) : addK (zs.map Sum.inr) (Sum.inr z) = (addS zs z).map Sum.inr := by
  unfold addK addS
  by_cases h : z ∈ zs
  · rw [if_pos (hasK_iff.mpr (List.mem_map.mpr ⟨z, h, rfl⟩)), if_pos h]
  · rw [if_neg (fun e => h (by
      obtain ⟨y, hy, ey⟩ := List.mem_map.mp (hasK_iff.mp e)
      exact Sum.inr.inj ey ▸ hy)), if_neg h, List.map_append]
    rfl
end Own

/-! Own rules, part G: name = {k: v for ..}; rules whose readings name the fragment (for use inside a comprehension's block). -/
namespace Own
open PySem PySem.Spec PyProof.Rows L2

section
variable {X : Cx}
/-- name = {k: v for ..} on one line, the name a local -/
theorem ps_setDc {i : Nat} {y : PySem.Str} {py : Pos} {kx vx tg iter : Expr} {ifs : List Expr} {scope : Scope} {own : List (PySem.Str × Nat)} {pos spos : Pos} {wi : TI} {g : TG} {tt : TT} {tk tv : TE} (hc : X.calm = true) (hN : X.N.Nodup) (hy : X.N[i]? = some y) (hyl : X.env.scope.names.lookup y = some .local)
    (hsw : swapsWith (.DictComp kx vx [⟨tg, iter, ifs, 0⟩] scope pos) (some (.Name y py)) spos.line X.env = pure true) (hi : PI X tg iter wi) (ok : BlkOk X.N X.env.scope scope own)
    (hg : ∀ (s : Shared) (H : Hp) (C : Addr) (cl : List (PySem.Str × Addr)) (fp : List Addr), PG (X.blk s H scope (compEnvC scope cl C X.env) fp) tg g) (ht : ∀ (s : Shared) (H : Hp) (C : Addr) (cl : List (PySem.Str × Addr)) (fp : List Addr), PTs (X.blk s H scope (compEnvC scope cl C X.env) fp) ifs tt)
    (hk : ∀ (s : Shared) (H : Hp) (C : Addr) (cl : List (PySem.Str × Addr)) (fp : List Addr), PE (X.blk s H scope (compEnvC scope cl C X.env) fp) kx tk)
    (he : ∀ (s : Shared) (H : Hp) (C : Addr) (cl : List (PySem.Str × Addr)) (fp : List Addr), PE (X.blk s H scope (compEnvC scope cl C X.env) fp) vx tv) (hs : ∀ x, foldedSetIterable iter X.env x = pure x := by intro _; rfl) :
    PS X (.Assign [.Name y py] (.DictComp kx vx [⟨tg, iter, ifs, 0⟩] scope pos) spos) (tAsg (tDc wi g tt tk tv (own.map (·.2))) (gName i)) := by
  refine ⟨fun pins s σ H D I h => ?_⟩
  rw [exec_Assign_Name_used _ _ _ _ hsw]
  refine wpAny_bind (wpAny_standAt (wpAny_bind ?_))
  show wpAny _ X.A (do let _ ← comprehension (.DictComp kx vx [⟨tg, iter, ifs, 0⟩] scope pos) scope X.env (firstIterPos [⟨tg, iter, ifs, 0⟩] pos) newDict false (eval iter X.env) (some (assign (.Name y py) X.env))) _ _ s
  have h : tDc wi g tt tk tv (own.map (·.2)) σ H (fun x H1 => gName i x σ H1 D.nx) := h
  refine wpAny_bind (thn (dc_core (Qf := fun _ s' => SP X pins D .next s') hc hN I hi ok hg ht hk he hs h fun L C s' m H' I' q hn f => ?_) fun _ s' hq => wpAny_pure (wpAny_pure hq))
  show wpAny _ _ (assign (.Name y py) X.env (.ref L)) _ _ _
  refine wpAny_assign_Name (store_ok2 (v := V.ref L) I' hN hy (.inl hyl) rfl (fun s2 I2 ⟨a, sb, ha⟩ => ?_) (.inr hyl))
  obtain ⟨f0, f1, f2, f3, f4, f5⟩ := f
  have haC : C ≠ a := by
    rcases ha with z | z
    · rw [z]; exact f1
    · exact fun e => f4 y a z e.symm
  refine ⟨m, hn.sameBut sb haC, fun h3 sb3 => ?_⟩
  exact ⟨_, H', I2.turned (t' := s2.toks) (fun b o hb e => (sb3.2 b hb).trans e) f0 f1 f3 f4 f5, q⟩
theorem sw_dict {kx vx : Expr} {gs : List Comprehension} {scope : Scope} {pos py : Pos} {y : PySem.Str} {l : Nat} {env : Env} (hk : env.scope.kind = .function) (hy : env.scope.names.lookup y = some .local) (hl : (py.line == pos.line) = true)
    (ha : (scope.names.any fun (n, k) => n == y && (k == .local || k == .cell)) = false) : swapsWith (.DictComp kx vx gs scope pos) (some (.Name y py)) l env = pure true := by
  have ky : env.kindOf y = some .local := hy
  have hb : env.blockKind = .function := by unfold Env.blockKind; rw [hk]; rfl
  unfold swapsWith
  simp only [hb, ky, ha, Expr.pos, hl]
  rfl
end
section
variable {X : Cx} {K : PySem.W.Frag}
theorem ixL (e : X.K = K) : IxR X (rIxL K) := e ▸ ix_list
theorem ixT (e : X.K = K) : IxR X (rIxT K) := e ▸ ix_tup
theorem inSeq (e : X.K = K) : OpR X (compareOp .In) (rIn K false) := e ▸ op_in_seq
theorem isiK (e : X.K = K) : CallR X (.builtin "isinstance") (rIsi K) := e ▸ call_isi
def rTupleOf (K : PySem.W.Frag) : List V → Hp → VK → Prop := fun xs H Q => ∃ p ys, xs = [.ref p] ∧ ((SqL K H p ys ∧ ∀ l, H l = none → Q (.ref l) (upd H l (.tup ys))) ∨ (SqT K H p ys ∧ Q (.ref p) H))
theorem tupleK (e : X.K = K) : CallR X (.type "tuple") (rTupleOf K) := e ▸ call_tuple_of
def rListOf (K : PySem.W.Frag) : List V → Hp → VK → Prop := fun xs H Q => ∃ p ys, xs = [.ref p] ∧ (SqL K H p ys ∨ SqT K H p ys) ∧ ∀ l, H l = none → Q (.ref l) (upd H l (.lst ys))
theorem listK (e : X.K = K) : CallR X (.type "list") (rListOf K) := e ▸ call_list_of
theorem pi_seqK {tg l : Expr} {tl : TE} (e : X.K = K) (hl : PE X l tl) : PI X tg l (iSeq K tl) := e ▸ pi_seq hl
theorem pi_listK {tg l : Expr} {tl : TE} (e : X.K = K) (hl : PE X l tl) : PI X tg l (iList K tl) := e ▸ pi_list hl
theorem pi_tupK {tg l : Expr} {tl : TE} (e : X.K = K) (hl : PE X l tl) : PI X tg l (iTup K tl) := e ▸ pi_tup hl
end
end Own

/-! Own rules, part H: int(n), ranges of numbers from nought, slices of lists. -/
namespace Own
open PySem PySem.Spec PyProof.Rows L2

section
variable {X : Cx}
theorem intI : CallR X (.type "int") (fun xs H Q => ∃ i : Int, xs = [.int i] ∧ Q (.int i) H) := by
  intro pins s σ H xs us Q I r h
  exact call_int1 pins s σ H xs us Q I r (.inl h)
def iRngN (ta : TA) : TI := fun σ H R => ta σ H fun vs H1 => ∃ n : Nat, vs = [.int (n : Int)] ∧ n < 2 ^ 62 ∧ R (Itr 0 n) H1
def upA (t : TA) : TA := fun σ H Q => ∃ R : List V → Hp → Prop, t σ H R ∧ ∀ v H', R v H' → Q v H'
theorem pa_up {es : List Expr} {t : TA} (h : PA X es t) : PA X es (upA t) := by
  refine ⟨fun pos pins s σ H Q I q => ?_⟩
  obtain ⟨R, q, m⟩ := q
  exact thn (h.run pos pins s σ H R I q) fun us s1 ⟨vs, H1, I1, r1, q1⟩ => ⟨vs, H1, I1, r1, m _ _ q1⟩
theorem pi_rangeN {tg a : Expr} {ta : TA} {p pos : Pos} (hg : Gl X "range") (hm : X.mg "range" = none) (ha : PA X [a] ta)
    (hs : starEach [a] X.env = [(false, eval a X.env)] := by rfl) : PI X tg (.Call (.Name "range" p) [a] [] pos) (iRngN ta) := by
  refine ⟨fun pins s σ H R I h => (pi_range1 hg hm (pa_up ha) hs).run pins s σ H R I ⟨_, h, fun vs H1 q => ?_⟩⟩
  obtain ⟨n, e, hn, q⟩ := q
  refine ⟨(n : Int), e, by omega, by omega, ?_⟩
  rw [Int.toNat_natCast]
  exact q
theorem walk_rangeN {n : Nat} : Walk (Itr 0 n) n (fun _ => True) (YFn fun i => .int (i : Int)) :=
  walk_range.mono (fun _ h => h) fun i H x H' _ _ y => ⟨y.1, by rw [y.2]; simp⟩
end
/-- what follows the first statement (the second, the third) is shown once, from R -/
theorem seq1_rest {B C : TS} {D : Ends} {σ : L2.St} {H : Hp} (R : L2.St → Hp → Prop) (h : ∀ N : L2.St → Hp → Prop, (∀ σ H, R σ H → N σ H) → B { D with nx := N } σ H) (rest : ∀ σ H, R σ H → C D σ H) : tSeq B C D σ H := h (C D) rest
theorem seq2_rest {A B C : TS} {D : Ends} {σ : L2.St} {H : Hp} (R : L2.St → Hp → Prop) (h : ∀ N : L2.St → Hp → Prop, (∀ σ H, R σ H → N σ H) → tSeq A B { D with nx := N } σ H) (rest : ∀ σ H, R σ H → C D σ H) : tSeq A (tSeq B C) D σ H := h (C D) rest
theorem seq3_rest {A A2 B C : TS} {D : Ends} {σ : L2.St} {H : Hp} (R : L2.St → Hp → Prop) (h : ∀ N : L2.St → Hp → Prop, (∀ σ H, R σ H → N σ H) → tSeq A (tSeq A2 B) { D with nx := N } σ H) (rest : ∀ σ H, R σ H → C D σ H) : tSeq A (tSeq A2 (tSeq B C)) D σ H := h (C D) rest
theorem ixN_nat' {n j : Nat} (hj : j < n) : ixN n (j : Int) = some j := by
  unfold ixN
  rw [if_pos (by omega), if_pos (by omega), Int.toNat_natCast]
theorem cutV_take {xs : List V} {n : Nat} : cutV xs none (some (n : Int)) = xs.take n := by
  unfold cutV
  rw [HT.sIx_none, HT.sIx_nat, List.drop_zero, Nat.sub_zero]
  by_cases h : n ≤ xs.length
  · rw [Nat.min_eq_left h]
  · rw [Nat.min_eq_right (by omega), List.take_length, List.take_of_length_le (by omega)]
theorem cutV_drop {xs : List V} {n : Nat} : cutV xs (some (n : Int)) none = xs.drop n := by
  unfold cutV
  rw [HT.sIx_none, HT.sIx_nat]
  by_cases h : n ≤ xs.length
  · rw [Nat.min_eq_left h, ← List.length_drop, List.take_length]
  · rw [Nat.min_eq_right (by omega), List.drop_length, List.drop_eq_nil_of_le (by omega), List.take_nil]
theorem inV_strs (z : PySem.Str) : ∀ ns : List PySem.Str, inV (.str z) (ns.map V.str) = decide (z ∈ ns)
  | [] => rfl
  | y :: ns => by
    have ih := inV_strs z ns
    unfold inV at ih ⊢
    rw [List.map_cons, List.any_cons, ih]
    show ((y == z) || _) = _
    rw [Bool.eq_iff_iff, Bool.or_eq_true, decide_eq_true_iff, decide_eq_true_iff, List.mem_cons, beq_iff_eq]
    exact or_congr ⟨Eq.symm, Eq.symm⟩ Iff.rfl
theorem inV_nats (z : Nat) : ∀ ns : List Nat, inV (.int (z : Int)) (ns.map fun (n : Nat) => V.int (n : Int)) = decide (z ∈ ns)
  | [] => rfl
  | y :: ns => by
    have ih := inV_nats z ns
    unfold inV at ih ⊢
    rw [List.map_cons, List.any_cons, ih]
    show (((y : Int) == (z : Int)) || _) = _
    rw [Bool.eq_iff_iff, Bool.or_eq_true, decide_eq_true_iff, decide_eq_true_iff, List.mem_cons, beq_iff_eq]
    exact or_congr ⟨fun e => by omega, fun e => by omega⟩ Iff.rfl
theorem flat_strs (ns : List PySem.Str) : (ns.map V.str).all flatV = true := by
  rw [List.all_map]
  exact List.all_eq_true.mpr fun _ _ => rfl
theorem flat_nats (ns : List Nat) : (ns.map fun (n : Nat) => V.int (n : Int)).all flatV = true := by
  rw [List.all_map]
  exact List.all_eq_true.mpr fun _ _ => rfl
end Own

/-! Own rules, part I: data that may be compared. -/
namespace Own
open PySem PySem.Spec PyProof.Rows L2
/-- lists and tuples to the depth n, of texts, numbers, bools -/
def Nd : Nat → PyData → Prop
  | _, .none => True
  | _, .bool _ => True
  | _, .int _ => True
  | _, .str x => PyData.strOk x = true
  | 0, .list _ => False
  | 0, .tuple _ => False
  | n + 1, .list xs => ∀ x ∈ xs, Nd n x
  | n + 1, .tuple xs => ∀ x ∈ xs, Nd n x
  | _, .dict _ => False
theorem nd_all {n : Nat} (ih : ∀ d, Nd n d → d.canLay0 = true ∧ d.depth ≤ n) : ∀ xs : List PyData, (∀ x ∈ xs, Nd n x) → PyData.canLayAll0 xs = true ∧ PyData.depthAll xs ≤ n
  | [], _ => ⟨rfl, Nat.zero_le n⟩
  | x :: xs, h => by
    obtain ⟨a1, a2⟩ := ih x (h x List.mem_cons_self)
    obtain ⟨b1, b2⟩ := nd_all ih xs fun y hy => h y (List.mem_cons_of_mem _ hy)
    refine ⟨?_, ?_⟩
    · rw [PyData.canLayAll0, a1, b1]; rfl
    · rw [PyData.depthAll]; exact Nat.max_le.mpr ⟨a2, b2⟩
theorem nd_ok : ∀ (n : Nat) (d : PyData), Nd n d → d.canLay0 = true ∧ d.depth ≤ n
  | n, .none, _ => ⟨rfl, by rw [PyData.depth]; exact Nat.zero_le n⟩
  | n, .bool _, _ => ⟨rfl, by rw [PyData.depth]; exact Nat.zero_le n⟩
  | n, .int _, _ => ⟨rfl, by rw [PyData.depth]; exact Nat.zero_le n⟩
  | n, .str x, h => ⟨by rw [PyData.canLay0]; unfold Nd at h; exact h, by rw [PyData.depth]; exact Nat.zero_le n⟩
  | 0, .list xs, h => by unfold Nd at h; exact h.elim
  | 0, .tuple xs, h => by unfold Nd at h; exact h.elim
  | n + 1, .list xs, h => by
    unfold Nd at h
    obtain ⟨a, b⟩ := nd_all (nd_ok n) xs h
    exact ⟨by rw [PyData.canLay0]; exact a, by rw [PyData.depth]; omega⟩
  | n + 1, .tuple xs, h => by
    unfold Nd at h
    obtain ⟨a, b⟩ := nd_all (nd_ok n) xs h
    exact ⟨by rw [PyData.canLay0]; exact a, by rw [PyData.depth]; omega⟩
  | _, .dict _, h => by unfold Nd at h; exact h.elim
theorem Nd.shaped {n : Nat} {d : PyData} (h : Nd n d) (hn : n ≤ 64) : SeqAt.shaped d = true := by
  obtain ⟨a, b⟩ := nd_ok n d h
  unfold SeqAt.shaped
  rw [a, decide_eq_true (Nat.le_trans b hn)]
  rfl
theorem Nd.refl {n : Nat} {d : PyData} (h : Nd n d) : PyData.eqv d d = true := SeqAt.eqv_refl d (nd_ok n d h).1
/-- the two are one and the same datum: != is False -/
theorem ne_same {K : PySem.W.Frag} {H : Hp} {x y : V} {d : PyData} {n : Nat} {Q : VK} (hx : Dp K H x d) (hy : Dp K H y d) (h : Nd n d) (hn : n ≤ 64) (q : Q (.bl false) H) : rNeD K x y H Q :=
  ⟨d, d, hx, hy, h.shaped hn, h.shaped hn, by rw [h.refl]; exact q⟩
theorem dpa_nats {K : PySem.W.Frag} {H : Hp} : ∀ (ns : List Nat), DpAll K H (ns.map fun (n : Nat) => V.int (n : Int)) (ns.map fun (n : Nat) => PyData.int (n : Int))
  | [] => .nil
  | n :: ns => .cons (.int n) (dpa_nats ns)
theorem nd_nats {n : Nat} (ns : List Nat) : ∀ x ∈ (ns.map fun (n : Nat) => PyData.int (n : Int)), Nd n x := fun x hx => by
  obtain ⟨y, _, rfl⟩ := List.mem_map.mp hx
  cases n <;> exact trivial
theorem nd_strs {n : Nat} {ns : List PySem.Str} (h : ∀ z ∈ ns, PyData.strOk z = true) : ∀ x ∈ ns.map PyData.str, Nd n x := fun x hx => by
  obtain ⟨y, hy, rfl⟩ := List.mem_map.mp hx
  have := h y hy
  cases n <;> exact this
end Own
namespace Own
open PySem PySem.Spec PyProof.Rows L2
section
variable {X : Cx} {K : PySem.W.Frag} {o e : Expr} {es : List Expr} {to : TE} {t : TA} {apos cpos : Pos}
theorem pe_index (hK : X.K = K) (ho : PE X o to) (ha : PA X (e :: es) t) (hbase : attributeBase o "index" X.env (eval o X.env) = eval o X.env := by rfl)
    (hfew : ((backTo cpos (starEach (e :: es) X.env)).all (fun x => !x.1) && (backToKw cpos (keywordEach [] X.env)).all (fun x => x.1.isSome)
      && decide ((e :: es).length + ([] : List Keyword).length + (if ([] : List Keyword).isEmpty then 0 else 1) < 30)) = true := by rfl)
    (hline : (apos.endLine == cpos.line) = true := by rfl) (hst : starEach (e :: es) X.env = (false, eval e X.env) :: starEach es X.env := by rfl)
    (hpl : (backTo cpos (starEach es X.env)).any (·.1) = false := by rfl) : PE X (.Call (.Attribute o "index" apos) (e :: es) [] cpos) (tBM K "list" (rIndex K) to t) := by
  subst hK
  exact pe_bm PySem.F.plainAttrs_list PySem.F.slot_list_index PySem.F.type_list_index mt_index ho ha hbase hfew hline hst hpl
end
/-- a name set, and the next statement reached -/
theorem g_asg {te : TE} {g : TG} {i : Nat} {v : V} {σ : L2.St} {H : Hp} {B : TS} {D : Ends} {r : VK} {bk ct : L2.St → Hp → Prop} (h : te (σ.set i (some v)) H fun x H1 => g x (σ.set i (some v)) H1 (B D)) :
    gName i v σ H (Ends.nx ⟨tSeq (tAsg te g) B D, r, bk, ct⟩) := h
theorem g_if {c : TT} {A1 A2 : TS} {i : Nat} {v : V} {σ : L2.St} {H : Hp} {B : TS} {D : Ends} {r : VK} {bk ct : L2.St → Hp → Prop} (h : c (σ.set i (some v)) H fun b H1 => if b = true then A1 { D with nx := B D } (σ.set i (some v)) H1 else A2 { D with nx := B D } (σ.set i (some v)) H1) :
    gName i v σ H (Ends.nx ⟨tSeq (tIfS c A1 A2) B D, r, bk, ct⟩) := h
theorem or_op {r : R2} {te tb : TE} {u : TT} {σ : L2.St} {H : Hp} {Q : Bool → Hp → Prop} (h : te σ H fun x H1 => tb σ H1 fun y H2 => r x y H2 fun z H3 => ∃ k, z = .bl k ∧ if k = true then Q true H3 else u σ H3 Q) : tOr (tTest (tOp r te tb)) u σ H Q := h
theorem seq_asg {te : TE} {g : TG} {B : TS} {D : Ends} {σ : L2.St} {H : Hp} (h : te σ H fun x H1 => g x σ H1 (B D)) : tSeq (tAsg te g) B D σ H := h
theorem next_seq {A B : TS} {D : Ends} {σ : L2.St} {H : Hp} {r : VK} {bk ct : L2.St → Hp → Prop} (h : tSeq A B D σ H) : tNext ⟨tSeq A B D, r, bk, ct⟩ σ H := h
theorem call_cb {te : TE} {r : List V → Hp → VK → Prop} {sp : Sp} {E : XK} {σ : L2.St} {H : Hp} {Q : VK} (h : te σ H fun x H1 => r [x] H1 fun y H2 => sp [y] H2 Q E) : tCall sp [] E (tCons (tCB r (tCons te tNil)) tNil) σ H Q := h
end Own

namespace Cl
local macro_rules | `(tactic| walk_at "go") => `(tactic| repeat (first | (refine ⟨_, rfl, ?_⟩) | (refine ⟨_, _, rfl, rfl, ?_⟩) | (refine ⟨_, rfl, rfl, ?_⟩) | (refine ⟨_, _, rfl, ?_⟩) | (refine And.intro (by first | with_reducible rfl | rfl | omega | decide | assumption | (dsimp only; first | omega | decide | assumption)) ?_)))
open PySem L2 Own Bits
abbrev topS (i : Nat) : Stmt := PySem.Challenge.pw_whocrosses_k20_whole_either_or.main.body.getD i (.Pass ⟨0, 0, 0, 0⟩)
section
variable {P : Program} {w : World} {K : PySem.W.Frag} {mg : PySem.Str → Option Value} {base : Heap}

/-! ### is_odd -/
def spIsOdd : Sp := fun vs H Q _ => ∃ b : Nat, vs = [.int b] ∧ b < 2 ^ 1000 ∧ Q (.bl (par b)) H
abbrev sc_is_odd_N : List PySem.Str := ["bits", "width", "half"]
theorem sc_is_odd : FnScope sc_is_odd_N ["bits"] (defScope (topS 2)) := ⟨rfl, rfl, rfl, by decide +kernel, rfl, by decide +kernel, by decide +kernel⟩
theorem ok_is_odd (D : DefAt K mg "is_odd" (topS 2) ["bits"]) : Cal P w K mg base 1 "is_odd" spIsOdd := by
  refine cal_of D sc_is_odd (fun vs H Q E h => ?_) (fun f cdv A outer s H vs Q E hr h => ?_)
  · obtain ⟨b, rfl, _⟩ := h
    rfl
  · obtain ⟨b, rfl, hb, k⟩ := h
    refine ⟨_, (pss_cons (ps_set (i := 1) sc_is_odd.nd rfl (Or.inl rfl) (Own.pe_bitsN (pv 0)))
  (pss_cons (ps_while PassesOwn.never (pt_cmpR Own.oc_gt (pv 1) pe_int (nomark _))
   (pss_cons (ps_set (i := 2) sc_is_odd.nd rfl (Or.inl rfl) (pe_op Own.on_fdiv (pe_op Own.on_add (pv 1) pe_int) pe_int))
  (pss_cons (ps_set (i := 0) sc_is_odd.nd rfl (Or.inl rfl) (pe_op Own.on_xor (pe_op Own.on_shr (pv 0) (pv 2)) (pe_op Own.on_and (pv 0) (pe_op Own.on_sub (pe_op Own.on_shl pe_int (pv 2)) pe_int))))
  (pss_one (ps_set (i := 1) sc_is_odd.nd rfl (Or.inl rfl) (pv 2))))))
  (pss_one (ps_ret (pe_cmpR Own.oc_eq (pv 0) pe_int (nomark _)))))), ?_⟩
    walk_at "go"
    refine while_by (fun σ H' => H' = H ∧ ∃ (n wd : Nat) (hf : Option V), σ = [some (.int n), some (.int wd), hf] ∧ n < 2 ^ wd ∧ wd ≤ 1000 ∧ par n = par b)
      (fun σ _ => match σ with | [_, some (.int wd), _] => wd.toNat | _ => 0) ⟨rfl, b, bl b, none, rfl, lt_bl b, bl_le hb, rfl⟩ ?_ (fun σ H Q Q' hm h => ?_)
    · rintro σ H' ⟨rfl, n, wd, hf, rfl, h1, h2, h3⟩
      walk_at "go"
      refine ite2 (fun hw => ?_) (fun hw => ?_)
      · have hw2 : 1 < wd := of_decide_eq_true hw
        walk_at "go"
        refine ⟨(by show 1 ≤ 1 * 2 ^ ((wd + 1) / 2); rw [Nat.one_mul]; exact Nat.two_pow_pos _), ?_⟩
        walk_at "go"
        refine ⟨⟨rfl, _, _, _, rfl, ?_, ?_, ?_⟩, ?_⟩
        · show (n / 2 ^ ((wd + 1) / 2)) ^^^ (n &&& (1 * 2 ^ ((wd + 1) / 2) - 1)) < 2 ^ ((wd + 1) / 2)
          rw [Nat.one_mul, Nat.and_two_pow_sub_one_eq_mod]
          exact fold_lt h1 (by omega)
        · show (wd + 1) / 2 ≤ 1000
          omega
        · show par ((n / 2 ^ ((wd + 1) / 2)) ^^^ (n &&& (1 * 2 ^ ((wd + 1) / 2) - 1))) = par b
          rw [Nat.one_mul, Nat.and_two_pow_sub_one_eq_mod, par_fold]
          exact h3
        · show ((((wd + 1) / 2 : Nat) : Int)).toNat < ((wd : Nat) : Int).toNat
          rw [Int.toNat_natCast, Int.toNat_natCast]
          omega
      · have hw2 : ¬ 1 < wd := fun z => hw (decide_eq_true z)
        have hn : n < 2 := Nat.lt_of_lt_of_le h1 (show 2 ^ wd ≤ 2 ^ 1 from Nat.pow_le_pow_right (by decide) (by omega))
        walk_at "go"
        show Q (.bl (decide (n = 1))) _
        rw [← Bool.beq_eq_decide_eq, par_small hn, h3]
        exact k
    · obtain ⟨v, h1, i, j, h2, h3, k2, h4, h5⟩ := h
      exact ⟨v, h1, i, j, h2, h3, k2, h4, hm _ _ h5⟩

/-! ### bit_sum -/
/-- the place of a name in a list of names -/
def ixS (N : List PySem.Str) (z : PySem.Str) : Nat := N.findIdx fun y => decide (y = z)
/-- a dict that has for each of the names the number with its bit -/
def BitsAt (H : Hp) (d : Addr) (N : List PySem.Str) : Prop := ∃ kvs : List (Key × V), H d = some (.dK kvs) ∧ ∀ z ∈ N, valV kvs (Sum.inr z) = some (.int ((2 ^ ixS N z : Nat) : Int))
def maskS (N items : List PySem.Str) : Nat := xsum (items.map fun z => 2 ^ ixS N z)
def spBitSum (K : PySem.W.Frag) : Sp := fun vs H Q _ => ∃ (d a : Addr) (N items : List PySem.Str), vs = [.ref d, .ref a] ∧ BitsAt H d N ∧ Sq K H a (items.map V.str) ∧ (∀ z ∈ items, z ∈ N) ∧ Q (.int ((maskS N items : Nat) : Int)) H
abbrev sc_bit_sum_N : List PySem.Str := ["bit_of", "items", "bits", "item"]
theorem sc_bit_sum : FnScope sc_bit_sum_N ["bit_of", "items"] (defScope (topS 3)) := ⟨rfl, rfl, rfl, by decide +kernel, rfl, by decide +kernel, by decide +kernel⟩
theorem ok_bit_sum (D : DefAt K mg "bit_sum" (topS 3) ["bit_of", "items"]) : Cal P w K mg base 1 "bit_sum" (spBitSum K) := by
  refine cal_of D sc_bit_sum (fun vs H Q E h => ?_) (fun f cdv A outer s H vs Q E hr h => ?_)
  · obtain ⟨d, a, N, items, rfl, _⟩ := h
    rfl
  · obtain ⟨d, a, N, items, rfl, ⟨kvs, hd, hv⟩, hs, hin, k⟩ := h
    refine ⟨_, (pss_cons (ps_set (i := 2) sc_bit_sum.nd rfl (Or.inl rfl) pe_int)
  (pss_cons (ps_for PassesOwn.never rfl (Own.pi_seq (pv 1)) (pg_name (i := 3) sc_bit_sum.nd rfl (Or.inl rfl))
   (pss_one (ps_aug (i := 2) sc_bit_sum.nd rfl (Or.inl rfl) (pe_dget (hu_of hr) (pv 0) (pv 3) (fun _ _ => rfl)) (Own.ip_of Own.in_xor))))
  (pss_one (ps_ret (pv 2))))), ?_⟩
    refine seq_go (a := a) (xs := items.map V.str) (fun Q q => ⟨_, rfl, q⟩) hs fun J wk => for_it wk
      (fun i σ H' => H' = H ∧ ∃ it, σ = [some (.ref d), some (.ref a), some (.int ((xsum ((items.take i).map fun z => 2 ^ ixS N z) : Nat) : Int)), it]) ⟨rfl, none, rfl⟩ (fun i σ H' _ ⟨e, _⟩ => by rw [e]; exact KpSq.of (Same.refl _)) ?_ ?_
    · rintro i x σ H' H'' hi ⟨rfl, it, rfl⟩ ⟨rfl, hx⟩
      rw [List.getElem?_map] at hx
      cases e : items[i]? with
      | none => rw [e] at hx; cases hx
      | some z =>
        rw [e] at hx
        obtain rfl : V.str z = x := Option.some.inj hx
        have hz : z ∈ N := hin z (List.mem_of_getElem? e)
        have hg := DGet.k (k := Sum.inr z) hd
        rw [hv z hz] at hg
        walk_at "go"
        refine ⟨_, _, rfl, hg, ?_⟩
        walk_at "go"
        refine ⟨some (.str z), ?_⟩
        have e2 : xsum ((items.take (i + 1)).map fun z => 2 ^ ixS N z) = xsum ((items.take i).map fun z => 2 ^ ixS N z) ^^^ 2 ^ ixS N z := by
          rw [List.take_succ, e, List.map_append, xsum_append]
          simp [xsum]
        rw [e2]
        rfl
    · rintro σ H' ⟨rfl, it, rfl⟩
      walk_at "go"
      have e : (items.map V.str).length = items.length := List.length_map ..
      rw [e, List.take_length]
      exact k

/-! ### bit_places -/
def natsV (l : List Nat) : List V := l.map fun (i : Nat) => V.int (i : Int)
def spBitPlaces : Sp := fun vs H Q _ => ∃ b : Nat, vs = [.int b] ∧ b < 2 ^ 1000 ∧ ∀ p, H p = none → Q (.ref p) (upd H p (.lst (natsV (places b))))
abbrev sc_bit_places_N : List PySem.Str := ["bits", "places", "low"]
theorem sc_bit_places : FnScope sc_bit_places_N ["bits"] (defScope (topS 4)) := ⟨rfl, rfl, rfl, by decide +kernel, rfl, by decide +kernel, by decide +kernel⟩
theorem places_len {b : Nat} (h : b < 2 ^ 1000) : (places b).length ≤ 1000 := by
  unfold places
  have h1 := List.length_filter_le (fun i => b.testBit i) (List.range (bl b))
  rw [List.length_range] at h1
  have h2 := bl_le h
  omega
theorem ok_bit_places (D : DefAt K mg "bit_places" (topS 4) ["bits"]) : Cal P w K mg base 1 "bit_places" spBitPlaces := by
  refine cal_of D sc_bit_places (fun vs H Q E h => ?_) (fun f cdv A outer s H vs Q E hr h => ?_)
  · obtain ⟨b, rfl, _⟩ := h
    rfl
  · obtain ⟨b, rfl, hb, k⟩ := h
    refine ⟨_, (pss_cons (ps_set (i := 1) sc_bit_places.nd rfl (Or.inl rfl) (pe_lst pa_nil))
  (pss_cons (ps_while PassesOwn.never (Own.pt_truN (pv 0))
   (pss_cons (ps_set (i := 2) sc_bit_places.nd rfl (Or.inl rfl) (pe_op Own.on_low (pv 0) (pe_un un_neg (pv 0))))
  (pss_cons (ps_expr (pe_bm PySem.F.plainAttrs_list PySem.F.slot_list_append PySem.F.type_list_append mt_append (pv 1) (pa_cons (pe_op Own.on_sub (Own.pe_bitsN (pv 2)) pe_int) pa_nil)))
  (pss_one (ps_aug (i := 0) sc_bit_places.nd rfl (Or.inl rfl) (pv 2) (Own.ip_of Own.in_xor))))))
  (pss_one (ps_ret (pv 1))))), ?_⟩
    refine ⟨Nat.zero_le _, fun p hp => ?_⟩
    have hl0 := places_len hb
    refine while_by (fun σ H' => ∃ (n : Nat) (acc : List Nat) (lo : Option V), σ = [some (.int n), some (.ref p), lo] ∧ H' = upd H p (.lst (natsV acc)) ∧ acc ++ places n = places b)
      (fun σ _ => match σ with | [some (.int n), _, _] => n.toNat | _ => 0) ⟨b, [], none, rfl, rfl, rfl⟩ ?_ (fun σ H Q Q' hm h => ?_)
    · rintro σ H' ⟨n, acc, lo, rfl, rfl, h1⟩
      walk_at "go"
      by_cases hn : n = 0
      · subst hn
        refine iteF ?_
        walk_at "go"
        rw [places_zero, List.append_nil] at h1
        rw [h1]
        exact k p hp
      · rw [decide_eq_false hn]
        refine iteT ?_
        obtain ⟨j, a, rfl⟩ := low_form n hn
        have el := low_eq j a
        rw [low_places] at h1
        have hla : acc.length < 1000 := by
          have z := congrArg List.length h1
          rw [List.length_append, List.length_cons] at z
          omega
        walk_at "go"
        refine ⟨.inl ⟨rfl, _, SqL.of upd_same⟩, ?_⟩
        walk_at "go"
        refine ⟨(by show 1 ≤ bl (low (2 ^ j * (2 * a + 1))); rw [el, bl_two_pow]; omega), ?_⟩
        refine ⟨p, _, _, rfl, rfl, upd_same, (by show (natsV acc).length < sizeLine; unfold natsV; rw [List.length_map, sizeLine_eq]; omega), ?_⟩
        walk_at "go"
        refine ⟨⟨2 ^ j * (2 * a), acc ++ [j], some (.int ((low (2 ^ j * (2 * a + 1)) : Nat) : Int)), ?_, ?_, ?_⟩, ?_⟩
        · show [some (V.int ((2 ^ j * (2 * a + 1) ^^^ low (2 ^ j * (2 * a + 1)) : Nat) : Int)), some (.ref p), some (.int ((low (2 ^ j * (2 * a + 1)) : Nat) : Int))] = _
          rw [el, low_xor]
        · show upd (upd H p (.lst (natsV acc))) p (.lst (natsV acc ++ [V.int ((bl (low (2 ^ j * (2 * a + 1))) - 1 : Nat) : Int)])) = _
          rw [upd_upd, el, bl_two_pow, Nat.add_sub_cancel]
          unfold natsV
          rw [List.map_append]
          rfl
        · rw [List.append_assoc]
          exact h1
        · show ((2 ^ j * (2 * a + 1) ^^^ low (2 ^ j * (2 * a + 1)) : Nat) : Int).toNat < (((2 ^ j * (2 * a + 1) : Nat) : Int)).toNat
          rw [el, low_xor, Int.toNat_natCast, Int.toNat_natCast]
          exact Nat.mul_lt_mul_of_pos_left (by omega) (Nat.two_pow_pos j)
    · obtain ⟨v, h1, n, e, z⟩ := h
      exact ⟨v, h1, n, e, hm _ _ z⟩
end
end Cl

namespace Cl
local macro_rules | `(tactic| walk_at "go") => `(tactic| repeat (first | (refine ⟨_, rfl, ?_⟩) | (refine ⟨_, _, rfl, rfl, ?_⟩) | (refine ⟨_, rfl, rfl, ?_⟩) | (refine ⟨_, _, rfl, ?_⟩) | (refine And.intro (by first | with_reducible rfl | rfl | omega | decide | assumption | (dsimp only; first | omega | decide | assumption)) ?_)))
open PySem L2 Own Bits
section
variable {P : Program} {w : World} {K : PySem.W.Frag} {mg : PySem.Str → Option Value} {base : Heap}

/-! ### kept rows in the heap -/
/-- the dict's pairs say the kept rows, each by its own tuple -/
inductive KRel (H : Hp) : List (Key × V) → KRows → Prop
  | nil : KRel H [] []
  | cons {w b a s : Nat} {t : Addr} {kvs : List (Key × V)} {k : KRows} (ht : H t = some (.tup [.int (b : Int), .int (a : Int), .int (s : Int)])) (r : KRel H kvs k) : KRel H ((Sum.inl (w : Int), .ref t) :: kvs) ((w, (b, a, s)) :: k)
theorem KRel.same {H H' : Hp} (e : Same H H') : ∀ {kvs : List (Key × V)} {k : KRows}, KRel H kvs k → KRel H' kvs k
  | _, _, .nil => .nil
  | _, _, .cons h r => .cons (e _ _ h) (r.same e)
theorem KRel.look {H : Hp} {w : Nat} : ∀ {kvs : List (Key × V)} {k : KRows}, KRel H kvs k → (∀ r, Bits.look k w = some r → ∃ t, valV kvs (Sum.inl (w : Int)) = some (.ref t) ∧ H t = some (.tup [.int (r.1 : Int), .int (r.2.1 : Int), .int (r.2.2 : Int)])) ∧ (Bits.look k w = none → valV kvs (Sum.inl (w : Int)) = none)
  | _, _, .nil => ⟨fun r h => (by cases h), fun _ => rfl⟩
  | _, _, @KRel.cons _ w' b a s t kvs k ht r => by
    have ih := KRel.look (w := w) r
    by_cases e : w' = w
    · subst e
      have e1 : Bits.look ((w', (b, a, s)) :: k) w' = some (b, a, s) := by unfold Bits.look; rw [List.find?_cons, decide_eq_true rfl]; rfl
      rw [e1]
      refine ⟨fun q h => ?_, fun h => by cases h⟩
      have h' := Option.some.inj h
      subst h'
      exact ⟨t, valV_pos (p := (Sum.inl (w' : Int), V.ref t)) rfl, ht⟩
    · have e1 : Bits.look ((w', (b, a, s)) :: k) w = Bits.look k w := by unfold Bits.look; rw [List.find?_cons, decide_eq_false e]
      have e2 : valV ((Sum.inl (w' : Int), V.ref t) :: kvs) (Sum.inl (w : Int) : Key) = valV kvs (Sum.inl (w : Int)) := valV_neg (p := (Sum.inl (w' : Int), V.ref t)) fun z => e (by have := Sum.inl.inj z; omega)
      rw [e1, e2]
      exact ih
theorem KRel.imp {H H' : Hp} (e : ∀ t xs, H t = some (.tup xs) → H' t = some (.tup xs)) : ∀ {kvs : List (Key × V)} {k : KRows}, KRel H kvs k → KRel H' kvs k
  | _, _, .nil => .nil
  | _, _, .cons h r => .cons (e _ _ h) (r.imp e)
theorem KRel.keys {H : Hp} : ∀ {kvs : List (Key × V)} {k : KRows}, KRel H kvs k → kvs.map (·.1) = (k.map fun p => (p.1 : Int)).map Sum.inl
  | _, _, .nil => rfl
  | _, _, .cons _ r => by rw [List.map_cons, List.map_cons, List.map_cons, r.keys]
theorem KRel.length {H : Hp} : ∀ {kvs : List (Key × V)} {k : KRows}, KRel H kvs k → kvs.length = k.length
  | _, _, .nil => rfl
  | _, _, .cons _ r => by rw [List.length_cons, List.length_cons, r.length]
theorem KRel.snoc {H : Hp} {w b a s : Nat} {t : Addr} (ht : H t = some (.tup [.int (b : Int), .int (a : Int), .int (s : Int)])) : ∀ {kvs : List (Key × V)} {k : KRows}, KRel H kvs k → KRel H (kvs ++ [(Sum.inl (w : Int), .ref t)]) (k ++ [(w, (b, a, s))])
  | _, _, .nil => .cons ht .nil
  | _, _, .cons h r => .cons h (r.snoc ht)
/-- the dict at d -/
def KeptAt (H : Hp) (d : Addr) (k : KRows) : Prop := ∃ kvs, H d = some (.dK kvs) ∧ KRel (hid [d] H) kvs k
theorem KRel.away {H : Hp} {p : Addr} {o : HO} (h : H p = some o) (hn : ∀ xs, o ≠ .tup xs) : ∀ {kvs : List (Key × V)} {k : KRows}, KRel H kvs k → KRel (hid [p] H) kvs k
  | _, _, .nil => .nil
  | _, _, .cons ht r => .cons (hid_some.mpr ⟨fun z => by
      have e := List.mem_singleton.mp z
      rw [e, h] at ht
      exact hn _ (Option.some.inj ht), ht⟩) (r.away h hn)
theorem KeptAt.rel {H : Hp} {d : Addr} {k : KRows} (h : KeptAt H d k) : ∃ kvs, H d = some (.dK kvs) ∧ KRel H kvs k := by
  obtain ⟨kvs, h1, h2⟩ := h
  exact ⟨kvs, h1, h2.same hid_sub⟩
theorem KeptAt.same {H H' : Hp} {d : Addr} {k : KRows} (h : KeptAt H d k) (e : Same H H') : KeptAt H' d k := by
  obtain ⟨kvs, h1, h2⟩ := h
  exact ⟨kvs, e _ _ h1, h2.same (Own.Same.hid [d] e)⟩

/-! ### solve_rows -/
/-- how the kept rows are -/
structure KFine (k : KRows) : Prop where
  nd : (k.map (·.1)).Nodup
  row : ∀ p ∈ k, p.1 = bl p.2.1 ∧ p.2.1 ≠ 0 ∧ p.1 ≤ 60 ∧ p.2.2.1 < 2
  len : k.length ≤ 60
def spSolve : Sp := fun vs H Q _ => ∃ (d : Addr) (k : KRows), vs = [.ref d] ∧ KeptAt H d k ∧ KFine k ∧ ∀ H', Same H H' → Q (.int ((solveM k : Nat) : Int)) H'
abbrev sc_solve_rows_N : List PySem.Str := ["kept", "chosen", "width", "bits", "asked", "_"]
theorem sc_solve_rows : FnScope sc_solve_rows_N ["kept"] (defScope (topS 5)) := ⟨rfl, rfl, rfl, by decide +kernel, rfl, by decide +kernel, by decide +kernel⟩
theorem ints_nats {ys : List Int} {ws : List Nat} (p : ys.Perm (ws.map fun (x : Nat) => (x : Int))) : ∃ zs : List Nat, ys = zs.map (fun (x : Nat) => (x : Int)) ∧ zs.Perm ws := by
  refine ⟨ys.map Int.toNat, ?_, ?_⟩
  · rw [List.map_map]
    have h : ∀ y ∈ ys, ((Int.toNat y : Nat) : Int) = y := fun y hy => by
      obtain ⟨x, _, e⟩ := List.mem_map.mp (p.mem_iff.mp hy)
      rw [← e]
      rfl
    clear p
    induction ys with
    | nil => rfl
    | cons y ys ih =>
      rw [List.map_cons, ← ih fun z hz => h z (List.mem_cons_of_mem _ hz)]
      show y :: ys = ((Int.toNat y : Nat) : Int) :: ys
      rw [h y List.mem_cons_self]
  · have q := p.map Int.toNat
    rw [List.map_map] at q
    have e : (Int.toNat ∘ fun (x : Nat) => (x : Int)) = id := rfl
    rw [e, List.map_id] at q
    exact q
theorem lt_of_le_nd : ∀ {l : List Nat}, l.Pairwise (· ≤ ·) → l.Nodup → l.Pairwise (· < ·)
  | [], _, _ => List.Pairwise.nil
  | x :: l, h, d => by
    obtain ⟨h1, h2⟩ := List.pairwise_cons.mp h
    obtain ⟨d1, d2⟩ := List.nodup_cons.mp d
    refine List.pairwise_cons.mpr ⟨fun y hy => ?_, lt_of_le_nd h2 d2⟩
    have a := h1 y hy
    have b : x ≠ y := fun z => d1 (z ▸ hy)
    omega
theorem ok_solve_rows (T : Blt mg) (D : DefAt K mg "solve_rows" (topS 5) ["kept"]) (D_is_odd : Cal P w K mg base 1 "is_odd" spIsOdd) : Cal P w K mg base 2 "solve_rows" spSolve := by
  refine cal_of D sc_solve_rows (fun vs H Q E h => ?_) (fun f cdv A outer s H vs Q E hr h => ?_)
  · obtain ⟨d, k, rfl, _⟩ := h
    rfl
  · obtain ⟨d, k, rfl, hk, F, q⟩ := h
    obtain ⟨kvs, hd, hR⟩ := hk.rel
    refine ⟨_, (pss_cons (ps_set (i := 1) sc_solve_rows.nd rfl (Or.inl rfl) pe_int)
  (pss_cons (ps_for PassesOwn.never rfl (pi_list (pe_callB (call_sortedDI rfl) (by rfl) T.sorted (by decide +kernel) (pa_cons (pv 0) pa_nil))) (pg_name (i := 2) sc_solve_rows.nd rfl (Or.inl rfl))
   (pss_cons (ps_asg (pe_dget (hu_of hr) (pv 0) (pv 2) (fun _ _ => rfl)) (pg_tup rfl (pgs_cons (pg_name (i := 3) sc_solve_rows.nd rfl (Or.inl rfl)) (pgs_cons (pg_name (i := 4) sc_solve_rows.nd rfl (Or.inl rfl)) (pgs_cons (pg_name (i := 5) sc_solve_rows.nd rfl (Or.inl rfl)) pgs_nil)))))
  (pss_one (ps_if (pt_cmpR Own.ol_ne (Own.pe_c D_is_odd hr (by decide) rfl (pa_cons (pe_op Own.on_and (pv 3) (pv 1)) pa_nil)) (pe_cmpR Own.oc_eq (pv 4) pe_int (nomark _)) (nomark _))
   (pss_one (ps_aug (i := 1) sc_solve_rows.nd rfl (Or.inl rfl) (pe_op Own.on_shl pe_int (pe_op Own.on_sub (pv 2) pe_int)) (Own.ip_of Own.in_or)))
   pss_nil))))
  (pss_one (ps_ret (pv 1))))), ?_⟩
    walk_at "go"
    refine ⟨d, kvs, k.map (fun p => (p.1 : Int)), rfl, .inl hd, hR.keys, (by rw [List.length_map]; have := F.len; omega), fun ys p hp hs pn => ?_⟩
    have hp' : ys.Perm ((k.map (·.1)).map fun (x : Nat) => (x : Int)) := by rw [List.map_map]; exact hp
    obtain ⟨zs, rfl, pz⟩ := ints_nats hp'
    have hzs : zs = wds k := by
      refine asc_ext (lt_of_le_nd ?_ (pz.nodup_iff.mpr F.nd)) (wds_asc k) fun w => ?_
      · rw [List.pairwise_map] at hs
        exact hs.imp fun h => by omega
      · rw [pz.mem_iff]
        exact (mem_wds (fun p hp => by have := (F.row p hp).2.2.1; omega) F.nd).symm
    subst hzs
    have hd' : upd H p (.lst (((wds k).map fun (x : Nat) => (x : Int)).map V.int)) d = some (.dK kvs) := by rw [upd_ne (ne_of_none hd pn)]; exact hd
    have hR' := hR.same (Same.upd_new (o := .lst (((wds k).map fun (x : Nat) => (x : Int)).map V.int)) pn)
    have hSm : Same H (upd H p (.lst (((wds k).map fun (x : Nat) => (x : Int)).map V.int))) := Same.upd_new pn
    have hq : SqL K (upd H p (.lst (((wds k).map fun (x : Nat) => (x : Int)).map V.int))) p (((wds k).map fun (x : Nat) => (x : Int)).map V.int) := SqL.of upd_same
    generalize upd H p (.lst (((wds k).map fun (x : Nat) => (x : Int)).map V.int)) = H1 at hd' hR' hSm hq
    have hl : (((wds k).map fun (x : Nat) => (x : Int)).map V.int).length = (wds k).length := by rw [List.length_map, List.length_map]
    refine ⟨p, rfl, ⟨_, hq⟩, for_it walk_list (fun i σ H' => H' = H1 ∧ ∃ e1 e2 e3 e4, σ = [some (.ref d), some (.int ((((wds k).take i).foldl (stepW k) 0 : Nat) : Int)), e1, e2, e3, e4])
      ⟨rfl, none, none, none, none, rfl⟩ (fun i σ H' _ ⟨e, _⟩ => by rw [e]; exact hq) ?_ ?_⟩
    · rintro i x σ H' H'' hi ⟨rfl, e1, e2, e3, e4, rfl⟩ ⟨rfl, hx⟩
      rw [List.getElem?_map, List.getElem?_map] at hx
      cases e : (wds k)[i]? with
      | none => rw [e] at hx; cases hx
      | some wd =>
        rw [e] at hx
        obtain rfl : V.int (wd : Int) = x := Option.some.inj hx
        have hw : wd ∈ wds k := List.mem_of_getElem? e
        obtain ⟨r, hr1⟩ := Option.isSome_iff_exists.mp (List.mem_filter.mp hw).2
        obtain ⟨b, a, sc⟩ := r
        obtain ⟨t, ht1, ht2⟩ := hR'.look.1 _ hr1
        have hg := DGet.k (k := Sum.inl (wd : Int)) hd'
        rw [ht1] at hg
        obtain ⟨f1, f2, f3, f4⟩ := F.row _ (look_some hr1)
        dsimp only at f1 f2 f3 f4 ht2
        have e5 : ((wds k).take (i + 1)).foldl (stepW k) 0 = stepC (((wds k).take i).foldl (stepW k) 0) (b, a) := by
          rw [List.take_succ, e, List.foldl_append]
          show stepW k _ wd = _
          unfold stepW
          rw [hr1]
        rw [e5]
        generalize ((wds k).take i).foldl (stepW k) 0 = c
        walk_at "go"
        refine ⟨_, _, rfl, hg, ?_⟩
        refine ⟨t, _, rfl, SqT.of ht2, rfl, ?_⟩
        walk_at "go"
        refine ⟨Nat.lt_of_le_of_lt Nat.and_le_left (Nat.lt_trans (lt_bl b) (Nat.pow_lt_pow_right (by decide) (by omega))), ?_⟩
        walk_at "go"
        have hb0 := bl_pos f2
        refine ite2 (fun hc => ?_) (fun hc => ?_)
        · have hc2 : par (b &&& c) ≠ (a == 1) := by
            rw [Bool.beq_eq_decide_eq]
            intro z
            have hc3 : (par (b &&& c) != decide (a = 1)) = true := hc
            rw [z] at hc3
            simp at hc3
          have e6 : stepC c (b, a) = c ||| 2 ^ (wd - 1) := by unfold stepC; rw [if_pos hc2, f1]
          rw [e6]
          walk_at "go"
          refine ⟨some (.int (wd : Int)), some (.int (b : Int)), some (.int (a : Int)), some (.int (sc : Int)), ?_⟩
          show [some (V.ref d), some (.int ((c ||| 1 * 2 ^ (wd - 1) : Nat) : Int)), _, _, _, _] = _
          rw [Nat.one_mul]
        · have hc2 : ¬ par (b &&& c) ≠ (a == 1) := fun z => hc (by
            rw [Bool.beq_eq_decide_eq] at z
            show (par (b &&& c) != decide (a = 1)) = true
            simpa using z)
          have e6 : stepC c (b, a) = c := by unfold stepC; rw [if_neg hc2]
          rw [e6]
          exact ⟨rfl, _, _, _, _, rfl⟩
    · rintro σ H' ⟨rfl, e1, e2, e3, e4, rfl⟩
      walk_at "go"
      rw [hl, List.take_length]
      exact q _ hSm

/-! ### RowSpace -/
theorem mk_ : ¬ (("many" : PySem.Str) = "kept") := by decide +kernel
theorem km_ : ¬ (("kept" : PySem.Str) = "many") := by decide +kernel
/-- the attributes of a RowSpace -/
def rf (d : Addr) (m : Nat) : List (PySem.Str × V) := [("kept", V.ref d), ("many", V.int (m : Int))]
theorem rf_kept (d : Addr) (m : Nat) : (rf d m).lookup ("kept" : PySem.Str) = some (.ref d) := by unfold rf; rw [List.lookup_cons_self]
theorem rf_many (d : Addr) (m : Nat) : (rf d m).lookup ("many" : PySem.Str) = some (.int (m : Int)) := by
  unfold rf
  rw [List.lookup_cons, show (("many" : PySem.Str) == "kept") = false by simpa using mk_, List.lookup_cons_self]
theorem rf_no (d : Addr) (m : Nat) {x : PySem.Str} (h1 : ¬ x = "kept") (h2 : ¬ x = "many") : (rf d m).lookup x = none := by
  unfold rf
  rw [List.lookup_cons, show (x == "kept") = false by simpa using h1, List.lookup_cons, show (x == "many") = false by simpa using h2]
  rfl
theorem rf_put (d : Addr) (m n : Nat) : putF "many" (.int (n : Int)) (rf d m) = rf d n := by
  show (if ("kept" : PySem.Str) = "many" then _ else (("kept" : PySem.Str), V.ref d) :: (if ("many" : PySem.Str) = "many" then [(("many" : PySem.Str), V.int (n : Int))] else _)) = _
  rw [if_neg km_, if_pos rfl]
  rfl
theorem rf_new (d : Addr) : putF "many" (.int 0) (putF "kept" (.ref d) []) = rf d 0 := by
  show (if ("kept" : PySem.Str) = "many" then _ else (("kept" : PySem.Str), V.ref d) :: [(("many" : PySem.Str), V.int 0)]) = _
  rw [if_neg km_]
  rfl
/-- the class's facts -/
structure RSC (K : PySem.W.Frag) (C : Addr) : Prop where
  cl : Cls K C
  nK : NoAttr K C "kept"
  nM : NoAttr K C "many"
/-- a RowSpace stands at p, its kept rows in the dict at d -/
structure RSAt (C p dx d : Addr) (H : Hp) (m : Nat) (k : KRows) : Prop where
  obj : H p = some (.ins C dx (rf d m))
  kept : KeptAt H d k
def spInit (C : Addr) : Sp := fun vs H Q _ => ∃ p dx : Addr, vs = [.ref p] ∧ H p = some (.ins C dx []) ∧ ∀ d, H d = none → Q .non (upd (upd H d (.dK [])) p (.ins C dx (rf d 0)))
abbrev sc_RowSpace___init___N : List PySem.Str := ["self"]
theorem sc_RowSpace___init__ : FnScope sc_RowSpace___init___N ["self"] (defScope (inClass (topS 6) 0)) := ⟨rfl, rfl, rfl, by decide +kernel, rfl, by decide +kernel, by decide +kernel⟩
theorem ok_init {C : Addr} (R : RSC K C) (D : IniAt K mg C "RowSpace" "RowSpace.__init__" (inClass (topS 6) 0) ["self"]) : Mak P w K mg base 1 "RowSpace" C (spInit C) := by
  refine mak_of D sc_RowSpace___init__ (fun vs H Q E h => ?_) (fun f cdv A outer s H vs Q E hr h => ?_)
  · obtain ⟨p, dx, rfl, _⟩ := h
    rfl
  · obtain ⟨p, dx, rfl, hp, k⟩ := h
    refine ⟨_, (pss_cons (ps_fld (pv 0) pe_dnewK rfl)
  (pss_one (ps_fld (pv 0) pe_int rfl))), ?_⟩
    intro d hd
    have nd : p ≠ d := ne_of_none hp hd
    refine ⟨_, rfl, p, C, dx, [], rfl, (by rw [upd_ne nd]; exact hp), R.cl, R.nK, (by show 0 < 1000; decide), ?_⟩
    refine ⟨_, rfl, p, C, dx, _, rfl, upd_same, R.cl, R.nM, (by show 1 < 1000; decide), ?_⟩
    rw [rf_new, upd_upd]
    exact k d hd
def spReduced (C : Addr) : Sp := fun vs H Q _ => ∃ (p dx d : Addr) (m : Nat) (k : KRows) (b a s : Nat), vs = [.ref p, .int (b : Int), .int (a : Int), .int (s : Int)] ∧ RSAt C p dx d H m k ∧ KFine k ∧
  ∀ q, H q = none → Q (.ref q) (upd H q (.tup [.int ((red (bl b) k (b, a, s)).1 : Int), .int ((red (bl b) k (b, a, s)).2.1 : Int), .int ((red (bl b) k (b, a, s)).2.2 : Int)]))
abbrev sc_RowSpace_reduced_N : List PySem.Str := ["self", "bits", "asked", "sources", "width", "other", "number", "more"]
theorem sc_RowSpace_reduced : FnScope sc_RowSpace_reduced_N ["self", "bits", "asked", "sources"] (defScope (inClass (topS 6) 1)) := ⟨rfl, rfl, rfl, by decide +kernel, rfl, by decide +kernel, by decide +kernel⟩
theorem ok_reduced {C : Addr} (R : RSC K C) (D : MetAt K C "reduced" "RowSpace.reduced" (inClass (topS 6) 1) ["self", "bits", "asked", "sources"]) : Met P w K mg base 1 C "reduced" (spReduced C) := by
  refine met_of D sc_RowSpace_reduced (fun vs H Q E h => ?_) (fun f cdv A outer s H vs Q E hr h => ?_)
  · obtain ⟨p, dx, d, m, k, b, a, s, rfl, _⟩ := h
    rfl
  · obtain ⟨p, dx, d, m, k, b, a, s, rfl, hS, F, q⟩ := h
    obtain ⟨kvs, hd, hR⟩ := hS.kept.rel
    refine ⟨_, (pss_cons (ps_while PassesOwn.never (Own.pt_truN (pv 1))
   (pss_cons (ps_set (i := 4) sc_RowSpace_reduced.nd rfl (Or.inl rfl) (Own.pe_bitsN (pv 1)))
  (pss_cons (ps_if (pt_cmp (pc_dnotin (hu_of hr) (pv 4) (pe_fld (pv 0) rfl)))
   (pss_one ps_break)
   pss_nil)
  (pss_cons (ps_asg (pe_dget (hu_of hr) (pe_fld (pv 0) rfl) (pv 4) (fun _ _ => rfl)) (pg_tup rfl (pgs_cons (pg_name (i := 5) sc_RowSpace_reduced.nd rfl (Or.inl rfl)) (pgs_cons (pg_name (i := 6) sc_RowSpace_reduced.nd rfl (Or.inl rfl)) (pgs_cons (pg_name (i := 7) sc_RowSpace_reduced.nd rfl (Or.inl rfl)) pgs_nil)))))
  (pss_cons (ps_aug (i := 1) sc_RowSpace_reduced.nd rfl (Or.inl rfl) (pv 5) (Own.ip_of Own.in_xor))
  (pss_cons (ps_aug (i := 2) sc_RowSpace_reduced.nd rfl (Or.inl rfl) (pv 6) (Own.ip_of Own.in_xor))
  (pss_one (ps_aug (i := 3) sc_RowSpace_reduced.nd rfl (Or.inl rfl) (pv 7) (Own.ip_of Own.in_xor)))))))))
  (pss_one (ps_ret (pe_tup (pa_cons (pv 1) (pa_cons (pv 2) (pa_cons (pv 3) pa_nil))))))), ?_⟩
    refine while_by (fun σ H' => H' = H ∧ ∃ (fu b1 a1 s1 : Nat) (e1 e2 e3 e4 : Option V), σ = [some (.ref p), some (.int (b1 : Int)), some (.int (a1 : Int)), some (.int (s1 : Int)), e1, e2, e3, e4] ∧ bl b1 ≤ fu ∧ red fu k (b1, a1, s1) = red (bl b) k (b, a, s))
      (fun σ _ => match σ with | _ :: some (.int n) :: _ => bl n.toNat | _ => 0) ⟨rfl, bl b, b, a, s, none, none, none, none, rfl, Nat.le_refl _, rfl⟩ ?_ (fun σ H Q Q' hm h => ?_)
    · rintro σ H' ⟨rfl, fu, b1, a1, s1, e1, e2, e3, e4, rfl, h1, h2⟩
      -- what the loop leaves
      have fin : ∀ (f1 f2 f3 f4 : Option V), red fu k (b1, a1, s1) = (b1, a1, s1) → tRet (tTup (tCons (tVar 1) (tCons (tVar 2) (tCons (tVar 3) tNil)))) { nx := fun _ H' => Q .non H', rt := Q } [some (.ref p), some (.int (b1 : Int)), some (.int (a1 : Int)), some (.int (s1 : Int)), f1, f2, f3, f4] H' := fun f1 f2 f3 f4 hf => by
        walk_at "go"
        refine ⟨(by show 3 ≤ sizeLine; decide), fun y hy => ?_⟩
        have z := q y hy
        rw [← h2, hf] at z
        exact z
      walk_at "go"
      by_cases hb : b1 = 0
      · subst hb
        refine iteF ?_
        exact fin _ _ _ _ (red_zero _ _ _ _)
      · rw [decide_eq_false hb]
        refine iteT ?_
        walk_at "go"
        refine ⟨p, C, dx, _, _, rfl, hS.obj, R.cl, R.nK, rf_kept _ _, d, _, rfl, DGet.k (k := Sum.inl ((bl b1 : Nat) : Int)) hd, _, rfl, ?_⟩
        cases hl : look k (bl b1) with
        | none =>
          rw [hR.look.2 hl]
          exact fin _ _ _ _ (red_stop hl)
        | some r =>
          obtain ⟨o, n, mm⟩ := r
          obtain ⟨t, ht1, ht2⟩ := hR.look.1 _ hl
          obtain ⟨g1, g2, g3, g4⟩ := F.row _ (look_some hl)
          dsimp only at g1 g2 g3 g4 ht2
          rw [ht1]
          have hlt : bl (b1 ^^^ o) < bl b1 := bl_xor hb g1.symm
          have hfu : ∃ f', fu = f' + 1 := ⟨fu - 1, by have := bl_pos hb; omega⟩
          obtain ⟨f', rfl⟩ := hfu
          rw [red_go hb hl] at h2
          have hg := DGet.k (k := Sum.inl ((bl b1 : Nat) : Int)) hd
          rw [ht1] at hg
          refine iteF ?_
          refine ⟨_, rfl, p, C, dx, _, _, rfl, hS.obj, R.cl, R.nK, rf_kept _ _, ?_⟩
          walk_at "go"
          refine ⟨d, _, rfl, hg, t, _, rfl, SqT.of ht2, rfl, ?_⟩
          walk_at "go"
          refine ⟨⟨rfl, f', b1 ^^^ o, a1 ^^^ n, s1 ^^^ mm, _, _, _, _, rfl, by omega, h2⟩, ?_⟩
          show bl (((b1 ^^^ o : Nat) : Int)).toNat < bl ((b1 : Nat) : Int).toNat
          rw [Int.toNat_natCast, Int.toNat_natCast]
          exact hlt
    · obtain ⟨v, h1, n, e, z⟩ := h
      exact ⟨v, h1, n, e, hm _ _ z⟩
def spPutRow (C : Addr) : Sp := fun vs H Q _ => ∃ (p dx d : Addr) (m : Nat) (k : KRows) (b a : Nat), vs = [.ref p, .int (b : Int), .int (a : Int)] ∧ RSAt C p dx d H m k ∧ KFine k ∧ k.length < 60 ∧ m ≤ 1000 ∧
  (∀ b' a' s', red (bl b) k (b, a, 2 ^ m) = (b', a', s') → b' = 0 → ∀ q H', RSAt C p dx d H' (m + 1) k → Same (hid [p, d] H) (hid [p, d] H') → H q = none → H' q = some (.tup [.int (a' : Int), .int (s' : Int)]) → Q (.ref q) H') ∧
  (∀ b' a' s', red (bl b) k (b, a, 2 ^ m) = (b', a', s') → b' ≠ 0 → ∀ H', (look k (bl b') = none → RSAt C p dx d H' (m + 1) (k ++ [(bl b', (b', a', s'))])) → Same (hid [p, d] H) (hid [p, d] H') → Q .non H')
abbrev sc_RowSpace_put_row_N : List PySem.Str := ["self", "bits", "asked", "sources"]
theorem sc_RowSpace_put_row : FnScope sc_RowSpace_put_row_N ["self", "bits", "asked"] (defScope (inClass (topS 6) 2)) := ⟨rfl, rfl, rfl, by decide +kernel, rfl, by decide +kernel, by decide +kernel⟩
theorem hid2 {p d : Addr} {H : Hp} {a : Addr} {o : HO} (h : H a = some o) (h1 : a ≠ p) (h2 : a ≠ d) : hid [p, d] H a = some o := hid_some.mpr ⟨by simp [h1, h2], h⟩
theorem ok_put_row {C : Addr} (R : RSC K C) (D : MetAt K C "put_row" "RowSpace.put_row" (inClass (topS 6) 2) ["self", "bits", "asked"]) (D_RowSpace_reduced : Met P w K mg base 1 C "reduced" (spReduced C)) : Met P w K mg base 2 C "put_row" (spPutRow C) := by
  refine met_of D sc_RowSpace_put_row (fun vs H Q E h => ?_) (fun f cdv A outer s H vs Q E hr h => ?_)
  · obtain ⟨p, dx, d, m, k, b, a, rfl, _⟩ := h
    rfl
  · obtain ⟨p, dx, d, m, k, b, a, rfl, hS, F, hlen, hm, q1, q2⟩ := h
    refine ⟨_, (pss_cons (ps_asg (Own.pe_mt D_RowSpace_reduced hr (by decide) (pv 0) (pa_cons (pv 1) (pa_cons (pv 2) (pa_cons (pe_op Own.on_shl pe_int (pe_fld (pv 0) rfl)) pa_nil)))) (pg_tup rfl (pgs_cons (pg_name (i := 1) sc_RowSpace_put_row.nd rfl (Or.inl rfl)) (pgs_cons (pg_name (i := 2) sc_RowSpace_put_row.nd rfl (Or.inl rfl)) (pgs_cons (pg_name (i := 3) sc_RowSpace_put_row.nd rfl (Or.inl rfl)) pgs_nil)))))
  (pss_cons (ps_fldaug (pv 0) pe_int L2.in_add)
  (pss_cons (ps_if (pt_cmpR Own.oc_eq (pv 1) pe_int (nomark _))
   (pss_one (ps_ret (pe_tup (pa_cons (pv 2) (pa_cons (pv 3) pa_nil)))))
   pss_nil)
  (pss_cons (ps_dput (hu_of hr) (pe_fld (pv 0) rfl) (Own.pe_bitsN (pv 1)) (pe_tup (pa_cons (pv 1) (pa_cons (pv 2) (pa_cons (pv 3) pa_nil)))) rfl)
  (pss_one (ps_ret pe_non)))))), ?_⟩
    walk_at "go"
    refine ⟨p, dx, _, rfl, hS.obj, rf_no _ _ (by decide +kernel) (by decide +kernel), ?_⟩
    walk_at "go"
    refine ⟨p, C, dx, _, _, rfl, hS.obj, R.cl, R.nM, rf_many _ _, ?_⟩
    walk_at "go"
    rw [show (fun n k => n * 2 ^ k) 1 m = 2 ^ m from Nat.one_mul _]
    refine ⟨p, dx, d, m, k, b, a, 2 ^ m, rfl, hS, F, fun q hq => ?_⟩
    rcases e : red (bl b) k (b, a, 2 ^ m) with ⟨b', a', s'⟩
    dsimp only
    have hpq : p ≠ q := ne_of_none hS.obj hq
    refine ⟨q, _, rfl, SqT.of upd_same, rfl, ?_⟩
    walk_at "go"
    refine ⟨p, C, dx, _, _, rfl, (by rw [upd_ne hpq]; exact hS.obj), R.cl, R.nM, rf_many _ _, ?_⟩
    walk_at "go"
    refine ⟨dx, _, (by rw [upd_ne hpq]; exact hS.obj), (by show 2 < 1000; decide), ?_⟩
    rw [show putF (Str.ofString "many") (V.int ((m : Int) + 1)) (rf d m) = rf d (m + 1) from rf_put d m (m + 1)]
    obtain ⟨kvs, hd, hR⟩ := hS.kept
    have hdp : d ≠ p := ne_of hd hS.obj (by intro z; cases z)
    have hdq : d ≠ q := ne_of_none hd hq
    generalize hH2 : upd (upd H q (.tup [.int (b' : Int), .int (a' : Int), .int (s' : Int)])) p (.ins C dx (rf d (m + 1))) = H2
    have o2 : H2 p = some (.ins C dx (rf d (m + 1))) := by rw [← hH2]; exact upd_same
    have d2 : H2 d = some (.dK kvs) := by rw [← hH2, upd_ne hdp, upd_ne hdq]; exact hd
    have oth : ∀ x o, x ≠ p → H x = some o → H2 x = some o := fun x o h1 h2 => by
      rw [← hH2, upd_ne h1, upd_ne (ne_of_none h2 hq)]
      exact h2
    have tup : ∀ x xs, H x = some (.tup xs) → H2 x = some (.tup xs) := fun x xs h => oth x _ (ne_of h hS.obj (by intro z; cases z)) h
    walk_at "go"
    refine ite2 (fun hc => ?_) (fun hc => ?_)
    · have hb : b' = 0 := of_decide_eq_true hc
      walk_at "go"
      refine ⟨(by show 2 ≤ sizeLine; decide), fun t2 ht2 => ?_⟩
      refine q1 b' a' s' e hb t2 _ ⟨by rw [upd_ne (ne_of_none o2 ht2)]; exact o2, kvs, by rw [upd_ne (ne_of_none d2 ht2)]; exact d2, hR.imp fun t xs h => ?_⟩ (fun x o h => ?_) ?_ upd_same
      · obtain ⟨z1, z2⟩ := hid_some.mp h
        refine hid_some.mpr ⟨z1, ?_⟩
        have z3 := tup _ _ z2
        rw [upd_ne (ne_of_none z3 ht2)]
        exact z3
      · obtain ⟨z1, z2⟩ := hid_some.mp h
        have z3 := oth x o (fun w => z1 (by simp [w])) z2
        exact hid_some.mpr ⟨z1, by rw [upd_ne (ne_of_none z3 ht2)]; exact z3⟩
      · cases z : H t2 with
        | none => rfl
        | some o =>
          have : H2 t2 = some o := oth t2 o (fun w => by rw [w, o2] at ht2; cases ht2) z
          rw [this] at ht2
          cases ht2
    · have hb : b' ≠ 0 := fun z => hc (decide_eq_true z)
      walk_at "go"
      refine ⟨(by show 3 ≤ sizeLine; decide), fun t2 ht2 => ?_⟩
      have o3 : upd H2 t2 (.tup [.int (b' : Int), .int (a' : Int), .int (s' : Int)]) p = some (.ins C dx (rf d (m + 1))) := by rw [upd_ne (ne_of_none o2 ht2)]; exact o2
      have d3 : upd H2 t2 (.tup [.int (b' : Int), .int (a' : Int), .int (s' : Int)]) d = some (.dK kvs) := by rw [upd_ne (ne_of_none d2 ht2)]; exact d2
      have t3 : upd H2 t2 (.tup [.int (b' : Int), .int (a' : Int), .int (s' : Int)]) t2 = some (.tup [.int (b' : Int), .int (a' : Int), .int (s' : Int)]) := upd_same
      have oth3 : ∀ x o, x ≠ p → H x = some o → upd H2 t2 (.tup [.int (b' : Int), .int (a' : Int), .int (s' : Int)]) x = some o := fun x o h1 h2 => by
        have z := oth x o h1 h2
        rw [upd_ne (ne_of_none z ht2)]
        exact z
      generalize upd H2 t2 (.tup [.int (b' : Int), .int (a' : Int), .int (s' : Int)]) = H3 at o3 d3 t3 oth3
      refine ⟨_, rfl, p, C, dx, _, _, rfl, o3, R.cl, R.nK, rf_kept _ _, ?_⟩
      walk_at "go"
      refine ⟨d, _, rfl, DPut.k (k := Sum.inl ((bl b' : Nat) : Int)) d3 (by have z := hR.length; rw [sizeLine_eq]; omega), ?_⟩
      refine q2 b' a' s' e hb _ (fun hl => ⟨by rw [upd_ne hdp.symm]; exact o3, _, upd_same, ?_⟩) (fun x o h => ?_)
      · have hn : valV kvs (Sum.inl ((bl b' : Nat) : Int)) = none := (hR.same hid_sub).look.2 hl
        rw [putK_new _ hn, hid_one_upd]
        have htd : t2 ≠ d := ne_of t3 d3 (by intro z; cases z)
        refine KRel.snoc (hid_some.mpr ⟨by simp [htd], t3⟩) (hR.imp fun t xs h => ?_)
        obtain ⟨z1, z2⟩ := hid_some.mp h
        exact hid_some.mpr ⟨z1, oth3 _ _ (ne_of z2 hS.obj (by intro z; cases z)) z2⟩
      · obtain ⟨z1, z2⟩ := hid_some.mp h
        have n1 : x ≠ p := fun w => z1 (by simp [w])
        have n2 : x ≠ d := fun w => z1 (by simp [w])
        exact hid_some.mpr ⟨z1, by rw [upd_ne n2]; exact oth3 x o n1 z2⟩
end
end Cl

namespace Cl
local macro_rules | `(tactic| walk_at "go") => `(tactic| repeat (first | (refine ⟨_, rfl, ?_⟩) | (refine ⟨_, _, rfl, rfl, ?_⟩) | (refine ⟨_, rfl, rfl, ?_⟩) | (refine ⟨_, _, rfl, ?_⟩) | (refine And.intro (by first | with_reducible rfl | rfl | omega | decide | assumption | (dsimp only; first | omega | decide | assumption)) ?_)))
open PySem L2 Own Bits
section
variable {P : Program} {w : World} {K : PySem.W.Frag} {mg : PySem.Str → Option Value} {base : Heap}

/-! ### the rows as they are handed in -/
abbrev LRow := List PySem.Str × Nat
inductive RowsAt (K : PySem.W.Frag) (H : Hp) : List V → List LRow → Prop
  | nil : RowsAt K H [] []
  | cons {t b : Addr} {l : List PySem.Str} {n : Nat} {vs : List V} {R : List LRow} (ht : SqT K H t [.ref b, .int (n : Int)]) (hb : Sq K H b (l.map V.str)) (r : RowsAt K H vs R) : RowsAt K H (.ref t :: vs) ((l, n) :: R)
theorem RowsAt.same {H H' : Hp} (e : Same H H') : ∀ {vs : List V} {R : List LRow}, RowsAt K H vs R → RowsAt K H' vs R
  | _, _, .nil => .nil
  | _, _, .cons h g r => .cons (Own.Same.tupq e h) (g.same e) (r.same e)
theorem RowsAt.len {H : Hp} : ∀ {vs : List V} {R : List LRow}, RowsAt K H vs R → vs.length = R.length
  | _, _, .nil => rfl
  | _, _, .cons _ _ r => by rw [List.length_cons, List.length_cons, r.len]
theorem RowsAt.get {H : Hp} : ∀ {vs : List V} {R : List LRow} {i : Nat} {x : V}, RowsAt K H vs R → vs[i]? = some x → ∃ (t b : Addr) (l : List PySem.Str) (n : Nat), R[i]? = some (l, n) ∧ x = .ref t ∧ SqT K H t [.ref b, .int (n : Int)] ∧ Sq K H b (l.map V.str)
  | _, _, 0, x, .cons h g _, e => by
    have e' := Option.some.inj e
    subst e'
    exact ⟨_, _, _, _, rfl, rfl, h, g⟩
  | _, _, i + 1, x, .cons _ _ r, e => RowsAt.get (i := i) (x := x) r e

/-! ### the rows as numbers -/
def Rb (ns : List PySem.Str) (R : List LRow) : List (Nat × Nat) := R.map fun p => (maskS ns p.1, p.2)
def selS (ns : List PySem.Str) (l : List Nat) : List PySem.Str := l.filterMap fun i => ns[i]?
def eithV (ns : List PySem.Str) (R : List LRow) : PySem.Str × List V := match putAll (Rb ns R) 0 [] with
  | .inl s => ("none", natsV (places s))
  | .inr k => ("some", (selS ns (places (solveM k))).map V.str)
def EithAt (H : Hp) (q : Addr) (v : PySem.Str × List V) : Prop := ∃ t, H q = some (.tup [.str v.1, .ref t]) ∧ H t = some (.tup v.2)
theorem xsum_lt {n : Nat} : ∀ {l : List Nat}, (∀ x ∈ l, x < 2 ^ n) → xsum l < 2 ^ n
  | [], _ => Nat.two_pow_pos n
  | x :: l, h => by rw [xsum_cons]; exact Nat.xor_lt_two_pow (h x List.mem_cons_self) (xsum_lt fun y hy => h y (List.mem_cons_of_mem _ hy))
theorem ixS_lt {ns : List PySem.Str} {z : PySem.Str} (h : z ∈ ns) : ixS ns z < ns.length := List.findIdx_lt_length_of_exists ⟨z, h, decide_eq_true rfl⟩
theorem ixS_get {ns : List PySem.Str} {z : PySem.Str} (h : z ∈ ns) : ns[ixS ns z]? = some z := by
  have h1 := ixS_lt h
  rw [List.getElem?_eq_getElem h1]
  have h2 := List.findIdx_getElem (p := fun y => decide (y = z)) (xs := ns) (w := h1)
  exact congrArg some (of_decide_eq_true h2)
theorem ixS_of {ns : List PySem.Str} (nd : ns.Nodup) {i : Nat} {z : PySem.Str} (h : ns[i]? = some z) : ixS ns z = i := by
  have h1 := ixS_get (List.mem_of_getElem? h)
  have hi : i < ns.length := (List.getElem?_eq_some_iff.mp h).1
  exact (List.getElem?_inj (ixS_lt (List.mem_of_getElem? h)) nd).mp (h1.trans h.symm)
theorem maskS_lt {ns items : List PySem.Str} (h : ∀ z ∈ items, z ∈ ns) : maskS ns items < 2 ^ ns.length := by
  unfold maskS
  refine xsum_lt fun x hx => ?_
  obtain ⟨z, hz, rfl⟩ := List.mem_map.mp hx
  exact Nat.pow_lt_pow_right (by decide) (ixS_lt (h z hz))
theorem sel_lt {f : Nat → Nat} {n s : Nat} : ∀ {m : Nat}, (∀ i, i < m → f i < 2 ^ n) → sel f s m < 2 ^ n
  | 0, _ => Nat.two_pow_pos n
  | m + 1, h => by
    unfold sel
    have ih := sel_lt (f := f) (n := n) (s := s) (m := m) fun i hi => h i (Nat.lt_succ_of_lt hi)
    have h2 := h m (Nat.lt_succ_self m)
    split
    · exact Nat.xor_lt_two_pow ih h2
    · first | exact ih | (rw [Nat.xor_zero]; exact ih)
theorem kfine_of {B A : Nat → Nat} {m : Nat} {k : KRows} {n : Nat} (hn : n ≤ 60) (h : KOk B A m k) (hB : ∀ i, i < m → B i < 2 ^ n) (hl : k.length ≤ 60) : KFine k ∧ ∀ p ∈ k, p.1 ≤ n := by
  have z : ∀ p ∈ k, p.1 ≤ n := fun p hp => by
    obtain ⟨h1, h2, h3, h4, h5, h6⟩ := h.row p hp
    rw [h1, ← h5]
    exact bl_le (sel_lt hB)
  exact ⟨⟨h.nd, fun p hp => ⟨(h.row p hp).1, (h.row p hp).2.1, Nat.le_trans (z p hp) hn, (h.row p hp).2.2.1⟩, hl⟩, z⟩
theorem putAll_cons {b a m : Nat} {R : List (Nat × Nat)} {k : KRows} {b' a' s' : Nat} (hr : red (bl b) k (b, a, 2 ^ m) = (b', a', s')) :
    putAll ((b, a) :: R) m k = if b' = 0 then (if a' = 1 then .inl s' else putAll R (m + 1) k) else putAll R (m + 1) (k ++ [(bl b', (b', a', s'))]) := by
  conv => lhs; unfold putAll
  rw [hr]
theorem kok_nil {B A : Nat → Nat} : KOk B A 0 [] := ⟨List.nodup_nil, (fun p hp => by cases hp), fun c _ i hi => by omega⟩

/-! ### either -/
def spEither (K : PySem.W.Frag) : Sp := fun vs H Q _ => ∃ (a : Addr) (xs : List V) (R : List LRow) (ns : List PySem.Str), vs = [.ref a] ∧ Sq K H a xs ∧ RowsAt K H xs R ∧ R.length ≤ 55 ∧ (∀ p ∈ R, p.2 < 2) ∧ ns.length ≤ 55 ∧ Asc ns ∧ (∀ z, z ∈ ns ↔ ∃ p ∈ R, z ∈ p.1) ∧
  ∀ q H', Same H H' → H q = none → EithAt H' q (eithV ns R) → Q (.ref q) H'
abbrev sc_either_N : List PySem.Str := ["rows", "names", "listed", "_", "name", "bit_of", "at", "space", "number", "fallen"]
theorem sc_either : FnScope sc_either_N ["rows"] (defScope (topS 8)) := ⟨rfl, rfl, rfl, by decide +kernel, rfl, by decide +kernel, by decide +kernel⟩
theorem ok_either {C : Addr} (T : Blt mg) (RC : RSC K C) (D : DefAt K mg "either" (topS 8) ["rows"]) (D_RowSpace : Mak P w K mg base 1 "RowSpace" C (spInit C)) (D_RowSpace_put_row : Met P w K mg base 2 C "put_row" (spPutRow C))
    (D_bit_sum : Cal P w K mg base 1 "bit_sum" (spBitSum K)) (D_bit_places : Cal P w K mg base 1 "bit_places" spBitPlaces) (D_solve_rows : Cal P w K mg base 2 "solve_rows" spSolve) : Cal P w K mg base 3 "either" (spEither K) := by
  refine cal_of D sc_either (fun vs H Q E h => ?_) (fun f cdv A outer s H vs Q E hr h => ?_)
  · obtain ⟨a, xs, R, ns, rfl, _⟩ := h
    rfl
  · obtain ⟨a, xs, R, ns, rfl, hs, hR, hRl, hbit, hnl, hA, hns, q⟩ := h
    refine ⟨_, (pss_cons (ps_set (i := 1) sc_either.nd rfl (Or.inr rfl) (pe_callB (Own.cr_sortedKS rfl) (by rfl) T.sorted (by decide +kernel) (pa_cons (Own.pe_sc2 (own := [("listed", 2), ("_", 3), ("name", 4)]) (vs1 := [4]) (g := (gTup K 2 (gCons (gName 2) (gCons (gName 3) gNil)))) rfl sc_either.nd (Own.pi_seqK (K := K) rfl (pv 0)) (blkOk_by (own := [("listed", 2), ("_", 3), ("name", 4)]) (N := sc_either_N) (sc := defScope (topS 8)) (by decide +kernel)) (by decide) (fun _ _ _ _ _ => (pg_tup rfl (pgs_cons (pg_name (i := 2) sc_either.nd rfl (Or.inl rfl)) (pgs_cons (pg_name (i := 3) sc_either.nd rfl (Or.inl rfl)) pgs_nil)))) (fun _ _ _ _ _ => pts_nil) (fun _ _ _ _ _ => (Own.pi_seqK (K := K) rfl (pv 2))) (fun _ _ _ _ _ => (pg_name (i := 4) sc_either.nd rfl (Or.inl rfl))) (fun _ _ _ _ _ => pts_nil) (fun _ _ _ _ _ => (pv 4))) pa_nil)))
  (pss_cons (Own.ps_setDc (i := 5) (own := [("at", 6), ("name", 4)]) (g := (gTup K 2 (gCons (gName 6) (gCons (gName 4) gNil)))) rfl sc_either.nd rfl rfl (Own.sw_dict rfl rfl rfl (by decide +kernel)) (pi_enum (by rfl) T.enumerate (pa_cons (pv 1) pa_nil)) (blkOk_by (own := [("at", 6), ("name", 4)]) (N := sc_either_N) (sc := defScope (topS 8)) (by decide +kernel)) (fun _ _ _ _ _ => (pg_tup rfl (pgs_cons (pg_name (i := 6) sc_either.nd rfl (Or.inl rfl)) (pgs_cons (pg_name (i := 4) sc_either.nd rfl (Or.inl rfl)) pgs_nil)))) (fun _ _ _ _ _ => pts_nil) (fun _ _ _ _ _ => (pv 4)) (fun _ _ _ _ _ => (pe_op Own.on_shl pe_int (pv 6))))
  (pss_cons (ps_set (i := 7) sc_either.nd rfl (Or.inl rfl) (Own.pe_mk0 D_RowSpace hr (by decide) rfl))
  (pss_cons (ps_for PassesOwn.never rfl (Own.pi_seqK (K := K) rfl (pv 0)) (pg_tup rfl (pgs_cons (pg_name (i := 2) sc_either.nd rfl (Or.inl rfl)) (pgs_cons (pg_name (i := 8) sc_either.nd rfl (Or.inl rfl)) pgs_nil)))
   (pss_cons (ps_set (i := 9) sc_either.nd rfl (Or.inl rfl) (Own.pe_mt D_RowSpace_put_row hr (by decide) (pv 7) (pa_cons (Own.pe_c D_bit_sum hr (by decide) rfl (pa_cons (pv 5) (pa_cons (pv 2) pa_nil))) (pa_cons (pv 8) pa_nil))))
  (pss_one (ps_if (PW.pt (pw_and (pt_cmpR op_notN (pv 9) pe_non (nomark _)) (pw_and1 (pt_cmpR Own.oc_eq (pe_ix (Own.ixT (K := K) rfl) (pv 9) pe_int (fun _ _ => rfl)) pe_int (nomark _)))))
   (pss_one (ps_ret (pe_tup (pa_cons pe_str (pa_cons (pe_callTy (Own.tupleK (K := K) rfl) (by rfl) T.tuple (by decide +kernel) (pa_cons (Own.pe_c D_bit_places hr (by decide) rfl (pa_cons (pe_ix (Own.ixT (K := K) rfl) (pv 9) pe_int (fun _ _ => rfl)) pa_nil)) pa_nil)) pa_nil)))))
   pss_nil))))
  (pss_one (ps_ret (pe_tup (pa_cons pe_str (pa_cons (pe_callTy (Own.tupleK (K := K) rfl) (by rfl) T.tuple (by decide +kernel) (pa_cons (pe_lc (own := [("at", 6)]) (g := (gName 6)) rfl sc_either.nd (Own.pi_listK (K := K) rfl (Own.pe_c D_bit_places hr (by decide) rfl (pa_cons (Own.pe_c D_solve_rows hr (by decide) rfl (pa_cons (pe_fld (pv 7) rfl) pa_nil)) pa_nil))) (blkOk_by (own := [("at", 6)]) (N := sc_either_N) (sc := defScope (topS 8)) (by decide +kernel)) (fun _ _ _ _ _ => (pg_name (i := 6) sc_either.nd rfl (Or.inl rfl))) (fun _ _ _ _ _ => pts_nil) (fun _ _ _ _ _ => (pe_ix (Own.ixL (K := K) rfl) (pv 1) (pv 6) (fun _ _ => rfl)))) pa_nil)) pa_nil))))))))), ?_⟩
    -- the set of the names
    refine seq_goS (a := a) (xs := xs) (fun Q q => ⟨_, rfl, q⟩) hs (Same.refl _) fun J wk => ?_
    intro D0 hD0
    have rows : ∀ {i : Nat} {x : V}, xs[i]? = some x → ∃ (t b : Addr) (l : List PySem.Str) (n : Nat), R[i]? = some (l, n) ∧ x = .ref t ∧ SqT K H t [.ref b, .int (n : Int)] ∧ Sq K H b (l.map V.str) := fun hx => hR.get hx
    refine walk_by wk (fun i H' => ∃ zs : List PySem.Str, H' = upd H D0 (KSetO w D0 (zs.map Sum.inr)) ∧ zs.Nodup ∧ ∀ z, z ∈ zs ↔ ∃ p ∈ R.take i, z ∈ p.1) ⟨[], rfl, List.nodup_nil, fun z => by simp⟩
      (fun i H' _ ⟨zs, e, _⟩ => by rw [e]; exact Same.upd_new hD0) ?_ ?_
    · rintro i x H' H'' hi ⟨zs, rfl, nd, hz⟩ ⟨rfl, hx⟩
      obtain ⟨t, b, l, n, hRi, rfl, ht, hb⟩ := rows hx
      refine ⟨t, _, rfl, Own.Same.tupq (Same.upd_new hD0) ht, rfl, ?_⟩
      walk_at "go"
      have hsub : ∀ z, (∃ p ∈ R.take i, z ∈ p.1) ∨ z ∈ l → z ∈ ns := fun z h => (hns z).mpr (by
        rcases h with ⟨p, hp, hz⟩ | h
        · exact ⟨p, List.mem_of_mem_take hp, hz⟩
        · exact ⟨(l, n), List.mem_of_getElem? hRi, h⟩)
      refine seq_goS (a := b) (xs := l.map V.str) (fun Q q => ⟨_, rfl, q⟩) hb (Same.upd_new hD0) fun J1 wk1 => ?_
      refine walk_by wk1 (fun j H' => ∃ zs : List PySem.Str, H' = upd H D0 (KSetO w D0 (zs.map Sum.inr)) ∧ zs.Nodup ∧ ∀ z, z ∈ zs ↔ (∃ p ∈ R.take i, z ∈ p.1) ∨ z ∈ l.take j) ⟨zs, rfl, nd, fun z => by rw [hz z]; simp⟩
        (fun j H' _ ⟨zs', e, _⟩ => by rw [e]; exact Same.upd_new hD0) ?_ ?_
      · rintro j y H' H'' hj ⟨zs, rfl, nd, hz⟩ ⟨rfl, hy⟩
        rw [List.getElem?_map] at hy
        cases e : l[j]? with
        | none => rw [e] at hy; cases hy
        | some z =>
          rw [e] at hy
          obtain rfl : V.str z = y := Option.some.inj hy
          walk_at "go"
          have hlen : zs.length ≤ ns.length := nodup_len nd fun z h => hsub z (((hz z).mp h).imp id List.mem_of_mem_take)
          refine ⟨Sum.inr z, zs.map Sum.inr, rfl, upd_same, (by rw [List.length_map]; have z : (60 : Nat) < scanBound := (by decide +kernel); omega), addS zs z, (by rw [upd_upd, addK_map]; rfl), addS_nd nd, fun y => ?_⟩
          rw [addS_mem, hz y, List.take_add_one, e, Option.toList, List.mem_append, List.mem_singleton, or_assoc]
      · rintro H' ⟨zs, rfl, nd, hz⟩
        refine ⟨zs, rfl, nd, fun z => ?_⟩
        rw [hz z, List.length_map, List.take_length, List.take_add_one, hRi, Option.toList]
        constructor
        · rintro (⟨p, hp, h⟩ | h)
          · exact ⟨p, List.mem_append_left _ hp, h⟩
          · exact ⟨(l, n), List.mem_append_right _ (List.mem_singleton.mpr rfl), h⟩
        · rintro ⟨p, hp, h⟩
          rcases List.mem_append.mp hp with hp | hp
          · exact .inl ⟨p, hp, h⟩
          · rw [List.mem_singleton.mp hp] at h
            exact .inr h
    · rintro H' ⟨zs, rfl, nd, hz⟩
      walk_at "go"
      have hzs : ∀ z, z ∈ zs ↔ z ∈ ns := fun z => by rw [hz z, hR.len, List.take_length, hns z]
      refine ⟨D0, zs, rfl, upd_same, (by have := nodup_len nd fun z h => (hzs z).mp h; omega), fun ys p hys hso hp => ?_⟩
      have hyn : ys = ns := Asc.ext ⟨sortedS_pw hso, hys.nodup_iff.mpr nd⟩ hA fun z => by rw [hys.mem_iff, hzs z]
      subst hyn
      have hpH : H p = none := by
        cases e : H p with
        | none => rfl
        | some o => rw [upd_ne (ne_of_none e hD0), e] at hp; cases hp
      have S1 : Same H (upd (upd H D0 (KSetO w D0 (zs.map Sum.inr))) p (.lst (ys.map V.str))) := (Same.upd_new hD0).trans (Same.upd_new hp)
      have P1 : upd (upd H D0 (KSetO w D0 (zs.map Sum.inr))) p (.lst (ys.map V.str)) p = some (.lst (ys.map V.str)) := upd_same
      generalize upd (upd H D0 (KSetO w D0 (zs.map Sum.inr))) p (.lst (ys.map V.str)) = H1 at S1 P1
      walk_at "go"
      refine ⟨p, ys.map V.str, rfl, SqL.of P1, fun e0 he0 => ?_⟩
      have hye : ∀ {H' : Hp}, Same H1 H' → SqL K H' p (ys.map V.str) := fun e => SqL.of (e _ _ P1)
      refine dc_it walk_enum (fun i H' => ∃ kvs : List (Key × V), H' e0 = some (.dK kvs) ∧ kvs.length ≤ i ∧ Same H1 H' ∧ ∀ j z, j < i → ys[j]? = some z → valV kvs (Sum.inr z) = some (.int ((2 ^ j : Nat) : Int)))
        ⟨[], upd_same, Nat.le_refl _, Same.upd_new he0, fun j z hj => by omega⟩ (fun i H' _ ⟨_, _, _, e, _⟩ => hye e) ?_ ?_
      · rintro i x H' H'' hi ⟨kvs, h1, h2, h3, h4⟩ ⟨t, x1, x2, rfl, ht, rfl, e1, e2⟩
        obtain rfl := Option.some.inj e1
        have hi' : i < ys.length := by rw [List.length_map] at hi; exact hi
        replace e2 : (ys.map V.str)[i]? = some x2 := e2
        rw [List.getElem?_map, List.getElem?_eq_getElem hi'] at e2
        obtain rfl := Option.some.inj e2
        have hte : t ≠ e0 := fun z => by rw [z, h1] at ht; cases ht
        refine ⟨t, _, rfl, SqT.of upd_same, rfl, ?_⟩
        walk_at "go"
        have h5 : upd H' t (.tup [.int (i : Nat), .str ys[i]]) e0 = some (.dK kvs) := by rw [upd_ne hte.symm]; exact h1
        refine ⟨kvs, Sum.inr ys[i], rfl, h5, (by rw [sizeLine_eq]; omega), _, upd_same, Nat.le_trans (length_putK kvs _ _) (Nat.succ_le_succ h2), ?_, fun j z hj hz => ?_⟩
        · exact same_upd_r (same_upd_r h3 (by
            cases e : H1 t with
            | none => rfl
            | some o => rw [h3 _ _ e] at ht; cases ht)) he0
        · rw [valV_put]
          by_cases hji : j = i
          · subst hji
            rw [List.getElem?_eq_getElem hi'] at hz
            rw [if_pos (by rw [Option.some.inj hz])]
            show some (V.int ((1 * 2 ^ j : Nat) : Int)) = _
            rw [Nat.one_mul]
          · rw [if_neg fun z' => hji ?_]
            · exact h4 j z (by omega) hz
            · have e3 : ys[i]? = some z := by rw [List.getElem?_eq_getElem hi', Sum.inr.inj z']
              exact ((List.getElem?_inj hi' hA.nd).mp (e3.trans hz.symm)).symm
      · rintro H' ⟨kvs, h1, h2, h3, h4⟩
        have hb : BitsAt H' e0 ys := ⟨kvs, h1, fun z hz => h4 _ z (by rw [List.length_map]; exact ixS_lt hz) (ixS_get hz)⟩
        have SH : Same H H' := S1.trans h3
        have PH := h3 _ _ P1
        clear h4 h2 h1 h3 S1 P1 he0 hye hpH hp
        walk_at "go"
        intro x dx hx hdx hne
        refine ⟨x, dx, rfl, upd_same, fun d hd => ⟨rfl, ?_⟩⟩
        have hxH : H' x = none := by
          cases e : H' x with
          | none => rfl
          | some o => have z := hx; rw [e] at z; cases z
        have hdxH : H' dx = none := hdx
        have hdH : H' d = none := by
          cases e : H' d with
          | none => rfl
          | some o => rw [upd_ne (ne_of_none e hxH), upd_ne (ne_of_none e hdxH), e] at hd; cases hd
        have hdx' : d ≠ x := fun z => by rw [z, upd_same] at hd; cases hd
        have S2 : Same H' (upd (upd (upd (upd H' dx (.own x)) x (.ins C dx [])) d (.dK [])) x (.ins C dx (rf d 0))) :=
          same_upd_r (same_upd_r (same_upd_r (same_upd_r (Same.refl _) hdxH) hxH) hdH) hxH
        have R2 : RSAt C x dx d (upd (upd (upd (upd H' dx (.own x)) x (.ins C dx [])) d (.dK [])) x (.ins C dx (rf d 0))) 0 [] := ⟨upd_same, [], (by rw [upd_ne hdx']; exact upd_same), .nil⟩
        generalize upd (upd (upd (upd H' dx (.own x)) x (.ins C dx [])) d (.dK [])) x (.ins C dx (rf d 0)) = H2 at S2 R2
        have S2' : Same H' (hid [x, d] H2) := fun c o h => hid_some.mpr ⟨by
          have n1 : c ≠ x := ne_of_none h hxH
          have n2 : c ≠ d := ne_of_none h hdH
          simp [n1, n2], S2 c o h⟩
        clear S2 hd hx hdx hne hdxH
        -- the rows
        obtain ⟨B, hB⟩ : ∃ B : Nat → Nat, ∀ i l n, R[i]? = some (l, n) → B i = maskS ys l := ⟨fun i => maskS ys (R.getD i ([], 0)).1, fun i l n e => by dsimp only; rw [List.getD_eq_getElem?_getD, e]; rfl⟩
        obtain ⟨A', hA'⟩ : ∃ A : Nat → Nat, ∀ i l n, R[i]? = some (l, n) → A i = n := ⟨fun i => (R.getD i ([], 0)).2, fun i l n e => by dsimp only; rw [List.getD_eq_getElem?_getD, e]; rfl⟩
        have hin : ∀ i l n, R[i]? = some (l, n) → ∀ z ∈ l, z ∈ ys := fun i l n e z hz => (hns z).mpr ⟨_, List.mem_of_getElem? e, hz⟩
        have hBl : ∀ i, i < R.length → B i < 2 ^ ys.length := fun i hi => by
          rw [hB i R[i].1 R[i].2 (List.getElem?_eq_getElem hi)]
          exact maskS_lt (hin i _ _ (List.getElem?_eq_getElem hi))
        walk_at "go"
        refine seq_goS (a := a) (xs := xs) (fun Q q => ⟨_, rfl, q⟩) hs (SH.trans (S2'.trans hid_sub)) fun J wk => for_it wk
          (fun i σ H3 => ∃ (k : KRows) (e2 e3 e4 e6 e8 e9 : Option V), σ = [some (.ref a), some (.ref p), e2, e3, e4, some (.ref e0), e6, some (.ref x), e8, e9] ∧ i ≤ R.length ∧ RSAt C x dx d H3 i k ∧ KOk B A' i k ∧ k.length ≤ i ∧ Same H' (hid [x, d] H3) ∧ putAll ((Rb ys R).drop i) i k = putAll (Rb ys R) 0 [])
          ⟨[], none, none, none, none, none, none, rfl, Nat.zero_le _, R2, kok_nil, Nat.le_refl _, S2', rfl⟩ (fun i σ H3 _ ⟨_, _, _, _, _, _, _, _, _, _, _, _, e, _⟩ => SH.trans (e.trans hid_sub)) ?_ ?_
        · rintro i r σ H3' H3 hi ⟨k, e2, e3, e4, e6, e8, e9, rfl, hiR, r1, r2, r3, r4, r5⟩ ⟨rfl, hr⟩
          obtain ⟨t, b, l, n, hRi, rfl, ht, hb2⟩ := rows hr
          have S3 : Same H H3 := SH.trans (r4.trans hid_sub)
          refine ⟨t, _, rfl, Own.Same.tupq S3 ht, rfl, ?_⟩
          walk_at "go"
          obtain ⟨kvs, hb3, hb4⟩ := hb
          refine ⟨x, dx, _, rfl, r1.obj, rf_no _ _ (by decide +kernel) (by decide +kernel), ?_⟩
          walk_at "go"
          refine ⟨e0, b, ys, l, rfl, ⟨kvs, r4.trans hid_sub _ _ hb3, hb4⟩, hb2.same S3, hin i l n hRi, ?_⟩
          walk_at "go"
          have hiR' : i < R.length := (List.getElem?_eq_some_iff.mp hRi).1
          have hAi : A' i < 2 := by rw [hA' i l n hRi]; exact hbit _ (List.mem_of_getElem? hRi)
          have KF := (kfine_of (by omega) r2 (fun j hj => hBl j (by omega)) (by omega)).1
          have hdr : (Rb ys R).drop i = (maskS ys l, n) :: (Rb ys R).drop (i + 1) := by
            have e : (Rb ys R)[i]? = some (maskS ys l, n) := by unfold Rb; rw [List.getElem?_map, hRi]; rfl
            obtain ⟨h1, h2⟩ := List.getElem?_eq_some_iff.mp e
            rw [List.drop_eq_getElem_cons h1, h2]
          have hput : ∀ b' a' s', red (bl (maskS ys l)) k (maskS ys l, n, 2 ^ i) = (b', a', s') → a' < 2 ∧ s' < 2 ^ (i + 1) ∧ (b' = 0 → a' = 0 → KOk B A' (i + 1) k) ∧ (b' ≠ 0 → KOk B A' (i + 1) (k ++ [(bl b', (b', a', s'))])) ∧
              (if b' = 0 then (if a' = 1 then .inl s' else putAll ((Rb ys R).drop (i + 1)) (i + 1) k) else putAll ((Rb ys R).drop (i + 1)) (i + 1) (k ++ [(bl b', (b', a', s'))])) = putAll (Rb ys R) 0 [] := fun b' a' s' e => by
            have e1 : red (bl (B i)) k (B i, A' i, 2 ^ i) = (b', a', s') := by rw [hB i l n hRi, hA' i l n hRi]; exact e
            obtain ⟨z1, z2, _, _, z5, z6⟩ := put_ok r2 hAi e1
            rw [hdr, putAll_cons e] at r5
            exact ⟨z1, z2, z5, z6, r5⟩
          refine ⟨x, dx, d, i, k, maskS ys l, n, rfl, r1, KF, by omega, by omega, fun b' a' s' hrd hb0 q5 H5 g1 g2 g3 g4 => ?_, fun b' a' s' hrd hb0 H5 g1 g2 => ?_⟩
          · obtain ⟨z1, z2, z3, z4, z5⟩ := hput b' a' s' hrd
            rw [if_pos hb0] at z5
            walk_at "go"
            refine ⟨q5, _, 0, _, rfl, rfl, SqT.of g4, rfl, ?_⟩
            walk_at "go"
            have S5 : Same H H5 := SH.trans ((r4.trans g2).trans hid_sub)
            refine ite2 (fun hc => ?_) (fun hc => ?_)
            · have ha1 : a' = 1 := of_decide_eq_true hc
              rw [if_pos ha1] at z5
              walk_at "go"
              refine ⟨q5, _, 1, _, rfl, rfl, SqT.of g4, rfl, ?_⟩
              walk_at "go"
              refine ⟨Nat.lt_trans z2 (Nat.pow_lt_pow_right (by decide) (by omega)), fun pl hpl => ?_⟩
              walk_at "go"
              refine ⟨pl, _, rfl, .inl ⟨SqL.of upd_same, fun tt htt => ?_⟩⟩
              walk_at "go"
              refine ⟨(by show 2 ≤ sizeLine; decide), fun rr hrr => ?_⟩
              have S6 := same_new (o := .tup (natsV (places s'))) (same_new (o := .lst (natsV (places s'))) S5 hpl) htt
              have htr : tt ≠ rr := fun z => by rw [← z, upd_same] at hrr; cases hrr
              refine q rr _ (same_new S6 hrr) (same_none S6 hrr) ⟨tt, ?_, ?_⟩
              · rw [upd_same]
                unfold eithV
                rw [← z5]
              · rw [upd_ne htr, upd_same]
                unfold eithV
                rw [← z5]
            · have ha0 : a' ≠ 1 := fun z => hc (decide_eq_true z)
              rw [if_neg ha0] at z5
              exact ⟨k, _, _, _, _, _, _, rfl, hiR', g1, z3 hb0 (by omega), by omega, r4.trans g2, z5⟩
          · obtain ⟨z1, z2, z3, z4, z5⟩ := hput b' a' s' hrd
            rw [if_neg hb0] at z5
            walk_at "go"
            have hln : look k (bl b') = none := by
              cases e : look k (bl b') with
              | none => rfl
              | some r =>
                have nd := (z4 hb0).nd
                rw [List.map_append, List.nodup_append] at nd
                exact absurd rfl (nd.2.2 _ (List.mem_map.mpr ⟨_, look_some e, rfl⟩) _ (List.mem_singleton.mpr rfl))
            exact ⟨k ++ [(bl b', (b', a', s'))], _, _, _, _, _, _, rfl, hiR', g1 hln, z4 hb0, (by rw [List.length_append, List.length_singleton]; omega), r4.trans g2, z5⟩
        · rintro σ H3 ⟨k, e2, e3, e4, e6, e8, e9, rfl, hiR, r1, r2, r3, r4, r5⟩
          have hxl : xs.length = R.length := hR.len
          rw [hxl] at r1 r2 r3 r5
          have hput : putAll (Rb ys R) 0 [] = .inr k := by
            rw [← r5, List.drop_eq_nil_of_le (by unfold Rb; rw [List.length_map]; exact Nat.le_refl _)]
            rfl
          obtain ⟨KF, hkn⟩ := kfine_of (by omega) r2 hBl (by omega)
          have hsol := (solve_ok r2.nd (n := ys.length) (by omega) fun p hp => ⟨(KF.row p hp).1, (KF.row p hp).2.1, hkn p hp⟩).1
          have S3 : Same H H3 := SH.trans (r4.trans hid_sub)
          walk_at "go"
          refine ⟨x, C, dx, _, _, rfl, r1.obj, RC.cl, RC.nK, rf_kept _ _, ?_⟩
          walk_at "go"
          refine ⟨d, k, rfl, r1.kept, KF, fun H4 S4 => ?_⟩
          walk_at "go"
          generalize hcc : solveM k = c at hsol ⊢
          refine ⟨Nat.lt_trans hsol (Nat.pow_lt_pow_right (by decide) (by omega)), fun pl hpl => ⟨pl, rfl, ⟨_, SqL.of upd_same⟩, fun D hD => ?_⟩⟩
          have SQ5 : upd H4 pl (.lst (natsV (places c))) pl = some (.lst (natsV (places c))) := upd_same
          have S5 : Same H (upd H4 pl (.lst (natsV (places c)))) := same_new (S3.trans S4) hpl
          have PH5 : upd H4 pl (.lst (natsV (places c))) p = some (.lst (ys.map V.str)) := Same.upd_new hpl _ _ (S4 _ _ (r4.trans hid_sub _ _ PH))
          generalize upd H4 pl (.lst (natsV (places c))) = H5 at SQ5 S5 PH5 hD
          have hpc : ∀ i ∈ places c, i < ys.length := fun i hi => by
            have h1 := mem_places.mp hi
            exact Nat.lt_of_not_le fun z => by
              rw [Nat.testBit_lt_two_pow (Nat.lt_of_lt_of_le hsol (Nat.pow_le_pow_right (by decide) z))] at h1
              cases h1
          refine lc_it walk_list (fun i Hc => Hc = upd H5 D (.lst ((selS ys ((places c).take i)).map V.str))) rfl (fun i Hc _ e => by rw [e]; exact SqL.of (Same.upd_new hD _ _ SQ5)) ?_ ?_
          · rintro i r Hc' Hc hi rfl ⟨rfl, hr⟩
            unfold natsV at hr
            rw [List.getElem?_map] at hr
            cases e : (places c)[i]? with
            | none => rw [e] at hr; cases hr
            | some j =>
              rw [e] at hr
              obtain rfl : V.int (j : Int) = r := Option.some.inj hr
              have hj := hpc j (List.mem_of_getElem? e)
              walk_at "go"
              have hys : ys[j]? = some ys[j] := List.getElem?_eq_getElem hj
              refine ⟨p, _, (j : Int), .str ys[j], rfl, rfl, SqL.of (Same.upd_new hD _ _ PH5), atI_nat (by rw [List.getElem?_map, hys]; rfl), ?_⟩
              have hsl : (selS ys ((places c).take i)).length ≤ 1000 := by
                unfold selS
                have g1 := List.length_filterMap_le (fun i => ys[i]?) ((places c).take i)
                have g2 := List.length_take_le i (places c)
                have g3 := (List.getElem?_eq_some_iff.mp e).1
                have g4 : (places c).length ≤ 1000 := places_len (Nat.lt_trans hsol (Nat.pow_lt_pow_right (by decide) (by omega)))
                omega
              refine ⟨_, upd_same, (by rw [List.length_map, sizeLine_eq]; omega), ?_⟩
              rw [upd_upd, List.take_add_one, e]
              congr 2
              unfold selS
              rw [List.filterMap_append, List.map_append]
              congr 1
              show _ = List.map V.str (List.filterMap (fun i => ys[i]?) [j])
              rw [List.filterMap_cons, hys]
              rfl
          · rintro Hc rfl
            walk_at "go"
            have htk : (places c).take (natsV (places c)).length = places c := by unfold natsV; rw [List.length_map, List.take_length]
            rw [htk]
            refine ⟨D, _, rfl, .inl ⟨SqL.of upd_same, fun tt htt => ?_⟩⟩
            walk_at "go"
            refine ⟨(by show 2 ≤ sizeLine; decide), fun rr hrr => ?_⟩
            have S6 := same_new (o := .tup ((selS ys (places c)).map V.str)) (same_new (o := .lst ((selS ys (places c)).map V.str)) S5 hD) htt
            have htr : tt ≠ rr := fun z => by rw [← z, upd_same] at hrr; cases hrr
            refine q rr _ (same_new S6 hrr) (same_none S6 hrr) ⟨tt, ?_, ?_⟩
            · rw [upd_same]
              unfold eithV
              rw [hput]
            · rw [upd_ne htr, upd_same]
              unfold eithV
              rw [hput]
              show _ = some (HO.tup ((selS ys (places (solveM k))).map V.str))
              rw [hcc]
end
end Cl

namespace Cl
local macro_rules | `(tactic| walk_at "go") => `(tactic| repeat (first | (refine ⟨_, rfl, ?_⟩) | (refine ⟨_, _, rfl, rfl, ?_⟩) | (refine ⟨_, rfl, rfl, ?_⟩) | (refine ⟨_, _, rfl, ?_⟩) | (refine And.intro (by first | with_reducible rfl | rfl | omega | decide | assumption | (dsimp only; first | omega | decide | assumption)) ?_)))

local macro_rules | `(tactic| walk_at "bag") => `(tactic| repeat (first | (refine ⟨_, _, _, _, rfl, rfl, L2.SqL.of L2.upd_same, (by rfl), ?_⟩) | (refine ⟨_, _, _, _, rfl, rfl, L2.upd_same, (by rfl), ?_⟩) | (refine ⟨_, rfl, ?_⟩) | (refine ⟨_, _, rfl, rfl, ?_⟩) | (refine ⟨_, rfl, rfl, ?_⟩) | (refine ⟨_, _, rfl, ?_⟩) | (refine And.intro (by first | with_reducible rfl | rfl | omega | decide | assumption | (dsimp only; first | omega | decide | assumption)) ?_)))
open PySem L2 Own Bits
section
variable {P : Program} {w : World} {K : PySem.W.Frag} {mg : PySem.Str → Option Value} {base : Heap}

/-! ### the bag -/
def bagV (c : Addr) (i l g m n : Nat) : List V := [.ref c, .int (i : Int), .int (l : Int), .int (g : Int), .int (m : Int), .int (n : Int)]
/-- a bag at b, its cells at c -/
def BagAt (c : Addr) (H : Hp) (b : Addr) : Prop := ∃ (i l g m n : Nat) (ns : List Int), H b = some (.lst (bagV c i l g m n)) ∧ H c = some (.lst (ns.map V.int)) ∧ (0 < l → 0 < g)
theorem upd_eta {H : Hp} {b : Addr} {o : HO} (h : H b = some o) : upd H b o = H := by
  funext a
  by_cases e : a = b
  · rw [e, upd_same, h]
  · exact upd_ne e
theorem BagAt.ne {c : Addr} {H : Hp} {b p : Addr} (h : BagAt c H b) (hp : H p = none) : p ≠ b ∧ p ≠ c := by
  obtain ⟨i, l, g, m, n, ns, h1, h2, h3⟩ := h
  exact ⟨fun z => (by rw [z, h1] at hp; cases hp), fun z => (by rw [z, h2] at hp; cases hp)⟩
theorem BagAt.put {c : Addr} {H : Hp} {b p : Addr} {o : HO} (h : BagAt c H b) (hp : p ≠ b ∧ p ≠ c) : BagAt c (upd H p o) b := by
  obtain ⟨i, l, g, m, n, ns, h1, h2, h3⟩ := h
  exact ⟨i, l, g, m, n, ns, by rw [upd_ne hp.1.symm]; exact h1, by rw [upd_ne hp.2.symm]; exact h2, h3⟩
theorem BagAt.upd {c : Addr} {H : Hp} {b p : Addr} {o : HO} (h : BagAt c H b) (hp : H p = none) : BagAt c (upd H p o) b := h.put (h.ne hp)
theorem BagAt.imp {c : Addr} {H H' : Hp} {b : Addr} (h : BagAt c H b) (e : Same H H') : BagAt c H' b := by
  obtain ⟨i, l, g, m, n, ns, h1, h2, h3⟩ := h
  exact ⟨i, l, g, m, n, ns, e _ _ h1, e _ _ h2, h3⟩

/-! ### _law_pick -/
def spPick : Sp := fun vs H Q _ => ∃ (b c : Addr) (many : Nat), vs = [.ref b, .int (many : Int)] ∧ BagAt c H b ∧ 0 < many ∧ many < 1000000000 ∧ ∀ (d : Nat) H', d < many → BagAt c H' b → Same (hid [b] H) (hid [b] H') → Q (.int (d : Int)) H'
abbrev sc__law_pick_N : List PySem.Str := ["bag", "many", "cell", "digit", "mix"]
theorem sc__law_pick : FnScope sc__law_pick_N ["bag", "many"] (defScope (topS 11)) := ⟨rfl, rfl, rfl, by decide +kernel, rfl, by decide +kernel, by decide +kernel⟩
theorem ok_pick (T : Blt mg) (D : DefAt K mg "_law_pick" (topS 11) ["bag", "many"]) : Cal P w K mg base 1 "_law_pick" spPick := by
  refine cal_of D sc__law_pick (fun vs H Q E h => ?_) (fun f cdv A outer s H vs Q E hr h => ?_)
  · obtain ⟨b, c, many, rfl, _⟩ := h
    rfl
  · obtain ⟨b, c, many, rfl, ⟨i, l, g, m, n, ns, hb, hc, hg⟩, h0, h1, q⟩ := h
    refine ⟨_, (pss_cons (ps_asg (pe_op Own.on_add (pe_ix (Own.ixL (K := K) rfl) (pv 0) pe_int (fun _ _ => rfl)) pe_int) (pg_sub (pv 0) pe_int set_list))
  (pss_cons (ps_if (PW.pt (pw_and (pt_cmpR Own.oc_eq (pe_ix (Own.ixL (K := K) rfl) (pv 0) pe_int (fun _ _ => rfl)) pe_int (nomark _)) (pw_and1 (pt_cmpR Own.oc_lt (pe_ix (Own.ixL (K := K) rfl) (pv 0) pe_int (fun _ _ => rfl)) (pe_callB call_len_seq (by rfl) T.len (by decide +kernel) (pa_cons (pe_ix (Own.ixL (K := K) rfl) (pv 0) pe_int (fun _ _ => rfl)) pa_nil)) (nomark _)))))
   (pss_cons (ps_set (i := 2) sc__law_pick.nd rfl (Or.inl rfl) (pe_ix (Own.ixL (K := K) rfl) (pe_ix (Own.ixL (K := K) rfl) (pv 0) pe_int (fun _ _ => rfl)) (pe_ix (Own.ixL (K := K) rfl) (pv 0) pe_int (fun _ _ => rfl)) (fun _ _ => rfl)))
  (pss_cons (ps_asg (pe_op Own.on_add (pe_ix (Own.ixL (K := K) rfl) (pv 0) pe_int (fun _ _ => rfl)) pe_int) (pg_sub (pv 0) pe_int set_list))
  (pss_one (ps_if (pt_cmpR op_ge (pv 2) (pe_op op_pow pe_int pe_int) (nomark _))
   (pss_cons (ps_asg (pv 2) (pg_sub (pv 0) pe_int set_list))
  (pss_one (ps_asg pe_int (pg_sub (pv 0) pe_int set_list))))
   (pss_one (ps_asg (pe_op Own.on_mod (pe_callTy Own.intI (by rfl) T.int (by decide +kernel) (pa_cons (pe_op Own.on_add (pe_op Own.on_add (pe_op Own.on_mul (pe_ix (Own.ixL (K := K) rfl) (pv 0) pe_int (fun _ _ => rfl)) pe_int) (pe_op Own.on_mul (pe_op Own.on_modI (pe_callTy Own.intI (by rfl) T.int (by decide +kernel) (pa_cons (pv 2) pa_nil)) pe_int) pe_int)) pe_int) pa_nil)) pe_int) (pg_sub (pv 0) pe_int set_list)))))))
   pss_nil)
  (pss_cons (ps_if (pt_cmpR Own.oc_gt (pe_ix (Own.ixL (K := K) rfl) (pv 0) pe_int (fun _ _ => rfl)) pe_int (nomark _))
   (pss_cons (ps_set (i := 3) sc__law_pick.nd rfl (Or.inl rfl) (pe_op Own.on_mod (pe_callTy Own.intI (by rfl) T.int (by decide +kernel) (pa_cons (pe_ix (Own.ixL (K := K) rfl) (pv 0) pe_int (fun _ _ => rfl)) pa_nil)) (pv 1)))
  (pss_cons (ps_asg (pe_op Own.on_sub (pe_ix (Own.ixL (K := K) rfl) (pv 0) pe_int (fun _ _ => rfl)) pe_int) (pg_sub (pv 0) pe_int set_list))
  (pss_cons (ps_asg (pe_ifExp (pt_cmpR Own.oc_gt (pe_ix (Own.ixL (K := K) rfl) (pv 0) pe_int (fun _ _ => rfl)) pe_int (nomark _)) (pe_op Own.on_fdiv (pe_ix (Own.ixL (K := K) rfl) (pv 0) pe_int (fun _ _ => rfl)) (pv 1)) pe_int) (pg_sub (pv 0) pe_int set_list))
  (pss_one (ps_ret (pv 3))))))
   pss_nil)
  (pss_cons (ps_set (i := 4) sc__law_pick.nd rfl (Or.inl rfl) (pe_op Own.on_mod (pe_callTy Own.intI (by rfl) T.int (by decide +kernel) (pa_cons (pe_op Own.on_add (pe_op Own.on_add (pe_op Own.on_mul (pe_ix (Own.ixL (K := K) rfl) (pv 0) pe_int (fun _ _ => rfl)) pe_int) (pe_op Own.on_mul (pe_ix (Own.ixL (K := K) rfl) (pv 0) pe_int (fun _ _ => rfl)) pe_int)) pe_int) pa_nil)) pe_int))
  (pss_cons (ps_asg (pe_op Own.on_mod (pe_callTy Own.intI (by rfl) T.int (by decide +kernel) (pa_cons (pe_op Own.on_add (pe_op Own.on_mul (pv 4) (pe_op Own.on_add (pe_op Own.on_fdiv (pv 4) pe_int) pe_int)) (pe_ix (Own.ixL (K := K) rfl) (pv 0) pe_int (fun _ _ => rfl))) pa_nil)) pe_int) (pg_sub (pv 0) pe_int set_list))
  (pss_one (ps_ret (pe_op Own.on_mod (pe_callTy Own.intI (by rfl) T.int (by decide +kernel) (pa_cons (pe_op Own.on_add (pe_op Own.on_fdiv (pe_ix (Own.ixL (K := K) rfl) (pv 0) pe_int (fun _ _ => rfl)) pe_int) (pe_op Own.on_mul (pe_op Own.on_mod (pe_callTy Own.intI (by rfl) T.int (by decide +kernel) (pa_cons (pe_ix (Own.ixL (K := K) rfl) (pv 0) pe_int (fun _ _ => rfl)) pa_nil)) pe_int) pe_int)) pa_nil)) (pv 1))))))))), ?_⟩
    have hcb : c ≠ b := fun z => by
      rw [z, hb] at hc
      have z2 : bagV c i l g m n = ns.map V.int := by injection hc with e; injection e
      cases ns with
      | nil => cases z2
      | cons x r => injection z2 with e; cases e
    have fin : ∀ (i l g m n : Nat) (d : Nat), d < many → (0 < l → 0 < g) → Q (.int (d : Int)) (upd H b (.lst (bagV c i l g m n))) := fun i l g m n d hd hg =>
      q d _ hd ⟨i, l, g, m, n, ns, upd_same, by rw [upd_ne hcb]; exact hc, hg⟩ (same_hid_upd (by simp))
    rw [← upd_eta hb]
    generalize hH : H = H0 at fin
    have hc0 : H0 c = some (.lst (ns.map V.int)) := hH ▸ hc
    clear q hb hH hc
    refine seq2_rest (R := fun σ' H' => ∃ (i l g m n : Nat) (e2 : Option V), σ' = [some (.ref b), some (.int (many : Int)), e2, none, none] ∧ H' = upd H0 b (.lst (bagV c i l g m n)) ∧ (0 < l → 0 < g)) (fun N rest => ?_) ?_
    · walk_at "bag"
      refine ite2 (fun hl => ?_) (fun hl => ?_)
      · walk_at "bag"
        refine ⟨c, _, rfl, .inl (SqL.of (H := _) (by rw [upd_upd, upd_ne hcb]; exact hc0)), ?_⟩
        walk_at "bag"
        refine ite2 (fun hi => ?_) (fun hi => ?_)
        · walk_at "bag"
          have hi2 : i < (ns.map V.int).length := of_decide_eq_true hi
          rw [List.length_map] at hi2
          refine ⟨c, ns.map V.int, (i : Int), .int ns[i], rfl, rfl, SqL.of (by rw [upd_upd, upd_ne hcb]; exact hc0), atI_nat (by rw [List.getElem?_map, List.getElem?_eq_getElem hi2]; rfl), ?_⟩
          walk_at "bag"
          refine ⟨(by unfold CPow; decide), ?_⟩
          walk_at "bag"
          refine ite2 (fun hx => ?_) (fun hx => ?_)
          · have hx2 : (10 : Int) ^ 18 ≤ ns[i] := of_decide_eq_true hx
            obtain ⟨x, hx3⟩ : ∃ x : Nat, ns[i] = (x : Int) := ⟨ns[i].toNat, by omega⟩
            rw [hx3]
            walk_at "bag"
            exact rest _ _ ⟨i + 1, x, 60, m, n + 1, _, rfl, by simp only [upd_upd]; rfl, fun _ => by decide⟩
          · walk_at "bag"
            intro r hr _
            walk_at "bag"
            exact rest _ _ ⟨i + 1, l, g, (m * 39373 + r * 69621 + 1217) % 2147483629, n + 1, _, rfl, by simp only [upd_upd]; rfl, hg⟩
        · exact rest _ _ ⟨i, l, g, m, n + 1, none, rfl, by rw [upd_upd]; rfl, hg⟩
      · exact rest _ _ ⟨i, l, g, m, n + 1, none, rfl, by rw [upd_upd]; rfl, hg⟩
    · rintro σ' H' ⟨i, l, g, m, n, e2, rfl, rfl, hg⟩
      walk_at "bag"
      refine ite2 (fun hl => ?_) (fun hl => ?_)
      · have hl2 : 0 < l := of_decide_eq_true hl
        have hg2 := hg hl2
        walk_at "bag"
        refine ite2 (fun hd => ?_) (fun hd => ?_)
        · have hd2 : 0 < g - 1 := of_decide_eq_true hd
          walk_at "bag"
          simp only [upd_upd]
          exact fin i (l / many) (g - 1) m n (l % many) (Nat.mod_lt _ h0) fun _ => hd2
        · walk_at "bag"
          simp only [upd_upd]
          exact fin i 0 (g - 1) m n (l % many) (Nat.mod_lt _ h0) fun z => absurd z (by decide)
      · walk_at "bag"
        rw [upd_upd]
        exact fin i l g _ n _ (Nat.mod_lt _ h0) hg

/-! ### _law_of -/
def spOf (K : PySem.W.Frag) : Sp := fun vs H Q _ => ∃ (b c t : Addr) (xs : List V), vs = [.ref b, .ref t] ∧ BagAt c H b ∧ SqL K (hid [b] H) t xs ∧ 0 < xs.length ∧ xs.length < 1000000 ∧ ∀ x H', x ∈ xs → BagAt c H' b → Same (hid [b] H) (hid [b] H') → Q x H'
abbrev sc__law_of_N : List PySem.Str := ["bag", "things"]
theorem sc__law_of : FnScope sc__law_of_N ["bag", "things"] (defScope (topS 12)) := ⟨rfl, rfl, rfl, by decide +kernel, rfl, by decide +kernel, by decide +kernel⟩
theorem ok_of (T : Blt mg) (D : DefAt K mg "_law_of" (topS 12) ["bag", "things"]) (D_law_pick : Cal P w K mg base 1 "_law_pick" spPick) : Cal P w K mg base 2 "_law_of" (spOf K) := by
  refine cal_of D sc__law_of (fun vs H Q E h => ?_) (fun f cdv A outer s H vs Q E hr h => ?_)
  · obtain ⟨b, c, t, xs, rfl, _⟩ := h
    rfl
  · obtain ⟨b, c, t, xs, rfl, hb, ht, h0, h1, q⟩ := h
    refine ⟨_, (pss_one (ps_ret (pe_ix (Own.ixL (K := K) rfl) (pv 1) (Own.pe_c D_law_pick hr (by decide) rfl (pa_cons (pv 0) (pa_cons (pe_callB call_len_seq (by rfl) T.len (by decide +kernel) (pa_cons (pv 1) pa_nil)) pa_nil))) (fun _ _ => rfl)))), ?_⟩
    walk_at "go"
    refine ⟨t, xs, rfl, .inl (hid_sub.seq ht), ?_⟩
    walk_at "go"
    refine ⟨b, c, xs.length, rfl, hb, h0, by omega, fun d H' hd hb' e => ?_⟩
    refine ⟨t, xs, (d : Int), xs[d], rfl, rfl, hid_sub.seq (e.seq ht), atI_nat (List.getElem?_eq_getElem hd), ?_⟩
    exact q _ _ (List.getElem_mem hd) hb' e

/-! ### _law_open -/
def spOpen (K : PySem.W.Frag) : Sp := fun vs H Q _ => ∃ (a : Addr) (ns : List Int), vs = [.ref a] ∧ SqL K H a (ns.map V.int) ∧ ∀ b c H', Same H H' → H b = none → BagAt c H' b → Q (.ref b) H'
abbrev sc__law_open_N : List PySem.Str := ["script", "mix", "cell"]
theorem sc__law_open : FnScope sc__law_open_N ["script"] (defScope (topS 10)) := ⟨rfl, rfl, rfl, by decide +kernel, rfl, by decide +kernel, by decide +kernel⟩
theorem ok_open (T : Blt mg) (D : DefAt K mg "_law_open" (topS 10) ["script"]) : Cal P w K mg base 1 "_law_open" (spOpen K) := by
  refine cal_of D sc__law_open (fun vs H Q E h => ?_) (fun f cdv A outer s H vs Q E hr h => ?_)
  · obtain ⟨a, ns, rfl, _⟩ := h
    rfl
  · obtain ⟨a, ns, rfl, ha, q⟩ := h
    refine ⟨_, (pss_cons (ps_set (i := 1) sc__law_open.nd rfl (Or.inl rfl) pe_int)
  (pss_cons (ps_for PassesOwn.never rfl (Own.pi_listK (K := K) rfl (pe_slice sl_list (pv 0) po_none (po_some pe_int))) (pg_name (i := 2) sc__law_open.nd rfl (Or.inl rfl))
   (pss_one (ps_set (i := 1) sc__law_open.nd rfl (Or.inl rfl) (pe_op Own.on_mod (pe_callTy Own.intI (by rfl) T.int (by decide +kernel) (pa_cons (pe_op Own.on_add (pe_op Own.on_add (pe_op Own.on_mul (pv 1) pe_int) (pe_op Own.on_modI (pe_callTy Own.intI (by rfl) T.int (by decide +kernel) (pa_cons (pv 2) pa_nil)) pe_int)) pe_int) pa_nil)) pe_int))))
  (pss_one (ps_ret (pe_lst (pa_cons (pe_lc (own := [("cell", 2)]) (g := (gName 2)) rfl sc__law_open.nd (Own.pi_listK (K := K) rfl (pe_slice sl_list (pv 0) po_none (po_some pe_int))) (blkOk_by (own := [("cell", 2)]) (N := sc__law_open_N) (sc := defScope (topS 10)) (by decide +kernel)) (fun _ _ _ _ _ => (pg_name (i := 2) sc__law_open.nd rfl (Or.inl rfl))) (fun _ _ _ _ _ => pts_nil) (fun _ _ _ _ _ => (pe_callTy Own.intI (by rfl) T.int (by decide +kernel) (pa_cons (pv 2) pa_nil)))) (pa_cons pe_int (pa_cons pe_int (pa_cons pe_int (pa_cons (pv 1) (pa_cons pe_int pa_nil))))))))))), ?_⟩
    have hcut : cutV (ns.map V.int) none (some (63 : Int)) = (ns.take 63).map V.int := by rw [show (63 : Int) = ((63 : Nat) : Int) from rfl, cutV_take, List.map_take]
    walk_at "go"
    refine ⟨a, _, rfl, ha, fun p hp => ?_⟩
    rw [hcut]
    have S1 : Same H (upd H p (.lst ((ns.take 63).map V.int))) := Same.upd_new hp
    have hp1 : upd H p (.lst ((ns.take 63).map V.int)) p = some (.lst ((ns.take 63).map V.int)) := upd_same
    generalize upd H p (.lst ((ns.take 63).map V.int)) = H1 at S1 hp1
    refine ⟨p, rfl, ⟨_, SqL.of hp1⟩, for_it walk_list (fun i σ H' => H' = H1 ∧ ∃ (m : Nat) (e : Option V), σ = [some (.ref a), some (.int (m : Int)), e]) ⟨rfl, 60013, none, rfl⟩ (fun i σ H' _ ⟨e, _⟩ => by rw [e]; exact SqL.of hp1) ?_ ?_⟩
    · rintro i x σ H' H'' hi ⟨rfl, m, e, rfl⟩ ⟨rfl, hx⟩
      rw [List.getElem?_map] at hx
      cases e2 : (ns.take 63)[i]? with
      | none => rw [e2] at hx; cases hx
      | some z =>
        rw [e2] at hx
        obtain rfl : V.int z = x := Option.some.inj hx
        walk_at "go"
        intro r hr _
        walk_at "go"
        exact ⟨_, _, rfl⟩
    · rintro σ H1 ⟨rfl, m, e, rfl⟩
      walk_at "go"
      refine ⟨a, _, rfl, S1.seq ha, fun p2 hp2 => ?_⟩
      rw [hcut]
      refine ⟨p2, rfl, ⟨_, SqL.of upd_same⟩, fun D hD => ?_⟩
      refine lc_it walk_list (fun i H' => H' = upd (upd H1 p2 (.lst ((ns.take 63).map V.int))) D (.lst (((ns.take 63).take i).map V.int))) rfl (fun i H' _ e => by rw [e]; exact SqL.of (Same.upd_new hD _ _ upd_same)) ?_ ?_
      · rintro i x H' H'' hi rfl ⟨rfl, hx⟩
        rw [List.getElem?_map] at hx
        cases e2 : (ns.take 63)[i]? with
        | none => rw [e2] at hx; cases hx
        | some z =>
          rw [e2] at hx
          obtain rfl : V.int z = x := Option.some.inj hx
          walk_at "go"
          refine ⟨_, upd_same, (by
            rw [List.length_map, sizeLine_eq]
            have h1 := List.length_take_le i (ns.take 63)
            rw [List.length_map] at hi
            have h2 := List.length_take_le 63 ns
            have h3 := List.length_take_le' 63 ns
            omega), ?_⟩
          rw [upd_upd, List.take_add_one (l := ns.take 63), e2, List.map_append]
          rfl
      · rintro H' rfl
        walk_at "go"
        rw [List.length_map, List.take_length]
        refine ⟨(by show 6 ≤ sizeLine; decide), fun b hb => ?_⟩
        have S2 := same_new (o := .lst ((ns.take 63).map V.int)) (same_new (o := .lst ((ns.take 63).map V.int)) S1 hp2) hD
        have hDb : D ≠ b := fun z => by rw [← z, upd_same] at hb; cases hb
        exact q b D _ (same_new S2 hb) (same_none S2 hb) ⟨0, 0, 0, m, 0, ns.take 63, upd_same, by rw [upd_ne hDb, upd_same], fun z => absurd z (by decide)⟩
end
end Cl

namespace Cl
local macro_rules | `(tactic| walk_at "go") => `(tactic| repeat (first | (refine ⟨_, rfl, ?_⟩) | (refine ⟨_, _, rfl, rfl, ?_⟩) | (refine ⟨_, rfl, rfl, ?_⟩) | (refine ⟨_, _, rfl, ?_⟩) | (refine And.intro (by first | with_reducible rfl | rfl | omega | decide | assumption | (dsimp only; first | omega | decide | assumption)) ?_)))

local macro_rules | `(tactic| walk_at "bag") => `(tactic| repeat (first | (refine ⟨_, _, _, _, rfl, rfl, L2.SqL.of L2.upd_same, (by rfl), ?_⟩) | (refine ⟨_, _, _, _, rfl, rfl, L2.upd_same, (by rfl), ?_⟩) | (refine ⟨_, rfl, ?_⟩) | (refine ⟨_, _, rfl, rfl, ?_⟩) | (refine ⟨_, rfl, rfl, ?_⟩) | (refine ⟨_, _, rfl, ?_⟩) | (refine And.intro (by first | with_reducible rfl | rfl | omega | decide | assumption | (dsimp only; first | omega | decide | assumption)) ?_)))
open PySem L2 Own Bits
section
variable {P : Program} {w : World} {K : PySem.W.Frag} {mg : PySem.Str → Option Value} {base : Heap}
theorem same_hid_put {B : List Addr} {H0 H : Hp} {p : Addr} {o : HO} (e : Same (hid B H0) (hid B H)) (h : H0 p = none) : Same (hid B H0) (hid B (upd H p o)) := fun a u q => by
  have z := hid_some.mp q
  exact hid_some.mpr ⟨z.1, by rw [upd_ne (ne_of_none z.2 h)]; exact (hid_some.mp (e a u q)).2⟩
theorem hid_keep {B : List Addr} {H H' : Hp} {p : Addr} {o : HO} (e : Same (hid B H) (hid B H')) (hp : p ∉ B) (h : H p = some o) : H' p = some o := (hid_some.mp (e p o (hid_some.mpr ⟨hp, h⟩))).2

/-! ### _law_mixed -/
def spMixed (K : PySem.W.Frag) : Sp := fun vs H Q _ => ∃ (b c t : Addr) (xs : List V), vs = [.ref b, .ref t] ∧ BagAt c H b ∧ SqL K (hid [b] H) t xs ∧ xs.length < 1000 ∧
  ∀ p ys H', ys.Perm xs → BagAt c H' b → Same (hid [b] H) (hid [b] H') → H p = none → H' p = some (.lst ys) → Q (.ref p) H'
abbrev sc__law_mixed_N : List PySem.Str := ["bag", "things", "mixed", "k", "at", "held"]
theorem sc__law_mixed : FnScope sc__law_mixed_N ["bag", "things"] (defScope (topS 13)) := ⟨rfl, rfl, rfl, by decide +kernel, rfl, by decide +kernel, by decide +kernel⟩
theorem swap_perm {α : Type} (ys : List α) {i j : Nat} {x y : α} (hi : ys[i]? = some x) (hj : ys[j]? = some y) : ((ys.set i y).set j x).Perm ys := by
  obtain ⟨hi1, rfl⟩ := List.getElem?_eq_some_iff.mp hi
  obtain ⟨hj1, rfl⟩ := List.getElem?_eq_some_iff.mp hj
  have z := List.set_set_perm hi1 hj1
  exact z
theorem ok_mixed (T : Blt mg) (D : DefAt K mg "_law_mixed" (topS 13) ["bag", "things"]) (D_law_pick : Cal P w K mg base 1 "_law_pick" spPick) : Cal P w K mg base 2 "_law_mixed" (spMixed K) := by
  refine cal_of D sc__law_mixed (fun vs H Q E h => ?_) (fun f cdv A outer s H vs Q E hr h => ?_)
  · obtain ⟨b, c, t, xs, rfl, _⟩ := h
    rfl
  · obtain ⟨b, c, t, xs, rfl, hb, ht, h0, q⟩ := h
    refine ⟨_, (pss_cons (ps_set (i := 2) sc__law_mixed.nd rfl (Or.inl rfl) (pe_callTy (Own.listK (K := K) rfl) (by rfl) T.list (by decide +kernel) (pa_cons (pv 1) pa_nil)))
  (pss_cons (ps_for PassesOwn.never rfl (pi_range3 rfl T.range (pa_cons (pe_op op_sub (pe_callB call_len_seq (by rfl) T.len (by decide +kernel) (pa_cons (pv 2) pa_nil)) pe_int) (pa_cons pe_int (pa_cons (pe_un un_neg pe_int) pa_nil)))) (pg_name (i := 3) sc__law_mixed.nd rfl (Or.inl rfl))
   (pss_cons (ps_set (i := 4) sc__law_mixed.nd rfl (Or.inl rfl) (Own.pe_c D_law_pick hr (by decide) rfl (pa_cons (pv 0) (pa_cons (pe_op Own.on_add (pv 3) pe_int) pa_nil))))
  (pss_cons (ps_set (i := 5) sc__law_mixed.nd rfl (Or.inl rfl) (pe_ix (Own.ixL (K := K) rfl) (pv 2) (pv 3) (fun _ _ => rfl)))
  (pss_cons (ps_asg (pe_ix (Own.ixL (K := K) rfl) (pv 2) (pv 4) (fun _ _ => rfl)) (pg_sub (pv 2) (pv 3) set_list))
  (pss_one (ps_asg (pv 5) (pg_sub (pv 2) (pv 4) set_list)))))))
  (pss_one (ps_ret (pv 2))))), ?_⟩
    walk_at "go"
    refine ⟨t, xs, rfl, .inl (hid_sub.seq ht), fun p hp => ?_⟩
    have hpb := hb.ne hp
    walk_at "go"
    refine ⟨p, xs, rfl, .inl (SqL.of upd_same), ?_⟩
    walk_at "go"
    refine ⟨_, _, _, _, rfl, RgC.neg (by omega) (by omega) (by decide) (by decide), ?_⟩
    refine for_it walk_rangeC (fun i σ H' => ∃ (ys : List V) (e3 e4 e5 : Option V), σ = [some (.ref b), some (.ref t), some (.ref p), e3, e4, e5] ∧ ys.Perm xs ∧ BagAt c H' b ∧ Same (hid [b] H) (hid [b] H') ∧ H' p = some (.lst ys))
      ⟨xs, none, none, none, rfl, .refl _, hb.upd hp, same_hid_put (Same.refl _) hp, upd_same⟩ (fun _ _ _ _ _ => trivial) ?_ ?_
    · rintro i x σ H1 H2 hi ⟨ys, e3, e4, e5, rfl, h1, h2, h3, h4⟩ ⟨rfl, hx⟩
      have hlen := h1.length_eq
      obtain ⟨k, hk⟩ : ∃ k : Nat, (xs.length : Int) - 1 + (i : Nat) * -1 = (k : Int) := ⟨xs.length - 1 - i, by omega⟩
      obtain rfl : x = .int (k : Int) := by rw [← hk]; exact hx
      have hk1 : k < ys.length := by omega
      walk_at "go"
      refine ⟨b, c, k + 1, rfl, h2, by omega, by omega, fun d H3 hd hb3 e => ?_⟩
      have h5 : H3 p = some (.lst ys) := hid_keep e (by simpa using hpb.1) h4
      have hky : ys[k]? = some ys[k] := List.getElem?_eq_getElem hk1
      have hd1 : d < ys.length := by omega
      have hdy : ys[d]? = some ys[d] := List.getElem?_eq_getElem hd1
      walk_at "go"
      refine ⟨p, ys, (k : Int), ys[k], rfl, rfl, SqL.of h5, atI_nat hky, ?_⟩
      walk_at "go"
      refine ⟨p, ys, (d : Int), ys[d], rfl, rfl, SqL.of h5, atI_nat hdy, ?_⟩
      walk_at "go"
      refine ⟨p, ys, (k : Int), k, rfl, rfl, h5, ixN_nat' hk1, ?_⟩
      walk_at "go"
      refine ⟨p, _, (d : Int), d, rfl, rfl, upd_same, ixN_nat' (by rw [List.length_set]; exact hd1), ?_⟩
      rw [upd_upd]
      exact ⟨_, _, _, _, rfl, (swap_perm ys hky hdy).trans h1, hb3.put hpb, same_hid_put (h3.trans e) hp, upd_same⟩
    · rintro σ H1 ⟨ys, e3, e4, e5, rfl, h1, h2, h3, h4⟩
      walk_at "go"
      exact q p ys _ h1 h2 h3 hp h4

/-! ### _law_names -/
/-- no nine in it, and short -/
def Pure9 (m : Nat) (z : PySem.Str) : Prop := 57 ∉ z.cps.toList ∧ z.length ≤ m ∧ ∀ x ∈ z.cps.toList, x < 1114112
def nine (j : Nat) : PySem.Str := (Str.empty ++ ("9" : PySem.Str)) ++ (PySem.Str.ofString (toString ((j : Nat) : Int)))
def wordsS : List PySem.Str := ["done", "cross", "same", "apart", "web", "row", "self", "none", "some", "a", "z"]
theorem words_pure : ∀ z ∈ wordsS, Pure9 8 z := by unfold Pure9; decide +kernel
theorem nine_form (j : Nat) : (nine j).cps.toList = 57 :: (PySem.Str.ofString (toString ((j : Nat) : Int))).cps.toList := by
  unfold nine
  show (Array.append (Array.append #[] (PySem.Str.ofString "9").cps) _).toList = _
  rw [show (PySem.Str.ofString "9").cps = #[57] by decide +kernel]
  simp
theorem nine_inj : ∀ i j : Fin 21, (PySem.Str.ofString (toString ((i.val : Nat) : Int))).cps.toList = (PySem.Str.ofString (toString ((j.val : Nat) : Int))).cps.toList → i = j := by decide +kernel
theorem nine_short : ∀ i : Fin 21, (nine i.val).length ≤ 8 := by decide +kernel
structure NamesOk (k : Nat) (ns : List PySem.Str) : Prop where
  len : ns.length = k
  nd : ns.Nodup
  form : ∀ z ∈ ns, Pure9 8 z ∨ ∃ u j, j < k ∧ Pure9 8 u ∧ z = u ++ nine j
theorem app_cps (a b : PySem.Str) : (a ++ b).cps.toList = a.cps.toList ++ b.cps.toList := by
  show (a.cps ++ b.cps).toList = _
  exact Array.toList_append
theorem app_len (a b : PySem.Str) : (a ++ b).length = a.length + b.length := by
  show (a.cps ++ b.cps).size = _
  exact Array.size_append
theorem split57 : ∀ {a b x y : List Nat}, 57 ∉ a → 57 ∉ b → a ++ 57 :: x = b ++ 57 :: y → a = b ∧ x = y
  | [], [], _, _, _, _, e => ⟨rfl, by simpa using e⟩
  | [], c :: b, _, _, _, hb, e => by
    have : 57 = c := (List.cons.inj e).1
    exact absurd (this ▸ List.mem_cons_self) hb
  | c :: a, [], _, _, ha, _, e => by
    have : c = 57 := (List.cons.inj e).1
    exact absurd (this ▸ List.mem_cons_self) ha
  | c :: a, d :: b, x, y, ha, hb, e => by
    have e1 := List.cons.inj e
    have ih := split57 (a := a) (b := b) (fun h => ha (List.mem_cons_of_mem _ h)) (fun h => hb (List.mem_cons_of_mem _ h)) e1.2
    exact ⟨by rw [e1.1, ih.1], ih.2⟩
theorem NamesOk.pure {k : Nat} {ns : List PySem.Str} (h : NamesOk k ns) {z : PySem.Str} (hz : Pure9 8 z) (hn : z ∉ ns) : NamesOk (k + 1) (ns ++ [z]) :=
  ⟨by rw [List.length_append, h.len]; rfl, (List.perm_append_singleton z ns).nodup_iff.mpr (List.nodup_cons.mpr ⟨hn, h.nd⟩), fun y hy => by
    rcases List.mem_append.mp hy with hy | hy
    · exact (h.form y hy).imp id fun ⟨u, j, hj, r⟩ => ⟨u, j, by omega, r⟩
    · rw [List.mem_singleton.mp hy]; exact .inl hz⟩
theorem NamesOk.nine {k : Nat} {ns : List PySem.Str} (h : NamesOk k ns) (hk : k < 21) {u : PySem.Str} (hu : Pure9 8 u) : NamesOk (k + 1) (ns ++ [u ++ nine k]) := by
  have e : (u ++ Cl.nine k).cps.toList = u.cps.toList ++ 57 :: (PySem.Str.ofString (toString ((k : Nat) : Int))).cps.toList := by rw [app_cps, nine_form]
  have hn : u ++ Cl.nine k ∉ ns := fun hm => by
    rcases h.form _ hm with ⟨z, _⟩ | ⟨v, j, hj, hv, e2⟩
    · exact z (by rw [e]; simp)
    · have e3 : (v ++ Cl.nine j).cps.toList = v.cps.toList ++ 57 :: (PySem.Str.ofString (toString ((j : Nat) : Int))).cps.toList := by rw [app_cps, nine_form]
      rw [← e2, e] at e3
      have z := nine_inj ⟨k, hk⟩ ⟨j, by omega⟩ (split57 hu.1 hv.1 e3).2
      have z2 : k = j := congrArg Fin.val z
      omega
  exact ⟨by rw [List.length_append, h.len]; rfl, (List.perm_append_singleton _ ns).nodup_iff.mpr (List.nodup_cons.mpr ⟨hn, h.nd⟩), fun y hy => by
    rcases List.mem_append.mp hy with hy | hy
    · exact (h.form y hy).imp id fun ⟨u, j, hj, r⟩ => ⟨u, j, by omega, r⟩
    · rw [List.mem_singleton.mp hy]; exact .inr ⟨u, k, by omega, hu, rfl⟩⟩
theorem nine_ok : ∀ j : Fin 21, ∀ x ∈ (nine j.val).cps.toList, x < 1114112 := by decide +kernel
theorem strOk_of {z : PySem.Str} (h : ∀ x ∈ z.cps.toList, x < 1114112) : PyData.strOk z = true := by
  unfold PyData.strOk
  rw [← Array.all_toList, List.all_eq_true]
  exact fun x hx => decide_eq_true (h x hx)
theorem NamesOk.ok {k : Nat} {ns : List PySem.Str} (h : NamesOk k ns) (hk : k ≤ 21) : ∀ z ∈ ns, PyData.strOk z = true := fun z hz => by
  rcases h.form z hz with q | ⟨u, j, hj, hu, rfl⟩
  · exact strOk_of q.2.2
  · refine strOk_of fun x hx => ?_
    rw [app_cps, List.mem_append] at hx
    exact hx.elim (hu.2.2 x) (nine_ok ⟨j, by omega⟩ x)
theorem lit_sign {z : PySem.Str} {n d : Nat} (hz : z.cps.toList.length = n ∧ 57 ∉ z.cps.toList ∧ ∀ x ∈ z.cps.toList, x < 1114112) (hd : d < n) : ∃ c, atI z.cps.toList (d : Int) = some c ∧ c ≠ 57 ∧ c < 1114112 := by
  obtain ⟨h1, h2, h3⟩ := hz
  have hd2 : d < z.cps.toList.length := by omega
  exact ⟨z.cps.toList[d], atI_nat (List.getElem?_eq_getElem hd2), fun e => h2 (e ▸ List.getElem_mem hd2), h3 _ (List.getElem_mem hd2)⟩
structure NmSt (b c p wd : Addr) (H : Hp) (ns : List PySem.Str) (H' : Hp) : Prop where
  bag : BagAt c H' b
  same : Same (hid [b] H) (hid [b] H')
  nm : H' p = some (.lst (ns.map V.str))
  wd : H' wd = some (.lst (wordsS.map V.str))
theorem NmSt.step {b c p wd : Addr} {H H2 H3 : Hp} {ns : List PySem.Str} (h : NmSt b c p wd H ns H2) (hp : p ≠ b) (hw : wd ≠ b) (hb : BagAt c H3 b) (e : Same (hid [b] H2) (hid [b] H3)) : NmSt b c p wd H ns H3 :=
  ⟨hb, h.same.trans e, hid_keep e (by simpa using hp) h.nm, hid_keep e (by simpa using hw) h.wd⟩
theorem NmSt.new {b c p wd a : Addr} {H H2 : Hp} {o : HO} {ns : List PySem.Str} (h : NmSt b c p wd H ns H2) (ha : H2 a = none) : NmSt b c p wd H ns (upd H2 a o) :=
  ⟨h.bag.upd ha, h.same.trans (Own.Same.hid [b] (Same.upd_new ha)), Same.upd_new ha _ _ h.nm, Same.upd_new ha _ _ h.wd⟩
theorem mem_nats {x : V} {l : List Nat} (h : x ∈ natsV l) : ∃ n ∈ l, x = .int (n : Int) := by
  obtain ⟨n, hn, e⟩ := List.mem_map.mp h
  exact ⟨n, hn, e.symm⟩
theorem pure_one {c : Nat} (h : c ≠ 57 ∧ c < 1114112) : Pure9 1 ⟨#[c]⟩ := ⟨(by
  show 57 ∉ [c]
  simpa using h.1.symm), Nat.le_refl 1, fun x hx => (by
  have e : x = c := List.mem_singleton.mp hx
  rw [e]; exact h.2)⟩
theorem Pure9.app {m k : Nat} {y z : PySem.Str} (h : Pure9 m y) (g : Pure9 k z) : Pure9 (m + k) (y ++ z) := ⟨by
  rw [app_cps, List.mem_append]
  exact fun e => e.elim h.1 g.1, by rw [app_len]; exact Nat.add_le_add h.2.1 g.2.1, fun x hx => by
    rw [app_cps, List.mem_append] at hx
    exact hx.elim (h.2.2 x) (g.2.2 x)⟩
theorem Pure9.cut {m : Nat} {z : PySem.Str} (h : Pure9 m z) (lo hi : Option Int) : Pure9 m (cutS z lo hi) := ⟨fun e => h.1 (by
  unfold cutS at e
  exact List.mem_of_mem_drop (List.mem_of_mem_take e)), by
  refine Nat.le_trans ?_ h.2.1
  show (cutS z lo hi).cps.size ≤ z.cps.size
  unfold cutS
  rw [List.size_toArray, List.length_take, List.length_drop, Array.length_toList]
  omega, fun x hx => h.2.2 x (by
  unfold cutS at hx
  exact List.mem_of_mem_drop (List.mem_of_mem_take hx))⟩
theorem Pure9.le {m k : Nat} {z : PySem.Str} (h : Pure9 m z) (e : m ≤ k) : Pure9 k z := ⟨h.1, Nat.le_trans h.2.1 e, h.2.2⟩
theorem line_ge : 100000 ≤ sizeLine := by rw [sizeLine_eq]; decide
def spNames : Sp := fun vs H Q _ => ∃ (b c : Addr) (many : Nat), vs = [.ref b, .int (many : Int)] ∧ BagAt c H b ∧ many ≤ 20 ∧
  ∀ (p : Addr) (ns : List PySem.Str) (H' : Hp), ns.length ≤ 20 → ns.Nodup → (∀ z ∈ ns, PyData.strOk z = true) → BagAt c H' b → Same (hid [b] H) (hid [b] H') → H p = none → H' p = some (.lst (ns.map V.str)) → Q (.ref p) H'
abbrev sc__law_names_N : List PySem.Str := ["bag", "many", "names", "words", "k", "name", "i"]
theorem sc__law_names : FnScope sc__law_names_N ["bag", "many"] (defScope (topS 14)) := ⟨rfl, rfl, rfl, by decide +kernel, rfl, by decide +kernel, by decide +kernel⟩
theorem ok_names (T : Blt mg) (D : DefAt K mg "_law_names" (topS 14) ["bag", "many"]) (D_law_pick : Cal P w K mg base 1 "_law_pick" spPick) (D_law_of : Cal P w K mg base 2 "_law_of" (spOf K)) : Cal P w K mg base 3 "_law_names" spNames := by
  refine cal_of D sc__law_names (fun vs H Q E h => ?_) (fun f cdv A outer s H vs Q E hr h => ?_)
  · obtain ⟨b, c, many, rfl, _⟩ := h
    rfl
  · obtain ⟨b, c, many, rfl, hb, hm, q⟩ := h
    refine ⟨_, (pss_cons (ps_par (i := 2) (j := 3) rfl sc__law_names.nd rfl rfl (by decide) rfl rfl (pa_cons (pe_lst pa_nil) (pa_cons (pe_lst (pa_cons pe_str (pa_cons pe_str (pa_cons pe_str (pa_cons pe_str (pa_cons pe_str (pa_cons pe_str (pa_cons pe_str (pa_cons pe_str (pa_cons pe_str (pa_cons pe_str (pa_cons pe_str pa_nil)))))))))))) pa_nil)) rfl)
  (pss_cons (ps_for PassesOwn.never rfl (Own.pi_rangeN rfl T.range (pa_cons (pv 1) pa_nil)) (pg_name (i := 4) sc__law_names.nd rfl (Or.inl rfl))
   (pss_cons (ps_set (i := 5) sc__law_names.nd rfl (Or.inl rfl) (pe_ix ix_str pe_str (Own.pe_c D_law_pick hr (by decide) rfl (pa_cons (pv 0) (pa_cons pe_int pa_nil))) (fun _ _ => rfl)))
  (pss_cons (ps_for PassesOwn.never rfl (Own.pi_rangeN rfl T.range (pa_cons (Own.pe_c D_law_of hr (by decide) rfl (pa_cons (pv 0) (pa_cons (pe_lst (pa_cons pe_int (pa_cons pe_int (pa_cons pe_int (pa_cons pe_int (pa_cons pe_int (pa_cons pe_int (pa_cons pe_int pa_nil)))))))) pa_nil))) pa_nil)) (pg_name (i := 6) sc__law_names.nd rfl (Or.inl rfl))
   (pss_one (ps_set (i := 5) sc__law_names.nd rfl (Or.inl rfl) (pe_op op_add_str (pv 5) (pe_ix ix_str pe_str (Own.pe_c D_law_pick hr (by decide) rfl (pa_cons (pv 0) (pa_cons pe_int pa_nil))) (fun _ _ => rfl))))))
  (pss_cons (ps_if (pt_cmpR Own.oc_eq (Own.pe_c D_law_pick hr (by decide) rfl (pa_cons (pv 0) (pa_cons pe_int pa_nil))) pe_int (nomark _))
   (pss_one (ps_set (i := 5) sc__law_names.nd rfl (Or.inl rfl) (Own.pe_c D_law_of hr (by decide) rfl (pa_cons (pv 0) (pa_cons (pv 3) pa_nil)))))
   pss_nil)
  (pss_cons (ps_if (pt_cmpR (Own.inSeq (K := K) rfl) (pv 5) (pv 2) rfl)
   (pss_one (ps_set (i := 5) sc__law_names.nd rfl (Or.inl rfl) (pe_op op_add_str (pe_slice sl_str (pv 5) po_none (po_some pe_int)) (pe_joined (PJ.cons pe_str (PJ.cons (pe_fmt (pv 4)) PJ.nil))))))
   pss_nil)
  (pss_one (ps_expr (pe_bm PySem.F.plainAttrs_list PySem.F.slot_list_append PySem.F.type_list_append mt_append (pv 2) (pa_cons (pv 5) pa_nil)))))))))
  (pss_one (ps_ret (pv 2))))), ?_⟩
    refine ⟨Nat.zero_le _, fun p hp => ?_⟩
    walk_at "go"
    intro wd hwd
    walk_at "go"
    have hwdH : H wd = none := same_none (Same.upd_new hp) hwd
    have hpw : p ≠ wd := fun z => by rw [← z, upd_same] at hwd; cases hwd
    have hpb := hb.ne hp
    have hwb := hb.ne hwdH
    have hw0 : upd (upd H p (.lst [])) wd (.lst (wordsS.map V.str)) wd = some (.lst (wordsS.map V.str)) := upd_same
    have hp0 : upd (upd H p (.lst [])) wd (.lst (wordsS.map V.str)) p = some (.lst []) := by rw [upd_ne hpw]; exact upd_same
    have hb0 : BagAt c (upd (upd H p (.lst [])) wd (.lst (wordsS.map V.str))) b := (hb.put hpb).put hwb
    have hs0 : Same (hid [b] H) (hid [b] (upd (upd H p (.lst [])) wd (.lst (wordsS.map V.str)))) := same_hid_put (same_hid_put (Same.refl _) hp) hwdH
    refine for_it walk_rangeN (fun k σ H' => ∃ (ns : List PySem.Str) (e4 e5 e6 : Option V), σ = [some (.ref b), some (.int (many : Int)), some (.ref p), some (.ref wd), e4, e5, e6] ∧ NamesOk k ns ∧ BagAt c H' b ∧ Same (hid [b] H) (hid [b] H') ∧ H' p = some (.lst (ns.map V.str)) ∧ H' wd = some (.lst (wordsS.map V.str)))
      ⟨[], none, none, none, rfl, ⟨rfl, List.nodup_nil, fun z hz => by cases hz⟩, hb0, hs0, hp0, hw0⟩ (fun _ _ _ _ _ => trivial) ?_ ?_
    · rintro k x σ H1 H2 hk ⟨ns, e4, e5, e6, rfl, h1, h2, h3, h4, h5⟩ ⟨rfl, rfl⟩
      have N0 : NmSt b c p wd H ns H2 := ⟨h2, h3, h4, h5⟩
      clear h2 h3 h4 h5
      have hk2 : k < 20 := by omega
      walk_at "go"
      refine ⟨b, c, 26, rfl, N0.bag, by decide, by decide, fun d H3 hd hb3 e => ?_⟩
      obtain ⟨c1, hc1, hc2⟩ := lit_sign (z := "abcdefghijklmnopqrstuvwxyz") (n := 26) (by decide +kernel) hd
      refine ⟨_, (d : Int), c1, rfl, rfl, (Nat.le_trans (by decide +kernel) line_ge), hc1, ?_⟩
      replace N0 := N0.step hpb.1 hwb.1 hb3 e
      clear hb3 e hc1
      walk_at "go"
      intro L hL
      refine ⟨b, c, L, natsV [0, 2, 1, 7, 0, 3, 4], rfl, N0.bag.upd hL, SqL.of (hid_some.mpr ⟨by simpa using (N0.bag.ne hL).1, upd_same⟩), by decide, by decide, fun x H4 hx hb4 e => ?_⟩
      obtain ⟨n, hn, rfl⟩ := mem_nats hx
      have hn7 : n ≤ 7 := (show ∀ n ∈ [0, 2, 1, 7, 0, 3, 4], n ≤ 7 by decide) n hn
      replace N0 := (N0.new hL (o := .lst (natsV [0, 2, 1, 7, 0, 3, 4]))).step hpb.1 hwb.1 hb4 e
      clear hb4 e hL hx
      refine ⟨n, rfl, by omega, ?_⟩
      refine for_it walk_rangeN (fun i σ H' => ∃ (z : PySem.Str) (e6 : Option V), σ = [some (.ref b), some (.int (many : Int)), some (.ref p), some (.ref wd), some (.int (k : Int)), some (.str z), e6] ∧ Pure9 (1 + i) z ∧ NmSt b c p wd H ns H')
        ⟨_, _, rfl, pure_one hc2, N0⟩ (fun _ _ _ _ _ => trivial) ?_ ?_
      · rintro i x σ H5 H6 hi ⟨z, e6, rfl, hz, N1⟩ ⟨rfl, rfl⟩
        walk_at "go"
        refine ⟨b, c, 34, rfl, N1.bag, by decide, by decide, fun d H7 hd hb7 e => ?_⟩
        obtain ⟨c3, hc3, hc4⟩ := lit_sign (z := "abcdefghijklmnopqrstuvwxyz01234567") (n := 34) (by decide +kernel) hd
        refine ⟨_, (d : Int), c3, rfl, rfl, (Nat.le_trans (by decide +kernel) line_ge), hc3, ?_⟩
        refine ⟨z, ⟨#[c3]⟩, rfl, rfl, Nat.le_trans (Nat.add_le_add hz.2.1 (Nat.le_refl 1)) (Nat.le_trans (by omega) line_ge), ?_⟩
        exact ⟨_, _, rfl, by rw [← Nat.add_assoc]; exact hz.app (pure_one hc4), N1.step hpb.1 hwb.1 hb7 e⟩
      · rintro σ H5 ⟨z, e6, rfl, hz, N1⟩
        replace hz : Pure9 8 z := hz.le (by omega)
        dsimp only
        refine seq1_rest (fun σ H' => ∃ (z : PySem.Str) (e6 : Option V), σ = [some (.ref b), some (.int (many : Int)), some (.ref p), some (.ref wd), some (.int (k : Int)), some (.str z), e6] ∧ Pure9 8 z ∧ NmSt b c p wd H ns H') (fun N rest => ?_) ?_
        · walk_at "go"
          refine ⟨b, c, 9, rfl, N1.bag, by decide, by decide, fun d H7 hd hb7 e => ?_⟩
          replace N1 := N1.step hpb.1 hwb.1 hb7 e
          walk_at "go"
          refine ite2 (fun _ => ?_) (fun _ => ?_)
          · walk_at "go"
            refine ⟨b, c, wd, wordsS.map V.str, rfl, N1.bag, SqL.of (hid_some.mpr ⟨by simpa using hwb.1, N1.wd⟩), by decide, by decide, fun x H8 hx hb8 e => ?_⟩
            obtain ⟨y, hy, rfl⟩ := List.mem_map.mp hx
            exact rest _ _ ⟨y, _, rfl, words_pure y hy, N1.step hpb.1 hwb.1 hb8 e⟩
          · exact rest _ _ ⟨z, _, rfl, hz, N1⟩
        · clear hz N1 z
          rintro σ H6 ⟨z, e6, rfl, hz, N1⟩
          refine seq1_rest (fun σ H' => ∃ (z : PySem.Str) (e6 : Option V), σ = [some (.ref b), some (.int (many : Int)), some (.ref p), some (.ref wd), some (.int (k : Int)), some (.str z), e6] ∧ NamesOk (k + 1) (ns ++ [z]) ∧ NmSt b c p wd H ns H') (fun N rest => ?_) ?_
          · walk_at "go"
            refine ⟨p, _, rfl, .inl (SqL.of N1.nm), rfl, flat_strs ns, ?_⟩
            walk_at "go"
            rw [inV_strs]
            refine ite2 (fun hin => ?_) (fun hin => ?_)
            · walk_at "go"
              have hns : (nine k).length ≤ 8 := nine_short ⟨k, by omega⟩
              refine ⟨Nat.le_trans hz.2.1 (Nat.le_trans (by decide) line_ge), ?_⟩
              refine ⟨_, rfl, Nat.le_trans (show _ ≤ 1 by decide +kernel) (Nat.le_trans (by decide) line_ge), ?_⟩
              refine ⟨_, rfl, Or.inr ⟨(k : Int), rfl, (by rw [Int.natAbs_natCast]; have := Nat.log2_le_self k; omega), _, rfl, Nat.le_trans hns (Nat.le_trans (by decide) line_ge), ?_⟩⟩
              have hcz := hz.cut none (some 4)
              refine ⟨cutS z none (some 4), nine k, rfl, rfl, Nat.le_trans (Nat.add_le_add hcz.2.1 hns) (Nat.le_trans (by decide) line_ge), ?_⟩
              exact rest _ _ ⟨_, _, rfl, h1.nine (by omega) hcz, N1⟩
            · exact rest _ _ ⟨z, _, rfl, h1.pure hz (fun h => hin (decide_eq_true h)), N1⟩
          · rintro σ H7 ⟨z, e6, rfl, hz, N2⟩
            walk_at "go"
            refine ⟨.inl ⟨rfl, _, SqL.of N2.nm⟩, ?_⟩
            walk_at "go"
            refine ⟨p, _, _, rfl, rfl, N2.nm, (by rw [List.length_map, h1.len]; have := line_ge; omega), ?_⟩
            walk_at "go"
            refine ⟨ns ++ [z], _, _, _, rfl, hz, N2.bag.put hpb, same_hid_put N2.same hp, ?_, ?_⟩
            · rw [upd_same, List.map_append]; rfl
            · rw [upd_ne hpw.symm]; exact N2.wd
    · rintro σ H1 ⟨ns, e4, e5, e6, rfl, h1, h2, h3, h4, h5⟩
      walk_at "go"
      exact q p ns _ (by rw [h1.len]; exact hm) h1.nd (h1.ok (by omega)) h2 h3 hp h4
end
end Cl

namespace Cl
local macro_rules | `(tactic| walk_at "go") => `(tactic| repeat (first | (refine ⟨_, rfl, ?_⟩) | (refine ⟨_, _, rfl, rfl, ?_⟩) | (refine ⟨_, rfl, rfl, ?_⟩) | (refine ⟨_, _, rfl, ?_⟩) | (refine And.intro (by first | with_reducible rfl | rfl | omega | decide | assumption | (dsimp only; first | omega | decide | assumption)) ?_)))

local macro_rules | `(tactic| walk_at "bag") => `(tactic| repeat (first | (refine ⟨_, _, _, _, rfl, rfl, L2.SqL.of L2.upd_same, (by rfl), ?_⟩) | (refine ⟨_, _, _, _, rfl, rfl, L2.upd_same, (by rfl), ?_⟩) | (refine ⟨_, rfl, ?_⟩) | (refine ⟨_, _, rfl, rfl, ?_⟩) | (refine ⟨_, rfl, rfl, ?_⟩) | (refine ⟨_, _, rfl, ?_⟩) | (refine And.intro (by first | with_reducible rfl | rfl | omega | decide | assumption | (dsimp only; first | omega | decide | assumption)) ?_)))
open PySem L2 Own Bits
section
variable {P : Program} {w : World} {K : PySem.W.Frag} {mg : PySem.Str → Option Value} {base : Heap}

/-! ### pairs of numbers in the heap -/
/-- the dict's pairs say the steps -/
inductive SRel (H : Hp) : List (Key × V) → Steps → Prop
  | nil : SRel H [] []
  | cons {w r l : Nat} {t : Addr} {kvs : List (Key × V)} {S : Steps} (ht : H t = some (.tup [.int (r : Int), .int (l : Int)])) (q : SRel H kvs S) : SRel H ((Sum.inl (w : Int), .ref t) :: kvs) ((w, (r, l)) :: S)
theorem SRel.imp {H H' : Hp} (e : ∀ t xs, H t = some (.tup xs) → H' t = some (.tup xs)) : ∀ {kvs : List (Key × V)} {S : Steps}, SRel H kvs S → SRel H' kvs S
  | _, _, .nil => .nil
  | _, _, .cons h r => .cons (e _ _ h) (r.imp e)
theorem SRel.len {H : Hp} : ∀ {kvs : List (Key × V)} {S : Steps}, SRel H kvs S → kvs.length = S.length
  | _, _, .nil => rfl
  | _, _, .cons _ r => by rw [List.length_cons, List.length_cons, r.len]
theorem SRel.snoc {H : Hp} {w r l : Nat} {t : Addr} (ht : H t = some (.tup [.int (r : Int), .int (l : Int)])) : ∀ {kvs : List (Key × V)} {S : Steps}, SRel H kvs S → SRel H (kvs ++ [(Sum.inl (w : Int), .ref t)]) (S ++ [(w, (r, l))])
  | _, _, .nil => .cons ht .nil
  | _, _, .cons h r => .cons h (r.snoc ht)
theorem SRel.look {H : Hp} {w : Nat} : ∀ {kvs : List (Key × V)} {S : Steps}, SRel H kvs S → (∀ r, look2 S w = some r → ∃ t, valV kvs (Sum.inl (w : Int)) = some (.ref t) ∧ H t = some (.tup [.int (r.1 : Int), .int (r.2 : Int)])) ∧ (look2 S w = none → valV kvs (Sum.inl (w : Int)) = none)
  | _, _, .nil => ⟨fun r h => (by cases h), fun _ => rfl⟩
  | _, _, @SRel.cons _ w' r l t kvs S ht q => by
    have ih := SRel.look (w := w) q
    by_cases e : w' = w
    · subst e
      have e1 : look2 ((w', (r, l)) :: S) w' = some (r, l) := by unfold look2; rw [List.find?_cons, decide_eq_true rfl]; rfl
      rw [e1]
      refine ⟨fun q h => ?_, fun h => by cases h⟩
      have h' := Option.some.inj h
      subst h'
      exact ⟨t, valV_pos (p := (Sum.inl (w' : Int), V.ref t)) rfl, ht⟩
    · have e1 : look2 ((w', (r, l)) :: S) w = look2 S w := by unfold look2; rw [List.find?_cons, decide_eq_false e]
      have e2 : valV ((Sum.inl (w' : Int), V.ref t) :: kvs) (Sum.inl (w : Int) : Key) = valV kvs (Sum.inl (w : Int)) := valV_neg (p := (Sum.inl (w' : Int), V.ref t)) fun z => e (by have := Sum.inl.inj z; omega)
      rw [e1, e2]
      exact ih
/-- a list of pairs of numbers -/
inductive PRel (H : Hp) : List V → List (Nat × Nat) → Prop
  | nil : PRel H [] []
  | cons {r l : Nat} {t : Addr} {vs : List V} {C : List (Nat × Nat)} (ht : H t = some (.tup [.int (r : Int), .int (l : Int)])) (q : PRel H vs C) : PRel H (.ref t :: vs) ((r, l) :: C)
theorem PRel.imp {H H' : Hp} (e : ∀ t xs, H t = some (.tup xs) → H' t = some (.tup xs)) : ∀ {vs : List V} {C : List (Nat × Nat)}, PRel H vs C → PRel H' vs C
  | _, _, .nil => .nil
  | _, _, .cons h r => .cons (e _ _ h) (r.imp e)
theorem PRel.same {H H' : Hp} (e : Same H H') {vs : List V} {C : List (Nat × Nat)} (h : PRel H vs C) : PRel H' vs C := h.imp fun _ _ q => e _ _ q
theorem PRel.len {H : Hp} : ∀ {vs : List V} {C : List (Nat × Nat)}, PRel H vs C → vs.length = C.length
  | _, _, .nil => rfl
  | _, _, .cons _ r => by rw [List.length_cons, List.length_cons, r.len]
theorem PRel.app {H : Hp} : ∀ {vs us : List V} {C D : List (Nat × Nat)}, PRel H vs C → PRel H us D → PRel H (vs ++ us) (C ++ D)
  | _, _, _, _, .nil, r => r
  | _, _, _, _, .cons h q, r => .cons h (q.app r)
theorem PRel.get {H : Hp} : ∀ {vs : List V} {C : List (Nat × Nat)} {i : Nat} {x : V}, PRel H vs C → vs[i]? = some x → ∃ (t : Addr) (r l : Nat), C[i]? = some (r, l) ∧ x = .ref t ∧ H t = some (.tup [.int (r : Int), .int (l : Int)])
  | _, _, 0, x, .cons h _, e => by
    have e' := Option.some.inj e
    subst e'
    exact ⟨_, _, _, rfl, rfl, h⟩
  | _, _, i + 1, x, .cons _ q, e => PRel.get (i := i) (x := x) q e
theorem PRel.take {H : Hp} : ∀ {vs : List V} {C : List (Nat × Nat)} (n : Nat), PRel H vs C → PRel H (vs.take n) (C.take n)
  | _, _, 0, _ => .nil
  | _, _, _ + 1, .nil => .nil
  | _, _, n + 1, .cons h r => .cons h (r.take n)
theorem PRel.drop {H : Hp} : ∀ {vs : List V} {C : List (Nat × Nat)} (n : Nat), PRel H vs C → PRel H (vs.drop n) (C.drop n)
  | _, _, 0, h => h
  | _, _, _ + 1, .nil => .nil
  | _, _, n + 1, .cons _ r => r.drop n

/-! ### _law_less -/
def spLess : Sp := fun vs H Q _ => ∃ (d : Addr) (row lot : Nat) (kvs : List (Key × V)) (S : Steps), vs = [.ref d, .int (row : Int), .int (lot : Int)] ∧ H d = some (.dK kvs) ∧ SRel H kvs S ∧ (∀ p ∈ S, p.1 = bl p.2.1 ∧ 2 ≤ p.2.1) ∧ bl row ≤ 1000 ∧
  ∀ (p : Addr) (r' l' : Nat), (r' < 2 ∨ look2 S (bl r') = none) → (∀ c, (∀ q ∈ S, fi c q.2.1 = false) → fi c r' = fi c row) → bl r' ≤ bl row → H p = none → Q (.ref p) (upd H p (.tup [.int (r' : Int), .int (l' : Int)]))
abbrev sc__law_less_N : List PySem.Str := ["steps", "row", "lot", "k", "step"]
theorem sc__law_less : FnScope sc__law_less_N ["steps", "row", "lot"] (defScope (topS 15)) := ⟨rfl, rfl, rfl, by decide +kernel, rfl, by decide +kernel, by decide +kernel⟩
theorem ok_less (T : Blt mg) (D : DefAt K mg "_law_less" (topS 15) ["steps", "row", "lot"]) : Cal P w K mg base 1 "_law_less" spLess := by
  refine cal_of D sc__law_less (fun vs H Q E h => ?_) (fun f cdv A outer s H vs Q E hr h => ?_)
  · obtain ⟨d, row, lot, kvs, S, rfl, _⟩ := h
    rfl
  · obtain ⟨d, row, lot, kvs, S, rfl, hd, hS, hrow, hbl, q⟩ := h
    refine ⟨_, (pss_cons (ps_for PassesOwn.never rfl (Own.pi_rangeN rfl T.range (pa_cons (Own.pe_bitsN (pv 1)) pa_nil)) (pg_name (i := 3) sc__law_less.nd rfl (Or.inl rfl))
   (pss_cons (ps_if (PW.pt (pw_or (pt_cmpR Own.oc_lt (pv 1) pe_int (nomark _)) (pw_or1 (pt_cmp (pc_dnotin (hu_of hr) (Own.pe_bitsN (pv 1)) (pv 0))))))
   (pss_one ps_break)
   pss_nil)
  (pss_cons (ps_set (i := 4) sc__law_less.nd rfl (Or.inl rfl) (pe_dget (hu_of hr) (pv 0) (Own.pe_bitsN (pv 1)) (fun _ _ => rfl)))
  (pss_cons (ps_set (i := 1) sc__law_less.nd rfl (Or.inl rfl) (pe_op Own.on_xor (pv 1) (pe_ix (Own.ixT (K := K) rfl) (pv 4) pe_int (fun _ _ => rfl))))
  (pss_one (ps_set (i := 2) sc__law_less.nd rfl (Or.inl rfl) (pe_op Own.on_xor (pv 2) (pe_ix (Own.ixT (K := K) rfl) (pv 4) pe_int (fun _ _ => rfl)))))))))
  (pss_one (ps_ret (pe_tup (pa_cons (pv 1) (pa_cons (pv 2) pa_nil)))))), ?_⟩
    refine seq1_rest (fun σ H' => H' = H ∧ ∃ (r l : Nat) (e3 e4 : Option V), σ = [some (.ref d), some (.int (r : Int)), some (.int (l : Int)), e3, e4] ∧ (r < 2 ∨ look2 S (bl r) = none) ∧ (∀ c, (∀ q ∈ S, fi c q.2.1 = false) → fi c r = fi c row) ∧ bl r ≤ bl row) (fun N rest => ?_) ?_
    · walk_at "go"
      refine for_it walk_rangeN (fun i σ H' => H' = H ∧ ∃ (r l : Nat) (e3 e4 : Option V), σ = [some (.ref d), some (.int (r : Int)), some (.int (l : Int)), e3, e4] ∧ bl r + i ≤ bl row ∧ (∀ c, (∀ q ∈ S, fi c q.2.1 = false) → fi c r = fi c row))
        ⟨rfl, row, lot, none, none, rfl, Nat.le_refl _, fun _ _ => rfl⟩ (fun _ _ _ _ _ => trivial) ?_ ?_
      · rintro i x σ H1 H2 hi ⟨rfl, r, l, e3, e4, rfl, h1, h2⟩ ⟨rfl, rfl⟩
        walk_at "go"
        refine ite2 (fun hlt => ?_) (fun hlt => ?_)
        · refine iteT ?_
          exact rest _ _ ⟨rfl, r, l, _, e4, rfl, .inl (of_decide_eq_true hlt), h2, by omega⟩
        · have h2r : 2 ≤ r := Nat.le_of_not_lt fun z => hlt (decide_eq_true z)
          walk_at "go"
          refine ⟨d, _, rfl, DGet.k (k := Sum.inl ((bl r : Nat) : Int)) hd, _, rfl, ?_⟩
          cases hl : look2 S (bl r) with
          | none =>
            rw [hS.look.2 hl]
            refine iteT ?_
            exact rest _ _ ⟨rfl, r, l, _, e4, rfl, .inr hl, h2, by omega⟩
          | some y =>
            obtain ⟨o, m⟩ := y
            obtain ⟨t, ht1, ht2⟩ := hS.look.1 _ hl
            dsimp only at ht2
            have hg := DGet.k (k := Sum.inl ((bl r : Nat) : Int)) hd
            rw [ht1] at hg ⊢
            obtain ⟨f1, f2⟩ := hrow _ (look2_some hl)
            dsimp only at f1 f2
            have hlt2 : bl (r ^^^ o) < bl r := bl_xor (by omega) f1.symm
            refine iteF ?_
            walk_at "go"
            refine ⟨d, _, rfl, hg, ?_⟩
            walk_at "go"
            refine ⟨t, _, 0, _, rfl, rfl, SqT.of ht2, rfl, ?_⟩
            walk_at "go"
            refine ⟨t, _, 1, _, rfl, rfl, SqT.of ht2, rfl, ?_⟩
            walk_at "go"
            refine ⟨r ^^^ o, l ^^^ m, _, _, rfl, by omega, fun c hc => ?_⟩
            rw [fi_xor, hc _ (look2_some hl), Bool.xor_false]
            exact h2 c hc
      · rintro σ H1 ⟨rfl, r, l, e3, e4, rfl, h1, h2⟩
        refine rest _ _ ⟨rfl, r, l, e3, e4, rfl, .inl ?_, h2, by omega⟩
        have : r = 0 := by
          by_cases z : r = 0
          · exact z
          · have := bl_pos z; omega
        omega
    · rintro σ H1 ⟨rfl, r, l, e3, e4, rfl, h1, h2, h3⟩
      walk_at "go"
      exact ⟨(by show 2 ≤ sizeLine; decide), fun p hp => q p r l h1 h2 h3 hp⟩

/-! ### _law_sum, _law_parity, _law_is_int, _law_chosen -/
def spSum (K : PySem.W.Frag) : Sp := fun vs H Q _ => ∃ (t : Addr) (l : List Nat), vs = [.ref t] ∧ SqL K H t (natsV l) ∧ Q (.int ((xsum l : Nat) : Int)) H
theorem natsV_get {l : List Nat} {i : Nat} {x : V} (h : (natsV l)[i]? = some x) : ∃ n : Nat, l[i]? = some n ∧ x = .int (n : Int) := by
  unfold natsV at h
  rw [List.getElem?_map] at h
  cases e : l[i]? with
  | none => rw [e] at h; cases h
  | some n =>
    rw [e] at h
    exact ⟨n, rfl, (Option.some.inj h).symm⟩
theorem natsV_len (l : List Nat) : (natsV l).length = l.length := List.length_map ..
abbrev sc__law_sum_N : List PySem.Str := ["rows", "total", "row"]
theorem sc__law_sum : FnScope sc__law_sum_N ["rows"] (defScope (topS 18)) := ⟨rfl, rfl, rfl, by decide +kernel, rfl, by decide +kernel, by decide +kernel⟩
theorem ok_sum (_T : Blt mg) (D : DefAt K mg "_law_sum" (topS 18) ["rows"]) : Cal P w K mg base 1 "_law_sum" (spSum K) := by
  refine cal_of D sc__law_sum (fun vs H Q E h => ?_) (fun f cdv A outer s H vs Q E hr h => ?_)
  · obtain ⟨t, l, rfl, _⟩ := h
    rfl
  · obtain ⟨t, l, rfl, ht, q⟩ := h
    refine ⟨_, (pss_cons (ps_set (i := 1) sc__law_sum.nd rfl (Or.inl rfl) pe_int)
  (pss_cons (ps_for PassesOwn.never rfl (Own.pi_listK (K := K) rfl (pv 0)) (pg_name (i := 2) sc__law_sum.nd rfl (Or.inl rfl))
   (pss_one (ps_set (i := 1) sc__law_sum.nd rfl (Or.inl rfl) (pe_op Own.on_xor (pv 1) (pv 2)))))
  (pss_one (ps_ret (pv 1))))), ?_⟩
    walk_at "go"
    refine ⟨⟨_, ht⟩, for_it walk_list (fun i σ H' => H' = H ∧ ∃ e, σ = [some (.ref t), some (.int ((xsum (l.take i) : Nat) : Int)), e]) ⟨rfl, none, rfl⟩ (fun i σ H' _ ⟨e, _⟩ => by rw [e]; exact ht) ?_ ?_⟩
    · rintro i x σ H' H'' hi ⟨rfl, e, rfl⟩ ⟨rfl, hx⟩
      obtain ⟨n, hn, rfl⟩ := natsV_get hx
      walk_at "go"
      refine ⟨some (.int (n : Int)), ?_⟩
      rw [List.take_add_one, hn, xsum_append]
      show [some (V.ref t), some (.int ((xsum (l.take i) ^^^ n : Nat) : Int)), some (.int (n : Int))] = [some (V.ref t), some (.int ((xsum (l.take i) ^^^ xsum [n] : Nat) : Int)), some (.int (n : Int))]
      rw [show xsum [n] = n by unfold xsum; simp]
    · rintro σ H' ⟨rfl, e, rfl⟩
      walk_at "go"
      rw [natsV_len, List.take_length]
      exact q
def pb (n : Nat) : Nat := if par n = true then 1 else 0
def spParity : Sp := fun vs H Q _ => ∃ n : Nat, vs = [.int (n : Int)] ∧ bl n ≤ 1000 ∧ Q (.int ((pb n : Nat) : Int)) H
abbrev sc__law_parity_N : List PySem.Str := ["number", "many", "k"]
theorem sc__law_parity : FnScope sc__law_parity_N ["number"] (defScope (topS 20)) := ⟨rfl, rfl, rfl, by decide +kernel, rfl, by decide +kernel, by decide +kernel⟩
theorem ok_parity (T : Blt mg) (D : DefAt K mg "_law_parity" (topS 20) ["number"]) : Cal P w K mg base 1 "_law_parity" spParity := by
  refine cal_of D sc__law_parity (fun vs H Q E h => ?_) (fun f cdv A outer s H vs Q E hr h => ?_)
  · obtain ⟨n, rfl, _⟩ := h
    rfl
  · obtain ⟨n, rfl, hn, q⟩ := h
    refine ⟨_, (pss_cons (ps_set (i := 1) sc__law_parity.nd rfl (Or.inl rfl) pe_int)
  (pss_cons (ps_for PassesOwn.never rfl (Own.pi_rangeN rfl T.range (pa_cons (Own.pe_bitsN (pv 0)) pa_nil)) (pg_name (i := 2) sc__law_parity.nd rfl (Or.inl rfl))
   (pss_one (ps_set (i := 1) sc__law_parity.nd rfl (Or.inl rfl) (pe_op Own.on_add (pv 1) (pe_op Own.on_and (pe_op Own.on_shr (pv 0) (pv 2)) pe_int)))))
  (pss_one (ps_ret (pe_op Own.on_and (pv 1) pe_int))))), ?_⟩
    walk_at "go"
    refine for_it walk_rangeN (fun i σ H' => H' = H ∧ ∃ (m : Nat) (e : Option V), σ = [some (.int (n : Int)), some (.int (m : Int)), e] ∧ ((m % 2 == 1) ^^ par (n / 2 ^ i)) = par n) ⟨rfl, 0, none, rfl, by rw [Nat.pow_zero, Nat.div_one]; simp⟩ (fun _ _ _ _ _ => trivial) ?_ ?_
    · rintro i x σ H1 H2 hi ⟨rfl, m, e, rfl, h1⟩ ⟨rfl, rfl⟩
      walk_at "go"
      show (((m + ((n / 2 ^ i) &&& 1)) % 2 == 1) ^^ par (n / 2 ^ (i + 1))) = par n
      rw [← h1, par_step (n / 2 ^ i), Nat.div_div_eq_div_mul, ← Nat.pow_succ, ← Bool.xor_assoc]
      congr 1
      rw [Nat.and_one_is_mod]
      have z : m % 2 = 0 ∨ m % 2 = 1 := by omega
      have y : n / 2 ^ i % 2 = 0 ∨ n / 2 ^ i % 2 = 1 := by omega
      generalize n / 2 ^ i = u at y ⊢
      have e3 : (m + u % 2) % 2 = (m % 2 + u % 2) % 2 := by omega
      rw [e3]
      rcases z with z | z <;> rcases y with y | y <;> rw [z, y] <;> rfl
    · rintro σ H1 ⟨rfl, m, e, rfl, h1⟩
      walk_at "go"
      rw [Nat.div_eq_of_lt (lt_bl n), par_zero, Bool.xor_false] at h1
      show Q (.int ((m &&& 1 : Nat) : Int)) _
      have e3 : m &&& 1 = pb n := by
        rw [Nat.and_one_is_mod]
        unfold pb
        rw [← h1]
        have z : m % 2 = 0 ∨ m % 2 = 1 := by omega
        rcases z with z | z <;> rw [z] <;> rfl
      rw [e3]
      exact q
def spIsInt : Sp := fun vs H Q _ => ∃ i : Int, vs = [.int i] ∧ Q (.bl true) H
abbrev sc__law_is_int_N : List PySem.Str := ["told"]
theorem sc__law_is_int : FnScope sc__law_is_int_N ["told"] (defScope (topS 19)) := ⟨rfl, rfl, rfl, by decide +kernel, rfl, by decide +kernel, by decide +kernel⟩
theorem ok_is_int (T : Blt mg) (D : DefAt K mg "_law_is_int" (topS 19) ["told"]) : Cal P w K mg base 1 "_law_is_int" spIsInt := by
  refine cal_of D sc__law_is_int (fun vs H Q E h => ?_) (fun f cdv A outer s H vs Q E hr h => ?_)
  · obtain ⟨i, rfl, _⟩ := h
    rfl
  · obtain ⟨i, rfl, q⟩ := h
    refine ⟨_, (pss_one (ps_ret (pe_and (pe_callB (Own.isiK (K := K) rfl) (by rfl) T.isinstance (by decide +kernel) (pa_cons (pv 0) (pa_cons (pe_bltn (v := .ty "int") rfl T.int (by decide +kernel) rfl) pa_nil))) (pe_one (pe_not (pe_callB (Own.isiK (K := K) rfl) (by rfl) T.isinstance (by decide +kernel) (pa_cons (pv 0) (pa_cons (pe_bltn (v := .ty "bool") rfl T.bool (by decide +kernel) rfl) pa_nil)))))))), ?_⟩
    walk_at "go"
    refine ⟨_, _, _, _, true, rfl, .ty _, .base (.int i), kit_ty (by decide +kernel), true, rfl, ?_⟩
    refine iteT ?_
    walk_at "go"
    refine ⟨_, _, _, _, false, rfl, .ty _, .base (.int i), kit_ty (by decide +kernel), ?_⟩
    walk_at "go"
    exact q
/-- the things whose places the lot has -/
def selV {α : Type} (xs : List α) (lot i : Nat) : List α := ((List.range i).filter fun k => lot.testBit k).filterMap fun k => xs[k]?
theorem shr_bit (n k : Nat) : decide ((n / 2 ^ k) &&& 1 = 1) = n.testBit k := by
  rw [Nat.and_one_is_mod, Nat.testBit_eq_decide_div_mod_eq]
theorem selV_succ {α : Type} {xs : List α} {lot i : Nat} {x : α} (h : xs[i]? = some x) : selV xs lot (i + 1) = selV xs lot i ++ (if lot.testBit i = true then [x] else []) := by
  unfold selV
  rw [List.range_succ, List.filter_append, List.filterMap_append]
  congr 1
  cases e : lot.testBit i with
  | true => simp [e, h]
  | false => simp [e]
theorem selV_len {α : Type} (xs : List α) (lot i : Nat) : (selV xs lot i).length ≤ i := by
  unfold selV
  refine Nat.le_trans (List.length_filterMap_le _ _) (Nat.le_trans (List.length_filter_le _ _) ?_)
  rw [List.length_range]
  exact Nat.le_refl _
def spChosen (K : PySem.W.Frag) : Sp := fun vs H Q _ => ∃ (t : Addr) (xs : List V) (lot : Nat), vs = [.ref t, .int (lot : Int)] ∧ SqL K H t xs ∧ xs.length ≤ 1000 ∧ ∀ p, H p = none → Q (.ref p) (upd H p (.lst (selV xs lot xs.length)))
abbrev sc__law_chosen_N : List PySem.Str := ["things", "lot", "k"]
theorem sc__law_chosen : FnScope sc__law_chosen_N ["things", "lot"] (defScope (topS 17)) := ⟨rfl, rfl, rfl, by decide +kernel, rfl, by decide +kernel, by decide +kernel⟩
theorem ok_chosen (T : Blt mg) (D : DefAt K mg "_law_chosen" (topS 17) ["things", "lot"]) : Cal P w K mg base 1 "_law_chosen" (spChosen K) := by
  refine cal_of D sc__law_chosen (fun vs H Q E h => ?_) (fun f cdv A outer s H vs Q E hr h => ?_)
  · obtain ⟨t, xs, lot, rfl, _⟩ := h
    rfl
  · obtain ⟨t, xs, lot, rfl, ht, hl, q⟩ := h
    refine ⟨_, (pss_one (ps_ret (pe_lc (own := [("k", 2)]) (g := (gName 2)) rfl sc__law_chosen.nd (Own.pi_rangeN rfl T.range (pa_cons (pe_callB call_len_seq (by rfl) T.len (by decide +kernel) (pa_cons (pv 0) pa_nil)) pa_nil)) (blkOk_by (own := [("k", 2)]) (N := sc__law_chosen_N) (sc := defScope (topS 17)) (by decide +kernel)) (fun _ _ _ _ _ => (pg_name (i := 2) sc__law_chosen.nd rfl (Or.inl rfl))) (fun _ _ _ _ _ => (pts_one (pt_cmpR Own.oc_eq (pe_op Own.on_and (pe_op Own.on_shr (pv 1) (pv 2)) pe_int) pe_int (nomark _)))) (fun _ _ _ _ _ => (pe_ix (Own.ixL (K := K) rfl) (pv 0) (pv 2) (fun _ _ => rfl)))))), ?_⟩
    walk_at "go"
    refine ⟨t, xs, rfl, .inl ht, ?_⟩
    walk_at "go"
    intro D hD
    refine lc_it walk_rangeN (fun i H' => H' = upd H D (.lst (selV xs lot i))) rfl (fun _ _ _ _ => trivial) ?_ ?_
    · rintro i x H1 H2 hi rfl ⟨rfl, rfl⟩
      walk_at "go"
      have hx : xs[i]? = some xs[i] := List.getElem?_eq_getElem hi
      have hsuc := selV_succ (lot := lot) hx
      have hln := selV_len xs lot i
      have hge := line_ge
      refine ite2 (fun hb => ?_) (fun hb => ?_)
      · have hb2 : lot.testBit i = true := (shr_bit lot i).symm.trans hb
        rw [hb2, if_pos rfl] at hsuc
        walk_at "go"
        refine ⟨t, xs, (i : Int), xs[i], rfl, rfl, (Same.upd_new hD).seq ht, atI_nat hx, ?_⟩
        refine ⟨_, upd_same, by omega, ?_⟩
        rw [upd_upd, hsuc]
      · rw [if_neg fun z => hb ((shr_bit lot i).trans z), List.append_nil] at hsuc
        rw [hsuc]
    · rintro H1 rfl
      exact q D hD
end
end Cl

namespace Cl
local macro_rules | `(tactic| walk_at "go") => `(tactic| repeat (first | (refine ⟨_, rfl, ?_⟩) | (refine ⟨_, _, rfl, rfl, ?_⟩) | (refine ⟨_, rfl, rfl, ?_⟩) | (refine ⟨_, _, rfl, ?_⟩) | (refine And.intro (by first | with_reducible rfl | rfl | omega | decide | assumption | (dsimp only; first | omega | decide | assumption)) ?_)))

local macro_rules | `(tactic| walk_at "bag") => `(tactic| repeat (first | (refine ⟨_, _, _, _, rfl, rfl, L2.SqL.of L2.upd_same, (by rfl), ?_⟩) | (refine ⟨_, _, _, _, rfl, rfl, L2.upd_same, (by rfl), ?_⟩) | (refine ⟨_, rfl, ?_⟩) | (refine ⟨_, _, rfl, rfl, ?_⟩) | (refine ⟨_, rfl, rfl, ?_⟩) | (refine ⟨_, _, rfl, ?_⟩) | (refine And.intro (by first | with_reducible rfl | rfl | omega | decide | assumption | (dsimp only; first | omega | decide | assumption)) ?_)))
open PySem L2 Own Bits
section
variable {P : Program} {w : World} {K : PySem.W.Frag} {mg : PySem.Str → Option Value} {base : Heap}

/-! ### _law_stairs -/
def spStairs (K : PySem.W.Frag) : Sp := fun vs H Q _ => ∃ (a : Addr) (rows : List Nat), vs = [.ref a] ∧ SqL K H a (natsV rows) ∧ rows.length ≤ 1000 ∧ (∀ r ∈ rows, bl r ≤ 1000) ∧
  ∀ (t d cl : Addr) (us : List V) (C : List (Nat × Nat)) (S : Steps) (H' : Hp), Same H H' → H t = none → H' t = some (.tup [.ref d, .ref cl]) → H' cl = some (.lst us) → PRel H' us C → StOk rows S C → C.length ≤ rows.length → Q (.ref t) H'
abbrev sc__law_stairs_N : List PySem.Str := ["rows", "steps", "closed", "k", "row", "lot"]
theorem sc__law_stairs : FnScope sc__law_stairs_N ["rows"] (defScope (topS 16)) := ⟨rfl, rfl, rfl, by decide +kernel, rfl, by decide +kernel, by decide +kernel⟩
theorem tup_keep {H : Hp} {p : Addr} {o o' : HO} (hp : H p = some o) (hn : ∀ xs, o ≠ .tup xs) : ∀ t xs, H t = some (.tup xs) → upd H p o' t = some (.tup xs) := fun t xs h => by
  rw [upd_ne (fun z => by
    rw [z, hp] at h
    exact hn xs (Option.some.inj h))]
  exact h
theorem ok_stairs (T : Blt mg) (D : DefAt K mg "_law_stairs" (topS 16) ["rows"]) (D_law_less : Cal P w K mg base 1 "_law_less" spLess) : Cal P w K mg base 2 "_law_stairs" (spStairs K) := by
  refine cal_of D sc__law_stairs (fun vs H Q E h => ?_) (fun f cdv A outer s H vs Q E hr h => ?_)
  · obtain ⟨a, rows, rfl, _⟩ := h
    rfl
  · obtain ⟨a, rows, rfl, ha, hlen, hbl, q⟩ := h
    refine ⟨_, (pss_cons (ps_par (i := 1) (j := 2) rfl sc__law_stairs.nd rfl rfl (by decide) rfl rfl (pa_cons pe_dnewK (pa_cons (pe_lst pa_nil) pa_nil)) rfl)
  (pss_cons (ps_for PassesOwn.never rfl (Own.pi_rangeN rfl T.range (pa_cons (pe_callB call_len_seq (by rfl) T.len (by decide +kernel) (pa_cons (pv 0) pa_nil)) pa_nil)) (pg_name (i := 3) sc__law_stairs.nd rfl (Or.inl rfl))
   (pss_cons (ps_asg (Own.pe_c D_law_less hr (by decide) rfl (pa_cons (pv 1) (pa_cons (pe_ix (Own.ixL (K := K) rfl) (pv 0) (pv 3) (fun _ _ => rfl)) (pa_cons (pe_op Own.on_shl pe_int (pv 3)) pa_nil)))) (pg_tup rfl (pgs_cons (pg_name (i := 4) sc__law_stairs.nd rfl (Or.inl rfl)) (pgs_cons (pg_name (i := 5) sc__law_stairs.nd rfl (Or.inl rfl)) pgs_nil))))
  (pss_one (ps_if (pt_cmpR Own.oc_lt (pv 4) pe_int (nomark _))
   (pss_one (ps_expr (pe_bm PySem.F.plainAttrs_list PySem.F.slot_list_append PySem.F.type_list_append mt_append (pv 2) (pa_cons (pe_tup (pa_cons (pv 4) (pa_cons (pv 5) pa_nil))) pa_nil))))
   (pss_one (ps_dput (hu_of hr) (pv 1) (Own.pe_bitsN (pv 4)) (pe_tup (pa_cons (pv 4) (pa_cons (pv 5) pa_nil))) rfl))))))
  (pss_one (ps_ret (pe_tup (pa_cons (pv 1) (pa_cons (pv 2) pa_nil))))))), ?_⟩
    walk_at "go"
    intro d hd
    walk_at "go"
    intro cl hcl
    walk_at "go"
    have hdc : d ≠ cl := fun z => by rw [← z, upd_same] at hcl; cases hcl
    have S0 : Same H (upd (upd H d (.dK [])) cl (.lst [])) := same_new (Same.upd_new hd) hcl
    refine ⟨a, _, rfl, .inl (S0.seq ha), ?_⟩
    walk_at "go"
    refine ⟨by rw [natsV_len]; omega, ?_⟩
    refine for_it walk_rangeN (fun i σ H' => ∃ (kvs : List (Key × V)) (S : Steps) (us : List V) (C : List (Nat × Nat)) (e3 e4 e5 : Option V), σ = [some (.ref a), some (.ref d), some (.ref cl), e3, e4, e5] ∧ Same H H' ∧ H' d = some (.dK kvs) ∧ SRel H' kvs S ∧ H' cl = some (.lst us) ∧ PRel H' us C ∧ StOk (rows.take i) S C ∧ S.length ≤ i ∧ C.length ≤ i)
      ⟨[], [], [], [], none, none, none, rfl, S0, (by rw [upd_ne hdc]; exact upd_same), .nil, upd_same, .nil, stOk_nil, Nat.le_refl _, Nat.le_refl _⟩ (fun _ _ _ _ _ => trivial) ?_ ?_
    · rintro i x σ H1 H2 hi ⟨kvs, S, us, C, e3, e4, e5, rfl, h1, h2, h3, h4, h5, h6, h7, h8⟩ ⟨rfl, rfl⟩
      rw [natsV_len] at hi
      have hge := line_ge
      have hx : rows[i]? = some rows[i] := List.getElem?_eq_getElem hi
      have htk : rows.take (i + 1) = rows.take i ++ [rows[i]] := by rw [List.take_add_one, hx]; rfl
      walk_at "go"
      refine ⟨a, natsV rows, (i : Int), .int (rows[i] : Int), rfl, rfl, h1.seq ha, atI_nat (by unfold natsV; rw [List.getElem?_map, hx]; rfl), ?_⟩
      walk_at "go"
      refine ⟨d, rows[i], 1 * 2 ^ i, kvs, S, rfl, h2, h3, fun p hp => h6.row p hp, hbl _ (List.getElem_mem hi), fun p r' l' hr1 hr2 hr3 hp => ?_⟩
      refine ⟨p, _, rfl, SqT.of upd_same, rfl, ?_⟩
      have g1 := same_new (o := .tup [.int (r' : Int), .int (l' : Int)]) h1 hp
      have g2 := Same.upd_new (o := .tup [.int (r' : Int), .int (l' : Int)]) hp _ _ h2
      have g3 := h3.imp fun _ _ z => Same.upd_new (o := .tup [.int (r' : Int), .int (l' : Int)]) hp _ _ z
      have g4 := Same.upd_new (o := .tup [.int (r' : Int), .int (l' : Int)]) hp _ _ h4
      have g5 := h5.same (Same.upd_new (o := .tup [.int (r' : Int), .int (l' : Int)]) hp)
      generalize upd H2 p (.tup [.int (r' : Int), .int (l' : Int)]) = H3 at g1 g2 g3 g4 g5
      clear hp
      walk_at "go"
      refine ite2 (fun hlt => ?_) (fun hlt => ?_)
      · have hlt2 : r' < 2 := of_decide_eq_true hlt
        walk_at "go"
        refine ⟨.inl ⟨rfl, _, SqL.of g4⟩, ?_⟩
        walk_at "go"
        refine ⟨(by show 2 ≤ sizeLine; decide), fun t ht => ?_⟩
        have tt : upd H3 t (.tup [.int (r' : Int), .int (l' : Int)]) t = some (.tup [.int (r' : Int), .int (l' : Int)]) := upd_same
        have k1 := same_new (o := .tup [.int (r' : Int), .int (l' : Int)]) g1 ht
        have k2 := Same.upd_new (o := .tup [.int (r' : Int), .int (l' : Int)]) ht _ _ g2
        have k3 := g3.imp fun _ _ z => Same.upd_new (o := .tup [.int (r' : Int), .int (l' : Int)]) ht _ _ z
        have k4 := Same.upd_new (o := .tup [.int (r' : Int), .int (l' : Int)]) ht _ _ g4
        have k5 := g5.same (Same.upd_new (o := .tup [.int (r' : Int), .int (l' : Int)]) ht)
        generalize upd H3 t (.tup [.int (r' : Int), .int (l' : Int)]) = H4 at k1 k2 k3 k4 k5 tt
        refine ⟨cl, us, _, rfl, rfl, k4, (by rw [k5.len]; omega), ?_⟩
        have kk := tup_keep (o' := .lst (us ++ [.ref t])) k4 (fun _ z => by cases z)
        exact ⟨kvs, S, us ++ [.ref t], C ++ [(r', l')], _, _, _, rfl, same_upd_r k1 (same_none (Same.upd_new hd) hcl), by rw [upd_ne hdc]; exact k2, k3.imp kk, upd_same,
          (k5.app (.cons tt .nil)).imp kk, by rw [htk]; exact h6.close hr2 hlt2, by omega, by rw [List.length_append, List.length_singleton]; omega⟩
      · have hlt2 : 2 ≤ r' := Nat.le_of_not_lt fun z => hlt (decide_eq_true z)
        have hnl := hr1.resolve_left (by omega)
        walk_at "go"
        refine ⟨(by show 2 ≤ sizeLine; decide), fun t ht => ?_⟩
        have tt : upd H3 t (.tup [.int (r' : Int), .int (l' : Int)]) t = some (.tup [.int (r' : Int), .int (l' : Int)]) := upd_same
        have k1 := same_new (o := .tup [.int (r' : Int), .int (l' : Int)]) g1 ht
        have k2 := Same.upd_new (o := .tup [.int (r' : Int), .int (l' : Int)]) ht _ _ g2
        have k3 := g3.imp fun _ _ z => Same.upd_new (o := .tup [.int (r' : Int), .int (l' : Int)]) ht _ _ z
        have k4 := Same.upd_new (o := .tup [.int (r' : Int), .int (l' : Int)]) ht _ _ g4
        have k5 := g5.same (Same.upd_new (o := .tup [.int (r' : Int), .int (l' : Int)]) ht)
        generalize upd H3 t (.tup [.int (r' : Int), .int (l' : Int)]) = H4 at k1 k2 k3 k4 k5 tt
        walk_at "go"
        refine ⟨d, _, rfl, DPut.k (k := Sum.inl ((bl r' : Nat) : Int)) k2 (by rw [k3.len]; omega), ?_⟩
        have hn : valV kvs (Sum.inl ((bl r' : Nat) : Int)) = none := k3.look.2 hnl
        rw [putK_new _ hn]
        have kk := tup_keep (o' := .dK (kvs ++ [(Sum.inl ((bl r' : Nat) : Int), .ref t)])) k2 (fun _ z => by cases z)
        exact ⟨_, S ++ [(bl r', (r', l'))], us, C, _, _, _, rfl, same_upd_r k1 hd, upd_same, (k3.snoc tt).imp kk, by rw [upd_ne hdc.symm]; exact k4,
          k5.imp kk, by rw [htk]; exact h6.step hr2 hlt2 hnl, by rw [List.length_append, List.length_singleton]; omega, by omega⟩
    · rintro σ H1 ⟨kvs, S, us, C, e3, e4, e5, rfl, h1, h2, h3, h4, h5, h6, h7, h8⟩
      rw [natsV_len] at h6 h8
      rw [List.take_length] at h6
      walk_at "go"
      refine ⟨(by show 2 ≤ sizeLine; decide), fun t ht => ?_⟩
      exact q t d cl us C S _ (same_new h1 ht) (same_none h1 ht) upd_same (Same.upd_new ht _ _ h4) (h5.same (Same.upd_new ht)) h6 h8
end
end Cl

namespace Cl
local macro_rules | `(tactic| walk_at "go") => `(tactic| repeat (first | (refine ⟨_, rfl, ?_⟩) | (refine ⟨_, _, rfl, rfl, ?_⟩) | (refine ⟨_, rfl, rfl, ?_⟩) | (refine ⟨_, _, rfl, ?_⟩) | (refine And.intro (by first | with_reducible rfl | rfl | omega | decide | assumption | (dsimp only; first | omega | decide | assumption)) ?_)))

local macro_rules | `(tactic| walk_at "bag") => `(tactic| repeat (first | (refine ⟨_, _, _, _, rfl, rfl, L2.SqL.of L2.upd_same, (by rfl), ?_⟩) | (refine ⟨_, _, _, _, rfl, rfl, L2.upd_same, (by rfl), ?_⟩) | (refine ⟨_, rfl, ?_⟩) | (refine ⟨_, _, rfl, rfl, ?_⟩) | (refine ⟨_, rfl, rfl, ?_⟩) | (refine ⟨_, _, rfl, ?_⟩) | (refine And.intro (by first | with_reducible rfl | rfl | omega | decide | assumption | (dsimp only; first | omega | decide | assumption)) ?_)))
open PySem L2 Own Bits
section
variable {P : Program} {w : World} {K : PySem.W.Frag} {mg : PySem.Str → Option Value} {base : Heap}

/-! ### _law_lots -/
theorem PRel.hid {H : Hp} {b : Addr} {vs xs : List V} {C : List (Nat × Nat)} (h : PRel H vs C) (hb : H b = some (.lst xs)) : PRel (Own.hid [b] H) vs C := h.imp fun t ys q => hid_some.mpr ⟨(by
  intro z
  rw [List.mem_singleton.mp z, hb] at q
  cases q), q⟩
theorem BagAt.lst {c : Addr} {H : Hp} {b : Addr} (h : BagAt c H b) : ∃ xs, H b = some (.lst xs) := by
  obtain ⟨i, l, g, m, n, ns, h1, _⟩ := h
  exact ⟨_, h1⟩
theorem hid_none {c b p : Addr} {H H2 : Hp} (s1 : Same (Own.hid [b] H) (Own.hid [b] H2)) (hb2 : BagAt c H2 b) (hp : H2 p = none) : H p = none := by
  cases e : H p with
  | none => rfl
  | some o =>
    by_cases hpb : p = b
    · rw [hpb] at hp
      obtain ⟨ys, hy⟩ := hb2.lst
      rw [hy] at hp
      cases hp
    · have z := (hid_some.mp (s1 p o (hid_some.mpr ⟨by simpa using hpb, e⟩))).2
      rw [z] at hp
      cases hp
/-- the list of rows that grows at p -/
structure LtSt (b c p : Addr) (H : Hp) (n : Nat) (R : List (Nat × Nat)) (H' : Hp) : Prop where
  bag : BagAt c H' b
  same : Same (hid [b] H) (hid [b] H')
  rows : ∃ us, H' p = some (.lst us) ∧ PRel (hid [b] H') us R
  ok : ∀ r ∈ R, r.1 < 2 ^ n ∧ r.2 < 2
theorem LtSt.step {b c p : Addr} {H H2 H3 : Hp} {n : Nat} {R : List (Nat × Nat)} (h : LtSt b c p H n R H2) (hp : p ≠ b) (hb : BagAt c H3 b) (e : Same (hid [b] H2) (hid [b] H3)) : LtSt b c p H n R H3 := by
  obtain ⟨us, h1, h2⟩ := h.rows
  exact ⟨hb, h.same.trans e, ⟨us, hid_keep e (by simpa using hp) h1, h2.same e⟩, h.ok⟩
theorem LtSt.new {b c p a : Addr} {H H2 : Hp} {o : HO} {n : Nat} {R : List (Nat × Nat)} (h : LtSt b c p H n R H2) (ha : H2 a = none) : LtSt b c p H n R (upd H2 a o) := by
  obtain ⟨us, h1, h2⟩ := h.rows
  exact ⟨h.bag.upd ha, h.same.trans (Own.Same.hid [b] (Same.upd_new ha)), ⟨us, Same.upd_new ha _ _ h1, h2.same (Own.Same.hid [b] (Same.upd_new ha))⟩, h.ok⟩
theorem LtSt.put {b c p a : Addr} {H H2 : Hp} {xs ys : List V} {n : Nat} {R : List (Nat × Nat)} (h : LtSt b c p H n R H2) (ha : H a = none) (hab : a ≠ b ∧ a ≠ c) (hap : a ≠ p) (hx : H2 a = some (.lst xs)) : LtSt b c p H n R (upd H2 a (.lst ys)) := by
  obtain ⟨us, h1, h2⟩ := h.rows
  have hB := h.bag.put (o := .lst ys) hab
  obtain ⟨zs, hz⟩ := hB.lst
  exact ⟨hB, same_hid_put h.same ha, ⟨us, by rw [upd_ne hap.symm]; exact h1, PRel.hid ((h2.imp fun t xs q => (hid_some.mp q).2).imp (tup_keep hx fun _ z => by cases z)) hz⟩, h.ok⟩
theorem LtSt.push {b c p t : Addr} {H H2 : Hp} {us : List V} {n r l : Nat} {R : List (Nat × Nat)} (h : LtSt b c p H n R H2) (hp : H p = none) (hpb : p ≠ b ∧ p ≠ c) (h1 : H2 p = some (.lst us)) (h2 : PRel (Own.hid [b] H2) us R) (ht : H2 t = some (.tup [.int (r : Int), .int (l : Int)])) (hr : r < 2 ^ n) (hl : l < 2) :
    LtSt b c p H n (R ++ [(r, l)]) (upd H2 p (.lst (us ++ [.ref t]))) := by
  have hB := h.bag.put (o := .lst (us ++ [.ref t])) hpb
  obtain ⟨zs, hz⟩ := hB.lst
  have kk := tup_keep (o' := .lst (us ++ [.ref t])) h1 (fun _ z => by cases z)
  refine ⟨hB, same_hid_put h.same hp, ⟨_, upd_same, PRel.hid (((h2.imp fun t xs q => (hid_some.mp q).2).app (.cons ht .nil)).imp kk) hz⟩, fun q hq => ?_⟩
  rcases List.mem_append.mp hq with hq | hq
  · exact h.ok q hq
  · rw [List.mem_singleton.mp hq]; exact ⟨hr, hl⟩
theorem PRel.mem {H : Hp} {vs : List V} {C : List (Nat × Nat)} (h : PRel H vs C) {x : V} (hx : x ∈ vs) : ∃ (t : Addr) (r l : Nat), (r, l) ∈ C ∧ x = .ref t ∧ H t = some (.tup [.int (r : Int), .int (l : Int)]) := by
  obtain ⟨i, hi⟩ := List.mem_iff_getElem?.mp hx
  obtain ⟨t, r, l, h1, h2, h3⟩ := h.get hi
  exact ⟨t, r, l, List.mem_of_getElem? h1, h2, h3⟩
def spLots (K : PySem.W.Frag) : Sp := fun vs H Q _ => ∃ (b c nm : Addr) (xs : List V), vs = [.ref b, .ref nm] ∧ BagAt c H b ∧ SqL K (hid [b] H) nm xs ∧ xs.length ≤ 50 ∧
  ∀ (p : Addr) (R : List (Nat × Nat)) (H' : Hp), LtSt b c p H xs.length R H' → H p = none → R.length ≤ 24 → Q (.ref p) H'
abbrev sc__law_lots_N : List PySem.Str := ["bag", "names", "many", "rows", "thick", "chosen", "k", "kept", "bits", "i"]
theorem sc__law_lots : FnScope sc__law_lots_N ["bag", "names"] (defScope (topS 21)) := ⟨rfl, rfl, rfl, by decide +kernel, rfl, by decide +kernel, by decide +kernel⟩
theorem sum_snoc (l : List Nat) (x : Nat) : (l ++ [x]).sum = l.sum + x := by
  rw [List.sum_append, List.sum_cons, List.sum_nil, Nat.add_zero]
theorem natsV_snoc (l : List Nat) (x : Nat) : natsV l ++ [.int (x : Int)] = natsV (l ++ [x]) := by
  unfold natsV
  rw [List.map_append]
  rfl
theorem ok_lots (T : Blt mg) (D : DefAt K mg "_law_lots" (topS 21) ["bag", "names"]) (D_law_pick : Cal P w K mg base 1 "_law_pick" spPick) (D_law_of : Cal P w K mg base 2 "_law_of" (spOf K)) (D_law_parity : Cal P w K mg base 1 "_law_parity" spParity) : Cal P w K mg base 3 "_law_lots" (spLots K) := by
  refine cal_of D sc__law_lots (fun vs H Q E h => ?_) (fun f cdv A outer s H vs Q E hr h => ?_)
  · obtain ⟨b, c, nm, xs, rfl, _⟩ := h
    rfl
  · obtain ⟨b, c, nm, xs, rfl, hb, hnm, hxs, q⟩ := h
    refine ⟨_, (pss_cons (ps_set (i := 2) sc__law_lots.nd rfl (Or.inl rfl) (Own.pe_c D_law_of hr (by decide) rfl (pa_cons (pv 0) (pa_cons (pe_lst (pa_cons pe_int (pa_cons pe_int (pa_cons pe_int (pa_cons pe_int (pa_cons pe_int (pa_cons pe_int (pa_cons pe_int (pa_cons pe_int (pa_cons (Own.pe_c D_law_pick hr (by decide) rfl (pa_cons (pv 0) (pa_cons pe_int pa_nil))) pa_nil)))))))))) pa_nil))))
  (pss_cons (ps_asg (pe_tup (pa_cons (pe_lst pa_nil) (pa_cons (Own.pe_c D_law_of hr (by decide) rfl (pa_cons (pv 0) (pa_cons (pe_lst (pa_cons pe_int (pa_cons pe_int (pa_cons pe_int (pa_cons pe_int (pa_cons pe_int (pa_cons pe_int pa_nil))))))) pa_nil))) pa_nil))) (pg_tup rfl (pgs_cons (pg_name (i := 3) sc__law_lots.nd rfl (Or.inl rfl)) (pgs_cons (pg_name (i := 4) sc__law_lots.nd rfl (Or.inr rfl)) pgs_nil))))
  (pss_cons (ps_set (i := 5) sc__law_lots.nd rfl (Or.inl rfl) (pe_callB (Own.cr_sumN rfl) (by rfl) T.sum (by decide +kernel) (pa_cons (pe_lc (own := [("k", 6)]) (g := (gName 6)) rfl sc__law_lots.nd (Own.pi_rangeN rfl T.range (pa_cons (pe_callB call_len_seq (by rfl) T.len (by decide +kernel) (pa_cons (pv 1) pa_nil)) pa_nil)) (blkOk_by (own := [("k", 6)]) (N := sc__law_lots_N) (sc := defScope (topS 21)) (by decide +kernel)) (fun _ _ _ _ _ => (pg_name (i := 6) sc__law_lots.nd rfl (Or.inl rfl))) (fun _ _ _ _ _ => (pts_one (pt_cmpR Own.oc_eq (Own.pe_c D_law_pick hr (by decide) rfl (pa_cons (pv 0) (pa_cons pe_int pa_nil))) pe_int (nomark _)))) (fun _ _ _ _ _ => (pe_op Own.on_shl pe_int (pv 6)))) pa_nil)))
  (pss_cons (ps_set (i := 7) sc__law_lots.nd rfl (Or.inl rfl) (pe_cmpR Own.oc_eq (Own.pe_c D_law_pick hr (by decide) rfl (pa_cons (pv 0) (pa_cons pe_int pa_nil))) pe_int (nomark _)))
  (pss_cons (ps_for PassesOwn.never rfl (Own.pi_rangeN rfl T.range (pa_cons (pv 2) pa_nil)) (pg_name (i := 6) sc__law_lots.nd rfl (Or.inl rfl))
   (pss_cons (ps_set (i := 8) sc__law_lots.nd rfl (Or.inl rfl) (pe_callB (Own.cr_sumN rfl) (by rfl) T.sum (by decide +kernel) (pa_cons (pe_lc (own := [("i", 9)]) (g := (gName 9)) rfl sc__law_lots.nd (Own.pi_rangeN rfl T.range (pa_cons (pe_callB call_len_seq (by rfl) T.len (by decide +kernel) (pa_cons (pv 1) pa_nil)) pa_nil)) (blkOk_by (own := [("i", 9)]) (N := sc__law_lots_N) (sc := defScope (topS 21)) (by decide +kernel)) (fun _ _ _ _ _ => (pg_name (i := 9) sc__law_lots.nd rfl (Or.inl rfl))) (fun _ _ _ _ _ => (pts_one (pt_cmpR Own.oc_lt (Own.pe_c D_law_pick hr (by decide) rfl (pa_cons (pv 0) (pa_cons pe_int pa_nil))) (pv 4) (nomark _)))) (fun _ _ _ _ _ => (pe_op Own.on_shl pe_int (pv 9)))) pa_nil)))
  (pss_cons (ps_if (PW.pt (pw_and (pt_truth (pv 3) (by intro _; rfl)) (pw_and1 (pt_cmpR Own.oc_eq (Own.pe_c D_law_pick hr (by decide) rfl (pa_cons (pv 0) (pa_cons pe_int pa_nil))) pe_int (nomark _)))))
   (pss_one (ps_set (i := 8) sc__law_lots.nd rfl (Or.inl rfl) (pe_ix (Own.ixT (K := K) rfl) (Own.pe_c D_law_of hr (by decide) rfl (pa_cons (pv 0) (pa_cons (pv 3) pa_nil))) pe_int (fun _ _ => rfl))))
   pss_nil)
  (pss_one (ps_expr (pe_bm PySem.F.plainAttrs_list PySem.F.slot_list_append PySem.F.type_list_append mt_append (pv 3) (pa_cons (pe_tup (pa_cons (pv 8) (pa_cons (pe_ifExp (pt_val (pv 7)) (Own.pe_c D_law_parity hr (by decide) rfl (pa_cons (pe_op Own.on_and (pv 8) (pv 5)) pa_nil)) (Own.pe_c D_law_pick hr (by decide) rfl (pa_cons (pv 0) (pa_cons pe_int pa_nil)))) pa_nil))) pa_nil)))))))
  (pss_one (ps_ret (pv 3)))))))), ?_⟩
    have hge := line_ge
    walk_at "go"
    refine ⟨b, c, 25, rfl, hb, by decide, by decide, fun d H1 hd hb1 s1 => ?_⟩
    refine ⟨(by show 9 ≤ sizeLine; decide), fun L hL => ?_⟩
    refine ⟨b, c, L, natsV [3, 4, 6, 2, 5, 9, 0, 1, d], rfl, hb1.upd hL, SqL.of (hid_some.mpr ⟨by simpa using (hb1.ne hL).1, upd_same⟩), (by show 0 < 9; decide), (by show 9 < 1000000; decide), fun x H2 hx hb2 s2 => ?_⟩
    obtain ⟨many, hmany, rfl⟩ := mem_nats hx
    have hm24 : many ≤ 24 := by
      simp only [List.mem_cons, List.not_mem_nil, or_false] at hmany
      omega
    replace s1 : Same (hid [b] H) (hid [b] H2) := (s1.trans (Own.Same.hid [b] (Same.upd_new hL))).trans s2
    clear hx hmany hb1 hL s2 hd
    walk_at "go"
    intro p hp
    refine ⟨_, rfl, (by show 6 ≤ sizeLine; decide), fun L hL => ?_⟩
    have hpH : H p = none := hid_none s1 hb2 hp
    have hpb := hb.ne hpH
    have N0 : LtSt b c p H xs.length [] (upd H2 p (.lst [])) := ⟨hb2.upd hp, same_hid_put s1 hpH, ⟨[], upd_same, .nil⟩, fun r hr => by cases hr⟩
    generalize upd H2 p (.lst []) = H3 at N0 hL
    have hLb := N0.bag.ne hL
    replace N0 := N0.new hL (o := .lst (natsV [2, 1, 3, 2, 1, 4]))
    refine ⟨b, c, L, natsV [2, 1, 3, 2, 1, 4], rfl, N0.bag, SqL.of (hid_some.mpr ⟨by simpa using hLb.1, upd_same⟩), by decide, by decide, fun x H4 hx hb4 s4 => ?_⟩
    obtain ⟨thick, hthick, rfl⟩ := mem_nats hx
    replace N0 := N0.step hpb.1 hb4 s4
    clear hx hthick hb4 s4 hL hLb hb2 s1 hp
    walk_at "go"
    refine ⟨(by show 2 ≤ sizeLine; decide), fun t ht => ?_⟩
    refine ⟨t, _, rfl, SqT.of upd_same, rfl, ?_⟩
    replace N0 := N0.new ht (o := .tup [.ref p, .int (thick : Int)])
    generalize upd H4 t (.tup [.ref p, .int (thick : Int)]) = H5 at N0
    clear ht
    walk_at "go"
    refine ⟨nm, xs, rfl, .inl (hid_sub.seq (N0.same.seq hnm)), ?_⟩
    walk_at "go"
    intro D hD
    have hDH : H D = none := hid_none N0.same N0.bag hD
    have hDb := hb.ne hDH
    have hDp : D ≠ p := fun z => by
      obtain ⟨us, h1, _⟩ := N0.rows
      rw [z, h1] at hD
      cases hD
    refine lc_it walk_rangeN (fun i H' => ∃ l : List Nat, H' D = some (.lst (natsV l)) ∧ l.length ≤ i ∧ l.sum < 2 ^ i ∧ LtSt b c p H xs.length [] H') ⟨[], upd_same, Nat.le_refl _, by decide, N0.new hD⟩ (fun _ _ _ _ => trivial) ?_ ?_
    · rintro i x H6 H7 hi ⟨l, h1, h2, h3, N1⟩ ⟨rfl, rfl⟩
      walk_at "go"
      refine ⟨b, c, 2, rfl, N1.bag, by decide, by decide, fun d H8 hd hb8 s8 => ?_⟩
      have g1 := hid_keep s8 (by simpa using hDb.1) h1
      replace N1 := N1.step hpb.1 hb8 s8
      walk_at "go"
      refine ite2 (fun _ => ?_) (fun _ => ?_)
      · walk_at "go"
        refine ⟨natsV l, g1, (by rw [natsV_len]; omega), l ++ [1 * 2 ^ i], ?_, ?_, ?_, N1.put hDH hDb hDp g1⟩
        · rw [upd_same, ← natsV_snoc]
        · rw [List.length_append, List.length_singleton]; omega
        · rw [sum_snoc, Nat.pow_succ]; omega
      · exact ⟨l, g1, by omega, by rw [Nat.pow_succ]; omega, N1⟩
    · rintro H6 ⟨l, h1, h2, h3, N1⟩
      walk_at "go"
      refine ⟨D, l, rfl, SqL.of h1, ?_⟩
      replace h3 : l.sum < 2 ^ xs.length := h3
      generalize l.sum = chosen at h3
      clear h1 h2 hD hDp hDb hDH N0 l
      walk_at "go"
      refine ⟨b, c, 2, rfl, N1.bag, by decide, by decide, fun d H7 hd hb7 s7 => ?_⟩
      replace N1 := N1.step hpb.1 hb7 s7
      clear hb7 s7
      walk_at "go"
      generalize ((fun n m => decide (n = m)) d 0 : Bool) = kept
      refine for_it walk_rangeN (fun k σ H' => ∃ (R : List (Nat × Nat)) (e6 e8 e9 : Option V), σ = [some (.ref b), some (.ref nm), some (.int (many : Int)), some (.ref p), some (.int (thick : Int)), some (.int (chosen : Int)), e6, some (.bl kept), e8, e9] ∧ R.length = k ∧ LtSt b c p H xs.length R H')
        ⟨[], none, none, none, rfl, rfl, N1⟩ (fun _ _ _ _ _ => trivial) ?_ ?_
      · clear N1
        rintro k x σ H1 H2 hk ⟨R, e6, e8, e9, rfl, hRl, N1⟩ ⟨rfl, rfl⟩
        change tSeq _ (tSeq _ _) _ _ _
        refine seq2_rest (fun σ H' => ∃ (bits : Nat) (e9 : Option V), σ = [some (.ref b), some (.ref nm), some (.int (many : Int)), some (.ref p), some (.int (thick : Int)), some (.int (chosen : Int)), some (.int (k : Int)), some (.bl kept), some (.int (bits : Int)), e9] ∧ bits < 2 ^ xs.length ∧ LtSt b c p H xs.length R H') (fun N rest0 => ?_) ?_
        · change tSeq _ _ _ _ _
          refine seq1_rest (fun σ H' => ∃ (bits : Nat) (e9 : Option V), σ = [some (.ref b), some (.ref nm), some (.int (many : Int)), some (.ref p), some (.int (thick : Int)), some (.int (chosen : Int)), some (.int (k : Int)), some (.bl kept), some (.int (bits : Int)), e9] ∧ bits < 2 ^ xs.length ∧ LtSt b c p H xs.length R H') (fun N rest => ?_) ?_
          · walk_at "go"
            refine ⟨nm, xs, rfl, .inl (hid_sub.seq (N1.same.seq hnm)), ?_⟩
            walk_at "go"
            intro D hD
            have hDH : H D = none := hid_none N1.same N1.bag hD
            have hDb := hb.ne hDH
            have hDp : D ≠ p := fun z => by
              obtain ⟨us, h1, _⟩ := N1.rows
              rw [z, h1] at hD
              cases hD
            refine lc_it walk_rangeN (fun i H' => ∃ l : List Nat, H' D = some (.lst (natsV l)) ∧ l.length ≤ i ∧ l.sum < 2 ^ i ∧ LtSt b c p H xs.length R H') ⟨[], upd_same, Nat.le_refl _, by decide, N1.new hD⟩ (fun _ _ _ _ => trivial) ?_ ?_
            · rintro i x H6 H7 hi ⟨l, h1, h2, h3, N1⟩ ⟨rfl, rfl⟩
              walk_at "go"
              refine ⟨b, c, 4, rfl, N1.bag, by decide, by decide, fun d H8 hd hb8 s8 => ?_⟩
              have g1 := hid_keep s8 (by simpa using hDb.1) h1
              replace N1 := N1.step hpb.1 hb8 s8
              walk_at "go"
              refine ite2 (fun _ => ?_) (fun _ => ?_)
              · walk_at "go"
                refine ⟨natsV l, g1, (by rw [natsV_len]; omega), l ++ [1 * 2 ^ i], ?_, ?_, ?_, N1.put hDH hDb hDp g1⟩
                · rw [upd_same, ← natsV_snoc]
                · rw [List.length_append, List.length_singleton]; omega
                · rw [sum_snoc, Nat.pow_succ]; omega
              · exact ⟨l, g1, by omega, by rw [Nat.pow_succ]; omega, N1⟩
            · rintro H6 ⟨l, h1, h2, h3, N1⟩
              walk_at "go"
              refine ⟨D, l, rfl, SqL.of h1, ?_⟩
              replace h3 : l.sum < 2 ^ xs.length := h3
              generalize l.sum = bits at h3
              clear h1 h2 hD hDp hDb hDH l
              exact rest _ _ ⟨bits, _, rfl, h3, N1⟩
          · clear N1
            rintro σ H6 ⟨bits, e9, rfl, h3, N1⟩
            obtain ⟨us, hu1, hu2⟩ := N1.rows
            walk_at "go"
            refine ⟨_, .inl ⟨us, SqL.of hu1, rfl⟩, ?_⟩
            refine ite2 (fun hne => ?_) (fun hne => ?_)
            · have hpos : 0 < us.length := by
                cases us with
                | nil => cases hne
                | cons _ _ => exact Nat.succ_pos _
              have hul := hu2.len
              walk_at "go"
              refine ⟨b, c, 8, rfl, N1.bag, by decide, by decide, fun d H8 hd hb8 s8 => ?_⟩
              have hu3 := hid_keep s8 (by simpa using hpb.1) hu1
              have hu4 := hu2.same s8
              replace N1 := N1.step hpb.1 hb8 s8
              walk_at "go"
              refine ite2 (fun _ => ?_) (fun _ => ?_)
              · walk_at "go"
                refine ⟨b, c, p, us, rfl, N1.bag, SqL.of (hid_some.mpr ⟨by simpa using hpb.1, hu3⟩), hpos, by omega, fun x H9 hx hb9 s9 => ?_⟩
                obtain ⟨t, r, l, hm, rfl, ht⟩ := (hu4.same s9).mem hx
                replace N1 := N1.step hpb.1 hb9 s9
                refine ⟨t, _, 0, _, rfl, rfl, SqT.of (hid_some.mp ht).2, rfl, ?_⟩
                exact rest0 _ _ ⟨r, _, rfl, (N1.ok _ hm).1, N1⟩
              · exact rest0 _ _ ⟨bits, _, rfl, h3, N1⟩
            · refine iteF ?_
              exact rest0 _ _ ⟨bits, _, rfl, h3, N1⟩
        · clear N1
          rintro σ H6 ⟨bits, e9, rfl, h3, N1⟩
          obtain ⟨us, hu1, hu2⟩ := N1.rows
          have hul := hu2.len
          walk_at "go"
          refine ⟨.inl ⟨rfl, _, SqL.of hu1⟩, ?_⟩
          walk_at "go"
          have fin : ∀ (num : Nat) (H8 : Hp) (t : Addr), num < 2 → LtSt b c p H xs.length R H8 → H8 p = some (.lst us) → PRel (Own.hid [b] H8) us R → H8 t = none →
              upd H8 t (.tup [.int (bits : Int), .int (num : Int)]) p = some (.lst us) ∧ LtSt b c p H xs.length (R ++ [(bits, num)]) (upd (upd H8 t (.tup [.int (bits : Int), .int (num : Int)])) p (.lst (us ++ [.ref t]))) := fun num H8 t hn N2 k1 k2 ht => by
            have k3 := N2.new ht (o := .tup [.int (bits : Int), .int (num : Int)])
            have k4 := Same.upd_new ht (o := .tup [.int (bits : Int), .int (num : Int)]) _ _ k1
            exact ⟨k4, k3.push hpH hpb k4 (k2.same (Own.Same.hid [b] (Same.upd_new ht))) upd_same h3 hn⟩
          refine ite2 (fun _ => ?_) (fun _ => ?_)
          · walk_at "go"
            refine ⟨Nat.le_trans (bl_le (Nat.lt_of_le_of_lt Nat.and_le_left h3)) (by omega), ?_⟩
            walk_at "go"
            refine ⟨(by show 2 ≤ sizeLine; decide), fun t ht => ?_⟩
            obtain ⟨f1, f2⟩ := fin (pb (bits &&& chosen)) H6 t (by unfold pb; split <;> decide) N1 hu1 hu2 ht
            refine ⟨p, us, _, rfl, rfl, f1, by omega, ?_⟩
            exact ⟨_, _, _, _, rfl, by rw [List.length_append, List.length_singleton]; omega, f2⟩
          · walk_at "go"
            refine ⟨b, c, 2, rfl, N1.bag, by decide, by decide, fun d H8 hd hb8 s8 => ?_⟩
            have hu3 := hid_keep s8 (by simpa using hpb.1) hu1
            have hu4 := hu2.same s8
            replace N1 := N1.step hpb.1 hb8 s8
            refine ⟨(by show 2 ≤ sizeLine; decide), fun t ht => ?_⟩
            obtain ⟨f1, f2⟩ := fin d H8 t hd N1 hu3 hu4 ht
            refine ⟨p, us, _, rfl, rfl, f1, by omega, ?_⟩
            exact ⟨_, _, _, _, rfl, by rw [List.length_append, List.length_singleton]; omega, f2⟩
      · rintro σ H1 ⟨R, e6, e8, e9, rfl, hRl, N1⟩
        walk_at "go"
        exact q p R _ N1 hpH (by omega)
end
end Cl

namespace Cl
local macro_rules | `(tactic| walk_at "go") => `(tactic| repeat (first | (refine ⟨_, rfl, ?_⟩) | (refine ⟨_, _, rfl, rfl, ?_⟩) | (refine ⟨_, rfl, rfl, ?_⟩) | (refine ⟨_, _, rfl, ?_⟩) | (refine And.intro (by first | with_reducible rfl | rfl | omega | decide | assumption | (dsimp only; first | omega | decide | assumption)) ?_)))

local macro_rules | `(tactic| walk_at "bag") => `(tactic| repeat (first | (refine ⟨_, _, _, _, rfl, rfl, L2.SqL.of L2.upd_same, (by rfl), ?_⟩) | (refine ⟨_, _, _, _, rfl, rfl, L2.upd_same, (by rfl), ?_⟩) | (refine ⟨_, rfl, ?_⟩) | (refine ⟨_, _, rfl, rfl, ?_⟩) | (refine ⟨_, rfl, rfl, ?_⟩) | (refine ⟨_, _, rfl, ?_⟩) | (refine And.intro (by first | with_reducible rfl | rfl | omega | decide | assumption | (dsimp only; first | omega | decide | assumption)) ?_)))
open PySem L2 Own Bits
section
variable {P : Program} {w : World} {K : PySem.W.Frag} {mg : PySem.Str → Option Value} {base : Heap}

/-! ### _law_handed -/
theorem RowsAt.app {H : Hp} : ∀ {vs us : List V} {R S : List LRow}, RowsAt K H vs R → RowsAt K H us S → RowsAt K H (vs ++ us) (R ++ S)
  | _, _, _, _, .nil, r => r
  | _, _, _, _, .cons h g q, r => .cons h g (q.app r)
theorem hid_more {B B' : List Addr} {H H' : Hp} (e : Same (hid B H) (hid B H')) (h : ∀ a ∈ B, a ∈ B') : Same (hid B' H) (hid B' H') := fun a o q => by
  obtain ⟨z1, z2⟩ := hid_some.mp q
  exact hid_some.mpr ⟨z1, (hid_some.mp (e a o (hid_some.mpr ⟨fun z => z1 (h a z), z2⟩))).2⟩
theorem selV_map {α β : Type} (f : α → β) (xs : List α) (lot i : Nat) : selV (xs.map f) lot i = (selV xs lot i).map f := by
  unfold selV
  rw [List.map_filterMap]
  refine congrArg (fun g => List.filterMap g _) (funext fun k => ?_)
  rw [List.getElem?_map]
theorem perm_strs : ∀ {ys : List V} {l : List PySem.Str}, ys.Perm (l.map V.str) → ∃ m : List PySem.Str, ys = m.map V.str ∧ m.Perm l := by
  intro ys l p
  have all : ∀ y ∈ ys, ∃ z, y = V.str z := fun y hy => by
    obtain ⟨z, _, e⟩ := List.mem_map.mp (p.mem_iff.mp hy)
    exact ⟨z, e.symm⟩
  have mk : ∀ l : List V, (∀ y ∈ l, ∃ z, y = V.str z) → ∃ m : List PySem.Str, l = m.map V.str := by
    intro l
    induction l with
    | nil => intro _; exact ⟨[], rfl⟩
    | cons k l ih =>
      intro hl
      obtain ⟨y, rfl⟩ := hl k List.mem_cons_self
      obtain ⟨ys, rfl⟩ := ih fun z hz => hl z (List.mem_cons_of_mem _ hz)
      exact ⟨y :: ys, rfl⟩
  obtain ⟨m, rfl⟩ := mk ys all
  refine ⟨m, rfl, ?_⟩
  have q := p.map (fun v : V => match v with | .str z => z | _ => Str.empty)
  rw [List.map_map, List.map_map] at q
  have e : ((fun v : V => match v with | .str z => z | _ => Str.empty) ∘ V.str) = id := rfl
  rw [e, List.map_id, List.map_id] at q
  exact q
structure HandOk (ns : List PySem.Str) (R : List (Nat × Nat)) (R' : List LRow) : Prop where
  len : R'.length = R.length
  row : ∀ (i b n : Nat), R[i]? = some (b, n) → ∃ l : List PySem.Str, R'[i]? = some (l, n) ∧ l.Perm (selV ns b ns.length)
theorem HandOk.snoc {ns : List PySem.Str} {R : List (Nat × Nat)} {R' : List LRow} (h : HandOk ns R R') {b n : Nat} {l : List PySem.Str} (hl : l.Perm (selV ns b ns.length)) : HandOk ns (R ++ [(b, n)]) (R' ++ [(l, n)]) := by
  refine ⟨by rw [List.length_append, List.length_append, h.len]; rfl, fun i b' n' e => ?_⟩
  by_cases hi : i < R.length
  · rw [List.getElem?_append_left hi] at e
    rw [List.getElem?_append_left (by rw [h.len]; exact hi)]
    exact h.row i b' n' e
  · rw [List.getElem?_append_right (by omega)] at e
    rw [List.getElem?_append_right (by rw [h.len]; omega), h.len]
    cases hj : i - R.length with
    | zero =>
      rw [hj] at e
      have e2 := Option.some.inj e
      injection e2 with e3 e4
      subst e3 e4
      exact ⟨l, rfl, hl⟩
    | succ j => rw [hj] at e; cases e
structure HdSt (K : PySem.W.Frag) (b c p : Addr) (H : Hp) (R' : List LRow) (H' : Hp) : Prop where
  bag : BagAt c H' b
  same : Same (hid [b] H) (hid [b] H')
  rows : ∃ us, H' p = some (.lst us) ∧ RowsAt K (hid [b, p] H') us R'
theorem HdSt.step {b c p : Addr} {H H2 H3 : Hp} {R : List LRow} (h : HdSt K b c p H R H2) (hp : p ≠ b) (hb : BagAt c H3 b) (e : Same (hid [b] H2) (hid [b] H3)) : HdSt K b c p H R H3 := by
  obtain ⟨us, h1, h2⟩ := h.rows
  exact ⟨hb, h.same.trans e, us, hid_keep e (by simpa using hp) h1, h2.same (hid_more e fun a ha => by rw [List.mem_singleton.mp ha]; exact List.mem_cons_self)⟩
theorem HdSt.new {b c p a : Addr} {H H2 : Hp} {o : HO} {R : List LRow} (h : HdSt K b c p H R H2) (ha : H2 a = none) : HdSt K b c p H R (upd H2 a o) := by
  obtain ⟨us, h1, h2⟩ := h.rows
  exact ⟨h.bag.upd ha, h.same.trans (Own.Same.hid [b] (Same.upd_new ha)), us, Same.upd_new ha _ _ h1, h2.same (Own.Same.hid _ (Same.upd_new ha))⟩
theorem HdSt.push {b c p t i : Addr} {H H2 : Hp} {us : List V} {n : Nat} {l : List PySem.Str} {R : List LRow} (h : HdSt K b c p H R H2) (hp : H p = none) (hpb : p ≠ b ∧ p ≠ c) (h2 : RowsAt K (hid [b, p] H2) us R)
    (ht : hid [b, p] H2 t = some (.tup [.ref i, .int (n : Int)])) (hi : Sq K (hid [b, p] H2) i (l.map V.str)) : HdSt K b c p H (R ++ [(l, n)]) (upd H2 p (.lst (us ++ [.ref t]))) := by
  refine ⟨h.bag.put hpb, same_hid_put h.same hp, _, upd_same, ?_⟩
  rw [hid_upd (by simp)]
  exact h2.app (.cons (SqT.of ht) hi .nil)
def spHanded (K : PySem.W.Frag) : Sp := fun vs H Q _ => ∃ (b c nm rw : Addr) (ns : List PySem.Str) (us : List V) (R : List (Nat × Nat)), vs = [.ref b, .ref nm, .ref rw] ∧ BagAt c H b ∧ SqL K (hid [b] H) nm (ns.map V.str) ∧ ns.length ≤ 50 ∧
  SqL K (hid [b] H) rw us ∧ PRel (hid [b] H) us R ∧ R.length ≤ 60 ∧
  ∀ (p : Addr) (R' : List LRow) (H' : Hp), HdSt K b c p H R' H' → H p = none → HandOk ns R R' → Q (.ref p) H'
abbrev sc__law_handed_N : List PySem.Str := ["bag", "names", "rows", "handed", "bits", "number", "inner"]
theorem sc__law_handed : FnScope sc__law_handed_N ["bag", "names", "rows"] (defScope (topS 22)) := ⟨rfl, rfl, rfl, by decide +kernel, rfl, by decide +kernel, by decide +kernel⟩
theorem ok_handed (T : Blt mg) (D : DefAt K mg "_law_handed" (topS 22) ["bag", "names", "rows"]) (D_law_pick : Cal P w K mg base 1 "_law_pick" spPick) (D_law_mixed : Cal P w K mg base 2 "_law_mixed" (spMixed K)) (D_law_chosen : Cal P w K mg base 1 "_law_chosen" (spChosen K)) : Cal P w K mg base 3 "_law_handed" (spHanded K) := by
  refine cal_of D sc__law_handed (fun vs H Q E h => ?_) (fun f cdv A outer s H vs Q E hr h => ?_)
  · obtain ⟨b, c, nm, rw, ns, us, R, rfl, _⟩ := h
    rfl
  · obtain ⟨b, c, nm, rw_, ns, us, R, rfl, hb, hnm, hns, hrw, hR, hRl, q⟩ := h
    refine ⟨_, (pss_cons (ps_set (i := 3) sc__law_handed.nd rfl (Or.inl rfl) (pe_lst pa_nil))
  (pss_cons (ps_for PassesOwn.never rfl (Own.pi_listK (K := K) rfl (pv 2)) (pg_tup rfl (pgs_cons (pg_name (i := 4) sc__law_handed.nd rfl (Or.inl rfl)) (pgs_cons (pg_name (i := 5) sc__law_handed.nd rfl (Or.inl rfl)) pgs_nil)))
   (pss_cons (ps_set (i := 6) sc__law_handed.nd rfl (Or.inl rfl) (Own.pe_c D_law_mixed hr (by decide) rfl (pa_cons (pv 0) (pa_cons (Own.pe_c D_law_chosen hr (by decide) rfl (pa_cons (pv 1) (pa_cons (pv 4) pa_nil))) pa_nil))))
  (pss_one (ps_expr (pe_bm PySem.F.plainAttrs_list PySem.F.slot_list_append PySem.F.type_list_append mt_append (pv 3) (pa_cons (pe_tup (pa_cons (pe_ifExp (pt_cmpR Own.oc_eq (Own.pe_c D_law_pick hr (by decide) rfl (pa_cons (pv 0) (pa_cons pe_int pa_nil))) pe_int (nomark _)) (pe_callTy (Own.tupleK (K := K) rfl) (by rfl) T.tuple (by decide +kernel) (pa_cons (pv 6) pa_nil)) (pv 6)) (pa_cons (pv 5) pa_nil))) pa_nil))))))
  (pss_one (ps_ret (pv 3))))), ?_⟩
    have hge := line_ge
    walk_at "go"
    intro p hp
    have hpb := hb.ne hp
    have N0 : HdSt K b c p H [] (upd H p (.lst [])) := ⟨hb.upd hp, same_hid_put (Same.refl _) hp, [], upd_same, .nil⟩
    generalize upd H p (.lst []) = H1 at N0
    walk_at "go"
    refine ⟨⟨us, hid_sub.seq (N0.same.seq hrw)⟩, for_it (walk_list (xs := us)) (fun i σ H' => ∃ (R' : List LRow) (e4 e5 e6 : Option V), σ = [some (.ref b), some (.ref nm), some (.ref rw_), some (.ref p), e4, e5, e6] ∧ HandOk ns (R.take i) R' ∧ HdSt K b c p H R' H')
      ⟨[], none, none, none, rfl, ⟨rfl, fun i b n e => by cases e⟩, N0⟩ (fun i σ H' _ ⟨_, _, _, _, _, _, N⟩ => hid_sub.seq (N.same.seq hrw)) ?_ ?_⟩
    · clear N0
      rintro i x σ H2' H2 hi ⟨R', e4, e5, e6, rfl, h1, N1⟩ ⟨rfl, hx⟩
      obtain ⟨t, bits, n, hRi, rfl, ht⟩ := hR.get hx
      have htk : R.take (i + 1) = R.take i ++ [(bits, n)] := by rw [List.take_add_one, hRi]; rfl
      refine ⟨t, _, rfl, SqT.of (hid_some.mp (N1.same _ _ ht)).2, rfl, ?_⟩
      walk_at "go"
      refine ⟨nm, _, bits, rfl, hid_sub.seq (N1.same.seq hnm), by rw [List.length_map]; omega, fun L hL => ?_⟩
      have hLb := N1.bag.ne hL
      rw [selV_map, List.length_map]
      replace N1 := N1.new hL (o := .lst ((selV ns bits ns.length).map V.str))
      have hsl := selV_len ns bits ns.length
      refine ⟨b, c, L, _, rfl, N1.bag, SqL.of (hid_some.mpr ⟨by simpa using hLb.1, upd_same⟩), by rw [List.length_map]; omega, fun p2 ys H3 hpm hb3 s3 hp2 hp3 => ?_⟩
      obtain ⟨l, rfl, hl⟩ := perm_strs hpm
      have hp2b := (N1.bag.ne hp2).1
      have hp2p : p2 ≠ p := fun z => by
        obtain ⟨us, h1, _⟩ := N1.rows
        rw [z, h1] at hp2
        cases hp2
      replace N1 := N1.step hpb.1 hb3 s3
      have f0 : hid [b, p] H3 p2 = some (.lst (l.map V.str)) := hid_some.mpr ⟨by simp [hp2b, hp2p], hp3⟩
      clear hL hLb hpm hb3 s3 hp2 hp3
      obtain ⟨vs, hv1, hv2⟩ := N1.rows
      have hvl := hv2.len
      have hRl2 := h1.len
      have hi2 : i < R.length := (List.getElem?_eq_some_iff.mp hRi).1
      rw [List.length_take] at hRl2
      have fin : ∀ (q : Addr) (t : Addr) (H8 : Hp), HdSt K b c p H R' H8 → H8 p = some (.lst vs) → RowsAt K (hid [b, p] H8) vs R' → Sq K (hid [b, p] H8) q (l.map V.str) → H8 t = none →
          upd H8 t (.tup [.ref q, .int (n : Int)]) p = some (.lst vs) ∧ HdSt K b c p H (R' ++ [(l, n)]) (upd (upd H8 t (.tup [.ref q, .int (n : Int)])) p (.lst (vs ++ [.ref t]))) := fun q t H8 N2 k1 k2 k3 ht => by
        have e := Same.upd_new (o := .tup [.ref q, .int (n : Int)]) ht
        have htb := (N2.bag.ne ht).1
        have htp : t ≠ p := fun z => by rw [z, k1] at ht; cases ht
        exact ⟨e _ _ k1, (N2.new ht).push hp hpb (k2.same (Own.Same.hid _ e)) (hid_some.mpr ⟨by simp [htb, htp], upd_same⟩) (k3.same (Own.Same.hid _ e))⟩
      walk_at "go"
      refine ⟨.inl ⟨rfl, _, SqL.of hv1⟩, ?_⟩
      walk_at "go"
      refine ⟨b, c, 4, rfl, N1.bag, by decide, by decide, fun d H8 hd hb8 s8 => ?_⟩
      have s8' : Same (hid [b, p] H3) (hid [b, p] H8) := hid_more s8 fun a ha => by rw [List.mem_singleton.mp ha]; exact List.mem_cons_self
      have hu3 := hid_keep s8 (by simpa using hpb.1) hv1
      have hu4 := hv2.same s8'
      replace f0 := s8' _ _ f0
      replace N1 := N1.step hpb.1 hb8 s8
      clear s8 s8' hb8 hv1 hv2
      walk_at "go"
      refine ite2 (fun _ => ?_) (fun _ => ?_)
      · walk_at "go"
        refine ⟨p2, _, rfl, .inl ⟨SqL.of (hid_some.mp f0).2, fun t2 ht2 => ?_⟩⟩
        walk_at "go"
        refine ⟨(by show 2 ≤ sizeLine; decide), fun t ht => ?_⟩
        have ht2b := (N1.bag.ne ht2).1
        have ht2p : t2 ≠ p := fun z => by rw [z, hu3] at ht2; cases ht2
        have e := Same.upd_new (o := .tup (l.map V.str)) ht2
        obtain ⟨f1, f2⟩ := fin t2 t _ (N1.new ht2) (e _ _ hu3) (hu4.same (Own.Same.hid _ e)) (.inr (SqT.of (hid_some.mpr ⟨by simp [ht2b, ht2p], upd_same⟩))) ht
        refine ⟨p, vs, _, rfl, rfl, f1, by omega, ?_⟩
        exact ⟨_, _, _, _, rfl, by rw [htk]; exact h1.snoc hl, f2⟩
      · walk_at "go"
        refine ⟨(by show 2 ≤ sizeLine; decide), fun t ht => ?_⟩
        obtain ⟨f1, f2⟩ := fin p2 t _ N1 hu3 hu4 (.inl (SqL.of f0)) ht
        refine ⟨p, vs, _, rfl, rfl, f1, by omega, ?_⟩
        exact ⟨_, _, _, _, rfl, by rw [htk]; exact h1.snoc hl, f2⟩
    · rintro σ H2 ⟨R', e4, e5, e6, rfl, h1, N1⟩
      walk_at "go"
      rw [hR.len, List.take_length] at h1
      exact q p R' _ N1 hp h1
end
end Cl

namespace Cl
local macro_rules | `(tactic| walk_at "go") => `(tactic| repeat (first | (refine ⟨_, rfl, ?_⟩) | (refine ⟨_, _, rfl, rfl, ?_⟩) | (refine ⟨_, rfl, rfl, ?_⟩) | (refine ⟨_, _, rfl, ?_⟩) | (refine And.intro (by first | with_reducible rfl | rfl | omega | decide | assumption | (dsimp only; first | omega | decide | assumption)) ?_)))

local macro_rules | `(tactic| walk_at "bag") => `(tactic| repeat (first | (refine ⟨_, _, _, _, rfl, rfl, L2.SqL.of L2.upd_same, (by rfl), ?_⟩) | (refine ⟨_, _, _, _, rfl, rfl, L2.upd_same, (by rfl), ?_⟩) | (refine ⟨_, rfl, ?_⟩) | (refine ⟨_, _, rfl, rfl, ?_⟩) | (refine ⟨_, rfl, rfl, ?_⟩) | (refine ⟨_, _, rfl, ?_⟩) | (refine And.intro (by first | with_reducible rfl | rfl | omega | decide | assumption | (dsimp only; first | omega | decide | assumption)) ?_)))
open PySem L2 Own Bits
section
variable {P : Program} {w : World} {K : PySem.W.Frag} {mg : PySem.Str → Option Value} {base : Heap}

/-! ### _law_is_clash -/
structure ClashOk (R : List (Nat × Nat)) (pl : List Nat) : Prop where
  asc : pl.Pairwise (· < ·)
  lt : ∀ k ∈ pl, k < R.length
  ne : pl ≠ []
  bits : xsum (pl.map fun k => (R.getD k (0, 0)).1) = 0
  num : (pl.map fun k => (R.getD k (0, 0)).2).sum % 2 = 1
theorem ClashOk.range {R : List (Nat × Nat)} {pl : List Nat} (h : ClashOk R pl) : (List.range R.length).filter (fun k => decide (k ∈ pl)) = pl := by
  refine asc_ext (List.Pairwise.filter _ List.pairwise_lt_range) h.asc fun k => ?_
  rw [List.mem_filter, List.mem_range, decide_eq_true_iff]
  exact ⟨fun q => q.2, fun q => ⟨h.lt k q, q⟩⟩
def spClash (K : PySem.W.Frag) : Sp := fun vs H Q _ => ∃ (t rw : Addr) (pl : List Nat) (us : List V) (R : List (Nat × Nat)), vs = [.ref t, .ref rw] ∧ H t = some (.tup (natsV pl)) ∧ SqL K H rw us ∧ PRel H us R ∧ R.length ≤ 60 ∧ ClashOk R pl ∧ ∀ H', Same H H' → Q (.bl true) H'
abbrev sc__law_is_clash_N : List PySem.Str := ["told", "rows", "k"]
theorem sc__law_is_clash : FnScope sc__law_is_clash_N ["told", "rows"] (defScope (topS 24)) := ⟨rfl, rfl, rfl, by decide +kernel, rfl, by decide +kernel, by decide +kernel⟩
theorem range_filter_succ (f : Nat → Bool) (i : Nat) : (List.range (i + 1)).filter f = (List.range i).filter f ++ (if f i = true then [i] else []) := by
  rw [List.range_succ, List.filter_append]
  congr 1
  cases e : f i with
  | true => simp [e]
  | false => simp [e]
theorem getD_of {α : Type} {l : List α} {i : Nat} {x d : α} (h : l[i]? = some x) : l.getD i d = x := by rw [List.getD_eq_getElem?_getD, h]; rfl
theorem ok_is_clash (T : Blt mg) (D : DefAt K mg "_law_is_clash" (topS 24) ["told", "rows"]) (D_law_is_int : Cal P w K mg base 1 "_law_is_int" spIsInt) (D_law_sum : Cal P w K mg base 1 "_law_sum" (spSum K)) : Cal P w K mg base 2 "_law_is_clash" (spClash K) := by
  refine cal_of D sc__law_is_clash (fun vs H Q E h => ?_) (fun f cdv A outer s H vs Q E hr h => ?_)
  · obtain ⟨t, rw, pl, us, R, rfl, _⟩ := h
    rfl
  · obtain ⟨t, rw_, pl, us, R, rfl, ht, hrw, hR, hRl, ok, q⟩ := h
    refine ⟨_, (pss_cons (ps_if (PW.pt (pw_or (pt_not (pt_val (pe_callB (Own.isiK (K := K) rfl) (by rfl) T.isinstance (by decide +kernel) (pa_cons (pv 0) (pa_cons (pe_bltn (v := .ty "tuple") rfl T.tuple (by decide +kernel) rfl) pa_nil))))) (pw_or (pt_not (pt_val (pe_callB (cr_all rfl) (by rfl) T.all (by decide +kernel) (pa_cons (pe_lc (own := [("k", 2)]) (g := (gName 2)) rfl sc__law_is_clash.nd (Own.pi_tupK (K := K) rfl (pv 0)) (blkOk_by (own := [("k", 2)]) (N := sc__law_is_clash_N) (sc := defScope (topS 24)) (by decide +kernel)) (fun _ _ _ _ _ => (pg_name (i := 2) sc__law_is_clash.nd rfl (Or.inl rfl))) (fun _ _ _ _ _ => pts_nil) (fun _ _ _ _ _ => (Own.pe_c D_law_is_int hr (by decide) rfl (pa_cons (pv 2) pa_nil)))) pa_nil)))) (pw_or1 (pt_cmpR Own.oc_eq (pe_callB call_len_seq (by rfl) T.len (by decide +kernel) (pa_cons (pv 0) pa_nil)) pe_int (nomark _))))))
   (pss_one (ps_ret pe_bl))
   pss_nil)
  (pss_cons (ps_if (pt_cmpR (op_neD hr.units) (pe_callTy (Own.listK (K := K) rfl) (by rfl) T.list (by decide +kernel) (pa_cons (pv 0) pa_nil)) (pe_lc (own := [("k", 2)]) (g := (gName 2)) rfl sc__law_is_clash.nd (Own.pi_rangeN rfl T.range (pa_cons (pe_callB call_len_seq (by rfl) T.len (by decide +kernel) (pa_cons (pv 1) pa_nil)) pa_nil)) (blkOk_by (own := [("k", 2)]) (N := sc__law_is_clash_N) (sc := defScope (topS 24)) (by decide +kernel)) (fun _ _ _ _ _ => (pg_name (i := 2) sc__law_is_clash.nd rfl (Or.inl rfl))) (fun _ _ _ _ _ => (pts_one (pt_cmpR (Own.inSeq (K := K) rfl) (pv 2) (pv 0) rfl))) (fun _ _ _ _ _ => (pv 2))) (nomark _))
   (pss_one (ps_ret pe_bl))
   pss_nil)
  (pss_one (ps_ret (pe_and (pe_cmpR Own.oc_eq (Own.pe_c D_law_sum hr (by decide) rfl (pa_cons (pe_lc (own := [("k", 2)]) (g := (gName 2)) rfl sc__law_is_clash.nd (Own.pi_tupK (K := K) rfl (pv 0)) (blkOk_by (own := [("k", 2)]) (N := sc__law_is_clash_N) (sc := defScope (topS 24)) (by decide +kernel)) (fun _ _ _ _ _ => (pg_name (i := 2) sc__law_is_clash.nd rfl (Or.inl rfl))) (fun _ _ _ _ _ => pts_nil) (fun _ _ _ _ _ => (pe_ix (Own.ixT (K := K) rfl) (pe_ix (Own.ixL (K := K) rfl) (pv 1) (pv 2) (fun _ _ => rfl)) pe_int (fun _ _ => rfl)))) pa_nil)) pe_int (nomark _)) (pe_one (pe_cmpR Own.oc_eq (pe_op Own.on_and (pe_callB (Own.cr_sumN rfl) (by rfl) T.sum (by decide +kernel) (pa_cons (pe_lc (own := [("k", 2)]) (g := (gName 2)) rfl sc__law_is_clash.nd (Own.pi_tupK (K := K) rfl (pv 0)) (blkOk_by (own := [("k", 2)]) (N := sc__law_is_clash_N) (sc := defScope (topS 24)) (by decide +kernel)) (fun _ _ _ _ _ => (pg_name (i := 2) sc__law_is_clash.nd rfl (Or.inl rfl))) (fun _ _ _ _ _ => pts_nil) (fun _ _ _ _ _ => (pe_ix (Own.ixT (K := K) rfl) (pe_ix (Own.ixL (K := K) rfl) (pv 1) (pv 2) (fun _ _ => rfl)) pe_int (fun _ _ => rfl)))) pa_nil)) pe_int) pe_int (nomark _)))))))), ?_⟩
    have hge := line_ge
    have hpl : pl.length ≤ 60 := by
      have z := nodup_len (m := List.range R.length) (ok.asc.imp fun h => Nat.ne_of_lt h) fun k hk => List.mem_range.mpr (ok.lt k hk)
      rw [List.length_range] at z
      omega
    have hpl0 : 0 < pl.length := List.length_pos_iff.mpr ok.ne
    have row : ∀ k ∈ pl, ∃ (a : Addr) (r l : Nat), R[k]? = some (r, l) ∧ us[k]? = some (.ref a) ∧ H a = some (.tup [.int (r : Int), .int (l : Int)]) := fun k hk => by
      have hk2 : k < us.length := by rw [hR.len]; exact ok.lt k hk
      obtain ⟨a, r, l, h1, h2, h3⟩ := hR.get (List.getElem?_eq_getElem hk2)
      exact ⟨a, r, l, h1, by rw [List.getElem?_eq_getElem hk2, h2], h3⟩
    walk_at "go"
    refine ⟨_, _, _, _, true, rfl, .ty _, .base (.tup ht), kit_ty (by decide +kernel), ?_⟩
    refine ⟨_, rfl, ?_⟩
    refine iteF ?_
    walk_at "go"
    refine ⟨⟨_, SqT.of ht⟩, fun D1 hD1 => ?_⟩
    refine lc_it walk_tup (fun i H' => H' = upd H D1 (.lst ((List.replicate i true).map V.bl))) rfl (fun i H' _ e => by rw [e]; exact SqT.of (Same.upd_new hD1 _ _ ht)) ?_ ?_
    · rintro i x H1 H2 hi rfl ⟨rfl, hx⟩
      obtain ⟨n, hn, rfl⟩ := natsV_get hx
      rw [natsV_len] at hi
      walk_at "go"
      refine ⟨_, upd_same, by rw [List.length_map, List.length_replicate]; omega, ?_⟩
      rw [upd_upd, List.replicate_succ', List.map_append]
      rfl
    rintro H1 rfl
    have hall : (List.replicate (natsV pl).length true).all id = true := by simp
    walk_at "go"
    refine ⟨D1, _, rfl, SqL.of upd_same, ?_⟩
    refine ⟨_, rfl, ?_⟩
    rw [hall]
    refine iteF ?_
    have S1 : Same H (upd H D1 (.lst ((List.replicate (natsV pl).length true).map V.bl))) := Same.upd_new hD1
    generalize upd H D1 (.lst ((List.replicate (natsV pl).length true).map V.bl)) = H1 at S1
    walk_at "go"
    refine ⟨t, _, rfl, .inr (SqT.of (S1 _ _ ht)), ?_⟩
    walk_at "go"
    refine ite2 (fun hz => False.elim (by have z : (natsV pl).length = 0 := of_decide_eq_true hz; rw [natsV_len] at z; omega)) (fun _ => ?_)
    walk_at "go"
    refine ⟨t, _, rfl, .inr (SqT.of (S1 _ _ ht)), fun l hl => ?_⟩
    have S2 := same_new (o := .lst (natsV pl)) S1 hl
    have hl2 : upd H1 l (.lst (natsV pl)) l = some (.lst (natsV pl)) := upd_same
    generalize upd H1 l (.lst (natsV pl)) = H2 at S2 hl2
    walk_at "go"
    refine ⟨rw_, us, rfl, .inl (S2.seq hrw), ?_⟩
    have hul := hR.len
    walk_at "go"
    intro D2 hD2
    refine lc_it walk_rangeN (fun i H' => H' = upd H2 D2 (.lst (natsV ((List.range i).filter fun k => decide (k ∈ pl))))) rfl (fun _ _ _ _ => trivial) ?_ ?_
    · rintro i x H3 H4 hi rfl ⟨rfl, rfl⟩
      have hfl : ((List.range i).filter fun k => decide (k ∈ pl)).length ≤ i := by
        have z := List.length_filter_le (fun k => decide (k ∈ pl)) (List.range i)
        rw [List.length_range] at z
        exact z
      walk_at "go"
      refine ⟨t, natsV pl, rfl, .inr (SqT.of (Same.upd_new hD2 _ _ (S2 _ _ ht))), rfl, flat_nats pl, ?_⟩
      refine ⟨_, rfl, ?_⟩
      rw [show inV (V.int (i : Int)) (natsV pl) = decide (i ∈ pl) from inV_nats i pl]
      refine ite2 (fun hin => ?_) (fun hin => ?_)
      · walk_at "go"
        refine ⟨_, upd_same, by rw [natsV_len]; omega, ?_⟩
        have hin2 : decide (i ∈ pl) = true := hin
        rw [upd_upd, range_filter_succ, if_pos hin2, ← natsV_snoc]
      · have hin2 : ¬ decide (i ∈ pl) = true := hin
        rw [range_filter_succ, if_neg hin2, List.append_nil]
    rintro H3 rfl
    rw [hul, ok.range]
    walk_at "go"
    have S3 := same_new (o := .lst (natsV pl)) S2 hD2
    refine ne_same (n := 2) (.lst (SqL.of (Same.upd_new hD2 _ _ hl2)) (dpa_nats pl)) (.lst (SqL.of upd_same) (dpa_nats pl)) (nd_nats pl) (by decide) ?_
    generalize upd H2 D2 (.lst (natsV pl)) = H3 at S3
    refine ⟨_, rfl, ?_⟩
    refine iteF ?_
    have step : ∀ (f : Nat × Nat → Nat) (i k : Nat), pl[i]? = some k → natsV ((pl.take i).map fun k => f (R.getD k (0, 0))) ++ [.int ((f (R.getD k (0, 0)) : Nat) : Int)] = natsV ((pl.take (i + 1)).map fun k => f (R.getD k (0, 0))) := fun f i k e => by
      rw [natsV_snoc, List.take_add_one, e, List.map_append]
      rfl
    have tl : ∀ i, i ≤ (natsV pl).length → (natsV ((pl.take i).map fun k => (R.getD k (0, 0)).1)).length < 100 ∧ (natsV ((pl.take i).map fun k => (R.getD k (0, 0)).2)).length < 100 := fun i _ => by
      rw [natsV_len, natsV_len, List.length_map, List.length_map, List.length_take]
      omega
    walk_at "go"
    refine ⟨⟨_, SqT.of (S3 _ _ ht)⟩, fun D3 hD3 => ?_⟩
    refine lc_it walk_tup (fun i H' => H' = upd H3 D3 (.lst (natsV ((pl.take i).map fun k => (R.getD k (0, 0)).1)))) rfl (fun i H' _ e => by rw [e]; exact SqT.of (Same.upd_new hD3 _ _ (S3 _ _ ht))) ?_ ?_
    · rintro i x H4 H5 hi rfl ⟨rfl, hx⟩
      obtain ⟨k, hk, rfl⟩ := natsV_get hx
      obtain ⟨a, r, l, hR1, hu1, ha1⟩ := row k (List.mem_of_getElem? hk)
      have st := step (·.1) i k hk
      have tli := (tl i (Nat.le_of_lt hi)).1
      rw [getD_of hR1] at st
      have S4 := same_new (o := .lst (natsV ((pl.take i).map fun k => (R.getD k (0, 0)).1))) S3 hD3
      walk_at "go"
      refine ⟨rw_, us, (k : Int), .ref a, rfl, rfl, S4.seq hrw, atI_nat hu1, ?_⟩
      refine ⟨a, _, 0, _, rfl, rfl, SqT.of (S4 _ _ ha1), rfl, ?_⟩
      refine ⟨_, upd_same, by omega, ?_⟩
      rw [upd_upd, ← st]
    rintro H4 rfl
    rw [natsV_len, List.take_length]
    have S4 := same_new (o := .lst (natsV (pl.map fun k => (R.getD k (0, 0)).1))) S3 hD3
    walk_at "go"
    refine ⟨D3, _, rfl, SqL.of upd_same, ?_⟩
    rw [ok.bits]
    generalize upd H3 D3 (.lst (natsV (pl.map fun k => (R.getD k (0, 0)).1))) = H4 at S4
    walk_at "go"
    refine ⟨⟨_, SqT.of (S4 _ _ ht)⟩, fun D4 hD4 => ?_⟩
    refine lc_it walk_tup (fun i H' => H' = upd H4 D4 (.lst (natsV ((pl.take i).map fun k => (R.getD k (0, 0)).2)))) rfl (fun i H' _ e => by rw [e]; exact SqT.of (Same.upd_new hD4 _ _ (S4 _ _ ht))) ?_ ?_
    · rintro i x H5 H6 hi rfl ⟨rfl, hx⟩
      obtain ⟨k, hk, rfl⟩ := natsV_get hx
      obtain ⟨a, r, l, hR1, hu1, ha1⟩ := row k (List.mem_of_getElem? hk)
      have st := step (·.2) i k hk
      have tli := (tl i (Nat.le_of_lt hi)).2
      rw [getD_of hR1] at st
      have S5 := same_new (o := .lst (natsV ((pl.take i).map fun k => (R.getD k (0, 0)).2))) S4 hD4
      walk_at "go"
      refine ⟨rw_, us, (k : Int), .ref a, rfl, rfl, S5.seq hrw, atI_nat hu1, ?_⟩
      refine ⟨a, _, 1, _, rfl, rfl, SqT.of (S5 _ _ ha1), rfl, ?_⟩
      refine ⟨_, upd_same, by omega, ?_⟩
      rw [upd_upd, ← st]
    rintro H5 rfl
    rw [natsV_len, List.take_length]
    have S5 := same_new (o := .lst (natsV (pl.map fun k => (R.getD k (0, 0)).2))) S4 hD4
    walk_at "go"
    refine ⟨D4, _, rfl, SqL.of upd_same, ?_⟩
    walk_at "go"
    have e1 : decide ((pl.map fun k => (R.getD k (0, 0)).2).sum &&& 1 = 1) = true := decide_eq_true (by rw [Nat.and_one_is_mod]; exact ok.num)
    show Q (.bl (decide ((pl.map fun k => (R.getD k (0, 0)).2).sum &&& 1 = 1))) _
    rw [e1]
    exact q _ S5
end
end Cl

namespace Cl
local macro_rules | `(tactic| walk_at "go") => `(tactic| repeat (first | (refine ⟨_, rfl, ?_⟩) | (refine ⟨_, _, rfl, rfl, ?_⟩) | (refine ⟨_, rfl, rfl, ?_⟩) | (refine ⟨_, _, rfl, ?_⟩) | (refine And.intro (by first | with_reducible rfl | rfl | omega | decide | assumption | (dsimp only; first | omega | decide | assumption)) ?_)))

local macro_rules | `(tactic| walk_at "bag") => `(tactic| repeat (first | (refine ⟨_, _, _, _, rfl, rfl, L2.SqL.of L2.upd_same, (by rfl), ?_⟩) | (refine ⟨_, _, _, _, rfl, rfl, L2.upd_same, (by rfl), ?_⟩) | (refine ⟨_, rfl, ?_⟩) | (refine ⟨_, _, rfl, rfl, ?_⟩) | (refine ⟨_, rfl, rfl, ?_⟩) | (refine ⟨_, _, rfl, ?_⟩) | (refine And.intro (by first | with_reducible rfl | rfl | omega | decide | assumption | (dsimp only; first | omega | decide | assumption)) ?_)))
open PySem L2 Own Bits
section
variable {P : Program} {w : World} {K : PySem.W.Frag} {mg : PySem.Str → Option Value} {base : Heap}

/-! ### _law_is_choice -/
def orAll (R : List (Nat × Nat)) : Nat := R.foldl (fun a r => a ||| r.1) 0
def sumIx (ns T : List PySem.Str) : Nat := (T.map fun z => 2 ^ ixS ns z).sum
structure ChoiceOk (ns : List PySem.Str) (R : List (Nat × Nat)) (T : List PySem.Str) : Prop where
  sub : (selV ns (orAll R) ns.length).filter (fun z => decide (z ∈ T)) = T
  par : ∀ r ∈ R, pb (r.1 &&& sumIx ns T) = r.2
def spChoice (K : PySem.W.Frag) : Sp := fun vs H Q _ => ∃ (t nm rw : Addr) (T ns : List PySem.Str) (us : List V) (R : List (Nat × Nat)), vs = [.ref t, .ref nm, .ref rw] ∧ H t = some (.tup (T.map V.str)) ∧ SqL K H nm (ns.map V.str) ∧ ns.length ≤ 50 ∧ ns.Nodup ∧ (∀ z ∈ ns, PyData.strOk z = true) ∧
  SqL K H rw us ∧ PRel H us R ∧ R.length ≤ 60 ∧ (∀ r ∈ R, r.1 < 2 ^ ns.length) ∧ ChoiceOk ns R T ∧ ∀ H', Same H H' → Q (.bl true) H'
abbrev sc__law_is_choice_N : List PySem.Str := ["told", "names", "rows", "name", "standing", "bits", "number", "chosen"]
theorem sc__law_is_choice : FnScope sc__law_is_choice_N ["told", "names", "rows"] (defScope (topS 23)) := ⟨rfl, rfl, rfl, by decide +kernel, rfl, by decide +kernel, by decide +kernel⟩
theorem mem_selV {α : Type} {xs : List α} {lot i : Nat} {z : α} (h : z ∈ selV xs lot i) : z ∈ xs := by
  unfold selV at h
  obtain ⟨k, _, e⟩ := List.mem_filterMap.mp h
  exact List.mem_of_getElem? e
theorem strs_get {l : List PySem.Str} {i : Nat} {x : V} (h : (l.map V.str)[i]? = some x) : ∃ z : PySem.Str, l[i]? = some z ∧ x = .str z := by
  rw [List.getElem?_map] at h
  cases e : l[i]? with
  | none => rw [e] at h; cases h
  | some n =>
    rw [e] at h
    exact ⟨n, rfl, (Option.some.inj h).symm⟩
theorem ix_index {ns : List PySem.Str} {z : PySem.Str} (h : z ∈ ns) : (ns.map V.str)[ixS ns z]? = some (.str z) ∧ ∀ (m : Nat) (z' : V), m < ixS ns z → (ns.map V.str)[m]? = some z' → eqV z' (.str z) = false := by
  refine ⟨by rw [List.getElem?_map, ixS_get h]; rfl, fun m z' hm e => ?_⟩
  obtain ⟨y, hy, rfl⟩ := strs_get e
  have h1 := List.not_of_lt_findIdx (xs := ns) (p := fun y => decide (y = z)) hm
  have hlt : m < ns.length := Nat.lt_trans hm (ixS_lt h)
  rw [List.getElem?_eq_getElem hlt] at hy
  have h2 : ns[m] = y := Option.some.inj hy
  have h3 : ¬ ns[m] = z := by simpa using h1
  show (y == z) = false
  rw [← h2]
  simpa using h3
theorem ok_is_choice (T : Blt mg) (D : DefAt K mg "_law_is_choice" (topS 23) ["told", "names", "rows"]) (D_law_chosen : Cal P w K mg base 1 "_law_chosen" (spChosen K)) (D_law_parity : Cal P w K mg base 1 "_law_parity" spParity) : Cal P w K mg base 2 "_law_is_choice" (spChoice K) := by
  refine cal_of D sc__law_is_choice (fun vs H Q E h => ?_) (fun f cdv A outer s H vs Q E hr h => ?_)
  · obtain ⟨t, nm, rw, Tl, ns, us, R, rfl, _⟩ := h
    rfl
  · obtain ⟨t, nm, rw_, Tl, ns, us, R, rfl, ht, hnm, hnl, hnd, hok, hrw, hR, hRl, hRb, ok, q⟩ := h
    refine ⟨_, (pss_cons (ps_if (PW.pt (pw_or (pt_not (pt_val (pe_callB (Own.isiK (K := K) rfl) (by rfl) T.isinstance (by decide +kernel) (pa_cons (pv 0) (pa_cons (pe_bltn (v := .ty "tuple") rfl T.tuple (by decide +kernel) rfl) pa_nil))))) (pw_or1 (pt_not (pt_val (pe_callB (cr_all rfl) (by rfl) T.all (by decide +kernel) (pa_cons (pe_lc (own := [("name", 3)]) (g := (gName 3)) rfl sc__law_is_choice.nd (Own.pi_tupK (K := K) rfl (pv 0)) (blkOk_by (own := [("name", 3)]) (N := sc__law_is_choice_N) (sc := defScope (topS 23)) (by decide +kernel)) (fun _ _ _ _ _ => (pg_name (i := 3) sc__law_is_choice.nd rfl (Or.inl rfl))) (fun _ _ _ _ _ => pts_nil) (fun _ _ _ _ _ => (pe_callB (Own.isiK (K := K) rfl) (by rfl) T.isinstance (by decide +kernel) (pa_cons (pv 3) (pa_cons (pe_bltn (v := .ty "str") rfl T.str (by decide +kernel) rfl) pa_nil))))) pa_nil)))))))
   (pss_one (ps_ret pe_bl))
   pss_nil)
  (pss_cons (ps_set (i := 4) sc__law_is_choice.nd rfl (Or.inl rfl) pe_int)
  (pss_cons (ps_for PassesOwn.never rfl (Own.pi_listK (K := K) rfl (pv 2)) (pg_tup rfl (pgs_cons (pg_name (i := 5) sc__law_is_choice.nd rfl (Or.inl rfl)) (pgs_cons (pg_name (i := 6) sc__law_is_choice.nd rfl (Or.inl rfl)) pgs_nil)))
   (pss_one (ps_set (i := 4) sc__law_is_choice.nd rfl (Or.inl rfl) (pe_op Own.on_or (pv 4) (pv 5)))))
  (pss_cons (ps_if (pt_cmpR (op_neD hr.units) (pe_callTy (Own.listK (K := K) rfl) (by rfl) T.list (by decide +kernel) (pa_cons (pv 0) pa_nil)) (pe_lc (own := [("name", 3)]) (g := (gName 3)) rfl sc__law_is_choice.nd (Own.pi_listK (K := K) rfl (Own.pe_c D_law_chosen hr (by decide) rfl (pa_cons (pv 1) (pa_cons (pv 4) pa_nil)))) (blkOk_by (own := [("name", 3)]) (N := sc__law_is_choice_N) (sc := defScope (topS 23)) (by decide +kernel)) (fun _ _ _ _ _ => (pg_name (i := 3) sc__law_is_choice.nd rfl (Or.inl rfl))) (fun _ _ _ _ _ => (pts_one (pt_cmpR (Own.inSeq (K := K) rfl) (pv 3) (pv 0) rfl))) (fun _ _ _ _ _ => (pv 3))) (nomark _))
   (pss_one (ps_ret pe_bl))
   pss_nil)
  (pss_cons (ps_set (i := 7) sc__law_is_choice.nd rfl (Or.inr rfl) (pe_callB (Own.cr_sumN rfl) (by rfl) T.sum (by decide +kernel) (pa_cons (pe_lc (own := [("name", 3)]) (g := (gName 3)) rfl sc__law_is_choice.nd (Own.pi_tupK (K := K) rfl (pv 0)) (blkOk_by (own := [("name", 3)]) (N := sc__law_is_choice_N) (sc := defScope (topS 23)) (by decide +kernel)) (fun _ _ _ _ _ => (pg_name (i := 3) sc__law_is_choice.nd rfl (Or.inl rfl))) (fun _ _ _ _ _ => pts_nil) (fun _ _ _ _ _ => (pe_op Own.on_shl pe_int (Own.pe_index (K := K) rfl (pv 1) (pa_cons (pv 3) pa_nil))))) pa_nil)))
  (pss_one (ps_ret (pe_callB (cr_all rfl) (by rfl) T.all (by decide +kernel) (pa_cons (pe_lc (own := [("bits", 5), ("number", 6)]) (g := (gTup K 2 (gCons (gName 5) (gCons (gName 6) gNil)))) rfl sc__law_is_choice.nd (Own.pi_listK (K := K) rfl (pv 2)) (blkOk_by (own := [("bits", 5), ("number", 6)]) (N := sc__law_is_choice_N) (sc := defScope (topS 23)) (by decide +kernel)) (fun _ _ _ _ _ => (pg_tup rfl (pgs_cons (pg_name (i := 5) sc__law_is_choice.nd rfl (Or.inl rfl)) (pgs_cons (pg_name (i := 6) sc__law_is_choice.nd rfl (Or.inl rfl)) pgs_nil)))) (fun _ _ _ _ _ => pts_nil) (fun _ _ _ _ _ => (pe_cmpR Own.oc_eq (Own.pe_c D_law_parity hr (by decide) rfl (pa_cons (pe_op Own.on_and (pv 5) (pv 7)) pa_nil)) (pv 6) (nomark _)))) pa_nil))))))))), ?_⟩
    have hge := line_ge
    have hTs : ∀ z ∈ Tl, z ∈ ns := fun z hz => by
      rw [← ok.sub] at hz
      exact mem_selV (List.mem_filter.mp hz).1
    have hTl : Tl.length ≤ 50 := by
      rw [← ok.sub]
      refine Nat.le_trans (List.length_filter_le _ _) (Nat.le_trans (selV_len _ _ _) hnl)
    walk_at "go"
    refine ⟨_, _, _, _, true, rfl, .ty _, .base (.tup ht), kit_ty (by decide +kernel), ?_⟩
    refine ⟨_, rfl, ?_⟩
    refine iteF ?_
    walk_at "go"
    refine ⟨⟨_, SqT.of ht⟩, fun D1 hD1 => ?_⟩
    refine lc_it walk_tup (fun i H' => H' = upd H D1 (.lst ((List.replicate i true).map V.bl))) rfl (fun i H' _ e => by rw [e]; exact SqT.of (Same.upd_new hD1 _ _ ht)) ?_ ?_
    · rintro i x H1 H2 hi rfl ⟨rfl, hx⟩
      obtain ⟨z, hz, rfl⟩ := strs_get hx
      rw [List.length_map] at hi
      walk_at "go"
      refine ⟨_, _, _, _, true, rfl, .ty _, .base (.str z), kit_ty (by decide +kernel), ?_⟩
      refine ⟨_, upd_same, by rw [List.length_map, List.length_replicate]; omega, ?_⟩
      rw [upd_upd, List.replicate_succ', List.map_append]
      rfl
    rintro H1 rfl
    have hall : (List.replicate (Tl.map V.str).length true).all id = true := by simp
    walk_at "go"
    refine ⟨D1, _, rfl, SqL.of upd_same, ?_⟩
    refine ⟨_, rfl, ?_⟩
    rw [hall]
    refine iteF ?_
    have S1 : Same H (upd H D1 (.lst ((List.replicate (Tl.map V.str).length true).map V.bl))) := Same.upd_new hD1
    generalize upd H D1 (.lst ((List.replicate (Tl.map V.str).length true).map V.bl)) = H1 at S1
    walk_at "go"
    refine ⟨⟨us, S1.seq hrw⟩, for_it (walk_list (xs := us)) (fun i σ H' => H' = H1 ∧ ∃ (e3 e5 e6 : Option V), σ = [some (.ref t), some (.ref nm), some (.ref rw_), e3, some (.int ((orAll (R.take i) : Nat) : Int)), e5, e6, none])
      ⟨rfl, none, none, none, rfl⟩ (fun i σ H' _ ⟨e, _⟩ => by rw [e]; exact S1.seq hrw) ?_ ?_⟩
    · rintro i x σ H3' H3 hi ⟨rfl, e3, e5, e6, rfl⟩ ⟨rfl, hx⟩
      obtain ⟨a, b, n, hRi, rfl, ha⟩ := hR.get hx
      refine ⟨a, _, rfl, SqT.of (S1 _ _ ha), rfl, ?_⟩
      walk_at "go"
      refine ⟨e3, some (.int (b : Int)), some (.int (n : Int)), ?_⟩
      rw [List.take_add_one, hRi]
      unfold orAll
      rw [List.foldl_append]
      rfl
    rintro σ H1 ⟨rfl, e3, e5, e6, rfl⟩
    rw [hR.len, List.take_length]
    walk_at "go"
    refine ⟨t, _, rfl, .inr (SqT.of (S1 _ _ ht)), fun l hl => ?_⟩
    have S2 := same_new (o := .lst (Tl.map V.str)) S1 hl
    have hl2 : upd H1 l (.lst (Tl.map V.str)) l = some (.lst (Tl.map V.str)) := upd_same
    generalize upd H1 l (.lst (Tl.map V.str)) = H2 at S2 hl2
    walk_at "go"
    refine ⟨nm, _, orAll R, rfl, S2.seq hnm, by rw [List.length_map]; omega, fun p hp => ?_⟩
    rw [selV_map, List.length_map]
    have S3 := same_new (o := .lst ((selV ns (orAll R) ns.length).map V.str)) S2 hp
    have hl3 := Same.upd_new hp (o := .lst ((selV ns (orAll R) ns.length).map V.str)) _ _ hl2
    have hp3 : upd H2 p (.lst ((selV ns (orAll R) ns.length).map V.str)) p = some (.lst ((selV ns (orAll R) ns.length).map V.str)) := upd_same
    generalize upd H2 p (.lst ((selV ns (orAll R) ns.length).map V.str)) = H3 at S3 hl3 hp3
    have hch := selV_len ns (orAll R) ns.length
    have hsub := ok.sub
    generalize selV ns (orAll R) ns.length = ch at hp3 hch hsub
    refine ⟨p, rfl, ⟨_, SqL.of hp3⟩, fun D2 hD2 => ?_⟩
    refine lc_it walk_list (fun i H' => H' = upd H3 D2 (.lst (((ch.take i).filter fun z => decide (z ∈ Tl)).map V.str))) rfl (fun i H' _ e => by rw [e]; exact SqL.of (Same.upd_new hD2 _ _ hp3)) ?_ ?_
    · rintro i x H4 H5 hi rfl ⟨rfl, hx⟩
      obtain ⟨z, hz, rfl⟩ := strs_get hx
      have hfl : ((ch.take i).filter fun z => decide (z ∈ Tl)).length ≤ 50 := by
        refine Nat.le_trans (List.length_filter_le _ _) ?_
        rw [List.length_take]
        omega
      have hst : (ch.take (i + 1)).filter (fun z => decide (z ∈ Tl)) = (ch.take i).filter (fun z => decide (z ∈ Tl)) ++ (if decide (z ∈ Tl) = true then [z] else []) := by
        rw [List.take_add_one, hz, Option.toList, List.filter_append]
        congr 1
        rw [List.filter_cons]
        rfl
      walk_at "go"
      refine ⟨t, _, rfl, .inr (SqT.of (Same.upd_new hD2 _ _ (S3 _ _ ht))), rfl, flat_strs Tl, ?_⟩
      refine ⟨_, rfl, ?_⟩
      rw [inV_strs]
      refine ite2 (fun hin => ?_) (fun hin => ?_)
      · walk_at "go"
        refine ⟨_, upd_same, by rw [List.length_map]; omega, ?_⟩
        have hin2 : decide (z ∈ Tl) = true := hin
        rw [upd_upd, hst, if_pos hin2, List.map_append]
        rfl
      · have hin2 : ¬ decide (z ∈ Tl) = true := hin
        rw [hst, if_neg hin2, List.append_nil]
    rintro H4 rfl
    rw [List.length_map, List.take_length, hsub]
    walk_at "go"
    have S4 := same_new (o := .lst (Tl.map V.str)) S3 hD2
    refine ne_same (n := 2) (.lst (SqL.of (Same.upd_new hD2 _ _ hl3)) (dpa_strs Tl)) (.lst (SqL.of upd_same) (dpa_strs Tl)) (nd_strs fun z hz => hok z (hTs z hz)) (by decide) ?_
    generalize upd H3 D2 (.lst (Tl.map V.str)) = H4 at S4
    refine ⟨_, rfl, ?_⟩
    refine iteF ?_
    walk_at "go"
    refine ⟨⟨_, SqT.of (S4 _ _ ht)⟩, fun D4 hD4 => ?_⟩
    refine lc_it walk_tup (fun i H' => H' = upd H4 D4 (.lst (natsV ((Tl.take i).map fun z => 2 ^ ixS ns z)))) rfl (fun i H' _ e => by rw [e]; exact SqT.of (Same.upd_new hD4 _ _ (S4 _ _ ht))) ?_ ?_
    · rintro i x H5 H6 hi rfl ⟨rfl, hx⟩
      obtain ⟨z, hz, rfl⟩ := strs_get hx
      have hzn := hTs z (List.mem_of_getElem? hz)
      obtain ⟨x1, x2⟩ := ix_index hzn
      have S5 := same_new (o := .lst (natsV ((Tl.take i).map fun z => 2 ^ ixS ns z))) S4 hD4
      have hln : (natsV ((Tl.take i).map fun z => 2 ^ ixS ns z)).length ≤ 50 := by
        rw [natsV_len, List.length_map, List.length_take]
        omega
      have hixl := ixS_lt hzn
      walk_at "go"
      refine ⟨.inl ⟨rfl, _, S5.seq hnm⟩, ?_⟩
      walk_at "go"
      refine ⟨nm, _, _, ixS ns z, .str z, rfl, rfl, S5.seq hnm, rfl, flat_strs ns, x1, by show (z == z) = true; simp, x2, ?_⟩
      walk_at "go"
      refine ⟨_, upd_same, by omega, ?_⟩
      rw [upd_upd, List.take_add_one, hz, List.map_append]
      show upd H4 D4 (.lst (natsV ((Tl.take i).map fun z => 2 ^ ixS ns z) ++ [.int ((1 * 2 ^ ixS ns z : Nat) : Int)])) = _
      rw [natsV_snoc, Nat.one_mul]
      rfl
    rintro H5 rfl
    rw [List.length_map, List.take_length]
    have S5 := same_new (o := .lst (natsV (Tl.map fun z => 2 ^ ixS ns z))) S4 hD4
    walk_at "go"
    refine ⟨D4, _, rfl, SqL.of upd_same, ?_⟩
    generalize upd H4 D4 (.lst (natsV (Tl.map fun z => 2 ^ ixS ns z))) = H5 at S5
    walk_at "go"
    refine ⟨⟨us, S5.seq hrw⟩, fun D5 hD5 => ?_⟩
    refine lc_it (walk_list (xs := us)) (fun i H' => H' = upd H5 D5 (.lst ((List.replicate i true).map V.bl))) rfl (fun i H' _ e => by rw [e]; exact (Same.upd_new hD5).seq (S5.seq hrw)) ?_ ?_
    · rintro i x H6 H7 hi rfl ⟨rfl, hx⟩
      obtain ⟨a, b, n, hRi, rfl, ha⟩ := hR.get hx
      have hul := hR.len
      have S6 := same_new (o := .lst ((List.replicate i true).map V.bl)) S5 hD5
      have hbb := hRb _ (List.mem_of_getElem? hRi)
      have hpar := ok.par _ (List.mem_of_getElem? hRi)
      refine ⟨a, _, rfl, SqT.of (S6 _ _ ha), rfl, ?_⟩
      walk_at "go"
      refine ⟨Nat.le_trans (bl_le (Nat.lt_of_le_of_lt Nat.and_le_left hbb)) (by omega), ?_⟩
      walk_at "go"
      refine ⟨_, upd_same, by rw [List.length_map, List.length_replicate]; omega, ?_⟩
      rw [upd_upd, List.replicate_succ', List.map_append]
      have e2 : decide (pb (b &&& sumIx ns Tl) = n) = true := decide_eq_true hpar
      show upd H5 D5 (.lst (_ ++ [.bl (decide (pb (b &&& sumIx ns Tl) = n))])) = _
      rw [e2]
      rfl
    rintro H6 rfl
    walk_at "go"
    refine ⟨D5, _, rfl, SqL.of upd_same, ?_⟩
    have hall2 : (List.replicate us.length true).all id = true := by simp
    rw [hall2]
    exact q _ (same_new S5 hD5)
end
end Cl

/-! The plain law: what either answers for rows that were handed in, against clash and choice. -/
namespace Cl
open PySem L2 Own Bits

/-! ### numbers and names -/
theorem add_pow_xor : ∀ (i s : Nat), s.testBit i = false → s + 2 ^ i = s ^^^ 2 ^ i
  | 0, s, h => by
    have h0 : s % 2 = 0 := by
      rw [Nat.testBit_zero] at h
      have : ¬ s % 2 = 1 := by simpa using h
      omega
    have e1 : (s ^^^ 2 ^ 0) / 2 = s / 2 := by rw [Nat.xor_div_two]; simp
    have e2 : (s ^^^ 2 ^ 0) % 2 = 1 := by
      have z := Nat.xor_mod_two_pow (a := s) (b := 2 ^ 0) (n := 1)
      rw [Nat.pow_one] at z
      rw [z, h0]
      rfl
    have := Nat.div_add_mod (s ^^^ 2 ^ 0) 2
    rw [e1, e2] at this
    rw [← this, Nat.pow_zero]
    omega
  | i + 1, s, h => by
    have ih := add_pow_xor i (s / 2) (by rw [Nat.testBit_div_two]; exact h)
    have e1 : (s ^^^ 2 ^ (i + 1)) / 2 = s / 2 + 2 ^ i := by
      rw [Nat.xor_div_two, ih]
      congr 1
      rw [Nat.pow_succ]
      omega
    have e2 : (s ^^^ 2 ^ (i + 1)) % 2 = s % 2 := by
      have z := Nat.xor_mod_two_pow (a := s) (b := 2 ^ (i + 1)) (n := 1)
      rw [Nat.pow_one] at z
      rw [z, show 2 ^ (i + 1) % 2 = 0 by rw [Nat.pow_succ]; omega, Nat.xor_zero]
    have := Nat.div_add_mod (s ^^^ 2 ^ (i + 1)) 2
    rw [e1, e2] at this
    rw [← this, Nat.pow_succ]
    omega
theorem mem_sel_iff {xs : List PySem.Str} {lot i : Nat} {z : PySem.Str} : z ∈ selV xs lot i ↔ ∃ k, k < i ∧ lot.testBit k = true ∧ xs[k]? = some z := by
  unfold selV
  rw [List.mem_filterMap]
  constructor
  · rintro ⟨k, hk, e⟩
    obtain ⟨h1, h2⟩ := List.mem_filter.mp hk
    exact ⟨k, List.mem_range.mp h1, h2, e⟩
  · rintro ⟨k, h1, h2, e⟩
    exact ⟨k, List.mem_filter.mpr ⟨List.mem_range.mpr h1, h2⟩, e⟩
theorem sel_bit {xs : List PySem.Str} (nd : xs.Nodup) {lot k : Nat} {z : PySem.Str} (hk : xs[k]? = some z) : z ∈ selV xs lot xs.length ↔ lot.testBit k = true := by
  rw [mem_sel_iff]
  have hkl : k < xs.length := (List.getElem?_eq_some_iff.mp hk).1
  constructor
  · rintro ⟨j, h1, h2, h3⟩
    have : j = k := (List.getElem?_inj h1 nd).mp (h3.trans hk.symm)
    rw [← this]; exact h2
  · intro h
    exact ⟨k, hkl, h, hk⟩
theorem sel_sub {α : Type} (xs : List α) (lot : Nat) : ∀ i, i ≤ xs.length → (selV xs lot i).Sublist (xs.take i)
  | 0, _ => by unfold selV; simp
  | i + 1, h => by
    have hx : xs[i]? = some xs[i] := List.getElem?_eq_getElem h
    rw [selV_succ hx, List.take_add_one, hx]
    refine List.Sublist.append (sel_sub xs lot i (Nat.le_of_lt h)) ?_
    split
    · exact List.Sublist.refl _
    · exact List.nil_sublist _
theorem sel_subl {α : Type} (xs : List α) (lot : Nat) : (selV xs lot xs.length).Sublist xs := by
  have z := sel_sub xs lot xs.length (Nat.le_refl _)
  rwa [List.take_length] at z
theorem _root_.Own.Asc.sub {l m : List PySem.Str} (h : Asc m) (s : l.Sublist m) : Asc l := ⟨h.pw.sublist s, h.nd.sublist s⟩
theorem num_msk {xs : List PySem.Str} (nd : xs.Nodup) {lot : Nat} (hl : lot < 2 ^ xs.length) : lot = msk (fun z => decide (z ∈ selV xs lot xs.length)) xs := by
  refine Nat.eq_of_testBit_eq fun i => ?_
  rw [msk_bit]
  cases e : xs[i]? with
  | none =>
    have hi : xs.length ≤ i := List.getElem?_eq_none_iff.mp e
    rw [Nat.testBit_lt_two_pow (Nat.lt_of_lt_of_le hl (Nat.pow_le_pow_right (by decide) hi))]
    rfl
  | some z =>
    have h := sel_bit nd (lot := lot) e
    show _ = decide (z ∈ selV xs lot xs.length)
    rw [Bool.eq_iff_iff, decide_eq_true_iff]
    exact h.symm
theorem xsum_bit {α : Type} (f : α → Nat) (j : Nat) : ∀ l : List α, (xsum (l.map f)).testBit j = XA (fun x => (f x).testBit j) l
  | [] => by unfold xsum XA; simp
  | x :: l => by
    rw [List.map_cons, xsum_cons, Nat.testBit_xor, xsum_bit f j l]
    rfl
theorem XA_one (z : PySem.Str) : ∀ {l : List PySem.Str}, l.Nodup → XA (fun y => decide (y = z)) l = decide (z ∈ l)
  | [], _ => rfl
  | y :: l, h => by
    obtain ⟨h1, h2⟩ := List.nodup_cons.mp h
    have ih := XA_one z h2
    unfold XA
    rw [ih]
    by_cases e : y = z
    · subst e
      rw [decide_eq_true rfl, decide_eq_false h1, decide_eq_true List.mem_cons_self]
      rfl
    · rw [decide_eq_false e, Bool.false_xor]
      exact decide_eq_decide.mpr ⟨List.mem_cons_of_mem _, fun q => (List.mem_cons.mp q).resolve_left fun w => e w.symm⟩
theorem mask_msk {N items : List PySem.Str} (nd : N.Nodup) (ni : items.Nodup) (h : ∀ z ∈ items, z ∈ N) : maskS N items = msk (fun z => decide (z ∈ items)) N := by
  refine Nat.eq_of_testBit_eq fun i => ?_
  unfold maskS
  rw [xsum_bit, msk_bit]
  cases e : N[i]? with
  | none =>
    have hi : N.length ≤ i := List.getElem?_eq_none_iff.mp e
    refine XA_false fun z hz => ?_
    rw [Nat.testBit_two_pow]
    exact decide_eq_false fun w => by have := ixS_lt (h z hz); omega
  | some z =>
    show _ = decide (z ∈ items)
    rw [← XA_one z ni]
    refine XA_congr fun y hy => ?_
    rw [Nat.testBit_two_pow]
    refine decide_eq_decide.mpr ⟨fun w => ?_, fun w => by rw [w]; exact ixS_of nd e⟩
    have h1 := ixS_get (h y hy)
    rw [w, e] at h1
    exact (Option.some.inj h1).symm
theorem sum_mask {N : List PySem.Str} (nd : N.Nodup) : ∀ {items : List PySem.Str}, items.Nodup → (∀ z ∈ items, z ∈ N) → sumIx N items = maskS N items
  | [], _, _ => rfl
  | z :: items, ni, h => by
    obtain ⟨h1, h2⟩ := List.nodup_cons.mp ni
    have hN : ∀ y ∈ items, y ∈ N := fun y hy => h y (List.mem_cons_of_mem _ hy)
    have ih := sum_mask nd h2 hN
    have hz := h z List.mem_cons_self
    have hb : (maskS N items).testBit (ixS N z) = false := by
      rw [mask_msk nd h2 hN, msk_bit, ixS_get hz]
      exact decide_eq_false h1
    have e1 : sumIx N (z :: items) = 2 ^ ixS N z + sumIx N items := by
      unfold sumIx
      rw [List.map_cons, List.sum_cons]
    have e2 : maskS N (z :: items) = 2 ^ ixS N z ^^^ maskS N items := by
      unfold maskS
      rw [List.map_cons, xsum_cons]
    rw [e1, e2, ih, Nat.add_comm, add_pow_xor _ _ hb, Nat.xor_comm]
theorem xsum_perm : ∀ {l m : List Nat}, l.Perm m → xsum l = xsum m := by
  intro l m p
  induction p with
  | nil => rfl
  | cons x _ ih => rw [xsum_cons, xsum_cons, ih]
  | swap x y l => rw [xsum_cons, xsum_cons, xsum_cons, xsum_cons, ← Nat.xor_assoc, ← Nat.xor_assoc, Nat.xor_comm x y]
  | trans _ _ h1 h2 => exact h1.trans h2
theorem mask_perm {N l m : List PySem.Str} (p : l.Perm m) : maskS N l = maskS N m := xsum_perm (p.map _)

/-! ### the rows over all names, the rows over the names that occur -/
theorem orAll_bit (j : Nat) : ∀ (R : List (Nat × Nat)) (a : Nat), (R.foldl (fun a r => a ||| r.1) a).testBit j = (a.testBit j || R.any fun r => r.1.testBit j)
  | [], a => by simp
  | r :: R, a => by
    rw [List.foldl_cons, orAll_bit j R, Nat.testBit_or, List.any_cons, Bool.or_assoc]
theorem orAll_iff {R : List (Nat × Nat)} {j : Nat} : (orAll R).testBit j = true ↔ ∃ r ∈ R, r.1.testBit j = true := by
  unfold orAll
  rw [orAll_bit, Nat.zero_testBit, Bool.false_or, List.any_eq_true]
/-- the names that occur -/
abbrev occ (ns : List PySem.Str) (R : List (Nat × Nat)) : List PySem.Str := selV ns (orAll R) ns.length
theorem occ_mem {ns : List PySem.Str} {R : List (Nat × Nat)} {z : PySem.Str} : z ∈ occ ns R ↔ ∃ r ∈ R, z ∈ selV ns r.1 ns.length := by
  rw [mem_sel_iff]
  constructor
  · rintro ⟨k, h1, h2, h3⟩
    obtain ⟨r, hr, hb⟩ := orAll_iff.mp h2
    exact ⟨r, hr, mem_sel_iff.mpr ⟨k, h1, hb, h3⟩⟩
  · rintro ⟨r, hr, h⟩
    obtain ⟨k, h1, h2, h3⟩ := mem_sel_iff.mp h
    exact ⟨k, h1, orAll_iff.mpr ⟨r, hr, h2⟩, h3⟩
/-- the rows as numbers over the names that occur -/
def Rn (ns : List PySem.Str) (R : List (Nat × Nat)) : List (Nat × Nat) := R.map fun r => (maskS (occ ns R) (selV ns r.1 ns.length), r.2)
theorem Rb_Rn {ns : List PySem.Str} {R : List (Nat × Nat)} {R' : List LRow} (h : HandOk ns R R') : Rb (occ ns R) R' = Rn ns R := by
  refine List.ext_getElem? fun i => ?_
  unfold Rb Rn
  rw [List.getElem?_map, List.getElem?_map]
  cases e : R[i]? with
  | none =>
    have hi := List.getElem?_eq_none_iff.mp e
    rw [List.getElem?_eq_none (by rw [h.len]; exact hi)]
    rfl
  | some r =>
    obtain ⟨b, n⟩ := r
    obtain ⟨l, h1, h2⟩ := h.row i b n e
    rw [h1]
    show some (maskS _ l, n) = some (maskS _ (selV ns b ns.length), n)
    rw [mask_perm h2]
/-- what either tells of these rows -/
def eithR (ns : List PySem.Str) (R : List (Nat × Nat)) : PySem.Str × List V := match putAll (Rn ns R) 0 [] with
  | .inl s => ("none", natsV (places s))
  | .inr k => ("some", (selS (occ ns R) (places (solveM k))).map V.str)
theorem eithV_R {ns : List PySem.Str} {R : List (Nat × Nat)} {R' : List LRow} (h : HandOk ns R R') : eithV (occ ns R) R' = eithR ns R := by
  unfold eithV eithR
  rw [Rb_Rn h]
  all_goals (cases putAll (Rn ns R) 0 [] <;> rfl)
theorem hand_mem {ns : List PySem.Str} {R : List (Nat × Nat)} {R' : List LRow} (h : HandOk ns R R') (z : PySem.Str) : z ∈ occ ns R ↔ ∃ p ∈ R', z ∈ p.1 := by
  rw [occ_mem]
  constructor
  · rintro ⟨⟨b, n⟩, hr, hz⟩
    obtain ⟨i, hi⟩ := List.mem_iff_getElem?.mp hr
    obtain ⟨l, h1, h2⟩ := h.row i b n hi
    exact ⟨(l, n), List.mem_of_getElem? h1, h2.mem_iff.mpr hz⟩
  · rintro ⟨⟨l, n⟩, hp, hz⟩
    obtain ⟨i, hi⟩ := List.mem_iff_getElem?.mp hp
    have hlt : i < R.length := by rw [← h.len]; exact (List.getElem?_eq_some_iff.mp hi).1
    obtain ⟨l', h1, h2⟩ := h.row i R[i].1 R[i].2 (List.getElem?_eq_getElem hlt)
    rw [hi] at h1
    have e := Option.some.inj h1
    injection e with e1 e2
    subst e1
    exact ⟨R[i], List.getElem_mem hlt, h2.mem_iff.mp hz⟩

/-! ### the two answers -/
structure RowsOk (ns : List PySem.Str) (R : List (Nat × Nat)) : Prop where
  asc : Asc ns
  row : ∀ r ∈ R, r.1 < 2 ^ ns.length ∧ r.2 < 2
/-- a choice that keeps all rows -/
def Keeps (R : List (Nat × Nat)) (c : Nat) : Prop := ∀ r ∈ R, ph c r.1 r.2 = false
theorem occ_filter {ns : List PySem.Str} (h : Asc ns) (R : List (Nat × Nat)) : ns.filter (fun z => decide (z ∈ occ ns R)) = occ ns R := by
  refine Asc.ext (h.filter _) (h.sub (sel_subl ns _)) fun z => ?_
  rw [List.mem_filter, decide_eq_true_iff]
  exact ⟨fun q => q.2, fun q => ⟨mem_selV q, q⟩⟩
theorem Rn_get {ns : List PySem.Str} {R : List (Nat × Nat)} {i b n : Nat} (h : R[i]? = some (b, n)) : (Rn ns R)[i]? = some (maskS (occ ns R) (selV ns b ns.length), n) := by
  unfold Rn
  rw [List.getElem?_map, h]
  rfl
/-- the i-th row's bits and number, over the names that occur -/
def Bn (ns : List PySem.Str) (R : List (Nat × Nat)) (i : Nat) : Nat := ((Rn ns R).getD i (0, 0)).1
def An (ns : List PySem.Str) (R : List (Nat × Nat)) (i : Nat) : Nat := ((Rn ns R).getD i (0, 0)).2
theorem Bn_of {ns : List PySem.Str} {R : List (Nat × Nat)} {i b n : Nat} (h : R[i]? = some (b, n)) : Bn ns R i = maskS (occ ns R) (selV ns b ns.length) ∧ An ns R i = n := by
  unfold Bn An
  rw [getD_of (Rn_get h)]
  exact ⟨rfl, rfl⟩
theorem sel_in_occ {ns : List PySem.Str} {R : List (Nat × Nat)} {r : Nat × Nat} (hr : r ∈ R) : ∀ z ∈ selV ns r.1 ns.length, z ∈ occ ns R := fun _ hz => occ_mem.mpr ⟨r, hr, hz⟩
theorem putRn {ns : List PySem.Str} {R : List (Nat × Nat)} (h : RowsOk ns R) :
    (∀ s, putAll (Rn ns R) 0 [] = .inl s → s < 2 ^ R.length ∧ sel (Bn ns R) s R.length = 0 ∧ sel (An ns R) s R.length = 1) ∧ (∀ k, putAll (Rn ns R) 0 [] = .inr k → KOk (Bn ns R) (An ns R) R.length k) := by
  have hl : (Rn ns R).length = R.length := by unfold Rn; rw [List.length_map]
  have z := putAll_ok (B := Bn ns R) (A := An ns R) (Rn ns R) 0 [] kok_nil fun i p e => by
    have hi : i < R.length := by rw [← hl]; exact (List.getElem?_eq_some_iff.mp e).1
    rw [Nat.zero_add]
    unfold Bn An
    rw [getD_of e]
    refine ⟨rfl, rfl, ?_⟩
    have e2 := Rn_get (ns := ns) (R := R) (b := R[i].1) (n := R[i].2) (List.getElem?_eq_getElem hi)
    rw [e] at e2
    rw [Option.some.inj e2]
    exact (h.row _ (List.getElem_mem hi)).2
  rw [hl, Nat.zero_add] at z
  exact z
theorem xsum_sum : ∀ {l : List Nat}, (∀ x ∈ l, x < 2) → xsum l = l.sum % 2
  | [], _ => rfl
  | x :: l, h => by
    have ih := xsum_sum fun y hy => h y (List.mem_cons_of_mem _ hy)
    have hx := h x List.mem_cons_self
    rw [xsum_cons, List.sum_cons, ih]
    have h1 : x = 0 ∨ x = 1 := by omega
    have h2 : l.sum % 2 = 0 ∨ l.sum % 2 = 1 := by omega
    rcases h1 with h1 | h1 <;> rcases h2 with h2 | h2 <;> rw [h1, h2]
    · rw [Nat.zero_add, h2]; rfl
    · rw [Nat.zero_add, h2]; rfl
    · show 1 = (1 + l.sum) % 2; omega
    · show 0 = (1 + l.sum) % 2; omega
theorem clash_of {ns : List PySem.Str} {R : List (Nat × Nat)} (h : RowsOk ns R) {s : Nat} (e : putAll (Rn ns R) 0 [] = .inl s) : ClashOk R (places s) := by
  obtain ⟨h1, h2, h3⟩ := (putRn h).1 s e
  rw [sel_places h1] at h2 h3
  have hlt : ∀ k ∈ places s, k < R.length := fun k hk => by
    have h4 := mem_places.mp hk
    exact Nat.lt_of_not_le fun z => by
      rw [Nat.testBit_lt_two_pow (Nat.lt_of_lt_of_le h1 (Nat.pow_le_pow_right (by decide) z))] at h4
      cases h4
  have rows : ∀ k ∈ places s, ∃ b n, R[k]? = some (b, n) ∧ (b, n) ∈ R := fun k hk => ⟨R[k]'(hlt k hk) |>.1, R[k]'(hlt k hk) |>.2, List.getElem?_eq_getElem (hlt k hk), List.getElem_mem (hlt k hk)⟩
  refine ⟨places_asc s, hlt, fun z => ?_, ?_, ?_⟩
  · rw [z] at h3
    cases h3
  · refine Nat.eq_of_testBit_eq fun j => ?_
    rw [Nat.zero_testBit, xsum_bit]
    cases ej : ns[j]? with
    | none =>
      have hj := List.getElem?_eq_none_iff.mp ej
      refine XA_false fun k hk => ?_
      obtain ⟨b, n, e1, e2⟩ := rows k hk
      rw [getD_of e1]
      exact Nat.testBit_lt_two_pow (Nat.lt_of_lt_of_le (h.row _ e2).1 (Nat.pow_le_pow_right (by decide) hj))
    | some z =>
      by_cases ho : z ∈ occ ns R
      · have h4 := congrArg (fun x => x.testBit (ixS (occ ns R) z)) h2
        rw [Nat.zero_testBit, xsum_bit] at h4
        rw [← h4]
        refine XA_congr fun k hk => ?_
        obtain ⟨b, n, e1, e2⟩ := rows k hk
        rw [getD_of e1, (Bn_of e1).1, mask_msk (h.asc.sub (sel_subl ns _)).nd (h.asc.sub (sel_subl ns b)).nd (sel_in_occ e2), msk_bit, ixS_get ho]
        show b.testBit j = decide (z ∈ selV ns b ns.length)
        rw [Bool.eq_iff_iff, decide_eq_true_iff]
        exact (sel_bit h.asc.nd ej).symm
      · refine XA_false fun k hk => ?_
        obtain ⟨b, n, e1, e2⟩ := rows k hk
        rw [getD_of e1]
        cases hb : b.testBit j with
        | false => rfl
        | true => exact absurd (occ_mem.mpr ⟨(b, n), e2, (sel_bit h.asc.nd ej).mpr hb⟩) ho
  · have e4 : (places s).map (An ns R) = (places s).map fun k => (R.getD k (0, 0)).2 := List.map_congr_left fun k hk => by
      obtain ⟨b, n, e1, e2⟩ := rows k hk
      rw [(Bn_of e1).2, getD_of e1]
    rw [e4, xsum_sum fun x hx => by
      obtain ⟨k, hk, rfl⟩ := List.mem_map.mp hx
      obtain ⟨b, n, e1, e2⟩ := rows k hk
      rw [getD_of e1]
      exact (h.row _ e2).2] at h3
    exact h3
theorem choice_of {ns : List PySem.Str} {R : List (Nat × Nat)} (h : RowsOk ns R) (hn : ns.length ≤ 50) {k : KRows} (e : putAll (Rn ns R) 0 [] = .inr k) : ChoiceOk ns R (selS (occ ns R) (places (solveM k))) := by
  have K := (putRn h).2 k e
  have ho := h.asc.sub (sel_subl ns (orAll R))
  have hol : (occ ns R).length ≤ 50 := Nat.le_trans (selV_len ns _ _) hn
  have hB : ∀ i, i < R.length → Bn ns R i < 2 ^ (occ ns R).length := fun i hi => by
    have e1 : R[i]? = some (R[i].1, R[i].2) := List.getElem?_eq_getElem hi
    rw [(Bn_of e1).1]
    exact maskS_lt (sel_in_occ (List.getElem_mem hi))
  have hkn : ∀ p ∈ k, p.1 ≤ (occ ns R).length := fun p hp => by
    obtain ⟨g1, g2, g3, g4, g5, g6⟩ := K.row p hp
    rw [g1, ← g5]
    exact bl_le (sel_lt hB)
  obtain ⟨hc, hk⟩ := solve_ok K.nd (n := (occ ns R).length) (by omega) fun p hp => ⟨(K.row p hp).1, (K.row p hp).2.1, hkn p hp⟩
  have hall := K.sp _ hk
  generalize solveM k = c at hc hall
  have hpl : places c = (List.range (occ ns R).length).filter fun i => c.testBit i := by
    refine asc_ext (places_asc c) (List.Pairwise.filter _ List.pairwise_lt_range) fun i => ?_
    rw [mem_places, List.mem_filter, List.mem_range]
    refine ⟨fun q => ⟨Nat.lt_of_not_le fun z => ?_, q⟩, fun q => q.2⟩
    rw [Nat.testBit_lt_two_pow (Nat.lt_of_lt_of_le hc (Nat.pow_le_pow_right (by decide) z))] at q
    cases q
  have hT : selS (occ ns R) (places c) = selV (occ ns R) c (occ ns R).length := by
    unfold selS
    rw [hpl]
    rfl
  rw [hT]
  have hTs := sel_subl (occ ns R) c
  have hTm : ∀ z ∈ selV (occ ns R) c (occ ns R).length, z ∈ occ ns R := fun z hz => mem_selV hz
  refine ⟨Asc.ext (ho.filter _) (ho.sub hTs) fun z => ?_, fun r hr => ?_⟩
  · rw [List.mem_filter, decide_eq_true_iff]
    exact ⟨fun q => q.2, fun q => ⟨hTm z q, q⟩⟩
  · obtain ⟨i, hi⟩ := List.mem_iff_getElem?.mp hr
    have hil : i < R.length := (List.getElem?_eq_some_iff.mp hi).1
    have hkp := hall i hil
    obtain ⟨b1, b2⟩ := Bn_of (ns := ns) (b := r.1) (n := r.2) hi
    rw [b1, b2] at hkp
    unfold kp at hkp
    have hTn : ∀ z ∈ selV (occ ns R) c (occ ns R).length, z ∈ ns := fun z hz => mem_selV (hTm z hz)
    rw [mask_msk ho.nd (h.asc.sub (sel_subl ns r.1)).nd (sel_in_occ hr)] at hkp
    have hc2 := num_msk ho.nd hc
    have hs := sum_mask h.asc.nd (ho.sub hTs).nd hTn
    rw [mask_msk h.asc.nd (ho.sub hTs).nd hTn] at hs
    rw [hs]
    have hr2 := num_msk h.asc.nd (h.row r hr).1
    generalize selV (occ ns R) c (occ ns R).length = T at hc2 hTm ⊢
    rw [hc2, par_and] at hkp
    have hx : par (r.1 &&& msk (fun z => decide (z ∈ T)) ns) = (r.2 == 1) := by
      rw [← hkp]
      conv => lhs; rw [hr2]
      rw [par_and]
      refine Eq.trans ?_ (congrArg (XA _) (occ_filter h.asc R))
      refine (XA_filter fun z _ hz => ?_).symm
      rw [Bool.and_eq_true] at hz
      have hzT : z ∈ T := by simpa using hz.2
      exact decide_eq_true (hTm z hzT)
    unfold pb
    rw [hx]
    have := (h.row r hr).2
    have h01 : r.2 = 0 ∨ r.2 = 1 := by omega
    rcases h01 with z | z <;> rw [z] <;> rfl
theorem xsum_par (c : Nat) : ∀ l : List Nat, par (xsum l &&& c) = XA (fun x => par (x &&& c)) l
  | [] => by unfold xsum XA; simp [par_zero]
  | x :: l => by
    rw [xsum_cons, Nat.and_xor_distrib_right, par_xor, xsum_par c l]
    rfl
theorem sum_par : ∀ l : List Nat, (∀ x ∈ l, x < 2) → (l.sum % 2 == 1) = XA (fun x => x == 1) l
  | [], _ => rfl
  | x :: l, h => by
    have ih := sum_par l fun y hy => h y (List.mem_cons_of_mem _ hy)
    have hx := h x List.mem_cons_self
    unfold XA
    rw [← ih, List.sum_cons]
    have h1 : x = 0 ∨ x = 1 := by omega
    have h2 : l.sum % 2 = 0 ∨ l.sum % 2 = 1 := by omega
    have h3 : (x + l.sum) % 2 = (x + l.sum % 2) % 2 := by omega
    rw [h3]
    rcases h1 with h1 | h1 <;> rcases h2 with h2 | h2 <;> rw [h1, h2] <;> rfl
theorem clash_no {ns : List PySem.Str} {R : List (Nat × Nat)} (hR : RowsOk ns R) {pl : List Nat} (h : ClashOk R pl) (c : Nat) (hc : Keeps R c) : False := by
  have h1 := xsum_par c (pl.map fun k => (R.getD k (0, 0)).1)
  rw [h.bits, Nat.zero_and, par_zero, XA_map] at h1
  have hm : ∀ k ∈ pl, R.getD k (0, 0) ∈ R := fun k hk => by
    rw [getD_of (List.getElem?_eq_getElem (h.lt k hk))]
    exact List.getElem_mem (h.lt k hk)
  have h2 := sum_par (pl.map fun k => (R.getD k (0, 0)).2) fun x hx => by
    obtain ⟨k, hk, rfl⟩ := List.mem_map.mp hx
    exact (hR.row _ (hm k hk)).2
  rw [h.num, XA_map] at h2
  have h3 : XA (fun k => par ((R.getD k (0, 0)).1 &&& c)) pl = XA (fun k => (R.getD k (0, 0)).2 == 1) pl := XA_congr fun k hk => by
    exact kp_ph.mpr (hc _ (hm k hk))
  rw [← h1, ← h2] at h3
  cases h3
theorem choice_keeps {ns : List PySem.Str} {R : List (Nat × Nat)} {T : List PySem.Str} (h : ChoiceOk ns R T) : Keeps R (sumIx ns T) := fun r hr => by
  have z := h.par r hr
  unfold ph
  unfold pb at z
  cases e : par (r.1 &&& sumIx ns T) with
  | true => rw [e, if_pos rfl] at z; rw [← z]; rfl
  | false => rw [e] at z; rw [← z]; rfl
/-- the rows with their number as the lowest bit -/
def R2 (R : List (Nat × Nat)) : List Nat := R.map fun r => r.1 * 2 + r.2
theorem keeps_fi {ns : List PySem.Str} {R : List (Nat × Nat)} (h : RowsOk ns R) (c : Nat) : (∀ x ∈ R2 R, fi (2 * c + 1) x = false) ↔ Keeps R c := by
  have e : ∀ r ∈ R, fi (2 * c + 1) (r.1 * 2 + r.2) = ph c r.1 r.2 := fun r hr => by
    rw [Nat.mul_comm r.1 2, fi_odd (h.row r hr).2]
  constructor
  · intro q r hr
    rw [← e r hr]
    exact q _ (List.mem_map.mpr ⟨r, hr, rfl⟩)
  · intro q x hx
    obtain ⟨r, hr, rfl⟩ := List.mem_map.mp hx
    rw [e r hr]
    exact q r hr
/-- a closed row that says 1, or none: so either falls, or not -/
theorem told_of {ns : List PySem.Str} {R : List (Nat × Nat)} (h : RowsOk ns R) (hn : ns.length ≤ 50) {S : Steps} {C : List (Nat × Nat)} (st : StOk (R2 R) S C) :
    ((∃ q ∈ C, q.1 = 1) → ∃ pl, eithR ns R = (("none" : PySem.Str), natsV pl) ∧ ClashOk R pl) ∧ ((∀ q ∈ C, q.1 ≠ 1) → ∃ T, eithR ns R = (("some" : PySem.Str), T.map V.str) ∧ ChoiceOk ns R T) := by
  constructor
  · rintro ⟨q, hq, h1⟩
    cases e : putAll (Rn ns R) 0 [] with
    | inl s => exact ⟨places s, by unfold eithR; rw [e], clash_of h e⟩
    | inr k =>
      exact (st.clash hq h1 _ ((keeps_fi h _).mpr (choice_keeps (choice_of h hn e)))).elim
  · intro hno
    cases e : putAll (Rn ns R) 0 [] with
    | inr k => exact ⟨_, by unfold eithR; rw [e], choice_of h hn e⟩
    | inl s =>
      obtain ⟨c, hc⟩ := st.free hno
      exact (clash_no h (clash_of h e) c ((keeps_fi h c).mp hc)).elim
end Cl

namespace Cl
local macro_rules | `(tactic| walk_at "go") => `(tactic| repeat (first | (refine ⟨_, rfl, ?_⟩) | (refine ⟨_, _, rfl, rfl, ?_⟩) | (refine ⟨_, rfl, rfl, ?_⟩) | (refine ⟨_, _, rfl, ?_⟩) | (refine And.intro (by first | with_reducible rfl | rfl | omega | decide | assumption | (dsimp only; first | omega | decide | assumption)) ?_)))

local macro_rules | `(tactic| walk_at "bag") => `(tactic| repeat (first | (refine ⟨_, _, _, _, rfl, rfl, L2.SqL.of L2.upd_same, (by rfl), ?_⟩) | (refine ⟨_, _, _, _, rfl, rfl, L2.upd_same, (by rfl), ?_⟩) | (refine ⟨_, rfl, ?_⟩) | (refine ⟨_, _, rfl, rfl, ?_⟩) | (refine ⟨_, rfl, rfl, ?_⟩) | (refine ⟨_, _, rfl, ?_⟩) | (refine And.intro (by first | with_reducible rfl | rfl | omega | decide | assumption | (dsimp only; first | omega | decide | assumption)) ?_)))
open PySem L2 Own Bits
section
variable {P : Program} {w : World} {K : PySem.W.Frag} {mg : PySem.Str → Option Value} {base : Heap}

/-! ### rows as tuples, as data -/
inductive TupRows (K : PySem.W.Frag) (H : Hp) : List V → List LRow → Prop
  | nil : TupRows K H [] []
  | cons {t i : Addr} {l : List PySem.Str} {n : Nat} {vs : List V} {R : List LRow} (ht : SqT K H t [.ref i, .int (n : Int)]) (hi : SqT K H i (l.map V.str)) (r : TupRows K H vs R) : TupRows K H (.ref t :: vs) ((l, n) :: R)
theorem TupRows.same {H H' : Hp} (e : Same H H') : ∀ {vs : List V} {R : List LRow}, TupRows K H vs R → TupRows K H' vs R
  | _, _, .nil => .nil
  | _, _, .cons h g r => .cons (Own.Same.tupq e h) (Own.Same.tupq e g) (r.same e)
theorem TupRows.app {H : Hp} : ∀ {vs us : List V} {R S : List LRow}, TupRows K H vs R → TupRows K H us S → TupRows K H (vs ++ us) (R ++ S)
  | _, _, _, _, .nil, r => r
  | _, _, _, _, .cons h g q, r => .cons h g (q.app r)
theorem TupRows.rows {H : Hp} : ∀ {vs : List V} {R : List LRow}, TupRows K H vs R → RowsAt K H vs R
  | _, _, .nil => .nil
  | _, _, .cons h g q => .cons h (.inr g) q.rows
theorem TupRows.get {H : Hp} : ∀ {vs : List V} {R : List LRow} {i : Nat} {x : V}, TupRows K H vs R → vs[i]? = some x → ∃ (t b : Addr) (l : List PySem.Str) (n : Nat), R[i]? = some (l, n) ∧ x = .ref t ∧ SqT K H t [.ref b, .int (n : Int)] ∧ SqT K H b (l.map V.str)
  | _, _, 0, x, .cons h g _, e => by
    have e' := Option.some.inj e
    subst e'
    exact ⟨_, _, _, _, rfl, rfl, h, g⟩
  | _, _, i + 1, x, .cons _ _ r, e => TupRows.get (i := i) (x := x) r e
theorem TupRows.len {H : Hp} {vs : List V} {R : List LRow} (h : TupRows K H vs R) : vs.length = R.length := h.rows.len
def rowD (p : LRow) : PyData := .tuple [.tuple (p.1.map PyData.str), .int (p.2 : Int)]
theorem TupRows.dp {H : Hp} : ∀ {vs : List V} {R : List LRow}, TupRows K H vs R → DpAll K H vs (R.map rowD)
  | _, _, .nil => .nil
  | _, _, .cons h g q => .cons (.tup h (.cons (.tup g (dpa_strs _)) (.cons (.int _) .nil))) q.dp
theorem nd_rows {R : List LRow} (h : ∀ p ∈ R, ∀ z ∈ p.1, PyData.strOk z = true) : Nd 3 (.list (R.map rowD)) := by
  intro x hx
  obtain ⟨p, hp, rfl⟩ := List.mem_map.mp hx
  intro y hy
  rcases List.mem_cons.mp hy with rfl | hy
  · exact nd_strs (n := 0) (h p hp)
  · rw [List.mem_singleton.mp hy]; exact trivial
theorem none_ok : PyData.strOk ("none" : PySem.Str) = true := by decide +kernel
theorem some_ok : PyData.strOk ("some" : PySem.Str) = true := by decide +kernel
/-- what either tells, as data -/
def ansD (v : PySem.Str × List PyData) : PyData := .tuple [.str v.1, .tuple v.2]
theorem ans_dp {H : Hp} {q : Addr} {tag : PySem.Str} {vs : List V} {ds : List PyData} (h : EithAt H q (tag, vs)) (g : DpAll K H vs ds) : Dp K H (.ref q) (ansD (tag, ds)) := by
  obtain ⟨t, h1, h2⟩ := h
  exact .tup (SqT.of h1) (.cons (.str _) (.cons (.tup (SqT.of h2) g) .nil))
theorem sql_ty {H : Hp} {a : Addr} {xs : List V} (h : SqL K H a xs) : TyX K H (.ref a) (.type "list") := by
  rcases h with (h | ⟨o, h⟩) | ⟨o, _, _, h1, h2, _⟩
  · exact .base (.lst h)
  · exact .base (.frz h)
  · exact .kList h1 h2
theorem sqt_ty {H : Hp} {a : Addr} {xs : List V} (h : SqT K H a xs) : TyX K H (.ref a) (.type "tuple") := by
  rcases h with (h | ⟨o, h⟩) | ⟨o, _, _, h1, h2, _⟩
  · exact .base (.tup h)
  · exact .fTuple h
  · exact .kTuple h1 h2

/-- the names of the three walks over rows -/
theorem lc_kept {σ0 σ1 σ2 σ3 σ4 σ5 σ6 σ7 σ8 σ9 σ10 σ11 σ12 σ13 σ14 : Option V} {H : Hp} {p : Addr} {vs : List V} {R : List LRow} {Q : VK} (hσ : σ9 = some (.ref p)) (hp : SqL K H p vs) (hR : RowsAt K H vs R) (hl : R.length ≤ 60)
    (q : ∀ (D : Addr) (us : List V) (H' : Hp), Same H H' → H D = none → H' D = some (.lst us) → TupRows K H' us R → Q (.ref D) H') :
    tLc (iList K (tVar 9)) (gTup K 2 (gCons (gName 11) (gCons (gName 6) gNil))) tYes (tTup (tCons (tCB (rTupleOf K) (tCons (tVar 11) tNil)) (tCons (tVar 6) tNil))) [11, 6] [σ0, σ1, σ2, σ3, σ4, σ5, σ6, σ7, σ8, σ9, σ10, σ11, σ12, σ13, σ14] H Q := by
  subst hσ
  have hge := line_ge
  have hvl := hR.len
  refine ⟨_, rfl, p, rfl, ⟨vs, hp⟩, fun D hD => ?_⟩
  refine lc_it (walk_list (xs := vs)) (fun i H' => ∃ us, H' D = some (.lst us) ∧ us.length = i ∧ TupRows K (hid [D] H') us (R.take i) ∧ Same H H') ⟨[], upd_same, rfl, .nil, Same.upd_new hD⟩ (fun i H' _ ⟨_, _, _, _, e⟩ => e.seq hp) ?_ ?_
  · rintro i x H1' H1 hi ⟨us, h1, h2, h3, h4⟩ ⟨rfl, hx⟩
    obtain ⟨t, b, l, n, hRi, rfl, ht, hb⟩ := hR.get hx
    have htk : R.take (i + 1) = R.take i ++ [(l, n)] := by rw [List.take_add_one, hRi]; rfl
    refine ⟨t, _, rfl, Own.Same.tupq h4 ht, rfl, ?_⟩
    have fin : ∀ (i2 t2 : Addr) (H2 : Hp), H2 D = some (.lst us) → TupRows K (hid [D] H2) us (R.take i) → Same H H2 → SqT K (hid [D] H2) i2 (l.map V.str) → H2 t2 = none →
        upd H2 t2 (.tup [.ref i2, .int (n : Int)]) D = some (.lst us) ∧ us.length < sizeLine ∧ ∃ us', upd (upd H2 t2 (.tup [.ref i2, .int (n : Int)])) D (.lst (us ++ [.ref t2])) D = some (.lst us') ∧ us'.length = i + 1 ∧
          TupRows K (hid [D] (upd (upd H2 t2 (.tup [.ref i2, .int (n : Int)])) D (.lst (us ++ [.ref t2])))) us' (R.take (i + 1)) ∧ Same H (upd (upd H2 t2 (.tup [.ref i2, .int (n : Int)])) D (.lst (us ++ [.ref t2]))) := fun i2 t2 H2 k1 k2 k3 k4 k5 => by
      have e := Same.upd_new (o := .tup [.ref i2, .int (n : Int)]) k5
      have ht2 : t2 ≠ D := fun z => by rw [z, k1] at k5; cases k5
      refine ⟨e _ _ k1, by omega, _, upd_same, by rw [List.length_append, List.length_singleton, h2], ?_, same_upd_r (k3.trans e) hD⟩
      rw [hid_upd (by simp), htk]
      exact (k2.same (Own.Same.hid _ e)).app (.cons (SqT.of (hid_some.mpr ⟨by simpa using ht2, upd_same⟩)) (Own.Same.tupq (Own.Same.hid _ e) k4) .nil)
    walk_at "go"
    rcases hb with hb | hb
    · refine ⟨b, _, rfl, .inl ⟨h4.seq hb, fun t1 ht1 => ?_⟩⟩
      have e := Same.upd_new (o := .tup (l.map V.str)) ht1
      have ht1D : t1 ≠ D := fun z => by rw [z, h1] at ht1; cases ht1
      walk_at "go"
      refine ⟨(by show 2 ≤ sizeLine; decide), fun t2 ht2 => ?_⟩
      exact ⟨us, fin t1 t2 _ (e _ _ h1) (h3.same (Own.Same.hid _ e)) (h4.trans e) (SqT.of (hid_some.mpr ⟨by simpa using ht1D, upd_same⟩)) ht2⟩
    · refine ⟨b, _, rfl, .inr ⟨Own.Same.tupq h4 hb, ?_⟩⟩
      walk_at "go"
      refine ⟨(by show 2 ≤ sizeLine; decide), fun t2 ht2 => ?_⟩
      have hbD : SqT K (hid [D] H1) b (l.map V.str) := Own.Same.tupq (fun a o z => hid_some.mpr ⟨by simpa using ne_of_none z hD, h4 _ _ z⟩) hb
      exact ⟨us, fin b t2 _ h1 h3 h4 hbD ht2⟩
  · rintro H1 ⟨us, h1, h2, h3, h4⟩
    rw [hvl, List.take_length] at h3
    exact q D us H1 h4 hD h1 (h3.same hid_sub)

/-- the names of the three walks over rows -/
theorem lc_again {σ0 σ1 σ2 σ3 σ4 σ5 σ6 σ7 σ8 σ9 σ10 σ11 σ12 σ13 σ14 : Option V} {H : Hp} {p : Addr} {vs : List V} {R : List LRow} {Q : VK} (hσ : σ9 = some (.ref p)) (hp : SqL K H p vs) (hR : RowsAt K H vs R) (hl : R.length ≤ 60)
    (q : ∀ (D : Addr) (us : List V) (H' : Hp), Same H H' → H D = none → H' D = some (.lst us) → RowsAt K H' us R → Q (.ref D) H') :
    tLc (iList K (tVar 9)) (gTup K 2 (gCons (gName 11) (gCons (gName 6) gNil))) tYes (tIf (tB (tCB (rIsi K) (tCons (tVar 11) (tCons (tC (.ty "list")) tNil)))) (tTup (tCons (tCB (rListOf K) (tCons (tVar 11) tNil)) (tCons (tVar 6) tNil))) (tTup (tCons (tVar 11) (tCons (tVar 6) tNil)))) [11, 6] [σ0, σ1, σ2, σ3, σ4, σ5, σ6, σ7, σ8, σ9, σ10, σ11, σ12, σ13, σ14] H Q := by
  subst hσ
  have hge := line_ge
  have hvl := hR.len
  refine ⟨_, rfl, p, rfl, ⟨vs, hp⟩, fun D hD => ?_⟩
  refine lc_it (walk_list (xs := vs)) (fun i H' => ∃ us, H' D = some (.lst us) ∧ us.length = i ∧ RowsAt K (hid [D] H') us (R.take i) ∧ Same H H') ⟨[], upd_same, rfl, .nil, Same.upd_new hD⟩ (fun i H' _ ⟨_, _, _, _, e⟩ => e.seq hp) ?_ ?_
  · rintro i x H1' H1 hi ⟨us, h1, h2, h3, h4⟩ ⟨rfl, hx⟩
    obtain ⟨t, b, l, n, hRi, rfl, ht, hb⟩ := hR.get hx
    have htk : R.take (i + 1) = R.take i ++ [(l, n)] := by rw [List.take_add_one, hRi]; rfl
    refine ⟨t, _, rfl, Own.Same.tupq h4 ht, rfl, ?_⟩
    have fin : ∀ (i2 t2 : Addr) (H2 : Hp), H2 D = some (.lst us) → RowsAt K (hid [D] H2) us (R.take i) → Same H H2 → Sq K (hid [D] H2) i2 (l.map V.str) → H2 t2 = none →
        upd H2 t2 (.tup [.ref i2, .int (n : Int)]) D = some (.lst us) ∧ us.length < sizeLine ∧ ∃ us', upd (upd H2 t2 (.tup [.ref i2, .int (n : Int)])) D (.lst (us ++ [.ref t2])) D = some (.lst us') ∧ us'.length = i + 1 ∧
          RowsAt K (hid [D] (upd (upd H2 t2 (.tup [.ref i2, .int (n : Int)])) D (.lst (us ++ [.ref t2])))) us' (R.take (i + 1)) ∧ Same H (upd (upd H2 t2 (.tup [.ref i2, .int (n : Int)])) D (.lst (us ++ [.ref t2]))) := fun i2 t2 H2 k1 k2 k3 k4 k5 => by
      have e := Same.upd_new (o := .tup [.ref i2, .int (n : Int)]) k5
      have ht2 : t2 ≠ D := fun z => by rw [z, k1] at k5; cases k5
      refine ⟨e _ _ k1, by omega, _, upd_same, by rw [List.length_append, List.length_singleton, h2], ?_, same_upd_r (k3.trans e) hD⟩
      rw [hid_upd (by simp), htk]
      exact (k2.same (Own.Same.hid _ e)).app (.cons (SqT.of (hid_some.mpr ⟨by simpa using ht2, upd_same⟩)) (k4.same (Own.Same.hid _ e)) .nil)
    walk_at "go"
    rcases hb with hb | hb
    · refine ⟨_, _, _, _, true, rfl, .ty _, sql_ty (h4.seq hb), kit_ty (by decide +kernel), ?_⟩
      walk_at "go"
      refine ⟨b, _, rfl, .inl (h4.seq hb), fun t1 ht1 => ?_⟩
      have e := Same.upd_new (o := .lst (l.map V.str)) ht1
      have ht1D : t1 ≠ D := fun z => by rw [z, h1] at ht1; cases ht1
      walk_at "go"
      refine ⟨(by show 2 ≤ sizeLine; decide), fun t2 ht2 => ?_⟩
      exact ⟨us, fin t1 t2 _ (e _ _ h1) (h3.same (Own.Same.hid _ e)) (h4.trans e) (.inl (SqL.of (hid_some.mpr ⟨by simpa using ht1D, upd_same⟩))) ht2⟩
    · refine ⟨_, _, _, _, false, rfl, .ty _, sqt_ty (Own.Same.tupq h4 hb), kit_ty (by decide +kernel), ?_⟩
      walk_at "go"
      refine ⟨(by show 2 ≤ sizeLine; decide), fun t2 ht2 => ?_⟩
      have hbD : SqT K (hid [D] H1) b (l.map V.str) := Own.Same.tupq (fun a o z => hid_some.mpr ⟨by simpa using ne_of_none z hD, h4 _ _ z⟩) hb
      exact ⟨us, fin b t2 _ h1 h3 h4 (.inr hbD) ht2⟩
  · rintro H1 ⟨us, h1, h2, h3, h4⟩
    rw [hvl, List.take_length] at h3
    exact q D us H1 h4 hD h1 (h3.same hid_sub)

/-- the names of the three walks over rows -/
theorem lc_other {σ0 σ1 σ2 σ3 σ4 σ5 σ6 σ7 σ8 σ9 σ10 σ11 σ12 σ13 σ14 : Option V} {H : Hp} {p : Addr} {vs : List V} {R : List LRow} {Q : VK} (hσ : σ10 = some (.ref p)) (hp : SqL K H p vs) (hR : TupRows K H vs R) (hl : R.length ≤ 60)
    (q : ∀ (D : Addr) (us : List V) (H' : Hp), Same H H' → H D = none → H' D = some (.lst us) → TupRows K H' us R → Q (.ref D) H') :
    tLc (iList K (tVar 10)) (gTup K 2 (gCons (gName 11) (gCons (gName 6) gNil))) tYes (tTup (tCons (tVar 11) (tCons (tVar 6) tNil))) [11, 6] [σ0, σ1, σ2, σ3, σ4, σ5, σ6, σ7, σ8, σ9, σ10, σ11, σ12, σ13, σ14] H Q := by
  subst hσ
  have hge := line_ge
  have hvl := hR.len
  refine ⟨_, rfl, p, rfl, ⟨vs, hp⟩, fun D hD => ?_⟩
  refine lc_it (walk_list (xs := vs)) (fun i H' => ∃ us, H' D = some (.lst us) ∧ us.length = i ∧ TupRows K (hid [D] H') us (R.take i) ∧ Same H H') ⟨[], upd_same, rfl, .nil, Same.upd_new hD⟩ (fun i H' _ ⟨_, _, _, _, e⟩ => e.seq hp) ?_ ?_
  · rintro i x H1' H1 hi ⟨us, h1, h2, h3, h4⟩ ⟨rfl, hx⟩
    obtain ⟨t, b, l, n, hRi, rfl, ht, hb⟩ := hR.get hx
    have htk : R.take (i + 1) = R.take i ++ [(l, n)] := by rw [List.take_add_one, hRi]; rfl
    refine ⟨t, _, rfl, Own.Same.tupq h4 ht, rfl, ?_⟩
    have fin : ∀ (i2 t2 : Addr) (H2 : Hp), H2 D = some (.lst us) → TupRows K (hid [D] H2) us (R.take i) → Same H H2 → SqT K (hid [D] H2) i2 (l.map V.str) → H2 t2 = none →
        upd H2 t2 (.tup [.ref i2, .int (n : Int)]) D = some (.lst us) ∧ us.length < sizeLine ∧ ∃ us', upd (upd H2 t2 (.tup [.ref i2, .int (n : Int)])) D (.lst (us ++ [.ref t2])) D = some (.lst us') ∧ us'.length = i + 1 ∧
          TupRows K (hid [D] (upd (upd H2 t2 (.tup [.ref i2, .int (n : Int)])) D (.lst (us ++ [.ref t2])))) us' (R.take (i + 1)) ∧ Same H (upd (upd H2 t2 (.tup [.ref i2, .int (n : Int)])) D (.lst (us ++ [.ref t2]))) := fun i2 t2 H2 k1 k2 k3 k4 k5 => by
      have e := Same.upd_new (o := .tup [.ref i2, .int (n : Int)]) k5
      have ht2 : t2 ≠ D := fun z => by rw [z, k1] at k5; cases k5
      refine ⟨e _ _ k1, by omega, _, upd_same, by rw [List.length_append, List.length_singleton, h2], ?_, same_upd_r (k3.trans e) hD⟩
      rw [hid_upd (by simp), htk]
      exact (k2.same (Own.Same.hid _ e)).app (.cons (SqT.of (hid_some.mpr ⟨by simpa using ht2, upd_same⟩)) (Own.Same.tupq (Own.Same.hid _ e) k4) .nil)
    walk_at "go"
    refine ⟨(by show 2 ≤ sizeLine; decide), fun t2 ht2 => ?_⟩
    have hbD : SqT K (hid [D] H1) b (l.map V.str) := Own.Same.tupq (fun a o z => hid_some.mpr ⟨by simpa using ne_of_none z hD, h4 _ _ z⟩) hb
    exact ⟨us, fin b t2 _ h1 h3 h4 hbD ht2⟩
  · rintro H1 ⟨us, h1, h2, h3, h4⟩
    rw [hvl, List.take_length] at h3
    exact q D us H1 h4 hD h1 (h3.same hid_sub)

/-! ### _law_asked -/
def spAsked (K : PySem.W.Frag) : Sp := fun vs H Q _ => ∃ (b c nm rw : Addr) (ns : List PySem.Str) (us : List V) (R : List (Nat × Nat)), vs = [.ref b, .ref nm, .ref rw] ∧ BagAt c H b ∧ SqL K (hid [b] H) nm (ns.map V.str) ∧ ns.length ≤ 50 ∧ (∀ z ∈ ns, PyData.strOk z = true) ∧
  SqL K (hid [b] H) rw us ∧ PRel (hid [b] H) us R ∧ R.length ≤ 55 ∧ RowsOk ns R ∧ ∀ H', BagAt c H' b → Same (hid [b] H) (hid [b] H') → Q (.bl true) H'
abbrev sc__law_asked_N : List PySem.Str := ["bag", "names", "rows", "steps", "closed", "bits", "number", "clash", "lot", "handed", "kept", "inner", "told", "again", "other"]
theorem sc__law_asked : FnScope sc__law_asked_N ["bag", "names", "rows"] (defScope (topS 25)) := ⟨rfl, rfl, rfl, by decide +kernel, rfl, by decide +kernel, by decide +kernel⟩
theorem ok_asked (T : Blt mg) (D : DefAt K mg "_law_asked" (topS 25) ["bag", "names", "rows"]) (D_law_stairs : Cal P w K mg base 2 "_law_stairs" (spStairs K)) (D_law_handed : Cal P w K mg base 3 "_law_handed" (spHanded K)) (D_either : Cal P w K mg base 3 "either" (spEither K))
    (D_law_is_clash : Cal P w K mg base 2 "_law_is_clash" (spClash K)) (D_law_is_choice : Cal P w K mg base 2 "_law_is_choice" (spChoice K)) : Cal P w K mg base 4 "_law_asked" (spAsked K) := by
  refine cal_of D sc__law_asked (fun vs H Q E h => ?_) (fun f cdv A outer s H vs Q E hr h => ?_)
  · obtain ⟨b, c, nm, rw, ns, us, R, rfl, _⟩ := h
    rfl
  · obtain ⟨b, c, nm, rw_, ns, us, R, rfl, hb, hnm, hnl, hok, hrw, hR, hRl, ok, q⟩ := h
    refine ⟨_, (pss_cons (ps_asg (Own.pe_c D_law_stairs hr (by decide) rfl (pa_cons (pe_lc (own := [("bits", 5), ("number", 6)]) (g := (gTup K 2 (gCons (gName 5) (gCons (gName 6) gNil)))) rfl sc__law_asked.nd (Own.pi_listK (K := K) rfl (pv 2)) (blkOk_by (own := [("bits", 5), ("number", 6)]) (N := sc__law_asked_N) (sc := defScope (topS 25)) (by decide +kernel)) (fun _ _ _ _ _ => (pg_tup rfl (pgs_cons (pg_name (i := 5) sc__law_asked.nd rfl (Or.inl rfl)) (pgs_cons (pg_name (i := 6) sc__law_asked.nd rfl (Or.inl rfl)) pgs_nil)))) (fun _ _ _ _ _ => pts_nil) (fun _ _ _ _ _ => (pe_op Own.on_add (pe_op Own.on_mul (pv 5) pe_int) (pv 6)))) pa_nil)) (pg_tup rfl (pgs_cons (pg_name (i := 3) sc__law_asked.nd rfl (Or.inl rfl)) (pgs_cons (pg_name (i := 4) sc__law_asked.nd rfl (Or.inl rfl)) pgs_nil))))
  (pss_cons (ps_set (i := 7) sc__law_asked.nd rfl (Or.inl rfl) (pe_callB (cr_any rfl) (by rfl) T.any (by decide +kernel) (pa_cons (pe_lc (own := [("number", 6), ("lot", 8)]) (g := (gTup K 2 (gCons (gName 6) (gCons (gName 8) gNil)))) rfl sc__law_asked.nd (Own.pi_listK (K := K) rfl (pv 4)) (blkOk_by (own := [("number", 6), ("lot", 8)]) (N := sc__law_asked_N) (sc := defScope (topS 25)) (by decide +kernel)) (fun _ _ _ _ _ => (pg_tup rfl (pgs_cons (pg_name (i := 6) sc__law_asked.nd rfl (Or.inl rfl)) (pgs_cons (pg_name (i := 8) sc__law_asked.nd rfl (Or.inl rfl)) pgs_nil)))) (fun _ _ _ _ _ => pts_nil) (fun _ _ _ _ _ => (pe_cmpR Own.oc_eq (pv 6) pe_int (nomark _)))) pa_nil)))
  (pss_cons (ps_set (i := 9) sc__law_asked.nd rfl (Or.inl rfl) (Own.pe_c D_law_handed hr (by decide) rfl (pa_cons (pv 0) (pa_cons (pv 1) (pa_cons (pv 2) pa_nil)))))
  (pss_cons (ps_setLc (i := 10) (own := [("inner", 11), ("number", 6)]) (g := (gTup K 2 (gCons (gName 11) (gCons (gName 6) gNil)))) rfl sc__law_asked.nd rfl rfl (sw_true rfl rfl rfl (by decide +kernel)) (Own.pi_listK (K := K) rfl (pv 9)) (blkOk_by (own := [("inner", 11), ("number", 6)]) (N := sc__law_asked_N) (sc := defScope (topS 25)) (by decide +kernel)) (fun _ _ _ _ _ => (pg_tup rfl (pgs_cons (pg_name (i := 11) sc__law_asked.nd rfl (Or.inl rfl)) (pgs_cons (pg_name (i := 6) sc__law_asked.nd rfl (Or.inl rfl)) pgs_nil)))) (fun _ _ _ _ _ => pts_nil) (fun _ _ _ _ _ => (pe_tup (pa_cons (pe_callTy (Own.tupleK (K := K) rfl) (by rfl) T.tuple (by decide +kernel) (pa_cons (pv 11) pa_nil)) (pa_cons (pv 6) pa_nil)))))
  (pss_cons (ps_set (i := 12) sc__law_asked.nd rfl (Or.inl rfl) (Own.pe_c D_either hr (by decide) rfl (pa_cons (pv 9) pa_nil)))
  (pss_cons (ps_if (PW.pt (pw_or (pt_cmpR (op_neD hr.units) (pe_lc (own := [("inner", 11), ("number", 6)]) (g := (gTup K 2 (gCons (gName 11) (gCons (gName 6) gNil)))) rfl sc__law_asked.nd (Own.pi_listK (K := K) rfl (pv 9)) (blkOk_by (own := [("inner", 11), ("number", 6)]) (N := sc__law_asked_N) (sc := defScope (topS 25)) (by decide +kernel)) (fun _ _ _ _ _ => (pg_tup rfl (pgs_cons (pg_name (i := 11) sc__law_asked.nd rfl (Or.inl rfl)) (pgs_cons (pg_name (i := 6) sc__law_asked.nd rfl (Or.inl rfl)) pgs_nil)))) (fun _ _ _ _ _ => pts_nil) (fun _ _ _ _ _ => (pe_tup (pa_cons (pe_callTy (Own.tupleK (K := K) rfl) (by rfl) T.tuple (by decide +kernel) (pa_cons (pv 11) pa_nil)) (pa_cons (pv 6) pa_nil))))) (pv 10) (nomark _)) (pw_or (pt_not (pt_val (pe_callB (Own.isiK (K := K) rfl) (by rfl) T.isinstance (by decide +kernel) (pa_cons (pv 12) (pa_cons (pe_bltn (v := .ty "tuple") rfl T.tuple (by decide +kernel) rfl) pa_nil))))) (pw_or1 (pt_cmpR Own.oc_ne (pe_callB call_len_seq (by rfl) T.len (by decide +kernel) (pa_cons (pv 12) pa_nil)) pe_int (nomark _))))))
   (pss_one (ps_ret pe_bl))
   pss_nil)
  (pss_cons (ps_if (PW.pt (pw_and (pt_val (pv 7)) (pw_and1 (PW.pt (pw_or (pt_cmpR Own.os_ne (pe_ix (Own.ixT (K := K) rfl) (pv 12) pe_int (fun _ _ => rfl)) pe_str (nomark _)) (pw_or1 (pt_not (pt_val (Own.pe_c D_law_is_clash hr (by decide) rfl (pa_cons (pe_ix (Own.ixT (K := K) rfl) (pv 12) pe_int (fun _ _ => rfl)) (pa_cons (pv 2) pa_nil)))))))))))
   (pss_one (ps_ret pe_bl))
   pss_nil)
  (pss_cons (ps_if (PW.pt (pw_and (pt_not (pt_val (pv 7))) (pw_and1 (PW.pt (pw_or (pt_cmpR Own.os_ne (pe_ix (Own.ixT (K := K) rfl) (pv 12) pe_int (fun _ _ => rfl)) pe_str (nomark _)) (pw_or1 (pt_not (pt_val (Own.pe_c D_law_is_choice hr (by decide) rfl (pa_cons (pe_ix (Own.ixT (K := K) rfl) (pv 12) pe_int (fun _ _ => rfl)) (pa_cons (pv 1) (pa_cons (pv 2) pa_nil))))))))))))
   (pss_one (ps_ret pe_bl))
   pss_nil)
  (pss_cons (ps_setLc (i := 13) (own := [("inner", 11), ("number", 6)]) (g := (gTup K 2 (gCons (gName 11) (gCons (gName 6) gNil)))) rfl sc__law_asked.nd rfl rfl (sw_true rfl rfl rfl (by decide +kernel)) (Own.pi_listK (K := K) rfl (pv 9)) (blkOk_by (own := [("inner", 11), ("number", 6)]) (N := sc__law_asked_N) (sc := defScope (topS 25)) (by decide +kernel)) (fun _ _ _ _ _ => (pg_tup rfl (pgs_cons (pg_name (i := 11) sc__law_asked.nd rfl (Or.inl rfl)) (pgs_cons (pg_name (i := 6) sc__law_asked.nd rfl (Or.inl rfl)) pgs_nil)))) (fun _ _ _ _ _ => pts_nil) (fun _ _ _ _ _ => (pe_ifExp (pt_val (pe_callB (Own.isiK (K := K) rfl) (by rfl) T.isinstance (by decide +kernel) (pa_cons (pv 11) (pa_cons (pe_bltn (v := .ty "list") rfl T.list (by decide +kernel) rfl) pa_nil)))) (pe_tup (pa_cons (pe_callTy (Own.listK (K := K) rfl) (by rfl) T.list (by decide +kernel) (pa_cons (pv 11) pa_nil)) (pa_cons (pv 6) pa_nil))) (pe_tup (pa_cons (pv 11) (pa_cons (pv 6) pa_nil))))))
  (pss_cons (ps_if (pt_cmpR (op_neD hr.units) (Own.pe_c D_either hr (by decide) rfl (pa_cons (pv 13) pa_nil)) (pv 12) (nomark _))
   (pss_one (ps_ret pe_bl))
   pss_nil)
  (pss_cons (ps_set (i := 14) sc__law_asked.nd rfl (Or.inl rfl) (Own.pe_c D_either hr (by decide) rfl (pa_cons (pe_callTy (Own.tupleK (K := K) rfl) (by rfl) T.tuple (by decide +kernel) (pa_cons (pe_lc (own := [("inner", 11), ("number", 6)]) (g := (gTup K 2 (gCons (gName 11) (gCons (gName 6) gNil)))) rfl sc__law_asked.nd (Own.pi_listK (K := K) rfl (pv 10)) (blkOk_by (own := [("inner", 11), ("number", 6)]) (N := sc__law_asked_N) (sc := defScope (topS 25)) (by decide +kernel)) (fun _ _ _ _ _ => (pg_tup rfl (pgs_cons (pg_name (i := 11) sc__law_asked.nd rfl (Or.inl rfl)) (pgs_cons (pg_name (i := 6) sc__law_asked.nd rfl (Or.inl rfl)) pgs_nil)))) (fun _ _ _ _ _ => pts_nil) (fun _ _ _ _ _ => (pe_tup (pa_cons (pv 11) (pa_cons (pv 6) pa_nil))))) pa_nil)) pa_nil)))
  (pss_one (ps_ret (pe_and (pe_cmpR Own.os_eq (pe_ix (Own.ixT (K := K) rfl) (pv 14) pe_int (fun _ _ => rfl)) (pe_ix (Own.ixT (K := K) rfl) (pv 12) pe_int (fun _ _ => rfl)) (nomark _)) (pe_one (pe_ifExp (pt_val (pv 7)) (Own.pe_c D_law_is_clash hr (by decide) rfl (pa_cons (pe_ix (Own.ixT (K := K) rfl) (pv 14) pe_int (fun _ _ => rfl)) (pa_cons (pv 2) pa_nil))) (Own.pe_c D_law_is_choice hr (by decide) rfl (pa_cons (pe_ix (Own.ixT (K := K) rfl) (pv 14) pe_int (fun _ _ => rfl)) (pa_cons (pv 1) (pa_cons (pv 2) pa_nil)))))))))))))))))))), ?_⟩
    have hge := line_ge
    have hul := hR.len
    walk_at "go"
    refine ⟨⟨us, hid_sub.seq hrw⟩, fun D1 hD1 => ?_⟩
    refine lc_it (walk_list (xs := us)) (fun i H' => H' = upd H D1 (.lst (natsV (R2 (R.take i))))) rfl (fun i H' _ e => by rw [e]; exact (Same.upd_new hD1).seq (hid_sub.seq hrw)) ?_ ?_
    · rintro i x H1 H2 hi rfl ⟨rfl, hx⟩
      obtain ⟨t, bits, n, hRi, rfl, ht⟩ := hR.get hx
      refine ⟨t, _, rfl, SqT.of (Same.upd_new hD1 _ _ (hid_some.mp ht).2), rfl, ?_⟩
      walk_at "go"
      refine ⟨_, upd_same, by rw [natsV_len]; unfold R2; rw [List.length_map, List.length_take]; omega, ?_⟩
      rw [upd_upd, List.take_add_one, hRi]
      show upd H D1 (.lst (natsV (R2 (R.take i)) ++ [.int ((bits * 2 + n : Nat) : Int)])) = _
      rw [natsV_snoc]
      unfold R2
      rw [List.map_append]
      rfl
    rintro H1 rfl
    rw [hul, List.take_length]
    have S1 := Same.upd_new (o := .lst (natsV (R2 R))) hD1
    have hD1' : upd H D1 (.lst (natsV (R2 R))) D1 = some (.lst (natsV (R2 R))) := upd_same
    generalize upd H D1 (.lst (natsV (R2 R))) = H1 at S1 hD1'
    walk_at "go"
    refine ⟨D1, R2 R, rfl, SqL.of hD1', by unfold R2; rw [List.length_map]; omega, fun x hx => ?_, fun t d cl vs C S H2 s2 _ ht hcl hC hst hCl => ?_⟩
    · obtain ⟨r, hr, rfl⟩ := List.mem_map.mp hx
      have h1 := (ok.row r hr).1
      have h2 := (ok.row r hr).2
      refine Nat.le_trans (bl_le (k := ns.length + 1) ?_) (by omega)
      rw [Nat.pow_succ]
      omega
    refine ⟨t, _, rfl, SqT.of ht, rfl, ?_⟩
    walk_at "go"
    refine ⟨⟨vs, SqL.of hcl⟩, fun D2 hD2 => ?_⟩
    have hvl := hC.len
    have hR2 : (R2 R).length = R.length := by unfold R2; rw [List.length_map]
    refine lc_it (walk_list (xs := vs)) (fun i H' => H' = upd H2 D2 (.lst (((C.take i).map fun q => decide (q.1 = 1)).map V.bl))) rfl (fun i H' _ e => by rw [e]; exact SqL.of (Same.upd_new hD2 _ _ hcl)) ?_ ?_
    · rintro i x H3 H4 hi rfl ⟨rfl, hx⟩
      obtain ⟨t2, r, l, hCi, rfl, ht2⟩ := hC.get hx
      refine ⟨t2, _, rfl, SqT.of (Same.upd_new hD2 _ _ ht2), rfl, ?_⟩
      walk_at "go"
      refine ⟨_, upd_same, by rw [List.length_map, List.length_map, List.length_take]; omega, ?_⟩
      rw [upd_upd, List.take_add_one, hCi, List.map_append, List.map_append]
      rfl
    rintro H3 rfl
    rw [hvl, List.take_length]
    walk_at "go"
    refine ⟨D2, _, rfl, SqL.of upd_same, ?_⟩
    have S3 := ((S1.trans s2).trans (Same.upd_new (o := .lst ((C.map fun q => decide (q.1 = 1)).map V.bl)) hD2))
    generalize upd H2 D2 (.lst ((C.map fun q => decide (q.1 = 1)).map V.bl)) = H3 at S3
    obtain ⟨told1, told2⟩ := told_of ok hnl hst
    have hclash : (((C.map fun q => decide (q.1 = 1)).any id) = true → ∃ q ∈ C, q.1 = 1) ∧ (((C.map fun q => decide (q.1 = 1)).any id) = false → ∀ q ∈ C, q.1 ≠ 1) := by
      rw [List.any_map]
      refine ⟨fun h => ?_, fun h q hq h1 => ?_⟩
      · obtain ⟨q, hq, h1⟩ := List.any_eq_true.mp h
        exact ⟨q, hq, of_decide_eq_true h1⟩
      · exact absurd (decide_eq_true h1) (List.any_eq_false.mp h q hq)
    generalize (C.map fun q => decide (q.1 = 1)).any id = clash at hclash
    have hans : ∃ (tag : PySem.Str) (vs : List V) (ds : List PyData), eithR ns R = (tag, vs) ∧ (∀ H, DpAll K H vs ds) ∧ Nd 3 (ansD (tag, ds)) := by
      cases clash with
      | true =>
        obtain ⟨pl, e1, _⟩ := told1 (hclash.1 rfl)
        refine ⟨_, _, _, e1, fun H => dpa_nats pl, fun x hx => ?_⟩
        rcases List.mem_cons.mp hx with rfl | hx
        · first | exact none_ok | exact some_ok
        · rw [List.mem_singleton.mp hx]; exact nd_nats pl
      | false =>
        obtain ⟨Tl, e1, e2⟩ := told2 (hclash.2 rfl)
        refine ⟨_, _, _, e1, fun H => dpa_strs Tl, fun x hx => ?_⟩
        rcases List.mem_cons.mp hx with rfl | hx
        · first | exact none_ok | exact some_ok
        · rw [List.mem_singleton.mp hx]
          refine nd_strs fun z hz => hok z ?_
          rw [← e2.sub] at hz
          exact mem_selV (List.mem_filter.mp hz).1
    walk_at "go"
    refine ⟨b, c, nm, rw_, ns, us, R, rfl, hb.imp S3, (Own.Same.hid [b] S3).seq hnm, hnl, (Own.Same.hid [b] S3).seq hrw, hR.same (Own.Same.hid [b] S3), by omega, fun p R' H4 N4 hp4 hH => ?_⟩
    obtain ⟨us9, h9, hrows9⟩ := N4.rows
    have hRl' : R'.length ≤ 55 := by rw [hH.len]; exact hRl
    have rows9 := hrows9.same hid_sub
    refine g_asg ?_
    refine lc_kept rfl (SqL.of h9) rows9 (by omega) fun D10 us10 H5 s5 _ h10 hT10 => ?_
    walk_at "go"
    have hbit' : ∀ x ∈ R', x.2 < 2 := fun x hx => by
      obtain ⟨i, hi⟩ := List.mem_iff_getElem?.mp hx
      have hlt : i < R.length := by rw [← hH.len]; exact (List.getElem?_eq_some_iff.mp hi).1
      obtain ⟨l', g1, _⟩ := hH.row i R[i].1 R[i].2 (List.getElem?_eq_getElem hlt)
      rw [hi] at g1
      rw [Option.some.inj g1]
      exact (ok.row _ (List.getElem_mem hlt)).2
    have hoc : (occ ns R).length ≤ 55 := Nat.le_trans (selV_len ns _ _) (by omega)
    have hasc := ok.asc.sub (sel_subl ns (orAll R))
    have hmem := hand_mem hH
    have hst' : ∀ x ∈ R', ∀ z ∈ x.1, PyData.strOk z = true := fun x hx z hz => hok z (mem_selV ((hmem z).mpr ⟨x, hx, hz⟩))
    refine ⟨p, us9, R', occ ns R, rfl, .inl (SqL.of (s5 _ _ h9)), rows9.same s5, hRl', hbit', hoc, hasc, hmem, fun qa H6 s6 _ hqa => ?_⟩
    rw [eithV_R hH] at hqa
    refine g_if ?_
    refine or_op ?_
    refine lc_kept rfl (SqL.of (s6 _ _ (s5 _ _ h9))) ((rows9.same s5).same s6) (by omega) fun D11 us11 H7 s7 _ h11 hT11 => ?_
    walk_at "go"
    refine ne_same (n := 3) (.lst (SqL.of h11) hT11.dp) (.lst (SqL.of (s7 _ _ (s6 _ _ h10))) ((hT10.same s6).same s7).dp) (nd_rows hst') (by decide) ?_
    refine ⟨_, rfl, ?_⟩
    refine iteF ?_
    obtain ⟨tq, hq1, hq2⟩ := hqa
    replace hq1 := s7 _ _ hq1
    replace hq2 := s7 _ _ hq2
    walk_at "go"
    refine ⟨_, _, _, _, true, rfl, .ty _, .base (.tup hq1), kit_ty (by decide +kernel), ?_⟩
    refine ⟨_, rfl, ?_⟩
    refine iteF ?_
    walk_at "go"
    refine ⟨qa, _, rfl, .inr (SqT.of hq1), ?_⟩
    refine ⟨2, 2, rfl, rfl, _, rfl, ?_⟩
    refine iteF ?_
    refine next_seq ?_
    have S7 : Same (hid [b] H) (hid [b] H7) := ((Own.Same.hid [b] S3).trans N4.same).trans (Own.Same.hid [b] ((s5.trans s6).trans s7))
    have B7 : BagAt c H7 b := N4.bag.imp ((s5.trans s6).trans s7)
    have Rw7 : SqL K H7 rw_ us := hid_sub.seq (S7.seq hrw)
    have Pr7 : PRel H7 us R := (hR.same S7).same hid_sub
    have Nm7 : SqL K H7 nm (ns.map V.str) := hid_sub.seq (S7.seq hnm)
    have hRb : ∀ r ∈ R, r.1 < 2 ^ ns.length := fun r hr => (ok.row r hr).1
    refine seq2_rest (fun σ H' => σ = [some (.ref b), some (.ref nm), some (.ref rw_), some (.ref d), some (.ref cl), none, none, some (.bl clash), none, some (.ref p), some (.ref D10), none, some (.ref qa), none, none] ∧ Same H7 H') (fun N rest => ?_) ?_
    · cases clash with
      | true =>
        obtain ⟨pl, e1, e2⟩ := told1 (hclash.1 rfl)
        rw [e1] at hq1 hq2
        walk_at "go"
        refine ⟨qa, _, 0, _, rfl, rfl, SqT.of hq1, rfl, ?_⟩
        refine ⟨_, _, rfl, rfl, _, rfl, ?_⟩
        refine ite2 (fun hz => absurd hz (by simp)) (fun _ => ?_)
        walk_at "go"
        refine ⟨qa, _, 1, _, rfl, rfl, SqT.of hq1, rfl, ?_⟩
        walk_at "go"
        refine ⟨tq, rw_, pl, us, R, rfl, hq2, Rw7, Pr7, by omega, e2, fun H8 s8 => ?_⟩
        walk_at "go"
        refine iteF ?_
        refine iteF ?_
        exact rest _ _ ⟨rfl, s8⟩
      | false =>
        obtain ⟨Tl, e1, e2⟩ := told2 (hclash.2 rfl)
        rw [e1] at hq1 hq2
        walk_at "go"
        refine ⟨qa, _, 0, _, rfl, rfl, SqT.of hq1, rfl, ?_⟩
        refine ⟨_, _, rfl, rfl, _, rfl, ?_⟩
        refine ite2 (fun hz => absurd hz (by simp)) (fun _ => ?_)
        walk_at "go"
        refine ⟨qa, _, 1, _, rfl, rfl, SqT.of hq1, rfl, ?_⟩
        walk_at "go"
        refine ⟨tq, nm, rw_, Tl, ns, us, R, rfl, hq2, Nm7, hnl, ok.asc.nd, hok, Rw7, Pr7, by omega, hRb, e2, fun H8 s8 => ?_⟩
        refine ⟨_, rfl, ?_⟩
        refine iteF ?_
        exact rest _ _ ⟨rfl, s8⟩
    · rintro σ H8 ⟨rfl, s8⟩
      refine seq_asg ?_
      refine lc_again rfl (SqL.of (s8 _ _ (s7 _ _ (s6 _ _ (s5 _ _ h9))))) ((((rows9.same s5).same s6).same s7).same s8) (by omega) fun D13 us13 H9 s9 _ h13 hT13 => ?_
      walk_at "go"
      refine ⟨D13, us13, R', occ ns R, rfl, .inl (SqL.of h13), hT13, hRl', hbit', hoc, hasc, hmem, fun qb H10 s10 _ hqb => ?_⟩
      rw [eithV_R hH] at hqb
      obtain ⟨tag, vv, ds, e0, hds, hnd⟩ := hans
      have hqa10 : EithAt H10 qa (tag, vv) := ⟨tq, by rw [← e0]; exact s10 _ _ (s9 _ _ (s8 _ _ hq1)), by rw [← e0]; exact s10 _ _ (s9 _ _ (s8 _ _ hq2))⟩
      walk_at "go"
      refine ne_same (n := 3) (ans_dp (e0 ▸ hqb) (hds _)) (ans_dp hqa10 (hds _)) hnd (by decide) ?_
      refine ⟨_, rfl, ?_⟩
      refine iteF ?_
      refine next_seq ?_
      refine seq_asg ?_
      refine call_cb ?_
      have s4 : Same H5 H10 := ((((s6.trans s7).trans s8).trans s9).trans s10)
      refine lc_other rfl (SqL.of (s4 _ _ h10)) (hT10.same s4) (by omega) fun D14 us14 H11 s11 _ h14 hT14 => ?_
      refine ⟨D14, us14, rfl, .inl ⟨SqL.of h14, fun tt htt => ?_⟩⟩
      have e14 := Same.upd_new (o := .tup us14) htt
      refine ⟨tt, us14, R', occ ns R, rfl, .inr (SqT.of upd_same), (hT14.same e14).rows, hRl', hbit', hoc, hasc, hmem, fun qc H12 s12 _ hqc => ?_⟩
      rw [eithV_R hH] at hqc
      have s712 : Same H7 H12 := ((((s8.trans s9).trans s10).trans s11).trans e14).trans s12
      replace hq1 := s712 _ _ hq1
      obtain ⟨tc, hc1, hc2⟩ := hqc
      have fin : ∀ H', Same H12 H' → Q (.bl true) H' := fun H' s' => q H' (B7.imp (s712.trans s')) (S7.trans (Own.Same.hid [b] (s712.trans s')))
      walk_at "go"
      refine ⟨qc, _, 0, _, rfl, rfl, SqT.of hc1, rfl, ?_⟩
      walk_at "go"
      refine ⟨qa, _, 0, _, rfl, rfl, SqT.of hq1, rfl, ?_⟩
      refine ⟨_, _, rfl, rfl, _, rfl, ?_⟩
      refine ite2 (fun _ => ?_) (fun hz => absurd (decide_eq_true rfl) hz)
      cases clash with
      | true =>
        obtain ⟨pl, e1, e2⟩ := told1 (hclash.1 rfl)
        rw [e1] at hc1 hc2
        walk_at "go"
        refine ⟨qc, _, 1, _, rfl, rfl, SqT.of hc1, rfl, ?_⟩
        walk_at "go"
        exact ⟨tc, rw_, pl, us, R, rfl, hc2, s712.seq Rw7, Pr7.same s712, by omega, e2, fin⟩
      | false =>
        obtain ⟨Tl, e1, e2⟩ := told2 (hclash.2 rfl)
        rw [e1] at hc1 hc2
        walk_at "go"
        refine ⟨qc, _, 1, _, rfl, rfl, SqT.of hc1, rfl, ?_⟩
        walk_at "go"
        exact ⟨tc, nm, rw_, Tl, ns, us, R, rfl, hc2, s712.seq Nm7, hnl, ok.asc.nd, hok, s712.seq Rw7, Pr7.same s712, by omega, hRb, e2, fin⟩
end
end Cl

namespace Cl
local macro_rules | `(tactic| walk_at "go") => `(tactic| repeat (first | (refine ⟨_, rfl, ?_⟩) | (refine ⟨_, _, rfl, rfl, ?_⟩) | (refine ⟨_, rfl, rfl, ?_⟩) | (refine ⟨_, _, rfl, ?_⟩) | (refine And.intro (by first | with_reducible rfl | rfl | omega | decide | assumption | (dsimp only; first | omega | decide | assumption)) ?_)))

local macro_rules | `(tactic| walk_at "bag") => `(tactic| repeat (first | (refine ⟨_, _, _, _, rfl, rfl, L2.SqL.of L2.upd_same, (by rfl), ?_⟩) | (refine ⟨_, _, _, _, rfl, rfl, L2.upd_same, (by rfl), ?_⟩) | (refine ⟨_, rfl, ?_⟩) | (refine ⟨_, _, rfl, rfl, ?_⟩) | (refine ⟨_, rfl, rfl, ?_⟩) | (refine ⟨_, _, rfl, ?_⟩) | (refine And.intro (by first | with_reducible rfl | rfl | omega | decide | assumption | (dsimp only; first | omega | decide | assumption)) ?_)))
open PySem L2 Own Bits
section
variable {P : Program} {w : World} {K : PySem.W.Frag} {mg : PySem.Str → Option Value} {base : Heap}

/-! ### lists of rows that are made of others -/
/-- te tells the number a -/
def En (te : TE) (σ : L2.St) (H : Hp) (a : Nat) : Prop := ∀ H1, Same H H1 → ∀ Q : VK, Q (.int (a : Int)) H1 → te σ H1 Q
/-- te tells a row -/
def Et (te : TE) (σ : L2.St) (H : Hp) (r : Nat × Nat) : Prop := ∀ H1, Same H H1 → ∀ Q : VK, (∀ m H2, Same H1 H2 → H2 m = some (.tup [.int (r.1 : Int), .int (r.2 : Int)]) → Q (.ref m) H2) → te σ H1 Q
/-- te tells a list of rows, not b -/
def Ew (b : Addr) (te : TE) (σ : L2.St) (H : Hp) (R : List (Nat × Nat)) : Prop := ∀ H1, Same H H1 → ∀ Q : VK, (∀ l vs H2, Same H1 H2 → H2 l = some (.lst vs) → PRel H2 vs R → l ≠ b → Q (.ref l) H2) → te σ H1 Q
theorem new_ne {H H1 : Hp} {b p : Addr} {o : HO} (hb : H b = some o) (s : Same H H1) (hp : H1 p = none) : p ≠ b := fun z => by
  have := s _ _ hb
  rw [z, this] at hp
  cases hp
section
variable {b p : Addr} {σ : L2.St} {H : Hp} {ob : HO} {us : List V} {R R1 R2' : List (Nat × Nat)} {i : Nat}
theorem ew_var (hσ : σ[i]? = some (some (.ref p))) (hp : H p = some (.lst us)) (hR : PRel H us R) (hpb : p ≠ b) : Ew b (tVar i) σ H R := fun H1 s _ q => ⟨_, hσ, q p us H1 (Same.refl _) (s _ _ hp) (hR.same s) hpb⟩
theorem ew_take {te : TE} {a : Nat} (hb : H b = some ob) (hσ : σ[i]? = some (some (.ref p))) (hp : H p = some (.lst us)) (hR : PRel H us R) (ha : En te σ H a) : Ew b (tSl (rSlL K) (tVar i) tNoPart (tPart te)) σ H (R.take a) := fun H1 s Q q =>
  ⟨_, hσ, ha H1 s _ ⟨(a : Int), rfl, p, us, rfl, SqL.of (s _ _ hp), fun l hl => by
    rw [cutV_take]
    exact q l _ _ (Same.upd_new hl) upd_same (((hR.same s).same (Same.upd_new hl)).take a) (new_ne hb s hl)⟩⟩
theorem ew_drop {te : TE} {a : Nat} (hb : H b = some ob) (hσ : σ[i]? = some (some (.ref p))) (hp : H p = some (.lst us)) (hR : PRel H us R) (ha : En te σ H a) : Ew b (tSl (rSlL K) (tVar i) (tPart te) tNoPart) σ H (R.drop a) := fun H1 s Q q =>
  ⟨_, hσ, ha H1 s _ ⟨(a : Int), rfl, p, us, rfl, SqL.of (s _ _ hp), fun l hl => by
    rw [cutV_drop]
    exact q l _ _ (Same.upd_new hl) upd_same (((hR.same s).same (Same.upd_new hl)).drop a) (new_ne hb s hl)⟩⟩
theorem ew_cat {t1 t2 : TE} (hb : H b = some ob) (h1 : Ew b t1 σ H R1) (h2 : Ew b t2 σ H R2') (hl : R1.length + R2'.length ≤ 100) : Ew b (tOp rCat t1 t2) σ H (R1 ++ R2') := fun H1 s Q q =>
  h1 H1 s _ fun l1 v1 H2 s2 e1 r1 n1 => h2 H2 (s.trans s2) _ fun l2 v2 H3 s3 e2 r2 n2 => ⟨l1, l2, v1, v2, rfl, rfl, s3 _ _ e1, e2, by have := r1.len; have := r2.len; have := line_ge; omega, fun l hl =>
    q l _ _ ((s2.trans s3).trans (Same.upd_new hl)) upd_same (((r1.same s3).app r2).same (Same.upd_new hl)) (new_ne hb ((s.trans s2).trans s3) hl)⟩
theorem ew_one {te : TE} {r : Nat × Nat} (hb : H b = some ob) (h : Et te σ H r) : Ew b (tLst (tCons te tNil)) σ H [r] := fun H1 s Q q =>
  h H1 s _ fun m H2 s2 e => ⟨(by show 1 ≤ sizeLine; decide), fun l hl => q l _ _ (s2.trans (Same.upd_new hl)) upd_same (.cons (Same.upd_new hl _ _ e) .nil) (new_ne hb (s.trans s2) hl)⟩
theorem ew_two {te tf : TE} {r r2 : Nat × Nat} (hb : H b = some ob) (h : Et te σ H r) (h2 : Et tf σ H r2) : Ew b (tLst (tCons te (tCons tf tNil))) σ H [r, r2] := fun H1 s Q q =>
  h H1 s _ fun m H2 s2 e => h2 H2 (s.trans s2) _ fun m2 H3 s3 e2 => ⟨(by show 2 ≤ sizeLine; decide), fun l hl => q l _ _ ((s2.trans s3).trans (Same.upd_new hl)) upd_same (.cons (Same.upd_new hl _ _ (s3 _ _ e)) (.cons (Same.upd_new hl _ _ e2) .nil)) (new_ne hb ((s.trans s2).trans s3) hl)⟩
theorem et_tup {te tf : TE} {x y : Nat} (h : En te σ H x) (h2 : En tf σ H y) : Et (tTup (tCons te (tCons tf tNil))) σ H (x, y) := fun H1 s Q q =>
  h H1 s _ (h2 H1 s _ ⟨(by show 2 ≤ sizeLine; decide), fun l hl => q l _ (Same.upd_new hl) upd_same⟩)
theorem et_var {m : Addr} {r : Nat × Nat} (hσ : σ[i]? = some (some (.ref m))) (hm : H m = some (.tup [.int (r.1 : Int), .int (r.2 : Int)])) : Et (tVar i) σ H r := fun H1 s _ q => ⟨_, hσ, q m H1 (Same.refl _) (s _ _ hm)⟩
theorem en_var {a : Nat} (hσ : σ[i]? = some (some (.int (a : Int)))) : En (tVar i) σ H a := fun _ _ _ q => ⟨_, hσ, q⟩
theorem en_c {a : Nat} : En (tC (.int (a : Int))) σ H a := fun _ _ _ q => q
theorem En.imp {te : TE} {H' : Hp} {a : Nat} (h : En te σ H a) (s : Same H H') : En te σ H' a := fun H1 s1 Q q => h H1 (s.trans s1) Q q
theorem Ew.imp {te : TE} {H' : Hp} (h : Ew b te σ H R) (s : Same H H') : Ew b te σ H' R := fun H1 s1 Q q => h H1 (s.trans s1) Q q
end

theorem lst4 {e1 e2 e3 e4 : TE} {σ : L2.St} {H : Hp} {Q : VK} (h : e1 σ H fun x1 H1 => e2 σ H1 fun x2 H2 => e3 σ H2 fun x3 H3 => e4 σ H3 fun x4 H4 => 4 ≤ sizeLine ∧ ∀ p, H4 p = none → Q (.ref p) (upd H4 p (.lst [x1, x2, x3, x4]))) :
    tLst (tCons e1 (tCons e2 (tCons e3 (tCons e4 tNil)))) σ H Q := h
theorem cat_two {e5 e6 : TE} {σ : L2.St} {H : Hp} {Q : VK} {i : Nat} {wl : Addr} (h10 : σ[i]? = some (some (.ref wl))) (h : e5 σ H fun x1 H1 => e6 σ H1 fun x2 H2 => 2 ≤ sizeLine ∧ ∀ p, H2 p = none → rCat (.ref wl) (.ref p) (upd H2 p (.lst [x1, x2])) Q) :
    tOp rCat (tVar i) (tLst (tCons e5 (tCons e6 tNil))) σ H Q := ⟨_, h10, h⟩
theorem g_seq {A B : TS} {i : Nat} {v : V} {σ : L2.St} {H : Hp} {D : Ends} (h : tSeq A B D (σ.set i (some v)) H) : gName i v σ H (tSeq A B D) := h
theorem g_last {te : TE} {g : TG} {i : Nat} {v : V} {σ : L2.St} {H : Hp} {D : Ends} {r : VK} {bk ct : L2.St → Hp → Prop} (h : te (σ.set i (some v)) H fun x H1 => g x (σ.set i (some v)) H1 D.nx) : gName i v σ H (Ends.nx ⟨tAsg te g D, r, bk, ct⟩) := h
section
variable {σ : L2.St} {H : Hp} {p : Addr} {us : List V} {i j a : Nat} {t : Addr} {x y : Nat}
theorem en_ix (hp : H p = some (.lst us)) (hσ : σ[i]? = some (some (.ref p))) (hj : σ[j]? = some (some (.int (a : Int)))) (hu : us[a]? = some (.ref t)) (ht : H t = some (.tup [.int (x : Int), .int (y : Int)])) :
    En (tOp (rIxT K) (tOp (rIxL K) (tVar i) (tVar j)) (tC (.int 0))) σ H x ∧ En (tOp (rIxT K) (tOp (rIxL K) (tVar i) (tVar j)) (tC (.int 1))) σ H y :=
  ⟨fun _ s _ q => ⟨_, hσ, _, hj, p, us, (a : Int), .ref t, rfl, rfl, SqL.of (s _ _ hp), atI_nat hu, t, _, 0, _, rfl, rfl, SqT.of (s _ _ ht), rfl, q⟩, fun _ s _ q => ⟨_, hσ, _, hj, p, us, (a : Int), .ref t, rfl, rfl, SqL.of (s _ _ hp), atI_nat hu, t, _, 1, _, rfl, rfl, SqT.of (s _ _ ht), rfl, q⟩⟩
theorem en_add {t1 t2 : TE} (h1 : En t1 σ H x) (h2 : En t2 σ H y) : En (tOp (rN0 fun n m => n + m) t1 t2) σ H (x + y) := fun H1 s _ q => h1 H1 s _ (h2 H1 s _ ⟨_, _, rfl, rfl, q⟩)
theorem en_sub {t1 t2 : TE} (h1 : En t1 σ H x) (h2 : En t2 σ H y) (h : y ≤ x) : En (tOp (rN (fun n m => m ≤ n) fun n m => n - m) t1 t2) σ H (x - y) := fun H1 s _ q => h1 H1 s _ (h2 H1 s _ ⟨_, _, rfl, rfl, h, q⟩)
end

/-! ### law -/
/-- a list of rows that may be asked -/
def World1 (ns : List PySem.Str) (G : Hp) (x : V) : Prop := ∃ (a : Addr) (us : List V) (R : List (Nat × Nat)), x = .ref a ∧ G a = some (.lst us) ∧ PRel G us R ∧ R.length ≤ 55 ∧ RowsOk ns R
theorem World1.same {ns : List PySem.Str} {G G' : Hp} {x : V} (h : World1 ns G x) (s : Same G G') : World1 ns G' x := by
  obtain ⟨a, us, R, h1, h2, h3, h4, h5⟩ := h
  exact ⟨a, us, R, h1, s _ _ h2, h3.same s, h4, h5⟩
def spLaw (K : PySem.W.Frag) : Sp := fun vs H Q _ => ∃ (a : Addr) (ns : List Int), vs = [.ref a] ∧ SqL K H a (ns.map V.int) ∧ ns.length ≤ 63 ∧ ∀ H', Q (.bl true) H'
abbrev sc_law_N : List PySem.Str := ["script", "bag", "names", "rows", "added", "row", "more", "bits", "number", "at", "worlds", "world"]
theorem sc_law : FnScope sc_law_N ["script"] (defScope (topS 26)) := ⟨rfl, rfl, rfl, by decide +kernel, rfl, by decide +kernel, by decide +kernel⟩
theorem ok_law {f : Addr} {fd : FuncData} (T : Blt mg) (F : L2.Fun K "law" "law" (topS 26) f fd) (D_law_open : Cal P w K mg base 1 "_law_open" (spOpen K)) (D_law_pick : Cal P w K mg base 1 "_law_pick" spPick) (D_law_of : Cal P w K mg base 2 "_law_of" (spOf K)) (D_law_names : Cal P w K mg base 3 "_law_names" spNames)
    (D_law_lots : Cal P w K mg base 3 "_law_lots" (spLots K)) (D_law_asked : Cal P w K mg base 4 "_law_asked" (spAsked K)) (D_law_sum : Cal P w K mg base 1 "_law_sum" (spSum K)) : FnOk P w K mg base CX0 5 f fd ["script"] (spLaw K) := by
  refine F.ok sc_law (fun vs H Q E h => ?_) (fun cdv A outer s H vs Q E hr h => ?_)
  · obtain ⟨a, ns, rfl, _⟩ := h
    rfl
  · obtain ⟨a, sc, rfl, ha, _, q⟩ := h
    refine ⟨_, (pss_cons (ps_set (i := 1) sc_law.nd rfl (Or.inr rfl) (Own.pe_c D_law_open hr (by decide) rfl (pa_cons (pv 0) pa_nil)))
  (pss_cons (ps_set (i := 2) sc_law.nd rfl (Or.inr rfl) (pe_callB cr_sortedS (by rfl) T.sorted (by decide +kernel) (pa_cons (Own.pe_c D_law_names hr (by decide) rfl (pa_cons (pv 1) (pa_cons (Own.pe_c D_law_of hr (by decide) rfl (pa_cons (pv 1) (pa_cons (pe_lst (pa_cons pe_int (pa_cons pe_int (pa_cons pe_int (pa_cons pe_int (pa_cons pe_int (pa_cons pe_int (pa_cons pe_int (pa_cons pe_int (pa_cons pe_int pa_nil)))))))))) pa_nil))) pa_nil))) pa_nil)))
  (pss_cons (ps_set (i := 3) sc_law.nd rfl (Or.inl rfl) (Own.pe_c D_law_lots hr (by decide) rfl (pa_cons (pv 1) (pa_cons (pv 2) pa_nil))))
  (pss_cons (ps_if (pt_not (pt_val (Own.pe_c D_law_asked hr (by decide) rfl (pa_cons (pv 1) (pa_cons (pv 2) (pa_cons (pv 3) pa_nil))))))
   (pss_one (ps_ret pe_bl))
   pss_nil)
  (pss_cons (ps_setLc (i := 4) (own := [("row", 5)]) (g := (gName 5)) rfl sc_law.nd rfl rfl (sw_true rfl rfl rfl (by decide +kernel)) (Own.pi_listK (K := K) rfl (pv 3)) (blkOk_by (own := [("row", 5)]) (N := sc_law_N) (sc := defScope (topS 26)) (by decide +kernel)) (fun _ _ _ _ _ => (pg_name (i := 5) sc_law.nd rfl (Or.inl rfl))) (fun _ _ _ _ _ => (pts_one (pt_cmpR Own.oc_eq (Own.pe_c D_law_pick hr (by decide) rfl (pa_cons (pv 1) (pa_cons pe_int pa_nil))) pe_int (nomark _)))) (fun _ _ _ _ _ => (pv 5)))
  (pss_cons (ps_set (i := 6) sc_law.nd rfl (Or.inl rfl) (pe_tup (pa_cons (Own.pe_c D_law_sum hr (by decide) rfl (pa_cons (pe_lc (own := [("bits", 7), ("number", 8)]) (g := (gTup K 2 (gCons (gName 7) (gCons (gName 8) gNil)))) rfl sc_law.nd (Own.pi_listK (K := K) rfl (pv 4)) (blkOk_by (own := [("bits", 7), ("number", 8)]) (N := sc_law_N) (sc := defScope (topS 26)) (by decide +kernel)) (fun _ _ _ _ _ => (pg_tup rfl (pgs_cons (pg_name (i := 7) sc_law.nd rfl (Or.inl rfl)) (pgs_cons (pg_name (i := 8) sc_law.nd rfl (Or.inl rfl)) pgs_nil)))) (fun _ _ _ _ _ => pts_nil) (fun _ _ _ _ _ => (pv 7))) pa_nil)) (pa_cons (pe_op Own.on_and (pe_op Own.on_add (pe_callB (Own.cr_sumN rfl) (by rfl) T.sum (by decide +kernel) (pa_cons (pe_lc (own := [("bits", 7), ("number", 8)]) (g := (gTup K 2 (gCons (gName 7) (gCons (gName 8) gNil)))) rfl sc_law.nd (Own.pi_listK (K := K) rfl (pv 4)) (blkOk_by (own := [("bits", 7), ("number", 8)]) (N := sc_law_N) (sc := defScope (topS 26)) (by decide +kernel)) (fun _ _ _ _ _ => (pg_tup rfl (pgs_cons (pg_name (i := 7) sc_law.nd rfl (Or.inl rfl)) (pgs_cons (pg_name (i := 8) sc_law.nd rfl (Or.inl rfl)) pgs_nil)))) (fun _ _ _ _ _ => pts_nil) (fun _ _ _ _ _ => (pv 8))) pa_nil)) (Own.pe_c D_law_pick hr (by decide) rfl (pa_cons (pv 1) (pa_cons pe_int pa_nil)))) pe_int) pa_nil))))
  (pss_cons (ps_set (i := 9) sc_law.nd rfl (Or.inl rfl) (Own.pe_c D_law_pick hr (by decide) rfl (pa_cons (pv 1) (pa_cons (pe_op Own.on_add (pe_callB call_len_seq (by rfl) T.len (by decide +kernel) (pa_cons (pv 3) pa_nil)) pe_int) pa_nil))))
  (pss_cons (ps_set (i := 10) sc_law.nd rfl (Or.inl rfl) (pe_lst (pa_cons (pe_op op_cat (pe_op op_cat (pe_slice sl_list (pv 3) po_none (po_some (pv 9))) (pe_lst (pa_cons (pv 6) pa_nil))) (pe_slice sl_list (pv 3) (po_some (pv 9)) po_none)) (pa_cons (pe_op op_cat (pv 3) (pv 3)) (pa_cons (pe_op op_cat (pe_op op_cat (pe_slice sl_list (pv 3) po_none (po_some (pv 9))) (pe_lst (pa_cons (pe_tup (pa_cons pe_int (pa_cons pe_int pa_nil))) pa_nil))) (pe_slice sl_list (pv 3) (po_some (pv 9)) po_none)) (pa_cons (pe_op op_cat (pv 3) (pe_lst (pa_cons (pe_tup (pa_cons pe_int (pa_cons pe_int pa_nil))) (pa_cons (pv 6) pa_nil)))) pa_nil))))))
  (pss_cons (ps_if (pt_cmpR Own.oc_gt (pe_callB call_len_seq (by rfl) T.len (by decide +kernel) (pa_cons (pv 3) pa_nil)) pe_int (nomark _))
   (pss_cons (ps_set (i := 9) sc_law.nd rfl (Or.inl rfl) (Own.pe_c D_law_pick hr (by decide) rfl (pa_cons (pv 1) (pa_cons (pe_callB call_len_seq (by rfl) T.len (by decide +kernel) (pa_cons (pv 3) pa_nil)) pa_nil))))
  (pss_one (ps_set (i := 10) sc_law.nd rfl (Or.inl rfl) (pe_op op_cat (pv 10) (pe_lst (pa_cons (pe_op op_cat (pe_op op_cat (pe_slice sl_list (pv 3) po_none (po_some (pv 9))) (pe_lst (pa_cons (pe_tup (pa_cons (pe_ix (Own.ixT (K := K) rfl) (pe_ix (Own.ixL (K := K) rfl) (pv 3) (pv 9) (fun _ _ => rfl)) pe_int (fun _ _ => rfl)) (pa_cons (pe_op Own.on_sub pe_int (pe_ix (Own.ixT (K := K) rfl) (pe_ix (Own.ixL (K := K) rfl) (pv 3) (pv 9) (fun _ _ => rfl)) pe_int (fun _ _ => rfl))) pa_nil))) pa_nil))) (pe_slice sl_list (pv 3) (po_some (pe_op Own.on_add (pv 9) pe_int)) po_none)) (pa_cons (pe_op op_cat (pe_slice sl_list (pv 3) po_none (po_some (pv 9))) (pe_slice sl_list (pv 3) (po_some (pe_op Own.on_add (pv 9) pe_int)) po_none)) pa_nil)))))))
   pss_nil)
  (pss_one (ps_ret (pe_callB (cr_all rfl) (by rfl) T.all (by decide +kernel) (pa_cons (pe_lc (own := [("world", 11)]) (g := (gName 11)) rfl sc_law.nd (Own.pi_listK (K := K) rfl (pv 10)) (blkOk_by (own := [("world", 11)]) (N := sc_law_N) (sc := defScope (topS 26)) (by decide +kernel)) (fun _ _ _ _ _ => (pg_name (i := 11) sc_law.nd rfl (Or.inl rfl))) (fun _ _ _ _ _ => pts_nil) (fun _ _ _ _ _ => (Own.pe_c D_law_asked hr (by decide) rfl (pa_cons (pv 1) (pa_cons (pv 2) (pa_cons (pv 11) pa_nil)))))) pa_nil))))))))))))), ?_⟩
    have hge := line_ge
    walk_at "go"
    refine ⟨a, sc, rfl, ha, fun b c H1 s1 _ B1 => ?_⟩
    walk_at "go"
    intro L hL
    have hLb := B1.ne hL
    refine ⟨b, c, L, natsV [4, 3, 5, 6, 2, 8, 1, 0, 14], rfl, B1.upd hL, SqL.of (hid_some.mpr ⟨by simpa using hLb.1, upd_same⟩), by decide, by decide, fun x H2 hx B2 _ => ?_⟩
    obtain ⟨many, hmany, rfl⟩ := mem_nats hx
    have hm := (show ∀ n ∈ [4, 3, 5, 6, 2, 8, 1, 0, 14], n ≤ 20 by decide) many hmany
    clear hx hmany hL hLb
    walk_at "go"
    refine ⟨b, c, many, rfl, B2, hm, fun p0 ns0 H3 hn1 hn2 hn3 B3 _ _ h0 => ?_⟩
    walk_at "go"
    refine ⟨p0, ns0, rfl, SqL.of h0, by omega, fun ns nm hpm hso hnm => ?_⟩
    have hasc : Asc ns := ⟨sortedS_pw hso, hpm.nodup_iff.mpr hn2⟩
    have hnl : ns.length ≤ 50 := by rw [hpm.length_eq]; omega
    have hok : ∀ z ∈ ns, PyData.strOk z = true := fun z hz => hn3 z (hpm.mem_iff.mp hz)
    have hnb := B3.ne hnm
    replace B3 := B3.put hnb (o := .lst (ns.map V.str))
    have hnm4 : upd H3 nm (.lst (ns.map V.str)) nm = some (.lst (ns.map V.str)) := upd_same
    generalize upd H3 nm (.lst (ns.map V.str)) = H4 at B3 hnm4
    clear h0 hpm hso hn1 hn2 hn3 hnm B2
    have hnm4' : (hid [b] H4) nm = some (.lst (ns.map V.str)) := hid_some.mpr ⟨by simpa using hnb.1, hnm4⟩
    walk_at "go"
    refine ⟨b, c, nm, ns.map V.str, rfl, B3, SqL.of hnm4', by rw [List.length_map]; exact hnl, fun p R H5 N5 hp5 hRl => ?_⟩
    rw [List.length_map] at N5
    have hpb := B3.ne hp5
    obtain ⟨us, hu1, hu2⟩ := N5.rows
    have rok : RowsOk ns R := ⟨hasc, N5.ok⟩
    have hp5' : (hid [b] H5) p = some (.lst us) := hid_some.mpr ⟨by simpa using hpb.1, hu1⟩
    have hnm5' := N5.same _ _ hnm4'
    walk_at "go"
    refine ⟨b, c, nm, p, ns, us, R, rfl, N5.bag, SqL.of hnm5', hnl, hok, SqL.of hp5', hu2, by omega, rok, fun H6 B6 s6 => ?_⟩
    replace hp5' := s6 _ _ hp5'
    replace hnm5' := s6 _ _ hnm5'
    replace hu2 := hu2.same s6
    clear s6 N5 hu1 hp5 hnm4' hnm4 B3 B1 s1
    refine ⟨_, rfl, ?_⟩
    refine iteF ?_
    refine next_seq ?_
    refine seq_asg ?_
    have hul := hu2.len
    -- added
    refine ⟨_, rfl, p, rfl, ⟨us, SqL.of (hid_some.mp hp5').2⟩, fun D hD => ?_⟩
    have hDb := B6.ne hD
    refine lc_it (walk_list (xs := us)) (fun i H' => ∃ (vs : List V) (C : List (Nat × Nat)), H' D = some (.lst vs) ∧ PRel (hid [b] H') vs C ∧ C.length ≤ i ∧ (∀ r ∈ C, r ∈ R) ∧ BagAt c H' b ∧ Same (hid [b] H6) (hid [b] H'))
      ⟨[], [], upd_same, .nil, Nat.le_refl _, (fun r hr => by cases hr), B6.upd hD, same_hid_put (Same.refl _) hD⟩ (fun i H' _ ⟨_, _, _, _, _, _, _, e⟩ => SqL.of (hid_some.mp (e _ _ hp5')).2) ?_ ?_
    · rintro i x H7' H7 hi ⟨vs, C, h1, h2, h3, h4, h5, h6⟩ ⟨rfl, hx⟩
      obtain ⟨t, bits, n, hRi, rfl, ht⟩ := hu2.get hx
      have hvl := h2.len
      walk_at "go"
      refine ⟨b, c, 2, rfl, h5, by decide, by decide, fun d H8 hd B8 s8 => ?_⟩
      have g1 := hid_keep s8 (by simpa using hDb.1) h1
      have g2 := h2.same s8
      have g6 := h6.trans s8
      walk_at "go"
      refine ite2 (fun _ => ?_) (fun _ => ?_)
      · walk_at "go"
        refine ⟨vs, g1, by omega, vs ++ [.ref t], C ++ [(bits, n)], upd_same, ?_, by rw [List.length_append, List.length_singleton]; omega, fun r hr => ?_, B8.put hDb, same_hid_put g6 hD⟩
        · have kk := tup_keep (o' := .lst (vs ++ [.ref t])) g1 (fun _ z => by cases z)
          obtain ⟨zs, hz⟩ := (B8.put hDb (o := .lst (vs ++ [.ref t]))).lst
          exact PRel.hid ((((g2.same hid_sub).app (.cons (hid_some.mp (g6 _ _ ht)).2 .nil))).imp kk) hz
        · rcases List.mem_append.mp hr with hr | hr
          · exact h4 r hr
          · rw [List.mem_singleton.mp hr]; exact List.mem_of_getElem? hRi
      · exact ⟨vs, C, g1, g2, by omega, h4, B8, g6⟩
    rintro H7 ⟨vs, C, h1, h2, h3, h4, B7, s7⟩
    replace hp5' := s7 _ _ hp5'
    replace hnm5' := s7 _ _ hnm5'
    replace hu2 := hu2.same s7
    have hD7 : (hid [b] H7) D = some (.lst vs) := hid_some.mpr ⟨by simpa using hDb.1, h1⟩
    clear s7 h1 hDb hD B6
    have hvl := h2.len
    walk_at "go"
    -- more
    refine ⟨⟨vs, SqL.of (hid_some.mp hD7).2⟩, fun D1 hD1 => ?_⟩
    refine lc_it (walk_list (xs := vs)) (fun i H' => H' = upd H7 D1 (.lst (natsV ((C.take i).map (·.1))))) rfl (fun i H' _ e => by rw [e]; exact SqL.of (Same.upd_new hD1 _ _ (hid_some.mp hD7).2)) ?_ ?_
    · rintro i x H8' H8 hi rfl ⟨rfl, hx⟩
      obtain ⟨t, bits, n, hCi, rfl, ht⟩ := h2.get hx
      refine ⟨t, _, rfl, SqT.of (Same.upd_new hD1 _ _ (hid_some.mp ht).2), rfl, ?_⟩
      walk_at "go"
      refine ⟨_, upd_same, by rw [natsV_len, List.length_map, List.length_take]; omega, ?_⟩
      rw [upd_upd, List.take_add_one, hCi, List.map_append, natsV_snoc]
      rfl
    rintro H8 rfl
    rw [hvl, List.take_length]
    have S8 := Same.upd_new (o := .lst (natsV (C.map (·.1)))) hD1
    walk_at "go"
    refine ⟨D1, _, rfl, SqL.of upd_same, ?_⟩
    generalize upd H7 D1 (.lst (natsV (C.map (·.1)))) = H8 at S8
    walk_at "go"
    refine ⟨⟨vs, SqL.of (S8 _ _ (hid_some.mp hD7).2)⟩, fun D2 hD2 => ?_⟩
    refine lc_it (walk_list (xs := vs)) (fun i H' => H' = upd H8 D2 (.lst (natsV ((C.take i).map (·.2))))) rfl (fun i H' _ e => by rw [e]; exact SqL.of (Same.upd_new hD2 _ _ (S8 _ _ (hid_some.mp hD7).2))) ?_ ?_
    · rintro i x H9' H9 hi rfl ⟨rfl, hx⟩
      obtain ⟨t, bits, n, hCi, rfl, ht⟩ := h2.get hx
      refine ⟨t, _, rfl, SqT.of (Same.upd_new hD2 _ _ (S8 _ _ (hid_some.mp ht).2)), rfl, ?_⟩
      walk_at "go"
      refine ⟨_, upd_same, by rw [natsV_len, List.length_map, List.length_take]; omega, ?_⟩
      rw [upd_upd, List.take_add_one, hCi, List.map_append, natsV_snoc]
      rfl
    rintro H9 rfl
    rw [hvl, List.take_length]
    have S9 := S8.trans (Same.upd_new (o := .lst (natsV (C.map (·.2)))) hD2)
    walk_at "go"
    refine ⟨D2, _, rfl, SqL.of upd_same, ?_⟩
    generalize upd H8 D2 (.lst (natsV (C.map (·.2)))) = H9 at S9
    walk_at "go"
    refine ⟨b, c, 2, rfl, B7.imp S9, by decide, by decide, fun d0 H10 _ B10 s10 => ?_⟩
    have s710 := (Own.Same.hid [b] S9).trans s10
    replace hp5' := s710 _ _ hp5'
    replace hnm5' := s710 _ _ hnm5'
    replace hu2 := hu2.same s710
    walk_at "go"
    refine ⟨(by show 2 ≤ sizeLine; decide), fun mo hmo => ?_⟩
    have hmx : xsum (C.map (·.1)) < 2 ^ ns.length := xsum_lt fun x hx => by
      obtain ⟨r, hr, rfl⟩ := List.mem_map.mp hx
      exact (rok.row r (h4 r hr)).1
    have hmy : ((C.map (·.2)).sum + d0) &&& 1 < 2 := by rw [Nat.and_one_is_mod]; omega
    have hmoe : upd H10 mo (.tup [.int ((xsum (C.map (·.1)) : Nat) : Int), .int (((((C.map (·.2)).sum + d0) &&& 1 : Nat)) : Int)]) mo = some (.tup [.int ((xsum (C.map (·.1)) : Nat) : Int), .int (((((C.map (·.2)).sum + d0) &&& 1 : Nat)) : Int)]) := upd_same
    have e10 := Same.upd_new (o := .tup [.int ((xsum (C.map (·.1)) : Nat) : Int), .int (((((C.map (·.2)).sum + d0) &&& 1 : Nat)) : Int)]) hmo
    have hmob := (B10.ne hmo).1
    replace B10 := B10.imp e10
    replace hp5' := Own.Same.hid [b] e10 _ _ hp5'
    replace hnm5' := Own.Same.hid [b] e10 _ _ hnm5'
    replace hu2 := hu2.same (Own.Same.hid [b] e10)
    clear e10 s710 s10 S9 S8 hD1 hD2 h4 h3 h2 hD7 B7 hvl
    walk_at "go"
    refine ⟨p, us, rfl, .inl (SqL.of (hid_some.mp hp5').2), ?_⟩
    walk_at "go"
    refine ⟨b, c, us.length + 1, rfl, B10, by omega, by omega, fun d1 H12 hd1 B12 s12 => ?_⟩
    have hmo12 := hid_keep s12 (by simpa using hmob) hmoe
    replace hp5' := s12 _ _ hp5'
    replace hnm5' := s12 _ _ hnm5'
    replace hu2 := hu2.same s12
    clear s12 B10 hmoe hmo hmob
    generalize xsum (C.map (·.1)) = x0 at hmx hmo12
    generalize ((C.map (·.2)).sum + d0) &&& 1 = y0 at hmy hmo12
    refine g_asg ?_
    refine lst4 ?_
    -- the worlds
    have hp12 := (hid_some.mp hp5').2
    have hpb' : p ≠ b := by simpa using (hid_some.mp hp5').1
    have hu12 := hu2.same hid_sub
    obtain ⟨bz, hb12⟩ := B12.lst
    have rokA : ∀ r ∈ R, r.1 < 2 ^ ns.length ∧ r.2 < 2 := rok.row
    have wok : ∀ R' : List (Nat × Nat), (∀ r ∈ R', r.1 < 2 ^ ns.length ∧ r.2 < 2) → RowsOk ns R' := fun R' h => ⟨hasc, h⟩
    have htd : ∀ (a a2 : Nat) (m : List (Nat × Nat)), (∀ r ∈ m, r.1 < 2 ^ ns.length ∧ r.2 < 2) → ∀ r ∈ R.take a ++ m ++ R.drop a2, r.1 < 2 ^ ns.length ∧ r.2 < 2 := fun a a2 m hm r hr => by
      rcases List.mem_append.mp hr with hr | hr
      · rcases List.mem_append.mp hr with hr | hr
        · exact rokA r (List.mem_of_mem_take hr)
        · exact hm r hr
      · exact rokA r (List.mem_of_mem_drop hr)
    have hcl : ∀ (a a2 : Nat) (m : List (Nat × Nat)), m.length ≤ 1 → (R.take a ++ m ++ R.drop a2).length ≤ 55 ∧ (R.take a).length + m.length ≤ 100 ∧ (R.take a ++ m).length + (R.drop a2).length ≤ 100 := fun a a2 m hm => by
      simp only [List.length_append, List.length_take, List.length_drop]
      omega
    have h2n : 0 < 2 ^ ns.length := Nat.two_pow_pos _
    have e9 : En (tVar 9) [some (.ref a), some (.ref b), some (.ref nm), some (.ref p), some (.ref D), none, some (.ref mo), none, none, some (.int (d1 : Int)), none, none] H12 d1 := en_var rfl
    have E1 := ew_cat hb12 (ew_cat hb12 (ew_take (K := K) (i := 3) hb12 rfl hp12 hu12 e9) (ew_one hb12 (et_var (i := 6) (r := (x0, y0)) rfl hmo12)) (hcl d1 d1 [(x0, y0)] (by simp)).2.1) (ew_drop (K := K) (i := 3) hb12 rfl hp12 hu12 e9) (hcl d1 d1 [(x0, y0)] (by simp)).2.2
    refine E1 H12 (Same.refl _) _ fun w1 v1 H13 s13 w1e w1r w1n => ?_
    have e0 : ∀ {σ : L2.St}, En (tC (.int 0)) σ H12 0 := fun {σ} => en_c (a := 0)
    have e1 : ∀ {σ : L2.St}, En (tC (.int 1)) σ H12 1 := fun {σ} => en_c (a := 1)
    have E2 := ew_cat (σ := [some (.ref a), some (.ref b), some (.ref nm), some (.ref p), some (.ref D), none, some (.ref mo), none, none, some (.int (d1 : Int)), none, none]) hb12 (ew_var (i := 3) rfl hp12 hu12 hpb') (ew_var (i := 3) rfl hp12 hu12 hpb') (by omega)
    refine E2 H13 s13 _ fun w2 v2 H14 s14 w2e w2r w2n => ?_
    have E3 := ew_cat hb12 (ew_cat hb12 (ew_take (K := K) (i := 3) hb12 rfl hp12 hu12 e9) (ew_one hb12 (et_tup e0 e1)) (hcl d1 d1 [(0, 1)] (by simp)).2.1) (ew_drop (K := K) (i := 3) hb12 rfl hp12 hu12 e9) (hcl d1 d1 [(0, 1)] (by simp)).2.2
    refine E3 H14 (s13.trans s14) _ fun w3 v3 H15 s15 w3e w3r w3n => ?_
    have E4 := ew_cat (σ := [some (.ref a), some (.ref b), some (.ref nm), some (.ref p), some (.ref D), none, some (.ref mo), none, none, some (.int (d1 : Int)), none, none]) hb12 (ew_var (i := 3) rfl hp12 hu12 hpb') (ew_two hb12 (et_tup e0 e0) (et_var (i := 6) (r := (x0, y0)) rfl hmo12)) (by simp only [List.length_cons, List.length_nil]; omega)
    refine E4 H15 ((s13.trans s14).trans s15) _ fun w4 v4 H16 s16 w4e w4r w4n => ?_
    refine ⟨(by show 4 ≤ sizeLine; decide), fun wl hwl => ?_⟩
    have s17 := Same.upd_new (o := .lst [V.ref w1, V.ref w2, V.ref w3, V.ref w4]) hwl
    have hwle : upd H16 wl (.lst [V.ref w1, V.ref w2, V.ref w3, V.ref w4]) wl = some (.lst [V.ref w1, V.ref w2, V.ref w3, V.ref w4]) := upd_same
    have s1216 := ((s13.trans s14).trans s15).trans s16
    have hwlb : wl ≠ b := new_ne hb12 s1216 hwl
    generalize upd H16 wl (.lst [V.ref w1, V.ref w2, V.ref w3, V.ref w4]) = G at s17 hwle
    have sG := s1216.trans s17
    have mkW : ∀ (G : Hp) (w : Addr) (v : List V) (R' : List (Nat × Nat)) (Hs : Hp), Same Hs G → G b = some (.lst bz) → Hs w = some (.lst v) → PRel Hs v R' → w ≠ b → R'.length ≤ 55 → (∀ r ∈ R', r.1 < 2 ^ ns.length ∧ r.2 < 2) → World1 ns (hid [b] G) (.ref w) :=
      fun G w v R' Hs s hbG hw hr hn hl ho => ⟨w, v, R', rfl, hid_some.mpr ⟨by simpa using hn, s _ _ hw⟩, PRel.hid (hr.same s) hbG, hl, wok R' ho⟩
    have sm : ∀ (x y : Nat), x < 2 ^ ns.length → y < 2 → ∀ r ∈ [(x, y)], r.1 < 2 ^ ns.length ∧ r.2 < 2 := fun x y hx hy r hr => by rw [List.mem_singleton.mp hr]; exact ⟨hx, hy⟩
    have W1 := mkW G w1 _ _ _ (((s14.trans s15).trans s16).trans s17) (sG _ _ hb12) w1e w1r w1n (hcl d1 d1 [(x0, y0)] (by simp)).1 (htd d1 d1 _ (sm _ _ hmx hmy))
    have W2 := mkW G w2 _ _ _ ((s15.trans s16).trans s17) (sG _ _ hb12) w2e w2r w2n (by rw [List.length_append]; omega) (fun r hr => (List.mem_append.mp hr).elim (rokA r) (rokA r))
    have W3 := mkW G w3 _ _ _ (s16.trans s17) (sG _ _ hb12) w3e w3r w3n (hcl d1 d1 [(0, 1)] (by simp)).1 (htd d1 d1 _ (sm _ _ h2n (by decide)))
    have W4 := mkW G w4 _ _ _ s17 (sG _ _ hb12) w4e w4r w4n (by rw [List.length_append]; simp only [List.length_cons, List.length_nil]; omega) (fun r hr => (List.mem_append.mp hr).elim (rokA r) fun hr => by
      rcases List.mem_cons.mp hr with hr | hr
      · rw [hr]; exact ⟨h2n, by decide⟩
      · rw [List.mem_singleton.mp hr]; exact ⟨hmx, hmy⟩)
    have BG := B12.imp sG
    have hnmG := Own.Same.hid [b] sG _ _ hnm5'
    have hpG := sG _ _ hp12
    have huG := hu12.same sG
    have hbG := sG _ _ hb12
    have WG : ∀ x ∈ [V.ref w1, V.ref w2, V.ref w3, V.ref w4], World1 ns (hid [b] G) x := fun x hx => by
      simp only [List.mem_cons, List.not_mem_nil, or_false] at hx
      rcases hx with rfl | rfl | rfl | rfl
      · exact W1
      · exact W2
      · exact W3
      · exact W4
    clear W1 W2 W3 W4 w1r w2r w3r w4r E1 E2 E3 E4 w1e w2e w3e w4e hmo12 hmx hmy
    refine g_seq ?_
    refine seq1_rest (fun σ H' => ∃ (e9 : Option V) (wl : Addr) (ws : List V), σ = [some (.ref a), some (.ref b), some (.ref nm), some (.ref p), some (.ref D), none, some (.ref mo), none, none, e9, some (.ref wl), none] ∧ H' wl = some (.lst ws) ∧ wl ≠ b ∧ (∀ x ∈ ws, World1 ns (hid [b] H') x) ∧ ws.length ≤ 6 ∧ BagAt c H' b ∧ (hid [b] H') nm = some (.lst (ns.map V.str))) (fun N rest => ?_) ?_
    · walk_at "go"
      refine ⟨p, us, rfl, .inl (SqL.of hpG), ?_⟩
      walk_at "go"
      refine ite2 (fun hpos => ?_) (fun _ => ?_)
      · have hpos2 : 0 < us.length := of_decide_eq_true hpos
        walk_at "go"
        refine ⟨p, us, rfl, .inl (SqL.of hpG), ?_⟩
        walk_at "go"
        refine ⟨b, c, us.length, rfl, BG, hpos2, by omega, fun d2 H20 hd2 B20 s20 => ?_⟩
        refine g_last ?_
        refine cat_two rfl ?_
        have s20' := s20
        have hp20' := s20 _ _ (hid_some.mpr ⟨by simpa using hpb', hpG⟩)
        have hp20 := (hid_some.mp hp20').2
        have hu20 := ((huG.hid hbG).same s20).same hid_sub
        obtain ⟨bz20, hb20⟩ := B20.lst
        have hwl20 := hid_keep s20 (by simpa using hwlb) hwle
        have WG20 : ∀ x ∈ [V.ref w1, V.ref w2, V.ref w3, V.ref w4], World1 ns (hid [b] H20) x := fun x hx => (WG x hx).same s20
        have hnm20 := s20 _ _ hnmG
        obtain ⟨t5, x5, y5, hR5, hu5, ht5⟩ := hu20.get (List.getElem?_eq_getElem hd2)
        have hr5 := rokA _ (List.mem_of_getElem? hR5)
        have e20 : En (tVar 9) [some (.ref a), some (.ref b), some (.ref nm), some (.ref p), some (.ref D), none, some (.ref mo), none, none, some (.int (d2 : Int)), some (.ref wl), none] H20 d2 := en_var rfl
        have e0 : ∀ {σ : L2.St}, En (tC (.int 0)) σ H20 0 := fun {σ} => en_c (a := 0)
        have e1 : ∀ {σ : L2.St}, En (tC (.int 1)) σ H20 1 := fun {σ} => en_c (a := 1)
        obtain ⟨ex, ey⟩ := en_ix (K := K) (σ := [some (.ref a), some (.ref b), some (.ref nm), some (.ref p), some (.ref D), none, some (.ref mo), none, none, some (.int (d2 : Int)), some (.ref wl), none]) (i := 3) (j := 9) hp20 rfl rfl ((List.getElem?_eq_getElem hd2).trans (congrArg some hu5)) ht5
        have E5 := ew_cat hb20 (ew_cat hb20 (ew_take (K := K) (i := 3) hb20 rfl hp20 hu20 e20) (ew_one hb20 (et_tup ex (en_sub e1 ey (by omega)))) (hcl d2 (d2 + 1) [(x5, 1 - y5)] (by simp)).2.1) (ew_drop (K := K) (i := 3) hb20 rfl hp20 hu20 (en_add e20 e1)) (hcl d2 (d2 + 1) [(x5, 1 - y5)] (by simp)).2.2
        refine E5 H20 (Same.refl _) _ fun w5 v5 H21 s21 w5e w5r w5n => ?_
        have hl6 : (R.take d2).length + (R.drop (d2 + 1)).length ≤ 55 := by
          simp only [List.length_take, List.length_drop]
          omega
        have E6 := ew_cat hb20 (ew_take (K := K) (i := 3) hb20 rfl hp20 hu20 e20) (ew_drop (K := K) (i := 3) hb20 rfl hp20 hu20 (en_add e20 e1)) (by omega)
        refine E6 H21 s21 _ fun w6 v6 H22 s22 w6e w6r w6n => ?_
        refine ⟨(by show 2 ≤ sizeLine; decide), fun l2 hl2 => ?_⟩
        have s23 := Same.upd_new (o := .lst [V.ref w5, V.ref w6]) hl2
        have hl2e : upd H22 l2 (.lst [V.ref w5, V.ref w6]) l2 = some (.lst [V.ref w5, V.ref w6]) := upd_same
        have s2023 := (s21.trans s22).trans s23
        generalize upd H22 l2 (.lst [V.ref w5, V.ref w6]) = G2 at s23 hl2e s2023
        refine ⟨wl, l2, _, _, rfl, rfl, s2023 _ _ hwl20, hl2e, (by show 4 + 2 ≤ sizeLine; decide), fun w7 hw7 => ?_⟩
        have s24 := Same.upd_new (o := .lst ([V.ref w1, V.ref w2, V.ref w3, V.ref w4] ++ [V.ref w5, V.ref w6])) hw7
        have hw7e : upd G2 w7 (.lst ([V.ref w1, V.ref w2, V.ref w3, V.ref w4] ++ [V.ref w5, V.ref w6])) w7 = some (.lst ([V.ref w1, V.ref w2, V.ref w3, V.ref w4] ++ [V.ref w5, V.ref w6])) := upd_same
        have hw7b : w7 ≠ b := new_ne hb20 s2023 hw7
        generalize upd G2 w7 (.lst ([V.ref w1, V.ref w2, V.ref w3, V.ref w4] ++ [V.ref w5, V.ref w6])) = G3 at s24 hw7e
        have s2024 := s2023.trans s24
        have mkW2 : ∀ (w : Addr) (v : List V) (R' : List (Nat × Nat)) (Hs : Hp), Same Hs G3 → Hs w = some (.lst v) → PRel Hs v R' → w ≠ b → R'.length ≤ 55 → (∀ r ∈ R', r.1 < 2 ^ ns.length ∧ r.2 < 2) → World1 ns (hid [b] G3) (.ref w) :=
          fun w v R' Hs s hw hr hn hl ho => ⟨w, v, R', rfl, hid_some.mpr ⟨by simpa using hn, s _ _ hw⟩, PRel.hid (hr.same s) (s2024 _ _ hb20), hl, wok R' ho⟩
        have W5 := mkW2 w5 _ _ _ ((s22.trans s23).trans s24) w5e w5r w5n (hcl d2 (d2 + 1) [(x5, 1 - y5)] (by simp)).1 (htd d2 (d2 + 1) _ (sm _ _ hr5.1 (by omega)))
        have W6 := mkW2 w6 _ _ _ (s23.trans s24) w6e w6r w6n (by rw [List.length_append]; exact hl6) (fun r hr => (List.mem_append.mp hr).elim (fun z => rokA r (List.mem_of_mem_take z)) (fun z => rokA r (List.mem_of_mem_drop z)))
        refine rest _ _ ⟨_, w7, _, rfl, hw7e, hw7b, fun x hx => ?_, (by show 6 ≤ 6; decide), B20.imp s2024, Own.Same.hid [b] s2024 _ _ hnm20⟩
        rcases List.mem_append.mp hx with hx | hx
        · exact (WG20 x hx).same (Own.Same.hid [b] s2024)
        · rcases List.mem_cons.mp hx with hx | hx
          · rw [hx]; exact W5
          · rw [List.mem_singleton.mp hx]; exact W6
      · exact rest _ _ ⟨_, wl, _, rfl, hwle, hwlb, WG, (by show 4 ≤ 6; decide), BG, hnmG⟩
    · rintro σ H18 ⟨e9', wl', ws, rfl, hw1, hw2, hw3, hw4, B18, hnm18⟩
      walk_at "go"
      refine ⟨⟨ws, SqL.of hw1⟩, fun D9 hD9 => ?_⟩
      have hD9b := B18.ne hD9
      have hw1' : (hid [b] H18) wl' = some (.lst ws) := hid_some.mpr ⟨by simpa using hw2, hw1⟩
      refine lc_it (walk_list (xs := ws)) (fun i H' => H' D9 = some (.lst ((List.replicate i true).map V.bl)) ∧ BagAt c H' b ∧ Same (hid [b] H18) (hid [b] H')) ⟨upd_same, B18.upd hD9, same_hid_put (Same.refl _) hD9⟩ (fun i H' _ ⟨_, _, e⟩ => SqL.of (hid_some.mp (e _ _ hw1')).2) ?_ ?_
      · rintro i x H19' H19 hi ⟨g1, g2, g3⟩ ⟨rfl, hx⟩
        obtain ⟨wa, wv, wR, rfl, k1, k2, k3, k4⟩ := (hw3 x (List.mem_of_getElem? hx)).same g3
        walk_at "go"
        refine ⟨b, c, nm, wa, ns, wv, wR, rfl, g2, SqL.of (g3 _ _ hnm18), hnl, hok, SqL.of k1, k2, k3, k4, fun H20 B20 s20 => ?_⟩
        have g1' := hid_keep s20 (by simpa using hD9b.1) g1
        refine ⟨_, g1', by rw [List.length_map, List.length_replicate]; omega, ?_, B20.put hD9b, same_hid_put (g3.trans s20) hD9⟩
        rw [upd_same, List.replicate_succ', List.map_append]
        rfl
      · rintro H19 ⟨g1, g2, g3⟩
        walk_at "go"
        refine ⟨D9, _, rfl, SqL.of g1, ?_⟩
        have hall : (List.replicate ws.length true).all id = true := by simp
        rw [hall]
        exact q _
end
end Cl

namespace Cl
open PySem L2 Own Bits
section
variable {K : PySem.W.Frag} {h : Heap} {mg : PySem.Str → Option Value}
theorem defAt_mk {x : PySem.Str} {st : Stmt} {ps : List PySem.Str} {f : Addr} {od an : Option Addr} {sl : Array (Option Value)} {oc kV dc pm cd ct : Value} (X : K.In h) (G : h.Ns mainGlobals mg) (hb : ∀ (f : Addr) (fd : FuncData), L2.Fun K x x st f fd → Binds K fd ps [])
    (a : PySem.W.nsIn K mainGlobals x = some (some (.ref f))) (l : K.lookup f = some ⟨oc, od, .func (PySem.W.fnOf x x (defArgs st) (defBody st) (defScope st) .none kV dc pm an cd ct), sl⟩) (c : PySem.W.codeIn K cd x = true) (k : PySem.W.keepIn K (.ref f) = true) : DefAt K mg x st ps :=
  ⟨f, _, fun_mk (st := st) l c k, PySem.W.mg_of X G a, hb _ _ (fun_mk (st := st) l c k)⟩
theorem metAt_mk {C : Addr} {m qual : PySem.Str} {st : Stmt} {ps : List PySem.Str} {f : Addr} {od an : Option Addr} {sl : Array (Option Value)} {oc kV dc pm cd ct : Value} (cl : Cls K C) (hb : ∀ (f : Addr) (fd : FuncData), L2.Fun K m qual st f fd → Binds K fd ps [])
    (a : PySem.W.findIn K (.ref C) m = some (some (.ref f))) (i : PySem.W.isFn K (.ref f) = true) (l : K.lookup f = some ⟨oc, od, .func (PySem.W.fnOf m qual (defArgs st) (defBody st) (defScope st) .none kV dc pm an cd ct), sl⟩) (c : PySem.W.codeIn K cd qual = true) (k : PySem.W.keepIn K (.ref f) = true) : MetAt K C m qual st ps :=
  ⟨f, _, fun_mk (st := st) l c k, cl, ⟨a, i, k⟩, hb _ _ (fun_mk (st := st) l c k)⟩
theorem iniAt_mk {C : Addr} {x qual : PySem.Str} {st : Stmt} {ps : List PySem.Str} {f : Addr} {od an : Option Addr} {sl : Array (Option Value)} {oc kV dc pm cd ct : Value} (X : K.In h) (G : h.Ns mainGlobals mg) (hb : ∀ (f : Addr) (fd : FuncData), L2.Fun K "__init__" qual st f fd → Binds K fd ps [])
    (aC : PySem.W.nsIn K mainGlobals x = some (some (.ref C))) (mk : PySem.W.makesIn K C = true) (kc : PySem.W.keepIn K (.ref C) = true)
    (a : PySem.W.findIn K (.ref C) "__init__" = some (some (.ref f))) (i : PySem.W.isFn K (.ref f) = true) (l : K.lookup f = some ⟨oc, od, .func (PySem.W.fnOf "__init__" qual (defArgs st) (defBody st) (defScope st) .none kV dc pm an cd ct), sl⟩) (c : PySem.W.codeIn K cd qual = true) (k : PySem.W.keepIn K (.ref f) = true) : IniAt K mg C x qual st ps :=
  ⟨f, _, fun_mk (st := st) l c k, ⟨mk, a, i, kc⟩, PySem.W.mg_of X G aC, hb _ _ (fun_mk (st := st) l c k)⟩
theorem blt_mk (X : K.In h) (G : h.Ns mainGlobals mg) (z0 : PySem.W.nsIn K mainGlobals "len" = some none) (z1 : PySem.W.nsIn K mainGlobals "int" = some none) (z2 : PySem.W.nsIn K mainGlobals "sum" = some none) (z3 : PySem.W.nsIn K mainGlobals "all" = some none) (z4 : PySem.W.nsIn K mainGlobals "any" = some none) (z5 : PySem.W.nsIn K mainGlobals "sorted" = some none) (z6 : PySem.W.nsIn K mainGlobals "list" = some none) (z7 : PySem.W.nsIn K mainGlobals "tuple" = some none) (z8 : PySem.W.nsIn K mainGlobals "isinstance" = some none) (z9 : PySem.W.nsIn K mainGlobals "range" = some none) (z10 : PySem.W.nsIn K mainGlobals "enumerate" = some none) (z11 : PySem.W.nsIn K mainGlobals "str" = some none) (z12 : PySem.W.nsIn K mainGlobals "bool" = some none) : Blt mg :=
  ⟨PySem.W.mg_none_of X G z0, PySem.W.mg_none_of X G z1, PySem.W.mg_none_of X G z2, PySem.W.mg_none_of X G z3, PySem.W.mg_none_of X G z4, PySem.W.mg_none_of X G z5, PySem.W.mg_none_of X G z6, PySem.W.mg_none_of X G z7, PySem.W.mg_none_of X G z8, PySem.W.mg_none_of X G z9, PySem.W.mg_none_of X G z10, PySem.W.mg_none_of X G z11, PySem.W.mg_none_of X G z12⟩
theorem b_is_odd : ∀ (f : Addr) (fd : FuncData), L2.Fun K "is_odd" "is_odd" (topS 2) f fd → Binds K fd ["bits"] [] := fun _ _ F => F.binds (ps := ["bits"]) fun _ _ _ _ _ _ us hl => match us, hl with | [_], _ => rfl
theorem b_bit_sum : ∀ (f : Addr) (fd : FuncData), L2.Fun K "bit_sum" "bit_sum" (topS 3) f fd → Binds K fd ["bit_of", "items"] [] := fun _ _ F => F.binds (ps := ["bit_of", "items"]) fun _ _ _ _ _ _ us hl => match us, hl with | [_, _], _ => rfl
theorem b_bit_places : ∀ (f : Addr) (fd : FuncData), L2.Fun K "bit_places" "bit_places" (topS 4) f fd → Binds K fd ["bits"] [] := fun _ _ F => F.binds (ps := ["bits"]) fun _ _ _ _ _ _ us hl => match us, hl with | [_], _ => rfl
theorem b_solve_rows : ∀ (f : Addr) (fd : FuncData), L2.Fun K "solve_rows" "solve_rows" (topS 5) f fd → Binds K fd ["kept"] [] := fun _ _ F => F.binds (ps := ["kept"]) fun _ _ _ _ _ _ us hl => match us, hl with | [_], _ => rfl
theorem b_RowSpace___init__ : ∀ (f : Addr) (fd : FuncData), L2.Fun K "__init__" "RowSpace.__init__" (inClass (topS 6) 0) f fd → Binds K fd ["self"] [] := fun _ _ F => F.binds (ps := ["self"]) fun _ _ _ _ _ _ us hl => match us, hl with | [_], _ => rfl
theorem b_RowSpace_reduced : ∀ (f : Addr) (fd : FuncData), L2.Fun K "reduced" "RowSpace.reduced" (inClass (topS 6) 1) f fd → Binds K fd ["self", "bits", "asked", "sources"] [] := fun _ _ F => F.binds (ps := ["self", "bits", "asked", "sources"]) fun _ _ _ _ _ _ us hl => match us, hl with | [_, _, _, _], _ => rfl
theorem b_RowSpace_put_row : ∀ (f : Addr) (fd : FuncData), L2.Fun K "put_row" "RowSpace.put_row" (inClass (topS 6) 2) f fd → Binds K fd ["self", "bits", "asked"] [] := fun _ _ F => F.binds (ps := ["self", "bits", "asked"]) fun _ _ _ _ _ _ us hl => match us, hl with | [_, _, _], _ => rfl
theorem b_either : ∀ (f : Addr) (fd : FuncData), L2.Fun K "either" "either" (topS 8) f fd → Binds K fd ["rows"] [] := fun _ _ F => F.binds (ps := ["rows"]) fun _ _ _ _ _ _ us hl => match us, hl with | [_], _ => rfl
theorem b__law_open : ∀ (f : Addr) (fd : FuncData), L2.Fun K "_law_open" "_law_open" (topS 10) f fd → Binds K fd ["script"] [] := fun _ _ F => F.binds (ps := ["script"]) fun _ _ _ _ _ _ us hl => match us, hl with | [_], _ => rfl
theorem b__law_pick : ∀ (f : Addr) (fd : FuncData), L2.Fun K "_law_pick" "_law_pick" (topS 11) f fd → Binds K fd ["bag", "many"] [] := fun _ _ F => F.binds (ps := ["bag", "many"]) fun _ _ _ _ _ _ us hl => match us, hl with | [_, _], _ => rfl
theorem b__law_of : ∀ (f : Addr) (fd : FuncData), L2.Fun K "_law_of" "_law_of" (topS 12) f fd → Binds K fd ["bag", "things"] [] := fun _ _ F => F.binds (ps := ["bag", "things"]) fun _ _ _ _ _ _ us hl => match us, hl with | [_, _], _ => rfl
theorem b__law_mixed : ∀ (f : Addr) (fd : FuncData), L2.Fun K "_law_mixed" "_law_mixed" (topS 13) f fd → Binds K fd ["bag", "things"] [] := fun _ _ F => F.binds (ps := ["bag", "things"]) fun _ _ _ _ _ _ us hl => match us, hl with | [_, _], _ => rfl
theorem b__law_names : ∀ (f : Addr) (fd : FuncData), L2.Fun K "_law_names" "_law_names" (topS 14) f fd → Binds K fd ["bag", "many"] [] := fun _ _ F => F.binds (ps := ["bag", "many"]) fun _ _ _ _ _ _ us hl => match us, hl with | [_, _], _ => rfl
theorem b__law_less : ∀ (f : Addr) (fd : FuncData), L2.Fun K "_law_less" "_law_less" (topS 15) f fd → Binds K fd ["steps", "row", "lot"] [] := fun _ _ F => F.binds (ps := ["steps", "row", "lot"]) fun _ _ _ _ _ _ us hl => match us, hl with | [_, _, _], _ => rfl
theorem b__law_stairs : ∀ (f : Addr) (fd : FuncData), L2.Fun K "_law_stairs" "_law_stairs" (topS 16) f fd → Binds K fd ["rows"] [] := fun _ _ F => F.binds (ps := ["rows"]) fun _ _ _ _ _ _ us hl => match us, hl with | [_], _ => rfl
theorem b__law_chosen : ∀ (f : Addr) (fd : FuncData), L2.Fun K "_law_chosen" "_law_chosen" (topS 17) f fd → Binds K fd ["things", "lot"] [] := fun _ _ F => F.binds (ps := ["things", "lot"]) fun _ _ _ _ _ _ us hl => match us, hl with | [_, _], _ => rfl
theorem b__law_sum : ∀ (f : Addr) (fd : FuncData), L2.Fun K "_law_sum" "_law_sum" (topS 18) f fd → Binds K fd ["rows"] [] := fun _ _ F => F.binds (ps := ["rows"]) fun _ _ _ _ _ _ us hl => match us, hl with | [_], _ => rfl
theorem b__law_is_int : ∀ (f : Addr) (fd : FuncData), L2.Fun K "_law_is_int" "_law_is_int" (topS 19) f fd → Binds K fd ["told"] [] := fun _ _ F => F.binds (ps := ["told"]) fun _ _ _ _ _ _ us hl => match us, hl with | [_], _ => rfl
theorem b__law_parity : ∀ (f : Addr) (fd : FuncData), L2.Fun K "_law_parity" "_law_parity" (topS 20) f fd → Binds K fd ["number"] [] := fun _ _ F => F.binds (ps := ["number"]) fun _ _ _ _ _ _ us hl => match us, hl with | [_], _ => rfl
theorem b__law_lots : ∀ (f : Addr) (fd : FuncData), L2.Fun K "_law_lots" "_law_lots" (topS 21) f fd → Binds K fd ["bag", "names"] [] := fun _ _ F => F.binds (ps := ["bag", "names"]) fun _ _ _ _ _ _ us hl => match us, hl with | [_, _], _ => rfl
theorem b__law_handed : ∀ (f : Addr) (fd : FuncData), L2.Fun K "_law_handed" "_law_handed" (topS 22) f fd → Binds K fd ["bag", "names", "rows"] [] := fun _ _ F => F.binds (ps := ["bag", "names", "rows"]) fun _ _ _ _ _ _ us hl => match us, hl with | [_, _, _], _ => rfl
theorem b__law_is_choice : ∀ (f : Addr) (fd : FuncData), L2.Fun K "_law_is_choice" "_law_is_choice" (topS 23) f fd → Binds K fd ["told", "names", "rows"] [] := fun _ _ F => F.binds (ps := ["told", "names", "rows"]) fun _ _ _ _ _ _ us hl => match us, hl with | [_, _, _], _ => rfl
theorem b__law_is_clash : ∀ (f : Addr) (fd : FuncData), L2.Fun K "_law_is_clash" "_law_is_clash" (topS 24) f fd → Binds K fd ["told", "rows"] [] := fun _ _ F => F.binds (ps := ["told", "rows"]) fun _ _ _ _ _ _ us hl => match us, hl with | [_, _], _ => rfl
theorem b__law_asked : ∀ (f : Addr) (fd : FuncData), L2.Fun K "_law_asked" "_law_asked" (topS 25) f fd → Binds K fd ["bag", "names", "rows"] [] := fun _ _ F => F.binds (ps := ["bag", "names", "rows"]) fun _ _ _ _ _ _ us hl => match us, hl with | [_, _, _], _ => rfl
theorem b_law : ∀ (f : Addr) (fd : FuncData), L2.Fun K "law" "law" (topS 26) f fd → Binds K fd ["script"] [] := fun _ _ F => F.binds (ps := ["script"]) fun _ _ _ _ _ _ us hl => match us, hl with | [_], _ => rfl
end
theorem all_ok {P : Program} {w : World} {K : PySem.W.Frag} {mg : PySem.Str → Option Value} {base : Heap} {C f : Addr} {fd : FuncData} (T : Blt mg) (RC : RSC K C) (d_is_odd : DefAt K mg "is_odd" (topS 2) ["bits"]) (d_bit_sum : DefAt K mg "bit_sum" (topS 3) ["bit_of", "items"]) (d_bit_places : DefAt K mg "bit_places" (topS 4) ["bits"]) (d_solve_rows : DefAt K mg "solve_rows" (topS 5) ["kept"]) (d_RowSpace___init__ : IniAt K mg C "RowSpace" "RowSpace.__init__" (inClass (topS 6) 0) ["self"]) (d_RowSpace_reduced : MetAt K C "reduced" "RowSpace.reduced" (inClass (topS 6) 1) ["self", "bits", "asked", "sources"]) (d_RowSpace_put_row : MetAt K C "put_row" "RowSpace.put_row" (inClass (topS 6) 2) ["self", "bits", "asked"]) (d_either : DefAt K mg "either" (topS 8) ["rows"]) (d__law_open : DefAt K mg "_law_open" (topS 10) ["script"]) (d__law_pick : DefAt K mg "_law_pick" (topS 11) ["bag", "many"]) (d__law_of : DefAt K mg "_law_of" (topS 12) ["bag", "things"]) (d__law_mixed : DefAt K mg "_law_mixed" (topS 13) ["bag", "things"]) (d__law_names : DefAt K mg "_law_names" (topS 14) ["bag", "many"]) (d__law_less : DefAt K mg "_law_less" (topS 15) ["steps", "row", "lot"]) (d__law_stairs : DefAt K mg "_law_stairs" (topS 16) ["rows"]) (d__law_chosen : DefAt K mg "_law_chosen" (topS 17) ["things", "lot"]) (d__law_sum : DefAt K mg "_law_sum" (topS 18) ["rows"]) (d__law_is_int : DefAt K mg "_law_is_int" (topS 19) ["told"]) (d__law_parity : DefAt K mg "_law_parity" (topS 20) ["number"]) (d__law_lots : DefAt K mg "_law_lots" (topS 21) ["bag", "names"]) (d__law_handed : DefAt K mg "_law_handed" (topS 22) ["bag", "names", "rows"]) (d__law_is_choice : DefAt K mg "_law_is_choice" (topS 23) ["told", "names", "rows"]) (d__law_is_clash : DefAt K mg "_law_is_clash" (topS 24) ["told", "rows"]) (d__law_asked : DefAt K mg "_law_asked" (topS 25) ["bag", "names", "rows"])
    (F : L2.Fun K "law" "law" (topS 26) f fd) : FnOk P w K mg base CX0 5 f fd ["script"] (spLaw K) := by
  have o_is_odd := ok_is_odd (P := P) (w := w) (mg := mg) (base := base) d_is_odd
  have o_bit_sum := ok_bit_sum (P := P) (w := w) (mg := mg) (base := base) d_bit_sum
  have o_bit_places := ok_bit_places (P := P) (w := w) (mg := mg) (base := base) d_bit_places
  have o_solve_rows := ok_solve_rows (P := P) (w := w) (mg := mg) (base := base) T d_solve_rows o_is_odd
  have o_RowSpace___init__ := ok_init (P := P) (w := w) (mg := mg) (base := base) RC d_RowSpace___init__
  have o_RowSpace_reduced := ok_reduced (P := P) (w := w) (mg := mg) (base := base) RC d_RowSpace_reduced
  have o_RowSpace_put_row := ok_put_row (P := P) (w := w) (mg := mg) (base := base) RC d_RowSpace_put_row o_RowSpace_reduced
  have o_either := ok_either (P := P) (w := w) (mg := mg) (base := base) T RC d_either o_RowSpace___init__ o_RowSpace_put_row o_bit_sum o_bit_places o_solve_rows
  have o__law_open := ok_open (P := P) (w := w) (mg := mg) (base := base) T d__law_open
  have o__law_pick := ok_pick (P := P) (w := w) (mg := mg) (base := base) T d__law_pick
  have o__law_of := ok_of (P := P) (w := w) (mg := mg) (base := base) T d__law_of o__law_pick
  have o__law_mixed := ok_mixed (P := P) (w := w) (mg := mg) (base := base) T d__law_mixed o__law_pick
  have o__law_names := ok_names (P := P) (w := w) (mg := mg) (base := base) T d__law_names o__law_pick o__law_of
  have o__law_less := ok_less (P := P) (w := w) (mg := mg) (base := base) T d__law_less
  have o__law_stairs := ok_stairs (P := P) (w := w) (mg := mg) (base := base) T d__law_stairs o__law_less
  have o__law_chosen := ok_chosen (P := P) (w := w) (mg := mg) (base := base) T d__law_chosen
  have o__law_sum := ok_sum (P := P) (w := w) (mg := mg) (base := base) T d__law_sum
  have o__law_is_int := ok_is_int (P := P) (w := w) (mg := mg) (base := base) T d__law_is_int
  have o__law_parity := ok_parity (P := P) (w := w) (mg := mg) (base := base) T d__law_parity
  have o__law_lots := ok_lots (P := P) (w := w) (mg := mg) (base := base) T d__law_lots o__law_pick o__law_of o__law_parity
  have o__law_handed := ok_handed (P := P) (w := w) (mg := mg) (base := base) T d__law_handed o__law_pick o__law_mixed o__law_chosen
  have o__law_is_choice := ok_is_choice (P := P) (w := w) (mg := mg) (base := base) T d__law_is_choice o__law_chosen o__law_parity
  have o__law_is_clash := ok_is_clash (P := P) (w := w) (mg := mg) (base := base) T d__law_is_clash o__law_is_int o__law_sum
  have o__law_asked := ok_asked (P := P) (w := w) (mg := mg) (base := base) T d__law_asked o__law_stairs o__law_handed o_either o__law_is_clash o__law_is_choice
  exact ok_law (P := P) (w := w) (mg := mg) (base := base) T F o__law_open o__law_pick o__law_of o__law_names o__law_lots o__law_asked o__law_sum
theorem walk {l : PySem.W.OpenLaw} {q : Program} {loose : List PySem.Str} {XP : (PySem.Str → Option Value) → Heap → Prop} {YP : World → Heap → Prop} {d : DefRec} {K : Params → PySem.W.Frag} (hn : l.most = some 63) (hdf : d.params.defaults = [])
    (hY : ∀ (w : World) (h : Heap), YP w h → (K w.params).In h)
    (F : ∀ (w : World) (mg : PySem.Str → Option Value) (fa : Addr) (h : Heap), (K w.params).In h → h.Ns mainGlobals mg → mg d.name = some (.ref fa) →
      ∃ fd : FuncData, (∀ (s : Shared) (u : Value), BindsTo s fd ⟨[u], []⟩ [("script", u)]) ∧ ∀ base : Heap, (K w.params).In base → base.Ns mainGlobals mg → FnOk l.prog w (K w.params) mg base CX0 5 fa fd ["script"] (spLaw (K w.params))) :
    PySem.W.WalkO q loose XP YP l.row.toRowW d [] (fun f vs => PySem.call f vs) :=
  L2.walk_of (n := 63) (k := 5) (x := "script") (CX := fun _ => CX0) (sp := fun w => spLaw (K w.params)) hn (by decide) hdf ⟨rfl, by decide, by decide⟩ hY F (fun _ _ a ns hl _ hS => ⟨a, ns, rfl, hS, hl, fun _ => rfl⟩) fun _ _ _ _ _ z => z
theorem all_mk {P : Program} {w : World} {K : PySem.W.Frag} {h : Heap} {mg : PySem.Str → Option Value} {fa : Addr} (X : K.In h) (G : h.Ns mainGlobals mg) (hfa : mg "law" = some (.ref fa)) {C : Addr} {f0 : Addr} {od0 an0 : Option Addr} {sl0 : Array (Option Value)} {oc0 kV0 dc0 pm0 cd0 ct0 : Value} {f1 : Addr} {od1 an1 : Option Addr} {sl1 : Array (Option Value)} {oc1 kV1 dc1 pm1 cd1 ct1 : Value} {f2 : Addr} {od2 an2 : Option Addr} {sl2 : Array (Option Value)} {oc2 kV2 dc2 pm2 cd2 ct2 : Value} {f3 : Addr} {od3 an3 : Option Addr} {sl3 : Array (Option Value)} {oc3 kV3 dc3 pm3 cd3 ct3 : Value} {f4 : Addr} {od4 an4 : Option Addr} {sl4 : Array (Option Value)} {oc4 kV4 dc4 pm4 cd4 ct4 : Value} {f5 : Addr} {od5 an5 : Option Addr} {sl5 : Array (Option Value)} {oc5 kV5 dc5 pm5 cd5 ct5 : Value} {f6 : Addr} {od6 an6 : Option Addr} {sl6 : Array (Option Value)} {oc6 kV6 dc6 pm6 cd6 ct6 : Value} {f7 : Addr} {od7 an7 : Option Addr} {sl7 : Array (Option Value)} {oc7 kV7 dc7 pm7 cd7 ct7 : Value} {f8 : Addr} {od8 an8 : Option Addr} {sl8 : Array (Option Value)} {oc8 kV8 dc8 pm8 cd8 ct8 : Value} {f9 : Addr} {od9 an9 : Option Addr} {sl9 : Array (Option Value)} {oc9 kV9 dc9 pm9 cd9 ct9 : Value} {f10 : Addr} {od10 an10 : Option Addr} {sl10 : Array (Option Value)} {oc10 kV10 dc10 pm10 cd10 ct10 : Value} {f11 : Addr} {od11 an11 : Option Addr} {sl11 : Array (Option Value)} {oc11 kV11 dc11 pm11 cd11 ct11 : Value} {f12 : Addr} {od12 an12 : Option Addr} {sl12 : Array (Option Value)} {oc12 kV12 dc12 pm12 cd12 ct12 : Value} {f13 : Addr} {od13 an13 : Option Addr} {sl13 : Array (Option Value)} {oc13 kV13 dc13 pm13 cd13 ct13 : Value} {f14 : Addr} {od14 an14 : Option Addr} {sl14 : Array (Option Value)} {oc14 kV14 dc14 pm14 cd14 ct14 : Value} {f15 : Addr} {od15 an15 : Option Addr} {sl15 : Array (Option Value)} {oc15 kV15 dc15 pm15 cd15 ct15 : Value} {f16 : Addr} {od16 an16 : Option Addr} {sl16 : Array (Option Value)} {oc16 kV16 dc16 pm16 cd16 ct16 : Value} {f17 : Addr} {od17 an17 : Option Addr} {sl17 : Array (Option Value)} {oc17 kV17 dc17 pm17 cd17 ct17 : Value} {f18 : Addr} {od18 an18 : Option Addr} {sl18 : Array (Option Value)} {oc18 kV18 dc18 pm18 cd18 ct18 : Value} {f19 : Addr} {od19 an19 : Option Addr} {sl19 : Array (Option Value)} {oc19 kV19 dc19 pm19 cd19 ct19 : Value} {f20 : Addr} {od20 an20 : Option Addr} {sl20 : Array (Option Value)} {oc20 kV20 dc20 pm20 cd20 ct20 : Value} {f21 : Addr} {od21 an21 : Option Addr} {sl21 : Array (Option Value)} {oc21 kV21 dc21 pm21 cd21 ct21 : Value} {f22 : Addr} {od22 an22 : Option Addr} {sl22 : Array (Option Value)} {oc22 kV22 dc22 pm22 cd22 ct22 : Value} {f23 : Addr} {od23 an23 : Option Addr} {sl23 : Array (Option Value)} {oc23 kV23 dc23 pm23 cd23 ct23 : Value} {f24 : Addr} {od24 an24 : Option Addr} {sl24 : Array (Option Value)} {oc24 kV24 dc24 pm24 cd24 ct24 : Value}
    (aC : PySem.W.nsIn K mainGlobals "RowSpace" = some (some (.ref C)))
    (mk : PySem.W.makesIn K C = true)
    (kc : PySem.W.keepIn K (.ref C) = true)
    (pg : PySem.W.plainGet K C Str.empty = true)
    (hd : PySem.W.hasDictIn K C = true)
    (po : PySem.W.plainOver K C = true)
    (sa : PySem.W.findIn K (.ref C) "__setattr__" = some (some (.builtin "object.__setattr__")))
    (nK : PySem.W.findIn K (.ref C) "kept" = some none)
    (nM : PySem.W.findIn K (.ref C) "many" = some none)
    (z0 : PySem.W.nsIn K mainGlobals "len" = some none)
    (z1 : PySem.W.nsIn K mainGlobals "int" = some none)
    (z2 : PySem.W.nsIn K mainGlobals "sum" = some none)
    (z3 : PySem.W.nsIn K mainGlobals "all" = some none)
    (z4 : PySem.W.nsIn K mainGlobals "any" = some none)
    (z5 : PySem.W.nsIn K mainGlobals "sorted" = some none)
    (z6 : PySem.W.nsIn K mainGlobals "list" = some none)
    (z7 : PySem.W.nsIn K mainGlobals "tuple" = some none)
    (z8 : PySem.W.nsIn K mainGlobals "isinstance" = some none)
    (z9 : PySem.W.nsIn K mainGlobals "range" = some none)
    (z10 : PySem.W.nsIn K mainGlobals "enumerate" = some none)
    (z11 : PySem.W.nsIn K mainGlobals "str" = some none)
    (z12 : PySem.W.nsIn K mainGlobals "bool" = some none)
    (a0 : PySem.W.nsIn K mainGlobals "is_odd" = some (some (.ref f0)))
    (l0 : K.lookup f0 = some ⟨oc0, od0, .func (PySem.W.fnOf "is_odd" "is_odd" (defArgs (topS 2)) (defBody (topS 2)) (defScope (topS 2)) .none kV0 dc0 pm0 an0 cd0 ct0), sl0⟩)
    (c0 : PySem.W.codeIn K cd0 "is_odd" = true)
    (k0 : PySem.W.keepIn K (.ref f0) = true)
    (a1 : PySem.W.nsIn K mainGlobals "bit_sum" = some (some (.ref f1)))
    (l1 : K.lookup f1 = some ⟨oc1, od1, .func (PySem.W.fnOf "bit_sum" "bit_sum" (defArgs (topS 3)) (defBody (topS 3)) (defScope (topS 3)) .none kV1 dc1 pm1 an1 cd1 ct1), sl1⟩)
    (c1 : PySem.W.codeIn K cd1 "bit_sum" = true)
    (k1 : PySem.W.keepIn K (.ref f1) = true)
    (a2 : PySem.W.nsIn K mainGlobals "bit_places" = some (some (.ref f2)))
    (l2 : K.lookup f2 = some ⟨oc2, od2, .func (PySem.W.fnOf "bit_places" "bit_places" (defArgs (topS 4)) (defBody (topS 4)) (defScope (topS 4)) .none kV2 dc2 pm2 an2 cd2 ct2), sl2⟩)
    (c2 : PySem.W.codeIn K cd2 "bit_places" = true)
    (k2 : PySem.W.keepIn K (.ref f2) = true)
    (a3 : PySem.W.nsIn K mainGlobals "solve_rows" = some (some (.ref f3)))
    (l3 : K.lookup f3 = some ⟨oc3, od3, .func (PySem.W.fnOf "solve_rows" "solve_rows" (defArgs (topS 5)) (defBody (topS 5)) (defScope (topS 5)) .none kV3 dc3 pm3 an3 cd3 ct3), sl3⟩)
    (c3 : PySem.W.codeIn K cd3 "solve_rows" = true)
    (k3 : PySem.W.keepIn K (.ref f3) = true)
    (a4 : PySem.W.findIn K (.ref C) "__init__" = some (some (.ref f4)))
    (i4 : PySem.W.isFn K (.ref f4) = true)
    (l4 : K.lookup f4 = some ⟨oc4, od4, .func (PySem.W.fnOf "__init__" "RowSpace.__init__" (defArgs (inClass (topS 6) 0)) (defBody (inClass (topS 6) 0)) (defScope (inClass (topS 6) 0)) .none kV4 dc4 pm4 an4 cd4 ct4), sl4⟩)
    (c4 : PySem.W.codeIn K cd4 "RowSpace.__init__" = true)
    (k4 : PySem.W.keepIn K (.ref f4) = true)
    (a5 : PySem.W.findIn K (.ref C) "reduced" = some (some (.ref f5)))
    (i5 : PySem.W.isFn K (.ref f5) = true)
    (l5 : K.lookup f5 = some ⟨oc5, od5, .func (PySem.W.fnOf "reduced" "RowSpace.reduced" (defArgs (inClass (topS 6) 1)) (defBody (inClass (topS 6) 1)) (defScope (inClass (topS 6) 1)) .none kV5 dc5 pm5 an5 cd5 ct5), sl5⟩)
    (c5 : PySem.W.codeIn K cd5 "RowSpace.reduced" = true)
    (k5 : PySem.W.keepIn K (.ref f5) = true)
    (a6 : PySem.W.findIn K (.ref C) "put_row" = some (some (.ref f6)))
    (i6 : PySem.W.isFn K (.ref f6) = true)
    (l6 : K.lookup f6 = some ⟨oc6, od6, .func (PySem.W.fnOf "put_row" "RowSpace.put_row" (defArgs (inClass (topS 6) 2)) (defBody (inClass (topS 6) 2)) (defScope (inClass (topS 6) 2)) .none kV6 dc6 pm6 an6 cd6 ct6), sl6⟩)
    (c6 : PySem.W.codeIn K cd6 "RowSpace.put_row" = true)
    (k6 : PySem.W.keepIn K (.ref f6) = true)
    (a7 : PySem.W.nsIn K mainGlobals "either" = some (some (.ref f7)))
    (l7 : K.lookup f7 = some ⟨oc7, od7, .func (PySem.W.fnOf "either" "either" (defArgs (topS 8)) (defBody (topS 8)) (defScope (topS 8)) .none kV7 dc7 pm7 an7 cd7 ct7), sl7⟩)
    (c7 : PySem.W.codeIn K cd7 "either" = true)
    (k7 : PySem.W.keepIn K (.ref f7) = true)
    (a8 : PySem.W.nsIn K mainGlobals "_law_open" = some (some (.ref f8)))
    (l8 : K.lookup f8 = some ⟨oc8, od8, .func (PySem.W.fnOf "_law_open" "_law_open" (defArgs (topS 10)) (defBody (topS 10)) (defScope (topS 10)) .none kV8 dc8 pm8 an8 cd8 ct8), sl8⟩)
    (c8 : PySem.W.codeIn K cd8 "_law_open" = true)
    (k8 : PySem.W.keepIn K (.ref f8) = true)
    (a9 : PySem.W.nsIn K mainGlobals "_law_pick" = some (some (.ref f9)))
    (l9 : K.lookup f9 = some ⟨oc9, od9, .func (PySem.W.fnOf "_law_pick" "_law_pick" (defArgs (topS 11)) (defBody (topS 11)) (defScope (topS 11)) .none kV9 dc9 pm9 an9 cd9 ct9), sl9⟩)
    (c9 : PySem.W.codeIn K cd9 "_law_pick" = true)
    (k9 : PySem.W.keepIn K (.ref f9) = true)
    (a10 : PySem.W.nsIn K mainGlobals "_law_of" = some (some (.ref f10)))
    (l10 : K.lookup f10 = some ⟨oc10, od10, .func (PySem.W.fnOf "_law_of" "_law_of" (defArgs (topS 12)) (defBody (topS 12)) (defScope (topS 12)) .none kV10 dc10 pm10 an10 cd10 ct10), sl10⟩)
    (c10 : PySem.W.codeIn K cd10 "_law_of" = true)
    (k10 : PySem.W.keepIn K (.ref f10) = true)
    (a11 : PySem.W.nsIn K mainGlobals "_law_mixed" = some (some (.ref f11)))
    (l11 : K.lookup f11 = some ⟨oc11, od11, .func (PySem.W.fnOf "_law_mixed" "_law_mixed" (defArgs (topS 13)) (defBody (topS 13)) (defScope (topS 13)) .none kV11 dc11 pm11 an11 cd11 ct11), sl11⟩)
    (c11 : PySem.W.codeIn K cd11 "_law_mixed" = true)
    (k11 : PySem.W.keepIn K (.ref f11) = true)
    (a12 : PySem.W.nsIn K mainGlobals "_law_names" = some (some (.ref f12)))
    (l12 : K.lookup f12 = some ⟨oc12, od12, .func (PySem.W.fnOf "_law_names" "_law_names" (defArgs (topS 14)) (defBody (topS 14)) (defScope (topS 14)) .none kV12 dc12 pm12 an12 cd12 ct12), sl12⟩)
    (c12 : PySem.W.codeIn K cd12 "_law_names" = true)
    (k12 : PySem.W.keepIn K (.ref f12) = true)
    (a13 : PySem.W.nsIn K mainGlobals "_law_less" = some (some (.ref f13)))
    (l13 : K.lookup f13 = some ⟨oc13, od13, .func (PySem.W.fnOf "_law_less" "_law_less" (defArgs (topS 15)) (defBody (topS 15)) (defScope (topS 15)) .none kV13 dc13 pm13 an13 cd13 ct13), sl13⟩)
    (c13 : PySem.W.codeIn K cd13 "_law_less" = true)
    (k13 : PySem.W.keepIn K (.ref f13) = true)
    (a14 : PySem.W.nsIn K mainGlobals "_law_stairs" = some (some (.ref f14)))
    (l14 : K.lookup f14 = some ⟨oc14, od14, .func (PySem.W.fnOf "_law_stairs" "_law_stairs" (defArgs (topS 16)) (defBody (topS 16)) (defScope (topS 16)) .none kV14 dc14 pm14 an14 cd14 ct14), sl14⟩)
    (c14 : PySem.W.codeIn K cd14 "_law_stairs" = true)
    (k14 : PySem.W.keepIn K (.ref f14) = true)
    (a15 : PySem.W.nsIn K mainGlobals "_law_chosen" = some (some (.ref f15)))
    (l15 : K.lookup f15 = some ⟨oc15, od15, .func (PySem.W.fnOf "_law_chosen" "_law_chosen" (defArgs (topS 17)) (defBody (topS 17)) (defScope (topS 17)) .none kV15 dc15 pm15 an15 cd15 ct15), sl15⟩)
    (c15 : PySem.W.codeIn K cd15 "_law_chosen" = true)
    (k15 : PySem.W.keepIn K (.ref f15) = true)
    (a16 : PySem.W.nsIn K mainGlobals "_law_sum" = some (some (.ref f16)))
    (l16 : K.lookup f16 = some ⟨oc16, od16, .func (PySem.W.fnOf "_law_sum" "_law_sum" (defArgs (topS 18)) (defBody (topS 18)) (defScope (topS 18)) .none kV16 dc16 pm16 an16 cd16 ct16), sl16⟩)
    (c16 : PySem.W.codeIn K cd16 "_law_sum" = true)
    (k16 : PySem.W.keepIn K (.ref f16) = true)
    (a17 : PySem.W.nsIn K mainGlobals "_law_is_int" = some (some (.ref f17)))
    (l17 : K.lookup f17 = some ⟨oc17, od17, .func (PySem.W.fnOf "_law_is_int" "_law_is_int" (defArgs (topS 19)) (defBody (topS 19)) (defScope (topS 19)) .none kV17 dc17 pm17 an17 cd17 ct17), sl17⟩)
    (c17 : PySem.W.codeIn K cd17 "_law_is_int" = true)
    (k17 : PySem.W.keepIn K (.ref f17) = true)
    (a18 : PySem.W.nsIn K mainGlobals "_law_parity" = some (some (.ref f18)))
    (l18 : K.lookup f18 = some ⟨oc18, od18, .func (PySem.W.fnOf "_law_parity" "_law_parity" (defArgs (topS 20)) (defBody (topS 20)) (defScope (topS 20)) .none kV18 dc18 pm18 an18 cd18 ct18), sl18⟩)
    (c18 : PySem.W.codeIn K cd18 "_law_parity" = true)
    (k18 : PySem.W.keepIn K (.ref f18) = true)
    (a19 : PySem.W.nsIn K mainGlobals "_law_lots" = some (some (.ref f19)))
    (l19 : K.lookup f19 = some ⟨oc19, od19, .func (PySem.W.fnOf "_law_lots" "_law_lots" (defArgs (topS 21)) (defBody (topS 21)) (defScope (topS 21)) .none kV19 dc19 pm19 an19 cd19 ct19), sl19⟩)
    (c19 : PySem.W.codeIn K cd19 "_law_lots" = true)
    (k19 : PySem.W.keepIn K (.ref f19) = true)
    (a20 : PySem.W.nsIn K mainGlobals "_law_handed" = some (some (.ref f20)))
    (l20 : K.lookup f20 = some ⟨oc20, od20, .func (PySem.W.fnOf "_law_handed" "_law_handed" (defArgs (topS 22)) (defBody (topS 22)) (defScope (topS 22)) .none kV20 dc20 pm20 an20 cd20 ct20), sl20⟩)
    (c20 : PySem.W.codeIn K cd20 "_law_handed" = true)
    (k20 : PySem.W.keepIn K (.ref f20) = true)
    (a21 : PySem.W.nsIn K mainGlobals "_law_is_choice" = some (some (.ref f21)))
    (l21 : K.lookup f21 = some ⟨oc21, od21, .func (PySem.W.fnOf "_law_is_choice" "_law_is_choice" (defArgs (topS 23)) (defBody (topS 23)) (defScope (topS 23)) .none kV21 dc21 pm21 an21 cd21 ct21), sl21⟩)
    (c21 : PySem.W.codeIn K cd21 "_law_is_choice" = true)
    (k21 : PySem.W.keepIn K (.ref f21) = true)
    (a22 : PySem.W.nsIn K mainGlobals "_law_is_clash" = some (some (.ref f22)))
    (l22 : K.lookup f22 = some ⟨oc22, od22, .func (PySem.W.fnOf "_law_is_clash" "_law_is_clash" (defArgs (topS 24)) (defBody (topS 24)) (defScope (topS 24)) .none kV22 dc22 pm22 an22 cd22 ct22), sl22⟩)
    (c22 : PySem.W.codeIn K cd22 "_law_is_clash" = true)
    (k22 : PySem.W.keepIn K (.ref f22) = true)
    (a23 : PySem.W.nsIn K mainGlobals "_law_asked" = some (some (.ref f23)))
    (l23 : K.lookup f23 = some ⟨oc23, od23, .func (PySem.W.fnOf "_law_asked" "_law_asked" (defArgs (topS 25)) (defBody (topS 25)) (defScope (topS 25)) .none kV23 dc23 pm23 an23 cd23 ct23), sl23⟩)
    (c23 : PySem.W.codeIn K cd23 "_law_asked" = true)
    (k23 : PySem.W.keepIn K (.ref f23) = true)
    (a24 : PySem.W.nsIn K mainGlobals "law" = some (some (.ref f24)))
    (l24 : K.lookup f24 = some ⟨oc24, od24, .func (PySem.W.fnOf "law" "law" (defArgs (topS 26)) (defBody (topS 26)) (defScope (topS 26)) .none kV24 dc24 pm24 an24 cd24 ct24), sl24⟩)
    (c24 : PySem.W.codeIn K cd24 "law" = true)
    (k24 : PySem.W.keepIn K (.ref f24) = true) :
    ∃ fd : FuncData, (∀ (s : Shared) (v : Value), BindsTo s fd ⟨[v], []⟩ [("script", v)]) ∧ ∀ base : Heap, K.In base → base.Ns mainGlobals mg → FnOk P w K mg base CX0 5 fa fd ["script"] (spLaw K) := by
  have e := hfa.symm.trans (PySem.W.mg_of X G a24)
  cases e
  have RC : RSC K C := ⟨⟨pg, hd, po, sa⟩, nK, nM⟩
  have T : Blt mg := blt_mk X G z0 z1 z2 z3 z4 z5 z6 z7 z8 z9 z10 z11 z12
  exact ⟨PySem.W.fnOf "law" "law" (defArgs (topS 26)) (defBody (topS 26)) (defScope (topS 26)) .none kV24 dc24 pm24 an24 cd24 ct24, fun s v => .of_eq rfl, fun base _ _ => all_ok T RC (defAt_mk X G b_is_odd a0 l0 c0 k0) (defAt_mk X G b_bit_sum a1 l1 c1 k1) (defAt_mk X G b_bit_places a2 l2 c2 k2) (defAt_mk X G b_solve_rows a3 l3 c3 k3) (iniAt_mk X G b_RowSpace___init__ aC mk kc a4 i4 l4 c4 k4) (metAt_mk RC.cl b_RowSpace_reduced a5 i5 l5 c5 k5) (metAt_mk RC.cl b_RowSpace_put_row a6 i6 l6 c6 k6) (defAt_mk X G b_either a7 l7 c7 k7) (defAt_mk X G b__law_open a8 l8 c8 k8) (defAt_mk X G b__law_pick a9 l9 c9 k9) (defAt_mk X G b__law_of a10 l10 c10 k10) (defAt_mk X G b__law_mixed a11 l11 c11 k11) (defAt_mk X G b__law_names a12 l12 c12 k12) (defAt_mk X G b__law_less a13 l13 c13 k13) (defAt_mk X G b__law_stairs a14 l14 c14 k14) (defAt_mk X G b__law_chosen a15 l15 c15 k15) (defAt_mk X G b__law_sum a16 l16 c16 k16) (defAt_mk X G b__law_is_int a17 l17 c17 k17) (defAt_mk X G b__law_parity a18 l18 c18 k18) (defAt_mk X G b__law_lots a19 l19 c19 k19) (defAt_mk X G b__law_handed a20 l20 c20 k20) (defAt_mk X G b__law_is_choice a21 l21 c21 k21) (defAt_mk X G b__law_is_clash a22 l22 c22 k22) (defAt_mk X G b__law_asked a23 l23 c23 k23) (fun_mk (st := (topS 26)) l24 c24 k24)⟩
end Cl

open PySem PySem.W PyProof.Rows in
set_option maxRecDepth 100000 in
set_option maxHeartbeats 0 in
theorem PySem.Challenge.cw_whocrosses_k20_whole_either_or_holds : PySem.Challenge.rw_whocrosses_k20_whole_either_or.Holds := by
  w_on; o_law; k_head; (case hw => w_witness2)
  k_fill
  refine Cl.walk (l := PySem.Challenge.rw_whocrosses_k20_whole_either_or) rfl rfl (fun w h Y => PySem.W.kIn_of Y) ?F
  case F =>
    intro w mg fa h KX G hmg
    refine' Cl.all_mk KX G hmg ?aC ?mk ?kc ?pg ?hd ?po ?sa ?nK ?nM ?z0 ?z1 ?z2 ?z3 ?z4 ?z5 ?z6 ?z7 ?z8 ?z9 ?z10 ?z11 ?z12 ?a0 ?l0 ?c0 ?k0 ?a1 ?l1 ?c1 ?k1 ?a2 ?l2 ?c2 ?k2 ?a3 ?l3 ?c3 ?k3 ?a4 ?i4 ?l4 ?c4 ?k4 ?a5 ?i5 ?l5 ?c5 ?k5 ?a6 ?i6 ?l6 ?c6 ?k6 ?a7 ?l7 ?c7 ?k7 ?a8 ?l8 ?c8 ?k8 ?a9 ?l9 ?c9 ?k9 ?a10 ?l10 ?c10 ?k10 ?a11 ?l11 ?c11 ?k11 ?a12 ?l12 ?c12 ?k12 ?a13 ?l13 ?c13 ?k13 ?a14 ?l14 ?c14 ?k14 ?a15 ?l15 ?c15 ?k15 ?a16 ?l16 ?c16 ?k16 ?a17 ?l17 ?c17 ?k17 ?a18 ?l18 ?c18 ?k18 ?a19 ?l19 ?c19 ?k19 ?a20 ?l20 ?c20 ?k20 ?a21 ?l21 ?c21 ?k21 ?a22 ?l22 ?c22 ?k22 ?a23 ?l23 ?c23 ?k23 ?a24 ?l24 ?c24 ?k24
    (case aC => k_is)
    (case mk => k_is)
    (case kc => k_is)
    (case pg => k_is)
    (case hd => k_is)
    (case po => k_is)
    (case sa => k_is)
    (case nK => k_is)
    (case nM => k_is)
    (case z0 => k_is)
    (case z1 => k_is)
    (case z2 => k_is)
    (case z3 => k_is)
    (case z4 => k_is)
    (case z5 => k_is)
    (case z6 => k_is)
    (case z7 => k_is)
    (case z8 => k_is)
    (case z9 => k_is)
    (case z10 => k_is)
    (case z11 => k_is)
    (case z12 => k_is)
    (case a0 => k_is)
    (case l0 => k_is)
    (case c0 => k_is)
    (case k0 => k_is)
    (case a1 => k_is)
    (case l1 => k_is)
    (case c1 => k_is)
    (case k1 => k_is)
    (case a2 => k_is)
    (case l2 => k_is)
    (case c2 => k_is)
    (case k2 => k_is)
    (case a3 => k_is)
    (case l3 => k_is)
    (case c3 => k_is)
    (case k3 => k_is)
    (case a4 => k_is)
    (case i4 => k_is)
    (case l4 => k_is)
    (case c4 => k_is)
    (case k4 => k_is)
    (case a5 => k_is)
    (case i5 => k_is)
    (case l5 => k_is)
    (case c5 => k_is)
    (case k5 => k_is)
    (case a6 => k_is)
    (case i6 => k_is)
    (case l6 => k_is)
    (case c6 => k_is)
    (case k6 => k_is)
    (case a7 => k_is)
    (case l7 => k_is)
    (case c7 => k_is)
    (case k7 => k_is)
    (case a8 => k_is)
    (case l8 => k_is)
    (case c8 => k_is)
    (case k8 => k_is)
    (case a9 => k_is)
    (case l9 => k_is)
    (case c9 => k_is)
    (case k9 => k_is)
    (case a10 => k_is)
    (case l10 => k_is)
    (case c10 => k_is)
    (case k10 => k_is)
    (case a11 => k_is)
    (case l11 => k_is)
    (case c11 => k_is)
    (case k11 => k_is)
    (case a12 => k_is)
    (case l12 => k_is)
    (case c12 => k_is)
    (case k12 => k_is)
    (case a13 => k_is)
    (case l13 => k_is)
    (case c13 => k_is)
    (case k13 => k_is)
    (case a14 => k_is)
    (case l14 => k_is)
    (case c14 => k_is)
    (case k14 => k_is)
    (case a15 => k_is)
    (case l15 => k_is)
    (case c15 => k_is)
    (case k15 => k_is)
    (case a16 => k_is)
    (case l16 => k_is)
    (case c16 => k_is)
    (case k16 => k_is)
    (case a17 => k_is)
    (case l17 => k_is)
    (case c17 => k_is)
    (case k17 => k_is)
    (case a18 => k_is)
    (case l18 => k_is)
    (case c18 => k_is)
    (case k18 => k_is)
    (case a19 => k_is)
    (case l19 => k_is)
    (case c19 => k_is)
    (case k19 => k_is)
    (case a20 => k_is)
    (case l20 => k_is)
    (case c20 => k_is)
    (case k20 => k_is)
    (case a21 => k_is)
    (case l21 => k_is)
    (case c21 => k_is)
    (case k21 => k_is)
    (case a22 => k_is)
    (case l22 => k_is)
    (case c22 => k_is)
    (case k22 => k_is)
    (case a23 => k_is)
    (case l23 => k_is)
    (case c23 => k_is)
    (case k23 => k_is)
    (case a24 => k_is)
    (case l24 => k_is)
    (case c24 => k_is)
    (case k24 => k_is)
