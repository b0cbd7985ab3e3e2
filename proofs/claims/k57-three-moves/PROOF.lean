import PyProof.Rows.All
import Wide.All
import OpenK.AllK
import Wide.FinOn
import HandS.ForMost
import HandS.Set
import HandS.SetBool
import HandS.Conv
import HandS.WideBits
import HandS.DictComp
import HandS.FStr
import HandS.Deep
import HandS.More
import HandS.Flow
import HandS.Style
import HandS.IsInst
import KE.OsArith
import KE.KBits
import HandS.Walk
import HandS.Text
import KE.DatumOrd
import KE.GoesEnum
import KE.GoesEnumKw
import HandS.SetFor
import HandS.TupAny
import HandS.StrMore
import HandS.SortRule
import HandS.RaiseMore
import HandS.OwnEq
import HandS.Codes
import HandS.Zip
import HandS.NoneIn
import PySem.Challenge.RW_whocrosses_k57_whole_three_moves
set_option Elab.async false
set_option maxRecDepth 100000
set_option maxHeartbeats 4000000
/-! Own mathematics, part A: numbers as rows of bits. -/
namespace Bits

/-- how many binary digits -/
def bl (n : Nat) : Nat := if n = 0 then 0 else n.log2 + 1
theorem bl_zero : bl 0 = 0 := rfl
theorem lt_bl (n : Nat) : n < 2 ^ bl n := by
  unfold bl
  split
  · rename_i h; rw [h]; decide
  · exact Nat.lt_log2_self
theorem bl_le {n k : Nat} (h : n < 2 ^ k) : bl n ≤ k := by
  unfold bl
  split
  · exact Nat.zero_le _
  · rename_i hn
    exact (Nat.log2_lt hn).mpr h
theorem bl_pos {n : Nat} (h : n ≠ 0) : 0 < bl n := by
  unfold bl
  rw [if_neg h]
  exact Nat.succ_pos _
theorem bl_ne {n : Nat} (h : 0 < bl n) : n ≠ 0 := fun e => by rw [e, bl_zero] at h; exact Nat.lt_irrefl _ h
theorem bl_top {n : Nat} (h : n ≠ 0) : n.testBit (bl n - 1) = true := by
  unfold bl
  rw [if_neg h, Nat.add_sub_cancel]
  exact Nat.testBit_log2 h
theorem bl_high {n i : Nat} (h : bl n ≤ i) : n.testBit i = false :=
  Nat.testBit_lt_two_pow (Nat.lt_of_lt_of_le (lt_bl n) (Nat.pow_le_pow_right (by decide) h))
theorem bl_low {n : Nat} (h : n ≠ 0) : 2 ^ (bl n - 1) ≤ n := by
  unfold bl
  rw [if_neg h, Nat.add_sub_cancel]
  exact Nat.log2_self_le h
theorem lt_of_bits {n k : Nat} (h : ∀ i, k ≤ i → n.testBit i = false) : n < 2 ^ k := Nat.lt_pow_two_of_testBit _ h
/-- two numbers of one length: the sum is shorter -/
theorem bl_xor {a b : Nat} (h : a ≠ 0) (e : bl b = bl a) : bl (a ^^^ b) < bl a := by
  have hb : b ≠ 0 := bl_ne (by rw [e]; exact bl_pos h)
  have q : a ^^^ b < 2 ^ (bl a - 1) := by
    refine lt_of_bits fun i hi => ?_
    rw [Nat.testBit_xor]
    by_cases hi2 : i = bl a - 1
    · rw [hi2, bl_top h]
      have z := bl_top hb
      rw [e] at z
      rw [z]
      rfl
    · have hl : bl a ≤ i := by omega
      rw [bl_high hl, bl_high (by rw [e]; exact hl)]
      rfl
  have z := bl_le q
  have p := bl_pos h
  omega
theorem bl_two_pow (k : Nat) : bl (2 ^ k) = k + 1 := by
  unfold bl
  rw [if_neg (Nat.ne_of_gt (Nat.two_pow_pos k)), Nat.log2_two_pow]

/-! ### parity -/
/-- whether there is an odd number of ones -/
def par (n : Nat) : Bool := if h : n = 0 then false else ((n % 2 == 1) ^^ par (n / 2))
termination_by n
decreasing_by omega
theorem par_zero : par 0 = false := by unfold par; rw [dif_pos rfl]
theorem par_step (n : Nat) : par n = ((n % 2 == 1) ^^ par (n / 2)) := by
  by_cases h : n = 0
  · subst h; rw [par_zero]; rfl
  · rw [par, dif_neg h]
theorem par_one : par 1 = true := by rw [par_step]; rw [show 1 / 2 = 0 from rfl, par_zero]; rfl
theorem mod2_xor (a b : Nat) : ((a ^^^ b) % 2 == 1) = ((a % 2 == 1) ^^ (b % 2 == 1)) := by
  have h := Nat.testBit_xor a b 0
  rw [Nat.testBit_zero, Nat.testBit_zero, Nat.testBit_zero] at h
  rw [Bool.beq_eq_decide_eq, Bool.beq_eq_decide_eq, Bool.beq_eq_decide_eq]
  exact h
theorem par_xor (a : Nat) : ∀ b, par (a ^^^ b) = (par a ^^ par b) := by
  induction a using Nat.strongRecOn with
  | _ a ih =>
    intro b
    by_cases h : a = 0
    · subst h; rw [Nat.zero_xor, par_zero, Bool.false_xor]
    · rw [par_step (a ^^^ b), par_step a, par_step b, mod2_xor, Nat.xor_div_two, ih (a / 2) (by omega)]
      cases (a % 2 == 1) <;> cases (b % 2 == 1) <;> cases par (a / 2) <;> cases par (b / 2) <;> rfl
theorem par_double (n : Nat) : par (2 * n) = par n := by
  rw [par_step, show 2 * n / 2 = n by omega, show 2 * n % 2 = 0 by omega]
  cases par n <;> rfl
theorem par_shift (n k : Nat) : par (n * 2 ^ k) = par n := by
  induction k with
  | zero => rw [Nat.pow_zero, Nat.mul_one]
  | succ k ih => rw [show n * 2 ^ (k + 1) = 2 * (n * 2 ^ k) by rw [Nat.pow_succ, Nat.mul_comm (2 ^ k) 2, Nat.mul_left_comm], par_double, ih]
theorem split_at (n k : Nat) : n = (n / 2 ^ k) * 2 ^ k ^^^ (n % 2 ^ k) := by
  refine Nat.eq_of_testBit_eq fun i => ?_
  rw [Nat.testBit_xor, Nat.testBit_mul_two_pow, Nat.testBit_div_two_pow, Nat.testBit_mod_two_pow]
  by_cases h : k ≤ i
  · rw [show i - k + k = i by omega]
    have h2 : ¬ i < k := by omega
    simp [h, h2]
  · have h2 : i < k := by omega
    simp [h, h2]
theorem par_fold (n k : Nat) : par ((n / 2 ^ k) ^^^ (n % 2 ^ k)) = par n := by
  conv => rhs; rw [split_at n k]
  rw [par_xor, par_xor, par_shift]
theorem par_small {n : Nat} (h : n < 2) : (n == 1) = par n := by
  match n, h with
  | 0, _ => rw [par_zero]; rfl
  | 1, _ => rw [par_one]; rfl
/-- folding halves the length -/
theorem fold_lt {n w k : Nat} (h : n < 2 ^ w) (hk : w ≤ 2 * k) : (n / 2 ^ k) ^^^ (n % 2 ^ k) < 2 ^ k := by
  refine lt_of_bits fun i hi => ?_
  rw [Nat.testBit_xor, Nat.testBit_div_two_pow, Nat.testBit_mod_two_pow]
  have h1 : n.testBit (i + k) = false := Nat.testBit_lt_two_pow (Nat.lt_of_lt_of_le h (Nat.pow_le_pow_right (by decide) (by omega)))
  have h2 : ¬ i < k := by omega
  simp [h1, h2]

/-! ### the places of ones -/
def places (n : Nat) : List Nat := (List.range (bl n)).filter fun i => n.testBit i
theorem mem_places {n i : Nat} : i ∈ places n ↔ n.testBit i = true := by
  unfold places
  rw [List.mem_filter, List.mem_range]
  constructor
  · exact fun h => h.2
  · intro h
    refine ⟨?_, h⟩
    by_cases hi : i < bl n
    · exact hi
    · rw [bl_high (by omega)] at h
      cases h
theorem places_asc (n : Nat) : (places n).Pairwise (· < ·) := List.Pairwise.filter _ List.pairwise_lt_range
/-- strictly ascending lists with the same members are one -/
theorem asc_ext : ∀ {l m : List Nat}, l.Pairwise (· < ·) → m.Pairwise (· < ·) → (∀ i, i ∈ l ↔ i ∈ m) → l = m
  | [], [], _, _, _ => rfl
  | [], y :: m, _, _, h => by have z := (h y).mpr List.mem_cons_self; cases z
  | x :: l, [], _, _, h => by have z := (h x).mp List.mem_cons_self; cases z
  | x :: l, y :: m, hl, hm, h => by
    obtain ⟨l1, l2⟩ := List.pairwise_cons.mp hl
    obtain ⟨m1, m2⟩ := List.pairwise_cons.mp hm
    have e : x = y := by
      rcases List.mem_cons.mp ((h x).mp List.mem_cons_self) with a | a
      · exact a
      · rcases List.mem_cons.mp ((h y).mpr List.mem_cons_self) with b | b
        · exact b.symm
        · have := m1 x a
          have := l1 y b
          omega
    subst e
    have q : l = m := asc_ext l2 m2 fun i => by
      constructor
      · intro hi
        rcases List.mem_cons.mp ((h i).mp (List.mem_cons_of_mem _ hi)) with a | a
        · have := l1 i hi; omega
        · exact a
      · intro hi
        rcases List.mem_cons.mp ((h i).mpr (List.mem_cons_of_mem _ hi)) with a | a
        · have := m1 i hi; omega
        · exact a
    rw [q]
theorem places_zero : places 0 = [] := rfl
/-- the lowest one -/
theorem low_form : ∀ n : Nat, n ≠ 0 → ∃ k a, n = 2 ^ k * (2 * a + 1) := by
  intro n
  induction n using Nat.strongRecOn with
  | _ n ih =>
    intro h
    by_cases e : n % 2 = 1
    · exact ⟨0, n / 2, by rw [Nat.pow_zero, Nat.one_mul]; omega⟩
    · obtain ⟨k, a, q⟩ := ih (n / 2) (by omega) (by omega)
      refine ⟨k + 1, a, ?_⟩
      rw [Nat.pow_succ, Nat.mul_comm (2 ^ k) 2, Nat.mul_assoc, ← q]
      omega
theorem low_xor (k a : Nat) : 2 ^ k * (2 * a + 1) ^^^ 2 ^ k = 2 ^ k * (2 * a) := by
  have e : ∀ x : Nat, 2 ^ k * x = x * 2 ^ k := fun x => Nat.mul_comm _ _
  refine Nat.eq_of_testBit_eq fun i => ?_
  rw [Nat.testBit_xor, e, e, Nat.testBit_mul_two_pow, Nat.testBit_mul_two_pow, Nat.testBit_two_pow]
  by_cases h : k ≤ i
  · by_cases h2 : k = i
    · subst h2
      simp [Nat.testBit_zero]
    · obtain ⟨j, rfl⟩ : ∃ j, i = k + (j + 1) := ⟨i - k - 1, by omega⟩
      have h3 : k + (j + 1) - k = j + 1 := by omega
      rw [h3, Nat.testBit_succ, Nat.testBit_succ, show (2 * a + 1) / 2 = a by omega, show 2 * a / 2 = a by omega]
      simp [h2]
  · have h2 : ¬ k = i := by omega
    simp [h, h2]
theorem low_places (k a : Nat) : places (2 ^ k * (2 * a + 1)) = k :: places (2 ^ k * (2 * a)) := by
  have e : ∀ x : Nat, 2 ^ k * x = x * 2 ^ k := fun x => Nat.mul_comm _ _
  have t : ∀ i, (2 ^ k * (2 * a)).testBit i = true → k < i := fun i h => by
    rw [e, Nat.testBit_mul_two_pow] at h
    by_cases h1 : k ≤ i
    · by_cases h2 : k = i
      · subst h2
        simp [Nat.testBit_zero] at h
      · omega
    · simp [h1] at h
  refine asc_ext (places_asc _) (List.pairwise_cons.mpr ⟨fun i hi => t i (mem_places.mp hi), places_asc _⟩) fun i => ?_
  rw [mem_places, List.mem_cons, mem_places, ← low_xor, Nat.testBit_xor, Nat.testBit_two_pow]
  by_cases h : i = k
  · subst h
    rw [e, Nat.testBit_mul_two_pow]
    simp [Nat.testBit_zero]
  · have h2 : ¬ k = i := fun q => h q.symm
    simp [h, h2]

/-! ### sums over two of chosen numbers -/
/-- the sum of the f k whose bit stands in s, k below n -/
def sel (f : Nat → Nat) (s : Nat) : Nat → Nat
  | 0 => 0
  | n + 1 => sel f s n ^^^ (if s.testBit n then f n else 0)
theorem xor4 (a b c d : Nat) : (a ^^^ b) ^^^ (c ^^^ d) = (a ^^^ c) ^^^ (b ^^^ d) := by
  refine Nat.eq_of_testBit_eq fun i => ?_
  rw [Nat.testBit_xor, Nat.testBit_xor, Nat.testBit_xor, Nat.testBit_xor, Nat.testBit_xor, Nat.testBit_xor]
  cases a.testBit i <;> cases b.testBit i <;> cases c.testBit i <;> cases d.testBit i <;> rfl
theorem sel_xor (f : Nat → Nat) (s t : Nat) : ∀ n, sel f (s ^^^ t) n = sel f s n ^^^ sel f t n
  | 0 => (Nat.xor_zero 0).symm
  | n + 1 => by
    unfold sel
    rw [sel_xor f s t n, xor4, Nat.testBit_xor]
    cases s.testBit n <;> cases t.testBit n <;> simp
theorem sel_congr {f g : Nat → Nat} {s : Nat} : ∀ {n : Nat}, (∀ k, k < n → f k = g k) → sel f s n = sel g s n
  | 0, _ => rfl
  | n + 1, h => by
    unfold sel
    rw [sel_congr fun k hk => h k (Nat.lt_succ_of_lt hk), h n (Nat.lt_succ_self n)]
theorem sel_more {f : Nat → Nat} {s n : Nat} (hs : s < 2 ^ n) : ∀ m, sel f s (n + m) = sel f s n
  | 0 => rfl
  | m + 1 => by
    show sel f s (n + m) ^^^ (if s.testBit (n + m) then f (n + m) else 0) = sel f s n
    have h : s.testBit (n + m) = false := Nat.testBit_lt_two_pow (Nat.lt_of_lt_of_le hs (Nat.pow_le_pow_right (by decide) (by omega)))
    rw [h, sel_more hs m]
    exact Nat.xor_zero _
theorem sel_zero (f : Nat → Nat) : ∀ n, sel f 0 n = 0
  | 0 => rfl
  | n + 1 => by
    unfold sel
    rw [sel_zero f n, Nat.zero_testBit, if_neg Bool.false_ne_true]
    exact Nat.xor_zero 0
theorem sel_one (f : Nat → Nat) (k : Nat) : sel f (2 ^ k) (k + 1) = f k := by
  have h : ∀ n, n ≤ k → sel f (2 ^ k) n = 0 := by
    intro n
    induction n with
    | zero => intro _; rfl
    | succ n ih =>
      intro hn
      unfold sel
      rw [ih (by omega), Nat.testBit_two_pow]
      have : ¬ k = n := by omega
      simp [this]
  unfold sel
  rw [h k (Nat.le_refl _), Nat.testBit_two_pow]
  simp
/-- .. as a fold over a list -/
def xsum (l : List Nat) : Nat := l.foldl (fun a x => a ^^^ x) 0
theorem foldl_xor (l : List Nat) : ∀ a, l.foldl (fun a x => a ^^^ x) a = a ^^^ xsum l := by
  induction l with
  | nil => intro a; exact (Nat.xor_zero a).symm
  | cons x l ih =>
    intro a
    rw [List.foldl_cons, ih]
    show _ = a ^^^ (List.foldl (fun a x => a ^^^ x) (0 ^^^ x) l)
    rw [ih, Nat.zero_xor, Nat.xor_assoc]
theorem xsum_cons (x : Nat) (l : List Nat) : xsum (x :: l) = x ^^^ xsum l := by
  unfold xsum
  rw [List.foldl_cons, foldl_xor, Nat.zero_xor]
  rfl
theorem xsum_append (l m : List Nat) : xsum (l ++ m) = xsum l ^^^ xsum m := by
  unfold xsum
  rw [List.foldl_append, foldl_xor]
  rfl
theorem sel_filter (f : Nat → Nat) (s : Nat) : ∀ n, sel f s n = xsum (((List.range n).filter fun i => s.testBit i).map f)
  | 0 => rfl
  | n + 1 => by
    rw [List.range_succ, List.filter_append, List.map_append, xsum_append, ← sel_filter f s n]
    show sel f s n ^^^ (if s.testBit n then f n else 0) = _
    cases h : s.testBit n
    · simp [h, xsum]
    · simp [h, xsum]
theorem sel_places {f : Nat → Nat} {s n : Nat} (hs : s < 2 ^ n) : sel f s n = xsum ((places s).map f) := by
  have h : bl s ≤ n := bl_le hs
  obtain ⟨m, rfl⟩ : ∃ m, n = bl s + m := ⟨n - bl s, by omega⟩
  rw [sel_more (lt_bl s) m, sel_filter]
  rfl
end Bits

/-! Own mathematics, part B: elimination over two. -/
namespace Bits

/-- c keeps the row of these bits with this number -/
def kp (c b a : Nat) : Prop := par (b &&& c) = (a == 1)
/-- what c makes of a row, over two -/
def ph (c b a : Nat) : Bool := par (b &&& c) ^^ (a == 1)
theorem kp_ph {c b a : Nat} : kp c b a ↔ ph c b a = false := by
  unfold kp ph
  cases par (b &&& c) <;> cases (a == 1) <;> simp
theorem bit_xor {a n : Nat} (ha : a < 2) (hn : n < 2) : a ^^^ n < 2 ∧ ((a ^^^ n) == 1) = ((a == 1) ^^ (n == 1)) := by
  match a, n, ha, hn with
  | 0, 0, _, _ => exact ⟨by decide, by decide⟩
  | 0, 1, _, _ => exact ⟨by decide, by decide⟩
  | 1, 0, _, _ => exact ⟨by decide, by decide⟩
  | 1, 1, _, _ => exact ⟨by decide, by decide⟩
theorem ph_xor {c b a o n : Nat} (ha : a < 2) (hn : n < 2) : ph c (b ^^^ o) (a ^^^ n) = (ph c b a ^^ ph c o n) := by
  unfold ph
  rw [Nat.and_xor_distrib_right, par_xor, (bit_xor ha hn).2]
  cases par (b &&& c) <;> cases par (o &&& c) <;> cases (a == 1) <;> cases (n == 1) <;> rfl

/-! ### rows that are kept, by their lengths -/
abbrev Rw := Nat × Nat × Nat
abbrev KRows := List (Nat × Rw)
def look (k : KRows) (w : Nat) : Option Rw := (k.find? fun p => decide (p.1 = w)).map (·.2)
theorem look_some {k : KRows} {w : Nat} {r : Rw} (h : look k w = some r) : (w, r) ∈ k := by
  unfold look at h
  cases e : k.find? fun p => decide (p.1 = w) with
  | none => rw [e] at h; cases h
  | some p =>
    rw [e] at h
    have q : p.2 = r := Option.some.inj h
    have hp := List.find?_some e
    have z : p.1 = w := of_decide_eq_true hp
    have m := List.mem_of_find?_eq_some e
    rw [← q, ← z]
    exact m
theorem look_none {k : KRows} {w : Nat} (h : look k w = none) : ∀ p ∈ k, p.1 ≠ w := by
  intro p hp e
  unfold look at h
  cases q : k.find? fun p => decide (p.1 = w) with
  | some r => rw [q] at h; cases h
  | none =>
    have z := List.find?_eq_none.mp q p hp
    exact z (decide_eq_true e)

/-- a row less the kept ones, the first number is fuel -/
def red : Nat → KRows → Rw → Rw
  | 0, _, r => r
  | f + 1, k, (b, a, s) => if b = 0 then (b, a, s) else match look k (bl b) with
    | none => (b, a, s)
    | some (o, n, m) => red f k (b ^^^ o, a ^^^ n, s ^^^ m)
theorem red_zero (f : Nat) (k : KRows) (a s : Nat) : red f k (0, a, s) = (0, a, s) := by
  cases f with
  | zero => rfl
  | succ f => simp [red]
theorem red_stop {f : Nat} {k : KRows} {b a s : Nat} (h : look k (bl b) = none) : red f k (b, a, s) = (b, a, s) := by
  cases f with
  | zero => rfl
  | succ f =>
    unfold red
    split
    · rfl
    · rw [h]
theorem red_go {f : Nat} {k : KRows} {b a s o n m : Nat} (hb : b ≠ 0) (h : look k (bl b) = some (o, n, m)) : red (f + 1) k (b, a, s) = red f k (b ^^^ o, a ^^^ n, s ^^^ m) := by
  conv => lhs; unfold red
  rw [if_neg hb, h]

/-- the rows k keep what their sources say: B, A the rows that were put in, m their number -/
structure KOk (B A : Nat → Nat) (m : Nat) (k : KRows) : Prop where
  nd : (k.map (·.1)).Nodup
  row : ∀ p ∈ k, p.1 = bl p.2.1 ∧ p.2.1 ≠ 0 ∧ p.2.2.1 < 2 ∧ p.2.2.2 < 2 ^ m ∧ sel B p.2.2.2 m = p.2.1 ∧ sel A p.2.2.2 m = p.2.2.1
  sp : ∀ c, (∀ p ∈ k, kp c p.2.1 p.2.2.1) → ∀ i, i < m → kp c (B i) (A i)

theorem xor_lt {a b n : Nat} (ha : a < 2 ^ n) (hb : b < 2 ^ n) : a ^^^ b < 2 ^ n := Nat.xor_lt_two_pow ha hb

/-- what red makes: its sources, its worth under each choice, and its end -/
theorem red_ok {B A : Nat → Nat} {m M : Nat} {k : KRows} (hk : ∀ p ∈ k, p.1 = bl p.2.1 ∧ p.2.1 ≠ 0 ∧ p.2.2.1 < 2 ∧ p.2.2.2 < 2 ^ M ∧ sel B p.2.2.2 M = p.2.1 ∧ sel A p.2.2.2 M = p.2.2.1) :
    ∀ (f b a s : Nat), bl b ≤ f → a < 2 → s < 2 ^ M → sel B s M = b → sel A s M = a →
      let r := red f k (b, a, s)
      r.2.1 < 2 ∧ r.2.2 < 2 ^ M ∧ sel B r.2.2 M = r.1 ∧ sel A r.2.2 M = r.2.1 ∧ (r.1 = 0 ∨ look k (bl r.1) = none) ∧
        ∀ c, (∀ p ∈ k, kp c p.2.1 p.2.2.1) → ph c r.1 r.2.1 = ph c b a := by
  intro f
  induction f with
  | zero =>
    intro b a s hf ha hs e1 e2
    have hb : b = 0 := by
      by_cases h : b = 0
      · exact h
      · have := bl_pos h; omega
    exact ⟨ha, hs, e1, e2, .inl hb, fun c _ => rfl⟩
  | succ f ih =>
    intro b a s hf ha hs e1 e2
    by_cases hb : b = 0
    · subst hb
      rw [red_zero]
      exact ⟨ha, hs, e1, e2, .inl rfl, fun c _ => rfl⟩
    · cases hl : look k (bl b) with
      | none =>
        rw [red_stop hl]
        exact ⟨ha, hs, e1, e2, .inr hl, fun c _ => rfl⟩
      | some r =>
        obtain ⟨o, n, q⟩ := r
        rw [red_go hb hl]
        obtain ⟨h1, h2, h3, h4, h5, h6⟩ := hk _ (look_some hl)
        dsimp only at h1 h2 h3 h4 h5 h6
        have hlt : bl (b ^^^ o) < bl b := bl_xor hb h1.symm
        obtain ⟨z1, z2, z3, z4, z5, z6⟩ := ih (b ^^^ o) (a ^^^ n) (s ^^^ q) (by omega) (bit_xor ha h3).1 (xor_lt hs h4) (by rw [sel_xor, e1, h5]) (by rw [sel_xor, e2, h6])
        refine ⟨z1, z2, z3, z4, z5, fun c hc => ?_⟩
        rw [z6 c hc, ph_xor ha h3, kp_ph.mp (hc _ (look_some hl))]
        simp

theorem sel_succ {f : Nat → Nat} {s m : Nat} (hs : s < 2 ^ m) : sel f s (m + 1) = sel f s m := sel_more hs 1
/-- the next row, put in -/
theorem put_ok {B A : Nat → Nat} {m : Nat} {k : KRows} (K : KOk B A m k) (hA : A m < 2) {b a s : Nat} (e : red (bl (B m)) k (B m, A m, 2 ^ m) = (b, a, s)) :
    a < 2 ∧ s < 2 ^ (m + 1) ∧ sel B s (m + 1) = b ∧ sel A s (m + 1) = a ∧ (b = 0 → a = 0 → KOk B A (m + 1) k) ∧ (b ≠ 0 → KOk B A (m + 1) (k ++ [(bl b, (b, a, s))])) := by
  have hk : ∀ p ∈ k, p.1 = bl p.2.1 ∧ p.2.1 ≠ 0 ∧ p.2.2.1 < 2 ∧ p.2.2.2 < 2 ^ (m + 1) ∧ sel B p.2.2.2 (m + 1) = p.2.1 ∧ sel A p.2.2.2 (m + 1) = p.2.2.1 := fun p hp => by
    obtain ⟨h1, h2, h3, h4, h5, h6⟩ := K.row p hp
    exact ⟨h1, h2, h3, Nat.lt_of_lt_of_le h4 (Nat.pow_le_pow_right (by decide) (Nat.le_succ m)), (sel_succ h4).trans h5, (sel_succ h4).trans h6⟩
  have z := red_ok (m := m) (M := m + 1) hk (bl (B m)) (B m) (A m) (2 ^ m) (Nat.le_refl _) hA (Nat.pow_lt_pow_right (by decide) (Nat.lt_succ_self m)) (sel_one B m) (sel_one A m)
  rw [e] at z
  obtain ⟨z1, z2, z3, z4, z5, z6⟩ := z
  dsimp only at z1 z2 z3 z4 z5 z6
  refine ⟨z1, z2, z3, z4, fun hb ha => ⟨K.nd, hk, fun c hc i hi => ?_⟩, fun hb => ⟨?_, fun p hp => ?_, fun c hc i hi => ?_⟩⟩
  · by_cases him : i < m
    · exact K.sp c hc i him
    · have ei : i = m := by omega
      subst ei
      rw [kp_ph, ← z6 c hc, hb, ha]
      unfold ph
      rw [Nat.zero_and, par_zero]
      rfl
  · rw [List.map_append, List.nodup_append]
    refine ⟨K.nd, by simp, fun x hx y hy => ?_⟩
    obtain ⟨p, hp, rfl⟩ := List.mem_map.mp hx
    have hy' : y = bl b := by simpa using hy
    rw [hy']
    rcases z5 with z | z
    · exact absurd z hb
    · exact look_none z p hp
  · rcases List.mem_append.mp hp with h | h
    · exact hk p h
    · have ep : p = (bl b, (b, a, s)) := by simpa using h
      subst ep
      exact ⟨rfl, hb, z1, z2, z3, z4⟩
  · have hc' : ∀ p ∈ k, kp c p.2.1 p.2.2.1 := fun p hp => hc p (List.mem_append_left _ hp)
    by_cases him : i < m
    · exact K.sp c hc' i him
    · have ei : i = m := by omega
      subst ei
      rw [kp_ph, ← z6 c hc']
      exact kp_ph.mp (hc (bl b, (b, a, s)) (List.mem_append_right _ (List.mem_singleton.mpr rfl)))

/-- all rows put in; .inl: the sources of one that falls with 1 -/
def putAll : List (Nat × Nat) → Nat → KRows → Sum Nat KRows
  | [], _, k => .inr k
  | (b, a) :: r, m, k => match red (bl b) k (b, a, 2 ^ m) with
    | (b', a', s) => if b' = 0 then (if a' = 1 then .inl s else putAll r (m + 1) k) else putAll r (m + 1) (k ++ [(bl b', (b', a', s))])
theorem putAll_ok {B A : Nat → Nat} : ∀ (R : List (Nat × Nat)) (m : Nat) (k : KRows), KOk B A m k → (∀ i p, R[i]? = some p → B (m + i) = p.1 ∧ A (m + i) = p.2 ∧ p.2 < 2) →
    (∀ s, putAll R m k = .inl s → s < 2 ^ (m + R.length) ∧ sel B s (m + R.length) = 0 ∧ sel A s (m + R.length) = 1) ∧ (∀ k', putAll R m k = .inr k' → KOk B A (m + R.length) k')
  | [], m, k, K, _ => ⟨fun s h => (by cases h), fun k' h => (by cases h; exact K)⟩
  | (b, a) :: R, m, k, K, hR => by
    obtain ⟨e1, e2, e3⟩ := hR 0 (b, a) rfl
    dsimp only at e1 e2 e3
    rw [Nat.add_zero] at e1 e2
    have hR' : ∀ i p, R[i]? = some p → B (m + 1 + i) = p.1 ∧ A (m + 1 + i) = p.2 ∧ p.2 < 2 := fun i p h => by
      have z := hR (i + 1) p h
      rw [show m + 1 + i = m + (i + 1) by omega]
      exact z
    have hlen : m + ((b, a) :: R).length = m + 1 + R.length := by rw [List.length_cons]; omega
    rw [hlen]
    cases hr : red (bl b) k (b, a, 2 ^ m) with
    | mk b' q =>
      obtain ⟨a', s'⟩ := q
      have hr2 : red (bl (B m)) k (B m, A m, 2 ^ m) = (b', a', s') := by rw [e1, e2]; exact hr
      obtain ⟨z1, z2, z3, z4, z5, z6⟩ := put_ok K (by rw [e2]; exact e3) hr2
      have hunf : putAll ((b, a) :: R) m k = if b' = 0 then (if a' = 1 then .inl s' else putAll R (m + 1) k) else putAll R (m + 1) (k ++ [(bl b', (b', a', s'))]) := by
        conv => lhs; unfold putAll
        rw [hr]
      rw [hunf]
      by_cases hb : b' = 0
      · rw [if_pos hb]
        by_cases ha : a' = 1
        · rw [if_pos ha]
          refine ⟨fun s h => ?_, fun k' h => by cases h⟩
          have es : s' = s := Sum.inl.inj h
          subst es
          refine ⟨Nat.lt_of_lt_of_le z2 (Nat.pow_le_pow_right (by decide) (Nat.le_add_right _ _)), ?_, ?_⟩
          · rw [sel_more z2, z3, hb]
          · rw [sel_more z2, z4, ha]
        · rw [if_neg ha]
          exact putAll_ok R (m + 1) k (z5 hb (by omega)) hR'
      · rw [if_neg hb]
        exact putAll_ok R (m + 1) _ (z6 hb) hR'

/-! ### a choice for rows of unlike lengths -/
def stepC (c : Nat) (r : Nat × Nat) : Nat := if par (r.1 &&& c) ≠ (r.2 == 1) then c ||| 2 ^ (bl r.1 - 1) else c
theorem and_pow_zero {b k : Nat} (h : b < 2 ^ k) : b &&& 2 ^ k = 0 := by
  refine Nat.eq_of_testBit_eq fun i => ?_
  rw [Nat.testBit_and, Nat.testBit_two_pow, Nat.zero_testBit]
  by_cases e : k = i
  · subst e
    rw [Nat.testBit_lt_two_pow h]
    rfl
  · simp [e]
theorem and_top {b : Nat} (h : b ≠ 0) : b &&& 2 ^ (bl b - 1) = 2 ^ (bl b - 1) := by
  refine Nat.eq_of_testBit_eq fun i => ?_
  rw [Nat.testBit_and, Nat.testBit_two_pow]
  by_cases e : bl b - 1 = i
  · subst e
    rw [bl_top h]
    simp
  · simp [e]
theorem par_pow (k : Nat) : par (2 ^ k) = true := by
  have h := par_shift 1 k
  rw [Nat.one_mul] at h
  rw [h, par_one]
theorem or_pow {c k : Nat} (h : c < 2 ^ k) : c ||| 2 ^ k = c ^^^ 2 ^ k := by
  refine Nat.eq_of_testBit_eq fun i => ?_
  rw [Nat.testBit_or, Nat.testBit_xor, Nat.testBit_two_pow]
  by_cases e : k = i
  · subst e
    rw [Nat.testBit_lt_two_pow h]
    simp
  · simp [e]
theorem stepC_keeps {c b a : Nat} (hb : b ≠ 0) (hc : c < 2 ^ (bl b - 1)) : kp (stepC c (b, a)) b a ∧ stepC c (b, a) < 2 ^ bl b ∧ ∀ b' a', b' < 2 ^ (bl b - 1) → (kp (stepC c (b, a)) b' a' ↔ kp c b' a') := by
  have p0 := bl_pos hb
  have hup : (2 : Nat) ^ (bl b - 1) ≤ 2 ^ bl b := Nat.pow_le_pow_right (by decide) (by omega)
  have hlt : (2 : Nat) ^ (bl b - 1) < 2 ^ bl b := Nat.pow_lt_pow_right (by decide) (by omega)
  unfold stepC
  by_cases h : par (b &&& c) ≠ (a == 1)
  · rw [if_pos h, or_pow hc]
    refine ⟨?_, xor_lt (Nat.lt_of_lt_of_le hc hup) hlt, fun b' a' h' => ?_⟩
    · unfold kp
      rw [Nat.and_xor_distrib_left, par_xor, and_top hb, par_pow]
      revert h
      cases par (b &&& c) <;> cases (a == 1) <;> simp
    · unfold kp
      rw [Nat.and_xor_distrib_left, par_xor, and_pow_zero h', par_zero]
      simp
  · rw [if_neg h]
    refine ⟨by simpa [kp] using h, Nat.lt_of_lt_of_le hc hup, fun b' a' _ => Iff.rfl⟩
/-- along rows whose lengths ascend -/
theorem foldC_ok : ∀ (R : List (Nat × Nat)) (c w : Nat), c < 2 ^ w → (∀ r ∈ R, r.1 ≠ 0 ∧ w < bl r.1) → (R.map fun r => bl r.1).Pairwise (· < ·) →
    (∀ b a, b < 2 ^ w → (kp (R.foldl stepC c) b a ↔ kp c b a)) ∧ ∀ r ∈ R, kp (R.foldl stepC c) r.1 r.2
  | [], c, w, _, _, _ => ⟨fun _ _ _ => Iff.rfl, fun r h => by cases h⟩
  | (b, a) :: R, c, w, hc, hR, hp => by
    obtain ⟨hb, hw⟩ := hR (b, a) List.mem_cons_self
    dsimp only at hb hw
    obtain ⟨p1, p2⟩ := List.pairwise_cons.mp hp
    have hw1 : (2 : Nat) ^ w ≤ 2 ^ (bl b - 1) := Nat.pow_le_pow_right (by decide) (by omega)
    obtain ⟨s1, s2, s3⟩ := stepC_keeps (a := a) hb (Nat.lt_of_lt_of_le hc hw1)
    obtain ⟨i1, i2⟩ := foldC_ok R (stepC c (b, a)) (bl b) s2 (fun r hr => ⟨(hR r (List.mem_cons_of_mem _ hr)).1, p1 _ (List.mem_map.mpr ⟨r, hr, rfl⟩)⟩) p2
    rw [List.foldl_cons]
    refine ⟨fun b' a' h' => ?_, fun r hr => ?_⟩
    · rw [i1 b' a' (Nat.lt_of_lt_of_le h' (Nat.pow_le_pow_right (by decide) (by omega)))]
      exact s3 b' a' (Nat.lt_of_lt_of_le h' hw1)
    · rcases List.mem_cons.mp hr with e | e
      · subst e
        exact (i1 b a (lt_bl b)).mpr s1
      · exact i2 r e
theorem foldC_lt : ∀ (R : List (Nat × Nat)) (c n : Nat), c < 2 ^ n → (∀ r ∈ R, bl r.1 ≤ n ∧ r.1 ≠ 0) → R.foldl stepC c < 2 ^ n
  | [], _, _, h, _ => h
  | (b, a) :: R, c, n, h, hR => by
    rw [List.foldl_cons]
    refine foldC_lt R _ n ?_ fun r hr => hR r (List.mem_cons_of_mem _ hr)
    obtain ⟨h1, h2⟩ := hR (b, a) List.mem_cons_self
    have p0 := bl_pos h2
    unfold stepC
    split
    · exact Nat.or_lt_two_pow h (Nat.pow_lt_pow_right (by decide) (show bl b - 1 < n by have : bl b ≤ n := h1; have : 0 < bl b := p0; omega))
    · exact h
/-- .. in any order there is one -/
theorem exists_c : ∀ (n : Nat) (R : List (Nat × Nat)), (∀ r ∈ R, r.1 ≠ 0 ∧ bl r.1 ≤ n) → (R.map fun r => bl r.1).Nodup → ∃ c, c < 2 ^ n ∧ ∀ r ∈ R, kp c r.1 r.2
  | 0, R, hR, _ => ⟨0, by decide, fun r hr => by
      obtain ⟨h1, h2⟩ := hR r hr
      have := bl_pos h1
      omega⟩
  | n + 1, R, hR, nd => by
    have hsub : ((R.filter fun r => decide (bl r.1 ≤ n)).map fun r => bl r.1).Nodup := (List.Sublist.map _ List.filter_sublist).nodup nd
    obtain ⟨c, hc, hk⟩ := exists_c n (R.filter fun r => decide (bl r.1 ≤ n)) (fun r hr => by
      obtain ⟨h1, h2⟩ := List.mem_filter.mp hr
      exact ⟨(hR r h1).1, of_decide_eq_true h2⟩) hsub
    by_cases hx : ∃ r ∈ R, bl r.1 = n + 1
    · obtain ⟨⟨b, a⟩, hr, e⟩ := hx
      dsimp only at e
      have hb := (hR _ hr).1
      dsimp only at hb
      obtain ⟨s1, s2, s3⟩ := stepC_keeps (c := c) (a := a) hb (by rw [e]; exact hc)
      refine ⟨stepC c (b, a), by rw [← e]; exact s2, fun r hr2 => ?_⟩
      by_cases hle : bl r.1 ≤ n
      · refine (s3 r.1 r.2 ?_).mpr (hk r (List.mem_filter.mpr ⟨hr2, decide_eq_true hle⟩))
        rw [e]
        exact Nat.lt_of_lt_of_le (lt_bl r.1) (Nat.pow_le_pow_right (by decide) hle)
      · have e2 : bl r.1 = bl b := by have := (hR r hr2).2; omega
        have er : r = (b, a) := by
          obtain ⟨i, hi, qi⟩ := List.getElem_of_mem hr2
          obtain ⟨j, hj, qj⟩ := List.getElem_of_mem hr
          have hij : i = j := by
            have z := (List.getElem_inj (h₀ := by rw [List.length_map]; exact hi) (h₁ := by rw [List.length_map]; exact hj) nd).mp (by rw [List.getElem_map, List.getElem_map, qi, qj]; exact e2)
            exact z
          subst hij
          rw [← qi, qj]
        subst er
        exact s1
    · refine ⟨c, Nat.lt_of_lt_of_le hc (Nat.pow_le_pow_right (by decide) (Nat.le_succ n)), fun r hr => hk r (List.mem_filter.mpr ⟨hr, decide_eq_true ?_⟩)⟩
      have h1 := (hR r hr).2
      have h2 : bl r.1 ≠ n + 1 := fun e => hx ⟨r, hr, e⟩
      omega
end Bits

/-! Own mathematics, part C: the choice that solve_rows makes; masks over lists of names. -/
namespace Bits
/-- the lengths of the kept rows, ascending -/
def wds (k : KRows) : List Nat := (List.range 1001).filter fun w => (look k w).isSome
theorem look_of {k : KRows} (nd : (k.map (·.1)).Nodup) {w : Nat} {r : Rw} (h : (w, r) ∈ k) : look k w = some r := by
  induction k with
  | nil => cases h
  | cons p k ih =>
    obtain ⟨d1, d2⟩ := List.nodup_cons.mp (show (p.1 :: k.map (·.1)).Nodup from nd)
    unfold look
    rw [List.find?_cons]
    by_cases e : p.1 = w
    · rcases List.mem_cons.mp h with z | z
      · subst z; simp
      · exact absurd (List.mem_map.mpr ⟨(w, r), z, rfl⟩) (by rw [← e]; exact d1)
    · rw [decide_eq_false e]
      rcases List.mem_cons.mp h with z | z
      · subst z; exact absurd rfl e
      · exact ih d2 z
theorem mem_wds {k : KRows} (hk : ∀ p ∈ k, p.1 ≤ 1000) (nd : (k.map (·.1)).Nodup) {w : Nat} : w ∈ wds k ↔ w ∈ k.map (·.1) := by
  unfold wds
  rw [List.mem_filter, List.mem_range]
  constructor
  · intro ⟨_, h⟩
    obtain ⟨r, hr⟩ := Option.isSome_iff_exists.mp h
    exact List.mem_map.mpr ⟨(w, r), look_some hr, rfl⟩
  · intro h
    obtain ⟨p, hp, rfl⟩ := List.mem_map.mp h
    refine ⟨by have := hk p hp; omega, ?_⟩
    rw [look_of nd (r := p.2) hp]
    rfl
theorem wds_asc (k : KRows) : (wds k).Pairwise (· < ·) := List.Pairwise.filter _ List.pairwise_lt_range
/-- what solve_rows does with the row of the length w -/
def stepW (k : KRows) (c w : Nat) : Nat := match look k w with
  | some (b, a, _) => stepC c (b, a)
  | none => c
def solveM (k : KRows) : Nat := (wds k).foldl (stepW k) 0
/-- the kept rows in the order of their lengths -/
def rowsOf (k : KRows) : List (Nat × Nat) := (wds k).filterMap fun w => (look k w).map fun r => (r.1, r.2.1)
theorem fold_rows (k : KRows) : ∀ (l : List Nat) (c : Nat), l.foldl (stepW k) c = (l.filterMap fun w => (look k w).map fun r => (r.1, r.2.1)).foldl stepC c
  | [], _ => rfl
  | w :: l, c => by
    rw [List.foldl_cons, List.filterMap_cons]
    unfold stepW
    cases h : look k w with
    | none => exact fold_rows k l c
    | some r => exact fold_rows k l _
theorem solve_ok {k : KRows} (nd : (k.map (·.1)).Nodup) {n : Nat} (hn : n ≤ 1000) (hk : ∀ p ∈ k, p.1 = bl p.2.1 ∧ p.2.1 ≠ 0 ∧ p.1 ≤ n) :
    solveM k < 2 ^ n ∧ ∀ p ∈ k, kp (solveM k) p.2.1 p.2.2.1 := by
  have hr : ∀ r ∈ rowsOf k, r.1 ≠ 0 ∧ bl r.1 ≤ n := by
    intro r h
    obtain ⟨w, _, e⟩ := List.mem_filterMap.mp h
    cases q : look k w with
    | none => rw [q] at e; cases e
    | some z =>
      rw [q] at e
      have e' := Option.some.inj e
      subst e'
      obtain ⟨h1, h2, h3⟩ := hk _ (look_some q)
      dsimp only at h1 h2 h3 ⊢
      exact ⟨h2, by rw [← h1]; exact h3⟩
  have hw : (rowsOf k).map (fun r => bl r.1) = wds k := by
    unfold rowsOf
    have all : ∀ w ∈ wds k, ∃ r, look k w = some r ∧ bl r.1 = w := fun w h => by
      have h2 := (List.mem_filter.mp h).2
      obtain ⟨r, hr⟩ := Option.isSome_iff_exists.mp h2
      exact ⟨r, hr, (hk _ (look_some hr)).1.symm⟩
    generalize wds k = l at all
    induction l with
    | nil => rfl
    | cons w l ih =>
      obtain ⟨r, h1, h2⟩ := all w List.mem_cons_self
      rw [List.filterMap_cons, h1]
      show bl r.1 :: _ = _
      rw [h2, ih fun x hx => all x (List.mem_cons_of_mem _ hx)]
  have e : solveM k = (rowsOf k).foldl stepC 0 := fold_rows k _ 0
  rw [e]
  refine ⟨foldC_lt _ 0 n (Nat.two_pow_pos n) fun r h => ⟨(hr r h).2, (hr r h).1⟩, fun p hp => ?_⟩
  obtain ⟨_, z⟩ := foldC_ok (rowsOf k) 0 0 (by decide) (fun r h => ⟨(hr r h).1, bl_pos (hr r h).1⟩) (by rw [hw]; exact wds_asc k)
  refine z (p.2.1, p.2.2.1) (List.mem_filterMap.mpr ⟨p.1, ?_, ?_⟩)
  · exact (mem_wds (fun q hq => Nat.le_trans (hk q hq).2.2 hn) nd).mpr (List.mem_map.mpr ⟨p, hp, rfl⟩)
  · rw [look_of nd (r := p.2) hp]
    rfl

/-! ### sums over two along a list -/
/-- whether an odd number of the items is so -/
def XA {α : Type} (f : α → Bool) : List α → Bool
  | [] => false
  | x :: l => f x ^^ XA f l
theorem XA_congr {α : Type} {f g : α → Bool} : ∀ {l : List α}, (∀ x ∈ l, f x = g x) → XA f l = XA g l
  | [], _ => rfl
  | x :: l, h => by
    unfold XA
    rw [h x List.mem_cons_self, XA_congr fun y hy => h y (List.mem_cons_of_mem _ hy)]
theorem XA_false {α : Type} {f : α → Bool} : ∀ {l : List α}, (∀ x ∈ l, f x = false) → XA f l = false
  | [], _ => rfl
  | x :: l, h => by
    unfold XA
    rw [h x List.mem_cons_self, XA_false fun y hy => h y (List.mem_cons_of_mem _ hy)]
    rfl
theorem XA_filter {α : Type} {f r : α → Bool} : ∀ {l : List α}, (∀ x ∈ l, f x = true → r x = true) → XA f (l.filter r) = XA f l
  | [], _ => rfl
  | x :: l, h => by
    have ih := XA_filter (f := f) (r := r) (l := l) fun y hy => h y (List.mem_cons_of_mem _ hy)
    rw [List.filter_cons]
    cases hr : r x with
    | true => rw [if_pos rfl]; unfold XA; rw [ih]
    | false =>
      rw [if_neg Bool.false_ne_true, ih]
      have hf : f x = false := by
        cases e : f x with
        | false => rfl
        | true => rw [h x List.mem_cons_self e] at hr; cases hr
      show _ = (f x ^^ XA f l)
      rw [hf, Bool.false_xor]
theorem XA_append {α : Type} (f : α → Bool) : ∀ l m : List α, XA f (l ++ m) = (XA f l ^^ XA f m)
  | [], m => by simp [XA]
  | x :: l, m => by
    show (f x ^^ XA f (l ++ m)) = ((f x ^^ XA f l) ^^ XA f m)
    rw [XA_append f l m, Bool.xor_assoc]
/-- the bits of a list of answers, the first one lowest -/
def mk : List Bool → Nat
  | [] => 0
  | b :: l => (if b then 1 else 0) + 2 * mk l
theorem mk_bit : ∀ (l : List Bool) (i : Nat), (mk l).testBit i = l.getD i false
  | [], i => by simp [mk]
  | b :: l, 0 => by
    rw [Nat.testBit_zero]
    unfold mk
    cases b <;> simp <;> omega
  | b :: l, i + 1 => by
    rw [Nat.testBit_succ]
    have e : mk (b :: l) / 2 = mk l := by
      show ((if b then 1 else 0) + 2 * mk l) / 2 = mk l
      cases b <;> simp <;> omega
    rw [e, mk_bit l i]
    rfl
theorem mk_lt : ∀ l : List Bool, mk l < 2 ^ l.length
  | [] => by decide
  | b :: l => by
    have := mk_lt l
    unfold mk
    rw [List.length_cons, Nat.pow_succ]
    cases b <;> simp <;> omega
/-- which of the names are so, as bits -/
def msk {α : Type} (f : α → Bool) (N : List α) : Nat := mk (N.map f)
theorem msk_bit {α : Type} (f : α → Bool) (N : List α) (i : Nat) : (msk f N).testBit i = (N[i]?.map f).getD false := by
  unfold msk
  rw [mk_bit, List.getD_eq_getElem?_getD, List.getElem?_map]
theorem msk_lt {α : Type} (f : α → Bool) (N : List α) : msk f N < 2 ^ N.length := by
  have h := mk_lt (N.map f)
  rw [List.length_map] at h
  exact h
theorem par_mk : ∀ l : List Bool, par (mk l) = XA id l
  | [] => par_zero
  | b :: l => by
    unfold mk XA
    rw [par_step]
    have e1 : ((if b then 1 else 0) + 2 * mk l) / 2 = mk l := by cases b <;> simp <;> omega
    have e2 : (((if b then 1 else 0) + 2 * mk l) % 2 == 1) = b := by cases b <;> simp <;> omega
    rw [e1, e2, par_mk l]
    rfl
theorem XA_map {α β : Type} (f : β → Bool) (g : α → β) : ∀ l : List α, XA f (l.map g) = XA (fun x => f (g x)) l
  | [] => rfl
  | x :: l => by
    rw [List.map_cons]
    unfold XA
    rw [XA_map f g l]
theorem msk_and {α : Type} (f g : α → Bool) (N : List α) : msk f N &&& msk g N = msk (fun x => f x && g x) N := by
  refine Nat.eq_of_testBit_eq fun i => ?_
  rw [Nat.testBit_and, msk_bit, msk_bit, msk_bit]
  cases N[i]? <;> rfl
theorem par_msk {α : Type} (f : α → Bool) (N : List α) : par (msk f N) = XA f N := by
  unfold msk
  rw [par_mk, XA_map]
  rfl
theorem par_and {α : Type} (f g : α → Bool) (N : List α) : par (msk f N &&& msk g N) = XA (fun x => f x && g x) N := by rw [msk_and, par_msk]
/-- any number of so many bits is such a mask, by the places -/
theorem msk_of {b : Nat} {n : Nat} (h : b < 2 ^ n) : b = msk (fun i => b.testBit i) (List.range n) := by
  refine Nat.eq_of_testBit_eq fun i => ?_
  rw [msk_bit]
  by_cases hi : i < n
  · rw [List.getElem?_range hi]
    rfl
  · rw [List.getElem?_eq_none (by rw [List.length_range]; omega)]
    exact Nat.testBit_lt_two_pow (Nat.lt_of_lt_of_le h (Nat.pow_le_pow_right (by decide) (by omega)))
end Bits

/-! The rows with their number as the lowest bit: a walk down the steps, and whether a choice is left. -/
namespace Bits
def fi (c r : Nat) : Bool := par (r &&& c)
theorem fi_xor (c a b : Nat) : fi c (a ^^^ b) = (fi c a ^^ fi c b) := by
  unfold fi
  rw [Nat.and_xor_distrib_right, par_xor]
theorem fi_zero (c : Nat) : fi c 0 = false := by unfold fi; rw [Nat.zero_and, par_zero]
theorem two_parts (b a : Nat) (h : a < 2) : (2 * b + a) % 2 = a ∧ (2 * b + a) / 2 = b := ⟨by omega, by omega⟩
theorem fi_odd {c b a : Nat} (h : a < 2) : fi (2 * c + 1) (2 * b + a) = ph c b a := by
  unfold fi ph
  rw [par_step]
  have h1 : ((2 * b + a) &&& (2 * c + 1)) % 2 = a := by
    have z := Nat.and_mod_two_pow (a := 2 * b + a) (b := 2 * c + 1) (n := 1)
    rw [Nat.pow_one] at z
    rw [z]
    have e1 : (2 * b + a) % 2 = a := by omega
    have e2 : (2 * c + 1) % 2 = 1 := by omega
    rw [e1, e2, Nat.and_one_is_mod]
    omega
  have h2 : ((2 * b + a) &&& (2 * c + 1)) / 2 = b &&& c := by
    rw [Nat.and_div_two]
    congr 1 <;> omega
  rw [h1, h2]
  exact Bool.xor_comm _ _
theorem fi_one {c : Nat} (h : c % 2 = 1) : fi c 1 = true := by
  unfold fi
  rw [Nat.and_comm, Nat.and_one_is_mod, h, par_one]
theorem odd_form {c : Nat} (h : c % 2 = 1) : c = 2 * (c / 2) + 1 := by omega

/-- steps: width to row and lot -/
abbrev Steps := List (Nat × (Nat × Nat))
def look2 (S : Steps) (w : Nat) : Option (Nat × Nat) := (S.find? fun p => decide (p.1 = w)).map (·.2)
theorem look2_some {S : Steps} {w : Nat} {r : Nat × Nat} (h : look2 S w = some r) : (w, r) ∈ S := by
  unfold look2 at h
  cases e : S.find? fun p => decide (p.1 = w) with
  | none => rw [e] at h; cases h
  | some q =>
    rw [e] at h
    obtain rfl := Option.some.inj h
    have h1 := List.find?_some e
    have h2 : q.1 = w := of_decide_eq_true h1
    rw [← h2]
    exact List.mem_of_find?_eq_some e
theorem look2_none {S : Steps} {w : Nat} (h : look2 S w = none) : w ∉ S.map (·.1) := by
  intro hw
  obtain ⟨p, hp, e⟩ := List.mem_map.mp hw
  unfold look2 at h
  have h1 := List.find?_eq_none.mp (Option.map_eq_none_iff.mp h) p hp
  exact h1 (decide_eq_true e)
structure StOk (rows : List Nat) (S : Steps) (C : List (Nat × Nat)) : Prop where
  fwd : ∀ c, (∀ r ∈ rows, fi c r = false) → (∀ p ∈ S, fi c p.2.1 = false) ∧ (∀ q ∈ C, fi c q.1 = false)
  bwd : ∀ c, (∀ p ∈ S, fi c p.2.1 = false) → (∀ q ∈ C, fi c q.1 = false) → ∀ r ∈ rows, fi c r = false
  nd : (S.map (·.1)).Nodup
  row : ∀ p ∈ S, p.1 = bl p.2.1 ∧ 2 ≤ p.2.1
  cl : ∀ q ∈ C, q.1 < 2
theorem stOk_nil : StOk [] [] [] := ⟨fun _ _ => ⟨(fun p hp => by cases hp), fun q hq => by cases hq⟩, fun _ _ _ r hr => (by cases hr), List.nodup_nil, (fun p hp => by cases hp), fun q hq => by cases hq⟩
theorem StOk.close {rows : List Nat} {S : Steps} {C : List (Nat × Nat)} (h : StOk rows S C) {r r' l' : Nat} (e : ∀ c, (∀ p ∈ S, fi c p.2.1 = false) → fi c r' = fi c r) (hr : r' < 2) : StOk (rows ++ [r]) S (C ++ [(r', l')]) :=
  ⟨fun c hc => by
    obtain ⟨z1, z2⟩ := h.fwd c fun y hy => hc y (List.mem_append_left _ hy)
    refine ⟨z1, fun q hq => ?_⟩
    rcases List.mem_append.mp hq with hq | hq
    · exact z2 q hq
    · rw [List.mem_singleton.mp hq]
      dsimp only
      rw [e c z1]
      exact hc r (List.mem_append_right _ (List.mem_singleton.mpr rfl)),
   fun c h1 h2 y hy => by
    rcases List.mem_append.mp hy with hy | hy
    · exact h.bwd c h1 (fun q hq => h2 q (List.mem_append_left _ hq)) y hy
    · rw [List.mem_singleton.mp hy, ← e c h1]
      exact h2 (r', l') (List.mem_append_right _ (List.mem_singleton.mpr rfl)),
   h.nd, h.row, fun q hq => by
    rcases List.mem_append.mp hq with hq | hq
    · exact h.cl q hq
    · rw [List.mem_singleton.mp hq]; exact hr⟩
theorem StOk.step {rows : List Nat} {S : Steps} {C : List (Nat × Nat)} (h : StOk rows S C) {r r' l' : Nat} (e : ∀ c, (∀ p ∈ S, fi c p.2.1 = false) → fi c r' = fi c r) (hr : 2 ≤ r') (hl : look2 S (bl r') = none) : StOk (rows ++ [r]) (S ++ [(bl r', (r', l'))]) C :=
  ⟨fun c hc => by
    obtain ⟨z1, z2⟩ := h.fwd c fun y hy => hc y (List.mem_append_left _ hy)
    refine ⟨fun p hp => ?_, z2⟩
    rcases List.mem_append.mp hp with hp | hp
    · exact z1 p hp
    · rw [List.mem_singleton.mp hp]
      dsimp only
      rw [e c z1]
      exact hc r (List.mem_append_right _ (List.mem_singleton.mpr rfl)),
   fun c h1 h2 y hy => by
    have h1' : ∀ p ∈ S, fi c p.2.1 = false := fun p hp => h1 p (List.mem_append_left _ hp)
    rcases List.mem_append.mp hy with hy | hy
    · exact h.bwd c h1' h2 y hy
    · rw [List.mem_singleton.mp hy, ← e c h1']
      exact h1 (bl r', (r', l')) (List.mem_append_right _ (List.mem_singleton.mpr rfl)),
   by
    rw [List.map_append]
    refine (List.perm_append_singleton _ _).nodup_iff.mpr (List.nodup_cons.mpr ⟨look2_none hl, h.nd⟩),
   fun p hp => by
    rcases List.mem_append.mp hp with hp | hp
    · exact h.row p hp
    · rw [List.mem_singleton.mp hp]; exact ⟨rfl, hr⟩, h.cl⟩
theorem bl_half {b a : Nat} (ha : a < 2) (h : 2 ≤ 2 * b + a) : bl (2 * b + a) = bl b + 1 := by
  have hb : b ≠ 0 := by omega
  unfold bl
  rw [if_neg (by omega), if_neg hb]
  congr 1
  have : Nat.log2 (2 * b + a) = Nat.log2 ((2 * b + a) / 2) + 1 := by
    rw [Nat.log2_def]
    rw [if_pos h]
  rw [this, show (2 * b + a) / 2 = b by omega]
theorem le_sum {x : Nat} : ∀ {l : List Nat}, x ∈ l → x ≤ l.sum
  | y :: l, h => by
    rw [List.sum_cons]
    rcases List.mem_cons.mp h with e | e
    · omega
    · have := le_sum e; omega
/-- no closed row says 1: a choice is left -/
theorem StOk.free {rows : List Nat} {S : Steps} {C : List (Nat × Nat)} (h : StOk rows S C) (hc : ∀ q ∈ C, q.1 ≠ 1) : ∃ c, ∀ r ∈ rows, fi (2 * c + 1) r = false := by
  have hw : ∀ p ∈ S, ∃ b a, p.2.1 = 2 * b + a ∧ a < 2 := fun p _ => ⟨p.2.1 / 2, p.2.1 % 2, by omega, by omega⟩
  obtain ⟨n, hn⟩ : ∃ n, ∀ p ∈ S, p.1 ≤ n := by
    refine ⟨(S.map (·.1)).sum, fun p hp => ?_⟩
    exact le_sum (List.mem_map.mpr ⟨p, hp, rfl⟩)
  obtain ⟨c, _, hk⟩ := exists_c n (S.map fun p => (p.2.1 / 2, p.2.1 % 2)) (fun r hr => by
    obtain ⟨p, hp, rfl⟩ := List.mem_map.mp hr
    obtain ⟨g1, g2⟩ := h.row p hp
    dsimp only
    refine ⟨by omega, ?_⟩
    have z := bl_half (b := p.2.1 / 2) (a := p.2.1 % 2) (by omega) (by omega)
    rw [show 2 * (p.2.1 / 2) + p.2.1 % 2 = p.2.1 by omega] at z
    have := hn p hp
    omega) (by
    rw [List.map_map]
    have e : S.map ((fun r : Nat × Nat => bl r.1) ∘ fun p => (p.2.1 / 2, p.2.1 % 2)) = (S.map (·.1)).map fun w => w - 1 := by
      rw [List.map_map]
      refine List.map_congr_left fun p hp => ?_
      obtain ⟨g1, g2⟩ := h.row p hp
      show bl (p.2.1 / 2) = p.1 - 1
      have z := bl_half (b := p.2.1 / 2) (a := p.2.1 % 2) (by omega) (by omega)
      rw [show 2 * (p.2.1 / 2) + p.2.1 % 2 = p.2.1 by omega] at z
      omega
    rw [e]
    have hpos : ∀ w ∈ S.map (·.1), 0 < w := fun w hw => by
      obtain ⟨p, hp, rfl⟩ := List.mem_map.mp hw
      obtain ⟨g1, g2⟩ := h.row p hp
      rw [g1]
      exact bl_pos (by omega)
    have nd := h.nd
    unfold List.Nodup at nd ⊢
    rw [List.pairwise_map]
    refine List.Pairwise.imp_of_mem (fun {a b} ha hb hab => ?_) nd
    have h1 := hpos a ha
    have h2 := hpos b hb
    omega)
  refine ⟨c, h.bwd (2 * c + 1) (fun p hp => ?_) fun q hq => ?_⟩
  · have z := hk _ (List.mem_map.mpr ⟨p, hp, rfl⟩)
    dsimp only at z
    rw [show p.2.1 = 2 * (p.2.1 / 2) + p.2.1 % 2 by omega, fi_odd (by omega)]
    exact kp_ph.mp z
  · have h1 := h.cl q hq
    have h2 := hc q hq
    have : q.1 = 0 := by omega
    rw [this, fi_zero]
/-- some closed row says 1: none is left -/
theorem StOk.clash {rows : List Nat} {S : Steps} {C : List (Nat × Nat)} (h : StOk rows S C) {q : Nat × Nat} (hq : q ∈ C) (h1 : q.1 = 1) (c : Nat) (hc : ∀ r ∈ rows, fi (2 * c + 1) r = false) : False := by
  have z := (h.fwd _ hc).2 q hq
  rw [h1, fi_one (by omega)] at z
  cases z
end Bits

/-! Own rules, part A: sets of keys with their walk, set comprehensions (one and two clauses), sorted of such sets. -/
namespace Own
open PySem PySem.Spec PyProof.Rows L2

/-- the key that stands in an entry of a set's table -/
def entKey (en : Int × Value) : Key := match en.2 with
  | .int i _ => Sum.inl i
  | .str z _ => Sum.inr z
  | _ => Sum.inl 0
def EntOk (w : World) (en : Int × Value) : Prop := ∃ q : Key, keyIs q en.2 = true ∧ en.1 = keyH w q

theorem entKey_of {en : Int × Value} {q : Key} (hk : keyIs q en.2 = true) : entKey en = q := by
  obtain ⟨i, t, rfl, e⟩ | ⟨z, t, rfl, e⟩ := keyIs_shape hk <;> (unfold entKey; rw [e])

/-- a set whose members are just the keys of a list (in some order) -/
def KSet (w : World) (h : Heap) (a : Addr) (ks : List Key) : Prop :=
  ∃ ob es ep tb, h.get? a = some ob ∧ ob.ExactSet ∧ ob.data = .set es ep tb ∧ (∀ en ∈ es.toList, EntOk w en) ∧ (es.toList.map entKey).Perm ks ∧ ks.Nodup ∧
    es.size < scanBound ∧ tb.fits es.size = true ∧ Ris tb.place.toList ∧ (w.params.followText "set-order" = true ∨ tb.led = true)
/-- is it among them -/
def hasK (ks : List Key) (q : Key) : Bool := ks.any fun k => decide (k = q)
theorem hasK_iff {ks : List Key} {q : Key} : hasK ks q = true ↔ q ∈ ks := by
  unfold hasK
  rw [List.any_eq_true]
  constructor
  · intro ⟨x, hx, e⟩
    rw [← of_decide_eq_true e]
    exact hx
  · intro hq
    exact ⟨q, hq, decide_eq_true rfl⟩
theorem hasK_no {ks : List Key} {q : Key} (h : q ∉ ks) : hasK ks q = false := by
  cases e : hasK ks q with
  | false => rfl
  | true => exact absurd (hasK_iff.mp e) h
def addK (ks : List Key) (q : Key) : List Key := if hasK ks q = true then ks else ks ++ [q]

section
variable {P : Program} {w : World} {h h' : Heap} {a : Addr} {ks : List Key}
theorem KSet.keep (R : KSet w h a ks) (k : ∀ ob, h.get? a = some ob → h'.get? a = some ob) : KSet w h' a ks := by
  obtain ⟨ob, es, ep, tb, e, r⟩ := R
  exact ⟨ob, es, ep, tb, k ob e, r⟩
theorem ents_elems {l : List (Int × Value)} (g : ∀ en ∈ l, EntOk w en) : ElemsOf (mixKind P w) l := by
  intro en hen
  obtain ⟨q, h1, h2⟩ := g en hen
  refine ⟨⟨q, h1, h2⟩, ?_⟩
  obtain ⟨i, t, _, e⟩ | ⟨z, t, _, e⟩ := keyIs_shape h1 <;> (rw [e]; rfl)
theorem ent_is {en : Int × Value} (g : EntOk w en) (q : Key) : (mixKind P w).is q en.2 = true ↔ entKey en = q := by
  obtain ⟨q0, h1, _⟩ := g
  constructor
  · intro hq
    exact entKey_of hq
  · intro hq
    rw [entKey_of h1] at hq
    subst hq
    exact h1
theorem ents_mem {l : List (Int × Value)} (g : ∀ en ∈ l, EntOk w en) (q : Key) : q ∈ l.map entKey ↔ ∃ en ∈ l, (mixKind P w).is q en.2 = true := by
  constructor
  · intro hq
    obtain ⟨en, hen, e⟩ := List.mem_map.mp hq
    exact ⟨en, hen, (ent_is (g en hen) q).mpr e⟩
  · intro ⟨en, hen, e⟩
    exact List.mem_map.mpr ⟨en, hen, (ent_is (g en hen) q).mp e⟩
end

section
variable {P : Program} {w : World} {A : Around} {E : Value → Shared → Prop} {s : Shared} {a : Addr} {ks : List Key}

/-- the store behind laying a new entry, whether the table is laid anew or not -/
theorem kset_store {gw : Bool → Sem Unit} (hgw : ∀ (b : Bool) (s1 : Shared) (Q1 : Unit → Shared → Prop), Q1 () s1 → wpAny (model P w) A (gw b) Q1 E s1)
    {ob : Obj} {es : Array (Int × Value)} {ep : Nat} {tb : SetTable} (ho : s.heap.get? a = some ob) (hx : ob.ExactSet) (hd : ob.data = .set es ep tb)
    {es1 : Array (Int × Value)} {t2 : SetTable} {ks' : List Key} (g1 : ∀ en ∈ es1.toList, EntOk w en) (p1 : (es1.toList.map entKey).Perm ks') (n1 : ks'.Nodup)
    (b1 : es1.size < scanBound) (f2 : t2.fits es1.size = true) (r2 : Ris t2.place.toList) (l2 : w.params.followText "set-order" = true ∨ t2.led = true) {dummy : Bool} {R : Option Bool → Shared → Prop}
    (hR : ∀ h', Heap.SameBut a s.heap h' → KSet w h' a ks' → R (some true) { s with heap := h' }) :
    wpAny (model P w) A (do
        storeSet a es1 t2
        if (!dummy && t2.tooFull) = true then do
            gw (relayAll t2 es1 (SetTable.grown es1.size)).2.2
            storeSet a (relayAll t2 es1 (SetTable.grown es1.size)).1 (relayAll t2 es1 (SetTable.grown es1.size)).2.1
            pure (some true)
          else pure (some true)) R E s := by
  refine wpAny_bind (wpAny_storeSet_of ho hd ?goal1 (fits_of_scanBound b1))
  case goal1 =>
  have e1 := L2.store_at (es' := es1) (t' := t2) ho hd
  have sm := Heap.SameBut.update s.heap a (Obj.putSet es1 t2)
  by_cases hfull : (!dummy && t2.tooFull) = true
  · rw [if_pos hfull]
    have q1 := relayAll_perm t2 es1 (SetTable.grown es1.size)
    have q2 := relayAll_fits t2 es1 (SetTable.grown es1.size)
    have q3 := relayAll_ris t2 es1 (SetTable.grown es1.size)
    have q4 := relayAll_led t2 es1 (SetTable.grown es1.size)
    generalize relayAll t2 es1 (SetTable.grown es1.size) = Z at q1 q2 q3 q4 ⊢
    obtain ⟨es2, t3, gave⟩ := Z
    dsimp only at q1 q2 q3 q4 ⊢
    have hs2 : es2.size = es1.size := by rw [← Array.length_toList, q1.length_eq, Array.length_toList]
    have b2 : es2.size < scanBound := by rw [hs2]; exact b1
    refine wpAny_bind (hgw _ _ _ ?_)
    refine wpAny_bind (wpAny_storeSet_of e1 rfl ?_ (fits_of_scanBound b2))
    have e2 := L2.store_at (es' := es2) (t' := t3) e1 rfl
    refine wpAny_pure (hR _ (sm.trans (Heap.SameBut.update _ a _)) ?_)
    exact ⟨_, es2, _, t3, e2, hx, rfl, fun en hen => g1 en (q1.mem_iff.mp hen), (q1.map entKey).trans p1, n1, b2, q2, q3, l2.imp id fun z => by rw [q4]; exact z⟩
  · rw [if_neg hfull]
    exact wpAny_pure (hR _ sm ⟨_, es1, _, t2, e1, hx, rfl, g1, p1, n1, b1, f2, r2, l2⟩)

theorem kset_add_hashed {q : Key} {u : Value} {Q : Bool → Shared → Prop} (hu : keyIs q u = true) (hsc : u.scannable = true) (R : KSet w s.heap a ks) (room : ks.length + 1 < scanBound)
    (hQ : ∀ h', Heap.SameBut a s.heap h' → KSet w h' a (addK ks q) → Q (!hasK ks q) { s with heap := h' }) :
    wpAny (model P w) A (setAddHashed a u ((mixKind P w).hash q)) Q E s := by
  obtain ⟨ob, es, ep, tb, ho, hx, hd, g, pm, nd, hb, hf, hr, hl⟩ := R
  have hkey : (mixKind P w).is q u = true := hu
  have hel : ElemsOf (mixKind P w) es.toList := ents_elems g
  have hsz : es.size = ks.length := by rw [← pm.length_eq, List.length_map, Array.length_toList]
  unfold setAddHashed setAddHashedIn
  refine wpAny_holding (wpAny_bind (wpAny_setState_of ho hd hf ?_))
  dsimp only
  rw [byScan_of hsc hb hel]
  simp only [↓reduceIte]
  unfold setAddByScan
  refine wpAny_bind ?_
  refine wpAny_bind (wpAny_rule ?_)
  refine wpAny_bind (wpAny_setScan_of hkey ho hd hf hel ?_)
  cases hfi : List.findIdx? (fun en => (mixKind P w).is q en.2) es.toList with
  | some j =>
    dsimp only
    obtain ⟨hj, pj, _⟩ := List.findIdx?_eq_some_iff_getElem.mp hfi
    have hin : q ∈ ks := pm.mem_iff.mp ((ents_mem (P := P) (w := w) g q).mpr ⟨es.toList[j], List.getElem_mem hj, pj⟩)
    refine wpAny_pure (wpAny_pure ?_)
    have z := hQ s.heap (Heap.SameBut.refl a s.heap) (by unfold addK; rw [if_pos (hasK_iff.mpr hin)]; exact ⟨ob, es, ep, tb, ho, hx, hd, g, pm, nd, hb, hf, hr, hl⟩)
    rw [hasK_iff.mpr hin] at z
    exact z
  | none =>
    dsimp only
    have hnin : q ∉ ks := fun z => by
      obtain ⟨en, hen, y⟩ := (ents_mem (P := P) (w := w) g q).mp (pm.mem_iff.mpr z)
      have c := List.findIdx?_eq_none_iff.mp hfi en hen
      rw [y] at c
      cases c
    have hgw : ∀ (b : Bool) {s1 : Shared} {Q1 : Unit → Shared → Prop}, Q1 () s1 → wpAny (model P w) A (match b with | true => rule "set.scan.the-table-gave-way" | false => pure ()) Q1 E s1 := by
      intro b s1 Q1 z
      cases b
      · exact wpAny_pure z
      · exact wpAny_rule z
    have a1 := layNew_perm tb es ((mixKind P w).hash q) u
    have a2 := layNew_fits tb es ((mixKind P w).hash q) u
    have a3 := layNew_ris tb es ((mixKind P w).hash q) u hr
    have a4 := layNew_led tb es ((mixKind P w).hash q) u
    generalize layNew tb es ((mixKind P w).hash q) u = Z at a1 a2 a3 a4 ⊢
    obtain ⟨es1, t1, dummy, gave⟩ := Z
    dsimp only at a1 a2 a3 a4 ⊢
    rw [Array.toList_push] at a1
    have c1 : es1.toList.Perm (((mixKind P w).hash q, u) :: es.toList) := a1.trans (List.perm_append_singleton _ _)
    have g1 : ∀ en ∈ es1.toList, EntOk w en := fun en hen => by
      rcases List.mem_cons.mp (c1.mem_iff.mp hen) with z | z
      · rw [z]; exact ⟨q, hu, rfl⟩
      · exact g en z
    have ek : entKey ((mixKind P w).hash q, u) = q := entKey_of hu
    have p1 : (es1.toList.map entKey).Perm (addK ks q) := by
      unfold addK
      rw [if_neg (by rw [hasK_no hnin]; exact Bool.false_ne_true)]
      refine (c1.map entKey).trans ?_
      rw [List.map_cons, ek]
      exact (List.Perm.cons q pm).trans (List.perm_append_singleton q ks).symm
    have n1 : (addK ks q).Nodup := by
      unfold addK
      rw [if_neg (by rw [hasK_no hnin]; exact Bool.false_ne_true)]
      exact (List.perm_append_singleton q ks).nodup_iff.mpr (List.nodup_cons.mpr ⟨hnin, nd⟩)
    have s1 : es1.size = ks.length + 1 := by rw [← Array.length_toList, c1.length_eq, List.length_cons, Array.length_toList, hsz]
    have b1 : es1.size < scanBound := by rw [s1]; exact room
    have l1 : w.params.followText "set-order" = true ∨ t1.led = true := hl.imp id fun z => by rw [a4]; exact z
    have fin : ∀ h', Heap.SameBut a s.heap h' → KSet w h' a (addK ks q) → Q true { s with heap := h' } := fun h' sb r => by
      have z := hQ h' sb r
      rw [hasK_no hnin] at z
      exact z
    refine wpAny_bind (hgw _ ?_)
    split
    · refine wpAny_bind ?_
      rw [hashByValue_scannable 8 hsc]
      refine wpAny_pure ?_
      refine kset_store (fun b s2 Q2 z => hgw b z) ho hx hd g1 p1 n1 b1 ?_ ?_ ?_ ?_
      · first | (split <;> first | exact a2 | exact SetTable.fits_plain_off a2) | exact a2
      · first | (split <;> exact a3) | exact a3
      · first | (split <;> exact l1) | exact l1
      · intro h' sb r; dsimp only; exact wpAny_pure (fin h' sb r)
    · refine wpAny_bind (wpAny_pure ?_)
      simp only [↓reduceIte]
      refine kset_store (fun b s2 Q2 z => hgw b z) ho hx hd g1 p1 n1 b1 a2 a3 l1 ?_
      intro h' sb r; dsimp only; exact wpAny_pure (fin h' sb r)

/-- found.add(x), x a key -/
theorem kset_add {q : Key} {u : Value} {Q : Value → Shared → Prop} (hu : keyIs q u = true) (hsc : u.scannable = true) (R : KSet w s.heap a ks) (room : ks.length + 1 < scanBound)
    (hQ : ∀ h' tk, Heap.SameBut a s.heap h' → KSet w h' a (addK ks q) → Q .none { s with heap := h', toks := tk }) :
    wpAny (model P w) A (call (.builtin "set.add") [.ref a, u]) Q E s := by
  obtain ⟨ob, es, ep, tb, ho, hx, hd, _⟩ := id R
  have hT : s.TypeIs (.ref a) "set" := ⟨ob, ho, hx.1⟩
  refine wpAny_call_entry F.slot_set_add hT F.entry_set_add ?_ (F.args_set_add_2 _ _)
  unfold Builtin.«set.add» Builtin.Frozenset.oneOther
  simp only [List.isEmpty_nil, bind_assoc]
  unfold Builtin.Frozenset.addrOf setAdd
  refine wpAny_bind (wpAny_pure ?_)
  try dsimp only
  refine wpAny_bind (wpAny_pure ?_)
  try dsimp only
  refine wpAny_bind ?_
  refine wpAny_holding ?_
  refine wpAny_bind ((mixKind P w).pyHash (k := q) hu ?_)
  refine kset_add_hashed (s := { s with toks := s.toks + 1 }) hu hsc R room fun h' sb r => ?_
  show wpAny _ _ (ret Value.none) _ _ _
  exact wpAny_pure ⟨_, rfl, hQ h' _ sb r⟩
/-- a new set -/
theorem kset_fresh (w : World) (h : Heap) : KSet w (h.push { cls := .type "set", dict := none, data := .set #[] 0 (.fresh 0 0 (!w.params.followText "set-order")) }) h.objs.size [] := by
  refine ⟨_, #[], 0, _, Heap.get?_push_size _ rfl, ⟨rfl, rfl, rfl⟩, rfl, (fun en hen => by simp at hen), (by simp), List.nodup_nil, (by decide), (by rfl), List.Pairwise.nil, ?_⟩
  show _ ∨ (!w.params.followText "set-order") = true
  cases w.params.followText "set-order"
  · exact .inr rfl
  · exact .inl rfl
end

/-! ### as a tracked thing -/
def KSetO (w : World) (a : Addr) (ks : List Key) : HO := .ext fun h => KSet w h a ks
theorem ksetO_ok {P : Program} {w : World} {H : Hp} {h : Heap} {a : Addr} {ks : List Key} (R : KSet w h a ks) : ObjOk P w H h a (KSetO w a ks) := by
  obtain ⟨ob, _, _, _, ho, _⟩ := id R
  exact ⟨R, ⟨ob, ho⟩, fun h1 h2 p k => p.keep k⟩
section
variable {X : Cx} {pins : List (Addr × Obj)} {σ : L2.St} {H : Hp} {s : Shared} {a : Addr} {ks : List Key}
theorem ksetO_get (I : Inv X pins σ H s) (ha : H a = some (KSetO X.w a ks)) : KSet X.w s.heap a ks := (I.hok a _ ha).1
theorem relK_is {q : Key} {u : Value} (r : RelV (kV q) u) : keyIs q u = true ∧ u.scannable = true := by
  cases q with
  | inl i => obtain ⟨t, rfl⟩ := r; exact ⟨keyIs_int i t, rfl⟩
  | inr z => obtain ⟨t, rfl⟩ := r; exact ⟨keyIs_str z t, rfl⟩
theorem ksetO_add {E : Value → Shared → Prop} {q : Key} {u : Value} {Q : Value → Shared → Prop} (I : Inv X pins σ H s) (ha : H a = some (KSetO X.w a ks)) (r : RelV (kV q) u) (room : ks.length + 1 < scanBound)
    (h : ∀ s', Inv X pins σ (upd H a (KSetO X.w a (addK ks q))) s' → Q .none s') : wpAny (model X.prog X.w) X.A (call (.builtin "set.add") [.ref a, u]) Q E s := by
  obtain ⟨r1, r2⟩ := relK_is r
  refine kset_add r1 r2 (ksetO_get I ha) room fun h' tk sb new => ?_
  have he : ∃ v, h'.get? a = some v := by
    obtain ⟨ob, _, _, _, ho, _⟩ := id new
    exact ⟨ob, ho⟩
  exact h _ (I.write (e := a) (t' := tk) (by rw [ha]; trivial) (.inl rfl) (fun b v hb hv => (sb.2 b hb).trans hv) he (ksetO_ok new))

/-! ### sorted(a set of texts) -/
theorem strs_split : ∀ (vs : List Value) (zs : List PySem.Str), (vs.map fun v => entKey (0, v)) = zs.map Sum.inr → (∀ v ∈ vs, ∃ q : Key, keyIs q v = true) → StrsAre vs zs
  | [], [], _, _ => .nil
  | [], _ :: _, e, _ => by simp at e
  | _ :: _, [], e, _ => by simp at e
  | v :: vs, z :: zs, e, g => by
    obtain ⟨q, hq⟩ := g v List.mem_cons_self
    have e1 : entKey (0, v) = Sum.inr z := by simpa using congrArg List.head? e
    have e2 : (vs.map fun v => entKey (0, v)) = zs.map Sum.inr := by simpa using congrArg List.tail e
    rw [entKey_of (en := (0, v)) hq] at e1
    subst e1
    obtain ⟨i, t, c, _⟩ | ⟨y, t, c, rfl⟩ := keyIs_shape hq
    · cases c
    · cases c
      exact .cons _ t (strs_split vs zs e2 fun u hu => g u (List.mem_cons_of_mem _ hu))
theorem inr_list : ∀ (ks : List Key) (zs : List PySem.Str), ks.Perm (zs.map Sum.inr) → ∃ ys : List PySem.Str, ks = ys.map Sum.inr ∧ ys.Perm zs := by
  intro ks zs p
  have all : ∀ k ∈ ks, ∃ y, k = Sum.inr y := fun k hk => by
    obtain ⟨y, _, e⟩ := List.mem_map.mp (p.mem_iff.mp hk)
    exact ⟨y, e.symm⟩
  have mk : ∀ l : List Key, (∀ k ∈ l, ∃ y, k = Sum.inr y) → ∃ ys : List PySem.Str, l = ys.map Sum.inr := by
    intro l
    induction l with
    | nil => intro _; exact ⟨[], rfl⟩
    | cons k l ih =>
      intro hl
      obtain ⟨y, rfl⟩ := hl k List.mem_cons_self
      obtain ⟨ys, rfl⟩ := ih fun z hz => hl z (List.mem_cons_of_mem _ hz)
      exact ⟨y :: ys, rfl⟩
  obtain ⟨ys, rfl⟩ := mk ks all
  refine ⟨ys, rfl, ?_⟩
  have q := p.map (fun k : Key => match k with | .inr y => y | .inl _ => Str.empty)
  rw [List.map_map, List.map_map] at q
  have e : ((fun k : Key => match k with | .inr y => y | .inl _ => Str.empty) ∘ (Sum.inr : PySem.Str → Key)) = id := rfl
  rw [e, List.map_id, List.map_id] at q
  exact q
def rSortedKS (w : World) : List V → Hp → VK → Prop := fun vs H Q => ∃ (a : Addr) (zs : List PySem.Str), vs = [V.ref a] ∧ H a = some (KSetO w a (zs.map Sum.inr)) ∧ zs.length < 64 ∧
  ∀ (ys : List PySem.Str) (p : Addr), ys.Perm zs → sortedS ys = true → H p = none → Q (.ref p) (upd H p (.lst (ys.map V.str)))
theorem cr_sortedKS (hc : X.calm = true) : CallR X (.builtin "sorted") (rSortedKS X.w) := by
  intro pins s σ H vs us Q I r h
  obtain ⟨a, zs, rfl, ha, h64, q⟩ := h
  rw [Vals.ref1 r]
  obtain ⟨ob, es, ep, tb, ho, hx, hd, g, pm, nd, hb, hf, hr, hl⟩ := ksetO_get I ha
  refine Calls.call_function_entry kind_sorted plain_sorted entry_sorted (args_sorted1 _) ?_
  unfold Builtin.«sorted»
  refine wpAny_bind (m := checkCount "sorted" 1 1 _) (wpAny_pure ?_)
  refine wpAny_bind (collect_set (A := X.A.in1) (I.ok.hd hc) ⟨ob, ho, hx.1, hd⟩ hf hb hr hl fun s1 ws k1 hz g1' o1 pw => ?_)
  have pk : (ws.map fun v => entKey (0, v)).Perm (zs.map Sum.inr) := by
    have z := pw.map fun v => entKey (0, v)
    rw [List.map_map] at z
    exact z.trans pm
  obtain ⟨ys0, e0, p0⟩ := inr_list _ _ pk
  have hS : StrsAre ws ys0 := strs_split ws ys0 e0 fun v hv => by
    obtain ⟨en, hen, e⟩ := List.mem_map.mp (pw.mem_iff.mp hv)
    obtain ⟨k, hk, _⟩ := g en hen
    exact ⟨k, by rw [← e]; exact hk⟩
  have hwl : ws.length = zs.length := by
    have z := pk.length_eq
    rw [List.length_map, List.length_map] at z
    exact z
  have h64' : ws.length < 64 := by rw [hwl]; exact h64
  refine wpAny_bind (wpAny_newList ?_ (by rw [sizeLine_eq]; omega))
  have hoL : (s1.heap.push (seqObj "list" ws.toArray 0)).get? s1.heap.objs.size = some (seqObj "list" ws.toArray 0) := Heap.get?_push_size _ rfl
  have hwz : ws.length ≤ sizeLine := by rw [sizeLine_eq]; omega
  refine wpAny_bind (wpAny_holding (wpAny_call_entry slot_list_sort ⟨_, hoL, rfl⟩ entry_list_sort
    (list_sort_treeK strKind_oneLt hoL hS.keysOf (fun v1 v2 rest e => keyKind_strs (by rw [← e]; exact hS)) h64' fun st' hp hs => ⟨_, rfl, ?_⟩) (args_list_sort _)))
  obtain ⟨ys, g1, g2, g3⟩ := sorted_out_str hS hp hs
  obtain ⟨c, hc⟩ := sortedHeap_at (vs := ws) (out := (arrOf st').map (·.2)) hoL
  have old : ∀ b u, s.heap.get? b = some u → (sortedHeap (s1.heap.push (seqObj "list" ws.toArray 0)) s1.heap.objs.size ws ((arrOf st').map (·.2))).get? b = some u := fun b u e => by
    have z := k1 b u e
    have hlt := Heap.lt_size z
    rw [sortedHeap_old (Nat.ne_of_lt hlt) (by rw [size_push']; exact Nat.lt_succ_of_lt hlt)]
    exact Heap.get?_push_of_some _ z
  have hn : H s1.heap.objs.size = none := I.hok.fresh hz
  have hlen : (ys.map V.str).length ≤ sizeLine := by
    have z := (g2.trans p0).length_eq
    rw [List.length_map, z, sizeLine_eq]
    omega
  generalize sortedHeap (s1.heap.push (seqObj "list" ws.toArray 0)) s1.heap.objs.size ws ((arrOf st').map (·.2)) = hh at hc old
  have J : Inv X pins σ (upd H s1.heap.objs.size (.lst (ys.map V.str))) { s with heap := hh, gens := s1.gens, drawn := s1.drawn, toks := s1.toks } :=
    I.call (ch := []) (Un.laid old hz hn) (I.hok.laid old hz ⟨hlen, ((arrOf st').map (·.2)).toList, c, vals_of_strs g1, by rw [Array.toArray_toList]; exact hc⟩) (by rw [g1']; exact I.bare) (fun _ z => nomatch z)
  have e : ({ s1 with heap := hh } : Shared) = { s with heap := hh, gens := s1.gens, drawn := s1.drawn, toks := s1.toks } := by
    cases s1
    cases s
    cases o1
    rfl
  refine wpAny_pure ⟨_, rfl, ?_⟩
  show EP X pins σ Q (.ref s1.heap.objs.size) { s1 with heap := hh }
  rw [e]
  exact ⟨.ref _, _, J, rfl, q ys _ (g2.trans p0) g3 hn⟩
end
end Own

/-! Own rules, part B: a set comprehension of two clauses whose elements are keys. -/
namespace Own
open PySem PySem.Spec PyProof.Rows L2

section
variable {prog : Program} {w : World} {A : Around} {R : Result → Shared → Prop} {s : Shared} {el t0 i0 t1 i1 : Expr} {f0 f1 : List Expr} {sc : Scope} {ps : Pos} {it acc : Value} {env : Env}
/-- the expression of such a comprehension -/
abbrev SC2 (el t0 i0 t1 i1 : Expr) (f0 f1 : List Expr) (sc : Scope) (ps : Pos) : Expr := .SetComp el [⟨t0, i0, f0, 0⟩, ⟨t1, i1, f1, 0⟩] sc ps
theorem sc2_turn_out (el t0 i0 t1 i1 : Expr) (f0 f1 : List Expr) (sc : Scope) (ps : Pos) (it acc : Value) (env : Env) :
    compTurn (SC2 el t0 i0 t1 i1 f0 f1 sc ps) 0 it acc env = (do
      standAt i0.pos
      match ← pyNext it with
      | none => pure (.done .next)
      | some item =>
        letOwnedTupleGo t0 it item
        assign t0 env item
        let mut good := true
        for c in f0 do
          if good then good ← isTrue c env (eval c env)
        if good then
          let x ← eval i1 env
          standAt i1.pos
          let x ← foldedSetIterable i1 env x
          let _ ← runOwn (.compStart (SC2 el t0 i0 t1 i1 f0 f1 sc ps) 1 (← holding [x] (pyIter x)) acc env) env
        again (.compLoop (SC2 el t0 i0 t1 i1 f0 f1 sc ps) 0 it acc env)) := by rfl
theorem sc2_turn_in (el t0 i0 t1 i1 : Expr) (f0 f1 : List Expr) (sc : Scope) (ps : Pos) (it acc : Value) (env : Env) :
    compTurn (SC2 el t0 i0 t1 i1 f0 f1 sc ps) 1 it acc env = (do
      standAt i1.pos
      match ← pyNext it with
      | none => pure (.done .next)
      | some item =>
        letOwnedTupleGo t1 it item
        assign t1 env item
        let mut good := true
        for c in f1 do
          if good then good ← isTrue c env (eval c env)
        if good then
          (do let y ← eval el env; standAt el.pos; let _ ← call (.builtin "set.add") [acc, y])
        again (.compLoop (SC2 el t0 i0 t1 i1 f0 f1 sc ps) 1 it acc env)) := by rfl

theorem sc2_loop_out (hs : ∀ x, foldedSetIterable i1 env x = pure x) (J : Nat → Shared → Prop)
    (turn : ∀ n s, J n s → wpAny (model prog w) A (pyNext it) (fun r s1 => match r with
      | none => R (.ok .next) s1
      | some v => wpAny (model prog w) A (letOwnedTupleGo t0 it v) (fun _ s2 => wpAny (model prog w) A (assign t0 env v) (fun _ s3 =>
          wpAny (model prog w) A (forIn f0 true fun c r => if r = true then do let ok ← isTrue c env (eval c env); pure (ForInStep.yield ok) else pure (ForInStep.yield r)) (fun ok s4 =>
            if ok = true then wpAny (model prog w) A (eval i1 env) (fun x s5 => wpAny (model prog w) A (pyIter x) (fun itn s6 =>
              codeAny (model prog w) A (.compStart (SC2 el t0 i0 t1 i1 f0 f1 sc ps) 1 itn acc env) (fun r z => match r with
                | .ok _ => ∃ m, m < n ∧ J m z
                | .error _ => False) s6) (notedBy (model prog w) A env fun e z => R (.error e) z) s5) (notedBy (model prog w) A env fun e z => R (.error e) z) s4
            else ∃ m, m < n ∧ J m s4) (notedBy (model prog w) A env fun e z => R (.error e) z) s3) (notedBy (model prog w) A env fun e z => R (.error e) z) s2) (notedBy (model prog w) A env fun e z => R (.error e) z) s1) (notedBy (model prog w) A env fun e z => R (.error e) z) s)
    (n : Nat) (h : J n s) : codeAny (model prog w) A (.compLoop (SC2 el t0 i0 t1 i1 f0 f1 sc ps) 0 it acc env) R s := by
  refine codeAny_loop rfl J (fun n s hJ => ?_) n h
  show wpAny _ A ((compTurn (SC2 el t0 i0 t1 i1 f0 f1 sc ps) 0 it acc env).onRaise (fun x => do noteFrame x env; theTreesLotGoes x)) _ _ s
  refine wpAny_noted ?_
  rw [sc2_turn_out]
  refine wpAny_bind (wpAny_standAt (wpAny_bind (wpAny_mono (turn n s hJ) (fun r s1 q1 => ?_) fun _ _ y => y)))
  cases r with
  | none => exact wpAny_pure q1
  | some v =>
    refine wpAny_bind (wpAny_mono q1 (fun _ s2 q2 => ?_) fun _ _ y => y)
    refine wpAny_bind (wpAny_mono q2 (fun _ s3 q3 => wpAny_bind (wpAny_mono q3 (fun ok s4 q4 => ?_) fun _ _ y => y)) fun _ _ y => y)
    cases ok with
    | false => exact wpAny_pure ⟨rfl, q4⟩
    | true =>
      refine wpAny_bind (wpAny_mono q4 (fun x s5 q5 => ?_) fun _ _ y => y)
      refine wpAny_bind (wpAny_standAt (wpAny_bind (wpAny_of_eq (hs x) (wpAny_bind (wpAny_holding (wpAny_mono q5 (fun itn s6 q6 => ?_) fun _ _ y => y))))))
      refine wpAny_bind (wpAny_runOwn ?_)
      rw [Around.mark_none]
      refine codeAny_mono q6 fun r z hr => ?_
      cases r with
      | ok f =>
        first
          | exact wpAny_pure ⟨rfl, hr⟩
          | exact wpAny_bind (wpAny_pure (wpAny_pure ⟨rfl, hr⟩))
      | error e => exact hr.elim
theorem sc2_loop_in (J : Nat → Shared → Prop)
    (turn : ∀ n s, J n s → wpAny (model prog w) A (pyNext it) (fun r s1 => match r with
      | none => R (.ok .next) s1
      | some v => wpAny (model prog w) A (letOwnedTupleGo t1 it v) (fun _ s2 => wpAny (model prog w) A (assign t1 env v) (fun _ s3 =>
          wpAny (model prog w) A (forIn f1 true fun c r => if r = true then do let ok ← isTrue c env (eval c env); pure (ForInStep.yield ok) else pure (ForInStep.yield r)) (fun ok s4 =>
            if ok = true then wpAny (model prog w) A (eval el env) (fun x s5 =>
              wpAny (model prog w) A (call (.builtin "set.add") [acc, x]) (fun _ s6 => ∃ m, m < n ∧ J m s6) (notedBy (model prog w) A env fun e z => R (.error e) z) s5) (notedBy (model prog w) A env fun e z => R (.error e) z) s4
            else ∃ m, m < n ∧ J m s4) (notedBy (model prog w) A env fun e z => R (.error e) z) s3) (notedBy (model prog w) A env fun e z => R (.error e) z) s2) (notedBy (model prog w) A env fun e z => R (.error e) z) s1) (notedBy (model prog w) A env fun e z => R (.error e) z) s)
    (n : Nat) (h : J n s) : codeAny (model prog w) A (.compLoop (SC2 el t0 i0 t1 i1 f0 f1 sc ps) 1 it acc env) R s := by
  refine codeAny_loop rfl J (fun n s hJ => ?_) n h
  show wpAny _ A ((compTurn (SC2 el t0 i0 t1 i1 f0 f1 sc ps) 1 it acc env).onRaise (fun x => do noteFrame x env; theTreesLotGoes x)) _ _ s
  refine wpAny_noted ?_
  rw [sc2_turn_in]
  refine wpAny_bind (wpAny_standAt (wpAny_bind (wpAny_mono (turn n s hJ) (fun r s1 q1 => ?_) fun _ _ y => y)))
  cases r with
  | none => exact wpAny_pure q1
  | some v =>
    refine wpAny_bind (wpAny_mono q1 (fun _ s2 q2 => ?_) fun _ _ y => y)
    refine wpAny_bind (wpAny_mono q2 (fun _ s3 q3 => wpAny_bind (wpAny_mono q3 (fun ok s4 q4 => ?_) fun _ _ y => y)) fun _ _ y => y)
    cases ok with
    | false => exact wpAny_pure ⟨rfl, q4⟩
    | true =>
      exact wpAny_bind (wpAny_bind (wpAny_mono q4 (fun x s5 q5 => wpAny_bind (wpAny_standAt (wpAny_bind (wpAny_mono q5 (fun _ s6 q6 => wpAny_pure (wpAny_pure ⟨rfl, q6⟩)) fun _ _ y => y)))) fun _ _ y => y))
theorem sc2_start1 (h0 : codeAny (model prog w) A (.compLoop (SC2 el t0 i0 t1 i1 f0 f1 sc ps) 1 it acc env) R s)
    (h : wpAny (model prog w) A (pyIter it) (fun itn z => codeAny (model prog w) A (.compLoop (SC2 el t0 i0 t1 i1 f0 f1 sc ps) 1 itn acc env) R z)
      (notedBy (model prog w) A env fun x z => R (.error x) z) s) : codeAny (model prog w) A (.compStart (SC2 el t0 i0 t1 i1 f0 f1 sc ps) 1 it acc env) R s := by
  refine codeAny_of_tree ?_
  show wpAny _ _ ((compStart (SC2 el t0 i0 t1 i1 f0 f1 sc ps) 1 it acc env).onRaise (fun x => do noteFrame x env; standAt theWindowsPlace)) _ _ s
  refine wpAny_notedAt ?_
  unfold compStart
  show wpAny _ _ (ask >>= _) _ _ s
  refine wpAny_bind (wpAny_askSetting (wpAny_ite ?_))
  split
  · first
      | exact wpAny_bind (wpAny_pure (wpAny_pure (And.intro rfl h0)))
      | exact wpAny_pure (And.intro rfl h0)
  · first
      | exact wpAny_bind (wpAny_rule (wpAny_bind (wpAny_standAt (wpAny_bind (wpAny_mono h (fun itn z y => wpAny_pure (And.intro rfl y)) fun _ _ x => x)))))
      | (refine wpAny_bind (wpAny_rule ?_); show wpAny _ _ (standAt i1.pos >>= _) _ _ s; exact wpAny_bind (wpAny_standAt (wpAny_bind (wpAny_mono h (fun itn z y => wpAny_pure (And.intro rfl y)) fun _ _ x => x))))
end

section
variable {X : Cx}
/-- {elt for tg in iter if .. for tg1 in iter1 if ..}, elt a key: D is the new set. vs: the block's names; vs1: those of the second target -/
def tSc2 (w : World) (wi : TI) (g : TG) (tt : TT) (wi1 : TI) (g1 : TG) (tt1 : TT) (te : TE) (vs vs1 : List Nat) : TE := fun σ H Q => wi σ H fun J H1 => ∀ D, H1 D = none → ∃ W : Nat → Nat → Hp → Prop, (∃ m, W 0 m (upd H1 D (KSetO w D []))) ∧ ∀ i m H, W i m H →
  (J.stop i H ∧ Q (.ref D) H) ∨ (J.go i H ∧ ∃ Nx : Hp → Prop, (∀ H', Nx H' → ∃ m', m' < m ∧ W (i + 1) m' H') ∧ ∀ x H', J.yld i H x H' → g x (wipe σ vs) H' fun σ2 H2 => wipe σ2 vs = wipe σ vs ∧ tt σ2 H2 fun b H3 =>
    if b = true then wi1 σ2 H3 fun J1 H4 => ∃ W1 : Nat → Nat → Hp → Prop, (∃ m, W1 0 m H4) ∧ ∀ j k H, W1 j k H →
      (J1.stop j H ∧ Nx H) ∨ (J1.go j H ∧ ∃ Nx1 : Hp → Prop, (∀ H', Nx1 H' → ∃ k', k' < k ∧ W1 (j + 1) k' H') ∧ ∀ x H', J1.yld j H x H' → g1 x (wipe σ2 vs1) H' fun σ3 H5 => wipe σ3 vs1 = wipe σ2 vs1 ∧ tt1 σ3 H5 fun b H6 =>
        if b = true then te σ3 H6 fun y H7 => ∃ (q : Key) (ks : List Key), y = kV q ∧ H7 D = some (KSetO w D ks) ∧ ks.length + 1 < scanBound ∧ Nx1 (upd H7 D (KSetO w D (addK ks q))) else Nx1 H6)
    else Nx H3)
theorem pe_sc2 {el tg iter tg1 iter1 : Expr} {ifs ifs1 : List Expr} {scope : Scope} {own : List (PySem.Str × Nat)} {vs1 : List Nat} {pos : Pos} {wi wi1 : TI} {g g1 : TG} {tt tt1 : TT} {te : TE}
    (hc : X.calm = true) (hN : X.N.Nodup) (hi : PI X tg iter wi) (ok : BlkOk X.N X.env.scope scope own) (hv : ∀ i ∈ vs1, i ∈ own.map (·.2))
    (hg : ∀ (s : Shared) (H : Hp) (C : Addr) (cl : List (PySem.Str × Addr)) (fp : List Addr), PG (X.blk s H scope (compEnvC scope cl C X.env) fp) tg g)
    (ht : ∀ (s : Shared) (H : Hp) (C : Addr) (cl : List (PySem.Str × Addr)) (fp : List Addr), PTs (X.blk s H scope (compEnvC scope cl C X.env) fp) ifs tt)
    (hi1 : ∀ (s : Shared) (H : Hp) (C : Addr) (cl : List (PySem.Str × Addr)) (fp : List Addr), PI (X.blk s H scope (compEnvC scope cl C X.env) fp) tg1 iter1 wi1)
    (hg1 : ∀ (s : Shared) (H : Hp) (C : Addr) (cl : List (PySem.Str × Addr)) (fp : List Addr), PG (X.blk s H scope (compEnvC scope cl C X.env) fp) tg1 g1)
    (ht1 : ∀ (s : Shared) (H : Hp) (C : Addr) (cl : List (PySem.Str × Addr)) (fp : List Addr), PTs (X.blk s H scope (compEnvC scope cl C X.env) fp) ifs1 tt1)
    (he : ∀ (s : Shared) (H : Hp) (C : Addr) (cl : List (PySem.Str × Addr)) (fp : List Addr), PE (X.blk s H scope (compEnvC scope cl C X.env) fp) el te)
    (hs : ∀ x, foldedSetIterable iter X.env x = pure x := by intro _; rfl) (hs1 : ∀ env x, foldedSetIterable iter1 env x = pure x := by intro _ _; rfl) :
    PE X (.SetComp el [⟨tg, iter, ifs, 0⟩, ⟨tg1, iter1, ifs1, 0⟩] scope pos) (tSc2 X.w wi g tt wi1 g1 tt1 te (own.map (·.2)) vs1) := by
  refine ⟨fun pins s σ H Q I h => ?_⟩
  have hfree : ∀ y ∈ scope.names, y.2 = .free → ∃ c, X.env.cells.lookup y.1 = some c := fun y hy e => by
    rcases ok.free y hy e with k | k
    · exact I.ok.has _ (.inl k)
    · exact I.ok.has _ (.inr k)
  rw [PpSet.eval_SetComp]
  refine wpAny_comprehension_free rfl hs (closure_ok hfree) ok.kind (fun y hy e => by rw [ok.uniq y hy, e])
    (thn (hi.run pins s σ H _ I h) fun xv s1 hx => thn hx fun itv s2 h2 => ?_)
  obtain ⟨it, fp, tn, J, H2, e, I2, T, st2, f2, q⟩ := h2
  subst e
  refine PpSet.newSet_ok (newEnv_comp ?_)
  generalize hD : s2.heap.objs.size = D
  have hDn : H2 D = none := I2.hok.fresh (Nat.le_of_eq hD)
  obtain ⟨W, ⟨m0, w0⟩, turn⟩ := q D hDn
  generalize hs3 : ({ s2 with heap := s2.heap.push { cls := .type "set", dict := none, data := .set #[] 0 (.fresh 0 0 (!X.w.params.followText "set-order")) } } : Shared) = s3
  have I3 : Inv X pins σ (upd H2 D (KSetO X.w D [])) s3 := by
    rw [← hs3]
    refine I2.laid (t' := s2.toks) (fun b o e => Heap.get?_push_of_some _ e) (Nat.le_of_eq hD) ?_
    rw [← hD]
    exact ksetO_ok (kset_fresh X.w _)
  have h3 : s3.heap = s2.heap.push { cls := .type "set", dict := none, data := .set #[] 0 (.fresh 0 0 (!X.w.params.followText "set-order")) } := by rw [← hs3]
  have f3 : ∀ b ∈ fp, FpOk X pins (upd H2 D (KSetO X.w D [])) b ∧ b < s3.heap.objs.size := fun b hb => by
    obtain ⟨o, e, _⟩ := T.obj _ _ st2 b hb
    have hlt := Heap.lt_size e
    refine ⟨⟨?_, (f2 b hb).2⟩, by rw [h3, Heap.size_push]; exact Nat.lt_succ_of_lt hlt⟩
    rw [upd_ne (by rw [← hD]; exact Nat.ne_of_lt hlt)]
    exact (f2 b hb).1
  have st3 : tn 0 s3.heap := T.keep _ _ _ st2 fun b _ o e => by rw [h3]; exact Heap.get?_push_of_some _ e
  have I4 := block_start I3 ok hN f3
  have pg := hg s3 (upd H2 D (KSetO X.w D [])) s3.heap.objs.size (cellsFrom (s3.heap.objs.size + 1) scope.names (cloFrom X.env.cells scope.names [])) fp
  have pt := ht s3 (upd H2 D (KSetO X.w D [])) s3.heap.objs.size (cellsFrom (s3.heap.objs.size + 1) scope.names (cloFrom X.env.cells scope.names [])) fp
  have pe := he s3 (upd H2 D (KSetO X.w D [])) s3.heap.objs.size (cellsFrom (s3.heap.objs.size + 1) scope.names (cloFrom X.env.cells scope.names [])) fp
  have pi1 := hi1 s3 (upd H2 D (KSetO X.w D [])) s3.heap.objs.size (cellsFrom (s3.heap.objs.size + 1) scope.names (cloFrom X.env.cells scope.names [])) fp
  have pg1 := hg1 s3 (upd H2 D (KSetO X.w D [])) s3.heap.objs.size (cellsFrom (s3.heap.objs.size + 1) scope.names (cloFrom X.env.cells scope.names [])) fp
  have pt1 := ht1 s3 (upd H2 D (KSetO X.w D [])) s3.heap.objs.size (cellsFrom (s3.heap.objs.size + 1) scope.names (cloFrom X.env.cells scope.names [])) fp
  show codeAny _ _ (.compStart (SC2 el tg iter tg1 iter1 ifs ifs1 scope pos) 0 (.ref it) (.ref D) (compEnvC scope (cellsFrom (s3.heap.objs.size + 1) scope.names (cloFrom X.env.cells scope.names [])) s3.heap.objs.size X.env)) (compPost (model X.prog X.w) X.A X.xe none (EP X pins σ Q) (.ref D) s3.heap.objs.size) { s3 with heap := pushCells (s3.heap.push { cls := .type "dict", data := .dict #[] }) scope.names }
  have nfp : ∀ b ∈ fp, (upd H2 D (KSetO X.w D [])) b = none := fun b hb => (f3 b hb).1.1
  generalize hce : compEnvC scope (cellsFrom (s3.heap.objs.size + 1) scope.names (cloFrom X.env.cells scope.names [])) s3.heap.objs.size X.env = ce at I4 pg pt pe pi1 pg1 pt1 ⊢
  have cL : ce.locals = s3.heap.objs.size := by subst hce; rfl
  generalize hH3 : upd H2 D (KSetO X.w D []) = H3 at I3 I4 pg pt pe pi1 pg1 pt1 w0 nfp f3
  generalize hs4 : ({ s3 with heap := pushCells (s3.heap.push { cls := .type "dict", data := .dict #[] }) scope.names } : Shared) = s4 at I4 ⊢
  have st4 : tn 0 s4.heap := T.keep _ _ _ st3 fun b _ o e => by rw [← hs4]; exact pushCells_keeps _ _ _ _ (Heap.get?_push_of_some _ e)
  have stat : ∀ {σ' : L2.St} {H' : Hp} {z : Shared}, Inv (X.blk s3 H3 scope ce fp) [] σ' H' z → (∀ b ∈ fp, H' b = none) → ∀ b ∈ fp, FpOk (X.blk s3 H3 scope ce fp) [] H' b := fun {σ' H' z} I' hn b hb =>
    ⟨hn b hb, (I'.ok.exf b hb).1, I'.ok.exfs b hb, .inl hb, fun x c e => (I'.ok.exf b hb).2 x c e, fun p hp => absurd (show p ∈ ([] : List (Addr × Obj)) ++ [] from hp) (by simp)⟩
  have loop : codeAny (model X.prog X.w) X.A (.compLoop (SC2 el tg iter tg1 iter1 ifs ifs1 scope pos) 0 (.ref it) (.ref D) ce) (compPost (model X.prog X.w) X.A X.xe none (EP X pins σ Q) (.ref D) s3.heap.objs.size) s4 := by
    refine sc2_loop_out (hs1 ce) (fun n z => ∃ i H', Inv (X.blk s3 H3 scope ce fp) [] (wipe σ (own.map (·.2))) H' z ∧ tn i z.heap ∧ (∀ b ∈ fp, H' b = none) ∧ W i n H') ?_ m0 ⟨0, H3, I4, st4, nfp, w0⟩
    rintro n s5 ⟨i, H5, I5, st5, n5, w5⟩
    rcases turn i n H5 w5 with ⟨stop, qq⟩ | ⟨go, Nx, hNx, step⟩
    · have td := T.done (X.blk s3 H3 scope ce fp) rfl rfl rfl hc i [] s5 _ H5 (fun _ _ => False) I5 (stat I5 n5) st5 stop
      refine thnF td fun r s6 ⟨hr, I6⟩ => ?_
      subst hr
      have I7 : Inv X pins σ H5 s6 := I3.call' (ch := fp) I6.os I6.base I6.hok I6.bare fun b hb => ⟨(f3 b hb).1.2.2.2.1, (f3 b hb).1.2.1, (f3 b hb).1.2.2.2.2.1, (f3 b hb).1.2.2.2.2.2⟩
      have nC : H5 s3.heap.objs.size = none := by
        have z : H5 ce.locals = none := I6.free
        rw [cL] at z
        exact z
      obtain ⟨m, hn, _⟩ := I6.loc
      have hn : s6.heap.Ns ce.locals m := hn
      rw [cL] at hn
      obtain ⟨k0, k1, k2, k3, k4, k5⟩ := I3.fpOk (Nat.le_refl _) nC
      exact ⟨m, hn, fun h'' sb => ⟨.ref D, H5, I7.turned (t' := s6.toks) (fun b o hb e => (sb.2 b hb).trans e) k0 k1 k3 k4 k5, rfl, qq⟩⟩
    · have ti := T.item (X.blk s3 H3 scope ce fp) rfl rfl rfl hc i [] s5 _ H5 (fun _ _ => False) I5 (stat I5 n5) st5 go
      refine thnF ti fun r s6 ⟨u, hr, h6⟩ => ?_
      subst hr
      refine thnF h6 fun _ s7 ⟨x, H7, I7, r7, y7, st7, n7⟩ => ?_
      have I7' := I7.pinned (stat I7 n7) (T.obj _ _ st7)
      refine thnF (pg.run _ s7 _ H7 x u _ I7' r7 (step x H7 y7)) fun _ s8 ⟨σ8, H8, I8, hw8, q8⟩ => ?_
      refine thnF (pt.run _ s8 σ8 H8 _ I8 q8) fun b s9 ⟨H9, I9, q9⟩ => ?_
      have fin : ∀ {σ9 : L2.St} {z : Shared} {H' : Hp}, Inv (X.blk s3 H3 scope ce fp) ([] ++ pinsAt fp s7.heap) σ9 H' z → (wipe σ (own.map (·.2))).length = σ9.length → (∀ (j : Nat) v, (wipe σ (own.map (·.2)))[j]? = some (some v) → σ9[j]? = some (some v)) → Nx H' →
          ∃ m, m < n ∧ ∃ i H', Inv (X.blk s3 H3 scope ce fp) [] (wipe σ (own.map (·.2))) H' z ∧ tn i z.heap ∧ (∀ b ∈ fp, H' b = none) ∧ W i m H' := fun {σ9 z H'} I' hl hk nx => by
        obtain ⟨m', hm, w'⟩ := hNx H' nx
        have pin' : ∀ b ∈ fp, ∀ o, s7.heap.get? b = some o → z.heap.get? b = some o ∧ H' b = none := fun b hb o e =>
          let y := I'.pin (b, o) (List.mem_append_right _ (List.mem_append_right _ (mem_pinsAt hb e)))
          ⟨y.1, y.2.1⟩
        refine ⟨m', hm, i + 1, H', (I'.unpinned (pins := [])).weak hl hk, T.keep _ _ _ st7 fun b hb o e => (pin' b hb o e).1, fun b hb => ?_, w'⟩
        obtain ⟨o, e, _⟩ := T.obj _ _ st7 b hb
        exact (pin' b hb o e).2
      have hl8 : (wipe σ (own.map (·.2))).length = σ8.length := by rw [← hw8, wipe_length]
      have hk8 : ∀ (j : Nat) v, (wipe σ (own.map (·.2)))[j]? = some (some v) → σ8[j]? = some (some v) := fun j v e => by
        rw [← hw8] at e
        exact (wipe_some e).1
      have hk9 : ∀ (j : Nat) v, (wipe σ (own.map (·.2)))[j]? = some (some v) → (wipe σ8 vs1)[j]? = some (some v) := fun j v e => by
        rw [← hw8] at e
        obtain ⟨e1, e2⟩ := wipe_some e
        rw [wipe_out fun y => e2 (hv j y)]
        exact e1
      cases b with
      | false =>
        simp only [Bool.false_eq_true, if_false] at q9 ⊢
        exact fin I9 hl8 hk8 q9
      | true =>
        simp only [if_true] at q9 ⊢
        refine thnF (pi1.run _ s9 σ8 H9 _ I9 q9) fun xv s10 hx => thnF hx fun itv s11 h11 => ?_
        obtain ⟨it1, fp1, tn1, J1, H11, e1, I11, T1, st11, f11, W1, ⟨m1, w1⟩, turn1⟩ := h11
        subst e1
        have stat1 : ∀ {H' : Hp}, (∀ b ∈ fp1, H' b = none) → ∀ b ∈ fp1, FpOk (X.blk s3 H3 scope ce fp) ([] ++ pinsAt fp s7.heap) H' b := fun hn b hb => ⟨hn b hb, (f11 b hb).2⟩
        have loop1 : codeAny (model X.prog X.w) X.A (.compLoop (SC2 el tg iter tg1 iter1 ifs ifs1 scope pos) 1 (.ref it1) (.ref D) ce)
            (fun r z => match r with
              | .ok _ => ∃ m, m < n ∧ ∃ i H', Inv (X.blk s3 H3 scope ce fp) [] (wipe σ (own.map (·.2))) H' z ∧ tn i z.heap ∧ (∀ b ∈ fp, H' b = none) ∧ W i m H'
              | .error _ => False) s11 := by
          refine sc2_loop_in (fun k z => ∃ j H', Inv (X.blk s3 H3 scope ce fp) ([] ++ pinsAt fp s7.heap) (wipe σ8 vs1) H' z ∧ tn1 j z.heap ∧ (∀ b ∈ fp1, H' b = none) ∧ W1 j k H') ?_ m1 ⟨0, H11, I11.weak (wipe_length _ _) (fun j v e => (wipe_some e).1), st11, fun b hb => (f11 b hb).1, w1⟩
          rintro k s12 ⟨j, H12, I12, st12, n12, w12⟩
          rcases turn1 j k H12 w12 with ⟨stop1, nx1⟩ | ⟨go1, Nx1, hNx1, step1⟩
          · refine thnF (T1.done (X.blk s3 H3 scope ce fp) rfl rfl rfl hc j _ s12 (wipe σ8 vs1) H12 (fun _ _ => False) I12 (stat1 n12) st12 stop1) fun r s13 ⟨hr, I13⟩ => ?_
            subst hr
            exact fin I13 (hl8.trans (wipe_length σ8 vs1).symm) hk9 nx1
          · refine thnF (T1.item (X.blk s3 H3 scope ce fp) rfl rfl rfl hc j _ s12 (wipe σ8 vs1) H12 (fun _ _ => False) I12 (stat1 n12) st12 go1) fun r s13 ⟨u1, hr, h13⟩ => ?_
            subst hr
            refine thnF h13 fun _ s14 ⟨x1, H14, I14, r14, y14, st14, n14⟩ => ?_
            have I14' := I14.pinned (stat1 n14) (T1.obj _ _ st14)
            refine thnF (pg1.run _ s14 (wipe σ8 vs1) H14 x1 u1 _ I14' r14 (step1 x1 H14 y14)) fun _ s15 ⟨σ15, H15, I15, hw15, q15⟩ => ?_
            refine thnF (pt1.run _ s15 σ15 H15 _ I15 q15) fun b1 s16 ⟨H16, I16, q16⟩ => ?_
            have fin1 : ∀ {z : Shared} {H' : Hp}, Inv (X.blk s3 H3 scope ce fp) (([] ++ pinsAt fp s7.heap) ++ pinsAt fp1 s14.heap) σ15 H' z → Nx1 H' → ∃ m, m < k ∧ ∃ j H', Inv (X.blk s3 H3 scope ce fp) ([] ++ pinsAt fp s7.heap) (wipe σ8 vs1) H' z ∧ tn1 j z.heap ∧ (∀ b ∈ fp1, H' b = none) ∧ W1 j m H' := fun {z H'} I' nx => by
              obtain ⟨m', hm, w'⟩ := hNx1 H' nx
              have pin' : ∀ b ∈ fp1, ∀ o, s14.heap.get? b = some o → z.heap.get? b = some o ∧ H' b = none := fun b hb o e =>
                let y := I'.pin (b, o) (List.mem_append_right _ (List.mem_append_right _ (mem_pinsAt hb e)))
                ⟨y.1, y.2.1⟩
              refine ⟨m', hm, j + 1, H', I'.unpinned.weak (by rw [← hw15, wipe_length]) (fun j v e => by rw [← hw15] at e; exact (wipe_some e).1), T1.keep _ _ _ st14 fun b hb o e => (pin' b hb o e).1, fun b hb => ?_, w'⟩
              obtain ⟨o, e, _⟩ := T1.obj _ _ st14 b hb
              exact (pin' b hb o e).2
            cases b1 with
            | false =>
              simp only [Bool.false_eq_true, if_false] at q16 ⊢
              exact fin1 I16 q16
            | true =>
              simp only [if_true] at q16 ⊢
              refine thnF (pe.run _ s16 σ15 H16 _ I16 q16) fun y s17 ⟨yv, H17, I17, r17, kq, ks, ey, hD17, hz17, nx⟩ => ?_
              subst ey
              exact ksetO_add (X := X.blk s3 H3 scope ce fp) I17 hD17 r17 hz17 fun s18 I18 => fin1 I18 nx
        exact sc2_start1 loop1 (T1.self X.A 0 _ _ _ st11 loop1)
  exact PpSet.codeAny_compStart_set loop (T.self X.A 0 _ _ _ st4 loop)
end
end Own

/-! Own rules, part C: callable defs, walks over a list or a tuple, hidden places, data. -/
namespace Own
open PySem PySem.Spec PyProof.Rows L2

/-! ### defs as they stand, and what they promise -/
/-- a def of the module, with its parameters -/
def DefAt (K : PySem.W.Frag) (mg : PySem.Str → Option Value) (x : PySem.Str) (st : Stmt) (ps : List PySem.Str) : Prop :=
  ∃ (f : Addr) (fd : FuncData), L2.Fun K x x st f fd ∧ mg x = some (.ref f) ∧ Binds K fd ps []
/-- a method m of the class at C -/
def MetAt (K : PySem.W.Frag) (C : Addr) (m qual : PySem.Str) (st : Stmt) (ps : List PySem.Str) : Prop :=
  ∃ (f : Addr) (fd : FuncData), L2.Fun K m qual st f fd ∧ Cls K C ∧ Meth K C m f ∧ Binds K fd ps []
/-- the __init__ of the class at C, which stands under the name x -/
def IniAt (K : PySem.W.Frag) (mg : PySem.Str → Option Value) (C : Addr) (x qual : PySem.Str) (st : Stmt) (ps : List PySem.Str) : Prop :=
  ∃ (f : Addr) (fd : FuncData), L2.Fun K "__init__" qual st f fd ∧ Mk K C f ∧ mg x = some (.ref C) ∧ Binds K fd ps []

/-- a def that may be called by its name, with its promise -/
def Cal (P : Program) (w : World) (K : PySem.W.Frag) (mg : PySem.Str → Option Value) (base : Heap) (k : Nat) (x : PySem.Str) (sp : Sp) : Prop :=
  ∃ (f : Addr) (fd : FuncData) (ps : List PySem.Str), FnOk P w K mg base CX0 k f fd ps sp ∧ mg x = some (.ref f) ∧ PySem.W.keepIn K (.ref f) = true ∧ Binds K fd ps []
/-- a method, with its promise -/
def Met (P : Program) (w : World) (K : PySem.W.Frag) (mg : PySem.Str → Option Value) (base : Heap) (k : Nat) (C : Addr) (m : PySem.Str) (sp : Sp) : Prop :=
  ∃ (f : Addr) (fd : FuncData) (ps : List PySem.Str), Cls K C ∧ Meth K C m f ∧ FnOk P w K mg base CX0 k f fd ps sp ∧ Binds K fd ps []
/-- a class that may be made by its name; sp is its __init__'s promise -/
def Mak (P : Program) (w : World) (K : PySem.W.Frag) (mg : PySem.Str → Option Value) (base : Heap) (k : Nat) (x : PySem.Str) (C : Addr) (sp : Sp) : Prop :=
  ∃ (f : Addr) (fd : FuncData) (ps : List PySem.Str), Mk K C f ∧ FnOk P w K mg base CX0 k f fd ps sp ∧ mg x = some (.ref C) ∧ Binds K fd ps []
section
variable {P : Program} {w : World} {K : PySem.W.Frag} {mg : PySem.Str → Option Value} {base : Heap}
theorem cal_of {x : PySem.Str} {st : Stmt} {N ps : List PySem.Str} {k : Nat} {sp : Sp} (D : DefAt K mg x st ps) (S : FnScope N ps (defScope st)) (len : ∀ vs H Q E, sp vs H Q E → vs.length = ps.length)
    (body : ∀ (f : Addr) (cdv : Value) (A : Around) (outer : List Env) (s : Shared) (H : Hp) (vs : List V) (Q : VK) (E : XK), Room k (A.deeper (envOfC x (defScope st) s.heap.objs.size f cdv)) → sp vs H Q E →
      ∃ t, PSs (cxOf CX0 P w K mg base N x (defScope st) f cdv A outer s H E).nox (defBody st) t ∧ t { nx := fun _ H' => Q .non H', rt := Q } (start N vs) H) : Cal P w K mg base (k + 1) x sp := by
  obtain ⟨f, fd, F, hm, b⟩ := D
  exact ⟨f, fd, ps, F.ok S len (fun cdv A outer s H vs Q E hr h => body f cdv A outer s H vs Q E hr h), hm, F.kp, b⟩
theorem met_of {C : Addr} {m qual : PySem.Str} {st : Stmt} {N ps : List PySem.Str} {k : Nat} {sp : Sp} (D : MetAt K C m qual st ps) (S : FnScope N ps (defScope st)) (len : ∀ vs H Q E, sp vs H Q E → vs.length = ps.length)
    (body : ∀ (f : Addr) (cdv : Value) (A : Around) (outer : List Env) (s : Shared) (H : Hp) (vs : List V) (Q : VK) (E : XK), Room k (A.deeper (envOfC qual (defScope st) s.heap.objs.size f cdv)) → sp vs H Q E →
      ∃ t, PSs (cxOf CX0 P w K mg base N qual (defScope st) f cdv A outer s H E).nox (defBody st) t ∧ t { nx := fun _ H' => Q .non H', rt := Q } (start N vs) H) : Met P w K mg base (k + 1) C m sp := by
  obtain ⟨f, fd, F, c, me, b⟩ := D
  exact ⟨f, fd, ps, c, me, F.ok S len (fun cdv A outer s H vs Q E hr h => body f cdv A outer s H vs Q E hr h), b⟩
theorem mak_of {C : Addr} {x qual : PySem.Str} {st : Stmt} {N ps : List PySem.Str} {k : Nat} {sp : Sp} (D : IniAt K mg C x qual st ps) (S : FnScope N ps (defScope st)) (len : ∀ vs H Q E, sp vs H Q E → vs.length = ps.length)
    (body : ∀ (f : Addr) (cdv : Value) (A : Around) (outer : List Env) (s : Shared) (H : Hp) (vs : List V) (Q : VK) (E : XK), Room k (A.deeper (envOfC qual (defScope st) s.heap.objs.size f cdv)) → sp vs H Q E →
      ∃ t, PSs (cxOf CX0 P w K mg base N qual (defScope st) f cdv A outer s H E).nox (defBody st) t ∧ t { nx := fun _ H' => Q .non H', rt := Q } (start N vs) H) : Mak P w K mg base (k + 1) x C sp := by
  obtain ⟨f, fd, F, M, hm, b⟩ := D
  exact ⟨f, fd, ps, M, F.ok S len (fun cdv A outer s H vs Q E hr h => body f cdv A outer s H vs Q E hr h), hm, b⟩
end
/-- the built-in names that no def of the module takes -/
structure Blt (mg : PySem.Str → Option Value) : Prop where
  len : mg "len" = none
  int : mg "int" = none
  sum : mg "sum" = none
  all : mg "all" = none
  any : mg "any" = none
  sorted : mg "sorted" = none
  list : mg "list" = none
  tuple : mg "tuple" = none
  isinstance : mg "isinstance" = none
  range : mg "range" = none
  enumerate : mg "enumerate" = none
  str : mg "str" = none
  bool : mg "bool" = none

section
variable {X : Cx}
theorem pe_mk0 {k j : Nat} {C : Addr} {x : PySem.Str} {sp : Sp} {p pos : Pos} (c : Mak X.prog X.w X.K X.mg X.base k x C sp) (hr : Room j X.A) (hk : k + 1 ≤ j) (hg : Gl X x)
    (hdb : (x == ("__debug__" : PySem.Str)) = false := by decide) : PE X (.Call (.Name x p) [] [] pos) (tMake C sp [] E0 tNil) := by
  obtain ⟨f, fd, ps, M, F, hm, b⟩ := c
  exact pe_make0 M F (hr.mono hk) hg hm b .nil pass0 hdb
theorem pe_mk {k j : Nat} {C : Addr} {x : PySem.Str} {sp : Sp} {p pos : Pos} {e : Expr} {es : List Expr} {t : TA} (c : Mak X.prog X.w X.K X.mg X.base k x C sp) (hr : Room j X.A) (hk : k + 1 ≤ j) (hg : Gl X x) (ha : PA X (e :: es) t)
    (hdb : (x == ("__debug__" : PySem.Str)) = false := by decide) (he : starEach (e :: es) X.env = (false, eval e X.env) :: starEach es X.env := by rfl) (hpl : (backTo pos (starEach es X.env)).any (·.1) = false := by rfl) :
    PE X (.Call (.Name x p) (e :: es) [] pos) (tMake C sp [] E0 t) := by
  obtain ⟨f, fd, ps, M, F, hm, b⟩ := c
  exact pe_make M F (hr.mono hk) hg hm b .nil pass0 ha hdb he hpl
theorem pe_c {k j : Nat} {x : PySem.Str} {sp : Sp} {p pos : Pos} {e : Expr} {es : List Expr} {t : TA} (c : Cal X.prog X.w X.K X.mg X.base k x sp) (hr : Room j X.A) (hk : k ≤ j) (hg : Gl X x) (ha : PA X (e :: es) t)
    (hdb : (x == ("__debug__" : PySem.Str)) = false := by decide) (he : starEach (e :: es) X.env = (false, eval e X.env) :: starEach es X.env := by rfl) (hpl : (backTo pos (starEach es X.env)).any (·.1) = false := by rfl) :
    PE X (.Call (.Name x p) (e :: es) [] pos) (tCall sp [] E0 t) := by
  obtain ⟨f, fd, ps, F, hm, kp, b⟩ := c
  exact pe_call F (hr.mono hk) hg hm kp b .nil pass0 ha hdb he hpl
theorem pe_mt {k j : Nat} {C : Addr} {m : PySem.Str} {sp : Sp} {pos apos : Pos} {o e : Expr} {es : List Expr} {ta : TE} {t : TA} {pl : Sem Bool} (c : Met X.prog X.w X.K X.mg X.base k C m sp) (hr : Room j X.A) (hk : k ≤ j) (he : PE X o ta) (ha : PA X (e :: es) t)
    (hst : starEach (e :: es) X.env = (false, eval e X.env) :: starEach es X.env := by rfl) (hpl : (backTo pos (starEach es X.env)).any (·.1) = false := by rfl)
    (ht : eval (.Call (.Attribute o m apos) (e :: es) [] pos) X.env = (do
      let ov ← eval o X.env
      standAt apos.atName
      let (fv, fst) ← holding [ov] (getMethod ov m pl)
      callWith pos fv fst (backTo pos (starEach (e :: es) X.env)) (backToKw pos (keywordEach [] X.env))) := by rfl) :
    PE X (.Call (.Attribute o m apos) (e :: es) [] pos) (tMeth C m sp [] E0 ta t) := by
  obtain ⟨f, fd, ps, hc, hm, F, b⟩ := c
  exact pe_meth (pl := pl) he hc hm F (hr.mono hk) b .nil pass0 ha hst hpl ht
theorem pe_mt0 {k j : Nat} {C : Addr} {m : PySem.Str} {sp : Sp} {pos apos : Pos} {o : Expr} {ta : TE} {pl : Sem Bool} (c : Met X.prog X.w X.K X.mg X.base k C m sp) (hr : Room j X.A) (hk : k ≤ j) (he : PE X o ta)
    (ht : eval (.Call (.Attribute o m apos) [] [] pos) X.env = (do
      let ov ← eval o X.env
      standAt apos.atName
      let (fv, fst) ← holding [ov] (getMethod ov m pl)
      callWith pos fv fst (backTo pos (starEach [] X.env)) (backToKw pos (keywordEach [] X.env))) := by rfl) :
    PE X (.Call (.Attribute o m apos) [] [] pos) (tMeth C m sp [] E0 ta tNil) := by
  obtain ⟨f, fd, ps, hc, hm, F, b⟩ := c
  exact pe_meth0 (pl := pl) he hc hm F (hr.mono hk) b .nil pass0 ht
/-- x op= e by the rule of the in-place operator -/
theorem ip_of {op : Operator} {r : R2} (h : OpR X (inplaceOp op) r) : PIp X op r := fun pins s σ H x y u v Q I rx ry q => h pins s σ H x y u v Q I rx ry q
/-- a list or a tuple, walked -/
def iSeq (K : PySem.W.Frag) (tl : TE) : TI := fun σ H R => iList K tl σ H R ∨ iTup K tl σ H R
theorem pi_seq {tg l : Expr} {tl : TE} (hl : PE X l tl) : PI X tg l (iSeq X.K tl) :=
  ⟨fun pins s σ H R I h => h.elim (fun a => (pi_list hl).run pins s σ H R I a) fun a => (pi_tup hl).run pins s σ H R I a⟩
end

/-! ### hidden places -/
/-- the heap without the places of B -/
def hid (B : List Addr) (H : Hp) : Hp := fun a => if a ∈ B then none else H a
theorem hid_in {B : List Addr} {H : Hp} {a : Addr} (h : a ∈ B) : hid B H a = none := by unfold hid; rw [if_pos h]
theorem hid_out {B : List Addr} {H : Hp} {a : Addr} (h : a ∉ B) : hid B H a = H a := by unfold hid; rw [if_neg h]
theorem hid_some {B : List Addr} {H : Hp} {a : Addr} {o : HO} : hid B H a = some o ↔ a ∉ B ∧ H a = some o := by
  unfold hid
  by_cases h : a ∈ B
  · rw [if_pos h]; exact ⟨fun e => (by cases e), fun e => absurd h e.1⟩
  · rw [if_neg h]; exact ⟨fun e => ⟨h, e⟩, fun e => e.2⟩
theorem hid_nil {H : Hp} : hid [] H = H := by funext a; unfold hid; rw [if_neg (by simp)]
theorem Same.tupq {K : PySem.W.Frag} {H H' : Hp} {a : Addr} {xs : List V} (e : Same H H') (h : SqT K H a xs) : SqT K H' a xs := by
  rcases h with (h | ⟨o, h⟩) | h
  · exact .inl (.inl (e _ _ h))
  · exact .inl (.inr ⟨o, e _ _ h⟩)
  · exact .inr h
theorem Same.hid {H H' : Hp} (B : List Addr) (e : Same H H') : Same (hid B H) (hid B H') := fun a o h => by
  rw [hid_some] at h ⊢
  exact ⟨h.1, e a o h.2⟩
theorem hid_sub {B : List Addr} {H : Hp} : Same (hid B H) H := fun _ _ h => (hid_some.mp h).2
theorem hid_mono {B B' : List Addr} {H : Hp} (h : ∀ a ∈ B, a ∈ B') : Same (hid B' H) (hid B H) := fun a o e =>
  hid_some.mpr ⟨fun z => (hid_some.mp e).1 (h a z), (hid_some.mp e).2⟩
theorem hid_upd {B : List Addr} {H : Hp} {p : Addr} {o : HO} (h : p ∈ B) : hid B (upd H p o) = hid B H := by
  funext a
  unfold hid
  by_cases ha : a ∈ B
  · rw [if_pos ha, if_pos ha]
  · rw [if_neg ha, if_neg ha]
    exact upd_ne fun e => ha (e ▸ h)
theorem Same.upd_new {H : Hp} {p : Addr} {o : HO} (h : H p = none) : Same H (upd H p o) := fun a u e => by
  rw [upd_ne (ne_of_none e h)]
  exact e
/-- behind a store at a hidden place -/
theorem same_hid_upd {B : List Addr} {H : Hp} {p : Addr} {o : HO} (h : p ∈ B) : Same (hid B H) (hid B (upd H p o)) := by
  rw [hid_upd h]
  exact Same.refl _
theorem same_upd_r {H0 H : Hp} {p : Addr} {o : HO} (e : Same H0 H) (h : H0 p = none) : Same H0 (upd H p o) := fun a u q => by
  rw [upd_ne (ne_of_none q h)]
  exact e a u q
/-- all of B is tracked -/
def Trk (B : List Addr) (H : Hp) : Prop := ∀ a ∈ B, H a ≠ none
theorem Trk.new {B : List Addr} {H : Hp} {p : Addr} (t : Trk B H) (h : H p = none) : p ∉ B := fun z => t p z h

/-! ### data -/
mutual
theorem dp_same {K : PySem.W.Frag} {H H' : Hp} (e : Same H H') : ∀ {v : V} {d : PyData}, Dp K H v d → Dp K H' v d
  | _, _, .non => .non
  | _, _, .bl b => .bl b
  | _, _, .int i => .int i
  | _, _, .str x => .str x
  | _, _, .lst h a => .lst (e.seq h) (dpa_same e a)
  | _, _, .tup h a => .tup (Own.Same.tupq e h) (dpa_same e a)
theorem dpa_same {K : PySem.W.Frag} {H H' : Hp} (e : Same H H') : ∀ {vs : List V} {ds : List PyData}, DpAll K H vs ds → DpAll K H' vs ds
  | _, _, .nil => .nil
  | _, _, .cons h t => .cons (dp_same e h) (dpa_same e t)
end
/-- the items of a list of data -/
theorem dpa_get {K : PySem.W.Frag} {H : Hp} : ∀ {vs : List V} {ds : List PyData} {i : Nat} {v : V}, DpAll K H vs ds → vs[i]? = some v → ∃ d, ds[i]? = some d ∧ Dp K H v d
  | _, _, 0, _, .cons h _, e => by
    have e' := Option.some.inj e
    subst e'
    exact ⟨_, rfl, h⟩
  | _, _, i + 1, v, .cons _ t, e => by
    obtain ⟨d, h1, h2⟩ := dpa_get (i := i) (v := v) t e
    exact ⟨d, h1, h2⟩
theorem dpa_get' {K : PySem.W.Frag} {H : Hp} : ∀ {vs : List V} {ds : List PyData} {i : Nat} {d : PyData}, DpAll K H vs ds → ds[i]? = some d → ∃ v, vs[i]? = some v ∧ Dp K H v d
  | _, _, 0, _, .cons h _, e => by
    have e' := Option.some.inj e
    subst e'
    exact ⟨_, rfl, h⟩
  | _, _, i + 1, d, .cons _ t, e => by
    obtain ⟨v, h1, h2⟩ := dpa_get' (i := i) (d := d) t e
    exact ⟨v, h1, h2⟩
theorem dpa_len {K : PySem.W.Frag} {H : Hp} : ∀ {vs : List V} {ds : List PyData}, DpAll K H vs ds → vs.length = ds.length
  | _, _, .nil => rfl
  | _, _, .cons _ t => by rw [List.length_cons, List.length_cons, dpa_len t]
theorem dpa_app {K : PySem.W.Frag} {H : Hp} : ∀ {vs ws : List V} {ds es : List PyData}, DpAll K H vs ds → DpAll K H ws es → DpAll K H (vs ++ ws) (ds ++ es)
  | _, _, _, _, .nil, b => b
  | _, _, _, _, .cons h t, b => .cons h (dpa_app t b)
theorem dpa_take {K : PySem.W.Frag} {H : Hp} : ∀ {vs : List V} {ds : List PyData} (n : Nat), DpAll K H vs ds → DpAll K H (vs.take n) (ds.take n)
  | _, _, 0, _ => .nil
  | _, _, _ + 1, .nil => .nil
  | _, _, n + 1, .cons h t => .cons h (dpa_take n t)
theorem dpa_drop {K : PySem.W.Frag} {H : Hp} : ∀ {vs : List V} {ds : List PyData} (n : Nat), DpAll K H vs ds → DpAll K H (vs.drop n) (ds.drop n)
  | _, _, 0, h => h
  | _, _, _ + 1, .nil => .nil
  | _, _, n + 1, .cons _ t => dpa_drop n t
theorem dpa_strs {K : PySem.W.Frag} {H : Hp} : ∀ (xs : List PySem.Str), DpAll K H (xs.map V.str) (xs.map PyData.str)
  | [] => .nil
  | x :: xs => .cons (.str x) (dpa_strs xs)
theorem dpa_ints {K : PySem.W.Frag} {H : Hp} : ∀ (ns : List Int), DpAll K H (ns.map V.int) (ns.map PyData.int)
  | [] => .nil
  | n :: ns => .cons (.int n) (dpa_ints ns)
theorem dpa_strs_inv {K : PySem.W.Frag} {H : Hp} : ∀ {vs : List V} {xs : List PySem.Str}, DpAll K H vs (xs.map PyData.str) → vs = xs.map V.str
  | _, [], .nil => rfl
  | _, _ :: _, .cons (.str _) t => by rw [dpa_strs_inv t]; rfl
theorem dpa_ints_inv {K : PySem.W.Frag} {H : Hp} : ∀ {vs : List V} {ns : List Int}, DpAll K H vs (ns.map PyData.int) → vs = ns.map V.int
  | _, [], .nil => rfl
  | _, _ :: _, .cons (.int _) t => by rw [dpa_ints_inv t]; rfl
theorem dp_list {K : PySem.W.Frag} {H : Hp} {v : V} {ds : List PyData} (h : Dp K H v (.list ds)) : ∃ a vs, v = .ref a ∧ SqL K H a vs ∧ DpAll K H vs ds := by
  cases h with
  | lst h a => exact ⟨_, _, rfl, h, a⟩
theorem dp_tup {K : PySem.W.Frag} {H : Hp} {v : V} {ds : List PyData} (h : Dp K H v (.tuple ds)) : ∃ a vs, v = .ref a ∧ SqT K H a vs ∧ DpAll K H vs ds := by
  cases h with
  | tup h a => exact ⟨_, _, rfl, h, a⟩
/-- a new list, a new tuple, of data that is there -/
theorem dp_new_l {K : PySem.W.Frag} {H : Hp} {p : Addr} {vs : List V} {ds : List PyData} (hp : H p = some (.lst vs)) (h : DpAll K H vs ds) : Dp K H (.ref p) (.list ds) := .lst (SqL.of hp) h
theorem dp_new_t {K : PySem.W.Frag} {H : Hp} {p : Addr} {vs : List V} {ds : List PyData} (hp : H p = some (.tup vs)) (h : DpAll K H vs ds) : Dp K H (.ref p) (.tuple ds) := .tup (SqT.of hp) h
/-- data away from B -/
abbrev Da (K : PySem.W.Frag) (B : List Addr) (H : Hp) (v : V) (d : PyData) : Prop := Dp K (hid B H) v d
abbrev DaAll (K : PySem.W.Frag) (B : List Addr) (H : Hp) (vs : List V) (ds : List PyData) : Prop := DpAll K (hid B H) vs ds
end Own

/-! Own rules, part D: operators on numbers from nought, on bools and texts; a letter for what is drawn. -/
namespace Own
open PySem PySem.Spec PyProof.Rows L2 Bits

theorem b_xor (a b : Nat) : Builtin.bitXor (a : Int) (b : Int) = ((a ^^^ b : Nat) : Int) := by
  rw [bitXor_pp (Int.natCast_nonneg a) (Int.natCast_nonneg b), Int.toNat_natCast, Int.toNat_natCast]
theorem b_or (a b : Nat) : Builtin.bitOr (a : Int) (b : Int) = ((a ||| b : Nat) : Int) := by
  rw [bitOr_pp (Int.natCast_nonneg a) (Int.natCast_nonneg b), Int.toNat_natCast, Int.toNat_natCast]
theorem b_and (a b : Nat) : Builtin.bitAnd (a : Int) (b : Int) = ((a &&& b : Nat) : Int) := by
  rw [bitAnd_pp (Int.natCast_nonneg a) (Int.natCast_nonneg b), Int.toNat_natCast, Int.toNat_natCast]
theorem b_len (n : Nat) : Builtin.Int.intBits (n : Int) = bl n := by
  unfold Builtin.Int.intBits bl
  by_cases h : n = 0
  · subst h; rfl
  · have h2 : ¬ ((n : Int) = 0) := by omega
    rw [if_neg h, if_neg (by simpa using h2), Int.natAbs_natCast]
theorem pow_cast (k : Nat) : (2 : Int) ^ k = ((2 ^ k : Nat) : Int) := by rw [Int.natCast_pow]; rfl

/-- two numbers from nought, under a condition -/
def rN (C : Nat → Nat → Prop) (g : Nat → Nat → Nat) : R2 := fun x y H Q => ∃ n m : Nat, x = .int (n : Int) ∧ y = .int (m : Int) ∧ C n m ∧ Q (.int ((g n m : Nat) : Int)) H
def rN0 (g : Nat → Nat → Nat) : R2 := fun x y H Q => ∃ n m : Nat, x = .int (n : Int) ∧ y = .int (m : Int) ∧ Q (.int ((g n m : Nat) : Int)) H
def rB0 (g : Nat → Nat → Bool) : R2 := fun x y H Q => ∃ n m : Nat, x = .int (n : Int) ∧ y = .int (m : Int) ∧ Q (.bl (g n m)) H
section
variable {X : Cx}
theorem on_of0 {f : Value → Value → Sem Value} {g : Int → Int → Int} {h : Nat → Nat → Nat} (r : OpR X f (rI0 fun i j => .int (g i j))) (e : ∀ n m : Nat, g n m = ((h n m : Nat) : Int)) : OpR X f (rN0 h) := by
  intro pins s σ H x y v u Q I rx ry z
  obtain ⟨n, m, rfl, rfl, q⟩ := z
  exact r pins s σ H _ _ v u Q I rx ry ⟨_, _, rfl, rfl, by show Q (.int (g n m)) H; rw [e]; exact q⟩
theorem on_of {f : Value → Value → Sem Value} {C : Int → Int → Prop} {D : Nat → Nat → Prop} {g : Int → Int → Int} {h : Nat → Nat → Nat} (r : OpR X f (rI C fun i j => .int (g i j))) (c : ∀ n m : Nat, D n m → C n m) (e : ∀ n m : Nat, g n m = ((h n m : Nat) : Int)) :
    OpR X f (rN D h) := by
  intro pins s σ H x y v u Q I rx ry z
  obtain ⟨n, m, rfl, rfl, d, q⟩ := z
  exact r pins s σ H _ _ v u Q I rx ry ⟨_, _, rfl, rfl, c n m d, by show Q (.int (g n m)) H; rw [e]; exact q⟩
theorem ob_of {f : Value → Value → Sem Value} {g : Int → Int → Bool} {h : Nat → Nat → Bool} (r : OpR X f (rI0 fun i j => .bl (g i j))) (e : ∀ n m : Nat, g n m = h n m) : OpR X f (rB0 h) := by
  intro pins s σ H x y v u Q I rx ry z
  obtain ⟨n, m, rfl, rfl, q⟩ := z
  exact r pins s σ H _ _ v u Q I rx ry ⟨_, _, rfl, rfl, by show Q (.bl (g n m)) H; rw [e]; exact q⟩
abbrev NMul (n m : Nat) : Prop := n < 2 ^ 64 ∨ m < 2 ^ 64
abbrev NDiv (_ m : Nat) : Prop := 0 < m ∧ m < 1073741824
abbrev NShl (n k : Nat) : Prop := k ≤ 1000000 ∧ n < 2 ^ 64
theorem on_add : OpR X (binaryOp .Add) (rN0 fun n m => n + m) := on_of0 op_add fun n m => (Int.natCast_add n m).symm
theorem on_sub : OpR X (binaryOp .Sub) (rN (fun n m => m ≤ n) fun n m => n - m) := by
  intro pins s σ H x y v u Q I rx ry z
  obtain ⟨n, m, rfl, rfl, c, q⟩ := z
  have e : (n : Int) - (m : Int) = ((n - m : Nat) : Int) := by omega
  exact op_sub pins s σ H _ _ v u Q I rx ry ⟨_, _, rfl, rfl, by show Q (.int ((n : Int) - (m : Int))) H; rw [e]; exact q⟩
theorem on_mul : OpR X (binaryOp .Mult) (rN NMul fun n m => n * m) := on_of op_mul (fun n m h => h.imp (fun h => ⟨by omega, by omega⟩) fun h => ⟨by omega, by omega⟩) fun n m => (Int.natCast_mul n m).symm
theorem on_fdiv : OpR X (binaryOp .FloorDiv) (rN NDiv fun n m => n / m) := on_of op_fdiv (fun n m h => ⟨by have := h.1; omega, by have := h.2; omega⟩) fun n m => (Int.natCast_ediv n m).symm
theorem on_mod : OpR X (binaryOp .Mod) (rN (fun _ m => 0 < m) fun n m => n % m) := on_of op_mod (fun n m h => by have : 0 < m := h; omega) fun n m => (Int.natCast_emod n m).symm
theorem on_shl : OpR X (binaryOp .LShift) (rN NShl fun n k => n * 2 ^ k) := on_of op_shl (fun n k h => ⟨by omega, by have := h.1; omega, by rw [Int.natAbs_natCast]; exact h.2⟩) fun n k => by
  rw [Int.toNat_natCast, pow_cast, Int.natCast_mul]
theorem on_shr : OpR X (binaryOp .RShift) (rN0 fun n k => n / 2 ^ k) := by
  intro pins s σ H x y v u Q I rx ry z
  obtain ⟨n, k, rfl, rfl, q⟩ := z
  refine op_shr pins s σ H _ _ v u Q I rx ry ⟨_, _, rfl, rfl, by show (0 : Int) ≤ _; omega, ?_⟩
  show Q (.int ((n : Int) / 2 ^ (k : Int).toNat)) H
  rw [Int.toNat_natCast, pow_cast, ← Int.natCast_ediv]
  exact q
theorem on_and : OpR X (binaryOp .BitAnd) (rN0 fun n m => n &&& m) := on_of0 op_and b_and
theorem on_or : OpR X (binaryOp .BitOr) (rN0 fun n m => n ||| m) := on_of0 op_or b_or
theorem on_xor : OpR X (binaryOp .BitXor) (rN0 fun n m => n ^^^ m) := on_of0 op_xor b_xor
theorem in_add : OpR X (inplaceOp .Add) (rN0 fun n m => n + m) := on_of0 iop_add fun n m => (Int.natCast_add n m).symm
theorem in_and : OpR X (inplaceOp .BitAnd) (rN0 fun n m => n &&& m) := on_of0 iop_and b_and
theorem in_or : OpR X (inplaceOp .BitOr) (rN0 fun n m => n ||| m) := on_of0 iop_or b_or
theorem in_xor : OpR X (inplaceOp .BitXor) (rN0 fun n m => n ^^^ m) := on_of0 iop_xor b_xor
/-- any whole number % a positive one: some number below it -/
def rMod : R2 := fun x y H Q => ∃ (i : Int) (m : Nat), x = .int i ∧ y = .int (m : Int) ∧ 0 < m ∧ ∀ r : Nat, r < m → (r : Int) = i % (m : Int) → Q (.int (r : Int)) H
theorem on_modI : OpR X (binaryOp .Mod) rMod := by
  intro pins s σ H x y v u Q I rx ry z
  obtain ⟨i, m, rfl, rfl, c, q⟩ := z
  have h0 : 0 ≤ i % (m : Int) := Int.emod_nonneg i (by omega)
  have h1 : i % (m : Int) < m := Int.emod_lt_of_pos i (by omega)
  have e : (((i % (m : Int)).toNat : Nat) : Int) = i % (m : Int) := Int.toNat_of_nonneg h0
  refine op_mod pins s σ H _ _ v u Q I rx ry ⟨_, _, rfl, rfl, by show (0 : Int) < _; omega, ?_⟩
  show Q (.int (i % (m : Int))) H
  rw [← e]
  exact q _ (by omega) e
theorem oc_lt : OpR X (compareOp .Lt) (rB0 fun n m => decide (n < m)) := ob_of op_lt fun n m => decide_eq_decide.mpr (by omega)
theorem oc_le : OpR X (compareOp .LtE) (rB0 fun n m => decide (n ≤ m)) := ob_of op_le fun n m => decide_eq_decide.mpr (by omega)
theorem oc_gt : OpR X (compareOp .Gt) (rB0 fun n m => decide (m < n)) := ob_of op_gt fun n m => decide_eq_decide.mpr (by omega)
theorem oc_ge : OpR X (compareOp .GtE) (rB0 fun n m => decide (m ≤ n)) := ob_of op_ge fun n m => decide_eq_decide.mpr (by omega)
theorem oc_eq : OpR X (compareOp .Eq) (rB0 fun n m => decide (n = m)) := by
  intro pins s σ H x y v u Q I rx ry z
  obtain ⟨n, m, rfl, rfl, q⟩ := z
  have e : decide (V.int (n : Int) = V.int (m : Int)) = decide (n = m) := decide_eq_decide.mpr ⟨fun h => by have := V.int.inj h; omega, fun h => by rw [h]⟩
  exact op_eq pins s σ H _ _ v u Q I rx ry ⟨rfl, by rw [e]; exact q⟩
theorem oc_ne : OpR X (compareOp .NotEq) (rB0 fun n m => !decide (n = m)) := by
  intro pins s σ H x y v u Q I rx ry z
  obtain ⟨n, m, rfl, rfl, q⟩ := z
  have e : decide (V.int (n : Int) = V.int (m : Int)) = decide (n = m) := decide_eq_decide.mpr ⟨fun h => by have := V.int.inj h; omega, fun h => by rw [h]⟩
  exact op_ne pins s σ H _ _ v u Q I rx ry ⟨rfl, by rw [e]; exact q⟩
/-- texts -/
def rS0 (g : PySem.Str → PySem.Str → Bool) : R2 := fun x y H Q => ∃ a b : PySem.Str, x = .str a ∧ y = .str b ∧ Q (.bl (g a b)) H
theorem os_eq : OpR X (compareOp .Eq) (rS0 fun a b => decide (a = b)) := by
  intro pins s σ H x y v u Q I rx ry z
  obtain ⟨a, b, rfl, rfl, q⟩ := z
  have e : decide (V.str a = V.str b) = decide (a = b) := decide_eq_decide.mpr ⟨V.str.inj, fun h => by rw [h]⟩
  exact op_eq pins s σ H _ _ v u Q I rx ry ⟨rfl, by rw [e]; exact q⟩
theorem os_ne : OpR X (compareOp .NotEq) (rS0 fun a b => !decide (a = b)) := by
  intro pins s σ H x y v u Q I rx ry z
  obtain ⟨a, b, rfl, rfl, q⟩ := z
  have e : decide (V.str a = V.str b) = decide (a = b) := decide_eq_decide.mpr ⟨V.str.inj, fun h => by rw [h]⟩
  exact op_ne pins s σ H _ _ v u Q I rx ry ⟨rfl, by rw [e]; exact q⟩
/-- bools -/
def rL0 (g : Bool → Bool → Bool) : R2 := fun x y H Q => ∃ a b : Bool, x = .bl a ∧ y = .bl b ∧ Q (.bl (g a b)) H
theorem ol_ne : OpR X (compareOp .NotEq) (rL0 fun a b => a != b) := by
  intro pins s σ H x y v u Q I rx ry z
  obtain ⟨a, b, rfl, rfl, q⟩ := z
  have e : (!decide (V.bl a = V.bl b)) = (a != b) := by cases a <;> cases b <;> rfl
  exact op_ne pins s σ H _ _ v u Q I rx ry ⟨rfl, by rw [e]; exact q⟩
theorem ol_eq : OpR X (compareOp .Eq) (rL0 fun a b => a == b) := by
  intro pins s σ H x y v u Q I rx ry z
  obtain ⟨a, b, rfl, rfl, q⟩ := z
  have e : decide (V.bl a = V.bl b) = (a == b) := by cases a <;> cases b <;> rfl
  exact op_eq pins s σ H _ _ v u Q I rx ry ⟨rfl, by rw [e]; exact q⟩
/-- n.bit_length() of a number from nought -/
def tBitsN (to : TE) : TE := fun σ H Q => to σ H fun x H1 => ∃ n : Nat, x = .int (n : Int) ∧ Q (.int ((bl n : Nat) : Int)) H1
/-- n as a test, a number from nought -/
def tTruN (t : TE) : TT := fun σ H Q => t σ H fun x H1 => ∃ n : Nat, x = .int (n : Int) ∧ Q (!decide (n = 0)) H1
/-- n % m where the left one may be any number -/
theorem pe_monoE {e : Expr} {t t' : TE} (h : PE X e t) (m : ∀ σ H Q, t' σ H Q → t σ H Q) : PE X e t' := ⟨fun pins s σ H Q I q => h.run pins s σ H Q I (m σ H Q q)⟩
theorem pt_monoE {e : Expr} {t t' : TT} (h : PT X e t) (m : ∀ σ H Q, t' σ H Q → t σ H Q) : PT X e t' := ⟨fun pins s σ H Q I q => h.run pins s σ H Q I (m σ H Q q)⟩
/-- a reading that lets its end be weakened -/
def up (t : TE) : TE := fun σ H Q => ∃ R : VK, t σ H R ∧ ∀ v H', R v H' → Q v H'
theorem pe_up {e : Expr} {t : TE} (h : PE X e t) : PE X e (up t) := by
  refine ⟨fun pins s σ H Q I q => ?_⟩
  obtain ⟨R, q, m⟩ := q
  exact thn (h.run pins s σ H R I q) fun v s1 ⟨x, H1, I1, r1, q1⟩ => ⟨x, H1, I1, r1, m _ _ q1⟩
theorem pe_bitsN {o : Expr} {to : TE} {apos pos : Pos} (ho : PE X o to) (hbase : attributeBase o "bit_length" X.env (eval o X.env) = eval o X.env := by rfl)
    (hline : (apos.endLine == pos.line) = true := by rfl) : PE X (.Call (.Attribute o "bit_length" apos) [] [] pos) (tBitsN to) :=
  pe_monoE (pe_bits (pe_up ho) hbase hline) fun _ _ _ q => ⟨_, q, fun _ _ ⟨n, e, z⟩ => ⟨n, e, by rw [b_len]; exact z⟩⟩
theorem pt_truN {a : Expr} {ta : TE} (ha : PE X a ta) (he : ∀ whole, isTrue a X.env whole = (do let v ← whole; standAt a.pos; holding [v] (truthy v)) := by intro _; rfl) : PT X a (tTruN ta) :=
  pt_monoE (pt_truth (pe_up ha) he) fun _ _ _ q => ⟨_, q, fun _ _ ⟨n, e, z⟩ => ⟨!decide (n = 0), by
    rw [e]
    show (!decide (n = 0)) = ((n : Int) != 0)
    rw [bne, Bool.beq_eq_decide_eq]
    congr 1
    exact decide_eq_decide.mpr (by omega), z⟩⟩
end
end Own

/-! Own rules, part E: walks that gather a list, a dict, a set; sums of numbers from nought. -/
namespace Own
open PySem PySem.Spec PyProof.Rows L2 Bits

theorem hid_one_new {H : Hp} {p : Addr} {o : HO} (h : H p = none) : hid [p] (upd H p o) = H := by
  funext a
  unfold hid
  by_cases e : a = p
  · subst e; simp [h]
  · rw [if_neg (by simpa using e)]; exact upd_ne e
theorem hid_one_upd {H : Hp} {p : Addr} {o : HO} : hid [p] (upd H p o) = hid [p] H := hid_upd List.mem_cons_self

section
variable {J : It} {n : Nat} {G : Hp → Prop} {Y : Nat → Hp → V → Hp → Prop}
/-- [e for x in .. if ..]: A speaks of the turn, the list so far and the heap without it -/
theorem lc_acc (w : Walk J n G Y) (hn : n ≤ 1000000) {g : TG} {tt : TT} {te : TE} {vs : List Nat} {σ : L2.St} {H1 : Hp} {D : Addr} {Qd : Hp → Prop} (hD : H1 D = none) (A : Nat → List V → Hp → Prop) (h0 : A 0 [] H1)
    (hG : ∀ i acc H, i ≤ n → H D = some (.lst acc) → A i acc (hid [D] H) → G H)
    (hs : ∀ i x acc H H', i < n → H D = some (.lst acc) → A i acc (hid [D] H) → Y i H x H' → g x (wipe σ vs) H' fun σ2 H2 => wipe σ2 vs = wipe σ vs ∧ tt σ2 H2 fun b H3 =>
      if b = true then te σ2 H3 fun y H4 => H4 D = some (.lst acc) ∧ A (i + 1) (acc ++ [y]) (hid [D] H4) else H3 D = some (.lst acc) ∧ A (i + 1) acc (hid [D] H3))
    (hd : ∀ acc H, H D = some (.lst acc) → A n acc (hid [D] H) → Qd H) (mono : ∀ σ H R R', (∀ v H', R v H' → R' v H') → te σ H R → te σ H R') (monoT : ∀ σ H R R', (∀ v H', R v H' → R' v H') → tt σ H R → tt σ H R')
    (monoG : ∀ x σ H R R', (∀ s H', R s H' → R' s H') → g x σ H R → g x σ H R') :
    ∃ W : Nat → Nat → Hp → Prop, (∃ m, W 0 m (upd H1 D (.lst []))) ∧ ∀ i m H, W i m H →
      (J.stop i H ∧ Qd H) ∨ (J.go i H ∧ ∃ Nx : Hp → Prop, (∀ H', Nx H' → ∃ m', m' < m ∧ W (i + 1) m' H') ∧ ∀ x H', J.yld i H x H' → g x (wipe σ vs) H' fun σ2 H2 => wipe σ2 vs = wipe σ vs ∧ tt σ2 H2 fun b H3 =>
        if b = true then te σ2 H3 fun y H4 => ∃ acc, H4 D = some (.lst acc) ∧ acc.length < sizeLine ∧ Nx (upd H4 D (.lst (acc ++ [y]))) else Nx H3) := by
  have sz : ∀ k, k ≤ n → k < sizeLine ∨ k = sizeLine := fun k hk => .inl (by rw [sizeLine_eq]; omega)
  refine lc_it w (fun i H => ∃ acc, H D = some (.lst acc) ∧ acc.length ≤ i ∧ A i acc (hid [D] H)) ⟨[], upd_same, Nat.le_refl _, by rw [hid_one_new hD]; exact h0⟩
    (fun i H hi ⟨acc, h1, _, h3⟩ => hG i acc H hi h1 h3) ?_ (fun H ⟨acc, h1, _, h3⟩ => hd acc H h1 h3)
  rintro i x H H' hi ⟨acc, h1, h2, h3⟩ y
  refine monoG x _ _ _ _ (fun σ2 H2 ⟨e, q⟩ => ⟨e, ?_⟩) (hs i x acc H H' hi h1 h3 y)
  refine monoT _ _ _ _ (fun b H3 q => ?_) q
  cases b with
  | true =>
    simp only [if_true] at q ⊢
    refine mono _ _ _ _ (fun y H4 ⟨z1, z2⟩ => ?_) q
    refine ⟨acc, z1, by rw [sizeLine_eq]; omega, acc ++ [y], upd_same, by rw [List.length_append, List.length_singleton]; omega, ?_⟩
    rw [hid_one_upd]
    exact z2
  | false =>
    simp only [Bool.false_eq_true, if_false] at q ⊢
    exact ⟨acc, q.1, by omega, q.2⟩
/-- {k: v for x in ..}: as lc_it -/
theorem dc_it (w : Walk J n G Y) {g : TG} {tt : TT} {tk tv : TE} {vs : List Nat} {σ : L2.St} {H1 : Hp} {D : Addr} {Qd : Hp → Prop} (Pv : Nat → Hp → Prop) (h0 : Pv 0 (upd H1 D (.dK []))) (hG : ∀ i H, i ≤ n → Pv i H → G H)
    (hs : ∀ i x H H', i < n → Pv i H → Y i H x H' → g x (wipe σ vs) H' fun σ2 H2 => wipe σ2 vs = wipe σ vs ∧ tt σ2 H2 fun b H3 =>
      if b = true then tk σ2 H3 fun y H4 => tv σ2 H4 fun z H5 => ∃ kvs k, y = kV k ∧ H5 D = some (.dK kvs) ∧ kvs.length < sizeLine ∧ Pv (i + 1) (upd H5 D (.dK (putK kvs k z))) else Pv (i + 1) H3) (hd : ∀ H, Pv n H → Qd H) :
    ∃ W : Nat → Nat → Hp → Prop, (∃ m, W 0 m (upd H1 D (.dK []))) ∧ ∀ i m H, W i m H →
      (J.stop i H ∧ Qd H) ∨ (J.go i H ∧ ∃ Nx : Hp → Prop, (∀ H', Nx H' → ∃ m', m' < m ∧ W (i + 1) m' H') ∧ ∀ x H', J.yld i H x H' → g x (wipe σ vs) H' fun σ2 H2 => wipe σ2 vs = wipe σ vs ∧ tt σ2 H2 fun b H3 =>
        if b = true then tk σ2 H3 fun y H4 => tv σ2 H4 fun z H5 => ∃ kvs k, y = kV k ∧ H5 D = some (.dK kvs) ∧ kvs.length < sizeLine ∧ Nx (upd H5 D (.dK (putK kvs k z))) else Nx H3) := by
  refine ⟨fun i m H => m = n - i ∧ i ≤ n ∧ Pv i H, ⟨n, by simp, Nat.zero_le _, h0⟩, ?_⟩
  rintro i m H ⟨rfl, hi, p⟩
  have q := hG i H hi p
  by_cases hlt : i < n
  · exact .inr ⟨w.goes i H hlt q, Pv (i + 1), fun H' p' => ⟨n - (i + 1), by omega, rfl, hlt, p'⟩, fun x H' y => hs i x H H' hlt p (w.yields i H x H' hlt q y)⟩
  · have e : i = n := by omega
    subst e
    exact .inl ⟨w.stops H q, hd H p⟩
/-- the inner loop of a set comprehension of two clauses, its outer one: by words alone -/
theorem walk_by {Qd : Hp → Prop} {B : Nat → (Hp → Prop) → V → Hp → Prop} (w : Walk J n G Y) (Pv : Nat → Hp → Prop) {H1 : Hp} (h0 : Pv 0 H1) (hG : ∀ i H, i ≤ n → Pv i H → G H)
    (hs : ∀ i x H H', i < n → Pv i H → Y i H x H' → B i (Pv (i + 1)) x H') (hd : ∀ H, Pv n H → Qd H) :
    ∃ W : Nat → Nat → Hp → Prop, (∃ m, W 0 m H1) ∧ ∀ i m H, W i m H → (J.stop i H ∧ Qd H) ∨ (J.go i H ∧ ∃ Nx : Hp → Prop, (∀ H', Nx H' → ∃ m', m' < m ∧ W (i + 1) m' H') ∧ ∀ x H', J.yld i H x H' → B i Nx x H') := by
  refine ⟨fun i m H => m = n - i ∧ i ≤ n ∧ Pv i H, ⟨n, by simp, Nat.zero_le _, h0⟩, ?_⟩
  rintro i m H ⟨rfl, hi, p⟩
  have q := hG i H hi p
  by_cases hlt : i < n
  · exact .inr ⟨w.goes i H hlt q, Pv (i + 1), fun H' p' => ⟨n - (i + 1), by omega, rfl, hlt, p'⟩, fun x H' y => hs i x H H' hlt p (w.yields i H x H' hlt q y)⟩
  · have e : i = n := by omega
    subst e
    exact .inl ⟨w.stops H q, hd H p⟩
end
/-- a list or a tuple of these items -/
def Sq (K : PySem.W.Frag) (H : Hp) (a : Addr) (xs : List V) : Prop := SqL K H a xs ∨ SqT K H a xs
theorem Sq.same {K : PySem.W.Frag} {H H' : Hp} {a : Addr} {xs : List V} (h : Sq K H a xs) (e : Same H H') : Sq K H' a xs := h.imp e.seq (Own.Same.tupq e)
/-- what stood as a list or a tuple at a stands so still -/
def KpSq (K : PySem.W.Frag) (H : Hp) (a : Addr) (xs : List V) (H' : Hp) : Prop := (SqL K H a xs → SqL K H' a xs) ∧ (SqT K H a xs → SqT K H' a xs)
theorem KpSq.of {K : PySem.W.Frag} {H H' : Hp} {a : Addr} {xs : List V} (e : Same H H') : KpSq K H a xs H' := ⟨e.seq, Own.Same.tupq e⟩
/-- walking a list or a tuple: one proof for both -/
theorem seq_go {K : PySem.W.Frag} {tl : TE} {σ : L2.St} {H H1 : Hp} {a : Addr} {xs : List V} {R : It → Hp → Prop} (hl : ∀ Q : VK, Q (.ref a) H1 → tl σ H Q) (hs : Sq K H1 a xs)
    (hR : ∀ J, Walk J xs.length (KpSq K H1 a xs) (YAt xs) → R J H1) : iSeq K tl σ H R := by
  rcases hs with h | h
  · exact .inl (hl _ ⟨a, rfl, ⟨xs, h⟩, hR _ (walk_list.mono (fun H q => q.1 h) fun _ _ _ _ _ _ y => y)⟩)
  · exact .inr (hl _ ⟨a, rfl, ⟨xs, h⟩, hR _ (walk_tup.mono (fun H q => q.2 h) fun _ _ _ _ _ _ y => y)⟩)
/-- sum(a list of numbers from nought) -/
def rSumN (K : PySem.W.Frag) : List V → Hp → VK → Prop := fun vs H Q => ∃ (a : Addr) (ns : List Nat), vs = [V.ref a] ∧ SqL K H a (ns.map fun (n : Nat) => V.int (n : Int)) ∧ Q (.int ((ns.sum : Nat) : Int)) H
theorem sum_cast : ∀ ns : List Nat, (ns.map fun (n : Nat) => (n : Int)).sum = ((ns.sum : Nat) : Int)
  | [] => rfl
  | n :: ns => by rw [List.map_cons, List.sum_cons, List.sum_cons, sum_cast ns, Int.natCast_add]
theorem cr_sumN {X : Cx} (hc : X.calm = true) : CallR X (.builtin "sum") (rSumN X.K) := by
  intro pins s σ H vs us Q I r h
  obtain ⟨a, ns, rfl, hs, q⟩ := h
  refine cr_sum hc pins s σ H [.ref a] us Q I r ⟨a, ns.map fun (n : Nat) => (n : Int), rfl, ?_, by rw [sum_cast]; exact q⟩
  rw [List.map_map]
  exact hs
end Own

/-! Own rules, part F: lists of texts in their order. -/
namespace Own
open PySem PySem.Spec PyProof.Rows L2 Bits

/-- walking a list or a tuple that stands in H0: what H0 had stays -/
theorem seq_goS {K : PySem.W.Frag} {tl : TE} {σ : L2.St} {H H1 H0 : Hp} {a : Addr} {xs : List V} {R : It → Hp → Prop} (hl : ∀ Q : VK, Q (.ref a) H1 → tl σ H Q) (hs : Sq K H0 a xs) (he : Same H0 H1)
    (hR : ∀ J, Walk J xs.length (fun H => Same H0 H) (YAt xs) → R J H1) : iSeq K tl σ H R := by
  rcases hs with h | h
  · exact .inl (hl _ ⟨a, rfl, ⟨xs, he.seq h⟩, hR _ (walk_list.mono (fun H q => q.seq h) fun _ _ _ _ _ _ y => y)⟩)
  · exact .inr (hl _ ⟨a, rfl, ⟨xs, Own.Same.tupq he h⟩, hR _ (walk_tup.mono (fun H q => Own.Same.tupq q h) fun _ _ _ _ _ _ y => y)⟩)
theorem same_none {H H' : Hp} {a : Addr} (e : Same H H') (h : H' a = none) : H a = none := by
  cases z : H a with
  | none => rfl
  | some o => rw [e _ _ z] at h; cases h
/-- behind a new place -/
theorem same_new {H H' : Hp} {a : Addr} {o : HO} (e : Same H H') (h : H' a = none) : Same H (upd H' a o) := e.trans (Same.upd_new h)
/-- a stands not behind b -/
def sle (a b : PySem.Str) : Prop := ltCps b.cps.toList a.cps.toList = false
theorem sle_iff {a b : PySem.Str} : sle a b ↔ a.cps.toList ≤ b.cps.toList := by
  unfold sle
  rw [ltCps_eq, decide_eq_false_iff_not]
  exact List.not_lt
theorem sle_trans {a b c : PySem.Str} (h : sle a b) (g : sle b c) : sle a c := sle_iff.mpr (List.le_trans (sle_iff.mp h) (sle_iff.mp g))
theorem sle_anti {a b : PySem.Str} (h : sle a b) (g : sle b a) : a = b := PySem.Str.ext' (Array.toList_inj.mp (List.le_antisymm (sle_iff.mp h) (sle_iff.mp g)))
theorem risingS_pw : ∀ (l : List PySem.Str) (p : PySem.Str), risingS p l = true → (p :: l).Pairwise sle
  | [], _, _ => List.pairwise_singleton ..
  | x :: r, p, h => by
    unfold risingS at h
    rw [Bool.and_eq_true] at h
    have h1 : sle p x := by unfold sle; simpa using h.1
    have ih := risingS_pw r x h.2
    refine List.pairwise_cons.mpr ⟨fun y hy => ?_, ih⟩
    rcases List.mem_cons.mp hy with e | e
    · rw [e]; exact h1
    · exact sle_trans h1 ((List.pairwise_cons.mp ih).1 y e)
theorem sortedS_pw {l : List PySem.Str} (h : sortedS l = true) : l.Pairwise sle := by
  cases l with
  | nil => exact List.Pairwise.nil
  | cons x r => exact risingS_pw r x h
/-- names in their order, each once -/
structure Asc (l : List PySem.Str) : Prop where
  pw : l.Pairwise sle
  nd : l.Nodup
theorem Asc.ext {l m : List PySem.Str} (h : Asc l) (g : Asc m) (e : ∀ z, z ∈ l ↔ z ∈ m) : l = m :=
  List.Perm.eq_of_pairwise (le := sle) (fun _ _ _ _ h g => sle_anti h g) h.pw g.pw ((List.perm_ext_iff_of_nodup h.nd g.nd).mpr e)
theorem Asc.filter {l : List PySem.Str} (h : Asc l) (f : PySem.Str → Bool) : Asc (l.filter f) := ⟨h.pw.filter _, h.nd.filter _⟩
theorem nodup_len {α : Type} [DecidableEq α] : ∀ {l m : List α}, l.Nodup → (∀ z ∈ l, z ∈ m) → l.length ≤ m.length
  | [], _, _, _ => Nat.zero_le _
  | x :: l, m, h, g => by
    obtain ⟨h1, h2⟩ := List.nodup_cons.mp h
    have hx := g x List.mem_cons_self
    have ih := nodup_len (l := l) (m := m.erase x) h2 fun z hz => (List.mem_erase_of_ne fun e => h1 (by rw [← e]; exact hz)).mpr (g z (List.mem_cons_of_mem _ hz))
    rw [List.length_erase_of_mem hx] at ih
    have := List.length_pos_of_mem hx
    rw [List.length_cons]
    omega
/-- the next name, if it is new -/
def addS (zs : List PySem.Str) (z : PySem.Str) : List PySem.Str := if z ∈ zs then zs else zs ++ [z]
theorem addS_mem {zs : List PySem.Str} {z y : PySem.Str} : y ∈ addS zs z ↔ y ∈ zs ∨ y = z := by
  unfold addS
  split
  · next h => exact ⟨.inl, fun q => q.elim id fun e => e ▸ h⟩
  · simp
theorem addS_nd {zs : List PySem.Str} {z : PySem.Str} (h : zs.Nodup) : (addS zs z).Nodup := by
  unfold addS
  split
  · exact h
  · next g => exact (List.perm_append_singleton z zs).nodup_iff.mpr (List.nodup_cons.mpr ⟨g, h⟩)
theorem addK_map (zs : List PySem.Str) (z : PySem.Str) : addK (zs.map Sum.inr) (Sum.inr z) = (addS zs z).map Sum.inr := by
  unfold addK addS
  by_cases h : z ∈ zs
  · rw [if_pos (hasK_iff.mpr (List.mem_map.mpr ⟨z, h, rfl⟩)), if_pos h]
  · rw [if_neg (fun e => h (by
      obtain ⟨y, hy, ey⟩ := List.mem_map.mp (hasK_iff.mp e)
      exact Sum.inr.inj ey ▸ hy)), if_neg h, List.map_append]
    rfl
end Own

/-! Own rules, part G: name = {k: v for ..}; rules whose readings name the fragment (for use inside a comprehension's block). -/
namespace Own
open PySem PySem.Spec PyProof.Rows L2

section
variable {X : Cx}
/-- name = {k: v for ..} on one line, the name a local -/
theorem ps_setDc {i : Nat} {y : PySem.Str} {py : Pos} {kx vx tg iter : Expr} {ifs : List Expr} {scope : Scope} {own : List (PySem.Str × Nat)} {pos spos : Pos} {wi : TI} {g : TG} {tt : TT} {tk tv : TE} (hc : X.calm = true) (hN : X.N.Nodup) (hy : X.N[i]? = some y) (hyl : X.env.scope.names.lookup y = some .local)
    (hsw : swapsWith (.DictComp kx vx [⟨tg, iter, ifs, 0⟩] scope pos) (some (.Name y py)) spos.line X.env = pure true) (hi : PI X tg iter wi) (ok : BlkOk X.N X.env.scope scope own)
    (hg : ∀ (s : Shared) (H : Hp) (C : Addr) (cl : List (PySem.Str × Addr)) (fp : List Addr), PG (X.blk s H scope (compEnvC scope cl C X.env) fp) tg g) (ht : ∀ (s : Shared) (H : Hp) (C : Addr) (cl : List (PySem.Str × Addr)) (fp : List Addr), PTs (X.blk s H scope (compEnvC scope cl C X.env) fp) ifs tt)
    (hk : ∀ (s : Shared) (H : Hp) (C : Addr) (cl : List (PySem.Str × Addr)) (fp : List Addr), PE (X.blk s H scope (compEnvC scope cl C X.env) fp) kx tk)
    (he : ∀ (s : Shared) (H : Hp) (C : Addr) (cl : List (PySem.Str × Addr)) (fp : List Addr), PE (X.blk s H scope (compEnvC scope cl C X.env) fp) vx tv) (hs : ∀ x, foldedSetIterable iter X.env x = pure x := by intro _; rfl) :
    PS X (.Assign [.Name y py] (.DictComp kx vx [⟨tg, iter, ifs, 0⟩] scope pos) spos) (tAsg (tDc wi g tt tk tv (own.map (·.2))) (gName i)) := by
  refine ⟨fun pins s σ H D I h => ?_⟩
  rw [exec_Assign_Name_used _ _ _ _ hsw]
  refine wpAny_bind (wpAny_standAt (wpAny_bind ?_))
  show wpAny _ X.A (do let _ ← comprehension (.DictComp kx vx [⟨tg, iter, ifs, 0⟩] scope pos) scope X.env (firstIterPos [⟨tg, iter, ifs, 0⟩] pos) newDict false (eval iter X.env) (some (assign (.Name y py) X.env))) _ _ s
  have h : tDc wi g tt tk tv (own.map (·.2)) σ H (fun x H1 => gName i x σ H1 D.nx) := h
  refine wpAny_bind (thn (dc_core (Qf := fun _ s' => SP X pins D .next s') hc hN I hi ok hg ht hk he hs h fun L C s' m H' I' q hn f => ?_) fun _ s' hq => wpAny_pure (wpAny_pure hq))
  show wpAny _ _ (assign (.Name y py) X.env (.ref L)) _ _ _
  refine wpAny_assign_Name (store_ok2 (v := V.ref L) I' hN hy (.inl hyl) rfl (fun s2 I2 ⟨a, sb, ha⟩ => ?_) (.inr hyl))
  obtain ⟨f0, f1, f2, f3, f4, f5⟩ := f
  have haC : C ≠ a := by
    rcases ha with z | z
    · rw [z]; exact f1
    · exact fun e => f4 y a z e.symm
  refine ⟨m, hn.sameBut sb haC, fun h3 sb3 => ?_⟩
  exact ⟨_, H', I2.turned (t' := s2.toks) (fun b o hb e => (sb3.2 b hb).trans e) f0 f1 f3 f4 f5, q⟩
theorem sw_dict {kx vx : Expr} {gs : List Comprehension} {scope : Scope} {pos py : Pos} {y : PySem.Str} {l : Nat} {env : Env} (hk : env.scope.kind = .function) (hy : env.scope.names.lookup y = some .local) (hl : (py.line == pos.line) = true)
    (ha : (scope.names.any fun (n, k) => n == y && (k == .local || k == .cell)) = false) : swapsWith (.DictComp kx vx gs scope pos) (some (.Name y py)) l env = pure true := by
  have ky : env.kindOf y = some .local := hy
  have hb : env.blockKind = .function := by unfold Env.blockKind; rw [hk]; rfl
  unfold swapsWith
  simp only [hb, ky, ha, Expr.pos, hl]
  rfl
end
section
variable {X : Cx} {K : PySem.W.Frag}
theorem ixL (e : X.K = K) : IxR X (rIxL K) := e ▸ ix_list
theorem ixT (e : X.K = K) : IxR X (rIxT K) := e ▸ ix_tup
theorem inSeq (e : X.K = K) : OpR X (compareOp .In) (rIn K false) := e ▸ op_in_seq
theorem isiK (e : X.K = K) : CallR X (.builtin "isinstance") (rIsi K) := e ▸ call_isi
def rTupleOf (K : PySem.W.Frag) : List V → Hp → VK → Prop := fun xs H Q => ∃ p ys, xs = [.ref p] ∧ ((SqL K H p ys ∧ ∀ l, H l = none → Q (.ref l) (upd H l (.tup ys))) ∨ (SqT K H p ys ∧ Q (.ref p) H))
theorem tupleK (e : X.K = K) : CallR X (.type "tuple") (rTupleOf K) := e ▸ call_tuple_of
def rListOf (K : PySem.W.Frag) : List V → Hp → VK → Prop := fun xs H Q => ∃ p ys, xs = [.ref p] ∧ (SqL K H p ys ∨ SqT K H p ys) ∧ ∀ l, H l = none → Q (.ref l) (upd H l (.lst ys))
theorem listK (e : X.K = K) : CallR X (.type "list") (rListOf K) := e ▸ call_list_of
theorem pi_seqK {tg l : Expr} {tl : TE} (e : X.K = K) (hl : PE X l tl) : PI X tg l (iSeq K tl) := e ▸ pi_seq hl
theorem pi_listK {tg l : Expr} {tl : TE} (e : X.K = K) (hl : PE X l tl) : PI X tg l (iList K tl) := e ▸ pi_list hl
theorem pi_tupK {tg l : Expr} {tl : TE} (e : X.K = K) (hl : PE X l tl) : PI X tg l (iTup K tl) := e ▸ pi_tup hl
end
end Own

/-! Own rules, part H: int(n), ranges of numbers from nought, slices of lists. -/
namespace Own
open PySem PySem.Spec PyProof.Rows L2

section
variable {X : Cx}
theorem intI : CallR X (.type "int") (fun xs H Q => ∃ i : Int, xs = [.int i] ∧ Q (.int i) H) := by
  intro pins s σ H xs us Q I r h
  exact call_int1 pins s σ H xs us Q I r (.inl h)
def iRngN (ta : TA) : TI := fun σ H R => ta σ H fun vs H1 => ∃ n : Nat, vs = [.int (n : Int)] ∧ n < 2 ^ 62 ∧ R (Itr 0 n) H1
def upA (t : TA) : TA := fun σ H Q => ∃ R : List V → Hp → Prop, t σ H R ∧ ∀ v H', R v H' → Q v H'
theorem pa_up {es : List Expr} {t : TA} (h : PA X es t) : PA X es (upA t) := by
  refine ⟨fun pos pins s σ H Q I q => ?_⟩
  obtain ⟨R, q, m⟩ := q
  exact thn (h.run pos pins s σ H R I q) fun us s1 ⟨vs, H1, I1, r1, q1⟩ => ⟨vs, H1, I1, r1, m _ _ q1⟩
theorem pi_rangeN {tg a : Expr} {ta : TA} {p pos : Pos} (hg : Gl X "range") (hm : X.mg "range" = none) (ha : PA X [a] ta)
    (hs : starEach [a] X.env = [(false, eval a X.env)] := by rfl) : PI X tg (.Call (.Name "range" p) [a] [] pos) (iRngN ta) := by
  refine ⟨fun pins s σ H R I h => (pi_range1 hg hm (pa_up ha) hs).run pins s σ H R I ⟨_, h, fun vs H1 q => ?_⟩⟩
  obtain ⟨n, e, hn, q⟩ := q
  refine ⟨(n : Int), e, by omega, by omega, ?_⟩
  rw [Int.toNat_natCast]
  exact q
theorem walk_rangeN {n : Nat} : Walk (Itr 0 n) n (fun _ => True) (YFn fun i => .int (i : Int)) :=
  walk_range.mono (fun _ h => h) fun i H x H' _ _ y => ⟨y.1, by rw [y.2]; simp⟩
end
/-- what follows the first statement (the second, the third) is shown once, from R -/
theorem seq1_rest {B C : TS} {D : Ends} {σ : L2.St} {H : Hp} (R : L2.St → Hp → Prop) (h : ∀ N : L2.St → Hp → Prop, (∀ σ H, R σ H → N σ H) → B { D with nx := N } σ H) (rest : ∀ σ H, R σ H → C D σ H) : tSeq B C D σ H := h (C D) rest
theorem seq2_rest {A B C : TS} {D : Ends} {σ : L2.St} {H : Hp} (R : L2.St → Hp → Prop) (h : ∀ N : L2.St → Hp → Prop, (∀ σ H, R σ H → N σ H) → tSeq A B { D with nx := N } σ H) (rest : ∀ σ H, R σ H → C D σ H) : tSeq A (tSeq B C) D σ H := h (C D) rest
theorem seq3_rest {A A2 B C : TS} {D : Ends} {σ : L2.St} {H : Hp} (R : L2.St → Hp → Prop) (h : ∀ N : L2.St → Hp → Prop, (∀ σ H, R σ H → N σ H) → tSeq A (tSeq A2 B) { D with nx := N } σ H) (rest : ∀ σ H, R σ H → C D σ H) : tSeq A (tSeq A2 (tSeq B C)) D σ H := h (C D) rest
theorem ixN_nat' {n j : Nat} (hj : j < n) : ixN n (j : Int) = some j := by
  unfold ixN
  rw [if_pos (by omega), if_pos (by omega), Int.toNat_natCast]
theorem cutV_take {xs : List V} {n : Nat} : cutV xs none (some (n : Int)) = xs.take n := by
  unfold cutV
  rw [HT.sIx_none, HT.sIx_nat, List.drop_zero, Nat.sub_zero]
  by_cases h : n ≤ xs.length
  · rw [Nat.min_eq_left h]
  · rw [Nat.min_eq_right (by omega), List.take_length, List.take_of_length_le (by omega)]
theorem cutV_drop {xs : List V} {n : Nat} : cutV xs (some (n : Int)) none = xs.drop n := by
  unfold cutV
  rw [HT.sIx_none, HT.sIx_nat]
  by_cases h : n ≤ xs.length
  · rw [Nat.min_eq_left h, ← List.length_drop, List.take_length]
  · rw [Nat.min_eq_right (by omega), List.drop_length, List.drop_eq_nil_of_le (by omega), List.take_nil]
theorem inV_strs (z : PySem.Str) : ∀ ns : List PySem.Str, inV (.str z) (ns.map V.str) = decide (z ∈ ns)
  | [] => rfl
  | y :: ns => by
    have ih := inV_strs z ns
    unfold inV at ih ⊢
    rw [List.map_cons, List.any_cons, ih]
    show ((y == z) || _) = _
    rw [Bool.eq_iff_iff, Bool.or_eq_true, decide_eq_true_iff, decide_eq_true_iff, List.mem_cons, beq_iff_eq]
    exact or_congr ⟨Eq.symm, Eq.symm⟩ Iff.rfl
theorem inV_nats (z : Nat) : ∀ ns : List Nat, inV (.int (z : Int)) (ns.map fun (n : Nat) => V.int (n : Int)) = decide (z ∈ ns)
  | [] => rfl
  | y :: ns => by
    have ih := inV_nats z ns
    unfold inV at ih ⊢
    rw [List.map_cons, List.any_cons, ih]
    show (((y : Int) == (z : Int)) || _) = _
    rw [Bool.eq_iff_iff, Bool.or_eq_true, decide_eq_true_iff, decide_eq_true_iff, List.mem_cons, beq_iff_eq]
    exact or_congr ⟨fun e => by omega, fun e => by omega⟩ Iff.rfl
theorem flat_strs (ns : List PySem.Str) : (ns.map V.str).all flatV = true := by
  rw [List.all_map]
  exact List.all_eq_true.mpr fun _ _ => rfl
theorem flat_nats (ns : List Nat) : (ns.map fun (n : Nat) => V.int (n : Int)).all flatV = true := by
  rw [List.all_map]
  exact List.all_eq_true.mpr fun _ _ => rfl
end Own

/-! Own rules, part I: data that may be compared. -/
namespace Own
open PySem PySem.Spec PyProof.Rows L2
/-- lists and tuples to the depth n, of texts, numbers, bools -/
def Nd : Nat → PyData → Prop
  | _, .none => True
  | _, .bool _ => True
  | _, .int _ => True
  | _, .str x => PyData.strOk x = true
  | 0, .list _ => False
  | 0, .tuple _ => False
  | n + 1, .list xs => ∀ x ∈ xs, Nd n x
  | n + 1, .tuple xs => ∀ x ∈ xs, Nd n x
  | _, .dict _ => False
theorem nd_all {n : Nat} (ih : ∀ d, Nd n d → d.canLay0 = true ∧ d.depth ≤ n) : ∀ xs : List PyData, (∀ x ∈ xs, Nd n x) → PyData.canLayAll0 xs = true ∧ PyData.depthAll xs ≤ n
  | [], _ => ⟨rfl, Nat.zero_le n⟩
  | x :: xs, h => by
    obtain ⟨a1, a2⟩ := ih x (h x List.mem_cons_self)
    obtain ⟨b1, b2⟩ := nd_all ih xs fun y hy => h y (List.mem_cons_of_mem _ hy)
    refine ⟨?_, ?_⟩
    · rw [PyData.canLayAll0, a1, b1]; rfl
    · rw [PyData.depthAll]; exact Nat.max_le.mpr ⟨a2, b2⟩
theorem nd_ok : ∀ (n : Nat) (d : PyData), Nd n d → d.canLay0 = true ∧ d.depth ≤ n
  | n, .none, _ => ⟨rfl, by rw [PyData.depth]; exact Nat.zero_le n⟩
  | n, .bool _, _ => ⟨rfl, by rw [PyData.depth]; exact Nat.zero_le n⟩
  | n, .int _, _ => ⟨rfl, by rw [PyData.depth]; exact Nat.zero_le n⟩
  | n, .str x, h => ⟨by rw [PyData.canLay0]; unfold Nd at h; exact h, by rw [PyData.depth]; exact Nat.zero_le n⟩
  | 0, .list xs, h => by unfold Nd at h; exact h.elim
  | 0, .tuple xs, h => by unfold Nd at h; exact h.elim
  | n + 1, .list xs, h => by
    unfold Nd at h
    obtain ⟨a, b⟩ := nd_all (nd_ok n) xs h
    exact ⟨by rw [PyData.canLay0]; exact a, by rw [PyData.depth]; omega⟩
  | n + 1, .tuple xs, h => by
    unfold Nd at h
    obtain ⟨a, b⟩ := nd_all (nd_ok n) xs h
    exact ⟨by rw [PyData.canLay0]; exact a, by rw [PyData.depth]; omega⟩
  | _, .dict _, h => by unfold Nd at h; exact h.elim
theorem Nd.shaped {n : Nat} {d : PyData} (h : Nd n d) (hn : n ≤ 64) : SeqAt.shaped d = true := by
  obtain ⟨a, b⟩ := nd_ok n d h
  unfold SeqAt.shaped
  rw [a, decide_eq_true (Nat.le_trans b hn)]
  rfl
theorem Nd.refl {n : Nat} {d : PyData} (h : Nd n d) : PyData.eqv d d = true := SeqAt.eqv_refl d (nd_ok n d h).1
/-- the two are one and the same datum: != is False -/
theorem ne_same {K : PySem.W.Frag} {H : Hp} {x y : V} {d : PyData} {n : Nat} {Q : VK} (hx : Dp K H x d) (hy : Dp K H y d) (h : Nd n d) (hn : n ≤ 64) (q : Q (.bl false) H) : rNeD K x y H Q :=
  ⟨d, d, hx, hy, h.shaped hn, h.shaped hn, by rw [h.refl]; exact q⟩
theorem dpa_nats {K : PySem.W.Frag} {H : Hp} : ∀ (ns : List Nat), DpAll K H (ns.map fun (n : Nat) => V.int (n : Int)) (ns.map fun (n : Nat) => PyData.int (n : Int))
  | [] => .nil
  | n :: ns => .cons (.int n) (dpa_nats ns)
theorem nd_nats {n : Nat} (ns : List Nat) : ∀ x ∈ (ns.map fun (n : Nat) => PyData.int (n : Int)), Nd n x := fun x hx => by
  obtain ⟨y, _, rfl⟩ := List.mem_map.mp hx
  cases n <;> exact trivial
theorem nd_strs {n : Nat} {ns : List PySem.Str} (h : ∀ z ∈ ns, PyData.strOk z = true) : ∀ x ∈ ns.map PyData.str, Nd n x := fun x hx => by
  obtain ⟨y, hy, rfl⟩ := List.mem_map.mp hx
  have := h y hy
  cases n <;> exact this
end Own
namespace Own
open PySem PySem.Spec PyProof.Rows L2
section
variable {X : Cx} {K : PySem.W.Frag} {o e : Expr} {es : List Expr} {to : TE} {t : TA} {apos cpos : Pos}
theorem pe_index (hK : X.K = K) (ho : PE X o to) (ha : PA X (e :: es) t) (hbase : attributeBase o "index" X.env (eval o X.env) = eval o X.env := by rfl)
    (hfew : ((backTo cpos (starEach (e :: es) X.env)).all (fun x => !x.1) && (backToKw cpos (keywordEach [] X.env)).all (fun x => x.1.isSome)
      && decide ((e :: es).length + ([] : List Keyword).length + (if ([] : List Keyword).isEmpty then 0 else 1) < 30)) = true := by rfl)
    (hline : (apos.endLine == cpos.line) = true := by rfl) (hst : starEach (e :: es) X.env = (false, eval e X.env) :: starEach es X.env := by rfl)
    (hpl : (backTo cpos (starEach es X.env)).any (·.1) = false := by rfl) : PE X (.Call (.Attribute o "index" apos) (e :: es) [] cpos) (tBM K "list" (rIndex K) to t) := by
  subst hK
  exact pe_bm PySem.F.plainAttrs_list PySem.F.slot_list_index PySem.F.type_list_index mt_index ho ha hbase hfew hline hst hpl
end
/-- a name set, and the next statement reached -/
theorem g_asg {te : TE} {g : TG} {i : Nat} {v : V} {σ : L2.St} {H : Hp} {B : TS} {D : Ends} {r : VK} {bk ct : L2.St → Hp → Prop} (h : te (σ.set i (some v)) H fun x H1 => g x (σ.set i (some v)) H1 (B D)) :
    gName i v σ H (Ends.nx ⟨tSeq (tAsg te g) B D, r, bk, ct⟩) := h
theorem g_if {c : TT} {A1 A2 : TS} {i : Nat} {v : V} {σ : L2.St} {H : Hp} {B : TS} {D : Ends} {r : VK} {bk ct : L2.St → Hp → Prop} (h : c (σ.set i (some v)) H fun b H1 => if b = true then A1 { D with nx := B D } (σ.set i (some v)) H1 else A2 { D with nx := B D } (σ.set i (some v)) H1) :
    gName i v σ H (Ends.nx ⟨tSeq (tIfS c A1 A2) B D, r, bk, ct⟩) := h
theorem or_op {r : R2} {te tb : TE} {u : TT} {σ : L2.St} {H : Hp} {Q : Bool → Hp → Prop} (h : te σ H fun x H1 => tb σ H1 fun y H2 => r x y H2 fun z H3 => ∃ k, z = .bl k ∧ if k = true then Q true H3 else u σ H3 Q) : tOr (tTest (tOp r te tb)) u σ H Q := h
theorem seq_asg {te : TE} {g : TG} {B : TS} {D : Ends} {σ : L2.St} {H : Hp} (h : te σ H fun x H1 => g x σ H1 (B D)) : tSeq (tAsg te g) B D σ H := h
theorem next_seq {A B : TS} {D : Ends} {σ : L2.St} {H : Hp} {r : VK} {bk ct : L2.St → Hp → Prop} (h : tSeq A B D σ H) : tNext ⟨tSeq A B D, r, bk, ct⟩ σ H := h
theorem call_cb {te : TE} {r : List V → Hp → VK → Prop} {sp : Sp} {E : XK} {σ : L2.St} {H : Hp} {Q : VK} (h : te σ H fun x H1 => r [x] H1 fun y H2 => sp [y] H2 Q E) : tCall sp [] E (tCons (tCB r (tCons te tNil)) tNil) σ H Q := h
end Own

/-! Own mathematics, part E: rings (lists up to turning), the least turning. -/
namespace Ring
section
variable {α β : Type}
/-- m is l, turned -/
def Rt (l m : List α) : Prop := ∃ u v, l = u ++ v ∧ m = v ++ u
theorem Rt.refl (l : List α) : Rt l l := ⟨[], l, rfl, (List.append_nil l).symm⟩
theorem Rt.symm {l m : List α} (h : Rt l m) : Rt m l := by
  obtain ⟨u, v, h1, h2⟩ := h
  exact ⟨v, u, h2, h1⟩
theorem Rt.of_eq {l m : List α} (h : l = m) : Rt l m := h ▸ Rt.refl l
theorem Rt.mid (a b : List α) : Rt (a ++ b) (b ++ a) := ⟨a, b, rfl, rfl⟩
theorem Rt.trans {l m n : List α} (h : Rt l m) (g : Rt m n) : Rt l n := by
  obtain ⟨u, v, rfl, rfl⟩ := h
  obtain ⟨x, y, h, rfl⟩ := g
  rcases List.append_eq_append_iff.mp h with ⟨a, rfl, rfl⟩ | ⟨a, rfl, rfl⟩
  · exact ⟨a, y ++ v, by simp, by simp⟩
  · exact ⟨u ++ x, a, by simp, by simp⟩
theorem Rt.map (f : α → β) {l m : List α} (h : Rt l m) : Rt (l.map f) (m.map f) := by
  obtain ⟨u, v, rfl, rfl⟩ := h
  exact ⟨u.map f, v.map f, List.map_append, List.map_append⟩
theorem Rt.rev {l m : List α} (h : Rt l m) : Rt l.reverse m.reverse := by
  obtain ⟨u, v, rfl, rfl⟩ := h
  exact ⟨v.reverse, u.reverse, List.reverse_append, List.reverse_append⟩
theorem Rt.perm {l m : List α} (h : Rt l m) : l.Perm m := by
  obtain ⟨u, v, rfl, rfl⟩ := h
  exact List.perm_append_comm
theorem Rt.len {l m : List α} (h : Rt l m) : l.length = m.length := h.perm.length_eq
theorem Rt.cut (l : List α) (k : Nat) : Rt l (l.drop k ++ l.take k) := ⟨l.take k, l.drop k, (List.take_append_drop k l).symm, rfl⟩

/-! ### order -/
structure Lin (lt : α → α → Bool) : Prop where
  irr : ∀ a, lt a a = false
  tr : ∀ a b c, lt a b = true → lt b c = true → lt a c = true
  tot : ∀ a b, lt a b = false → lt b a = false → a = b
theorem Lin.le_tr {lt : α → α → Bool} (h : Lin lt) {a b c : α} (h1 : lt b a = false) (h2 : lt c b = false) : lt c a = false := by
  cases e : lt c a with
  | false => rfl
  | true =>
    cases e2 : lt a b with
    | true => rw [h.tr c a b e e2] at h2; cases h2
    | false =>
      have := h.tot a b e2 h1
      subst this
      rw [h2] at e; cases e
variable [DecidableEq α] [DecidableEq β]
def lx (lt : α → α → Bool) : List α → List α → Bool
  | [], [] => false
  | [], _ :: _ => true
  | _ :: _, [] => false
  | x :: xs, y :: ys => if x = y then lx lt xs ys else lt x y
theorem lx_irr (lt : α → α → Bool) : ∀ l, lx lt l l = false
  | [] => rfl
  | x :: xs => by rw [lx, if_pos rfl]; exact lx_irr lt xs
theorem lx_tot {lt : α → α → Bool} (h : Lin lt) : ∀ l m, lx lt l m = false → lx lt m l = false → l = m
  | [], [], _, _ => rfl
  | [], _ :: _, h1, _ => by cases h1
  | _ :: _, [], _, h2 => by cases h2
  | x :: xs, y :: ys, h1, h2 => by
    rw [lx] at h1 h2
    by_cases e : x = y
    · subst e
      rw [if_pos rfl] at h1 h2
      rw [lx_tot h xs ys h1 h2]
    · rw [if_neg e] at h1
      rw [if_neg (Ne.symm e)] at h2
      exact absurd (h.tot x y h1 h2) e
theorem lx_tr {lt : α → α → Bool} (h : Lin lt) : ∀ l m n, lx lt l m = true → lx lt m n = true → lx lt l n = true
  | [], _, _ :: _, _, _ => rfl
  | [], [], [], h1, _ => by cases h1
  | [], _ :: _, [], _, h2 => by cases h2
  | _ :: _, [], _, h1, _ => by cases h1
  | _ :: _, _ :: _, [], _, h2 => by cases h2
  | x :: xs, y :: ys, z :: zs, h1, h2 => by
    rw [lx] at h1 h2 ⊢
    by_cases e : x = y
    · subst e
      rw [if_pos rfl] at h1
      by_cases e2 : x = z
      · subst e2
        rw [if_pos rfl] at h2 ⊢
        exact lx_tr h xs ys zs h1 h2
      · rw [if_neg e2] at h2 ⊢
        exact h2
    · rw [if_neg e] at h1
      by_cases e2 : y = z
      · subst e2
        rw [if_neg e]
        exact h1
      · rw [if_neg e2] at h2
        have h3 := h.tr x y z h1 h2
        by_cases e3 : x = z
        · subst e3
          rw [h.irr x] at h3
          cases h3
        · rw [if_neg e3]
          exact h3
theorem Lin.lx {lt : α → α → Bool} (h : Lin lt) : Lin (lx lt) := ⟨lx_irr lt, lx_tr h, lx_tot h⟩

/-- the first of the least -/
def mn (lt : α → α → Bool) (x : α) (xs : List α) : α := xs.foldl (fun a y => if lt y a = true then y else a) x
theorem mn_spec {lt : α → α → Bool} (h : Lin lt) : ∀ (xs : List α) (x : α), mn lt x xs ∈ x :: xs ∧ ∀ y ∈ x :: xs, lt y (mn lt x xs) = false
  | [], x => ⟨List.mem_cons_self, fun y hy => by
      obtain rfl := List.mem_singleton.mp hy
      exact h.irr y⟩
  | y :: ys, x => by
    obtain ⟨h1, h2⟩ := mn_spec h ys (if lt y x = true then y else x)
    have e : mn lt x (y :: ys) = mn lt (if lt y x = true then y else x) ys := rfl
    rw [e]
    refine ⟨?_, fun z hz => ?_⟩
    · rcases List.mem_cons.mp h1 with h1 | h1
      · rw [h1]
        by_cases q : lt y x = true
        · rw [if_pos q]; exact List.mem_cons_of_mem _ List.mem_cons_self
        · rw [if_neg q]; exact List.mem_cons_self
      · exact List.mem_cons_of_mem _ (List.mem_cons_of_mem _ h1)
    · have hb := h2 _ List.mem_cons_self
      rcases List.mem_cons.mp hz with rfl | hz
      · by_cases q : lt y z = true
        · rw [if_pos q] at hb ⊢
          refine h.le_tr hb ?_
          cases q2 : lt z y with
          | false => rfl
          | true =>
            have := h.tr z y z q2 q
            rw [h.irr] at this; cases this
        · rw [if_neg q] at hb ⊢
          exact hb
      · rcases List.mem_cons.mp hz with rfl | hz
        · by_cases q : lt z x = true
          · rw [if_pos q] at hb ⊢
            exact hb
          · rw [if_neg q] at hb ⊢
            exact h.le_tr hb (Bool.not_eq_true _ ▸ q)
        · exact h2 z (List.mem_cons_of_mem _ hz)

/-! ### the least turning -/
def Low (lt : α → α → Bool) (l : List α) (x : α) : Prop := x ∈ l ∧ ∀ y ∈ l, lt y x = false
def cands (l : List α) (x : α) : List (List α) := ((List.range l.length).filter fun k => decide (l[k]? = some x)).map fun k => l.drop k ++ l.take k
theorem mem_cands {l c : List α} {x : α} : c ∈ cands l x ↔ Rt l c ∧ c.head? = some x := by
  unfold cands
  rw [List.mem_map]
  constructor
  · rintro ⟨k, hk, rfl⟩
    obtain ⟨h1, h2⟩ := List.mem_filter.mp hk
    have h3 := List.mem_range.mp h1
    have h4 := of_decide_eq_true h2
    refine ⟨Rt.cut l k, ?_⟩
    rw [List.head?_append, List.head?_drop, h4]
    rfl
  · rintro ⟨⟨u, v, rfl, rfl⟩, h⟩
    cases v with
    | nil =>
      refine ⟨0, List.mem_filter.mpr ⟨List.mem_range.mpr ?_, decide_eq_true ?_⟩, by simp⟩
      · cases u with
        | nil => cases h
        | cons a u => simp
      · cases u with
        | nil => cases h
        | cons a u => simpa using h
    | cons a v =>
      refine ⟨u.length, List.mem_filter.mpr ⟨List.mem_range.mpr (by simp), decide_eq_true ?_⟩, by simp⟩
      rw [List.getElem?_append_right (Nat.le_refl _), Nat.sub_self]
      simpa using h
def IsLeast (lt : α → α → Bool) (l r : List α) : Prop := (l = [] ∧ r = []) ∨ ∃ x, Low lt l x ∧ r ∈ cands l x ∧ ∀ c ∈ cands l x, lx lt c r = false
theorem IsLeast.rt {lt : α → α → Bool} {l r : List α} (h : IsLeast lt l r) : Rt l r := by
  rcases h with ⟨rfl, rfl⟩ | ⟨x, _, h, _⟩
  · exact Rt.refl _
  · exact (mem_cands.mp h).1
theorem IsLeast.of_rt {lt : α → α → Bool} {l m r : List α} (e : Rt l m) (h : IsLeast lt l r) : IsLeast lt m r := by
  rcases h with ⟨rfl, rfl⟩ | ⟨x, ⟨h0, h1⟩, h2, h3⟩
  · refine .inl ⟨?_, rfl⟩
    have := e.len
    exact List.length_eq_zero_iff.mp this.symm
  · refine .inr ⟨x, ⟨e.perm.mem_iff.mp h0, fun y hy => h1 y (e.perm.mem_iff.mpr hy)⟩, ?_, fun c hc => h3 c ?_⟩
    · obtain ⟨a, b⟩ := mem_cands.mp h2
      exact mem_cands.mpr ⟨e.symm.trans a, b⟩
    · obtain ⟨a, b⟩ := mem_cands.mp hc
      exact mem_cands.mpr ⟨e.trans a, b⟩
theorem IsLeast.uniq {lt : α → α → Bool} (L : Lin lt) {l r r' : List α} (h : IsLeast lt l r) (g : IsLeast lt l r') : r = r' := by
  rcases h with ⟨rfl, rfl⟩ | ⟨x, ⟨h0, h1⟩, h2, h3⟩
  · rcases g with ⟨_, rfl⟩ | ⟨x, ⟨h0, h1⟩, h2, h3⟩
    · rfl
    · cases h0
  · rcases g with ⟨rfl, rfl⟩ | ⟨y, ⟨g0, g1⟩, g2, g3⟩
    · cases h0
    · obtain rfl := L.tot x y (g1 x h0) (h1 y g0)
      exact lx_tot L r r' (g3 r h2) (h3 r' g2)
def least (lt : α → α → Bool) (l : List α) : List α :=
  match l with
  | [] => []
  | x :: xs => match cands (x :: xs) (mn lt x xs) with
    | [] => []
    | c :: cs => mn (lx lt) c cs
theorem least_is {lt : α → α → Bool} (L : Lin lt) (l : List α) : IsLeast lt l (least lt l) := by
  cases l with
  | nil => exact .inl ⟨rfl, rfl⟩
  | cons x xs =>
    obtain ⟨h1, h2⟩ := mn_spec L xs x
    refine .inr ⟨mn lt x xs, ⟨h1, h2⟩, ?_⟩
    unfold least
    dsimp only
    cases e : cands (x :: xs) (mn lt x xs) with
    | nil =>
      exfalso
      obtain ⟨a, b, e2⟩ := List.append_of_mem h1
      have : (mn lt x xs :: b) ++ a ∈ cands (x :: xs) (mn lt x xs) := mem_cands.mpr ⟨⟨a, mn lt x xs :: b, e2, rfl⟩, rfl⟩
      rw [e] at this
      cases this
    | cons c cs =>
      exact mn_spec (Lin.lx L) cs c
theorem least_eq {lt : α → α → Bool} (L : Lin lt) {l r : List α} (h : IsLeast lt l r) : r = least lt l := h.uniq L (least_is L l)
theorem least_rt {lt : α → α → Bool} (L : Lin lt) (l : List α) : Rt l (least lt l) := (least_is L l).rt
theorem least_of_rt {lt : α → α → Bool} (L : Lin lt) {l m : List α} (h : Rt l m) : least lt l = least lt m := least_eq L ((least_is L l).of_rt h)
theorem least_least {lt : α → α → Bool} (L : Lin lt) (l : List α) : least lt (least lt l) = least lt l := (least_of_rt L (least_rt L l)).symm
/-- names in the place of numbers -/
theorem lx_map {lt : α → α → Bool} {lt' : β → β → Bool} {f : α → β} : ∀ {l m : List α}, (∀ a b, a ∈ l → b ∈ m → (f a = f b → a = b) ∧ lt' (f a) (f b) = lt a b) → lx lt' (l.map f) (m.map f) = lx lt l m
  | [], [], _ => rfl
  | [], _ :: _, _ => rfl
  | _ :: _, [], _ => rfl
  | x :: xs, y :: ys, h => by
    rw [List.map_cons, List.map_cons, lx, lx]
    obtain ⟨h1, h2⟩ := h x y List.mem_cons_self List.mem_cons_self
    by_cases e : x = y
    · subst e
      rw [if_pos rfl, if_pos rfl]
      exact lx_map fun a b ha hb => h a b (List.mem_cons_of_mem _ ha) (List.mem_cons_of_mem _ hb)
    · rw [if_neg e, if_neg fun z => e (h1 z)]
      exact h2
theorem IsLeast.map {lt : α → α → Bool} {lt' : β → β → Bool} {f : α → β} {l r : List α} (hf : ∀ a b, a ∈ l → b ∈ l → (f a = f b → a = b) ∧ lt' (f a) (f b) = lt a b) (h : IsLeast lt l r) : IsLeast lt' (l.map f) (r.map f) := by
  rcases h with ⟨rfl, rfl⟩ | ⟨x, ⟨h0, h1⟩, h2, h3⟩
  · exact .inl ⟨rfl, rfl⟩
  · obtain ⟨a, b⟩ := mem_cands.mp h2
    refine .inr ⟨f x, ⟨List.mem_map_of_mem h0, fun y hy => ?_⟩, mem_cands.mpr ⟨a.map f, ?_⟩, fun c hc => ?_⟩
    · obtain ⟨z, hz, rfl⟩ := List.mem_map.mp hy
      rw [(hf z x hz h0).2]
      exact h1 z hz
    · rw [List.head?_map, b]
      rfl
    · obtain ⟨⟨u, v, e1, rfl⟩, c2⟩ := mem_cands.mp hc
      obtain ⟨u', v', rfl, rfl, rfl⟩ := List.map_eq_append_iff.mp e1
      rw [← List.map_append] at c2 ⊢
      have hp : Rt (u' ++ v') (v' ++ u') := ⟨u', v', rfl, rfl⟩
      have hx : (v' ++ u').head? = some x := by
        rw [List.head?_map] at c2
        cases e : (v' ++ u').head? with
        | none => rw [e] at c2; cases c2
        | some y =>
          rw [e] at c2
          have hy : y ∈ u' ++ v' := hp.perm.mem_iff.mpr (List.mem_of_mem_head? e)
          rw [(hf y x hy h0).1 (Option.some.inj c2)]
      rw [lx_map fun p q hp' hq' => hf p q (hp.perm.mem_iff.mpr hp') (a.perm.mem_iff.mpr hq')]
      exact h3 _ (mem_cands.mpr ⟨hp, hx⟩)
theorem least_map {lt : α → α → Bool} {lt' : β → β → Bool} (L : Lin lt) (L' : Lin lt') {f : α → β} {l : List α} (hf : ∀ a b, a ∈ l → b ∈ l → (f a = f b → a = b) ∧ lt' (f a) (f b) = lt a b) : least lt' (l.map f) = (least lt l).map f :=
  (least_eq L' ((least_is L l).map hf)).symm
end
theorem lin_nat : Lin fun (a b : Nat) => decide (a < b) := ⟨fun a => decide_eq_false (Nat.lt_irrefl a), fun a b c h1 h2 => decide_eq_true (Nat.lt_trans (of_decide_eq_true h1) (of_decide_eq_true h2)), fun a b h1 h2 => by
  have := of_decide_eq_false h1
  have := of_decide_eq_false h2
  omega⟩
end Ring

/-! Own mathematics, part F: moves of rings. -/
namespace Ring
inductive Kd | swap | flip | both
  deriving DecidableEq
structure Gp where
  p : Nat
  q : Nat
  r : Nat
  s : Nat
section
variable {α β : Type}
def two : Kd → List α → List α → List α × List α
  | .swap, X, Y => (Y, X)
  | .flip, X, Y => (X.reverse, Y.reverse)
  | .both, X, Y => (Y.reverse, X.reverse)
def cut (l : List α) (p q : Nat) : List α := (l.take q).drop p
/-- the row behind a move, as it stands -/
def mv (k : Kd) (l : List α) (g : Gp) : List α := l.take g.p ++ (two k (cut l g.p g.q) (cut l g.r g.s)).1 ++ cut l g.q g.r ++ (two k (cut l g.p g.q) (cut l g.r g.s)).2 ++ l.drop g.s
def third : Kd → Kd → Kd
  | .swap, .flip => .both
  | .swap, _ => .flip
  | .flip, .swap => .both
  | .flip, _ => .swap
  | .both, .swap => .flip
  | .both, _ => .swap
theorem two_two (k : Kd) (X Y : List α) : two k (two k X Y).1 (two k X Y).2 = (X, Y) := by
  cases k <;> simp [two]
theorem two_third {f k : Kd} (h : k ≠ f) (X Y : List α) : two k (two f X Y).1 (two f X Y).2 = two (third f k) X Y := by
  cases k <;> cases f <;> first | exact absurd rfl h | simp [two, third]
theorem two_turn (k : Kd) (X Y : List α) : two k Y X = ((two k X Y).2, (two k X Y).1) := by cases k <;> rfl
theorem two_len (k : Kd) (X Y : List α) : (two k X Y).1.length = (if k = .flip then X.length else Y.length) ∧ (two k X Y).2.length = (if k = .flip then Y.length else X.length) := by
  cases k <;> simp [two]
theorem two_perm (k : Kd) (X Y : List α) : ((two k X Y).1 ++ (two k X Y).2).Perm (X ++ Y) := by
  cases k
  · exact List.perm_append_comm
  · exact (List.reverse_perm X).append (List.reverse_perm Y)
  · exact ((List.reverse_perm Y).append (List.reverse_perm X)).trans List.perm_append_comm
/-- a row in five parts -/
theorem parts {l : List α} {g : Gp} (h1 : g.p ≤ g.q) (h2 : g.q ≤ g.r) (h3 : g.r ≤ g.s) (h4 : g.s ≤ l.length) :
    ∃ A X B Y C, l = A ++ X ++ B ++ Y ++ C ∧ A.length = g.p ∧ X.length = g.q - g.p ∧ B.length = g.r - g.q ∧ Y.length = g.s - g.r ∧ C.length = l.length - g.s := by
  refine ⟨l.take g.p, cut l g.p g.q, cut l g.q g.r, cut l g.r g.s, l.drop g.s, ?_, ?_, ?_, ?_, ?_, ?_⟩
  · have a : ∀ (p q : Nat), p ≤ q → l.take p ++ cut l p q = l.take q := fun p q h => by
      unfold cut
      have e := List.take_append_drop p (l.take q)
      rw [List.take_take, Nat.min_eq_left h] at e
      exact e
    rw [a _ _ h1, a _ _ h2, a _ _ h3, List.take_append_drop]
  · rw [List.length_take]; omega
  · unfold cut; rw [List.length_drop, List.length_take]; omega
  · unfold cut; rw [List.length_drop, List.length_take]; omega
  · unfold cut; rw [List.length_drop, List.length_take]; omega
  · rw [List.length_drop]
theorem take_at (A L : List α) {p : Nat} (h : p = A.length) : (A ++ L).take p = A := by subst h; exact List.take_left
theorem drop_at (A L : List α) {p : Nat} (h : p = A.length) : (A ++ L).drop p = L := by subst h; exact List.drop_left
theorem cut_at (A X L : List α) {p q : Nat} (h : p = A.length) (h2 : q = A.length + X.length) : cut (A ++ X ++ L) p q = X := by
  unfold cut
  rw [take_at (A ++ X) L (by rw [List.length_append]; exact h2), drop_at A X h]
theorem mv_at (k : Kd) (A X B Y C : List α) {g : Gp} (h1 : g.p = A.length) (h2 : g.q = A.length + X.length) (h3 : g.r = A.length + X.length + B.length) (h4 : g.s = A.length + X.length + B.length + Y.length) :
    mv k (A ++ X ++ B ++ Y ++ C) g = A ++ (two k X Y).1 ++ B ++ (two k X Y).2 ++ C := by
  unfold mv
  have e1 : (A ++ X ++ B ++ Y ++ C).take g.p = A := by
    rw [List.append_assoc, List.append_assoc, List.append_assoc]; exact take_at A _ h1
  have e2 : cut (A ++ X ++ B ++ Y ++ C) g.p g.q = X := by
    rw [List.append_assoc (A ++ X ++ B), List.append_assoc (A ++ X)]; exact cut_at A X _ h1 h2
  have e3 : cut (A ++ X ++ B ++ Y ++ C) g.q g.r = B := by
    rw [List.append_assoc (A ++ X ++ B)]; exact cut_at (A ++ X) B _ (by rw [List.length_append]; exact h2) (by rw [List.length_append]; exact h3)
  have e4 : cut (A ++ X ++ B ++ Y ++ C) g.r g.s = Y := cut_at (A ++ X ++ B) Y _ (by rw [List.length_append, List.length_append]; exact h3) (by rw [List.length_append, List.length_append]; exact h4)
  have e5 : (A ++ X ++ B ++ Y ++ C).drop g.s = C := drop_at _ _ (by rw [List.length_append, List.length_append, List.length_append]; exact h4)
  rw [e1, e2, e3, e4, e5]
theorem mv_perm (k : Kd) {l : List α} {g : Gp} (h1 : g.p ≤ g.q) (h2 : g.q ≤ g.r) (h3 : g.r ≤ g.s) (h4 : g.s ≤ l.length) : (mv k l g).Perm l := by
  obtain ⟨A, X, B, Y, C, rfl, a, x, b, y, c⟩ := parts h1 h2 h3 h4
  rw [mv_at k A X B Y C (by omega) (by omega) (by omega) (by omega)]
  refine List.Perm.append_right C ?_
  rw [List.append_assoc A, List.append_assoc A, List.append_assoc A, List.append_assoc A]
  refine List.Perm.append_left A ?_
  have e1 : ((two k X Y).1 ++ B ++ (two k X Y).2).Perm (B ++ ((two k X Y).1 ++ (two k X Y).2)) := by
    rw [← List.append_assoc]
    exact List.perm_append_comm.append_right _
  have e2 : (X ++ B ++ Y).Perm (B ++ (X ++ Y)) := by
    rw [← List.append_assoc]
    exact List.perm_append_comm.append_right _
  exact e1.trans ((List.Perm.append_left B (two_perm k X Y)).trans e2.symm)
theorem mv_map (k : Kd) (f : α → β) (l : List α) (g : Gp) : mv k (l.map f) g = (mv k l g).map f := by
  unfold mv cut
  cases k <;> simp [two, List.map_take, List.map_drop, List.map_reverse]
/-- everything read backward -/
theorem mv_all (l : List α) {n : Nat} (h : n = l.length) : mv .flip l ⟨0, n, n, n⟩ = l.reverse := by
  subst h
  have e := mv_at .flip [] l [] [] [] (g := ⟨0, l.length, l.length, l.length⟩) rfl (by simp) (by simp) (by simp)
  simpa [two] using e
end

/-! ### pieces -/
section
variable {α β : Type} [DecidableEq α]
/-- each item stands twice -/
def Dbl (l : List α) : Prop := ∀ x ∈ l, l.count x = 2
def inner (l : List α) (g : Gp) : List α := cut l g.p g.q ++ cut l g.r g.s
structure Piece (l : List α) (g : Gp) : Prop where
  h1 : g.p ≤ g.q
  h2 : g.q ≤ g.r
  h3 : g.r ≤ g.s
  h4 : g.s ≤ l.length
  in2 : ∀ x ∈ inner l g, (inner l g).count x = 2
theorem Dbl.perm {l m : List α} (h : Dbl l) (p : l.Perm m) : Dbl m := fun x hx => by rw [← p.count_eq]; exact h x (p.mem_iff.mpr hx)
theorem inner_at (A X B Y C : List α) {g : Gp} (h1 : g.p = A.length) (h2 : g.q = A.length + X.length) (h3 : g.r = A.length + X.length + B.length) (h4 : g.s = A.length + X.length + B.length + Y.length) :
    inner (A ++ X ++ B ++ Y ++ C) g = X ++ Y := by
  unfold inner
  have e2 : cut (A ++ X ++ B ++ Y ++ C) g.p g.q = X := by
    rw [List.append_assoc (A ++ X ++ B), List.append_assoc (A ++ X)]; exact cut_at A X _ h1 h2
  have e4 : cut (A ++ X ++ B ++ Y ++ C) g.r g.s = Y := cut_at (A ++ X ++ B) Y _ (by rw [List.length_append, List.length_append]; exact h3) (by rw [List.length_append, List.length_append]; exact h4)
  rw [e2, e4]
/-- what is left of a row without a closed part is closed -/
theorem closed_rest {l P R : List α} (h : Dbl l) (p : l.Perm (P ++ R)) (c : ∀ x ∈ P, P.count x = 2) : ∀ x ∈ R, R.count x = 2 := fun x hx => by
  have h1 := h x (p.mem_iff.mpr (List.mem_append_right _ hx))
  rw [p.count_eq, List.count_append] at h1
  have h2 := List.count_pos_iff.mpr hx
  by_cases q : x ∈ P
  · have := c x q
    omega
  · have := List.count_eq_zero.mpr q
    omega
theorem closed_perm {P P' : List α} (p : P.Perm P') (c : ∀ x ∈ P, P.count x = 2) : ∀ x ∈ P', P'.count x = 2 := fun x hx => by
  rw [← p.count_eq]; exact c x (p.mem_iff.mpr hx)
/-- two stretches of a turned row, by the five parts -/
theorem piece_at {l : List α} (A X B Y C : List α) (e : l = A ++ X ++ B ++ Y ++ C) {g : Gp} (h1 : g.p = A.length) (h2 : g.q = A.length + X.length) (h3 : g.r = A.length + X.length + B.length) (h4 : g.s = A.length + X.length + B.length + Y.length)
    (c : ∀ x ∈ X ++ Y, (X ++ Y).count x = 2) : Piece l g := by
  subst e
  refine ⟨by omega, by omega, by omega, ?_, ?_⟩
  · simp only [List.length_append]; omega
  · rw [inner_at A X B Y C h1 h2 h3 h4]; exact c
end

/-! ### again -/
def gapsOf (a la b lb : Nat) : Gp := if a < b then ⟨a, a + la, b, b + lb⟩ else ⟨b, b + lb, a, a + la⟩
/-- the moves behind a first one -/
def again (f k : Kd) (g : Gp) (size b : Nat) : List (Kd × Gp) :=
  let one := if f = .flip then g.q - g.p else g.s - g.r
  let other := if f = .flip then g.s - g.r else g.q - g.p
  let s1 := (g.p + size - b) % size
  let s2 := (g.s - other + size - b) % size
  if s1 + one ≤ size ∧ s2 + other ≤ size then [(k, gapsOf s1 one s2 other)]
  else
    let rest := gapsOf ((g.p + one + size - b) % size) (g.s - other - g.p - one) ((g.s + size - b) % size) (size - g.s + g.p)
    if k = .swap then [(.swap, rest)] else [(if k = .flip then .both else .flip, rest), (.flip, ⟨0, size, size, size⟩)]
/-- the rows behind moves, each in normal form -/
def run {α : Type} [DecidableEq α] (lt : α → α → Bool) : List α → List (Kd × Gp) → List α
  | l, [] => l
  | l, (k, g) :: r => run lt (least lt (mv k l g)) r
/-- each move is a piece of the row that is there then -/
def Fits {α : Type} [DecidableEq α] (lt : α → α → Bool) : List α → List (Kd × Gp) → Prop
  | _, [] => True
  | l, (k, g) :: r => Piece l g ∧ Fits lt (least lt (mv k l g)) r
theorem mod_lo {x n : Nat} (h : x < n) : x % n = x := Nat.mod_eq_of_lt h
theorem mod_hi {x n : Nat} (h : n ≤ x) (h2 : x < 2 * n) : x % n = x - n := by
  rw [Nat.mod_eq_sub_mod h, Nat.mod_eq_of_lt (by omega)]
end Ring

set_option maxHeartbeats 1000000
/-! Own mathematics, part G: a second move behind a first one. -/
namespace Ring
section
variable {α : Type} [DecidableEq α] {lt : α → α → Bool}
theorem turn_at (U V : List α) {b : Nat} (h : b = U.length) : (U ++ V).drop b ++ (U ++ V).take b = V ++ U := by
  subst h
  rw [List.drop_left, List.take_left]
theorem split_at (l : List α) {n : Nat} (h : n ≤ l.length) : ∃ u v, l = u ++ v ∧ u.length = n ∧ v.length = l.length - n :=
  ⟨l.take n, l.drop n, (List.take_append_drop n l).symm, by rw [List.length_take]; omega, by rw [List.length_drop]⟩
theorem run_one {R T : List α} {k : Kd} {g : Gp} (L : Lin lt) (P : Piece R g) (h : Rt (mv k R g) T) : Fits lt R [(k, g)] ∧ run lt R [(k, g)] = least lt T :=
  ⟨⟨P, trivial⟩, least_of_rt L h⟩
theorem run_two {R T : List α} {k : Kd} {g : Gp} {n : Nat} (L : Lin lt) (hd : Dbl R) (hn : n = R.length) (P : Piece R g) (h : Rt (mv k R g).reverse T) :
    Fits lt R [(k, g), (.flip, ⟨0, n, n, n⟩)] ∧ run lt R [(k, g), (.flip, ⟨0, n, n, n⟩)] = least lt T := by
  have pm : R.Perm (least lt (mv k R g)) := (mv_perm k P.h1 P.h2 P.h3 P.h4).symm.trans (least_rt L _).perm
  have hn2 : n = (least lt (mv k R g)).length := by rw [hn]; exact pm.length_eq
  refine ⟨⟨P, piece_at [] (least lt (mv k R g)) [] [] [] (by simp) rfl (by simp [hn2]) (by simp [hn2]) (by simp [hn2]) ?_, trivial⟩, ?_⟩
  · rw [List.append_nil]
    exact hd.perm pm
  · show least lt (mv .flip (least lt (mv k R g)) ⟨0, n, n, n⟩) = _
    rw [mv_all _ hn2]
    exact least_of_rt L ((least_rt L _).symm.rev.trans h)
theorem gaps_lo {a la b lb : Nat} (h : a < b) : gapsOf a la b lb = ⟨a, a + la, b, b + lb⟩ := if_pos h
theorem gaps_hi {a la b lb : Nat} (h : b < a) : gapsOf a la b lb = ⟨b, b + lb, a, a + la⟩ := if_neg (by omega)
/-- the numbers of again -/
def againN (k : Kd) (a o m t size b : Nat) (l2 : Nat) : List (Kd × Gp) :=
  let s1 := (a + size - b) % size
  let s2 := (a + o + m + size - b) % size
  if s1 + o ≤ size ∧ s2 + t ≤ size then [(k, gapsOf s1 o s2 t)]
  else
    let rest := gapsOf ((a + o + size - b) % size) m ((a + o + m + t + size - b) % size) l2
    if k = .swap then [(.swap, rest)] else [(if k = .flip then .both else .flip, rest), (.flip, ⟨0, size, size, size⟩)]
theorem againN_ok (L : Lin lt) (k : Kd) {A P1 B P2 C R : List α} {a o m t size b : Nat} (ha : A.length = a) (ho : P1.length = o) (hm : B.length = m) (ht : P2.length = t) (hs : (A ++ P1 ++ B ++ P2 ++ C).length = size)
    (o0 : 0 < o) (t0 : 0 < t) (hd : Dbl (A ++ P1 ++ B ++ P2 ++ C)) (c : ∀ x ∈ P1 ++ P2, (P1 ++ P2).count x = 2) (hb : b < size) (hR : R = (A ++ P1 ++ B ++ P2 ++ C).drop b ++ (A ++ P1 ++ B ++ P2 ++ C).take b) :
    Fits lt R (againN k a o m t size b (C.length + a)) ∧ run lt R (againN k a o m t size b (C.length + a)) = least lt (A ++ (two k P1 P2).1 ++ B ++ (two k P1 P2).2 ++ C) := by
  have hs2 : a + o + m + t + C.length = size := by
    rw [← hs]; simp only [List.length_append]; omega
  have c2 : ∀ x ∈ P2 ++ P1, (P2 ++ P1).count x = 2 := closed_perm List.perm_append_comm c
  have cr : ∀ x ∈ B ++ (C ++ A), (B ++ (C ++ A)).count x = 2 := by
    refine closed_rest hd (P := P1 ++ P2) ?_ c
    have e : (A ++ P1 ++ B ++ P2 ++ C).Perm (P1 ++ B ++ P2 ++ (C ++ A)) := by
      have z : Rt (A ++ (P1 ++ B ++ P2 ++ C)) ((P1 ++ B ++ P2 ++ C) ++ A) := Rt.mid _ _
      have z2 := z.perm
      simpa only [List.append_assoc] using z2
    refine e.trans ?_
    rw [← List.append_assoc (P1 ++ P2)]
    refine List.Perm.append_right _ ?_
    rw [List.append_assoc, List.append_assoc]
    exact List.Perm.append_left _ List.perm_append_comm
  have cr2 : ∀ x ∈ (C ++ A) ++ B, ((C ++ A) ++ B).count x = 2 := closed_perm List.perm_append_comm cr
  have hdR : Dbl R := by
    rw [hR]
    exact hd.perm (Rt.cut _ b).perm
  have hRl : size = R.length := by
    rw [hR, ← (Rt.cut (A ++ P1 ++ B ++ P2 ++ C) b).len, hs]
  unfold againN
  by_cases b1 : b ≤ a
  · -- behind no stretch
    obtain ⟨A1, A2, rfl, l1, l2⟩ := split_at A (n := b) (by omega)
    have e : R = A2 ++ P1 ++ B ++ P2 ++ (C ++ A1) := by
      rw [hR]
      have z := turn_at A1 (A2 ++ P1 ++ B ++ P2 ++ C) l1.symm
      simpa only [List.append_assoc] using z
    rw [mod_hi (x := a + size - b) (by omega) (by omega), mod_hi (x := a + o + m + size - b) (by omega) (by omega), if_pos ⟨by omega, by omega⟩, gaps_lo (by omega)]
    refine run_one L (piece_at A2 P1 B P2 (C ++ A1) e (by show _ = _; dsimp only; omega) (by dsimp only; omega) (by dsimp only; omega) (by dsimp only; omega) c) ?_
    rw [e, mv_at k A2 P1 B P2 (C ++ A1) (by dsimp only; omega) (by dsimp only; omega) (by dsimp only; omega) (by dsimp only; omega)]
    exact ⟨A2 ++ (two k P1 P2).1 ++ B ++ (two k P1 P2).2 ++ C, A1, by simp, by simp⟩
  · by_cases b2 : b < a + o
    · -- in the first stretch
      obtain ⟨S1, S2, rfl, l1, l2⟩ := split_at P1 (n := b - a) (by omega)
      have e : R = S2 ++ B ++ P2 ++ (C ++ A) ++ S1 := by
        rw [hR]
        have z := turn_at (A ++ S1) (S2 ++ B ++ P2 ++ C) (b := b) (by rw [List.length_append]; omega)
        simpa only [List.append_assoc] using z
      rw [mod_lo (x := a + size - b) (by omega), if_neg (by omega), mod_hi (x := a + o + size - b) (by omega) (by omega), mod_hi (x := a + o + m + t + size - b) (by omega) (by omega), gaps_lo (by omega)]
      have e2 : R = S2 ++ B ++ P2 ++ (C ++ A) ++ S1 := e
      have Pc : Piece R ⟨a + o + size - b - size, a + o + size - b - size + m, a + o + m + t + size - b - size, a + o + m + t + size - b - size + (C.length + a)⟩ :=
        piece_at S2 B P2 (C ++ A) S1 e (by dsimp only; omega) (by dsimp only; omega) (by dsimp only; omega) (by simp only [List.length_append]; omega) cr
      have ev : ∀ k', mv k' R ⟨a + o + size - b - size, a + o + size - b - size + m, a + o + m + t + size - b - size, a + o + m + t + size - b - size + (C.length + a)⟩ = S2 ++ (two k' B (C ++ A)).1 ++ P2 ++ (two k' B (C ++ A)).2 ++ S1 := fun k' => by
        rw [e]
        exact mv_at k' S2 B P2 (C ++ A) S1 (by dsimp only; omega) (by dsimp only; omega) (by dsimp only; omega) (by simp only [List.length_append]; omega)
      cases k with
      | swap =>
        rw [if_pos rfl]
        refine run_one L Pc ?_
        rw [ev]
        exact ⟨S2 ++ C, A ++ P2 ++ B ++ S1, by simp [two], by simp [two]⟩
      | flip =>
        rw [if_neg (by decide), if_pos rfl]
        refine run_two L hdR hRl Pc ?_
        rw [ev]
        exact ⟨S1.reverse ++ B ++ P2.reverse ++ C, A ++ S2.reverse, by simp [two], by simp [two]⟩
      | both =>
        rw [if_neg (by decide), if_neg (by decide)]
        refine run_two L hdR hRl Pc ?_
        rw [ev]
        exact ⟨S1.reverse ++ C, A ++ P2.reverse ++ B ++ S2.reverse, by simp [two], by simp [two]⟩
    · by_cases b3 : b ≤ a + o + m
      · -- between the two
        obtain ⟨B1, B2, rfl, l1, l2⟩ := split_at B (n := b - a - o) (by omega)
        have e : R = B2 ++ P2 ++ (C ++ A) ++ P1 ++ B1 := by
          rw [hR]
          have z := turn_at (A ++ P1 ++ B1) (B2 ++ P2 ++ C) (b := b) (by rw [List.length_append, List.length_append]; omega)
          simpa only [List.append_assoc] using z
        rw [mod_lo (x := a + size - b) (by omega), mod_hi (x := a + o + m + size - b) (by omega) (by omega), if_pos ⟨by omega, by omega⟩, gaps_hi (by omega)]
        refine run_one L (piece_at B2 P2 (C ++ A) P1 B1 e (by dsimp only; omega) (by dsimp only; omega) (by simp only [List.length_append]; omega) (by simp only [List.length_append]; omega) c2) ?_
        rw [e, mv_at k B2 P2 (C ++ A) P1 B1 (by dsimp only; omega) (by dsimp only; omega) (by simp only [List.length_append]; omega) (by simp only [List.length_append]; omega), two_turn]
        exact ⟨B2 ++ (two k P1 P2).2 ++ C, A ++ (two k P1 P2).1 ++ B1, by simp, by simp⟩
      · by_cases b4 : b < a + o + m + t
        · -- in the second stretch
          obtain ⟨S1, S2, rfl, l1, l2⟩ := split_at P2 (n := b - a - o - m) (by omega)
          have e : R = S2 ++ (C ++ A) ++ P1 ++ B ++ S1 := by
            rw [hR]
            have z := turn_at (A ++ P1 ++ B ++ S1) (S2 ++ C) (b := b) (by rw [List.length_append, List.length_append, List.length_append]; omega)
            simpa only [List.append_assoc] using z
          rw [mod_lo (x := a + size - b) (by omega), mod_lo (x := a + o + m + size - b) (by omega), if_neg (by omega), mod_lo (x := a + o + size - b) (by omega), mod_hi (x := a + o + m + t + size - b) (by omega) (by omega), gaps_hi (by omega)]
          have Pc : Piece R ⟨a + o + m + t + size - b - size, a + o + m + t + size - b - size + (C.length + a), a + o + size - b, a + o + size - b + m⟩ :=
            piece_at S2 (C ++ A) P1 B S1 e (by dsimp only; omega) (by simp only [List.length_append]; omega) (by simp only [List.length_append]; omega) (by simp only [List.length_append]; omega) cr2
          have ev : ∀ k', mv k' R ⟨a + o + m + t + size - b - size, a + o + m + t + size - b - size + (C.length + a), a + o + size - b, a + o + size - b + m⟩ = S2 ++ (two k' (C ++ A) B).1 ++ P1 ++ (two k' (C ++ A) B).2 ++ S1 := fun k' => by
            rw [e]
            exact mv_at k' S2 (C ++ A) P1 B S1 (by dsimp only; omega) (by simp only [List.length_append]; omega) (by simp only [List.length_append]; omega) (by simp only [List.length_append]; omega)
          cases k with
          | swap =>
            rw [if_pos rfl]
            refine run_one L Pc ?_
            rw [ev]
            exact ⟨S2 ++ B ++ P1 ++ C, A ++ S1, by simp [two], by simp [two]⟩
          | flip =>
            rw [if_neg (by decide), if_pos rfl]
            refine run_two L hdR hRl Pc ?_
            rw [ev]
            exact ⟨S1.reverse ++ C, A ++ P1.reverse ++ B ++ S2.reverse, by simp [two], by simp [two]⟩
          | both =>
            rw [if_neg (by decide), if_neg (by decide)]
            refine run_two L hdR hRl Pc ?_
            rw [ev]
            exact ⟨S1.reverse ++ B ++ P1.reverse ++ C, A ++ S2.reverse, by simp [two], by simp [two]⟩
        · -- behind both
          obtain ⟨C1, C2, rfl, l1, l2⟩ := split_at C (n := b - a - o - m - t) (by omega)
          have e : R = (C2 ++ A) ++ P1 ++ B ++ P2 ++ C1 := by
            rw [hR]
            have z := turn_at (A ++ P1 ++ B ++ P2 ++ C1) C2 (b := b) (by rw [List.length_append, List.length_append, List.length_append, List.length_append]; omega)
            simpa only [List.append_assoc] using z
          rw [mod_lo (x := a + size - b) (by omega), mod_lo (x := a + o + m + size - b) (by omega), if_pos ⟨by omega, by omega⟩, gaps_lo (by omega)]
          refine run_one L (piece_at (C2 ++ A) P1 B P2 C1 e (by simp only [List.length_append]; omega) (by simp only [List.length_append]; omega) (by simp only [List.length_append]; omega) (by simp only [List.length_append]; omega) c) ?_
          rw [e, mv_at k (C2 ++ A) P1 B P2 C1 (by simp only [List.length_append]; omega) (by simp only [List.length_append]; omega) (by simp only [List.length_append]; omega) (by simp only [List.length_append]; omega)]
          exact ⟨C2, A ++ (two k P1 P2).1 ++ B ++ (two k P1 P2).2 ++ C1, by simp, by simp⟩
theorem again_ok (L : Lin lt) (f k : Kd) {l R : List α} {g : Gp} {b : Nat} (hd : Dbl l) (P : Piece l g) (h1 : g.p < g.q) (h2 : g.r < g.s) (hb : b < l.length) (hR : R = (mv f l g).drop b ++ (mv f l g).take b) :
    Fits lt R (again f k g l.length b) ∧ run lt R (again f k g l.length b) = least lt (if k = f then l else mv (third f k) l g) := by
  have pm := mv_perm f P.h1 P.h2 P.h3 P.h4
  have hin := P.in2
  obtain ⟨A, X, B, Y, C, e, a, x, m, y, c⟩ := parts P.h1 P.h2 P.h3 P.h4
  have p1 := P.h1
  have p2 := P.h2
  have p3 := P.h3
  have p4 := P.h4
  have e1 : ∀ k', mv k' l g = A ++ (two k' X Y).1 ++ B ++ (two k' X Y).2 ++ C := fun k' => by
    rw [e]
    exact mv_at k' A X B Y C (by omega) (by omega) (by omega) (by omega)
  have e2 : inner l g = X ++ Y := by
    rw [e]
    exact inner_at A X B Y C (by omega) (by omega) (by omega) (by omega)
  have el : l.length = g.p + (g.q - g.p) + (g.r - g.q) + (g.s - g.r) + (l.length - g.s) := by omega
  rw [e2] at hin
  obtain ⟨t1, t2⟩ := two_len f X Y
  rw [x, y] at t1 t2
  have hd2 : Dbl (mv f l g) := hd.perm pm.symm
  have hR2 := hR
  have hl2 := pm.length_eq
  rw [e1 f] at hd2 hR2 hl2
  have ht : (if k = f then l else mv (third f k) l g) = A ++ (two k (two f X Y).1 (two f X Y).2).1 ++ B ++ (two k (two f X Y).1 (two f X Y).2).2 ++ C := by
    by_cases q : k = f
    · subst q
      rw [if_pos rfl, two_two, ← e]
    · rw [if_neg q, e1, two_third q]
  rw [ht]
  have key := againN_ok L k (a := g.p) (o := if f = .flip then g.q - g.p else g.s - g.r) (m := g.r - g.q) (t := if f = .flip then g.s - g.r else g.q - g.p) (size := l.length) (b := b)
    a t1 m t2 hl2 (by split <;> omega) (by split <;> omega) hd2 (closed_perm (two_perm f X Y).symm hin) hb hR2
  have ea : again f k g l.length b = againN k g.p (if f = .flip then g.q - g.p else g.s - g.r) (g.r - g.q) (if f = .flip then g.s - g.r else g.q - g.p) l.length b (C.length + g.p) := by
    unfold again againN
    dsimp only
    have z1 : g.s - (if f = .flip then g.s - g.r else g.q - g.p) = g.p + (if f = .flip then g.q - g.p else g.s - g.r) + (g.r - g.q) := by split <;> omega
    have z2 : g.p + (if f = .flip then g.q - g.p else g.s - g.r) + (g.r - g.q) - g.p - (if f = .flip then g.q - g.p else g.s - g.r) = g.r - g.q := by split <;> omega
    have z3 : g.p + (if f = .flip then g.q - g.p else g.s - g.r) + (g.r - g.q) + (if f = .flip then g.s - g.r else g.q - g.p) = g.s := by split <;> omega
    rw [z1, z2, z3, c]
  rw [ea]
  exact key
end
end Ring

/-! Own rules, part O: what is never reached; the least of a list or a tuple of data; count of a tuple; enumerate over a tuple, from a number on. -/
namespace Own
open PySem PySem.Spec PyProof.Rows L2
section
variable {X : Cx}
/-- never reached -/
theorem ps_never {st : Stmt} : PS X st (fun _ _ _ => False) := ⟨fun _ _ _ _ _ _ h => h.elim⟩
theorem pss_never {ss : List Stmt} : PSs X ss (fun _ _ _ => False) := ⟨fun _ _ _ _ _ _ h => h.elim⟩
theorem pe_never {e : Expr} : PE X e (fun _ _ _ => False) := ⟨fun _ _ _ _ _ _ h => h.elim⟩
theorem pt_never {e : Expr} : PT X e (fun _ _ _ => False) := ⟨fun _ _ _ _ _ _ h => h.elim⟩
theorem pw_never {e : Expr} : PW X e (fun _ _ _ => False) := ⟨fun _ _ _ _ _ _ _ h => h.elim⟩

/-! ### the least -/
/-- min(xs): an item that is the first of the least -/
def rMinD (α : Type) [DecidableEq α] [PySem.W.DatumOrd α] (K : PySem.W.Frag) : List V → Hp → VK → Prop := fun as H Q => ∃ (a : Addr) (vs : List V) (x : α) (xs : List α), as = [V.ref a] ∧ Sq K H a vs ∧ DpAll K H vs ((x :: xs).map PySem.W.Datum.toD) ∧ (∀ y ∈ x :: xs, (PySem.W.Datum.toD y).canLay0 = true) ∧
  (∀ y z : α, PySem.W.Datum.toD y = PySem.W.Datum.toD z → y = z) ∧ ∀ (i : Nat) (v : V), vs[i]? = some v → (x :: xs)[i]? = some (PySem.W.minOf x xs) → Q v H
theorem minOf_mem {α : Type} [DecidableEq α] [PySem.W.DatumOrd α] (x : α) (xs : List α) : PySem.W.minOf x xs ∈ x :: xs := by
  unfold PySem.W.minOf
  induction xs generalizing x with
  | nil => exact List.mem_cons_self
  | cons y ys ih =>
    rw [List.foldl_cons]
    have h := ih (if PySem.W.DatumOrd.lt y x = true then y else x)
    rcases List.mem_cons.mp h with h | h
    · rw [h]
      split
      · exact List.mem_cons_of_mem _ List.mem_cons_self
      · exact List.mem_cons_self
    · exact List.mem_cons_of_mem _ (List.mem_cons_of_mem _ h)
theorem cr_minD {α : Type} [DecidableEq α] [PySem.W.DatumOrd α] (hc : X.calm = true) (hu : X.A.units + 1 + PySem.W.Datum.depth α < cLine) : CallR X (.builtin "min") (rMinD α X.K) := by
  intro pins s σ H as us Q I r h
  obtain ⟨a, vs, x, xs, rfl, hs, hd, hcan, hinj, q⟩ := h
  rw [Vals.ref1 r]
  have fin : ∀ (its : List Value), Vals vs its → ∀ (i : Nat) (u : Value) (h' : Heap) (tk : Nat), its.toArray[i]? = some u → PySem.W.Holds h' u (PySem.W.minOf x xs) → (∀ b o, s.heap.get? b = some o → h'.get? b = some o) → EP X pins σ Q u { s with heap := h', toks := tk } := by
    intro its rv i u h' tk hi hh kp
    have I' : Inv X pins σ H { s with heap := h', toks := tk } := I.kept (t' := tk) kp
    obtain ⟨v, hv, ru⟩ : ∃ v, vs[i]? = some v ∧ RelV v u := by
      have hl := rv.length
      have hi2 : its[i]? = some u := by simpa using hi
      cases e : vs[i]? with
      | none =>
        have h1 := List.getElem?_eq_none_iff.mp e
        have h2 : i < its.length := (List.getElem?_eq_some_iff.mp hi2).1
        omega
      | some v =>
        obtain ⟨u', hu', ru'⟩ := rv.get e
        rw [hi2] at hu'
        cases hu'
        exact ⟨v, rfl, ru'⟩
    obtain ⟨d, hd1, hd2⟩ := dpa_get hd hv
    obtain ⟨as', hr1⟩ := Dp.reads I' d v u hd2 ru
    obtain ⟨bs', hr2⟩ := hh
    rw [List.getElem?_map] at hd1
    cases e : (x :: xs)[i]? with
    | none => rw [e] at hd1; cases hd1
    | some y =>
      rw [e] at hd1
      obtain rfl : PySem.W.Datum.toD y = d := Option.some.inj hd1
      have hy : y ∈ x :: xs := List.mem_of_getElem? e
      have e3 := PySem.SeqAt.Reads.unique _ _ _ _ _ (hcan y hy) hr1 hr2
      refine ⟨v, H, I', ru, q i v hv ?_⟩
      rw [e, hinj _ _ e3]
  rcases hs with hs | hs
  · obtain ⟨its, rv, pl, _⟩ := I.list hs
    obtain ⟨as', hr⟩ := Dp.readsAll I _ _ its hd rv
    exact PySem.W.min_list_datum (I.ok.hd hc) pl.isList ⟨as', by simpa using hr⟩ hu fun i u h' tk hi hh kp => fin its rv i u h' tk hi hh kp
  · obtain ⟨its, rv, pt, _⟩ := I.tuple hs
    obtain ⟨as', hr⟩ := Dp.readsAll I _ _ its hd rv
    exact PySem.W.min_tuple_datum (I.ok.hd hc) pt ⟨as', by simpa using hr⟩ hu fun i u h' tk hi hh kp => fin its rv i u h' tk hi hh kp

/-! ### t.count(x), t a tuple of texts -/
def rCntT (K : PySem.W.Frag) : V → List V → Hp → VK → Prop := fun x xs H Q => ∃ (p : Addr) (ns : List PySem.Str) (z : PySem.Str), x = .ref p ∧ xs = [.str z] ∧ SqT K H p (ns.map V.str) ∧ Q (.int ((ns.count z : Nat) : Int)) H
theorem mt_tcount (hu : X.A.units + 1 < cLine) : MtR X "tuple.count" (rCntT X.K) := by
  intro pins s σ H x xs v us Q I rx rxs h
  obtain ⟨p, ns, z, rfl, rfl, hs, q⟩ := h
  cases rx
  obtain ⟨u, rfl, ru⟩ := rxs.one
  obtain ⟨t, rfl⟩ := ru
  obtain ⟨its, rv, pt, _⟩ := I.tuple hs
  refine PySem.W.count_tuple_datum (α := PySem.Str) (xs := ns) (x := z) pt (PySem.W.HoldAll.of_strs (by simpa using rv.strs)) (PySem.W.holds_str z t) (by show X.A.units + 1 + 0 < cLine; omega) ?_
  refine ⟨.int ((ns.count z : Nat) : Int), H, I.tok _, ⟨s.toks, ?_⟩, q⟩
  congr 2

/-! ### enumerate(a tuple, start = c) -/
def Itu (K : PySem.W.Frag) (a : Addr) (c : Nat) : It :=
  ⟨fun i H => ∃ (xs : List V) (x : V), SqT K H a xs ∧ xs[i]? = some x,
   fun i H v H' => ∃ T x, v = .ref T ∧ H T = none ∧ H' = upd H T (.tup [.int ((c + i : Nat) : Int), x]) ∧ ∀ xs, SqT K H a xs → xs[i]? = some x,
   fun i H => ∃ xs : List V, SqT K H a xs ∧ xs.length ≤ i⟩
theorem turn_enumT {P : Program} {w : World} {K : PySem.W.Frag} {elts : List Expr} {kk : Nat} {tpos : Pos} (a e it : Addr) (c : Nat) :
    Turn P w K (.Tuple elts kk tpos) (Itu K a c) [e, it] e (fun i h => (∃ old, IsEnum h e it ((c : Int) + ((i : Nat) : Int)) old) ∧ h.IsTupleIter it a i ∧ e ≠ it ∧ a ≠ e ∧ a ≠ it) where
  mem := by simp
  obj := fun i h st b hb => by
    obtain ⟨⟨old, he⟩, ⟨o, ho, hc, hd⟩, _⟩ := st
    rcases (by simpa using hb : b = e ∨ b = it) with z | z
    · rw [z]
      exact ⟨_, he, fun v q => nomatch q⟩
    · rw [z]
      exact ⟨o, ho, fun v q => by rw [hd] at q; cases q⟩
  keep := fun i h h' st k => let ⟨⟨old, he⟩, hi, hne⟩ := st; ⟨⟨old, k e (by simp) _ he⟩, hi.at fun o q => k it (by simp) o q, hne⟩
  item := by
    intro X hP hw hK hcalm i pins s σ H E I hf st hg
    subst hP hw hK
    obtain ⟨⟨old, he⟩, hit, hne, ha1, ha2⟩ := st
    obtain ⟨xs, x, hq, hx⟩ := hg
    obtain ⟨its, rv, p, hz⟩ := I.tuple hq
    obtain ⟨u, hu, ru⟩ := rv.get hx
    have hel : e < s.heap.objs.size := Heap.lt_size he
    have hil : it < s.heap.objs.size := by obtain ⟨_, q, _⟩ := hit; exact Heap.lt_size q
    have hi : i < its.toArray.size := by
      have := (List.getElem?_eq_some_iff.mp hu).1
      simpa using this
    refine wpAny_pyNext_enum_itemC (Draws.tuple (A := X.A.in1) (I.ok.hd hcalm) it a ha2 its.toArray) he ⟨hit, p⟩ hi hne (by simp [hne, Ne.symm ha1]) fun x' h' tk hP ho st' hT hsz hk => ?_
    have hxu : x' = u := by
      have h1 : its[i]? = some x' := by simpa using hP
      rw [hu] at h1
      exact (Option.some.inj h1).symm
    subst hxu
    refine ⟨_, rfl, wpAny_letOwnedTupleGo_enum (s := { s with heap := h', toks := tk + 1 }) ho fun h'' he' sb => ?_⟩
    have hT2 : h''.get? s.heap.objs.size = some { cls := .type "tuple", data := .seq #[.int ((c : Int) + (i : Int)) tk, x'] } := (sb.2 _ (Nat.ne_of_gt hel)).trans hT
    have new : ObjOk X.prog X.w (upd H s.heap.objs.size (.tup [.int ((c + i : Nat) : Int), x])) h'' s.heap.objs.size (.tup [.int ((c + i : Nat) : Int), x]) :=
      ⟨by show 2 ≤ sizeLine; decide, [.int ((c : Int) + (i : Int)) tk, x'], .cons ⟨tk, by rw [Int.natCast_add]⟩ (.cons ru .nil), ⟨_, hT2, rfl, _, rfl⟩⟩
    have I1 : Inv X pins σ (upd H s.heap.objs.size (.tup [.int ((c + i : Nat) : Int), x])) { s with heap := h'', toks := tk + 1 } :=
      I.turnedNew (ch := [e, it]) (fun b ob hb q => (sb.2 b (fun z => hb (by simp [z]))).trans (hk b ob (fun z => hb (by simp [z])) (fun z => hb (by simp [z])) q)) hf (Nat.le_refl _) new
    refine ⟨.ref s.heap.objs.size, _, I1, rfl, ⟨_, x, rfl, I.hok.fresh (Nat.le_refl _), rfl, fun ys hy => by rw [I.tuple_inj hy hq]; exact hx⟩, ⟨⟨x', ?_⟩, st'.1.at fun o q => (sb.2 it (Ne.symm hne)).trans q, hne, ha1, ha2⟩, fun b hb => ?_⟩
    · have e1 : (c : Int) + ((i + 1 : Nat) : Int) = (c : Int) + (i : Int) + 1 := by omega
      rw [e1]
      exact he'
    · have hb' : b < s.heap.objs.size := by
        rcases (by simpa using hb : b = e ∨ b = it) with z | z
        · rw [z]; exact hel
        · rw [z]; exact hil
      rw [upd_ne (Nat.ne_of_lt hb')]
      exact (hf b hb).1
  done := by
    intro X hP hw hK hcalm i pins s σ H E I hf st hg
    subst hP hw hK
    obtain ⟨⟨old, he⟩, hit, hne, ha1, ha2⟩ := st
    obtain ⟨xs, hq, hx⟩ := hg
    obtain ⟨its, rv, p, hz⟩ := I.tuple hq
    obtain ⟨f0, f1, f2, f3, f4, f5⟩ := hf it (by simp)
    have hl := rv.length
    have hx0 : its.toArray[i]? = none := by simp; omega
    have D0 : Draws X.prog X.w X.A.in1 it [it, a] 0 (fun _ _ => False) (fun _ h => h.IsTupleIter it a i ∧ h.IsTuple a its.toArray) :=
      ⟨fun _ _ st => let ⟨o, ho, _⟩ := st.1; ⟨o, ho⟩, fun _ _ _ st hk => ⟨st.1.at fun o q => hk it (by simp) o q, st.2.at fun o q => hk a (by simp) o q⟩, fun i s Q E h => absurd h (Nat.not_lt_zero i),
        fun s Q E st hE => wpAny_nextOf_tuple_end (I.ok.hd hcalm) st.1 st.2 hx0 hE⟩
    exact wpAny_pyNext_enum_endD D0 he ⟨hit, p⟩ fun h' eb => ⟨rfl, I.turned (t' := s.toks) (fun b o hb q => eb b o hb q) f0 f1 f3 f4 f5⟩
  self := fun A i s Q E st h => let ⟨⟨_, he⟩, _⟩ := st; wpAny_pyIter_enum he h
def iEnumT (K : PySem.W.Frag) (c : Nat) (ta : TA) : TI := fun σ H R => ta σ H fun vs H1 => ∃ a xs, vs = [.ref a] ∧ SqT K H1 a xs ∧ R (Itu K a c) H1
/-- the new iterator, seen from the hand layer -/
theorem enum_made {pins : List (Addr × Obj)} {σ : L2.St} {H : Hp} {s : Shared} {a : Addr} {c : Nat} {elts : List Expr} {kk : Nat} {tpos : Pos} {R : It → Hp → Prop} (I : Inv X pins σ H s) {xs : List V} (hq : SqT X.K H a xs) (q : R (Itu X.K a c) H)
    (h' : Heap) (he : IsEnum h' (s.heap.objs.size + 1) s.heap.objs.size (c : Int) .none) (hit : h'.get? s.heap.objs.size = some { cls := .type "tuple_iterator", data := .fields #[.ref a, .int 0 0] })
    (hk : ∀ b o, s.heap.get? b = some o → h'.get? b = some o) : PIE X pins σ (.Tuple elts kk tpos) R (.ref (s.heap.objs.size + 1)) { s with heap := h' } := by
  have I2 : Inv X pins σ H { s with heap := h' } := I.kept (t' := s.toks) hk
  obtain ⟨its, rv, p, hz⟩ := I.tuple hq
  have hal : a < s.heap.objs.size := by obtain ⟨o, ho, _⟩ := p; exact Heap.lt_size ho
  refine ⟨s.heap.objs.size + 1, [s.heap.objs.size + 1, s.heap.objs.size], _, _, H, rfl, I2, turn_enumT a (s.heap.objs.size + 1) s.heap.objs.size c, ⟨⟨.none, ?_⟩, ⟨_, hit, rfl, rfl⟩, Nat.succ_ne_self _, Nat.ne_of_lt (Nat.lt_succ_of_lt hal), Nat.ne_of_lt hal⟩, fun b hb => ?_, q⟩
  · rw [show (c : Int) + ((0 : Nat) : Int) = (c : Int) by omega]
    exact he
  · have hle : s.heap.objs.size ≤ b := by
      rcases (by simpa using hb : b = s.heap.objs.size + 1 ∨ b = s.heap.objs.size) with z | z
      · rw [z]; exact Nat.le_succ _
      · rw [z]; exact Nat.le_refl _
    exact I.fpOk hle (I.hok.fresh hle)
end
theorem meets_enum1 {vv : Value} {oo : Obj} {HH : Heap → Prop} (B : Begins vv oo HH) :
    Meets (Builtin.«enumerate.__new__» ⟨[.type "enumerate", vv], []⟩) (fun _ R z => HH z.heap ∧
      R (.ok (.ret (.ref (z.heap.push oo).objs.size))) { z with heap := (z.heap.push oo).push { cls := .type "enumerate", data := .fields #[.none, .bool false, .ref z.heap.objs.size, rawInt 0, .none, .none] } }) :=
  .of_wp fun pg w A R s h => by
    obtain ⟨hp, g, d, tk, os⟩ := s; obtain ⟨hh1, h⟩ := h
    have hs0 := sub_enumerate
    have q1 : ∀ {A' : Around} {E : Value → Shared → Prop} {Q : Value → Shared → Prop}, Q (.ref hp.objs.size) ⟨hp.push oo, g, d, tk, os⟩ → wpAny (model pg w) A' (pyIter vv) Q E ⟨hp, g, d, tk, os⟩ :=
      fun q => B.iter pg w _ _ ⟨hp, g, d, tk, os⟩ _ hh1 q
    wp_walk using q1
    refine wpAny_stack_any fun st => wpAny_pure ?_
    split
    · rename_i cc _ _ _ _ _
      cases (cc == Value.type "enumerate")
      · wp_walk using q1
        exact ⟨_, rfl, h⟩
      · wp_walk using q1
        exact ⟨_, rfl, h⟩
    · wp_walk using q1
      exact ⟨_, rfl, h⟩
section
variable {prog : Program} {w : World} {A : Around} {E : Value → Shared → Prop} {s : Shared}
theorem enum_begins1 {vv : Value} {oo : Obj} {HH : Heap → Prop} {Q : Value → Shared → Prop} (B : Begins vv oo HH) (hh1 : HH s.heap)
    (h : ∀ h', IsEnum h' (s.heap.objs.size + 1) s.heap.objs.size 0 .none → h'.get? s.heap.objs.size = some oo → (∀ b o, s.heap.get? b = some o → h'.get? b = some o) → Q (.ref (s.heap.objs.size + 1)) { s with heap := h' }) :
    wpAny (model prog w) A (call (.type "enumerate") [vv]) Q E s := by
  refine callType_new F.called_enumerate (by decide) (F.typeCall_enumerate_1 _) (F.newCall_enumerate_1 _) (fun obj => F.args_object_init_2 obj _) F.entry_enumerate_new (meets_enum1 B) ⟨hh1, ?_⟩
  have hz : (s.heap.push oo).objs.size = s.heap.objs.size + 1 := Heap.size_push ..
  show _ ∧ _
  rw [hz]
  have he : IsEnum ((s.heap.push oo).push { cls := .type "enumerate", data := .fields #[.none, .bool false, .ref s.heap.objs.size, rawInt 0, .none, .none] }) (s.heap.objs.size + 1) s.heap.objs.size 0 .none := by
    have z := Heap.get?_push_size (s.heap.push oo) (o := { cls := .type "enumerate", data := .fields #[.none, .bool false, .ref s.heap.objs.size, rawInt 0, .none, .none] }) rfl
    rw [hz] at z
    exact z
  exact ⟨⟨_, he, rfl⟩, h _ he (Heap.get?_push_of_some _ (Heap.get?_push_size _ B.free)) fun b o x => Heap.get?_push_of_some _ (Heap.get?_push_of_some _ x)⟩
/-- a class of Python's own, called with keywords -/
theorem callWith_typeK {M : Model} {A : Around} {E : Value → Shared → Prop} {s : Shared} {env : Env} {pos : Pos} {T : String} {e : Expr} {rest : List Expr} {kws : List Keyword} {Q : Value → Shared → Prop}
    (h : wpAny M A (spliced (backTo pos (starEach (e :: rest) env))) (fun vs s₁ => wpAny M A (evalAll ((backToKw pos (keywordEach kws env)).map (·.2)))
      (fun ws s₂ => wpAny M A (call (.type T) vs (((backToKw pos (keywordEach kws env)).filterMap (·.1)).zip ws)) Q E s₂) E s₁) E s)
    (he : backTo pos (starEach (e :: rest) env) = (false, eval e env) :: backTo pos (starEach rest env) := by rfl)
    (hpl : (backTo pos (starEach (e :: rest) env)).any (·.1) = false := by rfl)
    (hall : (backToKw pos (keywordEach kws env)).all (·.1.isSome) = true := by rfl)
    (hno : (backToKw pos (keywordEach kws env)).any (·.1.isNone) = false := by rfl) :
    wpAny M A (callWith pos (.type T) [] (backTo pos (starEach (e :: rest) env)) (backToKw pos (keywordEach kws env))) Q E s := by
  unfold callWith
  have ev : wpAny M A (evalArgs (.type T) true (backTo pos (starEach (e :: rest) env)) (backToKw pos (keywordEach kws env))) (fun a s₁ => wpAny M A (call (.type T) ([] ++ a.pos) a.kw) Q E s₁) E s := by
    rw [he] at h ⊢
    exact evalArgs_kwB hall h
  refine wpAny_bind (wpAny_holding (wpAny_mono ev (fun a s₁ h₁ => wpAny_bind (wpAny_standAt ?_)) fun _ _ x => x))
  simp only [hpl, hno, Bool.or_false]
  refine wpAny_bind (wpAny_pure ?_)
  exact wpAny_bind (wpAny_mono h₁ (fun r s₂ hr => wpAny_bind (wpAny_holding (wpAny_point (wpAny_pure hr)))) fun _ _ x => x)
end
section
variable {X : Cx}
theorem pi_enumT {e : Expr} {ta : TA} {p pos tpos : Pos} {elts : List Expr} {kk : Nat} (hg : Gl X "enumerate") (hm : X.mg "enumerate" = none) (ha : PA X [e] ta) (hs : starEach [e] X.env = [(false, eval e X.env)] := by rfl) :
    PI X (.Tuple elts kk tpos) (.Call (.Name "enumerate" p) [e] [] pos) (iEnumT X.K 0 ta) := by
  refine ⟨fun pins s σ H R I h => ?_⟩
  refine Call_ (ld_blt I hg hm boot_enumerate (PyProof.Rows.callWith_type1 (thn (ha.run pos pins s σ H _ I h) fun us s1 ⟨vs, H1, I1, r1, q1⟩ => ?_) hs rfl))
  obtain ⟨a, xs, rfl, hq, q⟩ := q1
  rw [Vals.ref1 r1]
  obtain ⟨its, rv, pt, hz⟩ := I1.tuple hq
  exact enum_begins1 (begins_tuple a its.toArray) pt fun h' he hit hk => wpAny_pyIter_enum he (enum_made I1 hq q h' he hit hk)
/-- enumerate(e, start=c) -/
theorem pi_enumTK {e : Expr} {ta : TA} {c : Nat} {ck : Nat} {p pos tpos kpos cp : Pos} {elts : List Expr} {kk : Nat} (hg : Gl X "enumerate") (hm : X.mg "enumerate" = none) (ha : PA X [e] ta) (hcb : c < 2 ^ 62 := by decide)
    (he : backTo pos (starEach [e] X.env) = (false, eval e X.env) :: backTo pos (starEach [] X.env) := by rfl) (hpl : (backTo pos (starEach [e] X.env)).any (·.1) = false := by rfl) :
    PI X (.Tuple elts kk tpos) (.Call (.Name "enumerate" p) [e] [⟨some "start", .Constant (.int (c : Int)) ck cp, kpos⟩] pos) (iEnumT X.K c ta) := by
  refine ⟨fun pins s σ H R I h => ?_⟩
  refine wpAny_Call_Name_kw (ld_blt I hg hm boot_enumerate (callWith_typeK (thn (ha.run pos pins s σ H _ I h) fun us s1 ⟨vs, H1, I1, r1, q1⟩ => ?_) he hpl rfl rfl))
  obtain ⟨a, xs, rfl, hq, q⟩ := q1
  rw [Vals.ref1 r1]
  have hk : PK X [⟨some "start", .Constant (.int (c : Int)) ck cp, kpos⟩] (tCons (tC (.int (c : Int))) tNil) := pk_cons pe_int pk_nil
  refine thn (hk.run pos pins s1 σ H1 (fun zs H2 => zs = [.int (c : Int)] ∧ H2 = H1) I1 ⟨rfl, rfl⟩) fun ws s2 ⟨zs, H2, I2, r2, ez, eH⟩ => ?_
  subst ez
  subst eH
  obtain ⟨u, rfl, ru⟩ := r2.one
  obtain ⟨t, rfl⟩ := ru
  obtain ⟨its, rv, pt, hz⟩ := I2.tuple hq
  exact enum_begins_start (begins_tuple a its.toArray) pt (by omega) (by omega) fun h' hE hit hsz hkp => wpAny_pyIter_enum hE (enum_made I2 hq q h' hE hit hkp)
end
end Own

/-! Own rules, part P: static methods, tuple(a dict), a sign times a number, x is True, rules that name the fragment. -/
namespace Own
open PySem PySem.Spec PyProof.Rows L2

/-! ### static methods of a class, called by the class's name -/
structure CSta (K : PySem.W.Frag) (C : Addr) (mc : Value) (m : PySem.Str) (p g : Addr) : Prop where
  rd : PySem.W.readsIn K C mc = true
  ga : PySem.W.specialIn K (.ref C) "__getattribute__" = some (some (.builtin "type.__getattribute__"))
  found : PySem.W.findCls K (.ref C) mc m = some (.get (.builtin "staticmethod.__get__") (.ref p) .none (.ref C))
  rc : ∃ rest, PySem.W.recIn K p "staticmethod" = some (.ref g :: rest)
def StaAt (K : PySem.W.Frag) (C : Addr) (m qual : PySem.Str) (st : Stmt) (ps : List PySem.Str) : Prop :=
  ∃ (g p : Addr) (mc : Value) (fd : FuncData), L2.Fun K m qual st g fd ∧ CSta K C mc m p g ∧ Binds K fd ps []
def Sta (P : Program) (w : World) (K : PySem.W.Frag) (mg : PySem.Str → Option Value) (base : Heap) (k : Nat) (C : Addr) (m : PySem.Str) (sp : Sp) : Prop :=
  ∃ (g p : Addr) (mc : Value) (fd : FuncData) (ps : List PySem.Str), CSta K C mc m p g ∧ FnOk P w K mg base CX0 k g fd ps sp ∧ PySem.W.keepIn K (.ref g) = true ∧ Binds K fd ps []
section
variable {P : Program} {w : World} {K : PySem.W.Frag} {mg : PySem.Str → Option Value} {base : Heap}
theorem sta_of {C : Addr} {m qual : PySem.Str} {st : Stmt} {N ps : List PySem.Str} {k : Nat} {sp : Sp} (D : StaAt K C m qual st ps) (S : FnScope N ps (defScope st)) (len : ∀ vs H Q E, sp vs H Q E → vs.length = ps.length)
    (body : ∀ (f : Addr) (cdv : Value) (A : Around) (outer : List Env) (s : Shared) (H : Hp) (vs : List V) (Q : VK) (E : XK), Room k (A.deeper (envOfC qual (defScope st) s.heap.objs.size f cdv)) → sp vs H Q E →
      ∃ t, PSs (cxOf CX0 P w K mg base N qual (defScope st) f cdv A outer s H E).nox (defBody st) t ∧ t { nx := fun _ H' => Q .non H', rt := Q } (start N vs) H) : Sta P w K mg base (k + 1) C m sp := by
  obtain ⟨g, p, mc, fd, F, c, b⟩ := D
  exact ⟨g, p, mc, fd, ps, c, F.ok S len (fun cdv A outer s H vs Q E hr h => body g cdv A outer s H vs Q E hr h), F.kp, b⟩
end
section
variable {X : Cx}
/-- C.m(..), m static -/
def tSta (C : Addr) (sp : Sp) (E : XK) (ta : TE) (t : TA) : TE := fun σ H Q => ta σ H fun x H1 => x = .ref C ∧ t σ H1 fun vs H2 => sp vs H2 Q E
theorem pe_st {k j : Nat} {C : Addr} {m : PySem.Str} {sp : Sp} {pos apos : Pos} {o e : Expr} {es : List Expr} {ta : TE} {t : TA} {pl : Sem Bool} (c : Sta X.prog X.w X.K X.mg X.base k C m sp) (hr : Room j X.A) (hk : k ≤ j) (he : PE X o ta) (ha : PA X (e :: es) t)
    (hst : starEach (e :: es) X.env = (false, eval e X.env) :: starEach es X.env := by rfl) (hpl : (backTo pos (starEach es X.env)).any (·.1) = false := by rfl)
    (ht : eval (.Call (.Attribute o m apos) (e :: es) [] pos) X.env = (do
      let ov ← eval o X.env
      standAt apos.atName
      let (fv, fst) ← holding [ov] (getMethod ov m pl)
      callWith pos fv fst (backTo pos (starEach (e :: es) X.env)) (backToKw pos (keywordEach [] X.env))) := by rfl) :
    PE X (.Call (.Attribute o m apos) (e :: es) [] pos) (tSta C sp E0 ta t) := by
  obtain ⟨g, p, mc, fd, ps, c, F, kp, b⟩ := c
  obtain ⟨rest, hp⟩ := c.rc
  refine ⟨fun pins s σ H Q I h => ?_⟩
  refine PySem.W.methodCall_KW (pl := pl) (thn (he.run pins s σ H _ I h) fun u s1 ⟨x, H1, I1, rx, ex, q⟩ => ?_) ht
  subst ex
  obtain rfl : u = Value.ref C := rx
  refine PySem.W.method_cls I1.kIn c.ga (PySem.W.cls_bind I1.kIn c.rd c.found (wpAny_call (PySem.W.sm_get (s := { s1 with toks := s1.toks + 1 }) I1.kIn hp (PySem.W.handed_on rfl ?_))))
  have I2 : Inv X pins σ H1 { s1 with toks := s1.toks + 1 } := I1.tok _
  refine PySem.W.callWith_K (h₀ := X.base) I2.ok.mod.kin kp (thn (ha.run pos pins _ σ H1 _ I2 q) fun us s2 ⟨vs, H2, I3, rv, q2⟩ => ⟨I3.kIn, ?_⟩) hst hpl
  exact run_fn F (hr.mono hk) b .nil pass0 I3 rv (by rw [List.append_nil]; exact q2)

/-! ### tuple(a dict) -/
def rTupD : List V → Hp → VK → Prop := fun xs H Q => ∃ p kvs, xs = [.ref p] ∧ H p = some (.dK kvs) ∧ ∀ q, H q = none → Q (.ref q) (upd H q (.tup (kvs.map fun kv => kV kv.1)))
section
variable {prog : Program} {w : World} {A : Around} {E : Value → Shared → Prop} {s : Shared} {T : String} {r d : Addr} {n : Nat} {Pz : Nat → Value → Prop} {OK : Heap → Prop}
/-- what is drawn of it, collected -/
theorem collect_src {Q : List Value → Shared → Prop} (S : PySem.W.KdlSrc prog w T r d n Pz OK) (hh : A.handled = none) (hok : OK s.heap) (hn : n ≤ sizeLine)
    (hQ : ∀ h' tk (acc : Array Value), (∀ b o, s.heap.get? b = some o → h'.get? b = some o) → ItemsOf Pz acc n → Q acc.toList { s with heap := h', toks := tk }) : wpAny (model prog w) A (collect (.ref r)) Q E s := by
  unfold collect
  have hlt := S.there _ hok
  have hS : (s.heap.push { cls := .type "list", data := .seq ([] : List Value).toArray }).get? s.heap.objs.size = some { cls := .type "list", data := .seq #[] 0 } := Heap.get?_push_size _ rfl
  refine wpAny_bind (wpAny_runValue (codeAny_builtin F.entry_proto_collect ?_))
  rw [Around.under_plainId F.plain_proto_collect _]
  show wpAny _ A.in1 (newList [] >>= fun l => again (.builtin "list.__iadd__" ⟨[l, .ref r], []⟩)) _ _ s
  refine wpAny_bind (wpAny_newObj_type ?_)
  refine wpAny_pure ⟨plainId_quiet F.plain_list_iadd _, codeAny_builtin F.entry_list_iadd ?_⟩
  rw [Around.under_plainId F.plain_list_iadd _]
  show wpAny _ A.in1 (Builtin.List.listExtendWith (.ref s.heap.objs.size) (.ref r) (.ref s.heap.objs.size)) _ _ _
  have ex := PySem.W.kdl_extend (s := { s with heap := s.heap.push { cls := .type "list", data := .seq ([] : List Value).toArray } }) (A := A) (R := fun rr s' => ∃ (acc : Array Value) (c' : Nat), rr = .ok (.ret (.ref s.heap.objs.size)) ∧ s'.heap.get? s.heap.objs.size = some { cls := .type "list", dict := none, data := .seq acc c', slots := #[] } ∧ Q acc.toList s')
    S hh (S.keep _ _ hok fun b _ o e => Heap.get?_push_of_some _ e) s.heap.objs.size (Nat.ne_of_gt hlt.1) (Nat.ne_of_gt hlt.2) (.ref s.heap.objs.size) 0 hS (fun h' tk acc c' hk hS' hacc => ⟨acc, c', rfl, hS', hQ h' tk acc (fun b o e => hk b o (Nat.ne_of_lt (Heap.lt_size e)) (Heap.get?_push_of_some _ e)) hacc⟩) hn
  have fin' : ∀ (s' : Shared) (acc : Array Value) (c' : Nat), s'.heap.get? s.heap.objs.size = some { cls := .type "list", dict := none, data := .seq acc c', slots := #[] } → Q acc.toList s' → wpAny (model prog w) A (match Value.ref s.heap.objs.size with
      | Value.ref a => do
        match (← load a).data with
          | Data.seq xs _ => pure xs.toList
          | _ => unsupported "internal:collect"
      | _ => unsupported "internal:collect") Q E s' := fun s' acc c' hg hq => by
    show wpAny _ A (load s.heap.objs.size >>= _) _ _ _
    exact wpAny_bind (wpAny_load hg (wpAny_pure hq))
  refine wpAny_mono ex (fun fin s' h => ?_) (fun e s' h => ?_)
  · cases fin with
    | done f =>
      obtain ⟨acc, c', e, hg, hq⟩ := h
      cases e
      exact fin' s' acc c' hg hq
    | again c'' => exact ⟨h.1, codeAny_mono h.2 fun rr s'' hr => by
        obtain ⟨acc, c', rfl, hg, hq⟩ := hr
        exact fin' s'' acc c' hg hq⟩
  · obtain ⟨acc, c', e, _⟩ := h
    cases e
theorem call_tuple_src {Q : Value → Shared → Prop} (S : PySem.W.KdlSrc prog w T r d n Pz OK) (hTt : T ≠ "tuple") (hh : A.handled = none) (hok : OK s.heap) (hn : n ≤ sizeLine)
    (hQ : ∀ (h' : Heap) tk (acc : Array Value), (∀ b o, s.heap.get? b = some o → h'.get? b = some o) → ItemsOf Pz acc n → acc.size = n → Q (.ref h'.objs.size) { s with heap := h'.push { cls := .type "tuple", data := .seq acc }, toks := tk }) :
    wpAny (model prog w) A (call (.type "tuple") [.ref r]) Q E s := by
  refine callType_codes (Q₁ := fun obj s1 => s1.TypeIs obj "tuple" ∧ Q obj s1) F.called_tuple (F.typeCall_tuple_1 _) F.entry_object_init ?_ fun obj s1 h1 => ⟨h1.1, F.args_object_init_2 obj _, ?_⟩
  · refine codeAny_call_builtin F.called_tuple.plain F.entry_tuple_new (wpAny_of_eq (F.newCall_tuple_1 _) ?_)
    have hT := S.type s hok
    have hs0 := sub_tuple_self
    have hi0 := init_tuple_lookup
    have hm0 := madeHere_tuple
    have col : ∀ {E' : Value → Shared → Prop} {Q' : List Value → Shared → Prop}, (∀ h' tk (acc : Array Value), (∀ b o, s.heap.get? b = some o → h'.get? b = some o) → ItemsOf Pz acc n → Q' acc.toList { s with heap := h', toks := tk }) → wpAny (model prog w) A.in1.in1 (collect (.ref r)) Q' E' s :=
      fun hq => collect_src S hh hok hn hq
    obtain ⟨hp, g, dd, tk, os⟩ := s
    wp_walk using wpAny_typeOf hT, col
    intro h' tk2 acc hk hacc
    have hsz : acc.toList.toArray.size ≤ sizeLine := by rw [Array.toArray_toList, hacc.1]; exact hn
    show wpAny _ _ (Builtin.Tuple.tupleExact acc.toList.toArray >>= fun v => ret v) _ _ _
    unfold Builtin.Tuple.tupleExact
    refine wpAny_bind (wpAny_newObj_type ?_ hsz)
    refine wpAny_pure ⟨⟨_, Heap.get?_push_size _ rfl, rfl⟩, ?_⟩
    rw [show acc.toList.toArray = acc from Array.toArray_toList ..]
    exact hQ h' tk2 acc hk hacc hacc.1
  · exact object_init_meets F.called_tuple.init.lookup F.called_tuple.made (by decide) prog w _ _ s1 ⟨h1.1, rfl, h1.2⟩
end
theorem call_tuple_dK (hc : X.calm = true) : CallR X (.type "tuple") rTupD := by
  intro pins s σ H xs us Q I r h
  obtain ⟨p, kvs, rfl, hk, q⟩ := h
  rw [Vals.ref1 r]
  obtain ⟨z, lo, vs, rk, hd⟩ := (show ObjOk X.prog X.w H s.heap p (.dK kvs) from I.hok p _ hk)
  obtain ⟨ep, hat⟩ := hd.dictAt
  have hl : kvs.length = vs.length := Paired.length rk
  refine call_tuple_src (PySem.W.kdl_dict (knd := mixKind X.prog X.w) (kvs := vs) (ep := ep) lo) (by decide) (I.ok.hd hc) hat (by rw [← hl]; exact z) fun h' tk acc hkeep hacc hsz => ?_
  have I1 : Inv X pins σ H { s with heap := h', toks := tk } := I.kept (t' := tk) hkeep
  have I2 : Inv X pins σ (upd H h'.objs.size (.tup (kvs.map fun kv => kV kv.1))) { s with heap := h'.push { cls := .type "tuple", data := .seq acc }, toks := tk } := by
    refine I1.laid (t' := tk) (fun b o e => Heap.get?_push_of_some _ e) (Nat.le_refl _) (show ObjOk X.prog X.w _ _ _ (.tup (kvs.map fun kv => kV kv.1)) from ⟨by rw [List.length_map]; exact z, acc.toList, ?_, ?_⟩)
    · have el : acc.toList.length = acc.size := by simp
      refine vals_of_at (by rw [List.length_map, el, hacc.1, hl]) fun j x w h1 h2 => ?_
      obtain ⟨k, y, hky, hi⟩ := hacc.2 j w (by rw [← Array.getElem?_toList]; exact h2)
      have e1 : (kvs.map (·.1))[j]? = some k := by rw [KV.keys rk, List.getElem?_map, hky]; rfl
      have e2 : (kvs.map fun kv => kV kv.1)[j]? = some (kV k) := by
        rw [show (kvs.map fun kv => kV kv.1) = (kvs.map (·.1)).map kV by rw [List.map_map]; rfl, List.getElem?_map, e1]
        rfl
      rw [e2] at h1
      cases h1
      exact keyIs_rel hi
    · have e : acc.toList.toArray = acc := Array.toArray_toList ..
      rw [e]
      exact IsTup.new _ _
  exact ⟨.ref h'.objs.size, _, I2, rfl, q _ (I1.hok.fresh (Nat.le_refl _))⟩

/-! ### a sign times a number -/
def rMulS : R2 := fun x y H Q => ∃ (c n : Nat), x = .str ⟨#[c]⟩ ∧ y = .int (n : Int) ∧ n ≤ 100 ∧ Q (.str ⟨(List.replicate n c).toArray⟩) H
theorem rep_fold (c : Nat) : ∀ (n : Nat) (a : Array Nat), (List.replicate n #[c]).foldl (· ++ ·) a = a ++ (List.replicate n c).toArray
  | 0, a => by simp
  | n + 1, a => by
    rw [List.replicate_succ, List.foldl_cons, rep_fold c n, List.replicate_succ, Array.append_assoc]
    congr 1
    apply Array.ext'
    simp
theorem os_mul : OpR X (binaryOp .Mult) rMulS := by
  intro pins s σ H x y v u Q I rx ry h
  obtain ⟨c, n, rfl, rfl, hn, q⟩ := h
  obtain ⟨t, rfl⟩ := rx
  obtain ⟨t', rfl⟩ := ry
  have hz : (⟨#[c]⟩ : PySem.Str).length = 1 := rfl
  refine P.mul_str (by
    rw [decide_eq_false (by omega), decide_eq_false (by omega)]
    rfl) (fun h1 h2 => by
      rw [hz]
      have h3 : (1 : Int) ≤ (2 ^ 63 - 1) / (n : Int) := Int.le_ediv_of_mul_le (by omega) (by omega)
      omega) (fun h1 h2 => by
      rw [hz]
      refine decide_eq_false ?_
      rw [sizeLine_eq]
      omega) ?_
  by_cases h0 : (n : Int) < 1
  · have e : n = 0 := by omega
    subst e
    rw [if_pos h0]
    exact ⟨by decide, ⟨.str ⟨(List.replicate 0 c).toArray⟩, H, I.tok _, ⟨_, rfl⟩, q⟩⟩
  · rw [if_neg h0]
    by_cases h1 : ((n : Int) == 1 || (⟨#[c]⟩ : PySem.Str).length == 0) = true
    · rw [if_pos h1]
      have e : n = 1 := by
        rw [hz] at h1
        simp at h1
        omega
      subst e
      exact ⟨.str ⟨(List.replicate 1 c).toArray⟩, H, I, ⟨_, rfl⟩, q⟩
    · rw [if_neg h1]
      have e : ((List.replicate (n : Int).toNat #[c]).foldl (· ++ ·) #[]) = (List.replicate n c).toArray := by
        rw [Int.toNat_natCast, rep_fold]
        simp
      refine ⟨?_, ⟨.str ⟨(List.replicate n c).toArray⟩, H, I.tok _, ⟨s.toks, ?_⟩, q⟩⟩
      · show (PySem.Str.length ⟨_⟩) ≤ sizeLine
        rw [e]
        show (List.replicate n c).toArray.size ≤ _
        rw [List.size_toArray, List.length_replicate, sizeLine_eq]
        omega
      · rw [← e]

/-! ### x is True, x is False, x no bool -/
def rIsBX : R2 := fun x y H Q => ∃ b : Bool, y = .bl b ∧ ((∃ z, x = .str z) ∨ (∃ a, x = .ref a) ∨ (∃ i, x = .int i)) ∧ Q (.bl false) H
theorem op_isBX : OpR X (compareOp .Is) rIsBX := by
  intro pins s σ H x y v u Q I rx ry h
  obtain ⟨b, rfl, hx, q⟩ := h
  cases (show u = Value.bool b from ry)
  rcases hx with ⟨z, rfl⟩ | ⟨a, rfl⟩ | ⟨i, rfl⟩
  · obtain ⟨t, rfl⟩ := rx
    exact wpAny_is_other rfl (fun e => nomatch e) ⟨.bl false, H, I, rfl, q⟩
  · obtain rfl : v = Value.ref a := rx
    exact wpAny_is_other rfl (fun e => nomatch e) ⟨.bl false, H, I, rfl, q⟩
  · obtain ⟨t, rfl⟩ := rx
    exact wpAny_is_other rfl (fun e => nomatch e) ⟨.bl false, H, I, rfl, q⟩
/-- enumerate over a tuple, walked -/
theorem walk_enumT {K : PySem.W.Frag} {a : Addr} {xs : List V} {c : Nat} : Walk (Itu K a c) xs.length (fun H => SqT K H a xs) (YPair (fun i => some (.int ((c + i : Nat) : Int))) (fun i => xs[i]?)) := by
  refine ⟨fun i _ hi q => ⟨xs, xs[i], q, by simp [hi]⟩, fun _ q => ⟨xs, q, Nat.le_refl _⟩, fun i H v H' _ q y => ?_⟩
  obtain ⟨T, x, h1, h2, h3, h4⟩ := y
  exact ⟨T, .int ((c + i : Nat) : Int), x, h1, h2, h3, rfl, h4 xs q⟩
end
end Own

/-! Own rules, part Q: rules that name the fragment, constants of the module, instances that are compared by their own ==. -/
namespace Own
open PySem PySem.Spec PyProof.Rows L2
section
variable {X : Cx} {K : PySem.W.Frag}
/-- a constant of the module -/
def Glb (mg : PySem.Str → Option Value) (x : PySem.Str) (v : V) : Prop := ∃ u, mg x = some u ∧ RelV v u
theorem pe_gl {x : PySem.Str} {v : V} {pos : Pos} (hg : Gl X x) (h : Glb X.mg x v) (hd : (x == ("__debug__" : PySem.Str)) = false := by decide) : PE X (.Name x pos) (tC v) := by
  obtain ⟨u, hm, r⟩ := h
  exact pe_glob hg hm r hd
theorem slTA (e : X.K = K) : SlR X (rSlA K) := e ▸ sl_tupA
theorem slL (e : X.K = K) : SlR X (rSlL K) := e ▸ sl_list
theorem catA (e : X.K = K) : OpR X (binaryOp .Add) (rCatA K) := e ▸ op_catA
theorem catT (e : X.K = K) : OpR X (binaryOp .Add) (rCatT K) := e ▸ op_catT
theorem notInSeq (e : X.K = K) : OpR X (compareOp .NotIn) (rIn K true) := e ▸ op_notIn_seq
theorem pi_enumTA {e : Expr} {ta : TA} {p pos tpos : Pos} {elts : List Expr} {kk : Nat} (eK : X.K = K) (hg : Gl X "enumerate") (hm : X.mg "enumerate" = none) (ha : PA X [e] ta) (hs : starEach [e] X.env = [(false, eval e X.env)] := by rfl) :
    PI X (.Tuple elts kk tpos) (.Call (.Name "enumerate" p) [e] [] pos) (iEnumT K 0 ta) := eK ▸ pi_enumT hg hm ha hs
theorem revL {e : Expr} {te : TE} {k : Nat} {p1 p2 p3 pos : Pos} (eK : X.K = K) (he : PE X e te) : PE X (.Subscript e (.Slice none none (some (.UnaryOp .USub (.Constant (.int 1) k p1) p2)) p3) pos) (tRevL K te) := by
  subst eK
  exact pe_revL he
theorem lcount (e : X.K = K) : MtR X "list.count" (rCntI K) := e ▸ mt_lcount
theorem tcount (e : X.K = K) (hu : X.A.units + 64 < cLine) : MtR X "tuple.count" (rCntT K) := e ▸ mt_tcount (by omega)
theorem pe_bmK {T : String} {id : String} {name : PySem.Str} {r : V → List V → Hp → VK → Prop} {o e : Expr} {es : List Expr} {to : TE} {t : TA} {apos cpos : Pos} (eK : X.K = K) (pa : PlainAttrs T) (slot : Slot T name id) (hty : typeOf (.builtin id) = pure (.type "method_descriptor")) (hm : MtR X id r)
    (ho : PE X o to) (ha : PA X (e :: es) t) (hbase : attributeBase o name X.env (eval o X.env) = eval o X.env := by rfl)
    (hfew : ((backTo cpos (starEach (e :: es) X.env)).all (fun x => !x.1) && (backToKw cpos (keywordEach [] X.env)).all (fun x => x.1.isSome)
      && decide ((e :: es).length + ([] : List Keyword).length + (if ([] : List Keyword).isEmpty then 0 else 1) < 30)) = true := by rfl)
    (hline : (apos.endLine == cpos.line) = true := by rfl) (hst : starEach (e :: es) X.env = (false, eval e X.env) :: starEach es X.env := by rfl)
    (hpl : (backTo cpos (starEach es X.env)).any (·.1) = false := by rfl) : PE X (.Call (.Attribute o name apos) (e :: es) [] cpos) (tBM K T r to t) := by
  subst eK
  exact pe_bm pa slot hty hm ho ha hbase hfew hline hst hpl
theorem minK {α : Type} [DecidableEq α] [PySem.W.DatumOrd α] (e : X.K = K) (hc : X.calm = true) (hu : X.A.units + 64 < cLine) (hd : PySem.W.Datum.depth α ≤ 60 := by decide) : CallR X (.builtin "min") (rMinD α K) :=
  e ▸ cr_minD hc (by omega)
theorem minI (e : X.K = K) (hc : X.calm = true) : CallR X (.builtin "min") (rMin K) := e ▸ cr_min hc
theorem sortedPO (e : X.K = K) : CallR X (.builtin "sorted") (rSortedPO K) := e ▸ cr_sortedPO
theorem isiT (e : X.K = K) : CallR X (.builtin "isinstance") (rIsiT K) := e ▸ call_isiT
theorem eqDK (e : X.K = K) (hu : X.A.units + 64 < cLine) : OpR X (compareOp .Eq) (rEqD K) := e ▸ op_eqD hu
theorem neDK (e : X.K = K) (hu : X.A.units + 64 < cLine) : OpR X (compareOp .NotEq) (rNeD K) := e ▸ op_neD hu
/-! ### x == y by the class's own def -/
def EqI (P : Program) (w : World) (K : PySem.W.Frag) (mg : PySem.Str → Option Value) (base : Heap) (n : Nat) (C : Addr) (R : Addr → Addr → Hp → Prop) : Prop :=
  ∃ (f : Addr) (fd : FuncData) (ps : List PySem.Str), FnOk P w K mg base CX0 n f fd ps (spEq R) ∧ PySem.W.findIn K (.ref C) "__eq__" = some (some (.ref f)) ∧ PySem.W.isFn K (.ref f) = true ∧ Binds K fd ps []
theorem eqI_of {P : Program} {w : World} {mg : PySem.Str → Option Value} {base : Heap} {n : Nat} {C : Addr} {R : Addr → Addr → Hp → Prop} (h : Met P w K mg base n C "__eq__" (spEq R)) : EqI P w K mg base n C R := by
  obtain ⟨f, fd, ps, c, m, F, b⟩ := h
  exact ⟨f, fd, ps, F, m.1, m.fn, b⟩
theorem op_own {n j : Nat} {C : Addr} {R : Addr → Addr → Hp → Prop} (h : EqI X.prog X.w X.K X.mg X.base n C R) (hr : Room j X.A) (hk : n ≤ j) : OpR X (compareOp .Eq) (rEqG (DIns C R)) := by
  obtain ⟨f, fd, ps, F, hs, hf, b⟩ := h
  exact op_eqG (rcG_ins F hs hf b pass0) (hr.mono hk)
end
/-- a test whose answer is known -/
theorem iT {b : Bool} {A B : Prop} (h : b = true) (a : A) : if b = true then A else B := by subst h; exact iteT a
theorem iF {b : Bool} {A B : Prop} (h : b = false) (a : B) : if b = true then A else B := by subst h; exact iteF a
end Own

/-! Own rules, part R: tuples that are known to have no dict of their own (kept as frozen): made by tuple(list), slices, +; their methods. -/
namespace Own
open PySem PySem.Spec PyProof.Rows L2
/-- the tuple xs stands at a, and has no dict -/
def Td (H : Hp) (a : Addr) (xs : List V) : Prop := ∃ o : Obj, H a = some (.frz o (.tup xs)) ∧ o.dict = none
theorem Td.sq {K : PySem.W.Frag} {H : Hp} {a : Addr} {xs : List V} (h : Td H a xs) : SqT K H a xs := by
  obtain ⟨o, h, _⟩ := h
  exact .inl (.inr ⟨o, h⟩)
theorem Td.same {H H' : Hp} {a : Addr} {xs : List V} (h : Td H a xs) (e : Same H H') : Td H' a xs := by
  obtain ⟨o, h, d⟩ := h
  exact ⟨o, e _ _ h, d⟩
theorem Td.upd {H : Hp} {r a : Addr} {xs : List V} {o' u : HO} (h : Td H a xs) (hr : H r = some u) (hu : ∀ o, u ≠ .frz o (.tup xs)) : Td (upd H r o') a xs := by
  obtain ⟨o, h, d⟩ := h
  refine ⟨o, ?_, d⟩
  have e : a ≠ r := fun z => by
    rw [z, hr] at h
    exact hu o (Option.some.inj h)
  rw [upd_ne e]
  exact h
section
variable {X : Cx} {K : PySem.W.Frag}
/-- a new tuple object, tracked with its record -/
theorem laid_tup {pins : List (Addr × Obj)} {σ : L2.St} {H : Hp} {s : Shared} {its : List Value} {xs : List V} {h' : Heap} {t' : Nat} (I : Inv X pins σ H s) (k : ∀ b u, s.heap.get? b = some u → h'.get? b = some u) (hs : s.heap.objs.size ≤ h'.objs.size) (hz : xs.length ≤ sizeLine) (r : Vals xs its) :
    Inv X pins σ (upd H h'.objs.size (.frz { cls := .type "tuple", data := .seq its.toArray } (.tup xs))) { s with heap := h'.push { cls := .type "tuple", data := .seq its.toArray }, toks := t' } ∧ Td (upd H h'.objs.size (.frz { cls := .type "tuple", data := .seq its.toArray } (.tup xs))) h'.objs.size xs :=
  ⟨I.laid (t' := t') (fun b o e => Heap.get?_push_of_some _ (k b o e)) hs ⟨Heap.get?_push_size _ rfl, hz, its, r, IsTup.new _ _⟩, ⟨_, upd_same, rfl⟩⟩
def rTupF (K : PySem.W.Frag) : List V → Hp → VK → Prop := fun xs H Q => ∃ p ys, xs = [.ref p] ∧ SqL K H p ys ∧ ∀ l H', Same H H' → Td H' l ys → Q (.ref l) H'
theorem tupF (e : X.K = K) : CallR X (.type "tuple") (rTupF K) := by
  subst e
  intro pins s σ H xs us Q I r h
  obtain ⟨p, ys, rfl, hq, q⟩ := h
  rw [Vals.ref1 r]
  obtain ⟨its, r', pl, hz⟩ := I.list hq
  have hlen := r'.length
  refine call_tuple_list pl.isList (fun h' kp => ?_) (by simp only [List.size_toArray]; omega)
  have I1 : Inv X pins σ H { s with heap := h' } := I.kept (t' := s.toks) kp
  obtain ⟨J, T⟩ := laid_tup (t' := s.toks) I1 (fun _ _ z => z) (Nat.le_refl _) hz r'
  exact ⟨.ref h'.objs.size, _, J, rfl, q _ _ (Same.upd_new (I1.hok.fresh (Nat.le_refl _))) T⟩
def rSlF : V → Option Int → Option Int → Hp → VK → Prop := fun x lo hi H Q => ∃ a xs, x = .ref a ∧ Td H a xs ∧ ∀ p H', Same H H' → Td H' p (cutV xs lo hi) → Q (.ref p) H'
theorem sl_F : SlR X rSlF := by
  intro pins s σ H x v vl vu lo hi sl Q I rx hs pl pu h
  obtain ⟨a, xs, rfl, hx, q⟩ := h
  cases rx
  obtain ⟨its, r, ht, hz⟩ := I.tuple (Td.sq hx)
  have hlen : its.toArray.size = xs.length := by rw [List.size_toArray]; exact r.length.symm
  refine ⟨"tuple", _, PyProof.Rows.slot_tuple_getitem.lookup, ht.typeIs, ?_⟩
  by_cases hw : HT.sIx xs.length 0 lo = 0 ∧ HT.sIx xs.length xs.length hi = xs.length
  · have e : cutV xs lo hi = xs := by
      unfold cutV
      rw [hw.1, hw.2]
      simp
    exact L2.getItem_tuple_whole ht hs pl pu (by rw [hlen]; exact hw) ⟨.ref a, H, I, rfl, q a H (Same.refl _) (by rw [e]; exact hx)⟩
  · refine HT.getItem_tuple_cut ht hs pl pu (by rw [hlen]; exact hw) ?_ (by rw [hlen]; exact hz)
    rw [hlen]
    obtain ⟨J, T⟩ := laid_tup (t' := s.toks) (h' := s.heap) I (fun _ _ z => z) (Nat.le_refl _) (Nat.le_trans (cutV_length xs lo hi) hz) ((r.drop (HT.sIx xs.length 0 lo)).take (HT.sIx xs.length xs.length hi - HT.sIx xs.length 0 lo))
    exact ⟨.ref s.heap.objs.size, _, J, rfl, q _ _ (Same.upd_new (I.hok.fresh (Nat.le_refl _))) T⟩
def rCatF : R2 := fun x y H Q => ∃ a b xs ys, x = .ref a ∧ y = .ref b ∧ Td H a xs ∧ Td H b ys ∧ xs.length + ys.length ≤ sizeLine ∧ ∀ p H', Same H H' → Td H' p (xs ++ ys) → Q (.ref p) H'
theorem op_F : OpR X (binaryOp .Add) rCatF := by
  intro pins s σ H x y v u Q I rx ry h
  obtain ⟨a, b, xs, ys, rfl, rfl, ha, hb, hz, q⟩ := h
  cases rx
  cases ry
  obtain ⟨its, r1, p1, _⟩ := I.tuple (Td.sq ha)
  obtain ⟨its2, r2, p2, _⟩ := I.tuple (Td.sq hb)
  by_cases hx : xs = []
  · subst hx
    cases r1
    exact L2.cat_tup0 p1 p2 ⟨.ref b, H, I, rfl, q b H (Same.refl _) hb⟩
  · refine HT.cat_tup p1 p2 (fun z => hx (r1.nil_iff.mp z)) (fun z => ⟨.ref a, H, I, rfl, q a H (Same.refl _) (by rw [r2.nil_iff.mp z, List.append_nil]; exact ha)⟩) (fun z => ?_) (by rw [← r1.length, ← r2.length]; exact hz)
    obtain ⟨J, T⟩ := laid_tup (t' := s.toks) (h' := s.heap) I (fun _ _ z => z) (Nat.le_refl _) (by rw [List.length_append]; exact hz) (r1.append r2)
    exact ⟨.ref s.heap.objs.size, _, J, rfl, q _ _ (Same.upd_new (I.hok.fresh (Nat.le_refl _))) T⟩
/-- t.m(e), t such a tuple -/
def tTM (r : V → List V → Hp → VK → Prop) (to : TE) (t : TA) : TE := fun σ H Q => to σ H fun x H1 => (∃ a xs, x = .ref a ∧ Td H1 a xs) ∧ t σ H1 fun ys H2 => r x ys H2 Q
theorem pe_tm {id : String} {name : PySem.Str} {r : V → List V → Hp → VK → Prop} {o e : Expr} {es : List Expr} {to : TE} {t : TA} {apos cpos : Pos} (slot : Slot "tuple" name id) (hty : typeOf (.builtin id) = pure (.type "method_descriptor")) (hm : MtR X id r)
    (ho : PE X o to) (ha : PA X (e :: es) t) (hbase : attributeBase o name X.env (eval o X.env) = eval o X.env := by rfl)
    (hfew : ((backTo cpos (starEach (e :: es) X.env)).all (fun x => !x.1) && (backToKw cpos (keywordEach [] X.env)).all (fun x => x.1.isSome)
      && decide ((e :: es).length + ([] : List Keyword).length + (if ([] : List Keyword).isEmpty then 0 else 1) < 30)) = true := by rfl)
    (hline : (apos.endLine == cpos.line) = true := by rfl) (hst : starEach (e :: es) X.env = (false, eval e X.env) :: starEach es X.env := by rfl)
    (hpl : (backTo cpos (starEach es X.env)).any (·.1) = false := by rfl) : PE X (.Call (.Attribute o name apos) (e :: es) [] cpos) (tTM r to t) := by
  refine ⟨fun pins s σ H Q I h => ?_⟩
  refine wpAny_Call_method_late hbase hfew hline rfl (thn (ho.run pins s σ H _ I h) fun v s1 ⟨x, H1, I1, r1, ⟨a, xs, ex, hT⟩, q1⟩ => ?_)
  subst ex
  obtain rfl : v = Value.ref a := r1
  obtain ⟨ob, h1, h2⟩ := hT
  obtain ⟨k1, k2⟩ := (show ObjOk X.prog X.w H1 s1.heap a (.frz ob (.tup xs)) from I1.hok a _ h1)
  obtain ⟨_, _, _, o2, ho2, hc2, _⟩ := (show ObjOk X.prog X.w H1 s1.heap a (.tup xs) from k2)
  refine ⟨"tuple", id, PySem.F.plainAttrs_tuple, slot, hty, ⟨o2, ho2, hc2⟩, fun b eb => ?_, ?_⟩
  · cases eb
    exact ⟨ob, k1, h2⟩
  · have hA := ha.run cpos pins s1 σ H1 _ I1 q1
    rw [hst] at hA ⊢
    refine Calls.callWith_builtin (by show (false || (backTo cpos (starEach es X.env)).any (·.1)) = false; rw [hpl]; rfl) (Calls.evalArgs_plain ?_)
    exact thn hA fun us s2 ⟨vs, H2, I2, r2, q2⟩ => hm pins s2 σ H2 (.ref a) vs (.ref a) us Q I2 rfl r2 q2
end
end Own

namespace Cl
local macro_rules | `(tactic| walk_at "go") => `(tactic| repeat (first | (refine ⟨_, rfl, ?_⟩) | (refine ⟨_, _, rfl, rfl, ?_⟩) | (refine ⟨_, rfl, rfl, ?_⟩) | (refine ⟨_, _, rfl, ?_⟩) | (refine And.intro (by first | with_reducible rfl | rfl | omega | decide | assumption | (dsimp only; first | omega | decide | assumption)) ?_)))

local macro_rules | `(tactic| walk_at "bag") => `(tactic| repeat (first | (refine ⟨_, _, _, _, rfl, rfl, L2.SqL.of L2.upd_same, (by rfl), ?_⟩) | (refine ⟨_, _, _, _, rfl, rfl, L2.upd_same, (by rfl), ?_⟩) | (refine ⟨_, rfl, ?_⟩) | (refine ⟨_, _, rfl, rfl, ?_⟩) | (refine ⟨_, rfl, rfl, ?_⟩) | (refine ⟨_, _, rfl, ?_⟩) | (refine And.intro (by first | with_reducible rfl | rfl | omega | decide | assumption | (dsimp only; first | omega | decide | assumption)) ?_)))
open PySem L2 Own
abbrev topS (i : Nat) : Stmt := PySem.Challenge.pw_whocrosses_k57_whole_three_moves.main.body.getD i (.Pass ⟨0, 0, 0, 0⟩)
/-- what of the module's names is known -/
structure MdK (K : PySem.W.Frag) (mg : PySem.Str → Option Value) (CR CM kd : Addr) : Prop extends Blt mg where
  min : mg "min" = none
  max : mg "max" = none
  zip : mg "zip" = none
  dict : mg "dict" = none
  c_TEXT_LIMIT : Glb mg "TEXT_LIMIT" (.int ((40000 : Nat) : Int))
  c_CHORD_LIMIT : Glb mg "CHORD_LIMIT" (.int ((14 : Nat) : Int))
  c_NAME_LIMIT : Glb mg "NAME_LIMIT" (.int ((8 : Nat) : Int))
  c_FIRST_SIGNS : Glb mg "FIRST_SIGNS" (.str "abcdefghijklmnopqrstuvwxyz")
  c_LATER_SIGNS : Glb mg "LATER_SIGNS" (.str "abcdefghijklmnopqrstuvwxyz0123456789")
  c_TIP : Glb mg "TIP" (.str "+")
  c_FOOT : Glb mg "FOOT" (.str "-")
  c_SIGNS : Glb mg "SIGNS" (.str "+-")
  c_KINDS : Glb mg "KINDS" (.ref kd)
  kinds : ∀ H : Hp, SqT K H kd [.str "swap", .str "flip", .str "both"]
  c_Row : Glb mg "Row" (.ref CR)
  c_Move : Glb mg "Move" (.ref CM)
  is_Row : C8.InsC K CR
section
variable {P : Program} {w : World} {K : PySem.W.Frag} {mg : PySem.Str → Option Value} {base : Heap} {CR CM kd : Addr}

/-! ### the bag -/
def bagV (c : Addr) (i l m n : Nat) : List V := [.ref c, .int (i : Int), .int (l : Int), .int (m : Int), .int (n : Int)]
/-- a bag at b, its cells at c -/
def BagAt (c : Addr) (H : Hp) (b : Addr) : Prop := ∃ (i l m n : Nat) (ns : List Int), H b = some (.lst (bagV c i l m n)) ∧ H c = some (.lst (ns.map V.int)) ∧ m < 2147483579
theorem upd_eta {H : Hp} {b : Addr} {o : HO} (h : H b = some o) : upd H b o = H := by
  funext a
  by_cases e : a = b
  · rw [e, upd_same, h]
  · exact upd_ne e
theorem BagAt.ne {c : Addr} {H : Hp} {b p : Addr} (h : BagAt c H b) (hp : H p = none) : p ≠ b ∧ p ≠ c := by
  obtain ⟨i, l, m, n, ns, h1, h2, h3⟩ := h
  exact ⟨fun z => (by rw [z, h1] at hp; cases hp), fun z => (by rw [z, h2] at hp; cases hp)⟩
theorem BagAt.put {c : Addr} {H : Hp} {b p : Addr} {o : HO} (h : BagAt c H b) (hp : p ≠ b ∧ p ≠ c) : BagAt c (upd H p o) b := by
  obtain ⟨i, l, m, n, ns, h1, h2, h3⟩ := h
  exact ⟨i, l, m, n, ns, by rw [upd_ne hp.1.symm]; exact h1, by rw [upd_ne hp.2.symm]; exact h2, h3⟩
theorem BagAt.upd {c : Addr} {H : Hp} {b p : Addr} {o : HO} (h : BagAt c H b) (hp : H p = none) : BagAt c (upd H p o) b := h.put (h.ne hp)
theorem BagAt.imp {c : Addr} {H H' : Hp} {b : Addr} (h : BagAt c H b) (e : Same H H') : BagAt c H' b := by
  obtain ⟨i, l, m, n, ns, h1, h2, h3⟩ := h
  exact ⟨i, l, m, n, ns, e _ _ h1, e _ _ h2, h3⟩

/-! ### _law_pick -/
def spPick : Sp := fun vs H Q _ => ∃ (b c : Addr) (many : Nat), vs = [.ref b, .int (many : Int)] ∧ BagAt c H b ∧ 0 < many ∧ many < 1000000000 ∧ ∀ (d : Nat) H', d < many → BagAt c H' b → Same (hid [b] H) (hid [b] H') → Q (.int (d : Int)) H'
abbrev sc__law_pick_N : List PySem.Str := ["bag", "limit", "number", "digit", "blend"]
theorem sc__law_pick : FnScope sc__law_pick_N ["bag", "limit"] (defScope (topS 43)) := ⟨rfl, rfl, rfl, by decide +kernel, rfl, by decide +kernel, by decide +kernel⟩
theorem ok_pick (T : MdK K mg CR CM kd) (D : DefAt K mg "_law_pick" (topS 43) ["bag", "limit"]) : Cal P w K mg base 1 "_law_pick" spPick := by
  refine cal_of D sc__law_pick (fun vs H Q E h => ?_) (fun f cdv A outer s H vs Q E hr h => ?_)
  · obtain ⟨b, c, many, rfl, _⟩ := h
    rfl
  · obtain ⟨b, c, many, rfl, ⟨i, l, m, n, ns, hb, hc, hm⟩, h0, h1, q⟩ := h
    refine ⟨_, (pss_cons (ps_asg (pe_op Own.on_add (pe_ix (Own.ixL (K := K) rfl) (pv 0) pe_int (fun _ _ => rfl)) pe_int) (pg_sub (pv 0) pe_int set_list))
  (pss_cons (ps_if (PW.pt (pw_and (pt_cmpR Own.oc_eq (pe_ix (Own.ixL (K := K) rfl) (pv 0) pe_int (fun _ _ => rfl)) pe_int (nomark _)) (pw_and1 (pt_cmpR Own.oc_lt (pe_ix (Own.ixL (K := K) rfl) (pv 0) pe_int (fun _ _ => rfl)) (pe_callB call_len_seq (by rfl) T.len (by decide +kernel) (pa_cons (pe_ix (Own.ixL (K := K) rfl) (pv 0) pe_int (fun _ _ => rfl)) pa_nil)) (nomark _)))))
   (pss_cons (ps_set (i := 2) sc__law_pick.nd rfl (Or.inl rfl) (pe_ix (Own.ixL (K := K) rfl) (pe_ix (Own.ixL (K := K) rfl) (pv 0) pe_int (fun _ _ => rfl)) (pe_ix (Own.ixL (K := K) rfl) (pv 0) pe_int (fun _ _ => rfl)) (fun _ _ => rfl)))
  (pss_cons (ps_asg (pe_op Own.on_add (pe_ix (Own.ixL (K := K) rfl) (pv 0) pe_int (fun _ _ => rfl)) pe_int) (pg_sub (pv 0) pe_int set_list))
  (pss_one (ps_if (pt_cmpR op_ge (pv 2) (pe_op op_pow pe_int pe_int) (nomark _))
   (pss_one (ps_asg (pv 2) (pg_sub (pv 0) pe_int set_list)))
   (pss_one (ps_asg (pe_op Own.on_mod (pe_callTy Own.intI (by rfl) T.int (by decide +kernel) (pa_cons (pe_op Own.on_add (pe_op Own.on_add (pe_op Own.on_mul (pe_ix (Own.ixL (K := K) rfl) (pv 0) pe_int (fun _ _ => rfl)) pe_int) (pe_op Own.on_mul (pe_op Own.on_modI (pe_callTy Own.intI (by rfl) T.int (by decide +kernel) (pa_cons (pv 2) pa_nil)) pe_int) pe_int)) pe_int) pa_nil)) pe_int) (pg_sub (pv 0) pe_int set_list)))))))
   pss_nil)
  (pss_cons (ps_if (pt_cmpR Own.oc_gt (pe_ix (Own.ixL (K := K) rfl) (pv 0) pe_int (fun _ _ => rfl)) pe_int (nomark _))
   (pss_cons (ps_set (i := 3) sc__law_pick.nd rfl (Or.inl rfl) (pe_op Own.on_mod (pe_callTy Own.intI (by rfl) T.int (by decide +kernel) (pa_cons (pe_ix (Own.ixL (K := K) rfl) (pv 0) pe_int (fun _ _ => rfl)) pa_nil)) (pv 1)))
  (pss_cons (ps_asg (pe_op Own.on_fdiv (pe_ix (Own.ixL (K := K) rfl) (pv 0) pe_int (fun _ _ => rfl)) (pv 1)) (pg_sub (pv 0) pe_int set_list))
  (pss_one (ps_ret (pv 3)))))
   pss_nil)
  (pss_cons (ps_set (i := 4) sc__law_pick.nd rfl (Or.inl rfl) (pe_callTy Own.intI (by rfl) T.int (by decide +kernel) (pa_cons (pe_ix (Own.ixL (K := K) rfl) (pv 0) pe_int (fun _ _ => rfl)) pa_nil)))
  (pss_cons (ps_asg (pe_op Own.on_mod (pe_callTy Own.intI (by rfl) T.int (by decide +kernel) (pa_cons (pe_op Own.on_add (pe_op Own.on_add (pe_op Own.on_add (pe_op Own.on_mul (pe_op Own.on_mul (pv 4) (pv 4)) (pv 4)) (pe_op Own.on_mul (pv 4) pe_int)) (pe_op Own.on_mul (pe_ix (Own.ixL (K := K) rfl) (pv 0) pe_int (fun _ _ => rfl)) pe_int)) pe_int) pa_nil)) pe_int) (pg_sub (pv 0) pe_int set_list))
  (pss_one (ps_ret (pe_op Own.on_mod (pe_callTy Own.intI (by rfl) T.int (by decide +kernel) (pa_cons (pe_op Own.on_add (pe_op Own.on_fdiv (pe_ix (Own.ixL (K := K) rfl) (pv 0) pe_int (fun _ _ => rfl)) pe_int) (pe_op Own.on_mul (pe_op Own.on_mod (pe_callTy Own.intI (by rfl) T.int (by decide +kernel) (pa_cons (pe_ix (Own.ixL (K := K) rfl) (pv 0) pe_int (fun _ _ => rfl)) pa_nil)) pe_int) pe_int)) pa_nil)) (pv 1))))))))), ?_⟩
    have hcb : c ≠ b := fun z => by
      rw [z, hb] at hc
      have z2 : bagV c i l m n = ns.map V.int := by injection hc with e; injection e
      cases ns with
      | nil => cases z2
      | cons x r => injection z2 with e; cases e
    have fin : ∀ (i l m n : Nat) (d : Nat), d < many → m < 2147483579 → Q (.int (d : Int)) (upd H b (.lst (bagV c i l m n))) := fun i l m n d hd hm =>
      q d _ hd ⟨i, l, m, n, ns, upd_same, by rw [upd_ne hcb]; exact hc, hm⟩ (same_hid_upd (by simp))
    rw [← upd_eta hb]
    generalize hH : H = H0 at fin
    have hc0 : H0 c = some (.lst (ns.map V.int)) := hH ▸ hc
    clear q hb hH hc
    refine seq2_rest (R := fun σ' H' => ∃ (i l m n : Nat) (e2 : Option V), σ' = [some (.ref b), some (.int (many : Int)), e2, none, none] ∧ H' = upd H0 b (.lst (bagV c i l m n)) ∧ m < 2147483579) (fun N rest => ?_) ?_
    · walk_at "bag"
      refine ite2 (fun hl => ?_) (fun hl => ?_)
      · walk_at "bag"
        refine ⟨c, _, rfl, .inl (SqL.of (H := _) (by rw [upd_upd, upd_ne hcb]; exact hc0)), ?_⟩
        walk_at "bag"
        refine ite2 (fun hi => ?_) (fun hi => ?_)
        · walk_at "bag"
          have hi2 : i < (ns.map V.int).length := of_decide_eq_true hi
          rw [List.length_map] at hi2
          refine ⟨c, ns.map V.int, (i : Int), .int ns[i], rfl, rfl, SqL.of (by rw [upd_upd, upd_ne hcb]; exact hc0), atI_nat (by rw [List.getElem?_map, List.getElem?_eq_getElem hi2]; rfl), ?_⟩
          walk_at "bag"
          refine ⟨(by unfold CPow; decide), ?_⟩
          walk_at "bag"
          refine ite2 (fun hx => ?_) (fun hx => ?_)
          · have hx2 : (10 : Int) ^ 18 ≤ ns[i] := of_decide_eq_true hx
            obtain ⟨x, hx3⟩ : ∃ x : Nat, ns[i] = (x : Int) := ⟨ns[i].toNat, by omega⟩
            rw [hx3]
            walk_at "bag"
            exact rest _ _ ⟨i + 1, x, m, n + 1, _, rfl, by simp only [upd_upd]; rfl, hm⟩
          · walk_at "bag"
            intro r hr _
            walk_at "bag"
            exact rest _ _ ⟨i + 1, l, _, n + 1, _, rfl, by simp only [upd_upd]; rfl, Nat.mod_lt _ (by decide)⟩
        · exact rest _ _ ⟨i, l, m, n + 1, none, rfl, by rw [upd_upd]; rfl, hm⟩
      · exact rest _ _ ⟨i, l, m, n + 1, none, rfl, by rw [upd_upd]; rfl, hm⟩
    · rintro σ' H' ⟨i, l, m, n, e2, rfl, rfl, hm⟩
      walk_at "bag"
      refine ite2 (fun hl => ?_) (fun hl => ?_)
      · walk_at "bag"
        simp only [upd_upd]
        exact fin i (l / many) m n (l % many) (Nat.mod_lt _ h0) hm
      · walk_at "bag"
        simp only [upd_upd]
        exact fin i l _ n _ (Nat.mod_lt _ h0) (Nat.mod_lt _ (by decide))

/-! ### _law_of -/
def spOf (K : PySem.W.Frag) : Sp := fun vs H Q _ => ∃ (b c t : Addr) (xs : List V), vs = [.ref b, .ref t] ∧ BagAt c H b ∧ SqL K (hid [b] H) t xs ∧ 0 < xs.length ∧ xs.length < 1000000 ∧ ∀ x H', x ∈ xs → BagAt c H' b → Same (hid [b] H) (hid [b] H') → Q x H'
abbrev sc__law_of_N : List PySem.Str := ["bag", "things"]
theorem sc__law_of : FnScope sc__law_of_N ["bag", "things"] (defScope (topS 44)) := ⟨rfl, rfl, rfl, by decide +kernel, rfl, by decide +kernel, by decide +kernel⟩
theorem ok_of (T : MdK K mg CR CM kd) (D : DefAt K mg "_law_of" (topS 44) ["bag", "things"]) (D_law_pick : Cal P w K mg base 1 "_law_pick" spPick) : Cal P w K mg base 2 "_law_of" (spOf K) := by
  refine cal_of D sc__law_of (fun vs H Q E h => ?_) (fun f cdv A outer s H vs Q E hr h => ?_)
  · obtain ⟨b, c, t, xs, rfl, _⟩ := h
    rfl
  · obtain ⟨b, c, t, xs, rfl, hb, ht, h0, h1, q⟩ := h
    refine ⟨_, (pss_one (ps_ret (pe_ix (Own.ixL (K := K) rfl) (pv 1) (Own.pe_c D_law_pick hr (by decide) rfl (pa_cons (pv 0) (pa_cons (pe_callB call_len_seq (by rfl) T.len (by decide +kernel) (pa_cons (pv 1) pa_nil)) pa_nil))) (fun _ _ => rfl)))), ?_⟩
    walk_at "go"
    refine ⟨t, xs, rfl, .inl (hid_sub.seq ht), ?_⟩
    walk_at "go"
    refine ⟨b, c, xs.length, rfl, hb, h0, by omega, fun d H' hd hb' e => ?_⟩
    refine ⟨t, xs, (d : Int), xs[d], rfl, rfl, hid_sub.seq (e.seq ht), atI_nat (List.getElem?_eq_getElem hd), ?_⟩
    exact q _ _ (List.getElem_mem hd) hb' e

/-! ### _law_open -/
def spOpen (K : PySem.W.Frag) : Sp := fun vs H Q _ => ∃ (a : Addr) (ns : List Int), vs = [.ref a] ∧ SqL K H a (ns.map V.int) ∧ ∀ b c H', Same H H' → H b = none → BagAt c H' b → Q (.ref b) H'
abbrev sc__law_open_N : List PySem.Str := ["script", "blend", "number"]
theorem sc__law_open : FnScope sc__law_open_N ["script"] (defScope (topS 42)) := ⟨rfl, rfl, rfl, by decide +kernel, rfl, by decide +kernel, by decide +kernel⟩
theorem ok_open (T : MdK K mg CR CM kd) (D : DefAt K mg "_law_open" (topS 42) ["script"]) : Cal P w K mg base 1 "_law_open" (spOpen K) := by
  refine cal_of D sc__law_open (fun vs H Q E h => ?_) (fun f cdv A outer s H vs Q E hr h => ?_)
  · obtain ⟨a, ns, rfl, _⟩ := h
    rfl
  · obtain ⟨a, ns, rfl, ha, q⟩ := h
    refine ⟨_, (pss_cons (ps_set (i := 1) sc__law_open.nd rfl (Or.inl rfl) pe_int)
  (pss_cons (ps_for PassesOwn.never rfl (Own.pi_listK (K := K) rfl (pe_slice (Own.slL (K := K) rfl) (pv 0) po_none (po_some pe_int))) (pg_name (i := 2) sc__law_open.nd rfl (Or.inl rfl))
   (pss_one (ps_set (i := 1) sc__law_open.nd rfl (Or.inl rfl) (pe_op Own.on_mod (pe_callTy Own.intI (by rfl) T.int (by decide +kernel) (pa_cons (pe_op Own.on_add (pe_op Own.on_add (pe_op Own.on_mul (pv 1) pe_int) (pe_op Own.on_modI (pe_callTy Own.intI (by rfl) T.int (by decide +kernel) (pa_cons (pv 2) pa_nil)) pe_int)) pe_int) pa_nil)) pe_int))))
  (pss_one (ps_ret (pe_lst (pa_cons (pe_lc (own := [("number", 2)]) (g := (gName 2)) rfl sc__law_open.nd (Own.pi_listK (K := K) rfl (pe_slice (Own.slL (K := K) rfl) (pv 0) po_none (po_some pe_int))) (blkOk_by (own := [("number", 2)]) (N := sc__law_open_N) (sc := defScope (topS 42)) (by decide +kernel)) (fun _ _ _ _ _ => (pg_name (i := 2) sc__law_open.nd rfl (Or.inl rfl))) (fun _ _ _ _ _ => pts_nil) (fun _ _ _ _ _ => (pe_callTy Own.intI (by rfl) T.int (by decide +kernel) (pa_cons (pv 2) pa_nil)))) (pa_cons pe_int (pa_cons pe_int (pa_cons (pv 1) (pa_cons pe_int pa_nil)))))))))), ?_⟩
    have hcut : cutV (ns.map V.int) none (some (63 : Int)) = (ns.take 63).map V.int := by rw [show (63 : Int) = ((63 : Nat) : Int) from rfl, cutV_take, List.map_take]
    walk_at "go"
    refine ⟨a, _, rfl, ha, fun p hp => ?_⟩
    rw [hcut]
    have S1 : Same H (upd H p (.lst ((ns.take 63).map V.int))) := Same.upd_new hp
    have hp1 : upd H p (.lst ((ns.take 63).map V.int)) p = some (.lst ((ns.take 63).map V.int)) := upd_same
    generalize upd H p (.lst ((ns.take 63).map V.int)) = H1 at S1 hp1
    refine ⟨p, rfl, ⟨_, SqL.of hp1⟩, for_it walk_list (fun i σ H' => H' = H1 ∧ ∃ (m : Nat) (e : Option V), σ = [some (.ref a), some (.int (m : Int)), e] ∧ m < 2147483579) ⟨rfl, 811757, none, rfl, by decide⟩ (fun i σ H' _ ⟨e, _⟩ => by rw [e]; exact SqL.of hp1) ?_ ?_⟩
    · rintro i x σ H' H'' hi ⟨rfl, m, e, rfl, hm⟩ ⟨rfl, hx⟩
      rw [List.getElem?_map] at hx
      cases e2 : (ns.take 63)[i]? with
      | none => rw [e2] at hx; cases hx
      | some z =>
        rw [e2] at hx
        obtain rfl : V.int z = x := Option.some.inj hx
        walk_at "go"
        intro r hr _
        walk_at "go"
        exact Nat.mod_lt _ (by decide)
    · rintro σ H1 ⟨rfl, m, e, rfl, hm⟩
      walk_at "go"
      refine ⟨a, _, rfl, S1.seq ha, fun p2 hp2 => ?_⟩
      rw [hcut]
      refine ⟨p2, rfl, ⟨_, SqL.of upd_same⟩, fun D hD => ?_⟩
      refine lc_it walk_list (fun i H' => H' = upd (upd H1 p2 (.lst ((ns.take 63).map V.int))) D (.lst (((ns.take 63).take i).map V.int))) rfl (fun i H' _ e => by rw [e]; exact SqL.of (Same.upd_new hD _ _ upd_same)) ?_ ?_
      · rintro i x H' H'' hi rfl ⟨rfl, hx⟩
        rw [List.getElem?_map] at hx
        cases e2 : (ns.take 63)[i]? with
        | none => rw [e2] at hx; cases hx
        | some z =>
          rw [e2] at hx
          obtain rfl : V.int z = x := Option.some.inj hx
          walk_at "go"
          refine ⟨_, upd_same, (by
            rw [List.length_map, sizeLine_eq]
            have h1 := List.length_take_le i (ns.take 63)
            rw [List.length_map] at hi
            have h2 := List.length_take_le 63 ns
            have h3 := List.length_take_le' 63 ns
            omega), ?_⟩
          rw [upd_upd, List.take_add_one (l := ns.take 63), e2, List.map_append]
          rfl
      · rintro H' rfl
        walk_at "go"
        rw [List.length_map, List.take_length]
        refine ⟨(by show 5 ≤ sizeLine; decide), fun b hb => ?_⟩
        have S2 := same_new (o := .lst ((ns.take 63).map V.int)) (same_new (o := .lst ((ns.take 63).map V.int)) S1 hp2) hD
        have hDb : D ≠ b := fun z => by rw [← z, upd_same] at hb; cases hb
        exact q b D _ (same_new S2 hb) (same_none S2 hb) ⟨0, 0, m, 0, ns.take 63, upd_same, by rw [upd_ne hDb, upd_same], hm⟩
end
end Cl

namespace Cl
local macro_rules | `(tactic| walk_at "go") => `(tactic| repeat (first | (refine ⟨_, rfl, ?_⟩) | (refine ⟨_, _, rfl, rfl, ?_⟩) | (refine ⟨_, rfl, rfl, ?_⟩) | (refine ⟨_, _, rfl, ?_⟩) | (refine And.intro (by first | with_reducible rfl | rfl | omega | decide | assumption | (dsimp only; first | omega | decide | assumption)) ?_)))

local macro_rules | `(tactic| walk_at "bag") => `(tactic| repeat (first | (refine ⟨_, _, _, _, rfl, rfl, L2.SqL.of L2.upd_same, (by rfl), ?_⟩) | (refine ⟨_, _, _, _, rfl, rfl, L2.upd_same, (by rfl), ?_⟩) | (refine ⟨_, rfl, ?_⟩) | (refine ⟨_, _, rfl, rfl, ?_⟩) | (refine ⟨_, rfl, rfl, ?_⟩) | (refine ⟨_, _, rfl, ?_⟩) | (refine And.intro (by first | with_reducible rfl | rfl | omega | decide | assumption | (dsimp only; first | omega | decide | assumption)) ?_)))
open PySem L2 Own
section
variable {P : Program} {w : World} {K : PySem.W.Frag} {mg : PySem.Str → Option Value} {base : Heap} {CR CM kd : Addr}
/-! ### names -/
/-- a sign that may stand in a name -/
def Sgn (c : Nat) : Prop := (97 ≤ c ∧ c ≤ 122) ∨ (48 ≤ c ∧ c ≤ 57)
structure Nm (z : PySem.Str) : Prop where
  len : z.length ≤ 8
  fst : ∃ c r, z.cps.toList = c :: r ∧ 97 ≤ c ∧ c ≤ 122
  all : ∀ c ∈ z.cps.toList, Sgn c
theorem in_first : ∀ c : Fin 123, 97 ≤ c.val → c.val ∈ ("abcdefghijklmnopqrstuvwxyz" : PySem.Str).cps.toList := by decide +kernel
theorem in_later : ∀ c : Fin 123, (97 ≤ c.val ∨ (48 ≤ c.val ∧ c.val ≤ 57)) → c.val ∈ ("abcdefghijklmnopqrstuvwxyz0123456789" : PySem.Str).cps.toList := by decide +kernel
theorem Sgn.mem {c : Nat} (h : Sgn c) : c ∈ ("abcdefghijklmnopqrstuvwxyz0123456789" : PySem.Str).cps.toList := by
  rcases h with ⟨a, b⟩ | ⟨a, b⟩
  · exact in_later ⟨c, by omega⟩ (.inl a)
  · exact in_later ⟨c, by omega⟩ (.inr ⟨a, b⟩)
def spIsName : Sp := fun vs H Q _ => ∃ z : PySem.Str, vs = [.str z] ∧ Nm z ∧ ∀ H', Same H H' → Q (.bl true) H'
abbrev sc_is_name_N : List PySem.Str := ["value", "sign"]
theorem sc_is_name : FnScope sc_is_name_N ["value"] (defScope (topS 16)) := ⟨rfl, rfl, rfl, by decide +kernel, rfl, by decide +kernel, by decide +kernel⟩
theorem ok_is_name (T : MdK K mg CR CM kd) (D : DefAt K mg "is_name" (topS 16) ["value"]) : Cal P w K mg base 1 "is_name" spIsName := by
  refine cal_of D sc_is_name (fun vs H Q E h => ?_) (fun f cdv A outer s H vs Q E hr h => ?_)
  · obtain ⟨z, rfl, _⟩ := h
    rfl
  · obtain ⟨z, rfl, hz, q⟩ := h
    refine ⟨_, (pss_cons (ps_if (PW.pt (pw_or (pt_not (pt_val (pe_callB (Own.isiK (K := K) rfl) (by rfl) T.isinstance (by decide +kernel) (pa_cons (pv 0) (pa_cons (pe_bltn (v := .ty "str") rfl T.str (by decide +kernel) rfl) pa_nil))))) (pw_or1 (pt_not (pt_chain Own.oc_le Own.oc_le pe_int (pe_callB call_len_str (by rfl) T.len (by decide +kernel) (pa_cons (pv 0) pa_nil)) (Own.pe_gl rfl T.c_NAME_LIMIT))))))
   (pss_one (ps_ret pe_bl))
   pss_nil)
  (pss_cons (ps_if (pt_cmpR op_notIn_sign (pe_ix ix_str (pv 0) pe_int (fun _ _ => rfl)) (Own.pe_gl rfl T.c_FIRST_SIGNS) rfl)
   (pss_one (ps_ret pe_bl))
   pss_nil)
  (pss_one (ps_ret (pe_callB (cr_all rfl) (by rfl) T.all (by decide +kernel) (pa_cons (pe_lc (own := [("sign", 1)]) (g := (gName 1)) rfl sc_is_name.nd (pi_str (pv 0)) (blkOk_by (own := [("sign", 1)]) (N := sc_is_name_N) (sc := defScope (topS 16)) (by decide +kernel)) (fun _ _ _ _ _ => (pg_name (i := 1) sc_is_name.nd rfl (Or.inl rfl))) (fun _ _ _ _ _ => pts_nil) (fun _ _ _ _ _ => (pe_cmpR op_in_sign (pv 1) (Own.pe_gl rfl T.c_LATER_SIGNS) rfl))) pa_nil)))))), ?_⟩
    walk_at "go"
    refine ⟨_, _, _, _, true, rfl, .ty _, .base (.str z), kit_ty (by decide +kernel), true, rfl, ?_⟩
    refine iteF ?_
    obtain ⟨c0, r0, ec, hc1, hc2⟩ := hz.fst
    have hl1 : 1 ≤ z.length := by
      have e : z.length = z.cps.toList.length := by simp [Str.length]
      rw [e, ec]
      simp
    have hl8 := hz.len
    have hls : z.length ≤ sizeLine := by rw [sizeLine_eq]; omega
    refine ⟨_, rfl, z, rfl, hls, 1, z.length, rfl, rfl, _, rfl, ?_⟩
    refine iT (decide_eq_true hl1) ?_
    refine ⟨z.length, 8, rfl, rfl, _, rfl, ?_⟩
    refine iF (b := !decide (z.length ≤ 8)) (by rw [decide_eq_true hl8]; rfl) ?_
    refine ⟨_, rfl, z, 0, c0, rfl, rfl, hls, (by rw [ec]; exact atI_nat (j := 0) rfl), ?_⟩
    refine ⟨c0, _, rfl, rfl, _, rfl, ?_⟩
    refine iF (b := !decide (c0 ∈ ("abcdefghijklmnopqrstuvwxyz" : PySem.Str).cps.toList)) (by rw [decide_eq_true (in_first ⟨c0, by omega⟩ hc1)]; rfl) ?_
    refine ⟨_, rfl, z, rfl, fun D hD => ?_⟩
    refine lc_it walk_str (fun i H' => H' = upd H D (.lst ((List.replicate i true).map V.bl))) rfl (fun _ _ _ _ => trivial) ?_ ?_
    · rintro i x H1 H2 hi rfl ⟨rfl, c, hc, rfl⟩
      walk_at "go"
      have hm : c ∈ z.cps.toList := by
        rw [← Array.getElem?_toList] at hc
        exact List.mem_of_getElem? hc
      have hi2 : z.cps.size = z.length := rfl
      refine ⟨_, upd_same, (by rw [List.length_map, List.length_replicate, sizeLine_eq]; omega), ?_⟩
      rw [decide_eq_true (hz.all c hm).mem, upd_upd, List.replicate_succ', List.map_append]
      rfl
    · rintro H1 rfl
      refine ⟨D, List.replicate z.cps.size true, rfl, SqL.of upd_same, ?_⟩
      rw [show (List.replicate z.cps.size true).all id = true by simp]
      exact q _ (Same.upd_new hD)
def spCount : Sp := fun vs H Q _ => ∃ n : Nat, vs = [.int (n : Int)] ∧ n ≤ 14 ∧ Q .non H
abbrev sc_check_chord_count_N : List PySem.Str := ["count"]
theorem sc_check_chord_count : FnScope sc_check_chord_count_N ["count"] (defScope (topS 17)) := ⟨rfl, rfl, rfl, by decide +kernel, rfl, by decide +kernel, by decide +kernel⟩
theorem ok_count (T : MdK K mg CR CM kd) (D : DefAt K mg "check_chord_count" (topS 17) ["count"]) : Cal P w K mg base 1 "check_chord_count" spCount := by
  refine cal_of D sc_check_chord_count (fun vs H Q E h => ?_) (fun f cdv A outer s H vs Q E hr h => ?_)
  · obtain ⟨n, rfl, _⟩ := h
    rfl
  · obtain ⟨n, rfl, hn, q⟩ := h
    refine ⟨_, (pss_one (ps_if (pt_cmpR Own.oc_gt (pv 0) (Own.pe_gl rfl T.c_CHORD_LIMIT) (nomark _))
   (pss_one Own.ps_never)
   pss_nil)), ?_⟩
    walk_at "go"
    exact iF (decide_eq_false (by omega)) q
def spText : Sp := fun vs H Q _ => ∃ z : PySem.Str, vs = [.str z] ∧ z.length ≤ 40000 ∧ Q .non H
abbrev sc_check_text_N : List PySem.Str := ["text"]
theorem sc_check_text : FnScope sc_check_text_N ["text"] (defScope (topS 10)) := ⟨rfl, rfl, rfl, by decide +kernel, rfl, by decide +kernel, by decide +kernel⟩
theorem ok_text (T : MdK K mg CR CM kd) (D : DefAt K mg "check_text" (topS 10) ["text"]) : Cal P w K mg base 1 "check_text" spText := by
  refine cal_of D sc_check_text (fun vs H Q E h => ?_) (fun f cdv A outer s H vs Q E hr h => ?_)
  · obtain ⟨z, rfl, _⟩ := h
    rfl
  · obtain ⟨z, rfl, hn, q⟩ := h
    refine ⟨_, (pss_one (ps_if (PW.pt (pw_and (pt_val (pe_callB (Own.isiK (K := K) rfl) (by rfl) T.isinstance (by decide +kernel) (pa_cons (pv 0) (pa_cons (pe_bltn (v := .ty "str") rfl T.str (by decide +kernel) rfl) pa_nil)))) (pw_and1 (pt_cmpR Own.oc_gt (pe_callB call_len_str (by rfl) T.len (by decide +kernel) (pa_cons (pv 0) pa_nil)) (Own.pe_gl rfl T.c_TEXT_LIMIT) (nomark _)))))
   (pss_one Own.ps_never)
   pss_nil)), ?_⟩
    walk_at "go"
    refine ⟨_, _, _, _, true, rfl, .ty _, .base (.str z), kit_ty (by decide +kernel), true, rfl, ?_⟩
    refine iteT ?_
    have hls : z.length ≤ sizeLine := by rw [sizeLine_eq]; omega
    walk_at "go"
    exact iF (decide_eq_false (by omega)) q
def spSign : Sp := fun vs H Q _ => ∃ z : PySem.Str, vs = [.str z] ∧ Nm z ∧ ∀ H', Same H H' → Q (.str Str.empty) H'
abbrev sc_end_sign_N : List PySem.Str := ["value"]
theorem sc_end_sign : FnScope sc_end_sign_N ["value"] (defScope (topS 23)) := ⟨rfl, rfl, rfl, by decide +kernel, rfl, by decide +kernel, by decide +kernel⟩
theorem ok_sign (T : MdK K mg CR CM kd) (D : DefAt K mg "end_sign" (topS 23) ["value"]) (D_is_name : Cal P w K mg base 1 "is_name" spIsName) : Cal P w K mg base 2 "end_sign" spSign := by
  refine cal_of D sc_end_sign (fun vs H Q E h => ?_) (fun f cdv A outer s H vs Q E hr h => ?_)
  · obtain ⟨z, rfl, _⟩ := h
    rfl
  · obtain ⟨z, rfl, hn, q⟩ := h
    refine ⟨_, (pss_cons (ps_if (pt_val (Own.pe_c D_is_name hr (by decide) rfl (pa_cons (pv 0) pa_nil)))
   (pss_one (ps_ret pe_str))
   pss_nil)
  (pss_cons Own.ps_never
  (pss_one Own.ps_never))), ?_⟩
    walk_at "go"
    intro H' e
    refine ⟨true, rfl, iteT ?_⟩
    exact q H' e
end
end Cl

namespace Cl
local macro_rules | `(tactic| walk_at "go") => `(tactic| repeat (first | (refine ⟨_, rfl, ?_⟩) | (refine ⟨_, _, rfl, rfl, ?_⟩) | (refine ⟨_, rfl, rfl, ?_⟩) | (refine ⟨_, _, rfl, ?_⟩) | (refine And.intro (by first | with_reducible rfl | rfl | omega | decide | assumption | (dsimp only; first | omega | decide | assumption)) ?_)))

local macro_rules | `(tactic| walk_at "bag") => `(tactic| repeat (first | (refine ⟨_, _, _, _, rfl, rfl, L2.SqL.of L2.upd_same, (by rfl), ?_⟩) | (refine ⟨_, _, _, _, rfl, rfl, L2.upd_same, (by rfl), ?_⟩) | (refine ⟨_, rfl, ?_⟩) | (refine ⟨_, _, rfl, rfl, ?_⟩) | (refine ⟨_, rfl, rfl, ?_⟩) | (refine ⟨_, _, rfl, ?_⟩) | (refine And.intro (by first | with_reducible rfl | rfl | omega | decide | assumption | (dsimp only; first | omega | decide | assumption)) ?_)))
open PySem L2 Own Ring
section
variable {P : Program} {w : World} {K : PySem.W.Frag} {mg : PySem.Str → Option Value} {base : Heap} {CR CM kd : Addr}
/-- the dict counts the names of a list -/
def Cnt (kvs : List (Key × V)) (zs : List PySem.Str) : Prop := ∀ z : PySem.Str, valV kvs (Sum.inr z) = if zs.count z = 0 then none else some (.int ((zs.count z : Nat) : Int))
theorem Cnt.get {kvs : List (Key × V)} {zs : List PySem.Str} (h : Cnt kvs zs) (z : PySem.Str) : (valV kvs (Sum.inr z)).getD (.int ((0 : Nat) : Int)) = .int ((zs.count z : Nat) : Int) := by
  rw [h z]
  by_cases e : zs.count z = 0
  · rw [if_pos e, e]; rfl
  · rw [if_neg e]; rfl
theorem Cnt.put {kvs : List (Key × V)} {zs : List PySem.Str} (h : Cnt kvs zs) (z : PySem.Str) : Cnt (putK kvs (Sum.inr z) (.int ((zs.count z + 1 : Nat) : Int))) (zs ++ [z]) := fun y => by
  rw [valV_put]
  by_cases e : y = z
  · subst e
    rw [if_pos rfl, List.count_append, List.count_singleton_self, if_neg (by omega)]
  · rw [if_neg fun q => e (Sum.inr.inj q), h y, List.count_append]
    have : List.count y [z] = 0 := List.count_eq_zero.mpr (by simpa using e)
    rw [this, Nat.add_zero]
def strsV (zs : List PySem.Str) : List V := zs.map V.str
theorem strsV_get {zs : List PySem.Str} {i : Nat} {x : V} (h : (strsV zs)[i]? = some x) : ∃ z, zs[i]? = some z ∧ x = .str z := by
  unfold strsV at h
  rw [List.getElem?_map] at h
  cases e : zs[i]? with
  | none => rw [e] at h; cases h
  | some z => rw [e] at h; exact ⟨z, rfl, (Option.some.inj h).symm⟩
theorem strsV_len (zs : List PySem.Str) : (strsV zs).length = zs.length := List.length_map ..
theorem take_more {α : Type} {l : List α} {i : Nat} {x : α} (h : l[i]? = some x) : l.take (i + 1) = l.take i ++ [x] := by rw [List.take_add_one, h]; rfl
def spWrong (K : PySem.W.Frag) : Sp := fun vs H Q _ => ∃ (a : Addr) (zs : List PySem.Str), vs = [.ref a] ∧ SqL K H a (strsV zs) ∧ (∀ z ∈ zs, Nm z) ∧ Dbl zs ∧ zs.length ≤ 28 ∧ ∀ H', Same H H' → Q .non H'
abbrev sc_wrong_end_N : List PySem.Str := ["ends", "signed", "many", "at", "end", "sign"]
theorem sc_wrong_end : FnScope sc_wrong_end_N ["ends"] (defScope (topS 25)) := ⟨rfl, rfl, rfl, by decide +kernel, rfl, by decide +kernel, by decide +kernel⟩
theorem ok_wrong (T : MdK K mg CR CM kd) (D : DefAt K mg "wrong_end" (topS 25) ["ends"]) (D_end_sign : Cal P w K mg base 2 "end_sign" spSign) : Cal P w K mg base 3 "wrong_end" (spWrong K) := by
  refine cal_of D sc_wrong_end (fun vs H Q E h => ?_) (fun f cdv A outer s H vs Q E hr h => ?_)
  · obtain ⟨a, zs, rfl, _⟩ := h
    rfl
  · obtain ⟨a, zs, rfl, ha, hn, h2, hl, q⟩ := h
    refine ⟨_, (pss_cons (ps_set (i := 1) sc_wrong_end.nd rfl (Or.inl rfl) pe_bl)
  (pss_cons (ps_set (i := 2) sc_wrong_end.nd rfl (Or.inl rfl) pe_dnewK)
  (pss_cons (ps_for PassesOwn.never rfl (pi_enum (by rfl) T.enumerate (pa_cons (pv 0) pa_nil)) (pg_tup rfl (pgs_cons (pg_name (i := 3) sc_wrong_end.nd rfl (Or.inl rfl)) (pgs_cons (pg_name (i := 4) sc_wrong_end.nd rfl (Or.inl rfl)) pgs_nil)))
   (pss_cons (ps_set (i := 5) sc_wrong_end.nd rfl (Or.inl rfl) (Own.pe_c D_end_sign hr (by decide) rfl (pa_cons (pv 4) pa_nil)))
  (pss_cons (ps_if (pt_cmpR op_isN (pv 5) pe_non (nomark _))
   Own.pss_never
   pss_nil)
  (pss_cons (ps_if (pt_cmpR Own.oc_eq (pv 3) pe_int (nomark _))
   (pss_one (ps_set (i := 1) sc_wrong_end.nd rfl (Or.inl rfl) (pe_cmpR Own.os_ne (pv 5) pe_str (nomark _))))
   pss_nil)
  (pss_cons (ps_if (PW.pt (pw_or (pt_cmpR Own.ol_ne (pv 1) (pe_cmpR Own.os_ne (pv 5) pe_str (nomark _)) (nomark _)) (pw_or1 (pt_cmpR Own.oc_eq (pe_dget2 (hu_of hr) (pv 2) (pv 4) pe_int ⟨rfl, rfl, rfl, rfl⟩) (pe_ifExp (pt_val (pv 1)) pe_int pe_int) (nomark _)))))
   Own.pss_never
   pss_nil)
  (pss_one (ps_dput (hu_of hr) (pv 2) (pv 4) (pe_op Own.on_add (pe_dget2 (hu_of hr) (pv 2) (pv 4) pe_int ⟨rfl, rfl, rfl, rfl⟩) pe_int) rfl)))))))
  (pss_cons (ps_for PassesOwn.never rfl (pi_enum (by rfl) T.enumerate (pa_cons (pv 0) pa_nil)) (pg_tup rfl (pgs_cons (pg_name (i := 3) sc_wrong_end.nd rfl (Or.inl rfl)) (pgs_cons (pg_name (i := 4) sc_wrong_end.nd rfl (Or.inl rfl)) pgs_nil)))
   (pss_cons (ps_if (PW.pt (pw_and (pt_val (pv 1)) Own.pw_never))
   Own.pss_never
   pss_nil)
  (pss_one (ps_if (PW.pt (pw_and (pt_not (pt_val (pv 1))) (pw_and1 (pt_cmpR Own.oc_eq (pe_dget (hu_of hr) (pv 2) (pv 4) (fun _ _ => rfl)) pe_int (nomark _)))))
   Own.pss_never
   pss_nil))))
  (pss_one (ps_ret pe_non)))))), ?_⟩
    walk_at "go"
    intro d hd
    refine ⟨_, rfl, a, _, rfl, (Same.upd_new hd).seq ha, ?_⟩
    refine for_it walk_enum (fun i σ H' => ∃ (kvs : List (Key × V)) (e3 e4 e5 : Option V), σ = [some (.ref a), some (.bl false), some (.ref d), e3, e4, e5] ∧ Same H H' ∧ H' d = some (.dK kvs) ∧ Cnt kvs (zs.take i) ∧ kvs.length ≤ i)
      ⟨[], none, none, none, rfl, Same.upd_new hd, upd_same, fun z => rfl, Nat.le_refl _⟩ (fun i σ H' _ ⟨_, _, _, _, _, S, _⟩ => S.seq ha) ?_ ?_
    · rintro i x σ H1 H2 hi ⟨kvs, e3, e4, e5, rfl, S, hk, hc, hlen⟩ ⟨t, x1, x2, rfl, ht, rfl, h1, hx2⟩
      obtain rfl : V.int (i : Int) = x1 := Option.some.inj h1
      obtain ⟨z, hz, rfl⟩ := strsV_get hx2
      have hzm : z ∈ zs := List.mem_of_getElem? hz
      rw [strsV_len] at hi
      have S1 : Same H (upd H1 t (.tup [.int (i : Int), .str z])) := same_new S ht
      have hk1 : upd H1 t (.tup [.int (i : Int), .str z]) d = some (.dK kvs) := by rw [upd_ne (ne_of_none hk ht)]; exact hk
      refine ⟨t, _, rfl, SqT.of upd_same, rfl, ?_⟩
      generalize upd H1 t (.tup [.int (i : Int), .str z]) = H3 at S1 hk1
      walk_at "go"
      refine ⟨hn z hzm, fun H4 e4' => ?_⟩
      have S2 := S1.trans e4'
      have hk2 := e4' _ _ hk1
      clear e4' hk1 S1
      refine seq2_rest (R := fun σ' H' => σ' = [some (.ref a), some (.bl false), some (.ref d), some (.int (i : Int)), some (.str z), some (.str Str.empty)] ∧ H' = H4) (fun N rest => ?_) ?_
      · walk_at "go"
        refine iF (show decide (V.str Str.empty = V.non) = false from decide_eq_false (fun z => by cases z)) ?_
        exact rest _ _ ⟨rfl, rfl⟩
      · rintro σ' H4 ⟨rfl, rfl⟩
        refine seq1_rest (R := fun σ' H' => σ' = [some (.ref a), some (.bl false), some (.ref d), some (.int (i : Int)), some (.str z), some (.str Str.empty)] ∧ H' = H4) (fun N rest => ?_) ?_
        · walk_at "go"
          refine ite2 (fun _ => ?_) (fun _ => ?_)
          · walk_at "go"
            exact rest _ _ ⟨rfl, rfl⟩
          · exact rest _ _ ⟨rfl, rfl⟩
        · rintro σ' H4 ⟨rfl, rfl⟩
          walk_at "go"
          have hcz : (zs.take i).count z + 1 ≤ 2 := by
            have h3 := h2 z hzm
            have h4 : (zs.take (i + 1)).count z ≤ zs.count z := (List.take_sublist (i + 1) zs).count_le z
            rw [take_more hz, List.count_append, List.count_singleton_self] at h4
            omega
          refine ⟨.inl ⟨kvs, .inl hk2⟩, _, rfl, _, DGet.k (k := Sum.inr z) hk2, ?_⟩
          rw [show (V.int 0) = V.int ((0 : Nat) : Int) from rfl, hc.get z]
          refine ⟨_, rfl, false, rfl, iteF ?_⟩
          refine ⟨(zs.take i).count z, 2, rfl, rfl, _, rfl, iF (decide_eq_false (by omega)) ?_⟩
          walk_at "go"
          refine ⟨.inl ⟨kvs, .inl hk2⟩, _, rfl, _, DGet.k (k := Sum.inr z) hk2, ?_⟩
          rw [hc.get z]
          refine ⟨(zs.take i).count z, 1, rfl, rfl, ?_⟩
          walk_at "go"
          refine ⟨d, _, rfl, DPut.k (k := Sum.inr z) hk2 (by rw [sizeLine_eq]; omega), ?_⟩
          refine ⟨_, _, _, _, rfl, ?_, upd_same, ?_, ?_⟩
          · refine fun x o hx => ?_
            rw [upd_ne (ne_of_none hx hd)]
            exact S2 x o hx
          · rw [take_more hz]
            exact hc.put z
          · exact Nat.le_trans (length_putK _ _ _) (Nat.succ_le_succ hlen)
    · rintro σ H1 ⟨kvs, e3, e4, e5, rfl, S, hk, hc, hlen⟩
      rw [strsV_len, List.take_length] at hc
      walk_at "go"
      refine ⟨a, _, rfl, S.seq ha, ?_⟩
      refine for_it walk_enum (fun i σ H' => ∃ (e3 e4 e5 : Option V), σ = [some (.ref a), some (.bl false), some (.ref d), e3, e4, e5] ∧ Same H1 H')
        ⟨_, _, _, rfl, Same.refl _⟩ (fun i σ H' _ ⟨_, _, _, _, S2⟩ => (S.trans S2).seq ha) ?_ ?_
      · rintro i x σ H2 H3 hi ⟨e3, e4, e5, rfl, S2⟩ ⟨t, x1, x2, rfl, ht, rfl, h1, hx2⟩
        obtain rfl : V.int (i : Int) = x1 := Option.some.inj h1
        obtain ⟨z, hz, rfl⟩ := strsV_get hx2
        have hzm : z ∈ zs := List.mem_of_getElem? hz
        have S3 : Same H1 (upd H2 t (.tup [.int (i : Int), .str z])) := same_new S2 ht
        refine ⟨t, _, rfl, SqT.of upd_same, rfl, ?_⟩
        generalize upd H2 t (.tup [.int (i : Int), .str z]) = H4 at S3
        walk_at "go"
        have hk2 := S3 _ _ hk
        have hcz := h2 z hzm
        have hg := DGet.k (k := Sum.inr z) hk2
        rw [hc z, if_neg (by omega), hcz] at hg
        refine ⟨_, _, rfl, hg, ?_⟩
        refine ⟨2, 1, rfl, rfl, _, rfl, iF (decide_eq_false (by decide)) ?_⟩
        exact ⟨_, _, _, rfl, S3⟩
      · rintro σ H2 ⟨e3, e4, e5, rfl, S2⟩
        exact q _ (S.trans S2)
end
end Cl

namespace Cl
local macro_rules | `(tactic| walk_at "go") => `(tactic| repeat (first | (refine ⟨_, rfl, ?_⟩) | (refine ⟨_, _, rfl, rfl, ?_⟩) | (refine ⟨_, rfl, rfl, ?_⟩) | (refine ⟨_, _, rfl, ?_⟩) | (refine And.intro (by first | with_reducible rfl | rfl | omega | decide | assumption | (dsimp only; first | omega | decide | assumption)) ?_)))

local macro_rules | `(tactic| walk_at "bag") => `(tactic| repeat (first | (refine ⟨_, _, _, _, rfl, rfl, L2.SqL.of L2.upd_same, (by rfl), ?_⟩) | (refine ⟨_, _, _, _, rfl, rfl, L2.upd_same, (by rfl), ?_⟩) | (refine ⟨_, rfl, ?_⟩) | (refine ⟨_, _, rfl, rfl, ?_⟩) | (refine ⟨_, rfl, rfl, ?_⟩) | (refine ⟨_, _, rfl, ?_⟩) | (refine And.intro (by first | with_reducible rfl | rfl | omega | decide | assumption | (dsimp only; first | omega | decide | assumption)) ?_)))
open PySem L2 Own Ring
section
variable {P : Program} {w : World} {K : PySem.W.Frag} {mg : PySem.Str → Option Value} {base : Heap} {CR CM kd : Addr}
/-! ### order of texts and of tuples of them -/
def ltS (a b : PySem.Str) : Bool := decide (a.cps.toList < b.cps.toList)
theorem lin_S : Lin ltS := ⟨fun a => decide_eq_false (List.lt_irrefl _), fun a b c h1 h2 => decide_eq_true (List.lt_trans (of_decide_eq_true h1) (of_decide_eq_true h2)), fun a b h1 h2 => by
  have g1 := of_decide_eq_false h1
  have g2 := of_decide_eq_false h2
  exact PySem.Str.ext' (Array.toList_inj.mp (List.le_antisymm (List.not_lt.mp g2) (List.not_lt.mp g1)))⟩
theorem listLt_lx {α : Type} [DecidableEq α] [PySem.W.DatumOrd α] : ∀ xs ys : List α, PySem.W.listLt xs ys = lx PySem.W.DatumOrd.lt xs ys
  | [], [] => rfl
  | [], _ :: _ => rfl
  | _ :: _, [] => rfl
  | x :: xs, y :: ys => by
    rw [PySem.W.listLt, lx, listLt_lx xs ys]
theorem lin_T : Lin (PySem.W.DatumOrd.lt : PySem.W.Tup PySem.Str → PySem.W.Tup PySem.Str → Bool) := by
  have L := Lin.lx lin_S
  have e : ∀ t u : PySem.W.Tup PySem.Str, PySem.W.DatumOrd.lt t u = lx ltS t.items u.items := fun t u => listLt_lx _ _
  refine ⟨fun a => by rw [e]; exact L.irr _, fun a b c h1 h2 => by rw [e] at *; exact L.tr _ _ _ h1 h2, fun a b h1 h2 => ?_⟩
  rw [e] at h1 h2
  have := L.tot _ _ h1 h2
  cases a
  cases b
  exact congrArg _ this
theorem lin_L : Lin (PySem.W.DatumOrd.lt : List Int → List Int → Bool) := by
  have L0 : Lin fun (a b : Int) => decide (a < b) := ⟨fun a => decide_eq_false (by omega), fun a b c h1 h2 => decide_eq_true (by have := of_decide_eq_true h1; have := of_decide_eq_true h2; omega), fun a b h1 h2 => by
    have := of_decide_eq_false h1
    have := of_decide_eq_false h2
    omega⟩
  have L := Lin.lx L0
  have e : ∀ t u : List Int, PySem.W.DatumOrd.lt t u = lx (fun (a b : Int) => decide (a < b)) t u := fun t u => listLt_lx _ _
  exact ⟨fun a => by rw [e]; exact L.irr _, fun a b c h1 h2 => by rw [e] at *; exact L.tr _ _ _ h1 h2, fun a b h1 h2 => by rw [e] at *; exact L.tot _ _ h1 h2⟩
theorem min_spec {α : Type} [DecidableEq α] [PySem.W.DatumOrd α] (L : Lin (PySem.W.DatumOrd.lt : α → α → Bool)) (x : α) (xs : List α) : PySem.W.minOf x xs ∈ x :: xs ∧ ∀ y ∈ x :: xs, PySem.W.DatumOrd.lt y (PySem.W.minOf x xs) = false := mn_spec L xs x
def candsU {α : Type} [DecidableEq α] (l : List α) (x : α) (i : Nat) : List (List α) := ((List.range i).filter fun k => decide (l[k]? = some x)).map fun k => l.drop k ++ l.take k
theorem candsU_succ {α : Type} [DecidableEq α] (l : List α) (x : α) (i : Nat) : candsU l x (i + 1) = candsU l x i ++ (if l[i]? = some x then [l.drop i ++ l.take i] else []) := by
  unfold candsU
  rw [List.range_succ, List.filter_append, List.map_append]
  congr 1
  by_cases h : l[i]? = some x
  · simp [h]
  · simp [h]
theorem candsU_len {α : Type} [DecidableEq α] (l : List α) (x : α) (i : Nat) : (candsU l x i).length ≤ i := by
  unfold candsU
  rw [List.length_map]
  exact Nat.le_trans (List.length_filter_le _ _) (by rw [List.length_range]; exact Nat.le_refl _)
theorem strOk_nm {z : PySem.Str} (h : ∀ x ∈ z.cps.toList, x < 1114112) : PyData.strOk z = true := by
  unfold PyData.strOk
  rw [← Array.all_toList, List.all_eq_true]
  exact fun x hx => decide_eq_true (h x hx)
theorem Nm.ok {z : PySem.Str} (h : Nm z) : PyData.strOk z = true := strOk_nm fun c hc => by
  rcases h.all c hc with ⟨_, q⟩ | ⟨_, q⟩ <;> omega
theorem slF_go {a : Addr} {xs : List V} {lo hi : Option Int} {H : Hp} {Q : VK} (ha : Td H a xs) (h : ∀ p H', Same H H' → Td H' p (cutV xs lo hi) → Q (.ref p) H') : rSlF (.ref a) lo hi H Q := ⟨a, xs, rfl, ha, h⟩
theorem catF_go {a b : Addr} {xs ys : List V} {H : Hp} {Q : VK} (ha : Td H a xs) (hb : Td H b ys) (hl : xs.length + ys.length ≤ sizeLine) (h : ∀ p H', Same H H' → Td H' p (xs ++ ys) → Q (.ref p) H') : rCatF (.ref a) (.ref b) H Q := ⟨a, b, xs, ys, rfl, rfl, ha, hb, hl, h⟩
/-- tuples of texts, one after another -/
def TdAll (H : Hp) (acc : List V) (cs : List (List PySem.Str)) : Prop := acc.length = cs.length ∧ ∀ (j : Nat) (c : List PySem.Str), cs[j]? = some c → ∃ p : Addr, acc[j]? = some (V.ref p) ∧ Td H p (strsV c)
theorem TdAll.imp {H H' : Hp} {acc : List V} {cs : List (List PySem.Str)} (h : TdAll H acc cs) (e : ∀ p xs, Td H p xs → Td H' p xs) : TdAll H' acc cs := ⟨h.1, fun j c hj => let ⟨p, a, b⟩ := h.2 j c hj; ⟨p, a, e _ _ b⟩⟩
theorem TdAll.snoc {H : Hp} {acc : List V} {cs : List (List PySem.Str)} {p : Addr} {c : List PySem.Str} (h : TdAll H acc cs) (hp : Td H p (strsV c)) : TdAll H (acc ++ [.ref p]) (cs ++ [c]) := by
  refine ⟨by rw [List.length_append, List.length_append, h.1]; rfl, fun j d hj => ?_⟩
  rcases Nat.lt_or_ge j cs.length with g | g
  · rw [List.getElem?_append_left g] at hj
    obtain ⟨q, a, b⟩ := h.2 j d hj
    exact ⟨q, by rw [List.getElem?_append_left (by rw [h.1]; exact g)]; exact a, b⟩
  · rw [List.getElem?_append_right g] at hj
    have e : j - cs.length = 0 := by
      have := (List.getElem?_eq_some_iff.mp hj).1
      simpa using this
    rw [e] at hj
    obtain rfl : c = d := Option.some.inj hj
    exact ⟨p, by rw [List.getElem?_append_right (by rw [h.1]; exact g), h.1, e]; rfl, hp⟩
theorem TdAll.dpa {K : PySem.W.Frag} {H : Hp} : ∀ {acc : List V} {cs : List (List PySem.Str)}, TdAll H acc cs → DpAll K H acc (cs.map fun l => PyData.tuple (l.map PyData.str))
  | [], [], _ => .nil
  | [], _ :: _, h => by have := h.1; simp at this
  | _ :: _, [], h => by have := h.1; simp at this
  | v :: acc, c :: cs, h => by
    obtain ⟨p, a, b⟩ := h.2 0 c rfl
    obtain rfl : v = .ref p := Option.some.inj a
    refine .cons (.tup b.sq (dpa_strs c)) (TdAll.dpa ⟨by have := h.1; simpa using this, fun j d hj => ?_⟩)
    exact h.2 (j + 1) d hj
/-! ### least_rotation -/
def spLeast : Sp := fun vs H Q _ => ∃ (a : Addr) (zs : List PySem.Str), vs = [.ref a] ∧ Td H a (strsV zs) ∧ (∀ z ∈ zs, Nm z) ∧ zs ≠ [] ∧ zs.length ≤ 28 ∧ ∀ p H', Same H H' → Td H' p (strsV (least ltS zs)) → Q (.ref p) H'
abbrev sc_least_rotation_N : List PySem.Str := ["ends", "least", "at", "end"]
theorem sc_least_rotation : FnScope sc_least_rotation_N ["ends"] (defScope (topS 26)) := ⟨rfl, rfl, rfl, by decide +kernel, rfl, by decide +kernel, by decide +kernel⟩
theorem ok_least (T : MdK K mg CR CM kd) (D : DefAt K mg "least_rotation" (topS 26) ["ends"]) : Cal P w K mg base 1 "least_rotation" spLeast := by
  refine cal_of D sc_least_rotation (fun vs H Q E h => ?_) (fun f cdv A outer s H vs Q E hr h => ?_)
  · obtain ⟨a, zs, rfl, _⟩ := h
    rfl
  · obtain ⟨a, zs, rfl, ha, hn, h0, hl, q⟩ := h
    refine ⟨_, (pss_cons (ps_if (pt_cmpR Own.oc_eq (pe_callB call_len_seq (by rfl) T.len (by decide +kernel) (pa_cons (pv 0) pa_nil)) pe_int (nomark _))
   (pss_one (ps_ret (pv 0)))
   pss_nil)
  (pss_cons (ps_set (i := 1) sc_least_rotation.nd rfl (Or.inr rfl) (pe_callB (Own.minK (α := PySem.Str) (K := K) rfl rfl hr.units) (by rfl) T.min (by decide +kernel) (pa_cons (pv 0) pa_nil)))
  (pss_one (ps_ret (pe_callB (Own.minK (α := (PySem.W.Tup PySem.Str)) (K := K) rfl rfl hr.units) (by rfl) T.min (by decide +kernel) (pa_cons (pe_lc (own := [("at", 2), ("end", 3)]) (g := (gTup K 2 (gCons (gName 2) (gCons (gName 3) gNil)))) rfl sc_least_rotation.nd (Own.pi_enumTA (K := K) rfl (by rfl) T.enumerate (pa_cons (pv 0) pa_nil)) (blkOk_by (own := [("at", 2), ("end", 3)]) (N := sc_least_rotation_N) (sc := defScope (topS 26)) (by decide +kernel)) (fun _ _ _ _ _ => (pg_tup rfl (pgs_cons (pg_name (i := 2) sc_least_rotation.nd rfl (Or.inl rfl)) (pgs_cons (pg_name (i := 3) sc_least_rotation.nd rfl (Or.inl rfl)) pgs_nil)))) (fun _ _ _ _ _ => (pts_one (pt_cmpR Own.os_eq (pv 3) (pv 1) (nomark _)))) (fun _ _ _ _ _ => (pe_op Own.op_F (pe_slice Own.sl_F (pv 0) (po_some (pv 2)) po_none) (pe_slice Own.sl_F (pv 0) po_none (po_some (pv 2)))))) pa_nil)))))), ?_⟩
    walk_at "go"
    refine ⟨a, _, rfl, .inr (Td.sq ha), (strsV zs).length, 0, rfl, rfl, _, rfl, iF (decide_eq_false (by rw [strsV_len]; exact fun e => h0 (List.length_eq_zero_iff.mp e))) ?_⟩
    obtain ⟨z0, zr, rfl⟩ : ∃ z0 zr, zs = z0 :: zr := List.exists_cons_of_ne_nil h0
    refine ⟨_, rfl, a, strsV (z0 :: zr), z0, zr, rfl, .inr (Td.sq ha), dpa_strs (z0 :: zr), fun y hy => (hn y hy).ok, fun y z e => PyData.str.inj e, fun i v hv hm => ?_⟩
    obtain ⟨w0, hw, rfl⟩ := strsV_get hv
    obtain rfl : w0 = PySem.W.minOf z0 zr := Option.some.inj (hw.symm.trans hm)
    obtain ⟨l1, l2⟩ := mn_spec lin_S zr z0
    have elow : PySem.W.minOf z0 zr = mn ltS z0 zr := rfl
    rw [elow]
    generalize hlow : mn ltS z0 zr = low at l1 l2
    generalize z0 :: zr = zs at ha hn hl q l1 l2 h0
    clear hv hm hw elow hlow
    have hpos : 0 < zs.length := List.length_pos_iff.mpr h0
    refine ⟨_, rfl, a, _, rfl, Td.sq ha, fun D hD => ?_⟩
    refine lc_it walk_enumT (fun i H' => ∃ acc, H' D = some (.lst acc) ∧ acc.length ≤ i ∧ Same H H' ∧ TdAll H' acc (candsU zs low i)) ⟨[], upd_same, Nat.le_refl _, Same.upd_new hD, ⟨rfl, fun j c h => by cases h⟩⟩
      (fun i H' _ ⟨_, _, _, S, _⟩ => Td.sq (Td.same ha S)) ?_ ?_
    · rintro i x H1 H2 hi ⟨acc, hac, hlen, S, hda⟩ ⟨t, x1, x2, rfl, ht, rfl, h1, hx2⟩
      obtain rfl : V.int ((0 + i : Nat) : Int) = x1 := Option.some.inj h1
      obtain ⟨z, hz, rfl⟩ := strsV_get hx2
      rw [strsV_len] at hi
      rw [Nat.zero_add]
      have hDt : D ≠ t := ne_of_none hac ht
      refine ⟨t, _, rfl, SqT.of upd_same, rfl, ?_⟩
      have S1 : Same H (upd H1 t (.tup [.int (i : Int), .str z])) := same_new S ht
      have hac1 : upd H1 t (.tup [.int (i : Int), .str z]) D = some (.lst acc) := by rw [upd_ne hDt]; exact hac
      have hda1 : TdAll (upd H1 t (.tup [.int (i : Int), .str z])) acc (candsU zs low i) := hda.imp fun p xs h => Td.same h (Same.upd_new ht)
      generalize upd H1 t (.tup [.int (i : Int), .str z]) = H3 at S1 hac1 hda1
      walk_at "go"
      refine ite2 (fun hc => ?_) (fun hc => ?_)
      · obtain rfl : z = low := of_decide_eq_true hc
        have ha3 : Td H3 a (strsV zs) := Td.same ha S1
        refine ⟨_, rfl, _, rfl, _, rfl, ?_⟩
        dsimp only [tNoPart]
        refine slF_go ha3 fun p1 H4 e4 hp1 => ?_
        refine ⟨_, rfl, _, rfl, _, rfl, ?_⟩
        dsimp only
        refine slF_go (Td.same ha3 e4) fun p2 H5 e5 hp2 => ?_
        rw [cutV_drop] at hp1
        rw [cutV_take] at hp2
        refine catF_go (Td.same hp1 e5) hp2 (by rw [List.length_drop, List.length_take, strsV_len, sizeLine_eq]; omega) fun p H6 e6 hp => ?_
        have e36 : Same H3 H6 := (e4.trans e5).trans e6
        have hac6 := e36 _ _ hac1
        refine ⟨acc, hac6, by rw [sizeLine_eq]; omega, acc ++ [.ref p], upd_same, by rw [List.length_append]; exact Nat.succ_le_succ hlen, fun x o hx => ?_, ?_⟩
        · rw [upd_ne (ne_of_none hx hD)]
          exact e36 _ _ (S1 _ _ hx)
        · rw [candsU_succ, if_pos hz]
          have e : (strsV zs).drop i ++ (strsV zs).take i = strsV (zs.drop i ++ zs.take i) := by
            unfold strsV
            rw [List.map_append, List.map_drop, List.map_take]
          rw [e] at hp
          exact ((hda1.imp fun q xs h => Td.same h e36).snoc hp).imp fun q xs h => Td.upd h hac6 (fun o z => by cases z)
      · have hz2 : ¬ zs[i]? = some low := fun e => hc (decide_eq_true (Option.some.inj (hz.symm.trans e)))
        refine ⟨acc, hac1, Nat.le_succ_of_le hlen, S1, ?_⟩
        rw [candsU_succ, if_neg hz2, List.append_nil]
        exact hda1
    · rintro H1 ⟨acc, hac, hlen, S, hda⟩
      rw [strsV_len] at hda
      have ec : candsU zs low zs.length = cands zs low := rfl
      rw [ec] at hda
      have hdb : DpAll K H1 acc ((cands zs low).map fun l => PyData.tuple (l.map PyData.str)) := hda.dpa
      obtain ⟨c0, cr, ec2⟩ : ∃ c0 cr, cands zs low = c0 :: cr := by
        cases e : cands zs low with
        | cons c0 cr => exact ⟨c0, cr, rfl⟩
        | nil =>
          obtain ⟨u, v, e2⟩ := List.append_of_mem l1
          have : (low :: v) ++ u ∈ cands zs low := mem_cands.mpr ⟨⟨u, low :: v, e2, rfl⟩, rfl⟩
          rw [e] at this
          cases this
      have hsub : DpAll K H1 acc (((⟨c0⟩ : PySem.W.Tup PySem.Str) :: cr.map PySem.W.Tup.mk).map PySem.W.Datum.toD) := by
        have e : ((⟨c0⟩ : PySem.W.Tup PySem.Str) :: cr.map PySem.W.Tup.mk).map PySem.W.Datum.toD = (cands zs low).map fun l => PyData.tuple (l.map PyData.str) := by
          rw [ec2, List.map_cons, List.map_cons, List.map_map]
          rfl
        rw [e]
        exact hdb
      have hmem : ∀ c ∈ c0 :: cr, ∀ z ∈ c, Nm z := fun c hc z hz => by
        rw [← ec2] at hc
        exact hn z ((mem_cands.mp hc).1.perm.mem_iff.mpr hz)
      refine ⟨D, acc, ⟨c0⟩, cr.map PySem.W.Tup.mk, rfl, .inl (SqL.of hac), hsub, fun y hy => ?_, fun y z e => ?_, fun i v hv hm => ?_⟩
      · have hy2 : y.items ∈ c0 :: cr := by
          rcases List.mem_cons.mp hy with rfl | hy
          · exact List.mem_cons_self
          · obtain ⟨c, hc, rfl⟩ := List.mem_map.mp hy
            exact List.mem_cons_of_mem _ hc
        exact (nd_ok 1 _ (by unfold Nd; exact nd_strs fun z hz => (hmem _ hy2 z hz).ok)).1
      · have e2 : y.items.map PyData.str = z.items.map PyData.str := PyData.tuple.inj e
        have e3 := List.map_inj_right (fun a b h => PyData.str.inj h) |>.mp e2
        cases y
        cases z
        exact congrArg _ e3
      · have hm2 : (cands zs low)[i]? = some (PySem.W.minOf (⟨c0⟩ : PySem.W.Tup PySem.Str) (cr.map PySem.W.Tup.mk)).items := by
          have e : ((⟨c0⟩ : PySem.W.Tup PySem.Str) :: cr.map PySem.W.Tup.mk) = (cands zs low).map PySem.W.Tup.mk := by rw [ec2]; rfl
          rw [e, List.getElem?_map] at hm
          cases e2 : (cands zs low)[i]? with
          | none => rw [e2] at hm; cases hm
          | some c =>
            rw [e2] at hm
            rw [← Option.some.inj hm]
        obtain ⟨p, hp1, hp⟩ := hda.2 i _ hm2
        obtain rfl : V.ref p = v := Option.some.inj (hp1.symm.trans hv)
        obtain ⟨m1, m2⟩ := min_spec lin_T ⟨c0⟩ (cr.map PySem.W.Tup.mk)
        have hl2 : IsLeast ltS zs (PySem.W.minOf (⟨c0⟩ : PySem.W.Tup PySem.Str) (cr.map PySem.W.Tup.mk)).items := by
          refine .inr ⟨low, ⟨l1, l2⟩, ?_, fun c hc => ?_⟩
          · rw [ec2]
            rcases List.mem_cons.mp m1 with e | e
            · rw [e]; exact List.mem_cons_self
            · obtain ⟨c, hc, e3⟩ := List.mem_map.mp e
              rw [← e3]
              exact List.mem_cons_of_mem _ hc
          · have hc2 : (⟨c⟩ : PySem.W.Tup PySem.Str) ∈ (⟨c0⟩ : PySem.W.Tup PySem.Str) :: cr.map PySem.W.Tup.mk := by
              rw [ec2] at hc
              rcases List.mem_cons.mp hc with rfl | hc
              · exact List.mem_cons_self
              · exact List.mem_cons_of_mem _ (List.mem_map_of_mem hc)
            have := m2 _ hc2
            rw [← this]
            exact (listLt_lx _ _).symm
        rw [least_eq lin_S hl2] at hp
        exact q p _ S hp
end
end Cl

namespace Cl
local macro_rules | `(tactic| walk_at "go") => `(tactic| repeat (first | (refine ⟨_, rfl, ?_⟩) | (refine ⟨_, _, rfl, rfl, ?_⟩) | (refine ⟨_, rfl, rfl, ?_⟩) | (refine ⟨_, _, rfl, ?_⟩) | (refine And.intro (by first | with_reducible rfl | rfl | omega | decide | assumption | (dsimp only; first | omega | decide | assumption)) ?_)))

local macro_rules | `(tactic| walk_at "bag") => `(tactic| repeat (first | (refine ⟨_, _, _, _, rfl, rfl, L2.SqL.of L2.upd_same, (by rfl), ?_⟩) | (refine ⟨_, _, _, _, rfl, rfl, L2.upd_same, (by rfl), ?_⟩) | (refine ⟨_, rfl, ?_⟩) | (refine ⟨_, _, rfl, rfl, ?_⟩) | (refine ⟨_, rfl, rfl, ?_⟩) | (refine ⟨_, _, rfl, ?_⟩) | (refine And.intro (by first | with_reducible rfl | rfl | omega | decide | assumption | (dsimp only; first | omega | decide | assumption)) ?_)))
open PySem L2 Own Ring
section
variable {P : Program} {w : World} {K : PySem.W.Frag} {mg : PySem.Str → Option Value} {base : Heap} {CR CM kd : Addr}
/-! ### places_of -/
theorem Nm.last {z : PySem.Str} (h : Nm z) : ∃ c, atI z.cps.toList (-1) = some c ∧ z.cps.toList.reverse.head? = some c ∧ Sgn c ∧ c ≠ 43 ∧ c ≠ 45 := by
  obtain ⟨c0, r0, ec, _⟩ := h.fst
  have hne : z.cps.toList ≠ [] := by rw [ec]; exact List.cons_ne_nil _ _
  have hlen : 0 < z.cps.toList.length := List.length_pos_iff.mpr hne
  obtain ⟨c, hc⟩ : ∃ c, z.cps.toList[z.cps.toList.length - 1]? = some c := ⟨_, List.getElem?_eq_getElem (by omega)⟩
  have hs := h.all c (List.mem_of_getElem? hc)
  refine ⟨c, ?_, ?_, hs, ?_, ?_⟩
  · unfold atI
    have e : ixN z.cps.toList.length (-1) = some (z.cps.toList.length - 1) := by
      unfold ixN
      rw [if_neg (by decide), if_pos (show -(z.cps.toList.length : Int) ≤ -1 by omega)]
      congr 1
      show (-1 + (z.cps.toList.length : Int)).toNat = z.cps.toList.length - 1
      omega
    rw [e]
    exact hc
  · rw [List.head?_reverse, List.getLast?_eq_getElem?]
    exact hc
  · rcases hs with ⟨a, b⟩ | ⟨a, b⟩ <;> omega
  · rcases hs with ⟨a, b⟩ | ⟨a, b⟩ <;> omega
theorem one_ne {c d : Nat} (h : c ≠ d) : ¬ (⟨#[c]⟩ : PySem.Str) = ⟨#[d]⟩ := fun e => h (by
  have := congrArg (fun s => PySem.Str.cps s) e
  simpa using this)
theorem Nm.strip {z : PySem.Str} (h : Nm z) : Txt.rstripChars z ("+-" : PySem.Str) = z := by
  obtain ⟨c, _, hh, hs, _, _⟩ := h.last
  have hg : (("+-" : PySem.Str).cps.contains c) = false := by
    have : ∀ d : Fin 123, 48 ≤ d.val → (("+-" : PySem.Str).cps.contains d.val) = false := by decide +kernel
    rcases hs with ⟨a, b⟩ | ⟨a, b⟩
    · exact this ⟨c, by omega⟩ (by show 48 ≤ c; omega)
    · exact this ⟨c, by omega⟩ (by show 48 ≤ c; omega)
  unfold Txt.rstripChars Txt.stripBy
  rw [if_pos]
  unfold stripSame stripHi stripLo
  have e : (z.cps.toList.reverse.takeWhile (("+-" : PySem.Str).cps.contains ·)) = [] := by
    cases e : z.cps.toList.reverse with
    | nil => rfl
    | cons d r =>
      rw [e] at hh
      obtain rfl : d = c := Option.some.inj hh
      rw [List.takeWhile_cons, hg]
      rfl
  simp [e]
/-- the texts of a list, counted twice, stand in the dict -/
def Two (kvs : List (Key × V)) (zs : List PySem.Str) : Prop := ∀ z, 2 ≤ zs.count z → ∃ v, valV kvs (Sum.inr z) = some v
def One (kvs : List (Key × V)) (zs : List PySem.Str) : Prop := ∃ ks : List PySem.Str, kvs.map (·.1) = ks.map Sum.inr ∧ (∀ z, z ∈ ks ↔ z ∈ zs) ∧ ks.Nodup
theorem One.look {kvs : List (Key × V)} {zs : List PySem.Str} (h : One kvs zs) (z : PySem.Str) : (z ∈ zs → ∃ v, valV kvs (Sum.inr z) = some v) ∧ (z ∉ zs → valV kvs (Sum.inr z) = none) := by
  obtain ⟨ks, h1, h2, _⟩ := h
  have hk : (Sum.inr z : Key) ∈ kvs.map (·.1) ↔ z ∈ zs := by
    rw [h1, List.mem_map]
    exact ⟨fun ⟨y, hy, e⟩ => (h2 z).mp (Sum.inr.inj e ▸ hy), fun hz => ⟨z, (h2 z).mpr hz, rfl⟩⟩
  refine ⟨fun hz => ?_, fun hz => ?_⟩
  · cases e : valV kvs (Sum.inr z : Key) with
    | none => exact absurd (hk.mpr hz) (valV_not e)
    | some v => exact ⟨v, rfl⟩
  · cases e : valV kvs (Sum.inr z : Key) with
    | none => rfl
    | some v => exact absurd (hk.mp (valV_in e)) hz
def spPlaces (K : PySem.W.Frag) : Sp := fun vs H Q _ => ∃ (a : Addr) (zs : List PySem.Str), vs = [.ref a] ∧ SqT K H a (strsV zs) ∧ (∀ z ∈ zs, Nm z) ∧ Dbl zs ∧ zs.length ≤ 28 ∧ ∀ p kvs H', Same H H' → H p = none → H' p = some (.dK kvs) → kvs.length ≤ 28 → Q (.ref p) H'
abbrev sc_places_of_N : List PySem.Str := ["ends", "first", "second", "at", "end", "name"]
theorem sc_places_of : FnScope sc_places_of_N ["ends"] (defScope (topS 27)) := ⟨rfl, rfl, rfl, by decide +kernel, rfl, by decide +kernel, by decide +kernel⟩
theorem ok_places (T : MdK K mg CR CM kd) (D : DefAt K mg "places_of" (topS 27) ["ends"]) : Cal P w K mg base 1 "places_of" (spPlaces K) := by
  refine cal_of D sc_places_of (fun vs H Q E h => ?_) (fun f cdv A outer s H vs Q E hr h => ?_)
  · obtain ⟨a, zs, rfl, _⟩ := h
    rfl
  · obtain ⟨a, zs, rfl, ha, hn, h2, hl, q⟩ := h
    refine ⟨_, (pss_cons (ps_set (i := 1) sc_places_of.nd rfl (Or.inr rfl) pe_dnewK)
  (pss_cons (ps_set (i := 2) sc_places_of.nd rfl (Or.inr rfl) pe_dnewK)
  (pss_cons (ps_for PassesOwn.never rfl (Own.pi_enumTA (K := K) rfl (by rfl) T.enumerate (pa_cons (pv 0) pa_nil)) (pg_tup rfl (pgs_cons (pg_name (i := 3) sc_places_of.nd rfl (Or.inl rfl)) (pgs_cons (pg_name (i := 4) sc_places_of.nd rfl (Or.inl rfl)) pgs_nil)))
   (pss_cons (ps_set (i := 5) sc_places_of.nd rfl (Or.inl rfl) (pe_m1 PySem.F.slot_str_rstrip PySem.F.type_str_rstrip mt_rstripChars (pv 4) (Own.pe_gl rfl T.c_SIGNS)))
  (pss_one (ps_if (PW.pt (pw_or (pt_cmpR Own.os_eq (pe_ix ix_str (pv 4) (pe_un un_neg pe_int) (fun _ _ => rfl)) (Own.pe_gl rfl T.c_FOOT) (nomark _)) (pw_or1 (PW.pt (pw_and (pt_cmpR Own.os_ne (pe_ix ix_str (pv 4) (pe_un un_neg pe_int) (fun _ _ => rfl)) (Own.pe_gl rfl T.c_TIP) (nomark _)) (pw_and1 (pt_cmp (pc_din (hu_of hr) (pv 5) (pv 1)))))))))
   (pss_one (ps_dput (hu_of hr) (pv 2) (pv 5) (pv 3) rfl))
   (pss_one (ps_dput (hu_of hr) (pv 1) (pv 5) (pv 3) rfl))))))
  (pss_one (ps_ret (pe_dc (own := [("name", 5)]) (g := (gName 5)) rfl sc_places_of.nd (Own.pi_listK (K := K) rfl (pe_callB (call_sortedD rfl) (by rfl) T.sorted (by decide +kernel) (pa_cons (pv 1) pa_nil))) (blkOk_by (own := [("name", 5)]) (N := sc_places_of_N) (sc := defScope (topS 27)) (by decide +kernel)) (fun _ _ _ _ _ => (pg_name (i := 5) sc_places_of.nd rfl (Or.inl rfl))) (fun _ _ _ _ _ => pts_nil) (fun _ _ _ _ _ => (pv 5)) (fun _ _ _ _ _ => (pe_tup (pa_cons (pe_dget (hu_of hr) (pv 1) (pv 5) (fun _ _ => rfl)) (pa_cons (pe_dget (hu_of hr) (pv 2) (pv 5) (fun _ _ => rfl)) pa_nil)))))))))), ?_⟩
    intro d1 hd1 d2 hd2
    have hd12 : d1 ≠ d2 := fun z => by rw [← z, upd_same] at hd2; cases hd2
    have hd2' : H d2 = none := by rw [upd_ne hd12.symm] at hd2; exact hd2
    have S0 : Same H (upd (upd H d1 (.dK [])) d2 (.dK [])) := same_new (Same.upd_new hd1) hd2
    refine ⟨_, rfl, a, _, rfl, Own.Same.tupq S0 ha, ?_⟩
    refine for_it walk_enumT (fun i σ H' => ∃ (k1 k2 : List (Key × V)) (e3 e4 e5 : Option V), σ = [some (.ref a), some (.ref d1), some (.ref d2), e3, e4, e5] ∧ Same H H' ∧ H' d1 = some (.dK k1) ∧ H' d2 = some (.dK k2) ∧ One k1 (zs.take i) ∧ Two k2 (zs.take i) ∧ k1.length ≤ i ∧ k2.length ≤ i)
      ⟨[], [], none, none, none, rfl, S0, by rw [upd_ne hd12, upd_same], upd_same, ⟨[], rfl, fun z => Iff.rfl, List.nodup_nil⟩, fun z h => absurd h (by simp), Nat.le_refl _, Nat.le_refl _⟩ (fun i σ H' _ ⟨_, _, _, _, _, _, S, _⟩ => Own.Same.tupq S ha) ?_ ?_
    · rintro i x σ H1 H2 hi ⟨k1, k2, e3, e4, e5, rfl, S, hk1, hk2, o1, o2, len1, len2⟩ ⟨t, x1, x2, rfl, ht, rfl, h1, hx2⟩
      obtain rfl : V.int ((0 + i : Nat) : Int) = x1 := Option.some.inj h1
      obtain ⟨z, hz, rfl⟩ := strsV_get hx2
      have hzm : z ∈ zs := List.mem_of_getElem? hz
      rw [strsV_len] at hi
      rw [Nat.zero_add]
      have S1 : Same H (upd H1 t (.tup [.int (i : Int), .str z])) := same_new S ht
      have hk1' : upd H1 t (.tup [.int (i : Int), .str z]) d1 = some (.dK k1) := by rw [upd_ne (ne_of_none hk1 ht)]; exact hk1
      have hk2' : upd H1 t (.tup [.int (i : Int), .str z]) d2 = some (.dK k2) := by rw [upd_ne (ne_of_none hk2 ht)]; exact hk2
      refine ⟨t, _, rfl, SqT.of upd_same, rfl, ?_⟩
      generalize upd H1 t (.tup [.int (i : Int), .str z]) = H3 at S1 hk1' hk2'
      have hzl : z.length ≤ sizeLine := by have := (hn z hzm).len; rw [sizeLine_eq]; omega
      obtain ⟨c, hc1, _, hc2, hc3, hc4⟩ := (hn z hzm).last
      walk_at "go"
      refine ⟨⟨z, rfl⟩, z, _, rfl, rfl, hzl, ?_⟩
      rw [(hn z hzm).strip]
      refine ⟨_, rfl, 1, rfl, z, -1, c, rfl, rfl, hzl, hc1, ⟨#[c]⟩, _, rfl, rfl, _, rfl, iF (decide_eq_false (one_ne (d := 45) hc4)) ?_⟩
      refine ⟨_, rfl, 1, rfl, z, -1, c, rfl, rfl, hzl, hc1, ⟨#[c]⟩, _, rfl, rfl, _, rfl, iT (show (!decide (_ = (⟨#[43]⟩ : PySem.Str))) = true by rw [decide_eq_false (one_ne (d := 43) hc3)]; rfl) ?_⟩
      refine ⟨_, rfl, _, rfl, d1, _, rfl, DGet.k (k := Sum.inr z) hk1', ?_⟩
      obtain ⟨y1, y2⟩ := o1.look z
      refine ⟨_, rfl, ?_⟩
      have hbig1 : k1.length < sizeLine := by rw [sizeLine_eq]; omega
      have hbig2 : k2.length < sizeLine := by rw [sizeLine_eq]; omega
      by_cases hs : z ∈ zs.take i
      · obtain ⟨v, hv⟩ := y1 hs
        refine iT (by rw [hv]; rfl) ?_
        walk_at "go"
        refine ⟨d2, _, rfl, DPut.k (k := Sum.inr z) hk2' hbig2, ?_⟩
        refine ⟨_, _, _, _, _, rfl, fun x o hx => ?_, ?_, upd_same, ?_, fun y hy => ?_, Nat.le_succ_of_le len1, Nat.le_trans (length_putK _ _ _) (Nat.succ_le_succ len2)⟩
        · rw [upd_ne (ne_of_none hx hd2')]
          exact S1 x o hx
        · rw [upd_ne hd12]
          exact hk1'
        · rw [take_more hz]
          obtain ⟨ks, w1, w2, w3⟩ := o1
          refine ⟨ks, w1, fun y => ?_, w3⟩
          rw [w2, List.mem_append, List.mem_singleton]
          exact ⟨.inl, fun e => e.elim id fun e => e ▸ hs⟩
        · rw [valV_put]
          by_cases e : y = z
          · rw [if_pos (by rw [e])]
            exact ⟨_, rfl⟩
          · rw [if_neg fun q => e (Sum.inr.inj q)]
            rw [take_more hz, List.count_append, List.count_eq_zero.mpr (by simpa using e : y ∉ [z]), Nat.add_zero] at hy
            exact o2 y hy
      · refine iF (by rw [y2 hs]; rfl) ?_
        walk_at "go"
        refine ⟨d1, _, rfl, DPut.k (k := Sum.inr z) hk1' hbig1, ?_⟩
        refine ⟨_, _, _, _, _, rfl, fun x o hx => ?_, upd_same, ?_, ?_, fun y hy => ?_, Nat.le_trans (length_putK _ _ _) (Nat.succ_le_succ len1), Nat.le_succ_of_le len2⟩
        · rw [upd_ne (ne_of_none hx hd1)]
          exact S1 x o hx
        · rw [upd_ne hd12.symm]
          exact hk2'
        · rw [take_more hz, putK_new _ (y2 hs)]
          obtain ⟨ks, w1, w2, w3⟩ := o1
          refine ⟨ks ++ [z], by rw [List.map_append, List.map_append, w1]; rfl, fun y => ?_, ?_⟩
          · rw [List.mem_append, List.mem_append, w2]
          · refine List.nodup_append.mpr ⟨w3, by simp, fun u hu v hv e => ?_⟩
            obtain rfl := List.mem_singleton.mp hv
            exact hs ((w2 _).mp (e ▸ hu))
        · rw [take_more hz, List.count_append] at hy
          have : List.count y [z] ≤ 1 := by
            have := List.count_le_length (a := y) (l := [z])
            simpa using this
          by_cases e : y = z
          · subst e
            have := List.count_eq_zero.mpr hs
            omega
          · rw [List.count_eq_zero.mpr (by simpa using e : y ∉ [z]), Nat.add_zero] at hy
            exact o2 y hy
    · rintro σ H1 ⟨k1, k2, e3, e4, e5, rfl, S, hk1, hk2, o1, o2, len1, len2⟩
      rw [strsV_len, List.take_length] at o1 o2
      obtain ⟨ks, w1, w2, w3⟩ := id o1
      have hkl : ks.length = k1.length := by
        have := congrArg List.length w1
        simpa using this.symm
      rw [strsV_len] at len1 len2
      refine ⟨_, rfl, d1, k1, ks, rfl, .inl hk1, w1, by omega, fun ys p hp _ pn => ?_⟩
      have S2 : Same H (upd H1 p (.lst (ys.map V.str))) := same_new S pn
      have hk1' : upd H1 p (.lst (ys.map V.str)) d1 = some (.dK k1) := by rw [upd_ne (ne_of_none hk1 pn)]; exact hk1
      have hk2' : upd H1 p (.lst (ys.map V.str)) d2 = some (.dK k2) := by rw [upd_ne (ne_of_none hk2 pn)]; exact hk2
      have hp' : upd H1 p (.lst (ys.map V.str)) p = some (.lst (ys.map V.str)) := upd_same
      generalize upd H1 p (.lst (ys.map V.str)) = H2 at S2 hk1' hk2' hp'
      refine ⟨p, rfl, ⟨_, SqL.of hp'⟩, fun D hD => ?_⟩
      have hlen : ys.length ≤ 28 := by rw [hp.length_eq]; omega
      refine dc_it walk_list (fun i H' => ∃ kvs : List (Key × V), H' D = some (.dK kvs) ∧ kvs.length ≤ i ∧ Same H2 H') ⟨[], upd_same, Nat.le_refl _, Same.upd_new hD⟩ (fun i H' _ ⟨_, _, _, e⟩ => SqL.of (e _ _ hp')) ?_ ?_
      · rintro i x H3 H4 hi ⟨kvs, g1, g2, g3⟩ ⟨rfl, hx⟩
        obtain ⟨z, hz, rfl⟩ := strsV_get hx
        have hzz : z ∈ zs := (w2 z).mp (hp.mem_iff.mp (List.mem_of_getElem? hz))
        rw [List.length_map] at hi
        obtain ⟨v1, hv1⟩ := (o1.look z).1 hzz
        obtain ⟨v2, hv2⟩ := o2 z (by rw [h2 z hzz]; exact Nat.le_refl _)
        have e1 := DGet.k (k := Sum.inr z) (g3 _ _ hk1')
        have e2 := DGet.k (k := Sum.inr z) (g3 _ _ hk2')
        rw [hv1] at e1
        rw [hv2] at e2
        walk_at "go"
        refine ⟨_, _, rfl, e1, ?_⟩
        walk_at "go"
        refine ⟨_, _, rfl, e2, (by show 2 ≤ sizeLine; decide), fun t ht => ?_⟩
        have g1' : upd H4 t (.tup [v1, v2]) D = some (.dK kvs) := by rw [upd_ne (ne_of_none g1 ht)]; exact g1
        refine ⟨kvs, Sum.inr z, rfl, g1', by rw [sizeLine_eq]; omega, _, upd_same, Nat.le_trans (length_putK _ _ _) (Nat.succ_le_succ g2), fun x o hx => ?_⟩
        rw [upd_ne (ne_of_none hx hD), upd_ne (ne_of_none (g3 x o hx) ht)]
        exact g3 x o hx
      · rintro H3 ⟨kvs, g1, g2, g3⟩
        rw [List.length_map] at g2
        refine q D kvs H3 (S2.trans g3) ?_ g1 (Nat.le_trans g2 hlen)
        exact same_none S2 hD
end
end Cl

namespace Cl
local macro_rules | `(tactic| walk_at "go") => `(tactic| repeat (first | (refine ⟨_, rfl, ?_⟩) | (refine ⟨_, _, rfl, rfl, ?_⟩) | (refine ⟨_, rfl, rfl, ?_⟩) | (refine ⟨_, _, rfl, ?_⟩) | (refine And.intro (by first | with_reducible rfl | rfl | omega | decide | assumption | (dsimp only; first | omega | decide | assumption)) ?_)))

local macro_rules | `(tactic| walk_at "bag") => `(tactic| repeat (first | (refine ⟨_, _, _, _, rfl, rfl, L2.SqL.of L2.upd_same, (by rfl), ?_⟩) | (refine ⟨_, _, _, _, rfl, rfl, L2.upd_same, (by rfl), ?_⟩) | (refine ⟨_, rfl, ?_⟩) | (refine ⟨_, _, rfl, rfl, ?_⟩) | (refine ⟨_, rfl, rfl, ?_⟩) | (refine ⟨_, _, rfl, ?_⟩) | (refine And.intro (by first | with_reducible rfl | rfl | omega | decide | assumption | (dsimp only; first | omega | decide | assumption)) ?_)))
open PySem L2 Own Ring
section
variable {P : Program} {w : World} {K : PySem.W.Frag} {mg : PySem.Str → Option Value} {base : Heap} {CR CM kd : Addr}
/-! ### Row -/
/-- the attributes of a Row -/
def rf (e : Addr) (p c : V) : List (PySem.Str × V) := [("ends", .ref e), ("directed", .bl false), ("_places", p), ("chords", c)]
structure RowC (K : PySem.W.Frag) (C : Addr) : Prop where
  cl : Cls K C
  n1 : NoAttr K C "ends"
  n2 : NoAttr K C "directed"
  n3 : NoAttr K C "_places"
  n4 : NoAttr K C "chords"
theorem rf1 (v : V) : putF "ends" v [] = [(("ends" : PySem.Str), v)] := rfl
theorem ne_ed : ¬ (("ends" : PySem.Str) = "directed") := by decide +kernel
theorem ne_ep : ¬ (("ends" : PySem.Str) = "_places") := by decide +kernel
theorem ne_ec : ¬ (("ends" : PySem.Str) = "chords") := by decide +kernel
theorem ne_dp : ¬ (("directed" : PySem.Str) = "_places") := by decide +kernel
theorem ne_dc : ¬ (("directed" : PySem.Str) = "chords") := by decide +kernel
theorem ne_pc : ¬ (("_places" : PySem.Str) = "chords") := by decide +kernel
theorem rf2 (v d : V) : putF "directed" d [(("ends" : PySem.Str), v)] = ([("ends", v), ("directed", d)] : List (PySem.Str × V)) := by
  show (if ("ends" : PySem.Str) = "directed" then _ else _) = _
  rw [if_neg ne_ed]
  rfl
theorem rf3 (v d p : V) : putF "_places" p [(("ends" : PySem.Str), v), ("directed", d)] = ([("ends", v), ("directed", d), ("_places", p)] : List (PySem.Str × V)) := by
  show (if ("ends" : PySem.Str) = "_places" then _ else (("ends" : PySem.Str), v) :: (if ("directed" : PySem.Str) = "_places" then _ else _)) = _
  rw [if_neg ne_ep, if_neg ne_dp]
  rfl
theorem rf4 (v d p c : V) : putF "chords" c [(("ends" : PySem.Str), v), ("directed", d), ("_places", p)] = ([("ends", v), ("directed", d), ("_places", p), ("chords", c)] : List (PySem.Str × V)) := by
  show (if ("ends" : PySem.Str) = "chords" then _ else (("ends" : PySem.Str), v) :: (if ("directed" : PySem.Str) = "chords" then _ else (("directed" : PySem.Str), d) :: (if ("_places" : PySem.Str) = "chords" then _ else _))) = _
  rw [if_neg ne_ec, if_neg ne_dc, if_neg ne_pc]
  rfl
theorem look_e (v : V) (r : List (PySem.Str × V)) : ((("ends" : PySem.Str), v) :: r).lookup ("ends" : PySem.Str) = some v := List.lookup_cons_self
theorem look_d (v d : V) (r : List (PySem.Str × V)) : ((("ends" : PySem.Str), v) :: ("directed", d) :: r).lookup ("directed" : PySem.Str) = some d := by
  rw [List.lookup_cons, show (("directed" : PySem.Str) == "ends") = false by simpa using Ne.symm ne_ed, List.lookup_cons_self]
theorem look_p (v d p : V) (r : List (PySem.Str × V)) : ((("ends" : PySem.Str), v) :: ("directed", d) :: ("_places", p) :: r).lookup ("_places" : PySem.Str) = some p := by
  rw [List.lookup_cons, show (("_places" : PySem.Str) == "ends") = false by simpa using Ne.symm ne_ep, List.lookup_cons, show (("_places" : PySem.Str) == "directed") = false by simpa using Ne.symm ne_dp, List.lookup_cons_self]
theorem not_sign {c : Nat} (h : Sgn c) : c ∉ ("+-" : PySem.Str).cps.toList := by
  have : ∀ d : Fin 123, 48 ≤ d.val → d.val ∉ ("+-" : PySem.Str).cps.toList := by decide +kernel
  rcases h with ⟨a, b⟩ | ⟨a, b⟩
  · exact this ⟨c, by omega⟩ (by show 48 ≤ c; omega)
  · exact this ⟨c, by omega⟩ (by show 48 ≤ c; omega)
/-- a Row with these ends stands at r -/
def RowAt (C : Addr) (H : Hp) (r : Addr) (zs : List PySem.Str) : Prop := ∃ (dx e : Addr) (p c : V), H r = some (.ins C dx (rf e p c)) ∧ Td H e (strsV zs)
theorem RowAt.same {C : Addr} {H H' : Hp} {r : Addr} {zs : List PySem.Str} (h : RowAt C H r zs) (e : Same H H') : RowAt C H' r zs := by
  obtain ⟨dx, a, p, c, h1, h2⟩ := h
  exact ⟨dx, a, p, c, e _ _ h1, Td.same h2 e⟩
theorem sqT_upd {r e : Addr} {H : Hp} {xs : List V} {C dx : Addr} {fs : List (PySem.Str × V)} {o : HO} (h : SqT K H e xs) (hr : H r = some (.ins C dx fs)) : SqT K (upd H r o) e xs := by
  rcases h with h | h
  · refine .inl ?_
    rcases h with h | ⟨oo, h⟩
    · exact .inl (by rw [upd_ne (ne_of h hr (by intro z; cases z))]; exact h)
    · exact .inr ⟨oo, by rw [upd_ne (ne_of h hr (by intro z; cases z))]; exact h⟩
  · exact .inr h
/-- the ends of a plain row -/
structure Ends2 (zs : List PySem.Str) : Prop where
  nm : ∀ z ∈ zs, Nm z
  dbl : Dbl zs
  ne : zs ≠ []
  len : zs.length ≤ 28
def spRow (C : Addr) : Sp := fun vs H Q _ => ∃ (r dx a : Addr) (zs : List PySem.Str), vs = [.ref r, .ref a] ∧ H r = some (.ins C dx []) ∧ H a = some (.lst (strsV zs)) ∧ Ends2 zs ∧ ∀ H', Same (hid [r] H) (hid [r] H') → RowAt C H' r (least ltS zs) → Q .non H'
abbrev sc_Row___init___N : List PySem.Str := ["self", "ends", "at"]
theorem sc_Row___init__ : FnScope sc_Row___init___N ["self", "ends"] (defScope (inClass (topS 28) 0)) := ⟨rfl, rfl, rfl, by decide +kernel, rfl, by decide +kernel, by decide +kernel⟩
theorem ok_row (T : MdK K mg CR CM kd) (R : RowC K CR) (D : IniAt K mg CR "Row" "Row.__init__" (inClass (topS 28) 0) ["self", "ends"]) (D_wrong_end : Cal P w K mg base 3 "wrong_end" (spWrong K)) (D_check_chord_count : Cal P w K mg base 1 "check_chord_count" spCount)
    (D_least_rotation : Cal P w K mg base 1 "least_rotation" spLeast) (D_places_of : Cal P w K mg base 1 "places_of" (spPlaces K)) : Mak P w K mg base 4 "Row" CR (spRow CR) := by
  refine mak_of D sc_Row___init__ (fun vs H Q E h => ?_) (fun f cdv A outer s H vs Q E hr h => ?_)
  · obtain ⟨r, dx, a, zs, rfl, _⟩ := h
    rfl
  · obtain ⟨r, dx, a, zs, rfl, hr0, ha, hz, q⟩ := h
    refine ⟨_, (pss_cons (ps_if (pt_not (pt_val (pe_callB (Own.isiT (K := K) rfl) (by rfl) T.isinstance (by decide +kernel) (pa_cons (pv 1) (pa_cons (pe_tup (pa_cons (pe_bltn (v := .ty "list") rfl T.list (by decide +kernel) rfl) (pa_cons (pe_bltn (v := .ty "tuple") rfl T.tuple (by decide +kernel) rfl) pa_nil))) pa_nil)))))
   (pss_one Own.ps_never)
   pss_nil)
  (pss_cons (ps_set (i := 2) sc_Row___init__.nd rfl (Or.inl rfl) (Own.pe_c D_wrong_end hr (by decide) rfl (pa_cons (pv 1) pa_nil)))
  (pss_cons (ps_if (pt_cmpR op_notN (pv 2) pe_non (nomark _))
   (pss_one Own.ps_never)
   pss_nil)
  (pss_cons (ps_expr (Own.pe_c D_check_chord_count hr (by decide) rfl (pa_cons (pe_op Own.on_fdiv (pe_callB call_len_seq (by rfl) T.len (by decide +kernel) (pa_cons (pv 1) pa_nil)) pe_int) pa_nil)))
  (pss_cons (ps_fld (pv 0) (Own.pe_c D_least_rotation hr (by decide) rfl (pa_cons (pe_callTy (Own.tupF (K := K) rfl) (by rfl) T.tuple (by decide +kernel) (pa_cons (pv 1) pa_nil)) pa_nil)) rfl)
  (pss_cons (ps_fld (pv 0) (pe_and (pe_cmpR Own.oc_gt (pe_callB call_len_seq (by rfl) T.len (by decide +kernel) (pa_cons (pv 1) pa_nil)) pe_int (nomark _)) (pe_one (pe_cmpR op_in_sign (pe_ix ix_str (pe_ix (Own.ixT (K := K) rfl) (pe_fld (pv 0) rfl) pe_int (fun _ _ => rfl)) (pe_un un_neg pe_int) (fun _ _ => rfl)) (Own.pe_gl rfl T.c_SIGNS) rfl))) rfl)
  (pss_cons (ps_fld (pv 0) (Own.pe_c D_places_of hr (by decide) rfl (pa_cons (pe_fld (pv 0) rfl) pa_nil)) rfl)
  (pss_one (ps_fld (pv 0) (pe_callTy (Own.call_tuple_dK rfl) (by rfl) T.tuple (by decide +kernel) (pa_cons (pe_fld (pv 0) rfl) pa_nil)) rfl))))))))), ?_⟩
    walk_at "go"
    intro tp htp
    have ha1 : upd H tp (.tup [.ty "list", .ty "tuple"]) a = some (.lst (strsV zs)) := by rw [upd_ne (ne_of_none ha htp)]; exact ha
    have S1 : Same H (upd H tp (.tup [.ty "list", .ty "tuple"])) := Same.upd_new htp
    refine ⟨.ref a, tp, [.ty "list", .ty "tuple"], .type "list", [.type "list", .type "tuple"], true, rfl, upd_same, .cons (.ty _) (.cons (.ty _) .nil), .base (.lst ha1), rfl, true, rfl, iteF ?_⟩
    generalize upd H tp (.tup [.ty "list", .ty "tuple"]) = H1 at S1 ha1
    walk_at "go"
    refine ⟨a, zs, rfl, SqL.of ha1, hz.nm, hz.dbl, hz.len, fun H2 e2 => ?_⟩
    have S2 := S1.trans e2
    have ha2 := e2 _ _ ha1
    clear S1 ha1 e2 htp
    walk_at "go"
    refine ⟨a, _, rfl, .inl (SqL.of ha2), ?_⟩
    walk_at "go"
    refine ⟨(by show (strsV zs).length / 2 ≤ 14; rw [strsV_len]; have := hz.len; omega), ?_⟩
    walk_at "go"
    refine ⟨a, _, rfl, SqL.of ha2, fun t H3 e3 ht3 => ?_⟩
    have S3 := S2.trans e3
    have ha3 := e3 _ _ ha2
    clear S2 ha2 e3
    walk_at "go"
    refine ⟨t, zs, rfl, ht3, hz.nm, hz.ne, hz.len, fun e H4 e4 he => ?_⟩
    have S4 := S3.trans e4
    have ha4 := e4 _ _ ha3
    have hr4 := S4 _ _ hr0
    clear S3 ha3 ht3 e4
    refine ⟨_, rfl, r, CR, dx, [], rfl, hr4, R.cl, R.n1, (by decide), ?_⟩
    rw [rf1]
    have pm := (least_rt lin_S zs).perm
    have hl0 : least ltS zs ≠ [] := fun e => hz.ne (by have := pm.length_eq; rw [e] at this; exact List.length_eq_zero_iff.mp this)
    have hlz : (least ltS zs).length ≤ 28 := by rw [← pm.length_eq]; exact hz.len
    have hlm : ∀ z ∈ least ltS zs, Nm z := fun z h => hz.nm z (pm.mem_iff.mpr h)
    have hld : Dbl (least ltS zs) := hz.dbl.perm pm
    generalize least ltS zs = ls at he hl0 hlz hlm hld q
    have hea : a ≠ r := ne_of ha4 hr4 (by intro z; cases z)
    have he4 : Td (upd H4 r (.ins CR dx [("ends", .ref e)])) e (strsV ls) := Td.upd he hr4 fun o z => by cases z
    have hr5 : upd H4 r (.ins CR dx [("ends", .ref e)]) r = some (.ins CR dx [("ends", .ref e)]) := upd_same
    have ha5 : upd H4 r (.ins CR dx [("ends", .ref e)]) a = some (.lst (strsV zs)) := by rw [upd_ne hea]; exact ha4
    have S5 : Same (hid [r] H) (hid [r] (upd H4 r (.ins CR dx [("ends", .ref e)]))) := by rw [hid_one_upd]; exact Own.Same.hid [r] S4
    generalize upd H4 r (.ins CR dx [("ends", .ref e)]) = H5 at he4 hr5 ha5 S5
    obtain ⟨z0, zr, rfl⟩ := List.exists_cons_of_ne_nil hl0
    obtain ⟨c, hc1, _, hc2, _, _⟩ := (hlm z0 List.mem_cons_self).last
    have hz0 : z0.length ≤ sizeLine := by have := (hlm z0 List.mem_cons_self).len; rw [sizeLine_eq]; omega
    refine ⟨_, rfl, a, _, rfl, .inl (SqL.of ha5), ?_⟩
    refine ⟨(strsV zs).length, 0, rfl, rfl, _, rfl, iT (decide_eq_true (by rw [strsV_len]; exact List.length_pos_iff.mpr hz.ne)) ?_⟩
    refine ⟨_, rfl, r, CR, dx, _, _, rfl, hr5, R.cl, R.n1, look_e _ _, ?_⟩
    refine ⟨e, _, 0, .str z0, rfl, rfl, Td.sq he4, atI_nat (j := 0) rfl, 1, rfl, z0, -1, c, rfl, rfl, hz0, hc1, ?_⟩
    refine ⟨c, _, rfl, rfl, ?_⟩
    rw [decide_eq_false (not_sign hc2)]
    refine ⟨_, rfl, r, CR, dx, _, rfl, hr5, R.cl, R.n2, (by show 1 < 1000; decide), ?_⟩
    rw [rf2]
    have he6 : Td (upd H5 r (.ins CR dx [("ends", .ref e), ("directed", .bl false)])) e (strsV (z0 :: zr)) := Td.upd he4 hr5 fun o z => by cases z
    have hr6 : upd H5 r (.ins CR dx [("ends", .ref e), ("directed", .bl false)]) r = some (.ins CR dx [("ends", .ref e), ("directed", .bl false)]) := upd_same
    have S6 : Same (hid [r] H) (hid [r] (upd H5 r (.ins CR dx [("ends", .ref e), ("directed", .bl false)]))) := by rw [hid_one_upd]; exact S5
    generalize upd H5 r (.ins CR dx [("ends", .ref e), ("directed", .bl false)]) = H6 at he6 hr6 S6
    refine ⟨_, rfl, r, CR, dx, _, _, rfl, hr6, R.cl, R.n1, look_e _ _, ?_⟩
    refine ⟨e, _, rfl, Td.sq he6, hlm, hld, hlz, fun pp kvs H7 e7 _ hp7 _ => ?_⟩
    have he7 := Td.same he6 e7
    have hr7 := e7 _ _ hr6
    have S7 : Same (hid [r] H) (hid [r] H7) := S6.trans (Own.Same.hid [r] e7)
    have hpr : pp ≠ r := ne_of hp7 hr7 (by intro z; cases z)
    refine ⟨_, rfl, r, CR, dx, _, rfl, hr7, R.cl, R.n3, (by show 2 < 1000; decide), ?_⟩
    rw [rf3]
    have he8 : Td (upd H7 r (.ins CR dx [("ends", .ref e), ("directed", .bl false), ("_places", .ref pp)])) e (strsV (z0 :: zr)) := Td.upd he7 hr7 fun o z => by cases z
    have hr8 : upd H7 r (.ins CR dx [("ends", .ref e), ("directed", .bl false), ("_places", .ref pp)]) r = some (.ins CR dx [("ends", .ref e), ("directed", .bl false), ("_places", .ref pp)]) := upd_same
    have hp8 : upd H7 r (.ins CR dx [("ends", .ref e), ("directed", .bl false), ("_places", .ref pp)]) pp = some (.dK kvs) := by rw [upd_ne hpr]; exact hp7
    have S8 : Same (hid [r] H) (hid [r] (upd H7 r (.ins CR dx [("ends", .ref e), ("directed", .bl false), ("_places", .ref pp)]))) := by rw [hid_one_upd]; exact S7
    generalize upd H7 r (.ins CR dx [("ends", .ref e), ("directed", .bl false), ("_places", .ref pp)]) = H8 at he8 hr8 hp8 S8
    refine ⟨_, rfl, r, CR, dx, _, _, rfl, hr8, R.cl, R.n3, look_p _ _ _ _, ?_⟩
    refine ⟨pp, kvs, rfl, hp8, fun t ht => ?_⟩
    refine ⟨_, rfl, r, CR, dx, _, rfl, (by rw [upd_ne (ne_of_none hr8 ht)]; exact hr8), R.cl, R.n4, (by show 3 < 1000; decide), ?_⟩
    rw [rf4]
    have ht2 : upd H8 t (.tup (kvs.map fun kv => kV kv.1)) r = some (.ins CR dx [("ends", .ref e), ("directed", .bl false), ("_places", .ref pp)]) := by rw [upd_ne (ne_of_none hr8 ht)]; exact hr8
    refine q _ (fun x o hx => ?_) ⟨dx, e, _, _, upd_same, Td.upd (Td.same he8 (Same.upd_new ht)) ht2 fun o z => by cases z⟩
    obtain ⟨x1, x2⟩ := hid_some.mp (S8 x o hx)
    have x3 : x ≠ r := fun z => x1 (by simp [z])
    exact hid_some.mpr ⟨x1, by rw [upd_ne x3, upd_ne (ne_of_none x2 ht)]; exact x2⟩
end
end Cl

namespace Cl
local macro_rules | `(tactic| walk_at "go") => `(tactic| repeat (first | (refine ⟨_, rfl, ?_⟩) | (refine ⟨_, _, rfl, rfl, ?_⟩) | (refine ⟨_, rfl, rfl, ?_⟩) | (refine ⟨_, _, rfl, ?_⟩) | (refine And.intro (by first | with_reducible rfl | rfl | omega | decide | assumption | (dsimp only; first | omega | decide | assumption)) ?_)))

local macro_rules | `(tactic| walk_at "bag") => `(tactic| repeat (first | (refine ⟨_, _, _, _, rfl, rfl, L2.SqL.of L2.upd_same, (by rfl), ?_⟩) | (refine ⟨_, _, _, _, rfl, rfl, L2.upd_same, (by rfl), ?_⟩) | (refine ⟨_, rfl, ?_⟩) | (refine ⟨_, _, rfl, rfl, ?_⟩) | (refine ⟨_, rfl, rfl, ?_⟩) | (refine ⟨_, _, rfl, ?_⟩) | (refine And.intro (by first | with_reducible rfl | rfl | omega | decide | assumption | (dsimp only; first | omega | decide | assumption)) ?_)))
open PySem L2 Own Ring
section
variable {P : Program} {w : World} {K : PySem.W.Frag} {mg : PySem.Str → Option Value} {base : Heap} {CR CM kd : Addr}
theorem made_same {H1 H' : Hp} {x dx : Addr} {o1 o2 : HO} (hx : H1 x = none) (hd : H1 dx = none) (e : Same (hid [x] (upd (upd H1 dx o1) x o2)) (hid [x] H')) : Same H1 H' := fun y o hy => by
  have n1 : y ≠ x := ne_of_none hy hx
  have n2 : y ≠ dx := ne_of_none hy hd
  exact (hid_some.mp (e y o (hid_some.mpr ⟨by simp [n1], by rw [upd_ne n1, upd_ne n2]; exact hy⟩))).2
theorem slL_go {a : Addr} {xs : List V} {lo hi : Option Int} {H : Hp} {Q : VK} (ha : SqL K H a xs) (h : ∀ p H', Same H H' → H' p = some (.lst (cutV xs lo hi)) → Q (.ref p) H') : rSlL K (.ref a) lo hi H Q :=
  ⟨a, xs, rfl, ha, fun p hp => h p _ (Same.upd_new hp) upd_same⟩
theorem cat_go {a b : Addr} {xs ys : List V} {H : Hp} {Q : VK} (ha : H a = some (.lst xs)) (hb : H b = some (.lst ys)) (hl : xs.length + ys.length ≤ sizeLine) (h : ∀ p H', Same H H' → H' p = some (.lst (xs ++ ys)) → Q (.ref p) H') : rCat (.ref a) (.ref b) H Q :=
  ⟨a, b, xs, ys, rfl, rfl, ha, hb, hl, fun p hp => h p _ (Same.upd_new hp) upd_same⟩
theorem cut_len {α : Type} (xs : List α) (p q : Nat) : (cut xs p q).length ≤ xs.length := by
  unfold cut
  rw [List.length_drop, List.length_take]
  omega
/-! ### Row.read -/
def rowText (zs : List PySem.Str) : PySem.Str := Txt.join (" " : PySem.Str) (("row" : PySem.Str) :: zs)
def spRead (C : Addr) : Sp := fun vs H Q _ => ∃ zs : List PySem.Str, vs = [.str (rowText zs)] ∧ Ends2 zs ∧ (rowText zs).length ≤ 40000 ∧ ∀ r H', Same H H' → RowAt C H' r (least ltS zs) → Q (.ref r) H'
theorem row_split {zs : List PySem.Str} (h : ∀ z ∈ zs, Nm z) : Txt.split (rowText zs) (" " : PySem.Str) = ("row" : PySem.Str) :: zs := by
  refine TL.split_join (s := 32) (S := []) rfl (by decide +kernel) (List.cons_ne_nil _ _) fun p hp => ?_
  rcases List.mem_cons.mp hp with rfl | hp
  · decide +kernel
  · intro hc
    rcases (h p hp).all 32 hc with ⟨a, b⟩ | ⟨a, b⟩ <;> omega
abbrev sc_Row_read_N : List PySem.Str := ["text", "words"]
theorem sc_Row_read : FnScope sc_Row_read_N ["text"] (defScope (inClass (topS 28) 1)) := ⟨rfl, rfl, rfl, by decide +kernel, rfl, by decide +kernel, by decide +kernel⟩
theorem ok_read (T : MdK K mg CR CM kd) (D : StaAt K CR "read" "Row.read" (inClass (topS 28) 1) ["text"]) (D_check_text : Cal P w K mg base 1 "check_text" spText) (D_Row : Mak P w K mg base 4 "Row" CR (spRow CR)) : Sta P w K mg base 6 CR "read" (spRead CR) := by
  refine sta_of D sc_Row_read (fun vs H Q E h => ?_) (fun f cdv A outer s H vs Q E hr h => ?_)
  · obtain ⟨zs, rfl, _⟩ := h
    rfl
  · obtain ⟨zs, rfl, hz, hl, q⟩ := h
    refine ⟨_, (pss_cons (ps_expr (Own.pe_c D_check_text hr (by decide) rfl (pa_cons (pv 0) pa_nil)))
  (pss_cons (ps_if (pt_not (pt_val (pe_callB (Own.isiK (K := K) rfl) (by rfl) T.isinstance (by decide +kernel) (pa_cons (pv 0) (pa_cons (pe_bltn (v := .ty "str") rfl T.str (by decide +kernel) rfl) pa_nil)))))
   (pss_one Own.ps_never)
   pss_nil)
  (pss_cons (ps_set (i := 1) sc_Row_read.nd rfl (Or.inl rfl) (pe_split (pv 0) pe_str))
  (pss_cons (ps_if (pt_cmpR Own.os_ne (pe_ix (Own.ixL (K := K) rfl) (pv 1) pe_int (fun _ _ => rfl)) pe_str (nomark _))
   (pss_one Own.ps_never)
   pss_nil)
  (pss_one (ps_ret (Own.pe_mk D_Row hr (by decide) rfl (pa_cons (pe_slice (Own.slL (K := K) rfl) (pv 1) (po_some pe_int) po_none) pa_nil)))))))), ?_⟩
    have hsp := row_split hz.nm
    generalize rowText zs = z at hl hsp
    walk_at "go"
    refine ⟨_, _, _, _, true, rfl, .ty _, .base (.str z), kit_ty (by decide +kernel), true, rfl, iteF ?_⟩
    walk_at "go"
    refine ⟨⟨z, rfl⟩, z, _, rfl, rfl, (by decide +kernel), (by rw [sizeLine_eq]; omega), fun p hp => ?_⟩
    rw [hsp]
    have S1 : Same H (upd H p (.lst (strsV (("row" : PySem.Str) :: zs)))) := Same.upd_new hp
    have hp1 : upd H p (.lst (strsV (("row" : PySem.Str) :: zs))) p = some (.lst (strsV (("row" : PySem.Str) :: zs))) := upd_same
    change (fun H1 => _) (upd H p (.lst (strsV (("row" : PySem.Str) :: zs))))
    generalize upd H p (.lst (strsV (("row" : PySem.Str) :: zs))) = H1 at S1 hp1
    walk_at "go"
    refine ⟨p, _, 0, .str ("row" : PySem.Str), rfl, rfl, SqL.of hp1, atI_nat (j := 0) rfl, ?_⟩
    walk_at "go"
    refine ⟨p, _, rfl, SqL.of hp1, fun a ha => ?_⟩
    have ec : cutV (strsV (("row" : PySem.Str) :: zs)) (some (1 : Int)) none = strsV zs := by
      rw [show (1 : Int) = ((1 : Nat) : Int) from rfl, cutV_drop]
      rfl
    rw [ec]
    have S2 : Same H (upd H1 a (.lst (strsV zs))) := same_new S1 ha
    have ha2 : upd H1 a (.lst (strsV zs)) a = some (.lst (strsV zs)) := upd_same
    generalize upd H1 a (.lst (strsV zs)) = H2 at S2 ha2
    walk_at "go"
    intro x dx hx hdx hne
    have nx : a ≠ x := ne_of_none ha2 hx
    have nd : a ≠ dx := ne_of_none ha2 hdx
    refine ⟨x, dx, a, zs, rfl, upd_same, by rw [upd_ne nx, upd_ne nd]; exact ha2, hz, fun H3 e3 hR => ⟨rfl, ?_⟩⟩
    exact q x H3 (S2.trans (made_same hx hdx e3)) hR
/-! ### == of rows -/
def rowR (C : Addr) : Addr → Addr → Hp → Prop := fun a b H => ∃ zs : List PySem.Str, RowAt C H a zs ∧ RowAt C H b zs ∧ ∀ z ∈ zs, Nm z
abbrev sc_Row___eq___N : List PySem.Str := ["self", "other"]
theorem sc_Row___eq__ : FnScope sc_Row___eq___N ["self", "other"] (defScope (inClass (topS 28) 9)) := ⟨rfl, rfl, rfl, by decide +kernel, rfl, by decide +kernel, by decide +kernel⟩
theorem ok_eq (T : MdK K mg CR CM kd) (R : RowC K CR) (D : MetAt K CR "__eq__" "Row.__eq__" (inClass (topS 28) 9) ["self", "other"]) : Met P w K mg base 1 CR "__eq__" (spEq (rowR CR)) := by
  refine met_of D sc_Row___eq__ (fun vs H Q E h => ?_) (fun f cdv A outer s H vs Q E hr h => ?_)
  · obtain ⟨a, b, rfl, _⟩ := h
    rfl
  · obtain ⟨a, b, rfl, ⟨zs, ⟨dx, e, p, c, h1, h2⟩, ⟨dy, e', p', c', g1, g2⟩, hn⟩, q⟩ := h
    refine ⟨_, (pss_one (ps_ret (pe_and (pe_callB (C8.call_isC T.is_Row) (by rfl) T.isinstance (by decide +kernel) (pa_cons (pv 1) (pa_cons (Own.pe_gl rfl T.c_Row) pa_nil))) (pe_one (pe_cmpR (Own.eqDK (K := K) rfl hr.units) (pe_fld (pv 0) rfl) (pe_fld (pv 1) rfl) (nomark _)))))), ?_⟩
    walk_at "go"
    refine ⟨b, dy, _, rfl, g1, true, rfl, iteT ?_⟩
    refine ⟨_, rfl, a, CR, dx, _, _, rfl, h1, R.cl, R.n1, look_e _ _, _, rfl, b, CR, dy, _, _, rfl, g1, R.cl, R.n1, look_e _ _, ?_⟩
    have n1 : Nd 1 (.tuple (zs.map PyData.str)) := by
      unfold Nd
      exact nd_strs fun z hz => (hn z hz).ok
    refine ⟨.tuple (zs.map PyData.str), .tuple (zs.map PyData.str), .tup (Td.sq h2) (dpa_strs _), .tup (Td.sq g2) (dpa_strs _), n1.shaped (by decide), n1.shaped (by decide), ?_⟩
    rw [n1.refl]
    exact q H Ext.rfl'
/-! ### moves -/
def kdS : Kd → PySem.Str
  | .swap => "swap"
  | .flip => "flip"
  | .both => "both"
def gpV (g : Gp) : List V := [.int (g.p : Int), .int (g.q : Int), .int (g.r : Int), .int (g.s : Int)]
theorem cutV_mid {xs : List V} {p q : Nat} (h : p ≤ q) (h2 : q ≤ xs.length) : cutV xs (some (p : Int)) (some (q : Int)) = cut xs p q := by
  unfold cutV cut
  rw [HT.sIx_nat, HT.sIx_nat, Nat.min_eq_left (Nat.le_trans h h2), Nat.min_eq_left h2, List.drop_take]
def spLine (K : PySem.W.Frag) : Sp := fun vs H Q _ => ∃ (l t : Addr) (xs : List V) (k : Kd) (g : Gp), vs = [.ref l, .str (kdS k), .ref t] ∧ SqL K H l xs ∧ SqT K H t (gpV g) ∧ g.p ≤ g.q ∧ g.q ≤ g.r ∧ g.r ≤ g.s ∧ g.s ≤ xs.length ∧ xs.length ≤ 1000 ∧ ∀ p H', Same H H' → H' p = some (.lst (mv k xs g)) → Q (.ref p) H'
abbrev sc_line_moved_N : List PySem.Str := ["line", "kind", "gaps", "p", "q", "r", "s", "first", "second"]
theorem sc_line_moved : FnScope sc_line_moved_N ["line", "kind", "gaps"] (defScope (topS 30)) := ⟨rfl, rfl, rfl, by decide +kernel, rfl, by decide +kernel, by decide +kernel⟩
theorem ok_line (T : MdK K mg CR CM kd) (D : DefAt K mg "line_moved" (topS 30) ["line", "kind", "gaps"]) : Cal P w K mg base 1 "line_moved" (spLine K) := by
  refine cal_of D sc_line_moved (fun vs H Q E h => ?_) (fun f cdv A outer s H vs Q E hr h => ?_)
  · obtain ⟨l, t, xs, k, g, rfl, _⟩ := h
    rfl
  · obtain ⟨l, t, xs, k, g, rfl, hl, ht, b1, b2, b3, b4, hx, q⟩ := h
    refine ⟨_, (pss_cons (ps_asg (pv 2) (pg_tup rfl (pgs_cons (pg_name (i := 3) sc_line_moved.nd rfl (Or.inl rfl)) (pgs_cons (pg_name (i := 4) sc_line_moved.nd rfl (Or.inl rfl)) (pgs_cons (pg_name (i := 5) sc_line_moved.nd rfl (Or.inl rfl)) (pgs_cons (pg_name (i := 6) sc_line_moved.nd rfl (Or.inl rfl)) pgs_nil))))))
  (pss_cons (ps_par (i := 7) (j := 8) rfl sc_line_moved.nd rfl rfl (by decide) rfl rfl (pa_cons (pe_slice (Own.slL (K := K) rfl) (pv 0) (po_some (pv 3)) (po_some (pv 4))) (pa_cons (pe_slice (Own.slL (K := K) rfl) (pv 0) (po_some (pv 5)) (po_some (pv 6))) pa_nil)) rfl)
  (pss_cons (ps_if (pt_cmpR Own.os_ne (pv 1) pe_str (nomark _))
   (pss_one (ps_par (i := 7) (j := 8) rfl sc_line_moved.nd rfl rfl (by decide) rfl rfl (pa_cons (Own.revL (K := K) rfl (pv 7)) (pa_cons (Own.revL (K := K) rfl (pv 8)) pa_nil)) rfl))
   pss_nil)
  (pss_cons (ps_if (pt_cmpR Own.os_ne (pv 1) pe_str (nomark _))
   (pss_one (ps_par (i := 7) (j := 8) rfl sc_line_moved.nd rfl rfl (by decide) rfl rfl (pa_cons (pv 8) (pa_cons (pv 7) pa_nil)) rfl))
   pss_nil)
  (pss_one (ps_ret (pe_op op_cat (pe_op op_cat (pe_op op_cat (pe_op op_cat (pe_slice (Own.slL (K := K) rfl) (pv 0) po_none (po_some (pv 3))) (pv 7)) (pe_slice (Own.slL (K := K) rfl) (pv 0) (po_some (pv 4)) (po_some (pv 5)))) (pv 8)) (pe_slice (Own.slL (K := K) rfl) (pv 0) (po_some (pv 6)) po_none)))))))), ?_⟩
    walk_at "go"
    refine ⟨t, gpV g, rfl, ht, rfl, ?_⟩
    refine ⟨_, _, rfl, ?_⟩
    refine ⟨_, _, rfl, ?_⟩
    refine ⟨_, _, rfl, ?_⟩
    refine ⟨_, _, rfl, ?_⟩
    refine ⟨rfl, ?_⟩
    refine seq2_rest (R := fun σ' H' => ∃ f1 f2, σ' = [some (.ref l), some (.str (kdS k)), some (.ref t), some (.int (g.p : Int)), some (.int (g.q : Int)), some (.int (g.r : Int)), some (.int (g.s : Int)), some (.ref f1), some (.ref f2)] ∧ Same H H' ∧ H' f1 = some (.lst (cut xs g.p g.q)) ∧ H' f2 = some (.lst (cut xs g.r g.s))) (fun N rest => ?_) ?_
    · refine ⟨_, rfl, _, rfl, _, rfl, _, rfl, _, rfl, l, xs, rfl, hl, fun f1 hf1 => ?_⟩
      have hl1 := (Same.upd_new (o := .lst (cutV xs (some (g.p : Int)) (some (g.q : Int)))) hf1).seq hl
      refine ⟨_, rfl, _, rfl, _, rfl, _, rfl, _, rfl, l, xs, rfl, hl1, fun f2 hf2 => ?_⟩
      rw [cutV_mid b1 (by omega), cutV_mid b3 b4]
      rw [cutV_mid b1 (by omega)] at hf2
      refine ⟨_, _, rfl, ?_⟩
      exact rest _ _ ⟨f1, f2, rfl, same_new (Same.upd_new hf1) hf2, by rw [upd_ne (ne_of_none upd_same hf2), upd_same], upd_same⟩
    · rintro σ' H1 ⟨f1, f2, rfl, S1, hf1, hf2⟩
      refine seq2_rest (R := fun σ' H' => ∃ f1 f2, σ' = [some (.ref l), some (.str (kdS k)), some (.ref t), some (.int (g.p : Int)), some (.int (g.q : Int)), some (.int (g.r : Int)), some (.int (g.s : Int)), some (.ref f1), some (.ref f2)] ∧ Same H H' ∧ H' f1 = some (.lst (two k (cut xs g.p g.q) (cut xs g.r g.s)).1) ∧ H' f2 = some (.lst (two k (cut xs g.p g.q) (cut xs g.r g.s)).2)) (fun N rest => ?_) ?_
      · cases k with
        | swap =>
          walk_at "go"
          exact rest _ _ ⟨f2, f1, rfl, S1, hf2, hf1⟩
        | flip =>
          walk_at "go"
          refine ⟨f1, _, rfl, SqL.of hf1, fun a1 n1 => ?_⟩
          have e2 : Same H1 (upd H1 a1 (.lst (cut xs g.p g.q).reverse)) := Same.upd_new n1
          have h1 : upd H1 a1 (.lst (cut xs g.p g.q).reverse) a1 = some (.lst (cut xs g.p g.q).reverse) := upd_same
          generalize upd H1 a1 (.lst (cut xs g.p g.q).reverse) = H2 at e2 h1
          refine ⟨_, rfl, f2, _, rfl, SqL.of (e2 _ _ hf2), fun a2 n2 => ?_⟩
          have e3 : Same H2 (upd H2 a2 (.lst (cut xs g.r g.s).reverse)) := Same.upd_new n2
          have h2 : upd H2 a2 (.lst (cut xs g.r g.s).reverse) a2 = some (.lst (cut xs g.r g.s).reverse) := upd_same
          generalize upd H2 a2 (.lst (cut xs g.r g.s).reverse) = H3 at e3 h2
          refine ⟨_, _, rfl, ?_⟩
          walk_at "go"
          exact rest _ _ ⟨a1, a2, rfl, (S1.trans e2).trans e3, e3 _ _ h1, h2⟩
        | both =>
          walk_at "go"
          refine ⟨f1, _, rfl, SqL.of hf1, fun a1 n1 => ?_⟩
          have e2 : Same H1 (upd H1 a1 (.lst (cut xs g.p g.q).reverse)) := Same.upd_new n1
          have h1 : upd H1 a1 (.lst (cut xs g.p g.q).reverse) a1 = some (.lst (cut xs g.p g.q).reverse) := upd_same
          generalize upd H1 a1 (.lst (cut xs g.p g.q).reverse) = H2 at e2 h1
          refine ⟨_, rfl, f2, _, rfl, SqL.of (e2 _ _ hf2), fun a2 n2 => ?_⟩
          have e3 : Same H2 (upd H2 a2 (.lst (cut xs g.r g.s).reverse)) := Same.upd_new n2
          have h2 : upd H2 a2 (.lst (cut xs g.r g.s).reverse) a2 = some (.lst (cut xs g.r g.s).reverse) := upd_same
          generalize upd H2 a2 (.lst (cut xs g.r g.s).reverse) = H3 at e3 h2
          refine ⟨_, _, rfl, ?_⟩
          walk_at "go"
          exact rest _ _ ⟨a2, a1, rfl, (S1.trans e2).trans e3, h2, e3 _ _ h1⟩
      · rintro σ' H2 ⟨f1, f2, rfl, S2, hf1, hf2⟩
        have hl2 := S2.seq hl
        obtain ⟨tl1, tl2⟩ := two_len k (cut xs g.p g.q) (cut xs g.r g.s)
        have c1 := cut_len xs g.p g.q
        have c2 := cut_len xs g.r g.s
        have c3 := cut_len xs g.q g.r
        have t1 : (two k (cut xs g.p g.q) (cut xs g.r g.s)).1.length ≤ xs.length := by rw [tl1]; split <;> assumption
        have t2 : (two k (cut xs g.p g.q) (cut xs g.r g.s)).2.length ≤ xs.length := by rw [tl2]; split <;> assumption
        have big : 10000 ≤ sizeLine := by rw [sizeLine_eq]; decide
        refine ⟨_, rfl, _, rfl, _, rfl, ?_⟩
        refine slL_go hl2 fun a1 H3 e3 h1 => ?_
        rw [cutV_take] at h1
        refine ⟨_, rfl, cat_go h1 (e3 _ _ hf1) (by rw [List.length_take]; omega) fun a2 H4 e4 h2 => ?_⟩
        refine ⟨_, rfl, _, rfl, _, rfl, _, rfl, _, rfl, ?_⟩
        refine slL_go ((e3.trans e4).seq hl2) fun a3 H5 e5 h3 => ?_
        rw [cutV_mid b2 (by omega)] at h3
        refine cat_go (e5 _ _ h2) h3 (by rw [List.length_append, List.length_take]; omega) fun a4 H6 e6 h4 => ?_
        have e26 := ((e3.trans e4).trans e5).trans e6
        refine ⟨_, rfl, cat_go h4 (e26 _ _ hf2) (by rw [List.length_append, List.length_append, List.length_take]; omega) fun a5 H7 e7 h5 => ?_⟩
        refine ⟨_, rfl, _, rfl, _, rfl, ?_⟩
        dsimp only [tNoPart]
        refine slL_go ((e26.trans e7).seq hl2) fun a6 H8 e8 h6 => ?_
        rw [cutV_drop] at h6
        refine cat_go (e8 _ _ h5) h6 (by rw [List.length_append, List.length_append, List.length_append, List.length_take, List.length_drop]; omega) fun a7 H9 e9 h7 => ?_
        exact q _ _ (((S2.trans e26).trans e7).trans (e8.trans e9)) h7
end
end Cl

namespace Cl
local macro_rules | `(tactic| walk_at "go") => `(tactic| repeat (first | (refine ⟨_, rfl, ?_⟩) | (refine ⟨_, _, rfl, rfl, ?_⟩) | (refine ⟨_, rfl, rfl, ?_⟩) | (refine ⟨_, _, rfl, ?_⟩) | (refine And.intro (by first | with_reducible rfl | rfl | omega | decide | assumption | (dsimp only; first | omega | decide | assumption)) ?_)))

local macro_rules | `(tactic| walk_at "bag") => `(tactic| repeat (first | (refine ⟨_, _, _, _, rfl, rfl, L2.SqL.of L2.upd_same, (by rfl), ?_⟩) | (refine ⟨_, _, _, _, rfl, rfl, L2.upd_same, (by rfl), ?_⟩) | (refine ⟨_, rfl, ?_⟩) | (refine ⟨_, _, rfl, rfl, ?_⟩) | (refine ⟨_, rfl, rfl, ?_⟩) | (refine ⟨_, _, rfl, ?_⟩) | (refine And.intro (by first | with_reducible rfl | rfl | omega | decide | assumption | (dsimp only; first | omega | decide | assumption)) ?_)))
open PySem L2 Own Ring
section
variable {P : Program} {w : World} {K : PySem.W.Frag} {mg : PySem.Str → Option Value} {base : Heap} {CR CM kd : Addr}
/-! ### is_number -/
def spNum : Sp := fun vs H Q _ => ∃ n : Nat, vs = [.int (n : Int)] ∧ Q (.bl true) H
abbrev sc_is_number_N : List PySem.Str := ["value"]
theorem sc_is_number : FnScope sc_is_number_N ["value"] (defScope (topS 33)) := ⟨rfl, rfl, rfl, by decide +kernel, rfl, by decide +kernel, by decide +kernel⟩
theorem ok_num (T : MdK K mg CR CM kd) (D : DefAt K mg "is_number" (topS 33) ["value"]) : Cal P w K mg base 1 "is_number" spNum := by
  refine cal_of D sc_is_number (fun vs H Q E h => ?_) (fun f cdv A outer s H vs Q E hr h => ?_)
  · obtain ⟨n, rfl, _⟩ := h
    rfl
  · obtain ⟨n, rfl, q⟩ := h
    refine ⟨_, (pss_one (ps_ret (pe_and (pe_callB (Own.isiK (K := K) rfl) (by rfl) T.isinstance (by decide +kernel) (pa_cons (pv 0) (pa_cons (pe_bltn (v := .ty "int") rfl T.int (by decide +kernel) rfl) pa_nil))) (pe_one (pe_not (pe_callB (Own.isiK (K := K) rfl) (by rfl) T.isinstance (by decide +kernel) (pa_cons (pv 0) (pa_cons (pe_bltn (v := .ty "bool") rfl T.bool (by decide +kernel) rfl) pa_nil)))))))), ?_⟩
    walk_at "go"
    refine ⟨_, _, _, _, true, rfl, .ty _, .base (.int (n : Int)), kit_ty (by decide +kernel), true, rfl, ?_⟩
    refine iteT ?_
    walk_at "go"
    refine ⟨_, _, _, _, false, rfl, .ty _, .base (.int (n : Int)), kit_ty (by decide +kernel), ?_⟩
    walk_at "go"
    exact q
/-! ### Move -/
def mf (k : Kd) (t : Addr) : List (PySem.Str × V) := [("kind", .str (kdS k)), ("gaps", .ref t)]
theorem ne_kg : ¬ (("kind" : PySem.Str) = "gaps") := by decide +kernel
theorem mf1 (v : V) : putF "kind" v [] = [(("kind" : PySem.Str), v)] := rfl
theorem mf2 (v d : V) : putF "gaps" d [(("kind" : PySem.Str), v)] = ([("kind", v), ("gaps", d)] : List (PySem.Str × V)) := by
  show (if ("kind" : PySem.Str) = "gaps" then _ else _) = _
  rw [if_neg ne_kg]
  rfl
theorem look_k (v : V) (r : List (PySem.Str × V)) : ((("kind" : PySem.Str), v) :: r).lookup ("kind" : PySem.Str) = some v := List.lookup_cons_self
theorem look_g (v d : V) (r : List (PySem.Str × V)) : ((("kind" : PySem.Str), v) :: ("gaps", d) :: r).lookup ("gaps" : PySem.Str) = some d := by
  rw [List.lookup_cons, show (("gaps" : PySem.Str) == "kind") = false by simpa using Ne.symm ne_kg, List.lookup_cons_self]
structure MoveC (K : PySem.W.Frag) (C : Addr) : Prop where
  cl : Cls K C
  n1 : NoAttr K C "kind"
  n2 : NoAttr K C "gaps"
/-- a Move stands at m -/
def MoveAt (K : PySem.W.Frag) (C : Addr) (H : Hp) (m : Addr) (k : Kd) (g : Gp) : Prop := ∃ (dx t : Addr), H m = some (.ins C dx (mf k t)) ∧ SqT K H t (gpV g)
theorem MoveAt.same {C : Addr} {H H' : Hp} {m : Addr} {k : Kd} {g : Gp} (h : MoveAt K C H m k g) (e : Same H H') : MoveAt K C H' m k g := by
  obtain ⟨dx, t, h1, h2⟩ := h
  exact ⟨dx, t, e _ _ h1, Own.Same.tupq e h2⟩
def spMove (K : PySem.W.Frag) (C : Addr) : Sp := fun vs H Q _ => ∃ (m dx : Addr) (k : Kd) (g : Gp), vs = .ref m :: .str (kdS k) :: gpV g ∧ H m = some (.ins C dx []) ∧ g.p ≤ g.q ∧ g.q ≤ g.r ∧ g.r ≤ g.s ∧ ∀ H', Same (hid [m] H) (hid [m] H') → MoveAt K C H' m k g → Q .non H'
/-- the gaps, one after another -/
def gpL (g : Gp) : List Nat := [g.p, g.q, g.r, g.s]
theorem gpV_eq (g : Gp) : gpV g = (gpL g).map fun (n : Nat) => V.int (n : Int) := rfl
theorem gpL_get {g : Gp} {i : Nat} {x : V} (h : (gpV g)[i]? = some x) : ∃ n : Nat, (gpL g)[i]? = some n ∧ x = .int (n : Int) := by
  rw [gpV_eq, List.getElem?_map] at h
  cases e : (gpL g)[i]? with
  | none => rw [e] at h; cases h
  | some n => rw [e] at h; exact ⟨n, rfl, (Option.some.inj h).symm⟩
theorem gp_up {g : Gp} (b1 : g.p ≤ g.q) (b2 : g.q ≤ g.r) (b3 : g.r ≤ g.s) {i n l : Nat} (hl : (0 :: gpL g)[i]? = some l) (hn : (gpL g)[i]? = some n) : l ≤ n := by
  unfold gpL at hl hn
  match i, hl, hn with
  | 0, hl, hn => cases hl; exact Nat.zero_le _
  | 1, hl, hn => cases hl; cases hn; exact b1
  | 2, hl, hn => cases hl; cases hn; exact b2
  | 3, hl, hn => cases hl; cases hn; exact b3
  | i + 4, hl, hn => simp at hn
theorem kinds_in (k : Kd) : kdS k ∈ ([("swap" : PySem.Str), "flip", "both"] : List PySem.Str) := by cases k <;> decide +kernel
abbrev sc_Move___init___N : List PySem.Str := ["self", "kind", "p", "q", "r", "s", "least", "index", "gap"]
theorem sc_Move___init__ : FnScope sc_Move___init___N ["self", "kind", "p", "q", "r", "s"] (defScope (inClass (topS 38) 0)) := ⟨rfl, rfl, rfl, by decide +kernel, rfl, by decide +kernel, by decide +kernel⟩
theorem ok_move (T : MdK K mg CR CM kd) (R : MoveC K CM) (D : IniAt K mg CM "Move" "Move.__init__" (inClass (topS 38) 0) ["self", "kind", "p", "q", "r", "s"]) (D_is_number : Cal P w K mg base 1 "is_number" spNum) : Mak P w K mg base 2 "Move" CM (spMove K CM) := by
  refine mak_of D sc_Move___init__ (fun vs H Q E h => ?_) (fun f cdv A outer s H vs Q E hr h => ?_)
  · obtain ⟨m, dx, k, g, rfl, _⟩ := h
    rfl
  · obtain ⟨m, dx, k, g, rfl, hm, b1, b2, b3, q⟩ := h
    refine ⟨_, (pss_cons (ps_if (PW.pt (pw_or (pt_not (pt_val (pe_callB (Own.isiK (K := K) rfl) (by rfl) T.isinstance (by decide +kernel) (pa_cons (pv 1) (pa_cons (pe_bltn (v := .ty "str") rfl T.str (by decide +kernel) rfl) pa_nil))))) (pw_or1 (pt_cmpR (Own.notInSeq (K := K) rfl) (pv 1) (Own.pe_gl rfl T.c_KINDS) rfl))))
   (pss_one Own.ps_never)
   pss_nil)
  (pss_cons (ps_set (i := 6) sc_Move___init__.nd rfl (Or.inl rfl) pe_int)
  (pss_cons (ps_for PassesOwn.never rfl (Own.pi_enumTK (c := 1) (by rfl) T.enumerate (pa_cons (pe_tup (pa_cons (pv 2) (pa_cons (pv 3) (pa_cons (pv 4) (pa_cons (pv 5) pa_nil))))) pa_nil)) (pg_tup rfl (pgs_cons (pg_name (i := 7) sc_Move___init__.nd rfl (Or.inl rfl)) (pgs_cons (pg_name (i := 8) sc_Move___init__.nd rfl (Or.inl rfl)) pgs_nil)))
   (pss_cons (ps_if (PW.pt (pw_or (pt_not (pt_val (Own.pe_c D_is_number hr (by decide) rfl (pa_cons (pv 8) pa_nil)))) (pw_or1 (pt_cmpR Own.oc_lt (pv 8) (pv 6) (nomark _)))))
   (pss_one Own.ps_never)
   pss_nil)
  (pss_one (ps_set (i := 6) sc_Move___init__.nd rfl (Or.inl rfl) (pv 8)))))
  (pss_cons (ps_fld (pv 0) (pv 1) rfl)
  (pss_one (ps_fld (pv 0) (pe_tup (pa_cons (pv 2) (pa_cons (pv 3) (pa_cons (pv 4) (pa_cons (pv 5) pa_nil))))) rfl)))))), ?_⟩
    walk_at "go"
    refine ⟨_, _, _, _, true, rfl, .ty _, .base (.str (kdS k)), kit_ty (by decide +kernel), true, rfl, iteF ?_⟩
    refine ⟨_, rfl, kd, _, rfl, .inr (T.kinds _), rfl, rfl, ?_⟩
    refine ⟨_, rfl, iF (show (!inV (V.str (kdS k)) (([("swap" : PySem.Str), "flip", "both"] : List PySem.Str).map V.str)) = false by rw [inV_strs, decide_eq_true (kinds_in k)]; rfl) ?_⟩
    walk_at "go"
    refine ⟨(by show 4 ≤ sizeLine; decide), fun t0 ht0 => ?_⟩
    change (fun H1 => _) (upd H t0 (.tup (gpV g)))
    have S0 : Same H (upd H t0 (.tup (gpV g))) := Same.upd_new ht0
    have h0 : upd H t0 (.tup (gpV g)) t0 = some (.tup (gpV g)) := upd_same
    generalize upd H t0 (.tup (gpV g)) = H1 at S0 h0
    refine ⟨t0, gpV g, rfl, SqT.of h0, ?_⟩
    refine for_it walk_enumT (fun i σ H' => ∃ (l : Nat) (e7 e8 : Option V), σ = [some (.ref m), some (.str (kdS k)), some (.int (g.p : Int)), some (.int (g.q : Int)), some (.int (g.r : Int)), some (.int (g.s : Int)), some (.int (l : Int)), e7, e8] ∧ (0 :: gpL g)[i]? = some l ∧ Same H1 H')
      ⟨0, none, none, rfl, rfl, Same.refl _⟩ (fun i σ H' _ ⟨_, _, _, _, _, S⟩ => SqT.of (S _ _ h0)) ?_ ?_
    · rintro i x σ H2 H3 hi ⟨l, e7, e8, rfl, hl, S⟩ ⟨u, x1, x2, rfl, hu, rfl, h1, hx2⟩
      obtain rfl : V.int ((1 + i : Nat) : Int) = x1 := Option.some.inj h1
      obtain ⟨n, hn, rfl⟩ := gpL_get hx2
      have hln := gp_up b1 b2 b3 hl hn
      have S3 : Same H1 (upd H2 u (.tup [.int ((1 + i : Nat) : Int), .int (n : Int)])) := same_new S hu
      refine ⟨u, _, rfl, SqT.of upd_same, rfl, ?_⟩
      generalize upd H2 u (.tup [.int ((1 + i : Nat) : Int), .int (n : Int)]) = H4 at S3
      walk_at "go"
      refine iF (decide_eq_false (Nat.not_lt.mpr hln)) ?_
      exact ⟨_, rfl, n, _, _, rfl, hn, S3⟩
    · rintro σ H2 ⟨l, e7, e8, rfl, hl, S⟩
      have hm2 := S _ _ (S0 _ _ hm)
      refine ⟨_, rfl, _, rfl, m, CM, dx, [], rfl, hm2, R.cl, R.n1, (by decide), ?_⟩
      rw [mf1]
      have hm3 : upd H2 m (.ins CM dx [("kind", .str (kdS k))]) m = some (.ins CM dx [("kind", .str (kdS k))]) := upd_same
      have S4 : Same (hid [m] H) (hid [m] (upd H2 m (.ins CM dx [("kind", .str (kdS k))]))) := by rw [hid_one_upd]; exact Own.Same.hid [m] (S0.trans S)
      generalize upd H2 m (.ins CM dx [("kind", .str (kdS k))]) = H3 at hm3 S4
      walk_at "go"
      refine ⟨(by show 4 ≤ sizeLine; decide), fun t ht => ?_⟩
      have hm4 : upd H3 t (.tup (gpV g)) m = some (.ins CM dx [("kind", .str (kdS k))]) := by rw [upd_ne (ne_of_none hm3 ht)]; exact hm3
      refine ⟨_, rfl, m, CM, dx, _, rfl, hm4, R.cl, R.n2, (by show 1 < 1000; decide), ?_⟩
      rw [mf2]
      refine q _ (fun x o hx => ?_) ⟨dx, t, upd_same, sqT_upd (SqT.of upd_same) hm4⟩
      obtain ⟨x1, x2⟩ := hid_some.mp (S4 x o hx)
      have x3 : x ≠ m := fun z => x1 (by simp [z])
      exact hid_some.mpr ⟨x1, by rw [upd_ne x3, upd_ne (ne_of_none x2 ht)]; exact x2⟩
def spMoved (K : PySem.W.Frag) (CR CM : Addr) : Sp := fun vs H Q _ => ∃ (r m : Addr) (zs : List PySem.Str) (k : Kd) (g : Gp), vs = [.ref r, .ref m] ∧ RowAt CR H r zs ∧ MoveAt K CM H m k g ∧ Ends2 zs ∧ Piece zs g ∧ ∀ r' H', Same H H' → RowAt CR H' r' (least ltS (mv k zs g)) → Q (.ref r') H'
abbrev sc_moved_N : List PySem.Str := ["row", "move", "index", "gap", "p", "q", "r", "s", "piece", "name"]
theorem sc_moved : FnScope sc_moved_N ["row", "move"] (defScope (topS 40)) := ⟨rfl, rfl, rfl, by decide +kernel, rfl, by decide +kernel, by decide +kernel⟩
theorem ok_moved (T : MdK K mg CR CM kd) (R : RowC K CR) (RM : MoveC K CM) (D : DefAt K mg "moved" (topS 40) ["row", "move"]) (D_line_moved : Cal P w K mg base 1 "line_moved" (spLine K)) (D_Row : Mak P w K mg base 4 "Row" CR (spRow CR)) : Cal P w K mg base 6 "moved" (spMoved K CR CM) := by
  refine cal_of D sc_moved (fun vs H Q E h => ?_) (fun f cdv A outer s H vs Q E hr h => ?_)
  · obtain ⟨r, m, zs, k, g, rfl, _⟩ := h
    rfl
  · obtain ⟨r, m, zs, k, g, rfl, ⟨dx, e, pp, cc, hr0, he⟩, ⟨dy, t, hm0, ht⟩, hz, hp, q⟩ := h
    refine ⟨_, (pss_cons (ps_if (pt_val (pe_fld (pv 0) rfl))
   (pss_one Own.ps_never)
   pss_nil)
  (pss_cons (ps_for PassesOwn.never rfl (Own.pi_enumTK (c := 1) (by rfl) T.enumerate (pa_cons (pe_fld (pv 1) rfl) pa_nil)) (pg_tup rfl (pgs_cons (pg_name (i := 2) sc_moved.nd rfl (Or.inl rfl)) (pgs_cons (pg_name (i := 3) sc_moved.nd rfl (Or.inl rfl)) pgs_nil)))
   (pss_one (ps_if (pt_cmpR Own.oc_gt (pv 3) (pe_callB call_len_seq (by rfl) T.len (by decide +kernel) (pa_cons (pe_fld (pv 0) rfl) pa_nil)) (nomark _))
   (pss_one Own.ps_never)
   pss_nil)))
  (pss_cons (ps_asg (pe_fld (pv 1) rfl) (pg_tup rfl (pgs_cons (pg_name (i := 4) sc_moved.nd rfl (Or.inl rfl)) (pgs_cons (pg_name (i := 5) sc_moved.nd rfl (Or.inl rfl)) (pgs_cons (pg_name (i := 6) sc_moved.nd rfl (Or.inl rfl)) (pgs_cons (pg_name (i := 7) sc_moved.nd rfl (Or.inl rfl)) pgs_nil))))))
  (pss_cons (ps_set (i := 8) sc_moved.nd rfl (Or.inr rfl) (pe_op Own.op_F (pe_slice Own.sl_F (pe_fld (pv 0) rfl) (po_some (pv 4)) (po_some (pv 5))) (pe_slice Own.sl_F (pe_fld (pv 0) rfl) (po_some (pv 6)) (po_some (pv 7)))))
  (pss_cons (ps_if (pt_truth (pe_lc (own := [("name", 9)]) (g := (gName 9)) rfl sc_moved.nd (Own.pi_tupK (K := K) rfl (pv 8)) (blkOk_by (own := [("name", 9)]) (N := sc_moved_N) (sc := defScope (topS 40)) (by decide +kernel)) (fun _ _ _ _ _ => (pg_name (i := 9) sc_moved.nd rfl (Or.inl rfl))) (fun _ _ _ _ _ => (pts_one (pt_cmpR Own.oc_eq (Own.pe_tm PySem.F.slot_tuple_count PySem.F.type_tuple_count (Own.tcount (K := K) rfl hr.units) (pv 8) (pa_cons (pv 9) pa_nil)) pe_int (nomark _)))) (fun _ _ _ _ _ => (pv 9))) (by intro _; rfl))
   (pss_one Own.ps_never)
   pss_nil)
  (pss_one (ps_ret (Own.pe_mk D_Row hr (by decide) rfl (pa_cons (Own.pe_c D_line_moved hr (by decide) rfl (pa_cons (pe_callTy (Own.listK (K := K) rfl) (by rfl) T.list (by decide +kernel) (pa_cons (pe_fld (pv 0) rfl) pa_nil)) (pa_cons (pe_fld (pv 1) rfl) (pa_cons (pe_fld (pv 1) rfl) pa_nil)))) pa_nil))))))))), ?_⟩
    refine ⟨_, rfl, r, CR, dx, _, _, rfl, hr0, R.cl, R.n2, look_d _ _ _, false, rfl, iteF ?_⟩
    refine ⟨_, rfl, m, CM, dy, _, _, rfl, hm0, RM.cl, RM.n2, look_g _ _ _, t, gpV g, rfl, ht, ?_⟩
    refine for_it walk_enumT (fun i σ H' => ∃ (e2 e3 : Option V), σ = [some (.ref r), some (.ref m), e2, e3, none, none, none, none, none, none] ∧ Same H H')
      ⟨none, none, rfl, Same.refl _⟩ (fun i σ H' _ ⟨_, _, _, S⟩ => Own.Same.tupq S ht) ?_ ?_
    · rintro i x σ H1 H2 hi ⟨e2, e3, rfl, S⟩ ⟨u, x1, x2, rfl, hu, rfl, h1, hx2⟩
      obtain rfl : V.int ((1 + i : Nat) : Int) = x1 := Option.some.inj h1
      obtain ⟨n, hn, rfl⟩ := gpL_get hx2
      have S3 : Same H (upd H1 u (.tup [.int ((1 + i : Nat) : Int), .int (n : Int)])) := same_new S hu
      refine ⟨u, _, rfl, SqT.of upd_same, rfl, ?_⟩
      generalize upd H1 u (.tup [.int ((1 + i : Nat) : Int), .int (n : Int)]) = H4 at S3
      walk_at "go"
      refine ⟨r, CR, dx, _, _, rfl, S3 _ _ hr0, R.cl, R.n1, look_e _ _, e, _, rfl, .inr (Td.sq (Td.same he S3)), ?_⟩
      have hnl : n ≤ zs.length := by
        have h1 := hp.h1
        have h2 := hp.h2
        have h3 := hp.h3
        have h4 := hp.h4
        have hm : n ∈ gpL g := List.mem_of_getElem? hn
        unfold gpL at hm
        simp only [List.mem_cons, List.not_mem_nil, or_false] at hm
        rcases hm with rfl | rfl | rfl | rfl <;> omega
      walk_at "go"
      refine iF (decide_eq_false (by rw [strsV_len]; omega)) ?_
      exact ⟨_, _, rfl, S3⟩
    · rintro σ H1 ⟨e2, e3, rfl, S⟩
      have hr1 := S _ _ hr0
      have hm1 := S _ _ hm0
      have he1 := Td.same he S
      have ht1 := Own.Same.tupq S ht
      walk_at "go"
      refine ⟨m, CM, dy, _, _, rfl, hm1, RM.cl, RM.n2, look_g _ _ _, t, gpV g, rfl, ht1, rfl, ?_⟩
      refine ⟨_, _, rfl, ?_⟩
      refine ⟨_, _, rfl, ?_⟩
      refine ⟨_, _, rfl, ?_⟩
      refine ⟨_, _, rfl, ?_⟩
      refine ⟨rfl, ?_⟩
      have b1 := hp.h1
      have b2 := hp.h2
      have b3 := hp.h3
      have b4 := hp.h4
      have hlen : (strsV zs).length = zs.length := strsV_len zs
      refine ⟨_, rfl, r, CR, dx, _, _, rfl, hr1, R.cl, R.n1, look_e _ _, _, rfl, _, rfl, _, rfl, _, rfl, ?_⟩
      refine slF_go he1 fun p1 H2 s2 hp1 => ?_
      rw [cutV_mid b1 (by omega)] at hp1
      refine ⟨_, rfl, r, CR, dx, _, _, rfl, s2 _ _ hr1, R.cl, R.n1, look_e _ _, _, rfl, _, rfl, _, rfl, _, rfl, ?_⟩
      refine slF_go (Td.same he1 s2) fun p2 H3 s3 hp2 => ?_
      rw [cutV_mid b3 (by omega)] at hp2
      have c1 := cut_len (strsV zs) g.p g.q
      have c2 := cut_len (strsV zs) g.r g.s
      have hzl := hz.len
      refine catF_go (Td.same hp1 s3) hp2 (by rw [sizeLine_eq]; omega) fun pc H4 s4 hpc => ?_
      have ein : cut (strsV zs) g.p g.q ++ cut (strsV zs) g.r g.s = strsV (inner zs g) := by
        unfold inner cut strsV
        rw [List.map_append, List.map_drop, List.map_drop, List.map_take, List.map_take]
      rw [ein] at hpc
      have S4 : Same H H4 := ((S.trans s2).trans s3).trans s4
      walk_at "go"
      refine ⟨⟨_, Td.sq hpc⟩, fun D hD => ?_⟩
      have hpcD : Td (upd H4 D (.lst [])) pc (strsV (inner zs g)) := Td.same hpc (Same.upd_new hD)
      have hDD : upd H4 D (.lst []) D = some (.lst []) := upd_same
      have S5 : Same H (upd H4 D (.lst [])) := same_new S4 hD
      refine lc_it walk_tup (fun i H' => H' = upd H4 D (.lst [])) rfl (fun i H' _ e => by rw [e]; exact Td.sq hpcD) ?_ ?_
      · rintro i x H6 H7 hi rfl ⟨rfl, hx⟩
        obtain ⟨z, hz2, rfl⟩ := strsV_get hx
        have hzc := hp.in2 z (List.mem_of_getElem? hz2)
        walk_at "go"
        refine ⟨⟨pc, _, rfl, hpcD⟩, _, rfl, pc, inner zs g, z, rfl, rfl, Td.sq hpcD, ?_⟩
        rw [hzc]
        refine ⟨2, 1, rfl, rfl, _, rfl, iF (decide_eq_false (by decide)) ?_⟩
        rfl
      · rintro H6 rfl
        generalize upd H4 D (.lst []) = H5 at hpcD hDD S5
        refine ⟨false, .inl ⟨[], SqL.of hDD, rfl⟩, iteF ?_⟩
        walk_at "go"
        refine ⟨r, CR, dx, _, _, rfl, S5 _ _ hr0, R.cl, R.n1, look_e _ _, e, _, rfl, .inr (Td.sq (Td.same he S5)), fun l hl => ?_⟩
        have S6 : Same H (upd H5 l (.lst (strsV zs))) := same_new S5 hl
        have hl6 : upd H5 l (.lst (strsV zs)) l = some (.lst (strsV zs)) := upd_same
        generalize upd H5 l (.lst (strsV zs)) = H6 at S6 hl6
        refine ⟨_, rfl, m, CM, dy, _, _, rfl, S6 _ _ hm0, RM.cl, RM.n1, look_k _ _, _, rfl, m, CM, dy, _, _, rfl, S6 _ _ hm0, RM.cl, RM.n2, look_g _ _ _, ?_⟩
        refine ⟨l, t, strsV zs, k, g, rfl, SqL.of hl6, Own.Same.tupq S6 ht, b1, b2, b3, by omega, by omega, fun p H7 e7 hp7 => ?_⟩
        have emv : mv k (strsV zs) g = strsV (mv k zs g) := mv_map k V.str zs g
        rw [emv] at hp7
        have S7 := S6.trans e7
        have pm := mv_perm k b1 b2 b3 b4
        have hz2 : Ends2 (mv k zs g) := ⟨fun z h => hz.nm z (pm.mem_iff.mp h), hz.dbl.perm pm.symm, fun e => hz.ne (by have := pm.length_eq; rw [e] at this; exact List.length_eq_zero_iff.mp this.symm), by rw [pm.length_eq]; exact hz.len⟩
        walk_at "go"
        intro x dz hx hdx hne
        have nx : p ≠ x := ne_of_none hp7 hx
        have nd : p ≠ dz := ne_of_none hp7 hdx
        refine ⟨x, dz, p, _, rfl, upd_same, by rw [upd_ne nx, upd_ne nd]; exact hp7, hz2, fun H8 e8 hR => ⟨rfl, ?_⟩⟩
        exact q x H8 (S7.trans (made_same hx hdx e8)) hR
end
end Cl

namespace Cl
local macro_rules | `(tactic| walk_at "go") => `(tactic| repeat (first | (refine ⟨_, rfl, ?_⟩) | (refine ⟨_, _, rfl, rfl, ?_⟩) | (refine ⟨_, rfl, rfl, ?_⟩) | (refine ⟨_, _, rfl, ?_⟩) | (refine And.intro (by first | with_reducible rfl | rfl | omega | decide | assumption | (dsimp only; first | omega | decide | assumption)) ?_)))

local macro_rules | `(tactic| walk_at "bag") => `(tactic| repeat (first | (refine ⟨_, _, _, _, rfl, rfl, L2.SqL.of L2.upd_same, (by rfl), ?_⟩) | (refine ⟨_, _, _, _, rfl, rfl, L2.upd_same, (by rfl), ?_⟩) | (refine ⟨_, rfl, ?_⟩) | (refine ⟨_, _, rfl, rfl, ?_⟩) | (refine ⟨_, rfl, rfl, ?_⟩) | (refine ⟨_, _, rfl, ?_⟩) | (refine And.intro (by first | with_reducible rfl | rfl | omega | decide | assumption | (dsimp only; first | omega | decide | assumption)) ?_)))
open PySem L2 Own Ring
section
variable {P : Program} {w : World} {K : PySem.W.Frag} {mg : PySem.Str → Option Value} {base : Heap} {CR CM kd : Addr}
/-! ### rows of numbers -/
def ntV (l : List Nat) : List V := l.map fun (i : Nat) => V.int (i : Int)
theorem ntV_len (l : List Nat) : (ntV l).length = l.length := List.length_map ..
theorem ntV_get {l : List Nat} {i : Nat} {x : V} (h : (ntV l)[i]? = some x) : ∃ n : Nat, l[i]? = some n ∧ x = .int (n : Int) := by
  unfold ntV at h
  rw [List.getElem?_map] at h
  cases e : l[i]? with
  | none => rw [e] at h; cases h
  | some n => rw [e] at h; exact ⟨n, rfl, (Option.some.inj h).symm⟩
theorem ntV_at {l : List Nat} {i n : Nat} (h : l[i]? = some n) : atI (ntV l) (i : Int) = some (.int (n : Int)) := atI_nat (by unfold ntV; rw [List.getElem?_map, h]; rfl)
theorem ntV_app (l m : List Nat) : ntV l ++ ntV m = ntV (l ++ m) := (List.map_append ..).symm
theorem ntV_take (l : List Nat) (k : Nat) : (ntV l).take k = ntV (l.take k) := (List.map_take ..).symm
theorem ntV_drop (l : List Nat) (k : Nat) : (ntV l).drop k = ntV (l.drop k) := (List.map_drop ..).symm
theorem ntV_ints (l : List Nat) : ntV l = (l.map fun (i : Nat) => (i : Int)).map V.int := by unfold ntV; rw [List.map_map]; rfl
def ltN (a b : Nat) : Bool := decide (a < b)
theorem lin_N : Lin ltN := lin_nat
theorem intL_lt (a b : List Nat) : PySem.W.DatumOrd.lt (a.map fun (i : Nat) => (i : Int)) (b.map fun (i : Nat) => (i : Int)) = lx ltN a b := by
  have e := listLt_lx (a.map fun (i : Nat) => (i : Int)) (b.map fun (i : Nat) => (i : Int))
  refine Eq.trans e (lx_map fun x y _ _ => ⟨fun h => by omega, ?_⟩)
  exact decide_eq_decide.mpr (by omega)
/-- lists of numbers, one after another -/
def LsAll (H : Hp) (acc : List V) (cs : List (List Nat)) : Prop := acc.length = cs.length ∧ ∀ (j : Nat) (c : List Nat), cs[j]? = some c → ∃ p : Addr, acc[j]? = some (V.ref p) ∧ H p = some (.lst (ntV c))
theorem LsAll.imp {H H' : Hp} {acc : List V} {cs : List (List Nat)} (h : LsAll H acc cs) (e : ∀ p c, H p = some (.lst (ntV c)) → V.ref p ∈ acc → H' p = some (.lst (ntV c))) : LsAll H' acc cs := ⟨h.1, fun j c hj => let ⟨p, a, b⟩ := h.2 j c hj; ⟨p, a, e _ _ b (List.mem_of_getElem? a)⟩⟩
theorem LsAll.snoc {H : Hp} {acc : List V} {cs : List (List Nat)} {p : Addr} {c : List Nat} (h : LsAll H acc cs) (hp : H p = some (.lst (ntV c))) : LsAll H (acc ++ [.ref p]) (cs ++ [c]) := by
  refine ⟨by rw [List.length_append, List.length_append, h.1]; rfl, fun j d hj => ?_⟩
  rcases Nat.lt_or_ge j cs.length with g | g
  · rw [List.getElem?_append_left g] at hj
    obtain ⟨q, a, b⟩ := h.2 j d hj
    exact ⟨q, by rw [List.getElem?_append_left (by rw [h.1]; exact g)]; exact a, b⟩
  · rw [List.getElem?_append_right g] at hj
    have e : j - cs.length = 0 := by
      have := (List.getElem?_eq_some_iff.mp hj).1
      simpa using this
    rw [e] at hj
    obtain rfl : c = d := Option.some.inj hj
    exact ⟨p, by rw [List.getElem?_append_right (by rw [h.1]; exact g), h.1, e]; rfl, hp⟩
theorem LsAll.dpa {K : PySem.W.Frag} {H : Hp} : ∀ {acc : List V} {cs : List (List Nat)}, LsAll H acc cs → DpAll K H acc (cs.map fun l => PyData.list (l.map fun (i : Nat) => PyData.int (i : Int)))
  | [], [], _ => .nil
  | [], _ :: _, h => by have := h.1; simp at this
  | _ :: _, [], h => by have := h.1; simp at this
  | v :: acc, c :: cs, h => by
    obtain ⟨p, a, b⟩ := h.2 0 c rfl
    obtain rfl : v = .ref p := Option.some.inj a
    refine .cons (.lst (SqL.of b) (dpa_nats c)) (LsAll.dpa ⟨by have := h.1; simpa using this, fun j d hj => ?_⟩)
    exact h.2 (j + 1) d hj
/-! ### _law_least -/
def spLL (K : PySem.W.Frag) : Sp := fun vs H Q _ => ∃ (a : Addr) (l : List Nat), vs = [.ref a] ∧ SqL K H a (ntV l) ∧ l ≠ [] ∧ l.length ≤ 1000 ∧ ∀ p H', Same H H' → H' p = some (.lst (ntV (least ltN l))) → Q (.ref p) H'
abbrev sc__law_least_N : List PySem.Str := ["row", "low", "k"]
theorem sc__law_least : FnScope sc__law_least_N ["row"] (defScope (topS 50)) := ⟨rfl, rfl, rfl, by decide +kernel, rfl, by decide +kernel, by decide +kernel⟩
theorem ok_ll (T : MdK K mg CR CM kd) (D : DefAt K mg "_law_least" (topS 50) ["row"]) : Cal P w K mg base 1 "_law_least" (spLL K) := by
  refine cal_of D sc__law_least (fun vs H Q E h => ?_) (fun f cdv A outer s H vs Q E hr h => ?_)
  · obtain ⟨a, l, rfl, _⟩ := h
    rfl
  · obtain ⟨a, l, rfl, ha, h0, hl, q⟩ := h
    refine ⟨_, (pss_cons (ps_if (pt_not (pt_truth (pv 0) (by intro _; rfl)))
   (pss_one (ps_ret (pe_lst pa_nil)))
   pss_nil)
  (pss_cons (ps_set (i := 1) sc__law_least.nd rfl (Or.inr rfl) (pe_callB (Own.minI (K := K) rfl rfl) (by rfl) T.min (by decide +kernel) (pa_cons (pv 0) pa_nil)))
  (pss_one (ps_ret (pe_callB (Own.minK (α := (List Int)) (K := K) rfl rfl hr.units) (by rfl) T.min (by decide +kernel) (pa_cons (pe_lc (own := [("k", 2)]) (g := (gName 2)) rfl sc__law_least.nd (Own.pi_rangeN rfl T.range (pa_cons (pe_callB call_len_seq (by rfl) T.len (by decide +kernel) (pa_cons (pv 0) pa_nil)) pa_nil)) (blkOk_by (own := [("k", 2)]) (N := sc__law_least_N) (sc := defScope (topS 50)) (by decide +kernel)) (fun _ _ _ _ _ => (pg_name (i := 2) sc__law_least.nd rfl (Or.inl rfl))) (fun _ _ _ _ _ => (pts_one (pt_cmpR Own.oc_eq (pe_ix (Own.ixL (K := K) rfl) (pv 0) (pv 2) (fun _ _ => rfl)) (pv 1) (nomark _)))) (fun _ _ _ _ _ => (pe_op op_cat (pe_slice (Own.slL (K := K) rfl) (pv 0) (po_some (pv 2)) po_none) (pe_slice (Own.slL (K := K) rfl) (pv 0) po_none (po_some (pv 2)))))) pa_nil)))))), ?_⟩
    obtain ⟨z0, zr, rfl⟩ := List.exists_cons_of_ne_nil h0
    refine ⟨_, rfl, true, .inl ⟨_, ha, rfl⟩, iteF ?_⟩
    refine ⟨_, rfl, a, (z0 :: zr).map fun (i : Nat) => (i : Int), rfl, by rw [← ntV_ints]; exact ha, (by simp), fun m hm hlow => ?_⟩
    obtain ⟨low, l1, rfl⟩ := List.mem_map.mp hm
    have l2 : ∀ y ∈ z0 :: zr, ltN y low = false := fun y hy => decide_eq_false (by have := hlow (y : Int) (List.mem_map_of_mem hy); omega)
    generalize z0 :: zr = l at ha hl q l1 l2 h0
    clear hm hlow
    have hpos : 0 < l.length := List.length_pos_iff.mpr h0
    walk_at "go"
    refine ⟨a, _, rfl, .inl ha, l.length, by rw [ntV_len], by omega, fun D hD => ?_⟩
    refine lc_it walk_rangeN (fun i H' => ∃ acc, H' D = some (.lst acc) ∧ acc.length ≤ i ∧ Same H H' ∧ LsAll H' acc (candsU l low i) ∧ V.ref D ∉ acc) ⟨[], upd_same, Nat.le_refl _, Same.upd_new hD, ⟨rfl, fun j c h => by cases h⟩, by simp⟩ (fun _ _ _ _ => trivial) ?_ ?_
    · rintro i x H1 H2 hi ⟨acc, hac, hlen, S, hda, hDa⟩ ⟨rfl, rfl⟩
      obtain ⟨z, hz⟩ : ∃ z, l[i]? = some z := ⟨_, List.getElem?_eq_getElem hi⟩
      have ha1 := S.seq ha
      walk_at "go"
      refine ⟨a, _, (i : Int), .int (z : Int), rfl, rfl, ha1, ntV_at hz, ?_⟩
      walk_at "go"
      refine ite2 (fun hc => ?_) (fun hc => ?_)
      · obtain rfl : z = low := of_decide_eq_true hc
        refine ⟨_, rfl, _, rfl, _, rfl, ?_⟩
        dsimp only [tNoPart]
        refine slL_go ha1 fun p1 H4 e4 hp1 => ?_
        refine ⟨_, rfl, _, rfl, _, rfl, ?_⟩
        dsimp only
        refine slL_go (e4.seq ha1) fun p2 H5 e5 hp2 => ?_
        rw [cutV_drop, ntV_drop] at hp1
        rw [cutV_take, ntV_take] at hp2
        refine ⟨p1, p2, _, _, rfl, rfl, e5 _ _ hp1, hp2, by rw [ntV_len, ntV_len, List.length_drop, List.length_take, sizeLine_eq]; omega, fun p hp => ?_⟩
        rw [ntV_app]
        have e15 := e4.trans e5
        have hac5 := e15 _ _ hac
        have hpD : D ≠ p := ne_of_none hac5 hp
        have hac6 : upd H5 p (.lst (ntV (l.drop i ++ l.take i))) D = some (.lst acc) := by rw [upd_ne hpD]; exact hac5
        refine ⟨acc, hac6, by rw [sizeLine_eq]; omega, acc ++ [.ref p], upd_same, by rw [List.length_append]; exact Nat.succ_le_succ hlen, fun x o hx => ?_, ?_, ?_⟩
        · rw [upd_ne (ne_of_none hx hD)]
          exact (e15.trans (Same.upd_new hp)) _ _ (S _ _ hx)
        · rw [candsU_succ, if_pos hz]
          refine LsAll.imp (H := upd H5 p (.lst (ntV (l.drop i ++ l.take i)))) ?_ (fun q c hq hqa => ?_)
          · exact (hda.imp fun q c hq _ => (e15.trans (Same.upd_new hp)) _ _ hq).snoc upd_same
          · have hqD : q ≠ D := fun z => by
              rw [z] at hqa
              rcases List.mem_append.mp hqa with h | h
              · exact hDa h
              · exact hpD (V.ref.inj (List.mem_singleton.mp h))
            rw [upd_ne hqD]
            exact hq
        · intro h
          rcases List.mem_append.mp h with h | h
          · exact hDa h
          · exact hpD (V.ref.inj (List.mem_singleton.mp h))
      · have hz2 : ¬ l[i]? = some low := fun e => hc (decide_eq_true (Option.some.inj (hz.symm.trans e)))
        refine ⟨acc, hac, Nat.le_succ_of_le hlen, S, ?_, hDa⟩
        rw [candsU_succ, if_neg hz2, List.append_nil]
        exact hda
    · rintro H1 ⟨acc, hac, hlen, S, hda, hDa⟩
      have ec : candsU l low l.length = cands l low := rfl
      rw [ec] at hda
      obtain ⟨c0, cr, ec2⟩ : ∃ c0 cr, cands l low = c0 :: cr := by
        cases e : cands l low with
        | cons c0 cr => exact ⟨c0, cr, rfl⟩
        | nil =>
          obtain ⟨u, v, e2⟩ := List.append_of_mem l1
          have : (low :: v) ++ u ∈ cands l low := mem_cands.mpr ⟨⟨u, low :: v, e2, rfl⟩, rfl⟩
          rw [e] at this
          cases this
      have eI : ((c0.map fun (i : Nat) => (i : Int)) :: cr.map fun c => c.map fun (i : Nat) => (i : Int)) = (cands l low).map fun c => c.map fun (i : Nat) => (i : Int) := by rw [ec2]; rfl
      have hsub : DpAll K H1 acc (((c0.map fun (i : Nat) => (i : Int)) :: cr.map fun c => c.map fun (i : Nat) => (i : Int)).map PySem.W.Datum.toD) := by
        rw [eI, List.map_map]
        refine (congrArg (DpAll K H1 acc) (List.map_congr_left fun c _ => ?_)).mp hda.dpa
        show _ = PyData.list ((c.map fun (i : Nat) => (i : Int)).map PyData.int)
        rw [List.map_map]
        rfl
      refine ⟨D, acc, c0.map fun (i : Nat) => (i : Int), cr.map fun c => c.map fun (i : Nat) => (i : Int), rfl, .inl (SqL.of hac), hsub, fun y _ => ?_, fun y z e => ?_, fun i v hv hm => ?_⟩
      · refine (nd_ok 1 _ ?_).1
        show Nd 1 (.list (y.map PyData.int))
        unfold Nd
        intro x hx
        obtain ⟨n, _, rfl⟩ := List.mem_map.mp hx
        exact trivial
      · have e2 : y.map PyData.int = z.map PyData.int := PyData.list.inj e
        exact List.map_inj_right (fun a b h => PyData.int.inj h) |>.mp e2
      · obtain ⟨m1, m2⟩ := min_spec lin_L (c0.map fun (i : Nat) => (i : Int)) (cr.map fun c => c.map fun (i : Nat) => (i : Int))
        rw [eI] at m1 m2 hm
        obtain ⟨c, hc, ecm⟩ := List.mem_map.mp m1
        rw [← ecm] at m2 hm
        rw [List.getElem?_map] at hm
        have hl2 : IsLeast ltN l c := .inr ⟨low, ⟨l1, l2⟩, hc, fun d hd => by rw [← intL_lt]; exact m2 _ (List.mem_map_of_mem hd)⟩
        cases e : (cands l low)[i]? with
        | none => rw [e] at hm; cases hm
        | some c' =>
          rw [e] at hm
          have e3 : c'.map (fun (i : Nat) => (i : Int)) = c.map (fun (i : Nat) => (i : Int)) := Option.some.inj hm
          have ecc : c' = c := (List.map_inj_right (f := fun (i : Nat) => (i : Int)) (fun x y h => by have h2 : (x : Int) = (y : Int) := h; omega)).mp e3
          subst ecc
          obtain ⟨p, hp1, hp⟩ := hda.2 i _ e
          obtain rfl : V.ref p = v := Option.some.inj (hp1.symm.trans hv)
          rw [least_eq lin_N hl2] at hp
          exact q p _ S hp
end
end Cl

namespace Cl
local macro_rules | `(tactic| walk_at "go") => `(tactic| repeat (first | (refine ⟨_, rfl, ?_⟩) | (refine ⟨_, _, rfl, rfl, ?_⟩) | (refine ⟨_, rfl, rfl, ?_⟩) | (refine ⟨_, _, rfl, ?_⟩) | (refine And.intro (by first | with_reducible rfl | rfl | omega | decide | assumption | (dsimp only; first | omega | decide | assumption)) ?_)))

local macro_rules | `(tactic| walk_at "bag") => `(tactic| repeat (first | (refine ⟨_, _, _, _, rfl, rfl, L2.SqL.of L2.upd_same, (by rfl), ?_⟩) | (refine ⟨_, _, _, _, rfl, rfl, L2.upd_same, (by rfl), ?_⟩) | (refine ⟨_, rfl, ?_⟩) | (refine ⟨_, _, rfl, rfl, ?_⟩) | (refine ⟨_, rfl, rfl, ?_⟩) | (refine ⟨_, _, rfl, ?_⟩) | (refine And.intro (by first | with_reducible rfl | rfl | omega | decide | assumption | (dsimp only; first | omega | decide | assumption)) ?_)))
open PySem L2 Own Ring
section
variable {P : Program} {w : World} {K : PySem.W.Frag} {mg : PySem.Str → Option Value} {base : Heap} {CR CM kd : Addr}
/-! ### _law_ends -/
def nmAt (N : List PySem.Str) (k : Nat) : PySem.Str := N.getD k Str.empty
def spEnds (K : PySem.W.Frag) : Sp := fun vs H Q _ => ∃ (n a : Addr) (N : List PySem.Str) (l : List Nat), vs = [.ref n, .ref a] ∧ SqL K H n (strsV N) ∧ SqL K H a (ntV l) ∧ l ≠ [] ∧ l.length ≤ 1000 ∧ (∀ k ∈ l, k < N.length) ∧ ∀ p H', Same H H' → Td H' p (strsV ((least ltN l).map (nmAt N))) → Q (.ref p) H'
abbrev sc__law_ends_N : List PySem.Str := ["names", "row", "k"]
theorem sc__law_ends : FnScope sc__law_ends_N ["names", "row"] (defScope (topS 51)) := ⟨rfl, rfl, rfl, by decide +kernel, rfl, by decide +kernel, by decide +kernel⟩
theorem ok_ends (T : MdK K mg CR CM kd) (D : DefAt K mg "_law_ends" (topS 51) ["names", "row"]) (D_law_least : Cal P w K mg base 1 "_law_least" (spLL K)) : Cal P w K mg base 2 "_law_ends" (spEnds K) := by
  refine cal_of D sc__law_ends (fun vs H Q E h => ?_) (fun f cdv A outer s H vs Q E hr h => ?_)
  · obtain ⟨n, a, N, l, rfl, _⟩ := h
    rfl
  · obtain ⟨n, a, N, l, rfl, hn, ha, h0, hl, hk, q⟩ := h
    refine ⟨_, (pss_one (ps_ret (pe_callTy (Own.tupF (K := K) rfl) (by rfl) T.tuple (by decide +kernel) (pa_cons (pe_lc (own := [("k", 2)]) (g := (gName 2)) rfl sc__law_ends.nd (Own.pi_listK (K := K) rfl (Own.pe_c D_law_least hr (by decide) rfl (pa_cons (pv 1) pa_nil))) (blkOk_by (own := [("k", 2)]) (N := sc__law_ends_N) (sc := defScope (topS 51)) (by decide +kernel)) (fun _ _ _ _ _ => (pg_name (i := 2) sc__law_ends.nd rfl (Or.inl rfl))) (fun _ _ _ _ _ => pts_nil) (fun _ _ _ _ _ => (pe_ix (Own.ixL (K := K) rfl) (pv 0) (pv 2) (fun _ _ => rfl)))) pa_nil)))), ?_⟩
    refine ⟨_, rfl, a, l, rfl, ha, h0, hl, fun p H1 e1 hp => ?_⟩
    have pm := (least_rt lin_N l).perm
    have hll : (least ltN l).length = l.length := pm.length_eq.symm
    have hk2 : ∀ k ∈ least ltN l, k < N.length := fun k h => hk k (pm.mem_iff.mpr h)
    generalize least ltN l = m at q hp hll hk2
    refine ⟨p, rfl, ⟨_, SqL.of hp⟩, fun D hD => ?_⟩
    have hn1 := e1.seq hn
    refine lc_it walk_list (fun i H' => H' = upd H1 D (.lst (strsV ((m.take i).map (nmAt N))))) rfl (fun i H' _ e => by rw [e]; exact SqL.of (Same.upd_new hD _ _ hp)) ?_ ?_
    · rintro i x H2 H3 hi rfl ⟨rfl, hx⟩
      obtain ⟨z, hz, rfl⟩ := ntV_get hx
      rw [ntV_len] at hi
      have hzN := hk2 z (List.mem_of_getElem? hz)
      walk_at "go"
      refine ⟨n, strsV N, (z : Int), .str (nmAt N z), rfl, rfl, (Same.upd_new hD).seq hn1, atI_nat ?_, ?_⟩
      · unfold strsV nmAt
        rw [List.getElem?_map, List.getD_eq_getElem?_getD, List.getElem?_eq_getElem hzN]
        rfl
      · refine ⟨_, upd_same, (by rw [strsV_len, List.length_map, List.length_take, sizeLine_eq]; omega), ?_⟩
        rw [upd_upd, take_more hz, List.map_append]
        unfold strsV
        rw [List.map_append]
        rfl
    · rintro H2 rfl
      rw [ntV_len, List.take_length]
      refine ⟨D, _, rfl, SqL.of upd_same, fun t H3 e3 ht => ?_⟩
      exact q t H3 (e1.trans ((Same.upd_new hD).trans e3)) ht
theorem walk_zipT {a b : Addr} {xs ys : List V} {n : Nat} (hx : xs.length = n) (hy : ys.length = n) : Walk (RZ.ItzT K a b) n (fun H => SqT K H a xs ∧ SqT K H b ys) (YPair (fun i => xs[i]?) (fun i => ys[i]?)) := by
  refine ⟨fun i _ hi q => ?_, fun _ q => ⟨xs, ys, q.1, q.2, .inl (by omega)⟩, fun i H v H' _ q y => ?_⟩
  · exact ⟨xs, ys, xs[i]'(by omega), ys[i]'(by omega), q.1, q.2, by simp, by simp⟩
  · obtain ⟨T, x, z, h1, h2, h3, h4, h5⟩ := y
    exact ⟨T, x, z, h1, h2, h3, h4 xs q.1, h5 ys q.2⟩
/-! ### _law_like -/
def spNo : Sp := fun _ _ _ _ => False
def spLkS : Sp := fun vs H Q _ => ∃ z : PySem.Str, vs = [.str z, .str z] ∧ Nm z ∧ Q (.bl true) H
def spLkT : Sp := fun vs H Q _ => ∃ (a b : Addr) (zs : List PySem.Str), vs = [.ref a, .ref b] ∧ Td H a (strsV zs) ∧ Td H b (strsV zs) ∧ zs.length ≤ 1000 ∧ (∀ z ∈ zs, Nm z) ∧ ∀ H', Same H H' → Q (.bl true) H'
abbrev sc__law_like_N : List PySem.Str := ["told", "due", "a", "b"]
theorem sc__law_like : FnScope sc__law_like_N ["told", "due"] (defScope (topS 46)) := ⟨rfl, rfl, rfl, by decide +kernel, rfl, by decide +kernel, by decide +kernel⟩
theorem ok_lk0 (D : DefAt K mg "_law_like" (topS 46) ["told", "due"]) : Cal P w K mg base 1 "_law_like" spNo := by
  refine cal_of D sc__law_like (fun vs H Q E h => ?_) (fun f cdv A outer s H vs Q E hr h => ?_)
  · exact h.elim
  · exact h.elim
theorem ok_lkS (T : MdK K mg CR CM kd) (D : DefAt K mg "_law_like" (topS 46) ["told", "due"]) (D_law_like : Cal P w K mg base 1 "_law_like" spNo) : Cal P w K mg base 2 "_law_like" spLkS := by
  refine cal_of D sc__law_like (fun vs H Q E h => ?_) (fun f cdv A outer s H vs Q E hr h => ?_)
  · obtain ⟨z, rfl, _⟩ := h
    rfl
  · obtain ⟨z, rfl, hz, q⟩ := h
    refine ⟨_, (pss_cons (ps_if (PW.pt (pw_or (pt_cmpR op_isN (pv 1) pe_non (nomark _)) (pw_or (pt_cmpR Own.op_isBX (pv 1) pe_bl (nomark _)) (pw_or1 (pt_cmpR Own.op_isBX (pv 1) pe_bl (nomark _))))))
   Own.pss_never
   pss_nil)
  (pss_cons (ps_if (pt_val (pe_callB (Own.isiK (K := K) rfl) (by rfl) T.isinstance (by decide +kernel) (pa_cons (pv 1) (pa_cons (pe_bltn (v := .ty "int") rfl T.int (by decide +kernel) rfl) pa_nil))))
   Own.pss_never
   pss_nil)
  (pss_cons (ps_if (pt_val (pe_callB (Own.isiK (K := K) rfl) (by rfl) T.isinstance (by decide +kernel) (pa_cons (pv 1) (pa_cons (pe_bltn (v := .ty "str") rfl T.str (by decide +kernel) rfl) pa_nil))))
   (pss_one (ps_ret (pe_and (pe_callB (Own.isiK (K := K) rfl) (by rfl) T.isinstance (by decide +kernel) (pa_cons (pv 0) (pa_cons (pe_bltn (v := .ty "str") rfl T.str (by decide +kernel) rfl) pa_nil))) (pe_one (pe_cmpR (Own.eqDK (K := K) rfl hr.units) (pv 0) (pv 1) (nomark _))))))
   pss_nil)
  (pss_cons (ps_if (pt_val (pe_callB (Own.isiK (K := K) rfl) (by rfl) T.isinstance (by decide +kernel) (pa_cons (pv 1) (pa_cons (pe_bltn (v := .ty "dict") rfl T.dict (by decide +kernel) rfl) pa_nil))))
   Own.pss_never
   pss_nil)
  (pss_cons (ps_if (PW.pt (pw_or (pt_cmpR Own.ol_ne (pe_callB (Own.isiK (K := K) rfl) (by rfl) T.isinstance (by decide +kernel) (pa_cons (pv 0) (pa_cons (pe_bltn (v := .ty "tuple") rfl T.tuple (by decide +kernel) rfl) pa_nil))) (pe_callB (Own.isiK (K := K) rfl) (by rfl) T.isinstance (by decide +kernel) (pa_cons (pv 1) (pa_cons (pe_bltn (v := .ty "tuple") rfl T.tuple (by decide +kernel) rfl) pa_nil))) (nomark _)) (pw_or1 (pt_cmpR Own.ol_ne (pe_callB (Own.isiK (K := K) rfl) (by rfl) T.isinstance (by decide +kernel) (pa_cons (pv 0) (pa_cons (pe_bltn (v := .ty "list") rfl T.list (by decide +kernel) rfl) pa_nil))) (pe_callB (Own.isiK (K := K) rfl) (by rfl) T.isinstance (by decide +kernel) (pa_cons (pv 1) (pa_cons (pe_bltn (v := .ty "list") rfl T.list (by decide +kernel) rfl) pa_nil))) (nomark _)))))
   Own.pss_never
   pss_nil)
  (pss_one (ps_ret (pe_and (pe_cmpR Own.oc_eq (pe_callB call_len_seq (by rfl) T.len (by decide +kernel) (pa_cons (pv 0) pa_nil)) (pe_callB call_len_seq (by rfl) T.len (by decide +kernel) (pa_cons (pv 1) pa_nil)) (nomark _)) (pe_one (pe_callB (cr_all rfl) (by rfl) T.all (by decide +kernel) (pa_cons (pe_lc (own := [("a", 2), ("b", 3)]) (g := (gTup K 2 (gCons (gName 2) (gCons (gName 3) gNil)))) rfl sc__law_like.nd (RZ.pi_zipA (by rfl) T.zip (pa_cons (pv 0) (pa_cons (pv 1) pa_nil))) (blkOk_by (own := [("a", 2), ("b", 3)]) (N := sc__law_like_N) (sc := defScope (topS 46)) (by decide +kernel)) (fun _ _ _ _ _ => (pg_tup rfl (pgs_cons (pg_name (i := 2) sc__law_like.nd rfl (Or.inl rfl)) (pgs_cons (pg_name (i := 3) sc__law_like.nd rfl (Or.inl rfl)) pgs_nil)))) (fun _ _ _ _ _ => pts_nil) (fun _ _ _ _ _ => (Own.pe_c D_law_like hr (by decide) rfl (pa_cons (pv 2) (pa_cons (pv 3) pa_nil))))) pa_nil))))))))))), ?_⟩
    walk_at "go"
    refine ⟨.inl ⟨z, rfl⟩, _, rfl, iteF ?_⟩
    walk_at "go"
    refine ⟨.inl ⟨z, rfl⟩, _, rfl, iteF ?_⟩
    walk_at "go"
    refine ⟨_, _, _, _, false, rfl, .ty _, .base (.str z), kit_ty (by decide +kernel), false, rfl, iteF ?_⟩
    walk_at "go"
    refine ⟨_, _, _, _, true, rfl, .ty _, .base (.str z), kit_ty (by decide +kernel), true, rfl, iteT ?_⟩
    walk_at "go"
    refine ⟨_, _, _, _, true, rfl, .ty _, .base (.str z), kit_ty (by decide +kernel), true, rfl, iteT ?_⟩
    walk_at "go"
    have n0 : Nd 0 (.str z) := hz.ok
    refine ⟨.str z, .str z, .str z, .str z, n0.shaped (by decide), n0.shaped (by decide), ?_⟩
    rw [n0.refl]
    exact q
theorem ok_lkT (T : MdK K mg CR CM kd) (D : DefAt K mg "_law_like" (topS 46) ["told", "due"]) (D_law_like : Cal P w K mg base 2 "_law_like" spLkS) : Cal P w K mg base 3 "_law_like" spLkT := by
  refine cal_of D sc__law_like (fun vs H Q E h => ?_) (fun f cdv A outer s H vs Q E hr h => ?_)
  · obtain ⟨a, b, zs, rfl, _⟩ := h
    rfl
  · obtain ⟨a, b, zs, rfl, ha, hb, hl, hn, q⟩ := h
    refine ⟨_, (pss_cons (ps_if (PW.pt (pw_or (pt_cmpR op_isN (pv 1) pe_non (nomark _)) (pw_or (pt_cmpR Own.op_isBX (pv 1) pe_bl (nomark _)) (pw_or1 (pt_cmpR Own.op_isBX (pv 1) pe_bl (nomark _))))))
   Own.pss_never
   pss_nil)
  (pss_cons (ps_if (pt_val (pe_callB (Own.isiK (K := K) rfl) (by rfl) T.isinstance (by decide +kernel) (pa_cons (pv 1) (pa_cons (pe_bltn (v := .ty "int") rfl T.int (by decide +kernel) rfl) pa_nil))))
   Own.pss_never
   pss_nil)
  (pss_cons (ps_if (pt_val (pe_callB (Own.isiK (K := K) rfl) (by rfl) T.isinstance (by decide +kernel) (pa_cons (pv 1) (pa_cons (pe_bltn (v := .ty "str") rfl T.str (by decide +kernel) rfl) pa_nil))))
   (pss_one (ps_ret (pe_and (pe_callB (Own.isiK (K := K) rfl) (by rfl) T.isinstance (by decide +kernel) (pa_cons (pv 0) (pa_cons (pe_bltn (v := .ty "str") rfl T.str (by decide +kernel) rfl) pa_nil))) (pe_one (pe_cmpR (Own.eqDK (K := K) rfl hr.units) (pv 0) (pv 1) (nomark _))))))
   pss_nil)
  (pss_cons (ps_if (pt_val (pe_callB (Own.isiK (K := K) rfl) (by rfl) T.isinstance (by decide +kernel) (pa_cons (pv 1) (pa_cons (pe_bltn (v := .ty "dict") rfl T.dict (by decide +kernel) rfl) pa_nil))))
   Own.pss_never
   pss_nil)
  (pss_cons (ps_if (PW.pt (pw_or (pt_cmpR Own.ol_ne (pe_callB (Own.isiK (K := K) rfl) (by rfl) T.isinstance (by decide +kernel) (pa_cons (pv 0) (pa_cons (pe_bltn (v := .ty "tuple") rfl T.tuple (by decide +kernel) rfl) pa_nil))) (pe_callB (Own.isiK (K := K) rfl) (by rfl) T.isinstance (by decide +kernel) (pa_cons (pv 1) (pa_cons (pe_bltn (v := .ty "tuple") rfl T.tuple (by decide +kernel) rfl) pa_nil))) (nomark _)) (pw_or1 (pt_cmpR Own.ol_ne (pe_callB (Own.isiK (K := K) rfl) (by rfl) T.isinstance (by decide +kernel) (pa_cons (pv 0) (pa_cons (pe_bltn (v := .ty "list") rfl T.list (by decide +kernel) rfl) pa_nil))) (pe_callB (Own.isiK (K := K) rfl) (by rfl) T.isinstance (by decide +kernel) (pa_cons (pv 1) (pa_cons (pe_bltn (v := .ty "list") rfl T.list (by decide +kernel) rfl) pa_nil))) (nomark _)))))
   Own.pss_never
   pss_nil)
  (pss_one (ps_ret (pe_and (pe_cmpR Own.oc_eq (pe_callB call_len_seq (by rfl) T.len (by decide +kernel) (pa_cons (pv 0) pa_nil)) (pe_callB call_len_seq (by rfl) T.len (by decide +kernel) (pa_cons (pv 1) pa_nil)) (nomark _)) (pe_one (pe_callB (cr_all rfl) (by rfl) T.all (by decide +kernel) (pa_cons (pe_lc (own := [("a", 2), ("b", 3)]) (g := (gTup K 2 (gCons (gName 2) (gCons (gName 3) gNil)))) rfl sc__law_like.nd (RZ.pi_zipA (by rfl) T.zip (pa_cons (pv 0) (pa_cons (pv 1) pa_nil))) (blkOk_by (own := [("a", 2), ("b", 3)]) (N := sc__law_like_N) (sc := defScope (topS 46)) (by decide +kernel)) (fun _ _ _ _ _ => (pg_tup rfl (pgs_cons (pg_name (i := 2) sc__law_like.nd rfl (Or.inl rfl)) (pgs_cons (pg_name (i := 3) sc__law_like.nd rfl (Or.inl rfl)) pgs_nil)))) (fun _ _ _ _ _ => pts_nil) (fun _ _ _ _ _ => (Own.pe_c D_law_like hr (by decide) rfl (pa_cons (pv 2) (pa_cons (pv 3) pa_nil))))) pa_nil))))))))))), ?_⟩
    walk_at "go"
    obtain ⟨oa, ha1, ha2⟩ := id ha
    obtain ⟨ob, hb1, hb2⟩ := id hb
    refine ⟨.inr (.inl ⟨b, rfl⟩), _, rfl, iteF ?_⟩
    walk_at "go"
    refine ⟨.inr (.inl ⟨b, rfl⟩), _, rfl, iteF ?_⟩
    walk_at "go"
    refine ⟨_, _, _, _, false, rfl, .ty _, .fTuple hb1, kit_ty (by decide +kernel), false, rfl, iteF ?_⟩
    walk_at "go"
    refine ⟨_, _, _, _, false, rfl, .ty _, .fTuple hb1, kit_ty (by decide +kernel), false, rfl, iteF ?_⟩
    walk_at "go"
    refine ⟨_, _, _, _, false, rfl, .ty _, .fTuple hb1, kit_ty (by decide +kernel), false, rfl, iteF ?_⟩
    walk_at "go"
    refine ⟨_, _, _, _, true, rfl, .ty _, .fTuple ha1, kit_ty (by decide +kernel), ?_⟩
    walk_at "go"
    refine ⟨_, _, _, _, true, rfl, .ty _, .fTuple hb1, kit_ty (by decide +kernel), ?_⟩
    walk_at "go"
    refine ⟨_, _, _, _, false, rfl, .ty _, .fTuple ha1, kit_ty (by decide +kernel), ?_⟩
    walk_at "go"
    refine ⟨_, _, _, _, false, rfl, .ty _, .fTuple hb1, kit_ty (by decide +kernel), ?_⟩
    walk_at "go"
    refine ⟨a, _, rfl, .inr (Td.sq ha), _, rfl, b, _, rfl, .inr (Td.sq hb), (strsV zs).length, (strsV zs).length, rfl, rfl, _, rfl, iT (decide_eq_true rfl) ?_⟩
    walk_at "go"
    refine ⟨a, b, _, _, rfl, .inr ⟨Td.sq ha, Td.sq hb, fun D hD => ?_⟩⟩
    refine lc_it (walk_zipT (n := zs.length) (strsV_len zs) (strsV_len zs)) (fun i H' => ∃ acc, H' D = some (.lst acc) ∧ acc = (List.replicate i true).map V.bl ∧ Same H H') ⟨[], upd_same, rfl, Same.upd_new hD⟩
      (fun i H' _ ⟨_, _, _, S⟩ => ⟨Td.sq (Td.same ha S), Td.sq (Td.same hb S)⟩) ?_ ?_
    · rintro i x H1 H2 hi ⟨acc, hac, rfl, S⟩ ⟨t, x1, x2, rfl, ht, rfl, h1, h2⟩
      obtain ⟨z, hz, rfl⟩ := strsV_get h1
      obtain ⟨z', hz', rfl⟩ := strsV_get h2
      obtain rfl : z = z' := Option.some.inj (hz.symm.trans hz')
      have hac1 : upd H1 t (.tup [.str z, .str z]) D = some (.lst ((List.replicate i true).map V.bl)) := by rw [upd_ne (ne_of_none hac ht)]; exact hac
      have S1 : Same H (upd H1 t (.tup [.str z, .str z])) := same_new S ht
      refine ⟨t, _, rfl, SqT.of upd_same, rfl, ?_⟩
      generalize upd H1 t (.tup [.str z, .str z]) = H3 at hac1 S1
      walk_at "go"
      refine ⟨hn z (List.mem_of_getElem? hz), _, hac1, by rw [List.length_map, List.length_replicate, sizeLine_eq]; omega, _, upd_same, by rw [List.replicate_succ', List.map_append]; rfl, fun x o hx => ?_⟩
      rw [upd_ne (ne_of_none hx hD)]
      exact S1 x o hx
    · rintro H1 ⟨acc, hac, rfl, S⟩
      refine ⟨D, List.replicate zs.length true, rfl, SqL.of hac, ?_⟩
      rw [show (List.replicate zs.length true).all id = true by simp]
      exact q _ S
end
end Cl

namespace Cl
local macro_rules | `(tactic| walk_at "go") => `(tactic| repeat (first | (refine ⟨_, rfl, ?_⟩) | (refine ⟨_, _, rfl, rfl, ?_⟩) | (refine ⟨_, rfl, rfl, ?_⟩) | (refine ⟨_, _, rfl, ?_⟩) | (refine And.intro (by first | with_reducible rfl | rfl | omega | decide | assumption | (dsimp only; first | omega | decide | assumption)) ?_)))

local macro_rules | `(tactic| walk_at "bag") => `(tactic| repeat (first | (refine ⟨_, _, _, _, rfl, rfl, L2.SqL.of L2.upd_same, (by rfl), ?_⟩) | (refine ⟨_, _, _, _, rfl, rfl, L2.upd_same, (by rfl), ?_⟩) | (refine ⟨_, rfl, ?_⟩) | (refine ⟨_, _, rfl, rfl, ?_⟩) | (refine ⟨_, rfl, rfl, ?_⟩) | (refine ⟨_, _, rfl, ?_⟩) | (refine And.intro (by first | with_reducible rfl | rfl | omega | decide | assumption | (dsimp only; first | omega | decide | assumption)) ?_)))
open PySem L2 Own Ring
section
variable {P : Program} {w : World} {K : PySem.W.Frag} {mg : PySem.Str → Option Value} {base : Heap} {CR CM kd : Addr}
/-! ### _law_row_is -/
def rowNm (N : List PySem.Str) (l : List Nat) : List PySem.Str := l.map (nmAt N)
def spRowIs (K : PySem.W.Frag) (CR : Addr) : Sp := fun vs H Q _ => ∃ (r n a : Addr) (N : List PySem.Str) (l : List Nat), vs = [.ref r, .ref n, .ref a] ∧ RowAt CR H r (rowNm N (least ltN l)) ∧ SqL K H n (strsV N) ∧ SqL K H a (ntV l) ∧ l ≠ [] ∧ l.length ≤ 1000 ∧ (∀ k ∈ l, k < N.length) ∧ (∀ z ∈ N, Nm z) ∧ ∀ H', Same H H' → Q (.bl true) H'
abbrev sc__law_row_is_N : List PySem.Str := ["told", "names", "row"]
theorem sc__law_row_is : FnScope sc__law_row_is_N ["told", "names", "row"] (defScope (topS 53)) := ⟨rfl, rfl, rfl, by decide +kernel, rfl, by decide +kernel, by decide +kernel⟩
theorem nmAt_mem {N : List PySem.Str} {k : Nat} (h : k < N.length) : nmAt N k ∈ N := by
  unfold nmAt
  rw [List.getD_eq_getElem?_getD, List.getElem?_eq_getElem h]
  exact List.getElem_mem h
theorem ok_row_is (T : MdK K mg CR CM kd) (R : RowC K CR) (D : DefAt K mg "_law_row_is" (topS 53) ["told", "names", "row"]) (D_law_ends : Cal P w K mg base 2 "_law_ends" (spEnds K)) (D_law_like : Cal P w K mg base 3 "_law_like" spLkT) : Cal P w K mg base 4 "_law_row_is" (spRowIs K CR) := by
  refine cal_of D sc__law_row_is (fun vs H Q E h => ?_) (fun f cdv A outer s H vs Q E hr h => ?_)
  · obtain ⟨r, n, a, N, l, rfl, _⟩ := h
    rfl
  · obtain ⟨r, n, a, N, l, rfl, ⟨dx, e, pp, cc, hr0, he⟩, hn, ha, h0, hl, hk, hN, q⟩ := h
    refine ⟨_, (pss_one (ps_ret (pe_and (pe_callB (C8.call_isC T.is_Row) (by rfl) T.isinstance (by decide +kernel) (pa_cons (pv 0) (pa_cons (Own.pe_gl rfl T.c_Row) pa_nil))) (pe_one (Own.pe_c D_law_like hr (by decide) rfl (pa_cons (pe_fld (pv 0) rfl) (pa_cons (Own.pe_c D_law_ends hr (by decide) rfl (pa_cons (pv 1) (pa_cons (pv 2) pa_nil))) pa_nil))))))), ?_⟩
    walk_at "go"
    refine ⟨r, dx, _, rfl, hr0, true, rfl, iteT ?_⟩
    refine ⟨_, rfl, r, CR, dx, _, _, rfl, hr0, R.cl, R.n1, look_e _ _, ?_⟩
    walk_at "go"
    refine ⟨n, a, N, l, rfl, hn, ha, h0, hl, hk, fun p H1 e1 hp => ?_⟩
    have pm := (least_rt lin_N l).perm
    refine ⟨e, p, rowNm N (least ltN l), rfl, Td.same he e1, hp, by unfold rowNm; rw [List.length_map, ← pm.length_eq]; exact hl, fun z hz => ?_, fun H2 e2 => q H2 (e1.trans e2)⟩
    obtain ⟨k, hk2, rfl⟩ := List.mem_map.mp hz
    exact hN _ (nmAt_mem (hk k (pm.mem_iff.mpr hk2)))
/-! ### _law_move -/
def spLMove (K : PySem.W.Frag) : Sp := fun vs H Q _ => ∃ (a : Addr) (l : List Nat) (k : Kd) (g : Gp), vs = .ref a :: .str (kdS k) :: gpV g ∧ SqL K H a (ntV l) ∧ l.length ≤ 1000 ∧ g.p ≤ g.q ∧ g.q ≤ g.r ∧ g.r ≤ g.s ∧ g.s ≤ l.length ∧ ∀ p H', Same H H' → H' p = some (.lst (ntV (mv k l g))) → Q (.ref p) H'
abbrev sc__law_move_N : List PySem.Str := ["row", "kind", "p", "q", "r", "s", "one", "other"]
theorem sc__law_move : FnScope sc__law_move_N ["row", "kind", "p", "q", "r", "s"] (defScope (topS 54)) := ⟨rfl, rfl, rfl, by decide +kernel, rfl, by decide +kernel, by decide +kernel⟩
theorem ok_lmove (T : MdK K mg CR CM kd) (D : DefAt K mg "_law_move" (topS 54) ["row", "kind", "p", "q", "r", "s"]) : Cal P w K mg base 1 "_law_move" (spLMove K) := by
  refine cal_of D sc__law_move (fun vs H Q E h => ?_) (fun f cdv A outer s H vs Q E hr h => ?_)
  · obtain ⟨a, l, k, g, rfl, _⟩ := h
    rfl
  · obtain ⟨a, l, k, g, rfl, ha, hl, b1, b2, b3, b4, q⟩ := h
    refine ⟨_, (pss_cons (ps_par (i := 6) (j := 7) rfl sc__law_move.nd rfl rfl (by decide) rfl rfl (pa_cons (pe_slice (Own.slL (K := K) rfl) (pv 0) (po_some (pv 2)) (po_some (pv 3))) (pa_cons (pe_slice (Own.slL (K := K) rfl) (pv 0) (po_some (pv 4)) (po_some (pv 5))) pa_nil)) rfl)
  (pss_cons (ps_if (pt_cmpR Own.os_eq (pv 1) pe_str (nomark _))
   (pss_one (ps_ret (pe_op op_cat (pe_op op_cat (pe_op op_cat (pe_op op_cat (pe_slice (Own.slL (K := K) rfl) (pv 0) po_none (po_some (pv 2))) (Own.revL (K := K) rfl (pv 6))) (pe_slice (Own.slL (K := K) rfl) (pv 0) (po_some (pv 3)) (po_some (pv 4)))) (Own.revL (K := K) rfl (pv 7))) (pe_slice (Own.slL (K := K) rfl) (pv 0) (po_some (pv 5)) po_none))))
   pss_nil)
  (pss_cons (ps_if (pt_cmpR Own.os_eq (pv 1) pe_str (nomark _))
   (pss_one (ps_ret (pe_op op_cat (pe_op op_cat (pe_op op_cat (pe_op op_cat (pe_slice (Own.slL (K := K) rfl) (pv 0) po_none (po_some (pv 2))) (Own.revL (K := K) rfl (pv 7))) (pe_slice (Own.slL (K := K) rfl) (pv 0) (po_some (pv 3)) (po_some (pv 4)))) (Own.revL (K := K) rfl (pv 6))) (pe_slice (Own.slL (K := K) rfl) (pv 0) (po_some (pv 5)) po_none))))
   pss_nil)
  (pss_one (ps_ret (pe_op op_cat (pe_op op_cat (pe_op op_cat (pe_op op_cat (pe_slice (Own.slL (K := K) rfl) (pv 0) po_none (po_some (pv 2))) (pv 7)) (pe_slice (Own.slL (K := K) rfl) (pv 0) (po_some (pv 3)) (po_some (pv 4)))) (pv 6)) (pe_slice (Own.slL (K := K) rfl) (pv 0) (po_some (pv 5)) po_none))))))), ?_⟩
    walk_at "go"
    dsimp only
    refine slL_go ha fun f1 H1 e1 hf1 => ?_
    refine ⟨_, rfl, _, rfl, _, rfl, _, rfl, _, rfl, ?_⟩
    dsimp only
    refine slL_go (e1.seq ha) fun f2 H2 e2 hf2 => ?_
    rw [cutV_mid b1 (by rw [ntV_len]; omega)] at hf1
    rw [cutV_mid b3 (by rw [ntV_len]; omega)] at hf2
    refine ⟨_, _, rfl, ?_⟩
    have S2 := e1.trans e2
    have hf1 := e2 _ _ hf1
    have hl2 := S2.seq ha
    have nl := ntV_len l
    have c1 := cut_len (ntV l) g.p g.q
    have c2 := cut_len (ntV l) g.r g.s
    have c3 := cut_len (ntV l) g.q g.r
    have big : 10000 ≤ sizeLine := by rw [sizeLine_eq]; decide
    have emv : ∀ k, mv k (ntV l) g = ntV (mv k l g) := fun k => mv_map k _ l g
    clear e1 e2
    cases k with
    | swap =>
      walk_at "go"
      dsimp only
      refine slL_go hl2 fun a1 H3 e3 h1 => ?_
      rw [cutV_take] at h1
      refine ⟨_, rfl, cat_go h1 (e3 _ _ hf2) (by rw [List.length_take]; omega) fun a2 H4 e4 h2 => ?_⟩
      have e34 := e3.trans e4
      refine ⟨_, rfl, _, rfl, _, rfl, _, rfl, _, rfl, ?_⟩
      refine slL_go (e34.seq hl2) fun a3 H5 e5 h3 => ?_
      rw [cutV_mid b2 (by omega)] at h3
      refine cat_go (e5 _ _ h2) h3 (by rw [List.length_append, List.length_take]; omega) fun a4 H6 e6 h4 => ?_
      have e46 := (e34.trans e5).trans e6
      refine ⟨_, rfl, cat_go h4 (e46 _ _ hf1) (by rw [List.length_append, List.length_append, List.length_take]; omega) fun a5 H7 e7 h5 => ?_⟩
      refine ⟨_, rfl, _, rfl, _, rfl, ?_⟩
      dsimp only [tNoPart]
      refine slL_go ((e46.trans e7).seq hl2) fun a6 H8 e8 h6 => ?_
      rw [cutV_drop] at h6
      refine cat_go (e8 _ _ h5) h6 (by rw [List.length_append, List.length_append, List.length_append, List.length_take, List.length_drop]; omega) fun a7 H9 e9 h7 => ?_
      refine q _ _ (((S2.trans e46).trans e7).trans (e8.trans e9)) ?_
      rw [← emv]
      exact h7
    | flip =>
      walk_at "go"
      dsimp only
      refine slL_go hl2 fun a1 H3 e3 h1 => ?_
      rw [cutV_take] at h1
      refine ⟨_, rfl, f1, _, rfl, SqL.of (e3 _ _ hf1), fun r1 nr1 => ?_⟩
      have e4 : Same H3 (upd H3 r1 (.lst (cut (ntV l) g.p g.q).reverse)) := Same.upd_new nr1
      have h1' : upd H3 r1 (.lst (cut (ntV l) g.p g.q).reverse) r1 = some (.lst (cut (ntV l) g.p g.q).reverse) := upd_same
      generalize upd H3 r1 (.lst (cut (ntV l) g.p g.q).reverse) = H4 at e4 h1'
      refine cat_go (e4 _ _ h1) h1' (by rw [List.length_take, List.length_reverse]; omega) fun a2 H5 e5 h2 => ?_
      have e35 := (e3.trans e4).trans e5
      refine ⟨_, rfl, _, rfl, _, rfl, _, rfl, _, rfl, ?_⟩
      refine slL_go (e35.seq hl2) fun a3 H6 e6 h3 => ?_
      rw [cutV_mid b2 (by omega)] at h3
      refine cat_go (e6 _ _ h2) h3 (by rw [List.length_append, List.length_take, List.length_reverse]; omega) fun a4 H7 e7 h4 => ?_
      have e47 := (e35.trans e6).trans e7
      refine ⟨_, rfl, f2, _, rfl, SqL.of (e47 _ _ hf2), fun r2 nr2 => ?_⟩
      have e8 : Same H7 (upd H7 r2 (.lst (cut (ntV l) g.r g.s).reverse)) := Same.upd_new nr2
      have h2' : upd H7 r2 (.lst (cut (ntV l) g.r g.s).reverse) r2 = some (.lst (cut (ntV l) g.r g.s).reverse) := upd_same
      generalize upd H7 r2 (.lst (cut (ntV l) g.r g.s).reverse) = H8 at e8 h2'
      refine cat_go (e8 _ _ h4) h2' (by rw [List.length_append, List.length_append, List.length_take, List.length_reverse, List.length_reverse]; omega) fun a5 H9 e9 h5 => ?_
      have e49 := (e47.trans e8).trans e9
      refine ⟨_, rfl, _, rfl, _, rfl, ?_⟩
      dsimp only [tNoPart]
      refine slL_go (e49.seq hl2) fun a6 H10 e10 h6 => ?_
      rw [cutV_drop] at h6
      refine cat_go (e10 _ _ h5) h6 (by rw [List.length_append, List.length_append, List.length_append, List.length_take, List.length_drop, List.length_reverse, List.length_reverse]; omega) fun a7 H11 e11 h7 => ?_
      refine q _ _ ((S2.trans e49).trans (e10.trans e11)) ?_
      rw [← emv]
      exact h7
    | both =>
      walk_at "go"
      dsimp only
      refine slL_go hl2 fun a1 H3 e3 h1 => ?_
      rw [cutV_take] at h1
      refine ⟨_, rfl, f2, _, rfl, SqL.of (e3 _ _ hf2), fun r1 nr1 => ?_⟩
      have e4 : Same H3 (upd H3 r1 (.lst (cut (ntV l) g.r g.s).reverse)) := Same.upd_new nr1
      have h1' : upd H3 r1 (.lst (cut (ntV l) g.r g.s).reverse) r1 = some (.lst (cut (ntV l) g.r g.s).reverse) := upd_same
      generalize upd H3 r1 (.lst (cut (ntV l) g.r g.s).reverse) = H4 at e4 h1'
      refine cat_go (e4 _ _ h1) h1' (by rw [List.length_take, List.length_reverse]; omega) fun a2 H5 e5 h2 => ?_
      have e35 := (e3.trans e4).trans e5
      refine ⟨_, rfl, _, rfl, _, rfl, _, rfl, _, rfl, ?_⟩
      refine slL_go (e35.seq hl2) fun a3 H6 e6 h3 => ?_
      rw [cutV_mid b2 (by omega)] at h3
      refine cat_go (e6 _ _ h2) h3 (by rw [List.length_append, List.length_take, List.length_reverse]; omega) fun a4 H7 e7 h4 => ?_
      have e47 := (e35.trans e6).trans e7
      refine ⟨_, rfl, f1, _, rfl, SqL.of (e47 _ _ hf1), fun r2 nr2 => ?_⟩
      have e8 : Same H7 (upd H7 r2 (.lst (cut (ntV l) g.p g.q).reverse)) := Same.upd_new nr2
      have h2' : upd H7 r2 (.lst (cut (ntV l) g.p g.q).reverse) r2 = some (.lst (cut (ntV l) g.p g.q).reverse) := upd_same
      generalize upd H7 r2 (.lst (cut (ntV l) g.p g.q).reverse) = H8 at e8 h2'
      refine cat_go (e8 _ _ h4) h2' (by rw [List.length_append, List.length_append, List.length_take, List.length_reverse, List.length_reverse]; omega) fun a5 H9 e9 h5 => ?_
      have e49 := (e47.trans e8).trans e9
      refine ⟨_, rfl, _, rfl, _, rfl, ?_⟩
      dsimp only [tNoPart]
      refine slL_go (e49.seq hl2) fun a6 H10 e10 h6 => ?_
      rw [cutV_drop] at h6
      refine cat_go (e10 _ _ h5) h6 (by rw [List.length_append, List.length_append, List.length_append, List.length_take, List.length_drop, List.length_reverse, List.length_reverse]; omega) fun a7 H11 e11 h7 => ?_
      refine q _ _ ((S2.trans e49).trans (e10.trans e11)) ?_
      rw [← emv]
      exact h7
/-! ### _law_is_piece -/
theorem cnt_cast (z : Nat) : ∀ l : List Nat, (l.map fun (i : Nat) => (i : Int)).count (z : Int) = l.count z
  | [] => rfl
  | x :: l => by
    rw [List.map_cons, List.count_cons, List.count_cons, cnt_cast z l]
    congr 1
    by_cases h : x = z
    · subst h
      simp
    · rw [if_neg (by simp; omega), if_neg (by simpa using h)]
def spIsP (K : PySem.W.Frag) : Sp := fun vs H Q _ => ∃ (a : Addr) (l : List Nat) (g : Gp), vs = .ref a :: gpV g ∧ SqL K H a (ntV l) ∧ l.length ≤ 1000 ∧ Piece l g ∧ ∀ H', Same H H' → Q (.bl true) H'
abbrev sc__law_is_piece_N : List PySem.Str := ["row", "p", "q", "r", "s", "inner", "k"]
theorem sc__law_is_piece : FnScope sc__law_is_piece_N ["row", "p", "q", "r", "s"] (defScope (topS 55)) := ⟨rfl, rfl, rfl, by decide +kernel, rfl, by decide +kernel, by decide +kernel⟩
theorem ok_isp (T : MdK K mg CR CM kd) (D : DefAt K mg "_law_is_piece" (topS 55) ["row", "p", "q", "r", "s"]) : Cal P w K mg base 1 "_law_is_piece" (spIsP K) := by
  refine cal_of D sc__law_is_piece (fun vs H Q E h => ?_) (fun f cdv A outer s H vs Q E hr h => ?_)
  · obtain ⟨a, l, g, rfl, _⟩ := h
    rfl
  · obtain ⟨a, l, g, rfl, ha, hl, hp, q⟩ := h
    refine ⟨_, (pss_cons (ps_set (i := 5) sc__law_is_piece.nd rfl (Or.inr rfl) (pe_op op_cat (pe_slice (Own.slL (K := K) rfl) (pv 0) (po_some (pv 1)) (po_some (pv 2))) (pe_slice (Own.slL (K := K) rfl) (pv 0) (po_some (pv 3)) (po_some (pv 4)))))
  (pss_one (ps_ret (pe_callB (cr_all rfl) (by rfl) T.all (by decide +kernel) (pa_cons (pe_lc (own := [("k", 6)]) (g := (gName 6)) rfl sc__law_is_piece.nd (Own.pi_listK (K := K) rfl (pv 5)) (blkOk_by (own := [("k", 6)]) (N := sc__law_is_piece_N) (sc := defScope (topS 55)) (by decide +kernel)) (fun _ _ _ _ _ => (pg_name (i := 6) sc__law_is_piece.nd rfl (Or.inl rfl))) (fun _ _ _ _ _ => pts_nil) (fun _ _ _ _ _ => (pe_cmpR Own.oc_eq (Own.pe_bmK (K := K) rfl PySem.F.plainAttrs_list PySem.F.slot_list_count PySem.F.type_list_count (Own.lcount (K := K) rfl) (pv 5) (pa_cons (pv 6) pa_nil)) pe_int (nomark _)))) pa_nil))))), ?_⟩
    have nl := ntV_len l
    have b1 := hp.h1
    have b2 := hp.h2
    have b3 := hp.h3
    have b4 := hp.h4
    walk_at "go"
    dsimp only
    refine slL_go ha fun f1 H1 e1 hf1 => ?_
    refine ⟨_, rfl, _, rfl, _, rfl, _, rfl, _, rfl, ?_⟩
    dsimp only
    refine slL_go (e1.seq ha) fun f2 H2 e2 hf2 => ?_
    rw [cutV_mid b1 (by rw [ntV_len]; omega)] at hf1
    rw [cutV_mid b3 (by rw [ntV_len]; omega)] at hf2
    have c1 := cut_len (ntV l) g.p g.q
    have c2 := cut_len (ntV l) g.r g.s
    refine cat_go (e2 _ _ hf1) hf2 (by rw [sizeLine_eq]; omega) fun u H3 e3 hu => ?_
    have ein : cut (ntV l) g.p g.q ++ cut (ntV l) g.r g.s = ntV (inner l g) := by
      unfold inner cut ntV
      rw [List.map_append, List.map_drop, List.map_drop, List.map_take, List.map_take]
    have hin : (inner l g).length ≤ 2000 := by
      rw [← ntV_len, ← ein, List.length_append]
      omega
    rw [ein] at hu
    have S3 := (e1.trans e2).trans e3
    walk_at "go"
    refine ⟨⟨_, SqL.of hu⟩, fun D hD => ?_⟩
    have hu1 := (Same.upd_new (o := .lst []) hD) _ _ hu
    refine lc_it walk_list (fun i H' => H' = upd H3 D (.lst ((List.replicate i true).map V.bl))) rfl (fun i H' _ e => by rw [e]; exact SqL.of (Same.upd_new hD _ _ hu)) ?_ ?_
    · rintro i x H4 H5 hi rfl ⟨rfl, hx⟩
      obtain ⟨z, hz, rfl⟩ := ntV_get hx
      rw [ntV_len] at hi
      have hzc := hp.in2 z (List.mem_of_getElem? hz)
      have hu2 := (Same.upd_new (o := .lst ((List.replicate i true).map V.bl)) hD) _ _ hu
      walk_at "go"
      refine ⟨.inl ⟨rfl, _, SqL.of hu2⟩, _, rfl, u, (inner l g).map fun (i : Nat) => (i : Int), (z : Int), rfl, rfl, by rw [← ntV_ints]; exact SqL.of hu2, ?_⟩
      rw [cnt_cast, hzc]
      refine ⟨2, 2, rfl, rfl, _, upd_same, by rw [List.length_map, List.length_replicate, sizeLine_eq]; omega, ?_⟩
      rw [upd_upd, List.replicate_succ', List.map_append]
      rfl
    · rintro H4 rfl
      rw [ntV_len]
      refine ⟨D, List.replicate (inner l g).length true, rfl, SqL.of upd_same, ?_⟩
      rw [show (List.replicate (inner l g).length true).all id = true by simp]
      exact q _ (same_new S3 hD)
end
end Cl

namespace Cl
local macro_rules | `(tactic| walk_at "go") => `(tactic| repeat (first | (refine ⟨_, rfl, ?_⟩) | (refine ⟨_, _, rfl, rfl, ?_⟩) | (refine ⟨_, rfl, rfl, ?_⟩) | (refine ⟨_, _, rfl, ?_⟩) | (refine And.intro (by first | with_reducible rfl | rfl | omega | decide | assumption | (dsimp only; first | omega | decide | assumption)) ?_)))

local macro_rules | `(tactic| walk_at "bag") => `(tactic| repeat (first | (refine ⟨_, _, _, _, rfl, rfl, L2.SqL.of L2.upd_same, (by rfl), ?_⟩) | (refine ⟨_, _, _, _, rfl, rfl, L2.upd_same, (by rfl), ?_⟩) | (refine ⟨_, rfl, ?_⟩) | (refine ⟨_, _, rfl, rfl, ?_⟩) | (refine ⟨_, rfl, rfl, ?_⟩) | (refine ⟨_, _, rfl, ?_⟩) | (refine And.intro (by first | with_reducible rfl | rfl | omega | decide | assumption | (dsimp only; first | omega | decide | assumption)) ?_)))
open PySem L2 Own Ring
section
variable {P : Program} {w : World} {K : PySem.W.Frag} {mg : PySem.Str → Option Value} {base : Heap} {CR CM kd : Addr}
/-! ### _law_step_on -/
def spStep (K : PySem.W.Frag) : Sp := fun vs H Q _ => ∃ (a t : Addr) (l : List Nat) (k : Kd) (g : Gp), vs = [.ref a, .str (kdS k), .ref t] ∧ SqL K H a (ntV l) ∧ SqT K H t (gpV g) ∧ Piece l g ∧ l ≠ [] ∧ l.length ≤ 1000 ∧ ∀ p H', Same H H' → H' p = some (.lst (ntV (least ltN (mv k l g)))) → Q (.ref p) H'
abbrev sc__law_step_on_N : List PySem.Str := ["row", "kind", "gaps", "p", "q", "r", "s"]
theorem sc__law_step_on : FnScope sc__law_step_on_N ["row", "kind", "gaps"] (defScope (topS 57)) := ⟨rfl, rfl, rfl, by decide +kernel, rfl, by decide +kernel, by decide +kernel⟩
theorem ok_step (T : MdK K mg CR CM kd) (D : DefAt K mg "_law_step_on" (topS 57) ["row", "kind", "gaps"]) (D_law_is_piece : Cal P w K mg base 1 "_law_is_piece" (spIsP K)) (D_law_move : Cal P w K mg base 1 "_law_move" (spLMove K)) (D_law_least : Cal P w K mg base 1 "_law_least" (spLL K)) : Cal P w K mg base 2 "_law_step_on" (spStep K) := by
  refine cal_of D sc__law_step_on (fun vs H Q E h => ?_) (fun f cdv A outer s H vs Q E hr h => ?_)
  · obtain ⟨a, t, l, k, g, rfl, _⟩ := h
    rfl
  · obtain ⟨a, t, l, k, g, rfl, ha, ht, hp, h0, hl, q⟩ := h
    refine ⟨_, (pss_cons (ps_asg (pv 2) (pg_tup rfl (pgs_cons (pg_name (i := 3) sc__law_step_on.nd rfl (Or.inl rfl)) (pgs_cons (pg_name (i := 4) sc__law_step_on.nd rfl (Or.inl rfl)) (pgs_cons (pg_name (i := 5) sc__law_step_on.nd rfl (Or.inl rfl)) (pgs_cons (pg_name (i := 6) sc__law_step_on.nd rfl (Or.inl rfl)) pgs_nil))))))
  (pss_cons (ps_if (PW.pt (pw_or (pt_cmpR Own.oc_gt (pv 6) (pe_callB call_len_seq (by rfl) T.len (by decide +kernel) (pa_cons (pv 0) pa_nil)) (nomark _)) (pw_or1 (pt_not (pt_val (Own.pe_c D_law_is_piece hr (by decide) rfl (pa_cons (pv 0) (pa_cons (pv 3) (pa_cons (pv 4) (pa_cons (pv 5) (pa_cons (pv 6) pa_nil)))))))))))
   (pss_one (ps_ret pe_non))
   pss_nil)
  (pss_one (ps_ret (Own.pe_c D_law_least hr (by decide) rfl (pa_cons (Own.pe_c D_law_move hr (by decide) rfl (pa_cons (pv 0) (pa_cons (pv 1) (pa_cons (pv 3) (pa_cons (pv 4) (pa_cons (pv 5) (pa_cons (pv 6) pa_nil))))))) pa_nil)))))), ?_⟩
    have nl := ntV_len l
    have b4 := hp.h4
    walk_at "go"
    refine ⟨t, gpV g, rfl, ht, rfl, ?_⟩
    refine ⟨_, _, rfl, ?_⟩
    refine ⟨_, _, rfl, ?_⟩
    refine ⟨_, _, rfl, ?_⟩
    refine ⟨_, _, rfl, ?_⟩
    refine ⟨rfl, ?_⟩
    walk_at "go"
    refine ⟨a, _, rfl, .inl ha, ?_⟩
    walk_at "go"
    refine iF (decide_eq_false (by omega)) ?_
    walk_at "go"
    refine ⟨a, l, g, rfl, ha, hl, hp, fun H1 e1 => ?_⟩
    refine ⟨true, rfl, iteF ?_⟩
    walk_at "go"
    refine ⟨a, l, k, g, rfl, e1.seq ha, hl, hp.h1, hp.h2, hp.h3, hp.h4, fun p H2 e2 hp2 => ?_⟩
    have pm := mv_perm k hp.h1 hp.h2 hp.h3 hp.h4
    refine ⟨p, _, rfl, SqL.of hp2, fun e => h0 (by have := pm.length_eq; rw [e] at this; exact List.length_eq_zero_iff.mp this.symm), by rw [pm.length_eq]; exact hl, fun p3 H3 e3 hp3 => ?_⟩
    exact q _ _ ((e1.trans e2).trans e3) hp3
/-! ### _law_begin -/
def spBegin (K : PySem.W.Frag) : Sp := fun vs H Q _ => ∃ (a : Addr) (l : List Nat), vs = [.ref a] ∧ SqL K H a (ntV l) ∧ l ≠ [] ∧ l.length ≤ 1000 ∧ ∀ (b : Nat) H', Same H H' → b < l.length → l.drop b ++ l.take b = least ltN l → Q (.int (b : Int)) H'
abbrev sc__law_begin_N : List PySem.Str := ["found", "due", "k"]
theorem sc__law_begin : FnScope sc__law_begin_N ["found"] (defScope (topS 59)) := ⟨rfl, rfl, rfl, by decide +kernel, rfl, by decide +kernel, by decide +kernel⟩
theorem ok_begin (T : MdK K mg CR CM kd) (D : DefAt K mg "_law_begin" (topS 59) ["found"]) (D_law_least : Cal P w K mg base 1 "_law_least" (spLL K)) : Cal P w K mg base 2 "_law_begin" (spBegin K) := by
  refine cal_of D sc__law_begin (fun vs H Q E h => ?_) (fun f cdv A outer s H vs Q E hr h => ?_)
  · obtain ⟨a, l, rfl, _⟩ := h
    rfl
  · obtain ⟨a, l, rfl, ha, h0, hl, q⟩ := h
    refine ⟨_, (pss_cons (ps_set (i := 1) sc__law_begin.nd rfl (Or.inr rfl) (Own.pe_c D_law_least hr (by decide) rfl (pa_cons (pv 0) pa_nil)))
  (pss_one (ps_ret (pe_ix (Own.ixL (K := K) rfl) (pe_lc (own := [("k", 2)]) (g := (gName 2)) rfl sc__law_begin.nd (Own.pi_rangeN rfl T.range (pa_cons (pe_callB call_len_seq (by rfl) T.len (by decide +kernel) (pa_cons (pv 0) pa_nil)) pa_nil)) (blkOk_by (own := [("k", 2)]) (N := sc__law_begin_N) (sc := defScope (topS 59)) (by decide +kernel)) (fun _ _ _ _ _ => (pg_name (i := 2) sc__law_begin.nd rfl (Or.inl rfl))) (fun _ _ _ _ _ => (pts_one (pt_cmpR (Own.eqDK (K := K) rfl hr.units) (pe_op op_cat (pe_slice (Own.slL (K := K) rfl) (pv 0) (po_some (pv 2)) po_none) (pe_slice (Own.slL (K := K) rfl) (pv 0) po_none (po_some (pv 2)))) (pv 1) (nomark _)))) (fun _ _ _ _ _ => (pv 2))) pe_int (fun _ _ => rfl))))), ?_⟩
    walk_at "go"
    refine ⟨a, l, rfl, ha, h0, hl, fun p H1 e1 hp => ?_⟩
    have nl := ntV_len l
    have ha1 := e1.seq ha
    obtain ⟨k0, hk0, ek0⟩ : ∃ k, k < l.length ∧ l.drop k ++ l.take k = least ltN l := by
      rcases least_is lin_N l with ⟨e, _⟩ | ⟨x, _, hc, _⟩
      · exact absurd e h0
      · obtain ⟨k, hk, ek⟩ := List.mem_map.mp hc
        exact ⟨k, List.mem_range.mp (List.mem_filter.mp hk).1, ek⟩
    have hdl : (least ltN l).length = l.length := (least_rt lin_N l).len.symm
    generalize least ltN l = due at q hp ek0 hdl
    walk_at "go"
    refine ⟨a, _, rfl, .inl ha1, l.length, by rw [ntV_len], by omega, fun D hD => ?_⟩
    refine lc_it walk_rangeN (fun i H' => ∃ ks : List Nat, H' D = some (.lst (ntV ks)) ∧ ks.length ≤ i ∧ Same H1 H' ∧ (∀ k ∈ ks, k < l.length ∧ l.drop k ++ l.take k = due) ∧ (k0 < i → k0 ∈ ks)) ⟨[], upd_same, Nat.le_refl _, Same.upd_new hD, fun k h => (by cases h), fun h => absurd h (Nat.not_lt_zero _)⟩ (fun _ _ _ _ => trivial) ?_ ?_
    · rintro i x H2 H3 hi ⟨ks, hks, hlen, S, h1, h2⟩ ⟨rfl, rfl⟩
      have ha2 := S.seq ha1
      refine ⟨rfl, ?_⟩
      refine ⟨_, rfl, _, rfl, _, rfl, ?_⟩
      dsimp only [tNoPart]
      refine slL_go ha2 fun p1 H4 e4 hp1 => ?_
      refine ⟨_, rfl, _, rfl, _, rfl, ?_⟩
      dsimp only
      refine slL_go (e4.seq ha2) fun p2 H5 e5 hp2 => ?_
      rw [cutV_drop, ntV_drop] at hp1
      rw [cutV_take, ntV_take] at hp2
      refine cat_go (e5 _ _ hp1) hp2 (by rw [ntV_len, ntV_len, List.length_drop, List.length_take, sizeLine_eq]; omega) fun p3 H6 e6 hp3 => ?_
      rw [ntV_app] at hp3
      have e26 := (e4.trans e5).trans e6
      have hks6 := e26 _ _ hks
      have hd6 := (S.trans e26) _ _ hp
      have nd : ∀ m : List Nat, Nd 1 (.list (m.map fun (n : Nat) => PyData.int (n : Int))) := fun m => by
        unfold Nd
        exact nd_nats m
      refine ⟨_, rfl, .list ((l.drop i ++ l.take i).map fun (n : Nat) => PyData.int (n : Int)), .list (due.map fun (n : Nat) => PyData.int (n : Int)), .lst (SqL.of hp3) (dpa_nats _), .lst (SqL.of hd6) (dpa_nats _), (nd _).shaped (by decide), (nd _).shaped (by decide), ?_⟩
      have ev : PyData.eqv (.list ((l.drop i ++ l.take i).map fun (n : Nat) => PyData.int (n : Int))) (.list (due.map fun (n : Nat) => PyData.int (n : Int))) = decide (l.drop i ++ l.take i = due) := by
        have z := PySem.W.Datum.eqv ((l.drop i ++ l.take i).map fun (n : Nat) => (n : Int)) (due.map fun (n : Nat) => (n : Int))
        have z1 : ∀ m : List Nat, PySem.W.Datum.toD (m.map fun (n : Nat) => (n : Int)) = PyData.list (m.map fun (n : Nat) => PyData.int (n : Int)) := fun m => by
          show PyData.list ((m.map fun (n : Nat) => (n : Int)).map PyData.int) = _
          rw [List.map_map]
          rfl
        rw [z1, z1] at z
        rw [z]
        exact decide_eq_decide.mpr (List.map_inj_right (f := fun (n : Nat) => (n : Int)) (fun x y h => by have h2 : (x : Int) = (y : Int) := h; omega))
      rw [ev]
      refine ⟨_, rfl, ?_⟩
      refine ite2 (fun hc => ?_) (fun hc => ?_)
      · have hc2 := of_decide_eq_true hc
        refine ⟨_, rfl, _, hks6, by rw [ntV_len, sizeLine_eq]; omega, ks ++ [i], by rw [upd_same, ← ntV_app]; rfl, by rw [List.length_append]; exact Nat.succ_le_succ hlen, fun x o hx => ?_, fun k hk => ?_, fun hk => ?_⟩
        · rw [upd_ne (ne_of_none hx hD)]
          exact e26 _ _ (S _ _ hx)
        · rcases List.mem_append.mp hk with h | h
          · exact h1 k h
          · obtain rfl := List.mem_singleton.mp h
            exact ⟨hi, hc2⟩
        · rcases Nat.lt_or_ge k0 i with g | g
          · exact List.mem_append_left _ (h2 g)
          · have : k0 = i := by omega
            exact List.mem_append_right _ (by simp [this])
      · refine ⟨ks, hks6, Nat.le_succ_of_le hlen, S.trans e26, h1, fun hk => ?_⟩
        rcases Nat.lt_or_ge k0 i with g | g
        · exact h2 g
        · have : k0 = i := by omega
          subst this
          exact absurd (decide_eq_true ek0) hc
    · rintro H2 ⟨ks, hks, hlen, S, h1, h2⟩
      have hk := h2 hk0
      obtain ⟨b, kr, rfl⟩ : ∃ b kr, ks = b :: kr := List.exists_cons_of_ne_nil (fun e => by rw [e] at hk; cases hk)
      obtain ⟨g1, g2⟩ := h1 b List.mem_cons_self
      refine ⟨D, _, 0, .int (b : Int), rfl, rfl, SqL.of hks, atI_nat (j := 0) rfl, ?_⟩
      exact q b H2 (e1.trans S) g1 g2
/-! ### _law_gaps -/
def spGaps (K : PySem.W.Frag) : Sp := fun vs H Q _ => ∃ (s t1 t2 : Addr) (a la b lb : Nat), vs = [.ref s] ∧ H s = some (.lst [.ref t1, .ref t2]) ∧ H t1 = some (.tup [.int (a : Int), .int (la : Int)]) ∧ H t2 = some (.tup [.int (b : Int), .int (lb : Int)]) ∧ a ≠ b ∧ ∀ p H', Same H H' → H' p = some (.tup (gpV (gapsOf a la b lb))) → Q (.ref p) H'
abbrev sc__law_gaps_N : List PySem.Str := ["spots", "one", "other"]
theorem sc__law_gaps : FnScope sc__law_gaps_N ["spots"] (defScope (topS 61)) := ⟨rfl, rfl, rfl, by decide +kernel, rfl, by decide +kernel, by decide +kernel⟩
theorem ok_gaps (T : MdK K mg CR CM kd) (D : DefAt K mg "_law_gaps" (topS 61) ["spots"]) : Cal P w K mg base 1 "_law_gaps" (spGaps K) := by
  refine cal_of D sc__law_gaps (fun vs H Q E h => ?_) (fun f cdv A outer s H vs Q E hr h => ?_)
  · obtain ⟨s, t1, t2, a, la, b, lb, rfl, _⟩ := h
    rfl
  · obtain ⟨sp, t1, t2, a, la, b, lb, rfl, hs, h1, h2, hne, q⟩ := h
    refine ⟨_, (pss_cons (ps_asg (pe_callB (Own.sortedPO (K := K) rfl) (by rfl) T.sorted (by decide +kernel) (pa_cons (pv 0) pa_nil)) (pg_unl rfl (pgs_cons (pg_name (i := 1) sc__law_gaps.nd rfl (Or.inl rfl)) (pgs_cons (pg_name (i := 2) sc__law_gaps.nd rfl (Or.inl rfl)) pgs_nil))))
  (pss_one (ps_ret (pe_tup (pa_cons (pe_ix (Own.ixT (K := K) rfl) (pv 1) pe_int (fun _ _ => rfl)) (pa_cons (pe_op Own.on_add (pe_ix (Own.ixT (K := K) rfl) (pv 1) pe_int (fun _ _ => rfl)) (pe_ix (Own.ixT (K := K) rfl) (pv 1) pe_int (fun _ _ => rfl))) (pa_cons (pe_ix (Own.ixT (K := K) rfl) (pv 2) pe_int (fun _ _ => rfl)) (pa_cons (pe_op Own.on_add (pe_ix (Own.ixT (K := K) rfl) (pv 2) pe_int (fun _ _ => rfl)) (pe_ix (Own.ixT (K := K) rfl) (pv 2) pe_int (fun _ _ => rfl))) pa_nil)))))))), ?_⟩
    have h12 : t1 ≠ t2 := fun z => by
      rw [z, h2] at h1
      have e1 := HO.tup.inj (Option.some.inj h1)
      have e2 := V.int.inj (List.cons.inj e1).1
      exact hne (by omega)
    walk_at "go"
    refine ⟨sp, [.ref t1, .ref t2], fun v => if v = .ref t1 then ((a : Int), (la : Int)) else ((b : Int), (lb : Int)), rfl, SqL.of hs, fun x hx => ?_, fun ys p hsd hsb hp => ?_⟩
    · rcases List.mem_cons.mp hx with rfl | hx
      · exact ⟨t1, rfl, by simpa using h1⟩
      · obtain rfl := List.mem_singleton.mp hx
        exact ⟨t2, rfl, by simpa [h12.symm] using h2⟩
    · have e0 : Same H (upd H p (.lst ys)) := Same.upd_new hp
      have hp0 : upd H p (.lst ys) p = some (.lst ys) := upd_same
      generalize upd H p (.lst ys) = H1 at e0 hp0
      have k1 := e0 _ _ h1
      have k2 := e0 _ _ h2
      have hy : (a < b ∧ ys = [.ref t1, .ref t2]) ∨ (b < a ∧ ys = [.ref t2, .ref t1]) := by
        have pm := hsb.perm
        have ll := pm.length_eq
        match ys, ll, pm, hsd with
        | [x, y], _, pm, hsd =>
          have hlt := (List.pairwise_cons.mp hsd).1 y List.mem_cons_self
          have hx : x = .ref t1 ∨ x = .ref t2 := by
            have := pm.mem_iff.mp (List.mem_cons_self (a := x))
            simpa using this
          rcases hx with rfl | rfl
          · have e := List.singleton_perm_singleton.mp pm.cons_inv
            subst e
            have h3 := SrtO.lexB_no.mp hlt
            refine .inl ⟨?_, rfl⟩
            simp [h12.symm] at h3
            omega
          · have e := List.singleton_perm_singleton.mp ((pm.trans (List.Perm.swap _ _ _)).cons_inv)
            subst e
            have h3 := SrtO.lexB_no.mp hlt
            refine .inr ⟨?_, rfl⟩
            simp [h12.symm] at h3
            omega
      rcases hy with ⟨hab, rfl⟩ | ⟨hab, rfl⟩
      · refine ⟨p, _, rfl, SqL.of hp0, rfl, ?_⟩
        refine ⟨_, _, rfl, ?_⟩
        refine ⟨_, _, rfl, ?_⟩
        refine ⟨rfl, ?_⟩
        refine ⟨_, rfl, t1, _, 0, .int (a : Int), rfl, rfl, SqT.of k1, atI_nat (j := 0) rfl, ?_⟩
        refine ⟨_, rfl, t1, _, 0, .int (a : Int), rfl, rfl, SqT.of k1, atI_nat (j := 0) rfl, _, rfl, t1, _, 1, .int (la : Int), rfl, rfl, SqT.of k1, atI_nat (j := 1) rfl, a, la, rfl, rfl, ?_⟩
        refine ⟨_, rfl, t2, _, 0, .int (b : Int), rfl, rfl, SqT.of k2, atI_nat (j := 0) rfl, ?_⟩
        refine ⟨_, rfl, t2, _, 0, .int (b : Int), rfl, rfl, SqT.of k2, atI_nat (j := 0) rfl, _, rfl, t2, _, 1, .int (lb : Int), rfl, rfl, SqT.of k2, atI_nat (j := 1) rfl, b, lb, rfl, rfl, ?_⟩
        refine ⟨by show 4 ≤ sizeLine; decide, fun r hr => ?_⟩
        exact q r _ (same_new e0 hr) (by rw [upd_same, gaps_lo hab]; rfl)
      · refine ⟨p, _, rfl, SqL.of hp0, rfl, ?_⟩
        refine ⟨_, _, rfl, ?_⟩
        refine ⟨_, _, rfl, ?_⟩
        refine ⟨rfl, ?_⟩
        refine ⟨_, rfl, t2, _, 0, .int (b : Int), rfl, rfl, SqT.of k2, atI_nat (j := 0) rfl, ?_⟩
        refine ⟨_, rfl, t2, _, 0, .int (b : Int), rfl, rfl, SqT.of k2, atI_nat (j := 0) rfl, _, rfl, t2, _, 1, .int (lb : Int), rfl, rfl, SqT.of k2, atI_nat (j := 1) rfl, b, lb, rfl, rfl, ?_⟩
        refine ⟨_, rfl, t1, _, 0, .int (a : Int), rfl, rfl, SqT.of k1, atI_nat (j := 0) rfl, ?_⟩
        refine ⟨_, rfl, t1, _, 0, .int (a : Int), rfl, rfl, SqT.of k1, atI_nat (j := 0) rfl, _, rfl, t1, _, 1, .int (la : Int), rfl, rfl, SqT.of k1, atI_nat (j := 1) rfl, a, la, rfl, rfl, ?_⟩
        refine ⟨by show 4 ≤ sizeLine; decide, fun r hr => ?_⟩
        exact q r _ (same_new e0 hr) (by rw [upd_same, gaps_hi hab]; rfl)
end
end Cl

namespace Cl
local macro_rules | `(tactic| walk_at "go") => `(tactic| repeat (first | (refine ⟨_, rfl, ?_⟩) | (refine ⟨_, _, rfl, rfl, ?_⟩) | (refine ⟨_, rfl, rfl, ?_⟩) | (refine ⟨_, _, rfl, ?_⟩) | (refine And.intro (by first | with_reducible rfl | rfl | omega | decide | assumption | (dsimp only; first | omega | decide | assumption)) ?_)))

local macro_rules | `(tactic| walk_at "bag") => `(tactic| repeat (first | (refine ⟨_, _, _, _, rfl, rfl, L2.SqL.of L2.upd_same, (by rfl), ?_⟩) | (refine ⟨_, _, _, _, rfl, rfl, L2.upd_same, (by rfl), ?_⟩) | (refine ⟨_, rfl, ?_⟩) | (refine ⟨_, _, rfl, rfl, ?_⟩) | (refine ⟨_, rfl, rfl, ?_⟩) | (refine ⟨_, _, rfl, ?_⟩) | (refine And.intro (by first | with_reducible rfl | rfl | omega | decide | assumption | (dsimp only; first | omega | decide | assumption)) ?_)))
open PySem L2 Own Ring
section
variable {P : Program} {w : World} {K : PySem.W.Frag} {mg : PySem.Str → Option Value} {base : Heap} {CR CM kd : Addr}
/-! ### _law_again -/
theorem md {x b n : Nat} (hb : b ≤ n) (hx : x < n ∨ (x = n ∧ 0 < b)) : (x + n - b) % n = if b ≤ x then x - b else x + n - b := by
  by_cases h : b ≤ x
  · rw [if_pos h, mod_hi (by omega) (by omega)]
    omega
  · rw [if_neg h, mod_lo (by omega)]
theorem mdI {x b n r : Nat} (hb : b ≤ n) (h : (r : Int) = ((x : Int) - (b : Int)) % (n : Int)) : r = (x + n - b) % n := by
  have e : (((x + n - b : Nat) : Int)) = ((x : Int) - (b : Int)) + (n : Int) := by omega
  have e2 : (((x + n - b) % n : Nat) : Int) = ((x : Int) - (b : Int)) % (n : Int) := by
    rw [Int.natCast_emod, e, Int.add_emod_right]
  omega
/-- again, by the two lengths -/
def againM (k : Kd) (p one other s size b : Nat) : List (Kd × Gp) :=
  let s1 := (p + size - b) % size
  let s2 := (s - other + size - b) % size
  if s1 + one ≤ size ∧ s2 + other ≤ size then [(k, gapsOf s1 one s2 other)]
  else
    let rest := gapsOf ((p + one + size - b) % size) (s - other - p - one) ((s + size - b) % size) (size - s + p)
    if k = .swap then [(.swap, rest)] else [(if k = .flip then .both else .flip, rest), (.flip, ⟨0, size, size, size⟩)]
theorem again_ne {p one other s n b : Nat} (h1 : p + one ≤ s - other) (h2 : other ≤ s) (h3 : s ≤ n) (o0 : 0 < one) (t0 : 0 < other) (hb : b < n) : (p + n - b) % n ≠ (s - other + n - b) % n := by
  rw [md (by omega) (.inl (by omega)), md (by omega) (.inl (by omega))]
  split <;> split <;> omega
theorem rest_pos {p one other s n b : Nat} (h1 : p + one ≤ s - other) (h2 : other ≤ s) (h3 : s ≤ n) (o0 : 0 < one) (t0 : 0 < other) (hb : b < n) (h : ¬ ((p + n - b) % n + one ≤ n ∧ (s - other + n - b) % n + other ≤ n)) : (p < b ∧ b < p + one) ∨ (s - other < b ∧ b < s) := by
  rw [md (by omega) (.inl (by omega)), md (by omega) (.inl (by omega))] at h
  split at h <;> split at h <;> omega
theorem rest_ne {p one other s n b : Nat} (h1 : p + one ≤ s - other) (h2 : other ≤ s) (h3 : s ≤ n) (o0 : 0 < one) (t0 : 0 < other) (hb : b < n) (h : (p < b ∧ b < p + one) ∨ (s - other < b ∧ b < s)) : (p + one + n - b) % n ≠ (s + n - b) % n := by
  rw [md (by omega) (.inl (by omega)), md (by omega) (by omega)]
  split <;> split <;> omega
def StL (K : PySem.W.Frag) (H : Hp) (vs : List V) (S : List (Kd × Gp)) : Prop := vs.length = S.length ∧ ∀ (j : Nat) (k : Kd) (g : Gp), S[j]? = some (k, g) → ∃ u t : Addr, vs[j]? = some (V.ref u) ∧ SqT K H u [.str (kdS k), .ref t] ∧ SqT K H t (gpV g)
def StepsAt (K : PySem.W.Frag) (H : Hp) (p : Addr) (S : List (Kd × Gp)) : Prop := ∃ vs, H p = some (.lst vs) ∧ StL K H vs S
theorem StL.same {H H' : Hp} {vs : List V} {S : List (Kd × Gp)} (h : StL K H vs S) (e : Same H H') : StL K H' vs S := ⟨h.1, fun j k g hj => let ⟨u, t, a, b, c⟩ := h.2 j k g hj; ⟨u, t, a, Own.Same.tupq e b, Own.Same.tupq e c⟩⟩
theorem StepsAt.same {H H' : Hp} {p : Addr} {S : List (Kd × Gp)} (h : StepsAt K H p S) (e : Same H H') : StepsAt K H' p S := by
  obtain ⟨vs, h1, h2⟩ := h
  exact ⟨vs, e _ _ h1, h2.same e⟩
theorem kd_flip (f : Kd) : decide (kdS f = ("flip" : PySem.Str)) = decide (f = .flip) := by cases f <;> decide +kernel
theorem kd_swap (f : Kd) : decide (kdS f = ("swap" : PySem.Str)) = decide (f = .swap) := by cases f <;> decide +kernel
def spAgain (K : PySem.W.Frag) : Sp := fun vs H Q _ => ∃ (a t : Addr) (l : List Nat) (f k : Kd) (g : Gp), vs = [.ref a, .str (kdS f), .str (kdS k), .ref t] ∧ SqL K H a (ntV l) ∧ SqT K H t (gpV g) ∧ Piece l g ∧ g.p < g.q ∧ g.r < g.s ∧ l.length ≤ 1000 ∧
  ∀ (p : Addr) (b : Nat) H', Same H H' → b < l.length → (mv f l g).drop b ++ (mv f l g).take b = least ltN (mv f l g) → StepsAt K H' p (again f k g l.length b) → Q (.ref p) H'
abbrev sc__law_again_N : List PySem.Str := ["row", "first", "kind", "gaps", "p", "q", "r", "s", "size", "one", "other", "begin", "spots", "start", "length", "rest"]
theorem sc__law_again : FnScope sc__law_again_N ["row", "first", "kind", "gaps"] (defScope (topS 60)) := ⟨rfl, rfl, rfl, by decide +kernel, rfl, by decide +kernel, by decide +kernel⟩
theorem ok_again (T : MdK K mg CR CM kd) (D : DefAt K mg "_law_again" (topS 60) ["row", "first", "kind", "gaps"]) (D_law_begin : Cal P w K mg base 2 "_law_begin" (spBegin K)) (D_law_move : Cal P w K mg base 1 "_law_move" (spLMove K)) (D_law_gaps : Cal P w K mg base 1 "_law_gaps" (spGaps K)) : Cal P w K mg base 3 "_law_again" (spAgain K) := by
  refine cal_of D sc__law_again (fun vs H Q E h => ?_) (fun f cdv A outer s H vs Q E hr h => ?_)
  · obtain ⟨a, t, l, f, k, g, rfl, _⟩ := h
    rfl
  · obtain ⟨a, t, l, f, k, g, rfl, ha, ht, hp, h1, h2, hl, q⟩ := h
    refine ⟨_, (pss_cons (ps_asg (pv 3) (pg_tup rfl (pgs_cons (pg_name (i := 4) sc__law_again.nd rfl (Or.inl rfl)) (pgs_cons (pg_name (i := 5) sc__law_again.nd rfl (Or.inl rfl)) (pgs_cons (pg_name (i := 6) sc__law_again.nd rfl (Or.inl rfl)) (pgs_cons (pg_name (i := 7) sc__law_again.nd rfl (Or.inl rfl)) pgs_nil))))))
  (pss_cons (ps_set (i := 8) sc__law_again.nd rfl (Or.inr rfl) (pe_callB call_len_seq (by rfl) T.len (by decide +kernel) (pa_cons (pv 0) pa_nil)))
  (pss_cons (ps_par (i := 9) (j := 10) rfl sc__law_again.nd rfl rfl (by decide) rfl rfl (pa_cons (pe_op Own.on_sub (pv 5) (pv 4)) (pa_cons (pe_op Own.on_sub (pv 7) (pv 6)) pa_nil)) rfl)
  (pss_cons (ps_if (pt_cmpR Own.os_ne (pv 1) pe_str (nomark _))
   (pss_one (ps_par (i := 9) (j := 10) rfl sc__law_again.nd rfl rfl (by decide) rfl rfl (pa_cons (pv 10) (pa_cons (pv 9) pa_nil)) rfl))
   pss_nil)
  (pss_cons (ps_set (i := 11) sc__law_again.nd rfl (Or.inl rfl) (Own.pe_c D_law_begin hr (by decide) rfl (pa_cons (Own.pe_c D_law_move hr (by decide) rfl (pa_cons (pv 0) (pa_cons (pv 1) (pa_cons (pv 4) (pa_cons (pv 5) (pa_cons (pv 6) (pa_cons (pv 7) pa_nil))))))) pa_nil)))
  (pss_cons (ps_set (i := 12) sc__law_again.nd rfl (Or.inl rfl) (pe_lst (pa_cons (pe_tup (pa_cons (pe_op Own.on_modI (pe_callTy Own.intI (by rfl) T.int (by decide +kernel) (pa_cons (pe_op op_sub (pv 4) (pv 11)) pa_nil)) (pv 8)) (pa_cons (pv 9) pa_nil))) (pa_cons (pe_tup (pa_cons (pe_op Own.on_modI (pe_callTy Own.intI (by rfl) T.int (by decide +kernel) (pa_cons (pe_op op_sub (pe_op Own.on_sub (pv 7) (pv 10)) (pv 11)) pa_nil)) (pv 8)) (pa_cons (pv 10) pa_nil))) pa_nil))))
  (pss_cons (ps_if (pt_val (pe_callB (cr_all rfl) (by rfl) T.all (by decide +kernel) (pa_cons (pe_lc (own := [("start", 13), ("length", 14)]) (g := (gTup K 2 (gCons (gName 13) (gCons (gName 14) gNil)))) rfl sc__law_again.nd (Own.pi_listK (K := K) rfl (pv 12)) (blkOk_by (own := [("start", 13), ("length", 14)]) (N := sc__law_again_N) (sc := defScope (topS 60)) (by decide +kernel)) (fun _ _ _ _ _ => (pg_tup rfl (pgs_cons (pg_name (i := 13) sc__law_again.nd rfl (Or.inl rfl)) (pgs_cons (pg_name (i := 14) sc__law_again.nd rfl (Or.inl rfl)) pgs_nil)))) (fun _ _ _ _ _ => pts_nil) (fun _ _ _ _ _ => (pe_cmpR Own.oc_le (pe_op Own.on_add (pv 13) (pv 14)) (pv 8) (nomark _)))) pa_nil)))
   (pss_one (ps_ret (pe_lst (pa_cons (pe_tup (pa_cons (pv 2) (pa_cons (Own.pe_c D_law_gaps hr (by decide) rfl (pa_cons (pv 12) pa_nil)) pa_nil))) pa_nil))))
   pss_nil)
  (pss_cons (ps_set (i := 15) sc__law_again.nd rfl (Or.inl rfl) (pe_lst (pa_cons (pe_tup (pa_cons (pe_op Own.on_modI (pe_callTy Own.intI (by rfl) T.int (by decide +kernel) (pa_cons (pe_op op_sub (pe_op Own.on_add (pv 4) (pv 9)) (pv 11)) pa_nil)) (pv 8)) (pa_cons (pe_op Own.on_sub (pe_op Own.on_sub (pe_op Own.on_sub (pv 7) (pv 10)) (pv 4)) (pv 9)) pa_nil))) (pa_cons (pe_tup (pa_cons (pe_op Own.on_modI (pe_callTy Own.intI (by rfl) T.int (by decide +kernel) (pa_cons (pe_op op_sub (pv 7) (pv 11)) pa_nil)) (pv 8)) (pa_cons (pe_op Own.on_add (pe_op Own.on_sub (pv 8) (pv 7)) (pv 4)) pa_nil))) pa_nil))))
  (pss_cons (ps_if (pt_cmpR Own.os_eq (pv 2) pe_str (nomark _))
   (pss_one (ps_ret (pe_lst (pa_cons (pe_tup (pa_cons pe_str (pa_cons (Own.pe_c D_law_gaps hr (by decide) rfl (pa_cons (pv 15) pa_nil)) pa_nil))) pa_nil))))
   pss_nil)
  (pss_one (ps_ret (pe_lst (pa_cons (pe_tup (pa_cons (pe_ifExp (pt_cmpR Own.os_eq (pv 2) pe_str (nomark _)) pe_str pe_str) (pa_cons (Own.pe_c D_law_gaps hr (by decide) rfl (pa_cons (pv 15) pa_nil)) pa_nil))) (pa_cons (pe_tup (pa_cons pe_str (pa_cons (pe_tup (pa_cons pe_int (pa_cons (pv 8) (pa_cons (pv 8) (pa_cons (pv 8) pa_nil))))) pa_nil))) pa_nil)))))))))))))), ?_⟩
    have nl := ntV_len l
    have b1 := hp.h1
    have b2 := hp.h2
    have b3 := hp.h3
    have b4 := hp.h4
    walk_at "go"
    refine ⟨t, gpV g, rfl, ht, rfl, ?_⟩
    refine ⟨_, _, rfl, ?_⟩
    refine ⟨_, _, rfl, ?_⟩
    refine ⟨_, _, rfl, ?_⟩
    refine ⟨_, _, rfl, ?_⟩
    refine ⟨rfl, ?_⟩
    walk_at "go"
    refine ⟨a, _, rfl, .inl ha, ?_⟩
    rw [nl]
    refine seq2_rest (R := fun σ' H' => H' = H ∧ σ' = [some (.ref a), some (.str (kdS f)), some (.str (kdS k)), some (.ref t), some (.int (g.p : Int)), some (.int (g.q : Int)), some (.int (g.r : Int)), some (.int (g.s : Int)), some (.int (l.length : Int)),
      some (.int ((g.q - g.p : Nat) : Int)), some (.int ((g.s - g.r : Nat) : Int)), none, none, none, none, none]) (fun N rest => ?_) ?_
    · walk_at "go"
      exact rest _ _ ⟨rfl, rfl⟩
    · rintro σ' H' ⟨rfl, rfl⟩
      have oe : (if f = .flip then g.q - g.p else g.s - g.r) + (if f = .flip then g.s - g.r else g.q - g.p) = (g.q - g.p) + (g.s - g.r) := by split <;> omega
      have o0 : 0 < (if f = .flip then g.q - g.p else g.s - g.r) := by split <;> omega
      have t0 : 0 < (if f = .flip then g.s - g.r else g.q - g.p) := by split <;> omega
      refine seq1_rest (R := fun σ' H2 => H2 = H' ∧ σ' = [some (.ref a), some (.str (kdS f)), some (.str (kdS k)), some (.ref t), some (.int (g.p : Int)), some (.int (g.q : Int)), some (.int (g.r : Int)), some (.int (g.s : Int)), some (.int (l.length : Int)),
        some (.int ((if f = .flip then g.q - g.p else g.s - g.r : Nat) : Int)), some (.int ((if f = .flip then g.s - g.r else g.q - g.p : Nat) : Int)), none, none, none, none, none]) (fun N rest => ?_) ?_
      · cases f with
        | swap =>
          walk_at "go"
          exact rest _ _ ⟨rfl, rfl⟩
        | flip =>
          walk_at "go"
          exact rest _ _ ⟨rfl, rfl⟩
        | both =>
          walk_at "go"
          exact rest _ _ ⟨rfl, rfl⟩
      · have ea : ∀ b, again f k g l.length b = againM k g.p (if f = .flip then g.q - g.p else g.s - g.r) (if f = .flip then g.s - g.r else g.q - g.p) g.s l.length b := fun b => rfl
        generalize (if f = .flip then g.q - g.p else g.s - g.r) = one at oe o0 ea
        generalize (if f = .flip then g.s - g.r else g.q - g.p) = other at oe t0 ea
        rintro σ' H' ⟨rfl, rfl⟩
        walk_at "go"
        refine ⟨a, l, f, g, rfl, ha, hl, b1, b2, b3, b4, fun pM H1 e1 hM => ?_⟩
        have pm := mv_perm f b1 b2 b3 b4
        have hMl := pm.length_eq
        refine ⟨pM, _, rfl, SqL.of hM, fun e => (by rw [e] at hMl; simp at hMl; omega), by rw [hMl]; exact hl, fun b H2 e2 hb hbe => ?_⟩
        rw [hMl] at hb
        have q2 := fun (p : Addr) H' e => q p b H' e hb hbe
        simp only [ea] at q2
        have S2 := e1.trans e2
        clear q hbe e1 e2 hM ea
        walk_at "go"
        intro s1 _ es1
        have hs1 := mdI (by omega) es1
        walk_at "go"
        refine ⟨by show 2 ≤ sizeLine; decide, fun u1 n1 => ?_⟩
        walk_at "go"
        intro s2 _ es2
        have hs2 := mdI (by omega) es2
        walk_at "go"
        refine ⟨by show 2 ≤ sizeLine; decide, fun u2 n2 => ?_⟩
        walk_at "go"
        refine ⟨by show 2 ≤ sizeLine; decide, fun sp n3 => ?_⟩
        generalize hK1 : upd H2 u1 (.tup [.int (s1 : Int), .int (one : Int)]) = K1 at n2 n3
        have k1 : K1 u1 = some (.tup [.int (s1 : Int), .int (one : Int)]) := by rw [← hK1]; exact upd_same
        have S3 : Same H' K1 := by rw [← hK1]; exact same_new S2 n1
        generalize hK2 : upd K1 u2 (.tup [.int (s2 : Int), .int (other : Int)]) = K2 at n3
        have k2 : K2 u2 = some (.tup [.int (s2 : Int), .int (other : Int)]) := by rw [← hK2]; exact upd_same
        have k1b : K2 u1 = some (.tup [.int (s1 : Int), .int (one : Int)]) := by rw [← hK2]; exact (Same.upd_new n2) _ _ k1
        have S4 : Same H' K2 := by rw [← hK2]; exact same_new S3 n2
        have hq1 : upd K2 sp (.lst [.ref u1, .ref u2]) sp = some (.lst [.ref u1, .ref u2]) := upd_same
        have hu1 : upd K2 sp (.lst [.ref u1, .ref u2]) u1 = some (.tup [.int (s1 : Int), .int (one : Int)]) := (Same.upd_new n3) _ _ k1b
        have hu2 : upd K2 sp (.lst [.ref u1, .ref u2]) u2 = some (.tup [.int (s2 : Int), .int (other : Int)]) := (Same.upd_new n3) _ _ k2
        have S5 : Same H' (upd K2 sp (.lst [.ref u1, .ref u2])) := same_new S4 n3
        generalize upd K2 sp (.lst [.ref u1, .ref u2]) = H5 at hq1 hu1 hu2 S5
        clear k1 k2 k1b hK1 hK2 S3 S4 n1 n2 n3
        walk_at "go"
        refine ⟨⟨_, SqL.of hq1⟩, fun D hD => ?_⟩
        refine lc_it walk_list (fun i H' => ∃ bs : List Bool, H' D = some (.lst (bs.map V.bl)) ∧ bs = [decide (s1 + one ≤ l.length), decide (s2 + other ≤ l.length)].take i ∧ Same H5 H') ⟨[], upd_same, rfl, Same.upd_new hD⟩ (fun i H' _ ⟨_, _, _, S⟩ => SqL.of (S _ _ hq1)) ?_ ?_
        · rintro i x H6 H7 hi ⟨bs, hbs, rfl, S6⟩ ⟨rfl, hx⟩
          have v1 := S6 _ _ hu1
          have v2 := S6 _ _ hu2
          match i, hx with
          | 0, hx =>
            obtain rfl : V.ref u1 = x := Option.some.inj hx
            refine ⟨u1, _, rfl, SqT.of v1, rfl, ?_⟩
            walk_at "go"
            refine ⟨_, hbs, by rw [sizeLine_eq]; simp, [decide (s1 + one ≤ l.length)], by rw [upd_same]; rfl, rfl, fun y o hy => ?_⟩
            rw [upd_ne (ne_of_none hy hD)]
            exact S6 y o hy
          | 1, hx =>
            obtain rfl : V.ref u2 = x := Option.some.inj hx
            refine ⟨u2, _, rfl, SqT.of v2, rfl, ?_⟩
            walk_at "go"
            refine ⟨_, hbs, by rw [sizeLine_eq]; simp, [decide (s1 + one ≤ l.length), decide (s2 + other ≤ l.length)], by rw [upd_same]; rfl, rfl, fun y o hy => ?_⟩
            rw [upd_ne (ne_of_none hy hD)]
            exact S6 y o hy
          | i + 2, hx => simp at hx
        · rintro H6 ⟨bs, hbs, rfl, S6⟩
          have S7 := S5.trans S6
          refine ⟨D, _, rfl, SqL.of hbs, _, rfl, ?_⟩
          have w0 := S6 _ _ hq1
          have w1 := S6 _ _ hu1
          have w2 := S6 _ _ hu2
          have lo : g.p + one ≤ g.s - other := by omega
          have lo2 : other ≤ g.s := by omega
          by_cases hok : s1 + one ≤ l.length ∧ s2 + other ≤ l.length
          · refine iT (by simp [hok.1, hok.2]) ?_
            walk_at "go"
            refine ⟨sp, u1, u2, s1, one, s2, other, rfl, w0, w1, w2, by rw [hs1, hs2]; exact again_ne lo lo2 b4 o0 t0 hb, fun pg H8 e8 hpg => ?_⟩
            refine ⟨by show 2 ≤ sizeLine; decide, fun u nu => ?_⟩
            refine ⟨by show 1 ≤ sizeLine; decide, fun r nr => ?_⟩
            have hpg2 := ((Same.upd_new (o := .tup [.str (kdS k), .ref pg]) nu).trans (Same.upd_new (o := .lst [.ref u]) nr)) _ _ hpg
            have hu8 := (Same.upd_new (o := .lst [.ref u]) nr) _ _ (upd_same (H := H8) (a := u) (o := .tup [.str (kdS k), .ref pg]))
            refine q2 r _ (same_new (same_new (S7.trans e8) nu) nr) ?_
            unfold againM
            rw [← hs1, ← hs2, if_pos hok]
            refine ⟨[.ref u], upd_same, rfl, fun j k' g' hj => ?_⟩
            match j, hj with
            | 0, hj =>
              cases hj
              exact ⟨u, pg, rfl, SqT.of hu8, SqT.of hpg2⟩
            | j + 1, hj => simp at hj
          · refine iF ?_ ?_
            · have : decide (s1 + one ≤ l.length) = false ∨ decide (s2 + other ≤ l.length) = false := by
                by_cases g1 : s1 + one ≤ l.length
                · exact .inr (decide_eq_false fun g2 => hok ⟨g1, g2⟩)
                · exact .inl (decide_eq_false g1)
              rcases this with z | z <;> simp [z]
            · have hpos := rest_pos lo lo2 b4 o0 t0 hb (by rw [← hs1, ← hs2]; exact hok)
              have hrn := rest_ne lo lo2 b4 o0 t0 hb hpos
              have eag : againM k g.p one other g.s l.length b = (if k = .swap then [(.swap, gapsOf ((g.p + one + l.length - b) % l.length) (g.s - other - g.p - one) ((g.s + l.length - b) % l.length) (l.length - g.s + g.p))] else [(if k = .flip then .both else .flip, gapsOf ((g.p + one + l.length - b) % l.length) (g.s - other - g.p - one) ((g.s + l.length - b) % l.length) (l.length - g.s + g.p)), (.flip, ⟨0, l.length, l.length, l.length⟩)]) := by
                unfold againM
                rw [← hs1, ← hs2, if_neg hok]
              clear hok w0 w1 w2 hbs
              walk_at "go"
              intro t1 _ et1
              have ht1 := mdI (x := g.p + one) (by omega) et1
              walk_at "go"
              refine ⟨by show 2 ≤ sizeLine; decide, fun v1 m1 => ?_⟩
              walk_at "go"
              intro t2 _ et2
              have ht2 := mdI (x := g.s) (by omega) et2
              walk_at "go"
              refine ⟨by show 2 ≤ sizeLine; decide, fun v2 m2 => ?_⟩
              walk_at "go"
              refine ⟨by show 2 ≤ sizeLine; decide, fun rs m3 => ?_⟩
              generalize hK1 : upd H6 v1 (.tup [.int (t1 : Int), .int ((g.s - other - g.p - one : Nat) : Int)]) = K1 at m2 m3
              have k1 : K1 v1 = some (.tup [.int (t1 : Int), .int ((g.s - other - g.p - one : Nat) : Int)]) := by rw [← hK1]; exact upd_same
              have S8 : Same H' K1 := by rw [← hK1]; exact same_new S7 m1
              generalize hK2 : upd K1 v2 (.tup [.int (t2 : Int), .int ((l.length - g.s + g.p : Nat) : Int)]) = K2 at m3
              have k2 : K2 v2 = some (.tup [.int (t2 : Int), .int ((l.length - g.s + g.p : Nat) : Int)]) := by rw [← hK2]; exact upd_same
              have k1b : K2 v1 = some (.tup [.int (t1 : Int), .int ((g.s - other - g.p - one : Nat) : Int)]) := by rw [← hK2]; exact (Same.upd_new m2) _ _ k1
              have S9 : Same H' K2 := by rw [← hK2]; exact same_new S8 m2
              have w0 : upd K2 rs (.lst [.ref v1, .ref v2]) rs = some (.lst [.ref v1, .ref v2]) := upd_same
              have w1 : upd K2 rs (.lst [.ref v1, .ref v2]) v1 = some (.tup [.int (t1 : Int), .int ((g.s - other - g.p - one : Nat) : Int)]) := (Same.upd_new m3) _ _ k1b
              have w2 : upd K2 rs (.lst [.ref v1, .ref v2]) v2 = some (.tup [.int (t2 : Int), .int ((l.length - g.s + g.p : Nat) : Int)]) := (Same.upd_new m3) _ _ k2
              have S10 : Same H' (upd K2 rs (.lst [.ref v1, .ref v2])) := same_new S9 m3
              generalize upd K2 rs (.lst [.ref v1, .ref v2]) = K3 at w0 w1 w2 S10
              clear k1 k2 k1b hK1 hK2 S8 S9 m1 m2 m3
              rw [← ht1, ← ht2] at hrn eag
              cases k with
              | swap =>
                walk_at "go"
                refine ⟨rs, v1, v2, _, _, _, _, rfl, w0, w1, w2, hrn, fun pg H8 e8 hpg => ?_⟩
                refine ⟨by show 2 ≤ sizeLine; decide, fun u nu => ?_⟩
                refine ⟨by show 1 ≤ sizeLine; decide, fun r nr => ?_⟩
                have hpg2 := ((Same.upd_new (o := .tup [.str (kdS .swap), .ref pg]) nu).trans (Same.upd_new (o := .lst [.ref u]) nr)) _ _ hpg
                have hu8 := (Same.upd_new (o := .lst [.ref u]) nr) _ _ (upd_same (H := H8) (a := u) (o := .tup [.str (kdS .swap), .ref pg]))
                refine q2 r _ (same_new (same_new (S10.trans e8) nu) nr) ?_
                rw [eag, if_pos rfl]
                refine ⟨[.ref u], upd_same, rfl, fun j k' g' hj => ?_⟩
                match j, hj with
                | 0, hj =>
                  cases hj
                  exact ⟨u, pg, rfl, SqT.of hu8, SqT.of hpg2⟩
                | j + 1, hj => simp at hj
              | flip =>
                walk_at "go"
                refine ⟨rs, v1, v2, _, _, _, _, rfl, w0, w1, w2, hrn, fun pg H8 e8 hpg => ?_⟩
                refine ⟨by show 2 ≤ sizeLine; decide, fun u nu => ?_⟩
                walk_at "go"
                refine ⟨by show 4 ≤ sizeLine; decide, fun z nz => ?_⟩
                refine ⟨by show 2 ≤ sizeLine; decide, fun u2 nu2 => ?_⟩
                refine ⟨by show 2 ≤ sizeLine; decide, fun r nr => ?_⟩
                generalize hL1 : upd H8 u (.tup [.str "both", .ref pg]) = L1 at nz nu2 nr
                have x1 : L1 u = some (.tup [.str "both", .ref pg]) := by rw [← hL1]; exact upd_same
                have x0 : L1 pg = some (.tup (gpV (gapsOf t1 (g.s - other - g.p - one) t2 (l.length - g.s + g.p)))) := by rw [← hL1]; exact (Same.upd_new nu) _ _ hpg
                have X1 : Same H' L1 := by rw [← hL1]; exact same_new (S10.trans e8) nu
                generalize hL2 : upd L1 z (.tup [.int 0, .int (l.length : Int), .int (l.length : Int), .int (l.length : Int)]) = L2 at nu2 nr
                have y2 : L2 z = some (.tup (gpV ⟨0, l.length, l.length, l.length⟩)) := by rw [← hL2]; exact upd_same
                have y1 : L2 u = some (.tup [.str "both", .ref pg]) := by rw [← hL2]; exact (Same.upd_new nz) _ _ x1
                have y0 : L2 pg = some (.tup (gpV (gapsOf t1 (g.s - other - g.p - one) t2 (l.length - g.s + g.p)))) := by rw [← hL2]; exact (Same.upd_new nz) _ _ x0
                have X2 : Same H' L2 := by rw [← hL2]; exact same_new X1 nz
                generalize hL3 : upd L2 u2 (.tup [.str "flip", .ref z]) = L3 at nr
                have z3 : L3 u2 = some (.tup [.str "flip", .ref z]) := by rw [← hL3]; exact upd_same
                have z2 : L3 z = some (.tup (gpV ⟨0, l.length, l.length, l.length⟩)) := by rw [← hL3]; exact (Same.upd_new nu2) _ _ y2
                have z1 : L3 u = some (.tup [.str "both", .ref pg]) := by rw [← hL3]; exact (Same.upd_new nu2) _ _ y1
                have z0 : L3 pg = some (.tup (gpV (gapsOf t1 (g.s - other - g.p - one) t2 (l.length - g.s + g.p)))) := by rw [← hL3]; exact (Same.upd_new nu2) _ _ y0
                have X3 : Same H' L3 := by rw [← hL3]; exact same_new X2 nu2
                refine q2 r _ (same_new X3 nr) ?_
                rw [eag]
                have N := Same.upd_new (o := .lst [.ref u, .ref u2]) nr
                refine ⟨[.ref u, .ref u2], upd_same, rfl, fun j k' g' hj => ?_⟩
                match j, hj with
                | 0, hj =>
                  cases hj
                  exact ⟨u, pg, rfl, SqT.of (N _ _ z1), SqT.of (N _ _ z0)⟩
                | 1, hj =>
                  cases hj
                  exact ⟨u2, z, rfl, SqT.of (N _ _ z3), SqT.of (N _ _ z2)⟩
                | j + 2, hj => simp at hj
              | both =>
                walk_at "go"
                refine ⟨rs, v1, v2, _, _, _, _, rfl, w0, w1, w2, hrn, fun pg H8 e8 hpg => ?_⟩
                refine ⟨by show 2 ≤ sizeLine; decide, fun u nu => ?_⟩
                walk_at "go"
                refine ⟨by show 4 ≤ sizeLine; decide, fun z nz => ?_⟩
                refine ⟨by show 2 ≤ sizeLine; decide, fun u2 nu2 => ?_⟩
                refine ⟨by show 2 ≤ sizeLine; decide, fun r nr => ?_⟩
                generalize hL1 : upd H8 u (.tup [.str "flip", .ref pg]) = L1 at nz nu2 nr
                have x1 : L1 u = some (.tup [.str "flip", .ref pg]) := by rw [← hL1]; exact upd_same
                have x0 : L1 pg = some (.tup (gpV (gapsOf t1 (g.s - other - g.p - one) t2 (l.length - g.s + g.p)))) := by rw [← hL1]; exact (Same.upd_new nu) _ _ hpg
                have X1 : Same H' L1 := by rw [← hL1]; exact same_new (S10.trans e8) nu
                generalize hL2 : upd L1 z (.tup [.int 0, .int (l.length : Int), .int (l.length : Int), .int (l.length : Int)]) = L2 at nu2 nr
                have y2 : L2 z = some (.tup (gpV ⟨0, l.length, l.length, l.length⟩)) := by rw [← hL2]; exact upd_same
                have y1 : L2 u = some (.tup [.str "flip", .ref pg]) := by rw [← hL2]; exact (Same.upd_new nz) _ _ x1
                have y0 : L2 pg = some (.tup (gpV (gapsOf t1 (g.s - other - g.p - one) t2 (l.length - g.s + g.p)))) := by rw [← hL2]; exact (Same.upd_new nz) _ _ x0
                have X2 : Same H' L2 := by rw [← hL2]; exact same_new X1 nz
                generalize hL3 : upd L2 u2 (.tup [.str "flip", .ref z]) = L3 at nr
                have z3 : L3 u2 = some (.tup [.str "flip", .ref z]) := by rw [← hL3]; exact upd_same
                have z2 : L3 z = some (.tup (gpV ⟨0, l.length, l.length, l.length⟩)) := by rw [← hL3]; exact (Same.upd_new nu2) _ _ y2
                have z1 : L3 u = some (.tup [.str "flip", .ref pg]) := by rw [← hL3]; exact (Same.upd_new nu2) _ _ y1
                have z0 : L3 pg = some (.tup (gpV (gapsOf t1 (g.s - other - g.p - one) t2 (l.length - g.s + g.p)))) := by rw [← hL3]; exact (Same.upd_new nu2) _ _ y0
                have X3 : Same H' L3 := by rw [← hL3]; exact same_new X2 nu2
                refine q2 r _ (same_new X3 nr) ?_
                rw [eag]
                have N := Same.upd_new (o := .lst [.ref u, .ref u2]) nr
                refine ⟨[.ref u, .ref u2], upd_same, rfl, fun j k' g' hj => ?_⟩
                match j, hj with
                | 0, hj =>
                  cases hj
                  exact ⟨u, pg, rfl, SqT.of (N _ _ z1), SqT.of (N _ _ z0)⟩
                | 1, hj =>
                  cases hj
                  exact ⟨u2, z, rfl, SqT.of (N _ _ z3), SqT.of (N _ _ z2)⟩
                | j + 2, hj => simp at hj
end
end Cl

namespace Cl
local macro_rules | `(tactic| walk_at "go") => `(tactic| repeat (first | (refine ⟨_, rfl, ?_⟩) | (refine ⟨_, _, rfl, rfl, ?_⟩) | (refine ⟨_, rfl, rfl, ?_⟩) | (refine ⟨_, _, rfl, ?_⟩) | (refine And.intro (by first | with_reducible rfl | rfl | omega | decide | assumption | (dsimp only; first | omega | decide | assumption)) ?_)))

local macro_rules | `(tactic| walk_at "bag") => `(tactic| repeat (first | (refine ⟨_, _, _, _, rfl, rfl, L2.SqL.of L2.upd_same, (by rfl), ?_⟩) | (refine ⟨_, _, _, _, rfl, rfl, L2.upd_same, (by rfl), ?_⟩) | (refine ⟨_, rfl, ?_⟩) | (refine ⟨_, _, rfl, rfl, ?_⟩) | (refine ⟨_, rfl, rfl, ?_⟩) | (refine ⟨_, _, rfl, ?_⟩) | (refine And.intro (by first | with_reducible rfl | rfl | omega | decide | assumption | (dsimp only; first | omega | decide | assumption)) ?_)))
open PySem L2 Own Ring
section
variable {P : Program} {w : World} {K : PySem.W.Frag} {mg : PySem.Str → Option Value} {base : Heap} {CR CM kd : Addr}
/-! ### names and numbers -/
structure NmOk (N : List PySem.Str) : Prop where
  nm : ∀ z ∈ N, Nm z
  up : N.Pairwise fun a b => ltS a b = true
structure RowOk (N : List PySem.Str) (l : List Nat) : Prop where
  ne : l ≠ []
  dbl : Dbl l
  len : l.length ≤ 28
  lt : ∀ k ∈ l, k < N.length
theorem RowOk.perm {N : List PySem.Str} {l m : List Nat} (h : RowOk N l) (p : l.Perm m) : RowOk N m :=
  ⟨fun e => h.ne (by have := p.length_eq; rw [e] at this; exact List.length_eq_zero_iff.mp this), h.dbl.perm p, by rw [← p.length_eq]; exact h.len, fun k hk => h.lt k (p.mem_iff.mpr hk)⟩
theorem nm_ord {N : List PySem.Str} (h : NmOk N) {a b : Nat} (ha : a < N.length) (hb : b < N.length) : (nmAt N a = nmAt N b → a = b) ∧ ltS (nmAt N a) (nmAt N b) = ltN a b := by
  have e : ∀ k, k < N.length → nmAt N k = N[k]! := fun k hk => by
    unfold nmAt
    rw [List.getD_eq_getElem?_getD, List.getElem?_eq_getElem hk]
    simp [hk]
  have up : ∀ i j, i < j → j < N.length → ltS (nmAt N i) (nmAt N j) = true := fun i j hij hj => by
    have := List.pairwise_iff_getElem.mp h.up i j (by omega) hj hij
    rw [e i (by omega), e j hj]
    simpa [hj, show i < N.length by omega] using this
  rcases Nat.lt_trichotomy a b with g | g | g
  · have u := up a b g hb
    refine ⟨fun z => ?_, by rw [u]; exact (decide_eq_true g).symm⟩
    rw [z, lin_S.irr] at u
    cases u
  · subst g
    exact ⟨fun _ => rfl, by rw [lin_S.irr]; exact (decide_eq_false (Nat.lt_irrefl a)).symm⟩
  · have u := up b a g ha
    refine ⟨fun z => ?_, ?_⟩
    · rw [z, lin_S.irr] at u
      cases u
    · cases v : ltS (nmAt N a) (nmAt N b) with
      | false => exact (decide_eq_false (by omega)).symm
      | true =>
        have := lin_S.tr _ _ _ u v
        rw [lin_S.irr] at this
        cases this
theorem cnt_map {α β : Type} [DecidableEq α] [DecidableEq β] {f : α → β} {x : α} : ∀ {l : List α}, (∀ y ∈ l, f y = f x → y = x) → (l.map f).count (f x) = l.count x
  | [], _ => rfl
  | y :: l, h => by
    rw [List.map_cons, List.count_cons, List.count_cons, cnt_map fun z hz => h z (List.mem_cons_of_mem _ hz)]
    congr 1
    by_cases e : y = x
    · subst e
      simp
    · rw [if_neg (by simpa using fun z => e (h y List.mem_cons_self z)), if_neg (by simpa using e)]
theorem RowOk.ends {N : List PySem.Str} {l : List Nat} (hN : NmOk N) (h : RowOk N l) : Ends2 (rowNm N l) := by
  refine ⟨fun z hz => ?_, fun z hz => ?_, fun e => h.ne (List.map_eq_nil_iff.mp e), by unfold rowNm; rw [List.length_map]; exact h.len⟩
  · obtain ⟨k, hk, rfl⟩ := List.mem_map.mp hz
    exact hN.nm _ (nmAt_mem (h.lt k hk))
  · obtain ⟨k, hk, rfl⟩ := List.mem_map.mp hz
    unfold rowNm
    rw [cnt_map fun y hy e => (nm_ord hN (h.lt y hy) (h.lt k hk)).1 e]
    exact h.dbl k hk
theorem RowOk.piece {N : List PySem.Str} {l : List Nat} {g : Gp} (hN : NmOk N) (h : RowOk N l) (hp : Piece l g) : Piece (rowNm N l) g := by
  have ein : inner (rowNm N l) g = (inner l g).map (nmAt N) := by
    unfold inner cut rowNm
    rw [List.map_append, List.map_drop, List.map_drop, List.map_take, List.map_take]
  have hsub : ∀ k ∈ inner l g, k ∈ l := fun k hk => by
    unfold inner cut at hk
    rcases List.mem_append.mp hk with z | z
    · exact List.mem_of_mem_take (List.mem_of_mem_drop z)
    · exact List.mem_of_mem_take (List.mem_of_mem_drop z)
  refine ⟨hp.h1, hp.h2, hp.h3, by unfold rowNm; rw [List.length_map]; exact hp.h4, fun z hz => ?_⟩
  rw [ein] at hz ⊢
  obtain ⟨k, hk, rfl⟩ := List.mem_map.mp hz
  rw [cnt_map fun y hy e => (nm_ord hN (h.lt y (hsub y hy)) (h.lt k (hsub k hk))).1 e]
  exact hp.in2 k hk
theorem RowOk.move {N : List PySem.Str} {l : List Nat} {g : Gp} {k : Kd} (h : RowOk N l) (hp : Piece l g) : RowOk N (least ltN (mv k l g)) :=
  h.perm ((mv_perm k hp.h1 hp.h2 hp.h3 hp.h4).symm.trans (least_rt lin_N _).perm)
theorem least_names {N : List PySem.Str} {l : List Nat} {g : Gp} {k : Kd} (hN : NmOk N) (h : RowOk N l) (hp : Piece l g) : least ltS (mv k (rowNm N l) g) = rowNm N (least ltN (mv k l g)) := by
  unfold rowNm
  rw [mv_map]
  have pm := mv_perm k hp.h1 hp.h2 hp.h3 hp.h4
  exact least_map lin_N lin_S fun a b ha hb => nm_ord hN (h.lt a (pm.mem_iff.mp ha)) (h.lt b (pm.mem_iff.mp hb))
/-! ### _law_apply -/
def spApply (K : PySem.W.Frag) (CR : Addr) : Sp := fun vs H Q _ => ∃ (n r a st : Addr) (N : List PySem.Str) (l : List Nat) (S : List (Kd × Gp)), vs = [.ref n, .ref r, .ref a, .ref st] ∧ SqL K H n (strsV N) ∧ RowAt CR H r (rowNm N l) ∧ SqL K H a (ntV l) ∧ StepsAt K H st S ∧ NmOk N ∧ RowOk N l ∧ Fits ltN l S ∧
  ∀ (p r' a' : Addr) H', Same H H' → H' p = some (.tup [.ref r', .ref a']) → RowAt CR H' r' (rowNm N (run ltN l S)) → SqL K H' a' (ntV (run ltN l S)) → Q (.ref p) H'
abbrev sc__law_apply_N : List PySem.Str := ["names", "told", "row", "steps", "kind", "gaps"]
theorem sc__law_apply : FnScope sc__law_apply_N ["names", "told", "row", "steps"] (defScope (topS 58)) := ⟨rfl, rfl, rfl, by decide +kernel, rfl, by decide +kernel, by decide +kernel⟩
theorem ok_apply (T : MdK K mg CR CM kd) (D : DefAt K mg "_law_apply" (topS 58) ["names", "told", "row", "steps"]) (D_law_step_on : Cal P w K mg base 2 "_law_step_on" (spStep K)) (D_moved : Cal P w K mg base 6 "moved" (spMoved K CR CM)) (D_Move : Mak P w K mg base 2 "Move" CM (spMove K CM)) (D_law_row_is : Cal P w K mg base 4 "_law_row_is" (spRowIs K CR)) : Cal P w K mg base 7 "_law_apply" (spApply K CR) := by
  refine cal_of D sc__law_apply (fun vs H Q E h => ?_) (fun f cdv A outer s H vs Q E hr h => ?_)
  · obtain ⟨n, r, a, st, N, l, S, rfl, _⟩ := h
    rfl
  · obtain ⟨n, r, a, st, N, l, S, rfl, hn, hrow, ha, ⟨vs, hst, hvl, hvs⟩, hN, hl, hF, q⟩ := h
    refine ⟨_, (pss_cons (ps_for PassesOwn.never rfl (Own.pi_listK (K := K) rfl (pv 3)) (pg_tup rfl (pgs_cons (pg_name (i := 4) sc__law_apply.nd rfl (Or.inl rfl)) (pgs_cons (pg_name (i := 5) sc__law_apply.nd rfl (Or.inl rfl)) pgs_nil)))
   (pss_cons (ps_set (i := 2) sc__law_apply.nd rfl (Or.inl rfl) (Own.pe_c D_law_step_on hr (by decide) rfl (pa_cons (pv 2) (pa_cons (pv 4) (pa_cons (pv 5) pa_nil)))))
  (pss_cons (ps_if (pt_cmpR op_isN (pv 2) pe_non (nomark _))
   (pss_one (ps_ret pe_non))
   pss_nil)
  (pss_cons (ps_set (i := 1) sc__law_apply.nd rfl (Or.inl rfl) (Own.pe_c D_moved hr (by decide) rfl (pa_cons (pv 1) (pa_cons (Own.pe_mk D_Move hr (by decide) rfl (pa_cons (pv 4) (pa_cons (pe_ix (Own.ixT (K := K) rfl) (pv 5) pe_int (fun _ _ => rfl)) (pa_cons (pe_ix (Own.ixT (K := K) rfl) (pv 5) pe_int (fun _ _ => rfl)) (pa_cons (pe_ix (Own.ixT (K := K) rfl) (pv 5) pe_int (fun _ _ => rfl)) (pa_cons (pe_ix (Own.ixT (K := K) rfl) (pv 5) pe_int (fun _ _ => rfl)) pa_nil)))))) pa_nil))))
  (pss_one (ps_if (pt_not (pt_val (Own.pe_c D_law_row_is hr (by decide) rfl (pa_cons (pv 1) (pa_cons (pv 0) (pa_cons (pv 2) pa_nil))))))
   (pss_one (ps_ret pe_non))
   pss_nil))))))
  (pss_one (ps_ret (pe_tup (pa_cons (pv 1) (pa_cons (pv 2) pa_nil)))))), ?_⟩
    refine ⟨_, rfl, st, rfl, ⟨_, SqL.of hst⟩, ?_⟩
    refine for_it walk_list (fun i σ H' => ∃ (r' a' : Addr) (m : List Nat) (e4 e5 : Option V), σ = [some (.ref n), some (.ref r'), some (.ref a'), some (.ref st), e4, e5] ∧ Same H H' ∧ RowAt CR H' r' (rowNm N m) ∧ SqL K H' a' (ntV m) ∧ RowOk N m ∧ Fits ltN m (S.drop i) ∧ run ltN m (S.drop i) = run ltN l S)
      ⟨r, a, l, none, none, rfl, Same.refl _, hrow, ha, hl, hF, rfl⟩ (fun i σ H' _ ⟨_, _, _, _, _, _, Sm, _⟩ => SqL.of (Sm _ _ hst)) ?_ ?_
    · rintro i x σ H1 H2 hi ⟨r', a', m, e4, e5, rfl, Sm, hrm, ham, hm, hFm, hrun⟩ ⟨rfl, hx⟩
      have hiS : i < S.length := by rw [← hvl]; exact hi
      obtain ⟨⟨k, g⟩, hS⟩ : ∃ z, S[i]? = some z := ⟨_, List.getElem?_eq_getElem hiS⟩
      obtain ⟨u, t, hu1, hu2, hu3⟩ := hvs i k g hS
      obtain rfl : x = .ref u := Option.some.inj (hx.symm.trans hu1)
      have hdrop : S.drop i = (k, g) :: S.drop (i + 1) := by
        rw [List.drop_eq_getElem_cons hiS]
        congr 1
        exact Option.some.inj ((List.getElem?_eq_getElem hiS).symm.trans hS)
      rw [hdrop] at hFm hrun
      obtain ⟨hp, hF2⟩ := hFm
      replace hrun : run ltN (least ltN (mv k m g)) (S.drop (i + 1)) = run ltN l S := hrun
      have ht := Own.Same.tupq Sm hu3
      refine ⟨u, _, rfl, Own.Same.tupq Sm hu2, rfl, ?_⟩
      walk_at "go"
      refine ⟨a', t, m, k, g, rfl, ham, ht, hp, hm.ne, by have := hm.len; omega, fun a2 H2 e2 ha2 => ?_⟩
      walk_at "go"
      have ht2 := Own.Same.tupq e2 ht
      refine ⟨t, _, _, _, rfl, rfl, ht2, rfl, ?_⟩
      walk_at "go"
      refine ⟨t, _, _, _, rfl, rfl, ht2, rfl, ?_⟩
      walk_at "go"
      refine ⟨t, _, _, _, rfl, rfl, ht2, rfl, ?_⟩
      walk_at "go"
      refine ⟨t, _, _, _, rfl, rfl, ht2, rfl, ?_⟩
      intro x dx hx hdx hne
      refine ⟨x, dx, k, g, rfl, upd_same, hp.h1, hp.h2, hp.h3, fun H3 e3 hM => ⟨rfl, ?_⟩⟩
      have S3 : Same H2 H3 := made_same hx hdx e3
      have hE := hm.ends hN
      refine ⟨r', x, _, k, g, rfl, (hrm.same e2).same S3, hM, hE, hm.piece hN hp, fun r4 H4 e4 hR4 => ?_⟩
      rw [least_names hN hm hp] at hR4
      have hm2 := hm.move (k := k) hp
      have e24 : Same H2 H4 := S3.trans e4
      have ha4 : SqL K H4 a2 (ntV (least ltN (mv k m g))) := SqL.of (e24 _ _ ha2)
      have hn4 : SqL K H4 n (strsV N) := ((Sm.trans e2).trans e24).seq hn
      generalize hL : least ltN (mv k m g) = L at *
      have hLL : least ltN L = L := by rw [← hL]; exact least_least lin_N _
      walk_at "go"
      refine ⟨r4, n, a2, N, L, rfl, by rw [hLL]; exact hR4, hn4, ha4, hm2.ne, by have := hm2.len; omega, hm2.lt, hN.nm, fun H5 e5 => ?_⟩
      refine ⟨true, rfl, iteF ?_⟩
      exact ⟨r4, a2, L, _, _, rfl, ((Sm.trans e2).trans e24).trans e5, hR4.same e5, e5.seq ha4, hm2, hF2, hrun⟩
    · rintro σ H1 ⟨r', a', m, e4, e5, rfl, Sm, hrm, ham, hm, hFm, hrun⟩
      rw [hvl, List.drop_length] at hrun
      have hrun2 : m = run ltN l S := hrun
      subst hrun2
      walk_at "go"
      refine ⟨by show 2 ≤ sizeLine; decide, fun p hp => ?_⟩
      exact q p r' a' _ (same_new Sm hp) upd_same (hrm.same (Same.upd_new hp)) ((Same.upd_new hp).seq ham)
end
end Cl

namespace Cl
local macro_rules | `(tactic| walk_at "go") => `(tactic| repeat (first | (refine ⟨_, rfl, ?_⟩) | (refine ⟨_, _, rfl, rfl, ?_⟩) | (refine ⟨_, rfl, rfl, ?_⟩) | (refine ⟨_, _, rfl, ?_⟩) | (refine And.intro (by first | with_reducible rfl | rfl | omega | decide | assumption | (dsimp only; first | omega | decide | assumption)) ?_)))

local macro_rules | `(tactic| walk_at "bag") => `(tactic| repeat (first | (refine ⟨_, _, _, _, rfl, rfl, L2.SqL.of L2.upd_same, (by rfl), ?_⟩) | (refine ⟨_, _, _, _, rfl, rfl, L2.upd_same, (by rfl), ?_⟩) | (refine ⟨_, rfl, ?_⟩) | (refine ⟨_, _, rfl, rfl, ?_⟩) | (refine ⟨_, rfl, rfl, ?_⟩) | (refine ⟨_, _, rfl, ?_⟩) | (refine And.intro (by first | with_reducible rfl | rfl | omega | decide | assumption | (dsimp only; first | omega | decide | assumption)) ?_)))
open PySem L2 Own Ring
section
variable {P : Program} {w : World} {K : PySem.W.Frag} {mg : PySem.Str → Option Value} {base : Heap} {CR CM kd : Addr}
/-! ### beside the bag -/
theorem newB {c b p : Addr} {H : Hp} {o : HO} (hb : BagAt c H b) (hp : H p = none) : BagAt c (upd H p o) b ∧ Same (hid [b] H) (hid [b] (upd H p o)) ∧ hid [b] (upd H p o) p = some o :=
  ⟨hb.upd hp, Own.Same.hid _ (Same.upd_new hp), hid_some.mpr ⟨by simpa using (hb.ne hp).1, upd_same⟩⟩
theorem oneB {c b p : Addr} {H : Hp} {o : HO} (hb : BagAt c H b) (hp : H p = none) {G : Hp → Prop} (h : ∀ H', BagAt c H' b → Same (hid [b] H) (hid [b] H') → hid [b] H' p = some o → G H') : G (upd H p o) :=
  let ⟨x, y, z⟩ := newB (o := o) hb hp
  h _ x y z
theorem slB {a b c : Addr} {xs : List V} {lo hi : Option Int} {H : Hp} {Q : VK} (hb : BagAt c H b) (ha : hid [b] H a = some (.lst xs)) (h : ∀ p H', BagAt c H' b → Same (hid [b] H) (hid [b] H') → hid [b] H' p = some (.lst (cutV xs lo hi)) → Q (.ref p) H') : rSlL K (.ref a) lo hi H Q :=
  ⟨a, xs, rfl, SqL.of (hid_some.mp ha).2, fun p hp => oneB hb hp (h p)⟩
theorem catB {a a2 b c : Addr} {xs ys : List V} {H : Hp} {Q : VK} (hb : BagAt c H b) (ha : hid [b] H a = some (.lst xs)) (ha2 : hid [b] H a2 = some (.lst ys)) (hl : xs.length + ys.length ≤ sizeLine) (h : ∀ p H', BagAt c H' b → Same (hid [b] H) (hid [b] H') → hid [b] H' p = some (.lst (xs ++ ys)) → Q (.ref p) H') : rCat (.ref a) (.ref a2) H Q :=
  ⟨a, a2, xs, ys, rfl, rfl, (hid_some.mp ha).2, (hid_some.mp ha2).2, hl, fun p hp => oneB hb hp (h p)⟩
/-! ### rows that are put together -/
structure Fil (row : List Nat) (k t : Nat) : Prop where
  len : row.length = 2 * k + t
  cnt : ∀ j, row.count j = if j < k then 2 else if j = k then t else 0
theorem Fil.up {row : List Nat} {k : Nat} (h : Fil row k 2) : Fil row (k + 1) 0 :=
  ⟨by rw [h.len]; omega, fun j => by
    rw [h.cnt]
    by_cases h1 : j < k
    · rw [if_pos h1, if_pos (by omega)]
    · rw [if_neg h1]
      by_cases h2 : j = k
      · rw [if_pos h2, if_pos (by omega)]
      · rw [if_neg h2, if_neg (by omega)]
        split <;> rfl⟩
theorem Fil.ins {row row' : List Nat} {k t : Nat} (h : Fil row k t) (p : row'.Perm (k :: row)) : Fil row' k (t + 1) :=
  ⟨by rw [p.length_eq, List.length_cons, h.len]; omega, fun j => by
    rw [p.count_eq, List.count_cons, h.cnt]
    by_cases h1 : j < k
    · rw [if_pos h1, if_pos h1, if_neg (by simp; omega)]
    · rw [if_neg h1, if_neg h1]
      by_cases h2 : j = k
      · rw [if_pos h2, if_pos h2, if_pos (by simp; omega)]
      · rw [if_neg h2, if_neg h2, if_neg (by simp; omega)]⟩
theorem Fil.lt {row : List Nat} {k : Nat} (h : Fil row k 0) : ∀ j ∈ row, j < k := fun j hj => by
  have h1 := List.count_pos_iff.mpr hj
  rw [h.cnt] at h1
  by_cases h2 : j < k
  · exact h2
  · rw [if_neg h2] at h1
    split at h1 <;> omega
theorem Fil.dbl {row : List Nat} {k : Nat} (h : Fil row k 0) : Dbl row := fun j hj => by
  rw [h.cnt, if_pos (h.lt j hj)]
theorem ins_perm (row : List Nat) (g k : Nat) : (row.take g ++ [k] ++ row.drop g).Perm (k :: row) := by
  have := (List.perm_middle (a := k) (l₁ := row.take g) (l₂ := row.drop g))
  rw [List.append_assoc]
  exact this.trans (by rw [List.take_append_drop])
theorem tie_perm {row : List Nat} {lo hi k : Nat} (h : lo ≤ hi) : (row.take lo ++ [k] ++ (row.take hi).drop lo ++ [k] ++ row.drop hi).Perm (k :: k :: row) := by
  have h1 := ins_perm (row.take hi) lo k
  rw [List.take_take, Nat.min_eq_left h] at h1
  have h2 := (h1.append_right ([k] ++ row.drop hi))
  rw [List.append_assoc _ [k] (row.drop hi)]
  refine h2.trans (List.Perm.cons k ?_)
  refine (List.perm_middle (a := k) (l₁ := row.take hi) (l₂ := row.drop hi)).trans ?_
  rw [List.take_append_drop]
/-! ### _law_loose_row -/
def spMkRow : Sp := fun vs H Q _ => ∃ (b c : Addr) (n : Nat), vs = [.ref b, .int (n : Int)] ∧ BagAt c H b ∧ 1 ≤ n ∧ n ≤ 12 ∧ ∀ (p : Addr) (row : List Nat) H', BagAt c H' b → Same (hid [b] H) (hid [b] H') → hid [b] H' p = some (.lst (ntV row)) → Fil row n 0 → Q (.ref p) H'
abbrev sc__law_loose_row_N : List PySem.Str := ["bag", "size", "row", "k", "turn", "g"]
theorem sc__law_loose_row : FnScope sc__law_loose_row_N ["bag", "size"] (defScope (topS 47)) := ⟨rfl, rfl, rfl, by decide +kernel, rfl, by decide +kernel, by decide +kernel⟩
theorem ok_loose (T : MdK K mg CR CM kd) (D : DefAt K mg "_law_loose_row" (topS 47) ["bag", "size"]) (D_law_pick : Cal P w K mg base 1 "_law_pick" spPick) : Cal P w K mg base 2 "_law_loose_row" spMkRow := by
  refine cal_of D sc__law_loose_row (fun vs H Q E h => ?_) (fun f cdv A outer s H vs Q E hr h => ?_)
  · obtain ⟨b, c, n, rfl, _⟩ := h
    rfl
  · obtain ⟨b, c, n, rfl, hb, n1, n12, q⟩ := h
    refine ⟨_, (pss_cons (ps_set (i := 2) sc__law_loose_row.nd rfl (Or.inl rfl) (pe_lst pa_nil))
  (pss_cons (ps_for PassesOwn.never rfl (Own.pi_rangeN rfl T.range (pa_cons (pv 1) pa_nil)) (pg_name (i := 3) sc__law_loose_row.nd rfl (Or.inl rfl))
   (pss_one (ps_for PassesOwn.never rfl (Own.pi_rangeN rfl T.range (pa_cons pe_int pa_nil)) (pg_name (i := 4) sc__law_loose_row.nd rfl (Or.inl rfl))
   (pss_cons (ps_set (i := 5) sc__law_loose_row.nd rfl (Or.inl rfl) (Own.pe_c D_law_pick hr (by decide) rfl (pa_cons (pv 0) (pa_cons (pe_op Own.on_add (pe_callB call_len_seq (by rfl) T.len (by decide +kernel) (pa_cons (pv 2) pa_nil)) pe_int) pa_nil))))
  (pss_one (ps_set (i := 2) sc__law_loose_row.nd rfl (Or.inl rfl) (pe_op op_cat (pe_op op_cat (pe_slice (Own.slL (K := K) rfl) (pv 2) po_none (po_some (pv 5))) (pe_lst (pa_cons (pv 3) pa_nil))) (pe_slice (Own.slL (K := K) rfl) (pv 2) (po_some (pv 5)) po_none))))))))
  (pss_one (ps_ret (pv 2))))), ?_⟩
    walk_at "go"
    intro p hp
    refine oneB hb hp fun H1 hb1 s1 hp1 => ?_
    walk_at "go"
    refine for_it walk_rangeN (fun i σ H' => ∃ (p : Addr) (row : List Nat) (e3 e4 e5 : Option V), σ = [some (.ref b), some (.int (n : Int)), some (.ref p), e3, e4, e5] ∧ BagAt c H' b ∧ Same (hid [b] H) (hid [b] H') ∧ hid [b] H' p = some (.lst (ntV row)) ∧ Fil row i 0)
      ⟨p, [], none, none, none, rfl, hb1, s1, hp1, ⟨rfl, fun j => by simp⟩⟩ (fun _ _ _ _ _ => trivial) ?_ ?_
    · rintro i x σ H2 H3 hi ⟨p, row, e3, e4, e5, rfl, hb2, s2, hp2, hf⟩ ⟨rfl, rfl⟩
      walk_at "go"
      refine for_it walk_rangeN (fun t σ H' => ∃ (p : Addr) (row : List Nat) (e4 e5 : Option V), σ = [some (.ref b), some (.int (n : Int)), some (.ref p), some (.int (i : Int)), e4, e5] ∧ BagAt c H' b ∧ Same (hid [b] H) (hid [b] H') ∧ hid [b] H' p = some (.lst (ntV row)) ∧ Fil row i t)
        ⟨p, row, _, _, rfl, hb2, s2, hp2, hf⟩ (fun _ _ _ _ _ => trivial) ?_ ?_
      · rintro t x σ H4 H5 ht ⟨p, row, e4, e5, rfl, hb4, s4, hp4, hf⟩ ⟨rfl, rfl⟩
        walk_at "go"
        have hl := hf.len
        have ht2 : t < 2 := ht
        refine ⟨p, _, rfl, .inl (SqL.of (hid_some.mp hp4).2), ?_⟩
        rw [ntV_len]
        walk_at "go"
        refine ⟨b, c, row.length + 1, rfl, hb4, by omega, by omega, fun g H6 hg hb6 s6 => ?_⟩
        have hp6 := s6 _ _ hp4
        walk_at "go"
        dsimp only [tNoPart]
        refine slB hb6 hp6 fun p1 H7 hb7 s7 hp7 => ?_
        rw [cutV_take, ntV_take] at hp7
        walk_at "go"
        refine ⟨by show 1 ≤ sizeLine; decide, fun p2 np2 => ?_⟩
        obtain ⟨hb8, s8, hp8⟩ := newB (o := .lst [.int (i : Int)]) hb7 np2
        generalize upd H7 p2 (.lst [.int (i : Int)]) = H8 at hb8 s8 hp8
        have sz := sizeLine_eq
        refine catB hb8 (s8 _ _ hp7) hp8 (by rw [ntV_len, List.length_take]; show _ + 1 ≤ _; omega) fun p3 H9 hb9 s9 hp9 => ?_
        have s69 := (s7.trans s8).trans s9
        walk_at "go"
        dsimp only [tNoPart]
        refine slB hb9 (s69 _ _ hp6) fun p4 H10 hb10 s10 hp10 => ?_
        rw [cutV_drop, ntV_drop] at hp10
        refine catB hb10 (s10 _ _ hp9) hp10 (by rw [List.length_append, ntV_len, ntV_len, List.length_take, List.length_drop]; show _ + 1 + _ ≤ _; omega) fun p5 H11 hb11 s11 hp11 => ?_
        rw [show [V.int (i : Int)] = ntV [i] from rfl, ntV_app, ntV_app] at hp11
        exact ⟨p5, _, _, _, rfl, hb11, (((s4.trans s6).trans s69).trans s10).trans s11, hp11, hf.ins (ins_perm _ _ _)⟩
      · rintro σ H4 ⟨p, row, e4, e5, rfl, hb4, s4, hp4, hf⟩
        exact ⟨p, row, _, _, _, rfl, hb4, s4, hp4, hf.up⟩
    · rintro σ H2 ⟨p, row, e3, e4, e5, rfl, hb2, s2, hp2, hf⟩
      walk_at "go"
      exact q p row H2 hb2 s2 hp2 hf
theorem index_go {α : Type} [DecidableEq α] {F : α → V} (hf : ∀ x, flatV (F x) = true) (he : ∀ x y, eqV (F x) (F y) = decide (x = y)) {l : List α} {y : α} {a : Addr} {H : Hp} {Q : VK} (hy : y ∈ l) (ha : SqL K H a (l.map F))
    (h : ∀ j : Nat, j < l.length → l[j]? = some y → y ∉ l.take j → Q (.int (j : Int)) H) : rIndex K (.ref a) [F y] H Q := by
  have hj : l.idxOf y < l.length := List.idxOf_lt_length_iff.mpr hy
  have e : l[l.idxOf y]? = some y := by rw [List.getElem?_eq_getElem hj, List.getElem_idxOf hj]
  refine ⟨a, l.map F, F y, l.idxOf y, F y, rfl, rfl, ha, hf y, by simp [hf], by rw [List.getElem?_map, e]; rfl, by rw [he]; simp, fun m z hm hz => ?_, ?_⟩
  · rw [List.getElem?_map] at hz
    cases e2 : l[m]? with
    | none => rw [e2] at hz; cases hz
    | some x =>
      rw [e2] at hz
      obtain rfl : F x = z := Option.some.inj hz
      rw [he]
      refine decide_eq_false fun z => ?_
      have hml : m < l.length := by omega
      have := List.not_of_lt_findIdx (p := (· == y)) (xs := l) (i := m) hm
      rw [List.getElem?_eq_getElem hml] at e2
      simp [Option.some.inj e2, z] at this
  · refine h _ hj e fun hm => ?_
    obtain ⟨m, hm1, hm2⟩ := List.mem_iff_getElem.mp hm
    rw [List.length_take] at hm1
    have hml : m < l.length := by omega
    have := List.not_of_lt_findIdx (p := (· == y)) (xs := l) (i := m) (by show m < l.idxOf y; omega)
    rw [List.getElem_take] at hm2
    simp [hm2] at this
theorem flat_int (n : Nat) : flatV (.int (n : Int)) = true := rfl
theorem eqV_int (n m : Nat) : eqV (.int (n : Int)) (.int (m : Int)) = decide (n = m) := by
  show ((n : Int) == (m : Int)) = _
  by_cases h : n = m
  · simp [h]
  · rw [decide_eq_false h]
    exact beq_false_of_ne fun z => h (Int.ofNat_inj.mp z)
/-! ### _law_tied_row -/
abbrev sc__law_tied_row_N : List PySem.Str := ["bag", "size", "row", "k", "y", "a", "b", "g", "h", "low", "high"]
theorem sc__law_tied_row : FnScope sc__law_tied_row_N ["bag", "size"] (defScope (topS 48)) := ⟨rfl, rfl, rfl, by decide +kernel, rfl, by decide +kernel, by decide +kernel⟩
theorem ok_tied (T : MdK K mg CR CM kd) (D : DefAt K mg "_law_tied_row" (topS 48) ["bag", "size"]) (D_law_pick : Cal P w K mg base 1 "_law_pick" spPick) : Cal P w K mg base 2 "_law_tied_row" spMkRow := by
  refine cal_of D sc__law_tied_row (fun vs H Q E h => ?_) (fun f cdv A outer s H vs Q E hr h => ?_)
  · obtain ⟨b, c, n, rfl, _⟩ := h
    rfl
  · obtain ⟨b, c, n, rfl, hb, n1, n12, q⟩ := h
    refine ⟨_, (pss_cons (ps_set (i := 2) sc__law_tied_row.nd rfl (Or.inl rfl) (pe_slice (Own.slL (K := K) rfl) (pe_lst (pa_cons pe_int (pa_cons pe_int pa_nil))) po_none (po_some (pe_op Own.on_mul pe_int (pe_callB (call_min2 rfl) (by rfl) T.min (by decide +kernel) (pa_cons (pv 1) (pa_cons pe_int pa_nil)))))))
  (pss_cons (ps_for PassesOwn.never rfl (pi_range2 rfl T.range (pa_cons pe_int (pa_cons (pv 1) pa_nil))) (pg_name (i := 3) sc__law_tied_row.nd rfl (Or.inl rfl))
   (pss_cons (ps_set (i := 4) sc__law_tied_row.nd rfl (Or.inl rfl) (Own.pe_c D_law_pick hr (by decide) rfl (pa_cons (pv 0) (pa_cons (pv 3) pa_nil))))
  (pss_cons (ps_set (i := 5) sc__law_tied_row.nd rfl (Or.inl rfl) (Own.pe_index (K := K) rfl (pv 2) (pa_cons (pv 4) pa_nil)))
  (pss_cons (ps_set (i := 6) sc__law_tied_row.nd rfl (Or.inl rfl) (pe_op Own.on_add (pe_op Own.on_add (pv 5) pe_int) (Own.pe_index (K := K) rfl (pe_slice (Own.slL (K := K) rfl) (pv 2) (po_some (pe_op Own.on_add (pv 5) pe_int)) po_none) (pa_cons (pv 4) pa_nil))))
  (pss_cons (ps_par (i := 7) (j := 8) rfl sc__law_tied_row.nd rfl rfl (by decide) rfl rfl (pa_cons (pe_op Own.on_add (pe_op Own.on_add (pv 5) pe_int) (Own.pe_c D_law_pick hr (by decide) rfl (pa_cons (pv 0) (pa_cons (pe_op Own.on_sub (pv 6) (pv 5)) pa_nil)))) (pa_cons (pe_op Own.on_add (pe_op Own.on_add (pv 6) pe_int) (Own.pe_c D_law_pick hr (by decide) rfl (pa_cons (pv 0) (pa_cons (pe_op Own.on_add (pe_op Own.on_sub (pe_callB call_len_seq (by rfl) T.len (by decide +kernel) (pa_cons (pv 2) pa_nil)) (pv 6)) (pv 5)) pa_nil)))) pa_nil)) rfl)
  (pss_cons (ps_set (i := 8) sc__law_tied_row.nd rfl (Or.inl rfl) (pe_ifExp (pt_cmpR Own.oc_gt (pv 8) (pe_callB call_len_seq (by rfl) T.len (by decide +kernel) (pa_cons (pv 2) pa_nil)) (nomark _)) (pe_op Own.on_sub (pv 8) (pe_callB call_len_seq (by rfl) T.len (by decide +kernel) (pa_cons (pv 2) pa_nil))) (pv 8)))
  (pss_cons (ps_par (i := 9) (j := 10) rfl sc__law_tied_row.nd rfl rfl (by decide) rfl rfl (pa_cons (pe_callB (call_min2 rfl) (by rfl) T.min (by decide +kernel) (pa_cons (pv 7) (pa_cons (pv 8) pa_nil))) (pa_cons (pe_callB (call_max2 rfl) (by rfl) T.max (by decide +kernel) (pa_cons (pv 7) (pa_cons (pv 8) pa_nil))) pa_nil)) rfl)
  (pss_one (ps_set (i := 2) sc__law_tied_row.nd rfl (Or.inl rfl) (pe_op op_cat (pe_op op_cat (pe_op op_cat (pe_op op_cat (pe_slice (Own.slL (K := K) rfl) (pv 2) po_none (po_some (pv 9))) (pe_lst (pa_cons (pv 3) pa_nil))) (pe_slice (Own.slL (K := K) rfl) (pv 2) (po_some (pv 9)) (po_some (pv 10)))) (pe_lst (pa_cons (pv 3) pa_nil))) (pe_slice (Own.slL (K := K) rfl) (pv 2) (po_some (pv 10)) po_none)))))))))))
  (pss_one (ps_ret (pv 2))))), ?_⟩
    walk_at "go"
    intro p0 hp0
    obtain ⟨hb0, s0, hp0⟩ := newB (o := .lst [.int 0, .int 0]) hb hp0
    generalize upd H p0 (.lst [.int 0, .int 0]) = H0 at hb0 s0 hp0
    have em : (if (1 : Int) < (n : Int) then (1 : Int) else (n : Int)) = ((1 : Nat) : Int) := by split <;> omega
    walk_at "go"
    rw [em]
    refine ⟨2, 1, rfl, rfl, ?_⟩
    walk_at "go"
    refine slB hb0 hp0 fun p1 H1 hb1 s1 hp1 => ?_
    rw [show ((2 * 1 : Nat) : Int) = ((2 : Nat) : Int) from rfl, cutV_take] at hp1
    replace hp1 : hid [b] H1 p1 = some (.lst (ntV [0, 0])) := hp1
    walk_at "go"
    refine for_it walk_range (fun i σ H' => ∃ (p : Addr) (row : List Nat) (e3 e4 e5 e6 e7 e8 e9 e10 : Option V), σ = [some (.ref b), some (.int (n : Int)), some (.ref p), e3, e4, e5, e6, e7, e8, e9, e10] ∧ BagAt c H' b ∧ Same (hid [b] H) (hid [b] H') ∧ hid [b] H' p = some (.lst (ntV row)) ∧ Fil row (i + 1) 0)
      ⟨p1, [0, 0], none, none, none, none, none, none, none, none, rfl, hb1, s0.trans s1, hp1, ⟨rfl, fun j => by
        by_cases h : j = 0
        · subst h; rfl
        · simp [List.count_cons, show ¬ j < 1 by omega, show ¬ 0 = j by omega]⟩⟩ (fun _ _ _ _ _ => trivial) ?_ ?_
    · rintro i x σ H2 H3 hi ⟨p, row, e3, e4, e5, e6, e7, e8, e9, e10, rfl, hb2, s2, hp2, hf⟩ ⟨rfl, rfl⟩
      have hl := hf.len
      have hin : i + 1 < n := by omega
      rw [show (fun (i : Nat) => V.int (1 + (i : Int))) i = V.int ((i + 1 : Nat) : Int) from congrArg V.int (by omega)]
      have sz := sizeLine_eq
      walk_at "go"
      refine ⟨b, c, i + 1, rfl, hb2, by omega, by omega, fun y H4 hy hb4 s4 => ?_⟩
      have hp4 := s4 _ _ hp2
      have hyc : row.count y = 2 := by rw [hf.cnt, if_pos hy]
      have hy1 : y ∈ row := List.count_pos_iff.mp (by omega)
      walk_at "go"
      refine ⟨.inl ⟨rfl, _, SqL.of (hid_some.mp hp4).2⟩, ?_⟩
      walk_at "go"
      dsimp only [tNil]
      refine index_go flat_int eqV_int hy1 (SqL.of (hid_some.mp hp4).2) fun j hj ej nj => ?_
      walk_at "go"
      dsimp only [tNoPart]
      refine slB hb4 hp4 fun p5 H5 hb5 s5 hp5 => ?_
      rw [cutV_drop, ntV_drop] at hp5
      have hy2 : y ∈ row.drop (j + 1) := by
        have e1 : row = row.take j ++ y :: row.drop (j + 1) := by
          rw [List.getElem?_eq_getElem hj] at ej
          rw [← Option.some.inj ej, ← List.drop_eq_getElem_cons hj, List.take_append_drop]
        rw [e1, List.count_append, List.count_eq_zero.mpr nj, List.count_cons, if_pos (by simp)] at hyc
        exact List.count_pos_iff.mp (by omega)
      walk_at "go"
      refine ⟨.inl ⟨rfl, _, SqL.of (hid_some.mp hp5).2⟩, ?_⟩
      walk_at "go"
      dsimp only [tNil]
      refine index_go flat_int eqV_int hy2 (SqL.of (hid_some.mp hp5).2) fun j2 hj2 _ _ => ?_
      rw [List.length_drop] at hj2
      walk_at "go"
      refine ⟨b, c, j + 1 + j2 - j, rfl, hb5, by omega, by omega, fun d1 H6 hd1 hb6 s6 => ?_⟩
      have hp6 := s6 _ _ (s5 _ _ hp4)
      walk_at "go"
      refine ⟨p, _, rfl, .inl (SqL.of (hid_some.mp hp6).2), ?_⟩
      rw [ntV_len]
      walk_at "go"
      refine ⟨b, c, row.length - (j + 1 + j2) + j, rfl, hb6, by omega, by omega, fun d2 H7 hd2 hb7 s7 => ?_⟩
      have hp7 := s7 _ _ hp6
      have S7 := ((((s2.trans s4).trans s5).trans s6).trans s7)
      clear hp6 hp5 hp4 hp2 s7 s6 s5 s4 s2
      refine ⟨_, _, rfl, rfl, ?_⟩
      dsimp only [tNil]
      refine ⟨_, _, rfl, ?_⟩
      refine seq1_rest (R := fun σ' H' => H' = H7 ∧ ∃ h : Nat, h ≤ row.length ∧ σ' = [some (.ref b), some (.int (n : Int)), some (.ref p), some (.int ((i + 1 : Nat) : Int)), some (.int (y : Int)), some (.int (j : Int)), some (.int ((j + 1 + j2 : Nat) : Int)), some (.int ((j + 1 + d1 : Nat) : Int)), some (.int (h : Int)), e9, e10]) (fun N rest => ?_) ?_
      · walk_at "go"
        refine ⟨p, _, rfl, .inl (SqL.of (hid_some.mp hp7).2), ?_⟩
        rw [ntV_len]
        walk_at "go"
        refine ite2 (fun hc => ?_) (fun hc => ?_)
        · have hc2 := of_decide_eq_true hc
          walk_at "go"
          refine ⟨p, _, rfl, .inl (SqL.of (hid_some.mp hp7).2), ?_⟩
          rw [ntV_len]
          refine ⟨_, _, rfl, rfl, by omega, ?_⟩
          exact rest _ _ ⟨rfl, j + 1 + j2 + 1 + d2 - row.length, by omega, rfl⟩
        · have hc2 := of_decide_eq_false (Bool.eq_false_iff.mpr hc)
          walk_at "go"
          exact rest _ _ ⟨rfl, j + 1 + j2 + 1 + d2, by omega, rfl⟩
      · rintro σ H' ⟨rfl, h, hh, rfl⟩
        have hg : j + 1 + d1 ≤ row.length := by omega
        generalize j + 1 + d1 = g at hg
        have e1 : (if (h : Int) < (g : Int) then (h : Int) else (g : Int)) = ((min g h : Nat) : Int) := by split <;> omega
        have e2 : (if (h : Int) > (g : Int) then (h : Int) else (g : Int)) = ((max g h : Nat) : Int) := by split <;> omega
        walk_at "go"
        rw [e1, e2]
        have lh : min g h ≤ max g h := by omega
        have hh2 : max g h ≤ row.length := by omega
        generalize min g h = lo at lh
        generalize max g h = hi at lh hh2
        clear e1 e2
        have hlen := ntV_len row
        refine slB hb7 hp7 fun a1 K1 kb1 ks1 ka1 => ?_
        rw [cutV_take, ntV_take] at ka1
        walk_at "go"
        refine ⟨by show 1 ≤ sizeLine; decide, fun a2 na2 => ?_⟩
        obtain ⟨kb2, ks2, ka2⟩ := newB (o := .lst [.int ((i + 1 : Nat) : Int)]) kb1 na2
        generalize upd K1 a2 (.lst [.int ((i + 1 : Nat) : Int)]) = K2 at kb2 ks2 ka2
        refine catB kb2 (ks2 _ _ ka1) ka2 (by rw [ntV_len, List.length_take]; show _ + 1 ≤ _; omega) fun a3 K3 kb3 ks3 ka3 => ?_
        have t3 := (ks1.trans ks2).trans ks3
        walk_at "go"
        refine slB kb3 (t3 _ _ hp7) fun a4 K4 kb4 ks4 ka4 => ?_
        rw [cutV_mid lh (by omega)] at ka4
        refine catB kb4 (ks4 _ _ ka3) ka4 (by have := cut_len (ntV row) lo hi; rw [List.length_append, ntV_len, List.length_take]; show _ + 1 + _ ≤ _; omega) fun a5 K5 kb5 ks5 ka5 => ?_
        have t5 := (t3.trans ks4).trans ks5
        walk_at "go"
        refine ⟨by show 1 ≤ sizeLine; decide, fun a6 na6 => ?_⟩
        obtain ⟨kb6, ks6, ka6⟩ := newB (o := .lst [.int ((i + 1 : Nat) : Int)]) kb5 na6
        generalize upd K5 a6 (.lst [.int ((i + 1 : Nat) : Int)]) = K6 at kb6 ks6 ka6
        have cl := cut_len (ntV row) lo hi
        refine catB kb6 (ks6 _ _ ka5) ka6 (by rw [List.length_append, List.length_append, ntV_len, List.length_take]; show _ + 1 + _ + 1 ≤ _; omega) fun a7 K7 kb7 ks7 ka7 => ?_
        have t7 := (t5.trans ks6).trans ks7
        walk_at "go"
        dsimp only [tNoPart]
        refine slB kb7 (t7 _ _ hp7) fun a8 K8 kb8 ks8 ka8 => ?_
        rw [cutV_drop, ntV_drop] at ka8
        refine catB kb8 (ks8 _ _ ka7) ka8 (by rw [List.length_append, List.length_append, List.length_append, ntV_len, ntV_len, List.length_take, List.length_drop]; show _ + 1 + _ + 1 + _ ≤ _; omega) fun a9 K9 kb9 ks9 ka9 => ?_
        unfold cut at ka9
        rw [show [V.int ((i + 1 : Nat) : Int)] = ntV [i + 1] from rfl, ntV_take, ntV_drop, ntV_app, ntV_app, ntV_app, ntV_app] at ka9
        exact ⟨a9, _, _, _, _, _, _, _, _, _, rfl, kb9, ((S7.trans t7).trans ks8).trans ks9, ka9, ((hf.ins (List.Perm.refl _)).ins (tie_perm lh)).up⟩
    · rintro σ H2 ⟨p, row, e3, e4, e5, e6, e7, e8, e9, e10, rfl, hb2, s2, hp2, hf⟩
      walk_at "go"
      exact q p row H2 hb2 s2 hp2 (by rwa [show ((n : Int) - 1).toNat + 1 = n by omega] at hf)
end
end Cl

namespace Cl
local macro_rules | `(tactic| walk_at "go") => `(tactic| repeat (first | (refine ⟨_, rfl, ?_⟩) | (refine ⟨_, _, rfl, rfl, ?_⟩) | (refine ⟨_, rfl, rfl, ?_⟩) | (refine ⟨_, _, rfl, ?_⟩) | (refine And.intro (by first | with_reducible rfl | rfl | omega | decide | assumption | (dsimp only; first | omega | decide | assumption)) ?_)))

local macro_rules | `(tactic| walk_at "bag") => `(tactic| repeat (first | (refine ⟨_, _, _, _, rfl, rfl, L2.SqL.of L2.upd_same, (by rfl), ?_⟩) | (refine ⟨_, _, _, _, rfl, rfl, L2.upd_same, (by rfl), ?_⟩) | (refine ⟨_, rfl, ?_⟩) | (refine ⟨_, _, rfl, rfl, ?_⟩) | (refine ⟨_, rfl, rfl, ?_⟩) | (refine ⟨_, _, rfl, ?_⟩) | (refine And.intro (by first | with_reducible rfl | rfl | omega | decide | assumption | (dsimp only; first | omega | decide | assumption)) ?_)))
open PySem L2 Own Ring
section
variable {P : Program} {w : World} {K : PySem.W.Frag} {mg : PySem.Str → Option Value} {base : Heap} {CR CM kd : Addr}
/-! ### making names -/
theorem same_hid_put {B : List Addr} {H0 H : Hp} {p : Addr} {o : HO} (e : Same (hid B H0) (hid B H)) (h : H0 p = none) : Same (hid B H0) (hid B (upd H p o)) := fun a u q => by
  have z := hid_some.mp q
  exact hid_some.mpr ⟨z.1, by rw [upd_ne (ne_of_none z.2 h)]; exact (hid_some.mp (e a u q)).2⟩
theorem cps_app (x y : PySem.Str) : (x ++ y).cps.toList = x.cps.toList ++ y.cps.toList := by
  show (x.cps ++ y.cps).toList = _
  simp
theorem len_cps (x : PySem.Str) : x.length = x.cps.toList.length := by simp [Str.length]
theorem lit1 {d : Nat} (hd : d < 26) : ∃ c, atI ("abcdefghijklmnopqrstuvwxyz" : PySem.Str).cps.toList (d : Int) = some c ∧ 97 ≤ c ∧ c ≤ 122 := by
  have h : ("abcdefghijklmnopqrstuvwxyz" : PySem.Str).cps.toList.length = 26 ∧ ∀ x ∈ ("abcdefghijklmnopqrstuvwxyz" : PySem.Str).cps.toList, 97 ≤ x ∧ x ≤ 122 := by decide +kernel
  have hd2 := h.1 ▸ hd
  exact ⟨_, atI_nat (List.getElem?_eq_getElem hd2), h.2 _ (List.getElem_mem hd2)⟩
theorem lit2 {d : Nat} (hd : d < 36) : ∃ c, atI ("etaoin0123456789bcdfghjklmpqrsuvwxyz" : PySem.Str).cps.toList (d : Int) = some c ∧ Sgn c := by
  have h : ("etaoin0123456789bcdfghjklmpqrsuvwxyz" : PySem.Str).cps.toList.length = 36 ∧ ∀ x ∈ ("etaoin0123456789bcdfghjklmpqrsuvwxyz" : PySem.Str).cps.toList, (97 ≤ x ∧ x ≤ 122) ∨ (48 ≤ x ∧ x ≤ 57) := by decide +kernel
  have hd2 := h.1 ▸ hd
  exact ⟨_, atI_nat (List.getElem?_eq_getElem hd2), h.2 _ (List.getElem_mem hd2)⟩
/-- a letter and at most m signs behind it -/
def NmS (m : Nat) (z : PySem.Str) : Prop := ∃ c r, z.cps.toList = c :: r ∧ (97 ≤ c ∧ c ≤ 122) ∧ (∀ x ∈ r, Sgn x) ∧ r.length ≤ m
theorem NmS.one {c : Nat} (h : 97 ≤ c ∧ c ≤ 122) : NmS 0 ⟨#[c]⟩ := ⟨c, [], rfl, h, fun x hx => (by cases hx), Nat.le_refl _⟩
theorem NmS.app {m k : Nat} {z y : PySem.Str} (h : NmS m z) (h1 : ∀ x ∈ y.cps.toList, Sgn x) (h2 : y.cps.toList.length ≤ k) : NmS (m + k) (z ++ y) := by
  obtain ⟨c, r, e, hc, hr, hl⟩ := h
  refine ⟨c, r ++ y.cps.toList, by rw [cps_app, e]; rfl, hc, fun x hx => ?_, by rw [List.length_append]; omega⟩
  rcases List.mem_append.mp hx with z | z
  · exact hr x z
  · exact h1 x z
theorem NmS.le {m k : Nat} {z : PySem.Str} (h : NmS m z) (hk : m ≤ k) : NmS k z := by
  obtain ⟨c, r, e, hc, hr, hl⟩ := h
  exact ⟨c, r, e, hc, hr, Nat.le_trans hl hk⟩
theorem NmS.len {m : Nat} {z : PySem.Str} (h : NmS m z) : z.length ≤ m + 1 := by
  obtain ⟨c, r, e, hc, hr, hl⟩ := h
  rw [len_cps, e]
  simpa using hl
theorem NmS.nm {z : PySem.Str} (h : NmS 7 z) : Nm z := by
  refine ⟨h.len, ?_, ?_⟩
  · obtain ⟨c, r, e, hc, hr, hl⟩ := h
    exact ⟨c, r, e, hc⟩
  · obtain ⟨c, r, e, hc, hr, hl⟩ := h
    intro x hx
    rw [e] at hx
    rcases List.mem_cons.mp hx with rfl | hx
    · exact .inl hc
    · exact hr x hx
theorem digs : ∀ d : Fin 120, (∀ x ∈ (PySem.Str.ofString (toString ((d.val : Nat) : Int))).cps.toList, (97 ≤ x ∧ x ≤ 122) ∨ (48 ≤ x ∧ x ≤ 57)) ∧ (PySem.Str.ofString (toString ((d.val : Nat) : Int))).cps.toList.length ≤ 3 := by decide +kernel
theorem digs_inj : ∀ i j : Fin 12, (PySem.Str.ofString (toString ((i.val : Nat) : Int))).cps.toList = (PySem.Str.ofString (toString ((j.val : Nat) : Int))).cps.toList → i = j := by decide +kernel
theorem join_ones : ∀ ds : List Nat, (Txt.join ("" : PySem.Str) (ds.map fun d => (⟨#[d]⟩ : PySem.Str))).cps.toList = ds := fun ds => by
  rw [TL.join_eq]
  induction ds with
  | nil => rfl
  | cons d ds ih =>
    cases ds with
    | nil => rfl
    | cons e ds =>
      show ((⟨#[d]⟩ : PySem.Str) ++ ("" : PySem.Str) ++ Str.join ("" : PySem.Str) ((e :: ds).map fun d => (⟨#[d]⟩ : PySem.Str))).cps.toList = _
      rw [cps_app, cps_app, ih, show ("" : PySem.Str).cps.toList = [] by decide +kernel]
      rfl
/-- the names that are taken where one comes twice -/
def candS (c j : Nat) : PySem.Str := (⟨#[c]⟩ ++ ("x" : PySem.Str)) ++ PySem.Str.ofString (toString ((j : Nat) : Int))
theorem cand_nm {c j : Nat} (hc : 97 ≤ c ∧ c ≤ 122) (hj : j < 12) : NmS 4 (candS c j) :=
  ((NmS.one hc).app (k := 1) (show ∀ x ∈ ("x" : PySem.Str).cps.toList, (97 ≤ x ∧ x ≤ 122) ∨ (48 ≤ x ∧ x ≤ 57) by decide +kernel) (by decide +kernel)).app (k := 3) (digs ⟨j, by omega⟩).1 (digs ⟨j, by omega⟩).2
theorem cand_inj {c i j : Nat} (hi : i < 12) (hj : j < 12) (h : candS c i = candS c j) : i = j := by
  have h2 := congrArg (fun z : PySem.Str => z.cps.toList) h
  unfold candS at h2
  simp only [cps_app, List.append_cancel_left_eq] at h2
  exact Fin.mk.inj_iff.mp (digs_inj ⟨i, hi⟩ ⟨j, hj⟩ h2)
theorem hole {α : Type} [DecidableEq α] : ∀ {l m : List α}, l.Nodup → (∀ x ∈ l, x ∈ m) → l.length ≤ m.length
  | [], _, _, _ => Nat.zero_le _
  | a :: l, m, hd, hs => by
    have ha := hs a List.mem_cons_self
    have h2 := hole (l := l) (m := m.erase a) (List.nodup_cons.mp hd).2 fun x hx => (List.mem_erase_of_ne fun (e : x = a) => (List.nodup_cons.mp hd).1 (by rw [← e]; exact hx)).mpr (hs x (List.mem_cons_of_mem _ hx))
    rw [List.length_erase_of_mem ha] at h2
    have := List.length_pos_of_mem ha
    rw [List.length_cons]
    omega
theorem cand_free {c n : Nat} {N : List PySem.Str} (hn : n ≤ 12) (hN : N.length < n) : ∃ j, j < n ∧ candS c j ∉ N := by
  refine Classical.byContradiction fun h => ?_
  have h2 : ∀ j, j < n → candS c j ∈ N := fun j hj => Classical.byContradiction fun z => h ⟨j, hj, z⟩
  have nd : ((List.range n).map (candS c)).Nodup := by
    rw [List.Nodup, List.pairwise_map]
    refine List.Pairwise.imp_of_mem (fun {a b} ha hb hne e => hne (cand_inj (by have := List.mem_range.mp ha; omega) (by have := List.mem_range.mp hb; omega) e)) List.nodup_range
  have := hole nd fun x hx => by
    obtain ⟨j, hj, rfl⟩ := List.mem_map.mp hx
    exact h2 j (List.mem_range.mp hj)
  rw [List.length_map, List.length_range] at this
  omega
/-! ### _law_names -/
def spNames : Sp := fun vs H Q _ => ∃ (b c : Addr) (n : Nat), vs = [.ref b, .int (n : Int)] ∧ BagAt c H b ∧ n ≤ 12 ∧
  ∀ (p : Addr) (N : List PySem.Str) H', BagAt c H' b → Same (hid [b] H) (hid [b] H') → hid [b] H' p = some (.lst (strsV N)) → N.length = n → N.Nodup → (∀ z ∈ N, Nm z) → Q (.ref p) H'
abbrev sc__law_names_N : List PySem.Str := ["bag", "count", "first", "more", "found", "style", "stem", "k", "name", "size", "j", "one"]
theorem sc__law_names : FnScope sc__law_names_N ["bag", "count"] (defScope (topS 45)) := ⟨rfl, rfl, rfl, by decide +kernel, rfl, by decide +kernel, by decide +kernel⟩
theorem ok_names (T : MdK K mg CR CM kd) (D : DefAt K mg "_law_names" (topS 45) ["bag", "count"]) (D_law_pick : Cal P w K mg base 1 "_law_pick" spPick) : Cal P w K mg base 2 "_law_names" spNames := by
  refine cal_of D sc__law_names (fun vs H Q E h => ?_) (fun f cdv A outer s H vs Q E hr h => ?_)
  · obtain ⟨b, c, n, rfl, _⟩ := h
    rfl
  · obtain ⟨b, c, n, rfl, hb, n12, q⟩ := h
    refine ⟨_, (pss_cons (ps_asg (pe_tup (pa_cons pe_str (pa_cons pe_str (pa_cons (pe_lst pa_nil) pa_nil)))) (pg_tup rfl (pgs_cons (pg_name (i := 2) sc__law_names.nd rfl (Or.inl rfl)) (pgs_cons (pg_name (i := 3) sc__law_names.nd rfl (Or.inr rfl)) (pgs_cons (pg_name (i := 4) sc__law_names.nd rfl (Or.inr rfl)) pgs_nil)))))
  (pss_cons (ps_set (i := 5) sc__law_names.nd rfl (Or.inl rfl) (Own.pe_c D_law_pick hr (by decide) rfl (pa_cons (pv 0) (pa_cons pe_int pa_nil))))
  (pss_cons (ps_set (i := 6) sc__law_names.nd rfl (Or.inr rfl) (pe_op op_add_str (pe_ix ix_str (pv 2) (Own.pe_c D_law_pick hr (by decide) rfl (pa_cons (pv 0) (pa_cons pe_int pa_nil))) (fun _ _ => rfl)) (pe_op Own.os_mul (pe_ix ix_str (pv 3) (Own.pe_c D_law_pick hr (by decide) rfl (pa_cons (pv 0) (pa_cons pe_int pa_nil))) (fun _ _ => rfl)) (Own.pe_c D_law_pick hr (by decide) rfl (pa_cons (pv 0) (pa_cons pe_int pa_nil))))))
  (pss_cons (ps_for PassesOwn.never rfl (Own.pi_rangeN rfl T.range (pa_cons (pv 1) pa_nil)) (pg_name (i := 7) sc__law_names.nd rfl (Or.inl rfl))
   (pss_cons (ps_if (pt_cmpR Own.oc_eq (pv 5) pe_int (nomark _))
   (pss_one (ps_set (i := 8) sc__law_names.nd rfl (Or.inl rfl) (pe_ix ix_str (pv 2) (Own.pe_c D_law_pick hr (by decide) rfl (pa_cons (pv 0) (pa_cons pe_int pa_nil))) (fun _ _ => rfl))))
   (pss_one (ps_if (pt_cmpR Own.oc_eq (pv 5) pe_int (nomark _))
   (pss_one (ps_set (i := 8) sc__law_names.nd rfl (Or.inl rfl) (pe_op op_add_str (pv 6) (pe_callTy call_str_int (by rfl) T.str (by decide +kernel) (pa_cons (Own.pe_c D_law_pick hr (by decide) rfl (pa_cons (pv 0) (pa_cons pe_int pa_nil))) pa_nil)))))
   (pss_cons (ps_set (i := 9) sc__law_names.nd rfl (Or.inl rfl) (Own.pe_c D_law_pick hr (by decide) rfl (pa_cons (pv 0) (pa_cons pe_int pa_nil))))
  (pss_one (ps_set (i := 8) sc__law_names.nd rfl (Or.inl rfl) (pe_op op_add_str (pe_ix ix_str (pv 2) (Own.pe_c D_law_pick hr (by decide) rfl (pa_cons (pv 0) (pa_cons pe_int pa_nil))) (fun _ _ => rfl)) (pe_join pe_str (pe_lc (own := [("j", 10)]) (g := (gName 10)) rfl sc__law_names.nd (Own.pi_rangeN rfl T.range (pa_cons (pv 9) pa_nil)) (blkOk_by (own := [("j", 10)]) (N := sc__law_names_N) (sc := defScope (topS 45)) (by decide +kernel)) (fun _ _ _ _ _ => (pg_name (i := 10) sc__law_names.nd rfl (Or.inl rfl))) (fun _ _ _ _ _ => pts_nil) (fun _ _ _ _ _ => (pe_ix ix_str (pv 3) (Own.pe_c D_law_pick hr (by decide) rfl (pa_cons (pv 0) (pa_cons pe_int pa_nil))) (fun _ _ => rfl))))))))))))
  (pss_cons (ps_if (pt_cmpR (Own.inSeq (K := K) rfl) (pv 8) (pv 4) rfl)
   (pss_one (ps_set (i := 8) sc__law_names.nd rfl (Or.inl rfl) (pe_ix (Own.ixL (K := K) rfl) (pe_lc (own := [("one", 11)]) (g := (gName 11)) rfl sc__law_names.nd (Own.pi_listK (K := K) rfl (pe_lc (own := [("j", 10)]) (g := (gName 10)) rfl sc__law_names.nd (Own.pi_rangeN rfl T.range (pa_cons (pv 1) pa_nil)) (blkOk_by (own := [("j", 10)]) (N := sc__law_names_N) (sc := defScope (topS 45)) (by decide +kernel)) (fun _ _ _ _ _ => (pg_name (i := 10) sc__law_names.nd rfl (Or.inl rfl))) (fun _ _ _ _ _ => pts_nil) (fun _ _ _ _ _ => (pe_op op_add_str (pe_op op_add_str (pe_ix ix_str (pv 6) pe_int (fun _ _ => rfl)) pe_str) (pe_callTy call_str_int (by rfl) T.str (by decide +kernel) (pa_cons (pv 10) pa_nil)))))) (blkOk_by (own := [("one", 11)]) (N := sc__law_names_N) (sc := defScope (topS 45)) (by decide +kernel)) (fun _ _ _ _ _ => (pg_name (i := 11) sc__law_names.nd rfl (Or.inl rfl))) (fun _ _ _ _ _ => (pts_one (pt_cmpR (Own.notInSeq (K := K) rfl) (pv 11) (pv 4) rfl))) (fun _ _ _ _ _ => (pv 11))) pe_int (fun _ _ => rfl))))
   pss_nil)
  (pss_one (ps_expr (pe_bm PySem.F.plainAttrs_list PySem.F.slot_list_append PySem.F.type_list_append mt_append (pv 4) (pa_cons (pv 8) pa_nil)))))))
  (pss_one (ps_ret (pv 4))))))), ?_⟩
    walk_at "go"
    intro p0 hp0
    obtain ⟨hb0, s0, hp1⟩ := newB (o := .lst []) hb hp0
    have hp0H := hp0
    generalize upd H p0 (.lst []) = H0 at hb0 s0 hp1
    walk_at "go"
    refine ⟨by show 3 ≤ sizeLine; decide, fun t ht => ?_⟩
    obtain ⟨hb1, s1, hp2⟩ := newB (o := .tup [.str "abcdefghijklmnopqrstuvwxyz", .str "etaoin0123456789bcdfghjklmpqrsuvwxyz", .ref p0]) hb0 ht
    generalize upd H0 t (.tup [.str "abcdefghijklmnopqrstuvwxyz", .str "etaoin0123456789bcdfghjklmpqrsuvwxyz", .ref p0]) = H1 at hb1 s1 hp2
    refine ⟨t, _, rfl, SqT.of (hid_some.mp hp2).2, rfl, ?_⟩
    refine ⟨_, _, rfl, ?_⟩
    refine ⟨_, _, rfl, ?_⟩
    refine ⟨_, _, rfl, ?_⟩
    refine ⟨rfl, ?_⟩
    have big : 10000 ≤ sizeLine := by rw [sizeLine_eq]; decide
    have l26 : ("abcdefghijklmnopqrstuvwxyz" : PySem.Str).length ≤ sizeLine := Nat.le_trans (by decide +kernel) big
    have l36 : ("etaoin0123456789bcdfghjklmpqrsuvwxyz" : PySem.Str).length ≤ sizeLine := Nat.le_trans (by decide +kernel) big
    walk_at "go"
    refine ⟨b, c, 3, rfl, hb1, by decide, by decide, fun st H2 hst hb2 s2 => ?_⟩
    walk_at "go"
    refine ⟨b, c, 26, rfl, hb2, by decide, by decide, fun d1 H3 hd1 hb3 s3 => ?_⟩
    obtain ⟨c1, ec1, hc1⟩ := lit1 hd1
    refine ⟨_, (d1 : Int), c1, rfl, rfl, l26, ec1, ?_⟩
    walk_at "go"
    refine ⟨b, c, 36, rfl, hb3, by decide, by decide, fun d2 H4 hd2 hb4 s4 => ?_⟩
    obtain ⟨c2, ec2, hc2⟩ := lit2 hd2
    refine ⟨_, (d2 : Int), c2, rfl, rfl, l36, ec2, ?_⟩
    walk_at "go"
    refine ⟨b, c, 3, rfl, hb4, by decide, by decide, fun d3 H5 hd3 hb5 s5 => ?_⟩
    refine ⟨c2, d3, rfl, rfl, by omega, ?_⟩
    have hrl : (⟨(List.replicate d3 c2).toArray⟩ : PySem.Str).length = d3 := by simp [Str.length]
    refine ⟨⟨#[c1]⟩, ⟨(List.replicate d3 c2).toArray⟩, rfl, rfl, by rw [hrl]; show 1 + _ ≤ _; omega, ?_⟩
    have hstem : NmS 2 (⟨#[c1]⟩ ++ ⟨(List.replicate d3 c2).toArray⟩) := ((NmS.one hc1).app (y := ⟨(List.replicate d3 c2).toArray⟩) (k := 2) (fun x hx => (List.eq_of_mem_replicate (show x ∈ List.replicate d3 c2 from hx)) ▸ hc2) (by show (List.replicate d3 c2).length ≤ 2; rw [List.length_replicate]; omega)).le (by decide)
    generalize (⟨#[c1]⟩ ++ ⟨(List.replicate d3 c2).toArray⟩ : PySem.Str) = stem at hstem
    have S5 := ((((s0.trans s1).trans s2).trans s3).trans s4).trans s5
    have hp5 : hid [b] H5 p0 = some (.lst (strsV [])) := ((((s1.trans s2).trans s3).trans s4).trans s5) _ _ hp1
    clear hrl ec1 ec2 s0 s1 s2 s3 s4 s5 hp1 hp2 hb1 hb2 hb3 hb4 hb0 ht hc1 hc2 hd1 hd2 hd3 hp0
    walk_at "go"
    refine for_it walk_rangeN (fun i σ H' => ∃ (N : List PySem.Str) (e7 e8 e9 e10 e11 : Option V), σ = [some (.ref b), some (.int (n : Int)), some (.str "abcdefghijklmnopqrstuvwxyz"), some (.str "etaoin0123456789bcdfghjklmpqrsuvwxyz"), some (.ref p0), some (.int (st : Int)), some (.str stem), e7, e8, e9, e10, e11] ∧
      BagAt c H' b ∧ Same (hid [b] H) (hid [b] H') ∧ hid [b] H' p0 = some (.lst (strsV N)) ∧ N.length = i ∧ N.Nodup ∧ ∀ z ∈ N, Nm z)
      ⟨[], none, none, none, none, none, rfl, hb5, S5, hp5, rfl, List.nodup_nil, fun z hz => by cases hz⟩ (fun _ _ _ _ _ => trivial) ?_ ?_
    · rintro i x σ H6 H7 hi ⟨N, e7, e8, e9, e10, e11, rfl, hb6, s6, hp6, hNl, hNd, hN⟩ ⟨rfl, rfl⟩
      refine seq1_rest (fun σ H' => ∃ (z : PySem.Str) (e9 e10 e11 : Option V), σ = [some (.ref b), some (.int (n : Int)), some (.str "abcdefghijklmnopqrstuvwxyz"), some (.str "etaoin0123456789bcdfghjklmpqrsuvwxyz"), some (.ref p0), some (.int (st : Int)), some (.str stem), some (.int (i : Int)), some (.str z), e9, e10, e11] ∧
        BagAt c H' b ∧ Same (hid [b] H) (hid [b] H') ∧ hid [b] H' p0 = some (.lst (strsV N)) ∧ NmS 7 z) (fun N' rest => ?_) ?_
      · walk_at "go"
        refine ite2 (fun _ => ?_) (fun _ => ?_)
        · walk_at "go"
          refine ⟨b, c, 26, rfl, hb6, by decide, by decide, fun d1 H3 hd1 hb3 s3 => ?_⟩
          obtain ⟨c1, ec1, hc1⟩ := lit1 hd1
          refine ⟨_, (d1 : Int), c1, rfl, rfl, l26, ec1, ?_⟩
          walk_at "go"
          exact rest _ _ ⟨_, _, _, _, rfl, hb3, s6.trans s3, s3 _ _ hp6, (NmS.one hc1).le (by decide)⟩
        · walk_at "go"
          refine ite2 (fun _ => ?_) (fun _ => ?_)
          · walk_at "go"
            refine ⟨b, c, 120, rfl, hb6, by decide, by decide, fun d1 H3 hd1 hb3 s3 => ?_⟩
            walk_at "go"
            refine ⟨by rw [Int.natAbs_natCast]; have := Nat.log2_le_self d1; omega, ?_⟩
            have hdg := digs ⟨d1, hd1⟩
            have hz := (hstem.app (y := PySem.Str.ofString (toString ((d1 : Nat) : Int))) hdg.1 hdg.2).le (k := 7) (by decide)
            refine ⟨_, _, rfl, rfl, by have := hstem.len; have := hdg.2; rw [len_cps (PySem.Str.ofString _)]; dsimp only at *; omega, ?_⟩
            exact rest _ _ ⟨_, _, _, _, rfl, hb3, s6.trans s3, s3 _ _ hp6, hz⟩
          · walk_at "go"
            refine ⟨b, c, 8, rfl, hb6, by decide, by decide, fun sz H3 hsz hb3 s3 => ?_⟩
            walk_at "go"
            refine ⟨b, c, 26, rfl, hb3, by decide, by decide, fun d1 H4 hd1 hb4 s4 => ?_⟩
            obtain ⟨c1, ec1, hc1⟩ := lit1 hd1
            refine ⟨_, (d1 : Int), c1, rfl, rfl, l26, ec1, ?_⟩
            refine ⟨⟨_, rfl⟩, ?_⟩
            walk_at "go"
            intro D hD
            obtain ⟨hb5, s5, hD5⟩ := newB (o := .lst []) hb4 hD
            have hDb := hb4.ne hD
            have hDp : p0 ≠ D := ne_of_none (hid_some.mp (s4 _ _ (s3 _ _ hp6))).2 hD
            have hDH : H4 D = none := hD
            refine lc_it walk_rangeN (fun j H' => BagAt c H' b ∧ Same (hid [b] H4) (hid [b] H') ∧ ∃ ds : List Nat, hid [b] H' D = some (.lst (strsV (ds.map fun d => ⟨#[d]⟩))) ∧ ds.length = j ∧ ∀ d ∈ ds, Sgn d) ⟨hb5, s5, [], hD5, rfl, fun d h => by cases h⟩ (fun _ _ _ _ => trivial) ?_ ?_
            · rintro j x K1 K2 hj ⟨kb1, ks1, ds, kD, kl, kd⟩ ⟨rfl, rfl⟩
              walk_at "go"
              refine ⟨b, c, 36, rfl, kb1, by decide, by decide, fun d2 K3 hd2 kb3 ks3 => ?_⟩
              obtain ⟨c2, ec2, hc2⟩ := lit2 hd2
              refine ⟨_, (d2 : Int), c2, rfl, rfl, l36, ec2, ?_⟩
              have kD3 := ks3 _ _ kD
              refine ⟨_, (hid_some.mp kD3).2, by rw [strsV_len, List.length_map]; omega, kb3.put hDb, same_hid_put (ks1.trans ks3) hDH, ds ++ [c2], hid_some.mpr ⟨(hid_some.mp kD).1, ?_⟩, by rw [List.length_append, kl]; rfl, fun d hd => ?_⟩
              · rw [upd_same, List.map_append]
                unfold strsV
                rw [List.map_append]
                rfl
              · rcases List.mem_append.mp hd with z | z
                · exact kd d z
                · rw [List.mem_singleton.mp z]; exact hc2
            · rintro K1 ⟨kb1, ks1, ds, kD, kl, kd⟩
              refine ⟨"", D, ds.map fun d => ⟨#[d]⟩, rfl, rfl, .inl (SqL.of (hid_some.mp kD).2), ?_, ?_⟩
              · rw [List.map_map]
                have e1 : ∀ l : List Nat, (l.map ((fun x : PySem.Str => x.length) ∘ fun d => (⟨#[d]⟩ : PySem.Str))).sum = l.length := fun l => by
                  induction l with
                  | nil => rfl
                  | cons x l ih => rw [List.map_cons, List.sum_cons, ih, List.length_cons]; show 1 + _ = _; omega
                rw [e1, kl, show ("" : PySem.Str).length = 0 by decide +kernel]
                omega
              · have ej := join_ones ds
                have hz := ((NmS.one hc1).app (y := Txt.join ("" : PySem.Str) (ds.map fun d => (⟨#[d]⟩ : PySem.Str))) (k := 7) (by rw [ej]; exact kd) (by rw [ej]; omega))
                refine ⟨_, _, rfl, rfl, by rw [len_cps (Txt.join _ _), ej]; show 1 + _ ≤ _; omega, ?_⟩
                exact rest _ _ ⟨_, _, _, _, rfl, kb1, (s6.trans s3).trans (s4.trans ks1), ks1 _ _ (s4 _ _ (s3 _ _ hp6)), hz⟩
      · rintro σ H5 ⟨z, e9, e10, e11, rfl, hb5, s5, hp5, hz⟩
        refine seq1_rest (fun σ H' => ∃ (z : PySem.Str) (e9 e10 e11 : Option V), σ = [some (.ref b), some (.int (n : Int)), some (.str "abcdefghijklmnopqrstuvwxyz"), some (.str "etaoin0123456789bcdfghjklmpqrsuvwxyz"), some (.ref p0), some (.int (st : Int)), some (.str stem), some (.int (i : Int)), some (.str z), e9, e10, e11] ∧
          BagAt c H' b ∧ Same (hid [b] H) (hid [b] H') ∧ hid [b] H' p0 = some (.lst (strsV N)) ∧ NmS 7 z ∧ z ∉ N) (fun N' rest => ?_) ?_
        · walk_at "go"
          refine ⟨p0, _, rfl, .inl (SqL.of (hid_some.mp hp5).2), rfl, flat_strs N, ?_⟩
          walk_at "go"
          rw [show inV (.str z) (strsV N) = decide (z ∈ N) from inV_strs z N]
          refine ite2 (fun hin => ?_) (fun hin => ?_)
          · walk_at "go"
            intro D hD
            obtain ⟨c0, r0, ec0, hc0, _⟩ := id hstem
            have lst : stem.length ≤ sizeLine := by have := hstem.len; omega
            refine lc_it walk_rangeN (fun j H' => H' = upd H5 D (.lst (strsV ((List.range j).map (candS c0))))) rfl (fun _ _ _ _ => trivial) ?_ ?_
            · rintro j x K1 K2 hj rfl ⟨rfl, rfl⟩
              walk_at "go"
              refine ⟨stem, 0, c0, rfl, rfl, lst, by rw [ec0]; exact atI_nat (j := 0) rfl, ?_⟩
              walk_at "go"
              refine ⟨Nat.le_trans (show _ ≤ 2 by show 1 + 1 ≤ 2; decide) (by omega), ?_⟩
              walk_at "go"
              have hcn := cand_nm hc0 (j := j) (by omega)
              have hl2 : (⟨#[c0]⟩ ++ ("x" : PySem.Str)).length + (PySem.Str.ofString (toString ((j : Nat) : Int))).length ≤ 5 := by
                have := hcn.len
                unfold candS at this
                rw [len_cps, cps_app, List.length_append, ← len_cps, ← len_cps] at this
                exact this
              refine ⟨by rw [Int.natAbs_natCast]; have := Nat.log2_le_self j; omega, ?_⟩
              refine ⟨_, _, rfl, rfl, by omega, ?_⟩
              refine ⟨_, upd_same, by rw [strsV_len, List.length_map, List.length_range]; omega, ?_⟩
              rw [upd_upd, List.range_succ, List.map_append]
              unfold strsV
              rw [List.map_append]
              rfl
            · rintro K1 rfl
              refine ⟨D, rfl, ⟨_, SqL.of upd_same⟩, fun D2 hD2 => ?_⟩
              generalize hC : (List.range n).map (candS c0) = cs at hD2
              have hcl : cs.length = n := by rw [← hC, List.length_map, List.length_range]
              have hDD2 : D ≠ D2 := fun e => by rw [← e, upd_same] at hD2; cases hD2
              have hp5D : upd H5 D (.lst (strsV cs)) p0 = some (.lst (strsV N)) := (Same.upd_new hD) _ _ (hid_some.mp hp5).2
              obtain ⟨kb1, ks1, kd1⟩ := newB (o := .lst (strsV cs)) hb5 hD
              have kd2 : upd H5 D (.lst (strsV cs)) D = some (.lst (strsV cs)) := upd_same
              generalize upd H5 D (.lst (strsV cs)) = K1 at hD2 hp5D kb1 ks1 kd1 kd2
              have k1b := kb1.ne hD2
              have hp0D2 : p0 ≠ D2 := ne_of_none hp5D hD2
              refine lc_it walk_list (fun j H' => H' = upd K1 D2 (.lst (strsV ((cs.take j).filter fun x => decide (x ∉ N))))) rfl (fun j H' _ e => by rw [e]; exact SqL.of (by rw [upd_ne hDD2]; exact kd2)) ?_ ?_
              · rintro j x K2 K3 hj rfl ⟨rfl, hx⟩
                obtain ⟨y, hy, rfl⟩ := strsV_get hx
                walk_at "go"
                refine ⟨p0, _, rfl, .inl (SqL.of (by rw [upd_ne hp0D2]; exact hp5D)), rfl, flat_strs N, ?_⟩
                walk_at "go"
                rw [show inV (.str y) (N.map V.str) = decide (y ∈ N) from inV_strs y N]
                have etk : (cs.take (j + 1)).filter (fun x => decide (x ∉ N)) = (cs.take j).filter (fun x => decide (x ∉ N)) ++ (if y ∈ N then [] else [y]) := by
                  rw [List.take_add_one, hy, List.filter_append]
                  congr 1
                  by_cases g : y ∈ N <;> simp [g]
                have hjl : j < cs.length := by rw [strsV_len] at hj; exact hj
                refine ite2 (fun hin => ?_) (fun hin => ?_)
                · have g : y ∉ N := by simpa using hin
                  rw [if_neg g] at etk
                  walk_at "go"
                  refine ⟨_, upd_same, ?_, ?_⟩
                  · rw [strsV_len]
                    have h1 := List.length_filter_le (fun x => decide (x ∉ N)) (cs.take j)
                    have h2 := List.length_take_le j cs
                    omega
                  · rw [upd_upd, etk]
                    unfold strsV
                    rw [List.map_append]
                    rfl
                · have g : y ∈ N := by simpa using hin
                  rw [if_pos g, List.append_nil] at etk
                  rw [etk]
              · rintro K2 rfl
                rw [strsV_len, List.take_length]
                obtain ⟨j, hj, hjN⟩ := cand_free (c := c0) (n := n) (N := N) n12 (by omega)
                have hm : candS c0 j ∈ cs.filter (fun x => decide (x ∉ N)) := List.mem_filter.mpr ⟨by rw [← hC]; exact List.mem_map.mpr ⟨j, List.mem_range.mpr hj, rfl⟩, decide_eq_true hjN⟩
                obtain ⟨y, ys, ey⟩ := List.exists_cons_of_ne_nil (List.ne_nil_of_mem hm)
                have hy := List.mem_filter.mp (ey ▸ List.mem_cons_self : y ∈ cs.filter fun x => decide (x ∉ N))
                rw [ey]
                obtain ⟨kb2, ks2, _⟩ := newB (o := .lst (strsV (y :: ys))) kb1 hD2
                refine ⟨D2, _, 0, .str y, rfl, rfl, SqL.of upd_same, atI_nat (j := 0) rfl, ?_⟩
                have hy3 : NmS 7 y := by
                  have h1 := hy.1
                  rw [← hC] at h1
                  obtain ⟨j', hj', rfl⟩ := List.mem_map.mp h1
                  exact (cand_nm hc0 (by have := List.mem_range.mp hj'; omega)).le (by decide)
                exact rest _ _ ⟨y, _, _, _, rfl, kb2, s5.trans (ks1.trans ks2), ks2 _ _ (ks1 _ _ hp5), hy3, of_decide_eq_true hy.2⟩
          · exact rest _ _ ⟨z, _, _, _, rfl, hb5, s5, hp5, hz, fun h => hin (decide_eq_true h)⟩
        · rintro σ H6 ⟨z, e9, e10, e11, rfl, hb6, s6, hp6, hz, hzN⟩
          walk_at "go"
          refine ⟨.inl ⟨rfl, _, SqL.of (hid_some.mp hp6).2⟩, ?_⟩
          walk_at "go"
          refine ⟨p0, _, _, rfl, rfl, (hid_some.mp hp6).2, (by rw [strsV_len]; omega), ?_⟩
          refine ⟨N ++ [z], _, _, _, _, _, rfl, hb6.put (hb.ne hp0H), same_hid_put s6 hp0H, hid_some.mpr ⟨(hid_some.mp hp6).1, ?_⟩, by rw [List.length_append, hNl]; rfl, ?_, fun y hy => ?_⟩
          · rw [upd_same]
            unfold strsV
            rw [List.map_append]
            rfl
          · rw [List.nodup_append]
            exact ⟨hNd, List.nodup_cons.mpr ⟨by simp, List.nodup_nil⟩, fun a ha b hb e => hzN (by rw [List.mem_singleton.mp hb] at e; rw [← e]; exact ha)⟩
          · rcases List.mem_append.mp hy with g | g
            · exact hN y g
            · rw [List.mem_singleton.mp g]; exact hz.nm
    · rintro σ H6 ⟨N, e7, e8, e9, e10, e11, rfl, hb6, s6, hp6, hNl, hNd, hN⟩
      walk_at "go"
      exact q p0 N H6 hb6 s6 hp6 hNl hNd hN
end
end Cl

namespace Cl
local macro_rules | `(tactic| walk_at "go") => `(tactic| repeat (first | (refine ⟨_, rfl, ?_⟩) | (refine ⟨_, _, rfl, rfl, ?_⟩) | (refine ⟨_, rfl, rfl, ?_⟩) | (refine ⟨_, _, rfl, ?_⟩) | (refine And.intro (by first | with_reducible rfl | rfl | omega | decide | assumption | (dsimp only; first | omega | decide | assumption)) ?_)))

local macro_rules | `(tactic| walk_at "bag") => `(tactic| repeat (first | (refine ⟨_, _, _, _, rfl, rfl, L2.SqL.of L2.upd_same, (by rfl), ?_⟩) | (refine ⟨_, _, _, _, rfl, rfl, L2.upd_same, (by rfl), ?_⟩) | (refine ⟨_, rfl, ?_⟩) | (refine ⟨_, _, rfl, rfl, ?_⟩) | (refine ⟨_, rfl, rfl, ?_⟩) | (refine ⟨_, _, rfl, ?_⟩) | (refine And.intro (by first | with_reducible rfl | rfl | omega | decide | assumption | (dsimp only; first | omega | decide | assumption)) ?_)))
open PySem L2 Own Ring
section
variable {P : Program} {w : World} {K : PySem.W.Frag} {mg : PySem.Str → Option Value} {base : Heap} {CR CM kd : Addr}
/-! ### _law_placed_row -/
theorem idx_eq {α : Type} [DecidableEq α] {l : List α} {y : α} {j : Nat} (hj : j < l.length) (e : l[j]? = some y) (n : y ∉ l.take j) : l.idxOf y = j := by
  have e1 : l = l.take j ++ y :: l.drop (j + 1) := by
    rw [List.getElem?_eq_getElem hj] at e
    rw [← Option.some.inj e, ← List.drop_eq_getElem_cons hj, List.take_append_drop]
  have e2 : (l.take j ++ y :: l.drop (j + 1)).idxOf y = j := by
    rw [List.idxOf_append, if_neg n, List.idxOf_cons_self, List.length_take]
    omega
  rw [← e1] at e2
  exact e2
theorem eqV_str (a b : PySem.Str) : eqV (.str a) (.str b) = decide (a = b) := by
  show (a == b) = _
  by_cases h : a = b
  · simp [h]
  · rw [decide_eq_false h]
    exact beq_false_of_ne h
theorem nmAt_get {N : List PySem.Str} {k : Nat} (h : k < N.length) : nmAt N k = N[k] := by
  unfold nmAt
  rw [List.getD_eq_getElem?_getD, List.getElem?_eq_getElem h]
  rfl
/-- the places of the sorted names -/
def plc (N0 N : List PySem.Str) (k : Nat) : Nat := N.idxOf (nmAt N0 k)
theorem plc_inj {N0 N : List PySem.Str} (hd : N0.Nodup) (hp : N.Perm N0) {a b : Nat} (ha : a < N0.length) (hb : b < N0.length) (h : plc N0 N a = plc N0 N b) : a = b := by
  unfold plc at h
  have ma : nmAt N0 a ∈ N := hp.mem_iff.mpr (nmAt_mem ha)
  have mb : nmAt N0 b ∈ N := hp.mem_iff.mpr (nmAt_mem hb)
  have e1 := List.getElem_idxOf (List.idxOf_lt_length_iff.mpr ma)
  have e2 := List.getElem_idxOf (List.idxOf_lt_length_iff.mpr mb)
  have e3 : nmAt N0 a = nmAt N0 b := by
    rw [← e1, ← e2]
    congr 1
  rw [nmAt_get ha, nmAt_get hb] at e3
  exact (List.getElem_inj hd).mp e3
theorem plc_row {N0 N : List PySem.Str} {l0 : List Nat} (hd : N0.Nodup) (hp : N.Perm N0) (n1 : 1 ≤ N0.length) (n12 : N0.length ≤ 12) (hf : Fil l0 N0.length 0) : RowOk N (l0.map (plc N0 N)) := by
  have hl := hf.len
  refine ⟨fun e => ?_, fun k hk => ?_, by rw [List.length_map, hl]; omega, fun k hk => ?_⟩
  · have := congrArg List.length e
    rw [List.length_map, hl] at this
    simp at this
    omega
  · obtain ⟨x, hx, rfl⟩ := List.mem_map.mp hk
    rw [cnt_map fun y hy e => plc_inj hd hp (hf.lt y hy) (hf.lt x hx) e]
    exact hf.dbl x hx
  · obtain ⟨x, hx, rfl⟩ := List.mem_map.mp hk
    exact List.idxOf_lt_length_iff.mpr (hp.mem_iff.mpr (nmAt_mem (hf.lt x hx)))
theorem nm_sorted {N0 N : List PySem.Str} (hd : N0.Nodup) (hn : ∀ z ∈ N0, Nm z) (hp : N.Perm N0) (hs : PyProof.Rows.sortedS N = true) : NmOk N := by
  refine ⟨fun z hz => hn z (hp.mem_iff.mp hz), ?_⟩
  have h1 := sortedS_pw hs
  have h2 : N.Pairwise (· ≠ ·) := hp.nodup_iff.mpr hd
  refine List.Pairwise.imp₂ (fun a b hab hne => ?_) h1 h2
  cases e : ltS a b with
  | true => rfl
  | false =>
    exact absurd (lin_S.tot a b e (decide_eq_false (List.not_lt.mpr (sle_iff.mp hab)))) hne
def spPlaced (K : PySem.W.Frag) : Sp := fun vs H Q _ => ∃ (n a : Addr) (N0 : List PySem.Str) (l0 : List Nat), vs = [.ref n, .ref a] ∧ SqL K H n (strsV N0) ∧ SqL K H a (ntV l0) ∧ N0.Nodup ∧ (∀ z ∈ N0, Nm z) ∧ 1 ≤ N0.length ∧ N0.length ≤ 12 ∧ Fil l0 N0.length 0 ∧
  ∀ (p o r : Addr) (N : List PySem.Str) (l : List Nat) H', Same H H' → H o = none → H r = none → H' p = some (.tup [.ref o, .ref r]) → H' o = some (.lst (strsV N)) → H' r = some (.lst (ntV l)) → NmOk N → RowOk N l → l.length = 2 * N0.length → N.length = N0.length → Q (.ref p) H'
abbrev sc__law_placed_row_N : List PySem.Str := ["names", "row", "order", "k"]
theorem sc__law_placed_row : FnScope sc__law_placed_row_N ["names", "row"] (defScope (topS 49)) := ⟨rfl, rfl, rfl, by decide +kernel, rfl, by decide +kernel, by decide +kernel⟩
theorem ok_placed (T : MdK K mg CR CM kd) (D : DefAt K mg "_law_placed_row" (topS 49) ["names", "row"]) : Cal P w K mg base 1 "_law_placed_row" (spPlaced K) := by
  refine cal_of D sc__law_placed_row (fun vs H Q E h => ?_) (fun f cdv A outer s H vs Q E hr h => ?_)
  · obtain ⟨n, a, N0, l0, rfl, _⟩ := h
    rfl
  · obtain ⟨n, a, N0, l0, rfl, hn, ha, hnd, hnm, n1, n12, hf, q⟩ := h
    refine ⟨_, (pss_cons (ps_set (i := 2) sc__law_placed_row.nd rfl (Or.inr rfl) (pe_callB cr_sortedS (by rfl) T.sorted (by decide +kernel) (pa_cons (pv 0) pa_nil)))
  (pss_one (ps_ret (pe_tup (pa_cons (pv 2) (pa_cons (pe_lc (own := [("k", 3)]) (g := (gName 3)) rfl sc__law_placed_row.nd (Own.pi_listK (K := K) rfl (pv 1)) (blkOk_by (own := [("k", 3)]) (N := sc__law_placed_row_N) (sc := defScope (topS 49)) (by decide +kernel)) (fun _ _ _ _ _ => (pg_name (i := 3) sc__law_placed_row.nd rfl (Or.inl rfl))) (fun _ _ _ _ _ => pts_nil) (fun _ _ _ _ _ => (Own.pe_index (K := K) rfl (pv 2) (pa_cons (pe_ix (Own.ixL (K := K) rfl) (pv 0) (pv 3) (fun _ _ => rfl)) pa_nil)))) pa_nil)))))), ?_⟩
    have sz := sizeLine_eq
    refine ⟨_, rfl, n, N0, rfl, hn, by omega, fun N o hp hs ho => ?_⟩
    have S1 : Same H (upd H o (.lst (strsV N))) := Same.upd_new ho
    have ho1 : upd H o (.lst (strsV N)) o = some (.lst (strsV N)) := upd_same
    replace S1 : Same H (upd H o (.lst (N.map V.str))) := S1
    replace ho1 : upd H o (.lst (N.map V.str)) o = some (.lst (strsV N)) := ho1
    generalize upd H o (.lst (N.map V.str)) = H1 at S1 ho1
    walk_at "go"
    refine ⟨⟨_, S1.seq ha⟩, fun D hD => ?_⟩
    have hDH : H D = none := same_none S1 hD
    have SD : Same H1 (upd H1 D (.lst [])) := Same.upd_new hD
    refine lc_it walk_list (fun i H' => Same H1 H' ∧ H' D = some (.lst (ntV ((l0.take i).map (plc N0 N))))) ⟨SD, upd_same⟩ (fun i H' _ e => e.1.seq (S1.seq ha)) ?_ ?_
    · rintro i x H2 H3 hi ⟨S2, hD2⟩ ⟨rfl, hx⟩
      obtain ⟨k, hk, rfl⟩ := ntV_get hx
      have hkl : k < N0.length := hf.lt k (List.mem_of_getElem? hk)
      have hm : nmAt N0 k ∈ N := hp.mem_iff.mpr (nmAt_mem hkl)
      walk_at "go"
      refine ⟨.inl ⟨rfl, _, SqL.of (S2 _ _ ho1)⟩, ?_⟩
      walk_at "go"
      refine ⟨n, _, (k : Int), .str (nmAt N0 k), rfl, rfl, (S1.trans S2).seq hn, atI_nat (by unfold strsV; rw [List.getElem?_map, nmAt_get hkl, List.getElem?_eq_getElem hkl]; rfl), ?_⟩
      dsimp only [tNil]
      refine index_go (F := V.str) (fun _ => rfl) eqV_str hm (SqL.of (S2 _ _ ho1)) fun j hj ej nj => ?_
      have eij : plc N0 N k = j := idx_eq hj ej nj
      refine ⟨_, hD2, ?_, fun y o hy => ?_, ?_⟩
      · rw [ntV_len, List.length_map]
        have h1 := List.length_take_le i l0
        rw [ntV_len, hf.len] at hi
        omega
      · rw [upd_ne (ne_of_none hy hD)]
        exact S2 y o hy
      · rw [upd_same, List.take_add_one, hk, List.map_append, ← ntV_app]
        show _ = some (HO.lst (_ ++ [V.int ((plc N0 N k : Nat) : Int)]))
        rw [eij]
    · rintro H2 ⟨S2, hD2⟩
      rw [ntV_len, List.take_length] at hD2
      walk_at "go"
      refine ⟨by show 2 ≤ sizeLine; omega, fun p hp' => ?_⟩
      have S3 : Same H2 (upd H2 p (.tup [.ref o, .ref D])) := Same.upd_new hp'
      exact q p o D N _ _ ((S1.trans S2).trans S3) ho hDH upd_same (S3 _ _ (S2 _ _ ho1)) (S3 _ _ hD2) (nm_sorted hnd hnm hp hs) (plc_row hnd hp n1 n12 hf) (by rw [List.length_map, hf.len]; rfl) hp.length_eq
end
end Cl

namespace Cl
local macro_rules | `(tactic| walk_at "go") => `(tactic| repeat (first | (refine ⟨_, rfl, ?_⟩) | (refine ⟨_, _, rfl, rfl, ?_⟩) | (refine ⟨_, rfl, rfl, ?_⟩) | (refine ⟨_, _, rfl, ?_⟩) | (refine And.intro (by first | with_reducible rfl | rfl | omega | decide | assumption | (dsimp only; first | omega | decide | assumption)) ?_)))

local macro_rules | `(tactic| walk_at "bag") => `(tactic| repeat (first | (refine ⟨_, _, _, _, rfl, rfl, L2.SqL.of L2.upd_same, (by rfl), ?_⟩) | (refine ⟨_, _, _, _, rfl, rfl, L2.upd_same, (by rfl), ?_⟩) | (refine ⟨_, rfl, ?_⟩) | (refine ⟨_, _, rfl, rfl, ?_⟩) | (refine ⟨_, rfl, rfl, ?_⟩) | (refine ⟨_, _, rfl, ?_⟩) | (refine And.intro (by first | with_reducible rfl | rfl | omega | decide | assumption | (dsimp only; first | omega | decide | assumption)) ?_)))
open PySem L2 Own Ring
section
variable {P : Program} {w : World} {K : PySem.W.Frag} {mg : PySem.Str → Option Value} {base : Heap} {CR CM kd : Addr}
/-! ### _law_make_row -/
theorem slQ {a b c : Addr} {xs : List V} {lo hi : Option Int} {H : Hp} {Q : VK} (hb : BagAt c H b) (ha : SqL K (hid [b] H) a xs) (h : ∀ p H', BagAt c H' b → Same (hid [b] H) (hid [b] H') → hid [b] H' p = some (.lst (cutV xs lo hi)) → Q (.ref p) H') : rSlL K (.ref a) lo hi H Q :=
  ⟨a, xs, rfl, hid_sub.seq ha, fun p hp => oneB hb hp (h p)⟩
theorem BagAt.isl {c : Addr} {H : Hp} {b : Addr} (h : BagAt c H b) : ∃ xs, H b = some (.lst xs) := by
  obtain ⟨i, l, m, n, ns, h, _⟩ := h
  exact ⟨_, h⟩
theorem RowAt.hid {C : Addr} {c : Addr} {H : Hp} {b r : Addr} {zs : List PySem.Str} (h : RowAt C H r zs) (hb : BagAt c H b) : RowAt C (hid [b] H) r zs := by
  obtain ⟨dx, e, p, cc, h1, ⟨o, h2, h3⟩⟩ := h
  obtain ⟨xs, hx⟩ := hb.isl
  refine ⟨dx, e, p, cc, hid_some.mpr ⟨fun z => ?_, h1⟩, ⟨o, hid_some.mpr ⟨fun z => ?_, h2⟩, h3⟩⟩
  · rw [List.mem_singleton.mp z, hx] at h1
    cases h1
  · rw [List.mem_singleton.mp z, hx] at h2
    cases h2
theorem RowAt.upd {C D : Addr} {H : Hp} {r : Addr} {zs : List PySem.Str} {xs : List V} {o : HO} (h : RowAt C H r zs) (hD : H D = some (.lst xs)) : RowAt C (upd H D o) r zs := by
  obtain ⟨dx, e, p, cc, h1, ⟨o, h2, h3⟩⟩ := h
  refine ⟨dx, e, p, cc, by rw [upd_ne (fun z => by rw [z, hD] at h1; cases h1)]; exact h1, ⟨o, by rw [upd_ne (fun z => by rw [z, hD] at h2; cases h2)]; exact h2, h3⟩⟩
theorem RowAt.sub {C : Addr} {H : Hp} {b r : Addr} {zs : List PySem.Str} (h : RowAt C (Own.hid [b] H) r zs) : RowAt C H r zs := h.same hid_sub
theorem joinL_len (S : List Nat) : ∀ ps : List (List Nat), (TL.joinL S ps).length ≤ (ps.map List.length).sum + ps.length * S.length
  | [] => Nat.zero_le _
  | [p] => by
    show p.length ≤ (p.length + 0) + (0 + 1) * S.length
    omega
  | p :: q :: r => by
    have ih := joinL_len S (q :: r)
    show (p ++ (S ++ TL.joinL S (q :: r))).length ≤ _
    rw [List.length_append, List.length_append, List.map_cons, List.sum_cons, List.length_cons (a := p), Nat.succ_mul]
    omega
theorem rowText_len {zs : List PySem.Str} (h : ∀ z ∈ zs, Nm z) (hl : zs.length ≤ 28) : (("row" : PySem.Str) :: zs |>.map (fun x => x.length)).sum ≤ 8 * 29 ∧ (rowText zs).length ≤ 40000 := by
  have h1 : ∀ l : List PySem.Str, (∀ z ∈ l, z.length ≤ 8) → (l.map (fun x => x.length)).sum ≤ 8 * l.length := by
    intro l
    induction l with
    | nil => intro _; exact Nat.le_refl _
    | cons x l ih =>
      intro hx
      have a := hx x List.mem_cons_self
      have b := ih fun z hz => hx z (List.mem_cons_of_mem _ hz)
      rw [List.map_cons, List.sum_cons, List.length_cons]
      omega
  have h2 : ∀ z ∈ ("row" : PySem.Str) :: zs, z.length ≤ 8 := fun z hz => by
    rcases List.mem_cons.mp hz with rfl | hz
    · decide +kernel
    · exact (h z hz).len
  have h3 := h1 _ h2
  rw [List.length_cons] at h3
  refine ⟨by omega, ?_⟩
  unfold rowText
  rw [TL.join_eq, len_cps]
  have h4 := joinL_len (" " : PySem.Str).cps.toList ((("row" : PySem.Str) :: zs).map fun z => z.cps.toList)
  have h5 : (Str.join (" " : PySem.Str) (("row" : PySem.Str) :: zs)).cps.toList = TL.joinL (" " : PySem.Str).cps.toList ((("row" : PySem.Str) :: zs).map fun z => z.cps.toList) := TL.tl_join _ _
  rw [h5]
  rw [List.map_map, List.length_map, List.length_cons, show (" " : PySem.Str).cps.toList.length = 1 by decide +kernel] at h4
  have h6 : ((("row" : PySem.Str) :: zs).map (List.length ∘ fun z : PySem.Str => z.cps.toList)).sum = ((("row" : PySem.Str) :: zs).map (fun x => x.length)).sum := by
    congr 1
  omega
def spMake (K : PySem.W.Frag) (CR : Addr) : Sp := fun vs H Q _ => ∃ (b c n a : Addr) (N : List PySem.Str) (l : List Nat), vs = [.ref b, .ref n, .ref a] ∧ BagAt c H b ∧ SqL K (hid [b] H) n (strsV N) ∧ SqL K (hid [b] H) a (ntV l) ∧ NmOk N ∧ RowOk N l ∧ least ltN l = l ∧
  ∀ r H', BagAt c H' b → Same (hid [b] H) (hid [b] H') → RowAt CR (hid [b] H') r (rowNm N l) → Q (.ref r) H'
abbrev sc__law_make_row_N : List PySem.Str := ["bag", "names", "row", "start", "ends", "k", "made"]
theorem sc__law_make_row : FnScope sc__law_make_row_N ["bag", "names", "row"] (defScope (topS 52)) := ⟨rfl, rfl, rfl, by decide +kernel, rfl, by decide +kernel, by decide +kernel⟩
theorem ok_make (T : MdK K mg CR CM kd) (D : DefAt K mg "_law_make_row" (topS 52) ["bag", "names", "row"]) (D_law_pick : Cal P w K mg base 1 "_law_pick" spPick) (D_Row : Mak P w K mg base 4 "Row" CR (spRow CR)) (D_Row_read : Sta P w K mg base 6 CR "read" (spRead CR)) : Cal P w K mg base 7 "_law_make_row" (spMake K CR) := by
  refine cal_of D sc__law_make_row (fun vs H Q E h => ?_) (fun f cdv A outer s H vs Q E hr h => ?_)
  · obtain ⟨b, c, n, a, N, l, rfl, _⟩ := h
    rfl
  · obtain ⟨b, c, n, a, N, l, rfl, hb, hn, ha, hN, hl, hlt, q⟩ := h
    refine ⟨_, (pss_cons (ps_set (i := 3) sc__law_make_row.nd rfl (Or.inl rfl) (Own.pe_c D_law_pick hr (by decide) rfl (pa_cons (pv 0) (pa_cons (pe_op Own.on_add (pe_callB call_len_seq (by rfl) T.len (by decide +kernel) (pa_cons (pv 2) pa_nil)) pe_int) pa_nil))))
  (pss_cons (ps_setLc (i := 4) (own := [("k", 5)]) (g := (gName 5)) rfl sc__law_make_row.nd rfl rfl (sw_true rfl rfl rfl (by decide +kernel)) (Own.pi_listK (K := K) rfl (pe_op op_cat (pe_slice (Own.slL (K := K) rfl) (pv 2) (po_some (pv 3)) po_none) (pe_slice (Own.slL (K := K) rfl) (pv 2) po_none (po_some (pv 3))))) (blkOk_by (own := [("k", 5)]) (N := sc__law_make_row_N) (sc := defScope (topS 52)) (by decide +kernel)) (fun _ _ _ _ _ => (pg_name (i := 5) sc__law_make_row.nd rfl (Or.inl rfl))) (fun _ _ _ _ _ => pts_nil) (fun _ _ _ _ _ => (pe_ix (Own.ixL (K := K) rfl) (pv 1) (pv 5) (fun _ _ => rfl))))
  (pss_cons (ps_if (pt_cmpR Own.oc_eq (Own.pe_c D_law_pick hr (by decide) rfl (pa_cons (pv 0) (pa_cons pe_int pa_nil))) pe_int (nomark _))
   (pss_one (ps_ret (Own.pe_st D_Row_read hr (by decide) (Own.pe_gl rfl T.c_Row) (pa_cons (pe_join pe_str (pe_op op_cat (pe_lst (pa_cons pe_str pa_nil)) (pv 4))) pa_nil))))
   pss_nil)
  (pss_cons (ps_set (i := 6) sc__law_make_row.nd rfl (Or.inl rfl) (Own.pe_mk D_Row hr (by decide) rfl (pa_cons (pv 4) pa_nil)))
  (pss_cons (ps_expr (pe_bm PySem.F.plainAttrs_list PySem.F.slot_list_append PySem.F.type_list_append mt_append (pv 4) (pa_cons pe_str pa_nil)))
  (pss_one (ps_ret (pv 6)))))))), ?_⟩
    have hlen := hl.len
    walk_at "go"
    refine ⟨a, _, rfl, .inl (hid_sub.seq ha), ?_⟩
    rw [ntV_len]
    walk_at "go"
    refine ⟨b, c, l.length + 1, rfl, hb, by omega, by omega, fun st H1 hst hb1 s1 => ?_⟩
    have ha1 := s1.seq ha
    have hn1 := s1.seq hn
    walk_at "go"
    dsimp only [tNoPart]
    refine slQ hb1 ha1 fun p2 H2 hb2 s2 hp2 => ?_
    rw [cutV_drop, ntV_drop] at hp2
    walk_at "go"
    refine slQ hb2 (s2.seq ha1) fun p3 H3 hb3 s3 hp3 => ?_
    rw [cutV_take, ntV_take] at hp3
    have sz := sizeLine_eq
    refine catB hb3 (s3 _ _ hp2) hp3 (by rw [ntV_len, ntV_len, List.length_take, List.length_drop]; omega) fun p4 H4 hb4 s4 hp4 => ?_
    rw [ntV_app] at hp4
    have hrt : Rt l (l.drop st ++ l.take st) := ⟨_, _, (List.take_append_drop st l).symm, rfl⟩
    have hm := hl.perm hrt.perm
    have hlm : least ltN (l.drop st ++ l.take st) = l := by rw [← least_of_rt lin_N hrt]; exact hlt
    generalize l.drop st ++ l.take st = m at hp4 hrt hm hlm
    have hn4 := ((s2.trans s3).trans s4).seq hn1
    have S4 := ((s1.trans s2).trans s3).trans s4
    clear hp2 hp3 s1 s2 s3 s4 hb1 hb2 hb3 ha1 hn1
    refine ⟨p4, rfl, ⟨_, SqL.of (hid_some.mp hp4).2⟩, fun D hD => ?_⟩
    refine lc_it walk_list (fun i H' => H' = upd H4 D (.lst (strsV (rowNm N (m.take i))))) rfl (fun i H' _ e => by rw [e]; exact (Same.upd_new hD).seq (SqL.of (hid_some.mp hp4).2)) ?_ ?_
    · rintro i x K1 K2 hi rfl ⟨rfl, hx⟩
      obtain ⟨k, hk, rfl⟩ := ntV_get hx
      have hkl : k < N.length := hm.lt k (List.mem_of_getElem? hk)
      walk_at "go"
      refine ⟨n, _, (k : Int), .str (nmAt N k), rfl, rfl, (Same.upd_new hD).seq (hid_sub.seq hn4), atI_nat (by unfold strsV; rw [List.getElem?_map, nmAt_get hkl, List.getElem?_eq_getElem hkl]; rfl), ?_⟩
      refine ⟨_, upd_same, ?_, ?_⟩
      · unfold rowNm
        rw [strsV_len, List.length_map]
        have h1 := List.length_take_le i m
        have h2 := hm.len
        rw [ntV_len] at hi
        omega
      · unfold rowNm
        rw [upd_upd, List.take_add_one, hk, List.map_append]
        unfold strsV
        rw [List.map_append]
        rfl
    · rintro K1 rfl
      rw [ntV_len, List.take_length]
      have hE := hm.ends hN
      have hlS : least ltS (rowNm N m) = rowNm N l := by
        unfold rowNm
        rw [← hlm, least_map lin_N lin_S fun a b ha hb => nm_ord hN (hm.lt a ha) (hm.lt b hb)]
      have hDb := hb4.ne hD
      have hDH : H D = none := by
        cases e : H D with
        | none => rfl
        | some o =>
          have := (hid_some.mp (S4 D o (hid_some.mpr ⟨by simpa using hDb.1, e⟩))).2
          rw [hD] at this
          cases this
      obtain ⟨hb5, s5, hD5⟩ := newB (o := .lst (strsV (rowNm N m))) hb4 hD
      generalize upd H4 D (.lst (strsV (rowNm N m))) = H5 at hb5 s5 hD5
      walk_at "go"
      refine ⟨b, c, 4, rfl, hb5, by decide, by decide, fun d H6 hd hb6 s6 => ?_⟩
      have hD6 := s6 _ _ hD5
      have S6 := (S4.trans s5).trans s6
      walk_at "go"
      refine ite2 (fun _ => ?_) (fun _ => ?_)
      · walk_at "go"
        refine ⟨⟨_, rfl⟩, ?_⟩
        refine ⟨by show 1 ≤ sizeLine; omega, fun p7 np7 => ?_⟩
        obtain ⟨hb7, s7, hp7⟩ := newB (o := .lst [.str "row"]) hb6 np7
        generalize upd H6 p7 (.lst [.str "row"]) = H7 at hb7 s7 hp7
        walk_at "go"
        refine catB hb7 hp7 (s7 _ _ hD6) (by rw [strsV_len]; have := hE.len; show 1 + _ ≤ _; omega) fun p8 H8 hb8 s8 hp8 => ?_
        obtain ⟨rl1, rl2⟩ := rowText_len hE.nm hE.len
        refine ⟨" ", p8, ("row" : PySem.Str) :: rowNm N m, rfl, rfl, .inl (SqL.of (hid_some.mp hp8).2), ?_, ?_⟩
        · rw [List.length_cons, show (" " : PySem.Str).length = 1 by decide +kernel]
          have := hE.len
          have h9 : (List.map (fun x : PySem.Str => x.length) (("row" : PySem.Str) :: rowNm N m)).sum ≤ 8 * 29 := rl1
          omega
        · refine ⟨rowNm N m, rfl, hE, rl2, fun r H9 e9 hr9 => ?_⟩
          rw [hlS] at hr9
          have hb9 := hb8.imp e9
          exact q r H9 hb9 ((S6.trans (s7.trans s8)).trans (Own.Same.hid _ e9)) (hr9.hid hb9)
      · walk_at "go"
        intro x dx hx hdx hne
        have nx : D ≠ x := ne_of_none (hid_some.mp hD6).2 hx
        have nd : D ≠ dx := ne_of_none (hid_some.mp hD6).2 hdx
        refine ⟨x, dx, D, rowNm N m, rfl, upd_same, by rw [upd_ne nx, upd_ne nd]; exact (hid_some.mp hD6).2, hE, fun H7 e7 hR => ⟨rfl, ?_⟩⟩
        rw [hlS] at hR
        have S7 : Same H6 H7 := made_same hx hdx e7
        have hb7 := hb6.imp S7
        have hD7 := Own.Same.hid [b] S7 _ _ hD6
        walk_at "go"
        refine ⟨.inl ⟨rfl, _, SqL.of (hid_some.mp hD7).2⟩, ?_⟩
        walk_at "go"
        refine ⟨D, _, _, rfl, rfl, (hid_some.mp hD7).2, by rw [strsV_len]; have := hE.len; omega, ?_⟩
        walk_at "go"
        have hb8 := hb7.put (o := .lst (strsV (rowNm N m) ++ [.str "Q"])) hDb
        exact q x _ hb8 (same_hid_put (S6.trans (Own.Same.hid _ S7)) hDH) ((hR.upd (hid_some.mp hD7).2).hid hb8)
end
end Cl

namespace Cl
local macro_rules | `(tactic| walk_at "go") => `(tactic| repeat (first | (refine ⟨_, rfl, ?_⟩) | (refine ⟨_, _, rfl, rfl, ?_⟩) | (refine ⟨_, rfl, rfl, ?_⟩) | (refine ⟨_, _, rfl, ?_⟩) | (refine And.intro (by first | with_reducible rfl | rfl | omega | decide | assumption | (dsimp only; first | omega | decide | assumption)) ?_)))

local macro_rules | `(tactic| walk_at "bag") => `(tactic| repeat (first | (refine ⟨_, _, _, _, rfl, rfl, L2.SqL.of L2.upd_same, (by rfl), ?_⟩) | (refine ⟨_, _, _, _, rfl, rfl, L2.upd_same, (by rfl), ?_⟩) | (refine ⟨_, rfl, ?_⟩) | (refine ⟨_, _, rfl, rfl, ?_⟩) | (refine ⟨_, rfl, rfl, ?_⟩) | (refine ⟨_, _, rfl, ?_⟩) | (refine And.intro (by first | with_reducible rfl | rfl | omega | decide | assumption | (dsimp only; first | omega | decide | assumption)) ?_)))
open PySem L2 Own Ring
section
variable {P : Program} {w : World} {K : PySem.W.Frag} {mg : PySem.Str → Option Value} {base : Heap} {CR CM kd : Addr}
/-! ### the sums of a row -/
def xs : List Nat → Nat
  | [] => 0
  | y :: l => xs l ^^^ 2 ^ y
theorem xs_bit (j : Nat) : ∀ l : List Nat, (xs l).testBit j = decide (l.count j % 2 = 1)
  | [] => by simp [xs]
  | y :: l => by
    show (xs l ^^^ 2 ^ y).testBit j = _
    rw [Nat.testBit_xor, xs_bit j l, Nat.testBit_two_pow, List.count_cons]
    by_cases h : y = j
    · subst h
      simp
      by_cases g : l.count y % 2 = 1
      · simp [g]; omega
      · simp [g]; omega
    · simp [h]
theorem xs_app (l m : List Nat) : xs (l ++ m) = xs l ^^^ xs m := by
  induction l with
  | nil => simp [xs]
  | cons y l ih =>
    show xs (l ++ m) ^^^ 2 ^ y = (xs l ^^^ 2 ^ y) ^^^ xs m
    rw [ih, Nat.xor_assoc, Nat.xor_assoc, Nat.xor_comm (2 ^ y)]
theorem count_cut {l : List Nat} {p q : Nat} (h : p ≤ q) (j : Nat) : (l.take q).count j = (l.take p).count j + (cut l p q).count j := by
  unfold cut
  have e : l.take q = (l.take q).take p ++ (l.take q).drop p := (List.take_append_drop p _).symm
  have e2 := congrArg (List.count j) e
  rw [List.count_append, List.take_take, Nat.min_eq_left h] at e2
  exact e2
theorem piece_of {l : List Nat} {p q r s : Nat} (hd : Dbl l) (h1 : p ≤ q) (h2 : q ≤ r) (h3 : r ≤ s) (h4 : s ≤ l.length) (h : xs (l.take r) ^^^ xs (l.take s) = xs (l.take p) ^^^ xs (l.take q)) : Piece l ⟨p, q, r, s⟩ := by
  refine ⟨h1, h2, h3, h4, fun x hx => ?_⟩
  have hb := congrArg (fun n => n.testBit x) h
  simp only [Nat.testBit_xor, xs_bit] at hb
  have c1 := count_cut (l := l) h1 x
  have c2 := count_cut (l := l) h2 x
  have c3 := count_cut (l := l) h3 x
  have c4 := count_cut (l := l) h4 x
  rw [List.take_length] at c4
  have hi : (inner l ⟨p, q, r, s⟩).count x = (cut l p q).count x + (cut l r s).count x := by
    unfold inner
    rw [List.count_append]
  have hpos := List.count_pos_iff.mpr hx
  rw [hi] at hpos ⊢
  have hmem : x ∈ l := List.count_pos_iff.mp (by omega)
  have hd2 := hd x hmem
  by_cases e1 : (l.take r).count x % 2 = 1 <;> by_cases e2 : (l.take s).count x % 2 = 1 <;> by_cases e3 : (l.take p).count x % 2 = 1 <;> by_cases e4 : (l.take q).count x % 2 = 1 <;> simp [e1, e2, e3, e4] at hb <;> omega
theorem piece_all {l : List Nat} (hd : Dbl l) : Piece l ⟨0, l.length, l.length, l.length⟩ := by
  refine ⟨Nat.zero_le _, Nat.le_refl _, Nat.le_refl _, Nat.le_refl _, fun x hx => ?_⟩
  have e : inner l ⟨0, l.length, l.length, l.length⟩ = l := by
    unfold inner cut
    simp
  rw [e] at hx ⊢
  exact hd x hx
def sm (l : List Nat) (i : Nat) : List Nat := (List.range (i + 1)).map fun k => xs (l.take k)
theorem sm_len (l : List Nat) (i : Nat) : (sm l i).length = i + 1 := by
  unfold sm
  rw [List.length_map, List.length_range]
theorem sm_at {l : List Nat} {i k : Nat} (h : k ≤ i) : atI (ntV (sm l i)) (k : Int) = some (.int ((xs (l.take k) : Nat) : Int)) := by
  refine ntV_at ?_
  unfold sm
  rw [List.getElem?_map, List.getElem?_range (by omega)]
  rfl
theorem sm_step {l : List Nat} {i y : Nat} (h : l[i]? = some y) : sm l (i + 1) = sm l i ++ [xs (l.take i) ^^^ 2 ^ y] := by
  unfold sm
  rw [List.range_succ (n := i + 1), List.map_append]
  congr 1
  show [xs (l.take (i + 1))] = _
  rw [List.take_add_one, h, xs_app]
  show [xs (l.take i) ^^^ (0 ^^^ 2 ^ y)] = _
  rw [Nat.zero_xor]
theorem sm_last (l : List Nat) (i : Nat) : atI (ntV (sm l i)) (-1) = some (.int ((xs (l.take i) : Nat) : Int)) := by
  have h := sm_at (l := l) (Nat.le_refl i)
  have hl := sm_len l i
  rw [← ntV_len] at hl
  generalize ntV (sm l i) = v at h hl
  have e1 : ixN v.length (-1) = some i := by
    unfold ixN
    rw [if_neg (by decide), if_pos (by omega)]
    congr 1
    omega
  have e2 : ixN v.length (i : Int) = some i := by
    unfold ixN
    rw [if_pos (by omega), if_pos (by omega)]
    congr 1
  unfold atI at h ⊢
  rw [e2] at h
  rw [e1]
  exact h
/-- spots: pairs of gaps -/
def SpL (h : Hp) (L : Nat) (vs : List V) : Prop := ∀ x ∈ vs, ∃ (u : Addr) (m n : Nat), x = .ref u ∧ h u = some (.tup [.int (m : Int), .int (n : Int)]) ∧ m ≤ n ∧ n ≤ L
theorem SpL.same {h h' : Hp} {L : Nat} {vs : List V} (s : SpL h L vs) (e : Same h h') : SpL h' L vs := fun x hx => let ⟨u, m, n, a, b, c⟩ := s x hx; ⟨u, m, n, a, e _ _ b, c⟩
theorem SpL.app {h : Hp} {L : Nat} {vs ws : List V} (s : SpL h L vs) (t : SpL h L ws) : SpL h L (vs ++ ws) := fun x hx => (List.mem_append.mp hx).elim (s x) (t x)
def MtL (h : Hp) (l : List Nat) (m n : Nat) (ws : List V) : Prop := ∀ x ∈ ws, ∃ (u : Addr) (r s : Nat), x = .ref u ∧ h u = some (.tup [.int (r : Int), .int (s : Int)]) ∧ n ≤ r ∧ r ≤ s ∧ s ≤ l.length ∧ xs (l.take r) ^^^ xs (l.take s) = xs (l.take m) ^^^ xs (l.take n)
theorem MtL.same {h h' : Hp} {l : List Nat} {m n : Nat} {vs : List V} (s : MtL h l m n vs) (e : Same h h') : MtL h' l m n vs := fun x hx => let ⟨u, r, t, a, b, c⟩ := s x hx; ⟨u, r, t, a, e _ _ b, c⟩
/-! ### _law_some_piece -/
def spPiece (K : PySem.W.Frag) : Sp := fun vs H Q _ => ∃ (b c a : Addr) (l : List Nat), vs = [.ref b, .ref a] ∧ BagAt c H b ∧ SqL K (hid [b] H) a (ntV l) ∧ Dbl l ∧ l ≠ [] ∧ l.length ≤ 28 ∧ (∀ y ∈ l, y < 12) ∧
  ∀ (t : Addr) (g : Gp) H', BagAt c H' b → Same (hid [b] H) (hid [b] H') → hid [b] H' t = some (.tup (gpV g)) → Piece l g → Q (.ref t) H'
abbrev sc__law_some_piece_N : List PySem.Str := ["bag", "row", "sums", "spots", "y", "p", "q", "least", "start", "mates", "r", "s"]
theorem sc__law_some_piece : FnScope sc__law_some_piece_N ["bag", "row"] (defScope (topS 56)) := ⟨rfl, rfl, rfl, by decide +kernel, rfl, by decide +kernel, by decide +kernel⟩
theorem ok_some (T : MdK K mg CR CM kd) (D : DefAt K mg "_law_some_piece" (topS 56) ["bag", "row"]) (D_law_pick : Cal P w K mg base 1 "_law_pick" spPick) (D_law_of : Cal P w K mg base 2 "_law_of" (spOf K)) : Cal P w K mg base 3 "_law_some_piece" (spPiece K) := by
  refine cal_of D sc__law_some_piece (fun vs H Q E h => ?_) (fun f cdv A outer s H vs Q E hr h => ?_)
  · obtain ⟨b, c, a, l, rfl, _⟩ := h
    rfl
  · obtain ⟨b, c, a, l, rfl, hb, ha, hd, h0, hl, hy, q⟩ := h
    refine ⟨_, (pss_cons (ps_asg (pe_tup (pa_cons (pe_lst (pa_cons pe_int pa_nil)) (pa_cons (pe_lst pa_nil) pa_nil))) (pg_tup rfl (pgs_cons (pg_name (i := 2) sc__law_some_piece.nd rfl (Or.inr rfl)) (pgs_cons (pg_name (i := 3) sc__law_some_piece.nd rfl (Or.inl rfl)) pgs_nil))))
  (pss_cons (ps_for PassesOwn.never rfl (Own.pi_listK (K := K) rfl (pv 1)) (pg_name (i := 4) sc__law_some_piece.nd rfl (Or.inl rfl))
   (pss_one (ps_expr (pe_bm PySem.F.plainAttrs_list PySem.F.slot_list_append PySem.F.type_list_append mt_append (pv 2) (pa_cons (pe_op Own.on_xor (pe_ix (Own.ixL (K := K) rfl) (pv 2) (pe_un un_neg pe_int) (fun _ _ => rfl)) (pe_op Own.on_shl pe_int (pv 4))) pa_nil)))))
  (pss_cons (ps_for PassesOwn.never rfl (Own.pi_rangeN rfl T.range (pa_cons (pe_callB call_len_seq (by rfl) T.len (by decide +kernel) (pa_cons (pv 2) pa_nil)) pa_nil)) (pg_name (i := 5) sc__law_some_piece.nd rfl (Or.inr rfl))
   (pss_one (ps_set (i := 3) sc__law_some_piece.nd rfl (Or.inl rfl) (pe_op op_cat (pv 3) (pe_lc (own := [("q", 6)]) (g := (gName 6)) rfl sc__law_some_piece.nd (pi_range2 rfl T.range (pa_cons (pv 5) (pa_cons (pe_callB call_len_seq (by rfl) T.len (by decide +kernel) (pa_cons (pv 2) pa_nil)) pa_nil))) (blkOk_by (own := [("q", 6)]) (N := sc__law_some_piece_N) (sc := defScope (topS 56)) (by decide +kernel)) (fun _ _ _ _ _ => (pg_name (i := 6) sc__law_some_piece.nd rfl (Or.inl rfl))) (fun _ _ _ _ _ => pts_nil) (fun _ _ _ _ _ => (pe_tup (pa_cons (pv 5) (pa_cons (pv 6) pa_nil)))))))))
  (pss_cons (ps_asg (pe_tup (pa_cons (pe_callB (call_min2 rfl) (by rfl) T.min (by decide +kernel) (pa_cons (Own.pe_c D_law_pick hr (by decide) rfl (pa_cons (pv 0) (pa_cons pe_int pa_nil))) (pa_cons pe_int pa_nil))) (pa_cons (Own.pe_c D_law_pick hr (by decide) rfl (pa_cons (pv 0) (pa_cons (pe_callB call_len_seq (by rfl) T.len (by decide +kernel) (pa_cons (pv 3) pa_nil)) pa_nil))) pa_nil))) (pg_tup rfl (pgs_cons (pg_name (i := 7) sc__law_some_piece.nd rfl (Or.inr rfl)) (pgs_cons (pg_name (i := 8) sc__law_some_piece.nd rfl (Or.inl rfl)) pgs_nil))))
  (pss_cons (ps_for PassesOwn.never rfl (Own.pi_listK (K := K) rfl (pe_op op_cat (pe_slice (Own.slL (K := K) rfl) (pv 3) (po_some (pv 8)) po_none) (pe_slice (Own.slL (K := K) rfl) (pv 3) po_none (po_some (pv 8))))) (pg_tup rfl (pgs_cons (pg_name (i := 5) sc__law_some_piece.nd rfl (Or.inr rfl)) (pgs_cons (pg_name (i := 6) sc__law_some_piece.nd rfl (Or.inr rfl)) pgs_nil)))
   (pss_one (ps_if (pt_cmpR Own.oc_ge (pe_op Own.on_sub (pv 6) (pv 5)) (pv 7) (nomark _))
   (pss_cons (ps_setLc (i := 9) (own := [("r", 10), ("s", 11)]) (g := (gTup K 2 (gCons (gName 10) (gCons (gName 11) gNil)))) rfl sc__law_some_piece.nd rfl rfl (sw_true rfl rfl rfl (by decide +kernel)) (Own.pi_listK (K := K) rfl (pv 3)) (blkOk_by (own := [("r", 10), ("s", 11)]) (N := sc__law_some_piece_N) (sc := defScope (topS 56)) (by decide +kernel)) (fun _ _ _ _ _ => (pg_tup rfl (pgs_cons (pg_name (i := 10) sc__law_some_piece.nd rfl (Or.inl rfl)) (pgs_cons (pg_name (i := 11) sc__law_some_piece.nd rfl (Or.inl rfl)) pgs_nil)))) (fun _ _ _ _ _ => (pts_one (PW.pt (pw_and (pt_cmpR Own.oc_ge (pv 10) (pv 6) (nomark _)) (pw_and (pt_cmpR Own.oc_ge (pe_op Own.on_sub (pv 11) (pv 10)) (pv 7) (nomark _)) (pw_and1 (pt_cmpR Own.oc_eq (pe_op Own.on_xor (pe_ix (Own.ixL (K := K) rfl) (pv 2) (pv 10) (fun _ _ => rfl)) (pe_ix (Own.ixL (K := K) rfl) (pv 2) (pv 11) (fun _ _ => rfl))) (pe_op Own.on_xor (pe_ix (Own.ixL (K := K) rfl) (pv 2) (pv 5) (fun _ _ => rfl)) (pe_ix (Own.ixL (K := K) rfl) (pv 2) (pv 6) (fun _ _ => rfl))) (nomark _)))))))) (fun _ _ _ _ _ => (pe_tup (pa_cons (pv 10) (pa_cons (pv 11) pa_nil)))))
  (pss_one (ps_if (pt_truth (pv 9) (by intro _; rfl))
   (pss_cons (ps_asg (Own.pe_c D_law_of hr (by decide) rfl (pa_cons (pv 0) (pa_cons (pv 9) pa_nil))) (pg_tup rfl (pgs_cons (pg_name (i := 10) sc__law_some_piece.nd rfl (Or.inl rfl)) (pgs_cons (pg_name (i := 11) sc__law_some_piece.nd rfl (Or.inl rfl)) pgs_nil))))
  (pss_one (ps_ret (pe_tup (pa_cons (pv 5) (pa_cons (pv 6) (pa_cons (pv 10) (pa_cons (pv 11) pa_nil))))))))
   pss_nil)))
   pss_nil)))
  (pss_one (ps_ret (pe_tup (pa_cons pe_int (pa_cons (pe_callB call_len_seq (by rfl) T.len (by decide +kernel) (pa_cons (pv 1) pa_nil)) (pa_cons (pe_callB call_len_seq (by rfl) T.len (by decide +kernel) (pa_cons (pv 1) pa_nil)) (pa_cons (pe_callB call_len_seq (by rfl) T.len (by decide +kernel) (pa_cons (pv 1) pa_nil)) pa_nil)))))))))))), ?_⟩
    have sz := sizeLine_eq
    walk_at "go"
    intro p0 np0
    obtain ⟨hb0, s0, hp0⟩ := newB (o := .lst [.int 0]) hb np0
    have hp0b := hb.ne np0
    generalize upd H p0 (.lst [.int 0]) = H0 at hb0 s0 hp0
    walk_at "go"
    intro p1 np1
    obtain ⟨hb1, s1, hp1⟩ := newB (o := .lst []) hb0 np1
    have hp1b := hb0.ne np1
    have h01 : p0 ≠ p1 := ne_of_none (hid_some.mp hp0).2 np1
    have np1H : H p1 = none := by
      cases e : H p1 with
      | none => rfl
      | some o =>
        have := (hid_some.mp (s0 p1 o (hid_some.mpr ⟨by simpa using hp1b.1, e⟩))).2
        rw [np1] at this
        cases this
    replace hp0 := s1 _ _ hp0
    generalize upd H0 p1 (.lst []) = H1 at hb1 s1 hp1 hp0
    walk_at "go"
    refine ⟨by show 2 ≤ sizeLine; omega, fun t nt => ?_⟩
    obtain ⟨hb2, s2, ht2⟩ := newB (o := .tup [.ref p0, .ref p1]) hb1 nt
    generalize upd H1 t (.tup [.ref p0, .ref p1]) = H2 at hb2 s2 ht2
    refine ⟨t, _, rfl, SqT.of (hid_some.mp ht2).2, rfl, ?_⟩
    refine ⟨_, _, rfl, ?_⟩
    refine ⟨_, _, rfl, ?_⟩
    refine ⟨rfl, ?_⟩
    have S2 := (s0.trans s1).trans s2
    replace hp0 := s2 _ _ hp0
    replace hp1 := s2 _ _ hp1
    clear s0 s1 s2 hb0 hb1 nt ht2
    refine ⟨_, rfl, a, rfl, ⟨_, hid_sub.seq (S2.seq ha)⟩, ?_⟩
    refine for_it walk_list (fun i σ H' => ∃ (e4 : Option V), σ = [some (.ref b), some (.ref a), some (.ref p0), some (.ref p1), e4, none, none, none, none, none, none, none] ∧ BagAt c H' b ∧ Same (hid [b] H) (hid [b] H') ∧ hid [b] H' p0 = some (.lst (ntV (sm l i))) ∧ hid [b] H' p1 = some (.lst []))
      ⟨none, rfl, hb2, S2, hp0, hp1⟩ (fun i σ H' _ ⟨_, _, _, S, _⟩ => hid_sub.seq (S.seq ha)) ?_ ?_
    · rintro i x σ K1 K2 hi ⟨e4, rfl, kb, ks, k0, k1⟩ ⟨rfl, hx⟩
      obtain ⟨y, hyi, rfl⟩ := ntV_get hx
      have hy12 := hy y (List.mem_of_getElem? hyi)
      rw [ntV_len] at hi
      walk_at "go"
      refine ⟨.inl ⟨rfl, _, SqL.of (hid_some.mp k0).2⟩, ?_⟩
      walk_at "go"
      refine ⟨p0, _, -1, _, rfl, rfl, SqL.of (hid_some.mp k0).2, sm_last l i, ?_⟩
      walk_at "go"
      refine ⟨p0, _, _, rfl, rfl, (hid_some.mp k0).2, by rw [ntV_len, sm_len]; omega, ?_⟩
      refine ⟨_, rfl, kb.put hp0b, same_hid_put ks np0, hid_some.mpr ⟨(hid_some.mp k0).1, ?_⟩, hid_some.mpr ⟨(hid_some.mp k1).1, by rw [upd_ne h01.symm]; exact (hid_some.mp k1).2⟩⟩
      rw [upd_same, sm_step hyi, ← ntV_app, show xs (l.take i) ^^^ 2 ^ y = xs (l.take i) ^^^ 1 * 2 ^ y by rw [Nat.one_mul]]
      rfl
    · rintro σ K1 ⟨e4, rfl, kb, ks, k0, k1⟩
      rw [ntV_len] at k0
      have hsl : (ntV (sm l l.length)).length = l.length + 1 := by rw [ntV_len, sm_len]
      walk_at "go"
      refine ⟨p0, _, rfl, .inl (SqL.of (hid_some.mp k0).2), ?_⟩
      rw [hsl]
      walk_at "go"
      refine for_it walk_rangeN (fun i σ H' => ∃ (p : Addr) (vs : List V) (e5 e6 : Option V), σ = [some (.ref b), some (.ref a), some (.ref p0), some (.ref p), e4, e5, e6, none, none, none, none, none] ∧ BagAt c H' b ∧ Same (hid [b] H) (hid [b] H') ∧ hid [b] H' p0 = some (.lst (ntV (sm l l.length))) ∧
        hid [b] H' p = some (.lst vs) ∧ SpL (hid [b] H') l.length vs ∧ vs.length ≤ i * 29 ∧ i ≤ vs.length)
        ⟨p1, [], none, none, rfl, kb, ks, k0, k1, (fun x hx => by cases hx), by simp, by simp⟩ (fun _ _ _ _ _ => trivial) ?_ ?_
      · rintro i x σ K2 K3 hi ⟨p, vs, e5, e6, rfl, kb2, ks2, k02, kp, kv, kl1, kl2⟩ ⟨rfl, rfl⟩
        walk_at "go"
        refine ⟨p0, _, rfl, .inl (SqL.of (hid_some.mp k02).2), ?_⟩
        rw [hsl]
        walk_at "go"
        intro D hD
        have hDb := kb2.ne hD
        obtain ⟨kb3, ks3, kD3⟩ := newB (o := .lst []) kb2 hD
        refine lc_it walk_range (fun j H' => ∃ ws : List V, BagAt c H' b ∧ Same (hid [b] K3) (hid [b] H') ∧ hid [b] H' D = some (.lst ws) ∧ SpL (hid [b] H') l.length ws ∧ ws.length = j) ⟨[], kb3, ks3, kD3, (fun x hx => by cases hx), rfl⟩ (fun _ _ _ _ => trivial) ?_ ?_
        · rintro j x K4 K5 hj ⟨ws, kb4, ks4, kD4, kw4, kwl⟩ ⟨rfl, rfl⟩
          have hj2 : i + j ≤ l.length := by omega
          rw [show (fun (j : Nat) => V.int ((i : Int) + (j : Int))) j = V.int ((i + j : Nat) : Int) from congrArg V.int (by omega)]
          walk_at "go"
          refine ⟨by show 2 ≤ sizeLine; omega, fun u nu => ?_⟩
          have hDu : D ≠ u := ne_of_none (hid_some.mp kD4).2 nu
          obtain ⟨kb5, ks5, ku5⟩ := newB (o := .tup [.int (i : Int), .int ((i + j : Nat) : Int)]) kb4 nu
          refine ⟨ws, by rw [upd_ne hDu]; exact (hid_some.mp kD4).2, by omega, ws ++ [.ref u], kb5.put hDb, same_hid_put (ks4.trans ks5) hD, ?_⟩
          have kuD : hid [b] (upd (upd K5 u (.tup [.int (i : Int), .int ((i + j : Nat) : Int)])) D (.lst (ws ++ [.ref u]))) u = some (.tup [.int (i : Int), .int ((i + j : Nat) : Int)]) := hid_some.mpr ⟨(hid_some.mp ku5).1, by rw [upd_ne hDu.symm]; exact upd_same⟩
          have kwD : SpL (hid [b] (upd (upd K5 u (.tup [.int (i : Int), .int ((i + j : Nat) : Int)])) D (.lst (ws ++ [.ref u])))) l.length ws := fun x hx => by
            obtain ⟨v, m, n, rfl, hv, h3, h4⟩ := kw4 x hx
            refine ⟨v, m, n, rfl, ?_, h3, h4⟩
            obtain ⟨v1, v2⟩ := hid_some.mp hv
            refine hid_some.mpr ⟨v1, ?_⟩
            rw [upd_ne (fun z => by rw [z, (hid_some.mp kD4).2] at v2; cases v2), upd_ne (ne_of_none v2 nu)]
            exact v2
          refine ⟨hid_some.mpr ⟨(hid_some.mp kD4).1, upd_same⟩, kwD.app fun x hx => ⟨u, i, i + j, List.mem_singleton.mp hx, kuD, by omega, hj2⟩, by rw [List.length_append, kwl]; rfl⟩
        · rintro K4 ⟨ws, kb4, ks4, kD4, kw4, kwl⟩
          refine catB kb4 (ks4 _ _ kp) kD4 (by omega) fun p2 K5 kb5 ks5 kp5 => ?_
          refine ⟨p2, vs ++ ws, _, _, rfl, kb5, (ks2.trans ks4).trans ks5, ks5 _ _ (ks4 _ _ k02), kp5, (kv.same (ks4.trans ks5)).app (kw4.same ks5), ?_, ?_⟩
          · rw [List.length_append, kwl]
            omega
          · rw [List.length_append, kwl]
            omega
      · clear kb ks k0 k1
        rintro σ K2 ⟨p, vs, e5, e6, rfl, kb, ks, k0, kp, kv, kl1, kl2⟩
        walk_at "go"
        refine ⟨b, c, 4, rfl, kb, by decide, by decide, fun d K3 hd4 kb3 ks3 => ?_⟩
        have em : (if (1 : Int) < (d : Int) then (1 : Int) else (d : Int)) = ((min d 1 : Nat) : Int) := by split <;> omega
        walk_at "go"
        have kp3 := ks3 _ _ kp
        refine ⟨p, _, rfl, .inl (SqL.of (hid_some.mp kp3).2), ?_⟩
        walk_at "go"
        refine ⟨b, c, vs.length, rfl, kb3, by omega, by omega, fun st K4 hst kb4 ks4 => ?_⟩
        walk_at "go"
        refine ⟨by show 2 ≤ sizeLine; omega, fun t2 nt2 => ?_⟩
        rw [em]
        obtain ⟨kb5, ks5, kt5⟩ := newB (o := .tup [.int ((min d 1 : Nat) : Int), .int (st : Int)]) kb4 nt2
        generalize upd K4 t2 (.tup [.int ((min d 1 : Nat) : Int), .int (st : Int)]) = K5 at kb5 ks5 kt5
        generalize min d 1 = least at kt5
        refine ⟨t2, _, rfl, SqT.of (hid_some.mp kt5).2, rfl, ?_⟩
        refine ⟨_, _, rfl, ?_⟩
        refine ⟨_, _, rfl, ?_⟩
        refine ⟨rfl, ?_⟩
        have e35 := (ks3.trans ks4).trans ks5
        replace kp := e35 _ _ kp
        replace k0 := e35 _ _ k0
        replace kv := kv.same e35
        replace ks := ks.trans e35
        clear kb3 ks3 em kp3 kb4 ks4 nt2 kt5 ks5 e35 kb
        walk_at "go"
        delta tNoPart
        refine slB kb5 kp fun q1 K6 kb6 ks6 kq1 => ?_
        rw [cutV_drop] at kq1
        walk_at "go"
        refine slB kb6 (ks6 _ _ kp) fun q2 K7 kb7 ks7 kq2 => ?_
        rw [cutV_take] at kq2
        refine catB kb7 (ks7 _ _ kq1) kq2 (by rw [List.length_drop, List.length_take]; omega) fun q3 K8 kb8 ks8 kq3 => ?_
        have e58 := (ks6.trans ks7).trans ks8
        replace kp := e58 _ _ kp
        replace k0 := e58 _ _ k0
        replace kv := kv.same e58
        replace ks := ks.trans e58
        have kv3 : SpL (hid [b] K8) l.length (vs.drop st ++ vs.take st) := fun x hx => kv x ((List.mem_append.mp hx).elim List.mem_of_mem_drop List.mem_of_mem_take)
        have kv3l : (vs.drop st ++ vs.take st).length = vs.length := by rw [List.length_append, List.length_drop, List.length_take]; omega
        generalize vs.drop st ++ vs.take st = us at kq3 kv3 kv3l
        clear kq1 kq2 kb5 kb6 kb7 ks6 ks7 ks8 e58
        refine ⟨q3, rfl, ⟨_, SqL.of (hid_some.mp kq3).2⟩, ?_⟩
        refine for_it walk_list (fun i σ H' => ∃ (e5 e6 e9 e10 e11 : Option V), σ = [some (.ref b), some (.ref a), some (.ref p0), some (.ref p), e4, e5, e6, some (.int (least : Int)), some (.int (st : Int)), e9, e10, e11] ∧ BagAt c H' b ∧ Same (hid [b] K8) (hid [b] H'))
          ⟨_, _, _, _, _, rfl, kb8, Same.refl _⟩ (fun i σ H' _ ⟨_, _, _, _, _, _, _, S⟩ => SqL.of (hid_some.mp (S _ _ kq3)).2) ?_ ?_
        · rintro i x σ L1 L2 hi ⟨e5, e6, e9, e10, e11, rfl, lb, ls⟩ ⟨rfl, hx⟩
          obtain ⟨u, m, n, rfl, hu, hmn, hnl⟩ := kv3.same ls x (List.mem_of_getElem? hx)
          refine ⟨u, _, rfl, SqT.of (hid_some.mp hu).2, rfl, ?_⟩
          refine ⟨_, _, rfl, ?_⟩
          refine ⟨_, _, rfl, ?_⟩
          refine ⟨rfl, ?_⟩
          walk_at "go"
          refine ite2 (fun hc => ?_) (fun hc => ?_)
          · have hc2 := of_decide_eq_true hc
            walk_at "go"
            refine ⟨⟨_, SqL.of (hid_some.mp (ls _ _ kp)).2⟩, fun D hD => ?_⟩
            have hDb := lb.ne hD
            obtain ⟨mb1, ms1, mD1⟩ := newB (o := .lst []) lb hD
            refine lc_it walk_list (fun i H' => ∃ ws : List V, BagAt c H' b ∧ Same (hid [b] L2) (hid [b] H') ∧ hid [b] H' D = some (.lst ws) ∧ MtL (hid [b] H') l m n ws ∧ ws.length ≤ i) ⟨[], mb1, ms1, mD1, (fun x hx => by cases hx), Nat.le_refl _⟩ (fun i H' _ ⟨_, _, S, _⟩ => SqL.of (hid_some.mp (S _ _ (ls _ _ kp))).2) ?_ ?_
            · rintro j x M1 M2 hj ⟨ws, mb, ms, mD, mw, ml⟩ ⟨rfl, hx⟩
              obtain ⟨v, r, t, rfl, hv, hrt, htl⟩ := (kv.same (ls.trans ms)) x (List.mem_of_getElem? hx)
              have hk0 := SqL.of (K := K) (hid_some.mp (ms _ _ (ls _ _ k0))).2
              refine ⟨v, _, rfl, SqT.of (hid_some.mp hv).2, rfl, ?_⟩
              refine ⟨_, _, rfl, ?_⟩
              refine ⟨_, _, rfl, ?_⟩
              refine ⟨rfl, ?_⟩
              walk_at "go"
              refine ite2 (fun hc1 => ?_) (fun _ => ?_)
              · have hnr := of_decide_eq_true hc1
                walk_at "go"
                refine ite2 (fun hc3 => ?_) (fun _ => ?_)
                · walk_at "go"
                  refine ⟨p0, _, (r : Int), _, rfl, rfl, hk0, sm_at (by omega), ?_⟩
                  walk_at "go"
                  refine ⟨p0, _, (t : Int), _, rfl, rfl, hk0, sm_at (by omega), ?_⟩
                  walk_at "go"
                  refine ⟨p0, _, (m : Int), _, rfl, rfl, hk0, sm_at (by omega), ?_⟩
                  walk_at "go"
                  refine ⟨p0, _, (n : Int), _, rfl, rfl, hk0, sm_at (by omega), ?_⟩
                  walk_at "go"
                  refine ite2 (fun hc4 => ?_) (fun _ => ?_)
                  · have hx4 := of_decide_eq_true hc4
                    walk_at "go"
                    refine ⟨by show 2 ≤ sizeLine; omega, fun u2 nu => ?_⟩
                    have hDu : D ≠ u2 := ne_of_none (hid_some.mp mD).2 nu
                    obtain ⟨mb5, ms5, mu5⟩ := newB (o := .tup [.int (r : Int), .int (t : Int)]) mb nu
                    refine ⟨ws, by rw [upd_ne hDu]; exact (hid_some.mp mD).2, by omega, ws ++ [.ref u2], mb5.put hDb, same_hid_put (ms.trans ms5) hD, ?_⟩
                    have muD : hid [b] (upd (upd M2 u2 (.tup [.int (r : Int), .int (t : Int)])) D (.lst (ws ++ [.ref u2]))) u2 = some (.tup [.int (r : Int), .int (t : Int)]) := hid_some.mpr ⟨(hid_some.mp mu5).1, by rw [upd_ne hDu.symm]; exact upd_same⟩
                    have mwD : MtL (hid [b] (upd (upd M2 u2 (.tup [.int (r : Int), .int (t : Int)])) D (.lst (ws ++ [.ref u2])))) l m n ws := fun x hx => by
                      obtain ⟨v, r', s', rfl, hv, h3⟩ := mw x hx
                      refine ⟨v, r', s', rfl, ?_, h3⟩
                      obtain ⟨v1, v2⟩ := hid_some.mp hv
                      refine hid_some.mpr ⟨v1, ?_⟩
                      rw [upd_ne (fun z => by rw [z, (hid_some.mp mD).2] at v2; cases v2), upd_ne (ne_of_none v2 nu)]
                      exact v2
                    refine ⟨hid_some.mpr ⟨(hid_some.mp mD).1, upd_same⟩, fun x hx => (List.mem_append.mp hx).elim (mwD x) fun hx => ⟨u2, r, t, List.mem_singleton.mp hx, muD, hnr, hrt, htl, hx4⟩, by rw [List.length_append]; exact Nat.succ_le_succ ml⟩
                  · exact ⟨ws, mb, ms, mD, mw, Nat.le_succ_of_le ml⟩
                · exact ⟨ws, mb, ms, mD, mw, Nat.le_succ_of_le ml⟩
              · exact ⟨ws, mb, ms, mD, mw, Nat.le_succ_of_le ml⟩
            · rintro M1 ⟨ws, mb, ms, mD, mw, ml⟩
              walk_at "go"
              refine ⟨_, .inl ⟨ws, SqL.of (hid_some.mp mD).2, rfl⟩, ?_⟩
              refine ite2 (fun hne => ?_) (fun _ => ?_)
              · have hpos : 0 < ws.length := by
                  cases ws with
                  | nil => simp at hne
                  | cons x r => simp
                walk_at "go"
                refine ⟨b, c, D, ws, rfl, mb, SqL.of mD, hpos, by omega, fun x M3 hx mb3 ms3 => ?_⟩
                obtain ⟨v, r, t, rfl, hv, hnr, hrt, htl, hxx⟩ := mw.same ms3 x hx
                refine ⟨v, _, rfl, SqT.of (hid_some.mp hv).2, rfl, ?_⟩
                refine ⟨_, _, rfl, ?_⟩
                refine ⟨_, _, rfl, ?_⟩
                refine ⟨rfl, ?_⟩
                walk_at "go"
                refine ⟨by show 4 ≤ sizeLine; omega, fun tt nt => ?_⟩
                obtain ⟨mb4, ms4, mt4⟩ := newB (o := .tup (gpV ⟨m, n, r, t⟩)) mb3 nt
                exact q tt ⟨m, n, r, t⟩ _ mb4 ((((ks.trans ls).trans ms).trans ms3).trans ms4) mt4 (piece_of hd hmn hnr hrt htl hxx)
              · exact ⟨_, _, _, _, _, rfl, mb, ls.trans ms⟩
          · exact ⟨_, _, _, _, _, rfl, lb, ls⟩
        · rintro σ L1 ⟨e5, e6, e9, e10, e11, rfl, lb, ls⟩
          have ha1 := hid_sub.seq (ls.seq (ks.seq ha))
          walk_at "go"
          refine ⟨a, _, rfl, .inl ha1, ?_⟩
          walk_at "go"
          refine ⟨a, _, rfl, .inl ha1, ?_⟩
          walk_at "go"
          refine ⟨a, _, rfl, .inl ha1, ?_⟩
          rw [ntV_len]
          refine ⟨by show 4 ≤ sizeLine; omega, fun t nt => ?_⟩
          obtain ⟨lb2, ls2, lt2⟩ := newB (o := .tup (gpV ⟨0, l.length, l.length, l.length⟩)) lb nt
          exact q t ⟨0, l.length, l.length, l.length⟩ _ lb2 ((ks.trans ls).trans ls2) lt2 (piece_all hd)
end
end Cl

namespace Cl
local macro_rules | `(tactic| walk_at "go") => `(tactic| repeat (first | (refine ⟨_, rfl, ?_⟩) | (refine ⟨_, _, rfl, rfl, ?_⟩) | (refine ⟨_, rfl, rfl, ?_⟩) | (refine ⟨_, _, rfl, ?_⟩) | (refine And.intro (by first | with_reducible rfl | rfl | omega | decide | assumption | (dsimp only; first | omega | decide | assumption)) ?_)))

local macro_rules | `(tactic| walk_at "bag") => `(tactic| repeat (first | (refine ⟨_, _, _, _, rfl, rfl, L2.SqL.of L2.upd_same, (by rfl), ?_⟩) | (refine ⟨_, _, _, _, rfl, rfl, L2.upd_same, (by rfl), ?_⟩) | (refine ⟨_, rfl, ?_⟩) | (refine ⟨_, _, rfl, rfl, ?_⟩) | (refine ⟨_, rfl, rfl, ?_⟩) | (refine ⟨_, _, rfl, ?_⟩) | (refine And.intro (by first | with_reducible rfl | rfl | omega | decide | assumption | (dsimp only; first | omega | decide | assumption)) ?_)))
open PySem L2 Own Ring
section
variable {P : Program} {w : World} {K : PySem.W.Frag} {mg : PySem.Str → Option Value} {base : Heap} {CR CM kd : Addr}
/-! ### the moves of a round -/
/-- everything is flipped -/
def gAll (n : Nat) : Gp := ⟨0, n, n, n⟩
theorem mv_gAll (l : List Nat) {n : Nat} (h : n = l.length) : mv .flip l (gAll n) = l.reverse := mv_all l h
theorem rt_rev {l m : List Nat} (h : Rt l m) : Rt l.reverse m.reverse := by
  obtain ⟨u, v, rfl, rfl⟩ := h
  exact ⟨v.reverse, u.reverse, by rw [List.reverse_append], by rw [List.reverse_append]⟩
theorem flip1 {l : List Nat} {n : Nat} (hd : Dbl l) (hn : n = l.length) : Fits ltN l [(.flip, gAll n)] := by
  subst hn
  exact ⟨piece_all hd, trivial⟩
theorem flip2 {l : List Nat} {n : Nat} (hd : Dbl l) (hn : n = l.length) (hl : least ltN l = l) : Fits ltN l [(.flip, gAll n), (.flip, gAll n)] ∧ run ltN l [(.flip, gAll n), (.flip, gAll n)] = l := by
  subst hn
  have h1 := least_rt lin_N l.reverse
  have e1 : mv .flip l (gAll l.length) = l.reverse := mv_gAll l rfl
  have hl1 : (least ltN l.reverse).length = l.length := by rw [← h1.len, List.length_reverse]
  have hd1 : Dbl (least ltN l.reverse) := (hd.perm (List.reverse_perm l).symm).perm h1.perm
  refine ⟨⟨piece_all hd, ?_, trivial⟩, ?_⟩
  · rw [e1]
    have := piece_all hd1
    rw [hl1] at this
    exact this
  · show least ltN (mv .flip (least ltN (mv .flip l (gAll l.length))) (gAll l.length)) = l
    rw [e1, mv_gAll _ hl1.symm]
    have h2 := rt_rev h1
    rw [List.reverse_reverse] at h2
    rw [← least_of_rt lin_N h2]
    exact hl
/-- the kinds by number -/
def kq : Nat → Kd
  | 0 => .swap
  | 1 => .flip
  | _ => .both
def kqS : List PySem.Str := ["swap", "flip", "both"]
theorem kq_at {k : Nat} (h : k < 3) : atI (strsV kqS) (k : Int) = some (.str (kdS (kq k))) := by
  match k, h with
  | 0, _ => rfl
  | 1, _ => rfl
  | 2, _ => rfl
theorem kq_third {k j : Nat} (hk : k < 3) (hj : j < 2) : kq ((k + 1 + j) % 3) ≠ kq k ∧ third (kq k) (kq ((k + 1 + j) % 3)) = kq ((k + 2 - j) % 3) := by
  match k, j, hk, hj with
  | 0, 0, _, _ => decide
  | 0, 1, _, _ => decide
  | 1, 0, _, _ => decide
  | 1, 1, _, _ => decide
  | 2, 0, _, _ => decide
  | 2, 1, _, _ => decide
theorem two_moves {l : List Nat} {g : Gp} {b : Nat} (f k : Kd) (hd : Dbl l) (P : Piece l g) (h1 : g.p < g.q) (h2 : g.r < g.s) (hb : b < l.length) (hR : (mv f l g).drop b ++ (mv f l g).take b = least ltN (mv f l g)) :
    Fits ltN l ((f, g) :: again f k g l.length b) ∧ run ltN l ((f, g) :: again f k g l.length b) = least ltN (if k = f then l else mv (third f k) l g) := by
  obtain ⟨a, c⟩ := again_ok lin_N f k hd P h1 h2 hb hR.symm
  exact ⟨⟨P, a⟩, c⟩
theorem StL.cons {H : Hp} {u t : Addr} {k : Kd} {g : Gp} {vs : List V} {S : List (Kd × Gp)} (h1 : SqT K H u [.str (kdS k), .ref t]) (h2 : SqT K H t (gpV g)) (h : StL K H vs S) : StL K H (.ref u :: vs) ((k, g) :: S) := by
  refine ⟨congrArg Nat.succ h.1, fun j k' g' hj => ?_⟩
  match j, hj with
  | 0, hj =>
    cases hj
    exact ⟨u, t, rfl, h1, h2⟩
  | j + 1, hj => exact h.2 j k' g' hj
theorem StL.nil {H : Hp} : StL K H [] [] := ⟨rfl, fun j k g hj => by cases hj⟩
theorem g_seq {i : Nat} {v : V} {σ : L2.St} {H : Hp} {A B : TS} {D : Ends} {r : VK} {bk ct : L2.St → Hp → Prop} (h : tSeq A B D (σ.set i (some v)) H) : gName i v σ H (Ends.nx ⟨tSeq A B D, r, bk, ct⟩) := h
theorem if_or {u v : TT} {A B : TS} {D : Ends} {σ : L2.St} {H : Hp} (b1 b2 : Bool) (hu : ∀ Q : Bool → Hp → Prop, Q b1 H → u σ H Q) (hv : ∀ Q : Bool → Hp → Prop, Q b2 H → v σ H Q) (hA : b1 = true ∨ b2 = true → A D σ H) (hB : b1 = false → b2 = false → B D σ H) : tIfS (tOr u v) A B D σ H := by
  refine hu _ ?_
  cases b1 with
  | true => exact hA (.inl rfl)
  | false =>
    refine hv _ ?_
    cases b2 with
    | true => exact hA (.inr rfl)
    | false => exact hB rfl rfl
theorem again_len (f k : Kd) (g : Gp) (n b : Nat) : (again f k g n b).length ≤ 2 := by
  unfold Ring.again
  dsimp only
  repeat' split
  all_goals simp
theorem ne_nats {H : Hp} {a a' : Addr} {l : List Nat} {Q : VK} (h : SqL K H a (ntV l)) (h' : SqL K H a' (ntV l)) (q : Q (.bl false) H) : rNeD K (.ref a) (.ref a') H Q := by
  have nd : Nd 1 (.list (l.map fun (n : Nat) => PyData.int (n : Int))) := by
    unfold Nd
    exact nd_nats l
  exact ne_same (.lst h (dpa_nats _)) (.lst h' (dpa_nats _)) nd (by decide) q
theorem nt_ne {c b p : Addr} {H : Hp} {l : List Nat} (hb : BagAt c H b) (hp : H p = some (.lst (ntV l))) : p ≠ b := fun e => by
  obtain ⟨i, x, m, n, ns, h1, _⟩ := hb
  rw [e, h1] at hp
  have h2 := HO.lst.inj (Option.some.inj hp)
  cases l with
  | nil => cases h2
  | cons y r =>
    have h3 := (List.cons.inj h2).1
    cases h3
/-! ### _law_round -/
def spRound : Sp := fun vs H Q _ => ∃ (b c : Addr), vs = [.ref b] ∧ BagAt c H b ∧ ∀ H', BagAt c H' b → Same (hid [b] H) (hid [b] H') → Q (.bl true) H'
abbrev sc__law_round_N : List PySem.Str := ["bag", "size", "row", "names", "kinds", "made", "turn", "gaps", "k", "j", "steps", "got", "first", "second", "third", "straight"]
theorem sc__law_round : FnScope sc__law_round_N ["bag"] (defScope (topS 62)) := ⟨rfl, rfl, rfl, by decide +kernel, rfl, by decide +kernel, by decide +kernel⟩
theorem ok_round (T : MdK K mg CR CM kd) (D : DefAt K mg "_law_round" (topS 62) ["bag"]) (D_Row_eq : EqI P w K mg base 1 CR (rowR CR)) (D_law_pick : Cal P w K mg base 1 "_law_pick" spPick) (D_law_of : Cal P w K mg base 2 "_law_of" (spOf K)) (D_law_loose_row : Cal P w K mg base 2 "_law_loose_row" spMkRow) (D_law_tied_row : Cal P w K mg base 2 "_law_tied_row" spMkRow)
    (D_law_names : Cal P w K mg base 2 "_law_names" spNames) (D_law_placed_row : Cal P w K mg base 1 "_law_placed_row" (spPlaced K)) (D_law_least : Cal P w K mg base 1 "_law_least" (spLL K)) (D_law_make_row : Cal P w K mg base 7 "_law_make_row" (spMake K CR)) (D_law_some_piece : Cal P w K mg base 3 "_law_some_piece" (spPiece K))
    (D_law_apply : Cal P w K mg base 7 "_law_apply" (spApply K CR)) (D_law_again : Cal P w K mg base 3 "_law_again" (spAgain K)) : Cal P w K mg base 8 "_law_round" spRound := by
  refine cal_of D sc__law_round (fun vs H Q E h => ?_) (fun f cdv A outer s H vs Q E hr h => ?_)
  · obtain ⟨b, c, rfl, _⟩ := h
    rfl
  · obtain ⟨b, c, rfl, hb, q⟩ := h
    refine ⟨_, (pss_cons (ps_set (i := 1) sc__law_round.nd rfl (Or.inl rfl) (Own.pe_c D_law_of hr (by decide) rfl (pa_cons (pv 0) (pa_cons (pe_lst (pa_cons pe_int (pa_cons pe_int (pa_cons pe_int (pa_cons pe_int (pa_cons pe_int (pa_cons pe_int (pa_cons pe_int (pa_cons pe_int (pa_cons pe_int (pa_cons pe_int (pa_cons pe_int (pa_cons pe_int pa_nil))))))))))))) pa_nil))))
  (pss_cons (ps_set (i := 2) sc__law_round.nd rfl (Or.inl rfl) (pe_ifExp (pt_cmpR Own.oc_eq (Own.pe_c D_law_pick hr (by decide) rfl (pa_cons (pv 0) (pa_cons pe_int pa_nil))) pe_int (nomark _)) (Own.pe_c D_law_loose_row hr (by decide) rfl (pa_cons (pv 0) (pa_cons (pv 1) pa_nil))) (Own.pe_c D_law_tied_row hr (by decide) rfl (pa_cons (pv 0) (pa_cons (pv 1) pa_nil)))))
  (pss_cons (ps_asg (Own.pe_c D_law_placed_row hr (by decide) rfl (pa_cons (Own.pe_c D_law_names hr (by decide) rfl (pa_cons (pv 0) (pa_cons (pv 1) pa_nil))) (pa_cons (pv 2) pa_nil))) (pg_tup rfl (pgs_cons (pg_name (i := 3) sc__law_round.nd rfl (Or.inl rfl)) (pgs_cons (pg_name (i := 2) sc__law_round.nd rfl (Or.inl rfl)) pgs_nil))))
  (pss_cons (ps_par (i := 2) (j := 4) rfl sc__law_round.nd rfl rfl (by decide) rfl rfl (pa_cons (Own.pe_c D_law_least hr (by decide) rfl (pa_cons (pv 2) pa_nil)) (pa_cons (pe_lst (pa_cons pe_str (pa_cons pe_str (pa_cons pe_str pa_nil)))) pa_nil)) rfl)
  (pss_cons (ps_set (i := 5) sc__law_round.nd rfl (Or.inl rfl) (Own.pe_c D_law_make_row hr (by decide) rfl (pa_cons (pv 0) (pa_cons (pv 3) (pa_cons (pv 2) pa_nil)))))
  (pss_cons (ps_for PassesOwn.never rfl (Own.pi_rangeN rfl T.range (pa_cons pe_int pa_nil)) (pg_name (i := 6) sc__law_round.nd rfl (Or.inl rfl))
   (pss_cons (ps_par3 (i := 7) (j := 8) (l := 9) rfl sc__law_round.nd rfl rfl rfl (by decide) (by decide) (by decide) rfl rfl rfl (pa_cons (Own.pe_c D_law_some_piece hr (by decide) rfl (pa_cons (pv 0) (pa_cons (pv 2) pa_nil))) (pa_cons (Own.pe_c D_law_pick hr (by decide) rfl (pa_cons (pv 0) (pa_cons pe_int pa_nil))) (pa_cons (Own.pe_c D_law_pick hr (by decide) rfl (pa_cons (pv 0) (pa_cons pe_int pa_nil))) pa_nil))) rfl)
  (pss_one (ps_if (PW.pt (pw_or (pt_cmpR Own.oc_eq (pe_ix (Own.ixT (K := K) rfl) (pv 7) pe_int (fun _ _ => rfl)) (pe_ix (Own.ixT (K := K) rfl) (pv 7) pe_int (fun _ _ => rfl)) (nomark _)) (pw_or1 (pt_cmpR Own.oc_eq (pe_ix (Own.ixT (K := K) rfl) (pv 7) pe_int (fun _ _ => rfl)) (pe_ix (Own.ixT (K := K) rfl) (pv 7) pe_int (fun _ _ => rfl)) (nomark _)))))
   (pss_cons (ps_set (i := 7) sc__law_round.nd rfl (Or.inl rfl) (pe_tup (pa_cons pe_int (pa_cons (pe_op Own.on_mul pe_int (pv 1)) (pa_cons (pe_op Own.on_mul pe_int (pv 1)) (pa_cons (pe_op Own.on_mul pe_int (pv 1)) pa_nil))))))
  (pss_cons (ps_set (i := 10) sc__law_round.nd rfl (Or.inl rfl) (pe_lst (pa_cons (pe_tup (pa_cons pe_str (pa_cons (pv 7) pa_nil))) pa_nil)))
  (pss_cons (ps_if (pt_cmpR op_isN (Own.pe_c D_law_apply hr (by decide) rfl (pa_cons (pv 3) (pa_cons (pv 5) (pa_cons (pv 2) (pa_cons (pv 10) pa_nil))))) pe_non (nomark _))
   (pss_one (ps_ret pe_bl))
   pss_nil)
  (pss_cons (ps_set (i := 11) sc__law_round.nd rfl (Or.inl rfl) (Own.pe_c D_law_apply hr (by decide) rfl (pa_cons (pv 3) (pa_cons (pv 5) (pa_cons (pv 2) (pa_cons (pe_op op_cat (pv 10) (pv 10)) pa_nil))))))
  (pss_one (ps_if (PW.pt (pw_or (pt_cmpR op_isN (pv 11) pe_non (nomark _)) (pw_or1 (pt_cmpR (Own.neDK (K := K) rfl hr.units) (pe_ix (Own.ixT (K := K) rfl) (pv 11) pe_int (fun _ _ => rfl)) (pv 2) (nomark _)))))
   (pss_one (ps_ret pe_bl))
   pss_nil))))))
   (pss_cons (ps_par (i := 12) (j := 13) rfl sc__law_round.nd rfl rfl (by decide) rfl rfl (pa_cons (pe_ix (Own.ixL (K := K) rfl) (pv 4) (pv 8) (fun _ _ => rfl)) (pa_cons (pe_ix (Own.ixL (K := K) rfl) (pv 4) (pe_op Own.on_mod (pe_callTy Own.intI (by rfl) T.int (by decide +kernel) (pa_cons (pe_op Own.on_add (pe_op Own.on_add (pv 8) pe_int) (pv 9)) pa_nil)) pe_int) (fun _ _ => rfl)) pa_nil)) rfl)
  (pss_cons (ps_set (i := 14) sc__law_round.nd rfl (Or.inl rfl) (pe_ix (Own.ixL (K := K) rfl) (pv 4) (pe_op Own.on_mod (pe_callTy Own.intI (by rfl) T.int (by decide +kernel) (pa_cons (pe_op Own.on_sub (pe_op Own.on_add (pv 8) pe_int) (pv 9)) pa_nil)) pe_int) (fun _ _ => rfl)))
  (pss_cons (ps_set (i := 11) sc__law_round.nd rfl (Or.inl rfl) (Own.pe_c D_law_apply hr (by decide) rfl (pa_cons (pv 3) (pa_cons (pv 5) (pa_cons (pv 2) (pa_cons (pe_op op_cat (pe_lst (pa_cons (pe_tup (pa_cons (pv 12) (pa_cons (pv 7) pa_nil))) pa_nil)) (Own.pe_c D_law_again hr (by decide) rfl (pa_cons (pv 2) (pa_cons (pv 12) (pa_cons (pv 12) (pa_cons (pv 7) pa_nil)))))) pa_nil))))))
  (pss_cons (ps_if (PW.pt (pw_or (pt_cmpR op_isN (pv 11) pe_non (nomark _)) (pw_or1 (pt_cmpR (Own.neDK (K := K) rfl hr.units) (pe_ix (Own.ixT (K := K) rfl) (pv 11) pe_int (fun _ _ => rfl)) (pv 2) (nomark _)))))
   (pss_one (ps_ret pe_bl))
   pss_nil)
  (pss_cons (ps_set (i := 11) sc__law_round.nd rfl (Or.inl rfl) (Own.pe_c D_law_apply hr (by decide) rfl (pa_cons (pv 3) (pa_cons (pv 5) (pa_cons (pv 2) (pa_cons (pe_op op_cat (pe_lst (pa_cons (pe_tup (pa_cons (pv 12) (pa_cons (pv 7) pa_nil))) pa_nil)) (Own.pe_c D_law_again hr (by decide) rfl (pa_cons (pv 2) (pa_cons (pv 12) (pa_cons (pv 13) (pa_cons (pv 7) pa_nil)))))) pa_nil))))))
  (pss_cons (ps_set (i := 15) sc__law_round.nd rfl (Or.inl rfl) (Own.pe_c D_law_apply hr (by decide) rfl (pa_cons (pv 3) (pa_cons (pv 5) (pa_cons (pv 2) (pa_cons (pe_lst (pa_cons (pe_tup (pa_cons (pv 14) (pa_cons (pv 7) pa_nil))) pa_nil)) pa_nil))))))
  (pss_one (ps_if (PW.pt (pw_or (pt_cmpR op_isN (pv 11) pe_non (nomark _)) (pw_or (pt_cmpR op_isN (pv 15) pe_non (nomark _)) (pw_or (pt_cmpR (Own.neDK (K := K) rfl hr.units) (pe_ix (Own.ixT (K := K) rfl) (pv 11) pe_int (fun _ _ => rfl)) (pe_ix (Own.ixT (K := K) rfl) (pv 15) pe_int (fun _ _ => rfl)) (nomark _)) (pw_or1 (pt_not (pt_cmpR (Own.op_own D_Row_eq hr (by decide)) (pe_ix (Own.ixT (K := K) rfl) (pv 11) pe_int (fun _ _ => rfl)) (pe_ix (Own.ixT (K := K) rfl) (pv 15) pe_int (fun _ _ => rfl)) (nomark _))))))))
   (pss_one (ps_ret pe_bl))
   pss_nil))))))))))))
  (pss_one (ps_ret pe_bl)))))))), ?_⟩
    have sz := sizeLine_eq
    walk_at "go"
    intro p0 np0
    obtain ⟨hb0, s0, hp0⟩ := newB (o := .lst (ntV [5, 6, 4, 7, 3, 8, 9, 2, 5, 1, 6, 12])) hb np0
    replace hb0 : BagAt c (upd H p0 (.lst [.int 5, .int 6, .int 4, .int 7, .int 3, .int 8, .int 9, .int 2, .int 5, .int 1, .int 6, .int 12])) b := hb0
    replace s0 : Same (hid [b] H) (hid [b] (upd H p0 (.lst [.int 5, .int 6, .int 4, .int 7, .int 3, .int 8, .int 9, .int 2, .int 5, .int 1, .int 6, .int 12]))) := s0
    replace hp0 : hid [b] (upd H p0 (.lst [.int 5, .int 6, .int 4, .int 7, .int 3, .int 8, .int 9, .int 2, .int 5, .int 1, .int 6, .int 12])) p0 = some (.lst (ntV [5, 6, 4, 7, 3, 8, 9, 2, 5, 1, 6, 12])) := hp0
    generalize upd H p0 (.lst [.int 5, .int 6, .int 4, .int 7, .int 3, .int 8, .int 9, .int 2, .int 5, .int 1, .int 6, .int 12]) = H0 at hb0 s0 hp0
    refine ⟨b, c, p0, _, rfl, hb0, SqL.of hp0, by decide, by decide, fun x H1 hx hb1 s1 => ?_⟩
    obtain ⟨n, hn1, hn12, rfl⟩ : ∃ n : Nat, 1 ≤ n ∧ n ≤ 12 ∧ x = .int (n : Int) := by
      obtain ⟨n, hn, rfl⟩ := List.mem_map.mp hx
      have : ∀ n ∈ [5, 6, 4, 7, 3, 8, 9, 2, 5, 1, 6, 12], 1 ≤ n ∧ n ≤ 12 := by decide
      exact ⟨n, (this n hn).1, (this n hn).2, rfl⟩
    have S1 := s0.trans s1
    clear s0 hp0 hb0 hx s1
    refine g_seq (seq1_rest (fun σ H' => ∃ (p : Addr) (row : List Nat), σ = [some (.ref b), some (.int (n : Int)), some (.ref p), none, none, none, none, none, none, none, none, none, none, none, none, none] ∧ BagAt c H' b ∧ Same (hid [b] H) (hid [b] H') ∧ hid [b] H' p = some (.lst (ntV row)) ∧ Fil row n 0) (fun N rest => ?_) ?_)
    · walk_at "go"
      refine ⟨b, c, 3, rfl, hb1, by decide, by decide, fun d H2 hd hb2 s2 => ?_⟩
      walk_at "go"
      refine ite2 (fun _ => ?_) (fun _ => ?_)
      · walk_at "go"
        refine ⟨b, c, n, rfl, hb2, hn1, hn12, fun p row H3 hb3 s3 hp3 hf => ?_⟩
        exact rest _ _ ⟨p, row, rfl, hb3, (S1.trans s2).trans s3, hp3, hf⟩
      · walk_at "go"
        refine ⟨b, c, n, rfl, hb2, hn1, hn12, fun p row H3 hb3 s3 hp3 hf => ?_⟩
        exact rest _ _ ⟨p, row, rfl, hb3, (S1.trans s2).trans s3, hp3, hf⟩
    · clear hb1 S1
      rintro σ H1 ⟨p, row, rfl, hb1, S1, hp1, hf⟩
      walk_at "go"
      refine ⟨b, c, n, rfl, hb1, hn12, fun pn N0 H2 hb2 s2 hpn hNl hNd hNn => ?_⟩
      walk_at "go"
      refine ⟨pn, p, N0, row, rfl, SqL.of (hid_some.mp hpn).2, SqL.of (hid_some.mp (s2 _ _ hp1)).2, hNd, hNn, by omega, by omega, by rw [hNl]; exact hf, fun t o r N l0 H3 s3 no nr ht ho hr3 hN hl0 hll hNN => ?_⟩
      refine ⟨t, _, rfl, SqT.of ht, rfl, ?_⟩
      refine ⟨_, _, rfl, ?_⟩
      refine ⟨_, _, rfl, ?_⟩
      refine ⟨rfl, ?_⟩
      have hb3 := hb2.imp s3
      have hoB : hid [b] H3 o = some (.lst (strsV N)) := hid_some.mpr ⟨by simpa using (hb2.ne no).1, ho⟩
      have S3 := (S1.trans s2).trans (Own.Same.hid [b] s3)
      have hl0l := hl0.len
      clear hb2 s2 hpn hNn hNd hp1 hb1 S1 no nr ho ht hf s3
      walk_at "go"
      refine ⟨r, l0, rfl, SqL.of hr3, hl0.ne, by omega, fun pl H4 s4 hpl => ?_⟩
      have hpm := (least_rt lin_N l0).perm
      have hl := hl0.perm hpm
      have hlt := least_least lin_N l0
      have hll2 : (least ltN l0).length = 2 * n := by rw [← hpm.length_eq, hll, hNl]
      generalize least ltN l0 = l at hpl hl hlt hll2
      have hb4 := hb3.imp s4
      have hplB : hid [b] H4 pl = some (.lst (ntV l)) := hid_some.mpr ⟨by simpa using nt_ne hb4 hpl, hpl⟩
      have S4 := S3.trans (Own.Same.hid [b] s4)
      have hoB4 := Own.Same.hid [b] s4 _ _ hoB
      clear hb3 s4 hpl hoB S3 hr3 hl0 hll hpm hl0l
      walk_at "go"
      intro kk nkk
      obtain ⟨hb5, s5, hkk⟩ := newB (o := .lst (strsV kqS)) hb4 nkk
      replace hb5 : BagAt c (upd H4 kk (.lst [.str "swap", .str "flip", .str "both"])) b := hb5
      replace s5 : Same (hid [b] H4) (hid [b] (upd H4 kk (.lst [.str "swap", .str "flip", .str "both"]))) := s5
      replace hkk : hid [b] (upd H4 kk (.lst [.str "swap", .str "flip", .str "both"])) kk = some (.lst (strsV kqS)) := hkk
      generalize upd H4 kk (.lst [.str "swap", .str "flip", .str "both"]) = H5 at hb5 s5 hkk
      have hpl5 := s5 _ _ hplB
      have ho5 := s5 _ _ hoB4
      have S5 := S4.trans s5
      clear hb4 nkk s5 hplB hoB4 S4
      walk_at "go"
      refine ⟨b, c, o, pl, N, l, rfl, hb5, SqL.of ho5, SqL.of hpl5, hN, hl, hlt, fun m H6 hb6 s6 hm => ?_⟩
      have hpl6 := s6 _ _ hpl5
      have ho6 := s6 _ _ ho5
      have hkk6 := s6 _ _ hkk
      have S6 := S5.trans s6
      clear hb5 S5 s6 hpl5 ho5 hkk
      walk_at "go"
      refine for_it walk_rangeN (fun i σ H' => ∃ (e6 e7 e8 e9 e10 e11 e12 e13 e14 e15 : Option V), σ = [some (.ref b), some (.int (n : Int)), some (.ref pl), some (.ref o), some (.ref kk), some (.ref m), e6, e7, e8, e9, e10, e11, e12, e13, e14, e15] ∧ BagAt c H' b ∧ Same (hid [b] H6) (hid [b] H'))
        ⟨_, _, _, _, _, _, _, _, _, _, rfl, hb6, Same.refl _⟩ (fun _ _ _ _ _ => trivial) ?_ ?_
      · rintro i x σ H7 H8 hi ⟨e6, e7, e8, e9, e10, e11, e12, e13, e14, e15, rfl, hb7, s7⟩ ⟨rfl, rfl⟩
        walk_at "go"
        have hlt12 : ∀ y ∈ l, y < 12 := fun y hy => by
          have := hl.lt y hy
          omega
        refine ⟨b, c, pl, l, rfl, hb7, SqL.of (s7 _ _ hpl6), hl.dbl, hl.ne, hl.len, hlt12, fun t g K1 kb1 ks1 kt hp => ?_⟩
        walk_at "go"
        refine ⟨b, c, 3, rfl, kb1, by decide, by decide, fun k K2 hk kb2 ks2 => ?_⟩
        walk_at "go"
        refine ⟨b, c, 2, rfl, kb2, by decide, by decide, fun j K3 hj kb3 ks3 => ?_⟩
        dsimp only [tNil]
        refine ⟨_, _, _, rfl, ?_⟩
        have S3 := ((s7.trans ks1).trans ks2).trans ks3
        replace kt := ks3 _ _ (ks2 _ _ kt)
        have kt2 : SqT K K3 t (gpV g) := SqT.of (hid_some.mp kt).2
        have kpl := S3 _ _ hpl6
        have ko := S3 _ _ ho6
        have kkk := S3 _ _ hkk6
        have km := hm.same S3
        clear hb7 s7 kb1 ks1 kb2 ks2 ks3
        refine if_or (decide (g.p = g.q)) (decide (g.r = g.s)) (fun Q h => ?_) (fun Q h => ?_) (fun _ => ?_) (fun g1 g2 => ?_)
        · walk_at "go"
          refine ⟨t, _, 0, _, rfl, rfl, kt2, atI_nat (j := 0) rfl, ?_⟩
          walk_at "go"
          refine ⟨t, _, 1, _, rfl, rfl, kt2, atI_nat (j := 1) rfl, ?_⟩
          walk_at "go"
          exact h
        · walk_at "go"
          refine ⟨t, _, 2, _, rfl, rfl, kt2, atI_nat (j := 2) rfl, ?_⟩
          walk_at "go"
          refine ⟨t, _, 3, _, rfl, rfl, kt2, atI_nat (j := 3) rfl, ?_⟩
          walk_at "go"
          exact h
        · walk_at "go"
          refine ⟨by show 4 ≤ sizeLine; omega, fun t4 nt4 => ?_⟩
          obtain ⟨kb4, ks4, kt4⟩ := newB (o := .tup (gpV (gAll (2 * n)))) kb3 nt4
          replace kb4 : BagAt c (upd K3 t4 (.tup [.int 0, .int ((2 * n : Nat) : Int), .int ((2 * n : Nat) : Int), .int ((2 * n : Nat) : Int)])) b := kb4
          replace ks4 : Same (hid [b] K3) (hid [b] (upd K3 t4 (.tup [.int 0, .int ((2 * n : Nat) : Int), .int ((2 * n : Nat) : Int), .int ((2 * n : Nat) : Int)]))) := ks4
          replace kt4 : hid [b] (upd K3 t4 (.tup [.int 0, .int ((2 * n : Nat) : Int), .int ((2 * n : Nat) : Int), .int ((2 * n : Nat) : Int)])) t4 = some (.tup (gpV (gAll (2 * n)))) := kt4
          generalize upd K3 t4 (.tup [.int 0, .int ((2 * n : Nat) : Int), .int ((2 * n : Nat) : Int), .int ((2 * n : Nat) : Int)]) = K4 at kb4 ks4 kt4
          walk_at "go"
          refine ⟨by show 2 ≤ sizeLine; omega, fun u nu => ?_⟩
          obtain ⟨kb5, ks5, ku5⟩ := newB (o := .tup [.str "flip", .ref t4]) kb4 nu
          generalize upd K4 u (.tup [.str "flip", .ref t4]) = K5 at kb5 ks5 ku5
          refine ⟨by show 1 ≤ sizeLine; omega, fun st nst => ?_⟩
          obtain ⟨kb6, ks6, kst6⟩ := newB (o := .lst [.ref u]) kb5 nst
          generalize upd K5 st (.lst [.ref u]) = K6 at kb6 ks6 kst6
          have e36 := (ks4.trans ks5).trans ks6
          have kt6 := ks6 _ _ (ks5 _ _ kt4)
          have ku6 := ks6 _ _ ku5
          have hst1 : StL K (hid [b] K6) [.ref u] [(.flip, gAll (2 * n))] := StL.nil.cons (SqT.of ku6) (SqT.of kt6)
          have hst2 : StL K (hid [b] K6) [.ref u, .ref u] [(.flip, gAll (2 * n)), (.flip, gAll (2 * n))] := hst1.cons (SqT.of ku6) (SqT.of kt6)
          walk_at "go"
          refine ⟨o, m, pl, st, N, l, [(.flip, gAll (2 * n))], rfl, SqL.of (hid_some.mp (e36 _ _ ko)).2, (km.same e36).sub, SqL.of (hid_some.mp (e36 _ _ kpl)).2, ⟨_, (hid_some.mp kst6).2, hst1.same hid_sub⟩, hN, hl, flip1 hl.dbl hll2.symm, fun p7 r7 a7 K7 e7 hp7 _ _ => ?_⟩
          walk_at "go"
          have kb7 := kb6.imp e7
          have ks7 := Own.Same.hid [b] e7
          have kst7 := ks7 _ _ kst6
          refine catB kb7 kst7 kst7 (by show 1 + 1 ≤ sizeLine; omega) fun st2 K8 kb8 ks8 kst8 => ?_
          have e68 := ks7.trans ks8
          have e38 := e36.trans e68
          obtain ⟨f1, f2⟩ := flip2 hl.dbl hll2.symm hlt
          refine ⟨o, m, pl, st2, N, l, [(.flip, gAll (2 * n)), (.flip, gAll (2 * n))], rfl, SqL.of (hid_some.mp (e38 _ _ ko)).2, (km.same e38).sub, SqL.of (hid_some.mp (e38 _ _ kpl)).2, ⟨_, (hid_some.mp kst8).2, (hst2.same e68).same hid_sub⟩, hN, hl, f1, fun p9 r9 a9 K9 e9 hp9 _ ha9 => ?_⟩
          rw [f2] at ha9
          have kb9 := kb8.imp e9
          have e39 := e38.trans (Own.Same.hid [b] e9)
          walk_at "go"
          refine ⟨p9, _, 1, _, rfl, rfl, SqT.of hp9, atI_nat (j := 1) rfl, ?_⟩
          walk_at "go"
          refine ne_nats ha9 (SqL.of (hid_some.mp (e39 _ _ kpl)).2) ?_
          walk_at "go"
          exact ⟨_, _, _, _, _, _, _, _, _, _, rfl, kb9, S3.trans e39⟩
        · replace g1 := of_decide_eq_false g1
          replace g2 := of_decide_eq_false g2
          have p1 : g.p < g.q := Nat.lt_of_le_of_ne hp.h1 g1
          have p2 : g.r < g.s := Nat.lt_of_le_of_ne hp.h3 g2
          clear g1 g2
          have kkk2 : SqL K K3 kk (strsV kqS) := SqL.of (hid_some.mp kkk).2
          have h2 : (k + 1 + j) % 3 < 3 := Nat.mod_lt _ (by decide)
          have h3 : (k + 2 - j) % 3 < 3 := Nat.mod_lt _ (by decide)
          obtain ⟨kne, kth⟩ := kq_third hk hj
          walk_at "go"
          refine ⟨kk, _, (k : Int), _, rfl, rfl, kkk2, kq_at hk, ?_⟩
          walk_at "go"
          refine ⟨kk, _, (((k + 1 + j) % 3 : Nat) : Int), _, rfl, rfl, kkk2, kq_at h2, ?_⟩
          dsimp only [tNil]
          refine ⟨_, _, rfl, ?_⟩
          walk_at "go"
          refine ⟨kk, _, (((k + 2 - j) % 3 : Nat) : Int), _, rfl, rfl, kkk2, kq_at h3, ?_⟩
          generalize hf1 : kq k = f at kne kth
          generalize hf2 : kq ((k + 1 + j) % 3) = f2 at kne kth
          generalize hf3 : kq ((k + 2 - j) % 3) = f3 at kth
          walk_at "go"
          refine ⟨by show 2 ≤ sizeLine; omega, fun u nu => ?_⟩
          obtain ⟨kb4, ks4, ku4⟩ := newB (o := .tup [.str (kdS f), .ref t]) kb3 nu
          generalize upd K3 u (.tup [.str (kdS f), .ref t]) = K4 at kb4 ks4 ku4
          refine ⟨by show 1 ≤ sizeLine; omega, fun st nst => ?_⟩
          obtain ⟨kb5, ks5, kst5⟩ := newB (o := .lst [.ref u]) kb4 nst
          generalize upd K4 st (.lst [.ref u]) = K5 at kb5 ks5 kst5
          have e35 := ks4.trans ks5
          walk_at "go"
          refine ⟨pl, t, l, f, f, g, rfl, SqL.of (hid_some.mp (e35 _ _ kpl)).2, SqT.of (hid_some.mp (e35 _ _ kt)).2, hp, p1, p2, by have := hl.len; omega, fun pa bb K6 e6' hbb hR hSt => ?_⟩
          obtain ⟨avs, hav, hast⟩ := hSt
          have al := again_len f f g l.length bb
          refine cat_go (e6' _ _ (hid_some.mp kst5).2) hav (by rw [hast.1]; show 1 + _ ≤ _; omega) fun st2 K7 e7' hst2 => ?_
          have f56 := (Own.Same.hid [b] e6').trans (Own.Same.hid [b] e7')
          have kb7 := (kb5.imp e6').imp e7'
          have e37 := e35.trans f56
          have hs7 : StL K K7 (.ref u :: avs) ((f, g) :: again f f g l.length bb) := (hast.same e7').cons (SqT.of (hid_some.mp (f56 _ _ (ks5 _ _ ku4))).2) (SqT.of (hid_some.mp (e37 _ _ kt)).2)
          obtain ⟨ft, rn⟩ := two_moves f f hl.dbl hp p1 p2 hbb hR
          rw [if_pos rfl, hlt] at rn
          refine ⟨o, m, pl, st2, N, l, _, rfl, SqL.of (hid_some.mp (e37 _ _ ko)).2, (km.same e37).sub, SqL.of (hid_some.mp (e37 _ _ kpl)).2, ⟨_, hst2, hs7⟩, hN, hl, ft, fun p8 r8 a8 K8 e8' hp8 _ ha8 => ?_⟩
          rw [rn] at ha8
          have kb8 := kb7.imp e8'
          have e38 := e37.trans (Own.Same.hid [b] e8')
          clear hav hast hst2 hs7 ft rn f56 e37 kb7 e7' e6' e8' hbb hR al e35 kst5 ku4 nst nu kb4 ks4 kb5 ks5
          walk_at "go"
          refine ⟨p8, _, 1, _, rfl, rfl, SqT.of hp8, atI_nat (j := 1) rfl, ?_⟩
          walk_at "go"
          refine ne_nats ha8 (SqL.of (hid_some.mp (e38 _ _ kpl)).2) ?_
          clear ha8 hp8
          walk_at "go"
          refine ⟨by show 2 ≤ sizeLine; omega, fun u nu => ?_⟩
          obtain ⟨kb4, ks4, ku4⟩ := newB (o := .tup [.str (kdS f), .ref t]) kb8 nu
          generalize upd K8 u (.tup [.str (kdS f), .ref t]) = K4 at kb4 ks4 ku4
          refine ⟨by show 1 ≤ sizeLine; omega, fun st nst => ?_⟩
          obtain ⟨kb5, ks5, kst5⟩ := newB (o := .lst [.ref u]) kb4 nst
          generalize upd K4 st (.lst [.ref u]) = K5 at kb5 ks5 kst5
          have e35 := e38.trans (ks4.trans ks5)
          clear e38 kb8 kb4 nu nst
          walk_at "go"
          refine ⟨pl, t, l, f, f2, g, rfl, SqL.of (hid_some.mp (e35 _ _ kpl)).2, SqT.of (hid_some.mp (e35 _ _ kt)).2, hp, p1, p2, by have := hl.len; omega, fun pa bb K6 e6' hbb hR hSt => ?_⟩
          obtain ⟨avs, hav, hast⟩ := hSt
          have al := again_len f f2 g l.length bb
          refine cat_go (e6' _ _ (hid_some.mp kst5).2) hav (by rw [hast.1]; show 1 + _ ≤ _; omega) fun st2 K7 e7' hst2 => ?_
          have f56 := (Own.Same.hid [b] e6').trans (Own.Same.hid [b] e7')
          have kb7 := (kb5.imp e6').imp e7'
          have e37 := e35.trans f56
          have hs7 : StL K K7 (.ref u :: avs) ((f, g) :: Ring.again f f2 g l.length bb) := (hast.same e7').cons (SqT.of (hid_some.mp (f56 _ _ (ks5 _ _ ku4))).2) (SqT.of (hid_some.mp (e37 _ _ kt)).2)
          obtain ⟨ft, rn⟩ := two_moves f f2 hl.dbl hp p1 p2 hbb hR
          rw [if_neg kne, kth] at rn
          refine ⟨o, m, pl, st2, N, l, _, rfl, SqL.of (hid_some.mp (e37 _ _ ko)).2, (km.same e37).sub, SqL.of (hid_some.mp (e37 _ _ kpl)).2, ⟨_, hst2, hs7⟩, hN, hl, ft, fun p8 r8 a8 K8 e8' hp8 hr8 ha8 => ?_⟩
          rw [rn] at ha8 hr8
          have kb8 := kb7.imp e8'
          have e38 := e37.trans (Own.Same.hid [b] e8')
          clear hav hast hst2 hs7 ft rn f56 e37 kb7 e7' e6' e8' hbb hR al e35 kst5 ku4 kb5 ks5 ks4
          walk_at "go"
          refine ⟨by show 2 ≤ sizeLine; omega, fun u nu => ?_⟩
          have ms4 := Same.upd_new (o := .tup [.str (kdS f3), .ref t]) nu
          have ku4 : upd K8 u (.tup [.str (kdS f3), .ref t]) u = some (.tup [.str (kdS f3), .ref t]) := upd_same
          generalize upd K8 u (.tup [.str (kdS f3), .ref t]) = K4 at ms4 ku4
          refine ⟨by show 1 ≤ sizeLine; omega, fun st nst => ?_⟩
          have ms5 := Same.upd_new (o := .lst [.ref u]) nst
          have kst5 : upd K4 st (.lst [.ref u]) st = some (.lst [.ref u]) := upd_same
          generalize upd K4 st (.lst [.ref u]) = K5 at ms5 kst5
          have m85 := ms4.trans ms5
          have e35 := e38.trans (Own.Same.hid [b] m85)
          have hs5 : StL K K5 [.ref u] [(f3, g)] := StL.nil.cons (SqT.of (ms5 _ _ ku4)) (SqT.of (hid_some.mp (e35 _ _ kt)).2)
          walk_at "go"
          refine ⟨o, m, pl, st, N, l, [(f3, g)], rfl, SqL.of (hid_some.mp (e35 _ _ ko)).2, (km.same e35).sub, SqL.of (hid_some.mp (e35 _ _ kpl)).2, ⟨_, kst5, hs5⟩, hN, hl, ⟨hp, trivial⟩, fun p9 r9 a9 K9 e9' hp9 hr9 ha9 => ?_⟩
          have m89 := m85.trans e9'
          have kb9 := kb8.imp m89
          have e39 := e38.trans (Own.Same.hid [b] m89)
          replace ha9 : SqL K K9 a9 (ntV (least ltN (mv f3 l g))) := ha9
          replace hr9 : RowAt CR K9 r9 (rowNm N (least ltN (mv f3 l g))) := hr9
          have hp8' := m89 _ _ hp8
          have ha8' := m89.seq ha8
          have hr8' := hr8.same m89
          have hzz : ∀ z ∈ rowNm N (least ltN (mv f3 l g)), Nm z := ((hl.move (k := f3) hp).ends hN).nm
          clear m85 ms4 ms5 hs5 ku4 kst5 e35 e38 e9' nu nst ha8 hr8 hp8
          walk_at "go"
          refine ⟨p8, _, 1, _, rfl, rfl, SqT.of hp8', atI_nat (j := 1) rfl, ?_⟩
          walk_at "go"
          refine ⟨p9, _, 1, _, rfl, rfl, SqT.of hp9, atI_nat (j := 1) rfl, ?_⟩
          refine ne_nats ha8' ha9 ?_
          walk_at "go"
          refine ⟨p8, _, 0, _, rfl, rfl, SqT.of hp8', atI_nat (j := 0) rfl, ?_⟩
          walk_at "go"
          refine ⟨p9, _, 0, _, rfl, rfl, SqT.of hp9, atI_nat (j := 0) rfl, ?_⟩
          obtain ⟨dx, ex, px, cx, hx1, hx2⟩ := id hr8'
          obtain ⟨dy, ey, py, cy, hy1, hy2⟩ := id hr9
          refine ⟨⟨r8, r9, dx, dy, _, _, rfl, rfl, hx1, hy1, ⟨_, hr8', hr9, hzz⟩⟩, fun K10 e10 => ?_⟩
          refine ⟨true, rfl, ?_⟩
          exact ⟨_, _, _, _, _, _, _, _, _, _, rfl, kb9.imp e10, S3.trans (e39.trans (Own.Same.hid [b] e10))⟩
      · rintro σ H7 ⟨e6, e7, e8, e9, e10, e11, e12, e13, e14, e15, rfl, hb7, s7⟩
        walk_at "go"
        exact q H7 hb7 (S6.trans s7)
end
end Cl

namespace Cl
local macro_rules | `(tactic| walk_at "go") => `(tactic| repeat (first | (refine ⟨_, rfl, ?_⟩) | (refine ⟨_, _, rfl, rfl, ?_⟩) | (refine ⟨_, rfl, rfl, ?_⟩) | (refine ⟨_, _, rfl, ?_⟩) | (refine And.intro (by first | with_reducible rfl | rfl | omega | decide | assumption | (dsimp only; first | omega | decide | assumption)) ?_)))

local macro_rules | `(tactic| walk_at "bag") => `(tactic| repeat (first | (refine ⟨_, _, _, _, rfl, rfl, L2.SqL.of L2.upd_same, (by rfl), ?_⟩) | (refine ⟨_, _, _, _, rfl, rfl, L2.upd_same, (by rfl), ?_⟩) | (refine ⟨_, rfl, ?_⟩) | (refine ⟨_, _, rfl, rfl, ?_⟩) | (refine ⟨_, rfl, rfl, ?_⟩) | (refine ⟨_, _, rfl, ?_⟩) | (refine And.intro (by first | with_reducible rfl | rfl | omega | decide | assumption | (dsimp only; first | omega | decide | assumption)) ?_)))
open PySem L2 Own Ring
section
variable {P : Program} {w : World} {K : PySem.W.Frag} {mg : PySem.Str → Option Value} {base : Heap} {CR CM kd : Addr}
/-! ### law -/
def spLaw (K : PySem.W.Frag) : Sp := fun vs H Q _ => ∃ (a : Addr) (ns : List Int), vs = [.ref a] ∧ SqL K H a (ns.map V.int) ∧ ns.length ≤ 63 ∧ ∀ H', Q (.bl true) H'
abbrev sc_law_N : List PySem.Str := ["script", "bag"]
theorem sc_law : FnScope sc_law_N ["script"] (defScope (topS 63)) := ⟨rfl, rfl, rfl, by decide +kernel, rfl, by decide +kernel, by decide +kernel⟩
theorem ok_law {f : Addr} {fd : FuncData} (T : MdK K mg CR CM kd) (F : L2.Fun K "law" "law" (topS 63) f fd) (D_law_open : Cal P w K mg base 1 "_law_open" (spOpen K)) (D_law_round : Cal P w K mg base 8 "_law_round" spRound) : FnOk P w K mg base CX0 9 f fd ["script"] (spLaw K) := by
  refine F.ok sc_law (fun vs H Q E h => ?_) (fun cdv A outer s H vs Q E hr h => ?_)
  · obtain ⟨a, ns, rfl, _⟩ := h
    rfl
  · obtain ⟨a, sc, rfl, ha, _, q⟩ := h
    refine ⟨_, (pss_cons (ps_set (i := 1) sc_law.nd rfl (Or.inl rfl) (Own.pe_c D_law_open hr (by decide) rfl (pa_cons (pv 0) pa_nil)))
  (pss_one (ps_ret (pe_and (Own.pe_c D_law_round hr (by decide) rfl (pa_cons (pv 1) pa_nil)) (pe_one (Own.pe_c D_law_round hr (by decide) rfl (pa_cons (pv 1) pa_nil))))))), ?_⟩
    walk_at "go"
    refine ⟨a, sc, rfl, ha, fun b c H1 s1 _ B1 => ?_⟩
    walk_at "go"
    refine ⟨b, c, rfl, B1, fun H2 B2 _ => ?_⟩
    refine ⟨true, rfl, iteT ?_⟩
    walk_at "go"
    exact ⟨b, c, rfl, B2, fun H3 B3 _ => q H3⟩
end
end Cl

namespace Cl
open PySem L2 Own Ring
section
variable {K : PySem.W.Frag} {h : Heap} {mg : PySem.Str → Option Value}
theorem defAt_mk {x : PySem.Str} {st : Stmt} {ps : List PySem.Str} {f : Addr} {od an : Option Addr} {sl : Array (Option Value)} {oc kV dc pm cd ct : Value} (X : K.In h) (G : h.Ns mainGlobals mg) (hb : ∀ (f : Addr) (fd : FuncData), L2.Fun K x x st f fd → Binds K fd ps [])
    (a : PySem.W.nsIn K mainGlobals x = some (some (.ref f))) (l : K.lookup f = some ⟨oc, od, .func (PySem.W.fnOf x x (defArgs st) (defBody st) (defScope st) .none kV dc pm an cd ct), sl⟩) (c : PySem.W.codeIn K cd x = true) (k : PySem.W.keepIn K (.ref f) = true) : DefAt K mg x st ps :=
  ⟨f, _, fun_mk (st := st) l c k, PySem.W.mg_of X G a, hb _ _ (fun_mk (st := st) l c k)⟩
theorem metAt_mk {C : Addr} {m qual : PySem.Str} {st : Stmt} {ps : List PySem.Str} {f : Addr} {od an : Option Addr} {sl : Array (Option Value)} {oc kV dc pm cd ct : Value} (cl : Cls K C) (hb : ∀ (f : Addr) (fd : FuncData), L2.Fun K m qual st f fd → Binds K fd ps [])
    (a : PySem.W.findIn K (.ref C) m = some (some (.ref f))) (i : PySem.W.isFn K (.ref f) = true) (l : K.lookup f = some ⟨oc, od, .func (PySem.W.fnOf m qual (defArgs st) (defBody st) (defScope st) .none kV dc pm an cd ct), sl⟩) (c : PySem.W.codeIn K cd qual = true) (k : PySem.W.keepIn K (.ref f) = true) : MetAt K C m qual st ps :=
  ⟨f, _, fun_mk (st := st) l c k, cl, ⟨a, i, k⟩, hb _ _ (fun_mk (st := st) l c k)⟩
theorem iniAt_mk {C : Addr} {x qual : PySem.Str} {st : Stmt} {ps : List PySem.Str} {f : Addr} {od an : Option Addr} {sl : Array (Option Value)} {oc kV dc pm cd ct : Value} (X : K.In h) (G : h.Ns mainGlobals mg) (hb : ∀ (f : Addr) (fd : FuncData), L2.Fun K "__init__" qual st f fd → Binds K fd ps [])
    (aC : PySem.W.nsIn K mainGlobals x = some (some (.ref C))) (mk : PySem.W.makesIn K C = true) (kc : PySem.W.keepIn K (.ref C) = true)
    (a : PySem.W.findIn K (.ref C) "__init__" = some (some (.ref f))) (i : PySem.W.isFn K (.ref f) = true) (l : K.lookup f = some ⟨oc, od, .func (PySem.W.fnOf "__init__" qual (defArgs st) (defBody st) (defScope st) .none kV dc pm an cd ct), sl⟩) (c : PySem.W.codeIn K cd qual = true) (k : PySem.W.keepIn K (.ref f) = true) : IniAt K mg C x qual st ps :=
  ⟨f, _, fun_mk (st := st) l c k, ⟨mk, a, i, kc⟩, PySem.W.mg_of X G aC, hb _ _ (fun_mk (st := st) l c k)⟩
theorem staAt_mk {C p f : Addr} {mc : Value} {rest : List Value} {m qual : PySem.Str} {st : Stmt} {ps : List PySem.Str} {od an : Option Addr} {sl : Array (Option Value)} {oc kV dc pm cd ct : Value} (hb : ∀ (f : Addr) (fd : FuncData), L2.Fun K m qual st f fd → Binds K fd ps [])
    (rd : PySem.W.readsIn K C mc = true) (ga : PySem.W.specialIn K (.ref C) "__getattribute__" = some (some (.builtin "type.__getattribute__"))) (fo : PySem.W.findCls K (.ref C) mc m = some (.get (.builtin "staticmethod.__get__") (.ref p) .none (.ref C))) (rc : PySem.W.recIn K p "staticmethod" = some (.ref f :: rest))
    (l : K.lookup f = some ⟨oc, od, .func (PySem.W.fnOf m qual (defArgs st) (defBody st) (defScope st) .none kV dc pm an cd ct), sl⟩) (c : PySem.W.codeIn K cd qual = true) (k : PySem.W.keepIn K (.ref f) = true) : StaAt K C m qual st ps :=
  ⟨f, p, mc, _, fun_mk (st := st) l c k, ⟨rd, ga, fo, ⟨rest, rc⟩⟩, hb _ _ (fun_mk (st := st) l c k)⟩
theorem kit_self {C : Addr} : PySem.W.kitOne K (.ref C) (.ref C) = some true := by
  unfold PySem.W.kitOne
  rw [if_pos (beq_self_eq_true _)]
theorem seqT_mk {a : Addr} {od : Option Addr} {its : Array Value} {n : Nat} {sl : Array (Option Value)} {xs : List V} (l : K.lookup a = some ⟨.type "tuple", od, .seq its n, sl⟩) (v : Vals xs its.toList) (hn : xs.length ≤ sizeLine) (H : Hp) : SqT K H a xs :=
  .inr ⟨_, its, n, l, rfl, rfl, by rw [← Array.length_toList, ← v.length]; exact hn, v⟩
theorem blt_mk (X : K.In h) (G : h.Ns mainGlobals mg) (z0 : PySem.W.nsIn K mainGlobals "len" = some none) (z1 : PySem.W.nsIn K mainGlobals "int" = some none) (z2 : PySem.W.nsIn K mainGlobals "sum" = some none) (z3 : PySem.W.nsIn K mainGlobals "all" = some none) (z4 : PySem.W.nsIn K mainGlobals "any" = some none) (z5 : PySem.W.nsIn K mainGlobals "sorted" = some none) (z6 : PySem.W.nsIn K mainGlobals "list" = some none) (z7 : PySem.W.nsIn K mainGlobals "tuple" = some none) (z8 : PySem.W.nsIn K mainGlobals "isinstance" = some none) (z9 : PySem.W.nsIn K mainGlobals "range" = some none) (z10 : PySem.W.nsIn K mainGlobals "enumerate" = some none) (z11 : PySem.W.nsIn K mainGlobals "str" = some none) (z12 : PySem.W.nsIn K mainGlobals "bool" = some none) : Blt mg :=
  ⟨PySem.W.mg_none_of X G z0, PySem.W.mg_none_of X G z1, PySem.W.mg_none_of X G z2, PySem.W.mg_none_of X G z3, PySem.W.mg_none_of X G z4, PySem.W.mg_none_of X G z5, PySem.W.mg_none_of X G z6, PySem.W.mg_none_of X G z7, PySem.W.mg_none_of X G z8, PySem.W.mg_none_of X G z9, PySem.W.mg_none_of X G z10, PySem.W.mg_none_of X G z11, PySem.W.mg_none_of X G z12⟩
theorem b_check_text : ∀ (f : Addr) (fd : FuncData), L2.Fun K "check_text" "check_text" (topS 10) f fd → Binds K fd ["text"] [] := fun _ _ F => F.binds (ps := ["text"]) fun _ _ _ _ _ _ us hl => match us, hl with | [_], _ => rfl
theorem b_is_name : ∀ (f : Addr) (fd : FuncData), L2.Fun K "is_name" "is_name" (topS 16) f fd → Binds K fd ["value"] [] := fun _ _ F => F.binds (ps := ["value"]) fun _ _ _ _ _ _ us hl => match us, hl with | [_], _ => rfl
theorem b_check_chord_count : ∀ (f : Addr) (fd : FuncData), L2.Fun K "check_chord_count" "check_chord_count" (topS 17) f fd → Binds K fd ["count"] [] := fun _ _ F => F.binds (ps := ["count"]) fun _ _ _ _ _ _ us hl => match us, hl with | [_], _ => rfl
theorem b_end_sign : ∀ (f : Addr) (fd : FuncData), L2.Fun K "end_sign" "end_sign" (topS 23) f fd → Binds K fd ["value"] [] := fun _ _ F => F.binds (ps := ["value"]) fun _ _ _ _ _ _ us hl => match us, hl with | [_], _ => rfl
theorem b_wrong_end : ∀ (f : Addr) (fd : FuncData), L2.Fun K "wrong_end" "wrong_end" (topS 25) f fd → Binds K fd ["ends"] [] := fun _ _ F => F.binds (ps := ["ends"]) fun _ _ _ _ _ _ us hl => match us, hl with | [_], _ => rfl
theorem b_least_rotation : ∀ (f : Addr) (fd : FuncData), L2.Fun K "least_rotation" "least_rotation" (topS 26) f fd → Binds K fd ["ends"] [] := fun _ _ F => F.binds (ps := ["ends"]) fun _ _ _ _ _ _ us hl => match us, hl with | [_], _ => rfl
theorem b_places_of : ∀ (f : Addr) (fd : FuncData), L2.Fun K "places_of" "places_of" (topS 27) f fd → Binds K fd ["ends"] [] := fun _ _ F => F.binds (ps := ["ends"]) fun _ _ _ _ _ _ us hl => match us, hl with | [_], _ => rfl
theorem b_Row___init__ : ∀ (f : Addr) (fd : FuncData), L2.Fun K "__init__" "Row.__init__" (inClass (topS 28) 0) f fd → Binds K fd ["self", "ends"] [] := fun _ _ F => F.binds (ps := ["self", "ends"]) fun _ _ _ _ _ _ us hl => match us, hl with | [_, _], _ => rfl
theorem b_Row_read : ∀ (f : Addr) (fd : FuncData), L2.Fun K "read" "Row.read" (inClass (topS 28) 1) f fd → Binds K fd ["text"] [] := fun _ _ F => F.binds (ps := ["text"]) fun _ _ _ _ _ _ us hl => match us, hl with | [_], _ => rfl
theorem b_Row___eq__ : ∀ (f : Addr) (fd : FuncData), L2.Fun K "__eq__" "Row.__eq__" (inClass (topS 28) 9) f fd → Binds K fd ["self", "other"] [] := fun _ _ F => F.binds (ps := ["self", "other"]) fun _ _ _ _ _ _ us hl => match us, hl with | [_, _], _ => rfl
theorem b_line_moved : ∀ (f : Addr) (fd : FuncData), L2.Fun K "line_moved" "line_moved" (topS 30) f fd → Binds K fd ["line", "kind", "gaps"] [] := fun _ _ F => F.binds (ps := ["line", "kind", "gaps"]) fun _ _ _ _ _ _ us hl => match us, hl with | [_, _, _], _ => rfl
theorem b_is_number : ∀ (f : Addr) (fd : FuncData), L2.Fun K "is_number" "is_number" (topS 33) f fd → Binds K fd ["value"] [] := fun _ _ F => F.binds (ps := ["value"]) fun _ _ _ _ _ _ us hl => match us, hl with | [_], _ => rfl
theorem b_Move___init__ : ∀ (f : Addr) (fd : FuncData), L2.Fun K "__init__" "Move.__init__" (inClass (topS 38) 0) f fd → Binds K fd ["self", "kind", "p", "q", "r", "s"] [] := fun _ _ F => F.binds (ps := ["self", "kind", "p", "q", "r", "s"]) fun _ _ _ _ _ _ us hl => match us, hl with | [_, _, _, _, _, _], _ => rfl
theorem b_moved : ∀ (f : Addr) (fd : FuncData), L2.Fun K "moved" "moved" (topS 40) f fd → Binds K fd ["row", "move"] [] := fun _ _ F => F.binds (ps := ["row", "move"]) fun _ _ _ _ _ _ us hl => match us, hl with | [_, _], _ => rfl
theorem b__law_open : ∀ (f : Addr) (fd : FuncData), L2.Fun K "_law_open" "_law_open" (topS 42) f fd → Binds K fd ["script"] [] := fun _ _ F => F.binds (ps := ["script"]) fun _ _ _ _ _ _ us hl => match us, hl with | [_], _ => rfl
theorem b__law_pick : ∀ (f : Addr) (fd : FuncData), L2.Fun K "_law_pick" "_law_pick" (topS 43) f fd → Binds K fd ["bag", "limit"] [] := fun _ _ F => F.binds (ps := ["bag", "limit"]) fun _ _ _ _ _ _ us hl => match us, hl with | [_, _], _ => rfl
theorem b__law_of : ∀ (f : Addr) (fd : FuncData), L2.Fun K "_law_of" "_law_of" (topS 44) f fd → Binds K fd ["bag", "things"] [] := fun _ _ F => F.binds (ps := ["bag", "things"]) fun _ _ _ _ _ _ us hl => match us, hl with | [_, _], _ => rfl
theorem b__law_names : ∀ (f : Addr) (fd : FuncData), L2.Fun K "_law_names" "_law_names" (topS 45) f fd → Binds K fd ["bag", "count"] [] := fun _ _ F => F.binds (ps := ["bag", "count"]) fun _ _ _ _ _ _ us hl => match us, hl with | [_, _], _ => rfl
theorem b__law_like : ∀ (f : Addr) (fd : FuncData), L2.Fun K "_law_like" "_law_like" (topS 46) f fd → Binds K fd ["told", "due"] [] := fun _ _ F => F.binds (ps := ["told", "due"]) fun _ _ _ _ _ _ us hl => match us, hl with | [_, _], _ => rfl
theorem b__law_loose_row : ∀ (f : Addr) (fd : FuncData), L2.Fun K "_law_loose_row" "_law_loose_row" (topS 47) f fd → Binds K fd ["bag", "size"] [] := fun _ _ F => F.binds (ps := ["bag", "size"]) fun _ _ _ _ _ _ us hl => match us, hl with | [_, _], _ => rfl
theorem b__law_tied_row : ∀ (f : Addr) (fd : FuncData), L2.Fun K "_law_tied_row" "_law_tied_row" (topS 48) f fd → Binds K fd ["bag", "size"] [] := fun _ _ F => F.binds (ps := ["bag", "size"]) fun _ _ _ _ _ _ us hl => match us, hl with | [_, _], _ => rfl
theorem b__law_placed_row : ∀ (f : Addr) (fd : FuncData), L2.Fun K "_law_placed_row" "_law_placed_row" (topS 49) f fd → Binds K fd ["names", "row"] [] := fun _ _ F => F.binds (ps := ["names", "row"]) fun _ _ _ _ _ _ us hl => match us, hl with | [_, _], _ => rfl
theorem b__law_least : ∀ (f : Addr) (fd : FuncData), L2.Fun K "_law_least" "_law_least" (topS 50) f fd → Binds K fd ["row"] [] := fun _ _ F => F.binds (ps := ["row"]) fun _ _ _ _ _ _ us hl => match us, hl with | [_], _ => rfl
theorem b__law_ends : ∀ (f : Addr) (fd : FuncData), L2.Fun K "_law_ends" "_law_ends" (topS 51) f fd → Binds K fd ["names", "row"] [] := fun _ _ F => F.binds (ps := ["names", "row"]) fun _ _ _ _ _ _ us hl => match us, hl with | [_, _], _ => rfl
theorem b__law_make_row : ∀ (f : Addr) (fd : FuncData), L2.Fun K "_law_make_row" "_law_make_row" (topS 52) f fd → Binds K fd ["bag", "names", "row"] [] := fun _ _ F => F.binds (ps := ["bag", "names", "row"]) fun _ _ _ _ _ _ us hl => match us, hl with | [_, _, _], _ => rfl
theorem b__law_row_is : ∀ (f : Addr) (fd : FuncData), L2.Fun K "_law_row_is" "_law_row_is" (topS 53) f fd → Binds K fd ["told", "names", "row"] [] := fun _ _ F => F.binds (ps := ["told", "names", "row"]) fun _ _ _ _ _ _ us hl => match us, hl with | [_, _, _], _ => rfl
theorem b__law_move : ∀ (f : Addr) (fd : FuncData), L2.Fun K "_law_move" "_law_move" (topS 54) f fd → Binds K fd ["row", "kind", "p", "q", "r", "s"] [] := fun _ _ F => F.binds (ps := ["row", "kind", "p", "q", "r", "s"]) fun _ _ _ _ _ _ us hl => match us, hl with | [_, _, _, _, _, _], _ => rfl
theorem b__law_is_piece : ∀ (f : Addr) (fd : FuncData), L2.Fun K "_law_is_piece" "_law_is_piece" (topS 55) f fd → Binds K fd ["row", "p", "q", "r", "s"] [] := fun _ _ F => F.binds (ps := ["row", "p", "q", "r", "s"]) fun _ _ _ _ _ _ us hl => match us, hl with | [_, _, _, _, _], _ => rfl
theorem b__law_some_piece : ∀ (f : Addr) (fd : FuncData), L2.Fun K "_law_some_piece" "_law_some_piece" (topS 56) f fd → Binds K fd ["bag", "row"] [] := fun _ _ F => F.binds (ps := ["bag", "row"]) fun _ _ _ _ _ _ us hl => match us, hl with | [_, _], _ => rfl
theorem b__law_step_on : ∀ (f : Addr) (fd : FuncData), L2.Fun K "_law_step_on" "_law_step_on" (topS 57) f fd → Binds K fd ["row", "kind", "gaps"] [] := fun _ _ F => F.binds (ps := ["row", "kind", "gaps"]) fun _ _ _ _ _ _ us hl => match us, hl with | [_, _, _], _ => rfl
theorem b__law_apply : ∀ (f : Addr) (fd : FuncData), L2.Fun K "_law_apply" "_law_apply" (topS 58) f fd → Binds K fd ["names", "told", "row", "steps"] [] := fun _ _ F => F.binds (ps := ["names", "told", "row", "steps"]) fun _ _ _ _ _ _ us hl => match us, hl with | [_, _, _, _], _ => rfl
theorem b__law_begin : ∀ (f : Addr) (fd : FuncData), L2.Fun K "_law_begin" "_law_begin" (topS 59) f fd → Binds K fd ["found"] [] := fun _ _ F => F.binds (ps := ["found"]) fun _ _ _ _ _ _ us hl => match us, hl with | [_], _ => rfl
theorem b__law_gaps : ∀ (f : Addr) (fd : FuncData), L2.Fun K "_law_gaps" "_law_gaps" (topS 61) f fd → Binds K fd ["spots"] [] := fun _ _ F => F.binds (ps := ["spots"]) fun _ _ _ _ _ _ us hl => match us, hl with | [_], _ => rfl
theorem b__law_again : ∀ (f : Addr) (fd : FuncData), L2.Fun K "_law_again" "_law_again" (topS 60) f fd → Binds K fd ["row", "first", "kind", "gaps"] [] := fun _ _ F => F.binds (ps := ["row", "first", "kind", "gaps"]) fun _ _ _ _ _ _ us hl => match us, hl with | [_, _, _, _], _ => rfl
theorem b__law_round : ∀ (f : Addr) (fd : FuncData), L2.Fun K "_law_round" "_law_round" (topS 62) f fd → Binds K fd ["bag"] [] := fun _ _ F => F.binds (ps := ["bag"]) fun _ _ _ _ _ _ us hl => match us, hl with | [_], _ => rfl
theorem b_law : ∀ (f : Addr) (fd : FuncData), L2.Fun K "law" "law" (topS 63) f fd → Binds K fd ["script"] [] := fun _ _ F => F.binds (ps := ["script"]) fun _ _ _ _ _ _ us hl => match us, hl with | [_], _ => rfl
end
theorem all_ok {P : Program} {w : World} {K : PySem.W.Frag} {mg : PySem.Str → Option Value} {base : Heap} {CR CM kd f : Addr} {fd : FuncData} (T : MdK K mg CR CM kd) (R_Row : RowC K CR) (R_Move : MoveC K CM) (d_check_text : DefAt K mg "check_text" (topS 10) ["text"]) (d_is_name : DefAt K mg "is_name" (topS 16) ["value"]) (d_check_chord_count : DefAt K mg "check_chord_count" (topS 17) ["count"]) (d_end_sign : DefAt K mg "end_sign" (topS 23) ["value"]) (d_wrong_end : DefAt K mg "wrong_end" (topS 25) ["ends"]) (d_least_rotation : DefAt K mg "least_rotation" (topS 26) ["ends"]) (d_places_of : DefAt K mg "places_of" (topS 27) ["ends"]) (d_Row___init__ : IniAt K mg CR "Row" "Row.__init__" (inClass (topS 28) 0) ["self", "ends"]) (d_Row_read : StaAt K CR "read" "Row.read" (inClass (topS 28) 1) ["text"]) (d_Row___eq__ : MetAt K CR "__eq__" "Row.__eq__" (inClass (topS 28) 9) ["self", "other"]) (d_line_moved : DefAt K mg "line_moved" (topS 30) ["line", "kind", "gaps"]) (d_is_number : DefAt K mg "is_number" (topS 33) ["value"]) (d_Move___init__ : IniAt K mg CM "Move" "Move.__init__" (inClass (topS 38) 0) ["self", "kind", "p", "q", "r", "s"]) (d_moved : DefAt K mg "moved" (topS 40) ["row", "move"]) (d__law_open : DefAt K mg "_law_open" (topS 42) ["script"]) (d__law_pick : DefAt K mg "_law_pick" (topS 43) ["bag", "limit"]) (d__law_of : DefAt K mg "_law_of" (topS 44) ["bag", "things"]) (d__law_names : DefAt K mg "_law_names" (topS 45) ["bag", "count"]) (d__law_like : DefAt K mg "_law_like" (topS 46) ["told", "due"]) (d__law_loose_row : DefAt K mg "_law_loose_row" (topS 47) ["bag", "size"]) (d__law_tied_row : DefAt K mg "_law_tied_row" (topS 48) ["bag", "size"]) (d__law_placed_row : DefAt K mg "_law_placed_row" (topS 49) ["names", "row"]) (d__law_least : DefAt K mg "_law_least" (topS 50) ["row"]) (d__law_ends : DefAt K mg "_law_ends" (topS 51) ["names", "row"]) (d__law_make_row : DefAt K mg "_law_make_row" (topS 52) ["bag", "names", "row"]) (d__law_row_is : DefAt K mg "_law_row_is" (topS 53) ["told", "names", "row"]) (d__law_move : DefAt K mg "_law_move" (topS 54) ["row", "kind", "p", "q", "r", "s"]) (d__law_is_piece : DefAt K mg "_law_is_piece" (topS 55) ["row", "p", "q", "r", "s"]) (d__law_some_piece : DefAt K mg "_law_some_piece" (topS 56) ["bag", "row"]) (d__law_step_on : DefAt K mg "_law_step_on" (topS 57) ["row", "kind", "gaps"]) (d__law_apply : DefAt K mg "_law_apply" (topS 58) ["names", "told", "row", "steps"]) (d__law_begin : DefAt K mg "_law_begin" (topS 59) ["found"]) (d__law_gaps : DefAt K mg "_law_gaps" (topS 61) ["spots"]) (d__law_again : DefAt K mg "_law_again" (topS 60) ["row", "first", "kind", "gaps"]) (d__law_round : DefAt K mg "_law_round" (topS 62) ["bag"])
    (F : L2.Fun K "law" "law" (topS 63) f fd) : FnOk P w K mg base CX0 9 f fd ["script"] (spLaw K) := by
  have o_check_text := ok_text (P := P) (w := w) (mg := mg) (base := base) T d_check_text
  have o_is_name := ok_is_name (P := P) (w := w) (mg := mg) (base := base) T d_is_name
  have o_check_chord_count := ok_count (P := P) (w := w) (mg := mg) (base := base) T d_check_chord_count
  have o_end_sign := ok_sign (P := P) (w := w) (mg := mg) (base := base) T d_end_sign o_is_name
  have o_wrong_end := ok_wrong (P := P) (w := w) (mg := mg) (base := base) T d_wrong_end o_end_sign
  have o_least_rotation := ok_least (P := P) (w := w) (mg := mg) (base := base) T d_least_rotation
  have o_places_of := ok_places (P := P) (w := w) (mg := mg) (base := base) T d_places_of
  have o_Row___init__ := ok_row (P := P) (w := w) (mg := mg) (base := base) T R_Row d_Row___init__ o_wrong_end o_check_chord_count o_least_rotation o_places_of
  have o_Row_read := ok_read (P := P) (w := w) (mg := mg) (base := base) T d_Row_read o_check_text o_Row___init__
  have o_Row___eq__ := ok_eq (P := P) (w := w) (mg := mg) (base := base) T R_Row d_Row___eq__
  have o_line_moved := ok_line (P := P) (w := w) (mg := mg) (base := base) T d_line_moved
  have o_is_number := ok_num (P := P) (w := w) (mg := mg) (base := base) T d_is_number
  have o_Move___init__ := ok_move (P := P) (w := w) (mg := mg) (base := base) T R_Move d_Move___init__ o_is_number
  have o_moved := ok_moved (P := P) (w := w) (mg := mg) (base := base) T R_Row R_Move d_moved o_line_moved o_Row___init__
  have o__law_open := ok_open (P := P) (w := w) (mg := mg) (base := base) T d__law_open
  have o__law_pick := ok_pick (P := P) (w := w) (mg := mg) (base := base) T d__law_pick
  have o__law_of := ok_of (P := P) (w := w) (mg := mg) (base := base) T d__law_of o__law_pick
  have o__law_names := ok_names (P := P) (w := w) (mg := mg) (base := base) T d__law_names o__law_pick
  have o__law_like := ok_lkT (P := P) (w := w) (mg := mg) (base := base) T d__law_like (ok_lkS (P := P) (w := w) (mg := mg) (base := base) T d__law_like (ok_lk0 (P := P) (w := w) (mg := mg) (base := base) d__law_like))
  have o__law_loose_row := ok_loose (P := P) (w := w) (mg := mg) (base := base) T d__law_loose_row o__law_pick
  have o__law_tied_row := ok_tied (P := P) (w := w) (mg := mg) (base := base) T d__law_tied_row o__law_pick
  have o__law_placed_row := ok_placed (P := P) (w := w) (mg := mg) (base := base) T d__law_placed_row
  have o__law_least := ok_ll (P := P) (w := w) (mg := mg) (base := base) T d__law_least
  have o__law_ends := ok_ends (P := P) (w := w) (mg := mg) (base := base) T d__law_ends o__law_least
  have o__law_make_row := ok_make (P := P) (w := w) (mg := mg) (base := base) T d__law_make_row o__law_pick o_Row___init__ o_Row_read
  have o__law_row_is := ok_row_is (P := P) (w := w) (mg := mg) (base := base) T R_Row d__law_row_is o__law_ends o__law_like
  have o__law_move := ok_lmove (P := P) (w := w) (mg := mg) (base := base) T d__law_move
  have o__law_is_piece := ok_isp (P := P) (w := w) (mg := mg) (base := base) T d__law_is_piece
  have o__law_some_piece := ok_some (P := P) (w := w) (mg := mg) (base := base) T d__law_some_piece o__law_pick o__law_of
  have o__law_step_on := ok_step (P := P) (w := w) (mg := mg) (base := base) T d__law_step_on o__law_is_piece o__law_move o__law_least
  have o__law_apply := ok_apply (P := P) (w := w) (mg := mg) (base := base) T d__law_apply o__law_step_on o_moved o_Move___init__ o__law_row_is
  have o__law_begin := ok_begin (P := P) (w := w) (mg := mg) (base := base) T d__law_begin o__law_least
  have o__law_gaps := ok_gaps (P := P) (w := w) (mg := mg) (base := base) T d__law_gaps
  have o__law_again := ok_again (P := P) (w := w) (mg := mg) (base := base) T d__law_again o__law_begin o__law_move o__law_gaps
  have o__law_round := ok_round (P := P) (w := w) (mg := mg) (base := base) T d__law_round (eqI_of o_Row___eq__) o__law_pick o__law_of o__law_loose_row o__law_tied_row o__law_names o__law_placed_row o__law_least o__law_make_row o__law_some_piece o__law_apply o__law_again
  exact ok_law (P := P) (w := w) (mg := mg) (base := base) T F o__law_open o__law_round
theorem walk {l : PySem.W.OpenLaw} {q : Program} {loose : List PySem.Str} {XP : (PySem.Str → Option Value) → Heap → Prop} {YP : World → Heap → Prop} {d : DefRec} {K : Params → PySem.W.Frag} (hn : l.most = some 63) (hdf : d.params.defaults = [])
    (hY : ∀ (w : World) (h : Heap), YP w h → (K w.params).In h)
    (F : ∀ (w : World) (mg : PySem.Str → Option Value) (fa : Addr) (h : Heap), (K w.params).In h → h.Ns mainGlobals mg → mg d.name = some (.ref fa) →
      ∃ fd : FuncData, (∀ (s : Shared) (u : Value), BindsTo s fd ⟨[u], []⟩ [("script", u)]) ∧ ∀ base : Heap, (K w.params).In base → base.Ns mainGlobals mg → FnOk l.prog w (K w.params) mg base CX0 9 fa fd ["script"] (spLaw (K w.params))) :
    PySem.W.WalkO q loose XP YP l.row.toRowW d [] (fun f vs => PySem.call f vs) :=
  L2.walk_of (n := 63) (k := 9) (x := "script") (CX := fun _ => CX0) (sp := fun w => spLaw (K w.params)) hn (by decide) hdf ⟨rfl, by decide, by decide⟩ hY F (fun _ _ a ns hl _ hS => ⟨a, ns, rfl, hS, hl, fun _ => rfl⟩) fun _ _ _ _ _ z => z
theorem all_mk {P : Program} {w : World} {K : PySem.W.Frag} {h : Heap} {mg : PySem.Str → Option Value} {fa : Addr} (X : K.In h) (G : h.Ns mainGlobals mg) (hfa : mg "law" = some (.ref fa)) {CR CM kd : Addr} {odk : Option Addr} {itk : Array Value} {nk : Nat} {slk : Array (Option Value)} {tTEXT_LIMIT tCHORD_LIMIT tNAME_LIMIT tFIRST_SIGNS tLATER_SIGNS tTIP tFOOT tSIGNS : Nat} {f0 : Addr} {od0 an0 : Option Addr} {sl0 : Array (Option Value)} {oc0 kV0 dc0 pm0 cd0 ct0 : Value} {f1 : Addr} {od1 an1 : Option Addr} {sl1 : Array (Option Value)} {oc1 kV1 dc1 pm1 cd1 ct1 : Value} {f2 : Addr} {od2 an2 : Option Addr} {sl2 : Array (Option Value)} {oc2 kV2 dc2 pm2 cd2 ct2 : Value} {f3 : Addr} {od3 an3 : Option Addr} {sl3 : Array (Option Value)} {oc3 kV3 dc3 pm3 cd3 ct3 : Value} {f4 : Addr} {od4 an4 : Option Addr} {sl4 : Array (Option Value)} {oc4 kV4 dc4 pm4 cd4 ct4 : Value} {f5 : Addr} {od5 an5 : Option Addr} {sl5 : Array (Option Value)} {oc5 kV5 dc5 pm5 cd5 ct5 : Value} {f6 : Addr} {od6 an6 : Option Addr} {sl6 : Array (Option Value)} {oc6 kV6 dc6 pm6 cd6 ct6 : Value} {f7 : Addr} {od7 an7 : Option Addr} {sl7 : Array (Option Value)} {oc7 kV7 dc7 pm7 cd7 ct7 : Value} {f8 : Addr} {od8 an8 : Option Addr} {sl8 : Array (Option Value)} {oc8 kV8 dc8 pm8 cd8 ct8 : Value} {sp8 : Addr} {mc8 : Value} {rs8 : List Value} {f9 : Addr} {od9 an9 : Option Addr} {sl9 : Array (Option Value)} {oc9 kV9 dc9 pm9 cd9 ct9 : Value} {f10 : Addr} {od10 an10 : Option Addr} {sl10 : Array (Option Value)} {oc10 kV10 dc10 pm10 cd10 ct10 : Value} {f11 : Addr} {od11 an11 : Option Addr} {sl11 : Array (Option Value)} {oc11 kV11 dc11 pm11 cd11 ct11 : Value} {f12 : Addr} {od12 an12 : Option Addr} {sl12 : Array (Option Value)} {oc12 kV12 dc12 pm12 cd12 ct12 : Value} {f13 : Addr} {od13 an13 : Option Addr} {sl13 : Array (Option Value)} {oc13 kV13 dc13 pm13 cd13 ct13 : Value} {f14 : Addr} {od14 an14 : Option Addr} {sl14 : Array (Option Value)} {oc14 kV14 dc14 pm14 cd14 ct14 : Value} {f15 : Addr} {od15 an15 : Option Addr} {sl15 : Array (Option Value)} {oc15 kV15 dc15 pm15 cd15 ct15 : Value} {f16 : Addr} {od16 an16 : Option Addr} {sl16 : Array (Option Value)} {oc16 kV16 dc16 pm16 cd16 ct16 : Value} {f17 : Addr} {od17 an17 : Option Addr} {sl17 : Array (Option Value)} {oc17 kV17 dc17 pm17 cd17 ct17 : Value} {f18 : Addr} {od18 an18 : Option Addr} {sl18 : Array (Option Value)} {oc18 kV18 dc18 pm18 cd18 ct18 : Value} {f19 : Addr} {od19 an19 : Option Addr} {sl19 : Array (Option Value)} {oc19 kV19 dc19 pm19 cd19 ct19 : Value} {f20 : Addr} {od20 an20 : Option Addr} {sl20 : Array (Option Value)} {oc20 kV20 dc20 pm20 cd20 ct20 : Value} {f21 : Addr} {od21 an21 : Option Addr} {sl21 : Array (Option Value)} {oc21 kV21 dc21 pm21 cd21 ct21 : Value} {f22 : Addr} {od22 an22 : Option Addr} {sl22 : Array (Option Value)} {oc22 kV22 dc22 pm22 cd22 ct22 : Value} {f23 : Addr} {od23 an23 : Option Addr} {sl23 : Array (Option Value)} {oc23 kV23 dc23 pm23 cd23 ct23 : Value} {f24 : Addr} {od24 an24 : Option Addr} {sl24 : Array (Option Value)} {oc24 kV24 dc24 pm24 cd24 ct24 : Value} {f25 : Addr} {od25 an25 : Option Addr} {sl25 : Array (Option Value)} {oc25 kV25 dc25 pm25 cd25 ct25 : Value} {f26 : Addr} {od26 an26 : Option Addr} {sl26 : Array (Option Value)} {oc26 kV26 dc26 pm26 cd26 ct26 : Value} {f27 : Addr} {od27 an27 : Option Addr} {sl27 : Array (Option Value)} {oc27 kV27 dc27 pm27 cd27 ct27 : Value} {f28 : Addr} {od28 an28 : Option Addr} {sl28 : Array (Option Value)} {oc28 kV28 dc28 pm28 cd28 ct28 : Value} {f29 : Addr} {od29 an29 : Option Addr} {sl29 : Array (Option Value)} {oc29 kV29 dc29 pm29 cd29 ct29 : Value} {f30 : Addr} {od30 an30 : Option Addr} {sl30 : Array (Option Value)} {oc30 kV30 dc30 pm30 cd30 ct30 : Value} {f31 : Addr} {od31 an31 : Option Addr} {sl31 : Array (Option Value)} {oc31 kV31 dc31 pm31 cd31 ct31 : Value} {f32 : Addr} {od32 an32 : Option Addr} {sl32 : Array (Option Value)} {oc32 kV32 dc32 pm32 cd32 ct32 : Value} {f33 : Addr} {od33 an33 : Option Addr} {sl33 : Array (Option Value)} {oc33 kV33 dc33 pm33 cd33 ct33 : Value} {f34 : Addr} {od34 an34 : Option Addr} {sl34 : Array (Option Value)} {oc34 kV34 dc34 pm34 cd34 ct34 : Value} {f35 : Addr} {od35 an35 : Option Addr} {sl35 : Array (Option Value)} {oc35 kV35 dc35 pm35 cd35 ct35 : Value}
    (z0 : PySem.W.nsIn K mainGlobals "len" = some none)
    (z1 : PySem.W.nsIn K mainGlobals "int" = some none)
    (z2 : PySem.W.nsIn K mainGlobals "sum" = some none)
    (z3 : PySem.W.nsIn K mainGlobals "all" = some none)
    (z4 : PySem.W.nsIn K mainGlobals "any" = some none)
    (z5 : PySem.W.nsIn K mainGlobals "sorted" = some none)
    (z6 : PySem.W.nsIn K mainGlobals "list" = some none)
    (z7 : PySem.W.nsIn K mainGlobals "tuple" = some none)
    (z8 : PySem.W.nsIn K mainGlobals "isinstance" = some none)
    (z9 : PySem.W.nsIn K mainGlobals "range" = some none)
    (z10 : PySem.W.nsIn K mainGlobals "enumerate" = some none)
    (z11 : PySem.W.nsIn K mainGlobals "str" = some none)
    (z12 : PySem.W.nsIn K mainGlobals "bool" = some none)
    (z13 : PySem.W.nsIn K mainGlobals "min" = some none)
    (z14 : PySem.W.nsIn K mainGlobals "max" = some none)
    (z15 : PySem.W.nsIn K mainGlobals "zip" = some none)
    (z16 : PySem.W.nsIn K mainGlobals "dict" = some none)
    (c_TEXT_LIMIT : PySem.W.nsIn K mainGlobals "TEXT_LIMIT" = some (some (.int ((40000 : Nat) : Int) tTEXT_LIMIT)))
    (c_CHORD_LIMIT : PySem.W.nsIn K mainGlobals "CHORD_LIMIT" = some (some (.int ((14 : Nat) : Int) tCHORD_LIMIT)))
    (c_NAME_LIMIT : PySem.W.nsIn K mainGlobals "NAME_LIMIT" = some (some (.int ((8 : Nat) : Int) tNAME_LIMIT)))
    (c_FIRST_SIGNS : PySem.W.nsIn K mainGlobals "FIRST_SIGNS" = some (some (.str "abcdefghijklmnopqrstuvwxyz" tFIRST_SIGNS)))
    (c_LATER_SIGNS : PySem.W.nsIn K mainGlobals "LATER_SIGNS" = some (some (.str "abcdefghijklmnopqrstuvwxyz0123456789" tLATER_SIGNS)))
    (c_TIP : PySem.W.nsIn K mainGlobals "TIP" = some (some (.str "+" tTIP)))
    (c_FOOT : PySem.W.nsIn K mainGlobals "FOOT" = some (some (.str "-" tFOOT)))
    (c_SIGNS : PySem.W.nsIn K mainGlobals "SIGNS" = some (some (.str "+-" tSIGNS)))
    (c_KINDS : PySem.W.nsIn K mainGlobals "KINDS" = some (some (.ref kd)))
    (lk : K.lookup kd = some ⟨.type "tuple", odk, .seq itk nk, slk⟩)
    (vk : Vals [.str "swap", .str "flip", .str "both"] itk.toList)
    (aCRow : PySem.W.nsIn K mainGlobals "Row" = some (some (.ref CR)))
    (mkRow : PySem.W.makesIn K CR = true)
    (kcRow : PySem.W.keepIn K (.ref CR) = true)
    (pgRow : PySem.W.plainGet K CR Str.empty = true)
    (hdRow : PySem.W.hasDictIn K CR = true)
    (poRow : PySem.W.plainOver K CR = true)
    (saRow : PySem.W.findIn K (.ref CR) "__setattr__" = some (some (.builtin "object.__setattr__")))
    (n0Row : PySem.W.findIn K (.ref CR) "ends" = some none)
    (n1Row : PySem.W.findIn K (.ref CR) "directed" = some none)
    (n2Row : PySem.W.findIn K (.ref CR) "_places" = some none)
    (n3Row : PySem.W.findIn K (.ref CR) "chords" = some none)
    (aCMove : PySem.W.nsIn K mainGlobals "Move" = some (some (.ref CM)))
    (mkMove : PySem.W.makesIn K CM = true)
    (kcMove : PySem.W.keepIn K (.ref CM) = true)
    (pgMove : PySem.W.plainGet K CM Str.empty = true)
    (hdMove : PySem.W.hasDictIn K CM = true)
    (poMove : PySem.W.plainOver K CM = true)
    (saMove : PySem.W.findIn K (.ref CM) "__setattr__" = some (some (.builtin "object.__setattr__")))
    (n0Move : PySem.W.findIn K (.ref CM) "kind" = some none)
    (n1Move : PySem.W.findIn K (.ref CM) "gaps" = some none)
    (ha : PySem.W.findIn K (.ref CR) "__class__" = some (some (.builtin "object.__class__")))
    (hn : PySem.W.specialIn K (.builtin "object.__class__") "__get__" = some (some (.builtin "getset_descriptor.__get__")))
    (htk : PySem.W.takesIn K (.builtin "object.__class__") = some true)
    (hm : PySem.W.mroIn K CR (.type "object") = some true)
    (a0 : PySem.W.nsIn K mainGlobals "check_text" = some (some (.ref f0)))
    (l0 : K.lookup f0 = some ⟨oc0, od0, .func (PySem.W.fnOf "check_text" "check_text" (defArgs (topS 10)) (defBody (topS 10)) (defScope (topS 10)) .none kV0 dc0 pm0 an0 cd0 ct0), sl0⟩)
    (c0 : PySem.W.codeIn K cd0 "check_text" = true)
    (k0 : PySem.W.keepIn K (.ref f0) = true)
    (a1 : PySem.W.nsIn K mainGlobals "is_name" = some (some (.ref f1)))
    (l1 : K.lookup f1 = some ⟨oc1, od1, .func (PySem.W.fnOf "is_name" "is_name" (defArgs (topS 16)) (defBody (topS 16)) (defScope (topS 16)) .none kV1 dc1 pm1 an1 cd1 ct1), sl1⟩)
    (c1 : PySem.W.codeIn K cd1 "is_name" = true)
    (k1 : PySem.W.keepIn K (.ref f1) = true)
    (a2 : PySem.W.nsIn K mainGlobals "check_chord_count" = some (some (.ref f2)))
    (l2 : K.lookup f2 = some ⟨oc2, od2, .func (PySem.W.fnOf "check_chord_count" "check_chord_count" (defArgs (topS 17)) (defBody (topS 17)) (defScope (topS 17)) .none kV2 dc2 pm2 an2 cd2 ct2), sl2⟩)
    (c2 : PySem.W.codeIn K cd2 "check_chord_count" = true)
    (k2 : PySem.W.keepIn K (.ref f2) = true)
    (a3 : PySem.W.nsIn K mainGlobals "end_sign" = some (some (.ref f3)))
    (l3 : K.lookup f3 = some ⟨oc3, od3, .func (PySem.W.fnOf "end_sign" "end_sign" (defArgs (topS 23)) (defBody (topS 23)) (defScope (topS 23)) .none kV3 dc3 pm3 an3 cd3 ct3), sl3⟩)
    (c3 : PySem.W.codeIn K cd3 "end_sign" = true)
    (k3 : PySem.W.keepIn K (.ref f3) = true)
    (a4 : PySem.W.nsIn K mainGlobals "wrong_end" = some (some (.ref f4)))
    (l4 : K.lookup f4 = some ⟨oc4, od4, .func (PySem.W.fnOf "wrong_end" "wrong_end" (defArgs (topS 25)) (defBody (topS 25)) (defScope (topS 25)) .none kV4 dc4 pm4 an4 cd4 ct4), sl4⟩)
    (c4 : PySem.W.codeIn K cd4 "wrong_end" = true)
    (k4 : PySem.W.keepIn K (.ref f4) = true)
    (a5 : PySem.W.nsIn K mainGlobals "least_rotation" = some (some (.ref f5)))
    (l5 : K.lookup f5 = some ⟨oc5, od5, .func (PySem.W.fnOf "least_rotation" "least_rotation" (defArgs (topS 26)) (defBody (topS 26)) (defScope (topS 26)) .none kV5 dc5 pm5 an5 cd5 ct5), sl5⟩)
    (c5 : PySem.W.codeIn K cd5 "least_rotation" = true)
    (k5 : PySem.W.keepIn K (.ref f5) = true)
    (a6 : PySem.W.nsIn K mainGlobals "places_of" = some (some (.ref f6)))
    (l6 : K.lookup f6 = some ⟨oc6, od6, .func (PySem.W.fnOf "places_of" "places_of" (defArgs (topS 27)) (defBody (topS 27)) (defScope (topS 27)) .none kV6 dc6 pm6 an6 cd6 ct6), sl6⟩)
    (c6 : PySem.W.codeIn K cd6 "places_of" = true)
    (k6 : PySem.W.keepIn K (.ref f6) = true)
    (a7 : PySem.W.findIn K (.ref CR) "__init__" = some (some (.ref f7)))
    (i7 : PySem.W.isFn K (.ref f7) = true)
    (l7 : K.lookup f7 = some ⟨oc7, od7, .func (PySem.W.fnOf "__init__" "Row.__init__" (defArgs (inClass (topS 28) 0)) (defBody (inClass (topS 28) 0)) (defScope (inClass (topS 28) 0)) .none kV7 dc7 pm7 an7 cd7 ct7), sl7⟩)
    (c7 : PySem.W.codeIn K cd7 "Row.__init__" = true)
    (k7 : PySem.W.keepIn K (.ref f7) = true)
    (ty8 : PySem.W.typeIn K (.ref CR) = some mc8)
    (rd8 : PySem.W.readsIn K CR mc8 = true)
    (ga8 : PySem.W.specialIn K (.ref CR) "__getattribute__" = some (some (.builtin "type.__getattribute__")))
    (fo8 : PySem.W.findCls K (.ref CR) mc8 "read" = some (.get (.builtin "staticmethod.__get__") (.ref sp8) .none (.ref CR)))
    (rc8 : PySem.W.recIn K sp8 "staticmethod" = some (.ref f8 :: rs8))
    (l8 : K.lookup f8 = some ⟨oc8, od8, .func (PySem.W.fnOf "read" "Row.read" (defArgs (inClass (topS 28) 1)) (defBody (inClass (topS 28) 1)) (defScope (inClass (topS 28) 1)) .none kV8 dc8 pm8 an8 cd8 ct8), sl8⟩)
    (c8 : PySem.W.codeIn K cd8 "Row.read" = true)
    (k8 : PySem.W.keepIn K (.ref f8) = true)
    (a9 : PySem.W.findIn K (.ref CR) "__eq__" = some (some (.ref f9)))
    (i9 : PySem.W.isFn K (.ref f9) = true)
    (l9 : K.lookup f9 = some ⟨oc9, od9, .func (PySem.W.fnOf "__eq__" "Row.__eq__" (defArgs (inClass (topS 28) 9)) (defBody (inClass (topS 28) 9)) (defScope (inClass (topS 28) 9)) .none kV9 dc9 pm9 an9 cd9 ct9), sl9⟩)
    (c9 : PySem.W.codeIn K cd9 "Row.__eq__" = true)
    (k9 : PySem.W.keepIn K (.ref f9) = true)
    (a10 : PySem.W.nsIn K mainGlobals "line_moved" = some (some (.ref f10)))
    (l10 : K.lookup f10 = some ⟨oc10, od10, .func (PySem.W.fnOf "line_moved" "line_moved" (defArgs (topS 30)) (defBody (topS 30)) (defScope (topS 30)) .none kV10 dc10 pm10 an10 cd10 ct10), sl10⟩)
    (c10 : PySem.W.codeIn K cd10 "line_moved" = true)
    (k10 : PySem.W.keepIn K (.ref f10) = true)
    (a11 : PySem.W.nsIn K mainGlobals "is_number" = some (some (.ref f11)))
    (l11 : K.lookup f11 = some ⟨oc11, od11, .func (PySem.W.fnOf "is_number" "is_number" (defArgs (topS 33)) (defBody (topS 33)) (defScope (topS 33)) .none kV11 dc11 pm11 an11 cd11 ct11), sl11⟩)
    (c11 : PySem.W.codeIn K cd11 "is_number" = true)
    (k11 : PySem.W.keepIn K (.ref f11) = true)
    (a12 : PySem.W.findIn K (.ref CM) "__init__" = some (some (.ref f12)))
    (i12 : PySem.W.isFn K (.ref f12) = true)
    (l12 : K.lookup f12 = some ⟨oc12, od12, .func (PySem.W.fnOf "__init__" "Move.__init__" (defArgs (inClass (topS 38) 0)) (defBody (inClass (topS 38) 0)) (defScope (inClass (topS 38) 0)) .none kV12 dc12 pm12 an12 cd12 ct12), sl12⟩)
    (c12 : PySem.W.codeIn K cd12 "Move.__init__" = true)
    (k12 : PySem.W.keepIn K (.ref f12) = true)
    (a13 : PySem.W.nsIn K mainGlobals "moved" = some (some (.ref f13)))
    (l13 : K.lookup f13 = some ⟨oc13, od13, .func (PySem.W.fnOf "moved" "moved" (defArgs (topS 40)) (defBody (topS 40)) (defScope (topS 40)) .none kV13 dc13 pm13 an13 cd13 ct13), sl13⟩)
    (c13 : PySem.W.codeIn K cd13 "moved" = true)
    (k13 : PySem.W.keepIn K (.ref f13) = true)
    (a14 : PySem.W.nsIn K mainGlobals "_law_open" = some (some (.ref f14)))
    (l14 : K.lookup f14 = some ⟨oc14, od14, .func (PySem.W.fnOf "_law_open" "_law_open" (defArgs (topS 42)) (defBody (topS 42)) (defScope (topS 42)) .none kV14 dc14 pm14 an14 cd14 ct14), sl14⟩)
    (c14 : PySem.W.codeIn K cd14 "_law_open" = true)
    (k14 : PySem.W.keepIn K (.ref f14) = true)
    (a15 : PySem.W.nsIn K mainGlobals "_law_pick" = some (some (.ref f15)))
    (l15 : K.lookup f15 = some ⟨oc15, od15, .func (PySem.W.fnOf "_law_pick" "_law_pick" (defArgs (topS 43)) (defBody (topS 43)) (defScope (topS 43)) .none kV15 dc15 pm15 an15 cd15 ct15), sl15⟩)
    (c15 : PySem.W.codeIn K cd15 "_law_pick" = true)
    (k15 : PySem.W.keepIn K (.ref f15) = true)
    (a16 : PySem.W.nsIn K mainGlobals "_law_of" = some (some (.ref f16)))
    (l16 : K.lookup f16 = some ⟨oc16, od16, .func (PySem.W.fnOf "_law_of" "_law_of" (defArgs (topS 44)) (defBody (topS 44)) (defScope (topS 44)) .none kV16 dc16 pm16 an16 cd16 ct16), sl16⟩)
    (c16 : PySem.W.codeIn K cd16 "_law_of" = true)
    (k16 : PySem.W.keepIn K (.ref f16) = true)
    (a17 : PySem.W.nsIn K mainGlobals "_law_names" = some (some (.ref f17)))
    (l17 : K.lookup f17 = some ⟨oc17, od17, .func (PySem.W.fnOf "_law_names" "_law_names" (defArgs (topS 45)) (defBody (topS 45)) (defScope (topS 45)) .none kV17 dc17 pm17 an17 cd17 ct17), sl17⟩)
    (c17 : PySem.W.codeIn K cd17 "_law_names" = true)
    (k17 : PySem.W.keepIn K (.ref f17) = true)
    (a18 : PySem.W.nsIn K mainGlobals "_law_like" = some (some (.ref f18)))
    (l18 : K.lookup f18 = some ⟨oc18, od18, .func (PySem.W.fnOf "_law_like" "_law_like" (defArgs (topS 46)) (defBody (topS 46)) (defScope (topS 46)) .none kV18 dc18 pm18 an18 cd18 ct18), sl18⟩)
    (c18 : PySem.W.codeIn K cd18 "_law_like" = true)
    (k18 : PySem.W.keepIn K (.ref f18) = true)
    (a19 : PySem.W.nsIn K mainGlobals "_law_loose_row" = some (some (.ref f19)))
    (l19 : K.lookup f19 = some ⟨oc19, od19, .func (PySem.W.fnOf "_law_loose_row" "_law_loose_row" (defArgs (topS 47)) (defBody (topS 47)) (defScope (topS 47)) .none kV19 dc19 pm19 an19 cd19 ct19), sl19⟩)
    (c19 : PySem.W.codeIn K cd19 "_law_loose_row" = true)
    (k19 : PySem.W.keepIn K (.ref f19) = true)
    (a20 : PySem.W.nsIn K mainGlobals "_law_tied_row" = some (some (.ref f20)))
    (l20 : K.lookup f20 = some ⟨oc20, od20, .func (PySem.W.fnOf "_law_tied_row" "_law_tied_row" (defArgs (topS 48)) (defBody (topS 48)) (defScope (topS 48)) .none kV20 dc20 pm20 an20 cd20 ct20), sl20⟩)
    (c20 : PySem.W.codeIn K cd20 "_law_tied_row" = true)
    (k20 : PySem.W.keepIn K (.ref f20) = true)
    (a21 : PySem.W.nsIn K mainGlobals "_law_placed_row" = some (some (.ref f21)))
    (l21 : K.lookup f21 = some ⟨oc21, od21, .func (PySem.W.fnOf "_law_placed_row" "_law_placed_row" (defArgs (topS 49)) (defBody (topS 49)) (defScope (topS 49)) .none kV21 dc21 pm21 an21 cd21 ct21), sl21⟩)
    (c21 : PySem.W.codeIn K cd21 "_law_placed_row" = true)
    (k21 : PySem.W.keepIn K (.ref f21) = true)
    (a22 : PySem.W.nsIn K mainGlobals "_law_least" = some (some (.ref f22)))
    (l22 : K.lookup f22 = some ⟨oc22, od22, .func (PySem.W.fnOf "_law_least" "_law_least" (defArgs (topS 50)) (defBody (topS 50)) (defScope (topS 50)) .none kV22 dc22 pm22 an22 cd22 ct22), sl22⟩)
    (c22 : PySem.W.codeIn K cd22 "_law_least" = true)
    (k22 : PySem.W.keepIn K (.ref f22) = true)
    (a23 : PySem.W.nsIn K mainGlobals "_law_ends" = some (some (.ref f23)))
    (l23 : K.lookup f23 = some ⟨oc23, od23, .func (PySem.W.fnOf "_law_ends" "_law_ends" (defArgs (topS 51)) (defBody (topS 51)) (defScope (topS 51)) .none kV23 dc23 pm23 an23 cd23 ct23), sl23⟩)
    (c23 : PySem.W.codeIn K cd23 "_law_ends" = true)
    (k23 : PySem.W.keepIn K (.ref f23) = true)
    (a24 : PySem.W.nsIn K mainGlobals "_law_make_row" = some (some (.ref f24)))
    (l24 : K.lookup f24 = some ⟨oc24, od24, .func (PySem.W.fnOf "_law_make_row" "_law_make_row" (defArgs (topS 52)) (defBody (topS 52)) (defScope (topS 52)) .none kV24 dc24 pm24 an24 cd24 ct24), sl24⟩)
    (c24 : PySem.W.codeIn K cd24 "_law_make_row" = true)
    (k24 : PySem.W.keepIn K (.ref f24) = true)
    (a25 : PySem.W.nsIn K mainGlobals "_law_row_is" = some (some (.ref f25)))
    (l25 : K.lookup f25 = some ⟨oc25, od25, .func (PySem.W.fnOf "_law_row_is" "_law_row_is" (defArgs (topS 53)) (defBody (topS 53)) (defScope (topS 53)) .none kV25 dc25 pm25 an25 cd25 ct25), sl25⟩)
    (c25 : PySem.W.codeIn K cd25 "_law_row_is" = true)
    (k25 : PySem.W.keepIn K (.ref f25) = true)
    (a26 : PySem.W.nsIn K mainGlobals "_law_move" = some (some (.ref f26)))
    (l26 : K.lookup f26 = some ⟨oc26, od26, .func (PySem.W.fnOf "_law_move" "_law_move" (defArgs (topS 54)) (defBody (topS 54)) (defScope (topS 54)) .none kV26 dc26 pm26 an26 cd26 ct26), sl26⟩)
    (c26 : PySem.W.codeIn K cd26 "_law_move" = true)
    (k26 : PySem.W.keepIn K (.ref f26) = true)
    (a27 : PySem.W.nsIn K mainGlobals "_law_is_piece" = some (some (.ref f27)))
    (l27 : K.lookup f27 = some ⟨oc27, od27, .func (PySem.W.fnOf "_law_is_piece" "_law_is_piece" (defArgs (topS 55)) (defBody (topS 55)) (defScope (topS 55)) .none kV27 dc27 pm27 an27 cd27 ct27), sl27⟩)
    (c27 : PySem.W.codeIn K cd27 "_law_is_piece" = true)
    (k27 : PySem.W.keepIn K (.ref f27) = true)
    (a28 : PySem.W.nsIn K mainGlobals "_law_some_piece" = some (some (.ref f28)))
    (l28 : K.lookup f28 = some ⟨oc28, od28, .func (PySem.W.fnOf "_law_some_piece" "_law_some_piece" (defArgs (topS 56)) (defBody (topS 56)) (defScope (topS 56)) .none kV28 dc28 pm28 an28 cd28 ct28), sl28⟩)
    (c28 : PySem.W.codeIn K cd28 "_law_some_piece" = true)
    (k28 : PySem.W.keepIn K (.ref f28) = true)
    (a29 : PySem.W.nsIn K mainGlobals "_law_step_on" = some (some (.ref f29)))
    (l29 : K.lookup f29 = some ⟨oc29, od29, .func (PySem.W.fnOf "_law_step_on" "_law_step_on" (defArgs (topS 57)) (defBody (topS 57)) (defScope (topS 57)) .none kV29 dc29 pm29 an29 cd29 ct29), sl29⟩)
    (c29 : PySem.W.codeIn K cd29 "_law_step_on" = true)
    (k29 : PySem.W.keepIn K (.ref f29) = true)
    (a30 : PySem.W.nsIn K mainGlobals "_law_apply" = some (some (.ref f30)))
    (l30 : K.lookup f30 = some ⟨oc30, od30, .func (PySem.W.fnOf "_law_apply" "_law_apply" (defArgs (topS 58)) (defBody (topS 58)) (defScope (topS 58)) .none kV30 dc30 pm30 an30 cd30 ct30), sl30⟩)
    (c30 : PySem.W.codeIn K cd30 "_law_apply" = true)
    (k30 : PySem.W.keepIn K (.ref f30) = true)
    (a31 : PySem.W.nsIn K mainGlobals "_law_begin" = some (some (.ref f31)))
    (l31 : K.lookup f31 = some ⟨oc31, od31, .func (PySem.W.fnOf "_law_begin" "_law_begin" (defArgs (topS 59)) (defBody (topS 59)) (defScope (topS 59)) .none kV31 dc31 pm31 an31 cd31 ct31), sl31⟩)
    (c31 : PySem.W.codeIn K cd31 "_law_begin" = true)
    (k31 : PySem.W.keepIn K (.ref f31) = true)
    (a32 : PySem.W.nsIn K mainGlobals "_law_gaps" = some (some (.ref f32)))
    (l32 : K.lookup f32 = some ⟨oc32, od32, .func (PySem.W.fnOf "_law_gaps" "_law_gaps" (defArgs (topS 61)) (defBody (topS 61)) (defScope (topS 61)) .none kV32 dc32 pm32 an32 cd32 ct32), sl32⟩)
    (c32 : PySem.W.codeIn K cd32 "_law_gaps" = true)
    (k32 : PySem.W.keepIn K (.ref f32) = true)
    (a33 : PySem.W.nsIn K mainGlobals "_law_again" = some (some (.ref f33)))
    (l33 : K.lookup f33 = some ⟨oc33, od33, .func (PySem.W.fnOf "_law_again" "_law_again" (defArgs (topS 60)) (defBody (topS 60)) (defScope (topS 60)) .none kV33 dc33 pm33 an33 cd33 ct33), sl33⟩)
    (c33 : PySem.W.codeIn K cd33 "_law_again" = true)
    (k33 : PySem.W.keepIn K (.ref f33) = true)
    (a34 : PySem.W.nsIn K mainGlobals "_law_round" = some (some (.ref f34)))
    (l34 : K.lookup f34 = some ⟨oc34, od34, .func (PySem.W.fnOf "_law_round" "_law_round" (defArgs (topS 62)) (defBody (topS 62)) (defScope (topS 62)) .none kV34 dc34 pm34 an34 cd34 ct34), sl34⟩)
    (c34 : PySem.W.codeIn K cd34 "_law_round" = true)
    (k34 : PySem.W.keepIn K (.ref f34) = true)
    (a35 : PySem.W.nsIn K mainGlobals "law" = some (some (.ref f35)))
    (l35 : K.lookup f35 = some ⟨oc35, od35, .func (PySem.W.fnOf "law" "law" (defArgs (topS 63)) (defBody (topS 63)) (defScope (topS 63)) .none kV35 dc35 pm35 an35 cd35 ct35), sl35⟩)
    (c35 : PySem.W.codeIn K cd35 "law" = true)
    (k35 : PySem.W.keepIn K (.ref f35) = true) :
    ∃ fd : FuncData, (∀ (s : Shared) (v : Value), BindsTo s fd ⟨[v], []⟩ [("script", v)]) ∧ ∀ base : Heap, K.In base → base.Ns mainGlobals mg → FnOk P w K mg base CX0 9 fa fd ["script"] (spLaw K) := by
  have e := hfa.symm.trans (PySem.W.mg_of X G a35)
  cases e
  have R_Row : RowC K CR := ⟨⟨pgRow, hdRow, poRow, saRow⟩, n0Row, n1Row, n2Row, n3Row⟩
  have R_Move : MoveC K CM := ⟨⟨pgMove, hdMove, poMove, saMove⟩, n0Move, n1Move⟩
  have T : MdK K mg CR CM kd := { toBlt := blt_mk X G z0 z1 z2 z3 z4 z5 z6 z7 z8 z9 z10 z11 z12, min := PySem.W.mg_none_of X G z13, max := PySem.W.mg_none_of X G z14, zip := PySem.W.mg_none_of X G z15, dict := PySem.W.mg_none_of X G z16, c_TEXT_LIMIT := ⟨_, PySem.W.mg_of X G c_TEXT_LIMIT, ⟨_, rfl⟩⟩, c_CHORD_LIMIT := ⟨_, PySem.W.mg_of X G c_CHORD_LIMIT, ⟨_, rfl⟩⟩, c_NAME_LIMIT := ⟨_, PySem.W.mg_of X G c_NAME_LIMIT, ⟨_, rfl⟩⟩, c_FIRST_SIGNS := ⟨_, PySem.W.mg_of X G c_FIRST_SIGNS, ⟨_, rfl⟩⟩, c_LATER_SIGNS := ⟨_, PySem.W.mg_of X G c_LATER_SIGNS, ⟨_, rfl⟩⟩, c_TIP := ⟨_, PySem.W.mg_of X G c_TIP, ⟨_, rfl⟩⟩, c_FOOT := ⟨_, PySem.W.mg_of X G c_FOOT, ⟨_, rfl⟩⟩, c_SIGNS := ⟨_, PySem.W.mg_of X G c_SIGNS, ⟨_, rfl⟩⟩, c_KINDS := ⟨_, PySem.W.mg_of X G c_KINDS, rfl⟩, kinds := seqT_mk lk vk (by rw [sizeLine_eq]; decide), c_Row := ⟨_, PySem.W.mg_of X G aCRow, rfl⟩, c_Move := ⟨_, PySem.W.mg_of X G aCMove, rfl⟩, is_Row := ⟨R_Row.cl, ha, hn, htk, hm, kit_self⟩ }
  exact ⟨PySem.W.fnOf "law" "law" (defArgs (topS 63)) (defBody (topS 63)) (defScope (topS 63)) .none kV35 dc35 pm35 an35 cd35 ct35, fun s v => .of_eq rfl, fun base _ _ => all_ok T R_Row R_Move (defAt_mk X G b_check_text a0 l0 c0 k0) (defAt_mk X G b_is_name a1 l1 c1 k1) (defAt_mk X G b_check_chord_count a2 l2 c2 k2) (defAt_mk X G b_end_sign a3 l3 c3 k3) (defAt_mk X G b_wrong_end a4 l4 c4 k4) (defAt_mk X G b_least_rotation a5 l5 c5 k5) (defAt_mk X G b_places_of a6 l6 c6 k6) (iniAt_mk X G b_Row___init__ aCRow mkRow kcRow a7 i7 l7 c7 k7) (staAt_mk b_Row_read rd8 ga8 fo8 rc8 l8 c8 k8) (metAt_mk R_Row.cl b_Row___eq__ a9 i9 l9 c9 k9) (defAt_mk X G b_line_moved a10 l10 c10 k10) (defAt_mk X G b_is_number a11 l11 c11 k11) (iniAt_mk X G b_Move___init__ aCMove mkMove kcMove a12 i12 l12 c12 k12) (defAt_mk X G b_moved a13 l13 c13 k13) (defAt_mk X G b__law_open a14 l14 c14 k14) (defAt_mk X G b__law_pick a15 l15 c15 k15) (defAt_mk X G b__law_of a16 l16 c16 k16) (defAt_mk X G b__law_names a17 l17 c17 k17) (defAt_mk X G b__law_like a18 l18 c18 k18) (defAt_mk X G b__law_loose_row a19 l19 c19 k19) (defAt_mk X G b__law_tied_row a20 l20 c20 k20) (defAt_mk X G b__law_placed_row a21 l21 c21 k21) (defAt_mk X G b__law_least a22 l22 c22 k22) (defAt_mk X G b__law_ends a23 l23 c23 k23) (defAt_mk X G b__law_make_row a24 l24 c24 k24) (defAt_mk X G b__law_row_is a25 l25 c25 k25) (defAt_mk X G b__law_move a26 l26 c26 k26) (defAt_mk X G b__law_is_piece a27 l27 c27 k27) (defAt_mk X G b__law_some_piece a28 l28 c28 k28) (defAt_mk X G b__law_step_on a29 l29 c29 k29) (defAt_mk X G b__law_apply a30 l30 c30 k30) (defAt_mk X G b__law_begin a31 l31 c31 k31) (defAt_mk X G b__law_gaps a32 l32 c32 k32) (defAt_mk X G b__law_again a33 l33 c33 k33) (defAt_mk X G b__law_round a34 l34 c34 k34) (fun_mk (st := (topS 63)) l35 c35 k35)⟩
end Cl

open PySem PySem.W PyProof.Rows in
set_option maxRecDepth 100000 in
set_option maxHeartbeats 0 in
theorem PySem.Challenge.cw_whocrosses_k57_whole_three_moves_holds : PySem.Challenge.rw_whocrosses_k57_whole_three_moves.Holds := by
  w_on; o_law; k_head; (case hw => w_witness2)
  k_fill
  refine Cl.walk (l := PySem.Challenge.rw_whocrosses_k57_whole_three_moves) rfl rfl (fun w h Y => PySem.W.kIn_of Y) ?F
  case F =>
    intro w mg fa h KX G hmg
    refine' Cl.all_mk KX G hmg ?z0 ?z1 ?z2 ?z3 ?z4 ?z5 ?z6 ?z7 ?z8 ?z9 ?z10 ?z11 ?z12 ?z13 ?z14 ?z15 ?z16 ?c_TEXT_LIMIT ?c_CHORD_LIMIT ?c_NAME_LIMIT ?c_FIRST_SIGNS ?c_LATER_SIGNS ?c_TIP ?c_FOOT ?c_SIGNS ?c_KINDS ?lk ?vk ?aCRow ?mkRow ?kcRow ?pgRow ?hdRow ?poRow ?saRow ?n0Row ?n1Row ?n2Row ?n3Row ?aCMove ?mkMove ?kcMove ?pgMove ?hdMove ?poMove ?saMove ?n0Move ?n1Move ?ha ?hn ?htk ?hm ?a0 ?l0 ?c0 ?k0 ?a1 ?l1 ?c1 ?k1 ?a2 ?l2 ?c2 ?k2 ?a3 ?l3 ?c3 ?k3 ?a4 ?l4 ?c4 ?k4 ?a5 ?l5 ?c5 ?k5 ?a6 ?l6 ?c6 ?k6 ?a7 ?i7 ?l7 ?c7 ?k7 ?ty8 ?rd8 ?ga8 ?fo8 ?rc8 ?l8 ?c8 ?k8 ?a9 ?i9 ?l9 ?c9 ?k9 ?a10 ?l10 ?c10 ?k10 ?a11 ?l11 ?c11 ?k11 ?a12 ?i12 ?l12 ?c12 ?k12 ?a13 ?l13 ?c13 ?k13 ?a14 ?l14 ?c14 ?k14 ?a15 ?l15 ?c15 ?k15 ?a16 ?l16 ?c16 ?k16 ?a17 ?l17 ?c17 ?k17 ?a18 ?l18 ?c18 ?k18 ?a19 ?l19 ?c19 ?k19 ?a20 ?l20 ?c20 ?k20 ?a21 ?l21 ?c21 ?k21 ?a22 ?l22 ?c22 ?k22 ?a23 ?l23 ?c23 ?k23 ?a24 ?l24 ?c24 ?k24 ?a25 ?l25 ?c25 ?k25 ?a26 ?l26 ?c26 ?k26 ?a27 ?l27 ?c27 ?k27 ?a28 ?l28 ?c28 ?k28 ?a29 ?l29 ?c29 ?k29 ?a30 ?l30 ?c30 ?k30 ?a31 ?l31 ?c31 ?k31 ?a32 ?l32 ?c32 ?k32 ?a33 ?l33 ?c33 ?k33 ?a34 ?l34 ?c34 ?k34 ?a35 ?l35 ?c35 ?k35
    (case z0 => k_is)
    (case z1 => k_is)
    (case z2 => k_is)
    (case z3 => k_is)
    (case z4 => k_is)
    (case z5 => k_is)
    (case z6 => k_is)
    (case z7 => k_is)
    (case z8 => k_is)
    (case z9 => k_is)
    (case z10 => k_is)
    (case z11 => k_is)
    (case z12 => k_is)
    (case z13 => k_is)
    (case z14 => k_is)
    (case z15 => k_is)
    (case z16 => k_is)
    (case c_TEXT_LIMIT => k_is)
    (case c_CHORD_LIMIT => k_is)
    (case c_NAME_LIMIT => k_is)
    (case c_FIRST_SIGNS => k_is)
    (case c_LATER_SIGNS => k_is)
    (case c_TIP => k_is)
    (case c_FOOT => k_is)
    (case c_SIGNS => k_is)
    (case c_KINDS => k_is)
    (case lk => k_is)
    (case vk => exact .cons ⟨_, rfl⟩ (.cons ⟨_, rfl⟩ (.cons ⟨_, rfl⟩ .nil)))
    (case aCRow => k_is)
    (case mkRow => k_is)
    (case kcRow => k_is)
    (case pgRow => k_is)
    (case hdRow => k_is)
    (case poRow => k_is)
    (case saRow => k_is)
    (case n0Row => k_is)
    (case n1Row => k_is)
    (case n2Row => k_is)
    (case n3Row => k_is)
    (case aCMove => k_is)
    (case mkMove => k_is)
    (case kcMove => k_is)
    (case pgMove => k_is)
    (case hdMove => k_is)
    (case poMove => k_is)
    (case saMove => k_is)
    (case n0Move => k_is)
    (case n1Move => k_is)
    (case ha => k_is)
    (case hn => k_is)
    (case htk => k_is)
    (case hm => k_is)
    (case a0 => k_is)
    (case l0 => k_is)
    (case c0 => k_is)
    (case k0 => k_is)
    (case a1 => k_is)
    (case l1 => k_is)
    (case c1 => k_is)
    (case k1 => k_is)
    (case a2 => k_is)
    (case l2 => k_is)
    (case c2 => k_is)
    (case k2 => k_is)
    (case a3 => k_is)
    (case l3 => k_is)
    (case c3 => k_is)
    (case k3 => k_is)
    (case a4 => k_is)
    (case l4 => k_is)
    (case c4 => k_is)
    (case k4 => k_is)
    (case a5 => k_is)
    (case l5 => k_is)
    (case c5 => k_is)
    (case k5 => k_is)
    (case a6 => k_is)
    (case l6 => k_is)
    (case c6 => k_is)
    (case k6 => k_is)
    (case a7 => k_is)
    (case i7 => k_is)
    (case l7 => k_is)
    (case c7 => k_is)
    (case k7 => k_is)
    (case ty8 => k_is)
    (case rd8 => k_is)
    (case ga8 => k_is)
    (case fo8 => k_is)
    (case rc8 => k_is)
    (case l8 => k_is)
    (case c8 => k_is)
    (case k8 => k_is)
    (case a9 => k_is)
    (case i9 => k_is)
    (case l9 => k_is)
    (case c9 => k_is)
    (case k9 => k_is)
    (case a10 => k_is)
    (case l10 => k_is)
    (case c10 => k_is)
    (case k10 => k_is)
    (case a11 => k_is)
    (case l11 => k_is)
    (case c11 => k_is)
    (case k11 => k_is)
    (case a12 => k_is)
    (case i12 => k_is)
    (case l12 => k_is)
    (case c12 => k_is)
    (case k12 => k_is)
    (case a13 => k_is)
    (case l13 => k_is)
    (case c13 => k_is)
    (case k13 => k_is)
    (case a14 => k_is)
    (case l14 => k_is)
    (case c14 => k_is)
    (case k14 => k_is)
    (case a15 => k_is)
    (case l15 => k_is)
    (case c15 => k_is)
    (case k15 => k_is)
    (case a16 => k_is)
    (case l16 => k_is)
    (case c16 => k_is)
    (case k16 => k_is)
    (case a17 => k_is)
    (case l17 => k_is)
    (case c17 => k_is)
    (case k17 => k_is)
    (case a18 => k_is)
    (case l18 => k_is)
    (case c18 => k_is)
    (case k18 => k_is)
    (case a19 => k_is)
    (case l19 => k_is)
    (case c19 => k_is)
    (case k19 => k_is)
    (case a20 => k_is)
    (case l20 => k_is)
    (case c20 => k_is)
    (case k20 => k_is)
    (case a21 => k_is)
    (case l21 => k_is)
    (case c21 => k_is)
    (case k21 => k_is)
    (case a22 => k_is)
    (case l22 => k_is)
    (case c22 => k_is)
    (case k22 => k_is)
    (case a23 => k_is)
    (case l23 => k_is)
    (case c23 => k_is)
    (case k23 => k_is)
    (case a24 => k_is)
    (case l24 => k_is)
    (case c24 => k_is)
    (case k24 => k_is)
    (case a25 => k_is)
    (case l25 => k_is)
    (case c25 => k_is)
    (case k25 => k_is)
    (case a26 => k_is)
    (case l26 => k_is)
    (case c26 => k_is)
    (case k26 => k_is)
    (case a27 => k_is)
    (case l27 => k_is)
    (case c27 => k_is)
    (case k27 => k_is)
    (case a28 => k_is)
    (case l28 => k_is)
    (case c28 => k_is)
    (case k28 => k_is)
    (case a29 => k_is)
    (case l29 => k_is)
    (case c29 => k_is)
    (case k29 => k_is)
    (case a30 => k_is)
    (case l30 => k_is)
    (case c30 => k_is)
    (case k30 => k_is)
    (case a31 => k_is)
    (case l31 => k_is)
    (case c31 => k_is)
    (case k31 => k_is)
    (case a32 => k_is)
    (case l32 => k_is)
    (case c32 => k_is)
    (case k32 => k_is)
    (case a33 => k_is)
    (case l33 => k_is)
    (case c33 => k_is)
    (case k33 => k_is)
    (case a34 => k_is)
    (case l34 => k_is)
    (case c34 => k_is)
    (case k34 => k_is)
    (case a35 => k_is)
    (case l35 => k_is)
    (case c35 => k_is)
    (case k35 => k_is)
