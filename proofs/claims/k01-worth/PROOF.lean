import PyProof.Rows.All
import Wide.All
import OpenK.AllK
import Wide.FinOn
import HandS.ForMost
import HandS.ForExc
import HandS.IsInst
import HandS.ExcIs
import HandS.CallLocal
import HandS.WideBits
import HandS.Walk
import HandS.Codes
import HandS.Style
import HandS.EndBits
import PySem.Challenge.RW_fewones_k01_worth
set_option Elab.async false
set_option linter.all false
set_option maxRecDepth 100000
set_option maxHeartbeats 2000000
set_option linter.all false
namespace FO
/-! The stack machine: what stands on the stack is a number or a sign; the top of the stack is the head of the list. -/
abbrev Itm := Sum Int Nat
def doneS : List Itm → Option (List Itm)
  | .inl b :: .inr s :: .inl a :: .inr o :: r => if o = 40 then (if s = 43 then some (.inl (a + b) :: r) else if s = 42 then some (.inl (a * b) :: r) else none) else none
  | _ => none
def stepS (S : List Itm) (c : Nat) : Option (List Itm) :=
  if c = 49 then some (.inl 1 :: S) else if c = 41 then doneS S else if c = 40 ∨ c = 43 ∨ c = 42 then some (.inr c :: S) else none
def runS : List Itm → List Nat → Option (List Itm)
  | S, [] => some S
  | S, c :: t => match stepS S c with
    | some S' => runS S' t
    | none => none
def endS : Option (List Itm) → Int
  | some [.inl n] => n
  | _ => 0
def readL (t : List Nat) : Int := endS (runS [] t)
def worthL (t : List Nat) : Int := if t.length ≤ 2000 then readL t else 0
/-- bits of the numbers on the stack -/
def phi : List Itm → Nat
  | [] => 0
  | .inl n :: r => n.natAbs.log2 + 1 + phi r
  | .inr _ :: r => phi r
theorem lt_pow_log2 (n : Nat) : n < 2 ^ (n.log2 + 1) := Nat.lt_log2_self
theorem log2_add (a b : Int) : (a + b).natAbs.log2 + 1 ≤ a.natAbs.log2 + 1 + (b.natAbs.log2 + 1) := by
  by_cases h0 : (a + b).natAbs = 0
  · rw [h0, Nat.log2_zero]; omega
  · have h1 := lt_pow_log2 a.natAbs
    have h2 := lt_pow_log2 b.natAbs
    have h3 : (a + b).natAbs < 2 ^ (a.natAbs.log2 + 1 + b.natAbs.log2 + 1) := by
      have e1 : 2 ^ (a.natAbs.log2 + 1) ≤ 2 ^ (a.natAbs.log2 + 1 + b.natAbs.log2) := Nat.pow_le_pow_right (by decide) (by omega)
      have e2 : 2 ^ (b.natAbs.log2 + 1) ≤ 2 ^ (a.natAbs.log2 + 1 + b.natAbs.log2) := Nat.pow_le_pow_right (by decide) (by omega)
      have e3 : 2 ^ (a.natAbs.log2 + 1 + b.natAbs.log2 + 1) = 2 ^ (a.natAbs.log2 + 1 + b.natAbs.log2) * 2 := Nat.pow_succ ..
      have := Int.natAbs_add_le a b
      omega
    have h4 := (Nat.log2_lt h0).mpr h3
    omega
theorem log2_mul (a b : Int) : (a * b).natAbs.log2 + 1 ≤ a.natAbs.log2 + 1 + (b.natAbs.log2 + 1) := by
  by_cases h0 : (a * b).natAbs = 0
  · rw [h0, Nat.log2_zero]; omega
  · have h1 := lt_pow_log2 a.natAbs
    have h2 := lt_pow_log2 b.natAbs
    have h3 : (a * b).natAbs < 2 ^ (a.natAbs.log2 + 1 + (b.natAbs.log2 + 1)) := by
      rw [Int.natAbs_mul, Nat.pow_add]
      exact Nat.mul_lt_mul'' h1 h2
    have h4 := (Nat.log2_lt h0).mpr h3
    omega
theorem phi_done {S S' : List Itm} (h : doneS S = some S') : phi S' ≤ phi S := by
  unfold doneS at h
  split at h
  · rename_i b s a o r
    split at h
    · split at h
      · cases h; have := log2_add a b; simp only [phi]; omega
      · split at h
        · cases h; have := log2_mul a b; simp only [phi]; omega
        · cases h
    · cases h
  · cases h
theorem len_done {S S' : List Itm} (h : doneS S = some S') : S'.length ≤ S.length := by
  unfold doneS at h
  split at h
  · split at h
    · split at h
      · cases h; simp only [List.length_cons]; omega
      · split at h
        · cases h; simp only [List.length_cons]; omega
        · cases h
    · cases h
  · cases h
theorem phi_step {S S' : List Itm} {c : Nat} (h : stepS S c = some S') : phi S' ≤ phi S + 1 := by
  unfold stepS at h
  split at h
  · cases h; simp only [phi]; have : (1 : Int).natAbs.log2 = 0 := by decide
    omega
  · split at h
    · have := phi_done h; omega
    · split at h
      · cases h; simp only [phi]; omega
      · cases h
theorem len_step {S S' : List Itm} {c : Nat} (h : stepS S c = some S') : S'.length ≤ S.length + 1 := by
  unfold stepS at h
  split at h
  · cases h; simp
  · split at h
    · have := len_done h; omega
    · split at h
      · cases h; simp
      · cases h
theorem runS_append : ∀ (t u : List Nat) (S : List Itm), runS S (t ++ u) = (match runS S t with | some S' => runS S' u | none => none)
  | [], u, S => rfl
  | c :: t, u, S => by
    show (match stepS S c with | some S' => runS S' (t ++ u) | none => none) = _
    show _ = (match (match stepS S c with | some S' => runS S' t | none => none) with | some S' => runS S' u | none => none)
    cases stepS S c with
    | none => rfl
    | some S' => exact runS_append t u S'
theorem phi_run : ∀ (t : List Nat) (S S' : List Itm), runS S t = some S' → phi S' ≤ phi S + t.length
  | [], S, S', h => by cases h; simp
  | c :: t, S, S', h => by
    unfold runS at h
    split at h
    · rename_i S1 e
      have h1 := phi_step e
      have h2 := phi_run t S1 S' h
      simp only [List.length_cons]; omega
    · cases h
theorem len_run : ∀ (t : List Nat) (S S' : List Itm), runS S t = some S' → S'.length ≤ S.length + t.length
  | [], S, S', h => by cases h; simp
  | c :: t, S, S', h => by
    unfold runS at h
    split at h
    · rename_i S1 e
      have h1 := len_step e
      have h2 := len_run t S1 S' h
      simp only [List.length_cons]; omega
    · cases h
theorem run_snoc {t : List Nat} {c : Nat} {S : List Itm} (h : runS [] t = some S) : runS [] (t ++ [c]) = stepS S c := by
  rw [runS_append, h]
  show (match stepS S c with | some S' => runS S' [] | none => none) = stepS S c
  cases stepS S c <;> rfl
/-- a writing bears on any stack -/
theorem run_frame : ∀ (t : List Nat) (S S' R : List Itm), runS S t = some S' → runS (S ++ R) t = some (S' ++ R)
  | [], S, S', R, h => by cases h; rfl
  | c :: t, S, S', R, h => by
    unfold runS at h
    split at h
    · rename_i S1 e
      have e2 : stepS (S ++ R) c = some (S1 ++ R) := by
        unfold stepS at e ⊢
        split at e
        · cases e; rename_i hc; rw [if_pos hc]; rfl
        · rename_i hc; rw [if_neg hc]
          split at e
          · rename_i hc2; rw [if_pos hc2]
            unfold doneS at e
            split at e
            · show (if _ = 40 then _ else _) = _
              split at e
              · rename_i ho; rw [if_pos ho]
                split at e
                · rename_i hs; cases e; rw [if_pos hs]; rfl
                · rename_i hs; rw [if_neg hs]
                  split at e
                  · rename_i hs2; cases e; rw [if_pos hs2]; rfl
                  · cases e
              · cases e
            · cases e
          · rename_i hc2; rw [if_neg hc2]
            split at e
            · rename_i hc3; cases e; rw [if_pos hc3]; rfl
            · cases e
      unfold runS
      rw [e2]
      exact run_frame t S1 S' R h
    · cases h
/-- the number that a text is, as it is read on an empty stack -/
def Reads (t : List Nat) (n : Int) : Prop := runS [] t = some [.inl n]
theorem Reads.one : Reads [49] 1 := rfl
theorem Reads.on {t : List Nat} {n : Int} (h : Reads t n) (R : List Itm) : runS R t = some (.inl n :: R) := run_frame t [] [.inl n] R h
theorem Reads.plus {t u : List Nat} {m n : Int} (h : Reads t m) (k : Reads u n) : Reads (40 :: (t ++ 43 :: (u ++ [41]))) (m + n) := by
  show runS [.inr 40] (t ++ 43 :: (u ++ [41])) = _
  rw [runS_append, h.on]
  show runS [.inr 43, .inl m, .inr 40] (u ++ [41]) = _
  rw [runS_append, k.on]
  rfl
theorem Reads.times {t u : List Nat} {m n : Int} (h : Reads t m) (k : Reads u n) : Reads (40 :: (t ++ 42 :: (u ++ [41]))) (m * n) := by
  show runS [.inr 40] (t ++ 42 :: (u ++ [41])) = _
  rw [runS_append, h.on]
  show runS [.inr 42, .inl m, .inr 40] (u ++ [41]) = _
  rw [runS_append, k.on]
  rfl
theorem Reads.read {t : List Nat} {n : Int} (h : Reads t n) : readL t = n := by
  unfold readL; rw [h]; rfl
theorem Reads.worth {t : List Nat} {n : Int} (h : Reads t n) (hl : t.length ≤ 2000) : worthL t = n := by
  unfold worthL; rw [if_pos hl]; exact h.read
end FO
set_option linter.all false
namespace FO
/-! The fewest ones of 0 .. 200, five bits each. -/
def T : Nat := 0x108c2308420f8c1f18c2108420f94630842307c20f8c1ef7ba0f8420f841ef83e0f7bdee8420f83e0f741ef83dee7b9ef7bdee7bdcf7b9ee739cd83dce7b9ee739cd73dce735ee739cd7358d735cd6b5ac735cd735ac635ac7358c62dac6318b6b16c62d8b5ad6a5ad6a5a96a4a9495a9294a1284210741cc6314a418820
def F (n : Nat) : Nat := (T >>> (5 * n)) % 32
/-- a state of the inner loop: the best so far, the sign, the two parts -/
abbrev Wy := Nat × Nat × Nat × Nat
def innerA (n : Nat) (st : Wy) (o : Nat) : Wy := if F o + F (n - o) < st.1 then (F o + F (n - o), 43, o, n - o) else st
def innerB (n : Nat) (st : Wy) (o : Nat) : Wy := if n % o = 0 ∧ F o + F (n / o) < st.1 then (F o + F (n / o), 42, o, n / o) else st
def innerT (n : Nat) (st : Wy) (o : Nat) : Wy := innerB n (innerA n st o) o
def bestAt (n k : Nat) : Wy := (List.range' 2 k).foldl (innerT n) (F 1 + F (n - 1), 43, 1, n - 1)
def best (n : Nat) : Wy := bestAt n (n / 2 - 1)
theorem bestAt_zero (n : Nat) : bestAt n 0 = (F 1 + F (n - 1), 43, 1, n - 1) := rfl
theorem bestAt_succ (n k : Nat) : bestAt n (k + 1) = innerT n (bestAt n k) (2 + k) := by
  unfold bestAt
  rw [List.range'_concat, List.foldl_append, Nat.one_mul]
  rfl
def okAt (n : Nat) : Bool := let w := best n
  w.1 == F n && decide (1 ≤ w.2.2.1) && decide (w.2.2.1 < n) && decide (1 ≤ w.2.2.2) && decide (w.2.2.2 < n) && F n == F w.2.2.1 + F w.2.2.2 &&
    ((w.2.1 == 43 && w.2.2.1 + w.2.2.2 == n) || (w.2.1 == 42 && w.2.2.1 * w.2.2.2 == n))
theorem ok_all : ((List.range 199).all fun i => okAt (i + 2)) = true := by decide +kernel
structure BestOk (n : Nat) : Prop where
  val : (best n).1 = F n
  a1 : 1 ≤ (best n).2.2.1
  a2 : (best n).2.2.1 < n
  b1 : 1 ≤ (best n).2.2.2
  b2 : (best n).2.2.2 < n
  sum : F n = F (best n).2.2.1 + F (best n).2.2.2
  how : ((best n).2.1 = 43 ∧ (best n).2.2.1 + (best n).2.2.2 = n) ∨ ((best n).2.1 = 42 ∧ (best n).2.2.1 * (best n).2.2.2 = n)
theorem best_ok {n : Nat} (h2 : 2 ≤ n) (h : n ≤ 200) : BestOk n := by
  have q := List.all_eq_true.mp ok_all (n - 2) (List.mem_range.mpr (by omega))
  have e : n - 2 + 2 = n := by omega
  rw [e] at q
  unfold okAt at q
  simp only [Bool.and_eq_true, Bool.or_eq_true, beq_iff_eq, decide_eq_true_eq] at q
  obtain ⟨⟨⟨⟨⟨⟨q1, q2⟩, q3⟩, q4⟩, q5⟩, q6⟩, q7⟩ := q
  exact ⟨q1, q2, q3, q4, q5, q6, q7⟩
theorem F_zero : F 0 = 0 := by decide +kernel
theorem F_one : F 1 = 1 := by decide +kernel
theorem F_bd_all : ((List.range 201).all fun n => decide (F n ≤ 18) && (n == 0 || decide (1 ≤ F n))) = true := by decide +kernel
theorem F_le {n : Nat} (h : n ≤ 200) : F n ≤ 18 := by
  have q := List.all_eq_true.mp F_bd_all n (List.mem_range.mpr (by omega))
  simp only [Bool.and_eq_true, decide_eq_true_eq] at q
  exact q.1
theorem F_pos {n : Nat} (h1 : 1 ≤ n) (h : n ≤ 200) : 1 ≤ F n := by
  have q := List.all_eq_true.mp F_bd_all n (List.mem_range.mpr (by omega))
  simp only [Bool.and_eq_true, Bool.or_eq_true, decide_eq_true_eq, beq_iff_eq] at q
  rcases q.2 with z | z
  · omega
  · exact z
def flAt (a b : Nat) : Bool := (decide (200 < a + b) || decide (F (a + b) ≤ F a + F b)) && (decide (200 < a * b) || decide (F (a * b) ≤ F a + F b))
theorem fl_all : ((List.range 200).all fun a => (List.range 200).all fun b => flAt (a + 1) (b + 1)) = true := by decide +kernel
theorem F_add {a b : Nat} (ha : 1 ≤ a) (hb : 1 ≤ b) (h : a + b ≤ 200) : F (a + b) ≤ F a + F b := by
  have q := List.all_eq_true.mp (List.all_eq_true.mp fl_all (a - 1) (List.mem_range.mpr (by omega))) (b - 1) (List.mem_range.mpr (by omega))
  have e1 : a - 1 + 1 = a := by omega
  have e2 : b - 1 + 1 = b := by omega
  rw [e1, e2] at q
  unfold flAt at q
  simp only [Bool.and_eq_true, Bool.or_eq_true, decide_eq_true_eq] at q
  rcases q.1 with z | z
  · omega
  · exact z
theorem F_mul {a b : Nat} (ha : 1 ≤ a) (hb : 1 ≤ b) (h : a * b ≤ 200) : F (a * b) ≤ F a + F b := by
  have h1 : a ≤ a * b := Nat.le_mul_of_pos_right a hb
  have h2 : b ≤ a * b := Nat.le_mul_of_pos_left b ha
  have q := List.all_eq_true.mp (List.all_eq_true.mp fl_all (a - 1) (List.mem_range.mpr (by omega))) (b - 1) (List.mem_range.mpr (by omega))
  have e1 : a - 1 + 1 = a := by omega
  have e2 : b - 1 + 1 = b := by omega
  rw [e1, e2] at q
  unfold flAt at q
  simp only [Bool.and_eq_true, Bool.or_eq_true, decide_eq_true_eq] at q
  rcases q.2 with z | z
  · omega
  · exact z

/-! The greatest number of so many ones. -/
def cG (m : Nat) : Nat := if m % 3 = 0 then 3 else if m % 3 = 1 then 4 else 2
def gr (m : Nat) : Nat := if m = 1 then 1 else cG m * 3 ^ ((m - cG m) / 3)
theorem gr1 : gr 1 = 1 := rfl
theorem gr_0 (q : Nat) : gr (3 * q + 3) = 3 * 3 ^ q := by
  have h1 : (3 * q + 3) % 3 = 0 := by omega
  have h2 : (3 * q + 3 - 3) / 3 = q := by omega
  unfold gr cG
  rw [if_neg (by omega), if_pos h1, h2]
theorem gr_1 (q : Nat) : gr (3 * q + 4) = 4 * 3 ^ q := by
  have h0 : ¬ (3 * q + 4) % 3 = 0 := by omega
  have h1 : (3 * q + 4) % 3 = 1 := by omega
  have h2 : (3 * q + 4 - 4) / 3 = q := by omega
  unfold gr cG
  rw [if_neg (by omega), if_neg h0, if_pos h1, h2]
theorem gr_2 (q : Nat) : gr (3 * q + 2) = 2 * 3 ^ q := by
  have h0 : ¬ (3 * q + 2) % 3 = 0 := by omega
  have h1 : ¬ (3 * q + 2) % 3 = 1 := by omega
  have h2 : (3 * q + 2 - 2) / 3 = q := by omega
  unfold gr cG
  rw [if_neg (by omega), if_neg h0, if_neg h1, h2]
theorem gr_cases {m : Nat} (h : 2 ≤ m) : ∃ q, m = 3 * q + 3 ∨ m = 3 * q + 4 ∨ m = 3 * q + 2 := by
  have : m % 3 = 0 ∨ m % 3 = 1 ∨ m % 3 = 2 := by omega
  rcases this with z | z | z
  · exact ⟨m / 3 - 1, .inl (by omega)⟩
  · exact ⟨m / 3 - 1, .inr (.inl (by omega))⟩
  · exact ⟨m / 3, .inr (.inr (by omega))⟩
theorem gr_add3 {m : Nat} (h : 2 ≤ m) : gr (m + 3) = 3 * gr m := by
  obtain ⟨q, rfl | rfl | rfl⟩ := gr_cases h
  · rw [show 3 * q + 3 + 3 = 3 * (q + 1) + 3 by omega, gr_0, gr_0, Nat.pow_succ]; omega
  · rw [show 3 * q + 4 + 3 = 3 * (q + 1) + 4 by omega, gr_1, gr_1, Nat.pow_succ]; omega
  · rw [show 3 * q + 2 + 3 = 3 * (q + 1) + 2 by omega, gr_2, gr_2, Nat.pow_succ]; omega
theorem pow3_pos (q : Nat) : 1 ≤ 3 ^ q := Nat.pow_pos (by decide)
theorem gr_lt {m : Nat} (h : 1 ≤ m) : gr m < gr (m + 1) := by
  by_cases h1 : m = 1
  · subst h1; decide
  obtain ⟨q, rfl | rfl | rfl⟩ := gr_cases (show 2 ≤ m by omega)
  · rw [gr_0, show 3 * q + 3 + 1 = 3 * q + 4 by omega, gr_1]; have := pow3_pos q; omega
  · rw [gr_1, show 3 * q + 4 + 1 = 3 * (q + 1) + 2 by omega, gr_2, Nat.pow_succ]; have := pow3_pos q; omega
  · rw [gr_2, show 3 * q + 2 + 1 = 3 * q + 3 by omega, gr_0]; have := pow3_pos q; omega
theorem gr_pos {m : Nat} (h : 1 ≤ m) : 1 ≤ gr m := by
  by_cases h1 : m = 1
  · subst h1; decide
  obtain ⟨q, rfl | rfl | rfl⟩ := gr_cases (show 2 ≤ m by omega)
  · rw [gr_0]; have := pow3_pos q; omega
  · rw [gr_1]; have := pow3_pos q; omega
  · rw [gr_2]; have := pow3_pos q; omega
theorem gr_ge2 {m : Nat} (h : 2 ≤ m) : 2 ≤ gr m := by
  obtain ⟨q, rfl | rfl | rfl⟩ := gr_cases h
  · rw [gr_0]; have := pow3_pos q; omega
  · rw [gr_1]; have := pow3_pos q; omega
  · rw [gr_2]; have := pow3_pos q; omega
theorem mul_swap (c d x y : Nat) : c * x * (d * y) = c * d * (x * y) := by
  rw [Nat.mul_assoc, Nat.mul_left_comm x, ← Nat.mul_assoc]
theorem gr_mul {a b : Nat} (ha : 1 ≤ a) (hb : 1 ≤ b) : gr a * gr b ≤ gr (a + b) := by
  by_cases a1 : a = 1
  · subst a1; rw [gr1, Nat.one_mul, Nat.add_comm]; exact Nat.le_of_lt (gr_lt hb)
  by_cases b1 : b = 1
  · subst b1; rw [gr1, Nat.mul_one]; exact Nat.le_of_lt (gr_lt ha)
  obtain ⟨p, hp⟩ := gr_cases (show 2 ≤ a by omega)
  obtain ⟨q, hq⟩ := gr_cases (show 2 ≤ b by omega)
  have hpq := pow3_pos (p + q)
  have e : 3 ^ p * 3 ^ q = 3 ^ (p + q) := (Nat.pow_add 3 p q).symm
  have f1 : 3 ^ (p + q + 1) = 3 ^ (p + q) * 3 := Nat.pow_succ ..
  have f2 : 3 ^ (p + q + 2) = 3 ^ (p + q) * 3 * 3 := by rw [Nat.pow_succ, Nat.pow_succ]
  rcases hp with rfl | rfl | rfl <;> rcases hq with rfl | rfl | rfl
  · rw [gr_0, gr_0, show 3 * p + 3 + (3 * q + 3) = 3 * (p + q + 1) + 3 by omega, gr_0, f1, mul_swap, e]; omega
  · rw [gr_0, gr_1, show 3 * p + 3 + (3 * q + 4) = 3 * (p + q + 1) + 4 by omega, gr_1, f1, mul_swap, e]; omega
  · rw [gr_0, gr_2, show 3 * p + 3 + (3 * q + 2) = 3 * (p + q + 1) + 2 by omega, gr_2, f1, mul_swap, e]; omega
  · rw [gr_1, gr_0, show 3 * p + 4 + (3 * q + 3) = 3 * (p + q + 1) + 4 by omega, gr_1, f1, mul_swap, e]; omega
  · rw [gr_1, gr_1, show 3 * p + 4 + (3 * q + 4) = 3 * (p + q + 2) + 2 by omega, gr_2, f2, mul_swap, e]; omega
  · rw [gr_1, gr_2, show 3 * p + 4 + (3 * q + 2) = 3 * (p + q + 1) + 3 by omega, gr_0, f1, mul_swap, e]; omega
  · rw [gr_2, gr_0, show 3 * p + 2 + (3 * q + 3) = 3 * (p + q + 1) + 2 by omega, gr_2, f1, mul_swap, e]; omega
  · rw [gr_2, gr_1, show 3 * p + 2 + (3 * q + 4) = 3 * (p + q + 1) + 3 by omega, gr_0, f1, mul_swap, e]; omega
  · rw [gr_2, gr_2, show 3 * p + 2 + (3 * q + 2) = 3 * (p + q) + 4 by omega, gr_1, mul_swap, e]; omega
theorem gr_add {a b : Nat} (ha : 1 ≤ a) (hb : 1 ≤ b) : gr a + gr b ≤ gr (a + b) := by
  by_cases a1 : a = 1
  · subst a1; rw [gr1, Nat.add_comm 1 b]; have := gr_lt hb; omega
  by_cases b1 : b = 1
  · subst b1; rw [gr1]; have := gr_lt ha; omega
  have h1 := gr_ge2 (show 2 ≤ a by omega)
  have h2 := gr_ge2 (show 2 ≤ b by omega)
  refine Nat.le_trans ?_ (gr_mul ha hb)
  generalize gr a = x at h1 ⊢
  generalize gr b = y at h2 ⊢
  obtain ⟨x', rfl⟩ : ∃ x', x = x' + 2 := ⟨x - 2, by omega⟩
  obtain ⟨y', rfl⟩ : ∃ y', y = y' + 2 := ⟨y - 2, by omega⟩
  rw [Nat.add_mul, Nat.mul_add]
  omega

/-! Writings: the text, its worth, its ones. -/
inductive Wr : List Nat → Int → Nat → Prop where
  | one : Wr [49] 1 1
  | plus {t u : List Nat} {m n : Int} {j k : Nat} (h : Wr t m j) (g : Wr u n k) : Wr (40 :: (t ++ 43 :: (u ++ [41]))) (m + n) (j + k)
  | times {t u : List Nat} {m n : Int} {j k : Nat} (h : Wr t m j) (g : Wr u n k) : Wr (40 :: (t ++ 42 :: (u ++ [41]))) (m * n) (j + k)
theorem Wr.reads {t : List Nat} {n : Int} {k : Nat} (h : Wr t n k) : Reads t n := by
  induction h with
  | one => exact .one
  | plus _ _ a b => exact a.plus b
  | times _ _ a b => exact a.times b
theorem Wr.count {t : List Nat} {n : Int} {k : Nat} (h : Wr t n k) : t.count 49 = k := by
  induction h with
  | one => rfl
  | plus _ _ a b => simp [List.count_cons, List.count_append, a, b]
  | times _ _ a b => simp [List.count_cons, List.count_append, a, b]
theorem Wr.len {t : List Nat} {n : Int} {k : Nat} (h : Wr t n k) : t.length + 3 = 4 * k := by
  induction h with
  | one => rfl
  | plus _ _ a b => simp only [List.length_cons, List.length_append, List.length_nil]; omega
  | times _ _ a b => simp only [List.length_cons, List.length_append, List.length_nil]; omega
theorem Wr.pos {t : List Nat} {n : Int} {k : Nat} (h : Wr t n k) : 1 ≤ n ∧ 1 ≤ k := by
  induction h with
  | one => exact ⟨by decide, by decide⟩
  | plus _ _ a b => exact ⟨by omega, by omega⟩
  | times _ _ a b => exact ⟨Int.le_trans a.1 (by have := Int.mul_le_mul_of_nonneg_left b.1 (show (0 : Int) ≤ _ from Int.le_trans (by decide) a.1); rwa [Int.mul_one] at this), by omega⟩
theorem Wr.le {t : List Nat} {n : Int} {k : Nat} (h : Wr t n k) : n ≤ (gr k : Int) := by
  induction h with
  | one => exact Int.le_refl _
  | plus h g a b => have := gr_add h.pos.2 g.pos.2; omega
  | @times t u m n j k h g a b =>
    have h1 := gr_mul h.pos.2 g.pos.2
    have h2 : m * n ≤ (gr j : Int) * (gr k : Int) := Int.mul_le_mul a b (by have := g.pos.1; omega) (by omega)
    have h3 : (gr j : Int) * (gr k : Int) ≤ (gr (j + k) : Int) := by exact_mod_cast h1
    omega
theorem Wr.worth {t : List Nat} {n : Int} {k : Nat} (h : Wr t n k) (hk : k ≤ 500) : worthL t = n := h.reads.worth (by have := h.len; omega)
end FO
set_option Elab.async false
set_option linter.all false
set_option maxRecDepth 100000
set_option maxHeartbeats 2000000
namespace Fo
open PySem L2 FO
/-! ### what every law's proof uses -/
/-- the def x of the top stands -/
structure Dn (K : PySem.W.Frag) (mg : Str → Option Value) (x : Str) (st : Stmt) : Prop where
  ex : ∃ (f : Addr) (fd : FuncData), Fun K x x st f fd ∧ mg x = some (.ref f)
/-- the def x keeps its promise -/
structure Kp (P : Program) (w : World) (K : PySem.W.Frag) (mg : Str → Option Value) (base : Heap) (CX : CXT) (k : Nat) (x : Str) (sp : Sp) : Prop where
  ex : ∃ (f : Addr) (fd : FuncData) (ps : List Str), FnOk P w K mg base CX k f fd ps sp ∧ mg x = some (.ref f) ∧ PySem.W.keepIn K (.ref f) = true ∧ Binds K fd ps []
/-- the built-in names are the built-ins -/
structure Bi (mg : Str → Option Value) : Prop where
  isi : mg "isinstance" = none
  int : mg "int" = none
  bool : mg "bool" = none
  str : mg "str" = none
  list : mg "list" = none
  len : mg "len" = none
  all : mg "all" = none
  range : mg "range" = none
  enum : mg "enumerate" = none
section
variable {X : Cx} {k j : Nat} {x : Str} {sp : Sp} {p pos : Pos} {e : Expr} {es : List Expr} {t : TA}
/-- a call of a def that raises nothing -/
theorem pk (c : Kp X.prog X.w X.K X.mg X.base CX0 k x sp) (hr : Room j X.A) (hk : k ≤ j) (hg : Gl X x) (ha : PA X (e :: es) t)
    (hdb : (x == ("__debug__" : Str)) = false := by decide)
    (he : starEach (e :: es) X.env = (false, eval e X.env) :: starEach es X.env := by rfl)
    (hpl : (backTo pos (starEach es X.env)).any (·.1) = false := by rfl) :
    PE X (.Call (.Name x p) (e :: es) [] pos) (tCall sp [] E0 t) := by
  obtain ⟨f, fd, ps, F, hm, kp, b⟩ := c.ex
  exact pe_call F (hr.mono hk) hg hm kp b .nil pass0 ha hdb he hpl
/-- a call of a def that may raise, where nothing is let out -/
theorem pkL (c : Kp X.prog X.w X.K X.mg X.base (L2.CX X.prog X.w) k x sp) (hr : Room j X.A) (hk : k ≤ j) (hg : Gl X x) (ha : PA X (e :: es) t)
    (hdb : (x == ("__debug__" : Str)) = false := by decide)
    (he : starEach (e :: es) X.env = (false, eval e X.env) :: starEach es X.env := by rfl)
    (hpl : (backTo pos (starEach es X.env)).any (·.1) = false := by rfl) :
    PE X (.Call (.Name x p) (e :: es) [] pos) (tCall sp [] E0 t) := by
  obtain ⟨f, fd, ps, F, hm, kp, b⟩ := c.ex
  exact pe_call F (hr.mono hk) hg hm kp b .nil passL ha hdb he hpl
/-- .. where what is raised is wished for by W -/
theorem pkS {W : WX} (c : Kp X.prog X.w X.K X.mg X.base (L2.CX X.prog X.w) k x sp) (tk : Takes X W) (hr : Room j X.A) (hk : k ≤ j) (hg : Gl X x) (ha : PA X (e :: es) t)
    (hdb : (x == ("__debug__" : Str)) = false := by decide)
    (he : starEach (e :: es) X.env = (false, eval e X.env) :: starEach es X.env := by rfl)
    (hpl : (backTo pos (starEach es X.env)).any (·.1) = false := by rfl) :
    PE X (.Call (.Name x p) (e :: es) [] pos) (tCallS sp (WE W) t) := by
  obtain ⟨f, fd, ps, F, hm, kp, b⟩ := c.ex
  exact pe_callS F (hr.mono hk) hg hm kp b (fun σ => passAt tk σ) ha hdb he hpl
end
theorem ifT {b : Bool} {A C : Prop} (h : b = true) (x : A) : if b = true then A else C := by
  rw [if_pos h]
  exact x
theorem ifF {b : Bool} {A C : Prop} (h : b = false) (x : C) : if b = true then A else C := by
  rw [h]
  exact iteF x
theorem sm_put {H H' : Hp} {p : Addr} {o : HO} (s : Same H H') (h : H p = none) : Same H (upd H' p o) := fun b u e => by
  rw [upd_ne (ne_of_none e h)]
  exact s b u e
theorem sm_new {H H' : Hp} {p : Addr} {o : HO} (s : Same H H') (h : H' p = none) : Same H (upd H' p o) := sm_put s (s.free h)
theorem sm_upd {H : Hp} {p : Addr} {o : HO} (h : H p = none) : Same H (L2.upd H p o) := sm_put (Same.refl H) h
theorem sm_tup {K : PySem.W.Frag} {H H' : Hp} {a : Addr} {xs : List V} (e : Same H H') (h : SqT K H a xs) : SqT K H' a xs := by
  rcases h with (h | ⟨o, h⟩) | h
  · exact .inl (.inl (e _ _ h))
  · exact .inl (.inr ⟨o, e _ _ h⟩)
  · exact .inr h
theorem sm_at {H H' : Hp} {a : Addr} {o : HO} (e : Same H H') (h : H a = some o) : H' a = some o := e a o h
/-- xs[-k] -/
theorem atI_neg {α : Type} {xs : List α} {k : Nat} {v : α} (h1 : 1 ≤ k) (h2 : k ≤ xs.length) (h : xs[xs.length - k]? = some v) {z : Int} (hz : z = -(k : Int)) : atI xs z = some v := by
  subst hz
  have e : ixN xs.length (-(k : Int)) = some (xs.length - k) := by
    unfold ixN
    rw [if_neg (by omega), if_pos (by omega)]
    congr 1
    omega
  unfold atI
  rw [e]
  exact h
/-- is it a whole number -/
def IsW (K : PySem.W.Frag) (H : Hp) (v : V) (b : Bool) : Prop := ∃ (t : Value) (b1 b2 : Bool), TyX K H v t ∧ PySem.W.kitOne K t (.type "int") = some b1 ∧ (b1 = true → PySem.W.kitOne K t (.type "bool") = some b2) ∧ b = (b1 && !b2)
theorem IsW.int {K : PySem.W.Frag} {H : Hp} (i : Int) : IsW K H (.int i) true := ⟨.type "int", true, false, .base (.int i), kit_ty (by decide +kernel), fun _ => kit_ty (by decide +kernel), rfl⟩
theorem IsW.str {K : PySem.W.Frag} {H : Hp} (z : Str) : IsW K H (.str z) false := ⟨.type "str", false, false, .base (.str z), kit_ty (by decide +kernel), fun _ => kit_ty (by decide +kernel), rfl⟩
theorem IsW.non {K : PySem.W.Frag} {H : Hp} : IsW K H .non false := ⟨.type "NoneType", false, false, .base .non, kit_ty (by decide +kernel), fun _ => kit_ty (by decide +kernel), rfl⟩
theorem IsW.bl {K : PySem.W.Frag} {H : Hp} (c : Bool) : IsW K H (.bl c) false := ⟨.type "bool", true, true, .base (.bl c), kit_ty (by decide +kernel), fun _ => kit_ty (by decide +kernel), rfl⟩
theorem IsW.lst {K : PySem.W.Frag} {H : Hp} {a : Addr} {xs : List V} (h : H a = some (.lst xs)) : IsW K H (.ref a) false := ⟨.type "list", false, false, .base (.lst h), kit_ty (by decide +kernel), fun _ => kit_ty (by decide +kernel), rfl⟩
theorem IsW.tup {K : PySem.W.Frag} {H : Hp} {a : Addr} {xs : List V} (h : H a = some (.tup xs)) : IsW K H (.ref a) false := ⟨.type "tuple", false, false, .base (.tup h), kit_ty (by decide +kernel), fun _ => kit_ty (by decide +kernel), rfl⟩
theorem IsW.dK {K : PySem.W.Frag} {H : Hp} {a : Addr} {xs : List (Key × V)} (h : H a = some (.dK xs)) : IsW K H (.ref a) false := ⟨.type "dict", false, false, .base (.dK h), kit_ty (by decide +kernel), fun _ => kit_ty (by decide +kernel), rfl⟩
/-- what stands on the stack, as a value -/
def itV : Itm → V
  | .inl n => .int n
  | .inr c => .str ⟨#[c]⟩
def stV (S : List Itm) : List V := S.reverse.map itV
theorem stV_cons (x : Itm) (S : List Itm) : stV (x :: S) = stV S ++ [itV x] := by simp [stV]
theorem stV_length (S : List Itm) : (stV S).length = S.length := by simp [stV]
theorem IsW.itm {K : PySem.W.Frag} {H : Hp} : ∀ x : Itm, IsW K H (itV x) (match x with | .inl _ => true | .inr _ => false)
  | .inl n => IsW.int n
  | .inr c => IsW.str _
end Fo
namespace Fo
open PySem
/-! the text by places -/
def top (i : Nat) : Stmt := PySem.Challenge.pw_fewones_k01_worth.main.body.getD i (.Pass ⟨0, 0, 0, 0⟩)
abbrev sWhole : Stmt := top 7
abbrev sDone : Stmt := top 8
abbrev sWorthOf : Stmt := top 9
abbrev sCheckText : Stmt := top 10
abbrev sWorth : Stmt := top 11
abbrev sOnes : Stmt := top 12
abbrev sLawNumber : Stmt := top 14
abbrev nLawNumber : List Str := ["_law_cell", "_law_at", "_law_whole_here", "_law_mixed", "_law_more"]
abbrev pLawNumber : List Str := ["_law_cell", "_law_at", "_law_whole_here"]
abbrev sLawWhole : Stmt := top 15
abbrev nLawWhole : List Str := ["_law_found"]
abbrev pLawWhole : List Str := ["_law_found"]
abbrev sLawText : Stmt := top 16
abbrev nLawText : List Str := ["_law_number_here", "_law_many", "_law_parts", "_law_turn", "_law_digits", "_law_one", "_law_other", "_law_made"]
abbrev pLawText : List Str := ["_law_number_here", "_law_many"]
abbrev sLawRead : Stmt := top 17
abbrev nLawRead : List Str := ["_law_text_here", "_law_ends", "_law_at", "_law_found"]
abbrev pLawRead : List Str := ["_law_text_here"]
abbrev sLawClosed : Stmt := top 18
abbrev nLawClosed : List Str := ["_law_ends", "_law_some"]
abbrev pLawClosed : List Str := ["_law_ends"]
abbrev sLawRefused : Stmt := top 19
abbrev nLawRefused : List Str := ["_law_ask", "_law_text_here", "error"]
abbrev pLawRefused : List Str := ["_law_ask", "_law_text_here"]
abbrev sLawRight : Stmt := top 20
abbrev nLawRight : List Str := ["_law_text_here", "_law_due", "_law_found", "_law_many"]
abbrev pLawRight : List Str := ["_law_text_here"]
abbrev sLaw : Stmt := top 21
abbrev nLaw : List Str := ["_law_script", "_law_at", "_law_cell", "_law_number_here", "_law_text_here", "_law_spot", "_law_tried", "_law_sign", "_law_some"]
abbrev pLaw : List Str := ["_law_script"]
end Fo
namespace Fo
open PySem L2 FO
section
variable {P : Program} {w : World} {K : PySem.W.Frag} {mg : Str → Option Value} {base : Heap}
/-! ### is_whole -/
def spWhole (K : PySem.W.Frag) : Sp := fun vs H Q _ => ∃ (v : V) (b : Bool), vs = [v] ∧ IsW K H v b ∧ Q (.bl b) H
theorem scWhole : FnScope ["thing"] ["thing"] (defScope sWhole) := ⟨rfl, rfl, rfl, by decide +kernel, rfl, by decide +kernel, by decide +kernel⟩
theorem ok_whole (D : Dn K mg "is_whole" sWhole) (B : Bi mg) : Kp P w K mg base CX0 1 "is_whole" (spWhole K) := by
  obtain ⟨f, fd, F, hm⟩ := D.ex
  refine ⟨f, fd, ["thing"], F.ok scWhole (fun vs H Q E h => ?_) (fun cdv A outer s H vs Q E hr h => ?_), hm, F.kp, F.binds fun _ _ _ _ _ _ us hl => match us, hl with | [_], _ => rfl⟩
  · obtain ⟨v, b, rfl, _⟩ := h
    rfl
  · obtain ⟨v, b, rfl, ⟨t, b1, b2, ty, k1, k2, rfl⟩, q⟩ := h
    refine ⟨_, pss_one (ps_ret (pe_and
      (pe_callB call_isi (by rfl) B.isi (by decide +kernel) (pa_cons (pv 0) (pa_cons (pe_bltn (v := .ty "int") (by rfl) B.int (by decide +kernel) rfl) pa_nil)))
      (pe_one (pe_not (pe_callB call_isi (by rfl) B.isi (by decide +kernel) (pa_cons (pv 0) (pa_cons (pe_bltn (v := .ty "bool") (by rfl) B.bool (by decide +kernel) rfl) pa_nil))))))), ?_⟩
    refine ⟨_, rfl, _, _, _, _, b1, rfl, .ty "int", ty, k1, b1, rfl, ?_⟩
    cases b1 with
    | false => exact iteF q
    | true =>
      refine iteT ⟨_, rfl, _, _, _, _, b2, rfl, .ty "bool", ty, k2 rfl, b2, rfl, ?_⟩
      exact q
end
end Fo
namespace Fo
open PySem L2 FO
section
variable {P : Program} {w : World} {K : PySem.W.Frag} {mg : Str → Option Value} {base : Heap}
/-! ### done -/
def spDone (K : PySem.W.Frag) : Sp := fun vs H Q _ => ∃ (a : Addr) (S : List Itm), vs = [.ref a] ∧ SqL K H a (stV S) ∧ S.length ≤ 2001 ∧ phi S ≤ 2001 ∧
  (doneS S = none → ∀ H', Same H H' → Q .non H') ∧ (∀ S', doneS S = some S' → ∀ H' q, Same H H' → H q = none → H' q = some (.lst (stV S')) → Q (.ref q) H')
theorem scDone : FnScope ["stack", "one", "other"] ["stack"] (defScope sDone) := ⟨rfl, rfl, rfl, by decide +kernel, rfl, by decide +kernel, by decide +kernel⟩
theorem stV4 (o s a p : Itm) (r : List Itm) : stV (o :: s :: a :: p :: r) = stV r ++ [itV p, itV a, itV s, itV o] := by
  simp [stV]
theorem scal_it (x : Itm) (z : Str) : scal (itV x) (.str z) = true := by cases x <;> rfl
theorem flat_it (x : Itm) : flatV (itV x) = true := by cases x <;> rfl
theorem it_is (x : Itm) (c : Nat) : decide (itV x = V.str ⟨#[c]⟩) = decide (x = Sum.inr c) := by
  cases x with
  | inl n =>
    rw [decide_eq_false (by intro z; cases z), decide_eq_false (by intro z; cases z)]
  | inr d =>
    by_cases h : d = c
    · subst h
      exact (decide_eq_true (p := itV (.inr d) = V.str ⟨#[d]⟩) rfl).trans (decide_eq_true rfl).symm
    · have h1 : ¬ itV (.inr d) = V.str ⟨#[c]⟩ := fun z => by
        have z' : (⟨#[d]⟩ : Str) = ⟨#[c]⟩ := V.str.inj z
        have z2 : #[d] = #[c] := congrArg Str.cps z'
        simp at z2
        exact h z2
      rw [decide_eq_false h1, decide_eq_false (fun z => h (Sum.inr.inj z))]
theorem in_pm (x : Itm) : inV (itV x) [V.str "+", V.str "*"] = (decide (x = Sum.inr 43) || decide (x = Sum.inr 42)) := by
  cases x with
  | inl n => simp [inV, eqV, itV]
  | inr d =>
    have h1 : (("+" : Str) == (⟨#[d]⟩ : Str)) = decide (d = 43) := by
      have e : ("+" : Str) = ⟨#[43]⟩ := by decide +kernel
      rw [e]
      by_cases h : d = 43
      · subst h; simp
      · simp [h, Ne.symm h]
    have h2 : (("*" : Str) == (⟨#[d]⟩ : Str)) = decide (d = 42) := by
      have e : ("*" : Str) = ⟨#[42]⟩ := by decide +kernel
      rw [e]
      by_cases h : d = 42
      · subst h; simp
      · simp [h, Ne.symm h]
    simp only [inV, List.any_cons, List.any_nil, Bool.or_false, itV, eqV]
    simp [h1, h2]
theorem done_short {S : List Itm} (h : S.length < 4) : doneS S = none := by
  unfold doneS
  split
  · simp only [List.length_cons] at h; omega
  · rfl
theorem ok_done (D : Dn K mg "done" sDone) (B : Bi mg) (W : Kp P w K mg base CX0 1 "is_whole" (spWhole K)) : Kp P w K mg base CX0 2 "done" (spDone K) := by
  obtain ⟨f, fd, F, hm⟩ := D.ex
  refine ⟨f, fd, ["stack"], F.ok scDone (fun vs H Q E h => ?_) (fun cdv A outer s H vs Q E hr h => ?_), hm, F.kp, F.binds fun _ _ _ _ _ _ us hl => match us, hl with | [_], _ => rfl⟩
  · obtain ⟨a, S, rfl, _⟩ := h
    rfl
  · obtain ⟨a, S, rfl, hS, hlen, hphi, kN, kS⟩ := h
    refine ⟨_, pss_cons (ps_if (PW.pt (pw_or (pt_cmpR op_lt (pe_callB call_len_seq (by rfl) B.len PySem.boot_len (pa_cons (pv 0) pa_nil)) pe_int (nomark _))
        (pw_or (pt_cmpR op_ne (pe_ix ix_list (pv 0) (pe_un un_neg pe_int) (fun _ _ => rfl)) pe_str (nomark _))
        (pw_or1 (pt_cmpR op_notIn_seq (pe_ix ix_list (pv 0) (pe_un un_neg pe_int) (fun _ _ => rfl)) (pe_tup (pa_cons pe_str (pa_cons pe_str pa_nil))) (by rfl))))))
          (pss_one (ps_ret pe_non)) pss_nil)
      (pss_cons (ps_par (i := 1) (j := 2) (by rfl) scDone.nd rfl rfl (by decide) rfl rfl (pa_cons (pe_ix ix_list (pv 0) (pe_un un_neg pe_int) (fun _ _ => rfl)) (pa_cons (pe_ix ix_list (pv 0) (pe_un un_neg pe_int) (fun _ _ => rfl)) pa_nil)) (by rfl))
      (pss_cons (ps_if (PW.pt (pw_or (pt_not (pt_val (pk W hr (by decide) rfl (pa_cons (pv 1) pa_nil)))) (pw_or1 (pt_not (pt_val (pk W hr (by decide) rfl (pa_cons (pv 2) pa_nil)))))))
          (pss_one (ps_ret pe_non)) pss_nil)
      (pss_one (ps_ret (pe_op op_cat (pe_slice sl_list (pv 0) po_none (po_some (pe_un un_neg pe_int)))
        (pe_lst (pa_cons (pe_ifExp (pt_cmpR op_eq (pe_ix ix_list (pv 0) (pe_un un_neg pe_int) (fun _ _ => rfl)) pe_str (nomark _)) (pe_op op_add (pv 1) (pv 2)) (pe_op op_mulX (pv 1) (pv 2))) pa_nil))))))), ?_⟩
    refine ⟨_, rfl, a, _, rfl, .inl hS, _, _, rfl, rfl, _, rfl, ?_⟩
    by_cases hl : S.length < 4
    · exact ifT (decide_eq_true (by rw [stV_length]; omega)) (iteT (kN (done_short hl) H (Same.refl H)))
    obtain ⟨o, u, x, p, r, rfl⟩ : ∃ o u x p r, S = o :: u :: x :: p :: r := by
      match S, hl with
      | o :: u :: x :: p :: r, _ => exact ⟨o, u, x, p, r, rfl⟩
      | [], h => exact absurd (by decide) h
      | [_], h => exact absurd (by simp) h
      | [_, _], h => exact absurd (by simp) h
      | [_, _, _], h => exact absurd (by simp) h
    rw [stV4] at hS
    refine ifF (decide_eq_false (by rw [stV_length]; omega)) ?_
    have L : (stV r ++ [itV p, itV x, itV u, itV o]).length = r.length + 4 := by rw [List.length_append, stV_length]; rfl
    have g4 : atI (stV r ++ [itV p, itV x, itV u, itV o]) (-4) = some (itV p) := atI_neg (k := 4) (by decide) (by omega) (by rw [L, List.getElem?_append_right (by rw [stV_length]; omega), stV_length]; simp) rfl
    have g3 : atI (stV r ++ [itV p, itV x, itV u, itV o]) (-3) = some (itV x) := atI_neg (k := 3) (by decide) (by omega) (by rw [L, List.getElem?_append_right (by rw [stV_length]; omega), stV_length, show r.length + 4 - 3 - r.length = 1 by omega]; rfl) rfl
    have g2 : atI (stV r ++ [itV p, itV x, itV u, itV o]) (-2) = some (itV u) := atI_neg (k := 2) (by decide) (by omega) (by rw [L, List.getElem?_append_right (by rw [stV_length]; omega), stV_length, show r.length + 4 - 2 - r.length = 2 by omega]; rfl) rfl
    have g1 : atI (stV r ++ [itV p, itV x, itV u, itV o]) (-1) = some (itV o) := atI_neg (k := 1) (by decide) (by omega) (by rw [L, List.getElem?_append_right (by rw [stV_length]; omega), stV_length, show r.length + 4 - 1 - r.length = 3 by omega]; rfl) rfl
    have ePar : ("(" : Str) = ⟨#[40]⟩ := by decide +kernel
    have ePlus : ("+" : Str) = ⟨#[43]⟩ := by decide +kernel
    -- stack[-4] != "("
    refine ⟨_, rfl, _, rfl, a, _, _, _, rfl, rfl, hS, g4, scal_it _ _, _, rfl, ?_⟩
    by_cases hp : ¬ p = Sum.inr 40
    · refine ifT ?_ (iteT (kN ?_ H (Same.refl H)))
      · rw [ePar, it_is, decide_eq_false hp]; rfl
      · unfold doneS
        split
        · rename_i b s a o' r' e
          injection e with e1 e; injection e with e2 e; injection e with e3 e; injection e with e4 e
          rw [if_neg (fun z => hp (by rw [e4, z]))]
        · rfl
    have hp := Classical.not_not.mp hp
    refine ifF (by rw [ePar, it_is, decide_eq_true hp]; rfl) ?_
    -- stack[-2] not in ("+", "*")
    refine ⟨_, rfl, _, rfl, a, _, _, _, rfl, rfl, hS, g2, by decide, fun T hT => ?_⟩
    refine ⟨T, _, rfl, .inr (SqT.of upd_same), flat_it _, rfl, _, rfl, ?_⟩
    have sT : Same H (upd H T (.tup [V.str "+", V.str "*"])) := sm_upd hT
    have hS1 := sT.seq hS
    by_cases hu : ¬ (u = Sum.inr 43 ∨ u = Sum.inr 42)
    · refine ifT ?_ (kN ?_ _ sT)
      · show (!inV (itV u) _) = true
        rw [in_pm, decide_eq_false (fun z => hu (.inl z)), decide_eq_false (fun z => hu (.inr z))]; rfl
      · unfold doneS
        split
        · rename_i b s a o' r' e
          injection e with e1 e; injection e with e2 e; injection e with e3 e; injection e with e4 e
          rw [if_neg (show ¬ s = 43 from fun z => hu (.inl (by rw [e2, z]))), if_neg (show ¬ s = 42 from fun z => hu (.inr (by rw [e2, z])))]
          split <;> rfl
        · rfl
    have hu := Classical.not_not.mp hu
    refine ifF ?_ ?_
    · show (!inV (itV u) _) = false
      rw [in_pm]
      rcases hu with z | z
      · rw [decide_eq_true z]; rfl
      · rw [decide_eq_true z, Bool.or_true]; rfl
    -- one, other = stack[-3], stack[-1]
    refine ⟨_, rfl, _, rfl, a, _, _, _, rfl, rfl, hS1, g3, _, rfl, _, rfl, a, _, _, _, rfl, rfl, hS1, g1, _, _, rfl, ?_⟩
    refine ⟨_, rfl, _, _, rfl, IsW.itm x, _, rfl, ?_⟩
    cases x with
    | inr c => exact iteT (iteT (kN (by unfold doneS; split <;> first | rfl | (rename_i e; injection e with e1 e; injection e with e2 e; injection e with e3 e; cases e3)) _ sT))
    | inl m =>
    refine iteF ⟨_, rfl, _, _, rfl, IsW.itm o, _, rfl, ?_⟩
    cases o with
    | inr c => exact iteT (kN (by unfold doneS; split <;> first | rfl | (rename_i e; injection e with e1 e; cases e1)) _ sT)
    | inl n =>
    refine iteF ?_
    -- stack[:-4] + [..]
    refine ⟨_, rfl, _, rfl, _, rfl, a, _, rfl, hS1, fun R hR => ?_⟩
    have sR := sm_new (o := .lst (cutV (stV r ++ [itV p, itV (.inl m), itV u, itV (.inl n)]) none (some (-4)))) sT hR
    have cut : cutV (stV r ++ [itV p, itV (.inl m), itV u, itV (.inl n)]) none (some (-4)) = stV r := by
      unfold cutV
      rw [L]
      show ((stV r ++ [itV p, itV (.inl m), itV u, itV (.inl n)]).drop 0).take ((-4 + ((r.length + 4 : Nat) : Int)).toNat - 0) = stV r
      rw [List.drop_zero, show (-4 + ((r.length + 4 : Nat) : Int)).toNat - 0 = (stV r).length by rw [stV_length]; omega, List.take_left]
    rw [cut] at sR ⊢
    have hS2 := sR.seq hS
    refine ⟨_, rfl, _, rfl, a, _, _, _, rfl, rfl, hS2, g2, scal_it _ _, _, rfl, ?_⟩
    have fin : ∀ z : Int, doneS (.inl n :: u :: .inl m :: p :: r) = some (.inl z :: r) → ∀ D, upd (upd H T (.tup [V.str "+", V.str "*"])) R (.lst (stV r)) D = none →
        rCat (V.ref R) (.ref D) (upd (upd (upd H T (.tup [V.str "+", V.str "*"])) R (.lst (stV r))) D (.lst [V.int z])) Q := fun z hz D hD => by
      have sD := sm_new (o := .lst [V.int z]) sR hD
      refine ⟨R, D, _, _, rfl, rfl, (by rw [upd_ne (ne_of_none upd_same hD), upd_same]), upd_same, ?_, fun q hq => ?_⟩
      · rw [stV_length]
        simp only [List.length_cons] at hlen
        have e : sizeLine = 16777216 := PySem.sizeLine_eq
        rw [e]
        show r.length + 1 ≤ _
        omega
      · exact kS _ hz _ q (sm_new sD hq) (sD.free hq) (by rw [upd_same, stV_cons]; rfl)
    by_cases h43 : u = Sum.inr 43
    · refine ifT (by rw [ePlus, it_is, decide_eq_true h43]) ?_
      refine ⟨_, rfl, _, rfl, m, n, rfl, rfl, (show 1 ≤ sizeLine by decide), fun D hD => fin _ ?_ D hD⟩
      rw [hp, h43]
      rfl
    · have h42 : u = Sum.inr 42 := hu.resolve_left h43
      refine ifF (by rw [ePlus, it_is, decide_eq_false h43]) ?_
      refine ⟨_, rfl, _, rfl, m, n, rfl, rfl, ?_, (show 1 ≤ sizeLine by decide), fun D hD => fin _ ?_ D hD⟩
      · rw [h42] at hphi
        simp only [phi] at hphi
        have b : ∀ x : Int, PySem.Builtin.Int.intBits x ≤ x.natAbs.log2 + 1 := fun x => by
          unfold PySem.Builtin.Int.intBits
          split <;> omega
        have b1 := b m
        have b2 := b n
        unfold CMulX
        omega
      · rw [hp, h42]
        rfl
end
end Fo
namespace Fo
open PySem L2 FO
section
variable {P : Program} {w : World} {K : PySem.W.Frag} {mg : Str → Option Value} {base : Heap}
/-! ### worth_of -/
/-- the codes of a text -/
abbrev tl (z : Str) : List Nat := z.cps.toList
def NoStr (K : PySem.W.Frag) (H : Hp) (v : V) : Prop := ∃ t, TyX K H v t ∧ PySem.W.kitOne K t (.type "str") = some false
def spWorthOf (K : PySem.W.Frag) : Sp := fun vs H Q _ => ∃ v, vs = [v] ∧ ((∃ z, v = .str z ∧ z.length ≤ sizeLine ∧ ∀ H', Same H H' → Q (.int (worthL (tl z))) H') ∨ (NoStr K H v ∧ ∀ H', Same H H' → Q (.int 0) H'))
theorem scWorthOf : FnScope ["text", "stack", "sign"] ["text"] (defScope sWorthOf) := ⟨rfl, rfl, rfl, by decide +kernel, rfl, by decide +kernel, by decide +kernel⟩
theorem take_snoc {α : Type} {l : List α} {i : Nat} {x : α} (h : l[i]? = some x) : l.take (i + 1) = l.take i ++ [x] := by
  rw [List.take_add_one, h]
  rfl
theorem str1 (c d : Nat) : decide (V.str ⟨#[c]⟩ = V.str ⟨#[d]⟩) = decide (c = d) := it_is (.inr c) d |>.trans (by
  by_cases h : c = d
  · rw [decide_eq_true h, decide_eq_true (by rw [h])]
  · rw [decide_eq_false h, decide_eq_false (fun z => h (Sum.inr.inj z))])
theorem run_fail {t : List Nat} {i c : Nat} {S : List Itm} (hc : t[i]? = some c) (h : runS [] (t.take i) = some S) (hs : stepS S c = none) : runS [] t = none := by
  have e : t = t.take (i + 1) ++ t.drop (i + 1) := (List.take_append_drop _ _).symm
  rw [e, take_snoc hc, runS_append, run_snoc h, hs]
theorem ok_worthOf (D : Dn K mg "worth_of" sWorthOf) (B : Bi mg) (lon : ∃ u, mg "LONGEST" = some u ∧ RelV (.int 2000) u) (W : Kp P w K mg base CX0 1 "is_whole" (spWhole K)) (Dk : Kp P w K mg base CX0 2 "done" (spDone K)) : Kp P w K mg base CX0 3 "worth_of" (spWorthOf K) := by
  obtain ⟨f, fd, F, hm⟩ := D.ex
  refine ⟨f, fd, ["text"], F.ok scWorthOf (fun vs H Q E h => ?_) (fun cdv A outer s H vs Q E hr h => ?_), hm, F.kp, F.binds fun _ _ _ _ _ _ us hl => match us, hl with | [_], _ => rfl⟩
  · obtain ⟨v, rfl, _⟩ := h
    rfl
  · obtain ⟨v, rfl, h⟩ := h
    refine ⟨_, pss_cons (ps_if (PW.pt (pw_or (pt_not (pt_val (pe_callB call_isi (by rfl) B.isi (by decide +kernel) (pa_cons (pv 0) (pa_cons (pe_bltn (v := .ty "str") (by rfl) B.str (by decide +kernel) rfl) pa_nil)))))
        (pw_or1 (pt_cmpR op_gt (pe_callB call_len_str (by rfl) B.len PySem.boot_len (pa_cons (pv 0) pa_nil)) (C8.pe_gc rfl lon) (nomark _)))))
          (pss_one (ps_ret pe_int)) pss_nil)
      (pss_cons (ps_set (i := 1) scWorthOf.nd rfl (Or.inl rfl) (pe_lst pa_nil))
      (pss_cons (ps_for PassesOwn.never rfl (pi_str (pv 0)) (pg_name (i := 2) scWorthOf.nd rfl (Or.inl rfl))
        (pss_one (ps_if (pt_cmpR op_eq (pv 2) pe_str (nomark _))
          (pss_one (ps_expr (pe_bm PySem.F.plainAttrs_list PySem.F.slot_list_append PySem.F.type_list_append mt_append (pv 1) (pa_cons pe_int pa_nil))))
          (pss_one (ps_if (pt_cmpR op_eq (pv 2) pe_str (nomark _))
            (pss_cons (ps_set (i := 1) scWorthOf.nd rfl (Or.inl rfl) (pk Dk hr (by decide) rfl (pa_cons (pv 1) pa_nil)))
              (pss_one (ps_if (pt_cmpR op_isN (pv 1) pe_non (nomark _)) (pss_one (ps_ret pe_int)) pss_nil)))
            (pss_one (ps_if (pt_cmpR op_in_sign (pv 2) pe_str rfl)
              (pss_one (ps_expr (pe_bm PySem.F.plainAttrs_list PySem.F.slot_list_append PySem.F.type_list_append mt_append (pv 1) (pa_cons (pv 2) pa_nil))))
              (pss_one (ps_ret pe_int)))))))))
      (pss_one (ps_ret (pe_ifExp (PW.pt (pw_and (pt_cmpR op_eq (pe_callB call_len_seq (by rfl) B.len PySem.boot_len (pa_cons (pv 1) pa_nil)) pe_int (nomark _))
          (pw_and1 (pt_val (pk W hr (by decide) rfl (pa_cons (pe_ix ix_list (pv 1) pe_int (fun _ _ => rfl)) pa_nil))))))
        (pe_ix ix_list (pv 1) pe_int (fun _ _ => rfl)) pe_int))))), ?_⟩
    rcases h with ⟨z, rfl, hz, k⟩ | ⟨⟨t, ty, kt⟩, k⟩
    · refine ⟨_, rfl, _, _, _, _, true, rfl, .ty "str", .base (.str z), kit_ty (by decide +kernel), true, rfl, iteF ?_⟩
      refine ⟨_, rfl, z, rfl, hz, _, _, rfl, rfl, _, rfl, ?_⟩
      have hlz : z.length = (tl z).length := by simp [tl, Str.length]
      by_cases hl : ¬ (tl z).length ≤ 2000
      · refine ifT (decide_eq_true (by rw [hlz]; omega)) ?_
        have q := k H (Same.refl H)
        unfold worthL at q
        rw [if_neg hl] at q
        exact q
      have hl := Classical.not_not.mp hl
      refine ifF (decide_eq_false (by rw [hlz]; omega)) ?_
      refine ⟨Nat.zero_le _, fun q0 hq0 => ?_⟩
      have kk : ∀ H', Same H H' → Q (.int (readL (tl z))) H' := fun H' s => by
        have q := k H' s
        unfold worthL at q
        rw [if_pos hl] at q
        exact q
      have bad : runS [] (tl z) = none → ∀ H', Same H H' → Q (.int 0) H' := fun e H' s => by
        have q := kk H' s
        unfold readL at q
        rw [e] at q
        exact q
      refine ⟨_, rfl, z, rfl, for_it walk_str (fun i σ H' => ∃ (S : List Itm) (q : Addr) (v : Option V), σ = [some (.str z), some (.ref q), v] ∧ runS [] ((tl z).take i) = some S ∧ H' q = some (.lst (stV S)) ∧ H q = none ∧ Same H H')
        ⟨[], q0, none, rfl, rfl, upd_same, hq0, sm_upd hq0⟩ (fun _ _ _ _ _ => trivial) ?_ ?_⟩
      · rintro i x σ H1 H2 hi ⟨S, q, v, rfl, hrun, hq, hn, hs⟩ ⟨rfl, c, hc, rfl⟩
        have hcl : (tl z)[i]? = some c := by rw [Array.getElem?_toList]; exact hc
        have hit : i < (tl z).length := (List.getElem?_eq_some_iff.mp hcl).1
        have hlS : S.length ≤ 2000 := by
          have a := len_run _ _ _ hrun
          rw [List.length_take] at a
          simp only [List.length_nil] at a
          omega
        have hpS : phi S ≤ 2000 := by
          have a := phi_run _ _ _ hrun
          rw [List.length_take] at a
          simp only [phi] at a
          omega
        have e1 : ("1" : Str) = ⟨#[49]⟩ := by decide +kernel
        have e2 : (")" : Str) = ⟨#[41]⟩ := by decide +kernel
        have next : ∀ S', stepS S c = some S' → runS [] ((tl z).take (i + 1)) = some S' := fun S' e => by
          rw [take_snoc hcl, run_snoc hrun, e]
        refine ⟨_, rfl, rfl, _, rfl, ?_⟩
        by_cases h1 : c = 49
        · refine ifT (by rw [e1, str1, decide_eq_true h1]) ?_
          refine ⟨_, rfl, .inl ⟨rfl, _, SqL.of hq⟩, q, _, _, rfl, rfl, hq, ?_, ?_⟩
          · rw [stV_length, PySem.sizeLine_eq]; omega
          · exact ⟨.inl 1 :: S, q, _, rfl, next _ (by unfold stepS; rw [if_pos h1]), by rw [upd_same, stV_cons]; rfl, hn, sm_put hs hn⟩
        refine ifF (by rw [e1, str1, decide_eq_false h1]) ?_
        refine ⟨_, rfl, rfl, _, rfl, ?_⟩
        by_cases h2 : c = 41
        · refine ifT (by rw [e2, str1, decide_eq_true h2]) ?_
          have hst : stepS S c = doneS S := by unfold stepS; rw [if_neg h1, if_pos h2]
          refine ⟨_, rfl, q, S, rfl, SqL.of hq, by omega, by omega, fun hd H' s' => ?_, fun S' hd H' q' s' n' hq' => ?_⟩
          · refine ⟨_, rfl, rfl, _, rfl, iteT ?_⟩
            exact bad (run_fail hcl hrun (hst.trans hd)) H' (hs.trans s')
          · refine ⟨_, rfl, rfl, _, rfl, iteF ?_⟩
            exact ⟨S', q', _, rfl, next _ (hst.trans hd), hq', hs.free n', hs.trans s'⟩
        refine ifF (by rw [e2, str1, decide_eq_false h2]) ?_
        refine ⟨_, rfl, c, _, rfl, rfl, _, rfl, ?_⟩
        have e3 : (("(+*" : Str)).cps.toList = [40, 43, 42] := by decide +kernel
        by_cases h3 : c = 40 ∨ c = 43 ∨ c = 42
        · refine ifT (decide_eq_true (by rw [e3]; simpa using h3)) ?_
          refine ⟨_, rfl, .inl ⟨rfl, _, SqL.of hq⟩, _, rfl, q, _, _, rfl, rfl, hq, ?_, ?_⟩
          · rw [stV_length, PySem.sizeLine_eq]; omega
          · exact ⟨.inr c :: S, q, _, rfl, next _ (by unfold stepS; rw [if_neg h1, if_neg h2, if_pos h3]), by rw [upd_same, stV_cons]; rfl, hn, sm_put hs hn⟩
        · refine ifF (decide_eq_false (by rw [e3]; simpa using h3)) ?_
          exact bad (run_fail hcl hrun (by unfold stepS; rw [if_neg h1, if_neg h2, if_neg h3])) _ hs
      · rintro σ H1 ⟨S, q, v, rfl, hrun, hq, hn, hs⟩
        have htk : (tl z).take z.cps.size = tl z := List.take_of_length_le (by simp [tl])
        rw [htk] at hrun
        refine ⟨_, rfl, q, _, rfl, .inl (SqL.of hq), rfl, _, rfl, ?_⟩
        have val : ∀ H', Same H H' → Q (.int (endS (some S))) H' := fun H' s => by
          have q := kk H' s
          unfold readL at q
          rw [hrun] at q
          exact q
        by_cases h1 : S.length = 1
        · obtain ⟨x, rfl⟩ : ∃ x, S = [x] := List.length_eq_one_iff.mp h1
          refine ifT (decide_eq_true (by rfl)) ?_
          have hat : atI (stV [x]) 0 = some (itV x) := atI_nat (j := 0) rfl
          refine ⟨_, rfl, q, _, _, _, rfl, rfl, SqL.of hq, hat, _, _, rfl, IsW.itm x, _, rfl, ?_⟩
          cases x with
          | inl n => exact iteT ⟨_, rfl, q, _, _, _, rfl, rfl, SqL.of hq, hat, val _ hs⟩
          | inr n => exact iteF (val _ hs)
        · refine ifF (decide_eq_false ?_) ?_
          · rw [stV_length]
            intro z
            have z' := V.int.inj z
            omega
          · have e0 : endS (some S) = 0 := by
              unfold endS
              split
              · rename_i n e
                cases e
                exact absurd rfl h1
              · rfl
            rw [e0] at val
            exact val _ hs
    · refine ⟨_, rfl, _, _, _, _, false, rfl, .ty "str", ty, kt, false, rfl, iteT ?_⟩
      exact iteT (k H (Same.refl H))
end
end Fo
namespace Fo
open PySem L2 FO
/-! ### how often a sign stands in a text -/
theorem occ_count (x : Str) (c : Nat) : ∀ (k i : Nat) (st : Array Nat × Nat), i + k = x.length + 1 → st.1.size ≤ i → st.2 ≤ i →
    (forIn (List.range' i k) st (StrLaws.occBody x ⟨#[c]⟩ x.length (x.length + 1))).run.fst.size = st.1.size + ((tl x).drop i).count c
  | 0, i, st, h, h1, h2 => by
    have e : (tl x).drop i = [] := List.drop_eq_nil_of_le (by show x.cps.toList.length ≤ i; rw [Array.length_toList]; show x.length ≤ i; omega)
    rw [e]
    rfl
  | k + 1, i, st, h, h1, h2 => by
    rw [List.range'_succ, List.forIn_cons]
    have sub := StrLaws.subAt_one x c i
    by_cases hc : (tl x)[i]? = some c
    · have q := sub.mpr hc
      have hb : StrLaws.occBody x ⟨#[c]⟩ x.length (x.length + 1) i st = pure (ForInStep.yield (st.1.push i, i + 1)) := by
        unfold StrLaws.occBody
        rw [if_pos ⟨⟨⟨by omega, h2⟩, q.1⟩, q.2⟩]
        rfl
      rw [hb]
      have ih := occ_count x c k (i + 1) (st.1.push i, i + 1) (by omega) (by rw [Array.size_push]; omega) (Nat.le_refl _)
      have hd : (tl x).drop i = c :: (tl x).drop (i + 1) := by
        obtain ⟨hlt, e⟩ := List.getElem?_eq_some_iff.mp hc
        rw [List.drop_eq_getElem_cons hlt, e]
      rw [hd, List.count_cons_self]
      refine Eq.trans ih ?_
      rw [Array.size_push]
      omega
    · have hb : StrLaws.occBody x ⟨#[c]⟩ x.length (x.length + 1) i st = pure (ForInStep.yield (st.1, st.2)) := by
        unfold StrLaws.occBody
        rw [if_neg (fun q => hc (sub.mp ⟨q.1.2, q.2⟩))]
      rw [hb]
      have ih := occ_count x c k (i + 1) (st.1, st.2) (by omega) (by show st.1.size ≤ _; omega) (by show st.2 ≤ _; omega)
      refine Eq.trans ih ?_
      by_cases hlt : i < (tl x).length
      · rw [List.drop_eq_getElem_cons hlt, List.count_cons_of_ne]
        intro z
        exact hc (by rw [List.getElem?_eq_getElem hlt, z])
      · have e : (tl x).drop i = [] := List.drop_eq_nil_of_le (by omega)
        have e' : (tl x).drop (i + 1) = [] := List.drop_eq_nil_of_le (by omega)
        rw [e, e']
theorem count_is (x : Str) (c : Nat) : Txt.count x ⟨#[c]⟩ = (((tl x).count c : Nat) : Int) := by
  unfold Txt.count
  rw [StrLaws.occ_eq, Array.length_toList, Nat.sub_zero, occ_count x c (x.length + 1) 0 (#[], 0) (by omega) (Nat.le_refl _) (Nat.le_refl _)]
  simp
theorem count_one (x : Str) : Txt.count x "1" = (((tl x).count 49 : Nat) : Int) := by
  have e : ("1" : Str) = ⟨#[49]⟩ := by decide +kernel
  rw [e]
  exact count_is x 49
/-! ### errors -/
/-- the error class x of the program stands at C -/
structure ErC (K : PySem.W.Frag) (mg : Str → Option Value) (x : Str) (C : Addr) : Prop where
  g : mg x = some (.ref C)
  x : PySem.W.excIn K C [.type "ValueError", .type "Exception", .type "BaseException", .type "object"] "ValueError.__new__" = true
  k : PySem.W.keepIn K (.ref C) = true
  b : PySem.W.subIn K (.ref C) (.type "BaseException") = some true
  t : PySem.W.typeIn K (.ref C) = some (.type "type")
section
variable {P : Program} {w : World} {K : PySem.W.Frag} {mg : Str → Option Value} {base : Heap} {CT : Addr}
/-! ### check_text, worth, ones -/
/-- a text is asked: behind it what is wanted of a writing (with its worth), and what of all else -/
def AskT (K : PySem.W.Frag) (v : V) (H : Hp) (good : Str → Prop) (bad : Prop) : Prop :=
  (∃ z, v = .str z ∧ z.length ≤ sizeLine ∧ (worthL (tl z) = 0 → bad) ∧ (worthL (tl z) ≠ 0 → good z)) ∨ (NoStr K H v ∧ bad)
def spCheckText (K : PySem.W.Frag) (C : Addr) : Sp := fun vs H Q E => ∃ v, vs = [v] ∧ AskT K v H (fun _ => ∀ H', Same H H' → Q .non H') (∀ H', Same H H' → E (.ref C) none H')
def spWorth (K : PySem.W.Frag) (C : Addr) : Sp := fun vs H Q E => ∃ v, vs = [v] ∧ AskT K v H (fun z => ∀ H', Same H H' → Q (.int (worthL (tl z))) H') (∀ H', Same H H' → E (.ref C) none H')
def spOnes (K : PySem.W.Frag) (C : Addr) : Sp := fun vs H Q E => ∃ v, vs = [v] ∧ AskT K v H (fun z => ∀ H', Same H H' → Q (.int (((tl z).count 49 : Nat) : Int)) H') (∀ H', Same H H' → E (.ref C) none H')
theorem scCheckText : FnScope ["text"] ["text"] (defScope sCheckText) := ⟨rfl, rfl, rfl, by decide +kernel, rfl, by decide +kernel, by decide +kernel⟩
theorem scWorth : FnScope ["text"] ["text"] (defScope sWorth) := ⟨rfl, rfl, rfl, by decide +kernel, rfl, by decide +kernel, by decide +kernel⟩
theorem scOnes : FnScope ["text"] ["text"] (defScope sOnes) := ⟨rfl, rfl, rfl, by decide +kernel, rfl, by decide +kernel, by decide +kernel⟩
theorem ok_checkText (D : Dn K mg "check_text" sCheckText) (T : ErC K mg "BadText" CT) (W : Kp P w K mg base CX0 3 "worth_of" (spWorthOf K)) : Kp P w K mg base (L2.CX P w) 4 "check_text" (spCheckText K CT) := by
  obtain ⟨f, fd, F, hm⟩ := D.ex
  refine ⟨f, fd, ["text"], F.okX scCheckText (fun vs H Q E h => ?_) (fun cdv A outer s H vs Q E hr h => ?_), hm, F.kp, F.binds fun _ _ _ _ _ _ us hl => match us, hl with | [_], _ => rfl⟩
  · obtain ⟨v, rfl, _⟩ := h
    rfl
  · obtain ⟨v, rfl, h⟩ := h
    refine ⟨_, pss_one (ps_if (pt_cmpR op_eq (pk W hr (by decide) rfl (pa_cons (pv 0) pa_nil)) pe_int (nomark _))
      (pss_one (ps_raise rfl (takes_of rfl rfl rfl rfl) (pmk_own PySem.F.excBase_ValueError T.x T.g T.k (raises_own T.b T.t) rfl))) pss_nil), ?_⟩
    rcases h with ⟨z, rfl, hz, kb, kg⟩ | ⟨ns, kb⟩
    · refine ⟨_, rfl, _, rfl, .inl ⟨z, rfl, hz, fun H' s' => ⟨rfl, _, rfl, ?_⟩⟩⟩
      by_cases h0 : worthL (tl z) = 0
      · exact ifT (decide_eq_true (by rw [h0])) (kb h0 H' s')
      · exact ifF (decide_eq_false (fun q => h0 (V.int.inj q))) (kg h0 H' s')
    · exact ⟨_, rfl, _, rfl, .inr ⟨ns, fun H' s' => ⟨rfl, _, rfl, iteT (kb H' s')⟩⟩⟩
theorem ok_worth (D : Dn K mg "worth" sWorth) (W : Kp P w K mg base CX0 3 "worth_of" (spWorthOf K)) (C : Kp P w K mg base (L2.CX P w) 4 "check_text" (spCheckText K CT)) : Kp P w K mg base (L2.CX P w) 5 "worth" (spWorth K CT) := by
  obtain ⟨f, fd, F, hm⟩ := D.ex
  refine ⟨f, fd, ["text"], F.okX scWorth (fun vs H Q E h => ?_) (fun cdv A outer s H vs Q E hr h => ?_), hm, F.kp, F.binds fun _ _ _ _ _ _ us hl => match us, hl with | [_], _ => rfl⟩
  · obtain ⟨v, rfl, _⟩ := h
    rfl
  · obtain ⟨v, rfl, h⟩ := h
    refine ⟨_, pss_cons (ps_expr (pkS C (takes_of rfl rfl rfl rfl) hr (by decide) rfl (pa_cons (pv 0) pa_nil))) (pss_one (ps_ret (pk W hr (by decide) rfl (pa_cons (pv 0) pa_nil)))), ?_⟩
    rcases h with ⟨z, rfl, hz, kb, kg⟩ | ⟨ns, kb⟩
    · refine ⟨_, rfl, _, rfl, .inl ⟨z, rfl, hz, kb, fun h0 H' s' => ?_⟩⟩
      exact ⟨_, rfl, _, rfl, .inl ⟨z, rfl, hz, fun H2 s2 => kg h0 H2 (s'.trans s2)⟩⟩
    · exact ⟨_, rfl, _, rfl, .inr ⟨ns, kb⟩⟩
theorem ok_ones (D : Dn K mg "ones" sOnes) (C : Kp P w K mg base (L2.CX P w) 4 "check_text" (spCheckText K CT)) : Kp P w K mg base (L2.CX P w) 5 "ones" (spOnes K CT) := by
  obtain ⟨f, fd, F, hm⟩ := D.ex
  refine ⟨f, fd, ["text"], F.okX scOnes (fun vs H Q E h => ?_) (fun cdv A outer s H vs Q E hr h => ?_), hm, F.kp, F.binds fun _ _ _ _ _ _ us hl => match us, hl with | [_], _ => rfl⟩
  · obtain ⟨v, rfl, _⟩ := h
    rfl
  · obtain ⟨v, rfl, h⟩ := h
    refine ⟨_, pss_cons (ps_expr (pkS C (takes_of rfl rfl rfl rfl) hr (by decide) rfl (pa_cons (pv 0) pa_nil))) (pss_one (ps_ret (pe_m1 PySem.F.slot_str_count PySem.F.type_str_count mt_count (pv 0) pe_str))), ?_⟩
    rcases h with ⟨z, rfl, hz, kb, kg⟩ | ⟨ns, kb⟩
    · refine ⟨_, rfl, _, rfl, .inl ⟨z, rfl, hz, kb, fun h0 H' s' => ?_⟩⟩
      refine ⟨_, rfl, ⟨z, rfl⟩, z, _, rfl, rfl, ?_⟩
      show Q (.int (Txt.count z "1")) H'
      rw [count_one]
      exact kg h0 H' s'
    · exact ⟨_, rfl, _, rfl, .inr ⟨ns, kb⟩⟩
end
end Fo
namespace Fo
open PySem L2 FO PySem.Spec PyProof.Rows
/-! ### calls of a name that holds a def; errors that are caught -/
/-- the i-th slot holds a def f with the promise sp; what is raised is wished for by W -/
def tCallVS (i : Nat) (S : Addr → Sp → Prop) (W : WX) (t : TA) : TE := fun σ H Q => ∃ f sp, σ[i]? = some (some (.ref f)) ∧ S f sp ∧ t σ H fun vs H1 => sp vs H1 Q (WE W σ)
/-- the def at f keeps sp -/
structure Ka (P : Program) (w : World) (K : PySem.W.Frag) (mg : Str → Option Value) (base : Heap) (CX : CXT) (k : Nat) (f : Addr) (sp : Sp) : Prop where
  ex : ∃ (fd : FuncData) (ps : List Str), FnOk P w K mg base CX k f fd ps sp ∧ PySem.W.keepIn K (.ref f) = true ∧ Binds K fd ps []
section
variable {X : Cx} {k j i : Nat} {x : Str} {p pos : Pos} {e : Expr} {es : List Expr} {t : TA}
theorem pkV {W : WX} {S : Addr → Sp → Prop} (A : ∀ f sp, S f sp → Ka X.prog X.w X.K X.mg X.base (L2.CX X.prog X.w) k f sp) (tk : Takes X W) (hr : Room j X.A) (hk : k ≤ j) (hN : X.N[i]? = some x) (hv : Vis X.env.scope x) (ha : PA X (e :: es) t)
    (hdb : (x == ("__debug__" : Str)) = false := by decide)
    (hcd : (x == ("__classdict__" : Str)) = false := by decide)
    (he : starEach (e :: es) X.env = (false, eval e X.env) :: starEach es X.env := by rfl)
    (hpl : (backTo pos (starEach es X.env)).any (·.1) = false := by rfl) :
    PE X (.Call (.Name x p) (e :: es) [] pos) (tCallVS i S W t) := by
  refine ⟨fun pins s σ H Q I h => ?_⟩
  obtain ⟨f, sp, hs, hS, ht⟩ := h
  obtain ⟨fd, ps, F, kp, hb⟩ := (A f sp hS).ex
  have load := (pe_var (pos := p) hN hv hdb hcd).run pins s σ H (fun v H1 => v = .ref f ∧ H1 = H) I ⟨.ref f, hs, rfl, rfl⟩
  refine wpAny_Call_Name_kw (thn load fun u s1 back => ?_)
  obtain ⟨v, H1, I1, r1, ev, eH⟩ := back
  subst ev eH
  have eu : u = Value.ref f := r1
  subst eu
  have run := ha.run pos pins s1 σ _ _ I1 ht
  refine PySem.W.callWith_K (h₀ := X.base) I.ok.mod.kin kp (thn run fun us s2 back => ?_) he hpl
  obtain ⟨vs, H2, I2, r, q⟩ := back
  exact ⟨I2.kIn, run_fnS F (hr.mono hk) hb (passAt tk σ) I2 r q⟩
/-- isinstance(error, c) where the error's class is only known in the reading -/
theorem isE {a : Addr} {oe : Obj} {cls : Value} {d : Option Addr} {pn : List (Addr × Obj)} (hz : Zc cls d oe) (hf : ∃ vs, oe.data = .fields vs) :
    CallR (X.suite a ((a, oe) :: pn)) (.builtin "isinstance") (fun xs H Q => ∃ D, cls = .ref D ∧ d = none ∧ ExcC X.K D ∧ rIsE X.K D a xs H Q) := by
  intro pins s σ H xs us Q I r h
  obtain ⟨D, rfl, rfl, C, h⟩ := h
  exact call_isE C hz hf pins s σ H xs us Q I r h
end
/-- the error class at D, as isinstance and except ask it: the base at O, and of the three classes the n-th is its own -/
structure ErK (K : PySem.W.Frag) (O D : Addr) (cs : List (Addr × Bool)) : Prop where
  c : ExcC K D
  up : PySem.W.exmOne K (.ref D) (.ref O) = some true
  is : ∀ p ∈ cs, PySem.W.kitOne K (.ref D) (.ref p.1) = some p.2
end Fo
namespace Fo
open PySem L2 FO
section
variable {P : Program} {w : World} {K : PySem.W.Frag} {mg : Str → Option Value} {base : Heap}
/-! ### _law_number: some number -/
def spNumber : Sp := fun vs H Q _ => ∃ c a h : Int, vs = [.int c, .int a, .int h] ∧ c.natAbs < 2 ^ 2000000 ∧ 0 ≤ a ∧ a ≤ 1000 ∧ 0 ≤ h ∧ h ≤ 1000 ∧ ∀ z : Int, Q (.int z) H
theorem scNumber : FnScope nLawNumber pLawNumber (defScope sLawNumber) := ⟨rfl, rfl, rfl, by decide +kernel, rfl, by decide +kernel, by decide +kernel⟩
theorem small_lt {x : Int} {n : Nat} (h : x.natAbs < 2 ^ n) (m : Nat) (hm : n ≤ m) : x.natAbs < 2 ^ m := Nat.lt_of_lt_of_le h (Nat.pow_le_pow_right (by decide) hm)
theorem add_lt {x y : Int} {n : Nat} (hx : x.natAbs < 2 ^ n) (hy : y.natAbs < 2 ^ n) : (x + y).natAbs < 2 ^ (n + 1) := by
  have := Int.natAbs_add_le x y
  rw [Nat.pow_succ]
  omega
theorem mul_lt {x y : Int} {m n : Nat} (hx : x.natAbs < 2 ^ m) (hy : y.natAbs < 2 ^ n) : (x * y).natAbs < 2 ^ (m + n) := by
  rw [Int.natAbs_mul, Nat.pow_add]
  exact Nat.mul_lt_mul'' hx hy
theorem ok_number (D : Dn K mg "_law_number" sLawNumber) : Kp P w K mg base CX0 1 "_law_number" spNumber := by
  obtain ⟨f, fd, F, hm⟩ := D.ex
  refine ⟨f, fd, pLawNumber, F.ok scNumber (fun vs H Q E h => ?_) (fun cdv A outer s H vs Q E hr h => ?_), hm, F.kp, F.binds fun _ _ _ _ _ _ us hl => match us, hl with | [_, _, _], _ => rfl⟩
  · obtain ⟨c, a, h, rfl, _⟩ := h
    rfl
  · obtain ⟨c, a, h, rfl, hc, a0, a1, h0, h1, k⟩ := h
    refine ⟨_, pss_cons (ps_if (pt_cmpR op_ge (pv 0) (pe_op op_pow pe_int pe_int) (nomark _)) (pss_one (ps_ret (pv 0))) pss_nil)
      (pss_cons (ps_set (i := 3) scNumber.nd rfl (Or.inl rfl) (pe_op op_mod (pe_op op_add (pe_op op_mulX (pe_op op_add (pv 0) (pe_op op_mulX pe_int (pv 1))) pe_int) (pv 2)) pe_int))
      (pss_cons (ps_set (i := 4) scNumber.nd rfl (Or.inl rfl) (pe_op op_mulX (pe_op op_mulX (pv 3) (pe_op op_add (pe_op op_add (pv 3) (pe_op op_mulX pe_int (pv 1))) pe_int)) (pe_op op_add (pe_op op_add (pv 3) (pv 0)) pe_int)))
      (pss_one (ps_ret (pe_op op_fdivN (pe_op op_mulX (pv 4) (pe_op op_add (pv 4) pe_int)) pe_int))))), ?_⟩
    refine ⟨_, rfl, _, _, rfl, rfl, ⟨by decide, by decide, by decide⟩, _, _, rfl, rfl, _, rfl, ?_⟩
    have ha : a.natAbs < 2 ^ 10 := by show a.natAbs < 1024; omega
    have hh : h.natAbs < 2 ^ 10 := by show h.natAbs < 1024; omega
    have e1 : (977 * a).natAbs < 2 ^ 20 := mul_lt (m := 10) (n := 10) (by decide) ha
    have e2 : (c + 977 * a).natAbs < 2 ^ 2000001 := add_lt hc (small_lt e1 _ (by decide))
    refine ite2 (fun _ => ⟨_, rfl, k c⟩) (fun _ => ?_)
    have hmod : ∀ x : Int, (x % 2147483647).natAbs < 2 ^ 31 := fun x => by
      have p1 := Int.emod_nonneg x (show (2147483647 : Int) ≠ 0 by decide)
      have p2 := Int.emod_lt_of_pos x (show (0 : Int) < 2147483647 by decide)
      show _ < 2147483648
      omega
    refine ⟨_, rfl, _, rfl, _, _, rfl, rfl, mulx_ok (a := 10) (b := 10) (by decide) ha (by decide), _, _, rfl, rfl, _, _, rfl, rfl, mulx_ok (a := 2000001) (b := 16) e2 (by decide) (by decide), _, rfl, _, _, rfl, rfl, _, _, rfl, rfl, (by show (0 : Int) < 2147483647; decide), ?_⟩
    have hx := hmod ((c + 977 * a) * 48271 + h)
    obtain ⟨x, ex⟩ : ∃ x, x = ((c + 977 * a) * 48271 + h) % 2147483647 := ⟨_, rfl⟩
    rw [← ex] at hx
    have g1 : (31 * a).natAbs < 2 ^ 15 := mul_lt (m := 5) (n := 10) (by decide) ha
    have g2 : (x + 31 * a).natAbs < 2 ^ 32 := add_lt hx (small_lt g1 _ (by decide))
    have g3 : (x + 31 * a + 7).natAbs < 2 ^ 33 := add_lt g2 (by decide)
    have g4 : (x * (x + 31 * a + 7)).natAbs < 2 ^ 64 := mul_lt (m := 31) (n := 33) hx g3
    have g5 : (x + c).natAbs < 2 ^ 2000001 := add_lt (small_lt hx _ (by decide)) hc
    have g6 : (x + c + 5).natAbs < 2 ^ 2000002 := add_lt g5 (small_lt (n := 3) (by decide) _ (by decide))
    have g7 : (x * (x + 31 * a + 7) * (x + c + 5)).natAbs < 2 ^ 2000066 := mul_lt (m := 64) (n := 2000002) g4 g6
    have g8 : (x * (x + 31 * a + 7) * (x + c + 5) + 48271).natAbs < 2 ^ 2000067 := add_lt g7 (small_lt (n := 16) (by decide) _ (by decide))
    show gName 3 (V.int (((c + 977 * a) * 48271 + h) % 2147483647)) _ _ _
    rw [← ex]
    refine ⟨_, rfl, _, rfl, _, rfl, _, _, rfl, rfl, mulx_ok (a := 5) (b := 10) (by decide) ha (by decide), _, _, rfl, rfl, _, _, rfl, rfl, _, _, rfl, rfl, mulx_ok (a := 31) (b := 33) hx g3 (by decide),
      _, rfl, _, rfl, _, _, rfl, rfl, _, _, rfl, rfl, _, _, rfl, rfl, mulx_ok (a := 64) (b := 2000002) g4 g6 (by decide), ?_⟩
    refine ⟨_, rfl, _, rfl, _, _, rfl, rfl, _, _, rfl, rfl, mulx_ok (a := 2000066) (b := 2000067) g7 g8 (by decide), _, _, rfl, rfl, ⟨by decide, by decide⟩, k _⟩
end
end Fo
namespace Fo
open PySem L2 FO
section
variable {P : Program} {w : World} {K : PySem.W.Frag} {mg : Str → Option Value} {base : Heap}
/-! ### _law_closed -/
def spClosed (K : PySem.W.Frag) : Sp := fun vs H Q _ => ∃ (a : Addr) (S : List Itm), vs = [.ref a] ∧ SqL K H a (stV S) ∧ S.length ≤ 2001 ∧ phi S ≤ 2001 ∧
  ∀ H' q, Same H H' → H q = none → H' q = some (.lst (match doneS S with | some S' => stV S' | none => [])) → Q (.ref q) H'
theorem scClosed : FnScope nLawClosed pLawClosed (defScope sLawClosed) := ⟨rfl, rfl, rfl, by decide +kernel, rfl, by decide +kernel, by decide +kernel⟩
theorem isi_it {K : PySem.W.Frag} {H : Hp} : ∀ x : Itm, ∃ t, TyX K H (itV x) t ∧ PySem.W.kitOne K t (.type "int") = some (match x with | .inl _ => true | .inr _ => false)
  | .inl n => ⟨.type "int", .base (.int n), kit_ty (r := true) (by decide +kernel)⟩
  | .inr c => ⟨.type "str", .base (.str _), kit_ty (r := false) (by decide +kernel)⟩
theorem at4 {xs : List V} {j : Nat} {v : V} (h : xs[j]? = some v) {z : Int} (hz : z = (j : Int)) : atI xs z = some v := by
  subst hz
  exact atI_nat h
theorem cut_last (l r : List V) (hr : r.length = 4) : cutV (l ++ r) (some (-4)) none = r := by
  unfold cutV
  have e : (l ++ r).length = l.length + 4 := by rw [List.length_append, hr]
  have e1 : HT.sIx (l ++ r).length 0 (some (-4)) = l.length := by
    show (if (-4 : Int) < 0 then (-4 + ((l ++ r).length : Int)).toNat else min (-4 : Int).toNat (l ++ r).length) = l.length
    rw [if_pos (by decide), e]
    omega
  have e2 : HT.sIx (l ++ r).length (l ++ r).length none = l.length + 4 := by
    show (l ++ r).length = _
    exact e
  rw [e1, e2, List.drop_left]
  exact List.take_of_length_le (by omega)
theorem cut_first (l r : List V) (hr : r.length = 4) : cutV (l ++ r) none (some (-4)) = l := by
  unfold cutV
  have e : (l ++ r).length = l.length + 4 := by rw [List.length_append, hr]
  have e1 : HT.sIx (l ++ r).length (l ++ r).length (some (-4)) = l.length := by
    show (if (-4 : Int) < 0 then (-4 + ((l ++ r).length : Int)).toNat else min (-4 : Int).toNat (l ++ r).length) = l.length
    rw [if_pos (by decide), e]
    omega
  have e2 : HT.sIx (l ++ r).length 0 none = 0 := rfl
  rw [e1, e2, List.drop_zero, Nat.sub_zero, List.take_left]
theorem cut_short (l : List V) (hr : l.length < 4) : cutV l (some (-4)) none = l := by
  unfold cutV
  have e1 : HT.sIx l.length 0 (some (-4)) = 0 := by
    show (if (-4 : Int) < 0 then (-4 + (l.length : Int)).toNat else min (-4 : Int).toNat l.length) = 0
    rw [if_pos (by decide)]
    omega
  have e2 : HT.sIx l.length l.length none = l.length := rfl
  rw [e1, e2, List.drop_zero]
  exact List.take_of_length_le (by omega)
theorem split4 {S : List Itm} (h : ¬ S.length < 4) : ∃ o u x p r, S = o :: u :: x :: p :: r := by
  match S, h with
  | o :: u :: x :: p :: r, _ => exact ⟨o, u, x, p, r, rfl⟩
  | [], h => exact absurd (by decide) h
  | [_], h => exact absurd (by simp) h
  | [_, _], h => exact absurd (by simp) h
  | [_, _, _], h => exact absurd (by simp) h
theorem ok_closed (D : Dn K mg "_law_closed" sLawClosed) (B : Bi mg) : Kp P w K mg base CX0 1 "_law_closed" (spClosed K) := by
  obtain ⟨f, fd, F, hm⟩ := D.ex
  refine ⟨f, fd, pLawClosed, F.ok scClosed (fun vs H Q E h => ?_) (fun cdv A outer s H vs Q E hr h => ?_), hm, F.kp, F.binds fun _ _ _ _ _ _ us hl => match us, hl with | [_], _ => rfl⟩
  · obtain ⟨a, S, rfl, _⟩ := h
    rfl
  · obtain ⟨a, S, rfl, hS, hlen, hphi, k⟩ := h
    refine ⟨_, pss_cons (ps_set (i := 1) scClosed.nd rfl (Or.inl rfl) (pe_slice sl_list (pv 0) (po_some (pe_un un_neg pe_int)) po_none))
      (pss_cons (ps_if (PW.pt (pw_or (pt_cmpR op_lt (pe_callB call_len_seq (by rfl) B.len PySem.boot_len (pa_cons (pv 1) pa_nil)) pe_int (nomark _))
        (pw_or (pt_cmpR op_ne (pe_ix ix_list (pv 1) pe_int (fun _ _ => rfl)) pe_str (nomark _))
        (pw_or1 (pt_cmpR op_notIn_seq (pe_ix ix_list (pv 1) pe_int (fun _ _ => rfl)) (pe_lst (pa_cons pe_str (pa_cons pe_str pa_nil))) (by rfl))))))
          (pss_one (ps_ret (pe_lst pa_nil))) pss_nil)
      (pss_cons (ps_if (PW.pt (pw_or (pt_not (pt_val (pe_callB call_isi (by rfl) B.isi (by decide +kernel) (pa_cons (pe_ix ix_list (pv 1) pe_int (fun _ _ => rfl)) (pa_cons (pe_bltn (v := .ty "int") (by rfl) B.int (by decide +kernel) rfl) pa_nil)))))
          (pw_or1 (pt_not (pt_val (pe_callB call_isi (by rfl) B.isi (by decide +kernel) (pa_cons (pe_ix ix_list (pv 1) pe_int (fun _ _ => rfl)) (pa_cons (pe_bltn (v := .ty "int") (by rfl) B.int (by decide +kernel) rfl) pa_nil))))))))
          (pss_one (ps_ret (pe_lst pa_nil))) pss_nil)
      (pss_one (ps_ret (pe_op op_cat (pe_slice sl_list (pv 0) po_none (po_some (pe_un un_neg pe_int)))
        (pe_lst (pa_cons (pe_ifExp (pt_cmpR op_eq (pe_ix ix_list (pv 1) pe_int (fun _ _ => rfl)) pe_str (nomark _)) (pe_op op_add (pe_ix ix_list (pv 1) pe_int (fun _ _ => rfl)) (pe_ix ix_list (pv 1) pe_int (fun _ _ => rfl))) (pe_op op_mulX (pe_ix ix_list (pv 1) pe_int (fun _ _ => rfl)) (pe_ix ix_list (pv 1) pe_int (fun _ _ => rfl)))) pa_nil))))))), ?_⟩
    have nil : doneS S = none → ∀ H', Same H H' → tLst tNil [some (.ref a), none] H' Q := fun e H' s' => by
      refine ⟨Nat.zero_le _, fun q hq => k _ q (sm_new s' hq) (s'.free hq) ?_⟩
      rw [upd_same, e]
    have nil' : ∀ σ, doneS S = none → ∀ H', Same H H' → tLst tNil σ H' Q := fun σ e H' s' => nil e H' s'
    refine ⟨_, rfl, _, rfl, _, rfl, a, _, rfl, hS, fun c hc => ?_⟩
    have sC := sm_upd (o := .lst (cutV (stV S) (some (-4)) none)) hc
    refine ⟨_, rfl, c, _, rfl, .inl (SqL.of upd_same), _, _, rfl, rfl, _, rfl, ?_⟩
    by_cases hl : S.length < 4
    · refine ifT (decide_eq_true (by rw [cut_short _ (by rw [stV_length]; exact hl), stV_length]; omega)) (iteT (nil' _ (done_short hl) _ sC))
    obtain ⟨o, u, x, p, r, rfl⟩ := split4 hl
    have e4 : cutV (stV (o :: u :: x :: p :: r)) (some (-4)) none = [itV p, itV x, itV u, itV o] := by rw [stV4]; exact cut_last _ _ rfl
    rw [e4] at sC ⊢
    refine ifF (decide_eq_false (by show ¬ (4 : Int) < 4; decide)) ?_
    have ePar : ("(" : Str) = ⟨#[40]⟩ := by decide +kernel
    have ePlus : ("+" : Str) = ⟨#[43]⟩ := by decide +kernel
    have hC := SqL.of (K := K) (H := upd H c (.lst [itV p, itV x, itV u, itV o])) (a := c) (xs := [itV p, itV x, itV u, itV o]) upd_same
    refine ⟨_, rfl, c, _, _, _, rfl, rfl, hC, at4 (j := 0) rfl rfl, scal_it _ _, _, rfl, ?_⟩
    by_cases hp : ¬ p = Sum.inr 40
    · refine ifT ?_ (iteT (nil' _ ?_ _ sC))
      · rw [ePar, it_is, decide_eq_false hp]; rfl
      · unfold doneS
        split
        · rename_i b s a o' r' e
          injection e with e1 e; injection e with e2 e; injection e with e3 e; injection e with e4 e
          rw [if_neg (fun z => hp (by rw [e4, z]))]
        · rfl
    have hp := Classical.not_not.mp hp
    refine ifF (by rw [ePar, it_is, decide_eq_true hp]; rfl) ?_
    refine ⟨_, rfl, c, _, _, _, rfl, rfl, hC, at4 (j := 2) rfl rfl, by decide, fun T hT => ?_⟩
    refine ⟨T, _, rfl, .inl (SqL.of upd_same), flat_it _, rfl, _, rfl, ?_⟩
    have sT := sm_new (o := .lst [V.str "+", V.str "*"]) sC hT
    have hC1 : SqL K (upd (upd H c (.lst [itV p, itV x, itV u, itV o])) T (.lst [V.str "+", V.str "*"])) c [itV p, itV x, itV u, itV o] := SqL.of (by rw [upd_ne (ne_of_none upd_same hT), upd_same])
    by_cases hu : ¬ (u = Sum.inr 43 ∨ u = Sum.inr 42)
    · refine ifT ?_ (nil' _ ?_ _ sT)
      · show (!inV (itV u) _) = true
        rw [in_pm, decide_eq_false (fun z => hu (.inl z)), decide_eq_false (fun z => hu (.inr z))]; rfl
      · unfold doneS
        split
        · rename_i b s a o' r' e
          injection e with e1 e; injection e with e2 e; injection e with e3 e; injection e with e4 e
          rw [if_neg (show ¬ s = 43 from fun z => hu (.inl (by rw [e2, z]))), if_neg (show ¬ s = 42 from fun z => hu (.inr (by rw [e2, z])))]
          split <;> rfl
        · rfl
    have hu := Classical.not_not.mp hu
    refine ifF ?_ ?_
    · show (!inV (itV u) _) = false
      rw [in_pm]
      rcases hu with z | z
      · rw [decide_eq_true z]; rfl
      · rw [decide_eq_true z, Bool.or_true]; rfl
    obtain ⟨tx, ty1, kx⟩ := isi_it (K := K) (H := upd (upd H c (.lst [itV p, itV x, itV u, itV o])) T (.lst [V.str "+", V.str "*"])) x
    obtain ⟨to, ty2, ko⟩ := isi_it (K := K) (H := upd (upd H c (.lst [itV p, itV x, itV u, itV o])) T (.lst [V.str "+", V.str "*"])) o
    refine ⟨_, rfl, c, _, _, _, rfl, rfl, hC1, at4 (j := 1) rfl rfl, _, _, _, _, _, rfl, .ty "int", ty1, kx, _, rfl, ?_⟩
    cases x with
    | inr d => exact iteT (iteT (nil' _ (by unfold doneS; split <;> first | rfl | (rename_i e; injection e with e1 e; injection e with e2 e; injection e with e3 e; cases e3)) _ sT))
    | inl m =>
    refine iteF ⟨_, rfl, c, _, _, _, rfl, rfl, hC1, at4 (j := 3) rfl rfl, _, _, _, _, _, rfl, .ty "int", ty2, ko, _, rfl, ?_⟩
    cases o with
    | inr d => exact iteT (nil' _ (by unfold doneS; split <;> first | rfl | (rename_i e; injection e with e1 e; cases e1)) _ sT)
    | inl n =>
    refine iteF ?_
    refine ⟨_, rfl, _, rfl, _, rfl, a, _, rfl, sT.seq hS, fun R hR => ?_⟩
    rw [stV4, cut_first _ _ rfl]
    have sR := sm_new (o := .lst (stV r)) sT hR
    have hC2 := (sm_upd (o := .lst (stV r)) hR).seq hC1
    refine ⟨_, rfl, c, _, _, _, rfl, rfl, hC2, at4 (j := 2) rfl rfl, scal_it _ _, _, rfl, ?_⟩
    have fin : ∀ z : Int, doneS (.inl n :: u :: .inl m :: p :: r) = some (.inl z :: r) → ∀ D, upd (upd (upd H c (.lst [itV p, itV (.inl m), itV u, itV (.inl n)])) T (.lst [V.str "+", V.str "*"])) R (.lst (stV r)) D = none →
        rCat (V.ref R) (.ref D) (upd (upd (upd (upd H c (.lst [itV p, itV (.inl m), itV u, itV (.inl n)])) T (.lst [V.str "+", V.str "*"])) R (.lst (stV r))) D (.lst [V.int z])) Q := fun z hz D hD => by
      have sD := sm_new (o := .lst [V.int z]) sR hD
      refine ⟨R, D, _, _, rfl, rfl, (by rw [upd_ne (ne_of_none upd_same hD), upd_same]), upd_same, ?_, fun q hq => ?_⟩
      · rw [stV_length]
        simp only [List.length_cons] at hlen
        have e : sizeLine = 16777216 := PySem.sizeLine_eq
        rw [e]
        show r.length + 1 ≤ _
        omega
      · refine k _ q (sm_new sD hq) (sD.free hq) ?_
        rw [upd_same, hz]
        show some (HO.lst _) = some (HO.lst (stV (.inl z :: r)))
        rw [stV_cons]
        rfl
    by_cases h43 : u = Sum.inr 43
    · refine ifT (by rw [ePlus, it_is, decide_eq_true h43]) ?_
      refine ⟨_, rfl, c, _, _, _, rfl, rfl, hC2, at4 (j := 1) rfl rfl, _, rfl, c, _, _, _, rfl, rfl, hC2, at4 (j := 3) rfl rfl, m, n, rfl, rfl, (show 1 ≤ sizeLine by decide), fun D hD => fin _ ?_ D hD⟩
      rw [hp, h43]
      rfl
    · have h42 : u = Sum.inr 42 := hu.resolve_left h43
      refine ifF (by rw [ePlus, it_is, decide_eq_false h43]) ?_
      refine ⟨_, rfl, c, _, _, _, rfl, rfl, hC2, at4 (j := 1) rfl rfl, _, rfl, c, _, _, _, rfl, rfl, hC2, at4 (j := 3) rfl rfl, m, n, rfl, rfl, ?_, (show 1 ≤ sizeLine by decide), fun D hD => fin _ ?_ D hD⟩
      · rw [h42] at hphi
        simp only [phi] at hphi
        have b : ∀ x : Int, PySem.Builtin.Int.intBits x ≤ x.natAbs.log2 + 1 := fun x => by
          unfold PySem.Builtin.Int.intBits
          split <;> omega
        have b1 := b m
        have b2 := b n
        unfold CMulX
        omega
      · rw [hp, h42]
        rfl
/-! ### _law_read -/
def spRead : Sp := fun vs H Q _ => ∃ z : Str, vs = [.str z] ∧ z.length ≤ 2000 ∧ ∀ H', Same H H' → Q (.int (readL (tl z))) H'
theorem scRead : FnScope nLawRead pLawRead (defScope sLawRead) := ⟨rfl, rfl, rfl, by decide +kernel, rfl, by decide +kernel, by decide +kernel⟩
/-- the signs on the stack are plain -/
def okS (S : List Itm) : Prop := ∀ c : Nat, Sum.inr c ∈ S → c < 128
theorem okS_step {S S' : List Itm} {c : Nat} (o : okS S) (h : stepS S c = some S') : okS S' := by
  unfold stepS at h
  split at h
  · cases h
    intro d hd
    rcases List.mem_cons.mp hd with z | z
    · cases z
    · exact o d z
  · split at h
    · unfold doneS at h
      split at h
      · rename_i b s a o' r
        have m : ∀ y ∈ r, y ∈ (Sum.inl b :: Sum.inr s :: Sum.inl a :: Sum.inr o' :: r : List Itm) := fun y hy => by simp [hy]
        split at h
        · split at h
          · cases h
            intro d hd
            rcases List.mem_cons.mp hd with z | z
            · cases z
            · exact o d (m _ z)
          · split at h
            · cases h
              intro d hd
              rcases List.mem_cons.mp hd with z | z
              · cases z
              · exact o d (m _ z)
            · cases h
        · cases h
      · cases h
    · split at h
      · rename_i hc
        cases h
        intro d hd
        rcases List.mem_cons.mp hd with z | z
        · cases z
          omega
        · exact o d z
      · cases h
theorem okS_run : ∀ (t : List Nat) (S S' : List Itm), okS S → runS S t = some S' → okS S'
  | [], S, S', o, h => by cases h; exact o
  | c :: t, S, S', o, h => by
    unfold runS at h
    split at h
    · rename_i S1 e
      exact okS_run t S1 S' (okS_step o e) h
    · cases h
theorem okS_nil : okS [] := fun _ h => by cases h
theorem dp_it {K : PySem.W.Frag} {H : Hp} : ∀ l : List Itm, okS l → ∃ ds, DpAll K H (l.map itV) ds ∧ ds.length = l.length ∧ PyData.canLayAll0 ds = true ∧ PyData.depthAll ds = 0
  | [], _ => ⟨[], .nil, rfl, rfl, rfl⟩
  | x :: l, o => by
    obtain ⟨ds, h1, h2, h3, h4⟩ := dp_it (K := K) (H := H) l (fun c hc => o c (List.mem_cons_of_mem _ hc))
    cases x with
    | inl n => exact ⟨.int n :: ds, .cons (.int n) h1, by simp [h2], by simp [PyData.canLayAll0, PyData.canLay0, h3], by simp [PyData.depthAll, PyData.depth, h4]⟩
    | inr c =>
      have hc := o c List.mem_cons_self
      have hs : PyData.strOk ⟨#[c]⟩ = true := by
        simp [PyData.strOk]
        omega
      exact ⟨.str _ :: ds, .cons (.str _) h1, by simp [h2], by simp [PyData.canLayAll0, PyData.canLay0, h3, hs], by simp [PyData.depthAll, PyData.depth, h4]⟩
theorem eqv_nil (ds : List PyData) : PyData.eqv (.list ds) (.list []) = ds.isEmpty := by
  cases ds with
  | nil => decide
  | cons d ds => simp [PyData.eqv, PyData.eqvAll]
theorem ok_read (D : Dn K mg "_law_read" sLawRead) (B : Bi mg) (C : Kp P w K mg base CX0 1 "_law_closed" (spClosed K)) : Kp P w K mg base CX0 2 "_law_read" spRead := by
  obtain ⟨f, fd, F, hm⟩ := D.ex
  refine ⟨f, fd, pLawRead, F.ok scRead (fun vs H Q E h => ?_) (fun cdv A outer s H vs Q E hr h => ?_), hm, F.kp, F.binds fun _ _ _ _ _ _ us hl => match us, hl with | [_], _ => rfl⟩
  · obtain ⟨z, rfl, _⟩ := h
    rfl
  · obtain ⟨z, rfl, hz, k⟩ := h
    refine ⟨_, pss_cons (ps_par (i := 1) (j := 2) (by rfl) scRead.nd rfl rfl (by decide) rfl rfl (pa_cons (pe_lst pa_nil) (pa_cons pe_int pa_nil)) (by rfl))
      (pss_cons (ps_while PassesOwn.never (pt_cmpR op_lt (pv 2) (pe_callB call_len_str (by rfl) B.len PySem.boot_len (pa_cons (pv 0) pa_nil)) (nomark _))
        (pss_cons (ps_if (pt_cmpR op_notIn_sign (pe_ix ix_str (pv 0) (pv 2) (fun _ _ => rfl)) pe_str rfl) (pss_one (ps_ret pe_int)) pss_nil)
        (pss_cons (ps_if (pt_cmpR op_eq (pe_ix ix_str (pv 0) (pv 2) (fun _ _ => rfl)) pe_str (nomark _))
          (pss_cons (ps_set (i := 3) scRead.nd rfl (Or.inl rfl) (pk C hr (by decide) rfl (pa_cons (pv 1) pa_nil)))
          (pss_cons (ps_if (pt_cmpR (op_eqD hr.units) (pv 3) (pe_lst pa_nil) (nomark _)) (pss_one (ps_ret pe_int)) pss_nil)
          (pss_one (ps_set (i := 1) scRead.nd rfl (Or.inl rfl) (pv 3)))))
          (pss_one (ps_set (i := 1) scRead.nd rfl (Or.inl rfl) (pe_op op_cat (pv 1) (pe_lst (pa_cons (pe_ifExp (pt_cmpR op_eq (pe_ix ix_str (pv 0) (pv 2) (fun _ _ => rfl)) pe_str (nomark _)) pe_int (pe_ix ix_str (pv 0) (pv 2) (fun _ _ => rfl))) pa_nil))))))
        (pss_one (ps_set (i := 2) scRead.nd rfl (Or.inl rfl) (pe_op op_add (pv 2) pe_int))))))
      (pss_one (ps_ret (pe_ifExp (PW.pt (pw_and (pt_cmpR op_eq (pe_callB call_len_seq (by rfl) B.len PySem.boot_len (pa_cons (pv 1) pa_nil)) pe_int (nomark _))
          (pw_and1 (pt_val (pe_callB call_isi (by rfl) B.isi (by decide +kernel) (pa_cons (pe_ix ix_list (pv 1) pe_int (fun _ _ => rfl)) (pa_cons (pe_bltn (v := .ty "int") (by rfl) B.int (by decide +kernel) rfl) pa_nil)))))))
        (pe_ix ix_list (pv 1) pe_int (fun _ _ => rfl)) pe_int)))), ?_⟩
    have hlz : z.length = (tl z).length := by simp [tl, Str.length]
    have hsz : z.length ≤ sizeLine := Nat.le_trans hz (by decide)
    have bad : runS [] (tl z) = none → ∀ H', Same H H' → Q (.int 0) H' := fun e H' s => by
      have q := k H' s
      unfold readL at q
      rw [e] at q
      exact q
    refine ⟨Nat.zero_le _, fun q0 hq0 => ⟨_, _, rfl, ?_⟩⟩
    refine while_by (fun σ H' => ∃ (i : Nat) (S : List Itm) (q : Addr) (v : Option V), σ = [some (.str z), some (.ref q), some (.int i), v] ∧ i ≤ (tl z).length ∧ runS [] ((tl z).take i) = some S ∧ H' q = some (.lst (stV S)) ∧ H q = none ∧ Same H H')
      (fun σ _ => match σ with | [_, _, some (.int i), _] => (tl z).length - i.toNat | _ => 0) ⟨0, [], q0, none, rfl, Nat.zero_le _, rfl, upd_same, hq0, sm_upd hq0⟩ ?_ ?_
    · rintro σ H1 ⟨i, S, q, v, rfl, hi, hrun, hq, hn, hs⟩
      refine ⟨_, rfl, _, rfl, z, rfl, hsz, _, _, rfl, rfl, _, rfl, ?_⟩
      by_cases hlt : i < (tl z).length
      · refine ifT (decide_eq_true (by rw [hlz]; omega)) ?_
        obtain ⟨c, hcl⟩ : ∃ c, (tl z)[i]? = some c := ⟨_, List.getElem?_eq_getElem hlt⟩
        have hat : atI (tl z) (i : Int) = some c := atI_nat hcl
        have hlS : S.length ≤ 2000 := by
          have a := len_run _ _ _ hrun
          rw [List.length_take] at a
          simp only [List.length_nil] at a
          omega
        have hpS : phi S ≤ 2000 := by
          have a := phi_run _ _ _ hrun
          rw [List.length_take] at a
          simp only [phi] at a
          omega
        have oS : okS S := okS_run _ _ _ okS_nil hrun
        have e1 : ("1" : Str) = ⟨#[49]⟩ := by decide +kernel
        have e2 : (")" : Str) = ⟨#[41]⟩ := by decide +kernel
        have e3 : (("()+*1" : Str)).cps.toList = [40, 41, 43, 42, 49] := by decide +kernel
        have next : ∀ S', stepS S c = some S' → runS [] ((tl z).take (i + 1)) = some S' := fun S' e => by
          rw [take_snoc hcl, run_snoc hrun, e]
        have fall : ∀ j : Nat, j = i + 1 → (tl z).length - ((j : Nat) : Int).toNat < (tl z).length - ((i : Nat) : Int).toNat := fun j e => by
          rw [Int.toNat_natCast, Int.toNat_natCast]
          omega
        refine ⟨_, rfl, _, rfl, z, _, c, rfl, rfl, hsz, hat, c, _, rfl, rfl, _, rfl, ?_⟩
        by_cases hin : ¬ (c = 40 ∨ c = 41 ∨ c = 43 ∨ c = 42 ∨ c = 49)
        · refine ifT ?_ ?_
          · rw [e3, decide_eq_false (by simpa using hin)]; rfl
          · exact bad (run_fail hcl hrun (by unfold stepS; rw [if_neg (by omega), if_neg (by omega), if_neg (by omega)])) _ hs
        have hin := Classical.not_not.mp hin
        refine ifF (by rw [e3, decide_eq_true (by simpa using hin)]; rfl) ?_
        refine ⟨_, rfl, _, rfl, z, _, c, rfl, rfl, hsz, hat, rfl, _, rfl, ?_⟩
        by_cases h2 : c = 41
        · refine ifT (by rw [e2, str1, decide_eq_true h2]) ?_
          have hst : stepS S c = doneS S := by unfold stepS; rw [if_neg (by omega), if_pos h2]
          refine ⟨_, rfl, q, S, rfl, SqL.of hq, by omega, by omega, fun H' q' s' n' hq' => ?_⟩
          refine ⟨_, rfl, Nat.zero_le _, fun nl hnl => ?_⟩
          have sN := sm_upd (o := .lst []) hnl
          cases hd : doneS S with
          | none =>
            rw [hd] at hq'
            refine ⟨.list [], .list [], .lst (SqL.of (sm_at sN hq')) .nil, .lst (SqL.of upd_same) .nil, by decide, by decide, _, rfl, ?_⟩
            exact ifT (eqv_nil []) (bad (run_fail hcl hrun (hst.trans hd)) _ ((hs.trans s').trans sN))
          | some S' =>
            rw [hd] at hq'
            obtain ⟨ds, d1, d2, d3, d4⟩ := dp_it (K := K) (H := upd H' nl (.lst [])) S'.reverse (fun x hx => okS_step oS (hst.trans hd) x (List.mem_reverse.mp hx))
            have hne : S' ≠ [] := by
              unfold doneS at hd
              split at hd
              · split at hd
                · split at hd
                  · cases hd; simp
                  · split at hd
                    · cases hd; simp
                    · cases hd
                · cases hd
              · cases hd
            refine ⟨.list ds, .list [], .lst (SqL.of (sm_at sN hq')) d1, .lst (SqL.of upd_same) .nil, ?_, by decide, _, rfl, ?_⟩
            · simp [SeqAt.shaped, PyData.canLay0, PyData.depth, d3, d4]
            · refine ifF ?_ ?_
              · rw [eqv_nil]
                cases ds with
                | nil =>
                  exfalso
                  rw [List.length_reverse] at d2
                  exact hne (List.eq_nil_of_length_eq_zero d2.symm)
                | cons _ _ => rfl
              · refine ⟨_, rfl, _, rfl, _, _, rfl, rfl, ?_⟩
                refine ⟨⟨i + 1, S', q', _, rfl, by omega, next _ (hst.trans hd), sm_at sN hq', hs.free n', (hs.trans s').trans sN⟩, fall _ rfl⟩
        refine ifF (by rw [e2, str1, decide_eq_false h2]) ?_
        refine ⟨_, rfl, _, rfl, _, rfl, z, _, c, rfl, rfl, hsz, hat, rfl, _, rfl, ?_⟩
        have go : ∀ x : Itm, stepS S c = some (x :: S) → ∀ D, H1 D = none → rCat (V.ref q) (.ref D) (upd H1 D (.lst [itV x])) (fun v H2 => ∃ (i_1 : Nat) (S_1 : List Itm) (q_1 : Addr), v = .ref q_1 ∧ i_1 = i + 1 ∧ runS [] ((tl z).take i_1) = some S_1 ∧ H2 q_1 = some (.lst (stV S_1)) ∧ H q_1 = none ∧ Same H H2) := fun x hx D hD => by
          have sD := sm_new (o := .lst [itV x]) hs hD
          refine ⟨q, D, _, _, rfl, rfl, (by rw [upd_ne (ne_of_none hq hD)]; exact hq), upd_same, ?_, fun q2 hq2 => ?_⟩
          · rw [stV_length, PySem.sizeLine_eq]
            show S.length + 1 ≤ _
            omega
          · exact ⟨i + 1, x :: S, q2, rfl, rfl, next _ hx, by rw [upd_same, stV_cons], sD.free hq2, sm_new sD hq2⟩
        by_cases h1 : c = 49
        · refine ifT (by rw [e1, str1, decide_eq_true h1]) ⟨(show 1 ≤ sizeLine by decide), fun D hD => ?_⟩
          obtain ⟨l, b, xs, zs, g1, g2, g3, g4, g5, g6⟩ := go (.inl 1) (by unfold stepS; rw [if_pos h1]) D hD
          refine ⟨l, b, xs, zs, g1, g2, g3, g4, g5, fun p hp => ?_⟩
          obtain ⟨i1, S1, q1, ev, rfl, r1, r2, r3, r4⟩ := g6 p hp
          cases ev
          exact ⟨_, rfl, _, _, rfl, rfl, ⟨i + 1, S1, p, _, rfl, by omega, r1, r2, r3, r4⟩, fall _ rfl⟩
        · refine ifF (by rw [e1, str1, decide_eq_false h1]) ⟨_, rfl, _, rfl, z, _, c, rfl, rfl, hsz, hat, (show 1 ≤ sizeLine by decide), fun D hD => ?_⟩
          obtain ⟨l, b, xs, zs, g1, g2, g3, g4, g5, g6⟩ := go (.inr c) (by unfold stepS; rw [if_neg h1, if_neg h2, if_pos (by omega)]) D hD
          refine ⟨l, b, xs, zs, g1, g2, g3, g4, g5, fun p hp => ?_⟩
          obtain ⟨i1, S1, q1, ev, rfl, r1, r2, r3, r4⟩ := g6 p hp
          cases ev
          exact ⟨_, rfl, _, _, rfl, rfl, ⟨i + 1, S1, p, _, rfl, by omega, r1, r2, r3, r4⟩, fall _ rfl⟩
      · refine ifF (decide_eq_false (by rw [hlz]; omega)) ?_
        have htk : (tl z).take i = tl z := List.take_of_length_le (by omega)
        rw [htk] at hrun
        refine ⟨_, rfl, q, _, rfl, .inl (SqL.of hq), rfl, _, rfl, ?_⟩
        have val : ∀ H', Same H H' → Q (.int (endS (some S))) H' := fun H' s => by
          have q := k H' s
          unfold readL at q
          rw [hrun] at q
          exact q
        by_cases h1 : S.length = 1
        · obtain ⟨x, rfl⟩ : ∃ x, S = [x] := List.length_eq_one_iff.mp h1
          refine ifT (decide_eq_true (by rfl)) ?_
          have hat : atI (stV [x]) 0 = some (itV x) := atI_nat (j := 0) rfl
          obtain ⟨tx, ty1, kx⟩ := isi_it (K := K) (H := H1) x
          refine ⟨_, rfl, q, _, _, _, rfl, rfl, SqL.of hq, hat, _, _, _, _, _, rfl, .ty "int", ty1, kx, _, rfl, ?_⟩
          cases x with
          | inl n => exact iteT ⟨_, rfl, q, _, _, _, rfl, rfl, SqL.of hq, hat, val _ hs⟩
          | inr n => exact iteF (val _ hs)
        · refine ifF (decide_eq_false ?_) ?_
          · rw [stV_length]
            intro z
            have z' := V.int.inj z
            omega
          · have e0 : endS (some S) = 0 := by
              unfold endS
              split
              · rename_i n e
                cases e
                exact absurd rfl h1
              · rfl
            rw [e0] at val
            exact val _ hs
    · rintro σ H1 Q1 Q2 mo ⟨v, h1, v', h2, z, h3, h4, i, j, h5, h6, b, h7, q⟩
      exact ⟨v, h1, v', h2, z, h3, h4, i, j, h5, h6, b, h7, mo _ _ q⟩
end
end Fo
namespace Fo
open PySem L2 FO
section
variable {P : Program} {w : World} {K : PySem.W.Frag} {mg : Str → Option Value} {base : Heap}
/-! ### _law_text: some writing of less than 900 signs -/
def GoodT (t : Str) : Prop := (∃ n k, Wr (tl t) n k) ∧ (tl t).length < 900
def spText : Sp := fun vs H Q _ => ∃ z m : Int, vs = [.int z, .int m] ∧ 0 ≤ m ∧ m ≤ 100 ∧ ∀ H' t, Same H H' → GoodT t → Q (.str t) H'
theorem scText : FnScope nLawText pLawText (defScope sLawText) := ⟨rfl, rfl, rfl, by decide +kernel, rfl, by decide +kernel, by decide +kernel⟩
theorem tl_app (x y : Str) : tl (x ++ y) = tl x ++ tl y := TL.tl_append x y
theorem len_tl (x : Str) : x.length = (tl x).length := by simp [tl, Str.length]
theorem getV {ts : List Str} {x : Int} (h : 0 < (ts.length : Int)) : ∃ t ∈ ts, atI (ts.map V.str) (x % ((ts.map V.str).length : Int)) = some (.str t) := by
  rw [List.length_map]
  have p1 := Int.emod_nonneg x (show (ts.length : Int) ≠ 0 by omega)
  have p2 := Int.emod_lt_of_pos x h
  obtain ⟨j, hj⟩ : ∃ j : Nat, x % (ts.length : Int) = (j : Int) := ⟨(x % (ts.length : Int)).toNat, by omega⟩
  rw [hj] at p2 ⊢
  have hjl : j < ts.length := by omega
  exact ⟨ts[j], List.getElem_mem hjl, atI_nat (by rw [List.getElem?_map, List.getElem?_eq_getElem hjl]; rfl)⟩
theorem good_one : GoodT "1" := by
  have e : tl ("1" : Str) = [49] := by decide +kernel
  unfold GoodT
  rw [e]
  exact ⟨⟨1, 1, .one⟩, by decide⟩
theorem good_two : GoodT "(1+1)" := by
  have e : tl ("(1+1)" : Str) = 40 :: ([49] ++ 43 :: ([49] ++ [41])) := by decide +kernel
  unfold GoodT
  rw [e]
  exact ⟨⟨_, _, .plus .one .one⟩, by decide⟩
theorem ok_text (D : Dn K mg "_law_text" sLawText) (B : Bi mg) : Kp P w K mg base CX0 1 "_law_text" spText := by
  obtain ⟨f, fd, F, hm⟩ := D.ex
  refine ⟨f, fd, pLawText, F.ok scText (fun vs H Q E h => ?_) (fun cdv A outer s H vs Q E hr h => ?_), hm, F.kp, F.binds fun _ _ _ _ _ _ us hl => match us, hl with | [_, _], _ => rfl⟩
  · obtain ⟨z, m, rfl, _⟩ := h
    rfl
  · obtain ⟨z, m, rfl, m0, m1, k⟩ := h
    refine ⟨_, pss_cons (ps_set (i := 2) scText.nd rfl (Or.inl rfl) (pe_lst (pa_cons pe_str (pa_cons pe_str pa_nil))))
      (pss_cons (ps_for PassesOwn.never rfl (pi_range1 rfl B.range (pa_cons (pv 1) pa_nil)) (pg_name (i := 3) scText.nd rfl (Or.inl rfl))
        (pss_cons (ps_set (i := 4) scText.nd rfl (Or.inl rfl) (pe_op op_fdivN (pv 0) (pe_op op_add pe_int (pe_op op_mulX pe_int (pv 3)))))
        (pss_cons (ps_par (i := 5) (j := 6) (by rfl) scText.nd rfl rfl (by decide) rfl rfl
            (pa_cons (pe_ix ix_list (pv 2) (pe_op op_mod (pv 4) (pe_callB call_len_seq (by rfl) B.len PySem.boot_len (pa_cons (pv 2) pa_nil))) (fun _ _ => rfl))
            (pa_cons (pe_ix ix_list (pv 2) (pe_op op_mod (pe_op op_fdivN (pv 4) pe_int) (pe_callB call_len_seq (by rfl) B.len PySem.boot_len (pa_cons (pv 2) pa_nil))) (fun _ _ => rfl)) pa_nil)) (by rfl))
        (pss_cons (ps_set (i := 7) scText.nd rfl (Or.inl rfl) (pe_op op_add_str (pe_op op_add_str (pe_op op_add_str (pe_op op_add_str pe_str (pv 5)) (pe_ix ix_str pe_str (pe_op op_mod (pe_op op_fdivN (pv 4) pe_int) pe_int) (fun _ _ => rfl))) (pv 6)) pe_str))
        (pss_one (ps_expr (pe_bm PySem.F.plainAttrs_list PySem.F.slot_list_append PySem.F.type_list_append mt_append (pv 2)
          (pa_cons (pe_ifExp (pt_cmpR op_lt (pe_callB call_len_str (by rfl) B.len PySem.boot_len (pa_cons (pv 7) pa_nil)) pe_int (nomark _)) (pv 7) pe_str) pa_nil))))))))
      (pss_one (ps_ret (pe_ix ix_list (pv 2) (pe_un un_neg pe_int) (fun _ _ => rfl))))), ?_⟩
    refine ⟨(show 2 ≤ sizeLine by decide), fun q hq => ?_⟩
    refine ⟨_, rfl, m, rfl, by omega, by omega, ?_⟩
    refine for_range (lo := 0) (n := m.toNat) (fun i σ H' => ∃ (ts : List Str) (v3 v4 v5 v6 v7 : Option V), σ = [some (.int z), some (.int m), some (.ref q), v3, v4, v5, v6, v7] ∧ ts.length = i + 2 ∧ (∀ t ∈ ts, GoodT t) ∧ H' q = some (.lst (ts.map V.str)) ∧ Same H H')
      ⟨["1", "1"], _, _, _, _, _, rfl, rfl, (fun t ht => by rcases List.mem_cons.mp ht with z | z; (rw [z]; exact good_one); rw [List.mem_singleton.mp z]; exact good_one), upd_same, sm_upd hq⟩ ?_ ?_
    · rintro i σ H1 hi ⟨ts, v3, v4, v5, v6, v7, rfl, hl, hg, hq1, hs⟩
      have him : (i : Int) < m := by omega
      have e0 : (0 : Int) + (i : Int) = (i : Int) := Int.zero_add _
      rw [e0]
      refine ⟨_, rfl, _, rfl, _, _, rfl, rfl, mulx_ok (a := 3) (b := 10) (by decide) (by show _ < 1024; omega) (by decide), _, _, rfl, rfl, _, _, rfl, rfl, ⟨by omega, by omega⟩, ?_⟩
      have hpos : 0 < (ts.length : Int) := by omega
      have hpos' : 0 < ((ts.map V.str).length : Int) := by rw [List.length_map]; exact hpos
      obtain ⟨t1, ht1, a1⟩ := getV (x := z.fdiv (1 + 7 * (i : Int))) hpos
      obtain ⟨t2, ht2, a2⟩ := getV (x := (z.fdiv (1 + 7 * (i : Int))).fdiv 5) hpos
      refine ⟨_, rfl, _, rfl, _, rfl, q, _, rfl, .inl (SqL.of hq1), _, _, rfl, rfl, hpos', q, _, _, _, rfl, rfl, SqL.of hq1, a1,
        _, rfl, _, rfl, _, _, rfl, rfl, ⟨by decide, by decide⟩, _, rfl, q, _, rfl, .inl (SqL.of hq1), _, _, rfl, rfl, hpos', q, _, _, _, rfl, rfl, SqL.of hq1, a2, _, _, rfl, ?_⟩
      have g1 := hg t1 ht1
      have g2 := hg t2 ht2
      have l1 : t1.length < 900 := by rw [len_tl]; exact g1.2
      have l2 : t2.length < 900 := by rw [len_tl]; exact g2.2
      have hb : ((z.fdiv (1 + 7 * (i : Int))).fdiv 3) % 2 = 0 ∨ ((z.fdiv (1 + 7 * (i : Int))).fdiv 3) % 2 = 1 := by omega
      have eS : tl ("+*" : Str) = [43, 42] := by decide +kernel
      obtain ⟨c, hc, ac⟩ : ∃ c : Nat, (c = 43 ∨ c = 42) ∧ atI (tl ("+*" : Str)) (((z.fdiv (1 + 7 * (i : Int))).fdiv 3) % 2) = some c := by
        rw [eS]
        rcases hb with e | e
        · exact ⟨43, .inl rfl, by rw [e]; exact atI_nat (j := 0) rfl⟩
        · exact ⟨42, .inr rfl, by rw [e]; exact atI_nat (j := 1) rfl⟩
      have e1 : ("(" : Str) = ⟨#[40]⟩ := by decide +kernel
      have e2 : (")" : Str) = ⟨#[41]⟩ := by decide +kernel
      have lapp : ∀ x y : Str, (x ++ y).length = x.length + y.length := fun x y => by rw [len_tl, tl_app, List.length_append, ← len_tl, ← len_tl]
      have n1 : ("(" : Str).length = 1 := by decide +kernel
      have n2 : (")" : Str).length = 1 := by decide +kernel
      have n3 : (⟨#[c]⟩ : Str).length = 1 := rfl
      have big : (16777216 : Nat) = sizeLine := PySem.sizeLine_eq.symm
      refine ⟨_, rfl, _, _, rfl, rfl, by rw [← big, n1]; omega, _, rfl, _, _, rfl, rfl, ⟨by decide, by decide⟩, _, _, rfl, rfl, (by show (0 : Int) < 2; decide), _, _, c, rfl, rfl, by decide +kernel, ac, _, _, rfl, rfl,
        by rw [lapp, n1, n3, ← big]; omega, _, rfl, _, _, rfl, rfl, by rw [lapp, lapp, n1, n3, ← big]; omega, _, _, rfl, rfl, by rw [lapp, lapp, lapp, n1, n3, n2, ← big]; omega, ?_⟩
      obtain ⟨⟨m1', k1', w1⟩, _⟩ := g1
      obtain ⟨⟨m2', k2', w2⟩, _⟩ := g2
      have eT : tl (("(" : Str) ++ t1 ++ (⟨#[c]⟩ : Str) ++ t2 ++ (")" : Str)) = 40 :: (tl t1 ++ c :: (tl t2 ++ [41])) := by
        rw [tl_app, tl_app, tl_app, tl_app, e1, e2]
        simp [tl]
      have hw : ∃ n k, Wr (tl (("(" : Str) ++ t1 ++ (⟨#[c]⟩ : Str) ++ t2 ++ (")" : Str))) n k := by
        rw [eT]
        rcases hc with rfl | rfl
        · exact ⟨_, _, .plus w1 w2⟩
        · exact ⟨_, _, .times w1 w2⟩
      have hlm : (("(" : Str) ++ t1 ++ (⟨#[c]⟩ : Str) ++ t2 ++ (")" : Str)).length ≤ 2000 := by rw [lapp, lapp, lapp, lapp, n1, n2, n3]; omega
      refine ⟨_, rfl, .inl ⟨rfl, _, SqL.of hq1⟩, _, rfl, _, rfl, Nat.le_trans hlm (by decide), _, _, rfl, rfl, _, rfl, ?_⟩
      have hlen : (ts.map V.str).length < sizeLine := by rw [List.length_map, ← big]; omega
      have fin : ∀ t : Str, GoodT t → ∃ (ts' : List Str), ts'.length = i + 1 + 2 ∧ (∀ t ∈ ts', GoodT t) ∧ ts.map V.str ++ [V.str t] = ts'.map V.str := fun t ht =>
        ⟨ts ++ [t], by simp [hl], fun u hu => by
          rcases List.mem_append.mp hu with z | z
          · exact hg u z
          · rw [List.mem_singleton.mp z]; exact ht, by simp⟩
      refine ite2 (fun hlt => ?_) (fun hge => ?_)
      · obtain ⟨ts', f1, f2, f3⟩ := fin _ ⟨hw, by
          have z := of_decide_eq_true hlt
          rw [← len_tl]
          omega⟩
        exact ⟨_, rfl, q, _, _, rfl, rfl, hq1, hlen, ts', _, _, _, _, _, rfl, f1, f2, by rw [upd_same, ← f3], sm_put hs hq⟩
      · obtain ⟨ts', f1, f2, f3⟩ := fin _ good_two
        exact ⟨q, _, _, rfl, rfl, hq1, hlen, ts', _, _, _, _, _, rfl, f1, f2, by rw [upd_same, ← f3], sm_put hs hq⟩
    · rintro σ H1 ⟨ts, v3, v4, v5, v6, v7, rfl, hl, hg, hq1, hs⟩
      have hne : ts ≠ [] := fun z => by rw [z] at hl; simp at hl
      obtain ⟨us, t, rfl⟩ : ∃ us t, ts = us ++ [t] := ⟨ts.dropLast, ts.getLast hne, (List.dropLast_concat_getLast hne).symm⟩
      refine ⟨_, rfl, _, rfl, q, _, _, _, rfl, rfl, SqL.of hq1, ?_, k H1 t hs (hg t (by simp))⟩
      rw [List.map_append]
      exact atI_last _ _
end
end Fo
namespace Fo
open PySem L2 FO
section
variable {P : Program} {w : World} {K : PySem.W.Frag} {mg : Str → Option Value} {base : Heap} {CO CT CN CM fW fO : Addr}
/-! ### _law_whole -/
theorem scLWhole : FnScope nLawWhole pLawWhole (defScope sLawWhole) := ⟨rfl, rfl, rfl, by decide +kernel, rfl, by decide +kernel, by decide +kernel⟩
theorem ok_lwhole (D : Dn K mg "_law_whole" sLawWhole) (B : Bi mg) : Kp P w K mg base CX0 1 "_law_whole" (spWhole K) := by
  obtain ⟨f, fd, F, hm⟩ := D.ex
  refine ⟨f, fd, pLawWhole, F.ok scLWhole (fun vs H Q E h => ?_) (fun cdv A outer s H vs Q E hr h => ?_), hm, F.kp, F.binds fun _ _ _ _ _ _ us hl => match us, hl with | [_], _ => rfl⟩
  · obtain ⟨v, b, rfl, _⟩ := h
    rfl
  · obtain ⟨v, b, rfl, ⟨t, b1, b2, ty, k1, k2, rfl⟩, q⟩ := h
    refine ⟨_, pss_one (ps_ret (pe_and
      (pe_callB call_isi (by rfl) B.isi (by decide +kernel) (pa_cons (pv 0) (pa_cons (pe_bltn (v := .ty "int") (by rfl) B.int (by decide +kernel) rfl) pa_nil)))
      (pe_one (pe_not (pe_callB call_isi (by rfl) B.isi (by decide +kernel) (pa_cons (pv 0) (pa_cons (pe_bltn (v := .ty "bool") (by rfl) B.bool (by decide +kernel) rfl) pa_nil))))))), ?_⟩
    refine ⟨_, rfl, _, _, _, _, b1, rfl, .ty "int", ty, k1, b1, rfl, ?_⟩
    cases b1 with
    | false => exact iteF q
    | true =>
      refine iteT ⟨_, rfl, _, _, _, _, b2, rfl, .ty "bool", ty, k2 rfl, b2, rfl, ?_⟩
      exact q
/-! ### _law_refused -/
def spRefused (fW fO : Addr) : Sp := fun vs H Q _ => ∃ (g : Addr) (z : Str), vs = [.ref g, .str z] ∧ (g = fW ∨ g = fO) ∧ z.length ≤ sizeLine ∧ worthL (tl z) = 0 ∧ ∀ H', Same H H' → Q (.bl true) H'
theorem scRefused : FnScope nLawRefused pLawRefused (defScope sLawRefused) := ⟨rfl, rfl, rfl, by decide +kernel, rfl, by decide +kernel, by decide +kernel⟩
/-- isinstance(error, BadText) and not isinstance(error, BadNumber) and not isinstance(error, BadOnes) -/
def t_is3 (K : PySem.W.Frag) (CT CN CM : Addr) : Addr → Value → Option Addr → TS := fun a cls d =>
  let r : List V → Hp → VK → Prop := fun xs H Q => ∃ D, cls = .ref D ∧ d = none ∧ ExcC K D ∧ rIsE K D a xs H Q
  tRet (tAndV (tCB r (tCons (tVar 2) (tCons (tC (.ref CT)) tNil))) (tAndV (tNotV (tCB r (tCons (tVar 2) (tCons (tC (.ref CN)) tNil)))) (tNotV (tCB r (tCons (tVar 2) (tCons (tC (.ref CM)) tNil))))))
def sAsk (K : PySem.W.Frag) (CT fW fO : Addr) : Addr → Sp → Prop := fun f sp => (f = fW ∧ sp = spWorth K CT) ∨ (f = fO ∧ sp = spOnes K CT)
theorem ok_refused (D : Dn K mg "_law_refused" sLawRefused) (B : Bi mg) (gO : mg "OnesError" = some (.ref CO)) (gT : mg "BadText" = some (.ref CT)) (gN : mg "BadNumber" = some (.ref CN)) (gM : mg "BadOnes" = some (.ref CM)) (E : ErK K CO CT [(CT, true), (CN, false), (CM, false)])
    (W : Ka P w K mg base (L2.CX P w) 5 fW (spWorth K CT)) (O : Ka P w K mg base (L2.CX P w) 5 fO (spOnes K CT)) : Kp P w K mg base CX0 6 "_law_refused" (spRefused fW fO) := by
  obtain ⟨f, fd, F, hm⟩ := D.ex
  refine ⟨f, fd, pLawRefused, F.ok scRefused (fun vs H Q E h => ?_) (fun cdv A outer s H vs Q _ hr h => ?_), hm, F.kp, F.binds fun _ _ _ _ _ _ us hl => match us, hl with | [_, _], _ => rfl⟩
  · obtain ⟨g, z, rfl, _⟩ := h
    rfl
  · obtain ⟨g, z, rfl, hg, hz, h0, k⟩ := h
    have ask : ∀ f sp, sAsk K CT fW fO f sp → Ka P w K mg base (L2.CX P w) 5 f sp := fun f sp h => by
      rcases h with ⟨rfl, rfl⟩ | ⟨rfl, rfl⟩
      · exact W
      · exact O
    refine ⟨_, pss_cons (ps_try_as (i := 2) (tb := fun W => tDrop (tCallVS 0 (sAsk K CT fW fO) W (tCons (tVar 1) tNil))) (ts := t_is3 K CT CN CM) (Wout := fun _ _ _ _ => False) rfl rfl scRefused.nd rfl rfl ⟨rfl, by decide, Or.inl gO⟩ takes0
        (fun W pn xe tk _ => pss_one (ps_expr (by exact (pkV ask tk hr (by decide) rfl (Or.inl rfl) (by exact (pa_cons (pv 1) pa_nil))))))
        (fun a oe cls d pn hz hf => pss_one (ps_ret (by exact (pe_and (pe_callB (isE hz hf) (by rfl) B.isi (by decide +kernel) (pa_cons (pv 2) (pa_cons (pe_glob rfl gT rfl) pa_nil)))
          (pe_and (pe_not (pe_callB (isE hz hf) (by rfl) B.isi (by decide +kernel) (pa_cons (pv 2) (pa_cons (pe_glob rfl gN rfl) pa_nil))))
          (pe_one (pe_not (pe_callB (isE hz hf) (by rfl) B.isi (by decide +kernel) (pa_cons (pv 2) (pa_cons (pe_glob rfl gM rfl) pa_nil)))))))))))
      (pss_one (ps_ret pe_bl)), ?_⟩
    have bad : ∀ H', Same H H' → wAs K (.ref CO) 2 (t_is3 K CT CN CM) (fun _ _ _ _ => False) { nx := fun σ H' => tRet (tC (.bl false)) { nx := fun _ H' => Q .non H', rt := Q } σ H', rt := Q } (.ref CT) none [some (.ref g), some (.str z), none] H' := fun H' s' => by
      refine ⟨true, E.up, fun _ a ha => ?_, fun q => Bool.noConfusion q⟩
      refine ⟨_, rfl, CT, rfl, rfl, E.c, _, .ref CT, true, rfl, (fun u r => r), E.is (CT, true) (by simp), true, rfl, iteT ?_⟩
      refine ⟨_, rfl, CT, rfl, rfl, E.c, _, .ref CN, false, rfl, (fun u r => r), E.is (CN, false) (by simp), false, rfl, true, rfl, iteT ?_⟩
      exact ⟨_, rfl, CT, rfl, rfl, E.c, _, .ref CM, false, rfl, (fun u r => r), E.is (CM, false) (by simp), false, rfl, k H' s'⟩
    rcases hg with rfl | rfl
    · exact ⟨g, _, rfl, .inl ⟨rfl, rfl⟩, _, rfl, _, rfl, .inl ⟨z, rfl, hz, fun _ H' s' => bad H' s', fun n => absurd h0 n⟩⟩
    · exact ⟨g, _, rfl, .inr ⟨rfl, rfl⟩, _, rfl, _, rfl, .inl ⟨z, rfl, hz, fun _ H' s' => bad H' s', fun n => absurd h0 n⟩⟩
end
end Fo
namespace Fo
open PySem L2 FO
section
variable {P : Program} {w : World} {K : PySem.W.Frag} {mg : Str → Option Value} {base : Heap} {CO CT CN CM fW fO : Addr}
/-! ### _law_right -/
def spRight : Sp := fun vs H Q _ => ∃ z : Str, vs = [.str z] ∧ z.length ≤ 2000 ∧ ∀ H', Same H H' → Q (.bl true) H'
theorem scRight : FnScope nLawRight pLawRight (defScope sLawRight) := ⟨rfl, rfl, rfl, by decide +kernel, rfl, by decide +kernel, by decide +kernel⟩
theorem eqv_pair (a b : Int) : PyData.eqv (.tuple [.int a, .int b]) (.tuple [.int a, .int b]) = true := by simp [PyData.eqv, PyData.eqvAll]
theorem shaped_pair (a b : Int) : SeqAt.shaped (.tuple [.int a, .int b]) = true := by simp [SeqAt.shaped, PyData.canLay0, PyData.canLayAll0, PyData.depth, PyData.depthAll]
theorem ok_right (D : Dn K mg "_law_right" sLawRight) (B : Bi mg) (gW : mg "worth" = some (.ref fW)) (gO : mg "ones" = some (.ref fO)) (Rd : Kp P w K mg base CX0 2 "_law_read" spRead) (Rf : Kp P w K mg base CX0 6 "_law_refused" (spRefused fW fO)) (Wh : Kp P w K mg base CX0 1 "_law_whole" (spWhole K))
    (Wo : Kp P w K mg base (L2.CX P w) 5 "worth" (spWorth K CT)) (On : Kp P w K mg base (L2.CX P w) 5 "ones" (spOnes K CT)) : Kp P w K mg base CX0 7 "_law_right" spRight := by
  obtain ⟨f, fd, F, hm⟩ := D.ex
  refine ⟨f, fd, pLawRight, F.ok scRight (fun vs H Q E h => ?_) (fun cdv A outer s H vs Q E hr h => ?_), hm, F.kp, F.binds fun _ _ _ _ _ _ us hl => match us, hl with | [_], _ => rfl⟩
  · obtain ⟨z, rfl, _⟩ := h
    rfl
  · obtain ⟨z, rfl, hz, k⟩ := h
    refine ⟨_, pss_cons (ps_set (i := 1) scRight.nd rfl (Or.inl rfl) (pk Rd hr (by decide) rfl (pa_cons (pv 0) pa_nil)))
      (pss_cons (ps_if (pt_cmpR op_eq (pv 1) pe_int (nomark _)) (pss_one (ps_ret (pe_and (pk Rf hr (by decide) rfl (pa_cons (pe_glob (v := .ref fW) rfl gW rfl) (pa_cons (pv 0) pa_nil))) (pe_one (pk Rf hr (by decide) rfl (pa_cons (pe_glob (v := .ref fO) rfl gO rfl) (pa_cons (pv 0) pa_nil))))))) pss_nil)
      (pss_cons (ps_par (i := 2) (j := 3) (by rfl) scRight.nd rfl rfl (by decide) rfl rfl (pa_cons (pkL Wo hr (by decide) rfl (pa_cons (pv 0) pa_nil)) (pa_cons (pkL On hr (by decide) rfl (pa_cons (pv 0) pa_nil)) pa_nil)) (by rfl))
      (pss_one (ps_ret (pe_and (pk Wh hr (by decide) rfl (pa_cons (pv 2) pa_nil)) (pe_and (pk Wh hr (by decide) rfl (pa_cons (pv 3) pa_nil))
        (pe_one (pe_cmpR (op_eqD hr.units) (pe_tup (pa_cons (pv 2) (pa_cons (pv 3) pa_nil))) (pe_tup (pa_cons (pv 1) (pa_cons (pe_m1 PySem.F.slot_str_count PySem.F.type_str_count mt_count (pv 0) pe_str) pa_nil))) (nomark _))))))))), ?_⟩
    have hlz : z.length = (tl z).length := by simp [tl, Str.length]
    have hsz : z.length ≤ sizeLine := Nat.le_trans hz (by decide)
    have same : worthL (tl z) = readL (tl z) := by
      unfold worthL
      rw [if_pos (by omega)]
    refine ⟨_, rfl, z, rfl, hz, fun H1 s1 => ?_⟩
    refine ⟨_, rfl, rfl, _, rfl, ?_⟩
    by_cases h0 : readL (tl z) = 0
    · refine ifT (decide_eq_true (by rw [h0])) ?_
      refine ⟨_, rfl, fW, z, rfl, .inl rfl, hsz, same.trans h0, fun H2 s2 => ⟨true, rfl, iteT ?_⟩⟩
      exact ⟨_, rfl, fO, z, rfl, .inr rfl, hsz, same.trans h0, fun H3 s3 => k _ ((s1.trans s2).trans s3)⟩
    · refine ifF (decide_eq_false (fun q => h0 (V.int.inj q))) ?_
      refine ⟨_, rfl, _, rfl, .inl ⟨z, rfl, hsz, fun q => absurd (same.symm.trans q) h0, fun _ H2 s2 => ?_⟩⟩
      refine ⟨_, rfl, _, rfl, .inl ⟨z, rfl, hsz, fun q => absurd (same.symm.trans q) h0, fun _ H3 s3 => ?_⟩⟩
      refine ⟨_, _, rfl, ?_⟩
      refine ⟨_, rfl, _, _, rfl, IsW.int _, true, rfl, iteT ?_⟩
      refine ⟨_, rfl, _, _, rfl, IsW.int _, true, rfl, iteT ?_⟩
      refine ⟨_, rfl, _, rfl, (show 2 ≤ sizeLine by decide), fun T hT => ?_⟩
      refine ⟨_, rfl, _, rfl, ⟨z, rfl⟩, z, _, rfl, rfl, (show 2 ≤ sizeLine by decide), fun U hU => ?_⟩
      rw [same] at hU
      rw [same, count_one]
      refine ⟨.tuple [.int _, .int _], .tuple [.int _, .int _], .tup (SqT.of (by rw [upd_ne (ne_of_none upd_same hU), upd_same])) (.cons (.int _) (.cons (.int _) .nil)), .tup (SqT.of upd_same) (.cons (.int _) (.cons (.int _) .nil)), shaped_pair _ _, shaped_pair _ _, ?_⟩
      rw [eqv_pair]
      exact k _ (sm_new (sm_new ((s1.trans s2).trans s3) hT) hU)
/-! ### law -/
def spLaw (K : PySem.W.Frag) : Sp := fun vs H Q _ => ∃ (a : Addr) (ns : List Int), vs = [.ref a] ∧ SqL K H a (ns.map V.int) ∧ ns.length ≤ 63 ∧ (∀ n ∈ ns, n.natAbs < 2 ^ 1048576) ∧ ∀ H', Q (.bl true) H'
theorem scLaw : FnScope nLaw pLaw (defScope sLaw) := ⟨rfl, rfl, rfl, by decide +kernel, rfl, by decide +kernel, by decide +kernel⟩
theorem cut_take (ns : List Int) (k : Nat) : cutV (ns.map V.int) none (some (k : Int)) = (ns.take k).map V.int := by
  unfold cutV
  rw [HT.sIx_nat]
  show (((ns.map V.int).drop 0).take (min k (ns.map V.int).length - 0)) = _
  rw [List.drop_zero, Nat.sub_zero, List.map_take, List.length_map]
  by_cases h : k ≤ ns.length
  · rw [Nat.min_eq_left h]
  · rw [Nat.min_eq_right (by omega), List.take_of_length_le (by rw [List.length_map]; omega), List.take_of_length_le (by rw [List.length_map]; omega)]
theorem lapp (x y : Str) : (x ++ y).length = x.length + y.length := by rw [len_tl, tl_app, List.length_append, ← len_tl, ← len_tl]
theorem text_ends : worthL (tl ("((1+1)*(1+(1+1)))" : Str)) = 6 ∧ (tl ("((1+1)*(1+(1+1)))" : Str)).count 49 = 5 ∧ worthL (tl ("1" : Str)) = 1 := by decide +kernel
theorem fn_law {f : Addr} {fd : FuncData} (F : Fun K "law" "law" sLaw f fd) (B : Bi mg) (Nu : Kp P w K mg base CX0 1 "_law_number" spNumber) (Tx : Kp P w K mg base CX0 1 "_law_text" spText) (Rt : Kp P w K mg base CX0 7 "_law_right" spRight)
    (Wo : Kp P w K mg base (L2.CX P w) 5 "worth" (spWorth K CT)) (On : Kp P w K mg base (L2.CX P w) 5 "ones" (spOnes K CT)) : FnOk P w K mg base CX0 8 f fd pLaw (spLaw K) := by
  refine F.ok scLaw (fun vs H Q E h => ?_) (fun cdv A outer s H vs Q E hr h => ?_)
  · obtain ⟨a, ns, rfl, _⟩ := h
    rfl
  · obtain ⟨a, ns, rfl, hS, hlen, hbits, k⟩ := h
    refine ⟨_, pss_cons (ps_for PassesOwn.never rfl (pi_enum (by rfl) B.enum (pa_cons (pe_op op_cat (pe_slice sl_list (pv 0) po_none (po_some pe_int)) (pe_lst (pa_cons (pe_callB call_len_seq (by rfl) B.len PySem.boot_len (pa_cons (pv 0) pa_nil)) pa_nil))) pa_nil))
        (pg_tup rfl (pgs_cons (pg_name (i := 1) scLaw.nd rfl (.inl rfl)) (pgs_cons (pg_name (i := 2) scLaw.nd rfl (.inl rfl)) pgs_nil)))
        (pss_cons (ps_set (i := 3) scLaw.nd rfl (Or.inl rfl) (pk Nu hr (by decide) rfl (pa_cons (pv 2) (pa_cons (pv 1) (pa_cons pe_int pa_nil)))))
        (pss_cons (ps_set (i := 4) scLaw.nd rfl (Or.inl rfl) (pk Tx hr (by decide) rfl (pa_cons (pv 3) (pa_cons (pe_op op_mod (pe_op op_fdivN (pv 3) pe_int) pe_int) pa_nil))))
        (pss_cons (ps_set (i := 5) scLaw.nd rfl (Or.inl rfl) (pe_op op_mod (pe_op op_fdivN (pv 3) pe_int) (pe_callB call_len_str (by rfl) B.len PySem.boot_len (pa_cons (pv 4) pa_nil))))
        (pss_cons (ps_set (i := 6) scLaw.nd rfl (Or.inl rfl) (pe_lst (pa_cons (pv 4)
            (pa_cons (pe_op op_add_str (pe_slice sl_str (pv 4) po_none (po_some (pv 5))) (pe_slice sl_str (pv 4) (po_some (pe_op op_add (pv 5) pe_int)) po_none))
            (pa_cons (pe_slice sl_str (pv 4) po_none (po_some (pv 5)))
            (pa_cons (pe_op op_add_str (pv 4) (pv 4))
            (pa_cons (pe_op op_add_str (pe_op op_add_str pe_str (pv 4)) pe_str)
            (pa_cons (pe_op op_add_str (pv 4) pe_str) pa_nil))))))))
        (pss_cons (ps_for PassesOwn.never rfl (pi_list (pe_lst (pa_cons pe_str (pa_cons pe_str (pa_cons pe_str (pa_cons pe_str (pa_cons pe_str (pa_cons pe_str (pa_cons pe_str pa_nil))))))))) (pg_name (i := 7) scLaw.nd rfl (Or.inl rfl))
          (pss_one (ps_set (i := 6) scLaw.nd rfl (Or.inl rfl) (pe_op op_cat (pv 6) (pe_lst
            (pa_cons (pe_op op_add_str (pe_op op_add_str (pe_slice sl_str (pv 4) po_none (po_some (pv 5))) (pv 7)) (pe_slice sl_str (pv 4) (po_some (pv 5)) po_none))
            (pa_cons (pe_op op_add_str (pe_op op_add_str (pe_slice sl_str (pv 4) po_none (po_some (pv 5))) (pv 7)) (pe_slice sl_str (pv 4) (po_some (pe_op op_add (pv 5) pe_int)) po_none)) pa_nil)))))))
        (pss_one (ps_if (pt_not (pt_val (pe_callB (cr_all rfl) (by rfl) B.all (by decide +kernel) (pa_cons
            (pe_lc (own := [("_law_some", 8)]) (g := gName 8) (tt := tYes) rfl scLaw.nd (pi_list (pv 6)) (blkOk_by (own := [("_law_some", 8)]) (N := nLaw) (sc := defScope sLaw) (by decide +kernel)) (fun _ _ _ _ _ => pg_name (i := 8) scLaw.nd rfl (Or.inl rfl)) (fun _ _ _ _ _ => pts_nil)
              (fun _ _ _ _ _ => pk Rt hr (by decide) rfl (pa_cons (pv 8) pa_nil))) pa_nil)))) (pss_one (ps_ret pe_bl)) pss_nil))))))))
      (pss_cons (ps_if (PW.pt (pw_or (pt_cmpR op_ne (pkL Wo hr (by decide) rfl (pa_cons pe_str pa_nil)) pe_int (nomark _)) (pw_or1 (pt_cmpR op_ne (pkL On hr (by decide) rfl (pa_cons pe_str pa_nil)) pe_int (nomark _))))) (pss_one (ps_ret pe_bl)) pss_nil)
      (pss_one (ps_ret (pe_and (pe_cmpR op_eq (pkL Wo hr (by decide) rfl (pa_cons pe_str pa_nil)) pe_int (nomark _)) (pe_and (pk Rt hr (by decide) rfl (pa_cons pe_str pa_nil)) (pe_and (pk Rt hr (by decide) rfl (pa_cons pe_str pa_nil)) (pe_one (pk Rt hr (by decide) rfl (pa_cons pe_str pa_nil))))))))), ?_⟩
    have big : (16777216 : Nat) = sizeLine := PySem.sizeLine_eq.symm
    -- script[:8] + [len(script)]
    refine ⟨_, rfl, _, rfl, a, _, rfl, hS, fun c hc => ?_⟩
    have sC := sm_upd (o := .lst (cutV (ns.map V.int) none (some 8))) hc
    refine ⟨_, rfl, a, _, rfl, .inl (sC.seq hS), (show 1 ≤ sizeLine by decide), fun d hd => ?_⟩
    have sD := sm_new (o := .lst [V.int ((ns.map V.int).length : Nat)]) sC hd
    have e8 : cutV (ns.map V.int) none (some 8) = (ns.take 8).map V.int := cut_take ns 8
    rw [e8] at sC sD hd ⊢
    obtain ⟨ms, ems, hm9, hmb⟩ : ∃ ms : List Int, (ns.take 8).map V.int ++ [V.int ((ns.map V.int).length : Nat)] = ms.map V.int ∧ ms.length ≤ 9 ∧ ∀ m ∈ ms, m.natAbs < 2 ^ 1048576 := by
      refine ⟨ns.take 8 ++ [(((ns.map V.int).length : Nat) : Int)], by simp, by simp; omega, fun m hm => ?_⟩
      rcases List.mem_append.mp hm with z | z
      · exact hbits m (List.mem_of_mem_take z)
      · rw [List.mem_singleton.mp z, List.length_map]
        exact Nat.lt_of_lt_of_le (show ns.length < 2 ^ 6 by show _ < 64; omega) (Nat.pow_le_pow_right (by decide) (by decide))
    refine ⟨c, d, _, _, rfl, rfl, by rw [upd_ne (ne_of_none upd_same hd), upd_same], upd_same, ?_, fun e he => ?_⟩
    · rw [← List.length_append, ems, List.length_map, ← big]
      omega
    rw [ems]
    refine ⟨e, _, rfl, SqL.of upd_same, ?_⟩
    have sE := sm_new (o := .lst (ms.map V.int)) sD he
    have hE : upd (upd (upd H c (.lst ((ns.take 8).map V.int))) d (.lst [V.int ((ns.map V.int).length : Nat)])) e (.lst (ms.map V.int)) e = some (.lst (ms.map V.int)) := upd_same
    generalize upd (upd (upd H c (.lst ((ns.take 8).map V.int))) d (.lst [V.int ((ns.map V.int).length : Nat)])) e (.lst (ms.map V.int)) = H0 at sE hE
    refine for_it walk_enum (fun i σ H' => ∃ v1 v2 v3 v4 v5 v6 v7 v8 : Option V, σ = [some (.ref a), v1, v2, v3, v4, v5, v6, v7, v8] ∧ Same H0 H') ⟨_, _, _, _, _, _, _, _, rfl, Same.refl _⟩ (fun i σ H' _ ⟨_, _, _, _, _, _, _, _, _, s'⟩ => SqL.of (s' _ _ hE)) ?_ ?_
    · rintro i x σ H1 H2 hi ⟨v1, v2, v3, v4, v5, v6, v7, v8, rfl, hs⟩ ⟨T, x1, y1, rfl, hT, rfl, ex, ey⟩
      cases ex
      obtain ⟨m, hm, rfl⟩ : ∃ m, ms[i]? = some m ∧ y1 = V.int m := by
        have ey : (ms.map V.int)[i]? = some y1 := ey
        rw [List.getElem?_map] at ey
        cases q : ms[i]? with
        | none => rw [q] at ey; cases ey
        | some m => rw [q] at ey; exact ⟨m, rfl, (Option.some.inj ey).symm⟩
      have him : i < ms.length := by rw [List.length_map] at hi; exact hi
      refine ⟨T, _, rfl, SqT.of upd_same, rfl, _, _, rfl, _, _, rfl, rfl, ?_⟩
      have s1 := sm_new (o := .tup [V.int (i : Nat), V.int m]) hs hT
      generalize upd H1 T (.tup [V.int (i : Nat), V.int m]) = H2 at s1
      -- the number, the text, the spot
      refine ⟨_, rfl, _, rfl, m, _, _, rfl, small_lt (hmb m (List.mem_of_getElem? hm)) _ (by decide), by omega, by omega, by decide, by decide, fun z => ?_⟩
      refine ⟨_, rfl, _, rfl, _, _, rfl, rfl, ⟨by decide, by decide⟩, _, _, rfl, rfl, (by show (0 : Int) < 9; decide), z, _, rfl, Int.emod_nonneg _ (by decide), Int.le_trans (Int.le_of_lt (Int.emod_lt_of_pos _ (by decide))) (by decide), fun H3 t s2 gt => ?_⟩
      have s3 := s1.trans s2
      have tl9 : t.length < 900 := by rw [len_tl]; exact gt.2
      have tp : 0 < t.length := by
        obtain ⟨⟨n, j, wr⟩, _⟩ := gt
        have := wr.len
        have := wr.pos
        rw [len_tl]
        omega
      have tsz : t.length ≤ sizeLine := by rw [← big]; omega
      refine ⟨_, rfl, _, _, rfl, rfl, ⟨by decide, by decide⟩, _, rfl, t, rfl, tsz, _, _, rfl, rfl, (by omega), ?_⟩
      have cl := cutS_length t
      have n1 : ("(" : Str).length = 1 := by decide +kernel
      have n2 : (")" : Str).length = 1 := by decide +kernel
      have n3 : ("+1" : Str).length = 2 := by decide +kernel
      have cl' : ∀ lo hi, (cutS t lo hi).length < 900 := fun lo hi => Nat.lt_of_le_of_lt (cl lo hi) tl9
      have ls : ∀ x y : Str, x.length < 900 → y.length < 900 → (x.length + y.length ≤ sizeLine) := fun x y hx hy => by rw [← big]; omega
      have le2 : ∀ n : Nat, n ≤ 2000 → n ≤ sizeLine := fun n h => by rw [← big]; omega
      obtain ⟨sp, esp⟩ : ∃ sp : Int, sp = (z.fdiv 4) % (t.length : Int) := ⟨_, rfl⟩
      show gName 5 (V.int ((z.fdiv 4) % (t.length : Int))) _ _ _
      rw [← esp]
      -- tried
      refine ⟨_, rfl, _, rfl, _, rfl, _, rfl, t, rfl, tsz, _, rfl, _, rfl, _, _, rfl, rfl, _, rfl, t, rfl, tsz, _, _, rfl, rfl, ls _ _ (cl' _ _) (cl' _ _),
        _, rfl, _, rfl, _, rfl, t, rfl, tsz, _, rfl, _, rfl, _, _, rfl, rfl, ls _ _ tl9 tl9, _, rfl, _, _, rfl, rfl, by rw [n1, ← big]; omega, _, _, rfl, rfl, by rw [lapp, n1, n2, ← big]; omega,
        _, rfl, _, _, rfl, rfl, by rw [n3, ← big]; omega, (show 6 ≤ sizeLine by decide), fun U hU => ?_⟩
      have all6 : ∀ y ∈ ([t, cutS t none (some sp) ++ cutS t (some (sp + 1)) none, cutS t none (some sp), t ++ t, ("(" : Str) ++ t ++ (")" : Str), t ++ ("+1" : Str)] : List Str), y.length ≤ 2000 := fun y hy => by
        have c1 := cl' none (some sp)
        have c2 := cl' (some (sp + 1)) none
        simp only [List.mem_cons, List.not_mem_nil, or_false] at hy
        rcases hy with rfl | rfl | rfl | rfl | rfl | rfl
        · omega
        · rw [lapp]; omega
        · omega
        · rw [lapp]; omega
        · rw [lapp, lapp, n1, n2]; omega
        · rw [lapp, n3]; omega
      have s4 := sm_new (o := .lst (([t, cutS t none (some sp) ++ cutS t (some (sp + 1)) none, cutS t none (some sp), t ++ t, ("(" : Str) ++ t ++ (")" : Str), t ++ ("+1" : Str)] : List Str).map V.str)) s3 hU
      refine ⟨(show 7 ≤ sizeLine by decide), fun u hu => ?_⟩
      have hU2 := upd_ne (H := upd H3 U (.lst (([t, cutS t none (some sp) ++ cutS t (some (sp + 1)) none, cutS t none (some sp), t ++ t, ("(" : Str) ++ t ++ (")" : Str), t ++ ("+1" : Str)] : List Str).map V.str))) (o := .lst [V.str "(", V.str ")", V.str "+", V.str "*", V.str "1", V.str "2", V.str " "]) (ne_of_none upd_same hu)
      rw [upd_same] at hU2
      have s5 := sm_new (o := .lst [V.str "(", V.str ")", V.str "+", V.str "*", V.str "1", V.str "2", V.str " "]) s4 hu
      have hu2 : upd (upd H3 U (.lst (([t, cutS t none (some sp) ++ cutS t (some (sp + 1)) none, cutS t none (some sp), t ++ t, ("(" : Str) ++ t ++ (")" : Str), t ++ ("+1" : Str)] : List Str).map V.str))) u (.lst [V.str "(", V.str ")", V.str "+", V.str "*", V.str "1", V.str "2", V.str " "]) u = some (.lst [V.str "(", V.str ")", V.str "+", V.str "*", V.str "1", V.str "2", V.str " "]) := upd_same
      refine ⟨u, rfl, ⟨_, SqL.of hu2⟩, for_list (K := K) (a := u) (xs := [V.str "(", V.str ")", V.str "+", V.str "*", V.str "1", V.str "2", V.str " "])
        (fun j σ H' => ∃ (ts : List Str) (T : Addr) (v7 : Option V), σ = [some (.ref a), some (.int (i : Nat)), some (.int m), some (.int z), some (.str t), some (.int sp), some (.ref T), v7, v8] ∧ H' T = some (.lst (ts.map V.str)) ∧ ts.length = 6 + 2 * j ∧ (∀ y ∈ ts, y.length ≤ 2000) ∧
          Same H0 H' ∧ H' u = some (.lst [V.str "(", V.str ")", V.str "+", V.str "*", V.str "1", V.str "2", V.str " "]))
        ⟨_, U, v7, rfl, hU2, rfl, all6, s5, hu2⟩ (fun j σ H' _ ⟨_, _, _, _, _, _, _, _, hu'⟩ => SqL.of hu') ?_ ?_⟩
      · rintro j y σ H4 hj ⟨ts, T, v7, rfl, hT4, hl4, ha4, s6, hu4⟩
        have hj7 : j < 7 := (List.getElem?_eq_some_iff.mp hj).1
        obtain ⟨g, rfl, hg1⟩ : ∃ g : Str, y = V.str g ∧ g.length = 1 := by
          have hy := List.mem_of_getElem? hj
          simp only [List.mem_cons, List.not_mem_nil, or_false] at hy
          rcases hy with rfl | rfl | rfl | rfl | rfl | rfl | rfl
          all_goals exact ⟨_, rfl, by decide +kernel⟩
        have c1 := cl' none (some sp)
        have c2 := cl' (some sp) none
        have c3 := cl' (some (sp + 1)) none
        refine ⟨_, rfl, _, rfl, _, rfl, _, rfl, t, rfl, tsz, _, rfl, _, _, rfl, rfl, by rw [hg1, ← big]; omega, _, rfl, _, rfl, _, rfl, t, rfl, tsz, _, _, rfl, rfl, by rw [lapp, hg1, ← big]; omega,
          _, rfl, _, rfl, _, rfl, t, rfl, tsz, _, rfl, _, _, rfl, rfl, by rw [hg1, ← big]; omega, _, rfl, _, rfl, _, _, rfl, rfl, _, rfl, t, rfl, tsz, _, _, rfl, rfl, by rw [lapp, hg1, ← big]; omega, (show 2 ≤ sizeLine by decide), fun V hV => ?_⟩
        refine ⟨T, V, _, _, rfl, rfl, by rw [upd_ne (ne_of_none hT4 hV)]; exact hT4, upd_same, ?_, fun W hW => ?_⟩
        · rw [List.length_map, hl4, ← big]
          show 6 + 2 * j + 2 ≤ _
          omega
        refine ⟨ts ++ [cutS t none (some sp) ++ g ++ cutS t (some sp) none, cutS t none (some sp) ++ g ++ cutS t (some (sp + 1)) none], W, _, rfl, by rw [upd_same, List.map_append]; rfl, by rw [List.length_append, hl4]; show 6 + 2 * j + 2 = _; omega, ?_, sm_new (sm_new s6 hV) hW, ?_⟩
        · intro x hx
          rcases List.mem_append.mp hx with hx | hx
          · exact ha4 x hx
          · simp only [List.mem_cons, List.not_mem_nil, or_false] at hx
            rcases hx with rfl | rfl
            · rw [lapp, lapp, hg1]; omega
            · rw [lapp, lapp, hg1]; omega
        · rw [upd_ne (ne_of_none (sm_at (sm_upd hV) hu4) hW), upd_ne (ne_of_none hu4 hV)]
          exact hu4
      · rintro σ H4 ⟨ts, T, v7, rfl, hT4, hl4, ha4, s6, hu4⟩
        -- all([..])
        refine ⟨_, rfl, T, rfl, ⟨_, SqL.of hT4⟩, fun D hD => lc_list (K := K) (a := T) (xs := ts.map V.str) (fun j H' => H' D = some (.lst ((List.replicate j true).map V.bl)) ∧ Same H4 H') ⟨upd_same, sm_upd hD⟩ (fun j H' _ hj => SqL.of (hj.2 _ _ hT4)) ?_ ?_⟩
        · rintro j x H5 hx ⟨hD5, s8⟩
          obtain ⟨y, hy, rfl⟩ : ∃ y, y ∈ ts ∧ x = V.str y := by
            have hx' := List.mem_of_getElem? hx
            obtain ⟨y, hy, e⟩ := List.mem_map.mp hx'
            exact ⟨y, hy, e.symm⟩
          have hj : j < ts.length := by
            have := (List.getElem?_eq_some_iff.mp hx).1
            rw [List.length_map] at this
            exact this
          refine ⟨rfl, ?_⟩
          unfold tYes
          refine iteT ?_
          refine ⟨_, rfl, y, rfl, ha4 y hy, fun H6 s9 => ?_⟩
          refine ⟨_, s9 _ _ hD5, ?_, ?_, ?_⟩
          · have hl5 : ts.length = 20 := hl4
            rw [List.length_map, List.length_replicate, ← big]; omega
          · rw [upd_same, List.replicate_succ', List.map_append]; rfl
          · exact fun b o e => by
              rw [upd_ne (ne_of_none e hD)]
              exact (s8.trans s9) b o e
        · rintro H5 ⟨hD5, s8⟩
          refine ⟨D, _, rfl, SqL.of hD5, _, rfl, ?_⟩
          have e : (List.replicate (ts.map V.str).length true).all id = true := by simp
          rw [e]
          refine iteF ?_
          exact ⟨_, _, _, _, _, _, _, _, rfl, s6.trans s8⟩
    · rintro σ H1 ⟨v1, v2, v3, v4, v5, v6, v7, v8, rfl, hs⟩
      obtain ⟨w1, w2, w3⟩ := text_ends
      refine ⟨_, rfl, .inl ⟨_, rfl, by decide +kernel, fun q => absurd (w1.symm.trans q) (by decide), fun _ H2 s2 => ?_⟩⟩
      refine ⟨rfl, _, rfl, ifF (by rw [w1]; rfl) ?_⟩
      refine ⟨_, rfl, .inl ⟨_, rfl, by decide +kernel, fun q => absurd (w1.symm.trans q) (by decide), fun _ H3 s3 => ?_⟩⟩
      refine ⟨rfl, _, rfl, ifF (by rw [w2]; rfl) ?_⟩
      refine ⟨_, rfl, .inl ⟨_, rfl, by decide +kernel, fun q => absurd (w3.symm.trans q) (by decide), fun _ H4 s4 => ?_⟩⟩
      refine ⟨rfl, true, by rw [w3]; rfl, iteT ?_⟩
      refine ⟨_, rfl, by decide +kernel, fun H5 s5 => ⟨true, rfl, iteT ?_⟩⟩
      refine ⟨_, rfl, by decide +kernel, fun H6 s6 => ⟨true, rfl, iteT ?_⟩⟩
      exact ⟨_, rfl, by decide +kernel, fun H7 s7 => k _⟩
end
end Fo
namespace Fo
open PySem L2 FO
/-! ### the end: what the top has written -/
section
variable {K : PySem.W.Frag} {h : Heap} {mg : Str → Option Value}
theorem dn_mk {x : Str} {st : Stmt} {f : Addr} {oc : Value} {od an : Option Addr} {osl : Array (Option Value)} {kV doc pm cdv ct : Value} (X : K.In h) (G : h.Ns mainGlobals mg) (a : PySem.W.nsIn K mainGlobals x = some (some (.ref f)))
    (l : K.lookup f = some ⟨oc, od, .func (PySem.W.fnOf x x (defArgs st) (defBody st) (defScope st) .none kV doc pm an cdv ct), osl⟩)
    (c : PySem.W.codeIn K cdv x = true) (k : PySem.W.keepIn K (.ref f) = true) : Dn K mg x st := ⟨f, _, fun_mk l c k, PySem.W.mg_of X G a⟩
theorem bi_mk (X : K.In h) (G : h.Ns mainGlobals mg) (b1 : PySem.W.nsIn K mainGlobals "isinstance" = some none) (b2 : PySem.W.nsIn K mainGlobals "int" = some none) (b3 : PySem.W.nsIn K mainGlobals "bool" = some none) (b4 : PySem.W.nsIn K mainGlobals "str" = some none) (b5 : PySem.W.nsIn K mainGlobals "list" = some none)
    (b6 : PySem.W.nsIn K mainGlobals "len" = some none) (b7 : PySem.W.nsIn K mainGlobals "all" = some none) (b8 : PySem.W.nsIn K mainGlobals "range" = some none) (b9 : PySem.W.nsIn K mainGlobals "enumerate" = some none) : Bi mg :=
  ⟨PySem.W.mg_none_of X G b1, PySem.W.mg_none_of X G b2, PySem.W.mg_none_of X G b3, PySem.W.mg_none_of X G b4, PySem.W.mg_none_of X G b5, PySem.W.mg_none_of X G b6, PySem.W.mg_none_of X G b7, PySem.W.mg_none_of X G b8, PySem.W.mg_none_of X G b9⟩
theorem er_mk {x : Str} {C : Addr} (X : K.In h) (G : h.Ns mainGlobals mg) (a : PySem.W.nsIn K mainGlobals x = some (some (.ref C))) (x1 : PySem.W.excIn K C [.type "ValueError", .type "Exception", .type "BaseException", .type "object"] "ValueError.__new__" = true)
    (k : PySem.W.keepIn K (.ref C) = true) (b : PySem.W.subIn K (.ref C) (.type "BaseException") = some true) (t : PySem.W.typeIn K (.ref C) = some (.type "type")) : ErC K mg x C := ⟨PySem.W.mg_of X G a, x1, k, b, t⟩
theorem erk_mk3 {O D C1 C2 C3 : Addr} {b1 b2 b3 : Bool} (e1 : PySem.W.findIn K (.ref D) "__getattribute__" = some (some (.builtin "BaseException.__getattribute__"))) (e2 : PySem.W.findIn K (.ref D) "__getattr__" = some none) (e3 : PySem.W.subIn K (.ref D) (.type "BaseException") = some true)
    (e4 : PySem.W.hasDictIn K D = true) (e5 : PySem.W.findIn K (.ref D) "__class__" = some (some (.builtin "object.__class__"))) (e6 : PySem.W.specialIn K (.builtin "object.__class__") "__get__" = some (some (.builtin "getset_descriptor.__get__")))
    (e7 : PySem.W.takesIn K (.builtin "object.__class__") = some true) (e8 : PySem.W.mroIn K D (.type "object") = some true) (o1 : PySem.W.subIn K (.ref O) (.type "BaseException") = some true) (o2 : PySem.W.hasDictIn K O = true) (o3 : PySem.W.typeIn K (.ref O) = some (.type "type")) (o4 : PySem.W.subIn K (.ref D) (.ref O) = some true)
    (i0 : PySem.W.kitOne K (.ref D) (.ref C1) = some b1) (i1 : PySem.W.kitOne K (.ref D) (.ref C2) = some b2) (i2 : PySem.W.kitOne K (.ref D) (.ref C3) = some b3) : ErK K O D [(C1, b1), (C2, b2), (C3, b3)] :=
  ⟨⟨e1, e2, e3, e4, e5, e6, e7, e8⟩, PySem.W.exm_ref o1 o2 o3 o4, fun p hp => by
    simp only [List.mem_cons, List.not_mem_nil, or_false] at hp
    rcases hp with rfl | rfl | rfl
    · exact i0
    · exact i1
    · exact i2⟩
theorem bits_lt {z : Int} {n : Nat} (h : PySem.Builtin.Int.intBits z ≤ n) : z.natAbs < 2 ^ n := by
  unfold PySem.Builtin.Int.intBits at h
  by_cases e : z = 0
  · subst e
    exact Nat.pow_pos (by decide)
  · have e' : (z == 0) = false := by simpa using e
    rw [e'] at h
    exact Nat.lt_of_lt_of_le (Nat.lt_log2_self) (Nat.pow_le_pow_right (by decide) h)
/-- the law's def, and how it is called -/
theorem law_end {l : PySem.W.OpenLaw} {w : World} {fa : Addr} {x : Str} {st : Stmt} {k : Nat} {sp : Sp} (D : Dn K mg "law" st) (hfa : mg "law" = some (.ref fa))
    (hb : ∀ (kV doc pm : Value) (an : Option Addr) (cdv ct v : Value), bindArgs (PySem.W.fnOf "law" "law" (defArgs st) (defBody st) (defScope st) .none kV doc pm an cdv ct) ⟨[v], []⟩ = pure [(x, v)])
    (hF : ∀ (base : Heap) (f : Addr) (fd : FuncData), Fun K "law" "law" st f fd → FnOk l.prog w K mg base CX0 k f fd [x] sp) :
    ∃ fd : FuncData, (∀ (s : Shared) (v : Value), BindsTo s fd ⟨[v], []⟩ [(x, v)]) ∧ ∀ base : Heap, K.In base → base.Ns mainGlobals mg → FnOk l.prog w K mg base CX0 k fa fd [x] sp := by
  obtain ⟨f, fd, F, hm⟩ := D.ex
  have e := hfa.symm.trans hm
  cases e
  refine ⟨fd, fun s v => ?_, fun base _ _ => hF base _ fd F⟩
  obtain ⟨oc, od, kV, doc, pm, an, cdv, ct, osl, rfl, lk, hcd⟩ := F.ex
  exact .of_eq (hb kV doc pm an cdv ct v)
end
end Fo
namespace Fo
open PySem L2 FO
/-- all that the law leans on -/
structure All1 (K : PySem.W.Frag) (mg : Str → Option Value) (CO CT CN CM : Addr) : Prop where
  B : Bi mg
  lon : ∃ u, mg "LONGEST" = some u ∧ RelV (.int 2000) u
  gO : mg "OnesError" = some (.ref CO)
  T : ErC K mg "BadText" CT
  gN : mg "BadNumber" = some (.ref CN)
  gM : mg "BadOnes" = some (.ref CM)
  E : ErK K CO CT [(CT, true), (CN, false), (CM, false)]
  d1 : Dn K mg "is_whole" sWhole
  d2 : Dn K mg "done" sDone
  d3 : Dn K mg "worth_of" sWorthOf
  d4 : Dn K mg "check_text" sCheckText
  d5 : Dn K mg "worth" sWorth
  d6 : Dn K mg "ones" sOnes
  d7 : Dn K mg "_law_number" sLawNumber
  d8 : Dn K mg "_law_whole" sLawWhole
  d9 : Dn K mg "_law_text" sLawText
  d10 : Dn K mg "_law_read" sLawRead
  d11 : Dn K mg "_law_closed" sLawClosed
  d12 : Dn K mg "_law_refused" sLawRefused
  d13 : Dn K mg "_law_right" sLawRight
theorem all1 {P : Program} {w : World} {K : PySem.W.Frag} {mg : Str → Option Value} {CO CT CN CM : Addr} (A : All1 K mg CO CT CN CM) (base : Heap) (f : Addr) (fd : FuncData) (F : Fun K "law" "law" sLaw f fd) : FnOk P w K mg base CX0 8 f fd pLaw (spLaw K) := by
  have k1 : Kp P w K mg base CX0 1 "is_whole" (spWhole K) := ok_whole A.d1 A.B
  have k2 := ok_done A.d2 A.B k1
  have k3 := ok_worthOf A.d3 A.B A.lon k1 k2
  have k4 := ok_checkText A.d4 A.T k3
  have k5 := ok_worth A.d5 k3 k4
  have k6 := ok_ones A.d6 k4
  obtain ⟨fW, fdW, psW, FW, gW, kW, bW⟩ := k5.ex
  obtain ⟨fO, fdO, psO, FO, gO, kO, bO⟩ := k6.ex
  have k10 := ok_read (P := P) (w := w) (base := base) A.d10 A.B (ok_closed A.d11 A.B)
  have k12 := ok_refused A.d12 A.B A.gO A.T.g A.gN A.gM A.E ⟨fdW, psW, FW, kW, bW⟩ ⟨fdO, psO, FO, kO, bO⟩
  have k13 := ok_right A.d13 A.B gW gO k10 k12 (ok_lwhole A.d8 A.B) k5 k6
  exact fn_law F A.B (ok_number A.d7) (ok_text A.d9 A.B) k13 k5 k6
end Fo
open PySem PySem.W PyProof.Rows in
set_option maxRecDepth 100000 in
set_option maxHeartbeats 0 in
theorem PySem.Challenge.cw_fewones_k01_worth_holds : PySem.Challenge.rw_fewones_k01_worth.Holds := by
  w_on; o_law; k_head; (case hw => w_witness2)
  k_fill
  refine L2.walk_ofB (l := PySem.Challenge.rw_fewones_k01_worth) (n := 63) (k := 8) (x := "_law_script") (CX := fun _ => L2.CX0) (sp := fun w => Fo.spLaw _) rfl (by decide) rfl ⟨rfl, by decide, by decide⟩
    (fun w h Y => PySem.W.kIn_of Y) ?F (fun _ _ a ns hl hb _ hS => ⟨a, ns, rfl, hS, hl, fun n hn => Fo.bits_lt (hb n hn), fun _ => rfl⟩) fun _ _ _ _ _ z => z
  case F =>
    intro w mg fa h KX G hmg
    replace hmg : mg "law" = some (.ref fa) := hmg
    refine' Fo.law_end (l := PySem.Challenge.rw_fewones_k01_worth) (st := Fo.sLaw) ?D hmg (fun _ _ _ _ _ _ _ => rfl) (Fo.all1 ?A)
    (case D => refine' Fo.dn_mk KX G ?a ?l ?c ?k; (case a => k_is); (case l => k_is); (case c => k_is); (case k => k_is))
    case A =>
    refine' ⟨?B, ?lon, ?gO, ?T, ?gN, ?gM, ?E, ?d1, ?d2, ?d3, ?d4, ?d5, ?d6, ?d7, ?d8, ?d9, ?d10, ?d11, ?d12, ?d13⟩
    (case B => refine' Fo.bi_mk KX G ?b_isi ?b_int ?b_bool ?b_str ?b_list ?b_len ?b_all ?b_range ?b_enum; (case b_isi => k_is); (case b_int => k_is); (case b_bool => k_is); (case b_str => k_is); (case b_list => k_is); (case b_len => k_is); (case b_all => k_is); (case b_range => k_is); (case b_enum => k_is))
    (case lon => refine' ⟨_, PySem.W.mg_of KX G ?z, ?y⟩; (case z => k_is); (case y => exact ⟨_, rfl⟩))
    (case gO => refine' PySem.W.mg_of KX G ?z; (case z => k_is))
    (case T => refine' Fo.er_mk KX G ?a ?x ?k ?b ?t; (case a => k_is); (case x => k_exc); (case k => k_is); (case b => k_is); (case t => k_is))
    (case gN => refine' PySem.W.mg_of KX G ?z; (case z => k_is))
    (case gM => refine' PySem.W.mg_of KX G ?z; (case z => k_is))
    (case E => refine' Fo.erk_mk3 ?e1 ?e2 ?e3 ?e4 ?e5 ?e6 ?e7 ?e8 ?o1 ?o2 ?o3 ?o4 ?i0 ?i1 ?i2; (case e1 => first | k_is | rfl | decide +kernel); (case e2 => first | k_is | rfl | decide +kernel); (case e3 => first | k_is | rfl | decide +kernel); (case e4 => first | k_is | rfl | decide +kernel); (case e5 => first | k_is | rfl | decide +kernel); (case e6 => first | k_is | rfl | decide +kernel); (case e7 => first | k_is | rfl | decide +kernel); (case e8 => first | k_is | rfl | decide +kernel); (case o1 => first | k_is | rfl | decide +kernel); (case o2 => first | k_is | rfl | decide +kernel); (case o3 => first | k_is | rfl | decide +kernel); (case o4 => first | k_is | rfl | decide +kernel); (case i0 => first | k_is | rfl | decide +kernel); (case i1 => first | k_is | rfl | decide +kernel); (case i2 => first | k_is | rfl | decide +kernel))
    (case d1 => refine' Fo.dn_mk KX G ?a ?l ?c ?k; (case a => k_is); (case l => k_is); (case c => k_is); (case k => k_is))
    (case d2 => refine' Fo.dn_mk KX G ?a ?l ?c ?k; (case a => k_is); (case l => k_is); (case c => k_is); (case k => k_is))
    (case d3 => refine' Fo.dn_mk KX G ?a ?l ?c ?k; (case a => k_is); (case l => k_is); (case c => k_is); (case k => k_is))
    (case d4 => refine' Fo.dn_mk KX G ?a ?l ?c ?k; (case a => k_is); (case l => k_is); (case c => k_is); (case k => k_is))
    (case d5 => refine' Fo.dn_mk KX G ?a ?l ?c ?k; (case a => k_is); (case l => k_is); (case c => k_is); (case k => k_is))
    (case d6 => refine' Fo.dn_mk KX G ?a ?l ?c ?k; (case a => k_is); (case l => k_is); (case c => k_is); (case k => k_is))
    (case d7 => refine' Fo.dn_mk KX G ?a ?l ?c ?k; (case a => k_is); (case l => k_is); (case c => k_is); (case k => k_is))
    (case d8 => refine' Fo.dn_mk KX G ?a ?l ?c ?k; (case a => k_is); (case l => k_is); (case c => k_is); (case k => k_is))
    (case d9 => refine' Fo.dn_mk KX G ?a ?l ?c ?k; (case a => k_is); (case l => k_is); (case c => k_is); (case k => k_is))
    (case d10 => refine' Fo.dn_mk KX G ?a ?l ?c ?k; (case a => k_is); (case l => k_is); (case c => k_is); (case k => k_is))
    (case d11 => refine' Fo.dn_mk KX G ?a ?l ?c ?k; (case a => k_is); (case l => k_is); (case c => k_is); (case k => k_is))
    (case d12 => refine' Fo.dn_mk KX G ?a ?l ?c ?k; (case a => k_is); (case l => k_is); (case c => k_is); (case k => k_is))
    (case d13 => refine' Fo.dn_mk KX G ?a ?l ?c ?k; (case a => k_is); (case l => k_is); (case c => k_is); (case k => k_is))
#print axioms PySem.Challenge.cw_fewones_k01_worth_holds
