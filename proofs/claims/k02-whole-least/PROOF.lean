import PyProof.Rows.All
import Wide.All
import OpenK.AllK
import Wide.FinOn
import HandS.ForMost
import HandS.ForExc
import HandS.IsInst
import HandS.ExcIs
import HandS.CallLocal
import HandS.WideBits
import HandS.Walk
import HandS.Codes
import HandS.Style
import HandS.EndBits
import HandS.Conv
import HandS.SortInts
import PySem.Challenge.RW_fewones_k02_whole_least
set_option Elab.async false
set_option linter.all false
set_option maxRecDepth 100000
set_option maxHeartbeats 2000000
set_option linter.all false
namespace FO
/-! The stack machine: what stands on the stack is a number or a sign; the top of the stack is the head of the list. -/
abbrev Itm := Sum Int Nat
def doneS : List Itm → Option (List Itm)
  | .inl b :: .inr s :: .inl a :: .inr o :: r => if o = 40 then (if s = 43 then some (.inl (a + b) :: r) else if s = 42 then some (.inl (a * b) :: r) else none) else none
  | _ => none
def stepS (S : List Itm) (c : Nat) : Option (List Itm) :=
  if c = 49 then some (.inl 1 :: S) else if c = 41 then doneS S else if c = 40 ∨ c = 43 ∨ c = 42 then some (.inr c :: S) else none
def runS : List Itm → List Nat → Option (List Itm)
  | S, [] => some S
  | S, c :: t => match stepS S c with
    | some S' => runS S' t
    | none => none
def endS : Option (List Itm) → Int
  | some [.inl n] => n
  | _ => 0
def readL (t : List Nat) : Int := endS (runS [] t)
def worthL (t : List Nat) : Int := if t.length ≤ 2000 then readL t else 0
/-- bits of the numbers on the stack -/
def phi : List Itm → Nat
  | [] => 0
  | .inl n :: r => n.natAbs.log2 + 1 + phi r
  | .inr _ :: r => phi r
theorem lt_pow_log2 (n : Nat) : n < 2 ^ (n.log2 + 1) := Nat.lt_log2_self
theorem log2_add (a b : Int) : (a + b).natAbs.log2 + 1 ≤ a.natAbs.log2 + 1 + (b.natAbs.log2 + 1) := by
  by_cases h0 : (a + b).natAbs = 0
  · rw [h0, Nat.log2_zero]; omega
  · have h1 := lt_pow_log2 a.natAbs
    have h2 := lt_pow_log2 b.natAbs
    have h3 : (a + b).natAbs < 2 ^ (a.natAbs.log2 + 1 + b.natAbs.log2 + 1) := by
      have e1 : 2 ^ (a.natAbs.log2 + 1) ≤ 2 ^ (a.natAbs.log2 + 1 + b.natAbs.log2) := Nat.pow_le_pow_right (by decide) (by omega)
      have e2 : 2 ^ (b.natAbs.log2 + 1) ≤ 2 ^ (a.natAbs.log2 + 1 + b.natAbs.log2) := Nat.pow_le_pow_right (by decide) (by omega)
      have e3 : 2 ^ (a.natAbs.log2 + 1 + b.natAbs.log2 + 1) = 2 ^ (a.natAbs.log2 + 1 + b.natAbs.log2) * 2 := Nat.pow_succ ..
      have := Int.natAbs_add_le a b
      omega
    have h4 := (Nat.log2_lt h0).mpr h3
    omega
theorem log2_mul (a b : Int) : (a * b).natAbs.log2 + 1 ≤ a.natAbs.log2 + 1 + (b.natAbs.log2 + 1) := by
  by_cases h0 : (a * b).natAbs = 0
  · rw [h0, Nat.log2_zero]; omega
  · have h1 := lt_pow_log2 a.natAbs
    have h2 := lt_pow_log2 b.natAbs
    have h3 : (a * b).natAbs < 2 ^ (a.natAbs.log2 + 1 + (b.natAbs.log2 + 1)) := by
      rw [Int.natAbs_mul, Nat.pow_add]
      exact Nat.mul_lt_mul'' h1 h2
    have h4 := (Nat.log2_lt h0).mpr h3
    omega
theorem phi_done {S S' : List Itm} (h : doneS S = some S') : phi S' ≤ phi S := by
  unfold doneS at h
  split at h
  · rename_i b s a o r
    split at h
    · split at h
      · cases h; have := log2_add a b; simp only [phi]; omega
      · split at h
        · cases h; have := log2_mul a b; simp only [phi]; omega
        · cases h
    · cases h
  · cases h
theorem len_done {S S' : List Itm} (h : doneS S = some S') : S'.length ≤ S.length := by
  unfold doneS at h
  split at h
  · split at h
    · split at h
      · cases h; simp only [List.length_cons]; omega
      · split at h
        · cases h; simp only [List.length_cons]; omega
        · cases h
    · cases h
  · cases h
theorem phi_step {S S' : List Itm} {c : Nat} (h : stepS S c = some S') : phi S' ≤ phi S + 1 := by
  unfold stepS at h
  split at h
  · cases h; simp only [phi]; have : (1 : Int).natAbs.log2 = 0 := by decide
    omega
  · split at h
    · have := phi_done h; omega
    · split at h
      · cases h; simp only [phi]; omega
      · cases h
theorem len_step {S S' : List Itm} {c : Nat} (h : stepS S c = some S') : S'.length ≤ S.length + 1 := by
  unfold stepS at h
  split at h
  · cases h; simp
  · split at h
    · have := len_done h; omega
    · split at h
      · cases h; simp
      · cases h
theorem runS_append : ∀ (t u : List Nat) (S : List Itm), runS S (t ++ u) = (match runS S t with | some S' => runS S' u | none => none)
  | [], u, S => rfl
  | c :: t, u, S => by
    show (match stepS S c with | some S' => runS S' (t ++ u) | none => none) = _
    show _ = (match (match stepS S c with | some S' => runS S' t | none => none) with | some S' => runS S' u | none => none)
    cases stepS S c with
    | none => rfl
    | some S' => exact runS_append t u S'
theorem phi_run : ∀ (t : List Nat) (S S' : List Itm), runS S t = some S' → phi S' ≤ phi S + t.length
  | [], S, S', h => by cases h; simp
  | c :: t, S, S', h => by
    unfold runS at h
    split at h
    · rename_i S1 e
      have h1 := phi_step e
      have h2 := phi_run t S1 S' h
      simp only [List.length_cons]; omega
    · cases h
theorem len_run : ∀ (t : List Nat) (S S' : List Itm), runS S t = some S' → S'.length ≤ S.length + t.length
  | [], S, S', h => by cases h; simp
  | c :: t, S, S', h => by
    unfold runS at h
    split at h
    · rename_i S1 e
      have h1 := len_step e
      have h2 := len_run t S1 S' h
      simp only [List.length_cons]; omega
    · cases h
theorem run_snoc {t : List Nat} {c : Nat} {S : List Itm} (h : runS [] t = some S) : runS [] (t ++ [c]) = stepS S c := by
  rw [runS_append, h]
  show (match stepS S c with | some S' => runS S' [] | none => none) = stepS S c
  cases stepS S c <;> rfl
/-- a writing bears on any stack -/
theorem run_frame : ∀ (t : List Nat) (S S' R : List Itm), runS S t = some S' → runS (S ++ R) t = some (S' ++ R)
  | [], S, S', R, h => by cases h; rfl
  | c :: t, S, S', R, h => by
    unfold runS at h
    split at h
    · rename_i S1 e
      have e2 : stepS (S ++ R) c = some (S1 ++ R) := by
        unfold stepS at e ⊢
        split at e
        · cases e; rename_i hc; rw [if_pos hc]; rfl
        · rename_i hc; rw [if_neg hc]
          split at e
          · rename_i hc2; rw [if_pos hc2]
            unfold doneS at e
            split at e
            · show (if _ = 40 then _ else _) = _
              split at e
              · rename_i ho; rw [if_pos ho]
                split at e
                · rename_i hs; cases e; rw [if_pos hs]; rfl
                · rename_i hs; rw [if_neg hs]
                  split at e
                  · rename_i hs2; cases e; rw [if_pos hs2]; rfl
                  · cases e
              · cases e
            · cases e
          · rename_i hc2; rw [if_neg hc2]
            split at e
            · rename_i hc3; cases e; rw [if_pos hc3]; rfl
            · cases e
      unfold runS
      rw [e2]
      exact run_frame t S1 S' R h
    · cases h
/-- the number that a text is, as it is read on an empty stack -/
def Reads (t : List Nat) (n : Int) : Prop := runS [] t = some [.inl n]
theorem Reads.one : Reads [49] 1 := rfl
theorem Reads.on {t : List Nat} {n : Int} (h : Reads t n) (R : List Itm) : runS R t = some (.inl n :: R) := run_frame t [] [.inl n] R h
theorem Reads.plus {t u : List Nat} {m n : Int} (h : Reads t m) (k : Reads u n) : Reads (40 :: (t ++ 43 :: (u ++ [41]))) (m + n) := by
  show runS [.inr 40] (t ++ 43 :: (u ++ [41])) = _
  rw [runS_append, h.on]
  show runS [.inr 43, .inl m, .inr 40] (u ++ [41]) = _
  rw [runS_append, k.on]
  rfl
theorem Reads.times {t u : List Nat} {m n : Int} (h : Reads t m) (k : Reads u n) : Reads (40 :: (t ++ 42 :: (u ++ [41]))) (m * n) := by
  show runS [.inr 40] (t ++ 42 :: (u ++ [41])) = _
  rw [runS_append, h.on]
  show runS [.inr 42, .inl m, .inr 40] (u ++ [41]) = _
  rw [runS_append, k.on]
  rfl
theorem Reads.read {t : List Nat} {n : Int} (h : Reads t n) : readL t = n := by
  unfold readL; rw [h]; rfl
theorem Reads.worth {t : List Nat} {n : Int} (h : Reads t n) (hl : t.length ≤ 2000) : worthL t = n := by
  unfold worthL; rw [if_pos hl]; exact h.read
end FO
set_option linter.all false
namespace FO
/-! The fewest ones of 0 .. 200, five bits each. -/
def T : Nat := 0x108c2308420f8c1f18c2108420f94630842307c20f8c1ef7ba0f8420f841ef83e0f7bdee8420f83e0f741ef83dee7b9ef7bdee7bdcf7b9ee739cd83dce7b9ee739cd73dce735ee739cd7358d735cd6b5ac735cd735ac635ac7358c62dac6318b6b16c62d8b5ad6a5ad6a5a96a4a9495a9294a1284210741cc6314a418820
def F (n : Nat) : Nat := (T >>> (5 * n)) % 32
/-- a state of the inner loop: the best so far, the sign, the two parts -/
abbrev Wy := Nat × Nat × Nat × Nat
def innerA (n : Nat) (st : Wy) (o : Nat) : Wy := if F o + F (n - o) < st.1 then (F o + F (n - o), 43, o, n - o) else st
def innerB (n : Nat) (st : Wy) (o : Nat) : Wy := if n % o = 0 ∧ F o + F (n / o) < st.1 then (F o + F (n / o), 42, o, n / o) else st
def innerT (n : Nat) (st : Wy) (o : Nat) : Wy := innerB n (innerA n st o) o
def bestAt (n k : Nat) : Wy := (List.range' 2 k).foldl (innerT n) (F 1 + F (n - 1), 43, 1, n - 1)
def best (n : Nat) : Wy := bestAt n (n / 2 - 1)
theorem bestAt_zero (n : Nat) : bestAt n 0 = (F 1 + F (n - 1), 43, 1, n - 1) := rfl
theorem bestAt_succ (n k : Nat) : bestAt n (k + 1) = innerT n (bestAt n k) (2 + k) := by
  unfold bestAt
  rw [List.range'_concat, List.foldl_append, Nat.one_mul]
  rfl
def okAt (n : Nat) : Bool := let w := best n
  w.1 == F n && decide (1 ≤ w.2.2.1) && decide (w.2.2.1 < n) && decide (1 ≤ w.2.2.2) && decide (w.2.2.2 < n) && F n == F w.2.2.1 + F w.2.2.2 &&
    ((w.2.1 == 43 && w.2.2.1 + w.2.2.2 == n) || (w.2.1 == 42 && w.2.2.1 * w.2.2.2 == n))
theorem ok_all : ((List.range 199).all fun i => okAt (i + 2)) = true := by decide +kernel
structure BestOk (n : Nat) : Prop where
  val : (best n).1 = F n
  a1 : 1 ≤ (best n).2.2.1
  a2 : (best n).2.2.1 < n
  b1 : 1 ≤ (best n).2.2.2
  b2 : (best n).2.2.2 < n
  sum : F n = F (best n).2.2.1 + F (best n).2.2.2
  how : ((best n).2.1 = 43 ∧ (best n).2.2.1 + (best n).2.2.2 = n) ∨ ((best n).2.1 = 42 ∧ (best n).2.2.1 * (best n).2.2.2 = n)
theorem best_ok {n : Nat} (h2 : 2 ≤ n) (h : n ≤ 200) : BestOk n := by
  have q := List.all_eq_true.mp ok_all (n - 2) (List.mem_range.mpr (by omega))
  have e : n - 2 + 2 = n := by omega
  rw [e] at q
  unfold okAt at q
  simp only [Bool.and_eq_true, Bool.or_eq_true, beq_iff_eq, decide_eq_true_eq] at q
  obtain ⟨⟨⟨⟨⟨⟨q1, q2⟩, q3⟩, q4⟩, q5⟩, q6⟩, q7⟩ := q
  exact ⟨q1, q2, q3, q4, q5, q6, q7⟩
theorem F_zero : F 0 = 0 := by decide +kernel
theorem F_one : F 1 = 1 := by decide +kernel
theorem F_bd_all : ((List.range 201).all fun n => decide (F n ≤ 18) && (n == 0 || decide (1 ≤ F n))) = true := by decide +kernel
theorem F_le {n : Nat} (h : n ≤ 200) : F n ≤ 18 := by
  have q := List.all_eq_true.mp F_bd_all n (List.mem_range.mpr (by omega))
  simp only [Bool.and_eq_true, decide_eq_true_eq] at q
  exact q.1
theorem F_pos {n : Nat} (h1 : 1 ≤ n) (h : n ≤ 200) : 1 ≤ F n := by
  have q := List.all_eq_true.mp F_bd_all n (List.mem_range.mpr (by omega))
  simp only [Bool.and_eq_true, Bool.or_eq_true, decide_eq_true_eq, beq_iff_eq] at q
  rcases q.2 with z | z
  · omega
  · exact z
def flAt (a b : Nat) : Bool := (decide (200 < a + b) || decide (F (a + b) ≤ F a + F b)) && (decide (200 < a * b) || decide (F (a * b) ≤ F a + F b))
theorem fl_all : ((List.range 200).all fun a => (List.range 200).all fun b => flAt (a + 1) (b + 1)) = true := by decide +kernel
theorem F_add {a b : Nat} (ha : 1 ≤ a) (hb : 1 ≤ b) (h : a + b ≤ 200) : F (a + b) ≤ F a + F b := by
  have q := List.all_eq_true.mp (List.all_eq_true.mp fl_all (a - 1) (List.mem_range.mpr (by omega))) (b - 1) (List.mem_range.mpr (by omega))
  have e1 : a - 1 + 1 = a := by omega
  have e2 : b - 1 + 1 = b := by omega
  rw [e1, e2] at q
  unfold flAt at q
  simp only [Bool.and_eq_true, Bool.or_eq_true, decide_eq_true_eq] at q
  rcases q.1 with z | z
  · omega
  · exact z
theorem F_mul {a b : Nat} (ha : 1 ≤ a) (hb : 1 ≤ b) (h : a * b ≤ 200) : F (a * b) ≤ F a + F b := by
  have h1 : a ≤ a * b := Nat.le_mul_of_pos_right a hb
  have h2 : b ≤ a * b := Nat.le_mul_of_pos_left b ha
  have q := List.all_eq_true.mp (List.all_eq_true.mp fl_all (a - 1) (List.mem_range.mpr (by omega))) (b - 1) (List.mem_range.mpr (by omega))
  have e1 : a - 1 + 1 = a := by omega
  have e2 : b - 1 + 1 = b := by omega
  rw [e1, e2] at q
  unfold flAt at q
  simp only [Bool.and_eq_true, Bool.or_eq_true, decide_eq_true_eq] at q
  rcases q.2 with z | z
  · omega
  · exact z

/-! The greatest number of so many ones. -/
def cG (m : Nat) : Nat := if m % 3 = 0 then 3 else if m % 3 = 1 then 4 else 2
def gr (m : Nat) : Nat := if m = 1 then 1 else cG m * 3 ^ ((m - cG m) / 3)
theorem gr1 : gr 1 = 1 := rfl
theorem gr_0 (q : Nat) : gr (3 * q + 3) = 3 * 3 ^ q := by
  have h1 : (3 * q + 3) % 3 = 0 := by omega
  have h2 : (3 * q + 3 - 3) / 3 = q := by omega
  unfold gr cG
  rw [if_neg (by omega), if_pos h1, h2]
theorem gr_1 (q : Nat) : gr (3 * q + 4) = 4 * 3 ^ q := by
  have h0 : ¬ (3 * q + 4) % 3 = 0 := by omega
  have h1 : (3 * q + 4) % 3 = 1 := by omega
  have h2 : (3 * q + 4 - 4) / 3 = q := by omega
  unfold gr cG
  rw [if_neg (by omega), if_neg h0, if_pos h1, h2]
theorem gr_2 (q : Nat) : gr (3 * q + 2) = 2 * 3 ^ q := by
  have h0 : ¬ (3 * q + 2) % 3 = 0 := by omega
  have h1 : ¬ (3 * q + 2) % 3 = 1 := by omega
  have h2 : (3 * q + 2 - 2) / 3 = q := by omega
  unfold gr cG
  rw [if_neg (by omega), if_neg h0, if_neg h1, h2]
theorem gr_cases {m : Nat} (h : 2 ≤ m) : ∃ q, m = 3 * q + 3 ∨ m = 3 * q + 4 ∨ m = 3 * q + 2 := by
  have : m % 3 = 0 ∨ m % 3 = 1 ∨ m % 3 = 2 := by omega
  rcases this with z | z | z
  · exact ⟨m / 3 - 1, .inl (by omega)⟩
  · exact ⟨m / 3 - 1, .inr (.inl (by omega))⟩
  · exact ⟨m / 3, .inr (.inr (by omega))⟩
theorem gr_add3 {m : Nat} (h : 2 ≤ m) : gr (m + 3) = 3 * gr m := by
  obtain ⟨q, rfl | rfl | rfl⟩ := gr_cases h
  · rw [show 3 * q + 3 + 3 = 3 * (q + 1) + 3 by omega, gr_0, gr_0, Nat.pow_succ]; omega
  · rw [show 3 * q + 4 + 3 = 3 * (q + 1) + 4 by omega, gr_1, gr_1, Nat.pow_succ]; omega
  · rw [show 3 * q + 2 + 3 = 3 * (q + 1) + 2 by omega, gr_2, gr_2, Nat.pow_succ]; omega
theorem pow3_pos (q : Nat) : 1 ≤ 3 ^ q := Nat.pow_pos (by decide)
theorem gr_lt {m : Nat} (h : 1 ≤ m) : gr m < gr (m + 1) := by
  by_cases h1 : m = 1
  · subst h1; decide
  obtain ⟨q, rfl | rfl | rfl⟩ := gr_cases (show 2 ≤ m by omega)
  · rw [gr_0, show 3 * q + 3 + 1 = 3 * q + 4 by omega, gr_1]; have := pow3_pos q; omega
  · rw [gr_1, show 3 * q + 4 + 1 = 3 * (q + 1) + 2 by omega, gr_2, Nat.pow_succ]; have := pow3_pos q; omega
  · rw [gr_2, show 3 * q + 2 + 1 = 3 * q + 3 by omega, gr_0]; have := pow3_pos q; omega
theorem gr_pos {m : Nat} (h : 1 ≤ m) : 1 ≤ gr m := by
  by_cases h1 : m = 1
  · subst h1; decide
  obtain ⟨q, rfl | rfl | rfl⟩ := gr_cases (show 2 ≤ m by omega)
  · rw [gr_0]; have := pow3_pos q; omega
  · rw [gr_1]; have := pow3_pos q; omega
  · rw [gr_2]; have := pow3_pos q; omega
theorem gr_ge2 {m : Nat} (h : 2 ≤ m) : 2 ≤ gr m := by
  obtain ⟨q, rfl | rfl | rfl⟩ := gr_cases h
  · rw [gr_0]; have := pow3_pos q; omega
  · rw [gr_1]; have := pow3_pos q; omega
  · rw [gr_2]; have := pow3_pos q; omega
theorem mul_swap (c d x y : Nat) : c * x * (d * y) = c * d * (x * y) := by
  rw [Nat.mul_assoc, Nat.mul_left_comm x, ← Nat.mul_assoc]
theorem gr_mul {a b : Nat} (ha : 1 ≤ a) (hb : 1 ≤ b) : gr a * gr b ≤ gr (a + b) := by
  by_cases a1 : a = 1
  · subst a1; rw [gr1, Nat.one_mul, Nat.add_comm]; exact Nat.le_of_lt (gr_lt hb)
  by_cases b1 : b = 1
  · subst b1; rw [gr1, Nat.mul_one]; exact Nat.le_of_lt (gr_lt ha)
  obtain ⟨p, hp⟩ := gr_cases (show 2 ≤ a by omega)
  obtain ⟨q, hq⟩ := gr_cases (show 2 ≤ b by omega)
  have hpq := pow3_pos (p + q)
  have e : 3 ^ p * 3 ^ q = 3 ^ (p + q) := (Nat.pow_add 3 p q).symm
  have f1 : 3 ^ (p + q + 1) = 3 ^ (p + q) * 3 := Nat.pow_succ ..
  have f2 : 3 ^ (p + q + 2) = 3 ^ (p + q) * 3 * 3 := by rw [Nat.pow_succ, Nat.pow_succ]
  rcases hp with rfl | rfl | rfl <;> rcases hq with rfl | rfl | rfl
  · rw [gr_0, gr_0, show 3 * p + 3 + (3 * q + 3) = 3 * (p + q + 1) + 3 by omega, gr_0, f1, mul_swap, e]; omega
  · rw [gr_0, gr_1, show 3 * p + 3 + (3 * q + 4) = 3 * (p + q + 1) + 4 by omega, gr_1, f1, mul_swap, e]; omega
  · rw [gr_0, gr_2, show 3 * p + 3 + (3 * q + 2) = 3 * (p + q + 1) + 2 by omega, gr_2, f1, mul_swap, e]; omega
  · rw [gr_1, gr_0, show 3 * p + 4 + (3 * q + 3) = 3 * (p + q + 1) + 4 by omega, gr_1, f1, mul_swap, e]; omega
  · rw [gr_1, gr_1, show 3 * p + 4 + (3 * q + 4) = 3 * (p + q + 2) + 2 by omega, gr_2, f2, mul_swap, e]; omega
  · rw [gr_1, gr_2, show 3 * p + 4 + (3 * q + 2) = 3 * (p + q + 1) + 3 by omega, gr_0, f1, mul_swap, e]; omega
  · rw [gr_2, gr_0, show 3 * p + 2 + (3 * q + 3) = 3 * (p + q + 1) + 2 by omega, gr_2, f1, mul_swap, e]; omega
  · rw [gr_2, gr_1, show 3 * p + 2 + (3 * q + 4) = 3 * (p + q + 1) + 3 by omega, gr_0, f1, mul_swap, e]; omega
  · rw [gr_2, gr_2, show 3 * p + 2 + (3 * q + 2) = 3 * (p + q) + 4 by omega, gr_1, mul_swap, e]; omega
theorem gr_add {a b : Nat} (ha : 1 ≤ a) (hb : 1 ≤ b) : gr a + gr b ≤ gr (a + b) := by
  by_cases a1 : a = 1
  · subst a1; rw [gr1, Nat.add_comm 1 b]; have := gr_lt hb; omega
  by_cases b1 : b = 1
  · subst b1; rw [gr1]; have := gr_lt ha; omega
  have h1 := gr_ge2 (show 2 ≤ a by omega)
  have h2 := gr_ge2 (show 2 ≤ b by omega)
  refine Nat.le_trans ?_ (gr_mul ha hb)
  generalize gr a = x at h1 ⊢
  generalize gr b = y at h2 ⊢
  obtain ⟨x', rfl⟩ : ∃ x', x = x' + 2 := ⟨x - 2, by omega⟩
  obtain ⟨y', rfl⟩ : ∃ y', y = y' + 2 := ⟨y - 2, by omega⟩
  rw [Nat.add_mul, Nat.mul_add]
  omega

/-! Writings: the text, its worth, its ones. -/
inductive Wr : List Nat → Int → Nat → Prop where
  | one : Wr [49] 1 1
  | plus {t u : List Nat} {m n : Int} {j k : Nat} (h : Wr t m j) (g : Wr u n k) : Wr (40 :: (t ++ 43 :: (u ++ [41]))) (m + n) (j + k)
  | times {t u : List Nat} {m n : Int} {j k : Nat} (h : Wr t m j) (g : Wr u n k) : Wr (40 :: (t ++ 42 :: (u ++ [41]))) (m * n) (j + k)
theorem Wr.reads {t : List Nat} {n : Int} {k : Nat} (h : Wr t n k) : Reads t n := by
  induction h with
  | one => exact .one
  | plus _ _ a b => exact a.plus b
  | times _ _ a b => exact a.times b
theorem Wr.count {t : List Nat} {n : Int} {k : Nat} (h : Wr t n k) : t.count 49 = k := by
  induction h with
  | one => rfl
  | plus _ _ a b => simp [List.count_cons, List.count_append, a, b]
  | times _ _ a b => simp [List.count_cons, List.count_append, a, b]
theorem Wr.len {t : List Nat} {n : Int} {k : Nat} (h : Wr t n k) : t.length + 3 = 4 * k := by
  induction h with
  | one => rfl
  | plus _ _ a b => simp only [List.length_cons, List.length_append, List.length_nil]; omega
  | times _ _ a b => simp only [List.length_cons, List.length_append, List.length_nil]; omega
theorem Wr.pos {t : List Nat} {n : Int} {k : Nat} (h : Wr t n k) : 1 ≤ n ∧ 1 ≤ k := by
  induction h with
  | one => exact ⟨by decide, by decide⟩
  | plus _ _ a b => exact ⟨by omega, by omega⟩
  | times _ _ a b => exact ⟨Int.le_trans a.1 (by have := Int.mul_le_mul_of_nonneg_left b.1 (show (0 : Int) ≤ _ from Int.le_trans (by decide) a.1); rwa [Int.mul_one] at this), by omega⟩
theorem Wr.le {t : List Nat} {n : Int} {k : Nat} (h : Wr t n k) : n ≤ (gr k : Int) := by
  induction h with
  | one => exact Int.le_refl _
  | plus h g a b => have := gr_add h.pos.2 g.pos.2; omega
  | @times t u m n j k h g a b =>
    have h1 := gr_mul h.pos.2 g.pos.2
    have h2 : m * n ≤ (gr j : Int) * (gr k : Int) := Int.mul_le_mul a b (by have := g.pos.1; omega) (by omega)
    have h3 : (gr j : Int) * (gr k : Int) ≤ (gr (j + k) : Int) := by exact_mod_cast h1
    omega
theorem Wr.worth {t : List Nat} {n : Int} {k : Nat} (h : Wr t n k) (hk : k ≤ 500) : worthL t = n := h.reads.worth (by have := h.len; omega)
end FO
set_option linter.all false
namespace FO
/-! Floors. -/
def fg (ns : List Int) (k : Nat) : Int := ns.getD (k - 1) 0
def Viol (ns : List Int) (a b : Nat) : Prop := (a + b ≤ ns.length ∧ fg ns (a + b) > fg ns a + fg ns b) ∨ (a * b ≤ ns.length ∧ fg ns (a * b) > fg ns a + fg ns b)
instance (ns : List Int) (a b : Nat) : Decidable (Viol ns a b) := by unfold Viol; infer_instance
def IsFloor (ns : List Int) : Prop := fg ns 1 ≤ 1 ∧ ∀ a b, 1 ≤ a → a ≤ ns.length → 1 ≤ b → b ≤ ns.length → ¬ Viol ns a b
theorem Viol.symm {ns : List Int} {a b : Nat} (h : Viol ns a b) : Viol ns b a := by
  unfold Viol at h ⊢
  rw [Nat.add_comm b a, Nat.mul_comm b a, Int.add_comm (fg ns b)]
  exact h
theorem floor_half {ns : List Int} (h1 : fg ns 1 ≤ 1) (h : ∀ a b, 1 ≤ a → a ≤ b → b ≤ ns.length → ¬ Viol ns a b) : IsFloor ns := by
  refine ⟨h1, fun a b a1 a2 b1 b2 v => ?_⟩
  by_cases c : a ≤ b
  · exact h a b a1 c b2 v
  · exact h b a b1 (by omega) a2 v.symm
def floorB (ns : List Int) : Bool := decide (fg ns 1 ≤ 1) && (List.range ns.length).all fun i => (List.range ns.length).all fun j => !decide (Viol ns (i + 1) (j + 1))
theorem floorB_iff (ns : List Int) : floorB ns = true ↔ IsFloor ns := by
  unfold floorB
  rw [Bool.and_eq_true, decide_eq_true_eq, List.all_eq_true]
  constructor
  · rintro ⟨h1, h⟩
    refine ⟨h1, fun a b a1 a2 b1 b2 => ?_⟩
    have q := List.all_eq_true.mp (h (a - 1) (List.mem_range.mpr (by omega))) (b - 1) (List.mem_range.mpr (by omega))
    rw [show a - 1 + 1 = a by omega, show b - 1 + 1 = b by omega] at q
    simpa using q
  · rintro ⟨h1, h⟩
    refine ⟨h1, fun i hi => List.all_eq_true.mpr fun j hj => ?_⟩
    have hi := List.mem_range.mp hi
    have hj := List.mem_range.mp hj
    have q := h (i + 1) (j + 1) (by omega) (by omega) (by omega) (by omega)
    simpa using q
instance (ns : List Int) : Decidable (IsFloor ns) := decidable_of_iff _ (floorB_iff ns)
/-- the told floor of n -/
def fl1 (n : Nat) : List Int := (List.range n).map fun j => ((F (j + 1) : Nat) : Int)
theorem fl1_len (n : Nat) : (fl1 n).length = n := by simp [fl1]
theorem fl1_fg {n k : Nat} (h1 : 1 ≤ k) (h : k ≤ n) : fg (fl1 n) k = ((F k : Nat) : Int) := by
  unfold fg fl1
  rw [List.getD_eq_getElem?_getD, List.getElem?_map, List.getElem?_range (by omega)]
  show ((F (k - 1 + 1) : Nat) : Int) = _
  rw [show k - 1 + 1 = k by omega]
theorem fl1_floor {n : Nat} (h1 : 1 ≤ n) (h : n ≤ 200) : IsFloor (fl1 n) := by
  refine ⟨by rw [fl1_fg (by omega) h1, F_one]; decide, fun a b a1 a2 b1 b2 v => ?_⟩
  rw [fl1_len] at a2 b2
  rcases v with ⟨c, d⟩ | ⟨c, d⟩
  · rw [fl1_len] at c
    rw [fl1_fg (by omega) c, fl1_fg a1 a2, fl1_fg b1 b2] at d
    have := F_add a1 b1 (show a + b ≤ 200 by omega)
    omega
  · rw [fl1_len] at c
    have p : 1 ≤ a * b := Nat.mul_pos a1 b1
    rw [fl1_fg p c, fl1_fg a1 a2, fl1_fg b1 b2] at d
    have := F_mul a1 b1 (show a * b ≤ 200 by omega)
    omega
/-- what an answer (a text's codes, a floor) shows of n -/
def Shows (t : List Nat) (ns : List Int) (n : Int) : Prop := worthL t = n ∧ (ns.length : Int) = n ∧ IsFloor ns ∧ fg ns ns.length = (t.count 49 : Nat)
instance (t : List Nat) (ns : List Int) (n : Int) : Decidable (Shows t ns n) := by unfold Shows; infer_instance
theorem told_shows {t : List Nat} {n : Nat} (h1 : 1 ≤ n) (h : n ≤ 200) (wr : Wr t (n : Nat) (F n)) : Shows t (fl1 n) (n : Nat) := by
  have f := F_le h
  refine ⟨wr.worth (by omega), by rw [fl1_len], fl1_floor h1 h, ?_⟩
  rw [fl1_len, fl1_fg h1 (Nat.le_refl _), wr.count]
end FO
set_option linter.all false
namespace FO
/-! The numbers to so much with just c ones at the fewest, rising. -/
def cls (most c : Nat) : List Int := ((List.range most).filter fun a => F (1 + a) == c).map fun a => ((1 + a : Nat) : Int)
theorem cls_mem {most c : Nat} {x : Int} : x ∈ cls most c ↔ ∃ n : Nat, x = (n : Int) ∧ 1 ≤ n ∧ n ≤ most ∧ F n = c := by
  unfold cls
  rw [List.mem_map]
  constructor
  · rintro ⟨a, ha, rfl⟩
    obtain ⟨h1, h2⟩ := List.mem_filter.mp ha
    have := List.mem_range.mp h1
    exact ⟨1 + a, rfl, by omega, by omega, by simpa using h2⟩
  · rintro ⟨n, rfl, h1, h2, h3⟩
    refine ⟨n - 1, List.mem_filter.mpr ⟨List.mem_range.mpr (by omega), ?_⟩, ?_⟩
    · rw [show 1 + (n - 1) = n by omega]
      simpa using h3
    · rw [show 1 + (n - 1) = n by omega]
theorem cls_lt (most c : Nat) : (cls most c).Pairwise (· < ·) := by
  unfold cls
  refine List.Pairwise.map (R := (· < ·)) _ (fun a b h => by omega) ?_
  exact List.Pairwise.filter _ List.pairwise_lt_range
theorem cls_le (most c : Nat) : (cls most c).Pairwise (· ≤ ·) := (cls_lt most c).imp fun h => by omega
theorem cls_nodup (most c : Nat) : (cls most c).Nodup := (cls_lt most c).imp fun h => by omega
theorem cls_len (most c : Nat) : (cls most c).length ≤ most := by
  unfold cls
  rw [List.length_map]
  exact Nat.le_trans (List.length_filter_le _ _) (by rw [List.length_range]; exact Nat.le_refl _)
/-- a list without repetition of just these numbers, sorted -/
theorem cls_of {most c : Nat} {xs ys : List Int} (hn : xs.Nodup) (hm : ∀ x, x ∈ xs ↔ x ∈ cls most c) (hp : ys.Perm xs) (hs : ys.Pairwise (· ≤ ·)) : ys = cls most c := by
  have p : ys.Perm (cls most c) := hp.trans ((List.perm_ext_iff_of_nodup hn (cls_nodup most c)).mpr hm)
  exact p.eq_of_pairwise (fun a b _ _ h1 h2 => by omega) hs (cls_le most c)
/-- what one turn of the law's loops comes to -/
theorem cls_step {most c : Nat} (hm : most ≤ 200) {a b t : Int} {o : Nat} (ho : o ≤ c) (ha : a ∈ cls most o) (hb : b ∈ cls most (c - o)) (ht : t = a + b ∨ t = a * b) (hl : t ≤ (most : Int)) : ∃ n : Nat, t = (n : Int) ∧ 1 ≤ n ∧ n ≤ most ∧ F n ≤ c := by
  obtain ⟨x, rfl, x1, x2, x3⟩ := cls_mem.mp ha
  obtain ⟨y, rfl, y1, y2, y3⟩ := cls_mem.mp hb
  rcases ht with rfl | rfl
  · refine ⟨x + y, by omega, by omega, by omega, ?_⟩
    have := F_add x1 y1 (show x + y ≤ 200 by omega)
    omega
  · have e : (x : Int) * (y : Int) = ((x * y : Nat) : Int) := by rw [Int.natCast_mul]
    rw [e] at hl ⊢
    refine ⟨x * y, rfl, Nat.mul_pos x1 y1, by omega, ?_⟩
    have := F_mul x1 y1 (show x * y ≤ 200 by omega)
    omega
theorem cls_split {most c n : Nat} (hm : most ≤ 200) (hc : 2 ≤ c) (h1 : 1 ≤ n) (h2 : n ≤ most) (h : F n = c) : ∃ (o : Nat) (a b : Int), 1 ≤ o ∧ o ≤ c / 2 ∧ a ∈ cls most o ∧ b ∈ cls most (c - o) ∧ ((n : Int) = a + b ∨ (n : Int) = a * b) := by
  have hn : 2 ≤ n := by
    have : n ≠ 1 := fun e => by rw [e, F_one] at h; omega
    omega
  have bo := best_ok hn (show n ≤ 200 by omega)
  have pa := F_pos bo.a1 (show (best n).2.2.1 ≤ 200 by have := bo.a2; omega)
  have pb := F_pos bo.b1 (show (best n).2.2.2 ≤ 200 by have := bo.b2; omega)
  have sm := bo.sum
  have a2 := bo.a2
  have b2 := bo.b2
  have ma : (((best n).2.2.1 : Nat) : Int) ∈ cls most (F (best n).2.2.1) := cls_mem.mpr ⟨_, rfl, bo.a1, by omega, rfl⟩
  have mb : (((best n).2.2.2 : Nat) : Int) ∈ cls most (F (best n).2.2.2) := cls_mem.mpr ⟨_, rfl, bo.b1, by omega, rfl⟩
  have how : (n : Int) = ((best n).2.2.1 : Nat) + ((best n).2.2.2 : Nat) ∨ (n : Int) = ((best n).2.2.1 : Nat) * ((best n).2.2.2 : Nat) := by
    rcases bo.how with ⟨_, e⟩ | ⟨_, e⟩
    · exact .inl (by omega)
    · exact .inr (by rw [← Int.natCast_mul, e])
  by_cases hle : F (best n).2.2.1 ≤ F (best n).2.2.2
  · refine ⟨F (best n).2.2.1, _, _, pa, by omega, ma, ?_, how⟩
    rw [show c - F (best n).2.2.1 = F (best n).2.2.2 by omega]
    exact mb
  · refine ⟨F (best n).2.2.2, _, (((best n).2.2.1 : Nat) : Int), pb, by omega, mb, ?_, ?_⟩
    · rw [show c - F (best n).2.2.2 = F (best n).2.2.1 by omega]
      exact ma
    · rcases how with e | e
      · exact .inl (by omega)
      · exact .inr (by rw [e, Int.mul_comm])
end FO
set_option Elab.async false
set_option linter.all false
set_option maxRecDepth 100000
set_option maxHeartbeats 2000000
namespace Fo
open PySem L2 FO
/-! ### what every law's proof uses -/
/-- the def x of the top stands -/
structure Dn (K : PySem.W.Frag) (mg : Str → Option Value) (x : Str) (st : Stmt) : Prop where
  ex : ∃ (f : Addr) (fd : FuncData), Fun K x x st f fd ∧ mg x = some (.ref f)
/-- the def x keeps its promise -/
structure Kp (P : Program) (w : World) (K : PySem.W.Frag) (mg : Str → Option Value) (base : Heap) (CX : CXT) (k : Nat) (x : Str) (sp : Sp) : Prop where
  ex : ∃ (f : Addr) (fd : FuncData) (ps : List Str), FnOk P w K mg base CX k f fd ps sp ∧ mg x = some (.ref f) ∧ PySem.W.keepIn K (.ref f) = true ∧ Binds K fd ps []
/-- the built-in names are the built-ins -/
structure Bi (mg : Str → Option Value) : Prop where
  isi : mg "isinstance" = none
  int : mg "int" = none
  bool : mg "bool" = none
  str : mg "str" = none
  list : mg "list" = none
  len : mg "len" = none
  all : mg "all" = none
  range : mg "range" = none
  enum : mg "enumerate" = none
  sum : mg "sum" = none
  max : mg "max" = none
  sorted : mg "sorted" = none
  abs : mg "abs" = none
  tuple : mg "tuple" = none
  any : mg "any" = none
section
variable {X : Cx} {k j : Nat} {x : Str} {sp : Sp} {p pos : Pos} {e : Expr} {es : List Expr} {t : TA}
/-- a call of a def that raises nothing -/
theorem pk (c : Kp X.prog X.w X.K X.mg X.base CX0 k x sp) (hr : Room j X.A) (hk : k ≤ j) (hg : Gl X x) (ha : PA X (e :: es) t)
    (hdb : (x == ("__debug__" : Str)) = false := by decide)
    (he : starEach (e :: es) X.env = (false, eval e X.env) :: starEach es X.env := by rfl)
    (hpl : (backTo pos (starEach es X.env)).any (·.1) = false := by rfl) :
    PE X (.Call (.Name x p) (e :: es) [] pos) (tCall sp [] E0 t) := by
  obtain ⟨f, fd, ps, F, hm, kp, b⟩ := c.ex
  exact pe_call F (hr.mono hk) hg hm kp b .nil pass0 ha hdb he hpl
/-- a call of a def that may raise, where nothing is let out -/
theorem pkL (c : Kp X.prog X.w X.K X.mg X.base (L2.CX X.prog X.w) k x sp) (hr : Room j X.A) (hk : k ≤ j) (hg : Gl X x) (ha : PA X (e :: es) t)
    (hdb : (x == ("__debug__" : Str)) = false := by decide)
    (he : starEach (e :: es) X.env = (false, eval e X.env) :: starEach es X.env := by rfl)
    (hpl : (backTo pos (starEach es X.env)).any (·.1) = false := by rfl) :
    PE X (.Call (.Name x p) (e :: es) [] pos) (tCall sp [] E0 t) := by
  obtain ⟨f, fd, ps, F, hm, kp, b⟩ := c.ex
  exact pe_call F (hr.mono hk) hg hm kp b .nil passL ha hdb he hpl
/-- .. where what is raised is wished for by W -/
theorem pkS {W : WX} (c : Kp X.prog X.w X.K X.mg X.base (L2.CX X.prog X.w) k x sp) (tk : Takes X W) (hr : Room j X.A) (hk : k ≤ j) (hg : Gl X x) (ha : PA X (e :: es) t)
    (hdb : (x == ("__debug__" : Str)) = false := by decide)
    (he : starEach (e :: es) X.env = (false, eval e X.env) :: starEach es X.env := by rfl)
    (hpl : (backTo pos (starEach es X.env)).any (·.1) = false := by rfl) :
    PE X (.Call (.Name x p) (e :: es) [] pos) (tCallS sp (WE W) t) := by
  obtain ⟨f, fd, ps, F, hm, kp, b⟩ := c.ex
  exact pe_callS F (hr.mono hk) hg hm kp b (fun σ => passAt tk σ) ha hdb he hpl
end
theorem ifT {b : Bool} {A C : Prop} (h : b = true) (x : A) : if b = true then A else C := by
  rw [if_pos h]
  exact x
theorem ifF {b : Bool} {A C : Prop} (h : b = false) (x : C) : if b = true then A else C := by
  rw [h]
  exact iteF x
theorem sm_put {H H' : Hp} {p : Addr} {o : HO} (s : Same H H') (h : H p = none) : Same H (upd H' p o) := fun b u e => by
  rw [upd_ne (ne_of_none e h)]
  exact s b u e
theorem sm_new {H H' : Hp} {p : Addr} {o : HO} (s : Same H H') (h : H' p = none) : Same H (upd H' p o) := sm_put s (s.free h)
theorem sm_upd {H : Hp} {p : Addr} {o : HO} (h : H p = none) : Same H (L2.upd H p o) := sm_put (Same.refl H) h
theorem sm_tup {K : PySem.W.Frag} {H H' : Hp} {a : Addr} {xs : List V} (e : Same H H') (h : SqT K H a xs) : SqT K H' a xs := by
  rcases h with (h | ⟨o, h⟩) | h
  · exact .inl (.inl (e _ _ h))
  · exact .inl (.inr ⟨o, e _ _ h⟩)
  · exact .inr h
theorem sm_at {H H' : Hp} {a : Addr} {o : HO} (e : Same H H') (h : H a = some o) : H' a = some o := e a o h
/-- a heap with a new object, by a letter -/
theorem ab {H : Hp} {q : Addr} (nq : H q = none) (o : HO) : ∃ H0, upd H q o = H0 ∧ Same H H0 ∧ H0 q = some o := ⟨_, rfl, sm_upd nq, upd_same⟩
/-- xs[-k] -/
theorem atI_neg {α : Type} {xs : List α} {k : Nat} {v : α} (h1 : 1 ≤ k) (h2 : k ≤ xs.length) (h : xs[xs.length - k]? = some v) {z : Int} (hz : z = -(k : Int)) : atI xs z = some v := by
  subst hz
  have e : ixN xs.length (-(k : Int)) = some (xs.length - k) := by
    unfold ixN
    rw [if_neg (by omega), if_pos (by omega)]
    congr 1
    omega
  unfold atI
  rw [e]
  exact h
/-- is it a whole number -/
def IsW (K : PySem.W.Frag) (H : Hp) (v : V) (b : Bool) : Prop := ∃ (t : Value) (b1 b2 : Bool), TyX K H v t ∧ PySem.W.kitOne K t (.type "int") = some b1 ∧ (b1 = true → PySem.W.kitOne K t (.type "bool") = some b2) ∧ b = (b1 && !b2)
theorem IsW.int {K : PySem.W.Frag} {H : Hp} (i : Int) : IsW K H (.int i) true := ⟨.type "int", true, false, .base (.int i), kit_ty (by decide +kernel), fun _ => kit_ty (by decide +kernel), rfl⟩
theorem IsW.str {K : PySem.W.Frag} {H : Hp} (z : Str) : IsW K H (.str z) false := ⟨.type "str", false, false, .base (.str z), kit_ty (by decide +kernel), fun _ => kit_ty (by decide +kernel), rfl⟩
theorem IsW.non {K : PySem.W.Frag} {H : Hp} : IsW K H .non false := ⟨.type "NoneType", false, false, .base .non, kit_ty (by decide +kernel), fun _ => kit_ty (by decide +kernel), rfl⟩
theorem IsW.bl {K : PySem.W.Frag} {H : Hp} (c : Bool) : IsW K H (.bl c) false := ⟨.type "bool", true, true, .base (.bl c), kit_ty (by decide +kernel), fun _ => kit_ty (by decide +kernel), rfl⟩
theorem IsW.lst {K : PySem.W.Frag} {H : Hp} {a : Addr} {xs : List V} (h : H a = some (.lst xs)) : IsW K H (.ref a) false := ⟨.type "list", false, false, .base (.lst h), kit_ty (by decide +kernel), fun _ => kit_ty (by decide +kernel), rfl⟩
theorem IsW.tup {K : PySem.W.Frag} {H : Hp} {a : Addr} {xs : List V} (h : H a = some (.tup xs)) : IsW K H (.ref a) false := ⟨.type "tuple", false, false, .base (.tup h), kit_ty (by decide +kernel), fun _ => kit_ty (by decide +kernel), rfl⟩
theorem IsW.dK {K : PySem.W.Frag} {H : Hp} {a : Addr} {xs : List (Key × V)} (h : H a = some (.dK xs)) : IsW K H (.ref a) false := ⟨.type "dict", false, false, .base (.dK h), kit_ty (by decide +kernel), fun _ => kit_ty (by decide +kernel), rfl⟩
/-- what stands on the stack, as a value -/
def itV : Itm → V
  | .inl n => .int n
  | .inr c => .str ⟨#[c]⟩
def stV (S : List Itm) : List V := S.reverse.map itV
theorem stV_cons (x : Itm) (S : List Itm) : stV (x :: S) = stV S ++ [itV x] := by simp [stV]
theorem stV_length (S : List Itm) : (stV S).length = S.length := by simp [stV]
theorem IsW.itm {K : PySem.W.Frag} {H : Hp} : ∀ x : Itm, IsW K H (itV x) (match x with | .inl _ => true | .inr _ => false)
  | .inl n => IsW.int n
  | .inr c => IsW.str _
end Fo
namespace Fo
open PySem
/-! the text by places -/
def top (i : Nat) : Stmt := PySem.Challenge.pw_fewones_k02_whole_least.main.body.getD i (.Pass ⟨0, 0, 0, 0⟩)
abbrev sWhole : Stmt := top 5
abbrev sDone : Stmt := top 6
abbrev sWorthOf : Stmt := top 7
abbrev sPut : Stmt := top 8
abbrev sIsFloor : Stmt := top 11
abbrev sInit : Stmt := L2.inClass (top 12) 0
abbrev sShows : Stmt := L2.inClass (top 12) 1
abbrev sCheckNumber : Stmt := top 15
abbrev sTable : Stmt := top 16
abbrev sTextBy : Stmt := top 17
abbrev sFewest : Stmt := top 18
abbrev sLeast : Stmt := top 19
abbrev sLawNumber : Stmt := top 21
abbrev nLawNumber : List Str := ["_law_cell", "_law_at", "_law_whole_here", "_law_mixed", "_law_more"]
abbrev pLawNumber : List Str := ["_law_cell", "_law_at", "_law_whole_here"]
abbrev sLawWhole : Stmt := top 22
abbrev nLawWhole : List Str := ["_law_found"]
abbrev pLawWhole : List Str := ["_law_found"]
abbrev sLawSays : Stmt := top 23
abbrev nLawSays : List Str := ["_law_said", "_law_due_here"]
abbrev pLawSays : List Str := ["_law_said", "_law_due_here"]
abbrev sLawRead : Stmt := top 24
abbrev nLawRead : List Str := ["_law_text", "_law_ends", "_law_at", "_law_found"]
abbrev pLawRead : List Str := ["_law_text"]
abbrev sLawClosed : Stmt := top 25
abbrev nLawClosed : List Str := ["_law_ends", "_law_some"]
abbrev pLawClosed : List Str := ["_law_ends"]
abbrev sLawSets : Stmt := top 26
abbrev nLawSets : List Str := ["_law_most", "_law_many", "_law_found", "_law_known", "_law_count", "_law_line", "_law_one", "_law_mine", "_law_theirs", "_law_there"]
abbrev pLawSets : List Str := ["_law_most", "_law_many"]
abbrev sLawFewest : Stmt := top 27
abbrev nLawFewest : List Str := ["_law_sets_here", "_law_number_here", "_law_count"]
abbrev pLawFewest : List Str := ["_law_sets_here", "_law_number_here"]
abbrev sLawIsFloor : Stmt := top 28
abbrev nLawIsFloor : List Str := ["_law_floor", "_law_one", "_law_other", "_law_there"]
abbrev pLawIsFloor : List Str := ["_law_floor"]
abbrev sLawDue : Stmt := top 29
abbrev nLawDue : List Str := ["_law_number_here", "_law_text", "_law_floor"]
abbrev pLawDue : List Str := ["_law_number_here", "_law_text", "_law_floor"]
abbrev sLawRight : Stmt := top 30
abbrev nLawRight : List Str := ["_law_number_here", "_law_due_here", "_law_other", "_law_found", "_law_again", "_law_told", "_law_one"]
abbrev pLawRight : List Str := ["_law_number_here", "_law_due_here", "_law_other"]
abbrev sLaw : Stmt := top 31
abbrev nLaw : List Str := ["_law_script", "_law_whole_here", "_law_most", "_law_sets_here", "_law_at", "_law_cell", "_law_number_here"]
abbrev pLaw : List Str := ["_law_script"]
end Fo
namespace Fo
open PySem L2 FO
section
variable {P : Program} {w : World} {K : PySem.W.Frag} {mg : Str → Option Value} {base : Heap}
/-! ### is_whole -/
def spWhole (K : PySem.W.Frag) : Sp := fun vs H Q _ => ∃ (v : V) (b : Bool), vs = [v] ∧ IsW K H v b ∧ Q (.bl b) H
theorem scWhole : FnScope ["thing"] ["thing"] (defScope sWhole) := ⟨rfl, rfl, rfl, by decide +kernel, rfl, by decide +kernel, by decide +kernel⟩
theorem ok_whole (D : Dn K mg "is_whole" sWhole) (B : Bi mg) : Kp P w K mg base CX0 1 "is_whole" (spWhole K) := by
  obtain ⟨f, fd, F, hm⟩ := D.ex
  refine ⟨f, fd, ["thing"], F.ok scWhole (fun vs H Q E h => ?_) (fun cdv A outer s H vs Q E hr h => ?_), hm, F.kp, F.binds fun _ _ _ _ _ _ us hl => match us, hl with | [_], _ => rfl⟩
  · obtain ⟨v, b, rfl, _⟩ := h
    rfl
  · obtain ⟨v, b, rfl, ⟨t, b1, b2, ty, k1, k2, rfl⟩, q⟩ := h
    refine ⟨_, pss_one (ps_ret (pe_and
      (pe_callB call_isi (by rfl) B.isi (by decide +kernel) (pa_cons (pv 0) (pa_cons (pe_bltn (v := .ty "int") (by rfl) B.int (by decide +kernel) rfl) pa_nil)))
      (pe_one (pe_not (pe_callB call_isi (by rfl) B.isi (by decide +kernel) (pa_cons (pv 0) (pa_cons (pe_bltn (v := .ty "bool") (by rfl) B.bool (by decide +kernel) rfl) pa_nil))))))), ?_⟩
    refine ⟨_, rfl, _, _, _, _, b1, rfl, .ty "int", ty, k1, b1, rfl, ?_⟩
    cases b1 with
    | false => exact iteF q
    | true =>
      refine iteT ⟨_, rfl, _, _, _, _, b2, rfl, .ty "bool", ty, k2 rfl, b2, rfl, ?_⟩
      exact q
end
end Fo
namespace Fo
open PySem L2 FO
section
variable {P : Program} {w : World} {K : PySem.W.Frag} {mg : Str → Option Value} {base : Heap}
/-! ### done -/
def spDone (K : PySem.W.Frag) : Sp := fun vs H Q _ => ∃ (a : Addr) (S : List Itm), vs = [.ref a] ∧ SqL K H a (stV S) ∧ S.length ≤ 2001 ∧ phi S ≤ 2001 ∧
  (doneS S = none → ∀ H', Same H H' → Q .non H') ∧ (∀ S', doneS S = some S' → ∀ H' q, Same H H' → H q = none → H' q = some (.lst (stV S')) → Q (.ref q) H')
theorem scDone : FnScope ["stack", "one", "other"] ["stack"] (defScope sDone) := ⟨rfl, rfl, rfl, by decide +kernel, rfl, by decide +kernel, by decide +kernel⟩
theorem stV4 (o s a p : Itm) (r : List Itm) : stV (o :: s :: a :: p :: r) = stV r ++ [itV p, itV a, itV s, itV o] := by
  simp [stV]
theorem scal_it (x : Itm) (z : Str) : scal (itV x) (.str z) = true := by cases x <;> rfl
theorem flat_it (x : Itm) : flatV (itV x) = true := by cases x <;> rfl
theorem it_is (x : Itm) (c : Nat) : decide (itV x = V.str ⟨#[c]⟩) = decide (x = Sum.inr c) := by
  cases x with
  | inl n =>
    rw [decide_eq_false (by intro z; cases z), decide_eq_false (by intro z; cases z)]
  | inr d =>
    by_cases h : d = c
    · subst h
      exact (decide_eq_true (p := itV (.inr d) = V.str ⟨#[d]⟩) rfl).trans (decide_eq_true rfl).symm
    · have h1 : ¬ itV (.inr d) = V.str ⟨#[c]⟩ := fun z => by
        have z' : (⟨#[d]⟩ : Str) = ⟨#[c]⟩ := V.str.inj z
        have z2 : #[d] = #[c] := congrArg Str.cps z'
        simp at z2
        exact h z2
      rw [decide_eq_false h1, decide_eq_false (fun z => h (Sum.inr.inj z))]
theorem in_pm (x : Itm) : inV (itV x) [V.str "+", V.str "*"] = (decide (x = Sum.inr 43) || decide (x = Sum.inr 42)) := by
  cases x with
  | inl n => simp [inV, eqV, itV]
  | inr d =>
    have h1 : (("+" : Str) == (⟨#[d]⟩ : Str)) = decide (d = 43) := by
      have e : ("+" : Str) = ⟨#[43]⟩ := by decide +kernel
      rw [e]
      by_cases h : d = 43
      · subst h; simp
      · simp [h, Ne.symm h]
    have h2 : (("*" : Str) == (⟨#[d]⟩ : Str)) = decide (d = 42) := by
      have e : ("*" : Str) = ⟨#[42]⟩ := by decide +kernel
      rw [e]
      by_cases h : d = 42
      · subst h; simp
      · simp [h, Ne.symm h]
    simp only [inV, List.any_cons, List.any_nil, Bool.or_false, itV, eqV]
    simp [h1, h2]
theorem done_short {S : List Itm} (h : S.length < 4) : doneS S = none := by
  unfold doneS
  split
  · simp only [List.length_cons] at h; omega
  · rfl
theorem ok_done (D : Dn K mg "done" sDone) (B : Bi mg) (W : Kp P w K mg base CX0 1 "is_whole" (spWhole K)) : Kp P w K mg base CX0 2 "done" (spDone K) := by
  obtain ⟨f, fd, F, hm⟩ := D.ex
  refine ⟨f, fd, ["stack"], F.ok scDone (fun vs H Q E h => ?_) (fun cdv A outer s H vs Q E hr h => ?_), hm, F.kp, F.binds fun _ _ _ _ _ _ us hl => match us, hl with | [_], _ => rfl⟩
  · obtain ⟨a, S, rfl, _⟩ := h
    rfl
  · obtain ⟨a, S, rfl, hS, hlen, hphi, kN, kS⟩ := h
    refine ⟨_, pss_cons (ps_if (PW.pt (pw_or (pt_cmpR op_lt (pe_callB call_len_seq (by rfl) B.len PySem.boot_len (pa_cons (pv 0) pa_nil)) pe_int (nomark _))
        (pw_or (pt_cmpR op_ne (pe_ix ix_list (pv 0) (pe_un un_neg pe_int) (fun _ _ => rfl)) pe_str (nomark _))
        (pw_or1 (pt_cmpR op_notIn_seq (pe_ix ix_list (pv 0) (pe_un un_neg pe_int) (fun _ _ => rfl)) (pe_tup (pa_cons pe_str (pa_cons pe_str pa_nil))) (by rfl))))))
          (pss_one (ps_ret pe_non)) pss_nil)
      (pss_cons (ps_par (i := 1) (j := 2) (by rfl) scDone.nd rfl rfl (by decide) rfl rfl (pa_cons (pe_ix ix_list (pv 0) (pe_un un_neg pe_int) (fun _ _ => rfl)) (pa_cons (pe_ix ix_list (pv 0) (pe_un un_neg pe_int) (fun _ _ => rfl)) pa_nil)) (by rfl))
      (pss_cons (ps_if (PW.pt (pw_or (pt_not (pt_val (pk W hr (by decide) rfl (pa_cons (pv 1) pa_nil)))) (pw_or1 (pt_not (pt_val (pk W hr (by decide) rfl (pa_cons (pv 2) pa_nil)))))))
          (pss_one (ps_ret pe_non)) pss_nil)
      (pss_one (ps_ret (pe_op op_cat (pe_slice sl_list (pv 0) po_none (po_some (pe_un un_neg pe_int)))
        (pe_lst (pa_cons (pe_ifExp (pt_cmpR op_eq (pe_ix ix_list (pv 0) (pe_un un_neg pe_int) (fun _ _ => rfl)) pe_str (nomark _)) (pe_op op_add (pv 1) (pv 2)) (pe_op op_mulX (pv 1) (pv 2))) pa_nil))))))), ?_⟩
    refine ⟨_, rfl, a, _, rfl, .inl hS, _, _, rfl, rfl, _, rfl, ?_⟩
    by_cases hl : S.length < 4
    · exact ifT (decide_eq_true (by rw [stV_length]; omega)) (iteT (kN (done_short hl) H (Same.refl H)))
    obtain ⟨o, u, x, p, r, rfl⟩ : ∃ o u x p r, S = o :: u :: x :: p :: r := by
      match S, hl with
      | o :: u :: x :: p :: r, _ => exact ⟨o, u, x, p, r, rfl⟩
      | [], h => exact absurd (by decide) h
      | [_], h => exact absurd (by simp) h
      | [_, _], h => exact absurd (by simp) h
      | [_, _, _], h => exact absurd (by simp) h
    rw [stV4] at hS
    refine ifF (decide_eq_false (by rw [stV_length]; omega)) ?_
    have L : (stV r ++ [itV p, itV x, itV u, itV o]).length = r.length + 4 := by rw [List.length_append, stV_length]; rfl
    have g4 : atI (stV r ++ [itV p, itV x, itV u, itV o]) (-4) = some (itV p) := atI_neg (k := 4) (by decide) (by omega) (by rw [L, List.getElem?_append_right (by rw [stV_length]; omega), stV_length]; simp) rfl
    have g3 : atI (stV r ++ [itV p, itV x, itV u, itV o]) (-3) = some (itV x) := atI_neg (k := 3) (by decide) (by omega) (by rw [L, List.getElem?_append_right (by rw [stV_length]; omega), stV_length, show r.length + 4 - 3 - r.length = 1 by omega]; rfl) rfl
    have g2 : atI (stV r ++ [itV p, itV x, itV u, itV o]) (-2) = some (itV u) := atI_neg (k := 2) (by decide) (by omega) (by rw [L, List.getElem?_append_right (by rw [stV_length]; omega), stV_length, show r.length + 4 - 2 - r.length = 2 by omega]; rfl) rfl
    have g1 : atI (stV r ++ [itV p, itV x, itV u, itV o]) (-1) = some (itV o) := atI_neg (k := 1) (by decide) (by omega) (by rw [L, List.getElem?_append_right (by rw [stV_length]; omega), stV_length, show r.length + 4 - 1 - r.length = 3 by omega]; rfl) rfl
    have ePar : ("(" : Str) = ⟨#[40]⟩ := by decide +kernel
    have ePlus : ("+" : Str) = ⟨#[43]⟩ := by decide +kernel
    -- stack[-4] != "("
    refine ⟨_, rfl, _, rfl, a, _, _, _, rfl, rfl, hS, g4, scal_it _ _, _, rfl, ?_⟩
    by_cases hp : ¬ p = Sum.inr 40
    · refine ifT ?_ (iteT (kN ?_ H (Same.refl H)))
      · rw [ePar, it_is, decide_eq_false hp]; rfl
      · unfold doneS
        split
        · rename_i b s a o' r' e
          injection e with e1 e; injection e with e2 e; injection e with e3 e; injection e with e4 e
          rw [if_neg (fun z => hp (by rw [e4, z]))]
        · rfl
    have hp := Classical.not_not.mp hp
    refine ifF (by rw [ePar, it_is, decide_eq_true hp]; rfl) ?_
    -- stack[-2] not in ("+", "*")
    refine ⟨_, rfl, _, rfl, a, _, _, _, rfl, rfl, hS, g2, by decide, fun T hT => ?_⟩
    refine ⟨T, _, rfl, .inr (SqT.of upd_same), flat_it _, rfl, _, rfl, ?_⟩
    have sT : Same H (upd H T (.tup [V.str "+", V.str "*"])) := sm_upd hT
    have hS1 := sT.seq hS
    by_cases hu : ¬ (u = Sum.inr 43 ∨ u = Sum.inr 42)
    · refine ifT ?_ (kN ?_ _ sT)
      · show (!inV (itV u) _) = true
        rw [in_pm, decide_eq_false (fun z => hu (.inl z)), decide_eq_false (fun z => hu (.inr z))]; rfl
      · unfold doneS
        split
        · rename_i b s a o' r' e
          injection e with e1 e; injection e with e2 e; injection e with e3 e; injection e with e4 e
          rw [if_neg (show ¬ s = 43 from fun z => hu (.inl (by rw [e2, z]))), if_neg (show ¬ s = 42 from fun z => hu (.inr (by rw [e2, z])))]
          split <;> rfl
        · rfl
    have hu := Classical.not_not.mp hu
    refine ifF ?_ ?_
    · show (!inV (itV u) _) = false
      rw [in_pm]
      rcases hu with z | z
      · rw [decide_eq_true z]; rfl
      · rw [decide_eq_true z, Bool.or_true]; rfl
    -- one, other = stack[-3], stack[-1]
    refine ⟨_, rfl, _, rfl, a, _, _, _, rfl, rfl, hS1, g3, _, rfl, _, rfl, a, _, _, _, rfl, rfl, hS1, g1, _, _, rfl, ?_⟩
    refine ⟨_, rfl, _, _, rfl, IsW.itm x, _, rfl, ?_⟩
    cases x with
    | inr c => exact iteT (iteT (kN (by unfold doneS; split <;> first | rfl | (rename_i e; injection e with e1 e; injection e with e2 e; injection e with e3 e; cases e3)) _ sT))
    | inl m =>
    refine iteF ⟨_, rfl, _, _, rfl, IsW.itm o, _, rfl, ?_⟩
    cases o with
    | inr c => exact iteT (kN (by unfold doneS; split <;> first | rfl | (rename_i e; injection e with e1 e; cases e1)) _ sT)
    | inl n =>
    refine iteF ?_
    -- stack[:-4] + [..]
    refine ⟨_, rfl, _, rfl, _, rfl, a, _, rfl, hS1, fun R hR => ?_⟩
    have sR := sm_new (o := .lst (cutV (stV r ++ [itV p, itV (.inl m), itV u, itV (.inl n)]) none (some (-4)))) sT hR
    have cut : cutV (stV r ++ [itV p, itV (.inl m), itV u, itV (.inl n)]) none (some (-4)) = stV r := by
      unfold cutV
      rw [L]
      show ((stV r ++ [itV p, itV (.inl m), itV u, itV (.inl n)]).drop 0).take ((-4 + ((r.length + 4 : Nat) : Int)).toNat - 0) = stV r
      rw [List.drop_zero, show (-4 + ((r.length + 4 : Nat) : Int)).toNat - 0 = (stV r).length by rw [stV_length]; omega, List.take_left]
    rw [cut] at sR ⊢
    have hS2 := sR.seq hS
    refine ⟨_, rfl, _, rfl, a, _, _, _, rfl, rfl, hS2, g2, scal_it _ _, _, rfl, ?_⟩
    have fin : ∀ z : Int, doneS (.inl n :: u :: .inl m :: p :: r) = some (.inl z :: r) → ∀ D, upd (upd H T (.tup [V.str "+", V.str "*"])) R (.lst (stV r)) D = none →
        rCat (V.ref R) (.ref D) (upd (upd (upd H T (.tup [V.str "+", V.str "*"])) R (.lst (stV r))) D (.lst [V.int z])) Q := fun z hz D hD => by
      have sD := sm_new (o := .lst [V.int z]) sR hD
      refine ⟨R, D, _, _, rfl, rfl, (by rw [upd_ne (ne_of_none upd_same hD), upd_same]), upd_same, ?_, fun q hq => ?_⟩
      · rw [stV_length]
        simp only [List.length_cons] at hlen
        have e : sizeLine = 16777216 := PySem.sizeLine_eq
        rw [e]
        show r.length + 1 ≤ _
        omega
      · exact kS _ hz _ q (sm_new sD hq) (sD.free hq) (by rw [upd_same, stV_cons]; rfl)
    by_cases h43 : u = Sum.inr 43
    · refine ifT (by rw [ePlus, it_is, decide_eq_true h43]) ?_
      refine ⟨_, rfl, _, rfl, m, n, rfl, rfl, (show 1 ≤ sizeLine by decide), fun D hD => fin _ ?_ D hD⟩
      rw [hp, h43]
      rfl
    · have h42 : u = Sum.inr 42 := hu.resolve_left h43
      refine ifF (by rw [ePlus, it_is, decide_eq_false h43]) ?_
      refine ⟨_, rfl, _, rfl, m, n, rfl, rfl, ?_, (show 1 ≤ sizeLine by decide), fun D hD => fin _ ?_ D hD⟩
      · rw [h42] at hphi
        simp only [phi] at hphi
        have b : ∀ x : Int, PySem.Builtin.Int.intBits x ≤ x.natAbs.log2 + 1 := fun x => by
          unfold PySem.Builtin.Int.intBits
          split <;> omega
        have b1 := b m
        have b2 := b n
        unfold CMulX
        omega
      · rw [hp, h42]
        rfl
end
end Fo
namespace Fo
open PySem L2 FO
section
variable {P : Program} {w : World} {K : PySem.W.Frag} {mg : Str → Option Value} {base : Heap}
/-! ### worth_of -/
/-- the codes of a text -/
abbrev tl (z : Str) : List Nat := z.cps.toList
def NoStr (K : PySem.W.Frag) (H : Hp) (v : V) : Prop := ∃ t, TyX K H v t ∧ PySem.W.kitOne K t (.type "str") = some false
def spWorthOf (K : PySem.W.Frag) : Sp := fun vs H Q _ => ∃ v, vs = [v] ∧ ((∃ z, v = .str z ∧ z.length ≤ sizeLine ∧ ∀ H', Same H H' → Q (.int (worthL (tl z))) H') ∨ (NoStr K H v ∧ ∀ H', Same H H' → Q (.int 0) H'))
theorem scWorthOf : FnScope ["text", "stack", "sign"] ["text"] (defScope sWorthOf) := ⟨rfl, rfl, rfl, by decide +kernel, rfl, by decide +kernel, by decide +kernel⟩
theorem take_snoc {α : Type} {l : List α} {i : Nat} {x : α} (h : l[i]? = some x) : l.take (i + 1) = l.take i ++ [x] := by
  rw [List.take_add_one, h]
  rfl
theorem str1 (c d : Nat) : decide (V.str ⟨#[c]⟩ = V.str ⟨#[d]⟩) = decide (c = d) := it_is (.inr c) d |>.trans (by
  by_cases h : c = d
  · rw [decide_eq_true h, decide_eq_true (by rw [h])]
  · rw [decide_eq_false h, decide_eq_false (fun z => h (Sum.inr.inj z))])
theorem run_fail {t : List Nat} {i c : Nat} {S : List Itm} (hc : t[i]? = some c) (h : runS [] (t.take i) = some S) (hs : stepS S c = none) : runS [] t = none := by
  have e : t = t.take (i + 1) ++ t.drop (i + 1) := (List.take_append_drop _ _).symm
  rw [e, take_snoc hc, runS_append, run_snoc h, hs]
theorem ok_worthOf (D : Dn K mg "worth_of" sWorthOf) (B : Bi mg) (lon : ∃ u, mg "LONGEST" = some u ∧ RelV (.int 2000) u) (W : Kp P w K mg base CX0 1 "is_whole" (spWhole K)) (Dk : Kp P w K mg base CX0 2 "done" (spDone K)) : Kp P w K mg base CX0 3 "worth_of" (spWorthOf K) := by
  obtain ⟨f, fd, F, hm⟩ := D.ex
  refine ⟨f, fd, ["text"], F.ok scWorthOf (fun vs H Q E h => ?_) (fun cdv A outer s H vs Q E hr h => ?_), hm, F.kp, F.binds fun _ _ _ _ _ _ us hl => match us, hl with | [_], _ => rfl⟩
  · obtain ⟨v, rfl, _⟩ := h
    rfl
  · obtain ⟨v, rfl, h⟩ := h
    refine ⟨_, pss_cons (ps_if (PW.pt (pw_or (pt_not (pt_val (pe_callB call_isi (by rfl) B.isi (by decide +kernel) (pa_cons (pv 0) (pa_cons (pe_bltn (v := .ty "str") (by rfl) B.str (by decide +kernel) rfl) pa_nil)))))
        (pw_or1 (pt_cmpR op_gt (pe_callB call_len_str (by rfl) B.len PySem.boot_len (pa_cons (pv 0) pa_nil)) (C8.pe_gc rfl lon) (nomark _)))))
          (pss_one (ps_ret pe_int)) pss_nil)
      (pss_cons (ps_set (i := 1) scWorthOf.nd rfl (Or.inl rfl) (pe_lst pa_nil))
      (pss_cons (ps_for PassesOwn.never rfl (pi_str (pv 0)) (pg_name (i := 2) scWorthOf.nd rfl (Or.inl rfl))
        (pss_one (ps_if (pt_cmpR op_eq (pv 2) pe_str (nomark _))
          (pss_one (ps_expr (pe_bm PySem.F.plainAttrs_list PySem.F.slot_list_append PySem.F.type_list_append mt_append (pv 1) (pa_cons pe_int pa_nil))))
          (pss_one (ps_if (pt_cmpR op_eq (pv 2) pe_str (nomark _))
            (pss_cons (ps_set (i := 1) scWorthOf.nd rfl (Or.inl rfl) (pk Dk hr (by decide) rfl (pa_cons (pv 1) pa_nil)))
              (pss_one (ps_if (pt_cmpR op_isN (pv 1) pe_non (nomark _)) (pss_one (ps_ret pe_int)) pss_nil)))
            (pss_one (ps_if (pt_cmpR op_in_sign (pv 2) pe_str rfl)
              (pss_one (ps_expr (pe_bm PySem.F.plainAttrs_list PySem.F.slot_list_append PySem.F.type_list_append mt_append (pv 1) (pa_cons (pv 2) pa_nil))))
              (pss_one (ps_ret pe_int)))))))))
      (pss_one (ps_ret (pe_ifExp (PW.pt (pw_and (pt_cmpR op_eq (pe_callB call_len_seq (by rfl) B.len PySem.boot_len (pa_cons (pv 1) pa_nil)) pe_int (nomark _))
          (pw_and1 (pt_val (pk W hr (by decide) rfl (pa_cons (pe_ix ix_list (pv 1) pe_int (fun _ _ => rfl)) pa_nil))))))
        (pe_ix ix_list (pv 1) pe_int (fun _ _ => rfl)) pe_int))))), ?_⟩
    rcases h with ⟨z, rfl, hz, k⟩ | ⟨⟨t, ty, kt⟩, k⟩
    · refine ⟨_, rfl, _, _, _, _, true, rfl, .ty "str", .base (.str z), kit_ty (by decide +kernel), true, rfl, iteF ?_⟩
      refine ⟨_, rfl, z, rfl, hz, _, _, rfl, rfl, _, rfl, ?_⟩
      have hlz : z.length = (tl z).length := by simp [tl, Str.length]
      by_cases hl : ¬ (tl z).length ≤ 2000
      · refine ifT (decide_eq_true (by rw [hlz]; omega)) ?_
        have q := k H (Same.refl H)
        unfold worthL at q
        rw [if_neg hl] at q
        exact q
      have hl := Classical.not_not.mp hl
      refine ifF (decide_eq_false (by rw [hlz]; omega)) ?_
      refine ⟨Nat.zero_le _, fun q0 hq0 => ?_⟩
      have kk : ∀ H', Same H H' → Q (.int (readL (tl z))) H' := fun H' s => by
        have q := k H' s
        unfold worthL at q
        rw [if_pos hl] at q
        exact q
      have bad : runS [] (tl z) = none → ∀ H', Same H H' → Q (.int 0) H' := fun e H' s => by
        have q := kk H' s
        unfold readL at q
        rw [e] at q
        exact q
      refine ⟨_, rfl, z, rfl, for_it walk_str (fun i σ H' => ∃ (S : List Itm) (q : Addr) (v : Option V), σ = [some (.str z), some (.ref q), v] ∧ runS [] ((tl z).take i) = some S ∧ H' q = some (.lst (stV S)) ∧ H q = none ∧ Same H H')
        ⟨[], q0, none, rfl, rfl, upd_same, hq0, sm_upd hq0⟩ (fun _ _ _ _ _ => trivial) ?_ ?_⟩
      · rintro i x σ H1 H2 hi ⟨S, q, v, rfl, hrun, hq, hn, hs⟩ ⟨rfl, c, hc, rfl⟩
        have hcl : (tl z)[i]? = some c := by rw [Array.getElem?_toList]; exact hc
        have hit : i < (tl z).length := (List.getElem?_eq_some_iff.mp hcl).1
        have hlS : S.length ≤ 2000 := by
          have a := len_run _ _ _ hrun
          rw [List.length_take] at a
          simp only [List.length_nil] at a
          omega
        have hpS : phi S ≤ 2000 := by
          have a := phi_run _ _ _ hrun
          rw [List.length_take] at a
          simp only [phi] at a
          omega
        have e1 : ("1" : Str) = ⟨#[49]⟩ := by decide +kernel
        have e2 : (")" : Str) = ⟨#[41]⟩ := by decide +kernel
        have next : ∀ S', stepS S c = some S' → runS [] ((tl z).take (i + 1)) = some S' := fun S' e => by
          rw [take_snoc hcl, run_snoc hrun, e]
        refine ⟨_, rfl, rfl, _, rfl, ?_⟩
        by_cases h1 : c = 49
        · refine ifT (by rw [e1, str1, decide_eq_true h1]) ?_
          refine ⟨_, rfl, .inl ⟨rfl, _, SqL.of hq⟩, q, _, _, rfl, rfl, hq, ?_, ?_⟩
          · rw [stV_length, PySem.sizeLine_eq]; omega
          · exact ⟨.inl 1 :: S, q, _, rfl, next _ (by unfold stepS; rw [if_pos h1]), by rw [upd_same, stV_cons]; rfl, hn, sm_put hs hn⟩
        refine ifF (by rw [e1, str1, decide_eq_false h1]) ?_
        refine ⟨_, rfl, rfl, _, rfl, ?_⟩
        by_cases h2 : c = 41
        · refine ifT (by rw [e2, str1, decide_eq_true h2]) ?_
          have hst : stepS S c = doneS S := by unfold stepS; rw [if_neg h1, if_pos h2]
          refine ⟨_, rfl, q, S, rfl, SqL.of hq, by omega, by omega, fun hd H' s' => ?_, fun S' hd H' q' s' n' hq' => ?_⟩
          · refine ⟨_, rfl, rfl, _, rfl, iteT ?_⟩
            exact bad (run_fail hcl hrun (hst.trans hd)) H' (hs.trans s')
          · refine ⟨_, rfl, rfl, _, rfl, iteF ?_⟩
            exact ⟨S', q', _, rfl, next _ (hst.trans hd), hq', hs.free n', hs.trans s'⟩
        refine ifF (by rw [e2, str1, decide_eq_false h2]) ?_
        refine ⟨_, rfl, c, _, rfl, rfl, _, rfl, ?_⟩
        have e3 : (("(+*" : Str)).cps.toList = [40, 43, 42] := by decide +kernel
        by_cases h3 : c = 40 ∨ c = 43 ∨ c = 42
        · refine ifT (decide_eq_true (by rw [e3]; simpa using h3)) ?_
          refine ⟨_, rfl, .inl ⟨rfl, _, SqL.of hq⟩, _, rfl, q, _, _, rfl, rfl, hq, ?_, ?_⟩
          · rw [stV_length, PySem.sizeLine_eq]; omega
          · exact ⟨.inr c :: S, q, _, rfl, next _ (by unfold stepS; rw [if_neg h1, if_neg h2, if_pos h3]), by rw [upd_same, stV_cons]; rfl, hn, sm_put hs hn⟩
        · refine ifF (decide_eq_false (by rw [e3]; simpa using h3)) ?_
          exact bad (run_fail hcl hrun (by unfold stepS; rw [if_neg h1, if_neg h2, if_neg h3])) _ hs
      · rintro σ H1 ⟨S, q, v, rfl, hrun, hq, hn, hs⟩
        have htk : (tl z).take z.cps.size = tl z := List.take_of_length_le (by simp [tl])
        rw [htk] at hrun
        refine ⟨_, rfl, q, _, rfl, .inl (SqL.of hq), rfl, _, rfl, ?_⟩
        have val : ∀ H', Same H H' → Q (.int (endS (some S))) H' := fun H' s => by
          have q := kk H' s
          unfold readL at q
          rw [hrun] at q
          exact q
        by_cases h1 : S.length = 1
        · obtain ⟨x, rfl⟩ : ∃ x, S = [x] := List.length_eq_one_iff.mp h1
          refine ifT (decide_eq_true (by rfl)) ?_
          have hat : atI (stV [x]) 0 = some (itV x) := atI_nat (j := 0) rfl
          refine ⟨_, rfl, q, _, _, _, rfl, rfl, SqL.of hq, hat, _, _, rfl, IsW.itm x, _, rfl, ?_⟩
          cases x with
          | inl n => exact iteT ⟨_, rfl, q, _, _, _, rfl, rfl, SqL.of hq, hat, val _ hs⟩
          | inr n => exact iteF (val _ hs)
        · refine ifF (decide_eq_false ?_) ?_
          · rw [stV_length]
            intro z
            have z' := V.int.inj z
            omega
          · have e0 : endS (some S) = 0 := by
              unfold endS
              split
              · rename_i n e
                cases e
                exact absurd rfl h1
              · rfl
            rw [e0] at val
            exact val _ hs
    · refine ⟨_, rfl, _, _, _, _, false, rfl, .ty "str", ty, kt, false, rfl, iteT ?_⟩
      exact iteT (k H (Same.refl H))
end
end Fo
namespace Fo
open PySem L2 FO
/-! ### how often a sign stands in a text -/
theorem occ_count (x : Str) (c : Nat) : ∀ (k i : Nat) (st : Array Nat × Nat), i + k = x.length + 1 → st.1.size ≤ i → st.2 ≤ i →
    (forIn (List.range' i k) st (StrLaws.occBody x ⟨#[c]⟩ x.length (x.length + 1))).run.fst.size = st.1.size + ((tl x).drop i).count c
  | 0, i, st, h, h1, h2 => by
    have e : (tl x).drop i = [] := List.drop_eq_nil_of_le (by show x.cps.toList.length ≤ i; rw [Array.length_toList]; show x.length ≤ i; omega)
    rw [e]
    rfl
  | k + 1, i, st, h, h1, h2 => by
    rw [List.range'_succ, List.forIn_cons]
    have sub := StrLaws.subAt_one x c i
    by_cases hc : (tl x)[i]? = some c
    · have q := sub.mpr hc
      have hb : StrLaws.occBody x ⟨#[c]⟩ x.length (x.length + 1) i st = pure (ForInStep.yield (st.1.push i, i + 1)) := by
        unfold StrLaws.occBody
        rw [if_pos ⟨⟨⟨by omega, h2⟩, q.1⟩, q.2⟩]
        rfl
      rw [hb]
      have ih := occ_count x c k (i + 1) (st.1.push i, i + 1) (by omega) (by rw [Array.size_push]; omega) (Nat.le_refl _)
      have hd : (tl x).drop i = c :: (tl x).drop (i + 1) := by
        obtain ⟨hlt, e⟩ := List.getElem?_eq_some_iff.mp hc
        rw [List.drop_eq_getElem_cons hlt, e]
      rw [hd, List.count_cons_self]
      refine Eq.trans ih ?_
      rw [Array.size_push]
      omega
    · have hb : StrLaws.occBody x ⟨#[c]⟩ x.length (x.length + 1) i st = pure (ForInStep.yield (st.1, st.2)) := by
        unfold StrLaws.occBody
        rw [if_neg (fun q => hc (sub.mp ⟨q.1.2, q.2⟩))]
      rw [hb]
      have ih := occ_count x c k (i + 1) (st.1, st.2) (by omega) (by show st.1.size ≤ _; omega) (by show st.2 ≤ _; omega)
      refine Eq.trans ih ?_
      by_cases hlt : i < (tl x).length
      · rw [List.drop_eq_getElem_cons hlt, List.count_cons_of_ne]
        intro z
        exact hc (by rw [List.getElem?_eq_getElem hlt, z])
      · have e : (tl x).drop i = [] := List.drop_eq_nil_of_le (by omega)
        have e' : (tl x).drop (i + 1) = [] := List.drop_eq_nil_of_le (by omega)
        rw [e, e']
theorem count_is (x : Str) (c : Nat) : Txt.count x ⟨#[c]⟩ = (((tl x).count c : Nat) : Int) := by
  unfold Txt.count
  rw [StrLaws.occ_eq, Array.length_toList, Nat.sub_zero, occ_count x c (x.length + 1) 0 (#[], 0) (by omega) (Nat.le_refl _) (Nat.le_refl _)]
  simp
theorem count_one (x : Str) : Txt.count x "1" = (((tl x).count 49 : Nat) : Int) := by
  have e : ("1" : Str) = ⟨#[49]⟩ := by decide +kernel
  rw [e]
  exact count_is x 49
/-! ### errors -/
/-- the error class x of the program stands at C -/
structure ErC (K : PySem.W.Frag) (mg : Str → Option Value) (x : Str) (C : Addr) : Prop where
  g : mg x = some (.ref C)
  x : PySem.W.excIn K C [.type "ValueError", .type "Exception", .type "BaseException", .type "object"] "ValueError.__new__" = true
  k : PySem.W.keepIn K (.ref C) = true
  b : PySem.W.subIn K (.ref C) (.type "BaseException") = some true
  t : PySem.W.typeIn K (.ref C) = some (.type "type")
section
variable {P : Program} {w : World} {K : PySem.W.Frag} {mg : Str → Option Value} {base : Heap} {CT : Addr}
/-! ### check_text, worth, ones -/
/-- a text is asked: behind it what is wanted of a writing (with its worth), and what of all else -/
def AskT (K : PySem.W.Frag) (v : V) (H : Hp) (good : Str → Prop) (bad : Prop) : Prop :=
  (∃ z, v = .str z ∧ z.length ≤ sizeLine ∧ (worthL (tl z) = 0 → bad) ∧ (worthL (tl z) ≠ 0 → good z)) ∨ (NoStr K H v ∧ bad)
def spCheckText (K : PySem.W.Frag) (C : Addr) : Sp := fun vs H Q E => ∃ v, vs = [v] ∧ AskT K v H (fun _ => ∀ H', Same H H' → Q .non H') (∀ H', Same H H' → E (.ref C) none H')
def spWorth (K : PySem.W.Frag) (C : Addr) : Sp := fun vs H Q E => ∃ v, vs = [v] ∧ AskT K v H (fun z => ∀ H', Same H H' → Q (.int (worthL (tl z))) H') (∀ H', Same H H' → E (.ref C) none H')
def spOnes (K : PySem.W.Frag) (C : Addr) : Sp := fun vs H Q E => ∃ v, vs = [v] ∧ AskT K v H (fun z => ∀ H', Same H H' → Q (.int (((tl z).count 49 : Nat) : Int)) H') (∀ H', Same H H' → E (.ref C) none H')
end
end Fo
namespace Fo
open PySem L2 FO PySem.Spec PyProof.Rows
/-! ### calls of a name that holds a def; errors that are caught -/
/-- the i-th slot holds a def f with the promise sp; what is raised is wished for by W -/
def tCallVS (i : Nat) (S : Addr → Sp → Prop) (W : WX) (t : TA) : TE := fun σ H Q => ∃ f sp, σ[i]? = some (some (.ref f)) ∧ S f sp ∧ t σ H fun vs H1 => sp vs H1 Q (WE W σ)
/-- the def at f keeps sp -/
structure Ka (P : Program) (w : World) (K : PySem.W.Frag) (mg : Str → Option Value) (base : Heap) (CX : CXT) (k : Nat) (f : Addr) (sp : Sp) : Prop where
  ex : ∃ (fd : FuncData) (ps : List Str), FnOk P w K mg base CX k f fd ps sp ∧ PySem.W.keepIn K (.ref f) = true ∧ Binds K fd ps []
section
variable {X : Cx} {k j i : Nat} {x : Str} {p pos : Pos} {e : Expr} {es : List Expr} {t : TA}
theorem pkV {W : WX} {S : Addr → Sp → Prop} (A : ∀ f sp, S f sp → Ka X.prog X.w X.K X.mg X.base (L2.CX X.prog X.w) k f sp) (tk : Takes X W) (hr : Room j X.A) (hk : k ≤ j) (hN : X.N[i]? = some x) (hv : Vis X.env.scope x) (ha : PA X (e :: es) t)
    (hdb : (x == ("__debug__" : Str)) = false := by decide)
    (hcd : (x == ("__classdict__" : Str)) = false := by decide)
    (he : starEach (e :: es) X.env = (false, eval e X.env) :: starEach es X.env := by rfl)
    (hpl : (backTo pos (starEach es X.env)).any (·.1) = false := by rfl) :
    PE X (.Call (.Name x p) (e :: es) [] pos) (tCallVS i S W t) := by
  refine ⟨fun pins s σ H Q I h => ?_⟩
  obtain ⟨f, sp, hs, hS, ht⟩ := h
  obtain ⟨fd, ps, F, kp, hb⟩ := (A f sp hS).ex
  have load := (pe_var (pos := p) hN hv hdb hcd).run pins s σ H (fun v H1 => v = .ref f ∧ H1 = H) I ⟨.ref f, hs, rfl, rfl⟩
  refine wpAny_Call_Name_kw (thn load fun u s1 back => ?_)
  obtain ⟨v, H1, I1, r1, ev, eH⟩ := back
  subst ev eH
  have eu : u = Value.ref f := r1
  subst eu
  have run := ha.run pos pins s1 σ _ _ I1 ht
  refine PySem.W.callWith_K (h₀ := X.base) I.ok.mod.kin kp (thn run fun us s2 back => ?_) he hpl
  obtain ⟨vs, H2, I2, r, q⟩ := back
  exact ⟨I2.kIn, run_fnS F (hr.mono hk) hb (passAt tk σ) I2 r q⟩
/-- isinstance(error, c) where the error's class is only known in the reading -/
theorem isE {a : Addr} {oe : Obj} {cls : Value} {d : Option Addr} {pn : List (Addr × Obj)} (hz : Zc cls d oe) (hf : ∃ vs, oe.data = .fields vs) :
    CallR (X.suite a ((a, oe) :: pn)) (.builtin "isinstance") (fun xs H Q => ∃ D, cls = .ref D ∧ d = none ∧ ExcC X.K D ∧ rIsE X.K D a xs H Q) := by
  intro pins s σ H xs us Q I r h
  obtain ⟨D, rfl, rfl, C, h⟩ := h
  exact call_isE C hz hf pins s σ H xs us Q I r h
end
/-- the error class at D, as isinstance and except ask it: the base at O, and of the three classes the n-th is its own -/
structure ErK (K : PySem.W.Frag) (O D : Addr) (cs : List (Addr × Bool)) : Prop where
  c : ExcC K D
  up : PySem.W.exmOne K (.ref D) (.ref O) = some true
  is : ∀ p ∈ cs, PySem.W.kitOne K (.ref D) (.ref p.1) = some p.2
end Fo
namespace Fo
open PySem L2 FO
section
variable {P : Program} {w : World} {K : PySem.W.Frag} {mg : Str → Option Value} {base : Heap} {CM : Addr}
/-! ### check_ones, greatest_of, greatest -/
/-- a number from 1 to m is asked -/
def AskN (K : PySem.W.Frag) (v : V) (H : Hp) (m : Int) (good : Int → Prop) (bad : Prop) : Prop :=
  (∃ n : Int, v = .int n ∧ (¬ (1 ≤ n ∧ n ≤ m) → bad) ∧ (1 ≤ n → n ≤ m → good n)) ∨ (IsW K H v false ∧ bad)
def spCheckOnes (K : PySem.W.Frag) (C : Addr) : Sp := fun vs H Q E => ∃ (v : V) (m : Int), vs = [v, .int m] ∧ AskN K v H m (fun _ => Q .non H) (E (.ref C) none H)
def spGreatestOf : Sp := fun vs H Q _ => ∃ n : Nat, vs = [.int (n : Nat)] ∧ 1 ≤ n ∧ n ≤ 3000 ∧ ∀ H', Same H H' → Q (.int (gr n : Nat)) H'
theorem at342 (n : Nat) : atI [V.int 3, V.int 4, V.int 2] ((n : Int) % 3) = some (.int (cG n : Nat)) := by
  have h : n % 3 = 0 ∨ n % 3 = 1 ∨ n % 3 = 2 := by omega
  unfold cG
  rcases h with e | e | e
  · rw [if_pos e, show (n : Int) % 3 = ((0 : Nat) : Int) by omega]
    exact atI_nat rfl
  · rw [if_neg (by omega), if_pos e, show (n : Int) % 3 = ((1 : Nat) : Int) by omega]
    exact atI_nat rfl
  · rw [if_neg (by omega), if_neg (by omega), show (n : Int) % 3 = ((2 : Nat) : Int) by omega]
    exact atI_nat rfl
theorem cG_le {n : Nat} (h : 2 ≤ n) : cG n ≤ n := by
  unfold cG
  split
  · omega
  · split <;> omega
def spGreatest (K : PySem.W.Frag) (C : Addr) : Sp := fun vs H Q E => ∃ v : V, vs = [v] ∧ AskN K v H 3000 (fun n => ∀ H', Same H H' → Q (.int (gr n.toNat : Nat)) H') (E (.ref C) none H)
end
end Fo
namespace Fo
open PySem L2 FO
/-! ### the table in memory -/
def sgS (s : Nat) : Str := if s = 43 then "+" else "*"
def WT (x : Wy) : List V := [.str (sgS x.2.1), .int (x.2.2.1 : Nat), .int (x.2.2.2 : Nat)]
def fl (k : Nat) : List Int := (List.range k).map fun j => ((F j : Nat) : Int)
theorem fl_len (k : Nat) : (fl k).length = k := by simp [fl]
theorem fl_at {k j : Nat} (h : j < k) : atI ((fl k).map V.int) (j : Int) = some (.int (F j : Nat)) := atI_nat (by simp [fl, h])
theorem fl_succ (k : Nat) : fl (k + 1) = fl k ++ [((F k : Nat) : Int)] := by simp [fl, List.range_succ]
/-- the list of the last steps -/
structure WaysOk (H : Hp) (ws : List V) (k : Nat) : Prop where
  len : ws.length = k
  low : ∀ n, n < 2 → n < k → ws[n]? = some .non
  at' : ∀ n, 2 ≤ n → n < k → ∃ t, ws[n]? = some (.ref t) ∧ H t = some (.tup (WT (best n)))
theorem WaysOk.same {H H' : Hp} {ws : List V} {k : Nat} (h : WaysOk H ws k) (s : Same H H') : WaysOk H' ws k :=
  ⟨h.len, h.low, fun n h1 h2 => let ⟨t, a, b⟩ := h.at' n h1 h2; ⟨t, a, s _ _ b⟩⟩
theorem WaysOk.more {H : Hp} {ws : List V} {k : Nat} {t : Addr} (h : WaysOk H ws k) (hk : 2 ≤ k) (ht : H t = some (.tup (WT (best k)))) : WaysOk H (ws ++ [.ref t]) (k + 1) := by
  refine ⟨by rw [List.length_append, h.len]; rfl, fun n h1 h2 => ?_, fun n h1 h2 => ?_⟩
  · rw [List.getElem?_append_left (by rw [h.len]; omega)]
    exact h.low n h1 (by omega)
  · by_cases e : n = k
    · subst e
      exact ⟨t, by rw [List.getElem?_append_right (by rw [h.len]; omega), h.len, Nat.sub_self]; rfl, ht⟩
    · obtain ⟨u, a, b⟩ := h.at' n h1 (by omega)
      exact ⟨u, by rw [List.getElem?_append_left (by rw [h.len]; omega)]; exact a, b⟩
section
variable {P : Program} {w : World} {K : PySem.W.Frag} {mg : Str → Option Value} {base : Heap} {CN : Addr}
/-! ### table_of -/
def spTable : Sp := fun vs H Q _ => ∃ m : Nat, vs = [.int (m : Nat)] ∧ 1 ≤ m ∧ m ≤ 200 ∧ ∀ H' p q r ws, Same H H' → H q = none → H r = none → H' p = some (.tup [.ref q, .ref r]) → H' q = some (.lst ((fl (m + 1)).map V.int)) → H' r = some (.lst ws) → WaysOk H' ws (m + 1) → Q (.ref p) H'
theorem scTable : FnScope ["most", "few", "ways", "number", "best", "way", "one"] ["most"] (defScope sTable) := ⟨rfl, rfl, rfl, by decide +kernel, rfl, by decide +kernel, by decide +kernel⟩
theorem ok_table (D : Dn K mg "table_of" sTable) (B : Bi mg) : Kp P w K mg base CX0 1 "table_of" spTable := by
  obtain ⟨f, fd, F', hm⟩ := D.ex
  refine ⟨f, fd, ["most"], F'.ok scTable (fun vs H Q E h => ?_) (fun cdv A outer s H vs Q E hr h => ?_), hm, F'.kp, F'.binds fun _ _ _ _ _ _ us hl => match us, hl with | [_], _ => rfl⟩
  · obtain ⟨m, rfl, _⟩ := h
    rfl
  · obtain ⟨m, rfl, h1, h2, k⟩ := h
    refine ⟨_, pss_cons (ps_par (i := 1) (j := 2) (by rfl) scTable.nd rfl rfl (by decide) rfl rfl (pa_cons (pe_lst (pa_cons pe_int (pa_cons pe_int pa_nil))) (pa_cons (pe_lst (pa_cons pe_non (pa_cons pe_non pa_nil))) pa_nil)) (by rfl))
      (pss_cons (ps_for PassesOwn.never rfl (pi_range2 (by rfl) B.range (pa_cons pe_int (pa_cons (pe_op op_add (pv 0) pe_int) pa_nil))) (pg_name (i := 3) scTable.nd rfl (Or.inl rfl))
        (pss_cons (ps_par (i := 4) (j := 5) (by rfl) scTable.nd rfl rfl (by decide) rfl rfl
            (pa_cons (pe_op op_add (pe_ix ix_list (pv 1) pe_int (fun _ _ => rfl)) (pe_ix ix_list (pv 1) (pe_op op_sub (pv 3) pe_int) (fun _ _ => rfl)))
            (pa_cons (pe_tup (pa_cons pe_str (pa_cons pe_int (pa_cons (pe_op op_sub (pv 3) pe_int) pa_nil)))) pa_nil)) (by rfl))
        (pss_cons (ps_for PassesOwn.never rfl (pi_range2 (by rfl) B.range (pa_cons pe_int (pa_cons (pe_op op_add (pe_op op_fdiv (pv 3) pe_int) pe_int) pa_nil))) (pg_name (i := 6) scTable.nd rfl (Or.inl rfl))
          (C8.pss_cut (ps_if (pt_cmpR op_lt (pe_op op_add (pe_ix ix_list (pv 1) (pv 6) (fun _ _ => rfl)) (pe_ix ix_list (pv 1) (pe_op op_sub (pv 3) (pv 6)) (fun _ _ => rfl))) (pv 4) (nomark _))
            (pss_one (ps_par (i := 4) (j := 5) (by rfl) scTable.nd rfl rfl (by decide) rfl rfl
              (pa_cons (pe_op op_add (pe_ix ix_list (pv 1) (pv 6) (fun _ _ => rfl)) (pe_ix ix_list (pv 1) (pe_op op_sub (pv 3) (pv 6)) (fun _ _ => rfl)))
              (pa_cons (pe_tup (pa_cons pe_str (pa_cons (pv 6) (pa_cons (pe_op op_sub (pv 3) (pv 6)) pa_nil)))) pa_nil)) (by rfl))) pss_nil)
          (pss_one (ps_if (PW.pt (pw_and (pt_cmpR op_eq (pe_op op_mod (pv 3) (pv 6)) pe_int (nomark _))
              (pw_and1 (pt_cmpR op_lt (pe_op op_add (pe_ix ix_list (pv 1) (pv 6) (fun _ _ => rfl)) (pe_ix ix_list (pv 1) (pe_op op_fdiv (pv 3) (pv 6)) (fun _ _ => rfl))) (pv 4) (nomark _)))))
            (pss_one (ps_par (i := 4) (j := 5) (by rfl) scTable.nd rfl rfl (by decide) rfl rfl
              (pa_cons (pe_op op_add (pe_ix ix_list (pv 1) (pv 6) (fun _ _ => rfl)) (pe_ix ix_list (pv 1) (pe_op op_fdiv (pv 3) (pv 6)) (fun _ _ => rfl)))
              (pa_cons (pe_tup (pa_cons pe_str (pa_cons (pv 6) (pa_cons (pe_op op_fdiv (pv 3) (pv 6)) pa_nil)))) pa_nil)) (by rfl))) pss_nil))))
        (pss_cons (ps_expr (pe_bm PySem.F.plainAttrs_list PySem.F.slot_list_append PySem.F.type_list_append mt_append (pv 1) (pa_cons (pv 4) pa_nil)))
        (pss_one (ps_expr (pe_bm PySem.F.plainAttrs_list PySem.F.slot_list_append PySem.F.type_list_append mt_append (pv 2) (pa_cons (pv 5) pa_nil))))))))
      (pss_one (ps_ret (pe_tup (pa_cons (pv 1) (pa_cons (pv 2) pa_nil)))))), ?_⟩
    have big : (16777216 : Nat) = sizeLine := PySem.sizeLine_eq.symm
    refine ⟨(show 2 ≤ sizeLine by decide), fun q nq => ?_⟩
    obtain ⟨H1, e1, s1, hq⟩ := ab nq (.lst [V.int 0, V.int 1])
    rw [e1]
    refine ⟨(show 2 ≤ sizeLine by decide), fun r nr => ?_⟩
    obtain ⟨H2, e2, s2, hr2⟩ := ab nr (.lst [V.non, V.non])
    rw [e2]
    have nr0 : H r = none := s1.free nr
    have qr : q ≠ r := ne_of_none hq nr
    have em : ((m : Int) + 1) = ((m + 1 : Nat) : Int) := by omega
    refine ⟨_, _, rfl, _, rfl, _, _, rfl, rfl, 2, _, rfl, ⟨by decide, by decide, by rw [em]; omega, by rw [em]; omega⟩, ?_⟩
    rw [show ((m : Int) + 1 - 2).toNat = m - 1 by omega]
    have fl2 : (fl 2).map V.int = [V.int 0, V.int 1] := by decide +kernel
    refine for_range (lo := 2) (n := m - 1) (fun i σ H' => ∃ (ws : List V) (v3 v4 v5 v6 : Option V), σ = [some (.int (m : Nat)), some (.ref q), some (.ref r), v3, v4, v5, v6] ∧ Same H H' ∧ H' q = some (.lst ((fl (i + 2)).map V.int)) ∧ H' r = some (.lst ws) ∧ WaysOk H' ws (i + 2))
      ⟨_, _, _, _, _, rfl, s1.trans s2, by rw [fl2]; exact sm_at s2 hq, hr2, ⟨rfl, fun n a b => ?_, fun n a b => absurd b (by omega)⟩⟩ ?_ ?_
    · have : n = 0 ∨ n = 1 := by omega
      rcases this with rfl | rfl <;> rfl
    · rintro i σ H3 hi ⟨ws, v3, v4, v5, v6, rfl, s3, hq3, hr3, wo⟩
      have en : (2 : Int) + (i : Int) = ((i + 2 : Nat) : Int) := by omega
      rw [en]
      obtain ⟨n, hn⟩ : ∃ n, n = i + 2 := ⟨_, rfl⟩
      rw [← hn] at hq3 wo ⊢
      have hn2 : 2 ≤ n := by omega
      have hn200 : n ≤ 200 := by omega
      have es : ((n : Nat) : Int) - 1 = ((n - 1 : Nat) : Int) := by omega
      have sq : ∀ {H' : Hp}, Same H3 H' → SqL K H' q ((fl n).map V.int) := fun s' => SqL.of (sm_at s' hq3)
      refine ⟨_, rfl, q, _, _, _, rfl, rfl, sq (Same.refl _), fl_at (j := 1) (by omega), _, rfl, _, rfl, _, _, rfl, rfl, q, _, _, _, rfl, rfl, sq (Same.refl _), by rw [es]; exact fl_at (j := n - 1) (by omega), _, _, rfl, rfl, ?_⟩
      refine ⟨_, rfl, _, _, rfl, rfl, (show 3 ≤ sizeLine by decide), fun t nt => ?_⟩
      obtain ⟨H4, e4, s4, ht⟩ := ab nt (.tup [V.str "+", V.int 1, V.int (((n : Nat) : Int) - 1)])
      rw [e4]
      rw [es, show [V.str "+", V.int 1, V.int ((n - 1 : Nat) : Int)] = WT (bestAt n 0) from rfl] at ht
      refine ⟨_, _, rfl, ?_⟩
      have eh : ((n : Nat) : Int) / 2 + 1 = ((n / 2 + 1 : Nat) : Int) := by omega
      refine ⟨_, rfl, _, _, rfl, rfl, ⟨by decide, by decide⟩, _, _, rfl, rfl, 2, _, rfl, ⟨by decide, by decide, by rw [eh]; omega, by rw [eh]; omega⟩, ?_⟩
      rw [show (((n : Nat) : Int) / 2 + 1 - 2).toNat = n / 2 - 1 by omega]
      refine for_range (lo := 2) (n := n / 2 - 1) (fun j σ H' => ∃ (t : Addr) (v6 : Option V), σ = [some (.int (m : Nat)), some (.ref q), some (.ref r), some (.int (n : Nat)), some (.int ((bestAt n j).1 : Nat)), some (.ref t), v6] ∧ Same H3 H' ∧ H' t = some (.tup (WT (bestAt n j))))
        ⟨t, v6, rfl, s4, ht⟩ ?_ ?_
      · rintro j σ H5 hj ⟨t, v6, rfl, s5, ht⟩
        have eo : (2 : Int) + (j : Int) = ((2 + j : Nat) : Int) := by omega
        rw [eo]
        obtain ⟨o, ho⟩ : ∃ o, o = 2 + j := ⟨_, rfl⟩
        rw [bestAt_succ, ← ho]
        have ho2 : 2 ≤ o := by omega
        have hon : o ≤ n / 2 := by omega
        have ed : ((n : Nat) : Int) - ((o : Nat) : Int) = ((n - o : Nat) : Int) := by omega
        have ev : ((n : Nat) : Int) / ((o : Nat) : Int) = ((n / o : Nat) : Int) := by omega
        have emd : ((n : Nat) : Int) % ((o : Nat) : Int) = ((n % o : Nat) : Int) := by omega
        have hdv : n / o < n := Nat.div_lt_self (by omega) (by omega)
        generalize bestAt n j = st at ht
        refine ⟨fun σ H' => ∃ (t : Addr), σ = [some (.int (m : Nat)), some (.ref q), some (.ref r), some (.int (n : Nat)), some (.int ((innerA n st o).1 : Nat)), some (.ref t), some (.int (o : Nat))] ∧ Same H3 H' ∧ H' t = some (.tup (WT (innerA n st o))), ?_, ?_⟩
        · have a1 := fl_at (k := n) (j := o) (by omega)
          have a2 := fl_at (k := n) (j := n - o) (by omega)
          rw [← ed] at a2
          refine ⟨_, rfl, _, rfl, q, _, _, _, rfl, rfl, sq s5, a1, _, rfl, _, rfl, _, rfl, _, _, rfl, rfl, q, _, _, _, rfl, rfl, sq s5, a2, _, _, rfl, rfl, _, rfl, _, _, rfl, rfl, _, rfl, ?_⟩
          by_cases hc : F o + F (n - o) < st.1
          · refine ifT (decide_eq_true (by omega)) ?_
            refine ⟨_, rfl, _, rfl, q, _, _, _, rfl, rfl, sq s5, a1, _, rfl, _, rfl, _, rfl, _, _, rfl, rfl, q, _, _, _, rfl, rfl, sq s5, a2, _, _, rfl, rfl, ?_⟩
            refine ⟨_, rfl, _, rfl, _, rfl, _, _, rfl, rfl, (show 3 ≤ sizeLine by decide), fun u nu => ?_⟩
            have ei : innerA n st o = (F o + F (n - o), 43, o, n - o) := if_pos hc
            refine ⟨_, _, rfl, u, ?_, sm_new s5 nu, ?_⟩
            · rw [ei]
              show [some (V.int (m : Nat)), some (.ref q), some (.ref r), some (.int (n : Nat)), some (.int (((F o : Nat) : Int) + ((F (n - o) : Nat) : Int))), some (.ref u), some (.int (o : Nat))] = _
              rw [show ((F o : Nat) : Int) + ((F (n - o) : Nat) : Int) = ((F o + F (n - o) : Nat) : Int) by omega]
            · rw [upd_same, ei]
              show some (HO.tup [V.str "+", V.int (o : Nat), V.int (((n : Nat) : Int) - ((o : Nat) : Int))]) = _
              rw [ed]
              rfl
          · refine ifF (decide_eq_false (by omega)) ?_
            have ei : innerA n st o = st := if_neg hc
            rw [ei]
            exact ⟨t, rfl, s5, ht⟩
        · rintro σ H6 ⟨t, rfl, s6, ht⟩
          have a1 := fl_at (k := n) (j := o) (by omega)
          have a2 := fl_at (k := n) (j := n / o) (by omega)
          rw [← ev] at a2
          show tIfS _ _ _ _ _ _
          unfold innerT
          generalize innerA n st o = st1 at ht
          refine ⟨_, rfl, _, rfl, _, _, rfl, rfl, (by omega), rfl, _, rfl, ?_⟩
          by_cases hm0 : n % o = 0
          · refine ifT (decide_eq_true (by show V.int (((n : Nat) : Int) % ((o : Nat) : Int)) = V.int 0; rw [emd, hm0]; rfl)) ?_
            refine ⟨_, rfl, _, rfl, q, _, _, _, rfl, rfl, sq s6, a1, _, rfl, _, rfl, _, rfl, _, _, rfl, rfl, ⟨by omega, by omega⟩, q, _, _, _, rfl, rfl, sq s6, a2, _, _, rfl, rfl, _, rfl, _, _, rfl, rfl, _, rfl, ?_⟩
            by_cases hc : F o + F (n / o) < st1.1
            · refine ifT (decide_eq_true (by omega)) ?_
              refine ⟨_, rfl, _, rfl, q, _, _, _, rfl, rfl, sq s6, a1, _, rfl, _, rfl, _, rfl, _, _, rfl, rfl, ⟨by omega, by omega⟩, q, _, _, _, rfl, rfl, sq s6, a2, _, _, rfl, rfl, ?_⟩
              refine ⟨_, rfl, _, rfl, _, rfl, _, _, rfl, rfl, ⟨by omega, by omega⟩, (show 3 ≤ sizeLine by decide), fun u nu => ?_⟩
              have ei : innerB n st1 o = (F o + F (n / o), 42, o, n / o) := if_pos ⟨hm0, hc⟩
              refine ⟨_, _, rfl, u, some (.int (o : Nat)), ?_, sm_new s6 nu, ?_⟩
              · rw [ei]
                show [some (V.int (m : Nat)), some (.ref q), some (.ref r), some (.int (n : Nat)), some (.int (((F o : Nat) : Int) + ((F (n / o) : Nat) : Int))), some (.ref u), some (.int (o : Nat))] = _
                rw [show ((F o : Nat) : Int) + ((F (n / o) : Nat) : Int) = ((F o + F (n / o) : Nat) : Int) by omega]
              · rw [upd_same, ei]
                show some (HO.tup [V.str "*", V.int (o : Nat), V.int (((n : Nat) : Int) / ((o : Nat) : Int))]) = _
                rw [ev]
                rfl
            · refine ifF (decide_eq_false (by omega)) ?_
              have ei : innerB n st1 o = st1 := if_neg (fun z => hc z.2)
              rw [ei]
              exact ⟨t, _, rfl, s6, ht⟩
          · refine ifF (decide_eq_false (by show ¬ V.int (((n : Nat) : Int) % ((o : Nat) : Int)) = V.int 0; rw [emd]; intro z; have := V.int.inj z; omega)) (iteF ?_)
            have ei : innerB n st1 o = st1 := if_neg (fun z => hm0 z.1)
            rw [ei]
            exact ⟨t, _, rfl, s6, ht⟩
      · rintro σ H5 ⟨t, v6, rfl, s5, ht⟩
        have bo := best_ok hn2 hn200
        have eb : bestAt n (n / 2 - 1) = best n := rfl
        rw [eb] at ht ⊢
        rw [bo.val]
        refine ⟨_, rfl, .inl ⟨rfl, _, SqL.of (sm_at s5 hq3)⟩, _, rfl, q, _, _, rfl, rfl, sm_at s5 hq3, by rw [List.length_map, fl_len, ← big]; omega, ?_⟩
        have hr5 : H5 r = some (.lst ws) := sm_at s5 hr3
        have hr6 : upd H5 q (.lst ((fl n).map V.int ++ [V.int ((F n : Nat) : Int)])) r = some (.lst ws) := by rw [upd_ne (Ne.symm qr)]; exact hr5
        refine ⟨_, rfl, .inl ⟨rfl, _, SqL.of hr6⟩, _, rfl, r, _, _, rfl, rfl, hr6, by rw [wo.len, ← big]; omega, ?_⟩
        have tq : t ≠ q := ne_of ht (sm_at s5 hq3) (by intro z; cases z)
        have tr : t ≠ r := ne_of ht hr5 (by intro z; cases z)
        have keep : ∀ b o, H5 b = some o → b ≠ q → b ≠ r → upd (upd H5 q (.lst ((fl n).map V.int ++ [V.int ((F n : Nat) : Int)]))) r (.lst (ws ++ [.ref t])) b = some o := fun b o e n1 n2 => by
          rw [upd_ne n2, upd_ne n1]
          exact e
        refine ⟨ws ++ [.ref t], _, _, _, _, rfl, fun b o e => ?_, ?_, upd_same, ?_⟩
        · exact keep b o ((s3.trans s5) b o e) (ne_of_none e nq) (ne_of_none e nr0)
        · rw [upd_ne qr, upd_same, show i + 1 + 2 = n + 1 by omega, fl_succ, List.map_append]
          rfl
        · rw [show i + 1 + 2 = n + 1 by omega]
          have wo5 := wo.same s5
          have wo6 : WaysOk (upd (upd H5 q (.lst ((fl n).map V.int ++ [V.int ((F n : Nat) : Int)]))) r (.lst (ws ++ [.ref t]))) ws n := by
            refine ⟨wo5.len, wo5.low, fun x h1 h2 => ?_⟩
            obtain ⟨u, a, b⟩ := wo5.at' x h1 h2
            exact ⟨u, a, keep u _ b (ne_of b (sm_at s5 hq3) (by intro z; cases z)) (ne_of b hr5 (by intro z; cases z))⟩
          exact wo6.more hn2 (keep t _ ht tq tr)
    · rintro σ H3 ⟨ws, v3, v4, v5, v6, rfl, s3, hq3, hr3, wo⟩
      rw [show m - 1 + 2 = m + 1 by omega] at hq3 wo
      refine ⟨_, rfl, _, rfl, (show 2 ≤ sizeLine by decide), fun p np => ?_⟩
      obtain ⟨H4, e4, s4, hp⟩ := ab np (.tup [V.ref q, V.ref r])
      rw [e4]
      exact k H4 p q r ws (s3.trans s4) nq nr0 hp (sm_at s4 hq3) (sm_at s4 hr3) (wo.same s4)
end
end Fo
namespace Fo
open PySem L2 FO
section
variable {P : Program} {w : World} {K : PySem.W.Frag} {mg : Str → Option Value} {base : Heap} {CN CM : Addr}
/-! ### put, text_by -/
theorem tlA (x y : Str) : tl (x ++ y) = tl x ++ tl y := TL.tl_append x y
theorem lenT (x : Str) : x.length = (tl x).length := by simp [tl, Str.length]
theorem lenA (x y : Str) : (x ++ y).length = x.length + y.length := by rw [lenT, tlA, List.length_append, ← lenT, ← lenT]
def spPut : Sp := fun vs H Q _ => ∃ a s b : Str, vs = [.str a, .str s, .str b] ∧ a.length + s.length + b.length ≤ 10000 ∧ Q (.str (("(" : Str) ++ a ++ s ++ b ++ (")" : Str))) H
theorem scPut : FnScope ["one", "sign", "other"] ["one", "sign", "other"] (defScope sPut) := ⟨rfl, rfl, rfl, by decide +kernel, rfl, by decide +kernel, by decide +kernel⟩
theorem ok_put (D : Dn K mg "put" sPut) : Kp P w K mg base CX0 1 "put" spPut := by
  obtain ⟨f, fd, F', hm⟩ := D.ex
  refine ⟨f, fd, ["one", "sign", "other"], F'.ok scPut (fun vs H Q E h => ?_) (fun cdv A outer s H vs Q E hr h => ?_), hm, F'.kp, F'.binds fun _ _ _ _ _ _ us hl => match us, hl with | [_, _, _], _ => rfl⟩
  · obtain ⟨a, s, b, rfl, _⟩ := h
    rfl
  · obtain ⟨a, s, b, rfl, hl, k⟩ := h
    refine ⟨_, pss_one (ps_ret (pe_op op_add_str (pe_op op_add_str (pe_op op_add_str (pe_op op_add_str pe_str (pv 0)) (pv 1)) (pv 2)) pe_str)), ?_⟩
    have big : (16777216 : Nat) = sizeLine := PySem.sizeLine_eq.symm
    have n1 : ("(" : Str).length = 1 := by decide +kernel
    have n2 : (")" : Str).length = 1 := by decide +kernel
    exact ⟨_, rfl, _, _, rfl, rfl, by rw [n1, ← big]; omega, _, rfl, _, _, rfl, rfl, by rw [lenA, n1, ← big]; omega, _, rfl, _, _, rfl, rfl, by rw [lenA, lenA, n1, ← big]; omega, _, _, rfl, rfl, by rw [lenA, lenA, lenA, n1, n2, ← big]; omega, k⟩
def spTextBy (K : PySem.W.Frag) (n : Nat) : Sp := fun vs H Q _ => ∃ (r : Addr) (j k : Nat) (ws : List V), vs = [.ref r, .int (j : Nat)] ∧ SqL K H r ws ∧ WaysOk H ws k ∧ 1 ≤ j ∧ j < k ∧ j ≤ n ∧ k ≤ 201 ∧ ∀ t : Str, Wr (tl t) (j : Nat) (F j) → Q (.str t) H
theorem scTextBy : FnScope ["ways", "number", "sign", "one", "other"] ["ways", "number"] (defScope sTextBy) := ⟨rfl, rfl, rfl, by decide +kernel, rfl, by decide +kernel, by decide +kernel⟩
theorem wr_put {t1 t2 : Str} {j : Nat} (h2 : 2 ≤ j) (h : j ≤ 200) (w1 : Wr (tl t1) ((best j).2.2.1 : Nat) (F (best j).2.2.1)) (w2 : Wr (tl t2) ((best j).2.2.2 : Nat) (F (best j).2.2.2)) :
    Wr (tl (("(" : Str) ++ t1 ++ sgS (best j).2.1 ++ t2 ++ (")" : Str))) (j : Nat) (F j) := by
  have bo := best_ok h2 h
  rw [tlA, tlA, tlA, tlA, show tl ("(" : Str) = [40] by decide +kernel, show tl (")" : Str) = [41] by decide +kernel, bo.sum]
  rcases bo.how with ⟨e1, e2⟩ | ⟨e1, e2⟩
  · have q := Wr.plus w1 w2
    rw [e1, show tl (sgS 43) = [43] by decide +kernel]
    rw [show (((best j).2.2.1 : Nat) : Int) + (((best j).2.2.2 : Nat) : Int) = (j : Nat) by omega] at q
    simpa using q
  · have q := Wr.times w1 w2
    rw [e1, show tl (sgS 42) = [42] by decide +kernel]
    rw [show (((best j).2.2.1 : Nat) : Int) * (((best j).2.2.2 : Nat) : Int) = ((j : Nat) : Int) from by rw [← Int.natCast_mul, e2]] at q
    simpa using q
theorem ok_textBy (D : Dn K mg "text_by" sTextBy) (Pu : Kp P w K mg base CX0 1 "put" spPut) : ∀ n, Kp P w K mg base CX0 (n + 2) "text_by" (spTextBy K n)
  | 0 => by
    obtain ⟨f, fd, F', hm⟩ := D.ex
    refine ⟨f, fd, ["ways", "number"], F'.ok scTextBy (fun vs H Q E h => ?_) (fun cdv A outer s H vs Q E hr h => ?_), hm, F'.kp, F'.binds fun _ _ _ _ _ _ us hl => match us, hl with | [_, _], _ => rfl⟩
    · obtain ⟨r, j, k, ws, rfl, _⟩ := h
      rfl
    · obtain ⟨r, j, k, ws, rfl, _, _, h1, _, h0, _⟩ := h
      omega
  | n + 1 => by
    have ih := ok_textBy D Pu n
    obtain ⟨f, fd, F', hm⟩ := D.ex
    refine ⟨f, fd, ["ways", "number"], F'.ok scTextBy (fun vs H Q E h => ?_) (fun cdv A outer s H vs Q E hr h => ?_), hm, F'.kp, F'.binds fun _ _ _ _ _ _ us hl => match us, hl with | [_, _], _ => rfl⟩
    · obtain ⟨r, j, k, ws, rfl, _⟩ := h
      rfl
    · obtain ⟨r, j, k, ws, rfl, hS, wo, h1, hjk, hjn, hk, kk⟩ := h
      refine ⟨_, pss_cons (ps_if (pt_cmpR op_isN (pe_ix ix_list (pv 0) (pv 1) (fun _ _ => rfl)) pe_non (nomark _)) (pss_one (ps_ret pe_str)) pss_nil)
        (pss_cons (ps_asg (pe_ix ix_list (pv 0) (pv 1) (fun _ _ => rfl)) (pg_tup rfl (pgs_cons (pg_name (i := 2) scTextBy.nd rfl (.inl rfl)) (pgs_cons (pg_name (i := 3) scTextBy.nd rfl (.inl rfl)) (pgs_cons (pg_name (i := 4) scTextBy.nd rfl (.inl rfl)) pgs_nil)))))
        (pss_one (ps_ret (pk Pu hr (by omega) rfl (pa_cons (pk ih hr (Nat.le_refl _) rfl (pa_cons (pv 0) (pa_cons (pv 3) pa_nil))) (pa_cons (pv 2) (pa_cons (pk ih hr (Nat.le_refl _) rfl (pa_cons (pv 0) (pa_cons (pv 4) pa_nil))) pa_nil))))))), ?_⟩
      by_cases hj : j < 2
      · have e : j = 1 := by omega
        subst e
        refine ⟨_, rfl, _, rfl, r, _, _, _, rfl, rfl, hS, atI_nat (wo.low 1 (by decide) hjk), rfl, _, rfl, iteT ?_⟩
        refine kk _ ?_
        rw [show tl ("1" : Str) = [49] by decide +kernel, F_one]
        exact .one
      · obtain ⟨t, hw, ht⟩ := wo.at' j (by omega) hjk
        have bo := best_ok (show 2 ≤ j by omega) (show j ≤ 200 by omega)
        refine ⟨_, rfl, _, rfl, r, _, _, _, rfl, rfl, hS, atI_nat hw, rfl, _, rfl, iteF ?_⟩
        refine ⟨_, rfl, _, rfl, r, _, _, _, rfl, rfl, hS, atI_nat hw, t, _, rfl, SqT.of ht, rfl, _, _, rfl, _, _, rfl, _, _, rfl, rfl, ?_⟩
        have a2 := bo.a2
        have b2 := bo.b2
        refine ⟨_, rfl, _, rfl, r, _, k, ws, rfl, hS, wo, bo.a1, by omega, by omega, hk, fun t1 w1 => ?_⟩
        refine ⟨_, rfl, _, rfl, _, rfl, r, _, k, ws, rfl, hS, wo, bo.b1, by omega, by omega, hk, fun t2 w2 => ?_⟩
        refine ⟨t1, _, t2, rfl, ?_, kk _ (wr_put (by omega) (by omega) w1 w2)⟩
        have l1 := w1.len
        have l2 := w2.len
        have f1 := F_le (show (best j).2.2.1 ≤ 200 by omega)
        have f2 := F_le (show (best j).2.2.2 ≤ 200 by omega)
        have l3 : (sgS (best j).2.1).length = 1 := by
          rcases bo.how with ⟨e, _⟩ | ⟨e, _⟩
          · rw [e]; decide +kernel
          · rw [e]; decide +kernel
        rw [l3, lenT, lenT]
        omega
/-! ### check_number, fewest -/
def spCheckNumber (K : PySem.W.Frag) (C : Addr) : Sp := fun vs H Q E => ∃ (v : V), vs = [v] ∧ AskN K v H 200 (fun _ => Q .non H) (E (.ref C) none H)
theorem scCheckNumber : FnScope ["number"] ["number"] (defScope sCheckNumber) := ⟨rfl, rfl, rfl, by decide +kernel, rfl, by decide +kernel, by decide +kernel⟩
theorem ok_checkNumber (D : Dn K mg "check_number" sCheckNumber) (T : ErC K mg "BadNumber" CN) (mo : ∃ u, mg "MOST" = some u ∧ RelV (.int 200) u) (W : Kp P w K mg base CX0 1 "is_whole" (spWhole K)) : Kp P w K mg base (L2.CX P w) 2 "check_number" (spCheckNumber K CN) := by
  obtain ⟨f, fd, F', hm⟩ := D.ex
  refine ⟨f, fd, ["number"], F'.okX scCheckNumber (fun vs H Q E h => ?_) (fun cdv A outer s H vs Q E hr h => ?_), hm, F'.kp, F'.binds fun _ _ _ _ _ _ us hl => match us, hl with | [_], _ => rfl⟩
  · obtain ⟨v, rfl, _⟩ := h
    rfl
  · obtain ⟨v, rfl, h⟩ := h
    refine ⟨_, pss_one (ps_if (PW.pt (pw_or (pt_not (pt_val (pk W hr (by decide) rfl (pa_cons (pv 0) pa_nil)))) (pw_or1 (pt_not (pt_chain op_le op_le pe_int (pv 0) (C8.pe_gc rfl mo))))))
      (pss_one (ps_raise rfl (takes_of rfl rfl rfl rfl) (pmk_own PySem.F.excBase_ValueError T.x T.g T.k (raises_own T.b T.t) rfl))) pss_nil), ?_⟩
    rcases h with ⟨n, rfl, kb, kg⟩ | ⟨nw, kb⟩
    · refine ⟨_, rfl, _, _, rfl, IsW.int n, _, rfl, iteF ?_⟩
      refine ⟨_, rfl, _, _, rfl, rfl, _, rfl, ?_⟩
      by_cases h1 : 1 ≤ n
      · refine ifT (decide_eq_true h1) ⟨_, _, rfl, rfl, _, rfl, ?_⟩
        by_cases h2 : n ≤ 200
        · exact ifF (by rw [decide_eq_true h2]; rfl) (kg h1 h2)
        · exact ifT (by rw [decide_eq_false h2]; rfl) (kb (fun z => h2 z.2))
      · exact ifF (decide_eq_false h1) ⟨_, rfl, iteT (kb (fun z => h1 z.1))⟩
    · exact ⟨_, rfl, _, _, rfl, nw, _, rfl, iteT (iteT kb)⟩
def spFewest (K : PySem.W.Frag) (C : Addr) : Sp := fun vs H Q E => ∃ (v : V), vs = [v] ∧ AskN K v H 200 (fun n => ∀ H', Same H H' → Q (.int (F n.toNat : Nat)) H') (E (.ref C) none H)
theorem scFewest : FnScope ["number"] ["number"] (defScope sFewest) := ⟨rfl, rfl, rfl, by decide +kernel, rfl, by decide +kernel, by decide +kernel⟩
theorem ok_fewest (D : Dn K mg "fewest" sFewest) (C : Kp P w K mg base (L2.CX P w) 2 "check_number" (spCheckNumber K CN)) (T : Kp P w K mg base CX0 1 "table_of" spTable) : Kp P w K mg base (L2.CX P w) 3 "fewest" (spFewest K CN) := by
  obtain ⟨f, fd, F', hm⟩ := D.ex
  refine ⟨f, fd, ["number"], F'.okX scFewest (fun vs H Q E h => ?_) (fun cdv A outer s H vs Q E hr h => ?_), hm, F'.kp, F'.binds fun _ _ _ _ _ _ us hl => match us, hl with | [_], _ => rfl⟩
  · obtain ⟨v, rfl, _⟩ := h
    rfl
  · obtain ⟨v, rfl, h⟩ := h
    refine ⟨_, pss_cons (ps_expr (pkS C (takes_of rfl rfl rfl rfl) hr (by decide) rfl (pa_cons (pv 0) pa_nil)))
      (pss_one (ps_ret (pe_ix ix_list (pe_ix ix_tup (pk T hr (by decide) rfl (pa_cons (pv 0) pa_nil)) pe_int (fun _ _ => rfl)) (pv 0) (fun _ _ => rfl)))), ?_⟩
    rcases h with ⟨n, rfl, kb, kg⟩ | ⟨nw, kb⟩
    · refine ⟨_, rfl, _, rfl, .inl ⟨n, rfl, kb, fun h1 h2 => ?_⟩⟩
      obtain ⟨m, hm1⟩ : ∃ m : Nat, n = (m : Int) := ⟨n.toNat, by omega⟩
      subst hm1
      refine ⟨_, rfl, m, rfl, by omega, by omega, fun H' p q r ws s' nq nr hp hq hr' wo => ?_⟩
      refine ⟨p, _, _, _, rfl, rfl, SqT.of hp, atI_nat (j := 0) rfl, _, rfl, q, _, _, _, rfl, rfl, SqL.of hq, fl_at (by omega), ?_⟩
      have z := kg h1 h2 H' s'
      rw [Int.toNat_natCast] at z
      exact z
    · exact ⟨_, rfl, _, rfl, .inr ⟨nw, kb⟩⟩
/-! ### all_with -/
def awl (n : Nat) : List Int := ((List.range (gr n)).filter fun a => F (1 + a) == n).map fun a => ((1 + a : Nat) : Int)
def spAllWith (K : PySem.W.Frag) (C : Addr) : Sp := fun vs H Q E => ∃ (v : V), vs = [v] ∧ AskN K v H 14 (fun n => ∀ H' q, Same H H' → H q = none → H' q = some (.lst ((awl n.toNat).map V.int)) → Q (.ref q) H') (E (.ref C) none H)
theorem gr14 : ((List.range 15).all fun n => n == 0 || (decide (1 ≤ gr n) && decide (gr n ≤ 200))) = true := by decide +kernel
theorem gr14_le {n : Nat} (h1 : 1 ≤ n) (h : n ≤ 14) : 1 ≤ gr n ∧ gr n ≤ 200 := by
  have q := List.all_eq_true.mp gr14 n (List.mem_range.mpr (by omega))
  simp only [Bool.or_eq_true, Bool.and_eq_true, beq_iff_eq, decide_eq_true_eq] at q
  rcases q with z | z
  · omega
  · exact z
end
end Fo
namespace Fo
open PySem L2 FO
section
variable {P : Program} {w : World} {K : PySem.W.Frag} {mg : Str → Option Value} {base : Heap} {CN C : Addr}
/-! ### is_floor -/
def spIsFloor (K : PySem.W.Frag) : Sp := fun vs H Q _ => ∃ (a : Addr) (ns : List Int), vs = [.ref a] ∧ SqL K H a (ns.map V.int) ∧ 1 ≤ ns.length ∧ ns.length ≤ 1000 ∧ (IsFloor ns → ∀ H', Same H H' → Q (.bl true) H') ∧ (¬ IsFloor ns → ∀ H', Same H H' → Q (.bl false) H')
theorem scIsFloor : FnScope ["floor", "one", "most", "other", "both"] ["floor"] (defScope sIsFloor) := ⟨rfl, rfl, rfl, by decide +kernel, rfl, by decide +kernel, by decide +kernel⟩
theorem fg_at {ns : List Int} {k : Nat} {z : Int} (h1 : 1 ≤ k) (h : k ≤ ns.length) (hz : z = (k : Int) - 1) : atI (ns.map V.int) z = some (.int (fg ns k)) := by
  have e : z = ((k - 1 : Nat) : Int) := by omega
  rw [e]
  refine atI_nat ?_
  unfold fg
  rw [List.getElem?_map, List.getElem?_eq_getElem (show k - 1 < ns.length by omega), List.getD_eq_getElem?_getD, List.getElem?_eq_getElem (show k - 1 < ns.length by omega)]
  rfl
theorem ok_isFloor (D : Dn K mg "is_floor" sIsFloor) (B : Bi mg) (W : Kp P w K mg base CX0 1 "is_whole" (spWhole K)) : Kp P w K mg base CX0 2 "is_floor" (spIsFloor K) := by
  obtain ⟨f, fd, F', hm⟩ := D.ex
  refine ⟨f, fd, ["floor"], F'.ok scIsFloor (fun vs H Q E h => ?_) (fun cdv A outer s H vs Q E hr h => ?_), hm, F'.kp, F'.binds fun _ _ _ _ _ _ us hl => match us, hl with | [_], _ => rfl⟩
  · obtain ⟨a, ns, rfl, _⟩ := h
    rfl
  · obtain ⟨a, ns, rfl, hS, hl1, hl, kT, kF⟩ := h
    refine ⟨_, pss_cons (ps_if (PW.pt (pw_or (pt_not (pt_val (pe_callB (cr_all rfl) (by rfl) B.all (by decide +kernel) (pa_cons
          (pe_lc (own := [("one", 1)]) (g := gName 1) (tt := tYes) rfl scIsFloor.nd (pi_list (pv 0)) (blkOk_by (own := [("one", 1)]) (N := ["floor", "one", "most", "other", "both"]) (sc := defScope sIsFloor) (by decide +kernel)) (fun _ _ _ _ _ => pg_name (i := 1) scIsFloor.nd rfl (Or.inl rfl)) (fun _ _ _ _ _ => pts_nil)
            (fun _ _ _ _ _ => pk W hr (by decide) rfl (pa_cons (pv 1) pa_nil))) pa_nil))))
        (pw_or1 (pt_cmpR op_gt (pe_ix ix_list (pv 0) pe_int (fun _ _ => rfl)) pe_int (nomark _))))) (pss_one (ps_ret pe_bl)) pss_nil)
      (pss_cons (ps_set (i := 2) scIsFloor.nd rfl (Or.inl rfl) (pe_callB call_len_seq (by rfl) B.len PySem.boot_len (pa_cons (pv 0) pa_nil)))
      (pss_cons (ps_for PassesOwn.never rfl (pi_range2 (by rfl) B.range (pa_cons pe_int (pa_cons (pe_op op_add (pv 2) pe_int) pa_nil))) (pg_name (i := 1) scIsFloor.nd rfl (Or.inl rfl))
        (pss_one (ps_for PassesOwn.never rfl (pi_range2 (by rfl) B.range (pa_cons (pv 1) (pa_cons (pe_op op_add (pv 2) pe_int) pa_nil))) (pg_name (i := 3) scIsFloor.nd rfl (Or.inl rfl))
          (pss_cons (ps_set (i := 4) scIsFloor.nd rfl (Or.inl rfl) (pe_op op_add (pe_ix ix_list (pv 0) (pe_op op_sub (pv 1) pe_int) (fun _ _ => rfl)) (pe_ix ix_list (pv 0) (pe_op op_sub (pv 3) pe_int) (fun _ _ => rfl))))
          (C8.pss_cut (ps_if (PW.pt (pw_and (pt_cmpR op_le (pe_op op_add (pv 1) (pv 3)) (pv 2) (nomark _)) (pw_and1 (pt_cmpR op_gt (pe_ix ix_list (pv 0) (pe_op op_sub (pe_op op_add (pv 1) (pv 3)) pe_int) (fun _ _ => rfl)) (pv 4) (nomark _))))) (pss_one (ps_ret pe_bl)) pss_nil)
          (pss_one (ps_if (PW.pt (pw_and (pt_cmpR op_le (pe_op op_mul (pv 1) (pv 3)) (pv 2) (nomark _)) (pw_and1 (pt_cmpR op_gt (pe_ix ix_list (pv 0) (pe_op op_sub (pe_op op_mul (pv 1) (pv 3)) pe_int) (fun _ _ => rfl)) (pv 4) (nomark _))))) (pss_one (ps_ret pe_bl)) pss_nil)))))))
      (pss_one (ps_ret pe_bl)))), ?_⟩
    have big : (16777216 : Nat) = sizeLine := PySem.sizeLine_eq.symm
    refine ⟨_, rfl, a, rfl, ⟨_, hS⟩, fun D hD => lc_list (K := K) (a := a) (xs := ns.map V.int) (fun j H' => Same H H' ∧ H' D = some (.lst ((List.replicate j true).map V.bl))) ⟨sm_upd hD, upd_same⟩ (fun j H' _ hj => hj.1.seq hS) ?_ ?_⟩
    · rintro j x H1 hx ⟨s1, hD1⟩
      obtain ⟨y, hy, rfl⟩ : ∃ y, y ∈ ns ∧ V.int y = x := List.mem_map.mp (List.mem_of_getElem? hx)
      have hj : j < ns.length := by
        have := (List.getElem?_eq_some_iff.mp hx).1
        rw [List.length_map] at this
        exact this
      refine ⟨rfl, ?_⟩
      unfold tYes
      refine iteT ?_
      refine ⟨_, rfl, _, _, rfl, IsW.int y, _, hD1, ?_, ?_, ?_⟩
      · rw [List.length_map, List.length_replicate, ← big]; omega
      · exact fun b o e => by
          rw [upd_ne (ne_of_none e hD)]
          exact s1 b o e
      · rw [upd_same, List.replicate_succ', List.map_append]; rfl
    · rintro H1 ⟨s1, hD1⟩
      refine ⟨D, _, rfl, SqL.of hD1, _, rfl, ?_⟩
      have e : (List.replicate (ns.map V.int).length true).all id = true := by simp
      rw [e]
      refine iteF ?_
      have hS1 := s1.seq hS
      refine ⟨_, rfl, a, _, _, _, rfl, rfl, hS1, fg_at (k := 1) (by decide) hl1 rfl, _, _, rfl, rfl, _, rfl, ?_⟩
      by_cases h1 : ¬ fg ns 1 ≤ 1
      · exact ifT (decide_eq_true (by omega)) (kF (fun z => h1 z.1) _ s1)
      have h1 := Classical.not_not.mp h1
      refine ifF (decide_eq_false (by omega)) ?_
      refine ⟨_, rfl, a, _, rfl, .inl hS1, ?_⟩
      rw [List.length_map]
      have en : ((ns.length : Nat) : Int) + 1 = ((ns.length + 1 : Nat) : Int) := by omega
      refine ⟨_, rfl, _, _, rfl, rfl, 1, _, rfl, ⟨by decide, by decide, by rw [en]; omega, by rw [en]; omega⟩, ?_⟩
      rw [show (((ns.length : Nat) : Int) + 1 - 1).toNat = ns.length by omega]
      refine for_range (lo := 1) (n := ns.length) (fun i σ H' => ∃ v1 v3 v4 : Option V, σ = [some (.ref a), v1, some (.int (ns.length : Nat)), v3, v4] ∧ Same H H' ∧ ∀ x y, 1 ≤ x → x ≤ i → x ≤ y → y ≤ ns.length → ¬ Viol ns x y)
        ⟨_, _, _, rfl, s1, fun x y h1 h2 => by omega⟩ ?_ ?_
      · rintro i σ H2 hi ⟨v1, v3, v4, rfl, s2, inv⟩
        have eo : (1 : Int) + (i : Int) = ((i + 1 : Nat) : Int) := by omega
        rw [eo]
        have hS2 := s2.seq hS
        refine ⟨_, rfl, _, rfl, _, _, rfl, rfl, _, _, rfl, ⟨by omega, by omega, by rw [en]; omega, by rw [en]; omega⟩, ?_⟩
        rw [show (((ns.length : Nat) : Int) + 1 - ((i + 1 : Nat) : Int)).toNat = ns.length - i by omega]
        refine for_range (lo := ((i + 1 : Nat) : Int)) (n := ns.length - i) (fun j σ H' => ∃ v3 v4 : Option V, σ = [some (.ref a), some (.int (i + 1 : Nat)), some (.int (ns.length : Nat)), v3, v4] ∧ Same H H' ∧ ∀ y, i + 1 ≤ y → y < i + 1 + j → ¬ Viol ns (i + 1) y)
          ⟨_, _, rfl, s2, fun y h1 h2 => by omega⟩ ?_ ?_
        · rintro j σ H3 hj ⟨v3, v4, rfl, s3, inv2⟩
          have ep : ((i + 1 : Nat) : Int) + (j : Int) = ((i + 1 + j : Nat) : Int) := by omega
          rw [ep]
          have hS3 := s3.seq hS
          obtain ⟨x, hx⟩ : ∃ x, x = i + 1 := ⟨_, rfl⟩
          obtain ⟨y, hy⟩ : ∃ y, y = i + 1 + j := ⟨_, rfl⟩
          rw [← hy, ← hx]
          have fx := fg_at (ns := ns) (k := x) (z := ((x : Nat) : Int) - 1) (by omega) (by omega) rfl
          have fy := fg_at (ns := ns) (k := y) (z := ((y : Nat) : Int) - 1) (by omega) (by omega) rfl
          refine ⟨_, rfl, _, rfl, _, _, rfl, rfl, a, _, _, _, rfl, rfl, hS3, fx, _, rfl, _, rfl, _, _, rfl, rfl, a, _, _, _, rfl, rfl, hS3, fy, _, _, rfl, rfl, ?_⟩
          refine ⟨fun σ H' => σ = [some (.ref a), some (.int (x : Nat)), some (.int (ns.length : Nat)), some (.int (y : Nat)), some (.int (fg ns x + fg ns y))] ∧ Same H H' ∧ ¬ (x + y ≤ ns.length ∧ fg ns (x + y) > fg ns x + fg ns y), ?_, ?_⟩
          · refine ⟨_, rfl, _, rfl, _, _, rfl, rfl, _, rfl, _, _, rfl, rfl, _, rfl, ?_⟩
            by_cases hc : x + y ≤ ns.length
            · refine ifT (decide_eq_true (by omega)) ?_
              refine ⟨_, rfl, _, rfl, _, rfl, _, _, rfl, rfl, _, _, rfl, rfl, a, _, _, _, rfl, rfl, hS3, fg_at (k := x + y) (by omega) hc (by omega), _, rfl, _, _, rfl, rfl, _, rfl, ?_⟩
              by_cases hv : fg ns (x + y) > fg ns x + fg ns y
              · exact ifT (decide_eq_true (by omega)) (kF (fun z => z.2 x y (by omega) (by omega) (by omega) (by omega) (.inl ⟨hc, hv⟩)) _ s3)
              · exact ifF (decide_eq_false (by omega)) ⟨rfl, s3, fun z => hv z.2⟩
            · exact ifF (decide_eq_false (by omega)) (iteF ⟨rfl, s3, fun z => hc z.1⟩)
          · rintro σ H4 ⟨rfl, s4, nv⟩
            have hS4 := s4.seq hS
            have em : ((x : Nat) : Int) * ((y : Nat) : Int) = ((x * y : Nat) : Int) := by rw [Int.natCast_mul]
            have xy1 : 1 ≤ x * y := Nat.mul_pos (by omega) (by omega)
            refine ⟨_, rfl, _, rfl, _, _, rfl, rfl, .inl ⟨by omega, by omega⟩, _, rfl, _, _, rfl, rfl, _, rfl, ?_⟩
            rw [em]
            have done : ¬ (x * y ≤ ns.length ∧ fg ns (x * y) > fg ns x + fg ns y) → ∃ v3 v4 : Option V, ([some (.ref a), some (.int (x : Nat)), some (.int (ns.length : Nat)), some (.int (y : Nat)), some (.int (fg ns x + fg ns y))] : St) = [some (.ref a), some (.int (x : Nat)), some (.int (ns.length : Nat)), v3, v4] ∧ Same H H4 ∧ ∀ y, x ≤ y → y < x + (j + 1) → ¬ Viol ns x y := fun nw => by
              refine ⟨_, _, rfl, s4, fun y' h1 h2 v => ?_⟩
              by_cases e : y' = y
              · subst e
                rcases v with v | v
                · exact nv v
                · exact nw v
              · rw [hx] at v
                exact inv2 y' (by omega) (by omega) v
            by_cases hc : x * y ≤ ns.length
            · refine ifT (decide_eq_true (by omega)) ?_
              refine ⟨_, rfl, _, rfl, _, rfl, _, _, rfl, rfl, .inl ⟨by omega, by omega⟩, _, _, rfl, rfl, a, _, _, _, rfl, rfl, hS4, fg_at (k := x * y) xy1 hc (by rw [em]), _, rfl, _, _, rfl, rfl, _, rfl, ?_⟩
              by_cases hv : fg ns (x * y) > fg ns x + fg ns y
              · exact ifT (decide_eq_true (by omega)) (kF (fun z => z.2 x y (by omega) (by omega) (by omega) (by omega) (.inr ⟨hc, hv⟩)) _ s4)
              · exact ifF (decide_eq_false (by omega)) (done fun z => hv z.2)
            · exact ifF (decide_eq_false (by omega)) (iteF (done fun z => hc z.1))
        · rintro σ H3 ⟨v3, v4, rfl, s3, inv2⟩
          refine ⟨_, _, _, rfl, s3, fun x y h1 h2 h3 h4 v => ?_⟩
          by_cases e : x = i + 1
          · subst e
            exact inv2 y h3 (by omega) v
          · exact inv x y h1 (by omega) h3 h4 v
      · rintro σ H2 ⟨v1, v3, v4, rfl, s2, inv⟩
        exact kT (floor_half h1 fun x y a1 a2 a3 => inv x y a1 (by omega) a2 a3) _ s2
end
end Fo
namespace Fo
open PySem L2 FO
/-! ### the class Least -/
/-- the fields of an answer -/
def lf (tv : V) (q : Addr) : List (Str × V) := putF "floor" (.ref q) (putF "text" tv [])
theorem tf_ : ¬ (("text" : Str) = "floor") := by decide +kernel
theorem lf_text (tv : V) (q : Addr) : (lf tv q).lookup ("text" : Str) = some tv := by
  unfold lf
  rw [lookup_putF, if_neg tf_, lookup_putF, if_pos rfl]
theorem lf_floor (tv : V) (q : Addr) : (lf tv q).lookup ("floor" : Str) = some (.ref q) := by
  unfold lf
  rw [lookup_putF, if_pos rfl]
theorem lf_no (tv : V) (q : Addr) {m : Str} (h1 : ¬ m = "floor") (h2 : ¬ m = "text") : (lf tv q).lookup m = none := by
  unfold lf
  rw [lookup_putF, if_neg h1, lookup_putF, if_neg h2]
  rfl
theorem lf_shows (tv : V) (q : Addr) : (lf tv q).lookup ("shows" : Str) = none := lf_no tv q (by decide +kernel) (by decide +kernel)
theorem sm_made {H : Hp} {x dx C : Addr} (nx : H x = none) (nd : H dx = none) : Same H (upd (upd H dx (.own x)) x (.ins C dx [])) := fun b o e => by
  rw [upd_ne (ne_of_none e nx), upd_ne (ne_of_none e nd)]
  exact e
/-- an answer stands at p: its text, its list at q -/
def LeastAt (C : Addr) (H : Hp) (p : Addr) (tv : V) (q : Addr) : Prop := ∃ dx, H p = some (.ins C dx (lf tv q))
structure LeC (K : PySem.W.Frag) (C : Addr) : Prop where
  cl : Cls K C
  nT : NoAttr K C "text"
  nF : NoAttr K C "floor"
section
variable {P : Program} {w : World} {K : PySem.W.Frag} {mg : Str → Option Value} {base : Heap} {CN C : Addr}
def spInit (K : PySem.W.Frag) (C : Addr) : Sp := fun vs H Q _ => ∃ (H0 : Hp) (p dx : Addr) (tv : V) (l : Addr) (xs : List V), vs = [.ref p, tv, .ref l] ∧ Same H0 H ∧ H0 p = none ∧ H p = some (.ins C dx []) ∧ SqL K H0 l xs ∧
  ∀ H' q, Same H0 H' → H0 q = none → LeastAt C H' p tv q → H' q = some (.lst xs) → Q .non H'
theorem scInit : FnScope ["self", "text", "floor"] ["self", "text", "floor"] (defScope sInit) := ⟨rfl, rfl, rfl, by decide +kernel, rfl, by decide +kernel, by decide +kernel⟩
theorem fn_init {f : Addr} {fd : FuncData} (F' : Fun K "__init__" "Least.__init__" sInit f fd) (L : LeC K C) (B : Bi mg) : FnOk P w K mg base CX0 1 f fd ["self", "text", "floor"] (spInit K C) := by
  refine F'.ok scInit (fun vs H Q E h => ?_) (fun cdv A outer s H vs Q E hr h => ?_)
  · obtain ⟨H0, p, dx, tv, l, xs, rfl, _⟩ := h
    rfl
  · obtain ⟨H0, p, dx, tv, l, xs, rfl, s0, np, hp, hl, k⟩ := h
    refine ⟨_, pss_cons (ps_fld (pv 0) (pv 1) rfl) (pss_one (ps_fld (pv 0) (pe_callTy call_list_of (by rfl) B.list (by decide +kernel) (pa_cons (pv 2) pa_nil)) rfl)), ?_⟩
    refine ⟨_, rfl, _, rfl, p, C, dx, _, rfl, hp, L.cl, L.nT, (by show 0 < 1000; decide), ?_⟩
    have s1 : Same H0 (upd H p (.ins C dx (putF "text" tv []))) := sm_put s0 np
    refine ⟨_, rfl, l, xs, rfl, .inl (s1.seq hl), fun q nq => ?_⟩
    have pq : p ≠ q := ne_of_none upd_same nq
    refine ⟨_, rfl, p, C, dx, _, rfl, (by rw [upd_ne pq, upd_same]), L.cl, L.nF, (by show 1 < 1000; decide), ?_⟩
    have s2 := sm_new (o := .lst xs) s1 nq
    exact k _ q (sm_put s2 np) (s1.free nq) ⟨dx, upd_same⟩ (by rw [upd_ne (Ne.symm pq), upd_same])
/-! ### shows -/
def spShows (K : PySem.W.Frag) (C : Addr) : Sp := fun vs H Q _ => ∃ (p : Addr) (z : Str) (q : Addr) (ns : List Int) (n : Int), vs = [.ref p, .int n] ∧ LeastAt C H p (.str z) q ∧ SqL K H q (ns.map V.int) ∧ z.length ≤ sizeLine ∧ 1 ≤ n ∧ n ≤ 1000 ∧
  (Shows (tl z) ns n → ∀ H', Same H H' → Q (.bl true) H') ∧ (¬ Shows (tl z) ns n → ∀ H', Same H H' → Q (.bl false) H')
theorem scShows : FnScope ["self", "number"] ["self", "number"] (defScope sShows) := ⟨rfl, rfl, rfl, by decide +kernel, rfl, by decide +kernel, by decide +kernel⟩
theorem fn_shows {f : Addr} {fd : FuncData} (F' : Fun K "shows" "Least.shows" sShows f fd) (L : LeC K C) (B : Bi mg) (W : Kp P w K mg base CX0 3 "worth_of" (spWorthOf K)) (Fl : Kp P w K mg base CX0 2 "is_floor" (spIsFloor K)) : FnOk P w K mg base CX0 4 f fd ["self", "number"] (spShows K C) := by
  refine F'.ok scShows (fun vs H Q E h => ?_) (fun cdv A outer s H vs Q E hr h => ?_)
  · obtain ⟨p, z, q, ns, n, rfl, _⟩ := h
    rfl
  · obtain ⟨p, z, q, ns, n, rfl, ⟨dx, hp⟩, hq, hz, n1, n2, kT, kF⟩ := h
    refine ⟨_, pss_cons (ps_if (PW.pt (pw_or (pt_cmpR op_ne (pk W hr (by decide) rfl (pa_cons (pe_fld (pv 0) rfl) pa_nil)) (pv 1) (nomark _))
        (pw_or (pt_cmpR op_ne (pe_callB call_len_seq (by rfl) B.len PySem.boot_len (pa_cons (pe_fld (pv 0) rfl) pa_nil)) (pv 1) (nomark _))
        (pw_or1 (pt_not (pt_val (pk Fl hr (by decide) rfl (pa_cons (pe_fld (pv 0) rfl) pa_nil)))))))) (pss_one (ps_ret pe_bl)) pss_nil)
      (pss_one (ps_ret (pe_cmpR op_eq (pe_ix ix_list (pe_fld (pv 0) rfl) (pe_un un_neg pe_int) (fun _ _ => rfl)) (pe_m1 PySem.F.slot_str_count PySem.F.type_str_count mt_count (pe_fld (pv 0) rfl) pe_str) (nomark _)))), ?_⟩
    refine ⟨_, rfl, p, C, dx, _, _, rfl, hp, L.cl, L.nT, lf_text _ _, _, rfl, .inl ⟨z, rfl, hz, fun H1 s1 => ?_⟩⟩
    have hp1 := sm_at s1 hp
    have hq1 := s1.seq hq
    refine ⟨_, rfl, rfl, _, rfl, ?_⟩
    by_cases c1 : ¬ worthL (tl z) = n
    · exact ifT (by rw [decide_eq_false (fun e => c1 (V.int.inj e))]; rfl) (iteT (kF (fun sh => c1 sh.1) _ s1))
    have c1 := Classical.not_not.mp c1
    refine ifF (by rw [decide_eq_true (by rw [c1])]; rfl) ?_
    refine ⟨_, rfl, p, C, dx, _, _, rfl, hp1, L.cl, L.nF, lf_floor _ _, q, _, rfl, .inl hq1, _, rfl, rfl, _, rfl, ?_⟩
    rw [List.length_map]
    by_cases c2 : ¬ ((ns.length : Nat) : Int) = n
    · exact ifT (by rw [decide_eq_false (fun e => c2 (V.int.inj e))]; rfl) (iteT (kF (fun sh => c2 sh.2.1) _ s1))
    have c2 := Classical.not_not.mp c2
    refine ifF (by rw [decide_eq_true (by rw [c2])]; rfl) ?_
    refine ⟨_, rfl, p, C, dx, _, _, rfl, hp1, L.cl, L.nF, lf_floor _ _, q, ns, rfl, hq1, by omega, by omega, fun fl H2 s2 => ?_, fun fl H2 s2 => ?_⟩
    · refine ⟨_, rfl, iteF ?_⟩
      have hp2 := sm_at s2 hp1
      refine ⟨_, rfl, p, C, dx, _, _, rfl, hp2, L.cl, L.nF, lf_floor _ _, _, rfl, q, _, _, .int (fg ns ns.length), rfl, rfl, s2.seq hq1, ?_, _, rfl, p, C, dx, _, _, rfl, hp2, L.cl, L.nT, lf_text _ _, ⟨z, rfl⟩, z, _, rfl, rfl, rfl, ?_⟩
      · refine atI_neg (k := 1) (by decide) (by rw [List.length_map]; omega) ?_ rfl
        unfold fg
        rw [List.length_map, List.getElem?_map, List.getElem?_eq_getElem (show ns.length - 1 < ns.length by omega), List.getD_eq_getElem?_getD, List.getElem?_eq_getElem (show ns.length - 1 < ns.length by omega)]
        rfl
      · show Q (.bl (decide (V.int (fg ns ns.length) = V.int (Txt.count z "1")))) H2
        rw [count_one]
        by_cases c3 : fg ns ns.length = ((tl z).count 49 : Nat)
        · rw [decide_eq_true (by rw [c3])]
          exact kT ⟨c1, c2, fl, c3⟩ _ (s1.trans s2)
        · rw [decide_eq_false (fun e => c3 (V.int.inj e))]
          exact kF (fun sh => c3 sh.2.2.2) _ (s1.trans s2)
    · exact ⟨_, rfl, iteT (kF (fun sh => fl sh.2.2.1) _ (s1.trans s2))⟩
/-! ### least -/
def spLeast (K : PySem.W.Frag) (CN C : Addr) : Sp := fun vs H Q E => ∃ (v : V), vs = [v] ∧ AskN K v H 200 (fun n => ∀ H' p q t, Same H H' → H p = none → H q = none → LeastAt C H' p (.str t) q → H' q = some (.lst ((fl1 n.toNat).map V.int)) → Wr (tl t) (n.toNat : Nat) (F n.toNat) → Q (.ref p) H') (E (.ref CN) none H)
theorem scLeast : FnScope ["number", "few", "ways"] ["number"] (defScope sLeast) := ⟨rfl, rfl, rfl, by decide +kernel, rfl, by decide +kernel, by decide +kernel⟩
theorem cut_fl (n : Nat) : cutV ((fl (n + 1)).map V.int) (some 1) none = (fl1 n).map V.int := by
  unfold cutV
  have e1 : HT.sIx ((fl (n + 1)).map V.int).length 0 (some 1) = 1 := by
    rw [List.length_map, fl_len]
    show (if (1 : Int) < 0 then (1 + ((n + 1 : Nat) : Int)).toNat else min (1 : Int).toNat (n + 1)) = 1
    rw [if_neg (by decide)]
    show min 1 (n + 1) = 1
    omega
  have e2 : HT.sIx ((fl (n + 1)).map V.int).length ((fl (n + 1)).map V.int).length none = n + 1 := by
    show ((fl (n + 1)).map V.int).length = n + 1
    rw [List.length_map, fl_len]
  rw [e1, e2, List.take_of_length_le (by rw [List.length_drop, List.length_map, fl_len]; omega)]
  unfold fl fl1
  rw [List.range_succ_eq_map]
  simp [Nat.add_comm]
theorem ok_least (D : Dn K mg "least" sLeast) (Ck : Kp P w K mg base (L2.CX P w) 2 "check_number" (spCheckNumber K CN)) (T : Kp P w K mg base CX0 1 "table_of" spTable) (Tb : Kp P w K mg base CX0 202 "text_by" (spTextBy K 200)) (M : C8.Mak P w K mg base 1 "Least" C (spInit K C) []) : Kp P w K mg base (L2.CX P w) 203 "least" (spLeast K CN C) := by
  obtain ⟨f, fd, F', hm⟩ := D.ex
  refine ⟨f, fd, ["number"], F'.okX scLeast (fun vs H Q E h => ?_) (fun cdv A outer s H vs Q E hr h => ?_), hm, F'.kp, F'.binds fun _ _ _ _ _ _ us hl => match us, hl with | [_], _ => rfl⟩
  · obtain ⟨v, rfl, _⟩ := h
    rfl
  · obtain ⟨v, rfl, h⟩ := h
    refine ⟨_, pss_cons (ps_expr (pkS Ck (takes_of rfl rfl rfl rfl) hr (by decide) rfl (pa_cons (pv 0) pa_nil)))
      (pss_cons (ps_asg (pk T hr (by decide) rfl (pa_cons (pv 0) pa_nil)) (pg_tup rfl (pgs_cons (pg_name (i := 1) scLeast.nd rfl (.inl rfl)) (pgs_cons (pg_name (i := 2) scLeast.nd rfl (.inl rfl)) pgs_nil))))
      (pss_one (ps_ret (C8.pe_mk M hr (by decide) rfl (pa_cons (pk Tb hr (by decide) rfl (pa_cons (pv 2) (pa_cons (pv 0) pa_nil))) (pa_cons (pe_slice sl_list (pv 1) (po_some pe_int) po_none) pa_nil)))))), ?_⟩
    rcases h with ⟨n, rfl, kb, kg⟩ | ⟨nw, kb⟩
    · refine ⟨_, rfl, _, rfl, .inl ⟨n, rfl, kb, fun h1 h2 => ?_⟩⟩
      obtain ⟨m, hm1⟩ : ∃ m : Nat, n = (m : Int) := ⟨n.toNat, by omega⟩
      subst hm1
      refine ⟨_, rfl, m, rfl, by omega, by omega, fun H1 p q r ws s1 nq nr hp hq hr' wo => ?_⟩
      refine ⟨p, _, rfl, SqT.of hp, rfl, _, _, rfl, _, _, rfl, rfl, ?_⟩
      refine ⟨_, rfl, _, rfl, r, m, m + 1, ws, rfl, SqL.of hr', wo, by omega, by omega, by omega, by omega, fun t wr => ?_⟩
      refine ⟨_, rfl, _, rfl, q, _, rfl, SqL.of hq, fun l nl => ?_⟩
      rw [cut_fl]
      obtain ⟨H2, e2, s2, hl⟩ := ab nl (.lst ((fl1 m).map V.int))
      rw [e2]
      intro x dx nx ndx ne
      have s12 := s1.trans s2
      refine ⟨H2, x, dx, _, l, _, rfl, sm_made nx ndx, nx, upd_same, SqL.of hl, fun H3 u s3 nu hx hu => ⟨rfl, ?_⟩⟩
      have z := kg h1 h2 H3 x u t (s12.trans s3) (s12.free nx) (s12.free nu) hx
      rw [Int.toNat_natCast] at z
      exact z hu wr
    · exact ⟨_, rfl, _, rfl, .inr ⟨nw, kb⟩⟩
end
end Fo
namespace Fo
open PySem L2 FO
/-! ### dicts as sets of numbers -/
structure DSet (kvs : List (Key × V)) (xs : List Int) : Prop where
  ks : kvs.map (·.1) = xs.map Sum.inl
  nd : xs.Nodup
theorem DSet.has {kvs : List (Key × V)} {xs : List Int} (d : DSet kvs xs) (x : Int) : (valV kvs (Sum.inl x)).isSome = decide (x ∈ xs) := by
  cases e : valV kvs (Sum.inl x) with
  | none =>
    have q := valV_not e
    rw [d.ks] at q
    rw [decide_eq_false (fun z => q (List.mem_map.mpr ⟨x, z, rfl⟩))]
    rfl
  | some v =>
    have q := valV_in e
    rw [d.ks] at q
    obtain ⟨y, hy, ey⟩ := List.mem_map.mp q
    cases ey
    rw [decide_eq_true hy]
    rfl
theorem DSet.len {kvs : List (Key × V)} {xs : List Int} (d : DSet kvs xs) : kvs.length = xs.length := by
  have q := congrArg List.length d.ks
  rw [List.length_map, List.length_map] at q
  exact q
theorem DSet.put {kvs : List (Key × V)} {xs : List Int} (d : DSet kvs xs) (x : Int) (v : V) : ∃ xs', DSet (putK kvs (Sum.inl x) v) xs' ∧ ∀ y, y ∈ xs' ↔ y ∈ xs ∨ y = x := by
  have h := d.has x
  by_cases hx : x ∈ xs
  · refine ⟨xs, ⟨?_, d.nd⟩, fun y => ⟨.inl, fun z => z.elim id fun e => by rw [e]; exact hx⟩⟩
    rw [decide_eq_true hx] at h
    unfold putK
    rw [valV_any, if_pos h, List.map_map, ← d.ks]
    congr 1
    funext kv
    show (if kv.1 = Sum.inl x then (kv.1, v) else kv).1 = kv.1
    split <;> rfl
  · rw [decide_eq_false hx] at h
    have hn : valV kvs (Sum.inl x) = none := by
      cases e : valV kvs (Sum.inl x) with
      | none => rfl
      | some _ => rw [e] at h; cases h
    refine ⟨xs ++ [x], ⟨?_, ?_⟩, fun y => by simp⟩
    · rw [putK_new v hn, List.map_append, d.ks, List.map_append]
      rfl
    · rw [List.nodup_append]
      refine ⟨d.nd, by simp, fun a ha b hb => ?_⟩
      rw [List.mem_singleton.mp hb]
      intro e
      rw [e] at ha
      exact hx ha
theorem few_of {most : Nat} {xs : List Int} (hn : xs.Nodup) (h : ∀ x ∈ xs, ∃ n : Nat, x = (n : Int) ∧ 1 ≤ n ∧ n ≤ most) : xs.length ≤ most := by
  have hsub : ∀ x ∈ xs, x ∈ (List.range most).map fun a => ((1 + a : Nat) : Int) := fun x hx => by
    obtain ⟨n, rfl, h1, h2⟩ := h x hx
    exact List.mem_map.mpr ⟨n - 1, List.mem_range.mpr (by omega), by rw [show 1 + (n - 1) = n by omega]⟩
  have q : xs.Perm (((List.range most).map fun a => ((1 + a : Nat) : Int)).filter fun y => decide (y ∈ xs)) := by
    refine (List.perm_ext_iff_of_nodup hn ?_).mpr fun a => ?_
    · refine List.Pairwise.filter _ ?_
      exact List.Pairwise.map (R := (· ≠ ·)) _ (fun a b h => by omega) List.nodup_range
    · rw [List.mem_filter, decide_eq_true_eq]
      exact ⟨fun z => ⟨hsub a z, z⟩, fun z => z.2⟩
  rw [q.length_eq]
  exact Nat.le_trans (List.length_filter_le _ _) (by rw [List.length_map, List.length_range]; exact Nat.le_refl _)
/-- all but what stands at x is kept -/
def SameB (x : Addr) (H H' : Hp) : Prop := ∀ b o, H b = some o → b ≠ x → H' b = some o
theorem SameB.refl (x : Addr) (H : Hp) : SameB x H H := fun _ _ h _ => h
theorem SameB.trans {x : Addr} {H H1 H2 : Hp} (a : SameB x H H1) (b : SameB x H1 H2) : SameB x H H2 := fun c o h n => b c o (a c o h n) n
theorem SameB.same {x : Addr} {H H1 H2 : Hp} (a : SameB x H H1) (b : Same H1 H2) : SameB x H H2 := fun c o h n => b c o (a c o h n)
theorem SameB.put {x : Addr} {H H1 : Hp} {o : HO} (a : SameB x H H1) : SameB x H (upd H1 x o) := fun c u h n => by
  rw [upd_ne n]
  exact a c u h n
/-- the lists of the counts -/
structure FoundOk (most : Nat) (H : Hp) (fs : List V) (c : Nat) : Prop where
  len : fs.length = c
  at' : ∀ j, j < c → ∃ r, fs[j]? = some (.ref r) ∧ H r = some (.lst ((cls most j).map V.int))
theorem FoundOk.keep {most c : Nat} {H H' : Hp} {fs : List V} (h : FoundOk most H fs c) (k : ∀ r xs, H r = some (.lst ((xs : List Int).map V.int)) → H' r = some (.lst (xs.map V.int))) : FoundOk most H' fs c :=
  ⟨h.len, fun j hj => let ⟨r, a, b⟩ := h.at' j hj; ⟨r, a, k _ _ b⟩⟩
theorem FoundOk.more {most c : Nat} {H : Hp} {fs : List V} {a b : Addr} (h : FoundOk most H fs c) (hc : 1 ≤ c) (ha : H a = some (.lst fs)) (hb : H b = some (.lst ((cls most c).map V.int))) : FoundOk most (upd H a (.lst (fs ++ [.ref b]))) (fs ++ [.ref b]) (c + 1) := by
  have apart : ∀ (r : Addr) (ms : List Int), H r = some (.lst (ms.map V.int)) → r ≠ a := fun r ms hr e => by
    subst e
    rw [ha] at hr
    have e := HO.lst.inj (Option.some.inj hr)
    obtain ⟨r', h0, _⟩ := h.at' 0 (by omega)
    rw [e] at h0
    cases ms with
    | nil => cases h0
    | cons m ms => cases h0
  refine ⟨by rw [List.length_append, h.len]; rfl, fun j hj => ?_⟩
  by_cases e : j = c
  · subst e
    exact ⟨b, by rw [List.getElem?_append_right (by rw [h.len]; omega), h.len, Nat.sub_self]; rfl, by rw [upd_ne (apart b _ hb)]; exact hb⟩
  · obtain ⟨r, x, y⟩ := h.at' j (by omega)
    exact ⟨r, by rw [List.getElem?_append_left (by rw [h.len]; omega)]; exact x, by rw [upd_ne (apart r _ y)]; exact y⟩
section
variable {P : Program} {w : World} {K : PySem.W.Frag} {mg : Str → Option Value} {base : Heap}
/-! ### _law_sets -/
def spSets : Sp := fun vs H Q _ => ∃ most many : Nat, vs = [.int (most : Nat), .int (many : Nat)] ∧ 1 ≤ most ∧ most ≤ 200 ∧ 1 ≤ many ∧ many ≤ 100 ∧ ∀ H' r fs, Same H H' → H r = none → H' r = some (.lst fs) → FoundOk most H' fs (many + 1) → Q (.ref r) H'
theorem scSets : FnScope nLawSets pLawSets (defScope sLawSets) := ⟨rfl, rfl, rfl, by decide +kernel, rfl, by decide +kernel, by decide +kernel⟩
def CovT (most : Nat) (xk xl : List Int) (t : Int) : Prop := t ≤ (most : Int) → ¬ t ∈ xk → t ∈ xl
theorem CovT.mono {most : Nat} {xk xl xl' : List Int} {t : Int} (h : CovT most xk xl t) (s : ∀ y ∈ xl, y ∈ xl') : CovT most xk xl' t := fun a b => s t (h a b)
theorem cls0 : ((List.range 201).all fun m => decide (cls m 0 = [])) = true := by decide +kernel
theorem cls1 : ((List.range 200).all fun m => decide (cls (m + 1) 1 = [1])) = true := by decide +kernel
theorem cls_0 {most : Nat} (h : most ≤ 200) : cls most 0 = [] := of_decide_eq_true (List.all_eq_true.mp cls0 most (List.mem_range.mpr (by omega)))
theorem cls_1 {most : Nat} (h1 : 1 ≤ most) (h : most ≤ 200) : cls most 1 = [1] := by
  have q := of_decide_eq_true (List.all_eq_true.mp cls1 (most - 1) (List.mem_range.mpr (by omega)))
  rw [show most - 1 + 1 = most by omega] at q
  exact q
theorem ok_sets (D : Dn K mg "_law_sets" sLawSets) (B : Bi mg) : Kp P w K mg base CX0 1 "_law_sets" spSets := by
  obtain ⟨f, fd, F', hm⟩ := D.ex
  refine ⟨f, fd, pLawSets, F'.ok scSets (fun vs H Q E h => ?_) (fun cdv A outer s H vs Q E hr h => ?_), hm, F'.kp, F'.binds fun _ _ _ _ _ _ us hl => match us, hl with | [_, _], _ => rfl⟩
  · obtain ⟨most, many, rfl, _⟩ := h
    rfl
  · obtain ⟨most, many, rfl, m1, m2, y1, y2, k⟩ := h
    refine ⟨_, (pss_cons (ps_par (i := 2) (j := 3) (by rfl) scSets.nd rfl rfl (by decide) rfl rfl (pa_cons (pe_lst (pa_cons (pe_lst pa_nil) (pa_cons (pe_lst (pa_cons pe_int pa_nil)) pa_nil))) (pa_cons (pe_disp (pps_cons pe_int pe_bl pps_nil) (by rfl) (by rfl) (fun z => by cases z) (by decide)) pa_nil)) (by rfl))
  (pss_cons (ps_for PassesOwn.never rfl (pi_range2 (by rfl) B.range (pa_cons pe_int (pa_cons (pe_op op_add (pv 1) pe_int) pa_nil))) (pg_name (i := 4) scSets.nd rfl (Or.inl rfl))
  (pss_cons (ps_set (i := 5) scSets.nd rfl (Or.inl rfl) pe_dnewK)
  (C8.pss_cut (ps_for PassesOwn.never rfl (pi_range2 (by rfl) B.range (pa_cons pe_int (pa_cons (pe_op op_add (pe_op op_fdiv (pv 4) pe_int) pe_int) pa_nil))) (pg_name (i := 6) scSets.nd rfl (Or.inl rfl))
  (pss_one (ps_for PassesOwn.never rfl (pi_list (pe_ix ix_list (pv 2) (pv 6) (fun _ _ => rfl))) (pg_name (i := 7) scSets.nd rfl (Or.inl rfl))
  (pss_one (ps_for PassesOwn.never rfl (pi_list (pe_ix ix_list (pv 2) (pe_op op_sub (pv 4) (pv 6)) (fun _ _ => rfl))) (pg_name (i := 8) scSets.nd rfl (Or.inl rfl))
  (pss_one (ps_for PassesOwn.never rfl (pi_tup (pe_tup (pa_cons (pe_op op_add (pv 7) (pv 8)) (pa_cons (pe_op op_mul (pv 7) (pv 8)) pa_nil)))) (pg_name (i := 9) scSets.nd rfl (Or.inl rfl))
  (pss_one (ps_if (PW.pt (pw_and (pt_cmpR op_le (pv 9) (pv 0) (nomark _)) (pw_and1 (pt_cmp (pc_dnotin (hu_of hr) (pv 9) (pv 3)))))) (pss_one (ps_dput (hu_of hr) (pv 5) (pv 9) pe_bl rfl)) pss_nil)))))))))
  (C8.pss_cut (ps_lock (ps_for PassesOwn.never rfl (pi_keys (pv 5)) (pg_name (i := 9) scSets.nd rfl (Or.inl rfl))
  (pss_one (ps_dput (hu_of hr) (pv 3) (pv 9) pe_bl rfl))))
  (pss_one (ps_expr (pe_bm PySem.F.plainAttrs_list PySem.F.slot_list_append PySem.F.type_list_append mt_append (pv 2) (pa_cons (pe_callB cr_sortedI (by rfl) B.sorted (by decide +kernel) (pa_cons (pe_callTy (call_list_dK rfl) (by rfl) B.list (by decide +kernel) (pa_cons (pv 5) pa_nil)) pa_nil)) pa_nil))))))))
  (pss_one (ps_ret (pv 2))))), ?_⟩
    have big : (16777216 : Nat) = sizeLine := PySem.sizeLine_eq.symm
    refine ⟨Nat.zero_le _, fun a0 n0 => ?_⟩
    obtain ⟨H1, e1, s1, h0⟩ := ab n0 (.lst [])
    rw [e1]
    refine ⟨(show 1 ≤ sizeLine by decide), fun a1 n1 => ?_⟩
    obtain ⟨H2, e2, s2, h1⟩ := ab n1 (.lst [V.int 1])
    rw [e2]
    refine ⟨(show 2 ≤ sizeLine by decide), fun fa nfa => ?_⟩
    obtain ⟨H3, e3, s3, hfa⟩ := ab nfa (.lst [V.ref a0, V.ref a1])
    rw [e3]
    intro ka nka
    refine ⟨upd_same, [(Sum.inl 1, .bl true)], rfl, by decide, ?_⟩
    rw [upd_upd]
    obtain ⟨H4, e4, s4, hka⟩ := ab nka (.dK (mergeK [] [((Sum.inl 1 : Key), V.bl true)]))
    rw [e4]
    refine ⟨_, _, rfl, ?_⟩
    have s14 := ((s1.trans s2).trans s3).trans s4
    have nfa0 : H fa = none := (s1.trans s2).free nfa
    have nka0 : H ka = none := ((s1.trans s2).trans s3).free nka
    have fk : fa ≠ ka := ne_of_none hfa nka
    have ds0 : DSet (mergeK [] [((Sum.inl 1 : Key), V.bl true)]) [1] := ⟨by rfl, by decide⟩
    have em : ((many : Int) + 1) = ((many + 1 : Nat) : Int) := by omega
    refine ⟨_, rfl, _, _, rfl, rfl, 2, _, rfl, ⟨by decide, by decide, by rw [em]; omega, by rw [em]; omega⟩, ?_⟩
    rw [show ((many : Int) + 1 - 2).toNat = many - 1 by omega]
    refine for_range (lo := 2) (n := many - 1) (fun i σ H' => ∃ (fs : List V) (kvs : List (Key × V)) (xk : List Int) (v4 v5 v6 v7 v8 v9 : Option V), σ = [some (.int (most : Nat)), some (.int (many : Nat)), some (.ref fa), some (.ref ka), v4, v5, v6, v7, v8, v9] ∧ Same H H' ∧ H' fa = some (.lst fs) ∧ FoundOk most H' fs (i + 2) ∧ H' ka = some (.dK kvs) ∧ DSet kvs xk ∧ ∀ x, x ∈ xk ↔ ∃ n : Nat, x = (n : Int) ∧ 1 ≤ n ∧ n ≤ most ∧ F n < i + 2)
      ⟨_, _, [1], _, _, _, _, _, _, rfl, s14, sm_at s4 hfa, ⟨rfl, fun j hj => ?_⟩, hka, ds0, fun x => ?_⟩ ?_ ?_
    · have : j = 0 ∨ j = 1 := by omega
      rcases this with rfl | rfl
      · exact ⟨a0, rfl, by rw [cls_0 m2]; exact sm_at ((s2.trans s3).trans s4) h0⟩
      · exact ⟨a1, rfl, by rw [cls_1 m1 m2]; exact sm_at (s3.trans s4) h1⟩
    · constructor
      · intro hx
        rw [List.mem_singleton.mp hx]
        exact ⟨1, rfl, by decide, m1, by rw [F_one]; decide⟩
      · rintro ⟨n, rfl, n1', n2', n3'⟩
        have p := F_pos n1' (show n ≤ 200 by omega)
        have q : ((n : Nat) : Int) ∈ cls most 1 := cls_mem.mpr ⟨n, rfl, n1', n2', by omega⟩
        rw [cls_1 m1 m2] at q
        exact q
    · rintro i σ H5 hi ⟨fs, kvs, xk, v4, v5, v6, v7, v8, v9, rfl, s5, hf5, fo, hk5, dk, kn⟩
      have ec : (2 : Int) + (i : Int) = ((i + 2 : Nat) : Int) := by omega
      rw [ec]
      obtain ⟨c, hc⟩ : ∃ c, c = i + 2 := ⟨_, rfl⟩
      rw [← hc] at fo kn ⊢
      intro la nla
      obtain ⟨G, eG, sG, hla⟩ := ab nla (.dK [])
      rw [eG]
      have fol : FoundOk most G fs c := fo.keep fun r xs h => sG _ _ h
      have hfG := sG _ _ hf5
      have hkG := sG _ _ hk5
      have kl : ka ≠ la := ne_of_none hk5 nla
      have fl' : fa ≠ la := ne_of_none hf5 nla
      have nla0 : H la = none := s5.free nla
      have lst_ne : ∀ {r : Addr} {xs : List V}, G r = some (.lst xs) → r ≠ la := fun h => ne_of h hla (by intro z; cases z)
      -- the loops that fill the line
      refine ⟨fun σ H' => ∃ (kvl : List (Key × V)) (xl : List Int) (v6 v7 v8 v9 : Option V), σ = [some (.int (most : Nat)), some (.int (many : Nat)), some (.ref fa), some (.ref ka), some (.int (c : Nat)), some (.ref la), v6, v7, v8, v9] ∧ SameB la G H' ∧ H' la = some (.dK kvl) ∧ DSet kvl xl ∧ ∀ x, x ∈ xl ↔ x ∈ cls most c, ?_, ?_⟩
      · have eh : ((c : Nat) : Int) / 2 + 1 = ((c / 2 + 1 : Nat) : Int) := by omega
        refine ⟨_, rfl, _, _, rfl, rfl, ⟨by decide, by decide⟩, _, _, rfl, rfl, 1, _, rfl, ⟨by decide, by decide, by rw [eh]; omega, by rw [eh]; omega⟩, ?_⟩
        rw [show (((c : Nat) : Int) / 2 + 1 - 1).toNat = c / 2 by omega]
        refine for_range (lo := 1) (n := c / 2) (fun i1 σ H' => ∃ (kvl : List (Key × V)) (xl : List Int) (v6 v7 v8 v9 : Option V), σ = [some (.int (most : Nat)), some (.int (many : Nat)), some (.ref fa), some (.ref ka), some (.int (c : Nat)), some (.ref la), v6, v7, v8, v9] ∧ SameB la G H' ∧ H' la = some (.dK kvl) ∧ DSet kvl xl ∧ (∀ x ∈ xl, x ∈ cls most c) ∧
            ∀ o, 1 ≤ o → o ≤ i1 → ∀ a ∈ cls most o, ∀ b ∈ cls most (c - o), CovT most xk xl (a + b) ∧ CovT most xk xl (a * b))
          ⟨[], [], _, _, _, _, rfl, SameB.refl _ _, hla, ⟨rfl, List.nodup_nil⟩, (fun x hx => by cases hx), fun o h1 h2 => by omega⟩ ?_ ?_
        · rintro i1 σ G1 hi1 ⟨kvl, xl, v6, v7, v8, v9, rfl, t1, hl1, dl, snd, cov⟩
          have eo : (1 : Int) + (i1 : Int) = ((i1 + 1 : Nat) : Int) := by omega
          rw [eo]
          obtain ⟨o, ho⟩ : ∃ o, o = i1 + 1 := ⟨_, rfl⟩
          rw [← ho]
          obtain ⟨r1, hr1, hL1⟩ := fol.at' o (by omega)
          obtain ⟨r2, hr2, hL2⟩ := fol.at' (c - o) (by omega)
          have ed : ((c : Nat) : Int) - ((o : Nat) : Int) = ((c - o : Nat) : Int) := by omega
          refine ⟨_, rfl, _, rfl, fa, _, _, _, rfl, rfl, SqL.of (t1 _ _ hfG fl'), atI_nat hr1, r1, rfl, ⟨_, SqL.of (t1 _ _ hL1 (lst_ne hL1))⟩, ?_⟩
          refine for_list (K := K) (a := r1) (xs := (cls most o).map V.int) (fun j σ H' => ∃ (kvl : List (Key × V)) (xl' : List Int) (v7 v8 v9 : Option V), σ = [some (.int (most : Nat)), some (.int (many : Nat)), some (.ref fa), some (.ref ka), some (.int (c : Nat)), some (.ref la), some (.int (o : Nat)), v7, v8, v9] ∧ SameB la G H' ∧ H' la = some (.dK kvl) ∧ DSet kvl xl' ∧ (∀ x ∈ xl', x ∈ cls most c) ∧ (∀ x ∈ xl, x ∈ xl') ∧
              ∀ a ∈ (cls most o).take j, ∀ b ∈ cls most (c - o), CovT most xk xl' (a + b) ∧ CovT most xk xl' (a * b))
            ⟨kvl, xl, _, _, _, rfl, t1, hl1, dl, snd, fun x hx => hx, fun a ha => by cases ha⟩ (fun j σ H' _ ⟨_, _, _, _, _, _, t', _⟩ => SqL.of (t' _ _ hL1 (lst_ne hL1))) ?_ ?_
          · rintro j x σ G2 hx ⟨kvl, xl2, v7, v8, v9, rfl, t2, hl2, dl2, snd2, sub2, cov2⟩
            obtain ⟨a, ha, rfl⟩ : ∃ a, (cls most o)[j]? = some a ∧ x = V.int a := by
              rw [List.getElem?_map] at hx
              cases q : (cls most o)[j]? with
              | none => rw [q] at hx; cases hx
              | some m => rw [q] at hx; exact ⟨m, rfl, (Option.some.inj hx).symm⟩
            have haM : a ∈ cls most o := List.mem_of_getElem? ha
            refine ⟨_, rfl, _, rfl, _, rfl, _, _, rfl, rfl, fa, _, _, _, rfl, rfl, SqL.of (t2 _ _ hfG fl'), by rw [ed]; exact atI_nat hr2, r2, rfl, ⟨_, SqL.of (t2 _ _ hL2 (lst_ne hL2))⟩, ?_⟩
            refine for_list (K := K) (a := r2) (xs := (cls most (c - o)).map V.int) (fun j σ H' => ∃ (kvl : List (Key × V)) (xl' : List Int) (v8 v9 : Option V), σ = [some (.int (most : Nat)), some (.int (many : Nat)), some (.ref fa), some (.ref ka), some (.int (c : Nat)), some (.ref la), some (.int (o : Nat)), some (.int a), v8, v9] ∧ SameB la G H' ∧ H' la = some (.dK kvl) ∧ DSet kvl xl' ∧ (∀ x ∈ xl', x ∈ cls most c) ∧ (∀ x ∈ xl2, x ∈ xl') ∧
                ∀ b ∈ (cls most (c - o)).take j, CovT most xk xl' (a + b) ∧ CovT most xk xl' (a * b))
              ⟨kvl, xl2, _, _, rfl, t2, hl2, dl2, snd2, fun x hx => hx, fun a ha => by cases ha⟩ (fun j σ H' _ ⟨_, _, _, _, _, t', _⟩ => SqL.of (t' _ _ hL2 (lst_ne hL2))) ?_ ?_
            · rintro j2 y σ G3 hy ⟨kvl, xl3, v8, v9, rfl, t3, hl3, dl3, snd3, sub3, cov3⟩
              obtain ⟨b, hb, rfl⟩ : ∃ b, (cls most (c - o))[j2]? = some b ∧ y = V.int b := by
                rw [List.getElem?_map] at hy
                cases q : (cls most (c - o))[j2]? with
                | none => rw [q] at hy; cases hy
                | some m => rw [q] at hy; exact ⟨m, rfl, (Option.some.inj hy).symm⟩
              have hbM : b ∈ cls most (c - o) := List.mem_of_getElem? hb
              obtain ⟨na, ena, na1, na2, na3⟩ := cls_mem.mp haM
              refine ⟨_, rfl, _, rfl, _, _, rfl, rfl, _, rfl, _, rfl, _, _, rfl, rfl, .inl ⟨by omega, by omega⟩, (show 2 ≤ sizeLine by decide), fun T nT => ?_⟩
              obtain ⟨G4, e4, t4, hT⟩ := ab nT (.tup [V.int (a + b), V.int (a * b)])
              rw [e4]
              have Tl : T ≠ la := fun e => by rw [e, hl3] at nT; cases nT
              refine ⟨T, rfl, ⟨_, SqT.of hT⟩, for_tup (K := K) (a := T) (xs := [V.int (a + b), V.int (a * b)])
                (fun m σ H' => ∃ (kvl : List (Key × V)) (xl' : List Int) (v9 : Option V), σ = [some (.int (most : Nat)), some (.int (many : Nat)), some (.ref fa), some (.ref ka), some (.int (c : Nat)), some (.ref la), some (.int (o : Nat)), some (.int a), some (.int b), v9] ∧ SameB la G4 H' ∧ H' la = some (.dK kvl) ∧ DSet kvl xl' ∧ (∀ x ∈ xl', x ∈ cls most c) ∧ (∀ x ∈ xl3, x ∈ xl') ∧ (1 ≤ m → CovT most xk xl' (a + b)) ∧ (2 ≤ m → CovT most xk xl' (a * b)))
                ⟨kvl, xl3, _, rfl, SameB.refl _ _, sm_at t4 hl3, dl3, snd3, fun x hx => hx, fun z => by omega, fun z => by omega⟩ (fun m σ H' _ ⟨_, _, _, _, t', _⟩ => SqT.of (t' _ _ hT Tl)) ?_ ?_⟩
              · rintro m y σ G5 hy ⟨kvl, xl4, v9, rfl, t5, hl5, dl5, snd5, sub5, p0, p1⟩
                have hm2 : m < 2 := (List.getElem?_eq_some_iff.mp hy).1
                have tGG5 : SameB la G G5 := (t3.same t4).trans t5
                obtain ⟨t, ey, ht, rest⟩ : ∃ t : Int, y = V.int t ∧ (t = a + b ∨ t = a * b) ∧ (∀ xl', (∀ x ∈ xl4, x ∈ xl') → CovT most xk xl' t → (1 ≤ m + 1 → CovT most xk xl' (a + b)) ∧ (2 ≤ m + 1 → CovT most xk xl' (a * b))) := by
                  have : m = 0 ∨ m = 1 := by omega
                  rcases this with rfl | rfl
                  · exact ⟨a + b, (Option.some.inj hy).symm, .inl rfl, fun xl' _ q => ⟨fun _ => q, fun z => by omega⟩⟩
                  · exact ⟨a * b, (Option.some.inj hy).symm, .inr rfl, fun xl' sb q => ⟨fun _ => (p0 (Nat.le_refl _)).mono sb, fun _ => q⟩⟩
                subst ey
                refine ⟨_, rfl, _, rfl, _, _, rfl, rfl, _, rfl, ?_⟩
                by_cases hle : t ≤ (most : Int)
                · refine ifT (decide_eq_true hle) ?_
                  have hk5' : G5 ka = some (.dK kvs) := tGG5 _ _ hkG kl
                  refine ⟨_, rfl, _, rfl, ka, _, rfl, DGet.k (k := Sum.inl t) hk5', _, rfl, ?_⟩
                  by_cases hk : t ∈ xk
                  · refine ifF (by rw [dk.has t, decide_eq_true hk]; rfl) ?_
                    have q := rest xl4 (fun x hx => hx) (fun _ nk => absurd hk nk)
                    exact ⟨kvl, xl4, _, rfl, t5, hl5, dl5, snd5, sub5, q.1, q.2⟩
                  · refine ifT (by rw [dk.has t, decide_eq_false hk]; rfl) ?_
                    obtain ⟨xl', dl', mem'⟩ := dl5.put t (.bl true)
                    obtain ⟨n, en, hn1, hn2, hn3⟩ := cls_step m2 (show o ≤ c by omega) haM hbM ht hle
                    have hFc : F n = c := by
                      have : ¬ F n < c := fun z => hk ((kn t).mpr ⟨n, en, hn1, hn2, z⟩)
                      omega
                    have tc : t ∈ cls most c := cls_mem.mpr ⟨n, en, hn1, hn2, hFc⟩
                    have lk : kvl.length < sizeLine := by
                      rw [dl5.len, ← big]
                      have := few_of (most := most) dl5.nd (fun x hx => by obtain ⟨n, e, a1, a2, _⟩ := cls_mem.mp (snd5 x hx); exact ⟨n, e, a1, a2⟩)
                      omega
                    have q := rest xl' (fun x hx => (mem' x).mpr (.inl hx)) (fun _ _ => (mem' t).mpr (.inr rfl))
                    refine ⟨_, rfl, _, rfl, la, _, rfl, DPut.k (k := Sum.inl t) hl5 lk, ?_⟩
                    exact ⟨_, xl', _, rfl, t5.put, upd_same, dl', fun x hx => ((mem' x).mp hx).elim (snd5 x) (fun e => by rw [e]; exact tc), fun x hx => (mem' x).mpr (.inl (sub5 x hx)), q.1, q.2⟩
                · refine ifF (decide_eq_false hle) (iteF ?_)
                  have q := rest xl4 (fun x hx => hx) (fun z => absurd z hle)
                  exact ⟨kvl, xl4, _, rfl, t5, hl5, dl5, snd5, sub5, q.1, q.2⟩
              · rintro σ G5 ⟨kvl, xl4, v9, rfl, t5, hl5, dl5, snd5, sub5, p0, p1⟩
                refine ⟨kvl, xl4, _, _, rfl, (t3.same t4).trans t5, hl5, dl5, snd5, fun x hx => sub5 x (sub3 x hx), fun b' hb' => ?_⟩
                rw [take_snoc hb] at hb'
                rcases List.mem_append.mp hb' with z | z
                · exact ⟨(cov3 b' z).1.mono sub5, (cov3 b' z).2.mono sub5⟩
                · rw [List.mem_singleton.mp z]
                  exact ⟨p0 (by show 1 ≤ 2; decide), p1 (by show 2 ≤ 2; decide)⟩
            · rintro σ G3 ⟨kvl, xl3, v8, v9, rfl, t3, hl3, dl3, snd3, sub3, cov3⟩
              rw [List.length_map, List.take_length] at cov3
              refine ⟨kvl, xl3, _, _, _, rfl, t3, hl3, dl3, snd3, fun x hx => sub3 x (sub2 x hx), fun a' ha' => ?_⟩
              rw [take_snoc ha] at ha'
              rcases List.mem_append.mp ha' with z | z
              · exact fun b hb => ⟨(cov2 a' z b hb).1.mono sub3, (cov2 a' z b hb).2.mono sub3⟩
              · rw [List.mem_singleton.mp z]
                exact cov3
          · rintro σ G2 ⟨kvl, xl2, v7, v8, v9, rfl, t2, hl2, dl2, snd2, sub2, cov2⟩
            rw [List.length_map, List.take_length] at cov2
            refine ⟨kvl, xl2, _, _, _, _, rfl, t2, hl2, dl2, snd2, fun o' h1 h2 a ha b hb => ?_⟩
            by_cases e : o' = o
            · subst e
              exact cov2 a ha b hb
            · exact ⟨(cov o' h1 (by omega) a ha b hb).1.mono sub2, (cov o' h1 (by omega) a ha b hb).2.mono sub2⟩
        · rintro σ G1 ⟨kvl, xl, v6, v7, v8, v9, rfl, t1, hl1, dl, snd, cov⟩
          refine ⟨kvl, xl, _, _, _, _, rfl, t1, hl1, dl, fun x => ⟨snd x, fun hx => ?_⟩⟩
          obtain ⟨n, rfl, n1', n2', n3'⟩ := cls_mem.mp hx
          obtain ⟨o, a, b, o1, o2, ha, hb, how⟩ := cls_split m2 (show 2 ≤ c by omega) n1' n2' n3'
          have cv := cov o o1 o2 a ha b hb
          have nk : ¬ ((n : Nat) : Int) ∈ xk := fun z => by
            obtain ⟨n', e, _, _, q⟩ := (kn _).mp z
            have : n' = n := by omega
            rw [this] at q
            omega
          rcases how with e | e
          · rw [e] at nk ⊢
            exact cv.1 (by omega) nk
          · rw [e] at nk ⊢
            exact cv.2 (by omega) nk
      · rintro σ G1 ⟨kvl, xl, v6, v7, v8, v9, rfl, t1, hl1, dl, mem⟩
        have hf1 := t1 _ _ hfG fl'
        have hk1 := t1 _ _ hkG kl
        have fo1 : FoundOk most G1 fs c := fol.keep fun r xs h => t1 _ _ h (lst_ne h)
        have s1' : Same H G1 := fun b o e => t1 b o ((s5.trans sG) b o e) (ne_of_none e nla0)
        -- for there in line: known[there] = True
        refine ⟨fun σ H' => ∃ (kvs' : List (Key × V)) (xk' : List Int) (v9 : Option V), σ = [some (.int (most : Nat)), some (.int (many : Nat)), some (.ref fa), some (.ref ka), some (.int (c : Nat)), some (.ref la), v6, v7, v8, v9] ∧ SameB ka G1 H' ∧ H' ka = some (.dK kvs') ∧ DSet kvs' xk' ∧ ∀ x, x ∈ xk' ↔ x ∈ xk ∨ x ∈ xl, ?_, ?_⟩
        · refine ⟨la, _, hl1, trivial, fun od => ?_⟩
          have hkz : upd G1 la (.frz od (.dK kvl)) ka = some (.dK kvs) := by rw [upd_ne kl]; exact hk1
          refine ⟨_, rfl, la, od, rfl, .inl ⟨kvl, upd_same, ?_⟩⟩
          refine for_it walk_keys (fun j σ H' => ∃ (kvs' : List (Key × V)) (xk' : List Int) (v9 : Option V), σ = [some (.int (most : Nat)), some (.int (many : Nat)), some (.ref fa), some (.ref ka), some (.int (c : Nat)), some (.ref la), v6, v7, v8, v9] ∧ SameB ka (upd G1 la (.frz od (.dK kvl))) H' ∧ H' ka = some (.dK kvs') ∧ DSet kvs' xk' ∧ ∀ x, x ∈ xk' ↔ x ∈ xk ∨ x ∈ xl.take j)
            ⟨kvs, xk, v9, rfl, SameB.refl _ _, hkz, dk, fun x => by simp⟩ (fun j σ H' _ ⟨_, _, _, _, t', _⟩ => t' _ _ upd_same (Ne.symm kl)) ?_ ?_
          · rintro j x σ G2 G3 hj ⟨kvs2, xk2, v9, rfl, t2, hk2, dk2, mem2⟩ ⟨rfl, ky, vv, hkv, rfl⟩
            obtain ⟨t, ht, rfl⟩ : ∃ t, xl[j]? = some t ∧ ky = Sum.inl t := by
              have q : (kvl.map (·.1))[j]? = some ky := by rw [List.getElem?_map, hkv]; rfl
              rw [dl.ks, List.getElem?_map] at q
              cases z : xl[j]? with
              | none => rw [z] at q; cases q
              | some m => rw [z] at q; exact ⟨m, rfl, (Option.some.inj q).symm⟩
            obtain ⟨xk', dk', mem'⟩ := dk2.put t (.bl true)
            have lk : kvs2.length < sizeLine := by
              rw [dk2.len, ← big]
              have := few_of (most := most) dk2.nd (fun x hx => by
                rcases (mem2 x).mp hx with z | z
                · obtain ⟨n, e, a1, a2, _⟩ := (kn x).mp z
                  exact ⟨n, e, a1, a2⟩
                · obtain ⟨n, e, a1, a2, _⟩ := cls_mem.mp ((mem x).mp (List.mem_of_mem_take z))
                  exact ⟨n, e, a1, a2⟩)
              omega
            refine ⟨_, rfl, _, rfl, ka, _, rfl, DPut.k (k := Sum.inl t) hk2 lk, ?_⟩
            refine ⟨_, xk', _, rfl, t2.put, upd_same, dk', fun x => ?_⟩
            rw [mem', mem2, take_snoc ht, List.mem_append, List.mem_singleton]
            exact or_assoc
          · rintro σ G2 ⟨kvs2, xk2, v9, rfl, t2, hk2, dk2, mem2⟩
            refine ⟨t2 _ _ upd_same (Ne.symm kl), kvs2, xk2, _, rfl, fun b o e n => ?_, by rw [upd_ne kl]; exact hk2, dk2, fun x => ?_⟩
            · by_cases eb : b = la
              · subst eb
                rw [hl1] at e
                rw [upd_same]
                exact e
              · rw [upd_ne eb]
                exact t2 b o (by rw [upd_ne eb]; exact e) n
            · rw [mem2, dl.len, List.take_length]
        · rintro σ G2 ⟨kvs2, xk2, v9, rfl, t2, hk2, dk2, mem2⟩
          have hl2 := t2 _ _ hl1 (Ne.symm kl)
          have hf2 := t2 _ _ hf1 fk
          have fo2 : FoundOk most G2 fs c := fo1.keep fun r xs h => t2 _ _ h (ne_of h hk1 (by intro z; cases z))
          have s2' : Same H G2 := fun b o e => t2 b o (s1' b o e) (ne_of_none e nka0)
          refine ⟨_, rfl, .inl ⟨rfl, _, SqL.of hf2⟩, _, rfl, la, kvl, rfl, hl2, fun u nu => ?_⟩
          have ekx : (kvl.map fun kv => kV kv.1) = xl.map V.int := by
            have : (kvl.map fun kv => kV kv.1) = (kvl.map (·.1)).map kV := by rw [List.map_map]; rfl
            rw [this, dl.ks, List.map_map]
            rfl
          rw [ekx]
          obtain ⟨G3, e3, t3, hu⟩ := ab nu (.lst (xl.map V.int))
          rw [e3]
          refine ⟨u, xl, rfl, SqL.of hu, fun ys p hp hs np => ?_⟩
          have ey : ys = cls most c := cls_of dl.nd mem hp hs
          subst ey
          obtain ⟨G4, e4, t4, hp4⟩ := ab np (.lst ((cls most c).map V.int))
          rw [e4]
          have t34 := t3.trans t4
          have hf4 := t34 _ _ hf2
          have fo4 : FoundOk most G4 fs c := fo2.keep fun r xs h => t34 _ _ h
          refine ⟨fa, _, _, rfl, rfl, hf4, by rw [fo4.len, ← big]; omega, ?_⟩
          refine ⟨fs ++ [.ref p], kvs2, xk2, _, _, _, _, _, _, rfl, sm_put (s2'.trans t34) nfa0, upd_same, ?_, ?_, dk2, fun x => ?_⟩
          · rw [show i + 1 + 2 = c + 1 by omega]
            exact fo4.more (by omega) hf4 hp4
          · rw [upd_ne (Ne.symm fk)]
            exact t34 _ _ hk2
          · rw [mem2, kn, mem, cls_mem]
            constructor
            · rintro (⟨n, e, a1, a2, a3⟩ | ⟨n, e, a1, a2, a3⟩)
              · exact ⟨n, e, a1, a2, by omega⟩
              · exact ⟨n, e, a1, a2, by omega⟩
            · rintro ⟨n, e, a1, a2, a3⟩
              by_cases z : F n < c
              · exact .inl ⟨n, e, a1, a2, z⟩
              · exact .inr ⟨n, e, a1, a2, by omega⟩
    · rintro σ H5 ⟨fs, kvs, xk, v4, v5, v6, v7, v8, v9, rfl, s5, hf5, fo, hk5, dk, kn⟩
      rw [show many - 1 + 2 = many + 1 by omega] at fo
      exact ⟨_, rfl, k H5 fa fs s5 nfa0 hf5 fo⟩
end
end Fo
namespace Fo
open PySem L2 FO
section
variable {P : Program} {w : World} {K : PySem.W.Frag} {mg : Str → Option Value} {base : Heap}
/-! ### _law_number: some number -/
def spNumber : Sp := fun vs H Q _ => ∃ c a h : Int, vs = [.int c, .int a, .int h] ∧ c.natAbs < 2 ^ 2000000 ∧ 0 ≤ a ∧ a ≤ 1000 ∧ 0 ≤ h ∧ h ≤ 1000 ∧ ∀ z : Int, Q (.int z) H
theorem scNumber : FnScope nLawNumber pLawNumber (defScope sLawNumber) := ⟨rfl, rfl, rfl, by decide +kernel, rfl, by decide +kernel, by decide +kernel⟩
theorem small_lt {x : Int} {n : Nat} (h : x.natAbs < 2 ^ n) (m : Nat) (hm : n ≤ m) : x.natAbs < 2 ^ m := Nat.lt_of_lt_of_le h (Nat.pow_le_pow_right (by decide) hm)
theorem add_lt {x y : Int} {n : Nat} (hx : x.natAbs < 2 ^ n) (hy : y.natAbs < 2 ^ n) : (x + y).natAbs < 2 ^ (n + 1) := by
  have := Int.natAbs_add_le x y
  rw [Nat.pow_succ]
  omega
theorem mul_lt {x y : Int} {m n : Nat} (hx : x.natAbs < 2 ^ m) (hy : y.natAbs < 2 ^ n) : (x * y).natAbs < 2 ^ (m + n) := by
  rw [Int.natAbs_mul, Nat.pow_add]
  exact Nat.mul_lt_mul'' hx hy
theorem ok_number (D : Dn K mg "_law_number" sLawNumber) : Kp P w K mg base CX0 1 "_law_number" spNumber := by
  obtain ⟨f, fd, F, hm⟩ := D.ex
  refine ⟨f, fd, pLawNumber, F.ok scNumber (fun vs H Q E h => ?_) (fun cdv A outer s H vs Q E hr h => ?_), hm, F.kp, F.binds fun _ _ _ _ _ _ us hl => match us, hl with | [_, _, _], _ => rfl⟩
  · obtain ⟨c, a, h, rfl, _⟩ := h
    rfl
  · obtain ⟨c, a, h, rfl, hc, a0, a1, h0, h1, k⟩ := h
    refine ⟨_, pss_cons (ps_if (pt_cmpR op_ge (pv 0) (pe_op op_pow pe_int pe_int) (nomark _)) (pss_one (ps_ret (pv 0))) pss_nil)
      (pss_cons (ps_set (i := 3) scNumber.nd rfl (Or.inl rfl) (pe_op op_mod (pe_op op_add (pe_op op_mulX (pe_op op_add (pv 0) (pe_op op_mulX pe_int (pv 1))) pe_int) (pv 2)) pe_int))
      (pss_cons (ps_set (i := 4) scNumber.nd rfl (Or.inl rfl) (pe_op op_mulX (pe_op op_mulX (pv 3) (pe_op op_add (pe_op op_add (pv 3) (pe_op op_mulX pe_int (pv 1))) pe_int)) (pe_op op_add (pe_op op_add (pv 3) (pv 0)) pe_int)))
      (pss_one (ps_ret (pe_op op_fdivN (pe_op op_mulX (pv 4) (pe_op op_add (pv 4) pe_int)) pe_int))))), ?_⟩
    refine ⟨_, rfl, _, _, rfl, rfl, ⟨by decide, by decide, by decide⟩, _, _, rfl, rfl, _, rfl, ?_⟩
    have ha : a.natAbs < 2 ^ 10 := by show a.natAbs < 1024; omega
    have hh : h.natAbs < 2 ^ 10 := by show h.natAbs < 1024; omega
    have e1 : (977 * a).natAbs < 2 ^ 20 := mul_lt (m := 10) (n := 10) (by decide) ha
    have e2 : (c + 977 * a).natAbs < 2 ^ 2000001 := add_lt hc (small_lt e1 _ (by decide))
    refine ite2 (fun _ => ⟨_, rfl, k c⟩) (fun _ => ?_)
    have hmod : ∀ x : Int, (x % 2147483647).natAbs < 2 ^ 31 := fun x => by
      have p1 := Int.emod_nonneg x (show (2147483647 : Int) ≠ 0 by decide)
      have p2 := Int.emod_lt_of_pos x (show (0 : Int) < 2147483647 by decide)
      show _ < 2147483648
      omega
    refine ⟨_, rfl, _, rfl, _, _, rfl, rfl, mulx_ok (a := 10) (b := 10) (by decide) ha (by decide), _, _, rfl, rfl, _, _, rfl, rfl, mulx_ok (a := 2000001) (b := 16) e2 (by decide) (by decide), _, rfl, _, _, rfl, rfl, _, _, rfl, rfl, (by show (0 : Int) < 2147483647; decide), ?_⟩
    have hx := hmod ((c + 977 * a) * 48271 + h)
    obtain ⟨x, ex⟩ : ∃ x, x = ((c + 977 * a) * 48271 + h) % 2147483647 := ⟨_, rfl⟩
    rw [← ex] at hx
    have g1 : (31 * a).natAbs < 2 ^ 15 := mul_lt (m := 5) (n := 10) (by decide) ha
    have g2 : (x + 31 * a).natAbs < 2 ^ 32 := add_lt hx (small_lt g1 _ (by decide))
    have g3 : (x + 31 * a + 7).natAbs < 2 ^ 33 := add_lt g2 (by decide)
    have g4 : (x * (x + 31 * a + 7)).natAbs < 2 ^ 64 := mul_lt (m := 31) (n := 33) hx g3
    have g5 : (x + c).natAbs < 2 ^ 2000001 := add_lt (small_lt hx _ (by decide)) hc
    have g6 : (x + c + 5).natAbs < 2 ^ 2000002 := add_lt g5 (small_lt (n := 3) (by decide) _ (by decide))
    have g7 : (x * (x + 31 * a + 7) * (x + c + 5)).natAbs < 2 ^ 2000066 := mul_lt (m := 64) (n := 2000002) g4 g6
    have g8 : (x * (x + 31 * a + 7) * (x + c + 5) + 48271).natAbs < 2 ^ 2000067 := add_lt g7 (small_lt (n := 16) (by decide) _ (by decide))
    show gName 3 (V.int (((c + 977 * a) * 48271 + h) % 2147483647)) _ _ _
    rw [← ex]
    refine ⟨_, rfl, _, rfl, _, rfl, _, _, rfl, rfl, mulx_ok (a := 5) (b := 10) (by decide) ha (by decide), _, _, rfl, rfl, _, _, rfl, rfl, _, _, rfl, rfl, mulx_ok (a := 31) (b := 33) hx g3 (by decide),
      _, rfl, _, rfl, _, _, rfl, rfl, _, _, rfl, rfl, _, _, rfl, rfl, mulx_ok (a := 64) (b := 2000002) g4 g6 (by decide), ?_⟩
    refine ⟨_, rfl, _, rfl, _, _, rfl, rfl, _, _, rfl, rfl, mulx_ok (a := 2000066) (b := 2000067) g7 g8 (by decide), _, _, rfl, rfl, ⟨by decide, by decide⟩, k _⟩
end
end Fo
namespace Fo
open PySem L2 FO
section
variable {P : Program} {w : World} {K : PySem.W.Frag} {mg : Str → Option Value} {base : Heap}
/-! ### _law_closed -/
def spClosed (K : PySem.W.Frag) : Sp := fun vs H Q _ => ∃ (a : Addr) (S : List Itm), vs = [.ref a] ∧ SqL K H a (stV S) ∧ S.length ≤ 2001 ∧ phi S ≤ 2001 ∧
  ∀ H' q, Same H H' → H q = none → H' q = some (.lst (match doneS S with | some S' => stV S' | none => [])) → Q (.ref q) H'
theorem scClosed : FnScope nLawClosed pLawClosed (defScope sLawClosed) := ⟨rfl, rfl, rfl, by decide +kernel, rfl, by decide +kernel, by decide +kernel⟩
theorem isi_it {K : PySem.W.Frag} {H : Hp} : ∀ x : Itm, ∃ t, TyX K H (itV x) t ∧ PySem.W.kitOne K t (.type "int") = some (match x with | .inl _ => true | .inr _ => false)
  | .inl n => ⟨.type "int", .base (.int n), kit_ty (r := true) (by decide +kernel)⟩
  | .inr c => ⟨.type "str", .base (.str _), kit_ty (r := false) (by decide +kernel)⟩
theorem at4 {xs : List V} {j : Nat} {v : V} (h : xs[j]? = some v) {z : Int} (hz : z = (j : Int)) : atI xs z = some v := by
  subst hz
  exact atI_nat h
theorem cut_last (l r : List V) (hr : r.length = 4) : cutV (l ++ r) (some (-4)) none = r := by
  unfold cutV
  have e : (l ++ r).length = l.length + 4 := by rw [List.length_append, hr]
  have e1 : HT.sIx (l ++ r).length 0 (some (-4)) = l.length := by
    show (if (-4 : Int) < 0 then (-4 + ((l ++ r).length : Int)).toNat else min (-4 : Int).toNat (l ++ r).length) = l.length
    rw [if_pos (by decide), e]
    omega
  have e2 : HT.sIx (l ++ r).length (l ++ r).length none = l.length + 4 := by
    show (l ++ r).length = _
    exact e
  rw [e1, e2, List.drop_left]
  exact List.take_of_length_le (by omega)
theorem cut_first (l r : List V) (hr : r.length = 4) : cutV (l ++ r) none (some (-4)) = l := by
  unfold cutV
  have e : (l ++ r).length = l.length + 4 := by rw [List.length_append, hr]
  have e1 : HT.sIx (l ++ r).length (l ++ r).length (some (-4)) = l.length := by
    show (if (-4 : Int) < 0 then (-4 + ((l ++ r).length : Int)).toNat else min (-4 : Int).toNat (l ++ r).length) = l.length
    rw [if_pos (by decide), e]
    omega
  have e2 : HT.sIx (l ++ r).length 0 none = 0 := rfl
  rw [e1, e2, List.drop_zero, Nat.sub_zero, List.take_left]
theorem cut_short (l : List V) (hr : l.length < 4) : cutV l (some (-4)) none = l := by
  unfold cutV
  have e1 : HT.sIx l.length 0 (some (-4)) = 0 := by
    show (if (-4 : Int) < 0 then (-4 + (l.length : Int)).toNat else min (-4 : Int).toNat l.length) = 0
    rw [if_pos (by decide)]
    omega
  have e2 : HT.sIx l.length l.length none = l.length := rfl
  rw [e1, e2, List.drop_zero]
  exact List.take_of_length_le (by omega)
theorem split4 {S : List Itm} (h : ¬ S.length < 4) : ∃ o u x p r, S = o :: u :: x :: p :: r := by
  match S, h with
  | o :: u :: x :: p :: r, _ => exact ⟨o, u, x, p, r, rfl⟩
  | [], h => exact absurd (by decide) h
  | [_], h => exact absurd (by simp) h
  | [_, _], h => exact absurd (by simp) h
  | [_, _, _], h => exact absurd (by simp) h
theorem ok_closed (D : Dn K mg "_law_closed" sLawClosed) (B : Bi mg) : Kp P w K mg base CX0 1 "_law_closed" (spClosed K) := by
  obtain ⟨f, fd, F, hm⟩ := D.ex
  refine ⟨f, fd, pLawClosed, F.ok scClosed (fun vs H Q E h => ?_) (fun cdv A outer s H vs Q E hr h => ?_), hm, F.kp, F.binds fun _ _ _ _ _ _ us hl => match us, hl with | [_], _ => rfl⟩
  · obtain ⟨a, S, rfl, _⟩ := h
    rfl
  · obtain ⟨a, S, rfl, hS, hlen, hphi, k⟩ := h
    refine ⟨_, pss_cons (ps_set (i := 1) scClosed.nd rfl (Or.inl rfl) (pe_slice sl_list (pv 0) (po_some (pe_un un_neg pe_int)) po_none))
      (pss_cons (ps_if (PW.pt (pw_or (pt_cmpR op_lt (pe_callB call_len_seq (by rfl) B.len PySem.boot_len (pa_cons (pv 1) pa_nil)) pe_int (nomark _))
        (pw_or (pt_cmpR op_ne (pe_ix ix_list (pv 1) pe_int (fun _ _ => rfl)) pe_str (nomark _))
        (pw_or1 (pt_cmpR op_notIn_seq (pe_ix ix_list (pv 1) pe_int (fun _ _ => rfl)) (pe_lst (pa_cons pe_str (pa_cons pe_str pa_nil))) (by rfl))))))
          (pss_one (ps_ret (pe_lst pa_nil))) pss_nil)
      (pss_cons (ps_if (PW.pt (pw_or (pt_not (pt_val (pe_callB call_isi (by rfl) B.isi (by decide +kernel) (pa_cons (pe_ix ix_list (pv 1) pe_int (fun _ _ => rfl)) (pa_cons (pe_bltn (v := .ty "int") (by rfl) B.int (by decide +kernel) rfl) pa_nil)))))
          (pw_or1 (pt_not (pt_val (pe_callB call_isi (by rfl) B.isi (by decide +kernel) (pa_cons (pe_ix ix_list (pv 1) pe_int (fun _ _ => rfl)) (pa_cons (pe_bltn (v := .ty "int") (by rfl) B.int (by decide +kernel) rfl) pa_nil))))))))
          (pss_one (ps_ret (pe_lst pa_nil))) pss_nil)
      (pss_one (ps_ret (pe_op op_cat (pe_slice sl_list (pv 0) po_none (po_some (pe_un un_neg pe_int)))
        (pe_lst (pa_cons (pe_ifExp (pt_cmpR op_eq (pe_ix ix_list (pv 1) pe_int (fun _ _ => rfl)) pe_str (nomark _)) (pe_op op_add (pe_ix ix_list (pv 1) pe_int (fun _ _ => rfl)) (pe_ix ix_list (pv 1) pe_int (fun _ _ => rfl))) (pe_op op_mulX (pe_ix ix_list (pv 1) pe_int (fun _ _ => rfl)) (pe_ix ix_list (pv 1) pe_int (fun _ _ => rfl)))) pa_nil))))))), ?_⟩
    have nil : doneS S = none → ∀ H', Same H H' → tLst tNil [some (.ref a), none] H' Q := fun e H' s' => by
      refine ⟨Nat.zero_le _, fun q hq => k _ q (sm_new s' hq) (s'.free hq) ?_⟩
      rw [upd_same, e]
    have nil' : ∀ σ, doneS S = none → ∀ H', Same H H' → tLst tNil σ H' Q := fun σ e H' s' => nil e H' s'
    refine ⟨_, rfl, _, rfl, _, rfl, a, _, rfl, hS, fun c hc => ?_⟩
    have sC := sm_upd (o := .lst (cutV (stV S) (some (-4)) none)) hc
    refine ⟨_, rfl, c, _, rfl, .inl (SqL.of upd_same), _, _, rfl, rfl, _, rfl, ?_⟩
    by_cases hl : S.length < 4
    · refine ifT (decide_eq_true (by rw [cut_short _ (by rw [stV_length]; exact hl), stV_length]; omega)) (iteT (nil' _ (done_short hl) _ sC))
    obtain ⟨o, u, x, p, r, rfl⟩ := split4 hl
    have e4 : cutV (stV (o :: u :: x :: p :: r)) (some (-4)) none = [itV p, itV x, itV u, itV o] := by rw [stV4]; exact cut_last _ _ rfl
    rw [e4] at sC ⊢
    refine ifF (decide_eq_false (by show ¬ (4 : Int) < 4; decide)) ?_
    have ePar : ("(" : Str) = ⟨#[40]⟩ := by decide +kernel
    have ePlus : ("+" : Str) = ⟨#[43]⟩ := by decide +kernel
    have hC := SqL.of (K := K) (H := upd H c (.lst [itV p, itV x, itV u, itV o])) (a := c) (xs := [itV p, itV x, itV u, itV o]) upd_same
    refine ⟨_, rfl, c, _, _, _, rfl, rfl, hC, at4 (j := 0) rfl rfl, scal_it _ _, _, rfl, ?_⟩
    by_cases hp : ¬ p = Sum.inr 40
    · refine ifT ?_ (iteT (nil' _ ?_ _ sC))
      · rw [ePar, it_is, decide_eq_false hp]; rfl
      · unfold doneS
        split
        · rename_i b s a o' r' e
          injection e with e1 e; injection e with e2 e; injection e with e3 e; injection e with e4 e
          rw [if_neg (fun z => hp (by rw [e4, z]))]
        · rfl
    have hp := Classical.not_not.mp hp
    refine ifF (by rw [ePar, it_is, decide_eq_true hp]; rfl) ?_
    refine ⟨_, rfl, c, _, _, _, rfl, rfl, hC, at4 (j := 2) rfl rfl, by decide, fun T hT => ?_⟩
    refine ⟨T, _, rfl, .inl (SqL.of upd_same), flat_it _, rfl, _, rfl, ?_⟩
    have sT := sm_new (o := .lst [V.str "+", V.str "*"]) sC hT
    have hC1 : SqL K (upd (upd H c (.lst [itV p, itV x, itV u, itV o])) T (.lst [V.str "+", V.str "*"])) c [itV p, itV x, itV u, itV o] := SqL.of (by rw [upd_ne (ne_of_none upd_same hT), upd_same])
    by_cases hu : ¬ (u = Sum.inr 43 ∨ u = Sum.inr 42)
    · refine ifT ?_ (nil' _ ?_ _ sT)
      · show (!inV (itV u) _) = true
        rw [in_pm, decide_eq_false (fun z => hu (.inl z)), decide_eq_false (fun z => hu (.inr z))]; rfl
      · unfold doneS
        split
        · rename_i b s a o' r' e
          injection e with e1 e; injection e with e2 e; injection e with e3 e; injection e with e4 e
          rw [if_neg (show ¬ s = 43 from fun z => hu (.inl (by rw [e2, z]))), if_neg (show ¬ s = 42 from fun z => hu (.inr (by rw [e2, z])))]
          split <;> rfl
        · rfl
    have hu := Classical.not_not.mp hu
    refine ifF ?_ ?_
    · show (!inV (itV u) _) = false
      rw [in_pm]
      rcases hu with z | z
      · rw [decide_eq_true z]; rfl
      · rw [decide_eq_true z, Bool.or_true]; rfl
    obtain ⟨tx, ty1, kx⟩ := isi_it (K := K) (H := upd (upd H c (.lst [itV p, itV x, itV u, itV o])) T (.lst [V.str "+", V.str "*"])) x
    obtain ⟨to, ty2, ko⟩ := isi_it (K := K) (H := upd (upd H c (.lst [itV p, itV x, itV u, itV o])) T (.lst [V.str "+", V.str "*"])) o
    refine ⟨_, rfl, c, _, _, _, rfl, rfl, hC1, at4 (j := 1) rfl rfl, _, _, _, _, _, rfl, .ty "int", ty1, kx, _, rfl, ?_⟩
    cases x with
    | inr d => exact iteT (iteT (nil' _ (by unfold doneS; split <;> first | rfl | (rename_i e; injection e with e1 e; injection e with e2 e; injection e with e3 e; cases e3)) _ sT))
    | inl m =>
    refine iteF ⟨_, rfl, c, _, _, _, rfl, rfl, hC1, at4 (j := 3) rfl rfl, _, _, _, _, _, rfl, .ty "int", ty2, ko, _, rfl, ?_⟩
    cases o with
    | inr d => exact iteT (nil' _ (by unfold doneS; split <;> first | rfl | (rename_i e; injection e with e1 e; cases e1)) _ sT)
    | inl n =>
    refine iteF ?_
    refine ⟨_, rfl, _, rfl, _, rfl, a, _, rfl, sT.seq hS, fun R hR => ?_⟩
    rw [stV4, cut_first _ _ rfl]
    have sR := sm_new (o := .lst (stV r)) sT hR
    have hC2 := (sm_upd (o := .lst (stV r)) hR).seq hC1
    refine ⟨_, rfl, c, _, _, _, rfl, rfl, hC2, at4 (j := 2) rfl rfl, scal_it _ _, _, rfl, ?_⟩
    have fin : ∀ z : Int, doneS (.inl n :: u :: .inl m :: p :: r) = some (.inl z :: r) → ∀ D, upd (upd (upd H c (.lst [itV p, itV (.inl m), itV u, itV (.inl n)])) T (.lst [V.str "+", V.str "*"])) R (.lst (stV r)) D = none →
        rCat (V.ref R) (.ref D) (upd (upd (upd (upd H c (.lst [itV p, itV (.inl m), itV u, itV (.inl n)])) T (.lst [V.str "+", V.str "*"])) R (.lst (stV r))) D (.lst [V.int z])) Q := fun z hz D hD => by
      have sD := sm_new (o := .lst [V.int z]) sR hD
      refine ⟨R, D, _, _, rfl, rfl, (by rw [upd_ne (ne_of_none upd_same hD), upd_same]), upd_same, ?_, fun q hq => ?_⟩
      · rw [stV_length]
        simp only [List.length_cons] at hlen
        have e : sizeLine = 16777216 := PySem.sizeLine_eq
        rw [e]
        show r.length + 1 ≤ _
        omega
      · refine k _ q (sm_new sD hq) (sD.free hq) ?_
        rw [upd_same, hz]
        show some (HO.lst _) = some (HO.lst (stV (.inl z :: r)))
        rw [stV_cons]
        rfl
    by_cases h43 : u = Sum.inr 43
    · refine ifT (by rw [ePlus, it_is, decide_eq_true h43]) ?_
      refine ⟨_, rfl, c, _, _, _, rfl, rfl, hC2, at4 (j := 1) rfl rfl, _, rfl, c, _, _, _, rfl, rfl, hC2, at4 (j := 3) rfl rfl, m, n, rfl, rfl, (show 1 ≤ sizeLine by decide), fun D hD => fin _ ?_ D hD⟩
      rw [hp, h43]
      rfl
    · have h42 : u = Sum.inr 42 := hu.resolve_left h43
      refine ifF (by rw [ePlus, it_is, decide_eq_false h43]) ?_
      refine ⟨_, rfl, c, _, _, _, rfl, rfl, hC2, at4 (j := 1) rfl rfl, _, rfl, c, _, _, _, rfl, rfl, hC2, at4 (j := 3) rfl rfl, m, n, rfl, rfl, ?_, (show 1 ≤ sizeLine by decide), fun D hD => fin _ ?_ D hD⟩
      · rw [h42] at hphi
        simp only [phi] at hphi
        have b : ∀ x : Int, PySem.Builtin.Int.intBits x ≤ x.natAbs.log2 + 1 := fun x => by
          unfold PySem.Builtin.Int.intBits
          split <;> omega
        have b1 := b m
        have b2 := b n
        unfold CMulX
        omega
      · rw [hp, h42]
        rfl
/-! ### _law_read -/
def spRead : Sp := fun vs H Q _ => ∃ z : Str, vs = [.str z] ∧ z.length ≤ 2000 ∧ ∀ H', Same H H' → Q (.int (readL (tl z))) H'
theorem scRead : FnScope nLawRead pLawRead (defScope sLawRead) := ⟨rfl, rfl, rfl, by decide +kernel, rfl, by decide +kernel, by decide +kernel⟩
/-- the signs on the stack are plain -/
def okS (S : List Itm) : Prop := ∀ c : Nat, Sum.inr c ∈ S → c < 128
theorem okS_step {S S' : List Itm} {c : Nat} (o : okS S) (h : stepS S c = some S') : okS S' := by
  unfold stepS at h
  split at h
  · cases h
    intro d hd
    rcases List.mem_cons.mp hd with z | z
    · cases z
    · exact o d z
  · split at h
    · unfold doneS at h
      split at h
      · rename_i b s a o' r
        have m : ∀ y ∈ r, y ∈ (Sum.inl b :: Sum.inr s :: Sum.inl a :: Sum.inr o' :: r : List Itm) := fun y hy => by simp [hy]
        split at h
        · split at h
          · cases h
            intro d hd
            rcases List.mem_cons.mp hd with z | z
            · cases z
            · exact o d (m _ z)
          · split at h
            · cases h
              intro d hd
              rcases List.mem_cons.mp hd with z | z
              · cases z
              · exact o d (m _ z)
            · cases h
        · cases h
      · cases h
    · split at h
      · rename_i hc
        cases h
        intro d hd
        rcases List.mem_cons.mp hd with z | z
        · cases z
          omega
        · exact o d z
      · cases h
theorem okS_run : ∀ (t : List Nat) (S S' : List Itm), okS S → runS S t = some S' → okS S'
  | [], S, S', o, h => by cases h; exact o
  | c :: t, S, S', o, h => by
    unfold runS at h
    split at h
    · rename_i S1 e
      exact okS_run t S1 S' (okS_step o e) h
    · cases h
theorem okS_nil : okS [] := fun _ h => by cases h
theorem dp_it {K : PySem.W.Frag} {H : Hp} : ∀ l : List Itm, okS l → ∃ ds, DpAll K H (l.map itV) ds ∧ ds.length = l.length ∧ PyData.canLayAll0 ds = true ∧ PyData.depthAll ds = 0
  | [], _ => ⟨[], .nil, rfl, rfl, rfl⟩
  | x :: l, o => by
    obtain ⟨ds, h1, h2, h3, h4⟩ := dp_it (K := K) (H := H) l (fun c hc => o c (List.mem_cons_of_mem _ hc))
    cases x with
    | inl n => exact ⟨.int n :: ds, .cons (.int n) h1, by simp [h2], by simp [PyData.canLayAll0, PyData.canLay0, h3], by simp [PyData.depthAll, PyData.depth, h4]⟩
    | inr c =>
      have hc := o c List.mem_cons_self
      have hs : PyData.strOk ⟨#[c]⟩ = true := by
        simp [PyData.strOk]
        omega
      exact ⟨.str _ :: ds, .cons (.str _) h1, by simp [h2], by simp [PyData.canLayAll0, PyData.canLay0, h3, hs], by simp [PyData.depthAll, PyData.depth, h4]⟩
theorem eqv_nil (ds : List PyData) : PyData.eqv (.list ds) (.list []) = ds.isEmpty := by
  cases ds with
  | nil => decide
  | cons d ds => simp [PyData.eqv, PyData.eqvAll]
theorem ok_read (D : Dn K mg "_law_read" sLawRead) (B : Bi mg) (C : Kp P w K mg base CX0 1 "_law_closed" (spClosed K)) : Kp P w K mg base CX0 2 "_law_read" spRead := by
  obtain ⟨f, fd, F, hm⟩ := D.ex
  refine ⟨f, fd, pLawRead, F.ok scRead (fun vs H Q E h => ?_) (fun cdv A outer s H vs Q E hr h => ?_), hm, F.kp, F.binds fun _ _ _ _ _ _ us hl => match us, hl with | [_], _ => rfl⟩
  · obtain ⟨z, rfl, _⟩ := h
    rfl
  · obtain ⟨z, rfl, hz, k⟩ := h
    refine ⟨_, pss_cons (ps_par (i := 1) (j := 2) (by rfl) scRead.nd rfl rfl (by decide) rfl rfl (pa_cons (pe_lst pa_nil) (pa_cons pe_int pa_nil)) (by rfl))
      (pss_cons (ps_while PassesOwn.never (pt_cmpR op_lt (pv 2) (pe_callB call_len_str (by rfl) B.len PySem.boot_len (pa_cons (pv 0) pa_nil)) (nomark _))
        (pss_cons (ps_if (pt_cmpR op_notIn_sign (pe_ix ix_str (pv 0) (pv 2) (fun _ _ => rfl)) pe_str rfl) (pss_one (ps_ret pe_int)) pss_nil)
        (pss_cons (ps_if (pt_cmpR op_eq (pe_ix ix_str (pv 0) (pv 2) (fun _ _ => rfl)) pe_str (nomark _))
          (pss_cons (ps_set (i := 3) scRead.nd rfl (Or.inl rfl) (pk C hr (by decide) rfl (pa_cons (pv 1) pa_nil)))
          (pss_cons (ps_if (pt_cmpR (op_eqD hr.units) (pv 3) (pe_lst pa_nil) (nomark _)) (pss_one (ps_ret pe_int)) pss_nil)
          (pss_one (ps_set (i := 1) scRead.nd rfl (Or.inl rfl) (pv 3)))))
          (pss_one (ps_set (i := 1) scRead.nd rfl (Or.inl rfl) (pe_op op_cat (pv 1) (pe_lst (pa_cons (pe_ifExp (pt_cmpR op_eq (pe_ix ix_str (pv 0) (pv 2) (fun _ _ => rfl)) pe_str (nomark _)) pe_int (pe_ix ix_str (pv 0) (pv 2) (fun _ _ => rfl))) pa_nil))))))
        (pss_one (ps_set (i := 2) scRead.nd rfl (Or.inl rfl) (pe_op op_add (pv 2) pe_int))))))
      (pss_one (ps_ret (pe_ifExp (PW.pt (pw_and (pt_cmpR op_eq (pe_callB call_len_seq (by rfl) B.len PySem.boot_len (pa_cons (pv 1) pa_nil)) pe_int (nomark _))
          (pw_and1 (pt_val (pe_callB call_isi (by rfl) B.isi (by decide +kernel) (pa_cons (pe_ix ix_list (pv 1) pe_int (fun _ _ => rfl)) (pa_cons (pe_bltn (v := .ty "int") (by rfl) B.int (by decide +kernel) rfl) pa_nil)))))))
        (pe_ix ix_list (pv 1) pe_int (fun _ _ => rfl)) pe_int)))), ?_⟩
    have hlz : z.length = (tl z).length := by simp [tl, Str.length]
    have hsz : z.length ≤ sizeLine := Nat.le_trans hz (by decide)
    have bad : runS [] (tl z) = none → ∀ H', Same H H' → Q (.int 0) H' := fun e H' s => by
      have q := k H' s
      unfold readL at q
      rw [e] at q
      exact q
    refine ⟨Nat.zero_le _, fun q0 hq0 => ⟨_, _, rfl, ?_⟩⟩
    refine while_by (fun σ H' => ∃ (i : Nat) (S : List Itm) (q : Addr) (v : Option V), σ = [some (.str z), some (.ref q), some (.int i), v] ∧ i ≤ (tl z).length ∧ runS [] ((tl z).take i) = some S ∧ H' q = some (.lst (stV S)) ∧ H q = none ∧ Same H H')
      (fun σ _ => match σ with | [_, _, some (.int i), _] => (tl z).length - i.toNat | _ => 0) ⟨0, [], q0, none, rfl, Nat.zero_le _, rfl, upd_same, hq0, sm_upd hq0⟩ ?_ ?_
    · rintro σ H1 ⟨i, S, q, v, rfl, hi, hrun, hq, hn, hs⟩
      refine ⟨_, rfl, _, rfl, z, rfl, hsz, _, _, rfl, rfl, _, rfl, ?_⟩
      by_cases hlt : i < (tl z).length
      · refine ifT (decide_eq_true (by rw [hlz]; omega)) ?_
        obtain ⟨c, hcl⟩ : ∃ c, (tl z)[i]? = some c := ⟨_, List.getElem?_eq_getElem hlt⟩
        have hat : atI (tl z) (i : Int) = some c := atI_nat hcl
        have hlS : S.length ≤ 2000 := by
          have a := len_run _ _ _ hrun
          rw [List.length_take] at a
          simp only [List.length_nil] at a
          omega
        have hpS : phi S ≤ 2000 := by
          have a := phi_run _ _ _ hrun
          rw [List.length_take] at a
          simp only [phi] at a
          omega
        have oS : okS S := okS_run _ _ _ okS_nil hrun
        have e1 : ("1" : Str) = ⟨#[49]⟩ := by decide +kernel
        have e2 : (")" : Str) = ⟨#[41]⟩ := by decide +kernel
        have e3 : (("()+*1" : Str)).cps.toList = [40, 41, 43, 42, 49] := by decide +kernel
        have next : ∀ S', stepS S c = some S' → runS [] ((tl z).take (i + 1)) = some S' := fun S' e => by
          rw [take_snoc hcl, run_snoc hrun, e]
        have fall : ∀ j : Nat, j = i + 1 → (tl z).length - ((j : Nat) : Int).toNat < (tl z).length - ((i : Nat) : Int).toNat := fun j e => by
          rw [Int.toNat_natCast, Int.toNat_natCast]
          omega
        refine ⟨_, rfl, _, rfl, z, _, c, rfl, rfl, hsz, hat, c, _, rfl, rfl, _, rfl, ?_⟩
        by_cases hin : ¬ (c = 40 ∨ c = 41 ∨ c = 43 ∨ c = 42 ∨ c = 49)
        · refine ifT ?_ ?_
          · rw [e3, decide_eq_false (by simpa using hin)]; rfl
          · exact bad (run_fail hcl hrun (by unfold stepS; rw [if_neg (by omega), if_neg (by omega), if_neg (by omega)])) _ hs
        have hin := Classical.not_not.mp hin
        refine ifF (by rw [e3, decide_eq_true (by simpa using hin)]; rfl) ?_
        refine ⟨_, rfl, _, rfl, z, _, c, rfl, rfl, hsz, hat, rfl, _, rfl, ?_⟩
        by_cases h2 : c = 41
        · refine ifT (by rw [e2, str1, decide_eq_true h2]) ?_
          have hst : stepS S c = doneS S := by unfold stepS; rw [if_neg (by omega), if_pos h2]
          refine ⟨_, rfl, q, S, rfl, SqL.of hq, by omega, by omega, fun H' q' s' n' hq' => ?_⟩
          refine ⟨_, rfl, Nat.zero_le _, fun nl hnl => ?_⟩
          have sN := sm_upd (o := .lst []) hnl
          cases hd : doneS S with
          | none =>
            rw [hd] at hq'
            refine ⟨.list [], .list [], .lst (SqL.of (sm_at sN hq')) .nil, .lst (SqL.of upd_same) .nil, by decide, by decide, _, rfl, ?_⟩
            exact ifT (eqv_nil []) (bad (run_fail hcl hrun (hst.trans hd)) _ ((hs.trans s').trans sN))
          | some S' =>
            rw [hd] at hq'
            obtain ⟨ds, d1, d2, d3, d4⟩ := dp_it (K := K) (H := upd H' nl (.lst [])) S'.reverse (fun x hx => okS_step oS (hst.trans hd) x (List.mem_reverse.mp hx))
            have hne : S' ≠ [] := by
              unfold doneS at hd
              split at hd
              · split at hd
                · split at hd
                  · cases hd; simp
                  · split at hd
                    · cases hd; simp
                    · cases hd
                · cases hd
              · cases hd
            refine ⟨.list ds, .list [], .lst (SqL.of (sm_at sN hq')) d1, .lst (SqL.of upd_same) .nil, ?_, by decide, _, rfl, ?_⟩
            · simp [SeqAt.shaped, PyData.canLay0, PyData.depth, d3, d4]
            · refine ifF ?_ ?_
              · rw [eqv_nil]
                cases ds with
                | nil =>
                  exfalso
                  rw [List.length_reverse] at d2
                  exact hne (List.eq_nil_of_length_eq_zero d2.symm)
                | cons _ _ => rfl
              · refine ⟨_, rfl, _, rfl, _, _, rfl, rfl, ?_⟩
                refine ⟨⟨i + 1, S', q', _, rfl, by omega, next _ (hst.trans hd), sm_at sN hq', hs.free n', (hs.trans s').trans sN⟩, fall _ rfl⟩
        refine ifF (by rw [e2, str1, decide_eq_false h2]) ?_
        refine ⟨_, rfl, _, rfl, _, rfl, z, _, c, rfl, rfl, hsz, hat, rfl, _, rfl, ?_⟩
        have go : ∀ x : Itm, stepS S c = some (x :: S) → ∀ D, H1 D = none → rCat (V.ref q) (.ref D) (upd H1 D (.lst [itV x])) (fun v H2 => ∃ (i_1 : Nat) (S_1 : List Itm) (q_1 : Addr), v = .ref q_1 ∧ i_1 = i + 1 ∧ runS [] ((tl z).take i_1) = some S_1 ∧ H2 q_1 = some (.lst (stV S_1)) ∧ H q_1 = none ∧ Same H H2) := fun x hx D hD => by
          have sD := sm_new (o := .lst [itV x]) hs hD
          refine ⟨q, D, _, _, rfl, rfl, (by rw [upd_ne (ne_of_none hq hD)]; exact hq), upd_same, ?_, fun q2 hq2 => ?_⟩
          · rw [stV_length, PySem.sizeLine_eq]
            show S.length + 1 ≤ _
            omega
          · exact ⟨i + 1, x :: S, q2, rfl, rfl, next _ hx, by rw [upd_same, stV_cons], sD.free hq2, sm_new sD hq2⟩
        by_cases h1 : c = 49
        · refine ifT (by rw [e1, str1, decide_eq_true h1]) ⟨(show 1 ≤ sizeLine by decide), fun D hD => ?_⟩
          obtain ⟨l, b, xs, zs, g1, g2, g3, g4, g5, g6⟩ := go (.inl 1) (by unfold stepS; rw [if_pos h1]) D hD
          refine ⟨l, b, xs, zs, g1, g2, g3, g4, g5, fun p hp => ?_⟩
          obtain ⟨i1, S1, q1, ev, rfl, r1, r2, r3, r4⟩ := g6 p hp
          cases ev
          exact ⟨_, rfl, _, _, rfl, rfl, ⟨i + 1, S1, p, _, rfl, by omega, r1, r2, r3, r4⟩, fall _ rfl⟩
        · refine ifF (by rw [e1, str1, decide_eq_false h1]) ⟨_, rfl, _, rfl, z, _, c, rfl, rfl, hsz, hat, (show 1 ≤ sizeLine by decide), fun D hD => ?_⟩
          obtain ⟨l, b, xs, zs, g1, g2, g3, g4, g5, g6⟩ := go (.inr c) (by unfold stepS; rw [if_neg h1, if_neg h2, if_pos (by omega)]) D hD
          refine ⟨l, b, xs, zs, g1, g2, g3, g4, g5, fun p hp => ?_⟩
          obtain ⟨i1, S1, q1, ev, rfl, r1, r2, r3, r4⟩ := g6 p hp
          cases ev
          exact ⟨_, rfl, _, _, rfl, rfl, ⟨i + 1, S1, p, _, rfl, by omega, r1, r2, r3, r4⟩, fall _ rfl⟩
      · refine ifF (decide_eq_false (by rw [hlz]; omega)) ?_
        have htk : (tl z).take i = tl z := List.take_of_length_le (by omega)
        rw [htk] at hrun
        refine ⟨_, rfl, q, _, rfl, .inl (SqL.of hq), rfl, _, rfl, ?_⟩
        have val : ∀ H', Same H H' → Q (.int (endS (some S))) H' := fun H' s => by
          have q := k H' s
          unfold readL at q
          rw [hrun] at q
          exact q
        by_cases h1 : S.length = 1
        · obtain ⟨x, rfl⟩ : ∃ x, S = [x] := List.length_eq_one_iff.mp h1
          refine ifT (decide_eq_true (by rfl)) ?_
          have hat : atI (stV [x]) 0 = some (itV x) := atI_nat (j := 0) rfl
          obtain ⟨tx, ty1, kx⟩ := isi_it (K := K) (H := H1) x
          refine ⟨_, rfl, q, _, _, _, rfl, rfl, SqL.of hq, hat, _, _, _, _, _, rfl, .ty "int", ty1, kx, _, rfl, ?_⟩
          cases x with
          | inl n => exact iteT ⟨_, rfl, q, _, _, _, rfl, rfl, SqL.of hq, hat, val _ hs⟩
          | inr n => exact iteF (val _ hs)
        · refine ifF (decide_eq_false ?_) ?_
          · rw [stV_length]
            intro z
            have z' := V.int.inj z
            omega
          · have e0 : endS (some S) = 0 := by
              unfold endS
              split
              · rename_i n e
                cases e
                exact absurd rfl h1
              · rfl
            rw [e0] at val
            exact val _ hs
    · rintro σ H1 Q1 Q2 mo ⟨v, h1, v', h2, z, h3, h4, i, j, h5, h6, b, h7, q⟩
      exact ⟨v, h1, v', h2, z, h3, h4, i, j, h5, h6, b, h7, mo _ _ q⟩
end
end Fo
namespace Fo
open PySem L2 FO
section
variable {P : Program} {w : World} {K : PySem.W.Frag} {mg : Str → Option Value} {base : Heap}
/-! ### _law_is_floor, _law_says -/
theorem scLIsFloor : FnScope nLawIsFloor pLawIsFloor (defScope sLawIsFloor) := ⟨rfl, rfl, rfl, by decide +kernel, rfl, by decide +kernel, by decide +kernel⟩
theorem ok_lisFloor (D : Dn K mg "_law_is_floor" sLawIsFloor) (B : Bi mg) : Kp P w K mg base CX0 1 "_law_is_floor" (spIsFloor K) := by
  obtain ⟨f, fd, F', hm⟩ := D.ex
  refine ⟨f, fd, pLawIsFloor, F'.ok scLIsFloor (fun vs H Q E h => ?_) (fun cdv A outer s H vs Q E hr h => ?_), hm, F'.kp, F'.binds fun _ _ _ _ _ _ us hl => match us, hl with | [_], _ => rfl⟩
  · obtain ⟨a, ns, rfl, _⟩ := h
    rfl
  · obtain ⟨a, ns, rfl, hS, hl1, hl, kT, kF⟩ := h
    refine ⟨_, pss_cons (ps_if (pt_cmpR op_gt (pe_ix ix_list (pv 0) pe_int (fun _ _ => rfl)) pe_int (nomark _)) (pss_one (ps_ret pe_bl)) pss_nil)
      (pss_cons (ps_for PassesOwn.never rfl (pi_range2 (by rfl) B.range (pa_cons pe_int (pa_cons (pe_op op_add (pe_callB call_len_seq (by rfl) B.len PySem.boot_len (pa_cons (pv 0) pa_nil)) pe_int) pa_nil))) (pg_name (i := 1) scLIsFloor.nd rfl (Or.inl rfl))
        (pss_one (ps_for PassesOwn.never rfl (pi_range2 (by rfl) B.range (pa_cons pe_int (pa_cons (pe_op op_add (pe_callB call_len_seq (by rfl) B.len PySem.boot_len (pa_cons (pv 0) pa_nil)) pe_int) pa_nil))) (pg_name (i := 2) scLIsFloor.nd rfl (Or.inl rfl))
          (pss_one (ps_for PassesOwn.never rfl (pi_tup (pe_tup (pa_cons (pe_op op_add (pv 1) (pv 2)) (pa_cons (pe_op op_mul (pv 1) (pv 2)) pa_nil)))) (pg_name (i := 3) scLIsFloor.nd rfl (Or.inl rfl))
            (pss_one (ps_if (PW.pt (pw_and (pt_cmpR op_le (pv 3) (pe_callB call_len_seq (by rfl) B.len PySem.boot_len (pa_cons (pv 0) pa_nil)) (nomark _))
              (pw_and1 (pt_cmpR op_gt (pe_ix ix_list (pv 0) (pe_op op_sub (pv 3) pe_int) (fun _ _ => rfl)) (pe_op op_add (pe_ix ix_list (pv 0) (pe_op op_sub (pv 1) pe_int) (fun _ _ => rfl)) (pe_ix ix_list (pv 0) (pe_op op_sub (pv 2) pe_int) (fun _ _ => rfl))) (nomark _))))) (pss_one (ps_ret pe_bl)) pss_nil)))))))
      (pss_one (ps_ret pe_bl))), ?_⟩
    have big : (16777216 : Nat) = sizeLine := PySem.sizeLine_eq.symm
    refine ⟨_, rfl, a, _, _, _, rfl, rfl, hS, fg_at (k := 1) (by decide) hl1 rfl, _, _, rfl, rfl, _, rfl, ?_⟩
    by_cases h1 : ¬ fg ns 1 ≤ 1
    · exact ifT (decide_eq_true (by omega)) (kF (fun z => h1 z.1) _ (Same.refl H))
    have h1 := Classical.not_not.mp h1
    refine ifF (decide_eq_false (by omega)) ?_
    have en : (((ns.map V.int).length : Nat) : Int) + 1 = ((ns.length + 1 : Nat) : Int) := by rw [List.length_map]; omega
    refine ⟨_, rfl, a, _, rfl, .inl hS, _, _, rfl, rfl, 1, _, rfl, ⟨by decide, by decide, by rw [en]; omega, by rw [en]; omega⟩, ?_⟩
    rw [en, show (((ns.length + 1 : Nat) : Int) - 1).toNat = ns.length by omega]
    refine for_range (lo := 1) (n := ns.length) (fun i σ H' => ∃ v1 v2 v3 : Option V, σ = [some (.ref a), v1, v2, v3] ∧ Same H H' ∧ ∀ x y, 1 ≤ x → x ≤ i → 1 ≤ y → y ≤ ns.length → ¬ Viol ns x y)
      ⟨_, _, _, rfl, Same.refl H, fun x y h1 h2 => by omega⟩ ?_ ?_
    · rintro i σ H2 hi ⟨v1, v2, v3, rfl, s2, inv⟩
      have eo : (1 : Int) + (i : Int) = ((i + 1 : Nat) : Int) := by omega
      rw [eo]
      refine ⟨_, rfl, a, _, rfl, .inl (s2.seq hS), _, _, rfl, rfl, 1, _, rfl, ⟨by decide, by decide, by rw [en]; omega, by rw [en]; omega⟩, ?_⟩
      rw [en, show (((ns.length + 1 : Nat) : Int) - 1).toNat = ns.length by omega]
      refine for_range (lo := 1) (n := ns.length) (fun j σ H' => ∃ v2 v3 : Option V, σ = [some (.ref a), some (.int (i + 1 : Nat)), v2, v3] ∧ Same H H' ∧ ∀ y, 1 ≤ y → y ≤ j → ¬ Viol ns (i + 1) y)
        ⟨_, _, rfl, s2, fun y h1 h2 => by omega⟩ ?_ ?_
      · rintro j σ H3 hj ⟨v2, v3, rfl, s3, inv2⟩
        have ep : (1 : Int) + (j : Int) = ((j + 1 : Nat) : Int) := by omega
        rw [ep]
        have em : ((i + 1 : Nat) : Int) * ((j + 1 : Nat) : Int) = (((i + 1) * (j + 1) : Nat) : Int) := by rw [Int.natCast_mul]
        have es : ((i + 1 : Nat) : Int) + ((j + 1 : Nat) : Int) = (((i + 1) + (j + 1) : Nat) : Int) := by omega
        refine ⟨_, rfl, _, rfl, _, _, rfl, rfl, _, rfl, _, rfl, _, _, rfl, rfl, .inl ⟨by omega, by omega⟩, (show 2 ≤ sizeLine by decide), fun T nT => ?_⟩
        obtain ⟨H4, e4, s4, hT⟩ := ab nT (.tup [V.int (((i + 1 : Nat) : Int) + ((j + 1 : Nat) : Int)), V.int (((i + 1 : Nat) : Int) * ((j + 1 : Nat) : Int))])
        rw [e4]
        rw [em, es] at hT
        refine ⟨T, rfl, ⟨_, SqT.of hT⟩, for_tup (K := K) (a := T) (xs := [V.int (((i + 1) + (j + 1) : Nat) : Int), V.int (((i + 1) * (j + 1) : Nat) : Int)])
          (fun m σ H' => ∃ v3 : Option V, σ = [some (.ref a), some (.int (i + 1 : Nat)), some (.int (j + 1 : Nat)), v3] ∧ Same H4 H' ∧ (1 ≤ m → ¬ ((i + 1) + (j + 1) ≤ ns.length ∧ fg ns ((i + 1) + (j + 1)) > fg ns (i + 1) + fg ns (j + 1))) ∧ (2 ≤ m → ¬ ((i + 1) * (j + 1) ≤ ns.length ∧ fg ns ((i + 1) * (j + 1)) > fg ns (i + 1) + fg ns (j + 1))))
          ⟨_, rfl, Same.refl _, fun z => by omega, fun z => by omega⟩ (fun m σ H' _ ⟨_, _, s', _⟩ => SqT.of (sm_at s' hT)) ?_ ?_⟩
        · rintro m y σ H5 hy ⟨v3, rfl, s5, p0, p1⟩
          have s35 := (s3.trans s4).trans s5
          have hS5 := s35.seq hS
          have fx := fg_at (ns := ns) (k := i + 1) (z := ((i + 1 : Nat) : Int) - 1) (by omega) (by omega) rfl
          have fy := fg_at (ns := ns) (k := j + 1) (z := ((j + 1 : Nat) : Int) - 1) (by omega) (by omega) rfl
          have hm2 : m < 2 := (List.getElem?_eq_some_iff.mp hy).1
          obtain ⟨c, ey, c1, vi, rest⟩ : ∃ c : Nat, y = V.int (c : Nat) ∧ 1 ≤ c ∧ (c ≤ ns.length → fg ns c > fg ns (i + 1) + fg ns (j + 1) → Viol ns (i + 1) (j + 1)) ∧ (¬ (c ≤ ns.length ∧ fg ns c > fg ns (i + 1) + fg ns (j + 1)) →
              (1 ≤ m + 1 → ¬ ((i + 1) + (j + 1) ≤ ns.length ∧ fg ns ((i + 1) + (j + 1)) > fg ns (i + 1) + fg ns (j + 1))) ∧ (2 ≤ m + 1 → ¬ ((i + 1) * (j + 1) ≤ ns.length ∧ fg ns ((i + 1) * (j + 1)) > fg ns (i + 1) + fg ns (j + 1)))) := by
            have : m = 0 ∨ m = 1 := by omega
            rcases this with rfl | rfl
            · exact ⟨(i + 1) + (j + 1), (Option.some.inj hy).symm, by omega, fun a b => .inl ⟨a, b⟩, fun nv => ⟨fun _ => nv, fun z => by omega⟩⟩
            · exact ⟨(i + 1) * (j + 1), (Option.some.inj hy).symm, Nat.mul_pos (by omega) (by omega), fun a b => .inr ⟨a, b⟩, fun nv => ⟨fun _ => p0 (Nat.le_refl _), fun _ => nv⟩⟩
          subst ey
          refine ⟨_, rfl, _, rfl, a, _, rfl, .inl hS5, _, _, rfl, rfl, _, rfl, ?_⟩
          rw [List.length_map]
          by_cases hc : c ≤ ns.length
          · refine ifT (decide_eq_true (by omega)) ?_
            refine ⟨_, rfl, _, rfl, _, _, rfl, rfl, a, _, _, _, rfl, rfl, hS5, fg_at (k := c) c1 hc rfl, _, rfl, _, rfl, _, _, rfl, rfl, a, _, _, _, rfl, rfl, hS5, fx, _, rfl, _, rfl, _, _, rfl, rfl, a, _, _, _, rfl, rfl, hS5, fy, _, _, rfl, rfl, _, _, rfl, rfl, _, rfl, ?_⟩
            by_cases hv : fg ns c > fg ns (i + 1) + fg ns (j + 1)
            · exact ifT (decide_eq_true (by omega)) (kF (fun z => z.2 (i + 1) (j + 1) (by omega) (by omega) (by omega) (by omega) (vi hc hv)) _ s35)
            · exact ifF (decide_eq_false (by omega)) ⟨_, rfl, s5, rest fun z => hv z.2⟩
          · exact ifF (decide_eq_false (by omega)) (iteF ⟨_, rfl, s5, rest fun z => hc z.1⟩)
        · rintro σ H5 ⟨v3, rfl, s5, p0, p1⟩
          refine ⟨_, _, rfl, (s3.trans s4).trans s5, fun y h1 h2 v => ?_⟩
          by_cases e : y = j + 1
          · subst e
            rcases v with v | v
            · exact p0 (by show 1 ≤ 2; decide) v
            · exact p1 (by show 2 ≤ 2; decide) v
          · exact inv2 y h1 (by omega) v
      · rintro σ H3 ⟨v2, v3, rfl, s3, inv2⟩
        refine ⟨_, _, _, rfl, s3, fun x y h1 h2 h3 h4 v => ?_⟩
        by_cases e : x = i + 1
        · subst e
          exact inv2 y h3 h4 v
        · exact inv x y h1 (by omega) h3 h4 v
    · rintro σ H2 ⟨v1, v2, v3, rfl, s2, inv⟩
      exact kT ⟨h1, fun x y a1 a2 b1 b2 => inv x y a1 a2 b1 b2⟩ _ s2
def spSays : Sp := fun vs H Q _ => ∃ b c : Bool, vs = [.bl b, .bl c] ∧ Q (.bl (decide (b = c))) H
theorem scSays : FnScope nLawSays pLawSays (defScope sLawSays) := ⟨rfl, rfl, rfl, by decide +kernel, rfl, by decide +kernel, by decide +kernel⟩
theorem ok_says (D : Dn K mg "_law_says" sLawSays) (B : Bi mg) : Kp P w K mg base CX0 1 "_law_says" spSays := by
  obtain ⟨f, fd, F', hm⟩ := D.ex
  refine ⟨f, fd, pLawSays, F'.ok scSays (fun vs H Q E h => ?_) (fun cdv A outer s H vs Q E hr h => ?_), hm, F'.kp, F'.binds fun _ _ _ _ _ _ us hl => match us, hl with | [_, _], _ => rfl⟩
  · obtain ⟨b, c, rfl, _⟩ := h
    rfl
  · obtain ⟨b, c, rfl, k⟩ := h
    refine ⟨_, pss_one (ps_ret (pe_and (pe_callB call_isi (by rfl) B.isi (by decide +kernel) (pa_cons (pv 0) (pa_cons (pe_bltn (v := .ty "bool") (by rfl) B.bool (by decide +kernel) rfl) pa_nil))) (pe_one (pe_cmpR op_eq (pv 0) (pv 1) (nomark _))))), ?_⟩
    refine ⟨_, rfl, _, _, _, _, true, rfl, .ty "bool", .base (.bl b), kit_ty (by decide +kernel), true, rfl, iteT ⟨_, rfl, _, rfl, rfl, ?_⟩⟩
    have e : decide (V.bl b = V.bl c) = decide (b = c) := by cases b <;> cases c <;> rfl
    show Q (.bl (decide (V.bl b = V.bl c))) H
    rw [e]
    exact k
end
end Fo
namespace Fo
open PySem L2 FO
section
variable {P : Program} {w : World} {K : PySem.W.Frag} {mg : Str → Option Value} {base : Heap}
/-! ### _law_whole -/
theorem scLWhole : FnScope nLawWhole pLawWhole (defScope sLawWhole) := ⟨rfl, rfl, rfl, by decide +kernel, rfl, by decide +kernel, by decide +kernel⟩
theorem ok_lwhole (D : Dn K mg "_law_whole" sLawWhole) (B : Bi mg) : Kp P w K mg base CX0 1 "_law_whole" (spWhole K) := by
  obtain ⟨f, fd, F, hm⟩ := D.ex
  refine ⟨f, fd, pLawWhole, F.ok scLWhole (fun vs H Q E h => ?_) (fun cdv A outer s H vs Q E hr h => ?_), hm, F.kp, F.binds fun _ _ _ _ _ _ us hl => match us, hl with | [_], _ => rfl⟩
  · obtain ⟨v, b, rfl, _⟩ := h
    rfl
  · obtain ⟨v, b, rfl, ⟨t, b1, b2, ty, k1, k2, rfl⟩, q⟩ := h
    refine ⟨_, pss_one (ps_ret (pe_and
      (pe_callB call_isi (by rfl) B.isi (by decide +kernel) (pa_cons (pv 0) (pa_cons (pe_bltn (v := .ty "int") (by rfl) B.int (by decide +kernel) rfl) pa_nil)))
      (pe_one (pe_not (pe_callB call_isi (by rfl) B.isi (by decide +kernel) (pa_cons (pv 0) (pa_cons (pe_bltn (v := .ty "bool") (by rfl) B.bool (by decide +kernel) rfl) pa_nil))))))), ?_⟩
    refine ⟨_, rfl, _, _, _, _, b1, rfl, .ty "int", ty, k1, b1, rfl, ?_⟩
    cases b1 with
    | false => exact iteF q
    | true =>
      refine iteT ⟨_, rfl, _, _, _, _, b2, rfl, .ty "bool", ty, k2 rfl, b2, rfl, ?_⟩
      exact q
end
end Fo
namespace Fo
open PySem L2 FO
/-! ### the script: slices and sums -/
theorem cut_take (ns : List Int) (k : Nat) : cutV (ns.map V.int) none (some (k : Int)) = (ns.take k).map V.int := by
  unfold cutV
  rw [HT.sIx_nat]
  show (((ns.map V.int).drop 0).take (min k (ns.map V.int).length - 0)) = _
  rw [List.drop_zero, Nat.sub_zero, List.map_take, List.length_map]
  by_cases h : k ≤ ns.length
  · rw [Nat.min_eq_left h]
  · rw [Nat.min_eq_right (by omega), List.take_of_length_le (by rw [List.length_map]; omega), List.take_of_length_le (by rw [List.length_map]; omega)]
theorem lapp (x y : Str) : (x ++ y).length = x.length + y.length := by rw [Str.length, Str.length, Str.length]; exact Array.size_append
theorem sum_bits {b : Nat} : ∀ (ns : List Int), (∀ n ∈ ns, n.natAbs < 2 ^ b) → ns.sum.natAbs ≤ ns.length * 2 ^ b
  | [], _ => by simp
  | n :: ns, h => by
    have ih := sum_bits ns (fun m hm => h m (List.mem_cons_of_mem _ hm))
    have h0 := h n List.mem_cons_self
    rw [List.sum_cons, List.length_cons, Nat.add_mul, Nat.one_mul]
    have := Int.natAbs_add_le n ns.sum
    omega
theorem sum_lt {ns : List Int} {b : Nat} (hl : ns.length ≤ 63) (h : ∀ n ∈ ns, n.natAbs < 2 ^ b) : ns.sum.natAbs < 2 ^ (b + 6) := by
  have h1 := sum_bits ns h
  have h2 : ns.length * 2 ^ b ≤ 63 * 2 ^ b := Nat.mul_le_mul_right _ hl
  have h3 : 0 < 2 ^ b := Nat.pow_pos (by decide)
  rw [Nat.pow_add]
  show _ < 2 ^ b * 64
  omega
/-- what a law's def is promised -/
def spLaw (K : PySem.W.Frag) : Sp := fun vs H Q _ => ∃ (a : Addr) (ns : List Int), vs = [.ref a] ∧ SqL K H a (ns.map V.int) ∧ ns.length ≤ 63 ∧ (∀ n ∈ ns, n.natAbs < 2 ^ 1048576) ∧ ∀ H', Q (.bl true) H'
end Fo
namespace Fo
open PySem L2 FO
theorem inV_ints (x : Int) : ∀ xs : List Int, inV (.int x) (xs.map V.int) = decide (x ∈ xs)
  | [] => rfl
  | y :: ys => by
    have ih := inV_ints x ys
    unfold inV at ih ⊢
    rw [List.map_cons, List.any_cons, ih]
    show ((y == x) || decide (x ∈ ys)) = decide (x ∈ y :: ys)
    by_cases h : y = x
    · subst h; simp
    · have h' : ¬ x = y := fun e => h e.symm
      simp [h, h']
theorem flat_ints : ∀ xs : List Int, (xs.map V.int).all flatV = true
  | [] => rfl
  | _ :: ys => by rw [List.map_cons, List.all_cons, flat_ints ys]; rfl
section
variable {P : Program} {w : World} {K : PySem.W.Frag} {mg : Str → Option Value} {base : Heap}
/-! ### _law_fewest -/
def spFew : Sp := fun vs H Q _ => ∃ (r : Addr) (fs : List V) (most c n : Nat), vs = [.ref r, .int (n : Nat)] ∧ H r = some (.lst fs) ∧ FoundOk most H fs c ∧ c ≤ 100 ∧ 1 ≤ n ∧ n ≤ most ∧ F n < c ∧ ∀ H', Same H H' → Q (.int (F n : Nat)) H'
theorem scFew : FnScope nLawFewest pLawFewest (defScope sLawFewest) := ⟨rfl, rfl, rfl, by decide +kernel, rfl, by decide +kernel, by decide +kernel⟩
theorem ok_few (D : Dn K mg "_law_fewest" sLawFewest) (B : Bi mg) : Kp P w K mg base CX0 1 "_law_fewest" spFew := by
  obtain ⟨f, fd, F', hm⟩ := D.ex
  refine ⟨f, fd, pLawFewest, F'.ok scFew (fun vs H Q E h => ?_) (fun cdv A outer s H vs Q E hr h => ?_), hm, F'.kp, F'.binds fun _ _ _ _ _ _ us hl => match us, hl with | [_, _], _ => rfl⟩
  · obtain ⟨r, fs, most, c, n, rfl, _⟩ := h
    rfl
  · obtain ⟨r, fs, most, c, n, rfl, hR, fo, hc, n1, n2, nf, k⟩ := h
    refine ⟨_, (pss_one (ps_ret (pe_ix ix_list (pe_lc (own := [("_law_count", 2)]) (g := gName 2) (tt := tTest (tOp (rIn K false) (tVar 1) (tOp (rIxL K) (tVar 0) (tVar 2)))) rfl scFew.nd (pi_range1 (by rfl) B.range (pa_cons (pe_callB call_len_seq (by rfl) B.len PySem.boot_len (pa_cons (pv 0) pa_nil)) pa_nil)) (blkOk_by (own := [("_law_count", 2)]) (N := nLawFewest) (sc := defScope sLawFewest) (by decide +kernel)) (fun _ _ _ _ _ => (pg_name (i := 2) scFew.nd rfl (Or.inl rfl))) (fun _ _ _ _ _ => pts_one (pt_cmpR op_in_seq (pv 1) (pe_ix (r := rIxL K) ix_list (pv 0) (pv 2) (fun _ _ => rfl)) (by rfl))) (fun _ _ _ _ _ => (pv 2))) pe_int (fun _ _ => rfl)))), ?_⟩
    have big : (16777216 : Nat) = sizeLine := PySem.sizeLine_eq.symm
    have e0 : (fs.length : Int) = ((c : Nat) : Int) := by rw [fo.len]
    refine ⟨_, rfl, r, _, rfl, .inl (SqL.of hR), _, rfl, by rw [e0]; omega, by rw [e0]; omega, fun D hD => ?_⟩
    rw [e0, show ((c : Nat) : Int).toNat = c by omega]
    refine lc_range (lo := 0) (n := c) (fun j H2 => Same H H2 ∧ H2 D = some (.lst ((if F n < j then [((F n : Nat) : Int)] else []).map V.int))) ⟨sm_upd hD, by rw [if_neg (by omega)]; exact upd_same⟩ ?_ ?_
    · rintro j H2 hj ⟨s2, hD2⟩
      have ej : (0 : Int) + (j : Int) = ((j : Nat) : Int) := by omega
      rw [ej]
      obtain ⟨q, eq, hq⟩ := fo.at' j hj
      refine ⟨rfl, ?_⟩
      refine ⟨_, rfl, _, rfl, _, rfl, r, _, _, _, rfl, rfl, SqL.of (sm_at s2 hR), atI_nat eq, q, _, rfl, .inl (SqL.of (sm_at s2 hq)), rfl, flat_ints _, _, rfl, ?_⟩
      have hin : (if false = true then !inV (.int (n : Nat)) ((cls most j).map V.int) else inV (.int (n : Nat)) ((cls most j).map V.int)) = decide (F n = j) := by
        rw [if_neg (by decide), inV_ints]
        by_cases h : F n = j
        · rw [decide_eq_true h]
          exact decide_eq_true (cls_mem.mpr ⟨n, rfl, n1, n2, h⟩)
        · rw [decide_eq_false h]
          refine decide_eq_false fun z => h ?_
          obtain ⟨m, em, _, _, fm⟩ := cls_mem.mp z
          have : n = m := by omega
          rw [this]; exact fm
      by_cases h : F n = j
      · refine ifT (by rw [hin, decide_eq_true h]) ⟨_, rfl, _, hD2, ?_, ?_, ?_⟩
        · rw [if_neg (by omega), ← big]
          exact Nat.zero_lt_succ _
        · exact fun b o e => by
            rw [upd_ne (ne_of_none e hD)]
            exact s2 b o e
        · rw [upd_same, if_neg (by omega), if_pos (by omega), h]
          rfl
      · refine ifF (by rw [hin, decide_eq_false h]) ⟨s2, ?_⟩
        rw [hD2]
        by_cases h2 : F n < j
        · rw [if_pos h2, if_pos (by omega)]
        · rw [if_neg h2, if_neg (by omega)]
    · rintro H2 ⟨s2, hD2⟩
      rw [if_pos nf] at hD2
      exact ⟨D, _, _, _, rfl, rfl, SqL.of hD2, atI_nat (j := 0) rfl, k _ s2⟩
/-! ### _law_due -/
def spDue (K : PySem.W.Frag) : Sp := fun vs H Q _ => ∃ (n : Int) (z : Str) (l : Addr) (ns : List Int), vs = [.int n, .str z, .ref l] ∧ SqL K H l (ns.map V.int) ∧ z.length ≤ 2000 ∧ 1 ≤ n ∧ n ≤ 1000 ∧ ∀ H', Same H H' → Q (.bl (decide (Shows (tl z) ns n))) H'
theorem scDue : FnScope nLawDue pLawDue (defScope sLawDue) := ⟨rfl, rfl, rfl, by decide +kernel, rfl, by decide +kernel, by decide +kernel⟩
theorem ok_due (D : Dn K mg "_law_due" sLawDue) (B : Bi mg) (Rd : Kp P w K mg base CX0 2 "_law_read" spRead) (Fl : Kp P w K mg base CX0 1 "_law_is_floor" (spIsFloor K)) : Kp P w K mg base CX0 3 "_law_due" (spDue K) := by
  obtain ⟨f, fd, F', hm⟩ := D.ex
  refine ⟨f, fd, pLawDue, F'.ok scDue (fun vs H Q E h => ?_) (fun cdv A outer s H vs Q E hr h => ?_), hm, F'.kp, F'.binds fun _ _ _ _ _ _ us hl => match us, hl with | [_, _, _], _ => rfl⟩
  · obtain ⟨n, z, l, ns, rfl, _⟩ := h
    rfl
  · obtain ⟨n, z, l, ns, rfl, hS, hz, n1, n2, k⟩ := h
    refine ⟨_, (pss_cons (ps_if (PW.pt (pw_or (pt_cmpR op_ne (pk Rd hr (by decide) rfl (pa_cons (pv 1) pa_nil)) (pv 0) (nomark _)) (pw_or (pt_cmpR op_ne (pe_callB call_len_seq (by rfl) B.len PySem.boot_len (pa_cons (pv 2) pa_nil)) (pv 0) (nomark _)) (pw_or1 (pt_not (pt_val (pk Fl hr (by decide) rfl (pa_cons (pv 2) pa_nil)))))))) (pss_one (ps_ret pe_bl)) pss_nil)
  (pss_one (ps_ret (pe_cmpR op_eq (pe_ix ix_list (pv 2) (pe_un un_neg pe_int) (fun _ _ => rfl)) (pe_m1 PySem.F.slot_str_count PySem.F.type_str_count mt_count (pv 1) pe_str) (nomark _))))), ?_⟩
    have same : readL (tl z) = worthL (tl z) := by
      unfold worthL
      rw [if_pos (by rw [← lenT]; exact hz)]
    have kF : ¬ Shows (tl z) ns n → ∀ H', Same H H' → Q (.bl false) H' := fun q H' s' => by
      have := k H' s'
      rwa [decide_eq_false q] at this
    refine ⟨_, rfl, z, rfl, hz, fun H1 s1 => ?_⟩
    rw [same]
    refine ⟨_, rfl, rfl, _, rfl, ?_⟩
    by_cases c1 : ¬ worthL (tl z) = n
    · exact ifT (by rw [decide_eq_false (fun e => c1 (V.int.inj e))]; rfl) (iteT (kF (fun sh => c1 sh.1) _ s1))
    have c1 := Classical.not_not.mp c1
    refine ifF (by rw [decide_eq_true (by rw [c1])]; rfl) ?_
    refine ⟨_, rfl, l, _, rfl, .inl (s1.seq hS), _, rfl, rfl, _, rfl, ?_⟩
    rw [List.length_map]
    by_cases c2 : ¬ ((ns.length : Nat) : Int) = n
    · exact ifT (by rw [decide_eq_false (fun e => c2 (V.int.inj e))]; rfl) (iteT (kF (fun sh => c2 sh.2.1) _ s1))
    have c2 := Classical.not_not.mp c2
    refine ifF (by rw [decide_eq_true (by rw [c2])]; rfl) ?_
    refine ⟨_, rfl, l, ns, rfl, s1.seq hS, by omega, by omega, fun fl H2 s2 => ?_, fun fl H2 s2 => ?_⟩
    · refine ⟨_, rfl, iteF ?_⟩
      refine ⟨_, rfl, _, rfl, l, _, _, .int (fg ns ns.length), rfl, rfl, (s1.trans s2).seq hS, ?_, _, rfl, ⟨z, rfl⟩, z, _, rfl, rfl, rfl, ?_⟩
      · refine atI_neg (k := 1) (by decide) (by rw [List.length_map]; omega) ?_ rfl
        unfold fg
        rw [List.length_map, List.getElem?_map, List.getElem?_eq_getElem (show ns.length - 1 < ns.length by omega), List.getD_eq_getElem?_getD, List.getElem?_eq_getElem (show ns.length - 1 < ns.length by omega)]
        rfl
      · show Q (.bl (decide (V.int (fg ns ns.length) = V.int (Txt.count z "1")))) H2
        rw [count_one]
        by_cases c3 : fg ns ns.length = ((tl z).count 49 : Nat)
        · have := k _ (s1.trans s2)
          rw [decide_eq_true (show Shows (tl z) ns n from ⟨c1, c2, fl, c3⟩)] at this
          rw [decide_eq_true (by rw [c3])]
          exact this
        · rw [decide_eq_false (fun e => c3 (V.int.inj e))]
          exact kF (fun sh => c3 sh.2.2.2) _ (s1.trans s2)
    · exact ⟨_, rfl, iteT (kF (fun sh => fl sh.2.2.1) _ (s1.trans s2))⟩
end
end Fo
namespace Fo
open PySem L2 FO
theorem atS {K : PySem.W.Frag} {H H' : Hp} {C p q : Addr} {t : V} (s : Same H H') (h : LeastAt C H p t q) : LeastAt C H' p t q := h.imp fun _ e => s _ _ e
section
variable {P : Program} {w : World} {K : PySem.W.Frag} {mg : Str → Option Value} {base : Heap} {CN C CA : Addr}
/-! ### _law_right -/
def spRightL : Sp := fun vs H Q _ => ∃ (n o : Nat), vs = [.int (n : Nat), .int (F n : Nat), .int (o : Nat)] ∧ 1 ≤ n ∧ n ≤ 200 ∧ 1 ≤ o ∧ o ≤ 200 ∧ ∀ H', Same H H' → Q (.bl true) H'
theorem scRight : FnScope nLawRight pLawRight (defScope sLawRight) := ⟨rfl, rfl, rfl, by decide +kernel, rfl, by decide +kernel, by decide +kernel⟩
theorem ok_rightL (D : Dn K mg "_law_right" sLawRight) (B : Bi mg) (L : LeC K C) (IC : C8.InsC K C) (isA : PySem.W.kitOne K (.ref C) (.ref CA) = some true) (gA : ∃ u, mg "Answer" = some u ∧ RelV (.ref CA) u) (gL : ∃ u, mg "Least" = some u ∧ RelV (.ref C) u) (Fe : Kp P w K mg base (L2.CX P w) 3 "fewest" (spFewest K CN)) (Le : Kp P w K mg base (L2.CX P w) 203 "least" (spLeast K CN C))
    (Wh : Kp P w K mg base CX0 1 "_law_whole" (spWhole K)) (Du : Kp P w K mg base CX0 3 "_law_due" (spDue K)) (Sy : Kp P w K mg base CX0 1 "_law_says" spSays) (Sh : C8.Met P w K mg base 4 C "shows" (spShows K C) []) : Kp P w K mg base CX0 204 "_law_right" spRightL := by
  obtain ⟨f, fd, F', hm⟩ := D.ex
  refine ⟨f, fd, pLawRight, F'.ok scRight (fun vs H Q E h => ?_) (fun cdv A outer s H vs Q E hr h => ?_), hm, F'.kp, F'.binds fun _ _ _ _ _ _ us hl => match us, hl with | [_, _, _], _ => rfl⟩
  · obtain ⟨n, o, rfl, _⟩ := h
    rfl
  · obtain ⟨n, o, rfl, n1, n2, o1, o2, k⟩ := h
    refine ⟨_, (pss_cons (ps_set (i := 3) scRight.nd rfl (Or.inl rfl) (pkL Fe hr (by decide) rfl (pa_cons (pv 0) pa_nil)))
  (pss_cons (ps_if (PW.pt (pw_or (pt_not (pt_val (pk Wh hr (by decide) rfl (pa_cons (pv 3) pa_nil)))) (pw_or1 (pt_cmpR op_ne (pv 3) (pv 1) (nomark _))))) (pss_one (ps_ret pe_bl)) pss_nil)
  (pss_cons (ps_for PassesOwn.never rfl (pi_range1 (by rfl) B.range (pa_cons pe_int pa_nil)) (pg_name (i := 4) scRight.nd rfl (Or.inl rfl))
  (pss_cons (ps_set (i := 5) scRight.nd rfl (Or.inl rfl) (pkL Le hr (by decide) rfl (pa_cons (pv 0) pa_nil)))
  (pss_cons (ps_if (PW.pt (pw_or (pt_not (pt_val (pe_callB call_isi (by rfl) B.isi (by decide +kernel) (pa_cons (pv 5) (pa_cons (C8.pe_gc rfl gA) pa_nil))))) (pw_or (pt_not (pt_val (pe_callB call_isi (by rfl) B.isi (by decide +kernel) (pa_cons (pv 5) (pa_cons (C8.pe_gc rfl gL) pa_nil))))) (pw_or1 (pt_not (pt_val (pe_callB call_isi (by rfl) B.isi (by decide +kernel) (pa_cons (pe_fld (pv 5) rfl) (pa_cons (pe_bltn (v := .ty "str") (by rfl) B.str (by decide +kernel) rfl) pa_nil))))))))) (pss_one (ps_ret pe_bl)) pss_nil)
  (pss_cons (ps_if (PW.pt (pw_or (pt_not (pt_val (pe_callB call_isi (by rfl) B.isi (by decide +kernel) (pa_cons (pe_fld (pv 5) rfl) (pa_cons (pe_bltn (v := .ty "list") (by rfl) B.list (by decide +kernel) rfl) pa_nil))))) (pw_or1 (pt_not (pt_val (pe_callB (cr_all rfl) (by rfl) B.all (by decide +kernel) (pa_cons (pe_lc (own := [("_law_one", 6)]) (g := gName 6) (tt := tYes) rfl scRight.nd (pi_list (pe_fld (pv 5) rfl)) (blkOk_by (own := [("_law_one", 6)]) (N := nLawRight) (sc := defScope sLawRight) (by decide +kernel)) (fun _ _ _ _ _ => (pg_name (i := 6) scRight.nd rfl (Or.inl rfl))) (fun _ _ _ _ _ => pts_nil) (fun _ _ _ _ _ => (pk Wh hr (by decide) rfl (pa_cons (pv 6) pa_nil)))) pa_nil))))))) (pss_one (ps_ret pe_bl)) pss_nil)
  (pss_cons (ps_if (PW.pt (pw_or (pt_not (pt_val (pk Du hr (by decide) rfl (pa_cons (pv 0) (pa_cons (pe_fld (pv 5) rfl) (pa_cons (pe_fld (pv 5) rfl) pa_nil)))))) (pw_or1 (pt_cmpR op_ne (pe_m1 PySem.F.slot_str_count PySem.F.type_str_count mt_count (pe_fld (pv 5) rfl) pe_str) (pv 1) (nomark _))))) (pss_one (ps_ret pe_bl)) pss_nil)
  (pss_cons (ps_if (PW.pt (pw_or (pt_cmpR op_notBl (C8.pe_mt Sh hr (by decide) (pv 5) (pa_cons (pv 0) pa_nil)) pe_bl (nomark _)) (pw_or1 (pt_not (pt_val (pk Sy hr (by decide) rfl (pa_cons (C8.pe_mt Sh hr (by decide) (pv 5) (pa_cons (pv 2) pa_nil)) (pa_cons (pk Du hr (by decide) rfl (pa_cons (pv 2) (pa_cons (pe_fld (pv 5) rfl) (pa_cons (pe_fld (pv 5) rfl) pa_nil)))) pa_nil)))))))) (pss_one (ps_ret pe_bl)) pss_nil)
  (pss_cons (ps_expr (pe_bm PySem.F.plainAttrs_list PySem.F.slot_list_append PySem.F.type_list_append mt_append (pe_fld (pv 5) rfl) (pa_cons pe_int pa_nil)))
  (pss_one (ps_if (pt_cmpR op_notBl (C8.pe_mt Sh hr (by decide) (pv 5) (pa_cons (pv 0) pa_nil)) pe_bl (nomark _)) (pss_one (ps_ret pe_bl)) pss_nil)))))))))
  (pss_one (ps_ret pe_bl))))), ?_⟩
    have big : (16777216 : Nat) = sizeLine := PySem.sizeLine_eq.symm
    refine ⟨_, rfl, _, rfl, .inl ⟨_, rfl, fun q => q ⟨by omega, by omega⟩, fun _ _ H1 s1 => ?_⟩⟩
    rw [Int.toNat_natCast]
    refine ⟨_, rfl, _, _, rfl, IsW.int _, _, rfl, iteF ?_⟩
    refine ⟨_, rfl, _, rfl, rfl, _, rfl, ifF (by rw [decide_eq_true rfl]; rfl) ?_⟩
    refine ⟨2, rfl, by decide, by decide, for_range (lo := 0) (n := 2) (fun j σ H' => ∃ v4 v5 v6 : Option V, σ = [some (.int (n : Nat)), some (.int (F n : Nat)), some (.int (o : Nat)), some (.int (F n : Nat)), v4, v5, v6] ∧ Same H H') ⟨_, _, _, rfl, s1⟩ ?_ ?_⟩
    · rintro j σ H2 hj ⟨v4, v5, v6, rfl, s2⟩
      refine ⟨_, rfl, _, rfl, .inl ⟨_, rfl, fun q => q ⟨by omega, by omega⟩, fun _ _ H3 p q t s3 np nq hp hq wr => ?_⟩⟩
      rw [Int.toNat_natCast] at hq wr
      have wl := wr.len
      have hF := F_le n2
      have hz : t.length ≤ 2000 := by rw [lenT]; omega
      have hzs : t.length ≤ sizeLine := Nat.le_trans hz (by decide)
      have tsh := told_shows n1 n2 wr
      have hp' := hp
      obtain ⟨dx, hp⟩ := hp
      have hs3 := s2.trans s3
      refine ⟨_, rfl, _, _, _, _, true, rfl, .own CA, .base (.ins hp IC.cl IC.ha IC.hn IC.htk IC.hm), isA, true, rfl, iteF ?_⟩
      refine ⟨_, rfl, _, _, _, _, true, rfl, .own C, .base (.ins hp IC.cl IC.ha IC.hn IC.htk IC.hm), IC.me, true, rfl, iteF ?_⟩
      refine ⟨_, rfl, p, C, dx, _, _, rfl, hp, L.cl, L.nT, lf_text _ _, _, _, _, _, true, rfl, .ty "str", .base (.str t), kit_ty (by decide +kernel), true, rfl, iteF ?_⟩
      refine ⟨_, rfl, p, C, dx, _, _, rfl, hp, L.cl, L.nF, lf_floor _ _, _, _, _, _, true, rfl, .ty "list", .base (.lst hq), kit_ty (by decide +kernel), true, rfl, iteF ?_⟩
      refine ⟨_, rfl, p, C, dx, _, _, rfl, hp, L.cl, L.nF, lf_floor _ _, q, rfl, ⟨_, SqL.of hq⟩, fun D hD => lc_list (K := K) (a := q) (xs := (fl1 n).map V.int) (fun j H' => Same H3 H' ∧ H' D = some (.lst ((List.replicate j true).map V.bl))) ⟨sm_upd hD, upd_same⟩ (fun j H' _ hj => SqL.of (sm_at hj.1 hq)) ?_ ?_⟩
      · rintro j2 x H4 hx ⟨s4, hD4⟩
        obtain ⟨y, hy, rfl⟩ : ∃ y, y ∈ fl1 n ∧ V.int y = x := List.mem_map.mp (List.mem_of_getElem? hx)
        have hj2 : j2 < 201 := by
          have := (List.getElem?_eq_some_iff.mp hx).1
          rw [List.length_map, fl1_len] at this
          omega
        refine ⟨rfl, ?_⟩
        unfold tYes
        refine iteT ?_
        refine ⟨_, rfl, _, _, rfl, IsW.int y, _, hD4, ?_, ?_, ?_⟩
        · rw [List.length_map, List.length_replicate, ← big]; omega
        · exact fun b o e => by
            rw [upd_ne (ne_of_none e hD)]
            exact s4 b o e
        · rw [upd_same, List.replicate_succ', List.map_append]; rfl
      · rintro H4 ⟨s4, hD4⟩
        refine ⟨D, _, rfl, SqL.of hD4, _, rfl, ?_⟩
        have e : (List.replicate ((fl1 n).map V.int).length true).all id = true := by simp
        rw [e]
        refine iteF ?_
        have hp4 := sm_at s4 hp
        have hq4 := sm_at s4 hq
        refine ⟨_, rfl, _, rfl, p, C, dx, _, _, rfl, hp4, L.cl, L.nT, lf_text _ _, _, rfl, p, C, dx, _, _, rfl, hp4, L.cl, L.nF, lf_floor _ _, _, t, q, fl1 n, rfl, SqL.of hq4, hz, by omega, by omega, fun H5 s5 => ?_⟩
        rw [decide_eq_true tsh]
        refine ⟨_, rfl, iteF ?_⟩
        have hp5 := sm_at s5 hp4
        have hq5 := sm_at s5 hq4
        refine ⟨_, rfl, p, C, dx, _, _, rfl, hp5, L.cl, L.nT, lf_text _ _, ⟨t, rfl⟩, t, _, rfl, rfl, _, rfl, rfl, _, rfl, ?_⟩
        rw [count_one, wr.count]
        refine ifF (by rw [decide_eq_true rfl]; rfl) ?_
        refine ⟨_, rfl, p, dx, _, rfl, hp5, lf_shows _ _, _, rfl, p, t, q, fl1 n, _, rfl, ⟨dx, hp5⟩, SqL.of hq5, hzs, by omega, by omega, fun _ H6 s6 => ?_, fun ns => absurd tsh ns⟩
        have hp6 := sm_at s6 hp5
        have hq6 := sm_at s6 hq5
        refine ⟨true, true, rfl, rfl, _, rfl, iteF ?_⟩
        refine ⟨_, rfl, p, dx, _, rfl, hp6, lf_shows _ _, _, rfl, p, t, q, fl1 n, _, rfl, ⟨dx, hp6⟩, SqL.of hq6, hzs, by omega, by omega, fun sh H7 s7 => ?_, fun sh H7 s7 => ?_⟩
        all_goals
          have hp7 := sm_at s7 hp6
          have hq7 := sm_at s7 hq6
          refine ⟨_, rfl, _, rfl, p, C, dx, _, _, rfl, hp7, L.cl, L.nT, lf_text _ _, _, rfl, p, C, dx, _, _, rfl, hp7, L.cl, L.nF, lf_floor _ _, _, t, q, fl1 n, rfl, SqL.of hq7, hz, by omega, by omega, fun H8 s8 => ?_⟩
          first | rw [decide_eq_true sh] | rw [decide_eq_false sh]
          refine ⟨_, _, rfl, ?_⟩
          rw [decide_eq_true rfl]
          refine ⟨_, rfl, iteF ?_⟩
          have hp8 := sm_at s8 hp7
          have hq8 := sm_at s8 hq7
          refine ⟨_, rfl, p, C, dx, _, _, rfl, hp8, L.cl, L.nF, lf_floor _ _, .inl ⟨rfl, _, SqL.of hq8⟩, q, _, _, rfl, rfl, hq8, by rw [List.length_map, fl1_len, ← big]; omega, ?_⟩
          have s38 := (((s4.trans s5).trans s6).trans s7).trans s8
          have pq : p ≠ q := ne_of hp hq (by intro z; cases z)
          have s9 : Same H2 (upd H8 q (.lst ((fl1 n).map V.int ++ [V.int 0]))) := sm_put (s3.trans s38) nq
          have hp9 : upd H8 q (.lst ((fl1 n).map V.int ++ [V.int 0])) p = some (.ins C dx (lf (.str t) q)) := by rw [upd_ne pq]; exact hp8
          have hq9 : upd H8 q (.lst ((fl1 n).map V.int ++ [V.int 0])) q = some (.lst ((fl1 n ++ [0]).map V.int)) := by rw [upd_same, List.map_append]; rfl
          obtain ⟨H9, e9⟩ : ∃ H9, upd H8 q (.lst ((fl1 n).map V.int ++ [V.int 0])) = H9 := ⟨_, rfl⟩
          rw [e9] at s9 hp9 hq9
          rw [e9]
          refine ⟨_, rfl, p, dx, _, rfl, hp9, lf_shows _ _, _, rfl, p, t, q, fl1 n ++ [0], _, rfl, ⟨dx, hp9⟩, SqL.of hq9, hzs, by omega, by omega, fun shx => ?_, fun _ H10 s10 => ?_⟩
          · have := shx.2.1
            rw [List.length_append, fl1_len] at this
            exact absurd this (by simp; omega)
          · refine ⟨false, false, rfl, rfl, _, rfl, iteF ?_⟩
            exact ⟨_, _, _, rfl, (s2.trans s9).trans s10⟩
    · rintro σ H2 ⟨v4, v5, v6, rfl, s2⟩
      exact k _ s2
end
end Fo
namespace Fo
open PySem L2 FO
theorem F60 : ((List.range 61).all fun n => decide (F n ≤ 14)) = true := by decide +kernel
theorem F60_le {n : Nat} (h : n ≤ 60) : F n ≤ 14 := of_decide_eq_true (List.all_eq_true.mp F60 n (List.mem_range.mpr (by omega)))
theorem F8 : ((List.range 8).all fun j => decide (([1, 2, 3, 4, 5, 5, 6, 6] : List Int)[j]? = some ((F (j + 1) : Nat) : Int))) = true := by decide +kernel
section
variable {P : Program} {w : World} {K : PySem.W.Frag} {mg : Str → Option Value} {base : Heap} {CN : Addr}
theorem scLaw : FnScope nLaw pLaw (defScope sLaw) := ⟨rfl, rfl, rfl, by decide +kernel, rfl, by decide +kernel, by decide +kernel⟩
theorem fn_law {f : Addr} {fd : FuncData} (F' : Fun K "law" "law" sLaw f fd) (B : Bi mg) (Nu : Kp P w K mg base CX0 1 "_law_number" spNumber) (Se : Kp P w K mg base CX0 1 "_law_sets" spSets) (Fw : Kp P w K mg base CX0 1 "_law_fewest" spFew)
    (Rt : Kp P w K mg base CX0 204 "_law_right" spRightL) (Fe : Kp P w K mg base (L2.CX P w) 3 "fewest" (spFewest K CN)) : FnOk P w K mg base CX0 205 f fd pLaw (spLaw K) := by
  refine F'.ok scLaw (fun vs H Q E h => ?_) (fun cdv A outer s H vs Q E hr h => ?_)
  · obtain ⟨a, ns, rfl, _⟩ := h
    rfl
  · obtain ⟨a, ns, rfl, hS, hlen, hbits, k⟩ := h
    refine ⟨_, (pss_cons (ps_set (i := 1) scLaw.nd rfl (Or.inl rfl) (pe_callB (cr_sum rfl) (by rfl) B.sum (by decide +kernel) (pa_cons (pe_slice sl_list (pv 0) po_none (po_some pe_int)) pa_nil)))
  (C8.pss_cut (ps_set (i := 2) scLaw.nd rfl (Or.inl rfl) (pe_ifExp (pt_cmpR op_eq (pe_op op_mod (pv 1) pe_int) pe_int (nomark _)) pe_int pe_int))
  (C8.pss_cut (ps_set (i := 3) scLaw.nd rfl (Or.inl rfl) (pk Se hr (by decide) rfl (pa_cons (pv 2) (pa_cons (pe_ifExp (pt_cmpR op_gt (pv 2) pe_int (nomark _)) pe_int pe_int) pa_nil))))
  (pss_cons (ps_for PassesOwn.never rfl (pi_enum (by rfl) B.enum (pa_cons (pe_op op_cat (pe_lst (pa_cons (pv 1) pa_nil)) (pe_slice sl_list (pv 0) po_none (po_some pe_int))) pa_nil)) (pg_tup rfl (pgs_cons (pg_name (i := 4) scLaw.nd rfl (Or.inl rfl)) (pgs_cons (pg_name (i := 5) scLaw.nd rfl (Or.inl rfl)) pgs_nil)))
  (pss_cons (ps_set (i := 6) scLaw.nd rfl (Or.inl rfl) (pe_op op_add pe_int (pe_op op_mod (pk Nu hr (by decide) rfl (pa_cons (pv 5) (pa_cons (pv 4) (pa_cons pe_int pa_nil)))) (pv 2))))
  (pss_one (ps_if (pt_not (pt_val (pk Rt hr (by decide) rfl (pa_cons (pv 6) (pa_cons (pk Fw hr (by decide) rfl (pa_cons (pv 3) (pa_cons (pv 6) pa_nil))) (pa_cons (pe_op op_add pe_int (pe_op op_mod (pv 6) pe_int)) pa_nil)))))) (pss_one (ps_ret pe_bl)) pss_nil))))
  (pss_cons (ps_for PassesOwn.never rfl (pi_range2 (by rfl) B.range (pa_cons pe_int (pa_cons pe_int pa_nil))) (pg_name (i := 6) scLaw.nd rfl (Or.inl rfl))
  (pss_one (ps_if (pt_cmpR op_ne (pkL Fe hr (by decide) rfl (pa_cons (pv 6) pa_nil)) (pe_ix ix_tup (pe_tup (pa_cons pe_int (pa_cons pe_int (pa_cons pe_int (pa_cons pe_int (pa_cons pe_int (pa_cons pe_int (pa_cons pe_int (pa_cons pe_int pa_nil))))))))) (pe_op op_sub (pv 6) pe_int) (fun _ _ => rfl)) (nomark _)) (pss_one (ps_ret pe_bl)) pss_nil)))
  (pss_one (ps_ret (pe_and (pe_cmpR op_eq (pkL Fe hr (by decide) rfl (pa_cons pe_int pa_nil)) pe_int (nomark _)) (pe_and (pe_cmpR op_eq (pkL Fe hr (by decide) rfl (pa_cons pe_int pa_nil)) pe_int (nomark _)) (pe_one (pe_cmpR op_eq (pkL Fe hr (by decide) rfl (pa_cons pe_int pa_nil)) pe_int (nomark _)))))))))))), ?_⟩
    have big : (16777216 : Nat) = sizeLine := PySem.sizeLine_eq.symm
    have e63 : ∀ k : Nat, cutV (ns.map V.int) none (some (k : Int)) = (ns.take k).map V.int := fun k => cut_take ns k
    refine ⟨_, rfl, _, rfl, a, _, rfl, hS, fun c nc => ?_⟩
    rw [show cutV (ns.map V.int) none (some 63) = (ns.take 63).map V.int from e63 63]
    obtain ⟨H1, e1, s1, hc⟩ := ab nc (.lst ((ns.take 63).map V.int))
    rw [e1]
    refine ⟨c, _, rfl, SqL.of hc, ?_⟩
    have sb : (ns.take 63).sum.natAbs < 2 ^ 1048582 := sum_lt (by simp; omega) (fun n hn => hbits n (List.mem_of_mem_take hn))
    refine ⟨fun σ H' => ∃ mo ma : Nat, ((mo = 200 ∧ ma = 18) ∨ (mo = 60 ∧ ma = 14)) ∧ σ = [some (.ref a), some (.int (ns.take 63).sum), some (.int (mo : Nat)), none, none, none, none] ∧ H' = H1, ?_, ?_⟩
    · refine ⟨_, rfl, _, _, rfl, rfl, (by show (0 : Int) < 32; decide), rfl, _, rfl, ?_⟩
      refine ite2 (fun _ => ?_) (fun _ => ?_)
      · exact ⟨200, 18, .inl ⟨rfl, rfl⟩, rfl, rfl⟩
      · exact ⟨60, 14, .inr ⟨rfl, rfl⟩, rfl, rfl⟩
    rintro σ H2 ⟨mo, ma, hmo, rfl, rfl⟩
    refine ⟨fun σ H' => ∃ (r : Addr) (fs : List V), σ = [some (.ref a), some (.int (ns.take 63).sum), some (.int (mo : Nat)), some (.ref r), none, none, none] ∧ Same H2 H' ∧ H' r = some (.lst fs) ∧ FoundOk mo H' fs (ma + 1), ?_, ?_⟩
    · refine ⟨_, rfl, _, rfl, _, _, rfl, rfl, _, rfl, ?_⟩
      rcases hmo with ⟨rfl, rfl⟩ | ⟨rfl, rfl⟩
      · exact iteT ⟨200, 18, rfl, by decide, by decide, by decide, by decide, fun H3 r fs s3 nr hr3 fo => ⟨r, fs, rfl, s3, hr3, fo⟩⟩
      · exact iteF ⟨60, 14, rfl, by decide, by decide, by decide, by decide, fun H3 r fs s3 nr hr3 fo => ⟨r, fs, rfl, s3, hr3, fo⟩⟩
    rintro σ H2 ⟨r, fs, rfl, s2, hr2, fo⟩
    refine ⟨_, rfl, (show 1 ≤ sizeLine by decide), fun d nd => ?_⟩
    obtain ⟨H3, e3, s3, hd⟩ := ab nd (.lst [V.int (ns.take 63).sum])
    rw [e3]
    refine ⟨_, rfl, _, rfl, a, _, rfl, ((s1.trans s2).trans s3).seq hS, fun e ne => ?_⟩
    rw [show cutV (ns.map V.int) none (some 1) = (ns.take 1).map V.int from e63 1]
    obtain ⟨H4, e4, s4, he⟩ := ab ne (.lst ((ns.take 1).map V.int))
    rw [e4]
    refine ⟨d, e, _, _, rfl, rfl, sm_at s4 hd, he, ?_, fun g ng => ?_⟩
    · rw [List.length_map, List.length_take, ← big]
      show 1 + _ ≤ _
      omega
    obtain ⟨ms, ems, hm9, hmb⟩ : ∃ ms : List Int, [V.int (ns.take 63).sum] ++ (ns.take 1).map V.int = ms.map V.int ∧ ms.length ≤ 9 ∧ ∀ m ∈ ms, m.natAbs < 2 ^ 1048582 := by
      refine ⟨(ns.take 63).sum :: ns.take 1, by simp, by simp; omega, fun m hm => ?_⟩
      rcases List.mem_cons.mp hm with z | z
      · rw [z]; exact sb
      · exact small_lt (hbits m (List.mem_of_mem_take z)) _ (by decide)
    rw [ems]
    obtain ⟨H5, e5, s5, hg⟩ := ab ng (.lst (ms.map V.int))
    rw [e5]
    refine ⟨g, _, rfl, SqL.of hg, ?_⟩
    have s25 := (s3.trans s4).trans s5
    have hr5 := sm_at s25 hr2
    have fo5 : FoundOk mo H5 fs (ma + 1) := fo.keep fun r xs h => s25 _ _ h
    refine for_it walk_enum (fun i σ H' => ∃ v4 v5 v6 : Option V, σ = [some (.ref a), some (.int (ns.take 63).sum), some (.int (mo : Nat)), some (.ref r), v4, v5, v6] ∧ Same H5 H') ⟨_, _, _, rfl, Same.refl _⟩ (fun i σ H' _ ⟨_, _, _, _, s'⟩ => SqL.of (s' _ _ hg)) ?_ ?_
    · rintro i x σ H6 H7 hi ⟨v4, v5, v6, rfl, hs⟩ ⟨T, x1, y1, rfl, hT, rfl, ex, ey⟩
      cases ex
      have him : i < ms.length := by rw [List.length_map] at hi; exact hi
      obtain ⟨m, hm, rfl⟩ : ∃ m, ms[i]? = some m ∧ y1 = V.int m := by
        have ey : (ms.map V.int)[i]? = some y1 := ey
        rw [List.getElem?_map] at ey
        cases q : ms[i]? with
        | none => rw [q] at ey; cases ey
        | some m => rw [q] at ey; exact ⟨m, rfl, (Option.some.inj ey).symm⟩
      refine ⟨T, _, rfl, SqT.of upd_same, rfl, _, _, rfl, _, _, rfl, rfl, ?_⟩
      obtain ⟨H8, e8, s8, hT8⟩ := ab hT (.tup [V.int (i : Nat), V.int m])
      rw [e8]
      have hs8 := hs.trans s8
      refine ⟨_, rfl, _, rfl, m, _, _, rfl, small_lt (hmb m (List.mem_of_getElem? hm)) _ (by decide), by omega, by omega, by decide, by decide, fun z => ?_⟩
      obtain ⟨u, hu1, hu2, hu⟩ : ∃ u : Nat, 1 ≤ u ∧ u ≤ mo ∧ 1 + z % (mo : Int) = (u : Int) := by
        have q1 := Int.emod_nonneg z (show (mo : Int) ≠ 0 by omega)
        have q2 := Int.emod_lt_of_pos z (show (0 : Int) < (mo : Int) by omega)
        exact ⟨(1 + z % (mo : Int)).toNat, by omega, by omega, by omega⟩
      refine ⟨_, rfl, _, _, rfl, rfl, (by omega), _, _, rfl, rfl, ?_⟩
      show gName 6 (V.int (1 + z % (mo : Int))) _ _ _
      rw [hu]
      have fu : F u < ma + 1 := by
        rcases hmo with ⟨rfl, rfl⟩ | ⟨rfl, rfl⟩
        · have := F_le hu2; omega
        · have := F60_le hu2; omega
      refine ⟨_, rfl, _, rfl, _, rfl, r, fs, mo, ma + 1, u, rfl, sm_at hs8 hr5, fo5.keep fun r xs h => hs8 _ _ h, by omega, hu1, hu2, fu, fun H9 s9 => ?_⟩
      refine ⟨_, rfl, _, _, rfl, rfl, (by show (0 : Int) < 7; decide), _, _, rfl, rfl, ?_⟩
      obtain ⟨o, ho1, ho2, ho⟩ : ∃ o : Nat, 1 ≤ o ∧ o ≤ 7 ∧ 1 + (u : Int) % 7 = (o : Int) := ⟨(1 + (u : Int) % 7).toNat, by omega, by omega, by omega⟩
      refine ⟨u, o, by rw [← ho]; rfl, hu1, by omega, ho1, by omega, fun H10 s10 => ?_⟩
      refine ⟨_, rfl, iteF ?_⟩
      exact ⟨_, _, _, rfl, (hs8.trans s9).trans s10⟩
    · rintro σ H6 ⟨v4, v5, v6, rfl, hs⟩
      refine ⟨1, 9, rfl, ⟨by decide, by decide, by decide, by decide⟩, for_range (lo := 1) (n := 8) (fun j σ H' => ∃ v6 : Option V, σ = [some (.ref a), some (.int (ns.take 63).sum), some (.int (mo : Nat)), some (.ref r), v4, v5, v6] ∧ Same H5 H') ⟨_, rfl, hs⟩ ?_ ?_⟩
      · rintro j σ H7 hj ⟨v6, rfl, hs7⟩
        have ej : (1 : Int) + (j : Int) = ((j + 1 : Nat) : Int) := by omega
        rw [ej]
        refine ⟨_, rfl, _, rfl, .inl ⟨_, rfl, fun q => q ⟨by omega, by omega⟩, fun _ _ H8 s8 => ?_⟩⟩
        rw [Int.toNat_natCast]
        refine ⟨(show 8 ≤ sizeLine by decide), fun T nT => ?_⟩
        obtain ⟨H9, e9, s9, hT⟩ := ab nT (.tup [V.int 1, V.int 2, V.int 3, V.int 4, V.int 5, V.int 5, V.int 6, V.int 6])
        rw [e9]
        have f8 : [V.int 1, V.int 2, V.int 3, V.int 4, V.int 5, V.int 5, V.int 6, V.int 6][j]? = some (V.int (F (j + 1) : Nat)) := by
          have q := List.all_eq_true.mp F8 j (List.mem_range.mpr hj)
          rw [show [V.int 1, V.int 2, V.int 3, V.int 4, V.int 5, V.int 5, V.int 6, V.int 6] = ([1, 2, 3, 4, 5, 5, 6, 6] : List Int).map V.int from rfl, List.getElem?_map, of_decide_eq_true q]
          rfl
        refine ⟨_, rfl, _, _, rfl, rfl, T, _, _, _, rfl, rfl, SqT.of hT, (show atI _ (((j + 1 : Nat) : Int) - 1) = _ by rw [show ((j + 1 : Nat) : Int) - 1 = (j : Nat) by omega]; exact atI_nat f8), rfl, _, rfl, ifF (by rw [decide_eq_true rfl]; rfl) ?_⟩
        exact ⟨_, rfl, (hs7.trans s8).trans s9⟩
      · rintro σ H7 ⟨v6, rfl, hs7⟩
        have f81 : F 81 = 12 := by decide +kernel
        have f59 : F 59 = 14 := by decide +kernel
        have f23 : F 23 = 11 := by decide +kernel
        refine ⟨_, rfl, .inl ⟨_, rfl, fun q => q ⟨by decide, by decide⟩, fun _ _ G1 t1 => ?_⟩⟩
        rw [show F (81 : Int).toNat = 12 from f81]
        refine ⟨rfl, true, rfl, iteT ?_⟩
        refine ⟨_, rfl, .inl ⟨_, rfl, fun q => q ⟨by decide, by decide⟩, fun _ _ G2 t2 => ?_⟩⟩
        rw [show F (59 : Int).toNat = 14 from f59]
        refine ⟨rfl, true, rfl, iteT ?_⟩
        refine ⟨_, rfl, .inl ⟨_, rfl, fun q => q ⟨by decide, by decide⟩, fun _ _ G3 t3 => ?_⟩⟩
        rw [show F (23 : Int).toNat = 11 from f23]
        exact ⟨rfl, k _⟩
end
end Fo
namespace Fo
open PySem L2 FO
/-! ### the end: what the top has written -/
section
variable {K : PySem.W.Frag} {h : Heap} {mg : Str → Option Value}
theorem dn_mk {x : Str} {st : Stmt} {f : Addr} {oc : Value} {od an : Option Addr} {osl : Array (Option Value)} {kV doc pm cdv ct : Value} (X : K.In h) (G : h.Ns mainGlobals mg) (a : PySem.W.nsIn K mainGlobals x = some (some (.ref f)))
    (l : K.lookup f = some ⟨oc, od, .func (PySem.W.fnOf x x (defArgs st) (defBody st) (defScope st) .none kV doc pm an cdv ct), osl⟩)
    (c : PySem.W.codeIn K cdv x = true) (k : PySem.W.keepIn K (.ref f) = true) : Dn K mg x st := ⟨f, _, fun_mk l c k, PySem.W.mg_of X G a⟩
theorem bi_mk (X : K.In h) (G : h.Ns mainGlobals mg)
    (b_isi : PySem.W.nsIn K mainGlobals "isinstance" = some none) 
    (b_int : PySem.W.nsIn K mainGlobals "int" = some none) 
    (b_bool : PySem.W.nsIn K mainGlobals "bool" = some none) 
    (b_str : PySem.W.nsIn K mainGlobals "str" = some none) 
    (b_list : PySem.W.nsIn K mainGlobals "list" = some none) 
    (b_len : PySem.W.nsIn K mainGlobals "len" = some none) 
    (b_all : PySem.W.nsIn K mainGlobals "all" = some none) 
    (b_range : PySem.W.nsIn K mainGlobals "range" = some none) 
    (b_enum : PySem.W.nsIn K mainGlobals "enumerate" = some none) 
    (b_sum : PySem.W.nsIn K mainGlobals "sum" = some none) 
    (b_max : PySem.W.nsIn K mainGlobals "max" = some none) 
    (b_sorted : PySem.W.nsIn K mainGlobals "sorted" = some none) 
    (b_abs : PySem.W.nsIn K mainGlobals "abs" = some none) 
    (b_tuple : PySem.W.nsIn K mainGlobals "tuple" = some none) 
    (b_any : PySem.W.nsIn K mainGlobals "any" = some none) : Bi mg :=
  ⟨PySem.W.mg_none_of X G b_isi, PySem.W.mg_none_of X G b_int, PySem.W.mg_none_of X G b_bool, PySem.W.mg_none_of X G b_str, PySem.W.mg_none_of X G b_list, PySem.W.mg_none_of X G b_len, PySem.W.mg_none_of X G b_all, PySem.W.mg_none_of X G b_range, PySem.W.mg_none_of X G b_enum, PySem.W.mg_none_of X G b_sum, PySem.W.mg_none_of X G b_max, PySem.W.mg_none_of X G b_sorted, PySem.W.mg_none_of X G b_abs, PySem.W.mg_none_of X G b_tuple, PySem.W.mg_none_of X G b_any⟩
theorem er_mk {x : Str} {C : Addr} (X : K.In h) (G : h.Ns mainGlobals mg) (a : PySem.W.nsIn K mainGlobals x = some (some (.ref C))) (x1 : PySem.W.excIn K C [.type "ValueError", .type "Exception", .type "BaseException", .type "object"] "ValueError.__new__" = true)
    (k : PySem.W.keepIn K (.ref C) = true) (b : PySem.W.subIn K (.ref C) (.type "BaseException") = some true) (t : PySem.W.typeIn K (.ref C) = some (.type "type")) : ErC K mg x C := ⟨PySem.W.mg_of X G a, x1, k, b, t⟩
theorem erk_mk3 {O D C1 C2 C3 : Addr} {b1 b2 b3 : Bool} (e1 : PySem.W.findIn K (.ref D) "__getattribute__" = some (some (.builtin "BaseException.__getattribute__"))) (e2 : PySem.W.findIn K (.ref D) "__getattr__" = some none) (e3 : PySem.W.subIn K (.ref D) (.type "BaseException") = some true)
    (e4 : PySem.W.hasDictIn K D = true) (e5 : PySem.W.findIn K (.ref D) "__class__" = some (some (.builtin "object.__class__"))) (e6 : PySem.W.specialIn K (.builtin "object.__class__") "__get__" = some (some (.builtin "getset_descriptor.__get__")))
    (e7 : PySem.W.takesIn K (.builtin "object.__class__") = some true) (e8 : PySem.W.mroIn K D (.type "object") = some true) (o1 : PySem.W.subIn K (.ref O) (.type "BaseException") = some true) (o2 : PySem.W.hasDictIn K O = true) (o3 : PySem.W.typeIn K (.ref O) = some (.type "type")) (o4 : PySem.W.subIn K (.ref D) (.ref O) = some true)
    (i0 : PySem.W.kitOne K (.ref D) (.ref C1) = some b1) (i1 : PySem.W.kitOne K (.ref D) (.ref C2) = some b2) (i2 : PySem.W.kitOne K (.ref D) (.ref C3) = some b3) : ErK K O D [(C1, b1), (C2, b2), (C3, b3)] :=
  ⟨⟨e1, e2, e3, e4, e5, e6, e7, e8⟩, PySem.W.exm_ref o1 o2 o3 o4, fun p hp => by
    simp only [List.mem_cons, List.not_mem_nil, or_false] at hp
    rcases hp with rfl | rfl | rfl
    · exact i0
    · exact i1
    · exact i2⟩
/-- the class Least as the top has written it -/
structure LeD (K : PySem.W.Frag) (mg : Str → Option Value) (C : Addr) : Prop where
  L : LeC K C
  g : mg "Least" = some (.ref C)
  init : ∃ f fd, Mk K C f ∧ Fun K "__init__" "Least.__init__" sInit f fd
  shows : ∃ f fd, Meth K C "shows" f ∧ Fun K "shows" "Least.shows" sShows f fd
theorem le_mk {C f1 f2 : Addr} {od1 an1 od2 an2 : Option Addr} {sl1 sl2 : Array (Option Value)} {oc1 kV1 dc1 pm1 cd1 ct1 oc2 kV2 dc2 pm2 cd2 ct2 : Value} (X : K.In h) (G : h.Ns mainGlobals mg)
    (aC : PySem.W.nsIn K mainGlobals "Least" = some (some (.ref C)))
    (a1 : PySem.W.findIn K (.ref C) "__init__" = some (some (.ref f1))) (i1 : PySem.W.isFn K (.ref f1) = true)
    (l1 : K.lookup f1 = some ⟨oc1, od1, .func (PySem.W.fnOf "__init__" "Least.__init__" (defArgs sInit) (defBody sInit) (defScope sInit) .none kV1 dc1 pm1 an1 cd1 ct1), sl1⟩)
    (c1 : PySem.W.codeIn K cd1 "Least.__init__" = true) (k1 : PySem.W.keepIn K (.ref f1) = true)
    (a2 : PySem.W.findIn K (.ref C) "shows" = some (some (.ref f2))) (i2 : PySem.W.isFn K (.ref f2) = true)
    (l2 : K.lookup f2 = some ⟨oc2, od2, .func (PySem.W.fnOf "shows" "Least.shows" (defArgs sShows) (defBody sShows) (defScope sShows) .none kV2 dc2 pm2 an2 cd2 ct2), sl2⟩)
    (c2 : PySem.W.codeIn K cd2 "Least.shows" = true) (k2 : PySem.W.keepIn K (.ref f2) = true)
    (pg : PySem.W.plainGet K C Str.empty = true) (hd : PySem.W.hasDictIn K C = true) (po : PySem.W.plainOver K C = true) (sa : PySem.W.findIn K (.ref C) "__setattr__" = some (some (.builtin "object.__setattr__")))
    (mk : PySem.W.makesIn K C = true) (kc : PySem.W.keepIn K (.ref C) = true) (nT : PySem.W.findIn K (.ref C) "text" = some none) (nF : PySem.W.findIn K (.ref C) "floor" = some none) : LeD K mg C :=
  ⟨⟨⟨pg, hd, po, sa⟩, nT, nF⟩, PySem.W.mg_of X G aC, ⟨f1, _, ⟨mk, a1, i1, kc⟩, fun_mk l1 c1 k1⟩, ⟨f2, _, ⟨a2, i2, k2⟩, fun_mk l2 c2 k2⟩⟩
theorem mak_of {P : Program} {w : World} {base : Heap} {C : Addr} (D : LeD K mg C) (B : Bi mg) : C8.Mak P w K mg base 1 "Least" C (spInit K C) [] := by
  obtain ⟨f, fd, M, F'⟩ := D.init
  exact ⟨f, fd, _, [], M, fn_init F' D.L B, D.g, F'.binds fun _ _ _ _ _ _ us hl => match us, hl with | [_, _, _], _ => rfl, .nil⟩
theorem met_of {P : Program} {w : World} {base : Heap} {C : Addr} (D : LeD K mg C) (B : Bi mg) (W : Kp P w K mg base CX0 3 "worth_of" (spWorthOf K)) (Fl : Kp P w K mg base CX0 2 "is_floor" (spIsFloor K)) : C8.Met P w K mg base 4 C "shows" (spShows K C) [] := by
  obtain ⟨f, fd, M, F'⟩ := D.shows
  exact ⟨f, fd, _, [], D.L.cl, M, fn_shows F' D.L B W Fl, F'.binds fun _ _ _ _ _ _ us hl => match us, hl with | [_, _], _ => rfl, .nil⟩
theorem bits_lt {z : Int} {n : Nat} (h : PySem.Builtin.Int.intBits z ≤ n) : z.natAbs < 2 ^ n := by
  unfold PySem.Builtin.Int.intBits at h
  by_cases e : z = 0
  · subst e
    exact Nat.pow_pos (by decide)
  · have e' : (z == 0) = false := by simpa using e
    rw [e'] at h
    exact Nat.lt_of_lt_of_le (Nat.lt_log2_self) (Nat.pow_le_pow_right (by decide) h)
/-- the law's def, and how it is called -/
theorem law_end {l : PySem.W.OpenLaw} {w : World} {fa : Addr} {x : Str} {st : Stmt} {k : Nat} {sp : Sp} (D : Dn K mg "law" st) (hfa : mg "law" = some (.ref fa))
    (hb : ∀ (kV doc pm : Value) (an : Option Addr) (cdv ct v : Value), bindArgs (PySem.W.fnOf "law" "law" (defArgs st) (defBody st) (defScope st) .none kV doc pm an cdv ct) ⟨[v], []⟩ = pure [(x, v)])
    (hF : ∀ (base : Heap) (f : Addr) (fd : FuncData), Fun K "law" "law" st f fd → FnOk l.prog w K mg base CX0 k f fd [x] sp) :
    ∃ fd : FuncData, (∀ (s : Shared) (v : Value), BindsTo s fd ⟨[v], []⟩ [(x, v)]) ∧ ∀ base : Heap, K.In base → base.Ns mainGlobals mg → FnOk l.prog w K mg base CX0 k fa fd [x] sp := by
  obtain ⟨f, fd, F, hm⟩ := D.ex
  have e := hfa.symm.trans hm
  cases e
  refine ⟨fd, fun s v => ?_, fun base _ _ => hF base _ fd F⟩
  obtain ⟨oc, od, kV, doc, pm, an, cdv, ct, osl, rfl, lk, hcd⟩ := F.ex
  exact .of_eq (hb kV doc pm an cdv ct v)
end
end Fo
namespace Fo
open PySem L2 FO
/-- all that the law leans on -/
structure All2 (K : PySem.W.Frag) (mg : Str → Option Value) (CN C CA : Addr) : Prop where
  B : Bi mg
  lon : ∃ u, mg "LONGEST" = some u ∧ RelV (.int 2000) u
  mo : ∃ u, mg "MOST" = some u ∧ RelV (.int 200) u
  N : ErC K mg "BadNumber" CN
  L : LeD K mg C
  gA : mg "Answer" = some (.ref CA)
  i1 : PySem.W.findIn K (.ref C) "__class__" = some (some (.builtin "object.__class__"))
  i2 : PySem.W.specialIn K (.builtin "object.__class__") "__get__" = some (some (.builtin "getset_descriptor.__get__"))
  i3 : PySem.W.takesIn K (.builtin "object.__class__") = some true
  i4 : PySem.W.mroIn K C (.type "object") = some true
  i5 : PySem.W.kitOne K (.ref C) (.ref C) = some true
  i6 : PySem.W.kitOne K (.ref C) (.ref CA) = some true
  d1 : Dn K mg "is_whole" sWhole
  d2 : Dn K mg "done" sDone
  d3 : Dn K mg "worth_of" sWorthOf
  d4 : Dn K mg "put" sPut
  d5 : Dn K mg "is_floor" sIsFloor
  d6 : Dn K mg "check_number" sCheckNumber
  d7 : Dn K mg "table_of" sTable
  d8 : Dn K mg "text_by" sTextBy
  d9 : Dn K mg "least" sLeast
  d10 : Dn K mg "_law_number" sLawNumber
  d11 : Dn K mg "_law_says" sLawSays
  d12 : Dn K mg "_law_read" sLawRead
  d13 : Dn K mg "_law_closed" sLawClosed
  d14 : Dn K mg "_law_is_floor" sLawIsFloor
  d15 : Dn K mg "_law_right" sLawRight
  d16 : Dn K mg "fewest" sFewest
  d17 : Dn K mg "_law_whole" sLawWhole
  d18 : Dn K mg "_law_sets" sLawSets
  d19 : Dn K mg "_law_fewest" sLawFewest
  d20 : Dn K mg "_law_due" sLawDue
theorem all2 {P : Program} {w : World} {K : PySem.W.Frag} {mg : Str → Option Value} {CN C CA : Addr} (A : All2 K mg CN C CA) (base : Heap) (f : Addr) (fd : FuncData) (F' : Fun K "law" "law" sLaw f fd) : FnOk P w K mg base CX0 205 f fd pLaw (spLaw K) := by
  have k1 : Kp P w K mg base CX0 1 "is_whole" (spWhole K) := ok_whole A.d1 A.B
  have k2 := ok_done A.d2 A.B k1
  have k3 := ok_worthOf A.d3 A.B A.lon k1 k2
  have k5 := ok_isFloor A.d5 A.B k1
  have M := mak_of (P := P) (w := w) (base := base) A.L A.B
  have Sh := met_of A.L A.B k3 k5
  have k6 := ok_checkNumber A.d6 A.N A.mo k1
  have k7 := ok_table (P := P) (w := w) (base := base) A.d7 A.B
  have k8 := ok_textBy (P := P) (w := w) (base := base) A.d8 (ok_put A.d4) 200
  have k9 := ok_least A.d9 k6 k7 k8 M
  have k12 := ok_read (P := P) (w := w) (base := base) A.d12 A.B (ok_closed A.d13 A.B)
  have k16 := ok_fewest A.d16 k6 k7
  have k20 := ok_due A.d20 A.B k12 (ok_lisFloor A.d14 A.B)
  have k15 := ok_rightL A.d15 A.B A.L.L ⟨A.L.L.cl, A.i1, A.i2, A.i3, A.i4, A.i5⟩ A.i6 ⟨_, A.gA, rfl⟩ ⟨_, A.L.g, rfl⟩ k16 k9 (ok_lwhole A.d17 A.B) k20 (ok_says A.d11 A.B) Sh
  exact fn_law F' A.B (ok_number A.d10) (ok_sets A.d18 A.B) (ok_few A.d19 A.B) k15 k16
end Fo
open PySem PySem.W PyProof.Rows in
set_option maxRecDepth 100000 in
set_option maxHeartbeats 0 in
theorem PySem.Challenge.cw_fewones_k02_whole_least_holds : PySem.Challenge.rw_fewones_k02_whole_least.Holds := by
  w_on; o_law; k_head; (case hw => w_witness2)
  k_fill
  refine L2.walk_ofB (l := PySem.Challenge.rw_fewones_k02_whole_least) (n := 63) (k := 205) (x := "_law_script") (CX := fun _ => L2.CX0) (sp := fun w => Fo.spLaw _) rfl (by decide) rfl ⟨rfl, by decide, by decide⟩
    (fun w h Y => PySem.W.kIn_of Y) ?F (fun _ _ a ns hl hb _ hS => ⟨a, ns, rfl, hS, hl, fun n hn => Fo.bits_lt (hb n hn), fun _ => rfl⟩) fun _ _ _ _ _ z => z
  case F =>
    intro w mg fa h KX G hmg
    replace hmg : mg "law" = some (.ref fa) := hmg
    refine' Fo.law_end (l := PySem.Challenge.rw_fewones_k02_whole_least) (st := Fo.sLaw) ?q_D hmg (fun _ _ _ _ _ _ _ => rfl) (Fo.all2 ?q_A)
    (case q_D => refine' Fo.dn_mk KX G ?a ?l ?c ?k; (case a => k_is); (case l => k_is); (case c => k_is); (case k => k_is))
    case q_A =>
    refine' ⟨?q_B, ?q_lon, ?q_mo, ?q_N, ?q_L, ?q_gA, ?q_i1, ?q_i2, ?q_i3, ?q_i4, ?q_i5, ?q_i6, ?q_d1, ?q_d2, ?q_d3, ?q_d4, ?q_d5, ?q_d6, ?q_d7, ?q_d8, ?q_d9, ?q_d10, ?q_d11, ?q_d12, ?q_d13, ?q_d14, ?q_d15, ?q_d16, ?q_d17, ?q_d18, ?q_d19, ?q_d20⟩
    (case q_B => refine' Fo.bi_mk KX G ?b_isi ?b_int ?b_bool ?b_str ?b_list ?b_len ?b_all ?b_range ?b_enum ?b_sum ?b_max ?b_sorted ?b_abs ?b_tuple ?b_any; (case b_isi => k_is); (case b_int => k_is); (case b_bool => k_is); (case b_str => k_is); (case b_list => k_is); (case b_len => k_is); (case b_all => k_is); (case b_range => k_is); (case b_enum => k_is); (case b_sum => k_is); (case b_max => k_is); (case b_sorted => k_is); (case b_abs => k_is); (case b_tuple => k_is); (case b_any => k_is))
    (case q_lon => refine' ⟨_, PySem.W.mg_of KX G ?z, ?y⟩; (case z => k_is); (case y => exact ⟨_, rfl⟩))
    (case q_mo => refine' ⟨_, PySem.W.mg_of KX G ?z, ?y⟩; (case z => k_is); (case y => exact ⟨_, rfl⟩))
    (case q_N => refine' Fo.er_mk KX G ?a ?x ?k ?b ?t; (case a => k_is); (case x => k_exc); (case k => k_is); (case b => k_is); (case t => k_is))
    (case q_L => refine' Fo.le_mk KX G ?w_aC ?w_a1 ?w_i1 ?w_l1 ?w_c1 ?w_k1 ?w_a2 ?w_i2 ?w_l2 ?w_c2 ?w_k2 ?w_pg ?w_hd ?w_po ?w_sa ?w_mk ?w_kc ?w_nT ?w_nF; (case w_aC => k_is); (case w_a1 => k_is); (case w_i1 => k_is); (case w_l1 => k_is); (case w_c1 => k_is); (case w_k1 => k_is); (case w_a2 => k_is); (case w_i2 => k_is); (case w_l2 => k_is); (case w_c2 => k_is); (case w_k2 => k_is); (case w_pg => k_is); (case w_hd => k_is); (case w_po => k_is); (case w_sa => k_is); (case w_mk => k_is); (case w_kc => k_is); (case w_nT => k_is); (case w_nF => k_is))
    (case q_gA => refine' PySem.W.mg_of KX G ?z; (case z => k_is))
    (case q_i1 => first | k_is | rfl | decide +kernel)
    (case q_i2 => first | k_is | rfl | decide +kernel)
    (case q_i3 => first | k_is | rfl | decide +kernel)
    (case q_i4 => first | k_is | rfl | decide +kernel)
    (case q_i5 => first | k_is | rfl | decide +kernel)
    (case q_i6 => first | k_is | rfl | decide +kernel)
    (case q_d1 => refine' Fo.dn_mk KX G ?a ?l ?c ?k; (case a => k_is); (case l => k_is); (case c => k_is); (case k => k_is))
    (case q_d2 => refine' Fo.dn_mk KX G ?a ?l ?c ?k; (case a => k_is); (case l => k_is); (case c => k_is); (case k => k_is))
    (case q_d3 => refine' Fo.dn_mk KX G ?a ?l ?c ?k; (case a => k_is); (case l => k_is); (case c => k_is); (case k => k_is))
    (case q_d4 => refine' Fo.dn_mk KX G ?a ?l ?c ?k; (case a => k_is); (case l => k_is); (case c => k_is); (case k => k_is))
    (case q_d5 => refine' Fo.dn_mk KX G ?a ?l ?c ?k; (case a => k_is); (case l => k_is); (case c => k_is); (case k => k_is))
    (case q_d6 => refine' Fo.dn_mk KX G ?a ?l ?c ?k; (case a => k_is); (case l => k_is); (case c => k_is); (case k => k_is))
    (case q_d7 => refine' Fo.dn_mk KX G ?a ?l ?c ?k; (case a => k_is); (case l => k_is); (case c => k_is); (case k => k_is))
    (case q_d8 => refine' Fo.dn_mk KX G ?a ?l ?c ?k; (case a => k_is); (case l => k_is); (case c => k_is); (case k => k_is))
    (case q_d9 => refine' Fo.dn_mk KX G ?a ?l ?c ?k; (case a => k_is); (case l => k_is); (case c => k_is); (case k => k_is))
    (case q_d10 => refine' Fo.dn_mk KX G ?a ?l ?c ?k; (case a => k_is); (case l => k_is); (case c => k_is); (case k => k_is))
    (case q_d11 => refine' Fo.dn_mk KX G ?a ?l ?c ?k; (case a => k_is); (case l => k_is); (case c => k_is); (case k => k_is))
    (case q_d12 => refine' Fo.dn_mk KX G ?a ?l ?c ?k; (case a => k_is); (case l => k_is); (case c => k_is); (case k => k_is))
    (case q_d13 => refine' Fo.dn_mk KX G ?a ?l ?c ?k; (case a => k_is); (case l => k_is); (case c => k_is); (case k => k_is))
    (case q_d14 => refine' Fo.dn_mk KX G ?a ?l ?c ?k; (case a => k_is); (case l => k_is); (case c => k_is); (case k => k_is))
    (case q_d15 => refine' Fo.dn_mk KX G ?a ?l ?c ?k; (case a => k_is); (case l => k_is); (case c => k_is); (case k => k_is))
    (case q_d16 => refine' Fo.dn_mk KX G ?a ?l ?c ?k; (case a => k_is); (case l => k_is); (case c => k_is); (case k => k_is))
    (case q_d17 => refine' Fo.dn_mk KX G ?a ?l ?c ?k; (case a => k_is); (case l => k_is); (case c => k_is); (case k => k_is))
    (case q_d18 => refine' Fo.dn_mk KX G ?a ?l ?c ?k; (case a => k_is); (case l => k_is); (case c => k_is); (case k => k_is))
    (case q_d19 => refine' Fo.dn_mk KX G ?a ?l ?c ?k; (case a => k_is); (case l => k_is); (case c => k_is); (case k => k_is))
    (case q_d20 => refine' Fo.dn_mk KX G ?a ?l ?c ?k; (case a => k_is); (case l => k_is); (case c => k_is); (case k => k_is))
#print axioms PySem.Challenge.cw_fewones_k02_whole_least_holds
