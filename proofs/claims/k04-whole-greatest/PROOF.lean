import PyProof.Rows.All
import Wide.All
import OpenK.AllK
import Wide.FinOn
import HandS.ForMost
import HandS.ForExc
import HandS.IsInst
import HandS.ExcIs
import HandS.CallLocal
import HandS.WideBits
import HandS.Walk
import HandS.Codes
import HandS.Style
import HandS.EndBits
import PySem.Challenge.RW_fewones_k04_whole_greatest
set_option Elab.async false
set_option linter.all false
set_option maxRecDepth 100000
set_option maxHeartbeats 2000000
set_option linter.all false
namespace FO
/-! The stack machine: what stands on the stack is a number or a sign; the top of the stack is the head of the list. -/
abbrev Itm := Sum Int Nat
def doneS : List Itm → Option (List Itm)
  | .inl b :: .inr s :: .inl a :: .inr o :: r => if o = 40 then (if s = 43 then some (.inl (a + b) :: r) else if s = 42 then some (.inl (a * b) :: r) else none) else none
  | _ => none
def stepS (S : List Itm) (c : Nat) : Option (List Itm) :=
  if c = 49 then some (.inl 1 :: S) else if c = 41 then doneS S else if c = 40 ∨ c = 43 ∨ c = 42 then some (.inr c :: S) else none
def runS : List Itm → List Nat → Option (List Itm)
  | S, [] => some S
  | S, c :: t => match stepS S c with
    | some S' => runS S' t
    | none => none
def endS : Option (List Itm) → Int
  | some [.inl n] => n
  | _ => 0
def readL (t : List Nat) : Int := endS (runS [] t)
def worthL (t : List Nat) : Int := if t.length ≤ 2000 then readL t else 0
/-- bits of the numbers on the stack -/
def phi : List Itm → Nat
  | [] => 0
  | .inl n :: r => n.natAbs.log2 + 1 + phi r
  | .inr _ :: r => phi r
theorem lt_pow_log2 (n : Nat) : n < 2 ^ (n.log2 + 1) := Nat.lt_log2_self
theorem log2_add (a b : Int) : (a + b).natAbs.log2 + 1 ≤ a.natAbs.log2 + 1 + (b.natAbs.log2 + 1) := by
  by_cases h0 : (a + b).natAbs = 0
  · rw [h0, Nat.log2_zero]; omega
  · have h1 := lt_pow_log2 a.natAbs
    have h2 := lt_pow_log2 b.natAbs
    have h3 : (a + b).natAbs < 2 ^ (a.natAbs.log2 + 1 + b.natAbs.log2 + 1) := by
      have e1 : 2 ^ (a.natAbs.log2 + 1) ≤ 2 ^ (a.natAbs.log2 + 1 + b.natAbs.log2) := Nat.pow_le_pow_right (by decide) (by omega)
      have e2 : 2 ^ (b.natAbs.log2 + 1) ≤ 2 ^ (a.natAbs.log2 + 1 + b.natAbs.log2) := Nat.pow_le_pow_right (by decide) (by omega)
      have e3 : 2 ^ (a.natAbs.log2 + 1 + b.natAbs.log2 + 1) = 2 ^ (a.natAbs.log2 + 1 + b.natAbs.log2) * 2 := Nat.pow_succ ..
      have := Int.natAbs_add_le a b
      omega
    have h4 := (Nat.log2_lt h0).mpr h3
    omega
theorem log2_mul (a b : Int) : (a * b).natAbs.log2 + 1 ≤ a.natAbs.log2 + 1 + (b.natAbs.log2 + 1) := by
  by_cases h0 : (a * b).natAbs = 0
  · rw [h0, Nat.log2_zero]; omega
  · have h1 := lt_pow_log2 a.natAbs
    have h2 := lt_pow_log2 b.natAbs
    have h3 : (a * b).natAbs < 2 ^ (a.natAbs.log2 + 1 + (b.natAbs.log2 + 1)) := by
      rw [Int.natAbs_mul, Nat.pow_add]
      exact Nat.mul_lt_mul'' h1 h2
    have h4 := (Nat.log2_lt h0).mpr h3
    omega
theorem phi_done {S S' : List Itm} (h : doneS S = some S') : phi S' ≤ phi S := by
  unfold doneS at h
  split at h
  · rename_i b s a o r
    split at h
    · split at h
      · cases h; have := log2_add a b; simp only [phi]; omega
      · split at h
        · cases h; have := log2_mul a b; simp only [phi]; omega
        · cases h
    · cases h
  · cases h
theorem len_done {S S' : List Itm} (h : doneS S = some S') : S'.length ≤ S.length := by
  unfold doneS at h
  split at h
  · split at h
    · split at h
      · cases h; simp only [List.length_cons]; omega
      · split at h
        · cases h; simp only [List.length_cons]; omega
        · cases h
    · cases h
  · cases h
theorem phi_step {S S' : List Itm} {c : Nat} (h : stepS S c = some S') : phi S' ≤ phi S + 1 := by
  unfold stepS at h
  split at h
  · cases h; simp only [phi]; have : (1 : Int).natAbs.log2 = 0 := by decide
    omega
  · split at h
    · have := phi_done h; omega
    · split at h
      · cases h; simp only [phi]; omega
      · cases h
theorem len_step {S S' : List Itm} {c : Nat} (h : stepS S c = some S') : S'.length ≤ S.length + 1 := by
  unfold stepS at h
  split at h
  · cases h; simp
  · split at h
    · have := len_done h; omega
    · split at h
      · cases h; simp
      · cases h
theorem runS_append : ∀ (t u : List Nat) (S : List Itm), runS S (t ++ u) = (match runS S t with | some S' => runS S' u | none => none)
  | [], u, S => rfl
  | c :: t, u, S => by
    show (match stepS S c with | some S' => runS S' (t ++ u) | none => none) = _
    show _ = (match (match stepS S c with | some S' => runS S' t | none => none) with | some S' => runS S' u | none => none)
    cases stepS S c with
    | none => rfl
    | some S' => exact runS_append t u S'
theorem phi_run : ∀ (t : List Nat) (S S' : List Itm), runS S t = some S' → phi S' ≤ phi S + t.length
  | [], S, S', h => by cases h; simp
  | c :: t, S, S', h => by
    unfold runS at h
    split at h
    · rename_i S1 e
      have h1 := phi_step e
      have h2 := phi_run t S1 S' h
      simp only [List.length_cons]; omega
    · cases h
theorem len_run : ∀ (t : List Nat) (S S' : List Itm), runS S t = some S' → S'.length ≤ S.length + t.length
  | [], S, S', h => by cases h; simp
  | c :: t, S, S', h => by
    unfold runS at h
    split at h
    · rename_i S1 e
      have h1 := len_step e
      have h2 := len_run t S1 S' h
      simp only [List.length_cons]; omega
    · cases h
theorem run_snoc {t : List Nat} {c : Nat} {S : List Itm} (h : runS [] t = some S) : runS [] (t ++ [c]) = stepS S c := by
  rw [runS_append, h]
  show (match stepS S c with | some S' => runS S' [] | none => none) = stepS S c
  cases stepS S c <;> rfl
/-- a writing bears on any stack -/
theorem run_frame : ∀ (t : List Nat) (S S' R : List Itm), runS S t = some S' → runS (S ++ R) t = some (S' ++ R)
  | [], S, S', R, h => by cases h; rfl
  | c :: t, S, S', R, h => by
    unfold runS at h
    split at h
    · rename_i S1 e
      have e2 : stepS (S ++ R) c = some (S1 ++ R) := by
        unfold stepS at e ⊢
        split at e
        · cases e; rename_i hc; rw [if_pos hc]; rfl
        · rename_i hc; rw [if_neg hc]
          split at e
          · rename_i hc2; rw [if_pos hc2]
            unfold doneS at e
            split at e
            · show (if _ = 40 then _ else _) = _
              split at e
              · rename_i ho; rw [if_pos ho]
                split at e
                · rename_i hs; cases e; rw [if_pos hs]; rfl
                · rename_i hs; rw [if_neg hs]
                  split at e
                  · rename_i hs2; cases e; rw [if_pos hs2]; rfl
                  · cases e
              · cases e
            · cases e
          · rename_i hc2; rw [if_neg hc2]
            split at e
            · rename_i hc3; cases e; rw [if_pos hc3]; rfl
            · cases e
      unfold runS
      rw [e2]
      exact run_frame t S1 S' R h
    · cases h
/-- the number that a text is, as it is read on an empty stack -/
def Reads (t : List Nat) (n : Int) : Prop := runS [] t = some [.inl n]
theorem Reads.one : Reads [49] 1 := rfl
theorem Reads.on {t : List Nat} {n : Int} (h : Reads t n) (R : List Itm) : runS R t = some (.inl n :: R) := run_frame t [] [.inl n] R h
theorem Reads.plus {t u : List Nat} {m n : Int} (h : Reads t m) (k : Reads u n) : Reads (40 :: (t ++ 43 :: (u ++ [41]))) (m + n) := by
  show runS [.inr 40] (t ++ 43 :: (u ++ [41])) = _
  rw [runS_append, h.on]
  show runS [.inr 43, .inl m, .inr 40] (u ++ [41]) = _
  rw [runS_append, k.on]
  rfl
theorem Reads.times {t u : List Nat} {m n : Int} (h : Reads t m) (k : Reads u n) : Reads (40 :: (t ++ 42 :: (u ++ [41]))) (m * n) := by
  show runS [.inr 40] (t ++ 42 :: (u ++ [41])) = _
  rw [runS_append, h.on]
  show runS [.inr 42, .inl m, .inr 40] (u ++ [41]) = _
  rw [runS_append, k.on]
  rfl
theorem Reads.read {t : List Nat} {n : Int} (h : Reads t n) : readL t = n := by
  unfold readL; rw [h]; rfl
theorem Reads.worth {t : List Nat} {n : Int} (h : Reads t n) (hl : t.length ≤ 2000) : worthL t = n := by
  unfold worthL; rw [if_pos hl]; exact h.read
end FO
set_option linter.all false
namespace FO
/-! The fewest ones of 0 .. 200, five bits each. -/
def T : Nat := 0x108c2308420f8c1f18c2108420f94630842307c20f8c1ef7ba0f8420f841ef83e0f7bdee8420f83e0f741ef83dee7b9ef7bdee7bdcf7b9ee739cd83dce7b9ee739cd73dce735ee739cd7358d735cd6b5ac735cd735ac635ac7358c62dac6318b6b16c62d8b5ad6a5ad6a5a96a4a9495a9294a1284210741cc6314a418820
def F (n : Nat) : Nat := (T >>> (5 * n)) % 32
/-- a state of the inner loop: the best so far, the sign, the two parts -/
abbrev Wy := Nat × Nat × Nat × Nat
def innerA (n : Nat) (st : Wy) (o : Nat) : Wy := if F o + F (n - o) < st.1 then (F o + F (n - o), 43, o, n - o) else st
def innerB (n : Nat) (st : Wy) (o : Nat) : Wy := if n % o = 0 ∧ F o + F (n / o) < st.1 then (F o + F (n / o), 42, o, n / o) else st
def innerT (n : Nat) (st : Wy) (o : Nat) : Wy := innerB n (innerA n st o) o
def bestAt (n k : Nat) : Wy := (List.range' 2 k).foldl (innerT n) (F 1 + F (n - 1), 43, 1, n - 1)
def best (n : Nat) : Wy := bestAt n (n / 2 - 1)
theorem bestAt_zero (n : Nat) : bestAt n 0 = (F 1 + F (n - 1), 43, 1, n - 1) := rfl
theorem bestAt_succ (n k : Nat) : bestAt n (k + 1) = innerT n (bestAt n k) (2 + k) := by
  unfold bestAt
  rw [List.range'_concat, List.foldl_append, Nat.one_mul]
  rfl
def okAt (n : Nat) : Bool := let w := best n
  w.1 == F n && decide (1 ≤ w.2.2.1) && decide (w.2.2.1 < n) && decide (1 ≤ w.2.2.2) && decide (w.2.2.2 < n) && F n == F w.2.2.1 + F w.2.2.2 &&
    ((w.2.1 == 43 && w.2.2.1 + w.2.2.2 == n) || (w.2.1 == 42 && w.2.2.1 * w.2.2.2 == n))
theorem ok_all : ((List.range 199).all fun i => okAt (i + 2)) = true := by decide +kernel
structure BestOk (n : Nat) : Prop where
  val : (best n).1 = F n
  a1 : 1 ≤ (best n).2.2.1
  a2 : (best n).2.2.1 < n
  b1 : 1 ≤ (best n).2.2.2
  b2 : (best n).2.2.2 < n
  sum : F n = F (best n).2.2.1 + F (best n).2.2.2
  how : ((best n).2.1 = 43 ∧ (best n).2.2.1 + (best n).2.2.2 = n) ∨ ((best n).2.1 = 42 ∧ (best n).2.2.1 * (best n).2.2.2 = n)
theorem best_ok {n : Nat} (h2 : 2 ≤ n) (h : n ≤ 200) : BestOk n := by
  have q := List.all_eq_true.mp ok_all (n - 2) (List.mem_range.mpr (by omega))
  have e : n - 2 + 2 = n := by omega
  rw [e] at q
  unfold okAt at q
  simp only [Bool.and_eq_true, Bool.or_eq_true, beq_iff_eq, decide_eq_true_eq] at q
  obtain ⟨⟨⟨⟨⟨⟨q1, q2⟩, q3⟩, q4⟩, q5⟩, q6⟩, q7⟩ := q
  exact ⟨q1, q2, q3, q4, q5, q6, q7⟩
theorem F_zero : F 0 = 0 := by decide +kernel
theorem F_one : F 1 = 1 := by decide +kernel
theorem F_bd_all : ((List.range 201).all fun n => decide (F n ≤ 18) && (n == 0 || decide (1 ≤ F n))) = true := by decide +kernel
theorem F_le {n : Nat} (h : n ≤ 200) : F n ≤ 18 := by
  have q := List.all_eq_true.mp F_bd_all n (List.mem_range.mpr (by omega))
  simp only [Bool.and_eq_true, decide_eq_true_eq] at q
  exact q.1
theorem F_pos {n : Nat} (h1 : 1 ≤ n) (h : n ≤ 200) : 1 ≤ F n := by
  have q := List.all_eq_true.mp F_bd_all n (List.mem_range.mpr (by omega))
  simp only [Bool.and_eq_true, Bool.or_eq_true, decide_eq_true_eq, beq_iff_eq] at q
  rcases q.2 with z | z
  · omega
  · exact z
def flAt (a b : Nat) : Bool := (decide (200 < a + b) || decide (F (a + b) ≤ F a + F b)) && (decide (200 < a * b) || decide (F (a * b) ≤ F a + F b))
theorem fl_all : ((List.range 200).all fun a => (List.range 200).all fun b => flAt (a + 1) (b + 1)) = true := by decide +kernel
theorem F_add {a b : Nat} (ha : 1 ≤ a) (hb : 1 ≤ b) (h : a + b ≤ 200) : F (a + b) ≤ F a + F b := by
  have q := List.all_eq_true.mp (List.all_eq_true.mp fl_all (a - 1) (List.mem_range.mpr (by omega))) (b - 1) (List.mem_range.mpr (by omega))
  have e1 : a - 1 + 1 = a := by omega
  have e2 : b - 1 + 1 = b := by omega
  rw [e1, e2] at q
  unfold flAt at q
  simp only [Bool.and_eq_true, Bool.or_eq_true, decide_eq_true_eq] at q
  rcases q.1 with z | z
  · omega
  · exact z
theorem F_mul {a b : Nat} (ha : 1 ≤ a) (hb : 1 ≤ b) (h : a * b ≤ 200) : F (a * b) ≤ F a + F b := by
  have h1 : a ≤ a * b := Nat.le_mul_of_pos_right a hb
  have h2 : b ≤ a * b := Nat.le_mul_of_pos_left b ha
  have q := List.all_eq_true.mp (List.all_eq_true.mp fl_all (a - 1) (List.mem_range.mpr (by omega))) (b - 1) (List.mem_range.mpr (by omega))
  have e1 : a - 1 + 1 = a := by omega
  have e2 : b - 1 + 1 = b := by omega
  rw [e1, e2] at q
  unfold flAt at q
  simp only [Bool.and_eq_true, Bool.or_eq_true, decide_eq_true_eq] at q
  rcases q.2 with z | z
  · omega
  · exact z

/-! The greatest number of so many ones. -/
def cG (m : Nat) : Nat := if m % 3 = 0 then 3 else if m % 3 = 1 then 4 else 2
def gr (m : Nat) : Nat := if m = 1 then 1 else cG m * 3 ^ ((m - cG m) / 3)
theorem gr1 : gr 1 = 1 := rfl
theorem gr_0 (q : Nat) : gr (3 * q + 3) = 3 * 3 ^ q := by
  have h1 : (3 * q + 3) % 3 = 0 := by omega
  have h2 : (3 * q + 3 - 3) / 3 = q := by omega
  unfold gr cG
  rw [if_neg (by omega), if_pos h1, h2]
theorem gr_1 (q : Nat) : gr (3 * q + 4) = 4 * 3 ^ q := by
  have h0 : ¬ (3 * q + 4) % 3 = 0 := by omega
  have h1 : (3 * q + 4) % 3 = 1 := by omega
  have h2 : (3 * q + 4 - 4) / 3 = q := by omega
  unfold gr cG
  rw [if_neg (by omega), if_neg h0, if_pos h1, h2]
theorem gr_2 (q : Nat) : gr (3 * q + 2) = 2 * 3 ^ q := by
  have h0 : ¬ (3 * q + 2) % 3 = 0 := by omega
  have h1 : ¬ (3 * q + 2) % 3 = 1 := by omega
  have h2 : (3 * q + 2 - 2) / 3 = q := by omega
  unfold gr cG
  rw [if_neg (by omega), if_neg h0, if_neg h1, h2]
theorem gr_cases {m : Nat} (h : 2 ≤ m) : ∃ q, m = 3 * q + 3 ∨ m = 3 * q + 4 ∨ m = 3 * q + 2 := by
  have : m % 3 = 0 ∨ m % 3 = 1 ∨ m % 3 = 2 := by omega
  rcases this with z | z | z
  · exact ⟨m / 3 - 1, .inl (by omega)⟩
  · exact ⟨m / 3 - 1, .inr (.inl (by omega))⟩
  · exact ⟨m / 3, .inr (.inr (by omega))⟩
theorem gr_add3 {m : Nat} (h : 2 ≤ m) : gr (m + 3) = 3 * gr m := by
  obtain ⟨q, rfl | rfl | rfl⟩ := gr_cases h
  · rw [show 3 * q + 3 + 3 = 3 * (q + 1) + 3 by omega, gr_0, gr_0, Nat.pow_succ]; omega
  · rw [show 3 * q + 4 + 3 = 3 * (q + 1) + 4 by omega, gr_1, gr_1, Nat.pow_succ]; omega
  · rw [show 3 * q + 2 + 3 = 3 * (q + 1) + 2 by omega, gr_2, gr_2, Nat.pow_succ]; omega
theorem pow3_pos (q : Nat) : 1 ≤ 3 ^ q := Nat.pow_pos (by decide)
theorem gr_lt {m : Nat} (h : 1 ≤ m) : gr m < gr (m + 1) := by
  by_cases h1 : m = 1
  · subst h1; decide
  obtain ⟨q, rfl | rfl | rfl⟩ := gr_cases (show 2 ≤ m by omega)
  · rw [gr_0, show 3 * q + 3 + 1 = 3 * q + 4 by omega, gr_1]; have := pow3_pos q; omega
  · rw [gr_1, show 3 * q + 4 + 1 = 3 * (q + 1) + 2 by omega, gr_2, Nat.pow_succ]; have := pow3_pos q; omega
  · rw [gr_2, show 3 * q + 2 + 1 = 3 * q + 3 by omega, gr_0]; have := pow3_pos q; omega
theorem gr_pos {m : Nat} (h : 1 ≤ m) : 1 ≤ gr m := by
  by_cases h1 : m = 1
  · subst h1; decide
  obtain ⟨q, rfl | rfl | rfl⟩ := gr_cases (show 2 ≤ m by omega)
  · rw [gr_0]; have := pow3_pos q; omega
  · rw [gr_1]; have := pow3_pos q; omega
  · rw [gr_2]; have := pow3_pos q; omega
theorem gr_ge2 {m : Nat} (h : 2 ≤ m) : 2 ≤ gr m := by
  obtain ⟨q, rfl | rfl | rfl⟩ := gr_cases h
  · rw [gr_0]; have := pow3_pos q; omega
  · rw [gr_1]; have := pow3_pos q; omega
  · rw [gr_2]; have := pow3_pos q; omega
theorem mul_swap (c d x y : Nat) : c * x * (d * y) = c * d * (x * y) := by
  rw [Nat.mul_assoc, Nat.mul_left_comm x, ← Nat.mul_assoc]
theorem gr_mul {a b : Nat} (ha : 1 ≤ a) (hb : 1 ≤ b) : gr a * gr b ≤ gr (a + b) := by
  by_cases a1 : a = 1
  · subst a1; rw [gr1, Nat.one_mul, Nat.add_comm]; exact Nat.le_of_lt (gr_lt hb)
  by_cases b1 : b = 1
  · subst b1; rw [gr1, Nat.mul_one]; exact Nat.le_of_lt (gr_lt ha)
  obtain ⟨p, hp⟩ := gr_cases (show 2 ≤ a by omega)
  obtain ⟨q, hq⟩ := gr_cases (show 2 ≤ b by omega)
  have hpq := pow3_pos (p + q)
  have e : 3 ^ p * 3 ^ q = 3 ^ (p + q) := (Nat.pow_add 3 p q).symm
  have f1 : 3 ^ (p + q + 1) = 3 ^ (p + q) * 3 := Nat.pow_succ ..
  have f2 : 3 ^ (p + q + 2) = 3 ^ (p + q) * 3 * 3 := by rw [Nat.pow_succ, Nat.pow_succ]
  rcases hp with rfl | rfl | rfl <;> rcases hq with rfl | rfl | rfl
  · rw [gr_0, gr_0, show 3 * p + 3 + (3 * q + 3) = 3 * (p + q + 1) + 3 by omega, gr_0, f1, mul_swap, e]; omega
  · rw [gr_0, gr_1, show 3 * p + 3 + (3 * q + 4) = 3 * (p + q + 1) + 4 by omega, gr_1, f1, mul_swap, e]; omega
  · rw [gr_0, gr_2, show 3 * p + 3 + (3 * q + 2) = 3 * (p + q + 1) + 2 by omega, gr_2, f1, mul_swap, e]; omega
  · rw [gr_1, gr_0, show 3 * p + 4 + (3 * q + 3) = 3 * (p + q + 1) + 4 by omega, gr_1, f1, mul_swap, e]; omega
  · rw [gr_1, gr_1, show 3 * p + 4 + (3 * q + 4) = 3 * (p + q + 2) + 2 by omega, gr_2, f2, mul_swap, e]; omega
  · rw [gr_1, gr_2, show 3 * p + 4 + (3 * q + 2) = 3 * (p + q + 1) + 3 by omega, gr_0, f1, mul_swap, e]; omega
  · rw [gr_2, gr_0, show 3 * p + 2 + (3 * q + 3) = 3 * (p + q + 1) + 2 by omega, gr_2, f1, mul_swap, e]; omega
  · rw [gr_2, gr_1, show 3 * p + 2 + (3 * q + 4) = 3 * (p + q + 1) + 3 by omega, gr_0, f1, mul_swap, e]; omega
  · rw [gr_2, gr_2, show 3 * p + 2 + (3 * q + 2) = 3 * (p + q) + 4 by omega, gr_1, mul_swap, e]; omega
theorem gr_add {a b : Nat} (ha : 1 ≤ a) (hb : 1 ≤ b) : gr a + gr b ≤ gr (a + b) := by
  by_cases a1 : a = 1
  · subst a1; rw [gr1, Nat.add_comm 1 b]; have := gr_lt hb; omega
  by_cases b1 : b = 1
  · subst b1; rw [gr1]; have := gr_lt ha; omega
  have h1 := gr_ge2 (show 2 ≤ a by omega)
  have h2 := gr_ge2 (show 2 ≤ b by omega)
  refine Nat.le_trans ?_ (gr_mul ha hb)
  generalize gr a = x at h1 ⊢
  generalize gr b = y at h2 ⊢
  obtain ⟨x', rfl⟩ : ∃ x', x = x' + 2 := ⟨x - 2, by omega⟩
  obtain ⟨y', rfl⟩ : ∃ y', y = y' + 2 := ⟨y - 2, by omega⟩
  rw [Nat.add_mul, Nat.mul_add]
  omega

/-! Writings: the text, its worth, its ones. -/
inductive Wr : List Nat → Int → Nat → Prop where
  | one : Wr [49] 1 1
  | plus {t u : List Nat} {m n : Int} {j k : Nat} (h : Wr t m j) (g : Wr u n k) : Wr (40 :: (t ++ 43 :: (u ++ [41]))) (m + n) (j + k)
  | times {t u : List Nat} {m n : Int} {j k : Nat} (h : Wr t m j) (g : Wr u n k) : Wr (40 :: (t ++ 42 :: (u ++ [41]))) (m * n) (j + k)
theorem Wr.reads {t : List Nat} {n : Int} {k : Nat} (h : Wr t n k) : Reads t n := by
  induction h with
  | one => exact .one
  | plus _ _ a b => exact a.plus b
  | times _ _ a b => exact a.times b
theorem Wr.count {t : List Nat} {n : Int} {k : Nat} (h : Wr t n k) : t.count 49 = k := by
  induction h with
  | one => rfl
  | plus _ _ a b => simp [List.count_cons, List.count_append, a, b]
  | times _ _ a b => simp [List.count_cons, List.count_append, a, b]
theorem Wr.len {t : List Nat} {n : Int} {k : Nat} (h : Wr t n k) : t.length + 3 = 4 * k := by
  induction h with
  | one => rfl
  | plus _ _ a b => simp only [List.length_cons, List.length_append, List.length_nil]; omega
  | times _ _ a b => simp only [List.length_cons, List.length_append, List.length_nil]; omega
theorem Wr.pos {t : List Nat} {n : Int} {k : Nat} (h : Wr t n k) : 1 ≤ n ∧ 1 ≤ k := by
  induction h with
  | one => exact ⟨by decide, by decide⟩
  | plus _ _ a b => exact ⟨by omega, by omega⟩
  | times _ _ a b => exact ⟨Int.le_trans a.1 (by have := Int.mul_le_mul_of_nonneg_left b.1 (show (0 : Int) ≤ _ from Int.le_trans (by decide) a.1); rwa [Int.mul_one] at this), by omega⟩
theorem Wr.le {t : List Nat} {n : Int} {k : Nat} (h : Wr t n k) : n ≤ (gr k : Int) := by
  induction h with
  | one => exact Int.le_refl _
  | plus h g a b => have := gr_add h.pos.2 g.pos.2; omega
  | @times t u m n j k h g a b =>
    have h1 := gr_mul h.pos.2 g.pos.2
    have h2 : m * n ≤ (gr j : Int) * (gr k : Int) := Int.mul_le_mul a b (by have := g.pos.1; omega) (by omega)
    have h3 : (gr j : Int) * (gr k : Int) ≤ (gr (j + k) : Int) := by exact_mod_cast h1
    omega
theorem Wr.worth {t : List Nat} {n : Int} {k : Nat} (h : Wr t n k) (hk : k ≤ 500) : worthL t = n := h.reads.worth (by have := h.len; omega)
end FO
set_option Elab.async false
set_option linter.all false
set_option maxRecDepth 100000
set_option maxHeartbeats 2000000
namespace Fo
open PySem L2 FO
/-! ### what every law's proof uses -/
/-- the def x of the top stands -/
structure Dn (K : PySem.W.Frag) (mg : Str → Option Value) (x : Str) (st : Stmt) : Prop where
  ex : ∃ (f : Addr) (fd : FuncData), Fun K x x st f fd ∧ mg x = some (.ref f)
/-- the def x keeps its promise -/
structure Kp (P : Program) (w : World) (K : PySem.W.Frag) (mg : Str → Option Value) (base : Heap) (CX : CXT) (k : Nat) (x : Str) (sp : Sp) : Prop where
  ex : ∃ (f : Addr) (fd : FuncData) (ps : List Str), FnOk P w K mg base CX k f fd ps sp ∧ mg x = some (.ref f) ∧ PySem.W.keepIn K (.ref f) = true ∧ Binds K fd ps []
/-- the built-in names are the built-ins -/
structure Bi (mg : Str → Option Value) : Prop where
  isi : mg "isinstance" = none
  int : mg "int" = none
  bool : mg "bool" = none
  str : mg "str" = none
  list : mg "list" = none
  len : mg "len" = none
  all : mg "all" = none
  range : mg "range" = none
  enum : mg "enumerate" = none
  sum : mg "sum" = none
  max : mg "max" = none
  sorted : mg "sorted" = none
  abs : mg "abs" = none
  tuple : mg "tuple" = none
  any : mg "any" = none
section
variable {X : Cx} {k j : Nat} {x : Str} {sp : Sp} {p pos : Pos} {e : Expr} {es : List Expr} {t : TA}
/-- a call of a def that raises nothing -/
theorem pk (c : Kp X.prog X.w X.K X.mg X.base CX0 k x sp) (hr : Room j X.A) (hk : k ≤ j) (hg : Gl X x) (ha : PA X (e :: es) t)
    (hdb : (x == ("__debug__" : Str)) = false := by decide)
    (he : starEach (e :: es) X.env = (false, eval e X.env) :: starEach es X.env := by rfl)
    (hpl : (backTo pos (starEach es X.env)).any (·.1) = false := by rfl) :
    PE X (.Call (.Name x p) (e :: es) [] pos) (tCall sp [] E0 t) := by
  obtain ⟨f, fd, ps, F, hm, kp, b⟩ := c.ex
  exact pe_call F (hr.mono hk) hg hm kp b .nil pass0 ha hdb he hpl
/-- a call of a def that may raise, where nothing is let out -/
theorem pkL (c : Kp X.prog X.w X.K X.mg X.base (L2.CX X.prog X.w) k x sp) (hr : Room j X.A) (hk : k ≤ j) (hg : Gl X x) (ha : PA X (e :: es) t)
    (hdb : (x == ("__debug__" : Str)) = false := by decide)
    (he : starEach (e :: es) X.env = (false, eval e X.env) :: starEach es X.env := by rfl)
    (hpl : (backTo pos (starEach es X.env)).any (·.1) = false := by rfl) :
    PE X (.Call (.Name x p) (e :: es) [] pos) (tCall sp [] E0 t) := by
  obtain ⟨f, fd, ps, F, hm, kp, b⟩ := c.ex
  exact pe_call F (hr.mono hk) hg hm kp b .nil passL ha hdb he hpl
/-- .. where what is raised is wished for by W -/
theorem pkS {W : WX} (c : Kp X.prog X.w X.K X.mg X.base (L2.CX X.prog X.w) k x sp) (tk : Takes X W) (hr : Room j X.A) (hk : k ≤ j) (hg : Gl X x) (ha : PA X (e :: es) t)
    (hdb : (x == ("__debug__" : Str)) = false := by decide)
    (he : starEach (e :: es) X.env = (false, eval e X.env) :: starEach es X.env := by rfl)
    (hpl : (backTo pos (starEach es X.env)).any (·.1) = false := by rfl) :
    PE X (.Call (.Name x p) (e :: es) [] pos) (tCallS sp (WE W) t) := by
  obtain ⟨f, fd, ps, F, hm, kp, b⟩ := c.ex
  exact pe_callS F (hr.mono hk) hg hm kp b (fun σ => passAt tk σ) ha hdb he hpl
end
theorem ifT {b : Bool} {A C : Prop} (h : b = true) (x : A) : if b = true then A else C := by
  rw [if_pos h]
  exact x
theorem ifF {b : Bool} {A C : Prop} (h : b = false) (x : C) : if b = true then A else C := by
  rw [h]
  exact iteF x
theorem sm_put {H H' : Hp} {p : Addr} {o : HO} (s : Same H H') (h : H p = none) : Same H (upd H' p o) := fun b u e => by
  rw [upd_ne (ne_of_none e h)]
  exact s b u e
theorem sm_new {H H' : Hp} {p : Addr} {o : HO} (s : Same H H') (h : H' p = none) : Same H (upd H' p o) := sm_put s (s.free h)
theorem sm_upd {H : Hp} {p : Addr} {o : HO} (h : H p = none) : Same H (L2.upd H p o) := sm_put (Same.refl H) h
theorem sm_tup {K : PySem.W.Frag} {H H' : Hp} {a : Addr} {xs : List V} (e : Same H H') (h : SqT K H a xs) : SqT K H' a xs := by
  rcases h with (h | ⟨o, h⟩) | h
  · exact .inl (.inl (e _ _ h))
  · exact .inl (.inr ⟨o, e _ _ h⟩)
  · exact .inr h
theorem sm_at {H H' : Hp} {a : Addr} {o : HO} (e : Same H H') (h : H a = some o) : H' a = some o := e a o h
/-- a heap with a new object, by a letter -/
theorem ab {H : Hp} {q : Addr} (nq : H q = none) (o : HO) : ∃ H0, upd H q o = H0 ∧ Same H H0 ∧ H0 q = some o := ⟨_, rfl, sm_upd nq, upd_same⟩
/-- xs[-k] -/
theorem atI_neg {α : Type} {xs : List α} {k : Nat} {v : α} (h1 : 1 ≤ k) (h2 : k ≤ xs.length) (h : xs[xs.length - k]? = some v) {z : Int} (hz : z = -(k : Int)) : atI xs z = some v := by
  subst hz
  have e : ixN xs.length (-(k : Int)) = some (xs.length - k) := by
    unfold ixN
    rw [if_neg (by omega), if_pos (by omega)]
    congr 1
    omega
  unfold atI
  rw [e]
  exact h
/-- is it a whole number -/
def IsW (K : PySem.W.Frag) (H : Hp) (v : V) (b : Bool) : Prop := ∃ (t : Value) (b1 b2 : Bool), TyX K H v t ∧ PySem.W.kitOne K t (.type "int") = some b1 ∧ (b1 = true → PySem.W.kitOne K t (.type "bool") = some b2) ∧ b = (b1 && !b2)
theorem IsW.int {K : PySem.W.Frag} {H : Hp} (i : Int) : IsW K H (.int i) true := ⟨.type "int", true, false, .base (.int i), kit_ty (by decide +kernel), fun _ => kit_ty (by decide +kernel), rfl⟩
theorem IsW.str {K : PySem.W.Frag} {H : Hp} (z : Str) : IsW K H (.str z) false := ⟨.type "str", false, false, .base (.str z), kit_ty (by decide +kernel), fun _ => kit_ty (by decide +kernel), rfl⟩
theorem IsW.non {K : PySem.W.Frag} {H : Hp} : IsW K H .non false := ⟨.type "NoneType", false, false, .base .non, kit_ty (by decide +kernel), fun _ => kit_ty (by decide +kernel), rfl⟩
theorem IsW.bl {K : PySem.W.Frag} {H : Hp} (c : Bool) : IsW K H (.bl c) false := ⟨.type "bool", true, true, .base (.bl c), kit_ty (by decide +kernel), fun _ => kit_ty (by decide +kernel), rfl⟩
theorem IsW.lst {K : PySem.W.Frag} {H : Hp} {a : Addr} {xs : List V} (h : H a = some (.lst xs)) : IsW K H (.ref a) false := ⟨.type "list", false, false, .base (.lst h), kit_ty (by decide +kernel), fun _ => kit_ty (by decide +kernel), rfl⟩
theorem IsW.tup {K : PySem.W.Frag} {H : Hp} {a : Addr} {xs : List V} (h : H a = some (.tup xs)) : IsW K H (.ref a) false := ⟨.type "tuple", false, false, .base (.tup h), kit_ty (by decide +kernel), fun _ => kit_ty (by decide +kernel), rfl⟩
theorem IsW.dK {K : PySem.W.Frag} {H : Hp} {a : Addr} {xs : List (Key × V)} (h : H a = some (.dK xs)) : IsW K H (.ref a) false := ⟨.type "dict", false, false, .base (.dK h), kit_ty (by decide +kernel), fun _ => kit_ty (by decide +kernel), rfl⟩
/-- what stands on the stack, as a value -/
def itV : Itm → V
  | .inl n => .int n
  | .inr c => .str ⟨#[c]⟩
def stV (S : List Itm) : List V := S.reverse.map itV
theorem stV_cons (x : Itm) (S : List Itm) : stV (x :: S) = stV S ++ [itV x] := by simp [stV]
theorem stV_length (S : List Itm) : (stV S).length = S.length := by simp [stV]
theorem IsW.itm {K : PySem.W.Frag} {H : Hp} : ∀ x : Itm, IsW K H (itV x) (match x with | .inl _ => true | .inr _ => false)
  | .inl n => IsW.int n
  | .inr c => IsW.str _
end Fo
namespace Fo
open PySem
/-! the text by places -/
def top (i : Nat) : Stmt := PySem.Challenge.pw_fewones_k04_whole_greatest.main.body.getD i (.Pass ⟨0, 0, 0, 0⟩)
abbrev sWhole : Stmt := top 6
abbrev sDone : Stmt := top 7
abbrev sWorthOf : Stmt := top 8
abbrev sCheckText : Stmt := top 9
abbrev sWorth : Stmt := top 10
abbrev sOnes : Stmt := top 11
abbrev sCheckOnes : Stmt := top 14
abbrev sGreatestOf : Stmt := top 15
abbrev sGreatest : Stmt := top 16
abbrev sLawNumber : Stmt := top 18
abbrev nLawNumber : List Str := ["_law_cell", "_law_at", "_law_whole_here", "_law_mixed", "_law_more"]
abbrev pLawNumber : List Str := ["_law_cell", "_law_at", "_law_whole_here"]
abbrev sLawWhole : Stmt := top 19
abbrev nLawWhole : List Str := ["_law_found"]
abbrev pLawWhole : List Str := ["_law_found"]
abbrev sLawText : Stmt := top 20
abbrev nLawText : List Str := ["_law_number_here", "_law_many", "_law_parts", "_law_turn", "_law_digits", "_law_one", "_law_other", "_law_made"]
abbrev pLawText : List Str := ["_law_number_here", "_law_many"]
abbrev sLawBest : Stmt := top 21
abbrev nLawBest : List Str := ["_law_most", "_law_found", "_law_many", "_law_both", "_law_one"]
abbrev pLawBest : List Str := ["_law_most"]
abbrev sLaw : Stmt := top 22
abbrev nLaw : List Str := ["_law_script", "_law_whole_here", "_law_best_here", "_law_at", "_law_cell", "_law_number_here", "_law_many", "_law_found", "_law_far", "_law_text_here", "_law_some", "_law_turn"]
abbrev pLaw : List Str := ["_law_script"]
end Fo
namespace Fo
open PySem L2 FO
section
variable {P : Program} {w : World} {K : PySem.W.Frag} {mg : Str → Option Value} {base : Heap}
/-! ### is_whole -/
def spWhole (K : PySem.W.Frag) : Sp := fun vs H Q _ => ∃ (v : V) (b : Bool), vs = [v] ∧ IsW K H v b ∧ Q (.bl b) H
theorem scWhole : FnScope ["thing"] ["thing"] (defScope sWhole) := ⟨rfl, rfl, rfl, by decide +kernel, rfl, by decide +kernel, by decide +kernel⟩
theorem ok_whole (D : Dn K mg "is_whole" sWhole) (B : Bi mg) : Kp P w K mg base CX0 1 "is_whole" (spWhole K) := by
  obtain ⟨f, fd, F, hm⟩ := D.ex
  refine ⟨f, fd, ["thing"], F.ok scWhole (fun vs H Q E h => ?_) (fun cdv A outer s H vs Q E hr h => ?_), hm, F.kp, F.binds fun _ _ _ _ _ _ us hl => match us, hl with | [_], _ => rfl⟩
  · obtain ⟨v, b, rfl, _⟩ := h
    rfl
  · obtain ⟨v, b, rfl, ⟨t, b1, b2, ty, k1, k2, rfl⟩, q⟩ := h
    refine ⟨_, pss_one (ps_ret (pe_and
      (pe_callB call_isi (by rfl) B.isi (by decide +kernel) (pa_cons (pv 0) (pa_cons (pe_bltn (v := .ty "int") (by rfl) B.int (by decide +kernel) rfl) pa_nil)))
      (pe_one (pe_not (pe_callB call_isi (by rfl) B.isi (by decide +kernel) (pa_cons (pv 0) (pa_cons (pe_bltn (v := .ty "bool") (by rfl) B.bool (by decide +kernel) rfl) pa_nil))))))), ?_⟩
    refine ⟨_, rfl, _, _, _, _, b1, rfl, .ty "int", ty, k1, b1, rfl, ?_⟩
    cases b1 with
    | false => exact iteF q
    | true =>
      refine iteT ⟨_, rfl, _, _, _, _, b2, rfl, .ty "bool", ty, k2 rfl, b2, rfl, ?_⟩
      exact q
end
end Fo
namespace Fo
open PySem L2 FO
section
variable {P : Program} {w : World} {K : PySem.W.Frag} {mg : Str → Option Value} {base : Heap}
/-! ### done -/
def spDone (K : PySem.W.Frag) : Sp := fun vs H Q _ => ∃ (a : Addr) (S : List Itm), vs = [.ref a] ∧ SqL K H a (stV S) ∧ S.length ≤ 2001 ∧ phi S ≤ 2001 ∧
  (doneS S = none → ∀ H', Same H H' → Q .non H') ∧ (∀ S', doneS S = some S' → ∀ H' q, Same H H' → H q = none → H' q = some (.lst (stV S')) → Q (.ref q) H')
theorem scDone : FnScope ["stack", "one", "other"] ["stack"] (defScope sDone) := ⟨rfl, rfl, rfl, by decide +kernel, rfl, by decide +kernel, by decide +kernel⟩
theorem stV4 (o s a p : Itm) (r : List Itm) : stV (o :: s :: a :: p :: r) = stV r ++ [itV p, itV a, itV s, itV o] := by
  simp [stV]
theorem scal_it (x : Itm) (z : Str) : scal (itV x) (.str z) = true := by cases x <;> rfl
theorem flat_it (x : Itm) : flatV (itV x) = true := by cases x <;> rfl
theorem it_is (x : Itm) (c : Nat) : decide (itV x = V.str ⟨#[c]⟩) = decide (x = Sum.inr c) := by
  cases x with
  | inl n =>
    rw [decide_eq_false (by intro z; cases z), decide_eq_false (by intro z; cases z)]
  | inr d =>
    by_cases h : d = c
    · subst h
      exact (decide_eq_true (p := itV (.inr d) = V.str ⟨#[d]⟩) rfl).trans (decide_eq_true rfl).symm
    · have h1 : ¬ itV (.inr d) = V.str ⟨#[c]⟩ := fun z => by
        have z' : (⟨#[d]⟩ : Str) = ⟨#[c]⟩ := V.str.inj z
        have z2 : #[d] = #[c] := congrArg Str.cps z'
        simp at z2
        exact h z2
      rw [decide_eq_false h1, decide_eq_false (fun z => h (Sum.inr.inj z))]
theorem in_pm (x : Itm) : inV (itV x) [V.str "+", V.str "*"] = (decide (x = Sum.inr 43) || decide (x = Sum.inr 42)) := by
  cases x with
  | inl n => simp [inV, eqV, itV]
  | inr d =>
    have h1 : (("+" : Str) == (⟨#[d]⟩ : Str)) = decide (d = 43) := by
      have e : ("+" : Str) = ⟨#[43]⟩ := by decide +kernel
      rw [e]
      by_cases h : d = 43
      · subst h; simp
      · simp [h, Ne.symm h]
    have h2 : (("*" : Str) == (⟨#[d]⟩ : Str)) = decide (d = 42) := by
      have e : ("*" : Str) = ⟨#[42]⟩ := by decide +kernel
      rw [e]
      by_cases h : d = 42
      · subst h; simp
      · simp [h, Ne.symm h]
    simp only [inV, List.any_cons, List.any_nil, Bool.or_false, itV, eqV]
    simp [h1, h2]
theorem done_short {S : List Itm} (h : S.length < 4) : doneS S = none := by
  unfold doneS
  split
  · simp only [List.length_cons] at h; omega
  · rfl
theorem ok_done (D : Dn K mg "done" sDone) (B : Bi mg) (W : Kp P w K mg base CX0 1 "is_whole" (spWhole K)) : Kp P w K mg base CX0 2 "done" (spDone K) := by
  obtain ⟨f, fd, F, hm⟩ := D.ex
  refine ⟨f, fd, ["stack"], F.ok scDone (fun vs H Q E h => ?_) (fun cdv A outer s H vs Q E hr h => ?_), hm, F.kp, F.binds fun _ _ _ _ _ _ us hl => match us, hl with | [_], _ => rfl⟩
  · obtain ⟨a, S, rfl, _⟩ := h
    rfl
  · obtain ⟨a, S, rfl, hS, hlen, hphi, kN, kS⟩ := h
    refine ⟨_, pss_cons (ps_if (PW.pt (pw_or (pt_cmpR op_lt (pe_callB call_len_seq (by rfl) B.len PySem.boot_len (pa_cons (pv 0) pa_nil)) pe_int (nomark _))
        (pw_or (pt_cmpR op_ne (pe_ix ix_list (pv 0) (pe_un un_neg pe_int) (fun _ _ => rfl)) pe_str (nomark _))
        (pw_or1 (pt_cmpR op_notIn_seq (pe_ix ix_list (pv 0) (pe_un un_neg pe_int) (fun _ _ => rfl)) (pe_tup (pa_cons pe_str (pa_cons pe_str pa_nil))) (by rfl))))))
          (pss_one (ps_ret pe_non)) pss_nil)
      (pss_cons (ps_par (i := 1) (j := 2) (by rfl) scDone.nd rfl rfl (by decide) rfl rfl (pa_cons (pe_ix ix_list (pv 0) (pe_un un_neg pe_int) (fun _ _ => rfl)) (pa_cons (pe_ix ix_list (pv 0) (pe_un un_neg pe_int) (fun _ _ => rfl)) pa_nil)) (by rfl))
      (pss_cons (ps_if (PW.pt (pw_or (pt_not (pt_val (pk W hr (by decide) rfl (pa_cons (pv 1) pa_nil)))) (pw_or1 (pt_not (pt_val (pk W hr (by decide) rfl (pa_cons (pv 2) pa_nil)))))))
          (pss_one (ps_ret pe_non)) pss_nil)
      (pss_one (ps_ret (pe_op op_cat (pe_slice sl_list (pv 0) po_none (po_some (pe_un un_neg pe_int)))
        (pe_lst (pa_cons (pe_ifExp (pt_cmpR op_eq (pe_ix ix_list (pv 0) (pe_un un_neg pe_int) (fun _ _ => rfl)) pe_str (nomark _)) (pe_op op_add (pv 1) (pv 2)) (pe_op op_mulX (pv 1) (pv 2))) pa_nil))))))), ?_⟩
    refine ⟨_, rfl, a, _, rfl, .inl hS, _, _, rfl, rfl, _, rfl, ?_⟩
    by_cases hl : S.length < 4
    · exact ifT (decide_eq_true (by rw [stV_length]; omega)) (iteT (kN (done_short hl) H (Same.refl H)))
    obtain ⟨o, u, x, p, r, rfl⟩ : ∃ o u x p r, S = o :: u :: x :: p :: r := by
      match S, hl with
      | o :: u :: x :: p :: r, _ => exact ⟨o, u, x, p, r, rfl⟩
      | [], h => exact absurd (by decide) h
      | [_], h => exact absurd (by simp) h
      | [_, _], h => exact absurd (by simp) h
      | [_, _, _], h => exact absurd (by simp) h
    rw [stV4] at hS
    refine ifF (decide_eq_false (by rw [stV_length]; omega)) ?_
    have L : (stV r ++ [itV p, itV x, itV u, itV o]).length = r.length + 4 := by rw [List.length_append, stV_length]; rfl
    have g4 : atI (stV r ++ [itV p, itV x, itV u, itV o]) (-4) = some (itV p) := atI_neg (k := 4) (by decide) (by omega) (by rw [L, List.getElem?_append_right (by rw [stV_length]; omega), stV_length]; simp) rfl
    have g3 : atI (stV r ++ [itV p, itV x, itV u, itV o]) (-3) = some (itV x) := atI_neg (k := 3) (by decide) (by omega) (by rw [L, List.getElem?_append_right (by rw [stV_length]; omega), stV_length, show r.length + 4 - 3 - r.length = 1 by omega]; rfl) rfl
    have g2 : atI (stV r ++ [itV p, itV x, itV u, itV o]) (-2) = some (itV u) := atI_neg (k := 2) (by decide) (by omega) (by rw [L, List.getElem?_append_right (by rw [stV_length]; omega), stV_length, show r.length + 4 - 2 - r.length = 2 by omega]; rfl) rfl
    have g1 : atI (stV r ++ [itV p, itV x, itV u, itV o]) (-1) = some (itV o) := atI_neg (k := 1) (by decide) (by omega) (by rw [L, List.getElem?_append_right (by rw [stV_length]; omega), stV_length, show r.length + 4 - 1 - r.length = 3 by omega]; rfl) rfl
    have ePar : ("(" : Str) = ⟨#[40]⟩ := by decide +kernel
    have ePlus : ("+" : Str) = ⟨#[43]⟩ := by decide +kernel
    -- stack[-4] != "("
    refine ⟨_, rfl, _, rfl, a, _, _, _, rfl, rfl, hS, g4, scal_it _ _, _, rfl, ?_⟩
    by_cases hp : ¬ p = Sum.inr 40
    · refine ifT ?_ (iteT (kN ?_ H (Same.refl H)))
      · rw [ePar, it_is, decide_eq_false hp]; rfl
      · unfold doneS
        split
        · rename_i b s a o' r' e
          injection e with e1 e; injection e with e2 e; injection e with e3 e; injection e with e4 e
          rw [if_neg (fun z => hp (by rw [e4, z]))]
        · rfl
    have hp := Classical.not_not.mp hp
    refine ifF (by rw [ePar, it_is, decide_eq_true hp]; rfl) ?_
    -- stack[-2] not in ("+", "*")
    refine ⟨_, rfl, _, rfl, a, _, _, _, rfl, rfl, hS, g2, by decide, fun T hT => ?_⟩
    refine ⟨T, _, rfl, .inr (SqT.of upd_same), flat_it _, rfl, _, rfl, ?_⟩
    have sT : Same H (upd H T (.tup [V.str "+", V.str "*"])) := sm_upd hT
    have hS1 := sT.seq hS
    by_cases hu : ¬ (u = Sum.inr 43 ∨ u = Sum.inr 42)
    · refine ifT ?_ (kN ?_ _ sT)
      · show (!inV (itV u) _) = true
        rw [in_pm, decide_eq_false (fun z => hu (.inl z)), decide_eq_false (fun z => hu (.inr z))]; rfl
      · unfold doneS
        split
        · rename_i b s a o' r' e
          injection e with e1 e; injection e with e2 e; injection e with e3 e; injection e with e4 e
          rw [if_neg (show ¬ s = 43 from fun z => hu (.inl (by rw [e2, z]))), if_neg (show ¬ s = 42 from fun z => hu (.inr (by rw [e2, z])))]
          split <;> rfl
        · rfl
    have hu := Classical.not_not.mp hu
    refine ifF ?_ ?_
    · show (!inV (itV u) _) = false
      rw [in_pm]
      rcases hu with z | z
      · rw [decide_eq_true z]; rfl
      · rw [decide_eq_true z, Bool.or_true]; rfl
    -- one, other = stack[-3], stack[-1]
    refine ⟨_, rfl, _, rfl, a, _, _, _, rfl, rfl, hS1, g3, _, rfl, _, rfl, a, _, _, _, rfl, rfl, hS1, g1, _, _, rfl, ?_⟩
    refine ⟨_, rfl, _, _, rfl, IsW.itm x, _, rfl, ?_⟩
    cases x with
    | inr c => exact iteT (iteT (kN (by unfold doneS; split <;> first | rfl | (rename_i e; injection e with e1 e; injection e with e2 e; injection e with e3 e; cases e3)) _ sT))
    | inl m =>
    refine iteF ⟨_, rfl, _, _, rfl, IsW.itm o, _, rfl, ?_⟩
    cases o with
    | inr c => exact iteT (kN (by unfold doneS; split <;> first | rfl | (rename_i e; injection e with e1 e; cases e1)) _ sT)
    | inl n =>
    refine iteF ?_
    -- stack[:-4] + [..]
    refine ⟨_, rfl, _, rfl, _, rfl, a, _, rfl, hS1, fun R hR => ?_⟩
    have sR := sm_new (o := .lst (cutV (stV r ++ [itV p, itV (.inl m), itV u, itV (.inl n)]) none (some (-4)))) sT hR
    have cut : cutV (stV r ++ [itV p, itV (.inl m), itV u, itV (.inl n)]) none (some (-4)) = stV r := by
      unfold cutV
      rw [L]
      show ((stV r ++ [itV p, itV (.inl m), itV u, itV (.inl n)]).drop 0).take ((-4 + ((r.length + 4 : Nat) : Int)).toNat - 0) = stV r
      rw [List.drop_zero, show (-4 + ((r.length + 4 : Nat) : Int)).toNat - 0 = (stV r).length by rw [stV_length]; omega, List.take_left]
    rw [cut] at sR ⊢
    have hS2 := sR.seq hS
    refine ⟨_, rfl, _, rfl, a, _, _, _, rfl, rfl, hS2, g2, scal_it _ _, _, rfl, ?_⟩
    have fin : ∀ z : Int, doneS (.inl n :: u :: .inl m :: p :: r) = some (.inl z :: r) → ∀ D, upd (upd H T (.tup [V.str "+", V.str "*"])) R (.lst (stV r)) D = none →
        rCat (V.ref R) (.ref D) (upd (upd (upd H T (.tup [V.str "+", V.str "*"])) R (.lst (stV r))) D (.lst [V.int z])) Q := fun z hz D hD => by
      have sD := sm_new (o := .lst [V.int z]) sR hD
      refine ⟨R, D, _, _, rfl, rfl, (by rw [upd_ne (ne_of_none upd_same hD), upd_same]), upd_same, ?_, fun q hq => ?_⟩
      · rw [stV_length]
        simp only [List.length_cons] at hlen
        have e : sizeLine = 16777216 := PySem.sizeLine_eq
        rw [e]
        show r.length + 1 ≤ _
        omega
      · exact kS _ hz _ q (sm_new sD hq) (sD.free hq) (by rw [upd_same, stV_cons]; rfl)
    by_cases h43 : u = Sum.inr 43
    · refine ifT (by rw [ePlus, it_is, decide_eq_true h43]) ?_
      refine ⟨_, rfl, _, rfl, m, n, rfl, rfl, (show 1 ≤ sizeLine by decide), fun D hD => fin _ ?_ D hD⟩
      rw [hp, h43]
      rfl
    · have h42 : u = Sum.inr 42 := hu.resolve_left h43
      refine ifF (by rw [ePlus, it_is, decide_eq_false h43]) ?_
      refine ⟨_, rfl, _, rfl, m, n, rfl, rfl, ?_, (show 1 ≤ sizeLine by decide), fun D hD => fin _ ?_ D hD⟩
      · rw [h42] at hphi
        simp only [phi] at hphi
        have b : ∀ x : Int, PySem.Builtin.Int.intBits x ≤ x.natAbs.log2 + 1 := fun x => by
          unfold PySem.Builtin.Int.intBits
          split <;> omega
        have b1 := b m
        have b2 := b n
        unfold CMulX
        omega
      · rw [hp, h42]
        rfl
end
end Fo
namespace Fo
open PySem L2 FO
section
variable {P : Program} {w : World} {K : PySem.W.Frag} {mg : Str → Option Value} {base : Heap}
/-! ### worth_of -/
/-- the codes of a text -/
abbrev tl (z : Str) : List Nat := z.cps.toList
def NoStr (K : PySem.W.Frag) (H : Hp) (v : V) : Prop := ∃ t, TyX K H v t ∧ PySem.W.kitOne K t (.type "str") = some false
def spWorthOf (K : PySem.W.Frag) : Sp := fun vs H Q _ => ∃ v, vs = [v] ∧ ((∃ z, v = .str z ∧ z.length ≤ sizeLine ∧ ∀ H', Same H H' → Q (.int (worthL (tl z))) H') ∨ (NoStr K H v ∧ ∀ H', Same H H' → Q (.int 0) H'))
theorem scWorthOf : FnScope ["text", "stack", "sign"] ["text"] (defScope sWorthOf) := ⟨rfl, rfl, rfl, by decide +kernel, rfl, by decide +kernel, by decide +kernel⟩
theorem take_snoc {α : Type} {l : List α} {i : Nat} {x : α} (h : l[i]? = some x) : l.take (i + 1) = l.take i ++ [x] := by
  rw [List.take_add_one, h]
  rfl
theorem str1 (c d : Nat) : decide (V.str ⟨#[c]⟩ = V.str ⟨#[d]⟩) = decide (c = d) := it_is (.inr c) d |>.trans (by
  by_cases h : c = d
  · rw [decide_eq_true h, decide_eq_true (by rw [h])]
  · rw [decide_eq_false h, decide_eq_false (fun z => h (Sum.inr.inj z))])
theorem run_fail {t : List Nat} {i c : Nat} {S : List Itm} (hc : t[i]? = some c) (h : runS [] (t.take i) = some S) (hs : stepS S c = none) : runS [] t = none := by
  have e : t = t.take (i + 1) ++ t.drop (i + 1) := (List.take_append_drop _ _).symm
  rw [e, take_snoc hc, runS_append, run_snoc h, hs]
theorem ok_worthOf (D : Dn K mg "worth_of" sWorthOf) (B : Bi mg) (lon : ∃ u, mg "LONGEST" = some u ∧ RelV (.int 2000) u) (W : Kp P w K mg base CX0 1 "is_whole" (spWhole K)) (Dk : Kp P w K mg base CX0 2 "done" (spDone K)) : Kp P w K mg base CX0 3 "worth_of" (spWorthOf K) := by
  obtain ⟨f, fd, F, hm⟩ := D.ex
  refine ⟨f, fd, ["text"], F.ok scWorthOf (fun vs H Q E h => ?_) (fun cdv A outer s H vs Q E hr h => ?_), hm, F.kp, F.binds fun _ _ _ _ _ _ us hl => match us, hl with | [_], _ => rfl⟩
  · obtain ⟨v, rfl, _⟩ := h
    rfl
  · obtain ⟨v, rfl, h⟩ := h
    refine ⟨_, pss_cons (ps_if (PW.pt (pw_or (pt_not (pt_val (pe_callB call_isi (by rfl) B.isi (by decide +kernel) (pa_cons (pv 0) (pa_cons (pe_bltn (v := .ty "str") (by rfl) B.str (by decide +kernel) rfl) pa_nil)))))
        (pw_or1 (pt_cmpR op_gt (pe_callB call_len_str (by rfl) B.len PySem.boot_len (pa_cons (pv 0) pa_nil)) (C8.pe_gc rfl lon) (nomark _)))))
          (pss_one (ps_ret pe_int)) pss_nil)
      (pss_cons (ps_set (i := 1) scWorthOf.nd rfl (Or.inl rfl) (pe_lst pa_nil))
      (pss_cons (ps_for PassesOwn.never rfl (pi_str (pv 0)) (pg_name (i := 2) scWorthOf.nd rfl (Or.inl rfl))
        (pss_one (ps_if (pt_cmpR op_eq (pv 2) pe_str (nomark _))
          (pss_one (ps_expr (pe_bm PySem.F.plainAttrs_list PySem.F.slot_list_append PySem.F.type_list_append mt_append (pv 1) (pa_cons pe_int pa_nil))))
          (pss_one (ps_if (pt_cmpR op_eq (pv 2) pe_str (nomark _))
            (pss_cons (ps_set (i := 1) scWorthOf.nd rfl (Or.inl rfl) (pk Dk hr (by decide) rfl (pa_cons (pv 1) pa_nil)))
              (pss_one (ps_if (pt_cmpR op_isN (pv 1) pe_non (nomark _)) (pss_one (ps_ret pe_int)) pss_nil)))
            (pss_one (ps_if (pt_cmpR op_in_sign (pv 2) pe_str rfl)
              (pss_one (ps_expr (pe_bm PySem.F.plainAttrs_list PySem.F.slot_list_append PySem.F.type_list_append mt_append (pv 1) (pa_cons (pv 2) pa_nil))))
              (pss_one (ps_ret pe_int)))))))))
      (pss_one (ps_ret (pe_ifExp (PW.pt (pw_and (pt_cmpR op_eq (pe_callB call_len_seq (by rfl) B.len PySem.boot_len (pa_cons (pv 1) pa_nil)) pe_int (nomark _))
          (pw_and1 (pt_val (pk W hr (by decide) rfl (pa_cons (pe_ix ix_list (pv 1) pe_int (fun _ _ => rfl)) pa_nil))))))
        (pe_ix ix_list (pv 1) pe_int (fun _ _ => rfl)) pe_int))))), ?_⟩
    rcases h with ⟨z, rfl, hz, k⟩ | ⟨⟨t, ty, kt⟩, k⟩
    · refine ⟨_, rfl, _, _, _, _, true, rfl, .ty "str", .base (.str z), kit_ty (by decide +kernel), true, rfl, iteF ?_⟩
      refine ⟨_, rfl, z, rfl, hz, _, _, rfl, rfl, _, rfl, ?_⟩
      have hlz : z.length = (tl z).length := by simp [tl, Str.length]
      by_cases hl : ¬ (tl z).length ≤ 2000
      · refine ifT (decide_eq_true (by rw [hlz]; omega)) ?_
        have q := k H (Same.refl H)
        unfold worthL at q
        rw [if_neg hl] at q
        exact q
      have hl := Classical.not_not.mp hl
      refine ifF (decide_eq_false (by rw [hlz]; omega)) ?_
      refine ⟨Nat.zero_le _, fun q0 hq0 => ?_⟩
      have kk : ∀ H', Same H H' → Q (.int (readL (tl z))) H' := fun H' s => by
        have q := k H' s
        unfold worthL at q
        rw [if_pos hl] at q
        exact q
      have bad : runS [] (tl z) = none → ∀ H', Same H H' → Q (.int 0) H' := fun e H' s => by
        have q := kk H' s
        unfold readL at q
        rw [e] at q
        exact q
      refine ⟨_, rfl, z, rfl, for_it walk_str (fun i σ H' => ∃ (S : List Itm) (q : Addr) (v : Option V), σ = [some (.str z), some (.ref q), v] ∧ runS [] ((tl z).take i) = some S ∧ H' q = some (.lst (stV S)) ∧ H q = none ∧ Same H H')
        ⟨[], q0, none, rfl, rfl, upd_same, hq0, sm_upd hq0⟩ (fun _ _ _ _ _ => trivial) ?_ ?_⟩
      · rintro i x σ H1 H2 hi ⟨S, q, v, rfl, hrun, hq, hn, hs⟩ ⟨rfl, c, hc, rfl⟩
        have hcl : (tl z)[i]? = some c := by rw [Array.getElem?_toList]; exact hc
        have hit : i < (tl z).length := (List.getElem?_eq_some_iff.mp hcl).1
        have hlS : S.length ≤ 2000 := by
          have a := len_run _ _ _ hrun
          rw [List.length_take] at a
          simp only [List.length_nil] at a
          omega
        have hpS : phi S ≤ 2000 := by
          have a := phi_run _ _ _ hrun
          rw [List.length_take] at a
          simp only [phi] at a
          omega
        have e1 : ("1" : Str) = ⟨#[49]⟩ := by decide +kernel
        have e2 : (")" : Str) = ⟨#[41]⟩ := by decide +kernel
        have next : ∀ S', stepS S c = some S' → runS [] ((tl z).take (i + 1)) = some S' := fun S' e => by
          rw [take_snoc hcl, run_snoc hrun, e]
        refine ⟨_, rfl, rfl, _, rfl, ?_⟩
        by_cases h1 : c = 49
        · refine ifT (by rw [e1, str1, decide_eq_true h1]) ?_
          refine ⟨_, rfl, .inl ⟨rfl, _, SqL.of hq⟩, q, _, _, rfl, rfl, hq, ?_, ?_⟩
          · rw [stV_length, PySem.sizeLine_eq]; omega
          · exact ⟨.inl 1 :: S, q, _, rfl, next _ (by unfold stepS; rw [if_pos h1]), by rw [upd_same, stV_cons]; rfl, hn, sm_put hs hn⟩
        refine ifF (by rw [e1, str1, decide_eq_false h1]) ?_
        refine ⟨_, rfl, rfl, _, rfl, ?_⟩
        by_cases h2 : c = 41
        · refine ifT (by rw [e2, str1, decide_eq_true h2]) ?_
          have hst : stepS S c = doneS S := by unfold stepS; rw [if_neg h1, if_pos h2]
          refine ⟨_, rfl, q, S, rfl, SqL.of hq, by omega, by omega, fun hd H' s' => ?_, fun S' hd H' q' s' n' hq' => ?_⟩
          · refine ⟨_, rfl, rfl, _, rfl, iteT ?_⟩
            exact bad (run_fail hcl hrun (hst.trans hd)) H' (hs.trans s')
          · refine ⟨_, rfl, rfl, _, rfl, iteF ?_⟩
            exact ⟨S', q', _, rfl, next _ (hst.trans hd), hq', hs.free n', hs.trans s'⟩
        refine ifF (by rw [e2, str1, decide_eq_false h2]) ?_
        refine ⟨_, rfl, c, _, rfl, rfl, _, rfl, ?_⟩
        have e3 : (("(+*" : Str)).cps.toList = [40, 43, 42] := by decide +kernel
        by_cases h3 : c = 40 ∨ c = 43 ∨ c = 42
        · refine ifT (decide_eq_true (by rw [e3]; simpa using h3)) ?_
          refine ⟨_, rfl, .inl ⟨rfl, _, SqL.of hq⟩, _, rfl, q, _, _, rfl, rfl, hq, ?_, ?_⟩
          · rw [stV_length, PySem.sizeLine_eq]; omega
          · exact ⟨.inr c :: S, q, _, rfl, next _ (by unfold stepS; rw [if_neg h1, if_neg h2, if_pos h3]), by rw [upd_same, stV_cons]; rfl, hn, sm_put hs hn⟩
        · refine ifF (decide_eq_false (by rw [e3]; simpa using h3)) ?_
          exact bad (run_fail hcl hrun (by unfold stepS; rw [if_neg h1, if_neg h2, if_neg h3])) _ hs
      · rintro σ H1 ⟨S, q, v, rfl, hrun, hq, hn, hs⟩
        have htk : (tl z).take z.cps.size = tl z := List.take_of_length_le (by simp [tl])
        rw [htk] at hrun
        refine ⟨_, rfl, q, _, rfl, .inl (SqL.of hq), rfl, _, rfl, ?_⟩
        have val : ∀ H', Same H H' → Q (.int (endS (some S))) H' := fun H' s => by
          have q := kk H' s
          unfold readL at q
          rw [hrun] at q
          exact q
        by_cases h1 : S.length = 1
        · obtain ⟨x, rfl⟩ : ∃ x, S = [x] := List.length_eq_one_iff.mp h1
          refine ifT (decide_eq_true (by rfl)) ?_
          have hat : atI (stV [x]) 0 = some (itV x) := atI_nat (j := 0) rfl
          refine ⟨_, rfl, q, _, _, _, rfl, rfl, SqL.of hq, hat, _, _, rfl, IsW.itm x, _, rfl, ?_⟩
          cases x with
          | inl n => exact iteT ⟨_, rfl, q, _, _, _, rfl, rfl, SqL.of hq, hat, val _ hs⟩
          | inr n => exact iteF (val _ hs)
        · refine ifF (decide_eq_false ?_) ?_
          · rw [stV_length]
            intro z
            have z' := V.int.inj z
            omega
          · have e0 : endS (some S) = 0 := by
              unfold endS
              split
              · rename_i n e
                cases e
                exact absurd rfl h1
              · rfl
            rw [e0] at val
            exact val _ hs
    · refine ⟨_, rfl, _, _, _, _, false, rfl, .ty "str", ty, kt, false, rfl, iteT ?_⟩
      exact iteT (k H (Same.refl H))
end
end Fo
namespace Fo
open PySem L2 FO
/-! ### how often a sign stands in a text -/
theorem occ_count (x : Str) (c : Nat) : ∀ (k i : Nat) (st : Array Nat × Nat), i + k = x.length + 1 → st.1.size ≤ i → st.2 ≤ i →
    (forIn (List.range' i k) st (StrLaws.occBody x ⟨#[c]⟩ x.length (x.length + 1))).run.fst.size = st.1.size + ((tl x).drop i).count c
  | 0, i, st, h, h1, h2 => by
    have e : (tl x).drop i = [] := List.drop_eq_nil_of_le (by show x.cps.toList.length ≤ i; rw [Array.length_toList]; show x.length ≤ i; omega)
    rw [e]
    rfl
  | k + 1, i, st, h, h1, h2 => by
    rw [List.range'_succ, List.forIn_cons]
    have sub := StrLaws.subAt_one x c i
    by_cases hc : (tl x)[i]? = some c
    · have q := sub.mpr hc
      have hb : StrLaws.occBody x ⟨#[c]⟩ x.length (x.length + 1) i st = pure (ForInStep.yield (st.1.push i, i + 1)) := by
        unfold StrLaws.occBody
        rw [if_pos ⟨⟨⟨by omega, h2⟩, q.1⟩, q.2⟩]
        rfl
      rw [hb]
      have ih := occ_count x c k (i + 1) (st.1.push i, i + 1) (by omega) (by rw [Array.size_push]; omega) (Nat.le_refl _)
      have hd : (tl x).drop i = c :: (tl x).drop (i + 1) := by
        obtain ⟨hlt, e⟩ := List.getElem?_eq_some_iff.mp hc
        rw [List.drop_eq_getElem_cons hlt, e]
      rw [hd, List.count_cons_self]
      refine Eq.trans ih ?_
      rw [Array.size_push]
      omega
    · have hb : StrLaws.occBody x ⟨#[c]⟩ x.length (x.length + 1) i st = pure (ForInStep.yield (st.1, st.2)) := by
        unfold StrLaws.occBody
        rw [if_neg (fun q => hc (sub.mp ⟨q.1.2, q.2⟩))]
      rw [hb]
      have ih := occ_count x c k (i + 1) (st.1, st.2) (by omega) (by show st.1.size ≤ _; omega) (by show st.2 ≤ _; omega)
      refine Eq.trans ih ?_
      by_cases hlt : i < (tl x).length
      · rw [List.drop_eq_getElem_cons hlt, List.count_cons_of_ne]
        intro z
        exact hc (by rw [List.getElem?_eq_getElem hlt, z])
      · have e : (tl x).drop i = [] := List.drop_eq_nil_of_le (by omega)
        have e' : (tl x).drop (i + 1) = [] := List.drop_eq_nil_of_le (by omega)
        rw [e, e']
theorem count_is (x : Str) (c : Nat) : Txt.count x ⟨#[c]⟩ = (((tl x).count c : Nat) : Int) := by
  unfold Txt.count
  rw [StrLaws.occ_eq, Array.length_toList, Nat.sub_zero, occ_count x c (x.length + 1) 0 (#[], 0) (by omega) (Nat.le_refl _) (Nat.le_refl _)]
  simp
theorem count_one (x : Str) : Txt.count x "1" = (((tl x).count 49 : Nat) : Int) := by
  have e : ("1" : Str) = ⟨#[49]⟩ := by decide +kernel
  rw [e]
  exact count_is x 49
/-! ### errors -/
/-- the error class x of the program stands at C -/
structure ErC (K : PySem.W.Frag) (mg : Str → Option Value) (x : Str) (C : Addr) : Prop where
  g : mg x = some (.ref C)
  x : PySem.W.excIn K C [.type "ValueError", .type "Exception", .type "BaseException", .type "object"] "ValueError.__new__" = true
  k : PySem.W.keepIn K (.ref C) = true
  b : PySem.W.subIn K (.ref C) (.type "BaseException") = some true
  t : PySem.W.typeIn K (.ref C) = some (.type "type")
section
variable {P : Program} {w : World} {K : PySem.W.Frag} {mg : Str → Option Value} {base : Heap} {CT : Addr}
/-! ### check_text, worth, ones -/
/-- a text is asked: behind it what is wanted of a writing (with its worth), and what of all else -/
def AskT (K : PySem.W.Frag) (v : V) (H : Hp) (good : Str → Prop) (bad : Prop) : Prop :=
  (∃ z, v = .str z ∧ z.length ≤ sizeLine ∧ (worthL (tl z) = 0 → bad) ∧ (worthL (tl z) ≠ 0 → good z)) ∨ (NoStr K H v ∧ bad)
def spCheckText (K : PySem.W.Frag) (C : Addr) : Sp := fun vs H Q E => ∃ v, vs = [v] ∧ AskT K v H (fun _ => ∀ H', Same H H' → Q .non H') (∀ H', Same H H' → E (.ref C) none H')
def spWorth (K : PySem.W.Frag) (C : Addr) : Sp := fun vs H Q E => ∃ v, vs = [v] ∧ AskT K v H (fun z => ∀ H', Same H H' → Q (.int (worthL (tl z))) H') (∀ H', Same H H' → E (.ref C) none H')
def spOnes (K : PySem.W.Frag) (C : Addr) : Sp := fun vs H Q E => ∃ v, vs = [v] ∧ AskT K v H (fun z => ∀ H', Same H H' → Q (.int (((tl z).count 49 : Nat) : Int)) H') (∀ H', Same H H' → E (.ref C) none H')
theorem scCheckText : FnScope ["text"] ["text"] (defScope sCheckText) := ⟨rfl, rfl, rfl, by decide +kernel, rfl, by decide +kernel, by decide +kernel⟩
theorem scWorth : FnScope ["text"] ["text"] (defScope sWorth) := ⟨rfl, rfl, rfl, by decide +kernel, rfl, by decide +kernel, by decide +kernel⟩
theorem scOnes : FnScope ["text"] ["text"] (defScope sOnes) := ⟨rfl, rfl, rfl, by decide +kernel, rfl, by decide +kernel, by decide +kernel⟩
theorem ok_checkText (D : Dn K mg "check_text" sCheckText) (T : ErC K mg "BadText" CT) (W : Kp P w K mg base CX0 3 "worth_of" (spWorthOf K)) : Kp P w K mg base (L2.CX P w) 4 "check_text" (spCheckText K CT) := by
  obtain ⟨f, fd, F, hm⟩ := D.ex
  refine ⟨f, fd, ["text"], F.okX scCheckText (fun vs H Q E h => ?_) (fun cdv A outer s H vs Q E hr h => ?_), hm, F.kp, F.binds fun _ _ _ _ _ _ us hl => match us, hl with | [_], _ => rfl⟩
  · obtain ⟨v, rfl, _⟩ := h
    rfl
  · obtain ⟨v, rfl, h⟩ := h
    refine ⟨_, pss_one (ps_if (pt_cmpR op_eq (pk W hr (by decide) rfl (pa_cons (pv 0) pa_nil)) pe_int (nomark _))
      (pss_one (ps_raise rfl (takes_of rfl rfl rfl rfl) (pmk_own PySem.F.excBase_ValueError T.x T.g T.k (raises_own T.b T.t) rfl))) pss_nil), ?_⟩
    rcases h with ⟨z, rfl, hz, kb, kg⟩ | ⟨ns, kb⟩
    · refine ⟨_, rfl, _, rfl, .inl ⟨z, rfl, hz, fun H' s' => ⟨rfl, _, rfl, ?_⟩⟩⟩
      by_cases h0 : worthL (tl z) = 0
      · exact ifT (decide_eq_true (by rw [h0])) (kb h0 H' s')
      · exact ifF (decide_eq_false (fun q => h0 (V.int.inj q))) (kg h0 H' s')
    · exact ⟨_, rfl, _, rfl, .inr ⟨ns, fun H' s' => ⟨rfl, _, rfl, iteT (kb H' s')⟩⟩⟩
theorem ok_worth (D : Dn K mg "worth" sWorth) (W : Kp P w K mg base CX0 3 "worth_of" (spWorthOf K)) (C : Kp P w K mg base (L2.CX P w) 4 "check_text" (spCheckText K CT)) : Kp P w K mg base (L2.CX P w) 5 "worth" (spWorth K CT) := by
  obtain ⟨f, fd, F, hm⟩ := D.ex
  refine ⟨f, fd, ["text"], F.okX scWorth (fun vs H Q E h => ?_) (fun cdv A outer s H vs Q E hr h => ?_), hm, F.kp, F.binds fun _ _ _ _ _ _ us hl => match us, hl with | [_], _ => rfl⟩
  · obtain ⟨v, rfl, _⟩ := h
    rfl
  · obtain ⟨v, rfl, h⟩ := h
    refine ⟨_, pss_cons (ps_expr (pkS C (takes_of rfl rfl rfl rfl) hr (by decide) rfl (pa_cons (pv 0) pa_nil))) (pss_one (ps_ret (pk W hr (by decide) rfl (pa_cons (pv 0) pa_nil)))), ?_⟩
    rcases h with ⟨z, rfl, hz, kb, kg⟩ | ⟨ns, kb⟩
    · refine ⟨_, rfl, _, rfl, .inl ⟨z, rfl, hz, kb, fun h0 H' s' => ?_⟩⟩
      exact ⟨_, rfl, _, rfl, .inl ⟨z, rfl, hz, fun H2 s2 => kg h0 H2 (s'.trans s2)⟩⟩
    · exact ⟨_, rfl, _, rfl, .inr ⟨ns, kb⟩⟩
theorem ok_ones (D : Dn K mg "ones" sOnes) (C : Kp P w K mg base (L2.CX P w) 4 "check_text" (spCheckText K CT)) : Kp P w K mg base (L2.CX P w) 5 "ones" (spOnes K CT) := by
  obtain ⟨f, fd, F, hm⟩ := D.ex
  refine ⟨f, fd, ["text"], F.okX scOnes (fun vs H Q E h => ?_) (fun cdv A outer s H vs Q E hr h => ?_), hm, F.kp, F.binds fun _ _ _ _ _ _ us hl => match us, hl with | [_], _ => rfl⟩
  · obtain ⟨v, rfl, _⟩ := h
    rfl
  · obtain ⟨v, rfl, h⟩ := h
    refine ⟨_, pss_cons (ps_expr (pkS C (takes_of rfl rfl rfl rfl) hr (by decide) rfl (pa_cons (pv 0) pa_nil))) (pss_one (ps_ret (pe_m1 PySem.F.slot_str_count PySem.F.type_str_count mt_count (pv 0) pe_str))), ?_⟩
    rcases h with ⟨z, rfl, hz, kb, kg⟩ | ⟨ns, kb⟩
    · refine ⟨_, rfl, _, rfl, .inl ⟨z, rfl, hz, kb, fun h0 H' s' => ?_⟩⟩
      refine ⟨_, rfl, ⟨z, rfl⟩, z, _, rfl, rfl, ?_⟩
      show Q (.int (Txt.count z "1")) H'
      rw [count_one]
      exact kg h0 H' s'
    · exact ⟨_, rfl, _, rfl, .inr ⟨ns, kb⟩⟩
end
end Fo
namespace Fo
open PySem L2 FO PySem.Spec PyProof.Rows
/-! ### calls of a name that holds a def; errors that are caught -/
/-- the i-th slot holds a def f with the promise sp; what is raised is wished for by W -/
def tCallVS (i : Nat) (S : Addr → Sp → Prop) (W : WX) (t : TA) : TE := fun σ H Q => ∃ f sp, σ[i]? = some (some (.ref f)) ∧ S f sp ∧ t σ H fun vs H1 => sp vs H1 Q (WE W σ)
/-- the def at f keeps sp -/
structure Ka (P : Program) (w : World) (K : PySem.W.Frag) (mg : Str → Option Value) (base : Heap) (CX : CXT) (k : Nat) (f : Addr) (sp : Sp) : Prop where
  ex : ∃ (fd : FuncData) (ps : List Str), FnOk P w K mg base CX k f fd ps sp ∧ PySem.W.keepIn K (.ref f) = true ∧ Binds K fd ps []
section
variable {X : Cx} {k j i : Nat} {x : Str} {p pos : Pos} {e : Expr} {es : List Expr} {t : TA}
theorem pkV {W : WX} {S : Addr → Sp → Prop} (A : ∀ f sp, S f sp → Ka X.prog X.w X.K X.mg X.base (L2.CX X.prog X.w) k f sp) (tk : Takes X W) (hr : Room j X.A) (hk : k ≤ j) (hN : X.N[i]? = some x) (hv : Vis X.env.scope x) (ha : PA X (e :: es) t)
    (hdb : (x == ("__debug__" : Str)) = false := by decide)
    (hcd : (x == ("__classdict__" : Str)) = false := by decide)
    (he : starEach (e :: es) X.env = (false, eval e X.env) :: starEach es X.env := by rfl)
    (hpl : (backTo pos (starEach es X.env)).any (·.1) = false := by rfl) :
    PE X (.Call (.Name x p) (e :: es) [] pos) (tCallVS i S W t) := by
  refine ⟨fun pins s σ H Q I h => ?_⟩
  obtain ⟨f, sp, hs, hS, ht⟩ := h
  obtain ⟨fd, ps, F, kp, hb⟩ := (A f sp hS).ex
  have load := (pe_var (pos := p) hN hv hdb hcd).run pins s σ H (fun v H1 => v = .ref f ∧ H1 = H) I ⟨.ref f, hs, rfl, rfl⟩
  refine wpAny_Call_Name_kw (thn load fun u s1 back => ?_)
  obtain ⟨v, H1, I1, r1, ev, eH⟩ := back
  subst ev eH
  have eu : u = Value.ref f := r1
  subst eu
  have run := ha.run pos pins s1 σ _ _ I1 ht
  refine PySem.W.callWith_K (h₀ := X.base) I.ok.mod.kin kp (thn run fun us s2 back => ?_) he hpl
  obtain ⟨vs, H2, I2, r, q⟩ := back
  exact ⟨I2.kIn, run_fnS F (hr.mono hk) hb (passAt tk σ) I2 r q⟩
/-- isinstance(error, c) where the error's class is only known in the reading -/
theorem isE {a : Addr} {oe : Obj} {cls : Value} {d : Option Addr} {pn : List (Addr × Obj)} (hz : Zc cls d oe) (hf : ∃ vs, oe.data = .fields vs) :
    CallR (X.suite a ((a, oe) :: pn)) (.builtin "isinstance") (fun xs H Q => ∃ D, cls = .ref D ∧ d = none ∧ ExcC X.K D ∧ rIsE X.K D a xs H Q) := by
  intro pins s σ H xs us Q I r h
  obtain ⟨D, rfl, rfl, C, h⟩ := h
  exact call_isE C hz hf pins s σ H xs us Q I r h
end
/-- the error class at D, as isinstance and except ask it: the base at O, and of the three classes the n-th is its own -/
structure ErK (K : PySem.W.Frag) (O D : Addr) (cs : List (Addr × Bool)) : Prop where
  c : ExcC K D
  up : PySem.W.exmOne K (.ref D) (.ref O) = some true
  is : ∀ p ∈ cs, PySem.W.kitOne K (.ref D) (.ref p.1) = some p.2
end Fo
namespace Fo
open PySem L2 FO
section
variable {P : Program} {w : World} {K : PySem.W.Frag} {mg : Str → Option Value} {base : Heap} {CM : Addr}
/-! ### check_ones, greatest_of, greatest -/
/-- a number from 1 to m is asked -/
def AskN (K : PySem.W.Frag) (v : V) (H : Hp) (m : Int) (good : Int → Prop) (bad : Prop) : Prop :=
  (∃ n : Int, v = .int n ∧ (¬ (1 ≤ n ∧ n ≤ m) → bad) ∧ (1 ≤ n → n ≤ m → good n)) ∨ (IsW K H v false ∧ bad)
def spCheckOnes (K : PySem.W.Frag) (C : Addr) : Sp := fun vs H Q E => ∃ (v : V) (m : Int), vs = [v, .int m] ∧ AskN K v H m (fun _ => Q .non H) (E (.ref C) none H)
theorem scCheckOnes : FnScope ["many", "most"] ["many", "most"] (defScope sCheckOnes) := ⟨rfl, rfl, rfl, by decide +kernel, rfl, by decide +kernel, by decide +kernel⟩
theorem ok_checkOnes (D : Dn K mg "check_ones" sCheckOnes) (T : ErC K mg "BadOnes" CM) (W : Kp P w K mg base CX0 1 "is_whole" (spWhole K)) : Kp P w K mg base (L2.CX P w) 2 "check_ones" (spCheckOnes K CM) := by
  obtain ⟨f, fd, F, hm⟩ := D.ex
  refine ⟨f, fd, ["many", "most"], F.okX scCheckOnes (fun vs H Q E h => ?_) (fun cdv A outer s H vs Q E hr h => ?_), hm, F.kp, F.binds fun _ _ _ _ _ _ us hl => match us, hl with | [_, _], _ => rfl⟩
  · obtain ⟨v, m, rfl, _⟩ := h
    rfl
  · obtain ⟨v, m, rfl, h⟩ := h
    refine ⟨_, pss_one (ps_if (PW.pt (pw_or (pt_not (pt_val (pk W hr (by decide) rfl (pa_cons (pv 0) pa_nil)))) (pw_or1 (pt_not (pt_chain op_le op_le pe_int (pv 0) (pv 1))))))
      (pss_one (ps_raise rfl (takes_of rfl rfl rfl rfl) (pmk_own PySem.F.excBase_ValueError T.x T.g T.k (raises_own T.b T.t) rfl))) pss_nil), ?_⟩
    rcases h with ⟨n, rfl, kb, kg⟩ | ⟨nw, kb⟩
    · refine ⟨_, rfl, _, _, rfl, IsW.int n, _, rfl, iteF ?_⟩
      refine ⟨_, rfl, _, _, rfl, rfl, _, rfl, ?_⟩
      by_cases h1 : 1 ≤ n
      · refine ifT (decide_eq_true h1) ⟨_, rfl, _, _, rfl, rfl, _, rfl, ?_⟩
        by_cases h2 : n ≤ m
        · exact ifF (by rw [decide_eq_true h2]; rfl) (kg h1 h2)
        · exact ifT (by rw [decide_eq_false h2]; rfl) (kb (fun z => h2 z.2))
      · exact ifF (decide_eq_false h1) ⟨_, rfl, iteT (kb (fun z => h1 z.1))⟩
    · exact ⟨_, rfl, _, _, rfl, nw, _, rfl, iteT (iteT kb)⟩
def spGreatestOf : Sp := fun vs H Q _ => ∃ n : Nat, vs = [.int (n : Nat)] ∧ 1 ≤ n ∧ n ≤ 3000 ∧ ∀ H', Same H H' → Q (.int (gr n : Nat)) H'
theorem scGreatestOf : FnScope ["many", "found", "left", "time"] ["many"] (defScope sGreatestOf) := ⟨rfl, rfl, rfl, by decide +kernel, rfl, by decide +kernel, by decide +kernel⟩
theorem at342 (n : Nat) : atI [V.int 3, V.int 4, V.int 2] ((n : Int) % 3) = some (.int (cG n : Nat)) := by
  have h : n % 3 = 0 ∨ n % 3 = 1 ∨ n % 3 = 2 := by omega
  unfold cG
  rcases h with e | e | e
  · rw [if_pos e, show (n : Int) % 3 = ((0 : Nat) : Int) by omega]
    exact atI_nat rfl
  · rw [if_neg (by omega), if_pos e, show (n : Int) % 3 = ((1 : Nat) : Int) by omega]
    exact atI_nat rfl
  · rw [if_neg (by omega), if_neg (by omega), show (n : Int) % 3 = ((2 : Nat) : Int) by omega]
    exact atI_nat rfl
theorem cG_le {n : Nat} (h : 2 ≤ n) : cG n ≤ n := by
  unfold cG
  split
  · omega
  · split <;> omega
theorem ok_greatestOf (D : Dn K mg "greatest_of" sGreatestOf) (B : Bi mg) : Kp P w K mg base CX0 1 "greatest_of" spGreatestOf := by
  obtain ⟨f, fd, F, hm⟩ := D.ex
  refine ⟨f, fd, ["many"], F.ok scGreatestOf (fun vs H Q E h => ?_) (fun cdv A outer s H vs Q E hr h => ?_), hm, F.kp, F.binds fun _ _ _ _ _ _ us hl => match us, hl with | [_], _ => rfl⟩
  · obtain ⟨n, rfl, _⟩ := h
    rfl
  · obtain ⟨n, rfl, h1, h2, k⟩ := h
    refine ⟨_, pss_cons (ps_if (pt_cmpR op_eq (pv 0) pe_int (nomark _)) (pss_one (ps_ret pe_int)) pss_nil)
      (pss_cons (ps_set (i := 1) scGreatestOf.nd rfl (Or.inl rfl) (pe_ix ix_tup (pe_tup (pa_cons pe_int (pa_cons pe_int (pa_cons pe_int pa_nil)))) (pe_op op_mod (pv 0) pe_int) (fun _ _ => rfl)))
      (pss_cons (ps_set (i := 2) scGreatestOf.nd rfl (Or.inl rfl) (pe_op op_sub (pv 0) (pe_ix ix_tup (pe_tup (pa_cons pe_int (pa_cons pe_int (pa_cons pe_int pa_nil)))) (pe_op op_mod (pv 0) pe_int) (fun _ _ => rfl))))
      (pss_cons (ps_for PassesOwn.never rfl (pi_range1 rfl B.range (pa_cons (pe_op op_fdiv (pv 2) pe_int) pa_nil)) (pg_name (i := 3) scGreatestOf.nd rfl (Or.inl rfl))
        (pss_one (ps_aug (i := 1) scGreatestOf.nd rfl (Or.inl rfl) pe_int iop_mul)))
      (pss_one (ps_ret (pv 1)))))), ?_⟩
    refine ⟨_, rfl, rfl, _, rfl, ?_⟩
    by_cases e1 : n = 1
    · subst e1
      exact ifT (decide_eq_true rfl) (k H (Same.refl H))
    refine ifF (decide_eq_false (fun z => e1 (by have := V.int.inj z; omega))) ?_
    have hc := cG_le (show 2 ≤ n by omega)
    refine ⟨(show 3 ≤ sizeLine by decide), fun T hT => ?_⟩
    refine ⟨_, rfl, _, _, rfl, rfl, (by show (0 : Int) < 3; decide), T, _, _, _, rfl, rfl, SqT.of upd_same, at342 n, ?_⟩
    refine ⟨_, rfl, (show 3 ≤ sizeLine by decide), fun U hU => ?_⟩
    refine ⟨_, rfl, _, _, rfl, rfl, (by show (0 : Int) < 3; decide), U, _, _, _, rfl, rfl, SqT.of upd_same, at342 n, _, _, rfl, rfl, ?_⟩
    have e3 : ((n : Int) - (cG n : Nat)) / 3 = (((n - cG n) / 3 : Nat) : Int) := by omega
    refine ⟨_, rfl, _, _, rfl, rfl, ⟨by decide, by decide⟩, _, rfl, by rw [e3]; omega, by rw [e3]; omega, ?_⟩
    rw [e3]
    refine for_range (lo := 0) (n := ((n - cG n) / 3)) (fun i σ H' => ∃ v3 : Option V, σ = [some (.int (n : Nat)), some (.int ((cG n * 3 ^ i : Nat) : Int)), some (.int ((n : Int) - (cG n : Nat))), v3] ∧ Same H H')
      ⟨_, by rw [Nat.pow_zero, Nat.mul_one]; rfl, sm_new (sm_upd hT) hU⟩ ?_ ?_
    · rintro i σ H1 hi ⟨v3, rfl, hs⟩
      refine ⟨_, rfl, _, _, rfl, rfl, .inr ⟨by decide, by decide⟩, ?_⟩
      refine ⟨some (.int (0 + (i : Int))), ?_, hs⟩
      have e : (((cG n * 3 ^ i : Nat) : Int)) * 3 = ((cG n * 3 ^ (i + 1) : Nat) : Int) := by
        rw [Nat.pow_succ, ← Nat.mul_assoc]
        omega
      show [some (V.int (n : Nat)), some (V.int (((cG n * 3 ^ i : Nat) : Int) * 3)), _, _] = _
      rw [e]
    · rintro σ H1 ⟨v3, rfl, hs⟩
      refine ⟨_, rfl, ?_⟩
      have q := k H1 hs
      unfold gr at q
      rw [if_neg e1] at q
      exact q
def spGreatest (K : PySem.W.Frag) (C : Addr) : Sp := fun vs H Q E => ∃ v : V, vs = [v] ∧ AskN K v H 3000 (fun n => ∀ H', Same H H' → Q (.int (gr n.toNat : Nat)) H') (E (.ref C) none H)
theorem scGreatest : FnScope ["many"] ["many"] (defScope sGreatest) := ⟨rfl, rfl, rfl, by decide +kernel, rfl, by decide +kernel, by decide +kernel⟩
theorem ok_greatest (D : Dn K mg "greatest" sGreatest) (mo : ∃ u, mg "MOST_ONES" = some u ∧ RelV (.int 3000) u) (C : Kp P w K mg base (L2.CX P w) 2 "check_ones" (spCheckOnes K CM)) (O : Kp P w K mg base CX0 1 "greatest_of" spGreatestOf) : Kp P w K mg base (L2.CX P w) 3 "greatest" (spGreatest K CM) := by
  obtain ⟨f, fd, F, hm⟩ := D.ex
  refine ⟨f, fd, ["many"], F.okX scGreatest (fun vs H Q E h => ?_) (fun cdv A outer s H vs Q E hr h => ?_), hm, F.kp, F.binds fun _ _ _ _ _ _ us hl => match us, hl with | [_], _ => rfl⟩
  · obtain ⟨v, rfl, _⟩ := h
    rfl
  · obtain ⟨v, rfl, h⟩ := h
    refine ⟨_, pss_cons (ps_expr (pkS C (takes_of rfl rfl rfl rfl) hr (by decide) rfl (pa_cons (pv 0) (pa_cons (C8.pe_gc rfl mo) pa_nil)))) (pss_one (ps_ret (pk O hr (by decide) rfl (pa_cons (pv 0) pa_nil)))), ?_⟩
    rcases h with ⟨n, rfl, kb, kg⟩ | ⟨nw, kb⟩
    · refine ⟨_, rfl, _, _, rfl, .inl ⟨n, rfl, kb, fun h1 h2 => ?_⟩⟩
      have e : n = ((n.toNat : Nat) : Int) := by omega
      exact ⟨_, rfl, n.toNat, by rw [← e]; rfl, by omega, by omega, fun H' s' => kg h1 h2 H' s'⟩
    · exact ⟨_, rfl, _, _, rfl, .inr ⟨nw, kb⟩⟩
end
end Fo
namespace Fo
open PySem L2 FO
section
variable {P : Program} {w : World} {K : PySem.W.Frag} {mg : Str → Option Value} {base : Heap}
/-! ### _law_number: some number -/
def spNumber : Sp := fun vs H Q _ => ∃ c a h : Int, vs = [.int c, .int a, .int h] ∧ c.natAbs < 2 ^ 2000000 ∧ 0 ≤ a ∧ a ≤ 1000 ∧ 0 ≤ h ∧ h ≤ 1000 ∧ ∀ z : Int, Q (.int z) H
theorem scNumber : FnScope nLawNumber pLawNumber (defScope sLawNumber) := ⟨rfl, rfl, rfl, by decide +kernel, rfl, by decide +kernel, by decide +kernel⟩
theorem small_lt {x : Int} {n : Nat} (h : x.natAbs < 2 ^ n) (m : Nat) (hm : n ≤ m) : x.natAbs < 2 ^ m := Nat.lt_of_lt_of_le h (Nat.pow_le_pow_right (by decide) hm)
theorem add_lt {x y : Int} {n : Nat} (hx : x.natAbs < 2 ^ n) (hy : y.natAbs < 2 ^ n) : (x + y).natAbs < 2 ^ (n + 1) := by
  have := Int.natAbs_add_le x y
  rw [Nat.pow_succ]
  omega
theorem mul_lt {x y : Int} {m n : Nat} (hx : x.natAbs < 2 ^ m) (hy : y.natAbs < 2 ^ n) : (x * y).natAbs < 2 ^ (m + n) := by
  rw [Int.natAbs_mul, Nat.pow_add]
  exact Nat.mul_lt_mul'' hx hy
theorem ok_number (D : Dn K mg "_law_number" sLawNumber) : Kp P w K mg base CX0 1 "_law_number" spNumber := by
  obtain ⟨f, fd, F, hm⟩ := D.ex
  refine ⟨f, fd, pLawNumber, F.ok scNumber (fun vs H Q E h => ?_) (fun cdv A outer s H vs Q E hr h => ?_), hm, F.kp, F.binds fun _ _ _ _ _ _ us hl => match us, hl with | [_, _, _], _ => rfl⟩
  · obtain ⟨c, a, h, rfl, _⟩ := h
    rfl
  · obtain ⟨c, a, h, rfl, hc, a0, a1, h0, h1, k⟩ := h
    refine ⟨_, pss_cons (ps_if (pt_cmpR op_ge (pv 0) (pe_op op_pow pe_int pe_int) (nomark _)) (pss_one (ps_ret (pv 0))) pss_nil)
      (pss_cons (ps_set (i := 3) scNumber.nd rfl (Or.inl rfl) (pe_op op_mod (pe_op op_add (pe_op op_mulX (pe_op op_add (pv 0) (pe_op op_mulX pe_int (pv 1))) pe_int) (pv 2)) pe_int))
      (pss_cons (ps_set (i := 4) scNumber.nd rfl (Or.inl rfl) (pe_op op_mulX (pe_op op_mulX (pv 3) (pe_op op_add (pe_op op_add (pv 3) (pe_op op_mulX pe_int (pv 1))) pe_int)) (pe_op op_add (pe_op op_add (pv 3) (pv 0)) pe_int)))
      (pss_one (ps_ret (pe_op op_fdivN (pe_op op_mulX (pv 4) (pe_op op_add (pv 4) pe_int)) pe_int))))), ?_⟩
    refine ⟨_, rfl, _, _, rfl, rfl, ⟨by decide, by decide, by decide⟩, _, _, rfl, rfl, _, rfl, ?_⟩
    have ha : a.natAbs < 2 ^ 10 := by show a.natAbs < 1024; omega
    have hh : h.natAbs < 2 ^ 10 := by show h.natAbs < 1024; omega
    have e1 : (977 * a).natAbs < 2 ^ 20 := mul_lt (m := 10) (n := 10) (by decide) ha
    have e2 : (c + 977 * a).natAbs < 2 ^ 2000001 := add_lt hc (small_lt e1 _ (by decide))
    refine ite2 (fun _ => ⟨_, rfl, k c⟩) (fun _ => ?_)
    have hmod : ∀ x : Int, (x % 2147483647).natAbs < 2 ^ 31 := fun x => by
      have p1 := Int.emod_nonneg x (show (2147483647 : Int) ≠ 0 by decide)
      have p2 := Int.emod_lt_of_pos x (show (0 : Int) < 2147483647 by decide)
      show _ < 2147483648
      omega
    refine ⟨_, rfl, _, rfl, _, _, rfl, rfl, mulx_ok (a := 10) (b := 10) (by decide) ha (by decide), _, _, rfl, rfl, _, _, rfl, rfl, mulx_ok (a := 2000001) (b := 16) e2 (by decide) (by decide), _, rfl, _, _, rfl, rfl, _, _, rfl, rfl, (by show (0 : Int) < 2147483647; decide), ?_⟩
    have hx := hmod ((c + 977 * a) * 48271 + h)
    obtain ⟨x, ex⟩ : ∃ x, x = ((c + 977 * a) * 48271 + h) % 2147483647 := ⟨_, rfl⟩
    rw [← ex] at hx
    have g1 : (31 * a).natAbs < 2 ^ 15 := mul_lt (m := 5) (n := 10) (by decide) ha
    have g2 : (x + 31 * a).natAbs < 2 ^ 32 := add_lt hx (small_lt g1 _ (by decide))
    have g3 : (x + 31 * a + 7).natAbs < 2 ^ 33 := add_lt g2 (by decide)
    have g4 : (x * (x + 31 * a + 7)).natAbs < 2 ^ 64 := mul_lt (m := 31) (n := 33) hx g3
    have g5 : (x + c).natAbs < 2 ^ 2000001 := add_lt (small_lt hx _ (by decide)) hc
    have g6 : (x + c + 5).natAbs < 2 ^ 2000002 := add_lt g5 (small_lt (n := 3) (by decide) _ (by decide))
    have g7 : (x * (x + 31 * a + 7) * (x + c + 5)).natAbs < 2 ^ 2000066 := mul_lt (m := 64) (n := 2000002) g4 g6
    have g8 : (x * (x + 31 * a + 7) * (x + c + 5) + 48271).natAbs < 2 ^ 2000067 := add_lt g7 (small_lt (n := 16) (by decide) _ (by decide))
    show gName 3 (V.int (((c + 977 * a) * 48271 + h) % 2147483647)) _ _ _
    rw [← ex]
    refine ⟨_, rfl, _, rfl, _, rfl, _, _, rfl, rfl, mulx_ok (a := 5) (b := 10) (by decide) ha (by decide), _, _, rfl, rfl, _, _, rfl, rfl, _, _, rfl, rfl, mulx_ok (a := 31) (b := 33) hx g3 (by decide),
      _, rfl, _, rfl, _, _, rfl, rfl, _, _, rfl, rfl, _, _, rfl, rfl, mulx_ok (a := 64) (b := 2000002) g4 g6 (by decide), ?_⟩
    refine ⟨_, rfl, _, rfl, _, _, rfl, rfl, _, _, rfl, rfl, mulx_ok (a := 2000066) (b := 2000067) g7 g8 (by decide), _, _, rfl, rfl, ⟨by decide, by decide⟩, k _⟩
end
end Fo
namespace Fo
open PySem L2 FO
section
variable {P : Program} {w : World} {K : PySem.W.Frag} {mg : Str → Option Value} {base : Heap}
/-! ### _law_text: some writing of less than 900 signs -/
def GoodT (t : Str) : Prop := (∃ n k, Wr (tl t) n k) ∧ (tl t).length < 900
def spText : Sp := fun vs H Q _ => ∃ z m : Int, vs = [.int z, .int m] ∧ 0 ≤ m ∧ m ≤ 100 ∧ ∀ H' t, Same H H' → GoodT t → Q (.str t) H'
theorem scText : FnScope nLawText pLawText (defScope sLawText) := ⟨rfl, rfl, rfl, by decide +kernel, rfl, by decide +kernel, by decide +kernel⟩
theorem tl_app (x y : Str) : tl (x ++ y) = tl x ++ tl y := TL.tl_append x y
theorem len_tl (x : Str) : x.length = (tl x).length := by simp [tl, Str.length]
theorem getV {ts : List Str} {x : Int} (h : 0 < (ts.length : Int)) : ∃ t ∈ ts, atI (ts.map V.str) (x % ((ts.map V.str).length : Int)) = some (.str t) := by
  rw [List.length_map]
  have p1 := Int.emod_nonneg x (show (ts.length : Int) ≠ 0 by omega)
  have p2 := Int.emod_lt_of_pos x h
  obtain ⟨j, hj⟩ : ∃ j : Nat, x % (ts.length : Int) = (j : Int) := ⟨(x % (ts.length : Int)).toNat, by omega⟩
  rw [hj] at p2 ⊢
  have hjl : j < ts.length := by omega
  exact ⟨ts[j], List.getElem_mem hjl, atI_nat (by rw [List.getElem?_map, List.getElem?_eq_getElem hjl]; rfl)⟩
theorem good_one : GoodT "1" := by
  have e : tl ("1" : Str) = [49] := by decide +kernel
  unfold GoodT
  rw [e]
  exact ⟨⟨1, 1, .one⟩, by decide⟩
theorem good_two : GoodT "(1+1)" := by
  have e : tl ("(1+1)" : Str) = 40 :: ([49] ++ 43 :: ([49] ++ [41])) := by decide +kernel
  unfold GoodT
  rw [e]
  exact ⟨⟨_, _, .plus .one .one⟩, by decide⟩
theorem ok_text (D : Dn K mg "_law_text" sLawText) (B : Bi mg) : Kp P w K mg base CX0 1 "_law_text" spText := by
  obtain ⟨f, fd, F, hm⟩ := D.ex
  refine ⟨f, fd, pLawText, F.ok scText (fun vs H Q E h => ?_) (fun cdv A outer s H vs Q E hr h => ?_), hm, F.kp, F.binds fun _ _ _ _ _ _ us hl => match us, hl with | [_, _], _ => rfl⟩
  · obtain ⟨z, m, rfl, _⟩ := h
    rfl
  · obtain ⟨z, m, rfl, m0, m1, k⟩ := h
    refine ⟨_, pss_cons (ps_set (i := 2) scText.nd rfl (Or.inl rfl) (pe_lst (pa_cons pe_str (pa_cons pe_str pa_nil))))
      (pss_cons (ps_for PassesOwn.never rfl (pi_range1 rfl B.range (pa_cons (pv 1) pa_nil)) (pg_name (i := 3) scText.nd rfl (Or.inl rfl))
        (pss_cons (ps_set (i := 4) scText.nd rfl (Or.inl rfl) (pe_op op_fdivN (pv 0) (pe_op op_add pe_int (pe_op op_mulX pe_int (pv 3)))))
        (pss_cons (ps_par (i := 5) (j := 6) (by rfl) scText.nd rfl rfl (by decide) rfl rfl
            (pa_cons (pe_ix ix_list (pv 2) (pe_op op_mod (pv 4) (pe_callB call_len_seq (by rfl) B.len PySem.boot_len (pa_cons (pv 2) pa_nil))) (fun _ _ => rfl))
            (pa_cons (pe_ix ix_list (pv 2) (pe_op op_mod (pe_op op_fdivN (pv 4) pe_int) (pe_callB call_len_seq (by rfl) B.len PySem.boot_len (pa_cons (pv 2) pa_nil))) (fun _ _ => rfl)) pa_nil)) (by rfl))
        (pss_cons (ps_set (i := 7) scText.nd rfl (Or.inl rfl) (pe_op op_add_str (pe_op op_add_str (pe_op op_add_str (pe_op op_add_str pe_str (pv 5)) (pe_ix ix_str pe_str (pe_op op_mod (pe_op op_fdivN (pv 4) pe_int) pe_int) (fun _ _ => rfl))) (pv 6)) pe_str))
        (pss_one (ps_expr (pe_bm PySem.F.plainAttrs_list PySem.F.slot_list_append PySem.F.type_list_append mt_append (pv 2)
          (pa_cons (pe_ifExp (pt_cmpR op_lt (pe_callB call_len_str (by rfl) B.len PySem.boot_len (pa_cons (pv 7) pa_nil)) pe_int (nomark _)) (pv 7) pe_str) pa_nil))))))))
      (pss_one (ps_ret (pe_ix ix_list (pv 2) (pe_un un_neg pe_int) (fun _ _ => rfl))))), ?_⟩
    refine ⟨(show 2 ≤ sizeLine by decide), fun q hq => ?_⟩
    refine ⟨_, rfl, m, rfl, by omega, by omega, ?_⟩
    refine for_range (lo := 0) (n := m.toNat) (fun i σ H' => ∃ (ts : List Str) (v3 v4 v5 v6 v7 : Option V), σ = [some (.int z), some (.int m), some (.ref q), v3, v4, v5, v6, v7] ∧ ts.length = i + 2 ∧ (∀ t ∈ ts, GoodT t) ∧ H' q = some (.lst (ts.map V.str)) ∧ Same H H')
      ⟨["1", "1"], _, _, _, _, _, rfl, rfl, (fun t ht => by rcases List.mem_cons.mp ht with z | z; (rw [z]; exact good_one); rw [List.mem_singleton.mp z]; exact good_one), upd_same, sm_upd hq⟩ ?_ ?_
    · rintro i σ H1 hi ⟨ts, v3, v4, v5, v6, v7, rfl, hl, hg, hq1, hs⟩
      have him : (i : Int) < m := by omega
      have e0 : (0 : Int) + (i : Int) = (i : Int) := Int.zero_add _
      rw [e0]
      refine ⟨_, rfl, _, rfl, _, _, rfl, rfl, mulx_ok (a := 3) (b := 10) (by decide) (by show _ < 1024; omega) (by decide), _, _, rfl, rfl, _, _, rfl, rfl, ⟨by omega, by omega⟩, ?_⟩
      have hpos : 0 < (ts.length : Int) := by omega
      have hpos' : 0 < ((ts.map V.str).length : Int) := by rw [List.length_map]; exact hpos
      obtain ⟨t1, ht1, a1⟩ := getV (x := z.fdiv (1 + 7 * (i : Int))) hpos
      obtain ⟨t2, ht2, a2⟩ := getV (x := (z.fdiv (1 + 7 * (i : Int))).fdiv 5) hpos
      refine ⟨_, rfl, _, rfl, _, rfl, q, _, rfl, .inl (SqL.of hq1), _, _, rfl, rfl, hpos', q, _, _, _, rfl, rfl, SqL.of hq1, a1,
        _, rfl, _, rfl, _, _, rfl, rfl, ⟨by decide, by decide⟩, _, rfl, q, _, rfl, .inl (SqL.of hq1), _, _, rfl, rfl, hpos', q, _, _, _, rfl, rfl, SqL.of hq1, a2, _, _, rfl, ?_⟩
      have g1 := hg t1 ht1
      have g2 := hg t2 ht2
      have l1 : t1.length < 900 := by rw [len_tl]; exact g1.2
      have l2 : t2.length < 900 := by rw [len_tl]; exact g2.2
      have hb : ((z.fdiv (1 + 7 * (i : Int))).fdiv 3) % 2 = 0 ∨ ((z.fdiv (1 + 7 * (i : Int))).fdiv 3) % 2 = 1 := by omega
      have eS : tl ("+*" : Str) = [43, 42] := by decide +kernel
      obtain ⟨c, hc, ac⟩ : ∃ c : Nat, (c = 43 ∨ c = 42) ∧ atI (tl ("+*" : Str)) (((z.fdiv (1 + 7 * (i : Int))).fdiv 3) % 2) = some c := by
        rw [eS]
        rcases hb with e | e
        · exact ⟨43, .inl rfl, by rw [e]; exact atI_nat (j := 0) rfl⟩
        · exact ⟨42, .inr rfl, by rw [e]; exact atI_nat (j := 1) rfl⟩
      have e1 : ("(" : Str) = ⟨#[40]⟩ := by decide +kernel
      have e2 : (")" : Str) = ⟨#[41]⟩ := by decide +kernel
      have lapp : ∀ x y : Str, (x ++ y).length = x.length + y.length := fun x y => by rw [len_tl, tl_app, List.length_append, ← len_tl, ← len_tl]
      have n1 : ("(" : Str).length = 1 := by decide +kernel
      have n2 : (")" : Str).length = 1 := by decide +kernel
      have n3 : (⟨#[c]⟩ : Str).length = 1 := rfl
      have big : (16777216 : Nat) = sizeLine := PySem.sizeLine_eq.symm
      refine ⟨_, rfl, _, _, rfl, rfl, by rw [← big, n1]; omega, _, rfl, _, _, rfl, rfl, ⟨by decide, by decide⟩, _, _, rfl, rfl, (by show (0 : Int) < 2; decide), _, _, c, rfl, rfl, by decide +kernel, ac, _, _, rfl, rfl,
        by rw [lapp, n1, n3, ← big]; omega, _, rfl, _, _, rfl, rfl, by rw [lapp, lapp, n1, n3, ← big]; omega, _, _, rfl, rfl, by rw [lapp, lapp, lapp, n1, n3, n2, ← big]; omega, ?_⟩
      obtain ⟨⟨m1', k1', w1⟩, _⟩ := g1
      obtain ⟨⟨m2', k2', w2⟩, _⟩ := g2
      have eT : tl (("(" : Str) ++ t1 ++ (⟨#[c]⟩ : Str) ++ t2 ++ (")" : Str)) = 40 :: (tl t1 ++ c :: (tl t2 ++ [41])) := by
        rw [tl_app, tl_app, tl_app, tl_app, e1, e2]
        simp [tl]
      have hw : ∃ n k, Wr (tl (("(" : Str) ++ t1 ++ (⟨#[c]⟩ : Str) ++ t2 ++ (")" : Str))) n k := by
        rw [eT]
        rcases hc with rfl | rfl
        · exact ⟨_, _, .plus w1 w2⟩
        · exact ⟨_, _, .times w1 w2⟩
      have hlm : (("(" : Str) ++ t1 ++ (⟨#[c]⟩ : Str) ++ t2 ++ (")" : Str)).length ≤ 2000 := by rw [lapp, lapp, lapp, lapp, n1, n2, n3]; omega
      refine ⟨_, rfl, .inl ⟨rfl, _, SqL.of hq1⟩, _, rfl, _, rfl, Nat.le_trans hlm (by decide), _, _, rfl, rfl, _, rfl, ?_⟩
      have hlen : (ts.map V.str).length < sizeLine := by rw [List.length_map, ← big]; omega
      have fin : ∀ t : Str, GoodT t → ∃ (ts' : List Str), ts'.length = i + 1 + 2 ∧ (∀ t ∈ ts', GoodT t) ∧ ts.map V.str ++ [V.str t] = ts'.map V.str := fun t ht =>
        ⟨ts ++ [t], by simp [hl], fun u hu => by
          rcases List.mem_append.mp hu with z | z
          · exact hg u z
          · rw [List.mem_singleton.mp z]; exact ht, by simp⟩
      refine ite2 (fun hlt => ?_) (fun hge => ?_)
      · obtain ⟨ts', f1, f2, f3⟩ := fin _ ⟨hw, by
          have z := of_decide_eq_true hlt
          rw [← len_tl]
          omega⟩
        exact ⟨_, rfl, q, _, _, rfl, rfl, hq1, hlen, ts', _, _, _, _, _, rfl, f1, f2, by rw [upd_same, ← f3], sm_put hs hq⟩
      · obtain ⟨ts', f1, f2, f3⟩ := fin _ good_two
        exact ⟨q, _, _, rfl, rfl, hq1, hlen, ts', _, _, _, _, _, rfl, f1, f2, by rw [upd_same, ← f3], sm_put hs hq⟩
    · rintro σ H1 ⟨ts, v3, v4, v5, v6, v7, rfl, hl, hg, hq1, hs⟩
      have hne : ts ≠ [] := fun z => by rw [z] at hl; simp at hl
      obtain ⟨us, t, rfl⟩ : ∃ us t, ts = us ++ [t] := ⟨ts.dropLast, ts.getLast hne, (List.dropLast_concat_getLast hne).symm⟩
      refine ⟨_, rfl, _, rfl, q, _, _, _, rfl, rfl, SqL.of hq1, ?_, k H1 t hs (hg t (by simp))⟩
      rw [List.map_append]
      exact atI_last _ _
end
end Fo
namespace Fo
open PySem L2 FO
section
variable {P : Program} {w : World} {K : PySem.W.Frag} {mg : Str → Option Value} {base : Heap}
/-! ### _law_whole -/
theorem scLWhole : FnScope nLawWhole pLawWhole (defScope sLawWhole) := ⟨rfl, rfl, rfl, by decide +kernel, rfl, by decide +kernel, by decide +kernel⟩
theorem ok_lwhole (D : Dn K mg "_law_whole" sLawWhole) (B : Bi mg) : Kp P w K mg base CX0 1 "_law_whole" (spWhole K) := by
  obtain ⟨f, fd, F, hm⟩ := D.ex
  refine ⟨f, fd, pLawWhole, F.ok scLWhole (fun vs H Q E h => ?_) (fun cdv A outer s H vs Q E hr h => ?_), hm, F.kp, F.binds fun _ _ _ _ _ _ us hl => match us, hl with | [_], _ => rfl⟩
  · obtain ⟨v, b, rfl, _⟩ := h
    rfl
  · obtain ⟨v, b, rfl, ⟨t, b1, b2, ty, k1, k2, rfl⟩, q⟩ := h
    refine ⟨_, pss_one (ps_ret (pe_and
      (pe_callB call_isi (by rfl) B.isi (by decide +kernel) (pa_cons (pv 0) (pa_cons (pe_bltn (v := .ty "int") (by rfl) B.int (by decide +kernel) rfl) pa_nil)))
      (pe_one (pe_not (pe_callB call_isi (by rfl) B.isi (by decide +kernel) (pa_cons (pv 0) (pa_cons (pe_bltn (v := .ty "bool") (by rfl) B.bool (by decide +kernel) rfl) pa_nil))))))), ?_⟩
    refine ⟨_, rfl, _, _, _, _, b1, rfl, .ty "int", ty, k1, b1, rfl, ?_⟩
    cases b1 with
    | false => exact iteF q
    | true =>
      refine iteT ⟨_, rfl, _, _, _, _, b2, rfl, .ty "bool", ty, k2 rfl, b2, rfl, ?_⟩
      exact q
end
end Fo
namespace Fo
open PySem L2 FO
/-! ### the script: slices and sums -/
theorem cut_take (ns : List Int) (k : Nat) : cutV (ns.map V.int) none (some (k : Int)) = (ns.take k).map V.int := by
  unfold cutV
  rw [HT.sIx_nat]
  show (((ns.map V.int).drop 0).take (min k (ns.map V.int).length - 0)) = _
  rw [List.drop_zero, Nat.sub_zero, List.map_take, List.length_map]
  by_cases h : k ≤ ns.length
  · rw [Nat.min_eq_left h]
  · rw [Nat.min_eq_right (by omega), List.take_of_length_le (by rw [List.length_map]; omega), List.take_of_length_le (by rw [List.length_map]; omega)]
theorem lapp (x y : Str) : (x ++ y).length = x.length + y.length := by rw [Str.length, Str.length, Str.length]; exact Array.size_append
theorem sum_bits {b : Nat} : ∀ (ns : List Int), (∀ n ∈ ns, n.natAbs < 2 ^ b) → ns.sum.natAbs ≤ ns.length * 2 ^ b
  | [], _ => by simp
  | n :: ns, h => by
    have ih := sum_bits ns (fun m hm => h m (List.mem_cons_of_mem _ hm))
    have h0 := h n List.mem_cons_self
    rw [List.sum_cons, List.length_cons, Nat.add_mul, Nat.one_mul]
    have := Int.natAbs_add_le n ns.sum
    omega
theorem sum_lt {ns : List Int} {b : Nat} (hl : ns.length ≤ 63) (h : ∀ n ∈ ns, n.natAbs < 2 ^ b) : ns.sum.natAbs < 2 ^ (b + 6) := by
  have h1 := sum_bits ns h
  have h2 : ns.length * 2 ^ b ≤ 63 * 2 ^ b := Nat.mul_le_mul_right _ hl
  have h3 : 0 < 2 ^ b := Nat.pow_pos (by decide)
  rw [Nat.pow_add]
  show _ < 2 ^ b * 64
  omega
/-- what a law's def is promised -/
def spLaw (K : PySem.W.Frag) : Sp := fun vs H Q _ => ∃ (a : Addr) (ns : List Int), vs = [.ref a] ∧ SqL K H a (ns.map V.int) ∧ ns.length ≤ 63 ∧ (∀ n ∈ ns, n.natAbs < 2 ^ 1048576) ∧ ∀ H', Q (.bl true) H'
end Fo
namespace Fo
open PySem L2 FO
section
variable {P : Program} {w : World} {K : PySem.W.Frag} {mg : Str → Option Value} {base : Heap} {CT CM : Addr}
/-! ### _law_best -/
def g0 (j : Nat) : Nat := if j = 0 then 0 else gr j
def bv (m a : Nat) : Int := if ((g0 a * g0 (m - a) : Nat) : Int) > ((g0 a + g0 (m - a) : Nat) : Int) then ((g0 a * g0 (m - a) : Nat) : Int) else ((g0 a + g0 (m - a) : Nat) : Int)
theorem bv_le {m a : Nat} (h1 : 1 ≤ a) (h2 : a < m) : bv m a ≤ (gr m : Int) := by
  have e : a + (m - a) = m := by omega
  have i1 := gr_mul h1 (show 1 ≤ m - a by omega)
  have i2 := gr_add h1 (show 1 ≤ m - a by omega)
  rw [e] at i1 i2
  unfold bv g0
  rw [if_neg (show ¬ a = 0 by omega), if_neg (show ¬ m - a = 0 by omega)]
  split
  · exact_mod_cast i1
  · exact_mod_cast i2
theorem bv_hit : ((List.range 39).all fun i => (List.range ((i + 2) / 2)).any fun a => decide (bv (i + 2) (1 + a) = (gr (i + 2) : Int))) = true := by decide +kernel
theorem g0_small : ((List.range 42).all fun j => decide (g0 j < 2 ^ 30)) = true := by decide +kernel
theorem g0_lt {j : Nat} (h : j < 42) : ((g0 j : Nat) : Int).natAbs < 2 ^ 30 := by
  have q := List.all_eq_true.mp g0_small j (List.mem_range.mpr h)
  rw [Int.natAbs_natCast]
  exact of_decide_eq_true q
theorem bv_max {i : Nat} (hi : i < 39) {m : Int} (hm : m ∈ (List.range ((i + 2) / 2)).map fun a => bv (i + 2) (1 + a)) (hle : ∀ y ∈ (List.range ((i + 2) / 2)).map (fun a => bv (i + 2) (1 + a)), y ≤ m) : m = ((g0 (i + 2) : Nat) : Int) := by
  have e : g0 (i + 2) = gr (i + 2) := if_neg (by omega)
  rw [e]
  obtain ⟨a, ha, rfl⟩ := List.mem_map.mp hm
  have ha := List.mem_range.mp ha
  have up := bv_le (m := i + 2) (a := 1 + a) (by omega) (by omega)
  have q := List.all_eq_true.mp bv_hit i (List.mem_range.mpr hi)
  obtain ⟨b, hb, hbe⟩ := List.any_eq_true.mp q
  have low := hle _ (List.mem_map.mpr ⟨b, hb, rfl⟩)
  rw [of_decide_eq_true hbe] at low
  omega
def gl (m : Nat) : List Int := (List.range m).map fun j => ((g0 j : Nat) : Int)
theorem gl_at {m j : Nat} (h : j < m) : atI ((gl m).map V.int) (j : Int) = some (.int (g0 j : Nat)) := atI_nat (by simp [gl, h])
theorem gl_succ (m : Nat) : gl (m + 1) = gl m ++ [((g0 m : Nat) : Int)] := by simp [gl, List.range_succ]
def spBest : Sp := fun vs H Q _ => vs = [.int 40] ∧ ∀ H' q, Same H H' → H q = none → H' q = some (.lst ((gl 41).map V.int)) → Q (.ref q) H'
theorem scBest : FnScope nLawBest pLawBest (defScope sLawBest) := ⟨rfl, rfl, rfl, by decide +kernel, rfl, by decide +kernel, by decide +kernel⟩
theorem ok_best (D : Dn K mg "_law_best" sLawBest) (B : Bi mg) : Kp P w K mg base CX0 1 "_law_best" spBest := by
  obtain ⟨f, fd, F, hm⟩ := D.ex
  refine ⟨f, fd, pLawBest, F.ok scBest (fun vs H Q E h => ?_) (fun cdv A outer s H vs Q E hr h => ?_), hm, F.kp, F.binds fun _ _ _ _ _ _ us hl => match us, hl with | [_], _ => rfl⟩
  · obtain ⟨rfl, _⟩ := h
    rfl
  · obtain ⟨rfl, k⟩ := h
    refine ⟨_, pss_cons (ps_set (i := 1) scBest.nd rfl (Or.inr rfl) (pe_lst (pa_cons pe_int (pa_cons pe_int pa_nil))))
      (pss_cons (ps_for PassesOwn.never rfl (pi_range2 (by rfl) B.range (pa_cons pe_int (pa_cons (pe_op op_add (pv 0) pe_int) pa_nil))) (pg_name (i := 2) scBest.nd rfl (Or.inr rfl))
        (pss_cons (ps_setLc (i := 3) (own := [("_law_one", 4)]) (g := gName 4) (tt := tYes) (by rfl) scBest.nd rfl rfl (sw_true rfl rfl rfl (by decide +kernel))
            (pi_range2 (by rfl) B.range (pa_cons pe_int (pa_cons (pe_op op_add (pe_op op_fdiv (pv 2) pe_int) pe_int) pa_nil)))
            (blkOk_by (own := [("_law_one", 4)]) (N := nLawBest) (sc := defScope sLawBest) (by decide +kernel)) (fun _ _ _ _ _ => pg_name (i := 4) scBest.nd rfl (Or.inl rfl)) (fun _ _ _ _ _ => pts_nil)
            (fun _ _ _ _ _ => pe_callB (call_max2 rfl) (by rfl) B.max (by decide +kernel)
              (pa_cons (pe_op op_add (pe_ix (r := rIxL K) ix_list (pv 1) (pv 4) (fun _ _ => rfl)) (pe_ix (r := rIxL K) ix_list (pv 1) (pe_op op_sub (pv 2) (pv 4)) (fun _ _ => rfl)))
              (pa_cons (pe_op op_mulX (pe_ix (r := rIxL K) ix_list (pv 1) (pv 4) (fun _ _ => rfl)) (pe_ix (r := rIxL K) ix_list (pv 1) (pe_op op_sub (pv 2) (pv 4)) (fun _ _ => rfl))) pa_nil))))
        (pss_one (ps_expr (pe_bm PySem.F.plainAttrs_list PySem.F.slot_list_append PySem.F.type_list_append mt_append (pv 1) (pa_cons (pe_callB (cr_max rfl) (by rfl) B.max (by decide +kernel) (pa_cons (pv 3) pa_nil)) pa_nil))))))
      (pss_one (ps_ret (pv 1)))), ?_⟩
    have big : (16777216 : Nat) = sizeLine := PySem.sizeLine_eq.symm
    refine ⟨(show 2 ≤ sizeLine by decide), fun q nq => ?_⟩
    obtain ⟨H0, e0, s0, hq⟩ := ab nq (.lst [V.int 0, V.int 1])
    rw [e0]
    refine ⟨_, rfl, _, _, rfl, rfl, 2, 41, rfl, ⟨by decide, by decide, by decide, by decide⟩, ?_⟩
    refine for_range (lo := 2) (n := 39) (fun i σ H' => ∃ v2 v3 v4 : Option V, σ = [some (.int 40), some (.ref q), v2, v3, v4] ∧ Same H H' ∧ H' q = some (.lst ((gl (i + 2)).map V.int)))
      ⟨_, _, _, rfl, s0, hq⟩ ?_ ?_
    · rintro i σ H1 hi ⟨v2, v3, v4, rfl, s1, hq1⟩
      have em : (2 : Int) + (i : Int) = ((i + 2 : Nat) : Int) := by omega
      rw [em]
      have eh : ((i + 2 : Nat) : Int) / 2 + 1 = (((i + 2) / 2 + 1 : Nat) : Int) := by omega
      refine ⟨_, rfl, _, _, rfl, rfl, ⟨by decide, by decide⟩, _, _, rfl, rfl, 1, _, rfl, ⟨by decide, by decide, by rw [eh]; omega, by rw [eh]; omega⟩, ?_⟩
      rw [eh, show ((((i + 2) / 2 + 1 : Nat) : Int) - 1).toNat = (i + 2) / 2 by omega]
      refine fun D hD => lc_range (lo := 1) (n := (i + 2) / 2) (fun j H' => Same H1 H' ∧ H' D = some (.lst (((List.range j).map fun a => bv (i + 2) (1 + a)).map V.int))) ⟨sm_upd hD, upd_same⟩ ?_ ?_
      · rintro j H2 hj ⟨s2, hD2⟩
        have ej : (1 : Int) + (j : Int) = ((1 + j : Nat) : Int) := by omega
        rw [ej]
        refine ⟨rfl, ?_⟩
        unfold tYes
        refine iteT ?_
        have hq2 := SqL.of (K := K) (sm_at s2 hq1)
        have ed : ((i + 2 : Nat) : Int) - ((1 + j : Nat) : Int) = ((i + 2 - (1 + j) : Nat) : Int) := by omega
        have a1 := gl_at (show 1 + j < i + 2 by omega)
        have a2 := gl_at (show i + 2 - (1 + j) < i + 2 by omega)
        refine ⟨_, rfl, _, rfl, q, _, _, _, rfl, rfl, hq2, a1, _, rfl, _, rfl, _, rfl, _, _, rfl, rfl, q, _, _, _, rfl, rfl, hq2, by rw [ed]; exact a2, _, _, rfl, rfl,
          _, rfl, _, rfl, q, _, _, _, rfl, rfl, hq2, a1, _, rfl, _, rfl, _, rfl, _, _, rfl, rfl, q, _, _, _, rfl, rfl, hq2, by rw [ed]; exact a2, _, _, rfl, rfl, ?_, _, _, rfl, ?_⟩
        · exact mulx_ok (a := 30) (b := 30) (g0_lt (by omega)) (g0_lt (by omega)) (by decide)
        · refine ⟨_, hD2, ?_, ?_, ?_⟩
          · rw [List.length_map, List.length_map, List.length_range, ← big]; omega
          · exact fun b o e => by
              rw [upd_ne (ne_of_none e hD)]
              exact s2 b o e
          · rw [upd_same, List.range_succ, List.map_append, List.map_append]
            congr 3
      · rintro H2 ⟨s2, hD2⟩
        refine ⟨_, rfl, .inl ⟨rfl, _, SqL.of (sm_at s2 hq1)⟩, _, rfl, D, _, rfl, SqL.of hD2, ?_, fun m hm hle => ?_⟩
        · rw [List.length_map, List.length_range]; omega
        · rw [bv_max hi hm hle]
          refine ⟨q, _, _, rfl, rfl, sm_at s2 hq1, ?_, ?_⟩
          · rw [List.length_map, ← big]; simp [gl]; omega
          · exact ⟨_, _, _, rfl, sm_put (s1.trans s2) nq, by rw [upd_same, show i + 1 + 2 = (i + 2) + 1 by omega, gl_succ (i + 2), List.map_append]; rfl⟩
    · rintro σ H1 ⟨v2, v3, v4, rfl, s1, hq1⟩
      exact ⟨_, rfl, k H1 q s1 nq hq1⟩
/-! ### law -/
theorem scLaw : FnScope nLaw pLaw (defScope sLaw) := ⟨rfl, rfl, rfl, by decide +kernel, rfl, by decide +kernel, by decide +kernel⟩
theorem str_digits (n : Nat) : (toString ((n : Nat) : Int)).toList = Nat.toDigits 10 n := by
  show (Nat.repr n).toList = _
  unfold Nat.repr
  simp
theorem len_3000 : (Str.ofString (toString ((gr 3000 : Nat) : Int))).length = 478 := by
  have e : gr 3000 = 3 ^ 1000 := by decide +kernel
  have d : (Nat.toDigits 10 (3 ^ 1000)).length = 478 := by decide +kernel
  rw [len_tl]
  show (TL.tl _).length = _
  rw [TL.tl_ofString, List.length_map, str_digits, e]
  exact d
theorem log_3000 : ((gr 3000 : Nat) : Int).natAbs.log2 < 1920 := by decide +kernel
/-- the writing of three times three, i times -/
def thr : Nat → List Nat
  | 0 => [40, 49, 43, 40, 49, 43, 49, 41, 41]
  | i + 1 => 40 :: (thr i ++ 42 :: ([40, 49, 43, 40, 49, 43, 49, 41, 41] ++ [41]))
theorem thr_wr : ∀ i, Wr (thr i) (3 * 3 ^ i) (3 * i + 3)
  | 0 => .plus .one (.plus .one .one)
  | i + 1 => by
    have h := Wr.times (thr_wr i) (thr_wr 0)
    have e1 : (3 * 3 ^ i * (3 * 3 ^ 0) : Int) = 3 * 3 ^ (i + 1) := by
      rw [Int.pow_succ, Int.pow_zero, Int.mul_one, Int.mul_assoc]
    have e2 : 3 * i + 3 + (3 * 0 + 3) = 3 * (i + 1) + 3 := by omega
    rw [e1, e2] at h
    exact h
theorem fn_law {f : Addr} {fd : FuncData} (F : Fun K "law" "law" sLaw f fd) (B : Bi mg) (Nu : Kp P w K mg base CX0 1 "_law_number" spNumber) (Tx : Kp P w K mg base CX0 1 "_law_text" spText) (Wh : Kp P w K mg base CX0 1 "_law_whole" (spWhole K)) (Be : Kp P w K mg base CX0 1 "_law_best" spBest)
    (Wo : Kp P w K mg base (L2.CX P w) 5 "worth" (spWorth K CT)) (On : Kp P w K mg base (L2.CX P w) 5 "ones" (spOnes K CT)) (Gr : Kp P w K mg base (L2.CX P w) 3 "greatest" (spGreatest K CM)) : FnOk P w K mg base CX0 6 f fd pLaw (spLaw K) := by
  refine F.ok scLaw (fun vs H Q E h => ?_) (fun cdv A outer s H vs Q E hr h => ?_)
  · obtain ⟨a, ns, rfl, _⟩ := h
    rfl
  · obtain ⟨a, ns, rfl, hS, hlen, hbits, k⟩ := h
    refine ⟨_, pss_cons (ps_set (i := 1) scLaw.nd rfl (Or.inl rfl) (pe_callB (cr_sum rfl) (by rfl) B.sum (by decide +kernel) (pa_cons (pe_slice sl_list (pv 0) po_none (po_some pe_int)) pa_nil)))
      (pss_cons (ps_set (i := 2) scLaw.nd rfl (Or.inl rfl) (pk Be hr (by decide) rfl (pa_cons pe_int pa_nil)))
      (pss_cons (ps_for PassesOwn.never rfl (pi_enum (by rfl) B.enum (pa_cons (pe_op op_cat (pe_lst (pa_cons (pv 1) pa_nil)) (pe_slice sl_list (pv 0) po_none (po_some pe_int))) pa_nil))
        (pg_tup rfl (pgs_cons (pg_name (i := 3) scLaw.nd rfl (.inl rfl)) (pgs_cons (pg_name (i := 4) scLaw.nd rfl (.inl rfl)) pgs_nil)))
        (pss_cons (ps_set (i := 5) scLaw.nd rfl (Or.inl rfl) (pk Nu hr (by decide) rfl (pa_cons (pv 4) (pa_cons (pv 3) (pa_cons pe_int pa_nil)))))
        (pss_cons (ps_set (i := 6) scLaw.nd rfl (Or.inl rfl) (pe_op op_add pe_int (pe_op op_mod (pv 5) pe_int)))
        (pss_cons (ps_set (i := 7) scLaw.nd rfl (Or.inl rfl) (pkL Gr hr (by decide) rfl (pa_cons (pv 6) pa_nil)))
        (pss_cons (ps_if (PW.pt (pw_or (pt_not (pt_val (pk Wh hr (by decide) rfl (pa_cons (pv 7) pa_nil)))) (pw_or1 (pt_cmpR op_ne (pv 7) (pe_ix ix_list (pv 2) (pv 6) (fun _ _ => rfl)) (nomark _))))) (pss_one (ps_ret pe_bl)) pss_nil)
        (pss_cons (ps_set (i := 8) scLaw.nd rfl (Or.inl rfl) (pe_op op_add pe_int (pe_op op_mod (pe_op op_fdiv (pv 5) pe_int) pe_int)))
        (pss_cons (ps_if (PW.pt (pw_or (pt_cmpR op_ne (pkL Gr hr (by decide) rfl (pa_cons (pe_op op_add (pv 8) pe_int) pa_nil)) (pe_op op_mul pe_int (pkL Gr hr (by decide) rfl (pa_cons (pv 8) pa_nil))) (nomark _))
            (pw_or1 (pt_cmpR op_le (pkL Gr hr (by decide) rfl (pa_cons (pe_op op_add (pv 8) pe_int) pa_nil)) (pkL Gr hr (by decide) rfl (pa_cons (pv 8) pa_nil)) (nomark _))))) (pss_one (ps_ret pe_bl)) pss_nil)
        (pss_cons (ps_set (i := 9) scLaw.nd rfl (Or.inl rfl) (pk Tx hr (by decide) rfl (pa_cons (pv 5) (pa_cons (pe_op op_add pe_int (pe_op op_mod (pv 5) pe_int)) pa_nil))))
        (pss_one (ps_if (pt_cmpR op_gt (pkL Wo hr (by decide) rfl (pa_cons (pv 9) pa_nil)) (pkL Gr hr (by decide) rfl (pa_cons (pkL On hr (by decide) rfl (pa_cons (pv 9) pa_nil)) pa_nil)) (nomark _)) (pss_one (ps_ret pe_bl)) pss_nil))))))))))
      (pss_cons (ps_set (i := 10) scLaw.nd rfl (Or.inl rfl) pe_str)
      (pss_cons (ps_for PassesOwn.never rfl (pi_range1 rfl B.range (pa_cons pe_int pa_nil)) (pg_name (i := 11) scLaw.nd rfl (Or.inl rfl))
        (pss_cons (ps_set (i := 10) scLaw.nd rfl (Or.inl rfl) (pe_op op_add_str (pe_op op_add_str pe_str (pv 10)) pe_str))
        (pss_one (ps_if (pt_cmpR op_ne (pkL Wo hr (by decide) rfl (pa_cons (pv 10) pa_nil)) (pkL Gr hr (by decide) rfl (pa_cons (pkL On hr (by decide) rfl (pa_cons (pv 10) pa_nil)) pa_nil)) (nomark _)) (pss_one (ps_ret pe_bl)) pss_nil))))
      (pss_one (ps_ret (pe_and (pe_cmpR (op_eqD hr.units)
          (pe_lc (own := [("_law_many", 6)]) (g := gName 6) (tt := tYes) rfl scLaw.nd (pi_range2 (by rfl) B.range (pa_cons pe_int (pa_cons pe_int pa_nil))) (blkOk_by (own := [("_law_many", 6)]) (N := nLaw) (sc := defScope sLaw) (by decide +kernel)) (fun _ _ _ _ _ => pg_name (i := 6) scLaw.nd rfl (Or.inl rfl)) (fun _ _ _ _ _ => pts_nil)
            (fun _ _ _ _ _ => pkL Gr hr (by decide) rfl (pa_cons (pv 6) pa_nil)))
          (pe_lst (pa_cons pe_int (pa_cons pe_int (pa_cons pe_int (pa_cons pe_int (pa_cons pe_int (pa_cons pe_int (pa_cons pe_int (pa_cons pe_int pa_nil))))))))) (nomark _))
        (pe_one (pe_cmpR op_eq (pe_callB call_len_str (by rfl) B.len PySem.boot_len (pa_cons (pe_callTy call_str_int (by rfl) B.str (by decide +kernel) (pa_cons (pkL Gr hr (by decide) rfl (pa_cons pe_int pa_nil)) pa_nil)) pa_nil)) pe_int (nomark _)))))))))), ?_⟩
    have big : (16777216 : Nat) = sizeLine := PySem.sizeLine_eq.symm
    have e63 : ∀ k : Nat, cutV (ns.map V.int) none (some (k : Int)) = (ns.take k).map V.int := fun k => cut_take ns k
    -- the sum
    refine ⟨_, rfl, _, rfl, a, _, rfl, hS, fun c nc => ?_⟩
    rw [show cutV (ns.map V.int) none (some 63) = (ns.take 63).map V.int from e63 63]
    obtain ⟨H1, e1, s1, hc⟩ := ab nc (.lst ((ns.take 63).map V.int))
    rw [e1]
    refine ⟨c, _, rfl, SqL.of hc, ?_⟩
    have sb : (ns.take 63).sum.natAbs < 2 ^ 1048582 := sum_lt (by simp; omega) (fun n hn => hbits n (List.mem_of_mem_take hn))
    refine ⟨rfl, fun H2 b s2 nb hb => ?_⟩
    have s02 := s1.trans s2
    refine ⟨_, rfl, (show 1 ≤ sizeLine by decide), fun d nd => ?_⟩
    obtain ⟨H3, e3, s3, hd⟩ := ab nd (.lst [V.int (ns.take 63).sum])
    rw [e3]
    refine ⟨_, rfl, _, rfl, a, _, rfl, (s02.trans s3).seq hS, fun e ne => ?_⟩
    rw [show cutV (ns.map V.int) none (some 8) = (ns.take 8).map V.int from e63 8]
    obtain ⟨H4, e4, s4, he⟩ := ab ne (.lst ((ns.take 8).map V.int))
    rw [e4]
    refine ⟨d, e, _, _, rfl, rfl, sm_at s4 hd, he, ?_, fun g ng => ?_⟩
    · rw [List.length_map, List.length_take, ← big]
      show 1 + _ ≤ _
      omega
    obtain ⟨ms, ems, hm9, hmb⟩ : ∃ ms : List Int, [V.int (ns.take 63).sum] ++ (ns.take 8).map V.int = ms.map V.int ∧ ms.length ≤ 9 ∧ ∀ m ∈ ms, m.natAbs < 2 ^ 1048582 := by
      refine ⟨(ns.take 63).sum :: ns.take 8, by simp, by simp; omega, fun m hm => ?_⟩
      rcases List.mem_cons.mp hm with z | z
      · rw [z]; exact sb
      · exact small_lt (hbits m (List.mem_of_mem_take z)) _ (by decide)
    rw [ems]
    obtain ⟨H5, e5, s5, hg⟩ := ab ng (.lst (ms.map V.int))
    rw [e5]
    refine ⟨g, _, rfl, SqL.of hg, ?_⟩
    have hb5 : H5 b = some (.lst ((gl 41).map V.int)) := sm_at s5 (sm_at s4 (sm_at s3 hb))
    refine for_it walk_enum (fun i σ H' => ∃ v3 v4 v5 v6 v7 v8 v9 v10 v11 : Option V, σ = [some (.ref a), some (.int (ns.take 63).sum), some (.ref b), v3, v4, v5, v6, v7, v8, v9, v10, v11] ∧ Same H5 H') ⟨_, _, _, _, _, _, _, _, _, rfl, Same.refl _⟩ (fun i σ H' _ ⟨_, _, _, _, _, _, _, _, _, _, s'⟩ => SqL.of (s' _ _ hg)) ?_ ?_
    · rintro i x σ H6 H7 hi ⟨v3, v4, v5, v6, v7, v8, v9, v10, v11, rfl, hs⟩ ⟨T, x1, y1, rfl, hT, rfl, ex, ey⟩
      cases ex
      have him : i < ms.length := by rw [List.length_map] at hi; exact hi
      obtain ⟨m, hm, rfl⟩ : ∃ m, ms[i]? = some m ∧ y1 = V.int m := by
        have ey : (ms.map V.int)[i]? = some y1 := ey
        rw [List.getElem?_map] at ey
        cases q : ms[i]? with
        | none => rw [q] at ey; cases ey
        | some m => rw [q] at ey; exact ⟨m, rfl, (Option.some.inj ey).symm⟩
      refine ⟨T, _, rfl, SqT.of upd_same, rfl, _, _, rfl, _, _, rfl, rfl, ?_⟩
      obtain ⟨H8, e8, s8, hT8⟩ := ab hT (.tup [V.int (i : Nat), V.int m])
      rw [e8]
      have hs8 := hs.trans s8
      refine ⟨_, rfl, _, rfl, m, _, _, rfl, small_lt (hmb m (List.mem_of_getElem? hm)) _ (by decide), by omega, by omega, by decide, by decide, fun z => ?_⟩
      obtain ⟨u, hu1, hu2, hu⟩ : ∃ u : Nat, 1 ≤ u ∧ u ≤ 40 ∧ 1 + z % 40 = (u : Int) := ⟨(1 + z % 40).toNat, by omega, by omega, by omega⟩
      obtain ⟨d', hd1, hd2, hd'⟩ : ∃ d : Nat, 2 ≤ d ∧ d ≤ 2997 ∧ 2 + z / 41 % 2996 = (d : Int) := ⟨(2 + z / 41 % 2996).toNat, by omega, by omega, by omega⟩
      refine ⟨_, rfl, _, _, rfl, rfl, (by show (0 : Int) < 40; decide), _, _, rfl, rfl, ?_⟩
      show gName 6 (V.int (1 + z % 40)) _ _ _
      rw [hu]
      refine ⟨_, rfl, _, rfl, .inl ⟨_, rfl, fun q => q ⟨by omega, by omega⟩, fun _ _ H9 s9 => ?_⟩⟩
      rw [Int.toNat_natCast]
      have hs9 := hs8.trans s9
      refine ⟨_, rfl, _, _, rfl, IsW.int _, _, rfl, iteF ?_⟩
      have hat : atI ((gl 41).map V.int) (u : Int) = some (.int (gr u : Nat)) := by
        have q := gl_at (show u < 41 by omega)
        have e : g0 u = gr u := if_neg (by omega)
        rw [e] at q
        exact q
      refine ⟨_, rfl, _, rfl, _, rfl, b, _, _, _, rfl, rfl, SqL.of (sm_at hs9 hb5), hat, rfl, _, rfl, ifF (by rw [decide_eq_true rfl]; rfl) ?_⟩
      refine ⟨_, rfl, _, _, rfl, rfl, ⟨by decide, by decide⟩, _, _, rfl, rfl, (by show (0 : Int) < 2996; decide), _, _, rfl, rfl, ?_⟩
      show gName 8 (V.int (2 + z / 41 % 2996)) _ _ _
      rw [hd']
      have f3 : ((d' : Int) + 3).toNat = d' + 3 := by omega
      have f1 : ((d' : Int) + 1).toNat = d' + 1 := by omega
      have f0 : (d' : Int).toNat = d' := by omega
      refine ⟨_, rfl, _, _, rfl, rfl, _, rfl, .inl ⟨_, rfl, fun q => q ⟨by omega, by omega⟩, fun _ _ H10 s10 => ?_⟩⟩
      refine ⟨_, rfl, _, rfl, .inl ⟨_, rfl, fun q => q ⟨by omega, by omega⟩, fun _ _ H11 s11 => ?_⟩⟩
      refine ⟨_, _, rfl, rfl, .inl ⟨by decide, by decide⟩, rfl, _, rfl, ifF ?_ ?_⟩
      · rw [f3, f0, gr_add3 hd1]
        rw [decide_eq_true (by congr 1)]
        rfl
      refine ⟨_, rfl, _, _, rfl, rfl, _, rfl, .inl ⟨_, rfl, fun q => q ⟨by omega, by omega⟩, fun _ _ H12 s12 => ?_⟩⟩
      refine ⟨_, rfl, _, rfl, .inl ⟨_, rfl, fun q => q ⟨by omega, by omega⟩, fun _ _ H13 s13 => ?_⟩⟩
      refine ⟨_, _, rfl, rfl, _, rfl, ifF ?_ ?_⟩
      · rw [f1, f0]
        have := gr_lt (show 1 ≤ d' by omega)
        exact decide_eq_false (by omega)
      have hs13 := (((hs9.trans s10).trans s11).trans s12).trans s13
      refine ⟨_, rfl, _, rfl, _, _, rfl, rfl, (by show (0 : Int) < 7; decide), _, _, rfl, rfl, z, _, rfl, by omega, by omega, fun H14 t s14 gt => ?_⟩
      obtain ⟨⟨n, j, wr⟩, hl9⟩ := gt
      have hj : j ≤ 500 := by have := wr.len; omega
      have wv := wr.worth hj
      have wp := wr.pos
      have tsz : t.length ≤ sizeLine := by rw [len_tl, ← big]; omega
      have hne : worthL (tl t) ≠ 0 := by rw [wv]; omega
      refine ⟨_, rfl, _, rfl, .inl ⟨t, rfl, tsz, fun q => absurd q hne, fun _ H15 s15 => ?_⟩⟩
      refine ⟨_, rfl, _, rfl, .inl ⟨t, rfl, tsz, fun q => absurd q hne, fun _ H16 s16 => ?_⟩⟩
      rw [wr.count]
      refine ⟨_, rfl, .inl ⟨_, rfl, fun q => q ⟨by omega, by omega⟩, fun _ _ H17 s17 => ?_⟩⟩
      refine ⟨_, _, rfl, rfl, _, rfl, ifF ?_ ?_⟩
      · rw [Int.toNat_natCast, wv]
        have := wr.le
        exact decide_eq_false (by omega)
      exact ⟨_, _, _, _, _, _, _, _, _, rfl, (((hs13.trans s14).trans s15).trans s16).trans s17⟩
    · rintro σ H6 ⟨v3, v4, v5, v6, v7, v8, v9, v10, v11, rfl, hs⟩
      refine ⟨5, rfl, by decide, by decide, for_range (lo := 0) (n := 5) (fun i σ H' => ∃ (t : Str) (v11 : Option V), tl t = thr i ∧ σ = [some (.ref a), some (.int (ns.take 63).sum), some (.ref b), v3, v4, v5, v6, v7, v8, v9, some (.str t), v11])
        ⟨"(1+(1+1))", _, by decide +kernel, rfl⟩ ?_ ?_⟩
      · rintro i σ H7 hi ⟨t, v11, et, rfl⟩
        have wr0 := thr_wr i
        have wr := thr_wr (i + 1)
        have l0 : t.length = 12 * i + 9 := by
          rw [len_tl, et]
          have := wr0.len
          omega
        have n1 : ("(" : Str).length = 1 := by decide +kernel
        have n2 : ("*(1+(1+1)))" : Str).length = 11 := by decide +kernel
        refine ⟨_, rfl, _, _, rfl, rfl, by rw [n1, ← big]; omega, _, _, rfl, rfl, by rw [lapp, n1, n2, ← big]; omega, ?_⟩
        have et' : tl (("(" : Str) ++ t ++ ("*(1+(1+1)))" : Str)) = thr (i + 1) := by
          rw [tl_app, tl_app, et, show tl ("(" : Str) = [40] by decide +kernel, show tl ("*(1+(1+1)))" : Str) = [42, 40, 49, 43, 40, 49, 43, 49, 41, 41, 41] by decide +kernel]
          simp [thr]
        have tsz : (("(" : Str) ++ t ++ ("*(1+(1+1)))" : Str)).length ≤ sizeLine := by rw [lapp, lapp, n1, n2, ← big]; omega
        have wv := wr.worth (by omega)
        have wp := wr.pos
        rw [← et'] at wv
        have hne : worthL (tl (("(" : Str) ++ t ++ ("*(1+(1+1)))" : Str))) ≠ 0 := by rw [wv]; omega
        refine ⟨_, rfl, _, rfl, .inl ⟨_, rfl, tsz, fun q => absurd q hne, fun _ H8 s8 => ?_⟩⟩
        refine ⟨_, rfl, _, rfl, .inl ⟨_, rfl, tsz, fun q => absurd q hne, fun _ H9 s9 => ?_⟩⟩
        rw [et', wr.count]
        refine ⟨_, rfl, .inl ⟨_, rfl, fun q => q ⟨by omega, by omega⟩, fun _ _ H10 s10 => ?_⟩⟩
        refine ⟨rfl, _, rfl, ifF ?_ ⟨_, _, et', rfl⟩⟩
        rw [Int.toNat_natCast, ← et', wv, gr_0]
        rw [decide_eq_true (by congr 1)]
        rfl
      · rintro σ H7 ⟨t, v11, et, rfl⟩
        refine ⟨1, 9, rfl, ⟨by decide, by decide, by decide, by decide⟩, fun D hD => ?_⟩
        refine lc_range (lo := 1) (n := 8) (fun j H' => Same H7 H' ∧ H' D = some (.lst (((List.range j).map fun a => ((gr (1 + a) : Nat) : Int)).map V.int))) ⟨sm_upd hD, upd_same⟩ ?_ ?_
        · rintro j H8 hj ⟨s8, hD8⟩
          refine ⟨rfl, ?_⟩
          unfold tYes
          refine iteT ?_
          have ej : (1 : Int) + (j : Int) = ((1 + j : Nat) : Int) := by omega
          rw [ej]
          refine ⟨_, rfl, _, rfl, .inl ⟨_, rfl, fun q => q ⟨by omega, by omega⟩, fun _ _ H9 s9 => ?_⟩⟩
          rw [Int.toNat_natCast]
          refine ⟨_, sm_at s9 hD8, ?_, ?_, ?_⟩
          · rw [List.length_map, List.length_map, List.length_range, ← big]; omega
          · exact fun b o e => by
              rw [upd_ne (ne_of_none e hD)]
              exact (s8.trans s9) b o e
          · rw [upd_same, List.range_succ, List.map_append, List.map_append]
            congr 3
        · rintro H8 ⟨s8, hD8⟩
          refine ⟨(show 8 ≤ sizeLine by decide), fun U nU => ?_⟩
          obtain ⟨H9, e9, s9, hU⟩ := ab nU (.lst [V.int 1, V.int 2, V.int 3, V.int 4, V.int 6, V.int 9, V.int 12, V.int 18])
          rw [e9]
          have eg : ((List.range 8).map fun a => ((gr (1 + a) : Nat) : Int)).map V.int = [V.int 1, V.int 2, V.int 3, V.int 4, V.int 6, V.int 9, V.int 12, V.int 18] := by decide +kernel
          rw [eg] at hD8
          have dp : DpAll K H9 [V.int 1, V.int 2, V.int 3, V.int 4, V.int 6, V.int 9, V.int 12, V.int 18] [.int 1, .int 2, .int 3, .int 4, .int 6, .int 9, .int 12, .int 18] :=
            .cons (.int _) (.cons (.int _) (.cons (.int _) (.cons (.int _) (.cons (.int _) (.cons (.int _) (.cons (.int _) (.cons (.int _) .nil)))))))
          refine ⟨.list _, .list _, .lst (SqL.of (sm_at s9 hD8)) dp, .lst (SqL.of hU) dp, by decide, by decide, true, by decide, iteT ?_⟩
          refine ⟨_, rfl, .inl ⟨_, rfl, fun q => q ⟨by decide, by decide⟩, fun _ _ H10 s10 => ?_⟩⟩
          refine ⟨_, rfl, log_3000, _, rfl, by rw [show (Str.ofString (toString ((gr (3000 : Int).toNat : Nat) : Int))).length = 478 from len_3000, ← big]; decide, rfl, ?_⟩
          have e : decide (V.int ((Str.ofString (toString ((gr (3000 : Int).toNat : Nat) : Int))).length : Nat) = V.int 478) = true := by
            rw [show (Str.ofString (toString ((gr (3000 : Int).toNat : Nat) : Int))).length = 478 from len_3000]
            rfl
          show Q (.bl (decide (V.int ((Str.ofString (toString ((gr (3000 : Int).toNat : Nat) : Int))).length : Nat) = V.int 478))) H10
          rw [e]
          exact k H10
end
end Fo
namespace Fo
open PySem L2 FO
/-! ### the end: what the top has written -/
section
variable {K : PySem.W.Frag} {h : Heap} {mg : Str → Option Value}
theorem dn_mk {x : Str} {st : Stmt} {f : Addr} {oc : Value} {od an : Option Addr} {osl : Array (Option Value)} {kV doc pm cdv ct : Value} (X : K.In h) (G : h.Ns mainGlobals mg) (a : PySem.W.nsIn K mainGlobals x = some (some (.ref f)))
    (l : K.lookup f = some ⟨oc, od, .func (PySem.W.fnOf x x (defArgs st) (defBody st) (defScope st) .none kV doc pm an cdv ct), osl⟩)
    (c : PySem.W.codeIn K cdv x = true) (k : PySem.W.keepIn K (.ref f) = true) : Dn K mg x st := ⟨f, _, fun_mk l c k, PySem.W.mg_of X G a⟩
theorem bi_mk (X : K.In h) (G : h.Ns mainGlobals mg)
    (b_isi : PySem.W.nsIn K mainGlobals "isinstance" = some none) 
    (b_int : PySem.W.nsIn K mainGlobals "int" = some none) 
    (b_bool : PySem.W.nsIn K mainGlobals "bool" = some none) 
    (b_str : PySem.W.nsIn K mainGlobals "str" = some none) 
    (b_list : PySem.W.nsIn K mainGlobals "list" = some none) 
    (b_len : PySem.W.nsIn K mainGlobals "len" = some none) 
    (b_all : PySem.W.nsIn K mainGlobals "all" = some none) 
    (b_range : PySem.W.nsIn K mainGlobals "range" = some none) 
    (b_enum : PySem.W.nsIn K mainGlobals "enumerate" = some none) 
    (b_sum : PySem.W.nsIn K mainGlobals "sum" = some none) 
    (b_max : PySem.W.nsIn K mainGlobals "max" = some none) 
    (b_sorted : PySem.W.nsIn K mainGlobals "sorted" = some none) 
    (b_abs : PySem.W.nsIn K mainGlobals "abs" = some none) 
    (b_tuple : PySem.W.nsIn K mainGlobals "tuple" = some none) 
    (b_any : PySem.W.nsIn K mainGlobals "any" = some none) : Bi mg :=
  ⟨PySem.W.mg_none_of X G b_isi, PySem.W.mg_none_of X G b_int, PySem.W.mg_none_of X G b_bool, PySem.W.mg_none_of X G b_str, PySem.W.mg_none_of X G b_list, PySem.W.mg_none_of X G b_len, PySem.W.mg_none_of X G b_all, PySem.W.mg_none_of X G b_range, PySem.W.mg_none_of X G b_enum, PySem.W.mg_none_of X G b_sum, PySem.W.mg_none_of X G b_max, PySem.W.mg_none_of X G b_sorted, PySem.W.mg_none_of X G b_abs, PySem.W.mg_none_of X G b_tuple, PySem.W.mg_none_of X G b_any⟩
theorem er_mk {x : Str} {C : Addr} (X : K.In h) (G : h.Ns mainGlobals mg) (a : PySem.W.nsIn K mainGlobals x = some (some (.ref C))) (x1 : PySem.W.excIn K C [.type "ValueError", .type "Exception", .type "BaseException", .type "object"] "ValueError.__new__" = true)
    (k : PySem.W.keepIn K (.ref C) = true) (b : PySem.W.subIn K (.ref C) (.type "BaseException") = some true) (t : PySem.W.typeIn K (.ref C) = some (.type "type")) : ErC K mg x C := ⟨PySem.W.mg_of X G a, x1, k, b, t⟩
theorem erk_mk3 {O D C1 C2 C3 : Addr} {b1 b2 b3 : Bool} (e1 : PySem.W.findIn K (.ref D) "__getattribute__" = some (some (.builtin "BaseException.__getattribute__"))) (e2 : PySem.W.findIn K (.ref D) "__getattr__" = some none) (e3 : PySem.W.subIn K (.ref D) (.type "BaseException") = some true)
    (e4 : PySem.W.hasDictIn K D = true) (e5 : PySem.W.findIn K (.ref D) "__class__" = some (some (.builtin "object.__class__"))) (e6 : PySem.W.specialIn K (.builtin "object.__class__") "__get__" = some (some (.builtin "getset_descriptor.__get__")))
    (e7 : PySem.W.takesIn K (.builtin "object.__class__") = some true) (e8 : PySem.W.mroIn K D (.type "object") = some true) (o1 : PySem.W.subIn K (.ref O) (.type "BaseException") = some true) (o2 : PySem.W.hasDictIn K O = true) (o3 : PySem.W.typeIn K (.ref O) = some (.type "type")) (o4 : PySem.W.subIn K (.ref D) (.ref O) = some true)
    (i0 : PySem.W.kitOne K (.ref D) (.ref C1) = some b1) (i1 : PySem.W.kitOne K (.ref D) (.ref C2) = some b2) (i2 : PySem.W.kitOne K (.ref D) (.ref C3) = some b3) : ErK K O D [(C1, b1), (C2, b2), (C3, b3)] :=
  ⟨⟨e1, e2, e3, e4, e5, e6, e7, e8⟩, PySem.W.exm_ref o1 o2 o3 o4, fun p hp => by
    simp only [List.mem_cons, List.not_mem_nil, or_false] at hp
    rcases hp with rfl | rfl | rfl
    · exact i0
    · exact i1
    · exact i2⟩
theorem bits_lt {z : Int} {n : Nat} (h : PySem.Builtin.Int.intBits z ≤ n) : z.natAbs < 2 ^ n := by
  unfold PySem.Builtin.Int.intBits at h
  by_cases e : z = 0
  · subst e
    exact Nat.pow_pos (by decide)
  · have e' : (z == 0) = false := by simpa using e
    rw [e'] at h
    exact Nat.lt_of_lt_of_le (Nat.lt_log2_self) (Nat.pow_le_pow_right (by decide) h)
/-- the law's def, and how it is called -/
theorem law_end {l : PySem.W.OpenLaw} {w : World} {fa : Addr} {x : Str} {st : Stmt} {k : Nat} {sp : Sp} (D : Dn K mg "law" st) (hfa : mg "law" = some (.ref fa))
    (hb : ∀ (kV doc pm : Value) (an : Option Addr) (cdv ct v : Value), bindArgs (PySem.W.fnOf "law" "law" (defArgs st) (defBody st) (defScope st) .none kV doc pm an cdv ct) ⟨[v], []⟩ = pure [(x, v)])
    (hF : ∀ (base : Heap) (f : Addr) (fd : FuncData), Fun K "law" "law" st f fd → FnOk l.prog w K mg base CX0 k f fd [x] sp) :
    ∃ fd : FuncData, (∀ (s : Shared) (v : Value), BindsTo s fd ⟨[v], []⟩ [(x, v)]) ∧ ∀ base : Heap, K.In base → base.Ns mainGlobals mg → FnOk l.prog w K mg base CX0 k fa fd [x] sp := by
  obtain ⟨f, fd, F, hm⟩ := D.ex
  have e := hfa.symm.trans hm
  cases e
  refine ⟨fd, fun s v => ?_, fun base _ _ => hF base _ fd F⟩
  obtain ⟨oc, od, kV, doc, pm, an, cdv, ct, osl, rfl, lk, hcd⟩ := F.ex
  exact .of_eq (hb kV doc pm an cdv ct v)
end
end Fo
namespace Fo
open PySem L2 FO
/-- all that the law leans on -/
structure All4 (K : PySem.W.Frag) (mg : Str → Option Value) (CT CM : Addr) : Prop where
  B : Bi mg
  lon : ∃ u, mg "LONGEST" = some u ∧ RelV (.int 2000) u
  mo : ∃ u, mg "MOST_ONES" = some u ∧ RelV (.int 3000) u
  T : ErC K mg "BadText" CT
  M : ErC K mg "BadOnes" CM
  d1 : Dn K mg "is_whole" sWhole
  d2 : Dn K mg "done" sDone
  d3 : Dn K mg "worth_of" sWorthOf
  d4 : Dn K mg "check_text" sCheckText
  d5 : Dn K mg "worth" sWorth
  d6 : Dn K mg "ones" sOnes
  d7 : Dn K mg "_law_number" sLawNumber
  d8 : Dn K mg "_law_whole" sLawWhole
  d9 : Dn K mg "_law_text" sLawText
  d10 : Dn K mg "_law_best" sLawBest
  d11 : Dn K mg "check_ones" sCheckOnes
  d12 : Dn K mg "greatest_of" sGreatestOf
  d13 : Dn K mg "greatest" sGreatest
theorem all4 {P : Program} {w : World} {K : PySem.W.Frag} {mg : Str → Option Value} {CT CM : Addr} (A : All4 K mg CT CM) (base : Heap) (f : Addr) (fd : FuncData) (F : Fun K "law" "law" sLaw f fd) : FnOk P w K mg base CX0 6 f fd pLaw (spLaw K) := by
  have k1 : Kp P w K mg base CX0 1 "is_whole" (spWhole K) := ok_whole A.d1 A.B
  have k2 := ok_done A.d2 A.B k1
  have k3 := ok_worthOf A.d3 A.B A.lon k1 k2
  have k4 := ok_checkText A.d4 A.T k3
  have k5 := ok_worth A.d5 k3 k4
  have k6 := ok_ones A.d6 k4
  have k11 := ok_checkOnes A.d11 A.M k1
  have k13 := ok_greatest A.d13 A.mo k11 (ok_greatestOf A.d12 A.B)
  exact fn_law F A.B (ok_number A.d7) (ok_text A.d9 A.B) (ok_lwhole A.d8 A.B) (ok_best A.d10 A.B) k5 k6 k13
end Fo
open PySem PySem.W PyProof.Rows in
set_option maxRecDepth 100000 in
set_option maxHeartbeats 0 in
theorem PySem.Challenge.cw_fewones_k04_whole_greatest_holds : PySem.Challenge.rw_fewones_k04_whole_greatest.Holds := by
  w_on; o_law; k_head; (case hw => w_witness2)
  k_fill
  refine L2.walk_ofB (l := PySem.Challenge.rw_fewones_k04_whole_greatest) (n := 63) (k := 6) (x := "_law_script") (CX := fun _ => L2.CX0) (sp := fun w => Fo.spLaw _) rfl (by decide) rfl ⟨rfl, by decide, by decide⟩
    (fun w h Y => PySem.W.kIn_of Y) ?F (fun _ _ a ns hl hb _ hS => ⟨a, ns, rfl, hS, hl, fun n hn => Fo.bits_lt (hb n hn), fun _ => rfl⟩) fun _ _ _ _ _ z => z
  case F =>
    intro w mg fa h KX G hmg
    replace hmg : mg "law" = some (.ref fa) := hmg
    refine' Fo.law_end (l := PySem.Challenge.rw_fewones_k04_whole_greatest) (st := Fo.sLaw) ?q_D hmg (fun _ _ _ _ _ _ _ => rfl) (Fo.all4 ?q_A)
    (case q_D => refine' Fo.dn_mk KX G ?a ?l ?c ?k; (case a => k_is); (case l => k_is); (case c => k_is); (case k => k_is))
    case q_A =>
    refine' ⟨?q_B, ?q_lon, ?q_mo, ?q_T, ?q_M, ?q_d1, ?q_d2, ?q_d3, ?q_d4, ?q_d5, ?q_d6, ?q_d7, ?q_d8, ?q_d9, ?q_d10, ?q_d11, ?q_d12, ?q_d13⟩
    (case q_B => refine' Fo.bi_mk KX G ?b_isi ?b_int ?b_bool ?b_str ?b_list ?b_len ?b_all ?b_range ?b_enum ?b_sum ?b_max ?b_sorted ?b_abs ?b_tuple ?b_any; (case b_isi => k_is); (case b_int => k_is); (case b_bool => k_is); (case b_str => k_is); (case b_list => k_is); (case b_len => k_is); (case b_all => k_is); (case b_range => k_is); (case b_enum => k_is); (case b_sum => k_is); (case b_max => k_is); (case b_sorted => k_is); (case b_abs => k_is); (case b_tuple => k_is); (case b_any => k_is))
    (case q_lon => refine' ⟨_, PySem.W.mg_of KX G ?z, ?y⟩; (case z => k_is); (case y => exact ⟨_, rfl⟩))
    (case q_mo => refine' ⟨_, PySem.W.mg_of KX G ?z, ?y⟩; (case z => k_is); (case y => exact ⟨_, rfl⟩))
    (case q_T => refine' Fo.er_mk KX G ?a ?x ?k ?b ?t; (case a => k_is); (case x => k_exc); (case k => k_is); (case b => k_is); (case t => k_is))
    (case q_M => refine' Fo.er_mk KX G ?a ?x ?k ?b ?t; (case a => k_is); (case x => k_exc); (case k => k_is); (case b => k_is); (case t => k_is))
    (case q_d1 => refine' Fo.dn_mk KX G ?a ?l ?c ?k; (case a => k_is); (case l => k_is); (case c => k_is); (case k => k_is))
    (case q_d2 => refine' Fo.dn_mk KX G ?a ?l ?c ?k; (case a => k_is); (case l => k_is); (case c => k_is); (case k => k_is))
    (case q_d3 => refine' Fo.dn_mk KX G ?a ?l ?c ?k; (case a => k_is); (case l => k_is); (case c => k_is); (case k => k_is))
    (case q_d4 => refine' Fo.dn_mk KX G ?a ?l ?c ?k; (case a => k_is); (case l => k_is); (case c => k_is); (case k => k_is))
    (case q_d5 => refine' Fo.dn_mk KX G ?a ?l ?c ?k; (case a => k_is); (case l => k_is); (case c => k_is); (case k => k_is))
    (case q_d6 => refine' Fo.dn_mk KX G ?a ?l ?c ?k; (case a => k_is); (case l => k_is); (case c => k_is); (case k => k_is))
    (case q_d7 => refine' Fo.dn_mk KX G ?a ?l ?c ?k; (case a => k_is); (case l => k_is); (case c => k_is); (case k => k_is))
    (case q_d8 => refine' Fo.dn_mk KX G ?a ?l ?c ?k; (case a => k_is); (case l => k_is); (case c => k_is); (case k => k_is))
    (case q_d9 => refine' Fo.dn_mk KX G ?a ?l ?c ?k; (case a => k_is); (case l => k_is); (case c => k_is); (case k => k_is))
    (case q_d10 => refine' Fo.dn_mk KX G ?a ?l ?c ?k; (case a => k_is); (case l => k_is); (case c => k_is); (case k => k_is))
    (case q_d11 => refine' Fo.dn_mk KX G ?a ?l ?c ?k; (case a => k_is); (case l => k_is); (case c => k_is); (case k => k_is))
    (case q_d12 => refine' Fo.dn_mk KX G ?a ?l ?c ?k; (case a => k_is); (case l => k_is); (case c => k_is); (case k => k_is))
    (case q_d13 => refine' Fo.dn_mk KX G ?a ?l ?c ?k; (case a => k_is); (case l => k_is); (case c => k_is); (case k => k_is))
#print axioms PySem.Challenge.cw_fewones_k04_whole_greatest_holds
