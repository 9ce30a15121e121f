import PyProof.Rows.All
import Wide.All
import OpenK.AllK
import Wide.FinOn
import HandS.ForMost
import HandS.ForExc
import HandS.IsInst
import HandS.ExcIs
import HandS.CallLocal
import HandS.WideBits
import HandS.Walk
import HandS.Codes
import HandS.Style
import HandS.EndBits
import HandS.Conv
import HandS.SortInts
import HandS.Lambda
import HandS.EndTab
import HandS.HotCalls
import HandS.Deep
import HandS.ExcCtx
import PySem.Challenge.RW_fewones_k09_handed_stays
set_option Elab.async false
set_option linter.all false
set_option maxRecDepth 100000
set_option maxHeartbeats 2000000
set_option linter.all false
namespace FO
/-! The stack machine: what stands on the stack is a number or a sign; the top of the stack is the head of the list. -/
abbrev Itm := Sum Int Nat
def doneS : List Itm → Option (List Itm)
  | .inl b :: .inr s :: .inl a :: .inr o :: r => if o = 40 then (if s = 43 then some (.inl (a + b) :: r) else if s = 42 then some (.inl (a * b) :: r) else none) else none
  | _ => none
def stepS (S : List Itm) (c : Nat) : Option (List Itm) :=
  if c = 49 then some (.inl 1 :: S) else if c = 41 then doneS S else if c = 40 ∨ c = 43 ∨ c = 42 then some (.inr c :: S) else none
def runS : List Itm → List Nat → Option (List Itm)
  | S, [] => some S
  | S, c :: t => match stepS S c with
    | some S' => runS S' t
    | none => none
def endS : Option (List Itm) → Int
  | some [.inl n] => n
  | _ => 0
def readL (t : List Nat) : Int := endS (runS [] t)
def worthL (t : List Nat) : Int := if t.length ≤ 2000 then readL t else 0
/-- bits of the numbers on the stack -/
def phi : List Itm → Nat
  | [] => 0
  | .inl n :: r => n.natAbs.log2 + 1 + phi r
  | .inr _ :: r => phi r
theorem lt_pow_log2 (n : Nat) : n < 2 ^ (n.log2 + 1) := Nat.lt_log2_self
theorem log2_add (a b : Int) : (a + b).natAbs.log2 + 1 ≤ a.natAbs.log2 + 1 + (b.natAbs.log2 + 1) := by
  by_cases h0 : (a + b).natAbs = 0
  · rw [h0, Nat.log2_zero]; omega
  · have h1 := lt_pow_log2 a.natAbs
    have h2 := lt_pow_log2 b.natAbs
    have h3 : (a + b).natAbs < 2 ^ (a.natAbs.log2 + 1 + b.natAbs.log2 + 1) := by
      have e1 : 2 ^ (a.natAbs.log2 + 1) ≤ 2 ^ (a.natAbs.log2 + 1 + b.natAbs.log2) := Nat.pow_le_pow_right (by decide) (by omega)
      have e2 : 2 ^ (b.natAbs.log2 + 1) ≤ 2 ^ (a.natAbs.log2 + 1 + b.natAbs.log2) := Nat.pow_le_pow_right (by decide) (by omega)
      have e3 : 2 ^ (a.natAbs.log2 + 1 + b.natAbs.log2 + 1) = 2 ^ (a.natAbs.log2 + 1 + b.natAbs.log2) * 2 := Nat.pow_succ ..
      have := Int.natAbs_add_le a b
      omega
    have h4 := (Nat.log2_lt h0).mpr h3
    omega
theorem log2_mul (a b : Int) : (a * b).natAbs.log2 + 1 ≤ a.natAbs.log2 + 1 + (b.natAbs.log2 + 1) := by
  by_cases h0 : (a * b).natAbs = 0
  · rw [h0, Nat.log2_zero]; omega
  · have h1 := lt_pow_log2 a.natAbs
    have h2 := lt_pow_log2 b.natAbs
    have h3 : (a * b).natAbs < 2 ^ (a.natAbs.log2 + 1 + (b.natAbs.log2 + 1)) := by
      rw [Int.natAbs_mul, Nat.pow_add]
      exact Nat.mul_lt_mul'' h1 h2
    have h4 := (Nat.log2_lt h0).mpr h3
    omega
theorem phi_done {S S' : List Itm} (h : doneS S = some S') : phi S' ≤ phi S := by
  unfold doneS at h
  split at h
  · rename_i b s a o r
    split at h
    · split at h
      · cases h; have := log2_add a b; simp only [phi]; omega
      · split at h
        · cases h; have := log2_mul a b; simp only [phi]; omega
        · cases h
    · cases h
  · cases h
theorem len_done {S S' : List Itm} (h : doneS S = some S') : S'.length ≤ S.length := by
  unfold doneS at h
  split at h
  · split at h
    · split at h
      · cases h; simp only [List.length_cons]; omega
      · split at h
        · cases h; simp only [List.length_cons]; omega
        · cases h
    · cases h
  · cases h
theorem phi_step {S S' : List Itm} {c : Nat} (h : stepS S c = some S') : phi S' ≤ phi S + 1 := by
  unfold stepS at h
  split at h
  · cases h; simp only [phi]; have : (1 : Int).natAbs.log2 = 0 := by decide
    omega
  · split at h
    · have := phi_done h; omega
    · split at h
      · cases h; simp only [phi]; omega
      · cases h
theorem len_step {S S' : List Itm} {c : Nat} (h : stepS S c = some S') : S'.length ≤ S.length + 1 := by
  unfold stepS at h
  split at h
  · cases h; simp
  · split at h
    · have := len_done h; omega
    · split at h
      · cases h; simp
      · cases h
theorem runS_append : ∀ (t u : List Nat) (S : List Itm), runS S (t ++ u) = (match runS S t with | some S' => runS S' u | none => none)
  | [], u, S => rfl
  | c :: t, u, S => by
    show (match stepS S c with | some S' => runS S' (t ++ u) | none => none) = _
    show _ = (match (match stepS S c with | some S' => runS S' t | none => none) with | some S' => runS S' u | none => none)
    cases stepS S c with
    | none => rfl
    | some S' => exact runS_append t u S'
theorem phi_run : ∀ (t : List Nat) (S S' : List Itm), runS S t = some S' → phi S' ≤ phi S + t.length
  | [], S, S', h => by cases h; simp
  | c :: t, S, S', h => by
    unfold runS at h
    split at h
    · rename_i S1 e
      have h1 := phi_step e
      have h2 := phi_run t S1 S' h
      simp only [List.length_cons]; omega
    · cases h
theorem len_run : ∀ (t : List Nat) (S S' : List Itm), runS S t = some S' → S'.length ≤ S.length + t.length
  | [], S, S', h => by cases h; simp
  | c :: t, S, S', h => by
    unfold runS at h
    split at h
    · rename_i S1 e
      have h1 := len_step e
      have h2 := len_run t S1 S' h
      simp only [List.length_cons]; omega
    · cases h
theorem run_snoc {t : List Nat} {c : Nat} {S : List Itm} (h : runS [] t = some S) : runS [] (t ++ [c]) = stepS S c := by
  rw [runS_append, h]
  show (match stepS S c with | some S' => runS S' [] | none => none) = stepS S c
  cases stepS S c <;> rfl
/-- a writing bears on any stack -/
theorem run_frame : ∀ (t : List Nat) (S S' R : List Itm), runS S t = some S' → runS (S ++ R) t = some (S' ++ R)
  | [], S, S', R, h => by cases h; rfl
  | c :: t, S, S', R, h => by
    unfold runS at h
    split at h
    · rename_i S1 e
      have e2 : stepS (S ++ R) c = some (S1 ++ R) := by
        unfold stepS at e ⊢
        split at e
        · cases e; rename_i hc; rw [if_pos hc]; rfl
        · rename_i hc; rw [if_neg hc]
          split at e
          · rename_i hc2; rw [if_pos hc2]
            unfold doneS at e
            split at e
            · show (if _ = 40 then _ else _) = _
              split at e
              · rename_i ho; rw [if_pos ho]
                split at e
                · rename_i hs; cases e; rw [if_pos hs]; rfl
                · rename_i hs; rw [if_neg hs]
                  split at e
                  · rename_i hs2; cases e; rw [if_pos hs2]; rfl
                  · cases e
              · cases e
            · cases e
          · rename_i hc2; rw [if_neg hc2]
            split at e
            · rename_i hc3; cases e; rw [if_pos hc3]; rfl
            · cases e
      unfold runS
      rw [e2]
      exact run_frame t S1 S' R h
    · cases h
/-- the number that a text is, as it is read on an empty stack -/
def Reads (t : List Nat) (n : Int) : Prop := runS [] t = some [.inl n]
theorem Reads.one : Reads [49] 1 := rfl
theorem Reads.on {t : List Nat} {n : Int} (h : Reads t n) (R : List Itm) : runS R t = some (.inl n :: R) := run_frame t [] [.inl n] R h
theorem Reads.plus {t u : List Nat} {m n : Int} (h : Reads t m) (k : Reads u n) : Reads (40 :: (t ++ 43 :: (u ++ [41]))) (m + n) := by
  show runS [.inr 40] (t ++ 43 :: (u ++ [41])) = _
  rw [runS_append, h.on]
  show runS [.inr 43, .inl m, .inr 40] (u ++ [41]) = _
  rw [runS_append, k.on]
  rfl
theorem Reads.times {t u : List Nat} {m n : Int} (h : Reads t m) (k : Reads u n) : Reads (40 :: (t ++ 42 :: (u ++ [41]))) (m * n) := by
  show runS [.inr 40] (t ++ 42 :: (u ++ [41])) = _
  rw [runS_append, h.on]
  show runS [.inr 42, .inl m, .inr 40] (u ++ [41]) = _
  rw [runS_append, k.on]
  rfl
theorem Reads.read {t : List Nat} {n : Int} (h : Reads t n) : readL t = n := by
  unfold readL; rw [h]; rfl
theorem Reads.worth {t : List Nat} {n : Int} (h : Reads t n) (hl : t.length ≤ 2000) : worthL t = n := by
  unfold worthL; rw [if_pos hl]; exact h.read
end FO
set_option linter.all false
namespace FO
/-! The fewest ones of 0 .. 200, five bits each. -/
def T : Nat := 0x108c2308420f8c1f18c2108420f94630842307c20f8c1ef7ba0f8420f841ef83e0f7bdee8420f83e0f741ef83dee7b9ef7bdee7bdcf7b9ee739cd83dce7b9ee739cd73dce735ee739cd7358d735cd6b5ac735cd735ac635ac7358c62dac6318b6b16c62d8b5ad6a5ad6a5a96a4a9495a9294a1284210741cc6314a418820
def F (n : Nat) : Nat := (T >>> (5 * n)) % 32
/-- a state of the inner loop: the best so far, the sign, the two parts -/
abbrev Wy := Nat × Nat × Nat × Nat
def innerA (n : Nat) (st : Wy) (o : Nat) : Wy := if F o + F (n - o) < st.1 then (F o + F (n - o), 43, o, n - o) else st
def innerB (n : Nat) (st : Wy) (o : Nat) : Wy := if n % o = 0 ∧ F o + F (n / o) < st.1 then (F o + F (n / o), 42, o, n / o) else st
def innerT (n : Nat) (st : Wy) (o : Nat) : Wy := innerB n (innerA n st o) o
def bestAt (n k : Nat) : Wy := (List.range' 2 k).foldl (innerT n) (F 1 + F (n - 1), 43, 1, n - 1)
def best (n : Nat) : Wy := bestAt n (n / 2 - 1)
theorem bestAt_zero (n : Nat) : bestAt n 0 = (F 1 + F (n - 1), 43, 1, n - 1) := rfl
theorem bestAt_succ (n k : Nat) : bestAt n (k + 1) = innerT n (bestAt n k) (2 + k) := by
  unfold bestAt
  rw [List.range'_concat, List.foldl_append, Nat.one_mul]
  rfl
def okAt (n : Nat) : Bool := let w := best n
  w.1 == F n && decide (1 ≤ w.2.2.1) && decide (w.2.2.1 < n) && decide (1 ≤ w.2.2.2) && decide (w.2.2.2 < n) && F n == F w.2.2.1 + F w.2.2.2 &&
    ((w.2.1 == 43 && w.2.2.1 + w.2.2.2 == n) || (w.2.1 == 42 && w.2.2.1 * w.2.2.2 == n))
theorem ok_all : ((List.range 199).all fun i => okAt (i + 2)) = true := by decide +kernel
structure BestOk (n : Nat) : Prop where
  val : (best n).1 = F n
  a1 : 1 ≤ (best n).2.2.1
  a2 : (best n).2.2.1 < n
  b1 : 1 ≤ (best n).2.2.2
  b2 : (best n).2.2.2 < n
  sum : F n = F (best n).2.2.1 + F (best n).2.2.2
  how : ((best n).2.1 = 43 ∧ (best n).2.2.1 + (best n).2.2.2 = n) ∨ ((best n).2.1 = 42 ∧ (best n).2.2.1 * (best n).2.2.2 = n)
theorem best_ok {n : Nat} (h2 : 2 ≤ n) (h : n ≤ 200) : BestOk n := by
  have q := List.all_eq_true.mp ok_all (n - 2) (List.mem_range.mpr (by omega))
  have e : n - 2 + 2 = n := by omega
  rw [e] at q
  unfold okAt at q
  simp only [Bool.and_eq_true, Bool.or_eq_true, beq_iff_eq, decide_eq_true_eq] at q
  obtain ⟨⟨⟨⟨⟨⟨q1, q2⟩, q3⟩, q4⟩, q5⟩, q6⟩, q7⟩ := q
  exact ⟨q1, q2, q3, q4, q5, q6, q7⟩
theorem F_zero : F 0 = 0 := by decide +kernel
theorem F_one : F 1 = 1 := by decide +kernel
theorem F_bd_all : ((List.range 201).all fun n => decide (F n ≤ 18) && (n == 0 || decide (1 ≤ F n))) = true := by decide +kernel
theorem F_le {n : Nat} (h : n ≤ 200) : F n ≤ 18 := by
  have q := List.all_eq_true.mp F_bd_all n (List.mem_range.mpr (by omega))
  simp only [Bool.and_eq_true, decide_eq_true_eq] at q
  exact q.1
theorem F_pos {n : Nat} (h1 : 1 ≤ n) (h : n ≤ 200) : 1 ≤ F n := by
  have q := List.all_eq_true.mp F_bd_all n (List.mem_range.mpr (by omega))
  simp only [Bool.and_eq_true, Bool.or_eq_true, decide_eq_true_eq, beq_iff_eq] at q
  rcases q.2 with z | z
  · omega
  · exact z
def flAt (a b : Nat) : Bool := (decide (200 < a + b) || decide (F (a + b) ≤ F a + F b)) && (decide (200 < a * b) || decide (F (a * b) ≤ F a + F b))
theorem fl_all : ((List.range 200).all fun a => (List.range 200).all fun b => flAt (a + 1) (b + 1)) = true := by decide +kernel
theorem F_add {a b : Nat} (ha : 1 ≤ a) (hb : 1 ≤ b) (h : a + b ≤ 200) : F (a + b) ≤ F a + F b := by
  have q := List.all_eq_true.mp (List.all_eq_true.mp fl_all (a - 1) (List.mem_range.mpr (by omega))) (b - 1) (List.mem_range.mpr (by omega))
  have e1 : a - 1 + 1 = a := by omega
  have e2 : b - 1 + 1 = b := by omega
  rw [e1, e2] at q
  unfold flAt at q
  simp only [Bool.and_eq_true, Bool.or_eq_true, decide_eq_true_eq] at q
  rcases q.1 with z | z
  · omega
  · exact z
theorem F_mul {a b : Nat} (ha : 1 ≤ a) (hb : 1 ≤ b) (h : a * b ≤ 200) : F (a * b) ≤ F a + F b := by
  have h1 : a ≤ a * b := Nat.le_mul_of_pos_right a hb
  have h2 : b ≤ a * b := Nat.le_mul_of_pos_left b ha
  have q := List.all_eq_true.mp (List.all_eq_true.mp fl_all (a - 1) (List.mem_range.mpr (by omega))) (b - 1) (List.mem_range.mpr (by omega))
  have e1 : a - 1 + 1 = a := by omega
  have e2 : b - 1 + 1 = b := by omega
  rw [e1, e2] at q
  unfold flAt at q
  simp only [Bool.and_eq_true, Bool.or_eq_true, decide_eq_true_eq] at q
  rcases q.2 with z | z
  · omega
  · exact z

/-! The greatest number of so many ones. -/
def cG (m : Nat) : Nat := if m % 3 = 0 then 3 else if m % 3 = 1 then 4 else 2
def gr (m : Nat) : Nat := if m = 1 then 1 else cG m * 3 ^ ((m - cG m) / 3)
theorem gr1 : gr 1 = 1 := rfl
theorem gr_0 (q : Nat) : gr (3 * q + 3) = 3 * 3 ^ q := by
  have h1 : (3 * q + 3) % 3 = 0 := by omega
  have h2 : (3 * q + 3 - 3) / 3 = q := by omega
  unfold gr cG
  rw [if_neg (by omega), if_pos h1, h2]
theorem gr_1 (q : Nat) : gr (3 * q + 4) = 4 * 3 ^ q := by
  have h0 : ¬ (3 * q + 4) % 3 = 0 := by omega
  have h1 : (3 * q + 4) % 3 = 1 := by omega
  have h2 : (3 * q + 4 - 4) / 3 = q := by omega
  unfold gr cG
  rw [if_neg (by omega), if_neg h0, if_pos h1, h2]
theorem gr_2 (q : Nat) : gr (3 * q + 2) = 2 * 3 ^ q := by
  have h0 : ¬ (3 * q + 2) % 3 = 0 := by omega
  have h1 : ¬ (3 * q + 2) % 3 = 1 := by omega
  have h2 : (3 * q + 2 - 2) / 3 = q := by omega
  unfold gr cG
  rw [if_neg (by omega), if_neg h0, if_neg h1, h2]
theorem gr_cases {m : Nat} (h : 2 ≤ m) : ∃ q, m = 3 * q + 3 ∨ m = 3 * q + 4 ∨ m = 3 * q + 2 := by
  have : m % 3 = 0 ∨ m % 3 = 1 ∨ m % 3 = 2 := by omega
  rcases this with z | z | z
  · exact ⟨m / 3 - 1, .inl (by omega)⟩
  · exact ⟨m / 3 - 1, .inr (.inl (by omega))⟩
  · exact ⟨m / 3, .inr (.inr (by omega))⟩
theorem gr_add3 {m : Nat} (h : 2 ≤ m) : gr (m + 3) = 3 * gr m := by
  obtain ⟨q, rfl | rfl | rfl⟩ := gr_cases h
  · rw [show 3 * q + 3 + 3 = 3 * (q + 1) + 3 by omega, gr_0, gr_0, Nat.pow_succ]; omega
  · rw [show 3 * q + 4 + 3 = 3 * (q + 1) + 4 by omega, gr_1, gr_1, Nat.pow_succ]; omega
  · rw [show 3 * q + 2 + 3 = 3 * (q + 1) + 2 by omega, gr_2, gr_2, Nat.pow_succ]; omega
theorem pow3_pos (q : Nat) : 1 ≤ 3 ^ q := Nat.pow_pos (by decide)
theorem gr_lt {m : Nat} (h : 1 ≤ m) : gr m < gr (m + 1) := by
  by_cases h1 : m = 1
  · subst h1; decide
  obtain ⟨q, rfl | rfl | rfl⟩ := gr_cases (show 2 ≤ m by omega)
  · rw [gr_0, show 3 * q + 3 + 1 = 3 * q + 4 by omega, gr_1]; have := pow3_pos q; omega
  · rw [gr_1, show 3 * q + 4 + 1 = 3 * (q + 1) + 2 by omega, gr_2, Nat.pow_succ]; have := pow3_pos q; omega
  · rw [gr_2, show 3 * q + 2 + 1 = 3 * q + 3 by omega, gr_0]; have := pow3_pos q; omega
theorem gr_pos {m : Nat} (h : 1 ≤ m) : 1 ≤ gr m := by
  by_cases h1 : m = 1
  · subst h1; decide
  obtain ⟨q, rfl | rfl | rfl⟩ := gr_cases (show 2 ≤ m by omega)
  · rw [gr_0]; have := pow3_pos q; omega
  · rw [gr_1]; have := pow3_pos q; omega
  · rw [gr_2]; have := pow3_pos q; omega
theorem gr_ge2 {m : Nat} (h : 2 ≤ m) : 2 ≤ gr m := by
  obtain ⟨q, rfl | rfl | rfl⟩ := gr_cases h
  · rw [gr_0]; have := pow3_pos q; omega
  · rw [gr_1]; have := pow3_pos q; omega
  · rw [gr_2]; have := pow3_pos q; omega
theorem mul_swap (c d x y : Nat) : c * x * (d * y) = c * d * (x * y) := by
  rw [Nat.mul_assoc, Nat.mul_left_comm x, ← Nat.mul_assoc]
theorem gr_mul {a b : Nat} (ha : 1 ≤ a) (hb : 1 ≤ b) : gr a * gr b ≤ gr (a + b) := by
  by_cases a1 : a = 1
  · subst a1; rw [gr1, Nat.one_mul, Nat.add_comm]; exact Nat.le_of_lt (gr_lt hb)
  by_cases b1 : b = 1
  · subst b1; rw [gr1, Nat.mul_one]; exact Nat.le_of_lt (gr_lt ha)
  obtain ⟨p, hp⟩ := gr_cases (show 2 ≤ a by omega)
  obtain ⟨q, hq⟩ := gr_cases (show 2 ≤ b by omega)
  have hpq := pow3_pos (p + q)
  have e : 3 ^ p * 3 ^ q = 3 ^ (p + q) := (Nat.pow_add 3 p q).symm
  have f1 : 3 ^ (p + q + 1) = 3 ^ (p + q) * 3 := Nat.pow_succ ..
  have f2 : 3 ^ (p + q + 2) = 3 ^ (p + q) * 3 * 3 := by rw [Nat.pow_succ, Nat.pow_succ]
  rcases hp with rfl | rfl | rfl <;> rcases hq with rfl | rfl | rfl
  · rw [gr_0, gr_0, show 3 * p + 3 + (3 * q + 3) = 3 * (p + q + 1) + 3 by omega, gr_0, f1, mul_swap, e]; omega
  · rw [gr_0, gr_1, show 3 * p + 3 + (3 * q + 4) = 3 * (p + q + 1) + 4 by omega, gr_1, f1, mul_swap, e]; omega
  · rw [gr_0, gr_2, show 3 * p + 3 + (3 * q + 2) = 3 * (p + q + 1) + 2 by omega, gr_2, f1, mul_swap, e]; omega
  · rw [gr_1, gr_0, show 3 * p + 4 + (3 * q + 3) = 3 * (p + q + 1) + 4 by omega, gr_1, f1, mul_swap, e]; omega
  · rw [gr_1, gr_1, show 3 * p + 4 + (3 * q + 4) = 3 * (p + q + 2) + 2 by omega, gr_2, f2, mul_swap, e]; omega
  · rw [gr_1, gr_2, show 3 * p + 4 + (3 * q + 2) = 3 * (p + q + 1) + 3 by omega, gr_0, f1, mul_swap, e]; omega
  · rw [gr_2, gr_0, show 3 * p + 2 + (3 * q + 3) = 3 * (p + q + 1) + 2 by omega, gr_2, f1, mul_swap, e]; omega
  · rw [gr_2, gr_1, show 3 * p + 2 + (3 * q + 4) = 3 * (p + q + 1) + 3 by omega, gr_0, f1, mul_swap, e]; omega
  · rw [gr_2, gr_2, show 3 * p + 2 + (3 * q + 2) = 3 * (p + q) + 4 by omega, gr_1, mul_swap, e]; omega
theorem gr_add {a b : Nat} (ha : 1 ≤ a) (hb : 1 ≤ b) : gr a + gr b ≤ gr (a + b) := by
  by_cases a1 : a = 1
  · subst a1; rw [gr1, Nat.add_comm 1 b]; have := gr_lt hb; omega
  by_cases b1 : b = 1
  · subst b1; rw [gr1]; have := gr_lt ha; omega
  have h1 := gr_ge2 (show 2 ≤ a by omega)
  have h2 := gr_ge2 (show 2 ≤ b by omega)
  refine Nat.le_trans ?_ (gr_mul ha hb)
  generalize gr a = x at h1 ⊢
  generalize gr b = y at h2 ⊢
  obtain ⟨x', rfl⟩ : ∃ x', x = x' + 2 := ⟨x - 2, by omega⟩
  obtain ⟨y', rfl⟩ : ∃ y', y = y' + 2 := ⟨y - 2, by omega⟩
  rw [Nat.add_mul, Nat.mul_add]
  omega

/-! Writings: the text, its worth, its ones. -/
inductive Wr : List Nat → Int → Nat → Prop where
  | one : Wr [49] 1 1
  | plus {t u : List Nat} {m n : Int} {j k : Nat} (h : Wr t m j) (g : Wr u n k) : Wr (40 :: (t ++ 43 :: (u ++ [41]))) (m + n) (j + k)
  | times {t u : List Nat} {m n : Int} {j k : Nat} (h : Wr t m j) (g : Wr u n k) : Wr (40 :: (t ++ 42 :: (u ++ [41]))) (m * n) (j + k)
theorem Wr.reads {t : List Nat} {n : Int} {k : Nat} (h : Wr t n k) : Reads t n := by
  induction h with
  | one => exact .one
  | plus _ _ a b => exact a.plus b
  | times _ _ a b => exact a.times b
theorem Wr.count {t : List Nat} {n : Int} {k : Nat} (h : Wr t n k) : t.count 49 = k := by
  induction h with
  | one => rfl
  | plus _ _ a b => simp [List.count_cons, List.count_append, a, b]
  | times _ _ a b => simp [List.count_cons, List.count_append, a, b]
theorem Wr.len {t : List Nat} {n : Int} {k : Nat} (h : Wr t n k) : t.length + 3 = 4 * k := by
  induction h with
  | one => rfl
  | plus _ _ a b => simp only [List.length_cons, List.length_append, List.length_nil]; omega
  | times _ _ a b => simp only [List.length_cons, List.length_append, List.length_nil]; omega
theorem Wr.pos {t : List Nat} {n : Int} {k : Nat} (h : Wr t n k) : 1 ≤ n ∧ 1 ≤ k := by
  induction h with
  | one => exact ⟨by decide, by decide⟩
  | plus _ _ a b => exact ⟨by omega, by omega⟩
  | times _ _ a b => exact ⟨Int.le_trans a.1 (by have := Int.mul_le_mul_of_nonneg_left b.1 (show (0 : Int) ≤ _ from Int.le_trans (by decide) a.1); rwa [Int.mul_one] at this), by omega⟩
theorem Wr.le {t : List Nat} {n : Int} {k : Nat} (h : Wr t n k) : n ≤ (gr k : Int) := by
  induction h with
  | one => exact Int.le_refl _
  | plus h g a b => have := gr_add h.pos.2 g.pos.2; omega
  | @times t u m n j k h g a b =>
    have h1 := gr_mul h.pos.2 g.pos.2
    have h2 : m * n ≤ (gr j : Int) * (gr k : Int) := Int.mul_le_mul a b (by have := g.pos.1; omega) (by omega)
    have h3 : (gr j : Int) * (gr k : Int) ≤ (gr (j + k) : Int) := by exact_mod_cast h1
    omega
theorem Wr.worth {t : List Nat} {n : Int} {k : Nat} (h : Wr t n k) (hk : k ≤ 500) : worthL t = n := h.reads.worth (by have := h.len; omega)
end FO
set_option linter.all false
namespace FO
/-! Floors. -/
def fg (ns : List Int) (k : Nat) : Int := ns.getD (k - 1) 0
def Viol (ns : List Int) (a b : Nat) : Prop := (a + b ≤ ns.length ∧ fg ns (a + b) > fg ns a + fg ns b) ∨ (a * b ≤ ns.length ∧ fg ns (a * b) > fg ns a + fg ns b)
instance (ns : List Int) (a b : Nat) : Decidable (Viol ns a b) := by unfold Viol; infer_instance
def IsFloor (ns : List Int) : Prop := fg ns 1 ≤ 1 ∧ ∀ a b, 1 ≤ a → a ≤ ns.length → 1 ≤ b → b ≤ ns.length → ¬ Viol ns a b
theorem Viol.symm {ns : List Int} {a b : Nat} (h : Viol ns a b) : Viol ns b a := by
  unfold Viol at h ⊢
  rw [Nat.add_comm b a, Nat.mul_comm b a, Int.add_comm (fg ns b)]
  exact h
theorem floor_half {ns : List Int} (h1 : fg ns 1 ≤ 1) (h : ∀ a b, 1 ≤ a → a ≤ b → b ≤ ns.length → ¬ Viol ns a b) : IsFloor ns := by
  refine ⟨h1, fun a b a1 a2 b1 b2 v => ?_⟩
  by_cases c : a ≤ b
  · exact h a b a1 c b2 v
  · exact h b a b1 (by omega) a2 v.symm
def floorB (ns : List Int) : Bool := decide (fg ns 1 ≤ 1) && (List.range ns.length).all fun i => (List.range ns.length).all fun j => !decide (Viol ns (i + 1) (j + 1))
theorem floorB_iff (ns : List Int) : floorB ns = true ↔ IsFloor ns := by
  unfold floorB
  rw [Bool.and_eq_true, decide_eq_true_eq, List.all_eq_true]
  constructor
  · rintro ⟨h1, h⟩
    refine ⟨h1, fun a b a1 a2 b1 b2 => ?_⟩
    have q := List.all_eq_true.mp (h (a - 1) (List.mem_range.mpr (by omega))) (b - 1) (List.mem_range.mpr (by omega))
    rw [show a - 1 + 1 = a by omega, show b - 1 + 1 = b by omega] at q
    simpa using q
  · rintro ⟨h1, h⟩
    refine ⟨h1, fun i hi => List.all_eq_true.mpr fun j hj => ?_⟩
    have hi := List.mem_range.mp hi
    have hj := List.mem_range.mp hj
    have q := h (i + 1) (j + 1) (by omega) (by omega) (by omega) (by omega)
    simpa using q
instance (ns : List Int) : Decidable (IsFloor ns) := decidable_of_iff _ (floorB_iff ns)
/-- the told floor of n -/
def fl1 (n : Nat) : List Int := (List.range n).map fun j => ((F (j + 1) : Nat) : Int)
theorem fl1_len (n : Nat) : (fl1 n).length = n := by simp [fl1]
theorem fl1_fg {n k : Nat} (h1 : 1 ≤ k) (h : k ≤ n) : fg (fl1 n) k = ((F k : Nat) : Int) := by
  unfold fg fl1
  rw [List.getD_eq_getElem?_getD, List.getElem?_map, List.getElem?_range (by omega)]
  show ((F (k - 1 + 1) : Nat) : Int) = _
  rw [show k - 1 + 1 = k by omega]
theorem fl1_floor {n : Nat} (h1 : 1 ≤ n) (h : n ≤ 200) : IsFloor (fl1 n) := by
  refine ⟨by rw [fl1_fg (by omega) h1, F_one]; decide, fun a b a1 a2 b1 b2 v => ?_⟩
  rw [fl1_len] at a2 b2
  rcases v with ⟨c, d⟩ | ⟨c, d⟩
  · rw [fl1_len] at c
    rw [fl1_fg (by omega) c, fl1_fg a1 a2, fl1_fg b1 b2] at d
    have := F_add a1 b1 (show a + b ≤ 200 by omega)
    omega
  · rw [fl1_len] at c
    have p : 1 ≤ a * b := Nat.mul_pos a1 b1
    rw [fl1_fg p c, fl1_fg a1 a2, fl1_fg b1 b2] at d
    have := F_mul a1 b1 (show a * b ≤ 200 by omega)
    omega
/-- what an answer (a text's codes, a floor) shows of n -/
def Shows (t : List Nat) (ns : List Int) (n : Int) : Prop := worthL t = n ∧ (ns.length : Int) = n ∧ IsFloor ns ∧ fg ns ns.length = (t.count 49 : Nat)
instance (t : List Nat) (ns : List Int) (n : Int) : Decidable (Shows t ns n) := by unfold Shows; infer_instance
theorem told_shows {t : List Nat} {n : Nat} (h1 : 1 ≤ n) (h : n ≤ 200) (wr : Wr t (n : Nat) (F n)) : Shows t (fl1 n) (n : Nat) := by
  have f := F_le h
  refine ⟨wr.worth (by omega), by rw [fl1_len], fl1_floor h1 h, ?_⟩
  rw [fl1_len, fl1_fg h1 (Nat.le_refl _), wr.count]
end FO
set_option linter.all false
namespace FO
/-! The numbers to so much with just c ones at the fewest, rising. -/
def cls (most c : Nat) : List Int := ((List.range most).filter fun a => F (1 + a) == c).map fun a => ((1 + a : Nat) : Int)
theorem cls_mem {most c : Nat} {x : Int} : x ∈ cls most c ↔ ∃ n : Nat, x = (n : Int) ∧ 1 ≤ n ∧ n ≤ most ∧ F n = c := by
  unfold cls
  rw [List.mem_map]
  constructor
  · rintro ⟨a, ha, rfl⟩
    obtain ⟨h1, h2⟩ := List.mem_filter.mp ha
    have := List.mem_range.mp h1
    exact ⟨1 + a, rfl, by omega, by omega, by simpa using h2⟩
  · rintro ⟨n, rfl, h1, h2, h3⟩
    refine ⟨n - 1, List.mem_filter.mpr ⟨List.mem_range.mpr (by omega), ?_⟩, ?_⟩
    · rw [show 1 + (n - 1) = n by omega]
      simpa using h3
    · rw [show 1 + (n - 1) = n by omega]
theorem cls_lt (most c : Nat) : (cls most c).Pairwise (· < ·) := by
  unfold cls
  refine List.Pairwise.map (R := (· < ·)) _ (fun a b h => by omega) ?_
  exact List.Pairwise.filter _ List.pairwise_lt_range
theorem cls_le (most c : Nat) : (cls most c).Pairwise (· ≤ ·) := (cls_lt most c).imp fun h => by omega
theorem cls_nodup (most c : Nat) : (cls most c).Nodup := (cls_lt most c).imp fun h => by omega
theorem cls_len (most c : Nat) : (cls most c).length ≤ most := by
  unfold cls
  rw [List.length_map]
  exact Nat.le_trans (List.length_filter_le _ _) (by rw [List.length_range]; exact Nat.le_refl _)
/-- a list without repetition of just these numbers, sorted -/
theorem cls_of {most c : Nat} {xs ys : List Int} (hn : xs.Nodup) (hm : ∀ x, x ∈ xs ↔ x ∈ cls most c) (hp : ys.Perm xs) (hs : ys.Pairwise (· ≤ ·)) : ys = cls most c := by
  have p : ys.Perm (cls most c) := hp.trans ((List.perm_ext_iff_of_nodup hn (cls_nodup most c)).mpr hm)
  exact p.eq_of_pairwise (fun a b _ _ h1 h2 => by omega) hs (cls_le most c)
/-- what one turn of the law's loops comes to -/
theorem cls_step {most c : Nat} (hm : most ≤ 200) {a b t : Int} {o : Nat} (ho : o ≤ c) (ha : a ∈ cls most o) (hb : b ∈ cls most (c - o)) (ht : t = a + b ∨ t = a * b) (hl : t ≤ (most : Int)) : ∃ n : Nat, t = (n : Int) ∧ 1 ≤ n ∧ n ≤ most ∧ F n ≤ c := by
  obtain ⟨x, rfl, x1, x2, x3⟩ := cls_mem.mp ha
  obtain ⟨y, rfl, y1, y2, y3⟩ := cls_mem.mp hb
  rcases ht with rfl | rfl
  · refine ⟨x + y, by omega, by omega, by omega, ?_⟩
    have := F_add x1 y1 (show x + y ≤ 200 by omega)
    omega
  · have e : (x : Int) * (y : Int) = ((x * y : Nat) : Int) := by rw [Int.natCast_mul]
    rw [e] at hl ⊢
    refine ⟨x * y, rfl, Nat.mul_pos x1 y1, by omega, ?_⟩
    have := F_mul x1 y1 (show x * y ≤ 200 by omega)
    omega
theorem cls_split {most c n : Nat} (hm : most ≤ 200) (hc : 2 ≤ c) (h1 : 1 ≤ n) (h2 : n ≤ most) (h : F n = c) : ∃ (o : Nat) (a b : Int), 1 ≤ o ∧ o ≤ c / 2 ∧ a ∈ cls most o ∧ b ∈ cls most (c - o) ∧ ((n : Int) = a + b ∨ (n : Int) = a * b) := by
  have hn : 2 ≤ n := by
    have : n ≠ 1 := fun e => by rw [e, F_one] at h; omega
    omega
  have bo := best_ok hn (show n ≤ 200 by omega)
  have pa := F_pos bo.a1 (show (best n).2.2.1 ≤ 200 by have := bo.a2; omega)
  have pb := F_pos bo.b1 (show (best n).2.2.2 ≤ 200 by have := bo.b2; omega)
  have sm := bo.sum
  have a2 := bo.a2
  have b2 := bo.b2
  have ma : (((best n).2.2.1 : Nat) : Int) ∈ cls most (F (best n).2.2.1) := cls_mem.mpr ⟨_, rfl, bo.a1, by omega, rfl⟩
  have mb : (((best n).2.2.2 : Nat) : Int) ∈ cls most (F (best n).2.2.2) := cls_mem.mpr ⟨_, rfl, bo.b1, by omega, rfl⟩
  have how : (n : Int) = ((best n).2.2.1 : Nat) + ((best n).2.2.2 : Nat) ∨ (n : Int) = ((best n).2.2.1 : Nat) * ((best n).2.2.2 : Nat) := by
    rcases bo.how with ⟨_, e⟩ | ⟨_, e⟩
    · exact .inl (by omega)
    · exact .inr (by rw [← Int.natCast_mul, e])
  by_cases hle : F (best n).2.2.1 ≤ F (best n).2.2.2
  · refine ⟨F (best n).2.2.1, _, _, pa, by omega, ma, ?_, how⟩
    rw [show c - F (best n).2.2.1 = F (best n).2.2.2 by omega]
    exact mb
  · refine ⟨F (best n).2.2.2, _, (((best n).2.2.1 : Nat) : Int), pb, by omega, mb, ?_, ?_⟩
    · rw [show c - F (best n).2.2.2 = F (best n).2.2.1 by omega]
      exact ma
    · rcases how with e | e
      · exact .inl (by omega)
      · exact .inr (by rw [e, Int.mul_comm])
end FO
set_option Elab.async false
set_option linter.all false
set_option maxRecDepth 100000
set_option maxHeartbeats 2000000
namespace Fo
open PySem L2 FO
/-! ### what every law's proof uses -/
/-- the def x of the top stands -/
structure Dn (K : PySem.W.Frag) (mg : Str → Option Value) (x : Str) (st : Stmt) : Prop where
  ex : ∃ (f : Addr) (fd : FuncData), Fun K x x st f fd ∧ mg x = some (.ref f)
/-- the def x keeps its promise -/
structure Kp (P : Program) (w : World) (K : PySem.W.Frag) (mg : Str → Option Value) (base : Heap) (CX : CXT) (k : Nat) (x : Str) (sp : Sp) : Prop where
  ex : ∃ (f : Addr) (fd : FuncData) (ps : List Str), FnOk P w K mg base CX k f fd ps sp ∧ mg x = some (.ref f) ∧ PySem.W.keepIn K (.ref f) = true ∧ Binds K fd ps []
/-- the built-in names are the built-ins -/
structure Bi (mg : Str → Option Value) : Prop where
  isi : mg "isinstance" = none
  int : mg "int" = none
  bool : mg "bool" = none
  str : mg "str" = none
  list : mg "list" = none
  len : mg "len" = none
  all : mg "all" = none
  range : mg "range" = none
  enum : mg "enumerate" = none
  sum : mg "sum" = none
  max : mg "max" = none
  sorted : mg "sorted" = none
  abs : mg "abs" = none
  tuple : mg "tuple" = none
  any : mg "any" = none
section
variable {X : Cx} {k j : Nat} {x : Str} {sp : Sp} {p pos : Pos} {e : Expr} {es : List Expr} {t : TA}
/-- a call of a def that raises nothing -/
theorem pk (c : Kp X.prog X.w X.K X.mg X.base CX0 k x sp) (hr : Room j X.A) (hk : k ≤ j) (hg : Gl X x) (ha : PA X (e :: es) t)
    (hdb : (x == ("__debug__" : Str)) = false := by decide)
    (he : starEach (e :: es) X.env = (false, eval e X.env) :: starEach es X.env := by rfl)
    (hpl : (backTo pos (starEach es X.env)).any (·.1) = false := by rfl) :
    PE X (.Call (.Name x p) (e :: es) [] pos) (tCall sp [] E0 t) := by
  obtain ⟨f, fd, ps, F, hm, kp, b⟩ := c.ex
  exact pe_call F (hr.mono hk) hg hm kp b .nil pass0 ha hdb he hpl
/-- a call of a def that may raise, where nothing is let out -/
theorem pkL (c : Kp X.prog X.w X.K X.mg X.base (L2.CX X.prog X.w) k x sp) (hr : Room j X.A) (hk : k ≤ j) (hg : Gl X x) (ha : PA X (e :: es) t)
    (hdb : (x == ("__debug__" : Str)) = false := by decide)
    (he : starEach (e :: es) X.env = (false, eval e X.env) :: starEach es X.env := by rfl)
    (hpl : (backTo pos (starEach es X.env)).any (·.1) = false := by rfl) :
    PE X (.Call (.Name x p) (e :: es) [] pos) (tCall sp [] E0 t) := by
  obtain ⟨f, fd, ps, F, hm, kp, b⟩ := c.ex
  exact pe_call F (hr.mono hk) hg hm kp b .nil passL ha hdb he hpl
/-- .. where what is raised is wished for by W -/
theorem pkS {W : WX} (c : Kp X.prog X.w X.K X.mg X.base (L2.CX X.prog X.w) k x sp) (tk : Takes X W) (hr : Room j X.A) (hk : k ≤ j) (hg : Gl X x) (ha : PA X (e :: es) t)
    (hdb : (x == ("__debug__" : Str)) = false := by decide)
    (he : starEach (e :: es) X.env = (false, eval e X.env) :: starEach es X.env := by rfl)
    (hpl : (backTo pos (starEach es X.env)).any (·.1) = false := by rfl) :
    PE X (.Call (.Name x p) (e :: es) [] pos) (tCallS sp (WE W) t) := by
  obtain ⟨f, fd, ps, F, hm, kp, b⟩ := c.ex
  exact pe_callS F (hr.mono hk) hg hm kp b (fun σ => passAt tk σ) ha hdb he hpl
end
theorem ifT {b : Bool} {A C : Prop} (h : b = true) (x : A) : if b = true then A else C := by
  rw [if_pos h]
  exact x
theorem ifF {b : Bool} {A C : Prop} (h : b = false) (x : C) : if b = true then A else C := by
  rw [h]
  exact iteF x
theorem sm_put {H H' : Hp} {p : Addr} {o : HO} (s : Same H H') (h : H p = none) : Same H (upd H' p o) := fun b u e => by
  rw [upd_ne (ne_of_none e h)]
  exact s b u e
theorem sm_new {H H' : Hp} {p : Addr} {o : HO} (s : Same H H') (h : H' p = none) : Same H (upd H' p o) := sm_put s (s.free h)
theorem sm_upd {H : Hp} {p : Addr} {o : HO} (h : H p = none) : Same H (L2.upd H p o) := sm_put (Same.refl H) h
theorem sm_tup {K : PySem.W.Frag} {H H' : Hp} {a : Addr} {xs : List V} (e : Same H H') (h : SqT K H a xs) : SqT K H' a xs := by
  rcases h with (h | ⟨o, h⟩) | h
  · exact .inl (.inl (e _ _ h))
  · exact .inl (.inr ⟨o, e _ _ h⟩)
  · exact .inr h
theorem sm_at {H H' : Hp} {a : Addr} {o : HO} (e : Same H H') (h : H a = some o) : H' a = some o := e a o h
/-- a heap with a new object, by a letter -/
theorem ab {H : Hp} {q : Addr} (nq : H q = none) (o : HO) : ∃ H0, upd H q o = H0 ∧ Same H H0 ∧ H0 q = some o := ⟨_, rfl, sm_upd nq, upd_same⟩
/-- xs[-k] -/
theorem atI_neg {α : Type} {xs : List α} {k : Nat} {v : α} (h1 : 1 ≤ k) (h2 : k ≤ xs.length) (h : xs[xs.length - k]? = some v) {z : Int} (hz : z = -(k : Int)) : atI xs z = some v := by
  subst hz
  have e : ixN xs.length (-(k : Int)) = some (xs.length - k) := by
    unfold ixN
    rw [if_neg (by omega), if_pos (by omega)]
    congr 1
    omega
  unfold atI
  rw [e]
  exact h
/-- is it a whole number -/
def IsW (K : PySem.W.Frag) (H : Hp) (v : V) (b : Bool) : Prop := ∃ (t : Value) (b1 b2 : Bool), TyX K H v t ∧ PySem.W.kitOne K t (.type "int") = some b1 ∧ (b1 = true → PySem.W.kitOne K t (.type "bool") = some b2) ∧ b = (b1 && !b2)
theorem IsW.int {K : PySem.W.Frag} {H : Hp} (i : Int) : IsW K H (.int i) true := ⟨.type "int", true, false, .base (.int i), kit_ty (by decide +kernel), fun _ => kit_ty (by decide +kernel), rfl⟩
theorem IsW.str {K : PySem.W.Frag} {H : Hp} (z : Str) : IsW K H (.str z) false := ⟨.type "str", false, false, .base (.str z), kit_ty (by decide +kernel), fun _ => kit_ty (by decide +kernel), rfl⟩
theorem IsW.non {K : PySem.W.Frag} {H : Hp} : IsW K H .non false := ⟨.type "NoneType", false, false, .base .non, kit_ty (by decide +kernel), fun _ => kit_ty (by decide +kernel), rfl⟩
theorem IsW.bl {K : PySem.W.Frag} {H : Hp} (c : Bool) : IsW K H (.bl c) false := ⟨.type "bool", true, true, .base (.bl c), kit_ty (by decide +kernel), fun _ => kit_ty (by decide +kernel), rfl⟩
theorem IsW.lst {K : PySem.W.Frag} {H : Hp} {a : Addr} {xs : List V} (h : H a = some (.lst xs)) : IsW K H (.ref a) false := ⟨.type "list", false, false, .base (.lst h), kit_ty (by decide +kernel), fun _ => kit_ty (by decide +kernel), rfl⟩
theorem IsW.tup {K : PySem.W.Frag} {H : Hp} {a : Addr} {xs : List V} (h : H a = some (.tup xs)) : IsW K H (.ref a) false := ⟨.type "tuple", false, false, .base (.tup h), kit_ty (by decide +kernel), fun _ => kit_ty (by decide +kernel), rfl⟩
theorem IsW.dK {K : PySem.W.Frag} {H : Hp} {a : Addr} {xs : List (Key × V)} (h : H a = some (.dK xs)) : IsW K H (.ref a) false := ⟨.type "dict", false, false, .base (.dK h), kit_ty (by decide +kernel), fun _ => kit_ty (by decide +kernel), rfl⟩
/-- what stands on the stack, as a value -/
def itV : Itm → V
  | .inl n => .int n
  | .inr c => .str ⟨#[c]⟩
def stV (S : List Itm) : List V := S.reverse.map itV
theorem stV_cons (x : Itm) (S : List Itm) : stV (x :: S) = stV S ++ [itV x] := by simp [stV]
theorem stV_length (S : List Itm) : (stV S).length = S.length := by simp [stV]
theorem IsW.itm {K : PySem.W.Frag} {H : Hp} : ∀ x : Itm, IsW K H (itV x) (match x with | .inl _ => true | .inr _ => false)
  | .inl n => IsW.int n
  | .inr c => IsW.str _
end Fo
namespace Fo
open PySem
/-! the text by places -/
def top (i : Nat) : Stmt := PySem.Challenge.pw_fewones_k09_handed_stays.main.body.getD i (.Pass ⟨0, 0, 0, 0⟩)
abbrev sWhole : Stmt := top 6
abbrev sDone : Stmt := top 7
abbrev sWorthOf : Stmt := top 8
abbrev sPut : Stmt := top 9
abbrev sIsFloor : Stmt := top 12
abbrev sInit : Stmt := L2.inClass (top 13) 0
abbrev sShows : Stmt := L2.inClass (top 13) 1
abbrev sCheckNumber : Stmt := top 17
abbrev sCheckOnes : Stmt := top 18
abbrev sTable : Stmt := top 19
abbrev sTextBy : Stmt := top 20
abbrev sFewest : Stmt := top 21
abbrev sLeast : Stmt := top 22
abbrev sAllWith : Stmt := top 23
abbrev sGreatestOf : Stmt := top 24
abbrev sLawCopied : Stmt := top 26
abbrev nLawCopied : List Str := ["_law_thing", "_law_one"]
abbrev pLawCopied : List Str := ["_law_thing"]
abbrev sLawSpoiled : Stmt := top 27
abbrev nLawSpoiled : List Str := ["_law_thing", "_law_one"]
abbrev pLawSpoiled : List Str := ["_law_thing"]
abbrev sLawLaid : Stmt := top 28
abbrev nLawLaid : List Str := ["_law_mine", "_law_other", "_law_at", "_law_one"]
abbrev pLawLaid : List Str := ["_law_mine", "_law_other"]
abbrev sLawDoorRight : Stmt := top 29
abbrev nLawDoorRight : List Str := ["_law_ask", "_law_one", "_law_other", "_law_mine", "_law_given", "_law_before"]
abbrev pLawDoorRight : List Str := ["_law_ask", "_law_one", "_law_other"]
abbrev sLawAnew : Stmt := top 30
abbrev nLawAnew : List Str := ["_law_ask", "_law_given", "_law_before"]
abbrev pLawAnew : List Str := ["_law_ask"]
abbrev sLaw : Stmt := top 31
abbrev nLaw : List Str := ["_law_script", "_law_cells", "_law_more", "_law_asks", "_law_found", "_law_many", "_law_number", "_law_text", "_law_ask", "_law_one", "_law_other"]
abbrev pLaw : List Str := ["_law_script"]
end Fo
namespace Fo
open PySem L2 FO
section
variable {P : Program} {w : World} {K : PySem.W.Frag} {mg : Str → Option Value} {base : Heap}
/-! ### is_whole -/
def spWhole (K : PySem.W.Frag) : Sp := fun vs H Q _ => ∃ (v : V) (b : Bool), vs = [v] ∧ IsW K H v b ∧ Q (.bl b) H
theorem scWhole : FnScope ["thing"] ["thing"] (defScope sWhole) := ⟨rfl, rfl, rfl, by decide +kernel, rfl, by decide +kernel, by decide +kernel⟩
theorem ok_whole (D : Dn K mg "is_whole" sWhole) (B : Bi mg) : Kp P w K mg base CX0 1 "is_whole" (spWhole K) := by
  obtain ⟨f, fd, F, hm⟩ := D.ex
  refine ⟨f, fd, ["thing"], F.ok scWhole (fun vs H Q E h => ?_) (fun cdv A outer s H vs Q E hr h => ?_), hm, F.kp, F.binds fun _ _ _ _ _ _ us hl => match us, hl with | [_], _ => rfl⟩
  · obtain ⟨v, b, rfl, _⟩ := h
    rfl
  · obtain ⟨v, b, rfl, ⟨t, b1, b2, ty, k1, k2, rfl⟩, q⟩ := h
    refine ⟨_, pss_one (ps_ret (pe_and
      (pe_callB call_isi (by rfl) B.isi (by decide +kernel) (pa_cons (pv 0) (pa_cons (pe_bltn (v := .ty "int") (by rfl) B.int (by decide +kernel) rfl) pa_nil)))
      (pe_one (pe_not (pe_callB call_isi (by rfl) B.isi (by decide +kernel) (pa_cons (pv 0) (pa_cons (pe_bltn (v := .ty "bool") (by rfl) B.bool (by decide +kernel) rfl) pa_nil))))))), ?_⟩
    refine ⟨_, rfl, _, _, _, _, b1, rfl, .ty "int", ty, k1, b1, rfl, ?_⟩
    cases b1 with
    | false => exact iteF q
    | true =>
      refine iteT ⟨_, rfl, _, _, _, _, b2, rfl, .ty "bool", ty, k2 rfl, b2, rfl, ?_⟩
      exact q
end
end Fo
namespace Fo
open PySem L2 FO
section
variable {P : Program} {w : World} {K : PySem.W.Frag} {mg : Str → Option Value} {base : Heap}
/-! ### done -/
def spDone (K : PySem.W.Frag) : Sp := fun vs H Q _ => ∃ (a : Addr) (S : List Itm), vs = [.ref a] ∧ SqL K H a (stV S) ∧ S.length ≤ 2001 ∧ phi S ≤ 2001 ∧
  (doneS S = none → ∀ H', Same H H' → Q .non H') ∧ (∀ S', doneS S = some S' → ∀ H' q, Same H H' → H q = none → H' q = some (.lst (stV S')) → Q (.ref q) H')
theorem scDone : FnScope ["stack", "one", "other"] ["stack"] (defScope sDone) := ⟨rfl, rfl, rfl, by decide +kernel, rfl, by decide +kernel, by decide +kernel⟩
theorem stV4 (o s a p : Itm) (r : List Itm) : stV (o :: s :: a :: p :: r) = stV r ++ [itV p, itV a, itV s, itV o] := by
  simp [stV]
theorem scal_it (x : Itm) (z : Str) : scal (itV x) (.str z) = true := by cases x <;> rfl
theorem flat_it (x : Itm) : flatV (itV x) = true := by cases x <;> rfl
theorem it_is (x : Itm) (c : Nat) : decide (itV x = V.str ⟨#[c]⟩) = decide (x = Sum.inr c) := by
  cases x with
  | inl n =>
    rw [decide_eq_false (by intro z; cases z), decide_eq_false (by intro z; cases z)]
  | inr d =>
    by_cases h : d = c
    · subst h
      exact (decide_eq_true (p := itV (.inr d) = V.str ⟨#[d]⟩) rfl).trans (decide_eq_true rfl).symm
    · have h1 : ¬ itV (.inr d) = V.str ⟨#[c]⟩ := fun z => by
        have z' : (⟨#[d]⟩ : Str) = ⟨#[c]⟩ := V.str.inj z
        have z2 : #[d] = #[c] := congrArg Str.cps z'
        simp at z2
        exact h z2
      rw [decide_eq_false h1, decide_eq_false (fun z => h (Sum.inr.inj z))]
theorem in_pm (x : Itm) : inV (itV x) [V.str "+", V.str "*"] = (decide (x = Sum.inr 43) || decide (x = Sum.inr 42)) := by
  cases x with
  | inl n => simp [inV, eqV, itV]
  | inr d =>
    have h1 : (("+" : Str) == (⟨#[d]⟩ : Str)) = decide (d = 43) := by
      have e : ("+" : Str) = ⟨#[43]⟩ := by decide +kernel
      rw [e]
      by_cases h : d = 43
      · subst h; simp
      · simp [h, Ne.symm h]
    have h2 : (("*" : Str) == (⟨#[d]⟩ : Str)) = decide (d = 42) := by
      have e : ("*" : Str) = ⟨#[42]⟩ := by decide +kernel
      rw [e]
      by_cases h : d = 42
      · subst h; simp
      · simp [h, Ne.symm h]
    simp only [inV, List.any_cons, List.any_nil, Bool.or_false, itV, eqV]
    simp [h1, h2]
theorem done_short {S : List Itm} (h : S.length < 4) : doneS S = none := by
  unfold doneS
  split
  · simp only [List.length_cons] at h; omega
  · rfl
theorem ok_done (D : Dn K mg "done" sDone) (B : Bi mg) (W : Kp P w K mg base CX0 1 "is_whole" (spWhole K)) : Kp P w K mg base CX0 2 "done" (spDone K) := by
  obtain ⟨f, fd, F, hm⟩ := D.ex
  refine ⟨f, fd, ["stack"], F.ok scDone (fun vs H Q E h => ?_) (fun cdv A outer s H vs Q E hr h => ?_), hm, F.kp, F.binds fun _ _ _ _ _ _ us hl => match us, hl with | [_], _ => rfl⟩
  · obtain ⟨a, S, rfl, _⟩ := h
    rfl
  · obtain ⟨a, S, rfl, hS, hlen, hphi, kN, kS⟩ := h
    refine ⟨_, pss_cons (ps_if (PW.pt (pw_or (pt_cmpR op_lt (pe_callB call_len_seq (by rfl) B.len PySem.boot_len (pa_cons (pv 0) pa_nil)) pe_int (nomark _))
        (pw_or (pt_cmpR op_ne (pe_ix ix_list (pv 0) (pe_un un_neg pe_int) (fun _ _ => rfl)) pe_str (nomark _))
        (pw_or1 (pt_cmpR op_notIn_seq (pe_ix ix_list (pv 0) (pe_un un_neg pe_int) (fun _ _ => rfl)) (pe_tup (pa_cons pe_str (pa_cons pe_str pa_nil))) (by rfl))))))
          (pss_one (ps_ret pe_non)) pss_nil)
      (pss_cons (ps_par (i := 1) (j := 2) (by rfl) scDone.nd rfl rfl (by decide) rfl rfl (pa_cons (pe_ix ix_list (pv 0) (pe_un un_neg pe_int) (fun _ _ => rfl)) (pa_cons (pe_ix ix_list (pv 0) (pe_un un_neg pe_int) (fun _ _ => rfl)) pa_nil)) (by rfl))
      (pss_cons (ps_if (PW.pt (pw_or (pt_not (pt_val (pk W hr (by decide) rfl (pa_cons (pv 1) pa_nil)))) (pw_or1 (pt_not (pt_val (pk W hr (by decide) rfl (pa_cons (pv 2) pa_nil)))))))
          (pss_one (ps_ret pe_non)) pss_nil)
      (pss_one (ps_ret (pe_op op_cat (pe_slice sl_list (pv 0) po_none (po_some (pe_un un_neg pe_int)))
        (pe_lst (pa_cons (pe_ifExp (pt_cmpR op_eq (pe_ix ix_list (pv 0) (pe_un un_neg pe_int) (fun _ _ => rfl)) pe_str (nomark _)) (pe_op op_add (pv 1) (pv 2)) (pe_op op_mulX (pv 1) (pv 2))) pa_nil))))))), ?_⟩
    refine ⟨_, rfl, a, _, rfl, .inl hS, _, _, rfl, rfl, _, rfl, ?_⟩
    by_cases hl : S.length < 4
    · exact ifT (decide_eq_true (by rw [stV_length]; omega)) (iteT (kN (done_short hl) H (Same.refl H)))
    obtain ⟨o, u, x, p, r, rfl⟩ : ∃ o u x p r, S = o :: u :: x :: p :: r := by
      match S, hl with
      | o :: u :: x :: p :: r, _ => exact ⟨o, u, x, p, r, rfl⟩
      | [], h => exact absurd (by decide) h
      | [_], h => exact absurd (by simp) h
      | [_, _], h => exact absurd (by simp) h
      | [_, _, _], h => exact absurd (by simp) h
    rw [stV4] at hS
    refine ifF (decide_eq_false (by rw [stV_length]; omega)) ?_
    have L : (stV r ++ [itV p, itV x, itV u, itV o]).length = r.length + 4 := by rw [List.length_append, stV_length]; rfl
    have g4 : atI (stV r ++ [itV p, itV x, itV u, itV o]) (-4) = some (itV p) := atI_neg (k := 4) (by decide) (by omega) (by rw [L, List.getElem?_append_right (by rw [stV_length]; omega), stV_length]; simp) rfl
    have g3 : atI (stV r ++ [itV p, itV x, itV u, itV o]) (-3) = some (itV x) := atI_neg (k := 3) (by decide) (by omega) (by rw [L, List.getElem?_append_right (by rw [stV_length]; omega), stV_length, show r.length + 4 - 3 - r.length = 1 by omega]; rfl) rfl
    have g2 : atI (stV r ++ [itV p, itV x, itV u, itV o]) (-2) = some (itV u) := atI_neg (k := 2) (by decide) (by omega) (by rw [L, List.getElem?_append_right (by rw [stV_length]; omega), stV_length, show r.length + 4 - 2 - r.length = 2 by omega]; rfl) rfl
    have g1 : atI (stV r ++ [itV p, itV x, itV u, itV o]) (-1) = some (itV o) := atI_neg (k := 1) (by decide) (by omega) (by rw [L, List.getElem?_append_right (by rw [stV_length]; omega), stV_length, show r.length + 4 - 1 - r.length = 3 by omega]; rfl) rfl
    have ePar : ("(" : Str) = ⟨#[40]⟩ := by decide +kernel
    have ePlus : ("+" : Str) = ⟨#[43]⟩ := by decide +kernel
    -- stack[-4] != "("
    refine ⟨_, rfl, _, rfl, a, _, _, _, rfl, rfl, hS, g4, scal_it _ _, _, rfl, ?_⟩
    by_cases hp : ¬ p = Sum.inr 40
    · refine ifT ?_ (iteT (kN ?_ H (Same.refl H)))
      · rw [ePar, it_is, decide_eq_false hp]; rfl
      · unfold doneS
        split
        · rename_i b s a o' r' e
          injection e with e1 e; injection e with e2 e; injection e with e3 e; injection e with e4 e
          rw [if_neg (fun z => hp (by rw [e4, z]))]
        · rfl
    have hp := Classical.not_not.mp hp
    refine ifF (by rw [ePar, it_is, decide_eq_true hp]; rfl) ?_
    -- stack[-2] not in ("+", "*")
    refine ⟨_, rfl, _, rfl, a, _, _, _, rfl, rfl, hS, g2, by decide, fun T hT => ?_⟩
    refine ⟨T, _, rfl, .inr (SqT.of upd_same), flat_it _, rfl, _, rfl, ?_⟩
    have sT : Same H (upd H T (.tup [V.str "+", V.str "*"])) := sm_upd hT
    have hS1 := sT.seq hS
    by_cases hu : ¬ (u = Sum.inr 43 ∨ u = Sum.inr 42)
    · refine ifT ?_ (kN ?_ _ sT)
      · show (!inV (itV u) _) = true
        rw [in_pm, decide_eq_false (fun z => hu (.inl z)), decide_eq_false (fun z => hu (.inr z))]; rfl
      · unfold doneS
        split
        · rename_i b s a o' r' e
          injection e with e1 e; injection e with e2 e; injection e with e3 e; injection e with e4 e
          rw [if_neg (show ¬ s = 43 from fun z => hu (.inl (by rw [e2, z]))), if_neg (show ¬ s = 42 from fun z => hu (.inr (by rw [e2, z])))]
          split <;> rfl
        · rfl
    have hu := Classical.not_not.mp hu
    refine ifF ?_ ?_
    · show (!inV (itV u) _) = false
      rw [in_pm]
      rcases hu with z | z
      · rw [decide_eq_true z]; rfl
      · rw [decide_eq_true z, Bool.or_true]; rfl
    -- one, other = stack[-3], stack[-1]
    refine ⟨_, rfl, _, rfl, a, _, _, _, rfl, rfl, hS1, g3, _, rfl, _, rfl, a, _, _, _, rfl, rfl, hS1, g1, _, _, rfl, ?_⟩
    refine ⟨_, rfl, _, _, rfl, IsW.itm x, _, rfl, ?_⟩
    cases x with
    | inr c => exact iteT (iteT (kN (by unfold doneS; split <;> first | rfl | (rename_i e; injection e with e1 e; injection e with e2 e; injection e with e3 e; cases e3)) _ sT))
    | inl m =>
    refine iteF ⟨_, rfl, _, _, rfl, IsW.itm o, _, rfl, ?_⟩
    cases o with
    | inr c => exact iteT (kN (by unfold doneS; split <;> first | rfl | (rename_i e; injection e with e1 e; cases e1)) _ sT)
    | inl n =>
    refine iteF ?_
    -- stack[:-4] + [..]
    refine ⟨_, rfl, _, rfl, _, rfl, a, _, rfl, hS1, fun R hR => ?_⟩
    have sR := sm_new (o := .lst (cutV (stV r ++ [itV p, itV (.inl m), itV u, itV (.inl n)]) none (some (-4)))) sT hR
    have cut : cutV (stV r ++ [itV p, itV (.inl m), itV u, itV (.inl n)]) none (some (-4)) = stV r := by
      unfold cutV
      rw [L]
      show ((stV r ++ [itV p, itV (.inl m), itV u, itV (.inl n)]).drop 0).take ((-4 + ((r.length + 4 : Nat) : Int)).toNat - 0) = stV r
      rw [List.drop_zero, show (-4 + ((r.length + 4 : Nat) : Int)).toNat - 0 = (stV r).length by rw [stV_length]; omega, List.take_left]
    rw [cut] at sR ⊢
    have hS2 := sR.seq hS
    refine ⟨_, rfl, _, rfl, a, _, _, _, rfl, rfl, hS2, g2, scal_it _ _, _, rfl, ?_⟩
    have fin : ∀ z : Int, doneS (.inl n :: u :: .inl m :: p :: r) = some (.inl z :: r) → ∀ D, upd (upd H T (.tup [V.str "+", V.str "*"])) R (.lst (stV r)) D = none →
        rCat (V.ref R) (.ref D) (upd (upd (upd H T (.tup [V.str "+", V.str "*"])) R (.lst (stV r))) D (.lst [V.int z])) Q := fun z hz D hD => by
      have sD := sm_new (o := .lst [V.int z]) sR hD
      refine ⟨R, D, _, _, rfl, rfl, (by rw [upd_ne (ne_of_none upd_same hD), upd_same]), upd_same, ?_, fun q hq => ?_⟩
      · rw [stV_length]
        simp only [List.length_cons] at hlen
        have e : sizeLine = 16777216 := PySem.sizeLine_eq
        rw [e]
        show r.length + 1 ≤ _
        omega
      · exact kS _ hz _ q (sm_new sD hq) (sD.free hq) (by rw [upd_same, stV_cons]; rfl)
    by_cases h43 : u = Sum.inr 43
    · refine ifT (by rw [ePlus, it_is, decide_eq_true h43]) ?_
      refine ⟨_, rfl, _, rfl, m, n, rfl, rfl, (show 1 ≤ sizeLine by decide), fun D hD => fin _ ?_ D hD⟩
      rw [hp, h43]
      rfl
    · have h42 : u = Sum.inr 42 := hu.resolve_left h43
      refine ifF (by rw [ePlus, it_is, decide_eq_false h43]) ?_
      refine ⟨_, rfl, _, rfl, m, n, rfl, rfl, ?_, (show 1 ≤ sizeLine by decide), fun D hD => fin _ ?_ D hD⟩
      · rw [h42] at hphi
        simp only [phi] at hphi
        have b : ∀ x : Int, PySem.Builtin.Int.intBits x ≤ x.natAbs.log2 + 1 := fun x => by
          unfold PySem.Builtin.Int.intBits
          split <;> omega
        have b1 := b m
        have b2 := b n
        unfold CMulX
        omega
      · rw [hp, h42]
        rfl
end
end Fo
namespace Fo
open PySem L2 FO
section
variable {P : Program} {w : World} {K : PySem.W.Frag} {mg : Str → Option Value} {base : Heap}
/-! ### worth_of -/
/-- the codes of a text -/
abbrev tl (z : Str) : List Nat := z.cps.toList
def NoStr (K : PySem.W.Frag) (H : Hp) (v : V) : Prop := ∃ t, TyX K H v t ∧ PySem.W.kitOne K t (.type "str") = some false
def spWorthOf (K : PySem.W.Frag) : Sp := fun vs H Q _ => ∃ v, vs = [v] ∧ ((∃ z, v = .str z ∧ z.length ≤ sizeLine ∧ ∀ H', Same H H' → Q (.int (worthL (tl z))) H') ∨ (NoStr K H v ∧ ∀ H', Same H H' → Q (.int 0) H'))
theorem scWorthOf : FnScope ["text", "stack", "sign"] ["text"] (defScope sWorthOf) := ⟨rfl, rfl, rfl, by decide +kernel, rfl, by decide +kernel, by decide +kernel⟩
theorem take_snoc {α : Type} {l : List α} {i : Nat} {x : α} (h : l[i]? = some x) : l.take (i + 1) = l.take i ++ [x] := by
  rw [List.take_add_one, h]
  rfl
theorem str1 (c d : Nat) : decide (V.str ⟨#[c]⟩ = V.str ⟨#[d]⟩) = decide (c = d) := it_is (.inr c) d |>.trans (by
  by_cases h : c = d
  · rw [decide_eq_true h, decide_eq_true (by rw [h])]
  · rw [decide_eq_false h, decide_eq_false (fun z => h (Sum.inr.inj z))])
theorem run_fail {t : List Nat} {i c : Nat} {S : List Itm} (hc : t[i]? = some c) (h : runS [] (t.take i) = some S) (hs : stepS S c = none) : runS [] t = none := by
  have e : t = t.take (i + 1) ++ t.drop (i + 1) := (List.take_append_drop _ _).symm
  rw [e, take_snoc hc, runS_append, run_snoc h, hs]
theorem ok_worthOf (D : Dn K mg "worth_of" sWorthOf) (B : Bi mg) (lon : ∃ u, mg "LONGEST" = some u ∧ RelV (.int 2000) u) (W : Kp P w K mg base CX0 1 "is_whole" (spWhole K)) (Dk : Kp P w K mg base CX0 2 "done" (spDone K)) : Kp P w K mg base CX0 3 "worth_of" (spWorthOf K) := by
  obtain ⟨f, fd, F, hm⟩ := D.ex
  refine ⟨f, fd, ["text"], F.ok scWorthOf (fun vs H Q E h => ?_) (fun cdv A outer s H vs Q E hr h => ?_), hm, F.kp, F.binds fun _ _ _ _ _ _ us hl => match us, hl with | [_], _ => rfl⟩
  · obtain ⟨v, rfl, _⟩ := h
    rfl
  · obtain ⟨v, rfl, h⟩ := h
    refine ⟨_, pss_cons (ps_if (PW.pt (pw_or (pt_not (pt_val (pe_callB call_isi (by rfl) B.isi (by decide +kernel) (pa_cons (pv 0) (pa_cons (pe_bltn (v := .ty "str") (by rfl) B.str (by decide +kernel) rfl) pa_nil)))))
        (pw_or1 (pt_cmpR op_gt (pe_callB call_len_str (by rfl) B.len PySem.boot_len (pa_cons (pv 0) pa_nil)) (C8.pe_gc rfl lon) (nomark _)))))
          (pss_one (ps_ret pe_int)) pss_nil)
      (pss_cons (ps_set (i := 1) scWorthOf.nd rfl (Or.inl rfl) (pe_lst pa_nil))
      (pss_cons (ps_for PassesOwn.never rfl (pi_str (pv 0)) (pg_name (i := 2) scWorthOf.nd rfl (Or.inl rfl))
        (pss_one (ps_if (pt_cmpR op_eq (pv 2) pe_str (nomark _))
          (pss_one (ps_expr (pe_bm PySem.F.plainAttrs_list PySem.F.slot_list_append PySem.F.type_list_append mt_append (pv 1) (pa_cons pe_int pa_nil))))
          (pss_one (ps_if (pt_cmpR op_eq (pv 2) pe_str (nomark _))
            (pss_cons (ps_set (i := 1) scWorthOf.nd rfl (Or.inl rfl) (pk Dk hr (by decide) rfl (pa_cons (pv 1) pa_nil)))
              (pss_one (ps_if (pt_cmpR op_isN (pv 1) pe_non (nomark _)) (pss_one (ps_ret pe_int)) pss_nil)))
            (pss_one (ps_if (pt_cmpR op_in_sign (pv 2) pe_str rfl)
              (pss_one (ps_expr (pe_bm PySem.F.plainAttrs_list PySem.F.slot_list_append PySem.F.type_list_append mt_append (pv 1) (pa_cons (pv 2) pa_nil))))
              (pss_one (ps_ret pe_int)))))))))
      (pss_one (ps_ret (pe_ifExp (PW.pt (pw_and (pt_cmpR op_eq (pe_callB call_len_seq (by rfl) B.len PySem.boot_len (pa_cons (pv 1) pa_nil)) pe_int (nomark _))
          (pw_and1 (pt_val (pk W hr (by decide) rfl (pa_cons (pe_ix ix_list (pv 1) pe_int (fun _ _ => rfl)) pa_nil))))))
        (pe_ix ix_list (pv 1) pe_int (fun _ _ => rfl)) pe_int))))), ?_⟩
    rcases h with ⟨z, rfl, hz, k⟩ | ⟨⟨t, ty, kt⟩, k⟩
    · refine ⟨_, rfl, _, _, _, _, true, rfl, .ty "str", .base (.str z), kit_ty (by decide +kernel), true, rfl, iteF ?_⟩
      refine ⟨_, rfl, z, rfl, hz, _, _, rfl, rfl, _, rfl, ?_⟩
      have hlz : z.length = (tl z).length := by simp [tl, Str.length]
      by_cases hl : ¬ (tl z).length ≤ 2000
      · refine ifT (decide_eq_true (by rw [hlz]; omega)) ?_
        have q := k H (Same.refl H)
        unfold worthL at q
        rw [if_neg hl] at q
        exact q
      have hl := Classical.not_not.mp hl
      refine ifF (decide_eq_false (by rw [hlz]; omega)) ?_
      refine ⟨Nat.zero_le _, fun q0 hq0 => ?_⟩
      have kk : ∀ H', Same H H' → Q (.int (readL (tl z))) H' := fun H' s => by
        have q := k H' s
        unfold worthL at q
        rw [if_pos hl] at q
        exact q
      have bad : runS [] (tl z) = none → ∀ H', Same H H' → Q (.int 0) H' := fun e H' s => by
        have q := kk H' s
        unfold readL at q
        rw [e] at q
        exact q
      refine ⟨_, rfl, z, rfl, for_it walk_str (fun i σ H' => ∃ (S : List Itm) (q : Addr) (v : Option V), σ = [some (.str z), some (.ref q), v] ∧ runS [] ((tl z).take i) = some S ∧ H' q = some (.lst (stV S)) ∧ H q = none ∧ Same H H')
        ⟨[], q0, none, rfl, rfl, upd_same, hq0, sm_upd hq0⟩ (fun _ _ _ _ _ => trivial) ?_ ?_⟩
      · rintro i x σ H1 H2 hi ⟨S, q, v, rfl, hrun, hq, hn, hs⟩ ⟨rfl, c, hc, rfl⟩
        have hcl : (tl z)[i]? = some c := by rw [Array.getElem?_toList]; exact hc
        have hit : i < (tl z).length := (List.getElem?_eq_some_iff.mp hcl).1
        have hlS : S.length ≤ 2000 := by
          have a := len_run _ _ _ hrun
          rw [List.length_take] at a
          simp only [List.length_nil] at a
          omega
        have hpS : phi S ≤ 2000 := by
          have a := phi_run _ _ _ hrun
          rw [List.length_take] at a
          simp only [phi] at a
          omega
        have e1 : ("1" : Str) = ⟨#[49]⟩ := by decide +kernel
        have e2 : (")" : Str) = ⟨#[41]⟩ := by decide +kernel
        have next : ∀ S', stepS S c = some S' → runS [] ((tl z).take (i + 1)) = some S' := fun S' e => by
          rw [take_snoc hcl, run_snoc hrun, e]
        refine ⟨_, rfl, rfl, _, rfl, ?_⟩
        by_cases h1 : c = 49
        · refine ifT (by rw [e1, str1, decide_eq_true h1]) ?_
          refine ⟨_, rfl, .inl ⟨rfl, _, SqL.of hq⟩, q, _, _, rfl, rfl, hq, ?_, ?_⟩
          · rw [stV_length, PySem.sizeLine_eq]; omega
          · exact ⟨.inl 1 :: S, q, _, rfl, next _ (by unfold stepS; rw [if_pos h1]), by rw [upd_same, stV_cons]; rfl, hn, sm_put hs hn⟩
        refine ifF (by rw [e1, str1, decide_eq_false h1]) ?_
        refine ⟨_, rfl, rfl, _, rfl, ?_⟩
        by_cases h2 : c = 41
        · refine ifT (by rw [e2, str1, decide_eq_true h2]) ?_
          have hst : stepS S c = doneS S := by unfold stepS; rw [if_neg h1, if_pos h2]
          refine ⟨_, rfl, q, S, rfl, SqL.of hq, by omega, by omega, fun hd H' s' => ?_, fun S' hd H' q' s' n' hq' => ?_⟩
          · refine ⟨_, rfl, rfl, _, rfl, iteT ?_⟩
            exact bad (run_fail hcl hrun (hst.trans hd)) H' (hs.trans s')
          · refine ⟨_, rfl, rfl, _, rfl, iteF ?_⟩
            exact ⟨S', q', _, rfl, next _ (hst.trans hd), hq', hs.free n', hs.trans s'⟩
        refine ifF (by rw [e2, str1, decide_eq_false h2]) ?_
        refine ⟨_, rfl, c, _, rfl, rfl, _, rfl, ?_⟩
        have e3 : (("(+*" : Str)).cps.toList = [40, 43, 42] := by decide +kernel
        by_cases h3 : c = 40 ∨ c = 43 ∨ c = 42
        · refine ifT (decide_eq_true (by rw [e3]; simpa using h3)) ?_
          refine ⟨_, rfl, .inl ⟨rfl, _, SqL.of hq⟩, _, rfl, q, _, _, rfl, rfl, hq, ?_, ?_⟩
          · rw [stV_length, PySem.sizeLine_eq]; omega
          · exact ⟨.inr c :: S, q, _, rfl, next _ (by unfold stepS; rw [if_neg h1, if_neg h2, if_pos h3]), by rw [upd_same, stV_cons]; rfl, hn, sm_put hs hn⟩
        · refine ifF (decide_eq_false (by rw [e3]; simpa using h3)) ?_
          exact bad (run_fail hcl hrun (by unfold stepS; rw [if_neg h1, if_neg h2, if_neg h3])) _ hs
      · rintro σ H1 ⟨S, q, v, rfl, hrun, hq, hn, hs⟩
        have htk : (tl z).take z.cps.size = tl z := List.take_of_length_le (by simp [tl])
        rw [htk] at hrun
        refine ⟨_, rfl, q, _, rfl, .inl (SqL.of hq), rfl, _, rfl, ?_⟩
        have val : ∀ H', Same H H' → Q (.int (endS (some S))) H' := fun H' s => by
          have q := kk H' s
          unfold readL at q
          rw [hrun] at q
          exact q
        by_cases h1 : S.length = 1
        · obtain ⟨x, rfl⟩ : ∃ x, S = [x] := List.length_eq_one_iff.mp h1
          refine ifT (decide_eq_true (by rfl)) ?_
          have hat : atI (stV [x]) 0 = some (itV x) := atI_nat (j := 0) rfl
          refine ⟨_, rfl, q, _, _, _, rfl, rfl, SqL.of hq, hat, _, _, rfl, IsW.itm x, _, rfl, ?_⟩
          cases x with
          | inl n => exact iteT ⟨_, rfl, q, _, _, _, rfl, rfl, SqL.of hq, hat, val _ hs⟩
          | inr n => exact iteF (val _ hs)
        · refine ifF (decide_eq_false ?_) ?_
          · rw [stV_length]
            intro z
            have z' := V.int.inj z
            omega
          · have e0 : endS (some S) = 0 := by
              unfold endS
              split
              · rename_i n e
                cases e
                exact absurd rfl h1
              · rfl
            rw [e0] at val
            exact val _ hs
    · refine ⟨_, rfl, _, _, _, _, false, rfl, .ty "str", ty, kt, false, rfl, iteT ?_⟩
      exact iteT (k H (Same.refl H))
end
end Fo
namespace Fo
open PySem L2 FO
/-! ### how often a sign stands in a text -/
theorem occ_count (x : Str) (c : Nat) : ∀ (k i : Nat) (st : Array Nat × Nat), i + k = x.length + 1 → st.1.size ≤ i → st.2 ≤ i →
    (forIn (List.range' i k) st (StrLaws.occBody x ⟨#[c]⟩ x.length (x.length + 1))).run.fst.size = st.1.size + ((tl x).drop i).count c
  | 0, i, st, h, h1, h2 => by
    have e : (tl x).drop i = [] := List.drop_eq_nil_of_le (by show x.cps.toList.length ≤ i; rw [Array.length_toList]; show x.length ≤ i; omega)
    rw [e]
    rfl
  | k + 1, i, st, h, h1, h2 => by
    rw [List.range'_succ, List.forIn_cons]
    have sub := StrLaws.subAt_one x c i
    by_cases hc : (tl x)[i]? = some c
    · have q := sub.mpr hc
      have hb : StrLaws.occBody x ⟨#[c]⟩ x.length (x.length + 1) i st = pure (ForInStep.yield (st.1.push i, i + 1)) := by
        unfold StrLaws.occBody
        rw [if_pos ⟨⟨⟨by omega, h2⟩, q.1⟩, q.2⟩]
        rfl
      rw [hb]
      have ih := occ_count x c k (i + 1) (st.1.push i, i + 1) (by omega) (by rw [Array.size_push]; omega) (Nat.le_refl _)
      have hd : (tl x).drop i = c :: (tl x).drop (i + 1) := by
        obtain ⟨hlt, e⟩ := List.getElem?_eq_some_iff.mp hc
        rw [List.drop_eq_getElem_cons hlt, e]
      rw [hd, List.count_cons_self]
      refine Eq.trans ih ?_
      rw [Array.size_push]
      omega
    · have hb : StrLaws.occBody x ⟨#[c]⟩ x.length (x.length + 1) i st = pure (ForInStep.yield (st.1, st.2)) := by
        unfold StrLaws.occBody
        rw [if_neg (fun q => hc (sub.mp ⟨q.1.2, q.2⟩))]
      rw [hb]
      have ih := occ_count x c k (i + 1) (st.1, st.2) (by omega) (by show st.1.size ≤ _; omega) (by show st.2 ≤ _; omega)
      refine Eq.trans ih ?_
      by_cases hlt : i < (tl x).length
      · rw [List.drop_eq_getElem_cons hlt, List.count_cons_of_ne]
        intro z
        exact hc (by rw [List.getElem?_eq_getElem hlt, z])
      · have e : (tl x).drop i = [] := List.drop_eq_nil_of_le (by omega)
        have e' : (tl x).drop (i + 1) = [] := List.drop_eq_nil_of_le (by omega)
        rw [e, e']
theorem count_is (x : Str) (c : Nat) : Txt.count x ⟨#[c]⟩ = (((tl x).count c : Nat) : Int) := by
  unfold Txt.count
  rw [StrLaws.occ_eq, Array.length_toList, Nat.sub_zero, occ_count x c (x.length + 1) 0 (#[], 0) (by omega) (Nat.le_refl _) (Nat.le_refl _)]
  simp
theorem count_one (x : Str) : Txt.count x "1" = (((tl x).count 49 : Nat) : Int) := by
  have e : ("1" : Str) = ⟨#[49]⟩ := by decide +kernel
  rw [e]
  exact count_is x 49
/-! ### errors -/
/-- the error class x of the program stands at C -/
structure ErC (K : PySem.W.Frag) (mg : Str → Option Value) (x : Str) (C : Addr) : Prop where
  g : mg x = some (.ref C)
  x : PySem.W.excIn K C [.type "ValueError", .type "Exception", .type "BaseException", .type "object"] "ValueError.__new__" = true
  k : PySem.W.keepIn K (.ref C) = true
  b : PySem.W.subIn K (.ref C) (.type "BaseException") = some true
  t : PySem.W.typeIn K (.ref C) = some (.type "type")
section
variable {P : Program} {w : World} {K : PySem.W.Frag} {mg : Str → Option Value} {base : Heap} {CT : Addr}
/-! ### check_text, worth, ones -/
/-- a text is asked: behind it what is wanted of a writing (with its worth), and what of all else -/
def AskT (K : PySem.W.Frag) (v : V) (H : Hp) (good : Str → Prop) (bad : Prop) : Prop :=
  (∃ z, v = .str z ∧ z.length ≤ sizeLine ∧ (worthL (tl z) = 0 → bad) ∧ (worthL (tl z) ≠ 0 → good z)) ∨ (NoStr K H v ∧ bad)
def spCheckText (K : PySem.W.Frag) (C : Addr) : Sp := fun vs H Q E => ∃ v, vs = [v] ∧ AskT K v H (fun _ => ∀ H', Same H H' → Q .non H') (∀ H', Same H H' → E (.ref C) none H')
def spWorth (K : PySem.W.Frag) (C : Addr) : Sp := fun vs H Q E => ∃ v, vs = [v] ∧ AskT K v H (fun z => ∀ H', Same H H' → Q (.int (worthL (tl z))) H') (∀ H', Same H H' → E (.ref C) none H')
def spOnes (K : PySem.W.Frag) (C : Addr) : Sp := fun vs H Q E => ∃ v, vs = [v] ∧ AskT K v H (fun z => ∀ H', Same H H' → Q (.int (((tl z).count 49 : Nat) : Int)) H') (∀ H', Same H H' → E (.ref C) none H')
end
end Fo
namespace Fo
open PySem L2 FO PySem.Spec PyProof.Rows
/-! ### calls of a name that holds a def; errors that are caught -/
/-- the i-th slot holds a def f with the promise sp; what is raised is wished for by W -/
def tCallVS (i : Nat) (S : Addr → Sp → Prop) (W : WX) (t : TA) : TE := fun σ H Q => ∃ f sp, σ[i]? = some (some (.ref f)) ∧ S f sp ∧ t σ H fun vs H1 => sp vs H1 Q (WE W σ)
/-- the def at f keeps sp -/
structure Ka (P : Program) (w : World) (K : PySem.W.Frag) (mg : Str → Option Value) (base : Heap) (CX : CXT) (k : Nat) (f : Addr) (sp : Sp) : Prop where
  ex : ∃ (fd : FuncData) (ps : List Str), FnOk P w K mg base CX k f fd ps sp ∧ PySem.W.keepIn K (.ref f) = true ∧ Binds K fd ps []
section
variable {X : Cx} {k j i : Nat} {x : Str} {p pos : Pos} {e : Expr} {es : List Expr} {t : TA}
theorem pkV {W : WX} {S : Addr → Sp → Prop} (A : ∀ f sp, S f sp → Ka X.prog X.w X.K X.mg X.base (L2.CX X.prog X.w) k f sp) (tk : Takes X W) (hr : Room j X.A) (hk : k ≤ j) (hN : X.N[i]? = some x) (hv : Vis X.env.scope x) (ha : PA X (e :: es) t)
    (hdb : (x == ("__debug__" : Str)) = false := by decide)
    (hcd : (x == ("__classdict__" : Str)) = false := by decide)
    (he : starEach (e :: es) X.env = (false, eval e X.env) :: starEach es X.env := by rfl)
    (hpl : (backTo pos (starEach es X.env)).any (·.1) = false := by rfl) :
    PE X (.Call (.Name x p) (e :: es) [] pos) (tCallVS i S W t) := by
  refine ⟨fun pins s σ H Q I h => ?_⟩
  obtain ⟨f, sp, hs, hS, ht⟩ := h
  obtain ⟨fd, ps, F, kp, hb⟩ := (A f sp hS).ex
  have load := (pe_var (pos := p) hN hv hdb hcd).run pins s σ H (fun v H1 => v = .ref f ∧ H1 = H) I ⟨.ref f, hs, rfl, rfl⟩
  refine wpAny_Call_Name_kw (thn load fun u s1 back => ?_)
  obtain ⟨v, H1, I1, r1, ev, eH⟩ := back
  subst ev eH
  have eu : u = Value.ref f := r1
  subst eu
  have run := ha.run pos pins s1 σ _ _ I1 ht
  refine PySem.W.callWith_K (h₀ := X.base) I.ok.mod.kin kp (thn run fun us s2 back => ?_) he hpl
  obtain ⟨vs, H2, I2, r, q⟩ := back
  exact ⟨I2.kIn, run_fnS F (hr.mono hk) hb (passAt tk σ) I2 r q⟩
/-- isinstance(error, c) where the error's class is only known in the reading -/
theorem isE {a : Addr} {oe : Obj} {cls : Value} {d : Option Addr} {pn : List (Addr × Obj)} (hz : Zc cls d oe) (hf : ∃ vs, oe.data = .fields vs) :
    CallR (X.suite a ((a, oe) :: pn)) (.builtin "isinstance") (fun xs H Q => ∃ D, cls = .ref D ∧ d = none ∧ ExcC X.K D ∧ rIsE X.K D a xs H Q) := by
  intro pins s σ H xs us Q I r h
  obtain ⟨D, rfl, rfl, C, h⟩ := h
  exact call_isE C hz hf pins s σ H xs us Q I r h
end
/-- the error class at D, as isinstance and except ask it: the base at O, and of the three classes the n-th is its own -/
structure ErK (K : PySem.W.Frag) (O D : Addr) (cs : List (Addr × Bool)) : Prop where
  c : ExcC K D
  up : PySem.W.exmOne K (.ref D) (.ref O) = some true
  is : ∀ p ∈ cs, PySem.W.kitOne K (.ref D) (.ref p.1) = some p.2
end Fo
namespace Fo
open PySem L2 FO
section
variable {P : Program} {w : World} {K : PySem.W.Frag} {mg : Str → Option Value} {base : Heap} {CM : Addr}
/-! ### check_ones, greatest_of, greatest -/
/-- a number from 1 to m is asked -/
def AskN (K : PySem.W.Frag) (v : V) (H : Hp) (m : Int) (good : Int → Prop) (bad : Prop) : Prop :=
  (∃ n : Int, v = .int n ∧ (¬ (1 ≤ n ∧ n ≤ m) → bad) ∧ (1 ≤ n → n ≤ m → good n)) ∨ (IsW K H v false ∧ bad)
def spCheckOnes (K : PySem.W.Frag) (C : Addr) : Sp := fun vs H Q E => ∃ (v : V) (m : Int), vs = [v, .int m] ∧ AskN K v H m (fun _ => Q .non H) (E (.ref C) none H)
theorem scCheckOnes : FnScope ["many", "most"] ["many", "most"] (defScope sCheckOnes) := ⟨rfl, rfl, rfl, by decide +kernel, rfl, by decide +kernel, by decide +kernel⟩
theorem ok_checkOnes (D : Dn K mg "check_ones" sCheckOnes) (T : ErC K mg "BadOnes" CM) (W : Kp P w K mg base CX0 1 "is_whole" (spWhole K)) : Kp P w K mg base (L2.CX P w) 2 "check_ones" (spCheckOnes K CM) := by
  obtain ⟨f, fd, F, hm⟩ := D.ex
  refine ⟨f, fd, ["many", "most"], F.okX scCheckOnes (fun vs H Q E h => ?_) (fun cdv A outer s H vs Q E hr h => ?_), hm, F.kp, F.binds fun _ _ _ _ _ _ us hl => match us, hl with | [_, _], _ => rfl⟩
  · obtain ⟨v, m, rfl, _⟩ := h
    rfl
  · obtain ⟨v, m, rfl, h⟩ := h
    refine ⟨_, pss_one (ps_if (PW.pt (pw_or (pt_not (pt_val (pk W hr (by decide) rfl (pa_cons (pv 0) pa_nil)))) (pw_or1 (pt_not (pt_chain op_le op_le pe_int (pv 0) (pv 1))))))
      (pss_one (ps_raise rfl (takes_of rfl rfl rfl rfl) (pmk_own PySem.F.excBase_ValueError T.x T.g T.k (raises_own T.b T.t) rfl))) pss_nil), ?_⟩
    rcases h with ⟨n, rfl, kb, kg⟩ | ⟨nw, kb⟩
    · refine ⟨_, rfl, _, _, rfl, IsW.int n, _, rfl, iteF ?_⟩
      refine ⟨_, rfl, _, _, rfl, rfl, _, rfl, ?_⟩
      by_cases h1 : 1 ≤ n
      · refine ifT (decide_eq_true h1) ⟨_, rfl, _, _, rfl, rfl, _, rfl, ?_⟩
        by_cases h2 : n ≤ m
        · exact ifF (by rw [decide_eq_true h2]; rfl) (kg h1 h2)
        · exact ifT (by rw [decide_eq_false h2]; rfl) (kb (fun z => h2 z.2))
      · exact ifF (decide_eq_false h1) ⟨_, rfl, iteT (kb (fun z => h1 z.1))⟩
    · exact ⟨_, rfl, _, _, rfl, nw, _, rfl, iteT (iteT kb)⟩
def spGreatestOf : Sp := fun vs H Q _ => ∃ n : Nat, vs = [.int (n : Nat)] ∧ 1 ≤ n ∧ n ≤ 3000 ∧ ∀ H', Same H H' → Q (.int (gr n : Nat)) H'
theorem scGreatestOf : FnScope ["many", "found", "left", "time"] ["many"] (defScope sGreatestOf) := ⟨rfl, rfl, rfl, by decide +kernel, rfl, by decide +kernel, by decide +kernel⟩
theorem at342 (n : Nat) : atI [V.int 3, V.int 4, V.int 2] ((n : Int) % 3) = some (.int (cG n : Nat)) := by
  have h : n % 3 = 0 ∨ n % 3 = 1 ∨ n % 3 = 2 := by omega
  unfold cG
  rcases h with e | e | e
  · rw [if_pos e, show (n : Int) % 3 = ((0 : Nat) : Int) by omega]
    exact atI_nat rfl
  · rw [if_neg (by omega), if_pos e, show (n : Int) % 3 = ((1 : Nat) : Int) by omega]
    exact atI_nat rfl
  · rw [if_neg (by omega), if_neg (by omega), show (n : Int) % 3 = ((2 : Nat) : Int) by omega]
    exact atI_nat rfl
theorem cG_le {n : Nat} (h : 2 ≤ n) : cG n ≤ n := by
  unfold cG
  split
  · omega
  · split <;> omega
theorem ok_greatestOf (D : Dn K mg "greatest_of" sGreatestOf) (B : Bi mg) : Kp P w K mg base CX0 1 "greatest_of" spGreatestOf := by
  obtain ⟨f, fd, F, hm⟩ := D.ex
  refine ⟨f, fd, ["many"], F.ok scGreatestOf (fun vs H Q E h => ?_) (fun cdv A outer s H vs Q E hr h => ?_), hm, F.kp, F.binds fun _ _ _ _ _ _ us hl => match us, hl with | [_], _ => rfl⟩
  · obtain ⟨n, rfl, _⟩ := h
    rfl
  · obtain ⟨n, rfl, h1, h2, k⟩ := h
    refine ⟨_, pss_cons (ps_if (pt_cmpR op_eq (pv 0) pe_int (nomark _)) (pss_one (ps_ret pe_int)) pss_nil)
      (pss_cons (ps_set (i := 1) scGreatestOf.nd rfl (Or.inl rfl) (pe_ix ix_tup (pe_tup (pa_cons pe_int (pa_cons pe_int (pa_cons pe_int pa_nil)))) (pe_op op_mod (pv 0) pe_int) (fun _ _ => rfl)))
      (pss_cons (ps_set (i := 2) scGreatestOf.nd rfl (Or.inl rfl) (pe_op op_sub (pv 0) (pe_ix ix_tup (pe_tup (pa_cons pe_int (pa_cons pe_int (pa_cons pe_int pa_nil)))) (pe_op op_mod (pv 0) pe_int) (fun _ _ => rfl))))
      (pss_cons (ps_for PassesOwn.never rfl (pi_range1 rfl B.range (pa_cons (pe_op op_fdiv (pv 2) pe_int) pa_nil)) (pg_name (i := 3) scGreatestOf.nd rfl (Or.inl rfl))
        (pss_one (ps_aug (i := 1) scGreatestOf.nd rfl (Or.inl rfl) pe_int iop_mul)))
      (pss_one (ps_ret (pv 1)))))), ?_⟩
    refine ⟨_, rfl, rfl, _, rfl, ?_⟩
    by_cases e1 : n = 1
    · subst e1
      exact ifT (decide_eq_true rfl) (k H (Same.refl H))
    refine ifF (decide_eq_false (fun z => e1 (by have := V.int.inj z; omega))) ?_
    have hc := cG_le (show 2 ≤ n by omega)
    refine ⟨(show 3 ≤ sizeLine by decide), fun T hT => ?_⟩
    refine ⟨_, rfl, _, _, rfl, rfl, (by show (0 : Int) < 3; decide), T, _, _, _, rfl, rfl, SqT.of upd_same, at342 n, ?_⟩
    refine ⟨_, rfl, (show 3 ≤ sizeLine by decide), fun U hU => ?_⟩
    refine ⟨_, rfl, _, _, rfl, rfl, (by show (0 : Int) < 3; decide), U, _, _, _, rfl, rfl, SqT.of upd_same, at342 n, _, _, rfl, rfl, ?_⟩
    have e3 : ((n : Int) - (cG n : Nat)) / 3 = (((n - cG n) / 3 : Nat) : Int) := by omega
    refine ⟨_, rfl, _, _, rfl, rfl, ⟨by decide, by decide⟩, _, rfl, by rw [e3]; omega, by rw [e3]; omega, ?_⟩
    rw [e3]
    refine for_range (lo := 0) (n := ((n - cG n) / 3)) (fun i σ H' => ∃ v3 : Option V, σ = [some (.int (n : Nat)), some (.int ((cG n * 3 ^ i : Nat) : Int)), some (.int ((n : Int) - (cG n : Nat))), v3] ∧ Same H H')
      ⟨_, by rw [Nat.pow_zero, Nat.mul_one]; rfl, sm_new (sm_upd hT) hU⟩ ?_ ?_
    · rintro i σ H1 hi ⟨v3, rfl, hs⟩
      refine ⟨_, rfl, _, _, rfl, rfl, .inr ⟨by decide, by decide⟩, ?_⟩
      refine ⟨some (.int (0 + (i : Int))), ?_, hs⟩
      have e : (((cG n * 3 ^ i : Nat) : Int)) * 3 = ((cG n * 3 ^ (i + 1) : Nat) : Int) := by
        rw [Nat.pow_succ, ← Nat.mul_assoc]
        omega
      show [some (V.int (n : Nat)), some (V.int (((cG n * 3 ^ i : Nat) : Int) * 3)), _, _] = _
      rw [e]
    · rintro σ H1 ⟨v3, rfl, hs⟩
      refine ⟨_, rfl, ?_⟩
      have q := k H1 hs
      unfold gr at q
      rw [if_neg e1] at q
      exact q
def spGreatest (K : PySem.W.Frag) (C : Addr) : Sp := fun vs H Q E => ∃ v : V, vs = [v] ∧ AskN K v H 3000 (fun n => ∀ H', Same H H' → Q (.int (gr n.toNat : Nat)) H') (E (.ref C) none H)
end
end Fo
namespace Fo
open PySem L2 FO
/-! ### the table in memory -/
def sgS (s : Nat) : Str := if s = 43 then "+" else "*"
def WT (x : Wy) : List V := [.str (sgS x.2.1), .int (x.2.2.1 : Nat), .int (x.2.2.2 : Nat)]
def fl (k : Nat) : List Int := (List.range k).map fun j => ((F j : Nat) : Int)
theorem fl_len (k : Nat) : (fl k).length = k := by simp [fl]
theorem fl_at {k j : Nat} (h : j < k) : atI ((fl k).map V.int) (j : Int) = some (.int (F j : Nat)) := atI_nat (by simp [fl, h])
theorem fl_succ (k : Nat) : fl (k + 1) = fl k ++ [((F k : Nat) : Int)] := by simp [fl, List.range_succ]
/-- the list of the last steps -/
structure WaysOk (H : Hp) (ws : List V) (k : Nat) : Prop where
  len : ws.length = k
  low : ∀ n, n < 2 → n < k → ws[n]? = some .non
  at' : ∀ n, 2 ≤ n → n < k → ∃ t, ws[n]? = some (.ref t) ∧ H t = some (.tup (WT (best n)))
theorem WaysOk.same {H H' : Hp} {ws : List V} {k : Nat} (h : WaysOk H ws k) (s : Same H H') : WaysOk H' ws k :=
  ⟨h.len, h.low, fun n h1 h2 => let ⟨t, a, b⟩ := h.at' n h1 h2; ⟨t, a, s _ _ b⟩⟩
theorem WaysOk.more {H : Hp} {ws : List V} {k : Nat} {t : Addr} (h : WaysOk H ws k) (hk : 2 ≤ k) (ht : H t = some (.tup (WT (best k)))) : WaysOk H (ws ++ [.ref t]) (k + 1) := by
  refine ⟨by rw [List.length_append, h.len]; rfl, fun n h1 h2 => ?_, fun n h1 h2 => ?_⟩
  · rw [List.getElem?_append_left (by rw [h.len]; omega)]
    exact h.low n h1 (by omega)
  · by_cases e : n = k
    · subst e
      exact ⟨t, by rw [List.getElem?_append_right (by rw [h.len]; omega), h.len, Nat.sub_self]; rfl, ht⟩
    · obtain ⟨u, a, b⟩ := h.at' n h1 (by omega)
      exact ⟨u, by rw [List.getElem?_append_left (by rw [h.len]; omega)]; exact a, b⟩
section
variable {P : Program} {w : World} {K : PySem.W.Frag} {mg : Str → Option Value} {base : Heap} {CN : Addr}
/-! ### table_of -/
def spTable : Sp := fun vs H Q _ => ∃ m : Nat, vs = [.int (m : Nat)] ∧ 1 ≤ m ∧ m ≤ 200 ∧ ∀ H' p q r ws, Same H H' → H q = none → H r = none → H' p = some (.tup [.ref q, .ref r]) → H' q = some (.lst ((fl (m + 1)).map V.int)) → H' r = some (.lst ws) → WaysOk H' ws (m + 1) → Q (.ref p) H'
theorem scTable : FnScope ["most", "few", "ways", "number", "best", "way", "one"] ["most"] (defScope sTable) := ⟨rfl, rfl, rfl, by decide +kernel, rfl, by decide +kernel, by decide +kernel⟩
theorem ok_table (D : Dn K mg "table_of" sTable) (B : Bi mg) : Kp P w K mg base CX0 1 "table_of" spTable := by
  obtain ⟨f, fd, F', hm⟩ := D.ex
  refine ⟨f, fd, ["most"], F'.ok scTable (fun vs H Q E h => ?_) (fun cdv A outer s H vs Q E hr h => ?_), hm, F'.kp, F'.binds fun _ _ _ _ _ _ us hl => match us, hl with | [_], _ => rfl⟩
  · obtain ⟨m, rfl, _⟩ := h
    rfl
  · obtain ⟨m, rfl, h1, h2, k⟩ := h
    refine ⟨_, pss_cons (ps_par (i := 1) (j := 2) (by rfl) scTable.nd rfl rfl (by decide) rfl rfl (pa_cons (pe_lst (pa_cons pe_int (pa_cons pe_int pa_nil))) (pa_cons (pe_lst (pa_cons pe_non (pa_cons pe_non pa_nil))) pa_nil)) (by rfl))
      (pss_cons (ps_for PassesOwn.never rfl (pi_range2 (by rfl) B.range (pa_cons pe_int (pa_cons (pe_op op_add (pv 0) pe_int) pa_nil))) (pg_name (i := 3) scTable.nd rfl (Or.inl rfl))
        (pss_cons (ps_par (i := 4) (j := 5) (by rfl) scTable.nd rfl rfl (by decide) rfl rfl
            (pa_cons (pe_op op_add (pe_ix ix_list (pv 1) pe_int (fun _ _ => rfl)) (pe_ix ix_list (pv 1) (pe_op op_sub (pv 3) pe_int) (fun _ _ => rfl)))
            (pa_cons (pe_tup (pa_cons pe_str (pa_cons pe_int (pa_cons (pe_op op_sub (pv 3) pe_int) pa_nil)))) pa_nil)) (by rfl))
        (pss_cons (ps_for PassesOwn.never rfl (pi_range2 (by rfl) B.range (pa_cons pe_int (pa_cons (pe_op op_add (pe_op op_fdiv (pv 3) pe_int) pe_int) pa_nil))) (pg_name (i := 6) scTable.nd rfl (Or.inl rfl))
          (C8.pss_cut (ps_if (pt_cmpR op_lt (pe_op op_add (pe_ix ix_list (pv 1) (pv 6) (fun _ _ => rfl)) (pe_ix ix_list (pv 1) (pe_op op_sub (pv 3) (pv 6)) (fun _ _ => rfl))) (pv 4) (nomark _))
            (pss_one (ps_par (i := 4) (j := 5) (by rfl) scTable.nd rfl rfl (by decide) rfl rfl
              (pa_cons (pe_op op_add (pe_ix ix_list (pv 1) (pv 6) (fun _ _ => rfl)) (pe_ix ix_list (pv 1) (pe_op op_sub (pv 3) (pv 6)) (fun _ _ => rfl)))
              (pa_cons (pe_tup (pa_cons pe_str (pa_cons (pv 6) (pa_cons (pe_op op_sub (pv 3) (pv 6)) pa_nil)))) pa_nil)) (by rfl))) pss_nil)
          (pss_one (ps_if (PW.pt (pw_and (pt_cmpR op_eq (pe_op op_mod (pv 3) (pv 6)) pe_int (nomark _))
              (pw_and1 (pt_cmpR op_lt (pe_op op_add (pe_ix ix_list (pv 1) (pv 6) (fun _ _ => rfl)) (pe_ix ix_list (pv 1) (pe_op op_fdiv (pv 3) (pv 6)) (fun _ _ => rfl))) (pv 4) (nomark _)))))
            (pss_one (ps_par (i := 4) (j := 5) (by rfl) scTable.nd rfl rfl (by decide) rfl rfl
              (pa_cons (pe_op op_add (pe_ix ix_list (pv 1) (pv 6) (fun _ _ => rfl)) (pe_ix ix_list (pv 1) (pe_op op_fdiv (pv 3) (pv 6)) (fun _ _ => rfl)))
              (pa_cons (pe_tup (pa_cons pe_str (pa_cons (pv 6) (pa_cons (pe_op op_fdiv (pv 3) (pv 6)) pa_nil)))) pa_nil)) (by rfl))) pss_nil))))
        (pss_cons (ps_expr (pe_bm PySem.F.plainAttrs_list PySem.F.slot_list_append PySem.F.type_list_append mt_append (pv 1) (pa_cons (pv 4) pa_nil)))
        (pss_one (ps_expr (pe_bm PySem.F.plainAttrs_list PySem.F.slot_list_append PySem.F.type_list_append mt_append (pv 2) (pa_cons (pv 5) pa_nil))))))))
      (pss_one (ps_ret (pe_tup (pa_cons (pv 1) (pa_cons (pv 2) pa_nil)))))), ?_⟩
    have big : (16777216 : Nat) = sizeLine := PySem.sizeLine_eq.symm
    refine ⟨(show 2 ≤ sizeLine by decide), fun q nq => ?_⟩
    obtain ⟨H1, e1, s1, hq⟩ := ab nq (.lst [V.int 0, V.int 1])
    rw [e1]
    refine ⟨(show 2 ≤ sizeLine by decide), fun r nr => ?_⟩
    obtain ⟨H2, e2, s2, hr2⟩ := ab nr (.lst [V.non, V.non])
    rw [e2]
    have nr0 : H r = none := s1.free nr
    have qr : q ≠ r := ne_of_none hq nr
    have em : ((m : Int) + 1) = ((m + 1 : Nat) : Int) := by omega
    refine ⟨_, _, rfl, _, rfl, _, _, rfl, rfl, 2, _, rfl, ⟨by decide, by decide, by rw [em]; omega, by rw [em]; omega⟩, ?_⟩
    rw [show ((m : Int) + 1 - 2).toNat = m - 1 by omega]
    have fl2 : (fl 2).map V.int = [V.int 0, V.int 1] := by decide +kernel
    refine for_range (lo := 2) (n := m - 1) (fun i σ H' => ∃ (ws : List V) (v3 v4 v5 v6 : Option V), σ = [some (.int (m : Nat)), some (.ref q), some (.ref r), v3, v4, v5, v6] ∧ Same H H' ∧ H' q = some (.lst ((fl (i + 2)).map V.int)) ∧ H' r = some (.lst ws) ∧ WaysOk H' ws (i + 2))
      ⟨_, _, _, _, _, rfl, s1.trans s2, by rw [fl2]; exact sm_at s2 hq, hr2, ⟨rfl, fun n a b => ?_, fun n a b => absurd b (by omega)⟩⟩ ?_ ?_
    · have : n = 0 ∨ n = 1 := by omega
      rcases this with rfl | rfl <;> rfl
    · rintro i σ H3 hi ⟨ws, v3, v4, v5, v6, rfl, s3, hq3, hr3, wo⟩
      have en : (2 : Int) + (i : Int) = ((i + 2 : Nat) : Int) := by omega
      rw [en]
      obtain ⟨n, hn⟩ : ∃ n, n = i + 2 := ⟨_, rfl⟩
      rw [← hn] at hq3 wo ⊢
      have hn2 : 2 ≤ n := by omega
      have hn200 : n ≤ 200 := by omega
      have es : ((n : Nat) : Int) - 1 = ((n - 1 : Nat) : Int) := by omega
      have sq : ∀ {H' : Hp}, Same H3 H' → SqL K H' q ((fl n).map V.int) := fun s' => SqL.of (sm_at s' hq3)
      refine ⟨_, rfl, q, _, _, _, rfl, rfl, sq (Same.refl _), fl_at (j := 1) (by omega), _, rfl, _, rfl, _, _, rfl, rfl, q, _, _, _, rfl, rfl, sq (Same.refl _), by rw [es]; exact fl_at (j := n - 1) (by omega), _, _, rfl, rfl, ?_⟩
      refine ⟨_, rfl, _, _, rfl, rfl, (show 3 ≤ sizeLine by decide), fun t nt => ?_⟩
      obtain ⟨H4, e4, s4, ht⟩ := ab nt (.tup [V.str "+", V.int 1, V.int (((n : Nat) : Int) - 1)])
      rw [e4]
      rw [es, show [V.str "+", V.int 1, V.int ((n - 1 : Nat) : Int)] = WT (bestAt n 0) from rfl] at ht
      refine ⟨_, _, rfl, ?_⟩
      have eh : ((n : Nat) : Int) / 2 + 1 = ((n / 2 + 1 : Nat) : Int) := by omega
      refine ⟨_, rfl, _, _, rfl, rfl, ⟨by decide, by decide⟩, _, _, rfl, rfl, 2, _, rfl, ⟨by decide, by decide, by rw [eh]; omega, by rw [eh]; omega⟩, ?_⟩
      rw [show (((n : Nat) : Int) / 2 + 1 - 2).toNat = n / 2 - 1 by omega]
      refine for_range (lo := 2) (n := n / 2 - 1) (fun j σ H' => ∃ (t : Addr) (v6 : Option V), σ = [some (.int (m : Nat)), some (.ref q), some (.ref r), some (.int (n : Nat)), some (.int ((bestAt n j).1 : Nat)), some (.ref t), v6] ∧ Same H3 H' ∧ H' t = some (.tup (WT (bestAt n j))))
        ⟨t, v6, rfl, s4, ht⟩ ?_ ?_
      · rintro j σ H5 hj ⟨t, v6, rfl, s5, ht⟩
        have eo : (2 : Int) + (j : Int) = ((2 + j : Nat) : Int) := by omega
        rw [eo]
        obtain ⟨o, ho⟩ : ∃ o, o = 2 + j := ⟨_, rfl⟩
        rw [bestAt_succ, ← ho]
        have ho2 : 2 ≤ o := by omega
        have hon : o ≤ n / 2 := by omega
        have ed : ((n : Nat) : Int) - ((o : Nat) : Int) = ((n - o : Nat) : Int) := by omega
        have ev : ((n : Nat) : Int) / ((o : Nat) : Int) = ((n / o : Nat) : Int) := by omega
        have emd : ((n : Nat) : Int) % ((o : Nat) : Int) = ((n % o : Nat) : Int) := by omega
        have hdv : n / o < n := Nat.div_lt_self (by omega) (by omega)
        generalize bestAt n j = st at ht
        refine ⟨fun σ H' => ∃ (t : Addr), σ = [some (.int (m : Nat)), some (.ref q), some (.ref r), some (.int (n : Nat)), some (.int ((innerA n st o).1 : Nat)), some (.ref t), some (.int (o : Nat))] ∧ Same H3 H' ∧ H' t = some (.tup (WT (innerA n st o))), ?_, ?_⟩
        · have a1 := fl_at (k := n) (j := o) (by omega)
          have a2 := fl_at (k := n) (j := n - o) (by omega)
          rw [← ed] at a2
          refine ⟨_, rfl, _, rfl, q, _, _, _, rfl, rfl, sq s5, a1, _, rfl, _, rfl, _, rfl, _, _, rfl, rfl, q, _, _, _, rfl, rfl, sq s5, a2, _, _, rfl, rfl, _, rfl, _, _, rfl, rfl, _, rfl, ?_⟩
          by_cases hc : F o + F (n - o) < st.1
          · refine ifT (decide_eq_true (by omega)) ?_
            refine ⟨_, rfl, _, rfl, q, _, _, _, rfl, rfl, sq s5, a1, _, rfl, _, rfl, _, rfl, _, _, rfl, rfl, q, _, _, _, rfl, rfl, sq s5, a2, _, _, rfl, rfl, ?_⟩
            refine ⟨_, rfl, _, rfl, _, rfl, _, _, rfl, rfl, (show 3 ≤ sizeLine by decide), fun u nu => ?_⟩
            have ei : innerA n st o = (F o + F (n - o), 43, o, n - o) := if_pos hc
            refine ⟨_, _, rfl, u, ?_, sm_new s5 nu, ?_⟩
            · rw [ei]
              show [some (V.int (m : Nat)), some (.ref q), some (.ref r), some (.int (n : Nat)), some (.int (((F o : Nat) : Int) + ((F (n - o) : Nat) : Int))), some (.ref u), some (.int (o : Nat))] = _
              rw [show ((F o : Nat) : Int) + ((F (n - o) : Nat) : Int) = ((F o + F (n - o) : Nat) : Int) by omega]
            · rw [upd_same, ei]
              show some (HO.tup [V.str "+", V.int (o : Nat), V.int (((n : Nat) : Int) - ((o : Nat) : Int))]) = _
              rw [ed]
              rfl
          · refine ifF (decide_eq_false (by omega)) ?_
            have ei : innerA n st o = st := if_neg hc
            rw [ei]
            exact ⟨t, rfl, s5, ht⟩
        · rintro σ H6 ⟨t, rfl, s6, ht⟩
          have a1 := fl_at (k := n) (j := o) (by omega)
          have a2 := fl_at (k := n) (j := n / o) (by omega)
          rw [← ev] at a2
          show tIfS _ _ _ _ _ _
          unfold innerT
          generalize innerA n st o = st1 at ht
          refine ⟨_, rfl, _, rfl, _, _, rfl, rfl, (by omega), rfl, _, rfl, ?_⟩
          by_cases hm0 : n % o = 0
          · refine ifT (decide_eq_true (by show V.int (((n : Nat) : Int) % ((o : Nat) : Int)) = V.int 0; rw [emd, hm0]; rfl)) ?_
            refine ⟨_, rfl, _, rfl, q, _, _, _, rfl, rfl, sq s6, a1, _, rfl, _, rfl, _, rfl, _, _, rfl, rfl, ⟨by omega, by omega⟩, q, _, _, _, rfl, rfl, sq s6, a2, _, _, rfl, rfl, _, rfl, _, _, rfl, rfl, _, rfl, ?_⟩
            by_cases hc : F o + F (n / o) < st1.1
            · refine ifT (decide_eq_true (by omega)) ?_
              refine ⟨_, rfl, _, rfl, q, _, _, _, rfl, rfl, sq s6, a1, _, rfl, _, rfl, _, rfl, _, _, rfl, rfl, ⟨by omega, by omega⟩, q, _, _, _, rfl, rfl, sq s6, a2, _, _, rfl, rfl, ?_⟩
              refine ⟨_, rfl, _, rfl, _, rfl, _, _, rfl, rfl, ⟨by omega, by omega⟩, (show 3 ≤ sizeLine by decide), fun u nu => ?_⟩
              have ei : innerB n st1 o = (F o + F (n / o), 42, o, n / o) := if_pos ⟨hm0, hc⟩
              refine ⟨_, _, rfl, u, some (.int (o : Nat)), ?_, sm_new s6 nu, ?_⟩
              · rw [ei]
                show [some (V.int (m : Nat)), some (.ref q), some (.ref r), some (.int (n : Nat)), some (.int (((F o : Nat) : Int) + ((F (n / o) : Nat) : Int))), some (.ref u), some (.int (o : Nat))] = _
                rw [show ((F o : Nat) : Int) + ((F (n / o) : Nat) : Int) = ((F o + F (n / o) : Nat) : Int) by omega]
              · rw [upd_same, ei]
                show some (HO.tup [V.str "*", V.int (o : Nat), V.int (((n : Nat) : Int) / ((o : Nat) : Int))]) = _
                rw [ev]
                rfl
            · refine ifF (decide_eq_false (by omega)) ?_
              have ei : innerB n st1 o = st1 := if_neg (fun z => hc z.2)
              rw [ei]
              exact ⟨t, _, rfl, s6, ht⟩
          · refine ifF (decide_eq_false (by show ¬ V.int (((n : Nat) : Int) % ((o : Nat) : Int)) = V.int 0; rw [emd]; intro z; have := V.int.inj z; omega)) (iteF ?_)
            have ei : innerB n st1 o = st1 := if_neg (fun z => hm0 z.1)
            rw [ei]
            exact ⟨t, _, rfl, s6, ht⟩
      · rintro σ H5 ⟨t, v6, rfl, s5, ht⟩
        have bo := best_ok hn2 hn200
        have eb : bestAt n (n / 2 - 1) = best n := rfl
        rw [eb] at ht ⊢
        rw [bo.val]
        refine ⟨_, rfl, .inl ⟨rfl, _, SqL.of (sm_at s5 hq3)⟩, _, rfl, q, _, _, rfl, rfl, sm_at s5 hq3, by rw [List.length_map, fl_len, ← big]; omega, ?_⟩
        have hr5 : H5 r = some (.lst ws) := sm_at s5 hr3
        have hr6 : upd H5 q (.lst ((fl n).map V.int ++ [V.int ((F n : Nat) : Int)])) r = some (.lst ws) := by rw [upd_ne (Ne.symm qr)]; exact hr5
        refine ⟨_, rfl, .inl ⟨rfl, _, SqL.of hr6⟩, _, rfl, r, _, _, rfl, rfl, hr6, by rw [wo.len, ← big]; omega, ?_⟩
        have tq : t ≠ q := ne_of ht (sm_at s5 hq3) (by intro z; cases z)
        have tr : t ≠ r := ne_of ht hr5 (by intro z; cases z)
        have keep : ∀ b o, H5 b = some o → b ≠ q → b ≠ r → upd (upd H5 q (.lst ((fl n).map V.int ++ [V.int ((F n : Nat) : Int)]))) r (.lst (ws ++ [.ref t])) b = some o := fun b o e n1 n2 => by
          rw [upd_ne n2, upd_ne n1]
          exact e
        refine ⟨ws ++ [.ref t], _, _, _, _, rfl, fun b o e => ?_, ?_, upd_same, ?_⟩
        · exact keep b o ((s3.trans s5) b o e) (ne_of_none e nq) (ne_of_none e nr0)
        · rw [upd_ne qr, upd_same, show i + 1 + 2 = n + 1 by omega, fl_succ, List.map_append]
          rfl
        · rw [show i + 1 + 2 = n + 1 by omega]
          have wo5 := wo.same s5
          have wo6 : WaysOk (upd (upd H5 q (.lst ((fl n).map V.int ++ [V.int ((F n : Nat) : Int)]))) r (.lst (ws ++ [.ref t]))) ws n := by
            refine ⟨wo5.len, wo5.low, fun x h1 h2 => ?_⟩
            obtain ⟨u, a, b⟩ := wo5.at' x h1 h2
            exact ⟨u, a, keep u _ b (ne_of b (sm_at s5 hq3) (by intro z; cases z)) (ne_of b hr5 (by intro z; cases z))⟩
          exact wo6.more hn2 (keep t _ ht tq tr)
    · rintro σ H3 ⟨ws, v3, v4, v5, v6, rfl, s3, hq3, hr3, wo⟩
      rw [show m - 1 + 2 = m + 1 by omega] at hq3 wo
      refine ⟨_, rfl, _, rfl, (show 2 ≤ sizeLine by decide), fun p np => ?_⟩
      obtain ⟨H4, e4, s4, hp⟩ := ab np (.tup [V.ref q, V.ref r])
      rw [e4]
      exact k H4 p q r ws (s3.trans s4) nq nr0 hp (sm_at s4 hq3) (sm_at s4 hr3) (wo.same s4)
end
end Fo
namespace Fo
open PySem L2 FO
section
variable {P : Program} {w : World} {K : PySem.W.Frag} {mg : Str → Option Value} {base : Heap} {CN CM : Addr}
/-! ### put, text_by -/
theorem tlA (x y : Str) : tl (x ++ y) = tl x ++ tl y := TL.tl_append x y
theorem lenT (x : Str) : x.length = (tl x).length := by simp [tl, Str.length]
theorem lenA (x y : Str) : (x ++ y).length = x.length + y.length := by rw [lenT, tlA, List.length_append, ← lenT, ← lenT]
def spPut : Sp := fun vs H Q _ => ∃ a s b : Str, vs = [.str a, .str s, .str b] ∧ a.length + s.length + b.length ≤ 10000 ∧ Q (.str (("(" : Str) ++ a ++ s ++ b ++ (")" : Str))) H
theorem scPut : FnScope ["one", "sign", "other"] ["one", "sign", "other"] (defScope sPut) := ⟨rfl, rfl, rfl, by decide +kernel, rfl, by decide +kernel, by decide +kernel⟩
theorem ok_put (D : Dn K mg "put" sPut) : Kp P w K mg base CX0 1 "put" spPut := by
  obtain ⟨f, fd, F', hm⟩ := D.ex
  refine ⟨f, fd, ["one", "sign", "other"], F'.ok scPut (fun vs H Q E h => ?_) (fun cdv A outer s H vs Q E hr h => ?_), hm, F'.kp, F'.binds fun _ _ _ _ _ _ us hl => match us, hl with | [_, _, _], _ => rfl⟩
  · obtain ⟨a, s, b, rfl, _⟩ := h
    rfl
  · obtain ⟨a, s, b, rfl, hl, k⟩ := h
    refine ⟨_, pss_one (ps_ret (pe_op op_add_str (pe_op op_add_str (pe_op op_add_str (pe_op op_add_str pe_str (pv 0)) (pv 1)) (pv 2)) pe_str)), ?_⟩
    have big : (16777216 : Nat) = sizeLine := PySem.sizeLine_eq.symm
    have n1 : ("(" : Str).length = 1 := by decide +kernel
    have n2 : (")" : Str).length = 1 := by decide +kernel
    exact ⟨_, rfl, _, _, rfl, rfl, by rw [n1, ← big]; omega, _, rfl, _, _, rfl, rfl, by rw [lenA, n1, ← big]; omega, _, rfl, _, _, rfl, rfl, by rw [lenA, lenA, n1, ← big]; omega, _, _, rfl, rfl, by rw [lenA, lenA, lenA, n1, n2, ← big]; omega, k⟩
def spTextBy (K : PySem.W.Frag) (n : Nat) : Sp := fun vs H Q _ => ∃ (r : Addr) (j k : Nat) (ws : List V), vs = [.ref r, .int (j : Nat)] ∧ SqL K H r ws ∧ WaysOk H ws k ∧ 1 ≤ j ∧ j < k ∧ j ≤ n ∧ k ≤ 201 ∧ ∀ t : Str, Wr (tl t) (j : Nat) (F j) → Q (.str t) H
theorem scTextBy : FnScope ["ways", "number", "sign", "one", "other"] ["ways", "number"] (defScope sTextBy) := ⟨rfl, rfl, rfl, by decide +kernel, rfl, by decide +kernel, by decide +kernel⟩
theorem wr_put {t1 t2 : Str} {j : Nat} (h2 : 2 ≤ j) (h : j ≤ 200) (w1 : Wr (tl t1) ((best j).2.2.1 : Nat) (F (best j).2.2.1)) (w2 : Wr (tl t2) ((best j).2.2.2 : Nat) (F (best j).2.2.2)) :
    Wr (tl (("(" : Str) ++ t1 ++ sgS (best j).2.1 ++ t2 ++ (")" : Str))) (j : Nat) (F j) := by
  have bo := best_ok h2 h
  rw [tlA, tlA, tlA, tlA, show tl ("(" : Str) = [40] by decide +kernel, show tl (")" : Str) = [41] by decide +kernel, bo.sum]
  rcases bo.how with ⟨e1, e2⟩ | ⟨e1, e2⟩
  · have q := Wr.plus w1 w2
    rw [e1, show tl (sgS 43) = [43] by decide +kernel]
    rw [show (((best j).2.2.1 : Nat) : Int) + (((best j).2.2.2 : Nat) : Int) = (j : Nat) by omega] at q
    simpa using q
  · have q := Wr.times w1 w2
    rw [e1, show tl (sgS 42) = [42] by decide +kernel]
    rw [show (((best j).2.2.1 : Nat) : Int) * (((best j).2.2.2 : Nat) : Int) = ((j : Nat) : Int) from by rw [← Int.natCast_mul, e2]] at q
    simpa using q
theorem ok_textBy (D : Dn K mg "text_by" sTextBy) (Pu : Kp P w K mg base CX0 1 "put" spPut) : ∀ n, Kp P w K mg base CX0 (n + 2) "text_by" (spTextBy K n)
  | 0 => by
    obtain ⟨f, fd, F', hm⟩ := D.ex
    refine ⟨f, fd, ["ways", "number"], F'.ok scTextBy (fun vs H Q E h => ?_) (fun cdv A outer s H vs Q E hr h => ?_), hm, F'.kp, F'.binds fun _ _ _ _ _ _ us hl => match us, hl with | [_, _], _ => rfl⟩
    · obtain ⟨r, j, k, ws, rfl, _⟩ := h
      rfl
    · obtain ⟨r, j, k, ws, rfl, _, _, h1, _, h0, _⟩ := h
      omega
  | n + 1 => by
    have ih := ok_textBy D Pu n
    obtain ⟨f, fd, F', hm⟩ := D.ex
    refine ⟨f, fd, ["ways", "number"], F'.ok scTextBy (fun vs H Q E h => ?_) (fun cdv A outer s H vs Q E hr h => ?_), hm, F'.kp, F'.binds fun _ _ _ _ _ _ us hl => match us, hl with | [_, _], _ => rfl⟩
    · obtain ⟨r, j, k, ws, rfl, _⟩ := h
      rfl
    · obtain ⟨r, j, k, ws, rfl, hS, wo, h1, hjk, hjn, hk, kk⟩ := h
      refine ⟨_, pss_cons (ps_if (pt_cmpR op_isN (pe_ix ix_list (pv 0) (pv 1) (fun _ _ => rfl)) pe_non (nomark _)) (pss_one (ps_ret pe_str)) pss_nil)
        (pss_cons (ps_asg (pe_ix ix_list (pv 0) (pv 1) (fun _ _ => rfl)) (pg_tup rfl (pgs_cons (pg_name (i := 2) scTextBy.nd rfl (.inl rfl)) (pgs_cons (pg_name (i := 3) scTextBy.nd rfl (.inl rfl)) (pgs_cons (pg_name (i := 4) scTextBy.nd rfl (.inl rfl)) pgs_nil)))))
        (pss_one (ps_ret (pk Pu hr (by omega) rfl (pa_cons (pk ih hr (Nat.le_refl _) rfl (pa_cons (pv 0) (pa_cons (pv 3) pa_nil))) (pa_cons (pv 2) (pa_cons (pk ih hr (Nat.le_refl _) rfl (pa_cons (pv 0) (pa_cons (pv 4) pa_nil))) pa_nil))))))), ?_⟩
      by_cases hj : j < 2
      · have e : j = 1 := by omega
        subst e
        refine ⟨_, rfl, _, rfl, r, _, _, _, rfl, rfl, hS, atI_nat (wo.low 1 (by decide) hjk), rfl, _, rfl, iteT ?_⟩
        refine kk _ ?_
        rw [show tl ("1" : Str) = [49] by decide +kernel, F_one]
        exact .one
      · obtain ⟨t, hw, ht⟩ := wo.at' j (by omega) hjk
        have bo := best_ok (show 2 ≤ j by omega) (show j ≤ 200 by omega)
        refine ⟨_, rfl, _, rfl, r, _, _, _, rfl, rfl, hS, atI_nat hw, rfl, _, rfl, iteF ?_⟩
        refine ⟨_, rfl, _, rfl, r, _, _, _, rfl, rfl, hS, atI_nat hw, t, _, rfl, SqT.of ht, rfl, _, _, rfl, _, _, rfl, _, _, rfl, rfl, ?_⟩
        have a2 := bo.a2
        have b2 := bo.b2
        refine ⟨_, rfl, _, rfl, r, _, k, ws, rfl, hS, wo, bo.a1, by omega, by omega, hk, fun t1 w1 => ?_⟩
        refine ⟨_, rfl, _, rfl, _, rfl, r, _, k, ws, rfl, hS, wo, bo.b1, by omega, by omega, hk, fun t2 w2 => ?_⟩
        refine ⟨t1, _, t2, rfl, ?_, kk _ (wr_put (by omega) (by omega) w1 w2)⟩
        have l1 := w1.len
        have l2 := w2.len
        have f1 := F_le (show (best j).2.2.1 ≤ 200 by omega)
        have f2 := F_le (show (best j).2.2.2 ≤ 200 by omega)
        have l3 : (sgS (best j).2.1).length = 1 := by
          rcases bo.how with ⟨e, _⟩ | ⟨e, _⟩
          · rw [e]; decide +kernel
          · rw [e]; decide +kernel
        rw [l3, lenT, lenT]
        omega
/-! ### check_number, fewest -/
def spCheckNumber (K : PySem.W.Frag) (C : Addr) : Sp := fun vs H Q E => ∃ (v : V), vs = [v] ∧ AskN K v H 200 (fun _ => Q .non H) (E (.ref C) none H)
theorem scCheckNumber : FnScope ["number"] ["number"] (defScope sCheckNumber) := ⟨rfl, rfl, rfl, by decide +kernel, rfl, by decide +kernel, by decide +kernel⟩
theorem ok_checkNumber (D : Dn K mg "check_number" sCheckNumber) (T : ErC K mg "BadNumber" CN) (mo : ∃ u, mg "MOST" = some u ∧ RelV (.int 200) u) (W : Kp P w K mg base CX0 1 "is_whole" (spWhole K)) : Kp P w K mg base (L2.CX P w) 2 "check_number" (spCheckNumber K CN) := by
  obtain ⟨f, fd, F', hm⟩ := D.ex
  refine ⟨f, fd, ["number"], F'.okX scCheckNumber (fun vs H Q E h => ?_) (fun cdv A outer s H vs Q E hr h => ?_), hm, F'.kp, F'.binds fun _ _ _ _ _ _ us hl => match us, hl with | [_], _ => rfl⟩
  · obtain ⟨v, rfl, _⟩ := h
    rfl
  · obtain ⟨v, rfl, h⟩ := h
    refine ⟨_, pss_one (ps_if (PW.pt (pw_or (pt_not (pt_val (pk W hr (by decide) rfl (pa_cons (pv 0) pa_nil)))) (pw_or1 (pt_not (pt_chain op_le op_le pe_int (pv 0) (C8.pe_gc rfl mo))))))
      (pss_one (ps_raise rfl (takes_of rfl rfl rfl rfl) (pmk_own PySem.F.excBase_ValueError T.x T.g T.k (raises_own T.b T.t) rfl))) pss_nil), ?_⟩
    rcases h with ⟨n, rfl, kb, kg⟩ | ⟨nw, kb⟩
    · refine ⟨_, rfl, _, _, rfl, IsW.int n, _, rfl, iteF ?_⟩
      refine ⟨_, rfl, _, _, rfl, rfl, _, rfl, ?_⟩
      by_cases h1 : 1 ≤ n
      · refine ifT (decide_eq_true h1) ⟨_, _, rfl, rfl, _, rfl, ?_⟩
        by_cases h2 : n ≤ 200
        · exact ifF (by rw [decide_eq_true h2]; rfl) (kg h1 h2)
        · exact ifT (by rw [decide_eq_false h2]; rfl) (kb (fun z => h2 z.2))
      · exact ifF (decide_eq_false h1) ⟨_, rfl, iteT (kb (fun z => h1 z.1))⟩
    · exact ⟨_, rfl, _, _, rfl, nw, _, rfl, iteT (iteT kb)⟩
def spFewest (K : PySem.W.Frag) (C : Addr) : Sp := fun vs H Q E => ∃ (v : V), vs = [v] ∧ AskN K v H 200 (fun n => ∀ H', Same H H' → Q (.int (F n.toNat : Nat)) H') (E (.ref C) none H)
theorem scFewest : FnScope ["number"] ["number"] (defScope sFewest) := ⟨rfl, rfl, rfl, by decide +kernel, rfl, by decide +kernel, by decide +kernel⟩
theorem ok_fewest (D : Dn K mg "fewest" sFewest) (C : Kp P w K mg base (L2.CX P w) 2 "check_number" (spCheckNumber K CN)) (T : Kp P w K mg base CX0 1 "table_of" spTable) : Kp P w K mg base (L2.CX P w) 3 "fewest" (spFewest K CN) := by
  obtain ⟨f, fd, F', hm⟩ := D.ex
  refine ⟨f, fd, ["number"], F'.okX scFewest (fun vs H Q E h => ?_) (fun cdv A outer s H vs Q E hr h => ?_), hm, F'.kp, F'.binds fun _ _ _ _ _ _ us hl => match us, hl with | [_], _ => rfl⟩
  · obtain ⟨v, rfl, _⟩ := h
    rfl
  · obtain ⟨v, rfl, h⟩ := h
    refine ⟨_, pss_cons (ps_expr (pkS C (takes_of rfl rfl rfl rfl) hr (by decide) rfl (pa_cons (pv 0) pa_nil)))
      (pss_one (ps_ret (pe_ix ix_list (pe_ix ix_tup (pk T hr (by decide) rfl (pa_cons (pv 0) pa_nil)) pe_int (fun _ _ => rfl)) (pv 0) (fun _ _ => rfl)))), ?_⟩
    rcases h with ⟨n, rfl, kb, kg⟩ | ⟨nw, kb⟩
    · refine ⟨_, rfl, _, rfl, .inl ⟨n, rfl, kb, fun h1 h2 => ?_⟩⟩
      obtain ⟨m, hm1⟩ : ∃ m : Nat, n = (m : Int) := ⟨n.toNat, by omega⟩
      subst hm1
      refine ⟨_, rfl, m, rfl, by omega, by omega, fun H' p q r ws s' nq nr hp hq hr' wo => ?_⟩
      refine ⟨p, _, _, _, rfl, rfl, SqT.of hp, atI_nat (j := 0) rfl, _, rfl, q, _, _, _, rfl, rfl, SqL.of hq, fl_at (by omega), ?_⟩
      have z := kg h1 h2 H' s'
      rw [Int.toNat_natCast] at z
      exact z
    · exact ⟨_, rfl, _, rfl, .inr ⟨nw, kb⟩⟩
/-! ### all_with -/
def awl (n : Nat) : List Int := ((List.range (gr n)).filter fun a => F (1 + a) == n).map fun a => ((1 + a : Nat) : Int)
def spAllWith (K : PySem.W.Frag) (C : Addr) : Sp := fun vs H Q E => ∃ (v : V), vs = [v] ∧ AskN K v H 14 (fun n => ∀ H' q, Same H H' → H q = none → H' q = some (.lst ((awl n.toNat).map V.int)) → Q (.ref q) H') (E (.ref C) none H)
theorem scAllWith : FnScope ["many", "few", "number"] ["many"] (defScope sAllWith) := ⟨rfl, rfl, rfl, by decide +kernel, rfl, by decide +kernel, by decide +kernel⟩
theorem gr14 : ((List.range 15).all fun n => n == 0 || (decide (1 ≤ gr n) && decide (gr n ≤ 200))) = true := by decide +kernel
theorem gr14_le {n : Nat} (h1 : 1 ≤ n) (h : n ≤ 14) : 1 ≤ gr n ∧ gr n ≤ 200 := by
  have q := List.all_eq_true.mp gr14 n (List.mem_range.mpr (by omega))
  simp only [Bool.or_eq_true, Bool.and_eq_true, beq_iff_eq, decide_eq_true_eq] at q
  rcases q with z | z
  · omega
  · exact z
theorem ok_allWith (D : Dn K mg "all_with" sAllWith) (B : Bi mg) (mo : ∃ u, mg "MOST_SHOWN" = some u ∧ RelV (.int 14) u) (C : Kp P w K mg base (L2.CX P w) 2 "check_ones" (spCheckOnes K CM)) (G : Kp P w K mg base CX0 1 "greatest_of" spGreatestOf) (T : Kp P w K mg base CX0 1 "table_of" spTable) : Kp P w K mg base (L2.CX P w) 3 "all_with" (spAllWith K CM) := by
  obtain ⟨f, fd, F', hm⟩ := D.ex
  refine ⟨f, fd, ["many"], F'.okX scAllWith (fun vs H Q E h => ?_) (fun cdv A outer s H vs Q E hr h => ?_), hm, F'.kp, F'.binds fun _ _ _ _ _ _ us hl => match us, hl with | [_], _ => rfl⟩
  · obtain ⟨v, rfl, _⟩ := h
    rfl
  · obtain ⟨v, rfl, h⟩ := h
    refine ⟨_, pss_cons (ps_expr (pkS C (takes_of rfl rfl rfl rfl) hr (by decide) rfl (pa_cons (pv 0) (pa_cons (C8.pe_gc rfl mo) pa_nil))))
      (pss_cons (ps_set (i := 1) scAllWith.nd rfl (Or.inr rfl) (pe_ix ix_tup (pk T hr (by decide) rfl (pa_cons (pk G hr (by decide) rfl (pa_cons (pv 0) pa_nil)) pa_nil)) pe_int (fun _ _ => rfl)))
      (pss_one (ps_ret (pe_lc (own := [("number", 2)]) (g := gName 2) (tt := tTest (tOp rEq (tOp (rIxL K) (tVar 1) (tVar 2)) (tVar 0))) rfl scAllWith.nd (pi_range2 (by rfl) B.range (pa_cons pe_int (pa_cons (pe_callB call_len_seq (by rfl) B.len PySem.boot_len (pa_cons (pv 1) pa_nil)) pa_nil)))
        (blkOk_by (own := [("number", 2)]) (N := ["many", "few", "number"]) (sc := defScope sAllWith) (by decide +kernel)) (fun _ _ _ _ _ => pg_name (i := 2) scAllWith.nd rfl (Or.inl rfl))
        (fun _ _ _ _ _ => pts_one (pt_cmpR op_eq (pe_ix (r := rIxL K) ix_list (pv 1) (pv 2) (fun _ _ => rfl)) (pv 0) (nomark _))) (fun _ _ _ _ _ => pv 2))))), ?_⟩
    rcases h with ⟨n, rfl, kb, kg⟩ | ⟨nw, kb⟩
    · refine ⟨_, rfl, _, _, rfl, .inl ⟨n, rfl, kb, fun h1 h2 => ?_⟩⟩
      obtain ⟨m, hm1⟩ : ∃ m : Nat, n = (m : Int) := ⟨n.toNat, by omega⟩
      subst hm1
      have g14 := gr14_le (show 1 ≤ m by omega) (show m ≤ 14 by omega)
      refine ⟨_, rfl, m, rfl, by omega, by omega, fun H1 s1 => ?_⟩
      refine ⟨gr m, rfl, g14.1, g14.2, fun H' p q r ws s' nq nr hp hq hr' wo => ?_⟩
      refine ⟨p, _, _, _, rfl, rfl, SqT.of hp, atI_nat (j := 0) rfl, ?_⟩
      have big : (16777216 : Nat) = sizeLine := PySem.sizeLine_eq.symm
      have len : (((fl (gr m + 1)).map V.int).length : Int) = ((gr m + 1 : Nat) : Int) := by rw [List.length_map, fl_len]
      refine ⟨_, rfl, q, _, rfl, .inl (SqL.of hq), 1, _, rfl, ⟨by decide, by decide, by rw [len]; omega, by rw [len]; omega⟩, fun D hD => ?_⟩
      rw [len, show (((gr m + 1 : Nat) : Int) - 1).toNat = gr m by omega]
      refine lc_range (lo := 1) (n := gr m) (fun j H2 => Same H' H2 ∧ H2 D = some (.lst ((((List.range j).filter fun a => F (1 + a) == m).map fun a => ((1 + a : Nat) : Int)).map V.int))) ⟨sm_upd hD, upd_same⟩ ?_ ?_
      · rintro j H2 hj ⟨s2, hD2⟩
        have ej : (1 : Int) + (j : Int) = ((1 + j : Nat) : Int) := by omega
        rw [ej]
        refine ⟨rfl, ?_⟩
        refine ⟨_, rfl, _, rfl, q, _, _, _, rfl, rfl, SqL.of (sm_at s2 hq), fl_at (by omega), _, rfl, rfl, _, rfl, ?_⟩
        by_cases hc : F (1 + j) = m
        · refine ifT (decide_eq_true (by rw [hc])) ⟨_, rfl, _, hD2, ?_, ?_, ?_⟩
          · have := List.length_filter_le (fun a => F (1 + a) == m) (List.range j)
            rw [List.length_map, List.length_map, ← big]
            rw [List.length_range] at this
            omega
          · exact fun b o e => by
              rw [upd_ne (ne_of_none e hD)]
              exact s2 b o e
          · rw [upd_same, List.range_succ, List.filter_append, List.filter_cons, if_pos (by simpa using hc)]
            simp
        · refine ifF (decide_eq_false (fun z => hc (by have := V.int.inj z; omega))) ⟨s2, ?_⟩
          rw [hD2, List.range_succ, List.filter_append, List.filter_cons, if_neg (by simpa using hc)]
          simp
      · rintro H2 ⟨s2, hD2⟩
        have z := kg h1 h2 H2 D (s1.trans (s'.trans s2)) (s1.free (s'.free hD))
        rw [Int.toNat_natCast] at z
        exact z hD2
    · exact ⟨_, rfl, _, _, rfl, .inr ⟨nw, kb⟩⟩
end
end Fo
namespace Fo
open PySem L2 FO
section
variable {P : Program} {w : World} {K : PySem.W.Frag} {mg : Str → Option Value} {base : Heap} {CN C : Addr}
/-! ### is_floor -/
def spIsFloor (K : PySem.W.Frag) : Sp := fun vs H Q _ => ∃ (a : Addr) (ns : List Int), vs = [.ref a] ∧ SqL K H a (ns.map V.int) ∧ 1 ≤ ns.length ∧ ns.length ≤ 1000 ∧ (IsFloor ns → ∀ H', Same H H' → Q (.bl true) H') ∧ (¬ IsFloor ns → ∀ H', Same H H' → Q (.bl false) H')
theorem scIsFloor : FnScope ["floor", "one", "most", "other", "both"] ["floor"] (defScope sIsFloor) := ⟨rfl, rfl, rfl, by decide +kernel, rfl, by decide +kernel, by decide +kernel⟩
theorem fg_at {ns : List Int} {k : Nat} {z : Int} (h1 : 1 ≤ k) (h : k ≤ ns.length) (hz : z = (k : Int) - 1) : atI (ns.map V.int) z = some (.int (fg ns k)) := by
  have e : z = ((k - 1 : Nat) : Int) := by omega
  rw [e]
  refine atI_nat ?_
  unfold fg
  rw [List.getElem?_map, List.getElem?_eq_getElem (show k - 1 < ns.length by omega), List.getD_eq_getElem?_getD, List.getElem?_eq_getElem (show k - 1 < ns.length by omega)]
  rfl
theorem ok_isFloor (D : Dn K mg "is_floor" sIsFloor) (B : Bi mg) (W : Kp P w K mg base CX0 1 "is_whole" (spWhole K)) : Kp P w K mg base CX0 2 "is_floor" (spIsFloor K) := by
  obtain ⟨f, fd, F', hm⟩ := D.ex
  refine ⟨f, fd, ["floor"], F'.ok scIsFloor (fun vs H Q E h => ?_) (fun cdv A outer s H vs Q E hr h => ?_), hm, F'.kp, F'.binds fun _ _ _ _ _ _ us hl => match us, hl with | [_], _ => rfl⟩
  · obtain ⟨a, ns, rfl, _⟩ := h
    rfl
  · obtain ⟨a, ns, rfl, hS, hl1, hl, kT, kF⟩ := h
    refine ⟨_, pss_cons (ps_if (PW.pt (pw_or (pt_not (pt_val (pe_callB (cr_all rfl) (by rfl) B.all (by decide +kernel) (pa_cons
          (pe_lc (own := [("one", 1)]) (g := gName 1) (tt := tYes) rfl scIsFloor.nd (pi_list (pv 0)) (blkOk_by (own := [("one", 1)]) (N := ["floor", "one", "most", "other", "both"]) (sc := defScope sIsFloor) (by decide +kernel)) (fun _ _ _ _ _ => pg_name (i := 1) scIsFloor.nd rfl (Or.inl rfl)) (fun _ _ _ _ _ => pts_nil)
            (fun _ _ _ _ _ => pk W hr (by decide) rfl (pa_cons (pv 1) pa_nil))) pa_nil))))
        (pw_or1 (pt_cmpR op_gt (pe_ix ix_list (pv 0) pe_int (fun _ _ => rfl)) pe_int (nomark _))))) (pss_one (ps_ret pe_bl)) pss_nil)
      (pss_cons (ps_set (i := 2) scIsFloor.nd rfl (Or.inl rfl) (pe_callB call_len_seq (by rfl) B.len PySem.boot_len (pa_cons (pv 0) pa_nil)))
      (pss_cons (ps_for PassesOwn.never rfl (pi_range2 (by rfl) B.range (pa_cons pe_int (pa_cons (pe_op op_add (pv 2) pe_int) pa_nil))) (pg_name (i := 1) scIsFloor.nd rfl (Or.inl rfl))
        (pss_one (ps_for PassesOwn.never rfl (pi_range2 (by rfl) B.range (pa_cons (pv 1) (pa_cons (pe_op op_add (pv 2) pe_int) pa_nil))) (pg_name (i := 3) scIsFloor.nd rfl (Or.inl rfl))
          (pss_cons (ps_set (i := 4) scIsFloor.nd rfl (Or.inl rfl) (pe_op op_add (pe_ix ix_list (pv 0) (pe_op op_sub (pv 1) pe_int) (fun _ _ => rfl)) (pe_ix ix_list (pv 0) (pe_op op_sub (pv 3) pe_int) (fun _ _ => rfl))))
          (C8.pss_cut (ps_if (PW.pt (pw_and (pt_cmpR op_le (pe_op op_add (pv 1) (pv 3)) (pv 2) (nomark _)) (pw_and1 (pt_cmpR op_gt (pe_ix ix_list (pv 0) (pe_op op_sub (pe_op op_add (pv 1) (pv 3)) pe_int) (fun _ _ => rfl)) (pv 4) (nomark _))))) (pss_one (ps_ret pe_bl)) pss_nil)
          (pss_one (ps_if (PW.pt (pw_and (pt_cmpR op_le (pe_op op_mul (pv 1) (pv 3)) (pv 2) (nomark _)) (pw_and1 (pt_cmpR op_gt (pe_ix ix_list (pv 0) (pe_op op_sub (pe_op op_mul (pv 1) (pv 3)) pe_int) (fun _ _ => rfl)) (pv 4) (nomark _))))) (pss_one (ps_ret pe_bl)) pss_nil)))))))
      (pss_one (ps_ret pe_bl)))), ?_⟩
    have big : (16777216 : Nat) = sizeLine := PySem.sizeLine_eq.symm
    refine ⟨_, rfl, a, rfl, ⟨_, hS⟩, fun D hD => lc_list (K := K) (a := a) (xs := ns.map V.int) (fun j H' => Same H H' ∧ H' D = some (.lst ((List.replicate j true).map V.bl))) ⟨sm_upd hD, upd_same⟩ (fun j H' _ hj => hj.1.seq hS) ?_ ?_⟩
    · rintro j x H1 hx ⟨s1, hD1⟩
      obtain ⟨y, hy, rfl⟩ : ∃ y, y ∈ ns ∧ V.int y = x := List.mem_map.mp (List.mem_of_getElem? hx)
      have hj : j < ns.length := by
        have := (List.getElem?_eq_some_iff.mp hx).1
        rw [List.length_map] at this
        exact this
      refine ⟨rfl, ?_⟩
      unfold tYes
      refine iteT ?_
      refine ⟨_, rfl, _, _, rfl, IsW.int y, _, hD1, ?_, ?_, ?_⟩
      · rw [List.length_map, List.length_replicate, ← big]; omega
      · exact fun b o e => by
          rw [upd_ne (ne_of_none e hD)]
          exact s1 b o e
      · rw [upd_same, List.replicate_succ', List.map_append]; rfl
    · rintro H1 ⟨s1, hD1⟩
      refine ⟨D, _, rfl, SqL.of hD1, _, rfl, ?_⟩
      have e : (List.replicate (ns.map V.int).length true).all id = true := by simp
      rw [e]
      refine iteF ?_
      have hS1 := s1.seq hS
      refine ⟨_, rfl, a, _, _, _, rfl, rfl, hS1, fg_at (k := 1) (by decide) hl1 rfl, _, _, rfl, rfl, _, rfl, ?_⟩
      by_cases h1 : ¬ fg ns 1 ≤ 1
      · exact ifT (decide_eq_true (by omega)) (kF (fun z => h1 z.1) _ s1)
      have h1 := Classical.not_not.mp h1
      refine ifF (decide_eq_false (by omega)) ?_
      refine ⟨_, rfl, a, _, rfl, .inl hS1, ?_⟩
      rw [List.length_map]
      have en : ((ns.length : Nat) : Int) + 1 = ((ns.length + 1 : Nat) : Int) := by omega
      refine ⟨_, rfl, _, _, rfl, rfl, 1, _, rfl, ⟨by decide, by decide, by rw [en]; omega, by rw [en]; omega⟩, ?_⟩
      rw [show (((ns.length : Nat) : Int) + 1 - 1).toNat = ns.length by omega]
      refine for_range (lo := 1) (n := ns.length) (fun i σ H' => ∃ v1 v3 v4 : Option V, σ = [some (.ref a), v1, some (.int (ns.length : Nat)), v3, v4] ∧ Same H H' ∧ ∀ x y, 1 ≤ x → x ≤ i → x ≤ y → y ≤ ns.length → ¬ Viol ns x y)
        ⟨_, _, _, rfl, s1, fun x y h1 h2 => by omega⟩ ?_ ?_
      · rintro i σ H2 hi ⟨v1, v3, v4, rfl, s2, inv⟩
        have eo : (1 : Int) + (i : Int) = ((i + 1 : Nat) : Int) := by omega
        rw [eo]
        have hS2 := s2.seq hS
        refine ⟨_, rfl, _, rfl, _, _, rfl, rfl, _, _, rfl, ⟨by omega, by omega, by rw [en]; omega, by rw [en]; omega⟩, ?_⟩
        rw [show (((ns.length : Nat) : Int) + 1 - ((i + 1 : Nat) : Int)).toNat = ns.length - i by omega]
        refine for_range (lo := ((i + 1 : Nat) : Int)) (n := ns.length - i) (fun j σ H' => ∃ v3 v4 : Option V, σ = [some (.ref a), some (.int (i + 1 : Nat)), some (.int (ns.length : Nat)), v3, v4] ∧ Same H H' ∧ ∀ y, i + 1 ≤ y → y < i + 1 + j → ¬ Viol ns (i + 1) y)
          ⟨_, _, rfl, s2, fun y h1 h2 => by omega⟩ ?_ ?_
        · rintro j σ H3 hj ⟨v3, v4, rfl, s3, inv2⟩
          have ep : ((i + 1 : Nat) : Int) + (j : Int) = ((i + 1 + j : Nat) : Int) := by omega
          rw [ep]
          have hS3 := s3.seq hS
          obtain ⟨x, hx⟩ : ∃ x, x = i + 1 := ⟨_, rfl⟩
          obtain ⟨y, hy⟩ : ∃ y, y = i + 1 + j := ⟨_, rfl⟩
          rw [← hy, ← hx]
          have fx := fg_at (ns := ns) (k := x) (z := ((x : Nat) : Int) - 1) (by omega) (by omega) rfl
          have fy := fg_at (ns := ns) (k := y) (z := ((y : Nat) : Int) - 1) (by omega) (by omega) rfl
          refine ⟨_, rfl, _, rfl, _, _, rfl, rfl, a, _, _, _, rfl, rfl, hS3, fx, _, rfl, _, rfl, _, _, rfl, rfl, a, _, _, _, rfl, rfl, hS3, fy, _, _, rfl, rfl, ?_⟩
          refine ⟨fun σ H' => σ = [some (.ref a), some (.int (x : Nat)), some (.int (ns.length : Nat)), some (.int (y : Nat)), some (.int (fg ns x + fg ns y))] ∧ Same H H' ∧ ¬ (x + y ≤ ns.length ∧ fg ns (x + y) > fg ns x + fg ns y), ?_, ?_⟩
          · refine ⟨_, rfl, _, rfl, _, _, rfl, rfl, _, rfl, _, _, rfl, rfl, _, rfl, ?_⟩
            by_cases hc : x + y ≤ ns.length
            · refine ifT (decide_eq_true (by omega)) ?_
              refine ⟨_, rfl, _, rfl, _, rfl, _, _, rfl, rfl, _, _, rfl, rfl, a, _, _, _, rfl, rfl, hS3, fg_at (k := x + y) (by omega) hc (by omega), _, rfl, _, _, rfl, rfl, _, rfl, ?_⟩
              by_cases hv : fg ns (x + y) > fg ns x + fg ns y
              · exact ifT (decide_eq_true (by omega)) (kF (fun z => z.2 x y (by omega) (by omega) (by omega) (by omega) (.inl ⟨hc, hv⟩)) _ s3)
              · exact ifF (decide_eq_false (by omega)) ⟨rfl, s3, fun z => hv z.2⟩
            · exact ifF (decide_eq_false (by omega)) (iteF ⟨rfl, s3, fun z => hc z.1⟩)
          · rintro σ H4 ⟨rfl, s4, nv⟩
            have hS4 := s4.seq hS
            have em : ((x : Nat) : Int) * ((y : Nat) : Int) = ((x * y : Nat) : Int) := by rw [Int.natCast_mul]
            have xy1 : 1 ≤ x * y := Nat.mul_pos (by omega) (by omega)
            refine ⟨_, rfl, _, rfl, _, _, rfl, rfl, .inl ⟨by omega, by omega⟩, _, rfl, _, _, rfl, rfl, _, rfl, ?_⟩
            rw [em]
            have done : ¬ (x * y ≤ ns.length ∧ fg ns (x * y) > fg ns x + fg ns y) → ∃ v3 v4 : Option V, ([some (.ref a), some (.int (x : Nat)), some (.int (ns.length : Nat)), some (.int (y : Nat)), some (.int (fg ns x + fg ns y))] : St) = [some (.ref a), some (.int (x : Nat)), some (.int (ns.length : Nat)), v3, v4] ∧ Same H H4 ∧ ∀ y, x ≤ y → y < x + (j + 1) → ¬ Viol ns x y := fun nw => by
              refine ⟨_, _, rfl, s4, fun y' h1 h2 v => ?_⟩
              by_cases e : y' = y
              · subst e
                rcases v with v | v
                · exact nv v
                · exact nw v
              · rw [hx] at v
                exact inv2 y' (by omega) (by omega) v
            by_cases hc : x * y ≤ ns.length
            · refine ifT (decide_eq_true (by omega)) ?_
              refine ⟨_, rfl, _, rfl, _, rfl, _, _, rfl, rfl, .inl ⟨by omega, by omega⟩, _, _, rfl, rfl, a, _, _, _, rfl, rfl, hS4, fg_at (k := x * y) xy1 hc (by rw [em]), _, rfl, _, _, rfl, rfl, _, rfl, ?_⟩
              by_cases hv : fg ns (x * y) > fg ns x + fg ns y
              · exact ifT (decide_eq_true (by omega)) (kF (fun z => z.2 x y (by omega) (by omega) (by omega) (by omega) (.inr ⟨hc, hv⟩)) _ s4)
              · exact ifF (decide_eq_false (by omega)) (done fun z => hv z.2)
            · exact ifF (decide_eq_false (by omega)) (iteF (done fun z => hc z.1))
        · rintro σ H3 ⟨v3, v4, rfl, s3, inv2⟩
          refine ⟨_, _, _, rfl, s3, fun x y h1 h2 h3 h4 v => ?_⟩
          by_cases e : x = i + 1
          · subst e
            exact inv2 y h3 (by omega) v
          · exact inv x y h1 (by omega) h3 h4 v
      · rintro σ H2 ⟨v1, v3, v4, rfl, s2, inv⟩
        exact kT (floor_half h1 fun x y a1 a2 a3 => inv x y a1 (by omega) a2 a3) _ s2
end
end Fo
namespace Fo
open PySem L2 FO
/-! ### the class Least -/
/-- the fields of an answer -/
def lf (tv : V) (q : Addr) : List (Str × V) := putF "floor" (.ref q) (putF "text" tv [])
theorem tf_ : ¬ (("text" : Str) = "floor") := by decide +kernel
theorem lf_text (tv : V) (q : Addr) : (lf tv q).lookup ("text" : Str) = some tv := by
  unfold lf
  rw [lookup_putF, if_neg tf_, lookup_putF, if_pos rfl]
theorem lf_floor (tv : V) (q : Addr) : (lf tv q).lookup ("floor" : Str) = some (.ref q) := by
  unfold lf
  rw [lookup_putF, if_pos rfl]
theorem lf_no (tv : V) (q : Addr) {m : Str} (h1 : ¬ m = "floor") (h2 : ¬ m = "text") : (lf tv q).lookup m = none := by
  unfold lf
  rw [lookup_putF, if_neg h1, lookup_putF, if_neg h2]
  rfl
theorem lf_shows (tv : V) (q : Addr) : (lf tv q).lookup ("shows" : Str) = none := lf_no tv q (by decide +kernel) (by decide +kernel)
theorem sm_made {H : Hp} {x dx C : Addr} (nx : H x = none) (nd : H dx = none) : Same H (upd (upd H dx (.own x)) x (.ins C dx [])) := fun b o e => by
  rw [upd_ne (ne_of_none e nx), upd_ne (ne_of_none e nd)]
  exact e
/-- an answer stands at p: its text, its list at q -/
def LeastAt (C : Addr) (H : Hp) (p : Addr) (tv : V) (q : Addr) : Prop := ∃ dx, H p = some (.ins C dx (lf tv q))
structure LeC (K : PySem.W.Frag) (C : Addr) : Prop where
  cl : Cls K C
  nT : NoAttr K C "text"
  nF : NoAttr K C "floor"
section
variable {P : Program} {w : World} {K : PySem.W.Frag} {mg : Str → Option Value} {base : Heap} {CN C : Addr}
def spInit (K : PySem.W.Frag) (C : Addr) : Sp := fun vs H Q _ => ∃ (H0 : Hp) (p dx : Addr) (tv : V) (l : Addr) (xs : List V), vs = [.ref p, tv, .ref l] ∧ Same H0 H ∧ H0 p = none ∧ H p = some (.ins C dx []) ∧ SqL K H0 l xs ∧
  ∀ H' q, Same H0 H' → H0 q = none → LeastAt C H' p tv q → H' q = some (.lst xs) → Q .non H'
theorem scInit : FnScope ["self", "text", "floor"] ["self", "text", "floor"] (defScope sInit) := ⟨rfl, rfl, rfl, by decide +kernel, rfl, by decide +kernel, by decide +kernel⟩
theorem fn_init {f : Addr} {fd : FuncData} (F' : Fun K "__init__" "Least.__init__" sInit f fd) (L : LeC K C) (B : Bi mg) : FnOk P w K mg base CX0 1 f fd ["self", "text", "floor"] (spInit K C) := by
  refine F'.ok scInit (fun vs H Q E h => ?_) (fun cdv A outer s H vs Q E hr h => ?_)
  · obtain ⟨H0, p, dx, tv, l, xs, rfl, _⟩ := h
    rfl
  · obtain ⟨H0, p, dx, tv, l, xs, rfl, s0, np, hp, hl, k⟩ := h
    refine ⟨_, pss_cons (ps_fld (pv 0) (pv 1) rfl) (pss_one (ps_fld (pv 0) (pe_callTy call_list_of (by rfl) B.list (by decide +kernel) (pa_cons (pv 2) pa_nil)) rfl)), ?_⟩
    refine ⟨_, rfl, _, rfl, p, C, dx, _, rfl, hp, L.cl, L.nT, (by show 0 < 1000; decide), ?_⟩
    have s1 : Same H0 (upd H p (.ins C dx (putF "text" tv []))) := sm_put s0 np
    refine ⟨_, rfl, l, xs, rfl, .inl (s1.seq hl), fun q nq => ?_⟩
    have pq : p ≠ q := ne_of_none upd_same nq
    refine ⟨_, rfl, p, C, dx, _, rfl, (by rw [upd_ne pq, upd_same]), L.cl, L.nF, (by show 1 < 1000; decide), ?_⟩
    have s2 := sm_new (o := .lst xs) s1 nq
    exact k _ q (sm_put s2 np) (s1.free nq) ⟨dx, upd_same⟩ (by rw [upd_ne (Ne.symm pq), upd_same])
/-! ### shows -/
def spShows (K : PySem.W.Frag) (C : Addr) : Sp := fun vs H Q _ => ∃ (p : Addr) (z : Str) (q : Addr) (ns : List Int) (n : Int), vs = [.ref p, .int n] ∧ LeastAt C H p (.str z) q ∧ SqL K H q (ns.map V.int) ∧ z.length ≤ sizeLine ∧ 1 ≤ n ∧ n ≤ 1000 ∧
  (Shows (tl z) ns n → ∀ H', Same H H' → Q (.bl true) H') ∧ (¬ Shows (tl z) ns n → ∀ H', Same H H' → Q (.bl false) H')
theorem scShows : FnScope ["self", "number"] ["self", "number"] (defScope sShows) := ⟨rfl, rfl, rfl, by decide +kernel, rfl, by decide +kernel, by decide +kernel⟩
theorem fn_shows {f : Addr} {fd : FuncData} (F' : Fun K "shows" "Least.shows" sShows f fd) (L : LeC K C) (B : Bi mg) (W : Kp P w K mg base CX0 3 "worth_of" (spWorthOf K)) (Fl : Kp P w K mg base CX0 2 "is_floor" (spIsFloor K)) : FnOk P w K mg base CX0 4 f fd ["self", "number"] (spShows K C) := by
  refine F'.ok scShows (fun vs H Q E h => ?_) (fun cdv A outer s H vs Q E hr h => ?_)
  · obtain ⟨p, z, q, ns, n, rfl, _⟩ := h
    rfl
  · obtain ⟨p, z, q, ns, n, rfl, ⟨dx, hp⟩, hq, hz, n1, n2, kT, kF⟩ := h
    refine ⟨_, pss_cons (ps_if (PW.pt (pw_or (pt_cmpR op_ne (pk W hr (by decide) rfl (pa_cons (pe_fld (pv 0) rfl) pa_nil)) (pv 1) (nomark _))
        (pw_or (pt_cmpR op_ne (pe_callB call_len_seq (by rfl) B.len PySem.boot_len (pa_cons (pe_fld (pv 0) rfl) pa_nil)) (pv 1) (nomark _))
        (pw_or1 (pt_not (pt_val (pk Fl hr (by decide) rfl (pa_cons (pe_fld (pv 0) rfl) pa_nil)))))))) (pss_one (ps_ret pe_bl)) pss_nil)
      (pss_one (ps_ret (pe_cmpR op_eq (pe_ix ix_list (pe_fld (pv 0) rfl) (pe_un un_neg pe_int) (fun _ _ => rfl)) (pe_m1 PySem.F.slot_str_count PySem.F.type_str_count mt_count (pe_fld (pv 0) rfl) pe_str) (nomark _)))), ?_⟩
    refine ⟨_, rfl, p, C, dx, _, _, rfl, hp, L.cl, L.nT, lf_text _ _, _, rfl, .inl ⟨z, rfl, hz, fun H1 s1 => ?_⟩⟩
    have hp1 := sm_at s1 hp
    have hq1 := s1.seq hq
    refine ⟨_, rfl, rfl, _, rfl, ?_⟩
    by_cases c1 : ¬ worthL (tl z) = n
    · exact ifT (by rw [decide_eq_false (fun e => c1 (V.int.inj e))]; rfl) (iteT (kF (fun sh => c1 sh.1) _ s1))
    have c1 := Classical.not_not.mp c1
    refine ifF (by rw [decide_eq_true (by rw [c1])]; rfl) ?_
    refine ⟨_, rfl, p, C, dx, _, _, rfl, hp1, L.cl, L.nF, lf_floor _ _, q, _, rfl, .inl hq1, _, rfl, rfl, _, rfl, ?_⟩
    rw [List.length_map]
    by_cases c2 : ¬ ((ns.length : Nat) : Int) = n
    · exact ifT (by rw [decide_eq_false (fun e => c2 (V.int.inj e))]; rfl) (iteT (kF (fun sh => c2 sh.2.1) _ s1))
    have c2 := Classical.not_not.mp c2
    refine ifF (by rw [decide_eq_true (by rw [c2])]; rfl) ?_
    refine ⟨_, rfl, p, C, dx, _, _, rfl, hp1, L.cl, L.nF, lf_floor _ _, q, ns, rfl, hq1, by omega, by omega, fun fl H2 s2 => ?_, fun fl H2 s2 => ?_⟩
    · refine ⟨_, rfl, iteF ?_⟩
      have hp2 := sm_at s2 hp1
      refine ⟨_, rfl, p, C, dx, _, _, rfl, hp2, L.cl, L.nF, lf_floor _ _, _, rfl, q, _, _, .int (fg ns ns.length), rfl, rfl, s2.seq hq1, ?_, _, rfl, p, C, dx, _, _, rfl, hp2, L.cl, L.nT, lf_text _ _, ⟨z, rfl⟩, z, _, rfl, rfl, rfl, ?_⟩
      · refine atI_neg (k := 1) (by decide) (by rw [List.length_map]; omega) ?_ rfl
        unfold fg
        rw [List.length_map, List.getElem?_map, List.getElem?_eq_getElem (show ns.length - 1 < ns.length by omega), List.getD_eq_getElem?_getD, List.getElem?_eq_getElem (show ns.length - 1 < ns.length by omega)]
        rfl
      · show Q (.bl (decide (V.int (fg ns ns.length) = V.int (Txt.count z "1")))) H2
        rw [count_one]
        by_cases c3 : fg ns ns.length = ((tl z).count 49 : Nat)
        · rw [decide_eq_true (by rw [c3])]
          exact kT ⟨c1, c2, fl, c3⟩ _ (s1.trans s2)
        · rw [decide_eq_false (fun e => c3 (V.int.inj e))]
          exact kF (fun sh => c3 sh.2.2.2) _ (s1.trans s2)
    · exact ⟨_, rfl, iteT (kF (fun sh => fl sh.2.2.1) _ (s1.trans s2))⟩
/-! ### least -/
def spLeast (K : PySem.W.Frag) (CN C : Addr) : Sp := fun vs H Q E => ∃ (v : V), vs = [v] ∧ AskN K v H 200 (fun n => ∀ H' p q t, Same H H' → H p = none → H q = none → LeastAt C H' p (.str t) q → H' q = some (.lst ((fl1 n.toNat).map V.int)) → Wr (tl t) (n.toNat : Nat) (F n.toNat) → Q (.ref p) H') (E (.ref CN) none H)
theorem scLeast : FnScope ["number", "few", "ways"] ["number"] (defScope sLeast) := ⟨rfl, rfl, rfl, by decide +kernel, rfl, by decide +kernel, by decide +kernel⟩
theorem cut_fl (n : Nat) : cutV ((fl (n + 1)).map V.int) (some 1) none = (fl1 n).map V.int := by
  unfold cutV
  have e1 : HT.sIx ((fl (n + 1)).map V.int).length 0 (some 1) = 1 := by
    rw [List.length_map, fl_len]
    show (if (1 : Int) < 0 then (1 + ((n + 1 : Nat) : Int)).toNat else min (1 : Int).toNat (n + 1)) = 1
    rw [if_neg (by decide)]
    show min 1 (n + 1) = 1
    omega
  have e2 : HT.sIx ((fl (n + 1)).map V.int).length ((fl (n + 1)).map V.int).length none = n + 1 := by
    show ((fl (n + 1)).map V.int).length = n + 1
    rw [List.length_map, fl_len]
  rw [e1, e2, List.take_of_length_le (by rw [List.length_drop, List.length_map, fl_len]; omega)]
  unfold fl fl1
  rw [List.range_succ_eq_map]
  simp [Nat.add_comm]
theorem ok_least (D : Dn K mg "least" sLeast) (Ck : Kp P w K mg base (L2.CX P w) 2 "check_number" (spCheckNumber K CN)) (T : Kp P w K mg base CX0 1 "table_of" spTable) (Tb : Kp P w K mg base CX0 202 "text_by" (spTextBy K 200)) (M : C8.Mak P w K mg base 1 "Least" C (spInit K C) []) : Kp P w K mg base (L2.CX P w) 203 "least" (spLeast K CN C) := by
  obtain ⟨f, fd, F', hm⟩ := D.ex
  refine ⟨f, fd, ["number"], F'.okX scLeast (fun vs H Q E h => ?_) (fun cdv A outer s H vs Q E hr h => ?_), hm, F'.kp, F'.binds fun _ _ _ _ _ _ us hl => match us, hl with | [_], _ => rfl⟩
  · obtain ⟨v, rfl, _⟩ := h
    rfl
  · obtain ⟨v, rfl, h⟩ := h
    refine ⟨_, pss_cons (ps_expr (pkS Ck (takes_of rfl rfl rfl rfl) hr (by decide) rfl (pa_cons (pv 0) pa_nil)))
      (pss_cons (ps_asg (pk T hr (by decide) rfl (pa_cons (pv 0) pa_nil)) (pg_tup rfl (pgs_cons (pg_name (i := 1) scLeast.nd rfl (.inl rfl)) (pgs_cons (pg_name (i := 2) scLeast.nd rfl (.inl rfl)) pgs_nil))))
      (pss_one (ps_ret (C8.pe_mk M hr (by decide) rfl (pa_cons (pk Tb hr (by decide) rfl (pa_cons (pv 2) (pa_cons (pv 0) pa_nil))) (pa_cons (pe_slice sl_list (pv 1) (po_some pe_int) po_none) pa_nil)))))), ?_⟩
    rcases h with ⟨n, rfl, kb, kg⟩ | ⟨nw, kb⟩
    · refine ⟨_, rfl, _, rfl, .inl ⟨n, rfl, kb, fun h1 h2 => ?_⟩⟩
      obtain ⟨m, hm1⟩ : ∃ m : Nat, n = (m : Int) := ⟨n.toNat, by omega⟩
      subst hm1
      refine ⟨_, rfl, m, rfl, by omega, by omega, fun H1 p q r ws s1 nq nr hp hq hr' wo => ?_⟩
      refine ⟨p, _, rfl, SqT.of hp, rfl, _, _, rfl, _, _, rfl, rfl, ?_⟩
      refine ⟨_, rfl, _, rfl, r, m, m + 1, ws, rfl, SqL.of hr', wo, by omega, by omega, by omega, by omega, fun t wr => ?_⟩
      refine ⟨_, rfl, _, rfl, q, _, rfl, SqL.of hq, fun l nl => ?_⟩
      rw [cut_fl]
      obtain ⟨H2, e2, s2, hl⟩ := ab nl (.lst ((fl1 m).map V.int))
      rw [e2]
      intro x dx nx ndx ne
      have s12 := s1.trans s2
      refine ⟨H2, x, dx, _, l, _, rfl, sm_made nx ndx, nx, upd_same, SqL.of hl, fun H3 u s3 nu hx hu => ⟨rfl, ?_⟩⟩
      have z := kg h1 h2 H3 x u t (s12.trans s3) (s12.free nx) (s12.free nu) hx
      rw [Int.toNat_natCast] at z
      exact z hu wr
    · exact ⟨_, rfl, _, rfl, .inr ⟨nw, kb⟩⟩
end
end Fo
namespace Fo
open PySem L2 FO
/-! ### the script: slices and sums -/
theorem cut_take (ns : List Int) (k : Nat) : cutV (ns.map V.int) none (some (k : Int)) = (ns.take k).map V.int := by
  unfold cutV
  rw [HT.sIx_nat]
  show (((ns.map V.int).drop 0).take (min k (ns.map V.int).length - 0)) = _
  rw [List.drop_zero, Nat.sub_zero, List.map_take, List.length_map]
  by_cases h : k ≤ ns.length
  · rw [Nat.min_eq_left h]
  · rw [Nat.min_eq_right (by omega), List.take_of_length_le (by rw [List.length_map]; omega), List.take_of_length_le (by rw [List.length_map]; omega)]
theorem lapp (x y : Str) : (x ++ y).length = x.length + y.length := by rw [Str.length, Str.length, Str.length]; exact Array.size_append
theorem sum_bits {b : Nat} : ∀ (ns : List Int), (∀ n ∈ ns, n.natAbs < 2 ^ b) → ns.sum.natAbs ≤ ns.length * 2 ^ b
  | [], _ => by simp
  | n :: ns, h => by
    have ih := sum_bits ns (fun m hm => h m (List.mem_cons_of_mem _ hm))
    have h0 := h n List.mem_cons_self
    rw [List.sum_cons, List.length_cons, Nat.add_mul, Nat.one_mul]
    have := Int.natAbs_add_le n ns.sum
    omega
theorem sum_lt {ns : List Int} {b : Nat} (hl : ns.length ≤ 63) (h : ∀ n ∈ ns, n.natAbs < 2 ^ b) : ns.sum.natAbs < 2 ^ (b + 6) := by
  have h1 := sum_bits ns h
  have h2 : ns.length * 2 ^ b ≤ 63 * 2 ^ b := Nat.mul_le_mul_right _ hl
  have h3 : 0 < 2 ^ b := Nat.pow_pos (by decide)
  rw [Nat.pow_add]
  show _ < 2 ^ b * 64
  omega
/-- what a law's def is promised -/
def spLaw (K : PySem.W.Frag) : Sp := fun vs H Q _ => ∃ (a : Addr) (ns : List Int), vs = [.ref a] ∧ SqL K H a (ns.map V.int) ∧ ns.length ≤ 63 ∧ (∀ n ∈ ns, n.natAbs < 2 ^ 1048576) ∧ ∀ H', Q (.bl true) H'
end Fo
namespace Fo
open PySem L2 FO
/-! ### a text times a number -/
/-- the codes, so often -/
def rep (n : Nat) (t : List Nat) : List Nat := (List.replicate n t).flatten
theorem rep_zero (t : List Nat) : rep 0 t = [] := rfl
theorem rep_succ (n : Nat) (t : List Nat) : rep (n + 1) t = t ++ rep n t := by simp [rep, List.replicate_succ]
theorem rep_snoc (n : Nat) (t : List Nat) : rep (n + 1) t = rep n t ++ t := by simp [rep, List.replicate_succ']
theorem rep_len (n : Nat) (t : List Nat) : (rep n t).length = n * t.length := by simp [rep]
theorem rep_count (n : Nat) (t : List Nat) (c : Nat) : (rep n t).count c = n * t.count c := by
  induction n with
  | zero => simp [rep]
  | succ n ih => rw [rep_succ, List.count_append, ih, Nat.succ_mul, Nat.add_comm]
theorem fold_cat : ∀ (l : List (Array Nat)) (a : Array Nat), (l.foldl (· ++ ·) a).toList = a.toList ++ (l.map Array.toList).flatten
  | [], a => by simp
  | x :: l, a => by rw [List.foldl_cons, fold_cat l]; simp
def rMulS : R2 := fun x y H Q => ∃ (z : Str) (n : Nat), x = .str z ∧ y = .int (n : Nat) ∧ n < 4294967296 ∧ z.length * n ≤ sizeLine ∧ ∀ u : Str, u.cps.toList = rep n z.cps.toList → Q (.str u) H
theorem op_mulS {X : Cx} : OpR X (PySem.binaryOp .Mult) rMulS := by
  intro pins s σ H x y v u Q I rx ry h
  obtain ⟨z, n, rfl, rfl, hn, hz, q⟩ := h
  obtain ⟨t, rfl⟩ := rx
  obtain ⟨t', rfl⟩ := ry
  refine PySem.P.mul_str ?_ (fun h1 _ => ?_) (fun h1 _ => ?_) ?_
  · rw [decide_eq_false (by omega), decide_eq_false (by omega)]
    rfl
  · have hs : sizeLine ≤ 2 ^ 63 - 1 := by decide
    have e : (z.length : Int) ≤ (2 ^ 63 - 1) / ((n : Nat) : Int) := by
      refine (Int.le_ediv_iff_mul_le (by omega)).mpr ?_
      have : ((z.length * n : Nat) : Int) ≤ ((2 ^ 63 - 1 : Nat) : Int) := by exact_mod_cast Nat.le_trans hz hs
      rw [Int.natCast_mul] at this
      exact this
    omega
  · unfold PySem.Builtin.Str.tooLong
    rw [Int.toNat_natCast]
    exact decide_eq_false (by omega)
  · by_cases h0 : ((n : Nat) : Int) < 1
    · rw [if_pos h0]
      have : n = 0 := by omega
      subst this
      exact ⟨by decide, .str Str.empty, H, I.tok _, ⟨_, rfl⟩, q _ rfl⟩
    rw [if_neg h0]
    by_cases h1 : (((n : Nat) : Int) == 1 || z.length == 0) = true
    · rw [if_pos h1]
      refine ⟨.str z, H, I.tok _, ⟨_, rfl⟩, q _ ?_⟩
      simp only [Bool.or_eq_true, beq_iff_eq] at h1
      rcases h1 with h1 | h1
      · have : n = 1 := by omega
        subst this
        simp [rep]
      · have e : z.cps.toList = [] := List.eq_nil_of_length_eq_zero (by rw [Array.length_toList]; exact h1)
        rw [e]
        simp [rep]
    · rw [if_neg h1]
      have e : (⟨(List.replicate ((n : Nat) : Int).toNat z.cps).foldl (· ++ ·) #[]⟩ : Str).cps.toList = rep n z.cps.toList := by
        show ((List.replicate ((n : Nat) : Int).toNat z.cps).foldl (· ++ ·) #[]).toList = _
        rw [fold_cat, Int.toNat_natCast]
        simp [rep]
      refine ⟨?_, .str _, H, I.tok _, ⟨_, rfl⟩, q _ e⟩
      show Array.size _ ≤ _
      rw [← Array.length_toList]
      show (⟨(List.replicate ((n : Nat) : Int).toNat z.cps).foldl (· ++ ·) #[]⟩ : Str).cps.toList.length ≤ _
      rw [e, rep_len, Array.length_toList, Nat.mul_comm]
      exact hz
/-! ### writings nested deep -/
theorem wr_left (n : Nat) : Wr (rep n [40] ++ 49 :: rep n [43, 49, 41]) (n + 1 : Nat) (n + 1) := by
  induction n with
  | zero => exact Wr.one
  | succ n ih =>
    have e := Wr.plus ih Wr.one
    rw [rep_succ, rep_snoc]
    have e1 : ((n + 1 : Nat) : Int) + 1 = ((n + 1 + 1 : Nat) : Int) := by omega
    rw [e1] at e
    simpa using e
theorem wr_right (n : Nat) : Wr (rep n [40, 49, 43] ++ 49 :: rep n [41]) (n + 1 : Nat) (n + 1) := by
  induction n with
  | zero => exact Wr.one
  | succ n ih =>
    have e := Wr.plus Wr.one ih
    rw [rep_succ, rep_snoc]
    have e1 : 1 + ((n + 1 : Nat) : Int) = ((n + 1 + 1 : Nat) : Int) := by omega
    have e2 : 1 + (n + 1) = n + 1 + 1 := by omega
    rw [e1, e2] at e
    simpa using e
theorem wr_times (n : Nat) : Wr (rep n [40, 49, 42] ++ 49 :: rep n [41]) 1 (n + 1) := by
  induction n with
  | zero => exact Wr.one
  | succ n ih =>
    have e := Wr.times Wr.one ih
    rw [rep_succ, rep_snoc]
    have e2 : 1 + (n + 1) = n + 1 + 1 := by omega
    rw [e2] at e
    simpa using e
end Fo
namespace Fo
open PySem L2 FO
/-! ### readings of plain terms, by what they give -/
/-- from H0 on the term gives a value with Φ, and keeps all that stood -/
def Al (H0 : Hp) (σ : L2.St) (te : TE) (Φ : Hp → V → Prop) : Prop := ∀ (H : Hp) (Q : VK), Same H0 H → (∀ G v, Same H G → Φ G v → Q v G) → te σ H Q
def AlL (H0 : Hp) (σ : L2.St) (ta : TA) (Ψ : Hp → List V → Prop) : Prop := ∀ (H : Hp) (Q : List V → Hp → Prop), Same H0 H → (∀ G vs, Same H G → Ψ G vs → Q vs G) → ta σ H Q
def Stab (Φ : Hp → V → Prop) : Prop := ∀ H G v, Same H G → Φ H v → Φ G v
def Is (x : V) : Hp → V → Prop := fun _ v => v = x
def IsT (t : List Nat) : Hp → V → Prop := fun _ v => ∃ z : Str, v = .str z ∧ tl z = t
/-- a list of n values with Φ -/
def LsA (n : Nat) (Φ : Hp → V → Prop) : Hp → V → Prop := fun H v => ∃ p xs, v = .ref p ∧ H p = some (.lst xs) ∧ xs.length = n ∧ ∀ x ∈ xs, Φ H x
def AllV (n : Nat) (Φ : Hp → V → Prop) : Hp → List V → Prop := fun H vs => vs.length = n ∧ ∀ x ∈ vs, Φ H x
def IntsV (ns : List Int) : Hp → List V → Prop := fun _ vs => vs = ns.map V.int
theorem stab_is (x : V) : Stab (Is x) := fun _ _ _ _ h => h
theorem stab_t (t : List Nat) : Stab (IsT t) := fun _ _ _ _ h => h
theorem stab_ls {n : Nat} {Φ : Hp → V → Prop} (h : Stab Φ) : Stab (LsA n Φ) := fun _ _ _ s ⟨p, xs, e, hp, hn, hx⟩ => ⟨p, xs, e, s _ _ hp, hn, fun x m => h _ _ _ s (hx x m)⟩
section
variable {H0 : Hp} {σ : L2.St} {a b c d : TE} {ta : TA} {Φ Φ' : Hp → V → Prop}
theorem al_c {v : V} (h : ∀ H, Φ H v) : Al H0 σ (tC v) Φ := fun H _ _ k => k H v (Same.refl H) (h H)
theorem al_ci (v : V) : Al H0 σ (tC v) (Is v) := al_c fun _ => rfl
theorem al_ct (z : Str) : Al H0 σ (tC (.str z)) (IsT (tl z)) := al_c fun _ => ⟨z, rfl, rfl⟩
theorem al_v {i : Nat} {v : V} (e : σ[i]? = some (some v)) (st : Stab Φ) (h : Φ H0 v) : Al H0 σ (tVar i) Φ := fun H _ s k => ⟨v, e, k H v (Same.refl H) (st _ _ _ s h)⟩
theorem al_vi {i : Nat} {v : V} (e : σ[i]? = some (some v)) : Al H0 σ (tVar i) (Is v) := al_v e (stab_is v) rfl
theorem al_vt {i : Nat} {z : Str} {t : List Nat} (e : σ[i]? = some (some (.str z))) (h : tl z = t) : Al H0 σ (tVar i) (IsT t) := al_v e (stab_t t) ⟨z, rfl, h⟩
theorem al_weak (h : Al H0 σ a Φ) (k : ∀ H v, Φ H v → Φ' H v) : Al H0 σ a Φ' := fun H Q s q => h H Q s fun G v sG hv => q G v sG (k G v hv)
theorem al_neg {i : Int} (h : Al H0 σ a (Is (.int i))) : Al H0 σ (tUn (rU fun i => .int (-i)) a) (Is (.int (-i))) := fun H Q s k => h H _ s fun G v sG hv => by
  subst hv
  exact ⟨i, rfl, k G _ sG rfl⟩
theorem al_add {i j : Int} (h : Al H0 σ a (Is (.int i))) (g : Al H0 σ b (Is (.int j))) : Al H0 σ (tOp (rI0 fun i j => .int (i + j)) a b) (Is (.int (i + j))) := fun H Q s k => h H _ s fun G v sG hv => g G _ (s.trans sG) fun G2 u sG2 hu => by
  subst hv hu
  exact ⟨i, j, rfl, rfl, k G2 _ (sG.trans sG2) rfl⟩
theorem al_cat {x y : List Nat} (h : Al H0 σ a (IsT x)) (g : Al H0 σ b (IsT y)) (hl : x.length + y.length ≤ sizeLine) : Al H0 σ (tOp (fun x y H Q => ∃ i j, x = .str i ∧ y = .str j ∧ i.length + j.length ≤ sizeLine ∧ Q (.str (i ++ j)) H) a b) (IsT (x ++ y)) := fun H Q s k => h H _ s fun G v sG hv => g G _ (s.trans sG) fun G2 u sG2 hu => by
  obtain ⟨z1, rfl, rfl⟩ := hv
  obtain ⟨z2, rfl, rfl⟩ := hu
  exact ⟨z1, z2, rfl, rfl, by rw [lenT, lenT]; exact hl, k G2 _ (sG.trans sG2) ⟨_, rfl, tlA z1 z2⟩⟩
theorem al_rep {x : List Nat} {n : Nat} (h : Al H0 σ a (IsT x)) (g : Al H0 σ b (Is (.int (n : Nat)))) (hn : n < 4294967296) (hl : x.length * n ≤ sizeLine) : Al H0 σ (tOp rMulS a b) (IsT (rep n x)) := fun H Q s k => h H _ s fun G v sG hv => g G _ (s.trans sG) fun G2 u sG2 hu => by
  obtain ⟨z1, rfl, rfl⟩ := hv
  subst hu
  exact ⟨z1, n, rfl, rfl, hn, by rw [lenT]; exact hl, fun u hu => k G2 _ (sG.trans sG2) ⟨u, rfl, hu⟩⟩
theorem al_nil : AlL H0 σ tNil (AllV 0 Φ) := fun H Q s k => k H [] (Same.refl H) ⟨rfl, fun x hx => by cases hx⟩
theorem al_cons {n : Nat} (st : Stab Φ) (h : Al H0 σ a Φ) (g : AlL H0 σ ta (AllV n Φ)) : AlL H0 σ (tCons a ta) (AllV (n + 1) Φ) := fun H Q s k => h H _ s fun G v sG hv => g G _ (s.trans sG) fun G2 us sG2 hu =>
  k G2 (v :: us) (sG.trans sG2) ⟨by rw [List.length_cons, hu.1], fun x hx => by
    rcases List.mem_cons.mp hx with rfl | hx
    · exact st _ _ _ sG2 hv
    · exact hu.2 x hx⟩
theorem al_inil : AlL H0 σ tNil (IntsV []) := fun H Q s k => k H [] (Same.refl H) rfl
theorem al_icons {i : Int} {ns : List Int} (h : Al H0 σ a (Is (.int i))) (g : AlL H0 σ ta (IntsV ns)) : AlL H0 σ (tCons a ta) (IntsV (i :: ns)) := fun H Q s k => h H _ s fun G v sG hv => g G _ (s.trans sG) fun G2 us sG2 hu => by
  subst hv
  rw [show us = ns.map V.int from hu]
  exact k G2 _ (sG.trans sG2) rfl
theorem al_lst {n : Nat} (st : Stab Φ) (h : AlL H0 σ ta (AllV n Φ)) (hn : n ≤ sizeLine) : Al H0 σ (tLst ta) (LsA n Φ) := fun H Q s k => h H _ s fun G vs sG hv => ⟨by rw [hv.1]; exact hn, fun p np => k _ _ (sm_new sG np) ⟨p, vs, rfl, upd_same, hv.1, fun x hx => st _ _ _ (sm_upd np) (hv.2 x hx)⟩⟩
theorem al_catL {n m : Nat} (st : Stab Φ) (h : Al H0 σ a (LsA n Φ)) (g : Al H0 σ b (LsA m Φ)) (hn : n + m ≤ sizeLine) : Al H0 σ (tOp rCat a b) (LsA (n + m) Φ) := fun H Q s k => h H _ s fun G v sG hv => g G _ (s.trans sG) fun G2 u sG2 hu => by
  obtain ⟨p, xs, rfl, hp, hx, ax⟩ := stab_ls st _ _ _ sG2 hv
  obtain ⟨q, ys, rfl, hq, hy, ay⟩ := hu
  refine ⟨p, q, xs, ys, rfl, rfl, hp, hq, by rw [hx, hy]; exact hn, fun r nr => k _ _ (sm_new (sG.trans sG2) nr) ⟨r, _, rfl, upd_same, by rw [List.length_append, hx, hy], fun x hx => ?_⟩⟩
  rcases List.mem_append.mp hx with z | z
  · exact st _ _ _ (sm_upd nr) (ax x z)
  · exact st _ _ _ (sm_upd nr) (ay x z)
end
/-! ### texts with their worth and ones -/
def GoodC (t : List Nat) (w k : Int) : Prop := worthL t = w ∧ w ≠ 0 ∧ ((t.count 49 : Nat) : Int) = k ∧ t.length ≤ 2000
instance (t : List Nat) (w k : Int) : Decidable (GoodC t w k) := inferInstanceAs (Decidable (_ ∧ _))
theorem wr_good {t : List Nat} {n : Int} {k : Nat} (h : Wr t n k) (hk : k ≤ 500) : GoodC t n (k : Nat) := ⟨h.worth hk, by have := h.pos; omega, by rw [h.count], by have := h.len; omega⟩
def CaseP : Hp → V → Prop := fun H v => ∃ (T : Addr) (z : Str) (w k : Int), v = .ref T ∧ H T = some (.tup [.str z, .int w, .int k]) ∧ GoodC (tl z) w k
theorem stab_case : Stab CaseP := fun _ _ _ s ⟨T, z, w, k, e, h, g⟩ => ⟨T, z, w, k, e, s _ _ h, g⟩
/-- a writing, its floor, a number, whether it shows it -/
def RowP : Hp → V → Prop := fun H v => ∃ (T : Addr) (z : Str) (l : Addr) (ns : List Int) (n : Int) (b : Bool), v = .ref T ∧ H T = some (.tup [.str z, .ref l, .int n, .bl b]) ∧ H l = some (.lst (ns.map V.int)) ∧ z.length ≤ 2000 ∧ 1 ≤ n ∧ n ≤ 1000 ∧ decide (Shows (tl z) ns n) = b
theorem stab_row : Stab RowP := fun _ _ _ s ⟨T, z, l, ns, n, b, e, h, g, r⟩ => ⟨T, z, l, ns, n, b, e, s _ _ h, s _ _ g, r⟩
def RowOk (t : List Nat) (ns : List Int) (n : Int) (b : Bool) : Prop := t.length ≤ 2000 ∧ ns.length ≤ 1000 ∧ 1 ≤ n ∧ n ≤ 1000 ∧ decide (Shows t ns n) = b
instance (t : List Nat) (ns : List Int) (n : Int) (b : Bool) : Decidable (RowOk t ns n b) := inferInstanceAs (Decidable (_ ∧ _))
section
variable {H0 : Hp} {σ : L2.St} {a b c d : TE} {ta : TA}
theorem al_case {t : List Nat} {w k : Int} (h1 : Al H0 σ a (IsT t)) (h2 : Al H0 σ b (Is (.int w))) (h3 : Al H0 σ c (Is (.int k))) (g : GoodC t w k) : Al H0 σ (tTup (tCons a (tCons b (tCons c tNil)))) CaseP :=
  fun H Q s q => h1 H _ s fun G1 v1 s1 e1 => h2 G1 _ (s.trans s1) fun G2 v2 s2 e2 => h3 G2 _ ((s.trans s1).trans s2) fun G3 v3 s3 e3 => by
    obtain ⟨z, rfl, rfl⟩ := e1
    subst e2 e3
    exact ⟨(show 3 ≤ sizeLine by decide), fun p np => q _ _ (sm_new ((s1.trans s2).trans s3) np) ⟨p, z, w, k, rfl, upd_same, g⟩⟩
theorem al_row {t : List Nat} {ns : List Int} {n : Int} {e : Bool} (h1 : Al H0 σ a (IsT t)) (h2 : AlL H0 σ ta (IntsV ns)) (h3 : Al H0 σ b (Is (.int n))) (h4 : Al H0 σ c (Is (.bl e))) (g : RowOk t ns n e) : Al H0 σ (tTup (tCons a (tCons (tLst ta) (tCons b (tCons c tNil))))) RowP :=
  fun H Q s q => h1 H _ s fun G1 v1 s1 e1 => h2 G1 _ (s.trans s1) fun G2 v2 s2 e2 => by
    obtain ⟨g1, g2, g3, g4, g5⟩ := g
    rw [show v2 = ns.map V.int from e2]
    refine ⟨by rw [List.length_map]; exact Nat.le_trans g2 (by decide), fun l nl => ?_⟩
    have s3 := sm_new (o := .lst (ns.map V.int)) s2 nl
    refine h3 _ _ ((s.trans s1).trans s3) fun G4 v4 s4 e4 => h4 G4 _ (((s.trans s1).trans s3).trans s4) fun G5 v5 s5 e5 => ?_
    obtain ⟨z, rfl, rfl⟩ := e1
    subst e4 e5
    have s25 := s4.trans s5
    exact ⟨(show 4 ≤ sizeLine by decide), fun p np => q _ _ (sm_new ((s1.trans s3).trans s25) np) ⟨p, z, l, ns, n, e, rfl, upd_same, sm_upd np _ _ (s25 _ _ upd_same), by rw [lenT]; exact g1, g3, g4, g5⟩⟩
end
end Fo
namespace Fo
open PySem L2 FO LamX PySem.Spec PyProof.Rows
/-! ### a heap to stand on: all that is not tracked and no frame, with the cells of a def that runs -/
def rb (h : Heap) (H : Hp) (l : List Env) : Heap := PySem.W.hideAll h (trk h H ++ frs l)
theorem rb_get {h : Heap} {H : Hp} {l : List Env} {b : Addr} {o : Obj} (e : h.get? b = some o) (n : H b = none) (hf : b ∉ frs l) : (rb h H l).get? b = some o :=
  PySem.W.hideAll_get _ e fun z => (List.mem_append.mp z).elim (fun z => by
    have := (List.mem_filter.mp z).2
    rw [n] at this
    cases this) hf
theorem of_rb {h : Heap} {H : Hp} {l : List Env} {b : Addr} {o : Obj} (e : (rb h H l).get? b = some o) : h.get? b = some o ∧ H b = none := by
  have e1 := PySem.W.of_hideAll _ e
  refine ⟨e1, ?_⟩
  cases q : H b with
  | none => rfl
  | some u =>
    have hm : b ∈ trk h H ++ frs l := List.mem_append_left _ (List.mem_filter.mpr ⟨List.mem_range.mpr (Heap.lt_size e1), by rw [q]; rfl⟩)
    have e2 := PySem.W.hideAll_none _ (h := h) hm
    unfold rb at e
    rw [e2] at e
    cases e
section
variable {X : Cx} {pins : List (Addr × Obj)} {σ : L2.St} {H : Hp} {s : Shared}
theorem rb_keeps (I : Inv X pins σ H s) : ∀ b o, X.base.get? b = some o → (rb s.heap H X.stack).get? b = some o := fun b o e =>
  rb_get (I.bs b o e).1 (I.bs b o e).2 fun z => by
    have := (I.stack.mem z).1
    rw [e] at this
    cases this
theorem rb_mod (I : Inv X pins σ H s) : Mod X.K X.mg (rb s.heap H X.stack) := by
  have k := rb_keeps I
  have m := I.ok.mod
  obtain ⟨mb, hb, hx⟩ := m.blt
  exact ⟨m.kin.keeps k, m.glob.keeps k, ⟨mb, hb.keeps k, hx⟩, m.nolimit.keeps k⟩
theorem rebase (I : Inv X pins σ H s) : Env0 X.prog X.w X.K X.mg (rb s.heap H X.stack) X.A X.stack s H :=
  ⟨I.ok.frames, rb_mod I, fun _ _ e => of_rb e, Nat.le_of_eq (PySem.W.hideAll_size _ _), PySem.W.funFrames_hide I.stack fun env he a ha => List.mem_append_right _ (List.mem_filterMap.mpr ⟨env, he, ha⟩), I.stkFree, I.hok, I.bare⟩
/-- the cells of the def hold what its slots hold -/
structure CellsOk (X : Cx) (σ : L2.St) (B : Heap) : Prop where
  ok : X.Ok
  len : σ.length = X.N.length
  cell : ∀ y c, X.env.cells.lookup y = some c → ∃ v, B.IsCell c v
  val : ∀ (i : Nat) (y : Str) (v : V), X.N[i]? = some y → σ[i]? = some (some v) → (X.env.scope.names.lookup y = some .cell ∨ X.env.scope.names.lookup y = some .free) → ∃ u c, RelV v u ∧ X.env.cells.lookup y = some c ∧ B.IsCell c (some u)
theorem cells_ok (I : Inv X pins σ H s) (hfn : ∀ y, X.fn y = true) : CellsOk X σ (rb s.heap H X.stack) := by
  have up : ∀ {y : Str} {c : Addr} {v : Option Value}, X.env.cells.lookup y = some c → s.heap.IsCell c v → (rb s.heap H X.stack).IsCell c v := fun {y c v} hc ⟨o, ho, hd⟩ => by
    refine ⟨o, rb_get ho (I.freeC y c hc) fun z => ?_, hd⟩
    rcases List.mem_cons.mp (I.stkSub c z) with e | e
    · obtain ⟨m, ⟨o2, es, ep, e2, d2, _⟩, _⟩ := I.loc
      rw [← e, ho] at e2
      cases e2
      rw [hd] at d2
      cases d2
    · obtain ⟨_, o2, h2, _⟩ := I.ok.funs.mem e
      have h3 := I.ok.cab y c (hfn y) hc
      exact absurd (Nat.lt_of_lt_of_le (Heap.lt_size h2) h3) (Nat.lt_irrefl _)
  refine ⟨I.ok, I.len, fun y c hc => ?_, fun i y v h1 h2 hk => ?_⟩
  · obtain ⟨v, hv⟩ := I.cell y c hc
    exact ⟨v, up hc hv⟩
  · obtain ⟨m, hn, hl⟩ := I.loc
    obtain ⟨u, r, q⟩ := hl i y v h1 h2 (.inr hk)
    rcases q with ⟨k', _⟩ | ⟨_, c, hc, z⟩
    · have k' : X.env.scope.names.lookup y = some .local := k'
      rcases hk with k2 | k2 <;> rw [k2] at k' <;> cases k'
    · exact ⟨u, c, r, hc, up hc z⟩
end
theorem look_mem {y : Str} {u : Value} : ∀ {l : List (Str × Value)}, (l.map (·.1)).Nodup → (y, u) ∈ l → l.lookup y = some u
  | (k, v) :: l, nd, h => by
    rw [List.map_cons, List.nodup_cons] at nd
    rw [List.lookup_cons]
    rcases List.mem_cons.mp h with e | e
    · cases e
      simp
    · have hne : (y == k) = false := by
        cases q : y == k with
        | false => rfl
        | true =>
          have : y = k := eq_of_beq q
          subst this
          exact absurd (List.mem_map.mpr ⟨_, e, rfl⟩) nd.1
      rw [hne]
      exact look_mem nd.2 e
theorem look_zip {ps : List Str} {us : List Value} {i : Nat} {y : Str} {u : Value} (nd : ps.Nodup) (hl : us.length = ps.length) (a : ps[i]? = some y) (b : us[i]? = some u) : (ps.zip us).reverse.lookup y = some u := by
  refine look_mem ?_ (List.mem_reverse.mpr (List.mem_of_getElem? (i := i) ?_))
  · rw [List.map_reverse, List.map_fst_zip (by omega), List.Nodup, List.pairwise_reverse]
    exact nd.imp fun h => Ne.symm h
  · rw [List.getElem?_zip_eq_some]
    exact ⟨a, b⟩
/-- a lambda's names: its parameters ps, captured ones, globals -/
structure LamP (sc scope : Scope) (N ps : List Str) : Prop where
  kind : scope.kind = .function
  co : scope.isCoroutine = false
  gen : scope.isGenerator = false
  own : ∀ y ∈ scope.names, y.2 ≠ .cell
  loc : ∀ y ∈ scope.names, y.2 = .local → y.1 ∈ ps
  par : ∀ x ∈ ps, scope.names.lookup x = some .local
  new : ∀ x ∈ ps, x ∉ N
  nd : ps.Nodup
  free : ∀ y ∈ scope.names, y.2 = .free → sc.names.lookup y.1 = some .cell ∨ sc.names.lookup y.1 = some .free
def lamPB (sc scope : Scope) (N ps : List Str) : Bool :=
  decide (scope.kind = .function) && !scope.isCoroutine && !scope.isGenerator && (scope.names.all fun y => !decide (y.2 = .cell) && (!decide (y.2 = .local) || decide (y.1 ∈ ps)) && (!decide (y.2 = .free) || decide (sc.names.lookup y.1 = some .cell) || decide (sc.names.lookup y.1 = some .free))) &&
    (ps.all fun x => decide (scope.names.lookup x = some .local) && !decide (x ∈ N)) && decide ps.Nodup
theorem lamP_by {sc scope : Scope} {N ps : List Str} (h : lamPB sc scope N ps = true) : LamP sc scope N ps := by
  unfold lamPB at h
  simp only [Bool.and_eq_true, Bool.or_eq_true, Bool.not_eq_true', decide_eq_true_eq, decide_eq_false_iff_not, List.all_eq_true] at h
  obtain ⟨⟨⟨⟨⟨h1, h2⟩, h3⟩, h4⟩, h5⟩, h6⟩ := h
  refine ⟨h1, h2, h3, fun y hy => (h4 y hy).1.1, fun y hy e => ((h4 y hy).1.2).resolve_left (fun n => n e), fun x hx => (h5 x hx).1, fun x hx => (h5 x hx).2, h6, fun y hy e => ?_⟩
  rcases (h4 y hy).2 with (z | z) | z
  · exact absurd e z
  · exact .inl z
  · exact .inr z
theorem LamP.has {X : Cx} {scope : Scope} {N ps : List Str} (L : LamP X.env.scope scope N ps) (ok : X.Ok) : ∀ y ∈ scope.names, y.2 = .free → ∃ c, X.env.cells.lookup y.1 = some c := fun y hy e => ok.has _ (L.free y hy e)
/-- the context of the lambda's body, on the heap B -/
def lamCy (X : Cx) (B : Heap) (ps : List Str) (A : Around) (outer : List Env) (s : Shared) (H : Hp) (E : XK) (scope : Scope) (f c' : Addr) : Cx :=
  { lamCx X A outer s H E scope f c' with base := B, N := ps ++ X.N }
section
variable {X : Cx} {σ : L2.St} {B : Heap} {ps : List Str} {scope : Scope}
theorem lam_begin {A : Around} {outer : List Env} {s : Shared} {H : Hp} {E : XK} {f c' : Addr} {h₁ : Heap} {tk : Nat} {vs : List V} {us : List Value} (C : CellsOk X σ B) (L : LamP X.env.scope scope X.N ps) (e0 : Env0 X.prog X.w X.K X.mg B A outer s H) (hd : A.handled = none)
    (hns : h₁.Ns s.heap.objs.size fun y => (ps.zip us).reverse.lookup y) (kp : ∀ b o, s.heap.get? b = some o → h₁.get? b = some o) (r : Vals vs us) (hl : vs.length = ps.length) :
    Inv (lamCy X B ps A outer s H E scope f c') [] (vs.map some ++ σ) H { s with heap := h₁, toks := tk } := by
  have sub : ∀ {y : Str} {c : Addr}, (cloFrom X.env.cells scope.names []).lookup y = some c → X.env.cells.lookup y = some c := fun {y c} e => by
    rcases cloFrom_mem (PySem.mem_of_lookup e) with hm | ⟨m1, m2⟩
    · cases hm
    · obtain ⟨c1, hc⟩ := L.has C.ok _ m1 rfl
      rw [show X.env.cells.lookup y = some c1 from hc] at m2 ⊢
      exact congrArg some m2.symm
  have has : ∀ {y : Str}, scope.names.lookup y = some .free → ∃ c, (cloFrom X.env.cells scope.names []).lookup y = some c := fun {y} hy => mem_lookup (cloFrom_has (cells := X.env.cells) (acc := []) (show (y, NameKind.free) ∈ scope.names from PySem.mem_of_lookup hy))
  have low : ∀ {c : Addr} {v : Option Value}, B.IsCell c v → h₁.IsCell c v := fun {c v} ⟨o, ho, hd⟩ => ⟨o, kp _ _ (e0.bs _ _ ho).1, hd⟩
  have e : ∀ b : Addr, b ∉ (lamCy X B ps A outer s H E scope f c').ex := fun b z => absurd (show b ∈ ([] : List Addr) from z) (by simp)
  have lu : us.length = ps.length := by rw [← r.length]; exact hl
  refine ⟨⟨e0.mod, L.kind, rfl, rfl, Nat.le_refl _, fun x y c a b => C.ok.inj x y c (sub a) (sub b), fun y hy => ?_, fun y c z _ => Bool.noConfusion z, fun _ => hd, Around.frames_deeper e0.frames, .inr ⟨rfl, rfl⟩, fun b z => absurd z (e b), e0.bs, e0.bsz, fun b _ _ => e b, fun b z => absurd z (e b), e0.funs, e0.frf⟩,
    rfl, e0.bare, Un.kept kp, ⟨_, hns, fun i y v a b k => ?_⟩, fun y c a => ?_, e0.hok.fresh (Nat.le_refl _), fun y c a => ?_, fun q hq => absurd (show q ∈ ([] : List (Addr × Obj)) from hq) (by simp), e0.hok.kept kp, ?_⟩
  · have hy : scope.names.lookup y = some .cell ∨ scope.names.lookup y = some .free := hy
    rcases hy with hy | hy
    · exact absurd rfl (L.own _ (PySem.mem_of_lookup hy))
    · exact has hy
  · have a : (ps ++ X.N)[i]? = some y := a
    have k : Vis scope y := k
    by_cases hi : i < ps.length
    · rw [List.getElem?_append_left hi] at a
      rw [List.getElem?_append_left (by rw [List.length_map]; omega), List.getElem?_map] at b
      have hv : vs[i]? = some v := by
        cases q : vs[i]? with
        | none => rw [q] at b; cases b
        | some z => rw [q] at b; cases b; rfl
      obtain ⟨u, hu, ru⟩ := r.get hv
      refine ⟨u, ru, .inl ⟨L.par y (List.mem_of_getElem? a), ?_⟩⟩
      exact look_zip L.nd lu a hu
    · rw [List.getElem?_append_right (by omega)] at a
      rw [List.getElem?_append_right (by rw [List.length_map]; omega), List.length_map, hl] at b
      have ny : y ∉ ps := fun z => L.new y z (List.mem_of_getElem? a)
      rcases k with k | k | k
      · exact absurd (L.loc _ (PySem.mem_of_lookup k) rfl) ny
      · exact absurd rfl (L.own _ (PySem.mem_of_lookup k))
      · obtain ⟨u, c, ru, hc, z⟩ := C.val _ y v a b (L.free _ (PySem.mem_of_lookup k) rfl)
        obtain ⟨c2, h2⟩ := has k
        have := sub h2
        rw [hc] at this
        cases this
        exact ⟨u, ru, .inr ⟨.inr k, c, h2, low z⟩⟩
  · obtain ⟨v, z⟩ := C.cell y c (sub a)
    exact ⟨v, low z⟩
  · obtain ⟨v, o, ho, _⟩ := C.cell y c (sub a)
    exact (e0.bs _ _ ho).2
  · show (vs.map some ++ σ).length = (ps ++ X.N).length
    rw [List.length_append, List.length_append, List.length_map, hl, C.len]
end
end Fo
namespace Fo
open PySem L2 FO LamX PySem.Spec PyProof.Rows
/-- a lambda that was made: its object -/
abbrev lamO (X : Cx) (params : Arguments) (body : Expr) (scope : Scope) (pm : Value) (c' : Addr) (ctv : Value) : Obj := PySem.W.kla_obj "<lambda>" (X.env.qual ++ "<lambda>") params body scope (cloFrom X.env.cells scope.names []) pm c' ctv
/-- what a lambda promises, by its body's reading -/
def spLam (q : Str) (σ : L2.St) (c' : Addr) (n : Nat) (t : XK → TE) : Sp := fun vs H Q E => vs.length = n ∧ H c' = some (CodeO c' q) ∧ t E (vs.map some ++ σ) H Q
section
variable {X : Cx} {σ : L2.St} {B : Heap} {ps : List Str} {scope : Scope} {params : Arguments} {body : Expr} {pm ctv : Value} {f c' : Addr} {k : Nat} {t : XK → TE}
theorem fn_lam (C : CellsOk X σ B) (L : LamP X.env.scope scope X.N ps) (hf : B.get? f = some (lamO X params body scope pm c' ctv))
    (hbody : ∀ (A : Around) (outer : List Env) (s : Shared) (H : Hp) (E : XK), Room k (A.deeper (lamEnv X scope s.heap.objs.size f c')) → PE (lamCy X B ps A outer s H E scope f c') body (t E)) :
    FnOk X.prog X.w X.K X.mg B (L2.CX X.prog X.w) (k + 1) f (PySem.W.kla_fn "<lambda>" (X.env.qual ++ "<lambda>") params body scope (cloFrom X.env.cells scope.names []) pm (.ref c') ctv) ps (spLam (X.env.qual ++ "<lambda>") σ c' ps.length t) := by
  refine ⟨fun vs H Q E h => h.1, fun A outer s H args us vs Q E hr e0 hb r h => ?_⟩
  obtain ⟨hl, hc, ht⟩ := h
  have lim : s.heap.NoLimit := e0.mod.nolimit.keeps fun b o e => (e0.bs b o e).1
  obtain ⟨⟨oc, ws, tq, hoc, hdc, hvc⟩, _, _⟩ := e0.hok c' _ hc
  refine PySem.W.kla_callFunE hr.depth (e0.bs _ _ hf).1 rfl L.co L.gen rfl ⟨c', oc, ws, tq, rfl, hoc, hdc, hvc⟩ (hb _ _ _ _ ?_)
  refine wpAny_newFunctionEnv L.own (fun y hy => L.par y.1 (List.of_mem_zip hy).1) (fun h₁ hns hsb => ⟨lim.fresh _ hsb, ?_⟩) L.kind
  have kp : ∀ b o, s.heap.get? b = some o → h₁.get? b = some o := fun b o e => hsb.extBut b o (Nat.ne_of_lt (Heap.lt_size e)) (Heap.get?_push_of_some _ e)
  have J := lam_begin (E := E) (f := f) (c' := c') (tk := s.toks + (ps.zip us).length) C L e0 hr.hd hns kp r hl
  refine PySem.W.kla_codeExpr (wpAny_mono ((hbody A outer s H E (hr.deeper _)).run [] _ _ H Q J ht) (fun v s' hq => ?_) fun _ _ z => z)
  obtain ⟨v', H', J', rv, q⟩ := hq
  exact ⟨v', H', J'.os, J'.bare, J'.base, J'.hok, rv, q⟩
end
/-- what stands at f on the base is a function that keeps sp -/
structure Kc (P : Program) (w : World) (K : PySem.W.Frag) (mg : Str → Option Value) (base : Heap) (CX : CXT) (k : Nat) (f : Addr) (sp : Sp) : Prop where
  ex : ∃ (fd : FuncData) (ps : List Str), FnOk P w K mg base CX k f fd ps sp ∧ Binds K fd ps [] ∧ ∃ oc od sl, base.get? f = some ⟨oc, od, .func fd, sl⟩
section
variable {X : Cx} {k j i : Nat} {x : Str} {p pos : Pos} {e : Expr} {es : List Expr} {t : TA}
/-- a() of a name that holds such a function -/
theorem pkC0 {W : WX} {S : Addr → Sp → Prop} (A : ∀ f sp, S f sp → Kc X.prog X.w X.K X.mg X.base (L2.CX X.prog X.w) k f sp) (tk : Takes X W) (hr : Room j X.A) (hk : k ≤ j) (hN : X.N[i]? = some x) (hv : Vis X.env.scope x)
    (hdb : (x == ("__debug__" : Str)) = false := by decide) (hcd : (x == ("__classdict__" : Str)) = false := by decide) : PE X (.Call (.Name x p) [] [] pos) (tCallVS i S W tNil) := by
  refine ⟨fun pins s σ H Q I h => ?_⟩
  obtain ⟨f, sp, hs, hS, ht⟩ := h
  obtain ⟨fd, ps, F, hb, oc, od, sl, hf⟩ := (A f sp hS).ex
  have load := (pe_var (pos := p) hN hv hdb hcd).run pins s σ H (fun v H1 => v = .ref f ∧ H1 = H) I ⟨.ref f, hs, rfl, rfl⟩
  refine wpAny_Call_Name_kw (thn load fun u s1 back => ?_)
  obtain ⟨v, H1, I1, r1, ev, eH⟩ := back
  subst ev eH
  have eu : u = Value.ref f := r1
  subst eu
  exact PySem.W.callWith_F0 ⟨oc, od, fd, sl, I1.bk _ _ hf⟩ (run_fnS F (hr.mono hk) hb (passAt tk σ) I1 .nil ht)
/-- .. with arguments -/
theorem pkC {W : WX} {S : Addr → Sp → Prop} (A : ∀ f sp, S f sp → Kc X.prog X.w X.K X.mg X.base (L2.CX X.prog X.w) k f sp) (tk : Takes X W) (hr : Room j X.A) (hk : k ≤ j) (hN : X.N[i]? = some x) (hv : Vis X.env.scope x) (ha : PA X (e :: es) t)
    (hdb : (x == ("__debug__" : Str)) = false := by decide) (hcd : (x == ("__classdict__" : Str)) = false := by decide)
    (he : starEach (e :: es) X.env = (false, eval e X.env) :: starEach es X.env := by rfl)
    (hpl : (backTo pos (starEach es X.env)).any (·.1) = false := by rfl) : PE X (.Call (.Name x p) (e :: es) [] pos) (tCallVS i S W t) := by
  refine ⟨fun pins s σ H Q I h => ?_⟩
  obtain ⟨f, sp, hs, hS, ht⟩ := h
  obtain ⟨fd, ps, F, hb, oc, od, sl, hf⟩ := (A f sp hS).ex
  have load := (pe_var (pos := p) hN hv hdb hcd).run pins s σ H (fun v H1 => v = .ref f ∧ H1 = H) I ⟨.ref f, hs, rfl, rfl⟩
  refine wpAny_Call_Name_kw (thn load fun u s1 back => ?_)
  obtain ⟨v, H1, I1, r1, ev, eH⟩ := back
  subst ev eH
  have eu : u = Value.ref f := r1
  subst eu
  have run := ha.run pos pins s1 σ _ _ I1 ht
  refine PySem.W.callWith_F ⟨oc, od, fd, sl, I1.bk _ _ hf⟩ (thn run fun us s2 back => ?_) he hpl
  obtain ⟨vs, H2, I2, r, q⟩ := back
  exact ⟨⟨oc, od, fd, sl, I2.bk _ _ hf⟩, run_fnS F (hr.mono hk) hb (passAt tk σ) I2 r q⟩
end
/-- x(lambda: .., ..): f the lambda, c' its code object -/
def tCallLam (T : List (Addr × Str)) (q : Str) (sp : L2.St → Addr → Addr → Sp) (ta : TA) : TE := fun σ H Q => Tabs T H ∧ ∀ f c' H1, ExtN H H1 → Tabs T H1 → H1 c' = some (CodeO c' q) → ta σ H1 fun vs H2 => sp σ f c' (.ref f :: vs) H2 Q E0
section
variable {X : Cx} {k j : Nat} {x : Str} {p pos lpos : Pos} {es : List Expr} {ta : TA} {params : Arguments} {body : Expr} {scope : Scope} {ps : List Str} {T : List (Addr × Str)} {c P : Addr} {sp : L2.St → Addr → Addr → Sp}
theorem pe_callLam (D : ∃ g, X.mg x = some (.ref g) ∧ PySem.W.keepIn X.K (.ref g) = true) (hg : Gl X x) (TB : TabB X.base X.mg c P) (hcode : X.env.code = .ref c) (hm : (P, X.env.qual ++ "<lambda>") ∈ T) (hu : ∀ z ∈ T, z.1 = P → z.2 = X.env.qual ++ "<lambda>")
    (hdef : defaultsOf params X.env = ([], [])) (L : LamP X.env.scope scope X.N ps) (hfn : ∀ y, X.fn y = true) (hr : Room j X.A) (hk : k ≤ j) (ha : PA X es ta)
    (F : ∀ (σ : L2.St) (B : Heap) (f c' : Addr) (pm ctv : Value), Mod X.K X.mg B → CellsOk X σ B → B.get? f = some (lamO X params body scope pm c' ctv) → Kp X.prog X.w X.K X.mg B CX0 k x (sp σ f c'))
    (hdb : (x == ("__debug__" : Str)) = false := by decide) (he : starEach (.Lambda params body scope lpos :: es) X.env = (false, eval (.Lambda params body scope lpos) X.env) :: starEach es X.env := by rfl)
    (hpl : (backTo pos (starEach es X.env)).any (·.1) = false := by rfl) :
    PE X (.Call (.Name x p) (.Lambda params body scope lpos :: es) [] pos) (tCallLam T (X.env.qual ++ "<lambda>") sp ta) := by
  refine ⟨fun pins s σ H Q I h => ?_⟩
  obtain ⟨g, hmg, hkp⟩ := D
  obtain ⟨hT, h⟩ := h
  refine wpAny_Call_Name_kw (ld_glob I hg hmg ?_ hdb)
  refine PySem.W.callWith_K (h₀ := X.base) I.ok.mod.kin hkp ?_ he hpl
  rw [he]
  refine Calls.spliced_cons (lam_make2 I TB hcode hm hu hT hdef (L.has I.ok) fun f c' pm ctv H1 s' I1 eN T1 hf hfn' hfr hco => ?_)
  have nl : f ≠ X.env.locals ∧ f ∉ X.fs := by
    refine ⟨fun z => ?_, fun z => ?_⟩
    · obtain ⟨m, ⟨o2, e2, e3, e4, d2, _⟩, _⟩ := I1.loc
      rw [← z, hf] at e4
      cases e4
      cases d2
    · exact hfr (by
        rcases I1.ok.stk with e | ⟨e, _⟩
        · rw [e]; exact z
        · rw [e]
          have z : f ∈ frs X.outer := z
          unfold frs at z ⊢
          rw [List.filterMap_cons]
          cases X.env.frame with
          | none => exact z
          | some b => exact List.mem_cons_of_mem _ z)
  have I2 : Inv X ((f, lamO X params body scope pm c' ctv) :: pins) σ H1 s' := I1.pins_of fun q hq => by
    rcases List.mem_cons.mp hq with rfl | hq
    · exact ⟨hf, hfn', nl.1, nl.2, fun v z => by cases z⟩
    · exact I1.pin q (List.mem_append_right _ hq)
  refine thn (ha.run pos _ s' σ H1 _ I2 (h f c' H1 eN T1 hco)) fun us s2 back => ?_
  obtain ⟨vs, H2, I3, r, q⟩ := back
  obtain ⟨pf, pn, _⟩ := I3.pin (f, lamO X params body scope pm c' ctv) (List.mem_append_right _ (by simp))
  have I4 : Inv X pins σ H2 s2 := I3.pins_of fun q hq => I3.pin q (List.mem_append_right _ (List.mem_cons_of_mem _ hq))
  have nf : f ∉ frs X.stack := hfr
  obtain ⟨g', fd, ps', Fk, hmg', _, hb⟩ := (F σ _ f c' pm ctv (rb_mod I4) (cells_ok I4 hfn) (rb_get pf pn nf)).ex
  rw [hmg] at hmg'
  cases hmg'
  refine ⟨I4.kIn, ?_⟩
  have hl : (Value.ref f :: us).length = ps'.length := by rw [← Fk.len _ _ _ _ q, List.length_cons, List.length_cons, r.length]
  have bd := hb s2 (.ref f :: us) I4.kIn (by rw [List.append_nil]; exact hl)
  rw [List.append_nil] at bd
  refine wpAny_call (codeAny_mono (Fk.run X.A X.stack s2 H2 ⟨.ref f :: us, []⟩ (.ref f :: us) (.ref f :: vs) Q E0 (hr.mono hk) (rebase I4) bd (.cons rfl r) q) fun rr s3 hq => ?_)
  cases rr with
  | error e => exact (show False from hq).elim
  | ok fl =>
    cases fl with
    | ret u => exact I4.after hq
    | next => exact False.elim hq
    | brk => exact False.elim hq
    | cont => exact False.elim hq
end
end Fo
namespace Fo
open PySem L2 FO
section
variable {P : Program} {w : World} {K : PySem.W.Frag} {mg : Str → Option Value} {base : Heap} {CO CT CN CM : Addr}
theorem Ka.mono {CX : CXT} {j k : Nat} {f : Addr} {sp : Sp} (A : Ka P w K mg base CX j f sp) (h : j ≤ k) : Ka P w K mg base CX k f sp := by
  obtain ⟨fd, ps, F, kp, hb⟩ := A.ex
  exact ⟨fd, ps, F.mono h, kp, hb⟩
/-- what a def is asked is refused by the class C -/
def Refuses (sp : Sp) (v : V) (H : Hp) (C : Addr) : Prop := ∀ (Q : VK) (E : XK), (∀ H', Same H H' → E (.ref C) none H') → sp [v] H Q E
/-! ### _law_word -/
def WordOf (CN CM CT C : Addr) (x : Str) : Prop := (C = CN ∧ x = "number") ∨ (C = CM ∧ x = "ones") ∨ (C = CT ∧ x = "text")
def spWord (S : Addr → Sp → Prop) (CN CM CT : Addr) : Sp := fun vs H Q _ => ∃ (g : Addr) (sp : Sp) (v : V) (C : Addr) (x : Str), vs = [.ref g, v] ∧ S g sp ∧ WordOf CN CM CT C x ∧ Refuses sp v H C ∧ ∀ H', Same H H' → Q (.str x) H'
/-- isinstance(error, c) -/
def rKind (K : PySem.W.Frag) (a : Addr) (cls : Value) (d : Option Addr) : List V → Hp → VK → Prop := fun xs H Q => ∃ D, cls = .ref D ∧ d = none ∧ ExcC K D ∧ rIsE K D a xs H Q
/-- kinds = [isinstance ..]; return (..)[kinds.index(True)] if True in kinds else .. -/
def t_word (K : PySem.W.Frag) (CN CM CT : Addr) : Addr → Value → Option Addr → TS := fun a cls d =>
  tSeq (tAsg (tLst (tCons (tCB (rKind K a cls d) (tCons (tVar 2) (tCons (tC (.ref CN)) tNil))) (tCons (tCB (rKind K a cls d) (tCons (tVar 2) (tCons (tC (.ref CM)) tNil))) (tCons (tCB (rKind K a cls d) (tCons (tVar 2) (tCons (tC (.ref CT)) tNil))) tNil)))) (gName 3))
    (tRet (tIf (tTest (tOp (rIn K false) (tC (.bl true)) (tVar 3))) (tOp (rIxT K) (tTup (tCons (tC (.str "number")) (tCons (tC (.str "ones")) (tCons (tC (.str "text")) tNil)))) (tBM K "list" (rIndex K) (tVar 3) (tCons (tC (.bl true)) tNil))) (tC (.str "other"))))
end
end Fo
namespace Fo
open PySem L2 FO
section
variable {P : Program} {w : World} {K : PySem.W.Frag} {mg : Str → Option Value} {base : Heap}
/-- a call without arguments -/
theorem pk0 {X : Cx} {k j : Nat} {x : Str} {sp : Sp} {p pos : Pos} (c : Kp X.prog X.w X.K X.mg X.base CX0 k x sp) (hr : Room j X.A) (hk : k ≤ j) (hg : Gl X x) (hdb : (x == ("__debug__" : Str)) = false := by decide) : PE X (.Call (.Name x p) [] [] pos) (tCall sp [] E0 tNil) := by
  obtain ⟨f, fd, ps, F, hm, kp, b⟩ := c.ex
  exact pe_call0 F (hr.mono hk) hg hm kp b .nil pass0 hdb
/-! ### _law_power -/
def spPower : Sp := fun vs H Q _ => ∃ b n : Nat, vs = [.int (b : Nat), .int (n : Nat)] ∧ b ≤ 1000 ∧ n ≤ 10000 ∧ Q (.int ((b ^ n : Nat) : Int)) H
end
end Fo
namespace Fo
open PySem L2 FO
/-! ### _law_texts_right -/
theorem tl1 : tl ("(" : Str) = [40] ∧ tl (")" : Str) = [41] ∧ tl ("1" : Str) = [49] ∧ tl ("+1)" : Str) = [43, 49, 41] ∧ tl ("(1+" : Str) = [40, 49, 43] ∧ tl ("(1*" : Str) = [40, 49, 42] ∧ tl ("*" : Str) = [42] := by decide +kernel
theorem goodL {n : Nat} (h : n ≤ 499) {w : Int} (hw : w = (n : Int) + 1) : GoodC (rep n (tl ("(" : Str)) ++ tl ("1" : Str) ++ rep n (tl ("+1)" : Str))) w w := by
  subst hw
  have e := wr_good (wr_left n) (by omega)
  rw [tl1.1, tl1.2.2.1, tl1.2.2.2.1]
  simpa using e
theorem goodR {n : Nat} (h : n ≤ 499) {w : Int} (hw : w = (n : Int) + 1) : GoodC (rep n (tl ("(1+" : Str)) ++ tl ("1" : Str) ++ rep n (tl (")" : Str))) w w := by
  subst hw
  have e := wr_good (wr_right n) (by omega)
  rw [tl1.2.1, tl1.2.2.1, tl1.2.2.2.2.1]
  simpa using e
theorem goodT {n : Nat} (h : n ≤ 499) {w : Int} (hw : w = (n : Int) + 1) : GoodC (rep n (tl ("(1*" : Str)) ++ tl ("1" : Str) ++ rep n (tl (")" : Str))) 1 w := by
  subst hw
  have e := wr_good (wr_times n) (by omega)
  rw [tl1.2.1, tl1.2.2.1, tl1.2.2.2.2.2.1]
  simpa using e
theorem len_rep {n m : Nat} (t u x : List Nat) (h1 : t.length ≤ 3) (h2 : u.length ≤ 3) (h3 : x.length ≤ 3) (hn : n ≤ 5000) (hm : m ≤ 5000) : (rep n t).length + x.length ≤ sizeLine ∧ (rep n t ++ x).length + (rep m u).length ≤ sizeLine ∧ t.length * n ≤ sizeLine := by
  have e1 : n * t.length ≤ n * 3 := Nat.mul_le_mul_left _ h1
  have e2 : m * u.length ≤ m * 3 := Nat.mul_le_mul_left _ h2
  have e3 : (16777216 : Nat) = sizeLine := PySem.sizeLine_eq.symm
  rw [List.length_append, rep_len, rep_len, Nat.mul_comm t.length, ← e3]
  omega
section
variable {H0 : Hp} {σ : L2.St} {a b c d : TE} {ta : TA} {Φ : Hp → V → Prop}
/-- t * n + x + u * m -/
theorem al_deep {t u x : List Nat} {n m : Nat} {a1 a2 b1 b2 c1 : TE} (h1 : Al H0 σ a1 (IsT t)) (h2 : Al H0 σ a2 (Is (.int (n : Nat)))) (h3 : Al H0 σ c1 (IsT x)) (h4 : Al H0 σ b1 (IsT u)) (h5 : Al H0 σ b2 (Is (.int (m : Nat)))) (l1 : t.length ≤ 3) (l2 : u.length ≤ 3) (l3 : x.length ≤ 3) (hn : n ≤ 5000) (hm : m ≤ 5000) :
    Al H0 σ (tOp (fun x y H Q => ∃ i j, x = .str i ∧ y = .str j ∧ i.length + j.length ≤ sizeLine ∧ Q (.str (i ++ j)) H) (tOp (fun x y H Q => ∃ i j, x = .str i ∧ y = .str j ∧ i.length + j.length ≤ sizeLine ∧ Q (.str (i ++ j)) H) (tOp rMulS a1 a2) c1) (tOp rMulS b1 b2)) (IsT (rep n t ++ x ++ rep m u)) :=
  al_cat (al_cat (al_rep h1 h2 (by omega) (len_rep t u x l1 l2 l3 hn hm).2.2) h3 (len_rep t u x l1 l2 l3 hn hm).1) (al_rep h4 h5 (by omega) (len_rep u t x l2 l1 l3 hm hn).2.2) (len_rep t u x l1 l2 l3 hn hm).2.1
/-- a new list of n values with Φ -/
def LsF (H0 : Hp) (n : Nat) (Φ : Hp → V → Prop) : Hp → V → Prop := fun H v => ∃ p xs, v = .ref p ∧ H0 p = none ∧ H p = some (.lst xs) ∧ xs.length = n ∧ ∀ x ∈ xs, Φ H x
theorem al_catF {n m : Nat} (st : Stab Φ) (h : Al H0 σ a (LsA n Φ)) (g : Al H0 σ b (LsA m Φ)) (hn : n + m ≤ sizeLine) : Al H0 σ (tOp rCat a b) (LsF H0 (n + m) Φ) := fun H Q s k => h H _ s fun G v sG hv => g G _ (s.trans sG) fun G2 u sG2 hu => by
  obtain ⟨p, xs, rfl, hp, hx, ax⟩ := stab_ls st _ _ _ sG2 hv
  obtain ⟨q, ys, rfl, hq, hy, ay⟩ := hu
  refine ⟨p, q, xs, ys, rfl, rfl, hp, hq, by rw [hx, hy]; exact hn, fun r nr => k _ _ (sm_new (sG.trans sG2) nr) ⟨r, _, rfl, ((s.trans sG).trans sG2).free nr, upd_same, by rw [List.length_append, hx, hy], fun x hx => ?_⟩⟩
  rcases List.mem_append.mp hx with z | z
  · exact st _ _ _ (sm_upd nr) (ax x z)
  · exact st _ _ _ (sm_upd nr) (ay x z)
end
theorem case_put {H : Hp} {r : Addr} {xs ys : List V} {v : V} (hr : H r = some (.lst xs)) (h : CaseP H v) : CaseP (upd H r (.lst ys)) v := by
  obtain ⟨T, z, w, k, e, hT, g⟩ := h
  exact ⟨T, z, w, k, e, by rw [upd_ne (ne_of hT hr (by intro z; cases z))]; exact hT, g⟩
/-- no text that writes a number -/
def BadP : Hp → V → Prop := fun H v => (∃ z : Str, v = .str z ∧ z.length ≤ sizeLine ∧ worthL (tl z) = 0) ∨ v = .non ∨ (∃ i, v = .int i) ∨ (∃ b, v = .bl b) ∨ (∃ p xs, v = .ref p ∧ H p = some (.lst xs)) ∨ (∃ p kvs, v = .ref p ∧ H p = some (.dK kvs))
theorem stab_bad : Stab BadP := fun _ _ _ s h => by
  rcases h with h | h | h | h | ⟨p, xs, e, h⟩ | ⟨p, xs, e, h⟩
  · exact .inl h
  · exact .inr (.inl h)
  · exact .inr (.inr (.inl h))
  · exact .inr (.inr (.inr (.inl h)))
  · exact .inr (.inr (.inr (.inr (.inl ⟨p, xs, e, s _ _ h⟩))))
  · exact .inr (.inr (.inr (.inr (.inr ⟨p, xs, e, s _ _ h⟩))))
theorem bad_t {H0 : Hp} {σ : L2.St} {a : TE} {t : List Nat} (h : Al H0 σ a (IsT t)) (g : t.length ≤ 100000 ∧ worthL t = 0) : Al H0 σ a BadP := al_weak h fun H v ⟨z, e, et⟩ => .inl ⟨z, e, by rw [lenT, et]; exact Nat.le_trans g.1 (by decide), by rw [et]; exact g.2⟩
theorem BadP.no {K : PySem.W.Frag} {H : Hp} {v : V} {G : Str → Prop} {B : Prop} (h : BadP H v) (b : B) : AskT K v H G B := by
  rcases h with ⟨z, e, hz, h0⟩ | rfl | ⟨i, rfl⟩ | ⟨i, rfl⟩ | ⟨p, xs, rfl, h⟩ | ⟨p, xs, rfl, h⟩
  · exact .inl ⟨z, e, hz, fun _ => b, fun n => absurd h0 n⟩
  · exact .inr ⟨⟨_, .base .non, kit_ty (by decide +kernel)⟩, b⟩
  · exact .inr ⟨⟨_, .base (.int i), kit_ty (by decide +kernel)⟩, b⟩
  · exact .inr ⟨⟨_, .base (.bl i), kit_ty (by decide +kernel)⟩, b⟩
  · exact .inr ⟨⟨_, .base (.lst h), kit_ty (by decide +kernel)⟩, b⟩
  · exact .inr ⟨⟨_, .base (.dK h), kit_ty (by decide +kernel)⟩, b⟩
end Fo
namespace Fo
open PySem L2 FO
/-! ### more readings by what they give -/
mutual
theorem dp_same {K : PySem.W.Frag} {H H' : Hp} (s : Same H H') : ∀ (d : PyData) (v : V), Dp K H v d → Dp K H' v d
  | .none, _, h => by cases h; exact .non
  | .bool b, _, h => by cases h; exact .bl b
  | .int i, _, h => by cases h; exact .int i
  | .str x, _, h => by cases h; exact .str x
  | .list ds, _, h => by
    cases h with
    | lst hs ha => exact .lst (s.seq hs) (dp_sameA s ds _ ha)
  | .tuple ds, _, h => by
    cases h with
    | tup hs ha => exact .tup (sm_tup s hs) (dp_sameA s ds _ ha)
  | .dict _, _, h => by cases h
theorem dp_sameA {K : PySem.W.Frag} {H H' : Hp} (s : Same H H') : ∀ (ds : List PyData) (vs : List V), DpAll K H vs ds → DpAll K H' vs ds
  | [], _, h => by cases h; exact .nil
  | d :: ds, _, h => by
    cases h with
    | cons h1 h2 => exact .cons (dp_same s d _ h1) (dp_sameA s ds _ h2)
end
def IsD (K : PySem.W.Frag) (d : PyData) : Hp → V → Prop := fun H v => Dp K H v d
theorem stab_d (K : PySem.W.Frag) (d : PyData) : Stab (IsD K d) := fun _ _ _ s h => dp_same s _ _ h
def DsV (K : PySem.W.Frag) (ds : List PyData) : Hp → List V → Prop := fun H vs => DpAll K H vs ds
/-- a list of just these values -/
def IsL (xs : List V) : Hp → V → Prop := fun H v => ∃ p, v = .ref p ∧ H p = some (.lst xs)
theorem stab_l (xs : List V) : Stab (IsL xs) := fun _ _ _ s ⟨p, e, h⟩ => ⟨p, e, s _ _ h⟩
/-- a list, a tuple of n values, the i-th with Φ i -/
def LsI (n : Nat) (Φ : Nat → Hp → V → Prop) : Hp → V → Prop := fun H v => ∃ p xs, v = .ref p ∧ H p = some (.lst xs) ∧ xs.length = n ∧ ∀ i x, xs[i]? = some x → Φ i H x
def TpI (n : Nat) (Φ : Nat → Hp → V → Prop) : Hp → V → Prop := fun H v => ∃ p xs, v = .ref p ∧ H p = some (.tup xs) ∧ xs.length = n ∧ ∀ i x, xs[i]? = some x → Φ i H x
def AlT (H0 : Hp) (σ : L2.St) (tt : TT) (b : Bool) : Prop := ∀ (H : Hp) (Q : Bool → Hp → Prop), Same H0 H → (∀ G, Same H G → Q b G) → tt σ H Q
/-- a walk of n turns, the i-th gives what has Φ i -/
def AlI (H0 : Hp) (σ : L2.St) (wi : TI) (n : Nat) (Φ : Nat → Hp → V → Prop) : Prop := ∀ (H : Hp) (R : It → Hp → Prop), Same H0 H → (∀ J G, Same H G → Walk J n (Same G) (fun i H1 x H2 => H2 = H1 ∧ Φ i H1 x) → R J G) → wi σ H R
section
variable {K : PySem.W.Frag} {H0 : Hp} {σ : L2.St} {a b c d : TE} {ta : TA} {Φ Ψ : Hp → V → Prop}
theorem ls_i {n : Nat} (h : Al H0 σ a (LsA n Φ)) : Al H0 σ a (LsI n fun _ => Φ) := al_weak h fun H v ⟨p, xs, e, hp, hn, hx⟩ => ⟨p, xs, e, hp, hn, fun i x hi => hx x (List.mem_of_getElem? hi)⟩
theorem ls_is {n : Nat} {f : Nat → V} (h : Al H0 σ a (LsI n fun i => Is (f i))) : Al H0 σ a (IsL ((List.range n).map f)) := al_weak h fun H v ⟨p, xs, e, hp, hn, hx⟩ => ⟨p, e, by
  have : xs = (List.range n).map f := List.ext_getElem? fun i => by
    by_cases hi : i < n
    · have e1 : xs[i]? = some xs[i] := List.getElem?_eq_getElem (by omega)
      rw [e1, hx i _ e1]
      simp [hi]
    · rw [List.getElem?_eq_none (by omega), List.getElem?_eq_none (by simp; omega)]
  rw [← this]
  exact hp⟩
theorem ls_rep {n : Nat} {x : V} (h : Al H0 σ a (LsI n fun _ => Is x)) : Al H0 σ a (IsL (List.replicate n x)) := al_weak (ls_is h) fun H v ⟨p, e, hp⟩ => ⟨p, e, by
  have : (List.range n).map (fun _ => x) = List.replicate n x := List.ext_getElem? fun i => by
    by_cases hi : i < n
    · simp [hi]
    · simp [hi]
  rw [← this]
  exact hp⟩
/-! data -/
def scD : V → PyData
  | .int i => .int i
  | .bl b => .bool b
  | .str z => .str z
  | _ => .none
def scB : V → Bool
  | .int _ => true
  | .bl _ => true
  | .str _ => true
  | .non => true
  | _ => false
theorem dp_sc {H : Hp} {v : V} (h : scB v = true) : Dp K H v (scD v) := by
  cases v <;> first | exact .int _ | exact .bl _ | exact .str _ | exact .non | exact Bool.noConfusion h
theorem dp_scs {H : Hp} : ∀ {vs : List V}, vs.all scB = true → DpAll K H vs (vs.map scD)
  | [], _ => .nil
  | v :: vs, h => by
    rw [List.all_cons, Bool.and_eq_true] at h
    exact .cons (dp_sc h.1) (dp_scs h.2)
theorem al_dl {xs : List V} (h : Al H0 σ a (IsL xs)) (hs : xs.all scB = true) : Al H0 σ a (IsD K (.list (xs.map scD))) := al_weak h fun H v ⟨p, e, hp⟩ => by
  subst e
  exact .lst (SqL.of hp) (dp_scs hs)
theorem al_dd {v : V} (h : Al H0 σ a (Is v)) (hs : scB v = true) : Al H0 σ a (IsD K (scD v)) := al_weak h fun H u e => by
  rw [show u = v from e]
  exact dp_sc hs
theorem al_dnil : AlL H0 σ tNil (DsV K []) := fun H Q s k => k H [] (Same.refl H) .nil
theorem al_dcons {d : PyData} {ds : List PyData} (h : Al H0 σ a (IsD K d)) (g : AlL H0 σ ta (DsV K ds)) : AlL H0 σ (tCons a ta) (DsV K (d :: ds)) := fun H Q s k => h H _ s fun G v sG hv => g G _ (s.trans sG) fun G2 us sG2 hu =>
  k G2 (v :: us) (sG.trans sG2) (.cons (dp_same sG2 _ _ hv) hu)
theorem dp_len {H : Hp} : ∀ {vs : List V} {ds : List PyData}, DpAll K H vs ds → vs.length = ds.length
  | [], _, h => by cases h; rfl
  | v :: vs, _, h => by
    cases h with
    | cons h1 h2 => rw [List.length_cons, List.length_cons, dp_len h2]
theorem al_dlst {ds : List PyData} (h : AlL H0 σ ta (DsV K ds)) (hn : ds.length ≤ sizeLine) : Al H0 σ (tLst ta) (IsD K (.list ds)) := fun H Q s k => h H _ s fun G vs sG hv => ⟨by rw [dp_len hv]; exact hn, fun p np => k _ _ (sm_new sG np) (.lst (SqL.of upd_same) (dp_sameA (sm_upd np) _ _ hv))⟩
theorem al_dtup {ds : List PyData} (h : AlL H0 σ ta (DsV K ds)) (hn : ds.length ≤ sizeLine) : Al H0 σ (tTup ta) (IsD K (.tuple ds)) := fun H Q s k => h H _ s fun G vs sG hv => ⟨by rw [dp_len hv]; exact hn, fun p np => k _ _ (sm_new sG np) (.tup (SqT.of upd_same) (dp_sameA (sm_upd np) _ _ hv))⟩
theorem al_eqD {d e : PyData} (h : Al H0 σ a (IsD K d)) (g : Al H0 σ b (IsD K e)) (h1 : SeqAt.shaped d = true) (h2 : SeqAt.shaped e = true) {r : Bool} (hr : PyData.eqv d e = r) : Al H0 σ (tOp (rEqD K) a b) (Is (.bl r)) := fun H Q s k => h H _ s fun G v sG hv => g G _ (s.trans sG) fun G2 u sG2 hu =>
  ⟨d, e, dp_same sG2 _ _ hv, hu, h1, h2, by rw [hr]; exact k G2 _ (sG.trans sG2) rfl⟩
theorem al_neD {d e : PyData} (h : Al H0 σ a (IsD K d)) (g : Al H0 σ b (IsD K e)) (h1 : SeqAt.shaped d = true) (h2 : SeqAt.shaped e = true) {r : Bool} (hr : PyData.eqv d e = !r) : Al H0 σ (tOp (rNeD K) a b) (Is (.bl r)) := fun H Q s k => h H _ s fun G v sG hv => g G _ (s.trans sG) fun G2 u sG2 hu =>
  ⟨d, e, dp_same sG2 _ _ hv, hu, h1, h2, by rw [hr, Bool.not_not]; exact k G2 _ (sG.trans sG2) rfl⟩
/-! exact lists -/
def VsV (xs : List V) : Hp → List V → Prop := fun _ vs => vs = xs
theorem al_xnil : AlL H0 σ tNil (VsV []) := fun H Q s k => k H [] (Same.refl H) rfl
theorem al_xcons {v : V} {xs : List V} (h : Al H0 σ a (Is v)) (g : AlL H0 σ ta (VsV xs)) : AlL H0 σ (tCons a ta) (VsV (v :: xs)) := fun H Q s k => h H _ s fun G u sG hv => g G _ (s.trans sG) fun G2 us sG2 hu =>
  k G2 (u :: us) (sG.trans sG2) (by rw [show u = v from hv, show us = xs from hu]; rfl)
theorem al_xlst {xs : List V} (h : AlL H0 σ ta (VsV xs)) (hn : xs.length ≤ sizeLine) : Al H0 σ (tLst ta) (IsL xs) := fun H Q s k => h H _ s fun G vs sG hv => by
  rw [show vs = xs from hv]
  exact ⟨hn, fun p np => k _ _ (sm_new sG np) ⟨p, rfl, upd_same⟩⟩
theorem al_xtup {xs : List V} {n : Nat} (h : AlL H0 σ ta (VsV xs)) (hn : xs.length ≤ sizeLine) {Φ : Nat → Hp → V → Prop} (hl : xs.length = n) (hx : ∀ i x H, xs[i]? = some x → Φ i H x) : Al H0 σ (tTup ta) (TpI n Φ) := fun H Q s k => h H _ s fun G vs sG hv => by
  rw [show vs = xs from hv]
  exact ⟨hn, fun p np => k _ _ (sm_new sG np) ⟨p, xs, rfl, upd_same, hl, fun i x hi => hx i x _ hi⟩⟩
theorem al_repL {x : V} {n : Nat} (h : Al H0 σ a (IsL [x])) (g : Al H0 σ b (Is (.int (n : Nat)))) (hn : n ≤ 10000) : Al H0 σ (tOp rRep a b) (IsL (List.replicate n x)) := fun H Q s k => h H _ s fun G v sG hv => g G _ (s.trans sG) fun G2 u sG2 hu => by
  obtain ⟨p, rfl, hp⟩ := hv
  subst hu
  have big : (16777216 : Nat) = sizeLine := PySem.sizeLine_eq.symm
  refine ⟨p, _, _, rfl, rfl, sG2 _ _ hp, by omega, by omega, by rw [Int.toNat_natCast, List.length_singleton, ← big]; omega, fun q nq => ?_⟩
  refine k _ _ (sm_new (sG.trans sG2) nq) ⟨q, rfl, ?_⟩
  rw [upd_same, Int.toNat_natCast]
  simp
theorem al_ixL {xs : List V} {i : Int} {v : V} (h : Al H0 σ a (IsL xs)) (g : Al H0 σ b (Is (.int i))) (hi : atI xs i = some v) : Al H0 σ (tOp (rIxL K) a b) (Is v) := fun H Q s k => h H _ s fun G u sG hv => g G _ (s.trans sG) fun G2 w sG2 hu => by
  obtain ⟨p, rfl, hp⟩ := hv
  subst hu
  exact ⟨p, xs, i, v, rfl, rfl, SqL.of (sG2 _ _ hp), hi, k G2 v (sG.trans sG2) rfl⟩
/-! numbers and tests -/
theorem al_i0 {g : Int → Int → V} {i j : Int} (h : Al H0 σ a (Is (.int i))) (k : Al H0 σ b (Is (.int j))) : Al H0 σ (tOp (rI0 g) a b) (Is (g i j)) := fun H Q s q => h H _ s fun G v sG hv => k G _ (s.trans sG) fun G2 u sG2 hu => by
  subst hv hu
  exact ⟨i, j, rfl, rfl, q G2 _ (sG.trans sG2) rfl⟩
theorem al_iC {C : Int → Int → Prop} {g : Int → Int → V} {i j : Int} (h : Al H0 σ a (Is (.int i))) (k : Al H0 σ b (Is (.int j))) (hc : C i j) : Al H0 σ (tOp (rI C g) a b) (Is (g i j)) := fun H Q s q => h H _ s fun G v sG hv => k G _ (s.trans sG) fun G2 u sG2 hu => by
  subst hv hu
  exact ⟨i, j, rfl, rfl, hc, q G2 _ (sG.trans sG2) rfl⟩
theorem al_is {x y : V} (h : Al H0 σ a (Is x)) (e : x = y) : Al H0 σ a (Is y) := e ▸ h
theorem al_eq {x y : V} (h : Al H0 σ a (Is x)) (k : Al H0 σ b (Is y)) (hs : scal x y = true) {r : Bool} (hr : decide (x = y) = r) : Al H0 σ (tOp rEq a b) (Is (.bl r)) := fun H Q s q => h H _ s fun G v sG hv => k G _ (s.trans sG) fun G2 u sG2 hu => by
  subst hv hu
  exact ⟨hs, by rw [hr]; exact q G2 _ (sG.trans sG2) rfl⟩
theorem al_ne {x y : V} (h : Al H0 σ a (Is x)) (k : Al H0 σ b (Is y)) (hs : scal x y = true) {r : Bool} (hr : decide (x = y) = !r) : Al H0 σ (tOp rNe a b) (Is (.bl r)) := fun H Q s q => h H _ s fun G v sG hv => k G _ (s.trans sG) fun G2 u sG2 hu => by
  subst hv hu
  exact ⟨hs, by rw [hr, Bool.not_not]; exact q G2 _ (sG.trans sG2) rfl⟩
/-- two numbers, two texts that are the same -/
theorem al_eqI {i j : Int} (h : Al H0 σ a (Is (.int i))) (k : Al H0 σ b (Is (.int j))) (e : i = j) : Al H0 σ (tOp rEq a b) (Is (.bl true)) := al_eq h k rfl (decide_eq_true (by rw [e]))
theorem al_neI {i j : Int} (h : Al H0 σ a (Is (.int i))) (k : Al H0 σ b (Is (.int j))) (e : i = j) : Al H0 σ (tOp rNe a b) (Is (.bl false)) := al_ne h k rfl (decide_eq_true (by rw [e]))
theorem al_neB {i j : Bool} (h : Al H0 σ a (Is (.bl i))) (k : Al H0 σ b (Is (.bl j))) (e : i = j) : Al H0 σ (tOp rNe a b) (Is (.bl false)) := al_ne h k rfl (decide_eq_true (by rw [e]))
theorem al_orF {r : Bool} (h : Al H0 σ a (Is (.bl false))) (k : Al H0 σ b (Is (.bl r))) : Al H0 σ (tOrV a b) (Is (.bl r)) := fun H Q s q => h H _ s fun G v sG hv => ⟨false, hv, iteF (k G _ (s.trans sG) fun G2 u sG2 hu => q G2 u (sG.trans sG2) hu)⟩
theorem al_andT {r : Bool} (h : Al H0 σ a (Is (.bl true))) (k : Al H0 σ b (Is (.bl r))) : Al H0 σ (tAndV a b) (Is (.bl r)) := fun H Q s q => h H _ s fun G v sG hv => ⟨true, hv, iteT (k G _ (s.trans sG) fun G2 u sG2 hu => q G2 u (sG.trans sG2) hu)⟩
theorem al_not {r : Bool} (h : Al H0 σ a (Is (.bl r))) : Al H0 σ (tNotV a) (Is (.bl (!r))) := fun H Q s q => h H _ s fun G v sG hv => ⟨r, hv, q G _ sG rfl⟩
theorem alt_t {r : Bool} (h : Al H0 σ a (Is (.bl r))) : AlT H0 σ (tTest a) r := fun H Q s q => h H _ s fun G v sG hv => ⟨r, hv, q G sG⟩
theorem alt_b {r : Bool} (h : Al H0 σ a (Is (.bl r))) : AlT H0 σ (tB a) r := fun H Q s q => h H _ s fun G v sG hv => ⟨r, hv, q G sG⟩
theorem alt_not {t : TT} {r : Bool} (h : AlT H0 σ t r) : AlT H0 σ (tNot t) (!r) := fun H Q s q => h H _ s fun G sG => q G sG
theorem alt_orF {t u : TT} {r : Bool} (h : AlT H0 σ t false) (k : AlT H0 σ u r) : AlT H0 σ (tOr t u) r := fun H Q s q => h H _ s fun G sG => iteF (k G _ (s.trans sG) fun G2 sG2 => q G2 (sG.trans sG2))
theorem alt_orT {t u : TT} (h : AlT H0 σ t true) : AlT H0 σ (tOr t u) true := fun H Q s q => h H _ s fun G sG => iteT (q G sG)
theorem alt_andT {t u : TT} {r : Bool} (h : AlT H0 σ t true) (k : AlT H0 σ u r) : AlT H0 σ (tAnd t u) r := fun H Q s q => h H _ s fun G sG => iteT (k G _ (s.trans sG) fun G2 sG2 => q G2 (sG.trans sG2))
theorem alt_andF {t u : TT} (h : AlT H0 σ t false) : AlT H0 σ (tAnd t u) false := fun H Q s q => h H _ s fun G sG => iteF (q G sG)
theorem al_if {t : TT} {r : Bool} (h : AlT H0 σ t r) (k : r = true → Al H0 σ a Φ) (k' : r = false → Al H0 σ b Φ) : Al H0 σ (tIf t a b) Φ := fun H Q s q => h H _ s fun G sG => by
  cases r with
  | true => exact iteT (k rfl G _ (s.trans sG) fun G2 u sG2 hu => q G2 u (sG.trans sG2) hu)
  | false => exact iteF (k' rfl G _ (s.trans sG) fun G2 u sG2 hu => q G2 u (sG.trans sG2) hu)
theorem al_pow {i j : Int} (h : Al H0 σ a (Is (.int i))) (k : Al H0 σ b (Is (.int j))) (hc : CPow i j) : Al H0 σ (tOp (rI CPow fun i j => .int (i ^ j.toNat)) a b) (Is (.int (i ^ j.toNat))) := al_iC h k hc
/-! calls -/
/-- the promise sp: of what has Φ it tells what has Ψ -/
def Gives (sp : Sp) (Φ Ψ : Hp → V → Prop) : Prop := ∀ (G : Hp) (v : V) (Q : VK) (E : XK), Φ G v → (∀ G' u, Same G G' → Ψ G' u → Q u G') → sp [v] G Q E
theorem al_call {sp : Sp} (g : Gives sp Φ Ψ) (h : Al H0 σ a Φ) : Al H0 σ (tCall sp [] E0 (tCons a tNil)) Ψ := fun H Q s q => h H _ s fun G v sG hv => g G v _ _ hv fun G' u s' hu => q G' u (sG.trans s') hu
def Gives2 (sp : Sp) (Φ Φ' Ψ : Hp → V → Prop) : Prop := ∀ (G : Hp) (v w : V) (Q : VK) (E : XK), Φ G v → Φ' G w → (∀ G' u, Same G G' → Ψ G' u → Q u G') → sp [v, w] G Q E
theorem al_call2 {sp : Sp} {Φ' : Hp → V → Prop} (g : Gives2 sp Φ Φ' Ψ) (st : Stab Φ) (h : Al H0 σ a Φ) (h' : Al H0 σ b Φ') : Al H0 σ (tCall sp [] E0 (tCons a (tCons b tNil))) Ψ := fun H Q s q => h H _ s fun G v sG hv => h' G _ (s.trans sG) fun G2 w sG2 hw => g G2 v w _ _ (st _ _ _ sG2 hv) hw fun G' u s' hu => q G' u ((sG.trans sG2).trans s') hu
theorem al_any {bs : List Bool} (h : Al H0 σ a (IsL (bs.map V.bl))) {r : Bool} (hr : bs.any id = r) : Al H0 σ (tCB (rAny K) (tCons a tNil)) (Is (.bl r)) := fun H Q s q => h H _ s fun G v sG ⟨p, e, hp⟩ => ⟨p, bs, by rw [e], SqL.of hp, by rw [hr]; exact q G _ sG rfl⟩
theorem al_all {bs : List Bool} (h : Al H0 σ a (IsL (bs.map V.bl))) {r : Bool} (hr : bs.all id = r) : Al H0 σ (tCB (rAll K) (tCons a tNil)) (Is (.bl r)) := fun H Q s q => h H _ s fun G v sG ⟨p, e, hp⟩ => ⟨p, bs, by rw [e], SqL.of hp, by rw [hr]; exact q G _ sG rfl⟩
theorem al_anyF {n : Nat} (h : Al H0 σ a (LsI n fun _ => Is (.bl false))) : Al H0 σ (tCB (rAny K) (tCons a tNil)) (Is (.bl false)) := al_any (bs := List.replicate n false) (by rw [List.map_replicate]; exact ls_rep h) (by simp)
theorem al_allT {n : Nat} (h : Al H0 σ a (LsI n fun _ => Is (.bl true))) : Al H0 σ (tCB (rAll K) (tCons a tNil)) (Is (.bl true)) := al_all (bs := List.replicate n true) (by rw [List.map_replicate]; exact ls_rep h) (by simp)
/-! comprehensions -/
theorem al_iL {n : Nat} {Φ : Nat → Hp → V → Prop} (st : ∀ i, Stab (Φ i)) (h : Al H0 σ a (LsI n Φ)) : AlI H0 σ (iList K a) n Φ := fun H R s k => h H _ s fun G v sG ⟨p, xs, e, hp, hn, hx⟩ => ⟨p, e, ⟨xs, SqL.of hp⟩, k _ G sG (by
  subst hn
  exact walk_list.mono (fun H' s' => SqL.of (s' _ _ hp)) fun i H1 x H2 _ s' y => ⟨y.1, st i _ _ _ s' (hx i x y.2)⟩)⟩
theorem al_iT {n : Nat} {Φ : Nat → Hp → V → Prop} (st : ∀ i, Stab (Φ i)) (h : Al H0 σ a (TpI n Φ)) : AlI H0 σ (iTup K a) n Φ := fun H R s k => h H _ s fun G v sG ⟨p, xs, e, hp, hn, hx⟩ => ⟨p, e, ⟨xs, SqT.of hp⟩, k _ G sG (by
  subst hn
  exact walk_tup.mono (fun H' s' => SqT.of (s' _ _ hp)) fun i H1 x H2 _ s' y => ⟨y.1, st i _ _ _ s' (hx i x y.2)⟩)⟩
theorem al_iR1 {j : Int} (h : Al H0 σ a (Is (.int j))) (h1 : -(2 ^ 62) ≤ j) (h2 : j < 2 ^ 62) : AlI H0 σ (iRng1 (tCons a tNil)) j.toNat (fun i => Is (.int (0 + (i : Nat)))) := fun H R s k => h H _ s fun G v sG e => ⟨j, by rw [show v = _ from e], h1, h2, k _ G sG (walk_range.mono (fun _ _ => trivial) fun i H1 x H2 _ _ y => ⟨y.1, y.2⟩)⟩
theorem al_iR2 {i j : Int} (h : Al H0 σ a (Is (.int i))) (g : Al H0 σ b (Is (.int j))) (h1 : -(2 ^ 62) ≤ i ∧ i < 2 ^ 62 ∧ -(2 ^ 62) ≤ j ∧ j < 2 ^ 62) : AlI H0 σ (iRng2 (tCons a (tCons b tNil))) (j - i).toNat (fun k => Is (.int (i + (k : Nat)))) := fun H R s k => h H _ s fun G v sG e => g G _ (s.trans sG) fun G2 u sG2 e2 => ⟨i, j, by rw [show v = _ from e, show u = _ from e2], h1, k _ G2 (sG.trans sG2) (walk_range.mono (fun _ _ => trivial) fun i H1 x H2 _ _ y => ⟨y.1, y.2⟩)⟩
theorem al_lc {wi : TI} {g : TG} {te : TE} {vs : List Nat} {n : Nat} {Φ Ψ : Nat → Hp → V → Prop} (hi : AlI H0 σ wi n Φ) (fl : ∀ i H G v, Ψ i H v → Ψ i G v)
    (ht : ∀ i G x, i < n → Same H0 G → Φ i G x → ∃ σ2, wipe σ2 vs = wipe σ vs ∧ (∀ k : L2.St → Hp → Prop, k σ2 G → g x (wipe σ vs) G k) ∧ Al G σ2 te (Ψ i)) (hn : n ≤ 100000) : Al H0 σ (tLc wi g tYes te vs) (LsI n Ψ) := fun H Q s k => hi H _ s fun J G sG w D hD => by
  have big : (16777216 : Nat) = sizeLine := PySem.sizeLine_eq.symm
  refine lc_it w (fun j H' => Same G H' ∧ ∃ ys, H' D = some (.lst ys) ∧ ys.length = j ∧ ∀ i x, ys[i]? = some x → Ψ i H' x) ⟨sm_upd hD, [], upd_same, rfl, fun i x h => by simp at h⟩ (fun _ _ _ h => h.1) ?_ ?_
  · rintro i x H1 H2 hin ⟨s1, ys, hy, hl, hx⟩ ⟨rfl, hp⟩
    obtain ⟨σ2, e1, e2, al⟩ := ht i H2 x hin ((s.trans sG).trans s1) hp
    refine e2 _ ⟨e1, ?_⟩
    unfold tYes
    refine iteT ?_
    refine al H2 _ (Same.refl _) fun H3 v s3 hv => ⟨ys, s3 _ _ hy, by omega, ?_, ys ++ [v], upd_same, by rw [List.length_append, hl]; rfl, fun m z hm => ?_⟩
    · exact fun b o e => by
        rw [upd_ne (ne_of_none e hD)]
        exact s3 _ _ (s1 b o e)
    · by_cases hml : m < ys.length
      · rw [List.getElem?_append_left hml] at hm
        exact fl m _ _ _ (hx m z hm)
      · rw [List.getElem?_append_right (by omega)] at hm
        have h0 : m - ys.length = 0 := by
          have := (List.getElem?_eq_some_iff.mp hm).1
          rw [List.length_singleton] at this
          omega
        rw [h0] at hm
        have em : m = i := by omega
        subst em
        cases hm
        exact fl m _ _ _ hv
  · rintro H1 ⟨s1, ys, hy, hl, hx⟩
    exact k H1 _ (sG.trans s1) ⟨D, ys, rfl, hy, hl, hx⟩
theorem range_filter_succ (n : Nat) (f : Nat → Bool) (g : Nat → V) : ((List.range (n + 1)).filter f).map g = ((List.range n).filter f).map g ++ (if f n then [g n] else []) := by
  rw [List.range_succ, List.filter_append, List.map_append]
  congr 1
  by_cases h : f n <;> simp [h]
/-- .. with a test -/
theorem al_lcF {wi : TI} {g : TG} {tt : TT} {te : TE} {vs : List Nat} {n : Nat} {Φ : Nat → Hp → V → Prop} {bf : Nat → Bool} {f : Nat → V} (hi : AlI H0 σ wi n Φ)
    (ht : ∀ i G x, i < n → Same H0 G → Φ i G x → ∃ σ2, wipe σ2 vs = wipe σ vs ∧ (∀ k : L2.St → Hp → Prop, k σ2 G → g x (wipe σ vs) G k) ∧ AlT G σ2 tt (bf i) ∧ (bf i = true → Al G σ2 te (Is (f i)))) (hn : n ≤ 100000) : Al H0 σ (tLc wi g tt te vs) (IsL (((List.range n).filter bf).map f)) := fun H Q s k => hi H _ s fun J G sG w D hD => by
  have big : (16777216 : Nat) = sizeLine := PySem.sizeLine_eq.symm
  refine lc_it w (fun j H' => Same G H' ∧ H' D = some (.lst (((List.range j).filter bf).map f))) ⟨sm_upd hD, upd_same⟩ (fun _ _ _ h => h.1) ?_ ?_
  · rintro i x H1 H2 hin ⟨s1, hy⟩ ⟨rfl, hp⟩
    obtain ⟨σ2, e1, e2, at_, al⟩ := ht i H2 x hin ((s.trans sG).trans s1) hp
    refine e2 _ ⟨e1, at_ H2 _ (Same.refl _) fun H3 s3 => ?_⟩
    have hy3 := s3 _ _ hy
    have s13 := s1.trans s3
    have hlen : (((List.range i).filter bf).map f).length ≤ i := by
      rw [List.length_map]
      exact Nat.le_trans (List.length_filter_le _ _) (by simp)
    cases hb : bf i with
    | true =>
      refine iteT (al hb H3 _ s3 fun H4 v s4 hv => ⟨_, s4 _ _ hy3, by omega, fun b o e => ?_, ?_⟩)
      · rw [upd_ne (ne_of_none e hD)]
        exact s4 _ _ (s13 b o e)
      · rw [upd_same, range_filter_succ, hb, show v = f i from hv]
        rfl
    | false =>
      refine iteF ⟨s13, ?_⟩
      rw [range_filter_succ, hb, hy3]
      simp
  · rintro H1 ⟨s1, hy⟩
    exact k H1 _ (sG.trans s1) ⟨D, rfl, hy⟩
end
end Fo
namespace Fo
open PySem L2 FO
/-! ### what the program's defs tell -/
/-- an answer with the text z and the list ns -/
def Lst (C : Addr) (z : Str) (ns : List Int) : Hp → V → Prop := fun H v => ∃ p q, v = .ref p ∧ LeastAt C H p (.str z) q ∧ H q = some (.lst (ns.map V.int))
theorem stab_lst (C : Addr) (z : Str) (ns : List Int) : Stab (Lst C z ns) := fun _ _ _ s ⟨p, q, e, ⟨dx, h1⟩, h2⟩ => ⟨p, q, e, ⟨dx, s _ _ h1⟩, s _ _ h2⟩
/-- a told answer -/
def Told (C : Addr) (n : Nat) : Hp → V → Prop := fun H v => ∃ z, Wr (tl z) (n : Nat) (F n) ∧ Lst C z (fl1 n) H v
theorem stab_told (C : Addr) (n : Nat) : Stab (Told C n) := fun _ _ _ s ⟨z, w, h⟩ => ⟨z, w, stab_lst C z _ _ _ _ s h⟩
section
variable {K : PySem.W.Frag} {H0 : Hp} {σ : L2.St} {a b c d : TE} {ta : TA} {Φ Ψ : Hp → V → Prop} {C CT CN CM : Addr}
theorem gv_worth {t : List Nat} (h : worthL t ≠ 0) : Gives (spWorth K CT) (IsT t) (Is (.int (worthL t))) := fun G v Q E ⟨z, e, et⟩ k => by
  subst et
  refine ⟨v, rfl, .inl ⟨z, e, ?_, fun h0 => absurd h0 h, fun _ G' s => k G' _ s rfl⟩⟩
  rw [lenT]
  by_cases hl : (tl z).length ≤ 2000
  · exact Nat.le_trans hl (by decide)
  · exact absurd (by unfold worthL; rw [if_neg hl]) h
theorem gv_ones {t : List Nat} (h : worthL t ≠ 0) : Gives (spOnes K CT) (IsT t) (Is (.int (t.count 49 : Nat))) := fun G v Q E ⟨z, e, et⟩ k => by
  subst et
  refine ⟨v, rfl, .inl ⟨z, e, ?_, fun h0 => absurd h0 h, fun _ G' s => k G' _ s rfl⟩⟩
  rw [lenT]
  by_cases hl : (tl z).length ≤ 2000
  · exact Nat.le_trans hl (by decide)
  · exact absurd (by unfold worthL; rw [if_neg hl]) h
theorem gv_wr {t : List Nat} {n : Int} {k : Nat} (h : Wr t n k) (hk : k ≤ 500) : Gives (spWorth K CT) (IsT t) (Is (.int n)) := by
  have g := gv_worth (K := K) (CT := CT) (t := t) (by rw [h.worth hk]; have := h.pos; omega)
  rw [h.worth hk] at g
  exact g
theorem gv_wr1 {t : List Nat} {n : Int} {k : Nat} (h : Wr t n k) (hk : k ≤ 500) : Gives (spOnes K CT) (IsT t) (Is (.int (k : Nat))) := by
  have g := gv_ones (K := K) (CT := CT) (t := t) (by rw [h.worth hk]; have := h.pos; omega)
  rw [h.count] at g
  exact g
theorem gv_fewest {n : Int} {m : Nat} (h : n = (m : Int)) (h1 : 1 ≤ m) (h2 : m ≤ 200) : Gives (spFewest K CN) (Is (.int n)) (Is (.int (F m : Nat))) := fun G v Q E e k => by
  subst h
  refine ⟨v, rfl, .inl ⟨_, e, fun hb => absurd ⟨by omega, by omega⟩ hb, fun _ _ G' s => k G' _ s ?_⟩⟩
  rw [Int.toNat_natCast]
  rfl
theorem gv_greatest {n : Int} {m : Nat} (h : n = (m : Int)) (h1 : 1 ≤ m) (h2 : m ≤ 3000) : Gives (spGreatest K CM) (Is (.int n)) (Is (.int (gr m : Nat))) := fun G v Q E e k => by
  subst h
  refine ⟨v, rfl, .inl ⟨_, e, fun hb => absurd ⟨by omega, by omega⟩ hb, fun _ _ G' s => k G' _ s ?_⟩⟩
  rw [Int.toNat_natCast]
  rfl
theorem gv_all {n : Int} {m : Nat} (h : n = (m : Int)) (h1 : 1 ≤ m) (h2 : m ≤ 14) : Gives (spAllWith K CM) (Is (.int n)) (IsL ((awl m).map V.int)) := fun G v Q E e k => by
  subst h
  refine ⟨v, rfl, .inl ⟨_, e, fun hb => absurd ⟨by omega, by omega⟩ hb, fun _ _ G' q s nq hq => k G' _ s ⟨q, rfl, ?_⟩⟩⟩
  rw [Int.toNat_natCast] at hq
  exact hq
theorem gv_least {n : Int} {m : Nat} (h : n = (m : Int)) (h1 : 1 ≤ m) (h2 : m ≤ 200) : Gives (spLeast K CN C) (Is (.int n)) (Told C m) := fun G v Q E e k => by
  subst h
  refine ⟨v, rfl, .inl ⟨_, e, fun hb => absurd ⟨by omega, by omega⟩ hb, fun _ _ G' p q t s np nq hp hq wr => k G' _ s ?_⟩⟩
  rw [Int.toNat_natCast] at hq wr
  exact ⟨t, wr, p, q, rfl, hp, hq⟩
theorem al_make {z : Str} {ns : List Int} (h : Al H0 σ a (Is (.str z))) (g : Al H0 σ b (IsL (ns.map V.int))) : Al H0 σ (tMake C (spInit K C) [] E0 (tCons a (tCons b tNil))) (Lst C z ns) := fun H Q s q => h H _ s fun G v sG hv => g G _ (s.trans sG) fun G2 u sG2 ⟨l, e, hl⟩ => by
  rw [show v = _ from hv, e]
  intro x dx nx ndx ne
  refine ⟨G2, x, dx, _, l, _, rfl, sm_made nx ndx, nx, upd_same, SqL.of hl, fun H3 w s3 nw hx hw => ⟨rfl, ?_⟩⟩
  exact q H3 _ ((sG.trans sG2).trans s3) ⟨x, w, rfl, hx, hw⟩
theorem al_text {z : Str} {ns : List Int} (L : LeC K C) (h : Al H0 σ a (Lst C z ns)) : Al H0 σ (tFld K a "text") (Is (.str z)) := fun H Q s k => h H _ s fun G v sG ⟨p, q, e, ⟨dx, hp⟩, hq⟩ => ⟨p, C, dx, _, _, e, hp, L.cl, L.nT, lf_text _ _, k G _ sG rfl⟩
theorem al_floor {z : Str} {ns : List Int} (L : LeC K C) (h : Al H0 σ a (Lst C z ns)) : Al H0 σ (tFld K a "floor") (IsL (ns.map V.int)) := fun H Q s k => h H _ s fun G v sG ⟨p, q, e, ⟨dx, hp⟩, hq⟩ => ⟨p, C, dx, _, _, e, hp, L.cl, L.nF, lf_floor _ _, k G _ sG ⟨q, rfl, hq⟩⟩
theorem al_shows {z : Str} {ns : List Int} {n : Int} (h : Al H0 σ a (Lst C z ns)) (g : Al H0 σ b (Is (.int n))) (hz : z.length ≤ sizeLine) (h1 : 1 ≤ n) (h2 : n ≤ 1000) {r : Bool} (hr : decide (Shows (tl z) ns n) = r) : Al H0 σ (tMeth C "shows" (spShows K C) [] E0 a (tCons b tNil)) (Is (.bl r)) := fun H Q s k => h H _ s fun G v sG ⟨p, q, e, ⟨dx, hp⟩, hq⟩ => ⟨p, dx, _, e, hp, lf_shows _ _, g G _ (s.trans sG) fun G2 u sG2 hu => by
  rw [e, show u = _ from hu]
  refine ⟨p, z, q, ns, n, rfl, ⟨dx, sG2 _ _ hp⟩, SqL.of (sG2 _ _ hq), hz, h1, h2, fun sh H' s' => ?_, fun sh H' s' => ?_⟩
  · exact k H' _ ((sG.trans sG2).trans s') (by rw [← hr, decide_eq_true sh]; rfl)
  · exact k H' _ ((sG.trans sG2).trans s') (by rw [← hr, decide_eq_false sh]; rfl)⟩
theorem wr_small {z : Str} {n : Int} {k : Nat} (h : Wr (tl z) n k) (hk : k ≤ 500) : z.length ≤ sizeLine := by
  rw [lenT]
  have := h.len
  exact Nat.le_trans (show (tl z).length ≤ 2000 by omega) (by decide)
/-! what is refused -/
theorem rf_int {sp : Sp} {K' : PySem.W.Frag} {m : Int} {n : Int} {H : Hp} {C : Addr} {gd : VK → Int → Prop} (h : ¬ (1 ≤ n ∧ n ≤ m)) (hs : ∀ Q E, AskN K' (.int n) H m (gd Q) (E (.ref C) none H) → sp [.int n] H Q E) : Refuses sp (.int n) H C := fun Q E k => hs Q E (.inl ⟨n, rfl, fun _ => k H (Same.refl H), fun h1 h2 => absurd ⟨h1, h2⟩ h⟩)
/-- no whole number from 1 to m -/
def BadN (m : Int) : Hp → V → Prop := fun H v => (∃ i, v = .int i ∧ ¬ (1 ≤ i ∧ i ≤ m)) ∨ v = .non ∨ (∃ z, v = .str z) ∨ (∃ b, v = .bl b) ∨ (∃ p xs, v = .ref p ∧ H p = some (.lst xs)) ∨ (∃ p xs, v = .ref p ∧ H p = some (.tup xs)) ∨ (∃ p kvs, v = .ref p ∧ H p = some (.dK kvs))
theorem BadN.ask {m : Int} {H : Hp} {v : V} {G : Int → Prop} {B : Prop} (h : BadN m H v) (b : B) : AskN K v H m G B := by
  rcases h with ⟨i, rfl, h⟩ | rfl | ⟨i, rfl⟩ | ⟨i, rfl⟩ | ⟨p, xs, rfl, h⟩ | ⟨p, xs, rfl, h⟩ | ⟨p, xs, rfl, h⟩
  · exact .inl ⟨i, rfl, fun _ => b, fun h1 h2 => absurd ⟨h1, h2⟩ h⟩
  · exact .inr ⟨.non, b⟩
  · exact .inr ⟨.str i, b⟩
  · exact .inr ⟨.bl i, b⟩
  · exact .inr ⟨.lst h, b⟩
  · exact .inr ⟨.tup h, b⟩
  · exact .inr ⟨.dK h, b⟩
theorem stab_badN (m : Int) : Stab (BadN m) := fun _ _ _ s h => by
  rcases h with h | h | h | h | ⟨p, xs, e, h⟩ | ⟨p, xs, e, h⟩ | ⟨p, xs, e, h⟩
  · exact .inl h
  · exact .inr (.inl h)
  · exact .inr (.inr (.inl h))
  · exact .inr (.inr (.inr (.inl h)))
  · exact .inr (.inr (.inr (.inr (.inl ⟨p, xs, e, s _ _ h⟩))))
  · exact .inr (.inr (.inr (.inr (.inr (.inl ⟨p, xs, e, s _ _ h⟩)))))
  · exact .inr (.inr (.inr (.inr (.inr (.inr ⟨p, xs, e, s _ _ h⟩)))))
theorem rf_fewest {H : Hp} {v : V} (h : BadN 200 H v) : Refuses (spFewest K CN) v H CN := fun Q E k => ⟨v, rfl, h.ask (k H (Same.refl H))⟩
theorem rf_least {H : Hp} {v : V} (h : BadN 200 H v) : Refuses (spLeast K CN C) v H CN := fun Q E k => ⟨v, rfl, h.ask (k H (Same.refl H))⟩
theorem rf_all {H : Hp} {v : V} (h : BadN 14 H v) : Refuses (spAllWith K CM) v H CM := fun Q E k => ⟨v, rfl, h.ask (k H (Same.refl H))⟩
theorem rf_greatest {H : Hp} {v : V} (h : BadN 3000 H v) : Refuses (spGreatest K CM) v H CM := fun Q E k => ⟨v, rfl, h.ask (k H (Same.refl H))⟩
theorem rf_worth {H : Hp} {v : V} (h : BadP H v) : Refuses (spWorth K CT) v H CT := fun Q E k => ⟨v, rfl, h.no k⟩
theorem rf_ones {H : Hp} {v : V} (h : BadP H v) : Refuses (spOnes K CT) v H CT := fun Q E k => ⟨v, rfl, h.no k⟩
theorem gv_word {S : Addr → Sp → Prop} {g C' : Addr} {sp : Sp} {x : Str} {Φ : Hp → V → Prop} (hS : S g sp) (hw : WordOf CN CM CT C' x) (hr : ∀ H v, Φ H v → Refuses sp v H C') : Gives2 (spWord S CN CM CT) (Is (.ref g)) Φ (Is (.str x)) := fun G v w Q E e1 e2 k => ⟨g, sp, w, C', x, by rw [show v = _ from e1], hS, hw, hr G w e2, fun H' s => k H' _ s rfl⟩
theorem al_glob {v : V} : Al H0 σ (tC v) (Is v) := al_ci v
end
end Fo
namespace Fo
open PySem L2 FO
/-! ### statements, by what their terms give -/
section
variable {H : Hp} {σ : L2.St} {te ta tb : TE} {Φ Ψ : Hp → V → Prop} {D : Ends} {u u' t : TS} {i j : Nat}
theorem al_go {Q : VK} (h : Al H σ te Φ) (k : ∀ G v, Same H G → Φ G v → Q v G) : te σ H Q := h H Q (Same.refl H) k
theorem st_set (h : Al H σ te Φ) (k : ∀ G v, Same H G → Φ G v → u D (σ.set i (some v)) G) : tSeq (tAsg te (gName i)) u D σ H := h H _ (Same.refl H) k
theorem st_setN (σ' : V → L2.St) (hσ : ∀ v, σ.set i (some v) = σ' v) (h : Al H σ te Φ) (k : ∀ G v, Same H G → Φ G v → u D (σ' v) G) : tSeq (tAsg te (gName i)) u D σ H := h H _ (Same.refl H) fun G v s hv => by
  have z := k G v s hv
  rw [← hσ v] at z
  exact z
theorem st_parN (σ' : V → V → L2.St) (hσ : ∀ v w, (σ.set i (some v)).set j (some w) = σ' v w) (stab : Stab Φ) (h : Al H σ ta Φ) (h' : Al H σ tb Ψ) (k : ∀ G v w, Same H G → Φ G v → Ψ G w → u D (σ' v w) G) : tSeq (tPar i j (tCons ta (tCons tb tNil))) u D σ H := h H _ (Same.refl H) fun G v s hv => h' G _ s fun G2 w s2 hw => ⟨v, w, rfl, by
  have z := k G2 v w (s.trans s2) (stab _ _ _ s2 hv) hw
  rw [← hσ v w] at z
  exact z⟩
theorem st_set1 (h : Al H σ te Φ) (k : ∀ G v, Same H G → Φ G v → D.nx (σ.set i (some v)) G) : tAsg te (gName i) D σ H := h H _ (Same.refl H) k
theorem st_drop (h : Al H σ te Φ) (k : ∀ G v, Same H G → Φ G v → u D σ G) : tSeq (tDrop te) u D σ H := h H _ (Same.refl H) k
theorem st_ret (h : Al H σ te Φ) (k : ∀ G v, Same H G → Φ G v → D.rt v G) : tRet te D σ H := h H _ (Same.refl H) k
theorem st_if {c : TT} {b : Bool} (h : AlT H σ c b) (k : ∀ G, Same H G → if b = true then t { D with nx := u D } σ G else u' { D with nx := u D } σ G) : tSeq (tIfS c t u') u D σ H := h H _ (Same.refl H) k
theorem st_no {c : TT} (h : AlT H σ c false) (k : ∀ G, Same H G → u D σ G) : tSeq (tIfS c t tNext) u D σ H := h H _ (Same.refl H) fun G s => iteF (k G s)
theorem st_no1 {c : TT} (h : AlT H σ c false) (k : ∀ G, Same H G → D.nx σ G) : tIfS c t tNext D σ H := h H _ (Same.refl H) fun G s => iteF (k G s)
theorem st_par (stab : Stab Φ) (h : Al H σ ta Φ) (h' : Al H σ tb Ψ) (k : ∀ G v w, Same H G → Φ G v → Ψ G w → u D ((σ.set i (some v)).set j (some w)) G) : tSeq (tPar i j (tCons ta (tCons tb tNil))) u D σ H := h H _ (Same.refl H) fun G v s hv => h' G _ s fun G2 w s2 hw => ⟨v, w, rfl, k G2 v w (s.trans s2) (stab _ _ _ s2 hv) hw⟩
/-- a name's list is appended to -/
theorem st_app {K : PySem.W.Frag} {m : Nat} {r : Addr} {xs : List V} (hv : σ[m]? = some (some (.ref r))) (hr : H r = some (.lst xs)) (hl : xs.length < sizeLine) (h : Al H σ te Φ) (k : ∀ G v, Same H G → Φ G v → G r = some (.lst xs) → u D σ (upd G r (.lst (xs ++ [v])))) : tSeq (tDrop (tBM K "list" rAppend (tVar m) (tCons te tNil))) u D σ H :=
  ⟨_, hv, .inl ⟨rfl, _, SqL.of hr⟩, h H _ (Same.refl H) fun G v s hv => ⟨r, _, _, rfl, rfl, s _ _ hr, hl, k G v s hv (s _ _ hr)⟩⟩
theorem st_app1 {K : PySem.W.Frag} {m : Nat} {r : Addr} {xs : List V} (hv : σ[m]? = some (some (.ref r))) (hr : H r = some (.lst xs)) (hl : xs.length < sizeLine) (h : Al H σ te Φ) (k : ∀ G v, Same H G → Φ G v → G r = some (.lst xs) → D.nx σ (upd G r (.lst (xs ++ [v])))) : tDrop (tBM K "list" rAppend (tVar m) (tCons te tNil)) D σ H :=
  ⟨_, hv, .inl ⟨rfl, _, SqL.of hr⟩, h H _ (Same.refl H) fun G v s hv => ⟨r, _, _, rfl, rfl, s _ _ hr, hl, k G v s hv (s _ _ hr)⟩⟩
/-- two names set by a tuple of two -/
theorem st_two {K : PySem.W.Frag} (h : Al H σ ta Φ) (h' : Al H σ tb Ψ) (st : Stab Φ) (st' : Stab Ψ) (k : ∀ G v w, Same H G → Φ G v → Ψ G w → u D ((σ.set i (some v)).set j (some w)) G) : tSeq (tAsg (tTup (tCons ta (tCons tb tNil))) (gTup K 2 (gCons (gName i) (gCons (gName j) gNil)))) u D σ H := h H _ (Same.refl H) fun G v s hv => h' G _ s fun G2 w s2 hw => ⟨(show 2 ≤ sizeLine by decide), fun T nT => ⟨T, _, rfl, SqT.of upd_same, rfl, _, _, rfl, _, _, rfl, rfl, k _ v w (sm_new (s.trans s2) nT) (st _ _ _ (s2.trans (sm_upd nT)) hv) (st' _ _ _ (sm_upd nT) hw)⟩⟩
end
end Fo
namespace Fo
open PySem L2 FO
section
variable {H : Hp} {σ : L2.St} {te : TE} {ta : TA} {Φ Ψ : Hp → V → Prop} {D : Ends} {u : TS}
theorem al_tupA {H0 : Hp} {n : Nat} (st : Stab Φ) (h : AlL H0 σ ta (AllV n Φ)) (hn : n ≤ sizeLine) : Al H0 σ (tTup ta) (TpI n fun _ => Φ) := fun H Q s k => h H _ s fun G vs sG hv => ⟨by rw [hv.1]; exact hn, fun p np => k _ _ (sm_new sG np) ⟨p, vs, rfl, upd_same, hv.1, fun i x hx => st _ _ _ (sm_upd np) (hv.2 x (List.mem_of_getElem? hx))⟩⟩
/-- a loop that changes nothing that stood -/
theorem st_for {wi : TI} {g : TG} {tb : TS} {n : Nat} {Φ : Nat → Hp → V → Prop} (hi : AlI H σ wi n Φ) (Pv : Nat → L2.St → Prop) (h0 : Pv 0 σ)
    (hs : ∀ G0, Same H G0 → ∀ i x σ' G, i < n → Same G0 G → Pv i σ' → Φ i G x → g x σ' G fun σ2 H2 => tb { nx := fun σ3 G3 => Same G0 G3 ∧ Pv (i + 1) σ3, ct := fun σ3 G3 => Same G0 G3 ∧ Pv (i + 1) σ3, bk := u D, rt := D.rt } σ2 H2)
    (hd : ∀ σ' G, Same H G → Pv n σ' → u D σ' G) : tSeq (tFor wi g tb) u D σ H := hi H _ (Same.refl H) fun J G sG w =>
  for_it w (fun i σ' H' => Same G H' ∧ Pv i σ') ⟨Same.refl G, h0⟩ (fun _ _ _ _ h => h.1) (fun i x σ' H1 H2 hi' hp hy => by
    obtain ⟨rfl, hy⟩ := hy
    exact hs G sG i x σ' H2 hi' hp.1 hp.2 hy) fun σ' H' hp => hd σ' H' (sG.trans hp.1) hp.2
end
end Fo
namespace Fo
open PySem L2 FO
/-! ### comprehensions whose items are new lists; slices and sums -/
section
variable {K : PySem.W.Frag} {H0 : Hp} {σ : L2.St} {a b te : TE}
/-- a list, new since H0, of just these values -/
def LsN (H0 : Hp) (xs : List V) : Hp → V → Prop := fun H v => ∃ q, v = .ref q ∧ H0 q = none ∧ H q = some (.lst xs)
theorem al_lcN {wi : TI} {g : TG} {vs : List Nat} {n : Nat} {Φ : Nat → Hp → V → Prop} {f : Nat → List V} (hi : AlI H0 σ wi n Φ)
    (ht : ∀ i G x, i < n → Same H0 G → Φ i G x → ∃ σ2, wipe σ2 vs = wipe σ vs ∧ (∀ k : L2.St → Hp → Prop, k σ2 G → g x (wipe σ vs) G k) ∧ Al G σ2 te (LsN G (f i))) (hn : n ≤ 100000) : Al H0 σ (tLc wi g tYes te vs) (LsI n fun i => IsL (f i)) := fun H Q s k => hi H _ s fun J G sG w D hD => by
  have big : (16777216 : Nat) = sizeLine := PySem.sizeLine_eq.symm
  refine lc_it w (fun j H' => Same G H' ∧ ∃ ys, H' D = some (.lst ys) ∧ ys.length = j ∧ ∀ i x, ys[i]? = some x → ∃ q, x = .ref q ∧ q ≠ D ∧ H' q = some (.lst (f i))) ⟨sm_upd hD, [], upd_same, rfl, fun i x h => by simp at h⟩ (fun _ _ _ h => h.1) ?_ ?_
  · rintro i x H1 H2 hin ⟨s1, ys, hy, hl, hx⟩ ⟨rfl, hp⟩
    obtain ⟨σ2, e1, e2, al⟩ := ht i H2 x hin ((s.trans sG).trans s1) hp
    refine e2 _ ⟨e1, ?_⟩
    unfold tYes
    refine iteT ?_
    refine al H2 _ (Same.refl _) fun H3 v s3 ⟨q, ev, nq, hq⟩ => ⟨ys, s3 _ _ hy, by omega, ?_, ys ++ [v], upd_same, by rw [List.length_append, hl]; rfl, fun m z hm => ?_⟩
    · exact fun b o e => by
        rw [upd_ne (ne_of_none e hD)]
        exact s3 _ _ (s1 b o e)
    · by_cases hml : m < ys.length
      · rw [List.getElem?_append_left hml] at hm
        obtain ⟨q2, e3, ne, h3⟩ := hx m z hm
        exact ⟨q2, e3, ne, by rw [upd_ne ne]; exact s3 _ _ h3⟩
      · rw [List.getElem?_append_right (by omega)] at hm
        have h0 : m - ys.length = 0 := by
          have := (List.getElem?_eq_some_iff.mp hm).1
          rw [List.length_singleton] at this
          omega
        rw [h0] at hm
        have em : m = i := by omega
        subst em
        cases hm
        have ne : q ≠ D := fun z => by
          subst z
          rw [hy] at nq
          cases nq
        exact ⟨q, ev, ne, by rw [upd_ne ne]; exact hq⟩
  · rintro H1 ⟨s1, ys, hy, hl, hx⟩
    exact k H1 _ (sG.trans s1) ⟨D, ys, rfl, hy, hl, fun i x hi => by
      obtain ⟨q, e, _, h⟩ := hx i x hi
      exact ⟨q, e, h⟩⟩
theorem dp_lists {H : Hp} : ∀ (n : Nat) (xs : List V) (f : Nat → List V), xs.length = n → (∀ i, (f i).all scB = true) → (∀ i x, xs[i]? = some x → IsL (f i) H x) → DpAll K H xs ((List.range n).map fun i => .list ((f i).map scD))
  | 0, [], f, _, _, _ => .nil
  | n + 1, x :: xs, f, hn, hs, h => by
    obtain ⟨p, rfl, hp⟩ := h 0 x rfl
    have ih := dp_lists n xs (fun i => f (i + 1)) (by simpa using hn) (fun i => hs (i + 1)) (fun i y hy => h (i + 1) y (by simpa using hy))
    rw [List.range_succ_eq_map, List.map_cons, List.map_map]
    exact .cons (.lst (SqL.of hp) (dp_scs (hs 0))) ih
theorem al_dll {n : Nat} {f : Nat → List V} (h : Al H0 σ a (LsI n fun i => IsL (f i))) (hs : ∀ i, (f i).all scB = true) : Al H0 σ a (IsD K (.list ((List.range n).map fun i => .list ((f i).map scD)))) := al_weak h fun H v ⟨p, xs, e, hp, hn, hx⟩ => by
  subst e
  exact .lst (SqL.of hp) (dp_lists n xs f hn hs hx)
theorem ls_at {xs : List V} {n : Nat} (h : Al H0 σ a (IsL xs)) (hn : xs.length = n) : Al H0 σ a (LsI n fun i _ v => xs[i]? = some v) := al_weak h fun H v ⟨p, e, hp⟩ => ⟨p, xs, e, hp, hn, fun i x hi => hi⟩
theorem ints_sc (ns : List Int) : (ns.map V.int).all scB = true := by simp [scB]
/-- sum(xs[:k]) -/
theorem al_sum {ns : List Int} (h : Al H0 σ a (IsL (ns.map V.int))) : Al H0 σ (tCB (rSum K) (tCons a tNil)) (Is (.int ns.sum)) := fun H Q s k => h H _ s fun G v sG ⟨p, e, hp⟩ => ⟨p, ns, by rw [e], SqL.of hp, k G _ sG rfl⟩
theorem al_abs {i : Int} (h : Al H0 σ a (Is (.int i))) : Al H0 σ (tCB (fun xs H Q => ∃ i, xs = [V.int i] ∧ Q (.int (if i < 0 then -i else i)) H) (tCons a tNil)) (Is (.int (if i < 0 then -i else i))) := fun H Q s k => h H _ s fun G v sG e => ⟨i, by rw [show v = _ from e], k G _ sG rfl⟩
end
end Fo
namespace Fo
open PySem L2 FO
/-- a list to be read -/
def IsS (K : PySem.W.Frag) (xs : List V) : Hp → V → Prop := fun H v => ∃ p, v = .ref p ∧ SqL K H p xs
theorem stab_s (K : PySem.W.Frag) (xs : List V) : Stab (IsS K xs) := fun _ _ _ s ⟨p, e, h⟩ => ⟨p, e, s.seq h⟩
section
variable {K : PySem.W.Frag} {H0 : Hp} {σ : L2.St} {a b te : TE}
theorem l_s {xs : List V} (h : Al H0 σ a (IsL xs)) : Al H0 σ a (IsS K xs) := al_weak h fun H v ⟨p, e, hp⟩ => ⟨p, e, SqL.of hp⟩
theorem al_cut {ns : List Int} {k : Nat} (h : Al H0 σ a (IsS K (ns.map V.int))) (g : Al H0 σ b (Is (.int (k : Nat)))) : Al H0 σ (tSl (rSlL K) a tNoPart (tPart b)) (IsL ((ns.take k).map V.int)) := fun H Q s q => h H _ s fun G v sG ⟨p, e, hp⟩ => g G _ (s.trans sG) fun G2 w sG2 hw => ⟨_, hw, p, _, e, sG2.seq hp, fun c nc => by
  rw [cut_take]
  exact q _ _ (sm_new (sG.trans sG2) nc) ⟨c, rfl, upd_same⟩⟩
theorem abs_nat (i : Int) : (if i < 0 then -i else i) = ((i.natAbs : Nat) : Int) := by
  by_cases h : i < 0
  · rw [if_pos h]; omega
  · rw [if_neg h]; omega
theorem al_sumcut {ns : List Int} {k : Nat} (h : Al H0 σ a (IsS K (ns.map V.int))) (g : Al H0 σ b (Is (.int (k : Nat)))) : Al H0 σ (tCB (fun xs H Q => ∃ i, xs = [V.int i] ∧ Q (.int (if i < 0 then -i else i)) H) (tCons (tCB (rSum K) (tCons (tSl (rSlL K) a tNoPart (tPart b)) tNil)) tNil)) (Is (.int ((ns.take k).sum.natAbs : Nat))) :=
  al_is (al_abs (al_sum (al_cut h g))) (congrArg V.int (abs_nat _))
/-- n % k -/
theorem al_modN {n k : Nat} (h : Al H0 σ a (Is (.int (n : Nat)))) (g : Al H0 σ b (Is (.int (k : Nat)))) (hk : 0 < k) : Al H0 σ (tOp (rI (fun _ j => 0 < j) fun i j => .int (i % j)) a b) (Is (.int ((n % k : Nat) : Int))) := al_is (al_iC h g (by show (0 : Int) < (k : Int); omega)) (congrArg V.int (by omega))
theorem al_addN {n k : Nat} (h : Al H0 σ a (Is (.int (n : Nat)))) (g : Al H0 σ b (Is (.int (k : Nat)))) : Al H0 σ (tOp (rI0 fun i j => .int (i + j)) a b) (Is (.int ((n + k : Nat) : Int))) := al_is (al_i0 h g) (congrArg V.int (by omega))
end
end Fo
namespace Fo
open PySem L2 FO
theorem tl2 : tl ("(1+1)" : Str) = [40, 49, 43, 49, 41] ∧ tl ("((1+1)+1)" : Str) = [40, 40, 49, 43, 49, 41, 43, 49, 41] := by decide +kernel
theorem gv_power {b n : Nat} (hb : b ≤ 1000) (hn : n ≤ 10000) : Gives2 spPower (Is (.int (b : Nat))) (Is (.int (n : Nat))) (Is (.int ((b ^ n : Nat) : Int))) := fun G v w Q E e1 e2 k => ⟨b, n, by rw [show v = _ from e1, show w = _ from e2], hb, hn, k G _ (Same.refl G) rfl⟩
theorem al_dnew {H0 : Hp} {σ : L2.St} : Al H0 σ tDNewK BadP := fun H Q s k p np => k _ _ (sm_upd np) (.inr (.inr (.inr (.inr (.inr ⟨p, [], rfl, upd_same⟩)))))
theorem bad_long (t : List Nat) (h1 : 2000 < t.length) (h2 : t.length ≤ 100000) : t.length ≤ 100000 ∧ worthL t = 0 := ⟨h2, by unfold worthL; rw [if_neg (by omega)]⟩
theorem rep_filter (n : Nat) : ((List.range n).filter fun _ => true).map (fun _ => V.bl false) = (List.replicate n false).map V.bl := by
  rw [List.filter_eq_self.mpr (fun _ _ => rfl)]
  refine List.ext_getElem? fun i => ?_
  by_cases hi : i < n
  · simp [hi]
  · simp [hi]
theorem dec_nat (a b : Nat) : decide (V.int (a : Nat) = V.int (b : Nat)) = decide (a = b) := by
  by_cases h : a = b
  · rw [decide_eq_true (by rw [h]), decide_eq_true h]
  · rw [decide_eq_false (fun e => h (by have := V.int.inj e; omega)), decide_eq_false h]
end Fo
namespace Fo
open PySem L2 FO
/-! ### further readings by what they give -/
theorem sIx_some (n d k : Nat) : HT.sIx n d (some (k : Int)) = min k n := by
  show (if ((k : Nat) : Int) < 0 then (((k : Nat) : Int) + ((n : Nat) : Int)).toNat else min ((k : Nat) : Int).toNat n) = _
  rw [if_neg (by omega), Int.toNat_natCast]
theorem cutS_drop (z : Str) (k : Nat) : tl (cutS z (some (k : Int)) none) = (tl z).drop k := by
  unfold cutS
  show (((tl z).drop (HT.sIx z.length 0 (some (k : Int)))).take (HT.sIx z.length z.length none - HT.sIx z.length 0 (some (k : Int)))) = _
  rw [sIx_some, show HT.sIx z.length z.length none = z.length from rfl, lenT]
  by_cases h : k ≤ (tl z).length
  · rw [Nat.min_eq_left h, List.take_of_length_le (by rw [List.length_drop]; omega)]
  · rw [Nat.min_eq_right (by omega), List.drop_eq_nil_of_le (Nat.le_refl _), List.drop_eq_nil_of_le (by omega)]
    simp
theorem cutS_take (z : Str) (k : Nat) : tl (cutS z none (some (k : Int))) = (tl z).take k := by
  unfold cutS
  show (((tl z).drop (HT.sIx z.length 0 none)).take (HT.sIx z.length z.length (some (k : Int)) - HT.sIx z.length 0 none)) = _
  rw [sIx_some, show HT.sIx z.length 0 none = 0 from rfl, lenT, List.drop_zero, Nat.sub_zero]
  by_cases h : k ≤ (tl z).length
  · rw [Nat.min_eq_left h]
  · rw [Nat.min_eq_right (by omega), List.take_of_length_le (Nat.le_refl _), List.take_of_length_le (by omega)]
section
variable {K : PySem.W.Frag} {H0 : Hp} {σ : L2.St} {a b te : TE} {Φ : Hp → V → Prop}
theorem al_isB {x y : Bool} (h : Al H0 σ a (Is (.bl x))) (g : Al H0 σ b (Is (.bl y))) {r : Bool} (hr : decide (x = y) = r) : Al H0 σ (tOp rIsB a b) (Is (.bl r)) := fun H Q s k => h H _ s fun G v sG hv => g G _ (s.trans sG) fun G2 u sG2 hu => ⟨x, y, hv, hu, by rw [hr]; exact k G2 _ (sG.trans sG2) rfl⟩
theorem al_notB {x y : Bool} (h : Al H0 σ a (Is (.bl x))) (g : Al H0 σ b (Is (.bl y))) {r : Bool} (hr : decide (x = y) = !r) : Al H0 σ (tOp rNotB a b) (Is (.bl r)) := fun H Q s k => h H _ s fun G v sG hv => g G _ (s.trans sG) fun G2 u sG2 hu => ⟨x, y, hv, hu, by rw [hr, Bool.not_not]; exact k G2 _ (sG.trans sG2) rfl⟩
theorem al_lenT {t : List Nat} (h : Al H0 σ a (IsT t)) (hl : t.length ≤ sizeLine) : Al H0 σ (tCB (fun xs H Q => ∃ z : Str, xs = [V.str z] ∧ z.length ≤ sizeLine ∧ Q (.int z.length) H) (tCons a tNil)) (Is (.int (t.length : Nat))) := fun H Q s k => h H _ s fun G v sG ⟨z, e, et⟩ => ⟨z, by rw [e], by rw [lenT, et]; exact hl, k G _ sG (by rw [lenT, et]; rfl)⟩
theorem al_copy {xs : List V} (h : Al H0 σ a (IsS K xs)) : Al H0 σ (tCB (fun vs H Q => ∃ p ys, vs = [V.ref p] ∧ (SqL K H p ys ∨ SqT K H p ys) ∧ ∀ l, H l = none → Q (.ref l) (upd H l (.lst ys))) (tCons a tNil)) (IsL xs) := fun H Q s k => h H _ s fun G v sG ⟨p, e, hp⟩ => ⟨p, xs, by rw [e], .inl hp, fun l nl => k _ _ (sm_new sG nl) ⟨l, rfl, upd_same⟩⟩
theorem al_text' {z : Str} {t : List Nat} (h : Al H0 σ a (Is (.str z))) (e : tl z = t) : Al H0 σ a (IsT t) := al_weak h fun _ _ hv => ⟨z, hv, e⟩
theorem al_str {t : List Nat} (h : Al H0 σ a (IsT t)) : Al H0 σ a (Is (.str ⟨t.toArray⟩)) := al_weak h fun _ v ⟨z, e, et⟩ => by
  subst et
  show v = _
  rw [e]
theorem al_cutT {t : List Nat} {k : Nat} (h : Al H0 σ a (IsT t)) (g : Al H0 σ b (Is (.int (k : Nat)))) (hl : t.length ≤ sizeLine) : Al H0 σ (tSl rSlS a (tPart b) tNoPart) (IsT (t.drop k)) := fun H Q s q => h H _ s fun G v sG ⟨z, e, et⟩ => g G _ (s.trans sG) fun G2 w sG2 hw => ⟨_, hw, z, e, by rw [lenT, et]; exact hl, q G2 _ (sG.trans sG2) ⟨_, rfl, by
  rw [← et]
  exact cutS_drop z k⟩⟩
theorem al_chain {i j l : Int} (h1 : Al H0 σ a (Is (.int i))) (h2 : Al H0 σ b (Is (.int j))) (h3 : Al H0 σ te (Is (.int l))) (e1 : i = j) (e2 : j = l) : Al H0 σ (tChain rEq rEq a b te) (Is (.bl true)) := fun H Q s k => h1 H _ s fun G1 v1 s1 e => h2 G1 _ (s.trans s1) fun G2 v2 s2 e' => by
  subst e1 e2
  rw [show v1 = _ from e, show v2 = _ from e']
  refine ⟨rfl, true, by rw [decide_eq_true rfl], iteT (h3 G2 _ ((s.trans s1).trans s2) fun G3 v3 s3 e'' => ?_)⟩
  rw [show v3 = _ from e'']
  exact ⟨rfl, k G3 _ ((s1.trans s2).trans s3) (by rw [decide_eq_true rfl]; rfl)⟩
end
/-! ### texts that are no writings -/
theorem worth_none {t : List Nat} (h : runS [] t = none) : worthL t = 0 := by
  unfold worthL
  split
  · unfold readL; rw [h]; rfl
  · rfl
theorem wr_more {t : List Nat} {n : Int} {k : Nat} (h : Wr t n k) : worthL (t ++ [49]) = 0 := by
  have e : runS [] (t ++ [49]) = some [.inl 1, .inl n] := by rw [run_snoc h.reads]; rfl
  unfold worthL
  split
  · unfold readL; rw [e]; rfl
  · rfl
theorem wr_sign {t : List Nat} {n : Int} {k : Nat} (h : Wr t n k) (c : Nat) (hc : c ≠ 49 ∧ c ≠ 41 ∧ c ≠ 40 ∧ c ≠ 43 ∧ c ≠ 42) : worthL (t ++ [c]) = 0 := worth_none (by
  rw [run_snoc h.reads]
  unfold stepS
  rw [if_neg hc.1, if_neg hc.2.1, if_neg (by omega)])
theorem wr_tail {t : List Nat} {n : Int} {k : Nat} (h : Wr t n k) (hn : 2 ≤ n) : worthL (t.drop 1) = 0 := by
  cases h with
  | one => omega
  | @plus t u m n k l h1 h2 =>
    refine worth_none ?_
    show runS [] (t ++ 43 :: (u ++ [41])) = none
    have e1 := h1.reads.on []
    rw [runS_append, e1]
    show runS [.inl m] (43 :: (u ++ [41])) = none
    have e2 : runS [.inr 43, .inl m] (u ++ [41]) = none := by
      rw [runS_append, h2.reads.on [.inr 43, .inl m]]
      rfl
    exact e2
  | @times t u m n k l h1 h2 =>
    refine worth_none ?_
    show runS [] (t ++ 42 :: (u ++ [41])) = none
    have e1 := h1.reads.on []
    rw [runS_append, e1]
    show runS [.inl m] (42 :: (u ++ [41])) = none
    have e2 : runS [.inr 42, .inl m] (u ++ [41]) = none := by
      rw [runS_append, h2.reads.on [.inr 42, .inl m]]
      rfl
    exact e2
theorem F2_all : ((List.range 201).all fun n => decide (n < 2) || decide (2 ≤ F n)) = true := by decide +kernel
theorem F_ge2 {n : Nat} (h1 : 2 ≤ n) (h : n ≤ 200) : 2 ≤ F n := by
  have := List.all_eq_true.mp F2_all n (List.mem_range.mpr (by omega))
  simp only [Bool.or_eq_true, decide_eq_true_eq] at this
  omega
theorem gr3m {m : Nat} (h : 1 ≤ m) : gr (3 * m) = 3 ^ m := by
  obtain ⟨q, rfl⟩ : ∃ q, m = q + 1 := ⟨m - 1, by omega⟩
  rw [show 3 * (q + 1) = 3 * q + 3 by omega, gr_0, Nat.pow_succ, Nat.mul_comm]
theorem gr31m {m : Nat} (h : 1 ≤ m) : gr (3 * m + 1) = 4 * 3 ^ (m - 1) := by
  obtain ⟨q, rfl⟩ : ∃ q, m = q + 1 := ⟨m - 1, by omega⟩
  rw [show 3 * (q + 1) + 1 = 3 * q + 4 by omega, gr_1, Nat.add_sub_cancel]
theorem tp_nat {H0 : Hp} {σ : L2.St} {ta : TA} (ms : List Nat) (h : AlL H0 σ ta (VsV (ms.map fun m => V.int (m : Nat)))) (hn : ms.length ≤ sizeLine) : Al H0 σ (tTup ta) (TpI ms.length fun i => Is (.int ((ms.getD i 0 : Nat) : Int))) :=
  al_xtup h (by rw [List.length_map]; exact hn) (by rw [List.length_map]) fun i x H hx => by
    rw [List.getElem?_map] at hx
    cases q : ms[i]? with
    | none => rw [q] at hx; cases hx
    | some m =>
      rw [q] at hx
      cases hx
      show _ = _
      rw [List.getD_eq_getElem?_getD, q]
      rfl
theorem fg_rev {n : Nat} (h : 1 ≤ n) : fg (fl1 n).reverse 1 = ((F n : Nat) : Int) := by
  unfold fg
  rw [List.getD_eq_getElem?_getD, Nat.sub_self, List.getElem?_reverse (by rw [fl1_len]; omega), fl1_len]
  simp [fl1]
  rw [List.getElem?_range (by omega)]
  simp
  rw [show n - 1 + 1 = n by omega]
theorem tl4 : tl ("*1)" : Str) = [42, 49, 41] ∧ tl ("\n" : Str) = [10] := by decide +kernel
theorem map_scD (ns : List Int) : (ns.map V.int).map scD = ns.map PyData.int := by
  rw [List.map_map]
  rfl
theorem layI : ∀ ns : List Int, PyData.canLayAll0 (ns.map PyData.int) = true
  | [] => rfl
  | n :: ns => by
    show (PyData.canLay0 (.int n) && PyData.canLayAll0 (ns.map PyData.int)) = true
    rw [layI ns]
    rfl
theorem deepI : ∀ ns : List Int, PyData.depthAll (ns.map PyData.int) = 0
  | [] => rfl
  | n :: ns => by
    show max (PyData.depth (.int n)) (PyData.depthAll (ns.map PyData.int)) = 0
    rw [deepI ns]
    rfl
theorem shaped_sc (ns : List Int) : SeqAt.shaped (.list ((ns.map V.int).map scD)) = true := by
  rw [map_scD]
  simp [SeqAt.shaped, PyData.canLay0, PyData.depth, layI, deepI]
theorem eqv_sc (ns : List Int) : PyData.eqv (.list ((ns.map V.int).map scD)) (.list ((ns.map V.int).map scD)) = true := SeqAt.eqv_refl _ (SeqAt.canLay_of_shaped (shaped_sc ns))
section
variable {H : Hp} {σ : L2.St} {te : TE} {Φ : Hp → V → Prop} {D : Ends} {u t : TS} {K : PySem.W.Frag}
theorem st_or {c d : TT} {u' : TS} (h : AlT H σ c false) (k : ∀ G, Same H G → tIfS d t u' D σ G) : tIfS (tOr c d) t u' D σ H := h H _ (Same.refl H) fun G s => iteF (k G s)
theorem st_or' {c d : TT} {u' : TS} (h : AlT H σ c false) (k : ∀ G, Same H G → tSeq (tIfS d t u') u D σ G) : tSeq (tIfS (tOr c d) t u') u D σ H := h H _ (Same.refl H) fun G s => iteF (k G s)
/-- a loop over a tuple -/
theorem st_iT {g : TG} {tb : TS} (h : Al H σ te Φ) (k : ∀ G v, Same H G → Φ G v → ∃ a xs, v = .ref a ∧ SqT K G a xs ∧ ∃ Pv : Nat → L2.St → Hp → Prop, Pv 0 σ G ∧ (∀ i σ H, i ≤ xs.length → Pv i σ H → SqT K H a xs) ∧
    (∀ i x σ H, xs[i]? = some x → Pv i σ H → g x σ H fun σ2 H2 => tb { nx := Pv (i + 1), ct := Pv (i + 1), bk := u D, rt := D.rt } σ2 H2) ∧ ∀ σ H, Pv xs.length σ H → u D σ H) : tSeq (tFor (iTup K te) g tb) u D σ H := h H _ (Same.refl H) fun G v s hv => by
  obtain ⟨a, xs, e, hs, Pv, p0, p1, p2, p3⟩ := k G v s hv
  exact ⟨a, e, ⟨xs, hs⟩, for_tup Pv p0 p1 p2 p3⟩
end
theorem tl5 : tl ("+" : Str) = [43] := by decide +kernel
theorem tl6 : (tl ("(" : Str)).length = 1 ∧ (tl ("(1+" : Str)).length = 3 ∧ (tl ("1" : Str)).length = 1 ∧ (tl (")" : Str)).length = 1 := by decide +kernel
section
variable {H : Hp} {σ : L2.St} {te : TE} {Φ : Hp → V → Prop} {D : Ends} {u t : TS} {K : PySem.W.Frag}
/-- a loop that changes nothing that stood; what holds may speak of the heap -/
theorem st_forG {wi : TI} {g : TG} {tb : TS} {n : Nat} {Φ : Nat → Hp → V → Prop} (hi : AlI H σ wi n Φ) (Pv : Nat → L2.St → Hp → Prop) (h0 : ∀ G, Same H G → Pv 0 σ G)
    (hs : ∀ G0, Same H G0 → ∀ i x σ' G, i < n → Same G0 G → Pv i σ' G → Φ i G x → g x σ' G fun σ2 H2 => tb { nx := fun σ3 G3 => Same G0 G3 ∧ Pv (i + 1) σ3 G3, ct := fun σ3 G3 => Same G0 G3 ∧ Pv (i + 1) σ3 G3, bk := u D, rt := D.rt } σ2 H2)
    (hd : ∀ σ' G, Same H G → Pv n σ' G → u D σ' G) : tSeq (tFor wi g tb) u D σ H := hi H _ (Same.refl H) fun J G sG w =>
  for_it w (fun i σ' H' => Same G H' ∧ Pv i σ' H') ⟨Same.refl G, h0 G sG⟩ (fun _ _ _ _ h => h.1) (fun i x σ' H1 H2 hi' hp hy => by
    obtain ⟨rfl, hy⟩ := hy
    exact hs G sG i x σ' H2 hi' hp.1 hp.2 hy) fun σ' H' hp => hd σ' H' (sG.trans hp.1) hp.2
/-- a loop over a list -/
theorem st_iL {g : TG} {tb : TS} (h : Al H σ te Φ) (k : ∀ G v, Same H G → Φ G v → ∃ a xs, v = .ref a ∧ SqL K G a xs ∧ ∃ Pv : Nat → L2.St → Hp → Prop, Pv 0 σ G ∧ (∀ i σ H, i ≤ xs.length → Pv i σ H → SqL K H a xs) ∧
    (∀ i x σ H, xs[i]? = some x → Pv i σ H → g x σ H fun σ2 H2 => tb { nx := Pv (i + 1), ct := Pv (i + 1), bk := u D, rt := D.rt } σ2 H2) ∧ ∀ σ H, Pv xs.length σ H → u D σ H) : tSeq (tFor (iList K te) g tb) u D σ H := h H _ (Same.refl H) fun G v s hv => by
  obtain ⟨a, xs, e, hs, Pv, p0, p1, p2, p3⟩ := k G v s hv
  exact ⟨a, e, ⟨xs, hs⟩, for_list Pv p0 p1 p2 p3⟩
end
section
variable {K : PySem.W.Frag} {H0 : Hp} {σ : L2.St} {a b te : TE}
theorem al_cutH {t : List Nat} {k : Nat} (h : Al H0 σ a (IsT t)) (g : Al H0 σ b (Is (.int (k : Nat)))) (hl : t.length ≤ sizeLine) : Al H0 σ (tSl rSlS a tNoPart (tPart b)) (IsT (t.take k)) := fun H Q s q => h H _ s fun G v sG ⟨z, e, et⟩ => g G _ (s.trans sG) fun G2 w sG2 hw => ⟨_, hw, z, e, by rw [lenT, et]; exact hl, q G2 _ (sG.trans sG2) ⟨_, rfl, by
  rw [← et]
  exact cutS_take z k⟩⟩
/-- a text's cut by written places -/
theorem al_cutW {z : Str} {i : Int} {t : List Nat} (h : Al H0 σ a (Is (.str z))) (g : Al H0 σ b (Is (.int i))) (hl : z.length ≤ sizeLine) (e : tl (cutS z none (some i)) = t) : Al H0 σ (tSl rSlS a tNoPart (tPart b)) (IsT t) := fun H Q s q => h H _ s fun G v sG hv => g G _ (s.trans sG) fun G2 w sG2 hw => ⟨i, hw, z, hv, hl, q G2 _ (sG.trans sG2) ⟨_, rfl, e⟩⟩
end
/-- a text that is no writing (nothing of the heap) -/
def BadF : Hp → V → Prop := fun _ v => ∃ z : Str, v = .str z ∧ z.length ≤ sizeLine ∧ worthL (tl z) = 0
theorem badF_P {H : Hp} {v : V} (h : BadF H v) : BadP H v := .inl h
theorem ls_a {H0 : Hp} {σ : L2.St} {a : TE} {n : Nat} {Φ Ψ : Hp → V → Prop} (h : Al H0 σ a (LsI n fun _ => Φ)) (k : ∀ H v, Φ H v → Ψ H v) : Al H0 σ a (LsA n Ψ) := al_weak h fun H v ⟨p, xs, e, hp, hn, hx⟩ => ⟨p, xs, e, hp, hn, fun x hm => by
  obtain ⟨i, hi⟩ := List.mem_iff_getElem?.mp hm
  exact k _ _ (hx i x hi)⟩
theorem tl7 : tl ("0)" : Str) = [48, 41] := by decide +kernel
/-- .. as the last statement -/
theorem st_for1 {H : Hp} {σ : L2.St} {D : Ends} {wi : TI} {g : TG} {tb : TS} {n : Nat} {Φ : Nat → Hp → V → Prop} (hi : AlI H σ wi n Φ) (Pv : Nat → L2.St → Hp → Prop) (h0 : ∀ G, Same H G → Pv 0 σ G)
    (hs : ∀ G0, Same H G0 → ∀ i x σ' G, i < n → Same G0 G → Pv i σ' G → Φ i G x → g x σ' G fun σ2 H2 => tb { nx := fun σ3 G3 => Same G0 G3 ∧ Pv (i + 1) σ3 G3, ct := fun σ3 G3 => Same G0 G3 ∧ Pv (i + 1) σ3 G3, bk := D.nx, rt := D.rt } σ2 H2)
    (hd : ∀ σ' G, Same H G → Pv n σ' G → D.nx σ' G) : tFor wi g tb D σ H := hi H _ (Same.refl H) fun J G sG w =>
  for_it w (fun i σ' H' => Same G H' ∧ Pv i σ' H') ⟨Same.refl G, h0 G sG⟩ (fun _ _ _ _ h => h.1) (fun i x σ' H1 H2 hi' hp hy => by
    obtain ⟨rfl, hy⟩ := hy
    exact hs G sG i x σ' H2 hi' hp.1 hp.2 hy) fun σ' H' hp => hd σ' H' (sG.trans hp.1) hp.2
end Fo
namespace Fo
open PySem L2 FO
/-- a told answer; its list is new since H0 -/
def ToldN (H0 : Hp) (C : Addr) (n : Nat) : Hp → V → Prop := fun H v => ∃ (z : Str) (p q dx : Addr), v = .ref p ∧ H0 q = none ∧ H0 p = none ∧ H p = some (.ins C dx (lf (.str z) q)) ∧ H q = some (.lst ((fl1 n).map V.int)) ∧ Wr (tl z) (n : Nat) (F n)
section
variable {K : PySem.W.Frag} {H0 : Hp} {σ : L2.St} {a b te : TE} {C CN : Addr}
theorem al_leastN {n : Int} {m : Nat} (h : n = (m : Int)) (h1 : 1 ≤ m) (h2 : m ≤ 200) (g : Al H0 σ a (Is (.int n))) : Al H0 σ (tCall (spLeast K CN C) [] E0 (tCons a tNil)) (ToldN H0 C m) := fun H Q s k => g H _ s fun G v sG e => by
  subst h
  refine ⟨v, rfl, .inl ⟨_, e, fun hb => absurd ⟨by omega, by omega⟩ hb, fun _ _ G' p q t s' np nq ⟨dx, hp⟩ hq wr => k G' _ (sG.trans s') ?_⟩⟩
  rw [Int.toNat_natCast] at hq wr
  exact ⟨t, p, q, dx, rfl, (s.trans sG).free nq, (s.trans sG).free np, hp, hq, wr⟩
theorem al_showsT {n : Int} {m : Nat} (h : n = (m : Int)) (h1 : 1 ≤ m) (h2 : m ≤ 200) (g : Al H0 σ a (Told C m)) (g' : Al H0 σ b (Is (.int n))) : Al H0 σ (tMeth C "shows" (spShows K C) [] E0 a (tCons b tNil)) (Is (.bl true)) := fun H Q s k => g H _ s fun G v sG ⟨z, wr, p, q, e, ⟨dx, hp⟩, hq⟩ => ⟨p, dx, _, e, hp, lf_shows _ _, g' G _ (s.trans sG) fun G2 u sG2 hu => by
  have sh := told_shows h1 h2 wr
  have f18 := F_le h2
  subst h
  rw [e, show u = _ from hu]
  exact ⟨p, z, q, fl1 m, _, rfl, ⟨dx, sG2 _ _ hp⟩, SqL.of (sG2 _ _ hq), wr_small wr (by omega), by omega, by omega, fun _ H' s' => k H' _ ((sG.trans sG2).trans s') rfl, fun ns => absurd sh ns⟩⟩
theorem al_allN {CM : Addr} {n : Int} {m : Nat} (h : n = (m : Int)) (h1 : 1 ≤ m) (h2 : m ≤ 14) (g : Al H0 σ a (Is (.int n))) : Al H0 σ (tCall (spAllWith K CM) [] E0 (tCons a tNil)) (LsN H0 ((awl m).map V.int)) := fun H Q s k => g H _ s fun G v sG e => by
  subst h
  refine ⟨v, rfl, .inl ⟨_, e, fun hb => absurd ⟨by omega, by omega⟩ hb, fun _ _ G' q s' nq hq => k G' _ (sG.trans s') ⟨q, rfl, (s.trans sG).free nq, ?_⟩⟩⟩
  rw [Int.toNat_natCast] at hq
  exact hq
/-- a list, new since H0, of just these values -/
theorem al_copyN {xs : List V} (h : Al H0 σ a (IsS K xs)) : Al H0 σ (tCB (fun vs H Q => ∃ p ys, vs = [V.ref p] ∧ (SqL K H p ys ∨ SqT K H p ys) ∧ ∀ l, H l = none → Q (.ref l) (upd H l (.lst ys))) (tCons a tNil)) (LsN H0 xs) := fun H Q s k => h H _ s fun G v sG ⟨p, e, hp⟩ => ⟨p, xs, by rw [e], .inl hp, fun l nl => k _ _ (sm_new sG nl) ⟨l, rfl, (s.trans sG).free nl, upd_same⟩⟩
end
/-- an answer that was made, new since H0 -/
def LstN (H0 : Hp) (C : Addr) (z : Str) (ns : List Int) : Hp → V → Prop := fun H v => ∃ p q dx, v = .ref p ∧ H0 p = none ∧ H0 q = none ∧ H p = some (.ins C dx (lf (.str z) q)) ∧ H q = some (.lst (ns.map V.int))
/-- an answer at p with its list at q, all that stood in H kept -/
def Fx (H : Hp) (C p q dx : Addr) (z : Str) (G : Hp) (ns : List Int) : Prop := Same H G ∧ G p = some (.ins C dx (lf (.str z) q)) ∧ G q = some (.lst (ns.map V.int))
section
variable {K : PySem.W.Frag} {H H0 G G' : Hp} {σ : L2.St} {a b te : TE} {C p q dx : Addr} {z : Str} {ns : List Int} {u : TS} {D : Ends}
theorem al_makeN (h : Al H0 σ a (Is (.str z))) (g : Al H0 σ b (IsL (ns.map V.int))) : Al H0 σ (tMake C (spInit K C) [] E0 (tCons a (tCons b tNil))) (LstN H0 C z ns) := fun H Q s q => h H _ s fun G v sG hv => g G _ (s.trans sG) fun G2 u sG2 ⟨l, e, hl⟩ => by
  rw [show v = _ from hv, e]
  intro x dx nx ndx ne
  have s2 := (s.trans sG).trans sG2
  refine ⟨G2, x, dx, _, l, _, rfl, sm_made nx ndx, nx, upd_same, SqL.of hl, fun H3 w s3 nw ⟨dx', hx⟩ hw => ⟨rfl, ?_⟩⟩
  exact q H3 _ ((sG.trans sG2).trans s3) ⟨x, w, dx', rfl, s2.free nx, s2.free nw, hx, hw⟩
theorem Fx.same (f : Fx H C p q dx z G ns) (s : Same G G') : Fx H C p q dx z G' ns := ⟨f.1.trans s, s _ _ f.2.1, s _ _ f.2.2⟩
theorem Fx.put (f : Fx H C p q dx z G ns) (nq : H q = none) {xs : List V} {ms : List Int} (e : xs = ms.map V.int) : Fx H C p q dx z (upd G q (.lst xs)) ms := by
  subst e
  have pq : p ≠ q := ne_of f.2.1 f.2.2 (by intro z; cases z)
  exact ⟨sm_put f.1 nq, by rw [upd_ne pq]; exact f.2.1, upd_same⟩
theorem Fx.lst (f : Fx H C p q dx z G ns) : Lst C z ns G (.ref p) := ⟨p, q, rfl, ⟨dx, f.2.1⟩, f.2.2⟩
theorem al_fldI (L : LeC K C) (f : Fx H C p q dx z H0 ns) (h : Al H0 σ a (Is (.ref p))) : Al H0 σ (tFld K a "floor") (Is (.ref q)) := fun H Q s k => h H _ s fun G v sG e => ⟨p, C, dx, _, _, e, (s.trans sG) _ _ f.2.1, L.cl, L.nF, lf_floor _ _, k G _ sG rfl⟩
theorem al_lof {xs : List V} (h : Al H0 σ a (Is (.ref q))) (hq : H0 q = some (.lst xs)) : Al H0 σ a (IsL xs) := fun H Q s k => h H _ s fun G v sG e => k G v sG ⟨q, e, (s.trans sG) _ _ hq⟩
/-- xs.pop() of a name's list -/
theorem st_pop {m : Nat} {r : Addr} {xs : List V} {y : V} (hv : σ[m]? = some (some (.ref r))) (hr : H r = some (.lst xs)) (hy : xs[xs.length - 1]? = some y) (k : u D σ (upd H r (.lst xs.dropLast))) : tSeq (tDrop (tBM0 K "list" rPop (tVar m))) u D σ H := ⟨_, hv, .inl ⟨rfl, _, SqL.of hr⟩, r, xs, y, rfl, rfl, hr, hy, k⟩
theorem st_popS {m i : Nat} {r : Addr} {xs : List V} {y : V} (hv : σ[m]? = some (some (.ref r))) (hr : H r = some (.lst xs)) (hy : xs[xs.length - 1]? = some y) (k : u D (σ.set i (some y)) (upd H r (.lst xs.dropLast))) : tSeq (tAsg (tBM0 K "list" rPop (tVar m)) (gName i)) u D σ H := ⟨_, hv, .inl ⟨rfl, _, SqL.of hr⟩, r, xs, y, rfl, rfl, hr, hy, k⟩
theorem ixN_at {n a : Nat} (h : a < n) : ixN n (a : Int) = some a := by
  unfold ixN
  rw [if_pos (by omega), if_pos (by omega), Int.toNat_natCast]
theorem al_isiB {x : Bool} (h : Al H0 σ a (Is (.bl x))) : Al H0 σ (tCB (rIsi K) (tCons a (tCons (tC (.ty "bool")) tNil))) (Is (.bl true)) := fun H Q s k => h H _ s fun G v sG e => by
  rw [show v = _ from e]
  exact ⟨_, _, _, _, true, rfl, .ty "bool", .base (.bl x), kit_ty (by decide +kernel), k G _ sG rfl⟩
end
theorem set_fg {n a k : Nat} {b : Int} (h1 : 1 ≤ k) (hk : k ≤ n) : fg ((fl1 n).set a b) k = if k = a + 1 then b else ((F k : Nat) : Int) := by
  unfold fg
  rw [List.getD_eq_getElem?_getD, List.getElem?_set]
  by_cases h : a = k - 1
  · rw [if_pos h, if_pos (by rw [fl1_len]; omega), if_pos (by omega)]
    rfl
  · rw [if_neg h, if_neg (by omega)]
    have := fl1_fg (n := n) h1 hk
    unfold fg at this
    rw [List.getD_eq_getElem?_getD] at this
    exact this
theorem not_floor {n a : Nat} {b : Int} (ha : a < n) (hn : n ≤ 200) (hb : 100 < b) : ¬ IsFloor ((fl1 n).set a b) := fun f => by
  have l : ((fl1 n).set a b).length = n := by rw [List.length_set, fl1_len]
  by_cases h0 : a = 0
  · subst h0
    have := f.1
    rw [set_fg (Nat.le_refl 1) (by omega), if_pos rfl] at this
    omega
  · refine f.2 1 a (Nat.le_refl 1) (by omega) (by omega) (by omega) (.inl ⟨by omega, ?_⟩)
    rw [set_fg (by omega) (by omega), if_pos (by omega), set_fg (Nat.le_refl 1) (by omega), if_neg (by omega), set_fg (by omega) (by omega), if_neg (by omega)]
    have e1 := F_le (n := a) (by omega)
    have e2 := F_le (n := 1) (by omega)
    omega
end Fo
namespace Fo
open PySem L2 FO PySem.Spec PyProof.Rows
theorem kup {sp : Sp} {C : Addr} {H G : Hp} (hb : ∀ (G : Hp), Same H G → ∀ (Q' : VK) (E : XK), (∀ H', Same G H' → E (.ref C) none H') → sp [] G Q' E) (s : Same H G) : ∀ (Q' : VK) (E : XK), (∀ H', Same G H' → E (.ref C) none H') → sp [] G Q' E := hb G s
/-- the def x of the top stands, its code object at c -/
structure DnC (K : PySem.W.Frag) (mg : Str → Option Value) (x : Str) (st : Stmt) (c : Addr) : Prop where
  ex : ∃ (f : Addr) (oc : Value) (od : Option Addr) (kV doc pm : Value) (an : Option Addr) (ct : Value) (osl : Array (Option Value)), K.lookup f = some ⟨oc, od, .func (PySem.W.fnOf x x (defArgs st) (defBody st) (defScope st) .none kV doc pm an (.ref c) ct), osl⟩ ∧ PySem.W.codeIn K (.ref c) x = true ∧ PySem.W.keepIn K (.ref f) = true ∧ mg x = some (.ref f)
section
variable {P : Program} {w : World} {K : PySem.W.Frag} {mg : Str → Option Value} {base : Heap}
theorem kp_code {x : Str} {st : Stmt} {c : Addr} {N ps : List Str} {k : Nat} {sp : Sp} (D : DnC K mg x st c) (S : FnScope N ps (defScope st)) (len : ∀ vs H Q E, sp vs H Q E → vs.length = ps.length)
    (hb : ∀ (kV doc pm : Value) (an : Option Addr) (cdv ct : Value) (us : List Value), us.length = ps.length → bindArgs (PySem.W.fnOf x x (defArgs st) (defBody st) (defScope st) .none kV doc pm an cdv ct) ⟨us, []⟩ = pure (ps.zip us))
    (hbody : ∀ (f : Addr) (A : Around) (outer : List Env) (s : Shared) (H : Hp) (vs : List V) (Q : VK) (E : XK), Room k (A.deeper (envOfC x (defScope st) s.heap.objs.size f (.ref c))) → sp vs H Q E →
      ∃ t, PSs (cxOf CX0 P w K mg base N x (defScope st) f (.ref c) A outer s H E).nox (defBody st) t ∧ t { nx := fun _ H' => Q .non H', rt := Q } (start N vs) H) : Kp P w K mg base CX0 (k + 1) x sp := by
  obtain ⟨f, oc, od, kV, doc, pm, an, ct, osl, lk, hcd, kp, hm⟩ := D.ex
  refine ⟨f, _, ps, fn_of lk hcd S len fun A outer s H vs Q E hr hsp => ?_, hm, kp, .all (hb kV doc pm an (.ref c) ct)⟩
  obtain ⟨t, h, q⟩ := hbody f A outer s H vs Q E hr hsp
  exact ⟨t, h.nox, q⟩
theorem DnC.dn {x : Str} {st : Stmt} {c : Addr} (D : DnC K mg x st c) : Dn K mg x st := by
  obtain ⟨f, oc, od, kV, doc, pm, an, ct, osl, lk, hcd, kp, hm⟩ := D.ex
  exact ⟨f, _, ⟨⟨oc, od, kV, doc, pm, an, .ref c, ct, osl, rfl, lk, hcd⟩, kp⟩, hm⟩
theorem Dn.at {x : Str} {st : Stmt} (D : Dn K mg x st) : ∃ g, mg x = some (.ref g) ∧ PySem.W.keepIn K (.ref g) = true := by
  obtain ⟨f, fd, F, hm⟩ := D.ex
  exact ⟨f, hm, F.kp⟩
end
end Fo
namespace Fo
open PySem L2 FO PySem.Spec PyProof.Rows
/-! ### a list comprehension whose block bears the pins of the def, told where the block begins -/
/-- what stands of an iterator -/
structure TuO (fp : List Addr) (tn : Nat → Heap → Prop) : Prop where
  ob : ∀ i h, tn i h → ∀ b ∈ fp, ∃ o, h.get? b = some o ∧ ∀ v, o.data ≠ .cell v
  kp : ∀ i h h', tn i h → (∀ b ∈ fp, ∀ o, h.get? b = some o → h'.get? b = some o) → tn i h'
/-- the turns of the iterator at a, seen from the context Y -/
structure Tu (Y : Cx) (tg : Expr) (J : It) (fp : List Addr) (a : Addr) (tn : Nat → Heap → Prop) : Prop where
  nx : ∀ (i : Nat) (ps : List (Addr × Obj)) (s : Shared) (τ : L2.St) (H : Hp), Inv Y ps τ H s → (∀ b ∈ fp, FpOk Y ps H b) → tn i s.heap → J.go i H →
    wpAny (model Y.prog Y.w) Y.A (pyNext (.ref a)) (fun r z => ∃ u, r = some u ∧ wpAny (model Y.prog Y.w) Y.A (letOwnedTupleGo tg (.ref a) u) (fun _ z' => ∃ x G, Inv Y ps τ G z' ∧ RelV x u ∧ J.yld i H x G ∧ tn (i + 1) z'.heap ∧ ∀ b ∈ fp, G b = none) (fun _ _ => False) z) (fun _ _ => False) s
  dn : ∀ (i : Nat) (ps : List (Addr × Obj)) (s : Shared) (τ : L2.St) (H : Hp), Inv Y ps τ H s → (∀ b ∈ fp, FpOk Y ps H b) → tn i s.heap → J.stop i H → wpAny (model Y.prog Y.w) Y.A (pyNext (.ref a)) (fun r z => r = none ∧ Inv Y ps τ H z) (fun _ _ => False) s
  se : ∀ (i : Nat) (s : Shared) (Q : Value → Shared → Prop) (E : Value → Shared → Prop), tn i s.heap → Q (.ref a) s → wpAny (model Y.prog Y.w) Y.A (pyIter (.ref a)) Q E s
theorem tu_calm {Y : Cx} {tg : Expr} {J : It} {fp : List Addr} {a : Addr} {tn : Nat → Heap → Prop} (T : Turn Y.prog Y.w Y.K tg J fp a tn) (c : Y.calm = true) : Tu Y tg J fp a tn :=
  ⟨fun i ps s τ H I f t g => T.item Y rfl rfl rfl c i ps s τ H _ I f t g, fun i ps s τ H I f t g => T.done Y rfl rfl rfl c i ps s τ H _ I f t g, fun i s Q E t q => T.self Y.A i s Q E t q⟩
theorem tu_hot {Y : Cx} {tg : Expr} {J : It} {fp : List Addr} {a : Addr} {tn : Nat → Heap → Prop} (T : L2H.TurnH Y.prog Y.w Y.K tg J fp a tn) (c : L2H.HotC Y) : Tu Y tg J fp a tn :=
  ⟨fun i ps s τ H I f t g => T.item Y rfl rfl rfl c i ps s τ H _ I f t g, fun i ps s τ H I f t g => T.done Y rfl rfl rfl c i ps s τ H _ I f t g, fun i s Q E t q => T.self Y.A i s Q E t q⟩
/-- an iterator comes, whose turns go in each context with Gd -/
def IterOk (Gd : Cx → Prop) (X : Cx) (tg iter : Expr) (wi : TI) : Prop := ∀ (ps : List (Addr × Obj)) (s : Shared) (σ : L2.St) (H : Hp) (R : It → Hp → Prop), Inv X ps σ H s → wi σ H R →
  wpAny (model X.prog X.w) X.A (eval iter X.env) (fun v z => wpAny (model X.prog X.w) X.A (pyIter v) (fun itv z' => ∃ (a : Addr) (fp : List Addr) (tn : Nat → Heap → Prop) (J : It) (G : Hp), itv = .ref a ∧ Inv X ps σ G z' ∧ TuO fp tn ∧ (∀ Y : Cx, Y.prog = X.prog → Y.w = X.w → Y.K = X.K → Gd Y → Tu Y tg J fp a tn) ∧ tn 0 z'.heap ∧ (∀ b ∈ fp, FpOk X ps G b) ∧ R J G) X.xe z) X.xe s
theorem iter_calm {X : Cx} {tg iter : Expr} {wi : TI} (h : PI X tg iter wi) : IterOk (fun Y => Y.calm = true) X tg iter wi := fun ps s σ H R I hw =>
  thn (h.run ps s σ H R I hw) fun v z hz => thn hz fun itv z' q => by
    obtain ⟨a, fp, tn, J, G, e, I', T, t0, f, r⟩ := q
    exact ⟨a, fp, tn, J, G, e, I', ⟨T.obj, T.keep⟩, fun Y h1 h2 h3 c => tu_calm (by rw [h1, h2, h3]; exact T) c, t0, f, r⟩
theorem iter_hot {X : Cx} {tg iter : Expr} {wi : TI} (h : L2H.PIH X tg iter wi) : IterOk L2H.HotC X tg iter wi := fun ps s σ H R I hw =>
  thn (h.run ps s σ H R I hw) fun v z hz => thn hz fun itv z' q => by
    obtain ⟨a, fp, tn, J, G, e, I', T, t0, f, r⟩ := q
    exact ⟨a, fp, tn, J, G, e, I', ⟨T.obj, T.keep⟩, fun Y h1 h2 h3 c => tu_hot (by rw [h1, h2, h3]; exact T) c, t0, f, r⟩
/-- the block's context, with the def's pins -/
abbrev blkP (X : Cx) (s : Shared) (H : Hp) (scope : Scope) (ce : Env) (fp : List Addr) : Cx := { X.blk s H scope ce fp with pn := X.pn }
abbrev ceOf (X : Cx) (s : Shared) (scope : Scope) : Env := compEnvC scope (cellsFrom (s.heap.objs.size + 1) scope.names (cloFrom X.env.cells scope.names [])) s.heap.objs.size X.env
section
variable {X : Cx}
/-- the pins of the def go with the block -/
theorem blk_pins {ps : List (Addr × Obj)} {σ : L2.St} {H : Hp} {s : Shared} {scope : Scope} {ce : Env} {fp : List Addr} {τ : L2.St} {G : Hp} {z : Shared} (I : Inv X ps σ H s) (J : Inv (X.blk s H scope ce fp) [] τ G z) (hl : s.heap.objs.size ≤ ce.locals) (hf : ∀ b ∈ fp, FpOk X ps H b) : Inv (blkP X s H scope ce fp) [] τ G z := by
  have o := J.ok
  refine ⟨⟨o.mod, o.kind, o.glob, o.blt, o.above, o.inj, o.has, o.cab, o.hd, o.frames, o.stk, o.exf, o.bs, o.bsz, o.noex, o.exfs, o.funs, o.frf⟩, J.os, J.bare, J.base, J.loc, J.cell, J.free, J.freeC, fun p hp => ?_, J.hok, J.len⟩
  have hp' : p ∈ X.pn := by
    rcases List.mem_append.mp hp with h | h
    · exact h
    · exact absurd h (by simp)
  obtain ⟨g, n, nl, nf, nc⟩ := I.pin p (List.mem_append_left _ hp')
  have nfp : p.1 ∉ fp := fun z => (hf _ z).2.2.2.2.2 p (List.mem_append_left _ hp') rfl
  have nst : p.1 ∉ frs X.stack := fun z => (List.mem_cons.mp (I.stkSub _ z)).elim nl nf
  exact ⟨J.base.keep _ _ g n nst nfp, J.base.free _ _ g n nfp, fun e => Nat.lt_irrefl _ (Nat.lt_of_lt_of_le (Heap.lt_size g) (by rw [e]; exact hl)), nst, nc⟩
theorem pe_lcG {Gd : Cx → Prop} {elt tg iter : Expr} {ifs : List Expr} {scope : Scope} {own : List (Str × Nat)} {pos : Pos} {wi : TI} {g : TG} {tt : TT} {te : L2.St → TE} (hN : X.N.Nodup) (hi : IterOk Gd X tg iter wi) (ok : BlkOk X.N X.env.scope scope own) (gd : ∀ s H ce fp, Gd (blkP X s H scope ce fp))
    (hg : ∀ s H fp, PG (blkP X s H scope (ceOf X s scope) fp) tg g) (ht : ∀ s H fp, PTs (blkP X s H scope (ceOf X s scope) fp) ifs tt)
    (he : ∀ (ps : List (Addr × Obj)) (σ : L2.St) (s : Shared) (H : Hp) (fp : List Addr), Inv X ps σ H s → (∀ b ∈ fp, FpOk X ps H b) → PE (blkP X s H scope (ceOf X s scope) fp) elt (te σ)) (hs : ∀ x, foldedSetIterable iter X.env x = pure x := by intro _; rfl) :
    PE X (.ListComp elt [⟨tg, iter, ifs, 0⟩] scope pos) (fun σ H Q => tLc wi g tt (te σ) (own.map (·.2)) σ H Q) := by
  refine ⟨fun ps s σ H Q I h => ?_⟩
  rw [eval_ListComp]
  have fr : ∀ y ∈ scope.names, y.2 = .free → ∃ c, X.env.cells.lookup y.1 = some c := fun y hy e => (ok.free y hy e).elim (fun k => I.ok.has _ (.inl k)) fun k => I.ok.has _ (.inr k)
  refine wpAny_comprehension_free (use := none) rfl hs (closure_ok fr) ok.kind (fun y hy e => by rw [ok.uniq y hy, e]) (thn (hi ps s σ H _ I h) fun v z hz => thn hz fun itv z1 q => ?_)
  obtain ⟨a, fp, tn, J, H1, rfl, I1, TO, TT, t1, f1, W'⟩ := q
  refine wpAny_newObj_type (newEnv_comp ?_) (by show 0 ≤ sizeLine; decide)
  obtain ⟨D, eD⟩ : ∃ D, z1.heap.objs.size = D := ⟨_, rfl⟩
  have nD : H1 D = none := I1.hok.fresh (Nat.le_of_eq eD)
  rw [eD]
  obtain ⟨W, ⟨m0, w0⟩, turn⟩ := W' D nD
  obtain ⟨z2, e2⟩ : ∃ z2 : Shared, ({ z1 with heap := z1.heap.push { cls := .type "list", data := .seq ([] : List Value).toArray } } : Shared) = z2 := ⟨_, rfl⟩
  have h2 : z2.heap = z1.heap.push { cls := .type "list", data := .seq ([] : List Value).toArray } := by rw [← e2]
  have up2 : ∀ b o, z1.heap.get? b = some o → z2.heap.get? b = some o := fun b o e => by rw [h2]; exact Heap.get?_push_of_some _ e
  have I2 : Inv X ps σ (upd H1 D (.lst [])) z2 := by
    rw [← e2]
    exact I1.laid (t' := z1.toks) (fun b o e => Heap.get?_push_of_some _ e) (Nat.le_of_eq eD) ⟨Nat.zero_le _, [], 0, .nil, by rw [← eD]; exact Heap.get?_push_size _ rfl⟩
  rw [e2]
  have lt1 : ∀ b ∈ fp, b < z1.heap.objs.size := fun b hb => by
    obtain ⟨o, e, _⟩ := TO.ob _ _ t1 b hb
    exact Heap.lt_size e
  have f2 : ∀ b ∈ fp, FpOk X ps (upd H1 D (.lst [])) b := fun b hb => ⟨by rw [upd_ne (by rw [← eD]; exact Nat.ne_of_lt (lt1 b hb))]; exact (f1 b hb).1, (f1 b hb).2⟩
  have l2 : ∀ b ∈ fp, b < z2.heap.objs.size := fun b hb => by rw [h2, Heap.size_push]; exact Nat.lt_succ_of_lt (lt1 b hb)
  have t2 : tn 0 z2.heap := TO.kp _ _ _ t1 fun b _ o e => up2 b o e
  obtain ⟨H2, eH2⟩ : ∃ H2, upd H1 D (.lst []) = H2 := ⟨_, rfl⟩
  rw [eH2] at I2 f2 w0
  have J0 := block_start I2 ok hN fun b hb => ⟨f2 b hb, l2 b hb⟩
  have J1 := blk_pins I2 J0 (Nat.le_refl _) f2
  have pg := hg z2 H2 fp
  have pt := ht z2 H2 fp
  have pe := he ps σ z2 H2 fp I2 f2
  have T := TT (blkP X z2 H2 scope (ceOf X z2 scope) fp) rfl rfl rfl (gd _ _ _ _)
  obtain ⟨z3, e3⟩ : ∃ z3 : Shared, ({ z2 with heap := pushCells (z2.heap.push { cls := .type "dict", data := .dict #[] }) scope.names } : Shared) = z3 := ⟨_, rfl⟩
  rw [e3] at J1
  have t3 : tn 0 z3.heap := TO.kp _ _ _ t2 fun b _ o e => by rw [← e3]; exact pushCells_keeps _ _ _ _ (Heap.get?_push_of_some _ e)
  have st : ∀ {τ : L2.St} {G : Hp} {x : Shared}, Inv (blkP X z2 H2 scope (ceOf X z2 scope) fp) [] τ G x → (∀ b ∈ fp, G b = none) → ∀ b ∈ fp, FpOk (blkP X z2 H2 scope (ceOf X z2 scope) fp) [] G b := fun {τ G x} I' hn b hb =>
    ⟨hn b hb, (I'.ok.exf b hb).1, I'.ok.exfs b hb, .inl hb, fun y c e => (I'.ok.exf b hb).2 y c e, fun p hp => (f2 b hb).2.2.2.2.2 p (List.mem_append_left _ (by simpa using hp))⟩
  have loop : codeAny (model X.prog X.w) X.A (.compLoop (.ListComp elt [⟨tg, iter, ifs, 0⟩] scope pos) 0 (.ref a) (.ref D) (ceOf X z2 scope)) (compPost (model X.prog X.w) X.A X.xe none (EP X ps σ Q) (.ref D) z2.heap.objs.size) z3 := by
    refine compLoop_any (fun n x => ∃ i G, Inv (blkP X z2 H2 scope (ceOf X z2 scope) fp) [] (wipe σ (own.map (·.2))) G x ∧ tn i x.heap ∧ (∀ b ∈ fp, G b = none) ∧ W i n G) (fun n x hx => ?_) m0 ⟨0, H2, J1, t3, fun b hb => (f2 b hb).1, w0⟩
    obtain ⟨i, G, Ix, tx, nx, wx⟩ := hx
    rcases turn i n G wx with ⟨stop, qq⟩ | ⟨go, Nx, hNx, step⟩
    · refine thnF (T.dn i [] x _ G Ix (st Ix nx) tx stop) fun r y hy => ?_
      obtain ⟨rfl, Iy⟩ := hy
      have Ib : Inv X ps σ G y := I2.call' (ch := fp) Iy.os Iy.base Iy.hok Iy.bare fun b hb => ⟨(f2 b hb).2.2.2.1, (f2 b hb).2.1, (f2 b hb).2.2.2.2.1, (f2 b hb).2.2.2.2.2⟩
      obtain ⟨m, hn, _⟩ := Iy.loc
      obtain ⟨c0, c1, c2, c3, c4, c5⟩ := I2.fpOk (H' := G) (Nat.le_refl _) (show G z2.heap.objs.size = none from Iy.free)
      exact ⟨m, hn, fun h'' sb => ⟨.ref D, G, Ib.turned (t' := y.toks) (fun b o hb e => (sb.2 b hb).trans e) c0 c1 c3 c4 c5, rfl, qq⟩⟩
    · refine thnF (T.nx i [] x _ G Ix (st Ix nx) tx go) fun r y hy => ?_
      obtain ⟨u, rfl, hy⟩ := hy
      refine thnF hy fun _ y1 q1 => ?_
      obtain ⟨xv, G1, K1, r1, y1', t1', n1⟩ := q1
      have K1' := K1.pinned (st K1 n1) (TO.ob _ _ t1')
      refine thnF (pg.run _ y1 _ G1 xv u _ K1' r1 (step xv G1 y1')) fun _ y2 q2 => ?_
      obtain ⟨τ, G2, K2, hw, q2⟩ := q2
      refine thnF (pt.run _ y2 τ G2 _ K2 q2) fun b y3 q3 => ?_
      obtain ⟨G3, K3, q3⟩ := q3
      have fin : ∀ {y' : Shared} {G' : Hp}, Inv (blkP X z2 H2 scope (ceOf X z2 scope) fp) ([] ++ pinsAt fp y1.heap) τ G' y' → Nx G' → ∃ m, m < n ∧ ∃ i G, Inv (blkP X z2 H2 scope (ceOf X z2 scope) fp) [] (wipe σ (own.map (·.2))) G y' ∧ tn i y'.heap ∧ (∀ b ∈ fp, G b = none) ∧ W i m G := fun {y' G'} K' nx' => by
        obtain ⟨m', hm, w'⟩ := hNx G' nx'
        have pn' : ∀ b ∈ fp, ∀ o, y1.heap.get? b = some o → y'.heap.get? b = some o ∧ G' b = none := fun b hb o e => by
          have zz := K'.pin (b, o) (List.mem_append_right _ (List.mem_append_right _ (mem_pinsAt hb e)))
          exact ⟨zz.1, zz.2.1⟩
        refine ⟨m', hm, i + 1, G', (K'.unpinned (pins := [])).weak (by rw [← hw, wipe_length]) (fun j v e => ?_), TO.kp _ _ _ t1' fun b hb o e => (pn' b hb o e).1, fun b hb => ?_, w'⟩
        · rw [← hw] at e
          exact (wipe_some e).1
        · obtain ⟨o, e, _⟩ := TO.ob _ _ t1' b hb
          exact (pn' b hb o e).2
      cases b with
      | false => exact fin K3 q3
      | true =>
        refine thnF (pe.run _ y3 τ G3 _ K3 q3) fun zv y4 q4 => ?_
        obtain ⟨yv, G4, K4, r4, acc, hD4, hz4, nx'⟩ := q4
        exact app_ok (X := blkP X z2 H2 scope (ceOf X z2 scope) fp) K4 hD4 hz4 r4 fun y5 K5 => fin K5 nx'
  have fin := codeAny_compStart_list loop (T.se 0 _ _ _ t3 loop)
  rw [← e3] at fin
  exact fin
end
end Fo
namespace Fo
open PySem L2 FO LamX PySem.Spec PyProof.Rows
/-! ### a lambda as a value that is kept -/
/-- the function at f, known by its object -/
def LamO (f : Addr) (o : Obj) : HO := .ext fun h => h.get? f = some o
theorem lamO_ne {f : Addr} {o : Obj} (ps : Array Value) : LamO f o ≠ .tbl ps := fun z => by
  unfold LamO at z
  cases z
theorem tabs_more {T : List (Addr × Str)} {H G : Hp} {P c' : Addr} {q : Str} {tb : Array Value} {pos : Pos} (hT : Tabs T H) (hu : ∀ z ∈ T, z.1 = P → z.2 = q) (hP : H P = some (.tbl tb)) (ht : TriplesOk tb.toList) (ha : ∀ (p : Pos) (cv : Value), codeAmong p tb.toList = some cv → ∃ c, cv = .ref c ∧ H c = some (CodeO c q))
    (eN : ExtN H G) (gP : G P = some (.tbl (tb ++ #[rawInt pos.line, rawInt pos.col, .ref c']))) (gc : G c' = some (CodeO c' q)) (oth : ∀ b ps, b ≠ P → H b = some (.tbl ps) → G b = some (.tbl ps)) : Tabs T G := fun z hz => by
  by_cases hb : z.1 = P
  · rw [hb, hu z hz hb]
    have eL : (tb ++ #[rawInt pos.line, rawInt pos.col, Value.ref c']).toList = tb.toList ++ [rawInt pos.line, rawInt pos.col, .ref c'] := by simp
    refine ⟨_, gP, by rw [eL]; exact PySem.TriplesOk_snoc _ _ _ _ ht, fun p' cv hcv => ?_⟩
    rw [eL] at hcv
    rcases among_app _ ht hcv with y | y
    · obtain ⟨c0, a1, a2⟩ := ha p' cv y
      exact ⟨c0, a1, eN _ _ a2 codeO_ne⟩
    · exact ⟨c', y, gc⟩
  · obtain ⟨tb', a1, a2, a3⟩ := hT z hz
    refine ⟨tb', oth _ _ hb a1, a2, fun p' cv hcv => ?_⟩
    obtain ⟨c0, b1, b2⟩ := a3 p' cv hcv
    exact ⟨c0, b1, eN _ _ b2 codeO_ne⟩
section
variable {X : Cx} {ps : List (Addr × Obj)} {σ : L2.St} {H : Hp} {s : Shared} {T : List (Addr × Str)} {c P : Addr} {params : Arguments} {body : Expr} {scope : Scope} {pos : Pos}
theorem lam_track {E : Value → Shared → Prop} {Q : Value → Shared → Prop} (I : Inv X ps σ H s) (TB : TabB X.base X.mg c P) (hcode : X.env.code = .ref c) (hm : (P, X.env.qual ++ "<lambda>") ∈ T) (hu : ∀ z ∈ T, z.1 = P → z.2 = X.env.qual ++ "<lambda>") (hT : Tabs T H) (hdef : defaultsOf params X.env = ([], [])) (hfr : ∀ y ∈ scope.names, y.2 = .free → ∃ c, X.env.cells.lookup y.1 = some c)
    (h : ∀ (f c' : Addr) (pm ctv : Value) (G : Hp) (s' : Shared), Inv X ps σ G s' → ExtN H G → Tabs T G → H f = none → G f = some (LamO f (lamO X params body scope pm c' ctv)) → G c' = some (CodeO c' (X.env.qual ++ "<lambda>")) → Q (.ref f) s') :
    wpAny (model X.prog X.w) X.A (eval (.Lambda params body scope pos) X.env) Q E s := by
  obtain ⟨tb, hP, ht, ha⟩ := hT _ hm
  refine PySem.W.kla_eval hdef ?_
  cases hc : codeAmong pos tb.toList with
  | none =>
    refine PySem.W.kla_makeFunction (mg := X.mg) (closure_ok hfr) I.ok.glob (I.mod.glob.keeps I.bk) hcode (TB.code.keeps I.bk) (I.hok P _ hP) ht hc TB.gP (TB.bm.keeps I.bk) fun c' ctv h1 tk hx hge hlt hrec htb => ?_
    obtain ⟨_, oc, ws, tq, ec, hoc, hdc, hvc⟩ := hrec
    cases ec
    have nc : H c' = none := I.hok.fresh hge
    have Ia := inv_table (t' := tk) I hP (fun b o hb e => hx b o hb e) htb hge ⟨oc, ws, tq, hoc, hdc, hvc⟩
    have Ib := Ia.laid (t' := tk) (h' := h1.push (lamO X params body scope ((X.mg "__name__").getD .none) c' ctv)) (a := h1.objs.size) (o := LamO h1.objs.size (lamO X params body scope ((X.mg "__name__").getD .none) c' ctv)) (fun b o e => Heap.get?_push_of_some _ e) (Nat.le_refl _) ⟨Heap.get?_push_size _ rfl, ⟨_, Heap.get?_push_size _ rfl⟩, fun _ _ e st => st _ e⟩
    have hP' : s.heap.get? P = some { cls := .none, data := .fields tb } := I.hok P _ hP
    have lt1 : s.heap.objs.size ≤ h1.objs.size := Nat.le_trans hge (Nat.le_of_lt hlt)
    have nf : H h1.objs.size = none := I.hok.fresh lt1
    have n1 : c' ≠ h1.objs.size := Nat.ne_of_lt hlt
    have n2 : P ≠ h1.objs.size := ne_of_none hP nf
    have n3 : P ≠ c' := ne_of_none hP nc
    have eN : ExtN H (upd (upd (upd H P (.tbl (tb ++ #[rawInt pos.line, rawInt pos.col, .ref c']))) c' (CodeO c' (X.env.qual ++ "<lambda>"))) h1.objs.size (LamO h1.objs.size (lamO X params body scope ((X.mg "__name__").getD .none) c' ctv))) := fun b o e n => by
      rw [upd_ne (ne_of_none e nf), upd_ne (ne_of_none e nc), upd_ne (fun z => n tb (Option.some.inj (e.symm.trans (by rw [z]; exact hP))))]
      exact e
    have gc : (upd (upd (upd H P (.tbl (tb ++ #[rawInt pos.line, rawInt pos.col, .ref c']))) c' (CodeO c' (X.env.qual ++ "<lambda>"))) h1.objs.size (LamO h1.objs.size (lamO X params body scope ((X.mg "__name__").getD .none) c' ctv))) c' = some (CodeO c' (X.env.qual ++ "<lambda>")) := by rw [upd_ne n1, upd_same]
    exact h _ c' _ ctv _ _ Ib eN (tabs_more hT hu hP ht ha eN (by rw [upd_ne n2, upd_ne n3, upd_same]) gc fun b ps hb e => by rw [upd_ne (ne_of_none e nf), upd_ne (ne_of_none e nc), upd_ne hb]; exact e) nf upd_same gc
  | some cv =>
    obtain ⟨c', e, hco⟩ := ha pos cv hc
    subst e
    refine PySem.W.kla_makeFunctionHit (mg := X.mg) (closure_ok hfr) I.ok.glob (I.mod.glob.keeps I.bk) hcode (TB.code.keeps I.bk) (I.hok P _ hP) ht hc (TB.bm.keeps I.bk) fun ctv h1 tk hx hsz => ?_
    have Ia : Inv X ps σ H { s with heap := h1, toks := tk } := I.kept hx
    have Ib := Ia.laid (t' := tk) (h' := h1.push (lamO X params body scope ((X.mg "__name__").getD .none) c' ctv)) (a := h1.objs.size) (o := LamO h1.objs.size (lamO X params body scope ((X.mg "__name__").getD .none) c' ctv)) (fun b o e => Heap.get?_push_of_some _ e) (Nat.le_refl _) ⟨Heap.get?_push_size _ rfl, ⟨_, Heap.get?_push_size _ rfl⟩, fun _ _ e st => st _ e⟩
    have nf : H h1.objs.size = none := I.hok.fresh hsz
    have up : ∀ b o, H b = some o → upd H h1.objs.size (LamO h1.objs.size (lamO X params body scope ((X.mg "__name__").getD .none) c' ctv)) b = some o := fun b o e => by
      rw [upd_ne (ne_of_none e nf)]
      exact e
    exact h _ c' _ ctv _ _ Ib (ExtN.of up) (hT.ext up) nf upd_same (up _ _ hco)
/-- lambda ..: as a value -/
def tLamV (T : List (Addr × Str)) (q : Str) (ob : Value → Addr → Value → Obj) : TE := fun _ H Q => Tabs T H ∧ ∀ (f c' : Addr) (pm ctv : Value) (G : Hp), ExtN H G → Tabs T G → H f = none → G f = some (LamO f (ob pm c' ctv)) → G c' = some (CodeO c' q) → Q (.ref f) G
theorem pe_lamV (TB : TabB X.base X.mg c P) (hcode : X.env.code = .ref c) (hm : (P, X.env.qual ++ "<lambda>") ∈ T) (hu : ∀ z ∈ T, z.1 = P → z.2 = X.env.qual ++ "<lambda>") (hdef : defaultsOf params X.env = ([], [])) {N qs : List Str} (L : LamP X.env.scope scope N qs) :
    PE X (.Lambda params body scope pos) (tLamV T (X.env.qual ++ "<lambda>") (fun pm c' ctv => lamO X params body scope pm c' ctv)) :=
  ⟨fun pins s σ H Q I h => lam_track I TB hcode hm hu h.1 hdef (L.has I.ok) fun f c' pm ctv G s' I' eN T' nf gf gc => ⟨.ref f, G, I', rfl, h.2 f c' pm ctv G eN T' nf gf gc⟩⟩
end
/-- what a kept lambda promises -/
def spLamT (q : Str) (σ : L2.St) (f c' : Addr) (o : Obj) (n : Nat) (t : XK → TE) : Sp := fun vs H Q E => vs.length = n ∧ H f = some (LamO f o) ∧ H c' = some (CodeO c' q) ∧ t E (vs.map some ++ σ) H Q
section
variable {X : Cx} {σ : L2.St} {B : Heap} {ps : List Str} {scope : Scope} {params : Arguments} {body : Expr} {pm ctv : Value} {f c' : Addr} {k : Nat} {t : XK → TE}
theorem fn_lamT (C : CellsOk X σ B) (L : LamP X.env.scope scope X.N ps)
    (hbody : ∀ (A : Around) (outer : List Env) (s : Shared) (H : Hp) (E : XK), Room k (A.deeper (lamEnv X scope s.heap.objs.size f c')) → PE (lamCy X B ps A outer s H E scope f c') body (t E)) :
    FnOk X.prog X.w X.K X.mg B (L2.CX X.prog X.w) (k + 1) f (PySem.W.kla_fn "<lambda>" (X.env.qual ++ "<lambda>") params body scope (cloFrom X.env.cells scope.names []) pm (.ref c') ctv) ps (spLamT (X.env.qual ++ "<lambda>") σ f c' (lamO X params body scope pm c' ctv) ps.length t) := by
  refine ⟨fun vs H Q E h => h.1, fun A outer s H args us vs Q E hr e0 hb r h => ?_⟩
  obtain ⟨hl, hf, hc, ht⟩ := h
  have lim : s.heap.NoLimit := e0.mod.nolimit.keeps fun b o e => (e0.bs b o e).1
  obtain ⟨gf, _, _⟩ := e0.hok f _ hf
  obtain ⟨⟨oc, ws, tq, hoc, hdc, hvc⟩, _, _⟩ := e0.hok c' _ hc
  refine PySem.W.kla_callFunE hr.depth gf rfl L.co L.gen rfl ⟨c', oc, ws, tq, rfl, hoc, hdc, hvc⟩ (hb _ _ _ _ ?_)
  refine wpAny_newFunctionEnv L.own (fun y hy => L.par y.1 (List.of_mem_zip hy).1) (fun h₁ hns hsb => ⟨lim.fresh _ hsb, ?_⟩) L.kind
  have kp : ∀ b o, s.heap.get? b = some o → h₁.get? b = some o := fun b o e => hsb.extBut b o (Nat.ne_of_lt (Heap.lt_size e)) (Heap.get?_push_of_some _ e)
  have J := lam_begin (E := E) (f := f) (c' := c') (tk := s.toks + (ps.zip us).length) C L e0 hr.hd hns kp r hl
  refine PySem.W.kla_codeExpr (wpAny_mono ((hbody A outer s H E (hr.deeper _)).run [] _ _ H Q J ht) (fun v s' hq => ?_) fun _ _ z => z)
  obtain ⟨v', H', J', rv, q⟩ := hq
  exact ⟨v', H', J'.os, J'.bare, J'.base, J'.hok, rv, q⟩
end
/-- a function that keeps sp; that it stands is told by the heap -/
structure Kt (P : Program) (w : World) (K : PySem.W.Frag) (mg : Str → Option Value) (base : Heap) (k : Nat) (f : Addr) (sp : Sp) : Prop where
  ex : ∃ (fd : FuncData) (ps : List Str), FnOk P w K mg base (L2.CX P w) k f fd ps sp ∧ Binds K fd ps []
/-- at f stands a function -/
def Stands (f : Addr) (H : Hp) : Prop := ∃ o fd, H f = some (LamO f o) ∧ o.data = .func fd
theorem Stands.same {f : Addr} {H G : Hp} (h : Stands f H) (s : Same H G) : Stands f G := by
  obtain ⟨o, fd, h, e⟩ := h
  exact ⟨o, fd, s _ _ h, e⟩
theorem Stands.at {X : Cx} {ps : List (Addr × Obj)} {σ : L2.St} {H : Hp} {s : Shared} {f : Addr} (h : Stands f H) (I : Inv X ps σ H s) : PySem.W.FnAt f s.heap := by
  obtain ⟨o, fd, h, e⟩ := h
  have g : s.heap.get? f = some o := (I.hok f _ h).1
  cases o
  cases e
  exact ⟨_, _, _, _, g⟩
section
variable {X : Cx} {k j i : Nat} {x : Str} {p pos : Pos} {e : Expr} {es : List Expr} {t : TA}
/-- the i-th slot holds a function f with the promise sp -/
def tCallT (i : Nat) (S : Addr → Sp → Prop) (t : TA) : TE := fun σ H Q => ∃ f sp, σ[i]? = some (some (.ref f)) ∧ S f sp ∧ Stands f H ∧ t σ H fun vs H1 => Stands f H1 ∧ sp vs H1 Q E0
theorem pkT {S : Addr → Sp → Prop} (A : ∀ f sp, S f sp → Kt X.prog X.w X.K X.mg X.base k f sp) (hr : Room j X.A) (hk : k ≤ j) (hN : X.N[i]? = some x) (hv : Vis X.env.scope x) (ha : PA X (e :: es) t)
    (hdb : (x == ("__debug__" : Str)) = false := by decide) (hcd : (x == ("__classdict__" : Str)) = false := by decide) (he : starEach (e :: es) X.env = (false, eval e X.env) :: starEach es X.env := by rfl) (hpl : (backTo pos (starEach es X.env)).any (·.1) = false := by rfl) :
    PE X (.Call (.Name x p) (e :: es) [] pos) (tCallT i S t) := by
  refine ⟨fun pins s σ H Q I h => ?_⟩
  obtain ⟨f, sp, hs, hS, hst, ht⟩ := h
  obtain ⟨fd, ps, F, hb⟩ := (A f sp hS).ex
  refine wpAny_Call_Name_kw (thn ((pe_var (pos := p) hN hv hdb hcd).run pins s σ H (fun v H1 => v = .ref f ∧ H1 = H) I ⟨.ref f, hs, rfl, rfl⟩) fun u s1 back => ?_)
  obtain ⟨v, H1, I1, r1, ev, eH⟩ := back
  subst ev eH
  have eu : u = Value.ref f := r1
  subst eu
  refine PySem.W.callWith_F (hst.at I1) (thn (ha.run pos pins s1 σ _ _ I1 ht) fun us s2 back => ?_) he hpl
  obtain ⟨vs, H2, I2, r, st2, q⟩ := back
  exact ⟨st2.at I2, run_fn F (hr.mono hk) hb .nil passL I2 r (by rw [List.append_nil]; exact q)⟩
/-- f(..) out of a comprehension's block, on a heap where the def's cells stand -/
theorem pe_callB9 {Z : Cx} {sp : L2.St → Sp} {scope : Scope} {qs : List (Addr × Obj)} {σ : L2.St} {H3 : Hp} {s3 : Shared} {fp : List Addr} (I3 : Inv Z qs σ H3 s3) (hf : ∀ b ∈ fp, FpOk Z qs H3 b) (hfn : ∀ y, Z.fn y = true) (D : ∃ g, Z.mg x = some (.ref g) ∧ PySem.W.keepIn Z.K (.ref g) = true)
    (F : ∀ B, Mod Z.K Z.mg B → CellsOk Z σ B → Kp Z.prog Z.w Z.K Z.mg B CX0 k x (sp σ)) (hr : Room j Z.A) (hk : k ≤ j) (hg : Gl (blkP Z s3 H3 scope (ceOf Z s3 scope) fp) x) (ha : PA (blkP Z s3 H3 scope (ceOf Z s3 scope) fp) (e :: es) t) (hdb : (x == ("__debug__" : Str)) = false := by decide)
    (he : starEach (e :: es) (blkP Z s3 H3 scope (ceOf Z s3 scope) fp).env = (false, eval e (blkP Z s3 H3 scope (ceOf Z s3 scope) fp).env) :: starEach es (blkP Z s3 H3 scope (ceOf Z s3 scope) fp).env := by rfl) (hpl : (backTo pos (starEach es (blkP Z s3 H3 scope (ceOf Z s3 scope) fp).env)).any (·.1) = false := by rfl) :
    PE (blkP Z s3 H3 scope (ceOf Z s3 scope) fp) (.Call (.Name x p) (e :: es) [] pos) (fun σ' H Q => t σ' H fun vs H1 => sp σ vs H1 Q E0) := by
  obtain ⟨g, hmg, hkp⟩ := D
  refine ⟨fun pins s τ H Q I h => wpAny_Call_Name_kw (ld_glob I hg hmg (PySem.W.callWith_K (h₀ := Z.base) I.ok.mod.kin hkp (thn (ha.run pos pins s τ H _ I h) fun us s2 back => ?_) he hpl) hdb)⟩
  obtain ⟨vs, H2, I2, r, q⟩ := back
  have C3 := cells_ok I3 hfn
  have up : ∀ {y : Str} {c : Addr} {v : Option Value}, Z.env.cells.lookup y = some c → (rb s3.heap H3 Z.stack).IsCell c v → (rb s2.heap H2 Z.stack).IsCell c v := fun {y c v} hc ⟨o, ho, hd⟩ => by
    have nf : c ∉ frs Z.stack := fun z => by
      have e2 := PySem.W.hideAll_none (trk s3.heap H3 ++ frs Z.stack) (h := s3.heap) (List.mem_append_right _ z)
      unfold rb at ho
      rw [e2] at ho
      cases ho
    have nfp : c ∉ fp := fun z => (hf c z).2.2.2.2.1 y c hc rfl
    obtain ⟨g1, g2⟩ := of_rb ho
    exact ⟨o, rb_get (I2.base.keep c o g1 g2 nf nfp) (I2.base.free c o g1 g2 nfp) nf, hd⟩
  have C2 : CellsOk Z σ (rb s2.heap H2 Z.stack) := ⟨C3.ok, C3.len, fun y c hc => (C3.cell y c hc).elim fun v hv => ⟨v, up hc hv⟩, fun i y v a b d => by
    obtain ⟨u, c, ru, hc, z⟩ := C3.val i y v a b d
    exact ⟨u, c, ru, hc, up hc z⟩⟩
  have md0 := rb_mod I2
  have e00 := rebase I2
  have md : Mod Z.K Z.mg (rb s2.heap H2 Z.stack) := md0
  have e0 : Env0 Z.prog Z.w Z.K Z.mg (rb s2.heap H2 Z.stack) Z.A Z.stack s2 H2 := e00
  obtain ⟨g', fd, ps', Fk, hmg', _, hb⟩ := (F _ md C2).ex
  have eg := hmg.symm.trans hmg'
  cases eg
  refine ⟨I2.kIn, ?_⟩
  have hl : us.length = ps'.length := by rw [← Fk.len _ _ _ _ q, r.length]
  have bd := hb s2 us I2.kIn (by rw [List.append_nil]; exact hl)
  rw [List.append_nil] at bd
  refine wpAny_call (codeAny_mono (Fk.run Z.A Z.stack s2 H2 ⟨us, []⟩ us vs Q E0 (hr.mono hk) e0 bd r q) fun rr z hq => ?_)
  cases rr with
  | error e => exact (show False from hq).elim
  | ok fl => cases fl with
    | ret u => exact I2.after hq
    | next => exact hq.elim
    | brk => exact hq.elim
    | cont => exact hq.elim
end
end Fo
namespace Fo
open PySem L2 FO PySem.Spec PyProof.Rows
/-- a number or a truth -/
def scI : V → Bool
  | .int _ => true
  | .bl _ => true
  | _ => false
theorem scI_B {v : V} (h : scI v = true) : scB v = true := by cases v <;> first | rfl | exact Bool.noConfusion h
theorem scI_all {xs : List V} (h : ∀ x ∈ xs, scI x = true) : xs.all scB = true := List.all_eq_true.mpr fun x hx => scI_B (h x hx)
theorem scI_ints (ns : List Int) : ∀ x ∈ ns.map V.int, scI x = true := fun x hx => by
  obtain ⟨i, _, rfl⟩ := List.mem_map.mp hx
  rfl
theorem lay_sc : ∀ xs : List V, (∀ x ∈ xs, scI x = true) → PyData.canLayAll0 (xs.map scD) = true ∧ PyData.depthAll (xs.map scD) = 0
  | [], _ => ⟨rfl, rfl⟩
  | x :: xs, h => by
    obtain ⟨a, b⟩ := lay_sc xs fun y hy => h y (List.mem_cons_of_mem _ hy)
    have hx := h x List.mem_cons_self
    have c : PyData.canLay0 (scD x) = true ∧ PyData.depth (scD x) = 0 := by cases x <;> first | exact ⟨rfl, rfl⟩ | exact Bool.noConfusion hx
    refine ⟨?_, ?_⟩
    · show (PyData.canLay0 (scD x) && PyData.canLayAll0 (xs.map scD)) = true
      rw [a, c.1]
      rfl
    · show max (PyData.depth (scD x)) (PyData.depthAll (xs.map scD)) = 0
      rw [b, c.2]
      rfl
theorem shapedI {xs : List V} (h : ∀ x ∈ xs, scI x = true) : SeqAt.shaped (.list (xs.map scD)) = true := by
  obtain ⟨a, b⟩ := lay_sc xs h
  simp [SeqAt.shaped, PyData.canLay0, PyData.depth, a, b]
theorem eqvI {xs : List V} (h : ∀ x ∈ xs, scI x = true) : PyData.eqv (.list (xs.map scD)) (.list (xs.map scD)) = true := SeqAt.eqv_refl _ (SeqAt.canLay_of_shaped (shapedI h))
/-- two lists of the same values are told alike -/
theorem al_sameD {K : PySem.W.Frag} {H0 : Hp} {σ : L2.St} {a b : TE} {xs : List V} (hx : ∀ x ∈ xs, scI x = true) (h : Al H0 σ a (IsL xs)) (g : Al H0 σ b (IsL xs)) : Al H0 σ (tOp (rEqD K) a b) (Is (.bl true)) := al_eqD (r := true) (al_dl h (scI_all hx)) (al_dl g (scI_all hx)) (shapedI hx) (shapedI hx) (eqvI hx)
theorem al_diffD {K : PySem.W.Frag} {H0 : Hp} {σ : L2.St} {a b : TE} {xs : List V} (hx : ∀ x ∈ xs, scI x = true) (h : Al H0 σ a (IsL xs)) (g : Al H0 σ b (IsL xs)) : Al H0 σ (tOp (rNeD K) a b) (Is (.bl false)) := al_neD (r := false) (al_dl h (scI_all hx)) (al_dl g (scI_all hx)) (shapedI hx) (shapedI hx) (eqvI hx)
theorem pe_no {X : Cx} {e : Expr} : PE X e (fun _ _ _ => False) := ⟨fun _ _ _ _ _ _ h => h.elim⟩
/-- all but what stands at p stays -/
def Oth (H G : Hp) (p : Addr) : Prop := ∀ b o, b ≠ p → H b = some o → G b = some o
theorem Oth.same {H G G' : Hp} {p : Addr} (h : Oth H G p) (s : Same G G') : Oth H G' p := fun b o n e => s _ _ (h b o n e)
theorem Oth.put {H G : Hp} {p : Addr} {o : HO} (h : Oth H G p) : Oth H (upd G p o) p := fun b u n e => by rw [upd_ne n]; exact h b u n e
section
variable {P : Program} {w : World} {K : PySem.W.Frag} {mg : Str → Option Value} {base : Heap} {C CN CM : Addr}
/-! ### _law_copied -/
def spCop0 : Sp := fun vs H Q _ => ∃ v, vs = [v] ∧ scI v = true ∧ Q v H
def spCop : Sp := fun vs H Q _ => ∃ (p : Addr) (xs : List V), vs = [.ref p] ∧ H p = some (.lst xs) ∧ (∀ x ∈ xs, scI x = true) ∧ xs.length ≤ 1000 ∧ ∀ H' q, Same H H' → H q = none → H' q = some (.lst xs) → Q (.ref q) H'
theorem scCop : FnScope nLawCopied pLawCopied (defScope sLawCopied) := ⟨rfl, rfl, rfl, by decide +kernel, rfl, by decide +kernel, by decide +kernel⟩
theorem ok_cop0 (D : Dn K mg "_law_copied" sLawCopied) (B : Bi mg) : Kp P w K mg base CX0 1 "_law_copied" spCop0 := by
  obtain ⟨f, fd, F, hm⟩ := D.ex
  refine ⟨f, fd, pLawCopied, F.ok scCop (fun vs H Q E h => ?_) (fun cv A fr s H vs Q E hr h => ?_), hm, F.kp, F.binds fun _ _ _ _ _ _ us hl => match us, hl with | [_], _ => rfl⟩
  · obtain ⟨v, rfl, _⟩ := h
    rfl
  · obtain ⟨v, rfl, hv, k⟩ := h
    refine ⟨_, pss_one (ps_ret (pe_ifExp (pt_val (pe_callB call_isi (by rfl) B.isi (by decide +kernel) (pa_cons (pv 0) (pa_cons (pe_bltn (v := .ty "list") (by rfl) B.list (by decide +kernel) rfl) pa_nil)))) pe_no (pv 0))), ?_⟩
    cases v <;> first | exact Bool.noConfusion hv | skip
    · exact ⟨_, rfl, _, _, _, _, false, rfl, .ty "list", .base (.bl _), kit_ty (by decide +kernel), false, rfl, iteF ⟨_, rfl, k⟩⟩
    · exact ⟨_, rfl, _, _, _, _, false, rfl, .ty "list", .base (.int _), kit_ty (by decide +kernel), false, rfl, iteF ⟨_, rfl, k⟩⟩
theorem gv_cop0 {v : V} (h : scI v = true) : Gives spCop0 (Is v) (Is v) := fun G u Q E e k => ⟨u, rfl, by rw [show u = _ from e]; exact h, k G u (Same.refl G) e⟩
theorem ok_cop (D : Dn K mg "_law_copied" sLawCopied) (B : Bi mg) (C0 : Kp P w K mg base CX0 1 "_law_copied" spCop0) : Kp P w K mg base CX0 2 "_law_copied" spCop := by
  obtain ⟨f, fd, F, hm⟩ := D.ex
  refine ⟨f, fd, pLawCopied, F.ok scCop (fun vs H Q E h => ?_) (fun cv A fr s H vs Q E hr h => ?_), hm, F.kp, F.binds fun _ _ _ _ _ _ us hl => match us, hl with | [_], _ => rfl⟩
  · obtain ⟨p, xs, rfl, _⟩ := h
    rfl
  · obtain ⟨p, xs, rfl, hp, hx, hl, k⟩ := h
    refine ⟨_, pss_one (ps_ret (pe_ifExp (pt_val (pe_callB call_isi (by rfl) B.isi (by decide +kernel) (pa_cons (pv 0) (pa_cons (pe_bltn (v := .ty "list") (by rfl) B.list (by decide +kernel) rfl) pa_nil))))
      (pe_lc (own := [("_law_one", 1)]) (g := gName 1) (tt := tYes) rfl scCop.nd (pi_list (pv 0)) (blkOk_by (own := [("_law_one", 1)]) (N := nLawCopied) (sc := defScope sLawCopied) (by decide +kernel)) (fun _ _ _ _ _ => (pg_name (i := 1) scCop.nd rfl (Or.inl rfl))) (fun _ _ _ _ _ => pts_nil) (fun _ _ _ _ _ => (pk C0 hr (by decide) rfl (pa_cons (pv 1) pa_nil)))) (pv 0))), ?_⟩
    have big : (16777216 : Nat) = sizeLine := PySem.sizeLine_eq.symm
    refine ⟨_, rfl, _, _, _, _, true, rfl, .ty "list", .base (.lst hp), kit_ty (by decide +kernel), true, rfl, iteT ?_⟩
    refine ⟨_, rfl, p, rfl, ⟨_, SqL.of hp⟩, fun D hD => lc_list (K := K) (a := p) (xs := xs) (fun j H' => Same H H' ∧ H' D = some (.lst (xs.take j))) ⟨sm_upd hD, upd_same⟩ (fun j H' _ hj => SqL.of (hj.1 _ _ hp)) ?_ ?_⟩
    · rintro j x H1 hj ⟨s1, hD1⟩
      refine ⟨rfl, ?_⟩
      unfold tYes
      refine iteT ⟨_, rfl, x, rfl, hx x (List.mem_of_getElem? hj), _, hD1, ?_, fun b o e => ?_, ?_⟩
      · have := List.length_take_le j xs
        have := (List.getElem?_eq_some_iff.mp hj).1
        rw [List.length_take, ← big]
        omega
      · rw [upd_ne (ne_of_none e hD)]
        exact s1 b o e
      · rw [upd_same, take_snoc hj]
    · rintro H1 ⟨s1, hD1⟩
      rw [List.take_of_length_le (Nat.le_refl _)] at hD1
      exact k H1 D s1 hD hD1
/-! ### _law_spoiled -/
def spSpo : Sp := fun vs H Q _ => ∃ (p : Addr) (xs : List V), vs = [.ref p] ∧ H p = some (.lst xs) ∧ (∀ x ∈ xs, scI x = true) ∧ xs.length ≤ 1000 ∧ ∀ G, Oth H G p → Q .non G
theorem scSpo : FnScope nLawSpoiled pLawSpoiled (defScope sLawSpoiled) := ⟨rfl, rfl, rfl, by decide +kernel, rfl, by decide +kernel, by decide +kernel⟩
theorem ok_spo (D : Dn K mg "_law_spoiled" sLawSpoiled) (B : Bi mg) : Kp P w K mg base CX0 1 "_law_spoiled" spSpo := by
  obtain ⟨f, fd, F, hm⟩ := D.ex
  refine ⟨f, fd, pLawSpoiled, F.ok scSpo (fun vs H Q E h => ?_) (fun cv A fr s H vs Q E hr h => ?_), hm, F.kp, F.binds fun _ _ _ _ _ _ us hl => match us, hl with | [_], _ => rfl⟩
  · obtain ⟨p, xs, rfl, _⟩ := h
    rfl
  · obtain ⟨p, xs, rfl, hp, hx, hl, k⟩ := h
    refine ⟨_, pss_cons (ps_for PassesOwn.never rfl (pi_list (pv 0)) (pg_name (i := 1) scSpo.nd rfl (Or.inl rfl)) (pss_one (ps_if (pt_val (pe_callB call_isi (by rfl) B.isi (by decide +kernel) (pa_cons (pv 1) (pa_cons (pe_bltn (v := .ty "list") (by rfl) B.list (by decide +kernel) rfl) pa_nil)))) pss_never pss_nil)))
      (pss_cons (ps_expr (pe_bm PySem.F.plainAttrs_list PySem.F.slot_list_append PySem.F.type_list_append mt_append (pv 0) (pa_cons pe_int pa_nil)))
      (pss_one (ps_expr (pe_bm0 PySem.F.plainAttrs_list PySem.F.slot_list_reverse PySem.F.type_list_reverse mt_reverse (pv 0))))), ?_⟩
    have big : (16777216 : Nat) = sizeLine := PySem.sizeLine_eq.symm
    refine ⟨_, rfl, p, rfl, ⟨_, SqL.of hp⟩, for_list (K := K) (xs := xs) (fun i σ H' => ∃ v1 : Option V, σ = [some (.ref p), v1] ∧ H' = H) ⟨_, rfl, rfl⟩ (fun i σ H' _ ⟨_, _, e⟩ => by rw [e]; exact SqL.of hp) ?_ ?_⟩
    · rintro i x σ H' hi ⟨v1, rfl, rfl⟩
      have sx := hx x (List.mem_of_getElem? hi)
      cases x <;> first | exact Bool.noConfusion sx | skip
      · exact ⟨_, rfl, _, _, _, _, false, rfl, .ty "list", .base (.bl _), kit_ty (by decide +kernel), false, rfl, iteF ⟨_, rfl, rfl⟩⟩
      · exact ⟨_, rfl, _, _, _, _, false, rfl, .ty "list", .base (.int _), kit_ty (by decide +kernel), false, rfl, iteF ⟨_, rfl, rfl⟩⟩
    · rintro σ H' ⟨v1, rfl, rfl⟩
      refine ⟨_, rfl, .inl ⟨rfl, _, SqL.of hp⟩, p, _, _, rfl, rfl, hp, by omega, ?_⟩
      refine ⟨_, rfl, .inl ⟨rfl, _, SqL.of upd_same⟩, p, _, rfl, rfl, upd_same, ?_⟩
      exact k _ (Oth.put (Oth.put fun b o _ e => e))
/-! ### _law_laid -/
def spLai : Sp := fun vs H Q _ => ∃ (m p : Addr) (xs ys : List V), vs = [.ref m, .ref p] ∧ H m = some (.lst xs) ∧ H p = some (.lst ys) ∧ m ≠ p ∧ (∀ y ∈ ys, scI y = true) ∧ xs.length ≤ 1000 ∧ ys.length ≤ 1000 ∧ ∀ G, Oth H G m → G m = some (.lst ys) → Q .non G
theorem scLai : FnScope nLawLaid pLawLaid (defScope sLawLaid) := ⟨rfl, rfl, rfl, by decide +kernel, rfl, by decide +kernel, by decide +kernel⟩
theorem ok_lai (D : Dn K mg "_law_laid" sLawLaid) (B : Bi mg) (C0 : Kp P w K mg base CX0 1 "_law_copied" spCop0) : Kp P w K mg base CX0 2 "_law_laid" spLai := by
  obtain ⟨f, fd, F, hm⟩ := D.ex
  refine ⟨f, fd, pLawLaid, F.ok scLai (fun vs H Q E h => ?_) (fun cv A fr s H vs Q E hr h => ?_), hm, F.kp, F.binds fun _ _ _ _ _ _ us hl => match us, hl with | [_, _], _ => rfl⟩
  · obtain ⟨m, p, xs, ys, rfl, _⟩ := h
    rfl
  · obtain ⟨m, p, xs, ys, rfl, hm', hp, mp, hy, lx, ly, k⟩ := h
    refine ⟨_, pss_cons (ps_while PassesOwn.never (pt_cmpR op_gt (pe_callB call_len_seq (by rfl) B.len PySem.boot_len (pa_cons (pv 0) pa_nil)) (pe_callB call_len_seq (by rfl) B.len PySem.boot_len (pa_cons (pv 1) pa_nil)) (nomark _)) (pss_one (ps_expr (pe_bm0 PySem.F.plainAttrs_list PySem.F.slot_list_pop PySem.F.type_list_pop mt_pop (pv 0)))))
      (pss_one (ps_for PassesOwn.never rfl (pi_enum (by rfl) B.enum (pa_cons (pv 1) pa_nil)) (pg_tup rfl (pgs_cons (pg_name (i := 2) scLai.nd rfl (Or.inl rfl)) (pgs_cons (pg_name (i := 3) scLai.nd rfl (Or.inl rfl)) pgs_nil)))
        (pss_one (ps_if (pt_cmpR op_eq (pv 2) (pe_callB call_len_seq (by rfl) B.len PySem.boot_len (pa_cons (pv 0) pa_nil)) (nomark _)) (pss_one (ps_expr (pe_bm PySem.F.plainAttrs_list PySem.F.slot_list_append PySem.F.type_list_append mt_append (pv 0) (pa_cons (pk C0 hr (by decide) rfl (pa_cons (pv 3) pa_nil)) pa_nil))))
          (pss_one (ps_if (PW.pt (pw_and (pt_val (pe_callB call_isi (by rfl) B.isi (by decide +kernel) (pa_cons (pv 3) (pa_cons (pe_bltn (v := .ty "list") (by rfl) B.list (by decide +kernel) rfl) pa_nil)))) (pw_and1 (pt_val (pe_callB call_isi (by rfl) B.isi (by decide +kernel) (pa_cons (pe_ix ix_list (pv 0) (pv 2) (fun _ _ => rfl)) (pa_cons (pe_bltn (v := .ty "list") (by rfl) B.list (by decide +kernel) rfl) pa_nil))))))) pss_never
            (pss_one (ps_asg (pk C0 hr (by decide) rfl (pa_cons (pv 3) pa_nil)) (pg_sub (pv 0) (pv 2) set_list))))))))), ?_⟩
    have big : (16777216 : Nat) = sizeLine := PySem.sizeLine_eq.symm
    refine ⟨fun n σ H' => ∃ zs, σ = [some (.ref m), some (.ref p), none, none] ∧ H' m = some (.lst zs) ∧ zs.length = n ∧ n ≤ 1000 ∧ Oth H H' m, ⟨_, xs, rfl, hm', rfl, lx, fun _ _ _ e => e⟩, fun n σ H' hq => ?_⟩
    obtain ⟨zs, rfl, hz, ln, n1, ot⟩ := hq
    have hpH := ot _ _ (Ne.symm mp) hp
    refine ⟨_, rfl, m, _, rfl, .inl (SqL.of hz), _, rfl, p, _, rfl, .inl (SqL.of hpH), _, _, rfl, rfl, _, rfl, ?_⟩
    by_cases c : ys.length < zs.length
    · refine ifT (decide_eq_true (by omega)) ⟨fun σ' H2 => ∃ n', n' < n ∧ ∃ zs, σ' = [some (.ref m), some (.ref p), none, none] ∧ H2 m = some (.lst zs) ∧ zs.length = n' ∧ n' ≤ 1000 ∧ Oth H H2 m, fun _ _ h => h, ?_⟩
      have hlast : zs[zs.length - 1]? = some (zs[zs.length - 1]'(by omega)) := List.getElem?_eq_getElem (by omega)
      exact ⟨_, rfl, .inl ⟨rfl, _, SqL.of hz⟩, m, zs, _, rfl, rfl, hz, hlast, n - 1, by omega, zs.dropLast, rfl, upd_same, by rw [List.length_dropLast]; omega, by omega, ot.put⟩
    · refine ifF (decide_eq_false (by omega)) ?_
      refine ⟨_, rfl, p, _, rfl, SqL.of hpH, for_it walk_enum (fun i σ H2 => ∃ (v2 v3 : Option V) (ws : List V), σ = [some (.ref m), some (.ref p), v2, v3] ∧ H2 m = some (.lst ws) ∧ i ≤ ws.length ∧ ws.length ≤ ys.length ∧ ws.take i = ys.take i ∧ Oth H H2 m) ⟨_, _, zs, rfl, hz, Nat.zero_le _, by omega, rfl, ot⟩ (fun i σ H2 _ ⟨_, _, _, _, _, _, _, _, o⟩ => SqL.of (o _ _ (Ne.symm mp) hp)) ?_ ?_⟩
      · rintro i x σ H2 H3 hi ⟨v2, v3, ws, rfl, hw, i1, i2, tk, o⟩ ⟨T, x1, x2, rfl, nT, rfl, e1, e2⟩
        cases e1
        have tm : m ≠ T := ne_of_none hw nT
        have hw3 : upd H2 T (.tup [V.int (i : Nat), x2]) m = some (.lst ws) := by rw [upd_ne tm]; exact hw
        have o3 : Oth H (upd H2 T (.tup [V.int (i : Nat), x2])) m := o.same (sm_upd nT)
        have sx := hy x2 (List.mem_of_getElem? e2)
        have hlt : i < ys.length := hi
        have tk1 : ys.take (i + 1) = ys.take i ++ [x2] := take_snoc e2
        refine ⟨T, _, rfl, SqT.of upd_same, rfl, _, _, rfl, _, _, rfl, rfl, ?_⟩
        obtain ⟨G, eG⟩ : ∃ G, upd H2 T (.tup [V.int (i : Nat), x2]) = G := ⟨_, rfl⟩
        rw [eG] at hw3 o3
        rw [eG]
        refine ⟨_, rfl, _, rfl, m, _, rfl, .inl (SqL.of hw3), rfl, _, rfl, ?_⟩
        by_cases c2 : i = ws.length
        · refine ifT (decide_eq_true (by rw [c2])) ?_
          refine ⟨_, rfl, .inl ⟨rfl, _, SqL.of hw3⟩, _, rfl, x2, rfl, sx, m, _, _, rfl, rfl, hw3, by omega, ?_⟩
          refine ⟨_, _, ws ++ [x2], rfl, upd_same, by rw [List.length_append]; simp; omega, by rw [List.length_append]; simp; omega, ?_, o3.put⟩
          rw [tk1, ← tk, c2, List.take_of_length_le (by rw [List.length_append]; simp), List.take_of_length_le (Nat.le_refl _)]
        · refine ifF (decide_eq_false (fun e => c2 (by have := V.int.inj e; omega))) ?_
          have fin : ∀ (ty : V → Prop), (tAsg (tCall spCop0 [] E0 (tCons (tVar 3) tNil)) (gSub (tVar 0) (tVar 2) rSetL)) { nx := fun σ' H' => ∃ (v2 v3 : Option V) (ws : List V), σ' = [some (.ref m), some (.ref p), v2, v3] ∧ H' m = some (.lst ws) ∧ i + 1 ≤ ws.length ∧ ws.length ≤ ys.length ∧ ws.take (i + 1) = ys.take (i + 1) ∧ Oth H H' m, rt := Q, bk := fun _ _ => True, ct := fun _ _ => True } [some (.ref m), some (.ref p), some (.int (i : Nat)), some x2] G := fun _ => by
            refine ⟨_, rfl, x2, rfl, sx, _, rfl, _, rfl, m, ws, _, i, rfl, rfl, hw3, ixN_at (by omega), ?_⟩
            refine ⟨_, _, ws.set i x2, rfl, upd_same, by rw [List.length_set]; omega, by rw [List.length_set]; omega, ?_, o3.put⟩
            rw [tk1, ← tk]
            refine List.ext_getElem? fun j => ?_
            by_cases hj : j < i
            · rw [List.getElem?_take_of_lt (by omega), List.getElem?_set_ne (by omega), List.getElem?_append_left (by rw [List.length_take]; omega), List.getElem?_take_of_lt hj]
            · by_cases hj2 : j = i
              · subst hj2
                rw [List.getElem?_take_of_lt (by omega), List.getElem?_set_self (by omega), List.getElem?_append_right (by rw [List.length_take]; omega), List.length_take, Nat.min_eq_left (by omega), Nat.sub_self]
                rfl
              · rw [List.getElem?_eq_none (by rw [List.length_take]; omega), List.getElem?_eq_none (by rw [List.length_append, List.length_take]; simp; omega)]
          cases x2 <;> first | exact Bool.noConfusion sx | skip
          · exact ⟨_, rfl, _, _, _, _, false, rfl, .ty "list", .base (.bl _), kit_ty (by decide +kernel), false, rfl, iteF (iteF (fin fun _ => True))⟩
          · exact ⟨_, rfl, _, _, _, _, false, rfl, .ty "list", .base (.int _), kit_ty (by decide +kernel), false, rfl, iteF (iteF (fin fun _ => True))⟩
      · rintro σ H2 ⟨v2, v3, ws, rfl, hw, i1, i2, tk, o⟩
        rw [List.take_of_length_le (by omega), List.take_of_length_le (Nat.le_refl _)] at tk
        exact k _ o (by rw [← tk]; exact hw)
end
end Fo
namespace Fo
open PySem L2 FO PySem.Spec PyProof.Rows
theorem nn_of {H G : Hp} {q : Addr} (s : Same H G) (n : G q = none) : H q = none := by
  cases e : H q with
  | none => rfl
  | some o => rw [s _ _ e] at n; cases n
theorem oth_same {H G G' : Hp} {p : Addr} (s : Same H G) (n : H p = none) (o : Oth G G' p) : Same H G' := fun b u e => o b u (ne_of_none e n) (s _ _ e)
section
variable {P : Program} {w : World} {K : PySem.W.Frag} {mg : Str → Option Value} {base : Heap} {C CN CM : Addr}
/-! ### _law_anew -/
/-- asked, a new list of xs comes -/
def NewL (H0 H : Hp) (vs : List V) (xs : List V) (sp : Sp) : Prop := ∀ (G : Hp) (Q : VK) (E : XK), Same H0 G → (∀ G' q, Same G G' → G q = none → G' q = some (.lst xs) → Q (.ref q) G') → sp vs G Q E
def spAn (S : Addr → Sp → Prop) : Sp := fun vs H Q _ => ∃ (g : Addr) (sp : Sp) (xs : List V), vs = [.ref g] ∧ S g sp ∧ (∀ x ∈ xs, scI x = true) ∧ xs.length ≤ 1000 ∧ (∀ (G : Hp) (Q : VK) (E : XK), Same H G → (∀ G' q, Same G G' → G q = none → G' q = some (.lst xs) → Q (.ref q) G') → sp [] G Q E) ∧ ∀ G, Same H G → Q (.bl true) G
theorem scAnew : FnScope nLawAnew pLawAnew (defScope sLawAnew) := ⟨rfl, rfl, rfl, by decide +kernel, rfl, by decide +kernel, by decide +kernel⟩
theorem ok_anew {S : Addr → Sp → Prop} (D : Dn K mg "_law_anew" sLawAnew) (B : Bi mg) (A : ∀ f sp, S f sp → Kc P w K mg base (L2.CX P w) 4 f sp) : Kp P w K mg base CX0 5 "_law_anew" (spAn S) := by
  obtain ⟨f, fd, F, hm⟩ := D.ex
  refine ⟨f, fd, pLawAnew, F.ok scAnew (fun vs H Q E h => ?_) (fun cv A' fr s H vs Q E hr h => ?_), hm, F.kp, F.binds fun _ _ _ _ _ _ us hl => match us, hl with | [_], _ => rfl⟩
  · obtain ⟨g, sp, xs, rfl, _⟩ := h
    rfl
  · obtain ⟨g, sp, xs, rfl, hS, hx, hl, hA, k⟩ := h
    refine ⟨_, pss_cons (ps_set (i := 1) scAnew.nd rfl (Or.inl rfl) (pkC0 (i := 0) A takes0 hr (by decide) rfl (Or.inl rfl)))
      (pss_cons (ps_set (i := 2) scAnew.nd rfl (Or.inl rfl) (pe_callTy call_list_of (by rfl) B.list (by decide +kernel) (pa_cons (pv 1) pa_nil)))
      (pss_cons (ps_expr (pe_bm PySem.F.plainAttrs_list PySem.F.slot_list_append PySem.F.type_list_append mt_append (pv 1) (pa_cons pe_int pa_nil)))
      (pss_cons (ps_expr (pe_bm0 PySem.F.plainAttrs_list PySem.F.slot_list_reverse PySem.F.type_list_reverse mt_reverse (pv 1)))
      (pss_one (ps_ret (pe_cmpR (op_eqD hr.units) (pkC0 (i := 0) A takes0 hr (by decide) rfl (Or.inl rfl)) (pv 2) (nomark _))))))), ?_⟩
    have big : (16777216 : Nat) = sizeLine := PySem.sizeLine_eq.symm
    refine ⟨g, sp, rfl, hS, hA H _ _ (Same.refl _) fun G1 q s1 nq hq => ?_⟩
    refine st_setN (fun v => [some (.ref g), some (.ref q), some v]) (fun _ => rfl) (al_copyN (K := K) (al_v rfl (stab_s K _) ⟨q, rfl, SqL.of hq⟩)) fun G2 v2 s2 ⟨b, e, nb, hb⟩ => ?_
    subst e
    have hq2 := s2 _ _ hq
    have bq : b ≠ q := fun e => by rw [e, hq] at nb; cases nb
    refine ⟨_, rfl, .inl ⟨rfl, _, SqL.of hq2⟩, q, _, _, rfl, rfl, hq2, by omega, ?_⟩
    refine ⟨_, rfl, .inl ⟨rfl, _, SqL.of upd_same⟩, q, _, rfl, rfl, upd_same, ?_⟩
    obtain ⟨G3, e3⟩ : ∃ G3, upd (upd G2 q (.lst (xs ++ [V.int 99]))) q (.lst (xs ++ [V.int 99]).reverse) = G3 := ⟨_, rfl⟩
    have o3 : Oth G2 G3 q := by rw [← e3]; exact Oth.put (Oth.put fun _ _ _ e => e)
    have s3 : Same H G3 := oth_same (s1.trans s2) nq o3
    rw [e3]
    have fin : tRet (tOp (rEqD K) (tCallVS 0 S (fun _ _ _ _ => False) tNil) (tVar 2)) { nx := fun _ H' => Q .non H', rt := Q } [some (.ref g), some (.ref q), some (.ref b)] G3 := by
      refine st_ret (al_sameD hx (fun H' Q' s' k' => ⟨g, sp, rfl, hS, hA H' _ _ (s3.trans s') fun G q s _ hq => k' G _ s ⟨q, rfl, hq⟩⟩) (al_v rfl (stab_l _) ⟨b, rfl, o3 _ _ bq hb⟩)) fun G4 v4 s4 h4 => ?_
      rw [show v4 = _ from h4]
      exact k _ (s3.trans s4)
    exact fin
/-! ### _law_door_right -/
def spDo (S : Addr → Sp → Prop) : Sp := fun vs H Q _ => ∃ (f p1 p2 : Addr) (sp : Sp) (xs ys : List V) (R : List V → List V), vs = [.ref f, .ref p1, .ref p2] ∧ S f sp ∧ Stands f H ∧ H p1 = some (.lst xs) ∧ H p2 = some (.lst ys) ∧ (∀ x ∈ xs, scI x = true) ∧ (∀ x ∈ ys, scI x = true) ∧ xs.length ≤ 1000 ∧ ys.length ≤ 1000 ∧ (∀ zs, zs = xs ∨ zs = ys → (∀ x ∈ R zs, scI x = true) ∧ (R zs).length ≤ 1000) ∧
  (∀ (zs : List V) (p : Addr) (G : Hp) (Q : VK), zs = xs ∨ zs = ys → Same H G → G p = some (.lst zs) → (∀ G' q, Same G G' → G q = none → G' q = some (.lst (R zs)) → Q (.ref q) G') → sp [.ref p] G Q E0) ∧ ∀ G, Same H G → Q (.bl true) G
theorem al_cop {H0 : Hp} {σ : L2.St} {a : TE} {xs : List V} (hx : ∀ x ∈ xs, scI x = true) (hl : xs.length ≤ 1000) (h : Al H0 σ a (IsL xs)) : Al H0 σ (tCall spCop [] E0 (tCons a tNil)) (LsN H0 xs) := fun H Q s k => h H _ s fun G v sG ⟨p, e, hp⟩ => ⟨p, xs, by rw [e]; rfl, hp, hx, hl, fun H' q s' nq hq => k H' _ (sG.trans s') ⟨q, rfl, nn_of (s.trans sG) nq, hq⟩⟩
theorem al_lsn {H0 : Hp} {σ : L2.St} {a : TE} {xs : List V} (h : Al H0 σ a (LsN H0 xs)) : Al H0 σ a (IsL xs) := al_weak h fun _ _ ⟨q, e, _, hq⟩ => ⟨q, e, hq⟩
theorem scDoor : FnScope nLawDoorRight pLawDoorRight (defScope sLawDoorRight) := ⟨rfl, rfl, rfl, by decide +kernel, rfl, by decide +kernel, by decide +kernel⟩
theorem ok_door {S : Addr → Sp → Prop} (D : Dn K mg "_law_door_right" sLawDoorRight) (A : ∀ f sp, S f sp → Kt P w K mg base 10 f sp) (Co : Kp P w K mg base CX0 2 "_law_copied" spCop) (Sp' : Kp P w K mg base CX0 1 "_law_spoiled" spSpo) (La : Kp P w K mg base CX0 2 "_law_laid" spLai) : Kp P w K mg base CX0 11 "_law_door_right" (spDo S) := by
  obtain ⟨f0, fd, F, hm⟩ := D.ex
  refine ⟨f0, fd, pLawDoorRight, F.ok scDoor (fun vs H Q E h => ?_) (fun cv A' fr s H vs Q E hr h => ?_), hm, F.kp, F.binds fun _ _ _ _ _ _ us hl => match us, hl with | [_, _, _], _ => rfl⟩
  · obtain ⟨f, p1, p2, sp, xs, ys, R, rfl, _⟩ := h
    rfl
  · obtain ⟨f, p1, p2, sp, xs, ys, R, rfl, hS, st, h1, h2, hx, hy, lx, ly, hR, hA, k⟩ := h
    refine ⟨_, pss_cons (ps_set (i := 3) scDoor.nd rfl (Or.inl rfl) (pk Co hr (by decide) rfl (pa_cons (pv 1) pa_nil)))
      (pss_cons (ps_set (i := 4) scDoor.nd rfl (Or.inl rfl) (pkT (i := 0) A hr (by decide) rfl (Or.inl rfl) (pa_cons (pv 3) pa_nil)))
      (pss_cons (ps_if (pt_cmpR (op_neD hr.units) (pv 3) (pv 1) (nomark _)) (pss_one (ps_ret pe_bl)) pss_nil)
      (pss_cons (ps_set (i := 5) scDoor.nd rfl (Or.inl rfl) (pk Co hr (by decide) rfl (pa_cons (pv 4) pa_nil)))
      (pss_cons (ps_expr (pk Sp' hr (by decide) rfl (pa_cons (pv 4) pa_nil)))
      (pss_cons (ps_if (pt_cmpR (op_neD hr.units) (pkT (i := 0) A hr (by decide) rfl (Or.inl rfl) (pa_cons (pv 3) pa_nil)) (pv 5) (nomark _)) (pss_one (ps_ret pe_bl)) pss_nil)
      (pss_cons (ps_expr (pk La hr (by decide) rfl (pa_cons (pv 3) (pa_cons (pv 2) pa_nil))))
      (pss_cons (ps_if (PW.pt (pw_or (pt_cmpR (op_neD hr.units) (pkT (i := 0) A hr (by decide) rfl (Or.inl rfl) (pa_cons (pv 3) pa_nil)) (pkT (i := 0) A hr (by decide) rfl (Or.inl rfl) (pa_cons (pk Co hr (by decide) rfl (pa_cons (pv 2) pa_nil)) pa_nil)) (nomark _)) (pw_or1 (pt_cmpR (op_neD hr.units) (pv 3) (pv 2) (nomark _))))) (pss_one (ps_ret pe_bl)) pss_nil)
      (pss_cons (ps_expr (pk La hr (by decide) rfl (pa_cons (pv 3) (pa_cons (pv 1) pa_nil))))
      (pss_one (ps_ret (pe_and (pe_cmpR (op_eqD hr.units) (pkT (i := 0) A hr (by decide) rfl (Or.inl rfl) (pa_cons (pv 3) pa_nil)) (pv 5) (nomark _)) (pe_one (pe_cmpR (op_eqD hr.units) (pv 3) (pv 1) (nomark _)))))))))))))), ?_⟩
    have ask : ∀ {H0 : Hp} {σ : L2.St} {a : TE} {zs : List V}, zs = xs ∨ zs = ys → Same H H0 → σ[0]? = some (some (.ref f)) → Al H0 σ a (IsL zs) → Al H0 σ (tCallT 0 S (tCons a tNil)) (LsN H0 (R zs)) := fun {H0 σ a zs} hz s0 e h H' Q' s' k' => ⟨f, sp, e, hS, st.same (s0.trans s'), h H' _ s' fun G v sG ⟨p, ev, hp⟩ => ⟨st.same ((s0.trans s').trans sG), by
      rw [ev]
      exact hA zs p G Q' hz ((s0.trans s').trans sG) hp fun G' q s2 nq hq => k' G' _ (sG.trans s2) ⟨q, rfl, nn_of (s'.trans sG) nq, hq⟩⟩⟩
    have hRx := hR xs (.inl rfl)
    have hRy := hR ys (.inr rfl)
    have lst : ∀ {H0 : Hp} {σ : L2.St} {i : Nat} {p : Addr} {zs : List V}, σ[i]? = some (some (.ref p)) → H0 p = some (.lst zs) → Al H0 σ (tVar i) (IsL zs) := fun e h => al_v e (stab_l _) ⟨_, rfl, h⟩
    refine st_setN (fun v => [some (.ref f), some (.ref p1), some (.ref p2), some v, none, none]) (fun _ => rfl) (al_cop hx lx (lst rfl h1)) fun G1 v1 s1 ⟨m, e, nm, hm1⟩ => ?_
    subst e
    refine st_setN (fun v => [some (.ref f), some (.ref p1), some (.ref p2), some (.ref m), some v, none]) (fun _ => rfl) (ask (.inl rfl) s1 rfl (lst rfl hm1)) fun G2 v2 s2 ⟨q, e, nq, hq2⟩ => ?_
    subst e
    have mq : m ≠ q := ne_of_none hm1 nq
    refine st_no (alt_t (al_diffD hx (lst rfl (s2 _ _ hm1)) (lst rfl ((s1.trans s2) _ _ h1)))) fun G3 s3 => ?_
    refine st_setN (fun v => [some (.ref f), some (.ref p1), some (.ref p2), some (.ref m), some (.ref q), some v]) (fun _ => rfl) (al_cop hRx.1 hRx.2 (lst rfl (s3 _ _ hq2))) fun G4 v4 s4 ⟨b, e, nb, hb4⟩ => ?_
    subst e
    have hq4 := s4 _ _ (s3 _ _ hq2)
    have hm4 := s4 _ _ (s3 _ _ (s2 _ _ hm1))
    have bq : b ≠ q := fun e => by rw [e, s3 _ _ hq2] at nb; cases nb
    have bm : b ≠ m := fun e => by rw [e, s3 _ _ (s2 _ _ hm1)] at nb; cases nb
    have s04 := ((s1.trans s2).trans s3).trans s4
    have nqH : H q = none := nn_of s1 nq
    refine ⟨_, rfl, q, _, rfl, hq4, hRx.1, hRx.2, fun G5 o5 => ?_⟩
    have s05 : Same H G5 := oth_same s04 nqH o5
    have hm5 := o5 _ _ mq hm4
    have hb5 := o5 _ _ bq hb4
    refine st_no (alt_t (al_diffD hRx.1 (al_lsn (ask (.inl rfl) s05 rfl (lst rfl hm5))) (lst rfl hb5))) fun G6 s6 => ?_
    have s06 := s05.trans s6
    have p2m : m ≠ p2 := fun e => by rw [e, h2] at nm; cases nm
    have p1m : m ≠ p1 := fun e => by rw [e, h1] at nm; cases nm
    refine ⟨_, rfl, _, rfl, m, p2, xs, ys, rfl, s6 _ _ hm5, s06 _ _ h2, p2m, hy, lx, ly, fun G7 o7 hm7 => ?_⟩
    have s07 : Same H G7 := oth_same s06 nm o7
    have hb7 := o7 _ _ bm (s6 _ _ hb5)
    refine st_no (alt_orF (alt_t (al_diffD hRy.1 (al_lsn (ask (.inr rfl) s07 rfl (lst rfl hm7))) (al_lsn (ask (.inr rfl) s07 rfl (al_lsn (al_cop hy ly (lst rfl (s07 _ _ h2)))))))) (alt_t (al_diffD hy (lst rfl hm7) (lst rfl (s07 _ _ h2))))) fun G8 s8 => ?_
    have s08 := s07.trans s8
    refine ⟨_, rfl, _, rfl, m, p1, ys, xs, rfl, s8 _ _ hm7, s08 _ _ h1, p1m, hx, ly, lx, fun G9 o9 hm9 => ?_⟩
    have s09 : Same H G9 := oth_same s08 nm o9
    have hb9 := o9 _ _ bm (s8 _ _ hb7)
    refine st_ret (al_andT (al_sameD hRx.1 (al_lsn (ask (.inl rfl) s09 rfl (lst rfl hm9))) (lst rfl hb9)) (al_sameD hx (lst rfl hm9) (lst rfl (s09 _ _ h1)))) fun G10 v10 s10 h10 => ?_
    rw [show v10 = _ from h10]
    exact k _ (s09.trans s10)
end
end Fo
namespace Fo
open PySem L2 FO
/-! ### the end: what the top has written -/
section
variable {K : PySem.W.Frag} {h : Heap} {mg : Str → Option Value}
theorem dn_mk {x : Str} {st : Stmt} {f : Addr} {oc : Value} {od an : Option Addr} {osl : Array (Option Value)} {kV doc pm cdv ct : Value} (X : K.In h) (G : h.Ns mainGlobals mg) (a : PySem.W.nsIn K mainGlobals x = some (some (.ref f)))
    (l : K.lookup f = some ⟨oc, od, .func (PySem.W.fnOf x x (defArgs st) (defBody st) (defScope st) .none kV doc pm an cdv ct), osl⟩)
    (c : PySem.W.codeIn K cdv x = true) (k : PySem.W.keepIn K (.ref f) = true) : Dn K mg x st := ⟨f, _, fun_mk l c k, PySem.W.mg_of X G a⟩
theorem bi_mk (X : K.In h) (G : h.Ns mainGlobals mg)
    (b_isi : PySem.W.nsIn K mainGlobals "isinstance" = some none) 
    (b_int : PySem.W.nsIn K mainGlobals "int" = some none) 
    (b_bool : PySem.W.nsIn K mainGlobals "bool" = some none) 
    (b_str : PySem.W.nsIn K mainGlobals "str" = some none) 
    (b_list : PySem.W.nsIn K mainGlobals "list" = some none) 
    (b_len : PySem.W.nsIn K mainGlobals "len" = some none) 
    (b_all : PySem.W.nsIn K mainGlobals "all" = some none) 
    (b_range : PySem.W.nsIn K mainGlobals "range" = some none) 
    (b_enum : PySem.W.nsIn K mainGlobals "enumerate" = some none) 
    (b_sum : PySem.W.nsIn K mainGlobals "sum" = some none) 
    (b_max : PySem.W.nsIn K mainGlobals "max" = some none) 
    (b_sorted : PySem.W.nsIn K mainGlobals "sorted" = some none) 
    (b_abs : PySem.W.nsIn K mainGlobals "abs" = some none) 
    (b_tuple : PySem.W.nsIn K mainGlobals "tuple" = some none) 
    (b_any : PySem.W.nsIn K mainGlobals "any" = some none) : Bi mg :=
  ⟨PySem.W.mg_none_of X G b_isi, PySem.W.mg_none_of X G b_int, PySem.W.mg_none_of X G b_bool, PySem.W.mg_none_of X G b_str, PySem.W.mg_none_of X G b_list, PySem.W.mg_none_of X G b_len, PySem.W.mg_none_of X G b_all, PySem.W.mg_none_of X G b_range, PySem.W.mg_none_of X G b_enum, PySem.W.mg_none_of X G b_sum, PySem.W.mg_none_of X G b_max, PySem.W.mg_none_of X G b_sorted, PySem.W.mg_none_of X G b_abs, PySem.W.mg_none_of X G b_tuple, PySem.W.mg_none_of X G b_any⟩
theorem er_mk {x : Str} {C : Addr} (X : K.In h) (G : h.Ns mainGlobals mg) (a : PySem.W.nsIn K mainGlobals x = some (some (.ref C))) (x1 : PySem.W.excIn K C [.type "ValueError", .type "Exception", .type "BaseException", .type "object"] "ValueError.__new__" = true)
    (k : PySem.W.keepIn K (.ref C) = true) (b : PySem.W.subIn K (.ref C) (.type "BaseException") = some true) (t : PySem.W.typeIn K (.ref C) = some (.type "type")) : ErC K mg x C := ⟨PySem.W.mg_of X G a, x1, k, b, t⟩
theorem erk_mk3 {O D C1 C2 C3 : Addr} {b1 b2 b3 : Bool} (e1 : PySem.W.findIn K (.ref D) "__getattribute__" = some (some (.builtin "BaseException.__getattribute__"))) (e2 : PySem.W.findIn K (.ref D) "__getattr__" = some none) (e3 : PySem.W.subIn K (.ref D) (.type "BaseException") = some true)
    (e4 : PySem.W.hasDictIn K D = true) (e5 : PySem.W.findIn K (.ref D) "__class__" = some (some (.builtin "object.__class__"))) (e6 : PySem.W.specialIn K (.builtin "object.__class__") "__get__" = some (some (.builtin "getset_descriptor.__get__")))
    (e7 : PySem.W.takesIn K (.builtin "object.__class__") = some true) (e8 : PySem.W.mroIn K D (.type "object") = some true) (o1 : PySem.W.subIn K (.ref O) (.type "BaseException") = some true) (o2 : PySem.W.hasDictIn K O = true) (o3 : PySem.W.typeIn K (.ref O) = some (.type "type")) (o4 : PySem.W.subIn K (.ref D) (.ref O) = some true)
    (i0 : PySem.W.kitOne K (.ref D) (.ref C1) = some b1) (i1 : PySem.W.kitOne K (.ref D) (.ref C2) = some b2) (i2 : PySem.W.kitOne K (.ref D) (.ref C3) = some b3) : ErK K O D [(C1, b1), (C2, b2), (C3, b3)] :=
  ⟨⟨e1, e2, e3, e4, e5, e6, e7, e8⟩, PySem.W.exm_ref o1 o2 o3 o4, fun p hp => by
    simp only [List.mem_cons, List.not_mem_nil, or_false] at hp
    rcases hp with rfl | rfl | rfl
    · exact i0
    · exact i1
    · exact i2⟩
/-- the class Least as the top has written it -/
structure LeD (K : PySem.W.Frag) (mg : Str → Option Value) (C : Addr) : Prop where
  L : LeC K C
  g : mg "Least" = some (.ref C)
  init : ∃ f fd, Mk K C f ∧ Fun K "__init__" "Least.__init__" sInit f fd
  shows : ∃ f fd, Meth K C "shows" f ∧ Fun K "shows" "Least.shows" sShows f fd
theorem le_mk {C f1 f2 : Addr} {od1 an1 od2 an2 : Option Addr} {sl1 sl2 : Array (Option Value)} {oc1 kV1 dc1 pm1 cd1 ct1 oc2 kV2 dc2 pm2 cd2 ct2 : Value} (X : K.In h) (G : h.Ns mainGlobals mg)
    (aC : PySem.W.nsIn K mainGlobals "Least" = some (some (.ref C)))
    (a1 : PySem.W.findIn K (.ref C) "__init__" = some (some (.ref f1))) (i1 : PySem.W.isFn K (.ref f1) = true)
    (l1 : K.lookup f1 = some ⟨oc1, od1, .func (PySem.W.fnOf "__init__" "Least.__init__" (defArgs sInit) (defBody sInit) (defScope sInit) .none kV1 dc1 pm1 an1 cd1 ct1), sl1⟩)
    (c1 : PySem.W.codeIn K cd1 "Least.__init__" = true) (k1 : PySem.W.keepIn K (.ref f1) = true)
    (a2 : PySem.W.findIn K (.ref C) "shows" = some (some (.ref f2))) (i2 : PySem.W.isFn K (.ref f2) = true)
    (l2 : K.lookup f2 = some ⟨oc2, od2, .func (PySem.W.fnOf "shows" "Least.shows" (defArgs sShows) (defBody sShows) (defScope sShows) .none kV2 dc2 pm2 an2 cd2 ct2), sl2⟩)
    (c2 : PySem.W.codeIn K cd2 "Least.shows" = true) (k2 : PySem.W.keepIn K (.ref f2) = true)
    (pg : PySem.W.plainGet K C Str.empty = true) (hd : PySem.W.hasDictIn K C = true) (po : PySem.W.plainOver K C = true) (sa : PySem.W.findIn K (.ref C) "__setattr__" = some (some (.builtin "object.__setattr__")))
    (mk : PySem.W.makesIn K C = true) (kc : PySem.W.keepIn K (.ref C) = true) (nT : PySem.W.findIn K (.ref C) "text" = some none) (nF : PySem.W.findIn K (.ref C) "floor" = some none) : LeD K mg C :=
  ⟨⟨⟨pg, hd, po, sa⟩, nT, nF⟩, PySem.W.mg_of X G aC, ⟨f1, _, ⟨mk, a1, i1, kc⟩, fun_mk l1 c1 k1⟩, ⟨f2, _, ⟨a2, i2, k2⟩, fun_mk l2 c2 k2⟩⟩
theorem mak_of {P : Program} {w : World} {base : Heap} {C : Addr} (D : LeD K mg C) (B : Bi mg) : C8.Mak P w K mg base 1 "Least" C (spInit K C) [] := by
  obtain ⟨f, fd, M, F'⟩ := D.init
  exact ⟨f, fd, _, [], M, fn_init F' D.L B, D.g, F'.binds fun _ _ _ _ _ _ us hl => match us, hl with | [_, _, _], _ => rfl, .nil⟩
theorem met_of {P : Program} {w : World} {base : Heap} {C : Addr} (D : LeD K mg C) (B : Bi mg) (W : Kp P w K mg base CX0 3 "worth_of" (spWorthOf K)) (Fl : Kp P w K mg base CX0 2 "is_floor" (spIsFloor K)) : C8.Met P w K mg base 4 C "shows" (spShows K C) [] := by
  obtain ⟨f, fd, M, F'⟩ := D.shows
  exact ⟨f, fd, _, [], D.L.cl, M, fn_shows F' D.L B W Fl, F'.binds fun _ _ _ _ _ _ us hl => match us, hl with | [_, _], _ => rfl, .nil⟩
theorem bits_lt {z : Int} {n : Nat} (h : PySem.Builtin.Int.intBits z ≤ n) : z.natAbs < 2 ^ n := by
  unfold PySem.Builtin.Int.intBits at h
  by_cases e : z = 0
  · subst e
    exact Nat.pow_pos (by decide)
  · have e' : (z == 0) = false := by simpa using e
    rw [e'] at h
    exact Nat.lt_of_lt_of_le (Nat.lt_log2_self) (Nat.pow_le_pow_right (by decide) h)
/-- the law's def, and how it is called -/
theorem law_end {l : PySem.W.OpenLaw} {w : World} {fa : Addr} {x : Str} {st : Stmt} {k : Nat} {sp : Sp} (D : Dn K mg "law" st) (hfa : mg "law" = some (.ref fa))
    (hb : ∀ (kV doc pm : Value) (an : Option Addr) (cdv ct v : Value), bindArgs (PySem.W.fnOf "law" "law" (defArgs st) (defBody st) (defScope st) .none kV doc pm an cdv ct) ⟨[v], []⟩ = pure [(x, v)])
    (hF : ∀ (base : Heap) (f : Addr) (fd : FuncData), Fun K "law" "law" st f fd → FnOk l.prog w K mg base CX0 k f fd [x] sp) :
    ∃ fd : FuncData, (∀ (s : Shared) (v : Value), BindsTo s fd ⟨[v], []⟩ [(x, v)]) ∧ ∀ base : Heap, K.In base → base.Ns mainGlobals mg → FnOk l.prog w K mg base CX0 k fa fd [x] sp := by
  obtain ⟨f, fd, F, hm⟩ := D.ex
  have e := hfa.symm.trans hm
  cases e
  refine ⟨fd, fun s v => ?_, fun base _ _ => hF base _ fd F⟩
  obtain ⟨oc, od, kV, doc, pm, an, cdv, ct, osl, rfl, lk, hcd⟩ := F.ex
  exact .of_eq (hb kV doc pm an cdv ct v)
end
end Fo
namespace Fo
open PySem L2 FO PySem.Spec PyProof.Rows
/-- the tables of the defs xs are empty at the head's heap -/
def TabsOf (K : PySem.W.Frag) (xs : List Str) (h : Heap) : Prop := ∀ x ∈ xs, ∀ c P, PySem.W.tabIn K x = some (c, P) → PySem.W.CodeHd h c P ∧ h.get? P = some { cls := .none, data := .fields #[] }
theorem walk_ofTab {l : PySem.W.OpenLaw} {n k : Nat} {q : Program} {loose : List Str} {XP : (Str → Option Value) → Heap → Prop} {YP : World → Heap → Prop} {d : DefRec} {K : Params → PySem.W.Frag} {CX : World → CXT} {x : Str} {xs : List Str}
    (hn : l.most = some n) (hn2 : n ≤ sizeLine) (hdf : d.params.defaults = []) (hr : Room k callerA) (hY : ∀ (w : World) (h : Heap), YP w h → (K w.params).In h) (hrec : (xs.all fun x => ((recsOf q).find? fun e => e.name == x).isSome) = true)
    (F : ∀ (w : World) (mg : Str → Option Value) (fa : Addr) (h : Heap), (K w.params).In h → h.Ns mainGlobals mg → mg d.name = some (.ref fa) → TabsOf (K w.params) xs h → LamX.LawAtS l w (K w.params) (CX w) k n x mg fa h)
    (hCX : ∀ (w : World) (H : Hp) (s : Shared) (e : Value) (s' : Shared), CX w [] H s (fun _ _ _ => False) e s' → False) :
    PySem.W.WalkO q loose XP YP l.row.toRowW d [] (fun f vs => PySem.call f vs) := by
  refine Att.attach_callB hn hdf fun w s0 s1 mg mb fa o pm cd doc a vs ns Gd Yd _ _ _ hmg hob hin hle hbi hge => ?_
  have KX := hY w _ Yd
  have tb : TabsOf (K w.params) xs s1.heap := fun y hy c P ht => by
    obtain ⟨d', hd'⟩ := Option.isSome_iff_exists.mp (List.all_eq_true.mp hrec y hy)
    exact PySem.W.tab_of Gd.T KX hd' ht
  obtain ⟨fd, cs, sp, hT, nT, hC, hb, hsp, hF⟩ := F w mg fa _ KX Gd.T.g hmg tb
  exact LamX.law_callTs KX Gd.T.g Gd.T.b Gd.T.builtins Gd.T.nolimit hge hT nT hC Gd.T.bmain hob hin (Nat.le_trans hle hn2) hr hF hb (fun H hH hS => hsp H a ns hle hbi hH hS) fun H e s' => hCX w H s1 e s'
section
variable {K : PySem.W.Frag} {mg : Str → Option Value} {h : Heap}
theorem dnc_mk {x : Str} {st : Stmt} {f c : Addr} {oc : Value} {od an : Option Addr} {osl : Array (Option Value)} {kV doc pm ct : Value} (X : K.In h) (G : h.Ns mainGlobals mg) (a : PySem.W.nsIn K mainGlobals x = some (some (.ref f)))
    (l : K.lookup f = some ⟨oc, od, .func (PySem.W.fnOf x x (defArgs st) (defBody st) (defScope st) .none kV doc pm an (.ref c) ct), osl⟩) (k1 : PySem.W.codeIn K (.ref c) x = true) (k2 : PySem.W.keepIn K (.ref f) = true) : DnC K mg x st c :=
  ⟨f, oc, od, kV, doc, pm, an, ct, osl, l, k1, k2, PySem.W.mg_of X G a⟩
/-- a law's promise, with tables -/
def spLawT (K : PySem.W.Frag) (T : List (Addr × Str)) : Sp := fun vs H Q _ => ∃ (a : Addr) (ns : List Int), vs = [.ref a] ∧ SqL K H a (ns.map V.int) ∧ ns.length ≤ 63 ∧ (∀ n ∈ ns, n.natAbs < 2 ^ 1048576) ∧ LamX.Tabs T H ∧ ∀ H', Q (.bl true) H'
theorem law_tab {l : PySem.W.OpenLaw} {w : World} {fa : Addr} {x : Str} {st : Stmt} {k : Nat} {T : List (Addr × Str)} {cs : List (Addr × Addr)} (D : Dn K mg "law" st) (hfa : mg "law" = some (.ref fa))
    (hb : ∀ (kV doc pm : Value) (an : Option Addr) (cdv ct v : Value), bindArgs (PySem.W.fnOf "law" "law" (defArgs st) (defBody st) (defScope st) .none kV doc pm an cdv ct) ⟨[v], []⟩ = pure [(x, v)])
    (hT : ∀ p ∈ cs, PySem.W.CodeHd h p.1 p.2 ∧ h.get? p.2 = some { cls := .none, data := .fields #[] }) (nT : ∀ p ∈ cs, K.lookup p.2 = none) (hcs : ∀ p ∈ T, ∃ c, (c, p.1) ∈ cs)
    (hF : ∀ (base : Heap) (f : Addr) (fd : FuncData), (∀ p ∈ cs, LamX.TabB base mg p.1 p.2) → Fun K "law" "law" st f fd → FnOk l.prog w K mg base CX0 k f fd [x] (spLawT K T)) :
    LamX.LawAtS l w K CX0 k 63 x mg fa h := by
  obtain ⟨f, fd, F, hm⟩ := D.ex
  have e := hfa.symm.trans hm
  cases e
  refine ⟨fd, cs, spLawT K T, fun p hp => (hT p hp).2, nT, fun p hp => (hT p hp).1, fun s v => ?_, fun H a ns hl hbt hH hS => ⟨a, ns, rfl, hS, hl, fun n hn => bits_lt (hbt n hn), fun p hp => ?_, fun _ => rfl⟩, fun base _ _ tb => hF base _ fd tb F⟩
  · obtain ⟨oc, od, kV, doc, pm, an, cdv, ct, osl, rfl, lk, hcd⟩ := F.ex
    exact .of_eq (hb kV doc pm an cdv ct v)
  · obtain ⟨c, hc⟩ := hcs p hp
    exact LamX.TabS.nil (hH _ hc)
end
end Fo
namespace Fo
open PySem L2 FO LamX PySem.Spec PyProof.Rows
section
variable {X : Cx} {c P : Addr} {T : List (Addr × Str)} {j : Nat} {p pos lpos : Pos} {params : Arguments} {body : Expr} {scope : Scope} {t : XK → TE} {te : TE}
theorem pe_an9 (D : Dn X.K X.mg "_law_anew" sLawAnew) (B : Bi X.mg) (TB : LamX.TabB X.base X.mg c P) (hm : (P, X.env.qual ++ "<lambda>") ∈ T) (hu : ∀ z ∈ T, z.1 = P → z.2 = X.env.qual ++ "<lambda>") (hr : Room j X.A) (hk : 5 ≤ j) (hg : Gl X "_law_anew") (hcode : X.env.code = .ref c) (hdef : defaultsOf params X.env = ([], [])) (hfn : ∀ y, X.fn y = true) (L : lamPB X.env.scope scope X.N [] = true)
    (hbind : ∀ (q : Str) (cl : List (Str × Addr)) (pm cv ctv : Value), bindArgs (PySem.W.kla_fn "<lambda>" q params body scope cl pm cv ctv) ⟨[], []⟩ = pure [])
    (hbody : ∀ (B : Heap) (A : Around) (outer : List Env) (s : Shared) (H : Hp) (E : XK) (f c' : Addr), Room 3 (A.deeper (LamX.lamEnv X scope s.heap.objs.size f c')) → PE (lamCy X B [] A outer s H E scope f c') body (t E)) :
    PE X (.Call (.Name "_law_anew" p) [.Lambda params body scope lpos] [] pos) (tCallLam T (X.env.qual ++ "<lambda>") (fun σ f c' => spAn (fun g s => g = f ∧ s = spLam (X.env.qual ++ "<lambda>") σ c' 0 t)) tNil) :=
  pe_callLam D.at hg TB hcode hm hu hdef (lamP_by L) hfn hr hk pa_nil fun σ B' f c' pm ctv md C hf => ok_anew D B fun g s ⟨e1, e2⟩ => by
    subst e1 e2
    exact ⟨_, [], fn_lam C (lamP_by L) hf fun A outer s H E hr => hbody B' A outer s H E g c' hr, .all fun us hl => match us, hl with | [], _ => hbind _ _ _ _ _, _, _, _, hf⟩
/-- f is one of the def's kept lambdas, sp its promise -/
def S9 (X : Cx) (σ : L2.St) : Addr → Sp → Prop := fun f sp => ∃ (params : Arguments) (body : Expr) (scope : Scope) (pm : Value) (c' : Addr) (ctv : Value) (t : TE), sp = spLamT (X.env.qual ++ "<lambda>") σ f c' (lamO X params body scope pm c' ctv) 1 (fun _ => t) ∧ lamPB X.env.scope scope X.N ["_law_it"] = true ∧
  (∀ (q : Str) (cl : List (Str × Addr)) (pm cv ctv u : Value), bindArgs (PySem.W.kla_fn "<lambda>" q params body scope cl pm cv ctv) ⟨[u], []⟩ = pure [(("_law_it" : Str), u)]) ∧
  ∀ (B : Heap) (A : Around) (outer : List Env) (s : Shared) (H : Hp) (E : XK) (f c' : Addr), Room 9 (A.deeper (LamX.lamEnv X scope s.heap.objs.size f c')) → PE (lamCy X B ["_law_it"] A outer s H E scope f c') body t
theorem kt9 {σ : L2.St} {B : Heap} {f : Addr} {sp : Sp} (C : CellsOk X σ B) (h : S9 X σ f sp) : Kt X.prog X.w X.K X.mg B 10 f sp := by
  obtain ⟨params, body, scope, pm, c', ctv, t, rfl, L, hb, hbody⟩ := h
  exact ⟨_, ["_law_it"], fn_lamT C (lamP_by L) fun A outer s H E hr => hbody B A outer s H E f c' hr, .all fun us hl => match us, hl with | [u], _ => hb _ _ _ _ _ u⟩
def tLamG (S : L2.St → Addr → Sp → Prop) (T : List (Addr × Str)) (q : Str) (t : TE) : TE := fun _ H Q => Tabs T H ∧ ∀ (f c' : Addr) (o : Obj) (G : Hp), ExtN H G → Tabs T G → H f = none → G f = some (LamO f o) → (∃ fd, o.data = .func fd) → G c' = some (CodeO c' q) → (∀ σ', S σ' f (spLamT q σ' f c' o 1 (fun _ => t))) → Q (.ref f) G
theorem pe_lamG (TB : LamX.TabB X.base X.mg c P) (hcode : X.env.code = .ref c) (hm : (P, X.env.qual ++ "<lambda>") ∈ T) (hu : ∀ z ∈ T, z.1 = P → z.2 = X.env.qual ++ "<lambda>") (hdef : defaultsOf params X.env = ([], [])) (L : lamPB X.env.scope scope X.N ["_law_it"] = true)
    (hbind : ∀ (q : Str) (cl : List (Str × Addr)) (pm cv ctv u : Value), bindArgs (PySem.W.kla_fn "<lambda>" q params body scope cl pm cv ctv) ⟨[u], []⟩ = pure [(("_law_it" : Str), u)])
    (hbody : ∀ (B : Heap) (A : Around) (outer : List Env) (s : Shared) (H : Hp) (E : XK) (f c' : Addr), Room 9 (A.deeper (LamX.lamEnv X scope s.heap.objs.size f c')) → PE (lamCy X B ["_law_it"] A outer s H E scope f c') body te) :
    PE X (.Lambda params body scope pos) (tLamG (S9 X) T (X.env.qual ++ "<lambda>") te) :=
  ⟨fun pins s σ H Q I h => (pe_lamV TB hcode hm hu hdef (lamP_by L)).run pins s σ H Q I ⟨h.1, fun f c' pm ctv G eN T' nf gf gc => h.2 f c' _ G eN T' nf gf ⟨_, rfl⟩ gc fun σ' => ⟨params, body, scope, pm, c', ctv, te, rfl, L, hbind, hbody⟩⟩⟩
theorem pe_do9 {e : Expr} {es : List Expr} {ta : TA} {qs : List (Addr × Obj)} {σ : L2.St} {H3 : Hp} {s3 : Shared} {fp : List Addr} (I3 : Inv X qs σ H3 s3) (hf : ∀ b ∈ fp, FpOk X qs H3 b) (hfn : ∀ y, X.fn y = true) (D : Dn X.K X.mg "_law_door_right" sLawDoorRight)
    (Co : ∀ B, Kp X.prog X.w X.K X.mg B CX0 2 "_law_copied" spCop) (Sp' : ∀ B, Kp X.prog X.w X.K X.mg B CX0 1 "_law_spoiled" spSpo) (La : ∀ B, Kp X.prog X.w X.K X.mg B CX0 2 "_law_laid" spLai) (hr : Room j X.A) (hk : 11 ≤ j) (hg : Gl (blkP X s3 H3 scope (ceOf X s3 scope) fp) "_law_door_right") (ha : PA (blkP X s3 H3 scope (ceOf X s3 scope) fp) (e :: es) ta)
    (he : starEach (e :: es) (blkP X s3 H3 scope (ceOf X s3 scope) fp).env = (false, eval e (blkP X s3 H3 scope (ceOf X s3 scope) fp).env) :: starEach es (blkP X s3 H3 scope (ceOf X s3 scope) fp).env := by rfl) (hpl : (backTo pos (starEach es (blkP X s3 H3 scope (ceOf X s3 scope) fp).env)).any (·.1) = false := by rfl) :
    PE (blkP X s3 H3 scope (ceOf X s3 scope) fp) (.Call (.Name "_law_door_right" p) (e :: es) [] pos) (fun σ' H Q => ta σ' H fun vs H1 => spDo (S9 X σ) vs H1 Q E0) :=
  pe_callB9 (sp := fun σ => spDo (S9 X σ)) I3 hf hfn D.at (fun B _ C9 => ok_door D (fun f sp h => kt9 C9 h) (Co B) (Sp' B) (La B)) hr hk hg ha (by decide) he hpl
end
theorem al_lsnew {H0 : Hp} {σ : L2.St} {ta : TA} {xs : List V} (h : AlL H0 σ ta (VsV xs)) (hn : xs.length ≤ sizeLine) : Al H0 σ (tLst ta) (LsN H0 xs) := fun H Q s k => h H _ s fun G vs sG hv => by
  rw [show vs = xs from hv]
  exact ⟨hn, fun p np => k _ _ (sm_new sG np) ⟨p, rfl, (s.trans sG).free np, upd_same⟩⟩
theorem al_dS {K : PySem.W.Frag} {H0 : Hp} {σ : L2.St} {a : TE} {xs : List V} (h : Al H0 σ a (IsS K xs)) (hs : xs.all scB = true) : Al H0 σ a (IsD K (.list (xs.map scD))) := al_weak h fun H v ⟨p, e, hp⟩ => by
  subst e
  exact .lst hp (dp_scs hs)
theorem al_iff {H0 : Hp} {σ : L2.St} {tt : TT} {a b : TE} {r : Bool} {Φ : Hp → V → Prop} (h : AlT H0 σ tt r) (ha : r = true → Al H0 σ a Φ) (hb : r = false → Al H0 σ b Φ) : Al H0 σ (tIf tt a b) Φ := fun H Q s k => h H _ s fun G sG => by
  cases r with
  | true => exact iteT (ha rfl G _ (s.trans sG) fun G2 v s2 hv => k G2 v (sG.trans s2) hv)
  | false => exact iteF (hb rfl G _ (s.trans sG) fun G2 v s2 hv => k G2 v (sG.trans s2) hv)
theorem tabs_put {T : List (Addr × Str)} {H : Hp} {l : Addr} {xs ys : List V} (hT : Tabs T H) (hl : H l = some (.lst xs)) : Tabs T (upd H l (.lst ys)) := fun z hz => by
  obtain ⟨tb, a1, a2, a3⟩ := hT z hz
  refine ⟨tb, by rw [upd_ne (ne_of a1 hl (by intro z; cases z))]; exact a1, a2, fun p cv h => ?_⟩
  obtain ⟨c0, b1, b2⟩ := a3 p cv h
  exact ⟨c0, b1, by rw [upd_ne (ne_of b2 hl (by intro z; unfold CodeO at z; cases z))]; exact b2⟩
theorem nt_l {xs : List V} : ∀ ps, HO.lst xs ≠ .tbl ps := fun _ z => by cases z
theorem nt_t {xs : List V} : ∀ ps, HO.tup xs ≠ .tbl ps := fun _ z => by cases z
theorem nt_i {C dx : Addr} {fs : List (Str × V)} : ∀ ps, HO.ins C dx fs ≠ .tbl ps := fun _ z => by cases z
theorem lamO_nl {f : Addr} {o : Obj} {xs : List V} : LamO f o ≠ .lst xs := fun z => by
  unfold LamO at z
  cases z
theorem codeO_nl {f : Addr} {q : Str} {xs : List V} : CodeO f q ≠ .lst xs := fun z => by
  unfold CodeO at z
  cases z
theorem keep_l {H : Hp} {b l : Addr} {o : HO} {xs ys : List V} (h : H b = some o) (hl : H l = some (.lst xs)) (n : o ≠ .lst xs) : upd H l (.lst ys) b = some o := by
  rw [upd_ne (ne_of h hl n)]
  exact h
def toI : V → Int
  | .int i => i
  | _ => 0
theorem toI_map (ns : List Int) : (ns.map V.int).map toI = ns := by
  rw [List.map_map]
  exact List.map_id ns
theorem awl_len : ∀ {y : Nat}, y ≤ 9 → (awl y).length ≤ 1000 := fun {y} h => of_decide_eq_true (List.all_eq_true.mp (show ((List.range 10).all fun y => decide ((awl y).length ≤ 1000)) = true by decide +kernel) y (List.mem_range.mpr (by omega)))
def qL : Str := "law.<locals>.<lambda>"
theorem hqL : ("law" : Str) ++ ".<locals>." ++ "<lambda>" = qL := by decide +kernel
abbrev tF9 (K : PySem.W.Frag) (C : Addr) : TE := tFld K (tMake C (spInit K C) [] E0 (tCons (tVar 8) (tCons (tVar 0) tNil))) "floor"
abbrev tS9 (K : PySem.W.Frag) (C CN : Addr) : TE := tLst (tCons (tMeth C "shows" (spShows K C) [] E0 (tMake C (spInit K C) [] E0 (tCons (tVar 8) (tCons (tVar 0) tNil))) (tCons (tVar 7) tNil)) (tCons (tCall (spFewest K CN) [] E0 (tCons (tVar 7) tNil)) tNil))
abbrev TL (P1 : Addr) : List (Addr × Str) := [(P1, qL)]
section
variable {P : Program} {w : World} {K : PySem.W.Frag} {mg : Str → Option Value} {base : Heap} {C CN CM c1 P1 : Addr}
theorem scLaw : FnScope nLaw pLaw (defScope sLaw) := ⟨rfl, rfl, rfl, by decide +kernel, rfl, by decide +kernel, by decide +kernel⟩
theorem law9 (TB : LamX.TabB base mg c1 P1) (B : Bi mg) (L : LeC K C) (An : Dn K mg "_law_anew" sLawAnew) (Do : Dn K mg "_law_door_right" sLawDoorRight) (Co : ∀ B, Kp P w K mg B CX0 2 "_law_copied" spCop) (Sp' : ∀ B, Kp P w K mg B CX0 1 "_law_spoiled" spSpo) (La : ∀ B, Kp P w K mg B CX0 2 "_law_laid" spLai)
    (Aw : ∀ base, Kp P w K mg base (L2.CX P w) 3 "all_with" (spAllWith K CM)) (Fe : ∀ base, Kp P w K mg base (L2.CX P w) 3 "fewest" (spFewest K CN)) (Le : Kp P w K mg base (L2.CX P w) 203 "least" (spLeast K CN C)) (M : ∀ base, C8.Mak P w K mg base 1 "Least" C (spInit K C) []) (Sh' : ∀ base, C8.Met P w K mg base 4 C "shows" (spShows K C) [])
    (f : Addr) (A : Around) (outer : List Env) (s : Shared) (H : Hp) (vs : List V) (Q : VK) (E : XK) (hr : Room 203 (A.deeper (envOfC "law" (defScope sLaw) s.heap.objs.size f (.ref c1)))) (h : spLawT K (TL P1) vs H Q E) :
    ∃ t, PSs (cxOf CX0 P w K mg base nLaw "law" (defScope sLaw) f (.ref c1) A outer s H E).nox (defBody sLaw) t ∧ t { nx := fun _ H' => Q .non H', rt := Q } (start nLaw vs) H := by
  have Sh := Sh' base
  have hmT : (P1, ("law" : Str) ++ ".<locals>." ++ "<lambda>") ∈ TL P1 := by rw [hqL]; exact List.mem_cons_self
  have huT : ∀ z ∈ TL P1, z.1 = P1 → z.2 = ("law" : Str) ++ ".<locals>." ++ "<lambda>" := fun z hz e => by
    rw [List.mem_singleton] at hz
    subst hz
    exact hqL.symm
  obtain ⟨a, ns, rfl, hS, hlen, hbits, hT, k⟩ := h
  refine ⟨_, (pss_cons (ps_set (i := 1) scLaw.nd rfl (Or.inl rfl) (pe_ifExp (pt_cmpR (op_neD hr.units) (pv 0) (pe_lst pa_nil) (nomark _)) (pe_slice sl_list (pv 0) po_none (po_some pe_int)) (pe_lst (pa_cons pe_int pa_nil))))
  (pss_cons (ps_set (i := 2) scLaw.nd rfl (Or.inl rfl) (pe_callB call_abs (by rfl) B.abs (by decide +kernel) (pa_cons (pe_callB (cr_sum rfl) (by rfl) B.sum (by decide +kernel) (pa_cons (pv 1) pa_nil)) pa_nil)))
  (pss_cons (ps_set (i := 3) scLaw.nd rfl (Or.inl rfl) (pe_lst pa_nil))
  (pss_cons (ps_asg (pe_tup (pa_cons (pe_op op_add pe_int (pe_op op_mod (pv 2) pe_int)) (pa_cons (pe_op op_add pe_int (pe_op op_mod (pv 2) pe_int)) pa_nil))) (pg_tup rfl (pgs_cons (pg_name (i := 6) scLaw.nd rfl (Or.inr rfl)) (pgs_cons (pg_name (i := 5) scLaw.nd rfl (Or.inr rfl)) pgs_nil))))
  (pss_cons (ps_if (pt_not (pt_val (pe_an9 (T := TL P1) An B TB hmT huT hr (by decide) rfl rfl rfl (fun _ => rfl) (by show lamPB (defScope sLaw) _ nLaw [] = true; decide +kernel) (fun _ _ _ _ _ => rfl) (fun B' A' outer' s' H' E' f' c' hr' => by exact (pkL (Aw B') hr' (by decide) rfl (pa_cons (pv 5) pa_nil)))))) (pss_one (ps_ret pe_bl)) pss_nil)
  (pss_cons (ps_expr (pe_bm PySem.F.plainAttrs_list PySem.F.slot_list_append PySem.F.type_list_append mt_append (pe_fld (pkL Le hr (by decide) rfl (pa_cons (pv 6) pa_nil)) rfl) (pa_cons pe_int pa_nil)))
  (pss_cons (ps_if (pt_cmpR op_notBl (C8.pe_mt Sh hr (by decide) (pkL Le hr (by decide) rfl (pa_cons (pv 6) pa_nil)) (pa_cons (pv 6) pa_nil)) pe_bl (nomark _)) (pss_one (ps_ret pe_bl)) pss_nil)
  (pss_cons (ps_set (i := 4) scLaw.nd rfl (Or.inl rfl) (pkL Le hr (by decide) rfl (pa_cons (pv 6) pa_nil)))
  (pss_cons (ps_set (i := 7) scLaw.nd rfl (Or.inr rfl) (pe_fld (pv 4) rfl))
  (pss_cons (ps_expr (pe_bm PySem.F.plainAttrs_list PySem.F.slot_list_append PySem.F.type_list_append mt_append (pv 3) (pa_cons (pe_tup (pa_cons (pe_lamG (T := TL P1) (te := tS9 K C CN) TB rfl hmT huT rfl (by show lamPB (defScope sLaw) _ nLaw ["_law_it"] = true; decide +kernel) (fun _ _ _ _ _ _ => rfl) (fun B' A' outer' s' H' E' f' c' hr' => by exact (pe_lst (pa_cons (C8.pe_mt (Sh' B') hr' (by decide) (C8.pe_mk (M B') hr' (by decide) rfl (pa_cons (pv 8) (pa_cons (pv 0) pa_nil))) (pa_cons (pv 7) pa_nil)) (pa_cons (pkL (Fe B') hr' (by decide) rfl (pa_cons (pv 7) pa_nil)) pa_nil))))) (pa_cons (pe_fld (pv 4) rfl) (pa_cons (pe_revL (pe_fld (pv 4) rfl)) pa_nil)))) pa_nil)))
  (pss_cons (ps_expr (pe_bm PySem.F.plainAttrs_list PySem.F.slot_list_append PySem.F.type_list_append mt_append (pv 3) (pa_cons (pe_tup (pa_cons (pe_lamG (T := TL P1) (te := tF9 K C) TB rfl hmT huT rfl (by show lamPB (defScope sLaw) _ nLaw ["_law_it"] = true; decide +kernel) (fun _ _ _ _ _ _ => rfl) (fun B' A' outer' s' H' E' f' c' hr' => by exact (pe_fld (C8.pe_mk (M B') hr' (by decide) rfl (pa_cons (pv 8) (pa_cons (pv 0) pa_nil))) rfl))) (pa_cons (pe_fld (pv 4) rfl) (pa_cons (pe_lst (pa_cons pe_int (pa_cons pe_int (pa_cons pe_int pa_nil)))) pa_nil)))) pa_nil)))
  (pss_one (ps_ret (pe_callB (cr_all rfl) (by rfl) B.all (by decide +kernel) (pa_cons (pe_lcG (Gd := fun Y => Y.calm = true) (own := [("_law_ask", 8), ("_law_one", 9), ("_law_other", 10)]) (g := gTup K 3 (gCons (gName 8) (gCons (gName 9) (gCons (gName 10) gNil)))) (tt := tYes) scLaw.nd (iter_calm (pi_list (pv 3))) (blkOk_by (own := [("_law_ask", 8), ("_law_one", 9), ("_law_other", 10)]) (N := nLaw) (sc := defScope sLaw) (by decide +kernel)) (fun _ _ _ _ => rfl) (fun _ _ _ => pg_tup rfl (pgs_cons (pg_name (i := 8) scLaw.nd rfl (Or.inl rfl)) (pgs_cons (pg_name (i := 9) scLaw.nd rfl (Or.inl rfl)) (pgs_cons (pg_name (i := 10) scLaw.nd rfl (Or.inl rfl)) pgs_nil)))) (fun _ _ _ => pts_nil) (fun ps σ s3 H3 fp I3 hf => pe_do9 I3 hf (fun _ => rfl) Do Co Sp' La hr (by decide) rfl (pa_cons (pv 8) (pa_cons (pv 9) (pa_cons (pv 10) pa_nil))))) pa_nil))))))))))))))), ?_⟩
  have big : (16777216 : Nat) = sizeLine := PySem.sizeLine_eq.symm
  obtain ⟨ms, hms⟩ : ∃ ms : List Int, (if ns = [] then [5] else ns.take 63) = ms := ⟨_, rfl⟩
  have scr : Al H [some (.ref a), none, none, none, none, none, none, none, none, none, none] (tVar 0) (IsS K (ns.map V.int)) := al_v rfl (stab_s K _) ⟨a, rfl, hS⟩
  refine st_setN (fun v => [some (.ref a), some v, none, none, none, none, none, none, none, none, none]) (fun _ => rfl) (Φ := IsL (ms.map V.int)) (al_iff (r := decide (ns ≠ [])) (alt_t (al_neD (al_dS scr (scI_all (scI_ints ns))) (al_dl (xs := []) (al_xlst al_xnil (by decide)) rfl) (shapedI (scI_ints ns)) (shapedI (fun x h => by cases h)) ?_)) (fun e => ?_) (fun e => ?_)) fun G1 v1 s1 ⟨cl, e1, hcl⟩ => ?_
  · cases ns with
    | nil => rfl
    | cons n ns => rfl
  · rw [← hms, if_neg (of_decide_eq_true e)]
    exact al_cut scr (al_ci _)
  · have e0 : ns = [] := Decidable.of_not_not (of_decide_eq_false e)
    rw [← hms, if_pos e0]
    exact al_xlst (al_xcons (al_ci _) al_xnil) (by decide)
  subst e1
  refine st_setN (fun v => [some (.ref a), some (.ref cl), some v, none, none, none, none, none, none, none, none]) (fun _ => rfl) (al_is (al_abs (al_sum (al_v rfl (stab_l _) ⟨cl, rfl, hcl⟩))) (congrArg V.int (abs_nat _))) fun G2 v2 s2 h2 => ?_
  rw [show v2 = _ from h2]
  obtain ⟨m, hm⟩ : ∃ m, ms.sum.natAbs = m := ⟨_, rfl⟩
  rw [hm]
  refine st_setN (fun v => [some (.ref a), some (.ref cl), some (.int (m : Nat)), some v, none, none, none, none, none, none, none]) (fun _ => rfl) (al_xlst al_xnil (by decide)) fun G3 v3 s3 ⟨la, e3, hla3⟩ => ?_
  subst e3
  have a1 := Nat.mod_lt m (show 0 < 200 by decide)
  have a2 := Nat.mod_lt m (show 0 < 9 by decide)
  refine (al_addN (n := 1) (al_ci _) (al_modN (k := 200) (al_vi rfl) (al_ci _) (by decide))) G3 _ (Same.refl _) fun G4 v4 s4 h4 => ?_
  refine (al_addN (n := 1) (al_ci _) (al_modN (k := 9) (al_vi rfl) (al_ci _) (by decide))) G4 _ (Same.refl _) fun G5 v5 s5 h5 => ⟨(show 2 ≤ sizeLine by decide), fun T5 nT5 => ?_⟩
  rw [show v4 = _ from h4, show v5 = _ from h5]
  obtain ⟨n, hn⟩ : ∃ n, 1 + m % 200 = n := ⟨_, rfl⟩
  obtain ⟨y, hy⟩ : ∃ y, 1 + m % 9 = y := ⟨_, rfl⟩
  rw [hn, hy]
  have n1 : 1 ≤ n := by omega
  have n2 : n ≤ 200 := by omega
  refine ⟨T5, _, rfl, SqT.of upd_same, rfl, _, _, rfl, _, _, rfl, rfl, ?_⟩
  obtain ⟨G6, e6, s6, _⟩ := ab nT5 (.tup [V.int (n : Nat), V.int (y : Nat)])
  rw [e6]
  have s36 := (s4.trans s5).trans s6
  have T6 : Tabs (TL P1) G6 := hT.ext (((s1.trans s2).trans s3).trans s36)
  obtain ⟨σ6, eσ6⟩ : ∃ σ6 : L2.St, [some (V.ref a), some (V.ref cl), some (V.int (m : Nat)), some (V.ref la), none, some (V.int (y : Nat)), some (V.int (n : Nat)), none, none, none, none] = σ6 := ⟨_, rfl⟩
  change tSeq _ _ _ [some (V.ref a), some (V.ref cl), some (V.int (m : Nat)), some (V.ref la), none, some (V.int (y : Nat)), some (V.int (n : Nat)), none, none, none, none] _
  refine ⟨T6, fun f7 c7 G7 eN7 T7 hc7 => ⟨f7, _, (awl y).map V.int, rfl, ⟨rfl, rfl⟩, scI_ints _, by rw [List.length_map]; exact awl_len (by omega), fun G Q' E' sG k' => ⟨rfl, sG _ _ hc7, show tCall (spAllWith K CM) [] E0 (tCons (tVar 5) tNil) [some (V.ref a), some (V.ref cl), some (V.int (m : Nat)), some (V.ref la), none, some (V.int (y : Nat)), some (V.int (n : Nat)), none, none, none, none] G Q' from (al_allN (H0 := G) rfl (by omega) (by omega) (al_vi rfl)) G _ (Same.refl _) fun G' v s' ⟨q, e, nq, hq⟩ => by
      subst e
      exact k' G' q s' nq hq⟩, fun G8 s8 => ⟨true, rfl, iteF ?_⟩⟩⟩
  have T8 : Tabs (TL P1) G8 := T7.ext s8
  have hla8 := s8 _ _ (eN7 _ _ (s36 _ _ hla3) nt_l)
  refine (al_leastN (H0 := G8) (m := n) rfl n1 n2 (al_vi rfl)) G8 _ (Same.refl _) fun G9 v9 s9 ⟨z9, p9, q9, dx9, e9, nq9, np9, hp9, hq9, wr9⟩ => ⟨p9, C, dx9, _, _, e9, hp9, L.cl, L.nF, lf_floor _ _, .inl ⟨rfl, _, SqL.of hq9⟩, q9, _, _, rfl, rfl, hq9, by rw [List.length_map, fl1_len, ← big]; omega, ?_⟩
  have T10 : Tabs (TL P1) (upd G9 q9 (.lst ((fl1 n).map V.int ++ [V.int 99]))) := tabs_put (T8.ext s9) hq9
  have hla10 : upd G9 q9 (.lst ((fl1 n).map V.int ++ [V.int 99])) la = some (.lst []) := by
    rw [upd_ne (ne_of_none hla8 nq9)]
    exact s9 _ _ hla8
  change tSeq _ _ _ _ (upd G9 q9 (.lst ((fl1 n).map V.int ++ [V.int 99])))
  generalize upd G9 q9 (.lst ((fl1 n).map V.int ++ [V.int 99])) = G10 at T10 hla10 ⊢
  refine st_no (alt_t (al_notB (r := false) (al_showsT rfl n1 n2 (al_weak (al_leastN (m := n) rfl n1 n2 (al_vi rfl)) fun _ _ ⟨z, p, q, dx, e, _, _, hp, hq, wr⟩ => ⟨z, wr, p, q, e, ⟨dx, hp⟩, hq⟩) (al_vi rfl)) (al_ci _) rfl)) fun G11 s11 => ?_
  refine st_setN (fun v => [some (V.ref a), some (V.ref cl), some (V.int (m : Nat)), some (V.ref la), some v, some (V.int (y : Nat)), some (V.int (n : Nat)), none, none, none, none]) (fun _ => rfl) (al_leastN (m := n) rfl n1 n2 (al_vi rfl)) fun G12 v12 s12 ⟨z, p, q, dx, e12, nq, np, hp12, hq12, wr⟩ => ?_
  subst e12
  have laq : q ≠ la := Ne.symm (ne_of_none (s11 _ _ hla10) nq)
  refine st_setN (fun v => [some (V.ref a), some (V.ref cl), some (V.int (m : Nat)), some (V.ref la), some (V.ref p), some (V.int (y : Nat)), some (V.int (n : Nat)), some v, none, none, none]) (fun _ => rfl) (Φ := Is (.str z)) (fun H' Q' s' k' => ⟨_, rfl, p, C, dx, _, _, rfl, s' _ _ hp12, L.cl, L.nT, lf_text _ _, k' H' _ (Same.refl _) rfl⟩) fun G13 v13 s13 h13 => ?_
  rw [show v13 = _ from h13]
  have s1013 := (s11.trans s12).trans s13
  have hla13 := s1013 _ _ hla10
  have T13 := T10.ext s1013
  have hp13 := s13 _ _ hp12
  have hq13 := s13 _ _ hq12
  refine ⟨_, rfl, .inl ⟨rfl, _, SqL.of hla13⟩, T13, fun f1 k1 o1 G14 eN14 T14 nf1 hf1 hd1 hc1 hS1 => ?_⟩
  have hp14 := eN14 _ _ hp13 nt_i
  have hq14 := eN14 _ _ hq13 nt_l
  have hla14 := eN14 _ _ hla13 nt_l
  refine ⟨_, rfl, p, C, dx, _, _, rfl, hp14, L.cl, L.nF, lf_floor _ _, _, rfl, p, C, dx, _, _, rfl, hp14, L.cl, L.nF, lf_floor _ _, q, _, rfl, SqL.of hq14, fun r nr => ?_⟩
  have rla : r ≠ la := Ne.symm (ne_of_none hla14 nr)
  obtain ⟨G15, e15, s15, hr15⟩ := ab nr (.lst ((fl1 n).map V.int).reverse)
  rw [e15]
  refine ⟨(show 3 ≤ sizeLine by decide), fun t1 nt1 => ?_⟩
  obtain ⟨G16, e16, s16, ht16⟩ := ab nt1 (.tup [V.ref f1, V.ref q, V.ref r])
  rw [e16]
  have s1416 := s15.trans s16
  have hla16 := s1416 _ _ hla14
  refine ⟨la, [], _, rfl, rfl, hla16, (show 0 < sizeLine by decide), ?_⟩
  have T17 : Tabs (TL P1) (upd G16 la (.lst [V.ref t1])) := tabs_put (T14.ext s1416) hla16
  have hla17 : upd G16 la (.lst [V.ref t1]) la = some (.lst [V.ref t1]) := upd_same
  have hp17 : upd G16 la (.lst [V.ref t1]) p = _ := keep_l (s1416 _ _ hp14) hla16 (by intro z; cases z)
  have hf17 : upd G16 la (.lst [V.ref t1]) f1 = _ := keep_l (s1416 _ _ hf1) hla16 lamO_nl
  have hc17 : upd G16 la (.lst [V.ref t1]) k1 = _ := keep_l (s1416 _ _ hc1) hla16 codeO_nl
  have ht17 : upd G16 la (.lst [V.ref t1]) t1 = _ := keep_l ht16 hla16 (by intro z; cases z)
  have hq17 : upd G16 la (.lst [V.ref t1]) q = _ := (upd_ne laq).trans (s1416 _ _ hq14)
  have hr17 : upd G16 la (.lst [V.ref t1]) r = _ := (upd_ne rla).trans (s16 _ _ hr15)
  change tSeq _ _ _ _ (upd G16 la (.lst [V.ref t1]))
  generalize upd G16 la (.lst [V.ref t1]) = G17 at T17 hla17 hp17 hf17 hc17 ht17 hq17 hr17 ⊢
  refine ⟨_, rfl, .inl ⟨rfl, _, SqL.of hla17⟩, T17, fun f2 k2 o2 G18 eN18 T18 nf2 hf2 hd2 hc2 hS2 => ?_⟩
  have hp18 := eN18 _ _ hp17 nt_i
  have hq18 := eN18 _ _ hq17 nt_l
  have hr18 := eN18 _ _ hr17 nt_l
  have hla18 := eN18 _ _ hla17 nt_l
  have ht18 := eN18 _ _ ht17 nt_t
  have hf18 := eN18 _ _ hf17 lamO_ne
  have hc18 := eN18 _ _ hc17 codeO_ne
  refine ⟨_, rfl, p, C, dx, _, _, rfl, hp18, L.cl, L.nF, lf_floor _ _, (show 3 ≤ sizeLine by decide), fun r2 nr2 => ?_⟩
  have r2la : r2 ≠ la := Ne.symm (ne_of_none hla18 nr2)
  obtain ⟨G19, e19, s19, hr19⟩ := ab nr2 (.lst [V.int 1, V.int 2, V.int 3])
  rw [e19]
  refine ⟨(show 3 ≤ sizeLine by decide), fun t2 nt2 => ?_⟩
  obtain ⟨G20, e20, s20, ht20⟩ := ab nt2 (.tup [V.ref f2, V.ref q, V.ref r2])
  rw [e20]
  have s1820 := s19.trans s20
  have hla20 := s1820 _ _ hla18
  refine ⟨la, _, _, rfl, rfl, hla20, (show 1 < sizeLine by decide), ?_⟩
  have hla21 : upd G20 la (.lst [V.ref t1, V.ref t2]) la = some (.lst [V.ref t1, V.ref t2]) := upd_same
  have hf21 : upd G20 la (.lst [V.ref t1, V.ref t2]) f1 = _ := keep_l (s1820 _ _ hf18) hla20 lamO_nl
  have hc21 : upd G20 la (.lst [V.ref t1, V.ref t2]) k1 = _ := keep_l (s1820 _ _ hc18) hla20 codeO_nl
  have hg21 : upd G20 la (.lst [V.ref t1, V.ref t2]) f2 = _ := keep_l (s1820 _ _ hf2) hla20 lamO_nl
  have hd21 : upd G20 la (.lst [V.ref t1, V.ref t2]) k2 = _ := keep_l (s1820 _ _ hc2) hla20 codeO_nl
  have ht21 : upd G20 la (.lst [V.ref t1, V.ref t2]) t1 = _ := keep_l (s1820 _ _ ht18) hla20 (by intro z; cases z)
  have hu21 : upd G20 la (.lst [V.ref t1, V.ref t2]) t2 = _ := keep_l ht20 hla20 (by intro z; cases z)
  have hq21 : upd G20 la (.lst [V.ref t1, V.ref t2]) q = _ := (upd_ne laq).trans (s1820 _ _ hq18)
  have hr21 : upd G20 la (.lst [V.ref t1, V.ref t2]) r = _ := (upd_ne rla).trans (s1820 _ _ hr18)
  have hw21 : upd G20 la (.lst [V.ref t1, V.ref t2]) r2 = _ := (upd_ne r2la).trans (s20 _ _ hr19)
  obtain ⟨G21, eG21⟩ : ∃ G, upd G20 la (.lst [V.ref t1, V.ref t2]) = G := ⟨_, rfl⟩
  rw [eG21] at hla21 hf21 hc21 hg21 hd21 ht21 hu21 hq21 hr21 hw21
  dsimp only
  rw [show upd G20 la (HO.lst ([V.ref t1] ++ [V.ref t2])) = G21 from eG21]
  obtain ⟨R1, eR1⟩ : ∃ R1 : List V → List V, R1 = fun zs => [V.bl (decide (Shows (tl z) (zs.map toI) (n : Nat))), V.int (F n : Nat)] := ⟨_, rfl⟩
  have zL : z.length ≤ sizeLine := wr_small wr (by have := F_le n2; omega)
  have A1 : ∀ (ks : List Int) (p' : Addr) (G : Hp) (Q' : VK), G p' = some (.lst (ks.map V.int)) → (∀ G' q, Same G G' → G q = none → G' q = some (.lst (R1 (ks.map V.int))) → Q' (.ref q) G') → tS9 K C CN [some (.ref p'), some (V.ref a), some (V.ref cl), some (V.int (m : Nat)), some (V.ref la), some (V.ref p), some (V.int (y : Nat)), some (V.int (n : Nat)), some (.str z), none, none, none] G Q' := fun ks p' G Q' hp' kq =>
    (al_lsnew (H0 := G) (al_xcons (al_shows (al_make (al_vi rfl) (al_v rfl (stab_l _) ⟨p', rfl, hp'⟩)) (al_vi rfl) zL (by omega) (by omega) rfl) (al_xcons (al_call (gv_fewest rfl n1 n2) (al_vi rfl)) al_xnil)) (show 2 ≤ sizeLine by decide)) G _ (Same.refl _) fun G' v s' ⟨q', e, nq', hq'⟩ => by
      subst e
      refine kq G' q' s' nq' ?_
      rw [eR1]
      show _ = some (HO.lst [V.bl (decide (Shows (tl z) ((ks.map V.int).map toI) (n : Nat))), V.int (F n : Nat)])
      rw [toI_map]
      exact hq'
  have A2 : ∀ (ks : List Int) (p' : Addr) (G : Hp) (Q' : VK), G p' = some (.lst (ks.map V.int)) → (∀ G' q, Same G G' → G q = none → G' q = some (.lst (ks.map V.int)) → Q' (.ref q) G') → tF9 K C [some (.ref p'), some (V.ref a), some (V.ref cl), some (V.int (m : Nat)), some (V.ref la), some (V.ref p), some (V.int (y : Nat)), some (V.int (n : Nat)), some (.str z), none, none, none] G Q' := fun ks p' G Q' hp' kq =>
    (al_makeN (H0 := G) (z := z) (ns := ks) (al_vi rfl) (al_v rfl (stab_l _) ⟨p', rfl, hp'⟩)) G _ (Same.refl _) fun G' v s' ⟨p2, q2, dx2, e, np2, nq2, hp2, hq2⟩ => ⟨p2, C, dx2, _, _, e, hp2, L.cl, L.nF, lf_floor _ _, kq G' q2 s' nq2 hq2⟩
  have f200 : (fl1 n).length ≤ 1000 := by rw [fl1_len]; omega
  have xl : ((fl1 n).map V.int).length ≤ 1000 := by rw [List.length_map]; exact f200
  have erev : ((fl1 n).map V.int).reverse = (fl1 n).reverse.map V.int := List.map_reverse.symm
  have rl : ((fl1 n).reverse.map V.int).length ≤ 1000 := by rw [List.length_map, List.length_reverse]; exact f200
  rw [erev] at hr21
  refine ⟨_, rfl, la, rfl, ⟨_, SqL.of hla21⟩, fun D hD => ?_⟩
  have fin : ∀ (i : Nat) (H1 G : Hp), i ≤ 1 → Same G21 H1 → H1 D = some (.lst ((List.replicate i true).map V.bl)) → Same H1 G → ∃ acc, G D = some (.lst acc) ∧ acc.length < sizeLine ∧ Same G21 (upd G D (.lst (acc ++ [V.bl true]))) ∧ upd G D (.lst (acc ++ [V.bl true])) D = some (.lst ((List.replicate (i + 1) true).map V.bl)) := fun i H1 G hi s1 hD1 sG => ⟨_, sG _ _ hD1, by rw [List.length_map, List.length_replicate, ← big]; omega, fun b o e => by rw [upd_ne (ne_of_none e hD)]; exact sG _ _ (s1 b o e), by rw [upd_same, List.replicate_succ', List.map_append]; rfl⟩
  refine lc_list (K := K) (a := la) (xs := [.ref t1, .ref t2]) (tt := tYes) (g := gTup K 3 (gCons (gName 8) (gCons (gName 9) (gCons (gName 10) gNil)))) (vs := [8, 9, 10]) (σ := [some (V.ref a), some (V.ref cl), some (V.int (m : Nat)), some (V.ref la), some (V.ref p), some (V.int (y : Nat)), some (V.int (n : Nat)), some (.str z), none, none, none]) (te := fun σ' H' Q => (tCons (tVar 8) (tCons (tVar 9) (tCons (tVar 10) tNil))) σ' H' fun vs H1 => spDo (S9 (cxOf CX0 P w K mg base nLaw "law" (defScope sLaw) f (.ref c1) A outer s H E).nox [some (V.ref a), some (V.ref cl), some (V.int (m : Nat)), some (V.ref la), some (V.ref p), some (V.int (y : Nat)), some (V.int (n : Nat)), some (.str z), none, none, none]) vs H1 Q E0) (fun j H' => Same G21 H' ∧ H' D = some (.lst ((List.replicate j true).map V.bl))) ⟨sm_upd hD, upd_same⟩ (fun j H' _ hj => SqL.of (hj.1 _ _ hla21)) ?_ ?_
  · rintro i x H1 hi ⟨s1', hD1⟩
    match i, hi with
    | 0, hi =>
      have ex : x = .ref t1 := (Option.some.inj hi).symm
      subst ex
      refine ⟨t1, _, rfl, SqT.of (s1' _ _ ht21), rfl, _, _, rfl, _, _, rfl, _, _, rfl, rfl, rfl, ?_⟩
      unfold tYes
      refine iteT ⟨_, rfl, _, rfl, _, rfl, ?_⟩
      refine ⟨f1, q, r, _, (fl1 n).map V.int, (fl1 n).reverse.map V.int, R1, rfl, hS1 _, ?_, s1' _ _ hq21, s1' _ _ hr21, scI_ints _, scI_ints _, xl, rl, fun zs _ => ?_, fun zs p' G Q' hz sG hp' kq => ?_, fun G sG => fin 0 H1 G (by omega) s1' hD1 sG⟩
      · obtain ⟨fd, hd⟩ := hd1
        exact ⟨o1, fd, s1' _ _ hf21, hd⟩
      · rw [eR1]
        refine ⟨fun x hx => ?_, (show 2 ≤ 1000 by decide)⟩
        simp only [List.mem_cons, List.not_mem_nil, or_false] at hx
        rcases hx with rfl | rfl <;> rfl
      · rcases hz with rfl | rfl
        · exact ⟨rfl, sG _ _ (s1' _ _ hf21), sG _ _ (s1' _ _ hc21), A1 _ p' G Q' hp' kq⟩
        · exact ⟨rfl, sG _ _ (s1' _ _ hf21), sG _ _ (s1' _ _ hc21), A1 _ p' G Q' hp' kq⟩
    | 1, hi =>
      have ex : x = .ref t2 := (Option.some.inj hi).symm
      subst ex
      refine ⟨t2, _, rfl, SqT.of (s1' _ _ hu21), rfl, _, _, rfl, _, _, rfl, _, _, rfl, rfl, rfl, ?_⟩
      unfold tYes
      refine iteT ⟨_, rfl, _, rfl, _, rfl, ?_⟩
      refine ⟨f2, q, r2, _, (fl1 n).map V.int, [1, 2, 3].map V.int, fun zs => zs, rfl, hS2 _, ?_, s1' _ _ hq21, s1' _ _ hw21, scI_ints _, scI_ints _, xl, by decide, fun zs hz => ?_, fun zs p' G Q' hz sG hp' kq => ?_, fun G sG => fin 1 H1 G (by omega) s1' hD1 sG⟩
      · obtain ⟨fd, hd⟩ := hd2
        exact ⟨o2, fd, s1' _ _ hg21, hd⟩
      · rcases hz with rfl | rfl
        · exact ⟨scI_ints _, xl⟩
        · exact ⟨scI_ints _, by decide⟩
      · rcases hz with rfl | rfl
        · exact ⟨rfl, sG _ _ (s1' _ _ hg21), sG _ _ (s1' _ _ hd21), A2 _ p' G Q' hp' kq⟩
        · exact ⟨rfl, sG _ _ (s1' _ _ hg21), sG _ _ (s1' _ _ hd21), A2 _ p' G Q' hp' kq⟩
    | i + 2, hi => cases hi
  · rintro H1 ⟨s1', hD1⟩
    exact ⟨D, List.replicate 2 true, rfl, SqL.of hD1, k _⟩
end
end Fo
namespace Fo
open PySem L2 FO PySem.Spec PyProof.Rows
/-- a law that makes lambdas itself -/
theorem law_tabC {K : PySem.W.Frag} {mg : Str → Option Value} {h : Heap} {l : PySem.W.OpenLaw} {w : World} {fa c : Addr} {x : Str} {st : Stmt} {k : Nat} {N : List Str} {T : List (Addr × Str)} {cs : List (Addr × Addr)} (D : DnC K mg "law" st c) (hfa : mg "law" = some (.ref fa))
    (hb : ∀ (kV doc pm : Value) (an : Option Addr) (cdv ct v : Value), bindArgs (PySem.W.fnOf "law" "law" (defArgs st) (defBody st) (defScope st) .none kV doc pm an cdv ct) ⟨[v], []⟩ = pure [(x, v)]) (S : FnScope N [x] (defScope st))
    (hT : ∀ p ∈ cs, PySem.W.CodeHd h p.1 p.2 ∧ h.get? p.2 = some { cls := .none, data := .fields #[] }) (nT : ∀ p ∈ cs, K.lookup p.2 = none) (hcs : ∀ p ∈ T, ∃ c, (c, p.1) ∈ cs)
    (hF : ∀ (base : Heap), (∀ p ∈ cs, LamX.TabB base mg p.1 p.2) → ∀ (f : Addr) (A : Around) (outer : List Env) (s : Shared) (H : Hp) (vs : List V) (Q : VK) (E : XK), Room k (A.deeper (envOfC "law" (defScope st) s.heap.objs.size f (.ref c))) → spLawT K T vs H Q E →
      ∃ t, PSs (cxOf CX0 l.prog w K mg base N "law" (defScope st) f (.ref c) A outer s H E).nox (defBody st) t ∧ t { nx := fun _ H' => Q .non H', rt := Q } (start N vs) H) :
    LamX.LawAtS l w K CX0 (k + 1) 63 x mg fa h := by
  obtain ⟨f, oc, od, kV, doc, pm, an, ct, osl, lk, hcd, kp, hm⟩ := D.ex
  have e := hfa.symm.trans hm
  cases e
  refine ⟨_, cs, spLawT K T, fun p hp => (hT p hp).2, nT, fun p hp => (hT p hp).1, fun s v => .of_eq (hb kV doc pm an (.ref c) ct v), fun H a ns hl hbt hH hS => ⟨a, ns, rfl, hS, hl, fun n hn => bits_lt (hbt n hn), fun p hp => ?_, fun _ => rfl⟩, fun base _ _ tb => fn_of lk hcd S (fun vs H Q E h => ?_) fun A outer s H vs Q E hr hsp => ?_⟩
  · obtain ⟨c, hc⟩ := hcs p hp
    exact LamX.TabS.nil (hH _ hc)
  · obtain ⟨a, ns, rfl, _⟩ := h
    rfl
  · obtain ⟨t, h, q⟩ := hF base tb _ A outer s H vs Q E hr hsp
    exact ⟨t, h.nox, q⟩
/-- all that the law leans on -/
structure All9 (K : PySem.W.Frag) (mg : Str → Option Value) (CN CM C c1 : Addr) : Prop where
  B : Bi mg
  lon : ∃ u, mg "LONGEST" = some u ∧ RelV (.int 2000) u
  mo : ∃ u, mg "MOST" = some u ∧ RelV (.int 200) u
  ms : ∃ u, mg "MOST_SHOWN" = some u ∧ RelV (.int 14) u
  N : ErC K mg "BadNumber" CN
  M : ErC K mg "BadOnes" CM
  L : LeD K mg C
  c_law : DnC K mg "law" sLaw c1
  d_is_whole : Dn K mg "is_whole" sWhole
  d_done : Dn K mg "done" sDone
  d_worth_of : Dn K mg "worth_of" sWorthOf
  d_put : Dn K mg "put" sPut
  d_is_floor : Dn K mg "is_floor" sIsFloor
  d_check_number : Dn K mg "check_number" sCheckNumber
  d_check_ones : Dn K mg "check_ones" sCheckOnes
  d_table_of : Dn K mg "table_of" sTable
  d_text_by : Dn K mg "text_by" sTextBy
  d_fewest : Dn K mg "fewest" sFewest
  d_least : Dn K mg "least" sLeast
  d_all_with : Dn K mg "all_with" sAllWith
  d_greatest_of : Dn K mg "greatest_of" sGreatestOf
  d__law_copied : Dn K mg "_law_copied" sLawCopied
  d__law_spoiled : Dn K mg "_law_spoiled" sLawSpoiled
  d__law_laid : Dn K mg "_law_laid" sLawLaid
  d__law_anew : Dn K mg "_law_anew" sLawAnew
  d__law_door_right : Dn K mg "_law_door_right" sLawDoorRight
theorem all9_tab {l : PySem.W.OpenLaw} {w : World} {K : PySem.W.Frag} {mg : Str → Option Value} {h : Heap} {fa CN CM C c1 P1 : Addr} (tab : TabsOf K ["law"] h) (t1 : PySem.W.tabIn K "law" = some (c1, P1)) (n1 : K.lookup P1 = none) (_ : Dn K mg "law" sLaw) (hfa : mg "law" = some (.ref fa))
    (hb : ∀ (kV doc pm : Value) (an : Option Addr) (cdv ct v : Value), bindArgs (PySem.W.fnOf "law" "law" (defArgs sLaw) (defBody sLaw) (defScope sLaw) .none kV doc pm an cdv ct) ⟨[v], []⟩ = pure [(("_law_script" : Str), v)])
    (A : All9 K mg CN CM C c1) : LamX.LawAtS l w K CX0 204 63 "_law_script" mg fa h := by
  refine law_tabC (T := TL P1) (cs := [(c1, P1)]) (N := nLaw) A.c_law hfa hb scLaw (fun p hp => ?_) (fun p hp => ?_) (fun p hp => ?_) fun base tb f A' outer s H vs Q E hr hsp => ?_
  · rw [List.mem_singleton] at hp
    subst hp
    exact tab _ (by simp) _ _ t1
  · rw [List.mem_singleton] at hp
    subst hp
    exact n1
  · rw [List.mem_singleton] at hp
    subst hp
    exact ⟨c1, by simp⟩
  have k1 : ∀ base, Kp l.prog w K mg base CX0 1 "is_whole" (spWhole K) := fun _ => ok_whole A.d_is_whole A.B
  have k2 : ∀ base, Kp l.prog w K mg base CX0 2 "done" (spDone K) := fun b => ok_done A.d_done A.B (k1 b)
  have k3 : ∀ base, Kp l.prog w K mg base CX0 3 "worth_of" (spWorthOf K) := fun b => ok_worthOf A.d_worth_of A.B A.lon (k1 b) (k2 b)
  have k5 : ∀ base, Kp l.prog w K mg base CX0 2 "is_floor" (spIsFloor K) := fun b => ok_isFloor A.d_is_floor A.B (k1 b)
  have M : ∀ base, C8.Mak l.prog w K mg base 1 "Least" C (spInit K C) [] := fun b => mak_of A.L A.B
  have Sh : ∀ base, C8.Met l.prog w K mg base 4 C "shows" (spShows K C) [] := fun b => met_of A.L A.B (k3 b) (k5 b)
  have k6 : ∀ base, Kp l.prog w K mg base (L2.CX l.prog w) 2 "check_number" (spCheckNumber K CN) := fun b => ok_checkNumber A.d_check_number A.N A.mo (k1 b)
  have k7 : ∀ base, Kp l.prog w K mg base CX0 1 "table_of" spTable := fun b => ok_table A.d_table_of A.B
  have k8 : ∀ base, Kp l.prog w K mg base CX0 202 "text_by" (spTextBy K 200) := fun b => ok_textBy A.d_text_by (ok_put A.d_put) 200
  have kL : ∀ base, Kp l.prog w K mg base (L2.CX l.prog w) 203 "least" (spLeast K CN C) := fun b => ok_least A.d_least (k6 b) (k7 b) (k8 b) (M b)
  have kF : ∀ base, Kp l.prog w K mg base (L2.CX l.prog w) 3 "fewest" (spFewest K CN) := fun b => ok_fewest A.d_fewest (k6 b) (k7 b)
  have k9 : ∀ base, Kp l.prog w K mg base (L2.CX l.prog w) 2 "check_ones" (spCheckOnes K CM) := fun b => ok_checkOnes A.d_check_ones A.M (k1 b)
  have k10 : ∀ base, Kp l.prog w K mg base CX0 1 "greatest_of" spGreatestOf := fun b => ok_greatestOf A.d_greatest_of A.B
  have kA : ∀ base, Kp l.prog w K mg base (L2.CX l.prog w) 3 "all_with" (spAllWith K CM) := fun b => ok_allWith A.d_all_with A.B A.ms (k9 b) (k10 b) (k7 b)
  have q0 : ∀ base, Kp l.prog w K mg base CX0 1 "_law_copied" spCop0 := fun b => ok_cop0 A.d__law_copied A.B
  exact law9 (tb (c1, P1) (by simp)) A.B A.L.L A.d__law_anew A.d__law_door_right (fun b => ok_cop A.d__law_copied A.B (q0 b)) (fun b => ok_spo A.d__law_spoiled A.B) (fun b => ok_lai A.d__law_laid A.B (q0 b)) kA kF (kL base) M Sh f A' outer s H vs Q E hr hsp
end Fo
open PySem PySem.W PyProof.Rows in
set_option maxRecDepth 100000 in
set_option maxHeartbeats 0 in
theorem PySem.Challenge.cw_fewones_k09_handed_stays_holds : PySem.Challenge.rw_fewones_k09_handed_stays.Holds := by
  w_on; o_law; k_head; (case hw => w_witness2)
  k_fill
  refine Fo.walk_ofTab (l := PySem.Challenge.rw_fewones_k09_handed_stays) (n := 63) (k := 204) (x := "_law_script") (CX := fun _ => L2.CX0) (xs := ["law"]) rfl (by decide) rfl ⟨rfl, by decide, by decide⟩ (fun w h Y => PySem.W.km_in_of Y) ?R ?F fun _ _ _ _ _ z => z
  case R => decide +kernel
  case F =>
    intro w mg fa h KX G hmg tab
    replace hmg : mg "law" = some (.ref fa) := hmg
    refine' Fo.all9_tab (l := PySem.Challenge.rw_fewones_k09_handed_stays) tab ?t0 ?n0 ?q_D hmg (fun _ _ _ _ _ _ _ => rfl) ?q_A
    (case t0 => first | k_is | rfl | decide +kernel)
    (case n0 => first | k_is | rfl | decide +kernel)
    (case q_D => refine' Fo.dn_mk KX G ?a ?l ?c ?k; (case a => k_is); (case l => k_is); (case c => k_is); (case k => k_is))
    case q_A =>
    refine' ⟨?q_B, ?q_lon, ?q_mo, ?q_ms, ?q_N, ?q_M, ?q_L, ?q_c_law, ?q_d_is_whole, ?q_d_done, ?q_d_worth_of, ?q_d_put, ?q_d_is_floor, ?q_d_check_number, ?q_d_check_ones, ?q_d_table_of, ?q_d_text_by, ?q_d_fewest, ?q_d_least, ?q_d_all_with, ?q_d_greatest_of, ?q_d__law_copied, ?q_d__law_spoiled, ?q_d__law_laid, ?q_d__law_anew, ?q_d__law_door_right⟩
    (case q_B => refine' Fo.bi_mk KX G ?b_isi ?b_int ?b_bool ?b_str ?b_list ?b_len ?b_all ?b_range ?b_enum ?b_sum ?b_max ?b_sorted ?b_abs ?b_tuple ?b_any; (case b_isi => k_is); (case b_int => k_is); (case b_bool => k_is); (case b_str => k_is); (case b_list => k_is); (case b_len => k_is); (case b_all => k_is); (case b_range => k_is); (case b_enum => k_is); (case b_sum => k_is); (case b_max => k_is); (case b_sorted => k_is); (case b_abs => k_is); (case b_tuple => k_is); (case b_any => k_is))
    (case q_lon => refine' ⟨_, PySem.W.mg_of KX G ?z, ?y⟩; (case z => k_is); (case y => exact ⟨_, rfl⟩))
    (case q_mo => refine' ⟨_, PySem.W.mg_of KX G ?z, ?y⟩; (case z => k_is); (case y => exact ⟨_, rfl⟩))
    (case q_ms => refine' ⟨_, PySem.W.mg_of KX G ?z, ?y⟩; (case z => k_is); (case y => exact ⟨_, rfl⟩))
    (case q_N => refine' Fo.er_mk KX G ?a ?x ?k ?b ?t; (case a => k_is); (case x => k_exc); (case k => k_is); (case b => k_is); (case t => k_is))
    (case q_M => refine' Fo.er_mk KX G ?a ?x ?k ?b ?t; (case a => k_is); (case x => k_exc); (case k => k_is); (case b => k_is); (case t => k_is))
    (case q_L => refine' Fo.le_mk KX G ?w_aC ?w_a1 ?w_i1 ?w_l1 ?w_c1 ?w_k1 ?w_a2 ?w_i2 ?w_l2 ?w_c2 ?w_k2 ?w_pg ?w_hd ?w_po ?w_sa ?w_mk ?w_kc ?w_nT ?w_nF; (case w_aC => k_is); (case w_a1 => k_is); (case w_i1 => k_is); (case w_l1 => k_is); (case w_c1 => k_is); (case w_k1 => k_is); (case w_a2 => k_is); (case w_i2 => k_is); (case w_l2 => k_is); (case w_c2 => k_is); (case w_k2 => k_is); (case w_pg => k_is); (case w_hd => k_is); (case w_po => k_is); (case w_sa => k_is); (case w_mk => k_is); (case w_kc => k_is); (case w_nT => k_is); (case w_nF => k_is))
    (case q_c_law => refine' Fo.dnc_mk KX G ?a ?l ?c ?k; (case a => k_is); (case l => k_is); (case c => k_is); (case k => k_is))
    (case q_d_is_whole => refine' Fo.dn_mk KX G ?a ?l ?c ?k; (case a => k_is); (case l => k_is); (case c => k_is); (case k => k_is))
    (case q_d_done => refine' Fo.dn_mk KX G ?a ?l ?c ?k; (case a => k_is); (case l => k_is); (case c => k_is); (case k => k_is))
    (case q_d_worth_of => refine' Fo.dn_mk KX G ?a ?l ?c ?k; (case a => k_is); (case l => k_is); (case c => k_is); (case k => k_is))
    (case q_d_put => refine' Fo.dn_mk KX G ?a ?l ?c ?k; (case a => k_is); (case l => k_is); (case c => k_is); (case k => k_is))
    (case q_d_is_floor => refine' Fo.dn_mk KX G ?a ?l ?c ?k; (case a => k_is); (case l => k_is); (case c => k_is); (case k => k_is))
    (case q_d_check_number => refine' Fo.dn_mk KX G ?a ?l ?c ?k; (case a => k_is); (case l => k_is); (case c => k_is); (case k => k_is))
    (case q_d_check_ones => refine' Fo.dn_mk KX G ?a ?l ?c ?k; (case a => k_is); (case l => k_is); (case c => k_is); (case k => k_is))
    (case q_d_table_of => refine' Fo.dn_mk KX G ?a ?l ?c ?k; (case a => k_is); (case l => k_is); (case c => k_is); (case k => k_is))
    (case q_d_text_by => refine' Fo.dn_mk KX G ?a ?l ?c ?k; (case a => k_is); (case l => k_is); (case c => k_is); (case k => k_is))
    (case q_d_fewest => refine' Fo.dn_mk KX G ?a ?l ?c ?k; (case a => k_is); (case l => k_is); (case c => k_is); (case k => k_is))
    (case q_d_least => refine' Fo.dn_mk KX G ?a ?l ?c ?k; (case a => k_is); (case l => k_is); (case c => k_is); (case k => k_is))
    (case q_d_all_with => refine' Fo.dn_mk KX G ?a ?l ?c ?k; (case a => k_is); (case l => k_is); (case c => k_is); (case k => k_is))
    (case q_d_greatest_of => refine' Fo.dn_mk KX G ?a ?l ?c ?k; (case a => k_is); (case l => k_is); (case c => k_is); (case k => k_is))
    (case q_d__law_copied => refine' Fo.dn_mk KX G ?a ?l ?c ?k; (case a => k_is); (case l => k_is); (case c => k_is); (case k => k_is))
    (case q_d__law_spoiled => refine' Fo.dn_mk KX G ?a ?l ?c ?k; (case a => k_is); (case l => k_is); (case c => k_is); (case k => k_is))
    (case q_d__law_laid => refine' Fo.dn_mk KX G ?a ?l ?c ?k; (case a => k_is); (case l => k_is); (case c => k_is); (case k => k_is))
    (case q_d__law_anew => refine' Fo.dn_mk KX G ?a ?l ?c ?k; (case a => k_is); (case l => k_is); (case c => k_is); (case k => k_is))
    (case q_d__law_door_right => refine' Fo.dn_mk KX G ?a ?l ?c ?k; (case a => k_is); (case l => k_is); (case c => k_is); (case k => k_is))
#print axioms PySem.Challenge.cw_fewones_k09_handed_stays_holds
