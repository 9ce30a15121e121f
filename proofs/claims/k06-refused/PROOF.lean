import PyProof.Rows.All
import Wide.All
import OpenK.AllK
import Wide.FinOn
import HandS.ForMost
import HandS.ForExc
import HandS.IsInst
import HandS.ExcIs
import HandS.CallLocal
import HandS.WideBits
import HandS.Walk
import HandS.Codes
import HandS.Style
import HandS.EndBits
import HandS.Conv
import HandS.SortInts
import HandS.Lambda
import HandS.EndTab
import HandS.HotCalls
import HandS.Deep
import HandS.ExcCtx
import PySem.Challenge.RW_fewones_k06_refused
set_option Elab.async false
set_option linter.all false
set_option maxRecDepth 100000
set_option maxHeartbeats 2000000
set_option linter.all false
namespace FO
/-! The stack machine: what stands on the stack is a number or a sign; the top of the stack is the head of the list. -/
abbrev Itm := Sum Int Nat
def doneS : List Itm → Option (List Itm)
  | .inl b :: .inr s :: .inl a :: .inr o :: r => if o = 40 then (if s = 43 then some (.inl (a + b) :: r) else if s = 42 then some (.inl (a * b) :: r) else none) else none
  | _ => none
def stepS (S : List Itm) (c : Nat) : Option (List Itm) :=
  if c = 49 then some (.inl 1 :: S) else if c = 41 then doneS S else if c = 40 ∨ c = 43 ∨ c = 42 then some (.inr c :: S) else none
def runS : List Itm → List Nat → Option (List Itm)
  | S, [] => some S
  | S, c :: t => match stepS S c with
    | some S' => runS S' t
    | none => none
def endS : Option (List Itm) → Int
  | some [.inl n] => n
  | _ => 0
def readL (t : List Nat) : Int := endS (runS [] t)
def worthL (t : List Nat) : Int := if t.length ≤ 2000 then readL t else 0
/-- bits of the numbers on the stack -/
def phi : List Itm → Nat
  | [] => 0
  | .inl n :: r => n.natAbs.log2 + 1 + phi r
  | .inr _ :: r => phi r
theorem lt_pow_log2 (n : Nat) : n < 2 ^ (n.log2 + 1) := Nat.lt_log2_self
theorem log2_add (a b : Int) : (a + b).natAbs.log2 + 1 ≤ a.natAbs.log2 + 1 + (b.natAbs.log2 + 1) := by
  by_cases h0 : (a + b).natAbs = 0
  · rw [h0, Nat.log2_zero]; omega
  · have h1 := lt_pow_log2 a.natAbs
    have h2 := lt_pow_log2 b.natAbs
    have h3 : (a + b).natAbs < 2 ^ (a.natAbs.log2 + 1 + b.natAbs.log2 + 1) := by
      have e1 : 2 ^ (a.natAbs.log2 + 1) ≤ 2 ^ (a.natAbs.log2 + 1 + b.natAbs.log2) := Nat.pow_le_pow_right (by decide) (by omega)
      have e2 : 2 ^ (b.natAbs.log2 + 1) ≤ 2 ^ (a.natAbs.log2 + 1 + b.natAbs.log2) := Nat.pow_le_pow_right (by decide) (by omega)
      have e3 : 2 ^ (a.natAbs.log2 + 1 + b.natAbs.log2 + 1) = 2 ^ (a.natAbs.log2 + 1 + b.natAbs.log2) * 2 := Nat.pow_succ ..
      have := Int.natAbs_add_le a b
      omega
    have h4 := (Nat.log2_lt h0).mpr h3
    omega
theorem log2_mul (a b : Int) : (a * b).natAbs.log2 + 1 ≤ a.natAbs.log2 + 1 + (b.natAbs.log2 + 1) := by
  by_cases h0 : (a * b).natAbs = 0
  · rw [h0, Nat.log2_zero]; omega
  · have h1 := lt_pow_log2 a.natAbs
    have h2 := lt_pow_log2 b.natAbs
    have h3 : (a * b).natAbs < 2 ^ (a.natAbs.log2 + 1 + (b.natAbs.log2 + 1)) := by
      rw [Int.natAbs_mul, Nat.pow_add]
      exact Nat.mul_lt_mul'' h1 h2
    have h4 := (Nat.log2_lt h0).mpr h3
    omega
theorem phi_done {S S' : List Itm} (h : doneS S = some S') : phi S' ≤ phi S := by
  unfold doneS at h
  split at h
  · rename_i b s a o r
    split at h
    · split at h
      · cases h; have := log2_add a b; simp only [phi]; omega
      · split at h
        · cases h; have := log2_mul a b; simp only [phi]; omega
        · cases h
    · cases h
  · cases h
theorem len_done {S S' : List Itm} (h : doneS S = some S') : S'.length ≤ S.length := by
  unfold doneS at h
  split at h
  · split at h
    · split at h
      · cases h; simp only [List.length_cons]; omega
      · split at h
        · cases h; simp only [List.length_cons]; omega
        · cases h
    · cases h
  · cases h
theorem phi_step {S S' : List Itm} {c : Nat} (h : stepS S c = some S') : phi S' ≤ phi S + 1 := by
  unfold stepS at h
  split at h
  · cases h; simp only [phi]; have : (1 : Int).natAbs.log2 = 0 := by decide
    omega
  · split at h
    · have := phi_done h; omega
    · split at h
      · cases h; simp only [phi]; omega
      · cases h
theorem len_step {S S' : List Itm} {c : Nat} (h : stepS S c = some S') : S'.length ≤ S.length + 1 := by
  unfold stepS at h
  split at h
  · cases h; simp
  · split at h
    · have := len_done h; omega
    · split at h
      · cases h; simp
      · cases h
theorem runS_append : ∀ (t u : List Nat) (S : List Itm), runS S (t ++ u) = (match runS S t with | some S' => runS S' u | none => none)
  | [], u, S => rfl
  | c :: t, u, S => by
    show (match stepS S c with | some S' => runS S' (t ++ u) | none => none) = _
    show _ = (match (match stepS S c with | some S' => runS S' t | none => none) with | some S' => runS S' u | none => none)
    cases stepS S c with
    | none => rfl
    | some S' => exact runS_append t u S'
theorem phi_run : ∀ (t : List Nat) (S S' : List Itm), runS S t = some S' → phi S' ≤ phi S + t.length
  | [], S, S', h => by cases h; simp
  | c :: t, S, S', h => by
    unfold runS at h
    split at h
    · rename_i S1 e
      have h1 := phi_step e
      have h2 := phi_run t S1 S' h
      simp only [List.length_cons]; omega
    · cases h
theorem len_run : ∀ (t : List Nat) (S S' : List Itm), runS S t = some S' → S'.length ≤ S.length + t.length
  | [], S, S', h => by cases h; simp
  | c :: t, S, S', h => by
    unfold runS at h
    split at h
    · rename_i S1 e
      have h1 := len_step e
      have h2 := len_run t S1 S' h
      simp only [List.length_cons]; omega
    · cases h
theorem run_snoc {t : List Nat} {c : Nat} {S : List Itm} (h : runS [] t = some S) : runS [] (t ++ [c]) = stepS S c := by
  rw [runS_append, h]
  show (match stepS S c with | some S' => runS S' [] | none => none) = stepS S c
  cases stepS S c <;> rfl
/-- a writing bears on any stack -/
theorem run_frame : ∀ (t : List Nat) (S S' R : List Itm), runS S t = some S' → runS (S ++ R) t = some (S' ++ R)
  | [], S, S', R, h => by cases h; rfl
  | c :: t, S, S', R, h => by
    unfold runS at h
    split at h
    · rename_i S1 e
      have e2 : stepS (S ++ R) c = some (S1 ++ R) := by
        unfold stepS at e ⊢
        split at e
        · cases e; rename_i hc; rw [if_pos hc]; rfl
        · rename_i hc; rw [if_neg hc]
          split at e
          · rename_i hc2; rw [if_pos hc2]
            unfold doneS at e
            split at e
            · show (if _ = 40 then _ else _) = _
              split at e
              · rename_i ho; rw [if_pos ho]
                split at e
                · rename_i hs; cases e; rw [if_pos hs]; rfl
                · rename_i hs; rw [if_neg hs]
                  split at e
                  · rename_i hs2; cases e; rw [if_pos hs2]; rfl
                  · cases e
              · cases e
            · cases e
          · rename_i hc2; rw [if_neg hc2]
            split at e
            · rename_i hc3; cases e; rw [if_pos hc3]; rfl
            · cases e
      unfold runS
      rw [e2]
      exact run_frame t S1 S' R h
    · cases h
/-- the number that a text is, as it is read on an empty stack -/
def Reads (t : List Nat) (n : Int) : Prop := runS [] t = some [.inl n]
theorem Reads.one : Reads [49] 1 := rfl
theorem Reads.on {t : List Nat} {n : Int} (h : Reads t n) (R : List Itm) : runS R t = some (.inl n :: R) := run_frame t [] [.inl n] R h
theorem Reads.plus {t u : List Nat} {m n : Int} (h : Reads t m) (k : Reads u n) : Reads (40 :: (t ++ 43 :: (u ++ [41]))) (m + n) := by
  show runS [.inr 40] (t ++ 43 :: (u ++ [41])) = _
  rw [runS_append, h.on]
  show runS [.inr 43, .inl m, .inr 40] (u ++ [41]) = _
  rw [runS_append, k.on]
  rfl
theorem Reads.times {t u : List Nat} {m n : Int} (h : Reads t m) (k : Reads u n) : Reads (40 :: (t ++ 42 :: (u ++ [41]))) (m * n) := by
  show runS [.inr 40] (t ++ 42 :: (u ++ [41])) = _
  rw [runS_append, h.on]
  show runS [.inr 42, .inl m, .inr 40] (u ++ [41]) = _
  rw [runS_append, k.on]
  rfl
theorem Reads.read {t : List Nat} {n : Int} (h : Reads t n) : readL t = n := by
  unfold readL; rw [h]; rfl
theorem Reads.worth {t : List Nat} {n : Int} (h : Reads t n) (hl : t.length ≤ 2000) : worthL t = n := by
  unfold worthL; rw [if_pos hl]; exact h.read
end FO
set_option linter.all false
namespace FO
/-! The fewest ones of 0 .. 200, five bits each. -/
def T : Nat := 0x108c2308420f8c1f18c2108420f94630842307c20f8c1ef7ba0f8420f841ef83e0f7bdee8420f83e0f741ef83dee7b9ef7bdee7bdcf7b9ee739cd83dce7b9ee739cd73dce735ee739cd7358d735cd6b5ac735cd735ac635ac7358c62dac6318b6b16c62d8b5ad6a5ad6a5a96a4a9495a9294a1284210741cc6314a418820
def F (n : Nat) : Nat := (T >>> (5 * n)) % 32
/-- a state of the inner loop: the best so far, the sign, the two parts -/
abbrev Wy := Nat × Nat × Nat × Nat
def innerA (n : Nat) (st : Wy) (o : Nat) : Wy := if F o + F (n - o) < st.1 then (F o + F (n - o), 43, o, n - o) else st
def innerB (n : Nat) (st : Wy) (o : Nat) : Wy := if n % o = 0 ∧ F o + F (n / o) < st.1 then (F o + F (n / o), 42, o, n / o) else st
def innerT (n : Nat) (st : Wy) (o : Nat) : Wy := innerB n (innerA n st o) o
def bestAt (n k : Nat) : Wy := (List.range' 2 k).foldl (innerT n) (F 1 + F (n - 1), 43, 1, n - 1)
def best (n : Nat) : Wy := bestAt n (n / 2 - 1)
theorem bestAt_zero (n : Nat) : bestAt n 0 = (F 1 + F (n - 1), 43, 1, n - 1) := rfl
theorem bestAt_succ (n k : Nat) : bestAt n (k + 1) = innerT n (bestAt n k) (2 + k) := by
  unfold bestAt
  rw [List.range'_concat, List.foldl_append, Nat.one_mul]
  rfl
def okAt (n : Nat) : Bool := let w := best n
  w.1 == F n && decide (1 ≤ w.2.2.1) && decide (w.2.2.1 < n) && decide (1 ≤ w.2.2.2) && decide (w.2.2.2 < n) && F n == F w.2.2.1 + F w.2.2.2 &&
    ((w.2.1 == 43 && w.2.2.1 + w.2.2.2 == n) || (w.2.1 == 42 && w.2.2.1 * w.2.2.2 == n))
theorem ok_all : ((List.range 199).all fun i => okAt (i + 2)) = true := by decide +kernel
structure BestOk (n : Nat) : Prop where
  val : (best n).1 = F n
  a1 : 1 ≤ (best n).2.2.1
  a2 : (best n).2.2.1 < n
  b1 : 1 ≤ (best n).2.2.2
  b2 : (best n).2.2.2 < n
  sum : F n = F (best n).2.2.1 + F (best n).2.2.2
  how : ((best n).2.1 = 43 ∧ (best n).2.2.1 + (best n).2.2.2 = n) ∨ ((best n).2.1 = 42 ∧ (best n).2.2.1 * (best n).2.2.2 = n)
theorem best_ok {n : Nat} (h2 : 2 ≤ n) (h : n ≤ 200) : BestOk n := by
  have q := List.all_eq_true.mp ok_all (n - 2) (List.mem_range.mpr (by omega))
  have e : n - 2 + 2 = n := by omega
  rw [e] at q
  unfold okAt at q
  simp only [Bool.and_eq_true, Bool.or_eq_true, beq_iff_eq, decide_eq_true_eq] at q
  obtain ⟨⟨⟨⟨⟨⟨q1, q2⟩, q3⟩, q4⟩, q5⟩, q6⟩, q7⟩ := q
  exact ⟨q1, q2, q3, q4, q5, q6, q7⟩
theorem F_zero : F 0 = 0 := by decide +kernel
theorem F_one : F 1 = 1 := by decide +kernel
theorem F_bd_all : ((List.range 201).all fun n => decide (F n ≤ 18) && (n == 0 || decide (1 ≤ F n))) = true := by decide +kernel
theorem F_le {n : Nat} (h : n ≤ 200) : F n ≤ 18 := by
  have q := List.all_eq_true.mp F_bd_all n (List.mem_range.mpr (by omega))
  simp only [Bool.and_eq_true, decide_eq_true_eq] at q
  exact q.1
theorem F_pos {n : Nat} (h1 : 1 ≤ n) (h : n ≤ 200) : 1 ≤ F n := by
  have q := List.all_eq_true.mp F_bd_all n (List.mem_range.mpr (by omega))
  simp only [Bool.and_eq_true, Bool.or_eq_true, decide_eq_true_eq, beq_iff_eq] at q
  rcases q.2 with z | z
  · omega
  · exact z
def flAt (a b : Nat) : Bool := (decide (200 < a + b) || decide (F (a + b) ≤ F a + F b)) && (decide (200 < a * b) || decide (F (a * b) ≤ F a + F b))
theorem fl_all : ((List.range 200).all fun a => (List.range 200).all fun b => flAt (a + 1) (b + 1)) = true := by decide +kernel
theorem F_add {a b : Nat} (ha : 1 ≤ a) (hb : 1 ≤ b) (h : a + b ≤ 200) : F (a + b) ≤ F a + F b := by
  have q := List.all_eq_true.mp (List.all_eq_true.mp fl_all (a - 1) (List.mem_range.mpr (by omega))) (b - 1) (List.mem_range.mpr (by omega))
  have e1 : a - 1 + 1 = a := by omega
  have e2 : b - 1 + 1 = b := by omega
  rw [e1, e2] at q
  unfold flAt at q
  simp only [Bool.and_eq_true, Bool.or_eq_true, decide_eq_true_eq] at q
  rcases q.1 with z | z
  · omega
  · exact z
theorem F_mul {a b : Nat} (ha : 1 ≤ a) (hb : 1 ≤ b) (h : a * b ≤ 200) : F (a * b) ≤ F a + F b := by
  have h1 : a ≤ a * b := Nat.le_mul_of_pos_right a hb
  have h2 : b ≤ a * b := Nat.le_mul_of_pos_left b ha
  have q := List.all_eq_true.mp (List.all_eq_true.mp fl_all (a - 1) (List.mem_range.mpr (by omega))) (b - 1) (List.mem_range.mpr (by omega))
  have e1 : a - 1 + 1 = a := by omega
  have e2 : b - 1 + 1 = b := by omega
  rw [e1, e2] at q
  unfold flAt at q
  simp only [Bool.and_eq_true, Bool.or_eq_true, decide_eq_true_eq] at q
  rcases q.2 with z | z
  · omega
  · exact z

/-! The greatest number of so many ones. -/
def cG (m : Nat) : Nat := if m % 3 = 0 then 3 else if m % 3 = 1 then 4 else 2
def gr (m : Nat) : Nat := if m = 1 then 1 else cG m * 3 ^ ((m - cG m) / 3)
theorem gr1 : gr 1 = 1 := rfl
theorem gr_0 (q : Nat) : gr (3 * q + 3) = 3 * 3 ^ q := by
  have h1 : (3 * q + 3) % 3 = 0 := by omega
  have h2 : (3 * q + 3 - 3) / 3 = q := by omega
  unfold gr cG
  rw [if_neg (by omega), if_pos h1, h2]
theorem gr_1 (q : Nat) : gr (3 * q + 4) = 4 * 3 ^ q := by
  have h0 : ¬ (3 * q + 4) % 3 = 0 := by omega
  have h1 : (3 * q + 4) % 3 = 1 := by omega
  have h2 : (3 * q + 4 - 4) / 3 = q := by omega
  unfold gr cG
  rw [if_neg (by omega), if_neg h0, if_pos h1, h2]
theorem gr_2 (q : Nat) : gr (3 * q + 2) = 2 * 3 ^ q := by
  have h0 : ¬ (3 * q + 2) % 3 = 0 := by omega
  have h1 : ¬ (3 * q + 2) % 3 = 1 := by omega
  have h2 : (3 * q + 2 - 2) / 3 = q := by omega
  unfold gr cG
  rw [if_neg (by omega), if_neg h0, if_neg h1, h2]
theorem gr_cases {m : Nat} (h : 2 ≤ m) : ∃ q, m = 3 * q + 3 ∨ m = 3 * q + 4 ∨ m = 3 * q + 2 := by
  have : m % 3 = 0 ∨ m % 3 = 1 ∨ m % 3 = 2 := by omega
  rcases this with z | z | z
  · exact ⟨m / 3 - 1, .inl (by omega)⟩
  · exact ⟨m / 3 - 1, .inr (.inl (by omega))⟩
  · exact ⟨m / 3, .inr (.inr (by omega))⟩
theorem gr_add3 {m : Nat} (h : 2 ≤ m) : gr (m + 3) = 3 * gr m := by
  obtain ⟨q, rfl | rfl | rfl⟩ := gr_cases h
  · rw [show 3 * q + 3 + 3 = 3 * (q + 1) + 3 by omega, gr_0, gr_0, Nat.pow_succ]; omega
  · rw [show 3 * q + 4 + 3 = 3 * (q + 1) + 4 by omega, gr_1, gr_1, Nat.pow_succ]; omega
  · rw [show 3 * q + 2 + 3 = 3 * (q + 1) + 2 by omega, gr_2, gr_2, Nat.pow_succ]; omega
theorem pow3_pos (q : Nat) : 1 ≤ 3 ^ q := Nat.pow_pos (by decide)
theorem gr_lt {m : Nat} (h : 1 ≤ m) : gr m < gr (m + 1) := by
  by_cases h1 : m = 1
  · subst h1; decide
  obtain ⟨q, rfl | rfl | rfl⟩ := gr_cases (show 2 ≤ m by omega)
  · rw [gr_0, show 3 * q + 3 + 1 = 3 * q + 4 by omega, gr_1]; have := pow3_pos q; omega
  · rw [gr_1, show 3 * q + 4 + 1 = 3 * (q + 1) + 2 by omega, gr_2, Nat.pow_succ]; have := pow3_pos q; omega
  · rw [gr_2, show 3 * q + 2 + 1 = 3 * q + 3 by omega, gr_0]; have := pow3_pos q; omega
theorem gr_pos {m : Nat} (h : 1 ≤ m) : 1 ≤ gr m := by
  by_cases h1 : m = 1
  · subst h1; decide
  obtain ⟨q, rfl | rfl | rfl⟩ := gr_cases (show 2 ≤ m by omega)
  · rw [gr_0]; have := pow3_pos q; omega
  · rw [gr_1]; have := pow3_pos q; omega
  · rw [gr_2]; have := pow3_pos q; omega
theorem gr_ge2 {m : Nat} (h : 2 ≤ m) : 2 ≤ gr m := by
  obtain ⟨q, rfl | rfl | rfl⟩ := gr_cases h
  · rw [gr_0]; have := pow3_pos q; omega
  · rw [gr_1]; have := pow3_pos q; omega
  · rw [gr_2]; have := pow3_pos q; omega
theorem mul_swap (c d x y : Nat) : c * x * (d * y) = c * d * (x * y) := by
  rw [Nat.mul_assoc, Nat.mul_left_comm x, ← Nat.mul_assoc]
theorem gr_mul {a b : Nat} (ha : 1 ≤ a) (hb : 1 ≤ b) : gr a * gr b ≤ gr (a + b) := by
  by_cases a1 : a = 1
  · subst a1; rw [gr1, Nat.one_mul, Nat.add_comm]; exact Nat.le_of_lt (gr_lt hb)
  by_cases b1 : b = 1
  · subst b1; rw [gr1, Nat.mul_one]; exact Nat.le_of_lt (gr_lt ha)
  obtain ⟨p, hp⟩ := gr_cases (show 2 ≤ a by omega)
  obtain ⟨q, hq⟩ := gr_cases (show 2 ≤ b by omega)
  have hpq := pow3_pos (p + q)
  have e : 3 ^ p * 3 ^ q = 3 ^ (p + q) := (Nat.pow_add 3 p q).symm
  have f1 : 3 ^ (p + q + 1) = 3 ^ (p + q) * 3 := Nat.pow_succ ..
  have f2 : 3 ^ (p + q + 2) = 3 ^ (p + q) * 3 * 3 := by rw [Nat.pow_succ, Nat.pow_succ]
  rcases hp with rfl | rfl | rfl <;> rcases hq with rfl | rfl | rfl
  · rw [gr_0, gr_0, show 3 * p + 3 + (3 * q + 3) = 3 * (p + q + 1) + 3 by omega, gr_0, f1, mul_swap, e]; omega
  · rw [gr_0, gr_1, show 3 * p + 3 + (3 * q + 4) = 3 * (p + q + 1) + 4 by omega, gr_1, f1, mul_swap, e]; omega
  · rw [gr_0, gr_2, show 3 * p + 3 + (3 * q + 2) = 3 * (p + q + 1) + 2 by omega, gr_2, f1, mul_swap, e]; omega
  · rw [gr_1, gr_0, show 3 * p + 4 + (3 * q + 3) = 3 * (p + q + 1) + 4 by omega, gr_1, f1, mul_swap, e]; omega
  · rw [gr_1, gr_1, show 3 * p + 4 + (3 * q + 4) = 3 * (p + q + 2) + 2 by omega, gr_2, f2, mul_swap, e]; omega
  · rw [gr_1, gr_2, show 3 * p + 4 + (3 * q + 2) = 3 * (p + q + 1) + 3 by omega, gr_0, f1, mul_swap, e]; omega
  · rw [gr_2, gr_0, show 3 * p + 2 + (3 * q + 3) = 3 * (p + q + 1) + 2 by omega, gr_2, f1, mul_swap, e]; omega
  · rw [gr_2, gr_1, show 3 * p + 2 + (3 * q + 4) = 3 * (p + q + 1) + 3 by omega, gr_0, f1, mul_swap, e]; omega
  · rw [gr_2, gr_2, show 3 * p + 2 + (3 * q + 2) = 3 * (p + q) + 4 by omega, gr_1, mul_swap, e]; omega
theorem gr_add {a b : Nat} (ha : 1 ≤ a) (hb : 1 ≤ b) : gr a + gr b ≤ gr (a + b) := by
  by_cases a1 : a = 1
  · subst a1; rw [gr1, Nat.add_comm 1 b]; have := gr_lt hb; omega
  by_cases b1 : b = 1
  · subst b1; rw [gr1]; have := gr_lt ha; omega
  have h1 := gr_ge2 (show 2 ≤ a by omega)
  have h2 := gr_ge2 (show 2 ≤ b by omega)
  refine Nat.le_trans ?_ (gr_mul ha hb)
  generalize gr a = x at h1 ⊢
  generalize gr b = y at h2 ⊢
  obtain ⟨x', rfl⟩ : ∃ x', x = x' + 2 := ⟨x - 2, by omega⟩
  obtain ⟨y', rfl⟩ : ∃ y', y = y' + 2 := ⟨y - 2, by omega⟩
  rw [Nat.add_mul, Nat.mul_add]
  omega

/-! Writings: the text, its worth, its ones. -/
inductive Wr : List Nat → Int → Nat → Prop where
  | one : Wr [49] 1 1
  | plus {t u : List Nat} {m n : Int} {j k : Nat} (h : Wr t m j) (g : Wr u n k) : Wr (40 :: (t ++ 43 :: (u ++ [41]))) (m + n) (j + k)
  | times {t u : List Nat} {m n : Int} {j k : Nat} (h : Wr t m j) (g : Wr u n k) : Wr (40 :: (t ++ 42 :: (u ++ [41]))) (m * n) (j + k)
theorem Wr.reads {t : List Nat} {n : Int} {k : Nat} (h : Wr t n k) : Reads t n := by
  induction h with
  | one => exact .one
  | plus _ _ a b => exact a.plus b
  | times _ _ a b => exact a.times b
theorem Wr.count {t : List Nat} {n : Int} {k : Nat} (h : Wr t n k) : t.count 49 = k := by
  induction h with
  | one => rfl
  | plus _ _ a b => simp [List.count_cons, List.count_append, a, b]
  | times _ _ a b => simp [List.count_cons, List.count_append, a, b]
theorem Wr.len {t : List Nat} {n : Int} {k : Nat} (h : Wr t n k) : t.length + 3 = 4 * k := by
  induction h with
  | one => rfl
  | plus _ _ a b => simp only [List.length_cons, List.length_append, List.length_nil]; omega
  | times _ _ a b => simp only [List.length_cons, List.length_append, List.length_nil]; omega
theorem Wr.pos {t : List Nat} {n : Int} {k : Nat} (h : Wr t n k) : 1 ≤ n ∧ 1 ≤ k := by
  induction h with
  | one => exact ⟨by decide, by decide⟩
  | plus _ _ a b => exact ⟨by omega, by omega⟩
  | times _ _ a b => exact ⟨Int.le_trans a.1 (by have := Int.mul_le_mul_of_nonneg_left b.1 (show (0 : Int) ≤ _ from Int.le_trans (by decide) a.1); rwa [Int.mul_one] at this), by omega⟩
theorem Wr.le {t : List Nat} {n : Int} {k : Nat} (h : Wr t n k) : n ≤ (gr k : Int) := by
  induction h with
  | one => exact Int.le_refl _
  | plus h g a b => have := gr_add h.pos.2 g.pos.2; omega
  | @times t u m n j k h g a b =>
    have h1 := gr_mul h.pos.2 g.pos.2
    have h2 : m * n ≤ (gr j : Int) * (gr k : Int) := Int.mul_le_mul a b (by have := g.pos.1; omega) (by omega)
    have h3 : (gr j : Int) * (gr k : Int) ≤ (gr (j + k) : Int) := by exact_mod_cast h1
    omega
theorem Wr.worth {t : List Nat} {n : Int} {k : Nat} (h : Wr t n k) (hk : k ≤ 500) : worthL t = n := h.reads.worth (by have := h.len; omega)
end FO
set_option linter.all false
namespace FO
/-! Floors. -/
def fg (ns : List Int) (k : Nat) : Int := ns.getD (k - 1) 0
def Viol (ns : List Int) (a b : Nat) : Prop := (a + b ≤ ns.length ∧ fg ns (a + b) > fg ns a + fg ns b) ∨ (a * b ≤ ns.length ∧ fg ns (a * b) > fg ns a + fg ns b)
instance (ns : List Int) (a b : Nat) : Decidable (Viol ns a b) := by unfold Viol; infer_instance
def IsFloor (ns : List Int) : Prop := fg ns 1 ≤ 1 ∧ ∀ a b, 1 ≤ a → a ≤ ns.length → 1 ≤ b → b ≤ ns.length → ¬ Viol ns a b
theorem Viol.symm {ns : List Int} {a b : Nat} (h : Viol ns a b) : Viol ns b a := by
  unfold Viol at h ⊢
  rw [Nat.add_comm b a, Nat.mul_comm b a, Int.add_comm (fg ns b)]
  exact h
theorem floor_half {ns : List Int} (h1 : fg ns 1 ≤ 1) (h : ∀ a b, 1 ≤ a → a ≤ b → b ≤ ns.length → ¬ Viol ns a b) : IsFloor ns := by
  refine ⟨h1, fun a b a1 a2 b1 b2 v => ?_⟩
  by_cases c : a ≤ b
  · exact h a b a1 c b2 v
  · exact h b a b1 (by omega) a2 v.symm
def floorB (ns : List Int) : Bool := decide (fg ns 1 ≤ 1) && (List.range ns.length).all fun i => (List.range ns.length).all fun j => !decide (Viol ns (i + 1) (j + 1))
theorem floorB_iff (ns : List Int) : floorB ns = true ↔ IsFloor ns := by
  unfold floorB
  rw [Bool.and_eq_true, decide_eq_true_eq, List.all_eq_true]
  constructor
  · rintro ⟨h1, h⟩
    refine ⟨h1, fun a b a1 a2 b1 b2 => ?_⟩
    have q := List.all_eq_true.mp (h (a - 1) (List.mem_range.mpr (by omega))) (b - 1) (List.mem_range.mpr (by omega))
    rw [show a - 1 + 1 = a by omega, show b - 1 + 1 = b by omega] at q
    simpa using q
  · rintro ⟨h1, h⟩
    refine ⟨h1, fun i hi => List.all_eq_true.mpr fun j hj => ?_⟩
    have hi := List.mem_range.mp hi
    have hj := List.mem_range.mp hj
    have q := h (i + 1) (j + 1) (by omega) (by omega) (by omega) (by omega)
    simpa using q
instance (ns : List Int) : Decidable (IsFloor ns) := decidable_of_iff _ (floorB_iff ns)
/-- the told floor of n -/
def fl1 (n : Nat) : List Int := (List.range n).map fun j => ((F (j + 1) : Nat) : Int)
theorem fl1_len (n : Nat) : (fl1 n).length = n := by simp [fl1]
theorem fl1_fg {n k : Nat} (h1 : 1 ≤ k) (h : k ≤ n) : fg (fl1 n) k = ((F k : Nat) : Int) := by
  unfold fg fl1
  rw [List.getD_eq_getElem?_getD, List.getElem?_map, List.getElem?_range (by omega)]
  show ((F (k - 1 + 1) : Nat) : Int) = _
  rw [show k - 1 + 1 = k by omega]
theorem fl1_floor {n : Nat} (h1 : 1 ≤ n) (h : n ≤ 200) : IsFloor (fl1 n) := by
  refine ⟨by rw [fl1_fg (by omega) h1, F_one]; decide, fun a b a1 a2 b1 b2 v => ?_⟩
  rw [fl1_len] at a2 b2
  rcases v with ⟨c, d⟩ | ⟨c, d⟩
  · rw [fl1_len] at c
    rw [fl1_fg (by omega) c, fl1_fg a1 a2, fl1_fg b1 b2] at d
    have := F_add a1 b1 (show a + b ≤ 200 by omega)
    omega
  · rw [fl1_len] at c
    have p : 1 ≤ a * b := Nat.mul_pos a1 b1
    rw [fl1_fg p c, fl1_fg a1 a2, fl1_fg b1 b2] at d
    have := F_mul a1 b1 (show a * b ≤ 200 by omega)
    omega
/-- what an answer (a text's codes, a floor) shows of n -/
def Shows (t : List Nat) (ns : List Int) (n : Int) : Prop := worthL t = n ∧ (ns.length : Int) = n ∧ IsFloor ns ∧ fg ns ns.length = (t.count 49 : Nat)
instance (t : List Nat) (ns : List Int) (n : Int) : Decidable (Shows t ns n) := by unfold Shows; infer_instance
theorem told_shows {t : List Nat} {n : Nat} (h1 : 1 ≤ n) (h : n ≤ 200) (wr : Wr t (n : Nat) (F n)) : Shows t (fl1 n) (n : Nat) := by
  have f := F_le h
  refine ⟨wr.worth (by omega), by rw [fl1_len], fl1_floor h1 h, ?_⟩
  rw [fl1_len, fl1_fg h1 (Nat.le_refl _), wr.count]
end FO
set_option linter.all false
namespace FO
/-! The numbers to so much with just c ones at the fewest, rising. -/
def cls (most c : Nat) : List Int := ((List.range most).filter fun a => F (1 + a) == c).map fun a => ((1 + a : Nat) : Int)
theorem cls_mem {most c : Nat} {x : Int} : x ∈ cls most c ↔ ∃ n : Nat, x = (n : Int) ∧ 1 ≤ n ∧ n ≤ most ∧ F n = c := by
  unfold cls
  rw [List.mem_map]
  constructor
  · rintro ⟨a, ha, rfl⟩
    obtain ⟨h1, h2⟩ := List.mem_filter.mp ha
    have := List.mem_range.mp h1
    exact ⟨1 + a, rfl, by omega, by omega, by simpa using h2⟩
  · rintro ⟨n, rfl, h1, h2, h3⟩
    refine ⟨n - 1, List.mem_filter.mpr ⟨List.mem_range.mpr (by omega), ?_⟩, ?_⟩
    · rw [show 1 + (n - 1) = n by omega]
      simpa using h3
    · rw [show 1 + (n - 1) = n by omega]
theorem cls_lt (most c : Nat) : (cls most c).Pairwise (· < ·) := by
  unfold cls
  refine List.Pairwise.map (R := (· < ·)) _ (fun a b h => by omega) ?_
  exact List.Pairwise.filter _ List.pairwise_lt_range
theorem cls_le (most c : Nat) : (cls most c).Pairwise (· ≤ ·) := (cls_lt most c).imp fun h => by omega
theorem cls_nodup (most c : Nat) : (cls most c).Nodup := (cls_lt most c).imp fun h => by omega
theorem cls_len (most c : Nat) : (cls most c).length ≤ most := by
  unfold cls
  rw [List.length_map]
  exact Nat.le_trans (List.length_filter_le _ _) (by rw [List.length_range]; exact Nat.le_refl _)
/-- a list without repetition of just these numbers, sorted -/
theorem cls_of {most c : Nat} {xs ys : List Int} (hn : xs.Nodup) (hm : ∀ x, x ∈ xs ↔ x ∈ cls most c) (hp : ys.Perm xs) (hs : ys.Pairwise (· ≤ ·)) : ys = cls most c := by
  have p : ys.Perm (cls most c) := hp.trans ((List.perm_ext_iff_of_nodup hn (cls_nodup most c)).mpr hm)
  exact p.eq_of_pairwise (fun a b _ _ h1 h2 => by omega) hs (cls_le most c)
/-- what one turn of the law's loops comes to -/
theorem cls_step {most c : Nat} (hm : most ≤ 200) {a b t : Int} {o : Nat} (ho : o ≤ c) (ha : a ∈ cls most o) (hb : b ∈ cls most (c - o)) (ht : t = a + b ∨ t = a * b) (hl : t ≤ (most : Int)) : ∃ n : Nat, t = (n : Int) ∧ 1 ≤ n ∧ n ≤ most ∧ F n ≤ c := by
  obtain ⟨x, rfl, x1, x2, x3⟩ := cls_mem.mp ha
  obtain ⟨y, rfl, y1, y2, y3⟩ := cls_mem.mp hb
  rcases ht with rfl | rfl
  · refine ⟨x + y, by omega, by omega, by omega, ?_⟩
    have := F_add x1 y1 (show x + y ≤ 200 by omega)
    omega
  · have e : (x : Int) * (y : Int) = ((x * y : Nat) : Int) := by rw [Int.natCast_mul]
    rw [e] at hl ⊢
    refine ⟨x * y, rfl, Nat.mul_pos x1 y1, by omega, ?_⟩
    have := F_mul x1 y1 (show x * y ≤ 200 by omega)
    omega
theorem cls_split {most c n : Nat} (hm : most ≤ 200) (hc : 2 ≤ c) (h1 : 1 ≤ n) (h2 : n ≤ most) (h : F n = c) : ∃ (o : Nat) (a b : Int), 1 ≤ o ∧ o ≤ c / 2 ∧ a ∈ cls most o ∧ b ∈ cls most (c - o) ∧ ((n : Int) = a + b ∨ (n : Int) = a * b) := by
  have hn : 2 ≤ n := by
    have : n ≠ 1 := fun e => by rw [e, F_one] at h; omega
    omega
  have bo := best_ok hn (show n ≤ 200 by omega)
  have pa := F_pos bo.a1 (show (best n).2.2.1 ≤ 200 by have := bo.a2; omega)
  have pb := F_pos bo.b1 (show (best n).2.2.2 ≤ 200 by have := bo.b2; omega)
  have sm := bo.sum
  have a2 := bo.a2
  have b2 := bo.b2
  have ma : (((best n).2.2.1 : Nat) : Int) ∈ cls most (F (best n).2.2.1) := cls_mem.mpr ⟨_, rfl, bo.a1, by omega, rfl⟩
  have mb : (((best n).2.2.2 : Nat) : Int) ∈ cls most (F (best n).2.2.2) := cls_mem.mpr ⟨_, rfl, bo.b1, by omega, rfl⟩
  have how : (n : Int) = ((best n).2.2.1 : Nat) + ((best n).2.2.2 : Nat) ∨ (n : Int) = ((best n).2.2.1 : Nat) * ((best n).2.2.2 : Nat) := by
    rcases bo.how with ⟨_, e⟩ | ⟨_, e⟩
    · exact .inl (by omega)
    · exact .inr (by rw [← Int.natCast_mul, e])
  by_cases hle : F (best n).2.2.1 ≤ F (best n).2.2.2
  · refine ⟨F (best n).2.2.1, _, _, pa, by omega, ma, ?_, how⟩
    rw [show c - F (best n).2.2.1 = F (best n).2.2.2 by omega]
    exact mb
  · refine ⟨F (best n).2.2.2, _, (((best n).2.2.1 : Nat) : Int), pb, by omega, mb, ?_, ?_⟩
    · rw [show c - F (best n).2.2.2 = F (best n).2.2.1 by omega]
      exact ma
    · rcases how with e | e
      · exact .inl (by omega)
      · exact .inr (by rw [e, Int.mul_comm])
end FO
namespace L2
open PySem PySem.Spec PyProof.Rows
/-- a def that may raise, the exception's context None -/
theorem Fun.okN {P : Program} {w : World} {K : PySem.W.Frag} {mg : Str → Option Value} {base : Heap} {x q : Str} {st : Stmt} {f : Addr} {fd : FuncData} {N ps : List Str} {k : Nat} {sp : Sp} (F : Fun K x q st f fd) (S : FnScope N ps (defScope st)) (len : ∀ vs H Q E, sp vs H Q E → vs.length = ps.length)
    (hb : ∀ (c : Value) (A : Around) (outer : List Env) (s : Shared) (H : Hp) (vs : List V) (Q : VK) (E : XK), Room k (A.deeper (envOfC q (defScope st) s.heap.objs.size f c)) → sp vs H Q E →
      ∃ t, PSs (cxOf (L2N.CX P w) P w K mg base N q (defScope st) f c A outer s H E) (defBody st) t ∧ t { nx := fun _ H' => Q .non H', rt := Q } (start N vs) H) : FnOk P w K mg base (L2N.CX P w) (k + 1) f fd ps sp := by
  obtain ⟨oc, od, kV, doc, pm, an, c, ct, osl, rfl, lk, hc⟩ := F.ex
  exact fn_of lk hc S len fun A outer s H vs Q E hr h => hb c A outer s H vs Q E hr h
end L2
namespace Fo
open PySem L2
theorem passLN {X : Cx} : Passes (L2N.CX X.prog X.w) X E0 := fun _ _ _ _ _ _ _ h => (show False from let ⟨_, _, _, _, _, _, _, _, _, _, _, _, e⟩ := h; e).elim
theorem takes0N {X : Cx} : L2N.Takes X (fun _ _ _ _ => False) := fun _ _ x => (show False from let ⟨_, _, _, _, _, _, _, _, _, _, _, _, _, _, _, _, e⟩ := x; e).elim
end Fo
set_option Elab.async false
set_option linter.all false
set_option maxRecDepth 100000
set_option maxHeartbeats 2000000
namespace Fo
open PySem L2 FO
/-! ### what every law's proof uses -/
/-- the def x of the top stands -/
structure Dn (K : PySem.W.Frag) (mg : Str → Option Value) (x : Str) (st : Stmt) : Prop where
  ex : ∃ (f : Addr) (fd : FuncData), Fun K x x st f fd ∧ mg x = some (.ref f)
/-- the def x keeps its promise -/
structure Kp (P : Program) (w : World) (K : PySem.W.Frag) (mg : Str → Option Value) (base : Heap) (CX : CXT) (k : Nat) (x : Str) (sp : Sp) : Prop where
  ex : ∃ (f : Addr) (fd : FuncData) (ps : List Str), FnOk P w K mg base CX k f fd ps sp ∧ mg x = some (.ref f) ∧ PySem.W.keepIn K (.ref f) = true ∧ Binds K fd ps []
/-- the built-in names are the built-ins -/
structure Bi (mg : Str → Option Value) : Prop where
  isi : mg "isinstance" = none
  int : mg "int" = none
  bool : mg "bool" = none
  str : mg "str" = none
  list : mg "list" = none
  len : mg "len" = none
  all : mg "all" = none
  range : mg "range" = none
  enum : mg "enumerate" = none
  sum : mg "sum" = none
  max : mg "max" = none
  sorted : mg "sorted" = none
  abs : mg "abs" = none
  tuple : mg "tuple" = none
  any : mg "any" = none
section
variable {X : Cx} {k j : Nat} {x : Str} {sp : Sp} {p pos : Pos} {e : Expr} {es : List Expr} {t : TA}
/-- a call of a def that raises nothing -/
theorem pk (c : Kp X.prog X.w X.K X.mg X.base CX0 k x sp) (hr : Room j X.A) (hk : k ≤ j) (hg : Gl X x) (ha : PA X (e :: es) t)
    (hdb : (x == ("__debug__" : Str)) = false := by decide)
    (he : starEach (e :: es) X.env = (false, eval e X.env) :: starEach es X.env := by rfl)
    (hpl : (backTo pos (starEach es X.env)).any (·.1) = false := by rfl) :
    PE X (.Call (.Name x p) (e :: es) [] pos) (tCall sp [] E0 t) := by
  obtain ⟨f, fd, ps, F, hm, kp, b⟩ := c.ex
  exact pe_call F (hr.mono hk) hg hm kp b .nil pass0 ha hdb he hpl
/-- a call of a def that may raise, where nothing is let out -/
theorem pkL (c : Kp X.prog X.w X.K X.mg X.base (L2N.CX X.prog X.w) k x sp) (hr : Room j X.A) (hk : k ≤ j) (hg : Gl X x) (ha : PA X (e :: es) t)
    (hdb : (x == ("__debug__" : Str)) = false := by decide)
    (he : starEach (e :: es) X.env = (false, eval e X.env) :: starEach es X.env := by rfl)
    (hpl : (backTo pos (starEach es X.env)).any (·.1) = false := by rfl) :
    PE X (.Call (.Name x p) (e :: es) [] pos) (tCall sp [] E0 t) := by
  obtain ⟨f, fd, ps, F, hm, kp, b⟩ := c.ex
  exact pe_call F (hr.mono hk) hg hm kp b .nil Fo.passLN ha hdb he hpl
/-- .. where what is raised is wished for by W -/
theorem pkS {W : WX} (c : Kp X.prog X.w X.K X.mg X.base (L2N.CX X.prog X.w) k x sp) (tk : L2N.Takes X W) (hr : Room j X.A) (hk : k ≤ j) (hg : Gl X x) (ha : PA X (e :: es) t)
    (hdb : (x == ("__debug__" : Str)) = false := by decide)
    (he : starEach (e :: es) X.env = (false, eval e X.env) :: starEach es X.env := by rfl)
    (hpl : (backTo pos (starEach es X.env)).any (·.1) = false := by rfl) :
    PE X (.Call (.Name x p) (e :: es) [] pos) (tCallS sp (WE W) t) := by
  obtain ⟨f, fd, ps, F, hm, kp, b⟩ := c.ex
  exact pe_callS F (hr.mono hk) hg hm kp b (fun σ => L2N.passAt tk σ) ha hdb he hpl
end
theorem ifT {b : Bool} {A C : Prop} (h : b = true) (x : A) : if b = true then A else C := by
  rw [if_pos h]
  exact x
theorem ifF {b : Bool} {A C : Prop} (h : b = false) (x : C) : if b = true then A else C := by
  rw [h]
  exact iteF x
theorem sm_put {H H' : Hp} {p : Addr} {o : HO} (s : Same H H') (h : H p = none) : Same H (upd H' p o) := fun b u e => by
  rw [upd_ne (ne_of_none e h)]
  exact s b u e
theorem sm_new {H H' : Hp} {p : Addr} {o : HO} (s : Same H H') (h : H' p = none) : Same H (upd H' p o) := sm_put s (s.free h)
theorem sm_upd {H : Hp} {p : Addr} {o : HO} (h : H p = none) : Same H (L2.upd H p o) := sm_put (Same.refl H) h
theorem sm_tup {K : PySem.W.Frag} {H H' : Hp} {a : Addr} {xs : List V} (e : Same H H') (h : SqT K H a xs) : SqT K H' a xs := by
  rcases h with (h | ⟨o, h⟩) | h
  · exact .inl (.inl (e _ _ h))
  · exact .inl (.inr ⟨o, e _ _ h⟩)
  · exact .inr h
theorem sm_at {H H' : Hp} {a : Addr} {o : HO} (e : Same H H') (h : H a = some o) : H' a = some o := e a o h
/-- a heap with a new object, by a letter -/
theorem ab {H : Hp} {q : Addr} (nq : H q = none) (o : HO) : ∃ H0, upd H q o = H0 ∧ Same H H0 ∧ H0 q = some o := ⟨_, rfl, sm_upd nq, upd_same⟩
/-- xs[-k] -/
theorem atI_neg {α : Type} {xs : List α} {k : Nat} {v : α} (h1 : 1 ≤ k) (h2 : k ≤ xs.length) (h : xs[xs.length - k]? = some v) {z : Int} (hz : z = -(k : Int)) : atI xs z = some v := by
  subst hz
  have e : ixN xs.length (-(k : Int)) = some (xs.length - k) := by
    unfold ixN
    rw [if_neg (by omega), if_pos (by omega)]
    congr 1
    omega
  unfold atI
  rw [e]
  exact h
/-- is it a whole number -/
def IsW (K : PySem.W.Frag) (H : Hp) (v : V) (b : Bool) : Prop := ∃ (t : Value) (b1 b2 : Bool), TyX K H v t ∧ PySem.W.kitOne K t (.type "int") = some b1 ∧ (b1 = true → PySem.W.kitOne K t (.type "bool") = some b2) ∧ b = (b1 && !b2)
theorem IsW.int {K : PySem.W.Frag} {H : Hp} (i : Int) : IsW K H (.int i) true := ⟨.type "int", true, false, .base (.int i), kit_ty (by decide +kernel), fun _ => kit_ty (by decide +kernel), rfl⟩
theorem IsW.str {K : PySem.W.Frag} {H : Hp} (z : Str) : IsW K H (.str z) false := ⟨.type "str", false, false, .base (.str z), kit_ty (by decide +kernel), fun _ => kit_ty (by decide +kernel), rfl⟩
theorem IsW.non {K : PySem.W.Frag} {H : Hp} : IsW K H .non false := ⟨.type "NoneType", false, false, .base .non, kit_ty (by decide +kernel), fun _ => kit_ty (by decide +kernel), rfl⟩
theorem IsW.bl {K : PySem.W.Frag} {H : Hp} (c : Bool) : IsW K H (.bl c) false := ⟨.type "bool", true, true, .base (.bl c), kit_ty (by decide +kernel), fun _ => kit_ty (by decide +kernel), rfl⟩
theorem IsW.lst {K : PySem.W.Frag} {H : Hp} {a : Addr} {xs : List V} (h : H a = some (.lst xs)) : IsW K H (.ref a) false := ⟨.type "list", false, false, .base (.lst h), kit_ty (by decide +kernel), fun _ => kit_ty (by decide +kernel), rfl⟩
theorem IsW.tup {K : PySem.W.Frag} {H : Hp} {a : Addr} {xs : List V} (h : H a = some (.tup xs)) : IsW K H (.ref a) false := ⟨.type "tuple", false, false, .base (.tup h), kit_ty (by decide +kernel), fun _ => kit_ty (by decide +kernel), rfl⟩
theorem IsW.dK {K : PySem.W.Frag} {H : Hp} {a : Addr} {xs : List (Key × V)} (h : H a = some (.dK xs)) : IsW K H (.ref a) false := ⟨.type "dict", false, false, .base (.dK h), kit_ty (by decide +kernel), fun _ => kit_ty (by decide +kernel), rfl⟩
/-- what stands on the stack, as a value -/
def itV : Itm → V
  | .inl n => .int n
  | .inr c => .str ⟨#[c]⟩
def stV (S : List Itm) : List V := S.reverse.map itV
theorem stV_cons (x : Itm) (S : List Itm) : stV (x :: S) = stV S ++ [itV x] := by simp [stV]
theorem stV_length (S : List Itm) : (stV S).length = S.length := by simp [stV]
theorem IsW.itm {K : PySem.W.Frag} {H : Hp} : ∀ x : Itm, IsW K H (itV x) (match x with | .inl _ => true | .inr _ => false)
  | .inl n => IsW.int n
  | .inr c => IsW.str _
end Fo
namespace Fo
open PySem
/-! the text by places -/
def top (i : Nat) : Stmt := PySem.Challenge.pw_fewones_k06_refused.main.body.getD i (.Pass ⟨0, 0, 0, 0⟩)
abbrev sWhole : Stmt := top 7
abbrev sDone : Stmt := top 8
abbrev sWorthOf : Stmt := top 9
abbrev sCheckText : Stmt := top 10
abbrev sWorth : Stmt := top 11
abbrev sOnes : Stmt := top 12
abbrev sPut : Stmt := top 13
abbrev sIsFloor : Stmt := top 16
abbrev sInit : Stmt := L2.inClass (top 17) 0
abbrev sShows : Stmt := L2.inClass (top 17) 1
abbrev sCheckNumber : Stmt := top 22
abbrev sCheckOnes : Stmt := top 23
abbrev sTable : Stmt := top 24
abbrev sTextBy : Stmt := top 25
abbrev sFewest : Stmt := top 26
abbrev sLeast : Stmt := top 27
abbrev sAllWith : Stmt := top 28
abbrev sGreatestOf : Stmt := top 29
abbrev sGreatest : Stmt := top 30
abbrev sLawAlone : Stmt := top 32
abbrev nLawAlone : List Str := ["_law_error", "_law_due", "_law_found", "_law_k"]
abbrev pLawAlone : List Str := ["_law_error", "_law_due"]
abbrev sLawWithText : Stmt := top 33
abbrev nLawWithText : List Str := ["_law_door", "_law_thing"]
abbrev pLawWithText : List Str := ["_law_door", "_law_thing"]
abbrev sLawWithNumber : Stmt := top 34
abbrev nLawWithNumber : List Str := ["_law_door", "_law_thing"]
abbrev pLawWithNumber : List Str := ["_law_door", "_law_thing"]
abbrev sLawWithFew : Stmt := top 35
abbrev nLawWithFew : List Str := ["_law_door", "_law_thing"]
abbrev pLawWithFew : List Str := ["_law_door", "_law_thing"]
abbrev sLawWithMany : Stmt := top 36
abbrev nLawWithMany : List Str := ["_law_door", "_law_thing"]
abbrev pLawWithMany : List Str := ["_law_door", "_law_thing"]
abbrev sLawRefused : Stmt := top 37
abbrev nLawRefused : List Str := ["_law_ask", "_law_door", "_law_thing", "_law_due", "_law_error"]
abbrev pLawRefused : List Str := ["_law_ask", "_law_door", "_law_thing", "_law_due"]
abbrev sLawNoTexts : Stmt := top 38
abbrev nLawNoTexts : List Str := ["_law_cell", "_law_part", "_law_long", "_law_found"]
abbrev pLawNoTexts : List Str := ["_law_cell"]
abbrev sLawNoNumbers : Stmt := top 39
abbrev nLawNoNumbers : List Str := ["_law_cell"]
abbrev pLawNoNumbers : List Str := ["_law_cell"]
abbrev sLawNoFew : Stmt := top 40
abbrev nLawNoFew : List Str := ["_law_cell"]
abbrev pLawNoFew : List Str := ["_law_cell"]
abbrev sLawNoMany : Stmt := top 41
abbrev nLawNoMany : List Str := ["_law_cell"]
abbrev pLawNoMany : List Str := ["_law_cell"]
abbrev sLaw : Stmt := top 42
abbrev nLaw : List Str := ["_law_script", "_law_kinds", "_law_ask", "_law_doors", "_law_things", "_law_due", "_law_door", "_law_cell", "_law_some", "_law_half", "_law_good", "_law_thing"]
abbrev pLaw : List Str := ["_law_script"]
end Fo
namespace Fo
open PySem L2 FO
section
variable {P : Program} {w : World} {K : PySem.W.Frag} {mg : Str → Option Value} {base : Heap}
/-! ### is_whole -/
def spWhole (K : PySem.W.Frag) : Sp := fun vs H Q _ => ∃ (v : V) (b : Bool), vs = [v] ∧ IsW K H v b ∧ Q (.bl b) H
theorem scWhole : FnScope ["thing"] ["thing"] (defScope sWhole) := ⟨rfl, rfl, rfl, by decide +kernel, rfl, by decide +kernel, by decide +kernel⟩
theorem ok_whole (D : Dn K mg "is_whole" sWhole) (B : Bi mg) : Kp P w K mg base CX0 1 "is_whole" (spWhole K) := by
  obtain ⟨f, fd, F, hm⟩ := D.ex
  refine ⟨f, fd, ["thing"], F.ok scWhole (fun vs H Q E h => ?_) (fun cdv A outer s H vs Q E hr h => ?_), hm, F.kp, F.binds fun _ _ _ _ _ _ us hl => match us, hl with | [_], _ => rfl⟩
  · obtain ⟨v, b, rfl, _⟩ := h
    rfl
  · obtain ⟨v, b, rfl, ⟨t, b1, b2, ty, k1, k2, rfl⟩, q⟩ := h
    refine ⟨_, pss_one (ps_ret (pe_and
      (pe_callB call_isi (by rfl) B.isi (by decide +kernel) (pa_cons (pv 0) (pa_cons (pe_bltn (v := .ty "int") (by rfl) B.int (by decide +kernel) rfl) pa_nil)))
      (pe_one (pe_not (pe_callB call_isi (by rfl) B.isi (by decide +kernel) (pa_cons (pv 0) (pa_cons (pe_bltn (v := .ty "bool") (by rfl) B.bool (by decide +kernel) rfl) pa_nil))))))), ?_⟩
    refine ⟨_, rfl, _, _, _, _, b1, rfl, .ty "int", ty, k1, b1, rfl, ?_⟩
    cases b1 with
    | false => exact iteF q
    | true =>
      refine iteT ⟨_, rfl, _, _, _, _, b2, rfl, .ty "bool", ty, k2 rfl, b2, rfl, ?_⟩
      exact q
end
end Fo
namespace Fo
open PySem L2 FO
section
variable {P : Program} {w : World} {K : PySem.W.Frag} {mg : Str → Option Value} {base : Heap}
/-! ### done -/
def spDone (K : PySem.W.Frag) : Sp := fun vs H Q _ => ∃ (a : Addr) (S : List Itm), vs = [.ref a] ∧ SqL K H a (stV S) ∧ S.length ≤ 2001 ∧ phi S ≤ 2001 ∧
  (doneS S = none → ∀ H', Same H H' → Q .non H') ∧ (∀ S', doneS S = some S' → ∀ H' q, Same H H' → H q = none → H' q = some (.lst (stV S')) → Q (.ref q) H')
theorem scDone : FnScope ["stack", "one", "other"] ["stack"] (defScope sDone) := ⟨rfl, rfl, rfl, by decide +kernel, rfl, by decide +kernel, by decide +kernel⟩
theorem stV4 (o s a p : Itm) (r : List Itm) : stV (o :: s :: a :: p :: r) = stV r ++ [itV p, itV a, itV s, itV o] := by
  simp [stV]
theorem scal_it (x : Itm) (z : Str) : scal (itV x) (.str z) = true := by cases x <;> rfl
theorem flat_it (x : Itm) : flatV (itV x) = true := by cases x <;> rfl
theorem it_is (x : Itm) (c : Nat) : decide (itV x = V.str ⟨#[c]⟩) = decide (x = Sum.inr c) := by
  cases x with
  | inl n =>
    rw [decide_eq_false (by intro z; cases z), decide_eq_false (by intro z; cases z)]
  | inr d =>
    by_cases h : d = c
    · subst h
      exact (decide_eq_true (p := itV (.inr d) = V.str ⟨#[d]⟩) rfl).trans (decide_eq_true rfl).symm
    · have h1 : ¬ itV (.inr d) = V.str ⟨#[c]⟩ := fun z => by
        have z' : (⟨#[d]⟩ : Str) = ⟨#[c]⟩ := V.str.inj z
        have z2 : #[d] = #[c] := congrArg Str.cps z'
        simp at z2
        exact h z2
      rw [decide_eq_false h1, decide_eq_false (fun z => h (Sum.inr.inj z))]
theorem in_pm (x : Itm) : inV (itV x) [V.str "+", V.str "*"] = (decide (x = Sum.inr 43) || decide (x = Sum.inr 42)) := by
  cases x with
  | inl n => simp [inV, eqV, itV]
  | inr d =>
    have h1 : (("+" : Str) == (⟨#[d]⟩ : Str)) = decide (d = 43) := by
      have e : ("+" : Str) = ⟨#[43]⟩ := by decide +kernel
      rw [e]
      by_cases h : d = 43
      · subst h; simp
      · simp [h, Ne.symm h]
    have h2 : (("*" : Str) == (⟨#[d]⟩ : Str)) = decide (d = 42) := by
      have e : ("*" : Str) = ⟨#[42]⟩ := by decide +kernel
      rw [e]
      by_cases h : d = 42
      · subst h; simp
      · simp [h, Ne.symm h]
    simp only [inV, List.any_cons, List.any_nil, Bool.or_false, itV, eqV]
    simp [h1, h2]
theorem done_short {S : List Itm} (h : S.length < 4) : doneS S = none := by
  unfold doneS
  split
  · simp only [List.length_cons] at h; omega
  · rfl
theorem ok_done (D : Dn K mg "done" sDone) (B : Bi mg) (W : Kp P w K mg base CX0 1 "is_whole" (spWhole K)) : Kp P w K mg base CX0 2 "done" (spDone K) := by
  obtain ⟨f, fd, F, hm⟩ := D.ex
  refine ⟨f, fd, ["stack"], F.ok scDone (fun vs H Q E h => ?_) (fun cdv A outer s H vs Q E hr h => ?_), hm, F.kp, F.binds fun _ _ _ _ _ _ us hl => match us, hl with | [_], _ => rfl⟩
  · obtain ⟨a, S, rfl, _⟩ := h
    rfl
  · obtain ⟨a, S, rfl, hS, hlen, hphi, kN, kS⟩ := h
    refine ⟨_, pss_cons (ps_if (PW.pt (pw_or (pt_cmpR op_lt (pe_callB call_len_seq (by rfl) B.len PySem.boot_len (pa_cons (pv 0) pa_nil)) pe_int (nomark _))
        (pw_or (pt_cmpR op_ne (pe_ix ix_list (pv 0) (pe_un un_neg pe_int) (fun _ _ => rfl)) pe_str (nomark _))
        (pw_or1 (pt_cmpR op_notIn_seq (pe_ix ix_list (pv 0) (pe_un un_neg pe_int) (fun _ _ => rfl)) (pe_tup (pa_cons pe_str (pa_cons pe_str pa_nil))) (by rfl))))))
          (pss_one (ps_ret pe_non)) pss_nil)
      (pss_cons (ps_par (i := 1) (j := 2) (by rfl) scDone.nd rfl rfl (by decide) rfl rfl (pa_cons (pe_ix ix_list (pv 0) (pe_un un_neg pe_int) (fun _ _ => rfl)) (pa_cons (pe_ix ix_list (pv 0) (pe_un un_neg pe_int) (fun _ _ => rfl)) pa_nil)) (by rfl))
      (pss_cons (ps_if (PW.pt (pw_or (pt_not (pt_val (pk W hr (by decide) rfl (pa_cons (pv 1) pa_nil)))) (pw_or1 (pt_not (pt_val (pk W hr (by decide) rfl (pa_cons (pv 2) pa_nil)))))))
          (pss_one (ps_ret pe_non)) pss_nil)
      (pss_one (ps_ret (pe_op op_cat (pe_slice sl_list (pv 0) po_none (po_some (pe_un un_neg pe_int)))
        (pe_lst (pa_cons (pe_ifExp (pt_cmpR op_eq (pe_ix ix_list (pv 0) (pe_un un_neg pe_int) (fun _ _ => rfl)) pe_str (nomark _)) (pe_op op_add (pv 1) (pv 2)) (pe_op op_mulX (pv 1) (pv 2))) pa_nil))))))), ?_⟩
    refine ⟨_, rfl, a, _, rfl, .inl hS, _, _, rfl, rfl, _, rfl, ?_⟩
    by_cases hl : S.length < 4
    · exact ifT (decide_eq_true (by rw [stV_length]; omega)) (iteT (kN (done_short hl) H (Same.refl H)))
    obtain ⟨o, u, x, p, r, rfl⟩ : ∃ o u x p r, S = o :: u :: x :: p :: r := by
      match S, hl with
      | o :: u :: x :: p :: r, _ => exact ⟨o, u, x, p, r, rfl⟩
      | [], h => exact absurd (by decide) h
      | [_], h => exact absurd (by simp) h
      | [_, _], h => exact absurd (by simp) h
      | [_, _, _], h => exact absurd (by simp) h
    rw [stV4] at hS
    refine ifF (decide_eq_false (by rw [stV_length]; omega)) ?_
    have L : (stV r ++ [itV p, itV x, itV u, itV o]).length = r.length + 4 := by rw [List.length_append, stV_length]; rfl
    have g4 : atI (stV r ++ [itV p, itV x, itV u, itV o]) (-4) = some (itV p) := atI_neg (k := 4) (by decide) (by omega) (by rw [L, List.getElem?_append_right (by rw [stV_length]; omega), stV_length]; simp) rfl
    have g3 : atI (stV r ++ [itV p, itV x, itV u, itV o]) (-3) = some (itV x) := atI_neg (k := 3) (by decide) (by omega) (by rw [L, List.getElem?_append_right (by rw [stV_length]; omega), stV_length, show r.length + 4 - 3 - r.length = 1 by omega]; rfl) rfl
    have g2 : atI (stV r ++ [itV p, itV x, itV u, itV o]) (-2) = some (itV u) := atI_neg (k := 2) (by decide) (by omega) (by rw [L, List.getElem?_append_right (by rw [stV_length]; omega), stV_length, show r.length + 4 - 2 - r.length = 2 by omega]; rfl) rfl
    have g1 : atI (stV r ++ [itV p, itV x, itV u, itV o]) (-1) = some (itV o) := atI_neg (k := 1) (by decide) (by omega) (by rw [L, List.getElem?_append_right (by rw [stV_length]; omega), stV_length, show r.length + 4 - 1 - r.length = 3 by omega]; rfl) rfl
    have ePar : ("(" : Str) = ⟨#[40]⟩ := by decide +kernel
    have ePlus : ("+" : Str) = ⟨#[43]⟩ := by decide +kernel
    -- stack[-4] != "("
    refine ⟨_, rfl, _, rfl, a, _, _, _, rfl, rfl, hS, g4, scal_it _ _, _, rfl, ?_⟩
    by_cases hp : ¬ p = Sum.inr 40
    · refine ifT ?_ (iteT (kN ?_ H (Same.refl H)))
      · rw [ePar, it_is, decide_eq_false hp]; rfl
      · unfold doneS
        split
        · rename_i b s a o' r' e
          injection e with e1 e; injection e with e2 e; injection e with e3 e; injection e with e4 e
          rw [if_neg (fun z => hp (by rw [e4, z]))]
        · rfl
    have hp := Classical.not_not.mp hp
    refine ifF (by rw [ePar, it_is, decide_eq_true hp]; rfl) ?_
    -- stack[-2] not in ("+", "*")
    refine ⟨_, rfl, _, rfl, a, _, _, _, rfl, rfl, hS, g2, by decide, fun T hT => ?_⟩
    refine ⟨T, _, rfl, .inr (SqT.of upd_same), flat_it _, rfl, _, rfl, ?_⟩
    have sT : Same H (upd H T (.tup [V.str "+", V.str "*"])) := sm_upd hT
    have hS1 := sT.seq hS
    by_cases hu : ¬ (u = Sum.inr 43 ∨ u = Sum.inr 42)
    · refine ifT ?_ (kN ?_ _ sT)
      · show (!inV (itV u) _) = true
        rw [in_pm, decide_eq_false (fun z => hu (.inl z)), decide_eq_false (fun z => hu (.inr z))]; rfl
      · unfold doneS
        split
        · rename_i b s a o' r' e
          injection e with e1 e; injection e with e2 e; injection e with e3 e; injection e with e4 e
          rw [if_neg (show ¬ s = 43 from fun z => hu (.inl (by rw [e2, z]))), if_neg (show ¬ s = 42 from fun z => hu (.inr (by rw [e2, z])))]
          split <;> rfl
        · rfl
    have hu := Classical.not_not.mp hu
    refine ifF ?_ ?_
    · show (!inV (itV u) _) = false
      rw [in_pm]
      rcases hu with z | z
      · rw [decide_eq_true z]; rfl
      · rw [decide_eq_true z, Bool.or_true]; rfl
    -- one, other = stack[-3], stack[-1]
    refine ⟨_, rfl, _, rfl, a, _, _, _, rfl, rfl, hS1, g3, _, rfl, _, rfl, a, _, _, _, rfl, rfl, hS1, g1, _, _, rfl, ?_⟩
    refine ⟨_, rfl, _, _, rfl, IsW.itm x, _, rfl, ?_⟩
    cases x with
    | inr c => exact iteT (iteT (kN (by unfold doneS; split <;> first | rfl | (rename_i e; injection e with e1 e; injection e with e2 e; injection e with e3 e; cases e3)) _ sT))
    | inl m =>
    refine iteF ⟨_, rfl, _, _, rfl, IsW.itm o, _, rfl, ?_⟩
    cases o with
    | inr c => exact iteT (kN (by unfold doneS; split <;> first | rfl | (rename_i e; injection e with e1 e; cases e1)) _ sT)
    | inl n =>
    refine iteF ?_
    -- stack[:-4] + [..]
    refine ⟨_, rfl, _, rfl, _, rfl, a, _, rfl, hS1, fun R hR => ?_⟩
    have sR := sm_new (o := .lst (cutV (stV r ++ [itV p, itV (.inl m), itV u, itV (.inl n)]) none (some (-4)))) sT hR
    have cut : cutV (stV r ++ [itV p, itV (.inl m), itV u, itV (.inl n)]) none (some (-4)) = stV r := by
      unfold cutV
      rw [L]
      show ((stV r ++ [itV p, itV (.inl m), itV u, itV (.inl n)]).drop 0).take ((-4 + ((r.length + 4 : Nat) : Int)).toNat - 0) = stV r
      rw [List.drop_zero, show (-4 + ((r.length + 4 : Nat) : Int)).toNat - 0 = (stV r).length by rw [stV_length]; omega, List.take_left]
    rw [cut] at sR ⊢
    have hS2 := sR.seq hS
    refine ⟨_, rfl, _, rfl, a, _, _, _, rfl, rfl, hS2, g2, scal_it _ _, _, rfl, ?_⟩
    have fin : ∀ z : Int, doneS (.inl n :: u :: .inl m :: p :: r) = some (.inl z :: r) → ∀ D, upd (upd H T (.tup [V.str "+", V.str "*"])) R (.lst (stV r)) D = none →
        rCat (V.ref R) (.ref D) (upd (upd (upd H T (.tup [V.str "+", V.str "*"])) R (.lst (stV r))) D (.lst [V.int z])) Q := fun z hz D hD => by
      have sD := sm_new (o := .lst [V.int z]) sR hD
      refine ⟨R, D, _, _, rfl, rfl, (by rw [upd_ne (ne_of_none upd_same hD), upd_same]), upd_same, ?_, fun q hq => ?_⟩
      · rw [stV_length]
        simp only [List.length_cons] at hlen
        have e : sizeLine = 16777216 := PySem.sizeLine_eq
        rw [e]
        show r.length + 1 ≤ _
        omega
      · exact kS _ hz _ q (sm_new sD hq) (sD.free hq) (by rw [upd_same, stV_cons]; rfl)
    by_cases h43 : u = Sum.inr 43
    · refine ifT (by rw [ePlus, it_is, decide_eq_true h43]) ?_
      refine ⟨_, rfl, _, rfl, m, n, rfl, rfl, (show 1 ≤ sizeLine by decide), fun D hD => fin _ ?_ D hD⟩
      rw [hp, h43]
      rfl
    · have h42 : u = Sum.inr 42 := hu.resolve_left h43
      refine ifF (by rw [ePlus, it_is, decide_eq_false h43]) ?_
      refine ⟨_, rfl, _, rfl, m, n, rfl, rfl, ?_, (show 1 ≤ sizeLine by decide), fun D hD => fin _ ?_ D hD⟩
      · rw [h42] at hphi
        simp only [phi] at hphi
        have b : ∀ x : Int, PySem.Builtin.Int.intBits x ≤ x.natAbs.log2 + 1 := fun x => by
          unfold PySem.Builtin.Int.intBits
          split <;> omega
        have b1 := b m
        have b2 := b n
        unfold CMulX
        omega
      · rw [hp, h42]
        rfl
end
end Fo
namespace Fo
open PySem L2 FO
section
variable {P : Program} {w : World} {K : PySem.W.Frag} {mg : Str → Option Value} {base : Heap}
/-! ### worth_of -/
/-- the codes of a text -/
abbrev tl (z : Str) : List Nat := z.cps.toList
def NoStr (K : PySem.W.Frag) (H : Hp) (v : V) : Prop := ∃ t, TyX K H v t ∧ PySem.W.kitOne K t (.type "str") = some false
def spWorthOf (K : PySem.W.Frag) : Sp := fun vs H Q _ => ∃ v, vs = [v] ∧ ((∃ z, v = .str z ∧ z.length ≤ sizeLine ∧ ∀ H', Same H H' → Q (.int (worthL (tl z))) H') ∨ (NoStr K H v ∧ ∀ H', Same H H' → Q (.int 0) H'))
theorem scWorthOf : FnScope ["text", "stack", "sign"] ["text"] (defScope sWorthOf) := ⟨rfl, rfl, rfl, by decide +kernel, rfl, by decide +kernel, by decide +kernel⟩
theorem take_snoc {α : Type} {l : List α} {i : Nat} {x : α} (h : l[i]? = some x) : l.take (i + 1) = l.take i ++ [x] := by
  rw [List.take_add_one, h]
  rfl
theorem str1 (c d : Nat) : decide (V.str ⟨#[c]⟩ = V.str ⟨#[d]⟩) = decide (c = d) := it_is (.inr c) d |>.trans (by
  by_cases h : c = d
  · rw [decide_eq_true h, decide_eq_true (by rw [h])]
  · rw [decide_eq_false h, decide_eq_false (fun z => h (Sum.inr.inj z))])
theorem run_fail {t : List Nat} {i c : Nat} {S : List Itm} (hc : t[i]? = some c) (h : runS [] (t.take i) = some S) (hs : stepS S c = none) : runS [] t = none := by
  have e : t = t.take (i + 1) ++ t.drop (i + 1) := (List.take_append_drop _ _).symm
  rw [e, take_snoc hc, runS_append, run_snoc h, hs]
theorem ok_worthOf (D : Dn K mg "worth_of" sWorthOf) (B : Bi mg) (lon : ∃ u, mg "LONGEST" = some u ∧ RelV (.int 2000) u) (W : Kp P w K mg base CX0 1 "is_whole" (spWhole K)) (Dk : Kp P w K mg base CX0 2 "done" (spDone K)) : Kp P w K mg base CX0 3 "worth_of" (spWorthOf K) := by
  obtain ⟨f, fd, F, hm⟩ := D.ex
  refine ⟨f, fd, ["text"], F.ok scWorthOf (fun vs H Q E h => ?_) (fun cdv A outer s H vs Q E hr h => ?_), hm, F.kp, F.binds fun _ _ _ _ _ _ us hl => match us, hl with | [_], _ => rfl⟩
  · obtain ⟨v, rfl, _⟩ := h
    rfl
  · obtain ⟨v, rfl, h⟩ := h
    refine ⟨_, pss_cons (ps_if (PW.pt (pw_or (pt_not (pt_val (pe_callB call_isi (by rfl) B.isi (by decide +kernel) (pa_cons (pv 0) (pa_cons (pe_bltn (v := .ty "str") (by rfl) B.str (by decide +kernel) rfl) pa_nil)))))
        (pw_or1 (pt_cmpR op_gt (pe_callB call_len_str (by rfl) B.len PySem.boot_len (pa_cons (pv 0) pa_nil)) (C8.pe_gc rfl lon) (nomark _)))))
          (pss_one (ps_ret pe_int)) pss_nil)
      (pss_cons (ps_set (i := 1) scWorthOf.nd rfl (Or.inl rfl) (pe_lst pa_nil))
      (pss_cons (ps_for PassesOwn.never rfl (pi_str (pv 0)) (pg_name (i := 2) scWorthOf.nd rfl (Or.inl rfl))
        (pss_one (ps_if (pt_cmpR op_eq (pv 2) pe_str (nomark _))
          (pss_one (ps_expr (pe_bm PySem.F.plainAttrs_list PySem.F.slot_list_append PySem.F.type_list_append mt_append (pv 1) (pa_cons pe_int pa_nil))))
          (pss_one (ps_if (pt_cmpR op_eq (pv 2) pe_str (nomark _))
            (pss_cons (ps_set (i := 1) scWorthOf.nd rfl (Or.inl rfl) (pk Dk hr (by decide) rfl (pa_cons (pv 1) pa_nil)))
              (pss_one (ps_if (pt_cmpR op_isN (pv 1) pe_non (nomark _)) (pss_one (ps_ret pe_int)) pss_nil)))
            (pss_one (ps_if (pt_cmpR op_in_sign (pv 2) pe_str rfl)
              (pss_one (ps_expr (pe_bm PySem.F.plainAttrs_list PySem.F.slot_list_append PySem.F.type_list_append mt_append (pv 1) (pa_cons (pv 2) pa_nil))))
              (pss_one (ps_ret pe_int)))))))))
      (pss_one (ps_ret (pe_ifExp (PW.pt (pw_and (pt_cmpR op_eq (pe_callB call_len_seq (by rfl) B.len PySem.boot_len (pa_cons (pv 1) pa_nil)) pe_int (nomark _))
          (pw_and1 (pt_val (pk W hr (by decide) rfl (pa_cons (pe_ix ix_list (pv 1) pe_int (fun _ _ => rfl)) pa_nil))))))
        (pe_ix ix_list (pv 1) pe_int (fun _ _ => rfl)) pe_int))))), ?_⟩
    rcases h with ⟨z, rfl, hz, k⟩ | ⟨⟨t, ty, kt⟩, k⟩
    · refine ⟨_, rfl, _, _, _, _, true, rfl, .ty "str", .base (.str z), kit_ty (by decide +kernel), true, rfl, iteF ?_⟩
      refine ⟨_, rfl, z, rfl, hz, _, _, rfl, rfl, _, rfl, ?_⟩
      have hlz : z.length = (tl z).length := by simp [tl, Str.length]
      by_cases hl : ¬ (tl z).length ≤ 2000
      · refine ifT (decide_eq_true (by rw [hlz]; omega)) ?_
        have q := k H (Same.refl H)
        unfold worthL at q
        rw [if_neg hl] at q
        exact q
      have hl := Classical.not_not.mp hl
      refine ifF (decide_eq_false (by rw [hlz]; omega)) ?_
      refine ⟨Nat.zero_le _, fun q0 hq0 => ?_⟩
      have kk : ∀ H', Same H H' → Q (.int (readL (tl z))) H' := fun H' s => by
        have q := k H' s
        unfold worthL at q
        rw [if_pos hl] at q
        exact q
      have bad : runS [] (tl z) = none → ∀ H', Same H H' → Q (.int 0) H' := fun e H' s => by
        have q := kk H' s
        unfold readL at q
        rw [e] at q
        exact q
      refine ⟨_, rfl, z, rfl, for_it walk_str (fun i σ H' => ∃ (S : List Itm) (q : Addr) (v : Option V), σ = [some (.str z), some (.ref q), v] ∧ runS [] ((tl z).take i) = some S ∧ H' q = some (.lst (stV S)) ∧ H q = none ∧ Same H H')
        ⟨[], q0, none, rfl, rfl, upd_same, hq0, sm_upd hq0⟩ (fun _ _ _ _ _ => trivial) ?_ ?_⟩
      · rintro i x σ H1 H2 hi ⟨S, q, v, rfl, hrun, hq, hn, hs⟩ ⟨rfl, c, hc, rfl⟩
        have hcl : (tl z)[i]? = some c := by rw [Array.getElem?_toList]; exact hc
        have hit : i < (tl z).length := (List.getElem?_eq_some_iff.mp hcl).1
        have hlS : S.length ≤ 2000 := by
          have a := len_run _ _ _ hrun
          rw [List.length_take] at a
          simp only [List.length_nil] at a
          omega
        have hpS : phi S ≤ 2000 := by
          have a := phi_run _ _ _ hrun
          rw [List.length_take] at a
          simp only [phi] at a
          omega
        have e1 : ("1" : Str) = ⟨#[49]⟩ := by decide +kernel
        have e2 : (")" : Str) = ⟨#[41]⟩ := by decide +kernel
        have next : ∀ S', stepS S c = some S' → runS [] ((tl z).take (i + 1)) = some S' := fun S' e => by
          rw [take_snoc hcl, run_snoc hrun, e]
        refine ⟨_, rfl, rfl, _, rfl, ?_⟩
        by_cases h1 : c = 49
        · refine ifT (by rw [e1, str1, decide_eq_true h1]) ?_
          refine ⟨_, rfl, .inl ⟨rfl, _, SqL.of hq⟩, q, _, _, rfl, rfl, hq, ?_, ?_⟩
          · rw [stV_length, PySem.sizeLine_eq]; omega
          · exact ⟨.inl 1 :: S, q, _, rfl, next _ (by unfold stepS; rw [if_pos h1]), by rw [upd_same, stV_cons]; rfl, hn, sm_put hs hn⟩
        refine ifF (by rw [e1, str1, decide_eq_false h1]) ?_
        refine ⟨_, rfl, rfl, _, rfl, ?_⟩
        by_cases h2 : c = 41
        · refine ifT (by rw [e2, str1, decide_eq_true h2]) ?_
          have hst : stepS S c = doneS S := by unfold stepS; rw [if_neg h1, if_pos h2]
          refine ⟨_, rfl, q, S, rfl, SqL.of hq, by omega, by omega, fun hd H' s' => ?_, fun S' hd H' q' s' n' hq' => ?_⟩
          · refine ⟨_, rfl, rfl, _, rfl, iteT ?_⟩
            exact bad (run_fail hcl hrun (hst.trans hd)) H' (hs.trans s')
          · refine ⟨_, rfl, rfl, _, rfl, iteF ?_⟩
            exact ⟨S', q', _, rfl, next _ (hst.trans hd), hq', hs.free n', hs.trans s'⟩
        refine ifF (by rw [e2, str1, decide_eq_false h2]) ?_
        refine ⟨_, rfl, c, _, rfl, rfl, _, rfl, ?_⟩
        have e3 : (("(+*" : Str)).cps.toList = [40, 43, 42] := by decide +kernel
        by_cases h3 : c = 40 ∨ c = 43 ∨ c = 42
        · refine ifT (decide_eq_true (by rw [e3]; simpa using h3)) ?_
          refine ⟨_, rfl, .inl ⟨rfl, _, SqL.of hq⟩, _, rfl, q, _, _, rfl, rfl, hq, ?_, ?_⟩
          · rw [stV_length, PySem.sizeLine_eq]; omega
          · exact ⟨.inr c :: S, q, _, rfl, next _ (by unfold stepS; rw [if_neg h1, if_neg h2, if_pos h3]), by rw [upd_same, stV_cons]; rfl, hn, sm_put hs hn⟩
        · refine ifF (decide_eq_false (by rw [e3]; simpa using h3)) ?_
          exact bad (run_fail hcl hrun (by unfold stepS; rw [if_neg h1, if_neg h2, if_neg h3])) _ hs
      · rintro σ H1 ⟨S, q, v, rfl, hrun, hq, hn, hs⟩
        have htk : (tl z).take z.cps.size = tl z := List.take_of_length_le (by simp [tl])
        rw [htk] at hrun
        refine ⟨_, rfl, q, _, rfl, .inl (SqL.of hq), rfl, _, rfl, ?_⟩
        have val : ∀ H', Same H H' → Q (.int (endS (some S))) H' := fun H' s => by
          have q := kk H' s
          unfold readL at q
          rw [hrun] at q
          exact q
        by_cases h1 : S.length = 1
        · obtain ⟨x, rfl⟩ : ∃ x, S = [x] := List.length_eq_one_iff.mp h1
          refine ifT (decide_eq_true (by rfl)) ?_
          have hat : atI (stV [x]) 0 = some (itV x) := atI_nat (j := 0) rfl
          refine ⟨_, rfl, q, _, _, _, rfl, rfl, SqL.of hq, hat, _, _, rfl, IsW.itm x, _, rfl, ?_⟩
          cases x with
          | inl n => exact iteT ⟨_, rfl, q, _, _, _, rfl, rfl, SqL.of hq, hat, val _ hs⟩
          | inr n => exact iteF (val _ hs)
        · refine ifF (decide_eq_false ?_) ?_
          · rw [stV_length]
            intro z
            have z' := V.int.inj z
            omega
          · have e0 : endS (some S) = 0 := by
              unfold endS
              split
              · rename_i n e
                cases e
                exact absurd rfl h1
              · rfl
            rw [e0] at val
            exact val _ hs
    · refine ⟨_, rfl, _, _, _, _, false, rfl, .ty "str", ty, kt, false, rfl, iteT ?_⟩
      exact iteT (k H (Same.refl H))
end
end Fo
namespace Fo
open PySem L2 FO
/-! ### how often a sign stands in a text -/
theorem occ_count (x : Str) (c : Nat) : ∀ (k i : Nat) (st : Array Nat × Nat), i + k = x.length + 1 → st.1.size ≤ i → st.2 ≤ i →
    (forIn (List.range' i k) st (StrLaws.occBody x ⟨#[c]⟩ x.length (x.length + 1))).run.fst.size = st.1.size + ((tl x).drop i).count c
  | 0, i, st, h, h1, h2 => by
    have e : (tl x).drop i = [] := List.drop_eq_nil_of_le (by show x.cps.toList.length ≤ i; rw [Array.length_toList]; show x.length ≤ i; omega)
    rw [e]
    rfl
  | k + 1, i, st, h, h1, h2 => by
    rw [List.range'_succ, List.forIn_cons]
    have sub := StrLaws.subAt_one x c i
    by_cases hc : (tl x)[i]? = some c
    · have q := sub.mpr hc
      have hb : StrLaws.occBody x ⟨#[c]⟩ x.length (x.length + 1) i st = pure (ForInStep.yield (st.1.push i, i + 1)) := by
        unfold StrLaws.occBody
        rw [if_pos ⟨⟨⟨by omega, h2⟩, q.1⟩, q.2⟩]
        rfl
      rw [hb]
      have ih := occ_count x c k (i + 1) (st.1.push i, i + 1) (by omega) (by rw [Array.size_push]; omega) (Nat.le_refl _)
      have hd : (tl x).drop i = c :: (tl x).drop (i + 1) := by
        obtain ⟨hlt, e⟩ := List.getElem?_eq_some_iff.mp hc
        rw [List.drop_eq_getElem_cons hlt, e]
      rw [hd, List.count_cons_self]
      refine Eq.trans ih ?_
      rw [Array.size_push]
      omega
    · have hb : StrLaws.occBody x ⟨#[c]⟩ x.length (x.length + 1) i st = pure (ForInStep.yield (st.1, st.2)) := by
        unfold StrLaws.occBody
        rw [if_neg (fun q => hc (sub.mp ⟨q.1.2, q.2⟩))]
      rw [hb]
      have ih := occ_count x c k (i + 1) (st.1, st.2) (by omega) (by show st.1.size ≤ _; omega) (by show st.2 ≤ _; omega)
      refine Eq.trans ih ?_
      by_cases hlt : i < (tl x).length
      · rw [List.drop_eq_getElem_cons hlt, List.count_cons_of_ne]
        intro z
        exact hc (by rw [List.getElem?_eq_getElem hlt, z])
      · have e : (tl x).drop i = [] := List.drop_eq_nil_of_le (by omega)
        have e' : (tl x).drop (i + 1) = [] := List.drop_eq_nil_of_le (by omega)
        rw [e, e']
theorem count_is (x : Str) (c : Nat) : Txt.count x ⟨#[c]⟩ = (((tl x).count c : Nat) : Int) := by
  unfold Txt.count
  rw [StrLaws.occ_eq, Array.length_toList, Nat.sub_zero, occ_count x c (x.length + 1) 0 (#[], 0) (by omega) (Nat.le_refl _) (Nat.le_refl _)]
  simp
theorem count_one (x : Str) : Txt.count x "1" = (((tl x).count 49 : Nat) : Int) := by
  have e : ("1" : Str) = ⟨#[49]⟩ := by decide +kernel
  rw [e]
  exact count_is x 49
/-! ### errors -/
/-- the error class x of the program stands at C -/
structure ErC (K : PySem.W.Frag) (mg : Str → Option Value) (x : Str) (C : Addr) : Prop where
  g : mg x = some (.ref C)
  x : PySem.W.excIn K C [.type "ValueError", .type "Exception", .type "BaseException", .type "object"] "ValueError.__new__" = true
  k : PySem.W.keepIn K (.ref C) = true
  b : PySem.W.subIn K (.ref C) (.type "BaseException") = some true
  t : PySem.W.typeIn K (.ref C) = some (.type "type")
section
variable {P : Program} {w : World} {K : PySem.W.Frag} {mg : Str → Option Value} {base : Heap} {CT : Addr}
/-! ### check_text, worth, ones -/
/-- a text is asked: behind it what is wanted of a writing (with its worth), and what of all else -/
def AskT (K : PySem.W.Frag) (v : V) (H : Hp) (good : Str → Prop) (bad : Prop) : Prop :=
  (∃ z, v = .str z ∧ z.length ≤ sizeLine ∧ (worthL (tl z) = 0 → bad) ∧ (worthL (tl z) ≠ 0 → good z)) ∨ (NoStr K H v ∧ bad)
def spCheckText (K : PySem.W.Frag) (C : Addr) : Sp := fun vs H Q E => ∃ v, vs = [v] ∧ AskT K v H (fun _ => ∀ H', Same H H' → Q .non H') (∀ H', Same H H' → E (.ref C) none H')
def spWorth (K : PySem.W.Frag) (C : Addr) : Sp := fun vs H Q E => ∃ v, vs = [v] ∧ AskT K v H (fun z => ∀ H', Same H H' → Q (.int (worthL (tl z))) H') (∀ H', Same H H' → E (.ref C) none H')
def spOnes (K : PySem.W.Frag) (C : Addr) : Sp := fun vs H Q E => ∃ v, vs = [v] ∧ AskT K v H (fun z => ∀ H', Same H H' → Q (.int (((tl z).count 49 : Nat) : Int)) H') (∀ H', Same H H' → E (.ref C) none H')
theorem scCheckText : FnScope ["text"] ["text"] (defScope sCheckText) := ⟨rfl, rfl, rfl, by decide +kernel, rfl, by decide +kernel, by decide +kernel⟩
theorem scWorth : FnScope ["text"] ["text"] (defScope sWorth) := ⟨rfl, rfl, rfl, by decide +kernel, rfl, by decide +kernel, by decide +kernel⟩
theorem scOnes : FnScope ["text"] ["text"] (defScope sOnes) := ⟨rfl, rfl, rfl, by decide +kernel, rfl, by decide +kernel, by decide +kernel⟩
theorem ok_checkText (D : Dn K mg "check_text" sCheckText) (T : ErC K mg "BadText" CT) (W : Kp P w K mg base CX0 3 "worth_of" (spWorthOf K)) : Kp P w K mg base (L2N.CX P w) 4 "check_text" (spCheckText K CT) := by
  obtain ⟨f, fd, F, hm⟩ := D.ex
  refine ⟨f, fd, ["text"], F.okN scCheckText (fun vs H Q E h => ?_) (fun cdv A outer s H vs Q E hr h => ?_), hm, F.kp, F.binds fun _ _ _ _ _ _ us hl => match us, hl with | [_], _ => rfl⟩
  · obtain ⟨v, rfl, _⟩ := h
    rfl
  · obtain ⟨v, rfl, h⟩ := h
    refine ⟨_, pss_one (ps_if (pt_cmpR op_eq (pk W hr (by decide) rfl (pa_cons (pv 0) pa_nil)) pe_int (nomark _))
      (pss_one (L2N.ps_raise rfl (L2N.takes_of rfl rfl rfl rfl) (L2N.pmk_own PySem.F.excBase_ValueError T.x T.g T.k (raises_own T.b T.t) rfl))) pss_nil), ?_⟩
    rcases h with ⟨z, rfl, hz, kb, kg⟩ | ⟨ns, kb⟩
    · refine ⟨_, rfl, _, rfl, .inl ⟨z, rfl, hz, fun H' s' => ⟨rfl, _, rfl, ?_⟩⟩⟩
      by_cases h0 : worthL (tl z) = 0
      · exact ifT (decide_eq_true (by rw [h0])) (kb h0 H' s')
      · exact ifF (decide_eq_false (fun q => h0 (V.int.inj q))) (kg h0 H' s')
    · exact ⟨_, rfl, _, rfl, .inr ⟨ns, fun H' s' => ⟨rfl, _, rfl, iteT (kb H' s')⟩⟩⟩
theorem ok_worth (D : Dn K mg "worth" sWorth) (W : Kp P w K mg base CX0 3 "worth_of" (spWorthOf K)) (C : Kp P w K mg base (L2N.CX P w) 4 "check_text" (spCheckText K CT)) : Kp P w K mg base (L2N.CX P w) 5 "worth" (spWorth K CT) := by
  obtain ⟨f, fd, F, hm⟩ := D.ex
  refine ⟨f, fd, ["text"], F.okN scWorth (fun vs H Q E h => ?_) (fun cdv A outer s H vs Q E hr h => ?_), hm, F.kp, F.binds fun _ _ _ _ _ _ us hl => match us, hl with | [_], _ => rfl⟩
  · obtain ⟨v, rfl, _⟩ := h
    rfl
  · obtain ⟨v, rfl, h⟩ := h
    refine ⟨_, pss_cons (ps_expr (pkS C (L2N.takes_of rfl rfl rfl rfl) hr (by decide) rfl (pa_cons (pv 0) pa_nil))) (pss_one (ps_ret (pk W hr (by decide) rfl (pa_cons (pv 0) pa_nil)))), ?_⟩
    rcases h with ⟨z, rfl, hz, kb, kg⟩ | ⟨ns, kb⟩
    · refine ⟨_, rfl, _, rfl, .inl ⟨z, rfl, hz, kb, fun h0 H' s' => ?_⟩⟩
      exact ⟨_, rfl, _, rfl, .inl ⟨z, rfl, hz, fun H2 s2 => kg h0 H2 (s'.trans s2)⟩⟩
    · exact ⟨_, rfl, _, rfl, .inr ⟨ns, kb⟩⟩
theorem ok_ones (D : Dn K mg "ones" sOnes) (C : Kp P w K mg base (L2N.CX P w) 4 "check_text" (spCheckText K CT)) : Kp P w K mg base (L2N.CX P w) 5 "ones" (spOnes K CT) := by
  obtain ⟨f, fd, F, hm⟩ := D.ex
  refine ⟨f, fd, ["text"], F.okN scOnes (fun vs H Q E h => ?_) (fun cdv A outer s H vs Q E hr h => ?_), hm, F.kp, F.binds fun _ _ _ _ _ _ us hl => match us, hl with | [_], _ => rfl⟩
  · obtain ⟨v, rfl, _⟩ := h
    rfl
  · obtain ⟨v, rfl, h⟩ := h
    refine ⟨_, pss_cons (ps_expr (pkS C (L2N.takes_of rfl rfl rfl rfl) hr (by decide) rfl (pa_cons (pv 0) pa_nil))) (pss_one (ps_ret (pe_m1 PySem.F.slot_str_count PySem.F.type_str_count mt_count (pv 0) pe_str))), ?_⟩
    rcases h with ⟨z, rfl, hz, kb, kg⟩ | ⟨ns, kb⟩
    · refine ⟨_, rfl, _, rfl, .inl ⟨z, rfl, hz, kb, fun h0 H' s' => ?_⟩⟩
      refine ⟨_, rfl, ⟨z, rfl⟩, z, _, rfl, rfl, ?_⟩
      show Q (.int (Txt.count z "1")) H'
      rw [count_one]
      exact kg h0 H' s'
    · exact ⟨_, rfl, _, rfl, .inr ⟨ns, kb⟩⟩
end
end Fo
namespace Fo
open PySem L2 FO PySem.Spec PyProof.Rows
/-! ### calls of a name that holds a def; errors that are caught -/
/-- the i-th slot holds a def f with the promise sp; what is raised is wished for by W -/
def tCallVS (i : Nat) (S : Addr → Sp → Prop) (W : WX) (t : TA) : TE := fun σ H Q => ∃ f sp, σ[i]? = some (some (.ref f)) ∧ S f sp ∧ t σ H fun vs H1 => sp vs H1 Q (WE W σ)
/-- the def at f keeps sp -/
structure Ka (P : Program) (w : World) (K : PySem.W.Frag) (mg : Str → Option Value) (base : Heap) (CX : CXT) (k : Nat) (f : Addr) (sp : Sp) : Prop where
  ex : ∃ (fd : FuncData) (ps : List Str), FnOk P w K mg base CX k f fd ps sp ∧ PySem.W.keepIn K (.ref f) = true ∧ Binds K fd ps []
section
variable {X : Cx} {k j i : Nat} {x : Str} {p pos : Pos} {e : Expr} {es : List Expr} {t : TA}
theorem pkV {W : WX} {S : Addr → Sp → Prop} (A : ∀ f sp, S f sp → Ka X.prog X.w X.K X.mg X.base (L2N.CX X.prog X.w) k f sp) (tk : L2N.Takes X W) (hr : Room j X.A) (hk : k ≤ j) (hN : X.N[i]? = some x) (hv : Vis X.env.scope x) (ha : PA X (e :: es) t)
    (hdb : (x == ("__debug__" : Str)) = false := by decide)
    (hcd : (x == ("__classdict__" : Str)) = false := by decide)
    (he : starEach (e :: es) X.env = (false, eval e X.env) :: starEach es X.env := by rfl)
    (hpl : (backTo pos (starEach es X.env)).any (·.1) = false := by rfl) :
    PE X (.Call (.Name x p) (e :: es) [] pos) (tCallVS i S W t) := by
  refine ⟨fun pins s σ H Q I h => ?_⟩
  obtain ⟨f, sp, hs, hS, ht⟩ := h
  obtain ⟨fd, ps, F, kp, hb⟩ := (A f sp hS).ex
  have load := (pe_var (pos := p) hN hv hdb hcd).run pins s σ H (fun v H1 => v = .ref f ∧ H1 = H) I ⟨.ref f, hs, rfl, rfl⟩
  refine wpAny_Call_Name_kw (thn load fun u s1 back => ?_)
  obtain ⟨v, H1, I1, r1, ev, eH⟩ := back
  subst ev eH
  have eu : u = Value.ref f := r1
  subst eu
  have run := ha.run pos pins s1 σ _ _ I1 ht
  refine PySem.W.callWith_K (h₀ := X.base) I.ok.mod.kin kp (thn run fun us s2 back => ?_) he hpl
  obtain ⟨vs, H2, I2, r, q⟩ := back
  exact ⟨I2.kIn, run_fnS F (hr.mono hk) hb (L2N.passAt tk σ) I2 r q⟩
/-- isinstance(error, c) where the error's class is only known in the reading -/
theorem isE {a : Addr} {oe : Obj} {cls : Value} {d : Option Addr} {pn : List (Addr × Obj)} (hz : Zc cls d oe) (hf : ∃ vs, oe.data = .fields vs) :
    CallR (X.suite a ((a, oe) :: pn)) (.builtin "isinstance") (fun xs H Q => ∃ D, cls = .ref D ∧ d = none ∧ ExcC X.K D ∧ rIsE X.K D a xs H Q) := by
  intro pins s σ H xs us Q I r h
  obtain ⟨D, rfl, rfl, C, h⟩ := h
  exact call_isE C hz hf pins s σ H xs us Q I r h
end
/-- the error class at D, as isinstance and except ask it: the base at O, and of the three classes the n-th is its own -/
structure ErK (K : PySem.W.Frag) (O D : Addr) (cs : List (Addr × Bool)) : Prop where
  c : ExcC K D
  up : PySem.W.exmOne K (.ref D) (.ref O) = some true
  is : ∀ p ∈ cs, PySem.W.kitOne K (.ref D) (.ref p.1) = some p.2
end Fo
namespace Fo
open PySem L2 FO
section
variable {P : Program} {w : World} {K : PySem.W.Frag} {mg : Str → Option Value} {base : Heap} {CM : Addr}
/-! ### check_ones, greatest_of, greatest -/
/-- a number from 1 to m is asked -/
def AskN (K : PySem.W.Frag) (v : V) (H : Hp) (m : Int) (good : Int → Prop) (bad : Prop) : Prop :=
  (∃ n : Int, v = .int n ∧ (¬ (1 ≤ n ∧ n ≤ m) → bad) ∧ (1 ≤ n → n ≤ m → good n)) ∨ (IsW K H v false ∧ bad)
def spCheckOnes (K : PySem.W.Frag) (C : Addr) : Sp := fun vs H Q E => ∃ (v : V) (m : Int), vs = [v, .int m] ∧ AskN K v H m (fun _ => Q .non H) (E (.ref C) none H)
theorem scCheckOnes : FnScope ["many", "most"] ["many", "most"] (defScope sCheckOnes) := ⟨rfl, rfl, rfl, by decide +kernel, rfl, by decide +kernel, by decide +kernel⟩
theorem ok_checkOnes (D : Dn K mg "check_ones" sCheckOnes) (T : ErC K mg "BadOnes" CM) (W : Kp P w K mg base CX0 1 "is_whole" (spWhole K)) : Kp P w K mg base (L2N.CX P w) 2 "check_ones" (spCheckOnes K CM) := by
  obtain ⟨f, fd, F, hm⟩ := D.ex
  refine ⟨f, fd, ["many", "most"], F.okN scCheckOnes (fun vs H Q E h => ?_) (fun cdv A outer s H vs Q E hr h => ?_), hm, F.kp, F.binds fun _ _ _ _ _ _ us hl => match us, hl with | [_, _], _ => rfl⟩
  · obtain ⟨v, m, rfl, _⟩ := h
    rfl
  · obtain ⟨v, m, rfl, h⟩ := h
    refine ⟨_, pss_one (ps_if (PW.pt (pw_or (pt_not (pt_val (pk W hr (by decide) rfl (pa_cons (pv 0) pa_nil)))) (pw_or1 (pt_not (pt_chain op_le op_le pe_int (pv 0) (pv 1))))))
      (pss_one (L2N.ps_raise rfl (L2N.takes_of rfl rfl rfl rfl) (L2N.pmk_own PySem.F.excBase_ValueError T.x T.g T.k (raises_own T.b T.t) rfl))) pss_nil), ?_⟩
    rcases h with ⟨n, rfl, kb, kg⟩ | ⟨nw, kb⟩
    · refine ⟨_, rfl, _, _, rfl, IsW.int n, _, rfl, iteF ?_⟩
      refine ⟨_, rfl, _, _, rfl, rfl, _, rfl, ?_⟩
      by_cases h1 : 1 ≤ n
      · refine ifT (decide_eq_true h1) ⟨_, rfl, _, _, rfl, rfl, _, rfl, ?_⟩
        by_cases h2 : n ≤ m
        · exact ifF (by rw [decide_eq_true h2]; rfl) (kg h1 h2)
        · exact ifT (by rw [decide_eq_false h2]; rfl) (kb (fun z => h2 z.2))
      · exact ifF (decide_eq_false h1) ⟨_, rfl, iteT (kb (fun z => h1 z.1))⟩
    · exact ⟨_, rfl, _, _, rfl, nw, _, rfl, iteT (iteT kb)⟩
def spGreatestOf : Sp := fun vs H Q _ => ∃ n : Nat, vs = [.int (n : Nat)] ∧ 1 ≤ n ∧ n ≤ 3000 ∧ ∀ H', Same H H' → Q (.int (gr n : Nat)) H'
theorem scGreatestOf : FnScope ["many", "found", "left", "time"] ["many"] (defScope sGreatestOf) := ⟨rfl, rfl, rfl, by decide +kernel, rfl, by decide +kernel, by decide +kernel⟩
theorem at342 (n : Nat) : atI [V.int 3, V.int 4, V.int 2] ((n : Int) % 3) = some (.int (cG n : Nat)) := by
  have h : n % 3 = 0 ∨ n % 3 = 1 ∨ n % 3 = 2 := by omega
  unfold cG
  rcases h with e | e | e
  · rw [if_pos e, show (n : Int) % 3 = ((0 : Nat) : Int) by omega]
    exact atI_nat rfl
  · rw [if_neg (by omega), if_pos e, show (n : Int) % 3 = ((1 : Nat) : Int) by omega]
    exact atI_nat rfl
  · rw [if_neg (by omega), if_neg (by omega), show (n : Int) % 3 = ((2 : Nat) : Int) by omega]
    exact atI_nat rfl
theorem cG_le {n : Nat} (h : 2 ≤ n) : cG n ≤ n := by
  unfold cG
  split
  · omega
  · split <;> omega
theorem ok_greatestOf (D : Dn K mg "greatest_of" sGreatestOf) (B : Bi mg) : Kp P w K mg base CX0 1 "greatest_of" spGreatestOf := by
  obtain ⟨f, fd, F, hm⟩ := D.ex
  refine ⟨f, fd, ["many"], F.ok scGreatestOf (fun vs H Q E h => ?_) (fun cdv A outer s H vs Q E hr h => ?_), hm, F.kp, F.binds fun _ _ _ _ _ _ us hl => match us, hl with | [_], _ => rfl⟩
  · obtain ⟨n, rfl, _⟩ := h
    rfl
  · obtain ⟨n, rfl, h1, h2, k⟩ := h
    refine ⟨_, pss_cons (ps_if (pt_cmpR op_eq (pv 0) pe_int (nomark _)) (pss_one (ps_ret pe_int)) pss_nil)
      (pss_cons (ps_set (i := 1) scGreatestOf.nd rfl (Or.inl rfl) (pe_ix ix_tup (pe_tup (pa_cons pe_int (pa_cons pe_int (pa_cons pe_int pa_nil)))) (pe_op op_mod (pv 0) pe_int) (fun _ _ => rfl)))
      (pss_cons (ps_set (i := 2) scGreatestOf.nd rfl (Or.inl rfl) (pe_op op_sub (pv 0) (pe_ix ix_tup (pe_tup (pa_cons pe_int (pa_cons pe_int (pa_cons pe_int pa_nil)))) (pe_op op_mod (pv 0) pe_int) (fun _ _ => rfl))))
      (pss_cons (ps_for PassesOwn.never rfl (pi_range1 rfl B.range (pa_cons (pe_op op_fdiv (pv 2) pe_int) pa_nil)) (pg_name (i := 3) scGreatestOf.nd rfl (Or.inl rfl))
        (pss_one (ps_aug (i := 1) scGreatestOf.nd rfl (Or.inl rfl) pe_int iop_mul)))
      (pss_one (ps_ret (pv 1)))))), ?_⟩
    refine ⟨_, rfl, rfl, _, rfl, ?_⟩
    by_cases e1 : n = 1
    · subst e1
      exact ifT (decide_eq_true rfl) (k H (Same.refl H))
    refine ifF (decide_eq_false (fun z => e1 (by have := V.int.inj z; omega))) ?_
    have hc := cG_le (show 2 ≤ n by omega)
    refine ⟨(show 3 ≤ sizeLine by decide), fun T hT => ?_⟩
    refine ⟨_, rfl, _, _, rfl, rfl, (by show (0 : Int) < 3; decide), T, _, _, _, rfl, rfl, SqT.of upd_same, at342 n, ?_⟩
    refine ⟨_, rfl, (show 3 ≤ sizeLine by decide), fun U hU => ?_⟩
    refine ⟨_, rfl, _, _, rfl, rfl, (by show (0 : Int) < 3; decide), U, _, _, _, rfl, rfl, SqT.of upd_same, at342 n, _, _, rfl, rfl, ?_⟩
    have e3 : ((n : Int) - (cG n : Nat)) / 3 = (((n - cG n) / 3 : Nat) : Int) := by omega
    refine ⟨_, rfl, _, _, rfl, rfl, ⟨by decide, by decide⟩, _, rfl, by rw [e3]; omega, by rw [e3]; omega, ?_⟩
    rw [e3]
    refine for_range (lo := 0) (n := ((n - cG n) / 3)) (fun i σ H' => ∃ v3 : Option V, σ = [some (.int (n : Nat)), some (.int ((cG n * 3 ^ i : Nat) : Int)), some (.int ((n : Int) - (cG n : Nat))), v3] ∧ Same H H')
      ⟨_, by rw [Nat.pow_zero, Nat.mul_one]; rfl, sm_new (sm_upd hT) hU⟩ ?_ ?_
    · rintro i σ H1 hi ⟨v3, rfl, hs⟩
      refine ⟨_, rfl, _, _, rfl, rfl, .inr ⟨by decide, by decide⟩, ?_⟩
      refine ⟨some (.int (0 + (i : Int))), ?_, hs⟩
      have e : (((cG n * 3 ^ i : Nat) : Int)) * 3 = ((cG n * 3 ^ (i + 1) : Nat) : Int) := by
        rw [Nat.pow_succ, ← Nat.mul_assoc]
        omega
      show [some (V.int (n : Nat)), some (V.int (((cG n * 3 ^ i : Nat) : Int) * 3)), _, _] = _
      rw [e]
    · rintro σ H1 ⟨v3, rfl, hs⟩
      refine ⟨_, rfl, ?_⟩
      have q := k H1 hs
      unfold gr at q
      rw [if_neg e1] at q
      exact q
def spGreatest (K : PySem.W.Frag) (C : Addr) : Sp := fun vs H Q E => ∃ v : V, vs = [v] ∧ AskN K v H 3000 (fun n => ∀ H', Same H H' → Q (.int (gr n.toNat : Nat)) H') (E (.ref C) none H)
theorem scGreatest : FnScope ["many"] ["many"] (defScope sGreatest) := ⟨rfl, rfl, rfl, by decide +kernel, rfl, by decide +kernel, by decide +kernel⟩
theorem ok_greatest (D : Dn K mg "greatest" sGreatest) (mo : ∃ u, mg "MOST_ONES" = some u ∧ RelV (.int 3000) u) (C : Kp P w K mg base (L2N.CX P w) 2 "check_ones" (spCheckOnes K CM)) (O : Kp P w K mg base CX0 1 "greatest_of" spGreatestOf) : Kp P w K mg base (L2N.CX P w) 3 "greatest" (spGreatest K CM) := by
  obtain ⟨f, fd, F, hm⟩ := D.ex
  refine ⟨f, fd, ["many"], F.okN scGreatest (fun vs H Q E h => ?_) (fun cdv A outer s H vs Q E hr h => ?_), hm, F.kp, F.binds fun _ _ _ _ _ _ us hl => match us, hl with | [_], _ => rfl⟩
  · obtain ⟨v, rfl, _⟩ := h
    rfl
  · obtain ⟨v, rfl, h⟩ := h
    refine ⟨_, pss_cons (ps_expr (pkS C (L2N.takes_of rfl rfl rfl rfl) hr (by decide) rfl (pa_cons (pv 0) (pa_cons (C8.pe_gc rfl mo) pa_nil)))) (pss_one (ps_ret (pk O hr (by decide) rfl (pa_cons (pv 0) pa_nil)))), ?_⟩
    rcases h with ⟨n, rfl, kb, kg⟩ | ⟨nw, kb⟩
    · refine ⟨_, rfl, _, _, rfl, .inl ⟨n, rfl, kb, fun h1 h2 => ?_⟩⟩
      have e : n = ((n.toNat : Nat) : Int) := by omega
      exact ⟨_, rfl, n.toNat, by rw [← e]; rfl, by omega, by omega, fun H' s' => kg h1 h2 H' s'⟩
    · exact ⟨_, rfl, _, _, rfl, .inr ⟨nw, kb⟩⟩
end
end Fo
namespace Fo
open PySem L2 FO
/-! ### the table in memory -/
def sgS (s : Nat) : Str := if s = 43 then "+" else "*"
def WT (x : Wy) : List V := [.str (sgS x.2.1), .int (x.2.2.1 : Nat), .int (x.2.2.2 : Nat)]
def fl (k : Nat) : List Int := (List.range k).map fun j => ((F j : Nat) : Int)
theorem fl_len (k : Nat) : (fl k).length = k := by simp [fl]
theorem fl_at {k j : Nat} (h : j < k) : atI ((fl k).map V.int) (j : Int) = some (.int (F j : Nat)) := atI_nat (by simp [fl, h])
theorem fl_succ (k : Nat) : fl (k + 1) = fl k ++ [((F k : Nat) : Int)] := by simp [fl, List.range_succ]
/-- the list of the last steps -/
structure WaysOk (H : Hp) (ws : List V) (k : Nat) : Prop where
  len : ws.length = k
  low : ∀ n, n < 2 → n < k → ws[n]? = some .non
  at' : ∀ n, 2 ≤ n → n < k → ∃ t, ws[n]? = some (.ref t) ∧ H t = some (.tup (WT (best n)))
theorem WaysOk.same {H H' : Hp} {ws : List V} {k : Nat} (h : WaysOk H ws k) (s : Same H H') : WaysOk H' ws k :=
  ⟨h.len, h.low, fun n h1 h2 => let ⟨t, a, b⟩ := h.at' n h1 h2; ⟨t, a, s _ _ b⟩⟩
theorem WaysOk.more {H : Hp} {ws : List V} {k : Nat} {t : Addr} (h : WaysOk H ws k) (hk : 2 ≤ k) (ht : H t = some (.tup (WT (best k)))) : WaysOk H (ws ++ [.ref t]) (k + 1) := by
  refine ⟨by rw [List.length_append, h.len]; rfl, fun n h1 h2 => ?_, fun n h1 h2 => ?_⟩
  · rw [List.getElem?_append_left (by rw [h.len]; omega)]
    exact h.low n h1 (by omega)
  · by_cases e : n = k
    · subst e
      exact ⟨t, by rw [List.getElem?_append_right (by rw [h.len]; omega), h.len, Nat.sub_self]; rfl, ht⟩
    · obtain ⟨u, a, b⟩ := h.at' n h1 (by omega)
      exact ⟨u, by rw [List.getElem?_append_left (by rw [h.len]; omega)]; exact a, b⟩
section
variable {P : Program} {w : World} {K : PySem.W.Frag} {mg : Str → Option Value} {base : Heap} {CN : Addr}
/-! ### table_of -/
def spTable : Sp := fun vs H Q _ => ∃ m : Nat, vs = [.int (m : Nat)] ∧ 1 ≤ m ∧ m ≤ 200 ∧ ∀ H' p q r ws, Same H H' → H q = none → H r = none → H' p = some (.tup [.ref q, .ref r]) → H' q = some (.lst ((fl (m + 1)).map V.int)) → H' r = some (.lst ws) → WaysOk H' ws (m + 1) → Q (.ref p) H'
theorem scTable : FnScope ["most", "few", "ways", "number", "best", "way", "one"] ["most"] (defScope sTable) := ⟨rfl, rfl, rfl, by decide +kernel, rfl, by decide +kernel, by decide +kernel⟩
theorem ok_table (D : Dn K mg "table_of" sTable) (B : Bi mg) : Kp P w K mg base CX0 1 "table_of" spTable := by
  obtain ⟨f, fd, F', hm⟩ := D.ex
  refine ⟨f, fd, ["most"], F'.ok scTable (fun vs H Q E h => ?_) (fun cdv A outer s H vs Q E hr h => ?_), hm, F'.kp, F'.binds fun _ _ _ _ _ _ us hl => match us, hl with | [_], _ => rfl⟩
  · obtain ⟨m, rfl, _⟩ := h
    rfl
  · obtain ⟨m, rfl, h1, h2, k⟩ := h
    refine ⟨_, pss_cons (ps_par (i := 1) (j := 2) (by rfl) scTable.nd rfl rfl (by decide) rfl rfl (pa_cons (pe_lst (pa_cons pe_int (pa_cons pe_int pa_nil))) (pa_cons (pe_lst (pa_cons pe_non (pa_cons pe_non pa_nil))) pa_nil)) (by rfl))
      (pss_cons (ps_for PassesOwn.never rfl (pi_range2 (by rfl) B.range (pa_cons pe_int (pa_cons (pe_op op_add (pv 0) pe_int) pa_nil))) (pg_name (i := 3) scTable.nd rfl (Or.inl rfl))
        (pss_cons (ps_par (i := 4) (j := 5) (by rfl) scTable.nd rfl rfl (by decide) rfl rfl
            (pa_cons (pe_op op_add (pe_ix ix_list (pv 1) pe_int (fun _ _ => rfl)) (pe_ix ix_list (pv 1) (pe_op op_sub (pv 3) pe_int) (fun _ _ => rfl)))
            (pa_cons (pe_tup (pa_cons pe_str (pa_cons pe_int (pa_cons (pe_op op_sub (pv 3) pe_int) pa_nil)))) pa_nil)) (by rfl))
        (pss_cons (ps_for PassesOwn.never rfl (pi_range2 (by rfl) B.range (pa_cons pe_int (pa_cons (pe_op op_add (pe_op op_fdiv (pv 3) pe_int) pe_int) pa_nil))) (pg_name (i := 6) scTable.nd rfl (Or.inl rfl))
          (C8.pss_cut (ps_if (pt_cmpR op_lt (pe_op op_add (pe_ix ix_list (pv 1) (pv 6) (fun _ _ => rfl)) (pe_ix ix_list (pv 1) (pe_op op_sub (pv 3) (pv 6)) (fun _ _ => rfl))) (pv 4) (nomark _))
            (pss_one (ps_par (i := 4) (j := 5) (by rfl) scTable.nd rfl rfl (by decide) rfl rfl
              (pa_cons (pe_op op_add (pe_ix ix_list (pv 1) (pv 6) (fun _ _ => rfl)) (pe_ix ix_list (pv 1) (pe_op op_sub (pv 3) (pv 6)) (fun _ _ => rfl)))
              (pa_cons (pe_tup (pa_cons pe_str (pa_cons (pv 6) (pa_cons (pe_op op_sub (pv 3) (pv 6)) pa_nil)))) pa_nil)) (by rfl))) pss_nil)
          (pss_one (ps_if (PW.pt (pw_and (pt_cmpR op_eq (pe_op op_mod (pv 3) (pv 6)) pe_int (nomark _))
              (pw_and1 (pt_cmpR op_lt (pe_op op_add (pe_ix ix_list (pv 1) (pv 6) (fun _ _ => rfl)) (pe_ix ix_list (pv 1) (pe_op op_fdiv (pv 3) (pv 6)) (fun _ _ => rfl))) (pv 4) (nomark _)))))
            (pss_one (ps_par (i := 4) (j := 5) (by rfl) scTable.nd rfl rfl (by decide) rfl rfl
              (pa_cons (pe_op op_add (pe_ix ix_list (pv 1) (pv 6) (fun _ _ => rfl)) (pe_ix ix_list (pv 1) (pe_op op_fdiv (pv 3) (pv 6)) (fun _ _ => rfl)))
              (pa_cons (pe_tup (pa_cons pe_str (pa_cons (pv 6) (pa_cons (pe_op op_fdiv (pv 3) (pv 6)) pa_nil)))) pa_nil)) (by rfl))) pss_nil))))
        (pss_cons (ps_expr (pe_bm PySem.F.plainAttrs_list PySem.F.slot_list_append PySem.F.type_list_append mt_append (pv 1) (pa_cons (pv 4) pa_nil)))
        (pss_one (ps_expr (pe_bm PySem.F.plainAttrs_list PySem.F.slot_list_append PySem.F.type_list_append mt_append (pv 2) (pa_cons (pv 5) pa_nil))))))))
      (pss_one (ps_ret (pe_tup (pa_cons (pv 1) (pa_cons (pv 2) pa_nil)))))), ?_⟩
    have big : (16777216 : Nat) = sizeLine := PySem.sizeLine_eq.symm
    refine ⟨(show 2 ≤ sizeLine by decide), fun q nq => ?_⟩
    obtain ⟨H1, e1, s1, hq⟩ := ab nq (.lst [V.int 0, V.int 1])
    rw [e1]
    refine ⟨(show 2 ≤ sizeLine by decide), fun r nr => ?_⟩
    obtain ⟨H2, e2, s2, hr2⟩ := ab nr (.lst [V.non, V.non])
    rw [e2]
    have nr0 : H r = none := s1.free nr
    have qr : q ≠ r := ne_of_none hq nr
    have em : ((m : Int) + 1) = ((m + 1 : Nat) : Int) := by omega
    refine ⟨_, _, rfl, _, rfl, _, _, rfl, rfl, 2, _, rfl, ⟨by decide, by decide, by rw [em]; omega, by rw [em]; omega⟩, ?_⟩
    rw [show ((m : Int) + 1 - 2).toNat = m - 1 by omega]
    have fl2 : (fl 2).map V.int = [V.int 0, V.int 1] := by decide +kernel
    refine for_range (lo := 2) (n := m - 1) (fun i σ H' => ∃ (ws : List V) (v3 v4 v5 v6 : Option V), σ = [some (.int (m : Nat)), some (.ref q), some (.ref r), v3, v4, v5, v6] ∧ Same H H' ∧ H' q = some (.lst ((fl (i + 2)).map V.int)) ∧ H' r = some (.lst ws) ∧ WaysOk H' ws (i + 2))
      ⟨_, _, _, _, _, rfl, s1.trans s2, by rw [fl2]; exact sm_at s2 hq, hr2, ⟨rfl, fun n a b => ?_, fun n a b => absurd b (by omega)⟩⟩ ?_ ?_
    · have : n = 0 ∨ n = 1 := by omega
      rcases this with rfl | rfl <;> rfl
    · rintro i σ H3 hi ⟨ws, v3, v4, v5, v6, rfl, s3, hq3, hr3, wo⟩
      have en : (2 : Int) + (i : Int) = ((i + 2 : Nat) : Int) := by omega
      rw [en]
      obtain ⟨n, hn⟩ : ∃ n, n = i + 2 := ⟨_, rfl⟩
      rw [← hn] at hq3 wo ⊢
      have hn2 : 2 ≤ n := by omega
      have hn200 : n ≤ 200 := by omega
      have es : ((n : Nat) : Int) - 1 = ((n - 1 : Nat) : Int) := by omega
      have sq : ∀ {H' : Hp}, Same H3 H' → SqL K H' q ((fl n).map V.int) := fun s' => SqL.of (sm_at s' hq3)
      refine ⟨_, rfl, q, _, _, _, rfl, rfl, sq (Same.refl _), fl_at (j := 1) (by omega), _, rfl, _, rfl, _, _, rfl, rfl, q, _, _, _, rfl, rfl, sq (Same.refl _), by rw [es]; exact fl_at (j := n - 1) (by omega), _, _, rfl, rfl, ?_⟩
      refine ⟨_, rfl, _, _, rfl, rfl, (show 3 ≤ sizeLine by decide), fun t nt => ?_⟩
      obtain ⟨H4, e4, s4, ht⟩ := ab nt (.tup [V.str "+", V.int 1, V.int (((n : Nat) : Int) - 1)])
      rw [e4]
      rw [es, show [V.str "+", V.int 1, V.int ((n - 1 : Nat) : Int)] = WT (bestAt n 0) from rfl] at ht
      refine ⟨_, _, rfl, ?_⟩
      have eh : ((n : Nat) : Int) / 2 + 1 = ((n / 2 + 1 : Nat) : Int) := by omega
      refine ⟨_, rfl, _, _, rfl, rfl, ⟨by decide, by decide⟩, _, _, rfl, rfl, 2, _, rfl, ⟨by decide, by decide, by rw [eh]; omega, by rw [eh]; omega⟩, ?_⟩
      rw [show (((n : Nat) : Int) / 2 + 1 - 2).toNat = n / 2 - 1 by omega]
      refine for_range (lo := 2) (n := n / 2 - 1) (fun j σ H' => ∃ (t : Addr) (v6 : Option V), σ = [some (.int (m : Nat)), some (.ref q), some (.ref r), some (.int (n : Nat)), some (.int ((bestAt n j).1 : Nat)), some (.ref t), v6] ∧ Same H3 H' ∧ H' t = some (.tup (WT (bestAt n j))))
        ⟨t, v6, rfl, s4, ht⟩ ?_ ?_
      · rintro j σ H5 hj ⟨t, v6, rfl, s5, ht⟩
        have eo : (2 : Int) + (j : Int) = ((2 + j : Nat) : Int) := by omega
        rw [eo]
        obtain ⟨o, ho⟩ : ∃ o, o = 2 + j := ⟨_, rfl⟩
        rw [bestAt_succ, ← ho]
        have ho2 : 2 ≤ o := by omega
        have hon : o ≤ n / 2 := by omega
        have ed : ((n : Nat) : Int) - ((o : Nat) : Int) = ((n - o : Nat) : Int) := by omega
        have ev : ((n : Nat) : Int) / ((o : Nat) : Int) = ((n / o : Nat) : Int) := by omega
        have emd : ((n : Nat) : Int) % ((o : Nat) : Int) = ((n % o : Nat) : Int) := by omega
        have hdv : n / o < n := Nat.div_lt_self (by omega) (by omega)
        generalize bestAt n j = st at ht
        refine ⟨fun σ H' => ∃ (t : Addr), σ = [some (.int (m : Nat)), some (.ref q), some (.ref r), some (.int (n : Nat)), some (.int ((innerA n st o).1 : Nat)), some (.ref t), some (.int (o : Nat))] ∧ Same H3 H' ∧ H' t = some (.tup (WT (innerA n st o))), ?_, ?_⟩
        · have a1 := fl_at (k := n) (j := o) (by omega)
          have a2 := fl_at (k := n) (j := n - o) (by omega)
          rw [← ed] at a2
          refine ⟨_, rfl, _, rfl, q, _, _, _, rfl, rfl, sq s5, a1, _, rfl, _, rfl, _, rfl, _, _, rfl, rfl, q, _, _, _, rfl, rfl, sq s5, a2, _, _, rfl, rfl, _, rfl, _, _, rfl, rfl, _, rfl, ?_⟩
          by_cases hc : F o + F (n - o) < st.1
          · refine ifT (decide_eq_true (by omega)) ?_
            refine ⟨_, rfl, _, rfl, q, _, _, _, rfl, rfl, sq s5, a1, _, rfl, _, rfl, _, rfl, _, _, rfl, rfl, q, _, _, _, rfl, rfl, sq s5, a2, _, _, rfl, rfl, ?_⟩
            refine ⟨_, rfl, _, rfl, _, rfl, _, _, rfl, rfl, (show 3 ≤ sizeLine by decide), fun u nu => ?_⟩
            have ei : innerA n st o = (F o + F (n - o), 43, o, n - o) := if_pos hc
            refine ⟨_, _, rfl, u, ?_, sm_new s5 nu, ?_⟩
            · rw [ei]
              show [some (V.int (m : Nat)), some (.ref q), some (.ref r), some (.int (n : Nat)), some (.int (((F o : Nat) : Int) + ((F (n - o) : Nat) : Int))), some (.ref u), some (.int (o : Nat))] = _
              rw [show ((F o : Nat) : Int) + ((F (n - o) : Nat) : Int) = ((F o + F (n - o) : Nat) : Int) by omega]
            · rw [upd_same, ei]
              show some (HO.tup [V.str "+", V.int (o : Nat), V.int (((n : Nat) : Int) - ((o : Nat) : Int))]) = _
              rw [ed]
              rfl
          · refine ifF (decide_eq_false (by omega)) ?_
            have ei : innerA n st o = st := if_neg hc
            rw [ei]
            exact ⟨t, rfl, s5, ht⟩
        · rintro σ H6 ⟨t, rfl, s6, ht⟩
          have a1 := fl_at (k := n) (j := o) (by omega)
          have a2 := fl_at (k := n) (j := n / o) (by omega)
          rw [← ev] at a2
          show tIfS _ _ _ _ _ _
          unfold innerT
          generalize innerA n st o = st1 at ht
          refine ⟨_, rfl, _, rfl, _, _, rfl, rfl, (by omega), rfl, _, rfl, ?_⟩
          by_cases hm0 : n % o = 0
          · refine ifT (decide_eq_true (by show V.int (((n : Nat) : Int) % ((o : Nat) : Int)) = V.int 0; rw [emd, hm0]; rfl)) ?_
            refine ⟨_, rfl, _, rfl, q, _, _, _, rfl, rfl, sq s6, a1, _, rfl, _, rfl, _, rfl, _, _, rfl, rfl, ⟨by omega, by omega⟩, q, _, _, _, rfl, rfl, sq s6, a2, _, _, rfl, rfl, _, rfl, _, _, rfl, rfl, _, rfl, ?_⟩
            by_cases hc : F o + F (n / o) < st1.1
            · refine ifT (decide_eq_true (by omega)) ?_
              refine ⟨_, rfl, _, rfl, q, _, _, _, rfl, rfl, sq s6, a1, _, rfl, _, rfl, _, rfl, _, _, rfl, rfl, ⟨by omega, by omega⟩, q, _, _, _, rfl, rfl, sq s6, a2, _, _, rfl, rfl, ?_⟩
              refine ⟨_, rfl, _, rfl, _, rfl, _, _, rfl, rfl, ⟨by omega, by omega⟩, (show 3 ≤ sizeLine by decide), fun u nu => ?_⟩
              have ei : innerB n st1 o = (F o + F (n / o), 42, o, n / o) := if_pos ⟨hm0, hc⟩
              refine ⟨_, _, rfl, u, some (.int (o : Nat)), ?_, sm_new s6 nu, ?_⟩
              · rw [ei]
                show [some (V.int (m : Nat)), some (.ref q), some (.ref r), some (.int (n : Nat)), some (.int (((F o : Nat) : Int) + ((F (n / o) : Nat) : Int))), some (.ref u), some (.int (o : Nat))] = _
                rw [show ((F o : Nat) : Int) + ((F (n / o) : Nat) : Int) = ((F o + F (n / o) : Nat) : Int) by omega]
              · rw [upd_same, ei]
                show some (HO.tup [V.str "*", V.int (o : Nat), V.int (((n : Nat) : Int) / ((o : Nat) : Int))]) = _
                rw [ev]
                rfl
            · refine ifF (decide_eq_false (by omega)) ?_
              have ei : innerB n st1 o = st1 := if_neg (fun z => hc z.2)
              rw [ei]
              exact ⟨t, _, rfl, s6, ht⟩
          · refine ifF (decide_eq_false (by show ¬ V.int (((n : Nat) : Int) % ((o : Nat) : Int)) = V.int 0; rw [emd]; intro z; have := V.int.inj z; omega)) (iteF ?_)
            have ei : innerB n st1 o = st1 := if_neg (fun z => hm0 z.1)
            rw [ei]
            exact ⟨t, _, rfl, s6, ht⟩
      · rintro σ H5 ⟨t, v6, rfl, s5, ht⟩
        have bo := best_ok hn2 hn200
        have eb : bestAt n (n / 2 - 1) = best n := rfl
        rw [eb] at ht ⊢
        rw [bo.val]
        refine ⟨_, rfl, .inl ⟨rfl, _, SqL.of (sm_at s5 hq3)⟩, _, rfl, q, _, _, rfl, rfl, sm_at s5 hq3, by rw [List.length_map, fl_len, ← big]; omega, ?_⟩
        have hr5 : H5 r = some (.lst ws) := sm_at s5 hr3
        have hr6 : upd H5 q (.lst ((fl n).map V.int ++ [V.int ((F n : Nat) : Int)])) r = some (.lst ws) := by rw [upd_ne (Ne.symm qr)]; exact hr5
        refine ⟨_, rfl, .inl ⟨rfl, _, SqL.of hr6⟩, _, rfl, r, _, _, rfl, rfl, hr6, by rw [wo.len, ← big]; omega, ?_⟩
        have tq : t ≠ q := ne_of ht (sm_at s5 hq3) (by intro z; cases z)
        have tr : t ≠ r := ne_of ht hr5 (by intro z; cases z)
        have keep : ∀ b o, H5 b = some o → b ≠ q → b ≠ r → upd (upd H5 q (.lst ((fl n).map V.int ++ [V.int ((F n : Nat) : Int)]))) r (.lst (ws ++ [.ref t])) b = some o := fun b o e n1 n2 => by
          rw [upd_ne n2, upd_ne n1]
          exact e
        refine ⟨ws ++ [.ref t], _, _, _, _, rfl, fun b o e => ?_, ?_, upd_same, ?_⟩
        · exact keep b o ((s3.trans s5) b o e) (ne_of_none e nq) (ne_of_none e nr0)
        · rw [upd_ne qr, upd_same, show i + 1 + 2 = n + 1 by omega, fl_succ, List.map_append]
          rfl
        · rw [show i + 1 + 2 = n + 1 by omega]
          have wo5 := wo.same s5
          have wo6 : WaysOk (upd (upd H5 q (.lst ((fl n).map V.int ++ [V.int ((F n : Nat) : Int)]))) r (.lst (ws ++ [.ref t]))) ws n := by
            refine ⟨wo5.len, wo5.low, fun x h1 h2 => ?_⟩
            obtain ⟨u, a, b⟩ := wo5.at' x h1 h2
            exact ⟨u, a, keep u _ b (ne_of b (sm_at s5 hq3) (by intro z; cases z)) (ne_of b hr5 (by intro z; cases z))⟩
          exact wo6.more hn2 (keep t _ ht tq tr)
    · rintro σ H3 ⟨ws, v3, v4, v5, v6, rfl, s3, hq3, hr3, wo⟩
      rw [show m - 1 + 2 = m + 1 by omega] at hq3 wo
      refine ⟨_, rfl, _, rfl, (show 2 ≤ sizeLine by decide), fun p np => ?_⟩
      obtain ⟨H4, e4, s4, hp⟩ := ab np (.tup [V.ref q, V.ref r])
      rw [e4]
      exact k H4 p q r ws (s3.trans s4) nq nr0 hp (sm_at s4 hq3) (sm_at s4 hr3) (wo.same s4)
end
end Fo
namespace Fo
open PySem L2 FO
section
variable {P : Program} {w : World} {K : PySem.W.Frag} {mg : Str → Option Value} {base : Heap} {CN CM : Addr}
/-! ### put, text_by -/
theorem tlA (x y : Str) : tl (x ++ y) = tl x ++ tl y := TL.tl_append x y
theorem lenT (x : Str) : x.length = (tl x).length := by simp [tl, Str.length]
theorem lenA (x y : Str) : (x ++ y).length = x.length + y.length := by rw [lenT, tlA, List.length_append, ← lenT, ← lenT]
def spPut : Sp := fun vs H Q _ => ∃ a s b : Str, vs = [.str a, .str s, .str b] ∧ a.length + s.length + b.length ≤ 10000 ∧ Q (.str (("(" : Str) ++ a ++ s ++ b ++ (")" : Str))) H
theorem scPut : FnScope ["one", "sign", "other"] ["one", "sign", "other"] (defScope sPut) := ⟨rfl, rfl, rfl, by decide +kernel, rfl, by decide +kernel, by decide +kernel⟩
theorem ok_put (D : Dn K mg "put" sPut) : Kp P w K mg base CX0 1 "put" spPut := by
  obtain ⟨f, fd, F', hm⟩ := D.ex
  refine ⟨f, fd, ["one", "sign", "other"], F'.ok scPut (fun vs H Q E h => ?_) (fun cdv A outer s H vs Q E hr h => ?_), hm, F'.kp, F'.binds fun _ _ _ _ _ _ us hl => match us, hl with | [_, _, _], _ => rfl⟩
  · obtain ⟨a, s, b, rfl, _⟩ := h
    rfl
  · obtain ⟨a, s, b, rfl, hl, k⟩ := h
    refine ⟨_, pss_one (ps_ret (pe_op op_add_str (pe_op op_add_str (pe_op op_add_str (pe_op op_add_str pe_str (pv 0)) (pv 1)) (pv 2)) pe_str)), ?_⟩
    have big : (16777216 : Nat) = sizeLine := PySem.sizeLine_eq.symm
    have n1 : ("(" : Str).length = 1 := by decide +kernel
    have n2 : (")" : Str).length = 1 := by decide +kernel
    exact ⟨_, rfl, _, _, rfl, rfl, by rw [n1, ← big]; omega, _, rfl, _, _, rfl, rfl, by rw [lenA, n1, ← big]; omega, _, rfl, _, _, rfl, rfl, by rw [lenA, lenA, n1, ← big]; omega, _, _, rfl, rfl, by rw [lenA, lenA, lenA, n1, n2, ← big]; omega, k⟩
def spTextBy (K : PySem.W.Frag) (n : Nat) : Sp := fun vs H Q _ => ∃ (r : Addr) (j k : Nat) (ws : List V), vs = [.ref r, .int (j : Nat)] ∧ SqL K H r ws ∧ WaysOk H ws k ∧ 1 ≤ j ∧ j < k ∧ j ≤ n ∧ k ≤ 201 ∧ ∀ t : Str, Wr (tl t) (j : Nat) (F j) → Q (.str t) H
theorem scTextBy : FnScope ["ways", "number", "sign", "one", "other"] ["ways", "number"] (defScope sTextBy) := ⟨rfl, rfl, rfl, by decide +kernel, rfl, by decide +kernel, by decide +kernel⟩
theorem wr_put {t1 t2 : Str} {j : Nat} (h2 : 2 ≤ j) (h : j ≤ 200) (w1 : Wr (tl t1) ((best j).2.2.1 : Nat) (F (best j).2.2.1)) (w2 : Wr (tl t2) ((best j).2.2.2 : Nat) (F (best j).2.2.2)) :
    Wr (tl (("(" : Str) ++ t1 ++ sgS (best j).2.1 ++ t2 ++ (")" : Str))) (j : Nat) (F j) := by
  have bo := best_ok h2 h
  rw [tlA, tlA, tlA, tlA, show tl ("(" : Str) = [40] by decide +kernel, show tl (")" : Str) = [41] by decide +kernel, bo.sum]
  rcases bo.how with ⟨e1, e2⟩ | ⟨e1, e2⟩
  · have q := Wr.plus w1 w2
    rw [e1, show tl (sgS 43) = [43] by decide +kernel]
    rw [show (((best j).2.2.1 : Nat) : Int) + (((best j).2.2.2 : Nat) : Int) = (j : Nat) by omega] at q
    simpa using q
  · have q := Wr.times w1 w2
    rw [e1, show tl (sgS 42) = [42] by decide +kernel]
    rw [show (((best j).2.2.1 : Nat) : Int) * (((best j).2.2.2 : Nat) : Int) = ((j : Nat) : Int) from by rw [← Int.natCast_mul, e2]] at q
    simpa using q
theorem ok_textBy (D : Dn K mg "text_by" sTextBy) (Pu : Kp P w K mg base CX0 1 "put" spPut) : ∀ n, Kp P w K mg base CX0 (n + 2) "text_by" (spTextBy K n)
  | 0 => by
    obtain ⟨f, fd, F', hm⟩ := D.ex
    refine ⟨f, fd, ["ways", "number"], F'.ok scTextBy (fun vs H Q E h => ?_) (fun cdv A outer s H vs Q E hr h => ?_), hm, F'.kp, F'.binds fun _ _ _ _ _ _ us hl => match us, hl with | [_, _], _ => rfl⟩
    · obtain ⟨r, j, k, ws, rfl, _⟩ := h
      rfl
    · obtain ⟨r, j, k, ws, rfl, _, _, h1, _, h0, _⟩ := h
      omega
  | n + 1 => by
    have ih := ok_textBy D Pu n
    obtain ⟨f, fd, F', hm⟩ := D.ex
    refine ⟨f, fd, ["ways", "number"], F'.ok scTextBy (fun vs H Q E h => ?_) (fun cdv A outer s H vs Q E hr h => ?_), hm, F'.kp, F'.binds fun _ _ _ _ _ _ us hl => match us, hl with | [_, _], _ => rfl⟩
    · obtain ⟨r, j, k, ws, rfl, _⟩ := h
      rfl
    · obtain ⟨r, j, k, ws, rfl, hS, wo, h1, hjk, hjn, hk, kk⟩ := h
      refine ⟨_, pss_cons (ps_if (pt_cmpR op_isN (pe_ix ix_list (pv 0) (pv 1) (fun _ _ => rfl)) pe_non (nomark _)) (pss_one (ps_ret pe_str)) pss_nil)
        (pss_cons (ps_asg (pe_ix ix_list (pv 0) (pv 1) (fun _ _ => rfl)) (pg_tup rfl (pgs_cons (pg_name (i := 2) scTextBy.nd rfl (.inl rfl)) (pgs_cons (pg_name (i := 3) scTextBy.nd rfl (.inl rfl)) (pgs_cons (pg_name (i := 4) scTextBy.nd rfl (.inl rfl)) pgs_nil)))))
        (pss_one (ps_ret (pk Pu hr (by omega) rfl (pa_cons (pk ih hr (Nat.le_refl _) rfl (pa_cons (pv 0) (pa_cons (pv 3) pa_nil))) (pa_cons (pv 2) (pa_cons (pk ih hr (Nat.le_refl _) rfl (pa_cons (pv 0) (pa_cons (pv 4) pa_nil))) pa_nil))))))), ?_⟩
      by_cases hj : j < 2
      · have e : j = 1 := by omega
        subst e
        refine ⟨_, rfl, _, rfl, r, _, _, _, rfl, rfl, hS, atI_nat (wo.low 1 (by decide) hjk), rfl, _, rfl, iteT ?_⟩
        refine kk _ ?_
        rw [show tl ("1" : Str) = [49] by decide +kernel, F_one]
        exact .one
      · obtain ⟨t, hw, ht⟩ := wo.at' j (by omega) hjk
        have bo := best_ok (show 2 ≤ j by omega) (show j ≤ 200 by omega)
        refine ⟨_, rfl, _, rfl, r, _, _, _, rfl, rfl, hS, atI_nat hw, rfl, _, rfl, iteF ?_⟩
        refine ⟨_, rfl, _, rfl, r, _, _, _, rfl, rfl, hS, atI_nat hw, t, _, rfl, SqT.of ht, rfl, _, _, rfl, _, _, rfl, _, _, rfl, rfl, ?_⟩
        have a2 := bo.a2
        have b2 := bo.b2
        refine ⟨_, rfl, _, rfl, r, _, k, ws, rfl, hS, wo, bo.a1, by omega, by omega, hk, fun t1 w1 => ?_⟩
        refine ⟨_, rfl, _, rfl, _, rfl, r, _, k, ws, rfl, hS, wo, bo.b1, by omega, by omega, hk, fun t2 w2 => ?_⟩
        refine ⟨t1, _, t2, rfl, ?_, kk _ (wr_put (by omega) (by omega) w1 w2)⟩
        have l1 := w1.len
        have l2 := w2.len
        have f1 := F_le (show (best j).2.2.1 ≤ 200 by omega)
        have f2 := F_le (show (best j).2.2.2 ≤ 200 by omega)
        have l3 : (sgS (best j).2.1).length = 1 := by
          rcases bo.how with ⟨e, _⟩ | ⟨e, _⟩
          · rw [e]; decide +kernel
          · rw [e]; decide +kernel
        rw [l3, lenT, lenT]
        omega
/-! ### check_number, fewest -/
def spCheckNumber (K : PySem.W.Frag) (C : Addr) : Sp := fun vs H Q E => ∃ (v : V), vs = [v] ∧ AskN K v H 200 (fun _ => Q .non H) (E (.ref C) none H)
theorem scCheckNumber : FnScope ["number"] ["number"] (defScope sCheckNumber) := ⟨rfl, rfl, rfl, by decide +kernel, rfl, by decide +kernel, by decide +kernel⟩
theorem ok_checkNumber (D : Dn K mg "check_number" sCheckNumber) (T : ErC K mg "BadNumber" CN) (mo : ∃ u, mg "MOST" = some u ∧ RelV (.int 200) u) (W : Kp P w K mg base CX0 1 "is_whole" (spWhole K)) : Kp P w K mg base (L2N.CX P w) 2 "check_number" (spCheckNumber K CN) := by
  obtain ⟨f, fd, F', hm⟩ := D.ex
  refine ⟨f, fd, ["number"], F'.okN scCheckNumber (fun vs H Q E h => ?_) (fun cdv A outer s H vs Q E hr h => ?_), hm, F'.kp, F'.binds fun _ _ _ _ _ _ us hl => match us, hl with | [_], _ => rfl⟩
  · obtain ⟨v, rfl, _⟩ := h
    rfl
  · obtain ⟨v, rfl, h⟩ := h
    refine ⟨_, pss_one (ps_if (PW.pt (pw_or (pt_not (pt_val (pk W hr (by decide) rfl (pa_cons (pv 0) pa_nil)))) (pw_or1 (pt_not (pt_chain op_le op_le pe_int (pv 0) (C8.pe_gc rfl mo))))))
      (pss_one (L2N.ps_raise rfl (L2N.takes_of rfl rfl rfl rfl) (L2N.pmk_own PySem.F.excBase_ValueError T.x T.g T.k (raises_own T.b T.t) rfl))) pss_nil), ?_⟩
    rcases h with ⟨n, rfl, kb, kg⟩ | ⟨nw, kb⟩
    · refine ⟨_, rfl, _, _, rfl, IsW.int n, _, rfl, iteF ?_⟩
      refine ⟨_, rfl, _, _, rfl, rfl, _, rfl, ?_⟩
      by_cases h1 : 1 ≤ n
      · refine ifT (decide_eq_true h1) ⟨_, _, rfl, rfl, _, rfl, ?_⟩
        by_cases h2 : n ≤ 200
        · exact ifF (by rw [decide_eq_true h2]; rfl) (kg h1 h2)
        · exact ifT (by rw [decide_eq_false h2]; rfl) (kb (fun z => h2 z.2))
      · exact ifF (decide_eq_false h1) ⟨_, rfl, iteT (kb (fun z => h1 z.1))⟩
    · exact ⟨_, rfl, _, _, rfl, nw, _, rfl, iteT (iteT kb)⟩
def spFewest (K : PySem.W.Frag) (C : Addr) : Sp := fun vs H Q E => ∃ (v : V), vs = [v] ∧ AskN K v H 200 (fun n => ∀ H', Same H H' → Q (.int (F n.toNat : Nat)) H') (E (.ref C) none H)
theorem scFewest : FnScope ["number"] ["number"] (defScope sFewest) := ⟨rfl, rfl, rfl, by decide +kernel, rfl, by decide +kernel, by decide +kernel⟩
theorem ok_fewest (D : Dn K mg "fewest" sFewest) (C : Kp P w K mg base (L2N.CX P w) 2 "check_number" (spCheckNumber K CN)) (T : Kp P w K mg base CX0 1 "table_of" spTable) : Kp P w K mg base (L2N.CX P w) 3 "fewest" (spFewest K CN) := by
  obtain ⟨f, fd, F', hm⟩ := D.ex
  refine ⟨f, fd, ["number"], F'.okN scFewest (fun vs H Q E h => ?_) (fun cdv A outer s H vs Q E hr h => ?_), hm, F'.kp, F'.binds fun _ _ _ _ _ _ us hl => match us, hl with | [_], _ => rfl⟩
  · obtain ⟨v, rfl, _⟩ := h
    rfl
  · obtain ⟨v, rfl, h⟩ := h
    refine ⟨_, pss_cons (ps_expr (pkS C (L2N.takes_of rfl rfl rfl rfl) hr (by decide) rfl (pa_cons (pv 0) pa_nil)))
      (pss_one (ps_ret (pe_ix ix_list (pe_ix ix_tup (pk T hr (by decide) rfl (pa_cons (pv 0) pa_nil)) pe_int (fun _ _ => rfl)) (pv 0) (fun _ _ => rfl)))), ?_⟩
    rcases h with ⟨n, rfl, kb, kg⟩ | ⟨nw, kb⟩
    · refine ⟨_, rfl, _, rfl, .inl ⟨n, rfl, kb, fun h1 h2 => ?_⟩⟩
      obtain ⟨m, hm1⟩ : ∃ m : Nat, n = (m : Int) := ⟨n.toNat, by omega⟩
      subst hm1
      refine ⟨_, rfl, m, rfl, by omega, by omega, fun H' p q r ws s' nq nr hp hq hr' wo => ?_⟩
      refine ⟨p, _, _, _, rfl, rfl, SqT.of hp, atI_nat (j := 0) rfl, _, rfl, q, _, _, _, rfl, rfl, SqL.of hq, fl_at (by omega), ?_⟩
      have z := kg h1 h2 H' s'
      rw [Int.toNat_natCast] at z
      exact z
    · exact ⟨_, rfl, _, rfl, .inr ⟨nw, kb⟩⟩
/-! ### all_with -/
def awl (n : Nat) : List Int := ((List.range (gr n)).filter fun a => F (1 + a) == n).map fun a => ((1 + a : Nat) : Int)
def spAllWith (K : PySem.W.Frag) (C : Addr) : Sp := fun vs H Q E => ∃ (v : V), vs = [v] ∧ AskN K v H 14 (fun n => ∀ H' q, Same H H' → H q = none → H' q = some (.lst ((awl n.toNat).map V.int)) → Q (.ref q) H') (E (.ref C) none H)
theorem scAllWith : FnScope ["many", "few", "number"] ["many"] (defScope sAllWith) := ⟨rfl, rfl, rfl, by decide +kernel, rfl, by decide +kernel, by decide +kernel⟩
theorem gr14 : ((List.range 15).all fun n => n == 0 || (decide (1 ≤ gr n) && decide (gr n ≤ 200))) = true := by decide +kernel
theorem gr14_le {n : Nat} (h1 : 1 ≤ n) (h : n ≤ 14) : 1 ≤ gr n ∧ gr n ≤ 200 := by
  have q := List.all_eq_true.mp gr14 n (List.mem_range.mpr (by omega))
  simp only [Bool.or_eq_true, Bool.and_eq_true, beq_iff_eq, decide_eq_true_eq] at q
  rcases q with z | z
  · omega
  · exact z
theorem ok_allWith (D : Dn K mg "all_with" sAllWith) (B : Bi mg) (mo : ∃ u, mg "MOST_SHOWN" = some u ∧ RelV (.int 14) u) (C : Kp P w K mg base (L2N.CX P w) 2 "check_ones" (spCheckOnes K CM)) (G : Kp P w K mg base CX0 1 "greatest_of" spGreatestOf) (T : Kp P w K mg base CX0 1 "table_of" spTable) : Kp P w K mg base (L2N.CX P w) 3 "all_with" (spAllWith K CM) := by
  obtain ⟨f, fd, F', hm⟩ := D.ex
  refine ⟨f, fd, ["many"], F'.okN scAllWith (fun vs H Q E h => ?_) (fun cdv A outer s H vs Q E hr h => ?_), hm, F'.kp, F'.binds fun _ _ _ _ _ _ us hl => match us, hl with | [_], _ => rfl⟩
  · obtain ⟨v, rfl, _⟩ := h
    rfl
  · obtain ⟨v, rfl, h⟩ := h
    refine ⟨_, pss_cons (ps_expr (pkS C (L2N.takes_of rfl rfl rfl rfl) hr (by decide) rfl (pa_cons (pv 0) (pa_cons (C8.pe_gc rfl mo) pa_nil))))
      (pss_cons (ps_set (i := 1) scAllWith.nd rfl (Or.inr rfl) (pe_ix ix_tup (pk T hr (by decide) rfl (pa_cons (pk G hr (by decide) rfl (pa_cons (pv 0) pa_nil)) pa_nil)) pe_int (fun _ _ => rfl)))
      (pss_one (ps_ret (pe_lc (own := [("number", 2)]) (g := gName 2) (tt := tTest (tOp rEq (tOp (rIxL K) (tVar 1) (tVar 2)) (tVar 0))) rfl scAllWith.nd (pi_range2 (by rfl) B.range (pa_cons pe_int (pa_cons (pe_callB call_len_seq (by rfl) B.len PySem.boot_len (pa_cons (pv 1) pa_nil)) pa_nil)))
        (blkOk_by (own := [("number", 2)]) (N := ["many", "few", "number"]) (sc := defScope sAllWith) (by decide +kernel)) (fun _ _ _ _ _ => pg_name (i := 2) scAllWith.nd rfl (Or.inl rfl))
        (fun _ _ _ _ _ => pts_one (pt_cmpR op_eq (pe_ix (r := rIxL K) ix_list (pv 1) (pv 2) (fun _ _ => rfl)) (pv 0) (nomark _))) (fun _ _ _ _ _ => pv 2))))), ?_⟩
    rcases h with ⟨n, rfl, kb, kg⟩ | ⟨nw, kb⟩
    · refine ⟨_, rfl, _, _, rfl, .inl ⟨n, rfl, kb, fun h1 h2 => ?_⟩⟩
      obtain ⟨m, hm1⟩ : ∃ m : Nat, n = (m : Int) := ⟨n.toNat, by omega⟩
      subst hm1
      have g14 := gr14_le (show 1 ≤ m by omega) (show m ≤ 14 by omega)
      refine ⟨_, rfl, m, rfl, by omega, by omega, fun H1 s1 => ?_⟩
      refine ⟨gr m, rfl, g14.1, g14.2, fun H' p q r ws s' nq nr hp hq hr' wo => ?_⟩
      refine ⟨p, _, _, _, rfl, rfl, SqT.of hp, atI_nat (j := 0) rfl, ?_⟩
      have big : (16777216 : Nat) = sizeLine := PySem.sizeLine_eq.symm
      have len : (((fl (gr m + 1)).map V.int).length : Int) = ((gr m + 1 : Nat) : Int) := by rw [List.length_map, fl_len]
      refine ⟨_, rfl, q, _, rfl, .inl (SqL.of hq), 1, _, rfl, ⟨by decide, by decide, by rw [len]; omega, by rw [len]; omega⟩, fun D hD => ?_⟩
      rw [len, show (((gr m + 1 : Nat) : Int) - 1).toNat = gr m by omega]
      refine lc_range (lo := 1) (n := gr m) (fun j H2 => Same H' H2 ∧ H2 D = some (.lst ((((List.range j).filter fun a => F (1 + a) == m).map fun a => ((1 + a : Nat) : Int)).map V.int))) ⟨sm_upd hD, upd_same⟩ ?_ ?_
      · rintro j H2 hj ⟨s2, hD2⟩
        have ej : (1 : Int) + (j : Int) = ((1 + j : Nat) : Int) := by omega
        rw [ej]
        refine ⟨rfl, ?_⟩
        refine ⟨_, rfl, _, rfl, q, _, _, _, rfl, rfl, SqL.of (sm_at s2 hq), fl_at (by omega), _, rfl, rfl, _, rfl, ?_⟩
        by_cases hc : F (1 + j) = m
        · refine ifT (decide_eq_true (by rw [hc])) ⟨_, rfl, _, hD2, ?_, ?_, ?_⟩
          · have := List.length_filter_le (fun a => F (1 + a) == m) (List.range j)
            rw [List.length_map, List.length_map, ← big]
            rw [List.length_range] at this
            omega
          · exact fun b o e => by
              rw [upd_ne (ne_of_none e hD)]
              exact s2 b o e
          · rw [upd_same, List.range_succ, List.filter_append, List.filter_cons, if_pos (by simpa using hc)]
            simp
        · refine ifF (decide_eq_false (fun z => hc (by have := V.int.inj z; omega))) ⟨s2, ?_⟩
          rw [hD2, List.range_succ, List.filter_append, List.filter_cons, if_neg (by simpa using hc)]
          simp
      · rintro H2 ⟨s2, hD2⟩
        have z := kg h1 h2 H2 D (s1.trans (s'.trans s2)) (s1.free (s'.free hD))
        rw [Int.toNat_natCast] at z
        exact z hD2
    · exact ⟨_, rfl, _, _, rfl, .inr ⟨nw, kb⟩⟩
end
end Fo
namespace Fo
open PySem L2 FO
section
variable {P : Program} {w : World} {K : PySem.W.Frag} {mg : Str → Option Value} {base : Heap} {CN C : Addr}
/-! ### is_floor -/
def spIsFloor (K : PySem.W.Frag) : Sp := fun vs H Q _ => ∃ (a : Addr) (ns : List Int), vs = [.ref a] ∧ SqL K H a (ns.map V.int) ∧ 1 ≤ ns.length ∧ ns.length ≤ 1000 ∧ (IsFloor ns → ∀ H', Same H H' → Q (.bl true) H') ∧ (¬ IsFloor ns → ∀ H', Same H H' → Q (.bl false) H')
theorem scIsFloor : FnScope ["floor", "one", "most", "other", "both"] ["floor"] (defScope sIsFloor) := ⟨rfl, rfl, rfl, by decide +kernel, rfl, by decide +kernel, by decide +kernel⟩
theorem fg_at {ns : List Int} {k : Nat} {z : Int} (h1 : 1 ≤ k) (h : k ≤ ns.length) (hz : z = (k : Int) - 1) : atI (ns.map V.int) z = some (.int (fg ns k)) := by
  have e : z = ((k - 1 : Nat) : Int) := by omega
  rw [e]
  refine atI_nat ?_
  unfold fg
  rw [List.getElem?_map, List.getElem?_eq_getElem (show k - 1 < ns.length by omega), List.getD_eq_getElem?_getD, List.getElem?_eq_getElem (show k - 1 < ns.length by omega)]
  rfl
theorem ok_isFloor (D : Dn K mg "is_floor" sIsFloor) (B : Bi mg) (W : Kp P w K mg base CX0 1 "is_whole" (spWhole K)) : Kp P w K mg base CX0 2 "is_floor" (spIsFloor K) := by
  obtain ⟨f, fd, F', hm⟩ := D.ex
  refine ⟨f, fd, ["floor"], F'.ok scIsFloor (fun vs H Q E h => ?_) (fun cdv A outer s H vs Q E hr h => ?_), hm, F'.kp, F'.binds fun _ _ _ _ _ _ us hl => match us, hl with | [_], _ => rfl⟩
  · obtain ⟨a, ns, rfl, _⟩ := h
    rfl
  · obtain ⟨a, ns, rfl, hS, hl1, hl, kT, kF⟩ := h
    refine ⟨_, pss_cons (ps_if (PW.pt (pw_or (pt_not (pt_val (pe_callB (cr_all rfl) (by rfl) B.all (by decide +kernel) (pa_cons
          (pe_lc (own := [("one", 1)]) (g := gName 1) (tt := tYes) rfl scIsFloor.nd (pi_list (pv 0)) (blkOk_by (own := [("one", 1)]) (N := ["floor", "one", "most", "other", "both"]) (sc := defScope sIsFloor) (by decide +kernel)) (fun _ _ _ _ _ => pg_name (i := 1) scIsFloor.nd rfl (Or.inl rfl)) (fun _ _ _ _ _ => pts_nil)
            (fun _ _ _ _ _ => pk W hr (by decide) rfl (pa_cons (pv 1) pa_nil))) pa_nil))))
        (pw_or1 (pt_cmpR op_gt (pe_ix ix_list (pv 0) pe_int (fun _ _ => rfl)) pe_int (nomark _))))) (pss_one (ps_ret pe_bl)) pss_nil)
      (pss_cons (ps_set (i := 2) scIsFloor.nd rfl (Or.inl rfl) (pe_callB call_len_seq (by rfl) B.len PySem.boot_len (pa_cons (pv 0) pa_nil)))
      (pss_cons (ps_for PassesOwn.never rfl (pi_range2 (by rfl) B.range (pa_cons pe_int (pa_cons (pe_op op_add (pv 2) pe_int) pa_nil))) (pg_name (i := 1) scIsFloor.nd rfl (Or.inl rfl))
        (pss_one (ps_for PassesOwn.never rfl (pi_range2 (by rfl) B.range (pa_cons (pv 1) (pa_cons (pe_op op_add (pv 2) pe_int) pa_nil))) (pg_name (i := 3) scIsFloor.nd rfl (Or.inl rfl))
          (pss_cons (ps_set (i := 4) scIsFloor.nd rfl (Or.inl rfl) (pe_op op_add (pe_ix ix_list (pv 0) (pe_op op_sub (pv 1) pe_int) (fun _ _ => rfl)) (pe_ix ix_list (pv 0) (pe_op op_sub (pv 3) pe_int) (fun _ _ => rfl))))
          (C8.pss_cut (ps_if (PW.pt (pw_and (pt_cmpR op_le (pe_op op_add (pv 1) (pv 3)) (pv 2) (nomark _)) (pw_and1 (pt_cmpR op_gt (pe_ix ix_list (pv 0) (pe_op op_sub (pe_op op_add (pv 1) (pv 3)) pe_int) (fun _ _ => rfl)) (pv 4) (nomark _))))) (pss_one (ps_ret pe_bl)) pss_nil)
          (pss_one (ps_if (PW.pt (pw_and (pt_cmpR op_le (pe_op op_mul (pv 1) (pv 3)) (pv 2) (nomark _)) (pw_and1 (pt_cmpR op_gt (pe_ix ix_list (pv 0) (pe_op op_sub (pe_op op_mul (pv 1) (pv 3)) pe_int) (fun _ _ => rfl)) (pv 4) (nomark _))))) (pss_one (ps_ret pe_bl)) pss_nil)))))))
      (pss_one (ps_ret pe_bl)))), ?_⟩
    have big : (16777216 : Nat) = sizeLine := PySem.sizeLine_eq.symm
    refine ⟨_, rfl, a, rfl, ⟨_, hS⟩, fun D hD => lc_list (K := K) (a := a) (xs := ns.map V.int) (fun j H' => Same H H' ∧ H' D = some (.lst ((List.replicate j true).map V.bl))) ⟨sm_upd hD, upd_same⟩ (fun j H' _ hj => hj.1.seq hS) ?_ ?_⟩
    · rintro j x H1 hx ⟨s1, hD1⟩
      obtain ⟨y, hy, rfl⟩ : ∃ y, y ∈ ns ∧ V.int y = x := List.mem_map.mp (List.mem_of_getElem? hx)
      have hj : j < ns.length := by
        have := (List.getElem?_eq_some_iff.mp hx).1
        rw [List.length_map] at this
        exact this
      refine ⟨rfl, ?_⟩
      unfold tYes
      refine iteT ?_
      refine ⟨_, rfl, _, _, rfl, IsW.int y, _, hD1, ?_, ?_, ?_⟩
      · rw [List.length_map, List.length_replicate, ← big]; omega
      · exact fun b o e => by
          rw [upd_ne (ne_of_none e hD)]
          exact s1 b o e
      · rw [upd_same, List.replicate_succ', List.map_append]; rfl
    · rintro H1 ⟨s1, hD1⟩
      refine ⟨D, _, rfl, SqL.of hD1, _, rfl, ?_⟩
      have e : (List.replicate (ns.map V.int).length true).all id = true := by simp
      rw [e]
      refine iteF ?_
      have hS1 := s1.seq hS
      refine ⟨_, rfl, a, _, _, _, rfl, rfl, hS1, fg_at (k := 1) (by decide) hl1 rfl, _, _, rfl, rfl, _, rfl, ?_⟩
      by_cases h1 : ¬ fg ns 1 ≤ 1
      · exact ifT (decide_eq_true (by omega)) (kF (fun z => h1 z.1) _ s1)
      have h1 := Classical.not_not.mp h1
      refine ifF (decide_eq_false (by omega)) ?_
      refine ⟨_, rfl, a, _, rfl, .inl hS1, ?_⟩
      rw [List.length_map]
      have en : ((ns.length : Nat) : Int) + 1 = ((ns.length + 1 : Nat) : Int) := by omega
      refine ⟨_, rfl, _, _, rfl, rfl, 1, _, rfl, ⟨by decide, by decide, by rw [en]; omega, by rw [en]; omega⟩, ?_⟩
      rw [show (((ns.length : Nat) : Int) + 1 - 1).toNat = ns.length by omega]
      refine for_range (lo := 1) (n := ns.length) (fun i σ H' => ∃ v1 v3 v4 : Option V, σ = [some (.ref a), v1, some (.int (ns.length : Nat)), v3, v4] ∧ Same H H' ∧ ∀ x y, 1 ≤ x → x ≤ i → x ≤ y → y ≤ ns.length → ¬ Viol ns x y)
        ⟨_, _, _, rfl, s1, fun x y h1 h2 => by omega⟩ ?_ ?_
      · rintro i σ H2 hi ⟨v1, v3, v4, rfl, s2, inv⟩
        have eo : (1 : Int) + (i : Int) = ((i + 1 : Nat) : Int) := by omega
        rw [eo]
        have hS2 := s2.seq hS
        refine ⟨_, rfl, _, rfl, _, _, rfl, rfl, _, _, rfl, ⟨by omega, by omega, by rw [en]; omega, by rw [en]; omega⟩, ?_⟩
        rw [show (((ns.length : Nat) : Int) + 1 - ((i + 1 : Nat) : Int)).toNat = ns.length - i by omega]
        refine for_range (lo := ((i + 1 : Nat) : Int)) (n := ns.length - i) (fun j σ H' => ∃ v3 v4 : Option V, σ = [some (.ref a), some (.int (i + 1 : Nat)), some (.int (ns.length : Nat)), v3, v4] ∧ Same H H' ∧ ∀ y, i + 1 ≤ y → y < i + 1 + j → ¬ Viol ns (i + 1) y)
          ⟨_, _, rfl, s2, fun y h1 h2 => by omega⟩ ?_ ?_
        · rintro j σ H3 hj ⟨v3, v4, rfl, s3, inv2⟩
          have ep : ((i + 1 : Nat) : Int) + (j : Int) = ((i + 1 + j : Nat) : Int) := by omega
          rw [ep]
          have hS3 := s3.seq hS
          obtain ⟨x, hx⟩ : ∃ x, x = i + 1 := ⟨_, rfl⟩
          obtain ⟨y, hy⟩ : ∃ y, y = i + 1 + j := ⟨_, rfl⟩
          rw [← hy, ← hx]
          have fx := fg_at (ns := ns) (k := x) (z := ((x : Nat) : Int) - 1) (by omega) (by omega) rfl
          have fy := fg_at (ns := ns) (k := y) (z := ((y : Nat) : Int) - 1) (by omega) (by omega) rfl
          refine ⟨_, rfl, _, rfl, _, _, rfl, rfl, a, _, _, _, rfl, rfl, hS3, fx, _, rfl, _, rfl, _, _, rfl, rfl, a, _, _, _, rfl, rfl, hS3, fy, _, _, rfl, rfl, ?_⟩
          refine ⟨fun σ H' => σ = [some (.ref a), some (.int (x : Nat)), some (.int (ns.length : Nat)), some (.int (y : Nat)), some (.int (fg ns x + fg ns y))] ∧ Same H H' ∧ ¬ (x + y ≤ ns.length ∧ fg ns (x + y) > fg ns x + fg ns y), ?_, ?_⟩
          · refine ⟨_, rfl, _, rfl, _, _, rfl, rfl, _, rfl, _, _, rfl, rfl, _, rfl, ?_⟩
            by_cases hc : x + y ≤ ns.length
            · refine ifT (decide_eq_true (by omega)) ?_
              refine ⟨_, rfl, _, rfl, _, rfl, _, _, rfl, rfl, _, _, rfl, rfl, a, _, _, _, rfl, rfl, hS3, fg_at (k := x + y) (by omega) hc (by omega), _, rfl, _, _, rfl, rfl, _, rfl, ?_⟩
              by_cases hv : fg ns (x + y) > fg ns x + fg ns y
              · exact ifT (decide_eq_true (by omega)) (kF (fun z => z.2 x y (by omega) (by omega) (by omega) (by omega) (.inl ⟨hc, hv⟩)) _ s3)
              · exact ifF (decide_eq_false (by omega)) ⟨rfl, s3, fun z => hv z.2⟩
            · exact ifF (decide_eq_false (by omega)) (iteF ⟨rfl, s3, fun z => hc z.1⟩)
          · rintro σ H4 ⟨rfl, s4, nv⟩
            have hS4 := s4.seq hS
            have em : ((x : Nat) : Int) * ((y : Nat) : Int) = ((x * y : Nat) : Int) := by rw [Int.natCast_mul]
            have xy1 : 1 ≤ x * y := Nat.mul_pos (by omega) (by omega)
            refine ⟨_, rfl, _, rfl, _, _, rfl, rfl, .inl ⟨by omega, by omega⟩, _, rfl, _, _, rfl, rfl, _, rfl, ?_⟩
            rw [em]
            have done : ¬ (x * y ≤ ns.length ∧ fg ns (x * y) > fg ns x + fg ns y) → ∃ v3 v4 : Option V, ([some (.ref a), some (.int (x : Nat)), some (.int (ns.length : Nat)), some (.int (y : Nat)), some (.int (fg ns x + fg ns y))] : St) = [some (.ref a), some (.int (x : Nat)), some (.int (ns.length : Nat)), v3, v4] ∧ Same H H4 ∧ ∀ y, x ≤ y → y < x + (j + 1) → ¬ Viol ns x y := fun nw => by
              refine ⟨_, _, rfl, s4, fun y' h1 h2 v => ?_⟩
              by_cases e : y' = y
              · subst e
                rcases v with v | v
                · exact nv v
                · exact nw v
              · rw [hx] at v
                exact inv2 y' (by omega) (by omega) v
            by_cases hc : x * y ≤ ns.length
            · refine ifT (decide_eq_true (by omega)) ?_
              refine ⟨_, rfl, _, rfl, _, rfl, _, _, rfl, rfl, .inl ⟨by omega, by omega⟩, _, _, rfl, rfl, a, _, _, _, rfl, rfl, hS4, fg_at (k := x * y) xy1 hc (by rw [em]), _, rfl, _, _, rfl, rfl, _, rfl, ?_⟩
              by_cases hv : fg ns (x * y) > fg ns x + fg ns y
              · exact ifT (decide_eq_true (by omega)) (kF (fun z => z.2 x y (by omega) (by omega) (by omega) (by omega) (.inr ⟨hc, hv⟩)) _ s4)
              · exact ifF (decide_eq_false (by omega)) (done fun z => hv z.2)
            · exact ifF (decide_eq_false (by omega)) (iteF (done fun z => hc z.1))
        · rintro σ H3 ⟨v3, v4, rfl, s3, inv2⟩
          refine ⟨_, _, _, rfl, s3, fun x y h1 h2 h3 h4 v => ?_⟩
          by_cases e : x = i + 1
          · subst e
            exact inv2 y h3 (by omega) v
          · exact inv x y h1 (by omega) h3 h4 v
      · rintro σ H2 ⟨v1, v3, v4, rfl, s2, inv⟩
        exact kT (floor_half h1 fun x y a1 a2 a3 => inv x y a1 (by omega) a2 a3) _ s2
end
end Fo
namespace Fo
open PySem L2 FO
/-! ### the class Least -/
/-- the fields of an answer -/
def lf (tv : V) (q : Addr) : List (Str × V) := putF "floor" (.ref q) (putF "text" tv [])
theorem tf_ : ¬ (("text" : Str) = "floor") := by decide +kernel
theorem lf_text (tv : V) (q : Addr) : (lf tv q).lookup ("text" : Str) = some tv := by
  unfold lf
  rw [lookup_putF, if_neg tf_, lookup_putF, if_pos rfl]
theorem lf_floor (tv : V) (q : Addr) : (lf tv q).lookup ("floor" : Str) = some (.ref q) := by
  unfold lf
  rw [lookup_putF, if_pos rfl]
theorem lf_no (tv : V) (q : Addr) {m : Str} (h1 : ¬ m = "floor") (h2 : ¬ m = "text") : (lf tv q).lookup m = none := by
  unfold lf
  rw [lookup_putF, if_neg h1, lookup_putF, if_neg h2]
  rfl
theorem lf_shows (tv : V) (q : Addr) : (lf tv q).lookup ("shows" : Str) = none := lf_no tv q (by decide +kernel) (by decide +kernel)
theorem sm_made {H : Hp} {x dx C : Addr} (nx : H x = none) (nd : H dx = none) : Same H (upd (upd H dx (.own x)) x (.ins C dx [])) := fun b o e => by
  rw [upd_ne (ne_of_none e nx), upd_ne (ne_of_none e nd)]
  exact e
/-- an answer stands at p: its text, its list at q -/
def LeastAt (C : Addr) (H : Hp) (p : Addr) (tv : V) (q : Addr) : Prop := ∃ dx, H p = some (.ins C dx (lf tv q))
structure LeC (K : PySem.W.Frag) (C : Addr) : Prop where
  cl : Cls K C
  nT : NoAttr K C "text"
  nF : NoAttr K C "floor"
section
variable {P : Program} {w : World} {K : PySem.W.Frag} {mg : Str → Option Value} {base : Heap} {CN C : Addr}
def spInit (K : PySem.W.Frag) (C : Addr) : Sp := fun vs H Q _ => ∃ (H0 : Hp) (p dx : Addr) (tv : V) (l : Addr) (xs : List V), vs = [.ref p, tv, .ref l] ∧ Same H0 H ∧ H0 p = none ∧ H p = some (.ins C dx []) ∧ SqL K H0 l xs ∧
  ∀ H' q, Same H0 H' → H0 q = none → LeastAt C H' p tv q → H' q = some (.lst xs) → Q .non H'
theorem scInit : FnScope ["self", "text", "floor"] ["self", "text", "floor"] (defScope sInit) := ⟨rfl, rfl, rfl, by decide +kernel, rfl, by decide +kernel, by decide +kernel⟩
theorem fn_init {f : Addr} {fd : FuncData} (F' : Fun K "__init__" "Least.__init__" sInit f fd) (L : LeC K C) (B : Bi mg) : FnOk P w K mg base CX0 1 f fd ["self", "text", "floor"] (spInit K C) := by
  refine F'.ok scInit (fun vs H Q E h => ?_) (fun cdv A outer s H vs Q E hr h => ?_)
  · obtain ⟨H0, p, dx, tv, l, xs, rfl, _⟩ := h
    rfl
  · obtain ⟨H0, p, dx, tv, l, xs, rfl, s0, np, hp, hl, k⟩ := h
    refine ⟨_, pss_cons (ps_fld (pv 0) (pv 1) rfl) (pss_one (ps_fld (pv 0) (pe_callTy call_list_of (by rfl) B.list (by decide +kernel) (pa_cons (pv 2) pa_nil)) rfl)), ?_⟩
    refine ⟨_, rfl, _, rfl, p, C, dx, _, rfl, hp, L.cl, L.nT, (by show 0 < 1000; decide), ?_⟩
    have s1 : Same H0 (upd H p (.ins C dx (putF "text" tv []))) := sm_put s0 np
    refine ⟨_, rfl, l, xs, rfl, .inl (s1.seq hl), fun q nq => ?_⟩
    have pq : p ≠ q := ne_of_none upd_same nq
    refine ⟨_, rfl, p, C, dx, _, rfl, (by rw [upd_ne pq, upd_same]), L.cl, L.nF, (by show 1 < 1000; decide), ?_⟩
    have s2 := sm_new (o := .lst xs) s1 nq
    exact k _ q (sm_put s2 np) (s1.free nq) ⟨dx, upd_same⟩ (by rw [upd_ne (Ne.symm pq), upd_same])
/-! ### shows -/
def spShows (K : PySem.W.Frag) (C : Addr) : Sp := fun vs H Q _ => ∃ (p : Addr) (z : Str) (q : Addr) (ns : List Int) (n : Int), vs = [.ref p, .int n] ∧ LeastAt C H p (.str z) q ∧ SqL K H q (ns.map V.int) ∧ z.length ≤ sizeLine ∧ 1 ≤ n ∧ n ≤ 1000 ∧
  (Shows (tl z) ns n → ∀ H', Same H H' → Q (.bl true) H') ∧ (¬ Shows (tl z) ns n → ∀ H', Same H H' → Q (.bl false) H')
theorem scShows : FnScope ["self", "number"] ["self", "number"] (defScope sShows) := ⟨rfl, rfl, rfl, by decide +kernel, rfl, by decide +kernel, by decide +kernel⟩
theorem fn_shows {f : Addr} {fd : FuncData} (F' : Fun K "shows" "Least.shows" sShows f fd) (L : LeC K C) (B : Bi mg) (W : Kp P w K mg base CX0 3 "worth_of" (spWorthOf K)) (Fl : Kp P w K mg base CX0 2 "is_floor" (spIsFloor K)) : FnOk P w K mg base CX0 4 f fd ["self", "number"] (spShows K C) := by
  refine F'.ok scShows (fun vs H Q E h => ?_) (fun cdv A outer s H vs Q E hr h => ?_)
  · obtain ⟨p, z, q, ns, n, rfl, _⟩ := h
    rfl
  · obtain ⟨p, z, q, ns, n, rfl, ⟨dx, hp⟩, hq, hz, n1, n2, kT, kF⟩ := h
    refine ⟨_, pss_cons (ps_if (PW.pt (pw_or (pt_cmpR op_ne (pk W hr (by decide) rfl (pa_cons (pe_fld (pv 0) rfl) pa_nil)) (pv 1) (nomark _))
        (pw_or (pt_cmpR op_ne (pe_callB call_len_seq (by rfl) B.len PySem.boot_len (pa_cons (pe_fld (pv 0) rfl) pa_nil)) (pv 1) (nomark _))
        (pw_or1 (pt_not (pt_val (pk Fl hr (by decide) rfl (pa_cons (pe_fld (pv 0) rfl) pa_nil)))))))) (pss_one (ps_ret pe_bl)) pss_nil)
      (pss_one (ps_ret (pe_cmpR op_eq (pe_ix ix_list (pe_fld (pv 0) rfl) (pe_un un_neg pe_int) (fun _ _ => rfl)) (pe_m1 PySem.F.slot_str_count PySem.F.type_str_count mt_count (pe_fld (pv 0) rfl) pe_str) (nomark _)))), ?_⟩
    refine ⟨_, rfl, p, C, dx, _, _, rfl, hp, L.cl, L.nT, lf_text _ _, _, rfl, .inl ⟨z, rfl, hz, fun H1 s1 => ?_⟩⟩
    have hp1 := sm_at s1 hp
    have hq1 := s1.seq hq
    refine ⟨_, rfl, rfl, _, rfl, ?_⟩
    by_cases c1 : ¬ worthL (tl z) = n
    · exact ifT (by rw [decide_eq_false (fun e => c1 (V.int.inj e))]; rfl) (iteT (kF (fun sh => c1 sh.1) _ s1))
    have c1 := Classical.not_not.mp c1
    refine ifF (by rw [decide_eq_true (by rw [c1])]; rfl) ?_
    refine ⟨_, rfl, p, C, dx, _, _, rfl, hp1, L.cl, L.nF, lf_floor _ _, q, _, rfl, .inl hq1, _, rfl, rfl, _, rfl, ?_⟩
    rw [List.length_map]
    by_cases c2 : ¬ ((ns.length : Nat) : Int) = n
    · exact ifT (by rw [decide_eq_false (fun e => c2 (V.int.inj e))]; rfl) (iteT (kF (fun sh => c2 sh.2.1) _ s1))
    have c2 := Classical.not_not.mp c2
    refine ifF (by rw [decide_eq_true (by rw [c2])]; rfl) ?_
    refine ⟨_, rfl, p, C, dx, _, _, rfl, hp1, L.cl, L.nF, lf_floor _ _, q, ns, rfl, hq1, by omega, by omega, fun fl H2 s2 => ?_, fun fl H2 s2 => ?_⟩
    · refine ⟨_, rfl, iteF ?_⟩
      have hp2 := sm_at s2 hp1
      refine ⟨_, rfl, p, C, dx, _, _, rfl, hp2, L.cl, L.nF, lf_floor _ _, _, rfl, q, _, _, .int (fg ns ns.length), rfl, rfl, s2.seq hq1, ?_, _, rfl, p, C, dx, _, _, rfl, hp2, L.cl, L.nT, lf_text _ _, ⟨z, rfl⟩, z, _, rfl, rfl, rfl, ?_⟩
      · refine atI_neg (k := 1) (by decide) (by rw [List.length_map]; omega) ?_ rfl
        unfold fg
        rw [List.length_map, List.getElem?_map, List.getElem?_eq_getElem (show ns.length - 1 < ns.length by omega), List.getD_eq_getElem?_getD, List.getElem?_eq_getElem (show ns.length - 1 < ns.length by omega)]
        rfl
      · show Q (.bl (decide (V.int (fg ns ns.length) = V.int (Txt.count z "1")))) H2
        rw [count_one]
        by_cases c3 : fg ns ns.length = ((tl z).count 49 : Nat)
        · rw [decide_eq_true (by rw [c3])]
          exact kT ⟨c1, c2, fl, c3⟩ _ (s1.trans s2)
        · rw [decide_eq_false (fun e => c3 (V.int.inj e))]
          exact kF (fun sh => c3 sh.2.2.2) _ (s1.trans s2)
    · exact ⟨_, rfl, iteT (kF (fun sh => fl sh.2.2.1) _ (s1.trans s2))⟩
/-! ### least -/
def spLeast (K : PySem.W.Frag) (CN C : Addr) : Sp := fun vs H Q E => ∃ (v : V), vs = [v] ∧ AskN K v H 200 (fun n => ∀ H' p q t, Same H H' → H p = none → H q = none → LeastAt C H' p (.str t) q → H' q = some (.lst ((fl1 n.toNat).map V.int)) → Wr (tl t) (n.toNat : Nat) (F n.toNat) → Q (.ref p) H') (E (.ref CN) none H)
theorem scLeast : FnScope ["number", "few", "ways"] ["number"] (defScope sLeast) := ⟨rfl, rfl, rfl, by decide +kernel, rfl, by decide +kernel, by decide +kernel⟩
theorem cut_fl (n : Nat) : cutV ((fl (n + 1)).map V.int) (some 1) none = (fl1 n).map V.int := by
  unfold cutV
  have e1 : HT.sIx ((fl (n + 1)).map V.int).length 0 (some 1) = 1 := by
    rw [List.length_map, fl_len]
    show (if (1 : Int) < 0 then (1 + ((n + 1 : Nat) : Int)).toNat else min (1 : Int).toNat (n + 1)) = 1
    rw [if_neg (by decide)]
    show min 1 (n + 1) = 1
    omega
  have e2 : HT.sIx ((fl (n + 1)).map V.int).length ((fl (n + 1)).map V.int).length none = n + 1 := by
    show ((fl (n + 1)).map V.int).length = n + 1
    rw [List.length_map, fl_len]
  rw [e1, e2, List.take_of_length_le (by rw [List.length_drop, List.length_map, fl_len]; omega)]
  unfold fl fl1
  rw [List.range_succ_eq_map]
  simp [Nat.add_comm]
theorem ok_least (D : Dn K mg "least" sLeast) (Ck : Kp P w K mg base (L2N.CX P w) 2 "check_number" (spCheckNumber K CN)) (T : Kp P w K mg base CX0 1 "table_of" spTable) (Tb : Kp P w K mg base CX0 202 "text_by" (spTextBy K 200)) (M : C8.Mak P w K mg base 1 "Least" C (spInit K C) []) : Kp P w K mg base (L2N.CX P w) 203 "least" (spLeast K CN C) := by
  obtain ⟨f, fd, F', hm⟩ := D.ex
  refine ⟨f, fd, ["number"], F'.okN scLeast (fun vs H Q E h => ?_) (fun cdv A outer s H vs Q E hr h => ?_), hm, F'.kp, F'.binds fun _ _ _ _ _ _ us hl => match us, hl with | [_], _ => rfl⟩
  · obtain ⟨v, rfl, _⟩ := h
    rfl
  · obtain ⟨v, rfl, h⟩ := h
    refine ⟨_, pss_cons (ps_expr (pkS Ck (L2N.takes_of rfl rfl rfl rfl) hr (by decide) rfl (pa_cons (pv 0) pa_nil)))
      (pss_cons (ps_asg (pk T hr (by decide) rfl (pa_cons (pv 0) pa_nil)) (pg_tup rfl (pgs_cons (pg_name (i := 1) scLeast.nd rfl (.inl rfl)) (pgs_cons (pg_name (i := 2) scLeast.nd rfl (.inl rfl)) pgs_nil))))
      (pss_one (ps_ret (C8.pe_mk M hr (by decide) rfl (pa_cons (pk Tb hr (by decide) rfl (pa_cons (pv 2) (pa_cons (pv 0) pa_nil))) (pa_cons (pe_slice sl_list (pv 1) (po_some pe_int) po_none) pa_nil)))))), ?_⟩
    rcases h with ⟨n, rfl, kb, kg⟩ | ⟨nw, kb⟩
    · refine ⟨_, rfl, _, rfl, .inl ⟨n, rfl, kb, fun h1 h2 => ?_⟩⟩
      obtain ⟨m, hm1⟩ : ∃ m : Nat, n = (m : Int) := ⟨n.toNat, by omega⟩
      subst hm1
      refine ⟨_, rfl, m, rfl, by omega, by omega, fun H1 p q r ws s1 nq nr hp hq hr' wo => ?_⟩
      refine ⟨p, _, rfl, SqT.of hp, rfl, _, _, rfl, _, _, rfl, rfl, ?_⟩
      refine ⟨_, rfl, _, rfl, r, m, m + 1, ws, rfl, SqL.of hr', wo, by omega, by omega, by omega, by omega, fun t wr => ?_⟩
      refine ⟨_, rfl, _, rfl, q, _, rfl, SqL.of hq, fun l nl => ?_⟩
      rw [cut_fl]
      obtain ⟨H2, e2, s2, hl⟩ := ab nl (.lst ((fl1 m).map V.int))
      rw [e2]
      intro x dx nx ndx ne
      have s12 := s1.trans s2
      refine ⟨H2, x, dx, _, l, _, rfl, sm_made nx ndx, nx, upd_same, SqL.of hl, fun H3 u s3 nu hx hu => ⟨rfl, ?_⟩⟩
      have z := kg h1 h2 H3 x u t (s12.trans s3) (s12.free nx) (s12.free nu) hx
      rw [Int.toNat_natCast] at z
      exact z hu wr
    · exact ⟨_, rfl, _, rfl, .inr ⟨nw, kb⟩⟩
end
end Fo
namespace Fo
open PySem L2 FO
/-! ### the script: slices and sums -/
theorem cut_take (ns : List Int) (k : Nat) : cutV (ns.map V.int) none (some (k : Int)) = (ns.take k).map V.int := by
  unfold cutV
  rw [HT.sIx_nat]
  show (((ns.map V.int).drop 0).take (min k (ns.map V.int).length - 0)) = _
  rw [List.drop_zero, Nat.sub_zero, List.map_take, List.length_map]
  by_cases h : k ≤ ns.length
  · rw [Nat.min_eq_left h]
  · rw [Nat.min_eq_right (by omega), List.take_of_length_le (by rw [List.length_map]; omega), List.take_of_length_le (by rw [List.length_map]; omega)]
theorem lapp (x y : Str) : (x ++ y).length = x.length + y.length := by rw [Str.length, Str.length, Str.length]; exact Array.size_append
theorem sum_bits {b : Nat} : ∀ (ns : List Int), (∀ n ∈ ns, n.natAbs < 2 ^ b) → ns.sum.natAbs ≤ ns.length * 2 ^ b
  | [], _ => by simp
  | n :: ns, h => by
    have ih := sum_bits ns (fun m hm => h m (List.mem_cons_of_mem _ hm))
    have h0 := h n List.mem_cons_self
    rw [List.sum_cons, List.length_cons, Nat.add_mul, Nat.one_mul]
    have := Int.natAbs_add_le n ns.sum
    omega
theorem sum_lt {ns : List Int} {b : Nat} (hl : ns.length ≤ 63) (h : ∀ n ∈ ns, n.natAbs < 2 ^ b) : ns.sum.natAbs < 2 ^ (b + 6) := by
  have h1 := sum_bits ns h
  have h2 : ns.length * 2 ^ b ≤ 63 * 2 ^ b := Nat.mul_le_mul_right _ hl
  have h3 : 0 < 2 ^ b := Nat.pow_pos (by decide)
  rw [Nat.pow_add]
  show _ < 2 ^ b * 64
  omega
/-- what a law's def is promised -/
def spLaw (K : PySem.W.Frag) : Sp := fun vs H Q _ => ∃ (a : Addr) (ns : List Int), vs = [.ref a] ∧ SqL K H a (ns.map V.int) ∧ ns.length ≤ 63 ∧ (∀ n ∈ ns, n.natAbs < 2 ^ 1048576) ∧ ∀ H', Q (.bl true) H'
end Fo
namespace Fo
open PySem L2 FO
/-! ### a text times a number -/
/-- the codes, so often -/
def rep (n : Nat) (t : List Nat) : List Nat := (List.replicate n t).flatten
theorem rep_zero (t : List Nat) : rep 0 t = [] := rfl
theorem rep_succ (n : Nat) (t : List Nat) : rep (n + 1) t = t ++ rep n t := by simp [rep, List.replicate_succ]
theorem rep_snoc (n : Nat) (t : List Nat) : rep (n + 1) t = rep n t ++ t := by simp [rep, List.replicate_succ']
theorem rep_len (n : Nat) (t : List Nat) : (rep n t).length = n * t.length := by simp [rep]
theorem rep_count (n : Nat) (t : List Nat) (c : Nat) : (rep n t).count c = n * t.count c := by
  induction n with
  | zero => simp [rep]
  | succ n ih => rw [rep_succ, List.count_append, ih, Nat.succ_mul, Nat.add_comm]
theorem fold_cat : ∀ (l : List (Array Nat)) (a : Array Nat), (l.foldl (· ++ ·) a).toList = a.toList ++ (l.map Array.toList).flatten
  | [], a => by simp
  | x :: l, a => by rw [List.foldl_cons, fold_cat l]; simp
def rMulS : R2 := fun x y H Q => ∃ (z : Str) (n : Nat), x = .str z ∧ y = .int (n : Nat) ∧ n < 4294967296 ∧ z.length * n ≤ sizeLine ∧ ∀ u : Str, u.cps.toList = rep n z.cps.toList → Q (.str u) H
theorem op_mulS {X : Cx} : OpR X (PySem.binaryOp .Mult) rMulS := by
  intro pins s σ H x y v u Q I rx ry h
  obtain ⟨z, n, rfl, rfl, hn, hz, q⟩ := h
  obtain ⟨t, rfl⟩ := rx
  obtain ⟨t', rfl⟩ := ry
  refine PySem.P.mul_str ?_ (fun h1 _ => ?_) (fun h1 _ => ?_) ?_
  · rw [decide_eq_false (by omega), decide_eq_false (by omega)]
    rfl
  · have hs : sizeLine ≤ 2 ^ 63 - 1 := by decide
    have e : (z.length : Int) ≤ (2 ^ 63 - 1) / ((n : Nat) : Int) := by
      refine (Int.le_ediv_iff_mul_le (by omega)).mpr ?_
      have : ((z.length * n : Nat) : Int) ≤ ((2 ^ 63 - 1 : Nat) : Int) := by exact_mod_cast Nat.le_trans hz hs
      rw [Int.natCast_mul] at this
      exact this
    omega
  · unfold PySem.Builtin.Str.tooLong
    rw [Int.toNat_natCast]
    exact decide_eq_false (by omega)
  · by_cases h0 : ((n : Nat) : Int) < 1
    · rw [if_pos h0]
      have : n = 0 := by omega
      subst this
      exact ⟨by decide, .str Str.empty, H, I.tok _, ⟨_, rfl⟩, q _ rfl⟩
    rw [if_neg h0]
    by_cases h1 : (((n : Nat) : Int) == 1 || z.length == 0) = true
    · rw [if_pos h1]
      refine ⟨.str z, H, I.tok _, ⟨_, rfl⟩, q _ ?_⟩
      simp only [Bool.or_eq_true, beq_iff_eq] at h1
      rcases h1 with h1 | h1
      · have : n = 1 := by omega
        subst this
        simp [rep]
      · have e : z.cps.toList = [] := List.eq_nil_of_length_eq_zero (by rw [Array.length_toList]; exact h1)
        rw [e]
        simp [rep]
    · rw [if_neg h1]
      have e : (⟨(List.replicate ((n : Nat) : Int).toNat z.cps).foldl (· ++ ·) #[]⟩ : Str).cps.toList = rep n z.cps.toList := by
        show ((List.replicate ((n : Nat) : Int).toNat z.cps).foldl (· ++ ·) #[]).toList = _
        rw [fold_cat, Int.toNat_natCast]
        simp [rep]
      refine ⟨?_, .str _, H, I.tok _, ⟨_, rfl⟩, q _ e⟩
      show Array.size _ ≤ _
      rw [← Array.length_toList]
      show (⟨(List.replicate ((n : Nat) : Int).toNat z.cps).foldl (· ++ ·) #[]⟩ : Str).cps.toList.length ≤ _
      rw [e, rep_len, Array.length_toList, Nat.mul_comm]
      exact hz
/-! ### writings nested deep -/
theorem wr_left (n : Nat) : Wr (rep n [40] ++ 49 :: rep n [43, 49, 41]) (n + 1 : Nat) (n + 1) := by
  induction n with
  | zero => exact Wr.one
  | succ n ih =>
    have e := Wr.plus ih Wr.one
    rw [rep_succ, rep_snoc]
    have e1 : ((n + 1 : Nat) : Int) + 1 = ((n + 1 + 1 : Nat) : Int) := by omega
    rw [e1] at e
    simpa using e
theorem wr_right (n : Nat) : Wr (rep n [40, 49, 43] ++ 49 :: rep n [41]) (n + 1 : Nat) (n + 1) := by
  induction n with
  | zero => exact Wr.one
  | succ n ih =>
    have e := Wr.plus Wr.one ih
    rw [rep_succ, rep_snoc]
    have e1 : 1 + ((n + 1 : Nat) : Int) = ((n + 1 + 1 : Nat) : Int) := by omega
    have e2 : 1 + (n + 1) = n + 1 + 1 := by omega
    rw [e1, e2] at e
    simpa using e
theorem wr_times (n : Nat) : Wr (rep n [40, 49, 42] ++ 49 :: rep n [41]) 1 (n + 1) := by
  induction n with
  | zero => exact Wr.one
  | succ n ih =>
    have e := Wr.times Wr.one ih
    rw [rep_succ, rep_snoc]
    have e2 : 1 + (n + 1) = n + 1 + 1 := by omega
    rw [e2] at e
    simpa using e
end Fo
namespace Fo
open PySem L2 FO
/-! ### readings of plain terms, by what they give -/
/-- from H0 on the term gives a value with Φ, and keeps all that stood -/
def Al (H0 : Hp) (σ : L2.St) (te : TE) (Φ : Hp → V → Prop) : Prop := ∀ (H : Hp) (Q : VK), Same H0 H → (∀ G v, Same H G → Φ G v → Q v G) → te σ H Q
def AlL (H0 : Hp) (σ : L2.St) (ta : TA) (Ψ : Hp → List V → Prop) : Prop := ∀ (H : Hp) (Q : List V → Hp → Prop), Same H0 H → (∀ G vs, Same H G → Ψ G vs → Q vs G) → ta σ H Q
def Stab (Φ : Hp → V → Prop) : Prop := ∀ H G v, Same H G → Φ H v → Φ G v
def Is (x : V) : Hp → V → Prop := fun _ v => v = x
def IsT (t : List Nat) : Hp → V → Prop := fun _ v => ∃ z : Str, v = .str z ∧ tl z = t
/-- a list of n values with Φ -/
def LsA (n : Nat) (Φ : Hp → V → Prop) : Hp → V → Prop := fun H v => ∃ p xs, v = .ref p ∧ H p = some (.lst xs) ∧ xs.length = n ∧ ∀ x ∈ xs, Φ H x
def AllV (n : Nat) (Φ : Hp → V → Prop) : Hp → List V → Prop := fun H vs => vs.length = n ∧ ∀ x ∈ vs, Φ H x
def IntsV (ns : List Int) : Hp → List V → Prop := fun _ vs => vs = ns.map V.int
theorem stab_is (x : V) : Stab (Is x) := fun _ _ _ _ h => h
theorem stab_t (t : List Nat) : Stab (IsT t) := fun _ _ _ _ h => h
theorem stab_ls {n : Nat} {Φ : Hp → V → Prop} (h : Stab Φ) : Stab (LsA n Φ) := fun _ _ _ s ⟨p, xs, e, hp, hn, hx⟩ => ⟨p, xs, e, s _ _ hp, hn, fun x m => h _ _ _ s (hx x m)⟩
section
variable {H0 : Hp} {σ : L2.St} {a b c d : TE} {ta : TA} {Φ Φ' : Hp → V → Prop}
theorem al_c {v : V} (h : ∀ H, Φ H v) : Al H0 σ (tC v) Φ := fun H _ _ k => k H v (Same.refl H) (h H)
theorem al_ci (v : V) : Al H0 σ (tC v) (Is v) := al_c fun _ => rfl
theorem al_ct (z : Str) : Al H0 σ (tC (.str z)) (IsT (tl z)) := al_c fun _ => ⟨z, rfl, rfl⟩
theorem al_v {i : Nat} {v : V} (e : σ[i]? = some (some v)) (st : Stab Φ) (h : Φ H0 v) : Al H0 σ (tVar i) Φ := fun H _ s k => ⟨v, e, k H v (Same.refl H) (st _ _ _ s h)⟩
theorem al_vi {i : Nat} {v : V} (e : σ[i]? = some (some v)) : Al H0 σ (tVar i) (Is v) := al_v e (stab_is v) rfl
theorem al_vt {i : Nat} {z : Str} {t : List Nat} (e : σ[i]? = some (some (.str z))) (h : tl z = t) : Al H0 σ (tVar i) (IsT t) := al_v e (stab_t t) ⟨z, rfl, h⟩
theorem al_weak (h : Al H0 σ a Φ) (k : ∀ H v, Φ H v → Φ' H v) : Al H0 σ a Φ' := fun H Q s q => h H Q s fun G v sG hv => q G v sG (k G v hv)
theorem al_neg {i : Int} (h : Al H0 σ a (Is (.int i))) : Al H0 σ (tUn (rU fun i => .int (-i)) a) (Is (.int (-i))) := fun H Q s k => h H _ s fun G v sG hv => by
  subst hv
  exact ⟨i, rfl, k G _ sG rfl⟩
theorem al_add {i j : Int} (h : Al H0 σ a (Is (.int i))) (g : Al H0 σ b (Is (.int j))) : Al H0 σ (tOp (rI0 fun i j => .int (i + j)) a b) (Is (.int (i + j))) := fun H Q s k => h H _ s fun G v sG hv => g G _ (s.trans sG) fun G2 u sG2 hu => by
  subst hv hu
  exact ⟨i, j, rfl, rfl, k G2 _ (sG.trans sG2) rfl⟩
theorem al_cat {x y : List Nat} (h : Al H0 σ a (IsT x)) (g : Al H0 σ b (IsT y)) (hl : x.length + y.length ≤ sizeLine) : Al H0 σ (tOp (fun x y H Q => ∃ i j, x = .str i ∧ y = .str j ∧ i.length + j.length ≤ sizeLine ∧ Q (.str (i ++ j)) H) a b) (IsT (x ++ y)) := fun H Q s k => h H _ s fun G v sG hv => g G _ (s.trans sG) fun G2 u sG2 hu => by
  obtain ⟨z1, rfl, rfl⟩ := hv
  obtain ⟨z2, rfl, rfl⟩ := hu
  exact ⟨z1, z2, rfl, rfl, by rw [lenT, lenT]; exact hl, k G2 _ (sG.trans sG2) ⟨_, rfl, tlA z1 z2⟩⟩
theorem al_rep {x : List Nat} {n : Nat} (h : Al H0 σ a (IsT x)) (g : Al H0 σ b (Is (.int (n : Nat)))) (hn : n < 4294967296) (hl : x.length * n ≤ sizeLine) : Al H0 σ (tOp rMulS a b) (IsT (rep n x)) := fun H Q s k => h H _ s fun G v sG hv => g G _ (s.trans sG) fun G2 u sG2 hu => by
  obtain ⟨z1, rfl, rfl⟩ := hv
  subst hu
  exact ⟨z1, n, rfl, rfl, hn, by rw [lenT]; exact hl, fun u hu => k G2 _ (sG.trans sG2) ⟨u, rfl, hu⟩⟩
theorem al_nil : AlL H0 σ tNil (AllV 0 Φ) := fun H Q s k => k H [] (Same.refl H) ⟨rfl, fun x hx => by cases hx⟩
theorem al_cons {n : Nat} (st : Stab Φ) (h : Al H0 σ a Φ) (g : AlL H0 σ ta (AllV n Φ)) : AlL H0 σ (tCons a ta) (AllV (n + 1) Φ) := fun H Q s k => h H _ s fun G v sG hv => g G _ (s.trans sG) fun G2 us sG2 hu =>
  k G2 (v :: us) (sG.trans sG2) ⟨by rw [List.length_cons, hu.1], fun x hx => by
    rcases List.mem_cons.mp hx with rfl | hx
    · exact st _ _ _ sG2 hv
    · exact hu.2 x hx⟩
theorem al_inil : AlL H0 σ tNil (IntsV []) := fun H Q s k => k H [] (Same.refl H) rfl
theorem al_icons {i : Int} {ns : List Int} (h : Al H0 σ a (Is (.int i))) (g : AlL H0 σ ta (IntsV ns)) : AlL H0 σ (tCons a ta) (IntsV (i :: ns)) := fun H Q s k => h H _ s fun G v sG hv => g G _ (s.trans sG) fun G2 us sG2 hu => by
  subst hv
  rw [show us = ns.map V.int from hu]
  exact k G2 _ (sG.trans sG2) rfl
theorem al_lst {n : Nat} (st : Stab Φ) (h : AlL H0 σ ta (AllV n Φ)) (hn : n ≤ sizeLine) : Al H0 σ (tLst ta) (LsA n Φ) := fun H Q s k => h H _ s fun G vs sG hv => ⟨by rw [hv.1]; exact hn, fun p np => k _ _ (sm_new sG np) ⟨p, vs, rfl, upd_same, hv.1, fun x hx => st _ _ _ (sm_upd np) (hv.2 x hx)⟩⟩
theorem al_catL {n m : Nat} (st : Stab Φ) (h : Al H0 σ a (LsA n Φ)) (g : Al H0 σ b (LsA m Φ)) (hn : n + m ≤ sizeLine) : Al H0 σ (tOp rCat a b) (LsA (n + m) Φ) := fun H Q s k => h H _ s fun G v sG hv => g G _ (s.trans sG) fun G2 u sG2 hu => by
  obtain ⟨p, xs, rfl, hp, hx, ax⟩ := stab_ls st _ _ _ sG2 hv
  obtain ⟨q, ys, rfl, hq, hy, ay⟩ := hu
  refine ⟨p, q, xs, ys, rfl, rfl, hp, hq, by rw [hx, hy]; exact hn, fun r nr => k _ _ (sm_new (sG.trans sG2) nr) ⟨r, _, rfl, upd_same, by rw [List.length_append, hx, hy], fun x hx => ?_⟩⟩
  rcases List.mem_append.mp hx with z | z
  · exact st _ _ _ (sm_upd nr) (ax x z)
  · exact st _ _ _ (sm_upd nr) (ay x z)
end
/-! ### texts with their worth and ones -/
def GoodC (t : List Nat) (w k : Int) : Prop := worthL t = w ∧ w ≠ 0 ∧ ((t.count 49 : Nat) : Int) = k ∧ t.length ≤ 2000
instance (t : List Nat) (w k : Int) : Decidable (GoodC t w k) := inferInstanceAs (Decidable (_ ∧ _))
theorem wr_good {t : List Nat} {n : Int} {k : Nat} (h : Wr t n k) (hk : k ≤ 500) : GoodC t n (k : Nat) := ⟨h.worth hk, by have := h.pos; omega, by rw [h.count], by have := h.len; omega⟩
def CaseP : Hp → V → Prop := fun H v => ∃ (T : Addr) (z : Str) (w k : Int), v = .ref T ∧ H T = some (.tup [.str z, .int w, .int k]) ∧ GoodC (tl z) w k
theorem stab_case : Stab CaseP := fun _ _ _ s ⟨T, z, w, k, e, h, g⟩ => ⟨T, z, w, k, e, s _ _ h, g⟩
/-- a writing, its floor, a number, whether it shows it -/
def RowP : Hp → V → Prop := fun H v => ∃ (T : Addr) (z : Str) (l : Addr) (ns : List Int) (n : Int) (b : Bool), v = .ref T ∧ H T = some (.tup [.str z, .ref l, .int n, .bl b]) ∧ H l = some (.lst (ns.map V.int)) ∧ z.length ≤ 2000 ∧ 1 ≤ n ∧ n ≤ 1000 ∧ decide (Shows (tl z) ns n) = b
theorem stab_row : Stab RowP := fun _ _ _ s ⟨T, z, l, ns, n, b, e, h, g, r⟩ => ⟨T, z, l, ns, n, b, e, s _ _ h, s _ _ g, r⟩
def RowOk (t : List Nat) (ns : List Int) (n : Int) (b : Bool) : Prop := t.length ≤ 2000 ∧ ns.length ≤ 1000 ∧ 1 ≤ n ∧ n ≤ 1000 ∧ decide (Shows t ns n) = b
instance (t : List Nat) (ns : List Int) (n : Int) (b : Bool) : Decidable (RowOk t ns n b) := inferInstanceAs (Decidable (_ ∧ _))
section
variable {H0 : Hp} {σ : L2.St} {a b c d : TE} {ta : TA}
theorem al_case {t : List Nat} {w k : Int} (h1 : Al H0 σ a (IsT t)) (h2 : Al H0 σ b (Is (.int w))) (h3 : Al H0 σ c (Is (.int k))) (g : GoodC t w k) : Al H0 σ (tTup (tCons a (tCons b (tCons c tNil)))) CaseP :=
  fun H Q s q => h1 H _ s fun G1 v1 s1 e1 => h2 G1 _ (s.trans s1) fun G2 v2 s2 e2 => h3 G2 _ ((s.trans s1).trans s2) fun G3 v3 s3 e3 => by
    obtain ⟨z, rfl, rfl⟩ := e1
    subst e2 e3
    exact ⟨(show 3 ≤ sizeLine by decide), fun p np => q _ _ (sm_new ((s1.trans s2).trans s3) np) ⟨p, z, w, k, rfl, upd_same, g⟩⟩
theorem al_row {t : List Nat} {ns : List Int} {n : Int} {e : Bool} (h1 : Al H0 σ a (IsT t)) (h2 : AlL H0 σ ta (IntsV ns)) (h3 : Al H0 σ b (Is (.int n))) (h4 : Al H0 σ c (Is (.bl e))) (g : RowOk t ns n e) : Al H0 σ (tTup (tCons a (tCons (tLst ta) (tCons b (tCons c tNil))))) RowP :=
  fun H Q s q => h1 H _ s fun G1 v1 s1 e1 => h2 G1 _ (s.trans s1) fun G2 v2 s2 e2 => by
    obtain ⟨g1, g2, g3, g4, g5⟩ := g
    rw [show v2 = ns.map V.int from e2]
    refine ⟨by rw [List.length_map]; exact Nat.le_trans g2 (by decide), fun l nl => ?_⟩
    have s3 := sm_new (o := .lst (ns.map V.int)) s2 nl
    refine h3 _ _ ((s.trans s1).trans s3) fun G4 v4 s4 e4 => h4 G4 _ (((s.trans s1).trans s3).trans s4) fun G5 v5 s5 e5 => ?_
    obtain ⟨z, rfl, rfl⟩ := e1
    subst e4 e5
    have s25 := s4.trans s5
    exact ⟨(show 4 ≤ sizeLine by decide), fun p np => q _ _ (sm_new ((s1.trans s3).trans s25) np) ⟨p, z, l, ns, n, e, rfl, upd_same, sm_upd np _ _ (s25 _ _ upd_same), by rw [lenT]; exact g1, g3, g4, g5⟩⟩
end
end Fo
namespace Fo
open PySem L2 FO
section
variable {P : Program} {w : World} {K : PySem.W.Frag} {mg : Str → Option Value} {base : Heap} {CO CT CN CM : Addr}
theorem Ka.mono {CX : CXT} {j k : Nat} {f : Addr} {sp : Sp} (A : Ka P w K mg base CX j f sp) (h : j ≤ k) : Ka P w K mg base CX k f sp := by
  obtain ⟨fd, ps, F, kp, hb⟩ := A.ex
  exact ⟨fd, ps, F.mono h, kp, hb⟩
/-- what a def is asked is refused by the class C -/
def Refuses (sp : Sp) (v : V) (H : Hp) (C : Addr) : Prop := ∀ (Q : VK) (E : XK), (∀ H', Same H H' → E (.ref C) none H') → sp [v] H Q E
/-! ### _law_word -/
def WordOf (CN CM CT C : Addr) (x : Str) : Prop := (C = CN ∧ x = "number") ∨ (C = CM ∧ x = "ones") ∨ (C = CT ∧ x = "text")
def spWord (S : Addr → Sp → Prop) (CN CM CT : Addr) : Sp := fun vs H Q _ => ∃ (g : Addr) (sp : Sp) (v : V) (C : Addr) (x : Str), vs = [.ref g, v] ∧ S g sp ∧ WordOf CN CM CT C x ∧ Refuses sp v H C ∧ ∀ H', Same H H' → Q (.str x) H'
/-- isinstance(error, c) -/
def rKind (K : PySem.W.Frag) (a : Addr) (cls : Value) (d : Option Addr) : List V → Hp → VK → Prop := fun xs H Q => ∃ D, cls = .ref D ∧ d = none ∧ ExcC K D ∧ rIsE K D a xs H Q
/-- kinds = [isinstance ..]; return (..)[kinds.index(True)] if True in kinds else .. -/
def t_word (K : PySem.W.Frag) (CN CM CT : Addr) : Addr → Value → Option Addr → TS := fun a cls d =>
  tSeq (tAsg (tLst (tCons (tCB (rKind K a cls d) (tCons (tVar 2) (tCons (tC (.ref CN)) tNil))) (tCons (tCB (rKind K a cls d) (tCons (tVar 2) (tCons (tC (.ref CM)) tNil))) (tCons (tCB (rKind K a cls d) (tCons (tVar 2) (tCons (tC (.ref CT)) tNil))) tNil)))) (gName 3))
    (tRet (tIf (tTest (tOp (rIn K false) (tC (.bl true)) (tVar 3))) (tOp (rIxT K) (tTup (tCons (tC (.str "number")) (tCons (tC (.str "ones")) (tCons (tC (.str "text")) tNil)))) (tBM K "list" (rIndex K) (tVar 3) (tCons (tC (.bl true)) tNil))) (tC (.str "other"))))
end
end Fo
namespace Fo
open PySem L2 FO
section
variable {P : Program} {w : World} {K : PySem.W.Frag} {mg : Str → Option Value} {base : Heap}
/-- a call without arguments -/
theorem pk0 {X : Cx} {k j : Nat} {x : Str} {sp : Sp} {p pos : Pos} (c : Kp X.prog X.w X.K X.mg X.base CX0 k x sp) (hr : Room j X.A) (hk : k ≤ j) (hg : Gl X x) (hdb : (x == ("__debug__" : Str)) = false := by decide) : PE X (.Call (.Name x p) [] [] pos) (tCall sp [] E0 tNil) := by
  obtain ⟨f, fd, ps, F, hm, kp, b⟩ := c.ex
  exact pe_call0 F (hr.mono hk) hg hm kp b .nil pass0 hdb
/-! ### _law_power -/
def spPower : Sp := fun vs H Q _ => ∃ b n : Nat, vs = [.int (b : Nat), .int (n : Nat)] ∧ b ≤ 1000 ∧ n ≤ 10000 ∧ Q (.int ((b ^ n : Nat) : Int)) H
end
end Fo
namespace Fo
open PySem L2 FO
/-! ### _law_texts_right -/
theorem tl1 : tl ("(" : Str) = [40] ∧ tl (")" : Str) = [41] ∧ tl ("1" : Str) = [49] ∧ tl ("+1)" : Str) = [43, 49, 41] ∧ tl ("(1+" : Str) = [40, 49, 43] ∧ tl ("(1*" : Str) = [40, 49, 42] ∧ tl ("*" : Str) = [42] := by decide +kernel
theorem goodL {n : Nat} (h : n ≤ 499) {w : Int} (hw : w = (n : Int) + 1) : GoodC (rep n (tl ("(" : Str)) ++ tl ("1" : Str) ++ rep n (tl ("+1)" : Str))) w w := by
  subst hw
  have e := wr_good (wr_left n) (by omega)
  rw [tl1.1, tl1.2.2.1, tl1.2.2.2.1]
  simpa using e
theorem goodR {n : Nat} (h : n ≤ 499) {w : Int} (hw : w = (n : Int) + 1) : GoodC (rep n (tl ("(1+" : Str)) ++ tl ("1" : Str) ++ rep n (tl (")" : Str))) w w := by
  subst hw
  have e := wr_good (wr_right n) (by omega)
  rw [tl1.2.1, tl1.2.2.1, tl1.2.2.2.2.1]
  simpa using e
theorem goodT {n : Nat} (h : n ≤ 499) {w : Int} (hw : w = (n : Int) + 1) : GoodC (rep n (tl ("(1*" : Str)) ++ tl ("1" : Str) ++ rep n (tl (")" : Str))) 1 w := by
  subst hw
  have e := wr_good (wr_times n) (by omega)
  rw [tl1.2.1, tl1.2.2.1, tl1.2.2.2.2.2.1]
  simpa using e
theorem len_rep {n m : Nat} (t u x : List Nat) (h1 : t.length ≤ 3) (h2 : u.length ≤ 3) (h3 : x.length ≤ 3) (hn : n ≤ 5000) (hm : m ≤ 5000) : (rep n t).length + x.length ≤ sizeLine ∧ (rep n t ++ x).length + (rep m u).length ≤ sizeLine ∧ t.length * n ≤ sizeLine := by
  have e1 : n * t.length ≤ n * 3 := Nat.mul_le_mul_left _ h1
  have e2 : m * u.length ≤ m * 3 := Nat.mul_le_mul_left _ h2
  have e3 : (16777216 : Nat) = sizeLine := PySem.sizeLine_eq.symm
  rw [List.length_append, rep_len, rep_len, Nat.mul_comm t.length, ← e3]
  omega
section
variable {H0 : Hp} {σ : L2.St} {a b c d : TE} {ta : TA} {Φ : Hp → V → Prop}
/-- t * n + x + u * m -/
theorem al_deep {t u x : List Nat} {n m : Nat} {a1 a2 b1 b2 c1 : TE} (h1 : Al H0 σ a1 (IsT t)) (h2 : Al H0 σ a2 (Is (.int (n : Nat)))) (h3 : Al H0 σ c1 (IsT x)) (h4 : Al H0 σ b1 (IsT u)) (h5 : Al H0 σ b2 (Is (.int (m : Nat)))) (l1 : t.length ≤ 3) (l2 : u.length ≤ 3) (l3 : x.length ≤ 3) (hn : n ≤ 5000) (hm : m ≤ 5000) :
    Al H0 σ (tOp (fun x y H Q => ∃ i j, x = .str i ∧ y = .str j ∧ i.length + j.length ≤ sizeLine ∧ Q (.str (i ++ j)) H) (tOp (fun x y H Q => ∃ i j, x = .str i ∧ y = .str j ∧ i.length + j.length ≤ sizeLine ∧ Q (.str (i ++ j)) H) (tOp rMulS a1 a2) c1) (tOp rMulS b1 b2)) (IsT (rep n t ++ x ++ rep m u)) :=
  al_cat (al_cat (al_rep h1 h2 (by omega) (len_rep t u x l1 l2 l3 hn hm).2.2) h3 (len_rep t u x l1 l2 l3 hn hm).1) (al_rep h4 h5 (by omega) (len_rep u t x l2 l1 l3 hm hn).2.2) (len_rep t u x l1 l2 l3 hn hm).2.1
/-- a new list of n values with Φ -/
def LsF (H0 : Hp) (n : Nat) (Φ : Hp → V → Prop) : Hp → V → Prop := fun H v => ∃ p xs, v = .ref p ∧ H0 p = none ∧ H p = some (.lst xs) ∧ xs.length = n ∧ ∀ x ∈ xs, Φ H x
theorem al_catF {n m : Nat} (st : Stab Φ) (h : Al H0 σ a (LsA n Φ)) (g : Al H0 σ b (LsA m Φ)) (hn : n + m ≤ sizeLine) : Al H0 σ (tOp rCat a b) (LsF H0 (n + m) Φ) := fun H Q s k => h H _ s fun G v sG hv => g G _ (s.trans sG) fun G2 u sG2 hu => by
  obtain ⟨p, xs, rfl, hp, hx, ax⟩ := stab_ls st _ _ _ sG2 hv
  obtain ⟨q, ys, rfl, hq, hy, ay⟩ := hu
  refine ⟨p, q, xs, ys, rfl, rfl, hp, hq, by rw [hx, hy]; exact hn, fun r nr => k _ _ (sm_new (sG.trans sG2) nr) ⟨r, _, rfl, ((s.trans sG).trans sG2).free nr, upd_same, by rw [List.length_append, hx, hy], fun x hx => ?_⟩⟩
  rcases List.mem_append.mp hx with z | z
  · exact st _ _ _ (sm_upd nr) (ax x z)
  · exact st _ _ _ (sm_upd nr) (ay x z)
end
theorem case_put {H : Hp} {r : Addr} {xs ys : List V} {v : V} (hr : H r = some (.lst xs)) (h : CaseP H v) : CaseP (upd H r (.lst ys)) v := by
  obtain ⟨T, z, w, k, e, hT, g⟩ := h
  exact ⟨T, z, w, k, e, by rw [upd_ne (ne_of hT hr (by intro z; cases z))]; exact hT, g⟩
/-- no text that writes a number -/
def BadP : Hp → V → Prop := fun H v => (∃ z : Str, v = .str z ∧ z.length ≤ sizeLine ∧ worthL (tl z) = 0) ∨ v = .non ∨ (∃ i, v = .int i) ∨ (∃ b, v = .bl b) ∨ (∃ p xs, v = .ref p ∧ H p = some (.lst xs)) ∨ (∃ p kvs, v = .ref p ∧ H p = some (.dK kvs))
theorem stab_bad : Stab BadP := fun _ _ _ s h => by
  rcases h with h | h | h | h | ⟨p, xs, e, h⟩ | ⟨p, xs, e, h⟩
  · exact .inl h
  · exact .inr (.inl h)
  · exact .inr (.inr (.inl h))
  · exact .inr (.inr (.inr (.inl h)))
  · exact .inr (.inr (.inr (.inr (.inl ⟨p, xs, e, s _ _ h⟩))))
  · exact .inr (.inr (.inr (.inr (.inr ⟨p, xs, e, s _ _ h⟩))))
theorem bad_t {H0 : Hp} {σ : L2.St} {a : TE} {t : List Nat} (h : Al H0 σ a (IsT t)) (g : t.length ≤ 100000 ∧ worthL t = 0) : Al H0 σ a BadP := al_weak h fun H v ⟨z, e, et⟩ => .inl ⟨z, e, by rw [lenT, et]; exact Nat.le_trans g.1 (by decide), by rw [et]; exact g.2⟩
theorem BadP.no {K : PySem.W.Frag} {H : Hp} {v : V} {G : Str → Prop} {B : Prop} (h : BadP H v) (b : B) : AskT K v H G B := by
  rcases h with ⟨z, e, hz, h0⟩ | rfl | ⟨i, rfl⟩ | ⟨i, rfl⟩ | ⟨p, xs, rfl, h⟩ | ⟨p, xs, rfl, h⟩
  · exact .inl ⟨z, e, hz, fun _ => b, fun n => absurd h0 n⟩
  · exact .inr ⟨⟨_, .base .non, kit_ty (by decide +kernel)⟩, b⟩
  · exact .inr ⟨⟨_, .base (.int i), kit_ty (by decide +kernel)⟩, b⟩
  · exact .inr ⟨⟨_, .base (.bl i), kit_ty (by decide +kernel)⟩, b⟩
  · exact .inr ⟨⟨_, .base (.lst h), kit_ty (by decide +kernel)⟩, b⟩
  · exact .inr ⟨⟨_, .base (.dK h), kit_ty (by decide +kernel)⟩, b⟩
end Fo
namespace Fo
open PySem L2 FO
/-! ### more readings by what they give -/
mutual
theorem dp_same {K : PySem.W.Frag} {H H' : Hp} (s : Same H H') : ∀ (d : PyData) (v : V), Dp K H v d → Dp K H' v d
  | .none, _, h => by cases h; exact .non
  | .bool b, _, h => by cases h; exact .bl b
  | .int i, _, h => by cases h; exact .int i
  | .str x, _, h => by cases h; exact .str x
  | .list ds, _, h => by
    cases h with
    | lst hs ha => exact .lst (s.seq hs) (dp_sameA s ds _ ha)
  | .tuple ds, _, h => by
    cases h with
    | tup hs ha => exact .tup (sm_tup s hs) (dp_sameA s ds _ ha)
  | .dict _, _, h => by cases h
theorem dp_sameA {K : PySem.W.Frag} {H H' : Hp} (s : Same H H') : ∀ (ds : List PyData) (vs : List V), DpAll K H vs ds → DpAll K H' vs ds
  | [], _, h => by cases h; exact .nil
  | d :: ds, _, h => by
    cases h with
    | cons h1 h2 => exact .cons (dp_same s d _ h1) (dp_sameA s ds _ h2)
end
def IsD (K : PySem.W.Frag) (d : PyData) : Hp → V → Prop := fun H v => Dp K H v d
theorem stab_d (K : PySem.W.Frag) (d : PyData) : Stab (IsD K d) := fun _ _ _ s h => dp_same s _ _ h
def DsV (K : PySem.W.Frag) (ds : List PyData) : Hp → List V → Prop := fun H vs => DpAll K H vs ds
/-- a list of just these values -/
def IsL (xs : List V) : Hp → V → Prop := fun H v => ∃ p, v = .ref p ∧ H p = some (.lst xs)
theorem stab_l (xs : List V) : Stab (IsL xs) := fun _ _ _ s ⟨p, e, h⟩ => ⟨p, e, s _ _ h⟩
/-- a list, a tuple of n values, the i-th with Φ i -/
def LsI (n : Nat) (Φ : Nat → Hp → V → Prop) : Hp → V → Prop := fun H v => ∃ p xs, v = .ref p ∧ H p = some (.lst xs) ∧ xs.length = n ∧ ∀ i x, xs[i]? = some x → Φ i H x
def TpI (n : Nat) (Φ : Nat → Hp → V → Prop) : Hp → V → Prop := fun H v => ∃ p xs, v = .ref p ∧ H p = some (.tup xs) ∧ xs.length = n ∧ ∀ i x, xs[i]? = some x → Φ i H x
def AlT (H0 : Hp) (σ : L2.St) (tt : TT) (b : Bool) : Prop := ∀ (H : Hp) (Q : Bool → Hp → Prop), Same H0 H → (∀ G, Same H G → Q b G) → tt σ H Q
/-- a walk of n turns, the i-th gives what has Φ i -/
def AlI (H0 : Hp) (σ : L2.St) (wi : TI) (n : Nat) (Φ : Nat → Hp → V → Prop) : Prop := ∀ (H : Hp) (R : It → Hp → Prop), Same H0 H → (∀ J G, Same H G → Walk J n (Same G) (fun i H1 x H2 => H2 = H1 ∧ Φ i H1 x) → R J G) → wi σ H R
section
variable {K : PySem.W.Frag} {H0 : Hp} {σ : L2.St} {a b c d : TE} {ta : TA} {Φ Ψ : Hp → V → Prop}
theorem ls_i {n : Nat} (h : Al H0 σ a (LsA n Φ)) : Al H0 σ a (LsI n fun _ => Φ) := al_weak h fun H v ⟨p, xs, e, hp, hn, hx⟩ => ⟨p, xs, e, hp, hn, fun i x hi => hx x (List.mem_of_getElem? hi)⟩
theorem ls_is {n : Nat} {f : Nat → V} (h : Al H0 σ a (LsI n fun i => Is (f i))) : Al H0 σ a (IsL ((List.range n).map f)) := al_weak h fun H v ⟨p, xs, e, hp, hn, hx⟩ => ⟨p, e, by
  have : xs = (List.range n).map f := List.ext_getElem? fun i => by
    by_cases hi : i < n
    · have e1 : xs[i]? = some xs[i] := List.getElem?_eq_getElem (by omega)
      rw [e1, hx i _ e1]
      simp [hi]
    · rw [List.getElem?_eq_none (by omega), List.getElem?_eq_none (by simp; omega)]
  rw [← this]
  exact hp⟩
theorem ls_rep {n : Nat} {x : V} (h : Al H0 σ a (LsI n fun _ => Is x)) : Al H0 σ a (IsL (List.replicate n x)) := al_weak (ls_is h) fun H v ⟨p, e, hp⟩ => ⟨p, e, by
  have : (List.range n).map (fun _ => x) = List.replicate n x := List.ext_getElem? fun i => by
    by_cases hi : i < n
    · simp [hi]
    · simp [hi]
  rw [← this]
  exact hp⟩
/-! data -/
def scD : V → PyData
  | .int i => .int i
  | .bl b => .bool b
  | .str z => .str z
  | _ => .none
def scB : V → Bool
  | .int _ => true
  | .bl _ => true
  | .str _ => true
  | .non => true
  | _ => false
theorem dp_sc {H : Hp} {v : V} (h : scB v = true) : Dp K H v (scD v) := by
  cases v <;> first | exact .int _ | exact .bl _ | exact .str _ | exact .non | exact Bool.noConfusion h
theorem dp_scs {H : Hp} : ∀ {vs : List V}, vs.all scB = true → DpAll K H vs (vs.map scD)
  | [], _ => .nil
  | v :: vs, h => by
    rw [List.all_cons, Bool.and_eq_true] at h
    exact .cons (dp_sc h.1) (dp_scs h.2)
theorem al_dl {xs : List V} (h : Al H0 σ a (IsL xs)) (hs : xs.all scB = true) : Al H0 σ a (IsD K (.list (xs.map scD))) := al_weak h fun H v ⟨p, e, hp⟩ => by
  subst e
  exact .lst (SqL.of hp) (dp_scs hs)
theorem al_dd {v : V} (h : Al H0 σ a (Is v)) (hs : scB v = true) : Al H0 σ a (IsD K (scD v)) := al_weak h fun H u e => by
  rw [show u = v from e]
  exact dp_sc hs
theorem al_dnil : AlL H0 σ tNil (DsV K []) := fun H Q s k => k H [] (Same.refl H) .nil
theorem al_dcons {d : PyData} {ds : List PyData} (h : Al H0 σ a (IsD K d)) (g : AlL H0 σ ta (DsV K ds)) : AlL H0 σ (tCons a ta) (DsV K (d :: ds)) := fun H Q s k => h H _ s fun G v sG hv => g G _ (s.trans sG) fun G2 us sG2 hu =>
  k G2 (v :: us) (sG.trans sG2) (.cons (dp_same sG2 _ _ hv) hu)
theorem dp_len {H : Hp} : ∀ {vs : List V} {ds : List PyData}, DpAll K H vs ds → vs.length = ds.length
  | [], _, h => by cases h; rfl
  | v :: vs, _, h => by
    cases h with
    | cons h1 h2 => rw [List.length_cons, List.length_cons, dp_len h2]
theorem al_dlst {ds : List PyData} (h : AlL H0 σ ta (DsV K ds)) (hn : ds.length ≤ sizeLine) : Al H0 σ (tLst ta) (IsD K (.list ds)) := fun H Q s k => h H _ s fun G vs sG hv => ⟨by rw [dp_len hv]; exact hn, fun p np => k _ _ (sm_new sG np) (.lst (SqL.of upd_same) (dp_sameA (sm_upd np) _ _ hv))⟩
theorem al_dtup {ds : List PyData} (h : AlL H0 σ ta (DsV K ds)) (hn : ds.length ≤ sizeLine) : Al H0 σ (tTup ta) (IsD K (.tuple ds)) := fun H Q s k => h H _ s fun G vs sG hv => ⟨by rw [dp_len hv]; exact hn, fun p np => k _ _ (sm_new sG np) (.tup (SqT.of upd_same) (dp_sameA (sm_upd np) _ _ hv))⟩
theorem al_eqD {d e : PyData} (h : Al H0 σ a (IsD K d)) (g : Al H0 σ b (IsD K e)) (h1 : SeqAt.shaped d = true) (h2 : SeqAt.shaped e = true) {r : Bool} (hr : PyData.eqv d e = r) : Al H0 σ (tOp (rEqD K) a b) (Is (.bl r)) := fun H Q s k => h H _ s fun G v sG hv => g G _ (s.trans sG) fun G2 u sG2 hu =>
  ⟨d, e, dp_same sG2 _ _ hv, hu, h1, h2, by rw [hr]; exact k G2 _ (sG.trans sG2) rfl⟩
theorem al_neD {d e : PyData} (h : Al H0 σ a (IsD K d)) (g : Al H0 σ b (IsD K e)) (h1 : SeqAt.shaped d = true) (h2 : SeqAt.shaped e = true) {r : Bool} (hr : PyData.eqv d e = !r) : Al H0 σ (tOp (rNeD K) a b) (Is (.bl r)) := fun H Q s k => h H _ s fun G v sG hv => g G _ (s.trans sG) fun G2 u sG2 hu =>
  ⟨d, e, dp_same sG2 _ _ hv, hu, h1, h2, by rw [hr, Bool.not_not]; exact k G2 _ (sG.trans sG2) rfl⟩
/-! exact lists -/
def VsV (xs : List V) : Hp → List V → Prop := fun _ vs => vs = xs
theorem al_xnil : AlL H0 σ tNil (VsV []) := fun H Q s k => k H [] (Same.refl H) rfl
theorem al_xcons {v : V} {xs : List V} (h : Al H0 σ a (Is v)) (g : AlL H0 σ ta (VsV xs)) : AlL H0 σ (tCons a ta) (VsV (v :: xs)) := fun H Q s k => h H _ s fun G u sG hv => g G _ (s.trans sG) fun G2 us sG2 hu =>
  k G2 (u :: us) (sG.trans sG2) (by rw [show u = v from hv, show us = xs from hu]; rfl)
theorem al_xlst {xs : List V} (h : AlL H0 σ ta (VsV xs)) (hn : xs.length ≤ sizeLine) : Al H0 σ (tLst ta) (IsL xs) := fun H Q s k => h H _ s fun G vs sG hv => by
  rw [show vs = xs from hv]
  exact ⟨hn, fun p np => k _ _ (sm_new sG np) ⟨p, rfl, upd_same⟩⟩
theorem al_xtup {xs : List V} {n : Nat} (h : AlL H0 σ ta (VsV xs)) (hn : xs.length ≤ sizeLine) {Φ : Nat → Hp → V → Prop} (hl : xs.length = n) (hx : ∀ i x H, xs[i]? = some x → Φ i H x) : Al H0 σ (tTup ta) (TpI n Φ) := fun H Q s k => h H _ s fun G vs sG hv => by
  rw [show vs = xs from hv]
  exact ⟨hn, fun p np => k _ _ (sm_new sG np) ⟨p, xs, rfl, upd_same, hl, fun i x hi => hx i x _ hi⟩⟩
theorem al_repL {x : V} {n : Nat} (h : Al H0 σ a (IsL [x])) (g : Al H0 σ b (Is (.int (n : Nat)))) (hn : n ≤ 10000) : Al H0 σ (tOp rRep a b) (IsL (List.replicate n x)) := fun H Q s k => h H _ s fun G v sG hv => g G _ (s.trans sG) fun G2 u sG2 hu => by
  obtain ⟨p, rfl, hp⟩ := hv
  subst hu
  have big : (16777216 : Nat) = sizeLine := PySem.sizeLine_eq.symm
  refine ⟨p, _, _, rfl, rfl, sG2 _ _ hp, by omega, by omega, by rw [Int.toNat_natCast, List.length_singleton, ← big]; omega, fun q nq => ?_⟩
  refine k _ _ (sm_new (sG.trans sG2) nq) ⟨q, rfl, ?_⟩
  rw [upd_same, Int.toNat_natCast]
  simp
theorem al_ixL {xs : List V} {i : Int} {v : V} (h : Al H0 σ a (IsL xs)) (g : Al H0 σ b (Is (.int i))) (hi : atI xs i = some v) : Al H0 σ (tOp (rIxL K) a b) (Is v) := fun H Q s k => h H _ s fun G u sG hv => g G _ (s.trans sG) fun G2 w sG2 hu => by
  obtain ⟨p, rfl, hp⟩ := hv
  subst hu
  exact ⟨p, xs, i, v, rfl, rfl, SqL.of (sG2 _ _ hp), hi, k G2 v (sG.trans sG2) rfl⟩
/-! numbers and tests -/
theorem al_i0 {g : Int → Int → V} {i j : Int} (h : Al H0 σ a (Is (.int i))) (k : Al H0 σ b (Is (.int j))) : Al H0 σ (tOp (rI0 g) a b) (Is (g i j)) := fun H Q s q => h H _ s fun G v sG hv => k G _ (s.trans sG) fun G2 u sG2 hu => by
  subst hv hu
  exact ⟨i, j, rfl, rfl, q G2 _ (sG.trans sG2) rfl⟩
theorem al_iC {C : Int → Int → Prop} {g : Int → Int → V} {i j : Int} (h : Al H0 σ a (Is (.int i))) (k : Al H0 σ b (Is (.int j))) (hc : C i j) : Al H0 σ (tOp (rI C g) a b) (Is (g i j)) := fun H Q s q => h H _ s fun G v sG hv => k G _ (s.trans sG) fun G2 u sG2 hu => by
  subst hv hu
  exact ⟨i, j, rfl, rfl, hc, q G2 _ (sG.trans sG2) rfl⟩
theorem al_is {x y : V} (h : Al H0 σ a (Is x)) (e : x = y) : Al H0 σ a (Is y) := e ▸ h
theorem al_eq {x y : V} (h : Al H0 σ a (Is x)) (k : Al H0 σ b (Is y)) (hs : scal x y = true) {r : Bool} (hr : decide (x = y) = r) : Al H0 σ (tOp rEq a b) (Is (.bl r)) := fun H Q s q => h H _ s fun G v sG hv => k G _ (s.trans sG) fun G2 u sG2 hu => by
  subst hv hu
  exact ⟨hs, by rw [hr]; exact q G2 _ (sG.trans sG2) rfl⟩
theorem al_ne {x y : V} (h : Al H0 σ a (Is x)) (k : Al H0 σ b (Is y)) (hs : scal x y = true) {r : Bool} (hr : decide (x = y) = !r) : Al H0 σ (tOp rNe a b) (Is (.bl r)) := fun H Q s q => h H _ s fun G v sG hv => k G _ (s.trans sG) fun G2 u sG2 hu => by
  subst hv hu
  exact ⟨hs, by rw [hr, Bool.not_not]; exact q G2 _ (sG.trans sG2) rfl⟩
/-- two numbers, two texts that are the same -/
theorem al_eqI {i j : Int} (h : Al H0 σ a (Is (.int i))) (k : Al H0 σ b (Is (.int j))) (e : i = j) : Al H0 σ (tOp rEq a b) (Is (.bl true)) := al_eq h k rfl (decide_eq_true (by rw [e]))
theorem al_neI {i j : Int} (h : Al H0 σ a (Is (.int i))) (k : Al H0 σ b (Is (.int j))) (e : i = j) : Al H0 σ (tOp rNe a b) (Is (.bl false)) := al_ne h k rfl (decide_eq_true (by rw [e]))
theorem al_neB {i j : Bool} (h : Al H0 σ a (Is (.bl i))) (k : Al H0 σ b (Is (.bl j))) (e : i = j) : Al H0 σ (tOp rNe a b) (Is (.bl false)) := al_ne h k rfl (decide_eq_true (by rw [e]))
theorem al_orF {r : Bool} (h : Al H0 σ a (Is (.bl false))) (k : Al H0 σ b (Is (.bl r))) : Al H0 σ (tOrV a b) (Is (.bl r)) := fun H Q s q => h H _ s fun G v sG hv => ⟨false, hv, iteF (k G _ (s.trans sG) fun G2 u sG2 hu => q G2 u (sG.trans sG2) hu)⟩
theorem al_andT {r : Bool} (h : Al H0 σ a (Is (.bl true))) (k : Al H0 σ b (Is (.bl r))) : Al H0 σ (tAndV a b) (Is (.bl r)) := fun H Q s q => h H _ s fun G v sG hv => ⟨true, hv, iteT (k G _ (s.trans sG) fun G2 u sG2 hu => q G2 u (sG.trans sG2) hu)⟩
theorem al_not {r : Bool} (h : Al H0 σ a (Is (.bl r))) : Al H0 σ (tNotV a) (Is (.bl (!r))) := fun H Q s q => h H _ s fun G v sG hv => ⟨r, hv, q G _ sG rfl⟩
theorem alt_t {r : Bool} (h : Al H0 σ a (Is (.bl r))) : AlT H0 σ (tTest a) r := fun H Q s q => h H _ s fun G v sG hv => ⟨r, hv, q G sG⟩
theorem alt_b {r : Bool} (h : Al H0 σ a (Is (.bl r))) : AlT H0 σ (tB a) r := fun H Q s q => h H _ s fun G v sG hv => ⟨r, hv, q G sG⟩
theorem alt_not {t : TT} {r : Bool} (h : AlT H0 σ t r) : AlT H0 σ (tNot t) (!r) := fun H Q s q => h H _ s fun G sG => q G sG
theorem alt_orF {t u : TT} {r : Bool} (h : AlT H0 σ t false) (k : AlT H0 σ u r) : AlT H0 σ (tOr t u) r := fun H Q s q => h H _ s fun G sG => iteF (k G _ (s.trans sG) fun G2 sG2 => q G2 (sG.trans sG2))
theorem alt_orT {t u : TT} (h : AlT H0 σ t true) : AlT H0 σ (tOr t u) true := fun H Q s q => h H _ s fun G sG => iteT (q G sG)
theorem alt_andT {t u : TT} {r : Bool} (h : AlT H0 σ t true) (k : AlT H0 σ u r) : AlT H0 σ (tAnd t u) r := fun H Q s q => h H _ s fun G sG => iteT (k G _ (s.trans sG) fun G2 sG2 => q G2 (sG.trans sG2))
theorem alt_andF {t u : TT} (h : AlT H0 σ t false) : AlT H0 σ (tAnd t u) false := fun H Q s q => h H _ s fun G sG => iteF (q G sG)
theorem al_if {t : TT} {r : Bool} (h : AlT H0 σ t r) (k : r = true → Al H0 σ a Φ) (k' : r = false → Al H0 σ b Φ) : Al H0 σ (tIf t a b) Φ := fun H Q s q => h H _ s fun G sG => by
  cases r with
  | true => exact iteT (k rfl G _ (s.trans sG) fun G2 u sG2 hu => q G2 u (sG.trans sG2) hu)
  | false => exact iteF (k' rfl G _ (s.trans sG) fun G2 u sG2 hu => q G2 u (sG.trans sG2) hu)
theorem al_pow {i j : Int} (h : Al H0 σ a (Is (.int i))) (k : Al H0 σ b (Is (.int j))) (hc : CPow i j) : Al H0 σ (tOp (rI CPow fun i j => .int (i ^ j.toNat)) a b) (Is (.int (i ^ j.toNat))) := al_iC h k hc
/-! calls -/
/-- the promise sp: of what has Φ it tells what has Ψ -/
def Gives (sp : Sp) (Φ Ψ : Hp → V → Prop) : Prop := ∀ (G : Hp) (v : V) (Q : VK) (E : XK), Φ G v → (∀ G' u, Same G G' → Ψ G' u → Q u G') → sp [v] G Q E
theorem al_call {sp : Sp} (g : Gives sp Φ Ψ) (h : Al H0 σ a Φ) : Al H0 σ (tCall sp [] E0 (tCons a tNil)) Ψ := fun H Q s q => h H _ s fun G v sG hv => g G v _ _ hv fun G' u s' hu => q G' u (sG.trans s') hu
def Gives2 (sp : Sp) (Φ Φ' Ψ : Hp → V → Prop) : Prop := ∀ (G : Hp) (v w : V) (Q : VK) (E : XK), Φ G v → Φ' G w → (∀ G' u, Same G G' → Ψ G' u → Q u G') → sp [v, w] G Q E
theorem al_call2 {sp : Sp} {Φ' : Hp → V → Prop} (g : Gives2 sp Φ Φ' Ψ) (st : Stab Φ) (h : Al H0 σ a Φ) (h' : Al H0 σ b Φ') : Al H0 σ (tCall sp [] E0 (tCons a (tCons b tNil))) Ψ := fun H Q s q => h H _ s fun G v sG hv => h' G _ (s.trans sG) fun G2 w sG2 hw => g G2 v w _ _ (st _ _ _ sG2 hv) hw fun G' u s' hu => q G' u ((sG.trans sG2).trans s') hu
theorem al_any {bs : List Bool} (h : Al H0 σ a (IsL (bs.map V.bl))) {r : Bool} (hr : bs.any id = r) : Al H0 σ (tCB (rAny K) (tCons a tNil)) (Is (.bl r)) := fun H Q s q => h H _ s fun G v sG ⟨p, e, hp⟩ => ⟨p, bs, by rw [e], SqL.of hp, by rw [hr]; exact q G _ sG rfl⟩
theorem al_all {bs : List Bool} (h : Al H0 σ a (IsL (bs.map V.bl))) {r : Bool} (hr : bs.all id = r) : Al H0 σ (tCB (rAll K) (tCons a tNil)) (Is (.bl r)) := fun H Q s q => h H _ s fun G v sG ⟨p, e, hp⟩ => ⟨p, bs, by rw [e], SqL.of hp, by rw [hr]; exact q G _ sG rfl⟩
theorem al_anyF {n : Nat} (h : Al H0 σ a (LsI n fun _ => Is (.bl false))) : Al H0 σ (tCB (rAny K) (tCons a tNil)) (Is (.bl false)) := al_any (bs := List.replicate n false) (by rw [List.map_replicate]; exact ls_rep h) (by simp)
theorem al_allT {n : Nat} (h : Al H0 σ a (LsI n fun _ => Is (.bl true))) : Al H0 σ (tCB (rAll K) (tCons a tNil)) (Is (.bl true)) := al_all (bs := List.replicate n true) (by rw [List.map_replicate]; exact ls_rep h) (by simp)
/-! comprehensions -/
theorem al_iL {n : Nat} {Φ : Nat → Hp → V → Prop} (st : ∀ i, Stab (Φ i)) (h : Al H0 σ a (LsI n Φ)) : AlI H0 σ (iList K a) n Φ := fun H R s k => h H _ s fun G v sG ⟨p, xs, e, hp, hn, hx⟩ => ⟨p, e, ⟨xs, SqL.of hp⟩, k _ G sG (by
  subst hn
  exact walk_list.mono (fun H' s' => SqL.of (s' _ _ hp)) fun i H1 x H2 _ s' y => ⟨y.1, st i _ _ _ s' (hx i x y.2)⟩)⟩
theorem al_iT {n : Nat} {Φ : Nat → Hp → V → Prop} (st : ∀ i, Stab (Φ i)) (h : Al H0 σ a (TpI n Φ)) : AlI H0 σ (iTup K a) n Φ := fun H R s k => h H _ s fun G v sG ⟨p, xs, e, hp, hn, hx⟩ => ⟨p, e, ⟨xs, SqT.of hp⟩, k _ G sG (by
  subst hn
  exact walk_tup.mono (fun H' s' => SqT.of (s' _ _ hp)) fun i H1 x H2 _ s' y => ⟨y.1, st i _ _ _ s' (hx i x y.2)⟩)⟩
theorem al_iR1 {j : Int} (h : Al H0 σ a (Is (.int j))) (h1 : -(2 ^ 62) ≤ j) (h2 : j < 2 ^ 62) : AlI H0 σ (iRng1 (tCons a tNil)) j.toNat (fun i => Is (.int (0 + (i : Nat)))) := fun H R s k => h H _ s fun G v sG e => ⟨j, by rw [show v = _ from e], h1, h2, k _ G sG (walk_range.mono (fun _ _ => trivial) fun i H1 x H2 _ _ y => ⟨y.1, y.2⟩)⟩
theorem al_iR2 {i j : Int} (h : Al H0 σ a (Is (.int i))) (g : Al H0 σ b (Is (.int j))) (h1 : -(2 ^ 62) ≤ i ∧ i < 2 ^ 62 ∧ -(2 ^ 62) ≤ j ∧ j < 2 ^ 62) : AlI H0 σ (iRng2 (tCons a (tCons b tNil))) (j - i).toNat (fun k => Is (.int (i + (k : Nat)))) := fun H R s k => h H _ s fun G v sG e => g G _ (s.trans sG) fun G2 u sG2 e2 => ⟨i, j, by rw [show v = _ from e, show u = _ from e2], h1, k _ G2 (sG.trans sG2) (walk_range.mono (fun _ _ => trivial) fun i H1 x H2 _ _ y => ⟨y.1, y.2⟩)⟩
theorem al_lc {wi : TI} {g : TG} {te : TE} {vs : List Nat} {n : Nat} {Φ Ψ : Nat → Hp → V → Prop} (hi : AlI H0 σ wi n Φ) (fl : ∀ i H G v, Ψ i H v → Ψ i G v)
    (ht : ∀ i G x, i < n → Same H0 G → Φ i G x → ∃ σ2, wipe σ2 vs = wipe σ vs ∧ (∀ k : L2.St → Hp → Prop, k σ2 G → g x (wipe σ vs) G k) ∧ Al G σ2 te (Ψ i)) (hn : n ≤ 100000) : Al H0 σ (tLc wi g tYes te vs) (LsI n Ψ) := fun H Q s k => hi H _ s fun J G sG w D hD => by
  have big : (16777216 : Nat) = sizeLine := PySem.sizeLine_eq.symm
  refine lc_it w (fun j H' => Same G H' ∧ ∃ ys, H' D = some (.lst ys) ∧ ys.length = j ∧ ∀ i x, ys[i]? = some x → Ψ i H' x) ⟨sm_upd hD, [], upd_same, rfl, fun i x h => by simp at h⟩ (fun _ _ _ h => h.1) ?_ ?_
  · rintro i x H1 H2 hin ⟨s1, ys, hy, hl, hx⟩ ⟨rfl, hp⟩
    obtain ⟨σ2, e1, e2, al⟩ := ht i H2 x hin ((s.trans sG).trans s1) hp
    refine e2 _ ⟨e1, ?_⟩
    unfold tYes
    refine iteT ?_
    refine al H2 _ (Same.refl _) fun H3 v s3 hv => ⟨ys, s3 _ _ hy, by omega, ?_, ys ++ [v], upd_same, by rw [List.length_append, hl]; rfl, fun m z hm => ?_⟩
    · exact fun b o e => by
        rw [upd_ne (ne_of_none e hD)]
        exact s3 _ _ (s1 b o e)
    · by_cases hml : m < ys.length
      · rw [List.getElem?_append_left hml] at hm
        exact fl m _ _ _ (hx m z hm)
      · rw [List.getElem?_append_right (by omega)] at hm
        have h0 : m - ys.length = 0 := by
          have := (List.getElem?_eq_some_iff.mp hm).1
          rw [List.length_singleton] at this
          omega
        rw [h0] at hm
        have em : m = i := by omega
        subst em
        cases hm
        exact fl m _ _ _ hv
  · rintro H1 ⟨s1, ys, hy, hl, hx⟩
    exact k H1 _ (sG.trans s1) ⟨D, ys, rfl, hy, hl, hx⟩
theorem range_filter_succ (n : Nat) (f : Nat → Bool) (g : Nat → V) : ((List.range (n + 1)).filter f).map g = ((List.range n).filter f).map g ++ (if f n then [g n] else []) := by
  rw [List.range_succ, List.filter_append, List.map_append]
  congr 1
  by_cases h : f n <;> simp [h]
/-- .. with a test -/
theorem al_lcF {wi : TI} {g : TG} {tt : TT} {te : TE} {vs : List Nat} {n : Nat} {Φ : Nat → Hp → V → Prop} {bf : Nat → Bool} {f : Nat → V} (hi : AlI H0 σ wi n Φ)
    (ht : ∀ i G x, i < n → Same H0 G → Φ i G x → ∃ σ2, wipe σ2 vs = wipe σ vs ∧ (∀ k : L2.St → Hp → Prop, k σ2 G → g x (wipe σ vs) G k) ∧ AlT G σ2 tt (bf i) ∧ (bf i = true → Al G σ2 te (Is (f i)))) (hn : n ≤ 100000) : Al H0 σ (tLc wi g tt te vs) (IsL (((List.range n).filter bf).map f)) := fun H Q s k => hi H _ s fun J G sG w D hD => by
  have big : (16777216 : Nat) = sizeLine := PySem.sizeLine_eq.symm
  refine lc_it w (fun j H' => Same G H' ∧ H' D = some (.lst (((List.range j).filter bf).map f))) ⟨sm_upd hD, upd_same⟩ (fun _ _ _ h => h.1) ?_ ?_
  · rintro i x H1 H2 hin ⟨s1, hy⟩ ⟨rfl, hp⟩
    obtain ⟨σ2, e1, e2, at_, al⟩ := ht i H2 x hin ((s.trans sG).trans s1) hp
    refine e2 _ ⟨e1, at_ H2 _ (Same.refl _) fun H3 s3 => ?_⟩
    have hy3 := s3 _ _ hy
    have s13 := s1.trans s3
    have hlen : (((List.range i).filter bf).map f).length ≤ i := by
      rw [List.length_map]
      exact Nat.le_trans (List.length_filter_le _ _) (by simp)
    cases hb : bf i with
    | true =>
      refine iteT (al hb H3 _ s3 fun H4 v s4 hv => ⟨_, s4 _ _ hy3, by omega, fun b o e => ?_, ?_⟩)
      · rw [upd_ne (ne_of_none e hD)]
        exact s4 _ _ (s13 b o e)
      · rw [upd_same, range_filter_succ, hb, show v = f i from hv]
        rfl
    | false =>
      refine iteF ⟨s13, ?_⟩
      rw [range_filter_succ, hb, hy3]
      simp
  · rintro H1 ⟨s1, hy⟩
    exact k H1 _ (sG.trans s1) ⟨D, rfl, hy⟩
end
end Fo
namespace Fo
open PySem L2 FO
/-! ### what the program's defs tell -/
/-- an answer with the text z and the list ns -/
def Lst (C : Addr) (z : Str) (ns : List Int) : Hp → V → Prop := fun H v => ∃ p q, v = .ref p ∧ LeastAt C H p (.str z) q ∧ H q = some (.lst (ns.map V.int))
theorem stab_lst (C : Addr) (z : Str) (ns : List Int) : Stab (Lst C z ns) := fun _ _ _ s ⟨p, q, e, ⟨dx, h1⟩, h2⟩ => ⟨p, q, e, ⟨dx, s _ _ h1⟩, s _ _ h2⟩
/-- a told answer -/
def Told (C : Addr) (n : Nat) : Hp → V → Prop := fun H v => ∃ z, Wr (tl z) (n : Nat) (F n) ∧ Lst C z (fl1 n) H v
theorem stab_told (C : Addr) (n : Nat) : Stab (Told C n) := fun _ _ _ s ⟨z, w, h⟩ => ⟨z, w, stab_lst C z _ _ _ _ s h⟩
section
variable {K : PySem.W.Frag} {H0 : Hp} {σ : L2.St} {a b c d : TE} {ta : TA} {Φ Ψ : Hp → V → Prop} {C CT CN CM : Addr}
theorem gv_worth {t : List Nat} (h : worthL t ≠ 0) : Gives (spWorth K CT) (IsT t) (Is (.int (worthL t))) := fun G v Q E ⟨z, e, et⟩ k => by
  subst et
  refine ⟨v, rfl, .inl ⟨z, e, ?_, fun h0 => absurd h0 h, fun _ G' s => k G' _ s rfl⟩⟩
  rw [lenT]
  by_cases hl : (tl z).length ≤ 2000
  · exact Nat.le_trans hl (by decide)
  · exact absurd (by unfold worthL; rw [if_neg hl]) h
theorem gv_ones {t : List Nat} (h : worthL t ≠ 0) : Gives (spOnes K CT) (IsT t) (Is (.int (t.count 49 : Nat))) := fun G v Q E ⟨z, e, et⟩ k => by
  subst et
  refine ⟨v, rfl, .inl ⟨z, e, ?_, fun h0 => absurd h0 h, fun _ G' s => k G' _ s rfl⟩⟩
  rw [lenT]
  by_cases hl : (tl z).length ≤ 2000
  · exact Nat.le_trans hl (by decide)
  · exact absurd (by unfold worthL; rw [if_neg hl]) h
theorem gv_wr {t : List Nat} {n : Int} {k : Nat} (h : Wr t n k) (hk : k ≤ 500) : Gives (spWorth K CT) (IsT t) (Is (.int n)) := by
  have g := gv_worth (K := K) (CT := CT) (t := t) (by rw [h.worth hk]; have := h.pos; omega)
  rw [h.worth hk] at g
  exact g
theorem gv_wr1 {t : List Nat} {n : Int} {k : Nat} (h : Wr t n k) (hk : k ≤ 500) : Gives (spOnes K CT) (IsT t) (Is (.int (k : Nat))) := by
  have g := gv_ones (K := K) (CT := CT) (t := t) (by rw [h.worth hk]; have := h.pos; omega)
  rw [h.count] at g
  exact g
theorem gv_fewest {n : Int} {m : Nat} (h : n = (m : Int)) (h1 : 1 ≤ m) (h2 : m ≤ 200) : Gives (spFewest K CN) (Is (.int n)) (Is (.int (F m : Nat))) := fun G v Q E e k => by
  subst h
  refine ⟨v, rfl, .inl ⟨_, e, fun hb => absurd ⟨by omega, by omega⟩ hb, fun _ _ G' s => k G' _ s ?_⟩⟩
  rw [Int.toNat_natCast]
  rfl
theorem gv_greatest {n : Int} {m : Nat} (h : n = (m : Int)) (h1 : 1 ≤ m) (h2 : m ≤ 3000) : Gives (spGreatest K CM) (Is (.int n)) (Is (.int (gr m : Nat))) := fun G v Q E e k => by
  subst h
  refine ⟨v, rfl, .inl ⟨_, e, fun hb => absurd ⟨by omega, by omega⟩ hb, fun _ _ G' s => k G' _ s ?_⟩⟩
  rw [Int.toNat_natCast]
  rfl
theorem gv_all {n : Int} {m : Nat} (h : n = (m : Int)) (h1 : 1 ≤ m) (h2 : m ≤ 14) : Gives (spAllWith K CM) (Is (.int n)) (IsL ((awl m).map V.int)) := fun G v Q E e k => by
  subst h
  refine ⟨v, rfl, .inl ⟨_, e, fun hb => absurd ⟨by omega, by omega⟩ hb, fun _ _ G' q s nq hq => k G' _ s ⟨q, rfl, ?_⟩⟩⟩
  rw [Int.toNat_natCast] at hq
  exact hq
theorem gv_least {n : Int} {m : Nat} (h : n = (m : Int)) (h1 : 1 ≤ m) (h2 : m ≤ 200) : Gives (spLeast K CN C) (Is (.int n)) (Told C m) := fun G v Q E e k => by
  subst h
  refine ⟨v, rfl, .inl ⟨_, e, fun hb => absurd ⟨by omega, by omega⟩ hb, fun _ _ G' p q t s np nq hp hq wr => k G' _ s ?_⟩⟩
  rw [Int.toNat_natCast] at hq wr
  exact ⟨t, wr, p, q, rfl, hp, hq⟩
theorem al_make {z : Str} {ns : List Int} (h : Al H0 σ a (Is (.str z))) (g : Al H0 σ b (IsL (ns.map V.int))) : Al H0 σ (tMake C (spInit K C) [] E0 (tCons a (tCons b tNil))) (Lst C z ns) := fun H Q s q => h H _ s fun G v sG hv => g G _ (s.trans sG) fun G2 u sG2 ⟨l, e, hl⟩ => by
  rw [show v = _ from hv, e]
  intro x dx nx ndx ne
  refine ⟨G2, x, dx, _, l, _, rfl, sm_made nx ndx, nx, upd_same, SqL.of hl, fun H3 w s3 nw hx hw => ⟨rfl, ?_⟩⟩
  exact q H3 _ ((sG.trans sG2).trans s3) ⟨x, w, rfl, hx, hw⟩
theorem al_text {z : Str} {ns : List Int} (L : LeC K C) (h : Al H0 σ a (Lst C z ns)) : Al H0 σ (tFld K a "text") (Is (.str z)) := fun H Q s k => h H _ s fun G v sG ⟨p, q, e, ⟨dx, hp⟩, hq⟩ => ⟨p, C, dx, _, _, e, hp, L.cl, L.nT, lf_text _ _, k G _ sG rfl⟩
theorem al_floor {z : Str} {ns : List Int} (L : LeC K C) (h : Al H0 σ a (Lst C z ns)) : Al H0 σ (tFld K a "floor") (IsL (ns.map V.int)) := fun H Q s k => h H _ s fun G v sG ⟨p, q, e, ⟨dx, hp⟩, hq⟩ => ⟨p, C, dx, _, _, e, hp, L.cl, L.nF, lf_floor _ _, k G _ sG ⟨q, rfl, hq⟩⟩
theorem al_shows {z : Str} {ns : List Int} {n : Int} (h : Al H0 σ a (Lst C z ns)) (g : Al H0 σ b (Is (.int n))) (hz : z.length ≤ sizeLine) (h1 : 1 ≤ n) (h2 : n ≤ 1000) {r : Bool} (hr : decide (Shows (tl z) ns n) = r) : Al H0 σ (tMeth C "shows" (spShows K C) [] E0 a (tCons b tNil)) (Is (.bl r)) := fun H Q s k => h H _ s fun G v sG ⟨p, q, e, ⟨dx, hp⟩, hq⟩ => ⟨p, dx, _, e, hp, lf_shows _ _, g G _ (s.trans sG) fun G2 u sG2 hu => by
  rw [e, show u = _ from hu]
  refine ⟨p, z, q, ns, n, rfl, ⟨dx, sG2 _ _ hp⟩, SqL.of (sG2 _ _ hq), hz, h1, h2, fun sh H' s' => ?_, fun sh H' s' => ?_⟩
  · exact k H' _ ((sG.trans sG2).trans s') (by rw [← hr, decide_eq_true sh]; rfl)
  · exact k H' _ ((sG.trans sG2).trans s') (by rw [← hr, decide_eq_false sh]; rfl)⟩
theorem wr_small {z : Str} {n : Int} {k : Nat} (h : Wr (tl z) n k) (hk : k ≤ 500) : z.length ≤ sizeLine := by
  rw [lenT]
  have := h.len
  exact Nat.le_trans (show (tl z).length ≤ 2000 by omega) (by decide)
/-! what is refused -/
theorem rf_int {sp : Sp} {K' : PySem.W.Frag} {m : Int} {n : Int} {H : Hp} {C : Addr} {gd : VK → Int → Prop} (h : ¬ (1 ≤ n ∧ n ≤ m)) (hs : ∀ Q E, AskN K' (.int n) H m (gd Q) (E (.ref C) none H) → sp [.int n] H Q E) : Refuses sp (.int n) H C := fun Q E k => hs Q E (.inl ⟨n, rfl, fun _ => k H (Same.refl H), fun h1 h2 => absurd ⟨h1, h2⟩ h⟩)
/-- no whole number from 1 to m -/
def BadN (m : Int) : Hp → V → Prop := fun H v => (∃ i, v = .int i ∧ ¬ (1 ≤ i ∧ i ≤ m)) ∨ v = .non ∨ (∃ z, v = .str z) ∨ (∃ b, v = .bl b) ∨ (∃ p xs, v = .ref p ∧ H p = some (.lst xs)) ∨ (∃ p xs, v = .ref p ∧ H p = some (.tup xs)) ∨ (∃ p kvs, v = .ref p ∧ H p = some (.dK kvs))
theorem BadN.ask {m : Int} {H : Hp} {v : V} {G : Int → Prop} {B : Prop} (h : BadN m H v) (b : B) : AskN K v H m G B := by
  rcases h with ⟨i, rfl, h⟩ | rfl | ⟨i, rfl⟩ | ⟨i, rfl⟩ | ⟨p, xs, rfl, h⟩ | ⟨p, xs, rfl, h⟩ | ⟨p, xs, rfl, h⟩
  · exact .inl ⟨i, rfl, fun _ => b, fun h1 h2 => absurd ⟨h1, h2⟩ h⟩
  · exact .inr ⟨.non, b⟩
  · exact .inr ⟨.str i, b⟩
  · exact .inr ⟨.bl i, b⟩
  · exact .inr ⟨.lst h, b⟩
  · exact .inr ⟨.tup h, b⟩
  · exact .inr ⟨.dK h, b⟩
theorem stab_badN (m : Int) : Stab (BadN m) := fun _ _ _ s h => by
  rcases h with h | h | h | h | ⟨p, xs, e, h⟩ | ⟨p, xs, e, h⟩ | ⟨p, xs, e, h⟩
  · exact .inl h
  · exact .inr (.inl h)
  · exact .inr (.inr (.inl h))
  · exact .inr (.inr (.inr (.inl h)))
  · exact .inr (.inr (.inr (.inr (.inl ⟨p, xs, e, s _ _ h⟩))))
  · exact .inr (.inr (.inr (.inr (.inr (.inl ⟨p, xs, e, s _ _ h⟩)))))
  · exact .inr (.inr (.inr (.inr (.inr (.inr ⟨p, xs, e, s _ _ h⟩)))))
theorem rf_fewest {H : Hp} {v : V} (h : BadN 200 H v) : Refuses (spFewest K CN) v H CN := fun Q E k => ⟨v, rfl, h.ask (k H (Same.refl H))⟩
theorem rf_least {H : Hp} {v : V} (h : BadN 200 H v) : Refuses (spLeast K CN C) v H CN := fun Q E k => ⟨v, rfl, h.ask (k H (Same.refl H))⟩
theorem rf_all {H : Hp} {v : V} (h : BadN 14 H v) : Refuses (spAllWith K CM) v H CM := fun Q E k => ⟨v, rfl, h.ask (k H (Same.refl H))⟩
theorem rf_greatest {H : Hp} {v : V} (h : BadN 3000 H v) : Refuses (spGreatest K CM) v H CM := fun Q E k => ⟨v, rfl, h.ask (k H (Same.refl H))⟩
theorem rf_worth {H : Hp} {v : V} (h : BadP H v) : Refuses (spWorth K CT) v H CT := fun Q E k => ⟨v, rfl, h.no k⟩
theorem rf_ones {H : Hp} {v : V} (h : BadP H v) : Refuses (spOnes K CT) v H CT := fun Q E k => ⟨v, rfl, h.no k⟩
theorem gv_word {S : Addr → Sp → Prop} {g C' : Addr} {sp : Sp} {x : Str} {Φ : Hp → V → Prop} (hS : S g sp) (hw : WordOf CN CM CT C' x) (hr : ∀ H v, Φ H v → Refuses sp v H C') : Gives2 (spWord S CN CM CT) (Is (.ref g)) Φ (Is (.str x)) := fun G v w Q E e1 e2 k => ⟨g, sp, w, C', x, by rw [show v = _ from e1], hS, hw, hr G w e2, fun H' s => k H' _ s rfl⟩
theorem al_glob {v : V} : Al H0 σ (tC v) (Is v) := al_ci v
end
end Fo
namespace Fo
open PySem L2 FO
/-! ### statements, by what their terms give -/
section
variable {H : Hp} {σ : L2.St} {te ta tb : TE} {Φ Ψ : Hp → V → Prop} {D : Ends} {u u' t : TS} {i j : Nat}
theorem al_go {Q : VK} (h : Al H σ te Φ) (k : ∀ G v, Same H G → Φ G v → Q v G) : te σ H Q := h H Q (Same.refl H) k
theorem st_set (h : Al H σ te Φ) (k : ∀ G v, Same H G → Φ G v → u D (σ.set i (some v)) G) : tSeq (tAsg te (gName i)) u D σ H := h H _ (Same.refl H) k
theorem st_setN (σ' : V → L2.St) (hσ : ∀ v, σ.set i (some v) = σ' v) (h : Al H σ te Φ) (k : ∀ G v, Same H G → Φ G v → u D (σ' v) G) : tSeq (tAsg te (gName i)) u D σ H := h H _ (Same.refl H) fun G v s hv => by
  have z := k G v s hv
  rw [← hσ v] at z
  exact z
theorem st_parN (σ' : V → V → L2.St) (hσ : ∀ v w, (σ.set i (some v)).set j (some w) = σ' v w) (stab : Stab Φ) (h : Al H σ ta Φ) (h' : Al H σ tb Ψ) (k : ∀ G v w, Same H G → Φ G v → Ψ G w → u D (σ' v w) G) : tSeq (tPar i j (tCons ta (tCons tb tNil))) u D σ H := h H _ (Same.refl H) fun G v s hv => h' G _ s fun G2 w s2 hw => ⟨v, w, rfl, by
  have z := k G2 v w (s.trans s2) (stab _ _ _ s2 hv) hw
  rw [← hσ v w] at z
  exact z⟩
theorem st_set1 (h : Al H σ te Φ) (k : ∀ G v, Same H G → Φ G v → D.nx (σ.set i (some v)) G) : tAsg te (gName i) D σ H := h H _ (Same.refl H) k
theorem st_drop (h : Al H σ te Φ) (k : ∀ G v, Same H G → Φ G v → u D σ G) : tSeq (tDrop te) u D σ H := h H _ (Same.refl H) k
theorem st_ret (h : Al H σ te Φ) (k : ∀ G v, Same H G → Φ G v → D.rt v G) : tRet te D σ H := h H _ (Same.refl H) k
theorem st_if {c : TT} {b : Bool} (h : AlT H σ c b) (k : ∀ G, Same H G → if b = true then t { D with nx := u D } σ G else u' { D with nx := u D } σ G) : tSeq (tIfS c t u') u D σ H := h H _ (Same.refl H) k
theorem st_no {c : TT} (h : AlT H σ c false) (k : ∀ G, Same H G → u D σ G) : tSeq (tIfS c t tNext) u D σ H := h H _ (Same.refl H) fun G s => iteF (k G s)
theorem st_no1 {c : TT} (h : AlT H σ c false) (k : ∀ G, Same H G → D.nx σ G) : tIfS c t tNext D σ H := h H _ (Same.refl H) fun G s => iteF (k G s)
theorem st_par (stab : Stab Φ) (h : Al H σ ta Φ) (h' : Al H σ tb Ψ) (k : ∀ G v w, Same H G → Φ G v → Ψ G w → u D ((σ.set i (some v)).set j (some w)) G) : tSeq (tPar i j (tCons ta (tCons tb tNil))) u D σ H := h H _ (Same.refl H) fun G v s hv => h' G _ s fun G2 w s2 hw => ⟨v, w, rfl, k G2 v w (s.trans s2) (stab _ _ _ s2 hv) hw⟩
/-- a name's list is appended to -/
theorem st_app {K : PySem.W.Frag} {m : Nat} {r : Addr} {xs : List V} (hv : σ[m]? = some (some (.ref r))) (hr : H r = some (.lst xs)) (hl : xs.length < sizeLine) (h : Al H σ te Φ) (k : ∀ G v, Same H G → Φ G v → G r = some (.lst xs) → u D σ (upd G r (.lst (xs ++ [v])))) : tSeq (tDrop (tBM K "list" rAppend (tVar m) (tCons te tNil))) u D σ H :=
  ⟨_, hv, .inl ⟨rfl, _, SqL.of hr⟩, h H _ (Same.refl H) fun G v s hv => ⟨r, _, _, rfl, rfl, s _ _ hr, hl, k G v s hv (s _ _ hr)⟩⟩
theorem st_app1 {K : PySem.W.Frag} {m : Nat} {r : Addr} {xs : List V} (hv : σ[m]? = some (some (.ref r))) (hr : H r = some (.lst xs)) (hl : xs.length < sizeLine) (h : Al H σ te Φ) (k : ∀ G v, Same H G → Φ G v → G r = some (.lst xs) → D.nx σ (upd G r (.lst (xs ++ [v])))) : tDrop (tBM K "list" rAppend (tVar m) (tCons te tNil)) D σ H :=
  ⟨_, hv, .inl ⟨rfl, _, SqL.of hr⟩, h H _ (Same.refl H) fun G v s hv => ⟨r, _, _, rfl, rfl, s _ _ hr, hl, k G v s hv (s _ _ hr)⟩⟩
/-- two names set by a tuple of two -/
theorem st_two {K : PySem.W.Frag} (h : Al H σ ta Φ) (h' : Al H σ tb Ψ) (st : Stab Φ) (st' : Stab Ψ) (k : ∀ G v w, Same H G → Φ G v → Ψ G w → u D ((σ.set i (some v)).set j (some w)) G) : tSeq (tAsg (tTup (tCons ta (tCons tb tNil))) (gTup K 2 (gCons (gName i) (gCons (gName j) gNil)))) u D σ H := h H _ (Same.refl H) fun G v s hv => h' G _ s fun G2 w s2 hw => ⟨(show 2 ≤ sizeLine by decide), fun T nT => ⟨T, _, rfl, SqT.of upd_same, rfl, _, _, rfl, _, _, rfl, rfl, k _ v w (sm_new (s.trans s2) nT) (st _ _ _ (s2.trans (sm_upd nT)) hv) (st' _ _ _ (sm_upd nT) hw)⟩⟩
end
end Fo
namespace Fo
open PySem L2 FO
section
variable {H : Hp} {σ : L2.St} {te : TE} {ta : TA} {Φ Ψ : Hp → V → Prop} {D : Ends} {u : TS}
theorem al_tupA {H0 : Hp} {n : Nat} (st : Stab Φ) (h : AlL H0 σ ta (AllV n Φ)) (hn : n ≤ sizeLine) : Al H0 σ (tTup ta) (TpI n fun _ => Φ) := fun H Q s k => h H _ s fun G vs sG hv => ⟨by rw [hv.1]; exact hn, fun p np => k _ _ (sm_new sG np) ⟨p, vs, rfl, upd_same, hv.1, fun i x hx => st _ _ _ (sm_upd np) (hv.2 x (List.mem_of_getElem? hx))⟩⟩
/-- a loop that changes nothing that stood -/
theorem st_for {wi : TI} {g : TG} {tb : TS} {n : Nat} {Φ : Nat → Hp → V → Prop} (hi : AlI H σ wi n Φ) (Pv : Nat → L2.St → Prop) (h0 : Pv 0 σ)
    (hs : ∀ G0, Same H G0 → ∀ i x σ' G, i < n → Same G0 G → Pv i σ' → Φ i G x → g x σ' G fun σ2 H2 => tb { nx := fun σ3 G3 => Same G0 G3 ∧ Pv (i + 1) σ3, ct := fun σ3 G3 => Same G0 G3 ∧ Pv (i + 1) σ3, bk := u D, rt := D.rt } σ2 H2)
    (hd : ∀ σ' G, Same H G → Pv n σ' → u D σ' G) : tSeq (tFor wi g tb) u D σ H := hi H _ (Same.refl H) fun J G sG w =>
  for_it w (fun i σ' H' => Same G H' ∧ Pv i σ') ⟨Same.refl G, h0⟩ (fun _ _ _ _ h => h.1) (fun i x σ' H1 H2 hi' hp hy => by
    obtain ⟨rfl, hy⟩ := hy
    exact hs G sG i x σ' H2 hi' hp.1 hp.2 hy) fun σ' H' hp => hd σ' H' (sG.trans hp.1) hp.2
end
end Fo
namespace Fo
open PySem L2 FO
/-! ### comprehensions whose items are new lists; slices and sums -/
section
variable {K : PySem.W.Frag} {H0 : Hp} {σ : L2.St} {a b te : TE}
/-- a list, new since H0, of just these values -/
def LsN (H0 : Hp) (xs : List V) : Hp → V → Prop := fun H v => ∃ q, v = .ref q ∧ H0 q = none ∧ H q = some (.lst xs)
theorem al_lcN {wi : TI} {g : TG} {vs : List Nat} {n : Nat} {Φ : Nat → Hp → V → Prop} {f : Nat → List V} (hi : AlI H0 σ wi n Φ)
    (ht : ∀ i G x, i < n → Same H0 G → Φ i G x → ∃ σ2, wipe σ2 vs = wipe σ vs ∧ (∀ k : L2.St → Hp → Prop, k σ2 G → g x (wipe σ vs) G k) ∧ Al G σ2 te (LsN G (f i))) (hn : n ≤ 100000) : Al H0 σ (tLc wi g tYes te vs) (LsI n fun i => IsL (f i)) := fun H Q s k => hi H _ s fun J G sG w D hD => by
  have big : (16777216 : Nat) = sizeLine := PySem.sizeLine_eq.symm
  refine lc_it w (fun j H' => Same G H' ∧ ∃ ys, H' D = some (.lst ys) ∧ ys.length = j ∧ ∀ i x, ys[i]? = some x → ∃ q, x = .ref q ∧ q ≠ D ∧ H' q = some (.lst (f i))) ⟨sm_upd hD, [], upd_same, rfl, fun i x h => by simp at h⟩ (fun _ _ _ h => h.1) ?_ ?_
  · rintro i x H1 H2 hin ⟨s1, ys, hy, hl, hx⟩ ⟨rfl, hp⟩
    obtain ⟨σ2, e1, e2, al⟩ := ht i H2 x hin ((s.trans sG).trans s1) hp
    refine e2 _ ⟨e1, ?_⟩
    unfold tYes
    refine iteT ?_
    refine al H2 _ (Same.refl _) fun H3 v s3 ⟨q, ev, nq, hq⟩ => ⟨ys, s3 _ _ hy, by omega, ?_, ys ++ [v], upd_same, by rw [List.length_append, hl]; rfl, fun m z hm => ?_⟩
    · exact fun b o e => by
        rw [upd_ne (ne_of_none e hD)]
        exact s3 _ _ (s1 b o e)
    · by_cases hml : m < ys.length
      · rw [List.getElem?_append_left hml] at hm
        obtain ⟨q2, e3, ne, h3⟩ := hx m z hm
        exact ⟨q2, e3, ne, by rw [upd_ne ne]; exact s3 _ _ h3⟩
      · rw [List.getElem?_append_right (by omega)] at hm
        have h0 : m - ys.length = 0 := by
          have := (List.getElem?_eq_some_iff.mp hm).1
          rw [List.length_singleton] at this
          omega
        rw [h0] at hm
        have em : m = i := by omega
        subst em
        cases hm
        have ne : q ≠ D := fun z => by
          subst z
          rw [hy] at nq
          cases nq
        exact ⟨q, ev, ne, by rw [upd_ne ne]; exact hq⟩
  · rintro H1 ⟨s1, ys, hy, hl, hx⟩
    exact k H1 _ (sG.trans s1) ⟨D, ys, rfl, hy, hl, fun i x hi => by
      obtain ⟨q, e, _, h⟩ := hx i x hi
      exact ⟨q, e, h⟩⟩
theorem dp_lists {H : Hp} : ∀ (n : Nat) (xs : List V) (f : Nat → List V), xs.length = n → (∀ i, (f i).all scB = true) → (∀ i x, xs[i]? = some x → IsL (f i) H x) → DpAll K H xs ((List.range n).map fun i => .list ((f i).map scD))
  | 0, [], f, _, _, _ => .nil
  | n + 1, x :: xs, f, hn, hs, h => by
    obtain ⟨p, rfl, hp⟩ := h 0 x rfl
    have ih := dp_lists n xs (fun i => f (i + 1)) (by simpa using hn) (fun i => hs (i + 1)) (fun i y hy => h (i + 1) y (by simpa using hy))
    rw [List.range_succ_eq_map, List.map_cons, List.map_map]
    exact .cons (.lst (SqL.of hp) (dp_scs (hs 0))) ih
theorem al_dll {n : Nat} {f : Nat → List V} (h : Al H0 σ a (LsI n fun i => IsL (f i))) (hs : ∀ i, (f i).all scB = true) : Al H0 σ a (IsD K (.list ((List.range n).map fun i => .list ((f i).map scD)))) := al_weak h fun H v ⟨p, xs, e, hp, hn, hx⟩ => by
  subst e
  exact .lst (SqL.of hp) (dp_lists n xs f hn hs hx)
theorem ls_at {xs : List V} {n : Nat} (h : Al H0 σ a (IsL xs)) (hn : xs.length = n) : Al H0 σ a (LsI n fun i _ v => xs[i]? = some v) := al_weak h fun H v ⟨p, e, hp⟩ => ⟨p, xs, e, hp, hn, fun i x hi => hi⟩
theorem ints_sc (ns : List Int) : (ns.map V.int).all scB = true := by simp [scB]
/-- sum(xs[:k]) -/
theorem al_sum {ns : List Int} (h : Al H0 σ a (IsL (ns.map V.int))) : Al H0 σ (tCB (rSum K) (tCons a tNil)) (Is (.int ns.sum)) := fun H Q s k => h H _ s fun G v sG ⟨p, e, hp⟩ => ⟨p, ns, by rw [e], SqL.of hp, k G _ sG rfl⟩
theorem al_abs {i : Int} (h : Al H0 σ a (Is (.int i))) : Al H0 σ (tCB (fun xs H Q => ∃ i, xs = [V.int i] ∧ Q (.int (if i < 0 then -i else i)) H) (tCons a tNil)) (Is (.int (if i < 0 then -i else i))) := fun H Q s k => h H _ s fun G v sG e => ⟨i, by rw [show v = _ from e], k G _ sG rfl⟩
end
end Fo
namespace Fo
open PySem L2 FO
/-- a list to be read -/
def IsS (K : PySem.W.Frag) (xs : List V) : Hp → V → Prop := fun H v => ∃ p, v = .ref p ∧ SqL K H p xs
theorem stab_s (K : PySem.W.Frag) (xs : List V) : Stab (IsS K xs) := fun _ _ _ s ⟨p, e, h⟩ => ⟨p, e, s.seq h⟩
section
variable {K : PySem.W.Frag} {H0 : Hp} {σ : L2.St} {a b te : TE}
theorem l_s {xs : List V} (h : Al H0 σ a (IsL xs)) : Al H0 σ a (IsS K xs) := al_weak h fun H v ⟨p, e, hp⟩ => ⟨p, e, SqL.of hp⟩
theorem al_cut {ns : List Int} {k : Nat} (h : Al H0 σ a (IsS K (ns.map V.int))) (g : Al H0 σ b (Is (.int (k : Nat)))) : Al H0 σ (tSl (rSlL K) a tNoPart (tPart b)) (IsL ((ns.take k).map V.int)) := fun H Q s q => h H _ s fun G v sG ⟨p, e, hp⟩ => g G _ (s.trans sG) fun G2 w sG2 hw => ⟨_, hw, p, _, e, sG2.seq hp, fun c nc => by
  rw [cut_take]
  exact q _ _ (sm_new (sG.trans sG2) nc) ⟨c, rfl, upd_same⟩⟩
theorem abs_nat (i : Int) : (if i < 0 then -i else i) = ((i.natAbs : Nat) : Int) := by
  by_cases h : i < 0
  · rw [if_pos h]; omega
  · rw [if_neg h]; omega
theorem al_sumcut {ns : List Int} {k : Nat} (h : Al H0 σ a (IsS K (ns.map V.int))) (g : Al H0 σ b (Is (.int (k : Nat)))) : Al H0 σ (tCB (fun xs H Q => ∃ i, xs = [V.int i] ∧ Q (.int (if i < 0 then -i else i)) H) (tCons (tCB (rSum K) (tCons (tSl (rSlL K) a tNoPart (tPart b)) tNil)) tNil)) (Is (.int ((ns.take k).sum.natAbs : Nat))) :=
  al_is (al_abs (al_sum (al_cut h g))) (congrArg V.int (abs_nat _))
/-- n % k -/
theorem al_modN {n k : Nat} (h : Al H0 σ a (Is (.int (n : Nat)))) (g : Al H0 σ b (Is (.int (k : Nat)))) (hk : 0 < k) : Al H0 σ (tOp (rI (fun _ j => 0 < j) fun i j => .int (i % j)) a b) (Is (.int ((n % k : Nat) : Int))) := al_is (al_iC h g (by show (0 : Int) < (k : Int); omega)) (congrArg V.int (by omega))
theorem al_addN {n k : Nat} (h : Al H0 σ a (Is (.int (n : Nat)))) (g : Al H0 σ b (Is (.int (k : Nat)))) : Al H0 σ (tOp (rI0 fun i j => .int (i + j)) a b) (Is (.int ((n + k : Nat) : Int))) := al_is (al_i0 h g) (congrArg V.int (by omega))
end
end Fo
namespace Fo
open PySem L2 FO
theorem tl2 : tl ("(1+1)" : Str) = [40, 49, 43, 49, 41] ∧ tl ("((1+1)+1)" : Str) = [40, 40, 49, 43, 49, 41, 43, 49, 41] := by decide +kernel
theorem gv_power {b n : Nat} (hb : b ≤ 1000) (hn : n ≤ 10000) : Gives2 spPower (Is (.int (b : Nat))) (Is (.int (n : Nat))) (Is (.int ((b ^ n : Nat) : Int))) := fun G v w Q E e1 e2 k => ⟨b, n, by rw [show v = _ from e1, show w = _ from e2], hb, hn, k G _ (Same.refl G) rfl⟩
theorem al_dnew {H0 : Hp} {σ : L2.St} : Al H0 σ tDNewK BadP := fun H Q s k p np => k _ _ (sm_upd np) (.inr (.inr (.inr (.inr (.inr ⟨p, [], rfl, upd_same⟩)))))
theorem bad_long (t : List Nat) (h1 : 2000 < t.length) (h2 : t.length ≤ 100000) : t.length ≤ 100000 ∧ worthL t = 0 := ⟨h2, by unfold worthL; rw [if_neg (by omega)]⟩
theorem rep_filter (n : Nat) : ((List.range n).filter fun _ => true).map (fun _ => V.bl false) = (List.replicate n false).map V.bl := by
  rw [List.filter_eq_self.mpr (fun _ _ => rfl)]
  refine List.ext_getElem? fun i => ?_
  by_cases hi : i < n
  · simp [hi]
  · simp [hi]
theorem dec_nat (a b : Nat) : decide (V.int (a : Nat) = V.int (b : Nat)) = decide (a = b) := by
  by_cases h : a = b
  · rw [decide_eq_true (by rw [h]), decide_eq_true h]
  · rw [decide_eq_false (fun e => h (by have := V.int.inj e; omega)), decide_eq_false h]
end Fo
namespace Fo
open PySem L2 FO
/-! ### further readings by what they give -/
theorem sIx_some (n d k : Nat) : HT.sIx n d (some (k : Int)) = min k n := by
  show (if ((k : Nat) : Int) < 0 then (((k : Nat) : Int) + ((n : Nat) : Int)).toNat else min ((k : Nat) : Int).toNat n) = _
  rw [if_neg (by omega), Int.toNat_natCast]
theorem cutS_drop (z : Str) (k : Nat) : tl (cutS z (some (k : Int)) none) = (tl z).drop k := by
  unfold cutS
  show (((tl z).drop (HT.sIx z.length 0 (some (k : Int)))).take (HT.sIx z.length z.length none - HT.sIx z.length 0 (some (k : Int)))) = _
  rw [sIx_some, show HT.sIx z.length z.length none = z.length from rfl, lenT]
  by_cases h : k ≤ (tl z).length
  · rw [Nat.min_eq_left h, List.take_of_length_le (by rw [List.length_drop]; omega)]
  · rw [Nat.min_eq_right (by omega), List.drop_eq_nil_of_le (Nat.le_refl _), List.drop_eq_nil_of_le (by omega)]
    simp
theorem cutS_take (z : Str) (k : Nat) : tl (cutS z none (some (k : Int))) = (tl z).take k := by
  unfold cutS
  show (((tl z).drop (HT.sIx z.length 0 none)).take (HT.sIx z.length z.length (some (k : Int)) - HT.sIx z.length 0 none)) = _
  rw [sIx_some, show HT.sIx z.length 0 none = 0 from rfl, lenT, List.drop_zero, Nat.sub_zero]
  by_cases h : k ≤ (tl z).length
  · rw [Nat.min_eq_left h]
  · rw [Nat.min_eq_right (by omega), List.take_of_length_le (Nat.le_refl _), List.take_of_length_le (by omega)]
section
variable {K : PySem.W.Frag} {H0 : Hp} {σ : L2.St} {a b te : TE} {Φ : Hp → V → Prop}
theorem al_isB {x y : Bool} (h : Al H0 σ a (Is (.bl x))) (g : Al H0 σ b (Is (.bl y))) {r : Bool} (hr : decide (x = y) = r) : Al H0 σ (tOp rIsB a b) (Is (.bl r)) := fun H Q s k => h H _ s fun G v sG hv => g G _ (s.trans sG) fun G2 u sG2 hu => ⟨x, y, hv, hu, by rw [hr]; exact k G2 _ (sG.trans sG2) rfl⟩
theorem al_notB {x y : Bool} (h : Al H0 σ a (Is (.bl x))) (g : Al H0 σ b (Is (.bl y))) {r : Bool} (hr : decide (x = y) = !r) : Al H0 σ (tOp rNotB a b) (Is (.bl r)) := fun H Q s k => h H _ s fun G v sG hv => g G _ (s.trans sG) fun G2 u sG2 hu => ⟨x, y, hv, hu, by rw [hr, Bool.not_not]; exact k G2 _ (sG.trans sG2) rfl⟩
theorem al_lenT {t : List Nat} (h : Al H0 σ a (IsT t)) (hl : t.length ≤ sizeLine) : Al H0 σ (tCB (fun xs H Q => ∃ z : Str, xs = [V.str z] ∧ z.length ≤ sizeLine ∧ Q (.int z.length) H) (tCons a tNil)) (Is (.int (t.length : Nat))) := fun H Q s k => h H _ s fun G v sG ⟨z, e, et⟩ => ⟨z, by rw [e], by rw [lenT, et]; exact hl, k G _ sG (by rw [lenT, et]; rfl)⟩
theorem al_copy {xs : List V} (h : Al H0 σ a (IsS K xs)) : Al H0 σ (tCB (fun vs H Q => ∃ p ys, vs = [V.ref p] ∧ (SqL K H p ys ∨ SqT K H p ys) ∧ ∀ l, H l = none → Q (.ref l) (upd H l (.lst ys))) (tCons a tNil)) (IsL xs) := fun H Q s k => h H _ s fun G v sG ⟨p, e, hp⟩ => ⟨p, xs, by rw [e], .inl hp, fun l nl => k _ _ (sm_new sG nl) ⟨l, rfl, upd_same⟩⟩
theorem al_text' {z : Str} {t : List Nat} (h : Al H0 σ a (Is (.str z))) (e : tl z = t) : Al H0 σ a (IsT t) := al_weak h fun _ _ hv => ⟨z, hv, e⟩
theorem al_str {t : List Nat} (h : Al H0 σ a (IsT t)) : Al H0 σ a (Is (.str ⟨t.toArray⟩)) := al_weak h fun _ v ⟨z, e, et⟩ => by
  subst et
  show v = _
  rw [e]
theorem al_cutT {t : List Nat} {k : Nat} (h : Al H0 σ a (IsT t)) (g : Al H0 σ b (Is (.int (k : Nat)))) (hl : t.length ≤ sizeLine) : Al H0 σ (tSl rSlS a (tPart b) tNoPart) (IsT (t.drop k)) := fun H Q s q => h H _ s fun G v sG ⟨z, e, et⟩ => g G _ (s.trans sG) fun G2 w sG2 hw => ⟨_, hw, z, e, by rw [lenT, et]; exact hl, q G2 _ (sG.trans sG2) ⟨_, rfl, by
  rw [← et]
  exact cutS_drop z k⟩⟩
theorem al_chain {i j l : Int} (h1 : Al H0 σ a (Is (.int i))) (h2 : Al H0 σ b (Is (.int j))) (h3 : Al H0 σ te (Is (.int l))) (e1 : i = j) (e2 : j = l) : Al H0 σ (tChain rEq rEq a b te) (Is (.bl true)) := fun H Q s k => h1 H _ s fun G1 v1 s1 e => h2 G1 _ (s.trans s1) fun G2 v2 s2 e' => by
  subst e1 e2
  rw [show v1 = _ from e, show v2 = _ from e']
  refine ⟨rfl, true, by rw [decide_eq_true rfl], iteT (h3 G2 _ ((s.trans s1).trans s2) fun G3 v3 s3 e'' => ?_)⟩
  rw [show v3 = _ from e'']
  exact ⟨rfl, k G3 _ ((s1.trans s2).trans s3) (by rw [decide_eq_true rfl]; rfl)⟩
end
/-! ### texts that are no writings -/
theorem worth_none {t : List Nat} (h : runS [] t = none) : worthL t = 0 := by
  unfold worthL
  split
  · unfold readL; rw [h]; rfl
  · rfl
theorem wr_more {t : List Nat} {n : Int} {k : Nat} (h : Wr t n k) : worthL (t ++ [49]) = 0 := by
  have e : runS [] (t ++ [49]) = some [.inl 1, .inl n] := by rw [run_snoc h.reads]; rfl
  unfold worthL
  split
  · unfold readL; rw [e]; rfl
  · rfl
theorem wr_sign {t : List Nat} {n : Int} {k : Nat} (h : Wr t n k) (c : Nat) (hc : c ≠ 49 ∧ c ≠ 41 ∧ c ≠ 40 ∧ c ≠ 43 ∧ c ≠ 42) : worthL (t ++ [c]) = 0 := worth_none (by
  rw [run_snoc h.reads]
  unfold stepS
  rw [if_neg hc.1, if_neg hc.2.1, if_neg (by omega)])
theorem wr_tail {t : List Nat} {n : Int} {k : Nat} (h : Wr t n k) (hn : 2 ≤ n) : worthL (t.drop 1) = 0 := by
  cases h with
  | one => omega
  | @plus t u m n k l h1 h2 =>
    refine worth_none ?_
    show runS [] (t ++ 43 :: (u ++ [41])) = none
    have e1 := h1.reads.on []
    rw [runS_append, e1]
    show runS [.inl m] (43 :: (u ++ [41])) = none
    have e2 : runS [.inr 43, .inl m] (u ++ [41]) = none := by
      rw [runS_append, h2.reads.on [.inr 43, .inl m]]
      rfl
    exact e2
  | @times t u m n k l h1 h2 =>
    refine worth_none ?_
    show runS [] (t ++ 42 :: (u ++ [41])) = none
    have e1 := h1.reads.on []
    rw [runS_append, e1]
    show runS [.inl m] (42 :: (u ++ [41])) = none
    have e2 : runS [.inr 42, .inl m] (u ++ [41]) = none := by
      rw [runS_append, h2.reads.on [.inr 42, .inl m]]
      rfl
    exact e2
theorem F2_all : ((List.range 201).all fun n => decide (n < 2) || decide (2 ≤ F n)) = true := by decide +kernel
theorem F_ge2 {n : Nat} (h1 : 2 ≤ n) (h : n ≤ 200) : 2 ≤ F n := by
  have := List.all_eq_true.mp F2_all n (List.mem_range.mpr (by omega))
  simp only [Bool.or_eq_true, decide_eq_true_eq] at this
  omega
theorem gr3m {m : Nat} (h : 1 ≤ m) : gr (3 * m) = 3 ^ m := by
  obtain ⟨q, rfl⟩ : ∃ q, m = q + 1 := ⟨m - 1, by omega⟩
  rw [show 3 * (q + 1) = 3 * q + 3 by omega, gr_0, Nat.pow_succ, Nat.mul_comm]
theorem gr31m {m : Nat} (h : 1 ≤ m) : gr (3 * m + 1) = 4 * 3 ^ (m - 1) := by
  obtain ⟨q, rfl⟩ : ∃ q, m = q + 1 := ⟨m - 1, by omega⟩
  rw [show 3 * (q + 1) + 1 = 3 * q + 4 by omega, gr_1, Nat.add_sub_cancel]
theorem tp_nat {H0 : Hp} {σ : L2.St} {ta : TA} (ms : List Nat) (h : AlL H0 σ ta (VsV (ms.map fun m => V.int (m : Nat)))) (hn : ms.length ≤ sizeLine) : Al H0 σ (tTup ta) (TpI ms.length fun i => Is (.int ((ms.getD i 0 : Nat) : Int))) :=
  al_xtup h (by rw [List.length_map]; exact hn) (by rw [List.length_map]) fun i x H hx => by
    rw [List.getElem?_map] at hx
    cases q : ms[i]? with
    | none => rw [q] at hx; cases hx
    | some m =>
      rw [q] at hx
      cases hx
      show _ = _
      rw [List.getD_eq_getElem?_getD, q]
      rfl
theorem fg_rev {n : Nat} (h : 1 ≤ n) : fg (fl1 n).reverse 1 = ((F n : Nat) : Int) := by
  unfold fg
  rw [List.getD_eq_getElem?_getD, Nat.sub_self, List.getElem?_reverse (by rw [fl1_len]; omega), fl1_len]
  simp [fl1]
  rw [List.getElem?_range (by omega)]
  simp
  rw [show n - 1 + 1 = n by omega]
theorem tl4 : tl ("*1)" : Str) = [42, 49, 41] ∧ tl ("\n" : Str) = [10] := by decide +kernel
theorem map_scD (ns : List Int) : (ns.map V.int).map scD = ns.map PyData.int := by
  rw [List.map_map]
  rfl
theorem layI : ∀ ns : List Int, PyData.canLayAll0 (ns.map PyData.int) = true
  | [] => rfl
  | n :: ns => by
    show (PyData.canLay0 (.int n) && PyData.canLayAll0 (ns.map PyData.int)) = true
    rw [layI ns]
    rfl
theorem deepI : ∀ ns : List Int, PyData.depthAll (ns.map PyData.int) = 0
  | [] => rfl
  | n :: ns => by
    show max (PyData.depth (.int n)) (PyData.depthAll (ns.map PyData.int)) = 0
    rw [deepI ns]
    rfl
theorem shaped_sc (ns : List Int) : SeqAt.shaped (.list ((ns.map V.int).map scD)) = true := by
  rw [map_scD]
  simp [SeqAt.shaped, PyData.canLay0, PyData.depth, layI, deepI]
theorem eqv_sc (ns : List Int) : PyData.eqv (.list ((ns.map V.int).map scD)) (.list ((ns.map V.int).map scD)) = true := SeqAt.eqv_refl _ (SeqAt.canLay_of_shaped (shaped_sc ns))
section
variable {H : Hp} {σ : L2.St} {te : TE} {Φ : Hp → V → Prop} {D : Ends} {u t : TS} {K : PySem.W.Frag}
theorem st_or {c d : TT} {u' : TS} (h : AlT H σ c false) (k : ∀ G, Same H G → tIfS d t u' D σ G) : tIfS (tOr c d) t u' D σ H := h H _ (Same.refl H) fun G s => iteF (k G s)
theorem st_or' {c d : TT} {u' : TS} (h : AlT H σ c false) (k : ∀ G, Same H G → tSeq (tIfS d t u') u D σ G) : tSeq (tIfS (tOr c d) t u') u D σ H := h H _ (Same.refl H) fun G s => iteF (k G s)
/-- a loop over a tuple -/
theorem st_iT {g : TG} {tb : TS} (h : Al H σ te Φ) (k : ∀ G v, Same H G → Φ G v → ∃ a xs, v = .ref a ∧ SqT K G a xs ∧ ∃ Pv : Nat → L2.St → Hp → Prop, Pv 0 σ G ∧ (∀ i σ H, i ≤ xs.length → Pv i σ H → SqT K H a xs) ∧
    (∀ i x σ H, xs[i]? = some x → Pv i σ H → g x σ H fun σ2 H2 => tb { nx := Pv (i + 1), ct := Pv (i + 1), bk := u D, rt := D.rt } σ2 H2) ∧ ∀ σ H, Pv xs.length σ H → u D σ H) : tSeq (tFor (iTup K te) g tb) u D σ H := h H _ (Same.refl H) fun G v s hv => by
  obtain ⟨a, xs, e, hs, Pv, p0, p1, p2, p3⟩ := k G v s hv
  exact ⟨a, e, ⟨xs, hs⟩, for_tup Pv p0 p1 p2 p3⟩
end
theorem tl5 : tl ("+" : Str) = [43] := by decide +kernel
theorem tl6 : (tl ("(" : Str)).length = 1 ∧ (tl ("(1+" : Str)).length = 3 ∧ (tl ("1" : Str)).length = 1 ∧ (tl (")" : Str)).length = 1 := by decide +kernel
section
variable {H : Hp} {σ : L2.St} {te : TE} {Φ : Hp → V → Prop} {D : Ends} {u t : TS} {K : PySem.W.Frag}
/-- a loop that changes nothing that stood; what holds may speak of the heap -/
theorem st_forG {wi : TI} {g : TG} {tb : TS} {n : Nat} {Φ : Nat → Hp → V → Prop} (hi : AlI H σ wi n Φ) (Pv : Nat → L2.St → Hp → Prop) (h0 : ∀ G, Same H G → Pv 0 σ G)
    (hs : ∀ G0, Same H G0 → ∀ i x σ' G, i < n → Same G0 G → Pv i σ' G → Φ i G x → g x σ' G fun σ2 H2 => tb { nx := fun σ3 G3 => Same G0 G3 ∧ Pv (i + 1) σ3 G3, ct := fun σ3 G3 => Same G0 G3 ∧ Pv (i + 1) σ3 G3, bk := u D, rt := D.rt } σ2 H2)
    (hd : ∀ σ' G, Same H G → Pv n σ' G → u D σ' G) : tSeq (tFor wi g tb) u D σ H := hi H _ (Same.refl H) fun J G sG w =>
  for_it w (fun i σ' H' => Same G H' ∧ Pv i σ' H') ⟨Same.refl G, h0 G sG⟩ (fun _ _ _ _ h => h.1) (fun i x σ' H1 H2 hi' hp hy => by
    obtain ⟨rfl, hy⟩ := hy
    exact hs G sG i x σ' H2 hi' hp.1 hp.2 hy) fun σ' H' hp => hd σ' H' (sG.trans hp.1) hp.2
/-- a loop over a list -/
theorem st_iL {g : TG} {tb : TS} (h : Al H σ te Φ) (k : ∀ G v, Same H G → Φ G v → ∃ a xs, v = .ref a ∧ SqL K G a xs ∧ ∃ Pv : Nat → L2.St → Hp → Prop, Pv 0 σ G ∧ (∀ i σ H, i ≤ xs.length → Pv i σ H → SqL K H a xs) ∧
    (∀ i x σ H, xs[i]? = some x → Pv i σ H → g x σ H fun σ2 H2 => tb { nx := Pv (i + 1), ct := Pv (i + 1), bk := u D, rt := D.rt } σ2 H2) ∧ ∀ σ H, Pv xs.length σ H → u D σ H) : tSeq (tFor (iList K te) g tb) u D σ H := h H _ (Same.refl H) fun G v s hv => by
  obtain ⟨a, xs, e, hs, Pv, p0, p1, p2, p3⟩ := k G v s hv
  exact ⟨a, e, ⟨xs, hs⟩, for_list Pv p0 p1 p2 p3⟩
end
section
variable {K : PySem.W.Frag} {H0 : Hp} {σ : L2.St} {a b te : TE}
theorem al_cutH {t : List Nat} {k : Nat} (h : Al H0 σ a (IsT t)) (g : Al H0 σ b (Is (.int (k : Nat)))) (hl : t.length ≤ sizeLine) : Al H0 σ (tSl rSlS a tNoPart (tPart b)) (IsT (t.take k)) := fun H Q s q => h H _ s fun G v sG ⟨z, e, et⟩ => g G _ (s.trans sG) fun G2 w sG2 hw => ⟨_, hw, z, e, by rw [lenT, et]; exact hl, q G2 _ (sG.trans sG2) ⟨_, rfl, by
  rw [← et]
  exact cutS_take z k⟩⟩
/-- a text's cut by written places -/
theorem al_cutW {z : Str} {i : Int} {t : List Nat} (h : Al H0 σ a (Is (.str z))) (g : Al H0 σ b (Is (.int i))) (hl : z.length ≤ sizeLine) (e : tl (cutS z none (some i)) = t) : Al H0 σ (tSl rSlS a tNoPart (tPart b)) (IsT t) := fun H Q s q => h H _ s fun G v sG hv => g G _ (s.trans sG) fun G2 w sG2 hw => ⟨i, hw, z, hv, hl, q G2 _ (sG.trans sG2) ⟨_, rfl, e⟩⟩
end
/-- a text that is no writing (nothing of the heap) -/
def BadF : Hp → V → Prop := fun _ v => ∃ z : Str, v = .str z ∧ z.length ≤ sizeLine ∧ worthL (tl z) = 0
theorem badF_P {H : Hp} {v : V} (h : BadF H v) : BadP H v := .inl h
theorem ls_a {H0 : Hp} {σ : L2.St} {a : TE} {n : Nat} {Φ Ψ : Hp → V → Prop} (h : Al H0 σ a (LsI n fun _ => Φ)) (k : ∀ H v, Φ H v → Ψ H v) : Al H0 σ a (LsA n Ψ) := al_weak h fun H v ⟨p, xs, e, hp, hn, hx⟩ => ⟨p, xs, e, hp, hn, fun x hm => by
  obtain ⟨i, hi⟩ := List.mem_iff_getElem?.mp hm
  exact k _ _ (hx i x hi)⟩
theorem tl7 : tl ("0)" : Str) = [48, 41] := by decide +kernel
/-- .. as the last statement -/
theorem st_for1 {H : Hp} {σ : L2.St} {D : Ends} {wi : TI} {g : TG} {tb : TS} {n : Nat} {Φ : Nat → Hp → V → Prop} (hi : AlI H σ wi n Φ) (Pv : Nat → L2.St → Hp → Prop) (h0 : ∀ G, Same H G → Pv 0 σ G)
    (hs : ∀ G0, Same H G0 → ∀ i x σ' G, i < n → Same G0 G → Pv i σ' G → Φ i G x → g x σ' G fun σ2 H2 => tb { nx := fun σ3 G3 => Same G0 G3 ∧ Pv (i + 1) σ3 G3, ct := fun σ3 G3 => Same G0 G3 ∧ Pv (i + 1) σ3 G3, bk := D.nx, rt := D.rt } σ2 H2)
    (hd : ∀ σ' G, Same H G → Pv n σ' G → D.nx σ' G) : tFor wi g tb D σ H := hi H _ (Same.refl H) fun J G sG w =>
  for_it w (fun i σ' H' => Same G H' ∧ Pv i σ' H') ⟨Same.refl G, h0 G sG⟩ (fun _ _ _ _ h => h.1) (fun i x σ' H1 H2 hi' hp hy => by
    obtain ⟨rfl, hy⟩ := hy
    exact hs G sG i x σ' H2 hi' hp.1 hp.2 hy) fun σ' H' hp => hd σ' H' (sG.trans hp.1) hp.2
end Fo
namespace Fo
open PySem L2 FO PySem.Spec PyProof.Rows
/-! ### a list comprehension whose block bears the pins of the def, told where the block begins -/
/-- what stands of an iterator -/
structure TuO (fp : List Addr) (tn : Nat → Heap → Prop) : Prop where
  ob : ∀ i h, tn i h → ∀ b ∈ fp, ∃ o, h.get? b = some o ∧ ∀ v, o.data ≠ .cell v
  kp : ∀ i h h', tn i h → (∀ b ∈ fp, ∀ o, h.get? b = some o → h'.get? b = some o) → tn i h'
/-- the turns of the iterator at a, seen from the context Y -/
structure Tu (Y : Cx) (tg : Expr) (J : It) (fp : List Addr) (a : Addr) (tn : Nat → Heap → Prop) : Prop where
  nx : ∀ (i : Nat) (ps : List (Addr × Obj)) (s : Shared) (τ : L2.St) (H : Hp), Inv Y ps τ H s → (∀ b ∈ fp, FpOk Y ps H b) → tn i s.heap → J.go i H →
    wpAny (model Y.prog Y.w) Y.A (pyNext (.ref a)) (fun r z => ∃ u, r = some u ∧ wpAny (model Y.prog Y.w) Y.A (letOwnedTupleGo tg (.ref a) u) (fun _ z' => ∃ x G, Inv Y ps τ G z' ∧ RelV x u ∧ J.yld i H x G ∧ tn (i + 1) z'.heap ∧ ∀ b ∈ fp, G b = none) (fun _ _ => False) z) (fun _ _ => False) s
  dn : ∀ (i : Nat) (ps : List (Addr × Obj)) (s : Shared) (τ : L2.St) (H : Hp), Inv Y ps τ H s → (∀ b ∈ fp, FpOk Y ps H b) → tn i s.heap → J.stop i H → wpAny (model Y.prog Y.w) Y.A (pyNext (.ref a)) (fun r z => r = none ∧ Inv Y ps τ H z) (fun _ _ => False) s
  se : ∀ (i : Nat) (s : Shared) (Q : Value → Shared → Prop) (E : Value → Shared → Prop), tn i s.heap → Q (.ref a) s → wpAny (model Y.prog Y.w) Y.A (pyIter (.ref a)) Q E s
theorem tu_calm {Y : Cx} {tg : Expr} {J : It} {fp : List Addr} {a : Addr} {tn : Nat → Heap → Prop} (T : Turn Y.prog Y.w Y.K tg J fp a tn) (c : Y.calm = true) : Tu Y tg J fp a tn :=
  ⟨fun i ps s τ H I f t g => T.item Y rfl rfl rfl c i ps s τ H _ I f t g, fun i ps s τ H I f t g => T.done Y rfl rfl rfl c i ps s τ H _ I f t g, fun i s Q E t q => T.self Y.A i s Q E t q⟩
theorem tu_hot {Y : Cx} {tg : Expr} {J : It} {fp : List Addr} {a : Addr} {tn : Nat → Heap → Prop} (T : L2H.TurnH Y.prog Y.w Y.K tg J fp a tn) (c : L2H.HotC Y) : Tu Y tg J fp a tn :=
  ⟨fun i ps s τ H I f t g => T.item Y rfl rfl rfl c i ps s τ H _ I f t g, fun i ps s τ H I f t g => T.done Y rfl rfl rfl c i ps s τ H _ I f t g, fun i s Q E t q => T.self Y.A i s Q E t q⟩
/-- an iterator comes, whose turns go in each context with Gd -/
def IterOk (Gd : Cx → Prop) (X : Cx) (tg iter : Expr) (wi : TI) : Prop := ∀ (ps : List (Addr × Obj)) (s : Shared) (σ : L2.St) (H : Hp) (R : It → Hp → Prop), Inv X ps σ H s → wi σ H R →
  wpAny (model X.prog X.w) X.A (eval iter X.env) (fun v z => wpAny (model X.prog X.w) X.A (pyIter v) (fun itv z' => ∃ (a : Addr) (fp : List Addr) (tn : Nat → Heap → Prop) (J : It) (G : Hp), itv = .ref a ∧ Inv X ps σ G z' ∧ TuO fp tn ∧ (∀ Y : Cx, Y.prog = X.prog → Y.w = X.w → Y.K = X.K → Gd Y → Tu Y tg J fp a tn) ∧ tn 0 z'.heap ∧ (∀ b ∈ fp, FpOk X ps G b) ∧ R J G) X.xe z) X.xe s
theorem iter_calm {X : Cx} {tg iter : Expr} {wi : TI} (h : PI X tg iter wi) : IterOk (fun Y => Y.calm = true) X tg iter wi := fun ps s σ H R I hw =>
  thn (h.run ps s σ H R I hw) fun v z hz => thn hz fun itv z' q => by
    obtain ⟨a, fp, tn, J, G, e, I', T, t0, f, r⟩ := q
    exact ⟨a, fp, tn, J, G, e, I', ⟨T.obj, T.keep⟩, fun Y h1 h2 h3 c => tu_calm (by rw [h1, h2, h3]; exact T) c, t0, f, r⟩
theorem iter_hot {X : Cx} {tg iter : Expr} {wi : TI} (h : L2H.PIH X tg iter wi) : IterOk L2H.HotC X tg iter wi := fun ps s σ H R I hw =>
  thn (h.run ps s σ H R I hw) fun v z hz => thn hz fun itv z' q => by
    obtain ⟨a, fp, tn, J, G, e, I', T, t0, f, r⟩ := q
    exact ⟨a, fp, tn, J, G, e, I', ⟨T.obj, T.keep⟩, fun Y h1 h2 h3 c => tu_hot (by rw [h1, h2, h3]; exact T) c, t0, f, r⟩
/-- the block's context, with the def's pins -/
abbrev blkP (X : Cx) (s : Shared) (H : Hp) (scope : Scope) (ce : Env) (fp : List Addr) : Cx := { X.blk s H scope ce fp with pn := X.pn }
abbrev ceOf (X : Cx) (s : Shared) (scope : Scope) : Env := compEnvC scope (cellsFrom (s.heap.objs.size + 1) scope.names (cloFrom X.env.cells scope.names [])) s.heap.objs.size X.env
section
variable {X : Cx}
/-- the pins of the def go with the block -/
theorem blk_pins {ps : List (Addr × Obj)} {σ : L2.St} {H : Hp} {s : Shared} {scope : Scope} {ce : Env} {fp : List Addr} {τ : L2.St} {G : Hp} {z : Shared} (I : Inv X ps σ H s) (J : Inv (X.blk s H scope ce fp) [] τ G z) (hl : s.heap.objs.size ≤ ce.locals) (hf : ∀ b ∈ fp, FpOk X ps H b) : Inv (blkP X s H scope ce fp) [] τ G z := by
  have o := J.ok
  refine ⟨⟨o.mod, o.kind, o.glob, o.blt, o.above, o.inj, o.has, o.cab, o.hd, o.frames, o.stk, o.exf, o.bs, o.bsz, o.noex, o.exfs, o.funs, o.frf⟩, J.os, J.bare, J.base, J.loc, J.cell, J.free, J.freeC, fun p hp => ?_, J.hok, J.len⟩
  have hp' : p ∈ X.pn := by
    rcases List.mem_append.mp hp with h | h
    · exact h
    · exact absurd h (by simp)
  obtain ⟨g, n, nl, nf, nc⟩ := I.pin p (List.mem_append_left _ hp')
  have nfp : p.1 ∉ fp := fun z => (hf _ z).2.2.2.2.2 p (List.mem_append_left _ hp') rfl
  have nst : p.1 ∉ frs X.stack := fun z => (List.mem_cons.mp (I.stkSub _ z)).elim nl nf
  exact ⟨J.base.keep _ _ g n nst nfp, J.base.free _ _ g n nfp, fun e => Nat.lt_irrefl _ (Nat.lt_of_lt_of_le (Heap.lt_size g) (by rw [e]; exact hl)), nst, nc⟩
theorem pe_lcG {Gd : Cx → Prop} {elt tg iter : Expr} {ifs : List Expr} {scope : Scope} {own : List (Str × Nat)} {pos : Pos} {wi : TI} {g : TG} {tt : TT} {te : L2.St → TE} (hN : X.N.Nodup) (hi : IterOk Gd X tg iter wi) (ok : BlkOk X.N X.env.scope scope own) (gd : ∀ s H ce fp, Gd (blkP X s H scope ce fp))
    (hg : ∀ s H fp, PG (blkP X s H scope (ceOf X s scope) fp) tg g) (ht : ∀ s H fp, PTs (blkP X s H scope (ceOf X s scope) fp) ifs tt)
    (he : ∀ (ps : List (Addr × Obj)) (σ : L2.St) (s : Shared) (H : Hp) (fp : List Addr), Inv X ps σ H s → (∀ b ∈ fp, FpOk X ps H b) → PE (blkP X s H scope (ceOf X s scope) fp) elt (te σ)) (hs : ∀ x, foldedSetIterable iter X.env x = pure x := by intro _; rfl) :
    PE X (.ListComp elt [⟨tg, iter, ifs, 0⟩] scope pos) (fun σ H Q => tLc wi g tt (te σ) (own.map (·.2)) σ H Q) := by
  refine ⟨fun ps s σ H Q I h => ?_⟩
  rw [eval_ListComp]
  have fr : ∀ y ∈ scope.names, y.2 = .free → ∃ c, X.env.cells.lookup y.1 = some c := fun y hy e => (ok.free y hy e).elim (fun k => I.ok.has _ (.inl k)) fun k => I.ok.has _ (.inr k)
  refine wpAny_comprehension_free (use := none) rfl hs (closure_ok fr) ok.kind (fun y hy e => by rw [ok.uniq y hy, e]) (thn (hi ps s σ H _ I h) fun v z hz => thn hz fun itv z1 q => ?_)
  obtain ⟨a, fp, tn, J, H1, rfl, I1, TO, TT, t1, f1, W'⟩ := q
  refine wpAny_newObj_type (newEnv_comp ?_) (by show 0 ≤ sizeLine; decide)
  obtain ⟨D, eD⟩ : ∃ D, z1.heap.objs.size = D := ⟨_, rfl⟩
  have nD : H1 D = none := I1.hok.fresh (Nat.le_of_eq eD)
  rw [eD]
  obtain ⟨W, ⟨m0, w0⟩, turn⟩ := W' D nD
  obtain ⟨z2, e2⟩ : ∃ z2 : Shared, ({ z1 with heap := z1.heap.push { cls := .type "list", data := .seq ([] : List Value).toArray } } : Shared) = z2 := ⟨_, rfl⟩
  have h2 : z2.heap = z1.heap.push { cls := .type "list", data := .seq ([] : List Value).toArray } := by rw [← e2]
  have up2 : ∀ b o, z1.heap.get? b = some o → z2.heap.get? b = some o := fun b o e => by rw [h2]; exact Heap.get?_push_of_some _ e
  have I2 : Inv X ps σ (upd H1 D (.lst [])) z2 := by
    rw [← e2]
    exact I1.laid (t' := z1.toks) (fun b o e => Heap.get?_push_of_some _ e) (Nat.le_of_eq eD) ⟨Nat.zero_le _, [], 0, .nil, by rw [← eD]; exact Heap.get?_push_size _ rfl⟩
  rw [e2]
  have lt1 : ∀ b ∈ fp, b < z1.heap.objs.size := fun b hb => by
    obtain ⟨o, e, _⟩ := TO.ob _ _ t1 b hb
    exact Heap.lt_size e
  have f2 : ∀ b ∈ fp, FpOk X ps (upd H1 D (.lst [])) b := fun b hb => ⟨by rw [upd_ne (by rw [← eD]; exact Nat.ne_of_lt (lt1 b hb))]; exact (f1 b hb).1, (f1 b hb).2⟩
  have l2 : ∀ b ∈ fp, b < z2.heap.objs.size := fun b hb => by rw [h2, Heap.size_push]; exact Nat.lt_succ_of_lt (lt1 b hb)
  have t2 : tn 0 z2.heap := TO.kp _ _ _ t1 fun b _ o e => up2 b o e
  obtain ⟨H2, eH2⟩ : ∃ H2, upd H1 D (.lst []) = H2 := ⟨_, rfl⟩
  rw [eH2] at I2 f2 w0
  have J0 := block_start I2 ok hN fun b hb => ⟨f2 b hb, l2 b hb⟩
  have J1 := blk_pins I2 J0 (Nat.le_refl _) f2
  have pg := hg z2 H2 fp
  have pt := ht z2 H2 fp
  have pe := he ps σ z2 H2 fp I2 f2
  have T := TT (blkP X z2 H2 scope (ceOf X z2 scope) fp) rfl rfl rfl (gd _ _ _ _)
  obtain ⟨z3, e3⟩ : ∃ z3 : Shared, ({ z2 with heap := pushCells (z2.heap.push { cls := .type "dict", data := .dict #[] }) scope.names } : Shared) = z3 := ⟨_, rfl⟩
  rw [e3] at J1
  have t3 : tn 0 z3.heap := TO.kp _ _ _ t2 fun b _ o e => by rw [← e3]; exact pushCells_keeps _ _ _ _ (Heap.get?_push_of_some _ e)
  have st : ∀ {τ : L2.St} {G : Hp} {x : Shared}, Inv (blkP X z2 H2 scope (ceOf X z2 scope) fp) [] τ G x → (∀ b ∈ fp, G b = none) → ∀ b ∈ fp, FpOk (blkP X z2 H2 scope (ceOf X z2 scope) fp) [] G b := fun {τ G x} I' hn b hb =>
    ⟨hn b hb, (I'.ok.exf b hb).1, I'.ok.exfs b hb, .inl hb, fun y c e => (I'.ok.exf b hb).2 y c e, fun p hp => (f2 b hb).2.2.2.2.2 p (List.mem_append_left _ (by simpa using hp))⟩
  have loop : codeAny (model X.prog X.w) X.A (.compLoop (.ListComp elt [⟨tg, iter, ifs, 0⟩] scope pos) 0 (.ref a) (.ref D) (ceOf X z2 scope)) (compPost (model X.prog X.w) X.A X.xe none (EP X ps σ Q) (.ref D) z2.heap.objs.size) z3 := by
    refine compLoop_any (fun n x => ∃ i G, Inv (blkP X z2 H2 scope (ceOf X z2 scope) fp) [] (wipe σ (own.map (·.2))) G x ∧ tn i x.heap ∧ (∀ b ∈ fp, G b = none) ∧ W i n G) (fun n x hx => ?_) m0 ⟨0, H2, J1, t3, fun b hb => (f2 b hb).1, w0⟩
    obtain ⟨i, G, Ix, tx, nx, wx⟩ := hx
    rcases turn i n G wx with ⟨stop, qq⟩ | ⟨go, Nx, hNx, step⟩
    · refine thnF (T.dn i [] x _ G Ix (st Ix nx) tx stop) fun r y hy => ?_
      obtain ⟨rfl, Iy⟩ := hy
      have Ib : Inv X ps σ G y := I2.call' (ch := fp) Iy.os Iy.base Iy.hok Iy.bare fun b hb => ⟨(f2 b hb).2.2.2.1, (f2 b hb).2.1, (f2 b hb).2.2.2.2.1, (f2 b hb).2.2.2.2.2⟩
      obtain ⟨m, hn, _⟩ := Iy.loc
      obtain ⟨c0, c1, c2, c3, c4, c5⟩ := I2.fpOk (H' := G) (Nat.le_refl _) (show G z2.heap.objs.size = none from Iy.free)
      exact ⟨m, hn, fun h'' sb => ⟨.ref D, G, Ib.turned (t' := y.toks) (fun b o hb e => (sb.2 b hb).trans e) c0 c1 c3 c4 c5, rfl, qq⟩⟩
    · refine thnF (T.nx i [] x _ G Ix (st Ix nx) tx go) fun r y hy => ?_
      obtain ⟨u, rfl, hy⟩ := hy
      refine thnF hy fun _ y1 q1 => ?_
      obtain ⟨xv, G1, K1, r1, y1', t1', n1⟩ := q1
      have K1' := K1.pinned (st K1 n1) (TO.ob _ _ t1')
      refine thnF (pg.run _ y1 _ G1 xv u _ K1' r1 (step xv G1 y1')) fun _ y2 q2 => ?_
      obtain ⟨τ, G2, K2, hw, q2⟩ := q2
      refine thnF (pt.run _ y2 τ G2 _ K2 q2) fun b y3 q3 => ?_
      obtain ⟨G3, K3, q3⟩ := q3
      have fin : ∀ {y' : Shared} {G' : Hp}, Inv (blkP X z2 H2 scope (ceOf X z2 scope) fp) ([] ++ pinsAt fp y1.heap) τ G' y' → Nx G' → ∃ m, m < n ∧ ∃ i G, Inv (blkP X z2 H2 scope (ceOf X z2 scope) fp) [] (wipe σ (own.map (·.2))) G y' ∧ tn i y'.heap ∧ (∀ b ∈ fp, G b = none) ∧ W i m G := fun {y' G'} K' nx' => by
        obtain ⟨m', hm, w'⟩ := hNx G' nx'
        have pn' : ∀ b ∈ fp, ∀ o, y1.heap.get? b = some o → y'.heap.get? b = some o ∧ G' b = none := fun b hb o e => by
          have zz := K'.pin (b, o) (List.mem_append_right _ (List.mem_append_right _ (mem_pinsAt hb e)))
          exact ⟨zz.1, zz.2.1⟩
        refine ⟨m', hm, i + 1, G', (K'.unpinned (pins := [])).weak (by rw [← hw, wipe_length]) (fun j v e => ?_), TO.kp _ _ _ t1' fun b hb o e => (pn' b hb o e).1, fun b hb => ?_, w'⟩
        · rw [← hw] at e
          exact (wipe_some e).1
        · obtain ⟨o, e, _⟩ := TO.ob _ _ t1' b hb
          exact (pn' b hb o e).2
      cases b with
      | false => exact fin K3 q3
      | true =>
        refine thnF (pe.run _ y3 τ G3 _ K3 q3) fun zv y4 q4 => ?_
        obtain ⟨yv, G4, K4, r4, acc, hD4, hz4, nx'⟩ := q4
        exact app_ok (X := blkP X z2 H2 scope (ceOf X z2 scope) fp) K4 hD4 hz4 r4 fun y5 K5 => fin K5 nx'
  have fin := codeAny_compStart_list loop (T.se 0 _ _ _ t3 loop)
  rw [← e3] at fin
  exact fin
end
end Fo
namespace Fo
open PySem L2 FO PySem.Spec PyProof.Rows
/-! ### a def called within an except suite, that is handed the error -/
/-- the def at f, called while the error at a (of the class cls) is handled -/
structure Fh (P : Program) (w : World) (K : PySem.W.Frag) (mg : Str → Option Value) (base : Heap) (k : Nat) (f : Addr) (fd : FuncData) (ps : List Str) (sp : Addr → Value → Option Addr → Sp) : Prop where
  le : ∀ a c d vs H Q E, sp a c d vs H Q E → vs.length = ps.length
  ru : ∀ (A : Around) (fr : List Env) (s : Shared) (H : Hp) (ar : Args) (us : List Value) (vs : List V) (Q : VK) (E : XK) (a : Addr) (oe : Obj) (c : Value) (d : Option Addr), L2H.RoomH k A → L2H.Hot1 A (a, oe) → L2H.PinOk fr H s (a, oe) → Zc c d oe → (∃ ws, oe.data = .fields ws) → Env0 P w K mg base A fr s H →
    BindsTo s fd ar (ps.zip us) → Vals vs us → sp a c d vs H Q E → codeAny (model P w) A (.call (.ref f) ar) (CR CX0 fr P w H s Q E) s
section
variable {P : Program} {w : World} {K : PySem.W.Frag} {mg : Str → Option Value} {base : Heap}
theorem fh_of {x : Str} {st : Stmt} {f : Addr} {fd : FuncData} {N ps : List Str} {k : Nat} {sp : Addr → Value → Option Addr → Sp} (F : Fun K x x st f fd) (S : FnScope N ps (defScope st)) (len : ∀ a c d vs H Q E, sp a c d vs H Q E → vs.length = ps.length)
    (hb : ∀ (cv : Value) (A : Around) (fr : List Env) (s : Shared) (H : Hp) (vs : List V) (Q : VK) (E : XK) (a : Addr) (oe : Obj) (c : Value) (d : Option Addr), L2H.Hot1 A (a, oe) → Zc c d oe → (∃ ws, oe.data = .fields ws) → L2H.RoomH k (A.deeper (envOfC x (defScope st) s.heap.objs.size f cv)) → sp a c d vs H Q E →
      ∃ t, PSs (L2H.cxH CX0 P w K mg base N x (defScope st) f cv A fr s H E (a, oe)) (defBody st) t ∧ t { nx := fun _ H' => Q .non H', rt := Q } (L2.start N vs) H) : Fh P w K mg base (k + 1) f fd ps sp := by
  obtain ⟨oc, od, kV, doc, pm, an, cv, ct, osl, rfl, lk, hcd⟩ := F.ex
  refine ⟨len, fun A fr s H ar us vs Q E a oe c d hr hot pin hz hf e0 bt rv hs => ?_⟩
  have ll := len _ _ _ _ _ _ _ hs
  have up : ∀ b o, base.get? b = some o → s.heap.get? b = some o := fun b o e => (e0.bs b o e).1
  have KX := e0.mod.kin.keeps up
  refine codeAny_call_function hr.depth (KX _ _ lk) rfl S.co S.gen rfl (PySem.W.codeRec_of KX hcd) (bt _ _ _ _ (wpAny_newFunctionEnv_cells S.kind (fun y hy => ?_) fun env he s1 ic => ?_))
  · exact (S.par y.1 (List.of_mem_zip hy).1).elim .inl fun q => .inr ⟨q, PySem.W.cellsFrom_some _ _ _ (.inl q)⟩
  · subst he
    refine ⟨(e0.mod.nolimit.keeps up).keeps ic.toInCall.keep, codeAny_func ?_⟩
    obtain ⟨t, ht, hq⟩ := hb cv A fr s H vs Q E a oe c d hot hz hf (hr.deeper _) hs
    have J := L2H.inv_startH (CX := CX0) (E := E) S pin e0 ll rv ic
    refine wpAny_mono (ht.run [] s1 (L2.start N vs) H _ J hq) (fun fl s' h => ?_) fun _ _ z => z
    cases fl with
    | ret u =>
      obtain ⟨v, τ, H', J', ru, q⟩ := h
      exact ⟨v, H', J'.os, J'.bare, J'.base, J'.hok, ru, q⟩
    | next =>
      obtain ⟨τ, H', J', q⟩ := h
      exact ⟨.non, H', J'.os, J'.bare, J'.base, J'.hok, rfl, q⟩
    | brk => exact (show False from let ⟨_, _, _, q⟩ := h; q).elim
    | cont => exact (show False from let ⟨_, _, _, q⟩ := h; q).elim
end
section
variable {X : Cx} {k : Nat} {x : Str} {q pos : Pos} {e : Expr} {es : List Expr} {t : TA} {a : Addr} {oe : Obj} {c : Value} {d : Option Addr} {sp : Addr → Value → Option Addr → Sp}
theorem pe_callE (F : ∃ f fd ps, Fh X.prog X.w X.K X.mg X.base k f fd ps sp ∧ X.mg x = some (.ref f) ∧ PySem.W.keepIn X.K (.ref f) = true ∧ Binds X.K fd ps []) (hr : L2H.RoomH k X.A) (hot : L2H.Hot1 X.A (a, oe)) (hp : (a, oe) ∈ X.pn) (hz : Zc c d oe) (hf : ∃ ws, oe.data = .fields ws) (hg : Gl X x) (ha : PA X (e :: es) t)
    (hdb : (x == ("__debug__" : Str)) = false := by decide) (he : starEach (e :: es) X.env = (false, eval e X.env) :: starEach es X.env := by rfl) (hpl : (backTo pos (starEach es X.env)).any (·.1) = false := by rfl) :
    PE X (.Call (.Name x q) (e :: es) [] pos) (fun σ H Q => t σ H fun vs H1 => sp a c d vs H1 Q E0) := by
  obtain ⟨f, fd, ps, F, hm, kf, hb⟩ := F
  refine ⟨fun pins s σ H Q I h => wpAny_Call_Name_kw (ld_glob I hg hm (PySem.W.callWith_K (h₀ := X.base) I.ok.mod.kin kf (thn (ha.run pos pins s σ H _ I h) fun us s1 back => ?_) he hpl) hdb)⟩
  obtain ⟨vs, H1, I1, rv, q⟩ := back
  refine ⟨I1.kIn, ?_⟩
  have ll : us.length = ps.length := by rw [← rv.length]; exact F.le _ _ _ _ _ _ _ q
  have bt := hb s1 us I1.kIn (by rw [List.append_nil]; exact ll)
  rw [List.append_nil] at bt
  obtain ⟨g1, g2, g3, g4, g5⟩ := I1.pin (a, oe) (List.mem_append_left _ hp)
  refine wpAny_call (codeAny_mono (F.ru X.A X.stack s1 H1 ⟨us, []⟩ us vs Q E0 a oe c d hr hot ⟨g1, g2, fun z => (List.mem_cons.mp (I1.stkSub a z)).elim g3 g4, g5⟩ hz hf I1.env0 bt rv q) fun rr s2 hq => ?_)
  cases rr with
  | error e => exact (show False from hq).elim
  | ok fl => cases fl with
    | ret u => exact I1.after hq
    | next => exact hq.elim
    | brk => exact hq.elim
    | cont => exact hq.elim
/-- isinstance(error, c), the error pinned -/
theorem isEp {D : Addr} (C : ExcC X.K D) (hp : (a, oe) ∈ X.pn) (hz : Zc (.ref D) none oe) (hf : ∃ ws, oe.data = .fields ws) : CallR X (.builtin "isinstance") (rIsE X.K D a) := by
  intro pins s σ H xs us Q I rv h
  obtain ⟨y, cv, b, rfl, hcv, e, q⟩ := h
  obtain ⟨u1, u2, rfl, r1, r2⟩ := vals2 rv
  have e1 : u1 = .ref a := r1
  have e2 := hcv _ r2
  subst e1 e2
  have hg := (I.pin (a, oe) (List.mem_append_left _ hp)).1
  have J : PySem.W.InstAt s.heap a oe D none := by
    obtain ⟨ws, hw⟩ := hf
    cases oe
    obtain ⟨z1, z2⟩ := hz
    cases z1
    cases z2
    cases hw
    exact ⟨hg, rfl, rfl, trivial⟩
  exact PySem.W.kia_one (PySem.W.handS_kitx_exc C.hg C.hk C.hs C.hd C.ha C.hn C.ht C.hm) I.kIn J e (fun z => nomatch z) fun tk => ⟨.bl b, H, I.kept (t' := tk) (fun _ _ z => z), rfl, q⟩
end
end Fo
namespace Fo
open PySem L2 FO PySem.Spec PyProof.Rows
/-- no writing: what else may be handed in -/
def BadQ : Hp → V → Prop := fun H v => BadP H v ∨ ∃ p xs, v = .ref p ∧ H p = some (.tup xs)
theorem stab_badQ : Stab BadQ := fun _ _ _ s h => h.elim (fun z => .inl (stab_bad _ _ _ s z)) fun ⟨p, xs, e, z⟩ => .inr ⟨p, xs, e, s _ _ z⟩
theorem BadQ.no {K : PySem.W.Frag} {H : Hp} {v : V} {G : Str → Prop} {B : Prop} (h : BadQ H v) (b : B) : AskT K v H G B := by
  rcases h with h | ⟨p, xs, rfl, h⟩
  · exact h.no b
  · exact .inr ⟨⟨_, .base (.tup h), kit_ty (by decide +kernel)⟩, b⟩
def Which6 (CT CN CM C : Addr) (d : Nat) : Prop := (C = CT ∧ d = 0) ∨ (C = CN ∧ d = 1) ∨ (C = CM ∧ d = 2)
/-- the class at D, as _law_alone asks it -/
structure ErV (K : PySem.W.Frag) (CO CT CN CM D : Addr) (d : Nat) : Prop where
  k : ErK K CO D [(CT, decide (0 = d)), (CN, decide (1 = d)), (CM, decide (2 = d))]
  v : PySem.W.kitOne K (.ref D) (.type "ValueError") = some true
  le : d ≤ 2
section
variable {P : Program} {w : World} {K : PySem.W.Frag} {mg : Str → Option Value} {base : Heap} {C CO CT CN CM : Addr}
/-! ### _law_alone -/
def spAl (K : PySem.W.Frag) (CO CT CN CM : Addr) : Addr → Value → Option Addr → Sp := fun a c d vs H Q _ => ∃ (D : Addr) (n : Nat), c = .ref D ∧ d = none ∧ vs = [.ref a, .int (n : Nat)] ∧ ErV K CO CT CN CM D n ∧ ∀ H', Same H H' → Q (.bl true) H'
theorem scAl : FnScope nLawAlone pLawAlone (defScope sLawAlone) := ⟨rfl, rfl, rfl, by decide +kernel, rfl, by decide +kernel, by decide +kernel⟩
theorem ok_al (D : Dn K mg "_law_alone" sLawAlone) (B : Bi mg) (gV : mg "ValueError" = none) (gT : mg "BadText" = some (.ref CT)) (gN : mg "BadNumber" = some (.ref CN)) (gM : mg "BadOnes" = some (.ref CM)) :
    ∃ f fd ps, Fh P w K mg base 1 f fd ps (spAl K CO CT CN CM) ∧ mg "_law_alone" = some (.ref f) ∧ PySem.W.keepIn K (.ref f) = true ∧ Binds K fd ps [] := by
  obtain ⟨f, fd, F, hm⟩ := D.ex
  refine ⟨f, fd, pLawAlone, fh_of F scAl (fun a c d vs H Q E h => ?_) (fun cv A fr s H vs Q E a oe c d hot hz hf hr h => ?_), hm, F.kp, F.binds fun _ _ _ _ _ _ us hl => match us, hl with | [_, _], _ => rfl⟩
  · obtain ⟨D, n, _, _, rfl, _⟩ := h
    rfl
  · obtain ⟨D, n, rfl, rfl, rfl, ev, k⟩ := h
    have hp : (a, oe) ∈ (L2H.cxH CX0 P w K mg base nLawAlone "_law_alone" (defScope sLawAlone) f cv A fr s H E (a, oe)).pn := List.mem_singleton.mpr rfl
    have hot' : L2H.Hot1 (L2H.cxH CX0 P w K mg base nLawAlone "_law_alone" (defScope sLawAlone) f cv A fr s H E (a, oe)).A (a, oe) := hot
    have hu : (L2H.cxH CX0 P w K mg base nLawAlone "_law_alone" (defScope sLawAlone) f cv A fr s H E (a, oe)).A.units + 64 < cLine := by
      have := hr.un
      show (A.deeper _).units + 64 < _
      omega
    refine ⟨_, pss_cons (ps_set (i := 2) scAl.nd rfl (Or.inl rfl) (pe_lst (pa_cons (pe_callB (isEp ev.k.c hp hz hf) (by rfl) B.isi (by decide +kernel) (pa_cons (pv 0) (pa_cons (pe_glob (v := .ref CT) rfl gT rfl) pa_nil)))
        (pa_cons (pe_callB (isEp ev.k.c hp hz hf) (by rfl) B.isi (by decide +kernel) (pa_cons (pv 0) (pa_cons (pe_glob (v := .ref CN) rfl gN rfl) pa_nil))) (pa_cons (pe_callB (isEp ev.k.c hp hz hf) (by rfl) B.isi (by decide +kernel) (pa_cons (pv 0) (pa_cons (pe_glob (v := .ref CM) rfl gM rfl) pa_nil))) pa_nil)))))
      (pss_one (ps_ret (pe_and (pe_cmpR (op_eqD hu) (pv 2) (pe_lcG (Gd := L2H.HotC) (own := [("_law_k", 3)]) (g := gName 3) (tt := tYes) (te := fun _ => tOp rEq (tVar 3) (tVar 1)) scAl.nd (iter_hot (L2H.pi_range1H (by rfl) B.range (pa_cons pe_int pa_nil))) (blkOk_by (own := [("_law_k", 3)]) (N := nLawAlone) (sc := defScope sLawAlone) (by decide +kernel)) (fun _ _ _ _ => ⟨(a, oe), hot', hp⟩)
          (fun _ _ _ => pg_name (i := 3) scAl.nd rfl (Or.inl rfl)) (fun _ _ _ => pts_nil) (fun _ _ _ _ _ _ _ => pe_cmpR op_eq (pv 3) (pv 1) (nomark _))) (nomark _))
        (pe_one (pe_callB (isEp ev.k.c hp hz hf) (by rfl) B.isi (by decide +kernel) (pa_cons (pv 0) (pa_cons (pe_bltn (v := .ty "ValueError") (by rfl) gV (by decide +kernel) rfl) pa_nil))))))), ?_⟩
    refine ⟨_, rfl, _, .ref CT, decide (0 = n), rfl, (fun u r => r), ev.k.is (CT, decide (0 = n)) (by simp), ?_⟩
    refine ⟨_, rfl, _, .ref CN, decide (1 = n), rfl, (fun u r => r), ev.k.is (CN, decide (1 = n)) (by simp), ?_⟩
    refine ⟨_, rfl, _, .ref CM, decide (2 = n), rfl, (fun u r => r), ev.k.is (CM, decide (2 = n)) (by simp), ?_⟩
    refine ⟨(show 3 ≤ sizeLine by decide), fun l nl => ?_⟩
    obtain ⟨G1, e1, s1, hl⟩ := ab nl (.lst [V.bl (decide (0 = n)), V.bl (decide (1 = n)), V.bl (decide (2 = n))])
    rw [e1]
    have cmp : Al G1 [some (.ref a), some (.int (n : Nat)), some (.ref l), none] (tOp (rEqD K) (tVar 2) (fun σ H Q => tLc (iRng1 (tCons (tC (.int 3)) tNil)) (gName 3) tYes (tOp rEq (tVar 3) (tVar 1)) [3] σ H Q)) (Is (.bl true)) :=
      al_eqD (r := true) (al_dl (al_v rfl (stab_l _) ⟨l, rfl, hl⟩) rfl) (al_dl (ls_is (f := fun i => .bl (decide (i = n))) (al_lc (al_iR1 (j := 3) (al_ci _) (by decide) (by decide)) (fun _ _ _ _ h => h) (fun i G x hi sg hx =>
        ⟨[some (.ref a), some (.int (n : Nat)), some (.ref l), some x], rfl, fun k hk => hk, al_eq (al_v rfl (stab_is _) hx) (al_vi rfl) rfl (by
          by_cases h : i = n
          · rw [decide_eq_true (congrArg V.int (by omega)), decide_eq_true h]
          · rw [decide_eq_false (fun e => h (by have := V.int.inj e; omega)), decide_eq_false h])⟩) (by decide))) rfl) rfl rfl (by
        show PyData.eqv (.list [.bool (decide (0 = n)), .bool (decide (1 = n)), .bool (decide (2 = n))]) (.list [.bool (decide (0 = n)), .bool (decide (1 = n)), .bool (decide (2 = n))]) = true
        simp [PyData.eqv, PyData.eqvAll])
    refine cmp G1 _ (Same.refl _) fun G2 v2 s2 h2 => ?_
    refine ⟨true, h2, iteT ⟨_, rfl, _, .type "ValueError", true, rfl, (fun u r => r), ev.v, ?_⟩⟩
    exact k _ (s1.trans s2)
/-! ### the doors -/
def spDoor (Φ : Hp → V → Prop) (CE : Addr) : Sp := fun vs H Q E => ∃ (i : Int) (v : V), vs = [.int i, v] ∧ Φ H v ∧ ∀ H', Same H H' → E (.ref CE) none H'
theorem scWT : FnScope nLawWithText pLawWithText (defScope sLawWithText) := ⟨rfl, rfl, rfl, by decide +kernel, rfl, by decide +kernel, by decide +kernel⟩
theorem scWN : FnScope nLawWithNumber pLawWithNumber (defScope sLawWithNumber) := ⟨rfl, rfl, rfl, by decide +kernel, rfl, by decide +kernel, by decide +kernel⟩
theorem scWF : FnScope nLawWithFew pLawWithFew (defScope sLawWithFew) := ⟨rfl, rfl, rfl, by decide +kernel, rfl, by decide +kernel, by decide +kernel⟩
theorem scWM : FnScope nLawWithMany pLawWithMany (defScope sLawWithMany) := ⟨rfl, rfl, rfl, by decide +kernel, rfl, by decide +kernel, by decide +kernel⟩
theorem ok_wt (D : Dn K mg "_law_with_text" sLawWithText) (Wo : Kp P w K mg base (L2N.CX P w) 5 "worth" (spWorth K CT)) (On : Kp P w K mg base (L2N.CX P w) 5 "ones" (spOnes K CT)) : Kp P w K mg base (L2N.CX P w) 204 "_law_with_text" (spDoor BadQ CT) := by
  obtain ⟨f, fd, F, hm⟩ := D.ex
  refine ⟨f, fd, pLawWithText, (F.okN (k := 203) scWT (fun vs H Q E h => ?_) (fun cv A fr s H vs Q E hr h => ?_)), hm, F.kp, F.binds fun _ _ _ _ _ _ us hl => match us, hl with | [_, _], _ => rfl⟩
  · obtain ⟨i, v, rfl, _⟩ := h
    rfl
  · obtain ⟨i, v, rfl, hb, k⟩ := h
    refine ⟨_, pss_one (ps_ret (pe_ifExp (pt_cmpR op_eq (pv 0) pe_int (nomark _)) (pkS Wo (L2N.takes_of rfl rfl rfl rfl) hr (by decide) rfl (pa_cons (pv 1) pa_nil)) (pkS On (L2N.takes_of rfl rfl rfl rfl) hr (by decide) rfl (pa_cons (pv 1) pa_nil)))), ?_⟩
    refine ⟨_, rfl, rfl, _, rfl, ?_⟩
    by_cases c : V.int i = V.int 0
    · exact ifT (decide_eq_true c) ⟨_, rfl, v, rfl, hb.no k⟩
    · exact ifF (decide_eq_false c) ⟨_, rfl, v, rfl, hb.no k⟩
theorem ok_wn (D : Dn K mg "_law_with_number" sLawWithNumber) (Fe : Kp P w K mg base (L2N.CX P w) 3 "fewest" (spFewest K CN)) (Le : Kp P w K mg base (L2N.CX P w) 203 "least" (spLeast K CN C)) : Kp P w K mg base (L2N.CX P w) 204 "_law_with_number" (spDoor (BadN 200) CN) := by
  obtain ⟨f, fd, F, hm⟩ := D.ex
  refine ⟨f, fd, pLawWithNumber, (F.okN (k := 203) scWN (fun vs H Q E h => ?_) (fun cv A fr s H vs Q E hr h => ?_)), hm, F.kp, F.binds fun _ _ _ _ _ _ us hl => match us, hl with | [_, _], _ => rfl⟩
  · obtain ⟨i, v, rfl, _⟩ := h
    rfl
  · obtain ⟨i, v, rfl, hb, k⟩ := h
    refine ⟨_, pss_one (ps_ret (pe_ifExp (pt_cmpR op_eq (pv 0) pe_int (nomark _)) (pkS Fe (L2N.takes_of rfl rfl rfl rfl) hr (by decide) rfl (pa_cons (pv 1) pa_nil)) (pkS Le (L2N.takes_of rfl rfl rfl rfl) hr (by decide) rfl (pa_cons (pv 1) pa_nil)))), ?_⟩
    refine ⟨_, rfl, rfl, _, rfl, ?_⟩
    by_cases c : V.int i = V.int 0
    · exact ifT (decide_eq_true c) ⟨_, rfl, v, rfl, hb.ask (k H (Same.refl H))⟩
    · exact ifF (decide_eq_false c) ⟨_, rfl, v, rfl, hb.ask (k H (Same.refl H))⟩
theorem ok_wf (D : Dn K mg "_law_with_few" sLawWithFew) (Aw : Kp P w K mg base (L2N.CX P w) 3 "all_with" (spAllWith K CM)) : Kp P w K mg base (L2N.CX P w) 204 "_law_with_few" (spDoor (BadN 14) CM) := by
  obtain ⟨f, fd, F, hm⟩ := D.ex
  refine ⟨f, fd, pLawWithFew, (F.okN (k := 203) scWF (fun vs H Q E h => ?_) (fun cv A fr s H vs Q E hr h => ?_)), hm, F.kp, F.binds fun _ _ _ _ _ _ us hl => match us, hl with | [_, _], _ => rfl⟩
  · obtain ⟨i, v, rfl, _⟩ := h
    rfl
  · obtain ⟨i, v, rfl, hb, k⟩ := h
    exact ⟨_, pss_one (ps_ret (pkS Aw (L2N.takes_of rfl rfl rfl rfl) hr (by decide) rfl (pa_cons (pv 1) pa_nil))), _, rfl, v, rfl, hb.ask (k H (Same.refl H))⟩
theorem ok_wm (D : Dn K mg "_law_with_many" sLawWithMany) (Gr : Kp P w K mg base (L2N.CX P w) 3 "greatest" (spGreatest K CM)) : Kp P w K mg base (L2N.CX P w) 204 "_law_with_many" (spDoor (BadN 3000) CM) := by
  obtain ⟨f, fd, F, hm⟩ := D.ex
  refine ⟨f, fd, pLawWithMany, (F.okN (k := 203) scWM (fun vs H Q E h => ?_) (fun cv A fr s H vs Q E hr h => ?_)), hm, F.kp, F.binds fun _ _ _ _ _ _ us hl => match us, hl with | [_, _], _ => rfl⟩
  · obtain ⟨i, v, rfl, _⟩ := h
    rfl
  · obtain ⟨i, v, rfl, hb, k⟩ := h
    exact ⟨_, pss_one (ps_ret (pkS Gr (L2N.takes_of rfl rfl rfl rfl) hr (by decide) rfl (pa_cons (pv 1) pa_nil))), _, rfl, v, rfl, hb.ask (k H (Same.refl H))⟩
/-! ### _law_refused -/
/-- a door: the def f, what it refuses, the class, its number -/
structure Door (S : Addr → Sp → Prop) (CT CN CM f : Addr) (Φ : Hp → V → Prop) (d : Nat) : Prop where
  ex : ∃ CE, S f (spDoor Φ CE) ∧ Which6 CT CN CM CE d
def spR6 (S : Addr → Sp → Prop) (CT CN CM : Addr) : Sp := fun vs H Q _ => ∃ (g : Addr) (Φ : Hp → V → Prop) (i : Int) (v : V) (d : Nat), vs = [.ref g, .int i, v, .int (d : Nat)] ∧ Door S CT CN CM g Φ d ∧ Φ H v ∧ ∀ H', Same H H' → Q (.bl true) H'
theorem scR6 : FnScope nLawRefused pLawRefused (defScope sLawRefused) := ⟨rfl, rfl, rfl, by decide +kernel, rfl, by decide +kernel, by decide +kernel⟩
theorem ok_r6 {S : Addr → Sp → Prop} (D : Dn K mg "_law_refused" sLawRefused) (gO : mg "OnesError" = some (.ref CO)) (Al' : ∃ f fd ps, Fh P w K mg base 1 f fd ps (spAl K CO CT CN CM) ∧ mg "_law_alone" = some (.ref f) ∧ PySem.W.keepIn K (.ref f) = true ∧ Binds K fd ps [])
    (Ev : ∀ CE d, Which6 CT CN CM CE d → ErV K CO CT CN CM CE d) (ask : ∀ f sp, S f sp → Ka P w K mg base (L2N.CX P w) 204 f sp) : Kp P w K mg base CX0 205 "_law_refused" (spR6 S CT CN CM) := by
  obtain ⟨f, fd, F, hm⟩ := D.ex
  refine ⟨f, fd, pLawRefused, F.ok scR6 (fun vs H Q E h => ?_) (fun cv A fr s H vs Q E hr h => ?_), hm, F.kp, F.binds fun _ _ _ _ _ _ us hl => match us, hl with | [_, _, _, _], _ => rfl⟩
  · obtain ⟨g, Φ, i, v, d, rfl, _⟩ := h
    rfl
  · obtain ⟨g, Φ, i, v, d, rfl, ⟨CE, hS, hW⟩, hb, k⟩ := h
    have rh : ∀ (a : Addr), L2H.RoomH 1 ((A.deeper (envOfC "_law_refused" (defScope sLawRefused) s.heap.objs.size f cv)).mark (some (.ref a))) := fun a => ⟨(hr.mono (show 1 ≤ 204 by decide)).dp, (hr.mono (show 1 ≤ 204 by decide)).un⟩
    refine ⟨_, pss_cons (L2N.ps_try_as (i := 4) (tb := fun W => tDrop (tCallVS 0 S W (tCons (tVar 1) (tCons (tVar 2) tNil)))) (ts := fun a c d => tRet (fun σ H Q => (tCons (tVar 4) (tCons (tVar 3) tNil)) σ H fun vs H1 => spAl K CO CT CN CM a c d vs H1 Q E0)) (Wout := fun _ _ _ _ => False) rfl rfl scR6.nd rfl rfl ⟨rfl, by decide, Or.inl gO⟩ takes0N
        (fun W pn xe tk _ => pss_one (ps_expr (by exact (pkV ask tk hr (Nat.le_refl _) rfl (Or.inl rfl) (pa_cons (pv 1) (pa_cons (pv 2) pa_nil))))))
        (fun a oe c d pn hz hf => by exact (pss_one (ps_ret (pe_callE Al' (rh a) ⟨rfl, hf.elim fun ws e => ⟨ws, e, hz.2.2 ws e⟩⟩ List.mem_cons_self hz.zc hf rfl (pa_cons (pv 4) (pa_cons (pv 3) pa_nil)))))))
      (pss_one (ps_ret pe_bl)), ?_⟩
    have ev := Ev CE d hW
    refine ⟨g, _, rfl, hS, _, rfl, _, rfl, i, v, rfl, hb, fun H' s' => ?_⟩
    refine ⟨true, ev.k.up, fun _ a ha => ?_, fun q => Bool.noConfusion q⟩
    exact ⟨_, rfl, _, rfl, CE, d, rfl, rfl, rfl, ev, fun H2 s2 => k _ (s'.trans s2)⟩
end
end Fo
namespace Fo
open PySem L2 FO PySem.Spec PyProof.Rows
/-! ### texts that are none -/
theorem run_bad {t u : List Nat} {c : Nat} (hc : c ≠ 49 ∧ c ≠ 41 ∧ c ≠ 40 ∧ c ≠ 43 ∧ c ≠ 42) : worthL (t ++ c :: u) = 0 := worth_none (by
  rw [runS_append]
  cases h : runS [] t with
  | none => rfl
  | some S =>
    show runS S (c :: u) = none
    have : stepS S c = none := by
      unfold stepS
      rw [if_neg hc.1, if_neg hc.2.1, if_neg (by omega)]
    unfold runS
    rw [this])
theorem run_close (j : Nat) : worthL (tl ("(1+1)" : Str) ++ rep (j + 1) [41]) = 0 := worth_none (by
  rw [runS_append, show runS [] (tl ("(1+1)" : Str)) = some [.inl 2] by decide +kernel, rep_succ]
  rfl)
theorem run_ones : ∀ (n : Nat) (S : List Itm), runS S (rep n [49]) = some (List.replicate n (.inl 1) ++ S)
  | 0, S => rfl
  | n + 1, S => by
    rw [rep_succ]
    show runS (.inl 1 :: S) (rep n [49]) = _
    rw [run_ones n, List.replicate_succ']
    simp
theorem ones_bad (j : Nat) : worthL (rep (2 + j) [49]) = 0 := by
  unfold worthL
  split
  · unfold readL
    rw [run_ones, show 2 + j = j + 1 + 1 by omega, List.replicate_succ, List.replicate_succ]
    rfl
  · rfl
theorem log_small {c : Nat} (h : c < 10 ^ 60) : ((c : Nat) : Int).natAbs.log2 < 1920 := by
  rw [Int.natAbs_natCast]
  by_cases h0 : c = 0
  · subst h0
    decide
  · rw [Nat.log2_lt h0]
    exact Nat.lt_trans h (by decide +kernel)
section
variable {K : PySem.W.Frag} {H0 : Hp} {σ : L2.St} {a b c d : TE} {Φ : Hp → V → Prop}
theorem al_strI {i : Int} (h : Al H0 σ a (Is (.int i))) (hi : i.natAbs.log2 < 1920) : Al H0 σ (tCB (fun xs H Q => ∃ i : Int, xs = [V.int i] ∧ i.natAbs.log2 < 1920 ∧ Q (.str (toString i)) H) (tCons a tNil)) (IsT (tl (toString i : Str))) := fun H Q s k => h H _ s fun G v sG e => ⟨i, by rw [show v = _ from e], hi, k G _ sG ⟨_, rfl, rfl⟩⟩
theorem al_lenA {n : Nat} (h : Al H0 σ a (LsA n Φ)) : Al H0 σ (tCB (fun xs H Q => ∃ p ys, xs = [V.ref p] ∧ (SqL K H p ys ∨ SqT K H p ys) ∧ Q (.int ys.length) H) (tCons a tNil)) (Is (.int (n : Nat))) := fun H Q s k => h H _ s fun G v sG ⟨p, xs, e, hp, hn, _⟩ => ⟨p, xs, by rw [e], .inl (SqL.of hp), k G _ sG (by rw [hn]; rfl)⟩
theorem al_lenS {xs : List V} (h : Al H0 σ a (IsS K xs)) : Al H0 σ (tCB (fun xs H Q => ∃ p ys, xs = [V.ref p] ∧ (SqL K H p ys ∨ SqT K H p ys) ∧ Q (.int ys.length) H) (tCons a tNil)) (Is (.int (xs.length : Nat))) := fun H Q s k => h H _ s fun G v sG ⟨p, e, hp⟩ => ⟨p, xs, by rw [e], .inl hp, k G _ sG rfl⟩
theorem al_ixA {n : Nat} {z : Nat} (st : Stab Φ) (h : Al H0 σ a (LsA n Φ)) (g : Al H0 σ b (Is (.int (z : Nat)))) (hz : z < n) : Al H0 σ (tOp (rIxL K) a b) Φ := fun H Q s k => h H _ s fun G v sG ⟨p, xs, e, hp, hn, hx⟩ => g G _ (s.trans sG) fun G2 u sG2 hu => by
  have hlt : z < xs.length := by omega
  refine ⟨p, xs, _, xs[z], e, hu, SqL.of (sG2 _ _ hp), atI_nat (List.getElem?_eq_getElem hlt), k G2 _ (sG.trans sG2) (st _ _ _ sG2 (hx _ (List.getElem_mem hlt)))⟩
theorem al_iS {xs : List V} {n : Nat} (h : Al H0 σ a (IsS K xs)) (hn : xs.length = n) : AlI H0 σ (iList K a) n (fun i _ v => xs[i]? = some v) := fun H R s k => h H _ s fun G v sG ⟨p, e, hp⟩ => ⟨p, e, ⟨xs, hp⟩, k _ G sG (by
  subst hn
  exact walk_list.mono (fun H' s' => s'.seq hp) fun i H1 x H2 _ s' y => ⟨y.1, y.2⟩)⟩
theorem badQ {H0 : Hp} {σ : L2.St} {a : TE} (h : Al H0 σ a BadP) : Al H0 σ a BadQ := al_weak h fun _ _ z => .inl z
end
section
variable {X : Cx} {k j i : Nat} {x : Str} {p pos : Pos} {e : Expr} {es : List Expr} {t : TA}
/-- a name that holds a def which raises nothing -/
def tCallV0 (i : Nat) (S : Addr → Sp → Prop) (t : TA) : TE := fun σ H Q => ∃ f sp, σ[i]? = some (some (.ref f)) ∧ S f sp ∧ t σ H fun vs H1 => sp vs H1 Q E0
theorem pkV0 {S : Addr → Sp → Prop} (A : ∀ f sp, S f sp → Ka X.prog X.w X.K X.mg X.base CX0 k f sp) (hr : Room j X.A) (hk : k ≤ j) (hN : X.N[i]? = some x) (hv : Vis X.env.scope x) (ha : PA X (e :: es) t)
    (hdb : (x == ("__debug__" : Str)) = false := by decide) (hcd : (x == ("__classdict__" : Str)) = false := by decide) (he : starEach (e :: es) X.env = (false, eval e X.env) :: starEach es X.env := by rfl) (hpl : (backTo pos (starEach es X.env)).any (·.1) = false := by rfl) :
    PE X (.Call (.Name x p) (e :: es) [] pos) (tCallV0 i S t) := by
  refine ⟨fun pins s σ H Q I h => ?_⟩
  obtain ⟨f, sp, hs, hS, ht⟩ := h
  obtain ⟨fd, ps, F, kp, hb⟩ := (A f sp hS).ex
  refine wpAny_Call_Name_kw (thn ((pe_var (pos := p) hN hv hdb hcd).run pins s σ H (fun v H1 => v = .ref f ∧ H1 = H) I ⟨.ref f, hs, rfl, rfl⟩) fun u s1 back => ?_)
  obtain ⟨v, H1, I1, r1, ev, eH⟩ := back
  subst ev eH
  have eu : u = Value.ref f := r1
  subst eu
  refine PySem.W.callWith_K (h₀ := X.base) I.ok.mod.kin kp (thn (ha.run pos pins s1 σ _ _ I1 ht) fun us s2 back => ?_) he hpl
  obtain ⟨vs, H2, I2, r, q⟩ := back
  exact ⟨I2.kIn, run_fn F (hr.mono hk) hb .nil pass0 I2 r (by rw [List.append_nil]; exact q)⟩
end
section
variable {P : Program} {w : World} {K : PySem.W.Frag} {mg : Str → Option Value} {base : Heap} {C CO CT CN CM : Addr}
/-- a list of n things with Φ, by a number -/
def spList (Φ : Hp → V → Prop) (n : Nat) : Sp := fun vs H Q _ => ∃ c : Nat, vs = [.int (c : Nat)] ∧ c < 10 ^ 60 ∧ ∀ H' v, Same H H' → LsA n Φ H' v → Q v H'
theorem scNT : FnScope nLawNoTexts pLawNoTexts (defScope sLawNoTexts) := ⟨rfl, rfl, rfl, by decide +kernel, rfl, by decide +kernel, by decide +kernel⟩
theorem scNN : FnScope nLawNoNumbers pLawNoNumbers (defScope sLawNoNumbers) := ⟨rfl, rfl, rfl, by decide +kernel, rfl, by decide +kernel, by decide +kernel⟩
theorem scNF : FnScope nLawNoFew pLawNoFew (defScope sLawNoFew) := ⟨rfl, rfl, rfl, by decide +kernel, rfl, by decide +kernel, by decide +kernel⟩
theorem scNM : FnScope nLawNoMany pLawNoMany (defScope sLawNoMany) := ⟨rfl, rfl, rfl, by decide +kernel, rfl, by decide +kernel, by decide +kernel⟩
theorem ok_nt (D : Dn K mg "_law_no_texts" sLawNoTexts) (B : Bi mg) : Kp P w K mg base CX0 1 "_law_no_texts" (spList BadQ 33) := by
  obtain ⟨f, fd, F, hm⟩ := D.ex
  refine ⟨f, fd, pLawNoTexts, F.ok scNT (fun vs H Q E h => ?_) (fun cv A fr s H vs Q E hr h => ?_), hm, F.kp, F.binds fun _ _ _ _ _ _ us hl => match us, hl with | [_], _ => rfl⟩
  · obtain ⟨c, rfl, _⟩ := h
    rfl
  · obtain ⟨c, rfl, hc, k⟩ := h
    refine ⟨_, (pss_cons (ps_set (i := 1) scNT.nd rfl (Or.inl rfl) (pe_op op_add_str (pe_op op_add_str (pe_op op_mulS pe_str (pe_op op_add pe_int (pe_op op_mod (pv 0) pe_int))) pe_str) (pe_op op_mulS pe_str (pe_op op_add pe_int (pe_op op_mod (pv 0) pe_int)))))
  (pss_cons (ps_set (i := 2) scNT.nd rfl (Or.inl rfl) (pe_op op_add_str (pe_op op_add_str (pe_op op_add_str (pe_op op_add_str pe_str (pv 1)) pe_str) (pv 1)) pe_str))
  (pss_cons (ps_set (i := 3) scNT.nd rfl (Or.inl rfl) (pe_lst (pa_cons pe_non (pa_cons pe_int (pa_cons pe_bl (pa_cons (pe_lst (pa_cons pe_str pa_nil)) (pa_cons (pe_tup (pa_cons pe_str pa_nil)) (pa_cons pe_dnewK (pa_cons pe_str (pa_cons pe_str (pa_cons pe_str (pa_cons pe_str (pa_cons pe_str (pa_cons pe_str (pa_cons pe_str (pa_cons pe_str (pa_cons pe_str (pa_cons pe_str (pa_cons pe_str pa_nil)))))))))))))))))))
  (pss_cons (ps_set (i := 3) scNT.nd rfl (Or.inl rfl) (pe_op op_cat (pv 3) (pe_lst (pa_cons pe_str (pa_cons pe_str pa_nil)))))
  (pss_cons (ps_set (i := 3) scNT.nd rfl (Or.inl rfl) (pe_op op_cat (pv 3) (pe_lst (pa_cons pe_str (pa_cons pe_str (pa_cons pe_str (pa_cons pe_str (pa_cons pe_str (pa_cons pe_str (pa_cons pe_str (pa_cons pe_str (pa_cons pe_str (pa_cons pe_str pa_nil)))))))))))))
  (pss_one (ps_ret (pe_op op_cat (pv 3) (pe_lst (pa_cons (pv 2) (pa_cons (pe_op op_add_str pe_str (pe_op op_mulS pe_str (pe_op op_add (pe_op op_mod (pv 0) pe_int) pe_int))) (pa_cons (pe_op op_add_str (pe_op op_add_str pe_str (pe_callTy call_str_int (by rfl) B.str (by decide +kernel) (pa_cons (pv 0) pa_nil))) pe_str) (pa_cons (pe_op op_mulS pe_str (pe_op op_add pe_int (pe_op op_mod (pv 0) pe_int))) pa_nil))))))))))))), ?_⟩
    have big : (16777216 : Nat) = sizeLine := PySem.sizeLine_eq.symm
    have m9 := Nat.mod_lt c (show 0 < 9 by decide)
    have m50 := Nat.mod_lt c (show 0 < 50 by decide)
    obtain ⟨j, hj⟩ : ∃ j, 252 + c % 9 = j := ⟨_, rfl⟩
    have alj : ∀ (G : Hp) (σ : L2.St), σ[0]? = some (some (.int (c : Nat))) → Al G σ (tOp (rI0 fun i j => .int (i + j)) (tC (.int 252)) (tOp (rI (fun _ j => 0 < j) fun i j => .int (i % j)) (tVar 0) (tC (.int 9)))) (Is (.int (j : Nat))) := fun G σ h0 => by
      rw [← hj]
      exact al_addN (n := 252) (al_ci _) (al_modN (k := 9) (al_vi h0) (al_ci _) (by decide))
    refine st_setN (fun v => [some (.int (c : Nat)), some v, none, none]) (fun _ => rfl) (al_deep (n := j) (m := j) (al_ct _) (alj _ _ rfl) (al_ct _) (al_ct _) (alj _ _ rfl) (by decide +kernel) (by decide +kernel) (by decide +kernel) (by omega) (by omega)) fun G1 v1 s1 ⟨z1, e1, et1⟩ => ?_
    subst e1
    have l1 : (tl z1).length = 4 * j + 1 := by
      rw [et1, List.length_append, List.length_append, rep_len, rep_len, tl1.1, tl1.2.2.1, tl1.2.2.2.1]
      simp only [List.length_cons, List.length_nil]
      omega
    refine st_setN (fun v => [some (.int (c : Nat)), some (.str z1), some v, none]) (fun _ => rfl) (al_cat (al_cat (al_cat (al_cat (al_ct _) (al_vt rfl rfl) ?_) (al_ct _) ?_) (al_vt rfl rfl) ?_) (al_ct _) ?_) fun G2 v2 s2 ⟨z2, e2, et2⟩ => ?_
    · rw [tl1.1, ← big]; simp only [List.length_append, List.length_cons, List.length_nil]; omega
    · rw [tl1.1, tl1.2.2.2.2.2.2, ← big]; simp only [List.length_append, List.length_cons, List.length_nil]; omega
    · rw [tl1.1, tl1.2.2.2.2.2.2, ← big]; simp only [List.length_append, List.length_cons, List.length_nil]; omega
    · rw [tl1.1, tl1.2.1, tl1.2.2.2.2.2.2, ← big]; simp only [List.length_append, List.length_cons, List.length_nil]; omega
    subst e2
    have l2 : 2000 < (tl z2).length ∧ (tl z2).length ≤ 100000 := by
      rw [et2, tl1.1, tl1.2.1, tl1.2.2.2.2.2.2]
      simp only [List.length_append, List.length_cons, List.length_nil]
      omega
    refine st_setN (fun v => [some (.int (c : Nat)), some (.str z1), some (.str z2), some v]) (fun _ => rfl) (al_lst (n := 17) stab_badQ (al_cons stab_badQ (badQ (al_c fun _ => .inr (.inl rfl))) (al_cons stab_badQ (badQ (al_c fun _ => .inr (.inr (.inl ⟨_, rfl⟩)))) (al_cons stab_badQ (badQ (al_c fun _ => .inr (.inr (.inr (.inl ⟨_, rfl⟩))))) (al_cons stab_badQ (badQ (al_weak (al_xlst (al_xcons (al_ci _) al_xnil) (by decide)) fun H v ⟨p, e, h⟩ => .inr (.inr (.inr (.inr (.inl ⟨p, _, e, h⟩)))))) (al_cons stab_badQ (al_weak (al_xtup (n := 1) (Φ := fun _ _ _ => True) (al_xcons (al_ci _) al_xnil) (by decide) rfl (fun _ _ _ _ => trivial)) fun H v ⟨p, xs, e, h, _⟩ => .inr ⟨p, xs, e, h⟩) (al_cons stab_badQ (badQ al_dnew) (al_cons stab_badQ (badQ (bad_t (al_ct _) ⟨by decide +kernel, by decide +kernel⟩)) (al_cons stab_badQ (badQ (bad_t (al_ct _) ⟨by decide +kernel, by decide +kernel⟩)) (al_cons stab_badQ (badQ (bad_t (al_ct _) ⟨by decide +kernel, by decide +kernel⟩)) (al_cons stab_badQ (badQ (bad_t (al_ct _) ⟨by decide +kernel, by decide +kernel⟩)) (al_cons stab_badQ (badQ (bad_t (al_ct _) ⟨by decide +kernel, by decide +kernel⟩)) (al_cons stab_badQ (badQ (bad_t (al_ct _) ⟨by decide +kernel, by decide +kernel⟩)) (al_cons stab_badQ (badQ (bad_t (al_ct _) ⟨by decide +kernel, by decide +kernel⟩)) (al_cons stab_badQ (badQ (bad_t (al_ct _) ⟨by decide +kernel, by decide +kernel⟩)) (al_cons stab_badQ (badQ (bad_t (al_ct _) ⟨by decide +kernel, by decide +kernel⟩)) (al_cons stab_badQ (badQ (bad_t (al_ct _) ⟨by decide +kernel, by decide +kernel⟩)) (al_cons stab_badQ (badQ (bad_t (al_ct _) ⟨by decide +kernel, by decide +kernel⟩)) al_nil))))))))))))))))) (by decide)) fun G3 v3 s3 h3 => ?_
    refine st_setN (fun v => [some (.int (c : Nat)), some (.str z1), some (.str z2), some v]) (fun _ => rfl) (al_catL (n := 17) (m := 2) stab_badQ (al_v rfl (stab_ls stab_badQ) h3) (al_lst stab_badQ (al_cons stab_badQ (badQ (bad_t (al_ct _) ⟨by decide +kernel, by decide +kernel⟩)) (al_cons stab_badQ (badQ (bad_t (al_ct _) ⟨by decide +kernel, by decide +kernel⟩)) al_nil)) (by decide)) (by decide)) fun G4 v4 s4 h4 => ?_
    refine st_setN (fun v => [some (.int (c : Nat)), some (.str z1), some (.str z2), some v]) (fun _ => rfl) (al_catL (n := 19) (m := 10) stab_badQ (al_v rfl (stab_ls stab_badQ) h4) (al_lst stab_badQ (al_cons stab_badQ (badQ (bad_t (al_ct _) ⟨by decide +kernel, by decide +kernel⟩)) (al_cons stab_badQ (badQ (bad_t (al_ct _) ⟨by decide +kernel, by decide +kernel⟩)) (al_cons stab_badQ (badQ (bad_t (al_ct _) ⟨by decide +kernel, by decide +kernel⟩)) (al_cons stab_badQ (badQ (bad_t (al_ct _) ⟨by decide +kernel, by decide +kernel⟩)) (al_cons stab_badQ (badQ (bad_t (al_ct _) ⟨by decide +kernel, by decide +kernel⟩)) (al_cons stab_badQ (badQ (bad_t (al_ct _) ⟨by decide +kernel, by decide +kernel⟩)) (al_cons stab_badQ (badQ (bad_t (al_ct _) ⟨by decide +kernel, by decide +kernel⟩)) (al_cons stab_badQ (badQ (bad_t (al_ct _) ⟨by decide +kernel, by decide +kernel⟩)) (al_cons stab_badQ (badQ (bad_t (al_ct _) ⟨by decide +kernel, by decide +kernel⟩)) (al_cons stab_badQ (badQ (bad_t (al_ct _) ⟨by decide +kernel, by decide +kernel⟩)) al_nil)))))))))) (by decide)) (by decide)) fun G5 v5 s5 h5 => ?_
    have ls := int_text_len_1921 (log_small hc)
    have lsT : (tl (toString ((c : Nat) : Int) : Str)).length ≤ 1921 := by rw [← lenT]; exact ls
    refine st_ret (al_catL (n := 29) (m := 4) stab_badQ (al_v rfl (stab_ls stab_badQ) h5) (al_lst stab_badQ (al_cons stab_badQ (badQ (bad_t (al_vt rfl rfl) ⟨l2.2, by unfold worthL; rw [if_neg (by omega)]⟩))
      (al_cons stab_badQ (badQ (bad_t (al_cat (al_ct _) (al_rep (n := c % 50 + 1) (al_ct _) (al_addN (k := 1) (al_modN (k := 50) (al_vi rfl) (al_ci _) (by decide)) (al_ci _)) (by omega) ?_) ?_) ⟨?_, ?_⟩))
      (al_cons stab_badQ (badQ (bad_t (al_cat (al_cat (al_ct _) (al_strI (al_vi rfl) (log_small hc)) ?_) (al_ct _) ?_) ⟨?_, ?_⟩))
      (al_cons stab_badQ (badQ (bad_t (al_rep (n := 2 + c % 50) (al_ct _) (al_addN (n := 2) (al_ci _) (al_modN (k := 50) (al_vi rfl) (al_ci _) (by decide))) (by omega) ?_) ⟨?_, ?_⟩)) al_nil)))) (by decide)) (by decide)) fun G6 v6 s6 h6 => ?_
    · rw [tl1.2.1, ← big]; simp only [List.length_cons, List.length_nil]; omega
    · rw [tl1.2.1, tl2.1, rep_len, ← big]; simp only [List.length_cons, List.length_nil]; omega
    · rw [tl1.2.1, tl2.1, List.length_append, rep_len]; simp only [List.length_cons, List.length_nil]; omega
    · rw [tl1.2.1]; exact run_close _
    · rw [tl1.2.2.2.2.1, ← big]; simp only [List.length_cons, List.length_nil]; omega
    · rw [tl1.2.2.2.2.1, tl7, List.length_append, ← big]; simp only [List.length_cons, List.length_nil]; omega
    · rw [tl1.2.2.2.2.1, tl7, List.length_append, List.length_append]; simp only [List.length_cons, List.length_nil]; omega
    · rw [tl7]; exact run_bad (by decide)
    · rw [tl1.2.2.1, ← big]; simp only [List.length_cons, List.length_nil]; omega
    · rw [tl1.2.2.1, rep_len]; simp only [List.length_cons, List.length_nil]; omega
    · rw [tl1.2.2.1]; exact ones_bad _
    exact k _ v6 (((((s1.trans s2).trans s3).trans s4).trans s5).trans s6) h6
theorem ok_nn (D : Dn K mg "_law_no_numbers" sLawNoNumbers) : Kp P w K mg base CX0 1 "_law_no_numbers" (spList (BadN 200) 12) := by
  obtain ⟨f, fd, F, hm⟩ := D.ex
  refine ⟨f, fd, pLawNoNumbers, F.ok scNN (fun vs H Q E h => ?_) (fun cv A fr s H vs Q E hr h => ?_), hm, F.kp, F.binds fun _ _ _ _ _ _ us hl => match us, hl with | [_], _ => rfl⟩
  · obtain ⟨c, rfl, _⟩ := h
    rfl
  · obtain ⟨c, rfl, hc, k⟩ := h
    refine ⟨_, (pss_one (ps_ret (pe_lst (pa_cons pe_non (pa_cons pe_int (pa_cons (pe_un un_neg pe_int) (pa_cons (pe_op op_sub (pe_un un_neg pe_int) (pv 0)) (pa_cons pe_int (pa_cons (pe_op op_add pe_int (pv 0)) (pa_cons pe_bl (pa_cons pe_bl (pa_cons pe_str (pa_cons (pe_lst (pa_cons pe_int pa_nil)) (pa_cons (pe_tup (pa_cons pe_int pa_nil)) (pa_cons pe_dnewK pa_nil))))))))))))))), ?_⟩
    exact st_ret (al_lst (n := 12) (stab_badN 200) (al_cons (stab_badN 200) (al_c fun _ => .inr (.inl rfl)) (al_cons (stab_badN 200) (al_c fun _ => .inl ⟨_, rfl, by decide⟩) (al_cons (stab_badN 200) (al_weak (al_neg (al_ci _)) fun _ _ e => .inl ⟨_, e, by decide⟩) (al_cons (stab_badN 200) (al_weak (al_i0 (al_neg (al_ci _)) (al_vi rfl)) fun _ _ e => .inl ⟨_, e, by omega⟩) (al_cons (stab_badN 200) (al_c fun _ => .inl ⟨_, rfl, by decide⟩) (al_cons (stab_badN 200) (al_weak (al_i0 (al_ci _) (al_vi rfl)) fun _ _ e => .inl ⟨_, e, by omega⟩) (al_cons (stab_badN 200) (al_c fun _ => .inr (.inr (.inr (.inl ⟨_, rfl⟩)))) (al_cons (stab_badN 200) (al_c fun _ => .inr (.inr (.inr (.inl ⟨_, rfl⟩)))) (al_cons (stab_badN 200) (al_c fun _ => .inr (.inr (.inl ⟨_, rfl⟩))) (al_cons (stab_badN 200) (al_weak (al_xlst (al_xcons (al_ci _) al_xnil) (by decide)) fun H v ⟨p, e, h⟩ => .inr (.inr (.inr (.inr (.inl ⟨p, _, e, h⟩))))) (al_cons (stab_badN 200) (al_weak (al_xtup (n := 1) (Φ := fun _ _ _ => True) (al_xcons (al_ci _) al_xnil) (by decide) rfl (fun _ _ _ _ => trivial)) fun H v ⟨p, xs, e, h, _⟩ => .inr (.inr (.inr (.inr (.inr (.inl ⟨p, xs, e, h⟩)))))) (al_cons (stab_badN 200) (fun H Q s k p np => k _ _ (sm_upd np) (.inr (.inr (.inr (.inr (.inr (.inr ⟨p, [], rfl, upd_same⟩))))))) al_nil)))))))))))) (by decide)) fun G v s h => k G v s h
theorem ok_nf (D : Dn K mg "_law_no_few" sLawNoFew) : Kp P w K mg base CX0 1 "_law_no_few" (spList (BadN 14) 12) := by
  obtain ⟨f, fd, F, hm⟩ := D.ex
  refine ⟨f, fd, pLawNoFew, F.ok scNF (fun vs H Q E h => ?_) (fun cv A fr s H vs Q E hr h => ?_), hm, F.kp, F.binds fun _ _ _ _ _ _ us hl => match us, hl with | [_], _ => rfl⟩
  · obtain ⟨c, rfl, _⟩ := h
    rfl
  · obtain ⟨c, rfl, hc, k⟩ := h
    refine ⟨_, (pss_one (ps_ret (pe_lst (pa_cons pe_non (pa_cons pe_int (pa_cons (pe_un un_neg pe_int) (pa_cons (pe_op op_sub (pe_un un_neg pe_int) (pv 0)) (pa_cons pe_int (pa_cons (pe_op op_add pe_int (pv 0)) (pa_cons pe_bl (pa_cons pe_bl (pa_cons pe_str (pa_cons (pe_lst (pa_cons pe_int pa_nil)) (pa_cons (pe_tup (pa_cons pe_int pa_nil)) (pa_cons pe_dnewK pa_nil))))))))))))))), ?_⟩
    exact st_ret (al_lst (n := 12) (stab_badN 14) (al_cons (stab_badN 14) (al_c fun _ => .inr (.inl rfl)) (al_cons (stab_badN 14) (al_c fun _ => .inl ⟨_, rfl, by decide⟩) (al_cons (stab_badN 14) (al_weak (al_neg (al_ci _)) fun _ _ e => .inl ⟨_, e, by decide⟩) (al_cons (stab_badN 14) (al_weak (al_i0 (al_neg (al_ci _)) (al_vi rfl)) fun _ _ e => .inl ⟨_, e, by omega⟩) (al_cons (stab_badN 14) (al_c fun _ => .inl ⟨_, rfl, by decide⟩) (al_cons (stab_badN 14) (al_weak (al_i0 (al_ci _) (al_vi rfl)) fun _ _ e => .inl ⟨_, e, by omega⟩) (al_cons (stab_badN 14) (al_c fun _ => .inr (.inr (.inr (.inl ⟨_, rfl⟩)))) (al_cons (stab_badN 14) (al_c fun _ => .inr (.inr (.inr (.inl ⟨_, rfl⟩)))) (al_cons (stab_badN 14) (al_c fun _ => .inr (.inr (.inl ⟨_, rfl⟩))) (al_cons (stab_badN 14) (al_weak (al_xlst (al_xcons (al_ci _) al_xnil) (by decide)) fun H v ⟨p, e, h⟩ => .inr (.inr (.inr (.inr (.inl ⟨p, _, e, h⟩))))) (al_cons (stab_badN 14) (al_weak (al_xtup (n := 1) (Φ := fun _ _ _ => True) (al_xcons (al_ci _) al_xnil) (by decide) rfl (fun _ _ _ _ => trivial)) fun H v ⟨p, xs, e, h, _⟩ => .inr (.inr (.inr (.inr (.inr (.inl ⟨p, xs, e, h⟩)))))) (al_cons (stab_badN 14) (fun H Q s k p np => k _ _ (sm_upd np) (.inr (.inr (.inr (.inr (.inr (.inr ⟨p, [], rfl, upd_same⟩))))))) al_nil)))))))))))) (by decide)) fun G v s h => k G v s h
theorem ok_nm (D : Dn K mg "_law_no_many" sLawNoMany) : Kp P w K mg base CX0 1 "_law_no_many" (spList (BadN 3000) 12) := by
  obtain ⟨f, fd, F, hm⟩ := D.ex
  refine ⟨f, fd, pLawNoMany, F.ok scNM (fun vs H Q E h => ?_) (fun cv A fr s H vs Q E hr h => ?_), hm, F.kp, F.binds fun _ _ _ _ _ _ us hl => match us, hl with | [_], _ => rfl⟩
  · obtain ⟨c, rfl, _⟩ := h
    rfl
  · obtain ⟨c, rfl, hc, k⟩ := h
    refine ⟨_, (pss_one (ps_ret (pe_lst (pa_cons pe_non (pa_cons pe_int (pa_cons (pe_un un_neg pe_int) (pa_cons (pe_op op_sub (pe_un un_neg pe_int) (pv 0)) (pa_cons pe_int (pa_cons (pe_op op_add pe_int (pv 0)) (pa_cons pe_bl (pa_cons pe_bl (pa_cons pe_str (pa_cons (pe_lst (pa_cons pe_int pa_nil)) (pa_cons (pe_tup (pa_cons pe_int pa_nil)) (pa_cons pe_dnewK pa_nil))))))))))))))), ?_⟩
    exact st_ret (al_lst (n := 12) (stab_badN 3000) (al_cons (stab_badN 3000) (al_c fun _ => .inr (.inl rfl)) (al_cons (stab_badN 3000) (al_c fun _ => .inl ⟨_, rfl, by decide⟩) (al_cons (stab_badN 3000) (al_weak (al_neg (al_ci _)) fun _ _ e => .inl ⟨_, e, by decide⟩) (al_cons (stab_badN 3000) (al_weak (al_i0 (al_neg (al_ci _)) (al_vi rfl)) fun _ _ e => .inl ⟨_, e, by omega⟩) (al_cons (stab_badN 3000) (al_c fun _ => .inl ⟨_, rfl, by decide⟩) (al_cons (stab_badN 3000) (al_weak (al_i0 (al_ci _) (al_vi rfl)) fun _ _ e => .inl ⟨_, e, by omega⟩) (al_cons (stab_badN 3000) (al_c fun _ => .inr (.inr (.inr (.inl ⟨_, rfl⟩)))) (al_cons (stab_badN 3000) (al_c fun _ => .inr (.inr (.inr (.inl ⟨_, rfl⟩)))) (al_cons (stab_badN 3000) (al_c fun _ => .inr (.inr (.inl ⟨_, rfl⟩))) (al_cons (stab_badN 3000) (al_weak (al_xlst (al_xcons (al_ci _) al_xnil) (by decide)) fun H v ⟨p, e, h⟩ => .inr (.inr (.inr (.inr (.inl ⟨p, _, e, h⟩))))) (al_cons (stab_badN 3000) (al_weak (al_xtup (n := 1) (Φ := fun _ _ _ => True) (al_xcons (al_ci _) al_xnil) (by decide) rfl (fun _ _ _ _ => trivial)) fun H v ⟨p, xs, e, h, _⟩ => .inr (.inr (.inr (.inr (.inr (.inl ⟨p, xs, e, h⟩)))))) (al_cons (stab_badN 3000) (fun H Q s k p np => k _ _ (sm_upd np) (.inr (.inr (.inr (.inr (.inr (.inr ⟨p, [], rfl, upd_same⟩))))))) al_nil)))))))))))) (by decide)) fun G v s h => k G v s h

end
end Fo
namespace Fo
open PySem L2 FO PySem.Spec PyProof.Rows
section
variable {P : Program} {w : World} {K : PySem.W.Frag} {mg : Str → Option Value} {base : Heap} {C CO CT CN CM fT fN fF fM gT gN gF gM : Addr} {S Z : Addr → Sp → Prop}
theorem al_r6 {H0 : Hp} {σ : L2.St} {a b c d : TE} {Φ : Hp → V → Prop} {g : Addr} {i : Int} {n : Nat} (st : Stab Φ) (dr : Door S CT CN CM g Φ n) (h1 : Al H0 σ a (Is (.ref g))) (h2 : Al H0 σ b (Is (.int i))) (h3 : Al H0 σ c Φ) (h4 : Al H0 σ d (Is (.int (n : Nat)))) : Al H0 σ (tCall (spR6 S CT CN CM) [] E0 (tCons a (tCons b (tCons c (tCons d tNil))))) (Is (.bl true)) :=
  fun H Q s k => h1 H _ s fun G1 v1 s1 e1 => h2 G1 _ (s.trans s1) fun G2 v2 s2 e2 => h3 G2 _ ((s.trans s1).trans s2) fun G3 v3 s3 e3 => h4 G3 _ (((s.trans s1).trans s2).trans s3) fun G4 v4 s4 e4 =>
    ⟨g, Φ, i, v3, n, by rw [show v1 = _ from e1, show v2 = _ from e2, show v4 = _ from e4]; rfl, dr, st _ _ _ s4 e3, fun H' s' => k H' _ ((((s1.trans s2).trans s3).trans s4).trans s') rfl⟩
theorem al_things {H0 : Hp} {σ : L2.St} {a : TE} {Φ : Hp → V → Prop} {n i c : Nat} {f : Addr} (hz : Z f (spList Φ n)) (hs : σ[i]? = some (some (.ref f))) (h : Al H0 σ a (Is (.int (c : Nat)))) (hc : c < 10 ^ 60) : Al H0 σ (tCallV0 i Z (tCons a tNil)) (LsA n Φ) :=
  fun H Q s k => ⟨f, _, hs, hz, h H _ s fun G v sG e => ⟨c, by rw [show v = _ from e], hc, fun H' v' s' hl => k H' v' (sG.trans s') hl⟩⟩
/-- a kind: a door, how many, its things, the class's number -/
def KindP (S Z : Addr → Sp → Prop) (CT CN CM : Addr) : Hp → V → Prop := fun H v => ∃ (T g q : Addr) (m d n : Nat) (Φ : Hp → V → Prop), v = .ref T ∧ H T = some (.tup [.ref g, .int (m : Nat), .ref q, .int (d : Nat)]) ∧ Door S CT CN CM g Φ d ∧ Z q (spList Φ n) ∧ Stab Φ ∧ 1 ≤ m ∧ m ≤ 2 ∧ 1 ≤ n ∧ n ≤ 100
theorem stab_kind : Stab (KindP S Z CT CN CM) := fun _ _ _ s ⟨T, g, q, m, d, n, Φ, e, h, r⟩ => ⟨T, g, q, m, d, n, Φ, e, s _ _ h, r⟩
theorem al_kind {H0 : Hp} {σ : L2.St} {a b c e : TE} {g q : Addr} {m d n : Nat} {Φ : Hp → V → Prop} (h1 : Al H0 σ a (Is (.ref g))) (h2 : Al H0 σ b (Is (.int (m : Nat)))) (h3 : Al H0 σ c (Is (.ref q))) (h4 : Al H0 σ e (Is (.int (d : Nat)))) (dr : Door S CT CN CM g Φ d) (z : Z q (spList Φ n)) (st : Stab Φ) (hm : 1 ≤ m ∧ m ≤ 2 ∧ 1 ≤ n ∧ n ≤ 100) :
    Al H0 σ (tTup (tCons a (tCons b (tCons c (tCons e tNil))))) (KindP S Z CT CN CM) := fun H Q s k => h1 H _ s fun G1 v1 s1 e1 => h2 G1 _ (s.trans s1) fun G2 v2 s2 e2 => h3 G2 _ ((s.trans s1).trans s2) fun G3 v3 s3 e3 => h4 G3 _ (((s.trans s1).trans s2).trans s3) fun G4 v4 s4 e4 =>
    ⟨(show 4 ≤ sizeLine by decide), fun T nT => k _ _ (sm_new (((s1.trans s2).trans s3).trans s4) nT) ⟨T, g, q, m, d, n, Φ, rfl, by rw [upd_same, show v1 = _ from e1, show v2 = _ from e2, show v3 = _ from e3, show v4 = _ from e4], dr, z, st, hm⟩⟩
theorem scLaw : FnScope nLaw pLaw (defScope sLaw) := ⟨rfl, rfl, rfl, by decide +kernel, rfl, by decide +kernel, by decide +kernel⟩
theorem fn_law {f : Addr} {fd : FuncData} (F' : Fun K "law" "law" sLaw f fd) (B : Bi mg) (mT : mg "_law_with_text" = some (.ref fT)) (mN : mg "_law_with_number" = some (.ref fN)) (mF : mg "_law_with_few" = some (.ref fF)) (mM : mg "_law_with_many" = some (.ref fM))
    (nT : mg "_law_no_texts" = some (.ref gT)) (nN : mg "_law_no_numbers" = some (.ref gN)) (nF : mg "_law_no_few" = some (.ref gF)) (nM : mg "_law_no_many" = some (.ref gM))
    (dT : Door S CT CN CM fT BadQ 0) (dN : Door S CT CN CM fN (BadN 200) 1) (dF : Door S CT CN CM fF (BadN 14) 2) (dM : Door S CT CN CM fM (BadN 3000) 2) (zT : Z gT (spList BadQ 33)) (zN : Z gN (spList (BadN 200) 12)) (zF : Z gF (spList (BadN 14) 12)) (zM : Z gM (spList (BadN 3000) 12))
    (Zk : ∀ f sp, Z f sp → Ka P w K mg base CX0 1 f sp) (R6 : Kp P w K mg base CX0 205 "_law_refused" (spR6 S CT CN CM)) (Wo : Kp P w K mg base (L2N.CX P w) 5 "worth" (spWorth K CT)) (On : Kp P w K mg base (L2N.CX P w) 5 "ones" (spOnes K CT)) (Fe : Kp P w K mg base (L2N.CX P w) 3 "fewest" (spFewest K CN)) : FnOk P w K mg base CX0 206 f fd pLaw (spLaw K) := by
  refine F'.ok scLaw (fun vs H Q E h => ?_) (fun cdv A outer s H vs Q E hr h => ?_)
  · obtain ⟨a, ns, rfl, _⟩ := h
    rfl
  · obtain ⟨a, ns, rfl, hS, hlen, hbits, k⟩ := h
    refine ⟨_, (pss_cons (ps_set (i := 1) scLaw.nd rfl (Or.inl rfl) (pe_lst (pa_cons (pe_tup (pa_cons (pe_glob (v := .ref fT) rfl mT rfl) (pa_cons pe_int (pa_cons (pe_glob (v := .ref gT) rfl nT rfl) (pa_cons pe_int pa_nil))))) (pa_cons (pe_tup (pa_cons (pe_glob (v := .ref fN) rfl mN rfl) (pa_cons pe_int (pa_cons (pe_glob (v := .ref gN) rfl nN rfl) (pa_cons pe_int pa_nil))))) pa_nil))))
  (pss_cons (ps_set (i := 1) scLaw.nd rfl (Or.inl rfl) (pe_op op_cat (pv 1) (pe_lst (pa_cons (pe_tup (pa_cons (pe_glob (v := .ref fF) rfl mF rfl) (pa_cons pe_int (pa_cons (pe_glob (v := .ref gF) rfl nF rfl) (pa_cons pe_int pa_nil))))) (pa_cons (pe_tup (pa_cons (pe_glob (v := .ref fM) rfl mM rfl) (pa_cons pe_int (pa_cons (pe_glob (v := .ref gM) rfl nM rfl) (pa_cons pe_int pa_nil))))) pa_nil)))))
  (pss_cons (ps_for PassesOwn.never rfl (pi_list (pv 1)) (pg_tup rfl (pgs_cons (pg_name (i := 2) scLaw.nd rfl (Or.inr rfl)) (pgs_cons (pg_name (i := 3) scLaw.nd rfl (Or.inl rfl)) (pgs_cons (pg_name (i := 4) scLaw.nd rfl (Or.inl rfl)) (pgs_cons (pg_name (i := 5) scLaw.nd rfl (Or.inr rfl)) pgs_nil)))))
  (pss_cons (ps_for PassesOwn.never rfl (pi_range1 (by rfl) B.range (pa_cons (pv 3) pa_nil)) (pg_name (i := 6) scLaw.nd rfl (Or.inr rfl))
  (pss_one (ps_if (pt_not (pt_val (pe_callB (cr_all rfl) (by rfl) B.all (by decide +kernel) (pa_cons (pe_lc (own := [("_law_thing", 11)]) (g := gName 11) (tt := tYes) rfl scLaw.nd (pi_list (pkV0 (i := 4) Zk hr (by decide) rfl (Or.inl rfl) (pa_cons (pe_callB call_len_seq (by rfl) B.len PySem.boot_len (pa_cons (pv 0) pa_nil)) pa_nil))) (blkOk_by (own := [("_law_thing", 11)]) (N := nLaw) (sc := defScope sLaw) (by decide +kernel)) (fun _ _ _ _ _ => (pg_name (i := 11) scLaw.nd rfl (Or.inl rfl))) (fun _ _ _ _ _ => pts_nil) (fun _ _ _ _ _ => (pk R6 hr (by decide) rfl (pa_cons (pv 2) (pa_cons (pv 6) (pa_cons (pv 11) (pa_cons (pv 5) pa_nil))))))) pa_nil)))) (pss_one (ps_ret pe_bl)) pss_nil)))
  (pss_one (ps_for PassesOwn.never rfl (pi_list (pv 0)) (pg_name (i := 7) scLaw.nd rfl (Or.inl rfl))
  (pss_cons (ps_set (i := 8) scLaw.nd rfl (Or.inl rfl) (pkV0 (i := 4) Zk hr (by decide) rfl (Or.inl rfl) (pa_cons (pe_op op_mod (pv 7) (pe_op op_pow pe_int pe_int)) pa_nil)))
  (pss_one (ps_if (pt_not (pt_val (pk R6 hr (by decide) rfl (pa_cons (pv 2) (pa_cons (pe_op op_mod (pv 7) (pv 3)) (pa_cons (pe_ix ix_list (pv 8) (pe_op op_mod (pe_op op_fdiv (pv 7) pe_int) (pe_callB call_len_seq (by rfl) B.len PySem.boot_len (pa_cons (pv 8) pa_nil))) (fun _ _ => rfl)) (pa_cons (pv 5) pa_nil))))))) (pss_one (ps_ret pe_bl)) pss_nil)))))))
  (pss_cons (ps_set (i := 9) scLaw.nd rfl (Or.inl rfl) (pe_op op_add_str (pe_op op_add_str (pe_op op_mulS pe_str pe_int) pe_str) (pe_op op_mulS pe_str pe_int)))
  (pss_cons (ps_set (i := 10) scLaw.nd rfl (Or.inl rfl) (pe_op op_add_str (pe_op op_add_str (pe_op op_add_str (pe_op op_add_str pe_str (pv 9)) pe_str) (pv 9)) pe_str))
  (pss_one (ps_ret (pe_and (pe_cmpR op_eq (pkL Wo hr (by decide) rfl (pa_cons (pv 10) pa_nil)) pe_int (nomark _)) (pe_and (pe_cmpR op_eq (pkL On hr (by decide) rfl (pa_cons (pv 10) pa_nil)) pe_int (nomark _)) (pe_one (pe_cmpR op_eq (pkL Fe hr (by decide) rfl (pa_cons pe_int pa_nil)) pe_int (nomark _)))))))))))), ?_⟩
    have big : (16777216 : Nat) = sizeLine := PySem.sizeLine_eq.symm
    refine st_setN (fun v => [some (.ref a), some v, none, none, none, none, none, none, none, none, none, none]) (fun _ => rfl) (al_lst (n := 2) stab_kind (al_cons stab_kind (al_kind (m := 2) (d := 0) (n := 33) (al_ci _) (al_ci _) (al_ci _) (al_ci _) dT zT stab_badQ (by decide)) (al_cons stab_kind (al_kind (m := 2) (d := 1) (n := 12) (al_ci _) (al_ci _) (al_ci _) (al_ci _) dN zN (stab_badN 200) (by decide)) al_nil)) (by decide)) fun G1 v1 s1 h1 => ?_
    refine st_setN (fun v => [some (.ref a), some v, none, none, none, none, none, none, none, none, none, none]) (fun _ => rfl) (al_catL (n := 2) (m := 2) stab_kind (al_v rfl (stab_ls stab_kind) h1) (al_lst stab_kind (al_cons stab_kind (al_kind (m := 1) (d := 2) (n := 12) (al_ci _) (al_ci _) (al_ci _) (al_ci _) dF zF (stab_badN 14) (by decide)) (al_cons stab_kind (al_kind (m := 1) (d := 2) (n := 12) (al_ci _) (al_ci _) (al_ci _) (al_ci _) dM zM (stab_badN 3000) (by decide)) al_nil)) (by decide)) (by decide)) fun G2 vk s2 h2 => ?_
    have sc2 : SqL K G2 a (ns.map V.int) := (s1.trans s2).seq hS
    refine st_forG (al_iL (fun _ => stab_kind) (ls_i (al_v rfl (stab_ls stab_kind) h2))) (fun i σ G => ∃ w2 w3 w4 w5 w6 w7 w8 : Option V, σ = [some (.ref a), some vk, w2, w3, w4, w5, w6, w7, w8, none, none, none]) (fun G sg => ⟨_, _, _, _, _, _, _, rfl⟩) (fun G0 sg0 i x σ' G hi sg hp hx => ?_) fun σ' G7 s7 hp => ?_
    · obtain ⟨w2, w3, w4, w5, w6, w7, w8, rfl⟩ := hp
      obtain ⟨T, g, q, m, d, n, Φ, e, hT, dr, hz, st, m1, m2, n1, n2⟩ := hx
      refine ⟨T, _, e, SqT.of hT, rfl, _, _, rfl, _, _, rfl, _, _, rfl, _, _, rfl, rfl, ?_⟩
      have sG := (Same.refl G)
      have scG : SqL K G a (ns.map V.int) := (sg0.trans sg).seq sc2
      refine st_forG (σ := [some (.ref a), some vk, some (.ref g), some (.int (m : Nat)), some (.ref q), some (.int (d : Nat)), w6, w7, w8, none, none, none]) (al_iR1 (j := (m : Int)) (al_vi rfl) (by omega) (by omega)) (fun i σ G => ∃ w6 : Option V, σ = [some (.ref a), some vk, some (.ref g), some (.int (m : Nat)), some (.ref q), some (.int (d : Nat)), w6, w7, w8, none, none, none]) (fun G sg => ⟨_, rfl⟩) (fun G1' sg1 i' x' σ1 G1 hi' sg1' hp' hx' => ?_) fun σ1 G3 s3 hp' => ?_
      · obtain ⟨w6', rfl⟩ := hp'
        rw [show x' = _ from hx']
        refine st_no1 (σ := [some (.ref a), some vk, some (.ref g), some (.int (m : Nat)), some (.ref q), some (.int (d : Nat)), some (.int (0 + (i' : Nat))), w7, w8, none, none, none]) (alt_not (alt_b (al_allT (al_lc (al_iL (fun _ => st) (ls_i (al_things (i := 4) (c := (ns.map V.int).length) hz rfl (al_lenS (al_v rfl (stab_s K _) ⟨a, rfl, (sg1.trans sg1').seq scG⟩)) (by rw [List.length_map]; exact Nat.lt_of_le_of_lt hlen (by decide +kernel))))) (fun _ _ _ _ h => h) (fun j G' y hj sg' hy =>
          ⟨[some (.ref a), some vk, some (.ref g), some (.int (m : Nat)), some (.ref q), some (.int (d : Nat)), some (.int (0 + (i' : Nat))), w7, w8, none, none, some y], rfl, fun k hk => hk, al_r6 st dr (al_vi rfl) (al_vi rfl) (al_v rfl st hy) (al_vi rfl)⟩) (by omega))))) fun G2' s2' => ?_
        exact ⟨sg1'.trans s2', _, rfl⟩
      obtain ⟨w6', rfl⟩ := hp'
      refine st_for1 (al_iS (al_v rfl (stab_s K _) ⟨a, rfl, s3.seq scG⟩) rfl) (fun i σ G => ∃ w7 w8 : Option V, σ = [some (.ref a), some vk, some (.ref g), some (.int (m : Nat)), some (.ref q), some (.int (d : Nat)), w6', w7, w8, none, none, none]) (fun G sg => ⟨_, _, rfl⟩) (fun G1' sg1 i' x' σ1 G1 hi' sg1' hp' hx' => ?_) fun σ1 G4 s4 hp' => ?_
      · obtain ⟨w7', w8', rfl⟩ := hp'
        obtain ⟨z, hz', rfl⟩ : ∃ z, z ∈ ns ∧ V.int z = x' := List.mem_map.mp (List.mem_of_getElem? hx')
        have p60 : (10 : Int) ^ (60 : Int).toNat = ((10 ^ 60 : Nat) : Int) := by decide +kernel
        have np : (0 : Int) < ((10 ^ 60 : Nat) : Int) := by decide +kernel
        obtain ⟨c, hc⟩ : ∃ c : Nat, z % ((10 ^ 60 : Nat) : Int) = (c : Int) := ⟨(z % ((10 ^ 60 : Nat) : Int)).toNat, (Int.toNat_of_nonneg (Int.emod_nonneg _ (by omega))).symm⟩
        have c60 : c < 10 ^ 60 := by
          have := Int.emod_lt_of_pos z np
          rw [hc] at this
          exact Int.ofNat_lt.mp this
        refine st_setN (σ := [some (.ref a), some vk, some (.ref g), some (.int (m : Nat)), some (.ref q), some (.int (d : Nat)), w6', some (.int z), w8', none, none, none]) (fun v => [some (.ref a), some vk, some (.ref g), some (.int (m : Nat)), some (.ref q), some (.int (d : Nat)), w6', some (.int z), some v, none, none, none]) (fun _ => rfl) (al_things (i := 4) (c := c) hz rfl (al_is (al_iC (al_vi rfl) (al_pow (al_ci _) (al_ci _) ⟨by decide, by decide, by decide⟩) (by show (0 : Int) < 10 ^ (60 : Int).toNat; rw [p60]; exact np)) (congrArg V.int (by rw [p60]; exact hc))) c60) fun G5 v5 s5 h5 => ?_
        obtain ⟨y, hy⟩ : ∃ y : Nat, z / 7 % ((n : Nat) : Int) = (y : Int) := ⟨(z / 7 % ((n : Nat) : Int)).toNat, (Int.toNat_of_nonneg (Int.emod_nonneg _ (by omega))).symm⟩
        have yn : y < n := by
          have := Int.emod_lt_of_pos (z / 7) (show (0 : Int) < ((n : Nat) : Int) by omega)
          rw [hy] at this
          omega
        refine st_no1 (alt_not (alt_b (al_r6 (i := z % ((m : Nat) : Int)) st dr (al_vi rfl) (al_iC (al_vi rfl) (al_vi rfl) (by show (0 : Int) < ((m : Nat) : Int); omega)) (al_ixA st (al_v rfl (stab_ls st) h5) (al_is (al_iC (al_iC (al_vi rfl) (al_ci _) ⟨by decide, by decide⟩) (al_lenA (al_v rfl (stab_ls st) h5)) (by show (0 : Int) < ((n : Nat) : Int); omega)) (congrArg V.int hy)) yn) (al_vi rfl)))) fun G6 s6 => ?_
        exact ⟨(sg1'.trans s5).trans s6, _, _, rfl⟩
      · obtain ⟨w7', w8', rfl⟩ := hp'
        exact ⟨(sg.trans s3).trans s4, _, _, _, _, _, _, _, rfl⟩
    obtain ⟨w2, w3, w4, w5, w6, w7, w8, rfl⟩ := hp
    obtain ⟨j, hj⟩ : ∃ j : Nat, j = 249 := ⟨_, rfl⟩
    have ej : ∀ H : Hp, Is (.int (j : Nat)) H (.int 249) := fun _ => by rw [hj]; rfl
    refine st_setN (fun v => [some (.ref a), some vk, w2, w3, w4, w5, w6, w7, w8, some v, none, none]) (fun _ => rfl) (al_deep (n := j) (m := j) (al_ct _) (al_c ej) (al_ct _) (al_ct _) (al_c ej) (by decide +kernel) (by decide +kernel) (by decide +kernel) (by omega) (by omega)) fun G8 v8 s8 ⟨z8, e8, et8⟩ => ?_
    subst e8
    have wr : Wr (tl z8) ((j + 1 : Nat) : Int) (j + 1) := by
      rw [et8, tl1.1, tl1.2.2.1, tl1.2.2.2.1]
      simpa using wr_left j
    have wl := wr.len
    refine st_setN (fun v => [some (.ref a), some vk, w2, w3, w4, w5, w6, w7, w8, some (.str z8), some v, none]) (fun _ => rfl) (al_cat (al_cat (al_cat (al_cat (al_ct _) (al_vt rfl rfl) ?_) (al_ct _) ?_) (al_vt rfl rfl) ?_) (al_ct _) ?_) fun G9 v9 s9 ⟨z9, e9, et9⟩ => ?_
    · rw [tl1.1, ← big]; simp only [List.length_append, List.length_cons, List.length_nil]; omega
    · rw [tl1.1, tl5, ← big]; simp only [List.length_append, List.length_cons, List.length_nil]; omega
    · rw [tl1.1, tl5, ← big]; simp only [List.length_append, List.length_cons, List.length_nil]; omega
    · rw [tl1.1, tl1.2.1, tl5, ← big]; simp only [List.length_append, List.length_cons, List.length_nil]; omega
    subst e9
    have w9 : Wr (tl z9) ((500 : Nat) : Int) 500 := by
      have w' := Wr.plus wr wr
      have e1 : ((j + 1 : Nat) : Int) + ((j + 1 : Nat) : Int) = ((500 : Nat) : Int) := by omega
      have e2 : j + 1 + (j + 1) = 500 := by omega
      rw [e1, e2] at w'
      rw [et9, tl1.1, tl1.2.1, tl5]
      simpa using w'
    refine st_ret (al_andT (al_eqI (al_call (gv_wr w9 (by decide)) (al_vt rfl rfl)) (al_ci _) rfl) (al_andT (al_eqI (al_call (gv_wr1 w9 (by decide)) (al_vt rfl rfl)) (al_ci _) rfl) (al_eqI (al_call (gv_fewest (m := 1) (by decide) (by decide) (by decide)) (al_ci _)) (al_ci _) (by decide +kernel)))) fun G10 v10 s10 h10 => ?_
    rw [show v10 = _ from h10]
    exact k _
end
end Fo
namespace Fo
open PySem L2 FO
/-! ### the end: what the top has written -/
section
variable {K : PySem.W.Frag} {h : Heap} {mg : Str → Option Value}
theorem dn_mk {x : Str} {st : Stmt} {f : Addr} {oc : Value} {od an : Option Addr} {osl : Array (Option Value)} {kV doc pm cdv ct : Value} (X : K.In h) (G : h.Ns mainGlobals mg) (a : PySem.W.nsIn K mainGlobals x = some (some (.ref f)))
    (l : K.lookup f = some ⟨oc, od, .func (PySem.W.fnOf x x (defArgs st) (defBody st) (defScope st) .none kV doc pm an cdv ct), osl⟩)
    (c : PySem.W.codeIn K cdv x = true) (k : PySem.W.keepIn K (.ref f) = true) : Dn K mg x st := ⟨f, _, fun_mk l c k, PySem.W.mg_of X G a⟩
theorem bi_mk (X : K.In h) (G : h.Ns mainGlobals mg)
    (b_isi : PySem.W.nsIn K mainGlobals "isinstance" = some none) 
    (b_int : PySem.W.nsIn K mainGlobals "int" = some none) 
    (b_bool : PySem.W.nsIn K mainGlobals "bool" = some none) 
    (b_str : PySem.W.nsIn K mainGlobals "str" = some none) 
    (b_list : PySem.W.nsIn K mainGlobals "list" = some none) 
    (b_len : PySem.W.nsIn K mainGlobals "len" = some none) 
    (b_all : PySem.W.nsIn K mainGlobals "all" = some none) 
    (b_range : PySem.W.nsIn K mainGlobals "range" = some none) 
    (b_enum : PySem.W.nsIn K mainGlobals "enumerate" = some none) 
    (b_sum : PySem.W.nsIn K mainGlobals "sum" = some none) 
    (b_max : PySem.W.nsIn K mainGlobals "max" = some none) 
    (b_sorted : PySem.W.nsIn K mainGlobals "sorted" = some none) 
    (b_abs : PySem.W.nsIn K mainGlobals "abs" = some none) 
    (b_tuple : PySem.W.nsIn K mainGlobals "tuple" = some none) 
    (b_any : PySem.W.nsIn K mainGlobals "any" = some none) : Bi mg :=
  ⟨PySem.W.mg_none_of X G b_isi, PySem.W.mg_none_of X G b_int, PySem.W.mg_none_of X G b_bool, PySem.W.mg_none_of X G b_str, PySem.W.mg_none_of X G b_list, PySem.W.mg_none_of X G b_len, PySem.W.mg_none_of X G b_all, PySem.W.mg_none_of X G b_range, PySem.W.mg_none_of X G b_enum, PySem.W.mg_none_of X G b_sum, PySem.W.mg_none_of X G b_max, PySem.W.mg_none_of X G b_sorted, PySem.W.mg_none_of X G b_abs, PySem.W.mg_none_of X G b_tuple, PySem.W.mg_none_of X G b_any⟩
theorem er_mk {x : Str} {C : Addr} (X : K.In h) (G : h.Ns mainGlobals mg) (a : PySem.W.nsIn K mainGlobals x = some (some (.ref C))) (x1 : PySem.W.excIn K C [.type "ValueError", .type "Exception", .type "BaseException", .type "object"] "ValueError.__new__" = true)
    (k : PySem.W.keepIn K (.ref C) = true) (b : PySem.W.subIn K (.ref C) (.type "BaseException") = some true) (t : PySem.W.typeIn K (.ref C) = some (.type "type")) : ErC K mg x C := ⟨PySem.W.mg_of X G a, x1, k, b, t⟩
theorem erk_mk3 {O D C1 C2 C3 : Addr} {b1 b2 b3 : Bool} (e1 : PySem.W.findIn K (.ref D) "__getattribute__" = some (some (.builtin "BaseException.__getattribute__"))) (e2 : PySem.W.findIn K (.ref D) "__getattr__" = some none) (e3 : PySem.W.subIn K (.ref D) (.type "BaseException") = some true)
    (e4 : PySem.W.hasDictIn K D = true) (e5 : PySem.W.findIn K (.ref D) "__class__" = some (some (.builtin "object.__class__"))) (e6 : PySem.W.specialIn K (.builtin "object.__class__") "__get__" = some (some (.builtin "getset_descriptor.__get__")))
    (e7 : PySem.W.takesIn K (.builtin "object.__class__") = some true) (e8 : PySem.W.mroIn K D (.type "object") = some true) (o1 : PySem.W.subIn K (.ref O) (.type "BaseException") = some true) (o2 : PySem.W.hasDictIn K O = true) (o3 : PySem.W.typeIn K (.ref O) = some (.type "type")) (o4 : PySem.W.subIn K (.ref D) (.ref O) = some true)
    (i0 : PySem.W.kitOne K (.ref D) (.ref C1) = some b1) (i1 : PySem.W.kitOne K (.ref D) (.ref C2) = some b2) (i2 : PySem.W.kitOne K (.ref D) (.ref C3) = some b3) : ErK K O D [(C1, b1), (C2, b2), (C3, b3)] :=
  ⟨⟨e1, e2, e3, e4, e5, e6, e7, e8⟩, PySem.W.exm_ref o1 o2 o3 o4, fun p hp => by
    simp only [List.mem_cons, List.not_mem_nil, or_false] at hp
    rcases hp with rfl | rfl | rfl
    · exact i0
    · exact i1
    · exact i2⟩
/-- the class Least as the top has written it -/
structure LeD (K : PySem.W.Frag) (mg : Str → Option Value) (C : Addr) : Prop where
  L : LeC K C
  g : mg "Least" = some (.ref C)
  init : ∃ f fd, Mk K C f ∧ Fun K "__init__" "Least.__init__" sInit f fd
  shows : ∃ f fd, Meth K C "shows" f ∧ Fun K "shows" "Least.shows" sShows f fd
theorem le_mk {C f1 f2 : Addr} {od1 an1 od2 an2 : Option Addr} {sl1 sl2 : Array (Option Value)} {oc1 kV1 dc1 pm1 cd1 ct1 oc2 kV2 dc2 pm2 cd2 ct2 : Value} (X : K.In h) (G : h.Ns mainGlobals mg)
    (aC : PySem.W.nsIn K mainGlobals "Least" = some (some (.ref C)))
    (a1 : PySem.W.findIn K (.ref C) "__init__" = some (some (.ref f1))) (i1 : PySem.W.isFn K (.ref f1) = true)
    (l1 : K.lookup f1 = some ⟨oc1, od1, .func (PySem.W.fnOf "__init__" "Least.__init__" (defArgs sInit) (defBody sInit) (defScope sInit) .none kV1 dc1 pm1 an1 cd1 ct1), sl1⟩)
    (c1 : PySem.W.codeIn K cd1 "Least.__init__" = true) (k1 : PySem.W.keepIn K (.ref f1) = true)
    (a2 : PySem.W.findIn K (.ref C) "shows" = some (some (.ref f2))) (i2 : PySem.W.isFn K (.ref f2) = true)
    (l2 : K.lookup f2 = some ⟨oc2, od2, .func (PySem.W.fnOf "shows" "Least.shows" (defArgs sShows) (defBody sShows) (defScope sShows) .none kV2 dc2 pm2 an2 cd2 ct2), sl2⟩)
    (c2 : PySem.W.codeIn K cd2 "Least.shows" = true) (k2 : PySem.W.keepIn K (.ref f2) = true)
    (pg : PySem.W.plainGet K C Str.empty = true) (hd : PySem.W.hasDictIn K C = true) (po : PySem.W.plainOver K C = true) (sa : PySem.W.findIn K (.ref C) "__setattr__" = some (some (.builtin "object.__setattr__")))
    (mk : PySem.W.makesIn K C = true) (kc : PySem.W.keepIn K (.ref C) = true) (nT : PySem.W.findIn K (.ref C) "text" = some none) (nF : PySem.W.findIn K (.ref C) "floor" = some none) : LeD K mg C :=
  ⟨⟨⟨pg, hd, po, sa⟩, nT, nF⟩, PySem.W.mg_of X G aC, ⟨f1, _, ⟨mk, a1, i1, kc⟩, fun_mk l1 c1 k1⟩, ⟨f2, _, ⟨a2, i2, k2⟩, fun_mk l2 c2 k2⟩⟩
theorem mak_of {P : Program} {w : World} {base : Heap} {C : Addr} (D : LeD K mg C) (B : Bi mg) : C8.Mak P w K mg base 1 "Least" C (spInit K C) [] := by
  obtain ⟨f, fd, M, F'⟩ := D.init
  exact ⟨f, fd, _, [], M, fn_init F' D.L B, D.g, F'.binds fun _ _ _ _ _ _ us hl => match us, hl with | [_, _, _], _ => rfl, .nil⟩
theorem met_of {P : Program} {w : World} {base : Heap} {C : Addr} (D : LeD K mg C) (B : Bi mg) (W : Kp P w K mg base CX0 3 "worth_of" (spWorthOf K)) (Fl : Kp P w K mg base CX0 2 "is_floor" (spIsFloor K)) : C8.Met P w K mg base 4 C "shows" (spShows K C) [] := by
  obtain ⟨f, fd, M, F'⟩ := D.shows
  exact ⟨f, fd, _, [], D.L.cl, M, fn_shows F' D.L B W Fl, F'.binds fun _ _ _ _ _ _ us hl => match us, hl with | [_, _], _ => rfl, .nil⟩
theorem bits_lt {z : Int} {n : Nat} (h : PySem.Builtin.Int.intBits z ≤ n) : z.natAbs < 2 ^ n := by
  unfold PySem.Builtin.Int.intBits at h
  by_cases e : z = 0
  · subst e
    exact Nat.pow_pos (by decide)
  · have e' : (z == 0) = false := by simpa using e
    rw [e'] at h
    exact Nat.lt_of_lt_of_le (Nat.lt_log2_self) (Nat.pow_le_pow_right (by decide) h)
/-- the law's def, and how it is called -/
theorem law_end {l : PySem.W.OpenLaw} {w : World} {fa : Addr} {x : Str} {st : Stmt} {k : Nat} {sp : Sp} (D : Dn K mg "law" st) (hfa : mg "law" = some (.ref fa))
    (hb : ∀ (kV doc pm : Value) (an : Option Addr) (cdv ct v : Value), bindArgs (PySem.W.fnOf "law" "law" (defArgs st) (defBody st) (defScope st) .none kV doc pm an cdv ct) ⟨[v], []⟩ = pure [(x, v)])
    (hF : ∀ (base : Heap) (f : Addr) (fd : FuncData), Fun K "law" "law" st f fd → FnOk l.prog w K mg base CX0 k f fd [x] sp) :
    ∃ fd : FuncData, (∀ (s : Shared) (v : Value), BindsTo s fd ⟨[v], []⟩ [(x, v)]) ∧ ∀ base : Heap, K.In base → base.Ns mainGlobals mg → FnOk l.prog w K mg base CX0 k fa fd [x] sp := by
  obtain ⟨f, fd, F, hm⟩ := D.ex
  have e := hfa.symm.trans hm
  cases e
  refine ⟨fd, fun s v => ?_, fun base _ _ => hF base _ fd F⟩
  obtain ⟨oc, od, kV, doc, pm, an, cdv, ct, osl, rfl, lk, hcd⟩ := F.ex
  exact .of_eq (hb kV doc pm an cdv ct v)
end
end Fo
namespace Fo
open PySem L2 FO PySem.Spec PyProof.Rows
/-- all that the law leans on -/
structure All6 (K : PySem.W.Frag) (mg : Str → Option Value) (CO CT CN CM C : Addr) : Prop where
  B : Bi mg
  gV : mg "ValueError" = none
  lon : ∃ u, mg "LONGEST" = some u ∧ RelV (.int 2000) u
  mo : ∃ u, mg "MOST" = some u ∧ RelV (.int 200) u
  ms : ∃ u, mg "MOST_SHOWN" = some u ∧ RelV (.int 14) u
  mq : ∃ u, mg "MOST_ONES" = some u ∧ RelV (.int 3000) u
  gO : mg "OnesError" = some (.ref CO)
  T : ErC K mg "BadText" CT
  N : ErC K mg "BadNumber" CN
  M : ErC K mg "BadOnes" CM
  ET : ErK K CO CT [(CT, true), (CN, false), (CM, false)]
  EN : ErK K CO CN [(CT, false), (CN, true), (CM, false)]
  EM : ErK K CO CM [(CT, false), (CN, false), (CM, true)]
  v1 : PySem.W.kitOne K (.ref CT) (.type "ValueError") = some true
  v2 : PySem.W.kitOne K (.ref CN) (.type "ValueError") = some true
  v3 : PySem.W.kitOne K (.ref CM) (.type "ValueError") = some true
  L : LeD K mg C
  d_is_whole : Dn K mg "is_whole" sWhole
  d_done : Dn K mg "done" sDone
  d_worth_of : Dn K mg "worth_of" sWorthOf
  d_check_text : Dn K mg "check_text" sCheckText
  d_worth : Dn K mg "worth" sWorth
  d_ones : Dn K mg "ones" sOnes
  d_put : Dn K mg "put" sPut
  d_check_number : Dn K mg "check_number" sCheckNumber
  d_check_ones : Dn K mg "check_ones" sCheckOnes
  d_table_of : Dn K mg "table_of" sTable
  d_text_by : Dn K mg "text_by" sTextBy
  d_fewest : Dn K mg "fewest" sFewest
  d_least : Dn K mg "least" sLeast
  d_all_with : Dn K mg "all_with" sAllWith
  d_greatest_of : Dn K mg "greatest_of" sGreatestOf
  d_greatest : Dn K mg "greatest" sGreatest
  d__law_alone : Dn K mg "_law_alone" sLawAlone
  d__law_with_text : Dn K mg "_law_with_text" sLawWithText
  d__law_with_number : Dn K mg "_law_with_number" sLawWithNumber
  d__law_with_few : Dn K mg "_law_with_few" sLawWithFew
  d__law_with_many : Dn K mg "_law_with_many" sLawWithMany
  d__law_refused : Dn K mg "_law_refused" sLawRefused
  d__law_no_texts : Dn K mg "_law_no_texts" sLawNoTexts
  d__law_no_numbers : Dn K mg "_law_no_numbers" sLawNoNumbers
  d__law_no_few : Dn K mg "_law_no_few" sLawNoFew
  d__law_no_many : Dn K mg "_law_no_many" sLawNoMany
theorem all6 {P : Program} {w : World} {K : PySem.W.Frag} {mg : Str → Option Value} {CO CT CN CM C : Addr} (A : All6 K mg CO CT CN CM C) (base : Heap) (f : Addr) (fd : FuncData) (F' : Fun K "law" "law" sLaw f fd) : FnOk P w K mg base CX0 206 f fd pLaw (spLaw K) := by
  have k1 : Kp P w K mg base CX0 1 "is_whole" (spWhole K) := ok_whole A.d_is_whole A.B
  have k2 := ok_done A.d_done A.B k1
  have k3 := ok_worthOf A.d_worth_of A.B A.lon k1 k2
  have k4 := ok_checkText A.d_check_text A.T k3
  have kW := ok_worth A.d_worth k3 k4
  have kO := ok_ones A.d_ones k4
  have M := mak_of (P := P) (w := w) (base := base) A.L A.B
  have k6 := ok_checkNumber A.d_check_number A.N A.mo k1
  have k7 := ok_table (P := P) (w := w) (base := base) A.d_table_of A.B
  have k8 := ok_textBy (P := P) (w := w) (base := base) A.d_text_by (ok_put A.d_put) 200
  have kL := ok_least A.d_least k6 k7 k8 M
  have kF := ok_fewest A.d_fewest k6 k7
  have k9 := ok_checkOnes A.d_check_ones A.M k1
  have k10 := ok_greatestOf (P := P) (w := w) (base := base) A.d_greatest_of A.B
  have kG := ok_greatest A.d_greatest A.mq k9 k10
  have kA := ok_allWith A.d_all_with A.B A.ms k9 k10 k7
  obtain ⟨fT, fdT, psT, FT, mT, pT, bT⟩ := (ok_wt A.d__law_with_text kW kO).ex
  obtain ⟨fN, fdN, psN, FN, mN, pN, bN⟩ := (ok_wn A.d__law_with_number kF kL).ex
  obtain ⟨fF, fdF, psF, FF, mF, pF, bF⟩ := (ok_wf A.d__law_with_few kA).ex
  obtain ⟨fM, fdM, psM, FM, mM, pM, bM⟩ := (ok_wm A.d__law_with_many kG).ex
  obtain ⟨gT, gdT, rsT, GT, nT, oT, cT⟩ := (ok_nt (P := P) (w := w) (base := base) A.d__law_no_texts A.B).ex
  obtain ⟨gN, gdN, rsN, GN, nN, oN, cN⟩ := (ok_nn (P := P) (w := w) (base := base) A.d__law_no_numbers).ex
  obtain ⟨gF, gdF, rsF, GF, nF, oF, cF⟩ := (ok_nf (P := P) (w := w) (base := base) A.d__law_no_few).ex
  obtain ⟨gM, gdM, rsM, GM, nM, oM, cM⟩ := (ok_nm (P := P) (w := w) (base := base) A.d__law_no_many).ex
  have ev : ∀ CE d, Which6 CT CN CM CE d → ErV K CO CT CN CM CE d := by
    rintro CE d (⟨rfl, rfl⟩ | ⟨rfl, rfl⟩ | ⟨rfl, rfl⟩)
    · exact ⟨A.ET, A.v1, by decide⟩
    · exact ⟨A.EN, A.v2, by decide⟩
    · exact ⟨A.EM, A.v3, by decide⟩
  have al' := ok_al (P := P) (w := w) (base := base) (CO := CO) A.d__law_alone A.B A.gV A.T.g A.N.g A.M.g
  have r6 := ok_r6 (S := fun f sp => (f = fT ∧ sp = spDoor BadQ CT) ∨ (f = fN ∧ sp = spDoor (BadN 200) CN) ∨ (f = fF ∧ sp = spDoor (BadN 14) CM) ∨ (f = fM ∧ sp = spDoor (BadN 3000) CM)) A.d__law_refused A.gO al' ev (by
    rintro f sp (⟨rfl, rfl⟩ | ⟨rfl, rfl⟩ | ⟨rfl, rfl⟩ | ⟨rfl, rfl⟩)
    · exact ⟨fdT, psT, FT, pT, bT⟩
    · exact ⟨fdN, psN, FN, pN, bN⟩
    · exact ⟨fdF, psF, FF, pF, bF⟩
    · exact ⟨fdM, psM, FM, pM, bM⟩)
  exact fn_law (Z := fun f sp => (f = gT ∧ sp = spList BadQ 33) ∨ (f = gN ∧ sp = spList (BadN 200) 12) ∨ (f = gF ∧ sp = spList (BadN 14) 12) ∨ (f = gM ∧ sp = spList (BadN 3000) 12)) F' A.B mT mN mF mM nT nN nF nM
    ⟨CT, .inl ⟨rfl, rfl⟩, .inl ⟨rfl, rfl⟩⟩ ⟨CN, .inr (.inl ⟨rfl, rfl⟩), .inr (.inl ⟨rfl, rfl⟩)⟩ ⟨CM, .inr (.inr (.inl ⟨rfl, rfl⟩)), .inr (.inr ⟨rfl, rfl⟩)⟩ ⟨CM, .inr (.inr (.inr ⟨rfl, rfl⟩)), .inr (.inr ⟨rfl, rfl⟩)⟩
    (.inl ⟨rfl, rfl⟩) (.inr (.inl ⟨rfl, rfl⟩)) (.inr (.inr (.inl ⟨rfl, rfl⟩))) (.inr (.inr (.inr ⟨rfl, rfl⟩))) (by
    rintro f sp (⟨rfl, rfl⟩ | ⟨rfl, rfl⟩ | ⟨rfl, rfl⟩ | ⟨rfl, rfl⟩)
    · exact ⟨gdT, rsT, GT, oT, cT⟩
    · exact ⟨gdN, rsN, GN, oN, cN⟩
    · exact ⟨gdF, rsF, GF, oF, cF⟩
    · exact ⟨gdM, rsM, GM, oM, cM⟩) r6 kW kO kF
end Fo
open PySem PySem.W PyProof.Rows in
set_option maxRecDepth 100000 in
set_option maxHeartbeats 0 in
theorem PySem.Challenge.cw_fewones_k06_refused_holds : PySem.Challenge.rw_fewones_k06_refused.Holds := by
  w_on; o_law; k_head; (case hw => w_witness2)
  k_fill
  refine L2.walk_ofB (l := PySem.Challenge.rw_fewones_k06_refused) (n := 63) (k := 206) (x := "_law_script") (CX := fun _ => L2.CX0) (sp := fun w => Fo.spLaw _) rfl (by decide) rfl ⟨rfl, by decide, by decide⟩
    (fun w h Y => by first | exact PySem.W.kIn_of Y | exact PySem.W.km_in_of Y) ?F (fun _ _ a ns hl hb _ hS => ⟨a, ns, rfl, hS, hl, fun n hn => Fo.bits_lt (hb n hn), fun _ => rfl⟩) fun _ _ _ _ _ z => z
  case F =>
    intro w mg fa h KX G hmg
    replace hmg : mg "law" = some (.ref fa) := hmg
    refine' Fo.law_end (l := PySem.Challenge.rw_fewones_k06_refused) (st := Fo.sLaw) ?q_D hmg (fun _ _ _ _ _ _ _ => rfl) (Fo.all6 ?q_A)
    (case q_D => refine' Fo.dn_mk KX G ?a ?l ?c ?k; (case a => k_is); (case l => k_is); (case c => k_is); (case k => k_is))
    case q_A =>
    refine' ⟨?q_B, ?q_gV, ?q_lon, ?q_mo, ?q_ms, ?q_mq, ?q_gO, ?q_T, ?q_N, ?q_M, ?q_ET, ?q_EN, ?q_EM, ?q_v1, ?q_v2, ?q_v3, ?q_L, ?q_d_is_whole, ?q_d_done, ?q_d_worth_of, ?q_d_check_text, ?q_d_worth, ?q_d_ones, ?q_d_put, ?q_d_check_number, ?q_d_check_ones, ?q_d_table_of, ?q_d_text_by, ?q_d_fewest, ?q_d_least, ?q_d_all_with, ?q_d_greatest_of, ?q_d_greatest, ?q_d__law_alone, ?q_d__law_with_text, ?q_d__law_with_number, ?q_d__law_with_few, ?q_d__law_with_many, ?q_d__law_refused, ?q_d__law_no_texts, ?q_d__law_no_numbers, ?q_d__law_no_few, ?q_d__law_no_many⟩
    (case q_B => refine' Fo.bi_mk KX G ?b_isi ?b_int ?b_bool ?b_str ?b_list ?b_len ?b_all ?b_range ?b_enum ?b_sum ?b_max ?b_sorted ?b_abs ?b_tuple ?b_any; (case b_isi => k_is); (case b_int => k_is); (case b_bool => k_is); (case b_str => k_is); (case b_list => k_is); (case b_len => k_is); (case b_all => k_is); (case b_range => k_is); (case b_enum => k_is); (case b_sum => k_is); (case b_max => k_is); (case b_sorted => k_is); (case b_abs => k_is); (case b_tuple => k_is); (case b_any => k_is))
    (case q_gV => refine' PySem.W.mg_none_of KX G ?z; (case z => k_is))
    (case q_lon => refine' ⟨_, PySem.W.mg_of KX G ?z, ?y⟩; (case z => k_is); (case y => exact ⟨_, rfl⟩))
    (case q_mo => refine' ⟨_, PySem.W.mg_of KX G ?z, ?y⟩; (case z => k_is); (case y => exact ⟨_, rfl⟩))
    (case q_ms => refine' ⟨_, PySem.W.mg_of KX G ?z, ?y⟩; (case z => k_is); (case y => exact ⟨_, rfl⟩))
    (case q_mq => refine' ⟨_, PySem.W.mg_of KX G ?z, ?y⟩; (case z => k_is); (case y => exact ⟨_, rfl⟩))
    (case q_gO => refine' PySem.W.mg_of KX G ?z; (case z => k_is))
    (case q_T => refine' Fo.er_mk KX G ?a ?x ?k ?b ?t; (case a => k_is); (case x => k_exc); (case k => k_is); (case b => k_is); (case t => k_is))
    (case q_N => refine' Fo.er_mk KX G ?a ?x ?k ?b ?t; (case a => k_is); (case x => k_exc); (case k => k_is); (case b => k_is); (case t => k_is))
    (case q_M => refine' Fo.er_mk KX G ?a ?x ?k ?b ?t; (case a => k_is); (case x => k_exc); (case k => k_is); (case b => k_is); (case t => k_is))
    (case q_ET => refine' Fo.erk_mk3 ?e1 ?e2 ?e3 ?e4 ?e5 ?e6 ?e7 ?e8 ?o1 ?o2 ?o3 ?o4 ?i0 ?i1 ?i2; (case e1 => first | k_is | rfl | decide +kernel); (case e2 => first | k_is | rfl | decide +kernel); (case e3 => first | k_is | rfl | decide +kernel); (case e4 => first | k_is | rfl | decide +kernel); (case e5 => first | k_is | rfl | decide +kernel); (case e6 => first | k_is | rfl | decide +kernel); (case e7 => first | k_is | rfl | decide +kernel); (case e8 => first | k_is | rfl | decide +kernel); (case o1 => first | k_is | rfl | decide +kernel); (case o2 => first | k_is | rfl | decide +kernel); (case o3 => first | k_is | rfl | decide +kernel); (case o4 => first | k_is | rfl | decide +kernel); (case i0 => first | k_is | rfl | decide +kernel); (case i1 => first | k_is | rfl | decide +kernel); (case i2 => first | k_is | rfl | decide +kernel))
    (case q_EN => refine' Fo.erk_mk3 ?e1 ?e2 ?e3 ?e4 ?e5 ?e6 ?e7 ?e8 ?o1 ?o2 ?o3 ?o4 ?i0 ?i1 ?i2; (case e1 => first | k_is | rfl | decide +kernel); (case e2 => first | k_is | rfl | decide +kernel); (case e3 => first | k_is | rfl | decide +kernel); (case e4 => first | k_is | rfl | decide +kernel); (case e5 => first | k_is | rfl | decide +kernel); (case e6 => first | k_is | rfl | decide +kernel); (case e7 => first | k_is | rfl | decide +kernel); (case e8 => first | k_is | rfl | decide +kernel); (case o1 => first | k_is | rfl | decide +kernel); (case o2 => first | k_is | rfl | decide +kernel); (case o3 => first | k_is | rfl | decide +kernel); (case o4 => first | k_is | rfl | decide +kernel); (case i0 => first | k_is | rfl | decide +kernel); (case i1 => first | k_is | rfl | decide +kernel); (case i2 => first | k_is | rfl | decide +kernel))
    (case q_EM => refine' Fo.erk_mk3 ?e1 ?e2 ?e3 ?e4 ?e5 ?e6 ?e7 ?e8 ?o1 ?o2 ?o3 ?o4 ?i0 ?i1 ?i2; (case e1 => first | k_is | rfl | decide +kernel); (case e2 => first | k_is | rfl | decide +kernel); (case e3 => first | k_is | rfl | decide +kernel); (case e4 => first | k_is | rfl | decide +kernel); (case e5 => first | k_is | rfl | decide +kernel); (case e6 => first | k_is | rfl | decide +kernel); (case e7 => first | k_is | rfl | decide +kernel); (case e8 => first | k_is | rfl | decide +kernel); (case o1 => first | k_is | rfl | decide +kernel); (case o2 => first | k_is | rfl | decide +kernel); (case o3 => first | k_is | rfl | decide +kernel); (case o4 => first | k_is | rfl | decide +kernel); (case i0 => first | k_is | rfl | decide +kernel); (case i1 => first | k_is | rfl | decide +kernel); (case i2 => first | k_is | rfl | decide +kernel))
    (case q_v1 => first | k_is | rfl | decide +kernel)
    (case q_v2 => first | k_is | rfl | decide +kernel)
    (case q_v3 => first | k_is | rfl | decide +kernel)
    (case q_L => refine' Fo.le_mk KX G ?w_aC ?w_a1 ?w_i1 ?w_l1 ?w_c1 ?w_k1 ?w_a2 ?w_i2 ?w_l2 ?w_c2 ?w_k2 ?w_pg ?w_hd ?w_po ?w_sa ?w_mk ?w_kc ?w_nT ?w_nF; (case w_aC => k_is); (case w_a1 => k_is); (case w_i1 => k_is); (case w_l1 => k_is); (case w_c1 => k_is); (case w_k1 => k_is); (case w_a2 => k_is); (case w_i2 => k_is); (case w_l2 => k_is); (case w_c2 => k_is); (case w_k2 => k_is); (case w_pg => k_is); (case w_hd => k_is); (case w_po => k_is); (case w_sa => k_is); (case w_mk => k_is); (case w_kc => k_is); (case w_nT => k_is); (case w_nF => k_is))
    (case q_d_is_whole => refine' Fo.dn_mk KX G ?a ?l ?c ?k; (case a => k_is); (case l => k_is); (case c => k_is); (case k => k_is))
    (case q_d_done => refine' Fo.dn_mk KX G ?a ?l ?c ?k; (case a => k_is); (case l => k_is); (case c => k_is); (case k => k_is))
    (case q_d_worth_of => refine' Fo.dn_mk KX G ?a ?l ?c ?k; (case a => k_is); (case l => k_is); (case c => k_is); (case k => k_is))
    (case q_d_check_text => refine' Fo.dn_mk KX G ?a ?l ?c ?k; (case a => k_is); (case l => k_is); (case c => k_is); (case k => k_is))
    (case q_d_worth => refine' Fo.dn_mk KX G ?a ?l ?c ?k; (case a => k_is); (case l => k_is); (case c => k_is); (case k => k_is))
    (case q_d_ones => refine' Fo.dn_mk KX G ?a ?l ?c ?k; (case a => k_is); (case l => k_is); (case c => k_is); (case k => k_is))
    (case q_d_put => refine' Fo.dn_mk KX G ?a ?l ?c ?k; (case a => k_is); (case l => k_is); (case c => k_is); (case k => k_is))
    (case q_d_check_number => refine' Fo.dn_mk KX G ?a ?l ?c ?k; (case a => k_is); (case l => k_is); (case c => k_is); (case k => k_is))
    (case q_d_check_ones => refine' Fo.dn_mk KX G ?a ?l ?c ?k; (case a => k_is); (case l => k_is); (case c => k_is); (case k => k_is))
    (case q_d_table_of => refine' Fo.dn_mk KX G ?a ?l ?c ?k; (case a => k_is); (case l => k_is); (case c => k_is); (case k => k_is))
    (case q_d_text_by => refine' Fo.dn_mk KX G ?a ?l ?c ?k; (case a => k_is); (case l => k_is); (case c => k_is); (case k => k_is))
    (case q_d_fewest => refine' Fo.dn_mk KX G ?a ?l ?c ?k; (case a => k_is); (case l => k_is); (case c => k_is); (case k => k_is))
    (case q_d_least => refine' Fo.dn_mk KX G ?a ?l ?c ?k; (case a => k_is); (case l => k_is); (case c => k_is); (case k => k_is))
    (case q_d_all_with => refine' Fo.dn_mk KX G ?a ?l ?c ?k; (case a => k_is); (case l => k_is); (case c => k_is); (case k => k_is))
    (case q_d_greatest_of => refine' Fo.dn_mk KX G ?a ?l ?c ?k; (case a => k_is); (case l => k_is); (case c => k_is); (case k => k_is))
    (case q_d_greatest => refine' Fo.dn_mk KX G ?a ?l ?c ?k; (case a => k_is); (case l => k_is); (case c => k_is); (case k => k_is))
    (case q_d__law_alone => refine' Fo.dn_mk KX G ?a ?l ?c ?k; (case a => k_is); (case l => k_is); (case c => k_is); (case k => k_is))
    (case q_d__law_with_text => refine' Fo.dn_mk KX G ?a ?l ?c ?k; (case a => k_is); (case l => k_is); (case c => k_is); (case k => k_is))
    (case q_d__law_with_number => refine' Fo.dn_mk KX G ?a ?l ?c ?k; (case a => k_is); (case l => k_is); (case c => k_is); (case k => k_is))
    (case q_d__law_with_few => refine' Fo.dn_mk KX G ?a ?l ?c ?k; (case a => k_is); (case l => k_is); (case c => k_is); (case k => k_is))
    (case q_d__law_with_many => refine' Fo.dn_mk KX G ?a ?l ?c ?k; (case a => k_is); (case l => k_is); (case c => k_is); (case k => k_is))
    (case q_d__law_refused => refine' Fo.dn_mk KX G ?a ?l ?c ?k; (case a => k_is); (case l => k_is); (case c => k_is); (case k => k_is))
    (case q_d__law_no_texts => refine' Fo.dn_mk KX G ?a ?l ?c ?k; (case a => k_is); (case l => k_is); (case c => k_is); (case k => k_is))
    (case q_d__law_no_numbers => refine' Fo.dn_mk KX G ?a ?l ?c ?k; (case a => k_is); (case l => k_is); (case c => k_is); (case k => k_is))
    (case q_d__law_no_few => refine' Fo.dn_mk KX G ?a ?l ?c ?k; (case a => k_is); (case l => k_is); (case c => k_is); (case k => k_is))
    (case q_d__law_no_many => refine' Fo.dn_mk KX G ?a ?l ?c ?k; (case a => k_is); (case l => k_is); (case c => k_is); (case k => k_is))
#print axioms PySem.Challenge.cw_fewones_k06_refused_holds
