import PyProof.Rows.All
import Wide.All
import OpenK.AllK
import Wide.FinOn
import HandS.ForMost
import HandS.Style
import HandS.Wide
import HandS.WideMore
import HandS.TupAny
import HandS.TupMul
import HandS.TupLen
import HandS.IsInst
import HandS.Strs
import HandS.Conv
import HandS.ExcValue
import KE.KDictCopyH
import PyProof.Rows.TupDisplay
import HandS.ForExc
import HandS.ExcIs
import HandS.Flow
import PySem.Challenge.RW_letterhand_k47_whole_web_bounds
import HandS.Lambda
import PyProof.ReprBulk
import HandS.More
import HandS.EndBits
import HandS.EndTab
import KE.KNestM
set_option Elab.async false
set_option linter.all false
set_option maxRecDepth 100000
set_option maxHeartbeats 4000000
/-! The mathematics: a going over of rows, step by step, as a plain function; what it finds for a book whose one hand counts, and for a book whose rows hang in a line. No Python here. -/
namespace KW
abbrev Row := List Nat
abbrev Wd := List Int
abbrev Lst := List (Row × Wd)
def keys (L : Lst) : List Row := L.map (·.1)
/-- what a step finds from a row -/
def meet (snd : Int → Row → Row) (one : Row) (w : Wd) (L : Lst) (s : Int) : Lst :=
  if snd s one ∈ keys L then L else L ++ [(snd s one, w ++ [s])]
/-- one row looked at -/
def turn (snd : Int → Row → Row) (steps : List Int) (L : Lst) (p : Row × Wd) : Lst := steps.foldl (meet snd p.1 p.2) L
/-- a going over: F n is the list behind n rows looked at, N rows come at all -/
structure Over (snd : Int → Row → Row) (steps : List Int) (r : Row) (F : Nat → Lst) (N : Nat) : Prop where
  zero : F 0 = [(r, [])]
  one : ∀ n, n < N → ∃ p, (F n)[n]? = some p ∧ F (n + 1) = turn snd steps (F n) p
  le : ∀ n, n ≤ N → (F n).length ≤ N
  last : (F N).length = N

/-! ### the line: by running -/
def run (snd : Int → Row → Row) (steps : List Int) : Nat → Nat → Lst → Lst
  | 0, _, L => L
  | k + 1, n, L => match L[n]? with
    | some p => run snd steps k (n + 1) (turn snd steps L p)
    | none => L
def upto (snd : Int → Row → Row) (steps : List Int) (r : Row) : Nat → Lst
  | 0 => [(r, [])]
  | n + 1 => match (upto snd steps r n)[n]? with
    | some p => turn snd steps (upto snd steps r n) p
    | none => upto snd steps r n
theorem meet_len (snd : Int → Row → Row) (one : Row) (w : Wd) (L : Lst) (s : Int) : L.length ≤ (meet snd one w L s).length := by
  unfold meet
  split
  · exact Nat.le_refl _
  · simp
theorem turn_len (snd : Int → Row → Row) (steps : List Int) : ∀ (L : Lst) (p : Row × Wd), L.length ≤ (turn snd steps L p).length := by
  unfold turn
  induction steps with
  | nil => intro L p; exact Nat.le_refl _
  | cons s r ih => intro L p; exact Nat.le_trans (meet_len snd p.1 p.2 L s) (ih _ p)
theorem upto_mono (snd : Int → Row → Row) (steps : List Int) (r : Row) (n : Nat) : (upto snd steps r n).length ≤ (upto snd steps r (n + 1)).length := by
  show _ ≤ (match (upto snd steps r n)[n]? with | some p => turn snd steps (upto snd steps r n) p | none => upto snd steps r n).length
  split
  · exact turn_len _ _ _ _
  · exact Nat.le_refl _
theorem upto_mono' (snd : Int → Row → Row) (steps : List Int) (r : Row) (n : Nat) : ∀ k, (upto snd steps r n).length ≤ (upto snd steps r (n + k)).length
  | 0 => Nat.le_refl _
  | k + 1 => Nat.le_trans (upto_mono' snd steps r n k) (upto_mono snd steps r (n + k))
/-- the run, told by a number: behind N rows N stand there, and ahead of that there was always one more -/
theorem over_upto {snd : Int → Row → Row} {steps : List Int} {r : Row} {N : Nat} (h1 : (upto snd steps r N).length = N) (h2 : ∀ n, n < N → n < (upto snd steps r n).length) : Over snd steps r (upto snd steps r) N where
  zero := rfl
  one := fun n hn => by
    have h := h2 n hn
    refine ⟨(upto snd steps r n)[n], by simp [h], ?_⟩
    show (match (upto snd steps r n)[n]? with | some p => turn snd steps (upto snd steps r n) p | none => upto snd steps r n) = _
    rw [List.getElem?_eq_getElem h]
  le := fun n hn => by
    have h := upto_mono' snd steps r n (N - n)
    rw [show n + (N - n) = N by omega, h1] at h
    exact h
  last := h1
theorem run_upto (snd : Int → Row → Row) (steps : List Int) (r : Row) : ∀ (k n : Nat), (∀ i, i < k → n + i < (upto snd steps r (n + i)).length) → run snd steps k n (upto snd steps r n) = upto snd steps r (n + k)
  | 0, n, _ => rfl
  | k + 1, n, h => by
    have h0 : n < (upto snd steps r n).length := h 0 (Nat.succ_pos _)
    have e : upto snd steps r (n + 1) = turn snd steps (upto snd steps r n) ((upto snd steps r n)[n]) := by
      show (match (upto snd steps r n)[n]? with | some p => turn snd steps (upto snd steps r n) p | none => upto snd steps r n) = _
      rw [List.getElem?_eq_getElem h0]
    show (match (upto snd steps r n)[n]? with | some p => run snd steps k (n + 1) (turn snd steps (upto snd steps r n) p) | none => upto snd steps r n) = _
    rw [List.getElem?_eq_getElem h0]
    show run snd steps k (n + 1) (turn snd steps (upto snd steps r n) ((upto snd steps r n)[n])) = _
    rw [← e, run_upto snd steps r k (n + 1) (fun i hi => by
      have := h (i + 1) (by omega)
      rw [show n + 1 + i = n + (i + 1) by omega]
      exact this), show n + 1 + k = n + (k + 1) by omega]
/-- the run with its own watch: none where a row is lacking on the way -/
def runW (snd : Int → Row → Row) (steps : List Int) : Nat → Nat → Lst → Option Lst
  | 0, _, L => some L
  | k + 1, n, L => match L[n]? with
    | some p => runW snd steps k (n + 1) (turn snd steps L p)
    | none => none
theorem runW_upto (snd : Int → Row → Row) (steps : List Int) (r : Row) : ∀ (k n : Nat) (L : Lst), runW snd steps k n (upto snd steps r n) = some L → L = upto snd steps r (n + k) ∧ ∀ i, i < k → n + i < (upto snd steps r (n + i)).length
  | 0, n, L, h => ⟨(Option.some.inj h).symm, fun i hi => absurd hi (Nat.not_lt_zero _)⟩
  | k + 1, n, L, h => by
    have h' : (match (upto snd steps r n)[n]? with | some p => runW snd steps k (n + 1) (turn snd steps (upto snd steps r n) p) | none => none) = some L := h
    cases e : (upto snd steps r n)[n]? with
    | none => rw [e] at h'; cases h'
    | some p =>
      rw [e] at h'
      have e1 : upto snd steps r (n + 1) = turn snd steps (upto snd steps r n) p := by
        show (match (upto snd steps r n)[n]? with | some p => turn snd steps (upto snd steps r n) p | none => upto snd steps r n) = _
        rw [e]
      have h2 : runW snd steps k (n + 1) (upto snd steps r (n + 1)) = some L := by rw [e1]; exact h'
      obtain ⟨a, b⟩ := runW_upto snd steps r k (n + 1) L h2
      refine ⟨by rw [a, show n + 1 + k = n + (k + 1) by omega], fun i hi => ?_⟩
      cases i with
      | zero => exact (List.getElem?_eq_some_iff.mp e).1
      | succ j =>
        have := b j (by omega)
        rw [show n + 1 + j = n + (j + 1) by omega] at this
        exact this
theorem over_run {snd : Int → Row → Row} {steps : List Int} {r : Row} {N : Nat} {L : Lst} (h : runW snd steps N 0 [(r, [])] = some L) (hl : L.length = N) : Over snd steps r (upto snd steps r) N ∧ upto snd steps r N = L := by
  obtain ⟨a, b⟩ := runW_upto snd steps r N 0 L h
  rw [Nat.zero_add] at a
  refine ⟨over_upto (by rw [← a, hl]) (fun n hn => ?_), a.symm⟩
  have := b n hn
  rw [Nat.zero_add] at this
  exact this
end KW
namespace KW
/-! ### the counting hand -/
def rowOf (m : Nat) : Nat → Nat → Row
  | 0, _ => []
  | n + 1, k => (k % m) :: rowOf m n (k / m)
def inc (m : Nat) : Row → Row
  | [] => []
  | x :: r => if x + 1 = m then 0 :: inc m r else (x + 1) :: r
def dec (m : Nat) : Row → Row
  | [] => []
  | x :: r => if x = 0 then (m - 1) :: dec m r else (x - 1) :: r
theorem rowOf_len (m : Nat) : ∀ n k, (rowOf m n k).length = n
  | 0, _ => rfl
  | n + 1, k => by show (rowOf m n (k / m)).length + 1 = n + 1; rw [rowOf_len m n]
theorem rowOf_lt {m : Nat} (hm : 0 < m) : ∀ n k, ∀ x ∈ rowOf m n k, x < m
  | 0, _, x, h => by cases h
  | n + 1, k, x, h => by
    rcases List.mem_cons.mp h with e | h
    · rw [e]; exact Nat.mod_lt _ hm
    · exact rowOf_lt hm n (k / m) x h
theorem inc_rowOf {m : Nat} (hm : 1 < m) : ∀ n k, inc m (rowOf m n k) = rowOf m n (k + 1)
  | 0, _ => rfl
  | n + 1, k => by
    have hlt := Nat.mod_lt k (show 0 < m by omega)
    show (if k % m + 1 = m then 0 :: inc m (rowOf m n (k / m)) else (k % m + 1) :: rowOf m n (k / m)) = ((k + 1) % m) :: rowOf m n ((k + 1) / m)
    have hd := Nat.div_add_mod k m
    by_cases c : k % m + 1 = m
    · have e1 : k + 1 = m * (k / m + 1) := by rw [Nat.mul_add]; omega
      have e2 : (k + 1) % m = 0 := by rw [e1]; exact Nat.mul_mod_right _ _
      have e3 : (k + 1) / m = k / m + 1 := by rw [e1]; exact Nat.mul_div_cancel_left _ (by omega)
      rw [if_pos c, e2, e3, inc_rowOf hm n]
    · have e1 : k + 1 = (k % m + 1) + m * (k / m) := by omega
      have e2 : (k + 1) % m = k % m + 1 := by rw [e1, Nat.add_mul_mod_self_left]; exact Nat.mod_eq_of_lt (by omega)
      have e3 : (k + 1) / m = k / m := by rw [e1, Nat.add_mul_div_left _ _ (by omega), Nat.div_eq_of_lt (by omega), Nat.zero_add]
      rw [if_neg c, e2, e3]
theorem dec_inc {m : Nat} (hm : 1 < m) : ∀ r : Row, (∀ x ∈ r, x < m) → dec m (inc m r) = r
  | [], _ => rfl
  | x :: r, h => by
    have hx := h x List.mem_cons_self
    have hr := dec_inc hm r fun y hy => h y (List.mem_cons_of_mem _ hy)
    show dec m (if x + 1 = m then 0 :: inc m r else (x + 1) :: r) = x :: r
    by_cases c : x + 1 = m
    · rw [if_pos c]
      show (if 0 = 0 then (m - 1) :: dec m (inc m r) else _) = _
      rw [if_pos rfl, hr, show m - 1 = x by omega]
    · rw [if_neg c]
      show (if x + 1 = 0 then _ else (x + 1 - 1) :: r) = _
      rw [if_neg (by omega), Nat.add_sub_cancel]
theorem dec_rowOf {m : Nat} (hm : 1 < m) (n k : Nat) : dec m (rowOf m n (k + 1)) = rowOf m n k := by
  rw [← inc_rowOf hm, dec_inc hm _ (rowOf_lt (by omega) n k)]
theorem rowOf_mod {m : Nat} (hm : 0 < m) : ∀ n k, rowOf m n (k % m ^ n) = rowOf m n k
  | 0, _ => rfl
  | n + 1, k => by
    show (k % m ^ (n + 1) % m) :: rowOf m n (k % m ^ (n + 1) / m) = (k % m) :: rowOf m n (k / m)
    have e1 : k % m ^ (n + 1) % m = k % m := Nat.mod_mod_of_dvd _ ⟨m ^ n, by rw [Nat.pow_succ, Nat.mul_comm]⟩
    have e2 : k % m ^ (n + 1) / m = k / m % m ^ n := by
      rw [Nat.pow_succ, Nat.mul_comm]
      exact Nat.mod_mul_right_div_self ..
    rw [e1, e2, rowOf_mod hm n]
theorem rowOf_inj {m : Nat} (hm : 0 < m) : ∀ n a b, a < m ^ n → b < m ^ n → rowOf m n a = rowOf m n b → a = b
  | 0, a, b, ha, hb, _ => by
    rw [Nat.pow_zero] at ha hb
    omega
  | n + 1, a, b, ha, hb, h => by
    have h' : (a % m) :: rowOf m n (a / m) = (b % m) :: rowOf m n (b / m) := h
    injection h' with h1 h2
    have up : ∀ x, x < m ^ (n + 1) → x / m < m ^ n := fun x hx => by
      rw [Nat.pow_succ, Nat.mul_comm] at hx
      exact Nat.div_lt_of_lt_mul hx
    have e := rowOf_inj hm n _ _ (up a ha) (up b hb) h2
    have d1 := Nat.div_add_mod a m
    have d2 := Nat.div_add_mod b m
    rw [e, h1] at d1
    omega
theorem rowOf_all {m : Nat} (hm : 0 < m) : ∀ (r : Row), (∀ x ∈ r, x < m) → ∃ k, k < m ^ r.length ∧ rowOf m r.length k = r
  | [], _ => ⟨0, by simp, rfl⟩
  | x :: r, h => by
    have hx := h x List.mem_cons_self
    obtain ⟨k, hk, e⟩ := rowOf_all hm r fun y hy => h y (List.mem_cons_of_mem _ hy)
    refine ⟨x + m * k, ?_, ?_⟩
    · show x + m * k < m ^ (r.length + 1)
      have h1 : m * (k + 1) ≤ m * m ^ r.length := Nat.mul_le_mul_left _ hk
      rw [Nat.mul_add] at h1
      rw [Nat.pow_succ, Nat.mul_comm (m ^ r.length) m]
      omega
    · show ((x + m * k) % m) :: rowOf m r.length ((x + m * k) / m) = x :: r
      rw [Nat.add_mul_mod_self_left, Nat.mod_eq_of_lt hx, Nat.add_mul_div_left _ _ hm, Nat.div_eq_of_lt hx, Nat.zero_add, e]
theorem rowOf_zero (m : Nat) : ∀ n, rowOf m n 0 = List.replicate n 0
  | 0 => rfl
  | n + 1 => by
    show (0 % m) :: rowOf m n (0 / m) = _
    rw [Nat.zero_mod, Nat.zero_div, rowOf_zero m n]
    rfl
/-! ### a ring of N rows e 0, e 1, .. -/
/-- the place of the i-th row that comes -/
def off (N i : Nat) : Nat := if i % 2 = 1 then (i + 1) / 2 else if i = 0 then 0 else N - i / 2
/-- when the row at place q comes -/
def com (N q : Nat) : Nat := if 2 * q ≤ N then (if q = 0 then 0 else 2 * q - 1) else 2 * (N - q)
def wd (st : Int) (i : Nat) : Wd := if i % 2 = 1 then List.replicate ((i + 1) / 2) st else List.replicate (i / 2) (-st)
theorem off_lt {N i : Nat} (h : i < N) : off N i < N := by
  unfold off
  (repeat' split) <;> omega
theorem com_lt {N q : Nat} (h : q < N) : com N q < N := by
  unfold com
  (repeat' split) <;> omega
theorem com_off {N i : Nat} (h : i < N) : com N (off N i) = i := by
  unfold com off
  (repeat' split) <;> omega
theorem off_com {N q : Nat} (h : q < N) : off N (com N q) = q := by
  unfold com off
  (repeat' split) <;> omega
/-- a ring told by its rows -/
structure Ring (snd : Int → Row → Row) (st : Int) (e : Nat → Row) (N : Nat) : Prop where
  pos : 0 < N
  per : ∀ p, e (p % N) = e p
  inj : ∀ p q, p < N → q < N → e p = e q → p = q
  up : ∀ p, snd st (e p) = e (p + 1)
  dn : ∀ p, snd (-st) (e (p + 1)) = e p
def S (e : Nat → Row) (st : Int) (N i : Nat) : Row × Wd := (e (off N i), wd st i)
def St (e : Nat → Row) (st : Int) (N k : Nat) : Lst := (List.range k).map (S e st N)
theorem St_len (e : Nat → Row) (st : Int) (N k : Nat) : (St e st N k).length = k := by unfold St; simp
theorem St_get (e : Nat → Row) (st : Int) (N : Nat) {k i : Nat} (h : i < k) : (St e st N k)[i]? = some (S e st N i) := by
  unfold St
  rw [List.getElem?_map, List.getElem?_range h]
  rfl
theorem St_succ (e : Nat → Row) (st : Int) (N k : Nat) : St e st N (k + 1) = St e st N k ++ [S e st N k] := by
  unfold St
  rw [List.range_succ, List.map_append]
  rfl
section
variable {snd : Int → Row → Row} {st : Int} {e : Nat → Row} {N : Nat} (R : Ring snd st e N)
include R
theorem mem_keys {k p : Nat} (hk : k ≤ N) : e p ∈ keys (St e st N k) ↔ com N (p % N) < k := by
  have hp := Nat.mod_lt p R.pos
  unfold keys St
  rw [List.map_map, List.mem_map]
  constructor
  · rintro ⟨i, hi, h⟩
    have hi := List.mem_range.mp hi
    have h : e (off N i) = e p := h
    rw [← R.per p] at h
    have q := R.inj _ _ (off_lt (Nat.lt_of_lt_of_le hi hk)) hp h
    rw [← q, com_off (Nat.lt_of_lt_of_le hi hk)]
    exact hi
  · intro h
    refine ⟨com N (p % N), List.mem_range.mpr h, ?_⟩
    show e (off N (com N (p % N))) = e p
    rw [off_com hp, R.per]
/-- a step that finds the next row, or one that is there -/
theorem meet_next {s : Int} {one : Row} {w : Wd} {k p : Nat} (hs : snd s one = e p) (hk : k ≤ N) (hc : com N (p % N) ≤ k) (hw : com N (p % N) = k → w ++ [s] = wd st k) :
    meet snd one w (St e st N k) s = St e st N (if com N (p % N) = k then k + 1 else k) := by
  unfold meet
  rw [hs]
  by_cases c : com N (p % N) = k
  · rw [if_neg (fun z => by have := (mem_keys R hk).mp z; omega), if_pos c, St_succ, hw c]
    have e1 : e p = e (off N k) := by rw [← c, off_com (Nat.mod_lt p R.pos), R.per]
    rw [e1]
    rfl
  · rw [if_pos ((mem_keys R hk).mpr (by omega)), if_neg c]
theorem wd_up {j : Nat} : wd st (2 * j - 1) ++ [st] = wd st (2 * j + 1) ∨ j = 0 := by
  by_cases h : j = 0
  · exact .inr h
  · left
    unfold wd
    rw [if_pos (by omega), if_pos (by omega), show (2 * j - 1 + 1) / 2 = j by omega, show (2 * j + 1 + 1) / 2 = j + 1 by omega, List.replicate_succ']
theorem wd_dn {j : Nat} : wd st (2 * j) ++ [-st] = wd st (2 * j + 2) := by
  unfold wd
  rw [if_neg (by omega), if_neg (by omega), show (2 * j) / 2 = j by omega, show (2 * j + 2) / 2 = j + 1 by omega, List.replicate_succ']
/-- how many have come behind n rows looked at -/
def cm (N n : Nat) : Nat := if n = 0 then 1 else min N (n + 2)
/-- the pair st, -st at the n-th row -/
theorem two {n : Nat} (hn : n < N) : meet snd (e (off N n)) (wd st n) (meet snd (e (off N n)) (wd st n) (St e st N (cm N n)) st) (-st) = St e st N (cm N (n + 1)) := by
  have hN := R.pos
  have up : snd st (e (off N n)) = e (off N n + 1) := R.up _
  have dn : snd (-st) (e (off N n)) = e (off N n + N - 1) := by
    have h := R.dn (off N n + N - 1)
    rw [show off N n + N - 1 + 1 = off N n + N by omega] at h
    rw [← h, ← R.per (off N n + N), Nat.add_mod_right, R.per]
  have ho := off_lt hn
  have mu : (off N n + 1) % N = if off N n + 1 = N then 0 else off N n + 1 := by
    split
    · rename_i q; rw [q, Nat.mod_self]
    · exact Nat.mod_eq_of_lt (by omega)
  have md : (off N n + N - 1) % N = if off N n = 0 then N - 1 else off N n - 1 := by
    split
    · rename_i q; rw [q, Nat.zero_add]; exact Nat.mod_eq_of_lt (by omega)
    · rw [show off N n + N - 1 = off N n - 1 + N by omega, Nat.add_mod_right]; exact Nat.mod_eq_of_lt (by omega)
  have hcm : cm N n ≤ N := by unfold cm; split <;> omega
  -- where the two steps lead
  have cu : com N ((off N n + 1) % N) = if n = 0 then (if N = 1 then 0 else 1) else if n % 2 = 1 then (if n + 2 < N then n + 2 else com N ((off N n + 1) % N)) else n - 2 := by
    rw [mu]
    unfold off com
    (repeat' split) <;> omega
  have cu2 : n % 2 = 1 → N ≤ n + 2 → com N ((off N n + 1) % N) < N := fun _ _ => com_lt (Nat.mod_lt _ hN)
  have cd : com N ((off N n + N - 1) % N) = if n = 0 then (if N = 1 then 0 else if N = 2 then 1 else 2) else if n % 2 = 0 then (if n + 2 < N then n + 2 else com N ((off N n + N - 1) % N)) else (if n = 1 then 0 else n - 2) := by
    rw [md]
    unfold off com
    (repeat' split) <;> omega
  have cd2 : com N ((off N n + N - 1) % N) < N := com_lt (Nat.mod_lt _ hN)
  by_cases h0 : n = 0
  · subst h0
    have z : wd st 0 = [] := rfl
    have e1 : ([] : Wd) ++ [st] = wd st 1 := rfl
    have e2 : ([] : Wd) ++ [-st] = wd st 2 := rfl
    have k1 : cm N 0 = 1 := rfl
    rw [k1, z, meet_next R up hN (by rw [cu, if_pos rfl]; split <;> omega) (fun _ => e1)]
    rw [cu, if_pos rfl]
    by_cases hN1 : N = 1
    · rw [if_pos hN1, if_neg (by omega), meet_next R dn hN (by rw [cd, if_pos rfl, if_pos hN1]; omega) (fun h => by rw [cd, if_pos rfl, if_pos hN1] at h; omega)]
      rw [cd, if_pos rfl, if_pos hN1, if_neg (by omega)]
      unfold cm
      rw [if_neg (by omega), show min N (0 + 1 + 2) = 1 by omega]
    · rw [if_neg hN1, if_pos rfl]
      by_cases hN2 : N = 2
      · rw [meet_next R dn (by omega) (by rw [cd, if_pos rfl, if_neg hN1, if_pos hN2]; omega) (fun h => by rw [cd, if_pos rfl, if_neg hN1, if_pos hN2] at h; omega)]
        rw [cd, if_pos rfl, if_neg hN1, if_pos hN2, if_neg (by omega)]
        unfold cm
        rw [if_neg (by omega), show min N (0 + 1 + 2) = 1 + 1 by omega]
      · rw [meet_next R dn (by omega) (by rw [cd, if_pos rfl, if_neg hN1, if_neg hN2]; omega) (fun _ => e2)]
        rw [cd, if_pos rfl, if_neg hN1, if_neg hN2, if_pos (by omega)]
        unfold cm
        rw [if_neg (by omega), show min N (0 + 1 + 2) = 1 + 1 + 1 by omega]
  · have k1 : cm N n = min N (n + 2) := if_neg h0
    have k2 : cm N (n + 1) = min N (n + 3) := if_neg (by omega)
    rw [k1, k2]
    by_cases hodd : n % 2 = 1
    · obtain ⟨j, hj⟩ : ∃ j, n = 2 * j - 1 ∧ 0 < j := ⟨(n + 1) / 2, by omega⟩
      have wu : wd st n ++ [st] = wd st (n + 2) := by
        rcases wd_up R (j := j) with h | h
        · rw [hj.1, show 2 * j - 1 + 2 = 2 * j + 1 by omega]; exact h
        · omega
      by_cases hl : n + 2 < N
      · rw [show min N (n + 2) = n + 2 by omega, show min N (n + 3) = n + 3 by omega]
        have cu' : com N ((off N n + 1) % N) = n + 2 := by rw [cu, if_neg h0, if_pos hodd, if_pos hl]
        have cd' : com N ((off N n + N - 1) % N) < n := by rw [cd, if_neg h0, if_neg (by omega)]; split <;> omega
        rw [meet_next R up (by omega) (by omega) (fun _ => wu), if_pos cu', meet_next R dn (by omega) (by omega) (fun h => by omega), if_neg (by omega)]
      · rw [show min N (n + 2) = N by omega, show min N (n + 3) = N by omega]
        have cu' := cu2 hodd (by omega)
        rw [meet_next R up (by omega) (by omega) (fun h => by omega), if_neg (by omega), meet_next R dn (by omega) (by omega) (fun h => by omega), if_neg (by omega)]
    · have wdn : wd st n ++ [-st] = wd st (n + 2) := by
        have h := wd_dn R (j := n / 2)
        rw [show 2 * (n / 2) = n by omega] at h
        exact h
      have cu' : com N ((off N n + 1) % N) < n := by rw [cu, if_neg h0, if_neg hodd]; omega
      by_cases hl : n + 2 < N
      · rw [show min N (n + 2) = n + 2 by omega, show min N (n + 3) = n + 3 by omega]
        have cd' : com N ((off N n + N - 1) % N) = n + 2 := by rw [cd, if_neg h0, if_pos (by omega), if_pos hl]
        rw [meet_next R up (by omega) (by omega) (fun h => by omega), if_neg (by omega), meet_next R dn (by omega) (by omega) (fun _ => wdn), if_pos cd']
      · rw [show min N (n + 2) = N by omega, show min N (n + 3) = N by omega]
        rw [meet_next R up (by omega) (by omega) (fun h => by omega), if_neg (by omega), meet_next R dn (by omega) (by omega) (fun h => by omega), if_neg (by omega)]
end
end KW
namespace KW
/-! ### a ring's going over -/
section
variable {snd : Int → Row → Row} {st : Int} {e : Nat → Row} {N : Nat}
theorem meet_there {one : Row} {w : Wd} {L : Lst} {s : Int} (h : snd s one ∈ keys L) : meet snd one w L s = L := if_pos h
theorem fold_still (ss : List Int) (one : Row) (w : Wd) (hs : ∀ s ∈ ss, snd s one = one) : ∀ (L : Lst), one ∈ keys L → ss.foldl (meet snd one w) L = L := by
  induction ss with
  | nil => intro L _; rfl
  | cons s r ih =>
    intro L hL
    rw [List.foldl_cons, meet_there (by rw [hs s List.mem_cons_self]; exact hL)]
    exact ih (fun x hx => hs x (List.mem_cons_of_mem _ hx)) L hL
theorem ring_over (R : Ring snd st e N) {pre post : List Int} (h1 : ∀ s ∈ pre, ∀ p, snd s (e p) = e p) (h2 : ∀ s ∈ post, ∀ p, snd s (e p) = e p) :
    Over snd (pre ++ st :: -st :: post) (e 0) (fun n => St e st N (cm N n)) N where
  zero := by
    show St e st N 1 = _
    rw [St_succ]
    rfl
  one := fun n hn => by
    have hk : n < cm N n := by unfold cm; split <;> omega
    refine ⟨S e st N n, St_get e st N hk, ?_⟩
    have hp := R.pos
    have hcm : cm N n ≤ N := by unfold cm; split <;> omega
    have hcm2 : cm N (n + 1) ≤ N := by unfold cm; rw [if_neg (by omega)]; omega
    have hk2 : n < cm N (n + 1) := by unfold cm; rw [if_neg (by omega)]; omega
    have m1 : e (off N n) ∈ keys (St e st N (cm N n)) := (mem_keys R hcm).mpr (by rw [Nat.mod_eq_of_lt (off_lt hn), com_off hn]; exact hk)
    have m2 : e (off N n) ∈ keys (St e st N (cm N (n + 1))) := (mem_keys R hcm2).mpr (by rw [Nat.mod_eq_of_lt (off_lt hn), com_off hn]; exact hk2)
    show St e st N (cm N (n + 1)) = (pre ++ st :: -st :: post).foldl (meet snd (e (off N n)) (wd st n)) (St e st N (cm N n))
    rw [List.foldl_append, fold_still pre _ _ (fun s hs => h1 s hs _) _ m1, List.foldl_cons, List.foldl_cons, two R hn, fold_still post _ _ (fun s hs => h2 s hs _) _ m2]
  le := fun n hn => by
    rw [St_len]
    have hp := R.pos
    unfold cm
    split <;> omega
  last := by
    rw [St_len]
    unfold cm
    have := R.pos
    rw [if_neg (by omega)]
    omega
/-- the word told for a row -/
def look (L : Lst) (r : Row) : Option Wd := (L.find? fun x => decide (x.1 = r)).map (·.2)
theorem look_some : ∀ {L : Lst} {r : Row} {i : Nat} {w : Wd}, L[i]? = some (r, w) → (∀ j x, j < i → L[j]? = some x → x.1 ≠ r) → look L r = some w
  | [], r, i, w, h, _ => by simp at h
  | x :: L, r, 0, w, h, _ => by
    have h : x = (r, w) := by simpa using h
    subst h
    simp [look, List.find?_cons]
  | x :: L, r, i + 1, w, h, hj => by
    have hx : x.1 ≠ r := hj 0 x (Nat.succ_pos _) rfl
    have ih := look_some (L := L) (r := r) (i := i) (w := w) (by simpa using h) fun j y hji hy => hj (j + 1) y (by omega) (by simpa using hy)
    unfold look at ih ⊢
    rw [List.find?_cons, decide_eq_false hx]
    exact ih
theorem ring_look (R : Ring snd st e N) (p : Nat) : look (St e st N N) (e p) = some (wd st (com N (p % N))) := by
  have hp := Nat.mod_lt p R.pos
  have hc := com_lt hp
  refine look_some (i := com N (p % N)) ?_ fun j x hj hx => ?_
  · rw [St_get e st N hc]
    show some (e (off N (com N (p % N))), _) = _
    rw [off_com hp, R.per]
  · rw [St_get e st N (Nat.lt_trans hj hc)] at hx
    have hx := Option.some.inj hx
    subst hx
    intro z
    have z : e (off N j) = e p := z
    rw [← R.per p] at z
    have q := R.inj _ _ (off_lt (Nat.lt_trans hj hc)) hp z
    have := com_off (Nat.lt_trans hj hc)
    rw [q] at this
    omega
theorem ring_all (R : Ring snd st e N) (p : Nat) : e p ∈ keys (St e st N N) := (mem_keys R (Nat.le_refl _)).mpr (com_lt (Nat.mod_lt p R.pos))
end
/-- round a ring, the shorter way -/
theorem wd_com (st : Int) {N q : Nat} (h : q < N) : wd st (com N q) = if q ≤ N - q then List.replicate q st else List.replicate (N - q) (-st) := by
  unfold com wd
  by_cases c : 2 * q ≤ N
  · rw [if_pos c, if_pos (show q ≤ N - q by omega)]
    by_cases z : q = 0
    · subst z
      rfl
    · rw [if_neg z, if_pos (by omega), show (2 * q - 1 + 1) / 2 = q by omega]
  · rw [if_neg c, if_neg (show ¬ q ≤ N - q by omega), if_neg (by omega), show 2 * (N - q) / 2 = N - q by omega]

/-! ### books as data -/
abbrev Hds := List (Row × Wd)
def hdOf (B : Hds) (s : Int) : Row × Wd := B.getD (s.natAbs - 1) ([], [])
def undo (t : Row) : Row := (List.range t.length).map fun y => t.idxOf y
def turnOf (B : Hds) (s : Int) : Row := if 0 < s then (hdOf B s).1 else undo (hdOf B s).1
def onw (B : Hds) (s : Int) (x : Nat) : Int := if 0 < s then (hdOf B s).2.getD x 0 else -((hdOf B s).2.getD ((hdOf B s).1.idxOf x) 0)
def sent (B : Hds) : Int → Row → Row
  | _, [] => []
  | s, x :: r => (if s = 0 then x else (turnOf B s).getD x 0) :: sent B (if s = 0 then 0 else onw B s x) r
def steps (k : Nat) : List Int := (List.range k).flatMap fun i : Nat => [((i : Int) + 1), -((i : Int) + 1)]
theorem sent_0 (B : Hds) : ∀ r, sent B 0 r = r
  | [] => rfl
  | x :: r => by
    show (if (0 : Int) = 0 then x else _) :: sent B (if (0 : Int) = 0 then 0 else _) r = x :: r
    rw [if_pos rfl, if_pos rfl, sent_0 B r]
/-- what must hold of a hand so that Python takes it -/
def okHd (m k : Nat) (h : Row × Wd) : Bool := h.1.isPerm (List.range m) && h.2.length == m && h.2.all fun s => decide (-(k : Int) ≤ s) && decide (s ≤ (k : Int))
def okB (m : Nat) (B : Hds) : Bool := decide (2 ≤ m) && decide (m ≤ 4) && decide (B.length ≤ 6) && B.all (okHd m B.length)
/-! ### the counting book -/
def still (m : Nat) : Row × Wd := (List.range m, List.replicate m 0)
def counts (m st : Nat) : Row × Wd := (List.range' 1 (m - 1) ++ [0], List.replicate (m - 1) 0 ++ [(st : Int)])
def cbook (m ahead st : Nat) : Hds := (List.replicate ahead (still m)).insertIdx (st - 1) (counts m st)
structure CB (m ahead st : Nat) : Prop where
  m2 : 2 ≤ m
  m4 : m ≤ 4
  a2 : ahead ≤ 2
  s1 : 1 ≤ st
  sa : st ≤ ahead + 1
/-- all that is asked of the hands of the counting book, by looking -/
def cbOk (m ahead st : Nat) : Bool :=
  okB m (cbook m ahead st) && (cbook m ahead st).length == ahead + 1 &&
  (List.range m).all (fun x => (turnOf (cbook m ahead st) st).getD x 0 == (if x + 1 = m then 0 else x + 1) && onw (cbook m ahead st) st x == (if x + 1 = m then (st : Int) else 0) &&
    (turnOf (cbook m ahead st) (-st)).getD x 0 == (if x = 0 then m - 1 else x - 1) && onw (cbook m ahead st) (-st) x == (if x = 0 then -(st : Int) else 0)) &&
  (List.range (ahead + 1)).all (fun i => i + 1 == st || (List.range m).all fun x => (turnOf (cbook m ahead st) (i + 1)).getD x 0 == x && onw (cbook m ahead st) (i + 1) x == 0 && (turnOf (cbook m ahead st) (-(i + 1))).getD x 0 == x && onw (cbook m ahead st) (-(i + 1)) x == 0)
theorem cb_all : ((List.range 3).all fun a => (List.range 3).all fun b => (List.range 3).all fun c => decide (b < c) || cbOk (a + 2) b (c + 1)) = true := by decide +kernel
theorem cb_ok {m ahead st : Nat} (C : CB m ahead st) : cbOk m ahead st = true := by
  have h := cb_all
  rw [List.all_eq_true] at h
  have h := h (m - 2) (List.mem_range.mpr (by have := C.m4; omega))
  rw [List.all_eq_true] at h
  have h := h ahead (List.mem_range.mpr (by have := C.a2; omega))
  rw [List.all_eq_true] at h
  have h := h (st - 1) (List.mem_range.mpr (by have := C.sa; have := C.a2; have := C.s1; omega))
  rw [show m - 2 + 2 = m by have := C.m2; omega, show st - 1 + 1 = st by have := C.s1; omega, Bool.or_eq_true] at h
  rcases h with h | h
  · have := of_decide_eq_true h
    have := C.sa
    have := C.s1
    omega
  · exact h
section
variable {m ahead st : Nat} (C : CB m ahead st)
include C
theorem cb_okB : okB m (cbook m ahead st) = true := by
  have h := cb_ok C
  unfold cbOk at h
  simp only [Bool.and_eq_true] at h
  exact h.1.1.1
theorem cb_len : (cbook m ahead st).length = ahead + 1 := by
  have h := cb_ok C
  unfold cbOk at h
  simp only [Bool.and_eq_true] at h
  simpa using h.1.1.2
theorem cb_hand {x : Nat} (hx : x < m) : (turnOf (cbook m ahead st) st).getD x 0 = (if x + 1 = m then 0 else x + 1) ∧ onw (cbook m ahead st) st x = (if x + 1 = m then (st : Int) else 0) ∧
    (turnOf (cbook m ahead st) (-st)).getD x 0 = (if x = 0 then m - 1 else x - 1) ∧ onw (cbook m ahead st) (-st) x = (if x = 0 then -(st : Int) else 0) := by
  have h := cb_ok C
  unfold cbOk at h
  simp only [Bool.and_eq_true] at h
  have h := (List.all_eq_true.mp h.1.2) x (List.mem_range.mpr hx)
  simp only [Bool.and_eq_true, beq_iff_eq] at h
  exact ⟨h.1.1.1, h.1.1.2, h.1.2, h.2⟩
theorem cb_still {i : Nat} (hi : i < ahead + 1) (hne : i + 1 ≠ st) {x : Nat} (hx : x < m) : (turnOf (cbook m ahead st) (i + 1)).getD x 0 = x ∧ onw (cbook m ahead st) (i + 1) x = 0 ∧ (turnOf (cbook m ahead st) (-(i + 1))).getD x 0 = x ∧ onw (cbook m ahead st) (-(i + 1)) x = 0 := by
  have h := cb_ok C
  unfold cbOk at h
  simp only [Bool.and_eq_true] at h
  have h := (List.all_eq_true.mp h.2) i (List.mem_range.mpr hi)
  rw [Bool.or_eq_true] at h
  rcases h with h | h
  · exact absurd (beq_iff_eq.mp h) hne
  · have h := (List.all_eq_true.mp h) x (List.mem_range.mpr hx)
    simp only [Bool.and_eq_true, beq_iff_eq] at h
    exact ⟨h.1.1.1, h.1.1.2, h.1.2, h.2⟩
theorem sent_up : ∀ r : Row, (∀ x ∈ r, x < m) → sent (cbook m ahead st) st r = inc m r
  | [], _ => rfl
  | x :: r, h => by
    have hx := cb_hand C (h x List.mem_cons_self)
    have hr := sent_up r fun y hy => h y (List.mem_cons_of_mem _ hy)
    have s0 : ¬ ((st : Int) = 0) := by have := C.s1; omega
    show (if (st : Int) = 0 then x else (turnOf (cbook m ahead st) st).getD x 0) :: sent (cbook m ahead st) (if (st : Int) = 0 then 0 else onw (cbook m ahead st) st x) r = (if x + 1 = m then 0 :: inc m r else (x + 1) :: r)
    rw [if_neg s0, if_neg s0, hx.1, hx.2.1]
    by_cases c : x + 1 = m
    · rw [if_pos c, if_pos c, if_pos c, hr]
    · rw [if_neg c, if_neg c, if_neg c, sent_0]
theorem sent_dn : ∀ r : Row, (∀ x ∈ r, x < m) → sent (cbook m ahead st) (-st) r = dec m r
  | [], _ => rfl
  | x :: r, h => by
    have hx := cb_hand C (h x List.mem_cons_self)
    have hr := sent_dn r fun y hy => h y (List.mem_cons_of_mem _ hy)
    have s0 : ¬ (-(st : Int) = 0) := by have := C.s1; omega
    show (if -(st : Int) = 0 then x else (turnOf (cbook m ahead st) (-st)).getD x 0) :: sent (cbook m ahead st) (if -(st : Int) = 0 then 0 else onw (cbook m ahead st) (-st) x) r = (if x = 0 then (m - 1) :: dec m r else (x - 1) :: r)
    rw [if_neg s0, if_neg s0, hx.2.2.1, hx.2.2.2]
    by_cases c : x = 0
    · rw [if_pos c, if_pos c, if_pos c, hr]
    · rw [if_neg c, if_neg c, if_neg c, sent_0]
theorem sent_still {i : Nat} (hi : i < ahead + 1) (hne : i + 1 ≠ st) : ∀ r : Row, (∀ x ∈ r, x < m) → sent (cbook m ahead st) (i + 1) r = r ∧ sent (cbook m ahead st) (-(i + 1)) r = r
  | [], _ => ⟨rfl, rfl⟩
  | x :: r, h => by
    have hx := cb_still C hi hne (h x List.mem_cons_self)
    have s0 : ¬ ((i : Int) + 1 = 0) := by omega
    have s1 : ¬ (-((i : Int) + 1) = 0) := by omega
    constructor
    · show (if (i : Int) + 1 = 0 then x else (turnOf (cbook m ahead st) (i + 1)).getD x 0) :: sent (cbook m ahead st) (if (i : Int) + 1 = 0 then 0 else onw (cbook m ahead st) (i + 1) x) r = x :: r
      rw [if_neg s0, if_neg s0, hx.1, hx.2.1, sent_0]
    · show (if -((i : Int) + 1) = 0 then x else (turnOf (cbook m ahead st) (-(i + 1))).getD x 0) :: sent (cbook m ahead st) (if -((i : Int) + 1) = 0 then 0 else onw (cbook m ahead st) (-(i + 1)) x) r = x :: r
      rw [if_neg s1, if_neg s1, hx.2.2.1, hx.2.2.2, sent_0]
omit C in
theorem add_inj {N a p q : Nat} (hp : p < N) (hq : q < N) (h : (a + p) % N = (a + q) % N) : p = q := by
  have f : ∀ y, y < N → (a + y) % N = if a % N + y < N then a % N + y else a % N + y - N := fun y hy => by
    have ha := Nat.mod_lt a (show 0 < N by omega)
    rw [← Nat.mod_add_mod]
    split
    · exact Nat.mod_eq_of_lt (by assumption)
    · rw [show a % N + y = (a % N + y - N) + N by omega, Nat.add_mod_right, Nat.mod_eq_of_lt (by omega)]
      omega
  rw [f p hp, f q hq] at h
  split at h <;> split at h <;> omega
theorem cb_ring (n a : Nat) : Ring (sent (cbook m ahead st)) st (fun p => rowOf m n (a + p)) (m ^ n) where
  pos := Nat.pow_pos (by have := C.m2; omega)
  per := fun p => by
    have h0 : 0 < m := by have := C.m2; omega
    show rowOf m n (a + p % m ^ n) = rowOf m n (a + p)
    rw [← rowOf_mod h0 n (a + p % m ^ n), Nat.add_mod_mod, rowOf_mod h0]
  inj := fun p q hp hq h => by
    have h0 : 0 < m := by have := C.m2; omega
    have hN : 0 < m ^ n := Nat.pow_pos h0
    have h : rowOf m n (a + p) = rowOf m n (a + q) := h
    rw [← rowOf_mod h0 n (a + p), ← rowOf_mod h0 n (a + q)] at h
    exact add_inj hp hq (rowOf_inj h0 n _ _ (Nat.mod_lt _ hN) (Nat.mod_lt _ hN) h)
  up := fun p => by
    show sent (cbook m ahead st) st (rowOf m n (a + p)) = rowOf m n (a + (p + 1))
    rw [sent_up C _ (rowOf_lt (by have := C.m2; omega) n _), inc_rowOf (by have := C.m2; omega)]
    rfl
  dn := fun p => by
    show sent (cbook m ahead st) (-st) (rowOf m n (a + (p + 1))) = rowOf m n (a + p)
    rw [sent_dn C _ (rowOf_lt (by have := C.m2; omega) n _)]
    exact dec_rowOf (by have := C.m2; omega) n (a + p)
omit C in
theorem steps_split : ∀ {k i : Nat}, i < k → steps k = (steps i ++ [((i : Int) + 1), -((i : Int) + 1)]) ++ ((List.range' (i + 1) (k - (i + 1))).flatMap fun i : Nat => [((i : Int) + 1), -((i : Int) + 1)]) := by
  intro k i h
  unfold steps
  have e : List.range k = (List.range i ++ [i]) ++ List.range' (i + 1) (k - (i + 1)) := by
    rw [List.range_eq_range', List.range_eq_range', show ([i] : List Nat) = List.range' i 1 from rfl]
    have e1 := List.range'_append (s := 0) (m := i) (n := 1) (step := 1)
    rw [show 0 + 1 * i = i by omega] at e1
    rw [e1]
    have e2 := List.range'_append (s := 0) (m := i + 1) (n := k - (i + 1)) (step := 1)
    rw [show 0 + 1 * (i + 1) = i + 1 by omega, show i + 1 + (k - (i + 1)) = k by omega] at e2
    exact e2.symm
  rw [e, List.flatMap_append, List.flatMap_append]
  rfl
/-- the going over of the counting book, from the row with the number a -/
theorem cb_over (n a : Nat) : Over (sent (cbook m ahead st)) (steps (ahead + 1)) (rowOf m n a) (fun k => St (fun p => rowOf m n (a + p)) st (m ^ n) (cm (m ^ n) k)) (m ^ n) := by
  have R := cb_ring C n a
  have hs : st - 1 < ahead + 1 := by have := C.sa; have := C.s1; omega
  have e := steps_split hs
  have e1 : (((st - 1 : Nat) : Int) + 1) = (st : Int) := by have := C.s1; omega
  rw [e1, List.append_assoc] at e
  have hm : 0 < m := by have := C.m2; omega
  have h := ring_over R (pre := steps (st - 1)) (post := (List.range' (st - 1 + 1) (ahead + 1 - (st - 1 + 1))).flatMap fun i : Nat => [((i : Int) + 1), -((i : Int) + 1)]) (fun s hs p => ?_) (fun s hs p => ?_)
  · rw [e]
    exact h
  · unfold steps at hs
    obtain ⟨i, hi, h⟩ := List.mem_flatMap.mp hs
    have hi := List.mem_range.mp hi
    have q := sent_still C (i := i) (by omega) (by omega) (rowOf m n (a + p)) (rowOf_lt hm n _)
    rcases List.mem_cons.mp h with h | h
    · rw [h]; exact q.1
    · rw [List.mem_singleton.mp h]; exact q.2
  · obtain ⟨i, hi, h⟩ := List.mem_flatMap.mp hs
    rw [List.mem_range'_1] at hi
    have q := sent_still C (i := i) (by omega) (by omega) (rowOf m n (a + p)) (rowOf_lt hm n _)
    rcases List.mem_cons.mp h with h | h
    · rw [h]; exact q.1
    · rw [List.mem_singleton.mp h]; exact q.2
/-- the list that comes -/
def cbL (m st n a : Nat) : Lst := St (fun p => rowOf m n (a + p)) st (m ^ n) (m ^ n)
theorem cb_last (n a : Nat) : St (fun p => rowOf m n (a + p)) (st : Int) (m ^ n) (cm (m ^ n) (m ^ n)) = cbL m st n a := by
  have hN : 0 < m ^ n := Nat.pow_pos (by have := C.m2; omega)
  unfold cbL cm
  rw [if_neg (by omega), show min (m ^ n) (m ^ n + 2) = m ^ n by omega]
omit C in
theorem cbL_len (n a : Nat) : (cbL m st n a).length = m ^ n := St_len _ _ _ _
/-- every row of the level comes -/
theorem cbL_all {n a : Nat} {r : Row} (hl : r.length = n) (hr : ∀ x ∈ r, x < m) : r ∈ keys (cbL m st n a) := by
  have hm : 0 < m := by have := C.m2; omega
  have hN : 0 < m ^ n := Nat.pow_pos hm
  obtain ⟨k, hk, e⟩ := rowOf_all hm r hr
  rw [hl] at hk e
  have h := ring_all (cb_ring C n a) (k + (m ^ n - a % m ^ n))
  have e2 : rowOf m n (a + (k + (m ^ n - a % m ^ n))) = r := by
    rw [← rowOf_mod hm n, ← e, ← rowOf_mod hm n k]
    congr 1
    have ha := Nat.mod_lt a hN
    rw [Nat.add_mod, show (k + (m ^ n - a % m ^ n)) % m ^ n = ((k + (m ^ n - a % m ^ n)) % m ^ n) from rfl, ← Nat.add_mod, ← Nat.mod_add_mod, show a % m ^ n + (k + (m ^ n - a % m ^ n)) = k + m ^ n by omega, Nat.add_mod_right]
  rw [← e2]
  exact h
/-- the way to the row with the number o -/
theorem cbL_look {n a o : Nat} (ha : a < m ^ n) (ho : o < m ^ n) : look (cbL m st n a) (rowOf m n o) = some (if (o + m ^ n - a) % m ^ n ≤ m ^ n - (o + m ^ n - a) % m ^ n then List.replicate ((o + m ^ n - a) % m ^ n) (st : Int) else List.replicate (m ^ n - (o + m ^ n - a) % m ^ n) (-(st : Int))) := by
  have hm : 0 < m := by have := C.m2; omega
  have hN : 0 < m ^ n := Nat.pow_pos hm
  have h := ring_look (cb_ring C n a) (o + m ^ n - a)
  have e2 : rowOf m n (a + (o + m ^ n - a)) = rowOf m n o := by
    rw [show a + (o + m ^ n - a) = o + m ^ n by omega, ← rowOf_mod hm n (o + m ^ n), Nat.add_mod_right, rowOf_mod hm]
  rw [e2, wd_com _ (Nat.mod_lt _ hN)] at h
  exact h
end
/-! ### rows of a level, rising -/
def level (m : Nat) : Nat → List Row
  | 0 => [[]]
  | n + 1 => (level m n).flatMap fun r => (List.range m).map fun x => r ++ [x]
theorem level_mem (m : Nat) : ∀ n (r : Row), r ∈ level m n → r.length = n ∧ ∀ x ∈ r, x < m
  | 0, r, h => by
    have h : r = [] := by simpa [level] using h
    subst h
    exact ⟨rfl, fun x hx => by cases hx⟩
  | n + 1, r, h => by
    obtain ⟨r0, h0, h1⟩ := List.mem_flatMap.mp h
    obtain ⟨x, hx, e⟩ := List.mem_map.mp h1
    have ih := level_mem m n r0 h0
    subst e
    refine ⟨by simp [ih.1], fun y hy => ?_⟩
    rcases List.mem_append.mp hy with h | h
    · exact ih.2 y h
    · rw [List.mem_singleton.mp h]
      exact List.mem_range.mp hx
theorem level_head {m : Nat} (hm : 0 < m) : ∀ n, ∃ r, level m n = List.replicate n 0 :: r
  | 0 => ⟨[], rfl⟩
  | n + 1 => by
    obtain ⟨r, e⟩ := level_head hm n
    obtain ⟨k, rfl⟩ : ∃ k, m = k + 1 := ⟨m - 1, by omega⟩
    refine ⟨((List.range k).map fun x => List.replicate n 0 ++ [x + 1]) ++ r.flatMap fun r => (List.range (k + 1)).map fun x => r ++ [x], ?_⟩
    show (level (k + 1) n).flatMap _ = _
    rw [e, List.flatMap_cons, List.range_succ_eq_map, List.map_cons, List.replicate_succ']
    simp
theorem level_len (m : Nat) : ∀ n, (level m n).length = m ^ n
  | 0 => rfl
  | n + 1 => by
    show ((level m n).flatMap fun r => (List.range m).map fun x => r ++ [x]).length = _
    rw [List.length_flatMap]
    have : (List.map (fun r : Row => ((List.range m).map fun x => r ++ [x]).length) (level m n)) = List.map (fun _ => m) (level m n) := by
      apply List.map_congr_left
      intro r _
      simp
    rw [this, List.map_const', level_len m n, Nat.pow_succ]
    generalize m ^ n = k
    induction k with
    | zero => simp
    | succ k ih => rw [List.replicate_succ, List.sum_cons, ih, Nat.succ_mul, Nat.add_comm]
/-! ### the line -/
def lbook (f : Nat) : Hds := if f = 1 then [([1, 0], [0, 0]), ([0, 1], [1, 2])] else [([0, 1], [2, 1]), ([1, 0], [0, 0])]
def lineWd (f n : Nat) : Wd := (List.replicate (2 ^ (n - 1) - 1) [(f : Int), 3 - (f : Int)]).flatten ++ [(f : Int)]
def lend (n : Nat) : Row := List.replicate (n - 1) 1 ++ [0]
def lrun (f n : Nat) (r : Row) : Option Lst := runW (sent (lbook f)) (steps 2) (2 ^ n) 0 [(r, [])]
def lineOk (f n : Nat) : Bool :=
  (match lrun f n (List.replicate n 0) with
  | some L => L.length == 2 ^ n && (level 2 n).all fun r => (keys L).contains r
  | none => false) &&
  (match lrun f n (List.replicate n 1) with
  | some L => L.length == 2 ^ n && look L (lend n) == some (lineWd f n)
  | none => false) &&
  (match lrun f n (lend n) with
  | some L => L.length == 2 ^ n && look L (List.replicate n 1) == some (lineWd f n)
  | none => false)
theorem line_all : ((List.range 2).all fun f => (List.range 6).all fun n => lineOk (f + 1) (n + 1)) = true := by decide +kernel
theorem line_ok {f n : Nat} (f1 : 1 ≤ f) (f2 : f ≤ 2) (n1 : 1 ≤ n) (n6 : n ≤ 6) : lineOk f n = true := by
  have h := line_all
  rw [List.all_eq_true] at h
  have h := h (f - 1) (List.mem_range.mpr (by omega))
  rw [List.all_eq_true] at h
  have h := h (n - 1) (List.mem_range.mpr (by omega))
  rw [show f - 1 + 1 = f by omega, show n - 1 + 1 = n by omega] at h
  exact h
theorem lrun_over {f n : Nat} {r : Row} {p : Lst → Bool} (h : (match lrun f n r with | some L => L.length == 2 ^ n && p L | none => false) = true) :
    ∃ L, Over (sent (lbook f)) (steps 2) r (upto (sent (lbook f)) (steps 2) r) (2 ^ n) ∧ upto (sent (lbook f)) (steps 2) r (2 ^ n) = L ∧ p L = true := by
  cases e : lrun f n r with
  | none => rw [e] at h; cases h
  | some L =>
    rw [e] at h
    have h : (L.length == 2 ^ n && p L) = true := h
    rw [Bool.and_eq_true] at h
    obtain ⟨a, b⟩ := over_run e (by simpa using h.1)
    exact ⟨L, a, b, h.2⟩
theorem lb_okB : okB 2 (lbook 1) = true ∧ okB 2 (lbook 2) = true := by decide +kernel
end KW
/-! Rows as keys of a dict: their hashes are apart on each level that is asked. -/
namespace KW
open PySem L2
/-- a row's letters, a word's steps, as values; a row as a key -/
def rv (r : Row) : List V := r.map fun x : Nat => V.int (x : Int)
def wv (w : Wd) : List V := w.map V.int
def rk (r : Row) : List Key := r.map fun x : Nat => (Sum.inl (x : Int) : Key)
theorem rk_kV (r : Row) : (rk r).map kV = rv r := by
  unfold rk rv
  rw [List.map_map]
  rfl
theorem rk_inj : ∀ {r r' : Row}, rk r = rk r' → r = r'
  | [], [], _ => rfl
  | [], _ :: _, h => by cases h
  | _ :: _, [], h => by cases h
  | x :: r, y :: r', h => by
    have h : (Sum.inl (x : Int) : Key) :: rk r = Sum.inl (y : Int) :: rk r' := h
    injection h with h1 h2
    have h1 : ((x : Int)) = y := Sum.inl.inj h1
    rw [rk_inj h2, show x = y by omega]
def hRow (r : Row) : Int := reduceHash (Builtin.Tuple.tupleHashOf (r.map fun x : Nat => hashInt (x : Int)))
theorem hRow_eq {P : Program} {w : World} (r : Row) : (tupleKind (mixKind P w)).hash (rk r) = hRow r := by
  show reduceHash (Builtin.Tuple.tupleHashOf ((rk r).map (mixKind P w).hash)) = _
  unfold rk hRow
  rw [List.map_map]
  rfl
/-- the levels that may be asked -/
def small (m n : Nat) : Bool := (m == 2 && decide (n ≤ 6)) || (m == 3 && decide (n ≤ 4)) || (m == 4 && decide (n ≤ 3))
def apart (m n : Nat) : Bool := decide (((level m n).map hRow).Nodup)
theorem apart_all : ((List.range 7).all fun n => ((List.range 3).all fun m => !small (m + 2) n || apart (m + 2) n)) = true := by decide +kernel
theorem small_m {m n : Nat} (h : small m n = true) : 2 ≤ m ∧ m ≤ 4 ∧ n ≤ 6 := by
  unfold small at h
  simp only [Bool.or_eq_true, Bool.and_eq_true, beq_iff_eq, decide_eq_true_eq] at h
  omega
theorem apart_ok {m n : Nat} (h : small m n = true) : ((level m n).map hRow).Nodup := by
  obtain ⟨m2, m4, n6⟩ := small_m h
  have q := apart_all
  rw [List.all_eq_true] at q
  have q := q n (List.mem_range.mpr (by omega))
  rw [List.all_eq_true] at q
  have q := q (m - 2) (List.mem_range.mpr (by omega))
  rw [show m - 2 + 2 = m by omega, h] at q
  have q : apart m n = true := by simpa using q
  exact of_decide_eq_true q
theorem nodup_inj {α β : Type} {f : α → β} : ∀ {l : List α}, (l.map f).Nodup → ∀ a ∈ l, ∀ b ∈ l, f a = f b → a = b
  | [], _, a, ha, _, _, _ => by cases ha
  | x :: l, h, a, ha, b, hb, e => by
    rw [List.map_cons, List.nodup_cons] at h
    rcases List.mem_cons.mp ha with ha | ha <;> rcases List.mem_cons.mp hb with hb | hb
    · rw [ha, hb]
    · exact absurd (List.mem_map.mpr ⟨b, hb, by rw [← e, ha]⟩) h.1
    · exact absurd (List.mem_map.mpr ⟨a, ha, by rw [e, hb]⟩) h.1
    · exact nodup_inj h.2 a ha b hb e
theorem map_nodup {α β : Type} {f : α → β} : ∀ {l : List α}, l.Nodup → (∀ a ∈ l, ∀ b ∈ l, f a = f b → a = b) → (l.map f).Nodup
  | [], _, _ => List.nodup_nil
  | x :: l, h, hf => by
    rw [List.nodup_cons] at h
    rw [List.map_cons, List.nodup_cons]
    refine ⟨fun z => ?_, map_nodup h.2 fun a ha b hb => hf a (List.mem_cons_of_mem _ ha) b (List.mem_cons_of_mem _ hb)⟩
    obtain ⟨b, hb, e⟩ := List.mem_map.mp z
    have := hf b (List.mem_cons_of_mem _ hb) x List.mem_cons_self e
    rw [this] at hb
    exact h.1 hb
/-- any rows of such a level, none twice: their hashes are apart -/
theorem hashes_apart {m n : Nat} (h : small m n = true) {l : List Row} (hn : l.Nodup) (hl : ∀ r ∈ l, r ∈ level m n) : (l.map hRow).Nodup :=
  map_nodup hn fun a ha b hb e => nodup_inj (apart_ok h) a (hl a ha) b (hl b hb) e
/-- every row of fit letters stands in its level -/
theorem level_all (m : Nat) : ∀ n (r : Row), r.length = n → (∀ x ∈ r, x < m) → r ∈ level m n
  | 0, r, h, _ => by
    rw [List.eq_nil_of_length_eq_zero h]
    exact List.mem_singleton.mpr rfl
  | n + 1, r, h, hx => by
    have hne : r ≠ [] := fun e => by rw [e] at h; cases h
    have e := List.dropLast_concat_getLast hne
    refine List.mem_flatMap.mpr ⟨r.dropLast, level_all m n _ (by rw [List.length_dropLast]; omega) (fun x hm => hx x (List.dropLast_subset r hm)), List.mem_map.mpr ⟨r.getLast hne, List.mem_range.mpr (hx _ (List.getLast_mem hne)), e⟩⟩
end KW
/-! Rules of our own over the hand layer: tuples times small numbers, t.index of ints, sorted of a tuple, a display with a tuple key, d.update of dicts with tuple keys, repr of data, o[i] op= e of a list, a text times a number. -/
namespace KR
open PySem PySem.Spec PyProof.Rows L2
section
variable {X : Cx}
/-! ### o[i] op= e -/
theorem ip_of {op : Operator} {r : R2} (h : OpR X (inplaceOp op) r) : PIp X op r := fun pins s σ H x y v u Q I rx ry q => h pins s σ H x y v u Q I rx ry q
/-- xs[i], i from 0 on, by values -/
def rGet (K : PySem.W.Frag) : V → V → Hp → VK → Prop := fun o i H Q => ∃ p xs j v, o = .ref p ∧ i = .int ((j : Nat) : Int) ∧ SqL K H p xs ∧ xs[j]? = some v ∧ Q v H
theorem get_list : PGet X (rGet X.K) := by
  intro pins s σ H o i ov iv Q I ro ri h
  obtain ⟨p, xs, j, v, rfl, rfl, hq, hv, q⟩ := h
  cases ro
  obtain ⟨t, rfl⟩ := ri
  obtain ⟨its, r, pl, hz⟩ := I.list hq
  obtain ⟨w, ew, rw'⟩ := r.get hv
  have hj : j < its.length := (List.getElem?_eq_some_iff.mp ew).1
  have hl := r.length
  have z := sizeLine_eq
  refine wpAny_getItem_list pl.isList (Int.natCast_nonneg j) (by omega) ?_ ⟨v, H, I, rw', q⟩
  rw [Int.toNat_natCast]
  simpa using ew
/-- len of a list, a tuple -/
def rLenS (K : PySem.W.Frag) : List V → Hp → VK → Prop := fun xs H Q => ∃ p ys, xs = [.ref p] ∧ (SqL K H p ys ∨ SqT K H p ys) ∧ Q (.int ys.length) H
theorem call_lenS : CallR X (.builtin "len") (rLenS X.K) := call_len_seq
/-! ### a text times a number: some text -/
theorem op_mulS : OpR X (binaryOp .Mult) (fun x y H Q => ∃ (z : Str) (k : Nat), x = .str z ∧ y = .int (k : Int) ∧ k ≤ 1000 ∧ z.length ≤ 1000 ∧ ∀ z' : Str, Q (.str z') H) := by
  intro pins s σ H x y v u Q I rx ry h
  obtain ⟨z, k, rfl, rfl, hk, hz, q⟩ := h
  obtain ⟨t, rfl⟩ := rx
  obtain ⟨t', rfl⟩ := ry
  have hkz : z.length * k ≤ 1000 * 1000 := Nat.mul_le_mul hz hk
  have sl := sizeLine_eq
  refine P.mul_str ?_ (fun h1 _ => ?_) (fun h1 _ => ?_) ?_
  · rw [decide_eq_false (by omega), decide_eq_false (by omega)] <;> rfl
  · have hd : (1000 : Int) ≤ (2 ^ 63 - 1) / (k : Int) := by
      refine Int.le_ediv_of_mul_le (by omega) ?_
      have : (1000 : Int) * (k : Int) ≤ 1000 * 1000 := by omega
      omega
    omega
  · unfold Builtin.Str.tooLong
    refine decide_eq_false ?_
    rw [Int.toNat_natCast]
    omega
  · have any : ∀ z' : Str, z'.length ≤ sizeLine → (Made.str z').post (EP X pins σ Q) s := fun z' hz' => ⟨hz', ⟨.str z', H, I.tok _, ⟨_, rfl⟩, q z'⟩⟩
    split
    · exact any _ (by decide)
    · split
      · exact ⟨.str z, H, I, ⟨_, rfl⟩, q z⟩
      · refine any _ ?_
        have e : (⟨(List.replicate ((k : Int)).toNat z.cps).foldl (· ++ ·) #[]⟩ : Str).length = k * z.length := by
          rw [Int.toNat_natCast]
          show ((List.replicate k z.cps).foldl (· ++ ·) #[]).size = _
          have key : ∀ (n : Nat) (a : Array Nat), ((List.replicate n z.cps).foldl (· ++ ·) a).size = a.size + n * z.cps.size := by
            intro n
            induction n with
            | zero => intro a; simp
            | succ n ih =>
              intro a
              rw [List.replicate_succ, List.foldl_cons, ih, Array.size_append, Nat.succ_mul]
              omega
          rw [key]
          show 0 + _ = _
          rw [Nat.zero_add]
          rfl
        rw [e, Nat.mul_comm]
        omega
/-! ### tuples -/
/-- a tuple that is wanted: where it stands does not matter -/
def wantT (ys : List V) (H : Hp) (Q : VK) : Prop := ∀ p H', Same H H' → H' p = some (.tup ys) → Q (.ref p) H'
theorem wantT.new {ys : List V} {H : Hp} {Q : VK} (w : wantT ys H Q) : ∀ p, H p = none → Q (.ref p) (upd H p (.tup ys)) := fun p hp =>
  w p _ (fun b o e => by rw [upd_ne (ne_of_none e hp)]; exact e) upd_same
theorem wantT.old {ys : List V} {H : Hp} {Q : VK} (w : wantT ys H Q) {p : Addr} (hp : H p = some (.tup ys)) : Q (.ref p) H := w p H (Same.refl H) hp
theorem OpR.weak {f : Value → Value → Sem Value} {r r' : R2} (h : OpR X f r) (w : ∀ x y H Q, r' x y H Q → r x y H Q) : OpR X f r' := fun pins s σ H x y v u Q I rx ry q => h pins s σ H x y v u Q I rx ry (w x y H Q q)
/-- t + u -/
def rCat2 : R2 := fun x y H Q => ∃ a b xs ys, x = .ref a ∧ y = .ref b ∧ H a = some (.tup xs) ∧ H b = some (.tup ys) ∧ xs.length + ys.length ≤ sizeLine ∧ wantT (xs ++ ys) H Q
theorem op_cat2 : OpR X (binaryOp .Add) rCat2 := OpR.weak op_catA fun x y H Q h => by
  obtain ⟨a, b, xs, ys, rfl, rfl, ha, hb, hz, q⟩ := h
  refine ⟨a, b, xs, ys, rfl, rfl, SqT.of ha, SqT.of hb, hz, fun e => ?_, fun _ e => ?_, fun _ _ => q.new⟩
  · subst e
    exact q.old hb
  · subst e
    rw [List.append_nil] at q
    exact q.old ha
theorem mul_one_same (l : Addr) (items : Array Value) (n : Nat) (dd : Option Addr) (sl : Array (Option Value)) (u : Tok) :
    Meets (Builtin.«tuple.__mul__» ⟨[.ref l, .int 1 u], []⟩) (fun _ R s => s.heap.get? l = some { cls := .type "tuple", dict := dd, data := .seq items n, slots := sl } ∧ R (.ok (.ret (Value.ref l))) s) :=
  .of_wp fun prog w A R s h => by
    obtain ⟨hp, g, d, tk, os⟩ := s
    obtain ⟨hl, h⟩ := h
    have c0 : (decide ((1 : Int) < -(2 ^ 63)) || decide ((1 : Int) ≥ 2 ^ 63)) = false := by decide
    have c1 : (items.isEmpty || (1 : Int) == 1) = true := by simp
    have f1 := AutoSeq1.idx_int
    wp_walk using wpAny_loadPart' hl
    repeat (first
      | (refine wpAny_ite_false (decide_eq_false (by rw [c0]; exact Bool.false_ne_true)) ?_; wp_walk using wpAny_loadPart' hl)
      | (refine wpAny_ite_true (decide_eq_true (by rw [c1])) ?_; wp_walk using wpAny_loadPart' hl))
    exact ⟨_, rfl, h⟩
theorem mul_none (l : Addr) (items : Array Value) (n : Nat) (dd : Option Addr) (sl : Array (Option Value)) (u : Tok) (hne : items.isEmpty = false) :
    Meets (Builtin.«tuple.__mul__» ⟨[.ref l, .int 0 u], []⟩) (fun _ R s => s.heap.get? l = some { cls := .type "tuple", dict := dd, data := .seq items n, slots := sl } ∧
      R (.ok (.ret (Value.ref s.heap.objs.size))) { s with heap := s.heap.push { cls := Value.type "tuple", data := Data.seq #[] }, toks := s.toks }) :=
  .of_wp fun prog w A R s h => by
    obtain ⟨hp, g, d, tk, os⟩ := s
    obtain ⟨hl, h⟩ := h
    have c0 : (decide ((0 : Int) < -(2 ^ 63)) || decide ((0 : Int) ≥ 2 ^ 63)) = false := by decide
    have c1 : (items.isEmpty || (0 : Int) == 1) = false := by rw [hne]; rfl
    have c2 : (decide ((0 : Int) ≤ 0) || items.isEmpty) = true := by simp
    have f1 := AutoSeq1.idx_int
    wp_walk using wpAny_loadPart' hl
    repeat (first
      | (refine wpAny_ite_false (decide_eq_false (by rw [c0]; exact Bool.false_ne_true)) ?_; wp_walk using wpAny_loadPart' hl)
      | (refine wpAny_ite_false (decide_eq_false (by rw [c1]; exact Bool.false_ne_true)) ?_; wp_walk using wpAny_loadPart' hl)
      | (refine wpAny_ite_true (decide_eq_true (by rw [c2])) ?_; wp_walk using wpAny_loadPart' hl))
    exact ⟨_, rfl, h⟩
/-- what stands at a tuple's address -/
theorem tup_obj {pins : List (Addr × Obj)} {σ : L2.St} {H : Hp} {s : Shared} {l : Addr} {xs : List V} (I : Inv X pins σ H s) (h : SqT X.K H l xs) :
    ∃ (its : List Value) (n : Nat) (dd : Option Addr) (sl : Array (Option Value)), Vals xs its ∧ xs.length ≤ sizeLine ∧ s.heap.get? l = some { cls := .type "tuple", dict := dd, data := .seq its.toArray n, slots := sl } := by
  obtain ⟨its, r, ⟨⟨c, dd, da, sl⟩, ho, hc, n, hd⟩, hz⟩ := I.tuple h
  simp only at hc hd
  subst hc hd
  exact ⟨its, n, dd, sl, r, hz, ho⟩
/-- the road of t * k, from what tuple.__mul__ answers -/
theorem mul_road {s : Shared} {Q : Value → Shared → Prop} {l : Addr} {its : List Value} {n : Nat} {dd : Option Addr} {sl : Array (Option Value)} {k : Int} {t : Tok}
    (ho : s.heap.get? l = some { cls := .type "tuple", dict := dd, data := .seq its.toArray n, slots := sl })
    (h : wpAny (model X.prog X.w) X.A (call (.builtin "tuple.__mul__") [.ref l, .int k t]) Q X.xe s) : wpAny (model X.prog X.w) X.A (binaryOp .Mult (.ref l) (.int k t)) Q X.xe s := by
  have T : s.TypeIs (.ref l) "tuple" := ⟨_, ho, rfl⟩
  have R := int_rmul_tuple k t l its.toArray n dd sl
  refine wpAny_binaryOp_repeat_ref (id := "tuple.__mul__") (idr := "int.__rmul__") (by decide) T (fun z => typeIs_int z k t) noFill_tuple_mul F.fills_int_mul F.slot_int_rmul repeat_tuple
    F.slot_int_index.lookup ?_
  exact call_meets F.slot_int_rmul (typeIs_int s k t) F.entry_int_rmul (F.args_int_rmul_2 _ _) R ⟨ho, rfl, T, h⟩
/-- t * k -/
def rRep2 : R2 := fun x y H Q => ∃ (l : Addr) (k : Nat) (xs : List V), x = .ref l ∧ y = .int (k : Int) ∧ H l = some (.tup xs) ∧ xs ≠ [] ∧ k ≤ 1000 ∧ xs.length ≤ 1000 ∧ wantT (List.replicate k xs).flatten H Q
theorem op_mulT : OpR X (binaryOp .Mult) rRep2 := by
  intro pins s σ H x y v u Q I rx ry h
  obtain ⟨l, k, xs, rfl, rfl, hl, hne, hk, hz, q⟩ := h
  by_cases k2 : 2 ≤ k
  · exact op_repT pins s σ H _ _ v u Q I rx ry ⟨l, (k : Int), xs, rfl, rfl, SqT.of hl, hne, by omega, by omega, hz, by rw [Int.toNat_natCast]; exact q.new⟩
  · cases rx
    obtain ⟨t, rfl⟩ := ry
    obtain ⟨its, n, dd, sl, r, hs, ho⟩ := tup_obj I (SqT.of hl)
    refine mul_road ho ?_
    have go := F.slot_tuple_mul
    by_cases k0 : k = 0
    · subst k0
      have hi : its.toArray.isEmpty = false := by
        cases its with
        | nil =>
          have := r.length
          exact absurd (List.eq_nil_of_length_eq_zero (by simpa using this)) hne
        | cons a b => rfl
      refine call_meets go ⟨_, ho, rfl⟩ F.entry_tuple_mul (F.args_tuple_mul_2 _ _) (mul_none l its.toArray n dd sl t hi) ⟨ho, ?_⟩
      have fresh := I.hok.fresh (Nat.le_refl s.heap.objs.size)
      have J := I.laid (a := s.heap.objs.size) (o := .tup []) (t' := s.toks) (fun b ob z => Heap.get?_push_of_some _ z) (Nat.le_refl _) ⟨Nat.zero_le _, [], .nil, IsTup.new _ _⟩
      exact ⟨.ref s.heap.objs.size, _, J, rfl, q.new _ fresh⟩
    · have k1 : k = 1 := by omega
      subst k1
      have e : (List.replicate 1 xs).flatten = xs := by simp
      rw [e] at q
      exact call_meets go ⟨_, ho, rfl⟩ F.entry_tuple_mul (F.args_tuple_mul_2 _ _) (mul_one_same l its.toArray n dd sl t) ⟨ho, .ref l, H, I, rfl, q.old hl⟩
/-- t.index(i), the first place, ints -/
def rIdxI (K : PySem.W.Frag) : V → List V → Hp → VK → Prop := fun x xs H Q => ∃ (p : Addr) (ys : List Int) (z : Int) (j : Nat), x = .ref p ∧ xs = [.int z] ∧ SqT K H p (ys.map V.int) ∧ ys[j]? = some z ∧ (∀ m, m < j → ys[m]? ≠ some z) ∧ Q (.int (j : Nat)) H
theorem mt_indexI : MtR X "tuple.index" (rIdxI X.K) := by
  intro pins s σ H x xs v us Q I rx rs h
  obtain ⟨p, ys, z, j, rfl, rfl, hp, hy, hno, q⟩ := h
  cases rx
  obtain ⟨u, rfl, ru⟩ := vals1 rs
  obtain ⟨its, n, dd, sl, r, hs, ho⟩ := tup_obj I hp
  have fl : (ys.map V.int).all flatV = true := by
    rw [List.all_map, List.all_eq_true]
    exact fun _ _ => rfl
  have len : its.toArray.size = ys.length := by
    have := r.length
    rw [List.length_map] at this
    rw [List.size_toArray, this]
  have item : ∀ (m : Nat) (hm : m < its.toArray.size) (y : Int), ys[m]? = some y → eqU (.int z) its.toArray[m] = decide (y = z) := fun m hm y e => by
    obtain ⟨w, hw, rw'⟩ := r.get (i := m) (x := .int y) (by rw [List.getElem?_map, e]; rfl)
    obtain ⟨_, e2⟩ := List.getElem?_eq_some_iff.mp hw
    have e3 : its.toArray[m] = w := by simpa using e2
    rw [e3, eqU_of rw' rfl]
    show (y == z) = decide (y = z)
    exact Bool.beq_eq_decide_eq y z
  have hj : j < its.toArray.size := by
    rw [len]
    exact (List.getElem?_eq_some_iff.mp hy).1
  have M := TI.tuple_indexAt p its.toArray n dd sl u (eqU (.int z)) j hj (by rw [item j hj z hy]; exact decide_eq_true rfl) fun m hm hmj => by
    have hm' : m < ys.length := by rw [← len]; exact hm
    rw [item m hm ys[m] (List.getElem?_eq_getElem hm')]
    exact decide_eq_false fun e => hno m hmj (by rw [List.getElem?_eq_getElem hm', e])
  have E1 : ∀ w ∈ its.toArray, SeqAt.EqAt X.A.in1 s w u (eqU (.int z) w) := fun w hw => mem_eqAt (x := .int z) ru rfl r fl w (by simpa using hw)
  exact call_meets F.slot_tuple_index ⟨_, ho, rfl⟩ F.entry_tuple_index (F.args_tuple_index_2 _ _) M ⟨ho, E1, .int (j : Nat), H, I.tok _, ⟨_, rfl⟩, q⟩
/-- sorted(t), ints, fewer than 64 -/
theorem sorted_tup {pins : List (Addr × Obj)} {σ : L2.St} {H : Hp} {s : Shared} {Q : Value → Shared → Prop} {p : Addr} {ns : List Int} (I : Inv X pins σ H s) (hp : SqT X.K H p (ns.map V.int)) (h64 : ns.length < 64)
    (h : ∀ (ns' : List Int) (l : Addr) (s' : Shared), ns'.Perm ns → ns'.Pairwise (· ≤ ·) → H l = none → Inv X pins σ (upd H l (.lst (ns'.map V.int))) s' → Q (.ref l) s') :
    wpAny (model X.prog X.w) X.A (call (.builtin "sorted") [.ref p]) Q X.xe s := by
  obtain ⟨its, n, dd, sl, r, hs, ho⟩ := tup_obj I hp
  have hi := r.ints
  have l1 := hi.length
  refine Calls.call_function_entry kind_sorted plain_sorted entry_sorted (args_sorted1 _) ?_
  unfold Builtin.«sorted»
  refine wpAny_bind (m := checkCount "sorted" 1 1 _) (wpAny_pure ?_)
  refine wpAny_bind (wpAny_collect_seq p (.inr rfl) ho rfl rfl (fun h1 k1 => ?_) (by rw [List.size_toArray, l1, sizeLine_eq]; omega))
  have e1 : its.toArray.toList = its := by simp
  rw [e1]
  refine wpAny_bind (wpAny_newList ?_)
  have at1 : (h1.push (seqObj "list" its.toArray 0)).get? h1.objs.size = some (seqObj "list" its.toArray 0) := Heap.get?_push_size _ rfl
  have S := list_sort_tree (prog := X.prog) (w := X.w) (A := X.A.in1.in1) (E := X.xe) (s := { s with heap := h1.push (seqObj "list" its.toArray 0) }) (a := h1.objs.size) (vs := its) (n := 0) (ns := ns)
    (P := fun f s' => ∃ v, f = .done (.ret v) ∧ wpAny (model X.prog X.w) X.A.in1 (ret (Value.ref h1.objs.size)) (fun f' s'' => ∃ v', f' = .done (.ret v') ∧ Q v' s'') X.xe s') at1 hi (by rw [l1]; exact h64) fun out ns' a1 a2 a3 => ⟨_, rfl, ?_⟩
  · refine wpAny_bind (wpAny_holding (wpAny_call_entry slot_list_sort ⟨_, at1, rfl⟩ entry_list_sort ?_ (args_list_sort _)))
    exact S
  · obtain ⟨ep, he⟩ := sortedHeap_at (vs := its) (out := out) at1
    have none1 : s.heap.get? h1.objs.size = none := by
      cases e : s.heap.get? h1.objs.size with
      | none => rfl
      | some o => exact absurd (Heap.lt_size (k1 _ _ e)) (Nat.lt_irrefl _)
    have free1 := I.hok.gone none1
    refine wpAny_pure ⟨_, rfl, h ns' h1.objs.size _ a2 a3 free1 ?_⟩
    have old : ∀ b o, s.heap.get? b = some o → (sortedHeap (h1.push (seqObj "list" its.toArray 0)) h1.objs.size its out).get? b = some o := fun b o e => by
      have e' := k1 b o e
      have hb : b < h1.objs.size := Heap.lt_size e'
      rw [sortedHeap_old (Nat.ne_of_lt hb) (by rw [Heap.size_push]; exact Nat.lt_succ_of_lt hb)]
      exact Heap.get?_push_of_some _ e'
    exact I.laidN (t' := s.toks) old none1 free1 ⟨by rw [List.length_map, a2.length_eq]; exact small64 h64, out.toList, ep, vals_of_ints a1, he⟩
theorem cr_sortT : CallR X (.builtin "sorted") (fun xs H Q => ∃ (p : Addr) (ns : List Int), xs = [.ref p] ∧ SqT X.K H p (ns.map V.int) ∧ ns.length < 64 ∧ ∀ (ns' : List Int) (l : Addr), ns'.Perm ns → ns'.Pairwise (· ≤ ·) → H l = none → Q (.ref l) (upd H l (.lst (ns'.map V.int)))) := by
  intro pins s σ H xs us Q I r h
  obtain ⟨p, ns, rfl, hp, h64, q⟩ := h
  rw [Vals.ref1 r]
  exact sorted_tup I hp h64 fun ns' l s' a1 a2 a3 J => ⟨.ref l, _, J, rfl, q ns' l a1 a2 a3⟩
/-! ### dicts with tuple keys -/
/-- {k: v}, k a tuple -/
def tDict1 (tk tv : TE) : TE := fun σ H Q => ∀ p, H p = none → tk σ (upd H p (.dT [])) fun x H1 => tv σ H1 fun y H2 => ∃ (b : Addr) (r : List Key), x = .ref b ∧ H2 b = some (.tup (r.map kV)) ∧ H2 p = some (.dT []) ∧ Q (.ref p) (upd H2 p (.dT [(r, y)]))
theorem pe_dict1 {k v : Expr} {tk tv : TE} {pos : Pos} (hu : X.A.units < cLine) (hk : PE X k tk) (hv : PE X v tv) : PE X (.Dict [some k] [v] pos) (tDict1 tk tv) := by
  refine ⟨fun pins s σ H Q I h => ?_⟩
  have fresh := I.hok.fresh (Nat.le_refl s.heap.objs.size)
  have J := I.laid (a := s.heap.objs.size) (o := .dT []) (h' := s.heap.push { cls := .type "dict", data := .dict #[] }) (t' := s.toks) (fun _ _ z => Heap.get?_push_of_some _ z) (Nat.le_refl _) (dt_empty s.heap I.big)
  have P := (pps_cons (pos := pos) hk hv (pps_nil (X := X))).run pins _ σ _ (fun ps H2 => match ps with | [(x, y)] => ∃ (b : Addr) (r : List Key), x = .ref b ∧ H2 b = some (.tup (r.map kV)) ∧ H2 s.heap.objs.size = some (.dT []) ∧ Q (.ref s.heap.objs.size) (upd H2 s.heap.objs.size (.dT [(r, y)])) | _ => False) J ?_
  · refine wpAny_Dict_any rfl rfl (by simp) (by show 1 ≤ 15; decide) (thn P fun vs s2 hh => ?_)
    obtain ⟨ps, H2, I2, rel, hh⟩ := hh
    match ps, hh, rel with
    | [], hh, _ => exact hh.elim
    | _ :: _ :: _, hh, _ => exact hh.elim
    | [(x, y)], hh, rel =>
    obtain ⟨b, r, rfl, hb, hd, q⟩ := hh
    cases rel with
    | @cons p1 p2 l1 l2 rp rn =>
      cases rn
      obtain ⟨u1, u2⟩ := p2
      obtain ⟨r1, r2⟩ := rp
      obtain rfl : u1 = Value.ref b := r1
      obtain ⟨z, hsys, xs, rel, dd⟩ := dt_of I2.hok hd
      cases rel
      show wpAny (model X.prog X.w) X.A (forIn [(Value.ref b, u2)] PUnit.unit fun (x : Value × Value) (_ : PUnit) => (do dictSet s.heap.objs.size x.1 x.2; pure (ForInStep.yield PUnit.unit) : Sem (ForInStep PUnit))) _ _ _
      rw [List.forIn_cons]
      refine wpAny_bind (wpAny_bind (wpAny_dictSet_heap (hsz := Nat.zero_le _) (knd := tupleKind (mixKind X.prog X.w)) hu (key_of I2.hok hb) dd fun h' dd' hs => wpAny_pure ?_))
      refine wpAny_pure ?_
      obtain ⟨ob, es, ep, hq, h2, h3, h4, _, h5⟩ := dd'
      have KT1 : KT H2 (putK [] r y) (storedH [] r b u2) := KT.put (H := H2) .nil r hb r2
      have J2 := d_write (t' := s2.toks + (tupleKind (mixKind X.prog X.w)).draws r) (ob := .dT [(r, y)]) I2 (by rw [hd]; exact True.intro) hs ⟨ob, hq⟩ ⟨by show 1 ≤ sizeLine; decide, hsys, _, KT1.keeps fun c ys ec => ?_, ob, es, ep, hq, h2, h3, h4, h5⟩
      · exact ⟨.ref s.heap.objs.size, _, J2, rfl, q⟩
      · rw [upd_ne (ne_of ec hd (fun z => nomatch z))]
        exact ec
  · exact h _ fresh
/-- d.update(e): d empty, e with tuple keys whose hashes are apart -/
theorem mt_updT (hu : X.A.units + 1 < cLine) : MtR X "dict.update" (fun x xs H Q => ∃ (d e : Addr) (kvs : List (List Key × V)), x = .ref d ∧ xs = [.ref e] ∧ H d = some (.dT []) ∧ H e = some (.dT kvs) ∧ d ≠ e ∧
    (∀ (P : Program) (w : World), (kvs.map fun kv => (tupleKind (mixKind P w)).hash kv.1).Nodup) ∧ Q .non (upd H d (.dT kvs))) := by
  intro pins s σ H x xs v us Q I rx rs h
  obtain ⟨d, e, kvs, rfl, rfl, hd, he, hne, hh, q⟩ := h
  cases rx
  have re := Vals.ref1 rs
  subst re
  obtain ⟨z1, sys1, xs1, rel1, dd1⟩ := dt_of I.hok hd
  cases rel1
  obtain ⟨z2, sys2, xs2, rel2, dd2⟩ := dt_of I.hok he
  have keyed : ∀ x ∈ xs2, s.TypeIs (.ref x.2.1) "tuple" := fun x hx => by
    obtain ⟨o, es, ep, _, _, _, _, his, _⟩ := dd2
    obtain ⟨ob, its, n, h1, h2, _⟩ := his x hx
    exact ⟨ob, h1, h2⟩
  have same : ∀ {l : List (List Key × V)} {m : List (List Key × Addr × Value)}, KT H l m → (m.map fun x => (tupleKind (mixKind X.prog X.w)).hash x.1) = l.map fun kv => (tupleKind (mixKind X.prog X.w)).hash kv.1 := by
    intro l m r
    induction r with
    | nil => rfl
    | cons a b ih => rw [List.map_cons, List.map_cons, ih, a.1]
  refine call_update_dictH (knd := tupleKind (mixKind X.prog X.w)) (tupleKind_room_in1 hu) hne sys2 dd1 dd2 (.inr ⟨keyed, by rw [same rel2]; exact hh _ _⟩) (by rw [List.length_nil, Nat.zero_add, ← Paired.length rel2]; exact z2) fun h' d1 d2 hs => ?_
  rw [storedAllH_nil_of_nodup _ dd2.nodup] at d1
  obtain ⟨ob, es, ep, hq, h2, h3, h4, _, h5⟩ := d1
  have J := d_write (t' := s.toks) (ob := .dT kvs) I (by rw [hd]; exact True.intro) hs ⟨ob, hq⟩ ⟨z2, sys1, xs2, KT.keeps rel2 fun c ys ec => ?_, ob, es, ep, hq, h2, h3, h4, h5⟩
  · exact ⟨.non, _, J, rfl, q⟩
  · rw [upd_ne (ne_of ec hd (fun z => nomatch z))]
    exact ec
/-- repr of data, where no repr is under way -/
theorem call_repr (hg : X.A.guards = some []) : CallR X (.builtin "repr") (fun xs H Q => ∃ (a : Addr) (d : PyData), xs = [.ref a] ∧ Dp X.K H (.ref a) d ∧ d.showable = true ∧ d.hasDict = false ∧ X.A.units + (d.depth + 1) < cLine ∧ d.shown.length ≤ sizeLine ∧ Q (.str d.shown) H) := by
  intro pins s σ H xs us Q I r h
  obtain ⟨a, d, rfl, hd, hs, hn, hu, hz, q⟩ := h
  rw [Vals.ref1 r]
  obtain ⟨as, rd⟩ := Dp.reads I d (.ref a) (.ref a) hd rfl
  exact repr_of_reads' rd hs (fun z => by rw [hn] at z; cases z) hg hu (fun _ _ e => e) (fun h' u tk k => ⟨.str d.shown, H, I.kept k, ⟨u, rfl⟩, q⟩) hz
/-! ### tuples of which it is known that they bear no dict (their methods may be called) -/
def TupF (H : Hp) (a : Addr) (xs : List V) : Prop := ∃ o, H a = some (.frz o (.tup xs)) ∧ o.dict = none
theorem TupF.sq {K : PySem.W.Frag} {H : Hp} {a : Addr} {xs : List V} (h : TupF H a xs) : SqT K H a xs := by
  obtain ⟨o, e, _⟩ := h
  exact .inl (.inr ⟨o, e⟩)
theorem TupF.same {H H' : Hp} {a : Addr} {xs : List V} (h : TupF H a xs) (s : Same H H') : TupF H' a xs := by
  obtain ⟨o, e, d⟩ := h
  exact ⟨o, s _ _ e, d⟩
theorem TupF.ty {K : PySem.W.Frag} {H : Hp} {a : Addr} {xs : List V} (h : TupF H a xs) : TyX K H (.ref a) (.type "tuple") := by
  obtain ⟨o, e, _⟩ := h
  exact .fTuple e
def wantF (ys : List V) (H : Hp) (Q : VK) : Prop := ∀ p H', Same H H' → TupF H' p ys → Q (.ref p) H'
theorem laidF {pins : List (Addr × Obj)} {σ : L2.St} {H : Hp} {s : Shared} {xs : List V} {its : List Value} (I : Inv X pins σ H s) (r : Vals xs its) (hz : xs.length ≤ sizeLine) {Q : VK} (q : wantF xs H Q) :
    EP X pins σ Q (.ref s.heap.objs.size) { s with heap := s.heap.push { cls := .type "tuple", data := .seq its.toArray } } := by
  have fresh := I.hok.fresh (Nat.le_refl s.heap.objs.size)
  have at_ : (s.heap.push { cls := .type "tuple", data := .seq its.toArray }).get? s.heap.objs.size = some { cls := .type "tuple", data := .seq its.toArray } := Heap.get?_push_size _ rfl
  have J := I.laid (a := s.heap.objs.size) (o := .frz { cls := .type "tuple", data := .seq its.toArray } (.tup xs)) (t' := s.toks) (fun b ob z => Heap.get?_push_of_some _ z) (Nat.le_refl _) ⟨at_, hz, its, r, IsTup.new _ _⟩
  exact ⟨.ref s.heap.objs.size, _, J, rfl, q _ _ (fun b o e => by rw [upd_ne (ne_of_none e fresh)]; exact e) ⟨_, upd_same, rfl⟩⟩
/-- a display -/
def tTupF (t : TA) : TE := fun σ H Q => t σ H fun xs H1 => xs.length ≤ sizeLine ∧ wantF xs H1 Q
theorem pe_tupF {es : List Expr} {t : TA} {x1} {pos : Pos} (h : PA X es t) : PE X (.Tuple es x1 pos) (tTupF t) := by
  refine ⟨fun pins s σ H Q I hq => ?_⟩
  refine wpAny_Tuple_spliced (thn (h.run pos pins s σ H _ I hq) fun us s1 hh => ?_)
  obtain ⟨xs, H1, I1, r, z, q⟩ := hh
  exact ⟨by rw [← r.length]; exact z, laidF I1 r z q⟩
/-- t + u, neither empty -/
def rCatF (K : PySem.W.Frag) : R2 := fun x y H Q => ∃ a b xs ys, x = .ref a ∧ y = .ref b ∧ SqT K H a xs ∧ SqT K H b ys ∧ xs ≠ [] ∧ ys ≠ [] ∧ xs.length + ys.length ≤ sizeLine ∧ wantF (xs ++ ys) H Q
theorem op_catF : OpR X (binaryOp .Add) (rCatF X.K) := by
  intro pins s σ H x y v u Q I rx ry h
  obtain ⟨a, b, xs, ys, rfl, rfl, ha, hb, hx, hy, hz, q⟩ := h
  cases rx
  cases ry
  obtain ⟨i1, r1, p1, _⟩ := I.tuple ha
  obtain ⟨i2, r2, p2, _⟩ := I.tuple hb
  refine HT.cat_tup p1 p2 (fun z => hx (r1.nil_iff.mp z)) (fun z => absurd (r2.nil_iff.mp z) hy) (fun z => ?_) (by rw [← r1.length, ← r2.length]; exact hz)
  exact laidF I (r1.append r2) (by rw [List.length_append]; exact hz) q
/-- tuple(range(..)) -/
def tRgF (te : L2.St → Hp → (Int → Int → Hp → Prop) → Prop) : TE := fun σ H Q => te σ H fun a b H1 => RgOk a b ∧ wantF (rgV a b) H1 Q
theorem pe_rgF {e : Expr} {te : L2.St → Hp → (Int → Int → Hp → Prop) → Prop} {p pos : Pos} (hc : X.calm = true) (hg : Gl X "tuple") (hm : X.mg "tuple" = none) (he : PRg X e te)
    (na : starEach [e] X.env = (false, eval e X.env) :: starEach [] X.env := by rfl) : PE X (.Call (.Name "tuple" p) [e] [] pos) (tRgF te) := by
  refine ⟨fun pins s σ H Q I h => ?_⟩
  refine Call_ (ld_blt I hg hm boot_tuple (PyProof.Rows.callWith_type1 (args_cons (thn (he pins s σ H _ I h) fun x s1 hh => args_nil ?_) na) na))
  obtain ⟨r, a, b, t, u, v, H1, rfl, hr, I1, ok, q⟩ := hh
  obtain ⟨c1, c2, c3, c4, c5⟩ := ok
  have len : (rgV a b).length ≤ sizeLine := by
    rw [rgV_length, sizeLine_eq]
    omega
  refine call_tuple_range (n := (b - a).toNat) (I1.ok.hd hc) hr (small_one c1 c2 c3 c4) (rangeSize_nat a b) c5 fun h' tk acc hk hi => ?_
  have I2 : Inv X pins σ H1 { s1 with heap := h', toks := tk } := I1.kept hk
  have F := laidF I2 (vals_rg hi) len q
  rw [Array.toArray_toList] at F
  exact F
/-- t.index(i) -/
def tIdx (K : PySem.W.Frag) (to : TE) (t : TA) : TE := fun σ H Q => to σ H fun x H1 => (∃ a xs, x = .ref a ∧ TupF H1 a xs) ∧ t σ H1 fun ys H2 => rIdxI K x ys H2 Q
theorem pe_index {o e : Expr} {to : TE} {t : TA} {apos cpos : Pos} (ho : PE X o to) (ha : PA X [e] t) (hbase : attributeBase o "index" X.env (eval o X.env) = eval o X.env := by rfl)
    (hfew : ((backTo cpos (starEach [e] X.env)).all (fun x => !x.1) && (backToKw cpos (keywordEach [] X.env)).all (fun x => x.1.isSome) && decide (1 + 0 + 0 < 30)) = true := by rfl)
    (hline : (apos.endLine == cpos.line) = true := by rfl) (hs : starEach [e] X.env = (false, eval e X.env) :: starEach [] X.env := by rfl) (hp : (backTo cpos (starEach [] X.env)).any (·.1) = false := by rfl) :
    PE X (.Call (.Attribute o "index" apos) [e] [] cpos) (tIdx X.K to t) := by
  refine ⟨fun pins s σ H Q I h => ?_⟩
  refine wpAny_Call_method_late hbase hfew hline rfl (thn (ho.run pins s σ H _ I h) fun v s1 hh => ?_)
  obtain ⟨x, H1, I1, r1, ⟨a, xs, rfl, hF⟩, q1⟩ := hh
  cases r1
  obtain ⟨ob, ea, ed⟩ := hF
  obtain ⟨hget, hz, its, rv, ob2, e2, cls2, n2, d2⟩ := I1.hok a _ ea
  rw [hget] at e2
  cases e2
  refine ⟨"tuple", _, PySem.F.plainAttrs_tuple, PySem.F.slot_tuple_index, PySem.F.type_tuple_index, ⟨ob, hget, cls2⟩, fun b eb => ?_, ?_⟩
  · cases eb
    exact ⟨ob, hget, ed⟩
  · have hA := ha.run cpos pins s1 σ H1 _ I1 q1
    rw [hs] at hA ⊢
    refine Calls.callWith_builtin (by show (false || (backTo cpos (starEach [] X.env)).any (·.1)) = false; rw [hp] <;> rfl) (Calls.evalArgs_plain ?_)
    refine thn hA fun us s2 hh2 => ?_
    obtain ⟨ys, H2, I2, r2, q2⟩ := hh2
    exact mt_indexI pins s2 σ H2 (.ref a) ys (.ref a) us Q I2 rfl r2 q2
end
end KR
/-! An exception kept behind its except suite: tracked from then on; isinstance of it. -/
namespace KR
open PySem PySem.Spec PyProof.Rows L2
/-- an exception of the class cls, without a dict of its own, at a -/
def ExK (cls : Value) (a : Addr) : HO := .ext fun h => ∃ (oe : Obj) (vs : Array Value), h.get? a = some oe ∧ Zc cls none oe ∧ oe.data = .fields vs
theorem exK_ok {P : Program} {w : World} {H : Hp} {h : Heap} {a : Addr} {cls : Value} {oe : Obj} (e : h.get? a = some oe) (z : Zc cls none oe) (d : ∃ vs, oe.data = .fields vs) : ObjOk P w H h a (ExK cls a) := by
  obtain ⟨vs, d⟩ := d
  refine ⟨⟨oe, vs, e, z, d⟩, ⟨oe, e⟩, ?_⟩
  rintro h1 h2 ⟨o, v, q, r⟩ k
  exact ⟨o, v, k o q, r⟩
section
variable {X : Cx} {pins : List (Addr × Obj)} {σ : L2.St} {H : Hp} {s : Shared}
/-- a pinned object that is new since the entry is tracked from now on -/
theorem track {a : Addr} {oe : Obj} {cls : Value} (I : Inv X ((a, oe) :: pins) σ H s) (hz : Zc cls none oe) (hd : ∃ vs, oe.data = .fields vs) (hnew : X.s_0.heap.get? a = none) (hpin : ∀ p ∈ X.pn ++ pins, p.1 ≠ a) :
    Inv X pins σ (upd H a (ExK cls a)) s := by
  obtain ⟨ha, na, nL, nF, nc⟩ := I.pin (a, oe) (List.mem_append_right _ List.mem_cons_self)
  have neq : ∀ b u, H b = some u → b ≠ a := fun b u e => ne_of_none e na
  have ne0 : ∀ b o, X.s_0.heap.get? b = some o → b ≠ a := fun b o e z => by
    rw [z, hnew] at e
    cases e
  have nec : ∀ x c, X.env.cells.lookup x = some c → c ≠ a := fun x c e z => by
    obtain ⟨v, o, ho, hv⟩ := I.cell x c e
    rw [z] at ho
    rw [ha] at ho
    cases ho
    exact nc v hv
  have B := I.base
  constructor
  · exact I.ok
  · exact I.os
  · exact I.bare
  · constructor
    · exact B.keep
    · exact B.slot
    · intro b o e n hx
      rw [upd_ne (ne0 b o e)]
      exact B.free b o e n hx
    · exact B.there
    · intro b xs e
      have q := B.tups b xs e
      rw [upd_ne (neq b _ q)]
      exact q
    · intro b o u e
      have q := B.frzs b o u e
      rw [upd_ne (neq b _ q)]
      exact q
    · intro b ps e
      obtain ⟨more, q⟩ := B.tbls b ps e
      exact ⟨more, by rw [upd_ne (neq b _ q)]; exact q⟩
  · exact I.loc
  · exact I.cell
  · rw [upd_ne (fun z => nL z.symm)]
    exact I.free
  · intro x c e
    rw [upd_ne (nec x c e)]
    exact I.freeC x c e
  · intro p hp
    have hp2 : p ∈ X.pn ++ (a, oe) :: pins := by
      rcases List.mem_append.mp hp with z | z
      · exact List.mem_append_left _ z
      · exact List.mem_append_right _ (List.mem_cons_of_mem _ z)
    obtain ⟨e1, e2, e3⟩ := I.pin p hp2
    exact ⟨e1, by rw [upd_ne (hpin p hp)]; exact e2, e3⟩
  · intro b u e
    by_cases hb : b = a
    · rw [hb, upd_same] at e
      cases e
      rw [hb]
      exact exK_ok ha hz hd
    · rw [upd_ne hb] at e
      refine (I.hok b u e).stay (fun _ _ _ q => q) (fun c q => ?_) fun c xs q => ?_
      · rw [upd_ne (neq c _ q)]
        exact q
      · rw [upd_ne (neq c _ q)]
        exact q
  · exact I.len
/-- behind the suite, the exception still pinned -/
theorem unsuiteP {a : Addr} {oe : Obj} {pn' : List (Addr × Obj)} (I : Inv (X.suite a ((a, oe) :: (X.pn ++ pins))) pn' σ H s) (ok : X.Ok) : Inv X ((a, oe) :: pins) σ H s where
  ok := ok
  os := I.os
  bare := I.bare
  base := I.base
  loc := I.loc
  cell := I.cell
  free := I.free
  freeC := I.freeC
  pin := fun p hp => I.pin p (List.mem_append_left _ (by
    rcases List.mem_append.mp hp with z | z
    · exact List.mem_cons_of_mem _ (List.mem_append_left _ z)
    · rcases List.mem_cons.mp z with z | z
      · rw [z]
        exact List.mem_cons_self
      · exact List.mem_cons_of_mem _ (List.mem_append_right _ z)))
  hok := I.hok
  len := I.len
end
/-- what «except x as n: suite» wishes of the body's exceptions, each of which the clause takes; behind the suite the exception is tracked -/
def wKeep (K : PySem.W.Frag) (c : Value) (n i : Nat) (ts : Addr → TS) (D : Ends) : WX := fun cls d σ H => d = none ∧ PySem.W.exmOne K cls c = some true ∧
  (σ.length = n → ∀ a, H a = none → ts a { nx := fun σ' H' => D.nx (σ'.set i none) (upd H' a (ExK cls a)), rt := fun _ _ => False } (σ.set i (some (.ref a))) H)
section
variable {X : Cx} {x n : Str} {c : Value} {i : Nat} {body suite : List Stmt} {b₀ : Stmt} {np pos pos' : Pos} {tb : WX → TS} {ts : Addr → TS}
theorem ps_try_keep (hex : X.ex = []) (hs : X.stack = X.env :: X.outer) (hf : X.env.frame = some X.env.locals) (hN : X.N.Nodup) (hi : X.N[i]? = some n) (hln : X.env.kindOf n = some .local) (hc : Names X x c)
    (hb : ∀ (W : WX) (pn : List (Addr × Obj)) (xe : Value → Shared → Prop), Takes (X.tr pn xe) W → PassesOwn (model X.prog X.w) X.A X.env xe → PSs (X.tr pn xe) body (tb W))
    (hsu : ∀ (a : Addr) (oe : Obj) (pn : List (Addr × Obj)), PSs (X.suite a ((a, oe) :: pn)) (b₀ :: suite) (ts a)) :
    PS X (.Try body [.ExceptHandler (some (.Name x np)) (some n) (b₀ :: suite) pos'] [] [] pos) (fun D σ H => tb (wKeep X.K c X.N.length i ts D) D σ H) := by
  constructor
  intro pins s σ H D I h
  have ok := I.ok
  have frames : X.A.frames = some (X.env :: X.outer) := by rw [ok.frames, hs]
  refine wpAny_Try_except ?_
  let catch_ : Value → Shared → Prop := fun e s₁ => wpAny (model X.prog X.w) X.A (noteFrame e X.env) (fun _ s₂ => wpAny (model X.prog X.w) X.A (setFlight e none)
    (fun _ s₃ => wpAny (model X.prog X.w) X.A (handleBy e X.env [.ExceptHandler (some (.Name x np)) (some n) (b₀ :: suite) pos']) (SP X pins D) X.xe s₃) X.xe s₂) X.xe s₁
  have caught : Takes (X.tr (X.pn ++ pins) catch_) (wKeep X.K c X.N.length i ts D) := by
    rintro u s' ⟨a, B, sI, pins', σ', H', cls, d, rfl, J', nb, up, sky, na, os, ag, hd0, hm, hw⟩
    subst hd0
    have J : Inv X pins σ' H' sI := J'.ofTry ok
    have sky2 : Sky B (X.env :: X.outer) a (Zc cls none) X.env.locals s'.heap := by
      rw [← hs]
      exact sky
    refine Sky.land Zc.steady frames hf sky2 fun h3 fl3 up3 => ?_
    have J3 : Inv X pins σ' H' { s' with heap := h3 } := J.landed nb fl3.1 (up.trans up3) os ag
    obtain ⟨oe3, vs3, he3, hz3, hd3⟩ := fl3.there
    have notFrame : a ∉ frs (X.env :: X.outer) := fun hm => by
      obtain ⟨_, o', e', hnf⟩ := fl3.2.2.1.mem hm
      rw [he3] at e'
      cases e'
      exact hnf _ hd3
    have nL : a ≠ X.env.locals := fun z => notFrame (List.mem_filterMap.mpr ⟨X.env, List.mem_cons_self, by rw [hf, z]⟩)
    have nF : a ∉ X.fs := fun hm => by
      obtain ⟨e, he, q⟩ := List.mem_filterMap.mp hm
      exact notFrame (List.mem_filterMap.mpr ⟨e, List.mem_cons_of_mem _ he, q⟩)
    -- the exception is new
    have newI : sI.heap.get? a = none := by
      cases e : sI.heap.get? a with
      | none => rfl
      | some o =>
        have z := nb a o e (by rw [hs]; exact notFrame)
        have z2 := fl3.2.1
        rw [z] at z2
        cases z2
    have new0 : X.s_0.heap.get? a = none := by
      cases e : X.s_0.heap.get? a with
      | none => rfl
      | some o =>
        obtain ⟨o', z⟩ := J.base.there a o e (by rw [hex]; exact fun z => nomatch z)
        rw [newI] at z
        cases z
    have notPin : ∀ p ∈ X.pn ++ pins, p.1 ≠ a := fun p hp z => by
      obtain ⟨e, _⟩ := J.pin p hp
      rw [z, newI] at e
      cases e
    have S3 := J3.suite he3 hd3 na nL nF
    refine wpAny_handleBy_cons (codeAny_handlers_test ?_) (by intro q; cases q)
    have LT : PySem.W.Looks (model X.prog X.w) h3 (typeOf (.ref a)) cls := fun A Q E s k q => wpAny_typeOf_ref (k _ _ he3) (by rw [hz3.1]; exact q)
    have LM := PySem.W.exm_one (M := model X.prog X.w) J3.kIn LT hm
    have named : ∀ {Q : Value → Shared → Prop} {E : Value → Shared → Prop}, Q c { s' with heap := h3 } → wpAny (model X.prog X.w) (X.A.mark (some (.ref a))) (eval (.Name x np) X.env) Q E { s' with heap := h3 } := fun {Q E} q => by
      obtain ⟨hg, hdbg, hcase⟩ := hc
      rcases hcase with hm | ⟨hm, hv, hnn⟩
      · exact ld_glob (X := X.suite a ((a, oe3) :: (X.pn ++ pins))) S3 hg hm q hdbg
      · exact ld_blt (X := X.suite a ((a, oe3) :: (X.pn ++ pins))) S3 hg hm hv q hnn hdbg
    refine named (LM.here ?_)
    refine codeAny_handlers_suite_as (HandSPX.lands_againZ fl3 fun h4 fl4 up4 => ?_)
    have J4 : Inv X pins σ' H' { s' with heap := h4 } := J.landed nb fl4.1 ((up.trans up3).trans up4) os ag
    obtain ⟨oe4, vs4, he4, hz4, hd4⟩ := fl4.there
    have S4 := J4.suite he4 hd4 na nL nF
    refine store_ok (X := X.suite a ((a, oe4) :: (X.pn ++ pins))) (v := .ref a) S4 hN hi (.inl hln) rfl (fun s5 S5 => ?_) (.inr hln)
    have run := (hsu a oe4 (X.pn ++ pins)).run [] s5 _ H' _ S5 (hw J'.len a na)
    refine wpAny_mono run (fun f s6 hsp => ?_) fun _ _ z => z.elim
    match f, hsp with
    | .next, hsp =>
      obtain ⟨σ6, H6, S6, q6⟩ := hsp
      exact gone_ok (unsuiteP S6 ok) hN hi hln fun s7 J7 => ⟨_, _, track J7 hz4 ⟨_, hd4⟩ new0 notPin, q6⟩
    | .brk, hsp =>
      obtain ⟨_, _, _, q6⟩ := hsp
      exact q6.elim
    | .cont, hsp =>
      obtain ⟨_, _, _, q6⟩ := hsp
      exact q6.elim
    | .ret u, hsp =>
      obtain ⟨_, _, _, _, _, q6⟩ := hsp
      exact q6.elim
  refine wpAny_mono ((hb (wKeep X.K c X.N.length i ts D) (X.pn ++ pins) catch_ caught PassesOwn.looking).run [] s σ H D (I.toTry _) h) (fun f s1 hsp => ?_) (fun e s1 he => he)
  match f, hsp with
  | .next, hsp =>
    obtain ⟨σ', H', J', q⟩ := hsp
    exact wpAny_execs_nil ⟨σ', H', J'.ofTry ok, q⟩
  | .brk, hsp =>
    obtain ⟨σ', H', J', q⟩ := hsp
    exact ⟨σ', H', J'.ofTry ok, q⟩
  | .cont, hsp =>
    obtain ⟨σ', H', J', q⟩ := hsp
    exact ⟨σ', H', J'.ofTry ok, q⟩
  | .ret u, hsp =>
    obtain ⟨v, σ', H', J', r, q⟩ := hsp
    exact ⟨v, σ', H', J'.ofTry ok, r, q⟩
end
/-- isinstance(e, c), e a kept exception -/
def rIsK (K : PySem.W.Frag) : List V → Hp → VK → Prop := fun xs H Q => ∃ (a D : Addr) (c : V) (cv : Value) (b : Bool), xs = [.ref a, c] ∧ H a = some (ExK (.ref D) a) ∧ ExcC K D ∧ ClsV c cv ∧ PySem.W.kitOne K (.ref D) cv = some b ∧ Q (.bl b) H
theorem call_isK {X : Cx} : CallR X (.builtin "isinstance") (rIsK X.K) := by
  intro pins s σ H xs us Q I r h
  obtain ⟨a, D, c, cv, b, rfl, ha, C, hcv, e, q⟩ := h
  obtain ⟨u1, u2, rfl, r1, r2⟩ := vals2 r
  have e2 := hcv.eq r2
  subst e2
  cases (show u1 = Value.ref a from r1)
  obtain ⟨⟨oe, vs, hget, hz, hv⟩, _, _⟩ := I.hok a _ ha
  have J : PySem.W.InstAt s.heap a oe D none := by
    obtain ⟨oc, od, oda, osl⟩ := oe
    obtain ⟨h1, h2⟩ := hz
    simp only at h1 h2 hv
    subst h1 h2 hv
    exact ⟨hget, rfl, rfl, trivial⟩
  have KX := PySem.W.handS_kitx_exc (x := a) (ox := oe) C.hg C.hk C.hs C.hd C.ha C.hn C.ht C.hm
  exact PySem.W.kia_one KX I.kIn J e (fun z => nomatch z) fun tk => ⟨.bl b, H, I.kept (t' := tk) fun _ _ z => z, rfl, q⟩
end KR
/-! The text by places; what a def of the text is worth; small defs: is_whole, is_between. -/
namespace LH
open PySem PySem.Spec PyProof.Rows L2 KR KW
/-! ### the text -/
def top (i : Nat) : Stmt := PySem.Challenge.pw_letterhand_k47_whole_web_bounds.main.body.getD i (.Pass ⟨0, 0, 0, 0⟩)
abbrev sWhole : Stmt := top 16
abbrev sBetween : Stmt := top 17
abbrev sTurnQ : Stmt := top 18
abbrev sUndone : Stmt := top 19
abbrev sWordQ : Stmt := top 22
abbrev sSureW : Stmt := top 23
abbrev sRowQ : Stmt := top 26
abbrev sSureR : Stmt := top 27
abbrev sSentBy : Stmt := top 28
abbrev sSend : Stmt := top 29
abbrev sMany : Stmt := top 32
abbrev sLevel : Stmt := top 33
abbrev sWays : Stmt := top 34
abbrev sParts : Stmt := top 35
abbrev sWay : Stmt := top 36
abbrev sHandQ : Stmt := top 39
abbrev sHandsQ : Stmt := top 40
abbrev sBook (j : Nat) : Stmt := inClass (top 41) j
abbrev sState : Stmt := top 43
abbrev sNext : Stmt := top 44
abbrev sRefusals : Stmt := top 45
abbrev sRowOf : Stmt := top 46
abbrev sLawWay : Stmt := top 47
abbrev sLine : Stmt := top 48
abbrev sWrong : Stmt := top 49
abbrev sRefused : Stmt := top 50
abbrev sLaw : Stmt := top 51
/-! ### a def of the module, a method: what it is worth -/
/-- the def stands -/
def Dn (K : PySem.W.Frag) (mg : Str → Option Value) (x : Str) (st : Stmt) : Prop := ∃ f fd, mg x = some (.ref f) ∧ Fun K x x st f fd
def Mn (K : PySem.W.Frag) (C : Addr) (m qual : Str) (st : Stmt) : Prop := ∃ f fd, Meth K C m f ∧ Fun K m qual st f fd
structure Gd (P : Program) (w : World) (K : PySem.W.Frag) (mg : Str → Option Value) (base : Heap) (k : Nat) (x : Str) (ps : List Str) (sp : Sp) : Prop where
  ex : ∃ f fd, mg x = some (.ref f) ∧ PySem.W.keepIn K (.ref f) = true ∧ Binds K fd ps [] ∧ FnOk P w K mg base (L2.CX P w) k f fd ps sp
structure Gm (P : Program) (w : World) (K : PySem.W.Frag) (mg : Str → Option Value) (base : Heap) (C : Addr) (k : Nat) (m : Str) (ps : List Str) (sp : Sp) : Prop where
  ex : ∃ f fd, Meth K C m f ∧ Binds K fd ps [] ∧ FnOk P w K mg base (L2.CX P w) k f fd ps sp
section
variable {X : Cx} {k : Nat} {x : Str} {ps : List Str} {sp : Sp} {E : XK} {e : Expr} {es : List Expr} {t : TA} {p pos apos : Pos} {C : Addr}
theorem pe_gd (G : Gd X.prog X.w X.K X.mg X.base k x ps sp) (hr : Room k X.A) (hx : Passes (L2.CX X.prog X.w) X E) (ha : PA X (e :: es) t) (hg : Gl X x := by rfl) (hdb : (x == ("__debug__" : Str)) = false := by decide)
    (he : starEach (e :: es) X.env = (false, eval e X.env) :: starEach es X.env := by rfl) (hpl : (backTo pos (starEach es X.env)).any (·.1) = false := by rfl) : PE X (.Call (.Name x p) (e :: es) [] pos) (tCall sp [] E t) := by
  obtain ⟨f, fd, gm, kp, b, F⟩ := G.ex
  exact pe_call F hr hg gm kp b .nil hx ha hdb he hpl
end
/-- nothing leaves -/
abbrev noE : XK := fun _ _ _ => False
/-! ### things -/
/-- a thing that may be handed in, and the name of its type -/
inductive Th (H : Hp) : V → String → Prop where
  | non : Th H .non "NoneType"
  | bl (b : Bool) : Th H (.bl b) "bool"
  | int (i : Int) : Th H (.int i) "int"
  | str (z : Str) : Th H (.str z) "str"
  | lst {a : Addr} {xs : List V} (e : H a = some (.lst xs)) : Th H (.ref a) "list"
  | tup {a : Addr} {xs : List V} (e : H a = some (.tup xs)) : Th H (.ref a) "tuple"
theorem Th.ty {K : PySem.W.Frag} {H : Hp} {x : V} {n : String} (t : Th H x n) : TyX K H x (.type n) := by
  cases t with
  | non => exact .base .non
  | bl b => exact .base (.bl b)
  | int i => exact .base (.int i)
  | str z => exact .base (.str z)
  | lst e => exact .base (.lst e)
  | tup e => exact .base (.tup e)
theorem Th.same {H H' : Hp} {x : V} {n : String} (t : Th H x n) (s : Same H H') : Th H' x n := by
  cases t with
  | non => exact .non
  | bl b => exact .bl b
  | int i => exact .int i
  | str z => exact .str z
  | lst e => exact .lst (s _ _ e)
  | tup e => exact .tup (s _ _ e)
/-- a whole number, from lo to hi -/
def whole : V → Bool
  | .int _ => true
  | _ => false
def between (x : V) (lo hi : Int) : Bool := match x with
  | .int i => decide (lo ≤ i) && decide (i ≤ hi)
  | _ => false
/-! ### what the text's top holds -/
structure Tops (mg : Str → Option Value) : Prop where
  isinstance : mg "isinstance" = none
  int : mg "int" = none
  bool : mg "bool" = none
  tuple : mg "tuple" = none
  list : mg "list" = none
  len : mg "len" = none
  all : mg "all" = none
  sorted : mg "sorted" = none
  range : mg "range" = none
  abs : mg "abs" = none
  repr : mg "repr" = none
  least : ∃ t, mg "LEAST_MANY" = some (.int 2 t)
  most : ∃ t, mg "MOST_MANY" = some (.int 4 t)
  steps : ∃ t, mg "MOST_STEPS" = some (.int 100 t)
  letters : ∃ t, mg "MOST_LETTERS" = some (.int 100 t)
  web : ∃ t, mg "MOST_WEB" = some (.int 81 t)
  hands : ∃ t, mg "MOST_HANDS" = some (.int 6 t)
section
variable {P : Program} {w : World} {K : PySem.W.Frag} {mg : Str → Option Value} {base : Heap}
/-! ### is_whole -/
def spWhole : Sp := fun vs H Q _ => ∃ x n, vs = [x] ∧ Th H x n ∧ Q (.bl (whole x)) H
theorem scWhole : FnScope ["thing"] ["thing"] (defScope sWhole) := ⟨rfl, rfl, rfl, by decide +kernel, rfl, by decide +kernel, by decide +kernel⟩
theorem gd_whole (D : Dn K mg "is_whole" sWhole) (T : Tops mg) : Gd P w K mg base 1 "is_whole" ["thing"] spWhole := by
  obtain ⟨f, fd, gm, F⟩ := D
  refine ⟨f, fd, gm, F.kp, F.binds fun _ _ _ _ _ _ us hl => match us, hl with | [_], _ => rfl, F.okX scWhole (fun vs H Q E h => ?_) (fun cdv A outer s H vs Q E hr h => ?_)⟩
  · obtain ⟨x, n, rfl, _⟩ := h
    rfl
  · obtain ⟨x, n, rfl, ht, k⟩ := h
    refine ⟨_, pss_one (ps_ret (pe_and (pe_callB call_isi (by rfl) T.isinstance (by decide +kernel) (pa_cons (pv 0) (pa_cons (pe_bltn (v := .ty "int") rfl T.int boot_int rfl) pa_nil)))
      (pe_one (pe_not (pe_callB call_isi (by rfl) T.isinstance (by decide +kernel) (pa_cons (pv 0) (pa_cons (pe_bltn (v := .ty "bool") rfl T.bool boot_bool rfl) pa_nil))))))), ?_⟩
    cases ht with
    | int i => exact ⟨_, rfl, _, .ty "int", .type "int", .type "int", true, rfl, .ty "int", (Th.int i).ty, kit_ty (by decide +kernel), true, rfl, iteT ⟨_, rfl, _, .ty "bool", .type "int", .type "bool", false, rfl, .ty "bool", (Th.int i).ty, kit_ty (by decide +kernel), false, rfl, k⟩⟩
    | bl b => exact ⟨_, rfl, _, .ty "int", .type "bool", .type "int", true, rfl, .ty "int", (Th.bl b).ty, kit_ty (by decide +kernel), true, rfl, iteT ⟨_, rfl, _, .ty "bool", .type "bool", .type "bool", true, rfl, .ty "bool", (Th.bl b).ty, kit_ty (by decide +kernel), true, rfl, k⟩⟩
    | non => exact ⟨_, rfl, _, .ty "int", .type "NoneType", .type "int", false, rfl, .ty "int", Th.non.ty, kit_ty (by decide +kernel), false, rfl, iteF k⟩
    | str z => exact ⟨_, rfl, _, .ty "int", .type "str", .type "int", false, rfl, .ty "int", (Th.str z).ty, kit_ty (by decide +kernel), false, rfl, iteF k⟩
    | lst e => exact ⟨_, rfl, _, .ty "int", .type "list", .type "int", false, rfl, .ty "int", (Th.lst e).ty, kit_ty (by decide +kernel), false, rfl, iteF k⟩
    | tup e => exact ⟨_, rfl, _, .ty "int", .type "tuple", .type "int", false, rfl, .ty "int", (Th.tup e).ty, kit_ty (by decide +kernel), false, rfl, iteF k⟩
/-! ### is_between -/
def spBetween : Sp := fun vs H Q _ => ∃ x n lo hi, vs = [x, .int lo, .int hi] ∧ Th H x n ∧ Q (.bl (between x lo hi)) H
theorem scBetween : FnScope ["thing", "least", "most"] ["thing", "least", "most"] (defScope sBetween) := ⟨rfl, rfl, rfl, by decide +kernel, rfl, by decide +kernel, by decide +kernel⟩
theorem gd_between (D : Dn K mg "is_between" sBetween) (G : Gd P w K mg base 1 "is_whole" ["thing"] spWhole) : Gd P w K mg base 2 "is_between" ["thing", "least", "most"] spBetween := by
  obtain ⟨f, fd, gm, F⟩ := D
  refine ⟨f, fd, gm, F.kp, F.binds fun _ _ _ _ _ _ us hl => match us, hl with | [_, _, _], _ => rfl, F.okX scBetween (fun vs H Q E h => ?_) (fun cdv A outer s H vs Q E hr h => ?_)⟩
  · obtain ⟨x, n, lo, hi, rfl, _⟩ := h
    rfl
  · obtain ⟨x, n, lo, hi, rfl, ht, k⟩ := h
    refine ⟨_, pss_one (ps_ret (pe_and (pe_gd G hr passL (pa_cons (pv 0) pa_nil)) (pe_one (pe_chain op_le op_le (pv 1) (pv 0) (pv 2))))), ?_⟩
    refine ⟨x, rfl, x, n, rfl, ht, _, rfl, ?_⟩
    cases ht with
    | int i =>
      refine iteT ⟨_, rfl, _, rfl, _, _, rfl, rfl, _, rfl, ?_⟩
      by_cases c : lo ≤ i
      · rw [decide_eq_true c]
        refine iteT ⟨_, rfl, _, _, rfl, rfl, ?_⟩
        have e : between (.int i) lo hi = decide (i ≤ hi) := by
          show (decide (lo ≤ i) && decide (i ≤ hi)) = _
          rw [decide_eq_true c, Bool.true_and]
        rw [e] at k
        exact k
      · rw [decide_eq_false c]
        have e : between (.int i) lo hi = false := by
          show (decide (lo ≤ i) && decide (i ≤ hi)) = _
          rw [decide_eq_false c, Bool.false_and]
        rw [e] at k
        exact iteF k
    | bl b => exact iteF k
    | non => exact iteF k
    | str z => exact iteF k
    | lst e => exact iteF k
    | tup e => exact iteF k
end
end LH
/-! Comprehensions that map; is_turn, undone, is_hand, are_hands. -/
namespace LH
open PySem PySem.Spec PyProof.Rows L2 KR KW
/-! ### comprehensions whose element is a function of the item, all that stood kept -/
/-- what a comprehension's reading asks behind its iterable -/
def LcG (J : It) (g : TG) (tt : TT) (te : TE) (vs : List Nat) (σ : L2.St) (H1 : Hp) (D : Addr) (Qd : Hp → Prop) : Prop :=
  ∃ W : Nat → Nat → Hp → Prop, (∃ m, W 0 m (upd H1 D (.lst []))) ∧
    ∀ i m H, W i m H → (J.stop i H ∧ Qd H) ∨
      (J.go i H ∧ ∃ Nx : Hp → Prop, (∀ H', Nx H' → ∃ m', m' < m ∧ W (i + 1) m' H') ∧
        ∀ x H', J.yld i H x H' → g x (wipe σ vs) H' fun σ2 H2 => wipe σ2 vs = wipe σ vs ∧
          tt σ2 H2 fun b H3 => if b = true then te σ2 H3 fun y H4 => ∃ acc, H4 D = some (.lst acc) ∧ acc.length < sizeLine ∧ Nx (upd H4 D (.lst (acc ++ [y]))) else Nx H3)
/-- one turn: the element's value is y, all that stood is kept -/
def TurnIs (g : TG) (tt : TT) (te : TE) (vs : List Nat) (σ : L2.St) (x y : V) (H : Hp) : Prop := ∀ (Q : VK) (R : Hp → Prop), (∀ H', Same H H' → Q y H') →
  g x (wipe σ vs) H fun σ2 H2 => wipe σ2 vs = wipe σ vs ∧ tt σ2 H2 fun b H3 => if b = true then te σ2 H3 Q else R H3
theorem take_snoc {α : Type} : ∀ {l : List α} {i : Nat} {x : α}, l[i]? = some x → l.take (i + 1) = l.take i ++ [x]
  | [], i, x, h => by simp at h
  | a :: l, 0, x, h => by
    have e : a = x := Option.some.inj h
    rw [e]
    rfl
  | a :: l, i + 1, x, h => by
    have ih := take_snoc (l := l) (i := i) (x := x) h
    rw [List.take_succ_cons, ih]
    rfl
theorem same_upd {H1 H : Hp} {D : Addr} {o : HO} (s : Same H1 H) (hD : H1 D = none) : Same H1 (upd H D o) := fun b u e => by
  rw [upd_ne (ne_of_none e hD)]
  exact s b u e
section
variable {g : TG} {tt : TT} {te : TE} {vs : List Nat} {σ : L2.St} {H1 : Hp} {D a : Addr} {Qd : Hp → Prop} {xs : List V} (f : V → V)
/-- the invariant: what has been made -/
def Made1 (H1 : Hp) (D : Addr) (ys : List V) (i : Nat) (H : Hp) : Prop := Same H1 H ∧ H D = some (.lst (ys.take i))
theorem made_turn {ys : List V} {i : Nat} {x y : V} {H : Hp} (hD : H1 D = none) (hz : ys.length ≤ sizeLine) (hy : ys[i]? = some y) (p : Made1 H1 D ys i H) (t : TurnIs g tt te vs σ x y H) :
    g x (wipe σ vs) H fun σ2 H2 => wipe σ2 vs = wipe σ vs ∧ tt σ2 H2 fun b H3 => if b = true then te σ2 H3 fun y H4 => ∃ acc, H4 D = some (.lst acc) ∧ acc.length < sizeLine ∧ Made1 H1 D ys (i + 1) (upd H4 D (.lst (acc ++ [y]))) else Made1 H1 D ys (i + 1) H3 := by
  obtain ⟨s, e⟩ := p
  have hi : i < ys.length := (List.getElem?_eq_some_iff.mp hy).1
  refine t (fun y H4 => ∃ acc, H4 D = some (.lst acc) ∧ acc.length < sizeLine ∧ Made1 H1 D ys (i + 1) (upd H4 D (.lst (acc ++ [y])))) (Made1 H1 D ys (i + 1)) fun H' s' => ?_
  refine ⟨ys.take i, s' _ _ e, by rw [List.length_take]; omega, same_upd (s.trans s') hD, ?_⟩
  rw [upd_same, take_snoc hy]
theorem lc_tupF {K : PySem.W.Frag} (ha : H1 a = some (.tup xs)) (hD : H1 D = none) (hz : xs.length ≤ sizeLine) (hs : ∀ x H, x ∈ xs → Same H1 H → TurnIs g tt te vs σ x (f x) H)
    (hd : ∀ H, Same H1 H → H D = some (.lst (xs.map f)) → Qd H) : LcG (Itt K a) g tt te vs σ H1 D Qd :=
  lc_tup (K := K) (a := a) (xs := xs) (Made1 H1 D (xs.map f)) ⟨same_upd (Same.refl H1) hD, upd_same⟩ (fun i H _ p => SqT.of (p.1 _ _ ha))
    (fun i x H hx p => made_turn hD (by rw [List.length_map]; exact hz) (by rw [List.getElem?_map, hx]; rfl) p (hs x H (List.mem_of_getElem? hx) p.1))
    (fun H p => hd H p.1 (by rw [p.2, List.take_of_length_le (by rw [List.length_map]; exact Nat.le_refl _)]))
theorem lc_sqF {K : PySem.W.Frag} (ha : SqT K H1 a xs) (hst : ∀ H, Same H1 H → SqT K H a xs) (hD : H1 D = none) (hz : xs.length ≤ sizeLine) (hs : ∀ x H, x ∈ xs → Same H1 H → TurnIs g tt te vs σ x (f x) H)
    (hd : ∀ H, Same H1 H → H D = some (.lst (xs.map f)) → Qd H) : LcG (Itt K a) g tt te vs σ H1 D Qd :=
  lc_tup (K := K) (a := a) (xs := xs) (Made1 H1 D (xs.map f)) ⟨same_upd (Same.refl H1) hD, upd_same⟩ (fun i H _ p => hst H p.1)
    (fun i x H hx p => made_turn hD (by rw [List.length_map]; exact hz) (by rw [List.getElem?_map, hx]; rfl) p (hs x H (List.mem_of_getElem? hx) p.1))
    (fun H p => hd H p.1 (by rw [p.2, List.take_of_length_le (by rw [List.length_map]; exact Nat.le_refl _)]))
theorem lc_listF {K : PySem.W.Frag} (ha : H1 a = some (.lst xs)) (hD : H1 D = none) (hz : xs.length ≤ sizeLine) (hs : ∀ x H, x ∈ xs → Same H1 H → TurnIs g tt te vs σ x (f x) H)
    (hd : ∀ H, Same H1 H → H D = some (.lst (xs.map f)) → Qd H) : LcG (Itl K a) g tt te vs σ H1 D Qd :=
  lc_list (K := K) (a := a) (xs := xs) (Made1 H1 D (xs.map f)) ⟨same_upd (Same.refl H1) hD, upd_same⟩ (fun i H _ p => SqL.of (p.1 _ _ ha))
    (fun i x H hx p => made_turn hD (by rw [List.length_map]; exact hz) (by rw [List.getElem?_map, hx]; rfl) p (hs x H (List.mem_of_getElem? hx) p.1))
    (fun H p => hd H p.1 (by rw [p.2, List.take_of_length_le (by rw [List.length_map]; exact Nat.le_refl _)]))
theorem lc_rangeF {n : Nat} (f : Nat → V) (hD : H1 D = none) (hz : n ≤ sizeLine) (hs : ∀ (i : Nat) H, i < n → Same H1 H → TurnIs g tt te vs σ (.int (0 + (i : Int))) (f i) H)
    (hd : ∀ H, Same H1 H → H D = some (.lst ((List.range n).map f)) → Qd H) : LcG (Itr 0 n) g tt te vs σ H1 D Qd :=
  lc_range (lo := 0) (n := n) (Made1 H1 D ((List.range n).map f)) ⟨same_upd (Same.refl H1) hD, upd_same⟩
    (fun i H hi p => made_turn hD (by rw [List.length_map, List.length_range]; exact hz) (by rw [List.getElem?_map, List.getElem?_range hi]; rfl) p (hs i H hi p.1))
    (fun H p => hd H p.1 (by rw [p.2, List.take_of_length_le (by rw [List.length_map, List.length_range]; exact Nat.le_refl _)]))
end
theorem rv_wv (r : KW.Row) : rv r = (r.map fun x : Nat => (x : Int)).map V.int := by
  unfold rv
  rw [List.map_map]
  rfl
theorem rv_len (r : KW.Row) : (rv r).length = r.length := by
  unfold rv
  rw [List.length_map]
theorem wv_len (r : Wd) : (wv r).length = r.length := by
  unfold wv
  rw [List.length_map]
/-- a turn: a row of many letters, each once -/
def isT (m : Nat) (t : KW.Row) : Bool := t.isPerm (List.range m)
theorem isT_perm {m : Nat} {t : KW.Row} (h : isT m t = true) : t.Perm (List.range m) := List.isPerm_iff.mp h
theorem isT_len {m : Nat} {t : KW.Row} (h : isT m t = true) : t.length = m := by
  have := (isT_perm h).length_eq
  rw [List.length_range] at this
  exact this
theorem isT_lt {m : Nat} {t : KW.Row} (h : isT m t = true) : ∀ x ∈ t, x < m := fun x hx => List.mem_range.mp ((isT_perm h).mem_iff.mp hx)
theorem int_map_perm {t : KW.Row} {m : Nat} (h : t.Perm (List.range m)) {ns : List Int} (hp : ns.Perm (t.map fun x : Nat => (x : Int))) (hs : ns.Pairwise (· ≤ ·)) : ns = (List.range m).map fun x : Nat => (x : Int) := by
  refine PySem.W.ksm_same (hp.trans (h.map _)) hs ?_
  rw [List.pairwise_map]
  exact List.pairwise_lt_range.imp fun h => by omega
/-! ### lists of ints as data -/
theorem dp_ints {K : PySem.W.Frag} {H : Hp} : ∀ ns : List Int, DpAll K H (ns.map V.int) (ns.map PyData.int)
  | [] => .nil
  | n :: ns => .cons (.int n) (dp_ints ns)
theorem shaped_ints (ns : List Int) : SeqAt.shaped (.list (ns.map PyData.int)) = true ∧ PyData.eqv (.list (ns.map PyData.int)) (.list (ns.map PyData.int)) = true := by
  have lay : ∀ l : List Int, PyData.canLayAll0 (l.map PyData.int) = true := by
    intro l
    induction l with
    | nil => rfl
    | cons a l ih => simpa [PyData.canLayAll0, PyData.canLay0] using ih
  have dep : ∀ l : List Int, PyData.depthAll (l.map PyData.int) ≤ 1 := by
    intro l
    induction l with
    | nil => simp [PyData.depthAll]
    | cons a l ih => simp [PyData.depthAll, PyData.depth]; omega
  have h1 : (PyData.list (ns.map PyData.int)).canLay0 = true := by simpa [PyData.canLay0] using lay ns
  have h2 : (PyData.list (ns.map PyData.int)).depth ≤ 64 := by
    have := dep ns
    simp only [PyData.depth]
    omega
  refine ⟨by unfold SeqAt.shaped; rw [h1, decide_eq_true h2] <;> rfl, ?_⟩
  exact PySem.SeqAt.eqv_refl _ h1
end LH
/-! is_turn, undone, is_hand, are_hands. -/
namespace LH
open PySem PySem.Spec PyProof.Rows L2 KR KW
section
variable {P : Program} {w : World} {K : PySem.W.Frag} {mg : Str → Option Value} {base : Heap}
/-! ### is_turn, of a turn -/
def spTurnQ : Sp := fun vs H Q _ => ∃ (a : Addr) (m : Nat) (t : KW.Row), vs = [.ref a] ∧ TupF H a (rv t) ∧ isT m t = true ∧ 2 ≤ m ∧ m ≤ 4 ∧ ∀ H', Same H H' → Q (.bl true) H'
theorem scTurnQ : FnScope ["thing", "letter"] ["thing"] (defScope sTurnQ) := ⟨rfl, rfl, rfl, by decide +kernel, rfl, by decide +kernel, by decide +kernel⟩
theorem gd_turnQ (D : Dn K mg "is_turn" sTurnQ) (T : Tops mg) (G : Gd P w K mg base 2 "is_between" ["thing", "least", "most"] spBetween) : Gd P w K mg base 3 "is_turn" ["thing"] spTurnQ := by
  obtain ⟨f, fd, gm, F⟩ := D
  refine ⟨f, fd, gm, F.kp, F.binds fun _ _ _ _ _ _ us hl => match us, hl with | [_], _ => rfl, F.okX scTurnQ (fun vs H Q E h => ?_) (fun cdv A outer s H vs Q E hr h => ?_)⟩
  · obtain ⟨a, m, t, rfl, _⟩ := h
    rfl
  · obtain ⟨a, m, t, rfl, ha, ht, m2, m4, k⟩ := h
    obtain ⟨tl, gl⟩ := T.least
    obtain ⟨tm, gmo⟩ := T.most
    refine ⟨_, pss_cons (ps_if (PW.pt (pw_or (pt_not (pt_val (pe_callB call_isi (by rfl) T.isinstance (by decide +kernel) (pa_cons (pv 0) (pa_cons (pe_bltn (v := .ty "tuple") rfl T.tuple boot_tuple rfl) pa_nil)))))
        (pw_or1 (pt_not (pt_chain op_le op_le (pe_glob (v := .int 2) rfl gl ⟨_, rfl⟩) (pe_callB call_lenS (by rfl) T.len PySem.boot_len (pa_cons (pv 0) pa_nil)) (pe_glob (v := .int 4) rfl gmo ⟨_, rfl⟩)))))) (pss_one (ps_ret pe_bl)) pss_nil)
      (pss_cons (ps_if (pt_not (pt_val (pe_callB (cr_all rfl) (by rfl) T.all (by decide +kernel) (pa_cons
          (pe_lc (own := [("letter", 1)]) (g := gName 1) (tt := tYes) (te := tCall spBetween [] noE (tCons (tVar 1) (tCons (tC (.int 0)) (tCons (tOp (rI0 fun i j => .int (i - j)) (tCB (rLenS K) (tCons (tVar 0) tNil)) (tC (.int 1))) tNil)))) rfl scTurnQ.nd (pi_tup (pv 0)) (blkOk_by (N := ["thing", "letter"]) (sc := defScope sTurnQ) (by decide +kernel)) (fun _ _ _ _ _ => pg_name (i := 1) scTurnQ.nd rfl (Or.inl rfl)) (fun _ _ _ _ _ => pts_nil)
            (fun _ _ _ _ _ => pe_gd G (by exact hr) passL (pa_cons (pv 1) (pa_cons pe_int (pa_cons (pe_op op_sub (pe_callB call_lenS (by rfl) T.len PySem.boot_len (pa_cons (pv 0) pa_nil)) pe_int) pa_nil))))) pa_nil)))) (pss_one (ps_ret pe_bl)) pss_nil)
      (pss_one (ps_ret (pe_cmpR (op_eqD hr.units) (pe_callB cr_sortT (by rfl) T.sorted (by decide +kernel) (pa_cons (pv 0) pa_nil)) (pe_listRg rfl rfl T.list (prg_1 rfl T.range (pe_callB call_lenS (by rfl) T.len PySem.boot_len (pa_cons (pv 0) pa_nil)))) (nomark _))))), ?_⟩
    have hl := isT_len ht
    have hlv : ((rv t).length : Int) = (m : Int) := by rw [rv_len, hl]
    -- isinstance; the length
    refine ⟨_, rfl, _, .ty "tuple", .type "tuple", .type "tuple", true, rfl, .ty "tuple", ha.ty, kit_ty (by decide +kernel), true, rfl, iteF ?_⟩
    refine ⟨_, rfl, a, _, rfl, .inr ha.sq, _, _, rfl, rfl, _, rfl, ?_⟩
    rw [decide_eq_true (show (2 : Int) ≤ ((rv t).length : Int) by omega)]
    refine iteT ⟨_, _, rfl, rfl, _, rfl, ?_⟩
    rw [decide_eq_true (show ((rv t).length : Int) ≤ 4 by omega)]
    refine iteF ?_
    -- all letters
    refine ⟨_, rfl, a, rfl, ⟨_, ha.sq⟩, fun D hD => ?_⟩
    refine lc_sqF (fun _ => V.bl true) ha.sq (fun H s => (ha.same s).sq) hD (by rw [rv_len, hl, sizeLine_eq]; omega) (fun x H1 hx s1 Q1 R1 k1 => ?_) (fun H1 s1 e1 => ?_)
    · obtain ⟨y, hy, rfl⟩ := List.mem_map.mp hx
      refine ⟨rfl, ⟨_, rfl, _, rfl, a, _, rfl, .inr (ha.same s1).sq, _, _, rfl, rfl, V.int (y : Int), "int", 0, _, rfl, .int _, ?_⟩⟩
      have hb : between (.int (y : Int)) 0 (((rv t).length : Int) - 1) = true := by
        have := isT_lt ht y hy
        show (decide ((0 : Int) ≤ (y : Int)) && decide ((y : Int) ≤ ((rv t).length : Int) - 1)) = true
        rw [decide_eq_true (by omega), decide_eq_true (by omega)]
        rfl
      rw [hb]
      exact k1 _ (Same.refl _)
    · refine ⟨D, List.replicate t.length true, rfl, SqL.of (e1.trans ?_), true, ?_, iteF ?_⟩
      · rw [List.map_replicate, rv, List.map_map]
        exact congrArg (fun l => some (HO.lst l)) (by
          show t.map (fun _ => V.bl true) = _
          rw [List.map_const'])
      · rw [List.all_replicate]
        split <;> rfl
      -- sorted(thing) == list(range(len(thing)))
      · refine ⟨_, rfl, a, t.map (fun x : Nat => (x : Int)), rfl, rv_wv t ▸ (ha.same s1).sq, by rw [List.length_map, hl]; omega, fun ns' l a1 a2 a3 => ?_⟩
        have sl : Same H1 (upd H1 l (.lst (ns'.map V.int))) := fun b o e => by rw [upd_ne (ne_of_none e a3)]; exact e
        refine ⟨_, rfl, a, _, rfl, .inr (ha.same (s1.trans sl)).sq, _, rfl, RgOk.of_le (by omega) (by omega) (by omega) (by omega), fun q hq => ?_⟩
        have e2 := int_map_perm (isT_perm ht) a1 a2
        have e3 : rgV 0 ((rv t).length : Int) = ns'.map V.int := by
          unfold rgV
          rw [e2, List.map_map, hlv, Int.sub_zero, Int.toNat_natCast]
          exact List.map_congr_left fun i _ => by show V.int (0 + (i : Int)) = V.int (i : Int); rw [Int.zero_add]
        have lq : l ≠ q := fun z => by
          rw [z] at hq
          rw [upd_same] at hq
          cases hq
        have S := shaped_ints ns'
        refine ⟨.list (ns'.map PyData.int), .list (ns'.map PyData.int), .lst (SqL.of (by rw [upd_ne lq, upd_same])) (dp_ints ns'), .lst (SqL.of (by rw [upd_same, e3])) (dp_ints ns'), S.1, S.1, ?_⟩
        rw [S.2]
        exact k _ ((s1.trans sl).trans fun b o e => by rw [upd_ne (ne_of_none e hq)]; exact e)
/-! ### undone -/
def spUndone : Sp := fun vs H Q _ => ∃ (a : Addr) (m : Nat) (t : KW.Row), vs = [.ref a] ∧ TupF H a (rv t) ∧ isT m t = true ∧ m ≤ 4 ∧ ∀ H' p, Same H H' → H' p = some (.tup (rv (undo t))) → Q (.ref p) H'
theorem scUndone : FnScope ["turn", "letter"] ["turn"] (defScope sUndone) := ⟨rfl, rfl, rfl, by decide +kernel, rfl, by decide +kernel, by decide +kernel⟩
theorem gd_undone (D : Dn K mg "undone" sUndone) (T : Tops mg) : Gd P w K mg base 1 "undone" ["turn"] spUndone := by
  obtain ⟨f, fd, gm, F⟩ := D
  refine ⟨f, fd, gm, F.kp, F.binds fun _ _ _ _ _ _ us hl => match us, hl with | [_], _ => rfl, F.okX scUndone (fun vs H Q E h => ?_) (fun cdv A outer s H vs Q E hr h => ?_)⟩
  · obtain ⟨a, m, t, rfl, _⟩ := h
    rfl
  · obtain ⟨a, m, t, rfl, ha, ht, m4, k⟩ := h
    refine ⟨_, pss_one (ps_ret (pe_tupleOf rfl T.tuple (pe_lc (own := [("letter", 1)]) (g := gName 1) (tt := tYes) (te := tIdx K (tVar 0) (tCons (tVar 1) tNil)) rfl scUndone.nd (pi_range1 rfl T.range (pa_cons (pe_callB call_lenS (by rfl) T.len PySem.boot_len (pa_cons (pv 0) pa_nil)) pa_nil))
      (blkOk_by (N := ["turn", "letter"]) (sc := defScope sUndone) (by decide +kernel)) (fun _ _ _ _ _ => pg_name (i := 1) scUndone.nd rfl (Or.inl rfl)) (fun _ _ _ _ _ => pts_nil)
      (fun _ _ _ _ _ => pe_index (pv 0) (pa_cons (pv 1) pa_nil))))), ?_⟩
    have hl := isT_len ht
    have hlv : ((rv t).length : Int) = (m : Int) := by rw [rv_len, hl]
    refine ⟨_, rfl, a, _, rfl, .inr ha.sq, _, rfl, by omega, by omega, fun D hD => ?_⟩
    rw [hlv, Int.toNat_natCast]
    refine lc_rangeF (fun i => V.int ((t.idxOf i : Nat) : Int)) hD (by rw [sizeLine_eq]; omega) (fun i H1 hi s1 Q1 R1 k1 => ?_) (fun H1 s1 e1 => ?_)
    · have hm : i ∈ t := (isT_perm ht).mem_iff.mpr (List.mem_range.mpr hi)
      have hlt : t.idxOf i < t.length := List.idxOf_lt_length_iff.mpr hm
      refine ⟨rfl, ⟨_, rfl, ⟨a, _, rfl, ha.same s1⟩, _, rfl, a, t.map (fun x : Nat => (x : Int)), (0 + (i : Int)), t.idxOf i, rfl, rfl, rv_wv t ▸ (ha.same s1).sq, ?_, fun j hj z => ?_, ?_⟩⟩
      · rw [List.getElem?_map, List.getElem?_eq_getElem hlt, List.getElem_idxOf hlt, Int.zero_add]
        rfl
      · rw [List.getElem?_map] at z
        have hj2 : j < t.length := Nat.lt_trans hj hlt
        rw [List.getElem?_eq_getElem hj2, Int.zero_add] at z
        have z2 : ((t[j] : Nat) : Int) = (i : Int) := Option.some.inj z
        have e1 : t[j]? = some i := by rw [List.getElem?_eq_getElem hj2, show t[j] = i by omega]
        have e2 : t[t.idxOf i]? = some i := by rw [List.getElem?_eq_getElem hlt, List.getElem_idxOf hlt]
        have e3 := nd_ix ((isT_perm ht).nodup_iff.mpr List.nodup_range) e1 e2
        omega
      · exact k1 _ (Same.refl _)
    · refine .inl ⟨D, _, rfl, SqL.of e1, fun q hq => ?_⟩
      refine k _ q (s1.trans fun b o e => by rw [upd_ne (ne_of_none e hq)]; exact e) (upd_same.trans ?_)
      unfold undo rv
      rw [hl, List.map_map]
      rfl
end
end LH
/-! is_hand, are_hands, the Book: what stands in the heap, __init__ and the methods. -/
namespace LH
open PySem PySem.Spec PyProof.Rows L2 KR KW
/-! ### what stands in the heap -/
/-- a hand: a pair of a turn and a tuple of steps -/
def PairAt (H : Hp) (p : Addr) (h : KW.Row × Wd) : Prop := ∃ t o : Addr, H p = some (.tup [.ref t, .ref o]) ∧ TupF H t (rv h.1) ∧ H o = some (.tup (wv h.2))
theorem PairAt.same {H H' : Hp} {p : Addr} {h : KW.Row × Wd} (x : PairAt H p h) (s : Same H H') : PairAt H' p h := by
  obtain ⟨t, o, a, b, c⟩ := x
  exact ⟨t, o, s _ _ a, b.same s, s _ _ c⟩
abbrev Prs (H : Hp) (ps : List Addr) (B : Hds) : Prop := Paired (fun p h => PairAt H p h) ps B
theorem Prs.same {H H' : Hp} {ps : List Addr} {B : Hds} (x : Prs H ps B) (s : Same H H') : Prs H' ps B := Paired.mapP x fun _ _ z => z.same s
theorem paired_get {α β : Type} {F : α → β → Prop} : ∀ {l : List α} {m : List β} {i : Nat} {b : β}, Paired F l m → m[i]? = some b → ∃ a, l[i]? = some a ∧ F a b
  | _, _, i, b, .nil, h => by simp at h
  | _, _, 0, b, .cons r _, h => by
    have h := Option.some.inj h
    subst h
    exact ⟨_, rfl, r⟩
  | _, _, i + 1, b, .cons _ t, h => paired_get (i := i) t h
theorem paired_mem {α β : Type} {F : α → β → Prop} : ∀ {l : List α} {m : List β} {a : α}, Paired F l m → a ∈ l → ∃ b ∈ m, F a b
  | _, _, a, .nil, h => by cases h
  | _, _, a, .cons r t, h => by
    rcases List.mem_cons.mp h with e | h
    · subst e
      exact ⟨_, List.mem_cons_self, r⟩
    · obtain ⟨b, hb, f⟩ := paired_mem t h
      exact ⟨b, List.mem_cons_of_mem _ hb, f⟩
/-- the fields of a Book -/
def bflds (m : Nat) (pl : Addr) : List (Str × V) := putF "pairs" (.ref pl) (putF "many" (.int (m : Int)) [])
theorem kmp : ¬ (("many" : Str) = "pairs") := by decide +kernel
theorem bf_many (m : Nat) (pl : Addr) : (bflds m pl).lookup ("many" : Str) = some (.int (m : Int)) := by
  unfold bflds
  rw [lookup_putF, if_neg kmp, lookup_putF, if_pos rfl]
theorem bf_pairs (m : Nat) (pl : Addr) : (bflds m pl).lookup ("pairs" : Str) = some (.ref pl) := by
  unfold bflds
  rw [lookup_putF, if_pos rfl]
theorem bf_no (m : Nat) (pl : Addr) {f : Str} (h1 : ¬ f = "many") (h2 : ¬ f = "pairs") : (bflds m pl).lookup f = none := by
  unfold bflds
  rw [lookup_putF, if_neg h2, lookup_putF, if_neg h1]
  rfl
def BkAt (C : Addr) (H : Hp) (b : Addr) (m : Nat) (B : Hds) : Prop := ∃ (dx pl : Addr) (ps : List Addr), H b = some (.ins C dx (bflds m pl)) ∧ H pl = some (.lst (ps.map V.ref)) ∧ Prs H ps B
theorem BkAt.same {C : Addr} {H H' : Hp} {b : Addr} {m : Nat} {B : Hds} (x : BkAt C H b m B) (s : Same H H') : BkAt C H' b m B := by
  obtain ⟨dx, pl, ps, a, e, c⟩ := x
  exact ⟨dx, pl, ps, s _ _ a, s _ _ e, c.same s⟩
/-- what the class of books says -/
structure BkT (K : PySem.W.Frag) (mg : Str → Option Value) (C : Addr) : Prop where
  cl : Cls K C
  nM : NoAttr K C "many"
  nP : NoAttr K C "pairs"
  mgC : mg "Book" = some (.ref C)
theorem okHd_turn {m k : Nat} {h : KW.Row × Wd} (x : okHd m k h = true) : isT m h.1 = true ∧ h.2.length = m ∧ ∀ s ∈ h.2, -(k : Int) ≤ s ∧ s ≤ (k : Int) := by
  unfold okHd at x
  simp only [Bool.and_eq_true, beq_iff_eq, List.all_eq_true, decide_eq_true_eq] at x
  exact ⟨x.1.1, x.1.2, x.2⟩
theorem okB_m {m : Nat} {B : Hds} (x : okB m B = true) : 2 ≤ m ∧ m ≤ 4 ∧ B.length ≤ 6 ∧ ∀ h ∈ B, okHd m B.length h = true := by
  unfold okB at x
  simp only [Bool.and_eq_true, List.all_eq_true, decide_eq_true_eq] at x
  exact ⟨x.1.1.1, x.1.1.2, x.1.2, x.2⟩
section
variable {P : Program} {w : World} {K : PySem.W.Frag} {mg : Str → Option Value} {base : Heap}
/-! ### is_hand, of a hand -/
def spHandQ : Sp := fun vs H Q _ => ∃ (p : Addr) (m k : Nat) (h : KW.Row × Wd), vs = [.ref p, .int (m : Int), .int (k : Int)] ∧ PairAt H p h ∧ okHd m k h = true ∧ 2 ≤ m ∧ m ≤ 4 ∧ ∀ H', Same H H' → Q (.bl true) H'
theorem scHandQ : FnScope ["thing", "many", "hands", "step"] ["thing", "many", "hands"] (defScope sHandQ) := ⟨rfl, rfl, rfl, by decide +kernel, rfl, by decide +kernel, by decide +kernel⟩
theorem gd_handQ (D : Dn K mg "is_hand" sHandQ) (T : Tops mg) (GB : Gd P w K mg base 2 "is_between" ["thing", "least", "most"] spBetween) (GT : Gd P w K mg base 3 "is_turn" ["thing"] spTurnQ) : Gd P w K mg base 4 "is_hand" ["thing", "many", "hands"] spHandQ := by
  obtain ⟨f, fd, gm, F⟩ := D
  refine ⟨f, fd, gm, F.kp, F.binds fun _ _ _ _ _ _ us hl => match us, hl with | [_, _, _], _ => rfl, F.okX scHandQ (fun vs H Q E h => ?_) (fun cdv A outer s H vs Q E hr h => ?_)⟩
  · obtain ⟨p, m, k, h, rfl, _⟩ := h
    rfl
  · obtain ⟨p, m, k, hd, rfl, hp, hok, m2, m4, kk⟩ := h
    obtain ⟨t, o, h1, h2, h3⟩ := id hp
    obtain ⟨o1, o2, o3⟩ := okHd_turn hok
    have hl := isT_len o1
    refine ⟨_, pss_cons (ps_if (PW.pt (pw_or (pt_not (pt_val (pe_callB call_isi (by rfl) T.isinstance (by decide +kernel) (pa_cons (pv 0) (pa_cons (pe_bltn (v := .ty "tuple") rfl T.tuple boot_tuple rfl) pa_nil)))))
        (pw_or (pt_cmpR op_ne (pe_callB call_lenS (by rfl) T.len PySem.boot_len (pa_cons (pv 0) pa_nil)) pe_int (nomark _))
        (pw_or (pt_not (pt_val (pe_gd GT (by exact hr) passL (pa_cons (pe_ix ix_tup (pv 0) pe_int (fun _ _ => rfl)) pa_nil))))
        (pw_or1 (pt_cmpR op_ne (pe_callB call_lenS (by rfl) T.len PySem.boot_len (pa_cons (pe_ix ix_tup (pv 0) pe_int (fun _ _ => rfl)) pa_nil)) (pv 1) (nomark _))))))) (pss_one (ps_ret pe_bl)) pss_nil)
      (pss_cons (ps_if (PW.pt (pw_or (pt_not (pt_val (pe_callB call_isi (by rfl) T.isinstance (by decide +kernel) (pa_cons (pe_ix ix_tup (pv 0) pe_int (fun _ _ => rfl)) (pa_cons (pe_bltn (v := .ty "tuple") rfl T.tuple boot_tuple rfl) pa_nil)))))
        (pw_or1 (pt_cmpR op_ne (pe_callB call_lenS (by rfl) T.len PySem.boot_len (pa_cons (pe_ix ix_tup (pv 0) pe_int (fun _ _ => rfl)) pa_nil)) (pv 1) (nomark _))))) (pss_one (ps_ret pe_bl)) pss_nil)
      (pss_one (ps_ret (pe_callB (cr_all rfl) (by rfl) T.all (by decide +kernel) (pa_cons
        (pe_lc (own := [("step", 3)]) (g := gName 3) (tt := tYes) (te := tCall spBetween [] noE (tCons (tVar 3) (tCons (tUn (rU fun i => .int (-i)) (tVar 2)) (tCons (tVar 2) tNil)))) rfl scHandQ.nd (pi_tup (pe_ix ix_tup (pv 0) pe_int (fun _ _ => rfl)))
          (blkOk_by (N := ["thing", "many", "hands", "step"]) (sc := defScope sHandQ) (by decide +kernel)) (fun _ _ _ _ _ => pg_name (i := 3) scHandQ.nd rfl (Or.inl rfl)) (fun _ _ _ _ _ => pts_nil)
          (fun _ _ _ _ _ => pe_gd GB (hr.mono (by decide)) passL (pa_cons (pv 3) (pa_cons (pe_un un_neg (pv 2)) (pa_cons (pv 2) pa_nil))))) pa_nil))))), ?_⟩
    have at0 : atI [V.ref t, V.ref o] 0 = some (V.ref t) := atI_nat (j := 0) rfl
    have at1 : atI [V.ref t, V.ref o] 1 = some (V.ref o) := atI_nat (j := 1) rfl
    -- the first test
    refine ⟨_, rfl, _, .ty "tuple", .type "tuple", .type "tuple", true, rfl, .ty "tuple", (Th.tup h1).ty, kit_ty (by decide +kernel), true, rfl, iteF ?_⟩
    refine ⟨_, rfl, p, _, rfl, .inr (SqT.of h1), rfl, _, rfl, iteNS rfl ?_⟩
    refine ⟨_, rfl, p, _, _, _, rfl, rfl, SqT.of h1, at0, t, m, hd.1, rfl, h2, o1, m2, m4, fun H1 s1 => ⟨true, rfl, iteF ?_⟩⟩
    have g1 := s1 _ _ h1
    have g3 := s1 _ _ h3
    refine ⟨_, rfl, p, _, _, _, rfl, rfl, SqT.of g1, at0, t, _, rfl, .inr (h2.same s1).sq, _, rfl, rfl, _, rfl, ?_⟩
    rw [rv_len, hl]
    refine iteNS rfl ?_
    -- the second one
    refine ⟨_, rfl, p, _, _, _, rfl, rfl, SqT.of g1, at1, _, .ty "tuple", .type "tuple", .type "tuple", true, rfl, .ty "tuple", (Th.tup g3).ty, kit_ty (by decide +kernel), true, rfl, iteF ?_⟩
    refine ⟨_, rfl, p, _, _, _, rfl, rfl, SqT.of g1, at1, o, _, rfl, .inr (SqT.of g3), _, rfl, rfl, _, rfl, ?_⟩
    rw [wv_len, o2]
    refine iteNS rfl ?_
    -- all steps
    refine ⟨_, rfl, p, _, _, _, rfl, rfl, SqT.of g1, at1, o, rfl, ⟨_, SqT.of g3⟩, fun D hD => ?_⟩
    refine lc_tupF (fun _ => V.bl true) g3 hD (by rw [wv_len, o2, sizeLine_eq]; omega) (fun x H2 hx s2 Q1 R1 k1 => ?_) (fun H2 s2 e2 => ?_)
    · obtain ⟨y, hy, rfl⟩ := List.mem_map.mp hx
      refine ⟨rfl, ⟨_, rfl, _, rfl, _, rfl, _, rfl, V.int y, "int", -(k : Int), (k : Int), rfl, .int _, ?_⟩⟩
      have := o3 y hy
      have hb : between (.int y) (-(k : Int)) (k : Int) = true := by
        show (decide (-(k : Int) ≤ y) && decide (y ≤ (k : Int))) = true
        rw [decide_eq_true this.1, decide_eq_true this.2]
        rfl
      rw [hb]
      exact k1 _ (Same.refl _)
    · refine ⟨D, List.replicate hd.2.length true, rfl, SqL.of (e2.trans ?_), ?_⟩
      · rw [List.map_replicate, wv, List.map_map]
        exact congrArg (fun l => some (HO.lst l)) (by
          show hd.2.map (fun _ => V.bl true) = _
          rw [List.map_const'])
      · have e : (List.replicate hd.2.length true).all id = true := by
          rw [List.all_replicate]
          split <;> rfl
        rw [e]
        exact kk _ (s1.trans s2)
/-! ### are_hands, of hands -/
def spHandsQ : Sp := fun vs H Q _ => ∃ (l : Addr) (m : Nat) (ps : List Addr) (B : Hds), vs = [.ref l, .int (m : Int)] ∧ H l = some (.lst (ps.map V.ref)) ∧ Prs H ps B ∧ okB m B = true ∧ ∀ H', Same H H' → Q (.bl true) H'
theorem scHandsQ : FnScope ["thing", "many", "one"] ["thing", "many"] (defScope sHandsQ) := ⟨rfl, rfl, rfl, by decide +kernel, rfl, by decide +kernel, by decide +kernel⟩
theorem gd_handsQ (D : Dn K mg "are_hands" sHandsQ) (T : Tops mg) (GH : Gd P w K mg base 4 "is_hand" ["thing", "many", "hands"] spHandQ) : Gd P w K mg base 5 "are_hands" ["thing", "many"] spHandsQ := by
  obtain ⟨f, fd, gm, F⟩ := D
  refine ⟨f, fd, gm, F.kp, F.binds fun _ _ _ _ _ _ us hl => match us, hl with | [_, _], _ => rfl, F.okX scHandsQ (fun vs H Q E h => ?_) (fun cdv A outer s H vs Q E hr h => ?_)⟩
  · obtain ⟨l, m, ps, B, rfl, _⟩ := h
    rfl
  · obtain ⟨l, m, ps, B, rfl, hl, hp, hok, k⟩ := h
    obtain ⟨m2, m4, b6, oh⟩ := okB_m hok
    obtain ⟨th, gh⟩ := T.hands
    have len := Paired.length hp
    refine ⟨_, pss_cons (ps_if (PW.pt (pw_or (pt_not (pt_val (pe_callB call_isiT (by rfl) T.isinstance (by decide +kernel) (pa_cons (pv 0) (pa_cons (pe_tup (pa_cons (pe_bltn (v := .ty "list") rfl T.list boot_list rfl) (pa_cons (pe_bltn (v := .ty "tuple") rfl T.tuple boot_tuple rfl) pa_nil))) pa_nil)))))
        (pw_or1 (pt_cmpR op_gt (pe_callB call_lenS (by rfl) T.len PySem.boot_len (pa_cons (pv 0) pa_nil)) (pe_glob (v := .int 6) rfl gh ⟨_, rfl⟩) (nomark _))))) (pss_one (ps_ret pe_bl)) pss_nil)
      (pss_one (ps_ret (pe_callB (cr_all rfl) (by rfl) T.all (by decide +kernel) (pa_cons
        (pe_lc (own := [("one", 2)]) (g := gName 2) (tt := tYes) (te := tCall spHandQ [] noE (tCons (tVar 2) (tCons (tVar 1) (tCons (tCB (rLenS K) (tCons (tVar 0) tNil)) tNil)))) rfl scHandsQ.nd (pi_list (pv 0))
          (blkOk_by (N := ["thing", "many", "one"]) (sc := defScope sHandsQ) (by decide +kernel)) (fun _ _ _ _ _ => pg_name (i := 2) scHandsQ.nd rfl (Or.inl rfl)) (fun _ _ _ _ _ => pts_nil)
          (fun _ _ _ _ _ => pe_gd GH (by exact hr) passL (pa_cons (pv 2) (pa_cons (pv 1) (pa_cons (pe_callB call_lenS (by rfl) T.len PySem.boot_len (pa_cons (pv 0) pa_nil)) pa_nil))))) pa_nil)))), ?_⟩
    refine ⟨_, rfl, by show 2 ≤ sizeLine; decide, fun q hq => ?_⟩
    have sq : Same H (upd H q (.tup [.ty "list", .ty "tuple"])) := fun b o e => by rw [upd_ne (ne_of_none e hq)]; exact e
    have hl2 := sq _ _ hl
    refine ⟨V.ref l, q, [.ty "list", .ty "tuple"], .type "list", [.type "list", .type "tuple"], true, rfl, upd_same, .cons (.ty _) (.cons (.ty _) .nil), (Th.lst hl2).ty, kitAny_cons (b := true) (kit_ty (by decide +kernel)) (fun z => by cases z) (fun _ => rfl), true, rfl, iteF ?_⟩
    refine ⟨_, rfl, l, _, rfl, .inl (SqL.of hl2), _, _, rfl, rfl, _, rfl, ?_⟩
    have lv : ((ps.map V.ref).length : Int) = (B.length : Int) := by rw [List.length_map, len]
    rw [lv, decide_eq_false (by omega)]
    refine iteF ?_
    refine ⟨_, rfl, l, rfl, ⟨_, SqL.of hl2⟩, fun D hD => ?_⟩
    refine lc_listF (fun _ => V.bl true) hl2 hD (by rw [List.length_map, len, sizeLine_eq]; omega) (fun x H2 hx s2 Q1 R1 k1 => ?_) (fun H2 s2 e2 => ?_)
    · obtain ⟨p, hpm, rfl⟩ := List.mem_map.mp hx
      obtain ⟨h, hB, hP⟩ := paired_mem hp hpm
      refine ⟨rfl, ⟨_, rfl, _, rfl, _, rfl, l, _, rfl, .inl (SqL.of (s2 _ _ hl2)), p, m, B.length, h, ?_, (hP.same sq).same s2, oh h hB, m2, m4, fun H' s' => k1 H' s'⟩⟩
      rw [lv]
      rfl
    · refine ⟨D, List.replicate ps.length true, rfl, SqL.of (e2.trans ?_), ?_⟩
      · rw [List.map_replicate, List.map_map]
        exact congrArg (fun l => some (HO.lst l)) (by
          show ps.map (fun _ => V.bl true) = _
          rw [List.map_const'])
      · have e : (List.replicate ps.length true).all id = true := by
          rw [List.all_replicate]
          split <;> rfl
        rw [e]
        exact k _ (sq.trans s2)
end
end LH
/-! The methods of a Book. -/
namespace LH
open PySem PySem.Spec PyProof.Rows L2 KR KW
theorem same_new {H : Hp} {q : Addr} {o : HO} (hq : H q = none) : Same H (upd H q o) := fun b u e => by
  rw [upd_ne (ne_of_none e hq)]
  exact e
/-- a step of a book -/
def stepOk (B : Hds) (s : Int) : Prop := s ≠ 0 ∧ -(B.length : Int) ≤ s ∧ s ≤ (B.length : Int)
theorem stepOk_at {B : Hds} {s : Int} (h : stepOk B s) : ∃ i, i < B.length ∧ s.natAbs - 1 = i ∧ ((if s < 0 then -s else s) - 1 = (i : Int)) ∧ B[i]? = some (hdOf B s) := by
  obtain ⟨h0, h1, h2⟩ := h
  refine ⟨s.natAbs - 1, by omega, rfl, ?_, ?_⟩
  · split <;> omega
  · unfold hdOf
    have hi : s.natAbs - 1 < B.length := by omega
    rw [List.getD_eq_getElem?_getD, List.getElem?_eq_getElem hi]
    rfl
section
variable {P : Program} {w : World} {K : PySem.W.Frag} {mg : Str → Option Value} {base : Heap} {C : Addr}
/-! ### __init__ -/
def spInit (C : Addr) : Sp := fun vs H Q _ => ∃ (p dx l : Addr) (m : Nat) (ps : List Addr) (B : Hds), vs = [.ref p, .int (m : Int), .ref l] ∧ H p = some (.ins C dx []) ∧ H l = some (.lst (ps.map V.ref)) ∧ Prs H ps B ∧ okB m B = true ∧
  ∀ H', (∀ b o, H b = some o → b ≠ p → H' b = some o) → BkAt C H' p m B → Q .non H'
theorem scInit : FnScope ["self", "many", "hands"] ["self", "many", "hands"] (defScope (sBook 0)) := ⟨rfl, rfl, rfl, by decide +kernel, rfl, by decide +kernel, by decide +kernel⟩
theorem ok_init {f : Addr} {fd : FuncData} (F : Fun K "__init__" "Book.__init__" (sBook 0) f fd) (T : Tops mg) (BT : BkT K mg C) (GB : Gd P w K mg base 2 "is_between" ["thing", "least", "most"] spBetween) (GH : Gd P w K mg base 5 "are_hands" ["thing", "many"] spHandsQ) :
    FnOk P w K mg base (L2.CX P w) 6 f fd ["self", "many", "hands"] (spInit C) := by
  refine F.okX scInit (fun vs H Q E h => ?_) (fun cdv A outer s H vs Q E hr h => ?_)
  · obtain ⟨p, dx, l, m, ps, B, rfl, _⟩ := h
    rfl
  · obtain ⟨p, dx, l, m, ps, B, rfl, hp, hl, hP, hok, k⟩ := h
    obtain ⟨m2, m4, b6, oh⟩ := okB_m hok
    obtain ⟨tl, gl⟩ := T.least
    obtain ⟨tm, gmo⟩ := T.most
    refine ⟨_, pss_cons (ps_if (PW.pt (pw_or (pt_not (pt_val (pe_gd GB (hr.mono (by decide)) passL (pa_cons (pv 1) (pa_cons (pe_glob (v := .int 2) rfl gl ⟨_, rfl⟩) (pa_cons (pe_glob (v := .int 4) rfl gmo ⟨_, rfl⟩) pa_nil))))))
        (pw_or1 (pt_not (pt_val (pe_gd GH (by exact hr) passL (pa_cons (pv 2) (pa_cons (pv 1) pa_nil)))))))) (pss_one ps_never) pss_nil)
      (pss_cons (ps_fld (pv 0) (pv 1) rfl)
      (pss_one (ps_fld (pv 0) (pe_callTy call_list_of (by rfl) T.list (by decide +kernel) (pa_cons (pv 2) pa_nil)) rfl))), ?_⟩
    have hb : between (.int (m : Int)) 2 4 = true := by
      show (decide ((2 : Int) ≤ (m : Int)) && decide ((m : Int) ≤ 4)) = true
      rw [decide_eq_true (by omega), decide_eq_true (by omega)]
      rfl
    refine ⟨_, rfl, _, "int", 2, 4, rfl, .int _, true, congrArg V.bl hb, iteF ?_⟩
    refine ⟨_, rfl, _, rfl, l, m, ps, B, rfl, hl, hP, hok, fun H1 s1 => ⟨true, rfl, iteF ?_⟩⟩
    have hp1 := s1 _ _ hp
    have hl1 := s1 _ _ hl
    have npl : p ≠ l := ne_of hp1 hl1 (fun z => nomatch z)
    refine ⟨_, rfl, _, rfl, p, C, dx, [], rfl, hp1, BT.cl, BT.nM, (by show 0 < 1000; decide), ?_⟩
    have hl2 : (upd H1 p (.ins C dx (putF "many" (.int (m : Int)) []))) l = some (.lst (ps.map V.ref)) := by rw [upd_ne npl.symm]; exact hl1
    refine ⟨_, rfl, l, _, rfl, .inl (SqL.of hl2), fun q hq => ?_⟩
    have qp : q ≠ p := fun z => by rw [z, upd_same] at hq; cases hq
    refine ⟨_, rfl, p, C, dx, _, rfl, (by rw [upd_ne qp.symm, upd_same]), BT.cl, BT.nP, (by show 1 < 1000; decide), ?_⟩
    have hq1 : H1 q = none := by rw [upd_ne qp] at hq; exact hq
    have keep : ∀ b o, H b = some o → b ≠ p → (upd (upd (upd H1 p (.ins C dx (putF "many" (.int (m : Int)) []))) q (.lst (ps.map V.ref))) p (.ins C dx (bflds m q))) b = some o := fun b o e hb => by
      have e1 := s1 _ _ e
      rw [upd_ne hb, upd_ne (ne_of_none e1 hq1), upd_ne hb]
      exact e1
    refine k _ keep ⟨dx, q, ps, upd_same, by rw [upd_ne qp, upd_same], Paired.mapP hP fun a h z => ?_⟩
    obtain ⟨t, o, z1, ⟨ob, z2, z3⟩, z4⟩ := z
    exact ⟨t, o, keep _ _ z1 (ne_of z1 hp (fun z => nomatch z)), ⟨ob, keep _ _ z2 (ne_of z2 hp (fun z => nomatch z)), z3⟩, keep _ _ z4 (ne_of z4 hp (fun z => nomatch z))⟩
/-! ### letters -/
def spLetters (C : Addr) : Sp := fun vs H Q _ => ∃ (b : Addr) (m : Nat) (B : Hds), vs = [.ref b] ∧ BkAt C H b m B ∧ Q (.int (m : Int)) H
theorem scLetters : FnScope ["self"] ["self"] (defScope (sBook 3)) := ⟨rfl, rfl, rfl, by decide +kernel, rfl, by decide +kernel, by decide +kernel⟩
theorem gm_letters (D : Mn K C "letters" "Book.letters" (sBook 3)) (BT : BkT K mg C) : Gm P w K mg base C 1 "letters" ["self"] (spLetters C) := by
  obtain ⟨f, fd, M, F⟩ := D
  refine ⟨f, fd, M, F.binds fun _ _ _ _ _ _ us hl => match us, hl with | [_], _ => rfl, F.okX scLetters (fun vs H Q E h => ?_) (fun cdv A outer s H vs Q E hr h => ?_)⟩
  · obtain ⟨b, m, B, rfl, _⟩ := h
    rfl
  · obtain ⟨b, m, B, rfl, ⟨dx, pl, ps, h1, h2, h3⟩, k⟩ := h
    refine ⟨_, pss_one (ps_ret (pe_fld (pv 0) rfl)), ?_⟩
    exact ⟨_, rfl, b, C, dx, _, _, rfl, h1, BT.cl, BT.nM, bf_many m pl, k⟩
/-! ### steps -/
def spSteps (C : Addr) : Sp := fun vs H Q _ => ∃ (b : Addr) (m : Nat) (B : Hds), vs = [.ref b] ∧ BkAt C H b m B ∧ B.length ≤ 6 ∧ ∀ H' l, Same H H' → H' l = some (.lst (wv (steps B.length))) → Q (.ref l) H'
theorem scSteps : FnScope ["self", "found", "number"] ["self"] (defScope (sBook 5)) := ⟨rfl, rfl, rfl, by decide +kernel, rfl, by decide +kernel, by decide +kernel⟩
theorem steps_succ (k : Nat) : steps (k + 1) = steps k ++ [((k : Int) + 1), -((k : Int) + 1)] := by
  unfold steps
  rw [List.range_succ, List.flatMap_append]
  rfl
theorem steps_len (k : Nat) : (steps k).length = 2 * k := by
  induction k with
  | zero => rfl
  | succ k ih => rw [steps_succ, List.length_append, ih]; show 2 * k + 2 = _; omega
theorem gm_steps (D : Mn K C "steps" "Book.steps" (sBook 5)) (T : Tops mg) (BT : BkT K mg C) : Gm P w K mg base C 1 "steps" ["self"] (spSteps C) := by
  obtain ⟨f, fd, M, F⟩ := D
  refine ⟨f, fd, M, F.binds fun _ _ _ _ _ _ us hl => match us, hl with | [_], _ => rfl, F.okX scSteps (fun vs H Q E h => ?_) (fun cdv A outer s H vs Q E hr h => ?_)⟩
  · obtain ⟨b, m, B, rfl, _⟩ := h
    rfl
  · obtain ⟨b, m, B, rfl, hB, b6, k⟩ := h
    obtain ⟨dx, pl, ps, h1, h2, h3⟩ := id hB
    have len := Paired.length h3
    refine ⟨_, pss_cons (ps_set (i := 1) scSteps.nd rfl (.inl rfl) (pe_lst pa_nil))
      (pss_cons (ps_for (passes_of rfl) rfl (pi_range2 (by rfl) T.range (pa_cons pe_int (pa_cons (pe_op op_add (pe_callB call_lenS (by rfl) T.len PySem.boot_len (pa_cons (pe_fld (pv 0) rfl) pa_nil)) pe_int) pa_nil))) (pg_name (i := 2) scSteps.nd rfl (Or.inl rfl))
        (pss_one (ps_aug (i := 1) scSteps.nd rfl (.inl rfl) (pe_lst (pa_cons (pv 2) (pa_cons (pe_un un_neg (pv 2)) pa_nil))) (ip_of iop_ext))))
      (pss_one (ps_ret (pv 1)))), ?_⟩
    refine ⟨Nat.zero_le _, fun l hl => ?_⟩
    have s0 := same_new (o := .lst []) hl
    have lv : ((ps.map V.ref).length : Int) = (B.length : Int) := by rw [List.length_map, len]
    refine ⟨_, rfl, b, C, dx, _, _, rfl, s0 _ _ h1, BT.cl, BT.nP, bf_pairs m pl, pl, _, rfl, .inl (SqL.of (s0 _ _ h2)), ?_⟩
    rw [lv]
    refine ⟨_, _, rfl, rfl, 1, (B.length : Int) + 1, rfl, ⟨by omega, by omega, by omega, by omega⟩, ?_⟩
    rw [show ((B.length : Int) + 1 - 1).toNat = B.length by omega]
    refine for_range (lo := 1) (n := B.length) (fun i σ H1 => ∃ v : Option V, σ = [some (.ref b), some (.ref l), v] ∧ (∀ c o, H c = some o → H1 c = some o) ∧ H1 l = some (.lst (wv (steps i)))) ⟨none, rfl, s0, upd_same⟩ ?_ ?_
    · rintro i σ H1 hi ⟨v, rfl, s1, e1⟩
      refine ⟨_, rfl, _, rfl, _, rfl, _, rfl, by show 2 ≤ sizeLine; decide, fun q hq => ?_⟩
      have lq : l ≠ q := ne_of_none e1 hq
      refine ⟨l, q, _, _, rfl, rfl, by rw [upd_ne lq]; exact e1, upd_same, ?_, ?_⟩
      · rw [wv_len, steps_len, sizeLine_eq]
        show 2 * i + 2 ≤ _
        omega
      · refine ⟨_, rfl, fun c o e => ?_, ?_⟩
        · have z := s1 _ _ e
          rw [upd_ne (ne_of_none e hl), upd_ne (ne_of_none z hq)]
          exact z
        · rw [upd_same, steps_succ]
          unfold wv
          rw [List.map_append]
          have e : (1 : Int) + (i : Int) = (i : Int) + 1 := Int.add_comm _ _
          show some (HO.lst (List.map V.int (steps i) ++ [V.int (1 + (i : Int)), V.int (-(1 + (i : Int)))])) = _
          rw [e]
          rfl
    · rintro σ H1 ⟨v, rfl, s1, e1⟩
      exact ⟨_, rfl, k H1 l s1 e1⟩
/-! ### has_step, has_letter -/
def spHasStep (C : Addr) : Sp := fun vs H Q _ => ∃ (b : Addr) (m : Nat) (B : Hds) (st : Int), vs = [.ref b, .int st] ∧ BkAt C H b m B ∧ stepOk B st ∧ Q (.bl true) H
theorem scHasStep : FnScope ["self", "thing"] ["self", "thing"] (defScope (sBook 7)) := ⟨rfl, rfl, rfl, by decide +kernel, rfl, by decide +kernel, by decide +kernel⟩
theorem gm_hasStep (D : Mn K C "has_step" "Book.has_step" (sBook 7)) (T : Tops mg) (BT : BkT K mg C) (GB : Gd P w K mg base 2 "is_between" ["thing", "least", "most"] spBetween) : Gm P w K mg base C 3 "has_step" ["self", "thing"] (spHasStep C) := by
  obtain ⟨f, fd, M, F⟩ := D
  refine ⟨f, fd, M, F.binds fun _ _ _ _ _ _ us hl => match us, hl with | [_, _], _ => rfl, F.okX scHasStep (fun vs H Q E h => ?_) (fun cdv A outer s H vs Q E hr h => ?_)⟩
  · obtain ⟨b, m, B, st, rfl, _⟩ := h
    rfl
  · obtain ⟨b, m, B, st, rfl, ⟨dx, pl, ps, h1, h2, h3⟩, ⟨o0, o1, o2⟩, k⟩ := h
    have len := Paired.length h3
    have lv : ((ps.map V.ref).length : Int) = (B.length : Int) := by rw [List.length_map, len]
    refine ⟨_, pss_one (ps_ret (pe_and (pe_gd GB (by exact hr) passL (pa_cons (pv 1) (pa_cons (pe_un un_neg (pe_callB call_lenS (by rfl) T.len PySem.boot_len (pa_cons (pe_fld (pv 0) rfl) pa_nil))) (pa_cons (pe_callB call_lenS (by rfl) T.len PySem.boot_len (pa_cons (pe_fld (pv 0) rfl) pa_nil)) pa_nil))))
      (pe_one (pe_cmpR op_ne (pv 1) pe_int (nomark _))))), ?_⟩
    refine ⟨_, rfl, _, rfl, b, C, dx, _, _, rfl, h1, BT.cl, BT.nP, bf_pairs m pl, pl, _, rfl, .inl (SqL.of h2), _, rfl, ?_⟩
    refine ⟨_, rfl, b, C, dx, _, _, rfl, h1, BT.cl, BT.nP, bf_pairs m pl, pl, _, rfl, .inl (SqL.of h2), ?_⟩
    rw [lv]
    have hb : between (.int st) (-(B.length : Int)) (B.length : Int) = true := by
      show (decide (-(B.length : Int) ≤ st) && decide (st ≤ (B.length : Int))) = true
      rw [decide_eq_true o1, decide_eq_true o2]
      rfl
    refine ⟨_, "int", _, _, rfl, .int _, true, congrArg V.bl hb, iteT ⟨_, rfl, rfl, ?_⟩⟩
    have e : (!decide (V.int st = V.int 0)) = true := by
      rw [decide_eq_false (fun z => o0 (V.int.inj z))]
      rfl
    rw [e]
    exact k
def spHasLetter (C : Addr) : Sp := fun vs H Q _ => ∃ (b : Addr) (m : Nat) (B : Hds) (x : V) (n : String), vs = [.ref b, x] ∧ BkAt C H b m B ∧ Th H x n ∧ Q (.bl (between x 0 ((m : Int) - 1))) H
theorem scHasLetter : FnScope ["self", "thing"] ["self", "thing"] (defScope (sBook 8)) := ⟨rfl, rfl, rfl, by decide +kernel, rfl, by decide +kernel, by decide +kernel⟩
theorem gm_hasLetter (D : Mn K C "has_letter" "Book.has_letter" (sBook 8)) (BT : BkT K mg C) (GB : Gd P w K mg base 2 "is_between" ["thing", "least", "most"] spBetween) : Gm P w K mg base C 3 "has_letter" ["self", "thing"] (spHasLetter C) := by
  obtain ⟨f, fd, M, F⟩ := D
  refine ⟨f, fd, M, F.binds fun _ _ _ _ _ _ us hl => match us, hl with | [_, _], _ => rfl, F.okX scHasLetter (fun vs H Q E h => ?_) (fun cdv A outer s H vs Q E hr h => ?_)⟩
  · obtain ⟨b, m, B, x, n, rfl, _⟩ := h
    rfl
  · obtain ⟨b, m, B, x, n, rfl, ⟨dx, pl, ps, h1, h2, h3⟩, hx, k⟩ := h
    refine ⟨_, pss_one (ps_ret (pe_gd GB (by exact hr) passL (pa_cons (pv 1) (pa_cons pe_int (pa_cons (pe_op op_sub (pe_fld (pv 0) rfl) pe_int) pa_nil))))), ?_⟩
    exact ⟨_, rfl, _, rfl, b, C, dx, _, _, rfl, h1, BT.cl, BT.nM, bf_many m pl, _, _, rfl, rfl, x, n, _, _, rfl, hx, k⟩
/-! ### turn -/
def spTurn (K : PySem.W.Frag) (C : Addr) : Sp := fun vs H Q _ => ∃ (b : Addr) (m : Nat) (B : Hds) (st : Int), vs = [.ref b, .int st] ∧ BkAt C H b m B ∧ okB m B = true ∧ stepOk B st ∧ ∀ H' t, Same H H' → SqT K H' t (rv (turnOf B st)) → Q (.ref t) H'
theorem scTurn : FnScope ["self", "step", "turn"] ["self", "step"] (defScope (sBook 9)) := ⟨rfl, rfl, rfl, by decide +kernel, rfl, by decide +kernel, by decide +kernel⟩
theorem gm_turn (D : Mn K C "turn" "Book.turn" (sBook 9)) (T : Tops mg) (BT : BkT K mg C) (GS : Gm P w K mg base C 3 "has_step" ["self", "thing"] (spHasStep C)) (GU : Gd P w K mg base 1 "undone" ["turn"] spUndone) : Gm P w K mg base C 4 "turn" ["self", "step"] (spTurn K C) := by
  obtain ⟨f, fd, M, F⟩ := D
  obtain ⟨fS, fdS, mS, bS, FS⟩ := GS.ex
  refine ⟨f, fd, M, F.binds fun _ _ _ _ _ _ us hl => match us, hl with | [_, _], _ => rfl, F.okX scTurn (fun vs H Q E h => ?_) (fun cdv A outer s H vs Q E hr h => ?_)⟩
  · obtain ⟨b, m, B, st, rfl, _⟩ := h
    rfl
  · obtain ⟨b, m, B, st, rfl, hB, hok, ho, k⟩ := h
    obtain ⟨dx, pl, ps, h1, h2, h3⟩ := id hB
    obtain ⟨m2, m4, b6, oh⟩ := okB_m hok
    obtain ⟨i, hi, ei, eabs, eB⟩ := stepOk_at ho
    obtain ⟨p, hp, hP⟩ := paired_get h3 eB
    obtain ⟨t, o, p1, p2, p3⟩ := hP
    have tOk := (okHd_turn (oh _ (List.mem_of_getElem? eB))).1
    refine ⟨_, pss_cons (ps_if (pt_not (pt_val (pe_meth (pv 0) BT.cl mS FS (by exact hr) bS .nil passL (pa_cons (pv 1) pa_nil)))) (pss_one ps_never) pss_nil)
      (pss_cons (ps_set (i := 2) scTurn.nd rfl (.inl rfl) (pe_ix ix_tup (pe_ix ix_list (pe_fld (pv 0) rfl) (pe_op op_sub (pe_callB call_abs (by rfl) T.abs (by decide +kernel) (pa_cons (pv 1) pa_nil)) pe_int) (fun _ _ => rfl)) pe_int (fun _ _ => rfl)))
      (pss_one (ps_ret (pe_ifExp (pt_cmpR op_gt (pv 1) pe_int (nomark _)) (pv 2) (pe_gd GU (hr.mono (by decide)) passL (pa_cons (pv 2) pa_nil)))))), ?_⟩
    refine ⟨_, rfl, b, dx, _, rfl, h1, bf_no m pl (by decide +kernel) (by decide +kernel), _, rfl, b, m, B, st, rfl, hB, ho, true, rfl, iteF ?_⟩
    refine ⟨_, rfl, b, C, dx, _, _, rfl, h1, BT.cl, BT.nP, bf_pairs m pl, _, rfl, _, rfl, _, _, rfl, rfl, pl, _, _, V.ref p, rfl, rfl, SqL.of h2, ?_, ?_⟩
    · rw [eabs]
      exact atI_nat (by rw [List.getElem?_map, hp]; rfl)
    refine ⟨p, _, _, V.ref t, rfl, rfl, SqT.of p1, atI_nat (j := 0) rfl, ?_⟩
    refine ⟨_, rfl, _, _, rfl, rfl, _, rfl, ?_⟩
    by_cases c : 0 < st
    · rw [decide_eq_true c]
      refine iteT ⟨_, rfl, k H t (Same.refl _) ?_⟩
      unfold turnOf
      rw [if_pos c]
      exact p2.sq
    · rw [decide_eq_false c]
      refine iteF ⟨_, rfl, t, m, (hdOf B st).1, rfl, p2, tOk, m4, fun H' q s' e' => k H' q s' ?_⟩
      unfold turnOf
      rw [if_neg c]
      exact SqT.of e'
/-! ### onward -/
def spOnward (C : Addr) : Sp := fun vs H Q _ => ∃ (b : Addr) (m : Nat) (B : Hds) (st : Int) (x : Nat), vs = [.ref b, .int st, .int (x : Int)] ∧ BkAt C H b m B ∧ okB m B = true ∧ stepOk B st ∧ x < m ∧ Q (.int (onw B st x)) H
theorem scOnward : FnScope ["self", "step", "letter", "turn", "onward"] ["self", "step", "letter"] (defScope (sBook 10)) := ⟨rfl, rfl, rfl, by decide +kernel, rfl, by decide +kernel, by decide +kernel⟩
theorem gm_onward (D : Mn K C "onward" "Book.onward" (sBook 10)) (T : Tops mg) (BT : BkT K mg C) (GS : Gm P w K mg base C 3 "has_step" ["self", "thing"] (spHasStep C)) (GL : Gm P w K mg base C 3 "has_letter" ["self", "thing"] (spHasLetter C)) :
    Gm P w K mg base C 4 "onward" ["self", "step", "letter"] (spOnward C) := by
  obtain ⟨f, fd, M, F⟩ := D
  obtain ⟨fS, fdS, mS, bS, FS⟩ := GS.ex
  obtain ⟨fL, fdL, mL, bL, FL⟩ := GL.ex
  refine ⟨f, fd, M, F.binds fun _ _ _ _ _ _ us hl => match us, hl with | [_, _, _], _ => rfl, F.okX scOnward (fun vs H Q E h => ?_) (fun cdv A outer s H vs Q E hr h => ?_)⟩
  · obtain ⟨b, m, B, st, x, rfl, _⟩ := h
    rfl
  · obtain ⟨b, m, B, st, x, rfl, hB, hok, ho, hx, k⟩ := h
    obtain ⟨dx, pl, ps, h1, h2, h3⟩ := id hB
    obtain ⟨m2, m4, b6, oh⟩ := okB_m hok
    obtain ⟨i, hi, ei, eabs, eB⟩ := stepOk_at ho
    obtain ⟨p, hp, hP⟩ := paired_get h3 eB
    obtain ⟨t, o, p1, p2, p3⟩ := hP
    obtain ⟨tOk, oLen, _⟩ := okHd_turn (oh _ (List.mem_of_getElem? eB))
    have tLen := isT_len tOk
    have noF : ∀ {g : Str}, ¬ g = "many" → ¬ g = "pairs" → (bflds m pl).lookup g = none := fun a b => bf_no m pl a b
    refine ⟨_, pss_cons (ps_if (pt_not (pt_val (pe_meth (pv 0) BT.cl mS FS (by exact hr) bS .nil passL (pa_cons (pv 1) pa_nil)))) (pss_one ps_never) pss_nil)
      (pss_cons (ps_if (pt_not (pt_val (pe_meth (pv 0) BT.cl mL FL (by exact hr) bL .nil passL (pa_cons (pv 2) pa_nil)))) (pss_one ps_never) pss_nil)
      (pss_cons (ps_asg (pe_ix ix_list (pe_fld (pv 0) rfl) (pe_op op_sub (pe_callB call_abs (by rfl) T.abs (by decide +kernel) (pa_cons (pv 1) pa_nil)) pe_int) (fun _ _ => rfl)) (pg_tup rfl (pgs_cons (pg_name (i := 3) scOnward.nd rfl (Or.inl rfl)) (pgs_cons (pg_name (i := 4) scOnward.nd rfl (Or.inl rfl)) pgs_nil))))
      (pss_one (ps_ret (pe_ifExp (pt_cmpR op_gt (pv 1) pe_int (nomark _)) (pe_ix ix_tup (pv 4) (pv 2) (fun _ _ => rfl)) (pe_un un_neg (pe_ix ix_tup (pv 4) (pe_index (pv 3) (pa_cons (pv 2) pa_nil)) (fun _ _ => rfl)))))))), ?_⟩
    refine ⟨_, rfl, b, dx, _, rfl, h1, noF (by decide +kernel) (by decide +kernel), _, rfl, b, m, B, st, rfl, hB, ho, true, rfl, iteF ?_⟩
    have hb : between (.int (x : Int)) 0 ((m : Int) - 1) = true := by
      show (decide ((0 : Int) ≤ (x : Int)) && decide ((x : Int) ≤ (m : Int) - 1)) = true
      rw [decide_eq_true (by omega), decide_eq_true (by omega)]
      rfl
    refine ⟨_, rfl, b, dx, _, rfl, h1, noF (by decide +kernel) (by decide +kernel), _, rfl, b, m, B, _, "int", rfl, hB, .int _, true, congrArg V.bl hb, iteF ?_⟩
    refine ⟨_, rfl, b, C, dx, _, _, rfl, h1, BT.cl, BT.nP, bf_pairs m pl, _, rfl, _, rfl, _, _, rfl, rfl, pl, _, _, V.ref p, rfl, rfl, SqL.of h2, ?_, ?_⟩
    · rw [eabs]
      exact atI_nat (by rw [List.getElem?_map, hp]; rfl)
    refine ⟨p, _, rfl, SqT.of p1, rfl, _, _, rfl, _, _, rfl, rfl, ?_⟩
    refine ⟨_, rfl, _, _, rfl, rfl, _, rfl, ?_⟩
    have at_ : ∀ j : Nat, j < m → atI (wv (hdOf B st).2) (j : Int) = some (V.int ((hdOf B st).2.getD j 0)) := fun j hj => by
      refine atI_nat ?_
      have hj2 : j < (hdOf B st).2.length := by rw [oLen]; exact hj
      unfold wv
      rw [List.getElem?_map, List.getD_eq_getElem?_getD, List.getElem?_eq_getElem hj2]
      rfl
    by_cases c : 0 < st
    · rw [decide_eq_true c]
      refine iteT ⟨_, rfl, _, rfl, o, _, _, _, rfl, rfl, SqT.of p3, at_ x hx, ?_⟩
      unfold onw at k
      rw [if_pos c] at k
      exact k
    · rw [decide_eq_false c]
      have hm : x ∈ (hdOf B st).1 := (isT_perm tOk).mem_iff.mpr (List.mem_range.mpr hx)
      have hlt : (hdOf B st).1.idxOf x < (hdOf B st).1.length := List.idxOf_lt_length_iff.mpr hm
      refine iteF ⟨_, rfl, _, rfl, ⟨t, _, rfl, p2⟩, _, rfl, t, (hdOf B st).1.map (fun x : Nat => (x : Int)), (x : Int), (hdOf B st).1.idxOf x, rfl, rfl, rv_wv _ ▸ p2.sq, ?_, fun j hj z => ?_, ?_⟩
      · rw [List.getElem?_map, List.getElem?_eq_getElem hlt, List.getElem_idxOf hlt]
        rfl
      · have hj2 : j < (hdOf B st).1.length := Nat.lt_trans hj hlt
        rw [List.getElem?_map, List.getElem?_eq_getElem hj2] at z
        have z2 : (((hdOf B st).1[j] : Nat) : Int) = (x : Int) := Option.some.inj z
        have e1 : (hdOf B st).1[j]? = some x := by rw [List.getElem?_eq_getElem hj2, show (hdOf B st).1[j] = x by omega]
        have e2 : (hdOf B st).1[(hdOf B st).1.idxOf x]? = some x := by rw [List.getElem?_eq_getElem hlt, List.getElem_idxOf hlt]
        have e3 := nd_ix ((isT_perm tOk).nodup_iff.mpr List.nodup_range) e1 e2
        omega
      · refine ⟨o, _, _, _, rfl, rfl, SqT.of p3, at_ _ (by rw [← tLen]; exact hlt), _, rfl, ?_⟩
        unfold onw at k
        rw [if_neg c] at k
        exact k
end
end LH
/-! Words and rows: is_word, sure_word, is_row, sure_row, sent_by, send, rows_many. -/
namespace LH
open PySem PySem.Spec PyProof.Rows L2 KR KW
/-! ### what a step does, plainly -/
theorem hd_ok {m : Nat} {B : Hds} {st : Int} (hok : okB m B = true) (ho : stepOk B st) : okHd m B.length (hdOf B st) = true := by
  obtain ⟨i, _, _, _, e⟩ := stepOk_at ho
  exact (okB_m hok).2.2.2 _ (List.mem_of_getElem? e)
theorem turnOf_len {m : Nat} {B : Hds} {st : Int} (hok : okB m B = true) (ho : stepOk B st) : (turnOf B st).length = m := by
  have t := (okHd_turn (hd_ok hok ho)).1
  unfold turnOf undo
  split
  · exact isT_len t
  · rw [List.length_map, List.length_range, isT_len t]
theorem turnOf_lt {m : Nat} {B : Hds} {st : Int} (hok : okB m B = true) (ho : stepOk B st) {x : Nat} (hx : x < m) : (turnOf B st).getD x 0 < m := by
  have t := (okHd_turn (hd_ok hok ho)).1
  have l := isT_len t
  unfold turnOf undo
  split
  · have hx2 : x < (hdOf B st).1.length := by omega
    rw [List.getD_eq_getElem?_getD, List.getElem?_eq_getElem hx2]
    exact isT_lt t _ (List.getElem_mem hx2)
  · rw [List.getD_eq_getElem?_getD, List.getElem?_map, List.getElem?_range (by omega)]
    show (hdOf B st).1.idxOf x < m
    rw [← l]
    exact List.idxOf_lt_length_iff.mpr ((isT_perm t).mem_iff.mpr (List.mem_range.mpr hx))
theorem onw_ok {m : Nat} {B : Hds} {st : Int} (hok : okB m B = true) (ho : stepOk B st) {x : Nat} (hx : x < m) : onw B st x = 0 ∨ stepOk B (onw B st x) := by
  obtain ⟨t, l, h⟩ := okHd_turn (hd_ok hok ho)
  have tl := isT_len t
  have at_ : ∀ j, j < m → -(B.length : Int) ≤ (hdOf B st).2.getD j 0 ∧ (hdOf B st).2.getD j 0 ≤ (B.length : Int) := fun j hj => by
    have hj2 : j < (hdOf B st).2.length := by omega
    rw [List.getD_eq_getElem?_getD, List.getElem?_eq_getElem hj2]
    exact h _ (List.getElem_mem hj2)
  have hi : (hdOf B st).1.idxOf x < m := by
    rw [← tl]
    exact List.idxOf_lt_length_iff.mpr ((isT_perm t).mem_iff.mpr (List.mem_range.mpr hx))
  unfold onw stepOk
  split
  · have := at_ x hx
    by_cases z : (hdOf B st).2.getD x 0 = 0
    · exact .inl z
    · exact .inr ⟨z, this.1, this.2⟩
  · have := at_ _ hi
    by_cases z : (hdOf B st).2.getD ((hdOf B st).1.idxOf x) 0 = 0
    · left
      rw [z]
      rfl
    · right
      exact ⟨by omega, by omega, by omega⟩
def stepZ (B : Hds) (st : Int) : Prop := st = 0 ∨ stepOk B st
theorem sent_len (B : Hds) : ∀ (r : KW.Row) (st : Int), (sent B st r).length = r.length
  | [], _ => rfl
  | x :: r, st => by
    show (sent B _ r).length + 1 = r.length + 1
    rw [sent_len B r]
theorem sent_lt {m : Nat} {B : Hds} (hok : okB m B = true) : ∀ (r : KW.Row) (st : Int), stepZ B st → (∀ x ∈ r, x < m) → ∀ x ∈ sent B st r, x < m
  | [], _, _, _, x, hx => by cases hx
  | y :: r, st, hz, hr, x, hx => by
    have hy := hr y List.mem_cons_self
    have hr' : ∀ x ∈ r, x < m := fun x h => hr x (List.mem_cons_of_mem _ h)
    rcases List.mem_cons.mp hx with e | hx
    · rw [e]
      by_cases c : st = 0
      · rw [if_pos c]
        exact hy
      · rw [if_neg c]
        exact turnOf_lt hok (hz.resolve_left c) hy
    · refine sent_lt hok r _ ?_ hr' x hx
      by_cases c : st = 0
      · rw [if_pos c]
        exact .inl rfl
      · rw [if_neg c]
        exact onw_ok hok (hz.resolve_left c) hy
/-! ### exceptions' classes -/
structure ExT (K : PySem.W.Frag) (mg : Str → Option Value) (x : Str) (C : Addr) : Prop where
  g : mg x = some (.ref C)
  ex : PySem.W.excIn K C [.type "ValueError", .type "Exception", .type "BaseException", .type "object"] "ValueError.__new__" = true
  k : PySem.W.keepIn K (.ref C) = true
  b : PySem.W.subIn K (.ref C) (.type "BaseException") = some true
  t : PySem.W.typeIn K (.ref C) = some (.type "type")
/-- what is asked of a thing as a row: whether it is one -/
def RowQ (H : Hp) (m : Nat) (x : V) (r : Bool) : Prop := (∃ n, Th H x n ∧ n ≠ "tuple" ∧ r = false) ∨
  ∃ (a : Addr) (xs : List V), x = .ref a ∧ H a = some (.tup xs) ∧ ((100 < xs.length ∧ r = false) ∨ (xs.length ≤ 100 ∧ (∀ y ∈ xs, ∃ n, Th H y n) ∧ r = xs.all fun y => between y 0 ((m : Int) - 1)))
theorem RowQ.same {H H' : Hp} {m : Nat} {x : V} {r : Bool} (q : RowQ H m x r) (s : Same H H') : RowQ H' m x r := by
  rcases q with ⟨n, t, h⟩ | ⟨a, xs, e, h, c⟩
  · exact .inl ⟨n, t.same s, h⟩
  · refine .inr ⟨a, xs, e, s _ _ h, ?_⟩
    rcases c with c | ⟨c1, c2, c3⟩
    · exact .inl c
    · exact .inr ⟨c1, fun y hy => let ⟨n, t⟩ := c2 y hy; ⟨n, t.same s⟩, c3⟩
theorem RowQ.row {H : Hp} {m : Nat} {a : Addr} {r : KW.Row} (h : H a = some (.tup (rv r))) (hl : r.length ≤ 100) (hr : ∀ x ∈ r, x < m) : RowQ H m (.ref a) true := by
  refine .inr ⟨a, rv r, rfl, h, .inr ⟨by rw [rv_len]; exact hl, fun y hy => ?_, ?_⟩⟩
  · obtain ⟨x, _, rfl⟩ := List.mem_map.mp hy
    exact ⟨_, .int _⟩
  · symm
    rw [List.all_eq_true]
    intro y hy
    obtain ⟨x, hx, rfl⟩ := List.mem_map.mp hy
    have := hr x hx
    show (decide ((0 : Int) ≤ (x : Int)) && decide ((x : Int) ≤ (m : Int) - 1)) = true
    rw [decide_eq_true (by omega), decide_eq_true (by omega)]
    rfl
section
variable {P : Program} {w : World} {K : PySem.W.Frag} {mg : Str → Option Value} {base : Heap} {C CR : Addr}
/-! ### is_word, sure_word, of words -/
def WordAt (H : Hp) (B : Hds) (a : Addr) (ws : Wd) : Prop := H a = some (.tup (wv ws)) ∧ ws.length ≤ 100 ∧ ∀ s ∈ ws, stepOk B s
def spWordQ (C : Addr) : Sp := fun vs H Q _ => ∃ (b a : Addr) (m : Nat) (B : Hds) (ws : Wd), vs = [.ref b, .ref a] ∧ BkAt C H b m B ∧ WordAt H B a ws ∧ ∀ H', Same H H' → Q (.bl true) H'
theorem scWordQ : FnScope ["book", "thing", "step"] ["book", "thing"] (defScope sWordQ) := ⟨rfl, rfl, rfl, by decide +kernel, rfl, by decide +kernel, by decide +kernel⟩
theorem gd_wordQ (D : Dn K mg "is_word" sWordQ) (T : Tops mg) (BT : BkT K mg C) (GS : Gm P w K mg base C 3 "has_step" ["self", "thing"] (spHasStep C)) : Gd P w K mg base 4 "is_word" ["book", "thing"] (spWordQ C) := by
  obtain ⟨f, fd, gm, F⟩ := D
  obtain ⟨fS, fdS, mS, bS, FS⟩ := GS.ex
  refine ⟨f, fd, gm, F.kp, F.binds fun _ _ _ _ _ _ us hl => match us, hl with | [_, _], _ => rfl, F.okX scWordQ (fun vs H Q E h => ?_) (fun cdv A outer s H vs Q E hr h => ?_)⟩
  · obtain ⟨b, a, m, B, ws, rfl, _⟩ := h
    rfl
  · obtain ⟨b, a, m, B, ws, rfl, hB, ⟨ha, hl, hs⟩, k⟩ := h
    obtain ⟨ts, gs⟩ := T.steps
    refine ⟨_, pss_cons (ps_if (PW.pt (pw_or (pt_not (pt_val (pe_callB call_isi (by rfl) T.isinstance (by decide +kernel) (pa_cons (pv 1) (pa_cons (pe_bltn (v := .ty "tuple") rfl T.tuple boot_tuple rfl) pa_nil)))))
        (pw_or1 (pt_cmpR op_gt (pe_callB call_lenS (by rfl) T.len PySem.boot_len (pa_cons (pv 1) pa_nil)) (pe_glob (v := .int 100) rfl gs ⟨_, rfl⟩) (nomark _))))) (pss_one (ps_ret pe_bl)) pss_nil)
      (pss_one (ps_ret (pe_callB (cr_all rfl) (by rfl) T.all (by decide +kernel) (pa_cons
        (pe_lc (own := [("step", 2)]) (g := gName 2) (tt := tYes) (te := tMeth C "has_step" (spHasStep C) [] noE (tVar 0) (tCons (tVar 2) tNil)) rfl scWordQ.nd (pi_tup (pv 1))
          (blkOk_by (N := ["book", "thing", "step"]) (sc := defScope sWordQ) (by decide +kernel)) (fun _ _ _ _ _ => pg_name (i := 2) scWordQ.nd rfl (Or.inl rfl)) (fun _ _ _ _ _ => pts_nil)
          (fun _ _ _ _ _ => pe_meth (pv 0) BT.cl mS FS (by exact hr) bS .nil passL (pa_cons (pv 2) pa_nil))) pa_nil)))), ?_⟩
    refine ⟨_, rfl, _, .ty "tuple", .type "tuple", .type "tuple", true, rfl, .ty "tuple", (Th.tup ha).ty, kit_ty (by decide +kernel), true, rfl, iteF ?_⟩
    refine ⟨_, rfl, a, _, rfl, .inr (SqT.of ha), _, _, rfl, rfl, _, rfl, ?_⟩
    rw [wv_len, decide_eq_false (by omega)]
    refine iteF ?_
    refine ⟨_, rfl, a, rfl, ⟨_, SqT.of ha⟩, fun D hD => ?_⟩
    refine lc_tupF (fun _ => V.bl true) ha hD (by rw [wv_len, sizeLine_eq]; omega) (fun x H2 hx s2 Q1 R1 k1 => ?_) (fun H2 s2 e2 => ?_)
    · obtain ⟨y, hy, rfl⟩ := List.mem_map.mp hx
      obtain ⟨dx, pl, ps, h1, h2, h3⟩ := hB.same s2
      exact ⟨rfl, ⟨_, rfl, b, dx, _, rfl, h1, bf_no m pl (by decide +kernel) (by decide +kernel), _, rfl, b, m, B, y, rfl, ⟨dx, pl, ps, h1, h2, h3⟩, hs y hy, k1 _ (Same.refl _)⟩⟩
    · refine ⟨D, List.replicate ws.length true, rfl, SqL.of (e2.trans ?_), ?_⟩
      · rw [List.map_replicate, wv, List.map_map]
        exact congrArg (fun l => some (HO.lst l)) (by
          show ws.map (fun _ => V.bl true) = _
          rw [List.map_const'])
      · have e : (List.replicate ws.length true).all id = true := by
          rw [List.all_replicate]
          split <;> rfl
        rw [e]
        exact k _ s2
def spSureW (C : Addr) : Sp := fun vs H Q _ => ∃ (b a : Addr) (m : Nat) (B : Hds) (ws : Wd), vs = [.ref b, .ref a] ∧ BkAt C H b m B ∧ WordAt H B a ws ∧ ∀ H', Same H H' → Q (.ref a) H'
theorem scSureW : FnScope ["book", "thing"] ["book", "thing"] (defScope sSureW) := ⟨rfl, rfl, rfl, by decide +kernel, rfl, by decide +kernel, by decide +kernel⟩
theorem gd_sureW (D : Dn K mg "sure_word" sSureW) (G : Gd P w K mg base 4 "is_word" ["book", "thing"] (spWordQ C)) : Gd P w K mg base 5 "sure_word" ["book", "thing"] (spSureW C) := by
  obtain ⟨f, fd, gm, F⟩ := D
  refine ⟨f, fd, gm, F.kp, F.binds fun _ _ _ _ _ _ us hl => match us, hl with | [_, _], _ => rfl, F.okX scSureW (fun vs H Q E h => ?_) (fun cdv A outer s H vs Q E hr h => ?_)⟩
  · obtain ⟨b, a, m, B, ws, rfl, _⟩ := h
    rfl
  · obtain ⟨b, a, m, B, ws, rfl, hB, hW, k⟩ := h
    refine ⟨_, pss_cons (ps_if (pt_not (pt_val (pe_gd G (by exact hr) passL (pa_cons (pv 0) (pa_cons (pv 1) pa_nil))))) (pss_one ps_never) pss_nil) (pss_one (ps_ret (pv 1))), ?_⟩
    exact ⟨_, rfl, _, rfl, b, a, m, B, ws, rfl, hB, hW, fun H1 s1 => ⟨true, rfl, iteF ⟨_, rfl, k H1 s1⟩⟩⟩
/-! ### is_row, sure_row, of anything -/
def spRowQ (C : Addr) : Sp := fun vs H Q _ => ∃ (b : Addr) (m : Nat) (B : Hds) (x : V) (r : Bool), vs = [.ref b, x] ∧ BkAt C H b m B ∧ RowQ H m x r ∧ ∀ H', Same H H' → Q (.bl r) H'
theorem scRowQ : FnScope ["book", "thing", "letter"] ["book", "thing"] (defScope sRowQ) := ⟨rfl, rfl, rfl, by decide +kernel, rfl, by decide +kernel, by decide +kernel⟩
theorem gd_rowQ (D : Dn K mg "is_row" sRowQ) (T : Tops mg) (BT : BkT K mg C) (GL : Gm P w K mg base C 3 "has_letter" ["self", "thing"] (spHasLetter C)) : Gd P w K mg base 4 "is_row" ["book", "thing"] (spRowQ C) := by
  obtain ⟨f, fd, gm, F⟩ := D
  obtain ⟨fL, fdL, mL, bL, FL⟩ := GL.ex
  refine ⟨f, fd, gm, F.kp, F.binds fun _ _ _ _ _ _ us hl => match us, hl with | [_, _], _ => rfl, F.okX scRowQ (fun vs H Q E h => ?_) (fun cdv A outer s H vs Q E hr h => ?_)⟩
  · obtain ⟨b, m, B, x, r, rfl, _⟩ := h
    rfl
  · obtain ⟨b, m, B, x, r, rfl, hB, hq, k⟩ := h
    obtain ⟨tl, gl⟩ := T.letters
    refine ⟨_, pss_cons (ps_if (PW.pt (pw_or (pt_not (pt_val (pe_callB call_isi (by rfl) T.isinstance (by decide +kernel) (pa_cons (pv 1) (pa_cons (pe_bltn (v := .ty "tuple") rfl T.tuple boot_tuple rfl) pa_nil)))))
        (pw_or1 (pt_cmpR op_gt (pe_callB call_lenS (by rfl) T.len PySem.boot_len (pa_cons (pv 1) pa_nil)) (pe_glob (v := .int 100) rfl gl ⟨_, rfl⟩) (nomark _))))) (pss_one (ps_ret pe_bl)) pss_nil)
      (pss_one (ps_ret (pe_callB (cr_all rfl) (by rfl) T.all (by decide +kernel) (pa_cons
        (pe_lc (own := [("letter", 2)]) (g := gName 2) (tt := tYes) (te := tMeth C "has_letter" (spHasLetter C) [] noE (tVar 0) (tCons (tVar 2) tNil)) rfl scRowQ.nd (pi_tup (pv 1))
          (blkOk_by (N := ["book", "thing", "letter"]) (sc := defScope sRowQ) (by decide +kernel)) (fun _ _ _ _ _ => pg_name (i := 2) scRowQ.nd rfl (Or.inl rfl)) (fun _ _ _ _ _ => pts_nil)
          (fun _ _ _ _ _ => pe_meth (pv 0) BT.cl mL FL (by exact hr) bL .nil passL (pa_cons (pv 2) pa_nil))) pa_nil)))), ?_⟩
    rcases hq with ⟨n, ht, hn, rfl⟩ | ⟨a, xs, rfl, ha, hc⟩
    · have no : kitB n "tuple" = some false := by
        cases ht <;> first | exact absurd rfl hn | decide +kernel
      exact ⟨_, rfl, _, .ty "tuple", .type n, .type "tuple", false, rfl, .ty "tuple", ht.ty, kit_ty no, false, rfl, iteT (k H (Same.refl H))⟩
    · refine ⟨_, rfl, _, .ty "tuple", .type "tuple", .type "tuple", true, rfl, .ty "tuple", (Th.tup ha).ty, kit_ty (by decide +kernel), true, rfl, iteF ?_⟩
      refine ⟨_, rfl, a, _, rfl, .inr (SqT.of ha), _, _, rfl, rfl, _, rfl, ?_⟩
      rcases hc with ⟨c, rfl⟩ | ⟨c, hth, rfl⟩
      · rw [decide_eq_true (by omega)]
        exact iteT (k H (Same.refl H))
      · rw [decide_eq_false (by omega)]
        refine iteF ?_
        refine ⟨_, rfl, a, rfl, ⟨_, SqT.of ha⟩, fun D hD => ?_⟩
        refine lc_tupF (fun y => V.bl (between y 0 ((m : Int) - 1))) ha hD (by rw [sizeLine_eq]; omega) (fun x H2 hx s2 Q1 R1 k1 => ?_) (fun H2 s2 e2 => ?_)
        · obtain ⟨dx, pl, ps, h1, h2, h3⟩ := hB.same s2
          obtain ⟨n, ht⟩ := hth x hx
          exact ⟨rfl, ⟨_, rfl, b, dx, _, rfl, h1, bf_no m pl (by decide +kernel) (by decide +kernel), _, rfl, b, m, B, x, n, rfl, ⟨dx, pl, ps, h1, h2, h3⟩, ht.same s2, k1 _ (Same.refl _)⟩⟩
        · refine ⟨D, xs.map (fun y => between y 0 ((m : Int) - 1)), rfl, SqL.of (e2.trans ?_), ?_⟩
          · rw [List.map_map]
            rfl
          · have e : (xs.map fun y => between y 0 ((m : Int) - 1)).all id = xs.all fun y => between y 0 ((m : Int) - 1) := by
              rw [List.all_map]
              rfl
            rw [e]
            exact k _ s2
def spSureR (C CR : Addr) : Sp := fun vs H Q E => ∃ (b : Addr) (m : Nat) (B : Hds) (x : V) (r : Bool), vs = [.ref b, x] ∧ BkAt C H b m B ∧ RowQ H m x r ∧ (r = true → ∀ H', Same H H' → Q x H') ∧ (r = false → ∀ H', Same H H' → E (.ref CR) none H')
theorem scSureR : FnScope ["book", "thing"] ["book", "thing"] (defScope sSureR) := ⟨rfl, rfl, rfl, by decide +kernel, rfl, by decide +kernel, by decide +kernel⟩
theorem gd_sureR (D : Dn K mg "sure_row" sSureR) (XR : ExT K mg "NoRow" CR) (G : Gd P w K mg base 4 "is_row" ["book", "thing"] (spRowQ C)) : Gd P w K mg base 5 "sure_row" ["book", "thing"] (spSureR C CR) := by
  obtain ⟨f, fd, gm, F⟩ := D
  refine ⟨f, fd, gm, F.kp, F.binds fun _ _ _ _ _ _ us hl => match us, hl with | [_, _], _ => rfl, F.okX scSureR (fun vs H Q E h => ?_) (fun cdv A outer s H vs Q E hr h => ?_)⟩
  · obtain ⟨b, m, B, x, r, rfl, _⟩ := h
    rfl
  · obtain ⟨b, m, B, x, r, rfl, hB, hq, kT, kF⟩ := h
    refine ⟨_, pss_cons (ps_if (pt_not (pt_val (pe_gd G (by exact hr) passL (pa_cons (pv 0) (pa_cons (pv 1) pa_nil)))))
      (pss_one (ps_raise rfl (takes_of rfl rfl rfl rfl) (pmk_own PySem.F.excBase_ValueError XR.ex XR.g XR.k (raises_own XR.b XR.t) rfl))) pss_nil) (pss_one (ps_ret (pv 1))), ?_⟩
    refine ⟨_, rfl, _, rfl, b, m, B, x, r, rfl, hB, hq, fun H1 s1 => ⟨r, rfl, ?_⟩⟩
    cases r with
    | true => exact iteF ⟨_, rfl, kT rfl H1 s1⟩
    | false => exact iteT (kF rfl H1 s1)
end
end LH
/-! sent_by, send, rows_many, rows_of_level. -/
namespace LH
open PySem PySem.Spec PyProof.Rows L2 KR KW
theorem rv_append (r q : KW.Row) : rv (r ++ q) = rv r ++ rv q := by
  unfold rv
  rw [List.map_append]
theorem rv_get {r : KW.Row} {i : Nat} {x : V} (h : (rv r)[i]? = some x) : ∃ y : Nat, r[i]? = some y ∧ x = V.int (y : Int) := by
  unfold rv at h
  rw [List.getElem?_map] at h
  cases e : r[i]? with
  | none => rw [e] at h; cases h
  | some y =>
    rw [e] at h
    exact ⟨y, rfl, (Option.some.inj h).symm⟩
theorem drop_get {α : Type} : ∀ {l : List α} {i : Nat} {y : α}, l[i]? = some y → l.drop i = y :: l.drop (i + 1)
  | [], i, y, h => by simp at h
  | a :: l, 0, y, h => by
    have e : a = y := Option.some.inj h
    rw [e]
    rfl
  | a :: l, i + 1, y, h => drop_get (l := l) (i := i) h
section
variable {P : Program} {w : World} {K : PySem.W.Frag} {mg : Str → Option Value} {base : Heap} {C CR : Addr}
/-! ### sent_by -/
def RowAt (H : Hp) (m : Nat) (a : Addr) (r : KW.Row) : Prop := H a = some (.tup (rv r)) ∧ r.length ≤ 100 ∧ ∀ x ∈ r, x < m
theorem RowAt.same {H H' : Hp} {m : Nat} {a : Addr} {r : KW.Row} (x : RowAt H m a r) (s : Same H H') : RowAt H' m a r := ⟨s _ _ x.1, x.2⟩
def spSentBy (C : Addr) : Sp := fun vs H Q _ => ∃ (b a : Addr) (m : Nat) (B : Hds) (st : Int) (r : KW.Row), vs = [.ref b, .int st, .ref a] ∧ BkAt C H b m B ∧ okB m B = true ∧ stepZ B st ∧ RowAt H m a r ∧
  ∀ H' p, Same H H' → H' p = some (.tup (rv (sent B st r))) → Q (.ref p) H'
theorem scSentBy : FnScope ["book", "step", "row", "found", "letter"] ["book", "step", "row"] (defScope sSentBy) := ⟨rfl, rfl, rfl, by decide +kernel, rfl, by decide +kernel, by decide +kernel⟩
theorem gd_sentBy (D : Dn K mg "sent_by" sSentBy) (T : Tops mg) (BT : BkT K mg C) (GT : Gm P w K mg base C 4 "turn" ["self", "step"] (spTurn K C)) (GO : Gm P w K mg base C 4 "onward" ["self", "step", "letter"] (spOnward C)) :
    Gd P w K mg base 5 "sent_by" ["book", "step", "row"] (spSentBy C) := by
  obtain ⟨f, fd, gm, F⟩ := D
  obtain ⟨fT, fdT, mT, bT, FT⟩ := GT.ex
  obtain ⟨fO, fdO, mO, bO, FO⟩ := GO.ex
  refine ⟨f, fd, gm, F.kp, F.binds fun _ _ _ _ _ _ us hl => match us, hl with | [_, _, _], _ => rfl, F.okX scSentBy (fun vs H Q E h => ?_) (fun cdv A outer s H vs Q E hr h => ?_)⟩
  · obtain ⟨b, a, m, B, st, r, rfl, _⟩ := h
    rfl
  · obtain ⟨b, a, m, B, st, r, rfl, hB, hok, hz, ⟨ha, hl, hlt⟩, k⟩ := h
    refine ⟨_, pss_cons (ps_set (i := 3) scSentBy.nd rfl (.inl rfl) (pe_lst pa_nil))
      (pss_cons (ps_for (passes_of rfl) rfl (pi_tup (pv 2)) (pg_name (i := 4) scSentBy.nd rfl (Or.inl rfl))
        (pss_cons (ps_expr (pe_bm PySem.F.plainAttrs_list PySem.F.slot_list_append PySem.F.type_list_append mt_append (pv 3) (pa_cons
            (pe_ifExp (pt_cmpR op_eq (pv 1) pe_int (nomark _)) (pv 4) (pe_ix ix_tup (pe_meth (pv 0) BT.cl mT FT (by exact hr) bT .nil passL (pa_cons (pv 1) pa_nil)) (pv 4) (fun _ _ => rfl))) pa_nil)))
        (pss_one (ps_set (i := 1) scSentBy.nd rfl (.inl rfl) (pe_ifExp (pt_cmpR op_eq (pv 1) pe_int (nomark _)) pe_int (pe_meth (pv 0) BT.cl mO FO (by exact hr) bO .nil passL (pa_cons (pv 1) (pa_cons (pv 4) pa_nil))))))))
      (pss_one (ps_ret (pe_tupleOf rfl T.tuple (pv 3))))), ?_⟩
    refine ⟨Nat.zero_le _, fun l hl0 => ?_⟩
    have s0 := same_new (o := .lst []) hl0
    refine ⟨_, rfl, a, rfl, ⟨_, SqT.of (s0 _ _ ha)⟩, for_tup (K := K) (a := a) (xs := rv r) (fun i σ H1 => ∃ (v : Option V) (s' : Int) (done : KW.Row), σ = [some (.ref b), some (.int s'), some (.ref a), some (.ref l), v] ∧ Same H H1 ∧ H1 l = some (.lst (rv done)) ∧ stepZ B s' ∧ done.length = i ∧ done ++ sent B s' (r.drop i) = sent B st r)
      ⟨none, st, [], rfl, s0, upd_same, hz, rfl, rfl⟩ (fun i σ H1 _ ⟨_, _, _, _, s1, _⟩ => SqT.of (s1 _ _ ha)) ?_ ?_⟩
    · rintro i y σ H1 hi ⟨v, s', done, rfl, s1, e1, z1, dl, de⟩
      obtain ⟨x, hx, rfl⟩ := rv_get hi
      have xm : x < m := hlt x (List.mem_of_getElem? hx)
      have hil : i < r.length := (List.getElem?_eq_some_iff.mp hx).1
      refine ⟨_, rfl, .inl ⟨rfl, _, SqL.of e1⟩, ?_⟩
      by_cases c : s' = 0
      · subst c
        refine ⟨_, rfl, rfl, _, rfl, iteT ⟨_, rfl, l, _, _, rfl, rfl, e1, by rw [rv_len, dl, sizeLine_eq]; omega, ?_⟩⟩
        refine ⟨_, rfl, rfl, _, rfl, iteT ?_⟩
        refine ⟨_, 0, done ++ [x], rfl, fun c o e => ?_, upd_same.trans ?_, .inl rfl, by rw [List.length_append, dl]; rfl, ?_⟩
        · rw [upd_ne (ne_of_none e hl0)]
          exact s1 _ _ e
        · rw [rv_append]
          rfl
        · rw [← de, drop_get hx, sent_0, sent_0, List.append_assoc]
          rfl
      · have so := z1.resolve_left c
        obtain ⟨dx, pl, ps, h1, h2, h3⟩ := hB.same s1
        have dne : decide (V.int s' = V.int 0) = false := decide_eq_false (fun z => c (V.int.inj z))
        refine ⟨_, rfl, rfl, _, rfl, ?_⟩
        rw [dne]
        refine iteF ⟨_, rfl, b, dx, _, rfl, h1, bf_no m pl (by decide +kernel) (by decide +kernel), _, rfl, b, m, B, s', rfl, ⟨dx, pl, ps, h1, h2, h3⟩, hok, so, fun H2 t s2 et => ?_⟩
        have xl : x < (turnOf B s').length := by rw [turnOf_len hok so]; exact xm
        have at_ : atI (rv (turnOf B s')) (x : Int) = some (V.int (((turnOf B s').getD x 0 : Nat) : Int)) := by
          refine atI_nat ?_
          unfold rv
          rw [List.getElem?_map, List.getD_eq_getElem?_getD, List.getElem?_eq_getElem xl]
          rfl
        have e2 := s2 _ _ e1
        refine ⟨_, rfl, t, _, _, _, rfl, rfl, et, at_, l, _, _, rfl, rfl, e2, by rw [rv_len, dl, sizeLine_eq]; omega, ?_⟩
        have hlb : l ≠ b := ne_of e1 h1 (fun z => nomatch z)
        have sl : Same H (upd H2 l (.lst (rv done ++ [V.int (((turnOf B s').getD x 0 : Nat) : Int)]))) := fun c o e => by
          rw [upd_ne (ne_of_none e hl0)]
          exact s2 _ _ (s1 _ _ e)
        obtain ⟨dx', pl', ps', g1, g2, g3⟩ := hB.same sl
        refine ⟨_, rfl, rfl, _, rfl, ?_⟩
        rw [dne]
        refine iteF ⟨_, rfl, b, dx', _, rfl, g1, bf_no m pl' (by decide +kernel) (by decide +kernel), _, rfl, _, rfl, b, m, B, s', x, rfl, ⟨dx', pl', ps', g1, g2, g3⟩, hok, so, xm, ?_⟩
        refine ⟨_, onw B s' x, done ++ [(turnOf B s').getD x 0], rfl, sl, upd_same.trans ?_, onw_ok hok so xm, by rw [List.length_append, dl]; rfl, ?_⟩
        · rw [rv_append]
          rfl
        · rw [← de, drop_get hx, List.append_assoc]
          show done ++ ([(turnOf B s').getD x 0] ++ sent B (onw B s' x) (r.drop (i + 1))) = done ++ ((if s' = 0 then x else (turnOf B s').getD x 0) :: sent B (if s' = 0 then 0 else onw B s' x) (r.drop (i + 1)))
          rw [if_neg c, if_neg c]
          rfl
    · rintro σ H1 ⟨v, s', done, rfl, s1, e1, z1, dl, de⟩
      rw [rv_len] at dl
      rw [rv_len, List.drop_length, ] at de
      have de2 : done = sent B st r := by
        rw [← de]
        show done = done ++ []
        rw [List.append_nil]
      refine ⟨_, rfl, .inl ⟨l, _, rfl, SqL.of e1, fun q hq => ?_⟩⟩
      rw [de2]
      exact k _ q (s1.trans (same_new hq)) upd_same
/-! ### send, of one step -/
def spSend (C : Addr) : Sp := fun vs H Q _ => ∃ (b a c : Addr) (m : Nat) (B : Hds) (st : Int) (r : KW.Row), vs = [.ref b, .ref c, .ref a] ∧ BkAt C H b m B ∧ okB m B = true ∧ stepOk B st ∧ H c = some (.tup [.int st]) ∧ RowAt H m a r ∧
  ∀ H' p, Same H H' → H' p = some (.tup (rv (sent B st r))) → Q (.ref p) H'
theorem scSend : FnScope ["book", "word", "row", "steps", "found", "step"] ["book", "word", "row"] (defScope sSend) := ⟨rfl, rfl, rfl, by decide +kernel, rfl, by decide +kernel, by decide +kernel⟩
theorem gd_send (D : Dn K mg "send" sSend) (GW : Gd P w K mg base 5 "sure_word" ["book", "thing"] (spSureW C)) (GR : Gd P w K mg base 5 "sure_row" ["book", "thing"] (spSureR C CR)) (GS : Gd P w K mg base 5 "sent_by" ["book", "step", "row"] (spSentBy C)) :
    Gd P w K mg base 6 "send" ["book", "word", "row"] (spSend C) := by
  obtain ⟨f, fd, gm, F⟩ := D
  refine ⟨f, fd, gm, F.kp, F.binds fun _ _ _ _ _ _ us hl => match us, hl with | [_, _, _], _ => rfl, F.okX scSend (fun vs H Q E h => ?_) (fun cdv A outer s H vs Q E hr h => ?_)⟩
  · obtain ⟨b, a, c, m, B, st, r, rfl, _⟩ := h
    rfl
  · obtain ⟨b, a, c, m, B, st, r, rfl, hB, hok, ho, hc, hrow, k⟩ := h
    refine ⟨_, pss_cons (ps_set (i := 3) scSend.nd rfl (.inl rfl) (pe_gd GW (by exact hr) passL (pa_cons (pv 0) (pa_cons (pv 1) pa_nil))))
      (pss_cons (ps_set (i := 4) scSend.nd rfl (.inl rfl) (pe_gd GR (by exact hr) passL (pa_cons (pv 0) (pa_cons (pv 2) pa_nil))))
      (pss_cons (ps_for (passes_of rfl) rfl (pi_tup (pv 3)) (pg_name (i := 5) scSend.nd rfl (Or.inl rfl))
        (pss_one (ps_set (i := 4) scSend.nd rfl (.inl rfl) (pe_gd GS (by exact hr) passL (pa_cons (pv 0) (pa_cons (pv 5) (pa_cons (pv 4) pa_nil)))))))
      (pss_one (ps_ret (pv 4))))), ?_⟩
    refine ⟨_, rfl, _, rfl, b, c, m, B, [st], rfl, hB, ⟨hc, by show 1 ≤ 100; decide, fun s hs => by rw [List.mem_singleton.mp hs]; exact ho⟩, fun H1 s1 => ?_⟩
    refine ⟨_, rfl, _, rfl, b, m, B, _, true, rfl, hB.same s1, RowQ.row (s1 _ _ hrow.1) hrow.2.1 hrow.2.2, fun _ H2 s2 => ?_, fun z => by cases z⟩
    have s12 := s1.trans s2
    refine ⟨_, rfl, c, rfl, ⟨_, SqT.of (s12 _ _ hc)⟩, for_tup (K := K) (a := c) (xs := [V.int st]) (fun i σ H3 => Same H H3 ∧ ∃ (v : Option V) (p : Addr), σ = [some (.ref b), some (.ref c), some (.ref a), some (.ref c), some (.ref p), v] ∧ H3 p = some (.tup (rv (if i = 0 then r else sent B st r))))
      ⟨s12, none, a, rfl, s12 _ _ hrow.1⟩ (fun i σ H3 _ h => SqT.of (h.1 _ _ hc)) ?_ ?_⟩
    · rintro i y σ H3 hi ⟨s3, v, p, rfl, e3⟩
      cases i with
      | succ j => simp at hi
      | zero =>
        have hi : V.int st = y := Option.some.inj hi
        subst hi
        refine ⟨_, rfl, _, rfl, _, rfl, b, p, m, B, st, r, rfl, hB.same s3, hok, .inr ho, ⟨e3, hrow.2⟩, fun H4 q s4 e4 => ⟨s3.trans s4, _, q, rfl, e4⟩⟩
    · rintro σ H3 ⟨s3, v, p, rfl, e3⟩
      exact ⟨_, rfl, k H3 p s3 e3⟩
/-! ### rows_many -/
def spMany (C : Addr) : Sp := fun vs H Q _ => ∃ (b : Addr) (m n : Nat) (B : Hds), vs = [.ref b, .int (n : Int)] ∧ BkAt C H b m B ∧ okB m B = true ∧ n ≤ 100 ∧ Q (.int ((m ^ n : Nat) : Int)) H
theorem scMany : FnScope ["book", "length", "size", "turn"] ["book", "length"] (defScope sMany) := ⟨rfl, rfl, rfl, by decide +kernel, rfl, by decide +kernel, by decide +kernel⟩
theorem gd_many (D : Dn K mg "rows_many" sMany) (T : Tops mg) (BT : BkT K mg C) (GL : Gm P w K mg base C 1 "letters" ["self"] (spLetters C)) : Gd P w K mg base 2 "rows_many" ["book", "length"] (spMany C) := by
  obtain ⟨f, fd, gm, F⟩ := D
  obtain ⟨fL, fdL, mL, bL, FL⟩ := GL.ex
  refine ⟨f, fd, gm, F.kp, F.binds fun _ _ _ _ _ _ us hl => match us, hl with | [_, _], _ => rfl, F.okX scMany (fun vs H Q E h => ?_) (fun cdv A outer s H vs Q E hr h => ?_)⟩
  · obtain ⟨b, m, n, B, rfl, _⟩ := h
    rfl
  · obtain ⟨b, m, n, B, rfl, hB, hok, hn, k⟩ := h
    obtain ⟨m2, m4, _, _⟩ := okB_m hok
    refine ⟨_, pss_cons (ps_set (i := 2) scMany.nd rfl (.inl rfl) pe_int)
      (pss_cons (ps_for (passes_of rfl) rfl (pi_range1 rfl T.range (pa_cons (pv 1) pa_nil)) (pg_name (i := 3) scMany.nd rfl (Or.inl rfl))
        (pss_one (ps_aug (i := 2) scMany.nd rfl (.inl rfl) (pe_meth0 (pv 0) BT.cl mL FL (by exact hr) bL .nil passL) (ip_of iop_mul))))
      (pss_one (ps_ret (pv 2)))), ?_⟩
    refine ⟨_, rfl, (n : Int), rfl, by omega, by omega, ?_⟩
    rw [Int.toNat_natCast]
    refine for_range (lo := 0) (n := n) (fun i σ H1 => H1 = H ∧ ∃ v : Option V, σ = [some (.ref b), some (.int (n : Int)), some (.int ((m ^ i : Nat) : Int)), v]) ⟨rfl, none, rfl⟩ ?_ ?_
    · rintro i σ H1 hi ⟨rfl, v, rfl⟩
      obtain ⟨dx, pl, ps, h1, h2, h3⟩ := id hB
      refine ⟨_, rfl, _, rfl, b, dx, _, rfl, h1, bf_no m pl (by decide +kernel) (by decide +kernel), b, m, B, rfl, hB, _, _, rfl, rfl, .inr ⟨by omega, by omega⟩, ?_⟩
      refine ⟨rfl, some (.int (0 + (i : Int))), ?_⟩
      have e : ((m ^ i : Nat) : Int) * (m : Int) = ((m ^ (i + 1) : Nat) : Int) := by
        rw [Nat.pow_succ]
        exact (Int.natCast_mul _ _).symm
      show [some (V.ref b), some (V.int (n : Int)), some (V.int (((m ^ i : Nat) : Int) * (m : Int))), some (V.int (0 + (i : Int)))] = _
      rw [e]
    · rintro σ H1 ⟨rfl, v, rfl⟩
      exact ⟨_, rfl, k⟩
end
end LH
/-! rows_of_level; what holds of a going over. -/
namespace KW
/-! ### a going over, its lists -/
def meets (snd : Int → Row → Row) (p : Row × Wd) (ss : List Int) (L : Lst) : Lst := ss.foldl (meet snd p.1 p.2) L
theorem meets_app (snd : Int → Row → Row) (p : Row × Wd) (s1 s2 : List Int) (L : Lst) : meets snd p (s1 ++ s2) L = meets snd p s2 (meets snd p s1 L) := List.foldl_append
theorem meet_pre (snd : Int → Row → Row) (one : Row) (w : Wd) (L : Lst) (s : Int) : ∃ t, meet snd one w L s = L ++ t := by
  unfold meet
  split
  · exact ⟨[], (List.append_nil L).symm⟩
  · exact ⟨_, rfl⟩
theorem meets_pre (snd : Int → Row → Row) (p : Row × Wd) : ∀ (ss : List Int) (L : Lst), ∃ t, meets snd p ss L = L ++ t
  | [], L => ⟨[], (List.append_nil L).symm⟩
  | s :: ss, L => by
    obtain ⟨t, e⟩ := meet_pre snd p.1 p.2 L s
    obtain ⟨t2, e2⟩ := meets_pre snd p ss (meet snd p.1 p.2 L s)
    refine ⟨t ++ t2, ?_⟩
    show meets snd p ss (meet snd p.1 p.2 L s) = _
    rw [e2, e, List.append_assoc]
/-- a good list: no row twice, fit rows, short words -/
structure Good (m n k : Nat) (L : Lst) : Prop where
  nd : (keys L).Nodup
  row : ∀ x ∈ L, x.1.length = n ∧ ∀ y ∈ x.1, y < m
  wd : ∀ x ∈ L, x.2.length ≤ k
theorem Good.mono {m n k j : Nat} {L : Lst} (g : Good m n k L) (h : k ≤ j) : Good m n j L := ⟨g.nd, g.row, fun x hx => Nat.le_trans (g.wd x hx) h⟩
theorem good_meet {m n k : Nat} {snd : Int → Row → Row} {one : Row} {w : Wd} {L : Lst} {s : Int} (g : Good m n (k + 1) L) (hs : (snd s one).length = n ∧ ∀ y ∈ snd s one, y < m) (hw : w.length ≤ k) : Good m n (k + 1) (meet snd one w L s) := by
  unfold meet
  split
  · exact g
  · rename_i h
    refine ⟨?_, fun x hx => ?_, fun x hx => ?_⟩
    · unfold keys at h ⊢
      rw [List.map_append, List.nodup_append]
      refine ⟨g.nd, by simp, fun a ha b hb e => ?_⟩
      have hb : b = snd s one := List.mem_singleton.mp hb
      rw [e, hb] at ha
      exact h ha
    · rcases List.mem_append.mp hx with hx | hx
      · exact g.row x hx
      · rw [List.mem_singleton.mp hx]
        exact hs
    · rcases List.mem_append.mp hx with hx | hx
      · exact g.wd x hx
      · rw [List.mem_singleton.mp hx]
        show (w ++ [s]).length ≤ k + 1
        rw [List.length_append]
        show w.length + 1 ≤ k + 1
        omega
theorem good_meets {m n k : Nat} {snd : Int → Row → Row} {p : Row × Wd} : ∀ {ss : List Int} {L : Lst}, Good m n (k + 1) L → (∀ s ∈ ss, (snd s p.1).length = n ∧ ∀ y ∈ snd s p.1, y < m) → p.2.length ≤ k → Good m n (k + 1) (meets snd p ss L)
  | [], L, g, _, _ => g
  | s :: ss, L, g, hs, hw => good_meets (ss := ss) (good_meet g (hs s List.mem_cons_self) hw) (fun t ht => hs t (List.mem_cons_of_mem _ ht)) hw
theorem over_good {m n : Nat} {snd : Int → Row → Row} {steps : List Int} {r : Row} {F : Nat → Lst} {N : Nat} (O : Over snd steps r F N) (hr : r.length = n ∧ ∀ y ∈ r, y < m)
    (hs : ∀ s ∈ steps, ∀ q : Row, q.length = n → (∀ y ∈ q, y < m) → (snd s q).length = n ∧ ∀ y ∈ snd s q, y < m) : ∀ k, k ≤ N → Good m n k (F k)
  | 0, _ => by
    rw [O.zero]
    refine ⟨by simp [keys], fun x hx => ?_, fun x hx => ?_⟩
    · rw [List.mem_singleton.mp hx]
      exact hr
    · rw [List.mem_singleton.mp hx]
      exact Nat.le_refl _
  | k + 1, hk => by
    obtain ⟨p, hp, e⟩ := O.one k (by omega)
    have g := over_good O hr hs k (by omega)
    have hm := List.mem_of_getElem? hp
    rw [e]
    exact good_meets (g.mono (Nat.le_succ k)) (fun s h => hs s h p.1 (g.row p hm).1 (g.row p hm).2) (g.wd p hm)
theorem nodup_look {L : Lst} (nd : (keys L).Nodup) {i : Nat} {r : Row} {w : Wd} (h : L[i]? = some (r, w)) : look L r = some w := by
  refine look_some h fun j x hj hx z => ?_
  have e1 : (keys L)[j]? = some r := by
    unfold keys
    rw [List.getElem?_map, hx]
    show some x.1 = some r
    rw [z]
  have e2 : (keys L)[i]? = some r := by
    unfold keys
    rw [List.getElem?_map, h]
    rfl
  obtain ⟨h1, q1⟩ := List.getElem?_eq_some_iff.mp e1
  obtain ⟨h2, q2⟩ := List.getElem?_eq_some_iff.mp e2
  have := (List.getElem_inj nd).mp (q1.trans q2.symm)
  omega
/-- one more letter behind each row -/
def ext (m : Nat) (r : Row) : List Row := (List.range m).map fun x => r ++ [x]
theorem ext_len (m : Nat) : ∀ l : List Row, (l.flatMap (ext m)).length = l.length * m
  | [] => by simp
  | r :: l => by
    rw [List.flatMap_cons, List.length_append, ext_len m l, List.length_cons, Nat.succ_mul]
    unfold ext
    rw [List.length_map, List.length_range, Nat.add_comm]
end KW
namespace LH
open PySem PySem.Spec PyProof.Rows L2 KR KW
def LevAt (H : Hp) (as : List Addr) (rs : List KW.Row) : Prop := Paired (fun (a : Addr) (r : KW.Row) => H a = some (.tup (rv r))) as rs
theorem LevAt.same {H H' : Hp} {as : List Addr} {rs : List KW.Row} (x : LevAt H as rs) (s : ∀ b ys, H b = some (.tup ys) → H' b = some (.tup ys)) : LevAt H' as rs := Paired.mapP x fun _ _ z => s _ _ z
theorem paired_app {α β : Type} {F : α → β → Prop} : ∀ {l l2 : List α} {m m2 : List β}, Paired F l m → Paired F l2 m2 → Paired F (l ++ l2) (m ++ m2)
  | _, _, _, _, .nil, s => s
  | _, _, _, _, .cons r t, s => .cons r (paired_app t s)
theorem paired_getL {α β : Type} {F : α → β → Prop} : ∀ {l : List α} {m : List β} {i : Nat} {a : α}, Paired F l m → l[i]? = some a → ∃ b, m[i]? = some b ∧ F a b
  | _, _, i, b, .nil, h => by simp at h
  | _, _, 0, b, .cons r _, h => by
    have h := Option.some.inj h
    subst h
    exact ⟨_, rfl, r⟩
  | _, _, i + 1, b, .cons _ t, h => paired_getL (i := i) t h
section
variable {P : Program} {w : World} {K : PySem.W.Frag} {mg : Str → Option Value} {base : Heap} {C CR : Addr}
def spLevel (C : Addr) : Sp := fun vs H Q _ => ∃ (b : Addr) (m n : Nat) (B : Hds), vs = [.ref b, .int (n : Int)] ∧ BkAt C H b m B ∧ okB m B = true ∧ n ≤ 100 ∧ m ^ n ≤ 81 ∧ ∀ H' l as, Same H H' → H' l = some (.lst (as.map V.ref)) → LevAt H' as (level m n) → Q (.ref l) H'
theorem scLevel : FnScope ["book", "length", "rows", "turn", "longer", "row", "letter"] ["book", "length"] (defScope sLevel) := ⟨rfl, rfl, rfl, by decide +kernel, rfl, by decide +kernel, by decide +kernel⟩
theorem gd_level (D : Dn K mg "rows_of_level" sLevel) (T : Tops mg) (BT : BkT K mg C) (GL : Gm P w K mg base C 1 "letters" ["self"] (spLetters C)) : Gd P w K mg base 2 "rows_of_level" ["book", "length"] (spLevel C) := by
  obtain ⟨f, fd, gm, F⟩ := D
  obtain ⟨fL, fdL, mL, bL, FL⟩ := GL.ex
  refine ⟨f, fd, gm, F.kp, F.binds fun _ _ _ _ _ _ us hl => match us, hl with | [_, _], _ => rfl, F.okX scLevel (fun vs H Q E h => ?_) (fun cdv A outer s H vs Q E hr h => ?_)⟩
  · obtain ⟨b, m, n, B, rfl, _⟩ := h
    rfl
  · obtain ⟨b, m, n, B, rfl, hB, hok, hn, h81, k⟩ := h
    obtain ⟨m2, m4, _, _⟩ := okB_m hok
    refine ⟨_, pss_cons (ps_set (i := 2) scLevel.nd rfl (.inl rfl) (pe_lst (pa_cons (pe_tup pa_nil) pa_nil)))
      (pss_cons (ps_for (passes_of rfl) rfl (pi_range1 rfl T.range (pa_cons (pv 1) pa_nil)) (pg_name (i := 3) scLevel.nd rfl (Or.inl rfl))
        (pss_cons (ps_set (i := 4) scLevel.nd rfl (.inl rfl) (pe_lst pa_nil))
        (pss_cons (ps_for (passes_of rfl) rfl (pi_list (pv 2)) (pg_name (i := 5) scLevel.nd rfl (Or.inr rfl))
          (pss_one (ps_expr (pe_bm PySem.F.plainAttrs_list PySem.F.slot_list_extend PySem.F.type_list_extend mt_extend (pv 4) (pa_cons
            (pe_lc (own := [("letter", 6)]) (g := gName 6) (tt := tYes) (te := tOp rCat2 (tVar 5) (tTup (tCons (tVar 6) tNil))) rfl scLevel.nd (pi_range1 rfl T.range (pa_cons (pe_meth0 (pv 0) BT.cl mL FL (by exact hr) bL .nil passL) pa_nil))
              (blkOk_by (N := ["book", "length", "rows", "turn", "longer", "row", "letter"]) (sc := defScope sLevel) (by decide +kernel)) (fun _ _ _ _ _ => pg_name (i := 6) scLevel.nd rfl (Or.inl rfl)) (fun _ _ _ _ _ => pts_nil)
              (fun _ _ _ _ _ => pe_op op_cat2 (pv 5) (pe_tup (pa_cons (pv 6) pa_nil)))) pa_nil)))))
        (pss_one (ps_set (i := 2) scLevel.nd rfl (.inl rfl) (pv 4))))))
      (pss_one (ps_ret (pv 2)))), ?_⟩
    -- rows = [()]
    refine ⟨Nat.zero_le _, fun e0 he0 => ⟨by show 1 ≤ sizeLine; decide, fun l0 hl0 => ?_⟩⟩
    have se := same_new (o := .tup []) he0
    have sl := same_new (o := .lst [V.ref e0]) hl0
    have e0l : e0 ≠ l0 := ne_of_none upd_same hl0
    refine ⟨_, rfl, (n : Int), rfl, by omega, by omega, ?_⟩
    rw [Int.toNat_natCast]
    refine for_range (lo := 0) (n := n) (fun i σ H1 => Same H H1 ∧ ∃ (v3 v4 v5 v6 : Option V) (lr : Addr) (as : List Addr), σ = [some (.ref b), some (.int (n : Int)), some (.ref lr), v3, v4, v5, v6] ∧ H1 lr = some (.lst (as.map V.ref)) ∧ LevAt H1 as (level m i))
      ⟨se.trans sl, none, none, none, none, l0, [e0], rfl, upd_same, .cons (by rw [upd_ne e0l, upd_same]; rfl) .nil⟩ ?_ ?_
    · rintro i σ H1 hi ⟨s1, v3, v4, v5, v6, lr, as, rfl, hlr, hLev⟩
      have hpow : m ^ (i + 1) ≤ 81 := Nat.le_trans (Nat.pow_le_pow_right (by omega) hi) h81
      have lenAs : as.length = m ^ i := by rw [Paired.length hLev, level_len]
      refine ⟨Nat.zero_le _, fun lg hlg => ?_⟩
      have sg := same_new (o := .lst []) hlg
      have lrg : lr ≠ lg := ne_of_none hlr hlg
      have hlr2 : (upd H1 lg (.lst [])) lr = some (.lst (as.map V.ref)) := by rw [upd_ne lrg]; exact hlr
      refine ⟨_, rfl, lr, rfl, ⟨_, SqL.of hlr2⟩, for_list (K := K) (a := lr) (xs := as.map V.ref) (fun j σ H2 => Same H H2 ∧ ∃ (v3 v5 v6 : Option V) (bs : List Addr), σ = [some (.ref b), some (.int (n : Int)), some (.ref lr), v3, some (.ref lg), v5, v6] ∧ H2 lr = some (.lst (as.map V.ref)) ∧ LevAt H2 as (level m i) ∧ H2 lg = some (.lst (bs.map V.ref)) ∧ LevAt H2 bs (((level m i).take j).flatMap (ext m)))
        ⟨s1.trans sg, _, v5, v6, [], rfl, hlr2, hLev.same (fun b ys e => sg _ _ e), upd_same, .nil⟩ (fun j σ H2 _ h => ?_) ?_ ?_⟩
      · obtain ⟨_, _, _, _, _, _, e, _⟩ := h
        exact SqL.of e
      · rintro j y σ H2 hj ⟨s2, w3, w5, w6, bs, rfl, hlr2, hLev2, hlg2, hB2⟩
        rw [List.getElem?_map] at hj
        cases ea : as[j]? with
        | none => rw [ea] at hj; cases hj
        | some ra =>
          rw [ea] at hj
          have hj := Option.some.inj hj
          subst hj
          obtain ⟨r, er, hra⟩ := paired_getL hLev2 ea
          have lenBs : bs.length = ((level m i).take j).length * m := by rw [Paired.length hB2, ext_len]
          have hjl : j < m ^ i := by rw [← lenAs]; exact (List.getElem?_eq_some_iff.mp ea).1
          have jm : (j + 1) * m ≤ m ^ (i + 1) := by rw [Nat.pow_succ]; exact Nat.mul_le_mul_right m hjl
          have lenBs2 : bs.length = j * m := by rw [lenBs, List.length_take, level_len, Nat.min_eq_left (Nat.le_of_lt hjl)]
          have rl := (level_mem m i r (List.mem_of_getElem? er)).1
          have il : i ≤ 100 := by omega
          refine ⟨_, rfl, .inl ⟨rfl, _, SqL.of hlg2⟩, ?_⟩
          obtain ⟨dx, pl, ps, h1, h2, h3⟩ := hB.same s2
          refine ⟨_, rfl, b, dx, _, rfl, h1, bf_no m pl (by decide +kernel) (by decide +kernel), b, m, B, rfl, ⟨dx, pl, ps, h1, h2, h3⟩, (m : Int), rfl, by omega, by omega, fun Dn hDn => ?_⟩
          rw [Int.toNat_natCast]
          have sD := same_new (o := .lst []) hDn
          refine lc_range (lo := 0) (n := m) (fun k H3 => Same H2 H3 ∧ ∃ cs : List Addr, H3 Dn = some (.lst (cs.map V.ref)) ∧ LevAt H3 cs (((List.range m).take k).map fun x => r ++ [x]))
            ⟨sD, [], upd_same, .nil⟩ ?_ ?_
          · rintro kk H3 hkk ⟨s3, cs, hD3, hC3⟩
            have hra3 := s3 _ _ hra
            refine ⟨rfl, ⟨_, rfl, _, rfl, by show 1 ≤ sizeLine; decide, fun q hq => ?_⟩⟩
            have sq := same_new (o := .tup [V.int (0 + (kk : Int))]) hq
            refine ⟨ra, q, rv r, [V.int (0 + (kk : Int))], rfl, rfl, sq _ _ hra3, upd_same, by rw [rv_len, rl, sizeLine_eq]; show i + 1 ≤ _; omega, fun p H4 s4 e4 => ?_⟩
            have s34 := sq.trans s4
            have csl : cs.length = kk := by rw [Paired.length hC3, List.length_map, List.length_take, List.length_range]; omega
            refine ⟨cs.map V.ref, s34 _ _ hD3, by rw [List.length_map, csl, sizeLine_eq]; omega, ?_, cs ++ [p], ?_, ?_⟩
            · exact fun c o e => by rw [upd_ne (ne_of_none e hDn)]; exact s34 _ _ (s3 _ _ e)
            · rw [upd_same, List.map_append]
              rfl
            · have et : (List.range m).take (kk + 1) = (List.range m).take kk ++ [kk] := take_snoc (List.getElem?_range hkk)
              rw [et, List.map_append]
              have up : ∀ c ys, H3 c = some (.tup ys) → (upd H4 Dn (.lst (cs.map V.ref ++ [V.ref p]))) c = some (.tup ys) := fun c ys e => by
                rw [upd_ne (ne_of e hD3 (fun z => nomatch z))]
                exact s34 _ _ e
              refine paired_app (hC3.same up) (.cons ?_ .nil)
              have pD : p ≠ Dn := ne_of e4 (s34 _ _ hD3) (fun z => nomatch z)
              rw [upd_ne pD, e4, rv_append]
              show some (HO.tup (rv r ++ [V.int (0 + (kk : Int))])) = some (HO.tup (rv r ++ [V.int (kk : Int)]))
              rw [Int.zero_add]
          · rintro H3 ⟨s3, cs, hD3, hC3⟩
            rw [List.take_of_length_le (by rw [List.length_range]; exact Nat.le_refl _)] at hC3
            have hlg3 := s3 _ _ hlg2
            have csl : cs.length = m := by rw [Paired.length hC3, List.length_map, List.length_range]
            have s23 := s2.trans s3
            refine ⟨lg, Dn, bs.map V.ref, cs.map V.ref, rfl, rfl, hlg3, hD3, by rw [List.length_map, List.length_map, lenBs2, csl, sizeLine_eq]; rw [Nat.succ_mul] at jm; omega, ?_⟩
            have up : ∀ c ys, H3 c = some (.tup ys) → (upd H3 lg (.lst (bs.map V.ref ++ cs.map V.ref))) c = some (.tup ys) := fun c ys e => by
              rw [upd_ne (ne_of e hlg3 (fun z => nomatch z))]
              exact e
            have hlr3 := s3 _ _ hlr2
            refine ⟨fun c o e => ?_, w3, some (V.ref ra), w6, bs ++ cs, rfl, ?_, (hLev2.same fun c ys e => s3 _ _ e).same up, ?_, ?_⟩
            · have z := s1 _ _ e
              rw [upd_ne (ne_of_none z hlg)]
              exact s23 _ _ e
            · rw [upd_ne lrg]
              exact hlr3
            · rw [upd_same, List.map_append]
            · have et : (level m i).take (j + 1) = (level m i).take j ++ [r] := take_snoc er
              rw [et, List.flatMap_append]
              refine paired_app ((hB2.same fun c ys e => s3 _ _ e).same up) ?_
              rw [List.flatMap_cons, List.flatMap_nil, List.append_nil]
              exact (show LevAt H3 cs (ext m r) from hC3).same up
      · rintro σ H2 ⟨s2, w3, w5, w6, bs, rfl, hlr2, hLev2, hlg2, hB2⟩
        rw [List.take_of_length_le (by rw [List.length_map, lenAs, level_len]; exact Nat.le_refl _)] at hB2
        exact ⟨_, rfl, s2, w3, some (.ref lg), w5, w6, lg, bs, rfl, hlg2, hB2⟩
    · rintro σ H1 ⟨s1, v3, v4, v5, v6, lr, as, rfl, hlr, hLev⟩
      exact ⟨_, rfl, k H1 lr as s1 hlr hLev⟩
end
end LH
/-! ways_from. -/
namespace LH
open PySem PySem.Spec PyProof.Rows L2 KR KW
/-- the dict of ways at d -/
def DW (H : Hp) (d : Addr) (L : Lst) : Prop := ∃ kvs : List (List Key × V), H d = some (.dT kvs) ∧ Paired (fun (kv : List Key × V) (x : KW.Row × Wd) => kv.1 = rk x.1 ∧ ∃ a : Addr, kv.2 = V.ref a ∧ H a = some (.tup (wv x.2))) kvs L
/-- the list of rows that came at c -/
def CW (H : Hp) (c : Addr) (L : Lst) : Prop := ∃ cs : List Addr, H c = some (.lst (cs.map V.ref)) ∧ Paired (fun (a : Addr) (x : KW.Row × Wd) => H a = some (.tup (rv x.1))) cs L
theorem DW.keep {H H' : Hp} {d : Addr} {L : Lst} (x : DW H d L) (hd : ∀ o, H d = some o → H' d = some o) (ht : ∀ b ys, H b = some (.tup ys) → H' b = some (.tup ys)) : DW H' d L := by
  obtain ⟨kvs, e, p⟩ := x
  exact ⟨kvs, hd _ e, Paired.mapP p fun _ _ ⟨z1, a, z2, z3⟩ => ⟨z1, a, z2, ht _ _ z3⟩⟩
theorem CW.keep {H H' : Hp} {c : Addr} {L : Lst} (x : CW H c L) (hd : ∀ o, H c = some o → H' c = some o) (ht : ∀ b ys, H b = some (.tup ys) → H' b = some (.tup ys)) : CW H' c L := by
  obtain ⟨cs, e, p⟩ := x
  exact ⟨cs, hd _ e, Paired.mapP p fun _ _ z => ht _ _ z⟩
theorem DW.same {H H' : Hp} {d : Addr} {L : Lst} (x : DW H d L) (s : Same H H') : DW H' d L := x.keep (fun _ e => s _ _ e) fun _ _ e => s _ _ e
theorem CW.same {H H' : Hp} {d : Addr} {L : Lst} (x : CW H d L) (s : Same H H') : CW H' d L := x.keep (fun _ e => s _ _ e) fun _ _ e => s _ _ e
/-- what the dict answers -/
theorem dw_val {H : Hp} {kvs : List (List Key × V)} {L : Lst} (p : Paired (fun (kv : List Key × V) (x : KW.Row × Wd) => kv.1 = rk x.1 ∧ ∃ a : Addr, kv.2 = V.ref a ∧ H a = some (.tup (wv x.2))) kvs L) (r : KW.Row) :
    (r ∉ keys L ∧ valV kvs (rk r) = none) ∨ (r ∈ keys L ∧ ∃ w a, look L r = some w ∧ valV kvs (rk r) = some (V.ref a) ∧ H a = some (.tup (wv w))) := by
  induction p with
  | nil => exact .inl ⟨(by simp [keys]), rfl⟩
  | @cons kv x kvs L h t ih =>
    obtain ⟨h1, a, h2, h3⟩ := h
    by_cases e : x.1 = r
    · refine .inr ⟨?_, x.2, a, ?_, ?_, h3⟩
      · show r ∈ x.1 :: keys L
        rw [e]
        exact List.mem_cons_self
      · unfold look
        rw [List.find?_cons, decide_eq_true e]
        rfl
      · rw [valV_pos (by rw [h1, e]), h2]
    · have ne : ¬ kv.1 = rk r := fun z => e (rk_inj (by rw [← h1, z]))
      rcases ih with ⟨i1, i2⟩ | ⟨i1, w, b, i2, i3, i4⟩
      · refine .inl ⟨?_, by rw [valV_neg ne]; exact i2⟩
        show r ∉ x.1 :: keys L
        intro z
        rcases List.mem_cons.mp z with z | z
        · exact e z.symm
        · exact i1 z
      · refine .inr ⟨List.mem_cons_of_mem _ i1, w, b, ?_, by rw [valV_neg ne]; exact i3, i4⟩
        unfold look at i2 ⊢
        rw [List.find?_cons, decide_eq_false e]
        exact i2
section
variable {P : Program} {w : World} {K : PySem.W.Frag} {mg : Str → Option Value} {base : Heap} {C CR : Addr}
def spWays (C : Addr) : Sp := fun vs H Q _ => ∃ (b a : Addr) (m : Nat) (B : Hds) (r : KW.Row) (F : Nat → Lst) (N : Nat), vs = [.ref b, .ref a] ∧ BkAt C H b m B ∧ okB m B = true ∧ RowAt H m a r ∧ Over (sent B) (steps B.length) r F N ∧ N ≤ 100 ∧
  ∀ H' d, Same H H' → DW H' d (F N) → Q (.ref d) H'
theorem scWays : FnScope ["book", "row", "ways", "come", "at", "one", "step", "other"] ["book", "row"] (defScope sWays) := ⟨rfl, rfl, rfl, by decide +kernel, rfl, by decide +kernel, by decide +kernel⟩
theorem steps_ok {B : Hds} {s : Int} (h : s ∈ steps B.length) : stepOk B s := by
  unfold steps at h
  obtain ⟨i, hi, h⟩ := List.mem_flatMap.mp h
  have hi := List.mem_range.mp hi
  unfold stepOk
  rcases List.mem_cons.mp h with h | h
  · omega
  · have := List.mem_singleton.mp h
    omega
theorem gd_ways (D : Dn K mg "ways_from" sWays) (T : Tops mg) (BT : BkT K mg C) (GS : Gm P w K mg base C 1 "steps" ["self"] (spSteps C)) (GN : Gd P w K mg base 6 "send" ["book", "word", "row"] (spSend C)) : Gd P w K mg base 7 "ways_from" ["book", "row"] (spWays C) := by
  obtain ⟨f, fd, gm, F⟩ := D
  obtain ⟨fS, fdS, mS, bS, FS⟩ := GS.ex
  refine ⟨f, fd, gm, F.kp, F.binds fun _ _ _ _ _ _ us hl => match us, hl with | [_, _], _ => rfl, F.okX scWays (fun vs H Q E h => ?_) (fun cdv A outer s H vs Q E hr h => ?_)⟩
  · obtain ⟨b, a, m, B, r, G, N, rfl, _⟩ := h
    rfl
  · obtain ⟨b, a, m, B, r, G, N, rfl, hB, hok, ⟨ha, hl, hlt⟩, O, hN, k⟩ := h
    obtain ⟨m2, m4, b6, _⟩ := okB_m hok
    have hu := hu_of hr
    have hsent : ∀ st ∈ steps B.length, ∀ q : KW.Row, q.length = r.length → (∀ y ∈ q, y < m) → (sent B st q).length = r.length ∧ ∀ y ∈ sent B st q, y < m := fun st hs q hq hqm => ⟨by rw [sent_len, hq], sent_lt hok q st (.inr (steps_ok hs)) hqm⟩
    have good := over_good O ⟨rfl, hlt⟩ hsent
    refine ⟨_, pss_cons (ps_set (i := 2) scWays.nd rfl (.inl rfl) (pe_dict1 hr.units0 (pv 1) (pe_tup pa_nil)))
      (pss_cons (ps_set (i := 3) scWays.nd rfl (.inl rfl) (pe_lst (pa_cons (pv 1) pa_nil)))
      (pss_cons (ps_set (i := 4) scWays.nd rfl (.inl rfl) pe_int)
      (pss_cons (ps_while (passes_of rfl) (pt_cmpR op_lt (pv 4) (pe_callB call_lenS (by rfl) T.len PySem.boot_len (pa_cons (pv 3) pa_nil)) (nomark _))
        (pss_cons (ps_set (i := 5) scWays.nd rfl (.inl rfl) (pe_ix ix_list (pv 3) (pv 4) (fun _ _ => rfl)))
        (pss_cons (ps_for (passes_of rfl) rfl (pi_list (pe_meth0 (pv 0) BT.cl mS FS (hr.mono (by decide)) bS .nil passL)) (pg_name (i := 6) scWays.nd rfl (Or.inl rfl))
          (pss_cons (ps_set (i := 7) scWays.nd rfl (.inl rfl) (pe_gd GN (by exact hr) passL (pa_cons (pv 0) (pa_cons (pe_tup (pa_cons (pv 6) pa_nil)) (pa_cons (pv 5) pa_nil)))))
          (pss_one (ps_if (pt_cmp (pc_dnotin hu (pv 7) (pv 2)))
            (pss_cons (ps_dput hu (pv 2) (pv 7) (pe_op op_cat2 (pe_dget hu (pv 2) (pv 5) (fun _ _ => rfl)) (pe_tup (pa_cons (pv 6) pa_nil))) rfl)
            (pss_one (ps_expr (pe_bm PySem.F.plainAttrs_list PySem.F.slot_list_append PySem.F.type_list_append mt_append (pv 3) (pa_cons (pv 7) pa_nil))))) pss_nil))))
        (pss_one (ps_aug (i := 4) scWays.nd rfl (.inl rfl) pe_int ip_add)))))
      (pss_one (ps_ret (pv 2)))))), ?_⟩
    -- ways = {row: ()}; come = [row]; at = 0
    intro d hd
    refine ⟨_, rfl, Nat.zero_le _, fun e0 he0 => ?_⟩
    have hd0 : H d = none := hd
    have sd := same_new (o := .dT []) hd0
    have se := same_new (o := .tup []) he0
    have de : d ≠ e0 := ne_of_none upd_same he0
    have ad : a ≠ d := ne_of_none ha hd0
    refine ⟨a, rk r, rfl, by rw [rk_kV]; exact se _ _ (sd _ _ ha), se _ _ upd_same, ?_⟩
    refine ⟨_, rfl, by show 1 ≤ sizeLine; decide, fun c hc => ?_⟩
    have keep0 : ∀ c' o, H c' = some o → c' ≠ d := fun c' o e => ne_of_none e hd0
    have s0 : Same H (upd (upd (upd (upd H d (.dT [])) e0 (.tup [])) d (.dT [(rk r, .ref e0)])) c (.lst [.ref a])) := fun c' o e => by
      have n1 := keep0 c' o e
      have z1 := se _ _ (sd _ _ e)
      have n2 : c' ≠ c := ne_of_none (H := upd (upd (upd H d (.dT [])) e0 (.tup [])) d (.dT [(rk r, .ref e0)])) (o := o) (by rw [upd_ne n1]; exact z1) hc
      rw [upd_ne n2, upd_ne n1]
      exact z1
    have dc : d ≠ c := ne_of_none upd_same hc
    have e0c : e0 ≠ c := ne_of_none (H := upd (upd (upd H d (.dT [])) e0 (.tup [])) d (.dT [(rk r, .ref e0)])) (o := .tup []) (by rw [upd_ne de.symm, upd_same]) hc
    have F0 : G 0 = [(r, [])] := O.zero
    refine ⟨fun μ σ H1 => ∃ n, n ≤ N ∧ μ = N - n ∧ Same H H1 ∧ ∃ v5 v6 v7 : Option V, σ = [some (.ref b), some (.ref a), some (.ref d), some (.ref c), some (.int (n : Int)), v5, v6, v7] ∧ DW H1 d (G n) ∧ CW H1 c (G n), ⟨N, 0, Nat.zero_le _, rfl, s0, none, none, none, rfl, ?_, ?_⟩, ?_⟩
    · rw [F0]
      refine ⟨[(rk r, .ref e0)], by rw [upd_ne dc, upd_same], .cons ⟨rfl, e0, rfl, ?_⟩ .nil⟩
      rw [upd_ne e0c, upd_ne de.symm, upd_same]
      rfl
    · rw [F0]
      exact ⟨[a], upd_same, .cons (s0 _ _ ha) .nil⟩
    · rintro μ σ H1 ⟨n, hn, rfl, s1, v5, v6, v7, rfl, hD, hC⟩
      obtain ⟨cs, hc1, hcs⟩ := id hC
      have lenC : cs.length = (G n).length := Paired.length hcs
      refine ⟨_, rfl, _, rfl, c, _, rfl, .inl (SqL.of hc1), _, _, rfl, rfl, _, rfl, ?_⟩
      rw [List.length_map, lenC]
      by_cases cN : n < N
      · obtain ⟨p, hp, eG⟩ := O.one n cN
        have hlen : n < (G n).length := (List.getElem?_eq_some_iff.mp hp).1
        rw [decide_eq_true (show (n : Int) < ((G n).length : Int) by omega)]
        refine iteT ?_
        have g := good n (Nat.le_of_lt cN)
        have hpm := List.mem_of_getElem? hp
        obtain ⟨oa, eoa, hoa⟩ := paired_get hcs hp
        -- N' : behind the turn
        refine ⟨fun σ' H' => ∃ v5 v6 v7 : Option V, Same H H' ∧ σ' = [some (.ref b), some (.ref a), some (.ref d), some (.ref c), some (.int ((n + 1 : Nat) : Int)), v5, v6, v7] ∧ DW H' d (G (n + 1)) ∧ CW H' c (G (n + 1)), fun σ' H' hh => ?_, ?_⟩
        · obtain ⟨v5, v6, v7, t1, t2, t3, t4⟩ := hh
          exact ⟨N - (n + 1), by omega, n + 1, cN, rfl, t1, v5, v6, v7, t2, t3, t4⟩
        -- one = come[at]
        refine ⟨_, rfl, _, rfl, c, _, (n : Int), V.ref oa, rfl, rfl, SqL.of hc1, atI_nat (by rw [List.getElem?_map, eoa]; rfl), ?_⟩
        -- for step in book.steps()
        obtain ⟨dx, pl, ps, h1, h2, h3⟩ := hB.same s1
        refine ⟨_, rfl, b, dx, _, rfl, h1, bf_no m pl (by decide +kernel) (by decide +kernel), b, m, B, rfl, ⟨dx, pl, ps, h1, h2, h3⟩, b6, fun H2 ls s2 els => ?_⟩
        have s12 := s1.trans s2
        refine ⟨ls, rfl, ⟨_, SqL.of els⟩, for_list (K := K) (a := ls) (xs := wv (steps B.length)) (fun i σ H3 => Same H H3 ∧ H3 ls = some (.lst (wv (steps B.length))) ∧ H3 oa = some (.tup (rv p.1)) ∧ ∃ v6 v7 : Option V, σ = [some (.ref b), some (.ref a), some (.ref d), some (.ref c), some (.int (n : Int)), some (.ref oa), v6, v7] ∧
            DW H3 d (meets (sent B) p ((steps B.length).take i) (G n)) ∧ CW H3 c (meets (sent B) p ((steps B.length).take i) (G n)))
          ⟨s12, els, s2 _ _ hoa, v6, v7, rfl, hD.same s2, hC.same s2⟩ (fun i σ H3 _ h => SqL.of h.2.1) ?_ ?_⟩
        · rintro i y σ H3 hi ⟨s3, els3, hoa3, w6, w7, rfl, hD3, hC3⟩
          obtain ⟨st, hst, rfl⟩ : ∃ st, (steps B.length)[i]? = some st ∧ y = V.int st := by
            unfold wv at hi
            rw [List.getElem?_map] at hi
            cases e : (steps B.length)[i]? with
            | none => rw [e] at hi; cases hi
            | some z => rw [e] at hi; exact ⟨z, rfl, (Option.some.inj hi).symm⟩
          have hstm := List.mem_of_getElem? hst
          have so := steps_ok hstm
          have grow := g.row p hpm
          -- the list so far
          have gi : Good m r.length (n + 1) (meets (sent B) p ((steps B.length).take i) (G n)) := good_meets (g.mono (Nat.le_succ n)) (fun s hs => hsent s (List.mem_of_mem_take hs) p.1 grow.1 grow.2) (g.wd p hpm)
          have full : meets (sent B) p (steps B.length) (G n) = G (n + 1) := eG.symm
          have split_ : (steps B.length) = (steps B.length).take i ++ (steps B.length).drop i := (List.take_append_drop i _).symm
          have leN : (meets (sent B) p ((steps B.length).take i) (G n)).length ≤ N := by
            obtain ⟨t, et⟩ := meets_pre (sent B) p ((steps B.length).drop i) (meets (sent B) p ((steps B.length).take i) (G n))
            rw [← meets_app, ← split_, full] at et
            have h1 := congrArg List.length et
            rw [List.length_append] at h1
            have h2 := O.le (n + 1) cN
            omega
          have nxt : meets (sent B) p ((steps B.length).take (i + 1)) (G n) = meet (sent B) p.1 p.2 (meets (sent B) p ((steps B.length).take i) (G n)) st := by
            rw [take_snoc hst, meets_app]
            rfl
          -- other = send(book, (step,), one)
          have rowOne : RowAt H3 m oa p.1 := ⟨hoa3, by rw [grow.1]; exact hl, grow.2⟩
          refine ⟨_, rfl, _, rfl, by show 1 ≤ sizeLine; decide, fun q hq => ?_⟩
          have sq := same_new (o := .tup [V.int st]) hq
          refine ⟨_, rfl, b, oa, q, m, B, st, p.1, rfl, (hB.same s3).same sq, hok, so, upd_same, rowOne.same sq, fun H4 o s4 eo => ?_⟩
          have s34 := sq.trans s4
          have hD4 := hD3.same s34
          have hC4 := hC3.same s34
          obtain ⟨kvs, hd4, pk⟩ := id hD4
          obtain ⟨cs4, hc4, pc⟩ := id hC4
          have key : H4 o = some (.tup ((rk (sent B st p.1)).map kV)) := by rw [rk_kV]; exact eo
          refine ⟨_, rfl, _, rfl, d, _, rfl, DGet.t hd4 key, _, rfl, ?_⟩
          have els4 := s34 _ _ els3
          have hoa4 := s34 _ _ hoa3
          have s04 := s3.trans s34
          rcases dw_val pk (sent B st p.1) with ⟨no, vno⟩ | ⟨yes, wy, ay, _, vyes, _⟩
          · -- not there
            rw [vno]
            have inOne : look (meets (sent B) p ((steps B.length).take i) (G n)) p.1 = some p.2 := by
              obtain ⟨t, et⟩ := meets_pre (sent B) p ((steps B.length).take i) (G n)
              refine nodup_look gi.nd (i := n) ?_
              rw [et, List.getElem?_append_left hlen]
              exact hp
            have keyOne : H4 oa = some (.tup ((rk p.1).map kV)) := by rw [rk_kV]; exact hoa4
            rcases dw_val pk p.1 with ⟨noP, _⟩ | ⟨_, wp, ap, lp, vp, hap⟩
            · exfalso
              obtain ⟨t, et⟩ := meets_pre (sent B) p ((steps B.length).take i) (G n)
              refine noP ?_
              unfold keys
              rw [et, List.map_append]
              exact List.mem_append_left _ (List.mem_map.mpr ⟨p, hpm, rfl⟩)
            · have ewp : wp = p.2 := by
                rw [inOne] at lp
                exact (Option.some.inj lp).symm
              subst ewp
              refine iteT ⟨_, rfl, _, rfl, d, V.ref ap, rfl, vp ▸ DGet.t hd4 keyOne, _, rfl, by show 1 ≤ sizeLine; decide, fun q2 hq2 => ?_⟩
              have sq2 := same_new (o := .tup [V.int st]) hq2
              have wl := g.wd p hpm
              refine ⟨ap, q2, wv p.2, [V.int st], rfl, rfl, sq2 _ _ hap, upd_same, by rw [wv_len, sizeLine_eq]; show p.2.length + 1 ≤ _; omega, fun nw H5 s5 enw => ?_⟩
              have s45 := sq2.trans s5
              have hd5 := s45 _ _ hd4
              have key5 := s45 _ _ key
              have lk : kvs.length ≤ N := by rw [Paired.length pk]; exact leN
              refine ⟨_, rfl, _, rfl, d, _, rfl, DPut.t hd5 key5 (by rw [sizeLine_eq]; omega), ?_⟩
              rw [putK_new _ vno]
              have hc5 := s45 _ _ hc4
              have dcn : d ≠ c := dc
              refine ⟨_, rfl, .inl ⟨rfl, _, SqL.of (by rw [upd_ne dcn.symm]; exact hc5)⟩, _, rfl, c, _, _, rfl, rfl, by rw [upd_ne dcn.symm]; exact hc5, by rw [List.length_map, Paired.length pc, sizeLine_eq]; omega, ?_⟩
              -- what stands behind
              have fin : ∀ c' o', H5 c' = some o' → c' ≠ d → c' ≠ c → (upd (upd H5 d (.dT (kvs ++ [(rk (sent B st p.1), V.ref nw)]))) c (.lst (cs4.map V.ref ++ [V.ref o]))) c' = some o' := fun c' o' e n1 n2 => by
                rw [upd_ne n2, upd_ne n1]
                exact e
              have finT : ∀ c' ys, H5 c' = some (.tup ys) → (upd (upd H5 d (.dT (kvs ++ [(rk (sent B st p.1), V.ref nw)]))) c (.lst (cs4.map V.ref ++ [V.ref o]))) c' = some (.tup ys) := fun c' ys e => fin c' _ e (ne_of e hd5 (fun z => nomatch z)) (ne_of e hc5 (fun z => nomatch z))
              have em : meet (sent B) p.1 p.2 (meets (sent B) p ((steps B.length).take i) (G n)) st = meets (sent B) p ((steps B.length).take i) (G n) ++ [(sent B st p.1, p.2 ++ [st])] := if_neg no
              have dls : ls ≠ d := ne_of els4 hd4 (fun z => nomatch z)
              have hls0 : H1 ls = none ∨ True := .inr trivial
              refine ⟨fun c' o' e => ?_, ?_, finT _ _ (s45 _ _ hoa4), some (.int st), some (.ref o), rfl, ?_, ?_⟩
              · have n1 : c' ≠ d := keep0 c' o' e
                have n2 : c' ≠ c := fun z => by
                  subst z
                  have z1 := se _ _ (sd _ _ e)
                  have z2 : (upd (upd (upd H d (.dT [])) e0 (.tup [])) d (.dT [(rk r, .ref e0)])) c' = some o' := by rw [upd_ne n1]; exact z1
                  rw [hc] at z2
                  cases z2
                exact fin c' o' (s45 _ _ (s04 _ _ e)) n1 n2
              · have lsc : ls ≠ c := fun z => by
                  subst z
                  have := Option.some.inj (els4.symm.trans hc4)
                  have e2 : wv (steps B.length) = cs4.map V.ref := HO.lst.inj this
                  have e3 : (wv (steps B.length))[i]? = (cs4.map V.ref)[i]? := by rw [e2]
                  unfold wv at e3
                  rw [List.getElem?_map, hst, List.getElem?_map] at e3
                  cases q : cs4[i]? with
                  | none => rw [q] at e3; cases e3
                  | some z => rw [q] at e3; cases e3
                exact fin ls _ (s45 _ _ els4) dls lsc
              · rw [nxt, em]
                refine ⟨_, by rw [upd_ne dcn, upd_same], paired_app (Paired.mapP pk fun _ _ ⟨z1, a', z2, z3⟩ => ⟨z1, a', z2, finT _ _ (s45 _ _ z3)⟩) (.cons ⟨rfl, nw, rfl, ?_⟩ .nil)⟩
                have e1 : wv (p.2 ++ [st]) = wv p.2 ++ [V.int st] := by
                  unfold wv
                  rw [List.map_append]
                  rfl
                show _ = some (HO.tup (wv (p.2 ++ [st])))
                rw [e1]
                exact finT _ _ enw
              · rw [nxt, em]
                refine ⟨cs4 ++ [o], by rw [upd_same, List.map_append]; rfl, paired_app (Paired.mapP pc fun _ _ z => finT _ _ (s45 _ _ z)) (.cons ?_ .nil)⟩
                exact finT _ _ (s45 _ _ eo)
          · -- there
            rw [vyes]
            refine iteF ⟨s04, els4, hoa4, some (.int st), some (.ref o), rfl, ?_, ?_⟩
            · have em : meet (sent B) p.1 p.2 (meets (sent B) p ((steps B.length).take i) (G n)) st = meets (sent B) p ((steps B.length).take i) (G n) := if_pos yes
              rw [nxt, em]
              exact hD4
            · have em : meet (sent B) p.1 p.2 (meets (sent B) p ((steps B.length).take i) (G n)) st = meets (sent B) p ((steps B.length).take i) (G n) := if_pos yes
              rw [nxt, em]
              exact hC4
        · rintro σ H3 ⟨s3, els3, hoa3, w6, w7, rfl, hD3, hC3⟩
          rw [wv_len, List.take_length] at hD3 hC3
          have full : meets (sent B) p (steps B.length) (G n) = G (n + 1) := eG.symm
          rw [full] at hD3 hC3
          refine ⟨_, rfl, _, _, rfl, rfl, some (.ref oa), w6, w7, s3, rfl, hD3, hC3⟩
      · have eN : n = N := by omega
        subst eN
        rw [O.last, decide_eq_false (by omega)]
        exact iteF ⟨_, rfl, k H1 d s1 hD⟩
end
end LH
/-! parts, way. -/
namespace LH
open PySem PySem.Spec PyProof.Rows L2 KR KW
theorem small_pow {m n : Nat} (h : small m n = true) : m ^ n ≤ 81 := by
  unfold small at h
  simp only [Bool.or_eq_true, Bool.and_eq_true, beq_iff_eq, decide_eq_true_eq] at h
  rcases h with (⟨rfl, h⟩ | ⟨rfl, h⟩) | ⟨rfl, h⟩
  · exact Nat.le_trans (Nat.pow_le_pow_right (by omega) h) (by decide)
  · exact Nat.le_trans (Nat.pow_le_pow_right (by omega) h) (by decide)
  · exact Nat.le_trans (Nat.pow_le_pow_right (by omega) h) (by decide)
theorem paired_keys {H : Hp} {kvs : List (List Key × V)} {L : Lst} (p : Paired (fun (kv : List Key × V) (x : KW.Row × Wd) => kv.1 = rk x.1 ∧ ∃ a : Addr, kv.2 = V.ref a ∧ H a = some (.tup (wv x.2))) kvs L) (P : Program) (w : World) :
    (kvs.map fun kv => (tupleKind (mixKind P w)).hash kv.1) = (keys L).map hRow := by
  induction p with
  | nil => rfl
  | @cons kv x kvs L h t ih =>
    rw [List.map_cons, ih, h.1, hRow_eq]
    rfl
section
variable {P : Program} {w : World} {K : PySem.W.Frag} {mg : Str → Option Value} {base : Heap} {C CR CN CT : Addr}
/-! ### parts -/
def spParts (C CN CT : Addr) : Sp := fun vs H Q E => ∃ (b : Addr) (m : Nat) (B : Hds) (x : V), vs = [.ref b, x] ∧ BkAt C H b m B ∧ okB m B = true ∧
  ((∃ n, Th H x n ∧ between x 0 100 = false ∧ ∀ H', Same H H' → E (.ref CN) none H') ∨
  (∃ n : Nat, x = .int (n : Int) ∧ n ≤ 100 ∧ 81 < m ^ n ∧ ∀ H', Same H H' → E (.ref CT) none H') ∨
  (∃ (n : Nat) (F : Nat → Lst) (N : Nat), x = .int (n : Int) ∧ small m n = true ∧ Over (sent B) (steps B.length) (List.replicate n 0) F N ∧ N ≤ 100 ∧ (∀ r ∈ level m n, r ∈ keys (F N)) ∧
    ∀ H' l t a, Same H H' → H' l = some (.lst [.ref t]) → H' t = some (.tup [.ref a, .int (N : Int)]) → H' a = some (.tup (rv (List.replicate n 0))) → Q (.ref l) H'))
theorem scParts : FnScope ["book", "length", "found", "seen", "row", "ways"] ["book", "length"] (defScope sParts) := ⟨rfl, rfl, rfl, by decide +kernel, rfl, by decide +kernel, by decide +kernel⟩
theorem gd_parts (D : Dn K mg "parts" sParts) (T : Tops mg) (XN : ExT K mg "NoNumber" CN) (XT : ExT K mg "TooMany" CT) (GB : Gd P w K mg base 2 "is_between" ["thing", "least", "most"] spBetween) (GM : Gd P w K mg base 2 "rows_many" ["book", "length"] (spMany C))
    (GL : Gd P w K mg base 2 "rows_of_level" ["book", "length"] (spLevel C)) (GW : Gd P w K mg base 7 "ways_from" ["book", "row"] (spWays C)) : Gd P w K mg base 8 "parts" ["book", "length"] (spParts C CN CT) := by
  obtain ⟨f, fd, gm, F⟩ := D
  refine ⟨f, fd, gm, F.kp, F.binds fun _ _ _ _ _ _ us hl => match us, hl with | [_, _], _ => rfl, F.okX scParts (fun vs H Q E h => ?_) (fun cdv A outer s H vs Q E hr h => ?_)⟩
  · obtain ⟨b, m, B, x, rfl, _⟩ := h
    rfl
  · obtain ⟨b, m, B, x, rfl, hB, hok, hc⟩ := h
    obtain ⟨m2, m4, b6, _⟩ := okB_m hok
    have hu := hu_of hr
    obtain ⟨tl, gl⟩ := T.letters
    obtain ⟨tw, gw⟩ := T.web
    refine ⟨_, pss_cons (ps_if (pt_not (pt_val (pe_gd GB (hr.mono (by decide)) passL (pa_cons (pv 1) (pa_cons pe_int (pa_cons (pe_glob (v := .int 100) rfl gl ⟨_, rfl⟩) pa_nil))))))
        (pss_one (ps_raise rfl (takes_of rfl rfl rfl rfl) (pmk_own PySem.F.excBase_ValueError XN.ex XN.g XN.k (raises_own XN.b XN.t) rfl))) pss_nil)
      (pss_cons (ps_if (pt_cmpR op_gt (pe_gd GM (hr.mono (by decide)) passL (pa_cons (pv 0) (pa_cons (pv 1) pa_nil))) (pe_glob (v := .int 81) rfl gw ⟨_, rfl⟩) (nomark _))
        (pss_one (ps_raise rfl (takes_of rfl rfl rfl rfl) (pmk_own PySem.F.excBase_ValueError XT.ex XT.g XT.k (raises_own XT.b XT.t) rfl))) pss_nil)
      (pss_cons (ps_set (i := 2) scParts.nd rfl (.inl rfl) (pe_lst pa_nil))
      (pss_cons (ps_set (i := 3) scParts.nd rfl (.inl rfl) pe_dnewT)
      (pss_cons (ps_for (passes_of rfl) rfl (pi_list (pe_gd GL (hr.mono (by decide)) passL (pa_cons (pv 0) (pa_cons (pv 1) pa_nil)))) (pg_name (i := 4) scParts.nd rfl (Or.inl rfl))
        (pss_one (ps_if (pt_cmp (pc_dnotin hu (pv 4) (pv 3)))
          (pss_cons (ps_set (i := 5) scParts.nd rfl (.inl rfl) (pe_gd GW (by exact hr) passL (pa_cons (pv 0) (pa_cons (pv 4) pa_nil))))
          (pss_cons (ps_expr (pe_bm PySem.F.plainAttrs_list PySem.F.slot_list_append PySem.F.type_list_append mt_append (pv 2) (pa_cons (pe_tup (pa_cons (pv 4) (pa_cons (pe_callB call_len_dT (by rfl) T.len PySem.boot_len (pa_cons (pv 5) pa_nil)) pa_nil))) pa_nil)))
          (pss_one (ps_expr (pe_bm PySem.F.plainAttrs_dict PySem.F.slot_dict_update PySem.F.type_dict_update (mt_updT hu) (pv 3) (pa_cons (pv 5) pa_nil)))))) pss_nil)))
      (pss_one (ps_ret (pv 2))))))), ?_⟩
    rcases hc with ⟨n, ht, hb, k⟩ | ⟨n, rfl, hn, hp, k⟩ | ⟨n, G, N, rfl, hs, O, hN, hall, k⟩
    · refine ⟨_, rfl, x, n, 0, 100, rfl, ht, false, congrArg V.bl hb, iteT (k H (Same.refl H))⟩
    · have hb : between (.int (n : Int)) 0 100 = true := by
        show (decide ((0 : Int) ≤ (n : Int)) && decide ((n : Int) ≤ 100)) = true
        rw [decide_eq_true (by omega), decide_eq_true (by omega)]
        rfl
      refine ⟨_, rfl, _, "int", 0, 100, rfl, .int _, true, congrArg V.bl hb, iteF ?_⟩
      refine ⟨_, rfl, _, rfl, b, m, n, B, rfl, hB, hok, hn, _, _, rfl, rfl, _, rfl, ?_⟩
      rw [decide_eq_true (by omega)]
      exact iteT (k H (Same.refl H))
    · have h81 := small_pow hs
      obtain ⟨_, _, n6⟩ := small_m hs
      have hb : between (.int (n : Int)) 0 100 = true := by
        show (decide ((0 : Int) ≤ (n : Int)) && decide ((n : Int) ≤ 100)) = true
        rw [decide_eq_true (by omega), decide_eq_true (by omega)]
        rfl
      refine ⟨_, rfl, _, "int", 0, 100, rfl, .int _, true, congrArg V.bl hb, iteF ?_⟩
      refine ⟨_, rfl, _, rfl, b, m, n, B, rfl, hB, hok, by omega, _, _, rfl, rfl, _, rfl, ?_⟩
      rw [decide_eq_false (by omega)]
      refine iteF ⟨Nat.zero_le _, fun lf hlf => ?_⟩
      have s1 := same_new (o := .lst []) hlf
      intro d hd
      have s2 := same_new (o := .dT []) hd
      have fd_ : lf ≠ d := ne_of_none upd_same hd
      refine ⟨_, rfl, _, rfl, b, m, n, B, rfl, (hB.same s1).same s2, hok, by omega, h81, fun H3 ll as s3 ell hLev => ?_⟩
      have hlf3 := s3 _ _ (s2 _ _ (upd_same (H := H) (a := lf) (o := .lst [])))
      have hd3 := s3 _ _ (upd_same (H := upd H lf (.lst [])) (a := d) (o := .dT []))
      have s13 := (s1.trans s2).trans s3
      obtain ⟨rest, elev⟩ := level_head (m := m) (by omega) n
      -- the list of the rows is none of ours
      have as0 : as ≠ [] := fun z => by
        have := Paired.length hLev
        rw [z, elev] at this
        cases this
      have llf : ll ≠ lf := fun z => by
        rw [z, hlf3] at ell
        have := HO.lst.inj (Option.some.inj ell)
        exact as0 (List.map_eq_nil_iff.mp this.symm)
      have lld : ll ≠ d := ne_of ell hd3 (fun z => nomatch z)
      refine ⟨ll, rfl, ⟨_, SqL.of ell⟩, for_list (K := K) (a := ll) (xs := as.map V.ref) (fun i σ H4 => ∃ v4 v5 : Option V, σ = [some (.ref b), some (.int (n : Int)), some (.ref lf), some (.ref d), v4, v5] ∧ Same H H4 ∧ H4 ll = some (.lst (as.map V.ref)) ∧ LevAt H4 as (level m n) ∧
          ((i = 0 ∧ H4 lf = some (.lst []) ∧ H4 d = some (.dT [])) ∨ (0 < i ∧ DW H4 d (G N) ∧ ∃ t a, H4 lf = some (.lst [.ref t]) ∧ H4 t = some (.tup [.ref a, .int (N : Int)]) ∧ H4 a = some (.tup (rv (List.replicate n 0))))))
        ⟨none, none, rfl, s13, ell, hLev, .inl ⟨rfl, hlf3, hd3⟩⟩ (fun i σ H4 _ h => ?_) ?_ ?_⟩
      · obtain ⟨_, _, _, _, e, _⟩ := h
        exact SqL.of e
      · rintro i y σ H4 hi ⟨v4, v5, rfl, s4, ell4, hLev4, hc4⟩
        rw [List.getElem?_map] at hi
        cases ea : as[i]? with
        | none => rw [ea] at hi; cases hi
        | some ra =>
          rw [ea] at hi
          have hi := Option.some.inj hi
          subst hi
          obtain ⟨r, er, hra⟩ := paired_getL hLev4 ea
          have hmem := List.mem_of_getElem? er
          have key : H4 ra = some (.tup ((rk r).map kV)) := by rw [rk_kV]; exact hra
          rcases hc4 with ⟨rfl, hlf4, hd4⟩ | ⟨ipos, hD, t, a, q1, q2, q3⟩
          · -- the first row
            have er0 : r = List.replicate n 0 := by
              rw [elev] at er
              exact (Option.some.inj er).symm
            subst er0
            refine ⟨_, rfl, _, rfl, d, _, rfl, DGet.t hd4 key, _, rfl, iteT ?_⟩
            obtain ⟨rl, rm⟩ := level_mem m n _ hmem
            refine ⟨_, rfl, _, rfl, b, ra, m, B, _, G, N, rfl, hB.same s4, hok, ⟨hra, by rw [rl]; omega, rm⟩, O, hN, fun H5 w5 s5 hW => ?_⟩
            have hlf5 := s5 _ _ hlf4
            have hd5 := s5 _ _ hd4
            obtain ⟨kvs, ew, pw⟩ := id hW
            have lk : kvs.length = N := by rw [Paired.length pw, O.last]
            have wlf : w5 ≠ lf := ne_of ew hlf5 (fun z => nomatch z)
            refine ⟨_, rfl, .inl ⟨rfl, _, SqL.of hlf5⟩, _, rfl, _, rfl, w5, kvs, rfl, ew, by show 2 ≤ sizeLine; decide, fun t ht => ?_⟩
            have st := same_new (o := .tup [V.ref ra, V.int ((kvs.length : Nat) : Int)]) ht
            refine ⟨lf, _, _, rfl, rfl, st _ _ hlf5, by show 0 < sizeLine; decide, ?_⟩
            have tlf : t ≠ lf := fun z => by rw [z, hlf5] at ht; cases ht
            have td : t ≠ d := fun z => by rw [z, hd5] at ht; cases ht
            have dlf : d ≠ lf := fd_.symm
            have hd6 : (upd (upd H5 t (.tup [V.ref ra, V.int ((kvs.length : Nat) : Int)])) lf (.lst [V.ref t])) d = some (.dT []) := by rw [upd_ne dlf]; exact st _ _ hd5
            have ew6 : (upd (upd H5 t (.tup [V.ref ra, V.int ((kvs.length : Nat) : Int)])) lf (.lst [V.ref t])) w5 = some (.dT kvs) := by rw [upd_ne wlf]; exact st _ _ ew
            refine ⟨_, rfl, .inr (.inr (.inl ⟨rfl, .inr ⟨_, hd6⟩⟩)), _, rfl, ?_⟩
            -- seen is not ways: one is empty, the other holds the row itself
            have gd := over_good (m := m) (n := n) O ⟨rl, rm⟩ (fun st hs q hq hqm => ⟨by rw [sent_len, hq], sent_lt hok q st (.inr (steps_ok hs)) hqm⟩) N (Nat.le_refl N)
            have dw : d ≠ w5 := fun z => by
              rw [z, ew] at hd5
              have e := HO.dT.inj (Option.some.inj hd5)
              have := hall _ hmem
              rw [e] at pw
              have l0 := Paired.length pw
              have l1 : G N = [] := List.eq_nil_of_length_eq_zero l0.symm
              rw [l1] at this
              simp [keys] at this
            refine ⟨d, w5, kvs, rfl, rfl, hd6, ew6, dw, fun P w => ?_, ?_⟩
            · rw [paired_keys pw P w]
              refine hashes_apart hs gd.nd fun r hr => ?_
              unfold keys at hr
              obtain ⟨x, hx, rfl⟩ := List.mem_map.mp hr
              obtain ⟨a1, a2⟩ := gd.row x hx
              exact level_all m n x.1 a1 a2
            · have up : ∀ c o, H5 c = some o → c ≠ d → c ≠ lf → (upd (upd (upd H5 t (.tup [V.ref ra, V.int ((kvs.length : Nat) : Int)])) lf (.lst [V.ref t])) d (.dT kvs)) c = some o := fun c o e n1 n2 => by
                rw [upd_ne n1, upd_ne n2]
                exact st _ _ e
              have upT : ∀ c ys, H5 c = some (.tup ys) → (upd (upd (upd H5 t (.tup [V.ref ra, V.int ((kvs.length : Nat) : Int)])) lf (.lst [V.ref t])) d (.dT kvs)) c = some (.tup ys) := fun c ys e => up c _ e (ne_of e hd5 (fun z => nomatch z)) (ne_of e hlf5 (fun z => nomatch z))
              refine ⟨_, _, rfl, fun c o e => ?_, ?_, ?_, .inr ⟨by omega, ?_, t, ra, ?_, ?_, ?_⟩⟩
              · have n2 : c ≠ lf := ne_of_none e hlf
                have n1 : c ≠ d := ne_of_none (s1 _ _ e) hd
                exact up c o (s5 _ _ (s4 _ _ e)) n1 n2
              · exact up ll _ (s5 _ _ ell4) lld llf
              · exact hLev4.same fun c ys e => upT c ys (s5 _ _ e)
              · exact ⟨kvs, upd_same, Paired.mapP pw fun _ _ ⟨z1, a', z2, z3⟩ => ⟨z1, a', z2, upT _ _ z3⟩⟩
              · rw [upd_ne fd_, upd_same]
                rfl
              · rw [upd_ne td, upd_ne tlf, upd_same, lk]
              · exact upT _ _ (s5 _ _ hra)
          · -- a later one
            obtain ⟨kvs, ed, pk⟩ := id hD
            rcases dw_val pk r with ⟨no, _⟩ | ⟨_, wy, ay, _, vy, _⟩
            · exact absurd (hall r hmem) no
            · refine ⟨_, rfl, _, rfl, d, _, rfl, DGet.t ed key, _, rfl, ?_⟩
              rw [vy]
              exact iteF ⟨_, _, rfl, s4, ell4, hLev4, .inr ⟨by omega, hD, t, a, q1, q2, q3⟩⟩
      · rintro σ H4 ⟨v4, v5, rfl, s4, ell4, hLev4, hc4⟩
        rcases hc4 with ⟨e, _⟩ | ⟨_, hD, t, a, q1, q2, q3⟩
        · rw [List.length_map] at e
          exact absurd (List.eq_nil_of_length_eq_zero e) as0
        · exact ⟨_, rfl, k H4 lf t a s4 q1 q2 q3⟩
/-! ### way -/
def spWay (C CR CT : Addr) : Sp := fun vs H Q E => ∃ (b : Addr) (m : Nat) (B : Hds) (x y : V), vs = [.ref b, x, y] ∧ BkAt C H b m B ∧ okB m B = true ∧
  (((∃ r1 r2, RowQ H m x r1 ∧ RowQ H m y r2 ∧ (r1 = false ∨ r2 = false)) ∧ ∀ H', Same H H' → E (.ref CR) none H') ∨
  (∃ (a c : Addr) (r q : KW.Row), x = .ref a ∧ y = .ref c ∧ RowAt H m a r ∧ RowAt H m c q ∧
    ((r.length ≠ q.length ∧ ∀ H', Same H H' → E (.ref CR) none H') ∨
    (r.length = q.length ∧ 81 < m ^ r.length ∧ ∀ H', Same H H' → E (.ref CT) none H') ∨
    (r.length = q.length ∧ m ^ r.length ≤ 81 ∧ ∃ (F : Nat → Lst) (N : Nat) (w : Wd), Over (sent B) (steps B.length) r F N ∧ N ≤ 100 ∧ look (F N) q = some w ∧ ∀ H' p, Same H H' → H' p = some (.tup (wv w)) → Q (.ref p) H'))))
theorem scWay : FnScope ["book", "row", "other"] ["book", "row", "other"] (defScope sWay) := ⟨rfl, rfl, rfl, by decide +kernel, rfl, by decide +kernel, by decide +kernel⟩
theorem RowQ.tup {H : Hp} {m : Nat} {x : V} (q : RowQ H m x true) : ∃ a xs, x = .ref a ∧ H a = some (.tup xs) := by
  rcases q with ⟨_, _, _, z⟩ | ⟨a, xs, e, h, _⟩
  · cases z
  · exact ⟨a, xs, e, h⟩
theorem RowAt.q {H : Hp} {m : Nat} {a : Addr} {r : KW.Row} (x : RowAt H m a r) : RowQ H m (.ref a) true := RowQ.row x.1 x.2.1 x.2.2
theorem gd_way (D : Dn K mg "way" sWay) (T : Tops mg) (XR : ExT K mg "NoRow" CR) (XT : ExT K mg "TooMany" CT) (GS : Gd P w K mg base 5 "sure_row" ["book", "thing"] (spSureR C CR)) (GM : Gd P w K mg base 2 "rows_many" ["book", "length"] (spMany C))
    (GW : Gd P w K mg base 7 "ways_from" ["book", "row"] (spWays C)) : Gd P w K mg base 8 "way" ["book", "row", "other"] (spWay C CR CT) := by
  obtain ⟨f, fd, gm, F⟩ := D
  refine ⟨f, fd, gm, F.kp, F.binds fun _ _ _ _ _ _ us hl => match us, hl with | [_, _, _], _ => rfl, F.okX scWay (fun vs H Q E h => ?_) (fun cdv A outer s H vs Q E hr h => ?_)⟩
  · obtain ⟨b, m, B, x, y, rfl, _⟩ := h
    rfl
  · obtain ⟨b, m, B, x, y, rfl, hB, hok, hc⟩ := h
    obtain ⟨m2, m4, b6, _⟩ := okB_m hok
    have hu := hu_of hr
    obtain ⟨tw, gw⟩ := T.web
    refine ⟨_, pss_cons (ps_if (pt_cmpR op_ne (pe_callB call_lenS (by rfl) T.len PySem.boot_len (pa_cons (pe_gd GS (hr.mono (by decide)) (passes_call (takes_of rfl rfl rfl rfl) fun _ _ _ _ h => h) (pa_cons (pv 0) (pa_cons (pv 1) pa_nil))) pa_nil))
          (pe_callB call_lenS (by rfl) T.len PySem.boot_len (pa_cons (pe_gd GS (hr.mono (by decide)) (passes_call (takes_of rfl rfl rfl rfl) fun _ _ _ _ h => h) (pa_cons (pv 0) (pa_cons (pv 2) pa_nil))) pa_nil)) (nomark _))
        (pss_one (ps_raise rfl (takes_of rfl rfl rfl rfl) (pmk_own PySem.F.excBase_ValueError XR.ex XR.g XR.k (raises_own XR.b XR.t) rfl))) pss_nil)
      (pss_cons (ps_if (pt_cmpR op_gt (pe_gd GM (hr.mono (by decide)) passL (pa_cons (pv 0) (pa_cons (pe_callB call_lenS (by rfl) T.len PySem.boot_len (pa_cons (pv 1) pa_nil)) pa_nil))) (pe_glob (v := .int 81) rfl gw ⟨_, rfl⟩) (nomark _))
        (pss_one (ps_raise rfl (takes_of rfl rfl rfl rfl) (pmk_own PySem.F.excBase_ValueError XT.ex XT.g XT.k (raises_own XT.b XT.t) rfl))) pss_nil)
      (pss_one (ps_ret (pe_dget1 hu (pe_gd GW (by exact hr) passL (pa_cons (pv 0) (pa_cons (pv 1) pa_nil))) (pv 2) ⟨rfl, rfl, rfl, rfl⟩)))), ?_⟩
    rcases hc with ⟨⟨r1, r2, q1, q2, hne⟩, k⟩ | ⟨a, c, r, q, rfl, rfl, hr1, hr2, hc⟩
    · cases r1 with
      | false => exact ⟨_, rfl, _, rfl, b, m, B, x, false, rfl, hB, q1, (fun z => by cases z), fun _ H' s' => k H' s'⟩
      | true =>
        have e2 : r2 = false := by rcases hne with h | h; cases h; exact h
        subst e2
        obtain ⟨a, xs, rfl, ha⟩ := q1.tup
        refine ⟨_, rfl, _, rfl, b, m, B, _, true, rfl, hB, q1, fun _ H1 s1 => ?_, (fun z => by cases z)⟩
        exact ⟨a, xs, rfl, .inr (SqT.of (s1 _ _ ha)), _, rfl, _, rfl, b, m, B, y, false, rfl, hB.same s1, q2.same s1, (fun z => by cases z), fun _ H' s' => k H' (s1.trans s')⟩
    · refine ⟨_, rfl, _, rfl, b, m, B, _, true, rfl, hB, hr1.q, fun _ H1 s1 => ?_, (fun z => by cases z)⟩
      refine ⟨a, _, rfl, .inr (SqT.of (s1 _ _ hr1.1)), _, rfl, _, rfl, b, m, B, _, true, rfl, hB.same s1, (hr2.same s1).q, fun _ H2 s2 => ?_, (fun z => by cases z)⟩
      have s12 := s1.trans s2
      refine ⟨c, _, rfl, .inr (SqT.of (s12 _ _ hr2.1)), rfl, _, rfl, ?_⟩
      rw [rv_len, rv_len]
      rcases hc with ⟨hl, k⟩ | ⟨hl, hp, k⟩ | ⟨hl, hp, G, N, w, O, hN, hlook, k⟩
      · have e : (!decide (V.int (r.length : Int) = V.int (q.length : Int))) = true := by
          rw [decide_eq_false (fun z => hl (by have := V.int.inj z; omega))]
          rfl
        rw [e]
        exact iteT (k H2 s12)
      · rw [hl]
        refine iteNS rfl ?_
        refine ⟨_, rfl, _, rfl, a, _, rfl, .inr (SqT.of (s12 _ _ hr1.1)), b, m, r.length, B, by rw [rv_len]; rfl, hB.same s12, hok, hr1.2.1, _, _, rfl, rfl, _, rfl, ?_⟩
        rw [decide_eq_true (by omega)]
        exact iteT (k H2 s12)
      · rw [hl]
        refine iteNS rfl ?_
        refine ⟨_, rfl, _, rfl, a, _, rfl, .inr (SqT.of (s12 _ _ hr1.1)), b, m, r.length, B, by rw [rv_len]; rfl, hB.same s12, hok, hr1.2.1, _, _, rfl, rfl, _, rfl, ?_⟩
        rw [decide_eq_false (by omega)]
        refine iteF ⟨_, rfl, _, rfl, b, a, m, B, r, G, N, rfl, hB.same s12, hok, hr1.same s12, O, hN, fun H3 d s3 hD => ?_⟩
        obtain ⟨kvs, ed, pk⟩ := id hD
        have h3 := s3 _ _ (s12 _ _ hr2.1)
        have key : H3 c = some (.tup ((rk q).map kV)) := by rw [rk_kV]; exact h3
        rcases dw_val pk q with ⟨no, _⟩ | ⟨_, w2, p, l2, v2, hp2⟩
        · exfalso
          have : q ∈ keys (G N) := by
            unfold look at hlook
            cases e : (G N).find? (fun x => decide (x.1 = q)) with
            | none => rw [e] at hlook; cases hlook
            | some z =>
              have e1 := List.mem_of_find?_eq_some e
              have e2 := List.find?_some e
              have e3 : z.1 = q := of_decide_eq_true e2
              unfold keys
              exact List.mem_map.mpr ⟨z, e1, e3⟩
          exact no this
        · have ew : w2 = w := by
            rw [l2] at hlook
            exact Option.some.inj hlook
          subst ew
          refine ⟨d, rfl, .inr ⟨_, .inl ed⟩, _, rfl, _, DGet.t ed key, ?_⟩
          rw [v2]
          exact k H3 p (s12.trans s3) hp2
end
end LH
/-! The law's small helpers: state, next, row_of, way, wrong_rows. -/
namespace LH
open PySem PySem.Spec PyProof.Rows L2 KR KW
section
variable {P : Program} {w : World} {K : PySem.W.Frag} {mg : Str → Option Value} {base : Heap}
/-! ### _law_state -/
def spState (K : PySem.W.Frag) : Sp := fun vs H Q _ => ∃ (a : Addr) (ns : List Int), vs = [.ref a, .int 0] ∧ SqL K H a (ns.map V.int) ∧ ∀ H' l z, Same H H' → H' l = some (.lst [.int z]) → Q (.ref l) H'
theorem scState : FnScope ["_law_script", "_law_k", "_law_cell", "_law_state_here", "_law_prime", "_law_mark"] ["_law_script", "_law_k"] (defScope sState) := ⟨rfl, rfl, rfl, by decide +kernel, rfl, by decide +kernel, by decide +kernel⟩
theorem ite_both {b : Bool} {p q : Prop} (h1 : b = true → p) (h2 : b = false → q) : if b = true then p else q := by
  cases b
  · exact h2 rfl
  · exact h1 rfl
def primes : List Int := [2147483629, 2147483587, 2147483579, 2147483563, 2147483549, 2147483543, 2147483497, 2147483489, 2147483477, 2147483423, 2147483399, 2147483353]
theorem primes_ok : ∀ p ∈ primes, (0 : Int) < p ∧ p < 2147483648 := by decide +kernel
theorem gd_state (D : Dn K mg "_law_state" sState) (T : Tops mg) : Gd P w K mg base 1 "_law_state" ["_law_script", "_law_k"] (spState K) := by
  obtain ⟨f, fd, gm, F⟩ := D
  refine ⟨f, fd, gm, F.kp, F.binds fun _ _ _ _ _ _ us hl => match us, hl with | [_, _], _ => rfl, F.okX scState (fun vs H Q E h => ?_) (fun cdv A outer s H vs Q E hr h => ?_)⟩
  · obtain ⟨a, ns, rfl, _⟩ := h
    rfl
  · obtain ⟨a, ns, rfl, ha, k⟩ := h
    refine ⟨_, pss_cons (ps_set (i := 2) scState.nd rfl (.inl rfl) pe_int)
      (pss_cons (ps_if (pt_cmpR op_gt (pe_callB call_lenS (by rfl) T.len PySem.boot_len (pa_cons (pv 0) pa_nil)) pe_int (nomark _))
        (pss_one (ps_set (i := 2) scState.nd rfl (.inl rfl) (pe_callB call_abs (by rfl) T.abs (by decide +kernel) (pa_cons (pe_ix ix_list (pv 0) (pe_op op_mod (pv 1) (pe_callB call_lenS (by rfl) T.len PySem.boot_len (pa_cons (pv 0) pa_nil))) (fun _ _ => rfl)) pa_nil)))) pss_nil)
      (pss_cons (ps_if (pt_cmpR op_ge (pv 2) (pe_op op_pow pe_int pe_int) (nomark _))
        (pss_one (ps_ret (pe_lst (pa_cons (pe_op op_sub (pv 2) (pe_op op_pow pe_int pe_int)) pa_nil)))) pss_nil)
      (pss_cons (ps_set (i := 3) scState.nd rfl (.inl rfl) pe_int)
      (pss_cons (ps_for (passes_of rfl) rfl (pi_tup (pe_tup (pa_cons pe_int (pa_cons pe_int (pa_cons pe_int (pa_cons pe_int (pa_cons pe_int (pa_cons pe_int (pa_cons pe_int (pa_cons pe_int (pa_cons pe_int (pa_cons pe_int (pa_cons pe_int (pa_cons pe_int pa_nil)))))))))))))) (pg_name (i := 4) scState.nd rfl (Or.inl rfl))
        (pss_cons (ps_set (i := 5) scState.nd rfl (.inl rfl) (pe_op op_mod (pe_op op_mul (pe_op op_add (pe_op op_mod (pv 2) (pv 4)) (pe_op op_mul pe_int (pe_op op_add (pv 1) pe_int))) pe_int) (pv 4)))
        (pss_cons (ps_set (i := 5) scState.nd rfl (.inl rfl) (pe_op op_mod (pe_op op_add (pe_op op_mul (pv 5) (pv 5)) pe_int) (pv 4)))
        (pss_one (ps_set (i := 3) scState.nd rfl (.inl rfl) (pe_op op_add (pe_op op_mul (pv 3) pe_int) (pe_op op_mod (pe_op op_mul (pv 5) (pv 5)) (pv 4))))))))
      (pss_one (ps_ret (pe_lst (pa_cons (pv 3) pa_nil)))))))), ?_⟩
    have pw : CPow 10 18 := ⟨by decide, by decide, by decide⟩
    refine ⟨_, rfl, a, _, rfl, .inl ha, _, _, rfl, rfl, _, rfl, ?_⟩
    rw [List.length_map]
    rcases ns with _ | ⟨n0, ns⟩
    all_goals first
      | refine iteF ?_
      | (rw [decide_eq_true (show (0 : Int) < ((n0 :: ns).length : Int) by rw [List.length_cons]; omega)]
         refine iteT ⟨_, rfl, _, rfl, _, rfl, a, _, rfl, .inl ha, _, _, rfl, rfl, by rw [List.length_map, List.length_cons]; omega, a, _, _, V.int n0, rfl, rfl, ha, by rw [Int.zero_emod]; exact atI_nat (j := 0) rfl, _, rfl, ?_⟩)
    all_goals refine ⟨_, rfl, _, _, rfl, rfl, pw, _, _, rfl, rfl, _, rfl, ite_both (fun _ => ?_) (fun _ => ?_)⟩
    all_goals first
      | exact ⟨_, rfl, _, _, rfl, rfl, pw, _, _, rfl, rfl, by show 1 ≤ sizeLine; decide, fun l hl => k _ l _ (same_new hl) upd_same⟩
      | skip
    all_goals
      refine ⟨by show 12 ≤ sizeLine; decide, fun t ht => ?_⟩
      have st := same_new (o := .tup (primes.map V.int)) ht
      refine ⟨t, rfl, ⟨_, SqT.of upd_same⟩, for_tup (K := K) (a := t) (xs := primes.map V.int) (fun i σ H1 => H1 = upd H t (.tup (primes.map V.int)) ∧ ∃ (c z : Int) (v4 v5 : Option V), σ = [some (.ref a), some (.int 0), some (.int c), some (.int z), v4, v5])
        ⟨rfl, _, _, _, _, rfl⟩ (fun i σ H1 _ h => h.1 ▸ SqT.of upd_same) ?_ ?_⟩
      · rintro i y σ H1 hi ⟨rfl, c, z, v4, v5, rfl⟩
        rw [List.getElem?_map] at hi
        cases ep : primes[i]? with
        | none => rw [ep] at hi; cases hi
        | some p =>
          rw [ep] at hi
          have hi := Option.some.inj hi
          subst hi
          obtain ⟨p0, p1⟩ := primes_ok p (List.mem_of_getElem? ep)
          have bnd : ∀ x : Int, 0 ≤ x % p ∧ x % p < p := fun x => ⟨Int.emod_nonneg x (by omega), Int.emod_lt_of_pos x p0⟩
          have sm : ∀ x : Int, CMul (x % p) (x % p) := fun x => .inl ⟨by have := (bnd x).1; omega, by have := (bnd x).2; omega⟩
          have rt : ∀ x y : Int, -(2 ^ 64) < y → y < 2 ^ 64 → CMul x y := fun x y h1 h2 => .inr ⟨h1, h2⟩
          refine ⟨_, rfl, _, rfl, _, _, rfl, rfl, p0, _, rfl, _, _, rfl, rfl, _, _, rfl, rfl, .inl ⟨by decide, by decide⟩, _, _, rfl, rfl, _, _, rfl, rfl, .inr ⟨by decide, by decide⟩, _, rfl, _, _, rfl, rfl, p0, ?_⟩
          refine ⟨_, rfl, _, rfl, _, _, rfl, rfl, sm _, _, _, rfl, rfl, _, rfl, _, _, rfl, rfl, p0, ?_⟩
          refine ⟨_, rfl, _, _, rfl, rfl, .inr ⟨by decide, by decide⟩, _, rfl, _, rfl, _, _, rfl, rfl, sm _, _, rfl, _, _, rfl, rfl, p0, _, _, rfl, rfl, ?_⟩
          exact ⟨rfl, _, _, _, _, rfl⟩
      · rintro σ H1 ⟨rfl, c, z, v4, v5, rfl⟩
        exact ⟨_, rfl, by show 1 ≤ sizeLine; decide, fun l hl => k _ l _ (st.trans (same_new hl)) upd_same⟩
/-! ### _law_next -/
def spNext : Sp := fun vs H Q _ => ∃ (l : Addr) (z : Int) (most : Nat), vs = [.ref l, .int (most : Int)] ∧ H l = some (.lst [.int z]) ∧ 0 < most ∧ most ≤ 4096 ∧ ∀ (r : Nat) (z' : Int), r < most → Q (.int (r : Int)) (upd H l (.lst [.int z']))
theorem scNext : FnScope ["_law_state_here", "_law_most", "_law_found"] ["_law_state_here", "_law_most"] (defScope sNext) := ⟨rfl, rfl, rfl, by decide +kernel, rfl, by decide +kernel, by decide +kernel⟩
theorem gd_next (D : Dn K mg "_law_next" sNext) : Gd P w K mg base 1 "_law_next" ["_law_state_here", "_law_most"] spNext := by
  obtain ⟨f, fd, gm, F⟩ := D
  refine ⟨f, fd, gm, F.kp, F.binds fun _ _ _ _ _ _ us hl => match us, hl with | [_, _], _ => rfl, F.okX scNext (fun vs H Q E h => ?_) (fun cdv A outer s H vs Q E hr h => ?_)⟩
  · obtain ⟨l, z, most, rfl, _⟩ := h
    rfl
  · obtain ⟨l, z, most, rfl, hl, m0, m1, k⟩ := h
    refine ⟨_, pss_cons (ps_set (i := 2) scNext.nd rfl (.inl rfl) (pe_op op_mod (pe_ix ix_list (pv 0) pe_int (fun _ _ => rfl)) (pv 1)))
      (pss_cons (ps_augS (pv 0) pe_int get_list (pv 1) (ip_of iop_fdivW) set_list)
      (pss_one (ps_ret (pv 2)))), ?_⟩
    refine ⟨_, rfl, l, _, _, V.int z, rfl, rfl, SqL.of hl, atI_nat (j := 0) rfl, _, rfl, _, _, rfl, rfl, by omega, ?_⟩
    refine ⟨_, rfl, l, _, 0, _, rfl, rfl, SqL.of hl, rfl, _, rfl, _, _, rfl, rfl, wide_div (b := 13) (by omega) (by omega) (by decide) (by decide), ?_⟩
    refine ⟨l, _, 0, 0, rfl, rfl, hl, rfl, ?_⟩
    have e : z % (most : Int) = ((z % (most : Int)).toNat : Int) := (Int.toNat_of_nonneg (Int.emod_nonneg z (by omega))).symm
    have b := Int.emod_lt_of_pos z (show (0 : Int) < (most : Int) by omega)
    have q := k (z % (most : Int)).toNat (z / (most : Int)) (by omega)
    rw [← e] at q
    exact ⟨_, rfl, q⟩
/-! ### _law_row_of -/
def spRowOf : Sp := fun vs H Q _ => ∃ (m n k : Nat), vs = [.int (m : Int), .int (n : Int), .int (k : Int)] ∧ 2 ≤ m ∧ m ≤ 4 ∧ n ≤ 100 ∧ ∀ H' p, Same H H' → H' p = some (.tup (rv (rowOf m n k))) → Q (.ref p) H'
theorem scRowOf : FnScope ["_law_many", "_law_length", "_law_number", "_law_row", "_law_place"] ["_law_many", "_law_length", "_law_number"] (defScope sRowOf) := ⟨rfl, rfl, rfl, by decide +kernel, rfl, by decide +kernel, by decide +kernel⟩
theorem gd_rowOf (D : Dn K mg "_law_row_of" sRowOf) (T : Tops mg) : Gd P w K mg base 1 "_law_row_of" ["_law_many", "_law_length", "_law_number"] spRowOf := by
  obtain ⟨f, fd, gm, F⟩ := D
  refine ⟨f, fd, gm, F.kp, F.binds fun _ _ _ _ _ _ us hl => match us, hl with | [_, _, _], _ => rfl, F.okX scRowOf (fun vs H Q E h => ?_) (fun cdv A outer s H vs Q E hr h => ?_)⟩
  · obtain ⟨m, n, k, rfl, _⟩ := h
    rfl
  · obtain ⟨m, n, k0, rfl, m2, m4, n1, k⟩ := h
    refine ⟨_, pss_cons (ps_set (i := 3) scRowOf.nd rfl (.inl rfl) (pe_lst pa_nil))
      (pss_cons (ps_for (passes_of rfl) rfl (pi_range1 rfl T.range (pa_cons (pv 1) pa_nil)) (pg_name (i := 4) scRowOf.nd rfl (Or.inl rfl))
        (pss_cons (ps_expr (pe_bm PySem.F.plainAttrs_list PySem.F.slot_list_append PySem.F.type_list_append mt_append (pv 3) (pa_cons (pe_op op_mod (pv 2) (pv 0)) pa_nil)))
        (pss_one (ps_aug (i := 2) scRowOf.nd rfl (.inl rfl) (pv 0) (ip_of iop_fdiv)))))
      (pss_one (ps_ret (pe_tupleOf rfl T.tuple (pv 3))))), ?_⟩
    refine ⟨Nat.zero_le _, fun l hl => ?_⟩
    have s0 := same_new (o := .lst []) hl
    refine ⟨_, rfl, (n : Int), rfl, by omega, by omega, ?_⟩
    rw [Int.toNat_natCast]
    refine for_range (lo := 0) (n := n) (fun i σ H1 => Same H H1 ∧ ∃ (j : Nat) (v4 : Option V) (done : KW.Row), σ = [some (.int (m : Int)), some (.int (n : Int)), some (.int (j : Int)), some (.ref l), v4] ∧ H1 l = some (.lst (rv done)) ∧ done.length = i ∧ i ≤ n ∧ done ++ rowOf m (n - i) j = rowOf m n k0)
      ⟨s0, k0, none, [], rfl, upd_same, rfl, Nat.zero_le _, rfl⟩ ?_ ?_
    · rintro i σ H1 hi ⟨s1, j, v4, done, rfl, e1, dl, _, de⟩
      refine ⟨_, rfl, .inl ⟨rfl, _, SqL.of e1⟩, _, rfl, _, rfl, _, _, rfl, rfl, by omega, l, _, _, rfl, rfl, e1, by rw [rv_len, dl, sizeLine_eq]; omega, ?_⟩
      refine ⟨_, rfl, _, rfl, _, _, rfl, rfl, ⟨by omega, by omega⟩, ?_⟩
      have e : rowOf m (n - i) j = (j % m) :: rowOf m (n - (i + 1)) (j / m) := by
        rw [show n - i = (n - (i + 1)) + 1 by omega]
        rfl
      refine ⟨fun c o h => ?_, j / m, some (.int (0 + (i : Int))), done ++ [j % m], ?_, ?_, by rw [List.length_append, dl]; rfl, hi, ?_⟩
      · rw [upd_ne (ne_of_none h hl)]
        exact s1 _ _ h
      · rw [Int.natCast_ediv]
        rfl
      · rw [upd_same, rv_append]
        rfl
      · rw [← de, e, List.append_assoc]
        rfl
    · rintro σ H1 ⟨s1, j, v4, done, rfl, e1, dl, _, de⟩
      rw [Nat.sub_self] at de
      have e : done = rowOf m n k0 := by
        rw [← de]
        show done = done ++ []
        rw [List.append_nil]
      refine ⟨_, rfl, .inl ⟨l, _, rfl, SqL.of e1, fun q hq => ?_⟩⟩
      rw [e]
      exact k _ q (s1.trans (same_new hq)) upd_same
/-! ### _law_way -/
def dueWd (N a o st : Nat) : Wd := if (o + N - a) % N ≤ N - (o + N - a) % N then List.replicate ((o + N - a) % N) (st : Int) else List.replicate (N - (o + N - a) % N) (-(st : Int))
def spLawWay : Sp := fun vs H Q _ => ∃ (a o N st : Nat), vs = [.int (a : Int), .int (o : Int), .int (N : Int), .int (st : Int)] ∧ a < N ∧ o < N ∧ N ≤ 100 ∧ ∀ H' p, Same H H' → H' p = some (.tup (wv (dueWd N a o st))) → Q (.ref p) H'
theorem scLawWay : FnScope ["_law_one", "_law_other", "_law_size", "_law_step", "_law_ahead"] ["_law_one", "_law_other", "_law_size", "_law_step"] (defScope sLawWay) := ⟨rfl, rfl, rfl, by decide +kernel, rfl, by decide +kernel, by decide +kernel⟩
theorem flat_one {α : Type} (x : α) : ∀ n, (List.replicate n [x]).flatten = List.replicate n x
  | 0 => rfl
  | n + 1 => by
    rw [List.replicate_succ, List.flatten_cons, flat_one x n]
    rfl
theorem wv_rep (n : Nat) (x : Int) : wv (List.replicate n x) = List.replicate n (V.int x) := by
  unfold wv
  rw [List.map_replicate]
theorem gd_lawWay (D : Dn K mg "_law_way" sLawWay) : Gd P w K mg base 1 "_law_way" ["_law_one", "_law_other", "_law_size", "_law_step"] spLawWay := by
  obtain ⟨f, fd, gm, F⟩ := D
  refine ⟨f, fd, gm, F.kp, F.binds fun _ _ _ _ _ _ us hl => match us, hl with | [_, _, _, _], _ => rfl, F.okX scLawWay (fun vs H Q E h => ?_) (fun cdv A outer s H vs Q E hr h => ?_)⟩
  · obtain ⟨a, o, N, st, rfl, _⟩ := h
    rfl
  · obtain ⟨a, o, N, st, rfl, ha, ho, hN, k⟩ := h
    refine ⟨_, pss_cons (ps_set (i := 4) scLawWay.nd rfl (.inl rfl) (pe_op op_mod (pe_op op_sub (pv 1) (pv 0)) (pv 2)))
      (pss_cons (ps_if (pt_cmpR op_le (pv 4) (pe_op op_sub (pv 2) (pv 4)) (nomark _)) (pss_one (ps_ret (pe_op op_mulT (pe_tup (pa_cons (pv 3) pa_nil)) (pv 4)))) pss_nil)
      (pss_one (ps_ret (pe_op op_mulT (pe_tup (pa_cons (pe_un un_neg (pv 3)) pa_nil)) (pe_op op_sub (pv 2) (pv 4)))))), ?_⟩
    have hq := Nat.mod_lt (o + N - a) (show 0 < N by omega)
    have e : ((o : Int) - (a : Int)) % (N : Int) = (((o + N - a) % N : Nat) : Int) := by
      rw [Int.natCast_emod]
      have : (((o + N - a : Nat)) : Int) = ((o : Int) - (a : Int)) + (N : Int) := by omega
      rw [this, Int.add_emod_right]
    unfold dueWd at k
    generalize (o + N - a) % N = q at *
    refine ⟨_, rfl, _, rfl, _, _, rfl, rfl, _, rfl, _, _, rfl, rfl, by omega, ?_⟩
    refine ⟨_, rfl, _, rfl, _, rfl, _, _, rfl, rfl, _, _, rfl, rfl, _, rfl, ?_⟩
    rw [e]
    have ec : decide ((q : Int) ≤ (N : Int) - (q : Int)) = decide (q ≤ N - q) := decide_eq_decide.mpr (by omega)
    rw [ec]
    by_cases c : q ≤ N - q
    · rw [if_pos c] at k
      rw [decide_eq_true c]
      refine iteT ⟨_, rfl, by show 1 ≤ sizeLine; decide, fun t ht => ⟨_, rfl, t, q, _, rfl, congrArg V.int e, upd_same, by simp, by omega, by show 1 ≤ 1000; decide, fun p H' s' e' => ?_⟩⟩
      rw [flat_one] at e'
      exact k H' p ((same_new ht).trans s') (by rw [wv_rep]; exact e')
    · rw [if_neg c] at k
      rw [decide_eq_false c]
      refine iteF ⟨_, rfl, _, rfl, by show 1 ≤ sizeLine; decide, fun t ht => ⟨_, rfl, _, rfl, _, _, rfl, rfl, t, N - q, _, rfl, ?_, upd_same, by simp, by omega, by show 1 ≤ 1000; decide, fun p H' s' e' => ?_⟩⟩
      · exact congrArg V.int (by rw [e]; omega)
      · rw [flat_one] at e'
        exact k H' p ((same_new ht).trans s') (by rw [wv_rep]; exact e')
end
end LH
/-! The law's wrong rows. -/
namespace LH
open PySem PySem.Spec PyProof.Rows L2 KR KW
theorem RowQ.not {H : Hp} {m : Nat} {x : V} {n : String} (t : Th H x n) (h : n ≠ "tuple") : RowQ H m x false := .inl ⟨n, t, h, rfl⟩
theorem RowQ.bad {H : Hp} {m : Nat} {a : Addr} {xs : List V} {y : V} (h : H a = some (.tup xs)) (hl : xs.length ≤ 100) (ht : ∀ y ∈ xs, ∃ n, Th H y n) (hy : y ∈ xs) (hb : between y 0 ((m : Int) - 1) = false) : RowQ H m (.ref a) false := by
  refine .inr ⟨a, xs, rfl, h, .inr ⟨hl, ht, ?_⟩⟩
  symm
  rw [List.all_eq_false]
  exact ⟨y, hy, by rw [hb]; decide⟩
theorem RowQ.long {H : Hp} {m : Nat} {a : Addr} {xs : List V} (h : H a = some (.tup xs)) (hl : 100 < xs.length) : RowQ H m (.ref a) false := .inr ⟨a, xs, rfl, h, .inl ⟨hl, rfl⟩⟩
theorem th_ints {H : Hp} {ns : List Int} : ∀ y ∈ ns.map V.int, ∃ n, Th H y n := fun y hy => by
  obtain ⟨x, _, rfl⟩ := List.mem_map.mp hy
  exact ⟨_, .int x⟩
section
variable {P : Program} {w : World} {K : PySem.W.Frag} {mg : Str → Option Value} {base : Heap}
def spWrong : Sp := fun vs H Q _ => ∃ (m n : Nat), vs = [.int (m : Int), .int (n : Int)] ∧ 2 ≤ m ∧ m ≤ 4 ∧ n ≤ 50 ∧ ∀ H' l xs, Same H H' → H' l = some (.lst xs) → (∀ x ∈ xs, RowQ H' m x false) → Q (.ref l) H'
theorem scWrong : FnScope ["_law_many", "_law_length"] ["_law_many", "_law_length"] (defScope sWrong) := ⟨rfl, rfl, rfl, by decide +kernel, rfl, by decide +kernel, by decide +kernel⟩
theorem gd_wrong (D : Dn K mg "_law_wrong_rows" sWrong) : Gd P w K mg base 1 "_law_wrong_rows" ["_law_many", "_law_length"] spWrong := by
  obtain ⟨f, fd, gm, F⟩ := D
  refine ⟨f, fd, gm, F.kp, F.binds fun _ _ _ _ _ _ us hl => match us, hl with | [_, _], _ => rfl, F.okX scWrong (fun vs H Q E h => ?_) (fun cdv A outer s H vs Q E hr h => ?_)⟩
  · obtain ⟨m, n, rfl, _⟩ := h
    rfl
  · obtain ⟨m, n, rfl, m2, m4, n1, k⟩ := h
    refine ⟨_, pss_one (ps_ret (pe_lst (pa_cons pe_non (pa_cons pe_int (pa_cons (pe_op op_rep (pe_lst (pa_cons pe_int pa_nil)) (pv 1)) (pa_cons (pe_op op_mulS pe_str (pv 1))
      (pa_cons (pe_op op_mulT (pe_tup (pa_cons (pv 0) pa_nil)) (pe_op op_add (pv 1) pe_int)) (pa_cons (pe_op op_cat2 (pe_op op_mulT (pe_tup (pa_cons pe_int pa_nil)) (pv 1)) (pe_tup (pa_cons (pe_un un_neg pe_int) pa_nil)))
      (pa_cons (pe_op op_mulT (pe_tup (pa_cons pe_int pa_nil)) pe_int) (pa_cons (pe_tup (pa_cons pe_bl pa_nil)) (pa_cons (pe_tup (pa_cons (pe_tup (pa_cons pe_int pa_nil)) pa_nil)) (pa_cons (pe_tup (pa_cons pe_int (pa_cons pe_non pa_nil)))
      (pa_cons (pe_tup (pa_cons pe_int (pa_cons (pv 0) pa_nil))) pa_nil))))))))))))), ?_⟩
    have one : 1 ≤ sizeLine := by decide
    have two : 2 ≤ sizeLine := by decide
    -- [0] * n
    refine ⟨one, fun l1 h1 => ⟨_, rfl, l1, (n : Int), _, rfl, rfl, upd_same, by omega, by omega, ?_, fun p1 f1 => ?_⟩⟩
    · rw [sizeLine_eq, Int.toNat_natCast]
      show 1 * n ≤ _
      omega
    have s1 := (same_new (o := .lst [.int 0]) h1).trans (same_new (o := .lst (List.replicate ((n : Int)).toNat [V.int 0]).flatten) f1)
    have e1 := upd_same (H := upd H l1 (.lst [V.int 0])) (a := p1) (o := .lst (List.replicate ((n : Int)).toNat [V.int 0]).flatten)
    generalize upd (upd H l1 (.lst [V.int 0])) p1 (.lst (List.replicate ((n : Int)).toNat [V.int 0]).flatten) = H1 at s1 e1 ⊢
    -- "0" * n
    refine ⟨_, rfl, _, n, rfl, rfl, by omega, by decide, fun z' => ?_⟩
    -- (m,) * (n + 1)
    refine ⟨_, rfl, one, fun t2 h2 => ⟨_, rfl, _, _, rfl, rfl, t2, n + 1, _, rfl, rfl, upd_same, by simp, by omega, by show 1 ≤ 1000; decide, fun p2 H2 s2 e2 => ?_⟩⟩
    have s2 := (same_new h2).trans s2
    rw [flat_one] at e2
    have r1 := (RowQ.not (m := m) (Th.lst e1) (by decide)).same s2
    have r2 : RowQ H2 m (.ref p2) false := RowQ.bad e2 (by rw [List.length_replicate]; omega) (fun y hy => by rw [(List.mem_replicate.mp hy).2]; exact ⟨_, .int _⟩) (y := V.int (m : Int)) (by rw [List.replicate_succ]; exact List.mem_cons_self) (by
      show (decide ((0 : Int) ≤ (m : Int)) && decide ((m : Int) ≤ (m : Int) - 1)) = false
      rw [decide_eq_false (show ¬ ((m : Int) ≤ (m : Int) - 1) by omega), Bool.and_false])
    -- (0,) * n + (-1,)
    refine ⟨one, fun t3 h3 => ⟨_, rfl, t3, n, _, rfl, rfl, upd_same, by simp, by omega, by show 1 ≤ 1000; decide, fun p3 H3 s3 e3 => ?_⟩⟩
    have s3 := (same_new h3).trans s3
    rw [flat_one] at e3
    refine ⟨_, rfl, one, fun t4 h4 => ?_⟩
    have s4 := same_new (o := .tup [V.int (-1)]) h4
    refine ⟨p3, t4, _, _, rfl, rfl, s4 _ _ e3, upd_same, by rw [List.length_replicate, sizeLine_eq]; show n + 1 ≤ _; omega, fun p4 H4 s5 e4 => ?_⟩
    have s4 := s3.trans (s4.trans s5)
    have r1 := r1.same s4
    have r2 := r2.same s4
    have r3 : RowQ H4 m (.ref p4) false := RowQ.bad e4 (by rw [List.length_append, List.length_replicate]; show n + 1 ≤ 100; omega) (fun y hy => by
      rcases List.mem_append.mp hy with hy | hy
      · rw [(List.mem_replicate.mp hy).2]; exact ⟨_, .int _⟩
      · rw [List.mem_singleton.mp hy]; exact ⟨_, .int _⟩) (y := V.int (-1)) (List.mem_append_right _ List.mem_cons_self) rfl
    -- (0,) * 101
    refine ⟨one, fun t5 h5 => ⟨t5, 101, _, rfl, rfl, upd_same, by simp, by decide, by show 1 ≤ 1000; decide, fun p5 H5 s5 e5 => ?_⟩⟩
    have s5 := (same_new h5).trans s5
    rw [flat_one] at e5
    have r1 := r1.same s5
    have r2 := r2.same s5
    have r3 := r3.same s5
    have r4 : RowQ H5 m (.ref p5) false := RowQ.long e5 (by rw [List.length_replicate]; decide)
    -- (True,)
    refine ⟨one, fun t6 h6 => ?_⟩
    have s6 := same_new (o := .tup [V.bl true]) h6
    have e6 := upd_same (H := H5) (a := t6) (o := .tup [V.bl true])
    generalize upd H5 t6 (.tup [V.bl true]) = H6 at s6 e6 ⊢
    have r1 := r1.same s6
    have r2 := r2.same s6
    have r3 := r3.same s6
    have r4 := r4.same s6
    have r5 : RowQ H6 m (.ref t6) false := RowQ.bad e6 (by decide) (fun y hy => by rw [List.mem_singleton.mp hy]; exact ⟨_, .bl _⟩) (y := V.bl true) List.mem_cons_self rfl
    -- ((0,),)
    refine ⟨one, fun t7 h7 => ⟨one, fun t8 h8 => ?_⟩⟩
    have s7 := same_new (o := .tup [V.int 0]) h7
    have e7 := upd_same (H := H6) (a := t7) (o := .tup [V.int 0])
    generalize upd H6 t7 (.tup [V.int 0]) = H7 at s7 e7 h8 ⊢
    have s8 := same_new (o := .tup [V.ref t7]) h8
    have e8 := upd_same (H := H7) (a := t8) (o := .tup [V.ref t7])
    generalize upd H7 t8 (.tup [V.ref t7]) = H8 at s8 e8 ⊢
    have s78 := s7.trans s8
    have r1 := r1.same s78
    have r2 := r2.same s78
    have r3 := r3.same s78
    have r4 := r4.same s78
    have r5 := r5.same s78
    have r6 : RowQ H8 m (.ref t8) false := RowQ.bad e8 (by show 1 ≤ 100; decide) (fun y hy => by rw [List.mem_singleton.mp hy]; exact ⟨_, .tup (s8 _ _ e7)⟩) (y := V.ref t7) List.mem_cons_self rfl
    -- (0, None)
    refine ⟨two, fun t9 h9 => ?_⟩
    have s9 := same_new (o := .tup [V.int 0, V.non]) h9
    have e9 := upd_same (H := H8) (a := t9) (o := .tup [V.int 0, V.non])
    generalize upd H8 t9 (.tup [V.int 0, V.non]) = H9 at s9 e9 ⊢
    have r1 := r1.same s9
    have r2 := r2.same s9
    have r3 := r3.same s9
    have r4 := r4.same s9
    have r5 := r5.same s9
    have r6 := r6.same s9
    have r7 : RowQ H9 m (.ref t9) false := RowQ.bad e9 (by decide) (fun y hy => by
      rcases List.mem_cons.mp hy with hy | hy
      · rw [hy]; exact ⟨_, .int _⟩
      · rw [List.mem_singleton.mp hy]; exact ⟨_, .non⟩) (y := V.non) (List.mem_cons_of_mem _ List.mem_cons_self) rfl
    -- (0, m)
    refine ⟨_, rfl, two, fun ta ha => ?_⟩
    have sa := same_new (o := .tup [V.int 0, V.int (m : Int)]) ha
    have ea := upd_same (H := H9) (a := ta) (o := .tup [V.int 0, V.int (m : Int)])
    generalize upd H9 ta (.tup [V.int 0, V.int (m : Int)]) = Ha at sa ea ⊢
    have r1 := r1.same sa
    have r2 := r2.same sa
    have r3 := r3.same sa
    have r4 := r4.same sa
    have r5 := r5.same sa
    have r6 := r6.same sa
    have r7 := r7.same sa
    have r8 : RowQ Ha m (.ref ta) false := RowQ.bad ea (by show 2 ≤ 100; decide) (fun y hy => by
      rcases List.mem_cons.mp hy with hy | hy
      · rw [hy]; exact ⟨_, .int _⟩
      · rw [List.mem_singleton.mp hy]; exact ⟨_, .int _⟩) (y := V.int (m : Int)) (List.mem_cons_of_mem _ List.mem_cons_self) (by
      show (decide ((0 : Int) ≤ (m : Int)) && decide ((m : Int) ≤ (m : Int) - 1)) = false
      rw [decide_eq_false (show ¬ ((m : Int) ≤ (m : Int) - 1) by omega), Bool.and_false])
    refine ⟨by show 11 ≤ sizeLine; decide, fun l hl => ?_⟩
    have sl := same_new (o := .lst [V.non, .int 0, .ref p1, .str z', .ref p2, .ref p4, .ref p5, .ref t6, .ref t8, .ref t9, .ref ta]) hl
    refine k _ l _ (((((((((s1.trans s2).trans s4).trans s5).trans s6).trans s78).trans s9).trans sa)).trans sl) upd_same fun x hx => RowQ.same ?_ sl
    rcases List.mem_cons.mp hx with rfl | hx
    · exact RowQ.not .non (by decide)
    rcases List.mem_cons.mp hx with rfl | hx
    · exact RowQ.not (.int 0) (by decide)
    rcases List.mem_cons.mp hx with rfl | hx
    · exact r1
    rcases List.mem_cons.mp hx with rfl | hx
    · exact RowQ.not (.str _) (by decide)
    rcases List.mem_cons.mp hx with rfl | hx
    · exact r2
    rcases List.mem_cons.mp hx with rfl | hx
    · exact r3
    rcases List.mem_cons.mp hx with rfl | hx
    · exact r4
    rcases List.mem_cons.mp hx with rfl | hx
    · exact r5
    rcases List.mem_cons.mp hx with rfl | hx
    · exact r6
    rcases List.mem_cons.mp hx with rfl | hx
    · exact r7
    rw [List.mem_singleton.mp hx]
    exact r8
end
end LH
/-! _law_refusals: what it makes of a lambda that raises. -/
namespace LH
open PySem PySem.Spec PyProof.Rows L2 KR KW
/-- the names told, in their order -/
def nn (j : Nat) : Str := (["turn", "book", "word", "row", "machine", "number", "many", "name", "use", "deed", "text"] : List Str).getD j ""
/-- the classes of errors -/
structure Errs (mg : Str → Option Value) (CE : Addr) (cs : Nat → Addr) : Prop where
  h : mg "HandError" = some (.ref CE)
  g0 : mg "NoTurn" = some (.ref (cs 0))
  g1 : mg "NoBook" = some (.ref (cs 1))
  g2 : mg "NoWord" = some (.ref (cs 2))
  g3 : mg "NoRow" = some (.ref (cs 3))
  g4 : mg "NoMachine" = some (.ref (cs 4))
  g5 : mg "NoNumber" = some (.ref (cs 5))
  g6 : mg "TooMany" = some (.ref (cs 6))
  g7 : mg "NoName" = some (.ref (cs 7))
  g8 : mg "InUse" = some (.ref (cs 8))
  g9 : mg "NoDeed" = some (.ref (cs 9))
  g10 : mg "NoText" = some (.ref (cs 10))
/-- D is the j-th of the classes -/
structure IsErr (K : PySem.W.Frag) (CE : Addr) (cs : Nat → Addr) (D : Addr) (j : Nat) : Prop where
  lt : j < 11
  c : ExcC K D
  ex : PySem.W.exmOne K (.ref D) (.ref CE) = some true
  is : ∀ i, i < 11 → PySem.W.kitOne K (.ref D) (.ref (cs i)) = some (decide (i = j))
/-- what _law_refusals makes of a call that raises: the one name -/
def TTR (K : PySem.W.Frag) (CE : Addr) (cs : Nat → Addr) : (XK → Hp → VK → Prop) → Hp → VK → Prop := fun tl H Q => ∀ R : VK,
  tl (fun cls d H' => ∃ D j, cls = .ref D ∧ d = none ∧ IsErr K CE cs D j ∧ ∀ H2 l, Same H' H2 → H2 l = some (.lst [.str (nn j)]) → Q (.ref l) H2) H R
theorem scRefusals : FnScope ["_law_ask", "_law_found", "e", "_law_names", "_law_name", "_law_here"] ["_law_ask"] (defScope sRefusals) := ⟨rfl, rfl, rfl, by decide +kernel, rfl, by decide +kernel, by decide +kernel⟩
theorem takesN {X : Cx} : Takes X (fun _ _ _ _ => False) := L2.takes0
section
variable {X : Cx}
abbrev Rx (X : Cx) (g : Addr) (cdg : Value) (s : Shared) (H : Hp) : Cx := (cxOf C8.CX0 X.prog X.w X.K X.mg X.base ["_law_ask", "_law_found", "e", "_law_names", "_law_name", "_law_here"] "_law_refusals" (defScope sRefusals) g cdg X.A X.stack s H C8.E0).nox

theorem refusals_gives {g CE : Addr} {cdg : Value} {cs : Nat → Addr} {q : Str} (T : Tops X.mg) (ER : Errs X.mg CE cs) :
    LamX.GivesTo X ["_law_ask", "_law_found", "e", "_law_names", "_law_name", "_law_here"] "_law_refusals" (defScope sRefusals) g cdg (defBody sRefusals) "_law_ask" q (TTR X.K CE cs) := by
  intro f c' s H Q tl act hc h
  have hN := scRefusals.nd
  refine ⟨_, pss_cons (X := Rx X g cdg s H) (ps_set (i := 1) hN rfl (.inl rfl) pe_non)
    (pss_cons (ps_try_keep (X := Rx X g cdg s H) (i := 2) (c := .ref CE) (tb := fun W D σ H1 => ∃ Ech : XK, (∀ cls d σ' H', Ech cls d H' → W cls d σ' H') ∧ σ[0]? = some (some (.ref f)) ∧ H1 c' = some (LamX.CodeO c' q) ∧ tl Ech H1 fun _ H2 => D.nx σ H2)
        (ts := fun a => tAsg (tVar 2) (gName 1)) rfl rfl rfl hN rfl rfl ⟨rfl, by decide, .inl ER.h⟩ (fun W pn xe tk _ => ?_) (fun a oe pn => pss_one (ps_set (i := 1) hN rfl (.inl rfl) (pv 2))))
    (pss_cons (ps_set (i := 3) hN rfl (.inl rfl) (pe_lst pa_nil))
    (pss_cons (ps_for PassesOwn.never rfl (pi_tup (pe_tup (pa_cons (pe_tup (pa_cons pe_str (pa_cons (pe_callB call_isK (by rfl) T.isinstance (by decide +kernel) (pa_cons (pv 1) (pa_cons (pe_glob (v := .ref (cs 0)) rfl ER.g0 rfl) pa_nil))) pa_nil))) (pa_cons (pe_tup (pa_cons pe_str (pa_cons (pe_callB call_isK (by rfl) T.isinstance (by decide +kernel) (pa_cons (pv 1) (pa_cons (pe_glob (v := .ref (cs 1)) rfl ER.g1 rfl) pa_nil))) pa_nil))) (pa_cons (pe_tup (pa_cons pe_str (pa_cons (pe_callB call_isK (by rfl) T.isinstance (by decide +kernel) (pa_cons (pv 1) (pa_cons (pe_glob (v := .ref (cs 2)) rfl ER.g2 rfl) pa_nil))) pa_nil))) (pa_cons (pe_tup (pa_cons pe_str (pa_cons (pe_callB call_isK (by rfl) T.isinstance (by decide +kernel) (pa_cons (pv 1) (pa_cons (pe_glob (v := .ref (cs 3)) rfl ER.g3 rfl) pa_nil))) pa_nil))) (pa_cons (pe_tup (pa_cons pe_str (pa_cons (pe_callB call_isK (by rfl) T.isinstance (by decide +kernel) (pa_cons (pv 1) (pa_cons (pe_glob (v := .ref (cs 4)) rfl ER.g4 rfl) pa_nil))) pa_nil))) (pa_cons (pe_tup (pa_cons pe_str (pa_cons (pe_callB call_isK (by rfl) T.isinstance (by decide +kernel) (pa_cons (pv 1) (pa_cons (pe_glob (v := .ref (cs 5)) rfl ER.g5 rfl) pa_nil))) pa_nil))) (pa_cons (pe_tup (pa_cons pe_str (pa_cons (pe_callB call_isK (by rfl) T.isinstance (by decide +kernel) (pa_cons (pv 1) (pa_cons (pe_glob (v := .ref (cs 6)) rfl ER.g6 rfl) pa_nil))) pa_nil))) (pa_cons (pe_tup (pa_cons pe_str (pa_cons (pe_callB call_isK (by rfl) T.isinstance (by decide +kernel) (pa_cons (pv 1) (pa_cons (pe_glob (v := .ref (cs 7)) rfl ER.g7 rfl) pa_nil))) pa_nil))) (pa_cons (pe_tup (pa_cons pe_str (pa_cons (pe_callB call_isK (by rfl) T.isinstance (by decide +kernel) (pa_cons (pv 1) (pa_cons (pe_glob (v := .ref (cs 8)) rfl ER.g8 rfl) pa_nil))) pa_nil))) (pa_cons (pe_tup (pa_cons pe_str (pa_cons (pe_callB call_isK (by rfl) T.isinstance (by decide +kernel) (pa_cons (pv 1) (pa_cons (pe_glob (v := .ref (cs 9)) rfl ER.g9 rfl) pa_nil))) pa_nil))) (pa_cons (pe_tup (pa_cons pe_str (pa_cons (pe_callB call_isK (by rfl) T.isinstance (by decide +kernel) (pa_cons (pv 1) (pa_cons (pe_glob (v := .ref (cs 10)) rfl ER.g10 rfl) pa_nil))) pa_nil))) pa_nil))))))))))))) (pg_tup rfl (pgs_cons (pg_name (i := 4) hN rfl (Or.inl rfl)) (pgs_cons (pg_name (i := 5) hN rfl (Or.inl rfl)) pgs_nil)))
      (pss_one (ps_if (pt_val (pv 5)) (pss_one (ps_expr (pe_bm PySem.F.plainAttrs_list PySem.F.slot_list_append PySem.F.type_list_append mt_append (pv 3) (pa_cons (pv 4) pa_nil)))) pss_nil)))
    (pss_one (ps_ret (pv 3)))))), ?_⟩
  · refine ⟨fun pins s' σ H' D I h' => ?_⟩
    obtain ⟨Ech, hW, h1, h2, h3⟩ := h'
    exact (pss_one (ps_expr (act W pn xe Ech _ _ tk hW))).run pins s' σ H' D I ⟨h1, h2, h3⟩
  · refine ⟨_, fun cls d σ' H' hE => ?_, rfl, hc, h _⟩
    obtain ⟨D, j, rfl, rfl, ER2, k⟩ := hE
    refine ⟨rfl, ER2.ex, fun hlen a ha => ?_⟩
    obtain ⟨x0, x1, x2, x3, x4, x5, rfl⟩ : ∃ x0 x1 x2 x3 x4 x5, σ' = [x0, x1, x2, x3, x4, x5] := by
      match σ', hlen with
      | [x0, x1, x2, x3, x4, x5], _ => exact ⟨_, _, _, _, _, _, rfl⟩
    refine ⟨_, rfl, ?_⟩
    have s0 := same_new (o := ExK (.ref D) a) ha
    have e0 := upd_same (H := H') (a := a) (o := ExK (.ref D) a)
    refine ⟨Nat.zero_le _, fun l hl => ?_⟩
    have sl := same_new (o := .lst []) hl
    have el := upd_same (H := upd H' a (ExK (.ref D) a)) (a := l) (o := .lst [])
    have ea := sl _ _ e0
    have ss := s0.trans sl
    generalize upd (upd H' a (ExK (.ref D) a)) l (.lst []) = G0 at sl el ea ss ⊢
    have two : 2 ≤ sizeLine := by decide
    have is := ER2.is
    refine ⟨_, rfl, a, D, .ref (cs 0), .ref (cs 0), decide (0 = j), rfl, ea, ER2.c, .own _, is 0 (by decide), two, fun p0 f0 => ?_⟩
    have s1 := same_new (o := .tup [V.str "turn", V.bl (decide (0 = j))]) f0
    have q0 : (upd G0 p0 (.tup [V.str "turn", V.bl (decide (0 = j))])) p0 = some (.tup [V.str "turn", V.bl (decide (0 = j))]) := upd_same
    have el := s1 _ _ el
    have ea := s1 _ _ ea
    have ss := ss.trans s1
    clear s1
    generalize upd G0 p0 (.tup [V.str "turn", V.bl (decide (0 = j))]) = G1 at el ea ss q0 ⊢
    refine ⟨_, rfl, a, D, .ref (cs 1), .ref (cs 1), decide (1 = j), rfl, ea, ER2.c, .own _, is 1 (by decide), two, fun p1 f1 => ?_⟩
    have s1 := same_new (o := .tup [V.str "book", V.bl (decide (1 = j))]) f1
    have q1 : (upd G1 p1 (.tup [V.str "book", V.bl (decide (1 = j))])) p1 = some (.tup [V.str "book", V.bl (decide (1 = j))]) := upd_same
    have el := s1 _ _ el
    have ea := s1 _ _ ea
    have ss := ss.trans s1
    have q0 := s1 _ _ q0
    clear s1
    generalize upd G1 p1 (.tup [V.str "book", V.bl (decide (1 = j))]) = G2 at el ea ss q0 q1 ⊢
    refine ⟨_, rfl, a, D, .ref (cs 2), .ref (cs 2), decide (2 = j), rfl, ea, ER2.c, .own _, is 2 (by decide), two, fun p2 f2 => ?_⟩
    have s1 := same_new (o := .tup [V.str "word", V.bl (decide (2 = j))]) f2
    have q2 : (upd G2 p2 (.tup [V.str "word", V.bl (decide (2 = j))])) p2 = some (.tup [V.str "word", V.bl (decide (2 = j))]) := upd_same
    have el := s1 _ _ el
    have ea := s1 _ _ ea
    have ss := ss.trans s1
    have q0 := s1 _ _ q0
    have q1 := s1 _ _ q1
    clear s1
    generalize upd G2 p2 (.tup [V.str "word", V.bl (decide (2 = j))]) = G3 at el ea ss q0 q1 q2 ⊢
    refine ⟨_, rfl, a, D, .ref (cs 3), .ref (cs 3), decide (3 = j), rfl, ea, ER2.c, .own _, is 3 (by decide), two, fun p3 f3 => ?_⟩
    have s1 := same_new (o := .tup [V.str "row", V.bl (decide (3 = j))]) f3
    have q3 : (upd G3 p3 (.tup [V.str "row", V.bl (decide (3 = j))])) p3 = some (.tup [V.str "row", V.bl (decide (3 = j))]) := upd_same
    have el := s1 _ _ el
    have ea := s1 _ _ ea
    have ss := ss.trans s1
    have q0 := s1 _ _ q0
    have q1 := s1 _ _ q1
    have q2 := s1 _ _ q2
    clear s1
    generalize upd G3 p3 (.tup [V.str "row", V.bl (decide (3 = j))]) = G4 at el ea ss q0 q1 q2 q3 ⊢
    refine ⟨_, rfl, a, D, .ref (cs 4), .ref (cs 4), decide (4 = j), rfl, ea, ER2.c, .own _, is 4 (by decide), two, fun p4 f4 => ?_⟩
    have s1 := same_new (o := .tup [V.str "machine", V.bl (decide (4 = j))]) f4
    have q4 : (upd G4 p4 (.tup [V.str "machine", V.bl (decide (4 = j))])) p4 = some (.tup [V.str "machine", V.bl (decide (4 = j))]) := upd_same
    have el := s1 _ _ el
    have ea := s1 _ _ ea
    have ss := ss.trans s1
    have q0 := s1 _ _ q0
    have q1 := s1 _ _ q1
    have q2 := s1 _ _ q2
    have q3 := s1 _ _ q3
    clear s1
    generalize upd G4 p4 (.tup [V.str "machine", V.bl (decide (4 = j))]) = G5 at el ea ss q0 q1 q2 q3 q4 ⊢
    refine ⟨_, rfl, a, D, .ref (cs 5), .ref (cs 5), decide (5 = j), rfl, ea, ER2.c, .own _, is 5 (by decide), two, fun p5 f5 => ?_⟩
    have s1 := same_new (o := .tup [V.str "number", V.bl (decide (5 = j))]) f5
    have q5 : (upd G5 p5 (.tup [V.str "number", V.bl (decide (5 = j))])) p5 = some (.tup [V.str "number", V.bl (decide (5 = j))]) := upd_same
    have el := s1 _ _ el
    have ea := s1 _ _ ea
    have ss := ss.trans s1
    have q0 := s1 _ _ q0
    have q1 := s1 _ _ q1
    have q2 := s1 _ _ q2
    have q3 := s1 _ _ q3
    have q4 := s1 _ _ q4
    clear s1
    generalize upd G5 p5 (.tup [V.str "number", V.bl (decide (5 = j))]) = G6 at el ea ss q0 q1 q2 q3 q4 q5 ⊢
    refine ⟨_, rfl, a, D, .ref (cs 6), .ref (cs 6), decide (6 = j), rfl, ea, ER2.c, .own _, is 6 (by decide), two, fun p6 f6 => ?_⟩
    have s1 := same_new (o := .tup [V.str "many", V.bl (decide (6 = j))]) f6
    have q6 : (upd G6 p6 (.tup [V.str "many", V.bl (decide (6 = j))])) p6 = some (.tup [V.str "many", V.bl (decide (6 = j))]) := upd_same
    have el := s1 _ _ el
    have ea := s1 _ _ ea
    have ss := ss.trans s1
    have q0 := s1 _ _ q0
    have q1 := s1 _ _ q1
    have q2 := s1 _ _ q2
    have q3 := s1 _ _ q3
    have q4 := s1 _ _ q4
    have q5 := s1 _ _ q5
    clear s1
    generalize upd G6 p6 (.tup [V.str "many", V.bl (decide (6 = j))]) = G7 at el ea ss q0 q1 q2 q3 q4 q5 q6 ⊢
    refine ⟨_, rfl, a, D, .ref (cs 7), .ref (cs 7), decide (7 = j), rfl, ea, ER2.c, .own _, is 7 (by decide), two, fun p7 f7 => ?_⟩
    have s1 := same_new (o := .tup [V.str "name", V.bl (decide (7 = j))]) f7
    have q7 : (upd G7 p7 (.tup [V.str "name", V.bl (decide (7 = j))])) p7 = some (.tup [V.str "name", V.bl (decide (7 = j))]) := upd_same
    have el := s1 _ _ el
    have ea := s1 _ _ ea
    have ss := ss.trans s1
    have q0 := s1 _ _ q0
    have q1 := s1 _ _ q1
    have q2 := s1 _ _ q2
    have q3 := s1 _ _ q3
    have q4 := s1 _ _ q4
    have q5 := s1 _ _ q5
    have q6 := s1 _ _ q6
    clear s1
    generalize upd G7 p7 (.tup [V.str "name", V.bl (decide (7 = j))]) = G8 at el ea ss q0 q1 q2 q3 q4 q5 q6 q7 ⊢
    refine ⟨_, rfl, a, D, .ref (cs 8), .ref (cs 8), decide (8 = j), rfl, ea, ER2.c, .own _, is 8 (by decide), two, fun p8 f8 => ?_⟩
    have s1 := same_new (o := .tup [V.str "use", V.bl (decide (8 = j))]) f8
    have q8 : (upd G8 p8 (.tup [V.str "use", V.bl (decide (8 = j))])) p8 = some (.tup [V.str "use", V.bl (decide (8 = j))]) := upd_same
    have el := s1 _ _ el
    have ea := s1 _ _ ea
    have ss := ss.trans s1
    have q0 := s1 _ _ q0
    have q1 := s1 _ _ q1
    have q2 := s1 _ _ q2
    have q3 := s1 _ _ q3
    have q4 := s1 _ _ q4
    have q5 := s1 _ _ q5
    have q6 := s1 _ _ q6
    have q7 := s1 _ _ q7
    clear s1
    generalize upd G8 p8 (.tup [V.str "use", V.bl (decide (8 = j))]) = G9 at el ea ss q0 q1 q2 q3 q4 q5 q6 q7 q8 ⊢
    refine ⟨_, rfl, a, D, .ref (cs 9), .ref (cs 9), decide (9 = j), rfl, ea, ER2.c, .own _, is 9 (by decide), two, fun p9 f9 => ?_⟩
    have s1 := same_new (o := .tup [V.str "deed", V.bl (decide (9 = j))]) f9
    have q9 : (upd G9 p9 (.tup [V.str "deed", V.bl (decide (9 = j))])) p9 = some (.tup [V.str "deed", V.bl (decide (9 = j))]) := upd_same
    have el := s1 _ _ el
    have ea := s1 _ _ ea
    have ss := ss.trans s1
    have q0 := s1 _ _ q0
    have q1 := s1 _ _ q1
    have q2 := s1 _ _ q2
    have q3 := s1 _ _ q3
    have q4 := s1 _ _ q4
    have q5 := s1 _ _ q5
    have q6 := s1 _ _ q6
    have q7 := s1 _ _ q7
    have q8 := s1 _ _ q8
    clear s1
    generalize upd G9 p9 (.tup [V.str "deed", V.bl (decide (9 = j))]) = G10 at el ea ss q0 q1 q2 q3 q4 q5 q6 q7 q8 q9 ⊢
    refine ⟨_, rfl, a, D, .ref (cs 10), .ref (cs 10), decide (10 = j), rfl, ea, ER2.c, .own _, is 10 (by decide), two, fun p10 f10 => ?_⟩
    have s1 := same_new (o := .tup [V.str "text", V.bl (decide (10 = j))]) f10
    have q10 : (upd G10 p10 (.tup [V.str "text", V.bl (decide (10 = j))])) p10 = some (.tup [V.str "text", V.bl (decide (10 = j))]) := upd_same
    have el := s1 _ _ el
    have ea := s1 _ _ ea
    have ss := ss.trans s1
    have q0 := s1 _ _ q0
    have q1 := s1 _ _ q1
    have q2 := s1 _ _ q2
    have q3 := s1 _ _ q3
    have q4 := s1 _ _ q4
    have q5 := s1 _ _ q5
    have q6 := s1 _ _ q6
    have q7 := s1 _ _ q7
    have q8 := s1 _ _ q8
    have q9 := s1 _ _ q9
    clear s1
    generalize upd G10 p10 (.tup [V.str "text", V.bl (decide (10 = j))]) = G11 at el ea ss q0 q1 q2 q3 q4 q5 q6 q7 q8 q9 q10 ⊢
    refine ⟨by show 11 ≤ sizeLine; decide, fun t ht => ?_⟩
    have st := same_new (o := .tup [.ref p0, .ref p1, .ref p2, .ref p3, .ref p4, .ref p5, .ref p6, .ref p7, .ref p8, .ref p9, .ref p10]) ht
    have all : ∀ i y, ([.ref p0, .ref p1, .ref p2, .ref p3, .ref p4, .ref p5, .ref p6, .ref p7, .ref p8, .ref p9, .ref p10] : List V)[i]? = some y → ∃ p, y = .ref p ∧ i < 11 ∧ G11 p = some (.tup [V.str (nn i), V.bl (decide (i = j))]) := by
      intro i y hi
      match i, hi with
      | 0, hi => exact ⟨p0, (Option.some.inj hi).symm, by decide, q0⟩
      | 1, hi => exact ⟨p1, (Option.some.inj hi).symm, by decide, q1⟩
      | 2, hi => exact ⟨p2, (Option.some.inj hi).symm, by decide, q2⟩
      | 3, hi => exact ⟨p3, (Option.some.inj hi).symm, by decide, q3⟩
      | 4, hi => exact ⟨p4, (Option.some.inj hi).symm, by decide, q4⟩
      | 5, hi => exact ⟨p5, (Option.some.inj hi).symm, by decide, q5⟩
      | 6, hi => exact ⟨p6, (Option.some.inj hi).symm, by decide, q6⟩
      | 7, hi => exact ⟨p7, (Option.some.inj hi).symm, by decide, q7⟩
      | 8, hi => exact ⟨p8, (Option.some.inj hi).symm, by decide, q8⟩
      | 9, hi => exact ⟨p9, (Option.some.inj hi).symm, by decide, q9⟩
      | 10, hi => exact ⟨p10, (Option.some.inj hi).symm, by decide, q10⟩
      | n + 11, hi => simp at hi
    refine ⟨t, rfl, ⟨_, SqT.of upd_same⟩, for_tup (K := X.K) (a := t) (xs := [.ref p0, .ref p1, .ref p2, .ref p3, .ref p4, .ref p5, .ref p6, .ref p7, .ref p8, .ref p9, .ref p10]) (fun i σ H3 => (∀ b ys, (upd G11 t (.tup [.ref p0, .ref p1, .ref p2, .ref p3, .ref p4, .ref p5, .ref p6, .ref p7, .ref p8, .ref p9, .ref p10])) b = some (.tup ys) → H3 b = some (.tup ys)) ∧ Same H' H3 ∧ H3 l = some (.lst (if j < i then [V.str (nn j)] else [])) ∧ ∃ v0 v1 v2 v4 v5 : Option V, σ = [v0, v1, v2, some (.ref l), v4, v5])
      ⟨fun _ _ h => h, ss.trans st, st _ _ el, _, _, _, _, _, rfl⟩ (fun i σ H3 _ h => SqT.of (h.1 _ _ upd_same)) ?_ ?_⟩
    · rintro i y σ H3 hi ⟨u3, s3, e3, v0, v1, v2, v4, v5, rfl⟩
      obtain ⟨p, rfl, i11, hp⟩ := all i y hi
      have hp3 := u3 _ _ (st _ _ hp)
      refine ⟨p, _, rfl, SqT.of hp3, rfl, _, _, rfl, _, _, rfl, rfl, ?_⟩
      refine ⟨_, rfl, _, rfl, ?_⟩
      by_cases c : i = j
      · subst c
        rw [decide_eq_true rfl]
        rw [if_neg (Nat.lt_irrefl i)] at e3
        refine iteT ⟨_, rfl, .inl ⟨rfl, _, SqL.of e3⟩, _, rfl, l, _, _, rfl, rfl, e3, by show 0 < sizeLine; decide, ?_⟩
        refine ⟨fun b ys e => ?_, fun b o e => ?_, ?_, _, _, _, _, _, rfl⟩
        · rw [upd_ne (ne_of (u3 _ _ e) e3 (fun z => nomatch z))]
          exact u3 _ _ e
        · have z : b ≠ l := ne_of_none (s0 _ _ e) hl
          rw [upd_ne z]
          exact s3 _ _ e
        · rw [upd_same, if_pos (Nat.lt_succ_self i)]
          rfl
      · rw [decide_eq_false c]
        refine iteF ⟨u3, s3, ?_, _, _, _, _, _, rfl⟩
        rw [e3]
        by_cases d : j < i
        · rw [if_pos d, if_pos (by omega)]
        · rw [if_neg d, if_neg (by omega)]
    · rintro σ H3 ⟨u3, s3, e3, v0, v1, v2, v4, v5, rfl⟩
      have e3 : H3 l = some (.lst (if j < 11 then [V.str (nn j)] else [])) := e3
      rw [if_pos ER2.lt] at e3
      exact ⟨_, rfl, k H3 l s3 e3⟩
end
end LH
/-! What is shown: bounds; lists and tuples of ints as data. -/
namespace LH
open PySem PySem.Spec PyProof.Rows L2 KR KW
structure OkShow (d : PyData) : Prop where
  sh : d.showable = true
  nd : d.hasDict = false
  dp : d.depth ≤ 10
  len : d.shown.length ≤ sizeLine
def dWd (w : Wd) : PyData := .tuple (w.map PyData.int)
def dPart (n N : Nat) : PyData := .list [.tuple [.tuple ((List.replicate n (0 : Int)).map PyData.int), .int (N : Int)]]
theorem leaf_int {i : Int} (h : i.natAbs ≤ 1000) : (PyData.int i).leavesShort 8 = true := by
  have e := int_text_length_le10 (a := i) (k := 7) (by decide) (Nat.lt_of_le_of_lt h (by decide))
  have e2 : (Str.ofString (toString i)).length ≤ 8 := by rw [PySem.ofString_length]; exact e
  simp only [PyData.leavesShort, PyData.shown]
  exact decide_eq_true e2
theorem leaf_ints : ∀ {w : Wd}, (∀ i ∈ w, i.natAbs ≤ 1000) → PyData.leavesShortAll 8 (w.map PyData.int) = true
  | [], _ => by simp only [List.map_nil, PyData.leavesShortAll]
  | i :: w, h => by
    rw [List.map_cons]
    simp only [PyData.leavesShortAll, leaf_int (h i List.mem_cons_self), leaf_ints (w := w) fun j hj => h j (List.mem_cons_of_mem _ hj), Bool.and_self]
theorem show_int {i : Int} (h : i.natAbs ≤ 1000) : i.natAbs.log2 < 1920 := PySem.Flt.log2_lt_of (by decide) (Nat.lt_of_le_of_lt h (Nat.lt_of_lt_of_le (show 1000 < 2 ^ 10 by decide) (Nat.pow_le_pow_right (by decide) (by decide))))
theorem show_ints : ∀ {w : Wd}, (∀ i ∈ w, i.natAbs ≤ 1000) → PyData.showableAll (w.map PyData.int) = true
  | [], _ => by simp only [List.map_nil, PyData.showableAll]
  | i :: w, h => by
    rw [List.map_cons]
    simp only [PyData.showableAll, PyData.showable, decide_eq_true (show_int (h i List.mem_cons_self)), show_ints (w := w) fun j hj => h j (List.mem_cons_of_mem _ hj), Bool.and_self]
theorem nodict_ints : ∀ w : Wd, PyData.hasDictAll (w.map PyData.int) = false
  | [] => by simp only [List.map_nil, PyData.hasDictAll]
  | i :: w => by
    rw [List.map_cons]
    simp only [PyData.hasDictAll, PyData.hasDict, nodict_ints w, Bool.or_self]
theorem depth_ints : ∀ w : Wd, PyData.depthAll (w.map PyData.int) ≤ 1
  | [] => by simp [PyData.depthAll]
  | i :: w => by
    have := depth_ints w
    simp [PyData.depthAll, PyData.depth]
    omega
theorem bulk_ints : ∀ w : Wd, PyData.bulkAll (w.map PyData.int) = w.length
  | [] => by simp only [List.map_nil, PyData.bulkAll, List.length_nil]
  | i :: w => by
    rw [List.map_cons]
    simp only [PyData.bulkAll, PyData.bulk, bulk_ints w, List.length_cons]
    omega
theorem show_wd {w : Wd} (h : ∀ i ∈ w, i.natAbs ≤ 1000) (hl : w.length ≤ 1000) : OkShow (dWd w) := by
  refine ⟨?_, ?_, ?_, ?_⟩
  · simpa only [dWd, PyData.showable] using show_ints h
  · simpa only [dWd, PyData.hasDict] using nodict_ints w
  · have := depth_ints w
    simp only [dWd, PyData.depth]
    omega
  · have e := PyData.shown_le_bulk 8 (by decide) (dWd w) (by simpa only [dWd, PyData.leavesShort] using leaf_ints h)
    have b : (dWd w).bulk = w.length := by simpa only [dWd, PyData.bulk] using bulk_ints w
    rw [b] at e
    rw [sizeLine_eq]
    omega
theorem zero_ints (n : Nat) : ∀ i ∈ List.replicate n (0 : Int), i.natAbs ≤ 1000 := fun i hi => by
  rw [(List.mem_replicate.mp hi).2]
  decide
theorem show_part {n N : Nat} (hn : n ≤ 1000) (hN : N ≤ 1000) : OkShow (dPart n N) := by
  have hN2 : ((N : Int)).natAbs ≤ 1000 := by omega
  refine ⟨?_, ?_, ?_, ?_⟩
  · have e := show_ints (zero_ints n)
    simp only [dPart, PyData.showable, PyData.showableAll, e, decide_eq_true (show_int hN2), Bool.and_self]
  · simp only [dPart, PyData.hasDict, PyData.hasDictAll, nodict_ints, Bool.or_self]
  · have := depth_ints (List.replicate n (0 : Int))
    simp [dPart, PyData.depth, PyData.depthAll] at this ⊢
    omega
  · have e := PyData.shown_le_bulk 8 (by decide) (dPart n N) (by
      simp only [dPart, PyData.leavesShort, PyData.leavesShortAll, leaf_ints (zero_ints n), Bool.true_and, Bool.and_true]
      exact leaf_int hN2)
    have b : (dPart n N).bulk = n + 3 := by
      simp only [dPart, PyData.bulk, PyData.bulkAll, bulk_ints, List.length_replicate]
    rw [b] at e
    rw [sizeLine_eq]
    omega
theorem dp_wd {K : PySem.W.Frag} {H : Hp} {p : Addr} {w : Wd} (h : H p = some (.tup (wv w))) : Dp K H (.ref p) (dWd w) := .tup (SqT.of h) (dp_ints w)
theorem rv_zero (n : Nat) : rv (List.replicate n 0) = (List.replicate n (0 : Int)).map V.int := by
  unfold rv
  rw [List.map_replicate, List.map_replicate]
  rfl
theorem dp_part {K : PySem.W.Frag} {H : Hp} {l t a : Addr} {n N : Nat} (h1 : H l = some (.lst [.ref t])) (h2 : H t = some (.tup [.ref a, .int (N : Int)])) (h3 : H a = some (.tup (rv (List.replicate n 0)))) : Dp K H (.ref l) (dPart n N) := by
  rw [rv_zero] at h3
  exact .lst (SqL.of h1) (.cons (.tup (SqT.of h2) (.cons (.tup (SqT.of h3) (dp_ints _)) (.cons (.int _) .nil))) .nil)
end LH
/-! Defs that show: called where no repr is under way; the line. -/
namespace LH
open PySem PySem.Spec PyProof.Rows L2 KR KW
/-- a def's promise, where nothing is being shown -/
structure GdG (P : Program) (w : World) (K : PySem.W.Frag) (mg : Str → Option Value) (base : Heap) (k : Nat) (x : Str) (ps : List Str) (sp : Sp) : Prop where
  ex : ∃ f fd, mg x = some (.ref f) ∧ PySem.W.keepIn K (.ref f) = true ∧ Binds K fd ps [] ∧ (∀ vs H Q E, sp vs H Q E → vs.length = ps.length) ∧
    ∀ (A : Around) (outer : List Env) (s : Shared) (H : Hp) (us : List Value) (vs : List V) (Q : VK) (E : XK), A.guards = some [] → Room k A → Env0 P w K mg base A outer s H → Vals vs us → sp vs H Q E → BindsTo s fd ⟨us, []⟩ (ps.zip us) →
      codeAny (model P w) A (.call (.ref f) ⟨us, []⟩) (CR (L2.CX P w) outer P w H s Q E) s
section
variable {X : Cx} {k : Nat} {x : Str} {ps : List Str} {sp : Sp} {e : Expr} {es : List Expr} {t : TA} {p pos : Pos}
theorem pe_gdG (G : GdG X.prog X.w X.K X.mg X.base k x ps sp) (hG : X.A.guards = some []) (hr : Room k X.A) (ha : PA X (e :: es) t) (hg : Gl X x := by rfl) (hdb : (x == ("__debug__" : Str)) = false := by decide)
    (he : starEach (e :: es) X.env = (false, eval e X.env) :: starEach es X.env := by rfl) (hpl : (backTo pos (starEach es X.env)).any (·.1) = false := by rfl) : PE X (.Call (.Name x p) (e :: es) [] pos) (tCall sp [] C8.E0 t) := by
  obtain ⟨f, fd, gm, kp, b, len, run⟩ := G.ex
  constructor
  intro pins s σ H Q I h
  refine wpAny_Call_Name_kw (ld_glob I hg gm ?_ hdb)
  refine PySem.W.callWith_K (h₀ := X.base) I.ok.mod.kin kp (thn (ha.run pos pins s σ H _ I h) fun us s1 hh => ?_) he hpl
  obtain ⟨vs, H1, I1, r, q⟩ := hh
  refine ⟨I1.kIn, ?_⟩
  have q' : sp vs H1 Q C8.E0 := by
    have z : sp (vs ++ []) H1 Q C8.E0 := q
    rw [List.append_nil] at z
    exact z
  have hl : (us ++ []).length = ps.length := by
    rw [List.append_nil, ← r.length]
    exact len _ _ _ _ q'
  have bd := b s1 us I1.kIn hl
  rw [List.append_nil] at bd
  refine wpAny_call (codeAny_mono (run X.A X.stack s1 H1 us vs Q C8.E0 hG hr I1.env0 r q' bd) fun res s2 hq => ?_)
  cases res with
  | error e =>
    obtain ⟨_, _, _, _, _, _, _, _, _, _, _, _, z⟩ := hq
    exact z.elim
  | ok fl =>
    cases fl with
    | ret u => exact I1.after hq
    | next => exact hq.elim
    | brk => exact hq.elim
    | cont => exact hq.elim
end
section
variable {P : Program} {w : World} {K : PySem.W.Frag} {mg : Str → Option Value} {base : Heap} {C CR CN CT : Addr}
theorem mkG {x : Str} {st : Stmt} {N ps : List Str} {k : Nat} {sp : Sp} (D : Dn K mg x st) (S : FnScope N ps (defScope st)) (len : ∀ vs H Q E, sp vs H Q E → vs.length = ps.length)
    (binds : ∀ f fd, Fun K x x st f fd → Binds K fd ps [])
    (hbody : ∀ (f : Addr) (cdv : Value) (A : Around) (outer : List Env) (s : Shared) (H : Hp) (vs : List V) (Q : VK) (E : XK), A.guards = some [] → Room k (A.deeper (envOfC x (defScope st) s.heap.objs.size f cdv)) → sp vs H Q E →
      ∃ t, PSs (cxOf (L2.CX P w) P w K mg base N x (defScope st) f cdv A outer s H E) (defBody st) t ∧ t { nx := fun _ H' => Q .non H', rt := Q } (L2.start N vs) H) : GdG P w K mg base (k + 1) x ps sp := by
  obtain ⟨f, fd, gm, F⟩ := D
  have b := binds f fd F
  have kp := F.kp
  obtain ⟨oc, od, kV, doc, pm, an, cdv, ct, osl, rfl, lk, hcd⟩ := F.ex
  refine ⟨f, _, gm, kp, b, len, fun A outer s H us vs Q E hG hr e0 r hsp hb => ?_⟩
  exact LamX.run_ofS lk hcd S hr e0 hb r (len _ _ _ _ hsp) fun hr2 => hbody f cdv A outer s H vs Q E hG hr2 hsp
/-- the class makes books -/
structure Gn (P : Program) (w : World) (K : PySem.W.Frag) (mg : Str → Option Value) (base : Heap) (C : Addr) : Prop where
  ex : ∃ f fd, Mk K C f ∧ Binds K fd ["self", "many", "hands"] [] ∧ FnOk P w K mg base (L2.CX P w) 6 f fd ["self", "many", "hands"] (spInit C)
def spLine : Sp := fun vs H Q _ => ∃ (n f : Nat), vs = [.int (n : Int), .int (f : Int)] ∧ 1 ≤ n ∧ n ≤ 6 ∧ 1 ≤ f ∧ f ≤ 2 ∧ ∀ H', Same H H' → Q (.bl true) H'
abbrev nmLine : List Str := ["_law_length", "_law_first", "_law_flip", "_law_other_hand", "_law_book", "_law_size", "_law_place", "_law_one", "_law_last", "_law_due", "_law_hand"]
theorem scLine : FnScope nmLine ["_law_length", "_law_first"] (defScope sLine) := ⟨rfl, rfl, rfl, by decide +kernel, rfl, by decide +kernel, by decide +kernel⟩
abbrev teHand (K : PySem.W.Frag) : TE := tOp (rIxL K) (tLst (tCons (tVar 2) (tCons (tVar 3) tNil))) (tOp (rI (fun _ j => 0 < j) fun i j => .int (i % j)) (tOp (rI0 fun i j => .int (i + j)) (tOp (rI0 fun i j => .int (i + j)) (tVar 10) (tVar 1)) (tC (.int 1))) (tC (.int 2)))
theorem lines {f n : Nat} (f1 : 1 ≤ f) (f2 : f ≤ 2) (n1 : 1 ≤ n) (n6 : n ≤ 6) :
    (∃ L, Over (sent (lbook f)) (steps 2) (List.replicate n 0) (upto (sent (lbook f)) (steps 2) (List.replicate n 0)) (2 ^ n) ∧ upto (sent (lbook f)) (steps 2) (List.replicate n 0) (2 ^ n) = L ∧ ((level 2 n).all fun r => (keys L).contains r) = true) ∧
    (∃ L, Over (sent (lbook f)) (steps 2) (List.replicate n 1) (upto (sent (lbook f)) (steps 2) (List.replicate n 1)) (2 ^ n) ∧ upto (sent (lbook f)) (steps 2) (List.replicate n 1) (2 ^ n) = L ∧ (look L (lend n) == some (lineWd f n)) = true) ∧
    ∃ L, Over (sent (lbook f)) (steps 2) (lend n) (upto (sent (lbook f)) (steps 2) (lend n)) (2 ^ n) ∧ upto (sent (lbook f)) (steps 2) (lend n) (2 ^ n) = L ∧ (look L (List.replicate n 1) == some (lineWd f n)) = true := by
  have h := line_ok f1 f2 n1 n6
  unfold lineOk at h
  rw [Bool.and_eq_true, Bool.and_eq_true] at h
  exact ⟨lrun_over (p := fun L => (level 2 n).all fun r => (keys L).contains r) h.1.1, lrun_over (p := fun L => look L (lend n) == some (lineWd f n)) h.1.2, lrun_over (p := fun L => look L (List.replicate n 1) == some (lineWd f n)) h.2⟩
theorem gd_line (D : Dn K mg "_law_line_right" sLine) (T : Tops mg) (BT : BkT K mg C) (GN : Gn P w K mg base C) (GP : Gd P w K mg base 8 "parts" ["book", "length"] (spParts C CN CT)) (GW : Gd P w K mg base 8 "way" ["book", "row", "other"] (spWay C CR CT)) :
    GdG P w K mg base 9 "_law_line_right" ["_law_length", "_law_first"] spLine := by
  obtain ⟨fI, fdI, mkI, bI, FI⟩ := GN.ex
  refine mkG D scLine (fun vs H Q E h => ?_) (fun f fd F => F.binds fun _ _ _ _ _ _ us hl => match us, hl with | [_, _], _ => rfl) (fun f_ cdv A outer s H vs Q E hG hr h => ?_)
  · obtain ⟨n, f, rfl, _⟩ := h
    rfl
  · obtain ⟨n, f, rfl, n1, n6, f1, f2, k⟩ := h
    refine ⟨_, pss_cons (ps_set (i := 2) scLine.nd rfl (.inr rfl) (pe_tup (pa_cons (pe_tupF (pa_cons pe_int (pa_cons pe_int pa_nil))) (pa_cons (pe_tup (pa_cons pe_int (pa_cons pe_int pa_nil))) pa_nil))))
      (pss_cons (ps_set (i := 3) scLine.nd rfl (.inr rfl) (pe_tup (pa_cons (pe_tupF (pa_cons pe_int (pa_cons pe_int pa_nil))) (pa_cons (pe_tup (pa_cons (pv 1) (pa_cons (pe_op op_sub pe_int (pv 1)) pa_nil))) pa_nil))))
      (pss_cons (ps_set (i := 4) scLine.nd rfl (.inl rfl) (pe_make mkI FI (hr.mono (by decide)) rfl BT.mgC bI .nil passL (pa_cons pe_int (pa_cons
        (pe_lc (own := [("_law_hand", 10)]) (g := gName 10) (tt := tYes) (te := teHand K) rfl scLine.nd (pi_range1 rfl T.range (pa_cons pe_int pa_nil)) (blkOk_by (N := nmLine) (sc := defScope sLine) (by decide +kernel))
          (fun _ _ _ _ _ => pg_name (i := 10) scLine.nd rfl (Or.inl rfl)) (fun _ _ _ _ _ => pts_nil)
          (fun _ _ _ _ _ => pe_ix ix_list (pe_lst (pa_cons (pv 2) (pa_cons (pv 3) pa_nil))) (pe_op op_mod (pe_op op_add (pe_op op_add (pv 10) (pv 1)) pe_int) pe_int) (fun _ _ => rfl))) pa_nil))))
      (pss_cons (ps_set (i := 5) scLine.nd rfl (.inl rfl) pe_int)
      (pss_cons (ps_for (passes_of rfl) rfl (pi_range1 rfl T.range (pa_cons (pe_op op_sub (pv 0) pe_int) pa_nil)) (pg_name (i := 6) scLine.nd rfl (Or.inl rfl)) (pss_one (ps_aug (i := 5) scLine.nd rfl (.inl rfl) pe_int (ip_of iop_mul))))
      (pss_cons (ps_set (i := 7) scLine.nd rfl (.inl rfl) (pe_op op_mulT (pe_tup (pa_cons pe_int pa_nil)) (pv 0)))
      (pss_cons (ps_set (i := 8) scLine.nd rfl (.inl rfl) (pe_op op_cat2 (pe_op op_mulT (pe_tup (pa_cons pe_int pa_nil)) (pe_op op_sub (pv 0) pe_int)) (pe_tup (pa_cons pe_int pa_nil))))
      (pss_cons (ps_set (i := 9) scLine.nd rfl (.inl rfl) (pe_callB (call_repr hG) (by rfl) T.repr (by decide +kernel) (pa_cons (pe_op op_cat2 (pe_op op_mulT (pe_tup (pa_cons (pv 1) (pa_cons (pe_op op_sub pe_int (pv 1)) pa_nil))) (pe_op op_sub (pv 5) pe_int)) (pe_tup (pa_cons (pv 1) pa_nil))) pa_nil)))
      (pss_cons (ps_if (pt_cmpR op_ne (pe_callB (call_repr hG) (by rfl) T.repr (by decide +kernel) (pa_cons (pe_gd GP (by exact hr) passL (pa_cons (pv 4) (pa_cons (pv 0) pa_nil))) pa_nil))
          (pe_callB (call_repr hG) (by rfl) T.repr (by decide +kernel) (pa_cons (pe_lst (pa_cons (pe_tup (pa_cons (pe_op op_mulT (pe_tup (pa_cons pe_int pa_nil)) (pv 0)) (pa_cons (pe_op op_mul pe_int (pv 5)) pa_nil))) pa_nil)) pa_nil)) (nomark _))
        (pss_one ps_never) pss_nil)
      (pss_one (ps_ret (pe_and (pe_cmpR op_eq (pe_callB (call_repr hG) (by rfl) T.repr (by decide +kernel) (pa_cons (pe_gd GW (by exact hr) passL (pa_cons (pv 4) (pa_cons (pv 7) (pa_cons (pv 8) pa_nil)))) pa_nil)) (pv 9) (nomark _))
        (pe_one (pe_cmpR op_eq (pe_callB (call_repr hG) (by rfl) T.repr (by decide +kernel) (pa_cons (pe_gd GW (by exact hr) passL (pa_cons (pv 4) (pa_cons (pv 8) (pa_cons (pv 7) pa_nil)))) pa_nil)) (pv 9) (nomark _)))))))))))))), ?_⟩
    have two : 2 ≤ sizeLine := by decide
    have one : 1 ≤ sizeLine := by decide
    have LB : okB 2 (lbook f) = true ∧ (lbook f).length = 2 := by
      rcases (show f = 1 ∨ f = 2 by omega) with rfl | rfl
      · exact ⟨lb_okB.1, rfl⟩
      · exact ⟨lb_okB.2, rfl⟩
    obtain ⟨bok, blen⟩ := LB
    have p64 : 2 ^ n ≤ 64 := Nat.le_trans (Nat.pow_le_pow_right (by decide) n6) (by decide)
    have ppos : 0 < 2 ^ (n - 1) := Nat.pow_pos (by decide)
    have pdbl : 2 * 2 ^ (n - 1) = 2 ^ n := by
      have e : n = (n - 1) + 1 := by omega
      rw [e, Nat.pow_succ, Nat.add_sub_cancel, Nat.mul_comm]
    obtain ⟨⟨L0, O0, E0, A0⟩, ⟨L1, O1, E1, A1⟩, L2, O2, E2, A2⟩ := lines f1 f2 n1 n6
    have unit : ∀ d : PyData, OkShow d → (A.deeper (envOfC "_law_line_right" (defScope sLine) s.heap.objs.size f_ cdv)).units + (d.depth + 1) < cLine := fun d hd => by
      have u := hr.un
      have := hd.dp
      omega
    have wlen : (lineWd f n).length ≤ 1000 := by
      unfold lineWd
      rw [List.length_append, List.length_flatten, List.map_replicate, List.sum_replicate_nat]
      show (2 ^ (n - 1) - 1) * 2 + 1 ≤ 1000
      omega
    have wsm : ∀ i ∈ lineWd f n, i.natAbs ≤ 1000 := fun i hi => by
      unfold lineWd at hi
      rcases List.mem_append.mp hi with h | h
      · obtain ⟨l, hl, hi⟩ := List.mem_flatten.mp h
        rw [(List.mem_replicate.mp hl).2] at hi
        rcases List.mem_cons.mp hi with h | h
        · omega
        · have := List.mem_singleton.mp h
          omega
      · have := List.mem_singleton.mp h
        omega
    have shW := show_wd wsm wlen
    have shP : OkShow (dPart n (2 ^ n)) := show_part (by omega) (by omega)
    -- the two hands
    refine ⟨two, fun t1 H1 s1 e1 => ⟨two, fun o1 h1 => ⟨two, fun p1 g1 => ?_⟩⟩⟩
    have sa := (s1.trans (same_new (o := .tup [V.int 0, V.int 0]) h1)).trans (same_new (o := .tup [V.ref t1, V.ref o1]) g1)
    have pa : PairAt (upd (upd H1 o1 (.tup [V.int 0, V.int 0])) p1 (.tup [V.ref t1, V.ref o1])) p1 ([1, 0], [0, 0]) :=
      ⟨t1, o1, upd_same, (e1.same (same_new h1)).same (same_new g1), same_new g1 _ _ upd_same⟩
    generalize upd (upd H1 o1 (.tup [V.int 0, V.int 0])) p1 (.tup [V.ref t1, V.ref o1]) = Ha at sa pa ⊢
    refine ⟨two, fun t2 H2 s2 e2 => ⟨_, rfl, _, rfl, _, _, rfl, rfl, two, fun o2 h2 => ⟨two, fun p2 g2 => ?_⟩⟩⟩
    have sb := (s2.trans (same_new (o := .tup [V.int (f : Int), V.int (3 - (f : Int))]) h2)).trans (same_new (o := .tup [V.ref t2, V.ref o2]) g2)
    have pb : PairAt (upd (upd H2 o2 (.tup [V.int (f : Int), V.int (3 - (f : Int))])) p2 (.tup [V.ref t2, V.ref o2])) p2 ([0, 1], [(f : Int), 3 - (f : Int)]) :=
      ⟨t2, o2, upd_same, (e2.same (same_new h2)).same (same_new g2), same_new g2 _ _ upd_same⟩
    generalize upd (upd H2 o2 (.tup [V.int (f : Int), V.int (3 - (f : Int))])) p2 (.tup [V.ref t2, V.ref o2]) = Hb at sb pb ⊢
    have pa := pa.same sb
    have sb := sa.trans sb
    -- the book
    refine ⟨2, rfl, by decide, by decide, fun D hD => ?_⟩
    refine lc_rangeF (n := 2) (fun i => if (i + f + 1) % 2 = 0 then V.ref p1 else V.ref p2) hD two (fun i Hc hi sc Q1 R1 k1 => ?_) (fun Hc sc ec => ?_)
    · refine ⟨rfl, ⟨_, rfl, _, rfl, two, fun l hl => ⟨_, rfl, _, rfl, _, _, rfl, rfl, _, _, rfl, rfl, _, _, rfl, rfl, (by show (0 : Int) < 2; decide), l, _, _, _, rfl, rfl, SqL.of upd_same, ?_, k1 _ (same_new hl)⟩⟩⟩
      have e : ((0 : Int) + (i : Int) + (f : Int) + 1) % 2 = (((i + f + 1) % 2 : Nat) : Int) := by omega
      rw [e]
      refine atI_nat ?_
      rcases Nat.mod_two_eq_zero_or_one (i + f + 1) with z | z
      · rw [z]
        rfl
      · rw [z]
        rfl
    · have s0c := sb.trans sc
      intro b dx hb hdx hne
      have sg := (same_new (o := .own b) hdx).trans (same_new (H := upd Hc dx (.own b)) (q := b) (o := .ins C dx []) (by rw [upd_ne hne.symm]; exact hb))
      have pa := (pa.same sc).same sg
      have pb := (pb.same sc).same sg
      have eD := sg _ _ ec
      have inst : (upd (upd Hc dx (.own b)) b (.ins C dx [])) b = some (.ins C dx []) := upd_same
      have fit : ∃ ps : List Addr, (List.range 2).map (fun i => if (i + f + 1) % 2 = 0 then V.ref p1 else V.ref p2) = ps.map V.ref ∧ Prs (upd (upd Hc dx (.own b)) b (.ins C dx [])) ps (lbook f) := by
        rcases (show f = 1 ∨ f = 2 by omega) with rfl | rfl
        · exact ⟨[p1, p2], rfl, .cons pa (.cons pb .nil)⟩
        · exact ⟨[p2, p1], rfl, .cons pb (.cons pa .nil)⟩
      obtain ⟨ps, eps, hps⟩ := fit
      rw [eps] at eD
      refine ⟨b, dx, D, 2, ps, lbook f, rfl, inst, eD, hps, bok, fun H3 s3 hB => ⟨rfl, ?_⟩⟩
      have s3 : Same H H3 := fun c o e => s3 c o (sg _ _ (s0c _ _ e)) (ne_of_none (s0c _ _ e) hb)
      -- size
      refine ⟨_, rfl, _, _, rfl, rfl, (n : Int) - 1, rfl, by omega, by omega, ?_⟩
      rw [show ((n : Int) - 1).toNat = n - 1 by omega]
      refine for_range (lo := 0) (n := n - 1) (fun i σ Hx => Hx = H3 ∧ ∃ v6 : Option V, σ = [some (.int (n : Int)), some (.int (f : Int)), some (.ref p1), some (.ref p2), some (.ref b), some (.int ((2 ^ i : Nat) : Int)), v6, none, none, none, none]) ⟨rfl, none, rfl⟩ ?_ ?_
      · rintro i σ Hx hi ⟨rfl, v6, rfl⟩
        refine ⟨_, rfl, _, _, rfl, rfl, .inr ⟨by decide, by decide⟩, rfl, some (.int (0 + (i : Int))), ?_⟩
        have e : ((2 ^ i : Nat) : Int) * 2 = ((2 ^ (i + 1) : Nat) : Int) := by
          rw [Nat.pow_succ, Int.natCast_mul]
          rfl
        show [some (V.int (n : Int)), some (V.int (f : Int)), some (V.ref p1), some (V.ref p2), some (V.ref b), some (V.int (((2 ^ i : Nat) : Int) * 2)), some (V.int (0 + (i : Int))), none, none, none, none] = _
        rw [e]
      · rintro σ Hx ⟨rfl, v6, rfl⟩
        -- the two ends
        refine ⟨one, fun t ht => ⟨_, rfl, t, n, _, rfl, rfl, upd_same, by simp, by omega, by show 1 ≤ 1000; decide, fun q1 H4 s4 e4 => ?_⟩⟩
        have s4 := (same_new ht).trans s4
        rw [flat_one] at e4
        refine ⟨one, fun t ht => ⟨_, rfl, _, _, rfl, rfl, t, n - 1, _, rfl, congrArg V.int (by omega), upd_same, by simp, by omega, by show 1 ≤ 1000; decide, fun q2 H5 s5 e5 => ?_⟩⟩
        have s5 := (same_new ht).trans s5
        rw [flat_one] at e5
        refine ⟨one, fun t ht => ⟨q2, t, _, _, rfl, rfl, same_new ht _ _ e5, upd_same, by rw [List.length_replicate, sizeLine_eq]; show n - 1 + 1 ≤ _; omega, fun q3 H6 s6 e6 => ?_⟩⟩
        have s6 := (s5.trans (same_new ht)).trans s6
        -- due
        refine ⟨_, rfl, _, rfl, _, _, rfl, rfl, two, fun t ht => ⟨_, rfl, _, _, rfl, rfl, t, 2 ^ (n - 1) - 1, _, rfl, congrArg V.int (by omega), upd_same, by simp, by omega, by show 2 ≤ 1000; decide, fun q4 H7 s7 e7 => ?_⟩⟩
        have s7 := (same_new ht).trans s7
        refine ⟨_, rfl, one, fun t ht => ⟨q4, t, _, _, rfl, rfl, same_new ht _ _ e7, upd_same, ?_, fun q5 H8 s8 e8 => ?_⟩⟩
        · rw [List.length_flatten, List.map_replicate, List.sum_replicate_nat, sizeLine_eq]
          show (2 ^ (n - 1) - 1) * 2 + 1 ≤ _
          omega
        have s8 := (s7.trans (same_new ht)).trans s8
        have ed : H8 q5 = some (.tup (wv (lineWd f n))) := by
          rw [e8]
          unfold lineWd wv
          rw [List.map_append, List.map_flatten, List.map_replicate]
          rfl
        refine ⟨q5, _, rfl, dp_wd ed, shW.sh, shW.nd, unit _ shW, shW.len, ?_⟩
        have s48 := (s4.trans s6).trans s8
        have s3 := s3.trans s48
        have hB := hB.same s48
        have r1 : RowAt H8 2 q1 (List.replicate n 1) := by
          refine ⟨?_, by rw [List.length_replicate]; omega, fun x hx => by rw [(List.mem_replicate.mp hx).2]; decide⟩
          rw [s8 _ _ (s6 _ _ e4)]
          unfold rv
          rw [List.map_replicate]
          rfl
        have ll : (lend n).length = n := by
          unfold lend
          rw [List.length_append, List.length_replicate]
          show n - 1 + 1 = n
          omega
        have r2 : RowAt H8 2 q3 (lend n) := by
          refine ⟨?_, by rw [ll]; omega, fun x hx => ?_⟩
          · rw [s8 _ _ e6]
            unfold rv lend
            rw [List.map_append, List.map_replicate]
            rfl
          · unfold lend at hx
            rcases List.mem_append.mp hx with hx | hx
            · rw [(List.mem_replicate.mp hx).2]
              decide
            · rw [List.mem_singleton.mp hx]
              decide
        clear s4 s5 s6 s7 s8 e4 e5 e6 e7 e8
        have O0 : Over (sent (lbook f)) (steps (lbook f).length) (List.replicate n 0) (upto (sent (lbook f)) (steps 2) (List.replicate n 0)) (2 ^ n) := by rw [blen]; exact O0
        have O1 : Over (sent (lbook f)) (steps (lbook f).length) (List.replicate n 1) (upto (sent (lbook f)) (steps 2) (List.replicate n 1)) (2 ^ n) := by rw [blen]; exact O1
        have O2 : Over (sent (lbook f)) (steps (lbook f).length) (lend n) (upto (sent (lbook f)) (steps 2) (lend n)) (2 ^ n) := by rw [blen]; exact O2
        have small2 : small 2 n = true := by
          unfold small
          rw [decide_eq_true n6]
          rfl
        refine ⟨_, rfl, _, rfl, b, 2, lbook f, _, rfl, hB, bok, .inr (.inr ⟨n, _, 2 ^ n, rfl, small2, O0, by omega, fun r hr => ?_, fun H9 l t a s9 k1 k2 k3 => ?_⟩)⟩
        · have z := (List.all_eq_true.mp A0) r hr
          rw [E0]
          simpa using z
        refine ⟨l, _, rfl, dp_part k1 k2 k3, shP.sh, shP.nd, unit _ shP, shP.len, ?_⟩
        refine ⟨one, fun z hz => ⟨_, rfl, z, n, _, rfl, rfl, upd_same, by simp, by omega, by show 1 ≤ 1000; decide, fun zz H10 s10 e10 => ?_⟩⟩
        have s10 := (same_new hz).trans s10
        rw [flat_one] at e10
        refine ⟨_, rfl, _, _, rfl, rfl, .inl ⟨by decide, by decide⟩, two, fun t2 h2 => ⟨one, fun l2 g2 => ?_⟩⟩
        have s11 := (same_new (o := .tup [V.ref zz, V.int (2 * ((2 ^ (n - 1) : Nat) : Int))]) h2).trans (same_new (o := .lst [V.ref t2]) g2)
        have ez : (upd (upd H10 t2 (.tup [V.ref zz, V.int (2 * ((2 ^ (n - 1) : Nat) : Int))])) l2 (.lst [V.ref t2])) t2 = some (.tup [V.ref zz, V.int (((2 ^ n : Nat)) : Int)]) := by
          rw [same_new g2 _ _ upd_same, ← pdbl, Int.natCast_mul]
          rfl
        have e10 : H10 zz = some (.tup (rv (List.replicate n 0))) := by
          rw [e10]
          unfold rv
          rw [List.map_replicate]
          rfl
        refine ⟨l2, _, rfl, dp_part upd_same ez (s11 _ _ e10), shP.sh, shP.nd, unit _ shP, shP.len, ?_⟩
        refine ⟨rfl, _, rfl, ?_⟩
        have s911 := (s9.trans s10).trans s11
        have s3 := s3.trans s911
        have hB := hB.same s911
        have r1 := r1.same s911
        have r2 := r2.same s911
        clear s9 s10 s11 e10
        rw [decide_eq_true rfl]
        refine iteF ?_
        refine ⟨_, rfl, _, rfl, _, rfl, b, 2, lbook f, _, _, rfl, hB, bok, .inr ⟨q1, q3, _, _, rfl, rfl, r1, r2, .inr (.inr ⟨?_, ?_, _, 2 ^ n, lineWd f n, O1, by omega, ?_, fun Hd p sd ep => ?_⟩)⟩⟩
        · rw [List.length_replicate, ll]
        · rw [List.length_replicate]
          omega
        · rw [E1]
          exact beq_iff_eq.mp A1
        refine ⟨p, _, rfl, dp_wd ep, shW.sh, shW.nd, unit _ shW, shW.len, _, rfl, rfl, true, congrArg V.bl (decide_eq_true rfl), iteT ?_⟩
        have r1 := r1.same sd
        have r2 := r2.same sd
        refine ⟨_, rfl, _, rfl, _, rfl, b, 2, lbook f, _, _, rfl, hB.same sd, bok, .inr ⟨q3, q1, _, _, rfl, rfl, r2, r1, .inr (.inr ⟨?_, ?_, _, 2 ^ n, lineWd f n, O2, by omega, ?_, fun He p2 se ep2 => ?_⟩)⟩⟩
        · rw [List.length_replicate, ll]
        · rw [ll]
          omega
        · rw [E2]
          exact beq_iff_eq.mp A2
        refine ⟨p2, _, rfl, dp_wd ep2, shW.sh, shW.nd, unit _ shW, shW.len, _, rfl, rfl, ?_⟩
        rw [decide_eq_true rfl]
        exact k He ((s3.trans sd).trans se)
end
end LH
/-! _law_refused. -/
namespace LH
open PySem PySem.Spec PyProof.Rows L2 KR KW
/-! ### what is kept while tables of code objects grow -/
open LamX (ExtN Tabs TabB)
theorem ext_same {H H' : Hp} (s : Same H H') : ExtN H H' := fun b o e _ => s b o e
theorem ext_lst {H H' : Hp} (x : ExtN H H') {a : Addr} {xs : List V} (e : H a = some (.lst xs)) : H' a = some (.lst xs) := x _ _ e fun _ z => nomatch z
theorem ext_tup {H H' : Hp} (x : ExtN H H') {a : Addr} {xs : List V} (e : H a = some (.tup xs)) : H' a = some (.tup xs) := x _ _ e fun _ z => nomatch z
theorem TupF.ext {H H' : Hp} {a : Addr} {xs : List V} (h : TupF H a xs) (x : ExtN H H') : TupF H' a xs := by
  obtain ⟨o, e, d⟩ := h
  exact ⟨o, x _ _ e (fun _ z => nomatch z), d⟩
theorem PairAt.ext {H H' : Hp} {p : Addr} {h : KW.Row × Wd} (q : PairAt H p h) (x : ExtN H H') : PairAt H' p h := by
  obtain ⟨t, o, a, b, c⟩ := q
  exact ⟨t, o, ext_tup x a, TupF.ext b x, ext_tup x c⟩
theorem BkAt.ext {C : Addr} {H H' : Hp} {b : Addr} {m : Nat} {B : Hds} (q : BkAt C H b m B) (x : ExtN H H') : BkAt C H' b m B := by
  obtain ⟨dx, pl, ps, a, e, c⟩ := q
  exact ⟨dx, pl, ps, x _ _ a (fun _ z => nomatch z), ext_lst x e, Paired.mapP c fun _ _ z => z.ext x⟩
theorem Th.ext {H H' : Hp} {x : V} {n : String} (t : Th H x n) (s : ExtN H H') : Th H' x n := by
  cases t with
  | non => exact .non
  | bl b => exact .bl b
  | int i => exact .int i
  | str z => exact .str z
  | lst e => exact .lst (ext_lst s e)
  | tup e => exact .tup (ext_tup s e)
theorem RowQ.ext {H H' : Hp} {m : Nat} {x : V} {r : Bool} (q : RowQ H m x r) (s : ExtN H H') : RowQ H' m x r := by
  rcases q with ⟨n, t, h⟩ | ⟨a, xs, e, h, c⟩
  · exact .inl ⟨n, t.ext s, h⟩
  · refine .inr ⟨a, xs, e, ext_tup s h, ?_⟩
    rcases c with c | ⟨c1, c2, c3⟩
    · exact .inl c
    · exact .inr ⟨c1, fun y hy => let ⟨n, t⟩ := c2 y hy; ⟨n, t.ext s⟩, c3⟩
theorem RowAt.ext {H H' : Hp} {m : Nat} {a : Addr} {r : KW.Row} (q : RowAt H m a r) (s : ExtN H H') : RowAt H' m a r := ⟨ext_tup s q.1, q.2⟩
theorem rowAt_zero {H : Hp} {m n : Nat} {a : Addr} (hm : 0 < m) (hn : n ≤ 100) (e : H a = some (.tup (List.replicate n (V.int 0)))) : RowAt H m a (List.replicate n 0) := by
  refine ⟨?_, by rw [List.length_replicate]; exact hn, fun x hx => by rw [(List.mem_replicate.mp hx).2]; exact hm⟩
  rw [e]
  unfold rv
  rw [List.map_replicate]
  rfl
/-! ### one name in a list -/
theorem one_str (z : Str) (hz : PyData.strOk z = true) : SeqAt.shaped (.list [.str z]) = true ∧ PyData.eqv (.list [.str z]) (.list [.str z]) = true := by
  have h1 : (PyData.list [.str z]).canLay0 = true := by simp [PyData.canLay0, PyData.canLayAll0, hz]
  have h2 : (PyData.list [.str z]).depth ≤ 64 := by simp [PyData.depth, PyData.depthAll]
  exact ⟨by unfold SeqAt.shaped; rw [h1, decide_eq_true h2] <;> rfl, PySem.SeqAt.eqv_refl _ h1⟩
theorem ne_read {K : PySem.W.Frag} {z : Str} (hz : PyData.strOk z = true) {H2 : Hp} {l : Addr} (e : H2 l = some (.lst [.str z])) {NV cont : Hp → Prop} (k : ∀ H3, Same H2 H3 → cont H3) :
    1 ≤ sizeLine ∧ ∀ l2, H2 l2 = none → rNeD K (.ref l) (.ref l2) (upd H2 l2 (.lst [.str z])) (fun v H3 => ∃ b, v = .bl b ∧ if b = true then NV H3 else cont H3) := by
  obtain ⟨S1, S2⟩ := one_str z hz
  refine ⟨by decide, fun l2 h2 => ⟨.list [.str z], .list [.str z], .lst (SqL.of (same_new h2 _ _ e)) (.cons (.str z) .nil), .lst (SqL.of upd_same) (.cons (.str z) .nil), S1, S1, _, rfl, ?_⟩⟩
  rw [S2]
  exact iteF (k _ (same_new h2))
/-! ### the call of _law_refusals -/
section
variable {X : Cx}
theorem pe_ref {Tt : List (Addr × Str)} {CE c Pt : Addr} {cs : Nat → Addr} {k : Nat} {params : Arguments} {body : Expr} {scope : Scope} {t : XK → TE} {p lpos pos : Pos} (D : Dn X.K X.mg "_law_refusals" sRefusals) (T : Tops X.mg) (ER : Errs X.mg CE cs)
    (TB : TabB X.base X.mg c Pt) (hcode : X.env.code = .ref c) (hmT : (Pt, X.env.qual ++ "<lambda>") ∈ Tt) (hu : ∀ p ∈ Tt, p.1 = Pt → p.2 = X.env.qual ++ "<lambda>") (hr : Room (k + 2) X.A)
    (hbody : ∀ (A : Around) (outer : List Env) (s : Shared) (H : Hp) (E : XK) (f c' : Addr), Room k (A.deeper (LamX.lamEnv X scope s.heap.objs.size f c')) → PE (LamX.lamCx X A outer s H E scope f c') body (t E))
    (hg : Gl X "_law_refusals" := by rfl) (L : LamX.LamS X.env.scope scope := by exact LamX.lamS_by rfl) (hdef : defaultsOf params X.env = ([], []) := by rfl)
    (hbind : ∀ (q : Str) (cl : List (Str × Addr)) (pm cv ctv : Value), bindArgs (PySem.W.kla_fn "<lambda>" q params body scope cl pm cv ctv) ⟨[], []⟩ = pure [] := by intros; rfl) :
    PE X (.Call (.Name "_law_refusals" p) [.Lambda params body scope lpos] [] pos) (LamX.tLam Tt (TTR X.K CE cs) t) := by
  obtain ⟨f, fd, gm, F⟩ := D
  have b := F.binds (ps := ["_law_ask"]) fun _ _ _ _ _ _ us hl => match us, hl with | [_], _ => rfl
  have kp := F.kp
  obtain ⟨oc, od, kV, doc, pm, an, cdv, ct, osl, rfl, lk, hcd⟩ := F.ex
  exact LamX.pe_lamcall hg gm kp lk hcd b scRefusals rfl (.inl rfl) (refusals_gives T ER) TB hcode hmT hu hr L hdef hbind hbody
end
section
variable {P : Program} {w : World} {K : PySem.W.Frag} {mg : Str → Option Value} {base : Heap} {C CR CN CT CE c Pt : Addr} {cs : Nat → Addr}
/-- a def whose code object stands at c -/
structure Dc (K : PySem.W.Frag) (mg : Str → Option Value) (x : Str) (st : Stmt) (f c : Addr) : Prop where
  g : mg x = some (.ref f)
  kp : PySem.W.keepIn K (.ref f) = true
  ci : PySem.W.codeIn K (.ref c) x = true
  lk : ∃ (oc : Value) (od : Option Addr) (kV doc pm : Value) (an : Option Addr) (ct : Value) (osl : Array (Option Value)), K.lookup f = some ⟨oc, od, .func (PySem.W.fnOf x x (defArgs st) (defBody st) (defScope st) .none kV doc pm an (.ref c) ct), osl⟩
abbrev nmRef : List Str := ["_law_book", "_law_many", "_law_length", "_law_long", "_law_two_rows", "_law_good", "_law_one", "_law_other", "_law_thing"]
theorem scRef : FnScope nmRef ["_law_book", "_law_many", "_law_length", "_law_long"] (defScope sRefused) := ⟨rfl, rfl, rfl, by decide +kernel, rfl, by decide +kernel, by decide +kernel⟩
def qualRef : Str := (envOfC "_law_refused" (defScope sRefused) 0 0 .none).qual ++ "<lambda>"
def spRefused (C Pt : Addr) : Sp := fun vs H Q _ => ∃ (b : Addr) (m n long : Nat) (B : Hds), vs = [.ref b, .int (m : Int), .int (n : Int), .int (long : Int)] ∧ BkAt C H b m B ∧ okB m B = true ∧ n < long ∧ long ≤ 100 ∧ n ≤ 50 ∧ Tabs [(Pt, qualRef)] H ∧ ∀ H', Q (.bl true) H'
theorem gd_refused {f : Addr} (D : Dc K mg "_law_refused" sRefused f c) (TB : TabB base mg c Pt) (T : Tops mg) (ER : Errs mg CE cs) (iR : IsErr K CE cs CR 3) (iN : IsErr K CE cs CN 5) (DR : Dn K mg "_law_refusals" sRefusals) (GX : Gd P w K mg base 1 "_law_wrong_rows" ["_law_many", "_law_length"] spWrong)
    (GP : Gd P w K mg base 8 "parts" ["book", "length"] (spParts C CN CT)) (GW : Gd P w K mg base 8 "way" ["book", "row", "other"] (spWay C CR CT)) :
    Gd P w K mg base 11 "_law_refused" ["_law_book", "_law_many", "_law_length", "_law_long"] (spRefused C Pt) := by
  obtain ⟨gm, kp, ci, oc, od, kV, doc, pm, an, ct, osl, lk⟩ := D
  have bd : Binds K (PySem.W.fnOf "_law_refused" "_law_refused" (defArgs sRefused) (defBody sRefused) (defScope sRefused) .none kV doc pm an (.ref c) ct) ["_law_book", "_law_many", "_law_length", "_law_long"] [] :=
    Binds.all fun us hl => match us, hl with | [_, _, _, _], _ => rfl
  refine ⟨f, _, gm, kp, bd, L2.fn_of lk ci scRef (fun vs H Q E h => ?_) fun A outer s H vs Q E hr h => ?_⟩
  · obtain ⟨b, m, n, long, B, rfl, _⟩ := h
    rfl
  · obtain ⟨b, m, n, long, B, rfl, hB, hok, hnl, hl, hn, hT, k⟩ := h
    obtain ⟨m2, m4, b6, _⟩ := okB_m hok
    have hmT : (Pt, qualRef) ∈ [(Pt, qualRef)] := List.mem_cons_self
    have huT : ∀ p ∈ [(Pt, qualRef)], p.1 = Pt → p.2 = qualRef := fun p hp _ => by rw [List.mem_singleton.mp hp]
    refine ⟨_, pss_cons (ps_set (i := 5) scRef.nd rfl (.inr rfl) (pe_op op_mulT (pe_tup (pa_cons pe_int pa_nil)) (pv 2)))
      (pss_cons (ps_for (passes_of rfl) rfl (pi_tup (pe_tup (pa_cons (pe_un un_neg pe_int) (pa_cons pe_int (pa_cons (pe_op op_pow pe_int pe_int) (pa_cons pe_bl (pa_cons pe_non (pa_cons pe_str (pa_cons (pe_tup (pa_cons pe_int pa_nil)) (pa_cons (pe_un un_neg (pe_op op_pow pe_int pe_int)) pa_nil)))))))))) (pg_name (i := 8) scRef.nd rfl (Or.inr rfl))
        (pss_one (ps_if (pt_cmpR (op_neD hr.units) (pe_ref (Tt := [(Pt, qualRef)]) DR T ER TB rfl hmT huT hr (fun A outer s H E f c' hr2 => pe_gd GP (by exact hr2) (passes_call (takes_of rfl rfl rfl rfl) fun _ _ _ _ h => h) (pa_cons (pv 0) (pa_cons (pv 8) pa_nil)))) (pe_lst (pa_cons pe_str pa_nil)) (nomark _)) (pss_one ps_never) pss_nil)))
      (pss_cons (ps_for (passes_of rfl) rfl (pi_list (pe_gd GX (hr.mono (by decide)) passL (pa_cons (pv 1) (pa_cons (pv 2) pa_nil)))) (pg_name (i := 8) scRef.nd rfl (Or.inr rfl))
        (pss_cons (ps_if (pt_cmpR (op_neD hr.units) (pe_ref (Tt := [(Pt, qualRef)]) DR T ER TB rfl hmT huT hr (fun A outer s H E f c' hr2 => pe_gd GW (by exact hr2) (passes_call (takes_of rfl rfl rfl rfl) fun _ _ _ _ h => h) (pa_cons (pv 0) (pa_cons (pv 8) (pa_cons (pv 5) pa_nil))))) (pe_lst (pa_cons pe_str pa_nil)) (nomark _)) (pss_one ps_never) pss_nil)
        (pss_cons (ps_if (pt_cmpR (op_neD hr.units) (pe_ref (Tt := [(Pt, qualRef)]) DR T ER TB rfl hmT huT hr (fun A outer s H E f c' hr2 => pe_gd GW (by exact hr2) (passes_call (takes_of rfl rfl rfl rfl) fun _ _ _ _ h => h) (pa_cons (pv 0) (pa_cons (pv 5) (pa_cons (pv 8) pa_nil))))) (pe_lst (pa_cons pe_str pa_nil)) (nomark _)) (pss_one ps_never) pss_nil)
        (pss_one (ps_if (pt_cmpR (op_neD hr.units) (pe_ref (Tt := [(Pt, qualRef)]) DR T ER TB rfl hmT huT hr (fun A outer s H E f c' hr2 => pe_gd GW (by exact hr2) (passes_call (takes_of rfl rfl rfl rfl) fun _ _ _ _ h => h) (pa_cons (pv 0) (pa_cons (pe_op op_mulT (pe_tup (pa_cons pe_int pa_nil)) (pv 3)) (pa_cons (pv 8) pa_nil))))) (pe_lst (pa_cons pe_str pa_nil)) (nomark _)) (pss_one ps_never) pss_nil)))))
      (pss_cons (ps_set (i := 4) scRef.nd rfl (.inl rfl) (pe_lst (pa_cons (pe_tup (pa_cons (pv 5) (pa_cons (pe_op op_cat2 (pv 5) (pe_tup (pa_cons pe_int pa_nil))) pa_nil)))
          (pa_cons (pe_tup (pa_cons (pe_op op_cat2 (pv 5) (pe_tup (pa_cons pe_int pa_nil))) (pa_cons (pv 5) pa_nil)))
          (pa_cons (pe_tup (pa_cons (pe_op op_mulT (pe_tup (pa_cons pe_int pa_nil)) (pv 3)) (pa_cons (pv 5) pa_nil)))
          (pa_cons (pe_tup (pa_cons (pe_op op_mulT (pe_tup (pa_cons pe_int pa_nil)) (pv 3)) (pa_cons (pe_op op_mulT (pe_tup (pa_cons pe_int pa_nil)) (pe_op op_sub (pv 3) pe_int)) pa_nil))) pa_nil))))))
      (pss_cons (ps_for (passes_of rfl) rfl (pi_list (pv 4)) (pg_tup rfl (pgs_cons (pg_name (i := 6) scRef.nd rfl (Or.inr rfl)) (pgs_cons (pg_name (i := 7) scRef.nd rfl (Or.inr rfl)) pgs_nil)))
        (pss_one (ps_if (pt_cmpR (op_neD hr.units) (pe_ref (Tt := [(Pt, qualRef)]) DR T ER TB rfl hmT huT hr (fun A outer s H E f c' hr2 => pe_gd GW (by exact hr2) (passes_call (takes_of rfl rfl rfl rfl) fun _ _ _ _ h => h) (pa_cons (pv 0) (pa_cons (pv 6) (pa_cons (pv 7) pa_nil))))) (pe_lst (pa_cons pe_str pa_nil)) (nomark _)) (pss_one ps_never) pss_nil)))
      (pss_one (ps_ret pe_bl)))))), ?_⟩
    have one : 1 ≤ sizeLine := by decide
    have two : 2 ≤ sizeLine := by decide
    have zN : PyData.strOk "number" = true := by decide +kernel
    have zR : PyData.strOk "row" = true := by decide +kernel
    have pw : CPow 10 30 := ⟨by decide, by decide, by decide⟩
    -- good
    refine ⟨one, fun t ht => ⟨_, rfl, t, n, _, rfl, rfl, upd_same, by simp, by omega, by show 1 ≤ 1000; decide, fun gd H1 s1 e1 => ?_⟩⟩
    have s1 := (same_new ht).trans s1
    rw [flat_one] at e1
    have hG : RowAt H1 m gd (List.replicate n 0) := rowAt_zero (by omega) (by omega) e1
    have hB := hB.same s1
    have hT := hT.ext s1
    clear s1 ht
    -- the things that are no lengths
    refine ⟨_, rfl, _, _, rfl, rfl, pw, one, fun t1 h1 => ⟨_, _, rfl, rfl, pw, _, rfl, by show 8 ≤ sizeLine; decide, fun tt htt => ?_⟩⟩
    have s2 := (same_new (o := .tup [V.int 1]) h1).trans (same_new (o := .tup [V.int (-1), V.int 101, V.int (10 ^ (30 : Int).toNat), V.bl true, V.non, V.str "1", V.ref t1, V.int (-(10 ^ (30 : Int).toNat))]) htt)
    have et1 := same_new (o := .tup [V.int (-1), V.int 101, V.int (10 ^ (30 : Int).toNat), V.bl true, V.non, V.str "1", V.ref t1, V.int (-(10 ^ (30 : Int).toNat))]) htt _ _ (upd_same (H := H1) (a := t1) (o := .tup [V.int 1]))
    refine ⟨tt, rfl, ⟨_, SqT.of upd_same⟩, ?_⟩
    have ett := upd_same (H := upd H1 t1 (.tup [V.int 1])) (a := tt) (o := .tup [V.int (-1), V.int 101, V.int (10 ^ (30 : Int).toNat), V.bl true, V.non, V.str "1", V.ref t1, V.int (-(10 ^ (30 : Int).toNat))])
    generalize upd (upd H1 t1 (.tup [V.int 1])) tt (.tup [V.int (-1), V.int 101, V.int (10 ^ (30 : Int).toNat), V.bl true, V.non, V.str "1", V.ref t1, V.int (-(10 ^ (30 : Int).toNat))]) = H2 at s2 et1 ett ⊢
    have hG := hG.same s2
    have hB := hB.same s2
    have hT := hT.ext s2
    have bad : ∀ y ∈ [V.int (-1), V.int 101, V.int (10 ^ (30 : Int).toNat), V.bl true, V.non, V.str "1", V.ref t1, V.int (-(10 ^ (30 : Int).toNat))], ∃ nm, Th H2 y nm ∧ between y 0 100 = false := by
      intro y hy
      rcases List.mem_cons.mp hy with rfl | hy
      · exact ⟨_, .int _, rfl⟩
      rcases List.mem_cons.mp hy with rfl | hy
      · exact ⟨_, .int _, rfl⟩
      rcases List.mem_cons.mp hy with rfl | hy
      · exact ⟨_, .int _, by decide +kernel⟩
      rcases List.mem_cons.mp hy with rfl | hy
      · exact ⟨_, .bl _, rfl⟩
      rcases List.mem_cons.mp hy with rfl | hy
      · exact ⟨_, .non, rfl⟩
      rcases List.mem_cons.mp hy with rfl | hy
      · exact ⟨_, .str _, rfl⟩
      rcases List.mem_cons.mp hy with rfl | hy
      · exact ⟨_, .tup et1, rfl⟩
      rw [List.mem_singleton.mp hy]
      exact ⟨_, .int _, by decide +kernel⟩
    refine for_tup (K := K) (a := tt) (xs := [V.int (-1), V.int 101, V.int (10 ^ (30 : Int).toNat), V.bl true, V.non, V.str "1", V.ref t1, V.int (-(10 ^ (30 : Int).toNat))]) (fun i σ H3 => ExtN H2 H3 ∧ Tabs [(Pt, qualRef)] H3 ∧ ∃ v6 v7 v8 v4 : Option V, σ = [some (.ref b), some (.int (m : Int)), some (.int (n : Int)), some (.int (long : Int)), v4, some (.ref gd), v6, v7, v8])
      ⟨ExtN.refl _, hT, none, none, none, none, rfl⟩ (fun i σ H3 _ h => SqT.of (ext_tup h.1 ett)) ?_ ?_
    · rintro i y σ H3 hi ⟨x3, T3, v6, v7, v8, v4, rfl⟩
      obtain ⟨nm, th, hb⟩ := bad y (List.mem_of_getElem? hi)
      refine ⟨T3, fun H4 x4 T4 R => ⟨_, rfl, _, rfl, b, m, B, y, rfl, (hB.ext x3).ext x4, hok, .inl ⟨nm, (th.ext x3).ext x4, hb, fun H5 s5 => ⟨CN, 5, rfl, rfl, iN, fun H6 l s6 e6 => ne_read zN e6 fun H7 s7 => ?_⟩⟩⟩⟩
      have s47 := s5.trans (s6.trans s7)
      exact ⟨(x3.trans x4).trans (ext_same s47), T4.ext s47, _, _, _, _, rfl⟩
    rintro σ H3 ⟨x3, hT, v6, v7, v8, v4, rfl⟩
    have hG := hG.ext x3
    have hB := hB.ext x3
    clear s2 et1 ett bad x3 h1 htt
    -- the wrong rows
    refine ⟨_, rfl, _, rfl, m, n, rfl, m2, m4, hn, fun H4 ll xs s4 ell hbad => ?_⟩
    have hG := hG.same s4
    have hB := hB.same s4
    have hT := hT.ext s4
    refine ⟨ll, rfl, ⟨_, SqL.of ell⟩, for_list (K := K) (a := ll) (xs := xs) (fun i σ H5 => ExtN H4 H5 ∧ Tabs [(Pt, qualRef)] H5 ∧ ∃ v6 v7 v8 v4 : Option V, σ = [some (.ref b), some (.int (m : Int)), some (.int (n : Int)), some (.int (long : Int)), v4, some (.ref gd), v6, v7, v8])
      ⟨ExtN.refl _, hT, _, _, _, _, rfl⟩ (fun i σ H5 _ h => SqL.of (ext_lst h.1 ell)) ?_ ?_⟩
    · rintro i y σ H5 hi ⟨x5, T5, v6, v7, v8, v4, rfl⟩
      have hy := hbad y (List.mem_of_getElem? hi)
      refine ⟨T5, fun H6 x6 T6 R => ⟨_, rfl, _, rfl, _, rfl, b, m, B, y, _, rfl, (hB.ext x5).ext x6, hok, .inl ⟨⟨false, true, (hy.ext x5).ext x6, ((hG.ext x5).ext x6).q, .inl rfl⟩, fun H7 s7 => ⟨CR, 3, rfl, rfl, iR, fun H8 l s8 e8 => ne_read zR e8 fun H9 s9 => ?_⟩⟩⟩⟩
      have s69 := s7.trans (s8.trans s9)
      have x5 := (x5.trans x6).trans (ext_same s69)
      have T5 := T6.ext s69
      clear s69 s7 s8 s9 x6 T6 e8
      refine ⟨T5, fun H6 x6 T6 R => ⟨_, rfl, _, rfl, _, rfl, b, m, B, _, y, rfl, (hB.ext x5).ext x6, hok, .inl ⟨⟨true, false, ((hG.ext x5).ext x6).q, (hy.ext x5).ext x6, .inr rfl⟩, fun H7 s7 => ⟨CR, 3, rfl, rfl, iR, fun H8 l s8 e8 => ne_read zR e8 fun H9 s9 => ?_⟩⟩⟩⟩
      have s69 := s7.trans (s8.trans s9)
      have x5 := (x5.trans x6).trans (ext_same s69)
      have T5 := T6.ext s69
      clear s69 s7 s8 s9 x6 T6 e8
      refine ⟨T5, fun H6 x6 T6 R => ⟨_, rfl, one, fun z hz => ⟨_, rfl, z, long, _, rfl, rfl, upd_same, by simp, by omega, by show 1 ≤ 1000; decide, fun zz H7 s7 e7 => ?_⟩⟩⟩
      rw [flat_one] at e7
      have s7 := (same_new hz).trans s7
      have hZ : RowAt H7 m zz (List.replicate long 0) := rowAt_zero (by omega) hl e7
      refine ⟨_, rfl, b, m, B, _, y, rfl, ((hB.ext x5).ext x6).same s7, hok, .inl ⟨⟨true, false, hZ.q, ((hy.ext x5).ext x6).same s7, .inr rfl⟩, fun H8 s8 => ⟨CR, 3, rfl, rfl, iR, fun H9 l s9 e9 => ne_read zR e9 fun Ha sa => ?_⟩⟩⟩
      have s6a := s7.trans (s8.trans (s9.trans sa))
      exact ⟨(x5.trans x6).trans (ext_same s6a), T6.ext s6a, _, _, _, _, rfl⟩
    rintro σ H5 ⟨x5, hT, v6, v7, v8, v4, rfl⟩
    have hG := hG.ext x5
    have hB := hB.ext x5
    clear x5 hbad ell s4
    -- two rows of unlike length
    have lenG : (List.replicate n (V.int 0)).length + 1 ≤ sizeLine := by rw [List.length_replicate, sizeLine_eq]; omega
    have rowG : ∀ {H}, RowAt H m gd (List.replicate n 0) → H gd = some (.tup (List.replicate n (V.int 0))) := fun h => by
      rw [h.1]
      unfold rv
      rw [List.map_replicate]
      rfl
    have snoc : ∀ {H : Hp} {a : Addr}, H a = some (.tup (List.replicate n (V.int 0) ++ [V.int 0])) → RowAt H m a (List.replicate (n + 1) 0) := fun h => rowAt_zero (by omega) (by omega) (by rw [h, List.replicate_succ'])
    refine ⟨_, rfl, _, rfl, one, fun t1 h1 => ⟨gd, t1, _, _, rfl, rfl, same_new h1 _ _ (rowG hG), upd_same, lenG, fun q1 G1 u1 e1 => ⟨two, fun p1 g1 => ?_⟩⟩⟩
    have u1 := ((same_new h1).trans u1).trans (same_new (o := .tup [V.ref gd, V.ref q1]) g1)
    have r1 := (snoc e1).same (same_new (o := .tup [V.ref gd, V.ref q1]) g1)
    have hp1 := upd_same (H := G1) (a := p1) (o := .tup [V.ref gd, V.ref q1])
    generalize upd G1 p1 (.tup [V.ref gd, V.ref q1]) = J1 at u1 r1 hp1 ⊢
    have hG1 := hG.same u1
    refine ⟨_, rfl, one, fun t2 h2 => ⟨gd, t2, _, _, rfl, rfl, same_new h2 _ _ (rowG hG1), upd_same, lenG, fun q2 G2 u2 e2 => ⟨_, rfl, two, fun p2 g2 => ?_⟩⟩⟩
    have u2 := ((same_new h2).trans u2).trans (same_new (o := .tup [V.ref q2, V.ref gd]) g2)
    have r2 := (snoc e2).same (same_new (o := .tup [V.ref q2, V.ref gd]) g2)
    have hp2 := upd_same (H := G2) (a := p2) (o := .tup [V.ref q2, V.ref gd])
    generalize upd G2 p2 (.tup [V.ref q2, V.ref gd]) = J2 at u2 r2 hp2 ⊢
    have hp1 := u2 _ _ hp1
    have r1 := r1.same u2
    refine ⟨one, fun t3 h3 => ⟨_, rfl, t3, long, _, rfl, rfl, upd_same, by simp, by omega, by show 1 ≤ 1000; decide, fun q3 G3 u3 e3 => ⟨_, rfl, two, fun p3 g3 => ?_⟩⟩⟩
    rw [flat_one] at e3
    have u3 := ((same_new h3).trans u3).trans (same_new (o := .tup [V.ref q3, V.ref gd]) g3)
    have r3 : RowAt _ m q3 (List.replicate long 0) := (rowAt_zero (by omega) hl e3).same (same_new (o := .tup [V.ref q3, V.ref gd]) g3)
    have hp3 := upd_same (H := G3) (a := p3) (o := .tup [V.ref q3, V.ref gd])
    generalize upd G3 p3 (.tup [V.ref q3, V.ref gd]) = J3 at u3 r3 hp3 ⊢
    have hp1 := u3 _ _ hp1
    have hp2 := u3 _ _ hp2
    have r1 := r1.same u3
    have r2 := r2.same u3
    refine ⟨one, fun t4 h4 => ⟨_, rfl, t4, long, _, rfl, rfl, upd_same, by simp, by omega, by show 1 ≤ 1000; decide, fun q4 G4 u4 e4 => ⟨one, fun t5 h5 => ⟨_, rfl, _, _, rfl, rfl, t5, long - 1, _, rfl, congrArg V.int (by omega), upd_same, by simp, by omega, by show 1 ≤ 1000; decide, fun q5 G5 u5 e5 => ⟨two, fun p4 g4 => ?_⟩⟩⟩⟩⟩
    rw [flat_one] at e4 e5
    have u5 := ((same_new h5).trans u5).trans (same_new (o := .tup [V.ref q4, V.ref q5]) g4)
    have r4 : RowAt _ m q4 (List.replicate long 0) := (rowAt_zero (by omega) hl e4).same u5
    have r5 : RowAt _ m q5 (List.replicate (long - 1) 0) := (rowAt_zero (by omega) (by omega) e5).same (same_new (o := .tup [V.ref q4, V.ref q5]) g4)
    have hp4 := upd_same (H := G5) (a := p4) (o := .tup [V.ref q4, V.ref q5])
    have u4 := ((same_new h4).trans u4).trans u5
    generalize upd G5 p4 (.tup [V.ref q4, V.ref q5]) = J4 at u4 r4 r5 hp4 ⊢
    have hp1 := u4 _ _ hp1
    have hp2 := u4 _ _ hp2
    have hp3 := u4 _ _ hp3
    have r1 := r1.same u4
    have r2 := r2.same u4
    have r3 := r3.same u4
    have u14 := ((u1.trans u2).trans u3).trans u4
    have hG := hG.same u14
    have hB := hB.same u14
    have hT := hT.ext u14
    clear hG1 u1 u2 u3 u4 u14 h1 h2 h3 h4 e1 e2 e3
    refine ⟨by show 4 ≤ sizeLine; decide, fun ll hll => ?_⟩
    have sl := same_new (o := .lst [V.ref p1, V.ref p2, V.ref p3, V.ref p4]) hll
    have ell := upd_same (H := J4) (a := ll) (o := .lst [V.ref p1, V.ref p2, V.ref p3, V.ref p4])
    have each : ∀ y ∈ [V.ref p1, V.ref p2, V.ref p3, V.ref p4], ∃ p a c ra rc, y = .ref p ∧ J4 p = some (.tup [.ref a, .ref c]) ∧ RowAt J4 m a ra ∧ RowAt J4 m c rc ∧ ra.length ≠ rc.length := by
      intro y hy
      rcases List.mem_cons.mp hy with rfl | hy
      · exact ⟨_, _, _, _, _, rfl, hp1, hG, r1, by rw [List.length_replicate, List.length_replicate]; omega⟩
      rcases List.mem_cons.mp hy with rfl | hy
      · exact ⟨_, _, _, _, _, rfl, hp2, r2, hG, by rw [List.length_replicate, List.length_replicate]; omega⟩
      rcases List.mem_cons.mp hy with rfl | hy
      · exact ⟨_, _, _, _, _, rfl, hp3, r3, hG, by rw [List.length_replicate, List.length_replicate]; omega⟩
      rw [List.mem_singleton.mp hy]
      exact ⟨_, _, _, _, _, rfl, hp4, r4, r5, by rw [List.length_replicate, List.length_replicate]; omega⟩
    generalize upd J4 ll (.lst [V.ref p1, V.ref p2, V.ref p3, V.ref p4]) = J5 at sl ell ⊢
    refine ⟨_, rfl, ll, rfl, ⟨_, SqL.of ell⟩, for_list (K := K) (a := ll) (xs := [V.ref p1, V.ref p2, V.ref p3, V.ref p4]) (fun i σ H6 => ExtN J5 H6 ∧ Tabs [(Pt, qualRef)] H6 ∧ ∃ v6 v7 v8 v4 : Option V, σ = [some (.ref b), some (.int (m : Int)), some (.int (n : Int)), some (.int (long : Int)), v4, some (.ref gd), v6, v7, v8])
      ⟨ExtN.refl _, hT.ext sl, _, _, _, _, rfl⟩ (fun i σ H6 _ h => SqL.of (ext_lst h.1 ell)) ?_ ?_⟩
    · rintro i y σ H6 hi ⟨x6, T6, v6, v7, v8, v4, rfl⟩
      obtain ⟨p, a, cc, ra, rc, rfl, hp, ha, hc, hne⟩ := each y (List.mem_of_getElem? hi)
      have x6' := (ext_same sl).trans x6
      refine ⟨p, _, rfl, SqT.of (ext_tup x6' hp), rfl, _, _, rfl, _, _, rfl, rfl, ?_⟩
      refine ⟨T6, fun H7 x7 T7 R => ⟨_, rfl, _, rfl, _, rfl, b, m, B, _, _, rfl, (hB.ext x6').ext x7, hok, .inr ⟨a, cc, ra, rc, rfl, rfl, (ha.ext x6').ext x7, (hc.ext x6').ext x7, .inl ⟨hne, fun H8 s8 => ⟨CR, 3, rfl, rfl, iR, fun H9 l s9 e9 => ne_read zR e9 fun Ha sa => ?_⟩⟩⟩⟩⟩
      have s7a := s8.trans (s9.trans sa)
      exact ⟨(x6.trans x7).trans (ext_same s7a), T7.ext s7a, _, _, _, _, rfl⟩
    rintro σ H6 ⟨x6, T6, v6, v7, v8, v4, rfl⟩
    exact k H6
end
end LH
/-! The law's pieces: the counting books. -/
namespace LH
open PySem PySem.Spec PyProof.Rows L2 KR KW
open LamX (ExtN Tabs TabB)
def lawSt (i : Nat) : Stmt := (defBody sLaw).getD i (.Pass ⟨0, 0, 0, 0⟩)
abbrev nmLaw : List Str := ["_law_script", "_law_state_here", "_law_many", "_law_ahead", "_law_step", "_law_bound", "_law_long", "_law_numbers", "_law_still", "_law_pairs", "_law_size", "_law_place", "_law_one", "_law_first", "_law_other", "_law_last", "_law_book", "_law_goal", "_law_length", "_law_k"]
theorem scLaw : FnScope nmLaw ["_law_script"] (defScope sLaw) := ⟨rfl, rfl, rfl, by decide +kernel, rfl, by decide +kernel, by decide +kernel⟩
def qualLaw : Str := (envOfC "law" (defScope sLaw) 0 0 .none).qual ++ "<lambda>"
abbrev Lx (P : Program) (w : World) (K : PySem.W.Frag) (mg : Str → Option Value) (base : Heap) (f c : Addr) (A : Around) (s : Shared) (H : Hp) : Cx := cxOf (L2.CX P w) P w K mg base nmLaw "law" (defScope sLaw) f (.ref c) A [] s H fun _ _ _ => False
/-- all that the law leans on -/
structure Lean1 (P : Program) (w : World) (K : PySem.W.Frag) (mg : Str → Option Value) (base : Heap) (C CR CN CT CE c Pl Pt : Addr) (cs : Nat → Addr) : Prop where
  T : Tops mg
  BT : BkT K mg C
  GN : Gn P w K mg base C
  TB : TabB base mg c Pl
  hne : Pl ≠ Pt
  ER : Errs mg CE cs
  iT : IsErr K CE cs CT 6
  DR : Dn K mg "_law_refusals" sRefusals
  GS : Gd P w K mg base 1 "_law_state" ["_law_script", "_law_k"] (spState K)
  GX : Gd P w K mg base 1 "_law_next" ["_law_state_here", "_law_most"] spNext
  GO : Gd P w K mg base 1 "_law_row_of" ["_law_many", "_law_length", "_law_number"] spRowOf
  GY : Gd P w K mg base 1 "_law_way" ["_law_one", "_law_other", "_law_size", "_law_step"] spLawWay
  GP : Gd P w K mg base 8 "parts" ["book", "length"] (spParts C CN CT)
  GW : Gd P w K mg base 8 "way" ["book", "row", "other"] (spWay C CR CT)
  GLi : GdG P w K mg base 9 "_law_line_right" ["_law_length", "_law_first"] spLine
  GRf : Gd P w K mg base 11 "_law_refused" ["_law_book", "_law_many", "_law_length", "_law_long"] (spRefused C Pt)
/-- the law's names, by slots -/
def sg (v0 v1 : Option V) (m ahead st bd long : Nat) (nl : Addr) (v8 v9 v10 v11 v12 v13 v14 v15 : Option V) (b : Addr) (v17 v18 v19 : Option V) : L2.St :=
  [v0, v1, some (.int (m : Int)), some (.int (ahead : Int)), some (.int (st : Int)), some (.int (bd : Int)), some (.int (long : Int)), some (.ref nl), v8, v9, v10, v11, v12, v13, v14, v15, some (.ref b), v17, v18, v19]
section
variable {P : Program} {w : World} {K : PySem.W.Frag} {mg : Str → Option Value} {base : Heap} {C CR CN CT CE c Pl Pt : Addr} {cs : Nat → Addr}
def bnd (m : Nat) : Nat := if m = 2 then 6 else if m = 3 then 4 else 3
theorem bnd_small {m n : Nat} (m2 : 2 ≤ m) (m4 : m ≤ 4) (h : n ≤ bnd m) : small m n = true := by
  rcases (show m = 2 ∨ m = 3 ∨ m = 4 by omega) with rfl | rfl | rfl
  · have h : n ≤ 6 := h
    unfold small
    rw [decide_eq_true h]
    rfl
  · have h : n ≤ 4 := h
    unfold small
    rw [decide_eq_true h]
    simp
  · have h : n ≤ 3 := h
    unfold small
    rw [decide_eq_true h]
    simp
theorem bnd_big {m n : Nat} (m2 : 2 ≤ m) (m4 : m ≤ 4) (h : bnd m + 1 ≤ n) : 81 < m ^ n := by
  rcases (show m = 2 ∨ m = 3 ∨ m = 4 by omega) with rfl | rfl | rfl
  · have h : 7 ≤ n := h
    exact Nat.lt_of_lt_of_le (show 81 < 2 ^ 7 by decide) (Nat.pow_le_pow_right (by decide) h)
  · have h : 5 ≤ n := h
    exact Nat.lt_of_lt_of_le (show 81 < 3 ^ 5 by decide) (Nat.pow_le_pow_right (by decide) h)
  · have h : 4 ≤ n := h
    exact Nat.lt_of_lt_of_le (show 81 < 4 ^ 4 by decide) (Nat.pow_le_pow_right (by decide) h)
theorem bnd_le (m : Nat) : bnd m ≤ 6 ∧ 3 ≤ bnd m := by
  unfold bnd
  split
  · exact ⟨by decide, by decide⟩
  · split
    · exact ⟨by decide, by decide⟩
    · exact ⟨by decide, by decide⟩
theorem cb_parts {m ahead st : Nat} (B : CB m ahead st) (n : Nat) : ∃ F : Nat → Lst, Over (sent (cbook m ahead st)) (steps (cbook m ahead st).length) (List.replicate n 0) F (m ^ n) ∧ ∀ r ∈ level m n, r ∈ keys (F (m ^ n)) := by
  have O := cb_over B n 0
  rw [rowOf_zero] at O
  refine ⟨_, by rw [cb_len B]; exact O, fun r hr => ?_⟩
  have e := cb_last B n 0
  have e2 : keys (St (fun p => rowOf m n (0 + p)) (st : Int) (m ^ n) (cm (m ^ n) (m ^ n))) = keys (cbL m st n 0) := by rw [e]
  show r ∈ keys (St (fun p => rowOf m n (0 + p)) (st : Int) (m ^ n) (cm (m ^ n) (m ^ n)))
  rw [e2]
  obtain ⟨a1, a2⟩ := level_mem m n r hr
  exact cbL_all B a1 a2
theorem cb_way {m ahead st : Nat} (B : CB m ahead st) {n a o : Nat} (ha : a < m ^ n) (ho : o < m ^ n) : ∃ F : Nat → Lst, Over (sent (cbook m ahead st)) (steps (cbook m ahead st).length) (rowOf m n a) F (m ^ n) ∧ look (F (m ^ n)) (rowOf m n o) = some (dueWd (m ^ n) a o st) := by
  refine ⟨_, by rw [cb_len B]; exact cb_over B n a, ?_⟩
  have e := cb_last B n a
  have e2 := cbL_look B ha ho
  rw [← e] at e2
  exact e2
theorem due_show {N a o st : Nat} (hN : N ≤ 100) (h0 : 0 < N) (hs : st ≤ 3) : OkShow (dWd (dueWd N a o st)) := by
  have hq := Nat.mod_lt (o + N - a) h0
  unfold dueWd
  refine show_wd (fun i hi => ?_) ?_
  · split at hi
    · rw [(List.mem_replicate.mp hi).2]
      omega
    · rw [(List.mem_replicate.mp hi).2]
      omega
  · split
    · rw [List.length_replicate]
      omega
    · rw [List.length_replicate]
      omega
theorem rowAt_of {H : Hp} {m n k : Nat} {a : Addr} (hm : 0 < m) (hn : n ≤ 100) (e : H a = some (.tup (rv (rowOf m n k)))) : RowAt H m a (rowOf m n k) := ⟨e, by rw [rowOf_len]; exact hn, rowOf_lt hm n k⟩
theorem loop1 (E : Lean1 P w K mg base C CR CN CT CE c Pl Pt cs) {f : Addr} {A : Around} {s : Shared} {H0 : Hp} (hG : A.guards = some []) (hr : Room 12 (Lx P w K mg base f c A s H0).A) :
    ∃ t, PS (Lx P w K mg base f c A s H0) (lawSt 11) t ∧ ∀ (D : Ends) (H : Hp) (v0 v1 : Option V) (m ahead st long : Nat) (nl : Addr) (v8 v9 v10 v11 v12 v13 v14 v15 : Option V) (b : Addr) (v17 v18 v19 : Option V) (n0 n1 n2 n3 : Nat),
      CB m ahead st → BkAt C H b m (cbook m ahead st) → H nl = some (.lst [.int (n0 : Int), .int (n1 : Int), .int (n2 : Int), .int (n3 : Int)]) →
      (∀ H' v10 v11 v12 v13 v14 v15 v18, Same H H' → D.nx (sg v0 v1 m ahead st (bnd m) long nl v8 v9 v10 v11 v12 v13 v14 v15 b v17 v18 v19) H') →
      t D (sg v0 v1 m ahead st (bnd m) long nl v8 v9 v10 v11 v12 v13 v14 v15 b v17 v18 v19) H := by
  have hG2 : (Lx P w K mg base f c A s H0).A.guards = some [] := hG
  have hr8 := hr.mono (show 8 ≤ 12 by decide)
  have hr1 := hr.mono (show 1 ≤ 12 by decide)
  refine ⟨_, ps_for (passes_of rfl) rfl (pi_range1 rfl E.T.range (pa_cons (pe_op op_add (pv 5) pe_int) pa_nil)) (pg_name (i := 18) scLaw.nd rfl (Or.inr rfl))
      (pss_cons (ps_set (i := 10) scLaw.nd rfl (.inl rfl) pe_int)
      (pss_cons (ps_for (passes_of rfl) rfl (pi_range1 rfl E.T.range (pa_cons (pv 18) pa_nil)) (pg_name (i := 11) scLaw.nd rfl (Or.inl rfl)) (pss_one (ps_aug (i := 10) scLaw.nd rfl (.inl rfl) (pv 2) (ip_of iop_mul))))
      (pss_cons (ps_if (pt_cmpR op_ne (pe_callB (call_repr hG2) (by rfl) E.T.repr (by decide +kernel) (pa_cons (pe_gd E.GP hr8 passL (pa_cons (pv 16) (pa_cons (pv 18) pa_nil))) pa_nil))
          (pe_callB (call_repr hG2) (by rfl) E.T.repr (by decide +kernel) (pa_cons (pe_lst (pa_cons (pe_tup (pa_cons (pe_op op_mulT (pe_tup (pa_cons pe_int pa_nil)) (pv 18)) (pa_cons (pv 10) pa_nil))) pa_nil)) pa_nil)) (nomark _)) (pss_one ps_never) pss_nil)
      (pss_cons (ps_set (i := 12) scLaw.nd rfl (.inl rfl) (pe_op op_mod (pe_ix ix_list (pv 7) pe_int (fun _ _ => rfl)) (pv 10)))
      (pss_cons (ps_set (i := 13) scLaw.nd rfl (.inl rfl) (pe_gd E.GO hr1 passL (pa_cons (pv 2) (pa_cons (pv 18) (pa_cons (pv 12) pa_nil)))))
      (pss_cons (ps_for (passes_of rfl) rfl (pi_tup (pe_tup (pa_cons (pe_op op_mod (pe_ix ix_list (pv 7) pe_int (fun _ _ => rfl)) (pv 10)) (pa_cons (pe_op op_mod (pe_op op_add (pe_op op_add (pv 12) (pe_op op_fdiv (pv 10) pe_int)) (pe_op op_mod (pe_ix ix_list (pv 7) pe_int (fun _ _ => rfl)) pe_int)) (pv 10)) pa_nil)))) (pg_name (i := 14) scLaw.nd rfl (Or.inl rfl))
        (pss_cons (ps_set (i := 15) scLaw.nd rfl (.inl rfl) (pe_gd E.GO hr1 passL (pa_cons (pv 2) (pa_cons (pv 18) (pa_cons (pv 14) pa_nil)))))
        (pss_one (ps_if (pt_cmpR op_ne (pe_callB (call_repr hG2) (by rfl) E.T.repr (by decide +kernel) (pa_cons (pe_gd E.GW hr8 passL (pa_cons (pv 16) (pa_cons (pv 13) (pa_cons (pv 15) pa_nil)))) pa_nil))
          (pe_callB (call_repr hG2) (by rfl) E.T.repr (by decide +kernel) (pa_cons (pe_gd E.GY hr1 passL (pa_cons (pv 12) (pa_cons (pv 14) (pa_cons (pv 10) (pa_cons (pv 4) pa_nil))))) pa_nil)) (nomark _)) (pss_one ps_never) pss_nil))))
      (pss_one (ps_if (pt_cmpR op_ne (pe_callB (call_repr hG2) (by rfl) E.T.repr (by decide +kernel) (pa_cons (pe_gd E.GW hr8 passL (pa_cons (pv 16) (pa_cons (pv 15) (pa_cons (pv 13) pa_nil)))) pa_nil))
          (pe_callB (call_repr hG2) (by rfl) E.T.repr (by decide +kernel) (pa_cons (pe_gd E.GY hr1 passL (pa_cons (pv 14) (pa_cons (pv 12) (pa_cons (pv 10) (pa_cons (pv 4) pa_nil))))) pa_nil)) (nomark _)) (pss_one ps_never) pss_nil)))))))), ?_⟩
  intro D H v0 v1 m ahead st_ long nl v8 v9 v10 v11 v12 v13 v14 v15 b v17 v18 v19 n0 n1 n2 n3 B hB hnl k
  have one : 1 ≤ sizeLine := by decide
  have two : 2 ≤ sizeLine := by decide
  have m2 := B.m2
  have m4 := B.m4
  have ok := cb_okB B
  have s3 : st_ ≤ 3 := by have := B.sa; have := B.a2; omega
  have bl := bnd_le m
  have unit : ∀ d : PyData, OkShow d → (Lx P w K mg base f c A s H0).A.units + (d.depth + 1) < cLine := fun d hd => by
    have u := hr.un
    have := hd.dp
    omega
  refine ⟨_, rfl, _, _, rfl, rfl, ((bnd m : Int) + 1), rfl, by omega, by omega, ?_⟩
  rw [show ((bnd m : Int) + 1).toNat = bnd m + 1 by omega]
  refine for_range (lo := 0) (n := bnd m + 1) (fun i σ H1 => Same H H1 ∧ ∃ v10 v11 v12 v13 v14 v15 v18 : Option V, σ = sg v0 v1 m ahead st_ (bnd m) long nl v8 v9 v10 v11 v12 v13 v14 v15 b v17 v18 v19) ⟨Same.refl _, _, _, _, _, _, _, _, rfl⟩ ?_ ?_
  · rintro i σ H1 hi ⟨s1, w10, w11, w12, w13, w14, w15, w18, rfl⟩
    rw [Int.zero_add]
    have hiB : i ≤ bnd m := by omega
    have sm := bnd_small m2 m4 hiB
    have h81 := small_pow sm
    have pos : 0 < m ^ i := Nat.pow_pos (by omega)
    have posI : (0 : Int) < ((m ^ i : Nat) : Int) := by omega
    have shP : OkShow (dPart i (m ^ i)) := show_part (by omega) (by omega)
    -- size
    refine ⟨_, rfl, (i : Int), rfl, by omega, by omega, ?_⟩
    rw [Int.toNat_natCast]
    refine for_range (lo := 0) (n := i) (fun j σ H2 => H2 = H1 ∧ ∃ v11 : Option V, σ = sg v0 v1 m ahead st_ (bnd m) long nl v8 v9 (some (.int ((m ^ j : Nat) : Int))) v11 w12 w13 w14 w15 b v17 (some (.int (i : Int))) v19) ⟨rfl, w11, rfl⟩ ?_ ?_
    · rintro j σ H2 hj ⟨rfl, v11, rfl⟩
      refine ⟨_, rfl, _, rfl, _, _, rfl, rfl, .inr ⟨by omega, by omega⟩, rfl, some (.int (0 + (j : Int))), ?_⟩
      have e : ((m ^ j : Nat) : Int) * (m : Int) = ((m ^ (j + 1) : Nat) : Int) := by
        rw [Nat.pow_succ]
        exact (Int.natCast_mul _ _).symm
      show sg v0 v1 m ahead st_ (bnd m) long nl v8 v9 (some (.int (((m ^ j : Nat) : Int) * (m : Int)))) (some (.int (0 + (j : Int)))) w12 w13 w14 w15 b v17 (some (.int (i : Int))) v19 = _
      rw [e]
    rintro σ H2 ⟨rfl, v11, rfl⟩
    -- parts
    have hB1 := hB.same s1
    obtain ⟨F, OP, AP⟩ := cb_parts B i
    refine ⟨_, rfl, _, rfl, b, m, cbook m ahead st_, _, rfl, hB1, ok, .inr (.inr ⟨i, F, m ^ i, rfl, sm, OP, by omega, AP, fun H3 l t a s3_ k1 k2 k3 => ?_⟩)⟩
    refine ⟨l, _, rfl, dp_part k1 k2 k3, shP.sh, shP.nd, unit _ shP, shP.len, ?_⟩
    refine ⟨one, fun z hz => ⟨_, rfl, z, i, _, rfl, rfl, upd_same, by simp, by omega, by show 1 ≤ 1000; decide, fun zz H4 s4 e4 => ?_⟩⟩
    have s4 := (same_new hz).trans s4
    rw [flat_one] at e4
    refine ⟨_, rfl, two, fun t2 h2 => ⟨one, fun l2 g2 => ?_⟩⟩
    have s5 := (same_new (o := .tup [V.ref zz, V.int ((m ^ i : Nat) : Int)]) h2).trans (same_new (o := .lst [V.ref t2]) g2)
    have ez := same_new (o := .lst [V.ref t2]) g2 _ _ (upd_same (H := H4) (a := t2) (o := .tup [V.ref zz, V.int ((m ^ i : Nat) : Int)]))
    have e4 : H4 zz = some (.tup (rv (List.replicate i 0))) := by
      rw [e4]
      unfold rv
      rw [List.map_replicate]
      rfl
    refine ⟨l2, _, rfl, dp_part upd_same ez (s5 _ _ e4), shP.sh, shP.nd, unit _ shP, shP.len, ?_⟩
    refine ⟨rfl, _, rfl, ?_⟩
    rw [decide_eq_true rfl]
    refine iteF ?_
    have s15 := s1.trans (s3_.trans (s4.trans s5))
    clear s3_ s4 s5 ez e4 h2 g2
    generalize upd (upd H4 t2 (.tup [V.ref zz, V.int ((m ^ i : Nat) : Int)])) l2 (.lst [V.ref t2]) = H5 at s15 ⊢
    -- one, first
    have hnl5 := s15 _ _ hnl
    have ha : n0 % m ^ i < m ^ i := Nat.mod_lt _ pos
    refine ⟨_, rfl, nl, _, _, V.int (n0 : Int), rfl, rfl, SqL.of hnl5, atI_nat (j := 0) rfl, _, rfl, _, _, rfl, rfl, posI, ?_⟩
    refine ⟨_, rfl, _, rfl, _, rfl, m, i, n0 % m ^ i, rfl, m2, m4, by omega, fun H6 p6 s6 e6 => ?_⟩
    have s16 := s15.trans s6
    have hnl6 := s6 _ _ hnl5
    -- the two others
    refine ⟨_, rfl, nl, _, _, V.int (n1 : Int), rfl, rfl, SqL.of hnl6, atI_nat (j := 1) rfl, _, rfl, _, _, rfl, rfl, posI, ?_⟩
    refine ⟨_, rfl, _, rfl, _, _, rfl, rfl, ⟨by decide, by decide⟩, _, _, rfl, rfl, _, rfl, nl, _, _, V.int (n3 : Int), rfl, rfl, SqL.of hnl6, atI_nat (j := 3) rfl, _, _, rfl, rfl, (by show (0 : Int) < 2; decide), _, _, rfl, rfl, _, rfl, _, _, rfl, rfl, posI, two, fun t ht => ?_⟩
    have st := same_new (o := .tup [V.int ((n1 % m ^ i : Nat) : Int), V.int (((n0 % m ^ i + m ^ i / 2 + n3 % 2) % m ^ i : Nat) : Int)]) ht
    have p6G := st _ _ e6
    have s1G := s16.trans st
    have hB6 := (hB.same s16).same st
    have each : ∀ y ∈ [V.int ((n1 % m ^ i : Nat) : Int), V.int (((n0 % m ^ i + m ^ i / 2 + n3 % 2) % m ^ i : Nat) : Int)], ∃ o, o < m ^ i ∧ y = V.int ((o : Nat) : Int) := by
      intro y hy
      rcases List.mem_cons.mp hy with rfl | hy
      · exact ⟨_, Nat.mod_lt _ pos, rfl⟩
      rw [List.mem_singleton.mp hy]
      exact ⟨_, Nat.mod_lt _ pos, rfl⟩
    refine ⟨t, rfl, ⟨_, SqT.of upd_same⟩, for_tup (K := K) (a := t) (xs := [V.int ((n1 % m ^ i : Nat) : Int), V.int (((n0 % m ^ i + m ^ i / 2 + n3 % 2) % m ^ i : Nat) : Int)])
      (fun j σ H7 => Same (upd H6 t (.tup [V.int ((n1 % m ^ i : Nat) : Int), V.int (((n0 % m ^ i + m ^ i / 2 + n3 % 2) % m ^ i : Nat) : Int)])) H7 ∧ ∃ v14 v15 : Option V, σ = sg v0 v1 m ahead st_ (bnd m) long nl v8 v9 (some (.int ((m ^ i : Nat) : Int))) v11 (some (.int ((n0 % m ^ i : Nat) : Int))) (some (.ref p6)) v14 v15 b v17 (some (.int (i : Int))) v19 ∧
        (0 < j → ∃ o q, o < m ^ i ∧ v14 = some (.int ((o : Nat) : Int)) ∧ v15 = some (.ref q) ∧ H7 q = some (.tup (rv (rowOf m i o)))))
      ⟨Same.refl _, _, _, rfl, fun z => absurd z (Nat.lt_irrefl 0)⟩ (fun j σ H7 _ h => SqT.of (h.1 _ _ upd_same)) ?_ ?_⟩
    · rintro j y σ H7 hj ⟨s7, u14, u15, rfl, _⟩
      obtain ⟨o, ho, rfl⟩ := each y (List.mem_of_getElem? hj)
      obtain ⟨F, OW, LW⟩ := cb_way B ha ho
      have shW : OkShow (dWd (dueWd (m ^ i) (n0 % m ^ i) o st_)) := due_show (by omega) pos s3
      refine ⟨_, rfl, _, rfl, _, rfl, m, i, o, rfl, m2, m4, by omega, fun H8 q s8 e8 => ?_⟩
      have s78 := s7.trans s8
      refine ⟨_, rfl, _, rfl, _, rfl, b, m, cbook m ahead st_, _, _, rfl, hB6.same s78, ok, .inr ⟨p6, q, _, _, rfl, rfl, rowAt_of (by omega) (by omega) (s78 _ _ p6G), rowAt_of (by omega) (by omega) e8, .inr (.inr ⟨by rw [rowOf_len, rowOf_len], by rw [rowOf_len]; exact h81, F, m ^ i, _, OW, by omega, LW, fun H9 p s9 e9 => ?_⟩)⟩⟩
      refine ⟨p, _, rfl, dp_wd e9, shW.sh, shW.nd, unit _ shW, shW.len, ?_⟩
      refine ⟨_, rfl, _, rfl, _, rfl, _, rfl, n0 % m ^ i, o, m ^ i, st_, rfl, ha, ho, by omega, fun Ha pa sa ea => ?_⟩
      refine ⟨pa, _, rfl, dp_wd ea, shW.sh, shW.nd, unit _ shW, shW.len, rfl, _, rfl, ?_⟩
      rw [decide_eq_true rfl]
      have s9a := s9.trans sa
      exact iteF ⟨s78.trans s9a, _, _, rfl, fun _ => ⟨o, q, ho, rfl, rfl, s9a _ _ e8⟩⟩
    · rintro σ H7 ⟨s7, u14, u15, rfl, hq⟩
      obtain ⟨o, q, ho, rfl, rfl, eq_⟩ := hq (by show 0 < 2; decide)
      obtain ⟨F, OW, LW⟩ := cb_way B ho ha
      have shW : OkShow (dWd (dueWd (m ^ i) o (n0 % m ^ i) st_)) := due_show (by omega) pos s3
      refine ⟨_, rfl, _, rfl, _, rfl, b, m, cbook m ahead st_, _, _, rfl, hB6.same s7, ok, .inr ⟨q, p6, _, _, rfl, rfl, rowAt_of (by omega) (by omega) eq_, rowAt_of (by omega) (by omega) (s7 _ _ p6G), .inr (.inr ⟨by rw [rowOf_len, rowOf_len], by rw [rowOf_len]; exact h81, F, m ^ i, _, OW, by omega, LW, fun H9 p s9 e9 => ?_⟩)⟩⟩
      refine ⟨p, _, rfl, dp_wd e9, shW.sh, shW.nd, unit _ shW, shW.len, ?_⟩
      refine ⟨_, rfl, _, rfl, _, rfl, _, rfl, o, n0 % m ^ i, m ^ i, st_, rfl, ho, ha, by omega, fun Ha pa sa ea => ?_⟩
      refine ⟨pa, _, rfl, dp_wd ea, shW.sh, shW.nd, unit _ shW, shW.len, rfl, _, rfl, ?_⟩
      rw [decide_eq_true rfl]
      exact iteF ⟨s1G.trans (s7.trans (s9.trans sa)), _, _, _, _, _, _, _, rfl⟩
  · rintro σ H1 ⟨s1, w10, w11, w12, w13, w14, w15, w18, rfl⟩
    exact k H1 _ _ _ _ _ _ _ s1
end
end LH
/-! The law's pieces: too many rows. -/
namespace LH
open PySem PySem.Spec PyProof.Rows L2 KR KW
open LamX (ExtN Tabs TabB)
section
variable {P : Program} {w : World} {K : PySem.W.Frag} {mg : Str → Option Value} {base : Heap} {C CR CN CT CE c Pl Pt : Addr} {cs : Nat → Addr}
theorem loop2 (E : Lean1 P w K mg base C CR CN CT CE c Pl Pt cs) {f : Addr} {A : Around} {s : Shared} {H0 : Hp} (hr : Room 12 (Lx P w K mg base f c A s H0).A) :
    ∃ t, PS (Lx P w K mg base f c A s H0) (lawSt 12) t ∧ ∀ (D : Ends) (H : Hp) (v0 v1 : Option V) (m ahead st long : Nat) (nl : Addr) (v8 v9 v10 v11 v12 v13 v14 v15 : Option V) (b : Addr) (v17 v18 v19 : Option V),
      CB m ahead st → BkAt C H b m (cbook m ahead st) → bnd m + 1 ≤ long → long ≤ 100 → Tabs [(Pl, qualLaw), (Pt, qualRef)] H →
      (∀ H' v17 v18, ExtN H H' → Tabs [(Pl, qualLaw), (Pt, qualRef)] H' → D.nx (sg v0 v1 m ahead st (bnd m) long nl v8 v9 v10 v11 v12 v13 v14 v15 b v17 v18 v19) H') →
      t D (sg v0 v1 m ahead st (bnd m) long nl v8 v9 v10 v11 v12 v13 v14 v15 b v17 v18 v19) H := by
  have hr1 := hr.mono (show 1 ≤ 12 by decide)
  have hmT : (Pl, qualLaw) ∈ [(Pl, qualLaw), (Pt, qualRef)] := List.mem_cons_self
  have huT : ∀ p ∈ [(Pl, qualLaw), (Pt, qualRef)], p.1 = Pl → p.2 = qualLaw := fun p hp e => by
    rcases List.mem_cons.mp hp with rfl | hp
    · rfl
    · rw [List.mem_singleton.mp hp] at e
      exact absurd e.symm E.hne
  refine ⟨_, ps_for (passes_of rfl) rfl (pi_tup (pe_tup (pa_cons (pe_op op_add (pv 5) pe_int) (pa_cons (pv 6) (pa_cons pe_int pa_nil))))) (pg_name (i := 18) scLaw.nd rfl (Or.inr rfl))
      (pss_cons (ps_if (pt_cmpR (op_neD hr1.units) (pe_ref (Tt := [(Pl, qualLaw), (Pt, qualRef)]) E.DR E.T E.ER E.TB rfl hmT huT (hr.mono (show 8 + 2 ≤ 12 by decide)) (fun A outer s H E_ f c' hr2 => pe_gd E.GP (by exact hr2) (passes_call (takes_of rfl rfl rfl rfl) fun _ _ _ _ h => h) (pa_cons (pv 16) (pa_cons (pv 18) pa_nil)))) (pe_lst (pa_cons pe_str pa_nil)) (nomark _)) (pss_one ps_never) pss_nil)
      (pss_one (ps_for (passes_of rfl) rfl (pi_tup (pe_tup (pa_cons (pe_op op_mulT (pe_tup (pa_cons (pe_op op_sub (pv 2) pe_int) pa_nil)) (pv 18)) (pa_cons (pe_op op_mulT (pe_tup (pa_cons pe_int pa_nil)) (pv 18)) pa_nil)))) (pg_name (i := 17) scLaw.nd rfl (Or.inr rfl))
        (pss_one (ps_if (pt_cmpR (op_neD hr1.units) (pe_ref (Tt := [(Pl, qualLaw), (Pt, qualRef)]) E.DR E.T E.ER E.TB rfl hmT huT (hr.mono (show 8 + 2 ≤ 12 by decide)) (fun A outer s H E_ f c' hr2 => pe_gd E.GW (by exact hr2) (passes_call (takes_of rfl rfl rfl rfl) fun _ _ _ _ h => h) (pa_cons (pv 16) (pa_cons (pe_op op_mulT (pe_tup (pa_cons pe_int pa_nil)) (pv 18)) (pa_cons (pv 17) pa_nil))))) (pe_lst (pa_cons pe_str pa_nil)) (nomark _)) (pss_one ps_never) pss_nil))))), ?_⟩
  intro D H v0 v1 m ahead st_ long nl v8 v9 v10 v11 v12 v13 v14 v15 b v17 v18 v19 B hB hlo hhi hT k
  have one : 1 ≤ sizeLine := by decide
  have two : 2 ≤ sizeLine := by decide
  have m2 := B.m2
  have m4 := B.m4
  have ok := cb_okB B
  have bl := bnd_le m
  have zM : PyData.strOk "many" = true := by decide +kernel
  have iT := E.iT
  refine ⟨_, rfl, _, _, rfl, rfl, _, rfl, by show 3 ≤ sizeLine; decide, fun t ht => ?_⟩
  have s1 := same_new (o := .tup [V.int ((bnd m + 1 : Nat) : Int), V.int (long : Int), V.int ((100 : Nat) : Int)]) ht
  have et := upd_same (H := H) (a := t) (o := .tup [V.int ((bnd m + 1 : Nat) : Int), V.int (long : Int), V.int ((100 : Nat) : Int)])
  have hB := hB.same s1
  have hT := hT.ext s1
  have each : ∀ y ∈ [V.int ((bnd m + 1 : Nat) : Int), V.int (long : Int), V.int ((100 : Nat) : Int)], ∃ L : Nat, bnd m + 1 ≤ L ∧ L ≤ 100 ∧ y = V.int (L : Int) := by
    intro y hy
    rcases List.mem_cons.mp hy with rfl | hy
    · exact ⟨_, Nat.le_refl _, by omega, rfl⟩
    rcases List.mem_cons.mp hy with rfl | hy
    · exact ⟨_, hlo, hhi, rfl⟩
    rw [List.mem_singleton.mp hy]
    exact ⟨_, by omega, Nat.le_refl _, rfl⟩
  refine ⟨t, rfl, ⟨_, SqT.of et⟩, for_tup (K := K) (a := t) (xs := [V.int ((bnd m + 1 : Nat) : Int), V.int (long : Int), V.int ((100 : Nat) : Int)])
    (fun j σ H3 => ExtN (upd H t (.tup [V.int ((bnd m + 1 : Nat) : Int), V.int (long : Int), V.int ((100 : Nat) : Int)])) H3 ∧ Tabs [(Pl, qualLaw), (Pt, qualRef)] H3 ∧ ∃ v17 v18 : Option V, σ = sg v0 v1 m ahead st_ (bnd m) long nl v8 v9 v10 v11 v12 v13 v14 v15 b v17 v18 v19)
    ⟨ExtN.refl _, hT, _, _, rfl⟩ (fun j σ H3 _ h => SqT.of (ext_tup h.1 et)) ?_ ?_⟩
  · rintro j y σ H3 hj ⟨x3, T3, w17, w18, rfl⟩
    obtain ⟨L, L1, L2_, rfl⟩ := each y (List.mem_of_getElem? hj)
    have big := bnd_big m2 m4 L1
    refine ⟨T3, fun H4 x4 T4 R => ⟨_, rfl, _, rfl, b, m, cbook m ahead st_, _, rfl, (hB.ext x3).ext x4, ok, .inr (.inl ⟨L, rfl, L2_, big, fun H5 s5 => ⟨CT, 6, rfl, rfl, iT, fun H6 l s6 e6 => ne_read zM e6 fun H7 s7 => ?_⟩⟩)⟩⟩
    have s47 := s5.trans (s6.trans s7)
    have x3 := (x3.trans x4).trans (ext_same s47)
    have T3 := T4.ext s47
    clear s47 s5 s6 s7 x4 T4 e6
    have hB := hB.ext x3
    refine ⟨_, rfl, _, _, rfl, rfl, one, fun z hz => ⟨_, rfl, z, L, _, rfl, rfl, upd_same, by simp, by omega, by show 1 ≤ 1000; decide, fun q1 H8 s8 e8 => ⟨one, fun z2 hz2 => ⟨_, rfl, z2, L, _, rfl, rfl, upd_same, by simp, by omega, by show 1 ≤ 1000; decide, fun q2 H9 s9 e9 => ⟨two, fun tt htt => ?_⟩⟩⟩⟩⟩
    rw [flat_one] at e8 e9
    have s8 := (same_new hz).trans s8
    have s9 := (same_new hz2).trans s9
    have st := same_new (o := .tup [V.ref q1, V.ref q2]) htt
    have r1 : RowAt H8 m q1 (List.replicate L (m - 1)) := by
      refine ⟨?_, by rw [List.length_replicate]; exact L2_, fun x hx => by rw [(List.mem_replicate.mp hx).2]; omega⟩
      rw [e8]
      unfold rv
      rw [List.map_replicate]
      exact congrArg (fun v : Int => some (HO.tup (List.replicate L (V.int v)))) (by show (m : Int) - 1 = ((m - 1 : Nat) : Int); omega)
    have r2 : RowAt H9 m q2 (List.replicate L 0) := rowAt_zero (by omega) L2_ e9
    have r1 := (r1.same s9).same st
    have r2 := r2.same st
    have ett := upd_same (H := H9) (a := tt) (o := .tup [V.ref q1, V.ref q2])
    have s8t := (s8.trans s9).trans st
    have each2 : ∀ y ∈ [V.ref q1, V.ref q2], ∃ q r, y = V.ref q ∧ r.length = L ∧ RowAt (upd H9 tt (.tup [V.ref q1, V.ref q2])) m q r := by
      intro y hy
      rcases List.mem_cons.mp hy with rfl | hy
      · exact ⟨_, _, rfl, List.length_replicate, r1⟩
      rw [List.mem_singleton.mp hy]
      exact ⟨_, _, rfl, List.length_replicate, r2⟩
    have hB := hB.same s8t
    refine ⟨tt, rfl, ⟨_, SqT.of ett⟩, for_tup (K := K) (a := tt) (xs := [V.ref q1, V.ref q2])
      (fun j σ H10 => ExtN (upd H9 tt (.tup [V.ref q1, V.ref q2])) H10 ∧ Tabs [(Pl, qualLaw), (Pt, qualRef)] H10 ∧ ∃ v17 : Option V, σ = sg v0 v1 m ahead st_ (bnd m) long nl v8 v9 v10 v11 v12 v13 v14 v15 b v17 (some (.int (L : Int))) v19)
      ⟨ExtN.refl _, T3.ext s8t, _, rfl⟩ (fun j σ H10 _ h => SqT.of (ext_tup h.1 ett)) ?_ ?_⟩
    · rintro j2 y2 σ2 H10 hj2 ⟨x10, T10, u17, rfl⟩
      obtain ⟨q, r, rfl, rl, hq⟩ := each2 y2 (List.mem_of_getElem? hj2)
      refine ⟨T10, fun H11 x11 T11 R => ⟨_, rfl, one, fun z3 hz3 => ⟨_, rfl, z3, L, _, rfl, rfl, upd_same, by simp, by omega, by show 1 ≤ 1000; decide, fun zz H12 s12 e12 => ?_⟩⟩⟩
      rw [flat_one] at e12
      have s12 := (same_new hz3).trans s12
      have hZ : RowAt H12 m zz (List.replicate L 0) := rowAt_zero (by omega) L2_ e12
      refine ⟨_, rfl, b, m, cbook m ahead st_, _, _, rfl, ((hB.ext x10).ext x11).same s12, ok, .inr ⟨zz, q, _, r, rfl, rfl, hZ, ((hq.ext x10).ext x11).same s12, .inr (.inl ⟨by rw [List.length_replicate, rl], by rw [List.length_replicate]; exact big, fun H13 s13 => ⟨CT, 6, rfl, rfl, iT, fun H14 l s14 e14 => ne_read zM e14 fun H15 s15 => ?_⟩⟩)⟩⟩
      have sF := s12.trans (s13.trans (s14.trans s15))
      exact ⟨(x10.trans x11).trans (ext_same sF), T11.ext sF, _, rfl⟩
    · rintro σ2 H10 ⟨x10, T10, u17, rfl⟩
      exact ⟨(x3.trans (ext_same s8t)).trans x10, T10, _, _, rfl⟩
  · rintro σ H3 ⟨x3, T3, w17, w18, rfl⟩
    exact k H3 _ _ ((ext_same s1).trans x3) T3
end
end LH
/-! The law, run. -/
namespace LH
open PySem PySem.Spec PyProof.Rows L2 KR KW
open LamX (ExtN Tabs TabB TabS)
theorem tabs_upd {T : List (Addr × Str)} {H : Hp} {l : Addr} {xs : List V} {o : HO} (t : Tabs T H) (h : H l = some (.lst xs)) : Tabs T (upd H l o) := fun p hp => by
  obtain ⟨ps, h1, h2, h3⟩ := t p hp
  refine ⟨ps, by rw [upd_ne (ne_of h1 h (fun z => nomatch z))]; exact h1, h2, fun pos cv hc => ?_⟩
  obtain ⟨cc, e1, e2⟩ := h3 pos cv hc
  refine ⟨cc, e1, ?_⟩
  rw [upd_ne (ne_of e2 h (fun z => by unfold LamX.CodeO at z; nomatch z))]
  exact e2
theorem tabs_snd {a b : Addr × Str} {H : Hp} (t : Tabs [a, b] H) : Tabs [b] H := fun p hp => t p (List.mem_cons_of_mem _ hp)
section
variable {P : Program} {w : World} {K : PySem.W.Frag} {mg : Str → Option Value} {base : Heap} {C CR CN CT CE c Pl Pt : Addr} {cs : Nat → Addr}
abbrev teNum : TE := tCall spNext [] noE (tCons (tVar 1) (tCons (tOp (rI CMul fun i j => .int (i * j)) (tOp (rI CPow fun i j => .int (i ^ j.toNat)) (tVar 2) (tC (.int 4))) (tOp (rI CPow fun i j => .int (i ^ j.toNat)) (tVar 2) (tC (.int 2)))) tNil))
theorem law_run (E : Lean1 P w K mg base C CR CN CT CE c Pl Pt cs) {f : Addr} (D : Dc K mg "law" sLaw f c)
    {A : Around} {s : Shared} {H : Hp} {a : Addr} {ns : List Int} (hG : A.guards = some []) (hr0 : Room 13 A) (e0 : Env0 P w K mg base A [] s H) (hS : SqL K H a (ns.map V.int)) (hT : Tabs [(Pl, qualLaw), (Pt, qualRef)] H) :
    codeAny (model P w) A (.call (.ref f) ⟨[.ref a], []⟩) (L2.CR (L2.CX P w) [] P w H s (fun v _ => v = .bl true) fun _ _ _ => False) s := by
  obtain ⟨fI, fdI, mkI, bI, FI⟩ := E.GN.ex
  obtain ⟨gm, kp, ci, oc, od, kV, doc, pm, an, ct, osl, lk⟩ := D
  have bd : Binds K (PySem.W.fnOf "law" "law" (defArgs sLaw) (defBody sLaw) (defScope sLaw) .none kV doc pm an (.ref c) ct) ["_law_script"] [] := Binds.all fun us hl => match us, hl with | [_], _ => rfl
  have KX : K.In s.heap := e0.mod.kin.keeps fun b o e => (e0.bs b o e).1
  have bt := bd s [.ref a] KX rfl
  refine LamX.run_ofS (us := [.ref a]) (vs := [.ref a]) lk ci scLaw hr0 e0 bt (.cons rfl .nil) rfl fun hr => ?_
  have hG2 : (A.deeper (envOfC "law" (defScope sLaw) s.heap.objs.size f (.ref c))).guards = some [] := hG
  have hr1 := hr.mono (show 1 ≤ 12 by decide)
  obtain ⟨tA, pA, kA⟩ := loop1 (f := f) (s := s) (H0 := H) E hG hr
  obtain ⟨tB, pB, kB⟩ := loop2 (f := f) (s := s) (H0 := H) E hr
  refine ⟨_, pss_cons (ps_set (i := 1) scLaw.nd rfl (.inr rfl) (pe_gd E.GS hr1 passL (pa_cons (pv 0) (pa_cons pe_int pa_nil))))
    (pss_cons (ps_set (i := 2) scLaw.nd rfl (.inr rfl) (pe_op op_add pe_int (pe_gd E.GX hr1 passL (pa_cons (pv 1) (pa_cons pe_int pa_nil)))))
    (pss_cons (ps_set (i := 3) scLaw.nd rfl (.inl rfl) (pe_gd E.GX hr1 passL (pa_cons (pv 1) (pa_cons pe_int pa_nil))))
    (pss_cons (ps_set (i := 4) scLaw.nd rfl (.inl rfl) (pe_op op_add pe_int (pe_gd E.GX hr1 passL (pa_cons (pv 1) (pa_cons (pe_op op_add (pv 3) pe_int) pa_nil)))))
    (pss_cons (ps_set (i := 5) scLaw.nd rfl (.inl rfl) (pe_ix ix_tup (pe_tup (pa_cons pe_int (pa_cons pe_int (pa_cons pe_int pa_nil)))) (pe_op op_sub (pv 2) pe_int) (fun _ _ => rfl)))
    (pss_cons (ps_set (i := 6) scLaw.nd rfl (.inl rfl) (pe_op op_add (pe_op op_add (pv 5) pe_int) (pe_gd E.GX hr1 passL (pa_cons (pv 1) (pa_cons (pe_op op_sub pe_int (pv 5)) pa_nil)))))
    (pss_cons (ps_setLc (i := 7) (own := [("_law_k", 19)]) (g := gName 19) (tt := tYes) (te := teNum) rfl scLaw.nd rfl rfl (by rfl) (pi_range1 rfl E.T.range (pa_cons pe_int pa_nil)) (blkOk_by (N := nmLaw) (sc := defScope sLaw) (by decide +kernel))
          (fun _ _ _ _ _ => pg_name (i := 19) scLaw.nd rfl (Or.inl rfl)) (fun _ _ _ _ _ => pts_nil)
          (fun _ _ _ _ _ => pe_gd E.GX hr1 passL (pa_cons (pv 1) (pa_cons (pe_op op_mul (pe_op op_pow (pv 2) pe_int) (pe_op op_pow (pv 2) pe_int)) pa_nil))))
    (pss_cons (ps_set (i := 8) scLaw.nd rfl (.inl rfl) (pe_tup (pa_cons (pe_rgF rfl rfl E.T.tuple (prg_1 rfl E.T.range (pv 2))) (pa_cons (pe_op op_mulT (pe_tup (pa_cons pe_int pa_nil)) (pv 2)) pa_nil))))
    (pss_cons (ps_set (i := 9) scLaw.nd rfl (.inl rfl) (pe_op op_rep (pe_lst (pa_cons (pv 8) pa_nil)) (pv 3)))
    (pss_cons (ps_expr (pe_bm PySem.F.plainAttrs_list PySem.F.slot_list_insert PySem.F.type_list_insert mt_insert (pv 9) (pa_cons (pe_op op_sub (pv 4) pe_int)
        (pa_cons (pe_tup (pa_cons (pe_op op_catF (pe_rgF rfl rfl E.T.tuple (prg_2 rfl E.T.range pe_int (pv 2))) (pe_tup (pa_cons pe_int pa_nil)))
          (pa_cons (pe_op op_cat2 (pe_op op_mulT (pe_tup (pa_cons pe_int pa_nil)) (pe_op op_sub (pv 2) pe_int)) (pe_tup (pa_cons (pv 4) pa_nil))) pa_nil))) pa_nil))))
    (pss_cons (ps_set (i := 16) scLaw.nd rfl (.inr rfl) (pe_make mkI FI (hr.mono (by decide)) rfl E.BT.mgC bI .nil passL (pa_cons (pv 2) (pa_cons (pv 9) pa_nil))))
    (pss_cons pA
    (pss_cons pB
    (pss_cons (ps_if (pt_not (pt_val (pe_gdG E.GLi hG2 (hr.mono (by decide)) (pa_cons (pe_op op_add pe_int (pe_op op_mod (pe_ix ix_list (pv 7) pe_int (fun _ _ => rfl)) pe_int)) (pa_cons (pe_op op_add pe_int (pe_op op_mod (pe_ix ix_list (pv 7) pe_int (fun _ _ => rfl)) pe_int)) pa_nil))))) (pss_one ps_never) pss_nil)
    (pss_one (ps_ret (pe_gd E.GRf (hr.mono (by decide)) passL (pa_cons (pv 16) (pa_cons (pv 2) (pa_cons (pe_op op_mod (pe_ix ix_list (pv 7) pe_int (fun _ _ => rfl)) (pe_op op_add (pv 5) pe_int)) (pa_cons (pv 6) pa_nil)))))))))))))))))))), ?_⟩
  have one : 1 ≤ sizeLine := by decide
  have two : 2 ≤ sizeLine := by decide
  -- state
  refine ⟨_, rfl, a, ns, rfl, hS, fun H1 l z s1 e1 => ?_⟩
  have T1 := hT.ext s1
  clear s1 hT
  -- many
  refine ⟨_, rfl, l, z, 3, rfl, e1, by decide, by decide, fun r1 z1 h1 => ⟨_, _, rfl, rfl, ?_⟩⟩
  have T2 := tabs_upd (o := .lst [.int z1]) T1 e1
  have e2 := upd_same (H := H1) (a := l) (o := .lst [.int z1])
  generalize upd H1 l (.lst [.int z1]) = H2 at T2 e2 ⊢
  clear T1 e1
  -- ahead
  refine ⟨_, rfl, l, z1, 3, rfl, e2, by decide, by decide, fun r2 z2 h2 => ?_⟩
  have T3 := tabs_upd (o := .lst [.int z2]) T2 e2
  have e3 := upd_same (H := H2) (a := l) (o := .lst [.int z2])
  generalize upd H2 l (.lst [.int z2]) = H3 at T3 e3 ⊢
  clear T2 e2
  -- step
  refine ⟨_, rfl, _, rfl, _, _, rfl, rfl, l, z2, r2 + 1, rfl, e3, by omega, by omega, fun r3 z3 h3 => ⟨_, _, rfl, rfl, ?_⟩⟩
  have T4 := tabs_upd (o := .lst [.int z3]) T3 e3
  have e4 := upd_same (H := H3) (a := l) (o := .lst [.int z3])
  generalize upd H3 l (.lst [.int z3]) = H4 at T4 e4 ⊢
  clear T3 e3
  have B : CB (2 + r1) r2 (1 + r3) := ⟨by omega, by omega, by omega, by omega, by omega⟩
  have bl := bnd_le (2 + r1)
  -- bound
  refine ⟨by show 3 ≤ sizeLine; decide, fun t ht => ⟨_, rfl, _, _, rfl, rfl, t, _, _, V.int ((bnd (2 + r1) : Nat) : Int), rfl, rfl, SqT.of upd_same, ?_, ?_⟩⟩
  · rcases (show r1 = 0 ∨ r1 = 1 ∨ r1 = 2 by omega) with rfl | rfl | rfl
    · exact atI_nat (j := 0) rfl
    · exact atI_nat (j := 1) rfl
    · exact atI_nat (j := 2) rfl
  have s5 := same_new (o := .tup [V.int 6, V.int 4, V.int 3]) ht
  have T5 := T4.ext s5
  have e5 := s5 _ _ e4
  generalize upd H4 t (.tup [V.int 6, V.int 4, V.int 3]) = H5 at T5 e5 ⊢
  clear T4 e4 s5 ht
  -- long
  refine ⟨_, rfl, _, _, rfl, rfl, _, rfl, _, rfl, _, _, rfl, rfl, l, z3, 100 - bnd (2 + r1), ?_, e5, by omega, by omega, fun r4 z4 h4 => ⟨_, _, rfl, rfl, ?_⟩⟩
  · exact congrArg (fun v : Int => [V.ref l, V.int v]) (by show (100 : Int) - ((bnd (2 + r1) : Nat) : Int) = ((100 - bnd (2 + r1) : Nat) : Int); omega)
  have T6 := tabs_upd (o := .lst [.int z4]) T5 e5
  have e6 := upd_same (H := H5) (a := l) (o := .lst [.int z4])
  generalize upd H5 l (.lst [.int z4]) = H6 at T6 e6 ⊢
  clear T5 e5
  -- numbers
  refine ⟨4, rfl, by decide, by decide, fun nl hnl => ?_⟩
  rw [show (4 : Int).toNat = 4 from rfl]
  refine lc_range (lo := 0) (n := 4) (fun i H7 => Tabs [(Pl, qualLaw), (Pt, qualRef)] H7 ∧ l ≠ nl ∧ ∃ (zz : Int) (qs : List Nat), H7 l = some (.lst [.int zz]) ∧ H7 nl = some (.lst (qs.map fun n : Nat => V.int (n : Int))) ∧ qs.length = i) ⟨T6.ext (same_new hnl), ne_of_none e6 hnl, z4, [], same_new hnl _ _ e6, upd_same, rfl⟩ ?_ ?_
  · rintro kk H7 hkk ⟨T7, lnl, zz, qs, e7, en, ql⟩
    refine ⟨rfl, ⟨_, rfl, _, rfl, _, _, rfl, rfl, ⟨by decide, by decide, ?_⟩, _, rfl, _, _, rfl, rfl, ⟨by decide, by decide, ?_⟩, _, _, rfl, rfl, ?_, l, zz, (2 + r1) ^ 4 * (2 + r1) ^ 2, ?_, e7, ?_, ?_, fun r z' hr_ => ?_⟩⟩
    · show ((2 : Int) + (r1 : Int)).natAbs < 2 ^ 64
      omega
    · show ((2 : Int) + (r1 : Int)).natAbs < 2 ^ 64
      omega
    · rcases (show r1 = 0 ∨ r1 = 1 ∨ r1 = 2 by omega) with rfl | rfl | rfl
      · exact .inl ⟨by decide, by decide⟩
      · exact .inl ⟨by decide, by decide⟩
      · exact .inl ⟨by decide, by decide⟩
    · rcases (show r1 = 0 ∨ r1 = 1 ∨ r1 = 2 by omega) with rfl | rfl | rfl
      · rfl
      · rfl
      · rfl
    · exact Nat.mul_pos (Nat.pow_pos (by omega)) (Nat.pow_pos (by omega))
    · rcases (show r1 = 0 ∨ r1 = 1 ∨ r1 = 2 by omega) with rfl | rfl | rfl
      · decide
      · decide
      · decide
    · refine ⟨qs.map fun n : Nat => V.int (n : Int), by rw [upd_ne lnl.symm]; exact en, by rw [List.length_map, ql, sizeLine_eq]; omega, ?_⟩
      have en2 : (upd H7 l (.lst [.int z'])) nl = some (.lst (qs.map fun n : Nat => V.int (n : Int))) := by rw [upd_ne lnl.symm]; exact en
      refine ⟨tabs_upd (tabs_upd T7 e7) en2, lnl, z', qs ++ [r], by rw [upd_ne lnl, upd_same], ?_, by rw [List.length_append, ql]; rfl⟩
      rw [upd_same, List.map_append]
      rfl
  rintro H7 ⟨T7, lnl, zz, qs, e7, en, ql⟩
  obtain ⟨n0, n1, n2, n3, rfl⟩ : ∃ n0 n1 n2 n3, qs = [n0, n1, n2, n3] := by
    match qs, ql with
    | [n0, n1, n2, n3], _ => exact ⟨_, _, _, _, rfl⟩
  have en : H7 nl = some (.lst [.int (n0 : Int), .int (n1 : Int), .int (n2 : Int), .int (n3 : Int)]) := en
  clear e7 ql T6 e6 hnl lnl
  -- the hand that does nothing
  refine ⟨_, rfl, _, rfl, RgOk.of_le (by omega) (by omega) (by omega) (by omega), fun t1 H8 s8 et1 => ⟨one, fun z8 hz8 => ⟨_, rfl, z8, 2 + r1, _, rfl, rfl, upd_same, by simp, by omega, by show 1 ≤ 1000; decide, fun o1 H9 s9 eo1 => ⟨two, fun p1 hp1 => ?_⟩⟩⟩⟩
  rw [flat_one] at eo1
  have s9 := (same_new hz8).trans s9
  have sp := same_new (o := .tup [V.ref t1, V.ref o1]) hp1
  have rg : rgV 0 ((2 + r1 : Nat) : Int) = rv (List.range (2 + r1)) := by
    unfold rgV rv
    rw [Int.sub_zero, Int.toNat_natCast]
    exact List.map_congr_left fun i _ => by show V.int (0 + (i : Int)) = V.int (i : Int); rw [Int.zero_add]
  have P1 : PairAt (upd H9 p1 (.tup [V.ref t1, V.ref o1])) p1 (KW.still (2 + r1)) := by
    refine ⟨t1, o1, upd_same, ?_, sp _ _ (by rw [eo1]; exact congrArg (fun l => some (HO.tup l)) (wv_rep _ _).symm)⟩
    have q : TupF H8 t1 (rgV 0 ((2 + r1 : Nat) : Int)) := et1
    rw [rg] at q
    exact (q.same s9).same sp
  have s79 := (s8.trans s9).trans sp
  have T8 := T7.ext s79
  have en := s79 _ _ en
  generalize upd H9 p1 (.tup [V.ref t1, V.ref o1]) = Ha at P1 T8 en ⊢
  clear T7 s8 s9 sp s79 eo1 et1 hz8
  -- the hands ahead
  refine ⟨_, rfl, one, fun l1 hl1 => ⟨_, rfl, l1, (r2 : Int), _, rfl, rfl, upd_same, by omega, by omega, ?_, fun l2 hl2 => ?_⟩⟩
  · rw [sizeLine_eq, Int.toNat_natCast]
    show 1 * r2 ≤ _
    omega
  have sb := (same_new (o := .lst [V.ref p1]) hl1).trans (same_new (o := .lst (List.replicate ((r2 : Int)).toNat [V.ref p1]).flatten) hl2)
  have el2 : (upd (upd Ha l1 (.lst [V.ref p1])) l2 (.lst (List.replicate ((r2 : Int)).toNat [V.ref p1]).flatten)) l2 = some (.lst (List.replicate r2 (V.ref p1))) := by rw [upd_same, Int.toNat_natCast, flat_one]
  have P1 := P1.same sb
  have T9 := T8.ext sb
  have nll2 : nl ≠ l2 := ne_of_none (same_new hl1 _ _ en) hl2
  have en := sb _ _ en
  generalize upd (upd Ha l1 (.lst [V.ref p1])) l2 (.lst (List.replicate ((r2 : Int)).toNat [V.ref p1]).flatten) = Hb at P1 T9 en el2 ⊢
  clear T8 sb hl1 hl2
  -- the hand that counts
  refine ⟨_, rfl, .inl ⟨rfl, _, SqL.of el2⟩, _, rfl, _, _, rfl, rfl, ?_⟩
  refine ⟨_, rfl, 1, ((2 + r1 : Nat) : Int), rfl, rfl, RgOk.of_le (by omega) (by omega) (by omega) (by omega), fun t2 Hc sc et2 => ⟨one, fun z9 hz9 => ?_⟩⟩
  have rgc : rgV 1 ((2 + r1 : Nat) : Int) ++ [V.int 0] = rv (counts (2 + r1) (1 + r3)).1 := by
    rcases (show r1 = 0 ∨ r1 = 1 ∨ r1 = 2 by omega) with rfl | rfl | rfl
    · rfl
    · rfl
    · rfl
  have rgl : (rgV 1 ((2 + r1 : Nat) : Int)).length = 1 + r1 := by
    rw [rgV_length]
    omega
  refine ⟨t2, z9, _, _, rfl, rfl, (et2.same (same_new hz9)).sq, SqT.of upd_same, fun q => ?_, by simp, ?_, fun t3 Hd sd et3 => ?_⟩
  · have z : (rgV 1 ((2 + r1 : Nat) : Int)).length = 0 := by
      have q : rgV 1 ((2 + r1 : Nat) : Int) = [] := q
      rw [q]
      rfl
    omega
  · show (rgV 1 ((2 + r1 : Nat) : Int)).length + 1 ≤ sizeLine
    rw [rgl, sizeLine_eq]
    omega
  have et3 : TupF Hd t3 (rgV 1 ((2 + r1 : Nat) : Int) ++ [V.int 0]) := et3
  rw [rgc] at et3
  have sbd := sc.trans ((same_new hz9).trans sd)
  clear sc sd et2 hz9
  refine ⟨one, fun z9 hz9 => ⟨_, rfl, _, _, rfl, rfl, z9, 1 + r1, _, rfl, ?_, upd_same, by simp, by omega, by show 1 ≤ 1000; decide, fun q1 He se eq1 => ?_⟩⟩
  · exact congrArg V.int (by show (2 : Int) + (r1 : Int) - 1 = ((1 + r1 : Nat) : Int); omega)
  rw [flat_one] at eq1
  have se := (same_new hz9).trans se
  refine ⟨_, rfl, one, fun za hza => ⟨q1, za, _, _, rfl, rfl, same_new hza _ _ eq1, upd_same, ?_, fun o2 Hf sf eo2 => ⟨two, fun p2 hp2 => ?_⟩⟩⟩
  · rw [List.length_replicate, sizeLine_eq]
    show 1 + r1 + 1 ≤ _
    omega
  have sf := (se.trans (same_new hza)).trans sf
  have sp := same_new (o := .tup [V.ref t3, V.ref o2]) hp2
  have eo2 : Hf o2 = some (.tup (wv (counts (2 + r1) (1 + r3)).2)) := by
    rw [eo2]
    show _ = some (HO.tup (wv (List.replicate (2 + r1 - 1) 0 ++ [((1 + r3 : Nat) : Int)])))
    unfold wv
    rw [List.map_append, List.map_replicate, show 2 + r1 - 1 = 1 + r1 by omega]
    rfl
  have P2 : PairAt (upd Hf p2 (.tup [V.ref t3, V.ref o2])) p2 (counts (2 + r1) (1 + r3)) := ⟨t3, o2, upd_same, (et3.same sf).same sp, sp _ _ eo2⟩
  have sbg := (sbd.trans sf).trans sp
  have P1 := P1.same sbg
  have Ta := T9.ext sbg
  have en := sbg _ _ en
  have el2 := sbg _ _ el2
  generalize upd Hf p2 (.tup [V.ref t3, V.ref o2]) = Hg at P1 P2 Ta en el2 ⊢
  clear T9 sbd se sf sp sbg et3 eq1 eo2 hz9 hza hp2
  -- pairs.insert
  refine ⟨l2, _, _, _, rfl, rfl, el2, by rw [List.length_replicate, sizeLine_eq]; omega, by show (0 : Int) ≤ 1 + (r3 : Int) - 1; omega, by show 1 + (r3 : Int) - 1 < 2 ^ 63; omega, ?_⟩
  have ins : ∀ o, PairAt (upd Hg l2 (.lst o)) p1 (KW.still (2 + r1)) ∧ PairAt (upd Hg l2 (.lst o)) p2 (counts (2 + r1) (1 + r3)) := fun o => by
    have fz : ∀ {p : Addr} {h : KW.Row × Wd}, PairAt Hg p h → PairAt (upd Hg l2 (.lst o)) p h := fun ⟨t, oo, a1, ⟨ob, a2, a2'⟩, a3⟩ =>
      ⟨t, oo, by rw [upd_ne (ne_of a1 el2 (fun z => nomatch z))]; exact a1, ⟨ob, by rw [upd_ne (ne_of a2 el2 (fun z => nomatch z))]; exact a2, a2'⟩, by rw [upd_ne (ne_of a3 el2 (fun z => nomatch z))]; exact a3⟩
    exact ⟨fz P1, fz P2⟩
  have fit : ∃ ps : List Addr, (List.replicate r2 (V.ref p1)).take ((1 : Int) + (r3 : Int) - 1).toNat ++ [V.ref p2] ++ (List.replicate r2 (V.ref p1)).drop ((1 : Int) + (r3 : Int) - 1).toNat = ps.map V.ref ∧ ∀ o, Prs (upd Hg l2 (.lst o)) ps (cbook (2 + r1) r2 (1 + r3)) := by
    rw [show ((1 : Int) + (r3 : Int) - 1).toNat = r3 by omega]
    have q1 : ∀ o, PairAt (upd Hg l2 (.lst o)) p1 (KW.still (2 + r1)) := fun o => (ins o).1
    have q2 : ∀ o, PairAt (upd Hg l2 (.lst o)) p2 (counts (2 + r1) (1 + r3)) := fun o => (ins o).2
    rcases (show (r2 = 0 ∧ r3 = 0) ∨ (r2 = 1 ∧ r3 = 0) ∨ (r2 = 1 ∧ r3 = 1) ∨ (r2 = 2 ∧ r3 = 0) ∨ (r2 = 2 ∧ r3 = 1) ∨ (r2 = 2 ∧ r3 = 2) by omega) with ⟨rfl, rfl⟩ | ⟨rfl, rfl⟩ | ⟨rfl, rfl⟩ | ⟨rfl, rfl⟩ | ⟨rfl, rfl⟩ | ⟨rfl, rfl⟩
    · exact ⟨[p2], rfl, fun o => .cons (q2 o) .nil⟩
    · exact ⟨[p2, p1], rfl, fun o => .cons (q2 o) (.cons (q1 o) .nil)⟩
    · exact ⟨[p1, p2], rfl, fun o => .cons (q1 o) (.cons (q2 o) .nil)⟩
    · exact ⟨[p2, p1, p1], rfl, fun o => .cons (q2 o) (.cons (q1 o) (.cons (q1 o) .nil))⟩
    · exact ⟨[p1, p2, p1], rfl, fun o => .cons (q1 o) (.cons (q2 o) (.cons (q1 o) .nil))⟩
    · exact ⟨[p1, p1, p2], rfl, fun o => .cons (q1 o) (.cons (q1 o) (.cons (q2 o) .nil))⟩
  obtain ⟨ps, eps, hps⟩ := fit
  have Prs1 := hps ((List.replicate r2 (V.ref p1)).take ((1 : Int) + (r3 : Int) - 1).toNat ++ [V.ref p2] ++ (List.replicate r2 (V.ref p1)).drop ((1 : Int) + (r3 : Int) - 1).toNat)
  have epl := upd_same (H := Hg) (a := l2) (o := .lst ((List.replicate r2 (V.ref p1)).take ((1 : Int) + (r3 : Int) - 1).toNat ++ [V.ref p2] ++ (List.replicate r2 (V.ref p1)).drop ((1 : Int) + (r3 : Int) - 1).toNat))
  have Tb := tabs_upd (o := .lst ((List.replicate r2 (V.ref p1)).take ((1 : Int) + (r3 : Int) - 1).toNat ++ [V.ref p2] ++ (List.replicate r2 (V.ref p1)).drop ((1 : Int) + (r3 : Int) - 1).toNat)) Ta el2
  have en : (upd Hg l2 (.lst ((List.replicate r2 (V.ref p1)).take ((1 : Int) + (r3 : Int) - 1).toNat ++ [V.ref p2] ++ (List.replicate r2 (V.ref p1)).drop ((1 : Int) + (r3 : Int) - 1).toNat))) nl = some (.lst [.int (n0 : Int), .int (n1 : Int), .int (n2 : Int), .int (n3 : Int)]) := by rw [upd_ne nll2]; exact en
  generalize upd Hg l2 (.lst ((List.replicate r2 (V.ref p1)).take ((1 : Int) + (r3 : Int) - 1).toNat ++ [V.ref p2] ++ (List.replicate r2 (V.ref p1)).drop ((1 : Int) + (r3 : Int) - 1).toNat)) = Hi at Prs1 epl Tb en ⊢
  rw [eps] at epl
  clear P1 P2 Ta el2 ins hps eps
  -- the book
  refine ⟨_, rfl, _, rfl, ?_⟩
  intro b dx hb hdx hne
  have sg_ := (same_new (o := .own b) hdx).trans (same_new (H := upd Hi dx (.own b)) (q := b) (o := .ins C dx []) (by rw [upd_ne hne.symm]; exact hb))
  have ok := cb_okB B
  refine ⟨b, dx, l2, 2 + r1, ps, cbook (2 + r1) r2 (1 + r3), rfl, upd_same, sg_ _ _ epl, Prs1.same sg_, ok, fun Hj sj hB => ⟨rfl, ?_⟩⟩
  have sj : Same Hi Hj := fun cc o e => sj cc o (sg_ _ _ e) (ne_of_none e hb)
  have Tb := Tb.ext sj
  have en := sj _ _ en
  -- the two loops
  refine kA _ _ _ _ (2 + r1) r2 (1 + r3) (bnd (2 + r1) + 1 + r4) nl _ _ _ _ _ _ _ _ b _ _ _ n0 n1 n2 n3 B hB en fun Hk w10 w11 w12 w13 w14 w15 w18 sk => ?_
  have Tb := Tb.ext sk
  have en := sk _ _ en
  have hB := hB.same sk
  refine kB _ _ _ _ (2 + r1) r2 (1 + r3) (bnd (2 + r1) + 1 + r4) nl _ _ _ _ _ _ _ _ b _ _ _ B hB (by omega) (by omega) Tb fun Hl w17 w18 xl Tl => ?_
  have en := ext_lst xl en
  have hB := hB.ext xl
  -- the line
  refine ⟨_, rfl, nl, _, _, V.int (n2 : Int), rfl, rfl, SqL.of en, atI_nat (j := 2) rfl, _, _, rfl, rfl, (by show (0 : Int) < 6; decide), _, _, rfl, rfl, _, rfl, nl, _, _, V.int (n3 : Int), rfl, rfl, SqL.of en, atI_nat (j := 3) rfl, _, _, rfl, rfl, (by show (0 : Int) < 2; decide), _, _, rfl, rfl, 1 + n2 % 6, 1 + n3 % 2, rfl, by omega, by omega, by omega, by omega, fun Hm sm => ⟨true, rfl, iteF ?_⟩⟩
  have en := sm _ _ en
  -- the rest
  refine ⟨_, rfl, _, rfl, _, rfl, nl, _, _, V.int (n2 : Int), rfl, rfl, SqL.of en, atI_nat (j := 2) rfl, _, rfl, _, _, rfl, rfl, _, _, rfl, rfl, (by show (0 : Int) < ((bnd (2 + r1) : Nat) : Int) + 1; omega), _, rfl, b, 2 + r1, n2 % (bnd (2 + r1) + 1), bnd (2 + r1) + 1 + r4, _, rfl, hB.same sm, ok, ?_, by omega, ?_, tabs_snd (Tl.ext sm), fun _ => rfl⟩
  · have := Nat.mod_lt n2 (show 0 < bnd (2 + r1) + 1 by omega)
    omega
  · have := Nat.mod_lt n2 (show 0 < bnd (2 + r1) + 1 by omega)
    omega
end
end LH
/-! The end: the law's own call, entered where nothing is being shown, with two tables of code objects. -/
namespace LH
open PySem PySem.Spec PyProof.Rows L2 KR KW
open LamX (ExtN Tabs TabB TabS)
/-- what is known of the law at the head's heap -/
def LawNow (P : Program) (w : World) (K : PySem.W.Frag) (mg : Str → Option Value) (h : Heap) (fa : Addr) : Prop :=
  ∃ cl Pl cr Pt : Addr, K.lookup Pl = none ∧ K.lookup Pt = none ∧ PySem.W.CodeHd h cl Pl ∧ PySem.W.CodeHd h cr Pt ∧ h.get? Pl = some { cls := .none, data := .fields #[] } ∧ h.get? Pt = some { cls := .none, data := .fields #[] } ∧
    ∀ base : Heap, K.In base → base.Ns mainGlobals mg → TabB base mg cl Pl → TabB base mg cr Pt → ∀ (s : Shared) (H : Hp) (a : Addr) (ns : List Int), Env0 P w K mg base callerA [] s H → SqL K H a (ns.map V.int) → H Pl = some (.tbl #[]) → H Pt = some (.tbl #[]) →
      codeAny (model P w) callerA (.call (.ref fa) ⟨[.ref a], []⟩) (L2.CR (L2.CX P w) [] P w H s (fun v _ => v = .bl true) fun _ _ _ => False) s
/-- the heap as the law's call finds it -/
def hp0 (K : PySem.W.Frag) (Pl Pt a : Addr) (vs : List Value) (ns : List Int) : Hp := fun b =>
  if b = Pl ∨ b = Pt then some (.tbl #[]) else if b = a ∧ K.lookup a = none then some (.frz { cls := .type "list", data := .seq vs.toArray } (.lst (ns.map V.int))) else none
section
variable {K : PySem.W.Frag} {Pl Pt a : Addr} {vs : List Value} {ns : List Int}
theorem hp0_cases (b : Addr) : ((b = Pl ∨ b = Pt) ∧ hp0 K Pl Pt a vs ns b = some (.tbl #[])) ∨ (¬ (b = Pl ∨ b = Pt) ∧ (b = a ∧ K.lookup a = none) ∧ hp0 K Pl Pt a vs ns b = some (.frz { cls := .type "list", data := .seq vs.toArray } (.lst (ns.map V.int)))) ∨
    (¬ (b = Pl ∨ b = Pt) ∧ ¬ (b = a ∧ K.lookup a = none) ∧ hp0 K Pl Pt a vs ns b = none) := by
  unfold hp0
  by_cases c1 : b = Pl ∨ b = Pt
  · exact .inl ⟨c1, if_pos c1⟩
  · by_cases c2 : b = a ∧ K.lookup a = none
    · exact .inr (.inl ⟨c1, c2, (if_neg c1).trans (if_pos c2)⟩)
    · exact .inr (.inr ⟨c1, c2, (if_neg c1).trans (if_neg c2)⟩)
end
theorem two_tables {P : Program} {w : World} {K : PySem.W.Frag} {mg mb : Str → Option Value} {fa a : Addr} {s : Shared} {vs : List Value} {ns : List Int} (X : K.In s.heap) (g1 : s.heap.Ns mainGlobals mg) (g2 : s.heap.Ns builtinsNs mb) (g3 : ∀ x : Str, x ≠ "__name__" → mb x = bootBuiltins x)
    (g4 : s.heap.NoLimit) (g5 : s.gens = #[]) (g6 : ∃ (bm : Addr) (ob : Obj), mg "__builtins__" = some (.ref bm) ∧ bm ≠ builtinsNs ∧ s.heap.get? bm = some ob ∧ ob.cls = .type "module" ∧ ob.dict = some builtinsNs ∧ ob.data = .plain)
    (script : s.heap.get? a = some { cls := .type "list", data := .seq vs.toArray }) (nums : IntsAre vs ns) (few : ns.length ≤ sizeLine) (L : LawNow P w K mg s.heap fa) :
    codeAny (model P w) callerA (.call (.ref fa) ⟨[.ref a], []⟩) (fun r s' => r = .ok (.ret (.bool true)) ∧ OldK s.heap s'.heap ∧ s'.os = s.os ∧ AllBare s'.gens) s := by
  obtain ⟨cl, Pl, cr, Pt, nl, nr, hl, hr, tl, tr, run⟩ := L
  have vals := vals_ints nums
  have size := nums.length
  have tab : ∀ b, b = Pl ∨ b = Pt → s.heap.get? b = some { cls := .none, data := .fields #[] } := fun b hb => hb.elim (fun e => e ▸ tl) fun e => e ▸ tr
  have sa : ¬ (a = Pl ∨ a = Pt) := fun hb => by
    have q := tab a hb
    rw [script] at q
    have q := congrArg Obj.data (Option.some.inj q)
    cases q
  let Z : Hp := hp0 K Pl Pt a vs ns
  have zt : ∀ b, b = Pl ∨ b = Pt → Z b = some (.tbl #[]) := fun b hb => if_pos hb
  -- what is neither the script nor a table is in the base
  have under : ∀ {b : Addr} {o : Obj}, s.heap.get? b = some o → o.data ≠ .seq vs.toArray → o.data ≠ .fields #[] → (hidT s.heap Z).get? b = some o := fun {b o} e n1 n2 => by
    refine hidT_get e ?_
    rcases hp0_cases (K := K) (Pl := Pl) (Pt := Pt) (a := a) (vs := vs) (ns := ns) b with ⟨hb, _⟩ | ⟨_, ⟨hb, _⟩, _⟩ | ⟨_, _, q⟩
    · rw [tab b hb] at e
      cases e
      exact absurd rfl n2
    · rw [hb, script] at e
      cases e
      exact absurd rfl n1
    · exact q
  have names : ∀ {b : Addr} {m : Str → Option Value}, s.heap.Ns b m → (hidT s.heap Z).Ns b m := fun {b m} ⟨o, es, ep, e, d, r⟩ => ⟨o, es, ep, under e (fun z => by rw [d] at z; cases z) (fun z => by rw [d] at z; cases z), d, r⟩
  have part : K.In (hidT s.heap Z) := fun b o e => by
    refine hidT_get (X b o e) ?_
    rcases hp0_cases (K := K) (Pl := Pl) (Pt := Pt) (a := a) (vs := vs) (ns := ns) b with ⟨hb, _⟩ | ⟨_, ⟨hb, q⟩, _⟩ | ⟨_, _, q⟩
    · rcases hb with hb | hb
      · rw [hb, nl] at e
        cases e
      · rw [hb, nr] at e
        cases e
    · rw [hb, q] at e
      cases e
    · exact q
  have tabB : ∀ {c p : Addr}, PySem.W.CodeHd s.heap c p → s.heap.get? p = some { cls := .none, data := .fields #[] } → TabB (hidT s.heap Z) mg c p := fun {c p} hd ht => by
    refine ⟨?_, ?_, fun z => ?_⟩
    · obtain ⟨o, us, f1, f2, f3, f4, f5, f6, f7, e, rest⟩ := hd
      refine ⟨o, us, f1, f2, f3, f4, f5, f6, f7, under e (fun z => ?_) (fun z => ?_), rest⟩
      · rw [rest.2.1] at z
        cases z
      · rw [rest.2.1] at z
        have z := Data.fields.inj z
        have q := rest.2.2.1
        rw [z] at q
        simp at q
    · obtain ⟨bm, ob, b1, b2, b3, b4, b5, b6⟩ := g6
      refine ⟨bm, ob, b1, b2, fun q => ?_, fun q => ?_, under b3 (fun z => by rw [b6] at z; cases z) (fun z => by rw [b6] at z; cases z), b4, b5, b6⟩
      · obtain ⟨o, es, ep, e, d, _⟩ := g1
        rw [q, e] at b3
        cases b3
        rw [d] at b6
        cases b6
      · rw [q, ht] at b3
        cases b3
        cases b6
    · obtain ⟨o, es, ep, e, d, _⟩ := g1
      rw [z, ht] at e
      cases e
      cases d
  have okZ : HOk P w Z s.heap := fun b u e => by
    rcases hp0_cases (K := K) (Pl := Pl) (Pt := Pt) (a := a) (vs := vs) (ns := ns) b with ⟨hb, q⟩ | ⟨_, ⟨hb, _⟩, q⟩ | ⟨_, _, q⟩
    · have e := q.symm.trans e
      cases e
      exact tab b hb
    · have e := q.symm.trans e
      cases e
      rw [hb]
      exact ⟨script, by rw [List.length_map]; exact few, vs, _, vals, script⟩
    · have e := q.symm.trans e
      cases e
  have sq : SqL K Z a (ns.map V.int) := by
    cases hk : K.lookup a with
    | some o =>
      have e := X a o hk
      rw [script] at e
      cases e
      exact .inr ⟨_, vs.toArray, _, hk, rfl, rfl, rfl, by rw [List.size_toArray, size]; exact few, by simpa using vals⟩
    | none =>
      rcases hp0_cases (K := K) (Pl := Pl) (Pt := Pt) (a := a) (vs := vs) (ns := ns) a with ⟨hb, _⟩ | ⟨_, _, q⟩ | ⟨_, n2, _⟩
      · exact absurd hb sa
      · exact .inl (.inr ⟨_, q⟩)
      · exact absurd ⟨rfl, hk⟩ n2
  have env : Env0 P w K mg (hidT s.heap Z) callerA [] s Z :=
    { frames := rfl, mod := ⟨part, names g1, ⟨mb, names g2, g3⟩, let ⟨mc, q1, q2⟩ := g4; ⟨mc, names q1, q2⟩⟩, bs := fun b o e => of_hidT e, bsz := Nat.le_of_eq (hidT_size _ _), funs := trivial, frf := fun b hb => (nomatch hb), hok := okZ, bare := .of_eq g5 }
  refine codeAny_mono (run _ part (names g1) (tabB hl tl) (tabB hr tr) s Z a ns env sq (zt Pl (.inl rfl)) (zt Pt (.inr rfl))) fun r s' res => ?_
  cases r with
  | error e =>
    obtain ⟨_, _, _, _, _, _, _, _, _, _, _, _, z⟩ := res
    exact z.elim
  | ok fl =>
    cases fl with
    | next => exact res.elim
    | brk => exact res.elim
    | cont => exact res.elim
    | ret u =>
      obtain ⟨v, H', os, bare, un, hok, rel, hv⟩ := res
      have hv : v = .bl true := hv
      subst hv
      have hu : u = Value.bool true := rel
      subst hu
      have more : ∀ b, b = Pl ∨ b = Pt → ∃ m : Array Value, s'.heap.get? b = some { cls := .none, data := .fields (#[] ++ m) } := fun b hb => by
        obtain ⟨m, z⟩ := un.tbls b #[] (zt b hb)
        exact ⟨m, hok b _ z⟩
      have rest : ∀ b o, ¬ (b = Pl ∨ b = Pt) → s.heap.get? b = some o → s'.heap.get? b = some o := fun b o nb e => by
        rcases hp0_cases (K := K) (Pl := Pl) (Pt := Pt) (a := a) (vs := vs) (ns := ns) b with ⟨hb, _⟩ | ⟨_, ⟨hb, _⟩, q⟩ | ⟨_, _, q⟩
        · exact absurd hb nb
        · have z := un.frzs b _ _ q
          obtain ⟨k2, _⟩ := hok b _ z
          rw [hb, script] at e
          cases e
          exact k2
        · exact un.keep b o e q (fun z => (nomatch z)) (fun z => (nomatch z))
      have isTab : ∀ {c p : Addr}, PySem.W.CodeHd s.heap c p → (hp : s.heap.get? p = some { cls := .none, data := .fields #[] }) → s.heap.TableAt c p #[] := fun hd hp => hd.tab hp
      refine ⟨rfl, ⟨fun b o e => ?_, fun b o e => ?_⟩, os, bare⟩
      · by_cases hb : b = Pl ∨ b = Pt
        · obtain ⟨m, hm⟩ := more b hb
          rw [tab b hb] at e
          cases e
          rcases hb with rfl | rfl
          · exact .inr (.inl ⟨(isTab hl tl).isCodeTable, rfl, #[], m, rfl, hm⟩)
          · exact .inr (.inl ⟨(isTab hr tr).isCodeTable, rfl, #[], m, rfl, hm⟩)
        · exact .inl (rest b o hb e)
      · by_cases hb : b = Pl ∨ b = Pt
        · obtain ⟨m, hm⟩ := more b hb
          exact ⟨_, hm⟩
        · exact ⟨o, rest b o hb e⟩
theorem walk_two {l : PySem.W.OpenLaw} {n : Nat} {q : Program} {loose : List Str} {XP : (Str → Option Value) → Heap → Prop} {YP : World → Heap → Prop} {d : DefRec} {K : Params → PySem.W.Frag} (hn : l.most = some n) (hn2 : n ≤ sizeLine) (hdf : d.params.defaults = []) (hY : ∀ (w : World) (h : Heap), YP w h → (K w.params).In h)
    (F : ∀ (w : World) (mg : Str → Option Value) (fa : Addr) (h : Heap), YP w h → (K w.params).In h → h.Ns mainGlobals mg → mg d.name = some (.ref fa) → LawNow l.prog w (K w.params) mg h fa) :
    PySem.W.WalkO q loose XP YP l.row.toRowW d [] (fun f vs => PySem.call f vs) := by
  refine Att.attach_callB hn hdf fun w s0 s1 mg mb fa o pm cd doc a vs ns G Y ho hd hcd hmg hobj hints hlen hbits hg => ?_
  exact two_tables (hY w _ Y) G.T.g G.T.b G.T.builtins G.T.nolimit hg G.T.bmain hobj hints (Nat.le_trans hlen hn2) (F w mg fa _ Y (hY w _ Y) G.T.g hmg)
end LH
/-! All that the program's top holds, put together. -/
namespace LH
open PySem PySem.Spec PyProof.Rows L2 KR KW
open LamX (ExtN Tabs TabB TabS)
/-- a def of the module, as the part K tells it -/
structure KD (K : PySem.W.Frag) (x : Str) (st : Stmt) : Prop where
  ex : ∃ (f : Addr) (oc : Value) (od an : Option Addr) (sl : Array (Option Value)) (kV doc pm cdv ct : Value), PySem.W.nsIn K mainGlobals x = some (some (.ref f)) ∧ K.lookup f = some ⟨oc, od, .func (PySem.W.fnOf x x (defArgs st) (defBody st) (defScope st) .none kV doc pm an cdv ct), sl⟩ ∧
    PySem.W.codeIn K cdv x = true ∧ PySem.W.keepIn K (.ref f) = true
/-- a method -/
structure KM (K : PySem.W.Frag) (C : Addr) (m qual : Str) (st : Stmt) : Prop where
  ex : ∃ (f : Addr) (oc : Value) (od an : Option Addr) (sl : Array (Option Value)) (kV doc pm cdv ct : Value), PySem.W.findIn K (.ref C) m = some (some (.ref f)) ∧ PySem.W.isFn K (.ref f) = true ∧ K.lookup f = some ⟨oc, od, .func (PySem.W.fnOf m qual (defArgs st) (defBody st) (defScope st) .none kV doc pm an cdv ct), sl⟩ ∧
    PySem.W.codeIn K cdv qual = true ∧ PySem.W.keepIn K (.ref f) = true
/-- a def, its code object at c -/
structure KC (K : PySem.W.Frag) (x : Str) (st : Stmt) (f c : Addr) : Prop where
  g : PySem.W.nsIn K mainGlobals x = some (some (.ref f))
  lk : ∃ (oc : Value) (od : Option Addr) (kV doc pm : Value) (an : Option Addr) (ct : Value) (osl : Array (Option Value)), K.lookup f = some ⟨oc, od, .func (PySem.W.fnOf x x (defArgs st) (defBody st) (defScope st) .none kV doc pm an (.ref c) ct), osl⟩
  ci : PySem.W.codeIn K (.ref c) x = true
  kp : PySem.W.keepIn K (.ref f) = true
/-- an exception's class -/
structure KX (K : PySem.W.Frag) (x : Str) (C : Addr) : Prop where
  ex : PySem.W.excIn K C [.type "ValueError", .type "Exception", .type "BaseException", .type "object"] "ValueError.__new__" = true
  k : PySem.W.keepIn K (.ref C) = true
  b : PySem.W.subIn K (.ref C) (.type "BaseException") = some true
  t : PySem.W.typeIn K (.ref C) = some (.type "type")
  hg : PySem.W.findIn K (.ref C) "__getattribute__" = some (some (.builtin "BaseException.__getattribute__"))
  hk : PySem.W.findIn K (.ref C) "__getattr__" = some none
  hd : PySem.W.hasDictIn K C = true
  ha : PySem.W.findIn K (.ref C) "__class__" = some (some (.builtin "object.__class__"))
  hn : PySem.W.specialIn K (.builtin "object.__class__") "__get__" = some (some (.builtin "getset_descriptor.__get__"))
  ht : PySem.W.takesIn K (.builtin "object.__class__") = some true
  hm : PySem.W.mroIn K C (.type "object") = some true
theorem KX.c {K : PySem.W.Frag} {x : Str} {C : Addr} (q : KX K x C) : ExcC K C := ⟨q.hg, q.hk, q.b, q.hd, q.ha, q.hn, q.ht, q.hm⟩
/-- the class of books -/
structure KB (K : PySem.W.Frag) (C : Addr) : Prop where
  pg : PySem.W.plainGet K C Str.empty = true
  hd : PySem.W.hasDictIn K C = true
  po : PySem.W.plainOver K C = true
  sa : PySem.W.findIn K (.ref C) "__setattr__" = some (some (.builtin "object.__setattr__"))
  mks : PySem.W.makesIn K C = true
  kc : PySem.W.keepIn K (.ref C) = true
  nM : PySem.W.findIn K (.ref C) "many" = some none
  nP : PySem.W.findIn K (.ref C) "pairs" = some none
section
variable {K : PySem.W.Frag} {h : Heap} {mg : Str → Option Value}
theorem KD.dn {x : Str} {st : Stmt} (q : KD K x st) (X : K.In h) (G : h.Ns mainGlobals mg) : Dn K mg x st := by
  obtain ⟨f, oc, od, an, sl, kV, doc, pm, cdv, ct, a, l, c, k⟩ := q.ex
  exact ⟨f, _, PySem.W.mg_of X G a, fun_mk l c k⟩
theorem KM.mn {C : Addr} {m qual : Str} {st : Stmt} (q : KM K C m qual st) : Mn K C m qual st := by
  obtain ⟨f, oc, od, an, sl, kV, doc, pm, cdv, ct, a, i, l, c, k⟩ := q.ex
  exact ⟨f, _, ⟨a, i, k⟩, fun_mk l c k⟩
theorem KC.dc {x : Str} {st : Stmt} {f c : Addr} (q : KC K x st f c) (X : K.In h) (G : h.Ns mainGlobals mg) : Dc K mg x st f c := ⟨PySem.W.mg_of X G q.g, q.kp, q.ci, q.lk⟩
theorem KX.xt {x : Str} {C : Addr} (q : KX K x C) (X : K.In h) (G : h.Ns mainGlobals mg) (g : PySem.W.nsIn K mainGlobals x = some (some (.ref C))) : ExT K mg x C := ⟨PySem.W.mg_of X G g, q.ex, q.k, q.b, q.t⟩
/-- the names that the top leaves as they were, and the constants -/
structure KT (K : PySem.W.Frag) : Prop where
  n_isinstance : PySem.W.nsIn K mainGlobals "isinstance" = some none
  n_int : PySem.W.nsIn K mainGlobals "int" = some none
  n_bool : PySem.W.nsIn K mainGlobals "bool" = some none
  n_tuple : PySem.W.nsIn K mainGlobals "tuple" = some none
  n_list : PySem.W.nsIn K mainGlobals "list" = some none
  n_len : PySem.W.nsIn K mainGlobals "len" = some none
  n_all : PySem.W.nsIn K mainGlobals "all" = some none
  n_sorted : PySem.W.nsIn K mainGlobals "sorted" = some none
  n_range : PySem.W.nsIn K mainGlobals "range" = some none
  n_abs : PySem.W.nsIn K mainGlobals "abs" = some none
  n_repr : PySem.W.nsIn K mainGlobals "repr" = some none
  c_least : ∃ t, PySem.W.nsIn K mainGlobals "LEAST_MANY" = some (some (.int 2 t))
  c_most : ∃ t, PySem.W.nsIn K mainGlobals "MOST_MANY" = some (some (.int 4 t))
  c_steps : ∃ t, PySem.W.nsIn K mainGlobals "MOST_STEPS" = some (some (.int 100 t))
  c_letters : ∃ t, PySem.W.nsIn K mainGlobals "MOST_LETTERS" = some (some (.int 100 t))
  c_web : ∃ t, PySem.W.nsIn K mainGlobals "MOST_WEB" = some (some (.int 81 t))
  c_hands : ∃ t, PySem.W.nsIn K mainGlobals "MOST_HANDS" = some (some (.int 6 t))
theorem KT.tops (q : KT K) (X : K.In h) (G : h.Ns mainGlobals mg) : Tops mg :=
  { isinstance := PySem.W.mg_none_of X G q.n_isinstance, int := PySem.W.mg_none_of X G q.n_int, bool := PySem.W.mg_none_of X G q.n_bool, tuple := PySem.W.mg_none_of X G q.n_tuple, list := PySem.W.mg_none_of X G q.n_list, len := PySem.W.mg_none_of X G q.n_len, all := PySem.W.mg_none_of X G q.n_all, sorted := PySem.W.mg_none_of X G q.n_sorted, range := PySem.W.mg_none_of X G q.n_range, abs := PySem.W.mg_none_of X G q.n_abs, repr := PySem.W.mg_none_of X G q.n_repr,
    least := let ⟨t, e⟩ := q.c_least; ⟨t, PySem.W.mg_of X G e⟩, most := let ⟨t, e⟩ := q.c_most; ⟨t, PySem.W.mg_of X G e⟩, steps := let ⟨t, e⟩ := q.c_steps; ⟨t, PySem.W.mg_of X G e⟩, letters := let ⟨t, e⟩ := q.c_letters; ⟨t, PySem.W.mg_of X G e⟩, web := let ⟨t, e⟩ := q.c_web; ⟨t, PySem.W.mg_of X G e⟩, hands := let ⟨t, e⟩ := q.c_hands; ⟨t, PySem.W.mg_of X G e⟩ }
/-- the classes of errors by their places -/
def ce (l : List Addr) (i : Nat) : Addr := l.getD i 0
structure KE (K : PySem.W.Frag) (CE : Addr) (l : List Addr) : Prop where
  h : PySem.W.nsIn K mainGlobals "HandError" = some (some (.ref CE))
  g0 : PySem.W.nsIn K mainGlobals "NoTurn" = some (some (.ref (ce l 0)))
  g1 : PySem.W.nsIn K mainGlobals "NoBook" = some (some (.ref (ce l 1)))
  g2 : PySem.W.nsIn K mainGlobals "NoWord" = some (some (.ref (ce l 2)))
  g3 : PySem.W.nsIn K mainGlobals "NoRow" = some (some (.ref (ce l 3)))
  g4 : PySem.W.nsIn K mainGlobals "NoMachine" = some (some (.ref (ce l 4)))
  g5 : PySem.W.nsIn K mainGlobals "NoNumber" = some (some (.ref (ce l 5)))
  g6 : PySem.W.nsIn K mainGlobals "TooMany" = some (some (.ref (ce l 6)))
  g7 : PySem.W.nsIn K mainGlobals "NoName" = some (some (.ref (ce l 7)))
  g8 : PySem.W.nsIn K mainGlobals "InUse" = some (some (.ref (ce l 8)))
  g9 : PySem.W.nsIn K mainGlobals "NoDeed" = some (some (.ref (ce l 9)))
  g10 : PySem.W.nsIn K mainGlobals "NoText" = some (some (.ref (ce l 10)))
theorem KE.errs {CE : Addr} {l : List Addr} (q : KE K CE l) (X : K.In h) (G : h.Ns mainGlobals mg) : Errs mg CE (ce l) :=
  ⟨PySem.W.mg_of X G q.h, PySem.W.mg_of X G q.g0, PySem.W.mg_of X G q.g1, PySem.W.mg_of X G q.g2, PySem.W.mg_of X G q.g3, PySem.W.mg_of X G q.g4, PySem.W.mg_of X G q.g5, PySem.W.mg_of X G q.g6, PySem.W.mg_of X G q.g7, PySem.W.mg_of X G q.g8, PySem.W.mg_of X G q.g9, PySem.W.mg_of X G q.g10⟩
theorem KD.of {x : Str} {st : Stmt} {f : Addr} {oc : Value} {od an : Option Addr} {sl : Array (Option Value)} {kV doc pm cdv ct : Value} (a : PySem.W.nsIn K mainGlobals x = some (some (.ref f))) (l : K.lookup f = some ⟨oc, od, .func (PySem.W.fnOf x x (defArgs st) (defBody st) (defScope st) .none kV doc pm an cdv ct), sl⟩)
    (c : PySem.W.codeIn K cdv x = true) (k : PySem.W.keepIn K (.ref f) = true) : KD K x st := ⟨f, oc, od, an, sl, kV, doc, pm, cdv, ct, a, l, c, k⟩
theorem KM.of {C : Addr} {m qual : Str} {st : Stmt} {f : Addr} {oc : Value} {od an : Option Addr} {sl : Array (Option Value)} {kV doc pm cdv ct : Value} (a : PySem.W.findIn K (.ref C) m = some (some (.ref f))) (i : PySem.W.isFn K (.ref f) = true)
    (l : K.lookup f = some ⟨oc, od, .func (PySem.W.fnOf m qual (defArgs st) (defBody st) (defScope st) .none kV doc pm an cdv ct), sl⟩) (c : PySem.W.codeIn K cdv qual = true) (k : PySem.W.keepIn K (.ref f) = true) : KM K C m qual st := ⟨f, oc, od, an, sl, kV, doc, pm, cdv, ct, a, i, l, c, k⟩
theorem KC.of {x : Str} {st : Stmt} {f cc : Addr} {oc : Value} {od an : Option Addr} {osl : Array (Option Value)} {kV doc pm ct : Value} (g : PySem.W.nsIn K mainGlobals x = some (some (.ref f))) (l : K.lookup f = some ⟨oc, od, .func (PySem.W.fnOf x x (defArgs st) (defBody st) (defScope st) .none kV doc pm an (.ref cc) ct), osl⟩)
    (c : PySem.W.codeIn K (.ref cc) x = true) (k : PySem.W.keepIn K (.ref f) = true) : KC K x st f cc := ⟨g, ⟨oc, od, kV, doc, pm, an, ct, osl, l⟩, c, k⟩
theorem KT.of {t1 t2 t3 t4 t5 t6 : Tok} (a0 : PySem.W.nsIn K mainGlobals "isinstance" = some none) (a1 : PySem.W.nsIn K mainGlobals "int" = some none) (a2 : PySem.W.nsIn K mainGlobals "bool" = some none) (a3 : PySem.W.nsIn K mainGlobals "tuple" = some none) (a4 : PySem.W.nsIn K mainGlobals "list" = some none) (a5 : PySem.W.nsIn K mainGlobals "len" = some none) (a6 : PySem.W.nsIn K mainGlobals "all" = some none) (a7 : PySem.W.nsIn K mainGlobals "sorted" = some none) (a8 : PySem.W.nsIn K mainGlobals "range" = some none) (a9 : PySem.W.nsIn K mainGlobals "abs" = some none) (a10 : PySem.W.nsIn K mainGlobals "repr" = some none) (b0 : PySem.W.nsIn K mainGlobals "LEAST_MANY" = some (some (.int 2 t1))) (b1 : PySem.W.nsIn K mainGlobals "MOST_MANY" = some (some (.int 4 t2))) (b2 : PySem.W.nsIn K mainGlobals "MOST_STEPS" = some (some (.int 100 t3))) (b3 : PySem.W.nsIn K mainGlobals "MOST_LETTERS" = some (some (.int 100 t4))) (b4 : PySem.W.nsIn K mainGlobals "MOST_WEB" = some (some (.int 81 t5))) (b5 : PySem.W.nsIn K mainGlobals "MOST_HANDS" = some (some (.int 6 t6))) : KT K := ⟨a0, a1, a2, a3, a4, a5, a6, a7, a8, a9, a10, ⟨t1, b0⟩, ⟨t2, b1⟩, ⟨t3, b2⟩, ⟨t4, b3⟩, ⟨t5, b4⟩, ⟨t6, b5⟩⟩
/-- isinstance of an error of the class D -/
def isAll (K : PySem.W.Frag) (D : Addr) (l : List Addr) (j : Nat) : Bool := (List.range 11).all fun i => PySem.W.kitOne K (.ref D) (.ref (ce l i)) == some (decide (i = j))
theorem isAll_ok {D CE : Addr} {l : List Addr} {j : Nat} (hj : j < 11) (c : ExcC K D) (e : PySem.W.exmOne K (.ref D) (.ref CE) = some true) (q : isAll K D l j = true) : IsErr K CE (ce l) D j :=
  ⟨hj, c, e, fun i hi => beq_iff_eq.mp (List.all_eq_true.mp q i (List.mem_range.mpr hi))⟩
/-- the law at the head's heap, from all that the top holds -/
theorem law_now {P : Program} {w : World} {fa C CE f1 f2 c1 c2 P1 P2 e0 e1 e2 e4 e7 e8 e9 e10 D3 D5 D6 : Addr} (X : K.In h) (G : h.Ns mainGlobals mg) (hfa : mg "law" = some (.ref fa))
    (d0 : KD K "is_whole" sWhole)
    (d1 : KD K "is_between" sBetween)
    (d2 : KD K "is_turn" sTurnQ)
    (d3 : KD K "undone" sUndone)
    (d4 : KD K "is_hand" sHandQ)
    (d5 : KD K "are_hands" sHandsQ)
    (d6 : KD K "is_word" sWordQ)
    (d7 : KD K "sure_word" sSureW)
    (d8 : KD K "is_row" sRowQ)
    (d9 : KD K "sure_row" sSureR)
    (d10 : KD K "sent_by" sSentBy)
    (d11 : KD K "send" sSend)
    (d12 : KD K "rows_many" sMany)
    (d13 : KD K "rows_of_level" sLevel)
    (d14 : KD K "ways_from" sWays)
    (d15 : KD K "parts" sParts)
    (d16 : KD K "way" sWay)
    (d17 : KD K "_law_state" sState)
    (d18 : KD K "_law_next" sNext)
    (d19 : KD K "_law_refusals" sRefusals)
    (d20 : KD K "_law_row_of" sRowOf)
    (d21 : KD K "_law_way" sLawWay)
    (d22 : KD K "_law_line_right" sLine)
    (d23 : KD K "_law_wrong_rows" sWrong)
    (m0 : KM K C "letters" "Book.letters" (sBook 3))
    (m1 : KM K C "steps" "Book.steps" (sBook 5))
    (m2 : KM K C "has_step" "Book.has_step" (sBook 7))
    (m3 : KM K C "has_letter" "Book.has_letter" (sBook 8))
    (m4 : KM K C "turn" "Book.turn" (sBook 9))
    (m5 : KM K C "onward" "Book.onward" (sBook 10))
    (mI : KM K C "__init__" "Book.__init__" (sBook 0)) (aC : PySem.W.nsIn K mainGlobals "Book" = some (some (.ref C))) (kb : KB K C) (kt : KT K) (ke : KE K CE [e0, e1, e2, D3, e4, D5, D6, e7, e8, e9, e10])
    (x3 : KX K "NoRow" D3) (x5 : KX K "NoNumber" D5) (x6 : KX K "TooMany" D6) (e3 : PySem.W.exmOne K (.ref D3) (.ref CE) = some true) (e5 : PySem.W.exmOne K (.ref D5) (.ref CE) = some true) (e6 : PySem.W.exmOne K (.ref D6) (.ref CE) = some true)
    (i3 : isAll K D3 [e0, e1, e2, D3, e4, D5, D6, e7, e8, e9, e10] 3 = true) (i5 : isAll K D5 [e0, e1, e2, D3, e4, D5, D6, e7, e8, e9, e10] 5 = true) (i6 : isAll K D6 [e0, e1, e2, D3, e4, D5, D6, e7, e8, e9, e10] 6 = true) (kl : KC K "law" sLaw f1 c1) (kr : KC K "_law_refused" sRefused f2 c2) (t1 : PySem.W.codeHdIn K c1 P1 = true) (t2 : PySem.W.codeHdIn K c2 P2 = true)
    (o1 : K.lookup P1 = none) (o2 : K.lookup P2 = none) (ne : P1 ≠ P2) (h1 : h.get? P1 = some { cls := .none, data := .fields #[] }) (h2 : h.get? P2 = some { cls := .none, data := .fields #[] }) : LawNow P w K mg h fa := by
  have T := kt.tops X G
  have ER := ke.errs X G
  have BT : BkT K mg C := ⟨⟨kb.pg, kb.hd, kb.po, kb.sa⟩, kb.nM, kb.nP, PySem.W.mg_of X G aC⟩
  have XR : ExT K mg "NoRow" D3 := x3.xt X G ke.g3
  have XN : ExT K mg "NoNumber" D5 := x5.xt X G ke.g5
  have XT : ExT K mg "TooMany" D6 := x6.xt X G ke.g6
  have iR := isAll_ok (j := 3) (by decide) x3.c e3 i3
  have iN := isAll_ok (j := 5) (by decide) x5.c e5 i5
  have iT := isAll_ok (j := 6) (by decide) x6.c e6 i6
  have DL := kl.dc X G
  have DR2 := kr.dc X G
  have same := hfa.symm.trans DL.g
  cases same
  obtain ⟨fI, fdI, mtI, FI⟩ := mI.mn
  refine ⟨c1, P1, c2, P2, o1, o2, PySem.W.codeHd_of_K X t1, PySem.W.codeHd_of_K X t2, h1, h2, fun base _ _ B1 B2 s H a ns env sq z1 z2 => ?_⟩
  have g_whole := gd_whole (P := P) (w := w) (base := base) (d0.dn X G) T
  have g_between := gd_between (d1.dn X G) g_whole
  have g_turnQ := gd_turnQ (d2.dn X G) T g_between
  have g_undone := gd_undone (P := P) (w := w) (base := base) (d3.dn X G) T
  have g_handQ := gd_handQ (d4.dn X G) T g_between g_turnQ
  have g_handsQ := gd_handsQ (d5.dn X G) T g_handQ
  have g_init := ok_init FI T BT g_between g_handsQ
  have g_letters := gm_letters (P := P) (w := w) (mg := mg) (base := base) m0.mn BT
  have g_steps := gm_steps (P := P) (w := w) (base := base) m1.mn T BT
  have g_hasStep := gm_hasStep m2.mn T BT g_between
  have g_hasLetter := gm_hasLetter m3.mn BT g_between
  have g_turn := gm_turn m4.mn T BT g_hasStep g_undone
  have g_onward := gm_onward m5.mn T BT g_hasStep g_hasLetter
  have g_wordQ := gd_wordQ (d6.dn X G) T BT g_hasStep
  have g_sureW := gd_sureW (d7.dn X G) g_wordQ
  have g_rowQ := gd_rowQ (d8.dn X G) T BT g_hasLetter
  have g_sureR := gd_sureR (d9.dn X G) XR g_rowQ
  have g_sentBy := gd_sentBy (d10.dn X G) T BT g_turn g_onward
  have g_send := gd_send (d11.dn X G) g_sureW g_sureR g_sentBy
  have g_many := gd_many (d12.dn X G) T BT g_letters
  have g_level := gd_level (d13.dn X G) T BT g_letters
  have g_ways := gd_ways (d14.dn X G) T BT g_steps g_send
  have g_parts := gd_parts (d15.dn X G) T XN XT g_between g_many g_level g_ways
  have g_way := gd_way (d16.dn X G) T XR XT g_sureR g_many g_ways
  have g_state := gd_state (P := P) (w := w) (base := base) (d17.dn X G) T
  have g_next := gd_next (P := P) (w := w) (base := base) (d18.dn X G)
  have g_rowOf := gd_rowOf (P := P) (w := w) (base := base) (d20.dn X G) T
  have g_lawWay := gd_lawWay (P := P) (w := w) (base := base) (d21.dn X G)
  have g_wrong := gd_wrong (P := P) (w := w) (base := base) (d23.dn X G)
  have GN : Gn P w K mg base C := ⟨fI, fdI, ⟨kb.mks, mtI.at_, mtI.fn, kb.kc⟩, FI.binds fun _ _ _ _ _ _ us hl => match us, hl with | [_, _, _], _ => rfl, g_init⟩
  have g_line := gd_line (d22.dn X G) T BT GN g_parts g_way
  have g_refused := gd_refused DR2 B2 T ER iR iN (d19.dn X G) g_wrong g_parts g_way
  have E : Lean1 P w K mg base C D3 D5 D6 CE c1 P1 P2 (ce [e0, e1, e2, D3, e4, D5, D6, e7, e8, e9, e10]) := ⟨T, BT, GN, B1, ne, ER, iT, (d19.dn X G), g_state, g_next, g_rowOf, g_lawWay, g_parts, g_way, g_line, g_refused⟩
  refine law_run E DL rfl ⟨rfl, by decide, by decide⟩ env sq fun p hp => ?_
  rcases List.mem_cons.mp hp with rfl | hp
  · exact TabS.nil z1
  · rw [List.mem_singleton.mp hp]
    exact TabS.nil z2
end
end LH
/-! The end. -/
open PySem PySem.W PyProof.Rows
set_option maxRecDepth 100000 in
set_option maxHeartbeats 0 in
theorem PySem.Challenge.cw_letterhand_k47_whole_web_bounds_holds : PySem.Challenge.rw_letterhand_k47_whole_web_bounds.Holds := by
  w_on; o_law; k_head; (case hw => w_witness2)
  k_fill
  refine LH.walk_two (l := PySem.Challenge.rw_letterhand_k47_whole_web_bounds) (n := 63) rfl (by decide) rfl (fun w h Y => PySem.W.km_in_of Y) ?F
  case F =>
    intro w mg fa h Y KX G hmg
    refine' LH.law_now (P1 := 432) (P2 := 425) KX G hmg ?d0 ?d1 ?d2 ?d3 ?d4 ?d5 ?d6 ?d7 ?d8 ?d9 ?d10 ?d11 ?d12 ?d13 ?d14 ?d15 ?d16 ?d17 ?d18 ?d19 ?d20 ?d21 ?d22 ?d23 ?m0 ?m1 ?m2 ?m3 ?m4 ?m5 ?mI ?aC ?kb ?kt ?ke ?x3 ?x5 ?x6 ?e3 ?e5 ?e6 ?i3 ?i5 ?i6 ?kl ?kr ?t1 ?t2 ?o1 ?o2 (by decide) (PySem.W.km_tabs_of Y _ (by decide)) (PySem.W.km_tabs_of Y _ (by decide))
    case d0 =>
      refine' LH.KD.of ?a ?l ?c ?k
      (case a => k_is); (case l => k_is); (case c => k_is); (case k => k_is)
    case d1 =>
      refine' LH.KD.of ?a ?l ?c ?k
      (case a => k_is); (case l => k_is); (case c => k_is); (case k => k_is)
    case d2 =>
      refine' LH.KD.of ?a ?l ?c ?k
      (case a => k_is); (case l => k_is); (case c => k_is); (case k => k_is)
    case d3 =>
      refine' LH.KD.of ?a ?l ?c ?k
      (case a => k_is); (case l => k_is); (case c => k_is); (case k => k_is)
    case d4 =>
      refine' LH.KD.of ?a ?l ?c ?k
      (case a => k_is); (case l => k_is); (case c => k_is); (case k => k_is)
    case d5 =>
      refine' LH.KD.of ?a ?l ?c ?k
      (case a => k_is); (case l => k_is); (case c => k_is); (case k => k_is)
    case d6 =>
      refine' LH.KD.of ?a ?l ?c ?k
      (case a => k_is); (case l => k_is); (case c => k_is); (case k => k_is)
    case d7 =>
      refine' LH.KD.of ?a ?l ?c ?k
      (case a => k_is); (case l => k_is); (case c => k_is); (case k => k_is)
    case d8 =>
      refine' LH.KD.of ?a ?l ?c ?k
      (case a => k_is); (case l => k_is); (case c => k_is); (case k => k_is)
    case d9 =>
      refine' LH.KD.of ?a ?l ?c ?k
      (case a => k_is); (case l => k_is); (case c => k_is); (case k => k_is)
    case d10 =>
      refine' LH.KD.of ?a ?l ?c ?k
      (case a => k_is); (case l => k_is); (case c => k_is); (case k => k_is)
    case d11 =>
      refine' LH.KD.of ?a ?l ?c ?k
      (case a => k_is); (case l => k_is); (case c => k_is); (case k => k_is)
    case d12 =>
      refine' LH.KD.of ?a ?l ?c ?k
      (case a => k_is); (case l => k_is); (case c => k_is); (case k => k_is)
    case d13 =>
      refine' LH.KD.of ?a ?l ?c ?k
      (case a => k_is); (case l => k_is); (case c => k_is); (case k => k_is)
    case d14 =>
      refine' LH.KD.of ?a ?l ?c ?k
      (case a => k_is); (case l => k_is); (case c => k_is); (case k => k_is)
    case d15 =>
      refine' LH.KD.of ?a ?l ?c ?k
      (case a => k_is); (case l => k_is); (case c => k_is); (case k => k_is)
    case d16 =>
      refine' LH.KD.of ?a ?l ?c ?k
      (case a => k_is); (case l => k_is); (case c => k_is); (case k => k_is)
    case d17 =>
      refine' LH.KD.of ?a ?l ?c ?k
      (case a => k_is); (case l => k_is); (case c => k_is); (case k => k_is)
    case d18 =>
      refine' LH.KD.of ?a ?l ?c ?k
      (case a => k_is); (case l => k_is); (case c => k_is); (case k => k_is)
    case d19 =>
      refine' LH.KD.of ?a ?l ?c ?k
      (case a => k_is); (case l => k_is); (case c => k_is); (case k => k_is)
    case d20 =>
      refine' LH.KD.of ?a ?l ?c ?k
      (case a => k_is); (case l => k_is); (case c => k_is); (case k => k_is)
    case d21 =>
      refine' LH.KD.of ?a ?l ?c ?k
      (case a => k_is); (case l => k_is); (case c => k_is); (case k => k_is)
    case d22 =>
      refine' LH.KD.of ?a ?l ?c ?k
      (case a => k_is); (case l => k_is); (case c => k_is); (case k => k_is)
    case d23 =>
      refine' LH.KD.of ?a ?l ?c ?k
      (case a => k_is); (case l => k_is); (case c => k_is); (case k => k_is)
    (case aC => k_is)
    case m0 =>
      refine' LH.KM.of ?a ?i ?l ?c ?k
      (case a => k_is); (case i => k_is); (case l => k_is); (case c => k_is); (case k => k_is)
    case m1 =>
      refine' LH.KM.of ?a ?i ?l ?c ?k
      (case a => k_is); (case i => k_is); (case l => k_is); (case c => k_is); (case k => k_is)
    case m2 =>
      refine' LH.KM.of ?a ?i ?l ?c ?k
      (case a => k_is); (case i => k_is); (case l => k_is); (case c => k_is); (case k => k_is)
    case m3 =>
      refine' LH.KM.of ?a ?i ?l ?c ?k
      (case a => k_is); (case i => k_is); (case l => k_is); (case c => k_is); (case k => k_is)
    case m4 =>
      refine' LH.KM.of ?a ?i ?l ?c ?k
      (case a => k_is); (case i => k_is); (case l => k_is); (case c => k_is); (case k => k_is)
    case m5 =>
      refine' LH.KM.of ?a ?i ?l ?c ?k
      (case a => k_is); (case i => k_is); (case l => k_is); (case c => k_is); (case k => k_is)
    case mI =>
      refine' LH.KM.of ?a ?i ?l ?c ?k
      (case a => k_is); (case i => k_is); (case l => k_is); (case c => k_is); (case k => k_is)
    case kb =>
      refine' ⟨?a0, ?a1, ?a2, ?a3, ?a4, ?a5, ?a6, ?a7⟩
      (case a0 => k_is); (case a1 => k_is); (case a2 => k_is); (case a3 => k_is); (case a4 => k_is); (case a5 => k_is)
      (case a6 => k_is); (case a7 => k_is)
    case kt =>
      refine' LH.KT.of ?a0 ?a1 ?a2 ?a3 ?a4 ?a5 ?a6 ?a7 ?a8 ?a9 ?a10 ?b0 ?b1 ?b2 ?b3 ?b4 ?b5
      (case a0 => k_is); (case a1 => k_is); (case a2 => k_is); (case a3 => k_is); (case a4 => k_is); (case a5 => k_is)
      (case a6 => k_is); (case a7 => k_is); (case a8 => k_is); (case a9 => k_is); (case a10 => k_is); (case b0 => k_is)
      (case b1 => k_is); (case b2 => k_is); (case b3 => k_is); (case b4 => k_is); (case b5 => k_is)
    case ke =>
      refine' ⟨?a0, ?a1, ?a2, ?a3, ?a4, ?a5, ?a6, ?a7, ?a8, ?a9, ?a10, ?a11⟩
      (case a0 => k_is); (case a1 => k_is); (case a2 => k_is); (case a3 => k_is); (case a4 => k_is); (case a5 => k_is)
      (case a6 => k_is); (case a7 => k_is); (case a8 => k_is); (case a9 => k_is); (case a10 => k_is); (case a11 => k_is)
    case x3 =>
      refine' ⟨?a0, ?a1, ?a2, ?a3, ?a4, ?a5, ?a6, ?a7, ?a8, ?a9, ?a10⟩
      (case a0 => k_exc); (case a1 => k_is); (case a2 => k_is); (case a3 => k_is); (case a4 => k_is); (case a5 => k_is)
      (case a6 => k_is); (case a7 => k_is); (case a8 => k_is); (case a9 => k_is); (case a10 => k_is)
    case x5 =>
      refine' ⟨?a0, ?a1, ?a2, ?a3, ?a4, ?a5, ?a6, ?a7, ?a8, ?a9, ?a10⟩
      (case a0 => k_exc); (case a1 => k_is); (case a2 => k_is); (case a3 => k_is); (case a4 => k_is); (case a5 => k_is)
      (case a6 => k_is); (case a7 => k_is); (case a8 => k_is); (case a9 => k_is); (case a10 => k_is)
    case x6 =>
      refine' ⟨?a0, ?a1, ?a2, ?a3, ?a4, ?a5, ?a6, ?a7, ?a8, ?a9, ?a10⟩
      (case a0 => k_exc); (case a1 => k_is); (case a2 => k_is); (case a3 => k_is); (case a4 => k_is); (case a5 => k_is)
      (case a6 => k_is); (case a7 => k_is); (case a8 => k_is); (case a9 => k_is); (case a10 => k_is)
    (case e3 => kernel_rfl); (case e5 => kernel_rfl); (case e6 => kernel_rfl)
    (case i3 => kernel_rfl); (case i5 => kernel_rfl); (case i6 => kernel_rfl)
    case kl =>
      refine' LH.KC.of ?g ?l ?c ?k
      (case g => k_is); (case l => k_is); (case c => k_is); (case k => k_is)
    case kr =>
      refine' LH.KC.of ?g ?l ?c ?k
      (case g => k_is); (case l => k_is); (case c => k_is); (case k => k_is)
    (case t1 => kernel_rfl); (case t2 => kernel_rfl); (case o1 => kernel_rfl); (case o2 => kernel_rfl)
