import PyProof.Rows.All
import Wide.All
import OpenK.AllK
import Wide.FinOn
import HandS.ForMost
import HandS.IsInst
import HandS.Gcd
import HandS.Wide
import HandS.Walk
import HandS.Zip
import HandS.Evl
import HandS.NoneIn
import HandS.Deep
import KE.GoesNew
import PySem.Challenge.RW_blendcurves_k54_whole_conics_through_poi
set_option Elab.async false
set_option linter.all false
set_option maxRecDepth 100000
set_option maxHeartbeats 4000000
namespace K54
/-! ### 1. ratios as Rat -/
/-- below b bits -/
def Bd (b : Nat) (q : Rat) : Prop := q.num.natAbs < 2 ^ b ∧ q.den < 2 ^ b
theorem Bd.mono {b c : Nat} {q : Rat} (h : Bd b q) (hc : b ≤ c) : Bd c q :=
  ⟨Nat.lt_of_lt_of_le h.1 (Nat.pow_le_pow_right (by decide) hc), Nat.lt_of_lt_of_le h.2 (Nat.pow_le_pow_right (by decide) hc)⟩
/-- the divisor that made takes -/
def gpart (top low : Int) : Int := if low < 0 then -((Nat.gcd top.natAbs low.natAbs : Nat) : Int) else ((Nat.gcd top.natAbs low.natAbs : Nat) : Int)
theorem gpart_ne {top low : Int} (h : low ≠ 0) : gpart top low ≠ 0 := by
  have : Nat.gcd top.natAbs low.natAbs ≠ 0 := Nat.gcd_ne_zero_right (by omega)
  unfold gpart
  split <;> omega
theorem gpart_le {top low : Int} (h : low ≠ 0) : (gpart top low).natAbs ≤ low.natAbs := by
  have := Nat.le_of_dvd (by omega) (Nat.gcd_dvd_right top.natAbs low.natAbs)
  unfold gpart
  split <;> omega
theorem made_eq {top low : Int} (h : low ≠ 0) : top.fdiv (gpart top low) = (Rat.divInt top low).num ∧ low.fdiv (gpart top low) = ((Rat.divInt top low).den : Int) := by
  have hg : 0 < Nat.gcd top.natAbs low.natAbs := Nat.pos_of_ne_zero (Nat.gcd_ne_zero_right (by omega))
  have hgi : ((Nat.gcd top.natAbs low.natAbs : Nat) : Int) ≠ 0 := by omega
  obtain ⟨k, hk⟩ := Int.ofNat_dvd_left.mpr (Nat.gcd_dvd_left top.natAbs low.natAbs)
  obtain ⟨m, hm⟩ := Int.ofNat_dvd_left.mpr (Nat.gcd_dvd_right top.natAbs low.natAbs)
  have e1 := Rat.num_divInt top low
  have e2 := Rat.den_divInt top low
  have eg : Int.gcd low top = Nat.gcd top.natAbs low.natAbs := by rw [Int.gcd_eq_natAbs_gcd_natAbs, Nat.gcd_comm]
  rw [eg] at e1 e2
  rw [if_neg h] at e2
  generalize hG : Nat.gcd top.natAbs low.natAbs = g at *
  unfold gpart
  rw [hG]
  have hdg : ((g : Int)).natAbs = g := by omega
  by_cases hl : low < 0
  · rw [if_pos hl]
    have hs : low.sign = -1 := Int.sign_eq_neg_one_of_neg hl
    constructor
    · rw [e1, hs, hk]
      have a1 : (g : Int) * k = -(g : Int) * (-k) := by grind
      have a2 : -1 * ((g : Int) * k) = (g : Int) * (-k) := by grind
      rw [a2, Int.mul_ediv_cancel_left _ hgi, a1, Int.mul_fdiv_cancel_left _ (by omega)]
    · rw [e2]
      have a0 : low.natAbs = g * m.natAbs := by rw [hm, Int.natAbs_mul]; simp
      have hm0 : m ≤ 0 := by
        rcases Int.lt_or_le 0 m with z | z
        · have : 0 < (g : Int) * m := Int.mul_pos (by omega) z
          omega
        · exact z
      have a1 : low = -(g : Int) * (-m) := by rw [hm]; grind
      rw [a0, Nat.mul_div_cancel_left _ hg, a1, Int.mul_fdiv_cancel_left _ (by omega)]
      omega
  · rw [if_neg hl]
    have hs : low.sign = 1 := Int.sign_eq_one_of_pos (by omega)
    constructor
    · rw [e1, hs, hk, Int.one_mul, Int.mul_ediv_cancel_left _ hgi, Int.mul_fdiv_cancel_left _ hgi]
    · rw [e2]
      have a0 : low.natAbs = g * m.natAbs := by rw [hm, Int.natAbs_mul]; simp
      have hm0 : 0 ≤ m := by
        rcases Int.lt_or_le m 0 with z | z
        · have : (g : Int) * m < 0 := Int.mul_neg_of_pos_of_neg (by omega) z
          omega
        · exact z
      rw [a0, Nat.mul_div_cancel_left _ hg]
      rw [hm, Int.mul_fdiv_cancel_left _ hgi]
      omega
theorem den_ne (q : Rat) : (q.den : Int) ≠ 0 := by have := q.den_nz; omega
theorem num_ne {q : Rat} (h : q ≠ 0) : q.num ≠ 0 := fun e => h (Rat.num_eq_zero.mp e)
/-! the four operations by made -/
theorem plus_eq (p q : Rat) : Rat.divInt (p.num * q.den + q.num * p.den) ((p.den : Int) * q.den) = p + q := by
  rw [Rat.add_def', ← Rat.divInt_ofNat, Int.natCast_mul]
theorem less_eq (p q : Rat) : Rat.divInt (p.num * q.den - q.num * p.den) ((p.den : Int) * q.den) = p - q := by
  rw [Rat.sub_def', ← Rat.divInt_ofNat, Int.natCast_mul]
theorem times_eq (p q : Rat) : Rat.divInt (p.num * q.num) ((p.den : Int) * q.den) = p * q := by
  rw [Rat.mul_def', ← Rat.divInt_ofNat, Int.natCast_mul]
theorem over_eq (p q : Rat) : Rat.divInt (p.num * q.den) ((p.den : Int) * q.num) = p / q := by
  rw [Rat.div_def, Rat.inv_def, ← Rat.divInt_mul_divInt, Rat.num_divInt_den]
theorem dd_ne (p q : Rat) : (p.den : Int) * q.den ≠ 0 := Int.mul_ne_zero (den_ne p) (den_ne q)
theorem dn_ne (p : Rat) {q : Rat} (h : q ≠ 0) : (p.den : Int) * q.num ≠ 0 := Int.mul_ne_zero (den_ne p) (num_ne h)
/-! ### 2. bits -/
theorem bd_divInt {b : Nat} {top low : Int} (h : low ≠ 0) (ht : top.natAbs < 2 ^ b) (hl : low.natAbs < 2 ^ b) : Bd b (Rat.divInt top low) := by
  have e := made_eq (top := top) h
  have hg := gpart_ne (top := top) h
  have key : ∀ x : Int, (x.fdiv (gpart top low)).natAbs ≤ x.natAbs ∨ ¬ (gpart top low ∣ x) := fun x => by
    by_cases hd : gpart top low ∣ x
    · obtain ⟨k, hk⟩ := hd
      left
      rw [hk, Int.mul_fdiv_cancel_left _ hg, Int.natAbs_mul]
      exact Nat.le_mul_of_pos_left _ (by omega)
    · exact .inr hd
  have d1 : gpart top low ∣ top := by
    unfold gpart
    split
    · exact Int.neg_dvd.mpr (Int.ofNat_dvd_left.mpr (Nat.gcd_dvd_left _ _))
    · exact Int.ofNat_dvd_left.mpr (Nat.gcd_dvd_left _ _)
  have d2 : gpart top low ∣ low := by
    unfold gpart
    split
    · exact Int.neg_dvd.mpr (Int.ofNat_dvd_left.mpr (Nat.gcd_dvd_right _ _))
    · exact Int.ofNat_dvd_left.mpr (Nat.gcd_dvd_right _ _)
  refine ⟨?_, ?_⟩
  · rw [← e.1]
    rcases key top with z | z
    · omega
    · exact absurd d1 z
  · have : ((Rat.divInt top low).den : Int).natAbs < 2 ^ b := by
      rw [← e.2]
      rcases key low with z | z
      · omega
      · exact absurd d2 z
    simpa using this
theorem abs_mul_lt {x y : Int} {a b : Nat} (hx : x.natAbs < 2 ^ a) (hy : y.natAbs < 2 ^ b) : (x * y).natAbs < 2 ^ (a + b) := by
  rw [Int.natAbs_mul, Nat.pow_add]
  exact Nat.mul_lt_mul'' hx hy
theorem abs_add_lt {x y : Int} {a : Nat} (hx : x.natAbs < 2 ^ a) (hy : y.natAbs < 2 ^ a) : (x + y).natAbs < 2 ^ (a + 1) := by
  rw [Nat.pow_succ]
  omega
theorem abs_sub_lt {x y : Int} {a : Nat} (hx : x.natAbs < 2 ^ a) (hy : y.natAbs < 2 ^ a) : (x - y).natAbs < 2 ^ (a + 1) := by
  rw [Nat.pow_succ]
  omega
theorem nat_abs_cast (n : Nat) : ((n : Int)).natAbs = n := by omega
theorem lt_pow_of {n a b : Nat} (h : n < 2 ^ a) (hab : a ≤ b) : n < 2 ^ b := Nat.lt_of_lt_of_le h (Nat.pow_le_pow_right (by decide) hab)
section
variable {b c : Nat} {p q : Rat}
theorem Bd.n (h : Bd b q) : q.num.natAbs < 2 ^ b := h.1
theorem Bd.d (h : Bd b q) : ((q.den : Int)).natAbs < 2 ^ b := by rw [nat_abs_cast]; exact h.2
theorem Bd.mul (hp : Bd b p) (hq : Bd c q) : Bd (b + c) (p * q) := by
  rw [← times_eq]
  exact bd_divInt (dd_ne p q) (abs_mul_lt hp.n hq.n) (abs_mul_lt hp.d hq.d)
theorem Bd.div (hp : Bd b p) (hq : Bd c q) (h : q ≠ 0) : Bd (b + c) (p / q) := by
  rw [← over_eq]
  exact bd_divInt (dn_ne p h) (abs_mul_lt hp.n hq.d) (abs_mul_lt hp.d hq.n)
theorem Bd.add (hp : Bd b p) (hq : Bd c q) : Bd (b + c + 1) (p + q) := by
  rw [← plus_eq]
  refine bd_divInt (dd_ne p q) (abs_add_lt (abs_mul_lt hp.n hq.d) ?_) (lt_pow_of (abs_mul_lt hp.d hq.d) (Nat.le_succ _))
  rw [Nat.add_comm]
  exact abs_mul_lt hq.n hp.d
theorem Bd.sub (hp : Bd b p) (hq : Bd c q) : Bd (b + c + 1) (p - q) := by
  rw [← less_eq]
  refine bd_divInt (dd_ne p q) (abs_sub_lt (abs_mul_lt hp.n hq.d) ?_) (lt_pow_of (abs_mul_lt hp.d hq.d) (Nat.le_succ _))
  rw [Nat.add_comm]
  exact abs_mul_lt hq.n hp.d
end
theorem bd_int {b : Nat} (z : Int) (h : z.natAbs < 2 ^ b) (hb : 0 < b) : Bd b (z : Rat) := ⟨h, by
  show 1 < 2 ^ b
  exact Nat.one_lt_two_pow (by omega)⟩
theorem bd_zero : Bd 1 (0 : Rat) := ⟨by decide, by decide⟩
theorem bd_one : Bd 1 (1 : Rat) := ⟨by decide, by decide⟩
/-! ### 3. Euclid's loop -/
/-- between two turns: nothing is done, or the pair falls -/
structure Euc (top low : Int) (b : Nat) (i : Nat) (one other : Int) : Prop where
  nn : 0 ≤ one ∧ 0 ≤ other
  g : Nat.gcd one.natAbs other.natAbs = Nat.gcd top.natAbs low.natAbs
  start : i = 0 → other.natAbs = low.natAbs
  fall : ∀ j, i = j + 1 → other < one ∧ one.natAbs * other.natAbs * 2 ^ j < 2 ^ (2 * b)
theorem Euc.init {top low : Int} {b : Nat} : Euc top low b 0 (top.natAbs : Int) (low.natAbs : Int) :=
  ⟨⟨by omega, by omega⟩, by rw [nat_abs_cast, nat_abs_cast], fun _ => nat_abs_cast _, fun j h => by omega⟩
theorem Euc.turn {top low : Int} {b i : Nat} {one other : Int} (h : Euc top low b i one other) (hl : low.natAbs < 2 ^ b) (h0 : other ≠ 0) : Euc top low b (i + 1) other (one.fmod other) := by
  obtain ⟨⟨n1, n2⟩, hg, hs, hf⟩ := h
  have hp : 0 < other := by omega
  have e : one.fmod other = one % other := Int.fmod_eq_emod_of_nonneg one (by omega)
  have m0 := Int.emod_nonneg one (by omega : other ≠ 0)
  have m1 := Int.emod_lt_of_pos one hp
  rw [e]
  refine ⟨⟨by omega, m0⟩, ?_, fun z => by omega, fun j hj => ⟨m1, ?_⟩⟩
  · rw [← hg, Int.natAbs_emod_of_nonneg n1, Nat.gcd_comm one.natAbs, Nat.gcd_rec other.natAbs one.natAbs, Nat.gcd_comm]
  · obtain rfl : j = i := by omega
    have hn : (one % other).natAbs < other.natAbs := by omega
    cases j with
    | zero =>
      have e1 := hs rfl
      rw [Nat.pow_zero, Nat.mul_one]
      have h1 : other.natAbs < 2 ^ b := by omega
      have h2 : (one % other).natAbs < 2 ^ b := by omega
      calc other.natAbs * (one % other).natAbs < 2 ^ b * 2 ^ b := Nat.mul_lt_mul'' h1 h2
        _ = 2 ^ (2 * b) := by rw [← Nat.pow_add]; congr 1; omega
    | succ k =>
      obtain ⟨h1, h2⟩ := hf k rfl
      have h3 : other.natAbs + (one % other).natAbs ≤ one.natAbs := by
        have d := Int.mul_ediv_add_emod one other
        have q1 : 1 ≤ one / other := by
          have := Int.ediv_le_ediv hp (Int.le_of_lt h1)
          rw [Int.ediv_self (by omega)] at this
          exact this
        have q2 : other * 1 ≤ other * (one / other) := Int.mul_le_mul_of_nonneg_left q1 (by omega)
        omega
      have h4 : 2 * (one % other).natAbs ≤ one.natAbs := by omega
      refine Nat.lt_of_le_of_lt ?_ h2
      calc other.natAbs * (one % other).natAbs * 2 ^ (k + 1) = other.natAbs * (2 * (one % other).natAbs) * 2 ^ k := by rw [Nat.pow_succ]; grind
        _ ≤ other.natAbs * one.natAbs * 2 ^ k := Nat.mul_le_mul_right _ (Nat.mul_le_mul_left _ h4)
        _ = one.natAbs * other.natAbs * 2 ^ k := by rw [Nat.mul_comm other.natAbs]
/-- behind 10000 turns nothing is left -/
theorem Euc.last {top low : Int} {b : Nat} {one other : Int} (h : Euc top low b 10000 one other) (hb : b ≤ 4999) : other = 0 := by
  obtain ⟨h1, h2⟩ := h.fall 9999 rfl
  have hn := h.nn
  refine Decidable.byContradiction fun h0 => ?_
  have a1 : 1 ≤ one.natAbs * other.natAbs := Nat.mul_pos (by omega) (by omega)
  have a2 : 1 * 2 ^ 9999 ≤ one.natAbs * other.natAbs * 2 ^ 9999 := Nat.mul_le_mul_right _ a1
  have a3 : (2 : Nat) ^ (2 * b) ≤ 2 ^ 9999 := Nat.pow_le_pow_right (by decide) (by omega)
  rw [Nat.one_mul] at a2
  exact absurd (Nat.lt_of_le_of_lt a2 (Nat.lt_of_lt_of_le h2 a3)) (Nat.lt_irrefl _)
theorem Euc.done {top low : Int} {b i : Nat} {one : Int} (h : Euc top low b i one 0) : one = ((Nat.gcd top.natAbs low.natAbs : Nat) : Int) := by
  have := h.g
  have n := h.nn
  simp at this
  omega
end K54
namespace K54
/-! ### 4. rows and columns -/
def en (r : List Rat) (j : Nat) : Rat := r.getD j 0
def rw' (M : List (List Rat)) (i : Nat) : List Rat := M.getD i []
def subRow (f : Rat) (x y : List Rat) : List Rat := List.zipWith (fun a b => a - f * b) x y
def normRow (h : Rat) (x : List Rat) : List Rat := x.map fun a => a / h
def swapRows (M : List (List Rat)) (a p : Nat) : List (List Rat) := (M.set a (rw' M p)).set p (rw' M a)
def piv (M : List (List Rat)) (c a : Nat) : List Nat := (List.range' a (5 - a)).filter fun p => decide (en (rw' M p) c ≠ 0)
/-- the program's turn: the row at a divided, the column cleared in all other rows -/
def pnorm (M : List (List Rat)) (a c p : Nat) : List (List Rat) := (swapRows M a p).set a (normRow (en (rw' (swapRows M a p) a) c) (rw' (swapRows M a p) a))
/-- rows below n cleared -/
def clearTo (M : List (List Rat)) (a c n : Nat) : List (List Rat) := M.mapIdx fun j row => if j < n ∧ j ≠ a then subRow (en row c) row (rw' M a) else row
def pstep (M : List (List Rat)) (a c p : Nat) : List (List Rat) := clearTo (pnorm M a c p) a c 5
/-- the law's turn: rows from a + 1 to n - 1 cleared -/
def lclear (M : List (List Rat)) (a c n : Nat) : List (List Rat) := M.mapIdx fun j row => if a < j ∧ j < n then subRow (en row c / en (rw' M a) c) row (rw' M a) else row
def lstep (M : List (List Rat)) (a c p : Nat) : List (List Rat) := lclear (swapRows M a p) a c 5
def pcol (s : List (List Rat) × List Nat) (c : Nat) : List (List Rat) × List Nat := match piv s.1 c s.2.length with
  | [] => s
  | p :: _ => (pstep s.1 s.2.length c p, s.2 ++ [c])
def lcol (s : List (List Rat) × Nat) (c : Nat) : List (List Rat) × Nat := match piv s.1 c s.2 with
  | [] => s
  | p :: _ => (lstep s.1 s.2 c p, s.2 + 1)
@[irreducible] def pRun (M : List (List Rat)) (n : Nat) : List (List Rat) × List Nat := (List.range n).foldl pcol (M, [])
@[irreducible] def lRun (M : List (List Rat)) (n : Nat) : List (List Rat) × Nat := (List.range n).foldl lcol (M, 0)
theorem pRun_zero (M : List (List Rat)) : pRun M 0 = (M, []) := by
  unfold pRun
  rfl
theorem lRun_zero (M : List (List Rat)) : lRun M 0 = (M, 0) := by
  unfold lRun
  rfl
theorem pRun_succ (M : List (List Rat)) (n : Nat) : pRun M (n + 1) = pcol (pRun M n) n := by
  unfold pRun
  rw [List.range_succ, List.foldl_append]
  rfl
theorem lRun_succ (M : List (List Rat)) (n : Nat) : lRun M (n + 1) = lcol (lRun M n) n := by
  unfold lRun
  rw [List.range_succ, List.foldl_append]
  rfl
/-- five rows of six -/
structure Shape (M : List (List Rat)) : Prop where
  five : M.length = 5
  six : ∀ i, i < 5 → (rw' M i).length = 6
theorem rw_get {M : List (List Rat)} {i : Nat} (h : i < M.length) : M[i]? = some (rw' M i) := by
  unfold rw'
  rw [List.getD_eq_getElem?_getD, List.getElem?_eq_getElem h]
  rfl
theorem rw_of {M : List (List Rat)} {i : Nat} {r : List Rat} (h : M[i]? = some r) : rw' M i = r := by
  unfold rw'
  rw [List.getD_eq_getElem?_getD, h]
  rfl
theorem en_get {r : List Rat} {j : Nat} (h : j < r.length) : r[j]? = some (en r j) := by
  unfold en
  rw [List.getD_eq_getElem?_getD, List.getElem?_eq_getElem h]
  rfl
theorem rw_set {M : List (List Rat)} {a i : Nat} {r : List Rat} (ha : a < M.length) : rw' (M.set a r) i = if i = a then r else rw' M i := by
  unfold rw'
  rw [List.getD_eq_getElem?_getD, List.getElem?_set, List.getD_eq_getElem?_getD]
  by_cases h : i = a
  · subst h
    simp [ha]
  · rw [if_neg (fun e => h e.symm), if_neg h]
theorem rw_swap {M : List (List Rat)} {a p i : Nat} (ha : a < M.length) (hp : p < M.length) : rw' (swapRows M a p) i = if i = p then rw' M a else if i = a then rw' M p else rw' M i := by
  unfold swapRows
  rw [rw_set (by simpa using hp), rw_set ha]
theorem len_swap {M : List (List Rat)} {a p : Nat} : (swapRows M a p).length = M.length := by unfold swapRows; simp
theorem rw_mapIdx {M : List (List Rat)} {f : Nat → List Rat → List Rat} {i : Nat} (h : i < M.length) : rw' (M.mapIdx f) i = f i (rw' M i) := by
  refine rw_of ?_
  rw [List.getElem?_mapIdx, rw_get h]
  rfl
theorem en_sub {x y : List Rat} {f : Rat} {j : Nat} (h : x.length = y.length) : en (subRow f x y) j = en x j - f * en y j := by
  unfold en subRow
  rw [List.getD_eq_getElem?_getD, List.getD_eq_getElem?_getD, List.getD_eq_getElem?_getD, List.getElem?_zipWith]
  by_cases hj : j < x.length
  · rw [List.getElem?_eq_getElem hj, List.getElem?_eq_getElem (show j < y.length by omega)]
    rfl
  · rw [List.getElem?_eq_none (by omega), List.getElem?_eq_none (show y.length ≤ j by omega)]
    show (0 : Rat) = 0 - f * 0
    grind
theorem en_norm {x : List Rat} {h : Rat} {j : Nat} : en (normRow h x) j = en x j / h := by
  unfold en normRow
  rw [List.getD_eq_getElem?_getD, List.getD_eq_getElem?_getD, List.getElem?_map]
  cases x[j]? with
  | none =>
    show (0 : Rat) = 0 / h
    rw [Rat.div_def]
    grind
  | some v => rfl
theorem len_sub {x y : List Rat} {f : Rat} : (subRow f x y).length = min x.length y.length := by unfold subRow; simp
theorem len_norm {x : List Rat} {h : Rat} : (normRow h x).length = x.length := by unfold normRow; simp
def dot : List Rat → List Rat → Rat
  | a :: r, b :: v => a * b + dot r v
  | _, _ => 0
theorem dot_sub {f : Rat} : ∀ {x y v : List Rat}, x.length = y.length → dot (subRow f x y) v = dot x v - f * dot y v
  | [], [], v, _ => by
    show dot [] v = dot [] v - f * dot [] v
    cases v <;> (show (0 : Rat) = 0 - f * 0; grind)
  | a :: x, b :: y, [], _ => by show (0 : Rat) = 0 - f * 0; grind
  | a :: x, b :: y, c :: v, h => by
    have ih := dot_sub (f := f) (x := x) (y := y) (v := v) (by simpa using h)
    show (a - f * b) * c + dot (subRow f x y) v = (a * c + dot x v) - f * (b * c + dot y v)
    rw [ih]
    grind
theorem dot_norm {h : Rat} : ∀ {x v : List Rat}, dot (normRow h x) v = dot x v / h
  | [], v => by
    show dot [] v = dot [] v / h
    cases v <;> (show (0 : Rat) = 0 / h; rw [Rat.div_def]; grind)
  | a :: x, [] => by show (0 : Rat) = 0 / h; rw [Rat.div_def]; grind
  | a :: x, c :: v => by
    have ih := dot_norm (h := h) (x := x) (v := v)
    show (a / h) * c + dot (normRow h x) v = (a * c + dot x v) / h
    rw [ih, Rat.div_def, Rat.div_def, Rat.div_def]
    grind
def Ker (M : List (List Rat)) (v : List Rat) : Prop := ∀ i, i < 5 → dot (rw' M i) v = 0
/-! ### 5. bits of a row -/
def RowRep (B : Nat) (r : List Rat) : Prop := ∃ S : Int, S ≠ 0 ∧ S.natAbs < 2 ^ B ∧ ∀ j, ∃ N : Int, N.natAbs < 2 ^ B ∧ en r j = Rat.divInt N S
theorem RowRep.bd {B : Nat} {r : List Rat} (h : RowRep B r) (j : Nat) : Bd B (en r j) := by
  obtain ⟨S, h0, hS, hN⟩ := h
  obtain ⟨N, h1, e⟩ := hN j
  rw [e]
  exact bd_divInt h0 h1 hS
theorem RowRep.mono {B C : Nat} {r : List Rat} (h : RowRep B r) (hc : B ≤ C) : RowRep C r := by
  obtain ⟨S, h0, hS, hN⟩ := h
  refine ⟨S, h0, lt_pow_of hS hc, fun j => ?_⟩
  obtain ⟨N, h1, e⟩ := hN j
  exact ⟨N, lt_pow_of h1 hc, e⟩
theorem RowRep.norm {B c : Nat} {r : List Rat} (h : RowRep B r) (hc : en r c ≠ 0) : RowRep B (normRow (en r c) r) := by
  obtain ⟨S, h0, hS, hN⟩ := h
  obtain ⟨Nc, hc1, ec⟩ := hN c
  have hNc : Nc ≠ 0 := fun z => hc (by rw [ec, z]; exact Rat.zero_divInt S)
  refine ⟨Nc, hNc, hc1, fun j => ?_⟩
  obtain ⟨N, h1, e⟩ := hN j
  refine ⟨N, h1, ?_⟩
  rw [en_norm, e, ec, Rat.divInt_eq_div, Rat.divInt_eq_div, Rat.divInt_eq_div]
  have q1 : (S : Rat) ≠ 0 := fun z => h0 (Rat.intCast_eq_zero_iff.mp z)
  have q2 : (Nc : Rat) ≠ 0 := fun z => hNc (Rat.intCast_eq_zero_iff.mp z)
  grind
theorem RowRep.sub {B c : Nat} {x y : List Rat} (hx : RowRep B x) (hy : RowRep B y) (hl : x.length = y.length) : RowRep (2 * B + 1) (subRow (en x c) x y) := by
  obtain ⟨S, h0, hS, hN⟩ := hx
  obtain ⟨T, t0, hT, hU⟩ := hy
  obtain ⟨Nc, hc1, ec⟩ := hN c
  have eB : B + B = 2 * B := by omega
  refine ⟨S * T, Int.mul_ne_zero h0 t0, ?_, fun j => ?_⟩
  · refine lt_pow_of (abs_mul_lt hS hT) (by omega)
  obtain ⟨N, h1, e⟩ := hN j
  obtain ⟨U, u1, eu⟩ := hU j
  refine ⟨N * T - Nc * U, ?_, ?_⟩
  · rw [← eB]
    exact abs_sub_lt (abs_mul_lt h1 hT) (abs_mul_lt hc1 u1)
  · rw [en_sub hl, e, ec, eu, Rat.divInt_eq_div, Rat.divInt_eq_div, Rat.divInt_eq_div, Rat.divInt_eq_div]
    have q1 : (S : Rat) ≠ 0 := fun z => h0 (Rat.intCast_eq_zero_iff.mp z)
    have q2 : (T : Rat) ≠ 0 := fun z => t0 (Rat.intCast_eq_zero_iff.mp z)
    simp only [Rat.intCast_sub, Rat.intCast_mul]
    grind
def bs : Nat → Nat
  | 0 => 32
  | k + 1 => 2 * bs k + 1
theorem bs_le {k : Nat} (h : k ≤ 5) : bs k ≤ 1055 := by
  have : k = 0 ∨ k = 1 ∨ k = 2 ∨ k = 3 ∨ k = 4 ∨ k = 5 := by omega
  rcases this with rfl | rfl | rfl | rfl | rfl | rfl <;> decide
theorem bs_le4 {k : Nat} (h : k < 5) : bs k ≤ 527 := by
  have : k = 0 ∨ k = 1 ∨ k = 2 ∨ k = 3 ∨ k = 4 := by omega
  rcases this with rfl | rfl | rfl | rfl | rfl <;> decide
/-! ### 6. a turn -/
section
variable {M : List (List Rat)} {a c p : Nat}
theorem piv_mem {x : Nat} : x ∈ piv M c a ↔ (a ≤ x ∧ x < 5) ∧ en (rw' M x) c ≠ 0 := by
  unfold piv
  rw [List.mem_filter, List.mem_range'_1, decide_eq_true_eq]
  constructor
  · rintro ⟨⟨h1, h2⟩, h3⟩
    exact ⟨⟨h1, by omega⟩, h3⟩
  · rintro ⟨⟨h1, h2⟩, h3⟩
    exact ⟨⟨h1, by omega⟩, h3⟩
theorem Shape.swap (h : Shape M) (ha : a < 5) (hp : p < 5) : Shape (swapRows M a p) := by
  refine ⟨len_swap.trans h.five, fun i hi => ?_⟩
  rw [rw_swap (by rw [h.five]; exact ha) (by rw [h.five]; exact hp)]
  split
  · exact h.six a ha
  · split
    · exact h.six p hp
    · exact h.six i hi
theorem Shape.pnorm (h : Shape M) (ha : a < 5) (hp : p < 5) : Shape (pnorm M a c p) := by
  have s := h.swap ha hp
  unfold K54.pnorm
  refine ⟨by rw [List.length_set]; exact s.five, fun i hi => ?_⟩
  rw [rw_set (by rw [s.five]; exact ha)]
  split
  · rw [len_norm]
    exact s.six a ha
  · exact s.six i hi
theorem rw_clear (h : Shape M) {n i : Nat} (hi : i < 5) : rw' (clearTo M a c n) i = if i < n ∧ i ≠ a then subRow (en (rw' M i) c) (rw' M i) (rw' M a) else rw' M i := by
  unfold clearTo
  rw [rw_mapIdx (by rw [h.five]; exact hi)]
theorem Shape.clear (h : Shape M) (ha : a < 5) {n : Nat} : Shape (clearTo M a c n) := by
  refine ⟨by unfold clearTo; rw [List.length_mapIdx]; exact h.five, fun i hi => ?_⟩
  rw [rw_clear h hi]
  split
  · rw [len_sub, h.six i hi, h.six a ha]
    rfl
  · exact h.six i hi
theorem rw_lclear (h : Shape M) {n i : Nat} (hi : i < 5) : rw' (lclear M a c n) i = if a < i ∧ i < n then subRow (en (rw' M i) c / en (rw' M a) c) (rw' M i) (rw' M a) else rw' M i := by
  unfold lclear
  rw [rw_mapIdx (by rw [h.five]; exact hi)]
theorem Shape.lclear (h : Shape M) (ha : a < 5) {n : Nat} : Shape (lclear M a c n) := by
  refine ⟨by unfold K54.lclear; rw [List.length_mapIdx]; exact h.five, fun i hi => ?_⟩
  rw [rw_lclear h hi]
  split
  · rw [len_sub, h.six i hi, h.six a ha]
    rfl
  · exact h.six i hi
theorem Shape.pstep (h : Shape M) (ha : a < 5) (hp : p < 5) : Shape (pstep M a c p) := (h.pnorm ha hp).clear ha
theorem Shape.lstep (h : Shape M) (ha : a < 5) (hp : p < 5) : Shape (lstep M a c p) := (h.swap ha hp).lclear ha
theorem rw_pnorm (h : Shape M) (ha : a < 5) (hp : p < 5) {i : Nat} : rw' (pnorm M a c p) i = if i = a then normRow (en (rw' M p) c) (rw' M p) else if i = p then rw' M a else rw' M i := by
  have s := h.swap ha hp
  have e : rw' (swapRows M a p) a = rw' M p := by
    rw [rw_swap (by rw [h.five]; exact ha) (by rw [h.five]; exact hp)]
    split
    · next z => rw [z]
    · rw [if_pos rfl]
  unfold pnorm
  rw [rw_set (by rw [s.five]; exact ha), e]
  split
  · rfl
  · next hn =>
    rw [rw_swap (by rw [h.five]; exact ha) (by rw [h.five]; exact hp)]
    split
    · rfl
    · rfl
theorem rw_pstep (h : Shape M) (ha : a < 5) (hp : p < 5) {i : Nat} (hi : i < 5) : rw' (pstep M a c p) i =
    if i = a then normRow (en (rw' M p) c) (rw' M p)
    else subRow (en (if i = p then rw' M a else rw' M i) c) (if i = p then rw' M a else rw' M i) (normRow (en (rw' M p) c) (rw' M p)) := by
  unfold pstep
  rw [rw_clear (h.pnorm ha hp) hi, rw_pnorm h ha hp, rw_pnorm h ha hp]
  by_cases hia : i = a
  · rw [if_neg (fun z => z.2 hia), if_pos hia, if_pos hia]
  · rw [if_pos ⟨hi, hia⟩, if_neg hia, if_pos rfl, if_neg hia]
theorem rw_lstep (h : Shape M) (ha : a < 5) (hp : p < 5) {i : Nat} (hi : i < 5) (hai : a < i) : rw' (lstep M a c p) i =
    subRow (en (if i = p then rw' M a else rw' M i) c / en (rw' M p) c) (if i = p then rw' M a else rw' M i) (rw' M p) := by
  have e : ∀ j, rw' (swapRows M a p) j = if j = p then rw' M a else if j = a then rw' M p else rw' M j := fun j => rw_swap (by rw [h.five]; exact ha) (by rw [h.five]; exact hp)
  have ea : rw' (swapRows M a p) a = rw' M p := by
    rw [e]
    split
    · next z => rw [z]
    · rw [if_pos rfl]
  have ei : rw' (swapRows M a p) i = if i = p then rw' M a else rw' M i := by
    rw [e]
    split
    · rfl
    · rw [if_neg (by omega)]
  unfold lstep
  rw [rw_lclear (h.swap ha hp) hi, if_pos ⟨hai, hi⟩, ea, ei]
/-- the lower rows of both are the same -/
theorem sub_same {x y : List Rat} {h f : Rat} : subRow f x (normRow h y) = subRow (f / h) x y := by
  unfold subRow normRow
  rw [List.zipWith_map_right]
  congr 1
  funext u v
  rw [Rat.div_def, Rat.div_def]
  grind
theorem ker_step (h : Shape M) (ha : a < 5) (hp : p < 5) (hn : en (rw' M p) c ≠ 0) (v : List Rat) : Ker (pstep M a c p) v ↔ Ker M v := by
  have six : ∀ i, i < 5 → (if i = p then rw' M a else rw' M i).length = 6 := fun i hi => by
    split
    · exact h.six a ha
    · exact h.six i hi
  have e : ∀ i, i < 5 → i ≠ a → dot (rw' (pstep M a c p) i) v = dot (if i = p then rw' M a else rw' M i) v - en (if i = p then rw' M a else rw' M i) c * (dot (rw' M p) v / en (rw' M p) c) := fun i hi hia => by
    rw [rw_pstep h ha hp hi, if_neg hia, dot_sub (by rw [len_norm, six i hi, h.six p hp]), dot_norm]
  have ea : dot (rw' (pstep M a c p) a) v = dot (rw' M p) v / en (rw' M p) c := by
    rw [rw_pstep h ha hp ha, if_pos rfl, dot_norm]
  constructor
  · intro k
    have k0 : dot (rw' M p) v = 0 := by
      have := k a ha
      rw [ea] at this
      grind
    have ki : ∀ i, i < 5 → i ≠ a → dot (if i = p then rw' M a else rw' M i) v = 0 := fun i hi hia => by
      have := k i hi
      rw [e i hi hia, k0] at this
      grind
    intro i hi
    by_cases hip : i = p
    · rw [hip]; exact k0
    · by_cases hia : i = a
      · subst hia
        have := ki p hp (fun z => hip z.symm)
        rw [if_pos rfl] at this
        exact this
      · have := ki i hi hia
        rw [if_neg hip] at this
        exact this
  · intro k i hi
    by_cases hia : i = a
    · rw [hia, ea, k p hp]
      rw [Rat.div_def]
      grind
    · rw [e i hi hia, k p hp]
      have : dot (if i = p then rw' M a else rw' M i) v = 0 := by
        split
        · exact k a ha
        · exact k i hi
      rw [this, Rat.div_def]
      grind
end
end K54
namespace K54
/-! ### 7. both eliminations side by side -/
structure Lk (M0 : List (List Rat)) (c : Nat) (M : List (List Rat)) (hs : List Nat) (L : List (List Rat)) : Prop where
  shM : Shape M
  shL : Shape L
  le : hs.length ≤ 5
  low : ∀ i, hs.length ≤ i → i < 5 → rw' L i = rw' M i
  inc : hs.Pairwise (· < ·)
  lt : ∀ h ∈ hs, h < c
  one : ∀ i h : Nat, hs[i]? = some h → en (rw' M i) h = 1
  zero : ∀ i h j : Nat, hs[i]? = some h → j < 5 → j ≠ i → en (rw' M j) h = 0
  ker : ∀ v, Ker M v ↔ Ker M0 v
  rep : ∀ i, i < 5 → RowRep (bs hs.length) (rw' M i)
theorem piv_same {M L : List (List Rat)} {c a : Nat} (h : ∀ i, a ≤ i → i < 5 → rw' L i = rw' M i) : piv L c a = piv M c a := by
  unfold piv
  refine List.filter_congr fun x hx => ?_
  rw [List.mem_range'_1] at hx
  rw [h x hx.1 (by omega)]
theorem Lk.init {M : List (List Rat)} (s : Shape M) (r : ∀ i, i < 5 → RowRep 32 (rw' M i)) : Lk M 0 M [] M :=
  ⟨s, s, by decide, fun _ _ _ => rfl, List.Pairwise.nil, fun _ h => (nomatch h), fun i h e => by simp at e, fun i h j e => by simp at e, fun _ => Iff.rfl, r⟩
theorem Lk.col {M0 M L : List (List Rat)} {hs : List Nat} {c : Nat} (k : Lk M0 c M hs L) :
    Lk M0 (c + 1) (pcol (M, hs) c).1 (pcol (M, hs) c).2 (lcol (L, hs.length) c).1 ∧ (lcol (L, hs.length) c).2 = (pcol (M, hs) c).2.length := by
  have e := piv_same (c := c) k.low
  unfold pcol lcol
  dsimp only
  rw [e]
  cases hp : piv M c hs.length with
  | nil => exact ⟨⟨k.shM, k.shL, k.le, k.low, k.inc, fun h hh => Nat.lt_succ_of_lt (k.lt h hh), k.one, k.zero, k.ker, k.rep⟩, rfl⟩
  | cons p r =>
    have hm : p ∈ piv M c hs.length := by rw [hp]; exact List.mem_cons_self
    obtain ⟨⟨h1, h2⟩, h3⟩ := piv_mem.mp hm
    have ha : hs.length < 5 := by omega
    have rep1 : ∀ i, i < 5 → RowRep (bs hs.length) (if i = p then rw' M hs.length else rw' M i) := fun i hi => by
      split
      · exact k.rep _ ha
      · exact k.rep i hi
    have six : ∀ i, i < 5 → (if i = p then rw' M hs.length else rw' M i).length = 6 := fun i hi => by
      split
      · exact k.shM.six _ ha
      · exact k.shM.six i hi
    have l1 : (hs ++ [c]).length = hs.length + 1 := by simp
    refine ⟨⟨k.shM.pstep ha h2, k.shL.lstep ha h2, by rw [l1]; exact ha, fun i hi hi5 => ?_, ?_, fun h hh => ?_, fun i h hi => ?_, fun i h j hi hj hji => ?_, fun v => ?_, fun i hi => ?_⟩, by rw [l1]⟩
    · rw [l1] at hi
      rw [rw_lstep k.shL ha h2 hi5 (by omega), rw_pstep k.shM ha h2 hi5, if_neg (show ¬ i = hs.length by omega), sub_same, k.low _ (Nat.le_refl _) ha, k.low i (by omega) hi5, k.low p h1 h2]
    · rw [List.pairwise_append]
      refine ⟨k.inc, by simp, fun x hx y hy => ?_⟩
      rw [List.mem_singleton] at hy
      rw [hy]
      exact k.lt x hx
    · rcases List.mem_append.mp hh with z | z
      · exact Nat.lt_succ_of_lt (k.lt h z)
      · rw [List.mem_singleton.mp z]
        exact Nat.lt_succ_self c
    · have hi' : i < (hs ++ [c]).length := (List.getElem?_eq_some_iff.mp hi).1
      rw [l1] at hi'
      rw [rw_pstep k.shM ha h2 (by omega)]
      by_cases hil : i < hs.length
      · rw [List.getElem?_append_left hil] at hi
        rw [if_neg (show ¬ i = hs.length by omega), if_neg (show ¬ i = p by omega), en_sub (by rw [len_norm, k.shM.six i (by omega), k.shM.six p h2]), en_norm, k.one i h hi, k.zero i h p hi h2 (by omega), Rat.div_def]
        grind
      · have : i = hs.length := by omega
        subst this
        have eh : h = c := by
          rw [List.getElem?_append_right (Nat.le_refl _)] at hi
          simp at hi
          exact hi.symm
        rw [eh, if_pos rfl, en_norm, Rat.div_def]
        exact Rat.mul_inv_cancel _ h3
    · have hi' : i < (hs ++ [c]).length := (List.getElem?_eq_some_iff.mp hi).1
      rw [l1] at hi'
      rw [rw_pstep k.shM ha h2 hj]
      by_cases hil : i < hs.length
      · rw [List.getElem?_append_left hil] at hi
        have hp0 := k.zero i h p hi h2 (by omega)
        have hx : en (if j = p then rw' M hs.length else rw' M j) h = 0 := by
          split
          · exact k.zero i h _ hi ha (by omega)
          · exact k.zero i h j hi hj hji
        by_cases hja : j = hs.length
        · rw [if_pos hja, en_norm, hp0, Rat.div_def]
          grind
        · rw [if_neg hja, en_sub (by rw [len_norm, six j hj, k.shM.six p h2]), en_norm, hx, hp0, Rat.div_def]
          grind
      · have : i = hs.length := by omega
        subst this
        have eh : h = c := by
          rw [List.getElem?_append_right (Nat.le_refl _)] at hi
          simp at hi
          exact hi.symm
        rw [eh, if_neg hji, en_sub (by rw [len_norm, six j hj, k.shM.six p h2]), en_norm]
        have : en (rw' M p) c / en (rw' M p) c = 1 := by
          rw [Rat.div_def]
          exact Rat.mul_inv_cancel _ h3
        rw [this]
        grind
    · rw [ker_step k.shM ha h2 h3]
      exact k.ker v
    · rw [l1, rw_pstep k.shM ha h2 hi]
      have rn := (k.rep p h2).norm h3
      split
      · exact rn.mono (by show bs hs.length ≤ 2 * bs hs.length + 1; omega)
      · exact (rep1 i hi).sub rn (by rw [len_norm, six i hi, k.shM.six p h2])
theorem Lk.run {M : List (List Rat)} (s : Shape M) (r : ∀ i, i < 5 → RowRep 32 (rw' M i)) : ∀ n, Lk M n (pRun M n).1 (pRun M n).2 (lRun M n).1 ∧ (lRun M n).2 = (pRun M n).2.length
  | 0 => by
    rw [pRun_zero, lRun_zero]
    exact ⟨Lk.init s r, rfl⟩
  | n + 1 => by
    obtain ⟨k, e⟩ := Lk.run s r n
    have h := k.col
    rw [pRun_succ, lRun_succ]
    have e1 : lRun M n = ((lRun M n).1, (pRun M n).2.length) := by rw [← e]
    rw [e1]
    exact h
/-! ### 8. the only free column -/
/-- the vector that through_five tells -/
def foundV (M : List (List Rat)) (hs : List Nat) (f : Nat) : Nat → List Rat
  | 0 => (List.replicate 6 (0 : Rat)).set f 1
  | i + 1 => (foundV M hs f i).set (hs.getD i 0) (0 - en (rw' M i) f)
theorem foundV_len (M : List (List Rat)) (hs : List Nat) (f : Nat) : ∀ i, (foundV M hs f i).length = 6
  | 0 => by simp [foundV]
  | i + 1 => by simp [foundV, foundV_len M hs f i]
theorem len6 {α : Type} {l : List α} (h : l.length = 6) : ∃ a b c d e f, l = [a, b, c, d, e, f] := by
  match l, h with
  | [a, b, c, d, e, f], _ => exact ⟨a, b, c, d, e, f, rfl⟩
theorem len5 {α : Type} {l : List α} (h : l.length = 5) : ∃ a b c d e, l = [a, b, c, d, e] := by
  match l, h with
  | [a, b, c, d, e], _ => exact ⟨a, b, c, d, e, rfl⟩
/-- the rows of the end: heads h0 < .. < h4 below 6, f the other column -/
theorem heads_cases {hs : List Nat} {f : Nat} (hl : hs.length = 5) (inc : hs.Pairwise (· < ·)) (lt : ∀ h ∈ hs, h < 6) (hf : f < 6) (hn : f ∉ hs) :
    (f = 0 ∧ hs = [1, 2, 3, 4, 5]) ∨ (f = 1 ∧ hs = [0, 2, 3, 4, 5]) ∨ (f = 2 ∧ hs = [0, 1, 3, 4, 5]) ∨ (f = 3 ∧ hs = [0, 1, 2, 4, 5]) ∨ (f = 4 ∧ hs = [0, 1, 2, 3, 5]) ∨ (f = 5 ∧ hs = [0, 1, 2, 3, 4]) := by
  obtain ⟨a, b, c, d, e, rfl⟩ := len5 hl
  simp only [List.pairwise_cons, List.mem_cons, List.not_mem_nil, or_false, forall_eq_or_imp, forall_eq, List.Pairwise.nil, and_true, false_implies, implies_true, not_or] at inc lt hn
  have hc : f = 0 ∨ f = 1 ∨ f = 2 ∨ f = 3 ∨ f = 4 ∨ f = 5 := by omega
  rcases hc with rfl | rfl | rfl | rfl | rfl | rfl
  · exact .inl ⟨rfl, by simp only [List.cons.injEq, and_true]; omega⟩
  · exact .inr (.inl ⟨rfl, by simp only [List.cons.injEq, and_true]; omega⟩)
  · exact .inr (.inr (.inl ⟨rfl, by simp only [List.cons.injEq, and_true]; omega⟩))
  · exact .inr (.inr (.inr (.inl ⟨rfl, by simp only [List.cons.injEq, and_true]; omega⟩)))
  · exact .inr (.inr (.inr (.inr (.inl ⟨rfl, by simp only [List.cons.injEq, and_true]; omega⟩))))
  · exact .inr (.inr (.inr (.inr (.inr ⟨rfl, by simp only [List.cons.injEq, and_true]; omega⟩))))
theorem dot6 {r v : List Rat} (hr : r.length = 6) (hv : v.length = 6) : dot r v = en r 0 * en v 0 + en r 1 * en v 1 + en r 2 * en v 2 + en r 3 * en v 3 + en r 4 * en v 4 + en r 5 * en v 5 := by
  obtain ⟨a, b, c, d, e, f, rfl⟩ := len6 hr
  obtain ⟨a', b', c', d', e', f', rfl⟩ := len6 hv
  show a * a' + (b * b' + (c * c' + (d * d' + (e * e' + (f * f' + 0))))) = a * a' + b * b' + c * c' + d * d' + e * e' + f * f'
  grind
theorem ext6 {v w : List Rat} (hv : v.length = 6) (hw : w.length = 6) (h : ∀ j, j < 6 → en v j = en w j) : v = w := by
  obtain ⟨a, b, c, d, e, f, rfl⟩ := len6 hv
  obtain ⟨a', b', c', d', e', f', rfl⟩ := len6 hw
  have h0 : a = a' := h 0 (by decide)
  have h1 : b = b' := h 1 (by decide)
  have h2 : c = c' := h 2 (by decide)
  have h3 : d = d' := h 3 (by decide)
  have h4 : e = e' := h 4 (by decide)
  have h5 : f = f' := h 5 (by decide)
  rw [h0, h1, h2, h3, h4, h5]
section
variable {M0 M L : List (List Rat)} {hs : List Nat} {f : Nat}
/-- each row times v, in the end -/
theorem Lk.dots (k : Lk M0 6 M hs L) (hl : hs.length = 5) (hf : f < 6) (hn : f ∉ hs) {v : List Rat} (hv : v.length = 6) {i h : Nat} (hi : hs[i]? = some h) :
    dot (rw' M i) v = en v h + en (rw' M i) f * en v f := by
  have hi5 : i < 5 := by
    have := (List.getElem?_eq_some_iff.mp hi).1
    omega
  rw [dot6 (k.shM.six i hi5) hv]
  have o := k.one i h hi
  have z : ∀ j g : Nat, hs[j]? = some g → j ≠ i → en (rw' M i) g = 0 := fun j g e ne => k.zero j g i e hi5 (fun q => ne q.symm)
  have ic : i = 0 ∨ i = 1 ∨ i = 2 ∨ i = 3 ∨ i = 4 := by omega
  rcases heads_cases hl k.inc k.lt hf hn with ⟨rfl, rfl⟩ | ⟨rfl, rfl⟩ | ⟨rfl, rfl⟩ | ⟨rfl, rfl⟩ | ⟨rfl, rfl⟩ | ⟨rfl, rfl⟩ <;> rcases ic with rfl | rfl | rfl | rfl | rfl <;> (
    have eh := Option.some.inj hi
    subst eh
    have z0 := z 0 _ rfl
    have z1 := z 1 _ rfl
    have z2 := z 2 _ rfl
    have z3 := z 3 _ rfl
    have z4 := z 4 _ rfl
    simp at z0 z1 z2 z3 z4
    rw [o]
    simp only [z0, z1, z2, z3, z4]
    grind)
theorem en_set {r : List Rat} {a j : Nat} {x : Rat} (ha : a < r.length) : en (r.set a x) j = if j = a then x else en r j := by
  unfold en
  rw [List.getD_eq_getElem?_getD, List.getElem?_set, List.getD_eq_getElem?_getD]
  by_cases h : j = a
  · subst h
    simp [ha]
  · rw [if_neg (fun e => h e.symm), if_neg h]
theorem Lk.found (k : Lk M0 6 M hs L) (hl : hs.length = 5) (hf : f < 6) (hn : f ∉ hs) : en (foundV M hs f 5) f = 1 ∧ ∀ i h : Nat, hs[i]? = some h → en (foundV M hs f 5) h = 0 - en (rw' M i) f := by
  have st : ∀ i j, hs.getD i 0 < 6 → en (foundV M hs f (i + 1)) j = if j = hs.getD i 0 then 0 - en (rw' M i) f else en (foundV M hs f i) j := fun i j h => by
    show en ((foundV M hs f i).set (hs.getD i 0) (0 - en (rw' M i) f)) j = _
    rw [en_set (by rw [foundV_len]; exact h)]
  have s0 : ∀ j, en (foundV M hs f 0) j = if j = f then 1 else en (List.replicate 6 (0 : Rat)) j := fun j => by
    show en ((List.replicate 6 (0 : Rat)).set f 1) j = _
    rw [en_set (by simpa using hf)]
  rcases heads_cases hl k.inc k.lt hf hn with ⟨rfl, rfl⟩ | ⟨rfl, rfl⟩ | ⟨rfl, rfl⟩ | ⟨rfl, rfl⟩ | ⟨rfl, rfl⟩ | ⟨rfl, rfl⟩ <;> (
    refine ⟨?_, fun i h hi => ?_⟩
    · rw [st 4 _ (by decide), st 3 _ (by decide), st 2 _ (by decide), st 1 _ (by decide), st 0 _ (by decide), s0]
      rfl
    · have hi5 : i < 5 := (List.getElem?_eq_some_iff.mp hi).1
      have ic : i = 0 ∨ i = 1 ∨ i = 2 ∨ i = 3 ∨ i = 4 := by omega
      rcases ic with rfl | rfl | rfl | rfl | rfl <;> (
        have eh := Option.some.inj hi
        subst eh
        rw [st 4 _ (by decide), st 3 _ (by decide), st 2 _ (by decide), st 1 _ (by decide), st 0 _ (by decide), s0]
        rfl))
theorem Lk.ker_found (k : Lk M0 6 M hs L) (hl : hs.length = 5) (hf : f < 6) (hn : f ∉ hs) : Ker M0 (foundV M hs f 5) := by
  refine (k.ker _).mp fun i hi => ?_
  obtain ⟨h, eh⟩ : ∃ h, hs[i]? = some h := ⟨hs[i]'(by omega), List.getElem?_eq_getElem _⟩
  obtain ⟨e1, e2⟩ := k.found hl hf hn
  rw [k.dots hl hf hn (foundV_len M hs f 5) eh, e1, e2 i h eh]
  grind
/-- .. and no other but for a factor -/
theorem Lk.only (k : Lk M0 6 M hs L) (hl : hs.length = 5) (hf : f < 6) (hn : f ∉ hs) {v : List Rat} (hv : v.length = 6) (h0 : Ker M0 v) : v = (foundV M hs f 5).map (en v f * ·) := by
  have hk := (k.ker v).mpr h0
  obtain ⟨e1, e2⟩ := k.found hl hf hn
  have em : ∀ j, en ((foundV M hs f 5).map (en v f * ·)) j = en v f * en (foundV M hs f 5) j := fun j => by
    unfold en
    rw [List.getD_eq_getElem?_getD, List.getElem?_map, List.getD_eq_getElem?_getD (l := foundV M hs f 5)]
    cases (foundV M hs f 5)[j]? with
    | none =>
      show (0 : Rat) = _ * 0
      grind
    | some x => rfl
  refine ext6 hv (by rw [List.length_map, foundV_len]) fun j hj => ?_
  rw [em]
  by_cases hjf : j = f
  · rw [hjf, e1]
    grind
  · have : ∃ i : Nat, hs[i]? = some j := by
      rcases heads_cases hl k.inc k.lt hf hn with ⟨rfl, rfl⟩ | ⟨rfl, rfl⟩ | ⟨rfl, rfl⟩ | ⟨rfl, rfl⟩ | ⟨rfl, rfl⟩ | ⟨rfl, rfl⟩ <;> (
        refine List.mem_iff_getElem?.mp ?_
        simp only [List.mem_cons, List.not_mem_nil, or_false]
        omega)
    obtain ⟨i, hi⟩ := this
    have hi5 : i < 5 := by
      have := (List.getElem?_eq_some_iff.mp hi).1
      omega
    have d := hk i hi5
    rw [k.dots hl hf hn hv hi] at d
    rw [e2 i j hi]
    grind
end
end K54
namespace K54
/-! ### 9. whole numbers in the same proportions -/
def bot (v : List Rat) : Nat := v.foldl (fun b q => Nat.lcm b q.den) 1
def fnd (v : List Rat) : List Int := v.map fun q => q.num * ((bot v / q.den : Nat) : Int)
def part (l : List Int) : Nat := l.foldl (fun g z => Nat.gcd g z.natAbs) 0
def nz (l : List Int) : List Int := l.filter fun z => decide (z ≠ 0)
def fst (l : List Int) : Int := (nz l).getD 0 0
def spart (l : List Int) : Int := if fst l < 0 then -(part l : Int) else (part l : Int)
def whole (v : List Rat) : List Int := (fnd v).map fun z => z.fdiv (spart (fnd v))
theorem lcm_fold : ∀ (v : List Rat) (b : Nat), 0 < b → 0 < v.foldl (fun b q => Nat.lcm b q.den) b ∧ b ∣ v.foldl (fun b q => Nat.lcm b q.den) b ∧ ∀ q ∈ v, q.den ∣ v.foldl (fun b q => Nat.lcm b q.den) b
  | [], b, hb => ⟨hb, Nat.dvd_refl b, fun _ h => (nomatch h)⟩
  | q :: v, b, hb => by
    obtain ⟨h1, h2, h3⟩ := lcm_fold v (Nat.lcm b q.den) (Nat.pos_of_ne_zero (Nat.lcm_ne_zero (by omega) q.den_nz))
    refine ⟨h1, Nat.dvd_trans (Nat.dvd_lcm_left b q.den) h2, fun p hp => ?_⟩
    rcases List.mem_cons.mp hp with rfl | hp
    · exact Nat.dvd_trans (Nat.dvd_lcm_right b _) h2
    · exact h3 p hp
theorem bot_pos (v : List Rat) : 0 < bot v := (lcm_fold v 1 (by decide)).1
theorem bot_dvd {v : List Rat} {q : Rat} (h : q ∈ v) : q.den ∣ bot v := (lcm_fold v 1 (by decide)).2.2 q h
theorem fnd_rat {v : List Rat} {q : Rat} (h : q ∈ v) : ((q.num * ((bot v / q.den : Nat) : Int) : Int) : Rat) = (bot v : Rat) * q := by
  obtain ⟨k, hk⟩ := bot_dvd h
  have hd : q.den ≠ 0 := q.den_nz
  have e : bot v / q.den = k := by rw [hk]; exact Nat.mul_div_cancel_left k (Nat.pos_of_ne_zero hd)
  rw [e, Rat.intCast_mul, hk, Rat.natCast_mul, Rat.intCast_natCast]
  have hq : q = (q.num : Rat) / ((q.den : Nat) : Rat) := by rw [← Rat.mkRat_eq_div, Rat.mkRat_self]
  have hd' : ((q.den : Nat) : Rat) ≠ 0 := fun z => hd (Rat.natCast_eq_zero_iff.mp z)
  generalize (q.num : Rat) = n at hq ⊢
  generalize ((q.den : Nat) : Rat) = d at hq hd' ⊢
  generalize (k : Rat) = kk
  grind
theorem part_fold : ∀ (l : List Int) (g : Nat), (l.foldl (fun g z => Nat.gcd g z.natAbs) g ∣ g) ∧ (∀ z ∈ l, l.foldl (fun g z => Nat.gcd g z.natAbs) g ∣ z.natAbs) ∧ ∀ d, d ∣ g → (∀ z ∈ l, d ∣ z.natAbs) → d ∣ l.foldl (fun g z => Nat.gcd g z.natAbs) g
  | [], g => ⟨Nat.dvd_refl g, fun _ h => (nomatch h), fun d h _ => h⟩
  | z :: l, g => by
    obtain ⟨h1, h2, h3⟩ := part_fold l (Nat.gcd g z.natAbs)
    refine ⟨Nat.dvd_trans h1 (Nat.gcd_dvd_left _ _), fun y hy => ?_, fun d hd hz => h3 d (Nat.dvd_gcd hd (hz z List.mem_cons_self)) fun y hy => hz y (List.mem_cons_of_mem _ hy)⟩
    rcases List.mem_cons.mp hy with rfl | hy
    · exact Nat.dvd_trans h1 (Nat.gcd_dvd_right _ _)
    · exact h2 y hy
theorem part_dvd {l : List Int} {z : Int} (h : z ∈ l) : part l ∣ z.natAbs := (part_fold l 0).2.1 z h
theorem part_most {l : List Int} {d : Nat} (h : ∀ z ∈ l, d ∣ z.natAbs) : d ∣ part l := (part_fold l 0).2.2 d (Nat.dvd_zero d) h
theorem part_pos {l : List Int} (h : ∃ z ∈ l, z ≠ 0) : 0 < part l := by
  obtain ⟨z, hz, h0⟩ := h
  exact Nat.pos_of_dvd_of_pos (part_dvd hz) (by omega)
theorem spart_ne {l : List Int} (h : ∃ z ∈ l, z ≠ 0) : spart l ≠ 0 := by
  have := part_pos h
  unfold spart
  split <;> omega
theorem spart_abs (l : List Int) : (spart l).natAbs = part l := by
  unfold spart
  split <;> omega
theorem spart_dvd {l : List Int} {z : Int} (h : z ∈ l) : spart l ∣ z := by
  rw [← Int.natAbs_dvd_natAbs, spart_abs]
  exact part_dvd h
theorem first_of : ∀ {l : List Int}, (∃ z ∈ l, z ≠ 0) → ∃ (i : Nat), l[i]? = some (fst l) ∧ fst l ≠ 0 ∧ ∀ j, j < i → l[j]? = some 0
  | [], h => by
    obtain ⟨z, hz, _⟩ := h
    cases hz
  | z :: l, h => by
    by_cases h0 : z = 0
    · have h' : ∃ z ∈ l, z ≠ 0 := by
        obtain ⟨y, hy, y0⟩ := h
        rcases List.mem_cons.mp hy with e | hy
        · exact absurd (e.trans h0) y0
        · exact ⟨y, hy, y0⟩
      obtain ⟨i, h1, h2, h3⟩ := first_of h'
      have e : fst (z :: l) = fst l := by
        unfold fst nz
        rw [List.filter_cons, if_neg (by simp [h0])]
      rw [e]
      refine ⟨i + 1, by simpa using h1, h2, fun j hj => ?_⟩
      cases j with
      | zero => simp [h0]
      | succ j => simpa using h3 j (by omega)
    · have e : fst (z :: l) = z := by
        unfold fst nz
        rw [List.filter_cons, if_pos (by simp [h0])]
        rfl
      rw [e]
      exact ⟨0, rfl, h0, fun j hj => by omega⟩
structure IsWhole (v : List Rat) (w : List Int) : Prop where
  len : w.length = v.length
  prop : ∃ c : Rat, c ≠ 0 ∧ ∀ j, ((w.getD j 0 : Int) : Rat) = c * en v j
  prim : ∀ d : Nat, (∀ z ∈ w, d ∣ z.natAbs) → d = 1
  pos : ∃ (i : Nat) (z : Int), w[i]? = some z ∧ 0 < z ∧ ∀ j, j < i → w[j]? = some 0
theorem fnd_nz {v : List Rat} (h : ∃ q ∈ v, q ≠ 0) : ∃ z ∈ fnd v, z ≠ 0 := by
  obtain ⟨q, hq, h0⟩ := h
  refine ⟨_, List.mem_map.mpr ⟨q, hq, rfl⟩, fun e => ?_⟩
  have e1 := fnd_rat hq
  rw [e] at e1
  have hb : (bot v : Rat) ≠ 0 := fun z => by
    have := Rat.natCast_eq_zero_iff.mp z
    have := bot_pos v
    omega
  have : (bot v : Rat) * q = 0 := e1.symm
  rcases Rat.mul_eq_zero.mp this with z | z
  · exact hb z
  · exact h0 z
theorem whole_is {v : List Rat} (h : ∃ q ∈ v, q ≠ 0) : IsWhole v (whole v) := by
  have hn := fnd_nz h
  have hs := spart_ne hn
  have hp := part_pos hn
  have back : ∀ z ∈ fnd v, z.fdiv (spart (fnd v)) * spart (fnd v) = z := fun z hz => by
    obtain ⟨k, hk⟩ := spart_dvd hz
    generalize spart (fnd v) = s at hs hk ⊢
    rw [hk, Int.mul_fdiv_cancel_left _ hs, Int.mul_comm]
  refine ⟨by unfold whole fnd; simp, ?_, fun d hd => ?_, ?_⟩
  · have hb : (bot v : Rat) ≠ 0 := fun z => by
      have := Rat.natCast_eq_zero_iff.mp z
      have := bot_pos v
      omega
    have hsr : ((spart (fnd v) : Int) : Rat) ≠ 0 := fun z => hs (Rat.intCast_eq_zero_iff.mp z)
    refine ⟨(bot v : Rat) / ((spart (fnd v) : Int) : Rat), ?_, fun j => ?_⟩
    · intro z
      have : (bot v : Rat) = 0 := by
        have e := Rat.div_mul_cancel (a := (bot v : Rat)) hsr
        rw [z] at e
        grind
      exact hb this
    · by_cases hj : j < v.length
      · have em : v[j] ∈ v := List.getElem_mem hj
        have e1 : (whole v).getD j 0 = (v[j].num * ((bot v / v[j].den : Nat) : Int)).fdiv (spart (fnd v)) := by
          show ((fnd v).map _).getD j 0 = _
          rw [List.getD_eq_getElem?_getD, List.getElem?_map]
          unfold fnd
          rw [List.getElem?_map, List.getElem?_eq_getElem hj]
          rfl
        have e2 : en v j = v[j] := by
          unfold en
          rw [List.getD_eq_getElem?_getD, List.getElem?_eq_getElem hj]
          rfl
        have e3 := back _ (List.mem_map.mpr ⟨v[j], em, rfl⟩)
        have e4 := fnd_rat em
        rw [e1, e2]
        rw [← e3, Rat.intCast_mul] at e4
        generalize ((((v[j].num * ((bot v / v[j].den : Nat) : Int)).fdiv (spart (fnd v)) : Int)) : Rat) = x at e4 ⊢
        generalize ((spart (fnd v) : Int) : Rat) = y at e4 hsr ⊢
        generalize (bot v : Rat) = b at e4 ⊢
        grind
      · have e1 : (whole v).getD j 0 = 0 := by
          rw [List.getD_eq_getElem?_getD, List.getElem?_eq_none (by unfold whole fnd; simp; omega)]
          rfl
        have e2 : en v j = 0 := by
          unfold en
          rw [List.getD_eq_getElem?_getD, List.getElem?_eq_none (by omega)]
          rfl
        rw [e1, e2]
        grind
  · have : d * part (fnd v) ∣ part (fnd v) := part_most fun z hz => by
      have e := back z hz
      have hdz := hd _ (List.mem_map.mpr ⟨z, hz, rfl⟩)
      rw [← e, Int.natAbs_mul, spart_abs]
      exact Nat.mul_dvd_mul hdz (Nat.dvd_refl _)
    obtain ⟨k, hk⟩ := this
    have h1 : part (fnd v) * 1 = part (fnd v) * (d * k) := by
      rw [Nat.mul_one]
      calc part (fnd v) = d * part (fnd v) * k := hk
        _ = part (fnd v) * (d * k) := by grind
    have h2 := Nat.eq_of_mul_eq_mul_left hp h1
    exact Nat.eq_one_of_mul_eq_one_right h2.symm
  · obtain ⟨i, h1, h2, h3⟩ := first_of hn
    have hm : fst (fnd v) ∈ fnd v := List.mem_of_getElem? h1
    have e := back _ hm
    refine ⟨i, (fst (fnd v)).fdiv (spart (fnd v)), by unfold whole; rw [List.getElem?_map, h1]; rfl, ?_, fun j hj => by unfold whole; rw [List.getElem?_map, h3 j hj]; simp⟩
    have hpi : (0 : Int) < (part (fnd v) : Int) := by omega
    generalize hx : (fst (fnd v)).fdiv (spart (fnd v)) = x at e ⊢
    rcases Int.lt_trichotomy x 0 with z | z | z
    · exfalso
      unfold spart at e
      split at e
      · have := Int.mul_pos_of_neg_of_neg z (show -(part (fnd v) : Int) < 0 by omega)
        omega
      · have := Int.mul_neg_of_neg_of_pos z hpi
        omega
    · exfalso
      rw [z, Int.zero_mul] at e
      exact h2 e.symm
    · exact z
theorem getD_get {w : List Int} {i : Nat} {z : Int} (h : w[i]? = some z) : w.getD i 0 = z := by rw [List.getD_eq_getElem?_getD, h]; rfl
theorem IsWhole.uniq {v v' : List Rat} {w w' : List Int} (a : IsWhole v w) (b : IsWhole v' w') (hl : v.length = v'.length) {r : Rat} (hr : r ≠ 0) (h : ∀ j, en v' j = r * en v j) : w = w' := by
  obtain ⟨c, hc, ec⟩ := a.prop
  obtain ⟨c', hc', ec'⟩ := b.prop
  have ht : ∃ t : Rat, t ≠ 0 ∧ ∀ j, ((w'.getD j 0 : Int) : Rat) = t * ((w.getD j 0 : Int) : Rat) := by
    refine ⟨c' * r / c, ?_, fun j => ?_⟩
    · intro z
      have e := Rat.div_mul_cancel (a := c' * r) hc
      rw [z] at e
      have : c' * r = 0 := by grind
      rcases Rat.mul_eq_zero.mp this with q | q
      · exact hc' q
      · exact hr q
    · rw [ec', ec, h]
      grind
  obtain ⟨t, ht0, et⟩ := ht
  have hn0 : t.num ≠ 0 := num_ne ht0
  have cross : ∀ j, w'.getD j 0 * (t.den : Int) = t.num * w.getD j 0 := fun j => by
    have e := et j
    have hq : t = (t.num : Rat) / ((t.den : Nat) : Rat) := by rw [← Rat.mkRat_eq_div, Rat.mkRat_self]
    have hd' : ((t.den : Nat) : Rat) ≠ 0 := fun z => t.den_nz (Rat.natCast_eq_zero_iff.mp z)
    refine Rat.intCast_inj.mp ?_
    rw [Rat.intCast_mul, Rat.intCast_mul, Rat.intCast_natCast, e]
    generalize ((w.getD j 0 : Int) : Rat) = x
    generalize (t.num : Rat) = n at hq ⊢
    generalize ((t.den : Nat) : Rat) = d at hq hd' ⊢
    grind
  have red : Nat.Coprime t.num.natAbs t.den := t.reduced
  have crossN : ∀ j, (w'.getD j 0).natAbs * t.den = t.num.natAbs * (w.getD j 0).natAbs := fun j => by
    have := congrArg Int.natAbs (cross j)
    rw [Int.natAbs_mul, Int.natAbs_mul] at this
    simpa using this
  have mem_getD : ∀ {l : List Int} {z : Int}, z ∈ l → ∃ j, l.getD j 0 = z := fun {l z} hz => by
    obtain ⟨j, hj⟩ := List.mem_iff_getElem?.mp hz
    exact ⟨j, getD_get hj⟩
  have d1 : t.den = 1 := a.prim _ fun z hz => by
    obtain ⟨j, hj⟩ := mem_getD hz
    rw [← hj]
    have : t.den ∣ t.num.natAbs * (w.getD j 0).natAbs := ⟨(w'.getD j 0).natAbs, by rw [← crossN]; exact Nat.mul_comm _ _⟩
    exact red.symm.dvd_of_dvd_mul_left this
  have n1 : t.num.natAbs = 1 := b.prim _ fun z hz => by
    obtain ⟨j, hj⟩ := mem_getD hz
    rw [← hj]
    have : t.num.natAbs ∣ (w'.getD j 0).natAbs * t.den := ⟨(w.getD j 0).natAbs, crossN j⟩
    exact red.dvd_of_dvd_mul_right this
  have key : ∀ j, w'.getD j 0 = t.num * w.getD j 0 := fun j => by
    have := cross j
    rw [d1] at this
    simpa using this
  obtain ⟨i, z, hi, hz, hj⟩ := a.pos
  obtain ⟨i', z', hi', hz', hj'⟩ := b.pos
  have k1 := key i
  have k2 := key i'
  rw [getD_get hi] at k1
  rw [getD_get hi'] at k2
  have t1 : t.num = 1 := by
    have hh : t.num = 1 ∨ t.num = -1 := by omega
    rcases hh with q | q
    · exact q
    · exfalso
      rw [q] at k1 k2
      rcases Nat.lt_trichotomy i i' with o | o | o
      · rw [getD_get (hj' i o)] at k1
        omega
      · subst o
        rw [getD_get hi'] at k1
        omega
      · rw [getD_get (hj i' o)] at k2
        omega
  refine List.ext_getElem? fun j => ?_
  have kj := key j
  rw [t1, Int.one_mul, List.getD_eq_getElem?_getD, List.getD_eq_getElem?_getD] at kj
  have l1 := a.len
  have l2 := b.len
  by_cases hjl : j < w.length
  · rw [List.getElem?_eq_getElem hjl, List.getElem?_eq_getElem (show j < w'.length by omega)] at kj ⊢
    have kj' : w'[j] = w[j] := kj
    rw [kj']
  · rw [List.getElem?_eq_none (by omega), List.getElem?_eq_none (by omega)]
end K54
namespace K54
/-! ### 10. points, conics -/
abbrev Pt := Rat × Rat
def terms (p : Pt) : List Rat := [p.1 * p.1, p.1 * p.2, p.2 * p.2, p.1, p.2, 1]
def mat (ps : List Pt) : List (List Rat) := ps.map terms
/-- with a common divisor -/
def PtOk (p : Pt) : Prop := ∃ a b D : Int, D ≠ 0 ∧ D.natAbs < 2 ^ 14 ∧ a.natAbs < 2 ^ 16 ∧ b.natAbs < 2 ^ 16 ∧ p.1 = Rat.divInt a D ∧ p.2 = Rat.divInt b D
theorem PtOk.bd {p : Pt} (h : PtOk p) : Bd 16 p.1 ∧ Bd 16 p.2 := by
  obtain ⟨a, b, D, h0, hD, ha, hb, e1, e2⟩ := h
  rw [e1, e2]
  exact ⟨bd_divInt h0 ha (lt_pow_of hD (by decide)), bd_divInt h0 hb (lt_pow_of hD (by decide))⟩
theorem rep_terms {p : Pt} (h : PtOk p) : RowRep 32 (terms p) := by
  obtain ⟨a, b, D, h0, hD, ha, hb, e1, e2⟩ := h
  have hD' : D.natAbs < 2 ^ 16 := lt_pow_of hD (by decide)
  have q : (D : Rat) ≠ 0 := fun z => h0 (Rat.intCast_eq_zero_iff.mp z)
  refine ⟨D * D, Int.mul_ne_zero h0 h0, abs_mul_lt hD' hD', fun j => ?_⟩
  have mk : ∀ {x : Rat} {N : Int}, N.natAbs < 2 ^ 32 → x * ((D * D : Int) : Rat) = (N : Rat) → en (terms p) j = x → ∃ N : Int, N.natAbs < 2 ^ 32 ∧ en (terms p) j = Rat.divInt N (D * D) := fun {x N} hN hx e => by
    refine ⟨N, hN, ?_⟩
    rw [e, Rat.divInt_eq_div, ← hx, Rat.intCast_mul]
    grind
  have x1 : p.1 * (D : Rat) = a := by rw [e1, Rat.divInt_eq_div]; grind
  have x2 : p.2 * (D : Rat) = b := by rw [e2, Rat.divInt_eq_div]; grind
  match j with
  | 0 => exact mk (x := p.1 * p.1) (N := a * a) (abs_mul_lt ha ha) (by rw [Rat.intCast_mul, Rat.intCast_mul, ← x1]; grind) rfl
  | 1 => exact mk (x := p.1 * p.2) (N := a * b) (abs_mul_lt ha hb) (by rw [Rat.intCast_mul, Rat.intCast_mul, ← x1, ← x2]; grind) rfl
  | 2 => exact mk (x := p.2 * p.2) (N := b * b) (abs_mul_lt hb hb) (by rw [Rat.intCast_mul, Rat.intCast_mul, ← x2]; grind) rfl
  | 3 => exact mk (x := p.1) (N := a * D) (abs_mul_lt ha hD') (by rw [Rat.intCast_mul, Rat.intCast_mul, ← x1]; grind) rfl
  | 4 => exact mk (x := p.2) (N := b * D) (abs_mul_lt hb hD') (by rw [Rat.intCast_mul, Rat.intCast_mul, ← x2]; grind) rfl
  | 5 => exact mk (x := 1) (N := D * D) (abs_mul_lt hD' hD') (by grind) rfl
  | j + 6 => exact mk (x := 0) (N := 0) (by decide) (by rw [Rat.zero_mul]; rfl) (by unfold en terms; simp)
theorem mat_row {ps : List Pt} {i : Nat} {p : Pt} (h : ps[i]? = some p) : rw' (mat ps) i = terms p := rw_of (by unfold mat; rw [List.getElem?_map, h]; rfl)
theorem mat_shape {ps : List Pt} (h : ps.length = 5) : Shape (mat ps) := by
  refine ⟨by unfold mat; simp [h], fun i hi => ?_⟩
  rw [mat_row (List.getElem?_eq_getElem (by omega))]
  rfl
theorem mat_rep {ps : List Pt} (h : ps.length = 5) (ok : ∀ p ∈ ps, PtOk p) : ∀ i, i < 5 → RowRep 32 (rw' (mat ps) i) := fun i hi => by
  rw [mat_row (List.getElem?_eq_getElem (by omega))]
  exact rep_terms (ok _ (List.getElem_mem _))
/-! de Casteljau -/
def btw (a b t : Rat) : Rat := a + t * (b - a)
def lad (a b c t : Rat) : Rat := btw (btw a b t) (btw b c t) t
theorem lad_eq (a b c t : Rat) : lad a b c t = (1 - t) * (1 - t) * a + 2 * t * (1 - t) * b + t * t * c := by
  unfold lad btw
  grind
/-- the point of a weighted row -/
def cpt (P Q R : Pt) (u v w t : Rat) : Pt := (lad (u * P.1) (v * Q.1) (w * R.1) t / lad u v w t, lad (u * P.2) (v * Q.2) (w * R.2) t / lad u v w t)
/-! lines -/
structure Ln where
  a : Rat
  b : Rat
  c : Rat
def Ln.at (l : Ln) (p : Pt) : Rat := l.a * p.1 + l.b * p.2 + l.c
def line (p q : Pt) : Ln := ⟨p.2 - q.2, q.1 - p.1, 0 - ((p.2 - q.2) * p.1 + (q.1 - p.1) * p.2)⟩
def Ln.div (l : Ln) (h : Rat) : Ln := ⟨l.a / h, l.b / h, l.c / h⟩
def lprod (l m : Ln) : List Rat := [l.a * m.a, l.a * m.b + l.b * m.a, l.b * m.b, l.a * m.c + l.c * m.a, l.b * m.c + l.c * m.b, l.c * m.c]
def eqv (P Q R : Pt) (u v w : Rat) : List Rat :=
  List.zipWith (fun x y => u * w * x - 4 * (v * v) * y) (lprod ((line P R).div ((line P R).at Q)) ((line P R).div ((line P R).at Q)))
    (lprod ((line Q R).div ((line Q R).at P)) ((line P Q).div ((line P Q).at R)))
theorem at1 (P Q R : Pt) : (line P R).at Q = 0 - (line Q R).at P := by
  unfold Ln.at line
  grind
theorem at2 (P Q R : Pt) : (line P Q).at R = (line Q R).at P := by
  unfold Ln.at line
  grind
theorem dot_lprod (l m : Ln) (p : Pt) : dot (lprod l m) (terms p) = l.at p * m.at p := by
  show l.a * m.a * (p.1 * p.1) + ((l.a * m.b + l.b * m.a) * (p.1 * p.2) + (l.b * m.b * (p.2 * p.2) + ((l.a * m.c + l.c * m.a) * p.1 + ((l.b * m.c + l.c * m.b) * p.2 + (l.c * m.c * 1 + 0))))) = (l.a * p.1 + l.b * p.2 + l.c) * (m.a * p.1 + m.b * p.2 + m.c)
  grind
theorem dot_zip {f g : Rat} : ∀ {x y v : List Rat}, x.length = y.length → dot (List.zipWith (fun a b => f * a - g * b) x y) v = f * dot x v - g * dot y v
  | [], [], v, _ => by
    show dot [] v = f * dot [] v - g * dot [] v
    cases v <;> (show (0 : Rat) = f * 0 - g * 0; grind)
  | a :: x, b :: y, [], _ => by show (0 : Rat) = f * 0 - g * 0; grind
  | a :: x, b :: y, c :: v, h => by
    have ih := dot_zip (f := f) (g := g) (x := x) (y := y) (v := v) (by simpa using h)
    show (f * a - g * b) * c + dot (List.zipWith (fun a b => f * a - g * b) x y) v = f * (a * c + dot x v) - g * (b * c + dot y v)
    rw [ih]
    grind
theorem dot_eqv (P Q R : Pt) (u v w : Rat) (p : Pt) : dot (eqv P Q R u v w) (terms p) = u * w * (((line P R).div ((line P R).at Q)).at p * ((line P R).div ((line P R).at Q)).at p) - 4 * (v * v) * (((line Q R).div ((line Q R).at P)).at p * ((line P Q).div ((line P Q).at R)).at p) := by
  unfold eqv
  rw [dot_zip (by rfl), dot_lprod, dot_lprod]
theorem div_at (l : Ln) (h : Rat) (p : Pt) : (l.div h).at p = l.at p / h := by
  unfold Ln.div Ln.at
  rw [Rat.div_def, Rat.div_def, Rat.div_def, Rat.div_def]
  grind
theorem line_at_l (p q : Pt) : (line p q).at p = 0 := by
  unfold line Ln.at
  grind
theorem line_at_r (p q : Pt) : (line p q).at q = 0 := by
  unfold line Ln.at
  grind
theorem eqv_len (P Q R : Pt) (u v w : Rat) : (eqv P Q R u v w).length = 6 := rfl
theorem eqv_nz {P Q R : Pt} {u v w : Rat} (h : (line Q R).at P ≠ 0) (hu : u ≠ 0) (hw : w ≠ 0) : ∃ q ∈ eqv P Q R u v w, q ≠ 0 := by
  refine Decidable.byContradiction fun hn => ?_
  have h0 : ∀ q ∈ eqv P Q R u v w, q = 0 := fun q hq => Decidable.byContradiction fun z => hn ⟨q, hq, z⟩
  have d := dot_eqv P Q R u v w Q
  rw [div_at, div_at, div_at, line_at_l] at d
  have hq : (line P R).at Q ≠ 0 := by rw [at1]; grind
  have z : dot (eqv P Q R u v w) (terms Q) = 0 := by
    have key : ∀ (l m : List Rat), (∀ q ∈ l, q = 0) → dot l m = 0 := by
      intro l
      induction l with
      | nil => intro m _; cases m <;> rfl
      | cons a l ih =>
        intro m hm
        cases m with
        | nil => rfl
        | cons b m =>
          show a * b + dot l m = 0
          rw [hm a List.mem_cons_self, ih m fun q hq => hm q (List.mem_cons_of_mem _ hq)]
          grind
    exact key _ _ h0
  rw [z] at d
  have e1 : (line P R).at Q / (line P R).at Q = 1 := by rw [Rat.div_def]; exact Rat.mul_inv_cancel _ hq
  rw [e1] at d
  have : u * w = 0 := by
    have e2 : (0 : Rat) / (line Q R).at P = 0 := by rw [Rat.div_def, Rat.zero_mul]
    rw [e2] at d
    grind
  rcases Rat.mul_eq_zero.mp this with z | z
  · exact hu z
  · exact hw z
/-- a line at the point of a weighted row -/
theorem at_cpt (l : Ln) (P Q R : Pt) {u v w t : Rat} (hW : lad u v w t ≠ 0) : l.at (cpt P Q R u v w t) * lad u v w t = (1 - t) * (1 - t) * u * l.at P + 2 * t * (1 - t) * v * l.at Q + t * t * w * l.at R := by
  have c1 : (cpt P Q R u v w t).1 * lad u v w t = lad (u * P.1) (v * Q.1) (w * R.1) t := Rat.div_mul_cancel hW
  have c2 : (cpt P Q R u v w t).2 * lad u v w t = lad (u * P.2) (v * Q.2) (w * R.2) t := Rat.div_mul_cancel hW
  generalize cpt P Q R u v w t = p at c1 c2 ⊢
  have e : l.at p * lad u v w t = l.a * (p.1 * lad u v w t) + l.b * (p.2 * lad u v w t) + l.c * lad u v w t := by
    unfold Ln.at
    grind
  rw [e, c1, c2, lad_eq, lad_eq, lad_eq]
  unfold Ln.at
  grind
theorem eqv_cpt {P Q R : Pt} {u v w t : Rat} (h : (line Q R).at P ≠ 0) (hW : lad u v w t ≠ 0) : dot (eqv P Q R u v w) (terms (cpt P Q R u v w t)) = 0 := by
  have a0 := at_cpt (line Q R) P Q R hW
  have a1 := at_cpt (line P R) P Q R hW
  have a2 := at_cpt (line P Q) P Q R hW
  rw [line_at_l, line_at_r] at a0 a1 a2
  rw [dot_eqv, div_at, div_at, div_at]
  have h1 := at1 P Q R
  have h2 := at2 P Q R
  generalize cpt P Q R u v w t = p at a0 a1 a2 ⊢
  generalize lad u v w t = W at *
  generalize (line Q R).at P = D at *
  generalize (line P R).at Q = D1 at *
  generalize (line P Q).at R = D2 at *
  have h2' := h2.symm
  subst h1 h2'
  generalize (line Q R).at p = z0 at *
  generalize (line P R).at p = z1 at *
  generalize (line P Q).at p = z2 at *
  have hWW : W * W ≠ 0 := fun z => by
    rcases Rat.mul_eq_zero.mp z with q | q <;> exact hW q
  have hD1 : (0 - D) ≠ 0 := by grind
  have b0 : (z0 / D) * W = (1 - t) * (1 - t) * u := by grind
  have b1 : (z1 / (0 - D)) * W = 2 * t * (1 - t) * v := by
    have q : z1 / (0 - D) * (0 - D) = z1 := Rat.div_mul_cancel hD1
    generalize z1 / (0 - D) = y at q ⊢
    grind
  have b2 : (z2 / D) * W = t * t * w := by grind
  generalize z0 / D = y0 at *
  generalize z1 / (0 - D) = y1 at *
  generalize z2 / D = y2 at *
  have e : (u * w * (y1 * y1) - 4 * (v * v) * (y0 * y2)) * (W * W) = 0 := by
    have : (u * w * (y1 * y1) - 4 * (v * v) * (y0 * y2)) * (W * W) = u * w * ((y1 * W) * (y1 * W)) - 4 * (v * v) * ((y0 * W) * (y2 * W)) := by grind
    rw [this, b0, b1, b2]
    grind
  rcases Rat.mul_eq_zero.mp e with q | q
  · exact q
  · exact absurd q hWW
end K54
/-! own rules: zip and enumerate of lists and tuples in any mix, // by a great divisor of any sign -/
namespace K54
open PySem PySem.Spec PyProof.Rows L2

/-- a list (true) or a tuple (false) that is read -/
def SqX (k : Bool) (K : PySem.W.Frag) (H : Hp) (a : Addr) (xs : List V) : Prop := if k = true then SqL K H a xs else SqT K H a xs
/-- an iterator of the one or the other kind -/
def ItX (k : Bool) (h : Heap) (it a : Addr) (i : Nat) : Prop := if k = true then h.IsListIter it a i else h.IsTupleIter it a i
def OfX (k : Bool) (h : Heap) (a : Addr) (its : Array Value) : Prop := if k = true then h.IsList a its else h.IsTuple a its
theorem sqx_read {X : Cx} {pins : List (Addr × Obj)} {σ : L2.St} {H : Hp} {s : Shared} {k : Bool} {a : Addr} {xs : List V} (I : Inv X pins σ H s) (h : SqX k X.K H a xs) :
    ∃ its : List Value, Vals xs its ∧ OfX k s.heap a its.toArray ∧ a < s.heap.objs.size := by
  cases k with
  | true =>
    obtain ⟨its, r, p, _⟩ := I.list h
    exact ⟨its, r, p.isList, p.lt⟩
  | false =>
    obtain ⟨its, r, p, _⟩ := I.tuple h
    exact ⟨its, r, p, p.lt⟩
theorem sqx_inj {X : Cx} {pins : List (Addr × Obj)} {σ : L2.St} {H : Hp} {s : Shared} {k : Bool} {a : Addr} {xs ys : List V} (I : Inv X pins σ H s) (h : SqX k X.K H a xs) (h' : SqX k X.K H a ys) : xs = ys := by
  cases k with
  | true => exact I.list_inj h h'
  | false => exact I.tuple_inj h h'
theorem drawsX {prog : Program} {w : World} {A : Around} (hh : A.handled = none) (k : Bool) (it l : Addr) (hne : l ≠ it) (items : Array Value) :
    Draws prog w A it [it, l] items.size (fun i v => items[i]? = some v) (fun i h => ItX k h it l i ∧ OfX k h l items) := by
  cases k with
  | true => exact Draws.list hh it l hne items
  | false => exact Draws.tuple hh it l hne items
def objX (k : Bool) (a : Addr) : Obj := if k = true then { cls := .type "list_iterator", data := .fields #[.ref a, .int 0 0] } else { cls := .type "tuple_iterator", data := .fields #[.ref a, .int 0 0] }
theorem beginsX (k : Bool) (a : Addr) (items : Array Value) : Begins (.ref a) (objX k a) fun h => OfX k h a items := by
  cases k with
  | true => exact begins_list a items
  | false => exact begins_tuple a items
theorem itx_obj {k : Bool} {h : Heap} {it a : Addr} {i : Nat} (x : ItX k h it a i) : ∃ o, h.get? it = some o ∧ ∀ v, o.data ≠ .cell v := by
  cases k with
  | true =>
    obtain ⟨o, e, _, d⟩ := (show h.IsListIter it a i from x)
    exact ⟨o, e, fun v z => by rw [d] at z; cases z⟩
  | false =>
    obtain ⟨o, e, _, d⟩ := (show h.IsTupleIter it a i from x)
    exact ⟨o, e, fun v z => by rw [d] at z; cases z⟩
theorem itx_at {k : Bool} {h h' : Heap} {it a : Addr} {i : Nat} (x : ItX k h it a i) (e : ∀ o, h.get? it = some o → h'.get? it = some o) : ItX k h' it a i := by
  cases k with
  | true => exact Heap.IsListIter.at (show h.IsListIter it a i from x) e
  | false => exact Heap.IsTupleIter.at (show h.IsTupleIter it a i from x) e
theorem itx_new {k : Bool} {h : Heap} {it a : Addr} (e : h.get? it = some (objX k a)) : ItX k h it a 0 := by
  cases k with
  | true => exact ⟨_, e, rfl, rfl⟩
  | false => exact ⟨_, e, rfl, rfl⟩
/-- the items at a and b in new pairs -/
def ItzX (k1 k2 : Bool) (K : PySem.W.Frag) (a b : Addr) : It :=
  ⟨fun i H => ∃ (xs ys : List V) (x y : V), SqX k1 K H a xs ∧ SqX k2 K H b ys ∧ xs[i]? = some x ∧ ys[i]? = some y ∧ xs.length = ys.length,
    fun i H v H' => ∃ T x y, v = .ref T ∧ H T = none ∧ H' = upd H T (.tup [x, y]) ∧ (∀ xs, SqX k1 K H a xs → xs[i]? = some x) ∧ ∀ ys, SqX k2 K H b ys → ys[i]? = some y,
    fun i H => ∃ xs ys : List V, SqX k1 K H a xs ∧ SqX k2 K H b ys ∧ xs.length = i ∧ ys.length = i⟩
theorem turn_zipX {P : Program} {w : World} {K : PySem.W.Frag} {elts : List Expr} {kk : Nat} {tpos : Pos} {k1 k2 : Bool} {a b : Addr} {N : Nat} (ha : a < N) (hb : b < N) :
    Turn P w K (.Tuple elts kk tpos) (ItzX k1 k2 K a b) [N + 4, N + 2, N + 3, N, N + 1] (N + 4)
      (fun i h => IsZip h (N + 4) (N + 2) (N + 3) .none ∧ IsTupOf2 h (N + 2) (.ref N) (.ref (N + 1)) ∧ (∃ x y, IsTupOf2 h (N + 3) x y) ∧ ItX k1 h N a i ∧ ItX k2 h (N + 1) b i) where
  mem := by simp
  obj := fun i h st c hc => by
    obtain ⟨hz, hTI, ⟨x, y, hTO⟩, h1, h2⟩ := st
    have e' : c = N + 4 ∨ c = N + 2 ∨ c = N + 3 ∨ c = N ∨ c = N + 1 := by simpa using hc
    rcases e' with q | q | q | q | q
    · rw [q]; exact ⟨_, hz, fun v q => nomatch q⟩
    · rw [q]; exact ⟨_, hTI, fun v q => nomatch q⟩
    · rw [q]; exact ⟨_, hTO, fun v q => nomatch q⟩
    · rw [q]; exact itx_obj h1
    · rw [q]; exact itx_obj h2
  keep := fun i h h' st k => by
    obtain ⟨hz, hTI, ⟨x, y, hTO⟩, h1, h2⟩ := st
    exact ⟨k (N + 4) (by simp) _ hz, k (N + 2) (by simp) _ hTI, ⟨x, y, k (N + 3) (by simp) _ hTO⟩, itx_at h1 fun o q => k N (by simp) o q, itx_at h2 fun o q => k (N + 1) (by simp) o q⟩
  item := by
    intro X hP hw hK hc i pins s σ H E I hf st hg
    subst hP hw hK
    obtain ⟨hz, hTI, ⟨x0, y0, hTO⟩, h1, h2⟩ := st
    obtain ⟨xs, ys, x, y, hqx, hqy, hx, hy, hll⟩ := hg
    obtain ⟨its, rv, p, _⟩ := sqx_read I hqx
    obtain ⟨its2, rv2, p2, _⟩ := sqx_read I hqy
    obtain ⟨u, hu, ru⟩ := rv.get hx
    obtain ⟨u2, hu2, ru2⟩ := rv2.get hy
    have ne1 : a ≠ N := Nat.ne_of_lt ha
    have ne2 : b ≠ N + 1 := Nat.ne_of_lt (Nat.lt_succ_of_lt hb)
    have S : ZipSep2 (N + 4) (N + 2) (N + 3) N (N + 1) [N, a] [N + 1, b] := zip_sep2 (fp1 := [a]) (fp2 := [b]) (fun c hc => by rw [List.mem_singleton.mp hc]; exact ha) (fun c hc => by rw [List.mem_singleton.mp hc]; exact hb)
    have W := GoesN.zip2 (prog := X.prog) (w := X.w) (A := X.A) (elts := elts) (x1 := kk) (pos := tpos) S (drawsX (A := X.A.in1) (show X.A.in1.handled = none from I.ok.hd hc) k1 N a ne1 its.toArray) (drawsX (A := X.A.in1) (show X.A.in1.handled = none from I.ok.hd hc) k2 (N + 1) b ne2 its2.toArray)
    have hlt : i < min its.toArray.size its2.toArray.size := by
      have l1 := (List.getElem?_eq_some_iff.mp hu).1
      have l2 := (List.getElem?_eq_some_iff.mp hu2).1
      simp only [List.size_toArray]
      omega
    refine wpAny_mono (W.goes i s (fun v s2 => ∃ x' H', Inv X pins σ H' s2 ∧ RelV x' v ∧ (ItzX k1 k2 X.K a b).yld i H x' H' ∧
      (IsZip s2.heap (N + 4) (N + 2) (N + 3) .none ∧ IsTupOf2 s2.heap (N + 2) (.ref N) (.ref (N + 1)) ∧ (∃ x y, IsTupOf2 s2.heap (N + 3) x y) ∧ ItX k1 s2.heap N a (i + 1) ∧ ItX k2 s2.heap (N + 1) b (i + 1)) ∧ ∀ b ∈ [N + 4, N + 2, N + 3, N, N + 1], H' b = none) E hlt
      ⟨hz, hTI, ⟨x0, y0, hTO⟩, ⟨h1, p⟩, ⟨h2, p2⟩⟩ fun v h' tk hY st' hk htk => ?_) (fun r s1 hr => hr) fun _ _ e => e
    obtain ⟨T, u', u2', rfl, hT, q1, q2, hTup⟩ := hY
    obtain ⟨hz', hTI', hTO', ⟨h1', _⟩, ⟨h2', _⟩⟩ := st'
    have eu : u' = u := by
      have q1' : its[i]? = some u' := by simpa using q1
      exact Option.some.inj (q1'.symm.trans hu)
    have eu2 : u2' = u2 := by
      have q2' : its2[i]? = some u2' := by simpa using q2
      exact Option.some.inj (q2'.symm.trans hu2)
    subst eu eu2
    have new : ObjOk X.prog X.w (upd H T (.tup [x, y])) h' T (.tup [x, y]) := ⟨by show 2 ≤ sizeLine; decide, [u', u2'], .cons ru (.cons ru2 .nil), hTup⟩
    have I1 : Inv X pins σ (upd H T (.tup [x, y])) { s with heap := h', toks := tk } :=
      I.turnedNew (ch := [N + 4, N + 2, N + 3, N, N + 1]) (fun c o hb q => hk c o (fun hm => hb (by
        have hm' : c = N + 4 ∨ c = N + 3 ∨ c = N ∨ c = N + 1 := by simpa using hm
        rcases hm' with z | z | z | z <;> simp [z])) q) hf hT new
    refine ⟨.ref T, _, I1, rfl, ⟨T, x, y, rfl, I.hok.fresh hT, rfl, fun l hl => by rw [sqx_inj I hl hqx]; exact hx, fun l hl => by rw [sqx_inj I hl hqy]; exact hy⟩, ⟨hz', hTI', hTO', h1', h2'⟩, fun c hcm => ?_⟩
    have hlt : c < s.heap.objs.size := by
      have e' : c = N + 4 ∨ c = N + 2 ∨ c = N + 3 ∨ c = N ∨ c = N + 1 := by simpa using hcm
      rcases e' with q | q | q | q | q
      · rw [q]; exact Heap.lt_size hz
      · rw [q]; exact Heap.lt_size hTI
      · rw [q]; exact Heap.lt_size hTO
      · rw [q]; obtain ⟨_, e1, _⟩ := itx_obj h1; exact Heap.lt_size e1
      · rw [q]; obtain ⟨_, e2, _⟩ := itx_obj h2; exact Heap.lt_size e2
    rw [upd_ne (Nat.ne_of_lt (Nat.lt_of_lt_of_le hlt hT))]
    exact (hf c hcm).1
  done := by
    intro X hP hw hK hc i pins s σ H E I hf st hg
    subst hP hw hK
    obtain ⟨hz, hTI, ⟨x0, y0, hTO⟩, h1, h2⟩ := st
    obtain ⟨xs, ys, hqx, hqy, e1, e2⟩ := hg
    obtain ⟨its, rv, p, _⟩ := sqx_read I hqx
    obtain ⟨its2, rv2, p2, _⟩ := sqx_read I hqy
    have l1 := rv.length
    have l2 := rv2.length
    have ne1 : a ≠ N := Nat.ne_of_lt ha
    have ne2 : b ≠ N + 1 := Nat.ne_of_lt (Nat.lt_succ_of_lt hb)
    have S : ZipSep2 (N + 4) (N + 2) (N + 3) N (N + 1) [N, a] [N + 1, b] := zip_sep2 (fp1 := [a]) (fp2 := [b]) (fun c hc => by rw [List.mem_singleton.mp hc]; exact ha) (fun c hc => by rw [List.mem_singleton.mp hc]; exact hb)
    have W := GoesN.zip2 (prog := X.prog) (w := X.w) (A := X.A) (elts := elts) (x1 := kk) (pos := tpos) S (drawsX (A := X.A.in1) (show X.A.in1.handled = none from I.ok.hd hc) k1 N a ne1 its.toArray) (drawsX (A := X.A.in1) (show X.A.in1.handled = none from I.ok.hd hc) k2 (N + 1) b ne2 its2.toArray)
    have hn : min its.toArray.size its2.toArray.size = i := by
      simp only [List.size_toArray]
      omega
    rw [hn] at W
    refine wpAny_mono (W.stops s (fun s1 => Inv X pins σ H s1) E ⟨hz, hTI, ⟨x0, y0, hTO⟩, ⟨h1, p⟩, ⟨h2, p2⟩⟩ fun h' tk hk htk => ?_) (fun r s1 hr => hr) fun _ _ e => e
    exact I.turnedL (ch := [N + 4, N + 2, N + 3, N, N + 1]) (fun c o hb q => hk c o (fun hm => hb (by
        have hm' : c = N + 4 ∨ c = N + 3 ∨ c = N ∨ c = N + 1 := by simpa using hm
        rcases hm' with z | z | z | z <;> simp [z])) q) hf
  self := fun A i s Q E st h => wpAny_pyIter_zip st.1 h
def iZipX (k1 k2 : Bool) (K : PySem.W.Frag) (ta : TA) : TI := fun σ H R => ta σ H fun vs H1 => ∃ a b xs ys, vs = [.ref a, .ref b] ∧ SqX k1 K H1 a xs ∧ SqX k2 K H1 b ys ∧ R (ItzX k1 k2 K a b) H1
theorem pi_zipX (k1 k2 : Bool) {X : Cx} {e e2 : Expr} {ta : TA} {p pos tpos : Pos} {elts : List Expr} {kk : Nat} (hg : Gl X "zip") (hm : X.mg "zip" = none) (ha : PA X [e, e2] ta)
    (hs : starEach [e, e2] X.env = (false, eval e X.env) :: starEach [e2] X.env := by rfl) (hpl : (backTo pos (starEach [e2] X.env)).any (·.1) = false := by rfl) :
    PI X (.Tuple elts kk tpos) (.Call (.Name "zip" p) [e, e2] [] pos) (iZipX k1 k2 X.K ta) := by
  refine ⟨fun pins s σ H R I h => ?_⟩
  refine Call_ (ld_blt I hg hm PyProof.Rows.boot_zip (PyProof.Rows.callWith_type1 (thn (ha.run pos pins s σ H _ I h) fun us s1 ⟨vs, H1, I1, r1, q1⟩ => ?_) hs hpl))
  obtain ⟨a, b, xs, ys, ex, hqx, hqy, q⟩ := q1
  subst ex
  cases r1 with
  | cons r rr =>
    cases rr with
    | cons r' rr =>
      cases rr
      cases r
      cases r'
      obtain ⟨its, rv, p1, l1⟩ := sqx_read I1 hqx
      obtain ⟨its2, rv2, p2, l2⟩ := sqx_read I1 hqy
      refine zip_begins2 (beginsX k1 a its.toArray) (beginsX k2 b its2.toArray) p1 p2 fun h' hz hTI hTO h1 h2 hsz hk => wpAny_pyIter_zip hz ?_
      have I2 : Inv X pins σ H1 { s1 with heap := h' } := I1.kept (t' := s1.toks) hk
      refine ⟨s1.heap.objs.size + 4, [s1.heap.objs.size + 4, s1.heap.objs.size + 2, s1.heap.objs.size + 3, s1.heap.objs.size, s1.heap.objs.size + 1], _, _, H1, rfl, I2, turn_zipX l1 l2, ⟨hz, hTI, ⟨_, _, hTO⟩, itx_new h1, itx_new h2⟩, fun c hcm => ?_, q⟩
      have e' : c = s1.heap.objs.size + 4 ∨ c = s1.heap.objs.size + 2 ∨ c = s1.heap.objs.size + 3 ∨ c = s1.heap.objs.size ∨ c = s1.heap.objs.size + 1 := by simpa using hcm
      have hle : s1.heap.objs.size ≤ c := by
        rcases e' with z | z | z | z | z
        · rw [z]; exact Nat.le_add_right _ _
        · rw [z]; exact Nat.le_add_right _ _
        · rw [z]; exact Nat.le_add_right _ _
        · rw [z]; exact Nat.le_refl _
        · rw [z]; exact Nat.le_add_right _ _
      exact I1.fpOk hle (I1.hok.fresh hle)
theorem walk_zipX {k1 k2 : Bool} {K : PySem.W.Frag} {a b : Addr} {xs ys : List V} {n : Nat} (h1 : xs.length = n) (h2 : ys.length = n) : Walk (ItzX k1 k2 K a b) n (fun H => SqX k1 K H a xs ∧ SqX k2 K H b ys) (YPair (fun i => xs[i]?) (fun i => ys[i]?)) := by
  refine ⟨fun i _ hi q => ?_, fun _ q => ⟨xs, ys, q.1, q.2, h1, h2⟩, fun i H v H' _ q y => ?_⟩
  · have l1 : i < xs.length := by omega
    have l2 : i < ys.length := by omega
    exact ⟨xs, ys, xs[i], ys[i], q.1, q.2, by simp [l1], by simp [l2], h1.trans h2.symm⟩
  · obtain ⟨T, x, z, e1, e2, e3, e4, e5⟩ := y
    exact ⟨T, x, z, e1, e2, e3, e4 xs q.1, e5 ys q.2⟩
/-! // of great numbers -/
section
variable {X : Cx}
def CDivNW (_ j : Int) : Prop := j ≠ 0 ∧ j.natAbs.log2 < 9000
theorem op_fdivNW : OpR X (binaryOp .FloorDiv) (rI CDivNW fun i j => .int (i.fdiv j)) := opI fun _ _ _ _ _ _ _ hc q => floordiv_int hc.1 q (.inl (PyProof.noPylong_of_log2 hc.2))
end
theorem nw_div {i j : Int} {b : Nat} (h : j ≠ 0) (hb : j.natAbs < 2 ^ b) (h0 : 0 < b) (h9 : b ≤ 9000) : CDivNW i j := ⟨h, Nat.lt_of_lt_of_le (PySem.Flt.log2_lt_of h0 hb) h9⟩
end K54
namespace K54
open PySem PySem.Spec PyProof.Rows L2
theorem meets_enum_new1 {v : Value} {o : Obj} {H : Heap → Prop} (B : Begins v o H) :
    Meets (Builtin.«enumerate.__new__» ⟨[.type "enumerate", v], []⟩) (fun _ R s => H s.heap ∧
      R (.ok (.ret (.ref (s.heap.push o).objs.size))) { s with heap := (s.heap.push o).push { cls := .type "enumerate", data := .fields #[.none, .bool false, .ref s.heap.objs.size, rawInt 0, .none, .none] } }) :=
  .of_wp fun prog w A R s h => by
    obtain ⟨hp, g, d, tk, os⟩ := s; obtain ⟨h1, h⟩ := h
    have hsub := sub_enumerate
    have q1 : ∀ {A' : Around} {E : Value → Shared → Prop} {Q : Value → Shared → Prop}, Q (.ref hp.objs.size) ⟨hp.push o, g, d, tk, os⟩ → wpAny (model prog w) A' (pyIter v) Q E ⟨hp, g, d, tk, os⟩ :=
      fun q => B.iter prog w _ _ ⟨hp, g, d, tk, os⟩ _ h1 q
    wp_walk using q1
    refine wpAny_stack_any fun st => wpAny_pure ?_
    split
    · rename_i c _ _ _ _ _
      cases (c == Value.type "enumerate")
      · wp_walk using q1
        exact ⟨_, rfl, h⟩
      · wp_walk using q1
        exact ⟨_, rfl, h⟩
    · wp_walk using q1
      exact ⟨_, rfl, h⟩
theorem enum_begins1 {prog : Program} {w : World} {A : Around} {E : Value → Shared → Prop} {s : Shared} {v : Value} {o : Obj} {H : Heap → Prop} {Q : Value → Shared → Prop} (B : Begins v o H) (h1 : H s.heap)
    (h : ∀ h', IsEnum h' (s.heap.objs.size + 1) s.heap.objs.size 0 .none → h'.get? s.heap.objs.size = some o → h'.objs.size = s.heap.objs.size + 2 →
      (∀ b o, s.heap.get? b = some o → h'.get? b = some o) → Q (.ref (s.heap.objs.size + 1)) { s with heap := h' }) :
    wpAny (model prog w) A (call (.type "enumerate") [v]) Q E s := by
  refine callType_new F.called_enumerate (by decide) (F.typeCall_enumerate_1 _) (F.newCall_enumerate_1 _) (fun obj => F.args_object_init_2 obj _) F.entry_enumerate_new
    (meets_enum_new1 B) ⟨h1, ?_⟩
  have hz : (s.heap.push o).objs.size = s.heap.objs.size + 1 := Heap.size_push ..
  show _ ∧ _
  rw [hz]
  have he : IsEnum ((s.heap.push o).push { cls := .type "enumerate", data := .fields #[.none, .bool false, .ref s.heap.objs.size, rawInt 0, .none, .none] }) (s.heap.objs.size + 1) s.heap.objs.size 0 .none := by
    have := Heap.get?_push_size (s.heap.push o) (o := { cls := .type "enumerate", data := .fields #[.none, .bool false, .ref s.heap.objs.size, rawInt 0, .none, .none] }) rfl
    rw [hz] at this; exact this
  refine ⟨⟨_, he, rfl⟩, h _ he (Heap.get?_push_of_some _ (Heap.get?_push_size _ B.free)) (by rw [Heap.size_push, hz]) fun b o x => Heap.get?_push_of_some _ (Heap.get?_push_of_some _ x)⟩
def IteX (k : Bool) (K : PySem.W.Frag) (a : Addr) : It :=
  ⟨fun i H => ∃ (xs : List V) (x : V), SqX k K H a xs ∧ xs[i]? = some x, fun i H v H' => ∃ T x, v = .ref T ∧ H T = none ∧ H' = upd H T (.tup [.int (i : Nat), x]) ∧ ∀ xs, SqX k K H a xs → xs[i]? = some x, fun i H => ∃ xs : List V, SqX k K H a xs ∧ xs.length = i⟩
theorem turn_enumX {P : Program} {w : World} {K : PySem.W.Frag} {elts : List Expr} {kk : Nat} {tpos : Pos} {k : Bool} {a : Addr} {N : Nat} (ha : a < N) :
    Turn P w K (.Tuple elts kk tpos) (IteX k K a) [N + 1, N] (N + 1) (fun i h => (∃ old, IsEnum h (N + 1) N (0 + (i : Int)) old) ∧ ItX k h N a i) where
  mem := by simp
  obj := fun i h st c hc => by
    obtain ⟨⟨old, he⟩, h1⟩ := st
    have e' : c = N + 1 ∨ c = N := by simpa using hc
    rcases e' with q | q
    · rw [q]; exact ⟨_, he, fun v q => nomatch q⟩
    · rw [q]; exact itx_obj h1
  keep := fun i h h' st k => by
    obtain ⟨⟨old, he⟩, h1⟩ := st
    exact ⟨⟨old, k (N + 1) (by simp) _ he⟩, itx_at h1 fun o q => k N (by simp) o q⟩
  item := by
    intro X hP hw hK hc i pins s σ H E I hf st hg
    subst hP hw hK
    obtain ⟨⟨old, he⟩, h1⟩ := st
    obtain ⟨xs, x, hqx, hx⟩ := hg
    obtain ⟨its, rv, p, _⟩ := sqx_read I hqx
    obtain ⟨u, hu, ru⟩ := rv.get hx
    have ne1 : a ≠ N := Nat.ne_of_lt ha
    have ne2 : N + 1 ≠ N := Nat.succ_ne_self N
    have nf : N + 1 ∉ [N, a] := fun hm => by
      have hm' : N + 1 = N ∨ N + 1 = a := by simpa using hm
      rcases hm' with z | z
      · exact ne2 z
      · exact absurd ha (by rw [← z]; exact Nat.not_lt.mpr (Nat.le_succ N))
    have W := GoesN.enumFrom (prog := X.prog) (w := X.w) (A := X.A) (elts := elts) (x1 := kk) (pos := tpos) 0 (drawsX (A := X.A.in1) (show X.A.in1.handled = none from I.ok.hd hc) k N a ne1 its.toArray) (N + 1) ne2 nf (by simp)
    have hlt : i < its.toArray.size := by
      have l1 := (List.getElem?_eq_some_iff.mp hu).1
      simpa using l1
    refine wpAny_mono (W.goes i s (fun v s2 => ∃ x' H', Inv X pins σ H' s2 ∧ RelV x' v ∧ (IteX k X.K a).yld i H x' H' ∧
      ((∃ old, IsEnum s2.heap (N + 1) N (0 + ((i + 1 : Nat) : Int)) old) ∧ ItX k s2.heap N a (i + 1)) ∧ ∀ b ∈ [N + 1, N], H' b = none) E hlt
      ⟨⟨old, he⟩, ⟨h1, p⟩⟩ fun v h' tk hY st' hk htk => ?_) (fun r s1 hr => hr) fun _ _ e => e
    obtain ⟨T, t', u', rfl, hT, q1, hTup⟩ := hY
    obtain ⟨he', ⟨h1', _⟩⟩ := st'
    have eu : u' = u := by
      have q1' : its[i]? = some u' := by simpa using q1
      exact Option.some.inj (q1'.symm.trans hu)
    subst eu
    have new : ObjOk X.prog X.w (upd H T (.tup [.int (i : Nat), x])) h' T (.tup [.int (i : Nat), x]) := ⟨by show 2 ≤ sizeLine; decide, [.int (0 + (i : Int)) t', u'], .cons ⟨t', by rw [Int.zero_add]⟩ (.cons ru .nil), hTup⟩
    have I1 : Inv X pins σ (upd H T (.tup [.int (i : Nat), x])) { s with heap := h', toks := tk } :=
      I.turnedNew (ch := [N + 1, N]) (fun c o hb q => hk c o hb q) hf hT new
    refine ⟨.ref T, _, I1, rfl, ⟨T, x, rfl, I.hok.fresh hT, rfl, fun l hl => by rw [sqx_inj I hl hqx]; exact hx⟩, ⟨he', h1'⟩, fun c hcm => ?_⟩
    have hlt : c < s.heap.objs.size := by
      have e' : c = N + 1 ∨ c = N := by simpa using hcm
      rcases e' with q | q
      · rw [q]; exact Heap.lt_size he
      · rw [q]; obtain ⟨_, e1, _⟩ := itx_obj h1; exact Heap.lt_size e1
    rw [upd_ne (Nat.ne_of_lt (Nat.lt_of_lt_of_le hlt hT))]
    exact (hf c hcm).1
  done := by
    intro X hP hw hK hc i pins s σ H E I hf st hg
    subst hP hw hK
    obtain ⟨⟨old, he⟩, h1⟩ := st
    obtain ⟨xs, hqx, e1⟩ := hg
    obtain ⟨its, rv, p, _⟩ := sqx_read I hqx
    have l1 := rv.length
    have ne1 : a ≠ N := Nat.ne_of_lt ha
    have ne2 : N + 1 ≠ N := Nat.succ_ne_self N
    have nf : N + 1 ∉ [N, a] := fun hm => by
      have hm' : N + 1 = N ∨ N + 1 = a := by simpa using hm
      rcases hm' with z | z
      · exact ne2 z
      · exact absurd ha (by rw [← z]; exact Nat.not_lt.mpr (Nat.le_succ N))
    have W := GoesN.enumFrom (prog := X.prog) (w := X.w) (A := X.A) (elts := elts) (x1 := kk) (pos := tpos) 0 (drawsX (A := X.A.in1) (show X.A.in1.handled = none from I.ok.hd hc) k N a ne1 its.toArray) (N + 1) ne2 nf (by simp)
    have hn : its.toArray.size = i := by
      simp only [List.size_toArray]
      omega
    rw [hn] at W
    refine wpAny_mono (W.stops s (fun s1 => Inv X pins σ H s1) E ⟨⟨old, he⟩, ⟨h1, p⟩⟩ fun h' tk hk htk => ?_) (fun r s1 hr => hr) fun _ _ e => e
    exact I.turnedL (ch := [N + 1, N]) (fun c o hb q => hk c o hb q) hf
  self := fun A i s Q E st h => by
    obtain ⟨⟨old, he⟩, _⟩ := st
    exact wpAny_pyIter_enum he h
def iEnumX (k : Bool) (K : PySem.W.Frag) (ta : TA) : TI := fun σ H R => ta σ H fun vs H1 => ∃ a xs, vs = [.ref a] ∧ SqX k K H1 a xs ∧ R (IteX k K a) H1
theorem pi_enumX (k : Bool) {X : Cx} {e : Expr} {ta : TA} {p pos tpos : Pos} {elts : List Expr} {kk : Nat} (hg : Gl X "enumerate") (hm : X.mg "enumerate" = none) (ha : PA X [e] ta)
    (hs : starEach [e] X.env = [(false, eval e X.env)] := by rfl) :
    PI X (.Tuple elts kk tpos) (.Call (.Name "enumerate" p) [e] [] pos) (iEnumX k X.K ta) := by
  refine ⟨fun pins s σ H R I h => ?_⟩
  refine Call_ (ld_blt I hg hm boot_enumerate (PyProof.Rows.callWith_type1 (thn (ha.run pos pins s σ H _ I h) fun us s1 ⟨vs, H1, I1, r1, q1⟩ => ?_) hs rfl))
  obtain ⟨a, xs, ex, hq, q⟩ := q1
  subst ex
  cases r1 with
  | cons r rr =>
    cases rr
    cases r
    obtain ⟨its, rv, p1, l1⟩ := sqx_read I1 hq
    refine enum_begins1 (beginsX k a its.toArray) p1 fun h' he hit hsz hk => wpAny_pyIter_enum he ?_
    have I2 : Inv X pins σ H1 { s1 with heap := h' } := I1.kept (t' := s1.toks) hk
    refine ⟨s1.heap.objs.size + 1, [s1.heap.objs.size + 1, s1.heap.objs.size], _, _, H1, rfl, I2, turn_enumX l1, ⟨⟨.none, he⟩, itx_new hit⟩, fun b hb => ?_, q⟩
    have e' : b = s1.heap.objs.size + 1 ∨ b = s1.heap.objs.size := by simpa using hb
    have hle : s1.heap.objs.size ≤ b := by
      rcases e' with z | z
      · rw [z]; exact Nat.le_add_right _ _
      · rw [z]; exact Nat.le_refl _
    exact I1.fpOk hle (I1.hok.fresh hle)
theorem walk_enumX {k : Bool} {K : PySem.W.Frag} {a : Addr} {xs : List V} {n : Nat} (h1 : xs.length = n) : Walk (IteX k K a) n (fun H => SqX k K H a xs) (YPair (fun i => some (.int (i : Nat))) (fun i => xs[i]?)) := by
  refine ⟨fun i _ hi q => ?_, fun _ q => ⟨xs, q, h1⟩, fun i H v H' _ q y => ?_⟩
  · have l1 : i < xs.length := by omega
    exact ⟨xs, xs[i], q, by simp [l1]⟩
  · obtain ⟨T, x, e1, e2, e3, e4⟩ := y
    exact ⟨T, .int (i : Nat), x, e1, e2, e3, rfl, e4 xs q⟩
end K54
namespace K54
open PySem PySem.Spec PyProof.Rows L2
/-! ### what is said of values: kept where tuples stay -/
def TKp (H H' : Hp) : Prop := ∀ b o, H b = some o → ((∃ xs, o = .tup xs) ∨ ∃ u w, o = .frz u w) → H' b = some o
theorem TKp.refl (H : Hp) : TKp H H := fun _ _ e _ => e
theorem TKp.trans {H H1 H2 : Hp} (a : TKp H H1) (b : TKp H1 H2) : TKp H H2 := fun c o e h => b c o (a c o e h) h
theorem TKp.same {H H' : Hp} (a : Same H H') : TKp H H' := fun b o e _ => a b o e
theorem TKp.set {H : Hp} {l : Addr} {xs ys : List V} (h : H l = some (.lst xs)) : TKp H (upd H l (.lst ys)) := fun b o e k => by
  have : b ≠ l := fun z => by
    subst z
    rw [h] at e
    cases e
    rcases k with ⟨_, z⟩ | ⟨_, _, z⟩ <;> cases z
  rw [upd_ne this]
  exact e
theorem same_new {H : Hp} {p : Addr} {o : HO} (h : H p = none) : Same H (upd H p o) := fun b x e => by
  rw [upd_ne (ne_of_none e h)]
  exact e
/-- H' holds all of H, what is at p (unknown to H) may change -/
theorem same_mut {H H' : Hp} {p : Addr} {o : HO} (e : Same H H') (h : H p = none) : Same H (upd H' p o) := fun b x q => by
  rw [upd_ne (ne_of_none q h)]
  exact e b x q
structure MP where
  p : V → Hp → Prop
  mono : ∀ v H H', TKp H H' → p v H → p v H'
def AllP : List MP → List V → Hp → Prop
  | [], [], _ => True
  | P :: Ps, v :: vs, H => P.p v H ∧ AllP Ps vs H
  | _, _, _ => False
theorem AllP.mono {H H' : Hp} (t : TKp H H') : ∀ {ps : List MP} {vs : List V}, AllP ps vs H → AllP ps vs H'
  | [], [], h => h
  | P :: ps, v :: vs, h => ⟨P.mono v H H' t h.1, AllP.mono t h.2⟩
  | [], _ :: _, h => h
  | _ :: _, [], h => h
theorem AllP.length {H : Hp} : ∀ {ps : List MP} {vs : List V}, AllP ps vs H → vs.length = ps.length
  | [], [], _ => rfl
  | P :: ps, v :: vs, h => by
    have := AllP.length h.2
    simp [this]
  | [], _ :: _, h => h.elim
  | _ :: _, [], h => h.elim
theorem AllP.get {H : Hp} : ∀ {ps : List MP} {vs : List V} {i : Nat} {P : MP}, AllP ps vs H → ps[i]? = some P → ∃ v, vs[i]? = some v ∧ P.p v H
  | P :: ps, v :: vs, 0, Q, h, e => by
    have e' : P = Q := Option.some.inj e
    subst e'
    exact ⟨v, rfl, h.1⟩
  | P :: ps, v :: vs, i + 1, Q, h, e => AllP.get (i := i) h.2 e
  | [], _, i, Q, h, e => by simp at e
  | _ :: _, [], i, Q, h, e => h.elim
theorem AllP.snoc {H : Hp} {Q : MP} {y : V} (hq : Q.p y H) : ∀ {ps : List MP} {vs : List V}, AllP ps vs H → AllP (ps ++ [Q]) (vs ++ [y]) H
  | [], [], _ => ⟨hq, trivial⟩
  | P :: ps, v :: vs, h => ⟨h.1, AllP.snoc hq h.2⟩
  | [], _ :: _, h => h.elim
  | _ :: _, [], h => h.elim
theorem AllP.set {H : Hp} {Q : MP} {y : V} (hq : Q.p y H) : ∀ {ps : List MP} {vs : List V} (i : Nat), AllP ps vs H → AllP (ps.set i Q) (vs.set i y) H
  | [], [], _, _ => trivial
  | P :: ps, v :: vs, 0, h => ⟨hq, h.2⟩
  | P :: ps, v :: vs, i + 1, h => ⟨h.1, AllP.set hq i h.2⟩
  | [], _ :: _, _, h => h.elim
  | _ :: _, [], _, h => h.elim
theorem AllP.mk {H : Hp} : ∀ {ps : List MP} {vs : List V}, vs.length = ps.length → (∀ (i : Nat) P v, ps[i]? = some P → vs[i]? = some v → P.p v H) → AllP ps vs H
  | [], [], _, _ => trivial
  | P :: ps, v :: vs, hl, h => ⟨h 0 P v rfl rfl, AllP.mk (by simpa using hl) fun i Q u e1 e2 => h (i + 1) Q u e1 e2⟩
  | [], _ :: _, hl, _ => by simp at hl
  | _ :: _, [], hl, _ => by simp at hl
theorem sqt_ts {K : PySem.W.Frag} {H H' : Hp} {a : Addr} {xs : List V} (t : TKp H H') (h : SqT K H a xs) : SqT K H' a xs := by
  rcases h with (h | ⟨o, h⟩) | h
  · exact .inl (.inl (t _ _ h (.inl ⟨_, rfl⟩)))
  · exact .inl (.inr ⟨o, t _ _ h (.inr ⟨_, _, rfl⟩)⟩)
  · exact .inr h
def EqM (v : V) : MP := ⟨fun x _ => x = v, fun _ _ _ _ h => h⟩
abbrev IM (i : Int) : MP := EqM (.int i)
abbrev BM (b : Bool) : MP := EqM (.bl b)
def Tp (K : PySem.W.Frag) (ps : List MP) : MP := ⟨fun v H => ∃ a xs, v = .ref a ∧ SqT K H a xs ∧ AllP ps xs H, fun _ _ _ t ⟨a, xs, e, s, h⟩ => ⟨a, xs, e, sqt_ts t s, h.mono t⟩⟩
/-- a ratio; a point; whole numbers -/
def RtM (K : PySem.W.Frag) (q : Rat) : MP := Tp K [IM q.num, IM q.den]
def PtM (K : PySem.W.Frag) (p : Pt) : MP := Tp K [RtM K p.1, RtM K p.2]
def NsM (K : PySem.W.Frag) (w : List Int) : MP := Tp K (w.map fun z => IM z)

/-! ### evaluations -/
def G (te : TE) (σ : L2.St) (H : Hp) (P : MP) : Prop := ∀ H1, Same H H1 → ∀ Q : VK, (∀ v H2, Same H1 H2 → P.p v H2 → Q v H2) → te σ H1 Q
def GL (te : TE) (σ : L2.St) (H : Hp) (ps : List MP) : Prop := ∀ H1, Same H H1 → ∀ Q : VK, (∀ p xs H2, H1 p = none → Same H1 H2 → H2 p = some (.lst xs) → AllP ps xs H2 → Q (.ref p) H2) → te σ H1 Q
def GA (ta : TA) (σ : L2.St) (H : Hp) (ps : List MP) : Prop := ∀ H1, Same H H1 → ∀ Q : List V → Hp → Prop, (∀ vs H2, Same H1 H2 → AllP ps vs H2 → Q vs H2) → ta σ H1 Q
abbrev GT (tt : TT) (σ : L2.St) (H : Hp) (b : Bool) : Prop := Evl.EvT tt σ H b
section
variable {K : PySem.W.Frag} {σ : L2.St} {H H' : Hp} {te ta tb : TE} {P Q : MP} {ps qs : List MP} {v x y z : V} {r : R2}
theorem G.up (h : G te σ H P) (e : Same H H') : G te σ H' P := fun H1 a Q q => h H1 (e.trans a) Q q
theorem GL.up (h : GL te σ H ps) (e : Same H H') : GL te σ H' ps := fun H1 a Q q => h H1 (e.trans a) Q q
theorem GA.up {t : TA} (h : GA t σ H ps) (e : Same H H') : GA t σ H' ps := fun H1 a Q q => h H1 (e.trans a) Q q
theorem g_ev (h : Evl.Ev te σ H v) : G te σ H (EqM v) := fun H1 e Q q => h H1 e Q fun H2 e2 => q v H2 e2 rfl
theorem ev_g (h : G te σ H (EqM v)) : Evl.Ev te σ H v := fun H1 e Q q => h H1 e Q fun x H2 e2 hx => by
  have hx' : x = v := hx
  subst hx'
  exact q H2 e2
theorem g_weak (h : G te σ H P) (k : ∀ v H2, Same H H2 → P.p v H2 → Q.p v H2) : G te σ H Q := fun H1 e R q => h H1 e R fun v H2 e2 hv => q v H2 e2 (k v H2 (e.trans e2) hv)
theorem g_eq (h : G te σ H P) (e : P = Q) : G te σ H Q := e ▸ h
theorem g_var {i : Nat} (h : σ[i]? = some (some v)) (hp : P.p v H) : G (tVar i) σ H P := fun H1 e _ q => ⟨v, h, q v H1 (Same.refl H1) (P.mono v H H1 (.same e) hp)⟩
theorem g_c (hp : P.p v H) : G (tC v) σ H P := fun H1 e _ q => q v H1 (Same.refl H1) (P.mono v H H1 (.same e) hp)
theorem g_int {i : Int} : G (tC (.int i)) σ H (IM i) := g_c rfl
theorem g_vE {i : Nat} (h : σ[i]? = some (some v)) : G (tVar i) σ H (EqM v) := g_var h rfl
theorem g_op (ha : G ta σ H (EqM x)) (hb : G tb σ H (EqM y)) (hr : Evl.RV r x y H z) : G (tOp r ta tb) σ H (EqM z) := g_ev (Evl.ev_op (ev_g ha) (ev_g hb) hr)
theorem ga_nil : GA tNil σ H [] := fun H1 _ _ q => q [] H1 (Same.refl H1) trivial
theorem ga_cons {tr : TA} (h : G te σ H P) (hr : GA tr σ H ps) : GA (tCons te tr) σ H (P :: ps) := fun H1 e _ q =>
  h H1 e _ fun v H2 e2 hv => hr H2 (e.trans e2) _ fun vs H3 e3 hvs => q (v :: vs) H3 (e2.trans e3) ⟨P.mono v H2 H3 (.same e3) hv, hvs⟩
theorem g_tup {t : TA} (h : GA t σ H ps) (hl : ps.length ≤ 100000 := by simp) : G (tTup t) σ H (Tp K ps) := fun H1 e _ q =>
  h H1 e _ fun vs H2 e2 hvs => ⟨by rw [hvs.length]; exact Evl.sz_of hl, fun p hp => q (.ref p) _ (e2.trans (same_new hp)) ⟨p, vs, rfl, SqT.of upd_same, hvs.mono (.same (same_new hp))⟩⟩
theorem gl_lst {t : TA} (h : GA t σ H ps) (hl : ps.length ≤ 100000 := by simp) : GL (tLst t) σ H ps := fun H1 e _ q =>
  h H1 e _ fun vs H2 e2 hvs => ⟨by rw [hvs.length]; exact Evl.sz_of hl, fun p hp => q p vs _ (Evl.fresh_back e2 hp) (e2.trans (same_new hp)) upd_same (hvs.mono (.same (same_new hp)))⟩
theorem g_ixT {i : Int} (j : Nat) (ha : G ta σ H (Tp K ps)) (hj : ps[j]? = some P) (hi : i = (j : Int) := by rfl) : G (tOp (rIxT K) ta (tC (.int i))) σ H P := fun H1 e _ q =>
  ha H1 e _ fun v H2 e2 ⟨a, xs, ev, hs, hx⟩ => by
    subst ev
    obtain ⟨x, hx1, hx2⟩ := hx.get hj
    exact ⟨a, xs, i, x, rfl, rfl, hs, by rw [hi]; exact atI_nat hx1, q x H2 e2 hx2⟩
theorem g_ixL {p : Addr} {xs : List V} {i : Int} {tb : TE} (ha : G ta σ H (EqM (.ref p))) (hb : G tb σ H (IM i)) (hl : SqL K H p xs) (hj : atI xs i = some v) (hp : P.p v H) : G (tOp (rIxL K) ta tb) σ H P := fun H1 e _ q =>
  ha H1 e _ fun x H2 e2 hx => hb H2 (e.trans e2) _ fun y H3 e3 hy => ⟨p, xs, i, v, hx, hy, ((e.trans e2).trans e3).seq hl, hj, q v H3 (e2.trans e3) (P.mono v H H3 (.same ((e.trans e2).trans e3)) hp)⟩
/-- an item of a list just made -/
theorem g_ixN {i : Int} (j : Nat) (ha : GL ta σ H ps) (hj : ps[j]? = some P) (hi : i = (j : Int) := by rfl) : G (tOp (rIxL K) ta (tC (.int i))) σ H P := fun H1 e _ q =>
  ha H1 e _ fun p xs H2 _ e2 hl hx => by
    obtain ⟨x, hx1, hx2⟩ := hx.get hj
    exact ⟨p, xs, i, x, rfl, rfl, SqL.of hl, by rw [hi]; exact atI_nat hx1, q x H2 e2 hx2⟩
/-- tuple([..]), all([..]), list(tuple) -/
theorem g_tupleL (h : GL ta σ H ps) : G (tCB (fun xs H Q => ∃ p ys, xs = [.ref p] ∧ ((SqL K H p ys ∧ ∀ l, H l = none → Q (.ref l) (upd H l (.tup ys))) ∨ (SqT K H p ys ∧ Q (.ref p) H))) (tCons ta tNil)) σ H (Tp K ps) := fun H1 e _ q =>
  h H1 e _ fun p xs H2 _ e2 hl hx => ⟨p, xs, rfl, .inl ⟨SqL.of hl, fun l hl2 => q (.ref l) _ (e2.trans (same_new hl2)) ⟨l, xs, rfl, SqT.of upd_same, hx.mono (.same (same_new hl2))⟩⟩⟩
theorem g_tupleV {a : Addr} {xs : List V} (h : G ta σ H (EqM (.ref a))) (hs : SqL K H a xs) (hx : AllP ps xs H) : G (tCB (fun xs H Q => ∃ p ys, xs = [.ref p] ∧ ((SqL K H p ys ∧ ∀ l, H l = none → Q (.ref l) (upd H l (.tup ys))) ∨ (SqT K H p ys ∧ Q (.ref p) H))) (tCons ta tNil)) σ H (Tp K ps) := fun H1 e _ q =>
  h H1 e _ fun v H2 e2 hv => by
    have hv' : v = .ref a := hv
    subst hv'
    exact ⟨a, xs, rfl, .inl ⟨(e.trans e2).seq hs, fun l hl2 => q (.ref l) _ (e2.trans (same_new hl2)) ⟨l, xs, rfl, SqT.of upd_same, hx.mono (.same ((e.trans e2).trans (same_new hl2)))⟩⟩⟩
theorem gl_listT (h : G ta σ H (Tp K ps)) : GL (tCB (fun xs H Q => ∃ p ys, xs = [.ref p] ∧ (SqL K H p ys ∨ SqT K H p ys) ∧ ∀ l, H l = none → Q (.ref l) (upd H l (.lst ys))) (tCons ta tNil)) σ H ps := fun H1 e _ q =>
  h H1 e _ fun v H2 e2 ⟨a, xs, ev, hs, hx⟩ => by
    subst ev
    exact ⟨a, xs, rfl, .inr hs, fun l hl => q l xs _ (Evl.fresh_back e2 hl) (e2.trans (same_new hl)) upd_same (hx.mono (.same (same_new hl)))⟩
theorem bls_of {H : Hp} : ∀ {bs : List Bool} {xs : List V}, AllP (bs.map BM) xs H → xs = bs.map V.bl
  | [], [], _ => rfl
  | b :: bs, x :: xs, h => by
    have h1 : x = .bl b := h.1
    rw [h1, bls_of h.2]
    rfl
  | [], _ :: _, h => h.elim
  | _ :: _, [], h => h.elim
theorem g_all {bs : List Bool} (h : GL ta σ H (bs.map BM)) : G (tCB (rAll K) (tCons ta tNil)) σ H (BM (bs.all id)) := fun H1 e _ q =>
  h H1 e _ fun p xs H2 _ e2 hl hx => ⟨p, bs, rfl, SqL.of (by rw [← bls_of hx]; exact hl), q _ H2 e2 rfl⟩
/-! calls of the program's defs -/
def spX (D : List MP → MP → Prop) : Sp := fun vs H Q _ => ∃ ps P, D ps P ∧ AllP ps vs H ∧ ∀ v H', Same H H' → P.p v H' → Q v H'
theorem g_call {D : List MP → MP → Prop} {E : XK} {t : TA} (h : GA t σ H ps) (hd : D ps P) : G (tCall (spX D) [] E t) σ H P := fun H1 e Q q =>
  h H1 e _ fun vs H2 e2 hvs => ⟨ps, P, hd, by rw [List.append_nil]; exact hvs, fun v H' e3 hv => q v H' (e2.trans e3) hv⟩
/-! ratios compared -/
theorem rt_dp {q : Rat} (h : (RtM K q).p v H) : Dp K H v (.tuple [.int q.num, .int q.den]) := by
  obtain ⟨a, xs, rfl, hs, hx⟩ := h
  match xs, hx with
  | [x, y], hx =>
    obtain ⟨h1, h2, _⟩ := hx
    have h1' : x = .int q.num := h1
    have h2' : y = .int q.den := h2
    subst h1' h2'
    exact .tup hs (.cons (.int _) (.cons (.int _) .nil))
theorem eqv_rt (p q : Rat) : PyData.eqv (.tuple [.int p.num, .int p.den]) (.tuple [.int q.num, .int q.den]) = decide (p = q) := by
  have e : PyData.eqv (.tuple [.int p.num, .int p.den]) (.tuple [.int q.num, .int q.den]) = (p.num == q.num && ((p.den : Int) == (q.den : Int) && true)) := rfl
  rw [e, Bool.eq_iff_iff]
  simp only [Bool.and_eq_true, beq_iff_eq, decide_eq_true_eq, and_true]
  constructor
  · intro ⟨h1, h2⟩
    exact Rat.ext h1 (by omega)
  · intro h
    rw [h]
    exact ⟨rfl, rfl⟩
theorem g_neR {p q : Rat} (ha : G ta σ H (RtM K p)) (hb : G tb σ H (RtM K q)) : G (tOp (rNeD K) ta tb) σ H (BM (decide (p ≠ q))) := fun H1 e _ k =>
  ha H1 e _ fun x H2 e2 hx => hb H2 (e.trans e2) _ fun y H3 e3 hy => ⟨_, _, rt_dp ((RtM K p).mono x H2 H3 (.same e3) hx), rt_dp hy, rfl, rfl, by
    refine k _ H3 (e2.trans e3) ?_
    show V.bl _ = V.bl _
    rw [eqv_rt, decide_not]⟩
theorem g_eqR {p q : Rat} (ha : G ta σ H (RtM K p)) (hb : G tb σ H (RtM K q)) : G (tOp (rEqD K) ta tb) σ H (BM (decide (p = q))) := fun H1 e _ k =>
  ha H1 e _ fun x H2 e2 hx => hb H2 (e.trans e2) _ fun y H3 e3 hy => ⟨_, _, rt_dp ((RtM K p).mono x H2 H3 (.same e3) hx), rt_dp hy, rfl, rfl, by
    refine k _ H3 (e2.trans e3) ?_
    show V.bl _ = V.bl _
    rw [eqv_rt]⟩
theorem gt_test {b : Bool} (h : G te σ H (BM b)) : GT (tTest te) σ H b := Evl.et_test (ev_g h)
/-! ### statements -/
variable {D : Ends} {tu tw : L2.TS}
theorem s_set {i : Nat} (h : G te σ H P) (k : ∀ v H1, Same H H1 → P.p v H1 → D.nx (σ.set i (some v)) H1) : tAsg te (gName i) D σ H := h H (Same.refl H) _ fun v H1 e hv => k v H1 e hv
theorem s_setL {i : Nat} (h : GL te σ H ps) (k : ∀ p xs H1, H p = none → Same H H1 → H1 p = some (.lst xs) → AllP ps xs H1 → D.nx (σ.set i (some (.ref p))) H1) : tAsg te (gName i) D σ H :=
  h H (Same.refl H) _ fun p xs H1 hp e hl hx => k p xs H1 hp e hl hx
theorem s_retG (h : G te σ H P) (k : ∀ v H1, Same H H1 → P.p v H1 → D.rt v H1) : tRet te D σ H := h H (Same.refl H) _ k
/-! ### targets, sources, comprehensions -/
def Gg (g : TG) (x : V) (σ : L2.St) (H : Hp) (σ2 : L2.St) : Prop := ∀ R : L2.St → Hp → Prop, R σ2 H → g x σ H R
theorem gg_name {i : Nat} : Gg (gName i) x σ H (σ.set i (some x)) := fun _ r => r
theorem gg_tup2 {g1 g2 : TG} {σ1 σ2 : L2.St} {a : Addr} (hs : SqT K H a [x, y]) (h1 : Gg g1 x σ H σ1) (h2 : Gg g2 y σ1 H σ2) : Gg (gTup K 2 (gCons g1 (gCons g2 gNil))) (.ref a) σ H σ2 :=
  fun R r => ⟨a, [x, y], rfl, hs, rfl, x, [y], rfl, h1 _ ⟨y, [], rfl, h2 _ ⟨rfl, r⟩⟩⟩
theorem gg_tup3 {g1 g2 g3 : TG} {σ1 σ2 σ3 : L2.St} {a : Addr} (hs : SqT K H a [x, y, z]) (h1 : Gg g1 x σ H σ1) (h2 : Gg g2 y σ1 H σ2) (h3 : Gg g3 z σ2 H σ3) : Gg (gTup K 3 (gCons g1 (gCons g2 (gCons g3 gNil)))) (.ref a) σ H σ3 :=
  fun R r => ⟨a, [x, y, z], rfl, hs, rfl, x, [y, z], rfl, h1 _ ⟨y, [z], rfl, h2 _ ⟨z, [], rfl, h3 _ ⟨rfl, r⟩⟩⟩⟩
theorem tp2 {P Q : MP} (h : (Tp K [P, Q]).p v H) : ∃ a x y, v = .ref a ∧ SqT K H a [x, y] ∧ P.p x H ∧ Q.p y H := by
  obtain ⟨a, xs, e, hs, hx⟩ := h
  match xs, hx with
  | [x, y], hx => exact ⟨a, x, y, e, hs, hx.1, hx.2.1⟩
theorem tp3 {P Q R : MP} (h : (Tp K [P, Q, R]).p v H) : ∃ a x y z, v = .ref a ∧ SqT K H a [x, y, z] ∧ P.p x H ∧ Q.p y H ∧ R.p z H := by
  obtain ⟨a, xs, e, hs, hx⟩ := h
  match xs, hx with
  | [x, y, z], hx => exact ⟨a, x, y, z, e, hs, hx.1, hx.2.1, hx.2.2.1⟩
/-- what is walked yields qs -/
structure SrcOk (J : It) (qs : List MP) (H2 : Hp) : Prop where
  ok : ∃ (Gd : Hp → Prop) (Y : Nat → Hp → V → Hp → Prop), Walk J qs.length Gd Y ∧ (∀ H3, Same H2 H3 → Gd H3) ∧
    ∀ i x H3 H4, i < qs.length → Same H2 H3 → Y i H3 x H4 → Same H3 H4 ∧ ∀ P : MP, qs[i]? = some P → P.p x H4
def Src (wi : TI) (σ : L2.St) (H : Hp) (qs : List MP) : Prop := ∀ H1, Same H H1 → ∀ R : It → Hp → Prop, (∀ J H2, Same H1 H2 → SrcOk J qs H2 → R J H2) → wi σ H1 R
theorem src_list {a : Addr} {xs : List V} (h : G ta σ H (EqM (.ref a))) (hs : SqL K H a xs) (hx : AllP qs xs H) : Src (iList K ta) σ H qs := fun H1 e R r =>
  h H1 e _ fun v H2 e2 hv => by
    have hv' : v = .ref a := hv
    subst hv'
    have s2 : SqL K H2 a xs := (e.trans e2).seq hs
    have hl := hx.length
    refine ⟨a, rfl, ⟨xs, s2⟩, r _ H2 e2 ⟨_, _, hl ▸ walk_list, fun H3 e3 => e3.seq s2, fun i x H3 H4 hi e3 y => ?_⟩⟩
    obtain ⟨rfl, y⟩ := y
    refine ⟨Same.refl _, fun P hP => ?_⟩
    obtain ⟨w, hw, pw⟩ := hx.get hP
    rw [y] at hw
    have : x = w := Option.some.inj hw
    subst this
    exact P.mono _ _ _ (.same ((e.trans e2).trans e3)) pw
theorem src_listN (h : GL ta σ H qs) : Src (iList K ta) σ H qs := fun H1 e R r =>
  h H1 e _ fun a xs H2 _ e2 hl hx => by
    have hn := hx.length
    refine ⟨a, rfl, ⟨xs, SqL.of hl⟩, r _ H2 e2 ⟨_, _, hn ▸ walk_list, fun H3 e3 => e3.seq (SqL.of hl), fun i x H3 H4 hi e3 y => ?_⟩⟩
    obtain ⟨rfl, y⟩ := y
    refine ⟨Same.refl _, fun P hP => ?_⟩
    obtain ⟨w, hw, pw⟩ := hx.get hP
    rw [y] at hw
    have : x = w := Option.some.inj hw
    subst this
    exact P.mono _ _ _ (.same e3) pw
theorem src_tup (h : G ta σ H (Tp K qs)) : Src (iTup K ta) σ H qs := fun H1 e R r =>
  h H1 e _ fun v H2 e2 ⟨a, xs, ev, hs, hx⟩ => by
    subst ev
    have hn := hx.length
    refine ⟨a, rfl, ⟨xs, hs⟩, r _ H2 e2 ⟨_, _, hn ▸ walk_tup, fun H3 e3 => sqt_ts (.same e3) hs, fun i x H3 H4 hi e3 y => ?_⟩⟩
    obtain ⟨rfl, y⟩ := y
    refine ⟨Same.refl _, fun P hP => ?_⟩
    obtain ⟨w, hw, pw⟩ := hx.get hP
    rw [y] at hw
    have : x = w := Option.some.inj hw
    subst this
    exact P.mono _ _ _ (.same e3) pw
def rngM (lo : Int) (n : Nat) : List MP := (List.range n).map fun (i : Nat) => IM (lo + (i : Int))
theorem rngM_len (lo : Int) (n : Nat) : (rngM lo n).length = n := by unfold rngM; simp
theorem rngM_get {lo : Int} {n i : Nat} {P : MP} (h : (rngM lo n)[i]? = some P) : i < n ∧ P = IM (lo + (i : Int)) := by
  unfold rngM at h
  rw [List.getElem?_map] at h
  by_cases hi : i < n
  · rw [List.getElem?_range hi] at h
    exact ⟨hi, (Option.some.inj h).symm⟩
  · rw [List.getElem?_eq_none (by simpa using hi)] at h
    cases h
theorem src_rng (lo : Int) (n : Nat) (J : It) (hJ : J = Itr lo n) (H2 : Hp) : SrcOk J (rngM lo n) H2 := by
  subst hJ
  refine ⟨⟨fun _ => True, YFn fun i => .int (lo + i), by rw [rngM_len]; exact walk_range, fun _ _ => trivial, fun i x H3 H4 hi e3 y => ?_⟩⟩
  obtain ⟨rfl, rfl⟩ := y
  exact ⟨Same.refl _, fun P hP => by
    obtain ⟨_, rfl⟩ := rngM_get hP
    rfl⟩
theorem src_rng1 {n : Nat} (h : G ta σ H (IM (n : Int))) (hn : n ≤ 100000 := by decide) : Src (iRng1 (tCons ta tNil)) σ H (rngM 0 n) := fun H1 e R r =>
  h H1 e _ fun v H2 e2 hv => ⟨(n : Int), by rw [show v = V.int n from hv], by omega, by omega, r _ H2 e2 (src_rng 0 n _ (by rw [Int.toNat_natCast]) H2)⟩
theorem src_rng2 {i j : Int} (n : Nat) (ha : G ta σ H (IM i)) (hb : G tb σ H (IM j)) (hi : -100000 ≤ i ∧ i ≤ 100000) (hj : -100000 ≤ j ∧ j ≤ 100000) (hn : (j - i).toNat = n) : Src (iRng2 (tCons ta (tCons tb tNil))) σ H (rngM i n) := fun H1 e R r =>
  ha H1 e _ fun v H2 e2 hv => hb H2 (e.trans e2) _ fun u H3 e3 hu => ⟨i, j, by rw [show v = V.int i from hv, show u = V.int j from hu], by omega, r _ H3 (e2.trans e3) (src_rng i n _ (by rw [hn]) H3)⟩
def zipM (K : PySem.W.Frag) (ps qs : List MP) : List MP := List.zipWith (fun p q => Tp K [p, q]) ps qs
/-- a list or tuple held, of ps -/
def Held (k : Bool) (K : PySem.W.Frag) (ps : List MP) : V → Hp → Prop := fun v H => ∃ a xs, v = .ref a ∧ SqX k K H a xs ∧ AllP ps xs H
theorem sqx_same {k : Bool} {a : Addr} {xs : List V} (e : Same H H') (h : SqX k K H a xs) : SqX k K H' a xs := by
  cases k with
  | true => exact e.seq (show SqL K H a xs from h)
  | false => exact sqt_ts (.same e) (show SqT K H a xs from h)
theorem Held.up {k : Bool} (e : Same H H') (h : Held k K ps v H) : Held k K ps v H' := let ⟨a, xs, e1, s, hx⟩ := h; ⟨a, xs, e1, sqx_same e s, hx.mono (.same e)⟩
def GH (k : Bool) (K : PySem.W.Frag) (te : TE) (σ : L2.St) (H : Hp) (ps : List MP) : Prop := ∀ H1, Same H H1 → ∀ Q : VK, (∀ v H2, Same H1 H2 → Held k K ps v H2 → Q v H2) → te σ H1 Q
theorem gh_T (h : G ta σ H (Tp K ps)) : GH false K ta σ H ps := fun H1 e Q q => h H1 e Q fun v H2 e2 hv => q v H2 e2 hv
theorem gh_L (h : GL ta σ H ps) : GH true K ta σ H ps := fun H1 e Q q => h H1 e Q fun p xs H2 _ e2 hl hx => q _ H2 e2 ⟨p, xs, rfl, SqL.of hl, hx⟩
theorem gh_V {a : Addr} {xs : List V} (h : G ta σ H (EqM (.ref a))) (hs : SqL K H a xs) (hx : AllP ps xs H) : GH true K ta σ H ps := fun H1 e Q q =>
  h H1 e Q fun v H2 e2 hv => q v H2 e2 ⟨a, xs, hv, (e.trans e2).seq hs, hx.mono (.same (e.trans e2))⟩
theorem src_zip {k1 k2 : Bool} (ha : GH k1 K ta σ H ps) (hb : GH k2 K tb σ H qs) (hl : ps.length = qs.length) : Src (iZipX k1 k2 K (tCons ta (tCons tb tNil))) σ H (zipM K ps qs) := fun H1 e R r =>
  ha H1 e _ fun v H2 e2 hv => hb H2 (e.trans e2) _ fun u H3 e3 hu => by
    obtain ⟨a, xs, rfl, sa, hx⟩ := hv.up e3
    obtain ⟨b, ys, rfl, sb, hy⟩ := hu
    have l1 := hx.length
    have l2 := hy.length
    have ln : (zipM K ps qs).length = ps.length := by unfold zipM; simp [hl]
    refine ⟨a, b, xs, ys, rfl, sa, sb, r _ H3 (e2.trans e3) ⟨_, _, walk_zipX (l1.trans ln.symm) (l2.trans (hl.symm.trans ln.symm)), fun H4 e4 => ⟨sqx_same e4 sa, sqx_same e4 sb⟩, fun i x H4 H5 hi e4 y => ?_⟩⟩
    obtain ⟨T, x1, y1, rfl, nT, rfl, f1, f2⟩ := y
    refine ⟨same_new nT, fun P hP => ?_⟩
    unfold zipM at hP
    rw [List.getElem?_zipWith] at hP
    rw [ln] at hi
    rw [List.getElem?_eq_getElem hi, List.getElem?_eq_getElem (show i < qs.length by omega)] at hP
    have hP' : Tp K [ps[i], qs[i]] = P := Option.some.inj hP
    subst hP'
    obtain ⟨w1, hw1, pw1⟩ := hx.get (List.getElem?_eq_getElem hi)
    obtain ⟨w2, hw2, pw2⟩ := hy.get (List.getElem?_eq_getElem (show i < qs.length by omega))
    have f1' : xs[i]? = some x1 := f1
    have f2' : ys[i]? = some y1 := f2
    rw [f1'] at hw1
    rw [f2'] at hw2
    cases hw1
    cases hw2
    have es : Same H3 (upd H4 T (.tup [x1, y1])) := e4.trans (same_new nT)
    exact ⟨T, [x1, y1], rfl, SqT.of upd_same, MP.mono _ _ _ _ (.same es) pw1, MP.mono _ _ _ _ (.same es) pw2, trivial⟩
def enumM (K : PySem.W.Frag) (ps : List MP) : List MP := ps.mapIdx fun i p => Tp K [IM (i : Int), p]
theorem src_enum {k : Bool} (ha : GH k K ta σ H ps) : Src (iEnumX k K (tCons ta tNil)) σ H (enumM K ps) := fun H1 e R r =>
  ha H1 e _ fun v H2 e2 hv => by
    obtain ⟨a, xs, rfl, sa, hx⟩ := hv
    have l1 := hx.length
    have ln : (enumM K ps).length = ps.length := by unfold enumM; simp
    refine ⟨a, xs, rfl, sa, r _ H2 e2 ⟨_, _, walk_enumX (l1.trans ln.symm), fun H4 e4 => sqx_same e4 sa, fun i x H4 H5 hi e4 y => ?_⟩⟩
    obtain ⟨T, x1, y1, rfl, nT, rfl, f1, f2⟩ := y
    refine ⟨same_new nT, fun P hP => ?_⟩
    unfold enumM at hP
    rw [List.getElem?_mapIdx] at hP
    rw [ln] at hi
    rw [List.getElem?_eq_getElem hi] at hP
    have hP' : Tp K [IM (i : Int), ps[i]] = P := Option.some.inj hP
    subst hP'
    obtain ⟨w1, hw1, pw1⟩ := hx.get (List.getElem?_eq_getElem hi)
    have f2' : xs[i]? = some y1 := f2
    rw [f2'] at hw1
    cases hw1
    have f1' : V.int i = x1 := Option.some.inj f1
    subst f1'
    have es : Same H2 (upd H4 T (.tup [.int i, y1])) := e4.trans (same_new nT)
    exact ⟨T, [.int i, y1], rfl, SqT.of upd_same, rfl, MP.mono _ _ _ _ (.same es) pw1, trivial⟩
/-- [e for x in s if t]: os tells at each turn what comes, if anything -/
theorem gl_lcF {wi : TI} {g : TG} {tt : TT} {vs : List Nat} {os : List (Option MP)} (S : Src wi σ H qs) (hn : os.length = qs.length) (hz : qs.length ≤ 100000)
    (turn : ∀ (i : Nat) x H' P o, qs[i]? = some P → os[i]? = some o → Same H H' → P.p x H' → ∃ σ2, Gg g x (wipe σ vs) H' σ2 ∧ wipe σ2 vs = wipe σ vs ∧ GT tt σ2 H' o.isSome ∧ ∀ Q, o = some Q → G te σ2 H' Q) :
    GL (tLc wi g tt te vs) σ H (os.filterMap id) := fun H1 e Q q => S H1 e _ fun J H2 e2 ⟨Gd, Y, w, hG, hY⟩ D hD => by
  refine lc_it w (fun i H3 => Same H2 H3 ∧ ∃ acc, H3 D = some (.lst acc) ∧ acc.length ≤ i ∧ AllP ((os.take i).filterMap id) acc H3) ⟨same_new hD, [], upd_same, Nat.le_refl _, trivial⟩ (fun i H3 _ h => hG H3 h.1) (fun i x H3 H4 hi hp hy => ?_) fun H3 h => ?_
  · obtain ⟨e3, acc, hacc, hlen, hall⟩ := hp
    obtain ⟨e4, hx⟩ := hY i x H3 H4 hi e3 hy
    have ho : os[i]? = some os[i] := List.getElem?_eq_getElem (by omega)
    obtain ⟨σ2, g2, w2, t2, k2⟩ := turn i x H4 _ _ (List.getElem?_eq_getElem hi) ho ((e.trans e2).trans (e3.trans e4)) (hx _ (List.getElem?_eq_getElem hi))
    refine g2 _ ⟨w2, t2 H4 (Evl.Ex.refl H4) _ fun H5 e5 => ?_⟩
    have et : (os.take (i + 1)).filterMap id = (os.take i).filterMap id ++ [os[i]].filterMap id := by
      rw [List.take_add_one, ho, List.filterMap_append]
      rfl
    cases hoi : os[i] with
    | none =>
      refine iteF ?_
      exact ⟨(e3.trans e4).trans e5, acc, e5 _ _ (e4 _ _ hacc), Nat.le_succ_of_le hlen, by rw [et, hoi]; simpa using hall.mono (.same (e4.trans e5))⟩
    | some Qi =>
      refine iteT ?_
      refine k2 Qi hoi H5 e5 _ fun y H6 e6 hy6 => ?_
      have hD6 : H6 D = some (.lst acc) := e6 _ _ (e5 _ _ (e4 _ _ hacc))
      refine ⟨acc, hD6, Evl.sz_lt (by omega), same_mut (((e3.trans e4).trans e5).trans e6) hD, acc ++ [y], upd_same, by simp; omega, ?_⟩
      rw [et, hoi]
      exact (AllP.snoc hy6 (hall.mono (.same ((e4.trans e5).trans e6)))).mono (TKp.set hD6)
  · obtain ⟨e3, acc, hacc, _, hall⟩ := h
    rw [List.take_of_length_le (by omega)] at hall
    exact q D acc H3 (Evl.fresh_back e2 hD) (e2.trans e3) hacc hall
theorem gl_lc {wi : TI} {g : TG} {tt : TT} {vs : List Nat} (S : Src wi σ H qs) (hn : ps.length = qs.length) (hz : qs.length ≤ 100000)
    (turn : ∀ (i : Nat) x H' P Q, qs[i]? = some P → ps[i]? = some Q → Same H H' → P.p x H' → ∃ σ2, Gg g x (wipe σ vs) H' σ2 ∧ wipe σ2 vs = wipe σ vs ∧ GT tt σ2 H' true ∧ G te σ2 H' Q) :
    GL (tLc wi g tt te vs) σ H ps := by
  have h := gl_lcF (os := ps.map some) (te := te) S (by rw [List.length_map]; exact hn) hz fun i x H' P o hP ho e hp => by
    rw [List.getElem?_map] at ho
    cases hq : ps[i]? with
    | none => rw [hq] at ho; cases ho
    | some Q =>
      rw [hq] at ho
      cases ho
      obtain ⟨σ2, a, b, c, d⟩ := turn i x H' P Q hP hq e hp
      exact ⟨σ2, a, b, c, fun Q' e' => by cases e'; exact d⟩
  rw [List.filterMap_map] at h
  simpa using h
theorem gt_yes : GT tYes σ H true := fun H1 _ _ q => q H1 (Same.refl H1)
end
end K54
namespace K54
open PySem PySem.Spec PyProof.Rows L2
/-! ### the text -/
def top (i : Nat) : Stmt := PySem.Challenge.pw_blendcurves_k54_whole_conics_through_poi.main.body.getD i (.Pass ⟨0, 0, 0, 0⟩)
abbrev sIsInt : Stmt := top 9
abbrev sIsRatio : Stmt := top 10
abbrev sNeedRatio : Stmt := top 11
abbrev sMade : Stmt := top 12
abbrev sPlus : Stmt := top 13
abbrev sLess : Stmt := top 14
abbrev sTimes : Stmt := top 15
abbrev sOver : Stmt := top 16
abbrev sBetween : Stmt := top 17
abbrev sAreRatios : Stmt := top 18
abbrev sNeedPoints : Stmt := top 20
abbrev sNeedWeights : Stmt := top 21
abbrev sLadder : Stmt := top 22
abbrev sPointOf : Stmt := top 23
abbrev sConicPoint : Stmt := top 24
abbrev sWhole : Stmt := top 25
abbrev sLine : Stmt := top 26
abbrev sLineProd : Stmt := top 27
abbrev sEquation : Stmt := top 28
abbrev sTerms : Stmt := top 29
abbrev sThrough : Stmt := top 30
abbrev sLTaken : Stmt := top 32
abbrev sLPick : Stmt := top 33
abbrev sLMade : Stmt := top 34
abbrev sLPlus : Stmt := top 35
abbrev sLMinus : Stmt := top 36
abbrev sLTimes : Stmt := top 37
abbrev sLOver : Stmt := top 38
abbrev sLSum : Stmt := top 39
abbrev sLDraw : Stmt := top 40
abbrev sLMiddle : Stmt := top 41
abbrev sLPoint : Stmt := top 42
abbrev sLWeights : Stmt := top 43
abbrev sLLeft : Stmt := top 44
abbrev sLFree : Stmt := top 45
abbrev sLaw : Stmt := top 46
/-- what the top binds besides the defs -/
structure Txt (K : PySem.W.Frag) (mg : Str → Option Value) : Prop where
  gcd : mg "gcd" = some (.builtin "math.gcd")
  isinst : mg "isinstance" = none
  int : mg "int" = none
  bool : mg "bool" = none
  tuple : mg "tuple" = none
  list : mg "list" = none
  len : mg "len" = none
  all : mg "all" = none
  enum : mg "enumerate" = none
  zip : mg "zip" = none
  range : mg "range" = none
  abs : mg "abs" = none
  zero : ∃ z, mg "ZERO" = some (.ref z) ∧ ∀ H, SqT K H z [.int 0, .int 1]
  one : ∃ z, mg "ONE" = some (.ref z) ∧ ∀ H, SqT K H z [.int 1, .int 1]
theorem mgnil {H : Hp} {vs : List V} (h : AllP [] vs H) : vs = [] := by
  match vs, h with
  | [], _ => rfl
theorem all1 {P : MP} {H : Hp} {vs : List V} (h : AllP [P] vs H) : ∃ x, vs = [x] ∧ P.p x H := by
  match vs, h with
  | [x], h => exact ⟨x, rfl, h.1⟩
theorem all2 {P Q : MP} {H : Hp} {vs : List V} (h : AllP [P, Q] vs H) : ∃ x y, vs = [x, y] ∧ P.p x H ∧ Q.p y H := by
  match vs, h with
  | [x, y], h => exact ⟨x, y, rfl, h.1, h.2.1⟩
theorem all3 {P Q R : MP} {H : Hp} {vs : List V} (h : AllP [P, Q, R] vs H) : ∃ x y z, vs = [x, y, z] ∧ P.p x H ∧ Q.p y H ∧ R.p z H := by
  match vs, h with
  | [x, y, z], h => exact ⟨x, y, z, rfl, h.1, h.2.1, h.2.2.1⟩
theorem sp_len {D : List MP → MP → Prop} {n : Nat} (h : ∀ ps P, D ps P → ps.length = n) : ∀ vs H Q E, spX D vs H Q E → vs.length = n := fun vs H Q E ⟨ps, P, d, a, _⟩ => a.length.trans (h ps P d)
section
variable {K : PySem.W.Frag} {σ : L2.St} {H H' : Hp} {te ta tb : TE} {P : MP} {ps : List MP} {v : V}
theorem tyx_tp (h : (Tp K ps).p v H) : TyX K H v (.type "tuple") := by
  obtain ⟨a, xs, rfl, hs, _⟩ := h
  rcases hs with (h | ⟨o, h⟩) | ⟨o, its, n, hk, hc, _⟩
  · exact .base (.tup h)
  · exact .fTuple h
  · exact .kTuple hk hc
theorem g_isi {n m : String} {b : Bool} (ha : G ta σ H P) (ht : ∀ v H', P.p v H' → TyX K H' v (.type m)) (hk : kitB m n = some b) : G (tCB (rIsi K) (tCons ta (tCons (tC (.ty n)) tNil))) σ H (BM b) := fun H1 e Q q =>
  ha H1 e _ fun v H2 e2 hv => ⟨v, .ty n, .type m, .type n, b, rfl, .ty n, ht v H2 hv, kit_ty hk, q _ H2 e2 rfl⟩
theorem g_lenT (ha : G ta σ H (Tp K ps)) : G (tCB (fun xs H Q => ∃ p ys, xs = [V.ref p] ∧ (SqL K H p ys ∨ SqT K H p ys) ∧ Q (V.int (ys.length : Int)) H) (tCons ta tNil)) σ H (IM (ps.length : Int)) := fun H1 e Q q =>
  ha H1 e _ fun v H2 e2 ⟨a, xs, ev, hs, hx⟩ => ⟨a, xs, by rw [ev], .inr hs, q _ H2 e2 (by rw [hx.length]; rfl)⟩
theorem g_lenL {a : Addr} {xs : List V} (ha : G ta σ H (EqM (.ref a))) (hs : SqL K H a xs) : G (tCB (fun xs H Q => ∃ p ys, xs = [V.ref p] ∧ (SqL K H p ys ∨ SqT K H p ys) ∧ Q (V.int (ys.length : Int)) H) (tCons ta tNil)) σ H (IM (xs.length : Int)) := fun H1 e Q q =>
  ha H1 e _ fun v H2 e2 hv => ⟨a, xs, by rw [show v = V.ref a from hv], .inl ((e.trans e2).seq hs), q _ H2 e2 rfl⟩
theorem g_gcd {a b : Int} (ha : G ta σ H (IM a)) (hb : G tb σ H (IM b)) : G (tCB rGcd (tCons ta (tCons tb tNil))) σ H (IM ((Nat.gcd a.natAbs b.natAbs : Nat) : Int)) := fun H1 e Q q =>
  ha H1 e _ fun v H2 e2 hv => hb H2 (e.trans e2) _ fun u H3 e3 hu => ⟨a, b, by rw [show v = V.int a from hv, show u = V.int b from hu], q _ H3 (e2.trans e3) rfl⟩
theorem g_and {a b : Bool} (h1 : G ta σ H (BM a)) (h2 : a = true → G tb σ H (BM b)) : G (tAndV ta tb) σ H (BM (a && b)) := g_ev (Evl.ev_andV (ev_g h1) fun e => ev_g (h2 e))
theorem g_or {a b : Bool} (h1 : G ta σ H (BM a)) (h2 : a = false → G tb σ H (BM b)) : G (tOrV ta tb) σ H (BM (a || b)) := g_ev (Evl.ev_orV (ev_g h1) fun e => ev_g (h2 e))
theorem g_not {a : Bool} (h1 : G ta σ H (BM a)) : G (tNotV ta) σ H (BM (!a)) := g_ev (Evl.ev_notV (ev_g h1))
theorem gt_or {a b : Bool} {t u : TT} (h1 : GT t σ H a) (h2 : a = false → GT u σ H b) : GT (tOr t u) σ H (a || b) := Evl.et_or h1 h2
theorem gt_and {a b : Bool} {t u : TT} (h1 : GT t σ H a) (h2 : a = true → GT u σ H b) : GT (tAnd t u) σ H (a && b) := Evl.et_and h1 h2
theorem gt_not {a : Bool} {t : TT} (h1 : GT t σ H a) : GT (tNot t) σ H (!a) := Evl.et_not h1
theorem gt_val {b : Bool} (h : G te σ H (BM b)) : GT (tB te) σ H b := Evl.et_B (ev_g h)
theorem g_eqI {i j : Int} (ha : G ta σ H (IM i)) (hb : G tb σ H (IM j)) : G (tOp rEq ta tb) σ H (BM (decide (i = j))) := by
  have h := g_op ha hb (Evl.rv_eq (x := .int i) (y := .int j) rfl)
  have e : decide (V.int i = V.int j) = decide (i = j) := by
    rw [dec_int, Bool.beq_eq_decide_eq]
  rw [e] at h
  exact h
theorem g_neI {i j : Int} (ha : G ta σ H (IM i)) (hb : G tb σ H (IM j)) : G (tOp rNe ta tb) σ H (BM (decide (i ≠ j))) := by
  have h := g_op ha hb (Evl.rv_ne (x := .int i) (y := .int j) rfl)
  have e : decide (V.int i = V.int j) = decide (i = j) := by
    rw [dec_int, Bool.beq_eq_decide_eq]
  rw [e, ← decide_not] at h
  exact h
theorem g_I {C : Int → Int → Prop} {g : Int → Int → V} {i j : Int} (ha : G ta σ H (IM i)) (hb : G tb σ H (IM j)) (hc : C i j) : G (tOp (rI C g) ta tb) σ H (EqM (g i j)) := g_op ha hb (Evl.rv_I hc)
theorem g_I0 {g : Int → Int → V} {i j : Int} (ha : G ta σ H (IM i)) (hb : G tb σ H (IM j)) : G (tOp (rI0 g) ta tb) σ H (EqM (g i j)) := g_op ha hb Evl.rv_I0
theorem g_ifT {c : TT} {Q : MP} (h : GT c σ H true) (ha : G ta σ H Q) : G (tIf c ta tb) σ H Q := fun H1 e R r => h H1 e _ fun H2 e2 => by
  show ta σ H2 R
  exact ha H2 (e.trans e2) R fun v H3 e3 hv => r v H3 (e2.trans e3) hv
theorem g_ifF {c : TT} {Q : MP} (h : GT c σ H false) (ha : G tb σ H Q) : G (tIf c ta tb) σ H Q := fun H1 e R r => h H1 e _ fun H2 e2 => by
  show tb σ H2 R
  exact ha H2 (e.trans e2) R fun v H3 e3 hv => r v H3 (e2.trans e3) hv
theorem s_ifF {c : TT} {tu tw : L2.TS} {D : Ends} (h : GT c σ H false) (k : ∀ H1, Same H H1 → tw D σ H1) : tIfS c tu tw D σ H := h H (Same.refl H) _ fun H1 e => by
  show tw D σ H1
  exact k H1 e
theorem s_ifT {c : TT} {tu tw : L2.TS} {D : Ends} (h : GT c σ H true) (k : ∀ H1, Same H H1 → tu D σ H1) : tIfS c tu tw D σ H := h H (Same.refl H) _ fun H1 e => by
  show tu D σ H1
  exact k H1 e
end
end K54
namespace K54
open PySem PySem.Spec PyProof.Rows L2
/-- the def x keeps its promise -/
structure Has (P : Program) (w : World) (K : PySem.W.Frag) (mg : Str → Option Value) (base : Heap) (x : Str) (ps : List Str) (k : Nat) (sp : Sp) : Prop where
  h : ∃ f fd, mg x = some (.ref f) ∧ PySem.W.keepIn K (.ref f) = true ∧ Binds K fd ps [] ∧ FnOk P w K mg base CX0 k f fd ps sp
theorem pe_c {X : Cx} {x : Str} {ps : List Str} {k : Nat} {sp : Sp} {e : Expr} {es : List Expr} {t : TA} {p pos : Pos} (h : Has X.prog X.w X.K X.mg X.base x ps k sp) (hr : Room k X.A) (hg : Gl X x)
    (ha : PA X (e :: es) t) (hdb : (x == ("__debug__" : Str)) = false := by decide) (he : starEach (e :: es) X.env = (false, eval e X.env) :: starEach es X.env := by rfl) (hpl : (backTo pos (starEach es X.env)).any (·.1) = false := by rfl) :
    PE X (.Call (.Name x p) (e :: es) [] pos) (tCall sp [] E0 t) := by
  obtain ⟨f, fd, g, kp, b, F⟩ := h.h
  exact pe_call F hr hg g kp b .nil pass0 ha hdb he hpl
/-- a def as the top has written it -/
structure Df (K : PySem.W.Frag) (mg : Str → Option Value) (x : Str) (st : Stmt) (ps : List Str) : Prop where
  h : ∃ f fd, Fun K x x st f fd ∧ mg x = some (.ref f) ∧ Binds K fd ps []
section
variable {P : Program} {w : World} {K : PySem.W.Frag} {mg : Str → Option Value} {base : Heap}
theorem Df.has {x : Str} {st : Stmt} {ps : List Str} {k : Nat} {sp : Sp} (D : Df K mg x st ps) (h : ∀ f fd, Fun K x x st f fd → FnOk P w K mg base CX0 k f fd ps sp) : Has P w K mg base x ps k sp := by
  obtain ⟨f, fd, F, g, b⟩ := D.h
  exact ⟨f, fd, g, F.kp, b, h f fd F⟩
/-! is_int -/
def dIsInt : List MP → MP → Prop := fun ps P => ∃ i : Int, ps = [IM i] ∧ P = BM true
theorem sc_isInt : FnScope ["value"] ["value"] (defScope sIsInt) := ⟨rfl, rfl, rfl, by decide +kernel, rfl, by decide +kernel, by decide +kernel⟩
theorem ok_isInt (D : Df K mg "is_int" sIsInt ["value"]) (T : Txt K mg) : Has P w K mg base "is_int" ["value"] 1 (spX dIsInt) := D.has fun f fd F => by
  refine F.ok sc_isInt (sp_len fun ps P ⟨i, e, _⟩ => by rw [e]; rfl) (fun cdv A outer s H vs Q E hr h => ?_)
  obtain ⟨ps, R, ⟨i, rfl, rfl⟩, hv, k⟩ := h
  obtain ⟨x, rfl, hx⟩ := all1 hv
  refine ⟨_, pss_one (ps_ret (pe_and (pe_callB call_isi (by rfl) T.isinst boot_isinstance (pa_cons (pv 0) (pa_cons (pe_bltn (v := .ty "int") (by rfl) T.int PyProof.Rows.boot_int rfl) pa_nil)))
    (pe_one (pe_not (pe_callB call_isi (by rfl) T.isinst boot_isinstance (pa_cons (pv 0) (pa_cons (pe_bltn (v := .ty "bool") (by rfl) T.bool PyProof.Rows.boot_bool rfl) pa_nil))))))), ?_⟩
  have h1 : G (tVar 0) (start ["value"] [x]) H (IM i) := g_var rfl hx
  have ty : ∀ v H', (IM i).p v H' → TyX K H' v (.type "int") := fun v H' e => by
    have e' : v = .int i := e
    subst e'
    exact .base (.int i)
  refine s_retG (P := BM true) (g_eq (g_and (g_isi h1 ty (b := true) (by decide +kernel)) fun _ => g_not (g_isi h1 ty (b := false) (by decide +kernel))) rfl) fun v H1 e hv => k v H1 e hv
/-! is_ratio -/
def dIsRatio (K : PySem.W.Frag) : List MP → MP → Prop := fun ps P => ∃ q : Rat, ps = [RtM K q] ∧ P = BM true
theorem sc_isRatio : FnScope ["value"] ["value"] (defScope sIsRatio) := ⟨rfl, rfl, rfl, by decide +kernel, rfl, by decide +kernel, by decide +kernel⟩
theorem ok_isRatio (D : Df K mg "is_ratio" sIsRatio ["value"]) (T : Txt K mg) (HI : Has P w K mg base "is_int" ["value"] 1 (spX dIsInt)) : Has P w K mg base "is_ratio" ["value"] 2 (spX (dIsRatio K)) := D.has fun f fd F => by
  refine F.ok sc_isRatio (sp_len fun ps P ⟨i, e, _⟩ => by rw [e]; rfl) (fun cdv A outer s H vs Q E hr h => ?_)
  obtain ⟨ps, R, ⟨q, rfl, rfl⟩, hv, k⟩ := h
  obtain ⟨x, rfl, hx⟩ := all1 hv
  refine ⟨_, pss_cons (ps_if (PW.pt (pw_or (pt_not (pt_val (pe_callB call_isi (by rfl) T.isinst boot_isinstance (pa_cons (pv 0) (pa_cons (pe_bltn (v := .ty "tuple") (by rfl) T.tuple PyProof.Rows.boot_tuple rfl) pa_nil)))))
      (pw_or (pt_cmpR op_ne (pe_callB call_len_seq (by rfl) T.len PySem.boot_len (pa_cons (pv 0) pa_nil)) pe_int (nomark _))
      (pw_or (pt_not (pt_val (pe_c HI hr (by rfl) (pa_cons (pe_ix ix_tup (pv 0) pe_int (fun _ _ => rfl)) pa_nil))))
      (pw_or1 (pt_not (pt_val (pe_c HI hr (by rfl) (pa_cons (pe_ix ix_tup (pv 0) pe_int (fun _ _ => rfl)) pa_nil)))))))))
      pss_never pss_nil)
    (pss_one (ps_ret (pe_and (pe_cmpR op_gt (pe_ix ix_tup (pv 0) pe_int (fun _ _ => rfl)) pe_int (nomark _))
      (pe_one (pe_cmpR op_eq (pe_callBfun cr_gcd (by rfl) T.gcd (pa_cons (pe_ix ix_tup (pv 0) pe_int (fun _ _ => rfl)) (pa_cons (pe_ix ix_tup (pv 0) pe_int (fun _ _ => rfl)) pa_nil))) pe_int (nomark _)))))), ?_⟩
  have h1 : G (tVar 0) (start ["value"] [x]) H (RtM K q) := g_var rfl hx
  have i0 : G (tOp (rIxT K) (tVar 0) (tC (.int 0))) (start ["value"] [x]) H (IM q.num) := g_ixT 0 h1 rfl
  have i1 : G (tOp (rIxT K) (tVar 0) (tC (.int 1))) (start ["value"] [x]) H (IM q.den) := g_ixT 1 h1 rfl
  refine s_ifF (gt_or (a := false) (b := false) (gt_not (a := true) (gt_val (g_isi h1 (fun v H' e => tyx_tp e) (b := true) (by decide +kernel)))) fun _ =>
    gt_or (a := false) (b := false) (gt_test (g_neI (i := 2) (j := 2) (g_lenT h1) g_int)) fun _ =>
    gt_or (a := false) (b := false) (gt_not (a := true) (gt_val (g_call (P := BM true) (ga_cons i0 ga_nil) ⟨_, rfl, rfl⟩))) fun _ => gt_not (a := true) (gt_val (g_call (P := BM true) (ga_cons i1 ga_nil) ⟨_, rfl, rfl⟩))) fun H1 e1 => ?_
  have c1 : decide ((0 : Int) < (q.den : Int)) = true := decide_eq_true (by have := q.den_nz; omega)
  have c2 : decide (((Nat.gcd q.num.natAbs ((q.den : Int)).natAbs : Nat) : Int) = 1) = true := decide_eq_true (by
    have : Nat.gcd q.num.natAbs q.den = 1 := q.reduced
    rw [nat_abs_cast, this]
    rfl)
  have b1 := g_I0 (g := fun i j => .bl (decide (j < i))) (i1.up e1) (g_int (i := 0))
  have b2 := g_eqI (g_gcd (i0.up e1) (i1.up e1)) (g_int (i := 1))
  rw [c2] at b2
  rw [c1] at b1
  refine s_retG (P := BM true) (g_eq (g_and b1 fun _ => b2) rfl) fun v H2 e2 hv => k v H2 (e1.trans e2) hv
/-! need_ratio -/
def dNeedRatio (K : PySem.W.Frag) : List MP → MP → Prop := fun ps P => ∃ q : Rat, ps = [RtM K q] ∧ P = EqM .non
theorem sc_needRatio : FnScope ["value"] ["value"] (defScope sNeedRatio) := ⟨rfl, rfl, rfl, by decide +kernel, rfl, by decide +kernel, by decide +kernel⟩
theorem ok_needRatio (D : Df K mg "need_ratio" sNeedRatio ["value"]) (HI : Has P w K mg base "is_ratio" ["value"] 2 (spX (dIsRatio K))) : Has P w K mg base "need_ratio" ["value"] 3 (spX (dNeedRatio K)) := D.has fun f fd F => by
  refine F.ok sc_needRatio (sp_len fun ps P ⟨i, e, _⟩ => by rw [e]; rfl) (fun cdv A outer s H vs Q E hr h => ?_)
  obtain ⟨ps, R, ⟨q, rfl, rfl⟩, hv, k⟩ := h
  obtain ⟨x, rfl, hx⟩ := all1 hv
  refine ⟨_, pss_one (ps_if (pt_not (pt_val (pe_c HI hr (by rfl) (pa_cons (pv 0) pa_nil)))) pss_never pss_nil), ?_⟩
  have h1 : G (tVar 0) (start ["value"] [x]) H (RtM K q) := g_var rfl hx
  exact s_ifF (gt_not (a := true) (gt_val (g_call (P := BM true) (ga_cons h1 ga_nil) ⟨_, rfl, rfl⟩))) fun H1 e1 => k _ H1 e1 rfl
/-! made -/
def dMade (K : PySem.W.Frag) : List MP → MP → Prop := fun ps P => ∃ top low : Int, low ≠ 0 ∧ low.natAbs < 2 ^ 9000 ∧ ps = [IM top, IM low] ∧ P = RtM K (Rat.divInt top low)
theorem sc_made : FnScope ["top", "low", "part"] ["top", "low"] (defScope sMade) := ⟨rfl, rfl, rfl, by decide +kernel, rfl, by decide +kernel, by decide +kernel⟩
theorem ok_made (D : Df K mg "made" sMade ["top", "low"]) (T : Txt K mg) : Has P w K mg base "made" ["top", "low"] 1 (spX (dMade K)) := D.has fun f fd F => by
  refine F.ok sc_made (sp_len fun ps P ⟨i, j, _, _, e, _⟩ => by rw [e]; rfl) (fun cdv A outer s H vs Q E hr h => ?_)
  obtain ⟨ps, R, ⟨top, low, h0, hb, rfl, rfl⟩, hv, k⟩ := h
  obtain ⟨x, y, rfl, hx, hy⟩ := all2 hv
  have hx' : x = .int top := hx
  have hy' : y = .int low := hy
  subst hx' hy'
  refine ⟨_, pss_cons (ps_set (i := 2) sc_made.nd rfl (.inl rfl) (pe_callBfun cr_gcd (by rfl) T.gcd (pa_cons (pv 0) (pa_cons (pv 1) pa_nil))))
    (pss_cons (ps_if (pt_cmpR op_lt (pv 1) pe_int (nomark _)) (pss_one (ps_set (i := 2) sc_made.nd rfl (.inl rfl) (pe_un un_neg (pv 2)))) pss_nil)
    (pss_one (ps_ret (pe_tup (pa_cons (pe_op op_fdivNW (pv 0) (pv 2)) (pa_cons (pe_op op_fdivNW (pv 1) (pv 2)) pa_nil)))))), ?_⟩
  refine s_set (P := IM ((Nat.gcd top.natAbs low.natAbs : Nat) : Int)) (g_gcd (g_vE rfl) (g_vE rfl)) fun v H1 e1 hv => ?_
  have hv' : v = .int _ := hv
  subst hv'
  have fin : ∀ H2, Same H H2 → tRet (tTup (tCons (tOp (rI CDivNW fun i j => .int (i.fdiv j)) (tVar 0) (tVar 2)) (tCons (tOp (rI CDivNW fun i j => .int (i.fdiv j)) (tVar 1) (tVar 2)) tNil)))
      { nx := fun _ H' => Q .non H', rt := Q } [some (.int top), some (.int low), some (.int (gpart top low))] H2 := fun H2 e2 => by
    have hg := gpart_ne (top := top) h0
    have hc : ∀ i : Int, CDivNW i (gpart top low) := fun i => nw_div hg (Nat.lt_of_le_of_lt (gpart_le h0) hb) (by decide) (by decide)
    have m := made_eq (top := top) h0
    have g1 : G (tOp (rI CDivNW fun i j => .int (i.fdiv j)) (tVar 0) (tVar 2)) [some (.int top), some (.int low), some (.int (gpart top low))] H2 (IM (Rat.divInt top low).num) := g_eq (g_I (g_vE rfl) (g_vE rfl) (hc top)) (by rw [m.1])
    have g2 : G (tOp (rI CDivNW fun i j => .int (i.fdiv j)) (tVar 1) (tVar 2)) [some (.int top), some (.int low), some (.int (gpart top low))] H2 (IM ((Rat.divInt top low).den : Int)) := g_eq (g_I (g_vE rfl) (g_vE rfl) (hc low)) (by rw [m.2])
    exact s_retG (g_tup (K := K) (ga_cons g1 (ga_cons g2 ga_nil))) fun v H3 e3 hv => k v H3 (e2.trans e3) hv
  by_cases hl : low < 0
  · refine s_ifT (gt_test (g_eq (g_I0 (g_vE rfl) (g_int (i := 0))) (by rw [decide_eq_true hl]))) fun H2 e2 => ?_
    refine s_set (P := IM (gpart top low)) (g_eq (g_ev (Evl.ev_un (ev_g (g_vE rfl)) Evl.ru_neg)) (by unfold gpart; rw [if_pos hl])) fun v H3 e3 hv => ?_
    have hv' : v = .int _ := hv
    subst hv'
    exact fin H3 ((e1.trans e2).trans e3)
  · refine s_ifF (gt_test (g_eq (g_I0 (g_vE rfl) (g_int (i := 0))) (by rw [decide_eq_false hl]))) fun H2 e2 => ?_
    have eg : gpart top low = ((Nat.gcd top.natAbs low.natAbs : Nat) : Int) := by unfold gpart; rw [if_neg hl]
    have f2 := fin H2 (e1.trans e2)
    rw [eg] at f2
    exact f2
end
end K54
namespace K54
open PySem PySem.Spec PyProof.Rows L2
def d2 (K : PySem.W.Frag) (pre : Rat → Rat → Prop) (f : Rat → Rat → Rat) : List MP → MP → Prop := fun ps P => ∃ p q : Rat, pre p q ∧ ps = [RtM K p, RtM K q] ∧ P = RtM K (f p q)
abbrev big2 : Rat → Rat → Prop := fun p q => Bd 4000 p ∧ Bd 4000 q
abbrev big2z : Rat → Rat → Prop := fun p q => (Bd 4000 p ∧ Bd 4000 q) ∧ q ≠ 0
abbrev dPlus (K : PySem.W.Frag) := d2 K big2 (· + ·)
abbrev dLess (K : PySem.W.Frag) := d2 K big2 (· - ·)
abbrev dTimes (K : PySem.W.Frag) := d2 K big2 (· * ·)
abbrev dOver (K : PySem.W.Frag) := d2 K big2z (· / ·)
def d3 (K : PySem.W.Frag) (pre : Rat → Rat → Rat → Prop) (f : Rat → Rat → Rat → Rat) : List MP → MP → Prop := fun ps P => ∃ p q r : Rat, pre p q r ∧ ps = [RtM K p, RtM K q, RtM K r] ∧ P = RtM K (f p q r)
abbrev dBetween (K : PySem.W.Frag) := d3 K (fun p q r => Bd 500 p ∧ Bd 500 q ∧ Bd 500 r) btw
section
variable {P : Program} {w : World} {K : PySem.W.Frag} {mg : Str → Option Value} {base : Heap}
abbrev TMulW : TE → TE → TE := tOp (rI CMulW fun i j => .int (i * j))
abbrev TIx (K : PySem.W.Frag) (i : Nat) (j : Int) : TE := tOp (rIxT K) (tVar i) (tC (.int j))
theorem g_mulW {σ : L2.St} {H : Hp} {ta tb : TE} {i j : Int} {a b : Nat} (ha : G ta σ H (IM i)) (hb : G tb σ H (IM j)) (h1 : i.natAbs < 2 ^ a) (h2 : j.natAbs < 2 ^ b) (h3 : 0 < a) (h4 : 0 < b) (h5 : a + b ≤ 1000000) : G (TMulW ta tb) σ H (IM (i * j)) :=
  g_I ha hb (wide_mul h1 h2 h3 h4 h5)
theorem sc_two (st : Stmt) (h : FnScope ["one", "other"] ["one", "other"] (defScope st)) : FnScope ["one", "other"] ["one", "other"] (defScope st) := h
/-- the two products and the one of the bottoms, as four of the defs have them -/
theorem ok_two {x : Str} {st : Stmt} {pre : Rat → Rat → Prop} {f : Rat → Rat → Rat} (S : FnScope ["one", "other"] ["one", "other"] (defScope st)) (D : Df K mg x st ["one", "other"])
    (hbody : ∀ (fa : Addr) (cdv : Value) (A : Around) (outer : List Env) (s : Shared) (H : Hp) (u v : V) (E : XK) (p q : Rat) (R : VK), Room 1 (A.deeper (envOfC x (defScope st) s.heap.objs.size fa cdv)) → pre p q → (RtM K p).p u H → (RtM K q).p v H →
      (∀ z H', Same H H' → (RtM K (f p q)).p z H' → R z H') → ∃ t, PSs (cxOf CX0 P w K mg base ["one", "other"] x (defScope st) fa cdv A outer s H E).nox (defBody st) t ∧ t { nx := fun _ H' => R .non H', rt := R } (start ["one", "other"] [u, v]) H) :
    Has P w K mg base x ["one", "other"] 2 (spX (d2 K pre f)) := D.has fun fa fd F => by
  refine F.ok S (sp_len fun ps P ⟨i, j, _, e, _⟩ => by rw [e]; rfl) (fun cdv A outer s H vs Q E hr h => ?_)
  obtain ⟨ps, R, ⟨p, q, hp, rfl, rfl⟩, hv, k⟩ := h
  obtain ⟨u, v, rfl, hu, hv⟩ := all2 hv
  exact hbody fa cdv A outer s H u v E p q Q hr hp hu hv k
theorem sc_plus : FnScope ["one", "other"] ["one", "other"] (defScope sPlus) := ⟨rfl, rfl, rfl, by decide +kernel, rfl, by decide +kernel, by decide +kernel⟩
theorem ok_plus (D : Df K mg "plus" sPlus ["one", "other"]) (HM : Has P w K mg base "made" ["top", "low"] 1 (spX (dMade K))) : Has P w K mg base "plus" ["one", "other"] 2 (spX (dPlus K)) :=
  ok_two sc_plus D fun fa cdv A outer s H u v E p q R hr hp hu hv k => by
    obtain ⟨bp, bq⟩ := hp
    refine ⟨_, pss_one (ps_ret (pe_c HM hr (by rfl) (pa_cons (pe_op op_add (pe_op op_mulW (pe_ix ix_tup (pv 0) pe_int (fun _ _ => rfl)) (pe_ix ix_tup (pv 1) pe_int (fun _ _ => rfl))) (pe_op op_mulW (pe_ix ix_tup (pv 1) pe_int (fun _ _ => rfl)) (pe_ix ix_tup (pv 0) pe_int (fun _ _ => rfl))))
      (pa_cons (pe_op op_mulW (pe_ix ix_tup (pv 0) pe_int (fun _ _ => rfl)) (pe_ix ix_tup (pv 1) pe_int (fun _ _ => rfl))) pa_nil)))), ?_⟩
    have a : G (tVar 0) (start ["one", "other"] [u, v]) H (RtM K p) := g_var rfl hu
    have b : G (tVar 1) (start ["one", "other"] [u, v]) H (RtM K q) := g_var rfl hv
    have a0 := g_ixT (i := 0) 0 a rfl
    have a1 := g_ixT (i := 1) 1 a rfl
    have b0 := g_ixT (i := 0) 0 b rfl
    have b1 := g_ixT (i := 1) 1 b rfl
    have m1 := g_mulW a0 b1 bp.n bq.d (by decide) (by decide) (by decide)
    have m2 := g_mulW b0 a1 bq.n bp.d (by decide) (by decide) (by decide)
    have m3 := g_mulW a1 b1 bp.d bq.d (by decide) (by decide) (by decide)
    refine s_retG (g_call (P := RtM K (p + q)) (ga_cons (g_I0 m1 m2) (ga_cons m3 ga_nil)) ⟨_, _, dd_ne p q, lt_pow_of (abs_mul_lt bp.d bq.d) (by decide), rfl, by rw [plus_eq]⟩) fun z H1 e1 hz => k z H1 e1 hz
theorem sc_less : FnScope ["one", "other"] ["one", "other"] (defScope sLess) := ⟨rfl, rfl, rfl, by decide +kernel, rfl, by decide +kernel, by decide +kernel⟩
theorem ok_less (D : Df K mg "less" sLess ["one", "other"]) (HM : Has P w K mg base "made" ["top", "low"] 1 (spX (dMade K))) : Has P w K mg base "less" ["one", "other"] 2 (spX (dLess K)) :=
  ok_two sc_less D fun fa cdv A outer s H u v E p q R hr hp hu hv k => by
    obtain ⟨bp, bq⟩ := hp
    refine ⟨_, pss_one (ps_ret (pe_c HM hr (by rfl) (pa_cons (pe_op op_sub (pe_op op_mulW (pe_ix ix_tup (pv 0) pe_int (fun _ _ => rfl)) (pe_ix ix_tup (pv 1) pe_int (fun _ _ => rfl))) (pe_op op_mulW (pe_ix ix_tup (pv 1) pe_int (fun _ _ => rfl)) (pe_ix ix_tup (pv 0) pe_int (fun _ _ => rfl))))
      (pa_cons (pe_op op_mulW (pe_ix ix_tup (pv 0) pe_int (fun _ _ => rfl)) (pe_ix ix_tup (pv 1) pe_int (fun _ _ => rfl))) pa_nil)))), ?_⟩
    have a : G (tVar 0) (start ["one", "other"] [u, v]) H (RtM K p) := g_var rfl hu
    have b : G (tVar 1) (start ["one", "other"] [u, v]) H (RtM K q) := g_var rfl hv
    have a0 := g_ixT (i := 0) 0 a rfl
    have a1 := g_ixT (i := 1) 1 a rfl
    have b0 := g_ixT (i := 0) 0 b rfl
    have b1 := g_ixT (i := 1) 1 b rfl
    have m1 := g_mulW a0 b1 bp.n bq.d (by decide) (by decide) (by decide)
    have m2 := g_mulW b0 a1 bq.n bp.d (by decide) (by decide) (by decide)
    have m3 := g_mulW a1 b1 bp.d bq.d (by decide) (by decide) (by decide)
    refine s_retG (g_call (P := RtM K (p - q)) (ga_cons (g_I0 m1 m2) (ga_cons m3 ga_nil)) ⟨_, _, dd_ne p q, lt_pow_of (abs_mul_lt bp.d bq.d) (by decide), rfl, by rw [less_eq]⟩) fun z H1 e1 hz => k z H1 e1 hz
theorem sc_times : FnScope ["one", "other"] ["one", "other"] (defScope sTimes) := ⟨rfl, rfl, rfl, by decide +kernel, rfl, by decide +kernel, by decide +kernel⟩
theorem ok_times (D : Df K mg "times" sTimes ["one", "other"]) (HM : Has P w K mg base "made" ["top", "low"] 1 (spX (dMade K))) : Has P w K mg base "times" ["one", "other"] 2 (spX (dTimes K)) :=
  ok_two sc_times D fun fa cdv A outer s H u v E p q R hr hp hu hv k => by
    obtain ⟨bp, bq⟩ := hp
    refine ⟨_, pss_one (ps_ret (pe_c HM hr (by rfl) (pa_cons (pe_op op_mulW (pe_ix ix_tup (pv 0) pe_int (fun _ _ => rfl)) (pe_ix ix_tup (pv 1) pe_int (fun _ _ => rfl)))
      (pa_cons (pe_op op_mulW (pe_ix ix_tup (pv 0) pe_int (fun _ _ => rfl)) (pe_ix ix_tup (pv 1) pe_int (fun _ _ => rfl))) pa_nil)))), ?_⟩
    have a : G (tVar 0) (start ["one", "other"] [u, v]) H (RtM K p) := g_var rfl hu
    have b : G (tVar 1) (start ["one", "other"] [u, v]) H (RtM K q) := g_var rfl hv
    have m1 := g_mulW (g_ixT (i := 0) 0 a rfl) (g_ixT (i := 0) 0 b rfl) bp.n bq.n (by decide) (by decide) (by decide)
    have m3 := g_mulW (g_ixT (i := 1) 1 a rfl) (g_ixT (i := 1) 1 b rfl) bp.d bq.d (by decide) (by decide) (by decide)
    refine s_retG (g_call (P := RtM K (p * q)) (ga_cons m1 (ga_cons m3 ga_nil)) ⟨_, _, dd_ne p q, lt_pow_of (abs_mul_lt bp.d bq.d) (by decide), rfl, by rw [times_eq]⟩) fun z H1 e1 hz => k z H1 e1 hz
theorem sc_over : FnScope ["one", "other"] ["one", "other"] (defScope sOver) := ⟨rfl, rfl, rfl, by decide +kernel, rfl, by decide +kernel, by decide +kernel⟩
theorem ok_over (D : Df K mg "over" sOver ["one", "other"]) (HM : Has P w K mg base "made" ["top", "low"] 1 (spX (dMade K))) : Has P w K mg base "over" ["one", "other"] 2 (spX (dOver K)) :=
  ok_two sc_over D fun fa cdv A outer s H u v E p q R hr hp hu hv k => by
    obtain ⟨⟨bp, bq⟩, h0⟩ := hp
    refine ⟨_, pss_one (ps_ret (pe_c HM hr (by rfl) (pa_cons (pe_op op_mulW (pe_ix ix_tup (pv 0) pe_int (fun _ _ => rfl)) (pe_ix ix_tup (pv 1) pe_int (fun _ _ => rfl)))
      (pa_cons (pe_op op_mulW (pe_ix ix_tup (pv 0) pe_int (fun _ _ => rfl)) (pe_ix ix_tup (pv 1) pe_int (fun _ _ => rfl))) pa_nil)))), ?_⟩
    have a : G (tVar 0) (start ["one", "other"] [u, v]) H (RtM K p) := g_var rfl hu
    have b : G (tVar 1) (start ["one", "other"] [u, v]) H (RtM K q) := g_var rfl hv
    have m1 := g_mulW (g_ixT (i := 0) 0 a rfl) (g_ixT (i := 1) 1 b rfl) bp.n bq.d (by decide) (by decide) (by decide)
    have m3 := g_mulW (g_ixT (i := 1) 1 a rfl) (g_ixT (i := 0) 0 b rfl) bp.d bq.n (by decide) (by decide) (by decide)
    refine s_retG (g_call (P := RtM K (p / q)) (ga_cons m1 (ga_cons m3 ga_nil)) ⟨_, _, dn_ne p h0, lt_pow_of (abs_mul_lt bp.d bq.n) (by decide), rfl, by rw [over_eq]⟩) fun z H1 e1 hz => k z H1 e1 hz
/-! calls of these -/
section
variable {σ : L2.St} {H : Hp} {ta tb tc : TE} {p q r : Rat} {E : XK}
theorem g_c2 {pre : Rat → Rat → Prop} {f : Rat → Rat → Rat} (ha : G ta σ H (RtM K p)) (hb : G tb σ H (RtM K q)) (h : pre p q) : G (tCall (spX (d2 K pre f)) [] E (tCons ta (tCons tb tNil))) σ H (RtM K (f p q)) :=
  g_call (ga_cons ha (ga_cons hb ga_nil)) ⟨p, q, h, rfl, rfl⟩
theorem g_plus {b c : Nat} (ha : G ta σ H (RtM K p)) (hb : G tb σ H (RtM K q)) (h1 : Bd b p) (h2 : Bd c q) (hb1 : b ≤ 4000 := by decide) (hc1 : c ≤ 4000 := by decide) : G (tCall (spX (dPlus K)) [] E (tCons ta (tCons tb tNil))) σ H (RtM K (p + q)) := g_c2 ha hb ⟨h1.mono hb1, h2.mono hc1⟩
theorem g_less {b c : Nat} (ha : G ta σ H (RtM K p)) (hb : G tb σ H (RtM K q)) (h1 : Bd b p) (h2 : Bd c q) (hb1 : b ≤ 4000 := by decide) (hc1 : c ≤ 4000 := by decide) : G (tCall (spX (dLess K)) [] E (tCons ta (tCons tb tNil))) σ H (RtM K (p - q)) := g_c2 ha hb ⟨h1.mono hb1, h2.mono hc1⟩
theorem g_times {b c : Nat} (ha : G ta σ H (RtM K p)) (hb : G tb σ H (RtM K q)) (h1 : Bd b p) (h2 : Bd c q) (hb1 : b ≤ 4000 := by decide) (hc1 : c ≤ 4000 := by decide) : G (tCall (spX (dTimes K)) [] E (tCons ta (tCons tb tNil))) σ H (RtM K (p * q)) := g_c2 ha hb ⟨h1.mono hb1, h2.mono hc1⟩
theorem g_over {b c : Nat} (ha : G ta σ H (RtM K p)) (hb : G tb σ H (RtM K q)) (h1 : Bd b p) (h2 : Bd c q) (h0 : q ≠ 0) (hb1 : b ≤ 4000 := by decide) (hc1 : c ≤ 4000 := by decide) : G (tCall (spX (dOver K)) [] E (tCons ta (tCons tb tNil))) σ H (RtM K (p / q)) := g_c2 ha hb ⟨⟨h1.mono hb1, h2.mono hc1⟩, h0⟩
end
/-! between -/
theorem sc_between : FnScope ["one", "other", "part"] ["one", "other", "part"] (defScope sBetween) := ⟨rfl, rfl, rfl, by decide +kernel, rfl, by decide +kernel, by decide +kernel⟩
theorem ok_between (D : Df K mg "between" sBetween ["one", "other", "part"]) (HP : Has P w K mg base "plus" ["one", "other"] 2 (spX (dPlus K))) (HL : Has P w K mg base "less" ["one", "other"] 2 (spX (dLess K)))
    (HT : Has P w K mg base "times" ["one", "other"] 2 (spX (dTimes K))) : Has P w K mg base "between" ["one", "other", "part"] 3 (spX (dBetween K)) := D.has fun f fd F => by
  refine F.ok sc_between (sp_len fun ps P ⟨_, _, _, _, e, _⟩ => by rw [e]; rfl) (fun cdv A outer s H vs Q E hr h => ?_)
  obtain ⟨ps, R, ⟨p, q, r, ⟨bp, bq, br⟩, rfl, rfl⟩, hv, k⟩ := h
  obtain ⟨x, y, z, rfl, hx, hy, hz⟩ := all3 hv
  refine ⟨_, pss_one (ps_ret (pe_c HP hr (by rfl) (pa_cons (pv 0) (pa_cons (pe_c HT hr (by rfl) (pa_cons (pv 2) (pa_cons (pe_c HL hr (by rfl) (pa_cons (pv 1) (pa_cons (pv 0) pa_nil))) pa_nil))) pa_nil)))), ?_⟩
  refine s_retG (g_plus (g_var rfl hx) (g_times (g_var rfl hz) (g_less (g_var rfl hy) (g_var rfl hx) bq bp) br (bq.sub bp)) bp (br.mul (bq.sub bp))) fun v H1 e1 hv => k v H1 e1 hv
end
end K54
namespace K54
open PySem PySem.Spec PyProof.Rows L2
/-! ### loops that change the lists at ws -/
def Kp (ws : List Addr) (H H' : Hp) : Prop := ∀ b o, H b = some o → b ∉ ws → H' b = some o
theorem Kp.trans {ws : List Addr} {H H1 H2 : Hp} (a : Kp ws H H1) (b : Kp ws H1 H2) : Kp ws H H2 := fun c o e h => b c o (a c o e h) h
theorem Kp.same {ws : List Addr} {H H' : Hp} (a : Same H H') : Kp ws H H' := fun b o e _ => a b o e
theorem Kp.refl {ws : List Addr} (H : Hp) : Kp ws H H := fun _ _ e _ => e
theorem Kp.nil {H H' : Hp} (a : Kp [] H H') : Same H H' := fun b o e => a b o e (by simp)
theorem Kp.mono {ws ws' : List Addr} {H H' : Hp} (a : Kp ws H H') (h : ∀ b ∈ ws, b ∈ ws') : Kp ws' H H' := fun b o e n => a b o e fun z => n (h b z)
def LsAt (ws : List Addr) (H : Hp) : Prop := ∀ b ∈ ws, ∃ xs, H b = some (.lst xs)
theorem LsAt.same {ws : List Addr} {H H' : Hp} (h : LsAt ws H) (e : Same H H') : LsAt ws H' := fun b hb => let ⟨xs, q⟩ := h b hb; ⟨xs, e _ _ q⟩
theorem LsAt.nil {H : Hp} : LsAt [] H := fun _ h => (nomatch h)
theorem LsAt.one {H : Hp} {l : Addr} {xs : List V} (h : H l = some (.lst xs)) : LsAt [l] H := fun b hb => ⟨xs, by rw [List.mem_singleton.mp hb]; exact h⟩
theorem Kp.tk {ws : List Addr} {H H' : Hp} (a : Kp ws H H') (hw : LsAt ws H) : TKp H H' := fun b o e k => a b o e fun hb => by
  obtain ⟨xs, q⟩ := hw b hb
  rw [q] at e
  cases e
  rcases k with ⟨_, z⟩ | ⟨_, _, z⟩ <;> cases z
theorem Kp.set {ws : List Addr} {H H' : Hp} {l : Addr} {ys : List V} (a : Kp ws H H') (h : l ∈ ws) : Kp ws H (upd H' l (.lst ys)) := fun b o e n => by
  have : b ≠ l := fun z => n (by rw [z]; exact h)
  rw [upd_ne this]
  exact a b o e n
theorem Kp.new {ws : List Addr} {H H' : Hp} {p : Addr} {o : HO} (a : Kp ws H H') (h : H' p = none) : Kp ws H (upd H' p o) := a.trans (.same (same_new h))
theorem sql_kp {K : PySem.W.Frag} {ws : List Addr} {H H' : Hp} {a : Addr} {xs : List V} (t : Kp ws H H') (n : a ∉ ws) (h : SqL K H a xs) : SqL K H' a xs := by
  rcases h with (h | ⟨o, h⟩) | h
  · exact .inl (.inl (t _ _ h n))
  · exact .inl (.inr ⟨o, t _ _ h n⟩)
  · exact .inr h
structure SrcOkK (ws : List Addr) (J : It) (qs : List MP) (H2 : Hp) : Prop where
  ok : ∃ (Gd : Hp → Prop) (Y : Nat → Hp → V → Hp → Prop), Walk J qs.length Gd Y ∧ (∀ H3, Kp ws H2 H3 → Gd H3) ∧
    ∀ i x H3 H4, i < qs.length → Kp ws H2 H3 → Y i H3 x H4 → Same H3 H4 ∧ ∀ P : MP, qs[i]? = some P → P.p x H4
def SrcK (ws : List Addr) (wi : TI) (σ : L2.St) (H : Hp) (qs : List MP) : Prop := ∀ H1, Same H H1 → ∀ R : It → Hp → Prop, (∀ J H2, Same H1 H2 → SrcOkK ws J qs H2 → R J H2) → wi σ H1 R
section
variable {K : PySem.W.Frag} {σ : L2.St} {H : Hp} {ta tb : TE} {ps qs : List MP} {ws : List Addr} {wi : TI}
theorem Src.k (S : Src wi σ H qs) : SrcK [] wi σ H qs := fun H1 e R r => S H1 e R fun J H2 e2 ⟨Gd, Y, w, g, y⟩ => r J H2 e2 ⟨Gd, Y, w, fun H3 k => g H3 k.nil, fun i x H3 H4 hi k hy => y i x H3 H4 hi k.nil hy⟩
theorem srck_rng (lo : Int) (n : Nat) (J : It) (hJ : J = Itr lo n) (H2 : Hp) : SrcOkK ws J (rngM lo n) H2 := by
  subst hJ
  refine ⟨⟨fun _ => True, YFn fun i => .int (lo + i), by rw [rngM_len]; exact walk_range, fun _ _ => trivial, fun i x H3 H4 hi e3 y => ?_⟩⟩
  obtain ⟨rfl, rfl⟩ := y
  exact ⟨Same.refl _, fun P hP => by
    obtain ⟨_, rfl⟩ := rngM_get hP
    rfl⟩
theorem srck_rng1 {n : Nat} (h : G ta σ H (IM (n : Int))) (hn : n ≤ 100000 := by decide) : SrcK ws (iRng1 (tCons ta tNil)) σ H (rngM 0 n) := fun H1 e R r =>
  h H1 e _ fun v H2 e2 hv => ⟨(n : Int), by rw [show v = V.int n from hv], by omega, by omega, r _ H2 e2 (srck_rng 0 n _ (by rw [Int.toNat_natCast]) H2)⟩
theorem srck_rng2 {i j : Int} (n : Nat) (ha : G ta σ H (IM i)) (hb : G tb σ H (IM j)) (hi : -100000 ≤ i ∧ i ≤ 100000) (hj : -100000 ≤ j ∧ j ≤ 100000) (hn : (j - i).toNat = n) : SrcK ws (iRng2 (tCons ta (tCons tb tNil))) σ H (rngM i n) := fun H1 e R r =>
  ha H1 e _ fun v H2 e2 hv => hb H2 (e.trans e2) _ fun u H3 e3 hu => ⟨i, j, by rw [show v = V.int i from hv, show u = V.int j from hu], by omega, r _ H3 (e2.trans e3) (srck_rng i n _ (by rw [hn]) H3)⟩
theorem srck_list {a : Addr} {xs : List V} (h : G ta σ H (EqM (.ref a))) (hs : SqL K H a xs) (hx : AllP qs xs H) (hw : LsAt ws H) (hn : a ∉ ws) : SrcK ws (iList K ta) σ H qs := fun H1 e R r =>
  h H1 e _ fun v H2 e2 hv => by
    have hv' : v = .ref a := hv
    subst hv'
    have s2 : SqL K H2 a xs := (e.trans e2).seq hs
    have hl := hx.length
    have hw2 := hw.same (e.trans e2)
    refine ⟨a, rfl, ⟨xs, s2⟩, r _ H2 e2 ⟨_, _, hl ▸ walk_list, fun H3 e3 => sql_kp e3 hn s2, fun i x H3 H4 hi e3 y => ?_⟩⟩
    obtain ⟨rfl, y⟩ := y
    refine ⟨Same.refl _, fun P hP => ?_⟩
    obtain ⟨w, hw', pw⟩ := hx.get hP
    rw [y] at hw'
    have : x = w := Option.some.inj hw'
    subst this
    exact P.mono _ _ _ (e3.tk hw2) (P.mono _ _ _ (.same (e.trans e2)) pw)
/-- zip of two tuples -/
theorem srck_zipT (ha : G ta σ H (Tp K ps)) (hb : G tb σ H (Tp K qs)) (hl : ps.length = qs.length) (hw : LsAt ws H) : SrcK ws (iZipX false false K (tCons ta (tCons tb tNil))) σ H (zipM K ps qs) := fun H1 e R r =>
  ha H1 e _ fun v H2 e2 hv => hb H2 (e.trans e2) _ fun u H3 e3 hu => by
    obtain ⟨a, xs, rfl, sa, hx⟩ := (Tp K ps).mono _ _ _ (.same e3) hv
    obtain ⟨b, ys, rfl, sb, hy⟩ := hu
    have l1 := hx.length
    have l2 := hy.length
    have hw3 := hw.same ((e.trans e2).trans e3)
    have ln : (zipM K ps qs).length = ps.length := by unfold zipM; simp [hl]
    refine ⟨a, b, xs, ys, rfl, sa, sb, r _ H3 (e2.trans e3) ⟨_, _, walk_zipX (l1.trans ln.symm) (l2.trans (hl.symm.trans ln.symm)), fun H4 e4 => ⟨sqt_ts (e4.tk hw3) sa, sqt_ts (e4.tk hw3) sb⟩, fun i x H4 H5 hi e4 y => ?_⟩⟩
    obtain ⟨T, x1, y1, rfl, nT, rfl, f1, f2⟩ := y
    refine ⟨same_new nT, fun P hP => ?_⟩
    unfold zipM at hP
    rw [List.getElem?_zipWith] at hP
    rw [ln] at hi
    rw [List.getElem?_eq_getElem hi, List.getElem?_eq_getElem (show i < qs.length by omega)] at hP
    have hP' : Tp K [ps[i], qs[i]] = P := Option.some.inj hP
    subst hP'
    obtain ⟨w1, hw1, pw1⟩ := hx.get (List.getElem?_eq_getElem hi)
    obtain ⟨w2, hw2, pw2⟩ := hy.get (List.getElem?_eq_getElem (show i < qs.length by omega))
    have f1' : xs[i]? = some x1 := f1
    have f2' : ys[i]? = some y1 := f2
    rw [f1'] at hw1
    rw [f2'] at hw2
    cases hw1
    cases hw2
    have es : TKp H3 (upd H4 T (.tup [x1, y1])) := (e4.tk hw3).trans (.same (same_new nT))
    exact ⟨T, [x1, y1], rfl, SqT.of upd_same, MP.mono _ _ _ _ es pw1, MP.mono _ _ _ _ es pw2, trivial⟩
/-- enumerate of a list -/
theorem srck_enumL {a : Addr} {xs : List V} (h : G ta σ H (EqM (.ref a))) (hs : SqL K H a xs) (hx0 : AllP ps xs H) (hw : LsAt ws H) (hn : a ∉ ws) : SrcK ws (iEnumX true K (tCons ta tNil)) σ H (enumM K ps) := fun H1 e R r =>
  h H1 e _ fun v H2 e2 hv => by
    have hv' : v = .ref a := hv
    subst hv'
    have sa : SqL K H2 a xs := (e.trans e2).seq hs
    have hx := hx0.mono (.same (e.trans e2))
    have hw3 := hw.same (e.trans e2)
    have l1 := hx.length
    have ln : (enumM K ps).length = ps.length := by unfold enumM; simp
    refine ⟨a, xs, rfl, sa, r _ H2 e2 ⟨_, _, walk_enumX (l1.trans ln.symm), fun H4 e4 => sql_kp e4 hn sa, fun i x H4 H5 hi e4 y => ?_⟩⟩
    obtain ⟨T, x1, y1, rfl, nT, rfl, f1, f2⟩ := y
    refine ⟨same_new nT, fun P hP => ?_⟩
    unfold enumM at hP
    rw [List.getElem?_mapIdx] at hP
    rw [ln] at hi
    rw [List.getElem?_eq_getElem hi] at hP
    have hP' : Tp K [IM (i : Int), ps[i]] = P := Option.some.inj hP
    subst hP'
    obtain ⟨w1, hw1, pw1⟩ := hx.get (List.getElem?_eq_getElem hi)
    have f2' : xs[i]? = some y1 := f2
    rw [f2'] at hw1
    cases hw1
    have f1' : V.int i = x1 := Option.some.inj f1
    subst f1'
    have es : TKp H2 (upd H4 T (.tup [.int i, y1])) := (e4.tk hw3).trans (.same (same_new nT))
    exact ⟨T, [.int i, y1], rfl, SqT.of upd_same, rfl, MP.mono _ _ _ _ es pw1, trivial⟩
/-- the loop: Pv by the turn; behind a turn what is outside ws stands (Hb: the heap ahead of the first turn) -/
theorem s_for {g : TG} {tb : L2.TS} {D : Ends} (S : SrcK ws wi σ H qs) (Pv : Nat → L2.St → Hp → Prop) (h0 : ∀ H2, Same H H2 → Pv 0 σ H2)
    (turn : ∀ Hb (i : Nat) x σ1 H3 H4 P, Same H Hb → qs[i]? = some P → Kp ws Hb H3 → Pv i σ1 H3 → Same H3 H4 → P.p x H4 →
      g x σ1 H4 fun σ2 H5 => tb { D with nx := fun σ3 H6 => Kp ws Hb H6 ∧ Pv (i + 1) σ3 H6, ct := fun σ3 H6 => Kp ws Hb H6 ∧ Pv (i + 1) σ3 H6, bk := D.nx } σ2 H5)
    (hd : ∀ σ1 H3, Kp ws H H3 → Pv qs.length σ1 H3 → D.nx σ1 H3) : tFor wi g tb D σ H := S H (Same.refl H) _ fun J H2 e2 ⟨Gd, Y, w, hG, hY⟩ =>
  for_it w (g := g) (tb := tb) (D := D) (σ := σ) (H := H2) (fun i σ1 H3 => Kp ws H2 H3 ∧ Pv i σ1 H3) ⟨Kp.refl _, h0 H2 e2⟩ (fun i σ1 H3 _ h => hG H3 h.1)
    (fun i x σ1 H3 H4 hi hp hy => by
      obtain ⟨k3, pv⟩ := hp
      obtain ⟨e4, hx⟩ := hY i x H3 H4 hi k3 hy
      exact turn H2 i x σ1 H3 H4 _ e2 (List.getElem?_eq_getElem hi) k3 pv e4 (hx _ (List.getElem?_eq_getElem hi))) (fun σ1 H3 h => hd σ1 H3 ((Kp.same e2).trans h.1) h.2)
end
end K54
namespace K54
open PySem PySem.Spec PyProof.Rows L2
theorem map_get {α β : Type} {l : List α} {f : α → β} {i : Nat} {y : β} (h : (l.map f)[i]? = some y) : ∃ x, l[i]? = some x ∧ y = f x := by
  rw [List.getElem?_map] at h
  cases e : l[i]? with
  | none => rw [e] at h; cases h
  | some x => rw [e] at h; exact ⟨x, rfl, (Option.some.inj h).symm⟩
section
variable {P : Program} {w : World} {K : PySem.W.Frag} {mg : Str → Option Value} {base : Heap}
/-! are_ratios -/
def dAre (K : PySem.W.Frag) : List MP → MP → Prop := fun ps P => ∃ qs : List Rat, qs.length ≤ 100 ∧ ps = [Tp K (qs.map (RtM K)), IM (qs.length : Int)] ∧ P = BM true
theorem sc_are : FnScope ["value", "many", "one"] ["value", "many"] (defScope sAreRatios) := ⟨rfl, rfl, rfl, by decide +kernel, rfl, by decide +kernel, by decide +kernel⟩
theorem all_rep (n : Nat) : (List.replicate n true).all id = true := by
  rw [List.all_eq_true]
  intro x hx
  exact (List.mem_replicate.mp hx).2
theorem ok_are (D : Df K mg "are_ratios" sAreRatios ["value", "many"]) (T : Txt K mg) (HI : Has P w K mg base "is_ratio" ["value"] 2 (spX (dIsRatio K))) : Has P w K mg base "are_ratios" ["value", "many"] 3 (spX (dAre K)) := D.has fun f fd F => by
  refine F.ok sc_are (sp_len fun ps P ⟨i, _, e, _⟩ => by rw [e]; rfl) (fun cdv A outer s H vs Q E hr h => ?_)
  obtain ⟨ps, R, ⟨qs, hl, rfl, rfl⟩, hv, k⟩ := h
  obtain ⟨x, y, rfl, hx, hy⟩ := all2 hv
  refine ⟨_, pss_one (ps_ret (pe_and (pe_callB call_isi (by rfl) T.isinst boot_isinstance (pa_cons (pv 0) (pa_cons (pe_bltn (v := .ty "tuple") (by rfl) T.tuple PyProof.Rows.boot_tuple rfl) pa_nil)))
    (pe_and (pe_cmpR op_eq (pe_callB call_len_seq (by rfl) T.len PySem.boot_len (pa_cons (pv 0) pa_nil)) (pv 1) (nomark _))
    (pe_one (pe_callB (cr_all rfl) (by rfl) T.all boot_all (pa_cons (pe_lc (own := [("one", 2)]) (g := gName 2) (tt := tYes) rfl sc_are.nd (pi_tup (pv 0)) (blkOk_by (N := ["value", "many", "one"]) (sc := defScope sAreRatios) (by decide +kernel))
      (fun _ _ _ _ _ => pg_name (i := 2) sc_are.nd rfl (Or.inl rfl)) (fun _ _ _ _ _ => pts_nil) (fun _ _ _ _ _ => pe_c HI hr (by rfl) (pa_cons (pv 2) pa_nil))) pa_nil)))))), ?_⟩
  have h1 : G (tVar 0) (start ["value", "many", "one"] [x, y]) H (Tp K (qs.map (RtM K))) := g_var rfl hx
  have h2 : G (tVar 1) (start ["value", "many", "one"] [x, y]) H (IM (qs.length : Int)) := g_var rfl hy
  have b2 := g_eqI (g_lenT h1) h2
  rw [List.length_map, decide_eq_true rfl] at b2
  have b3 : GL (tLc (iTup K (tVar 0)) (gName 2) tYes (tCall (spX (dIsRatio K)) [] E0 (tCons (tVar 2) tNil)) [2]) (start ["value", "many", "one"] [x, y]) H ((List.replicate qs.length true).map BM) :=
    gl_lc (src_tup h1) (by simp) (by rw [List.length_map]; omega) fun i z H' P' Q' hP hQ e hz => by
      obtain ⟨q, _, rfl⟩ := map_get hP
      obtain ⟨b, hb, rfl⟩ := map_get hQ
      have hb' : b = true := (List.mem_replicate.mp (List.mem_of_getElem? hb)).2
      subst hb'
      exact ⟨_, gg_name, rfl, gt_yes, g_call (P := BM true) (ga_cons (g_var rfl hz) ga_nil) ⟨q, rfl, rfl⟩⟩
  have b4 := g_all (K := K) b3
  rw [all_rep] at b4
  exact s_retG (P := BM true) (g_eq (g_and (g_isi h1 (fun v H' e => tyx_tp e) (b := true) (by decide +kernel)) fun _ => g_and b2 fun _ => b4) rfl) fun v H1 e1 hv => k v H1 e1 hv
/-! need_points -/
def dNeedPts (K : PySem.W.Frag) : List MP → MP → Prop := fun ps P => ∃ pts : List Pt, pts.length ≤ 100 ∧ ps = [Tp K (pts.map (PtM K)), IM (pts.length : Int)] ∧ P = EqM .non
theorem sc_needPts : FnScope ["value", "many", "index", "point"] ["value", "many"] (defScope sNeedPoints) := ⟨rfl, rfl, rfl, by decide +kernel, rfl, by decide +kernel, by decide +kernel⟩
theorem ok_needPts (D : Df K mg "need_points" sNeedPoints ["value", "many"]) (T : Txt K mg) (HA : Has P w K mg base "are_ratios" ["value", "many"] 3 (spX (dAre K))) : Has P w K mg base "need_points" ["value", "many"] 4 (spX (dNeedPts K)) := D.has fun f fd F => by
  refine F.ok sc_needPts (sp_len fun ps P ⟨i, _, e, _⟩ => by rw [e]; rfl) (fun cdv A outer s H vs Q E hr h => ?_)
  obtain ⟨ps, R, ⟨pts, hl, rfl, rfl⟩, hv, k⟩ := h
  obtain ⟨x, y, rfl, hx, hy⟩ := all2 hv
  refine ⟨_, pss_cons (ps_if (PW.pt (pw_or (pt_not (pt_val (pe_callB call_isi (by rfl) T.isinst boot_isinstance (pa_cons (pv 0) (pa_cons (pe_bltn (v := .ty "tuple") (by rfl) T.tuple PyProof.Rows.boot_tuple rfl) pa_nil)))))
      (pw_or1 (pt_cmpR op_ne (pe_callB call_len_seq (by rfl) T.len PySem.boot_len (pa_cons (pv 0) pa_nil)) (pv 1) (nomark _))))) pss_never pss_nil)
    (pss_one (ps_for PassesOwn.never rfl (pi_enumX false (by rfl) T.enum (pa_cons (pv 0) pa_nil)) (pg_tup rfl (pgs_cons (pg_name (i := 2) sc_needPts.nd rfl (.inl rfl)) (pgs_cons (pg_name (i := 3) sc_needPts.nd rfl (.inl rfl)) pgs_nil)))
      (pss_one (ps_if (pt_not (pt_val (pe_c HA hr (by rfl) (pa_cons (pv 3) (pa_cons pe_int pa_nil))))) pss_never pss_nil)))), ?_⟩
  have h1 : G (tVar 0) (start ["value", "many", "index", "point"] [x, y]) H (Tp K (pts.map (PtM K))) := g_var rfl hx
  have h2 : G (tVar 1) (start ["value", "many", "index", "point"] [x, y]) H (IM (pts.length : Int)) := g_var rfl hy
  have b2 := g_neI (g_lenT h1) h2
  rw [List.length_map] at b2
  refine s_ifF (gt_or (a := false) (b := false) (gt_not (a := true) (gt_val (g_isi h1 (fun v H' e => tyx_tp e) (b := true) (by decide +kernel)))) fun _ => gt_test (g_eq b2 (by simp))) fun H1 e1 => ?_
  refine s_for (ws := []) (src_enum (gh_T (h1.up e1))).k (fun i σ H2 => ∃ a b, σ = [some x, some y, a, b]) (fun H2 e2 => ⟨none, none, rfl⟩) (fun Hb i z σ H3 H4 P' hb hP k3 hp e4 hz => ?_) fun σ H3 k3 hp => k _ H3 (e1.trans k3.nil) rfl
  obtain ⟨a, b, rfl⟩ := hp
  have hP' : ∃ p : Pt, P' = Tp K [IM (i : Int), PtM K p] := by
    unfold enumM at hP
    rw [List.getElem?_mapIdx] at hP
    cases e : (pts.map (PtM K))[i]? with
    | none => rw [e] at hP; cases hP
    | some Pm =>
      obtain ⟨p, _, rfl⟩ := map_get e
      rw [e] at hP
      exact ⟨p, (Option.some.inj hP).symm⟩
  obtain ⟨p, rfl⟩ := hP'
  obtain ⟨t, u, v, rfl, hs, hu, hv⟩ := tp2 hz
  refine gg_tup2 hs gg_name gg_name _ ?_
  refine s_ifF (gt_not (a := true) (gt_val (g_call (P := BM true) (ga_cons (g_var rfl hv) (ga_cons g_int ga_nil)) ⟨[p.1, p.2], by simp, rfl, rfl⟩))) fun H5 e5 => ⟨k3.trans (.same (e4.trans e5)), _, _, rfl⟩
/-! need_weights -/
def dNeedW (K : PySem.W.Frag) : List MP → MP → Prop := fun ps P => ∃ u v w : Rat, 0 < u.num ∧ 0 < v.num ∧ 0 < w.num ∧ ps = [Tp K [RtM K u, RtM K v, RtM K w]] ∧ P = EqM .non
theorem sc_needW : FnScope ["value", "one"] ["value"] (defScope sNeedWeights) := ⟨rfl, rfl, rfl, by decide +kernel, rfl, by decide +kernel, by decide +kernel⟩
theorem ok_needW (D : Df K mg "need_weights" sNeedWeights ["value"]) (T : Txt K mg) (HA : Has P w K mg base "are_ratios" ["value", "many"] 3 (spX (dAre K))) : Has P w K mg base "need_weights" ["value"] 4 (spX (dNeedW K)) := D.has fun f fd F => by
  refine F.ok sc_needW (sp_len fun ps P ⟨_, _, _, _, _, _, e, _⟩ => by rw [e]; rfl) (fun cdv A outer s H vs Q E hr h => ?_)
  obtain ⟨ps, R, ⟨u, v, w', pu, pv', pw, rfl, rfl⟩, hv, k⟩ := h
  obtain ⟨x, rfl, hx⟩ := all1 hv
  refine ⟨_, pss_one (ps_if (PW.pt (pw_or (pt_not (pt_val (pe_c HA hr (by rfl) (pa_cons (pv 0) (pa_cons pe_int pa_nil)))))
      (pw_or1 (pt_not (pt_val (pe_callB (cr_all rfl) (by rfl) T.all boot_all (pa_cons (pe_lc (own := [("one", 1)]) (g := gName 1) (tt := tYes) rfl sc_needW.nd (pi_tup (pv 0)) (blkOk_by (N := ["value", "one"]) (sc := defScope sNeedWeights) (by decide +kernel))
      (fun _ _ _ _ _ => pg_name (i := 1) sc_needW.nd rfl (Or.inl rfl)) (fun _ _ _ _ _ => pts_nil) (fun _ _ _ _ _ => pe_cmpR op_gt (pe_ix (r := rIxT K) ix_tup (pv 1) pe_int (fun _ _ => rfl)) pe_int (nomark _))) pa_nil))))))) pss_never pss_nil), ?_⟩
  have h1 : G (tVar 0) (start ["value", "one"] [x]) H (Tp K ([u, v, w'].map (RtM K))) := g_var rfl hx
  have b3 : GL (tLc (iTup K (tVar 0)) (gName 1) tYes (tOp (rI0 fun i j => V.bl (decide (j < i))) (tOp (rIxT K) (tVar 1) (tC (.int 0))) (tC (.int 0))) [1]) (start ["value", "one"] [x]) H ([true, true, true].map BM) :=
    gl_lc (src_tup h1) rfl (by simp) fun i z H' P' Q' hP hQ e hz => by
      obtain ⟨q, hq, rfl⟩ := map_get hP
      obtain ⟨b, hb, rfl⟩ := map_get hQ
      have hb' : b = true := by
        have := List.mem_of_getElem? hb
        simpa using this
      subst hb'
      have hq' : 0 < q.num := by
        have := List.mem_of_getElem? hq
        simp only [List.mem_cons, List.not_mem_nil, or_false] at this
        rcases this with rfl | rfl | rfl <;> assumption
      refine ⟨_, gg_name, rfl, gt_yes, g_eq (g_I0 (g_ixT (i := 0) (P := IM q.num) 0 (g_var rfl hz) rfl) (g_int (i := 0))) ?_⟩
      rw [decide_eq_true hq']
  refine s_ifF (gt_or (a := false) (b := false) (gt_not (a := true) (gt_val (g_call (P := BM true) (ga_cons h1 (ga_cons g_int ga_nil)) ⟨[u, v, w'], by simp, rfl, rfl⟩))) fun _ => gt_not (a := true) (gt_val (g_all (K := K) b3))) fun H1 e1 => k _ H1 e1 rfl
/-! point_of -/
def TrM (K : PySem.W.Frag) (t : Rat × Rat × Rat) : MP := Tp K [RtM K t.1, RtM K t.2.1, RtM K t.2.2]
def dPointOf (K : PySem.W.Frag) : List MP → MP → Prop := fun ps P => ∃ t : Rat × Rat × Rat, Bd 1000 t.1 ∧ Bd 1000 t.2.1 ∧ Bd 1000 t.2.2 ∧ ps = [TrM K t] ∧ P = if t.2.2 = 0 then EqM .non else PtM K (t.1 / t.2.2, t.2.1 / t.2.2)
theorem sc_pointOf : FnScope ["told"] ["told"] (defScope sPointOf) := ⟨rfl, rfl, rfl, by decide +kernel, rfl, by decide +kernel, by decide +kernel⟩
theorem Txt.zeroR {K : PySem.W.Frag} {mg : Str → Option Value} (T : Txt K mg) : ∃ z, mg "ZERO" = some (.ref z) ∧ ∀ H, (RtM K 0).p (.ref z) H := by
  obtain ⟨z, h1, h2⟩ := T.zero
  exact ⟨z, h1, fun H => ⟨z, _, rfl, h2 H, rfl, rfl, trivial⟩⟩
theorem Txt.oneR {K : PySem.W.Frag} {mg : Str → Option Value} (T : Txt K mg) : ∃ z, mg "ONE" = some (.ref z) ∧ ∀ H, (RtM K 1).p (.ref z) H := by
  obtain ⟨z, h1, h2⟩ := T.one
  exact ⟨z, h1, fun H => ⟨z, _, rfl, h2 H, rfl, rfl, trivial⟩⟩
theorem ok_pointOf (D : Df K mg "point_of" sPointOf ["told"]) (T : Txt K mg) (HO : Has P w K mg base "over" ["one", "other"] 2 (spX (dOver K))) : Has P w K mg base "point_of" ["told"] 3 (spX (dPointOf K)) := D.has fun f fd F => by
  refine F.ok sc_pointOf (sp_len fun ps P ⟨_, _, _, _, e, _⟩ => by rw [e]; rfl) (fun cdv A outer s H vs Q E hr h => ?_)
  obtain ⟨ps, R, ⟨t, b0, b1, b2, rfl, rfl⟩, hv, k⟩ := h
  obtain ⟨x, rfl, hx⟩ := all1 hv
  obtain ⟨z, gz, hz⟩ := T.zeroR
  refine ⟨_, pss_one (ps_ret (pe_ifExp (pt_cmpR (op_neD hr.units) (pe_ix ix_tup (pv 0) pe_int (fun _ _ => rfl)) (pe_glob (v := .ref z) (by rfl) gz rfl) (nomark _))
    (pe_tup (pa_cons (pe_c HO hr (by rfl) (pa_cons (pe_ix ix_tup (pv 0) pe_int (fun _ _ => rfl)) (pa_cons (pe_ix ix_tup (pv 0) pe_int (fun _ _ => rfl)) pa_nil)))
      (pa_cons (pe_c HO hr (by rfl) (pa_cons (pe_ix ix_tup (pv 0) pe_int (fun _ _ => rfl)) (pa_cons (pe_ix ix_tup (pv 0) pe_int (fun _ _ => rfl)) pa_nil))) pa_nil))) pe_non)), ?_⟩
  have h1 : G (tVar 0) (start ["told"] [x]) H (TrM K t) := g_var rfl hx
  have i0 : G (tOp (rIxT K) (tVar 0) (tC (.int 0))) (start ["told"] [x]) H (RtM K t.1) := g_ixT 0 h1 rfl
  have i1 : G (tOp (rIxT K) (tVar 0) (tC (.int 1))) (start ["told"] [x]) H (RtM K t.2.1) := g_ixT 1 h1 rfl
  have i2 : G (tOp (rIxT K) (tVar 0) (tC (.int 2))) (start ["told"] [x]) H (RtM K t.2.2) := g_ixT 2 h1 rfl
  have ht := gt_test (g_neR i2 (g_c (hz H)))
  by_cases h0 : t.2.2 = 0
  · rw [if_pos h0] at k
    rw [decide_eq_false (fun z => z h0)] at ht
    exact s_retG (P := EqM .non) (g_ifF ht (g_c rfl)) fun v H1 e1 hv => k v H1 e1 hv
  · rw [if_neg h0] at k
    rw [decide_eq_true h0] at ht
    exact s_retG (g_ifT ht (g_tup (K := K) (ga_cons (g_over i0 i2 b0 b2 h0) (ga_cons (g_over i1 i2 b1 b2 h0) ga_nil)))) fun v H1 e1 hv => k v H1 e1 hv
end
end K54
namespace K54
open PySem PySem.Spec PyProof.Rows L2
def spH (D : List MP → (V → Hp → Prop) → Prop) : Sp := fun vs H Q _ => ∃ ps R, D ps R ∧ AllP ps vs H ∧ ∀ v H', Same H H' → R v H' → Q v H'
theorem sph_len {D : List MP → (V → Hp → Prop) → Prop} {n : Nat} (h : ∀ ps P, D ps P → ps.length = n) : ∀ vs H Q E, spH D vs H Q E → vs.length = n := fun vs H Q E ⟨ps, P, d, a, _⟩ => a.length.trans (h ps P d)
abbrev Tr := Rat × Rat × Rat
def trB (a b : Tr) (t : Rat) : Tr := (btw a.1 b.1 t, btw a.2.1 b.2.1 t, btw a.2.2 b.2.2 t)
def trStep (L : List Tr) (t : Rat) : List Tr := List.zipWith (fun a b => trB a b t) L L.tail
def lv (L : List Tr) (t : Rat) : Nat → List Tr
  | 0 => L
  | k + 1 => trStep (lv L t k) t
def TrBd (b : Nat) (x : Tr) : Prop := Bd b x.1 ∧ Bd b x.2.1 ∧ Bd b x.2.2
theorem lv_len {L : List Tr} {t : Rat} : ∀ k, (lv L t k).length = L.length - k
  | 0 => rfl
  | k + 1 => by
    show (trStep (lv L t k) t).length = _
    unfold trStep
    rw [List.length_zipWith, List.length_tail, lv_len k]
    omega
theorem trStep_get {L : List Tr} {t : Rat} {i : Nat} {a b : Tr} (ha : L[i]? = some a) (hb : L[i + 1]? = some b) : (trStep L t)[i]? = some (trB a b t) := by
  unfold trStep
  rw [List.getElem?_zipWith, List.getElem?_tail, ha, hb]
section
variable {K : PySem.W.Frag} {σ : L2.St} {H : Hp} {ta te : TE} {P : MP} {D : Ends}
theorem s_app {l : Addr} {xs : List V} (hl : H l = some (.lst xs)) (ha : G ta σ H (EqM (.ref l))) (h : G te σ H P) (hz : xs.length < 100000) (k : ∀ v H1, Same H H1 → P.p v H1 → D.nx σ (upd H1 l (.lst (xs ++ [v])))) :
    tDrop (tBM K "list" rAppend ta (tCons te tNil)) D σ H := ha H (Same.refl H) _ fun x H1 e1 hx => by
  have hx' : x = .ref l := hx
  subst hx'
  exact ⟨Or.inl ⟨rfl, xs, SqL.of (e1 l _ hl)⟩, h H1 e1 _ fun v H2 e2 hv => ⟨l, xs, v, rfl, rfl, e2 l _ (e1 l _ hl), Evl.sz_lt hz, k v H2 (e1.trans e2) hv⟩⟩
theorem s_appL {l : Addr} {xs : List V} {ps : List MP} (hl : H l = some (.lst xs)) (ha : G ta σ H (EqM (.ref l))) (h : GL te σ H ps) (hz : xs.length < 100000) (k : ∀ p ys H1, H p = none → Same H H1 → H1 p = some (.lst ys) → AllP ps ys H1 → D.nx σ (upd H1 l (.lst (xs ++ [.ref p])))) :
    tDrop (tBM K "list" rAppend ta (tCons te tNil)) D σ H := ha H (Same.refl H) _ fun x H1 e1 hx => by
  have hx' : x = .ref l := hx
  subst hx'
  exact ⟨Or.inl ⟨rfl, xs, SqL.of (e1 l _ hl)⟩, h H1 e1 _ fun p ys H2 hp e2 hpl hy => ⟨l, xs, .ref p, rfl, rfl, e2 l _ (e1 l _ hl), Evl.sz_lt hz, k p ys H2 (Evl.fresh_back e1 hp) (e1.trans e2) hpl hy⟩⟩
theorem s_setLL {i : Nat} {ps : List MP} (h : GL te σ H ps) (k : ∀ l xs p H1, H l = none → H p = none → p ≠ l → Same H H1 → H1 l = some (.lst xs) → AllP ps xs H1 → H1 p = some (.lst [.ref l]) → D.nx (σ.set i (some (.ref p))) H1) :
    tAsg (tLst (tCons te tNil)) (gName i) D σ H := h H (Same.refl H) _ fun l xs H1 hl e1 hl1 hx => ⟨by show 1 ≤ sizeLine; decide, fun p hp => by
  have npl : l ≠ p := ne_of_none hl1 hp
  exact k l xs p _ hl (e1.free hp) npl.symm (e1.trans (same_new hp)) (by rw [upd_ne npl]; exact hl1) (hx.mono (.same (same_new hp))) upd_same⟩
theorem zip3 {a b c a' b' c' : MP} : zipM K [a, b, c] [a', b', c'] = [Tp K [a, a'], Tp K [b, b'], Tp K [c, c']] := rfl
end
section
variable {P : Program} {w : World} {K : PySem.W.Frag} {mg : Str → Option Value} {base : Heap}
/-! ladder_of -/
def rowsOf (A B C : Pt) (u v w : Rat) : List Tr := [(u * A.1, u * A.2, u), (v * B.1, v * B.2, v), (w * C.1, w * C.2, w)]
def ldr (A B C : Pt) (u v w t : Rat) : Tr := (lad (u * A.1) (v * B.1) (w * C.1) t, lad (u * A.2) (v * B.2) (w * C.2) t, lad u v w t)
theorem lv2 (A B C : Pt) (u v w t : Rat) : lv (rowsOf A B C u v w) t 2 = [ldr A B C u v w t] := rfl
structure CBd (A B C : Pt) (u v w t : Rat) : Prop where
  a : Bd 10 A.1 ∧ Bd 10 A.2
  b : Bd 10 B.1 ∧ Bd 10 B.2
  c : Bd 10 C.1 ∧ Bd 10 C.2
  u : Bd 10 u
  v : Bd 10 v
  w : Bd 10 w
  t : Bd 10 t
theorem trB_bd {b : Nat} {x y : Tr} {t : Rat} (hx : TrBd b x) (hy : TrBd b y) (ht : Bd 10 t) : TrBd (b + (10 + (b + b + 1)) + 1) (trB x y t) :=
  ⟨hx.1.add (ht.mul (hy.1.sub hx.1)), hx.2.1.add (ht.mul (hy.2.1.sub hx.2.1)), hx.2.2.add (ht.mul (hy.2.2.sub hx.2.2))⟩
theorem rows_bd {A B C : Pt} {u v w t : Rat} (h : CBd A B C u v w t) : ∀ x ∈ rowsOf A B C u v w, TrBd 20 x := fun x hx => by
  unfold rowsOf at hx
  simp only [List.mem_cons, List.not_mem_nil, or_false] at hx
  rcases hx with rfl | rfl | rfl
  · exact ⟨h.u.mul h.a.1, h.u.mul h.a.2, h.u.mono (by decide)⟩
  · exact ⟨h.v.mul h.b.1, h.v.mul h.b.2, h.v.mono (by decide)⟩
  · exact ⟨h.w.mul h.c.1, h.w.mul h.c.2, h.w.mono (by decide)⟩
theorem step_bd {b : Nat} {L : List Tr} {t : Rat} (h : ∀ x ∈ L, TrBd b x) (ht : Bd 10 t) : ∀ x ∈ trStep L t, TrBd (b + (10 + (b + b + 1)) + 1) x := fun x hx => by
  unfold trStep at hx
  obtain ⟨i, hi⟩ := List.mem_iff_getElem?.mp hx
  rw [List.getElem?_zipWith] at hi
  cases e1 : L[i]? with
  | none => rw [e1] at hi; cases hi
  | some a =>
    cases e2 : L.tail[i]? with
    | none => rw [e1, e2] at hi; cases hi
    | some c =>
      rw [e1, e2] at hi
      have e : trB a c t = x := Option.some.inj hi
      rw [← e]
      exact trB_bd (h a (List.mem_of_getElem? e1)) (h c (List.mem_of_mem_tail (List.mem_of_getElem? e2))) ht
theorem lv_bd {A B C : Pt} {u v w t : Rat} (h : CBd A B C u v w t) {k : Nat} (hk : k ≤ 2) : ∀ x ∈ lv (rowsOf A B C u v w) t k, TrBd 300 x := by
  have b0 := rows_bd h
  have b1 := step_bd b0 h.t
  have b2 := step_bd b1 h.t
  have up : ∀ {b : Nat} {x : Tr}, TrBd b x → b ≤ 300 → TrBd 300 x := fun hx hb => ⟨hx.1.mono hb, hx.2.1.mono hb, hx.2.2.mono hb⟩
  match k, hk with
  | 0, _ => exact fun x hx => up (b0 x hx) (by decide)
  | 1, _ => exact fun x hx => up (b1 x hx) (by decide)
  | 2, _ => exact fun x hx => up (b2 x hx) (by decide)
def dLadder (K : PySem.W.Frag) : List MP → (V → Hp → Prop) → Prop := fun ps R => ∃ (A B C : Pt) (u v w t : Rat), CBd A B C u v w t ∧ ps = [Tp K [PtM K A, PtM K B, PtM K C], Tp K [RtM K u, RtM K v, RtM K w], RtM K t] ∧
  R = fun x H => ∃ (Fa l : Addr) (ini : List V) (y : V), x = .ref Fa ∧ H Fa = some (.lst (ini ++ [.ref l])) ∧ H l = some (.lst [y]) ∧ (TrM K (ldr A B C u v w t)).p y H
abbrev nLadder : List Str := ["points", "weights", "t", "found", "last", "later", "at", "x", "y", "w", "one", "other"]
theorem sc_ladder : FnScope nLadder ["points", "weights", "t"] (defScope sLadder) := ⟨rfl, rfl, rfl, by decide +kernel, rfl, by decide +kernel, by decide +kernel⟩
theorem ok_ladder (D : Df K mg "ladder_of" sLadder ["points", "weights", "t"]) (T : Txt K mg) (HT : Has P w K mg base "times" ["one", "other"] 2 (spX (dTimes K))) (HB : Has P w K mg base "between" ["one", "other", "part"] 3 (spX (dBetween K))) :
    Has P w K mg base "ladder_of" ["points", "weights", "t"] 4 (spH (dLadder K)) := D.has fun f fd F => by
  refine F.ok sc_ladder (sph_len fun ps P ⟨_, _, _, _, _, _, _, _, e, _⟩ => by rw [e]; rfl) (fun cdv A outer s H vs Q E hr h => ?_)
  obtain ⟨ps, R, ⟨pA, pB, pC, u, v, w', t, hb, rfl, rfl⟩, hv, k⟩ := h
  obtain ⟨x0, x1, x2, rfl, hx0, hx1, hx2⟩ := all3 hv
  have hr2 : Room 2 _ := hr.mono (by decide)
  refine ⟨_, pss_cons (ps_set (i := 3) sc_ladder.nd rfl (.inl rfl) (pe_lst (pa_cons (pe_lc (own := [("x", 7), ("y", 8), ("w", 9)]) (g := gTup K 2 (gCons (gTup K 2 (gCons (gName 7) (gCons (gName 8) gNil))) (gCons (gName 9) gNil))) (tt := tYes) rfl sc_ladder.nd
        (pi_zipX false false (by rfl) T.zip (pa_cons (pv 0) (pa_cons (pv 1) pa_nil))) (blkOk_by (N := nLadder) (sc := defScope sLadder) (by decide +kernel))
        (fun _ _ _ _ _ => pg_tup rfl (pgs_cons (pg_tup rfl (pgs_cons (pg_name (i := 7) sc_ladder.nd rfl (Or.inl rfl)) (pgs_cons (pg_name (i := 8) sc_ladder.nd rfl (Or.inl rfl)) pgs_nil))) (pgs_cons (pg_name (i := 9) sc_ladder.nd rfl (Or.inl rfl)) pgs_nil)))
        (fun _ _ _ _ _ => pts_nil) (fun _ _ _ _ _ => pe_tup (pa_cons (pe_c HT hr2 (by rfl) (pa_cons (pv 9) (pa_cons (pv 7) pa_nil))) (pa_cons (pe_c HT hr2 (by rfl) (pa_cons (pv 9) (pa_cons (pv 8) pa_nil))) (pa_cons (pv 9) pa_nil))))) pa_nil)))
    (pss_cons (ps_while PassesOwn.never (pt_cmpR op_gt (pe_callB call_len_seq (by rfl) T.len PySem.boot_len (pa_cons (pe_ix ix_list (pv 3) (pe_un un_neg pe_int) (fun _ _ => rfl)) pa_nil)) pe_int (nomark _))
      (pss_cons (ps_par (i := 4) (j := 5) (by rfl) sc_ladder.nd rfl rfl (by decide) rfl rfl (pa_cons (pe_ix ix_list (pv 3) (pe_un un_neg pe_int) (fun _ _ => rfl)) (pa_cons (pe_lst pa_nil) pa_nil)) (by rfl))
      (pss_cons (ps_for PassesOwn.never rfl (pi_range1 (by rfl) T.range (pa_cons (pe_op op_sub (pe_callB call_len_seq (by rfl) T.len PySem.boot_len (pa_cons (pv 4) pa_nil)) pe_int) pa_nil)) (pg_name (i := 6) sc_ladder.nd rfl (.inl rfl))
        (pss_one (ps_expr (pe_bm PySem.F.plainAttrs_list PySem.F.slot_list_append PySem.F.type_list_append mt_append (pv 5) (pa_cons (pe_callTy call_tuple_of (by rfl) T.tuple PyProof.Rows.boot_tuple (pa_cons
          (pe_lc (own := [("one", 10), ("other", 11)]) (g := gTup K 2 (gCons (gName 10) (gCons (gName 11) gNil))) (tt := tYes) rfl sc_ladder.nd
            (pi_zipX false false (by rfl) T.zip (pa_cons (pe_ix ix_list (pv 4) (pv 6) (fun _ _ => rfl)) (pa_cons (pe_ix ix_list (pv 4) (pe_op op_add (pv 6) pe_int) (fun _ _ => rfl)) pa_nil))) (blkOk_by (N := nLadder) (sc := defScope sLadder) (by decide +kernel))
            (fun _ _ _ _ _ => pg_tup rfl (pgs_cons (pg_name (i := 10) sc_ladder.nd rfl (Or.inl rfl)) (pgs_cons (pg_name (i := 11) sc_ladder.nd rfl (Or.inl rfl)) pgs_nil)))
            (fun _ _ _ _ _ => pts_nil) (fun _ _ _ _ _ => pe_c HB hr (by rfl) (pa_cons (pv 10) (pa_cons (pv 11) (pa_cons (pv 2) pa_nil))))) pa_nil)) pa_nil)))))
      (pss_one (ps_expr (pe_bm PySem.F.plainAttrs_list PySem.F.slot_list_append PySem.F.type_list_append mt_append (pv 3) (pa_cons (pv 5) pa_nil)))))))
    (pss_one (ps_ret (pv 3)))), ?_⟩
  -- found = [[..]]
  have hp := g_var (σ := start nLadder [x0, x1, x2]) (i := 0) rfl hx0
  have hw := g_var (σ := start nLadder [x0, x1, x2]) (i := 1) rfl hx1
  refine s_setLL (ps := (rowsOf pA pB pC u v w').map (TrM K)) (gl_lc (src_zip (gh_T hp) (gh_T hw) rfl) rfl (by simp [zipM]) fun i z H' P' Q' hP hQ e hz => ?_) fun l xs Fa H1 nl nF nFl e1 hl hx hF => ?_
  · rw [zip3] at hP
    have main : ∀ (p : Pt) (q : Rat), Bd 10 p.1 → Bd 10 p.2 → Bd 10 q → (Tp K [PtM K p, RtM K q]).p z H' → ∃ σ2, Gg (gTup K 2 (gCons (gTup K 2 (gCons (gName 7) (gCons (gName 8) gNil))) (gCons (gName 9) gNil))) z (wipe (start nLadder [x0, x1, x2]) [7, 8, 9]) H' σ2 ∧
        wipe σ2 [7, 8, 9] = wipe (start nLadder [x0, x1, x2]) [7, 8, 9] ∧ GT tYes σ2 H' true ∧
        G (tTup (tCons (tCall (spX (dTimes K)) [] E0 (tCons (tVar 9) (tCons (tVar 7) tNil))) (tCons (tCall (spX (dTimes K)) [] E0 (tCons (tVar 9) (tCons (tVar 8) tNil))) (tCons (tVar 9) tNil)))) σ2 H' (TrM K (q * p.1, q * p.2, q)) := fun p q b1 b2 b3 hz => by
      obtain ⟨T1, y1, y2, rfl, hs1, hy1, hy2⟩ := tp2 hz
      obtain ⟨T2, z1, z2, rfl, hs2, hz1, hz2⟩ := tp2 hy1
      refine ⟨_, gg_tup2 hs1 (gg_tup2 hs2 gg_name gg_name) gg_name, rfl, gt_yes, ?_⟩
      exact g_tup (K := K) (ga_cons (g_times (g_var rfl hy2) (g_var rfl hz1) b3 b1) (ga_cons (g_times (g_var rfl hy2) (g_var rfl hz2) b3 b2) (ga_cons (g_var rfl hy2) ga_nil)))
    match i, hP, hQ with
    | 0, hP, hQ => cases hP; cases hQ; exact main pA u hb.a.1 hb.a.2 hb.u hz
    | 1, hP, hQ => cases hP; cases hQ; exact main pB v hb.b.1 hb.b.2 hb.v hz
    | 2, hP, hQ => cases hP; cases hQ; exact main pC w' hb.c.1 hb.c.2 hb.w hz
    | i + 3, hP, hQ => simp at hP
  -- while len(found[-1]) > 1
  refine ⟨fun m σ H2 => ∃ (k : Nat) (ini : List V) (l : Addr) (xs : List V) (o4 o5 o6 : Option V), k ≤ 2 ∧ m = 2 - k ∧ σ = [some x0, some x1, some x2, some (.ref Fa), o4, o5, o6, none, none, none, none, none] ∧ Same H H2 ∧ H2 Fa = some (.lst (ini ++ [.ref l])) ∧ ini.length ≤ k ∧ H2 l = some (.lst xs) ∧
    AllP ((lv (rowsOf pA pB pC u v w') t k).map (TrM K)) xs H2 ∧ Fa ≠ l, ⟨2, 0, [], l, xs, none, none, none, by decide, rfl, rfl, e1, hF, by decide, hl, hx, nFl⟩, ?_⟩
  rintro m σ H2 ⟨k', ini, l', xs', o4, o5, o6, hk, rfl, rfl, e2, hF2, hini, hl2, hx2', nF2⟩
  have hll : xs'.length = 3 - k' := by
    rw [hx2'.length, List.length_map, lv_len]
    rfl
  have gF : G (tVar 3) [some x0, some x1, some x2, some (V.ref Fa), o4, o5, o6, none, none, none, none, none] H2 (EqM (.ref Fa)) := g_vE rfl
  have gl' : G (tOp (rIxL K) (tVar 3) (tUn (rU fun i => V.int (-i)) (tC (V.int 1)))) [some x0, some x1, some x2, some (V.ref Fa), o4, o5, o6, none, none, none, none, none] H2 (EqM (.ref l')) :=
    g_ixL gF (g_ev (Evl.ev_un (ev_g g_int) Evl.ru_neg)) (SqL.of hF2) (atI_last _ _) rfl
  have gt := g_I0 (g := fun i j => V.bl (decide (j < i))) (g_lenL (K := K) gl' (SqL.of hl2)) (g_int (i := 1))
  rw [hll] at gt
  by_cases hk2 : k' < 2
  · rw [decide_eq_true (by omega)] at gt
    refine gt_test gt H2 (Same.refl H2) _ fun H3 e3 => iteT ?_
    refine ⟨_, fun σ' H' h => h, ?_⟩
    -- last, later = found[-1], []
    refine gl' H3 e3 _ fun v4 H4 e4 hv4 => ⟨Nat.zero_le _, fun p np => ?_⟩
    have hv4' : v4 = .ref l' := hv4
    subst hv4'
    refine ⟨_, _, rfl, ?_⟩
    have e5 : Same H2 (upd H4 p (.lst [])) := (e3.trans e4).trans (same_new np)
    have hF5 := e5 _ _ hF2
    have hl5 := e5 _ _ hl2
    have npF : Fa ≠ p := ne_of_none ((e3.trans e4) _ _ hF2) np
    have npl : l' ≠ p := ne_of_none ((e3.trans e4) _ _ hl2) np
    have nHp : H p = none := ((e2.trans e3).trans e4).free np
    -- for at in range(len(last) - 1)
    have gn : G (tOp (rI0 fun i j => V.int (i - j)) (tCB (fun xs H Q => ∃ p ys, xs = [V.ref p] ∧ (SqL K H p ys ∨ SqT K H p ys) ∧ Q (V.int (ys.length : Int)) H) (tCons (tVar 4) tNil)) (tC (.int 1)))
        [some x0, some x1, some x2, some (V.ref Fa), some (.ref l'), some (.ref p), o6, none, none, none, none, none] (upd H4 p (.lst [])) (IM ((2 - k' : Nat) : Int)) := by
      refine g_eq (g_I0 (g_lenL (g_vE rfl) (SqL.of hl5)) (g_int (i := 1))) ?_
      rw [hll]
      congr 2
      omega
    refine s_for (ws := [p]) (srck_rng1 gn (by omega)) (fun i σ H6 => ∃ o6 ys, σ = [some x0, some x1, some x2, some (V.ref Fa), some (.ref l'), some (.ref p), o6, none, none, none, none, none] ∧ H6 p = some (.lst ys) ∧ AllP (((trStep (lv (rowsOf pA pB pC u v w') t k') t).take i).map (TrM K)) ys H6)
      (fun H6 e6 => ⟨o6, [], rfl, e6 _ _ upd_same, trivial⟩) (fun Hb i z σ H6 H7 P' e6 hP k6 hpv e7 hz => ?_) fun σ H6 k6 hpv => ?_
    · obtain ⟨o6', ys, rfl, hpy, hys⟩ := hpv
      obtain ⟨hi, rfl⟩ := rngM_get hP
      have hz' : z = .int (i : Int) := by
        have : z = .int (0 + (i : Int)) := hz
        rw [this, Int.zero_add]
      subst hz'
      have hk7 : Kp [p] (upd H4 p (.lst [])) H7 := ((Kp.same e6).trans k6).trans (.same e7)
      have hl7 : H7 l' = some (.lst xs') := hk7 _ _ hl5 (by simpa using npl)
      have tk7 : TKp H2 H7 := (TKp.same e5).trans (hk7.tk (LsAt.one upd_same))
      have hx7 := hx2'.mono tk7
      have hlen : (lv (rowsOf pA pB pC u v w') t k').length = 3 - k' := lv_len k'
      have hbd := lv_bd hb (show k' ≤ 2 by omega)
      have g1 : (lv (rowsOf pA pB pC u v w') t k')[i]? = some _ := List.getElem?_eq_getElem (by omega)
      have g2 : (lv (rowsOf pA pB pC u v w') t k')[i + 1]? = some _ := List.getElem?_eq_getElem (by omega)
      have b1 := hbd _ (List.mem_of_getElem? g1)
      have b2 := hbd _ (List.mem_of_getElem? g2)
      generalize (lv (rowsOf pA pB pC u v w') t k')[i]'(by omega) = c1 at g1 b1
      generalize (lv (rowsOf pA pB pC u v w') t k')[i + 1]'(by omega) = c2 at g2 b2
      obtain ⟨w1, hw1, pw1⟩ := hx7.get (i := i) (P := TrM K c1) (by rw [List.getElem?_map, g1]; rfl)
      obtain ⟨w2, hw2, pw2⟩ := hx7.get (i := i + 1) (P := TrM K c2) (by rw [List.getElem?_map, g2]; rfl)
      have hpy7 : H7 p = some (.lst ys) := e7 _ _ hpy
      have hx2_7 : (RtM K t).p x2 H7 := MP.mono _ _ _ _ ((TKp.same e2).trans tk7) hx2
      refine s_app (P := TrM K (trB c1 c2 t)) hpy7 (g_vE rfl) (g_tupleL (gl_lc (src_zip (gh_T (ps := [RtM K c1.1, RtM K c1.2.1, RtM K c1.2.2]) (g_ixL (g_vE rfl) (g_vE rfl) (SqL.of hl7) (atI_nat hw1) pw1))
        (gh_T (ps := [RtM K c2.1, RtM K c2.2.1, RtM K c2.2.2]) (g_ixL (g_vE rfl) (g_I0 (g_vE rfl) (g_int (i := 1))) (SqL.of hl7) (at_of (by omega) hw2) pw2)) rfl) rfl (by simp [zipM]) fun j y H' P' Q' hP' hQ' e' hy => ?_)) ?_ fun vv H8 e8 hvv => ?_
      · have main : ∀ (a b : Rat), Bd 300 a → Bd 300 b → (Tp K [RtM K a, RtM K b]).p y H' → ∃ σ2, Gg (gTup K 2 (gCons (gName 10) (gCons (gName 11) gNil))) y (wipe [some x0, some x1, some x2, some (V.ref Fa), some (V.ref l'), some (V.ref p), some (V.int (i : Int)), none, none, none, none, none] [10, 11]) H' σ2 ∧
            wipe σ2 [10, 11] = wipe [some x0, some x1, some x2, some (V.ref Fa), some (V.ref l'), some (V.ref p), some (V.int (i : Int)), none, none, none, none, none] [10, 11] ∧ GT tYes σ2 H' true ∧
            G (tCall (spX (dBetween K)) [] E0 (tCons (tVar 10) (tCons (tVar 11) (tCons (tVar 2) tNil)))) σ2 H' (RtM K (btw a b t)) := fun a b ba bb hy => by
          obtain ⟨T1, y1, y2, rfl, hs1, hy1, hy2⟩ := tp2 hy
          refine ⟨_, gg_tup2 hs1 gg_name gg_name, rfl, gt_yes, ?_⟩
          exact g_call (ga_cons (g_var rfl hy1) (ga_cons (g_var rfl hy2) (ga_cons (g_var rfl (MP.mono _ _ _ _ (.same e') hx2_7)) ga_nil))) ⟨a, b, t, ⟨ba.mono (by decide), bb.mono (by decide), hb.t.mono (by decide)⟩, rfl, rfl⟩
        match j, hP', hQ' with
        | 0, hP', hQ' => cases hP'; cases hQ'; exact main _ _ b1.1 b2.1 hy
        | 1, hP', hQ' => cases hP'; cases hQ'; exact main _ _ b1.2.1 b2.2.1 hy
        | 2, hP', hQ' => cases hP'; cases hQ'; exact main _ _ b1.2.2 b2.2.2 hy
        | j + 3, hP', hQ' => simp [zipM] at hP'
      · have := hys.length
        rw [List.length_map, List.length_take] at this
        omega
      · refine ⟨(k6.trans (.same (e7.trans e8))).set (by simp), some (.int (i : Int)), ys ++ [vv], rfl, upd_same, ?_⟩
        have hg : (trStep (lv (rowsOf pA pB pC u v w') t k') t)[i]? = some (trB c1 c2 t) := trStep_get g1 g2
        rw [List.take_add_one, hg, List.map_append]
        exact (AllP.snoc hvv (hys.mono (.same (e7.trans e8)))).mono (TKp.set (e8 _ _ hpy7))
    · obtain ⟨o6', ys, rfl, hpy, hys⟩ := hpv
      have hF6 : H6 Fa = some (.lst (ini ++ [.ref l'])) := k6 _ _ hF5 (by simpa using npF)
      rw [rngM_len, List.take_of_length_le (by
        have : (lv (rowsOf pA pB pC u v w') t (k' + 1)).length = 3 - (k' + 1) := lv_len (k' + 1)
        show (lv (rowsOf pA pB pC u v w') t (k' + 1)).length ≤ _
        omega)] at hys
      refine s_app (P := EqM (.ref p)) hF6 (g_vE rfl) (g_vE rfl) (by rw [List.length_append]; show ini.length + 1 < _; omega) fun v H7 e7 hv => ?_
      have hv' : v = .ref p := hv
      subst hv'
      have hp7 : H7 p = some (.lst ys) := e7 _ _ hpy
      have s7 : Same H H7 := fun b o q => by
        have nb : b ≠ p := ne_of_none q nHp
        exact e7 _ _ (k6 _ _ (e5 _ _ (e2 _ _ q)) (by simpa using nb))
      refine ⟨2 - (k' + 1), by omega, k' + 1, ini ++ [.ref l'], p, ys, _, _, _, by omega, rfl, rfl, same_mut s7 nF, upd_same, by rw [List.length_append]; show ini.length + 1 ≤ _; omega, by rw [upd_ne npF.symm]; exact hp7, ?_, npF⟩
      exact (hys.mono (.same e7)).mono (TKp.set (e7 _ _ hF6))
  · rw [decide_eq_false (by omega)] at gt
    have hk' : k' = 2 := by omega
    subst hk'
    refine gt_test gt H2 (Same.refl H2) _ fun H3 e3 => iteF ?_
    rw [lv2] at hx2'
    obtain ⟨y, rfl, hy⟩ := all1 hx2'
    exact ⟨_, rfl, k _ H3 (e2.trans e3) ⟨Fa, l', ini, y, rfl, e3 _ _ hF2, e3 _ _ hl2, MP.mono _ _ _ _ (.same e3) hy⟩⟩
end
end K54
namespace K54
open PySem PySem.Spec PyProof.Rows L2
def LnM (K : PySem.W.Frag) (l : Ln) : MP := Tp K [RtM K l.a, RtM K l.b, RtM K l.c]
section
variable {K : PySem.W.Frag} {σ : L2.St} {H : Hp} {ta te : TE} {P Q R : MP} {D : Ends} {ps : List MP}
theorem s_drop (h : G te σ H P) (k : ∀ H1, Same H H1 → D.nx σ H1) : tDrop te D σ H := h H (Same.refl H) _ fun _ H1 e _ => k H1 e
theorem s_unp2 {i j : Nat} (h : G te σ H (Tp K [P, Q])) (k : ∀ x y H1, Same H H1 → P.p x H1 → Q.p y H1 → D.nx ((σ.set i (some x)).set j (some y)) H1) : tAsg te (gTup K 2 (gCons (gName i) (gCons (gName j) gNil))) D σ H :=
  h H (Same.refl H) _ fun v H1 e hv => by
    obtain ⟨a, x, y, rfl, hs, hx, hy⟩ := tp2 hv
    exact gg_tup2 hs gg_name gg_name _ (k x y H1 e hx hy)
theorem s_unp3 {i j l : Nat} (h : G te σ H (Tp K [P, Q, R])) (k : ∀ x y z H1, Same H H1 → P.p x H1 → Q.p y H1 → R.p z H1 → D.nx (((σ.set i (some x)).set j (some y)).set l (some z)) H1) : tAsg te (gTup K 3 (gCons (gName i) (gCons (gName j) (gCons (gName l) gNil)))) D σ H :=
  h H (Same.refl H) _ fun v H1 e hv => by
    obtain ⟨a, x, y, z, rfl, hs, hx, hy, hz⟩ := tp3 hv
    exact gg_tup3 hs gg_name gg_name gg_name _ (k x y z H1 e hx hy hz)
/-- a, b = e1, e2 -/
theorem s_par {i j : Nat} {ta : TA} (h : GA ta σ H [P, Q]) (k : ∀ x y H1, Same H H1 → P.p x H1 → Q.p y H1 → D.nx ((σ.set i (some x)).set j (some y)) H1) : tPar i j ta D σ H := h H (Same.refl H) _ fun vs H1 e hv => by
  obtain ⟨x, y, rfl, hx, hy⟩ := all2 hv
  exact ⟨x, y, rfl, k x y H1 e hx hy⟩
theorem g_lastFirst (h : ∀ H1, Same H H1 → ∀ Q : VK, (∀ z H2, Same H1 H2 → (∃ (Fa l : Addr) (ini : List V) (y : V), z = .ref Fa ∧ H2 Fa = some (.lst (ini ++ [.ref l])) ∧ H2 l = some (.lst [y]) ∧ P.p y H2) → Q z H2) → te σ H1 Q) :
    G (tOp (rIxL K) (tOp (rIxL K) te (tUn (rU fun i => V.int (-i)) (tC (.int 1)))) (tC (.int 0))) σ H P := fun H1 e Q q => h H1 e _ fun z H2 e2 hz => by
  obtain ⟨Fa, l, ini, y, rfl, hF, hl, hy⟩ := hz
  exact ⟨1, rfl, Fa, _, -1, .ref l, rfl, rfl, SqL.of hF, atI_last _ _, l, [y], 0, y, rfl, rfl, SqL.of hl, atI_nat (j := 0) rfl, q y H2 e2 hy⟩
theorem g_callH {D : List MP → (V → Hp → Prop) → Prop} {E : XK} {t : TA} {R : V → Hp → Prop} (h : GA t σ H ps) (hd : D ps R) : ∀ H1, Same H H1 → ∀ Q : VK, (∀ z H2, Same H1 H2 → R z H2 → Q z H2) → tCall (spH D) [] E t σ H1 Q := fun H1 e Q q =>
  h H1 e _ fun vs H2 e2 hvs => ⟨ps, R, hd, by rw [List.append_nil]; exact hvs, fun v H' e3 hv => q v H' (e2.trans e3) hv⟩
theorem g_ixV {i : Nat} {x : V} {z : Int} (j : Nat) (h : σ[i]? = some (some x)) (hd : Held true K ps x H) (hj : ps[j]? = some P) (hz : z = (j : Int) := by rfl) : G (tOp (rIxL K) (tVar i) (tC (.int z))) σ H P := by
  obtain ⟨a, xs, rfl, hs, hx⟩ := hd
  obtain ⟨v, hv1, hv2⟩ := hx.get hj
  exact g_ixL (g_vE h) g_int hs (by rw [hz]; exact atI_nat hv1) hv2
end
section
variable {P : Program} {w : World} {K : PySem.W.Frag} {mg : Str → Option Value} {base : Heap}
/-! conic_point -/
def dConic (K : PySem.W.Frag) : List MP → MP → Prop := fun ps R => ∃ (A B C : Pt) (u v w t : Rat), CBd A B C u v w t ∧ 0 < u.num ∧ 0 < v.num ∧ 0 < w.num ∧ ps = [Tp K [PtM K A, PtM K B, PtM K C], Tp K [RtM K u, RtM K v, RtM K w], RtM K t] ∧
  R = if lad u v w t = 0 then EqM .non else PtM K (cpt A B C u v w t)
theorem sc_conic : FnScope ["points", "weights", "t"] ["points", "weights", "t"] (defScope sConicPoint) := ⟨rfl, rfl, rfl, by decide +kernel, rfl, by decide +kernel, by decide +kernel⟩
theorem ok_conic (D : Df K mg "conic_point" sConicPoint ["points", "weights", "t"]) (HN : Has P w K mg base "need_points" ["value", "many"] 4 (spX (dNeedPts K))) (HW : Has P w K mg base "need_weights" ["value"] 4 (spX (dNeedW K)))
    (HR : Has P w K mg base "need_ratio" ["value"] 3 (spX (dNeedRatio K))) (HP : Has P w K mg base "point_of" ["told"] 3 (spX (dPointOf K))) (HL : Has P w K mg base "ladder_of" ["points", "weights", "t"] 4 (spH (dLadder K))) :
    Has P w K mg base "conic_point" ["points", "weights", "t"] 5 (spX (dConic K)) := D.has fun f fd F => by
  refine F.ok sc_conic (sp_len fun ps P ⟨_, _, _, _, _, _, _, _, _, _, _, e, _⟩ => by rw [e]; rfl) (fun cdv A outer s H vs Q E hr h => ?_)
  obtain ⟨ps, R, ⟨pA, pB, pC, u, v, w', t, hb, pu, pv', pw, rfl, rfl⟩, hv, k⟩ := h
  obtain ⟨x0, x1, x2, rfl, hx0, hx1, hx2⟩ := all3 hv
  have hr3 : Room 3 _ := hr.mono (by decide)
  refine ⟨_, pss_cons (ps_expr (pe_c HN hr (by rfl) (pa_cons (pv 0) (pa_cons pe_int pa_nil)))) (pss_cons (ps_expr (pe_c HW hr (by rfl) (pa_cons (pv 1) pa_nil))) (pss_cons (ps_expr (pe_c HR hr3 (by rfl) (pa_cons (pv 2) pa_nil)))
    (pss_one (ps_ret (pe_c HP hr3 (by rfl) (pa_cons (pe_ix ix_list (pe_ix ix_list (pe_c HL hr (by rfl) (pa_cons (pv 0) (pa_cons (pv 1) (pa_cons (pv 2) pa_nil)))) (pe_un un_neg pe_int) (fun _ _ => rfl)) pe_int (fun _ _ => rfl)) pa_nil)))))), ?_⟩
  have h0 : G (tVar 0) (start ["points", "weights", "t"] [x0, x1, x2]) H (Tp K ([pA, pB, pC].map (PtM K))) := g_var rfl hx0
  have h1 : G (tVar 1) (start ["points", "weights", "t"] [x0, x1, x2]) H (Tp K [RtM K u, RtM K v, RtM K w']) := g_var rfl hx1
  have h2 : G (tVar 2) (start ["points", "weights", "t"] [x0, x1, x2]) H (RtM K t) := g_var rfl hx2
  refine s_drop (P := EqM .non) (g_call (ga_cons h0 (ga_cons g_int ga_nil)) ⟨[pA, pB, pC], by simp, rfl, rfl⟩) fun H1 e1 => ?_
  refine s_drop (P := EqM .non) (g_call (ga_cons (h1.up e1) ga_nil) ⟨u, v, w', pu, pv', pw, rfl, rfl⟩) fun H2 e2 => ?_
  refine s_drop (P := EqM .non) (g_call (ga_cons (h2.up (e1.trans e2)) ga_nil) ⟨t, rfl, rfl⟩) fun H3 e3 => ?_
  have e03 := (e1.trans e2).trans e3
  have gl : G (tOp (rIxL K) (tOp (rIxL K) (tCall (spH (dLadder K)) [] E0 (tCons (tVar 0) (tCons (tVar 1) (tCons (tVar 2) tNil)))) (tUn (rU fun i => V.int (-i)) (tC (.int 1)))) (tC (.int 0))) (start ["points", "weights", "t"] [x0, x1, x2]) H3 (TrM K (ldr pA pB pC u v w' t)) :=
    g_lastFirst (g_callH (ga_cons (h0.up e03) (ga_cons (h1.up e03) (ga_cons (h2.up e03) ga_nil))) ⟨pA, pB, pC, u, v, w', t, hb, rfl, rfl⟩)
  have bd : TrBd 300 (ldr pA pB pC u v w' t) := lv_bd hb (k := 2) (by decide) _ (by rw [lv2]; exact List.mem_cons_self)
  refine s_retG (g_call (ga_cons gl ga_nil) ⟨ldr pA pB pC u v w' t, bd.1.mono (by decide), bd.2.1.mono (by decide), bd.2.2.mono (by decide), rfl, rfl⟩) fun z H4 e4 hz => k z H4 (e03.trans e4) hz
/-! line_through -/
def dLine (K : PySem.W.Frag) : List MP → MP → Prop := fun ps R => ∃ p q : Pt, Bd 100 p.1 ∧ Bd 100 p.2 ∧ Bd 100 q.1 ∧ Bd 100 q.2 ∧ ps = [PtM K p, PtM K q] ∧ R = LnM K (line p q)
theorem sc_line : FnScope ["one", "other", "a", "b"] ["one", "other"] (defScope sLine) := ⟨rfl, rfl, rfl, by decide +kernel, rfl, by decide +kernel, by decide +kernel⟩
theorem ok_line (D : Df K mg "line_through" sLine ["one", "other"]) (T : Txt K mg) (HP : Has P w K mg base "plus" ["one", "other"] 2 (spX (dPlus K))) (HL : Has P w K mg base "less" ["one", "other"] 2 (spX (dLess K)))
    (HT : Has P w K mg base "times" ["one", "other"] 2 (spX (dTimes K))) : Has P w K mg base "line_through" ["one", "other"] 3 (spX (dLine K)) := D.has fun f fd F => by
  refine F.ok sc_line (sp_len fun ps P ⟨_, _, _, _, _, _, e, _⟩ => by rw [e]; rfl) (fun cdv A outer s H vs Q E hr h => ?_)
  obtain ⟨ps, R, ⟨p, q, b1, b2, b3, b4, rfl, rfl⟩, hv, k⟩ := h
  obtain ⟨x, y, rfl, hx, hy⟩ := all2 hv
  obtain ⟨z, gz, hz⟩ := T.zeroR
  refine ⟨_, pss_cons (ps_par (i := 2) (j := 3) (by rfl) sc_line.nd rfl rfl (by decide) rfl rfl (pa_cons (pe_c HL hr (by rfl) (pa_cons (pe_ix ix_tup (pv 0) pe_int (fun _ _ => rfl)) (pa_cons (pe_ix ix_tup (pv 1) pe_int (fun _ _ => rfl)) pa_nil)))
      (pa_cons (pe_c HL hr (by rfl) (pa_cons (pe_ix ix_tup (pv 1) pe_int (fun _ _ => rfl)) (pa_cons (pe_ix ix_tup (pv 0) pe_int (fun _ _ => rfl)) pa_nil))) pa_nil)) (by rfl))
    (pss_one (ps_ret (pe_tup (pa_cons (pv 2) (pa_cons (pv 3) (pa_cons (pe_c HL hr (by rfl) (pa_cons (pe_glob (v := .ref z) (by rfl) gz rfl) (pa_cons (pe_c HP hr (by rfl) (pa_cons (pe_c HT hr (by rfl) (pa_cons (pv 2) (pa_cons (pe_ix ix_tup (pv 0) pe_int (fun _ _ => rfl)) pa_nil)))
      (pa_cons (pe_c HT hr (by rfl) (pa_cons (pv 3) (pa_cons (pe_ix ix_tup (pv 0) pe_int (fun _ _ => rfl)) pa_nil))) pa_nil))) pa_nil))) pa_nil)))))), ?_⟩
  have h0 : G (tVar 0) (start ["one", "other", "a", "b"] [x, y]) H (PtM K p) := g_var rfl hx
  have h1 : G (tVar 1) (start ["one", "other", "a", "b"] [x, y]) H (PtM K q) := g_var rfl hy
  refine s_par (ga_cons (g_less (g_ixT 1 h0 rfl) (g_ixT 1 h1 rfl) b2 b4) (ga_cons (g_less (g_ixT 0 h1 rfl) (g_ixT 0 h0 rfl) b3 b1) ga_nil)) fun a b H1 e1 ha hb => ?_
  have h0' : G (tVar 0) [some x, some y, some a, some b] H1 (PtM K p) := g_var rfl (MP.mono _ _ _ _ (.same e1) hx)
  have ga : G (tVar 2) [some x, some y, some a, some b] H1 (RtM K (p.2 - q.2)) := g_var rfl ha
  have gb : G (tVar 3) [some x, some y, some a, some b] H1 (RtM K (q.1 - p.1)) := g_var rfl hb
  refine s_retG (g_tup (K := K) (ga_cons ga (ga_cons gb (ga_cons (g_less (g_c (hz H1)) (g_plus (g_times ga (g_ixT 0 h0' rfl) (b2.sub b4) b1) (g_times gb (g_ixT 1 h0' rfl) (b3.sub b1) b2) ((b2.sub b4).mul b1) ((b3.sub b1).mul b2)) bd_zero
    (((b2.sub b4).mul b1).add ((b3.sub b1).mul b2))) ga_nil)))) fun v H2 e2 hv => k v H2 (e1.trans e2) hv
/-! line_product -/
def LnH (K : PySem.W.Frag) (l : Ln) : V → Hp → Prop := Held true K [RtM K l.a, RtM K l.b, RtM K l.c]
def spLProd (K : PySem.W.Frag) : Sp := fun vs H Q _ => ∃ (l m : Ln) (x y : V), (Bd 500 l.a ∧ Bd 500 l.b ∧ Bd 500 l.c ∧ Bd 500 m.a ∧ Bd 500 m.b ∧ Bd 500 m.c) ∧ vs = [x, y] ∧ LnH K l x H ∧ LnH K m y H ∧
  ∀ v H', Same H H' → (Tp K ((lprod l m).map (RtM K))).p v H' → Q v H'
theorem sc_lprod : FnScope ["one", "other"] ["one", "other"] (defScope sLineProd) := ⟨rfl, rfl, rfl, by decide +kernel, rfl, by decide +kernel, by decide +kernel⟩
theorem ok_lprod (D : Df K mg "line_product" sLineProd ["one", "other"]) (HP : Has P w K mg base "plus" ["one", "other"] 2 (spX (dPlus K))) (HT : Has P w K mg base "times" ["one", "other"] 2 (spX (dTimes K))) :
    Has P w K mg base "line_product" ["one", "other"] 3 (spLProd K) := D.has fun f fd F => by
  refine F.ok sc_lprod (fun vs H Q E ⟨_, _, _, _, _, e, _⟩ => by rw [e]; rfl) (fun cdv A outer s H vs Q E hr h => ?_)
  obtain ⟨l, m, x, y, ⟨b1, b2, b3, c1, c2, c3⟩, rfl, hx, hy, k⟩ := h
  refine ⟨_, pss_one (ps_ret (pe_tup (pa_cons (pe_c HT hr (by rfl) (pa_cons (pe_ix ix_list (pv 0) pe_int (fun _ _ => rfl)) (pa_cons (pe_ix ix_list (pv 1) pe_int (fun _ _ => rfl)) pa_nil)))
    (pa_cons (pe_c HP hr (by rfl) (pa_cons (pe_c HT hr (by rfl) (pa_cons (pe_ix ix_list (pv 0) pe_int (fun _ _ => rfl)) (pa_cons (pe_ix ix_list (pv 1) pe_int (fun _ _ => rfl)) pa_nil))) (pa_cons (pe_c HT hr (by rfl) (pa_cons (pe_ix ix_list (pv 0) pe_int (fun _ _ => rfl)) (pa_cons (pe_ix ix_list (pv 1) pe_int (fun _ _ => rfl)) pa_nil))) pa_nil)))
    (pa_cons (pe_c HT hr (by rfl) (pa_cons (pe_ix ix_list (pv 0) pe_int (fun _ _ => rfl)) (pa_cons (pe_ix ix_list (pv 1) pe_int (fun _ _ => rfl)) pa_nil)))
    (pa_cons (pe_c HP hr (by rfl) (pa_cons (pe_c HT hr (by rfl) (pa_cons (pe_ix ix_list (pv 0) pe_int (fun _ _ => rfl)) (pa_cons (pe_ix ix_list (pv 1) pe_int (fun _ _ => rfl)) pa_nil))) (pa_cons (pe_c HT hr (by rfl) (pa_cons (pe_ix ix_list (pv 0) pe_int (fun _ _ => rfl)) (pa_cons (pe_ix ix_list (pv 1) pe_int (fun _ _ => rfl)) pa_nil))) pa_nil)))
    (pa_cons (pe_c HP hr (by rfl) (pa_cons (pe_c HT hr (by rfl) (pa_cons (pe_ix ix_list (pv 0) pe_int (fun _ _ => rfl)) (pa_cons (pe_ix ix_list (pv 1) pe_int (fun _ _ => rfl)) pa_nil))) (pa_cons (pe_c HT hr (by rfl) (pa_cons (pe_ix ix_list (pv 0) pe_int (fun _ _ => rfl)) (pa_cons (pe_ix ix_list (pv 1) pe_int (fun _ _ => rfl)) pa_nil))) pa_nil)))
    (pa_cons (pe_c HT hr (by rfl) (pa_cons (pe_ix ix_list (pv 0) pe_int (fun _ _ => rfl)) (pa_cons (pe_ix ix_list (pv 1) pe_int (fun _ _ => rfl)) pa_nil))) pa_nil)))))))), ?_⟩
  have l0 : G (tOp (rIxL K) (tVar 0) (tC (.int 0))) (start ["one", "other"] [x, y]) H (RtM K l.a) := g_ixV 0 rfl hx rfl
  have l1 : G (tOp (rIxL K) (tVar 0) (tC (.int 1))) (start ["one", "other"] [x, y]) H (RtM K l.b) := g_ixV 1 rfl hx rfl
  have l2 : G (tOp (rIxL K) (tVar 0) (tC (.int 2))) (start ["one", "other"] [x, y]) H (RtM K l.c) := g_ixV 2 rfl hx rfl
  have m0 : G (tOp (rIxL K) (tVar 1) (tC (.int 0))) (start ["one", "other"] [x, y]) H (RtM K m.a) := g_ixV 0 rfl hy rfl
  have m1 : G (tOp (rIxL K) (tVar 1) (tC (.int 1))) (start ["one", "other"] [x, y]) H (RtM K m.b) := g_ixV 1 rfl hy rfl
  have m2 : G (tOp (rIxL K) (tVar 1) (tC (.int 2))) (start ["one", "other"] [x, y]) H (RtM K m.c) := g_ixV 2 rfl hy rfl
  exact s_retG (g_tup (K := K) (ga_cons (g_times l0 m0 b1 c1) (ga_cons (g_plus (g_times l0 m1 b1 c2) (g_times l1 m0 b2 c1) (b1.mul c2) (b2.mul c1)) (ga_cons (g_times l1 m1 b2 c2)
    (ga_cons (g_plus (g_times l0 m2 b1 c3) (g_times l2 m0 b3 c1) (b1.mul c3) (b3.mul c1)) (ga_cons (g_plus (g_times l1 m2 b2 c3) (g_times l2 m1 b3 c2) (b2.mul c3) (b3.mul c2)) (ga_cons (g_times l2 m2 b3 c3) ga_nil))))))) fun v H1 e1 hv => k v H1 e1 hv
/-! terms_of -/
def TmM (K : PySem.W.Frag) (p : Pt) : MP := Tp K ((terms p).map (RtM K))
def dTerms (K : PySem.W.Frag) : List MP → MP → Prop := fun ps R => ∃ p : Pt, Bd 100 p.1 ∧ Bd 100 p.2 ∧ ps = [PtM K p] ∧ R = TmM K p
theorem sc_terms : FnScope ["point", "x", "y"] ["point"] (defScope sTerms) := ⟨rfl, rfl, rfl, by decide +kernel, rfl, by decide +kernel, by decide +kernel⟩
theorem ok_terms (D : Df K mg "terms_of" sTerms ["point"]) (T : Txt K mg) (HT : Has P w K mg base "times" ["one", "other"] 2 (spX (dTimes K))) : Has P w K mg base "terms_of" ["point"] 3 (spX (dTerms K)) := D.has fun f fd F => by
  refine F.ok sc_terms (sp_len fun ps P ⟨_, _, _, e, _⟩ => by rw [e]; rfl) (fun cdv A outer s H vs Q E hr h => ?_)
  obtain ⟨ps, R, ⟨p, b1, b2, rfl, rfl⟩, hv, k⟩ := h
  obtain ⟨x, rfl, hx⟩ := all1 hv
  obtain ⟨z, gz, hz⟩ := T.oneR
  refine ⟨_, pss_cons (ps_asg (pv 0) (pg_tup (by rfl) (pgs_cons (pg_name (i := 1) sc_terms.nd rfl (.inl rfl)) (pgs_cons (pg_name (i := 2) sc_terms.nd rfl (.inl rfl)) pgs_nil))))
    (pss_one (ps_ret (pe_tup (pa_cons (pe_c HT hr (by rfl) (pa_cons (pv 1) (pa_cons (pv 1) pa_nil))) (pa_cons (pe_c HT hr (by rfl) (pa_cons (pv 1) (pa_cons (pv 2) pa_nil))) (pa_cons (pe_c HT hr (by rfl) (pa_cons (pv 2) (pa_cons (pv 2) pa_nil)))
      (pa_cons (pv 1) (pa_cons (pv 2) (pa_cons (pe_glob (v := .ref z) (by rfl) gz rfl) pa_nil))))))))), ?_⟩
  refine s_unp2 (g_var rfl hx) fun a b H1 e1 ha hb => ?_
  have ga : G (tVar 1) [some x, some a, some b] H1 (RtM K p.1) := g_var rfl ha
  have gb : G (tVar 2) [some x, some a, some b] H1 (RtM K p.2) := g_var rfl hb
  exact s_retG (g_tup (K := K) (ga_cons (g_times ga ga b1 b1) (ga_cons (g_times ga gb b1 b2) (ga_cons (g_times gb gb b2 b2) (ga_cons ga (ga_cons gb (ga_cons (g_c (hz H1)) ga_nil))))))) fun v H2 e2 hv => k v H2 (e1.trans e2) hv
end
end K54
namespace K54
open PySem PySem.Spec PyProof.Rows L2
/-! whole_numbers -/
theorem lcm_fdiv (b d : Nat) : ((b : Int) * (d : Int)).fdiv ((Nat.gcd b d : Nat) : Int) = ((Nat.lcm b d : Nat) : Int) := by
  rw [Int.fdiv_eq_ediv_of_nonneg _ (by omega)]
  show _ = ((b * d / Nat.gcd b d : Nat) : Int)
  rw [Int.natCast_ediv, Int.natCast_mul]
theorem bot_take {v : List Rat} {i : Nat} {q : Rat} (h : v[i]? = some q) : bot (v.take (i + 1)) = Nat.lcm (bot (v.take i)) q.den := by
  unfold bot
  rw [List.take_add_one, h, List.foldl_append]
  rfl
theorem bot_lt {v : List Rat} {B : Nat} (h : ∀ q ∈ v, Bd B q) : ∀ i, i ≤ v.length → bot (v.take i) < 2 ^ (1 + B * i)
  | 0, _ => by
    show 1 < 2 ^ (1 + B * 0)
    rw [Nat.mul_zero]
    decide
  | i + 1, hi => by
    have g : v[i]? = some v[i] := List.getElem?_eq_getElem (by omega)
    rw [bot_take g]
    have ih := bot_lt h i (by omega)
    have hd := (h v[i] (List.getElem_mem _)).2
    have h1 : Nat.lcm (bot (v.take i)) v[i].den ≤ bot (v.take i) * v[i].den := Nat.le_of_dvd (Nat.mul_pos (bot_pos _) (Nat.pos_of_ne_zero v[i].den_nz)) (Nat.lcm_dvd_mul _ _)
    refine Nat.lt_of_le_of_lt h1 ?_
    have : 1 + B * (i + 1) = (1 + B * i) + B := by rw [Nat.mul_succ]; omega
    rw [this, Nat.pow_add]
    exact Nat.mul_lt_mul'' ih hd
theorem part_take {l : List Int} {i : Nat} {z : Int} (h : l[i]? = some z) : part (l.take (i + 1)) = Nat.gcd (part (l.take i)) z.natAbs := by
  unfold part
  rw [List.take_add_one, h, List.foldl_append]
  rfl
theorem nz_os (l : List Int) : (l.map fun z => if z ≠ 0 then some (IM z) else none).filterMap id = (nz l).map fun z => IM z := by
  induction l with
  | nil => rfl
  | cons a l ih =>
    by_cases h : a = 0
    · have e : nz (a :: l) = nz l := by unfold nz; rw [List.filter_cons, if_neg (by simp [h])]
      rw [e, List.map_cons, if_neg (by simp [h])]
      exact ih
    · have e : nz (a :: l) = a :: nz l := by unfold nz; rw [List.filter_cons, if_pos (by simp [h])]
      rw [e, List.map_cons, if_pos h]
      show IM a :: _ = IM a :: _
      congr 1
theorem nz_first {l : List Int} (h : ∃ z ∈ l, z ≠ 0) : (nz l)[0]? = some (fst l) := by
  have hne : nz l ≠ [] := by
    obtain ⟨z, hz, h0⟩ := h
    have : z ∈ nz l := List.mem_filter.mpr ⟨hz, by simp [h0]⟩
    intro e
    rw [e] at this
    cases this
  unfold fst
  cases e : nz l with
  | nil => exact absurd e hne
  | cons a r => rfl
theorem ints_of {H : Hp} : ∀ {l : List Int} {xs : List V}, AllP (l.map fun z => IM z) xs H → xs = l.map V.int
  | [], [], _ => rfl
  | b :: bs, x :: xs, h => by
    have h1 : x = .int b := h.1
    rw [h1, ints_of h.2]
    rfl
  | [], _ :: _, h => h.elim
  | _ :: _, [], h => h.elim
def spWhole (K : PySem.W.Frag) : Sp := fun vs H Q _ => ∃ (v : List Rat) (x : V), v.length ≤ 6 ∧ (∀ q ∈ v, Bd 1200 q) ∧ (∃ q ∈ v, q ≠ 0) ∧ vs = [x] ∧ Held true K (v.map (RtM K)) x H ∧ ∀ z H', Same H H' → (NsM K (whole v)).p z H' → Q z H'
section
variable {P : Program} {w : World} {K : PySem.W.Frag} {mg : Str → Option Value} {base : Heap}
abbrev nWhole : List Str := ["numbers", "bottom", "part", "one", "found", "first"]
theorem sc_whole : FnScope nWhole ["numbers"] (defScope sWhole) := ⟨rfl, rfl, rfl, by decide +kernel, rfl, by decide +kernel, by decide +kernel⟩
theorem ok_whole (D : Df K mg "whole_numbers" sWhole ["numbers"]) (T : Txt K mg) : Has P w K mg base "whole_numbers" ["numbers"] 1 (spWhole K) := D.has fun f fd F => by
  refine F.ok sc_whole (fun vs H Q E ⟨_, _, _, _, _, e, _⟩ => by rw [e]; rfl) (fun cdv A outer s H vs Q E hr h => ?_)
  obtain ⟨v, x, hl6, hbd, hnz, rfl, hx, k⟩ := h
  refine ⟨_, pss_cons (ps_asg (pe_tup (pa_cons pe_int (pa_cons pe_int pa_nil))) (pg_tup (by rfl) (pgs_cons (pg_name (i := 1) sc_whole.nd rfl (.inr rfl)) (pgs_cons (pg_name (i := 2) sc_whole.nd rfl (.inr rfl)) pgs_nil))))
    (pss_cons (ps_for PassesOwn.never rfl (pi_list (pv 0)) (pg_name (i := 3) sc_whole.nd rfl (.inl rfl))
      (pss_one (ps_set (i := 1) sc_whole.nd rfl (.inr rfl) (pe_op op_fdivNW (pe_op op_mulW (pv 1) (pe_ix ix_tup (pv 3) pe_int (fun _ _ => rfl))) (pe_callBfun cr_gcd (by rfl) T.gcd (pa_cons (pv 1) (pa_cons (pe_ix ix_tup (pv 3) pe_int (fun _ _ => rfl)) pa_nil)))))))
    (pss_cons (ps_setLc (i := 4) (own := [("one", 3)]) (g := gName 3) (tt := tYes) rfl sc_whole.nd rfl rfl (sw_true rfl rfl rfl (by decide +kernel)) (pi_list (pv 0)) (blkOk_by (N := nWhole) (sc := defScope sWhole) (by decide +kernel))
      (fun _ _ _ _ _ => pg_name (i := 3) sc_whole.nd rfl (Or.inl rfl)) (fun _ _ _ _ _ => pts_nil)
      (fun _ _ _ _ _ => pe_op op_mulW (pe_ix (r := rIxT K) ix_tup (pv 3) pe_int (fun _ _ => rfl)) (pe_op op_fdivNW (pv 1) (pe_ix (r := rIxT K) ix_tup (pv 3) pe_int (fun _ _ => rfl)))))
    (pss_cons (ps_for PassesOwn.never rfl (pi_list (pv 4)) (pg_name (i := 3) sc_whole.nd rfl (.inl rfl))
      (pss_one (ps_set (i := 2) sc_whole.nd rfl (.inr rfl) (pe_callBfun cr_gcd (by rfl) T.gcd (pa_cons (pv 2) (pa_cons (pv 3) pa_nil))))))
    (pss_cons (ps_set (i := 5) sc_whole.nd rfl (.inl rfl) (pe_ix ix_list (pe_lc (own := [("one", 3)]) (g := gName 3) (tt := tTest (tOp rNe (tVar 3) (tC (.int 0)))) rfl sc_whole.nd (pi_list (pv 4)) (blkOk_by (N := nWhole) (sc := defScope sWhole) (by decide +kernel))
      (fun _ _ _ _ _ => pg_name (i := 3) sc_whole.nd rfl (Or.inl rfl)) (fun _ _ _ _ _ => pts_one (pt_cmpR op_ne (pv 3) pe_int (nomark _))) (fun _ _ _ _ _ => pv 3)) pe_int (fun _ _ => rfl)))
    (pss_cons (ps_set (i := 2) sc_whole.nd rfl (.inr rfl) (pe_ifExp (pt_cmpR op_lt (pv 5) pe_int (nomark _)) (pe_un un_neg (pv 2)) (pv 2)))
    (pss_one (ps_ret (pe_callTy call_tuple_of (by rfl) T.tuple PyProof.Rows.boot_tuple (pa_cons (pe_lc (own := [("one", 3)]) (g := gName 3) (tt := tYes) rfl sc_whole.nd (pi_list (pv 4)) (blkOk_by (N := nWhole) (sc := defScope sWhole) (by decide +kernel))
      (fun _ _ _ _ _ => pg_name (i := 3) sc_whole.nd rfl (Or.inl rfl)) (fun _ _ _ _ _ => pts_nil) (fun _ _ _ _ _ => pe_op op_fdivNW (pv 3) (pv 2))) pa_nil))))))))), ?_⟩
  -- bottom, part = 1, 0
  refine s_unp2 (g_tup (K := K) (ga_cons (g_int (i := 1)) (ga_cons (g_int (i := 0)) ga_nil))) fun a b H1 e1 ha hb => ?_
  have ha' : a = .int ((bot (v.take 0) : Nat) : Int) := ha
  have hb' : b = .int ((part ((fnd v).take 0) : Nat) : Int) := hb
  subst ha' hb'
  have hx1 := hx.up e1
  obtain ⟨na, xs, rfl, hs1, hxs1⟩ := id hx1
  have hs1' : SqL K H1 na xs := hs1
  -- for one in numbers
  refine s_for (ws := []) (srck_list (g_vE rfl) hs1' hxs1 LsAt.nil (by simp)) (fun i σ H2 => ∃ o3, σ = [some (.ref na), some (.int ((bot (v.take i) : Nat) : Int)), some (.int ((part ((fnd v).take 0) : Nat) : Int)), o3, none, none])
    (fun H2 e2 => ⟨none, rfl⟩) (fun Hb i z σ H3 H4 P' hb hP k3 hp e4 hz => ?_) fun σ H2 k2 hp => ?_
  · obtain ⟨o3, rfl⟩ := hp
    obtain ⟨q, hq, rfl⟩ := map_get hP
    have hil : i < v.length := (List.getElem?_eq_some_iff.mp hq).1
    have bq := hbd q (List.mem_of_getElem? hq)
    have gz : G (tVar 3) [some (V.ref na), some (.int ((bot (v.take i) : Nat) : Int)), some (.int ((part ((fnd v).take 0) : Nat) : Int)), some z, none, none] H4 (RtM K q) := g_var rfl hz
    have g1 : G (tOp (rIxT K) (tVar 3) (tC (.int 1))) [some (V.ref na), some (.int ((bot (v.take i) : Nat) : Int)), some (.int ((part ((fnd v).take 0) : Nat) : Int)), some z, none, none] H4 (IM (q.den : Int)) := g_ixT 1 gz rfl
    have bb := bot_lt hbd i (by omega)
    have bb' : ((bot (v.take i) : Nat) : Int).natAbs < 2 ^ 8000 := by
      rw [nat_abs_cast]
      exact lt_pow_of bb (by omega)
    have gm := g_mulW (g_vE (σ := [some (V.ref na), some (.int ((bot (v.take i) : Nat) : Int)), some (.int ((part ((fnd v).take 0) : Nat) : Int)), some z, none, none]) (i := 1) rfl) g1 bb' bq.d (by decide) (by decide) (by decide)
    have gg := g_gcd (g_vE (σ := [some (V.ref na), some (.int ((bot (v.take i) : Nat) : Int)), some (.int ((part ((fnd v).take 0) : Nat) : Int)), some z, none, none]) (i := 1) rfl) g1
    rw [nat_abs_cast, nat_abs_cast] at gg
    have hg0 : ((Nat.gcd (bot (v.take i)) q.den : Nat) : Int) ≠ 0 := by
      have : Nat.gcd (bot (v.take i)) q.den ≠ 0 := Nat.gcd_ne_zero_right q.den_nz
      omega
    have hgb : ((Nat.gcd (bot (v.take i)) q.den : Nat) : Int).natAbs < 2 ^ 1200 := by
      rw [nat_abs_cast]
      exact Nat.lt_of_le_of_lt (Nat.le_of_dvd (Nat.pos_of_ne_zero q.den_nz) (Nat.gcd_dvd_right _ _)) bq.2
    refine s_set (P := IM ((bot (v.take (i + 1)) : Nat) : Int)) (g_eq (g_I gm gg (nw_div hg0 hgb (by decide) (by decide))) (by rw [lcm_fdiv, bot_take hq])) fun u H5 e5 hu => ⟨k3.trans (.same (e4.trans e5)), some z, ?_⟩
    have hu' : u = .int _ := hu
    subst hu'
    rfl
  · obtain ⟨o3, rfl⟩ := hp
    rw [List.length_map, List.take_length]
    have s2 : Same H1 H2 := k2.nil
    have hs2 : SqL K H2 na xs := s2.seq hs1'
    have hxs2 := hxs1.mono (.same s2)
    have bb := bot_lt hbd v.length (Nat.le_refl _)
    rw [List.take_length] at bb
    have bb' : ((bot v : Nat) : Int).natAbs < 2 ^ 7300 := by
      rw [nat_abs_cast]
      refine lt_pow_of bb ?_
      have : 1200 * v.length ≤ 1200 * 6 := Nat.mul_le_mul_left _ hl6
      omega
    have fbd : ∀ z ∈ fnd v, z.natAbs < 2 ^ 8500 := fun z hz => by
      obtain ⟨q, hq, rfl⟩ := List.mem_map.mp hz
      have h2 : ((bot v / q.den : Nat) : Int).natAbs < 2 ^ 7300 := by
        rw [nat_abs_cast] at bb' ⊢
        exact Nat.lt_of_le_of_lt (Nat.div_le_self _ _) bb'
      exact abs_mul_lt (hbd q hq).n h2
    -- found = [..]
    refine s_setL (gl_lc (ps := (fnd v).map fun z => IM z) (src_list (g_vE rfl) hs2 hxs2) (by rw [List.length_map, List.length_map]; unfold fnd; rw [List.length_map]) (by rw [List.length_map]; omega) fun i z H' P' Q' hP hQ e hz => ?_) fun p ys H3 np e3 hp hys => ?_
    · obtain ⟨q, hq, rfl⟩ := map_get hP
      obtain ⟨y, hy, rfl⟩ := map_get hQ
      obtain ⟨q', hq', rfl⟩ := map_get hy
      rw [hq] at hq'
      cases hq'
      have bq := hbd q (List.mem_of_getElem? hq)
      refine ⟨_, gg_name, rfl, gt_yes, ?_⟩
      have gz : G (tVar 3) ((wipe [some (V.ref na), some (.int ((bot v : Nat) : Int)), some (.int ((part ((fnd v).take 0) : Nat) : Int)), o3, none, none] [3]).set 3 (some z)) H' (RtM K q) := g_var rfl hz
      have gd := g_ixT (i := 1) (P := IM (q.den : Int)) 1 gz rfl
      have gb : G (tVar 1) ((wipe [some (V.ref na), some (.int ((bot v : Nat) : Int)), some (.int ((part ((fnd v).take 0) : Nat) : Int)), o3, none, none] [3]).set 3 (some z)) H' (IM ((bot v : Nat) : Int)) := g_vE rfl
      have gq : G (tOp (rI CDivNW fun i j => .int (i.fdiv j)) (tVar 1) (tOp (rIxT K) (tVar 3) (tC (.int 1)))) ((wipe [some (V.ref na), some (.int ((bot v : Nat) : Int)), some (.int ((part ((fnd v).take 0) : Nat) : Int)), o3, none, none] [3]).set 3 (some z)) H' (IM ((bot v / q.den : Nat) : Int)) :=
        g_eq (g_I gb gd (nw_div (den_ne q) bq.d (by decide) (by decide))) (by rw [Int.fdiv_eq_ediv_of_nonneg _ (by omega), Int.natCast_ediv])
      have h2 : ((bot v / q.den : Nat) : Int).natAbs < 2 ^ 7300 := by
        rw [nat_abs_cast] at bb' ⊢
        exact Nat.lt_of_le_of_lt (Nat.div_le_self _ _) bb'
      exact g_mulW (g_ixT (i := 0) 0 gz rfl) gq bq.n h2 (by decide) (by decide) (by decide)
    -- for one in found
    have hyl : ys = (fnd v).map V.int := ints_of hys
    refine s_for (ws := []) (srck_list (g_vE rfl) (SqL.of hp) hys LsAt.nil (by simp)) (fun i σ H4 => ∃ o3, σ = [some (.ref na), some (.int ((bot v : Nat) : Int)), some (.int ((part ((fnd v).take i) : Nat) : Int)), o3, some (.ref p), none])
      (fun H4 e4 => ⟨_, rfl⟩) (fun Hb i z σ H4 H5 P' hb hP k4 hp4 e5 hz => ?_) fun σ H4 k4 hp4 => ?_
    · obtain ⟨o3', rfl⟩ := hp4
      obtain ⟨y, hy, rfl⟩ := map_get hP
      have hz' : z = .int y := hz
      subst hz'
      refine s_set (P := IM ((part ((fnd v).take (i + 1)) : Nat) : Int)) (g_eq (g_gcd (g_vE rfl) (g_vE rfl)) (by rw [nat_abs_cast, part_take hy])) fun u H6 e6 hu => ⟨k4.trans (.same (e5.trans e6)), some (.int y), ?_⟩
      have hu' : u = .int _ := hu
      subst hu'
      rfl
    · obtain ⟨o3', rfl⟩ := hp4
      rw [List.length_map, List.take_length]
      have s4 : Same H3 H4 := k4.nil
      have hp4 := s4 _ _ hp
      have hys4 := hys.mono (.same s4)
      have fz := fnd_nz hnz
      -- first = [..][0]
      have gf := gl_lcF (te := tVar 3) (tt := tTest (tOp rNe (tVar 3) (tC (.int 0)))) (g := gName 3) (vs := [3]) (os := (fnd v).map fun z => if z ≠ 0 then some (IM z) else none)
        (src_list (K := K) (σ := [some (.ref na), some (.int ((bot v : Nat) : Int)), some (.int ((part (fnd v) : Nat) : Int)), o3', some (.ref p), none]) (ta := tVar 4) (g_vE rfl) (SqL.of hp4) hys4) (by rw [List.length_map, List.length_map])
        (by rw [List.length_map]; unfold fnd; rw [List.length_map]; omega) fun i z H' P' o hP ho e hz => by
          obtain ⟨y, hy, rfl⟩ := map_get hP
          obtain ⟨y', hy', rfl⟩ := map_get ho
          rw [hy] at hy'
          cases hy'
          have hz' : z = .int y := hz
          subst hz'
          refine ⟨_, gg_name, rfl, ?_, fun Q' hQ' => ?_⟩
          · refine gt_test (g_eq (g_neI (g_vE rfl) (g_int (i := 0))) ?_)
            by_cases h0 : y = 0
            · rw [if_neg (by simp [h0]), decide_eq_false (by simp [h0])]; rfl
            · rw [if_pos h0, decide_eq_true h0]; rfl
          · by_cases h0 : y = 0
            · rw [if_neg (by simp [h0])] at hQ'; cases hQ'
            · rw [if_pos h0] at hQ'
              cases hQ'
              exact g_var rfl rfl
      rw [nz_os] at gf
      refine s_set (P := IM (fst (fnd v))) (g_ixN 0 gf (by rw [List.getElem?_map, nz_first fz]; rfl)) fun u H5 e5 hu => ?_
      have hu' : u = .int _ := hu
      subst hu'
      -- part = -part if first < 0 else part
      have gp : ∀ H6, G (tIf (tTest (tOp (rI0 fun i j => .bl (decide (i < j))) (tVar 5) (tC (.int 0)))) (tUn (rU fun i => .int (-i)) (tVar 2)) (tVar 2)) [some (.ref na), some (.int ((bot v : Nat) : Int)), some (.int ((part (fnd v) : Nat) : Int)), o3', some (.ref p), some (.int (fst (fnd v)))] H6 (IM (spart (fnd v))) := fun H6 => by
        have gc : G (tOp (rI0 fun i j => .bl (decide (i < j))) (tVar 5) (tC (.int 0))) [some (.ref na), some (.int ((bot v : Nat) : Int)), some (.int ((part (fnd v) : Nat) : Int)), o3', some (.ref p), some (.int (fst (fnd v)))] H6 (BM (decide (fst (fnd v) < 0))) := g_I0 (g_vE rfl) (g_int (i := 0))
        unfold spart
        by_cases h0 : fst (fnd v) < 0
        · rw [decide_eq_true h0] at gc
          rw [if_pos h0]
          exact g_ifT (gt_test gc) (g_ev (Evl.ev_un (ev_g (g_vE rfl)) Evl.ru_neg))
        · rw [decide_eq_false h0] at gc
          rw [if_neg h0]
          exact g_ifF (gt_test gc) (g_vE rfl)
      refine s_set (gp H5) fun u H6 e6 hu => ?_
      have hu' : u = .int _ := hu
      subst hu'
      have hp6 := e6 _ _ (e5 _ _ hp4)
      have hys6 := hys4.mono (.same (e5.trans e6))
      have sn := spart_ne fz
      have sb : (spart (fnd v)).natAbs < 2 ^ 8500 := by
        rw [spart_abs]
        obtain ⟨z, hz, h0⟩ := fz
        exact Nat.lt_of_le_of_lt (Nat.le_of_dvd (by omega) (part_dvd hz)) (fbd z hz)
      have gr := gl_lc (te := tOp (rI CDivNW fun i j => .int (i.fdiv j)) (tVar 3) (tVar 2)) (tt := tYes) (g := gName 3) (vs := [3]) (ps := (whole v).map fun z => IM z)
        (src_list (K := K) (σ := [some (.ref na), some (.int ((bot v : Nat) : Int)), some (.int (spart (fnd v))), o3', some (.ref p), some (.int (fst (fnd v)))]) (ta := tVar 4) (g_vE rfl) (SqL.of hp6) hys6)
        (by unfold whole; rw [List.length_map, List.length_map, List.length_map]) (by rw [List.length_map]; unfold fnd; rw [List.length_map]; omega) fun i z H' P' Q' hP hQ e hz => by
          obtain ⟨y, hy, rfl⟩ := map_get hP
          obtain ⟨y', hy', rfl⟩ := map_get hQ
          obtain ⟨y2, hy2, rfl⟩ := map_get hy'
          rw [hy] at hy2
          cases hy2
          have hz' : z = .int y := hz
          subst hz'
          exact ⟨_, gg_name, rfl, gt_yes, g_I (g_vE rfl) (g_vE rfl) (nw_div sn sb (by decide) (by decide))⟩
      exact s_retG (g_tupleL gr) fun u H7 e7 hu => k u H7 (((((e1.trans s2).trans e3).trans s4).trans (e5.trans e6)).trans e7) hu
end
end K54
namespace K54
open PySem PySem.Spec PyProof.Rows L2
/-! ### lists of lists -/
def LsI (ws : List Addr) (ps : List MP) (v : V) (H : Hp) : Prop := ∃ a xs, v = .ref a ∧ a ∉ ws ∧ H a = some (.lst xs) ∧ AllP ps xs H
def AllL (ws : List Addr) : List (List MP) → List V → Hp → Prop
  | [], [], _ => True
  | ps :: pss, v :: vs, H => LsI ws ps v H ∧ AllL ws pss vs H
  | _, _, _ => False
section
variable {K : PySem.W.Frag} {σ : L2.St} {H H' : Hp} {te ta : TE} {ws : List Addr} {qs ps : List MP} {pss : List (List MP)} {vs : List V} {v : V}
theorem LsI.mono (k : Kp ws H H') (hw : LsAt ws H) (h : LsI ws ps v H) : LsI ws ps v H' := let ⟨a, xs, e, n, ha, hx⟩ := h; ⟨a, xs, e, n, k _ _ ha n, hx.mono (k.tk hw)⟩
theorem LsI.same (k : Same H H') (h : LsI ws ps v H) : LsI ws ps v H' := let ⟨a, xs, e, n, ha, hx⟩ := h; ⟨a, xs, e, n, k _ _ ha, hx.mono (.same k)⟩
theorem LsI.held (h : LsI ws ps v H) : Held true K ps v H := let ⟨a, xs, e, _, ha, hx⟩ := h; ⟨a, xs, e, SqL.of ha, hx⟩
theorem AllL.mono (k : Kp ws H H') (hw : LsAt ws H) : ∀ {pss : List (List MP)} {vs : List V}, AllL ws pss vs H → AllL ws pss vs H'
  | [], [], h => h
  | _ :: _, _ :: _, h => ⟨h.1.mono k hw, AllL.mono k hw h.2⟩
  | [], _ :: _, h => h
  | _ :: _, [], h => h
theorem AllL.same (k : Same H H') : ∀ {pss : List (List MP)} {vs : List V}, AllL ws pss vs H → AllL ws pss vs H'
  | [], [], h => h
  | _ :: _, _ :: _, h => ⟨h.1.same k, AllL.same k h.2⟩
  | [], _ :: _, h => h
  | _ :: _, [], h => h
theorem AllL.length : ∀ {pss : List (List MP)} {vs : List V}, AllL ws pss vs H → vs.length = pss.length
  | [], [], _ => rfl
  | _ :: _, _ :: _, h => by
    have := AllL.length h.2
    simp [this]
  | [], _ :: _, h => h.elim
  | _ :: _, [], h => h.elim
theorem AllL.get : ∀ {pss : List (List MP)} {vs : List V} {i : Nat} {ps : List MP}, AllL ws pss vs H → pss[i]? = some ps → ∃ v, vs[i]? = some v ∧ LsI ws ps v H
  | P :: ps, v :: vs, 0, Q, h, e => by
    have e' : P = Q := Option.some.inj e
    subst e'
    exact ⟨v, rfl, h.1⟩
  | P :: ps, v :: vs, i + 1, Q, h, e => AllL.get (i := i) h.2 e
  | [], _, i, Q, h, e => by simp at e
  | _ :: _, [], i, Q, h, e => h.elim
theorem AllL.snoc {y : V} (hq : LsI ws ps y H) : ∀ {pss : List (List MP)} {vs : List V}, AllL ws pss vs H → AllL ws (pss ++ [ps]) (vs ++ [y]) H
  | [], [], _ => ⟨hq, trivial⟩
  | _ :: _, _ :: _, h => ⟨h.1, AllL.snoc hq h.2⟩
  | [], _ :: _, h => h.elim
  | _ :: _, [], h => h.elim
theorem AllL.set {y : V} (hq : LsI ws ps y H) : ∀ {pss : List (List MP)} {vs : List V} (i : Nat), AllL ws pss vs H → AllL ws (pss.set i ps) (vs.set i y) H
  | [], [], _, _ => trivial
  | _ :: _, _ :: _, 0, h => ⟨hq, h.2⟩
  | _ :: _, _ :: _, i + 1, h => ⟨h.1, AllL.set hq i h.2⟩
  | [], _ :: _, _, h => h.elim
  | _ :: _, [], _, h => h.elim
theorem LsI.weak {ws' : List Addr} (hs : ∀ b ∈ ws', b ∈ ws ∨ H b = none) (h : LsI ws ps v H) : LsI ws' ps v H := by
  obtain ⟨a, xs, e, n, ha, hx⟩ := h
  refine ⟨a, xs, e, fun z => ?_, ha, hx⟩
  rcases hs a z with q | q
  · exact n q
  · rw [q] at ha
    cases ha
theorem AllL.weak {ws' : List Addr} (hs : ∀ b ∈ ws', b ∈ ws ∨ H b = none) : ∀ {pss : List (List MP)} {vs : List V}, AllL ws pss vs H → AllL ws' pss vs H
  | [], [], h => h
  | _ :: _, _ :: _, h => ⟨h.1.weak hs, AllL.weak hs h.2⟩
  | [], _ :: _, h => h
  | _ :: _, [], h => h
/-- a new list of lists -/
def GLL (te : TE) (σ : L2.St) (H : Hp) (pss : List (List MP)) : Prop := ∀ H1, Same H H1 → ∀ Q : VK, (∀ p vs H2, H1 p = none → Same H1 H2 → H2 p = some (.lst vs) → AllL [p] pss vs H2 → Q (.ref p) H2) → te σ H1 Q
theorem gll_lc {wi : TI} {g : TG} {tt : TT} {vs : List Nat} (S : Src wi σ H qs) (hn : pss.length = qs.length) (hz : qs.length ≤ 100000)
    (turn : ∀ (i : Nat) x H' P ps, qs[i]? = some P → pss[i]? = some ps → Same H H' → P.p x H' → ∃ σ2, Gg g x (wipe σ vs) H' σ2 ∧ wipe σ2 vs = wipe σ vs ∧ GT tt σ2 H' true ∧ GL te σ2 H' ps) :
    GLL (tLc wi g tt te vs) σ H pss := fun H1 e Q q => S H1 e _ fun J H2 e2 ⟨Gd, Y, w, hG, hY⟩ D hD => by
  refine lc_it w (fun i H3 => Same H2 H3 ∧ ∃ acc, H3 D = some (.lst acc) ∧ AllL [D] (pss.take i) acc H3) ⟨same_new hD, [], upd_same, trivial⟩ (fun i H3 _ h => hG H3 h.1) (fun i x H3 H4 hi hp hy => ?_) fun H3 h => ?_
  · obtain ⟨e3, acc, hacc, hall⟩ := hp
    obtain ⟨e4, hx⟩ := hY i x H3 H4 hi e3 hy
    have ho : pss[i]? = some pss[i] := List.getElem?_eq_getElem (by omega)
    obtain ⟨σ2, g2, w2, t2, k2⟩ := turn i x H4 _ _ (List.getElem?_eq_getElem hi) ho ((e.trans e2).trans (e3.trans e4)) (hx _ (List.getElem?_eq_getElem hi))
    refine g2 _ ⟨w2, t2 H4 (Evl.Ex.refl H4) _ fun H5 e5 => ?_⟩
    refine iteT ?_
    refine k2 H5 e5 _ fun p xs H6 np e6 hp hxs => ?_
    have hD5 : H5 D = some (.lst acc) := e5 _ _ (e4 _ _ hacc)
    have hD6 : H6 D = some (.lst acc) := e6 _ _ hD5
    have hlen := hall.length
    rw [List.length_take] at hlen
    have npD : p ≠ D := (ne_of_none hD5 np).symm
    have kp : Kp [D] H6 (upd H6 D (.lst (acc ++ [.ref p]))) := (Kp.refl H6).set (by simp)
    have la : LsAt [D] H6 := LsAt.one hD6
    refine ⟨acc, hD6, Evl.sz_lt (by omega), same_mut (((e3.trans e4).trans e5).trans e6) hD, acc ++ [.ref p], upd_same, ?_⟩
    rw [List.take_add_one, ho]
    exact AllL.mono kp la (AllL.snoc ⟨p, xs, rfl, by simpa using npD, hp, hxs⟩ (hall.same ((e4.trans e5).trans e6)))
  · obtain ⟨e3, acc, hacc, hall⟩ := h
    rw [List.take_of_length_le (by omega)] at hall
    exact q D acc H3 (Evl.fresh_back e2 hD) (e2.trans e3) hacc hall
end
/-! scopes of comprehensions in comprehensions -/
def lcScope : Expr → Scope
  | .ListComp _ _ sc _ => sc
  | _ => { kind := .function, names := [], isGenerator := false, isCoroutine := false }
def lcElt : Expr → Expr
  | .ListComp e _ _ _ => e
  | e => e
def lcIf : Expr → Expr
  | .ListComp _ (⟨_, _, c :: _, _⟩ :: _) _ _ => c
  | e => e
def stValue : Stmt → Expr
  | .Assign _ e _ => e
  | .Return (some e) _ => e
  | _ => .Constant .none 0 ⟨0, 0, 0, 0⟩
end K54
namespace K54
open PySem PySem.Spec PyProof.Rows L2
section
variable {K : PySem.W.Frag} {σ : L2.St} {H : Hp} {te ta : TE} {E : XK}
theorem g_whole {v : List Rat} (h : GH true K te σ H (v.map (RtM K))) (hl : v.length ≤ 6) (hb : ∀ q ∈ v, Bd 1200 q) (hn : ∃ q ∈ v, q ≠ 0) : G (tCall (spWhole K) [] E (tCons te tNil)) σ H (NsM K (whole v)) := fun H1 e Q q =>
  h H1 e _ fun x H2 e2 hx => ⟨v, x, hl, hb, hn, rfl, hx, fun z H3 e3 hz => q z H3 (e2.trans e3) hz⟩
theorem g_lprod {l m : Ln} {i j : Nat} {x y : V} (hb : Bd 500 l.a ∧ Bd 500 l.b ∧ Bd 500 l.c ∧ Bd 500 m.a ∧ Bd 500 m.b ∧ Bd 500 m.c) (hi : σ[i]? = some (some x)) (hj : σ[j]? = some (some y)) (hx : LnH K l x H) (hy : LnH K m y H) :
    G (tCall (spLProd K) [] E (tCons (tVar i) (tCons (tVar j) tNil))) σ H (Tp K ((lprod l m).map (RtM K))) := fun H1 e Q q =>
  ⟨x, hi, y, hj, l, m, x, y, hb, rfl, hx.up e, hy.up e, fun z H3 e3 hz => q z H3 e3 hz⟩
theorem s_unl3 {P Q R : List MP} {D : Ends} {i j l : Nat} (h : GLL te σ H [P, Q, R]) (k : ∀ x y z H1, Same H H1 → Held true K P x H1 → Held true K Q y H1 → Held true K R z H1 → D.nx (((σ.set i (some x)).set j (some y)).set l (some z)) H1) :
    tAsg te (gUnl K 3 (gCons (gName i) (gCons (gName j) (gCons (gName l) gNil)))) D σ H := h H (Same.refl H) _ fun p vs H1 np e hp hv => by
  match vs, hv with
  | [x, y, z], hv => exact ⟨p, [x, y, z], rfl, SqL.of hp, rfl, x, [y, z], rfl, y, [z], rfl, z, [], rfl, rfl, k x y z H1 e hv.1.held hv.2.1.held hv.2.2.1.held⟩
theorem zip_get {X Y : List Rat} {f : Rat → Rat → Rat} {i : Nat} {P Q : MP} (hP : (zipM K (X.map (RtM K)) (Y.map (RtM K)))[i]? = some P) (hQ : ((List.zipWith f X Y).map (RtM K))[i]? = some Q) :
    ∃ a b, X[i]? = some a ∧ Y[i]? = some b ∧ P = Tp K [RtM K a, RtM K b] ∧ Q = RtM K (f a b) := by
  obtain ⟨q, hq, rfl⟩ := map_get hQ
  rw [List.getElem?_zipWith] at hq
  cases e1 : X[i]? with
  | none => rw [e1] at hq; cases hq
  | some a =>
    cases e2 : Y[i]? with
    | none => rw [e1, e2] at hq; cases hq
    | some b =>
      rw [e1, e2] at hq
      have hq' : f a b = q := Option.some.inj hq
      unfold zipM at hP
      rw [List.getElem?_zipWith, List.getElem?_map, List.getElem?_map, e1, e2] at hP
      exact ⟨a, b, rfl, rfl, (Option.some.inj hP).symm, by rw [hq']⟩
end
def LnB (a c : Nat) (l : Ln) : Prop := Bd a l.a ∧ Bd a l.b ∧ Bd c l.c
theorem line_b {p q : Pt} (h1 : Bd 5 p.1 ∧ Bd 5 p.2) (h2 : Bd 5 q.1 ∧ Bd 5 q.2) : LnB 11 35 (line p q) :=
  ⟨h1.2.sub h2.2, h2.1.sub h1.1, bd_zero.sub (((h1.2.sub h2.2).mul h1.1).add ((h2.1.sub h1.1).mul h1.2))⟩
theorem at_b {l : Ln} {p : Pt} (h : LnB 11 35 l) (hp : Bd 5 p.1 ∧ Bd 5 p.2) : Bd 69 (l.at p) := ((h.1.mul hp.1).add (h.2.1.mul hp.2)).add h.2.2
theorem div_b {l : Ln} {h : Rat} (hl : LnB 11 35 l) (hh : Bd 69 h) (h0 : h ≠ 0) : LnB 104 104 (l.div h) := ⟨(hl.1.div hh h0).mono (by decide), (hl.2.1.div hh h0).mono (by decide), (hl.2.2.div hh h0).mono (by decide)⟩
theorem lprod_b {l m : Ln} (hl : LnB 104 104 l) (hm : LnB 104 104 m) : ∀ q ∈ lprod l m, Bd 417 q := fun q hq => by
  unfold lprod at hq
  simp only [List.mem_cons, List.not_mem_nil, or_false] at hq
  rcases hq with rfl | rfl | rfl | rfl | rfl | rfl
  · exact (hl.1.mul hm.1).mono (by decide)
  · exact (hl.1.mul hm.2.1).add (hl.2.1.mul hm.1)
  · exact (hl.2.1.mul hm.2.1).mono (by decide)
  · exact (hl.1.mul hm.2.2).add (hl.2.2.mul hm.1)
  · exact (hl.2.1.mul hm.2.2).add (hl.2.2.mul hm.2.1)
  · exact (hl.2.2.mul hm.2.2).mono (by decide)
theorem bd_four : Bd 3 (4 : Rat) := ⟨by decide, by decide⟩
theorem six500 {l m : Ln} (hl : LnB 104 104 l) (hm : LnB 104 104 m) : Bd 500 l.a ∧ Bd 500 l.b ∧ Bd 500 l.c ∧ Bd 500 m.a ∧ Bd 500 m.b ∧ Bd 500 m.c :=
  ⟨hl.1.mono (by decide), hl.2.1.mono (by decide), hl.2.2.mono (by decide), hm.1.mono (by decide), hm.2.1.mono (by decide), hm.2.2.mono (by decide)⟩
def EqBd (A B C : Pt) (u v w : Rat) : Prop := (Bd 5 A.1 ∧ Bd 5 A.2) ∧ (Bd 5 B.1 ∧ Bd 5 B.2) ∧ (Bd 5 C.1 ∧ Bd 5 C.2) ∧ Bd 5 u ∧ Bd 5 v ∧ Bd 5 w
def dEq (K : PySem.W.Frag) : List MP → MP → Prop := fun ps R => ∃ (A B C : Pt) (u v w : Rat), EqBd A B C u v w ∧ 0 < u.num ∧ 0 < v.num ∧ 0 < w.num ∧ ps = [Tp K [PtM K A, PtM K B, PtM K C], Tp K [RtM K u, RtM K v, RtM K w]] ∧
  R = if (line B C).at A = 0 then EqM .non else NsM K (whole (eqv A B C u v w))
abbrev nEq : List Str := ["points", "weights", "first", "second", "third", "sides", "heights", "side", "x", "y", "zero", "one", "two", "left", "right", "outer", "inner", "height", "number"]
section
variable {P : Program} {w : World} {K : PySem.W.Frag} {mg : Str → Option Value} {base : Heap}
theorem sc_eq : FnScope nEq ["points", "weights"] (defScope sEquation) := ⟨rfl, rfl, rfl, by decide +kernel, rfl, by decide +kernel, by decide +kernel⟩
theorem ok_equation (D : Df K mg "equation" sEquation ["points", "weights"]) (T : Txt K mg) (HN : Has P w K mg base "need_points" ["value", "many"] 4 (spX (dNeedPts K))) (HW : Has P w K mg base "need_weights" ["value"] 4 (spX (dNeedW K)))
    (HLn : Has P w K mg base "line_through" ["one", "other"] 3 (spX (dLine K))) (HPl : Has P w K mg base "plus" ["one", "other"] 2 (spX (dPlus K))) (HLs : Has P w K mg base "less" ["one", "other"] 2 (spX (dLess K)))
    (HT : Has P w K mg base "times" ["one", "other"] 2 (spX (dTimes K))) (HO : Has P w K mg base "over" ["one", "other"] 2 (spX (dOver K))) (HLP : Has P w K mg base "line_product" ["one", "other"] 3 (spLProd K)) (HWh : Has P w K mg base "whole_numbers" ["numbers"] 1 (spWhole K)) :
    Has P w K mg base "equation" ["points", "weights"] 5 (spX (dEq K)) := D.has fun f fd F => by
  refine F.ok sc_eq (sp_len fun ps P ⟨_, _, _, _, _, _, _, _, _, _, e, _⟩ => by rw [e]; rfl) (fun cdv A outer s H vs Q E hr h => ?_)
  obtain ⟨ps, R, ⟨pA, pB, pC, u, v, w', hb, pu, pv', pw, rfl, rfl⟩, hv, k⟩ := h
  obtain ⟨x0, x1, rfl, hx0, hx1⟩ := all2 hv
  have hr1 : Room 1 _ := hr.mono (by decide)
  have hr2 : Room 2 _ := hr.mono (by decide)
  have hr3 : Room 3 _ := hr.mono (by decide)
  obtain ⟨z, gz, hz⟩ := T.zeroR
  have nd := sc_eq.nd
  refine ⟨_, pss_cons (ps_expr (pe_c HN hr (by rfl) (pa_cons (pv 0) (pa_cons pe_int pa_nil)))) (pss_cons (ps_expr (pe_c HW hr (by rfl) (pa_cons (pv 1) pa_nil)))
    (pss_cons (ps_asg (pv 0) (pg_tup (by rfl) (pgs_cons (pg_name (i := 2) nd rfl (.inl rfl)) (pgs_cons (pg_name (i := 3) nd rfl (.inl rfl)) (pgs_cons (pg_name (i := 4) nd rfl (.inl rfl)) pgs_nil)))))
    (pss_cons (ps_set (i := 5) nd rfl (.inl rfl) (pe_tup (pa_cons (pe_c HLn hr3 (by rfl) (pa_cons (pv 3) (pa_cons (pv 4) pa_nil))) (pa_cons (pe_c HLn hr3 (by rfl) (pa_cons (pv 2) (pa_cons (pv 4) pa_nil))) (pa_cons (pe_c HLn hr3 (by rfl) (pa_cons (pv 2) (pa_cons (pv 3) pa_nil))) pa_nil)))))
    (pss_cons (ps_set (i := 6) nd rfl (.inl rfl) (pe_lst pa_nil))
    (pss_cons (ps_for PassesOwn.never rfl (pi_zipX false false (by rfl) T.zip (pa_cons (pv 5) (pa_cons (pv 0) pa_nil)))
        (pg_tup rfl (pgs_cons (pg_name (i := 7) nd rfl (Or.inl rfl)) (pgs_cons (pg_tup rfl (pgs_cons (pg_name (i := 8) nd rfl (Or.inl rfl)) (pgs_cons (pg_name (i := 9) nd rfl (Or.inl rfl)) pgs_nil))) pgs_nil)))
        (pss_one (ps_expr (pe_bm PySem.F.plainAttrs_list PySem.F.slot_list_append PySem.F.type_list_append mt_append (pv 6) (pa_cons (pe_c HPl hr2 (by rfl) (pa_cons (pe_c HPl hr2 (by rfl) (pa_cons
          (pe_c HT hr2 (by rfl) (pa_cons (pe_ix ix_tup (pv 7) pe_int (fun _ _ => rfl)) (pa_cons (pv 8) pa_nil))) (pa_cons (pe_c HT hr2 (by rfl) (pa_cons (pe_ix ix_tup (pv 7) pe_int (fun _ _ => rfl)) (pa_cons (pv 9) pa_nil))) pa_nil)))
          (pa_cons (pe_ix ix_tup (pv 7) pe_int (fun _ _ => rfl)) pa_nil))) pa_nil)))))
    (pss_cons (ps_if (pt_cmpR (op_eqD hr.units) (pe_ix ix_list (pv 6) pe_int (fun _ _ => rfl)) (pe_glob (v := .ref z) (by rfl) gz rfl) (nomark _)) (pss_one (ps_ret pe_non)) pss_nil)
    (pss_cons (ps_asg (pe_lc (own := [("side", 7), ("height", 17)]) (g := gTup K 2 (gCons (gName 7) (gCons (gName 17) gNil))) (tt := tYes) rfl nd (pi_zipX false true (by rfl) T.zip (pa_cons (pv 5) (pa_cons (pv 6) pa_nil)))
          (blkOk_by (N := nEq) (sc := defScope sEquation) (by decide +kernel))
          (fun _ _ _ _ _ => pg_tup rfl (pgs_cons (pg_name (i := 7) nd rfl (Or.inl rfl)) (pgs_cons (pg_name (i := 17) nd rfl (Or.inr rfl)) pgs_nil))) (fun _ _ _ _ _ => pts_nil)
          (fun _ _ _ _ _ => pe_lc (own := [("number", 18)]) (wi := iTup K (tVar 7)) (g := gName 18) (tt := tYes) rfl nd (pi_tup (pv 7)) (blkOk_by (N := nEq) (sc := relS (lcScope (stValue ((defBody sEquation).getD 7 (.Pass ⟨0, 0, 0, 0⟩)))) (defScope sEquation)) (by decide +kernel))
            (fun _ _ _ _ _ => pg_name (i := 18) nd rfl (Or.inl rfl)) (fun _ _ _ _ _ => pts_nil) (fun _ _ _ _ _ => pe_c HO hr2 (by rfl) (pa_cons (pv 18) (pa_cons (pv 17) pa_nil)))))
        (pg_unl (by rfl) (pgs_cons (pg_name (i := 10) nd rfl (.inl rfl)) (pgs_cons (pg_name (i := 11) nd rfl (.inl rfl)) (pgs_cons (pg_name (i := 12) nd rfl (.inl rfl)) pgs_nil)))))
    (pss_cons (ps_par (i := 13) (j := 14) (by rfl) nd rfl rfl (by decide) rfl rfl (pa_cons (pe_c HLP hr3 (by rfl) (pa_cons (pv 11) (pa_cons (pv 11) pa_nil))) (pa_cons (pe_c HLP hr3 (by rfl) (pa_cons (pv 10) (pa_cons (pv 12) pa_nil))) pa_nil)) (by rfl))
    (pss_cons (ps_asg (pe_tup (pa_cons (pe_c HT hr2 (by rfl) (pa_cons (pe_ix ix_tup (pv 1) pe_int (fun _ _ => rfl)) (pa_cons (pe_ix ix_tup (pv 1) pe_int (fun _ _ => rfl)) pa_nil)))
          (pa_cons (pe_c HT hr2 (by rfl) (pa_cons (pe_tup (pa_cons pe_int (pa_cons pe_int pa_nil))) (pa_cons (pe_c HT hr2 (by rfl) (pa_cons (pe_ix ix_tup (pv 1) pe_int (fun _ _ => rfl)) (pa_cons (pe_ix ix_tup (pv 1) pe_int (fun _ _ => rfl)) pa_nil))) pa_nil))) pa_nil)))
        (pg_tup (by rfl) (pgs_cons (pg_name (i := 15) nd rfl (.inr rfl)) (pgs_cons (pg_name (i := 16) nd rfl (.inr rfl)) pgs_nil))))
    (pss_one (ps_ret (pe_c HWh hr1 (by rfl) (pa_cons (pe_lc (own := [("x", 8), ("y", 9)]) (g := gTup K 2 (gCons (gName 8) (gCons (gName 9) gNil))) (tt := tYes) rfl nd (pi_zipX false false (by rfl) T.zip (pa_cons (pv 13) (pa_cons (pv 14) pa_nil)))
          (blkOk_by (N := nEq) (sc := defScope sEquation) (by decide +kernel))
          (fun _ _ _ _ _ => pg_tup rfl (pgs_cons (pg_name (i := 8) nd rfl (Or.inl rfl)) (pgs_cons (pg_name (i := 9) nd rfl (Or.inl rfl)) pgs_nil))) (fun _ _ _ _ _ => pts_nil)
          (fun _ _ _ _ _ => pe_c HLs hr2 (by rfl) (pa_cons (pe_c HT hr2 (by rfl) (pa_cons (pv 15) (pa_cons (pv 8) pa_nil))) (pa_cons (pe_c HT hr2 (by rfl) (pa_cons (pv 16) (pa_cons (pv 9) pa_nil))) pa_nil)))) pa_nil))))))))))))), ?_⟩
  obtain ⟨bA, bB, bC, bu, bv, bw⟩ := hb
  have h0 : G (tVar 0) (start nEq [x0, x1]) H (Tp K ([pA, pB, pC].map (PtM K))) := g_var rfl hx0
  have h1 : G (tVar 1) (start nEq [x0, x1]) H (Tp K [RtM K u, RtM K v, RtM K w']) := g_var rfl hx1
  refine s_drop (P := EqM .non) (g_call (ga_cons h0 (ga_cons g_int ga_nil)) ⟨[pA, pB, pC], by simp, rfl, rfl⟩) fun H1 e1 => ?_
  refine s_drop (P := EqM .non) (g_call (ga_cons (h1.up e1) ga_nil) ⟨u, v, w', pu, pv', pw, rfl, rfl⟩) fun H2 e2 => ?_
  have e02 := e1.trans e2
  -- first, second, third = points
  refine s_unp3 (h0.up e02) fun a b c H3 e3 ha hb hc => ?_
  have gA : G (tVar 2) ((((start nEq [x0, x1]).set 2 (some a)).set 3 (some b)).set 4 (some c)) H3 (PtM K pA) := g_var rfl ha
  have gB : G (tVar 3) ((((start nEq [x0, x1]).set 2 (some a)).set 3 (some b)).set 4 (some c)) H3 (PtM K pB) := g_var rfl hb
  have gC : G (tVar 4) ((((start nEq [x0, x1]).set 2 (some a)).set 3 (some b)).set 4 (some c)) H3 (PtM K pC) := g_var rfl hc
  have up5 : ∀ {q : Rat}, Bd 5 q → Bd 100 q := fun h => h.mono (by decide)
  have e03 := e02.trans e3
  -- sides
  refine s_set (P := Tp K [LnM K (line pB pC), LnM K (line pA pC), LnM K (line pA pB)]) (g_tup (K := K) (ga_cons (g_call (ga_cons gB (ga_cons gC ga_nil)) ⟨pB, pC, up5 bB.1, up5 bB.2, up5 bC.1, up5 bC.2, rfl, rfl⟩)
    (ga_cons (g_call (ga_cons gA (ga_cons gC ga_nil)) ⟨pA, pC, up5 bA.1, up5 bA.2, up5 bC.1, up5 bC.2, rfl, rfl⟩) (ga_cons (g_call (ga_cons gA (ga_cons gB ga_nil)) ⟨pA, pB, up5 bA.1, up5 bA.2, up5 bB.1, up5 bB.2, rfl, rfl⟩) ga_nil)))) fun sd H4 e4 hsd => ?_
  -- heights = []
  refine s_setL (gl_lst (ps := []) ga_nil) fun hp ys0 H5 nhp e5 hhp hys0 => ?_
  have hy0 : ys0 = [] := mgnil hys0
  subst hy0
  have e05 := (e03.trans e4).trans e5
  have bl0 := line_b bB bC
  have bl1 := line_b bA bC
  have bl2 := line_b bA bB
  have nH : H hp = none := (e03.trans e4).free nhp
  have hx0_5 : (Tp K [PtM K pA, PtM K pB, PtM K pC]).p x0 H5 := MP.mono _ _ _ _ (.same e05) hx0
  have hsd5 : (Tp K [LnM K (line pB pC), LnM K (line pA pC), LnM K (line pA pB)]).p sd H5 := MP.mono _ _ _ _ (.same e5) hsd
  refine s_for (ws := [hp]) (srck_zipT (g_var rfl hsd5) (g_var rfl hx0_5) rfl (LsAt.one hhp)) (fun i σ H6 => ∃ o7 o8 o9 ys, σ = [some x0, some x1, some a, some b, some c, some sd, some (.ref hp), o7, o8, o9, none, none, none, none, none, none, none, none, none] ∧ H6 hp = some (.lst ys) ∧
      AllP (([(line pB pC).at pA, (line pA pC).at pB, (line pA pB).at pC].take i).map (RtM K)) ys H6) (fun H6 e6 => ⟨none, none, none, [], rfl, e6 _ _ hhp, trivial⟩) (fun Hb i y σ H6 H7 P' e6 hP k6 hpv e7 hy => ?_) fun σ H6 k6 hpv => ?_
  · obtain ⟨o7, o8, o9, ys, rfl, hpy, hys⟩ := hpv
    have hpy7 := e7 _ _ hpy
    have main : ∃ (l : Ln) (p : Pt), [(line pB pC).at pA, (line pA pC).at pB, (line pA pB).at pC][i]? = some (l.at p) ∧ LnB 11 35 l ∧ (Bd 5 p.1 ∧ Bd 5 p.2) ∧ P' = Tp K [LnM K l, PtM K p] := by
      match i, hP with
      | 0, hP => cases hP; exact ⟨_, _, rfl, bl0, bA, rfl⟩
      | 1, hP => cases hP; exact ⟨_, _, rfl, bl1, bB, rfl⟩
      | 2, hP => cases hP; exact ⟨_, _, rfl, bl2, bC, rfl⟩
      | i + 3, hP => simp [zipM] at hP
    obtain ⟨l, p, hi, bl, bp, rfl⟩ := main
    obtain ⟨T1, y1, y2, rfl, hs1, hy1, hy2⟩ := tp2 hy
    obtain ⟨T2, z1, z2, rfl, hs2, hz1, hz2⟩ := tp2 hy2
    refine gg_tup2 hs1 gg_name (gg_tup2 hs2 gg_name gg_name) _ ?_
    have gl : G (tVar 7) [some x0, some x1, some a, some b, some c, some sd, some (.ref hp), some y1, some z1, some z2, none, none, none, none, none, none, none, none, none] H7 (LnM K l) := g_var rfl hy1
    have g1 : G (tVar 8) [some x0, some x1, some a, some b, some c, some sd, some (.ref hp), some y1, some z1, some z2, none, none, none, none, none, none, none, none, none] H7 (RtM K p.1) := g_var rfl hz1
    have g2 : G (tVar 9) [some x0, some x1, some a, some b, some c, some sd, some (.ref hp), some y1, some z1, some z2, none, none, none, none, none, none, none, none, none] H7 (RtM K p.2) := g_var rfl hz2
    refine s_app (P := RtM K (l.at p)) hpy7 (g_vE rfl) (g_plus (g_plus (g_times (g_ixT 0 gl rfl) g1 bl.1 bp.1) (g_times (g_ixT 1 gl rfl) g2 bl.2.1 bp.2) (bl.1.mul bp.1) (bl.2.1.mul bp.2)) (g_ixT 2 gl rfl) ((bl.1.mul bp.1).add (bl.2.1.mul bp.2)) bl.2.2) ?_ fun vv H8 e8 hvv => ?_
    · have := hys.length
      rw [List.length_map, List.length_take] at this
      have h3 : [(line pB pC).at pA, (line pA pC).at pB, (line pA pB).at pC].length = 3 := rfl
      omega
    · refine ⟨(k6.trans (.same (e7.trans e8))).set (by simp), some y1, some z1, some z2, ys ++ [vv], rfl, upd_same, ?_⟩
      rw [List.take_add_one, hi, List.map_append]
      exact (AllP.snoc hvv (hys.mono (.same (e7.trans e8)))).mono (TKp.set (e8 _ _ hpy7))
  · obtain ⟨o7, o8, o9, ys, rfl, hpy, hys⟩ := hpv
    have hys : AllP ([(line pB pC).at pA, (line pA pC).at pB, (line pA pB).at pC].map (RtM K)) ys H6 := hys
    have e06 : Same H H6 := fun bb o q => k6 _ _ (e05 _ _ q) (by
      have : bb ≠ hp := ne_of_none q nH
      simpa using this)
    have t56 : TKp H5 H6 := k6.tk (LsAt.one hhp)
    have bh0 := at_b bl0 bA
    have bh1 := at_b bl1 bB
    have bh2 := at_b bl2 bC
    obtain ⟨y0, hy0, py0⟩ := hys.get (i := 0) rfl
    have gt := g_eqR (K := K) (g_ixL (K := K) (σ := [some x0, some x1, some a, some b, some c, some sd, some (.ref hp), o7, o8, o9, none, none, none, none, none, none, none, none, none]) (ta := tVar 6) (g_vE rfl) (g_int (i := 0)) (SqL.of hpy) (atI_nat (j := 0) hy0) py0) (g_c (hz H6))
    by_cases hD : (line pB pC).at pA = 0
    · rw [decide_eq_true hD] at gt
      rw [if_pos hD] at k
      exact s_ifT (gt_test gt) fun H7 e7 => k _ H7 (e06.trans e7) rfl
    · rw [decide_eq_false hD] at gt
      rw [if_neg hD] at k
      refine s_ifF (gt_test gt) fun H7 e7 => ?_
      have hD1 : (line pA pC).at pB ≠ 0 := by
        have e := at1 pA pB pC
        rw [e]
        intro q
        exact hD (by grind)
      have hD2 : (line pA pB).at pC ≠ 0 := by rw [at2]; exact hD
      have hpy7 := e7 _ _ hpy
      have hys7 := hys.mono (.same e7)
      have hsd7 := MP.mono _ _ _ _ (t56.trans (.same e7)) hsd5
      -- zero, one, two = [[..] ..]
      refine s_unl3 (K := K) (P := [RtM K ((line pB pC).div ((line pB pC).at pA)).a, RtM K ((line pB pC).div ((line pB pC).at pA)).b, RtM K ((line pB pC).div ((line pB pC).at pA)).c])
        (Q := [RtM K ((line pA pC).div ((line pA pC).at pB)).a, RtM K ((line pA pC).div ((line pA pC).at pB)).b, RtM K ((line pA pC).div ((line pA pC).at pB)).c])
        (R := [RtM K ((line pA pB).div ((line pA pB).at pC)).a, RtM K ((line pA pB).div ((line pA pB).at pC)).b, RtM K ((line pA pB).div ((line pA pB).at pC)).c])
        (gll_lc (src_zip (gh_T (g_var rfl hsd7)) (gh_V (g_vE rfl) (SqL.of hpy7) hys7) rfl) rfl (by simp [zipM]) fun i y H' P' Q' hP hQ e' hy => ?_) fun zr on tw H8 e8 hzr hon htw => ?_
      · have main : ∀ (l : Ln) (h : Rat), LnB 11 35 l → Bd 69 h → h ≠ 0 → (Tp K [LnM K l, RtM K h]).p y H' → ∃ σ2, Gg (gTup K 2 (gCons (gName 7) (gCons (gName 17) gNil))) y (wipe [some x0, some x1, some a, some b, some c, some sd, some (.ref hp), o7, o8, o9, none, none, none, none, none, none, none, none, none] [7, 17]) H' σ2 ∧
            wipe σ2 [7, 17] = wipe [some x0, some x1, some a, some b, some c, some sd, some (.ref hp), o7, o8, o9, none, none, none, none, none, none, none, none, none] [7, 17] ∧ GT tYes σ2 H' true ∧
            GL (tLc (iTup K (tVar 7)) (gName 18) tYes (tCall (spX (dOver K)) [] E0 (tCons (tVar 18) (tCons (tVar 17) tNil))) [18]) σ2 H' [RtM K (l.div h).a, RtM K (l.div h).b, RtM K (l.div h).c] := fun l h bl bh h0 hy => by
          obtain ⟨T1, y1, y2, rfl, hs1, hy1, hy2⟩ := tp2 hy
          refine ⟨_, gg_tup2 hs1 gg_name gg_name, rfl, gt_yes, ?_⟩
          refine gl_lc (src_tup (qs := [RtM K l.a, RtM K l.b, RtM K l.c]) (g_var rfl hy1)) rfl (by simp) fun j q H'' P'' Q'' hP hQ e'' hq => ?_
          have m2 : ∀ (r : Rat), Bd 35 r → (RtM K r).p q H'' → ∃ σ3, Gg (gName 18) q (wipe (((wipe [some x0, some x1, some a, some b, some c, some sd, some (.ref hp), o7, o8, o9, none, none, none, none, none, none, none, none, none] [7, 17]).set 7 (some y1)).set 17 (some y2)) [18]) H'' σ3 ∧
              wipe σ3 [18] = wipe (((wipe [some x0, some x1, some a, some b, some c, some sd, some (.ref hp), o7, o8, o9, none, none, none, none, none, none, none, none, none] [7, 17]).set 7 (some y1)).set 17 (some y2)) [18] ∧ GT tYes σ3 H'' true ∧
              G (tCall (spX (dOver K)) [] E0 (tCons (tVar 18) (tCons (tVar 17) tNil))) σ3 H'' (RtM K (r / h)) := fun r br hq =>
            ⟨_, gg_name, rfl, gt_yes, g_over (g_var rfl hq) (g_var rfl (MP.mono _ _ _ _ (.same e'') hy2)) br bh h0⟩
          match j, hP, hQ with
          | 0, hP, hQ => cases hP; cases hQ; exact m2 _ (bl.1.mono (by decide)) hq
          | 1, hP, hQ => cases hP; cases hQ; exact m2 _ (bl.2.1.mono (by decide)) hq
          | 2, hP, hQ => cases hP; cases hQ; exact m2 _ bl.2.2 hq
          | j + 3, hP, hQ => simp at hP
        match i, hP, hQ with
        | 0, hP, hQ => cases hP; cases hQ; exact main _ _ bl0 bh0 hD hy
        | 1, hP, hQ => cases hP; cases hQ; exact main _ _ bl1 bh1 hD1 hy
        | 2, hP, hQ => cases hP; cases hQ; exact main _ _ bl2 bh2 hD2 hy
        | i + 3, hP, hQ => simp [zipM] at hP
      · have d0 := div_b bl0 bh0 hD
        have d1 := div_b bl1 bh1 hD1
        have d2 := div_b bl2 bh2 hD2
        -- left, right
        refine s_par (ga_cons (g_lprod (l := (line pA pC).div ((line pA pC).at pB)) (m := (line pA pC).div ((line pA pC).at pB)) (six500 d1 d1) rfl rfl hon hon)
          (ga_cons (g_lprod (l := (line pB pC).div ((line pB pC).at pA)) (m := (line pA pB).div ((line pA pB).at pC)) (six500 d0 d2) rfl rfl hzr htw) ga_nil)) fun lf rt H9 e9 hlf hrt => ?_
        have e09 : Same H H9 := ((e06.trans e7).trans e8).trans e9
        have gw : G (tVar 1) [some x0, some x1, some a, some b, some c, some sd, some (.ref hp), o7, o8, o9, some zr, some on, some tw, some lf, some rt, none, none, none, none] H9 (Tp K [RtM K u, RtM K v, RtM K w']) := g_var rfl (MP.mono _ _ _ _ (.same e09) hx1)
        -- outer, inner
        refine s_unp2 (g_tup (K := K) (ga_cons (g_times (g_ixT (i := 0) 0 gw rfl) (g_ixT (i := 2) 2 gw rfl) bu bw) (ga_cons (g_times (p := 4) (g_tup (K := K) (ga_cons (g_int (i := 4)) (ga_cons (g_int (i := 1)) ga_nil)))
          (g_times (g_ixT (i := 1) 1 gw rfl) (g_ixT (i := 1) 1 gw rfl) bv bv) bd_four (bv.mul bv)) ga_nil))) fun ot inn H10 e10 hot hin => ?_
        have hlf10 := MP.mono _ _ _ _ (.same e10) hlf
        have hrt10 := MP.mono _ _ _ _ (.same e10) hrt
        have b1 := lprod_b d1 d1
        have b2 := lprod_b d0 d2
        have hL : (lprod ((line pA pC).div ((line pA pC).at pB)) ((line pA pC).div ((line pA pC).at pB))).length = (lprod ((line pB pC).div ((line pB pC).at pA)) ((line pA pB).div ((line pA pB).at pC))).length := rfl
        have gl : GL (tLc (iZipX false false K (tCons (tVar 13) (tCons (tVar 14) tNil))) (gTup K 2 (gCons (gName 8) (gCons (gName 9) gNil))) tYes (tCall (spX (dLess K)) [] E0 (tCons (tCall (spX (dTimes K)) [] E0 (tCons (tVar 15) (tCons (tVar 8) tNil))) (tCons (tCall (spX (dTimes K)) [] E0 (tCons (tVar 16) (tCons (tVar 9) tNil))) tNil))) [8, 9])
            [some x0, some x1, some a, some b, some c, some sd, some (.ref hp), o7, o8, o9, some zr, some on, some tw, some lf, some rt, some ot, some inn, none, none] H10 ((eqv pA pB pC u v w').map (RtM K)) := by
          refine gl_lc (src_zip (gh_T (g_var rfl hlf10)) (gh_T (g_var rfl hrt10)) rfl) rfl (by simp [zipM, lprod]) fun i y H' P' Q' hP hQ e' hy => ?_
          obtain ⟨q1, q2, hq1, hq2, rfl, rfl⟩ := zip_get hP hQ
          obtain ⟨T1, y1, y2, rfl, hs1, hy1, hy2⟩ := tp2 hy
          refine ⟨_, gg_tup2 hs1 gg_name gg_name, rfl, gt_yes, ?_⟩
          have c1 := b1 _ (List.mem_of_getElem? hq1)
          have c2 := b2 _ (List.mem_of_getElem? hq2)
          exact g_less (g_times (g_var rfl (MP.mono _ _ _ _ (.same e') hot)) (g_var rfl hy1) (bu.mul bw) c1) (g_times (g_var rfl (MP.mono _ _ _ _ (.same e') hin)) (g_var rfl hy2) (bd_four.mul (bv.mul bv)) c2) ((bu.mul bw).mul c1) ((bd_four.mul (bv.mul bv)).mul c2)
        refine s_retG (g_whole (gh_L gl) (by rw [eqv_len]; decide) (fun q hq => ?_) (eqv_nz hD (fun z => by rw [z] at pu; exact absurd pu (by decide)) fun z => by rw [z] at pw; exact absurd pw (by decide))) fun rr H11 e11 hrr => k rr H11 ((e09.trans e10).trans e11) hrr
        obtain ⟨i, hi⟩ := List.mem_iff_getElem?.mp hq
        unfold eqv at hi
        rw [List.getElem?_zipWith] at hi
        cases e1' : (lprod ((line pA pC).div ((line pA pC).at pB)) ((line pA pC).div ((line pA pC).at pB)))[i]? with
        | none => rw [e1'] at hi; cases hi
        | some q1 =>
          cases e2' : (lprod ((line pB pC).div ((line pB pC).at pA)) ((line pA pB).div ((line pA pB).at pC)))[i]? with
          | none => rw [e1', e2'] at hi; cases hi
          | some q2 =>
            rw [e1', e2'] at hi
            have hi' : u * w' * q1 - 4 * (v * v) * q2 = q := Option.some.inj hi
            rw [← hi']
            exact (((bu.mul bw).mul (b1 _ (List.mem_of_getElem? e1'))).sub ((bd_four.mul (bv.mul bv)).mul (b2 _ (List.mem_of_getElem? e2')))).mono (by decide)
end
end K54
namespace K54
open PySem PySem.Spec PyProof.Rows L2
/-! ### a table of ratios as a list of lists -/
def rowM (K : PySem.W.Frag) (r : List Rat) : List MP := r.map (RtM K)
def tabM (K : PySem.W.Frag) (M : List (List Rat)) : List (List MP) := M.map (rowM K)
def Tab (K : PySem.W.Frag) (ws : List Addr) (R : Addr) (M : List (List Rat)) (H : Hp) : Prop := ∃ vs, H R = some (.lst vs) ∧ AllL ws (tabM K M) vs H
section
variable {K : PySem.W.Frag} {σ : L2.St} {H H' : Hp} {te ta tb tc : TE} {ws : List Addr} {R : Addr} {M : List (List Rat)} {D : Ends}
theorem Tab.same (k : Same H H') (h : Tab K ws R M H) : Tab K ws R M H' := let ⟨vs, e, a⟩ := h; ⟨vs, k _ _ e, a.same k⟩
theorem tabM_get {i : Nat} (h : i < M.length) : (tabM K M)[i]? = some (rowM K (rw' M i)) := by
  unfold tabM
  rw [List.getElem?_map, rw_get h]
  rfl
theorem Tab.row (h : Tab K ws R M H) {i : Nat} (hi : i < M.length) : ∃ vs a xs, H R = some (.lst vs) ∧ vs[i]? = some (.ref a) ∧ a ∉ ws ∧ H a = some (.lst xs) ∧ AllP (rowM K (rw' M i)) xs H := by
  obtain ⟨vs, e, al⟩ := h
  obtain ⟨v, hv, a, xs, rfl, n, ha, hx⟩ := al.get (tabM_get hi)
  exact ⟨vs, a, xs, e, hv, n, ha, hx⟩
/-- rows[p], a row's address -/
theorem g_row (h : Tab K ws R M H) {p : Nat} (hp : p < M.length) (ha : G ta σ H (EqM (.ref R))) (hb : G tb σ H (IM (p : Int))) : ∃ a xs, a ∉ ws ∧ H a = some (.lst xs) ∧ AllP (rowM K (rw' M p)) xs H ∧ G (tOp (rIxL K) ta tb) σ H (EqM (.ref a)) := by
  obtain ⟨vs, a, xs, e, hv, n, ha', hx⟩ := h.row hp
  exact ⟨a, xs, n, ha', hx, g_ixL ha hb (SqL.of e) (atI_nat hv) rfl⟩
/-- rows[p][c] -/
theorem g_cell (h : Tab K ws R M H) {p c : Nat} (hp : p < M.length) (hc : c < (rw' M p).length) (ha : G ta σ H (EqM (.ref R))) (hb : G tb σ H (IM (p : Int))) (hcc : G tc σ H (IM (c : Int))) :
    G (tOp (rIxL K) (tOp (rIxL K) ta tb) tc) σ H (RtM K (en (rw' M p) c)) := by
  obtain ⟨a, xs, n, ha', hx, g⟩ := g_row h hp ha hb
  obtain ⟨v, hv, pv⟩ := hx.get (i := c) (P := RtM K (en (rw' M p) c)) (by unfold rowM; rw [List.getElem?_map, en_get hc]; rfl)
  exact g_ixL g hcc (SqL.of ha') (atI_nat hv) pv
/-- o[i] = v -/
theorem gsub {vs : List V} {j : Nat} {v : V} {Q : L2.St → Hp → Prop} (hl : H R = some (.lst vs)) (hj : j < vs.length) (ha : G ta σ H (EqM (.ref R))) (hb : G tb σ H (IM (j : Int))) (k : ∀ H2, Same H H2 → Q σ (upd H2 R (.lst (vs.set j v)))) : gSub ta tb rSetL v σ H Q :=
  ha H (Same.refl H) _ fun x H1 e1 hx => hb H1 e1 _ fun y H2 e2 hy => ⟨R, vs, (j : Int), j, hx, hy, e2 _ _ (e1 _ _ hl), by unfold ixN; rw [if_pos (by omega), if_pos (by omega)]; simp, k H2 (e1.trans e2)⟩
theorem dp_ints {l : List Int} : DpAll K H (l.map V.int) (l.map PyData.int) := by
  induction l with
  | nil => exact .nil
  | cons a l ih => exact .cons (.int a) ih
/-- xs != [] of ints -/
theorem g_neNil {l : List Int} {p : Addr} (ha : G ta σ H (EqM (.ref p))) (hp : H p = some (.lst (l.map V.int))) : G (tOp (rNeD K) ta (tLst tNil)) σ H (BM (!l.isEmpty)) := fun H1 e Q q =>
  ha H1 e _ fun x H2 e2 hx => ⟨Nat.zero_le _, fun p0 np => by
    have hx' : x = .ref p := hx
    subst hx'
    have s : Same H2 (upd H2 p0 (.lst [])) := same_new np
    refine ⟨.list (l.map PyData.int), .list [], .lst (SqL.of (s _ _ (e2 _ _ (e _ _ hp)))) dp_ints, .lst (SqL.of upd_same) .nil, PySem.W.shaped_ints l, rfl, q _ _ (e2.trans s) ?_⟩
    show V.bl _ = V.bl _
    congr 2
    cases l <;> rfl⟩
end
end K54
namespace K54
open PySem PySem.Spec PyProof.Rows L2
theorem os_filter {α : Type} (f : α → Prop) [DecidablePred f] (g : α → MP) : ∀ l : List α, (l.map fun x => if f x then some (g x) else none).filterMap id = (l.filter fun x => decide (f x)).map g
  | [] => rfl
  | a :: l => by
    have ih := os_filter f g l
    by_cases h : f a
    · rw [List.map_cons, if_pos h, List.filter_cons, if_pos (by simp [h])]
      show g a :: _ = g a :: _
      congr 1
    · rw [List.map_cons, if_neg h, List.filter_cons, if_neg (by simp [h])]
      exact ih
theorem piv_os (M : List (List Rat)) (c a : Nat) : ((List.range (5 - a)).map fun i => if en (rw' M (a + i)) c ≠ 0 then some (IM ((a + i : Nat) : Int)) else none).filterMap id = (piv M c a).map fun (n : Nat) => IM (n : Int) := by
  have h := os_filter (fun p => en (rw' M p) c ≠ 0) (fun (n : Nat) => IM (n : Int)) (List.range' a (5 - a))
  unfold piv
  rw [← h, List.range'_eq_map_range, List.map_map]
  rfl
theorem clear_zero (M : List (List Rat)) (a c : Nat) : clearTo M a c 0 = M := by
  unfold clearTo
  refine List.ext_getElem? fun j => ?_
  rw [List.getElem?_mapIdx]
  cases M[j]? with
  | none => rfl
  | some r => simp
theorem clear_eq {M : List (List Rat)} (h : Shape M) {a c i : Nat} (hi : i < 5) (e : i = a) : clearTo M a c (i + 1) = clearTo M a c i := by
  unfold clearTo
  refine List.ext_getElem? fun j => ?_
  rw [List.getElem?_mapIdx, List.getElem?_mapIdx]
  cases M[j]? with
  | none => rfl
  | some r =>
    have : (j < i + 1 ∧ j ≠ a) ↔ (j < i ∧ j ≠ a) := by omega
    simp only [this]
theorem clear_set {M : List (List Rat)} (h : Shape M) {a c i : Nat} (hi : i < 5) (e : i ≠ a) : clearTo M a c (i + 1) = (clearTo M a c i).set i (subRow (en (rw' M i) c) (rw' M i) (rw' M a)) := by
  unfold clearTo
  refine List.ext_getElem? fun j => ?_
  rw [List.getElem?_set]
  by_cases hj : i = j
  · subst hj
    rw [if_pos rfl, List.getElem?_mapIdx, rw_get (by rw [h.five]; exact hi), if_pos (by rw [List.length_mapIdx, h.five]; exact hi)]
    simp only [Option.map_some]
    rw [if_pos ⟨Nat.lt_succ_self i, e⟩]
  · rw [if_neg hj, List.getElem?_mapIdx, List.getElem?_mapIdx]
    cases M[j]? with
    | none => rfl
    | some r =>
      have : (j < i + 1 ∧ j ≠ a) ↔ (j < i ∧ j ≠ a) := by omega
      simp only [this]
theorem clear_row {M : List (List Rat)} (h : Shape M) {a c i n : Nat} (hi : i < 5) (hn : n ≤ i ∨ i = a) : rw' (clearTo M a c n) i = rw' M i := by
  rw [rw_clear h hi, if_neg (by omega)]
theorem lclear_zero (M : List (List Rat)) (a c : Nat) : lclear M a c (a + 1) = M := by
  unfold lclear
  refine List.ext_getElem? fun j => ?_
  rw [List.getElem?_mapIdx]
  cases M[j]? with
  | none => rfl
  | some r =>
    have : ¬ (a < j ∧ j < a + 1) := by omega
    simp [this]
theorem lclear_set {M : List (List Rat)} (h : Shape M) {a c i : Nat} (hi : i < 5) (hai : a < i) : lclear M a c (i + 1) = (lclear M a c i).set i (subRow (en (rw' M i) c / en (rw' M a) c) (rw' M i) (rw' M a)) := by
  unfold lclear
  refine List.ext_getElem? fun j => ?_
  rw [List.getElem?_set]
  by_cases hj : i = j
  · subst hj
    rw [if_pos rfl, List.getElem?_mapIdx, rw_get (by rw [h.five]; exact hi), if_pos (by rw [List.length_mapIdx, h.five]; exact hi)]
    simp only [Option.map_some]
    rw [if_pos ⟨hai, Nat.lt_succ_self i⟩]
  · rw [if_neg hj, List.getElem?_mapIdx, List.getElem?_mapIdx]
    cases M[j]? with
    | none => rfl
    | some r =>
      have : (a < j ∧ j < i + 1) ↔ (a < j ∧ j < i) := by omega
      simp only [this]
theorem lclear_row {M : List (List Rat)} (h : Shape M) {a c i n : Nat} (hi : i < 5) (hn : n ≤ i ∨ i ≤ a) : rw' (lclear M a c n) i = rw' M i := by
  rw [rw_lclear h hi, if_neg (by omega)]
section
variable {K : PySem.W.Frag} {σ : L2.St} {H H' : Hp} {te tr ti tj : TE} {ws : List Addr} {R : Addr} {M : List (List Rat)} {D : Ends}
theorem kp1 {H1 : Hp} (k : Kp [R] H H1) (hR : R ∈ ws) : Kp ws H H1 := k.mono fun b hb => by rw [List.mem_singleton.mp hb]; exact hR
/-- rows[a], rows[p] = rows[p], rows[a] -/
theorem s_swap {a p : Nat} (hT : Tab K ws R M H) (hR : R ∈ ws) (hw : LsAt ws H) (ha : a < M.length) (hp : p < M.length) (gR : ∀ H1, G tr σ H1 (EqM (.ref R))) (ga : ∀ H1, G ti σ H1 (IM (a : Int))) (gp : ∀ H1, Kp [R] H H1 → G tj σ H1 (IM (p : Int)))
    (k : ∀ H1, Kp [R] H H1 → Tab K ws R (swapRows M a p) H1 → D.nx σ H1) :
    tAsg (tTup (tCons (tOp (rIxL K) tr tj) (tCons (tOp (rIxL K) tr ti) tNil))) (gTup K 2 (gCons (gSub tr ti rSetL) (gCons (gSub tr tj rSetL) gNil))) D σ H := by
  obtain ⟨vs, e, al⟩ := id hT
  obtain ⟨va, hva, la⟩ := al.get (tabM_get (K := K) ha)
  obtain ⟨vp, hvp, lp⟩ := al.get (tabM_get (K := K) hp)
  have hlen : vs.length = M.length := by rw [al.length]; unfold tabM; rw [List.length_map]
  have g1 : G (tOp (rIxL K) tr tj) σ H (EqM vp) := g_ixL (gR H) (gp H (Kp.refl H)) (SqL.of e) (atI_nat hvp) rfl
  have g2 : G (tOp (rIxL K) tr ti) σ H (EqM va) := g_ixL (gR H) (ga H) (SqL.of e) (atI_nat hva) rfl
  have gt : G (tTup (tCons (tOp (rIxL K) tr tj) (tCons (tOp (rIxL K) tr ti) tNil))) σ H (Tp K [EqM vp, EqM va]) := g_tup (ga_cons g1 (ga_cons g2 ga_nil))
  refine gt H (Same.refl H) _ fun v H1 e1 hv => ?_
  obtain ⟨T, x, y, rfl, hs, hx, hy⟩ := tp2 hv
  have hx' : x = vp := hx
  have hy' : y = va := hy
  subst hx' hy'
  refine ⟨T, [x, y], rfl, hs, rfl, x, [y], rfl, gsub (vs := vs) (e1 _ _ e) (by omega) (gR H1) (ga H1) fun H2 e2 => ⟨y, [], rfl, ?_⟩⟩
  have k2 : Kp [R] H (upd H2 R (.lst (vs.set a x))) := (Kp.same (e1.trans e2)).set (by simp)
  refine gsub (vs := vs.set a x) upd_same (by rw [List.length_set]; omega) (gR _) (gp _ k2) fun H3 e3 => ⟨rfl, ?_⟩
  have k3 : Kp [R] H (upd H3 R (.lst ((vs.set a x).set p y))) := (k2.trans (.same e3)).set (by simp)
  refine k _ k3 ⟨_, upd_same, ?_⟩
  have al3 : AllL ws (tabM K M) vs (upd H3 R (.lst ((vs.set a x).set p y))) := al.mono (kp1 k3 hR) hw
  have lp3 := lp.mono (kp1 k3 hR) hw
  have la3 := la.mono (kp1 k3 hR) hw
  have et : tabM K (swapRows M a p) = ((tabM K M).set a (rowM K (rw' M p))).set p (rowM K (rw' M a)) := by
    unfold tabM swapRows
    rw [List.map_set, List.map_set]
  rw [et]
  exact AllL.set la3 p (AllL.set lp3 a al3)
/-- rows[a] = [..] -/
theorem s_setRow {a : Nat} {r : List Rat} (hT : Tab K ws R M H) (hR : R ∈ ws) (hw : LsAt ws H) (ha : a < M.length) (gR : ∀ H1, G tr σ H1 (EqM (.ref R))) (ga : ∀ H1, G ti σ H1 (IM (a : Int))) (g : GL te σ H (rowM K r))
    (k : ∀ H1, Kp [R] H H1 → Tab K ws R (M.set a r) H1 → D.nx σ H1) : tAsg te (gSub tr ti rSetL) D σ H := by
  obtain ⟨vs, e, al⟩ := id hT
  have hlen : vs.length = M.length := by rw [al.length]; unfold tabM; rw [List.length_map]
  refine g H (Same.refl H) _ fun p xs H1 np e1 hp hx => ?_
  refine gsub (vs := vs) (e1 _ _ e) (by omega) (gR H1) (ga H1) fun H2 e2 => ?_
  have k2 : Kp [R] H (upd H2 R (.lst (vs.set a (.ref p)))) := (Kp.same (e1.trans e2)).set (by simp)
  have npR : p ≠ R := fun z => by
    rw [z] at np
    rw [np] at e
    cases e
  have npw : p ∉ ws := fun z => by
    obtain ⟨ys, q⟩ := hw p z
    rw [np] at q
    cases q
  refine k _ k2 ⟨_, upd_same, ?_⟩
  have et : tabM K (M.set a r) = (tabM K M).set a (rowM K r) := by
    unfold tabM
    rw [List.map_set]
  rw [et]
  have hp2 : H2 p = some (.lst xs) := e2 _ _ hp
  have hRR : H2 R = some (.lst vs) := e2 _ _ (e1 _ _ e)
  refine AllL.set ⟨p, xs, rfl, npw, by rw [upd_ne npR]; exact hp2, (hx.mono (.same e2)).mono (TKp.set hRR)⟩ a (al.mono (kp1 k2 hR) hw)
/-- rows, heads = [[..] ..], [] -/
theorem s_LLpair {i j : Nat} {pss : List (List MP)} (h : GLL te σ H pss) (k : ∀ R vs Hd H1, H R = none → H Hd = none → R ≠ Hd → Same H H1 → H1 R = some (.lst vs) → AllL [R, Hd] pss vs H1 → H1 Hd = some (.lst []) → D.nx ((σ.set i (some (.ref R))).set j (some (.ref Hd))) H1) :
    tAsg (tTup (tCons te (tCons (tLst tNil) tNil))) (gTup K 2 (gCons (gName i) (gCons (gName j) gNil))) D σ H := h H (Same.refl H) _ fun R vs H1 nR e1 hR al => ⟨Nat.zero_le _, fun Hd nd => ⟨by show 2 ≤ sizeLine; decide, fun T nT => by
  have nRd : R ≠ Hd := ne_of_none hR nd
  have s1 : Same H1 (upd H1 Hd (.lst [])) := same_new nd
  have s2 : Same (upd H1 Hd (.lst [])) (upd (upd H1 Hd (.lst [])) T (.tup [.ref R, .ref Hd])) := same_new nT
  refine gg_tup2 (SqT.of upd_same) gg_name gg_name _ (k R vs Hd _ nR (e1.free nd) nRd ((e1.trans s1).trans s2) (s2 _ _ (s1 _ _ hR)) ((al.weak (ws' := [R, Hd]) fun b hb => ?_).same (s1.trans s2)) (s2 _ _ upd_same))
  have hb' : b = R ∨ b = Hd := by simpa using hb
  rcases hb' with rfl | rfl
  · exact .inl (by simp)
  · exact .inr nd⟩⟩
end
end K54
namespace K54
open PySem PySem.Spec PyProof.Rows L2
def freeL (hs : List Nat) : List Nat := (List.range 6).filter fun c => decide (c ∉ hs)
def freeOf (hs : List Nat) : Nat := (freeL hs).getD 0 0
theorem free_some {hs : List Nat} (hl : hs.length ≤ 5) : (freeL hs)[0]? = some (freeOf hs) ∧ freeOf hs < 6 ∧ freeOf hs ∉ hs := by
  have hne : freeL hs ≠ [] := fun e => by
    have all : ∀ c, c < 6 → c ∈ hs := fun c hc => Decidable.byContradiction fun hn => by
      have : c ∈ freeL hs := List.mem_filter.mpr ⟨List.mem_range.mpr hc, decide_eq_true hn⟩
      rw [e] at this
      cases this
    have sub : (List.range 6).length ≤ hs.length := by
      have key : ∀ (l hs : List Nat), l.Nodup → (∀ c ∈ l, c ∈ hs) → l.length ≤ hs.length := by
        intro l
        induction l with
        | nil => intro hs _ _; exact Nat.zero_le _
        | cons a l ih =>
          intro hs nd h
          have ha := h a List.mem_cons_self
          have nd' := List.nodup_cons.mp nd
          have h2 := ih (hs.erase a) nd'.2 fun c hc => by
            have hca : c ≠ a := fun z => nd'.1 (z ▸ hc)
            exact (List.mem_erase_of_ne hca).mpr (h c (List.mem_cons_of_mem _ hc))
          have h3 := List.length_erase_of_mem ha
          have h4 : 0 < hs.length := List.length_pos_of_mem ha
          rw [List.length_cons]
          omega
      exact key _ _ List.nodup_range fun c hc => all c (List.mem_range.mp hc)
    rw [List.length_range] at sub
    omega
  have h0 : (freeL hs)[0]? = some (freeOf hs) := by
    unfold freeOf
    cases e : freeL hs with
    | nil => exact absurd e hne
    | cons a r => rfl
  have hm := List.mem_filter.mp (List.mem_of_getElem? h0)
  exact ⟨h0, List.mem_range.mp hm.1, of_decide_eq_true hm.2⟩
theorem foundV_bd {M : List (List Rat)} {hs : List Nat} {f B : Nat} (h : ∀ i, i < 5 → Bd B (en (rw' M i) f)) : ∀ n, n ≤ 5 → ∀ q ∈ foundV M hs f n, Bd (1 + B + 1) q
  | 0, _, q, hq => by
    unfold foundV at hq
    rcases List.mem_or_eq_of_mem_set hq with z | z
    · rw [(List.mem_replicate.mp z).2]
      exact bd_zero.mono (by omega)
    · rw [z]
      exact bd_one.mono (by omega)
  | n + 1, hn, q, hq => by
    unfold foundV at hq
    rcases List.mem_or_eq_of_mem_set hq with z | z
    · exact foundV_bd h n (by omega) q z
    · rw [z]
      exact bd_zero.sub (h n (by omega))
theorem flat_rep {α : Type} (x : α) : ∀ n : Nat, (List.replicate n [x]).flatten = List.replicate n x
  | 0 => rfl
  | n + 1 => by
    rw [List.replicate_succ, List.flatten_cons, flat_rep x n, List.replicate_succ]
    rfl
theorem eqV_int (a b : Int) : eqV (.int a) (.int b) = decide (a = b) := by
  show (a == b) = decide (a = b)
  rw [Bool.beq_eq_decide_eq]
theorem inV_hd (c : Nat) : ∀ hs : List Nat, inV (.int (c : Int)) (hs.map fun (n : Nat) => V.int (n : Int)) = decide (c ∈ hs)
  | [] => rfl
  | a :: hs => by
    have ih := inV_hd c hs
    unfold inV at ih ⊢
    rw [List.map_cons, List.any_cons, ih, eqV_int, Bool.eq_iff_iff]
    simp only [Bool.or_eq_true, decide_eq_true_eq, List.mem_cons]
    constructor
    · rintro (z | z)
      · exact .inl (by omega)
      · exact .inr z
    · rintro (z | z)
      · exact .inl (by omega)
      · exact .inr z
section
variable {K : PySem.W.Frag} {σ : L2.St} {H H' : Hp} {te ta tb : TE} {ws : List Addr} {R : Addr} {P : MP} {D : Ends}
theorem gl_rep {n : Nat} (h : G te σ H P) (hn : n ≤ 1000) : GL (tOp rRep (tLst (tCons te tNil)) (tC (.int (n : Int)))) σ H (List.replicate n P) := fun H1 e Q q => by
    have g1 : GL (tLst (tCons te tNil)) σ H [P] := gl_lst (ga_cons h ga_nil)
    refine g1 H1 e _ fun p xs H2 np e2 hp hx => ?_
    obtain ⟨x, rfl, px⟩ := all1 hx
    refine ⟨p, (n : Int), [x], rfl, rfl, hp, by omega, by omega, by rw [Int.toNat_natCast]; show 1 * n ≤ sizeLine; exact Evl.sz_of (by omega), fun l hl => ?_⟩
    rw [Int.toNat_natCast, flat_rep]
    refine q l (List.replicate n x) _ (Evl.fresh_back e2 hl) (e2.trans (same_new hl)) upd_same (AllP.mk (by simp) fun i P' v hP hv => ?_)
    have h1 := (List.mem_replicate.mp (List.mem_of_getElem? hP)).2
    have h2 := (List.mem_replicate.mp (List.mem_of_getElem? hv)).2
    rw [h1, h2]
    exact P.mono _ _ _ (.same (same_new hl)) px
/-- xs[i] = e -/
theorem s_setI {l : Addr} {xs : List V} {j : Nat} (hl : H l = some (.lst xs)) (hj : j < xs.length) (h : G te σ H P) (ga : ∀ H1, G ta σ H1 (EqM (.ref l))) (gb : ∀ H1, Same H H1 → G tb σ H1 (IM (j : Int))) (k : ∀ v H1, Same H H1 → P.p v H1 → D.nx σ (upd H1 l (.lst (xs.set j v)))) :
    tAsg te (gSub ta tb rSetL) D σ H := h H (Same.refl H) _ fun v H1 e1 hv => gsub (vs := xs) (e1 _ _ hl) hj (ga H1) (gb H1 e1) fun H2 e2 => k v H2 (e1.trans e2) (P.mono _ _ _ (.same e2) hv)
end
end K54
namespace K54
open PySem PySem.Spec PyProof.Rows L2
@[irreducible] def thrM (K : PySem.W.Frag) (pts : List Pt) : MP := if (pRun (mat pts) 6).2.length < 5 then EqM .non else NsM K (whole (foundV (pRun (mat pts) 6).1 (pRun (mat pts) 6).2 (freeOf (pRun (mat pts) 6).2) 5))
def dThrough (K : PySem.W.Frag) : List MP → MP → Prop := fun ps R => ∃ pts : List Pt, pts.length = 5 ∧ (∀ p ∈ pts, PtOk p) ∧ ps = [Tp K (pts.map (PtM K))] ∧ R = thrM K pts
theorem tseq {t u : L2.TS} {D : Ends} {σ : L2.St} {H : Hp} (h : t { D with nx := u D } σ H) : tSeq t u D σ H := h
def hdV (hs : List Nat) : List V := hs.map fun (n : Nat) => V.int (n : Int)
def hdM (hs : List Nat) : List MP := hs.map fun (n : Nat) => IM (n : Int)
theorem hd_all {H : Hp} : ∀ hs : List Nat, AllP (hdM hs) (hdV hs) H
  | [] => trivial
  | _ :: hs => ⟨rfl, hd_all hs⟩
theorem hd_of {H : Hp} : ∀ {hs : List Nat} {xs : List V}, AllP (hdM hs) xs H → xs = hdV hs
  | [], [], _ => rfl
  | b :: bs, x :: xs, h => by
    have h1 : x = .int (b : Int) := h.1
    rw [h1, hd_of h.2]
    rfl
  | [], _ :: _, h => h.elim
  | _ :: _, [], h => h.elim
theorem hd_ints (hs : List Nat) : hdV hs = (hs.map fun (n : Nat) => (n : Int)).map V.int := by
  unfold hdV
  rw [List.map_map]
  rfl
theorem pnorm_rep {M : List (List Rat)} {a c p B : Nat} (h : Shape M) (ha : a < 5) (hp : p < 5) (h0 : en (rw' M p) c ≠ 0) (r : ∀ i, i < 5 → RowRep B (rw' M i)) {i : Nat} (hi : i < 5) : RowRep B (rw' (pnorm M a c p) i) := by
  rw [rw_pnorm h ha hp]
  split
  · exact (r p hp).norm h0
  · split
    · exact r a ha
    · exact r i hi
theorem swap_rep {M : List (List Rat)} {a p B : Nat} (h : Shape M) (ha : a < 5) (hp : p < 5) (r : ∀ i, i < 5 → RowRep B (rw' M i)) {i : Nat} (hi : i < 5) : RowRep B (rw' (swapRows M a p) i) := by
  rw [rw_swap (by rw [h.five]; exact ha) (by rw [h.five]; exact hp)]
  split
  · exact r a ha
  · split
    · exact r p hp
    · exact r i hi
theorem swap_at {M : List (List Rat)} {a p : Nat} (h : Shape M) (ha : a < 5) (hp : p < 5) : rw' (swapRows M a p) a = rw' M p := by
  rw [rw_swap (by rw [h.five]; exact ha) (by rw [h.five]; exact hp)]
  split
  · next z => rw [z]
  · rw [if_pos rfl]
abbrev nThr : List Str := ["points", "rows", "heads", "column", "at", "place", "some", "free", "found", "point", "one", "x", "y"]
section
variable {P : Program} {w : World} {K : PySem.W.Frag} {mg : Str → Option Value} {base : Heap}
theorem sc_thr : FnScope nThr ["points"] (defScope sThrough) := ⟨rfl, rfl, rfl, by decide +kernel, rfl, by decide +kernel, by decide +kernel⟩
theorem ok_through (D : Df K mg "through_five" sThrough ["points"]) (T : Txt K mg) (HN : Has P w K mg base "need_points" ["value", "many"] 4 (spX (dNeedPts K))) (HTm : Has P w K mg base "terms_of" ["point"] 3 (spX (dTerms K)))
    (HLs : Has P w K mg base "less" ["one", "other"] 2 (spX (dLess K))) (HT : Has P w K mg base "times" ["one", "other"] 2 (spX (dTimes K))) (HO : Has P w K mg base "over" ["one", "other"] 2 (spX (dOver K))) (HWh : Has P w K mg base "whole_numbers" ["numbers"] 1 (spWhole K)) :
    Has P w K mg base "through_five" ["points"] 5 (spX (dThrough K)) := D.has fun f fd F => by
  refine F.ok sc_thr (sp_len fun ps P ⟨_, _, _, e, _⟩ => by rw [e]; rfl) (fun cdv A outer s H vs Q E hr h => ?_)
  obtain ⟨ps, R, ⟨pts, hl5, hok, rfl, rfl⟩, hv, k⟩ := h
  obtain ⟨x0, rfl, hx0⟩ := all1 hv
  have hr1 : Room 1 _ := hr.mono (by decide)
  have hr2 : Room 2 _ := hr.mono (by decide)
  have hr3 : Room 3 _ := hr.mono (by decide)
  obtain ⟨z, gz, hz⟩ := T.zeroR
  obtain ⟨z1, gz1, hz1⟩ := T.oneR
  have nd := sc_thr.nd
  refine ⟨_, pss_cons (ps_expr (pe_c HN hr (by rfl) (pa_cons (pv 0) (pa_cons pe_int pa_nil))))
    (pss_cons (ps_asg (pe_tup (pa_cons (pe_lc (own := [("point", 9)]) (g := gName 9) (tt := tYes) rfl nd (pi_tup (pv 0)) (blkOk_by (N := nThr) (sc := defScope sThrough) (by decide +kernel))
          (fun _ _ _ _ _ => pg_name (i := 9) nd rfl (Or.inl rfl)) (fun _ _ _ _ _ => pts_nil) (fun _ _ _ _ _ => pe_callTy (r := fun xs H Q => ∃ p ys, xs = [V.ref p] ∧ (SqL K H p ys ∨ SqT K H p ys) ∧ ∀ l, H l = none → Q (V.ref l) (upd H l (.lst ys))) call_list_of (by rfl) T.list PyProof.Rows.boot_list (pa_cons (pe_c HTm hr3 (by rfl) (pa_cons (pv 9) pa_nil)) pa_nil)))
        (pa_cons (pe_lst pa_nil) pa_nil))) (pg_tup (by rfl) (pgs_cons (pg_name (i := 1) nd rfl (.inr rfl)) (pgs_cons (pg_name (i := 2) nd rfl (.inr rfl)) pgs_nil))))
    (pss_cons (ps_for PassesOwn.never rfl (pi_range1 (by rfl) T.range (pa_cons pe_int pa_nil)) (pg_name (i := 3) nd rfl (.inr rfl))
      (pss_cons (ps_set (i := 4) nd rfl (.inr rfl) (pe_callB call_len_seq (by rfl) T.len PySem.boot_len (pa_cons (pv 2) pa_nil)))
      (pss_cons (ps_setLc (i := 6) (own := [("place", 5)]) (g := gName 5) (tt := tTest (tOp (rNeD K) (tOp (rIxL K) (tOp (rIxL K) (tVar 1) (tVar 5)) (tVar 3)) (tC (.ref z)))) rfl nd rfl rfl (sw_true rfl rfl rfl (by decide +kernel))
          (pi_range2 (by rfl) T.range (pa_cons (pv 4) (pa_cons pe_int pa_nil))) (blkOk_by (N := nThr) (sc := defScope sThrough) (by decide +kernel))
          (fun _ _ _ _ _ => pg_name (i := 5) nd rfl (Or.inl rfl)) (fun _ _ _ _ _ => pts_one (pt_cmpR (r := rNeD K) (op_neD hr.units) (pe_ix (r := rIxL K) ix_list (pe_ix (r := rIxL K) ix_list (pv 1) (pv 5) (fun _ _ => rfl)) (pv 3) (fun _ _ => rfl)) (pe_glob (v := .ref z) (by rfl) gz rfl) (nomark _))) (fun _ _ _ _ _ => pv 5))
      (pss_one (ps_if (pt_cmpR (op_neD hr.units) (pv 6) (pe_lst pa_nil) (nomark _))
        (pss_cons (ps_asg (pe_tup (pa_cons (pe_ix ix_list (pv 1) (pe_ix ix_list (pv 6) pe_int (fun _ _ => rfl)) (fun _ _ => rfl)) (pa_cons (pe_ix ix_list (pv 1) (pv 4) (fun _ _ => rfl)) pa_nil)))
            (pg_tup (by rfl) (pgs_cons (pg_sub (pv 1) (pv 4) set_list) (pgs_cons (pg_sub (pv 1) (pe_ix ix_list (pv 6) pe_int (fun _ _ => rfl)) set_list) pgs_nil))))
        (pss_cons (ps_asg (pe_lc (own := [("one", 10)]) (g := gName 10) (tt := tYes) rfl nd (pi_list (pe_ix ix_list (pv 1) (pv 4) (fun _ _ => rfl))) (blkOk_by (N := nThr) (sc := defScope sThrough) (by decide +kernel))
            (fun _ _ _ _ _ => pg_name (i := 10) nd rfl (Or.inl rfl)) (fun _ _ _ _ _ => pts_nil) (fun _ _ _ _ _ => pe_c HO hr2 (by rfl) (pa_cons (pv 10) (pa_cons (pe_ix (r := rIxL K) ix_list (pe_ix (r := rIxL K) ix_list (pv 1) (pv 4) (fun _ _ => rfl)) (pv 3) (fun _ _ => rfl)) pa_nil))))
            (pg_sub (pv 1) (pv 4) set_list))
        (pss_cons (ps_for PassesOwn.never rfl (pi_range1 (by rfl) T.range (pa_cons pe_int pa_nil)) (pg_name (i := 5) nd rfl (.inr rfl))
          (pss_one (ps_if (pt_cmpR op_ne (pv 5) (pv 4) (nomark _))
            (pss_one (ps_asg (pe_lc (own := [("x", 11), ("y", 12)]) (g := gTup K 2 (gCons (gName 11) (gCons (gName 12) gNil))) (tt := tYes) rfl nd (pi_zipX true true (by rfl) T.zip (pa_cons (pe_ix ix_list (pv 1) (pv 5) (fun _ _ => rfl)) (pa_cons (pe_ix ix_list (pv 1) (pv 4) (fun _ _ => rfl)) pa_nil)))
              (blkOk_by (N := nThr) (sc := defScope sThrough) (by decide +kernel)) (fun _ _ _ _ _ => pg_tup rfl (pgs_cons (pg_name (i := 11) nd rfl (Or.inl rfl)) (pgs_cons (pg_name (i := 12) nd rfl (Or.inl rfl)) pgs_nil))) (fun _ _ _ _ _ => pts_nil)
              (fun _ _ _ _ _ => pe_c HLs hr2 (by rfl) (pa_cons (pv 11) (pa_cons (pe_c HT hr2 (by rfl) (pa_cons (pe_ix (r := rIxL K) ix_list (pe_ix (r := rIxL K) ix_list (pv 1) (pv 5) (fun _ _ => rfl)) (pv 3) (fun _ _ => rfl)) (pa_cons (pv 12) pa_nil))) pa_nil))))
              (pg_sub (pv 1) (pv 5) set_list))) pss_nil)))
        (pss_one (ps_expr (pe_bm PySem.F.plainAttrs_list PySem.F.slot_list_append PySem.F.type_list_append mt_append (pv 2) (pa_cons (pv 3) pa_nil))))))) pss_nil)))))
    (pss_cons (ps_if (pt_cmpR op_lt (pe_callB call_len_seq (by rfl) T.len PySem.boot_len (pa_cons (pv 2) pa_nil)) pe_int (nomark _)) (pss_one (ps_ret pe_non)) pss_nil)
    (pss_cons (ps_set (i := 7) nd rfl (.inl rfl) (pe_ix ix_list (pe_lc (own := [("column", 3)]) (g := gName 3) (tt := tTest (tOp (rIn K true) (tVar 3) (tVar 2))) rfl nd (pi_range1 (by rfl) T.range (pa_cons pe_int pa_nil)) (blkOk_by (N := nThr) (sc := defScope sThrough) (by decide +kernel))
        (fun _ _ _ _ _ => pg_name (i := 3) nd rfl (Or.inl rfl)) (fun _ _ _ _ _ => pts_one (pt_cmpR (r := rIn K true) op_notIn_seq (pv 3) (pv 2) (by rfl))) (fun _ _ _ _ _ => pv 3)) pe_int (fun _ _ => rfl)))
    (pss_cons (ps_set (i := 8) nd rfl (.inl rfl) (pe_op op_rep (pe_lst (pa_cons (pe_glob (v := .ref z) (by rfl) gz rfl) pa_nil)) pe_int))
    (pss_cons (ps_asg (pe_glob (v := .ref z1) (by rfl) gz1 rfl) (pg_sub (pv 8) (pv 7) set_list))
    (pss_cons (ps_for PassesOwn.never rfl (pi_enumX true (by rfl) T.enum (pa_cons (pv 2) pa_nil)) (pg_tup rfl (pgs_cons (pg_name (i := 4) nd rfl (.inr rfl)) (pgs_cons (pg_name (i := 3) nd rfl (.inr rfl)) pgs_nil)))
      (pss_one (ps_asg (pe_c HLs hr2 (by rfl) (pa_cons (pe_glob (v := .ref z) (by rfl) gz rfl) (pa_cons (pe_ix ix_list (pe_ix ix_list (pv 1) (pv 4) (fun _ _ => rfl)) (pv 7) (fun _ _ => rfl)) pa_nil))) (pg_sub (pv 8) (pv 3) set_list))))
    (pss_one (ps_ret (pe_c HWh hr1 (by rfl) (pa_cons (pv 8) pa_nil))))))))))), ?_⟩
  have h0 : G (tVar 0) (start nThr [x0]) H (Tp K (pts.map (PtM K))) := g_var rfl hx0
  refine s_drop (P := EqM .non) (g_call (ga_cons h0 (ga_cons (g_int (i := 5)) ga_nil)) ⟨pts, by omega, by rw [hl5]; rfl, rfl⟩) fun H1 e1 => ?_
  -- rows, heads
  refine s_LLpair (pss := tabM K (mat pts)) (gll_lc (src_tup (h0.up e1)) (by unfold tabM mat; simp) (by rw [List.length_map]; omega) fun i y H' P' qs hP hQ e' hy => ?_) fun R vs Hd H2 nR nd' nRd e2 hR hal hHd => ?_
  · obtain ⟨p, hp, rfl⟩ := map_get hP
    obtain ⟨r, hr', rfl⟩ := map_get hQ
    obtain ⟨p', hp', rfl⟩ := map_get hr'
    rw [hp] at hp'
    cases hp'
    have ok := (hok p (List.mem_of_getElem? hp)).bd
    exact ⟨_, gg_name, rfl, gt_yes, gl_listT (K := K) (g_call (ga_cons (g_var rfl hy) ga_nil) ⟨p, ok.1.mono (by decide), ok.2.mono (by decide), rfl, rfl⟩)⟩
  have sh0 := mat_shape hl5
  have rep0 := mat_rep hl5 hok
  refine s_for (ws := [R, Hd]) (srck_rng1 (n := 6) g_int) (fun i σ H6 => ∃ o3 o4 o5 o6, σ = [some x0, some (.ref R), some (.ref Hd), o3, o4, o5, o6, none, none, none, none, none, none] ∧ Tab K [R, Hd] R (pRun (mat pts) i).1 H6 ∧ H6 Hd = some (.lst (hdV (pRun (mat pts) i).2)))
    (fun H3 e3 => ⟨none, none, none, none, rfl, by rw [pRun_zero]; exact ⟨vs, e3 _ _ hR, hal.same e3⟩, by rw [pRun_zero]; exact e3 _ _ hHd⟩) (fun Hb i y σ H3 H4 P' eb hP k3 hp e4 hy => ?_) fun σ H3 k3 hp => ?_
  · -- a column
    obtain ⟨o3, o4, o5, o6, rfl, hT, hH⟩ := hp
    obtain ⟨hi6, rfl⟩ := rngM_get hP
    have hy' : y = .int (i : Int) := by
      have : y = .int (0 + (i : Int)) := hy
      rw [this, Int.zero_add]
    subst hy'
    have kk := (Lk.run sh0 rep0 i).1
    rw [pRun_succ]
    have hT4 := hT.same e4
    have hH4 := e4 _ _ hH
    generalize pRun (mat pts) i = st at kk hT4 hH4 ⊢
    clear hT hH
    obtain ⟨M, hs⟩ := st
    dsimp only at kk hT4 hH4
    have fin : ∀ σ3 H6, Kp [R, Hd] H4 H6 → (∃ o3 o4 o5 o6, σ3 = [some x0, some (.ref R), some (.ref Hd), o3, o4, o5, o6, none, none, none, none, none, none]) → Tab K [R, Hd] R (pcol (M, hs) i).1 H6 → H6 Hd = some (.lst (hdV (pcol (M, hs) i).2)) →
      Kp [R, Hd] Hb H6 ∧ ∃ o3 o4 o5 o6, σ3 = [some x0, some (.ref R), some (.ref Hd), o3, o4, o5, o6, none, none, none, none, none, none] ∧ Tab K [R, Hd] R (pcol (M, hs) i).1 H6 ∧ H6 Hd = some (.lst (hdV (pcol (M, hs) i).2)) := fun σ3 H6 k6 ⟨q3, q4, q5, q6, e⟩ t h =>
        ⟨(k3.trans (.same e4)).trans k6, q3, q4, q5, q6, e, t, h⟩
    generalize hpc : pcol (M, hs) i = pc at fin ⊢
    -- at = len(heads)
    have hll : (hdV hs).length = hs.length := by unfold hdV; rw [List.length_map]
    refine s_set (P := IM (hs.length : Int)) (g_eq (g_lenL (K := K) (g_vE rfl) (SqL.of hH4)) (by rw [hll])) fun v5 H5 e5 hv5 => ?_
    have hv5' : v5 = .int _ := hv5
    subst hv5'
    have hT5 := hT4.same e5
    have hH5 := e5 _ _ hH4
    have five := kk.shM.five
    -- some = [..]
    have gS : GL (tLc (iRng2 (tCons (tVar 4) (tCons (tC (.int 5)) tNil))) (gName 5) (tTest (tOp (rNeD K) (tOp (rIxL K) (tOp (rIxL K) (tVar 1) (tVar 5)) (tVar 3)) (tC (.ref z)))) (tVar 5) [5])
        [some x0, some (.ref R), some (.ref Hd), some (.int (i : Int)), some (.int (hs.length : Int)), o5, o6, none, none, none, none, none, none] H5 ((piv M i hs.length).map fun (n : Nat) => IM (n : Int)) := by
      rw [← piv_os]
      have hle := kk.le
      refine gl_lcF (src_rng2 (5 - hs.length) (g_vE rfl) (g_int (i := 5)) (by omega) (by omega) (by omega)) (by rw [rngM_len]; simp) (by rw [rngM_len]; omega) fun j u H' P' o hP ho e' hu => ?_
      obtain ⟨hj, rfl⟩ := rngM_get hP
      obtain ⟨j', hj', rfl⟩ := map_get ho
      rw [List.getElem?_range hj] at hj'
      cases hj'
      have hu' : u = .int ((hs.length + j : Nat) : Int) := by
        have : u = .int ((hs.length : Int) + (j : Int)) := hu
        rw [this, Int.natCast_add]
      subst hu'
      refine ⟨_, gg_name, rfl, ?_, fun Q' hQ' => ?_⟩
      · have hlt : hs.length + j < 5 := by omega
        have gc := g_cell (K := K) (σ := (wipe [some x0, some (.ref R), some (.ref Hd), some (.int (i : Int)), some (.int (hs.length : Int)), o5, o6, none, none, none, none, none, none] [5]).set 5 (some (.int ((hs.length + j : Nat) : Int)))) (hT5.same e') (p := hs.length + j) (c := i) (by omega) (by rw [kk.shM.six _ hlt]; exact hi6)
          (ta := tVar 1) (tb := tVar 5) (tc := tVar 3) (g_vE rfl) (g_vE rfl) (g_vE rfl)
        refine gt_test (g_eq (g_neR gc (g_c (hz H'))) ?_)
        by_cases h00 : en (rw' M (hs.length + j)) i = 0
        · rw [if_neg (by simp [h00]), decide_eq_false (by simp [h00])]; rfl
        · rw [if_pos h00, decide_eq_true h00]; rfl
      · by_cases h00 : en (rw' M (hs.length + j)) i = 0
        · rw [if_neg (by simp [h00])] at hQ'; cases hQ'
        · rw [if_pos h00] at hQ'
          cases hQ'
          exact g_var rfl rfl
    refine s_setL gS fun S xs H6 nS e6 hS hxs => ?_
    have hxs' : xs = (((piv M i hs.length).map fun (n : Nat) => (n : Int))).map V.int := by
      have h1 : AllP (hdM (piv M i hs.length)) xs H6 := hxs
      rw [hd_of h1, hd_ints]
    subst hxs'
    have hT6 := hT5.same e6
    have hH6 := e6 _ _ hH5
    have e46 := e5.trans e6
    have gN := g_neNil (K := K) (σ := [some x0, some (.ref R), some (.ref Hd), some (.int (i : Int)), some (.int (hs.length : Int)), o5, some (.ref S), none, none, none, none, none, none]) (ta := tVar 6) (g_vE rfl) hS
    cases hpv : piv M i hs.length with
    | nil =>
      rw [hpv] at gN
      have epc : pc = (M, hs) := by
        rw [← hpc]
        unfold pcol
        dsimp only
        rw [hpv]
      refine s_ifF (gt_test gN) fun H7 e7 => fin _ H7 (.same (e46.trans e7)) ⟨_, _, _, _, rfl⟩ (by rw [epc]; exact hT6.same e7) (by rw [epc]; exact e7 _ _ hH6)
    | cons p r =>
      rw [hpv] at gN hS
      have epc : pc = (pstep M hs.length i p, hs ++ [i]) := by
        rw [← hpc]
        unfold pcol
        dsimp only
        rw [hpv]
      have hm : p ∈ piv M i hs.length := by rw [hpv]; exact List.mem_cons_self
      obtain ⟨⟨p1, p2⟩, p3⟩ := piv_mem.mp hm
      have ha : hs.length < 5 := by omega
      refine s_ifT (gt_test gN) fun H7 e7 => ?_
      have hT7 := hT6.same e7
      have hH7 := e7 _ _ hH6
      have hS7 := e7 _ _ hS
      have nSR : S ≠ R := fun q => by
        obtain ⟨vs5, q5, _⟩ := hT5
        rw [q, q5] at nS
        cases nS
      have ls : ∀ {H : Hp} {M : List (List Rat)} {xs : List V}, Tab K [R, Hd] R M H → H Hd = some (.lst xs) → LsAt [R, Hd] H := fun t h b hb => by
        have hb' : b = R ∨ b = Hd := by simpa using hb
        rcases hb' with rfl | rfl
        · obtain ⟨vs5, q5, _⟩ := t
          exact ⟨_, q5⟩
        · exact ⟨_, h⟩
      have gat : ∀ {o5 o10 o11 o12 : Option V} H1, G (tVar 4) [some x0, some (.ref R), some (.ref Hd), some (.int (i : Int)), some (.int (hs.length : Int)), o5, some (.ref S), none, none, none, o10, o11, o12] H1 (IM (hs.length : Int)) := fun _ => g_vE rfl
      have gR : ∀ {o5 o10 o11 o12 : Option V} H1, G (tVar 1) [some x0, some (.ref R), some (.ref Hd), some (.int (i : Int)), some (.int (hs.length : Int)), o5, some (.ref S), none, none, none, o10, o11, o12] H1 (EqM (.ref R)) := fun _ => g_vE rfl
      -- the swap
      refine s_swap hT7 (by simp) (ls hT7 hH7) (by rw [five]; exact ha) (by rw [five]; exact p2) gR gat (fun H1 k1 => g_ixL (P := IM (p : Int)) (v := .int (p : Int)) (g_vE rfl) (g_int (i := 0)) (SqL.of (k1 _ _ hS7 (by simpa using nSR))) (atI_nat (j := 0) rfl) rfl) fun H8 k8 hT8 => ?_
      have hH8 : H8 Hd = some (.lst (hdV hs)) := k8 _ _ hH7 (by simpa using nRd.symm)
      have sh1 : Shape (swapRows M hs.length p) := kk.shM.swap ha p2
      have bk : bs hs.length ≤ 527 := bs_le4 ha
      have eat := swap_at kk.shM ha p2
      -- rows[at] = [over ..]
      dsimp only
      refine tseq ?_
      refine s_setRow (r := normRow (en (rw' (swapRows M hs.length p) hs.length) i) (rw' (swapRows M hs.length p) hs.length)) hT8 (by simp) (ls hT8 hH8) (by rw [sh1.five]; exact ha) (gR (o5 := o5) (o10 := none) (o11 := none) (o12 := none)) (gat (o5 := o5) (o10 := none) (o11 := none) (o12 := none)) ?_ fun H9 k9 hT9 => ?_
      · obtain ⟨ra, rxs, na, hra, hrx, gra⟩ := g_row (K := K) hT8 (p := hs.length) (by rw [sh1.five]; exact ha) (ta := tVar 1) (tb := tVar 4) (gR (o5 := o5) (o10 := none) (o11 := none) (o12 := none) H8) (gat H8)
        refine gl_lc (src_list gra (SqL.of hra) hrx) (by unfold rowM; rw [List.length_map, List.length_map, len_norm]) (by unfold rowM; rw [List.length_map, sh1.six _ ha]; decide) fun j u H' P' Q' hP hQ e' hu => ?_
        obtain ⟨q1, hq1, rfl⟩ := map_get hP
        obtain ⟨q2, hq2, rfl⟩ := map_get hQ
        obtain ⟨q3, hq3, rfl⟩ := map_get hq2
        rw [hq1] at hq3
        cases hq3
        refine ⟨_, gg_name, rfl, gt_yes, ?_⟩
        have rp := swap_rep kk.shM ha p2 kk.rep ha
        have b1 : Bd 527 q1 := by
          have := (rp.bd j).mono bk
          unfold en at this
          rw [List.getD_eq_getElem?_getD, hq1] at this
          exact this
        have b2 := (rp.bd i).mono bk
        have gc := g_cell (K := K) (σ := (wipe [some x0, some (.ref R), some (.ref Hd), some (.int (i : Int)), some (.int (hs.length : Int)), o5, some (.ref S), none, none, none, none, none, none] [10]).set 10 (some u)) (hT8.same e') (p := hs.length) (c := i) (by rw [sh1.five]; exact ha) (by rw [sh1.six _ ha]; exact hi6)
          (ta := tVar 1) (tb := tVar 4) (tc := tVar 3) (g_vE rfl) (g_vE rfl) (g_vE rfl)
        exact g_over (g_var rfl hu) gc b1 b2 (by rw [eat]; exact p3)
      have epn : (swapRows M hs.length p).set hs.length (normRow (en (rw' (swapRows M hs.length p) hs.length) i) (rw' (swapRows M hs.length p) hs.length)) = pnorm M hs.length i p := rfl
      rw [epn] at hT9
      have sh2 : Shape (pnorm M hs.length i p) := kk.shM.pnorm ha p2
      have hH9 : H9 Hd = some (.lst (hdV hs)) := k9 _ _ hH8 (by simpa using nRd.symm)
      have rep2 : ∀ j, j < 5 → RowRep 527 (rw' (pnorm M hs.length i p) j) := fun j hj => (pnorm_rep kk.shM ha p2 p3 kk.rep hj).mono bk
      have k49 : Kp [R, Hd] H4 H9 := ((Kp.same (e46.trans e7)).trans (k8.mono (by simp))).trans (k9.mono (by simp))
      generalize hMn : pnorm M hs.length i p = Mn at hT9 sh2 rep2
      -- for place in range(5)
      refine s_for (ws := [R]) (srck_rng1 (n := 5) g_int) (fun j σ H10 => ∃ o5, σ = [some x0, some (.ref R), some (.ref Hd), some (.int (i : Int)), some (.int (hs.length : Int)), o5, some (.ref S), none, none, none, none, none, none] ∧ Tab K [R, Hd] R (clearTo Mn hs.length i j) H10)
        (fun H10 e10 => ⟨o5, rfl, by rw [clear_zero]; exact hT9.same e10⟩) (fun Hc j u σ H10 H11 P' ec hP k10 hp e11 hu => ?_) fun σ H10 k10 hp => ?_
      · obtain ⟨o5', rfl, hT10⟩ := hp
        obtain ⟨hj5, rfl⟩ := rngM_get hP
        have hu' : u = .int (j : Int) := by
          have : u = .int (0 + (j : Int)) := hu
          rw [this, Int.zero_add]
        subst hu'
        have hT11 := hT10.same e11
        have hH11 : H11 Hd = some (.lst (hdV hs)) := e11 _ _ (k10 _ _ (ec _ _ hH9) (by simpa using nRd.symm))
        have shc : Shape (clearTo Mn hs.length i j) := sh2.clear ha
        have gt := g_neI (σ := [some x0, some (.ref R), some (.ref Hd), some (.int (i : Int)), some (.int (hs.length : Int)), some (.int (j : Int)), some (.ref S), none, none, none, none, none, none]) (H := H11) (ta := tVar 5) (tb := tVar 4) (i := (j : Int)) (j := (hs.length : Int)) (g_vE rfl) (g_vE rfl)
        by_cases hja : j = hs.length
        · rw [decide_eq_false (by omega)] at gt
          refine s_ifF (gt_test gt) fun H12 e12 => ⟨k10.trans (.same (e11.trans e12)), some (.int (j : Int)), rfl, ?_⟩
          rw [clear_eq sh2 hj5 hja]
          exact hT11.same e12
        · rw [decide_eq_true (by omega)] at gt
          refine s_ifT (gt_test gt) fun H12 e12 => ?_
          have hT12 := hT11.same e12
          have hH12 := e12 _ _ hH11
          have rj : rw' (clearTo Mn hs.length i j) j = rw' Mn j := clear_row sh2 hj5 (.inl (Nat.le_refl _))
          have ra' : rw' (clearTo Mn hs.length i j) hs.length = rw' Mn hs.length := clear_row sh2 ha (.inr rfl)
          have gpl : ∀ H1, G (tVar 5) [some x0, some (.ref R), some (.ref Hd), some (.int (i : Int)), some (.int (hs.length : Int)), some (.int (j : Int)), some (.ref S), none, none, none, none, none, none] H1 (IM (j : Int)) := fun _ => g_vE rfl
          refine s_setRow (r := subRow (en (rw' Mn j) i) (rw' Mn j) (rw' Mn hs.length)) hT12 (by simp) (ls hT12 hH12) (by rw [shc.five]; exact hj5) (gR (o5 := some (.int (j : Int))) (o10 := none) (o11 := none) (o12 := none)) gpl ?_ fun H13 k13 hT13 => ⟨(k10.trans (.same (e11.trans e12))).trans k13, some (.int (j : Int)), rfl, ?_⟩
          · obtain ⟨a1, xs1, n1, ha1, hx1, g1⟩ := g_row (K := K) hT12 (p := j) (by rw [shc.five]; exact hj5) (ta := tVar 1) (tb := tVar 5) (gR (o5 := some (.int (j : Int))) (o10 := none) (o11 := none) (o12 := none) H12) (gpl H12)
            obtain ⟨a2, xs2, n2, ha2, hx2, g2⟩ := g_row (K := K) hT12 (p := hs.length) (by rw [shc.five]; exact ha) (ta := tVar 1) (tb := tVar 4) (gR (o5 := some (.int (j : Int))) (o10 := none) (o11 := none) (o12 := none) H12) (gat H12)
            rw [rj] at hx1
            rw [ra'] at hx2
            have lj := sh2.six j hj5
            have la := sh2.six hs.length ha
            refine gl_lc (src_zip (gh_V g1 (SqL.of ha1) hx1) (gh_V g2 (SqL.of ha2) hx2) (by unfold rowM; rw [List.length_map, List.length_map, lj, la])) (by unfold rowM zipM; simp [len_sub, lj, la]) (by unfold rowM zipM; simp [lj, la]) fun t u H' P' Q' hP hQ e' hu => ?_
            obtain ⟨q1, q2, hq1, hq2, rfl, rfl⟩ := zip_get (K := K) hP hQ
            obtain ⟨T1, y1, y2, rfl, hs1, hy1, hy2⟩ := tp2 hu
            refine ⟨_, gg_tup2 hs1 gg_name gg_name, rfl, gt_yes, ?_⟩
            have bq : ∀ {r : List Rat} {q : Rat} {t : Nat}, RowRep 527 r → r[t]? = some q → Bd 527 q := fun {r q t} rp hq => by
              have := rp.bd t
              unfold en at this
              rw [List.getD_eq_getElem?_getD, hq] at this
              exact this
            have b1 := bq (rep2 j hj5) hq1
            have b2 := bq (rep2 _ ha) hq2
            have b3 := (rep2 j hj5).bd i
            have gc := g_cell (K := K) (σ := ((wipe [some x0, some (.ref R), some (.ref Hd), some (.int (i : Int)), some (.int (hs.length : Int)), some (.int (j : Int)), some (.ref S), none, none, none, none, none, none] [11, 12]).set 11 (some y1)).set 12 (some y2)) (hT12.same e') (p := j) (c := i) (by rw [shc.five]; exact hj5) (by rw [shc.six _ hj5]; exact hi6)
              (ta := tVar 1) (tb := tVar 5) (tc := tVar 3) (g_vE rfl) (g_vE rfl) (g_vE rfl)
            rw [rj] at gc
            exact g_less (g_var rfl hy1) (g_times gc (g_var rfl hy2) b3 b2) b1 (b3.mul b2)
          · rw [clear_set sh2 hj5 hja]
            exact hT13
      · obtain ⟨o5', rfl, hT10⟩ := hp
        rw [rngM_len] at hT10
        have hH10 : H10 Hd = some (.lst (hdV hs)) := k10 _ _ hH9 (by simpa using nRd.symm)
        -- heads.append(column)
        refine s_app (P := IM (i : Int)) hH10 (g_vE rfl) (g_vE rfl) (by rw [hll]; omega) fun vv H11 e11 hvv => ?_
        have hvv' : vv = .int (i : Int) := hvv
        subst hvv'
        have kset : Kp [Hd] H10 (upd H11 Hd (.lst (hdV hs ++ [.int (i : Int)]))) := (Kp.same e11).set (by simp)
        refine fin _ _ (k49.trans ((k10.mono (by simp)).trans (kset.mono (by simp)))) ⟨_, _, _, _, rfl⟩ ?_ ?_
        · rw [epc]
          obtain ⟨vs10, q10, al10⟩ := hT10
          have est : pstep M hs.length i p = clearTo Mn hs.length i 5 := by rw [← hMn]; rfl
          have lsA : LsAt [R, Hd] H10 := fun b hb => by
            have hb' : b = R ∨ b = Hd := by simpa using hb
            rcases hb' with rfl | rfl
            · exact ⟨_, q10⟩
            · exact ⟨_, hH10⟩
          refine ⟨vs10, by rw [upd_ne nRd]; exact e11 _ _ q10, ?_⟩
          rw [est]
          exact al10.mono (kset.mono (by simp)) lsA
        · rw [epc, upd_same]
          unfold hdV
          rw [List.map_append]
          rfl
  · -- behind the loop
    obtain ⟨o3, o4, o5, o6, rfl, hT, hH⟩ := hp
    rw [rngM_len] at hT hH
    have kk := (Lk.run sh0 rep0 6).1
    unfold thrM at k
    have e03 : Same H H3 := fun b o q => by
      have q1 := e1 _ _ q
      have n1 : b ≠ R := ne_of_none q1 nR
      have n2 : b ≠ Hd := ne_of_none q1 nd'
      exact k3 _ _ (e2 _ _ q1) (by simp [n1, n2])
    generalize pRun (mat pts) 6 = st at kk hT hH k
    obtain ⟨M, hs⟩ := st
    dsimp only at kk hT hH k
    have hll : (hdV hs).length = hs.length := by unfold hdV; rw [List.length_map]
    have hle := kk.le
    have five := kk.shM.five
    have gl : G (tCB (fun xs H Q => ∃ p ys, xs = [V.ref p] ∧ (SqL K H p ys ∨ SqT K H p ys) ∧ Q (V.int (ys.length : Int)) H) (tCons (tVar 2) tNil)) [some x0, some (.ref R), some (.ref Hd), o3, o4, o5, o6, none, none, none, none, none, none] H3 (IM (hs.length : Int)) := g_eq (g_lenL (K := K) (g_vE rfl) (SqL.of hH)) (by rw [hll])
    have gt := g_I0 (g := fun i j => V.bl (decide (i < j))) gl (g_int (i := 5))
    dsimp only
    refine tseq ?_
    by_cases h5 : hs.length < 5
    · rw [decide_eq_true (show (hs.length : Int) < 5 by omega)] at gt
      rw [if_pos h5] at k
      exact s_ifT (gt_test gt) fun H4 e4 => k _ H4 (e03.trans e4) rfl
    · rw [decide_eq_false (show ¬ (hs.length : Int) < 5 by omega)] at gt
      rw [if_neg h5] at k
      refine s_ifF (gt_test gt) fun H4 e4 => ?_
      have hl5' : hs.length = 5 := by omega
      obtain ⟨f1, f2, f3⟩ := free_some hle
      have hT4 := hT.same e4
      have hH4 := e4 _ _ hH
      -- free
      have gF : GL (tLc (iRng1 (tCons (tC (.int 6)) tNil)) (gName 3) (tTest (tOp (rIn K true) (tVar 3) (tVar 2))) (tVar 3) [3]) [some x0, some (.ref R), some (.ref Hd), o3, o4, o5, o6, none, none, none, none, none, none] H4 ((freeL hs).map fun (n : Nat) => IM (n : Int)) := by
        have eo := os_filter (fun c => c ∉ hs) (fun (n : Nat) => IM (n : Int)) (List.range 6)
        have eo' : ((List.range 6).map fun x => if x ∉ hs then some (IM ((x : Nat) : Int)) else none).filterMap id = (freeL hs).map fun (n : Nat) => IM (n : Int) := eo
        rw [← eo']
        refine gl_lcF (src_rng1 (n := 6) (g_int (i := 6))) (by rw [rngM_len]; simp) (by rw [rngM_len]; decide) fun j u H' P' o hP ho e' hu => ?_
        obtain ⟨hj, rfl⟩ := rngM_get hP
        obtain ⟨j', hj', rfl⟩ := map_get ho
        rw [List.getElem?_range hj] at hj'
        cases hj'
        have hu' : u = .int (j : Int) := by
          have : u = .int (0 + (j : Int)) := hu
          rw [this, Int.zero_add]
        subst hu'
        refine ⟨_, gg_name, rfl, ?_, fun Q' hQ' => ?_⟩
        · have hf : (hdV hs).all flatV = true := by
            rw [List.all_eq_true]
            intro v hv
            obtain ⟨n, _, rfl⟩ := List.mem_map.mp hv
            rfl
          have gi := g_op (σ := (wipe [some x0, some (.ref R), some (.ref Hd), o3, o4, o5, o6, none, none, none, none, none, none] [3]).set 3 (some (.int (j : Int)))) (ta := tVar 3) (tb := tVar 2) (x := .int (j : Int)) (y := .ref Hd) (H := H') (g_vE rfl) (g_vE rfl) (Evl.rv_niL (K := K) (SqL.of (e' _ _ hH4)) rfl hf)
          refine gt_test (g_eq gi ?_)
          have := inV_hd j hs
          show EqM (.bl (!inV (.int (j : Int)) (hdV hs))) = _
          unfold hdV
          rw [this]
          by_cases hm : j ∈ hs
          · rw [if_neg (by simp [hm]), decide_eq_true hm]; rfl
          · rw [if_pos hm, decide_eq_false hm]; rfl
        · by_cases hm : j ∈ hs
          · rw [if_neg (by simp [hm])] at hQ'; cases hQ'
          · rw [if_pos hm] at hQ'
            cases hQ'
            exact g_var rfl rfl
      refine s_set (P := IM (freeOf hs : Int)) (g_ixN 0 gF (by rw [List.getElem?_map, f1]; rfl)) fun u H5 e5 hu => ?_
      have hu' : u = .int _ := hu
      subst hu'
      -- found = [ZERO] * 6
      refine s_setL (gl_rep (n := 6) (g_c (hz H5)) (by decide)) fun Fd xs H6 nF e6 hF hxs => ?_
      have hxl : xs.length = 6 := by rw [hxs.length]; rfl
      have e46 := e5.trans e6
      have hT6 : Tab K [R, Hd, Fd] R M H6 := by
        obtain ⟨vs4, q4, al4⟩ := hT4
        refine ⟨vs4, e46 _ _ q4, (al4.weak (ws' := [R, Hd, Fd]) fun b hb => ?_).same e46⟩
        have hb' : b = R ∨ b = Hd ∨ b = Fd := by simpa using hb
        rcases hb' with rfl | rfl | rfl
        · exact .inl (by simp)
        · exact .inl (by simp)
        · exact .inr (e5.free nF)
      have hH6 := e46 _ _ hH4
      have nRF : R ≠ Fd := fun z => by
        obtain ⟨vs4, q4, _⟩ := hT4
        have := e5 _ _ q4
        rw [z, nF] at this
        cases this
      have nHF : Hd ≠ Fd := fun z => by
        have := e5 _ _ hH4
        rw [z, nF] at this
        cases this
      have nF0 : H Fd = none := ((e03.trans e4).trans e5).free nF
      -- found[free] = ONE
      refine s_setI (P := RtM K 1) hF (by omega) (g_c (hz1 H6)) (fun _ => g_vE rfl) (fun _ _ => g_vE rfl) fun v1 H7 e7 hv1 => ?_
      have k67 : Kp [Fd] H6 (upd H7 Fd (.lst (xs.set (freeOf hs) v1))) := (Kp.same e7).set (by simp)
      have lsF : LsAt [Fd] H6 := LsAt.one hF
      have hx7 : AllP (rowM K (foundV M hs (freeOf hs) 0)) (xs.set (freeOf hs) v1) (upd H7 Fd (.lst (xs.set (freeOf hs) v1))) := by
        have h1 : rowM K (foundV M hs (freeOf hs) 0) = (List.replicate 6 (RtM K 0)).set (freeOf hs) (RtM K 1) := by
          unfold rowM foundV
          rw [List.map_set, List.map_replicate]
        rw [h1]
        exact (AllP.set hv1 (freeOf hs) (hxs.mono (.same e7))).mono (TKp.set (e7 _ _ hF))
      have hH7 : (upd H7 Fd (.lst (xs.set (freeOf hs) v1))) Hd = some (.lst (hdV hs)) := by rw [upd_ne nHF]; exact e7 _ _ hH6
      -- for at, column in enumerate(heads)
      refine s_for (ws := [Fd]) (srck_enumL (ps := hdM hs) (g_vE rfl) (SqL.of hH7) (hd_all hs) (LsAt.one upd_same) (by simpa using nHF)) (fun i σ H8 => ∃ o3 o4, σ = [some x0, some (.ref R), some (.ref Hd), o3, o4, o5, o6, some (.int (freeOf hs : Int)), some (.ref Fd), none, none, none, none] ∧
          ∃ ys, H8 Fd = some (.lst ys) ∧ AllP (rowM K (foundV M hs (freeOf hs) i)) ys H8)
        (fun H8 e8 => ⟨o3, o4, rfl, _, e8 _ _ upd_same, hx7.mono (.same e8)⟩) (fun Hb i y σ H8 H9 P' eb hP k8 hp e9 hy => ?_) fun σ H8 k8 hp => ?_
      · obtain ⟨q3, q4, rfl, ys, hy8, hys⟩ := hp
        have hhi : ∃ h : Nat, hs[i]? = some h ∧ P' = Tp K [IM (i : Int), IM (h : Int)] := by
          unfold enumM at hP
          rw [List.getElem?_mapIdx] at hP
          cases e : (hdM hs)[i]? with
          | none => rw [e] at hP; cases hP
          | some Pm =>
            obtain ⟨h, hh, rfl⟩ := map_get e
            rw [e] at hP
            exact ⟨h, hh, (Option.some.inj hP).symm⟩
        obtain ⟨h, hh, rfl⟩ := hhi
        obtain ⟨T1, y1, y2, rfl, hs1, hy1, hy2⟩ := tp2 hy
        have hy1' : y1 = .int (i : Int) := hy1
        have hy2' : y2 = .int (h : Int) := hy2
        subst hy1' hy2'
        refine gg_tup2 hs1 gg_name gg_name _ ?_
        have hi5 : i < 5 := by
          have := (List.getElem?_eq_some_iff.mp hh).1
          omega
        have hh6 : h < 6 := kk.lt h (List.mem_of_getElem? hh)
        have k69 : Kp [Fd] H6 H9 := ((k67.trans (.same eb)).trans k8).trans (.same e9)
        have hT9 : Tab K [R, Hd, Fd] R M H9 := by
          obtain ⟨vs6, q6, al6⟩ := hT6
          refine ⟨vs6, k69 _ _ q6 (by simpa using nRF), al6.mono (k69.mono (by simp)) fun b hb => ?_⟩
          have hb' : b = R ∨ b = Hd ∨ b = Fd := by simpa using hb
          rcases hb' with rfl | rfl | rfl
          · exact ⟨_, q6⟩
          · exact ⟨_, hH6⟩
          · exact ⟨_, hF⟩
        have gc := g_cell (K := K) (σ := [some x0, some (.ref R), some (.ref Hd), some (.int (h : Int)), some (.int (i : Int)), o5, o6, some (.int (freeOf hs : Int)), some (.ref Fd), none, none, none, none]) hT9 (p := i) (c := freeOf hs) (by rw [five]; exact hi5) (by rw [kk.shM.six _ hi5]; exact f2)
          (ta := tVar 1) (tb := tVar 4) (tc := tVar 7) (g_vE rfl) (g_vE rfl) (g_vE rfl)
        have br := ((kk.rep i hi5).bd (freeOf hs)).mono (bs_le hle)
        have hy9 := e9 _ _ hy8
        have hyl : ys.length = 6 := by rw [hys.length]; unfold rowM; rw [List.length_map, foundV_len]
        refine s_setI (P := RtM K (0 - en (rw' M i) (freeOf hs))) hy9 (by omega) (g_less (g_c (hz H9)) gc bd_zero br) (fun _ => g_vE rfl) (fun _ _ => g_vE rfl) fun v2 H10 e10 hv2 => ?_
        refine ⟨(k8.trans (.same (e9.trans e10))).set (by simp), _, _, rfl, _, upd_same, ?_⟩
        have eg : hs.getD i 0 = h := by rw [List.getD_eq_getElem?_getD, hh]; rfl
        have ef : rowM K (foundV M hs (freeOf hs) (i + 1)) = (rowM K (foundV M hs (freeOf hs) i)).set h (RtM K (0 - en (rw' M i) (freeOf hs))) := by
          show List.map (RtM K) ((foundV M hs (freeOf hs) i).set (hs.getD i 0) _) = _
          rw [eg, List.map_set]
          rfl
        rw [ef]
        exact (AllP.set hv2 h (hys.mono (.same (e9.trans e10)))).mono (TKp.set (e10 _ _ hy9))
      · obtain ⟨q3, q4, rfl, ys, hy8, hys⟩ := hp
        have hn : (enumM K (hdM hs)).length = 5 := by unfold enumM hdM; rw [List.length_mapIdx, List.length_map, hl5']
        have hys : AllP (rowM K (foundV M hs (freeOf hs) (enumM K (hdM hs)).length)) ys H8 := hys
        rw [hn] at hys
        have e08 : Same H H8 := fun b o q => by
          have nb : b ≠ Fd := ne_of_none q nF0
          exact k8 _ _ (k67 _ _ (e46 _ _ (e4 _ _ (e03 _ _ q))) (by simpa using nb)) (by simpa using nb)
        have fl := foundV_len M hs (freeOf hs) 5
        have ff := kk.found hl5' f2 f3
        dsimp only
        refine s_retG (g_whole (gh_V (g_vE rfl) (SqL.of hy8) hys) (by omega) (fun q hq => (foundV_bd (B := 1055) (fun i hi => ((kk.rep i hi).bd _).mono (bs_le hle)) 5 (Nat.le_refl _) q hq).mono (by decide)) ?_) fun rr H9 e9 hrr => k rr H9 (e08.trans e9) hrr
        refine ⟨1, ?_, by decide⟩
        have := en_get (r := foundV M hs (freeOf hs) 5) (j := freeOf hs) (by omega)
        rw [ff.1] at this
        exact List.mem_of_getElem? this
end
end K54
namespace K54
open PySem PySem.Spec PyProof.Rows L2
/-! ### the law's defs: draws -/
def ScAt (K : PySem.W.Frag) (a sc : Addr) (xs : List V) (H : Hp) : Prop := (sc ≠ a ∧ Rd H sc (.lst xs)) ∨ ∀ H' : Hp, SqL K H' sc xs
theorem ScAt.sq {K : PySem.W.Frag} {a sc : Addr} {xs : List V} {H : Hp} (h : ScAt K a sc xs H) : SqL K H sc xs := by
  rcases h with ⟨_, h⟩ | h
  · exact .inl h
  · exact h H
theorem ScAt.kp {K : PySem.W.Frag} {a sc : Addr} {xs : List V} {H H' : Hp} (h : ScAt K a sc xs H) (k : Kp [a] H H') : ScAt K a sc xs H' := by
  rcases h with ⟨n, h⟩ | h
  · refine .inl ⟨n, ?_⟩
    rcases h with h | ⟨o, h⟩
    · exact .inl (k _ _ h (by simpa using n))
    · exact .inr ⟨o, k _ _ h (by simpa using n)⟩
  · exact .inr h
/-- the draw's row stands at a -/
def RowP (K : PySem.W.Frag) (a sc : Addr) (H : Hp) : Prop := ∃ (ns : List Int) (i j k : Int), H a = some (.lst [.ref sc, .int i, .int j, .int k]) ∧ ns.length ≤ 63 ∧ 0 ≤ i ∧ ScAt K a sc (ns.map V.int) H
theorem RowP.ls {K : PySem.W.Frag} {a sc : Addr} {H : Hp} (h : RowP K a sc H) : LsAt [a] H := by
  obtain ⟨ns, i, j, k, e, _⟩ := h
  exact LsAt.one e
theorem RowP.same {K : PySem.W.Frag} {a sc : Addr} {H H' : Hp} (h : RowP K a sc H) (s : Same H H') : RowP K a sc H' := by
  obtain ⟨ns, i, j, k, e, h1, h2, h3⟩ := h
  exact ⟨ns, i, j, k, s _ _ e, h1, h2, h3.kp (.same s)⟩
def spTaken (K : PySem.W.Frag) : Sp := fun vs H Q _ => ∃ (a sc : Addr) (m : Int), vs = [.ref a, .int m] ∧ 0 < m ∧ m < 1000 ∧ RowP K a sc H ∧ ∀ (r : Int) H', 0 ≤ r → r < m → Kp [a] H H' → RowP K a sc H' → Q (.int r) H'
section
variable {K : PySem.W.Frag} {σ : L2.St} {H : Hp} {te : TE}
theorem g_intc {i : Int} (h : G te σ H (IM i)) : G (tCB (fun xs H Q => (∃ i, xs = [V.int i] ∧ Q (V.int i) H) ∨ ∃ k, xs = [V.bl k] ∧ Q (V.int (if k = true then 1 else 0)) H) (tCons te tNil)) σ H (IM i) := fun H1 e Q q =>
  h H1 e _ fun v H2 e2 hv => .inl ⟨i, by rw [show v = V.int i from hv], q _ H2 e2 rfl⟩
theorem g_mod {t u : TE} {i j : Int} (ht : G t σ H (IM i)) (hu : G u σ H (IM j)) (h : 0 < j) : G (tOp (rI (fun _ j => 0 < j) fun i j => .int (i % j)) t u) σ H (IM (i % j)) := g_I (C := fun _ j => 0 < j) (g := fun i j => .int (i % j)) ht hu h
theorem g_fdv {t u : TE} {i j : Int} (ht : G t σ H (IM i)) (hu : G u σ H (IM j)) (h : CDiv i j) : G (tOp (rI CDiv fun i j => .int (i / j)) t u) σ H (IM (i / j)) := g_I (C := CDiv) (g := fun i j => .int (i / j)) ht hu h
theorem g_mulI {t u : TE} {i j : Int} (ht : G t σ H (IM i)) (hu : G u σ H (IM j)) (h : CMul i j) : G (tOp (rI CMul fun i j => .int (i * j)) t u) σ H (IM (i * j)) := g_I (C := CMul) (g := fun i j => .int (i * j)) ht hu h
theorem g_addI {t u : TE} {i j : Int} (ht : G t σ H (IM i)) (hu : G u σ H (IM j)) : G (tOp (rI0 fun i j => .int (i + j)) t u) σ H (IM (i + j)) := g_I0 (g := fun i j => .int (i + j)) ht hu
theorem g_subI {t u : TE} {i j : Int} (ht : G t σ H (IM i)) (hu : G u σ H (IM j)) : G (tOp (rI0 fun i j => .int (i - j)) t u) σ H (IM (i - j)) := g_I0 (g := fun i j => .int (i - j)) ht hu
/-- an item of a list at a, the index written -/
theorem g_at {a : Addr} {xs : List V} {v : V} {t : TE} {i : Int} (j : Nat) (ha : G t σ H (EqM (.ref a))) (h : H a = some (.lst xs)) (hj : xs[j]? = some v) (hi : i = (j : Int) := by rfl) : G (tOp (rIxL K) t (tC (.int i))) σ H (EqM v) :=
  g_ixL ha g_int (SqL.of h) (by rw [hi]; exact atI_nat hj) rfl
end
section
variable {P : Program} {w : World} {K : PySem.W.Frag} {mg : Str → Option Value} {base : Heap}
abbrev nTaken : List Str := ["_law_row", "_law_many", "_law_found", "_law_cell"]
theorem sc_taken : FnScope nTaken ["_law_row", "_law_many"] (defScope sLTaken) := ⟨rfl, rfl, rfl, by decide +kernel, rfl, by decide +kernel, by decide +kernel⟩
theorem ok_taken (D : Df K mg "_law_taken" sLTaken ["_law_row", "_law_many"]) (T : Txt K mg) : Has P w K mg base "_law_taken" ["_law_row", "_law_many"] 1 (spTaken K) := D.has fun f fd F => by
  refine F.ok sc_taken (fun vs H Q E ⟨_, _, _, e, _⟩ => by rw [e]; rfl) (fun cdv A outer s H vs Q E hr h => ?_)
  obtain ⟨a, sc, m, rfl, m0, m1, hrow, kq⟩ := h
  obtain ⟨ns, i, j, k, e, h1, h2, h3⟩ := hrow
  have nd := sc_taken.nd
  refine ⟨_, pss_cons (ps_if (pt_cmpR op_gt (pe_ix ix_list (pv 0) pe_int (fun _ _ => rfl)) pe_int (nomark _))
      (pss_cons (ps_set (i := 2) nd rfl (.inl rfl) (pe_op op_mod (pe_callTy call_int1 (by rfl) T.int PyProof.Rows.boot_int (pa_cons (pe_ix ix_list (pv 0) pe_int (fun _ _ => rfl)) pa_nil)) (pv 1)))
      (pss_cons (ps_asg (pe_op op_fdiv (pe_ix ix_list (pv 0) pe_int (fun _ _ => rfl)) (pv 1)) (pg_sub (pv 0) pe_int set_list)) (pss_one (ps_ret (pv 2))))) pss_nil)
    (pss_cons (ps_asg (pe_op op_add (pe_ix ix_list (pv 0) pe_int (fun _ _ => rfl)) pe_int) (pg_sub (pv 0) pe_int set_list))
    (pss_cons (ps_if (pt_cmpR op_gt (pe_ix ix_list (pv 0) pe_int (fun _ _ => rfl)) (pe_callB call_len_seq (by rfl) T.len PySem.boot_len (pa_cons (pe_ix ix_list (pv 0) pe_int (fun _ _ => rfl)) pa_nil)) (nomark _))
      (pss_cons (ps_asg (pe_op op_mod (pe_callTy call_int1 (by rfl) T.int PyProof.Rows.boot_int (pa_cons (pe_op op_add (pe_op op_mul (pe_ix ix_list (pv 0) pe_int (fun _ _ => rfl)) pe_int) pe_int) pa_nil)) pe_int) (pg_sub (pv 0) pe_int set_list))
      (pss_one (ps_ret (pe_op op_mod (pe_callTy call_int1 (by rfl) T.int PyProof.Rows.boot_int (pa_cons (pe_op op_fdiv (pe_ix ix_list (pv 0) pe_int (fun _ _ => rfl)) pe_int) pa_nil)) (pv 1))))) pss_nil)
    (pss_cons (ps_set (i := 3) nd rfl (.inl rfl) (pe_ix ix_list (pe_ix ix_list (pv 0) pe_int (fun _ _ => rfl)) (pe_op op_sub (pe_ix ix_list (pv 0) pe_int (fun _ _ => rfl)) pe_int) (fun _ _ => rfl)))
    (pss_cons (ps_asg (pe_op op_mod (pe_callTy call_int1 (by rfl) T.int PyProof.Rows.boot_int (pa_cons (pe_op op_add (pe_op op_add (pe_op op_mul (pe_ix ix_list (pv 0) pe_int (fun _ _ => rfl)) pe_int) (pv 3)) pe_int) pa_nil)) pe_int) (pg_sub (pv 0) pe_int set_list))
    (pss_cons (ps_if (pt_cmpR op_ge (pv 3) (pe_op op_pow pe_int pe_int) (nomark _)) (pss_one (ps_asg (pe_op op_fdiv (pv 3) (pv 1)) (pg_sub (pv 0) pe_int set_list))) pss_nil)
    (pss_one (ps_ret (pe_op op_mod (pe_callTy call_int1 (by rfl) T.int PyProof.Rows.boot_int (pa_cons (pv 3) pa_nil)) (pv 1))))))))), ?_⟩
  have cm : CDiv k m := ⟨m0, by omega⟩
  have r0 : ∀ x : Int, 0 ≤ x % m := fun x => Int.emod_nonneg x (by omega)
  have r1 : ∀ x : Int, x % m < m := fun x => Int.emod_lt_of_pos x m0
  have gv0 : ∀ (o2 o3 : Option V) (H' : Hp), G (tVar 0) [some (.ref a), some (.int m), o2, o3] H' (EqM (.ref a)) := fun _ _ _ => g_vE rfl
  have gv1 : ∀ (o2 o3 : Option V) (H' : Hp), G (tVar 1) [some (.ref a), some (.int m), o2, o3] H' (IM m) := fun _ _ _ => g_vE rfl
  have gt := g_I0 (g := fun i j => V.bl (decide (j < i))) (g_at (K := K) (i := 3) 3 (gv0 none none H) e rfl) (g_int (i := 0))
  by_cases hk : 0 < k
  · rw [decide_eq_true hk] at gt
    refine s_ifT (gt_test gt) fun H1 e1 => ?_
    have a1 := e1 _ _ e
    refine s_set (P := IM (k % m)) (g_mod (g_intc (g_at (K := K) (i := 3) 3 (gv0 none none H1) a1 rfl)) (gv1 none none H1) m0) fun v2 H2 e2 hv2 => ?_
    have hv2' : v2 = .int (k % m) := hv2
    subst hv2'
    have a2 := e2 _ _ a1
    refine s_setI (j := 3) (P := IM (k / m)) a2 (by simp) (g_fdv (g_at (K := K) (i := 3) 3 (gv0 (some (.int (k % m))) none H2) a2 rfl) (gv1 (some (.int (k % m))) none H2) cm) (fun H1 => gv0 (some (.int (k % m))) none H1) (fun _ _ => g_int) fun v3 H3 e3 hv3 => ?_
    have hv3' : v3 = .int (k / m) := hv3
    subst hv3'
    have kp : Kp [a] H (upd H3 a (.lst [.ref sc, .int i, .int j, .int (k / m)])) := ((Kp.same (e1.trans e2)).trans (.same e3)).set (by simp)
    exact s_retG (P := IM (k % m)) (g_vE rfl) fun v H4 e4 hv => by
      have hv' : v = .int (k % m) := hv
      subst hv'
      exact kq _ H4 (r0 k) (r1 k) (kp.trans (.same e4)) (RowP.same ⟨ns, i, j, k / m, upd_same, h1, h2, h3.kp kp⟩ e4)
  · rw [decide_eq_false hk] at gt
    refine s_ifF (gt_test gt) fun H1 e1 => ?_
    have a1 := e1 _ _ e
    dsimp only [tNext]
    refine tseq ?_
    refine s_setI (j := 1) (P := IM (i + 1)) a1 (by simp) (g_addI (g_at (K := K) (i := 1) 1 (gv0 none none H1) a1 rfl) (g_int (i := 1))) (fun H1 => gv0 none none H1) (fun _ _ => g_int) fun v3 H3 e3 hv3 => ?_
    have hv3' : v3 = .int (i + 1) := hv3
    subst hv3'
    have kp3 : Kp [a] H (upd H3 a (.lst [.ref sc, .int (i + 1), .int j, .int k])) := ((Kp.same e1).trans (.same e3)).set (by simp)
    generalize hH4 : upd H3 a (.lst [.ref sc, .int (i + 1), .int j, .int k]) = H4 at kp3
    have a4 : H4 a = some (.lst [.ref sc, .int (i + 1), .int j, .int k]) := by rw [← hH4]; exact upd_same
    have goal4 : (upd H3 a (.lst ([V.ref sc, V.int i, V.int j, V.int k].set 1 (V.int (i + 1))))) = H4 := hH4
    rw [goal4]
    dsimp only
    refine tseq ?_
    have s4 := h3.kp kp3
    have gl := g_lenL (K := K) (g_at (K := K) (i := 0) 0 (gv0 none none H4) a4 rfl) s4.sq
    rw [List.length_map] at gl
    have gt2 := g_I0 (g := fun i j => V.bl (decide (j < i))) (g_at (K := K) (i := 1) 1 (gv0 none none H4) a4 rfl) gl
    have cmul : ∀ x : Int, CMul x 48271 := fun x => .inr ⟨by decide, by decide⟩
    by_cases hlen : (ns.length : Int) < i + 1
    · rw [decide_eq_true hlen] at gt2
      refine s_ifT (gt_test gt2) fun H5 e5 => ?_
      have a5 := e5 _ _ a4
      refine s_setI (j := 2) (P := IM ((j * 48271 + 11) % 2147483647)) a5 (by simp) (g_mod (g_intc (g_addI (g_mulI (g_at (K := K) (i := 2) 2 (gv0 none none H5) a5 rfl) (g_int (i := 48271)) (cmul j)) (g_int (i := 11)))) (g_int (i := 2147483647)) (by decide)) (fun H1 => gv0 none none H1) (fun _ _ => g_int) fun v6 H6 e6 hv6 => ?_
      have hv6' : v6 = .int _ := hv6
      subst hv6'
      have kp7 : Kp [a] H4 (upd H6 a (.lst [.ref sc, .int (i + 1), .int ((j * 48271 + 11) % 2147483647), .int k])) := ((Kp.same e5).trans (.same e6)).set (by simp)
      refine s_retG (P := IM ((((j * 48271 + 11) % 2147483647) / 7) % m)) (g_mod (g_intc (g_fdv (g_at (K := K) (i := 2) 2 (gv0 none none _) upd_same rfl) (g_int (i := 7)) ⟨by decide, by decide⟩)) (gv1 none none _) m0) fun v H8 e8 hv => ?_
      have hv' : v = .int _ := hv
      subst hv'
      exact kq _ H8 (r0 _) (r1 _) ((kp3.trans kp7).trans (.same e8)) (RowP.same ⟨ns, i + 1, _, k, upd_same, h1, by omega, s4.kp kp7⟩ e8)
    · rw [decide_eq_false hlen] at gt2
      refine s_ifF (gt_test gt2) fun H5 e5 => ?_
      have a5 := e5 _ _ a4
      have s5 := s4.kp (.same e5)
      dsimp only [tNext]
      refine tseq ?_
      obtain ⟨c, hc⟩ : ∃ c, ns[i.toNat]? = some c := ⟨ns[i.toNat]'(by omega), List.getElem?_eq_getElem _⟩
      refine s_set (P := IM c) (g_ixL (v := .int c) (g_at (K := K) (i := 0) 0 (gv0 none none H5) a5 rfl) (g_I0 (g_at (K := K) (i := 1) 1 (gv0 none none H5) a5 rfl) (g_int (i := 1))) s5.sq (at_of (j := i.toNat) (by omega) (by rw [List.getElem?_map, hc]; rfl)) rfl) fun v6 H6 e6 hv6 => ?_
      have hv6' : v6 = .int c := hv6
      subst hv6'
      have a6 := e6 _ _ a5
      refine s_setI (j := 2) (P := IM ((j * 48271 + c + 11) % 2147483647)) a6 (by simp) (g_mod (g_intc (g_addI (g_addI (g_mulI (g_at (K := K) (i := 2) 2 (gv0 none (some (.int c)) H6) a6 rfl) (g_int (i := 48271)) (cmul j)) (g_vE (v := .int c) rfl)) (g_int (i := 11)))) (g_int (i := 2147483647)) (by decide)) (fun H1 => gv0 none (some (.int c)) H1) (fun _ _ => g_int) fun v7 H7 e7 hv7 => ?_
      have hv7' : v7 = .int _ := hv7
      subst hv7'
      have kp8 : Kp [a] H4 (upd H7 a (.lst [.ref sc, .int (i + 1), .int ((j * 48271 + c + 11) % 2147483647), .int k])) := ((Kp.same (e5.trans e6)).trans (.same e7)).set (by simp)
      have row8 : RowP K a sc (upd H7 a (.lst [.ref sc, .int (i + 1), .int ((j * 48271 + c + 11) % 2147483647), .int k])) := ⟨ns, i + 1, _, k, upd_same, h1, by omega, s4.kp kp8⟩
      have fin : ∀ H9, Kp [a] H H9 → RowP K a sc H9 → tRet (tOp (rI (fun _ j => 0 < j) fun i j => .int (i % j)) (tCB (fun xs H Q => (∃ i, xs = [V.int i] ∧ Q (V.int i) H) ∨ ∃ k, xs = [V.bl k] ∧ Q (V.int (if k = true then 1 else 0)) H) (tCons (tVar 3) tNil)) (tVar 1))
          { nx := fun _ H' => Q .non H', rt := Q } [some (.ref a), some (.int m), none, some (.int c)] H9 := fun H9 k9 r9 => s_retG (P := IM (c % m)) (g_mod (g_intc (g_vE rfl)) (gv1 _ _ _) m0) fun v H10 e10 hv => by
            have hv' : v = .int (c % m) := hv
            subst hv'
            exact kq _ H10 (r0 _) (r1 _) (k9.trans (.same e10)) (r9.same e10)
      have gt3 : ∀ H', G (tOp (rI0 fun i j => V.bl (decide (j ≤ i))) (tVar 3) (tOp (rI CPow fun i j => .int (i ^ j.toNat)) (tC (.int 10)) (tC (.int 18)))) [some (.ref a), some (.int m), none, some (.int c)] H' (BM (decide ((10 : Int) ^ (18 : Int).toNat ≤ c))) := fun H' =>
        g_I0 (g_vE rfl) (g_I (g_int (i := 10)) (g_int (i := 18)) ⟨by decide, by decide, by decide⟩)
      dsimp only
      refine tseq ?_
      by_cases hb : (10 : Int) ^ (18 : Int).toNat ≤ c
      · refine s_ifT (gt_test (g_eq (gt3 _) (by rw [decide_eq_true hb]))) fun H9 e9 => ?_
        have a9 := e9 _ _ (upd_same (H := H7) (a := a) (o := .lst [.ref sc, .int (i + 1), .int ((j * 48271 + c + 11) % 2147483647), .int k]))
        refine s_setI (j := 3) (P := IM (c / m)) a9 (by simp) (g_fdv (g_vE rfl) (gv1 none (some (.int c)) H9) (show CDiv c m from ⟨m0, by omega⟩)) (fun H1 => gv0 none (some (.int c)) H1) (fun _ _ => g_int) fun v10 H10 e10 hv10 => ?_
        have hv10' : v10 = .int _ := hv10
        subst hv10'
        have kp11 : Kp [a] H4 (upd H10 a (.lst [.ref sc, .int (i + 1), .int ((j * 48271 + c + 11) % 2147483647), .int (c / m)])) := ((kp8.trans (.same e9)).trans (.same e10)).set (by simp)
        exact fin _ (kp3.trans kp11) ⟨ns, i + 1, _, c / m, upd_same, h1, by omega, s4.kp kp11⟩
      · refine s_ifF (gt_test (g_eq (gt3 _) (by rw [decide_eq_false hb]))) fun H9 e9 => fin H9 ((kp3.trans kp8).trans (.same e9)) (row8.same e9)
end
end K54
namespace K54
open PySem PySem.Spec PyProof.Rows L2
/-! ### bits above and below the line apart -/
def LB (a b : Nat) (q : Rat) : Prop := q.num.natAbs < 2 ^ a ∧ q.den < 2 ^ b
theorem LB.mono {a b c d : Nat} {q : Rat} (h : LB a b q) (h1 : a ≤ c) (h2 : b ≤ d) : LB c d q := ⟨lt_pow_of h.1 h1, lt_pow_of h.2 h2⟩
theorem Bd.lb {b : Nat} {q : Rat} (h : Bd b q) : LB b b q := h
theorem LB.d {a b : Nat} {q : Rat} (h : LB a b q) : ((q.den : Int)).natAbs < 2 ^ b := by rw [nat_abs_cast]; exact h.2
theorem lb_divInt {a b : Nat} {top low : Int} (h : low ≠ 0) (ht : top.natAbs < 2 ^ a) (hl : low.natAbs < 2 ^ b) : LB a b (Rat.divInt top low) := by
  have e := made_eq (top := top) h
  have hg := gpart_ne (top := top) h
  have key : ∀ x : Int, gpart top low ∣ x → (x.fdiv (gpart top low)).natAbs ≤ x.natAbs := fun x hd => by
    obtain ⟨k, hk⟩ := hd
    rw [hk, Int.mul_fdiv_cancel_left _ hg, Int.natAbs_mul]
    exact Nat.le_mul_of_pos_left _ (by omega)
  have d1 : gpart top low ∣ top := by
    unfold gpart
    split
    · exact Int.neg_dvd.mpr (Int.ofNat_dvd_left.mpr (Nat.gcd_dvd_left _ _))
    · exact Int.ofNat_dvd_left.mpr (Nat.gcd_dvd_left _ _)
  have d2 : gpart top low ∣ low := by
    unfold gpart
    split
    · exact Int.neg_dvd.mpr (Int.ofNat_dvd_left.mpr (Nat.gcd_dvd_right _ _))
    · exact Int.ofNat_dvd_left.mpr (Nat.gcd_dvd_right _ _)
  refine ⟨?_, ?_⟩
  · rw [← e.1]
    exact Nat.lt_of_le_of_lt (key top d1) ht
  · have : ((Rat.divInt top low).den : Int).natAbs < 2 ^ b := by
      rw [← e.2]
      exact Nat.lt_of_le_of_lt (key low d2) hl
    simpa using this
theorem LB.mul {a b c d : Nat} {p q : Rat} (hp : LB a b p) (hq : LB c d q) : LB (a + c) (b + d) (p * q) := by
  rw [← times_eq]
  exact lb_divInt (dd_ne p q) (abs_mul_lt hp.1 hq.1) (abs_mul_lt hp.d hq.d)
theorem LB.add {a b c d e : Nat} {p q : Rat} (hp : LB a b p) (hq : LB c d q) (h1 : a + d ≤ e) (h2 : c + b ≤ e) : LB (e + 1) (b + d) (p + q) := by
  rw [← plus_eq]
  exact lb_divInt (dd_ne p q) (abs_add_lt (lt_pow_of (abs_mul_lt hp.1 hq.d) h1) (lt_pow_of (abs_mul_lt hq.1 hp.d) h2)) (abs_mul_lt hp.d hq.d)
/-! ### evaluations that draw -/
def GM (K : PySem.W.Frag) (a sc : Addr) (te : TE) (σ : L2.St) (R : V → Hp → Prop) : Prop := ∀ H, RowP K a sc H → ∀ Q : VK, (∀ v H', R v H' → Kp [a] H H' → RowP K a sc H' → Q v H') → te σ H Q
def spPick (K : PySem.W.Frag) : Sp := fun vs H Q _ => ∃ (a sc l : Addr) (xs : List V), vs = [.ref a, .ref l] ∧ l ≠ a ∧ H l = some (.lst xs) ∧ 0 < xs.length ∧ xs.length < 1000 ∧ RowP K a sc H ∧ ∀ v H', v ∈ xs → Kp [a] H H' → RowP K a sc H' → Q v H'
/-- a def that takes the row alone -/
def spR (K : PySem.W.Frag) (R : V → Hp → Prop) : Sp := fun vs H Q _ => ∃ a sc : Addr, vs = [.ref a] ∧ RowP K a sc H ∧ ∀ v H', R v H' → Kp [a] H H' → RowP K a sc H' → Q v H'
section
variable {K : PySem.W.Frag} {σ : L2.St} {H : Hp} {te : TE} {a sc : Addr} {E : XK}
theorem gm_taken {i : Nat} {m : Int} (h : σ[i]? = some (some (.ref a))) (m0 : 0 < m) (m1 : m < 1000) : GM K a sc (tCall (spTaken K) [] E (tCons (tVar i) (tCons (tC (.int m)) tNil))) σ (fun v _ => ∃ r : Int, 0 ≤ r ∧ r < m ∧ v = .int r) := fun H hr Q q =>
  ⟨_, h, a, sc, m, rfl, m0, m1, hr, fun r H' r0 r1 k rp => q _ H' ⟨r, r0, r1, rfl⟩ k rp⟩
theorem gm_call {R : V → Hp → Prop} {i : Nat} (h : σ[i]? = some (some (.ref a))) : GM K a sc (tCall (spR K R) [] E (tCons (tVar i) tNil)) σ R := fun H hr Q q => ⟨_, h, a, sc, rfl, hr, q⟩
theorem g_abs {i : Int} (h : G te σ H (IM i)) : G (tCB (fun xs H Q => ∃ i, xs = [V.int i] ∧ Q (V.int (if i < 0 then -i else i)) H) (tCons te tNil)) σ H (IM (i.natAbs : Int)) := fun H1 e Q q =>
  h H1 e _ fun v H2 e2 hv => ⟨i, by rw [show v = V.int i from hv], q _ H2 e2 (show V.int _ = V.int _ by congr 1; split <;> omega)⟩
theorem all_snd {ps : List MP} {P : MP} {vs : List V} : AllP (P :: ps) vs H → ∃ x ys, vs = x :: ys ∧ P.p x H ∧ AllP ps ys H := fun h => by
  match vs, h with
  | x :: ys, h => exact ⟨x, ys, rfl, h.1, h.2⟩
end
section
variable {P : Program} {w : World} {K : PySem.W.Frag} {mg : Str → Option Value} {base : Heap}
theorem sc_pick : FnScope ["_law_row", "_law_things"] ["_law_row", "_law_things"] (defScope sLPick) := ⟨rfl, rfl, rfl, by decide +kernel, rfl, by decide +kernel, by decide +kernel⟩
theorem ok_pick (D : Df K mg "_law_pick" sLPick ["_law_row", "_law_things"]) (T : Txt K mg) (HT : Has P w K mg base "_law_taken" ["_law_row", "_law_many"] 1 (spTaken K)) : Has P w K mg base "_law_pick" ["_law_row", "_law_things"] 2 (spPick K) := D.has fun f fd F => by
  refine F.ok sc_pick (fun vs H Q E ⟨_, _, _, _, e, _⟩ => by rw [e]; rfl) (fun cdv A outer s H vs Q E hr h => ?_)
  obtain ⟨a, sc, l, xs, rfl, n, hl, h0, h1, hrow, kq⟩ := h
  refine ⟨_, pss_one (ps_ret (pe_ix ix_list (pv 1) (pe_c HT hr (by rfl) (pa_cons (pv 0) (pa_cons (pe_callB call_len_seq (by rfl) T.len PySem.boot_len (pa_cons (pv 1) pa_nil)) pa_nil))) (fun _ _ => rfl))), ?_⟩
  refine ⟨.ref l, rfl, .ref a, rfl, .ref l, rfl, l, xs, rfl, .inl (SqL.of hl), a, sc, (xs.length : Int), rfl, by omega, by omega, hrow, fun r H' r0 r1 k rp => ?_⟩
  have hl' : H' l = some (.lst xs) := k _ _ hl (by simpa using n)
  have hi : r.toNat < xs.length := by omega
  exact ⟨l, xs, r, xs[r.toNat], rfl, rfl, SqL.of hl', at_of (j := r.toNat) (by omega) (List.getElem?_eq_getElem hi), kq _ H' (List.getElem_mem hi) k rp⟩
/-! _law_made -/
abbrev nLMade : List Str := ["_law_top", "_law_low", "_law_one", "_law_other", "_law_turn"]
def dLMade (K : PySem.W.Frag) : List MP → MP → Prop := fun ps P => ∃ top low : Int, low ≠ 0 ∧ low.natAbs < 2 ^ 4999 ∧ ps = [IM top, IM low] ∧ P = RtM K (Rat.divInt top low)
theorem sc_lmade : FnScope nLMade ["_law_top", "_law_low"] (defScope sLMade) := ⟨rfl, rfl, rfl, by decide +kernel, rfl, by decide +kernel, by decide +kernel⟩
theorem ok_lmade (D : Df K mg "_law_made" sLMade ["_law_top", "_law_low"]) (T : Txt K mg) : Has P w K mg base "_law_made" ["_law_top", "_law_low"] 1 (spX (dLMade K)) := D.has fun f fd F => by
  refine F.ok sc_lmade (sp_len fun ps P ⟨i, j, _, _, e, _⟩ => by rw [e]; rfl) (fun cdv A outer s H vs Q E hr h => ?_)
  obtain ⟨ps, R, ⟨top, low, h0, hb, rfl, rfl⟩, hv, k⟩ := h
  obtain ⟨x, y, rfl, hx, hy⟩ := all2 hv
  have hx' : x = .int top := hx
  have hy' : y = .int low := hy
  subst hx' hy'
  have nd := sc_lmade.nd
  refine ⟨_, pss_cons (ps_par (i := 2) (j := 3) (by rfl) nd rfl rfl (by decide) rfl rfl (pa_cons (pe_callB call_abs (by rfl) T.abs PyProof.Rows.boot_abs (pa_cons (pv 0) pa_nil)) (pa_cons (pe_callB call_abs (by rfl) T.abs PyProof.Rows.boot_abs (pa_cons (pv 1) pa_nil)) pa_nil)) (by rfl))
    (pss_cons (ps_for PassesOwn.never rfl (pi_range1 (by rfl) T.range (pa_cons pe_int pa_nil)) (pg_name (i := 4) nd rfl (.inl rfl))
      (pss_cons (ps_if (pt_cmpR op_eq (pv 3) pe_int (nomark _)) (pss_one ps_break) pss_nil)
      (pss_one (ps_par (i := 2) (j := 3) (by rfl) nd rfl rfl (by decide) rfl rfl (pa_cons (pv 3) (pa_cons (pe_op op_mod (pv 2) (pv 3)) pa_nil)) (by rfl)))))
    (pss_cons (ps_set (i := 2) nd rfl (.inl rfl) (pe_ifExp (pt_cmpR op_lt (pv 1) pe_int (nomark _)) (pe_op op_sub pe_int (pv 2)) (pv 2)))
    (pss_one (ps_ret (pe_tup (pa_cons (pe_op op_fdivNW (pv 0) (pv 2)) (pa_cons (pe_op op_fdivNW (pv 1) (pv 2)) pa_nil))))))), ?_⟩
  refine s_par (P := IM (top.natAbs : Int)) (Q := IM (low.natAbs : Int)) (ga_cons (g_abs (g_vE rfl)) (ga_cons (g_abs (g_vE rfl)) ga_nil)) fun a b H1 e1 ha hb' => ?_
  have ha' : a = .int _ := ha
  have hb'' : b = .int _ := hb'
  subst ha' hb''
  -- behind the loop
  have fin : ∀ (o4 : Option V) H2, Same H H2 → tSeq (tAsg (tIf (tTest (tOp (rI0 fun i j => V.bl (decide (i < j))) (tVar 1) (tC (.int 0)))) (tOp (rI0 fun i j => .int (i - j)) (tC (.int 0)) (tVar 2)) (tVar 2)) (gName 2)) (tRet (tTup (tCons (tOp (rI CDivNW fun i j => .int (i.fdiv j)) (tVar 0) (tVar 2)) (tCons (tOp (rI CDivNW fun i j => .int (i.fdiv j)) (tVar 1) (tVar 2)) tNil))))
      { nx := fun _ H' => Q .non H', rt := Q } [some (.int top), some (.int low), some (.int ((Nat.gcd top.natAbs low.natAbs : Nat) : Int)), some (.int 0), o4] H2 := fun o4 H2 e2 => by
    refine tseq ?_
    have gl : G (tIf (tTest (tOp (rI0 fun i j => V.bl (decide (i < j))) (tVar 1) (tC (.int 0)))) (tOp (rI0 fun i j => .int (i - j)) (tC (.int 0)) (tVar 2)) (tVar 2)) [some (.int top), some (.int low), some (.int ((Nat.gcd top.natAbs low.natAbs : Nat) : Int)), some (.int 0), o4] H2 (IM (gpart top low)) := by
      have gc := g_I0 (g := fun i j => V.bl (decide (i < j))) (g_vE (σ := [some (.int top), some (.int low), some (.int ((Nat.gcd top.natAbs low.natAbs : Nat) : Int)), some (.int 0), o4]) (H := H2) (i := 1) rfl) (g_int (i := 0))
      by_cases hl : low < 0
      · rw [decide_eq_true hl] at gc
        exact g_ifT (gt_test gc) (g_eq (g_subI g_int (g_vE rfl)) (by unfold gpart; rw [if_pos hl, Int.zero_sub]))
      · rw [decide_eq_false hl] at gc
        exact g_ifF (gt_test gc) (g_eq (g_vE rfl) (by unfold gpart; rw [if_neg hl]))
    refine s_set gl fun v H3 e3 hv => ?_
    have hv' : v = .int _ := hv
    subst hv'
    have hg := gpart_ne (top := top) h0
    have hc : ∀ i : Int, CDivNW i (gpart top low) := fun i => nw_div hg (Nat.lt_of_le_of_lt (gpart_le h0) hb) (by decide) (by decide)
    have m := made_eq (top := top) h0
    have g1 : G (tOp (rI CDivNW fun i j => .int (i.fdiv j)) (tVar 0) (tVar 2)) [some (.int top), some (.int low), some (.int (gpart top low)), some (.int 0), o4] H3 (IM (Rat.divInt top low).num) := g_eq (g_I (g_vE rfl) (g_vE rfl) (hc top)) (by rw [m.1])
    have g2 : G (tOp (rI CDivNW fun i j => .int (i.fdiv j)) (tVar 1) (tVar 2)) [some (.int top), some (.int low), some (.int (gpart top low)), some (.int 0), o4] H3 (IM ((Rat.divInt top low).den : Int)) := g_eq (g_I (g_vE rfl) (g_vE rfl) (hc low)) (by rw [m.2])
    exact s_retG (g_tup (K := K) (ga_cons g1 (ga_cons g2 ga_nil))) fun v H4 e4 hv => k v H4 ((e2.trans e3).trans e4) hv
  dsimp only
  refine tseq ?_
  refine s_for (ws := []) (srck_rng1 (n := 10000) g_int) (fun i σ H2 => Same H H2 ∧ ∃ (one other : Int) (o4 : Option V), σ = [some (.int top), some (.int low), some (.int one), some (.int other), o4] ∧ Euc top low 4999 i one other)
    (fun H2 e2 => ⟨e1.trans e2, _, _, none, rfl, Euc.init⟩) (fun Hb i z σ H3 H4 P' hbs hP k3 hp e4 hz => ?_) fun σ H2 k2 hp => ?_
  · obtain ⟨eb, one, other, o4, rfl, eu⟩ := hp
    refine tseq ?_
    have gc := g_eqI (g_vE (σ := [some (.int top), some (.int low), some (.int one), some (.int other), some z]) (H := H4) (i := 3) (v := .int other) rfl) (g_int (i := 0))
    by_cases ho : other = 0
    · rw [decide_eq_true ho] at gc
      subst ho
      refine s_ifT (gt_test gc) fun H5 e5 => ?_
      have ed := eu.done
      subst ed
      exact fin (some z) H5 ((eb.trans e4).trans e5)
    · rw [decide_eq_false ho] at gc
      refine s_ifF (gt_test gc) fun H5 e5 => ?_
      dsimp only [tNext]
      have n2 := eu.nn
      refine s_par (P := IM other) (Q := IM (one.fmod other)) (ga_cons (g_vE rfl) (ga_cons (g_eq (g_mod (g_vE rfl) (g_vE rfl) (by omega)) (by rw [Int.fmod_eq_emod_of_nonneg _ (by omega)])) ga_nil)) fun a b H6 e6 ha hb2 => ?_
      have ha' : a = .int _ := ha
      have hb'' : b = .int _ := hb2
      subst ha' hb''
      exact ⟨k3.trans (.same ((e4.trans e5).trans e6)), ((eb.trans e4).trans e5).trans e6, other, one.fmod other, some z, rfl, eu.turn hb ho⟩
  · obtain ⟨eb, one, other, o4, rfl, eu⟩ := hp
    rw [rngM_len] at eu
    have ho := eu.last (by decide)
    subst ho
    have ed := eu.done
    subst ed
    exact fin o4 H2 eb
end
end K54
namespace K54
open PySem PySem.Spec PyProof.Rows L2
abbrev lbig2 : Rat → Rat → Prop := fun p q => LB 100000 2000 p ∧ LB 100000 2000 q
abbrev lbig2z : Rat → Rat → Prop := fun p q => (Bd 2000 p ∧ Bd 2000 q) ∧ q ≠ 0
abbrev dLPlus (K : PySem.W.Frag) := d2 K lbig2 (· + ·)
abbrev dLMinus (K : PySem.W.Frag) := d2 K lbig2 (· - ·)
abbrev dLTimes (K : PySem.W.Frag) := d2 K lbig2 (· * ·)
abbrev dLOver (K : PySem.W.Frag) := d2 K lbig2z (· / ·)
abbrev n2L : List Str := ["_law_one", "_law_other"]
section
variable {P : Program} {w : World} {K : PySem.W.Frag} {mg : Str → Option Value} {base : Heap}
theorem ok_twoL {x : Str} {st : Stmt} {pre : Rat → Rat → Prop} {f : Rat → Rat → Rat} (S : FnScope n2L n2L (defScope st)) (D : Df K mg x st n2L)
    (hbody : ∀ (fa : Addr) (cdv : Value) (A : Around) (outer : List Env) (s : Shared) (H : Hp) (u v : V) (E : XK) (p q : Rat) (R : VK), Room 1 (A.deeper (envOfC x (defScope st) s.heap.objs.size fa cdv)) → pre p q → (RtM K p).p u H → (RtM K q).p v H →
      (∀ z H', Same H H' → (RtM K (f p q)).p z H' → R z H') → ∃ t, PSs (cxOf CX0 P w K mg base n2L x (defScope st) fa cdv A outer s H E).nox (defBody st) t ∧ t { nx := fun _ H' => R .non H', rt := R } (start n2L [u, v]) H) :
    Has P w K mg base x n2L 2 (spX (d2 K pre f)) := D.has fun fa fd F => by
  refine F.ok S (sp_len fun ps P ⟨i, j, _, e, _⟩ => by rw [e]; rfl) (fun cdv A outer s H vs Q E hr h => ?_)
  obtain ⟨ps, R, ⟨p, q, hp, rfl, rfl⟩, hv, k⟩ := h
  obtain ⟨u, v, rfl, hu, hv⟩ := all2 hv
  exact hbody fa cdv A outer s H u v E p q Q hr hp hu hv k
theorem sc_lplus : FnScope n2L n2L (defScope sLPlus) := ⟨rfl, rfl, rfl, by decide +kernel, rfl, by decide +kernel, by decide +kernel⟩
theorem ok_lplus (D : Df K mg "_law_plus" sLPlus n2L) (HM : Has P w K mg base "_law_made" ["_law_top", "_law_low"] 1 (spX (dLMade K))) : Has P w K mg base "_law_plus" n2L 2 (spX (dLPlus K)) :=
  ok_twoL sc_lplus D fun fa cdv A outer s H u v E p q R hr hp hu hv k => by
    obtain ⟨bp, bq⟩ := hp
    refine ⟨_, pss_one (ps_ret (pe_c HM hr (by rfl) (pa_cons (pe_op op_add (pe_op op_mulW (pe_ix ix_tup (pv 0) pe_int (fun _ _ => rfl)) (pe_ix ix_tup (pv 1) pe_int (fun _ _ => rfl))) (pe_op op_mulW (pe_ix ix_tup (pv 1) pe_int (fun _ _ => rfl)) (pe_ix ix_tup (pv 0) pe_int (fun _ _ => rfl))))
      (pa_cons (pe_op op_mulW (pe_ix ix_tup (pv 0) pe_int (fun _ _ => rfl)) (pe_ix ix_tup (pv 1) pe_int (fun _ _ => rfl))) pa_nil)))), ?_⟩
    have a : G (tVar 0) (start n2L [u, v]) H (RtM K p) := g_var rfl hu
    have b : G (tVar 1) (start n2L [u, v]) H (RtM K q) := g_var rfl hv
    have a0 := g_ixT (i := 0) 0 a rfl
    have a1 := g_ixT (i := 1) 1 a rfl
    have b0 := g_ixT (i := 0) 0 b rfl
    have b1 := g_ixT (i := 1) 1 b rfl
    have m1 := g_mulW a0 b1 bp.1 bq.d (by decide) (by decide) (by decide)
    have m2 := g_mulW b0 a1 bq.1 bp.d (by decide) (by decide) (by decide)
    have m3 := g_mulW a1 b1 bp.d bq.d (by decide) (by decide) (by decide)
    refine s_retG (g_call (P := RtM K (p + q)) (ga_cons (g_I0 m1 m2) (ga_cons m3 ga_nil)) ⟨_, _, dd_ne p q, lt_pow_of (abs_mul_lt bp.d bq.d) (by decide), rfl, by rw [plus_eq]⟩) fun z H1 e1 hz => k z H1 e1 hz
theorem sc_lminus : FnScope n2L n2L (defScope sLMinus) := ⟨rfl, rfl, rfl, by decide +kernel, rfl, by decide +kernel, by decide +kernel⟩
theorem ok_lminus (D : Df K mg "_law_minus" sLMinus n2L) (HM : Has P w K mg base "_law_made" ["_law_top", "_law_low"] 1 (spX (dLMade K))) : Has P w K mg base "_law_minus" n2L 2 (spX (dLMinus K)) :=
  ok_twoL sc_lminus D fun fa cdv A outer s H u v E p q R hr hp hu hv k => by
    obtain ⟨bp, bq⟩ := hp
    refine ⟨_, pss_one (ps_ret (pe_c HM hr (by rfl) (pa_cons (pe_op op_sub (pe_op op_mulW (pe_ix ix_tup (pv 0) pe_int (fun _ _ => rfl)) (pe_ix ix_tup (pv 1) pe_int (fun _ _ => rfl))) (pe_op op_mulW (pe_ix ix_tup (pv 1) pe_int (fun _ _ => rfl)) (pe_ix ix_tup (pv 0) pe_int (fun _ _ => rfl))))
      (pa_cons (pe_op op_mulW (pe_ix ix_tup (pv 0) pe_int (fun _ _ => rfl)) (pe_ix ix_tup (pv 1) pe_int (fun _ _ => rfl))) pa_nil)))), ?_⟩
    have a : G (tVar 0) (start n2L [u, v]) H (RtM K p) := g_var rfl hu
    have b : G (tVar 1) (start n2L [u, v]) H (RtM K q) := g_var rfl hv
    have a0 := g_ixT (i := 0) 0 a rfl
    have a1 := g_ixT (i := 1) 1 a rfl
    have b0 := g_ixT (i := 0) 0 b rfl
    have b1 := g_ixT (i := 1) 1 b rfl
    have m1 := g_mulW a0 b1 bp.1 bq.d (by decide) (by decide) (by decide)
    have m2 := g_mulW b0 a1 bq.1 bp.d (by decide) (by decide) (by decide)
    have m3 := g_mulW a1 b1 bp.d bq.d (by decide) (by decide) (by decide)
    refine s_retG (g_call (P := RtM K (p - q)) (ga_cons (g_I0 m1 m2) (ga_cons m3 ga_nil)) ⟨_, _, dd_ne p q, lt_pow_of (abs_mul_lt bp.d bq.d) (by decide), rfl, by rw [less_eq]⟩) fun z H1 e1 hz => k z H1 e1 hz
theorem sc_ltimes : FnScope n2L n2L (defScope sLTimes) := ⟨rfl, rfl, rfl, by decide +kernel, rfl, by decide +kernel, by decide +kernel⟩
theorem ok_ltimes (D : Df K mg "_law_times" sLTimes n2L) (HM : Has P w K mg base "_law_made" ["_law_top", "_law_low"] 1 (spX (dLMade K))) : Has P w K mg base "_law_times" n2L 2 (spX (dLTimes K)) :=
  ok_twoL sc_ltimes D fun fa cdv A outer s H u v E p q R hr hp hu hv k => by
    obtain ⟨bp, bq⟩ := hp
    refine ⟨_, pss_one (ps_ret (pe_c HM hr (by rfl) (pa_cons (pe_op op_mulW (pe_ix ix_tup (pv 0) pe_int (fun _ _ => rfl)) (pe_ix ix_tup (pv 1) pe_int (fun _ _ => rfl)))
      (pa_cons (pe_op op_mulW (pe_ix ix_tup (pv 0) pe_int (fun _ _ => rfl)) (pe_ix ix_tup (pv 1) pe_int (fun _ _ => rfl))) pa_nil)))), ?_⟩
    have a : G (tVar 0) (start n2L [u, v]) H (RtM K p) := g_var rfl hu
    have b : G (tVar 1) (start n2L [u, v]) H (RtM K q) := g_var rfl hv
    have m1 := g_mulW (g_ixT (i := 0) 0 a rfl) (g_ixT (i := 0) 0 b rfl) bp.1 bq.1 (by decide) (by decide) (by decide)
    have m3 := g_mulW (g_ixT (i := 1) 1 a rfl) (g_ixT (i := 1) 1 b rfl) bp.d bq.d (by decide) (by decide) (by decide)
    refine s_retG (g_call (P := RtM K (p * q)) (ga_cons m1 (ga_cons m3 ga_nil)) ⟨_, _, dd_ne p q, lt_pow_of (abs_mul_lt bp.d bq.d) (by decide), rfl, by rw [times_eq]⟩) fun z H1 e1 hz => k z H1 e1 hz
theorem sc_lover : FnScope n2L n2L (defScope sLOver) := ⟨rfl, rfl, rfl, by decide +kernel, rfl, by decide +kernel, by decide +kernel⟩
theorem ok_lover (D : Df K mg "_law_over" sLOver n2L) (HM : Has P w K mg base "_law_made" ["_law_top", "_law_low"] 1 (spX (dLMade K))) : Has P w K mg base "_law_over" n2L 2 (spX (dLOver K)) :=
  ok_twoL sc_lover D fun fa cdv A outer s H u v E p q R hr hp hu hv k => by
    obtain ⟨⟨bp, bq⟩, h0⟩ := hp
    refine ⟨_, pss_one (ps_ret (pe_c HM hr (by rfl) (pa_cons (pe_op op_mulW (pe_ix ix_tup (pv 0) pe_int (fun _ _ => rfl)) (pe_ix ix_tup (pv 1) pe_int (fun _ _ => rfl)))
      (pa_cons (pe_op op_mulW (pe_ix ix_tup (pv 0) pe_int (fun _ _ => rfl)) (pe_ix ix_tup (pv 1) pe_int (fun _ _ => rfl))) pa_nil)))), ?_⟩
    have a : G (tVar 0) (start n2L [u, v]) H (RtM K p) := g_var rfl hu
    have b : G (tVar 1) (start n2L [u, v]) H (RtM K q) := g_var rfl hv
    have m1 := g_mulW (g_ixT (i := 0) 0 a rfl) (g_ixT (i := 1) 1 b rfl) bp.n bq.d (by decide) (by decide) (by decide)
    have m3 := g_mulW (g_ixT (i := 1) 1 a rfl) (g_ixT (i := 0) 0 b rfl) bp.d bq.n (by decide) (by decide) (by decide)
    refine s_retG (g_call (P := RtM K (p / q)) (ga_cons m1 (ga_cons m3 ga_nil)) ⟨_, _, dn_ne p h0, lt_pow_of (abs_mul_lt bp.d bq.n) (by decide), rfl, by rw [over_eq]⟩) fun z H1 e1 hz => k z H1 e1 hz
section
variable {σ : L2.St} {H : Hp} {ta tb tc : TE} {p q r : Rat} {E : XK}
theorem g_lplus {a b c d : Nat} (ha : G ta σ H (RtM K p)) (hb : G tb σ H (RtM K q)) (h1 : LB a b p) (h2 : LB c d q) (k1 : a ≤ 100000 := by decide) (k2 : b ≤ 2000 := by decide) (k3 : c ≤ 100000 := by decide) (k4 : d ≤ 2000 := by decide) : G (tCall (spX (dLPlus K)) [] E (tCons ta (tCons tb tNil))) σ H (RtM K (p + q)) := g_c2 ha hb ⟨h1.mono k1 k2, h2.mono k3 k4⟩
theorem g_lminus {a b c d : Nat} (ha : G ta σ H (RtM K p)) (hb : G tb σ H (RtM K q)) (h1 : LB a b p) (h2 : LB c d q) (k1 : a ≤ 100000 := by decide) (k2 : b ≤ 2000 := by decide) (k3 : c ≤ 100000 := by decide) (k4 : d ≤ 2000 := by decide) : G (tCall (spX (dLMinus K)) [] E (tCons ta (tCons tb tNil))) σ H (RtM K (p - q)) := g_c2 ha hb ⟨h1.mono k1 k2, h2.mono k3 k4⟩
theorem g_ltimes {a b c d : Nat} (ha : G ta σ H (RtM K p)) (hb : G tb σ H (RtM K q)) (h1 : LB a b p) (h2 : LB c d q) (k1 : a ≤ 100000 := by decide) (k2 : b ≤ 2000 := by decide) (k3 : c ≤ 100000 := by decide) (k4 : d ≤ 2000 := by decide) : G (tCall (spX (dLTimes K)) [] E (tCons ta (tCons tb tNil))) σ H (RtM K (p * q)) := g_c2 ha hb ⟨h1.mono k1 k2, h2.mono k3 k4⟩
theorem g_lover {b c : Nat} (ha : G ta σ H (RtM K p)) (hb : G tb σ H (RtM K q)) (h1 : Bd b p) (h2 : Bd c q) (h0 : q ≠ 0) (hb1 : b ≤ 2000 := by decide) (hc1 : c ≤ 2000 := by decide) : G (tCall (spX (dLOver K)) [] E (tCons ta (tCons tb tNil))) σ H (RtM K (p / q)) := g_c2 ha hb ⟨⟨h1.mono hb1, h2.mono hc1⟩, h0⟩
/-- (i, 1) -/
theorem g_over1 {i : Int} {t : TE} (h : G t σ H (IM i)) : G (tTup (tCons t (tCons (tC (.int 1)) tNil))) σ H (RtM K (i : Rat)) := g_tup (K := K) (ps := [IM i, IM 1]) (ga_cons h (ga_cons g_int ga_nil))
theorem g_zero : G (tTup (tCons (tC (.int 0)) (tCons (tC (.int 1)) tNil))) σ H (RtM K 0) := g_over1 (i := 0) g_int
theorem g_one : G (tTup (tCons (tC (.int 1)) (tCons (tC (.int 1)) tNil))) σ H (RtM K 1) := g_over1 (i := 1) g_int
end
/-! _law_middle -/
abbrev n3L : List Str := ["_law_one", "_law_other", "_law_part"]
abbrev dLMiddle (K : PySem.W.Frag) := d3 K (fun p q r => Bd 300 p ∧ Bd 300 q ∧ Bd 300 r) btw
theorem sc_lmiddle : FnScope n3L n3L (defScope sLMiddle) := ⟨rfl, rfl, rfl, by decide +kernel, rfl, by decide +kernel, by decide +kernel⟩
theorem ok_lmiddle (D : Df K mg "_law_middle" sLMiddle n3L) (HP : Has P w K mg base "_law_plus" n2L 2 (spX (dLPlus K))) (HL : Has P w K mg base "_law_minus" n2L 2 (spX (dLMinus K)))
    (HT : Has P w K mg base "_law_times" n2L 2 (spX (dLTimes K))) : Has P w K mg base "_law_middle" n3L 3 (spX (dLMiddle K)) := D.has fun f fd F => by
  refine F.ok sc_lmiddle (sp_len fun ps P ⟨_, _, _, _, e, _⟩ => by rw [e]; rfl) (fun cdv A outer s H vs Q E hr h => ?_)
  obtain ⟨ps, R, ⟨p, q, r, ⟨bp, bq, br⟩, rfl, rfl⟩, hv, k⟩ := h
  obtain ⟨x, y, z, rfl, hx, hy, hz⟩ := all3 hv
  refine ⟨_, pss_one (ps_ret (pe_c HP hr (by rfl) (pa_cons (pv 0) (pa_cons (pe_c HT hr (by rfl) (pa_cons (pv 2) (pa_cons (pe_c HL hr (by rfl) (pa_cons (pv 1) (pa_cons (pv 0) pa_nil))) pa_nil))) pa_nil)))), ?_⟩
  refine s_retG (g_lplus (g_var rfl hx) (g_ltimes (g_var rfl hz) (g_lminus (g_var rfl hy) (g_var rfl hx) bq.lb bp.lb) br.lb (bq.sub bp).lb) bp.lb (br.mul (bq.sub bp)).lb) fun v H1 e1 hv => k v H1 e1 hv
/-! _law_sum -/
abbrev nSum : List Str := ["_law_some", "_law_found", "_law_one"]
def spSum (K : PySem.W.Frag) : Sp := fun vs H Q _ => ∃ (v : List Rat) (x : V), v.length ≤ 6 ∧ (∀ q ∈ v, LB 9000 40 q) ∧ vs = [x] ∧ Held true K (v.map (RtM K)) x H ∧ ∀ u H', Same H H' → (RtM K (v.foldl (· + ·) 0)).p u H' → Q u H'
theorem sum_lb {v : List Rat} (h : ∀ q ∈ v, LB 9000 40 q) (h6 : v.length ≤ 6) : ∀ i, i ≤ v.length → LB (10000 + 1000 * i) (40 * i + 1) ((v.take i).foldl (· + ·) 0)
  | 0, _ => ⟨by show 0 < 2 ^ _; exact Nat.two_pow_pos _, by show (1 : Nat) < 2 ^ (40 * 0 + 1); decide⟩
  | i + 1, hi => by
    have ih := sum_lb h h6 i (by omega)
    have e : v[i]? = some v[i] := List.getElem?_eq_getElem (by omega)
    rw [List.take_add_one, e, List.foldl_append]
    have b := h v[i] (List.getElem_mem _)
    exact (LB.add (e := 10000 + 1000 * i + 40 * i + 41) ih b (by omega) (by omega)).mono (by omega) (by omega)
theorem sc_sum : FnScope nSum ["_law_some"] (defScope sLSum) := ⟨rfl, rfl, rfl, by decide +kernel, rfl, by decide +kernel, by decide +kernel⟩
theorem ok_sum (D : Df K mg "_law_sum" sLSum ["_law_some"]) (HP : Has P w K mg base "_law_plus" n2L 2 (spX (dLPlus K))) : Has P w K mg base "_law_sum" ["_law_some"] 3 (spSum K) := D.has fun f fd F => by
  refine F.ok sc_sum (fun vs H Q E ⟨_, _, _, _, e, _⟩ => by rw [e]; rfl) (fun cdv A outer s H vs Q E hr h => ?_)
  obtain ⟨v, x, hl6, hbd, rfl, hx, k⟩ := h
  refine ⟨_, pss_cons (ps_set (i := 1) sc_sum.nd rfl (.inl rfl) (pe_tup (pa_cons pe_int (pa_cons pe_int pa_nil))))
    (pss_cons (ps_for PassesOwn.never rfl (pi_list (pv 0)) (pg_name (i := 2) sc_sum.nd rfl (.inl rfl)) (pss_one (ps_set (i := 1) sc_sum.nd rfl (.inl rfl) (pe_c HP hr (by rfl) (pa_cons (pv 1) (pa_cons (pv 2) pa_nil))))))
    (pss_one (ps_ret (pv 1)))), ?_⟩
  refine s_set (P := RtM K 0) g_zero fun z H1 e1 hz => ?_
  obtain ⟨na, xs, rfl, hs0, hxs0⟩ := hx
  have hs1 : SqL K H1 na xs := e1.seq hs0
  have hxs1 := hxs0.mono (.same e1)
  refine tseq ?_
  refine s_for (ws := []) (srck_list (g_vE rfl) hs1 hxs1 LsAt.nil (by simp)) (fun i σ H2 => ∃ (f : V) (o : Option V), σ = [some (.ref na), some f, o] ∧ (RtM K ((v.take i).foldl (· + ·) 0)).p f H2)
    (fun H2 e2 => ⟨z, none, rfl, MP.mono _ _ _ _ (.same e2) hz⟩) (fun Hb i z σ H3 H4 P' hb hP k3 hp e4 hz => ?_) fun σ H2 k2 hp => ?_
  · obtain ⟨f, o, rfl, hf⟩ := hp
    obtain ⟨q, hq, rfl⟩ := map_get hP
    have hil : i < v.length := (List.getElem?_eq_some_iff.mp hq).1
    have bq := hbd q (List.mem_of_getElem? hq)
    have bs := (sum_lb hbd hl6 i (by omega)).mono (c := 100000) (d := 2000) (by omega) (by omega)
    have et : (v.take (i + 1)).foldl (· + ·) 0 = (v.take i).foldl (· + ·) 0 + q := by rw [List.take_add_one, hq, List.foldl_append]; rfl
    refine s_set (P := RtM K ((v.take (i + 1)).foldl (· + ·) 0)) (g_eq (g_lplus (g_var (i := 1) rfl (MP.mono _ _ _ _ (.same e4) hf)) (g_var (i := 2) rfl hz) bs bq) (by rw [et])) fun u H5 e5 hu => ⟨k3.trans (.same (e4.trans e5)), u, some z, rfl, hu⟩
  · obtain ⟨f, o, rfl, hf⟩ := hp
    rw [List.length_map, List.take_length] at hf
    exact s_retG (g_var (i := 1) rfl hf) fun u H3 e3 hu => k u H3 ((e1.trans k2.nil).trans e3) hu
/-! _law_draw -/
def SmallQ (q : Rat) : Prop := (∃ X : Int, X.natAbs ≤ 72 ∧ q = Rat.divInt X 12) ∧ Bd 3 q
abbrev nDraw : List Str := ["_law_row", "_law_low"]
def drawR (K : PySem.W.Frag) : V → Hp → Prop := fun v H => ∃ q : Rat, SmallQ q ∧ (RtM K q).p v H
theorem sc_draw : FnScope nDraw ["_law_row"] (defScope sLDraw) := ⟨rfl, rfl, rfl, by decide +kernel, rfl, by decide +kernel, by decide +kernel⟩
theorem ok_draw (D : Df K mg "_law_draw" sLDraw ["_law_row"]) (HT : Has P w K mg base "_law_taken" ["_law_row", "_law_many"] 1 (spTaken K)) (HK : Has P w K mg base "_law_pick" ["_law_row", "_law_things"] 2 (spPick K))
    (HM : Has P w K mg base "_law_made" ["_law_top", "_law_low"] 1 (spX (dLMade K))) : Has P w K mg base "_law_draw" ["_law_row"] 3 (spR K (drawR K)) := D.has fun f fd F => by
  refine F.ok sc_draw (fun vs H Q E ⟨_, _, e, _⟩ => by rw [e]; rfl) (fun cdv A outer s H vs Q E hr h => ?_)
  obtain ⟨a, sc, rfl, hrow, kq⟩ := h
  have hr2 : Room 2 _ := hr.mono (by decide)
  refine ⟨_, pss_cons (ps_set (i := 1) sc_draw.nd rfl (.inl rfl) (pe_c HK hr2 (by rfl) (pa_cons (pv 0) (pa_cons (pe_lst (pa_cons pe_int (pa_cons pe_int (pa_cons pe_int (pa_cons pe_int (pa_cons pe_int pa_nil)))))) pa_nil))))
    (pss_one (ps_ret (pe_c HM (hr.mono (by decide)) (by rfl) (pa_cons (pe_op op_sub (pe_c HT (hr.mono (by decide)) (by rfl) (pa_cons (pv 0) (pa_cons pe_int pa_nil))) pe_int) (pa_cons (pv 1) pa_nil))))), ?_⟩
  have ha := hrow
  obtain ⟨ns, i, j, k0, e, _⟩ := ha
  refine ⟨.ref a, rfl, by show 5 ≤ sizeLine; decide, fun l hl => ?_⟩
  have hla : l ≠ a := (ne_of_none e hl).symm
  have row1 := hrow.same (same_new (o := .lst [.int 1, .int 1, .int 2, .int 3, .int 4]) hl)
  refine ⟨a, sc, l, _, rfl, hla, upd_same, by simp, by simp, row1, fun v H1 hv k1 r1 => ?_⟩
  obtain ⟨low, rfl, hlow⟩ : ∃ low : Int, v = .int low ∧ (low = 1 ∨ low = 2 ∨ low = 3 ∨ low = 4) := by
    simp only [List.mem_cons, List.not_mem_nil, or_false] at hv
    rcases hv with rfl | rfl | rfl | rfl | rfl
    · exact ⟨1, rfl, by simp⟩
    · exact ⟨1, rfl, by simp⟩
    · exact ⟨2, rfl, by simp⟩
    · exact ⟨3, rfl, by simp⟩
    · exact ⟨4, rfl, by simp⟩
  refine gm_taken (m := 13) (a := a) rfl (by decide) (by decide) H1 r1 _ fun v H2 ⟨r, r0, r13, hv⟩ k2 r2 => ?_
  subst hv
  refine ⟨r, 6, rfl, rfl, ⟨.int low, rfl, [IM (r - 6), IM low], RtM K (Rat.divInt (r - 6) low), ⟨r - 6, low, by omega, lt_pow_of (a := 3) (by omega) (by decide), rfl, rfl⟩, ⟨rfl, rfl, trivial⟩, fun v H3 e3 hv => ?_⟩⟩
  refine kq v H3 ⟨_, ?_, hv⟩ (((Kp.same (same_new hl)).trans (k1.trans k2)).trans (.same e3)) (r2.same e3)
  have hr6 : (r - 6).natAbs ≤ 6 := by omega
  refine ⟨?_, bd_divInt (by omega) (by omega) (by omega)⟩
  rcases hlow with rfl | rfl | rfl | rfl
  · exact ⟨(r - 6) * 12, by omega, by rw [Rat.divInt_eq_divInt_iff (by decide) (by decide)]; omega⟩
  · exact ⟨(r - 6) * 6, by omega, by rw [Rat.divInt_eq_divInt_iff (by decide) (by decide)]; omega⟩
  · exact ⟨(r - 6) * 4, by omega, by rw [Rat.divInt_eq_divInt_iff (by decide) (by decide)]; omega⟩
  · exact ⟨(r - 6) * 3, by omega, by rw [Rat.divInt_eq_divInt_iff (by decide) (by decide)]; omega⟩
/-! _law_point -/
def SmallP (p : Pt) : Prop := SmallQ p.1 ∧ SmallQ p.2
def pointR (K : PySem.W.Frag) : V → Hp → Prop := fun v H => ∃ p : Pt, SmallP p ∧ (PtM K p).p v H
theorem sc_lpoint : FnScope ["_law_row"] ["_law_row"] (defScope sLPoint) := ⟨rfl, rfl, rfl, by decide +kernel, rfl, by decide +kernel, by decide +kernel⟩
theorem ok_lpoint (D : Df K mg "_law_point" sLPoint ["_law_row"]) (HD : Has P w K mg base "_law_draw" ["_law_row"] 3 (spR K (drawR K))) : Has P w K mg base "_law_point" ["_law_row"] 4 (spR K (pointR K)) := D.has fun f fd F => by
  refine F.ok sc_lpoint (fun vs H Q E ⟨_, _, e, _⟩ => by rw [e]; rfl) (fun cdv A outer s H vs Q E hr h => ?_)
  obtain ⟨a, sc, rfl, hrow, kq⟩ := h
  refine ⟨_, pss_one (ps_ret (pe_tup (pa_cons (pe_c HD hr (by rfl) (pa_cons (pv 0) pa_nil)) (pa_cons (pe_c HD hr (by rfl) (pa_cons (pv 0) pa_nil)) pa_nil)))), ?_⟩
  refine gm_call (a := a) rfl H hrow _ fun x H1 ⟨p, sp, hp⟩ k1 r1 => ?_
  refine gm_call (a := a) rfl H1 r1 _ fun y H2 ⟨q, sq, hq⟩ k2 r2 => ?_
  have hp2 := MP.mono _ _ _ _ (k2.tk r1.ls) hp
  refine ⟨by show 2 ≤ sizeLine; decide, fun l hl => ?_⟩
  have s3 := same_new (o := .tup [x, y]) hl
  exact kq _ _ ⟨(p, q), ⟨sp, sq⟩, l, [x, y], rfl, SqT.of upd_same, MP.mono _ _ _ _ (.same s3) hp2, MP.mono _ _ _ _ (.same s3) hq, trivial⟩ ((k1.trans k2).trans (.same s3)) (r2.same s3)
end
end K54
namespace K54
open PySem PySem.Spec PyProof.Rows L2
theorem RowP.new {K : PySem.W.Frag} {a sc D : Addr} {H : Hp} {o : HO} (h : RowP K a sc H) (n1 : a ≠ D) (n2 : sc ≠ D) : RowP K a sc (upd H D o) := by
  obtain ⟨ns, i, j, k, e, h1, h2, h3⟩ := h
  refine ⟨ns, i, j, k, by rw [upd_ne n1]; exact e, h1, h2, ?_⟩
  rcases h3 with ⟨n, h⟩ | h
  · refine .inl ⟨n, ?_⟩
    rcases h with h | ⟨o, h⟩
    · exact .inl (by rw [upd_ne n2]; exact h)
    · exact .inr ⟨o, by rw [upd_ne n2]; exact h⟩
  · exact .inr h
/-- a new address is not the script's, where the script stands in the heap -/
theorem RowP.fresh {K : PySem.W.Frag} {a sc D : Addr} {H : Hp} (h : RowP K a sc H) (nD : H D = none) : a ≠ D ∧ (sc ≠ D ∨ ∃ ns : List Int, ns.length ≤ 63 ∧ ∀ H' : Hp, SqL K H' sc (ns.map V.int)) := by
  obtain ⟨ns, i, j, k, e, h1, h2, h3⟩ := h
  refine ⟨ne_of_none e nD, ?_⟩
  rcases h3 with ⟨n, h⟩ | h
  · refine .inl ?_
    rcases h with h | ⟨o, h⟩
    · exact ne_of_none h nD
    · exact ne_of_none h nD
  · exact .inr ⟨ns, h1, h⟩
theorem s_ret1 {r : List V → Hp → VK → Prop} {te : TE} {D : Ends} {σ : L2.St} {H : Hp} (h : te σ H fun v H2 => r [v] H2 D.rt) : tRet (tCB r (tCons te tNil)) D σ H := h
theorem gm_lc {K : PySem.W.Frag} {a sc : Addr} {σ : L2.St} {i n : Nat} {vs : List Nat} {te : TE} (hn : n ≤ 1000) (good : MP → Prop) (hw : ∀ x, wipe ((wipe σ vs).set i (some x)) vs = wipe σ vs)
    (turn : ∀ x, GM K a sc te ((wipe σ vs).set i (some x)) (fun v H => ∃ P : MP, good P ∧ P.p v H)) (H : Hp) (hr : RowP K a sc H) (Q : VK)
    (q : ∀ p xs ps H', H p = none → p ≠ a → H' p = some (.lst xs) → ps.length = n → (∀ P ∈ ps, good P) → AllP ps xs H' → Kp [a] H H' → RowP K a sc H' → Q (.ref p) H') : tLc (iRng1 (tCons (tC (.int (n : Int))) tNil)) (gName i) tYes te vs σ H Q := by
  refine ⟨(n : Int), rfl, by omega, by omega, fun D nD => ?_⟩
  rw [Int.toNat_natCast]
  obtain ⟨nDa, nDs⟩ := hr.fresh nD
  have rowU : ∀ {H' : Hp} {o : HO}, RowP K a sc H' → RowP K a sc (upd H' D o) := fun {H' o} r => by
    rcases nDs with z | ⟨ns, hns, hall⟩
    · exact r.new nDa z
    · obtain ⟨ns', i, j, k, e, h1, h2, h3⟩ := r
      exact ⟨ns, i, j, k, by rw [upd_ne nDa]; exact e, hns, h2, .inr hall⟩
  refine lc_range (fun m H3 => Kp [a] H H3 ∧ RowP K a sc H3 ∧ ∃ acc ps, H3 D = some (.lst acc) ∧ ps.length = m ∧ (∀ P ∈ ps, good P) ∧ AllP ps acc H3) ⟨.same (same_new nD), hr.same (same_new nD), [], [], upd_same, rfl, fun _ h => (nomatch h), trivial⟩ (fun m H3 hm hp => ?_) fun H3 hp => ?_
  · obtain ⟨k3, r3, acc, ps, hacc, hps, hgood, hall⟩ := hp
    refine ⟨hw _, ?_⟩
    unfold tYes
    dsimp only
    rw [if_pos (rfl : true = true)]
    refine turn _ H3 r3 _ fun v H4 ⟨P, gP, hP⟩ k4 r4 => ?_
    have hD4 : H4 D = some (.lst acc) := k4 _ _ hacc (by simpa using nDa.symm)
    have hl := hall.length
    refine ⟨acc, hD4, Evl.sz_lt (by omega), ?_, rowU r4, acc ++ [v], ps ++ [P], upd_same, by simp [hps], fun P' hP' => ?_, (AllP.snoc hP (hall.mono (k4.tk r3.ls))).mono (TKp.set hD4)⟩
    · intro b o e n
      have : b ≠ D := ne_of_none e nD
      rw [upd_ne this]
      exact (k3.trans k4) b o e n
    · rcases List.mem_append.mp hP' with z | z
      · exact hgood _ z
      · rw [List.mem_singleton.mp z]; exact gP
  · obtain ⟨k3, r3, acc, ps, hacc, hps, hgood, hall⟩ := hp
    exact q D acc ps H3 nD nDa.symm hacc hps hgood hall k3 r3
section
variable {P : Program} {w : World} {K : PySem.W.Frag} {mg : Str → Option Value} {base : Heap}
/-! _law_weights -/
def SmallW (q : Rat) : Prop := ∃ W : Int, 1 ≤ W ∧ W ≤ 30 ∧ q = Rat.divInt W 6
theorem SmallW.bd {q : Rat} (h : SmallW q) : Bd 5 q := by
  obtain ⟨X, h1, h2, rfl⟩ := h
  exact bd_divInt (by decide) (by omega) (by decide)
theorem SmallW.pos {q : Rat} (h : SmallW q) : 0 < q.num := by
  obtain ⟨X, h1, h2, rfl⟩ := h
  have key : ∀ n : Nat, n < 31 → 1 ≤ n → 0 < (Rat.divInt (n : Int) 6).num := by decide +kernel
  have := key X.toNat (by omega) (by omega)
  rwa [Int.toNat_of_nonneg (by omega)] at this
def weightsR (K : PySem.W.Frag) : V → Hp → Prop := fun v H => ∃ x y z : Rat, SmallW x ∧ SmallW y ∧ SmallW z ∧ (Tp K [RtM K x, RtM K y, RtM K z]).p v H
abbrev nWts : List Str := ["_law_row", "_law_at"]
theorem sc_weights : FnScope nWts ["_law_row"] (defScope sLWeights) := ⟨rfl, rfl, rfl, by decide +kernel, rfl, by decide +kernel, by decide +kernel⟩
theorem ok_weights (D : Df K mg "_law_weights" sLWeights ["_law_row"]) (T : Txt K mg) (HT : Has P w K mg base "_law_taken" ["_law_row", "_law_many"] 1 (spTaken K))
    (HM : Has P w K mg base "_law_made" ["_law_top", "_law_low"] 1 (spX (dLMade K))) : Has P w K mg base "_law_weights" ["_law_row"] 2 (spR K (weightsR K)) := D.has fun f fd F => by
  refine F.ok sc_weights (fun vs H Q E ⟨_, _, e, _⟩ => by rw [e]; rfl) (fun cdv A outer s H vs Q E hr h => ?_)
  obtain ⟨a, sc, rfl, hrow, kq⟩ := h
  have nd := sc_weights.nd
  refine ⟨_, pss_one (ps_ret (pe_callTy call_tuple_of (by rfl) T.tuple PyProof.Rows.boot_tuple (pa_cons (pe_lc (own := [("_law_at", 1)]) (g := gName 1) (tt := tYes) rfl nd (pi_range1 (by rfl) T.range (pa_cons pe_int pa_nil)) (blkOk_by (N := nWts) (sc := defScope sLWeights) (by decide +kernel))
      (fun _ _ _ _ _ => pg_name (i := 1) nd rfl (Or.inl rfl)) (fun _ _ _ _ _ => pts_nil) (fun _ _ _ _ _ => pe_c HM hr (by rfl) (pa_cons (pe_op op_add pe_int (pe_c HT hr (by rfl) (pa_cons (pv 0) (pa_cons pe_int pa_nil)))) (pa_cons (pe_op op_add pe_int (pe_c HT hr (by rfl) (pa_cons (pv 0) (pa_cons pe_int pa_nil)))) pa_nil)))) pa_nil))), ?_⟩
  refine s_ret1 ?_
  refine gm_lc (σ := start nWts [.ref a]) (i := 1) (vs := [1]) (n := 3) (a := a) (sc := sc) (by decide) (fun P => ∃ q : Rat, SmallW q ∧ P = RtM K q) (fun x => rfl) (fun x H hr Q q => ?_) H hrow _ fun p xs ps H1 np npa hp hl hg hx k1 r1 => ?_
  · refine gm_taken (a := a) (m := 5) rfl (by decide) (by decide) H hr _ fun v H1 ⟨r5, r50, r51, hv⟩ k1 r1 => ?_
    subst hv
    refine ⟨1, r5, rfl, rfl, ?_⟩
    refine gm_taken (a := a) (m := 3) rfl (by decide) (by decide) H1 r1 _ fun v H2 ⟨r3, r30, r31, hv⟩ k2 r2 => ?_
    subst hv
    refine ⟨1, r3, rfl, rfl, [IM (1 + r5), IM (1 + r3)], RtM K (Rat.divInt (1 + r5) (1 + r3)), ⟨1 + r5, 1 + r3, by omega, lt_pow_of (a := 3) (by omega) (by decide), rfl, rfl⟩, ⟨rfl, rfl, trivial⟩, fun v H3 e3 hv => ?_⟩
    refine q v H3 ⟨_, ⟨_, ?_, rfl⟩, hv⟩ ((k1.trans k2).trans (.same e3)) (r2.same e3)
    have h3 : r3 = 0 ∨ r3 = 1 ∨ r3 = 2 := by omega
    rcases h3 with rfl | rfl | rfl
    · exact ⟨(1 + r5) * 6, by omega, by omega, by rw [Rat.divInt_eq_divInt_iff (by decide) (by decide)]; omega⟩
    · exact ⟨(1 + r5) * 3, by omega, by omega, by rw [Rat.divInt_eq_divInt_iff (by decide) (by decide)]; omega⟩
    · exact ⟨(1 + r5) * 2, by omega, by omega, by rw [Rat.divInt_eq_divInt_iff (by decide) (by decide)]; omega⟩
  · match ps, hl, hg, hx with
    | [p1, p2, p3], hl, hg, hx =>
      obtain ⟨x, sx, rfl⟩ := hg p1 (by simp)
      obtain ⟨y, sy, rfl⟩ := hg p2 (by simp)
      obtain ⟨z, sz, rfl⟩ := hg p3 (by simp)
      refine ⟨p, xs, rfl, .inl ⟨SqL.of hp, fun l hl2 => ?_⟩⟩
      have s2 := same_new (o := .tup xs) hl2
      exact kq _ _ ⟨x, y, z, sx, sy, sz, l, xs, rfl, SqT.of upd_same, hx.mono (.same s2)⟩ (k1.trans (.same s2)) (r1.same s2)
/-! _law_left_side -/
def leftQ (w : List Int) (p : Pt) : Rat := (List.zipWith (fun (z : Int) (t : Rat) => (z : Rat) * t) w (terms p)).foldl (· + ·) 0
theorem g_sum {σ : L2.St} {H : Hp} {te : TE} {E : XK} {v : List Rat} (h : GL te σ H (v.map (RtM K))) (h6 : v.length ≤ 6) (hb : ∀ q ∈ v, LB 9000 40 q) : G (tCall (spSum K) [] E (tCons te tNil)) σ H (RtM K (v.foldl (· + ·) 0)) := fun H1 e Q q =>
  h H1 e _ fun p xs H2 _ e2 hp hx => ⟨v, .ref p, h6, hb, rfl, ⟨p, xs, rfl, SqL.of hp, hx⟩, fun u H3 e3 hu => q u H3 (e2.trans e3) hu⟩
abbrev nLeft : List Str := ["_law_numbers", "_law_point_here", "_law_x", "_law_y", "_law_terms", "_law_number", "_law_term"]
def dLeft (K : PySem.W.Frag) : List MP → MP → Prop := fun ps R => ∃ (w : List Int) (p : Pt), w.length = 6 ∧ (∀ z ∈ w, z.natAbs < 2 ^ 8500) ∧ Bd 16 p.1 ∧ Bd 16 p.2 ∧ ps = [NsM K w, PtM K p] ∧ R = RtM K (leftQ w p)
theorem sc_left : FnScope nLeft ["_law_numbers", "_law_point_here"] (defScope sLLeft) := ⟨rfl, rfl, rfl, by decide +kernel, rfl, by decide +kernel, by decide +kernel⟩
theorem ok_left (D : Df K mg "_law_left_side" sLLeft ["_law_numbers", "_law_point_here"]) (T : Txt K mg) (HT : Has P w K mg base "_law_times" n2L 2 (spX (dLTimes K))) (HS : Has P w K mg base "_law_sum" ["_law_some"] 3 (spSum K)) :
    Has P w K mg base "_law_left_side" ["_law_numbers", "_law_point_here"] 4 (spX (dLeft K)) := D.has fun f fd F => by
  refine F.ok sc_left (sp_len fun ps P ⟨_, _, _, _, _, _, e, _⟩ => by rw [e]; rfl) (fun cdv A outer s H vs Q E hr h => ?_)
  obtain ⟨ps, R, ⟨w, p, hl6, hwb, bx, by', rfl, rfl⟩, hv, k⟩ := h
  obtain ⟨x0, x1, rfl, hx0, hx1⟩ := all2 hv
  have nd := sc_left.nd
  have hr2 : Room 2 _ := hr.mono (by decide)
  refine ⟨_, pss_cons (ps_asg (pv 1) (pg_tup (by rfl) (pgs_cons (pg_name (i := 2) nd rfl (.inl rfl)) (pgs_cons (pg_name (i := 3) nd rfl (.inl rfl)) pgs_nil))))
    (pss_cons (ps_set (i := 4) nd rfl (.inl rfl) (pe_lst (pa_cons (pe_c HT hr2 (by rfl) (pa_cons (pv 2) (pa_cons (pv 2) pa_nil))) (pa_cons (pe_c HT hr2 (by rfl) (pa_cons (pv 2) (pa_cons (pv 3) pa_nil))) (pa_cons (pe_c HT hr2 (by rfl) (pa_cons (pv 3) (pa_cons (pv 3) pa_nil)))
        (pa_cons (pv 2) (pa_cons (pv 3) (pa_cons (pe_tup (pa_cons pe_int (pa_cons pe_int pa_nil))) pa_nil))))))))
    (pss_one (ps_ret (pe_c HS hr (by rfl) (pa_cons (pe_lc (own := [("_law_number", 5), ("_law_term", 6)]) (g := gTup K 2 (gCons (gName 5) (gCons (gName 6) gNil))) (tt := tYes) rfl nd (pi_zipX false true (by rfl) T.zip (pa_cons (pv 0) (pa_cons (pv 4) pa_nil)))
        (blkOk_by (N := nLeft) (sc := defScope sLLeft) (by decide +kernel)) (fun _ _ _ _ _ => pg_tup rfl (pgs_cons (pg_name (i := 5) nd rfl (Or.inl rfl)) (pgs_cons (pg_name (i := 6) nd rfl (Or.inl rfl)) pgs_nil))) (fun _ _ _ _ _ => pts_nil)
        (fun _ _ _ _ _ => pe_c HT hr2 (by rfl) (pa_cons (pe_tup (pa_cons (pv 5) (pa_cons pe_int pa_nil))) (pa_cons (pv 6) pa_nil)))) pa_nil))))), ?_⟩
  refine s_unp2 (g_var rfl hx1) fun a b H1 e1 ha hb => ?_
  have ga : G (tVar 2) [some x0, some x1, some a, some b, none, none, none] H1 (RtM K p.1) := g_var rfl ha
  have gb : G (tVar 3) [some x0, some x1, some a, some b, none, none, none] H1 (RtM K p.2) := g_var rfl hb
  have gL := gl_lst (ga_cons (g_ltimes (E := E0) ga ga bx.lb bx.lb) (ga_cons (g_ltimes (E := E0) ga gb bx.lb by'.lb) (ga_cons (g_ltimes (E := E0) gb gb by'.lb by'.lb) (ga_cons ga (ga_cons gb (ga_cons (g_one (K := K)) ga_nil))))))
  dsimp only
  refine tseq ?_
  refine s_setL (ps := (terms p).map (RtM K)) gL fun l ys H2 nl e2 hl hys => ?_
  have hx0' := MP.mono _ _ _ _ (.same (e1.trans e2)) hx0
  have tb : ∀ q ∈ terms p, LB 33 33 q := fun q hq => by
    unfold terms at hq
    simp only [List.mem_cons, List.not_mem_nil, or_false] at hq
    rcases hq with rfl | rfl | rfl | rfl | rfl | rfl
    · exact (bx.mul bx).lb.mono (by decide) (by decide)
    · exact (bx.mul by').lb.mono (by decide) (by decide)
    · exact (by'.mul by').lb.mono (by decide) (by decide)
    · exact bx.lb.mono (by decide) (by decide)
    · exact by'.lb.mono (by decide) (by decide)
    · exact bd_one.lb.mono (by decide) (by decide)
  have zb : ∀ z ∈ w, LB 8500 1 (z : Rat) := fun z hz => ⟨hwb z hz, by show (1 : Nat) < 2 ^ 1; decide⟩
  have tl : (terms p).length = 6 := rfl
  have gc : GL (tLc (iZipX false true K (tCons (tVar 0) (tCons (tVar 4) tNil))) (gTup K 2 (gCons (gName 5) (gCons (gName 6) gNil))) tYes (tCall (spX (dLTimes K)) [] E0 (tCons (tTup (tCons (tVar 5) (tCons (tC (.int 1)) tNil))) (tCons (tVar 6) tNil))) [5, 6])
      [some x0, some x1, some a, some b, some (.ref l), none, none] H2 ((List.zipWith (fun (z : Int) (t : Rat) => (z : Rat) * t) w (terms p)).map (RtM K)) := by
    refine gl_lc (src_zip (gh_T (g_var rfl hx0')) (gh_V (g_vE rfl) (SqL.of hl) hys) (by rw [List.length_map, List.length_map, hl6, tl])) (by unfold zipM; simp [hl6, tl]) (by unfold zipM; simp [hl6, tl]) fun i u H' P' Q' hP hQ e' hu => ?_
    obtain ⟨q, hq, rfl⟩ := map_get hQ
    unfold zipM at hP
    rw [List.getElem?_zipWith] at hP hq
    rw [List.getElem?_map, List.getElem?_map] at hP
    cases hz : w[i]? with
    | none => rw [hz] at hq; cases hq
    | some z =>
      cases ht : (terms p)[i]? with
      | none => rw [hz, ht] at hq; cases hq
      | some t =>
        rw [hz, ht] at hq hP
        have hq' : (z : Rat) * t = q := Option.some.inj hq
        have hP' : Tp K [IM z, RtM K t] = P' := Option.some.inj hP
        subst hq' hP'
        obtain ⟨T1, y1, y2, rfl, hs1, hy1, hy2⟩ := tp2 hu
        refine ⟨_, gg_tup2 hs1 gg_name gg_name, rfl, gt_yes, ?_⟩
        exact g_ltimes (g_over1 (g_var rfl hy1)) (g_var rfl hy2) (zb z (List.mem_of_getElem? hz)) (tb t (List.mem_of_getElem? ht))
  refine s_retG (g_sum gc (by simp [hl6, tl]) fun q hq => ?_) fun v H3 e3 hv => k v H3 ((e1.trans e2).trans e3) hv
  obtain ⟨i, hi⟩ := List.mem_iff_getElem?.mp hq
  rw [List.getElem?_zipWith] at hi
  cases hz : w[i]? with
  | none => rw [hz] at hi; cases hi
  | some z =>
    cases ht : (terms p)[i]? with
    | none => rw [hz, ht] at hi; cases hi
    | some t =>
      rw [hz, ht] at hi
      have hi' : (z : Rat) * t = q := Option.some.inj hi
      subst hi'
      exact (LB.mul (zb z (List.mem_of_getElem? hz)) (tb t (List.mem_of_getElem? ht))).mono (by decide) (by decide)
end
end K54
namespace K54
open PySem PySem.Spec PyProof.Rows L2
abbrev rLst (K : PySem.W.Frag) : List V → Hp → VK → Prop := fun xs H Q => ∃ p ys, xs = [V.ref p] ∧ (SqL K H p ys ∨ SqT K H p ys) ∧ ∀ l, H l = none → Q (V.ref l) (upd H l (.lst ys))
theorem lswap_rep {L : List (List Rat)} {a p B : Nat} (h : Shape L) (ha : a < 5) (hp : p < 5) (hap : a ≤ p) (r : ∀ i, a ≤ i → i < 5 → RowRep B (rw' L i)) {i : Nat} (hi : i < 5) (hai : a ≤ i) : RowRep B (rw' (swapRows L a p) i) := by
  rw [rw_swap (by rw [h.five]; exact ha) (by rw [h.five]; exact hp)]
  split
  · exact r a (Nat.le_refl _) ha
  · split
    · exact r p hap hp
    · exact r i hai hi
section
variable {K : PySem.W.Frag} {σ : L2.St} {H : Hp} {te : TE} {D : Ends}
theorem gl_listV {ps : List MP} {i : Nat} {x : V} (h : σ[i]? = some (some x)) (hd : Held true K ps x H) : GL (tCB (rLst K) (tCons (tVar i) tNil)) σ H ps := fun H1 e Q q => by
  obtain ⟨a, xs, rfl, hs, hx⟩ := hd
  have hs' : SqL K H a xs := hs
  exact ⟨_, h, a, xs, rfl, .inl (e.seq hs'), fun l hl => q l xs _ hl (same_new hl) upd_same (hx.mono (.same (e.trans (same_new hl))))⟩
/-- [list(line) for line in rows] -/
theorem gll_copy {a : Addr} {vs0 : List V} {pss : List (List MP)} {i j : Nat} (hi : σ[i]? = some (some (.ref a))) (ha : H a = some (.lst vs0)) (hal : AllL [] pss vs0 H) (hz : pss.length ≤ 1000)
    (hw : ∀ x, wipe ((wipe σ [j]).set j (some x)) [j] = wipe σ [j]) (hj : ∀ x : V, ((wipe σ [j]).set j (some x))[j]? = some (some x)) :
    GLL (tLc (iList K (tVar i)) (gName j) tYes (tCB (rLst K) (tCons (tVar j) tNil)) [j]) σ H pss := fun H1 e Q q => by
  have s1 : SqL K H1 a vs0 := SqL.of (e _ _ ha)
  have hl := hal.length
  refine ⟨_, hi, a, rfl, ⟨vs0, s1⟩, fun D hD => ?_⟩
  refine lc_it (hl ▸ walk_list) (fun m H3 => Same H1 H3 ∧ ∃ acc, H3 D = some (.lst acc) ∧ AllL [D] (pss.take m) acc H3) ⟨same_new hD, [], upd_same, trivial⟩ (fun m H3 _ h => h.1.seq s1) (fun m x H3 H4 hm hp hy => ?_) fun H3 h => ?_
  · obtain ⟨e3, acc, hacc, hall⟩ := hp
    obtain ⟨rfl, hx⟩ := hy
    have ho : pss[m]? = some pss[m] := List.getElem?_eq_getElem (by omega)
    obtain ⟨v, hv, lv⟩ := hal.get ho
    have hx' : vs0[m]? = some x := hx
    rw [hx'] at hv
    have hv' : x = v := Option.some.inj hv
    subst hv'
    have lv3 := (lv.same (e.trans e3)).held (K := K)
    refine ⟨hw x, ?_⟩
    unfold tYes
    dsimp only
    rw [if_pos (rfl : true = true)]
    refine gl_listV (hj x) lv3 _ (Same.refl _) _ fun p xs H6 np e6 hp hxs => ?_
    have hD6 : H6 D = some (.lst acc) := e6 _ _ hacc
    have hlen := hall.length
    rw [List.length_take] at hlen
    have npD : p ≠ D := (ne_of_none hacc np).symm
    have kp : Kp [D] H6 (upd H6 D (.lst (acc ++ [.ref p]))) := (Kp.refl H6).set (by simp)
    have la : LsAt [D] H6 := LsAt.one hD6
    refine ⟨acc, hD6, Evl.sz_lt (by omega), same_mut (e3.trans e6) hD, acc ++ [.ref p], upd_same, ?_⟩
    rw [List.take_add_one, ho]
    exact AllL.mono kp la (AllL.snoc ⟨p, xs, rfl, by simpa using npD, hp, hxs⟩ (hall.same e6))
  · obtain ⟨e3, acc, hacc, hall⟩ := h
    rw [List.take_of_length_le (by omega)] at hall
    exact q D acc H3 hD e3 hacc hall
/-- left, found = [[..] ..], 0 -/
theorem s_LIpair {i j : Nat} {c : Int} {pss : List (List MP)} (h : GLL te σ H pss) (k : ∀ R vs H1, H R = none → Same H H1 → H1 R = some (.lst vs) → AllL [R] pss vs H1 → D.nx ((σ.set i (some (.ref R))).set j (some (.int c))) H1) :
    tAsg (tTup (tCons te (tCons (tC (.int c)) tNil))) (gTup K 2 (gCons (gName i) (gCons (gName j) gNil))) D σ H := h H (Same.refl H) _ fun R vs H1 nR e1 hR al => ⟨by show 2 ≤ sizeLine; decide, fun T nT => by
  have s2 : Same H1 (upd H1 T (.tup [.ref R, .int c])) := same_new nT
  exact gg_tup2 (SqT.of upd_same) gg_name gg_name _ (k R vs _ nR (e1.trans s2) (s2 _ _ hR) (al.same s2))⟩
end
abbrev nFree : List Str := ["_law_rows", "_law_left", "_law_found", "_law_at", "_law_some", "_law_head", "_law_place", "_law_part", "_law_line", "_law_x", "_law_y"]
def spFree (K : PySem.W.Frag) : Sp := fun vs H Q _ => ∃ (pts : List Pt) (R0 : Addr), pts.length = 5 ∧ (∀ p ∈ pts, PtOk p) ∧ vs = [.ref R0] ∧ Tab K [] R0 (mat pts) H ∧ ∀ H', Same H H' → Q (.int ((lRun (mat pts) 6).2 : Nat)) H'
section
variable {P : Program} {w : World} {K : PySem.W.Frag} {mg : Str → Option Value} {base : Heap}
theorem sc_free : FnScope nFree ["_law_rows"] (defScope sLFree) := ⟨rfl, rfl, rfl, by decide +kernel, rfl, by decide +kernel, by decide +kernel⟩
theorem ok_free (D : Df K mg "_law_free_rows" sLFree ["_law_rows"]) (T : Txt K mg) (HMi : Has P w K mg base "_law_minus" n2L 2 (spX (dLMinus K))) (HT : Has P w K mg base "_law_times" n2L 2 (spX (dLTimes K))) (HO : Has P w K mg base "_law_over" n2L 2 (spX (dLOver K))) :
    Has P w K mg base "_law_free_rows" ["_law_rows"] 3 (spFree K) := D.has fun f fd F => by
  refine F.ok sc_free (fun vs H Q E ⟨_, _, _, _, e, _⟩ => by rw [e]; rfl) (fun cdv A outer s H vs Q E hr h => ?_)
  obtain ⟨pts, R0, hl5, hok, rfl, hT0, kq⟩ := h
  obtain ⟨vs0, hR0, hal0⟩ := hT0
  have nd := sc_free.nd
  have hr2 : Room 2 _ := hr.mono (by decide)
  refine ⟨_, pss_cons (ps_asg (pe_tup (pa_cons (pe_lc (own := [("_law_line", 8)]) (g := gName 8) (tt := tYes) rfl nd (pi_list (pv 0)) (blkOk_by (N := nFree) (sc := defScope sLFree) (by decide +kernel))
          (fun _ _ _ _ _ => pg_name (i := 8) nd rfl (Or.inl rfl)) (fun _ _ _ _ _ => pts_nil) (fun _ _ _ _ _ => pe_callTy (r := rLst K) call_list_of (by rfl) T.list PyProof.Rows.boot_list (pa_cons (pv 8) pa_nil)))
        (pa_cons pe_int pa_nil))) (pg_tup (by rfl) (pgs_cons (pg_name (i := 1) nd rfl (.inr rfl)) (pgs_cons (pg_name (i := 2) nd rfl (.inl rfl)) pgs_nil))))
    (pss_cons (ps_for PassesOwn.never rfl (pi_range1 (by rfl) T.range (pa_cons (pe_callB call_len_seq (by rfl) T.len PySem.boot_len (pa_cons (pe_ix ix_list (pv 1) pe_int (fun _ _ => rfl)) pa_nil)) pa_nil)) (pg_name (i := 3) nd rfl (.inr rfl))
      (pss_cons (ps_setLc (i := 4) (own := [("_law_place", 6)]) (g := gName 6) (tt := tTest (tOp (rNeD K) (tOp (rIxL K) (tOp (rIxL K) (tVar 1) (tVar 6)) (tVar 3)) (tTup (tCons (tC (.int 0)) (tCons (tC (.int 1)) tNil))))) rfl nd rfl rfl (sw_true rfl rfl rfl (by decide +kernel))
          (pi_range2 (by rfl) T.range (pa_cons (pv 2) (pa_cons (pe_callB call_len_seq (by rfl) T.len PySem.boot_len (pa_cons (pv 1) pa_nil)) pa_nil))) (blkOk_by (N := nFree) (sc := defScope sLFree) (by decide +kernel))
          (fun _ _ _ _ _ => pg_name (i := 6) nd rfl (Or.inl rfl)) (fun _ _ _ _ _ => pts_one (pt_cmpR (r := rNeD K) (op_neD hr.units) (pe_ix (r := rIxL K) ix_list (pe_ix (r := rIxL K) ix_list (pv 1) (pv 6) (fun _ _ => rfl)) (pv 3) (fun _ _ => rfl)) (pe_tup (pa_cons pe_int (pa_cons pe_int pa_nil))) (nomark _))) (fun _ _ _ _ _ => pv 6))
      (pss_one (ps_if (pt_cmpR (op_neD hr.units) (pv 4) (pe_lst pa_nil) (nomark _))
        (pss_cons (ps_asg (pe_tup (pa_cons (pe_ix ix_list (pv 1) (pe_ix ix_list (pv 4) pe_int (fun _ _ => rfl)) (fun _ _ => rfl)) (pa_cons (pe_ix ix_list (pv 1) (pv 2) (fun _ _ => rfl)) pa_nil)))
            (pg_tup (by rfl) (pgs_cons (pg_sub (pv 1) (pv 2) set_list) (pgs_cons (pg_sub (pv 1) (pe_ix ix_list (pv 4) pe_int (fun _ _ => rfl)) set_list) pgs_nil))))
        (pss_cons (ps_set (i := 5) nd rfl (.inl rfl) (pe_ix ix_list (pv 1) (pv 2) (fun _ _ => rfl)))
        (pss_cons (ps_for PassesOwn.never rfl (pi_range2 (by rfl) T.range (pa_cons (pe_op op_add (pv 2) pe_int) (pa_cons (pe_callB call_len_seq (by rfl) T.len PySem.boot_len (pa_cons (pv 1) pa_nil)) pa_nil))) (pg_name (i := 6) nd rfl (.inl rfl))
          (pss_cons (ps_set (i := 7) nd rfl (.inr rfl) (pe_c HO hr2 (by rfl) (pa_cons (pe_ix ix_list (pe_ix ix_list (pv 1) (pv 6) (fun _ _ => rfl)) (pv 3) (fun _ _ => rfl)) (pa_cons (pe_ix ix_list (pv 5) (pv 3) (fun _ _ => rfl)) pa_nil))))
          (pss_one (ps_asg (pe_lc (own := [("_law_x", 9), ("_law_y", 10)]) (g := gTup K 2 (gCons (gName 9) (gCons (gName 10) gNil))) (tt := tYes) rfl nd (pi_zipX true true (by rfl) T.zip (pa_cons (pe_ix ix_list (pv 1) (pv 6) (fun _ _ => rfl)) (pa_cons (pv 5) pa_nil)))
              (blkOk_by (N := nFree) (sc := defScope sLFree) (by decide +kernel)) (fun _ _ _ _ _ => pg_tup rfl (pgs_cons (pg_name (i := 9) nd rfl (Or.inl rfl)) (pgs_cons (pg_name (i := 10) nd rfl (Or.inl rfl)) pgs_nil))) (fun _ _ _ _ _ => pts_nil)
              (fun _ _ _ _ _ => pe_c HMi hr2 (by rfl) (pa_cons (pv 9) (pa_cons (pe_c HT hr2 (by rfl) (pa_cons (pv 7) (pa_cons (pv 10) pa_nil))) pa_nil))))
              (pg_sub (pv 1) (pv 6) set_list)))))
        (pss_one (ps_set (i := 2) nd rfl (.inl rfl) (pe_op op_add (pv 2) pe_int)))))) pss_nil))))
    (pss_one (ps_ret (pv 2)))), ?_⟩
  have sh0 := mat_shape hl5
  have rep0 := mat_rep hl5 hok
  have hml : (tabM K (mat pts)).length = 5 := by unfold tabM mat; simp [hl5]
  refine s_LIpair (gll_copy (σ := start nFree [.ref R0]) (i := 0) (j := 8) rfl hR0 hal0 (by omega) (fun _ => rfl) (fun _ => rfl)) fun R vs H1 nR e1 hR hal => ?_
  have hT1 : Tab K [R] R (mat pts) H1 := ⟨vs, hR, hal⟩
  have lsR : ∀ {H : Hp} {M : List (List Rat)}, Tab K [R] R M H → LsAt [R] H := fun ⟨vs5, q5, _⟩ => LsAt.one q5
  have lenT : ∀ {σ : L2.St} {H : Hp} {M : List (List Rat)} {ta : TE}, Tab K [R] R M H → M.length = 5 → G ta σ H (EqM (.ref R)) → G (tCB (fun xs H Q => ∃ p ys, xs = [V.ref p] ∧ (SqL K H p ys ∨ SqT K H p ys) ∧ Q (V.int (ys.length : Int)) H) (tCons ta tNil)) σ H (IM 5) := fun ⟨vs5, q5, al⟩ hm g => by
    have hl := al.length
    unfold tabM at hl
    rw [List.length_map, hm] at hl
    exact g_eq (g_lenL (K := K) g (SqL.of q5)) (by rw [hl]; rfl)
  dsimp only
  refine tseq ?_
  obtain ⟨r0, xs0, n0, hr0, hx0, gr0⟩ := g_row (K := K) (σ := [some (.ref R0), some (.ref R), some (.int 0), none, none, none, none, none, none, none, none]) hT1 (p := 0) (by rw [sh0.five]; decide) (ta := tVar 1) (tb := tC (.int 0)) (g_vE rfl) g_int
  have hx0l : xs0.length = 6 := by
    rw [hx0.length]
    unfold rowM
    rw [List.length_map, sh0.six 0 (by decide)]
  refine s_for (ws := [R]) (srck_rng1 (n := 6) (g_eq (g_lenL (K := K) gr0 (SqL.of hr0)) (by rw [hx0l]))) (fun i σ H6 => ∃ o3 o4 o5 o6 o7, σ = [some (.ref R0), some (.ref R), some (.int ((lRun (mat pts) i).2 : Nat)), o3, o4, o5, o6, o7, none, none, none] ∧ Tab K [R] R (lRun (mat pts) i).1 H6)
    (fun H3 e3 => ⟨none, none, none, none, none, by rw [lRun_zero]; rfl, by rw [lRun_zero]; exact hT1.same e3⟩) (fun Hb i y σ H3 H4 P' eb hP k3 hp e4 hy => ?_) fun σ H3 k3 hp => ?_
  · obtain ⟨o3, o4, o5, o6, o7, rfl, hT⟩ := hp
    obtain ⟨hi6, rfl⟩ := rngM_get hP
    have hy' : y = .int (i : Int) := by
      have : y = .int (0 + (i : Int)) := hy
      rw [this, Int.zero_add]
    subst hy'
    obtain ⟨kk, ke⟩ := Lk.run sh0 rep0 i
    rw [lRun_succ]
    have hT4 := hT.same e4
    have hfin0 : ∀ (σ3 : L2.St) (H6 : Hp), Kp [R] H4 H6 → (∃ o3 o4 o5 o6 o7, σ3 = [some (.ref R0), some (.ref R), some (.int ((lcol (lRun (mat pts) i) i).2 : Nat)), o3, o4, o5, o6, o7, none, none, none]) → Tab K [R] R (lcol (lRun (mat pts) i) i).1 H6 →
      Kp [R] Hb H6 ∧ ∃ o3 o4 o5 o6 o7, σ3 = [some (.ref R0), some (.ref R), some (.int ((lcol (lRun (mat pts) i) i).2 : Nat)), o3, o4, o5, o6, o7, none, none, none] ∧ Tab K [R] R (lcol (lRun (mat pts) i) i).1 H6 := fun σ3 H6 k6 ⟨q3, q4, q5, q6, q7, e⟩ t => ⟨(k3.trans (.same e4)).trans k6, q3, q4, q5, q6, q7, e, t⟩
    generalize pRun (mat pts) i = st at kk ke
    generalize lRun (mat pts) i = sl at kk ke hT4 hfin0 ⊢
    clear hT
    obtain ⟨M, hs⟩ := st
    obtain ⟨L, a⟩ := sl
    dsimp only at kk ke hT4 hfin0 ⊢
    subst ke
    have five := kk.shL.five
    have hle := kk.le
    generalize hpc : lcol (L, hs.length) i = pc at hfin0 ⊢
    -- some = [..]
    have gS : GL (tLc (iRng2 (tCons (tVar 2) (tCons (tCB (fun xs H Q => ∃ p ys, xs = [V.ref p] ∧ (SqL K H p ys ∨ SqT K H p ys) ∧ Q (V.int (ys.length : Int)) H) (tCons (tVar 1) tNil)) tNil))) (gName 6) (tTest (tOp (rNeD K) (tOp (rIxL K) (tOp (rIxL K) (tVar 1) (tVar 6)) (tVar 3)) (tTup (tCons (tC (.int 0)) (tCons (tC (.int 1)) tNil))))) (tVar 6) [6])
        [some (.ref R0), some (.ref R), some (.int (hs.length : Int)), some (.int (i : Int)), o4, o5, o6, o7, none, none, none] H4 ((piv L i hs.length).map fun (n : Nat) => IM (n : Int)) := by
      rw [← piv_os]
      refine gl_lcF (src_rng2 (5 - hs.length) (g_vE rfl) (lenT hT4 five (g_vE rfl)) (by omega) (by omega) (by omega)) (by rw [rngM_len]; simp) (by rw [rngM_len]; omega) fun j u H' P' o hP ho e' hu => ?_
      obtain ⟨hj, rfl⟩ := rngM_get hP
      obtain ⟨j', hj', rfl⟩ := map_get ho
      rw [List.getElem?_range hj] at hj'
      cases hj'
      have hu' : u = .int ((hs.length + j : Nat) : Int) := by
        have : u = .int ((hs.length : Int) + (j : Int)) := hu
        rw [this, Int.natCast_add]
      subst hu'
      refine ⟨_, gg_name, rfl, ?_, fun Q' hQ' => ?_⟩
      · have hlt : hs.length + j < 5 := by omega
        have gc := g_cell (K := K) (σ := (wipe [some (.ref R0), some (.ref R), some (.int (hs.length : Int)), some (.int (i : Int)), o4, o5, o6, o7, none, none, none] [6]).set 6 (some (.int ((hs.length + j : Nat) : Int)))) (hT4.same e') (p := hs.length + j) (c := i) (by omega) (by rw [kk.shL.six _ hlt]; exact hi6)
          (ta := tVar 1) (tb := tVar 6) (tc := tVar 3) (g_vE rfl) (g_vE rfl) (g_vE rfl)
        refine gt_test (g_eq (g_neR gc g_zero) ?_)
        by_cases h00 : en (rw' L (hs.length + j)) i = 0
        · rw [if_neg (by simp [h00]), decide_eq_false (by simp [h00])]; rfl
        · rw [if_pos h00, decide_eq_true h00]; rfl
      · by_cases h00 : en (rw' L (hs.length + j)) i = 0
        · rw [if_neg (by simp [h00])] at hQ'; cases hQ'
        · rw [if_pos h00] at hQ'
          cases hQ'
          exact g_var rfl rfl
    refine tseq ?_
    refine s_setL gS fun S xs H6 nS e6 hS hxs => ?_
    have hxs' : xs = (((piv L i hs.length).map fun (n : Nat) => (n : Int))).map V.int := by
      have h1 : AllP (hdM (piv L i hs.length)) xs H6 := hxs
      rw [hd_of h1, hd_ints]
    subst hxs'
    have hT6 := hT4.same e6
    have gN := g_neNil (K := K) (σ := [some (.ref R0), some (.ref R), some (.int (hs.length : Int)), some (.int (i : Int)), some (.ref S), o5, o6, o7, none, none, none]) (ta := tVar 4) (g_vE rfl) hS
    cases hpv : piv L i hs.length with
    | nil =>
      rw [hpv] at gN
      have epc : pc = (L, hs.length) := by
        rw [← hpc]
        unfold lcol
        dsimp only
        rw [hpv]
      refine s_ifF (gt_test gN) fun H7 e7 => hfin0 _ H7 (.same (e6.trans e7)) ⟨_, _, _, _, _, by rw [epc]⟩ (by rw [epc]; exact hT6.same e7)
    | cons p r =>
      rw [hpv] at gN hS
      have epc : pc = (lstep L hs.length i p, hs.length + 1) := by
        rw [← hpc]
        unfold lcol
        dsimp only
        rw [hpv]
      have hm : p ∈ piv L i hs.length := by rw [hpv]; exact List.mem_cons_self
      obtain ⟨⟨p1, p2⟩, p3⟩ := piv_mem.mp hm
      have ha : hs.length < 5 := by omega
      refine s_ifT (gt_test gN) fun H7 e7 => ?_
      have hT7 := hT6.same e7
      have hS7 := e7 _ _ hS
      have nSR : S ≠ R := fun q => by
        obtain ⟨vs5, q5, _⟩ := hT4
        rw [q, q5] at nS
        cases nS
      -- the swap
      refine tseq ?_
      refine s_swap hT7 (by simp) (lsR hT7) (by rw [five]; exact ha) (by rw [five]; exact p2) (fun _ => g_vE rfl) (fun _ => g_vE rfl) (fun H1 k1 => g_ixL (P := IM (p : Int)) (v := .int (p : Int)) (g_vE rfl) (g_int (i := 0)) (SqL.of (k1 _ _ hS7 (by simpa using nSR))) (atI_nat (j := 0) rfl) rfl) fun H8 k8 hT8 => ?_
      have sh1 : Shape (swapRows L hs.length p) := kk.shL.swap ha p2
      have bk : bs hs.length ≤ 527 := bs_le4 ha
      have eat := swap_at kk.shL ha p2
      have rep1 : ∀ j, j < 5 → hs.length ≤ j → RowRep 527 (rw' (swapRows L hs.length p) j) := fun j hj haj => (lswap_rep kk.shL ha p2 p1 (fun i h1 h2 => by rw [kk.low i h1 h2]; exact kk.rep i h2) hj haj).mono bk
      have hne : en (rw' (swapRows L hs.length p) hs.length) i ≠ 0 := by rw [eat]; exact p3
      have est : lstep L hs.length i p = lclear (swapRows L hs.length p) hs.length i 5 := rfl
      rw [est] at epc
      generalize hLs : swapRows L hs.length p = Ls at hT8 sh1 rep1 hne epc
      -- head = left[found]
      dsimp only
      refine tseq ?_
      obtain ⟨ra, rxs, na, hra, hrx, gra⟩ := g_row (K := K) (σ := [some (.ref R0), some (.ref R), some (.int (hs.length : Int)), some (.int (i : Int)), some (.ref S), o5, o6, o7, none, none, none]) hT8 (p := hs.length) (by rw [sh1.five]; exact ha) (ta := tVar 1) (tb := tVar 2) (g_vE rfl) (g_vE rfl)
      refine s_set (P := EqM (.ref ra)) gra fun v9 H9 e9 hv9 => ?_
      have hv9' : v9 = .ref ra := hv9
      subst hv9'
      have hT9 := hT8.same e9
      have hra9 := e9 _ _ hra
      have hrx9 := hrx.mono (.same e9)
      have naR : ra ≠ R := by simpa using na
      -- for place in range(found + 1, len(left))
      dsimp only
      refine tseq ?_
      refine s_for (ws := [R]) (srck_rng2 (i := (hs.length : Int) + 1) (j := 5) (4 - hs.length) (g_addI (g_vE rfl) g_int) (lenT hT9 sh1.five (g_vE rfl)) (by omega) (by omega) (by omega)) (fun j σ H10 => ∃ o6 o7, σ = [some (.ref R0), some (.ref R), some (.int (hs.length : Int)), some (.int (i : Int)), some (.ref S), some (.ref ra), o6, o7, none, none, none] ∧ Tab K [R] R (lclear Ls hs.length i (hs.length + 1 + j)) H10)
        (fun H10 e10 => ⟨o6, o7, rfl, by rw [Nat.add_zero, lclear_zero]; exact hT9.same e10⟩) (fun Hc j u σ H10 H11 P' ec hP k10 hp e11 hu => ?_) fun σ H10 k10 hp => ?_
      · obtain ⟨o6', o7', rfl, hT10⟩ := hp
        obtain ⟨hj5, rfl⟩ := rngM_get hP
        obtain ⟨pl, hpl⟩ : ∃ pl, pl = hs.length + 1 + j := ⟨_, rfl⟩
        have hu' : u = .int (pl : Int) := by
          have : u = .int ((hs.length : Int) + 1 + (j : Int)) := hu
          rw [this, hpl]
          congr 1
        subst hu'
        rw [← hpl] at hT10
        have hpl5 : pl < 5 := by omega
        have hT11 := hT10.same e11
        have hra10 : H10 ra = some (.lst rxs) := k10 _ _ (ec _ _ hra9) (by simpa using naR)
        have lsHc : LsAt [R] Hc := lsR (hT9.same ec)
        have hrx10 := (hrx9.mono (.same ec)).mono (k10.tk lsHc)
        have hra11 := e11 _ _ hra10
        have hrx11 := hrx10.mono (.same e11)
        have shc : Shape (lclear Ls hs.length i pl) := sh1.lclear ha
        have rj : rw' (lclear Ls hs.length i pl) pl = rw' Ls pl := lclear_row sh1 hpl5 (.inl (Nat.le_refl _))
        have repj := rep1 pl hpl5 (by omega)
        have repa := rep1 hs.length ha (Nat.le_refl _)
        -- part
        have gc := g_cell (K := K) (σ := [some (.ref R0), some (.ref R), some (.int (hs.length : Int)), some (.int (i : Int)), some (.ref S), some (.ref ra), some (.int (pl : Int)), o7', none, none, none]) hT11 (p := pl) (c := i) (by rw [shc.five]; exact hpl5) (by rw [shc.six _ hpl5]; exact hi6)
          (ta := tVar 1) (tb := tVar 6) (tc := tVar 3) (g_vE rfl) (g_vE rfl) (g_vE rfl)
        rw [rj] at gc
        obtain ⟨hv, hhv, phv⟩ := hrx11.get (i := i) (P := RtM K (en (rw' Ls hs.length) i)) (by unfold rowM; rw [List.getElem?_map, en_get (by rw [sh1.six _ ha]; exact hi6)]; rfl)
        have gh : G (tOp (rIxL K) (tVar 5) (tVar 3)) [some (.ref R0), some (.ref R), some (.int (hs.length : Int)), some (.int (i : Int)), some (.ref S), some (.ref ra), some (.int (pl : Int)), o7', none, none, none] H11 (RtM K (en (rw' Ls hs.length) i)) :=
          g_ixL (g_vE rfl) (g_vE (v := .int (i : Int)) rfl) (SqL.of hra11) (atI_nat hhv) phv
        refine tseq ?_
        refine s_set (P := RtM K (en (rw' Ls pl) i / en (rw' Ls hs.length) i)) (g_lover gc gh (repj.bd i) (repa.bd i) hne) fun v12 H12 e12 hv12 => ?_
        have hT12 := hT11.same e12
        have hra12 := e12 _ _ hra11
        have hrx12 := hrx11.mono (.same e12)
        dsimp only
        refine s_setRow (r := subRow (en (rw' Ls pl) i / en (rw' Ls hs.length) i) (rw' Ls pl) (rw' Ls hs.length)) (a := pl) hT12 (by simp) (lsR hT12) (by rw [shc.five]; exact hpl5) (fun _ => g_vE rfl) (fun _ => g_vE rfl) ?_ fun H13 k13 hT13 => ⟨(k10.trans (.same (e11.trans e12))).trans k13, some (.int (pl : Int)), some v12, rfl, ?_⟩
        · obtain ⟨a1, xs1, n1, ha1, hx1, g1⟩ := g_row (K := K) (σ := [some (.ref R0), some (.ref R), some (.int (hs.length : Int)), some (.int (i : Int)), some (.ref S), some (.ref ra), some (.int (pl : Int)), some v12, none, none, none]) hT12 (p := pl) (by rw [shc.five]; exact hpl5) (ta := tVar 1) (tb := tVar 6) (g_vE rfl) (g_vE rfl)
          rw [rj] at hx1
          have lj := sh1.six pl hpl5
          have la := sh1.six hs.length ha
          refine gl_lc (src_zip (gh_V g1 (SqL.of ha1) hx1) (gh_V (g_vE rfl) (SqL.of hra12) hrx12) (by unfold rowM; rw [List.length_map, List.length_map, lj, la])) (by unfold rowM zipM; simp [len_sub, lj, la]) (by unfold rowM zipM; simp [lj, la]) fun t u H' P' Q' hP hQ e' hu => ?_
          obtain ⟨q1, q2, hq1, hq2, rfl, rfl⟩ := zip_get (K := K) hP hQ
          obtain ⟨T1, y1, y2, rfl, hs1, hy1, hy2⟩ := tp2 hu
          refine ⟨_, gg_tup2 hs1 gg_name gg_name, rfl, gt_yes, ?_⟩
          have bq : ∀ {r : List Rat} {q : Rat} {t : Nat}, RowRep 527 r → r[t]? = some q → Bd 527 q := fun {r q t} rp hq => by
            have := rp.bd t
            unfold en at this
            rw [List.getD_eq_getElem?_getD, hq] at this
            exact this
          have b1 := bq repj hq1
          have b2 := bq repa hq2
          have b3 := (repj.bd i).div (repa.bd i) hne
          have gp : G (tVar 7) (((wipe [some (.ref R0), some (.ref R), some (.int (hs.length : Int)), some (.int (i : Int)), some (.ref S), some (.ref ra), some (.int (pl : Int)), some v12, none, none, none] [9, 10]).set 9 (some y1)).set 10 (some y2)) H' (RtM K (en (rw' Ls pl) i / en (rw' Ls hs.length) i)) := g_var rfl (MP.mono _ _ _ _ (.same e') hv12)
          exact g_lminus (g_var rfl hy1) (g_ltimes gp (g_var rfl hy2) b3.lb b2.lb) b1.lb (b3.mul b2).lb
        · have : hs.length + 1 + (j + 1) = pl + 1 := by omega
          rw [this, lclear_set sh1 hpl5 (by omega)]
          exact hT13
      · obtain ⟨o6', o7', rfl, hT10⟩ := hp
        rw [rngM_len, show hs.length + 1 + (4 - hs.length) = 5 by omega] at hT10
        refine s_set (P := IM ((hs.length : Int) + 1)) (g_addI (g_vE rfl) g_int) fun v11 H11 e11 hv11 => ?_
        have hv11' : v11 = .int _ := hv11
        subst hv11'
        refine hfin0 _ _ (((Kp.same (e6.trans e7)).trans k8).trans ((Kp.same e9).trans (k10.trans (.same e11)))) ⟨_, _, _, _, _, by rw [epc]; rfl⟩ (by rw [epc]; exact hT10.same e11)
  · obtain ⟨o3, o4, o5, o6, o7, rfl, hT⟩ := hp
    have e13 : Same H H3 := fun b o q => k3 _ _ (e1 _ _ q) (by simpa using ne_of_none q nR)
    rw [rngM_len]
    exact s_retG (g_vE rfl) fun v H4 e4 hv => by
      have hv' : v = .int ((lRun (mat pts) 6).2 : Nat) := hv
      subst hv'
      exact kq H4 (e13.trans e4)
end
end K54
namespace K54
open PySem PySem.Spec PyProof.Rows L2
/-! ### the plain law: what is found answers -/
theorem dot_comm : ∀ x y : List Rat, dot x y = dot y x
  | [], [] => rfl
  | [], _ :: _ => rfl
  | _ :: _, [] => rfl
  | a :: x, b :: y => by
    show a * b + dot x y = b * a + dot y x
    rw [dot_comm x y, Rat.mul_comm]
theorem ker_mat {pts : List Pt} (h5 : pts.length = 5) {v : List Rat} : Ker (mat pts) v ↔ ∀ p ∈ pts, dot v (terms p) = 0 := by
  constructor
  · intro h p hp
    obtain ⟨i, hi⟩ := List.mem_iff_getElem?.mp hp
    have hl : i < pts.length := (List.getElem?_eq_some_iff.mp hi).1
    have := h i (by omega)
    rw [mat_row hi] at this
    rw [dot_comm]
    exact this
  · intro h i hi
    have e : pts[i]? = some pts[i] := List.getElem?_eq_getElem (by omega)
    rw [mat_row e, dot_comm]
    exact h _ (List.getElem_mem _)
theorem fnd_lt {v : List Rat} (h6 : v.length ≤ 6) (hbd : ∀ q ∈ v, Bd 1200 q) : ∀ z ∈ fnd v, z.natAbs < 2 ^ 8500 := fun z hz => by
  obtain ⟨q, hq, rfl⟩ := List.mem_map.mp hz
  have bb := bot_lt hbd v.length (Nat.le_refl _)
  rw [List.take_length] at bb
  have bb' : ((bot v : Nat) : Int).natAbs < 2 ^ 7300 := by
    rw [nat_abs_cast]
    refine lt_pow_of bb ?_
    have : 1200 * v.length ≤ 1200 * 6 := Nat.mul_le_mul_left _ h6
    omega
  have h2 : ((bot v / q.den : Nat) : Int).natAbs < 2 ^ 7300 := by
    rw [nat_abs_cast] at bb' ⊢
    exact Nat.lt_of_le_of_lt (Nat.div_le_self _ _) bb'
  exact abs_mul_lt (hbd q hq).n h2
theorem whole_lt {v : List Rat} (h6 : v.length ≤ 6) (hbd : ∀ q ∈ v, Bd 1200 q) (h0 : ∃ q ∈ v, q ≠ 0) : ∀ z ∈ whole v, z.natAbs < 2 ^ 8500 := fun z hz => by
  obtain ⟨y, hy, rfl⟩ := List.mem_map.mp hz
  have b := fnd_lt h6 hbd y hy
  obtain ⟨k, hk⟩ := spart_dvd hy
  have sn := spart_ne (fnd_nz h0)
  have e : y.fdiv (spart (fnd v)) = k := by rw [hk, Int.mul_fdiv_cancel_left _ sn]
  show (y.fdiv (spart (fnd v))).natAbs < _
  rw [e]
  rw [hk, Int.natAbs_mul] at b
  exact Nat.lt_of_le_of_lt (Nat.le_mul_of_pos_left _ (by omega)) b
structure FoundOk (pts : List Pt) (w : List Int) : Prop where
  len : w.length = 6
  bd : ∀ z ∈ w, z.natAbs < 2 ^ 8500
  left : ∀ p ∈ pts, leftQ w p = 0
  pos : ∃ (i : Nat) (z : Int), w[i]? = some z ∧ 0 < z ∧ ∀ j, j < i → w[j]? = some 0
  prim : ∀ d : Nat, (∀ z ∈ w, d ∣ z.natAbs) → d = 1
  due : ∀ v : List Rat, v.length = 6 → (∃ q ∈ v, q ≠ 0) → (∀ p ∈ pts, dot v (terms p) = 0) → whole v = w
theorem left_zero {w : List Int} {v : List Rat} {c : Rat} {p : Pt} (hw : w.length = 6) (hv : v.length = 6) (h : ∀ j, ((w.getD j 0 : Int) : Rat) = c * en v j) (h0 : dot v (terms p) = 0) : leftQ w p = 0 := by
  obtain ⟨a, b, d, e, f, g, rfl⟩ := len6 hw
  obtain ⟨a', b', d', e', f', g', rfl⟩ := len6 hv
  have q0 : (a : Rat) = c * a' := h 0
  have q1 : (b : Rat) = c * b' := h 1
  have q2 : (d : Rat) = c * d' := h 2
  have q3 : (e : Rat) = c * e' := h 3
  have q4 : (f : Rat) = c * f' := h 4
  have q5 : (g : Rat) = c * g' := h 5
  have hd : a' * (p.1 * p.1) + (b' * (p.1 * p.2) + (d' * (p.2 * p.2) + (e' * p.1 + (f' * p.2 + (g' * 1 + 0))))) = 0 := h0
  show ((((((0 : Rat) + (a : Rat) * (p.1 * p.1)) + (b : Rat) * (p.1 * p.2)) + (d : Rat) * (p.2 * p.2)) + (e : Rat) * p.1) + (f : Rat) * p.2) + (g : Rat) * 1 = 0
  rw [q0, q1, q2, q3, q4, q5]
  grind
theorem found_ok {pts : List Pt} (h5 : pts.length = 5) (hok : ∀ p ∈ pts, PtOk p) (hh : ¬ (pRun (mat pts) 6).2.length < 5) : FoundOk pts (whole (foundV (pRun (mat pts) 6).1 (pRun (mat pts) 6).2 (freeOf (pRun (mat pts) 6).2) 5)) := by
  have k := (Lk.run (mat_shape h5) (mat_rep h5 hok) 6).1
  generalize pRun (mat pts) 6 = st at k hh ⊢
  obtain ⟨M, hs⟩ := st
  dsimp only at k hh ⊢
  have hl : hs.length = 5 := by have := k.le; omega
  obtain ⟨_, hf, hn⟩ := free_some k.le
  obtain ⟨e1, _⟩ := k.found hl hf hn
  have fl := foundV_len M hs (freeOf hs) 5
  have ker := (ker_mat h5).mp (k.ker_found hl hf hn)
  have only := fun v => k.only hl hf hn (v := v)
  have hbd : ∀ q ∈ foundV M hs (freeOf hs) 5, Bd 1200 q := fun q hq => (foundV_bd (B := 1055) (fun i hi => ((k.rep i hi).bd _).mono (bs_le k.le)) 5 (Nat.le_refl _) q hq).mono (by decide)
  generalize foundV M hs (freeOf hs) 5 = fv at *
  have h0 : ∃ q ∈ fv, q ≠ 0 := by
    refine ⟨_, List.mem_of_getElem? (en_get (r := fv) (j := freeOf hs) (by omega)), ?_⟩
    rw [e1]
    decide
  have iw := whole_is h0
  have wl := whole_lt (by omega) hbd h0
  obtain ⟨c, c0, hc⟩ := iw.prop
  refine ⟨by rw [iw.len, fl], wl, fun p hp => left_zero (by rw [iw.len, fl]) fl hc (ker p hp), iw.pos, iw.prim, fun v hv hv0 hvk => ?_⟩
  have ev := only v hv ((ker_mat h5).mpr hvk)
  have em : ∀ j, en v j = en v (freeOf hs) * en fv j := fun j => by
    have e2 : en v j = en (fv.map (en v (freeOf hs) * ·)) j := by rw [← ev]
    rw [e2]
    unfold en
    rw [List.getD_eq_getElem?_getD, List.getD_eq_getElem?_getD (l := fv), List.getElem?_map]
    cases fv[j]? with
    | none => show (0 : Rat) = _ * 0; rw [Rat.mul_zero]
    | some x => rfl
  have r0 : en v (freeOf hs) ≠ 0 := fun z => by
    obtain ⟨q, hq, hq0⟩ := hv0
    obtain ⟨j, hj⟩ := List.mem_iff_getElem?.mp hq
    refine hq0 ?_
    have : en v j = q := by
      unfold en
      rw [List.getD_eq_getElem?_getD, hj]
      rfl
    rw [← this, em j, z, Rat.zero_mul]
  exact (iw.uniq (whole_is hv0) (by omega) r0 em).symm
/-- the law's first: the first that is not 0 -/
theorem first_pos {w : List Int} (h : ∃ (i : Nat) (z : Int), w[i]? = some z ∧ 0 < z ∧ ∀ j, j < i → w[j]? = some 0) : ∃ z r, (w.filter fun x => decide (x ≠ 0)) = z :: r ∧ 0 < z := by
  obtain ⟨i, z, hz, hp, h0⟩ := h
  induction i generalizing w with
  | zero =>
    match w, hz with
    | x :: w, hz =>
      have : x = z := Option.some.inj hz
      subst this
      exact ⟨x, _, by rw [List.filter_cons, if_pos (by simp; omega)], hp⟩
  | succ i ih =>
    match w, hz with
    | x :: w, hz =>
      have hx : some x = some 0 := h0 0 (by omega)
      have hx' : x = 0 := Option.some.inj hx
      subst hx'
      rw [List.filter_cons, if_neg (by simp)]
      exact ih hz fun j hj => h0 (j + 1) (by omega)
/-- no divisor is shared -/
theorem no_shared {w : List Int} (h : ∀ d : Nat, (∀ z ∈ w, d ∣ z.natAbs) → d = 1) (i : Nat) : (w.filter fun x => decide (x % ((2 : Int) + (i : Int)) ≠ 0)) ≠ [] := fun e => by
  have h1 := h (2 + i) fun z hz => by
    have : ¬ (z % ((2 : Int) + (i : Int)) ≠ 0) := fun hne => by
      have : z ∈ w.filter fun x => decide (x % ((2 : Int) + (i : Int)) ≠ 0) := List.mem_filter.mpr ⟨hz, decide_eq_true hne⟩
      rw [e] at this
      cases this
    have h2 : z % ((2 + i : Nat) : Int) = 0 := by
      rw [Int.natCast_add]
      exact Decidable.not_not.mp this
    exact Int.ofNat_dvd_left.mp (Int.dvd_of_emod_eq_zero h2)
  omega
end K54
namespace K54
open PySem PySem.Spec PyProof.Rows L2
abbrev nLaw : List Str := ["_law_script", "_law_row", "_law_points", "_law_way", "_law_base", "_law_due", "_law_at", "_law_weights_here", "_law_some", "_law_found", "_law_rows", "_law_x", "_law_y", "_law_first", "_law_shared", "_law_one", "_law_k", "_law_part"]
theorem sc_law : FnScope nLaw ["_law_script"] (defScope sLaw) := ⟨rfl, rfl, rfl, by decide +kernel, rfl, by decide +kernel, by decide +kernel⟩
def DueOk (K : PySem.W.Frag) (pts : List Pt) (d : V) (H : Hp) : Prop := d = .non ∨ ∃ v : List Rat, v.length = 6 ∧ (∃ q ∈ v, q ≠ 0) ∧ (∀ p ∈ pts, dot v (terms p) = 0) ∧ (NsM K (whole v)).p d H
section
variable {K : PySem.W.Frag} {σ : L2.St} {H H' : Hp} {te ta tb : TE} {D : Ends} {P : MP}
theorem DueOk.tk {pts : List Pt} {d : V} (t : TKp H H') (h : DueOk K pts d H) : DueOk K pts d H' := by
  rcases h with h | ⟨v, h1, h2, h3, h4⟩
  · exact .inl h
  · exact .inr ⟨v, h1, h2, h3, MP.mono _ _ _ _ t h4⟩
abbrev rIsNon : R2 := fun x y H Q => y = .non ∧ Q (.bl (decide (x = .non))) H
theorem g_isN {x : V} (h : G ta σ H (EqM x)) : G (tOp rIsNon ta (tC .non)) σ H (BM (decide (x = .non))) := fun H1 e Q q => h H1 e _ fun v H2 e2 hv => ⟨rfl, by
  have hv' : v = x := hv
  subst hv'
  exact q _ H2 e2 rfl⟩
theorem g_neB {a b : Bool} (h1 : G ta σ H (BM a)) (h2 : G tb σ H (BM b)) : G (tOp rNe ta tb) σ H (BM (a != b)) := by
  have h := g_op h1 h2 (Evl.rv_ne (x := .bl a) (y := .bl b) rfl)
  have e : (!decide (V.bl a = V.bl b)) = (a != b) := by cases a <;> cases b <;> rfl
  rw [e] at h
  exact h
theorem g_free {E : XK} {pts : List Pt} {R0 : Addr} (h5 : pts.length = 5) (hok : ∀ p ∈ pts, PtOk p) (h : G te σ H (EqM (.ref R0))) (hT : Tab K [] R0 (mat pts) H) : G (tCall (spFree K) [] E (tCons te tNil)) σ H (IM ((lRun (mat pts) 6).2 : Nat)) := fun H1 e Q q =>
  h H1 e _ fun v H2 e2 hv => ⟨pts, R0, h5, hok, by rw [show v = V.ref R0 from hv]; rfl, hT.same (e.trans e2), fun H3 e3 => q _ H3 (e2.trans e3) rfl⟩
/-- found, rows = e, [] -/
theorem s_GNpair {i j : Nat} (h : G te σ H P) (k : ∀ v l H1, H l = none → Same H H1 → P.p v H1 → H1 l = some (.lst []) → D.nx ((σ.set i (some v)).set j (some (.ref l))) H1) :
    tAsg (tTup (tCons te (tCons (tLst tNil) tNil))) (gTup K 2 (gCons (gName i) (gCons (gName j) gNil))) D σ H := h H (Same.refl H) _ fun v H1 e1 hv => ⟨Nat.zero_le _, fun l nl => ⟨by show 2 ≤ sizeLine; decide, fun T nT => by
  have s1 : Same H1 (upd H1 l (.lst [])) := same_new nl
  have s2 : Same (upd H1 l (.lst [])) (upd (upd H1 l (.lst [])) T (.tup [v, .ref l])) := same_new nT
  exact gg_tup2 (SqT.of upd_same) gg_name gg_name _ (k v l _ (e1.free nl) ((e1.trans s1).trans s2) (MP.mono _ _ _ _ (.same (s1.trans s2)) hv) (s2 _ _ upd_same))⟩⟩
theorem dp_of {l : List Int} {xs : List V} (h : AllP (l.map fun z => IM z) xs H) : DpAll K H xs (l.map PyData.int) := by
  rw [ints_of h]
  exact dp_ints
theorem ns_dp {l : List Int} {v : V} (h : (NsM K l).p v H) : Dp K H v (.tuple (l.map PyData.int)) := by
  obtain ⟨a, xs, rfl, hs, hx⟩ := h
  exact .tup hs (dp_of hx)
/-- xs == [] of ints, a list just made -/
theorem g_eqNil {l : List Int} (h : GL ta σ H (l.map fun z => IM z)) : G (tOp (rEqD K) ta (tLst tNil)) σ H (BM l.isEmpty) := fun H1 e Q q =>
  h H1 e _ fun p xs H2 _ e2 hp hx => ⟨Nat.zero_le _, fun p0 np => by
    have s : Same H2 (upd H2 p0 (.lst [])) := same_new np
    rw [ints_of hx] at hp
    refine ⟨.list (l.map PyData.int), .list [], .lst (SqL.of (s _ _ hp)) dp_ints, .lst (SqL.of upd_same) .nil, PySem.W.shaped_ints l, rfl, q _ _ (e2.trans s) ?_⟩
    show V.bl _ = V.bl _
    congr 1
    cases l <;> rfl⟩
theorem g_eqNilV {l : List Int} {p : Addr} (ha : G ta σ H (EqM (.ref p))) (hp : H p = some (.lst (l.map V.int))) : G (tOp (rEqD K) ta (tLst tNil)) σ H (BM l.isEmpty) := fun H1 e Q q =>
  ha H1 e _ fun x H2 e2 hx => ⟨Nat.zero_le _, fun p0 np => by
    have hx' : x = .ref p := hx
    subst hx'
    have s : Same H2 (upd H2 p0 (.lst [])) := same_new np
    refine ⟨.list (l.map PyData.int), .list [], .lst (SqL.of (s _ _ (e2 _ _ (e _ _ hp)))) dp_ints, .lst (SqL.of upd_same) .nil, PySem.W.shaped_ints l, rfl, q _ _ (e2.trans s) ?_⟩
    show V.bl _ = V.bl _
    congr 1
    cases l <;> rfl⟩
/-- [] != [] , a list just made that is empty -/
theorem g_neNil0 (h : GL ta σ H []) : G (tOp (rNeD K) ta (tLst tNil)) σ H (BM false) := fun H1 e Q q =>
  h H1 e _ fun p xs H2 _ e2 hp hx => ⟨Nat.zero_le _, fun p0 np => by
    have s : Same H2 (upd H2 p0 (.lst [])) := same_new np
    rw [mgnil hx] at hp
    exact ⟨.list [], .list [], .lst (SqL.of (s _ _ hp)) .nil, .lst (SqL.of upd_same) .nil, rfl, rfl, q _ _ (e2.trans s) rfl⟩⟩
theorem g_eqNs {l m : List Int} (hl : l.length = 6) (hm : m.length = 6) (e0 : l = m) (ha : G ta σ H (NsM K l)) (hb : G tb σ H (NsM K m)) : G (tOp (rEqD K) ta tb) σ H (BM true) := fun H1 e Q q =>
  ha H1 e _ fun x H2 e2 hx => hb H2 (e.trans e2) _ fun y H3 e3 hy => by
    subst e0
    obtain ⟨a, b, c, d, f, g, rfl⟩ := len6 hl
    refine ⟨_, _, ns_dp (MP.mono _ _ _ _ (.same e3) hx), ns_dp hy, rfl, rfl, ?_⟩
    refine q _ H3 (e2.trans e3) ?_
    show V.bl _ = V.bl _
    congr 1
    show ((a == a) && ((b == b) && ((c == c) && ((d == d) && ((f == f) && ((g == g) && true)))))) = true
    simp
end
section
variable {P : Program} {w : World} {K : PySem.W.Frag} {mg : Str → Option Value} {base : Heap}
/-- what stands ahead of found, rows = .. -/
def LawSt (K : PySem.W.Frag) (σ : L2.St) (H : Hp) : Prop := ∃ (a0 a1 a3 a4 o6 o7 o8 : Option V) (L : Addr) (xs : List V) (dv : V) (pts : List Pt), σ = [a0, a1, some (.ref L), a3, a4, some dv, o6, o7, o8, none, none, none, none, none, none, none, none, none] ∧
  pts.length = 5 ∧ (∀ p ∈ pts, PtOk p) ∧ H L = some (.lst xs) ∧ AllP (pts.map (PtM K)) xs H ∧ DueOk K pts dv H
theorem law_tail (T : Txt K mg) (HThr : Has P w K mg base "through_five" ["points"] 5 (spX (dThrough K))) (HT : Has P w K mg base "_law_times" n2L 2 (spX (dLTimes K))) (HFr : Has P w K mg base "_law_free_rows" ["_law_rows"] 3 (spFree K))
    (HLe : Has P w K mg base "_law_left_side" ["_law_numbers", "_law_point_here"] 4 (spX (dLeft K))) (fa : Addr) (cdv : Value) (A : Around) (outer : List Env) (s : Shared) (H0 : Hp) (E : XK) (hr : Room 5 (A.deeper (envOfC "law" (defScope sLaw) s.heap.objs.size fa cdv))) :
    ∃ t, PSs (cxOf CX0 P w K mg base nLaw "law" (defScope sLaw) fa cdv A outer s H0 E).nox ((defBody sLaw).drop 5) t ∧ ∀ (R : VK) (σ : L2.St) (H : Hp), LawSt K σ H → (∀ H', R (.bl true) H') → t { nx := fun _ H' => R .non H', rt := R } σ H := by
  have nd := sc_law.nd
  have hr4 : Room 4 _ := hr.mono (by decide)
  have hr3 : Room 3 _ := hr.mono (by decide)
  have hr2 : Room 2 _ := hr.mono (by decide)
  refine ⟨_, pss_cons (ps_asg (pe_tup (pa_cons (pe_c HThr hr (by rfl) (pa_cons (pe_callTy call_tuple_of (by rfl) T.tuple PyProof.Rows.boot_tuple (pa_cons (pv 2) pa_nil)) pa_nil)) (pa_cons (pe_lst pa_nil) pa_nil))) (pg_tup (by rfl) (pgs_cons (pg_name (i := 9) nd rfl (.inr rfl)) (pgs_cons (pg_name (i := 10) nd rfl (.inl rfl)) pgs_nil))))
    (pss_cons (ps_for PassesOwn.never rfl (pi_list (pv 2)) (pg_tup (by rfl) (pgs_cons (pg_name (i := 11) nd rfl (.inl rfl)) (pgs_cons (pg_name (i := 12) nd rfl (.inl rfl)) pgs_nil)))
      (pss_one (ps_expr (pe_bm PySem.F.plainAttrs_list PySem.F.slot_list_append PySem.F.type_list_append mt_append (pv 10) (pa_cons (pe_lst (pa_cons (pe_c HT hr2 (by rfl) (pa_cons (pv 11) (pa_cons (pv 11) pa_nil))) (pa_cons (pe_c HT hr2 (by rfl) (pa_cons (pv 11) (pa_cons (pv 12) pa_nil)))
        (pa_cons (pe_c HT hr2 (by rfl) (pa_cons (pv 12) (pa_cons (pv 12) pa_nil))) (pa_cons (pv 11) (pa_cons (pv 12) (pa_cons (pe_tup (pa_cons pe_int (pa_cons pe_int pa_nil))) pa_nil))))))) pa_nil)))))
    (pss_cons (ps_if (pt_cmpR op_ne (pe_cmpR op_isN (pv 9) pe_non (nomark _)) (pe_cmpR op_lt (pe_c HFr hr3 (by rfl) (pa_cons (pv 10) pa_nil)) pe_int (nomark _)) (nomark _)) pss_never pss_nil)
    (pss_cons (ps_if (pt_cmpR op_isN (pv 9) pe_non (nomark _)) (pss_one (ps_ret pe_bl)) pss_nil)
    (pss_cons (ps_if (PW.pt (pw_or (pt_not (pt_val (pe_callB call_isi (by rfl) T.isinst boot_isinstance (pa_cons (pv 9) (pa_cons (pe_bltn (v := .ty "tuple") (by rfl) T.tuple PyProof.Rows.boot_tuple rfl) pa_nil)))))
        (pw_or1 (pt_cmpR op_ne (pe_callB call_len_seq (by rfl) T.len PySem.boot_len (pa_cons (pv 9) pa_nil)) pe_int (nomark _))))) pss_never pss_nil)
    (pss_cons (ps_if (pt_cmpR (op_neD hr.units) (pe_lc (own := [("_law_one", 15)]) (g := gName 15) (tt := tTest (tOp (rNeD K) (tCall (spX (dLeft K)) [] E0 (tCons (tVar 9) (tCons (tVar 15) tNil))) (tTup (tCons (tC (.int 0)) (tCons (tC (.int 1)) tNil))))) rfl nd (pi_list (pv 2)) (blkOk_by (N := nLaw) (sc := defScope sLaw) (by decide +kernel))
        (fun _ _ _ _ _ => pg_name (i := 15) nd rfl (Or.inl rfl)) (fun _ _ _ _ _ => pts_one (pt_cmpR (r := rNeD K) (op_neD hr.units) (pe_c HLe hr4 (by rfl) (pa_cons (pv 9) (pa_cons (pv 15) pa_nil))) (pe_tup (pa_cons pe_int (pa_cons pe_int pa_nil))) (nomark _))) (fun _ _ _ _ _ => pv 15)) (pe_lst pa_nil) (nomark _)) pss_never pss_nil)
    (pss_cons (ps_set (i := 13) nd rfl (.inl rfl) (pe_ix ix_list (pe_lc (own := [("_law_one", 15)]) (g := gName 15) (tt := tTest (tOp rNe (tVar 15) (tC (.int 0)))) rfl nd (pi_tup (pv 9)) (blkOk_by (N := nLaw) (sc := defScope sLaw) (by decide +kernel))
        (fun _ _ _ _ _ => pg_name (i := 15) nd rfl (Or.inl rfl)) (fun _ _ _ _ _ => pts_one (pt_cmpR op_ne (pv 15) pe_int (nomark _))) (fun _ _ _ _ _ => pv 15)) pe_int (fun _ _ => rfl)))
    (pss_cons (ps_setLc (i := 14) (own := [("_law_part", 17)]) (g := gName 17) (tt := tTest (tOp (rEqD K) (tLc (iTup K (tVar 9)) (gName 15) (tTest (tOp rNe (tOp (rI (fun _ j => 0 < j) fun i j => .int (i % j)) (tVar 15) (tVar 17)) (tC (.int 0)))) (tVar 15) [15]) (tLst tNil))) rfl nd rfl rfl (sw_true rfl rfl rfl (by decide +kernel))
        (pi_range2 (by rfl) T.range (pa_cons pe_int (pa_cons pe_int pa_nil))) (blkOk_by (N := nLaw) (sc := defScope sLaw) (by decide +kernel)) (fun _ _ _ _ _ => pg_name (i := 17) nd rfl (Or.inr rfl))
        (fun _ _ _ _ _ => pts_one (pt_cmpR (r := rEqD K) (op_eqD hr.units) (pe_lc (own := [("_law_one", 15)]) (wi := iTup K (tVar 9)) (g := gName 15) (tt := tTest (tOp rNe (tOp (rI (fun _ j => 0 < j) fun i j => .int (i % j)) (tVar 15) (tVar 17)) (tC (.int 0)))) rfl nd (pi_tup (pv 9))
          (blkOk_by (N := nLaw) (sc := relS (lcScope (stValue ((defBody sLaw).getD 12 (.Pass ⟨0, 0, 0, 0⟩)))) (defScope sLaw)) (by decide +kernel)) (fun _ _ _ _ _ => pg_name (i := 15) nd rfl (Or.inl rfl)) (fun _ _ _ _ _ => pts_one (pt_cmpR op_ne (pe_op op_mod (pv 15) (pv 17)) pe_int (nomark _))) (fun _ _ _ _ _ => pv 15)) (pe_lst pa_nil) (nomark _)))
        (fun _ _ _ _ _ => pv 17))
    (pss_one (ps_ret (pe_and (pe_cmpR op_gt (pv 13) pe_int (nomark _)) (pe_and (pe_cmpR (op_eqD hr.units) (pv 14) (pe_lst pa_nil) (nomark _)) (pe_one (pe_or (pe_cmpR op_isN (pv 5) pe_non (nomark _)) (pe_one (pe_cmpR (op_eqD hr.units) (pv 5) (pv 9) (nomark _)))))))))))))))), ?_⟩
  intro R σ H hst kq
  obtain ⟨a0, a1, a3, a4, o6, o7, o8, L, xs, dv, pts, rfl, h5, hok, hL, hxs, hdue⟩ := hst
  refine tseq ?_
  refine s_GNpair (P := thrM K pts) (g_call (ga_cons (g_tupleV (g_vE rfl) (SqL.of hL) hxs) ga_nil) ⟨pts, h5, hok, rfl, rfl⟩) fun v Rl H1 nRl e1 hv hRl => ?_
  have hL1 := e1 _ _ hL
  have hxs1 := hxs.mono (.same e1)
  have hdue1 := hdue.tk (.same e1)
  have nLR : L ≠ Rl := ne_of_none hL nRl
  have hml : (tabM K (mat pts)).length = 5 := by unfold tabM mat; simp [h5]
  dsimp only
  refine tseq ?_
  refine s_for (ws := [Rl]) (srck_list (g_vE rfl) (SqL.of hL1) hxs1 (LsAt.one hRl) (by simpa using nLR)) (fun i σ H2 => ∃ o11 o12, σ = [a0, a1, some (.ref L), a3, a4, some dv, o6, o7, o8, some v, some (.ref Rl), o11, o12, none, none, none, none, none] ∧ ∃ acc, H2 Rl = some (.lst acc) ∧ AllL [Rl] ((tabM K (mat pts)).take i) acc H2)
    (fun H2 e2 => ⟨none, none, rfl, [], e2 _ _ hRl, trivial⟩) (fun Hb i y σ H3 H4 P' eb hP k3 hp e4 hy => ?_) fun σ H3 k3 hp => ?_
  · obtain ⟨o11, o12, rfl, acc, hacc, hall⟩ := hp
    obtain ⟨p, hp, rfl⟩ := map_get hP
    obtain ⟨T1, y1, y2, rfl, hs1, hy1, hy2⟩ := tp2 hy
    have ok := (hok p (List.mem_of_getElem? hp)).bd
    have hacc4 := e4 _ _ hacc
    have hall4 := hall.same e4
    have hlen := hall.length
    rw [List.length_take] at hlen
    refine gg_tup2 hs1 gg_name gg_name _ ?_
    have ga : G (tVar 11) [a0, a1, some (.ref L), a3, a4, some dv, o6, o7, o8, some v, some (.ref Rl), some y1, some y2, none, none, none, none, none] H4 (RtM K p.1) := g_var rfl hy1
    have gb : G (tVar 12) [a0, a1, some (.ref L), a3, a4, some dv, o6, o7, o8, some v, some (.ref Rl), some y1, some y2, none, none, none, none, none] H4 (RtM K p.2) := g_var rfl hy2
    have gL := gl_lst (ga_cons (g_ltimes (E := E0) ga ga ok.1.lb ok.1.lb) (ga_cons (g_ltimes (E := E0) ga gb ok.1.lb ok.2.lb) (ga_cons (g_ltimes (E := E0) gb gb ok.2.lb ok.2.lb) (ga_cons ga (ga_cons gb (ga_cons (g_one (K := K)) ga_nil))))))
    have htab : (tabM K (mat pts))[i]? = some (rowM K (terms p)) := by
      unfold tabM mat
      rw [List.getElem?_map, List.getElem?_map, hp]
      rfl
    refine s_appL (ps := rowM K (terms p)) hacc4 (g_vE rfl) gL (by omega) fun q ys H5 nq e5 hq hys => ?_
    have hacc5 := e5 _ _ hacc4
    have nqR : q ≠ Rl := (ne_of_none hacc4 nq).symm
    have kp : Kp [Rl] H5 (upd H5 Rl (.lst (acc ++ [.ref q]))) := (Kp.refl H5).set (by simp)
    refine ⟨k3.trans ((Kp.same (e4.trans e5)).trans kp), some y1, some y2, rfl, acc ++ [.ref q], upd_same, ?_⟩
    rw [List.take_add_one, htab]
    exact AllL.mono kp (LsAt.one hacc5) (AllL.snoc ⟨q, ys, rfl, by simpa using nqR, hq, hys⟩ (hall4.same e5))
  · obtain ⟨o11, o12, rfl, acc, hacc, hall⟩ := hp
    rw [List.length_map, List.take_of_length_le (by omega)] at hall
    have hT : Tab K [] Rl (mat pts) H3 := ⟨acc, hacc, hall.weak fun b hb => absurd hb (by simp)⟩
    have hL3 : H3 L = some (.lst xs) := k3 _ _ hL1 (by simpa using nLR)
    have tk : TKp H1 H3 := k3.tk (LsAt.one hRl)
    have hxs3 := hxs1.mono tk
    have hdue3 := hdue1.tk tk
    have hv3 := (thrM K pts).mono _ _ _ tk hv
    obtain ⟨_, ke⟩ := Lk.run (mat_shape h5) (mat_rep h5 hok) 6
    have gF := g_free (E := E0) (σ := [a0, a1, some (.ref L), a3, a4, some dv, o6, o7, o8, some v, some (.ref Rl), o11, o12, none, none, none, none, none]) (te := tVar 10) h5 hok (g_vE rfl) hT
    rw [ke] at gF
    have g2 := g_I0 (g := fun i j => V.bl (decide (i < j))) gF (g_int (i := 5))
    have g1 := g_isN (x := v) (σ := [a0, a1, some (.ref L), a3, a4, some dv, o6, o7, o8, some v, some (.ref Rl), o11, o12, none, none, none, none, none]) (ta := tVar 9) (H := H3) (g_vE rfl)
    unfold thrM at hv3
    dsimp only
    refine tseq ?_
    by_cases hh : (pRun (mat pts) 6).2.length < 5
    · rw [if_pos hh] at hv3
      have hvn : v = .non := hv3
      subst hvn
      rw [decide_eq_true (show (((pRun (mat pts) 6).2.length : Nat) : Int) < 5 by omega)] at g2
      refine s_ifF (gt_test (g_eq (g_neB (g_eq g1 (by rw [decide_eq_true rfl])) g2) rfl)) fun H4 e4 => ?_
      dsimp only [tNext]
      refine tseq ?_
      refine s_ifT (gt_test (g_eq (g1.up e4) (by rw [decide_eq_true rfl]))) fun H5 e5 => ?_
      exact s_retG (P := BM true) (g_c rfl) fun u H6 e6 hu => by
        have hu' : u = .bl true := hu
        subst hu'
        exact kq H6
    · rw [if_neg hh] at hv3
      have fo := found_ok h5 hok hh
      rw [decide_eq_false (show ¬ (((pRun (mat pts) 6).2.length : Nat) : Int) < 5 by omega)] at g2
      generalize whole (foundV (pRun (mat pts) 6).1 (pRun (mat pts) 6).2 (freeOf (pRun (mat pts) 6).2) 5) = w' at hv3 fo
      have hvr : ¬ v = .non := fun z => by
        obtain ⟨a, _, e, _⟩ := hv3
        rw [z] at e
        cases e
      rw [decide_eq_false hvr] at g1
      refine s_ifF (gt_test (g_eq (g_neB g1 g2) rfl)) fun H4 e4 => ?_
      dsimp only [tNext]
      refine tseq ?_
      refine s_ifF (gt_test (g1.up e4)) fun H5 e5 => ?_
      dsimp only [tNext]
      have e35 := e4.trans e5
      have hv5 := MP.mono _ _ _ _ (.same e35) hv3
      have gv : G (tVar 9) [a0, a1, some (.ref L), a3, a4, some dv, o6, o7, o8, some v, some (.ref Rl), o11, o12, none, none, none, none, none] H5 (NsM K w') := g_var rfl hv5
      refine tseq ?_
      refine s_ifF (gt_or (a := false) (b := false) (gt_not (a := true) (gt_val (g_isi gv (fun v H' e => tyx_tp e) (b := true) (by decide +kernel)))) fun _ =>
        gt_test (g_eq (g_neI (i := 6) (j := 6) (g_eq (g_lenT gv) (by rw [List.length_map, fo.len]; rfl)) g_int) rfl)) fun H6 e6 => ?_
      dsimp only [tNext]
      have e36 := e35.trans e6
      have hv6 := MP.mono _ _ _ _ (.same e36) hv3
      have hL6 := e36 _ _ hL3
      have hxs6 := hxs3.mono (.same e36)
      have hdue6 := hdue3.tk (.same e36)
      -- the left sides
      have gLe : GL (tLc (iList K (tVar 2)) (gName 15) (tTest (tOp (rNeD K) (tCall (spX (dLeft K)) [] E0 (tCons (tVar 9) (tCons (tVar 15) tNil))) (tTup (tCons (tC (.int 0)) (tCons (tC (.int 1)) tNil))))) (tVar 15) [15])
          [a0, a1, some (.ref L), a3, a4, some dv, o6, o7, o8, some v, some (.ref Rl), o11, o12, none, none, none, none, none] H6 [] := by
        refine gl_lcF (os := List.replicate 5 none) (src_list (g_vE rfl) (SqL.of hL6) hxs6) (by rw [List.length_map, h5]; rfl) (by rw [List.length_map, h5]; decide) fun i u H' P' o hP ho e' hu => ?_
        obtain ⟨p, hp, rfl⟩ := map_get hP
        have hm := List.mem_of_getElem? hp
        have ok := (hok p hm).bd
        have ho' : o = none := (List.mem_replicate.mp (List.mem_of_getElem? ho)).2
        subst ho'
        refine ⟨_, gg_name, rfl, gt_test (g_eq (g_neR (g_call (P := RtM K (leftQ w' p)) (ga_cons (g_var (i := 9) rfl (MP.mono _ _ _ _ (.same e') hv6)) (ga_cons (g_var (i := 15) rfl hu) ga_nil)) ⟨w', p, fo.len, fo.bd, ok.1, ok.2, rfl, rfl⟩) g_zero) ?_), fun Q' hQ' => by cases hQ'⟩
        rw [fo.left p hm, decide_eq_false (by simp)]
        rfl
      refine tseq ?_
      refine s_ifF (gt_test (g_neNil0 gLe)) fun H7 e7 => ?_
      dsimp only [tNext]
      have e37 := e36.trans e7
      have hv7 := MP.mono _ _ _ _ (.same e37) hv3
      have hdue7 := hdue6.tk (.same e7)
      -- first
      obtain ⟨z, rr, hfilt, hz0⟩ := first_pos fo.pos
      have gFi : GL (tLc (iTup K (tVar 9)) (gName 15) (tTest (tOp rNe (tVar 15) (tC (.int 0)))) (tVar 15) [15])
          [a0, a1, some (.ref L), a3, a4, some dv, o6, o7, o8, some v, some (.ref Rl), o11, o12, none, none, none, none, none] H7 ((z :: rr).map fun z => IM z) := by
        rw [← hfilt, ← os_filter (fun x : Int => x ≠ 0) (fun z => IM z)]
        refine gl_lcF (src_tup (g_var rfl hv7)) (by rw [List.length_map, List.length_map]) (by rw [List.length_map, fo.len]; decide) fun i u H' P' o hP ho e' hu => ?_
        obtain ⟨y, hy, rfl⟩ := map_get hP
        obtain ⟨y', hy', rfl⟩ := map_get ho
        rw [hy] at hy'
        cases hy'
        refine ⟨_, gg_name, rfl, gt_test (g_eq (g_neI (i := y) (j := 0) (g_var rfl hu) g_int) ?_), fun Q' hQ' => ?_⟩
        · by_cases h0 : y = 0
          · rw [if_neg (by simp [h0]), decide_eq_false (by simp [h0])]; rfl
          · rw [if_pos h0, decide_eq_true h0]; rfl
        · by_cases h0 : y = 0
          · rw [if_neg (by simp [h0])] at hQ'; cases hQ'
          · rw [if_pos h0] at hQ'
            cases hQ'
            exact g_var rfl hu
      refine tseq ?_
      refine s_set (P := IM z) (g_ixN (K := K) 0 gFi rfl) fun v13 H8 e8 hv13 => ?_
      have hv13' : v13 = .int z := hv13
      subst hv13'
      have e38 := e37.trans e8
      have hv8 := MP.mono _ _ _ _ (.same e38) hv3
      -- shared
      have gSh : GL (tLc (iRng2 (tCons (tC (.int 2)) (tCons (tC (.int 60)) tNil))) (gName 17) (tTest (tOp (rEqD K) (tLc (iTup K (tVar 9)) (gName 15) (tTest (tOp rNe (tOp (rI (fun _ j => 0 < j) fun i j => .int (i % j)) (tVar 15) (tVar 17)) (tC (.int 0)))) (tVar 15) [15]) (tLst tNil))) (tVar 17) [17])
          [a0, a1, some (.ref L), a3, a4, some dv, o6, o7, o8, some v, some (.ref Rl), o11, o12, some (.int z), none, none, none, none] H8 [] := by
        refine gl_lcF (os := List.replicate 58 none) (src_rng2 58 (g_int (i := 2)) (g_int (i := 60)) (by decide) (by decide) (by decide)) (by rw [rngM_len]; rfl) (by rw [rngM_len]; decide) fun i u H' P' o hP ho e' hu => ?_
        obtain ⟨hi, rfl⟩ := rngM_get hP
        have ho' : o = none := (List.mem_replicate.mp (List.mem_of_getElem? ho)).2
        subst ho'
        refine ⟨_, gg_name, rfl, gt_test (g_eq (g_eqNil (l := w'.filter fun x => decide (x % ((2 : Int) + (i : Int)) ≠ 0)) ?_) ?_), fun Q' hQ' => by cases hQ'⟩
        · rw [← os_filter (fun x : Int => x % ((2 : Int) + (i : Int)) ≠ 0) (fun z => IM z)]
          refine gl_lcF (src_tup (g_var rfl (MP.mono _ _ _ _ (.same e') hv8))) (by rw [List.length_map, List.length_map]) (by rw [List.length_map, fo.len]; decide) fun i2 u2 H2 P2 o2 hP2 ho2 e2 hu2 => ?_
          obtain ⟨y, hy, rfl⟩ := map_get hP2
          obtain ⟨y', hy', rfl⟩ := map_get ho2
          rw [hy] at hy'
          cases hy'
          have gm := g_mod (σ := (wipe ((wipe [a0, a1, some (.ref L), a3, a4, some dv, o6, o7, o8, some v, some (.ref Rl), o11, o12, some (.int z), none, none, none, none] [17]).set 17 (some u)) [15]).set 15 (some u2)) (i := y) (j := (2 : Int) + (i : Int)) (t := tVar 15) (u := tVar 17) (H := H2) (g_var rfl hu2) (g_var (i := 17) rfl (show (IM ((2 : Int) + (i : Int))).p u H2 from hu)) (by omega)
          refine ⟨_, gg_name, rfl, gt_test (g_eq (g_neI (i := y % ((2 : Int) + (i : Int))) (j := 0) gm g_int) ?_), fun Q' hQ' => ?_⟩
          · by_cases h0 : y % ((2 : Int) + (i : Int)) = 0
            · rw [if_neg (by simp [h0]), decide_eq_false (by simp [h0])]; rfl
            · rw [if_pos h0, decide_eq_true h0]; rfl
          · by_cases h0 : y % ((2 : Int) + (i : Int)) = 0
            · rw [if_neg (by simp [h0])] at hQ'; cases hQ'
            · rw [if_pos h0] at hQ'
              cases hQ'
              exact g_var rfl hu2
        · have := no_shared fo.prim i
          cases hc : (w'.filter fun x => decide (x % ((2 : Int) + (i : Int)) ≠ 0)) with
          | nil => exact absurd hc this
          | cons _ _ => rfl
      dsimp only
      refine tseq ?_
      refine s_setL gSh fun Sh ys H9 nS e9 hSh hys => ?_
      have e39 := e38.trans e9
      have hv9 := MP.mono _ _ _ _ (.same e39) hv3
      have hdue9 := hdue7.tk (.same (e8.trans e9))
      rw [mgnil hys] at hSh
      have ga := g_I0 (g := fun i j => V.bl (decide (j < i))) (g_vE (σ := [a0, a1, some (.ref L), a3, a4, some dv, o6, o7, o8, some v, some (.ref Rl), o11, o12, some (.int z), some (.ref Sh), none, none, none]) (H := H9) (i := 13) (v := .int z) rfl) (g_int (i := 0))
      rw [decide_eq_true hz0] at ga
      have gb := g_eqNilV (K := K) (l := []) (σ := [a0, a1, some (.ref L), a3, a4, some dv, o6, o7, o8, some v, some (.ref Rl), o11, o12, some (.int z), some (.ref Sh), none, none, none]) (H := H9) (ta := tVar 14) (p := Sh) (g_vE rfl) hSh
      have gc := g_isN (x := dv) (σ := [a0, a1, some (.ref L), a3, a4, some dv, o6, o7, o8, some v, some (.ref Rl), o11, o12, some (.int z), some (.ref Sh), none, none, none]) (ta := tVar 5) (H := H9) (g_vE rfl)
      have gd : G (tOrV (tOp rIsNon (tVar 5) (tC .non)) (tOp (rEqD K) (tVar 5) (tVar 9))) [a0, a1, some (.ref L), a3, a4, some dv, o6, o7, o8, some v, some (.ref Rl), o11, o12, some (.int z), some (.ref Sh), none, none, none] H9 (BM true) := by
        rcases hdue9 with h | ⟨vd, h1, h2, h3, h4⟩
        · exact g_eq (g_or (a := true) (b := true) (g_eq gc (by rw [decide_eq_true h])) fun z => (nomatch z)) rfl
        · have ew := fo.due vd h1 h2 h3
          have hdn : ¬ dv = .non := fun z => by
            obtain ⟨a, _, e, _⟩ := h4
            rw [z] at e
            cases e
          exact g_eq (g_or (a := false) (b := true) (g_eq gc (by rw [decide_eq_false hdn])) fun _ => g_eqNs (by rw [ew, fo.len]) fo.len ew (g_var rfl h4) (g_var rfl hv9)) rfl
      refine s_retG (P := BM true) (g_eq (g_and ga fun _ => g_and gb fun _ => gd) rfl) fun u H10 e10 hu => by
        have hu' : u = .bl true := hu
        subst hu'
        exact kq H10
end
end K54
namespace K54
open PySem PySem.Spec PyProof.Rows L2
/-! ### the points drawn, between and on the conic: with a small common divisor -/
theorem dvt (X D : Int) : Rat.divInt X D = (X : Rat) / (D : Rat) := Rat.divInt_eq_div X D
theorem SmallP.ok {p : Pt} (h : SmallP p) : PtOk p := by
  obtain ⟨⟨⟨X, hX, e1⟩, _⟩, ⟨Y, hY, e2⟩, _⟩ := h
  exact ⟨X, Y, 12, by decide, by decide, Nat.lt_of_le_of_lt hX (by decide), Nat.lt_of_le_of_lt hY (by decide), e1, e2⟩
theorem btw_small {p q : Rat} {X Y : Int} {at' : Int} (e1 : p = Rat.divInt X 12) (e2 : q = Rat.divInt Y 12) : btw p q (at' : Rat) = Rat.divInt (X + at' * (Y - X)) 12 := by
  rw [e1, e2, dvt, dvt, dvt, Rat.intCast_add, Rat.intCast_mul, Rat.intCast_sub]
  unfold btw
  grind
theorem middle_ok {p q : Pt} {i : Nat} (hp : SmallP p) (hq : SmallP q) (hi : i < 3) : PtOk (btw p.1 q.1 ((2 + (i : Int) : Int) : Rat), btw p.2 q.2 ((2 + (i : Int) : Int) : Rat)) := by
  obtain ⟨⟨⟨X, hX, e1⟩, _⟩, ⟨Y, hY, e2⟩, _⟩ := hp
  obtain ⟨⟨⟨X', hX', e1'⟩, _⟩, ⟨Y', hY', e2'⟩, _⟩ := hq
  refine ⟨X + (2 + (i : Int)) * (X' - X), Y + (2 + (i : Int)) * (Y' - Y), 12, by decide, by decide, ?_, ?_, btw_small e1 e1', btw_small e2 e2'⟩
  · have : i = 0 ∨ i = 1 ∨ i = 2 := by omega
    rcases this with rfl | rfl | rfl <;> omega
  · have : i = 0 ∨ i = 1 ∨ i = 2 := by omega
    rcases this with rfl | rfl | rfl <;> omega
theorem abs3 {b W X : Int} (hW : W.natAbs ≤ 30) (hX : X.natAbs ≤ 72) : (b * (W * X)).natAbs ≤ b.natAbs * 2160 := by
  rw [Int.natAbs_mul, Int.natAbs_mul]
  exact Nat.mul_le_mul_left _ (Nat.mul_le_mul hW hX)
theorem abs2 {b W : Int} (hW : W.natAbs ≤ 30) : (b * W).natAbs ≤ b.natAbs * 30 := by
  rw [Int.natAbs_mul]
  exact Nat.mul_le_mul_left _ hW
theorem abs_sum3 {x y z : Int} {a b c : Nat} (h1 : x.natAbs ≤ a) (h2 : y.natAbs ≤ b) (h3 : z.natAbs ≤ c) : (x + y + z).natAbs ≤ a + b + c := by omega
theorem bnd25 {a b c : Nat} (h : a + b + c ≤ 25) : a * 2160 + b * 2160 + c * 2160 < 2 ^ 16 := by omega
theorem bnd12 {a b c : Nat} {T : Int} (h : a + b + c ≤ 25) (hT : T.natAbs ≤ a * 30 + b * 30 + c * 30) : (12 * T).natAbs < 2 ^ 14 := by omega
theorem ne12 {T : Int} (h : T ≠ 0) : 12 * T ≠ 0 := by omega
theorem lad_small {u v w t : Rat} {W0 W1 W2 b0 b1 b2 : Int} (eu : u = Rat.divInt W0 6) (ev : v = Rat.divInt W1 6) (ew : w = Rat.divInt W2 6) (h0 : (1 - t) * (1 - t) = (b0 : Rat)) (h1 : 2 * t * (1 - t) = (b1 : Rat)) (h2 : t * t = (b2 : Rat)) :
    lad u v w t = ((b0 * W0 + b1 * W1 + b2 * W2 : Int) : Rat) / 6 := by
  rw [lad_eq, h0, h1, h2, eu, ev, ew, dvt, dvt, dvt, Rat.intCast_add, Rat.intCast_add, Rat.intCast_mul, Rat.intCast_mul, Rat.intCast_mul]
  grind
theorem lad_smallX {u v w t p q r : Rat} {W0 W1 W2 X0 X1 X2 b0 b1 b2 : Int} (eu : u = Rat.divInt W0 6) (ev : v = Rat.divInt W1 6) (ew : w = Rat.divInt W2 6) (ep : p = Rat.divInt X0 12) (eq : q = Rat.divInt X1 12) (er : r = Rat.divInt X2 12)
    (h0 : (1 - t) * (1 - t) = (b0 : Rat)) (h1 : 2 * t * (1 - t) = (b1 : Rat)) (h2 : t * t = (b2 : Rat)) :
    lad (u * p) (v * q) (w * r) t = ((b0 * (W0 * X0) + b1 * (W1 * X1) + b2 * (W2 * X2) : Int) : Rat) / 72 := by
  rw [lad_eq, h0, h1, h2, eu, ev, ew, ep, eq, er]
  simp only [dvt, Rat.intCast_add, Rat.intCast_mul]
  grind
theorem quot_small {S T : Int} (hT : T ≠ 0) : ((S : Rat) / 72) / ((T : Rat) / 6) = Rat.divInt S (12 * T) := by
  rw [dvt, Rat.intCast_mul]
  have : (T : Rat) ≠ 0 := fun z => hT (Rat.intCast_eq_zero_iff.mp z)
  grind
theorem conic_ok {A B C : Pt} {u v w t : Rat} {b0 b1 b2 : Int} (hA : SmallP A) (hB : SmallP B) (hC : SmallP C) (hu : SmallW u) (hv : SmallW v) (hw : SmallW w)
    (h0 : (1 - t) * (1 - t) = (b0 : Rat)) (h1 : 2 * t * (1 - t) = (b1 : Rat)) (h2 : t * t = (b2 : Rat)) (hb : b0.natAbs + b1.natAbs + b2.natAbs ≤ 25) (hW : lad u v w t ≠ 0) : PtOk (cpt A B C u v w t) := by
  obtain ⟨⟨⟨X0, hX0, a1⟩, _⟩, ⟨Y0, hY0, a2⟩, _⟩ := hA
  obtain ⟨⟨⟨X1, hX1, b1'⟩, _⟩, ⟨Y1, hY1, b2'⟩, _⟩ := hB
  obtain ⟨⟨⟨X2, hX2, c1⟩, _⟩, ⟨Y2, hY2, c2⟩, _⟩ := hC
  obtain ⟨W0, wp0, wl0, eu⟩ := hu
  obtain ⟨W1, wp1, wl1, ev⟩ := hv
  obtain ⟨W2, wp2, wl2, ew⟩ := hw
  have el := lad_small eu ev ew h0 h1 h2
  have hT : b0 * W0 + b1 * W1 + b2 * W2 ≠ 0 := fun z => hW (by rw [el, z]; grind)
  have k0 : W0.natAbs ≤ 30 := by omega
  have k1 : W1.natAbs ≤ 30 := by omega
  have k2 : W2.natAbs ≤ 30 := by omega
  have q0 := abs2 (b := b0) k0
  have q1 := abs2 (b := b1) k1
  have q2 := abs2 (b := b2) k2
  have x0 := abs3 (b := b0) k0 hX0
  have x1 := abs3 (b := b1) k1 hX1
  have x2 := abs3 (b := b2) k2 hX2
  have y0 := abs3 (b := b0) k0 hY0
  have y1 := abs3 (b := b1) k1 hY1
  have y2 := abs3 (b := b2) k2 hY2
  refine ⟨b0 * (W0 * X0) + b1 * (W1 * X1) + b2 * (W2 * X2), b0 * (W0 * Y0) + b1 * (W1 * Y1) + b2 * (W2 * Y2), 12 * (b0 * W0 + b1 * W1 + b2 * W2), ne12 hT, bnd12 hb (abs_sum3 q0 q1 q2), Nat.lt_of_le_of_lt (abs_sum3 x0 x1 x2) (bnd25 hb), Nat.lt_of_le_of_lt (abs_sum3 y0 y1 y2) (bnd25 hb), ?_, ?_⟩
  · show lad (u * A.1) (v * B.1) (w * C.1) t / lad u v w t = _
    rw [lad_smallX eu ev ew a1 b1' c1 h0 h1 h2, el, quot_small hT]
  · show lad (u * A.2) (v * B.2) (w * C.2) t / lad u v w t = _
    rw [lad_smallX eu ev ew a2 b2' c2 h0 h1 h2, el, quot_small hT]
def tsL : List Int := [0, 1, 2, -1, -2]
theorem conic_all {A B C : Pt} {u v w : Rat} (hA : SmallP A) (hB : SmallP B) (hC : SmallP C) (hu : SmallW u) (hv : SmallW v) (hw : SmallW w) : ∀ t ∈ tsL, lad u v w (t : Rat) ≠ 0 → PtOk (cpt A B C u v w (t : Rat)) := fun t ht hl => by
  unfold tsL at ht
  simp only [List.mem_cons, List.not_mem_nil, or_false] at ht
  rcases ht with rfl | rfl | rfl | rfl | rfl
  · exact conic_ok (b0 := 1) (b1 := 0) (b2 := 0) hA hB hC hu hv hw (by decide +kernel) (by decide +kernel) (by decide +kernel) (by decide) hl
  · exact conic_ok (b0 := 0) (b1 := 0) (b2 := 1) hA hB hC hu hv hw (by decide +kernel) (by decide +kernel) (by decide +kernel) (by decide) hl
  · exact conic_ok (b0 := 1) (b1 := -4) (b2 := 4) hA hB hC hu hv hw (by decide +kernel) (by decide +kernel) (by decide +kernel) (by decide) hl
  · exact conic_ok (b0 := 4) (b1 := -4) (b2 := 1) hA hB hC hu hv hw (by decide +kernel) (by decide +kernel) (by decide +kernel) (by decide) hl
  · exact conic_ok (b0 := 9) (b1 := -12) (b2 := 4) hA hB hC hu hv hw (by decide +kernel) (by decide +kernel) (by decide +kernel) (by decide) hl
end K54
namespace K54
open PySem PySem.Spec PyProof.Rows L2
/-! ### the law's conic points -/
theorem room65 {k : Nat} {A : Around} (r : Room k A) : A.units + 65 < cLine := by
  have := r.un
  omega
def cO (A B C : Pt) (u v w : Rat) (t : Int) : Option Pt := if lad u v w (t : Rat) = 0 then none else some (cpt A B C u v w (t : Rat))
def oM (K : PySem.W.Frag) : Option Pt → MP
  | none => EqM .non
  | some p => PtM K p
def oD : Option Pt → PyData
  | none => .none
  | some p => .tuple [.tuple [.int p.1.num, .int p.1.den], .tuple [.int p.2.num, .int p.2.den]]
section
variable {K : PySem.W.Frag} {σ : L2.St} {H H' : Hp} {te ta tb tm : TE} {D : Ends} {P Q : MP} {a sc : Addr}
theorem pt_dp {p : Pt} {v : V} (h : (PtM K p).p v H) : Dp K H v (oD (some p)) := by
  obtain ⟨a, x, y, rfl, hs, hx, hy⟩ := tp2 h
  exact .tup hs (.cons (rt_dp hx) (.cons (rt_dp hy) .nil))
theorem o_dp {o : Option Pt} {v : V} (h : (oM K o).p v H) : Dp K H v (oD o) := by
  cases o with
  | none =>
    have h' : v = .non := h
    subst h'
    exact .non
  | some p => exact pt_dp h
theorem o_dps : ∀ {l : List (Option Pt)} {xs : List V}, AllP (l.map (oM K)) xs H → DpAll K H xs (l.map oD)
  | [], [], _ => .nil
  | o :: l, x :: xs, h => .cons (o_dp h.1) (o_dps h.2)
  | [], _ :: _, h => h.elim
  | _ :: _, [], h => h.elim
theorem o_shaped {l : List (Option Pt)} (h : l.length = 5) : SeqAt.shaped (.list (l.map oD)) = true := by
  match l, h with
  | [a, b, c, d, e], _ => cases a <;> cases b <;> cases c <;> cases d <;> cases e <;> rfl
theorem o_any : ∀ l : List (Option Pt), ((l.map oD).any fun z => PyData.eqv z .none) = l.any Option.isNone
  | [] => rfl
  | a :: l => by
    rw [List.map_cons, List.any_cons, List.any_cons, o_any l]
    cases a <;> rfl
/-- None not in some -/
theorem g_notIn {l : List (Option Pt)} {xs : List V} {p : Addr} (h5 : l.length = 5) (ha : G ta σ H (EqM (.ref p))) (hp : H p = some (.lst xs)) (hx : AllP (l.map (oM K)) xs H) : G (tOp (rNotInD K) (tC .non) ta) σ H (BM (!l.any Option.isNone)) := fun H1 e Q q =>
  ha H1 e _ fun v H2 e2 hv => ⟨.none, l.map oD, .non, by
    rw [show v = V.ref p from hv]
    exact .lst (SqL.of ((e.trans e2) _ _ hp)) (o_dps (hx.mono (.same (e.trans e2)))), rfl, o_shaped h5, q _ H2 e2 (by rw [o_any]; rfl)⟩
theorem gl_slice3 {xs : List V} {L : Addr} {p0 p1 p2 p3 p4 : MP} (h : H L = some (.lst xs)) (ha : G ta σ H (EqM (.ref L))) (hx : AllP [p0, p1, p2, p3, p4] xs H) : GL (tSl (rSlL K) ta tNoPart (tPart (tC (.int 3)))) σ H [p0, p1, p2] := fun H1 e Q q =>
  ha H1 e _ fun v H2 e2 hv => ⟨3, rfl, L, xs, hv, SqL.of ((e.trans e2) _ _ h), fun p np => by
    have hx2 := hx.mono (.same (e.trans e2))
    match xs, hx2 with
    | [x0, x1, x2, x3, x4], hx2 =>
      obtain ⟨h0, h1, h2, _⟩ := hx2
      exact q p [x0, x1, x2] _ (Evl.fresh_back e2 np) (e2.trans (same_new np)) upd_same ⟨MP.mono _ _ _ _ (.same (same_new np)) h0, MP.mono _ _ _ _ (.same (same_new np)) h1, MP.mono _ _ _ _ (.same (same_new np)) h2, trivial⟩⟩
/-- base, weights = e, a draw -/
theorem s_GRpair {i j : Nat} {R : V → Hp → Prop} (h : G te σ H P) (hr : RowP K a sc H) (hg : GM K a sc tm σ R) (hm : ∀ v H H', Same H H' → R v H → R v H') (k : ∀ x y H1, Kp [a] H H1 → P.p x H1 → R y H1 → D.nx ((σ.set i (some x)).set j (some y)) H1) :
    tAsg (tTup (tCons te (tCons tm tNil))) (gTup K 2 (gCons (gName i) (gCons (gName j) gNil))) D σ H := h H (Same.refl H) _ fun x H1 e1 hx => hg H1 (hr.same e1) _ fun y H2 hy k2 r2 => ⟨by show 2 ≤ sizeLine; decide, fun T nT => by
  have s3 : Same H2 (upd H2 T (.tup [x, y])) := same_new nT
  exact gg_tup2 (SqT.of upd_same) gg_name gg_name _ (k x y _ (((Kp.same e1).trans k2).trans (.same s3)) (MP.mono _ _ _ _ (.same s3) (MP.mono _ _ _ _ (k2.tk (hr.same e1).ls) hx)) (hm _ _ _ s3 hy))⟩
end
theorem weightsR_same {K : PySem.W.Frag} : ∀ v H H', Same H H' → weightsR K v H → weightsR K v H' := fun v H H' s ⟨x, y, z, h1, h2, h3, h⟩ => ⟨x, y, z, h1, h2, h3, MP.mono _ _ _ _ (.same s) h⟩
theorem oM_some {K : PySem.W.Frag} : ∀ {l : List (Option Pt)}, l.any Option.isNone = false → ∃ pts : List Pt, l = pts.map some ∧ l.map (oM K) = pts.map (PtM K)
  | [], _ => ⟨[], rfl, rfl⟩
  | none :: l, h => by simp at h
  | some p :: l, h => by
    obtain ⟨pts, e1, e2⟩ := oM_some (K := K) (l := l) (by simpa using h)
    exact ⟨p :: pts, by rw [e1]; rfl, by rw [List.map_cons, e2]; rfl⟩
section
variable {P : Program} {w : World} {K : PySem.W.Frag} {mg : Str → Option Value} {base : Heap}
/-- what stands ahead of if way == 1 -/
def LawSt1 (K : PySem.W.Frag) (σ : L2.St) (H : Hp) : Prop := ∃ (a0 o6 : Option V) (rw sc L : Addr) (way : Int) (xs : List V) (pts : List Pt), σ = [a0, some (.ref rw), some (.ref L), some (.int way), some .non, some .non, o6, none, none, none, none, none, none, none, none, none, none, none] ∧
  pts.length = 5 ∧ (∀ p ∈ pts, PtOk p) ∧ H L = some (.lst xs) ∧ AllP (pts.map (PtM K)) xs H ∧ RowP K rw sc H ∧ L ≠ rw ∧ (way = 1 → ∀ p ∈ pts, SmallP p)
theorem law_way1 (T : Txt K mg) (HThr : Has P w K mg base "through_five" ["points"] 5 (spX (dThrough K))) (HT : Has P w K mg base "_law_times" n2L 2 (spX (dLTimes K))) (HFr : Has P w K mg base "_law_free_rows" ["_law_rows"] 3 (spFree K))
    (HLe : Has P w K mg base "_law_left_side" ["_law_numbers", "_law_point_here"] 4 (spX (dLeft K))) (HWt : Has P w K mg base "_law_weights" ["_law_row"] 2 (spR K (weightsR K))) (HCo : Has P w K mg base "conic_point" ["points", "weights", "t"] 5 (spX (dConic K)))
    (HEq : Has P w K mg base "equation" ["points", "weights"] 5 (spX (dEq K))) (fa : Addr) (cdv : Value) (A : Around) (outer : List Env) (s : Shared) (H0 : Hp) (E : XK) (hr : Room 5 (A.deeper (envOfC "law" (defScope sLaw) s.heap.objs.size fa cdv))) :
    ∃ t, PSs (cxOf CX0 P w K mg base nLaw "law" (defScope sLaw) fa cdv A outer s H0 E).nox ((defBody sLaw).drop 4) t ∧ ∀ (R : VK) (σ : L2.St) (H : Hp), LawSt1 K σ H → (∀ H', R (.bl true) H') → t { nx := fun _ H' => R .non H', rt := R } σ H := by
  have nd := sc_law.nd
  have hr2 : Room 2 _ := hr.mono (by decide)
  obtain ⟨tt, htt, tail⟩ := law_tail T HThr HT HFr HLe fa cdv A outer s H0 E hr
  refine ⟨_, pss_cons (ps_if (pt_cmpR op_eq (pv 3) pe_int (nomark _))
    (pss_cons (ps_asg (pe_tup (pa_cons (pe_callTy call_tuple_of (by rfl) T.tuple PyProof.Rows.boot_tuple (pa_cons (pe_slice sl_list (pv 2) po_none (po_some pe_int)) pa_nil)) (pa_cons (pe_c HWt hr2 (by rfl) (pa_cons (pv 1) pa_nil)) pa_nil)))
        (pg_tup (by rfl) (pgs_cons (pg_name (i := 4) nd rfl (.inr rfl)) (pgs_cons (pg_name (i := 7) nd rfl (.inr rfl)) pgs_nil))))
    (pss_cons (ps_setLc (i := 8) (own := [("_law_at", 6)]) (g := gName 6) (tt := tYes) rfl nd rfl rfl (sw_true rfl rfl rfl (by decide +kernel)) (pi_list (pe_lst (pa_cons pe_int (pa_cons pe_int (pa_cons pe_int (pa_cons (pe_un un_neg pe_int) (pa_cons (pe_un un_neg pe_int) pa_nil)))))))
        (blkOk_by (N := nLaw) (sc := defScope sLaw) (by decide +kernel)) (fun _ _ _ _ _ => pg_name (i := 6) nd rfl (Or.inl rfl)) (fun _ _ _ _ _ => pts_nil)
        (fun _ _ _ _ _ => pe_c HCo hr (by rfl) (pa_cons (pv 4) (pa_cons (pv 7) (pa_cons (pe_tup (pa_cons (pv 6) (pa_cons pe_int pa_nil))) pa_nil)))))
    (pss_one (ps_if (pt_cmpR (op_notInD (room65 hr)) pe_non (pv 8) (by rfl))
      (pss_one (ps_asg (pe_tup (pa_cons (pv 8) (pa_cons (pe_c HEq hr (by rfl) (pa_cons (pv 4) (pa_cons (pv 7) pa_nil))) pa_nil))) (pg_tup (by rfl) (pgs_cons (pg_name (i := 2) nd rfl (.inr rfl)) (pgs_cons (pg_name (i := 5) nd rfl (.inl rfl)) pgs_nil))))) pss_nil)))) pss_nil) htt, ?_⟩
  intro R σ H hst kq
  obtain ⟨a0, o6, rw, sc, L, way, xs, pts, rfl, h5, hok, hL, hxs, hrow, nLr, hsm⟩ := hst
  refine tseq ?_
  have gw := g_eqI (σ := [a0, some (.ref rw), some (.ref L), some (.int way), some .non, some .non, o6, none, none, none, none, none, none, none, none, none, none, none]) (H := H) (ta := tVar 3) (i := way) (g_vE rfl) (g_int (i := 1))
  by_cases hw : way = 1
  · rw [decide_eq_true hw] at gw
    have hsm' := hsm hw
    refine s_ifT (gt_test gw) fun H1 e1 => ?_
    have hL1 := e1 _ _ hL
    have hxs1 := hxs.mono (.same e1)
    have hrow1 := hrow.same e1
    match pts, h5, hxs1, hsm', hok with
    | [pA, pB, pC, pD, pE], h5, hxs1, hsm', hok =>
      have sA := hsm' pA (by simp)
      have sB := hsm' pB (by simp)
      have sC := hsm' pC (by simp)
      refine tseq ?_
      refine s_GRpair (P := Tp K [PtM K pA, PtM K pB, PtM K pC]) (a := rw) (sc := sc) (g_tupleL (gl_slice3 hL1 (g_vE rfl) hxs1)) hrow1 (gm_call rfl) weightsR_same fun bs ws H2 k2 hbs hws => ?_
      obtain ⟨u, v, w', su, sv, sw, hws⟩ := hws
      have hL2 : H2 L = some (.lst xs) := k2 _ _ hL1 (by simpa using nLr)
      have hxs2 := hxs1.mono (k2.tk hrow1.ls)
      clear hrow1
      -- some
      have cb : ∀ t ∈ tsL, CBd pA pB pC u v w' (t : Rat) := fun t ht => by
        refine ⟨⟨sA.1.2.mono (by decide), sA.2.2.mono (by decide)⟩, ⟨sB.1.2.mono (by decide), sB.2.2.mono (by decide)⟩, ⟨sC.1.2.mono (by decide), sC.2.2.mono (by decide)⟩, su.bd.mono (by decide), sv.bd.mono (by decide), sw.bd.mono (by decide), bd_int t ?_ (by decide)⟩
        unfold tsL at ht
        simp only [List.mem_cons, List.not_mem_nil, or_false] at ht
        rcases ht with rfl | rfl | rfl | rfl | rfl <;> decide
      have gneg : ∀ (σ : L2.St) (H : Hp) (i : Int), G (tUn (rU fun i => V.int (-i)) (tC (.int i))) σ H (IM (-i)) := fun σ H i => g_ev (Evl.ev_un (ev_g (g_int (i := i))) Evl.ru_neg)
      have gS : GL (tLc (iList K (tLst (tCons (tC (.int 0)) (tCons (tC (.int 1)) (tCons (tC (.int 2)) (tCons (tUn (rU fun i => V.int (-i)) (tC (.int 1))) (tCons (tUn (rU fun i => V.int (-i)) (tC (.int 2))) tNil))))))) (gName 6) tYes (tCall (spX (dConic K)) [] E0 (tCons (tVar 4) (tCons (tVar 7) (tCons (tTup (tCons (tVar 6) (tCons (tC (.int 1)) tNil))) tNil)))) [6])
          [a0, some (.ref rw), some (.ref L), some (.int way), some bs, some .non, o6, some ws, none, none, none, none, none, none, none, none, none, none] H2 ((tsL.map (cO pA pB pC u v w')).map (oM K)) := by
        refine gl_lc (qs := tsL.map fun z => IM z) (src_listN (gl_lst (ga_cons g_int (ga_cons g_int (ga_cons g_int (ga_cons (gneg _ _ 1) (ga_cons (gneg _ _ 2) ga_nil))))) (by rw [List.length_map]; decide))) (by rw [List.length_map, List.length_map, List.length_map]) (by rw [List.length_map]; decide) fun i x H' P' Q' hP hQ e' hx => ?_
        obtain ⟨t, ht, rfl⟩ := map_get hP
        obtain ⟨o, ho, rfl⟩ := map_get hQ
        obtain ⟨t', ht', rfl⟩ := map_get ho
        rw [ht] at ht'
        cases ht'
        refine ⟨_, gg_name, rfl, gt_yes, ?_⟩
        refine g_eq (g_call (ga_cons (g_var (i := 4) rfl (MP.mono _ _ _ _ (.same e') hbs)) (ga_cons (g_var (i := 7) rfl (MP.mono _ _ _ _ (.same e') hws)) (ga_cons (g_over1 (i := t) (g_var (i := 6) rfl hx)) ga_nil))) ⟨pA, pB, pC, u, v, w', (t : Rat), cb t (List.mem_of_getElem? ht), su.pos, sv.pos, sw.pos, rfl, rfl⟩) ?_
        unfold cO
        split <;> rfl
      dsimp only
      refine tseq ?_
      refine s_setL gS fun S ys H3 nS e3 hS hys => ?_
      have hL3 := e3 _ _ hL2
      have hxs3 := hxs2.mono (.same e3)
      have hbs3 := MP.mono _ _ _ _ (.same e3) hbs
      have hws3 := MP.mono _ _ _ _ (.same e3) hws
      have gn := g_notIn (σ := [a0, some (.ref rw), some (.ref L), some (.int way), some bs, some .non, o6, some ws, some (.ref S), none, none, none, none, none, none, none, none, none]) (ta := tVar 8) (by rw [List.length_map]; rfl) (g_vE rfl) hS hys
      cases hn : (tsL.map (cO pA pB pC u v w')).any Option.isNone with
      | true =>
        rw [hn] at gn
        refine s_ifF (gt_test gn) fun H4 e4 => ?_
        exact tail R _ H4 ⟨_, _, _, _, _, _, _, L, xs, .non, [pA, pB, pC, pD, pE], rfl, h5, hok, e4 _ _ hL3, hxs3.mono (.same e4), .inl rfl⟩ kq
      | false =>
        rw [hn] at gn
        refine s_ifT (gt_test gn) fun H4 e4 => ?_
        obtain ⟨qs, eq1, eq2⟩ := oM_some (K := K) hn
        have hys4 := hys.mono (.same e4)
        rw [eq2] at hys4
        have hbs4 := MP.mono _ _ _ _ (.same e4) hbs3
        have hws4 := MP.mono _ _ _ _ (.same e4) hws3
        have lq : qs.length = 5 := by
          have := congrArg List.length eq1
          rw [List.length_map, List.length_map] at this
          exact this.symm
        have mem : ∀ q ∈ qs, ∃ t ∈ tsL, lad u v w' (t : Rat) ≠ 0 ∧ q = cpt pA pB pC u v w' (t : Rat) := fun q hq => by
          have h1 : some q ∈ qs.map some := List.mem_map.mpr ⟨q, hq, rfl⟩
          rw [← eq1] at h1
          obtain ⟨t, ht, e⟩ := List.mem_map.mp h1
          unfold cO at e
          split at e
          · cases e
          · next hl => exact ⟨t, ht, hl, (Option.some.inj e).symm⟩
        have eb : EqBd pA pB pC u v w' := ⟨⟨sA.1.2.mono (by decide), sA.2.2.mono (by decide)⟩, ⟨sB.1.2.mono (by decide), sB.2.2.mono (by decide)⟩, ⟨sC.1.2.mono (by decide), sC.2.2.mono (by decide)⟩, su.bd, sv.bd, sw.bd⟩
        have hS4 := e4 _ _ hS
        refine s_unp2 (g_tup (K := K) (ga_cons (g_vE (v := .ref S) rfl) (ga_cons (g_call (ga_cons (g_var (i := 4) rfl hbs4) (ga_cons (g_var (i := 7) rfl hws4) ga_nil)) ⟨pA, pB, pC, u, v, w', eb, su.pos, sv.pos, sw.pos, rfl, rfl⟩) ga_nil))) fun x y H5 e5 hx hy => ?_
        have hx' : x = .ref S := hx
        subst hx'
        refine tail R _ H5 ⟨_, _, _, _, _, _, _, S, ys, y, qs, rfl, lq, fun q hq => ?_, e5 _ _ hS4, hys4.mono (.same e5), ?_⟩ kq
        · obtain ⟨t, ht, hl, rfl⟩ := mem q hq
          exact conic_all sA sB sC su sv sw t ht hl
        · by_cases h0 : (line pB pC).at pA = 0
          · rw [if_pos h0] at hy
            exact .inl hy
          · rw [if_neg h0] at hy
            refine .inr ⟨eqv pA pB pC u v w', eqv_len _ _ _ _ _ _, eqv_nz h0 (fun z => ?_) (fun z => ?_), fun q hq => ?_, hy⟩
            · have := su.pos
              rw [z] at this
              exact absurd this (by decide)
            · have := sw.pos
              rw [z] at this
              exact absurd this (by decide)
            · obtain ⟨t, ht, hl, rfl⟩ := mem q hq
              exact eqv_cpt h0 hl
  · rw [decide_eq_false hw] at gw
    refine s_ifF (gt_test gw) fun H1 e1 => ?_
    exact tail R _ H1 ⟨_, _, _, _, _, _, _, L, xs, .non, pts, rfl, h5, hok, e1 _ _ hL, hxs.mono (.same e1), .inl rfl⟩ kq
end
end K54
namespace K54
open PySem PySem.Spec PyProof.Rows L2
section
variable {K : PySem.W.Frag} {σ : L2.St} {H H' : Hp} {te ta tb tm : TE} {D : Ends} {P Q : MP} {a sc : Addr}
theorem s_setM {i : Nat} (h : te σ H fun v H1 => D.nx (σ.set i (some v)) H1) : tAsg te (gName i) D σ H := h
theorem pts_of {ps : List MP} (h : ∀ P ∈ ps, ∃ p : Pt, SmallP p ∧ P = PtM K p) : ∃ pts : List Pt, ps = pts.map (PtM K) ∧ ∀ p ∈ pts, SmallP p := by
  induction ps with
  | nil => exact ⟨[], rfl, fun _ h => (nomatch h)⟩
  | cons P ps ih =>
    obtain ⟨pts, e, hs⟩ := ih fun Q hQ => h Q (List.mem_cons_of_mem _ hQ)
    obtain ⟨p, hp, rfl⟩ := h P List.mem_cons_self
    refine ⟨p :: pts, by rw [e]; rfl, fun q hq => ?_⟩
    rcases List.mem_cons.mp hq with rfl | z
    · exact hp
    · exact hs q z
/-- an item of a tuple, the place in a variable -/
theorem g_ixTV {ps : List MP} {i : Int} (j : Nat) (ha : G ta σ H (Tp K ps)) (hb : G tb σ H (IM i)) (hj : ps[j]? = some P) (hi : i = (j : Int)) : G (tOp (rIxT K) ta tb) σ H P := fun H1 e Q q =>
  ha H1 e _ fun v H2 e2 hv => hb H2 (e.trans e2) _ fun y H3 e3 hy => by
    obtain ⟨a, xs, rfl, hs, hx⟩ := (Tp K ps).mono _ _ _ (.same e3) hv
    obtain ⟨x, hx1, hx2⟩ := hx.get hj
    exact ⟨a, xs, i, x, rfl, hy, hs, by rw [hi]; exact atI_nat hx1, q x H3 (e2.trans e3) hx2⟩
/-- way, base, due = a draw, None, None -/
theorem s_M3 {i j k : Nat} {R : V → Hp → Prop} (hr : RowP K a sc H) (hg : GM K a sc tm σ R) (kk : ∀ x H1, Kp [a] H H1 → RowP K a sc H1 → (∃ H2, Same H2 H1 ∧ R x H2) → D.nx (((σ.set i (some x)).set j (some .non)).set k (some .non)) H1) :
    tAsg (tTup (tCons tm (tCons (tC .non) (tCons (tC .non) tNil)))) (gTup K 3 (gCons (gName i) (gCons (gName j) (gCons (gName k) gNil)))) D σ H := hg H hr _ fun x H2 hx k2 r2 => ⟨by show 3 ≤ sizeLine; decide, fun T nT => by
  have s3 : Same H2 (upd H2 T (.tup [x, .non, .non])) := same_new nT
  exact gg_tup3 (SqT.of upd_same) gg_name gg_name gg_name _ (kk x _ (k2.trans (.same s3)) (r2.same s3) ⟨H2, s3, hx⟩)⟩
/-- for .. in range(i, j - a draw): what stands behind the draw -/
theorem s_forM {g : TG} {tb : L2.TS} {i c m : Int} (hi : -100 ≤ i ∧ i ≤ 100) (hc : -100 ≤ c ∧ c ≤ 100) (hm : m ≤ 100) (hr : RowP K a sc H) (hg : GM K a sc te σ (fun v _ => ∃ r : Int, 0 ≤ r ∧ r < m ∧ v = .int r))
    (kk : ∀ (r : Int) H1, 0 ≤ r → r < m → Kp [a] H H1 → RowP K a sc H1 → tFor (fun _ H R => R (Itr i (c - r - i).toNat) H) g tb D σ H1) :
    tFor (iRng2 (tCons (tC (.int i)) (tCons (tOp (rI0 fun i j => .int (i - j)) (tC (.int c)) te) tNil))) g tb D σ H := hg H hr _ fun v H1 ⟨r, r0, r1, hv⟩ k r2 => by
  subst hv
  exact ⟨c, r, rfl, rfl, i, c - r, rfl, ⟨by omega, by omega, by omega, by omega⟩, kk r H1 r0 r1 k r2⟩
theorem srck_con {ws : List Addr} {lo : Int} {n : Nat} : SrcK ws (fun _ H R => R (Itr lo n) H) σ H (rngM lo n) := fun H1 e R r => r _ H1 (Same.refl _) (srck_rng lo n _ rfl H1)
end
def spLaw (K : PySem.W.Frag) : Sp := fun vs H Q _ => ∃ (a : Addr) (ns : List Int), vs = [.ref a] ∧ SqL K H a (ns.map V.int) ∧ ns.length ≤ 63 ∧ ∀ H', Q (.bl true) H'
section
variable {P : Program} {w : World} {K : PySem.W.Frag} {mg : Str → Option Value} {base : Heap}
theorem ok_law {f : Addr} {fd : FuncData} (F : Fun K "law" "law" sLaw f fd) (T : Txt K mg) (HThr : Has P w K mg base "through_five" ["points"] 5 (spX (dThrough K))) (HT : Has P w K mg base "_law_times" n2L 2 (spX (dLTimes K))) (HFr : Has P w K mg base "_law_free_rows" ["_law_rows"] 3 (spFree K))
    (HLe : Has P w K mg base "_law_left_side" ["_law_numbers", "_law_point_here"] 4 (spX (dLeft K))) (HWt : Has P w K mg base "_law_weights" ["_law_row"] 2 (spR K (weightsR K))) (HCo : Has P w K mg base "conic_point" ["points", "weights", "t"] 5 (spX (dConic K)))
    (HEq : Has P w K mg base "equation" ["points", "weights"] 5 (spX (dEq K))) (HTk : Has P w K mg base "_law_taken" ["_law_row", "_law_many"] 1 (spTaken K)) (HPo : Has P w K mg base "_law_point" ["_law_row"] 4 (spR K (pointR K)))
    (HMd : Has P w K mg base "_law_middle" n3L 3 (spX (dLMiddle K))) : FnOk P w K mg base CX0 6 f fd ["_law_script"] (spLaw K) := by
  refine F.ok sc_law (fun vs H Q E ⟨_, _, e, _⟩ => by rw [e]; rfl) (fun cdv A outer s H vs Q E hr h => ?_)
  obtain ⟨sa, ns, rfl, hS, hns, kq⟩ := h
  have nd := sc_law.nd
  have hr4 : Room 4 _ := hr.mono (by decide)
  have hr3 : Room 3 _ := hr.mono (by decide)
  have hr1 : Room 1 _ := hr.mono (by decide)
  obtain ⟨tt, htt, tail⟩ := law_way1 T HThr HT HFr HLe HWt HCo HEq f cdv A outer s H E hr
  refine ⟨_, pss_cons (ps_set (i := 1) nd rfl (.inr rfl) (pe_lst (pa_cons (pv 0) (pa_cons pe_int (pa_cons pe_int (pa_cons pe_int pa_nil))))))
    (pss_cons (ps_set (i := 2) nd rfl (.inr rfl) (pe_lc (own := [("_law_at", 6)]) (g := gName 6) (tt := tYes) rfl nd (pi_range1 (by rfl) T.range (pa_cons pe_int pa_nil)) (blkOk_by (N := nLaw) (sc := defScope sLaw) (by decide +kernel))
      (fun _ _ _ _ _ => pg_name (i := 6) nd rfl (Or.inl rfl)) (fun _ _ _ _ _ => pts_nil) (fun _ _ _ _ _ => pe_c HPo hr4 (by rfl) (pa_cons (pv 1) pa_nil))))
    (pss_cons (ps_asg (pe_tup (pa_cons (pe_c HTk hr1 (by rfl) (pa_cons (pv 1) (pa_cons pe_int pa_nil))) (pa_cons pe_non (pa_cons pe_non pa_nil)))) (pg_tup (by rfl) (pgs_cons (pg_name (i := 3) nd rfl (.inl rfl)) (pgs_cons (pg_name (i := 4) nd rfl (.inr rfl)) (pgs_cons (pg_name (i := 5) nd rfl (.inl rfl)) pgs_nil)))))
    (pss_cons (ps_if (pt_cmpR op_eq (pv 3) pe_int (nomark _))
      (pss_one (ps_for PassesOwn.never rfl (pi_range2 (by rfl) T.range (pa_cons pe_int (pa_cons (pe_op op_sub pe_int (pe_c HTk hr1 (by rfl) (pa_cons (pv 1) (pa_cons pe_int pa_nil)))) pa_nil))) (pg_name (i := 6) nd rfl (.inr rfl))
        (pss_one (ps_asg (pe_callTy call_tuple_of (by rfl) T.tuple PyProof.Rows.boot_tuple (pa_cons (pe_lc (own := [("_law_k", 16)]) (g := gName 16) (tt := tYes) rfl nd (pi_range1 (by rfl) T.range (pa_cons pe_int pa_nil)) (blkOk_by (N := nLaw) (sc := defScope sLaw) (by decide +kernel))
          (fun _ _ _ _ _ => pg_name (i := 16) nd rfl (Or.inl rfl)) (fun _ _ _ _ _ => pts_nil) (fun _ _ _ _ _ => pe_c HMd hr3 (by rfl) (pa_cons (pe_ix (r := rIxT K) ix_tup (pe_ix (r := rIxL K) ix_list (pv 2) pe_int (fun _ _ => rfl)) (pv 16) (fun _ _ => rfl))
            (pa_cons (pe_ix (r := rIxT K) ix_tup (pe_ix (r := rIxL K) ix_list (pv 2) pe_int (fun _ _ => rfl)) (pv 16) (fun _ _ => rfl)) (pa_cons (pe_tup (pa_cons (pv 6) (pa_cons pe_int pa_nil))) pa_nil))))) pa_nil)) (pg_sub (pv 2) (pv 6) set_list))))) pss_nil) htt))), ?_⟩
  -- row
  refine tseq ?_
  refine s_setL (ps := [EqM (.ref sa), IM 0, IM 4154, IM 0]) (gl_lst (ga_cons (g_vE rfl) (ga_cons g_int (ga_cons g_int (ga_cons g_int ga_nil))))) fun rw xs H1 nrw e1 hrw hxs => ?_
  have hrow : RowP K rw sa H1 := by
    match xs, hxs with
    | [x0, x1, x2, x3], hxs =>
      obtain ⟨q0, q1, q2, q3, _⟩ := hxs
      have q0' : x0 = .ref sa := q0
      have q1' : x1 = .int 0 := q1
      have q2' : x2 = .int 4154 := q2
      have q3' : x3 = .int 0 := q3
      subst q0' q1' q2' q3'
      refine ⟨ns, 0, 4154, 0, hrw, hns, by decide, ?_⟩
      rcases hS with h | h
      · refine .inl ⟨?_, ?_⟩
        · rcases h with h | ⟨o, h⟩
          · exact ne_of_none h nrw
          · exact ne_of_none h nrw
        · rcases h with h | ⟨o, h⟩
          · exact .inl (e1 _ _ h)
          · exact .inr ⟨o, e1 _ _ h⟩
      · exact .inr fun H' => .inr h
  -- points
  dsimp only
  refine tseq ?_
  refine s_setM ?_
  refine gm_lc (σ := [some (.ref sa), some (.ref rw), none, none, none, none, none, none, none, none, none, none, none, none, none, none, none, none]) (i := 6) (vs := [6]) (n := 5) (a := rw) (sc := sa) (by decide) (fun P => ∃ p : Pt, SmallP p ∧ P = PtM K p) (fun x => rfl)
    (fun x H hr Q q => gm_call (a := rw) (sc := sa) rfl H hr _ fun v H2 ⟨p, sp, hp⟩ k2 r2 => q v H2 ⟨_, ⟨p, sp, rfl⟩, hp⟩ k2 r2) H1 hrow _ fun L xs ps H2 nL nLr hL hlen hgood hall k2 hrow2 => ?_
  obtain ⟨pts, rfl, hsm⟩ := pts_of hgood
  rw [List.length_map] at hlen
  -- way, base, due
  dsimp only
  refine tseq ?_
  refine s_M3 (a := rw) (sc := sa) hrow2 (gm_taken (m := 4) rfl (by decide) (by decide)) fun x H3 k3 hrow3 hx => ?_
  obtain ⟨_, _, way, _, _, rfl⟩ := hx
  have hL3 : H3 L = some (.lst xs) := k3 _ _ hL (by simpa using nLr)
  have hall3 := hall.mono (k3.tk hrow2.ls)
  have gw := g_eqI (σ := [some (.ref sa), some (.ref rw), some (.ref L), some (.int way), some .non, some .non, none, none, none, none, none, none, none, none, none, none, none, none]) (H := H3) (ta := tVar 3) (i := way) (g_vE rfl) (g_int (i := 0))
  dsimp only
  refine tseq ?_
  by_cases hw : way = 0
  · rw [decide_eq_true hw] at gw
    refine s_ifT (gt_test gw) fun H4 e4 => ?_
    refine s_forM (a := rw) (sc := sa) (m := 2) (by decide) (by decide) (by decide) (hrow3.same e4) (gm_taken (m := 2) rfl (by decide) (by decide)) fun r H5 r0 r1 k5 hrow5 => ?_
    have hL5 : H5 L = some (.lst xs) := k5 _ _ (e4 _ _ hL3) (by simpa using nLr)
    have hall5 := (hall3.mono (.same e4)).mono (k5.tk (hrow3.same e4).ls)
    match pts, hlen, hsm, hall5 with
    | [pA, pB, pC, pD, pE], hlen, hsm, hall5 =>
      have sA := hsm pA (by simp)
      have sB := hsm pB (by simp)
      refine s_for (ws := [L]) srck_con (fun i σ H6 => ∃ (o6 : Option V) (ys : List V) (ps : List Pt), σ = [some (.ref sa), some (.ref rw), some (.ref L), some (.int way), some .non, some .non, o6, none, none, none, none, none, none, none, none, none, none, none] ∧
          H6 L = some (.lst ys) ∧ AllP (ps.map (PtM K)) ys H6 ∧ ps.length = 5 ∧ ps[0]? = some pA ∧ ps[1]? = some pB ∧ ∀ p ∈ ps, PtOk p)
        (fun H6 e6 => ⟨none, xs, [pA, pB, pC, pD, pE], rfl, e6 _ _ hL5, hall5.mono (.same e6), rfl, rfl, rfl, fun p hp => (hsm p hp).ok⟩) (fun Hb i y σ H6 H7 P' eb hP k6 hp e7 hy => ?_) fun σ H6 k6 hp => ?_
      · obtain ⟨o6, ys, ps, rfl, hLy, hys, hl, h0, h1, hok⟩ := hp
        obtain ⟨hi, rfl⟩ := rngM_get hP
        have hi3 : i < 3 := by omega
        have hy' : y = .int (2 + (i : Int)) := hy
        subst hy'
        have hLy7 := e7 _ _ hLy
        have hys7 := hys.mono (.same e7)
        have gk : ∀ (j : Nat) (p : Pt) (H8 : Hp) (k : Nat) (q : Rat) (u : V), ps[j]? = some p → ([RtM K p.1, RtM K p.2] : List MP)[k]? = some (RtM K q) → Same H7 H8 → u = .int (k : Int) →
            G (tOp (rIxT K) (tOp (rIxL K) (tVar 2) (tC (.int (j : Int)))) (tVar 16)) ((wipe [some (.ref sa), some (.ref rw), some (.ref L), some (.int way), some .non, some .non, some (.int (2 + (i : Int))), none, none, none, none, none, none, none, none, none, none, none] [16]).set 16 (some u)) H8 (RtM K q) := fun j p H8 k q u hj hk e8 hu => by
          obtain ⟨z, hz, pz⟩ := (hys7.mono (.same e8)).get (i := j) (P := PtM K p) (by rw [List.getElem?_map, hj]; rfl)
          exact g_ixTV (ps := [RtM K p.1, RtM K p.2]) (i := (k : Int)) k (g_ixL (P := PtM K p) (g_vE rfl) g_int (SqL.of (e8 _ _ hLy7)) (atI_nat hz) pz) (g_var (i := 16) rfl hu) hk rfl
        have bt : Bd 300 ((2 + (i : Int) : Int) : Rat) := bd_int _ (lt_pow_of (a := 4) (by omega) (by decide)) (by decide)
        have gC : GL (tLc (iRng1 (tCons (tC (.int 2)) tNil)) (gName 16) tYes (tCall (spX (dLMiddle K)) [] E0 (tCons (tOp (rIxT K) (tOp (rIxL K) (tVar 2) (tC (.int 0))) (tVar 16)) (tCons (tOp (rIxT K) (tOp (rIxL K) (tVar 2) (tC (.int 1))) (tVar 16)) (tCons (tTup (tCons (tVar 6) (tCons (tC (.int 1)) tNil))) tNil)))) [16])
            [some (.ref sa), some (.ref rw), some (.ref L), some (.int way), some .non, some .non, some (.int (2 + (i : Int))), none, none, none, none, none, none, none, none, none, none, none] H7
            [RtM K (btw pA.1 pB.1 ((2 + (i : Int) : Int) : Rat)), RtM K (btw pA.2 pB.2 ((2 + (i : Int) : Int) : Rat))] := by
          refine gl_lc (src_rng1 (n := 2) (g_int (i := 2))) (by rw [rngM_len]; rfl) (by rw [rngM_len]; decide) fun k u H8 P' Q' hP hQ e8 hu => ?_
          obtain ⟨hk, rfl⟩ := rngM_get hP
          have hu' : u = .int (k : Int) := by
            have : u = .int (0 + (k : Int)) := hu
            rw [this, Int.zero_add]
          refine ⟨_, gg_name, rfl, gt_yes, ?_⟩
          have hk2 : k = 0 ∨ k = 1 := by omega
          rcases hk2 with rfl | rfl
          · have hQ' : RtM K (btw pA.1 pB.1 ((2 + (i : Int) : Int) : Rat)) = Q' := Option.some.inj hQ
            subst hQ'
            exact g_call (ga_cons (gk 0 pA H8 0 pA.1 u h0 rfl e8 hu') (ga_cons (gk 1 pB H8 0 pB.1 u h1 rfl e8 hu') (ga_cons (g_over1 (i := 2 + (i : Int)) (g_vE rfl)) ga_nil))) ⟨_, _, _, ⟨sA.1.2.mono (by decide), sB.1.2.mono (by decide), bt⟩, rfl, rfl⟩
          · have hQ' : RtM K (btw pA.2 pB.2 ((2 + (i : Int) : Int) : Rat)) = Q' := Option.some.inj hQ
            subst hQ'
            exact g_call (ga_cons (gk 0 pA H8 1 pA.2 u h0 rfl e8 hu') (ga_cons (gk 1 pB H8 1 pB.2 u h1 rfl e8 hu') (ga_cons (g_over1 (i := 2 + (i : Int)) (g_vE rfl)) ga_nil))) ⟨_, _, _, ⟨sA.2.2.mono (by decide), sB.2.2.mono (by decide), bt⟩, rfl, rfl⟩
        have hyl : ys.length = 5 := by rw [hys.length, List.length_map, hl]
        refine s_setI (j := 2 + i) (P := PtM K (btw pA.1 pB.1 ((2 + (i : Int) : Int) : Rat), btw pA.2 pB.2 ((2 + (i : Int) : Int) : Rat))) hLy7 (by omega) (g_tupleL gC) (fun _ => g_vE rfl) (fun _ _ => g_eq (g_vE rfl) (by rw [Int.natCast_add]; rfl)) fun v H8 e8 hv => ?_
        have kp : Kp [L] H8 (upd H8 L (.lst (ys.set (2 + i) v))) := (Kp.refl H8).set (by simp)
        have tk : TKp H8 (upd H8 L (.lst (ys.set (2 + i) v))) := TKp.set (e8 _ _ hLy7)
        refine ⟨k6.trans ((Kp.same (e7.trans e8)).trans kp), _, ys.set (2 + i) v, ps.set (2 + i) (btw pA.1 pB.1 ((2 + (i : Int) : Int) : Rat), btw pA.2 pB.2 ((2 + (i : Int) : Int) : Rat)), rfl, upd_same, ?_, by rw [List.length_set, hl], ?_, ?_, fun p hp => ?_⟩
        · rw [List.map_set]
          exact (AllP.set hv (2 + i) (hys7.mono (.same e8))).mono tk
        · rw [List.getElem?_set_ne (by omega)]
          exact h0
        · rw [List.getElem?_set_ne (by omega)]
          exact h1
        · rcases List.mem_or_eq_of_mem_set hp with z | z
          · exact hok p z
          · rw [z]
            exact middle_ok sA sB hi3
      · obtain ⟨o6, ys, ps, rfl, hLy, hys, hl, h0, h1, hok⟩ := hp
        have hrow6 : RowP K rw sa H6 := by
          obtain ⟨ns', i, j, k, e, q1, q2, q3⟩ := hrow5
          have nrL : rw ∉ [L] := by simpa using nLr.symm
          refine ⟨ns', i, j, k, k6 _ _ e nrL, q1, q2, ?_⟩
          rcases q3 with ⟨n, h⟩ | h
          · refine .inl ⟨n, ?_⟩
            have hn : sa ∉ [L] := fun z => by
              have z' : sa = L := by simpa using z
              obtain ⟨y0, hy0⟩ : ∃ y0, y0 ∈ [pA, pB, pC, pD, pE] := ⟨pA, by simp⟩
              have hl5 := hall5.length
              rw [z'] at h
              rcases h with h | ⟨o, h⟩
              · rw [hL5] at h
                have hx : xs = ns'.map V.int := by
                  have := Option.some.inj h
                  injection this
                obtain ⟨v, hv, pv⟩ := hall5.get (i := 0) (P := PtM K pA) rfl
                obtain ⟨a1, xs1, e1, _⟩ := pv
                rw [hx, List.getElem?_map] at hv
                cases hq : ns'[0]? with
                | none => rw [hq] at hv; cases hv
                | some n =>
                  rw [hq, e1] at hv
                  cases hv
              · rw [hL5] at h
                cases h
            rcases h with h | ⟨o, h⟩
            · exact .inl (k6 _ _ h hn)
            · exact .inr ⟨o, k6 _ _ h hn⟩
          · exact .inr h
        exact tail Q _ H6 ⟨_, o6, rw, sa, L, way, ys, ps, rfl, hl, hok, hLy, hys, hrow6, nLr, fun z => by rw [hw] at z; exact absurd z (by decide)⟩ kq
  · rw [decide_eq_false hw] at gw
    refine s_ifF (gt_test gw) fun H4 e4 => ?_
    exact tail Q _ H4 ⟨_, none, rw, sa, L, way, xs, pts, rfl, hlen, fun p hp => (hsm p hp).ok, e4 _ _ hL3, hall3.mono (.same e4), hrow3.same e4, nLr, fun _ => hsm⟩ kq
end
end K54
namespace K54
open PySem PySem.Spec PyProof.Rows L2
/-! ### all defs; what the top has written -/
structure AllDf (K : PySem.W.Frag) (mg : Str → Option Value) : Prop where
  T : Txt K mg
  d_is_int : Df K mg "is_int" sIsInt ["value"]
  d_is_ratio : Df K mg "is_ratio" sIsRatio ["value"]
  d_need_ratio : Df K mg "need_ratio" sNeedRatio ["value"]
  d_made : Df K mg "made" sMade ["top", "low"]
  d_plus : Df K mg "plus" sPlus ["one", "other"]
  d_less : Df K mg "less" sLess ["one", "other"]
  d_times : Df K mg "times" sTimes ["one", "other"]
  d_over : Df K mg "over" sOver ["one", "other"]
  d_between : Df K mg "between" sBetween ["one", "other", "part"]
  d_are_ratios : Df K mg "are_ratios" sAreRatios ["value", "many"]
  d_need_points : Df K mg "need_points" sNeedPoints ["value", "many"]
  d_need_weights : Df K mg "need_weights" sNeedWeights ["value"]
  d_ladder_of : Df K mg "ladder_of" sLadder ["points", "weights", "t"]
  d_point_of : Df K mg "point_of" sPointOf ["told"]
  d_conic_point : Df K mg "conic_point" sConicPoint ["points", "weights", "t"]
  d_whole_numbers : Df K mg "whole_numbers" sWhole ["numbers"]
  d_line_through : Df K mg "line_through" sLine ["one", "other"]
  d_line_product : Df K mg "line_product" sLineProd ["one", "other"]
  d_equation : Df K mg "equation" sEquation ["points", "weights"]
  d_terms_of : Df K mg "terms_of" sTerms ["point"]
  d_through_five : Df K mg "through_five" sThrough ["points"]
  d__law_taken : Df K mg "_law_taken" sLTaken ["_law_row", "_law_many"]
  d__law_pick : Df K mg "_law_pick" sLPick ["_law_row", "_law_things"]
  d__law_made : Df K mg "_law_made" sLMade ["_law_top", "_law_low"]
  d__law_plus : Df K mg "_law_plus" sLPlus ["_law_one", "_law_other"]
  d__law_minus : Df K mg "_law_minus" sLMinus ["_law_one", "_law_other"]
  d__law_times : Df K mg "_law_times" sLTimes ["_law_one", "_law_other"]
  d__law_over : Df K mg "_law_over" sLOver ["_law_one", "_law_other"]
  d__law_sum : Df K mg "_law_sum" sLSum ["_law_some"]
  d__law_draw : Df K mg "_law_draw" sLDraw ["_law_row"]
  d__law_middle : Df K mg "_law_middle" sLMiddle ["_law_one", "_law_other", "_law_part"]
  d__law_point : Df K mg "_law_point" sLPoint ["_law_row"]
  d__law_weights : Df K mg "_law_weights" sLWeights ["_law_row"]
  d__law_left_side : Df K mg "_law_left_side" sLLeft ["_law_numbers", "_law_point_here"]
  d__law_free_rows : Df K mg "_law_free_rows" sLFree ["_law_rows"]
theorem law_ok {P : Program} {w : World} {K : PySem.W.Frag} {mg : Str → Option Value} {base : Heap} {f : Addr} {fd : FuncData} (A : AllDf K mg) (F : Fun K "law" "law" sLaw f fd) : FnOk P w K mg base CX0 6 f fd ["_law_script"] (spLaw K) := by
  have h_is_int := ok_isInt (P := P) (w := w) (base := base) A.d_is_int A.T
  have h_is_ratio := ok_isRatio (P := P) (w := w) (base := base) A.d_is_ratio A.T h_is_int
  have h_need_ratio := ok_needRatio (P := P) (w := w) (base := base) A.d_need_ratio h_is_ratio
  have h_made := ok_made (P := P) (w := w) (base := base) A.d_made A.T
  have h_plus := ok_plus (P := P) (w := w) (base := base) A.d_plus h_made
  have h_less := ok_less (P := P) (w := w) (base := base) A.d_less h_made
  have h_times := ok_times (P := P) (w := w) (base := base) A.d_times h_made
  have h_over := ok_over (P := P) (w := w) (base := base) A.d_over h_made
  have h_between := ok_between (P := P) (w := w) (base := base) A.d_between h_plus h_less h_times
  have h_are_ratios := ok_are (P := P) (w := w) (base := base) A.d_are_ratios A.T h_is_ratio
  have h_need_points := ok_needPts (P := P) (w := w) (base := base) A.d_need_points A.T h_are_ratios
  have h_need_weights := ok_needW (P := P) (w := w) (base := base) A.d_need_weights A.T h_are_ratios
  have h_ladder_of := ok_ladder (P := P) (w := w) (base := base) A.d_ladder_of A.T h_times h_between
  have h_point_of := ok_pointOf (P := P) (w := w) (base := base) A.d_point_of A.T h_over
  have h_conic_point := ok_conic (P := P) (w := w) (base := base) A.d_conic_point h_need_points h_need_weights h_need_ratio h_point_of h_ladder_of
  have h_whole_numbers := ok_whole (P := P) (w := w) (base := base) A.d_whole_numbers A.T
  have h_line_through := ok_line (P := P) (w := w) (base := base) A.d_line_through A.T h_plus h_less h_times
  have h_line_product := ok_lprod (P := P) (w := w) (base := base) A.d_line_product h_plus h_times
  have h_equation := ok_equation (P := P) (w := w) (base := base) A.d_equation A.T h_need_points h_need_weights h_line_through h_plus h_less h_times h_over h_line_product h_whole_numbers
  have h_terms_of := ok_terms (P := P) (w := w) (base := base) A.d_terms_of A.T h_times
  have h_through_five := ok_through (P := P) (w := w) (base := base) A.d_through_five A.T h_need_points h_terms_of h_less h_times h_over h_whole_numbers
  have h__law_taken := ok_taken (P := P) (w := w) (base := base) A.d__law_taken A.T
  have h__law_pick := ok_pick (P := P) (w := w) (base := base) A.d__law_pick A.T h__law_taken
  have h__law_made := ok_lmade (P := P) (w := w) (base := base) A.d__law_made A.T
  have h__law_plus := ok_lplus (P := P) (w := w) (base := base) A.d__law_plus h__law_made
  have h__law_minus := ok_lminus (P := P) (w := w) (base := base) A.d__law_minus h__law_made
  have h__law_times := ok_ltimes (P := P) (w := w) (base := base) A.d__law_times h__law_made
  have h__law_over := ok_lover (P := P) (w := w) (base := base) A.d__law_over h__law_made
  have h__law_sum := ok_sum (P := P) (w := w) (base := base) A.d__law_sum h__law_plus
  have h__law_draw := ok_draw (P := P) (w := w) (base := base) A.d__law_draw h__law_taken h__law_pick h__law_made
  have h__law_middle := ok_lmiddle (P := P) (w := w) (base := base) A.d__law_middle h__law_plus h__law_minus h__law_times
  have h__law_point := ok_lpoint (P := P) (w := w) (base := base) A.d__law_point h__law_draw
  have h__law_weights := ok_weights (P := P) (w := w) (base := base) A.d__law_weights A.T h__law_taken h__law_made
  have h__law_left_side := ok_left (P := P) (w := w) (base := base) A.d__law_left_side A.T h__law_times h__law_sum
  have h__law_free_rows := ok_free (P := P) (w := w) (base := base) A.d__law_free_rows A.T h__law_minus h__law_times h__law_over
  exact ok_law F A.T h_through_five h__law_times h__law_free_rows h__law_left_side h__law_weights h_conic_point h_equation h__law_taken h__law_point h__law_middle
theorem df_mk {K : PySem.W.Frag} {h : Heap} {mg : Str → Option Value} {x : Str} {st : Stmt} {ps : List Str} {f : Addr} {oc : Value} {od an : Option Addr} {osl : Array (Option Value)} {kV doc pm cdv ct : Value} (X : K.In h) (G : h.Ns mainGlobals mg)
    (a : PySem.W.nsIn K mainGlobals x = some (some (.ref f))) (l : K.lookup f = some ⟨oc, od, .func (PySem.W.fnOf x x (defArgs st) (defBody st) (defScope st) .none kV doc pm an cdv ct), osl⟩) (c : PySem.W.codeIn K cdv x = true) (k : PySem.W.keepIn K (.ref f) = true)
    (hb : ∀ (kV doc pm : Value) (an : Option Addr) (cdv ct : Value) (us : List Value), us.length = ps.length → bindArgs (PySem.W.fnOf x x (defArgs st) (defBody st) (defScope st) .none kV doc pm an cdv ct) ⟨us, []⟩ = pure (ps.zip us)) : Df K mg x st ps :=
  ⟨f, _, fun_mk l c k, PySem.W.mg_of X G a, (fun_mk l c k).binds hb⟩
theorem tup_mk {K : PySem.W.Frag} {h : Heap} {mg : Str → Option Value} {x : Str} {z : Addr} {od : Option Addr} {osl : Array (Option Value)} {i j : Int} {t u : Tok} {n : Nat} (X : K.In h) (G : h.Ns mainGlobals mg)
    (a : PySem.W.nsIn K mainGlobals x = some (some (.ref z))) (l : K.lookup z = some ⟨.type "tuple", od, .seq #[.int i t, .int j u] n, osl⟩) : ∃ z, mg x = some (.ref z) ∧ ∀ H, SqT K H z [.int i, .int j] :=
  ⟨z, PySem.W.mg_of X G a, fun H => .inr ⟨_, _, _, l, rfl, rfl, by show 2 ≤ sizeLine; decide, .cons ⟨_, rfl⟩ (.cons ⟨_, rfl⟩ .nil)⟩⟩
theorem all_mk {l : PySem.W.OpenLaw} {w : World} {K : PySem.W.Frag} {h : Heap} {mg : Str → Option Value} {fa : Addr} (X : K.In h) (G : h.Ns mainGlobals mg) (hfa : mg "law" = some (.ref fa))
    {f0 : Addr} {od0 an0 : Option Addr} {sl0 : Array (Option Value)} {oc0 kV0 dc0 pm0 cd0 ct0 : Value}
    {f1 : Addr} {od1 an1 : Option Addr} {sl1 : Array (Option Value)} {oc1 kV1 dc1 pm1 cd1 ct1 : Value}
    {f2 : Addr} {od2 an2 : Option Addr} {sl2 : Array (Option Value)} {oc2 kV2 dc2 pm2 cd2 ct2 : Value}
    {f3 : Addr} {od3 an3 : Option Addr} {sl3 : Array (Option Value)} {oc3 kV3 dc3 pm3 cd3 ct3 : Value}
    {f4 : Addr} {od4 an4 : Option Addr} {sl4 : Array (Option Value)} {oc4 kV4 dc4 pm4 cd4 ct4 : Value}
    {f5 : Addr} {od5 an5 : Option Addr} {sl5 : Array (Option Value)} {oc5 kV5 dc5 pm5 cd5 ct5 : Value}
    {f6 : Addr} {od6 an6 : Option Addr} {sl6 : Array (Option Value)} {oc6 kV6 dc6 pm6 cd6 ct6 : Value}
    {f7 : Addr} {od7 an7 : Option Addr} {sl7 : Array (Option Value)} {oc7 kV7 dc7 pm7 cd7 ct7 : Value}
    {f8 : Addr} {od8 an8 : Option Addr} {sl8 : Array (Option Value)} {oc8 kV8 dc8 pm8 cd8 ct8 : Value}
    {f9 : Addr} {od9 an9 : Option Addr} {sl9 : Array (Option Value)} {oc9 kV9 dc9 pm9 cd9 ct9 : Value}
    {f10 : Addr} {od10 an10 : Option Addr} {sl10 : Array (Option Value)} {oc10 kV10 dc10 pm10 cd10 ct10 : Value}
    {f11 : Addr} {od11 an11 : Option Addr} {sl11 : Array (Option Value)} {oc11 kV11 dc11 pm11 cd11 ct11 : Value}
    {f12 : Addr} {od12 an12 : Option Addr} {sl12 : Array (Option Value)} {oc12 kV12 dc12 pm12 cd12 ct12 : Value}
    {f13 : Addr} {od13 an13 : Option Addr} {sl13 : Array (Option Value)} {oc13 kV13 dc13 pm13 cd13 ct13 : Value}
    {f14 : Addr} {od14 an14 : Option Addr} {sl14 : Array (Option Value)} {oc14 kV14 dc14 pm14 cd14 ct14 : Value}
    {f15 : Addr} {od15 an15 : Option Addr} {sl15 : Array (Option Value)} {oc15 kV15 dc15 pm15 cd15 ct15 : Value}
    {f16 : Addr} {od16 an16 : Option Addr} {sl16 : Array (Option Value)} {oc16 kV16 dc16 pm16 cd16 ct16 : Value}
    {f17 : Addr} {od17 an17 : Option Addr} {sl17 : Array (Option Value)} {oc17 kV17 dc17 pm17 cd17 ct17 : Value}
    {f18 : Addr} {od18 an18 : Option Addr} {sl18 : Array (Option Value)} {oc18 kV18 dc18 pm18 cd18 ct18 : Value}
    {f19 : Addr} {od19 an19 : Option Addr} {sl19 : Array (Option Value)} {oc19 kV19 dc19 pm19 cd19 ct19 : Value}
    {f20 : Addr} {od20 an20 : Option Addr} {sl20 : Array (Option Value)} {oc20 kV20 dc20 pm20 cd20 ct20 : Value}
    {f21 : Addr} {od21 an21 : Option Addr} {sl21 : Array (Option Value)} {oc21 kV21 dc21 pm21 cd21 ct21 : Value}
    {f22 : Addr} {od22 an22 : Option Addr} {sl22 : Array (Option Value)} {oc22 kV22 dc22 pm22 cd22 ct22 : Value}
    {f23 : Addr} {od23 an23 : Option Addr} {sl23 : Array (Option Value)} {oc23 kV23 dc23 pm23 cd23 ct23 : Value}
    {f24 : Addr} {od24 an24 : Option Addr} {sl24 : Array (Option Value)} {oc24 kV24 dc24 pm24 cd24 ct24 : Value}
    {f25 : Addr} {od25 an25 : Option Addr} {sl25 : Array (Option Value)} {oc25 kV25 dc25 pm25 cd25 ct25 : Value}
    {f26 : Addr} {od26 an26 : Option Addr} {sl26 : Array (Option Value)} {oc26 kV26 dc26 pm26 cd26 ct26 : Value}
    {f27 : Addr} {od27 an27 : Option Addr} {sl27 : Array (Option Value)} {oc27 kV27 dc27 pm27 cd27 ct27 : Value}
    {f28 : Addr} {od28 an28 : Option Addr} {sl28 : Array (Option Value)} {oc28 kV28 dc28 pm28 cd28 ct28 : Value}
    {f29 : Addr} {od29 an29 : Option Addr} {sl29 : Array (Option Value)} {oc29 kV29 dc29 pm29 cd29 ct29 : Value}
    {f30 : Addr} {od30 an30 : Option Addr} {sl30 : Array (Option Value)} {oc30 kV30 dc30 pm30 cd30 ct30 : Value}
    {f31 : Addr} {od31 an31 : Option Addr} {sl31 : Array (Option Value)} {oc31 kV31 dc31 pm31 cd31 ct31 : Value}
    {f32 : Addr} {od32 an32 : Option Addr} {sl32 : Array (Option Value)} {oc32 kV32 dc32 pm32 cd32 ct32 : Value}
    {f33 : Addr} {od33 an33 : Option Addr} {sl33 : Array (Option Value)} {oc33 kV33 dc33 pm33 cd33 ct33 : Value}
    {f34 : Addr} {od34 an34 : Option Addr} {sl34 : Array (Option Value)} {oc34 kV34 dc34 pm34 cd34 ct34 : Value}
    {f35 : Addr} {od35 an35 : Option Addr} {sl35 : Array (Option Value)} {oc35 kV35 dc35 pm35 cd35 ct35 : Value}
    {xzero : Addr} {dzero : Option Addr} {szero : Array (Option Value)} {tzero uzero : Tok} {mzero : Nat}
    {xone : Addr} {done : Option Addr} {sone : Array (Option Value)} {tone uone : Tok} {mone : Nat}
    (a0 : PySem.W.nsIn K mainGlobals "is_int" = some (some (.ref f0)))
    (l0 : K.lookup f0 = some ⟨oc0, od0, .func (PySem.W.fnOf "is_int" "is_int" (defArgs sIsInt) (defBody sIsInt) (defScope sIsInt) .none kV0 dc0 pm0 an0 cd0 ct0), sl0⟩)
    (c0 : PySem.W.codeIn K cd0 "is_int" = true)
    (k0 : PySem.W.keepIn K (.ref f0) = true)
    (a1 : PySem.W.nsIn K mainGlobals "is_ratio" = some (some (.ref f1)))
    (l1 : K.lookup f1 = some ⟨oc1, od1, .func (PySem.W.fnOf "is_ratio" "is_ratio" (defArgs sIsRatio) (defBody sIsRatio) (defScope sIsRatio) .none kV1 dc1 pm1 an1 cd1 ct1), sl1⟩)
    (c1 : PySem.W.codeIn K cd1 "is_ratio" = true)
    (k1 : PySem.W.keepIn K (.ref f1) = true)
    (a2 : PySem.W.nsIn K mainGlobals "need_ratio" = some (some (.ref f2)))
    (l2 : K.lookup f2 = some ⟨oc2, od2, .func (PySem.W.fnOf "need_ratio" "need_ratio" (defArgs sNeedRatio) (defBody sNeedRatio) (defScope sNeedRatio) .none kV2 dc2 pm2 an2 cd2 ct2), sl2⟩)
    (c2 : PySem.W.codeIn K cd2 "need_ratio" = true)
    (k2 : PySem.W.keepIn K (.ref f2) = true)
    (a3 : PySem.W.nsIn K mainGlobals "made" = some (some (.ref f3)))
    (l3 : K.lookup f3 = some ⟨oc3, od3, .func (PySem.W.fnOf "made" "made" (defArgs sMade) (defBody sMade) (defScope sMade) .none kV3 dc3 pm3 an3 cd3 ct3), sl3⟩)
    (c3 : PySem.W.codeIn K cd3 "made" = true)
    (k3 : PySem.W.keepIn K (.ref f3) = true)
    (a4 : PySem.W.nsIn K mainGlobals "plus" = some (some (.ref f4)))
    (l4 : K.lookup f4 = some ⟨oc4, od4, .func (PySem.W.fnOf "plus" "plus" (defArgs sPlus) (defBody sPlus) (defScope sPlus) .none kV4 dc4 pm4 an4 cd4 ct4), sl4⟩)
    (c4 : PySem.W.codeIn K cd4 "plus" = true)
    (k4 : PySem.W.keepIn K (.ref f4) = true)
    (a5 : PySem.W.nsIn K mainGlobals "less" = some (some (.ref f5)))
    (l5 : K.lookup f5 = some ⟨oc5, od5, .func (PySem.W.fnOf "less" "less" (defArgs sLess) (defBody sLess) (defScope sLess) .none kV5 dc5 pm5 an5 cd5 ct5), sl5⟩)
    (c5 : PySem.W.codeIn K cd5 "less" = true)
    (k5 : PySem.W.keepIn K (.ref f5) = true)
    (a6 : PySem.W.nsIn K mainGlobals "times" = some (some (.ref f6)))
    (l6 : K.lookup f6 = some ⟨oc6, od6, .func (PySem.W.fnOf "times" "times" (defArgs sTimes) (defBody sTimes) (defScope sTimes) .none kV6 dc6 pm6 an6 cd6 ct6), sl6⟩)
    (c6 : PySem.W.codeIn K cd6 "times" = true)
    (k6 : PySem.W.keepIn K (.ref f6) = true)
    (a7 : PySem.W.nsIn K mainGlobals "over" = some (some (.ref f7)))
    (l7 : K.lookup f7 = some ⟨oc7, od7, .func (PySem.W.fnOf "over" "over" (defArgs sOver) (defBody sOver) (defScope sOver) .none kV7 dc7 pm7 an7 cd7 ct7), sl7⟩)
    (c7 : PySem.W.codeIn K cd7 "over" = true)
    (k7 : PySem.W.keepIn K (.ref f7) = true)
    (a8 : PySem.W.nsIn K mainGlobals "between" = some (some (.ref f8)))
    (l8 : K.lookup f8 = some ⟨oc8, od8, .func (PySem.W.fnOf "between" "between" (defArgs sBetween) (defBody sBetween) (defScope sBetween) .none kV8 dc8 pm8 an8 cd8 ct8), sl8⟩)
    (c8 : PySem.W.codeIn K cd8 "between" = true)
    (k8 : PySem.W.keepIn K (.ref f8) = true)
    (a9 : PySem.W.nsIn K mainGlobals "are_ratios" = some (some (.ref f9)))
    (l9 : K.lookup f9 = some ⟨oc9, od9, .func (PySem.W.fnOf "are_ratios" "are_ratios" (defArgs sAreRatios) (defBody sAreRatios) (defScope sAreRatios) .none kV9 dc9 pm9 an9 cd9 ct9), sl9⟩)
    (c9 : PySem.W.codeIn K cd9 "are_ratios" = true)
    (k9 : PySem.W.keepIn K (.ref f9) = true)
    (a10 : PySem.W.nsIn K mainGlobals "need_points" = some (some (.ref f10)))
    (l10 : K.lookup f10 = some ⟨oc10, od10, .func (PySem.W.fnOf "need_points" "need_points" (defArgs sNeedPoints) (defBody sNeedPoints) (defScope sNeedPoints) .none kV10 dc10 pm10 an10 cd10 ct10), sl10⟩)
    (c10 : PySem.W.codeIn K cd10 "need_points" = true)
    (k10 : PySem.W.keepIn K (.ref f10) = true)
    (a11 : PySem.W.nsIn K mainGlobals "need_weights" = some (some (.ref f11)))
    (l11 : K.lookup f11 = some ⟨oc11, od11, .func (PySem.W.fnOf "need_weights" "need_weights" (defArgs sNeedWeights) (defBody sNeedWeights) (defScope sNeedWeights) .none kV11 dc11 pm11 an11 cd11 ct11), sl11⟩)
    (c11 : PySem.W.codeIn K cd11 "need_weights" = true)
    (k11 : PySem.W.keepIn K (.ref f11) = true)
    (a12 : PySem.W.nsIn K mainGlobals "ladder_of" = some (some (.ref f12)))
    (l12 : K.lookup f12 = some ⟨oc12, od12, .func (PySem.W.fnOf "ladder_of" "ladder_of" (defArgs sLadder) (defBody sLadder) (defScope sLadder) .none kV12 dc12 pm12 an12 cd12 ct12), sl12⟩)
    (c12 : PySem.W.codeIn K cd12 "ladder_of" = true)
    (k12 : PySem.W.keepIn K (.ref f12) = true)
    (a13 : PySem.W.nsIn K mainGlobals "point_of" = some (some (.ref f13)))
    (l13 : K.lookup f13 = some ⟨oc13, od13, .func (PySem.W.fnOf "point_of" "point_of" (defArgs sPointOf) (defBody sPointOf) (defScope sPointOf) .none kV13 dc13 pm13 an13 cd13 ct13), sl13⟩)
    (c13 : PySem.W.codeIn K cd13 "point_of" = true)
    (k13 : PySem.W.keepIn K (.ref f13) = true)
    (a14 : PySem.W.nsIn K mainGlobals "conic_point" = some (some (.ref f14)))
    (l14 : K.lookup f14 = some ⟨oc14, od14, .func (PySem.W.fnOf "conic_point" "conic_point" (defArgs sConicPoint) (defBody sConicPoint) (defScope sConicPoint) .none kV14 dc14 pm14 an14 cd14 ct14), sl14⟩)
    (c14 : PySem.W.codeIn K cd14 "conic_point" = true)
    (k14 : PySem.W.keepIn K (.ref f14) = true)
    (a15 : PySem.W.nsIn K mainGlobals "whole_numbers" = some (some (.ref f15)))
    (l15 : K.lookup f15 = some ⟨oc15, od15, .func (PySem.W.fnOf "whole_numbers" "whole_numbers" (defArgs sWhole) (defBody sWhole) (defScope sWhole) .none kV15 dc15 pm15 an15 cd15 ct15), sl15⟩)
    (c15 : PySem.W.codeIn K cd15 "whole_numbers" = true)
    (k15 : PySem.W.keepIn K (.ref f15) = true)
    (a16 : PySem.W.nsIn K mainGlobals "line_through" = some (some (.ref f16)))
    (l16 : K.lookup f16 = some ⟨oc16, od16, .func (PySem.W.fnOf "line_through" "line_through" (defArgs sLine) (defBody sLine) (defScope sLine) .none kV16 dc16 pm16 an16 cd16 ct16), sl16⟩)
    (c16 : PySem.W.codeIn K cd16 "line_through" = true)
    (k16 : PySem.W.keepIn K (.ref f16) = true)
    (a17 : PySem.W.nsIn K mainGlobals "line_product" = some (some (.ref f17)))
    (l17 : K.lookup f17 = some ⟨oc17, od17, .func (PySem.W.fnOf "line_product" "line_product" (defArgs sLineProd) (defBody sLineProd) (defScope sLineProd) .none kV17 dc17 pm17 an17 cd17 ct17), sl17⟩)
    (c17 : PySem.W.codeIn K cd17 "line_product" = true)
    (k17 : PySem.W.keepIn K (.ref f17) = true)
    (a18 : PySem.W.nsIn K mainGlobals "equation" = some (some (.ref f18)))
    (l18 : K.lookup f18 = some ⟨oc18, od18, .func (PySem.W.fnOf "equation" "equation" (defArgs sEquation) (defBody sEquation) (defScope sEquation) .none kV18 dc18 pm18 an18 cd18 ct18), sl18⟩)
    (c18 : PySem.W.codeIn K cd18 "equation" = true)
    (k18 : PySem.W.keepIn K (.ref f18) = true)
    (a19 : PySem.W.nsIn K mainGlobals "terms_of" = some (some (.ref f19)))
    (l19 : K.lookup f19 = some ⟨oc19, od19, .func (PySem.W.fnOf "terms_of" "terms_of" (defArgs sTerms) (defBody sTerms) (defScope sTerms) .none kV19 dc19 pm19 an19 cd19 ct19), sl19⟩)
    (c19 : PySem.W.codeIn K cd19 "terms_of" = true)
    (k19 : PySem.W.keepIn K (.ref f19) = true)
    (a20 : PySem.W.nsIn K mainGlobals "through_five" = some (some (.ref f20)))
    (l20 : K.lookup f20 = some ⟨oc20, od20, .func (PySem.W.fnOf "through_five" "through_five" (defArgs sThrough) (defBody sThrough) (defScope sThrough) .none kV20 dc20 pm20 an20 cd20 ct20), sl20⟩)
    (c20 : PySem.W.codeIn K cd20 "through_five" = true)
    (k20 : PySem.W.keepIn K (.ref f20) = true)
    (a21 : PySem.W.nsIn K mainGlobals "_law_taken" = some (some (.ref f21)))
    (l21 : K.lookup f21 = some ⟨oc21, od21, .func (PySem.W.fnOf "_law_taken" "_law_taken" (defArgs sLTaken) (defBody sLTaken) (defScope sLTaken) .none kV21 dc21 pm21 an21 cd21 ct21), sl21⟩)
    (c21 : PySem.W.codeIn K cd21 "_law_taken" = true)
    (k21 : PySem.W.keepIn K (.ref f21) = true)
    (a22 : PySem.W.nsIn K mainGlobals "_law_pick" = some (some (.ref f22)))
    (l22 : K.lookup f22 = some ⟨oc22, od22, .func (PySem.W.fnOf "_law_pick" "_law_pick" (defArgs sLPick) (defBody sLPick) (defScope sLPick) .none kV22 dc22 pm22 an22 cd22 ct22), sl22⟩)
    (c22 : PySem.W.codeIn K cd22 "_law_pick" = true)
    (k22 : PySem.W.keepIn K (.ref f22) = true)
    (a23 : PySem.W.nsIn K mainGlobals "_law_made" = some (some (.ref f23)))
    (l23 : K.lookup f23 = some ⟨oc23, od23, .func (PySem.W.fnOf "_law_made" "_law_made" (defArgs sLMade) (defBody sLMade) (defScope sLMade) .none kV23 dc23 pm23 an23 cd23 ct23), sl23⟩)
    (c23 : PySem.W.codeIn K cd23 "_law_made" = true)
    (k23 : PySem.W.keepIn K (.ref f23) = true)
    (a24 : PySem.W.nsIn K mainGlobals "_law_plus" = some (some (.ref f24)))
    (l24 : K.lookup f24 = some ⟨oc24, od24, .func (PySem.W.fnOf "_law_plus" "_law_plus" (defArgs sLPlus) (defBody sLPlus) (defScope sLPlus) .none kV24 dc24 pm24 an24 cd24 ct24), sl24⟩)
    (c24 : PySem.W.codeIn K cd24 "_law_plus" = true)
    (k24 : PySem.W.keepIn K (.ref f24) = true)
    (a25 : PySem.W.nsIn K mainGlobals "_law_minus" = some (some (.ref f25)))
    (l25 : K.lookup f25 = some ⟨oc25, od25, .func (PySem.W.fnOf "_law_minus" "_law_minus" (defArgs sLMinus) (defBody sLMinus) (defScope sLMinus) .none kV25 dc25 pm25 an25 cd25 ct25), sl25⟩)
    (c25 : PySem.W.codeIn K cd25 "_law_minus" = true)
    (k25 : PySem.W.keepIn K (.ref f25) = true)
    (a26 : PySem.W.nsIn K mainGlobals "_law_times" = some (some (.ref f26)))
    (l26 : K.lookup f26 = some ⟨oc26, od26, .func (PySem.W.fnOf "_law_times" "_law_times" (defArgs sLTimes) (defBody sLTimes) (defScope sLTimes) .none kV26 dc26 pm26 an26 cd26 ct26), sl26⟩)
    (c26 : PySem.W.codeIn K cd26 "_law_times" = true)
    (k26 : PySem.W.keepIn K (.ref f26) = true)
    (a27 : PySem.W.nsIn K mainGlobals "_law_over" = some (some (.ref f27)))
    (l27 : K.lookup f27 = some ⟨oc27, od27, .func (PySem.W.fnOf "_law_over" "_law_over" (defArgs sLOver) (defBody sLOver) (defScope sLOver) .none kV27 dc27 pm27 an27 cd27 ct27), sl27⟩)
    (c27 : PySem.W.codeIn K cd27 "_law_over" = true)
    (k27 : PySem.W.keepIn K (.ref f27) = true)
    (a28 : PySem.W.nsIn K mainGlobals "_law_sum" = some (some (.ref f28)))
    (l28 : K.lookup f28 = some ⟨oc28, od28, .func (PySem.W.fnOf "_law_sum" "_law_sum" (defArgs sLSum) (defBody sLSum) (defScope sLSum) .none kV28 dc28 pm28 an28 cd28 ct28), sl28⟩)
    (c28 : PySem.W.codeIn K cd28 "_law_sum" = true)
    (k28 : PySem.W.keepIn K (.ref f28) = true)
    (a29 : PySem.W.nsIn K mainGlobals "_law_draw" = some (some (.ref f29)))
    (l29 : K.lookup f29 = some ⟨oc29, od29, .func (PySem.W.fnOf "_law_draw" "_law_draw" (defArgs sLDraw) (defBody sLDraw) (defScope sLDraw) .none kV29 dc29 pm29 an29 cd29 ct29), sl29⟩)
    (c29 : PySem.W.codeIn K cd29 "_law_draw" = true)
    (k29 : PySem.W.keepIn K (.ref f29) = true)
    (a30 : PySem.W.nsIn K mainGlobals "_law_middle" = some (some (.ref f30)))
    (l30 : K.lookup f30 = some ⟨oc30, od30, .func (PySem.W.fnOf "_law_middle" "_law_middle" (defArgs sLMiddle) (defBody sLMiddle) (defScope sLMiddle) .none kV30 dc30 pm30 an30 cd30 ct30), sl30⟩)
    (c30 : PySem.W.codeIn K cd30 "_law_middle" = true)
    (k30 : PySem.W.keepIn K (.ref f30) = true)
    (a31 : PySem.W.nsIn K mainGlobals "_law_point" = some (some (.ref f31)))
    (l31 : K.lookup f31 = some ⟨oc31, od31, .func (PySem.W.fnOf "_law_point" "_law_point" (defArgs sLPoint) (defBody sLPoint) (defScope sLPoint) .none kV31 dc31 pm31 an31 cd31 ct31), sl31⟩)
    (c31 : PySem.W.codeIn K cd31 "_law_point" = true)
    (k31 : PySem.W.keepIn K (.ref f31) = true)
    (a32 : PySem.W.nsIn K mainGlobals "_law_weights" = some (some (.ref f32)))
    (l32 : K.lookup f32 = some ⟨oc32, od32, .func (PySem.W.fnOf "_law_weights" "_law_weights" (defArgs sLWeights) (defBody sLWeights) (defScope sLWeights) .none kV32 dc32 pm32 an32 cd32 ct32), sl32⟩)
    (c32 : PySem.W.codeIn K cd32 "_law_weights" = true)
    (k32 : PySem.W.keepIn K (.ref f32) = true)
    (a33 : PySem.W.nsIn K mainGlobals "_law_left_side" = some (some (.ref f33)))
    (l33 : K.lookup f33 = some ⟨oc33, od33, .func (PySem.W.fnOf "_law_left_side" "_law_left_side" (defArgs sLLeft) (defBody sLLeft) (defScope sLLeft) .none kV33 dc33 pm33 an33 cd33 ct33), sl33⟩)
    (c33 : PySem.W.codeIn K cd33 "_law_left_side" = true)
    (k33 : PySem.W.keepIn K (.ref f33) = true)
    (a34 : PySem.W.nsIn K mainGlobals "_law_free_rows" = some (some (.ref f34)))
    (l34 : K.lookup f34 = some ⟨oc34, od34, .func (PySem.W.fnOf "_law_free_rows" "_law_free_rows" (defArgs sLFree) (defBody sLFree) (defScope sLFree) .none kV34 dc34 pm34 an34 cd34 ct34), sl34⟩)
    (c34 : PySem.W.codeIn K cd34 "_law_free_rows" = true)
    (k34 : PySem.W.keepIn K (.ref f34) = true)
    (a35 : PySem.W.nsIn K mainGlobals "law" = some (some (.ref f35)))
    (l35 : K.lookup f35 = some ⟨oc35, od35, .func (PySem.W.fnOf "law" "law" (defArgs sLaw) (defBody sLaw) (defScope sLaw) .none kV35 dc35 pm35 an35 cd35 ct35), sl35⟩)
    (c35 : PySem.W.codeIn K cd35 "law" = true)
    (k35 : PySem.W.keepIn K (.ref f35) = true)
    (z_isinst : PySem.W.nsIn K mainGlobals "isinstance" = some none)
    (z_int : PySem.W.nsIn K mainGlobals "int" = some none)
    (z_bool : PySem.W.nsIn K mainGlobals "bool" = some none)
    (z_tuple : PySem.W.nsIn K mainGlobals "tuple" = some none)
    (z_list : PySem.W.nsIn K mainGlobals "list" = some none)
    (z_len : PySem.W.nsIn K mainGlobals "len" = some none)
    (z_all : PySem.W.nsIn K mainGlobals "all" = some none)
    (z_enum : PySem.W.nsIn K mainGlobals "enumerate" = some none)
    (z_zip : PySem.W.nsIn K mainGlobals "zip" = some none)
    (z_range : PySem.W.nsIn K mainGlobals "range" = some none)
    (z_abs : PySem.W.nsIn K mainGlobals "abs" = some none)
    (gg : PySem.W.nsIn K mainGlobals "gcd" = some (some (.builtin "math.gcd")))
    (yzero : PySem.W.nsIn K mainGlobals "ZERO" = some (some (.ref xzero)))
    (wzero : K.lookup xzero = some ⟨.type "tuple", dzero, .seq #[.int 0 tzero, .int 1 uzero] mzero, szero⟩)
    (yone : PySem.W.nsIn K mainGlobals "ONE" = some (some (.ref xone)))
    (wone : K.lookup xone = some ⟨.type "tuple", done, .seq #[.int 1 tone, .int 1 uone] mone, sone⟩)
    : ∃ fd : FuncData, (∀ (s : Shared) (v : Value), BindsTo s fd ⟨[v], []⟩ [("_law_script", v)]) ∧ ∀ base : Heap, K.In base → base.Ns mainGlobals mg → FnOk l.prog w K mg base CX0 6 fa fd ["_law_script"] (spLaw K) := by
  have e := hfa.symm.trans (PySem.W.mg_of X G a35)
  cases e
  have FL := fun_mk (st := sLaw) l35 c35 k35
  have A : AllDf K mg := ⟨⟨PySem.W.mg_of X G gg, PySem.W.mg_none_of X G z_isinst, PySem.W.mg_none_of X G z_int, PySem.W.mg_none_of X G z_bool, PySem.W.mg_none_of X G z_tuple, PySem.W.mg_none_of X G z_list, PySem.W.mg_none_of X G z_len, PySem.W.mg_none_of X G z_all, PySem.W.mg_none_of X G z_enum, PySem.W.mg_none_of X G z_zip, PySem.W.mg_none_of X G z_range, PySem.W.mg_none_of X G z_abs, tup_mk X G yzero wzero, tup_mk X G yone wone⟩,
    df_mk X G a0 l0 c0 k0 fun _ _ _ _ _ _ us hl => match us, hl with | [_], _ => rfl,
    df_mk X G a1 l1 c1 k1 fun _ _ _ _ _ _ us hl => match us, hl with | [_], _ => rfl,
    df_mk X G a2 l2 c2 k2 fun _ _ _ _ _ _ us hl => match us, hl with | [_], _ => rfl,
    df_mk X G a3 l3 c3 k3 fun _ _ _ _ _ _ us hl => match us, hl with | [_, _], _ => rfl,
    df_mk X G a4 l4 c4 k4 fun _ _ _ _ _ _ us hl => match us, hl with | [_, _], _ => rfl,
    df_mk X G a5 l5 c5 k5 fun _ _ _ _ _ _ us hl => match us, hl with | [_, _], _ => rfl,
    df_mk X G a6 l6 c6 k6 fun _ _ _ _ _ _ us hl => match us, hl with | [_, _], _ => rfl,
    df_mk X G a7 l7 c7 k7 fun _ _ _ _ _ _ us hl => match us, hl with | [_, _], _ => rfl,
    df_mk X G a8 l8 c8 k8 fun _ _ _ _ _ _ us hl => match us, hl with | [_, _, _], _ => rfl,
    df_mk X G a9 l9 c9 k9 fun _ _ _ _ _ _ us hl => match us, hl with | [_, _], _ => rfl,
    df_mk X G a10 l10 c10 k10 fun _ _ _ _ _ _ us hl => match us, hl with | [_, _], _ => rfl,
    df_mk X G a11 l11 c11 k11 fun _ _ _ _ _ _ us hl => match us, hl with | [_], _ => rfl,
    df_mk X G a12 l12 c12 k12 fun _ _ _ _ _ _ us hl => match us, hl with | [_, _, _], _ => rfl,
    df_mk X G a13 l13 c13 k13 fun _ _ _ _ _ _ us hl => match us, hl with | [_], _ => rfl,
    df_mk X G a14 l14 c14 k14 fun _ _ _ _ _ _ us hl => match us, hl with | [_, _, _], _ => rfl,
    df_mk X G a15 l15 c15 k15 fun _ _ _ _ _ _ us hl => match us, hl with | [_], _ => rfl,
    df_mk X G a16 l16 c16 k16 fun _ _ _ _ _ _ us hl => match us, hl with | [_, _], _ => rfl,
    df_mk X G a17 l17 c17 k17 fun _ _ _ _ _ _ us hl => match us, hl with | [_, _], _ => rfl,
    df_mk X G a18 l18 c18 k18 fun _ _ _ _ _ _ us hl => match us, hl with | [_, _], _ => rfl,
    df_mk X G a19 l19 c19 k19 fun _ _ _ _ _ _ us hl => match us, hl with | [_], _ => rfl,
    df_mk X G a20 l20 c20 k20 fun _ _ _ _ _ _ us hl => match us, hl with | [_], _ => rfl,
    df_mk X G a21 l21 c21 k21 fun _ _ _ _ _ _ us hl => match us, hl with | [_, _], _ => rfl,
    df_mk X G a22 l22 c22 k22 fun _ _ _ _ _ _ us hl => match us, hl with | [_, _], _ => rfl,
    df_mk X G a23 l23 c23 k23 fun _ _ _ _ _ _ us hl => match us, hl with | [_, _], _ => rfl,
    df_mk X G a24 l24 c24 k24 fun _ _ _ _ _ _ us hl => match us, hl with | [_, _], _ => rfl,
    df_mk X G a25 l25 c25 k25 fun _ _ _ _ _ _ us hl => match us, hl with | [_, _], _ => rfl,
    df_mk X G a26 l26 c26 k26 fun _ _ _ _ _ _ us hl => match us, hl with | [_, _], _ => rfl,
    df_mk X G a27 l27 c27 k27 fun _ _ _ _ _ _ us hl => match us, hl with | [_, _], _ => rfl,
    df_mk X G a28 l28 c28 k28 fun _ _ _ _ _ _ us hl => match us, hl with | [_], _ => rfl,
    df_mk X G a29 l29 c29 k29 fun _ _ _ _ _ _ us hl => match us, hl with | [_], _ => rfl,
    df_mk X G a30 l30 c30 k30 fun _ _ _ _ _ _ us hl => match us, hl with | [_, _, _], _ => rfl,
    df_mk X G a31 l31 c31 k31 fun _ _ _ _ _ _ us hl => match us, hl with | [_], _ => rfl,
    df_mk X G a32 l32 c32 k32 fun _ _ _ _ _ _ us hl => match us, hl with | [_], _ => rfl,
    df_mk X G a33 l33 c33 k33 fun _ _ _ _ _ _ us hl => match us, hl with | [_, _], _ => rfl,
    df_mk X G a34 l34 c34 k34 fun _ _ _ _ _ _ us hl => match us, hl with | [_], _ => rfl⟩
  exact ⟨PySem.W.fnOf "law" "law" (defArgs sLaw) (defBody sLaw) (defScope sLaw) .none kV35 dc35 pm35 an35 cd35 ct35, fun s v => .of_eq rfl, fun base _ _ => law_ok A FL⟩
end K54
open PySem PySem.W PyProof.Rows
set_option maxHeartbeats 0 in
theorem PySem.Challenge.cw_blendcurves_k54_whole_conics_through_poi_holds : PySem.Challenge.rw_blendcurves_k54_whole_conics_through_poi.Holds := by
  w_on; o_law; k_head; (case hw => w_witness2)
  k_fill
  refine L2.walk_of (l := PySem.Challenge.rw_blendcurves_k54_whole_conics_through_poi) (n := 63) (k := 6) (x := "_law_script") (CX := fun _ => L2.CX0) (sp := fun w => K54.spLaw _) rfl (by decide) rfl ⟨rfl, by decide, by decide⟩ (fun w h Y => PySem.W.kIn_of Y) ?F (fun _ _ a ns hl _ hS => ⟨a, ns, rfl, hS, hl, fun _ => rfl⟩) (fun _ _ _ _ _ h => h)
  case F =>
    intro w mg fa h KX G hmg
    refine' K54.all_mk KX G hmg ?a0 ?l0 ?c0 ?k0 ?a1 ?l1 ?c1 ?k1 ?a2 ?l2 ?c2 ?k2 ?a3 ?l3 ?c3 ?k3 ?a4 ?l4 ?c4 ?k4 ?a5 ?l5 ?c5 ?k5 ?a6 ?l6 ?c6 ?k6 ?a7 ?l7 ?c7 ?k7 ?a8 ?l8 ?c8 ?k8 ?a9 ?l9 ?c9 ?k9 ?a10 ?l10 ?c10 ?k10 ?a11 ?l11 ?c11 ?k11 ?a12 ?l12 ?c12 ?k12 ?a13 ?l13 ?c13 ?k13 ?a14 ?l14 ?c14 ?k14 ?a15 ?l15 ?c15 ?k15 ?a16 ?l16 ?c16 ?k16 ?a17 ?l17 ?c17 ?k17 ?a18 ?l18 ?c18 ?k18 ?a19 ?l19 ?c19 ?k19 ?a20 ?l20 ?c20 ?k20 ?a21 ?l21 ?c21 ?k21 ?a22 ?l22 ?c22 ?k22 ?a23 ?l23 ?c23 ?k23 ?a24 ?l24 ?c24 ?k24 ?a25 ?l25 ?c25 ?k25 ?a26 ?l26 ?c26 ?k26 ?a27 ?l27 ?c27 ?k27 ?a28 ?l28 ?c28 ?k28 ?a29 ?l29 ?c29 ?k29 ?a30 ?l30 ?c30 ?k30 ?a31 ?l31 ?c31 ?k31 ?a32 ?l32 ?c32 ?k32 ?a33 ?l33 ?c33 ?k33 ?a34 ?l34 ?c34 ?k34 ?a35 ?l35 ?c35 ?k35 ?z_isinst ?z_int ?z_bool ?z_tuple ?z_list ?z_len ?z_all ?z_enum ?z_zip ?z_range ?z_abs ?gg ?yzero ?wzero ?yone ?wone
    (case a0 => k_is); (case l0 => k_is); (case c0 => k_is); (case k0 => k_is); (case a1 => k_is); (case l1 => k_is); (case c1 => k_is); (case k1 => k_is); (case a2 => k_is); (case l2 => k_is); (case c2 => k_is); (case k2 => k_is); (case a3 => k_is); (case l3 => k_is); (case c3 => k_is); (case k3 => k_is); (case a4 => k_is); (case l4 => k_is); (case c4 => k_is); (case k4 => k_is); (case a5 => k_is); (case l5 => k_is); (case c5 => k_is); (case k5 => k_is); (case a6 => k_is); (case l6 => k_is); (case c6 => k_is); (case k6 => k_is); (case a7 => k_is); (case l7 => k_is); (case c7 => k_is); (case k7 => k_is); (case a8 => k_is); (case l8 => k_is); (case c8 => k_is); (case k8 => k_is); (case a9 => k_is); (case l9 => k_is); (case c9 => k_is); (case k9 => k_is); (case a10 => k_is); (case l10 => k_is); (case c10 => k_is); (case k10 => k_is); (case a11 => k_is); (case l11 => k_is); (case c11 => k_is); (case k11 => k_is); (case a12 => k_is); (case l12 => k_is); (case c12 => k_is); (case k12 => k_is); (case a13 => k_is); (case l13 => k_is); (case c13 => k_is); (case k13 => k_is); (case a14 => k_is); (case l14 => k_is); (case c14 => k_is); (case k14 => k_is); (case a15 => k_is); (case l15 => k_is); (case c15 => k_is); (case k15 => k_is); (case a16 => k_is); (case l16 => k_is); (case c16 => k_is); (case k16 => k_is); (case a17 => k_is); (case l17 => k_is); (case c17 => k_is); (case k17 => k_is); (case a18 => k_is); (case l18 => k_is); (case c18 => k_is); (case k18 => k_is); (case a19 => k_is); (case l19 => k_is); (case c19 => k_is); (case k19 => k_is); (case a20 => k_is); (case l20 => k_is); (case c20 => k_is); (case k20 => k_is); (case a21 => k_is); (case l21 => k_is); (case c21 => k_is); (case k21 => k_is); (case a22 => k_is); (case l22 => k_is); (case c22 => k_is); (case k22 => k_is); (case a23 => k_is); (case l23 => k_is); (case c23 => k_is); (case k23 => k_is); (case a24 => k_is); (case l24 => k_is); (case c24 => k_is); (case k24 => k_is); (case a25 => k_is); (case l25 => k_is); (case c25 => k_is); (case k25 => k_is); (case a26 => k_is); (case l26 => k_is); (case c26 => k_is); (case k26 => k_is); (case a27 => k_is); (case l27 => k_is); (case c27 => k_is); (case k27 => k_is); (case a28 => k_is); (case l28 => k_is); (case c28 => k_is); (case k28 => k_is); (case a29 => k_is); (case l29 => k_is); (case c29 => k_is); (case k29 => k_is); (case a30 => k_is); (case l30 => k_is); (case c30 => k_is); (case k30 => k_is); (case a31 => k_is); (case l31 => k_is); (case c31 => k_is); (case k31 => k_is); (case a32 => k_is); (case l32 => k_is); (case c32 => k_is); (case k32 => k_is); (case a33 => k_is); (case l33 => k_is); (case c33 => k_is); (case k33 => k_is); (case a34 => k_is); (case l34 => k_is); (case c34 => k_is); (case k34 => k_is); (case a35 => k_is); (case l35 => k_is); (case c35 => k_is); (case k35 => k_is); (case z_isinst => k_is); (case z_int => k_is); (case z_bool => k_is); (case z_tuple => k_is); (case z_list => k_is); (case z_len => k_is); (case z_all => k_is); (case z_enum => k_is); (case z_zip => k_is); (case z_range => k_is); (case z_abs => k_is); (case gg => k_is); (case yzero => k_is); (case wzero => k_is); (case yone => k_is); (case wone => k_is)
