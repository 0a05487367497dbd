import PyProof.Rows.All
import Wide.All
import OpenK.AllK
import Wide.FinOn
import HandS.ForMost
import HandS.Walk
import HandS.Wide
import HandS.Gcd
import HandS.Zip
import HandS.Zip0
import HandS.IsInst
import HandS.SlotsOwn
import HandS.Style
import HandS.TupMul
import HandS.RaiseMore
import HandS.AnyAll
import HandS.Flow
import HandS.HeadHook4
import HandS.HeadWalk
import HandS.EndTab
import HandS.Head2
import KE.GoesEnum
import PySem.Challenge.RW_sourceforms_k63_whole_level_tables_and_a
import HandS.Head3
import HandS.Star
import HandS.TupAny
import HandS.IterVal
import PyProof.InstNe
/-! ## K63A -/
/-! Sums, rows of integers, and what stays as rows are cleared by a head. -/
set_option maxHeartbeats 400000
namespace K63
/-! ### sums -/
def sm : Nat → (Nat → Int) → Int
  | 0, _ => 0
  | n + 1, f => sm n f + f n
theorem sm_congr {f g : Nat → Int} : ∀ {n : Nat}, (∀ i, i < n → f i = g i) → sm n f = sm n g
  | 0, _ => rfl
  | n + 1, h => by
    show sm n f + f n = sm n g + g n
    rw [sm_congr (n := n) fun i hi => h i (Nat.lt_succ_of_lt hi), h n (Nat.lt_succ_self n)]
theorem sm_add (f g : Nat → Int) : ∀ n, sm n (fun i => f i + g i) = sm n f + sm n g
  | 0 => rfl
  | n + 1 => by
    show sm n (fun i => f i + g i) + (f n + g n) = sm n f + f n + (sm n g + g n)
    rw [sm_add f g n]
    omega
theorem sm_mul (c : Int) (f : Nat → Int) : ∀ n, sm n (fun i => c * f i) = c * sm n f
  | 0 => (Int.mul_zero c).symm
  | n + 1 => by
    show sm n (fun i => c * f i) + c * f n = c * (sm n f + f n)
    rw [sm_mul c f n, Int.mul_add]
theorem sm_sub (f g : Nat → Int) (n : Nat) : sm n (fun i => f i - g i) = sm n f - sm n g := by
  have h := sm_add f (fun i => -1 * g i) n
  rw [sm_mul] at h
  rw [sm_congr (g := fun i => f i + -1 * g i) fun i _ => by omega, h]
  omega
theorem sm_zero {f : Nat → Int} : ∀ {n : Nat}, (∀ i, i < n → f i = 0) → sm n f = 0
  | 0, _ => rfl
  | n + 1, h => by
    show sm n f + f n = 0
    rw [sm_zero (n := n) fun i hi => h i (Nat.lt_succ_of_lt hi), h n (Nat.lt_succ_self n)]
    rfl
theorem sm_single {f : Nat → Int} {k : Nat} : ∀ {n : Nat}, k < n → (∀ i, i < n → i ≠ k → f i = 0) → sm n f = f k
  | 0, h, _ => absurd h (Nat.not_lt_zero k)
  | n + 1, h, z => by
    show sm n f + f n = f k
    by_cases e : k = n
    · subst e
      rw [sm_zero (n := k) fun i hi => z i (Nat.lt_succ_of_lt hi) (Nat.ne_of_lt hi)]
      exact Int.zero_add _
    · rw [sm_single (n := n) (by omega) fun i hi => z i (Nat.lt_succ_of_lt hi), z n (Nat.lt_succ_self n) (Ne.symm e)]
      exact Int.add_zero _
theorem sm_swap (f : Nat → Nat → Int) (m : Nat) : ∀ n, sm n (fun i => sm m fun j => f i j) = sm m (fun j => sm n fun i => f i j)
  | 0 => (sm_zero fun _ _ => rfl).symm
  | n + 1 => by
    show sm n (fun i => sm m fun j => f i j) + sm m (fun j => f n j) = sm m (fun j => sm n (fun i => f i j) + f n j)
    rw [sm_add, sm_swap f m n]

/-! ### rows -/
/-- the entry at a place -/
def g (r : List Int) (i : Nat) : Int := r.getD i 0
theorem g_get {r : List Int} {i : Nat} {x : Int} (h : r[i]? = some x) : g r i = x := by
  unfold g
  rw [List.getD_eq_getElem?_getD, h]
  rfl
theorem g_lt {r : List Int} {i : Nat} (h : i < r.length) : r[i]? = some (g r i) := by
  unfold g
  rw [List.getD_eq_getElem?_getD, List.getElem?_eq_getElem h]
  rfl
theorem g_ge {r : List Int} {i : Nat} (h : r.length ≤ i) : g r i = 0 := by
  unfold g
  rw [List.getD_eq_getElem?_getD, List.getElem?_eq_none_iff.mpr h]
  rfl
theorem g_mem {r : List Int} {i : Nat} (h : i < r.length) : g r i ∈ r := List.mem_of_getElem? (g_lt h)
theorem g_nil (i : Nat) : g [] i = 0 := g_ge (Nat.zero_le _)
theorem g_cons_zero (a : Int) (r : List Int) : g (a :: r) 0 = a := rfl
theorem g_cons_succ (a : Int) (r : List Int) (i : Nat) : g (a :: r) (i + 1) = g r i := rfl
theorem g_ext {r s : List Int} (hl : r.length = s.length) (h : ∀ i, i < r.length → g r i = g s i) : r = s := by
  refine List.ext_getElem? fun i => ?_
  by_cases hi : i < r.length
  · rw [g_lt hi, g_lt (by omega), h i hi]
  · rw [List.getElem?_eq_none_iff.mpr (by omega), List.getElem?_eq_none_iff.mpr (by omega)]
theorem g_map {r : List Int} {f : Int → Int} {i : Nat} (h : i < r.length) : g (r.map f) i = f (g r i) := by
  refine g_get ?_
  rw [List.getElem?_map, g_lt h]
  rfl
theorem g_map0 {r : List Int} {f : Int → Int} (hf : f 0 = 0) (i : Nat) : g (r.map f) i = f (g r i) := by
  by_cases h : i < r.length
  · exact g_map h
  · rw [g_ge (r := r) (by omega), g_ge (r := r.map f) (by rw [List.length_map]; omega), hf]
theorem g_zipWith {r s : List Int} {f : Int → Int → Int} {i : Nat} (h : i < r.length) (h2 : i < s.length) : g (List.zipWith f r s) i = f (g r i) (g s i) := by
  refine g_get ?_
  rw [List.getElem?_zipWith, g_lt h, g_lt h2]
theorem g_set {r : List Int} {k i : Nat} {x : Int} (h : k < r.length) : g (r.set k x) i = if i = k then x else g r i := by
  unfold g
  rw [List.getD_eq_getElem?_getD, List.getD_eq_getElem?_getD, List.getElem?_set]
  by_cases e : k = i
  · subst e
    rw [if_pos rfl, if_pos rfl, if_pos h]
    rfl
  · rw [if_neg e, if_neg (Ne.symm e)]
theorem g_rep (n i : Nat) : g (List.replicate n 0) i = 0 := by
  unfold g
  rw [List.getD_eq_getElem?_getD, List.getElem?_replicate]
  split <;> rfl

/-- the sum of the products of a row and some integers -/
def dot (w : Nat) (r : List Int) (x : Nat → Int) : Int := sm w fun i => g r i * x i

/-! ### the greatest common divisor of some integers -/
def gcd2 (a b : Int) : Int := ((Nat.gcd a.natAbs b.natAbs : Nat) : Int)
theorem gcd2_nonneg (a b : Int) : 0 ≤ gcd2 a b := Int.natCast_nonneg _
theorem gcd2_left (a b : Int) : gcd2 a b ∣ a := Int.ofNat_dvd_left.mpr (Nat.gcd_dvd_left _ _)
theorem gcd2_right (a b : Int) : gcd2 a b ∣ b := Int.ofNat_dvd_left.mpr (Nat.gcd_dvd_right _ _)
theorem dvd_gcd2 {d a b : Int} (h1 : d ∣ a) (h2 : d ∣ b) : d ∣ gcd2 a b :=
  Int.ofNat_dvd_right.mpr (Nat.dvd_gcd (Int.natAbs_dvd_natAbs.mpr h1) (Int.natAbs_dvd_natAbs.mpr h2))
theorem gcd2_pos {a b : Int} (h : b ≠ 0) : 0 < gcd2 a b := by
  have h1 : 0 < Nat.gcd a.natAbs b.natAbs := Nat.gcd_pos_of_pos_right _ (by omega)
  unfold gcd2
  omega
def shared (xs : List Int) : Int := xs.foldl gcd2 0
theorem foldl_gcd_nonneg : ∀ (xs : List Int) (a : Int), 0 ≤ a → 0 ≤ xs.foldl gcd2 a
  | [], _, h => h
  | x :: xs, a, _ => foldl_gcd_nonneg xs _ (gcd2_nonneg a x)
theorem foldl_gcd_dvd : ∀ (xs : List Int) (a : Int), xs.foldl gcd2 a ∣ a ∧ ∀ x ∈ xs, xs.foldl gcd2 a ∣ x
  | [], a => ⟨Int.dvd_refl a, fun x hx => nomatch hx⟩
  | y :: xs, a => by
    obtain ⟨h1, h2⟩ := foldl_gcd_dvd xs (gcd2 a y)
    refine ⟨Int.dvd_trans h1 (gcd2_left a y), fun x hx => ?_⟩
    rcases List.mem_cons.mp hx with e | hx
    · rw [e]
      exact Int.dvd_trans h1 (gcd2_right a y)
    · exact h2 x hx
theorem dvd_foldl_gcd {d : Int} : ∀ (xs : List Int) (a : Int), d ∣ a → (∀ x ∈ xs, d ∣ x) → d ∣ xs.foldl gcd2 a
  | [], _, h, _ => h
  | y :: xs, a, h, hx => dvd_foldl_gcd xs _ (dvd_gcd2 h (hx y List.mem_cons_self)) fun x q => hx x (List.mem_cons_of_mem _ q)
theorem shared_nonneg (xs : List Int) : 0 ≤ shared xs := foldl_gcd_nonneg xs 0 (Int.le_refl 0)
theorem shared_dvd {xs : List Int} {x : Int} (h : x ∈ xs) : shared xs ∣ x := (foldl_gcd_dvd xs 0).2 x h
theorem dvd_shared {d : Int} {xs : List Int} (h : ∀ x ∈ xs, d ∣ x) : d ∣ shared xs := dvd_foldl_gcd xs 0 (Int.dvd_zero d) h
theorem shared_dvd_g (xs : List Int) (i : Nat) : shared xs ∣ g xs i := by
  by_cases h : i < xs.length
  · exact shared_dvd (g_mem h)
  · rw [g_ge (by omega)]
    exact Int.dvd_zero _
theorem shared_eq_zero {xs : List Int} : shared xs = 0 ↔ ∀ x ∈ xs, x = 0 := by
  constructor
  · intro h x hx
    have d := shared_dvd hx
    rw [h] at d
    exact Int.zero_dvd.mp d
  · intro h
    exact Int.zero_dvd.mp (dvd_shared fun x hx => by rw [h x hx]; exact Int.dvd_refl 0)
theorem shared_le {xs : List Int} {x : Int} (h : x ∈ xs) (hx : x ≠ 0) : (shared xs).natAbs ≤ x.natAbs :=
  Nat.le_of_dvd (by omega) (Int.natAbs_dvd_natAbs.mpr (shared_dvd h))

/-! ### a row less a multiple of a head -/
def comb (one other : Int) (row head : List Int) : List Int := List.zipWith (fun e t => e * one - other * t) row head
def cut (xs : List Int) : List Int := if shared xs > 1 then xs.map (fun e => e / shared xs) else xs
def lessHead (row head : List Int) (p : Nat) : List Int :=
  if g row p = 0 then row
  else cut (comb (g head p / gcd2 (g head p) (g row p)) (g row p / gcd2 (g head p) (g row p)) row head)
theorem cut_len (xs : List Int) : (cut xs).length = xs.length := by
  unfold cut
  split
  · rw [List.length_map]
  · rfl
theorem cut_g (xs : List Int) : ∃ s : Int, 0 < s ∧ ∀ i, s * g (cut xs) i = g xs i := by
  unfold cut
  split
  · rename_i h
    refine ⟨shared xs, by omega, fun i => ?_⟩
    rw [g_map0 (f := fun e => e / shared xs) (Int.zero_ediv _)]
    exact Int.mul_ediv_cancel' (shared_dvd_g xs i)
  · exact ⟨1, by decide, fun i => Int.one_mul _⟩
theorem comb_g {one other : Int} {row head : List Int} (h : row.length = head.length) (i : Nat) : g (comb one other row head) i = g row i * one - other * g head i := by
  by_cases hi : i < row.length
  · exact g_zipWith hi (by omega)
  · have hl : (comb one other row head).length = min row.length head.length := List.length_zipWith
    rw [g_ge (r := row) (by omega), g_ge (r := head) (by omega), g_ge (by omega)]
    omega
theorem natAbs_of_mul {s x y : Int} (hs : 0 < s) (h : s * x = y) : x.natAbs ≤ y.natAbs := by
  rw [← h, Int.natAbs_mul]
  exact Nat.le_mul_of_pos_left _ (by omega)
theorem ediv_natAbs_le {a d : Int} (h : d ∣ a) (hd : 0 < d) : (a / d).natAbs ≤ a.natAbs := natAbs_of_mul hd (Int.mul_ediv_cancel' h)
/-- what less_head does -/
structure LH (row head new : List Int) (p : Nat) : Prop where
  len : new.length = row.length
  eq : ∃ a b s : Int, a ≠ 0 ∧ 0 < s ∧ ∀ i, s * g new i = a * g row i - b * g head i
  zero : g new p = 0
  size : ∀ M : Nat, 1 ≤ M → (∀ i, (g row i).natAbs ≤ M) → (∀ i, (g head i).natAbs ≤ M) → ∀ i, (g new i).natAbs ≤ 2 * (M * M)
theorem lh {row head : List Int} {p : Nat} (hl : row.length = head.length) (hp : g head p ≠ 0) : LH row head (lessHead row head p) p := by
  unfold lessHead
  split
  · rename_i h0
    refine ⟨rfl, ⟨1, 0, 1, by decide, by decide, fun i => by omega⟩, h0, fun M h1 hr _ i => ?_⟩
    have h2 := Nat.le_mul_of_pos_left M h1
    have h3 := hr i
    omega
  · rename_i h0
    have hg : 0 < gcd2 (g head p) (g row p) := gcd2_pos h0
    have e1 := Int.mul_ediv_cancel' (gcd2_left (g head p) (g row p))
    have e2 := Int.mul_ediv_cancel' (gcd2_right (g head p) (g row p))
    have n1 := ediv_natAbs_le (gcd2_left (g head p) (g row p)) hg
    have n2 := ediv_natAbs_le (gcd2_right (g head p) (g row p)) hg
    generalize g head p / gcd2 (g head p) (g row p) = one at *
    generalize g row p / gcd2 (g head p) (g row p) = other at *
    generalize gcd2 (g head p) (g row p) = d at *
    obtain ⟨s, hs, hc⟩ := cut_g (comb one other row head)
    have h1 : one ≠ 0 := fun e => hp (by rw [← e1, e, Int.mul_zero])
    refine ⟨?_, ⟨one, other, s, h1, hs, fun i => ?_⟩, ?_, fun M hM hr hh i => ?_⟩
    · rw [cut_len]
      show (List.zipWith _ row head).length = row.length
      rw [List.length_zipWith]
      omega
    · rw [hc, comb_g hl, Int.mul_comm one]
    · have z : s * g (cut (comb one other row head)) p = 0 := by
        rw [hc, comb_g hl, ← e1, ← e2, Int.mul_assoc, Int.mul_left_comm other d one, Int.mul_comm other one]
        omega
      rcases Int.mul_eq_zero.mp z with z | z
      · omega
      · exact z
    · refine Nat.le_trans (natAbs_of_mul hs (hc i)) ?_
      rw [comb_g hl]
      have a1 : (g row i * one).natAbs ≤ M * M := by
        rw [Int.natAbs_mul]
        exact Nat.mul_le_mul (hr i) (Nat.le_trans n1 (hh p))
      have a2 : (other * g head i).natAbs ≤ M * M := by
        rw [Int.natAbs_mul]
        exact Nat.mul_le_mul (Nat.le_trans n2 (hr p)) (hh i)
      omega
section
variable {row head new : List Int} {p w : Nat} {x : Nat → Int}
theorem dot_comb {r s t : List Int} {a b c : Int} (h : ∀ i, c * g t i = a * g r i - b * g s i) : c * dot w t x = a * dot w r x - b * dot w s x := by
  unfold dot
  rw [← sm_mul, ← sm_mul, ← sm_mul, ← sm_sub]
  refine sm_congr fun i _ => ?_
  rw [← Int.mul_assoc, h i, Int.sub_mul, Int.mul_assoc, Int.mul_assoc]
theorem LH.fwd (h : LH row head new p) (h1 : dot w head x = 0) (h2 : dot w row x = 0) : dot w new x = 0 := by
  obtain ⟨a, b, s, _, hs, e⟩ := h.eq
  have q := dot_comb (w := w) (x := x) e
  rw [h1, h2, Int.mul_zero, Int.mul_zero] at q
  rcases Int.mul_eq_zero.mp (q.trans (by decide)) with z | z
  · omega
  · exact z
theorem LH.bwd (h : LH row head new p) (h1 : dot w head x = 0) (h2 : dot w new x = 0) : dot w row x = 0 := by
  obtain ⟨a, b, s, ha, hs, e⟩ := h.eq
  have q := dot_comb (w := w) (x := x) e
  rw [h1, h2, Int.mul_zero, Int.mul_zero] at q
  rcases Int.mul_eq_zero.mp (show a * dot w row x = 0 by omega) with z | z
  · exact absurd z ha
  · exact z
theorem LH.at0 (h : LH row head new p) {k : Nat} (h1 : g head k = 0) (h2 : g row k = 0) : g new k = 0 := by
  obtain ⟨a, b, s, _, hs, e⟩ := h.eq
  have q := e k
  rw [h1, h2, Int.mul_zero, Int.mul_zero] at q
  rcases Int.mul_eq_zero.mp (q.trans (by decide)) with z | z
  · omega
  · exact z
theorem LH.ne0 (h : LH row head new p) {k : Nat} (h1 : g head k = 0) (h2 : g row k ≠ 0) : g new k ≠ 0 := by
  obtain ⟨a, b, s, ha, hs, e⟩ := h.eq
  intro z
  have q := e k
  rw [h1, z, Int.mul_zero, Int.mul_zero] at q
  rcases Int.mul_eq_zero.mp (show a * g row k = 0 by omega) with y | y
  · exact ha y
  · exact h2 y
end
end K63

/-! ## K63B -/
set_option maxHeartbeats 400000
set_option linter.all false
namespace K63
/-! ### the echelon -/
/-- the first number other than 0 -/
def firstOf (xs : List Int) : Int := (xs.find? fun x => x != 0).getD 0
def prim (xs : List Int) : List Int :=
  if shared xs = 0 then xs
  else xs.map fun n => Int.fdiv n (if firstOf xs > 0 then shared xs else -shared xs)
/-- the places of the rows that have no 0 at a place -/
def heads (left : List (List Int)) (p : Nat) : List Nat := (List.range left.length).filter fun i => g (left.getD i []) p != 0
def step (st : List (List Int) × List (List Int)) (p : Nat) : List (List Int) × List (List Int) :=
  match heads st.1 p with
  | [] => st
  | h :: _ => ((st.1.eraseIdx h).map fun r => lessHead r (st.1.getD h []) p, (st.2.map fun r => lessHead r (st.1.getD h []) p) ++ [st.1.getD h []])
def run (rows : List (List Int)) (n : Nat) : List (List Int) × List (List Int) := (List.range n).foldl step (rows, [])
def ech (rows : List (List Int)) (w : Nat) : List (List Int) := (run rows w).2.map prim

/-- the first place other than 0 -/
def leadOf (r : List Int) : Nat := ((List.range r.length).filter fun i => g r i != 0).headD 0

theorem firstOf_at : ∀ {xs : List Int} {k : Nat}, g xs k ≠ 0 → (∀ i, i < k → g xs i = 0) → firstOf xs = g xs k
  | [], k, h, _ => absurd (g_nil k) h
  | x :: xs, 0, h, _ => by
    have e : (x != 0) = true := bne_iff_ne.mpr h
    unfold firstOf
    rw [List.find?_cons, e]
    rfl
  | x :: xs, k + 1, h, z => by
    have e : (x != 0) = false := by
      have q := z 0 (Nat.succ_pos k)
      rw [g_cons_zero] at q
      rw [q]
      rfl
    have ih := firstOf_at (xs := xs) (k := k) h fun i hi => z (i + 1) (Nat.succ_lt_succ hi)
    unfold firstOf at ih ⊢
    rw [List.find?_cons, e]
    exact ih
/-- what primitive_of does to a row with a lead -/
structure PR (row new : List Int) : Prop where
  len : new.length = row.length
  eq : ∃ c : Int, c ≠ 0 ∧ ∀ i, c * g new i = g row i
  unit : ∀ d : Int, (∀ i, d ∣ g new i) → d ∣ 1
  sign : ∀ k, g row k ≠ 0 → (∀ i, i < k → g row i = 0) → 0 < g new k
theorem pos_of_mul {a b : Int} (ha : 0 < a) (h : 0 < a * b) : 0 < b := by
  rcases Int.lt_trichotomy b 0 with z | z | z
  · have q := Int.mul_lt_mul_of_pos_left z ha
    rw [Int.mul_zero] at q
    omega
  · rw [z, Int.mul_zero] at h
    omega
  · exact z
theorem fdiv_of_mul {c q : Int} (hc : c ≠ 0) : Int.fdiv (c * q) c = q := by
  rw [Int.fdiv_eq_ediv_of_dvd (Int.dvd_mul_right c q)]
  exact Int.mul_ediv_cancel_left q hc
theorem pr {row : List Int} {k : Nat} (hk : g row k ≠ 0) : PR row (prim row) := by
  have hn : shared row ≠ 0 := fun e => by
    have d := shared_dvd_g row k
    rw [e] at d
    exact hk (Int.zero_dvd.mp d)
  have hs0 := shared_nonneg row
  unfold prim
  rw [if_neg hn]
  have hc : (if firstOf row > 0 then shared row else -shared row) ≠ 0 := by split <;> omega
  have hd : ∀ i, (if firstOf row > 0 then shared row else -shared row) ∣ g row i := fun i => by
    split
    · exact shared_dvd_g row i
    · exact Int.neg_dvd.mpr (shared_dvd_g row i)
  have key : ∀ i, (if firstOf row > 0 then shared row else -shared row) * g (row.map fun n => Int.fdiv n (if firstOf row > 0 then shared row else -shared row)) i = g row i := fun i => by
    rw [g_map0 (f := fun n => Int.fdiv n (if firstOf row > 0 then shared row else -shared row)) (Int.zero_fdiv _)]
    obtain ⟨q, hq⟩ := hd i
    rw [hq]
    show _ * Int.fdiv (_ * q) _ = _
    rw [fdiv_of_mul hc]
  refine ⟨by rw [List.length_map], ⟨_, hc, key⟩, fun d h => ?_, fun k h z => ?_⟩
  · have h1 : (if firstOf row > 0 then shared row else -shared row) * d ∣ shared row := dvd_shared fun x hx => by
      obtain ⟨i, hi, e⟩ := List.getElem_of_mem hx
      have e2 : g row i = x := g_get (by rw [List.getElem?_eq_getElem hi, e])
      rw [← e2, ← key i]
      exact Int.mul_dvd_mul_left _ (h i)
    have h2 : shared row * d ∣ shared row * 1 := by
      rw [Int.mul_one]
      split at h1
      · exact h1
      · rw [Int.neg_mul] at h1
        exact Int.neg_dvd.mp h1
    exact Int.dvd_of_mul_dvd_mul_left hn h2
  · have e := firstOf_at h z
    have q := key k
    by_cases h0 : g row k > 0
    · rw [e, if_pos h0] at q
      rw [e, if_pos h0]
      refine pos_of_mul (show 0 < shared row by omega) ?_
      rw [q]
      exact h0
    · rw [e, if_neg h0] at q
      rw [e, if_neg h0]
      have q2 : shared row * g (row.map fun n => Int.fdiv n (-shared row)) k = - g row k := by
        rw [← q, Int.neg_mul, Int.neg_neg]
      refine pos_of_mul (show 0 < shared row by omega) ?_
      rw [q2]
      omega
theorem PR.size {row new : List Int} (h : PR row new) (i : Nat) : (g new i).natAbs ≤ (g row i).natAbs := by
  obtain ⟨c, hc, e⟩ := h.eq
  rw [← e i, Int.natAbs_mul]
  exact Nat.le_mul_of_pos_left _ (by omega)
theorem PR.dot {row new : List Int} (h : PR row new) {w : Nat} {x : Nat → Int} : dot w new x = 0 ↔ dot w row x = 0 := by
  obtain ⟨c, hc, e⟩ := h.eq
  have q : c * K63.dot w new x = K63.dot w row x := by
    unfold K63.dot
    rw [← sm_mul]
    exact sm_congr fun i _ => by rw [← Int.mul_assoc, e i]
  rw [← q]
  constructor
  · intro z
    rw [z, Int.mul_zero]
  · intro z
    rcases Int.mul_eq_zero.mp z with y | y
    · exact absurd y hc
    · exact y
theorem PR.zero {row new : List Int} (h : PR row new) {i : Nat} : g new i = 0 ↔ g row i = 0 := by
  obtain ⟨c, hc, e⟩ := h.eq
  rw [← e i]
  constructor
  · intro z
    rw [z, Int.mul_zero]
  · intro z
    rcases Int.mul_eq_zero.mp z with y | y
    · exact absurd y hc
    · exact y

/-! ### what holds behind each place -/
structure Inv (rows : List (List Int)) (w p : Nat) (left : List (List Int)) (fl : List (List Int × Nat)) : Prop where
  lenL : ∀ r ∈ left, r.length = w
  lenF : ∀ q ∈ fl, q.1.length = w
  zeroL : ∀ r ∈ left, ∀ k, k < p → g r k = 0
  lt : ∀ q ∈ fl, q.2 < p
  lead : ∀ q ∈ fl, g q.1 q.2 ≠ 0 ∧ ∀ k, k < q.2 → g q.1 k = 0
  pw : fl.Pairwise fun a b => a.2 < b.2 ∧ g a.1 b.2 = 0 ∧ g b.1 a.2 = 0
  fwd : ∀ x : Nat → Int, (∀ r ∈ rows, dot w r x = 0) → (∀ r ∈ left, dot w r x = 0) ∧ ∀ q ∈ fl, dot w q.1 x = 0
  bwd : ∀ x : Nat → Int, (∀ r ∈ left, dot w r x = 0) → (∀ q ∈ fl, dot w q.1 x = 0) → ∀ r ∈ rows, dot w r x = 0
  count : left.length + fl.length = rows.length
  size : ∀ c : Nat, (∀ r ∈ rows, ∀ i, 2 * (g r i).natAbs ≤ 2 ^ c) → (∀ r ∈ left, ∀ i, 2 * (g r i).natAbs ≤ 2 ^ (c * 2 ^ fl.length)) ∧ ∀ q ∈ fl, ∀ i, 2 * (g q.1 i).natAbs ≤ 2 ^ (c * 2 ^ fl.length)
theorem heads_cons {left : List (List Int)} {p h : Nat} {t : List Nat} (e : heads left p = h :: t) : h < left.length ∧ g (left.getD h []) p ≠ 0 := by
  have hm : h ∈ heads left p := by rw [e]; exact List.mem_cons_self
  obtain ⟨h1, h2⟩ := List.mem_filter.mp hm
  exact ⟨List.mem_range.mp h1, bne_iff_ne.mp h2⟩
theorem heads_nil {left : List (List Int)} {p : Nat} (e : heads left p = []) : ∀ r ∈ left, g r p = 0 := by
  intro r hr
  obtain ⟨i, hi, er⟩ := List.getElem_of_mem hr
  have h := (List.filter_eq_nil_iff.mp e) i (List.mem_range.mpr hi)
  have e2 : left.getD i [] = r := by
    rw [List.getD_eq_getElem?_getD, List.getElem?_eq_getElem hi, er]
    rfl
  rw [e2] at h
  by_cases z : g r p = 0
  · exact z
  · exact absurd (bne_iff_ne.mpr z) h
theorem getD_mem {left : List (List Int)} {h : Nat} (hl : h < left.length) : left.getD h [] ∈ left := by
  rw [List.getD_eq_getElem?_getD, List.getElem?_eq_getElem hl]
  exact List.getElem_mem hl
theorem mem_erase_or {left : List (List Int)} {h : Nat} (hl : h < left.length) {r : List Int} (hr : r ∈ left) : r = left.getD h [] ∨ r ∈ left.eraseIdx h := by
  obtain ⟨i, hi, e⟩ := List.getElem_of_mem hr
  by_cases q : i = h
  · left
    subst q
    rw [List.getD_eq_getElem?_getD, List.getElem?_eq_getElem hi, e]
    rfl
  · right
    rw [← e]
    by_cases lt : i < h
    · have e2 : (left.eraseIdx h)[i]? = some left[i] := by
        rw [List.getElem?_eraseIdx, if_pos lt, List.getElem?_eq_getElem hi]
      exact List.mem_of_getElem? e2
    · have e2 : (left.eraseIdx h)[i - 1]? = some left[i] := by
        rw [List.getElem?_eraseIdx, if_neg (by omega), show i - 1 + 1 = i by omega, List.getElem?_eq_getElem hi]
      exact List.mem_of_getElem? e2
theorem pow_step (c j : Nat) : (2 : Nat) ^ (c * 2 ^ (j + 1)) = 2 ^ (c * 2 ^ j) * 2 ^ (c * 2 ^ j) := by
  rw [← Nat.pow_add, Nat.pow_succ, ← Nat.mul_assoc, Nat.mul_two]
theorem size_step {T M : Nat} (hM : 2 * M ≤ T) : 2 * (2 * (M * M)) ≤ T * T := by
  have h := Nat.mul_le_mul hM hM
  have e : 2 * M * (2 * M) = 2 * (2 * (M * M)) := by
    rw [Nat.mul_assoc, Nat.mul_left_comm M 2 M]
  omega
theorem inv_step {rows left : List (List Int)} {w p : Nat} {fl : List (List Int × Nat)} (hp : p < w) (I : Inv rows w p left fl) :
    ∃ fl', (step (left, fl.map (·.1)) p).2 = fl'.map (·.1) ∧ Inv rows w (p + 1) (step (left, fl.map (·.1)) p).1 fl' := by
  unfold step
  cases e : heads left p with
  | nil =>
    refine ⟨fl, by simp only [e], ?_⟩
    simp only [e]
    refine { I with zeroL := fun r hr k hk => ?_, lt := fun q hq => Nat.lt_succ_of_lt (I.lt q hq) }
    by_cases z : k = p
    · rw [z]
      exact heads_nil e r hr
    · exact I.zeroL r hr k (by omega)
  | cons h t =>
    obtain ⟨hl, hne⟩ := heads_cons e
    have hm := getD_mem hl
    have hor := fun {r : List Int} (hr : r ∈ left) => mem_erase_or hl hr
    simp only [e]
    generalize left.getD h [] = head at *
    have er : ∀ r ∈ left.eraseIdx h, r ∈ left := fun r hr => List.mem_of_mem_eraseIdx hr
    have lenH := I.lenL head hm
    have zH := I.zeroL head hm
    have L1 : ∀ r ∈ left.eraseIdx h, LH r head (lessHead r head p) p := fun r hr => lh (by rw [I.lenL r (er r hr), lenH]) hne
    have L2 : ∀ q ∈ fl, LH q.1 head (lessHead q.1 head p) p := fun q hq => lh (by rw [I.lenF q hq, lenH]) hne
    have memL : ∀ r, r ∈ (left.eraseIdx h).map (fun r => lessHead r head p) → ∃ r0, r0 ∈ left.eraseIdx h ∧ lessHead r0 head p = r := fun r hr => List.mem_map.mp hr
    have memF : ∀ q, q ∈ (fl.map fun q => (lessHead q.1 head p, q.2)) ++ [(head, p)] → (∃ q0, q0 ∈ fl ∧ q = (lessHead q0.1 head p, q0.2)) ∨ q = (head, p) := fun q hq => by
      rcases List.mem_append.mp hq with z | z
      · obtain ⟨q0, h1, h2⟩ := List.mem_map.mp z
        exact .inl ⟨q0, h1, h2.symm⟩
      · exact .inr (List.mem_singleton.mp z)
    refine ⟨(fl.map fun q => (lessHead q.1 head p, q.2)) ++ [(head, p)], ?_, ?_⟩
    · rw [List.map_append, List.map_map, List.map_map]
      rfl
    · refine ⟨fun r hr => ?_, fun q hq => ?_, fun r hr k hk => ?_, fun q hq => ?_, fun q hq => ?_, ?_, fun x hx => ?_, fun x h1 h2 => ?_, ?_, fun c hc => ?_⟩
      · obtain ⟨r0, h1, rfl⟩ := memL r hr
        rw [(L1 r0 h1).len]
        exact I.lenL r0 (er r0 h1)
      · rcases memF q hq with ⟨q0, h1, rfl⟩ | rfl
        · show (lessHead q0.1 head p).length = w
          rw [(L2 q0 h1).len]
          exact I.lenF q0 h1
        · exact lenH
      · obtain ⟨r0, h1, rfl⟩ := memL r hr
        by_cases z : k = p
        · rw [z]
          exact (L1 r0 h1).zero
        · exact (L1 r0 h1).at0 (zH k (by omega)) (I.zeroL r0 (er r0 h1) k (by omega))
      · rcases memF q hq with ⟨q0, h1, rfl⟩ | rfl
        · exact Nat.lt_succ_of_lt (I.lt q0 h1)
        · exact Nat.lt_succ_self p
      · rcases memF q hq with ⟨q0, h1, rfl⟩ | rfl
        · obtain ⟨z1, z2⟩ := I.lead q0 h1
          have z3 := I.lt q0 h1
          exact ⟨(L2 q0 h1).ne0 (zH _ z3) z1, fun k hk => (L2 q0 h1).at0 (zH k (Nat.lt_trans hk z3)) (z2 k hk)⟩
        · exact ⟨hne, zH⟩
      · rw [List.pairwise_append]
        refine ⟨?_, List.pairwise_singleton _ _, fun a ha b hb => ?_⟩
        · rw [List.pairwise_map]
          refine I.pw.imp_of_mem fun {a b} ha hb z => ⟨z.1, ?_, ?_⟩
          · exact (L2 a ha).at0 (zH _ (I.lt b hb)) z.2.1
          · exact (L2 b hb).at0 (zH _ (I.lt a ha)) z.2.2
        · obtain ⟨a0, h1, rfl⟩ := List.mem_map.mp ha
          rw [List.mem_singleton.mp hb]
          exact ⟨I.lt a0 h1, (L2 a0 h1).zero, zH _ (I.lt a0 h1)⟩
      · obtain ⟨h1, h2⟩ := I.fwd x hx
        have hh := h1 head hm
        refine ⟨fun r hr => ?_, fun q hq => ?_⟩
        · obtain ⟨r0, h3, rfl⟩ := memL r hr
          exact (L1 r0 h3).fwd hh (h1 r0 (er r0 h3))
        · rcases memF q hq with ⟨q0, h3, rfl⟩ | rfl
          · exact (L2 q0 h3).fwd hh (h2 q0 h3)
          · exact hh
      · have hh : dot w head x = 0 := h2 (head, p) (List.mem_append.mpr (.inr (List.mem_singleton.mpr rfl)))
        refine I.bwd x (fun r hr => ?_) fun q hq => ?_
        · rcases hor hr with z | z
          · rw [z]
            exact hh
          · exact (L1 r z).bwd hh (h1 _ (List.mem_map.mpr ⟨r, z, rfl⟩))
        · exact (L2 q hq).bwd hh (h2 (lessHead q.1 head p, q.2) (List.mem_append.mpr (.inl (List.mem_map.mpr ⟨q, hq, rfl⟩))))
      · have := I.count
        rw [List.length_map, List.length_append, List.length_map, List.length_eraseIdx_of_lt hl]
        show left.length - 1 + (fl.length + 1) = rows.length
        omega
      · obtain ⟨h1, h2⟩ := I.size c hc
        have hh := h1 head hm
        have el : ((fl.map fun q => (lessHead q.1 head p, q.2)) ++ [(head, p)]).length = fl.length + 1 := by
          rw [List.length_append, List.length_map]
          rfl
        rw [el, pow_step]
        have pos : 0 < (2 : Nat) ^ (c * 2 ^ fl.length) := Nat.pow_pos (by decide)
        -- a common bound of a row and the head
        have two : ∀ r : List Int, (∀ i, 2 * (g r i).natAbs ≤ 2 ^ (c * 2 ^ fl.length)) → LH r head (lessHead r head p) p → ∀ i, 2 * (g (lessHead r head p) i).natAbs ≤ 2 ^ (c * 2 ^ fl.length) * 2 ^ (c * 2 ^ fl.length) := fun r hr L i => by
          have hM : 1 ≤ 2 ^ (c * 2 ^ fl.length) / 2 := by
            have q1 := hh p
            have q2 : 1 ≤ (g head p).natAbs := by omega
            omega
          have q := L.size (2 ^ (c * 2 ^ fl.length) / 2) hM (fun i => by have := hr i; omega) (fun i => by have := hh i; omega) i
          have q2 := size_step (T := 2 ^ (c * 2 ^ fl.length)) (M := 2 ^ (c * 2 ^ fl.length) / 2) (by omega)
          omega
        refine ⟨fun r hr i => ?_, fun q hq i => ?_⟩
        · obtain ⟨r0, h3, rfl⟩ := memL r hr
          exact two r0 (h1 r0 (er r0 h3)) (L1 r0 h3) i
        · rcases memF q hq with ⟨q0, h3, rfl⟩ | rfl
          · exact two q0.1 (h2 q0 h3) (L2 q0 h3) i
          · exact Nat.le_trans (hh i) (Nat.le_mul_of_pos_left _ pos)
theorem run_succ (rows : List (List Int)) (n : Nat) : run rows (n + 1) = step (run rows n) n := by
  unfold run
  rw [List.range_succ, List.foldl_append]
  rfl
theorem inv_run {rows : List (List Int)} {w : Nat} (hw : ∀ r ∈ rows, r.length = w) : ∀ n, n ≤ w → ∃ fl, (run rows n).2 = fl.map (·.1) ∧ Inv rows w n (run rows n).1 fl
  | 0, _ => ⟨[], rfl, by
      refine ⟨hw, (fun _ h => by cases h), fun _ _ _ h => absurd h (Nat.not_lt_zero _), (fun _ h => by cases h), (fun _ h => by cases h), List.Pairwise.nil, fun x h => ⟨h, (fun _ h => by cases h)⟩, fun x h _ => h, rfl, fun c hc => ⟨fun r hr i => ?_, (fun _ h => by cases h)⟩⟩
      show 2 * (g r i).natAbs ≤ 2 ^ (c * 2 ^ 0)
      rw [Nat.pow_zero, Nat.mul_one]
      exact hc r hr i⟩
  | n + 1, h => by
    obtain ⟨fl, e, I⟩ := inv_run hw n (by omega)
    obtain ⟨fl', e2, I2⟩ := inv_step (by omega) I
    rw [run_succ]
    have er : run rows n = ((run rows n).1, fl.map (·.1)) := by rw [← e]
    rw [er]
    exact ⟨fl', e2, I2⟩
end K63

/-! ## K63C -/
set_option maxHeartbeats 400000
set_option linter.all false
namespace K63
/-! ### what the echelon is -/
structure Ech (rows : List (List Int)) (w : Nat) (res : List (List Int)) (ls : List Nat) : Prop where
  lenLs : ls.length = res.length
  len : ∀ r ∈ res, r.length = w
  lt : ∀ l ∈ ls, l < w
  asc : ls.Pairwise fun a b => a < b
  lead : ∀ i, i < res.length → 0 < g (res.getD i []) (ls.getD i 0) ∧ ∀ k, k < ls.getD i 0 → g (res.getD i []) k = 0
  other : ∀ i j, i < res.length → j < res.length → i ≠ j → g (res.getD i []) (ls.getD j 0) = 0
  unit : ∀ r ∈ res, ∀ d : Int, (∀ i, d ∣ g r i) → d ∣ 1
  fwd : ∀ x : Nat → Int, (∀ r ∈ rows, dot w r x = 0) → ∀ r ∈ res, dot w r x = 0
  bwd : ∀ x : Nat → Int, (∀ r ∈ res, dot w r x = 0) → ∀ r ∈ rows, dot w r x = 0
  count : res.length ≤ rows.length
  size : ∀ c : Nat, (∀ r ∈ rows, ∀ i, 2 * (g r i).natAbs ≤ 2 ^ c) → ∀ r ∈ res, ∀ i, 2 * (g r i).natAbs ≤ 2 ^ (c * 2 ^ res.length)
theorem getD_map {α β : Type} (f : α → β) {l : List α} {i : Nat} {a : α} {b : β} (h : i < l.length) : (l.map f).getD i b = f (l.getD i a) := by
  rw [List.getD_eq_getElem?_getD, List.getD_eq_getElem?_getD, List.getElem?_map, List.getElem?_eq_getElem h]
  rfl
theorem getD_lt {α : Type} {l : List α} {i : Nat} {b : α} (h : i < l.length) : l.getD i b = l[i] := by
  rw [List.getD_eq_getElem?_getD, List.getElem?_eq_getElem h]
  rfl
theorem ech_is {rows : List (List Int)} {w : Nat} (hw : ∀ r ∈ rows, r.length = w) : ∃ ls, Ech rows w (ech rows w) ls := by
  obtain ⟨fl, e, I⟩ := inv_run hw w (Nat.le_refl w)
  have P : ∀ q ∈ fl, PR q.1 (prim q.1) := fun q hq => pr (I.lead q hq).1
  have er : ech rows w = fl.map fun q => prim q.1 := by
    unfold ech
    rw [e, List.map_map]
    rfl
  have zl : ∀ r ∈ (run rows w).1, ∀ x : Nat → Int, dot w r x = 0 := fun r hr x => sm_zero fun i hi => by
    rw [I.zeroL r hr i hi, Int.zero_mul]
  have mem : ∀ r ∈ ech rows w, ∃ q ∈ fl, prim q.1 = r := fun r hr => by
    rw [er] at hr
    exact List.mem_map.mp hr
  have len : (ech rows w).length = fl.length := by rw [er, List.length_map]
  have at1 : ∀ i (hi : i < fl.length), (ech rows w).getD i [] = prim fl[i].1 := fun i hi => by
    rw [er, getD_lt (by rw [List.length_map]; exact hi), List.getElem_map]
  have at2 : ∀ i (hi : i < fl.length), (fl.map (·.2)).getD i 0 = fl[i].2 := fun i hi => by
    rw [getD_lt (by rw [List.length_map]; exact hi), List.getElem_map]
  have two : ∀ i j (hi : i < fl.length) (hj : j < fl.length), i < j → fl[i].2 < fl[j].2 ∧ g fl[i].1 fl[j].2 = 0 ∧ g fl[j].1 fl[i].2 = 0 := fun i j hi hj hij =>
    (List.pairwise_iff_getElem.mp I.pw) i j hi hj hij
  refine ⟨fl.map (·.2), ⟨by rw [List.length_map, len], fun r hr => ?_, fun l hl => ?_, ?_, fun i hi => ?_, fun i j hi hj hij => ?_, fun r hr => ?_, fun x hx r hr => ?_, fun x hx => ?_, ?_, fun c hc r hr i => ?_⟩⟩
  · obtain ⟨q, hq, rfl⟩ := mem r hr
    rw [(P q hq).len]
    exact I.lenF q hq
  · obtain ⟨q, hq, rfl⟩ := List.mem_map.mp hl
    exact I.lt q hq
  · rw [List.pairwise_map]
    exact I.pw.imp fun z => z.1
  · rw [len] at hi
    rw [at1 i hi, at2 i hi]
    have hm := List.getElem_mem hi
    obtain ⟨h1, h2⟩ := I.lead _ hm
    exact ⟨(P _ hm).sign _ h1 h2, fun k hk => (P _ hm).zero.mpr (h2 k hk)⟩
  · rw [len] at hi hj
    rw [at1 i hi, at2 j hj]
    refine (P _ (List.getElem_mem hi)).zero.mpr ?_
    rcases Nat.lt_or_ge i j with z | z
    · exact (two i j hi hj z).2.1
    · exact (two j i hj hi (by omega)).2.2
  · obtain ⟨q, hq, rfl⟩ := mem r hr
    exact (P q hq).unit
  · obtain ⟨q, hq, rfl⟩ := mem r hr
    exact (P q hq).dot.mpr ((I.fwd x hx).2 q hq)
  · refine I.bwd x (fun r hr => zl r hr x) fun q hq => (P q hq).dot.mp (hx _ ?_)
    rw [er]
    exact List.mem_map.mpr ⟨q, hq, rfl⟩
  · have := I.count
    rw [len]
    omega
  · obtain ⟨q, hq, rfl⟩ := mem r hr
    rw [len]
    have h1 := (I.size c hc).2 q hq i
    have h2 := (P q hq).size i
    omega

/-! ### the kernel -/
/-- a multiple of all leads' entries -/
def wholeOf (prs : List (List Int × Nat)) : Int := prs.foldl (fun a q => a * (g q.1 q.2 / gcd2 a (g q.1 q.2))) 1
/-- the row of a free place -/
def oneOf (prs : List (List Int × Nat)) (w : Nat) (whole : Int) (free : Nat) : List Int :=
  prs.foldl (fun one q => one.set q.2 (-(whole / g q.1 q.2) * g q.1 free)) ((List.replicate w 0).set free whole)
def freesOf (leads : List Nat) (w : Nat) : List Nat := (List.range w).filter fun p => !leads.contains p
def onesOf (told : List (List Int)) (w : Nat) : List (List Int) :=
  (freesOf (told.map leadOf) w).map fun f => oneOf (told.zip (told.map leadOf)) w (wholeOf (told.zip (told.map leadOf))) f
def kernel (rows : List (List Int)) (w : Nat) : List (List Int) := ech (onesOf (ech rows w) w) w

theorem filter_range_head {p : Nat → Bool} {l : Nat} (h : p l = true) (z : ∀ k, k < l → p k = false) : ∀ n, l < n → ∃ t, (List.range n).filter p = l :: t
  | 0, h => absurd h (Nat.not_lt_zero _)
  | n + 1, hl => by
    rw [List.range_succ, List.filter_append]
    by_cases e : l = n
    · subst e
      have e0 : (List.range l).filter p = [] := List.filter_eq_nil_iff.mpr fun k hk => by
        rw [z k (List.mem_range.mp hk)]
        exact Bool.false_ne_true
      rw [e0, List.filter_cons, if_pos h]
      exact ⟨_, rfl⟩
    · obtain ⟨t, et⟩ := filter_range_head h z n (by omega)
      rw [et]
      exact ⟨_, rfl⟩
theorem leadOf_at {r : List Int} {l : Nat} (h : g r l ≠ 0) (z : ∀ k, k < l → g r k = 0) : leadOf r = l := by
  have hl : l < r.length := by
    rcases Nat.lt_or_ge l r.length with q | q
    · exact q
    · exact absurd (g_ge q) h
  unfold leadOf
  obtain ⟨t, e⟩ := filter_range_head (p := fun i => g r i != 0) (bne_iff_ne.mpr h) (fun k hk => by
    show (g r k != 0) = false
    rw [z k hk]
    rfl) r.length hl
  rw [e]
  rfl
theorem Ech.leads {rows res : List (List Int)} {w : Nat} {ls : List Nat} (E : Ech rows w res ls) : res.map leadOf = ls := by
  refine List.ext_getElem? fun i => ?_
  by_cases hi : i < res.length
  · have h := E.lead i hi
    have e1 : res.getD i [] = res[i] := getD_lt hi
    have e2 : ls.getD i 0 = ls[i]'(by rw [E.lenLs]; exact hi) := getD_lt _
    rw [List.getElem?_map, List.getElem?_eq_getElem hi, List.getElem?_eq_getElem (by rw [E.lenLs]; exact hi)]
    show some (leadOf res[i]) = some _
    rw [e1, e2] at h
    rw [leadOf_at (l := ls[i]'(by rw [E.lenLs]; exact hi)) (by omega) h.2]
  · rw [List.getElem?_eq_none_iff.mpr (by rw [List.length_map]; omega), List.getElem?_eq_none_iff.mpr (by rw [E.lenLs]; omega)]
/-- the rows and their leads -/
theorem zip_getD {res : List (List Int)} {ls : List Nat} (h : ls.length = res.length) {i : Nat} (hi : i < res.length) : (res.zip ls).getD i ([], 0) = (res.getD i [], ls.getD i 0) := by
  rw [getD_lt (by rw [List.length_zip]; omega), List.getElem_zip, getD_lt hi, getD_lt (by omega)]

/-! ### a multiple of the leads' entries -/
theorem take_succ_getD {α : Type} {l : List α} {n : Nat} (d : α) (h : n < l.length) : l.take (n + 1) = l.take n ++ [l.getD n d] := by
  rw [List.take_add_one, List.getElem?_eq_getElem h, getD_lt h]
  rfl
theorem whole_step {a e : Int} (ha : 0 < a) (he : 0 < e) : 0 < a * (e / gcd2 a e) ∧ a ∣ a * (e / gcd2 a e) ∧ e ∣ a * (e / gcd2 a e) ∧ (a * (e / gcd2 a e)).natAbs ≤ a.natAbs * e.natAbs := by
  have hg : 0 < gcd2 a e := gcd2_pos (by omega)
  have e1 := Int.mul_ediv_cancel' (gcd2_right a e)
  obtain ⟨b, eb⟩ := gcd2_left a e
  have n1 := ediv_natAbs_le (gcd2_right a e) hg
  have hq : 0 < e / gcd2 a e := pos_of_mul hg (by rw [e1]; exact he)
  refine ⟨Int.mul_pos ha hq, Int.dvd_mul_right _ _, ?_, ?_⟩
  · refine ⟨b, ?_⟩
    generalize e / gcd2 a e = q at *
    calc a * q = gcd2 a e * b * q := by rw [← eb]
      _ = gcd2 a e * q * b := by rw [Int.mul_assoc, Int.mul_comm b q, Int.mul_assoc]
      _ = e * b := by rw [e1]
  · rw [Int.natAbs_mul]
    exact Nat.mul_le_mul_left _ n1
theorem whole_take {prs : List (List Int × Nat)} {c : Nat} (hp : ∀ q ∈ prs, 0 < g q.1 q.2) (hc : ∀ q ∈ prs, (g q.1 q.2).natAbs ≤ 2 ^ c) :
    ∀ n, n ≤ prs.length → 0 < wholeOf (prs.take n) ∧ (∀ i, i < n → g (prs.getD i ([], 0)).1 (prs.getD i ([], 0)).2 ∣ wholeOf (prs.take n)) ∧ (wholeOf (prs.take n)).natAbs ≤ 2 ^ (c * n)
  | 0, _ => ⟨(show (0 : Int) < 1 by decide), fun i h => absurd h (Nat.not_lt_zero _), by
      show (1 : Int).natAbs ≤ 2 ^ (c * 0)
      rw [Nat.mul_zero]
      decide⟩
  | n + 1, h => by
    obtain ⟨h1, h2, h3⟩ := whole_take hp hc n (by omega)
    have hm : prs.getD n ([], 0) ∈ prs := by
      rw [getD_lt (by omega)]
      exact List.getElem_mem _
    have e : wholeOf (prs.take (n + 1)) = wholeOf (prs.take n) * (g (prs.getD n ([], 0)).1 (prs.getD n ([], 0)).2 / gcd2 (wholeOf (prs.take n)) (g (prs.getD n ([], 0)).1 (prs.getD n ([], 0)).2)) := by
      rw [take_succ_getD ([], 0) (by omega)]
      unfold wholeOf
      rw [List.foldl_append]
      rfl
    obtain ⟨k1, k2, k3, k4⟩ := whole_step h1 (hp _ hm)
    rw [e]
    refine ⟨k1, fun i hi => ?_, Nat.le_trans k4 ?_⟩
    · by_cases q : i = n
      · rw [q]
        exact k3
      · exact Int.dvd_trans (h2 i (by omega)) k2
    · rw [Nat.mul_succ, Nat.pow_add]
      exact Nat.mul_le_mul h3 (hc _ hm)
theorem whole_all {prs : List (List Int × Nat)} {c : Nat} (hp : ∀ q ∈ prs, 0 < g q.1 q.2) (hc : ∀ q ∈ prs, (g q.1 q.2).natAbs ≤ 2 ^ c) :
    0 < wholeOf prs ∧ (∀ i, i < prs.length → g (prs.getD i ([], 0)).1 (prs.getD i ([], 0)).2 ∣ wholeOf prs) ∧ (wholeOf prs).natAbs ≤ 2 ^ (c * prs.length) := by
  have h := whole_take hp hc prs.length (Nat.le_refl _)
  rw [List.take_length] at h
  exact h

/-! ### the rows of the free places -/
theorem dot_set {w k : Nat} {r : List Int} {x : Int} {t : Nat → Int} (hr : r.length = w) (hk : k < w) (z : g r k = 0) : dot w (r.set k x) t = dot w r t + x * t k := by
  have e : dot w (r.set k x) t - dot w r t = x * t k := by
    unfold dot
    rw [← sm_sub]
    rw [sm_single (k := k) hk fun i hi ne => ?_]
    · rw [g_set (by omega), if_pos rfl, z]
      omega
    · rw [g_set (by omega), if_neg ne]
      omega
  omega
section
variable {prs : List (List Int × Nat)} {w free : Nat} {whole : Int}
def val (prs : List (List Int × Nat)) (whole : Int) (free i : Nat) : Int := -(whole / g (prs.getD i ([], 0)).1 (prs.getD i ([], 0)).2) * g (prs.getD i ([], 0)).1 free
theorem one_take (t : Nat → Int) (hf : free < w) (hl : ∀ i, i < prs.length → (prs.getD i ([], 0)).2 < w ∧ (prs.getD i ([], 0)).2 ≠ free)
    (hd : ∀ i j, i < prs.length → j < prs.length → i ≠ j → (prs.getD i ([], 0)).2 ≠ (prs.getD j ([], 0)).2) (D : Nat) (hD : whole.natAbs ≤ D) (hv : ∀ i, i < prs.length → (val prs whole free i).natAbs ≤ D) :
    ∀ n, n ≤ prs.length → (oneOf (prs.take n) w whole free).length = w ∧ (∀ i, n ≤ i → i < prs.length → g (oneOf (prs.take n) w whole free) (prs.getD i ([], 0)).2 = 0) ∧
      dot w (oneOf (prs.take n) w whole free) t = whole * t free + sm n (fun i => val prs whole free i * t (prs.getD i ([], 0)).2) ∧
      (∀ k, (∀ i, i < prs.length → (prs.getD i ([], 0)).2 ≠ k) → g (oneOf (prs.take n) w whole free) k = if k = free then whole else 0) ∧ ∀ k, (g (oneOf (prs.take n) w whole free) k).natAbs ≤ D
  | 0, _ => by
    have e : oneOf (prs.take 0) w whole free = (List.replicate w 0).set free whole := rfl
    have ge : ∀ k, g (oneOf (prs.take 0) w whole free) k = if k = free then whole else 0 := fun k => by
      rw [e, g_set (by rw [List.length_replicate]; exact hf), g_rep]
    refine ⟨by rw [e, List.length_set, List.length_replicate], fun i _ hi => ?_, ?_, fun k _ => ge k, fun k => ?_⟩
    · rw [ge, if_neg (hl i hi).2]
    · rw [e, dot_set (by rw [List.length_replicate]) hf (g_rep _ _)]
      have z : dot w (List.replicate w 0) t = 0 := sm_zero fun i _ => by rw [g_rep, Int.zero_mul]
      rw [z]
      show 0 + whole * t free = whole * t free + 0
      omega
    · rw [ge]
      split
      · exact hD
      · exact Nat.zero_le _
  | n + 1, h => by
    obtain ⟨h1, h2, h3, h4, h5⟩ := one_take t hf hl hd D hD hv n (by omega)
    have e : oneOf (prs.take (n + 1)) w whole free = (oneOf (prs.take n) w whole free).set (prs.getD n ([], 0)).2 (val prs whole free n) := by
      rw [take_succ_getD ([], 0) (by omega)]
      unfold oneOf
      rw [List.foldl_append]
      rfl
    have ge : ∀ k, g (oneOf (prs.take (n + 1)) w whole free) k = if k = (prs.getD n ([], 0)).2 then val prs whole free n else g (oneOf (prs.take n) w whole free) k := fun k => by
      rw [e, g_set (by rw [h1]; exact (hl n (by omega)).1)]
    refine ⟨by rw [e, List.length_set, h1], fun i hi hi2 => ?_, ?_, fun k hk => ?_, fun k => ?_⟩
    · rw [ge, if_neg (hd i n hi2 (by omega) (by omega))]
      exact h2 i (by omega) hi2
    · rw [e, dot_set h1 (hl n (by omega)).1 (h2 n (Nat.le_refl n) (by omega)), h3]
      exact Int.add_assoc _ _ _
    · rw [ge, if_neg (fun q => hk n (by omega) q.symm)]
      exact h4 k hk
    · rw [ge]
      split
      · exact hv n (by omega)
      · exact h5 k
end
theorem one_all {prs : List (List Int × Nat)} {w free : Nat} {whole : Int} (hf : free < w) (hl : ∀ i, i < prs.length → (prs.getD i ([], 0)).2 < w ∧ (prs.getD i ([], 0)).2 ≠ free)
    (hd : ∀ i j, i < prs.length → j < prs.length → i ≠ j → (prs.getD i ([], 0)).2 ≠ (prs.getD j ([], 0)).2) (D : Nat) (hD : whole.natAbs ≤ D) (hv : ∀ i, i < prs.length → (val prs whole free i).natAbs ≤ D) :
    (oneOf prs w whole free).length = w ∧ (∀ t : Nat → Int, dot w (oneOf prs w whole free) t = whole * t free + sm prs.length (fun i => val prs whole free i * t (prs.getD i ([], 0)).2)) ∧
      (∀ k, (∀ i, i < prs.length → (prs.getD i ([], 0)).2 ≠ k) → g (oneOf prs w whole free) k = if k = free then whole else 0) ∧ ∀ k, (g (oneOf prs w whole free) k).natAbs ≤ D := by
  have h := fun t => one_take t hf hl hd D hD hv prs.length (Nat.le_refl _)
  simp only [List.take_length] at h
  obtain ⟨h1, _, _, h4, h5⟩ := h fun _ => 0
  exact ⟨h1, fun t => (h t).2.2.1, h4, h5⟩

/-! ### the kernel's rows -/
/-- how many places are left -/
theorem frees_len : ∀ (ls : List Nat) (a n : Nat), ls.Pairwise (fun x y => x < y) → (∀ l ∈ ls, a ≤ l ∧ l < a + n) → ((List.range' a n).filter fun p => !ls.contains p).length + ls.length = n
  | [], a, n, _, _ => by
    have e : (List.range' a n).filter (fun p => !([] : List Nat).contains p) = List.range' a n := List.filter_eq_self.mpr fun p _ => rfl
    rw [e, List.length_range']
    rfl
  | l :: ls, a, 0, _, h => by
    have := h l List.mem_cons_self
    omega
  | l :: ls, a, n + 1, hp, h => by
    obtain ⟨p1, p2⟩ := List.pairwise_cons.mp hp
    have hl := h l List.mem_cons_self
    rw [List.range'_succ, List.filter_cons]
    by_cases e : l = a
    · subst e
      have c : (!(l :: ls).contains l) = false := by
        rw [List.contains_cons, beq_self_eq_true]
        rfl
      rw [c, if_neg Bool.false_ne_true]
      have ef : (List.range' (l + 1) n).filter (fun p => !(l :: ls).contains p) = (List.range' (l + 1) n).filter (fun p => !ls.contains p) := by
        refine List.filter_congr fun p hp => ?_
        have q := (List.mem_range'_1.mp hp).1
        have ne : (p == l) = false := beq_eq_false_iff_ne.mpr (by omega)
        rw [List.contains_cons, ne, Bool.false_or]
      have ih := frees_len ls (l + 1) n p2 fun x hx => by
        have h1 := p1 x hx
        have h2 := h x (List.mem_cons_of_mem _ hx)
        omega
      rw [ef, List.length_cons]
      omega
    · have c : (!(l :: ls).contains a) = true := by
        have e0 : (l :: ls).contains a = false := by
          rw [List.contains_eq_mem]
          refine decide_eq_false fun hm => ?_
          rcases List.mem_cons.mp hm with z | z
          · exact e z.symm
          · have := p1 a z
            omega
        rw [e0]
        rfl
      rw [c, if_pos rfl, List.length_cons]
      have ih := frees_len (l :: ls) (a + 1) n hp fun x hx => by
        have h2 := h x hx
        have h3 : a ≠ x := fun q => by
          rcases List.mem_cons.mp hx with z | z
          · omega
          · have := p1 x z
            omega
        omega
      omega
section
variable {rows told : List (List Int)} {w : Nat} {ls : List Nat}
theorem mem_frees {p : Nat} : p ∈ freesOf ls w ↔ p < w ∧ p ∉ ls := by
  unfold freesOf
  rw [List.mem_filter, List.mem_range, List.contains_eq_mem]
  constructor
  · intro ⟨h1, h2⟩
    refine ⟨h1, fun hm => ?_⟩
    rw [decide_eq_true hm] at h2
    cases h2
  · intro ⟨h1, h2⟩
    refine ⟨h1, ?_⟩
    rw [decide_eq_false h2]
    rfl
theorem Ech.zlen (E : Ech rows w told ls) : (told.zip ls).length = told.length := by
  rw [List.length_zip, E.lenLs, Nat.min_self]
theorem Ech.getl (E : Ech rows w told ls) {i : Nat} (hi : i < told.length) : ls.getD i 0 ∈ ls := by
  rw [getD_lt (by rw [E.lenLs]; exact hi)]
  exact List.getElem_mem _
theorem Ech.getr (E : Ech rows w told ls) {i : Nat} (hi : i < told.length) : told.getD i [] ∈ told := by
  rw [getD_lt hi]
  exact List.getElem_mem _
theorem Ech.ne (E : Ech rows w told ls) {i j : Nat} (hi : i < told.length) (hj : j < told.length) (h : i ≠ j) : ls.getD i 0 ≠ ls.getD j 0 := fun q => by
  have h1 := E.other i j hi hj h
  have h2 := (E.lead i hi).1
  rw [← q] at h1
  omega
/-- the multiple of the leads' entries of an echelon -/
theorem Ech.whole (E : Ech rows w told ls) {c : Nat} (hc : ∀ r ∈ told, ∀ i, (g r i).natAbs ≤ 2 ^ c) : 0 < wholeOf (told.zip ls) ∧ (∀ i, i < told.length → g (told.getD i []) (ls.getD i 0) ∣ wholeOf (told.zip ls)) ∧ (wholeOf (told.zip ls)).natAbs ≤ 2 ^ (c * told.length) := by
  have at_ : ∀ q ∈ told.zip ls, ∃ i, i < told.length ∧ q = (told.getD i [], ls.getD i 0) := fun q hq => by
    obtain ⟨i, hi, e⟩ := List.getElem_of_mem hq
    have hi2 : i < told.length := by rw [E.zlen] at hi; exact hi
    refine ⟨i, hi2, ?_⟩
    rw [← zip_getD E.lenLs hi2, getD_lt hi, e]
  have h := whole_all (prs := told.zip ls) (c := c) (fun q hq => by
    obtain ⟨i, hi, e⟩ := at_ q hq
    rw [e]
    exact (E.lead i hi).1) (fun q hq => by
    obtain ⟨i, hi, e⟩ := at_ q hq
    rw [e]
    exact hc _ (E.getr hi) _)
  rw [E.zlen] at h
  refine ⟨h.1, fun i hi => ?_, h.2.2⟩
  have q := h.2.1 i hi
  rw [zip_getD E.lenLs hi] at q
  exact q
/-- a free place's row -/
structure OneOk (told : List (List Int)) (ls : List Nat) (w : Nat) (whole : Int) (f : Nat) (one : List Int) (D : Nat) : Prop where
  len : one.length = w
  dot : ∀ t : Nat → Int, K63.dot w one t = whole * t f - sm told.length (fun i => whole / g (told.getD i []) (ls.getD i 0) * g (told.getD i []) f * t (ls.getD i 0))
  free : ∀ k, k ∉ ls → g one k = if k = f then whole else 0
  size : ∀ k, (g one k).natAbs ≤ D
theorem Ech.one (E : Ech rows w told ls) {c : Nat} (hc : ∀ r ∈ told, ∀ i, (g r i).natAbs ≤ 2 ^ c) {f : Nat} (hf : f ∈ freesOf ls w) :
    OneOk told ls w (wholeOf (told.zip ls)) f (oneOf (told.zip ls) w (wholeOf (told.zip ls)) f) (2 ^ (c * told.length + c)) := by
  obtain ⟨w1, w2, w3⟩ := E.whole hc
  obtain ⟨f1, f2⟩ := mem_frees.mp hf
  generalize wholeOf (told.zip ls) = L at *
  have zl := E.zlen
  have zg := fun {i : Nat} (hi : i < told.length) => zip_getD (res := told) E.lenLs hi
  have hD : L.natAbs ≤ 2 ^ (c * told.length + c) := Nat.le_trans w3 (Nat.pow_le_pow_right (by decide) (by omega))
  have hv : ∀ i, i < (told.zip ls).length → (val (told.zip ls) L f i).natAbs ≤ 2 ^ (c * told.length + c) := fun i hi => by
    rw [zl] at hi
    unfold val
    rw [zg hi, Int.natAbs_mul, Int.natAbs_neg, Nat.pow_add]
    refine Nat.mul_le_mul (Nat.le_trans ?_ w3) (hc _ (E.getr hi) f)
    exact ediv_natAbs_le (w2 i hi) (E.lead i hi).1
  have h := one_all (prs := told.zip ls) (w := w) (free := f) (whole := L) f1 (fun i hi => by
    rw [zl] at hi
    rw [zg hi]
    exact ⟨E.lt _ (E.getl hi), fun q => f2 (by rw [← q]; exact E.getl hi)⟩) (fun i j hi hj hij => by
    rw [zl] at hi hj
    rw [zg hi, zg hj]
    exact E.ne hi hj hij) _ hD hv
  obtain ⟨h1, h2, h3, h4⟩ := h
  refine ⟨h1, fun t => ?_, fun k hk => h3 k fun i hi => ?_, h4⟩
  · rw [h2 t, zl]
    have e : sm told.length (fun i => val (told.zip ls) L f i * t ((told.zip ls).getD i ([], 0)).2) = -1 * sm told.length (fun i => L / g (told.getD i []) (ls.getD i 0) * g (told.getD i []) f * t (ls.getD i 0)) := by
      rw [← sm_mul]
      refine sm_congr fun i hi => ?_
      unfold val
      rw [zg hi, Int.neg_mul, Int.neg_mul, Int.neg_mul, Int.one_mul]
    rw [e]
    omega
  · rw [zl] at hi
    rw [zg hi]
    exact fun q => hk (by rw [← q]; exact E.getl hi)
/-- it is killed by the echelon's rows -/
theorem Ech.one_dot (E : Ech rows w told ls) {L : Int} {f D : Nat} {one : List Int} (O : OneOk told ls w L f one D) (hL : ∀ i, i < told.length → g (told.getD i []) (ls.getD i 0) ∣ L) {r : List Int} (hr : r ∈ told) : dot w one (g r) = 0 := by
  obtain ⟨i, hi, e⟩ := List.getElem_of_mem hr
  have e2 : told.getD i [] = r := by rw [getD_lt hi, e]
  rw [O.dot, sm_single (k := i) hi fun j hj ne => ?_]
  · have q := Int.ediv_mul_cancel (hL i hi)
    rw [← e2]
    generalize L / g (told.getD i []) (ls.getD i 0) = y at *
    rw [← q, Int.mul_right_comm y (g (told.getD i []) f)]
    omega
  · have z := E.other i j hi hj (Ne.symm ne)
    rw [e2] at z
    rw [z, Int.mul_zero]
end
end K63

/-! ## K63D -/
set_option maxHeartbeats 400000
set_option linter.all false
namespace K63
theorem lin (w : Nat) (x u c : Nat → Int) (L : Int) (a : Nat → Nat → Int) :
    sm w (fun k => x k * (L * u k - sm w (fun f => c f * a f k))) = L * sm w (fun k => x k * u k) - sm w (fun f => c f * sm w (fun k => x k * a f k)) := by
  have e1 : sm w (fun k => x k * (L * u k - sm w (fun f => c f * a f k))) = sm w (fun k => L * (x k * u k) - sm w (fun f => c f * (x k * a f k))) := sm_congr fun k _ => by
    rw [Int.mul_sub, Int.mul_left_comm, ← sm_mul]
    congr 1
    exact sm_congr fun f _ => Int.mul_left_comm _ _ _
  rw [e1, sm_sub, sm_mul, sm_swap (fun k f => c f * (x k * a f k)) w w]
  congr 1
  exact sm_congr fun f _ => sm_mul _ _ _
section
variable {rows told : List (List Int)} {w : Nat} {ls : List Nat}
/-- what is killed by an echelon's rows is made of the free places' rows -/
theorem Ech.dual (E : Ech rows w told ls) {L : Int} {D : Nat} (hL0 : L ≠ 0) (hL : ∀ i, i < told.length → g (told.getD i []) (ls.getD i 0) ∣ L) {one : Nat → List Int} (O : ∀ f, f ∈ freesOf ls w → OneOk told ls w L f (one f) D)
    {u t : Nat → Int} (hu : ∀ r ∈ told, dot w r u = 0) (ht : ∀ f, f ∈ freesOf ls w → dot w (one f) t = 0) : sm w (fun k => t k * u k) = 0 := by
  have inF : ∀ f, f < w → f ∉ ls → f ∈ freesOf ls w := fun f h1 h2 => mem_frees.mpr ⟨h1, h2⟩
  let c : Nat → Int := fun f => if f ∈ ls then 0 else u f
  have c1 : ∀ f, f ∈ ls → c f = 0 := fun f h => if_pos h
  have c2 : ∀ f, f ∉ ls → c f = u f := fun f h => if_neg h
  have y0 : ∀ k, k < w → k ∉ ls → L * u k - sm w (fun f => c f * g (one f) k) = 0 := fun k hk hn => by
    rw [sm_single (k := k) hk fun f hf ne => ?_]
    · rw [c2 k hn, (O k (inF k hk hn)).free k hn, if_pos rfl, Int.mul_comm]
      omega
    · by_cases q : f ∈ ls
      · rw [c1 f q, Int.zero_mul]
      · rw [(O f (inF f hf q)).free k hn, if_neg (Ne.symm ne), Int.mul_zero]
  have y1 : ∀ j, j < told.length → L * u (ls.getD j 0) - sm w (fun f => c f * g (one f) (ls.getD j 0)) = 0 := fun j hj => by
    have hr := E.getr hj
    have e := lin w (g (told.getD j [])) u c L fun f k => g (one f) k
    have z1 : sm w (fun k => g (told.getD j []) k * u k) = 0 := hu _ hr
    have z2 : sm w (fun f => c f * sm w (fun k => g (told.getD j []) k * g (one f) k)) = 0 := sm_zero fun f hf => by
      by_cases q : f ∈ ls
      · rw [c1 f q, Int.zero_mul]
      · have z3 : sm w (fun k => g (told.getD j []) k * g (one f) k) = dot w (one f) (g (told.getD j [])) := sm_congr fun k _ => Int.mul_comm _ _
        rw [z3, E.one_dot (O f (inF f hf q)) hL hr, Int.mul_zero]
    rw [z1, z2, Int.mul_zero, sm_single (k := ls.getD j 0) (E.lt _ (E.getl hj)) fun k hk ne => ?_] at e
    · rcases Int.mul_eq_zero.mp (e.trans (by decide)) with q | q
      · have := (E.lead j hj).1
        omega
      · exact q
    · by_cases q : k ∈ ls
      · obtain ⟨i, hi, ei⟩ := List.getElem_of_mem q
        have hi2 : i < told.length := by rw [← E.lenLs]; exact hi
        have ek : ls.getD i 0 = k := by rw [getD_lt hi, ei]
        have ne2 : j ≠ i := fun z => ne (by rw [← ek, z])
        have z := E.other j i hj hi2 ne2
        rw [ek] at z
        rw [z, Int.zero_mul]
      · rw [y0 k hk q, Int.mul_zero]
  have e := lin w t u c L fun f k => g (one f) k
  have z2 : sm w (fun f => c f * sm w (fun k => t k * g (one f) k)) = 0 := sm_zero fun f hf => by
    by_cases q : f ∈ ls
    · rw [c1 f q, Int.zero_mul]
    · have z3 : sm w (fun k => t k * g (one f) k) = dot w (one f) t := sm_congr fun k _ => Int.mul_comm _ _
      rw [z3, ht f (inF f hf q), Int.mul_zero]
  have z3 : sm w (fun k => t k * (L * u k - sm w (fun f => c f * g (one f) k))) = 0 := sm_zero fun k hk => by
    by_cases q : k ∈ ls
    · obtain ⟨i, hi, ei⟩ := List.getElem_of_mem q
      have hi2 : i < told.length := by rw [← E.lenLs]; exact hi
      have ek : ls.getD i 0 = k := by rw [getD_lt hi, ei]
      have y := y1 i hi2
      rw [ek] at y
      rw [y, Int.mul_zero]
    · rw [y0 k hk q, Int.mul_zero]
  rw [z2, z3] at e
  rcases Int.mul_eq_zero.mp (show L * sm w (fun k => t k * u k) = 0 by omega) with q | q
  · exact absurd q hL0
  · exact q
/-- a vector killed by all rows that an echelon kills, and 0 at the other leads, is a multiple of a row -/
theorem Ech.prop (E : Ech rows w told ls) {c : Nat} (hc : ∀ r ∈ told, ∀ i, (g r i).natAbs ≤ 2 ^ c) {u : Nat → Int}
    (hu : ∀ t : Nat → Int, (∀ r ∈ told, dot w r t = 0) → sm w (fun k => t k * u k) = 0) {i : Nat} (hi : i < told.length) (hz : ∀ j, j < told.length → j ≠ i → u (ls.getD j 0) = 0) {m : Nat} (hm : m < w) :
    g (told.getD i []) (ls.getD i 0) * u m = g (told.getD i []) m * u (ls.getD i 0) := by
  obtain ⟨w1, w2, _⟩ := E.whole hc
  generalize wholeOf (told.zip ls) = L at *
  let n := told.length
  let co : Nat → Int := fun j => L / g (told.getD j []) (ls.getD j 0) * g (told.getD j []) m
  let tv : Nat → Int := fun k => (if k = m then L else 0) - sm n (fun j => if k = ls.getD j 0 then co j else 0)
  have key : ∀ x : Nat → Int, sm w (fun k => x k * tv k) = L * x m - sm n (fun j => co j * x (ls.getD j 0)) := fun x => by
    have e1 : sm w (fun k => x k * tv k) = sm w (fun k => x k * (if k = m then L else 0) - sm n (fun j => x k * (if k = ls.getD j 0 then co j else 0))) := sm_congr fun k _ => by
      show x k * ((if k = m then L else 0) - sm n (fun j => if k = ls.getD j 0 then co j else 0)) = _
      rw [Int.mul_sub, sm_mul]
    rw [e1, sm_sub, sm_swap (fun k j => x k * (if k = ls.getD j 0 then co j else 0)) n w]
    congr 1
    · rw [sm_single (k := m) hm fun k _ ne => by rw [if_neg ne, Int.mul_zero], if_pos rfl, Int.mul_comm]
    · refine sm_congr fun j hj => ?_
      rw [sm_single (k := ls.getD j 0) (E.lt _ (E.getl hj)) fun k _ ne => by rw [if_neg ne, Int.mul_zero], if_pos rfl, Int.mul_comm]
  have tv0 : ∀ r ∈ told, dot w r tv = 0 := fun r hr => by
    obtain ⟨i2, hi2, e⟩ := List.getElem_of_mem hr
    have e2 : told.getD i2 [] = r := by rw [getD_lt hi2, e]
    have q := key (g r)
    have z : sm n (fun j => co j * g r (ls.getD j 0)) = co i2 * g r (ls.getD i2 0) := sm_single hi2 fun j hj ne => by
      have z := E.other i2 j hi2 hj (Ne.symm ne)
      rw [e2] at z
      rw [z, Int.mul_zero]
    rw [z] at q
    show sm w (fun k => g r k * tv k) = 0
    rw [q]
    show L * g r m - L / g (told.getD i2 []) (ls.getD i2 0) * g (told.getD i2 []) m * g r (ls.getD i2 0) = 0
    have d := Int.ediv_mul_cancel (w2 i2 hi2)
    rw [e2] at d ⊢
    rw [Int.mul_right_comm, d]
    omega
  have h := hu tv tv0
  have e1 : sm w (fun k => tv k * u k) = sm w (fun k => u k * tv k) := sm_congr fun k _ => Int.mul_comm _ _
  have z : sm n (fun j => co j * u (ls.getD j 0)) = co i * u (ls.getD i 0) := sm_single hi fun j hj ne => by rw [hz j hj ne, Int.mul_zero]
  rw [e1, key u, z] at h
  have h2 : L * u m - L / g (told.getD i []) (ls.getD i 0) * g (told.getD i []) m * u (ls.getD i 0) = 0 := h
  have d := Int.ediv_mul_cancel (w2 i hi)
  generalize hy : L / g (told.getD i []) (ls.getD i 0) = y at *
  have y0 : y ≠ 0 := fun q => by
    rw [q, Int.zero_mul] at d
    omega
  have h3 : y * (g (told.getD i []) (ls.getD i 0) * u m - g (told.getD i []) m * u (ls.getD i 0)) = 0 := by
    rw [Int.mul_sub, ← Int.mul_assoc, ← Int.mul_assoc, d]
    exact h2
  rcases Int.mul_eq_zero.mp h3 with q | q
  · exact absurd q y0
  · omega
end

/-! ### a small vector that some vectors of four places kill -/
structure V4 where
  a : Int
  b : Int
  c : Int
  d : Int
def V4.dot (x y : V4) : Int := x.a * y.a + x.b * y.b + x.c * y.c + x.d * y.d
def d3 (a b c d e f g h i : Int) : Int := a * (e * i - f * h) - b * (d * i - f * g) + c * (d * h - e * g)
/-- the vector whose product with a fourth one is the determinant -/
def cross (x y z : V4) : V4 where
  a := d3 x.b x.c x.d y.b y.c y.d z.b z.c z.d
  b := - d3 x.a x.c x.d y.a y.c y.d z.a z.c z.d
  c := d3 x.a x.b x.d y.a y.b y.d z.a z.b z.d
  d := - d3 x.a x.b x.c y.a y.b y.c z.a z.b z.c
def e1 : V4 := ⟨1, 0, 0, 0⟩
def e2 : V4 := ⟨0, 1, 0, 0⟩
def e3 : V4 := ⟨0, 0, 1, 0⟩
def e4 : V4 := ⟨0, 0, 0, 1⟩
def V4.isZero (x : V4) : Prop := x.a = 0 ∧ x.b = 0 ∧ x.c = 0 ∧ x.d = 0
def V4.le (x : V4) (M : Nat) : Prop := x.a.natAbs ≤ M ∧ x.b.natAbs ≤ M ∧ x.c.natAbs ≤ M ∧ x.d.natAbs ≤ M
def d4 (x y z t : V4) : Int := (cross x y z).dot t
theorem d4_x (x y z : V4) : d4 x y z x = 0 := by simp only [d4, cross, V4.dot, d3]; grind
theorem d4_y (x y z : V4) : d4 x y z y = 0 := by simp only [d4, cross, V4.dot, d3]; grind
theorem d4_z (x y z : V4) : d4 x y z z = 0 := by simp only [d4, cross, V4.dot, d3]; grind
theorem d4_zt (x y z t : V4) : d4 x y z t = - d4 x y t z := by simp only [d4, cross, V4.dot, d3]; grind
theorem d4_rot (x y z t : V4) : d4 x y z t = d4 x z t y := by simp only [d4, cross, V4.dot, d3]; grind
theorem d4_rot3 (x y z t : V4) : d4 x y z t = - d4 t x y z := by simp only [d4, cross, V4.dot, d3]; grind
theorem cram_a (x y z t v : V4) : d4 x y z t * v.a = d4 { x with a := x.dot v } { y with a := y.dot v } { z with a := z.dot v } { t with a := t.dot v } := by simp only [d4, cross, V4.dot, d3]; grind
theorem cram_b (x y z t v : V4) : d4 x y z t * v.b = d4 { x with b := x.dot v } { y with b := y.dot v } { z with b := z.dot v } { t with b := t.dot v } := by simp only [d4, cross, V4.dot, d3]; grind
theorem cram_c (x y z t v : V4) : d4 x y z t * v.c = d4 { x with c := x.dot v } { y with c := y.dot v } { z with c := z.dot v } { t with c := t.dot v } := by simp only [d4, cross, V4.dot, d3]; grind
theorem cram_d (x y z t v : V4) : d4 x y z t * v.d = d4 { x with d := x.dot v } { y with d := y.dot v } { z with d := z.dot v } { t with d := t.dot v } := by simp only [d4, cross, V4.dot, d3]; grind
end K63

/-! ## K63E -/
set_option maxHeartbeats 400000
set_option linter.all false
namespace K63
theorem V4.zero_dot {x y : V4} (h : x.isZero) : x.dot y = 0 := by
  obtain ⟨a, b, c, d⟩ := h
  unfold V4.dot
  rw [a, b, c, d]
  omega
theorem V4.dot_comm (x y : V4) : x.dot y = y.dot x := by
  unfold V4.dot
  rw [Int.mul_comm x.a, Int.mul_comm x.b, Int.mul_comm x.c, Int.mul_comm x.d]
theorem d4_zero {x y z : V4} (h : (cross x y z).isZero) (t : V4) : d4 x y z t = 0 := V4.zero_dot h
theorem abs3 {x y z : Int} {M : Nat} (hx : x.natAbs ≤ M) (hy : y.natAbs ≤ M) (hz : z.natAbs ≤ M) : (x * (y * z)).natAbs ≤ M * (M * M) := by
  rw [Int.natAbs_mul, Int.natAbs_mul]
  exact Nat.mul_le_mul hx (Nat.mul_le_mul hy hz)
theorem d3_le {a b c d e f g h i : Int} {M : Nat} (ha : a.natAbs ≤ M) (hb : b.natAbs ≤ M) (hc : c.natAbs ≤ M) (hd : d.natAbs ≤ M) (he : e.natAbs ≤ M) (hf : f.natAbs ≤ M) (hg : g.natAbs ≤ M) (hh : h.natAbs ≤ M) (hi : i.natAbs ≤ M) :
    (d3 a b c d e f g h i).natAbs ≤ 6 * (M * (M * M)) := by
  have h1 := abs3 ha he hi
  have h2 := abs3 ha hf hh
  have h3 := abs3 hb hd hi
  have h4 := abs3 hb hf hg
  have h5 := abs3 hc hd hh
  have h6 := abs3 hc he hg
  unfold d3
  rw [Int.mul_sub, Int.mul_sub, Int.mul_sub]
  omega
theorem cross_le {x y z : V4} {M : Nat} (hx : x.le M) (hy : y.le M) (hz : z.le M) : (cross x y z).le (6 * (M * (M * M))) := by
  obtain ⟨x1, x2, x3, x4⟩ := hx
  obtain ⟨y1, y2, y3, y4⟩ := hy
  obtain ⟨z1, z2, z3, z4⟩ := hz
  refine ⟨d3_le x2 x3 x4 y2 y3 y4 z2 z3 z4, ?_, d3_le x1 x2 x4 y1 y2 y4 z1 z2 z4, ?_⟩
  · show (-d3 _ _ _ _ _ _ _ _ _).natAbs ≤ _
    rw [Int.natAbs_neg]
    exact d3_le x1 x3 x4 y1 y3 y4 z1 z3 z4
  · show (-d3 _ _ _ _ _ _ _ _ _).natAbs ≤ _
    rw [Int.natAbs_neg]
    exact d3_le x1 x2 x3 y1 y2 y3 z1 z2 z3
/-- four vectors kill a vector other than 0: no determinant -/
theorem d4_kills {x y z t v : V4} (hv : ¬ v.isZero) (hx : x.dot v = 0) (hy : y.dot v = 0) (hz : z.dot v = 0) (ht : t.dot v = 0) : d4 x y z t = 0 := by
  have za : ∀ p q r s : V4, p.a = 0 → q.a = 0 → r.a = 0 → s.a = 0 → d4 p q r s = 0 := fun p q r s h1 h2 h3 h4 => by
    simp only [d4, cross, V4.dot, d3, h1, h2, h3, h4]
    grind
  have zb : ∀ p q r s : V4, p.b = 0 → q.b = 0 → r.b = 0 → s.b = 0 → d4 p q r s = 0 := fun p q r s h1 h2 h3 h4 => by
    simp only [d4, cross, V4.dot, d3, h1, h2, h3, h4]
    grind
  have zc : ∀ p q r s : V4, p.c = 0 → q.c = 0 → r.c = 0 → s.c = 0 → d4 p q r s = 0 := fun p q r s h1 h2 h3 h4 => by
    simp only [d4, cross, V4.dot, d3, h1, h2, h3, h4]
    grind
  have zd : ∀ p q r s : V4, p.d = 0 → q.d = 0 → r.d = 0 → s.d = 0 → d4 p q r s = 0 := fun p q r s h1 h2 h3 h4 => by
    simp only [d4, cross, V4.dot, d3, h1, h2, h3, h4]
    grind
  have a := (cram_a x y z t v).trans (za _ _ _ _ hx hy hz ht)
  have b := (cram_b x y z t v).trans (zb _ _ _ _ hx hy hz ht)
  have c := (cram_c x y z t v).trans (zc _ _ _ _ hx hy hz ht)
  have d := (cram_d x y z t v).trans (zd _ _ _ _ hx hy hz ht)
  by_cases q : d4 x y z t = 0
  · exact q
  · have f : ∀ w : Int, d4 x y z t * w = 0 → w = 0 := fun w h => by
      rcases Int.mul_eq_zero.mp h with z | z
      · exact absurd z q
      · exact z
    exact absurd ⟨f _ a, f _ b, f _ c, f _ d⟩ hv
def isE (e : V4) : Prop := e = e1 ∨ e = e2 ∨ e = e3 ∨ e = e4
theorem isE.le {e : V4} (h : isE e) {M : Nat} (hM : 1 ≤ M) : e.le M := by
  have h0 : (0 : Int).natAbs ≤ M := Nat.zero_le _
  have h1 : (1 : Int).natAbs ≤ M := hM
  rcases h with rfl | rfl | rfl | rfl
  · exact ⟨h1, h0, h0, h0⟩
  · exact ⟨h0, h1, h0, h0⟩
  · exact ⟨h0, h0, h1, h0⟩
  · exact ⟨h0, h0, h0, h1⟩
theorem small {R : V4 → Prop} {M : Nat} (hM : 1 ≤ M) (hR : ∀ x, R x → x.le M) {v : V4} (hv : ¬ v.isZero) (hk : ∀ x, R x → x.dot v = 0) :
    ∃ u : V4, ¬ u.isZero ∧ (∀ x, R x → x.dot u = 0) ∧ u.le (6 * (M * (M * M))) := by
  by_cases A : ∃ x y z, R x ∧ R y ∧ R z ∧ ¬ (cross x y z).isZero
  · obtain ⟨x, y, z, rx, ry, rz, n⟩ := A
    refine ⟨_, n, fun t rt => ?_, cross_le (hR x rx) (hR y ry) (hR z rz)⟩
    rw [V4.dot_comm]
    exact d4_kills hv (hk x rx) (hk y ry) (hk z rz) (hk t rt)
  · have A' : ∀ x y z, R x → R y → R z → (cross x y z).isZero := fun x y z rx ry rz => Classical.byContradiction fun n => A ⟨x, y, z, rx, ry, rz, n⟩
    by_cases B : ∃ x y e, R x ∧ R y ∧ isE e ∧ ¬ (cross x y e).isZero
    · obtain ⟨x, y, e, rx, ry, he, n⟩ := B
      refine ⟨_, n, fun t rt => ?_, cross_le (hR x rx) (hR y ry) (he.le hM)⟩
      rw [V4.dot_comm]
      show d4 x y e t = 0
      rw [d4_zt, d4_zero (A' x y t rx ry rt)]
      rfl
    · have B' : ∀ x y e, R x → R y → isE e → (cross x y e).isZero := fun x y e rx ry he => Classical.byContradiction fun n => B ⟨x, y, e, rx, ry, he, n⟩
      by_cases C : ∃ x e f, R x ∧ isE e ∧ isE f ∧ ¬ (cross x e f).isZero
      · obtain ⟨x, e, f, rx, he, hf, n⟩ := C
        refine ⟨_, n, fun t rt => ?_, cross_le (hR x rx) (he.le hM) (hf.le hM)⟩
        rw [V4.dot_comm]
        show d4 x e f t = 0
        rw [d4_zt, d4_rot, d4_zt, d4_zero (B' x t e rx rt he)]
        rfl
      · have C' : ∀ x e f, R x → isE e → isE f → (cross x e f).isZero := fun x e f rx he hf => Classical.byContradiction fun n => C ⟨x, e, f, rx, he, hf, n⟩
        refine ⟨cross e1 e2 e3, fun h => absurd h.2.2.2 (by decide), fun t rt => ?_, cross_le (isE.le (.inl rfl) hM) (isE.le (.inr (.inl rfl)) hM) (isE.le (.inr (.inr (.inl rfl))) hM)⟩
        rw [V4.dot_comm]
        show d4 e1 e2 e3 t = 0
        rw [d4_rot3, d4_zero (C' t e1 e2 rt (.inl rfl) (.inr (.inl rfl)))]
        rfl

/-! ### a primitive row is the smallest of its multiples -/
theorem unit_le {w : Nat} {v : List Int} {a b : Int} {u : Nat → Int} (ha : a ≠ 0) (hb : b ≠ 0) (h : ∀ m, m < w → a * u m = g v m * b) (hl : v.length = w) (hu : ∀ d : Int, (∀ i, d ∣ g v i) → d ∣ 1) : ∀ m, m < w → (g v m).natAbs ≤ (u m).natAbs := by
  have hG : 0 < Nat.gcd a.natAbs b.natAbs := Nat.gcd_pos_of_pos_left _ (by omega)
  obtain ⟨A, eA⟩ := Nat.gcd_dvd_left a.natAbs b.natAbs
  obtain ⟨B, eB⟩ := Nat.gcd_dvd_right a.natAbs b.natAbs
  have cop : Nat.Coprime A B := by
    have q := Nat.gcd_mul_left (Nat.gcd a.natAbs b.natAbs) A B
    rw [← eA, ← eB] at q
    have q2 : Nat.gcd a.natAbs b.natAbs * Nat.gcd A B = Nat.gcd a.natAbs b.natAbs * 1 := by rw [← q, Nat.mul_one]
    exact Nat.eq_of_mul_eq_mul_left hG q2
  have hab : ∀ m, m < w → A * (u m).natAbs = (g v m).natAbs * B := fun m hm => by
    have q := congrArg Int.natAbs (h m hm)
    rw [Int.natAbs_mul, Int.natAbs_mul] at q
    generalize Nat.gcd a.natAbs b.natAbs = G at *
    rw [eA, eB, Nat.mul_assoc, Nat.mul_left_comm (g v m).natAbs] at q
    exact Nat.eq_of_mul_eq_mul_left hG q
  have dv : ∀ m, m < w → A ∣ (g v m).natAbs := fun m hm => cop.dvd_of_dvd_mul_right ⟨_, (hab m hm).symm⟩
  have A1 : A = 1 := by
    have d := hu (A : Int) fun i => by
      by_cases hi : i < w
      · exact Int.ofNat_dvd_left.mpr (dv i hi)
      · rw [g_ge (by omega)]
        exact Int.dvd_zero _
    have d2 := Int.ofNat_dvd_left.mp d
    exact Nat.dvd_one.mp d2
  have hB : 0 < B := by
    rcases Nat.eq_zero_or_pos B with z | z
    · rw [z, Nat.mul_zero] at eB
      omega
    · exact z
  intro m hm
  have q := hab m hm
  rw [A1, Nat.one_mul] at q
  rw [q]
  exact Nat.le_mul_of_pos_right _ hB
/-! ### the kernel's rows are small -/
def toV (r : List Int) : V4 := ⟨g r 0, g r 1, g r 2, g r 3⟩
def ofV (u : V4) : Nat → Int
  | 0 => u.a
  | 1 => u.b
  | 2 => u.c
  | 3 => u.d
  | _ => 0
theorem sm_ext {f : Nat → Int} {w : Nat} : ∀ {n : Nat}, w ≤ n → (∀ i, w ≤ i → f i = 0) → sm w f = sm n f
  | 0, h, _ => by
    have e : w = 0 := by omega
    rw [e]
  | n + 1, h, z => by
    by_cases e : w = n + 1
    · rw [e]
    · show sm w f = sm n f + f n
      rw [sm_ext (n := n) (by omega) z, z n (by omega), Int.add_zero]
theorem dot_toV {r : List Int} {w : Nat} (hl : r.length = w) (hw : w ≤ 4) (u : V4) : dot w r (ofV u) = (toV r).dot u := by
  unfold dot
  rw [sm_ext (n := 4) hw fun i hi => by rw [g_ge (by omega), Int.zero_mul]]
  show 0 + g r 0 * u.a + g r 1 * u.b + g r 2 * u.c + g r 3 * u.d = g r 0 * u.a + g r 1 * u.b + g r 2 * u.c + g r 3 * u.d
  omega
def unitV : Nat → V4
  | 0 => e1
  | 1 => e2
  | 2 => e3
  | _ => e4
theorem unitV_dot {m : Nat} (hm : m < 4) (u : V4) : (unitV m).dot u = ofV u m := by
  match m, hm with
  | 0, _ => show 1 * u.a + 0 * u.b + 0 * u.c + 0 * u.d = u.a; omega
  | 1, _ => show 0 * u.a + 1 * u.b + 0 * u.c + 0 * u.d = u.b; omega
  | 2, _ => show 0 * u.a + 0 * u.b + 1 * u.c + 0 * u.d = u.c; omega
  | 3, _ => show 0 * u.a + 0 * u.b + 0 * u.c + 1 * u.d = u.d; omega
theorem unitV_isE (m : Nat) : isE (unitV m) := by
  match m with
  | 0 => exact .inl rfl
  | 1 => exact .inr (.inl rfl)
  | 2 => exact .inr (.inr (.inl rfl))
  | _ + 3 => exact .inr (.inr (.inr rfl))
theorem ofV_toV {r : List Int} {m : Nat} (hm : m < 4) : ofV (toV r) m = g r m := by
  match m, hm with
  | 0, _ => rfl
  | 1, _ => rfl
  | 2, _ => rfl
  | 3, _ => rfl
theorem ofV_zero {u : V4} (h : ∀ m, m < 4 → ofV u m = 0) : u.isZero := ⟨h 0 (by decide), h 1 (by decide), h 2 (by decide), h 3 (by decide)⟩
theorem ofV_le {u : V4} {M : Nat} (h : u.le M) : ∀ m, (ofV u m).natAbs ≤ M
  | 0 => h.1
  | 1 => h.2.1
  | 2 => h.2.2.1
  | 3 => h.2.2.2
  | _ + 4 => Nat.zero_le _

/-- all of the kernel -/
structure Ker (rows : List (List Int)) (w : Nat) (K : List (List Int)) : Prop where
  len : ∀ v ∈ K, v.length = w
  kill : ∀ v ∈ K, ∀ r ∈ rows, dot w v (g r) = 0
  size : ∀ v ∈ K, ∀ i, 2 * (g v i).natAbs ≤ 2 ^ 8998
  small : w ≤ 4 → ∀ M : Nat, 1 ≤ M → (∀ r ∈ rows, ∀ i, (g r i).natAbs ≤ M) → ∀ v ∈ K, ∀ i, (g v i).natAbs ≤ 6 * (M * (M * M))
theorem dot_swap {w : Nat} (r s : List Int) : dot w r (g s) = dot w s (g r) := sm_congr fun i _ => Int.mul_comm _ _
/-- the sizes on the way -/
structure Sizes (rows : List (List Int)) (w : Nat) : Prop where
  told : ∀ r ∈ ech rows w, ∀ i, 2 * (g r i).natAbs ≤ 2 ^ (54 * 2 ^ (ech rows w).length)
  tl : (ech rows w).length ≤ w
  ones : ∃ c, c * 2 ^ (onesOf (ech rows w) w).length ≤ 8998 ∧ ∀ r ∈ onesOf (ech rows w) w, r.length = w ∧ ∀ i, 2 * (g r i).natAbs ≤ 2 ^ c
  whole : (wholeOf ((ech rows w).zip ((ech rows w).map leadOf))).natAbs ≤ 2 ^ (54 * 2 ^ (ech rows w).length * (ech rows w).length)
theorem asc_len : ∀ (ls : List Nat) (a n : Nat), ls.Pairwise (fun x y => x < y) → (∀ l ∈ ls, a ≤ l ∧ l < a + n) → ls.length ≤ n := fun ls a n hp h => by
  have := frees_len ls a n hp h
  omega
theorem Ech.len_le {rows res : List (List Int)} {w : Nat} {ls : List Nat} (E : Ech rows w res ls) : res.length ≤ w := by
  have := asc_len ls 0 w E.asc fun l hl => ⟨Nat.zero_le _, by have := E.lt l hl; omega⟩
  rw [E.lenLs] at this
  exact this
theorem Ech.frees {rows res : List (List Int)} {w : Nat} {ls : List Nat} (E : Ech rows w res ls) : (freesOf ls w).length + res.length = w := by
  have h := frees_len ls 0 w E.asc fun l hl => ⟨Nat.zero_le _, by have := E.lt l hl; omega⟩
  rw [E.lenLs] at h
  unfold freesOf
  rw [List.range_eq_range']
  exact h
theorem num4 : ∀ k, k ≤ 4 → ((54 * 2 ^ k - 1) * k + (54 * 2 ^ k - 1) + 1) * 2 ^ (5 - k) ≤ 8998
  | 0, _ => by decide
  | 1, _ => by decide
  | 2, _ => by decide
  | 3, _ => by decide
  | 4, _ => by decide
theorem sizes {rows : List (List Int)} {w : Nat} (hw : ∀ r ∈ rows, r.length = w) (h5 : w ≤ 5) (hb : ∀ r ∈ rows, ∀ i, 2 * (g r i).natAbs ≤ 2 ^ 54) : Sizes rows w := by
  obtain ⟨ls, E⟩ := ech_is hw
  have hs := E.size 54 hb
  have hle := E.len_le
  have hfr := E.frees
  have hc : ∀ r ∈ ech rows w, ∀ i, (g r i).natAbs ≤ 2 ^ (54 * 2 ^ (ech rows w).length - 1) := fun r hr i => by
    have h1 := hs r hr i
    have e : 54 * 2 ^ (ech rows w).length = (54 * 2 ^ (ech rows w).length - 1) + 1 := by
      have : 0 < 2 ^ (ech rows w).length := Nat.pow_pos (by decide)
      omega
    rw [e, Nat.pow_succ] at h1
    omega
  have hlen : (onesOf (ech rows w) w).length = (freesOf ls w).length := by
    unfold onesOf
    rw [List.length_map, E.leads]
  have W := E.whole hc
  refine ⟨hs, hle, ?_, ?_⟩
  · have ones : ∀ r ∈ onesOf (ech rows w) w, r.length = w ∧ ∀ i, (g r i).natAbs ≤ 2 ^ ((54 * 2 ^ (ech rows w).length - 1) * (ech rows w).length + (54 * 2 ^ (ech rows w).length - 1)) := fun r hr => by
      unfold onesOf at hr
      rw [E.leads] at hr
      obtain ⟨f, hf, rfl⟩ := List.mem_map.mp hr
      have O := E.one hc hf
      exact ⟨O.len, O.size⟩
    rw [hlen]
    generalize (ech rows w).length = k at *
    generalize hd : (freesOf ls w).length = d at *
    have hk5 : k ≤ 5 := by omega
    by_cases z : d = 0
    · refine ⟨0, by omega, fun r hr => ?_⟩
      have e : onesOf (ech rows w) w = [] := List.length_eq_zero_iff.mp (by rw [hlen, z])
      rw [e] at hr
      cases hr
    · refine ⟨(54 * 2 ^ k - 1) * k + (54 * 2 ^ k - 1) + 1, ?_, fun r hr => ⟨(ones r hr).1, fun i => ?_⟩⟩
      · have hd2 : d ≤ 5 - k := by omega
        have hk4 : k ≤ 4 := by omega
        refine Nat.le_trans (Nat.mul_le_mul_left _ (Nat.pow_le_pow_right (by decide) hd2)) ?_
        exact num4 k hk4
      · have := (ones r hr).2 i
        rw [Nat.pow_succ]
        omega
  · rw [E.leads]
    exact Nat.le_trans W.2.2 (Nat.pow_le_pow_right (by decide) (Nat.mul_le_mul_right _ (Nat.sub_le _ _)))
theorem kernel_is {rows : List (List Int)} {w : Nat} (hw : ∀ r ∈ rows, r.length = w) (h5 : w ≤ 5) (hb : ∀ r ∈ rows, ∀ i, 2 * (g r i).natAbs ≤ 2 ^ 54) : Ker rows w (kernel rows w) := by
  obtain ⟨ls, E⟩ := ech_is hw
  obtain ⟨_, _, ⟨c, hc, hones⟩, _⟩ := sizes hw h5 hb
  have hs := E.size 54 hb
  have hbt : ∀ r ∈ ech rows w, ∀ i, (g r i).natAbs ≤ 2 ^ (54 * 2 ^ (ech rows w).length) := fun r hr i => by
    have := hs r hr i
    omega
  have W := E.whole hbt
  have O : ∀ f, f ∈ freesOf ls w → OneOk (ech rows w) ls w (wholeOf ((ech rows w).zip ls)) f (oneOf ((ech rows w).zip ls) w (wholeOf ((ech rows w).zip ls)) f) (2 ^ (54 * 2 ^ (ech rows w).length * (ech rows w).length + 54 * 2 ^ (ech rows w).length)) := fun f hf => E.one hbt hf
  have mem : ∀ r, r ∈ onesOf (ech rows w) w ↔ ∃ f, f ∈ freesOf ls w ∧ oneOf ((ech rows w).zip ls) w (wholeOf ((ech rows w).zip ls)) f = r := fun r => by
    unfold onesOf
    rw [E.leads]
    exact List.mem_map
  obtain ⟨qs, F⟩ := ech_is (rows := onesOf (ech rows w) w) fun r hr => (hones r hr).1
  refine ⟨F.len, fun v hv r hr => ?_, fun v hv i => ?_, fun h4 M hM hR v hv => ?_⟩
  · refine F.fwd (g r) (fun o ho => ?_) v hv
    obtain ⟨f, hf, rfl⟩ := (mem o).mp ho
    rw [dot_swap]
    refine E.bwd _ (fun t ht => ?_) r hr
    rw [dot_swap]
    exact E.one_dot (O f hf) W.2.1 ht
  · have h := F.size c (fun r hr => (hones r hr).2) v hv i
    refine Nat.le_trans h (Nat.pow_le_pow_right (by decide) (Nat.le_trans (Nat.mul_le_mul_left _ (Nat.pow_le_pow_right (by decide) F.count)) hc))
  · obtain ⟨i, hi, ei⟩ := List.getElem_of_mem hv
    have gi : (kernel rows w).getD i [] = v := by
      rw [getD_lt hi, ei]
    have hi2 : i < (ech (onesOf (ech rows w) w) w).length := hi
    have gi2 : (ech (onesOf (ech rows w) w) w).getD i [] = v := gi
    have vlen : v.length = w := F.len v hv
    have lead := F.lead i hi2
    rw [gi2] at lead
    -- what the small vector must be killed by
    let R : V4 → Prop := fun x => (∃ r, r ∈ rows ∧ x = toV r) ∨ (∃ j, j < (ech (onesOf (ech rows w) w) w).length ∧ j ≠ i ∧ x = unitV (qs.getD j 0)) ∨ ∃ m, w ≤ m ∧ m < 4 ∧ x = unitV m
    have qlt : ∀ j, j < (ech (onesOf (ech rows w) w) w).length → qs.getD j 0 < w := fun j hj => F.lt _ (F.getl hj)
    have hv0 : ¬ (toV v).isZero := fun z => by
      have q : ofV (toV v) (qs.getD i 0) = 0 := by
        have q4 := qlt i hi2
        match qs.getD i 0, q4 with
        | 0, _ => exact z.1
        | 1, _ => exact z.2.1
        | 2, _ => exact z.2.2.1
        | 3, _ => exact z.2.2.2
        | n + 4, h => omega
      rw [ofV_toV (by have := qlt i hi2; omega)] at q
      omega
    have kills : ∀ x, R x → x.dot (toV v) = 0 := fun x hx => by
      rcases hx with ⟨r, hr, rfl⟩ | ⟨j, hj, ne, rfl⟩ | ⟨m, h1, h2, rfl⟩
      · rw [← dot_toV (hw r hr) h4]
        have e : dot w r (ofV (toV v)) = dot w r (g v) := sm_congr fun k hk => by rw [ofV_toV (by omega)]
        rw [e, dot_swap]
        refine F.fwd (g r) (fun o ho => ?_) v hv
        obtain ⟨f, hf, rfl⟩ := (mem o).mp ho
        rw [dot_swap]
        refine E.bwd _ (fun t ht => ?_) r hr
        rw [dot_swap]
        exact E.one_dot (O f hf) W.2.1 ht
      · have q := qlt j hj
        rw [unitV_dot (by omega), ofV_toV (by omega)]
        have z := F.other i j hi2 hj (Ne.symm ne)
        rw [gi2] at z
        exact z
      · rw [unitV_dot h2, ofV_toV h2]
        exact g_ge (by omega)
    have le : ∀ x, R x → x.le M := fun x hx => by
      rcases hx with ⟨r, hr, rfl⟩ | ⟨j, hj, ne, rfl⟩ | ⟨m, h1, h2, rfl⟩
      · exact ⟨hR r hr 0, hR r hr 1, hR r hr 2, hR r hr 3⟩
      · exact (unitV_isE _).le hM
      · exact (unitV_isE _).le hM
    obtain ⟨u, u0, uk, ul⟩ := small hM le hv0 kills
    have urow : ∀ r ∈ rows, dot w r (ofV u) = 0 := fun r hr => by
      rw [dot_toV (hw r hr) h4]
      exact uk _ (.inl ⟨r, hr, rfl⟩)
    have uq : ∀ j, j < (ech (onesOf (ech rows w) w) w).length → j ≠ i → ofV u (qs.getD j 0) = 0 := fun j hj ne => by
      have q := qlt j hj
      rw [← unitV_dot (by omega)]
      exact uk _ (.inr (.inl ⟨j, hj, ne, rfl⟩))
    have uw : ∀ m, w ≤ m → m < 4 → ofV u m = 0 := fun m h1 h2 => by
      rw [← unitV_dot h2]
      exact uk _ (.inr (.inr ⟨m, h1, h2, rfl⟩))
    have ut := E.fwd (ofV u) urow
    have hdual : ∀ t : Nat → Int, (∀ r ∈ ech (onesOf (ech rows w) w) w, dot w r t = 0) → sm w (fun k => t k * ofV u k) = 0 := fun t ht => by
      have h1 := F.bwd t ht
      exact E.dual (by omega) W.2.1 O ut fun f hf => h1 _ ((mem _).mpr ⟨f, hf, rfl⟩)
    have hbF : ∀ r ∈ ech (onesOf (ech rows w) w) w, ∀ i, (g r i).natAbs ≤ 2 ^ (c * 2 ^ (ech (onesOf (ech rows w) w) w).length) := fun r hr i => by
      have := F.size c (fun r hr => (hones r hr).2) r hr i
      omega
    have hp := fun m (hm : m < w) => F.prop hbF hdual hi2 uq hm
    rw [gi2] at hp
    have hb0 : ofV u (qs.getD i 0) ≠ 0 := fun z => by
      refine u0 (ofV_zero fun m h4 => ?_)
      by_cases hm : m < w
      · have q := hp m hm
        rw [z, Int.mul_zero] at q
        rcases Int.mul_eq_zero.mp q with y | y
        · omega
        · exact y
      · exact uw m (by omega) h4
    have fin := unit_le (a := g v (qs.getD i 0)) (b := ofV u (qs.getD i 0)) (u := ofV u) (by omega) hb0 hp vlen (F.unit v hv)
    intro k
    by_cases hk : k < w
    · exact Nat.le_trans (fin k hk) (ofV_le ul k)
    · rw [g_ge (by omega)]
      exact Nat.zero_le _
end K63

/-! ## K63F -/
set_option maxHeartbeats 400000
set_option linter.all false
namespace K63
/-! ### lists by their entries -/
def tab (n : Nat) (f : Nat → Int) : List Int := (List.range n).map f
theorem tab_len (n : Nat) (f : Nat → Int) : (tab n f).length = n := by
  unfold tab
  rw [List.length_map, List.length_range]
theorem tab_get {n i : Nat} {f : Nat → Int} (h : i < n) : (tab n f)[i]? = some (f i) := by
  unfold tab
  rw [List.getElem?_map, List.getElem?_range h]
  rfl
theorem tab_g {n i : Nat} {f : Nat → Int} (h : i < n) : g (tab n f) i = f i := g_get (tab_get h)
theorem tab_ge {n i : Nat} {f : Nat → Int} (h : n ≤ i) : g (tab n f) i = 0 := g_ge (by rw [tab_len]; exact h)
theorem tab_succ (n : Nat) (f : Nat → Int) : tab (n + 1) f = tab n f ++ [f n] := by
  unfold tab
  rw [List.range_succ, List.map_append]
  rfl
theorem tab_ext {n : Nat} {f h : Nat → Int} (e : ∀ i, i < n → f i = h i) : tab n f = tab n h := by
  unfold tab
  exact List.map_congr_left fun i hi => e i (List.mem_range.mp hi)
theorem tab_eta (r : List Int) : tab r.length (g r) = r := g_ext (tab_len _ _) fun i hi => by
  rw [tab_len] at hi
  exact tab_g hi
theorem eq_tab {r : List Int} {n : Nat} {f : Nat → Int} (hl : r.length = n) (h : ∀ i, i < n → g r i = f i) : r = tab n f := g_ext (by rw [tab_len]; exact hl) fun i hi => by
  rw [h i (by omega), tab_g (by omega)]
/-! ### products -/
def mulIn (one other : List Int) (at_ : Nat) (f : List Int) (m : Nat) : List Int := (List.range m).foldl (fun f p => f.set (at_ + p) (g f (at_ + p) + g one at_ * g other p)) f
def mulOut (one other : List Int) (n : Nat) : List Int := (List.range n).foldl (fun f i => mulIn one other i f other.length) (List.replicate (one.length + other.length - 1) 0)
def mulL (one other : List Int) : List Int := mulOut one other one.length
theorem mulIn_succ (one other : List Int) (i : Nat) (f : List Int) (m : Nat) : mulIn one other i f (m + 1) = (mulIn one other i f m).set (i + m) (g (mulIn one other i f m) (i + m) + g one i * g other m) := by
  unfold mulIn
  rw [List.range_succ, List.foldl_append]
  rfl
theorem mulOut_succ (one other : List Int) (n : Nat) : mulOut one other (n + 1) = mulIn one other n (mulOut one other n) other.length := by
  unfold mulOut
  rw [List.range_succ, List.foldl_append]
  rfl
theorem mulIn_len (one other : List Int) (i : Nat) (f : List Int) : ∀ m, (mulIn one other i f m).length = f.length
  | 0 => rfl
  | m + 1 => by rw [mulIn_succ, List.length_set, mulIn_len one other i f m]
theorem mulOut_len (one other : List Int) : ∀ n, (mulOut one other n).length = one.length + other.length - 1
  | 0 => List.length_replicate
  | n + 1 => by rw [mulOut_succ, mulIn_len, mulOut_len one other n]
theorem mulL_len (one other : List Int) : (mulL one other).length = one.length + other.length - 1 := mulOut_len _ _ _
theorem sm_set {r : List Int} {k : Nat} {x : Int} {t : Nat → Int} {n : Nat} (hr : r.length = n) (hk : k < n) : sm n (fun i => g (r.set k x) i * t i) = sm n (fun i => g r i * t i) + (x - g r k) * t k := by
  have e : sm n (fun i => g (r.set k x) i * t i) - sm n (fun i => g r i * t i) = (x - g r k) * t k := by
    rw [← sm_sub, sm_single (k := k) hk fun i hi ne => ?_]
    · rw [g_set (by omega), if_pos rfl, Int.sub_mul]
    · rw [g_set (by omega), if_neg ne]
      omega
  omega
theorem mulIn_sm (one other : List Int) (i : Nat) (f : List Int) (t : Nat → Int) : ∀ m, i + m ≤ f.length → sm f.length (fun k => g (mulIn one other i f m) k * t k) = sm f.length (fun k => g f k * t k) + sm m (fun p => g one i * g other p * t (i + p))
  | 0, _ => (Int.add_zero _).symm
  | m + 1, h => by
    rw [mulIn_succ, sm_set (mulIn_len _ _ _ _ _) (by omega), mulIn_sm one other i f t m (by omega)]
    have e : g (mulIn one other i f m) (i + m) + g one i * g other m - g (mulIn one other i f m) (i + m) = g one i * g other m := by omega
    rw [e]
    exact Int.add_assoc _ _ _
theorem mulOut_sm (one other : List Int) (t : Nat → Int) (ho : 1 ≤ other.length) : ∀ n, n ≤ one.length → sm (one.length + other.length - 1) (fun k => g (mulOut one other n) k * t k) = sm n (fun i => sm other.length (fun p => g one i * g other p * t (i + p)))
  | 0, _ => sm_zero fun i _ => by
      show g (List.replicate _ 0) i * t i = 0
      rw [g_rep, Int.zero_mul]
  | n + 1, h => by
    have hl := mulOut_len one other n
    have e := mulIn_sm one other n (mulOut one other n) t other.length (by omega)
    rw [hl] at e
    rw [mulOut_succ, e, mulOut_sm one other t ho n (by omega)]
    rfl
theorem mulL_sm (one other : List Int) (t : Nat → Int) (ho : 1 ≤ other.length) : sm (mulL one other).length (fun k => g (mulL one other) k * t k) = sm one.length (fun i => sm other.length (fun p => g one i * g other p * t (i + p))) := by
  rw [mulL_len]
  exact mulOut_sm one other t ho one.length (Nat.le_refl _)
theorem mulIn_size (one other : List Int) (i : Nat) (f : List Int) {A B M : Nat} (ha : ∀ i, (g one i).natAbs ≤ A) (hb : ∀ i, (g other i).natAbs ≤ B) (hf : ∀ i, (g f i).natAbs ≤ M) : ∀ m, i + m ≤ f.length → ∀ k, (g (mulIn one other i f m) k).natAbs ≤ M + m * (A * B)
  | 0, _, k => Nat.le_trans (hf k) (Nat.le_add_right _ _)
  | m + 1, h, k => by
    have ih := mulIn_size one other i f ha hb hf m (by omega)
    rw [mulIn_succ, g_set (by rw [mulIn_len]; omega), Nat.succ_mul]
    split
    · have h1 := ih (i + m)
      have h2 : (g one i * g other m).natAbs ≤ A * B := by
        rw [Int.natAbs_mul]
        exact Nat.mul_le_mul (ha i) (hb m)
      omega
    · have := ih k
      omega
theorem mulOut_size (one other : List Int) {A B : Nat} (ha : ∀ i, (g one i).natAbs ≤ A) (hb : ∀ i, (g other i).natAbs ≤ B) (ho : 1 ≤ other.length) : ∀ n, n ≤ one.length → ∀ k, (g (mulOut one other n) k).natAbs ≤ n * (other.length * (A * B))
  | 0, _, k => by
      show (g (List.replicate _ 0) k).natAbs ≤ _
      rw [g_rep]
      exact Nat.zero_le _
  | n + 1, h, k => by
    rw [mulOut_succ, Nat.succ_mul]
    exact mulIn_size one other n _ ha hb (mulOut_size one other ha hb ho n (by omega)) _ (by rw [mulOut_len]; omega) k
theorem mulL_size {one other : List Int} {A B : Nat} (ha : ∀ i, (g one i).natAbs ≤ A) (hb : ∀ i, (g other i).natAbs ≤ B) (ho : 1 ≤ other.length) (k : Nat) : (g (mulL one other) k).natAbs ≤ one.length * (other.length * (A * B)) :=
  mulOut_size one other ha hb ho one.length (Nat.le_refl _) k

/-! ### derivatives, level entries -/
def fact : Nat → Int
  | 0 => 1
  | n + 1 => fact n * ((n : Int) + 1)
theorem fact_pos : ∀ n, 0 < fact n
  | 0 => by decide
  | n + 1 => Int.mul_pos (fact_pos n) (by omega)
def byX (f : List Int) : List Int := tab (f.length - 1) fun i => g f i * ((f.length : Int) - 1 - i)
def byY (f : List Int) : List Int := tab (f.length - 1) fun i => g f (i + 1) * ((i : Int) + 1)
def iter (h : List Int → List Int) : Nat → List Int → List Int
  | 0, f => f
  | n + 1, f => h (iter h n f)
def derL (f : List Int) (a b : Nat) : List Int := iter byY b (iter byX a f)
/-- a level entry -/
def lv (f : List Int) (i : Nat) : Int := fact i * fact (f.length - 1 - i) * g f i
def lev (f : List Int) : List Int := tab f.length (lv f)
theorem byX_lv {f : List Int} {i : Nat} (h : i + 1 < f.length) : lv (byX f) i = lv f i := by
  unfold lv byX
  rw [tab_len, tab_g (by omega)]
  obtain ⟨k, hk⟩ : ∃ k, f.length - 1 - i = k + 1 := ⟨f.length - 1 - i - 1, by omega⟩
  have e1 : f.length - 1 - 1 - i = k := by omega
  have e2 : (f.length : Int) - 1 - i = (k : Int) + 1 := by omega
  rw [hk, e1, e2]
  show _ = fact i * (fact k * ((k : Int) + 1)) * g f i
  grind
theorem byY_lv {f : List Int} {i : Nat} (h : i + 1 < f.length) : lv (byY f) i = lv f (i + 1) := by
  unfold lv byY
  rw [tab_len, tab_g (by omega)]
  have e1 : f.length - 1 - 1 - i = f.length - 1 - (i + 1) := by omega
  rw [e1]
  show _ = fact i * ((i : Int) + 1) * fact (f.length - 1 - (i + 1)) * g f (i + 1)
  grind
theorem byX_len (f : List Int) : (byX f).length = f.length - 1 := tab_len _ _
theorem byY_len (f : List Int) : (byY f).length = f.length - 1 := tab_len _ _
theorem iterX_len (f : List Int) : ∀ a, (iter byX a f).length = f.length - a
  | 0 => rfl
  | a + 1 => by
    show (byX (iter byX a f)).length = _
    rw [byX_len, iterX_len f a]
    omega
theorem iterY_len (f : List Int) : ∀ a, (iter byY a f).length = f.length - a
  | 0 => rfl
  | a + 1 => by
    show (byY (iter byY a f)).length = _
    rw [byY_len, iterY_len f a]
    omega
theorem derL_len (f : List Int) (a b : Nat) : (derL f a b).length = f.length - a - b := by
  unfold derL
  rw [iterY_len, iterX_len]
theorem iterX_lv (f : List Int) : ∀ a i, a + i < f.length → lv (iter byX a f) i = lv f i
  | 0, i, _ => rfl
  | a + 1, i, h => by
    show lv (byX (iter byX a f)) i = lv f i
    rw [byX_lv (by rw [iterX_len]; omega)]
    exact iterX_lv f a i (by omega)
theorem iterY_lv (f : List Int) : ∀ b i, b + i < f.length → lv (iter byY b f) i = lv f (i + b)
  | 0, i, _ => rfl
  | b + 1, i, h => by
    show lv (byY (iter byY b f)) i = lv f (i + (b + 1))
    rw [byY_lv (by rw [iterY_len]; omega), iterY_lv f b (i + 1) (by omega)]
    congr 1
    omega
theorem derL_lv (f : List Int) {a b i : Nat} (h : a + b + i < f.length) : lv (derL f a b) i = lv f (i + b) := by
  unfold derL
  rw [iterY_lv _ b i (by rw [iterX_len]; omega), iterX_lv f a (i + b) (by omega)]

/-! ### acting -/
/-- what comes of f if the form a acts on it -/
def actN (a f : List Int) (n : Nat) : List Int := tab (f.length - (a.length - 1)) fun j => sm n fun i => g a i * g (derL f (a.length - 1 - i) i) j
def actL (a f : List Int) : List Int := actN a f a.length
theorem actL_len (a f : List Int) : (actL a f).length = f.length - (a.length - 1) := tab_len _ _
theorem actL_lv {a f : List Int} (ha : 1 ≤ a.length) {j : Nat} (hj : j + a.length ≤ f.length) : lv (actL a f) j = sm a.length fun i => g a i * lv f (i + j) := by
  have e : ∀ i, i < a.length → lv f (i + j) = fact j * fact (f.length - (a.length - 1) - 1 - j) * g (derL f (a.length - 1 - i) i) j := fun i hi => by
    have h := derL_lv f (a := a.length - 1 - i) (b := i) (i := j) (by omega)
    rw [Nat.add_comm i j, ← h]
    unfold lv
    rw [derL_len]
    congr 3
    omega
  unfold lv
  rw [actL_len]
  unfold actL actN
  rw [tab_g (by omega), ← sm_mul]
  refine sm_congr fun i hi => ?_
  have h := e i hi
  unfold lv at h
  rw [h]
  grind
theorem lv_zero {f : List Int} {i : Nat} : lv f i = 0 ↔ g f i = 0 := by
  have h1 := fact_pos i
  have h2 := fact_pos (f.length - 1 - i)
  have h3 := Int.mul_pos h1 h2
  unfold lv
  constructor
  · intro h
    rcases Int.mul_eq_zero.mp h with z | z
    · omega
    · exact z
  · intro h
    rw [h, Int.mul_zero]
/-- a form kills exactly if the products are 0 -/
theorem act_zero {a f : List Int} (ha : 1 ≤ a.length) (h : a.length ≤ f.length) : (∀ x ∈ actL a f, x = 0) ↔ ∀ j, j + a.length ≤ f.length → (sm a.length fun i => g a i * lv f (i + j)) = 0 := by
  constructor
  · intro z j hj
    rw [← actL_lv ha hj]
    refine lv_zero.mpr (z _ (g_mem ?_))
    rw [actL_len]
    omega
  · intro z x hx
    obtain ⟨j, hj, e⟩ := List.getElem_of_mem hx
    have e2 : g (actL a f) j = x := g_get (by rw [List.getElem?_eq_getElem hj, e])
    rw [actL_len] at hj
    have q := z j (by omega)
    rw [← actL_lv ha (by omega)] at q
    rw [← e2]
    exact lv_zero.mp q
/-- acting goes step by step along products -/
theorem act_mul {a b f : List Int} (ha : 1 ≤ a.length) (hb : 1 ≤ b.length) (h : a.length + b.length - 1 ≤ f.length) : actL (mulL a b) f = actL a (actL b f) := by
  have lm := mulL_len a b
  have l1 := actL_len (mulL a b) f
  have l2 := actL_len b f
  have l3 := actL_len a (actL b f)
  refine g_ext (by omega) fun j hj => ?_
  rw [l1] at hj
  have e : lv (actL (mulL a b) f) j = lv (actL a (actL b f)) j := by
    rw [actL_lv (by omega) (by omega), actL_lv ha (by omega), mulL_sm a b (fun k => lv f (k + j)) hb]
    refine sm_congr fun i hi => ?_
    rw [actL_lv hb (by omega), ← sm_mul]
    refine sm_congr fun p hp => ?_
    have e3 : i + p + j = p + (i + j) := by omega
    rw [e3]
    exact Int.mul_assoc _ _ _
  unfold lv at e
  rw [l1, l3, l2] at e
  have e4 : f.length - ((mulL a b).length - 1) - 1 - j = f.length - (b.length - 1) - (a.length - 1) - 1 - j := by omega
  rw [e4] at e
  have h1 := Int.mul_pos (fact_pos j) (fact_pos (f.length - (b.length - 1) - (a.length - 1) - 1 - j))
  exact Int.eq_of_mul_eq_mul_left (by omega) e
/-- a product with a killer kills -/
theorem act_prod {a b f : List Int} (ha : 1 ≤ a.length) (hb : 1 ≤ b.length) (h : a.length + b.length - 1 ≤ f.length) (z : ∀ j, j + a.length ≤ f.length → (sm a.length fun i => g a i * lv f (i + j)) = 0) : ∀ x ∈ actL (mulL a b) f, x = 0 := by
  have lm := mulL_len a b
  refine (act_zero (by omega) (by omega)).mpr fun j hj => ?_
  rw [mulL_sm a b (fun k => lv f (k + j)) hb, sm_swap (fun i p => g a i * g b p * lv f (i + p + j)) b.length a.length]
  refine sm_zero fun p hp => ?_
  have q := z (p + j) (by omega)
  have e : sm a.length (fun i => g a i * g b p * lv f (i + p + j)) = g b p * sm a.length (fun i => g a i * lv f (i + (p + j))) := by
    rw [← sm_mul]
    refine sm_congr fun i _ => ?_
    have e3 : i + p + j = i + (p + j) := by omega
    rw [e3]
    grind
  rw [e, q, Int.mul_zero]

/-! ### level rows -/
def rowAt (f : List Int) (d at_ : Nat) : List Int := tab (d + 1) fun k => lv f (at_ + k)
def levelRows (f : List Int) (d : Nat) : List (List Int) := (List.range (f.length - d)).map (rowAt f d)
theorem slice_row {f : List Int} {d i : Nat} (h : i + d < f.length) : ((lev f).drop i).take (d + 1) = rowAt f d i := by
  refine List.ext_getElem? fun k => ?_
  rw [List.getElem?_take]
  split
  · rename_i hk
    rw [List.getElem?_drop]
    unfold lev rowAt
    rw [tab_get (by omega), tab_get hk]
  · rename_i hk
    symm
    rw [List.getElem?_eq_none_iff]
    show (tab _ _).length ≤ k
    rw [tab_len]
    omega
/-- the products of a form's entries and of a row of the level table -/
theorem row_dot {a f : List Int} {d j : Nat} (ha : a.length = d + 1) : sm (d + 1) (fun i => g a i * g (rowAt f d j) i) = sm a.length fun i => g a i * lv f (i + j) := by
  rw [ha]
  refine sm_congr fun i hi => ?_
  unfold rowAt
  rw [tab_g hi, Nat.add_comm]
theorem fact_le {n : Nat} (i : Nat) (h : i ≤ n) (hn : n ≤ 7) : (fact i * fact (n - i)).natAbs ≤ 5040 := by
  match n, i, hn, h with
  | 0, 0, _, _ => decide
  | 1, 0, _, _ => decide
  | 1, 1, _, _ => decide
  | 2, 0, _, _ => decide
  | 2, 1, _, _ => decide
  | 2, 2, _, _ => decide
  | 3, 0, _, _ => decide
  | 3, 1, _, _ => decide
  | 3, 2, _, _ => decide
  | 3, 3, _, _ => decide
  | 4, 0, _, _ => decide
  | 4, 1, _, _ => decide
  | 4, 2, _, _ => decide
  | 4, 3, _, _ => decide
  | 4, 4, _, _ => decide
  | 5, 0, _, _ => decide
  | 5, 1, _, _ => decide
  | 5, 2, _, _ => decide
  | 5, 3, _, _ => decide
  | 5, 4, _, _ => decide
  | 5, 5, _, _ => decide
  | 6, 0, _, _ => decide
  | 6, 1, _, _ => decide
  | 6, 2, _, _ => decide
  | 6, 3, _, _ => decide
  | 6, 4, _, _ => decide
  | 6, 5, _, _ => decide
  | 6, 6, _, _ => decide
  | 7, 0, _, _ => decide
  | 7, 1, _, _ => decide
  | 7, 2, _, _ => decide
  | 7, 3, _, _ => decide
  | 7, 4, _, _ => decide
  | 7, 5, _, _ => decide
  | 7, 6, _, _ => decide
  | 7, 7, _, _ => decide
theorem lv_size {f : List Int} (hf : f.length ≤ 8) {M : Nat} (hM : ∀ i, (g f i).natAbs ≤ M) (i : Nat) : (lv f i).natAbs ≤ 5040 * M := by
  by_cases hi : i < f.length
  · unfold lv
    rw [Int.natAbs_mul]
    exact Nat.mul_le_mul (fact_le i (by omega) (by omega)) (hM i)
  · have z : lv f i = 0 := lv_zero.mpr (g_ge (by omega))
    rw [z]
    exact Nat.zero_le _
end K63

/-! ## K63M -/
set_option linter.all false
set_option maxRecDepth 100000
namespace K63
/-! ### sizes on the way of an elimination -/
theorem Inv.fl_len {rows left : List (List Int)} {w p : Nat} {fl : List (List Int × Nat)} (I : Inv rows w p left fl) : fl.length ≤ p := by
  have h := asc_len (fl.map (·.2)) 0 p (List.pairwise_map.mpr (I.pw.imp fun h => h.1)) fun l hl => by
    obtain ⟨q, hq, e⟩ := List.mem_map.mp hl
    have := I.lt q hq
    omega
  rw [List.length_map] at h
  exact h
theorem pow_lt {x e : Nat} (h : 2 * x ≤ 2 ^ e) (he : e ≤ 8998) : x < 2 ^ 9000 := by
  have h1 : 2 ^ e ≤ 2 ^ 8998 := Nat.pow_le_pow_right (by decide) he
  have h2 : (2 : Nat) ^ 8998 < 2 ^ 9000 := Nat.pow_lt_pow_right (by decide) (by decide)
  omega
theorem shared_lt {xs : List Int} {B : Nat} (h : ∀ i, (g xs i).natAbs < B) (hB : 0 < B) : (shared xs).natAbs < B := by
  by_cases z : shared xs = 0
  · rw [z]
    exact hB
  · obtain ⟨x, hx, hn⟩ : ∃ x ∈ xs, x ≠ 0 := Classical.byContradiction fun q => z (shared_eq_zero.mpr fun x hx => Classical.byContradiction fun hn => q ⟨x, hx, hn⟩)
    obtain ⟨i, hi, e⟩ := List.getElem_of_mem hx
    have h1 := h i
    have e2 : g xs i = x := g_get (by rw [List.getElem?_eq_getElem hi, e])
    rw [e2] at h1
    exact Nat.lt_of_le_of_lt (shared_le hx hn) h1
structure LessOk (w n : Nat) (row head : List Int) : Prop where
  len : row.length = w
  bits : ∀ i, (g row i).natAbs < 2 ^ 9000
  sh : (shared (comb (g head n / gcd2 (g head n) (g row n)) (g row n / gcd2 (g head n) (g row n)) row head)).natAbs < 2 ^ 9000
theorem comb_size {one other : Int} {row head : List Int} {M : Nat} (hl : row.length = head.length) (h1 : ∀ i, (g row i).natAbs ≤ M) (h2 : ∀ i, (g head i).natAbs ≤ M) (ho : one.natAbs ≤ M) (ho2 : other.natAbs ≤ M) (i : Nat) : (g (comb one other row head) i).natAbs ≤ 2 * (M * M) := by
  rw [comb_g hl]
  have a1 : (g row i * one).natAbs ≤ M * M := by
    rw [Int.natAbs_mul]
    exact Nat.mul_le_mul (h1 i) ho
  have a2 : (other * g head i).natAbs ≤ M * M := by
    rw [Int.natAbs_mul]
    exact Nat.mul_le_mul ho2 (h2 i)
  omega
section
variable {rows : List (List Int)} {w c m : Nat} (hw : ∀ r ∈ rows, r.length = w) (hc : ∀ r ∈ rows, ∀ i, 2 * (g r i).natAbs ≤ 2 ^ c) (hm : c * 2 ^ m ≤ 8998) (hmm : w ≤ m ∨ rows.length ≤ m)
include hw hc hm hmm
theorem less_ok {n : Nat} (hn : n < w) {h : Nat} {t : List Nat} (e : heads (run rows n).1 n = h :: t) :
    h < (run rows n).1.length ∧ ((run rows n).1.getD h []).length = w ∧ g ((run rows n).1.getD h []) n ≠ 0 ∧ (∀ i, (g ((run rows n).1.getD h []) i).natAbs < 2 ^ 9000) ∧
    ∀ row, (row ∈ (run rows n).1 ∨ row ∈ (run rows n).2) → LessOk w n row ((run rows n).1.getD h []) := by
  obtain ⟨fl, efl, I⟩ := inv_run hw n (Nat.le_of_lt hn)
  obtain ⟨h1, h2⟩ := heads_cons e
  have hmem := getD_mem h1
  have hj : fl.length + 1 ≤ m := by
    have := I.fl_len
    have := I.count
    omega
  have p1 : c * 2 ^ (fl.length + 1) ≤ 8998 := Nat.le_trans (Nat.mul_le_mul_left c (Nat.pow_le_pow_right (by decide) hj)) hm
  have p0 : c * 2 ^ fl.length ≤ 8998 := Nat.le_trans (Nat.mul_le_mul_left c (Nat.pow_le_pow_right (by decide) (Nat.le_succ _))) p1
  obtain ⟨s1, s2⟩ := I.size c hc
  have all : ∀ row, (row ∈ (run rows n).1 ∨ row ∈ (run rows n).2) → row.length = w ∧ ∀ i, 2 * (g row i).natAbs ≤ 2 ^ (c * 2 ^ fl.length) := fun row hr => by
    rcases hr with hr | hr
    · exact ⟨I.lenL row hr, s1 row hr⟩
    · rw [efl] at hr
      obtain ⟨q, hq, rfl⟩ := List.mem_map.mp hr
      exact ⟨I.lenF q hq, s2 q hq⟩
  obtain ⟨lh, sh⟩ := all _ (.inl hmem)
  refine ⟨h1, lh, h2, fun i => pow_lt (sh i) p0, fun row hr => ?_⟩
  obtain ⟨lr, sr⟩ := all row hr
  refine ⟨lr, fun i => pow_lt (sr i) p0, shared_lt (fun i => ?_) (Nat.pow_pos (by decide))⟩
  generalize hM : 2 ^ (c * 2 ^ fl.length) = T at sr sh
  have le : ∀ r : List Int, (∀ i, 2 * (g r i).natAbs ≤ T) → ∀ i, (g r i).natAbs ≤ T / 2 := fun r h i => by have := h i; omega
  have q1 : (g ((run rows n).1.getD h []) n / gcd2 (g ((run rows n).1.getD h []) n) (g row n)).natAbs ≤ T / 2 := by
    refine Nat.le_trans (ediv_natAbs_le (gcd2_left _ _) ?_) (le _ sh n)
    have := gcd2_nonneg (g ((run rows n).1.getD h []) n) (g row n)
    have : gcd2 (g ((run rows n).1.getD h []) n) (g row n) ≠ 0 := fun z => h2 (by have q := gcd2_left (g ((run rows n).1.getD h []) n) (g row n); rw [z] at q; exact Int.zero_dvd.mp q)
    omega
  have q2 : (g row n / gcd2 (g ((run rows n).1.getD h []) n) (g row n)).natAbs ≤ T / 2 := by
    refine Nat.le_trans (ediv_natAbs_le (gcd2_right _ _) ?_) (le _ sr n)
    have := gcd2_nonneg (g ((run rows n).1.getD h []) n) (g row n)
    have : gcd2 (g ((run rows n).1.getD h []) n) (g row n) ≠ 0 := fun z => h2 (by have q := gcd2_left (g ((run rows n).1.getD h []) n) (g row n); rw [z] at q; exact Int.zero_dvd.mp q)
    omega
  have q3 := comb_size (lr.trans lh.symm) (le _ sr) (le _ sh) q1 q2 i
  have q4 := size_step (T := T) (M := T / 2) (by omega)
  refine pow_lt (e := c * 2 ^ (fl.length + 1)) (Nat.le_trans (Nat.mul_le_mul_left 2 q3) ?_) p1
  rw [pow_step, hM]
  exact q4
theorem found_ok : ∀ r ∈ (run rows w).2, r.length = w ∧ (shared r).natAbs < 2 ^ 9000 := by
  obtain ⟨fl, efl, I⟩ := inv_run hw w (Nat.le_refl _)
  have hj : fl.length ≤ m := by
    have := I.fl_len
    have := I.count
    omega
  have p1 : c * 2 ^ fl.length ≤ 8998 := Nat.le_trans (Nat.mul_le_mul_left c (Nat.pow_le_pow_right (by decide) hj)) hm
  obtain ⟨s1, s2⟩ := I.size c hc
  intro r hr
  rw [efl] at hr
  obtain ⟨q, hq, rfl⟩ := List.mem_map.mp hr
  exact ⟨I.lenF q hq, shared_lt (fun i => pow_lt (s2 q hq i) p1) (Nat.pow_pos (by decide))⟩
omit hc hm hmm in
theorem left_len {n : Nat} (hn : n ≤ w) : ∀ r ∈ (run rows n).1, r.length = w := by
  obtain ⟨fl, efl, I⟩ := inv_run hw n hn
  exact I.lenL
omit hc hm hmm in
theorem found_len {n : Nat} (hn : n ≤ w) : ∀ r ∈ (run rows n).2, r.length = w := by
  obtain ⟨fl, efl, I⟩ := inv_run hw n hn
  intro r hr
  rw [efl] at hr
  obtain ⟨q, hq, rfl⟩ := List.mem_map.mp hr
  exact I.lenF q hq
omit hc hm hmm in
theorem run_count {n : Nat} (hn : n ≤ w) : (run rows n).1.length + (run rows n).2.length = rows.length := by
  obtain ⟨fl, efl, I⟩ := inv_run hw n hn
  rw [efl, List.length_map]
  exact I.count
end
theorem step_nil {st : List (List Int) × List (List Int)} {p : Nat} (e : heads st.1 p = []) : step st p = st := by
  unfold step
  rw [e]
theorem step_cons {st : List (List Int) × List (List Int)} {p h : Nat} {t : List Nat} (e : heads st.1 p = h :: t) : step st p = ((st.1.eraseIdx h).map fun r => lessHead r (st.1.getD h []) p, (st.2.map fun r => lessHead r (st.1.getD h []) p) ++ [st.1.getD h []]) := by
  unfold step
  rw [e]
theorem erase_getD {α : Type} {xs : List α} {h k : Nat} {d : α} : (xs.eraseIdx h).getD k d = if k < h then xs.getD k d else xs.getD (k + 1) d := by
  rw [List.getD_eq_getElem?_getD, List.getElem?_eraseIdx]
  split <;> rw [List.getD_eq_getElem?_getD]
end K63

/-! ## K63N -/
set_option linter.all false
set_option maxRecDepth 100000
namespace K63
/-! ### numbers on the way of a kernel -/
structure KerWay (rows : List (List Int)) (w : Nat) (told : List (List Int)) (prs : List (List Int × Nat)) : Prop where
  tlen : told.length ≤ w
  plen : prs.length = told.length
  fst : ∀ i, i < told.length → (prs.getD i ([], 0)).1 = told.getD i [] ∧ (prs.getD i ([], 0)).2 = leadOf (told.getD i [])
  len : ∀ r ∈ told, r.length = w
  bits : ∀ r ∈ told, ∀ i, (g r i).natAbs < 2 ^ 9000
  lead : ∀ i, i < told.length → leadOf (told.getD i []) < w ∧ 0 < g (told.getD i []) (leadOf (told.getD i []))
  whole : ∀ n, n ≤ prs.length → 0 < wholeOf (prs.take n) ∧ (wholeOf (prs.take n)).natAbs < 2 ^ 9000
  onesLen : (onesOf told w).length ≤ w
  ones : ∃ c m : Nat, (∀ r ∈ onesOf told w, ∀ i, 2 * (g r i).natAbs ≤ 2 ^ c) ∧ c * 2 ^ m ≤ 8998 ∧ (w ≤ m ∨ (onesOf told w).length ≤ m)
  onesW : ∀ r ∈ onesOf told w, r.length = w
theorem ker_way {rows : List (List Int)} {w : Nat} (hw : ∀ r ∈ rows, r.length = w) (h5 : w ≤ 5) (hb : ∀ r ∈ rows, ∀ i, 2 * (g r i).natAbs ≤ 2 ^ 54) : KerWay rows w (ech rows w) ((ech rows w).zip ((ech rows w).map leadOf)) := by
  obtain ⟨ls, E⟩ := ech_is hw
  have S := sizes hw h5 hb
  have hle := E.len_le
  have hs := S.told
  have e1 : (ech rows w).map leadOf = ls := E.leads
  have hk : 54 * 2 ^ (ech rows w).length ≤ 54 * 2 ^ 5 := Nat.mul_le_mul_left _ (Nat.pow_le_pow_right (by decide) (by omega))
  have hc : ∀ r ∈ ech rows w, ∀ i, (g r i).natAbs ≤ 2 ^ (54 * 2 ^ 5 - 1) := fun r hr i => by
    have h1 := hs r hr i
    have h2 : 2 ^ (54 * 2 ^ (ech rows w).length) ≤ 2 ^ (54 * 2 ^ 5 - 1 + 1) := Nat.pow_le_pow_right (by decide) (by omega)
    rw [Nat.pow_succ] at h2
    omega
  have b1 : (2 : Nat) ^ (54 * 2 ^ 5 - 1) < 2 ^ 9000 := Nat.pow_lt_pow_right (by decide) (by decide)
  have gm : ∀ i, i < (ech rows w).length → leadOf ((ech rows w).getD i []) = ls.getD i 0 := fun i hi => by
    rw [← e1, getD_map leadOf (a := []) hi]
  have zl : ((ech rows w).zip ls).length = (ech rows w).length := E.zlen
  have zf : ∀ i, i < (ech rows w).length → ((ech rows w).zip ls).getD i ([], 0) = ((ech rows w).getD i [], ls.getD i 0) := fun i hi => zip_getD E.lenLs hi
  have mem : ∀ q ∈ (ech rows w).zip ls, ∃ i, i < (ech rows w).length ∧ q = ((ech rows w).getD i [], ls.getD i 0) := fun q hq => by
    obtain ⟨i, hi, e⟩ := List.getElem_of_mem hq
    rw [zl] at hi
    refine ⟨i, hi, ?_⟩
    rw [← zf i hi, getD_lt (by omega), e]
  obtain ⟨c, hcm, hones⟩ := S.ones
  have hlen : (onesOf (ech rows w) w).length = (freesOf ls w).length := by
    unfold onesOf
    rw [List.length_map, E.leads]
  have hfr := E.frees
  rw [e1]
  refine ⟨hle, zl, fun i hi => ?_, E.len, fun r hr i => Nat.lt_of_le_of_lt (hc r hr i) b1, fun i hi => ?_, fun n hn => ?_, by omega, ⟨c, _, fun r hr => (hones r hr).2, hcm, .inr (Nat.le_refl _)⟩, fun r hr => (hones r hr).1⟩
  · rw [zf i hi, gm i hi]
    exact ⟨rfl, rfl⟩
  · rw [gm i hi]
    exact ⟨E.lt _ (E.getl hi), (E.lead i hi).1⟩
  · have W := whole_take (prs := (ech rows w).zip ls) (c := 54 * 2 ^ 5 - 1) (fun q hq => by
      obtain ⟨i, hi, rfl⟩ := mem q hq
      exact (E.lead i hi).1) (fun q hq => by
      obtain ⟨i, hi, rfl⟩ := mem q hq
      exact hc _ (E.getr hi) _) n hn
    refine ⟨W.1, Nat.lt_of_le_of_lt W.2.2 (Nat.pow_lt_pow_right (by decide) ?_)⟩
    have : (54 * 2 ^ 5 - 1) * n ≤ (54 * 2 ^ 5 - 1) * 5 := Nat.mul_le_mul_left _ (by omega)
    have h2 : (54 * 2 ^ 5 - 1) * 5 < 9000 := by decide
    omega
/-- the fold of a whole, of a row, by one more -/
theorem whole_succ {prs : List (List Int × Nat)} {n : Nat} (h : n < prs.length) : wholeOf (prs.take (n + 1)) = wholeOf (prs.take n) * (g (prs.getD n ([], 0)).1 (prs.getD n ([], 0)).2 / gcd2 (wholeOf (prs.take n)) (g (prs.getD n ([], 0)).1 (prs.getD n ([], 0)).2)) := by
  rw [take_succ_getD ([], 0) h]
  unfold wholeOf
  rw [List.foldl_append]
  rfl
theorem one_succ {prs : List (List Int × Nat)} {w n free : Nat} {whole : Int} (h : n < prs.length) : oneOf (prs.take (n + 1)) w whole free = (oneOf (prs.take n) w whole free).set (prs.getD n ([], 0)).2 (-(whole / g (prs.getD n ([], 0)).1 (prs.getD n ([], 0)).2) * g (prs.getD n ([], 0)).1 free) := by
  rw [take_succ_getD ([], 0) h]
  unfold oneOf
  rw [List.foldl_append]
  rfl
theorem one_len (prs : List (List Int × Nat)) (w : Nat) (whole : Int) (free : Nat) : (oneOf prs w whole free).length = w := by
  unfold oneOf
  have : ∀ (l : List (List Int × Nat)) (o : List Int), (l.foldl (fun one q => one.set q.2 (-(whole / g q.1 q.2) * g q.1 free)) o).length = o.length := by
    intro l
    induction l with
    | nil => exact fun _ => rfl
    | cons q l ih => exact fun o => by rw [List.foldl_cons, ih, List.length_set]
  rw [this, List.length_set, List.length_replicate]
end K63

/-! ## K63P -/
set_option linter.all false
namespace K63
/-! ### products of lines -/
def prodAll (ls : List (List Int)) : List Int := ls.foldl mulL [1]
def bd : Nat → Nat
  | 0 => 1
  | n + 1 => 6 * (n + 1) * bd n
theorem prodAll_succ (ls : List (List Int)) {n : Nat} (h : n < ls.length) : prodAll (ls.take (n + 1)) = mulL (prodAll (ls.take n)) (ls.getD n []) := by
  rw [take_succ_getD [] h]
  unfold prodAll
  rw [List.foldl_append]
  rfl
theorem prodAll_ok {ls : List (List Int)} (h : ∀ l ∈ ls, l.length = 2 ∧ ∀ i, (g l i).natAbs ≤ 3) : ∀ n, n ≤ ls.length → (prodAll (ls.take n)).length = n + 1 ∧ ∀ i, (g (prodAll (ls.take n)) i).natAbs ≤ bd n
  | 0, _ => ⟨rfl, fun i => by
    show (g [1] i).natAbs ≤ 1
    cases i with
    | zero => decide
    | succ i => rw [g_cons_succ, g_nil]; decide⟩
  | n + 1, hn => by
    obtain ⟨h1, h2⟩ := prodAll_ok h n (by omega)
    obtain ⟨h3, h4⟩ := h _ (show ls.getD n [] ∈ ls by rw [getD_lt (by omega)]; exact List.getElem_mem _)
    rw [prodAll_succ ls (by omega)]
    refine ⟨by rw [mulL_len, h1, h3]; omega, fun i => Nat.le_trans (mulL_size h2 h4 (by omega) i) ?_⟩
    rw [h1, h3]
    show (n + 1) * (2 * (bd n * 3)) ≤ 6 * (n + 1) * bd n
    rw [show 2 * (bd n * 3) = 6 * bd n by omega, ← Nat.mul_assoc, Nat.mul_comm (n + 1) 6]
    exact Nat.le_refl _
theorem bd_mono {n : Nat} (h : n ≤ 7) : bd n ≤ 1410877440 := by
  match n, h with
  | 0, _ => decide
  | 1, _ => decide
  | 2, _ => decide
  | 3, _ => decide
  | 4, _ => decide
  | 5, _ => decide
  | 6, _ => decide
  | 7, _ => decide
theorem sm_sum (f : Nat → Int) : ∀ n, ((List.range n).map f).sum = sm n f
  | 0 => rfl
  | n + 1 => by
    rw [List.range_succ, List.map_append, List.sum_append, sm_sum f n]
    show _ + ([f n]).sum = sm n f + f n
    rw [List.sum_cons, List.sum_nil, Int.add_zero]
theorem prim_size {xs : List Int} (i : Nat) : (g (prim xs) i).natAbs ≤ (g xs i).natAbs := by
  by_cases z : ∀ x ∈ xs, x = 0
  · unfold prim
    rw [if_pos (shared_eq_zero.mpr z)]
    exact Nat.le_refl _
  · obtain ⟨x, hx, hn⟩ : ∃ x ∈ xs, x ≠ 0 := Classical.byContradiction fun q => z fun x hx => Classical.byContradiction fun hn => q ⟨x, hx, hn⟩
    obtain ⟨k, hk, e⟩ := List.getElem_of_mem hx
    exact (pr (row := xs) (k := k) (by rw [g_get (show xs[k]? = some x by rw [List.getElem?_eq_getElem hk, e])]; exact hn)).size i
end K63

/-! ## K63W -/
set_option Elab.async false
set_option linter.all false
set_option maxRecDepth 100000
set_option maxHeartbeats 4000000
/-! What an expression comes to, what a statement leads to: over the layer's readings, with a heap that only grows but for one table (a def's generator expression) and, where they are drawn from, the dice. -/
namespace K6
open PySem PySem.Spec PyProof.Rows L2

/-! ### heaps that grow -/
def NT (o : HO) : Prop := ∀ ps, o ≠ .tbl ps
theorem nt_lst {xs : List V} : NT (.lst xs) := fun _ h => by cases h
theorem nt_tup {xs : List V} : NT (.tup xs) := fun _ h => by cases h
theorem nt_ins {C dx : Addr} {fs : List (Str × V)} : NT (.ins C dx fs) := fun _ h => by cases h
theorem nt_own {x : Addr} : NT (.own x) := fun _ h => by cases h
theorem nt_xd {fs : List (Str × V)} : NT (.xd fs) := fun _ h => by cases h
theorem nt_ext {φ : Heap → Prop} : NT (.ext φ) := fun _ h => by cases h
theorem nt_frz {o : Obj} {u : HO} : NT (.frz o u) := fun _ h => by cases h
/-- the dice: three numbers in a list -/
def Dice (H : Hp) (d : Addr) : Prop := ∃ a b c : Int, H d = some (.lst [.int a, .int b, .int c])
theorem Dice.some {H : Hp} {d : Addr} (h : Dice H d) : ∃ o, H d = some o := let ⟨_, _, _, e⟩ := h; ⟨_, e⟩
structure Le (P : Addr) (Z : Option Addr) (H H' : Hp) : Prop where
  keep : ∀ a o, Z ≠ some a → NT o → H a = some o → H' a = some o
  dom : ∀ a, H' a = none → H a = none
  tab : GxR.TabG H P → GxR.TabG H' P
  dice : ∀ d, Z = some d → Dice H d ∧ Dice H' d
section
variable {P : Addr} {Z : Option Addr} {H H' H1 H2 : Hp} {p : Addr} {o : HO}
theorem Le.refl0 (H : Hp) : Le P none H H := ⟨fun _ _ _ _ h => h, fun _ h => h, fun h => h, fun _ e => by cases e⟩
theorem Le.reflD {d : Addr} (h : Dice H d) : Le P (some d) H H := ⟨fun _ _ _ _ h => h, fun _ h => h, fun h => h, fun e q => by cases q; exact ⟨h, h⟩⟩
theorem Le.right (l : Le P Z H H1) : Le P Z H1 H1 := ⟨fun _ _ _ _ h => h, fun _ h => h, fun h => h, fun d e => ⟨(l.dice d e).2, (l.dice d e).2⟩⟩
theorem Le.left (l : Le P Z H H1) : Le P Z H H := ⟨fun _ _ _ _ h => h, fun _ h => h, fun h => h, fun d e => ⟨(l.dice d e).1, (l.dice d e).1⟩⟩
theorem Le.trans (a : Le P Z H H1) (b : Le P Z H1 H2) : Le P Z H H2 :=
  ⟨fun x o z n h => b.keep x o z n (a.keep x o z n h), fun x h => a.dom x (b.dom x h), fun h => b.tab (a.tab h), fun d e => ⟨(a.dice d e).1, (b.dice d e).2⟩⟩
theorem Le.mut (l : Le P Z H H') (h : H p = none) : Le P Z H (upd H' p o) := by
  refine ⟨fun a u z n e => ?_, fun a e => ?_, fun t => ?_, fun d e => ⟨(l.dice d e).1, ?_⟩⟩
  · rw [upd_ne (ne_of_none e h)]
    exact l.keep a u z n e
  · by_cases q : a = p
    · rw [q]
      exact h
    · rw [upd_ne q] at e
      exact l.dom a e
  · obtain ⟨ps, e, k⟩ := id t
    obtain ⟨ps2, e2, k2⟩ := l.tab t
    exact ⟨ps2, by rw [upd_ne (ne_of_none e h)]; exact e2, k2⟩
  · obtain ⟨u, e1⟩ := (l.dice d e).1.some
    obtain ⟨x, y, z, e2⟩ := (l.dice d e).2
    exact ⟨x, y, z, by rw [upd_ne (ne_of_none e1 h)]; exact e2⟩
theorem Le.new (l : Le P Z H H') (h : H' p = none) : Le P Z H (upd H' p o) := l.trans (l.right.mut h)
theorem Le.weak (l : Le P none H H') (d : ∀ a, Z = some a → Dice H a) : Le P Z H H' :=
  ⟨fun a o _ n e => l.keep a o (fun q => by cases q) n e, l.dom, l.tab, fun a e => ⟨d a e, by
    obtain ⟨x, y, z, q⟩ := d a e
    exact ⟨x, y, z, l.keep a _ (fun q => by cases q) nt_lst q⟩⟩⟩
end

/-! ### what a value stands for -/
abbrev Rp : Type := V → Hp → Prop
class Mono (P : Addr) (Z : Option Addr) (R : Rp) : Prop where
  up : ∀ v H H', Le P Z H H' → R v H → R v H'
/-- just this value -/
def is (x : V) : Rp := fun v _ => v = x
/-- a tuple, a list of just these values -/
def TV (xs : List V) : Rp := fun v H => ∃ a, v = .ref a ∧ H a = some (.tup xs)
def LV (Z : Option Addr) (xs : List V) : Rp := fun v H => ∃ a, v = .ref a ∧ Z ≠ some a ∧ H a = some (.lst xs)
/-- .. of integers -/
abbrev IT (xs : List Int) : Rp := TV (xs.map V.int)
abbrev IL (Z : Option Addr) (xs : List Int) : Rp := LV Z (xs.map V.int)
/-- .. of n things, the i-th as told -/
def LG (Z : Option Addr) (n : Nat) (R : Nat → Rp) : Rp := fun v H => ∃ a vs, v = .ref a ∧ Z ≠ some a ∧ H a = some (.lst vs) ∧ vs.length = n ∧ ∀ i x, vs[i]? = some x → R i x H
def TG (n : Nat) (R : Nat → Rp) : Rp := fun v H => ∃ a vs, v = .ref a ∧ H a = some (.tup vs) ∧ vs.length = n ∧ ∀ i x, vs[i]? = some x → R i x H
section
variable {P : Addr} {Z : Option Addr}
instance mono_is {x : V} : Mono P Z (is x) := ⟨fun _ _ _ _ h => h⟩
theorem tup_up {H H' : Hp} {a : Addr} {xs : List V} (l : Le P Z H H') (h : H a = some (.tup xs)) : H' a = some (.tup xs) := by
  refine l.keep a _ (fun q => ?_) nt_tup h
  obtain ⟨x, y, z, e⟩ := (l.dice a q).1
  rw [h] at e
  cases e
instance mono_tv {xs : List V} : Mono P Z (TV xs) := ⟨fun _ _ _ l ⟨a, e, h⟩ => ⟨a, e, tup_up l h⟩⟩
instance mono_lv {xs : List V} : Mono P Z (LV Z xs) := ⟨fun _ _ _ l ⟨a, e, z, h⟩ => ⟨a, e, z, l.keep a _ z nt_lst h⟩⟩
instance mono_lg {n : Nat} {R : Nat → Rp} [m : ∀ i, Mono P Z (R i)] : Mono P Z (LG Z n R) :=
  ⟨fun _ _ _ l ⟨a, vs, e, z, h, hl, hr⟩ => ⟨a, vs, e, z, l.keep a _ z nt_lst h, hl, fun i x hx => (m i).up _ _ _ l (hr i x hx)⟩⟩
instance mono_tg {n : Nat} {R : Nat → Rp} [m : ∀ i, Mono P Z (R i)] : Mono P Z (TG n R) :=
  ⟨fun _ _ _ l ⟨a, vs, e, h, hl, hr⟩ => ⟨a, vs, e, tup_up l h, hl, fun i x hx => (m i).up _ _ _ l (hr i x hx)⟩⟩
instance mono_and {R S : Rp} [r : Mono P Z R] [s : Mono P Z S] : Mono P Z (fun v H => R v H ∧ S v H) := ⟨fun v H H' l h => ⟨r.up v H H' l h.1, s.up v H H' l h.2⟩⟩
end
theorem ti_of {xs : List Int} {v : V} {H : Hp} (h : TG xs.length (fun i => is (.int (xs.getD i 0))) v H) : IT xs v H := by
  obtain ⟨a, vs, e, h, hl, hr⟩ := h
  refine ⟨a, e, ?_⟩
  rw [h]
  congr 2
  refine List.ext_getElem? fun i => ?_
  by_cases hi : i < vs.length
  · have q := hr i _ (List.getElem?_eq_getElem hi)
    rw [List.getElem?_map, List.getElem?_eq_getElem hi, List.getElem?_eq_getElem (show i < xs.length by omega)]
    have q2 : vs[i] = V.int (xs.getD i 0) := q
    rw [q2, List.getD_eq_getElem?_getD, List.getElem?_eq_getElem (show i < xs.length by omega)]
    rfl
  · rw [List.getElem?_eq_none_iff.mpr (by omega), List.getElem?_eq_none_iff.mpr (by rw [List.length_map]; omega)]

/-! ### what a reading comes to -/
def Ev (P : Addr) (Z : Option Addr) (t : TE) (σ : L2.St) (H : Hp) (R : Rp) : Prop := ∀ H1, Le P Z H H1 → ∀ Q : VK, (∀ v H2, Le P Z H1 H2 → R v H2 → Q v H2) → t σ H1 Q
def Et (P : Addr) (Z : Option Addr) (t : TT) (σ : L2.St) (H : Hp) (b : Bool) : Prop := ∀ H1, Le P Z H H1 → ∀ Q : Bool → Hp → Prop, (∀ H2, Le P Z H1 H2 → Q b H2) → t σ H1 Q
def Ea (P : Addr) (Z : Option Addr) (t : TA) (σ : L2.St) (H : Hp) (R : List V → Hp → Prop) : Prop := ∀ H1, Le P Z H H1 → ∀ Q : List V → Hp → Prop, (∀ vs H2, Le P Z H1 H2 → R vs H2 → Q vs H2) → t σ H1 Q
def Eo (P : Addr) (Z : Option Addr) (t : TO) (σ : L2.St) (H : Hp) (o : Option Int) : Prop := ∀ H1, Le P Z H H1 → ∀ Q : Option Int → Hp → Prop, (∀ H2, Le P Z H1 H2 → Q o H2) → t σ H1 Q
/-- the widest readings of an expression, a test, arguments, a block -/
def wE (X : Cx) (e : Expr) : TE := fun σ H Q => ∀ (pins : List (Addr × Obj)) (s : Shared), Inv X pins σ H s → wpAny (model X.prog X.w) X.A (eval e X.env) (EP X pins σ Q) X.xe s
def wT (X : Cx) (e : Expr) : TT := fun σ H Q => ∀ (pins : List (Addr × Obj)) (s : Shared), Inv X pins σ H s → wpAny (model X.prog X.w) X.A (isTrue e X.env (eval e X.env)) (TP X pins σ Q) X.xe s
def wW (X : Cx) (e : Expr) : TT := fun σ H Q => ∀ (whole : Sem Value) (pins : List (Addr × Obj)) (s : Shared), Inv X pins σ H s → wpAny (model X.prog X.w) X.A (isTrue e X.env whole) (TP X pins σ Q) X.xe s
def wA (X : Cx) (es : List Expr) : TA := fun σ H Q => ∀ (pos : Pos) (pins : List (Addr × Obj)) (s : Shared), Inv X pins σ H s → wpAny (model X.prog X.w) X.A (spliced (backTo pos (starEach es X.env))) (AP X pins σ Q) X.xe s
def wS (X : Cx) (st : Stmt) : TS := fun D σ H => ∀ (pins : List (Addr × Obj)) (s : Shared), Inv X pins σ H s → wpAny (model X.prog X.w) X.A (exec st X.env) (SP X pins D) X.xe s
def wB (X : Cx) (st : List Stmt) : TS := fun D σ H => ∀ (pins : List (Addr × Obj)) (s : Shared), Inv X pins σ H s → wpAny (model X.prog X.w) X.A (execs st X.env) (SP X pins D) X.xe s
section
variable {X : Cx} {e : Expr} {es : List Expr} {st : Stmt} {sts : List Stmt}
theorem pe_w : PE X e (wE X e) := ⟨fun pins s _ _ _ I h => h pins s I⟩
theorem pt_w : PT X e (wT X e) := ⟨fun pins s _ _ _ I h => h pins s I⟩
theorem pw_w : PW X e (wW X e) := ⟨fun whole pins s _ _ _ I h => h whole pins s I⟩
theorem pa_w : PA X es (wA X es) := ⟨fun pos pins s _ _ _ I h => h pos pins s I⟩
theorem ps_w : PS X st (wS X st) := ⟨fun pins s _ _ _ I h => h pins s I⟩
theorem pb_w : PSs X sts (wB X sts) := ⟨fun pins s _ _ _ I h => h pins s I⟩
end
/-- what an expression comes to; a test; arguments -/
abbrev EvE (X : Cx) (P : Addr) (Z : Option Addr) (e : Expr) (σ : L2.St) (H : Hp) (R : Rp) : Prop := Ev P Z (wE X e) σ H R
abbrev EvT (X : Cx) (P : Addr) (Z : Option Addr) (e : Expr) (σ : L2.St) (H : Hp) (b : Bool) : Prop := Et P Z (wT X e) σ H b
abbrev EvA (X : Cx) (P : Addr) (Z : Option Addr) (es : List Expr) (σ : L2.St) (H : Hp) (R : List V → Hp → Prop) : Prop := Ea P Z (wA X es) σ H R
section
variable {X : Cx} {P : Addr} {Z : Option Addr} {σ : L2.St} {H H' : Hp} {R Ra Rb Rc : Rp} {a b c e : Expr} {pos : Pos}
theorem ev_of {t : TE} (p : PE X e t) (h : Ev P Z t σ H R) : EvE X P Z e σ H R := fun H1 l Q q pins s I => p.run pins s σ H1 Q I (h H1 l Q q)
theorem et_of {t : TT} {b : Bool} (p : PT X e t) (h : Et P Z t σ H b) : EvT X P Z e σ H b := fun H1 l Q q pins s I => p.run pins s σ H1 Q I (h H1 l Q q)
theorem ea_of {es : List Expr} {t : TA} {R : List V → Hp → Prop} (p : PA X es t) (h : Ea P Z t σ H R) : EvA X P Z es σ H R := fun H1 l Q q pos pins s I => p.run pos pins s σ H1 Q I (h H1 l Q q)
theorem Ev.up {t : TE} (l : Le P Z H H') (h : Ev P Z t σ H R) : Ev P Z t σ H' R := fun H1 k Q q => h H1 (l.trans k) Q q
theorem Et.up {t : TT} {b : Bool} (l : Le P Z H H') (h : Et P Z t σ H b) : Et P Z t σ H' b := fun H1 k Q q => h H1 (l.trans k) Q q
theorem Ev.imp {t : TE} (h : Ev P Z t σ H R) (f : ∀ v H1, Le P Z H H1 → R v H1 → Ra v H1) : Ev P Z t σ H Ra := fun H1 k Q q => h H1 k Q fun v H2 l r => q v H2 l (f v H2 (k.trans l) r)
theorem Et.is {t : TT} {b c : Bool} (h : Et P Z t σ H b) (e : b = c) : Et P Z t σ H c := by rw [← e]; exact h
theorem Ev.eq {t : TE} {x y : V} (h : Ev P Z t σ H (is x)) (e : x = y) : Ev P Z t σ H (is y) := by rw [← e]; exact h

/-! names, constants -/
theorem ev_v {x : Str} {v : V} (i : Nat) (h : σ[i]? = some (some v)) [m : Mono P Z R] (r : R v H) (hN : X.N[i]? = some x := by rfl) (hv : Vis X.env.scope x := by first | exact Or.inl rfl | exact Or.inr (Or.inl rfl) | exact Or.inr (Or.inr rfl))
    (hd : (x == ("__debug__" : Str)) = false := by decide) (hcd : (x == ("__classdict__" : Str)) = false := by decide) : EvE X P Z (.Name x pos) σ H R :=
  ev_of (pe_var hN hv hd hcd) fun H1 l Q q => ⟨v, h, q v H1 l.right (m.up v H H1 l r)⟩
theorem ev_i {x : Str} {v : V} (i : Nat) (h : σ[i]? = some (some v)) (hN : X.N[i]? = some x := by rfl) (hv : Vis X.env.scope x := by first | exact Or.inl rfl | exact Or.inr (Or.inl rfl) | exact Or.inr (Or.inr rfl))
    (hd : (x == ("__debug__" : Str)) = false := by decide) (hcd : (x == ("__classdict__" : Str)) = false := by decide) : EvE X P Z (.Name x pos) σ H (is v) := ev_v (R := is v) i h rfl hN hv hd hcd
theorem ev_c {i : Int} {j : Nat} : EvE X P Z (.Constant (.int i) j pos) σ H (is (.int i)) := ev_of pe_int fun H1 l Q q => q _ H1 l.right rfl
theorem ev_b {i : Bool} {j : Nat} : EvE X P Z (.Constant (.bool i) j pos) σ H (is (.bl i)) := ev_of pe_bl fun H1 l Q q => q _ H1 l.right rfl
theorem ev_g {x : Str} {v : V} {u : Value} (hm : X.mg x = some u) (r : RelV v u) (hg : Gl X x := by rfl) (hd : (x == ("__debug__" : Str)) = false := by decide) : EvE X P Z (.Name x pos) σ H (is v) :=
  ev_of (pe_glob hg hm r hd) fun H1 l Q q => q _ H1 l.right rfl
/-- a built-in's name as a value -/
theorem ev_bltn {x : Str} {v : V} {u : Value} (hm : X.mg x = none) (hv : bootBuiltins x = some u) (r : RelV v u) (hg : Gl X x := by rfl) (hn : x ≠ "__name__" := by decide) (hd : (x == ("__debug__" : Str)) = false := by decide) : EvE X P Z (.Name x pos) σ H (is v) :=
  ev_of (pe_bltn hg hm hv r hn hd) fun H1 l Q q => q _ H1 l.right rfl

/-! operators -/
theorem ev_op2 {op : Operator} {r : R2} (ho : OpR X (binaryOp op) r) [m : Mono P Z Ra] (ha : EvE X P Z a σ H Ra) (hb : EvE X P Z b σ H Rb)
    (hr : ∀ x y H1, Le P Z H H1 → Ra x H1 → Rb y H1 → ∀ Q : VK, (∀ v H2, Le P Z H1 H2 → R v H2 → Q v H2) → r x y H1 Q) : EvE X P Z (.BinOp a op b pos) σ H R :=
  ev_of (pe_op ho pe_w pe_w) fun H1 l Q q => ha H1 l _ fun x H2 l2 hx => hb H2 (l.trans l2) _ fun y H3 l3 hy => hr x y H3 ((l.trans l2).trans l3) (m.up x H2 H3 l3 hx) hy Q fun v H4 l4 hv => q v H4 ((l2.trans l3).trans l4) hv
theorem ev_int {op : Operator} {g : Int → Int → V} {i j : Int} (ho : OpR X (binaryOp op) (rI0 g)) (ha : EvE X P Z a σ H (is (.int i))) (hb : EvE X P Z b σ H (is (.int j))) : EvE X P Z (.BinOp a op b pos) σ H (is (g i j)) :=
  ev_op2 ho ha hb fun x y H1 l hx hy Q q => ⟨i, j, hx, hy, q _ H1 l.right rfl⟩
theorem ev_intC {op : Operator} {C : Int → Int → Prop} {g : Int → Int → V} {i j : Int} (ho : OpR X (binaryOp op) (rI C g)) (ha : EvE X P Z a σ H (is (.int i))) (hb : EvE X P Z b σ H (is (.int j))) (hc : C i j) : EvE X P Z (.BinOp a op b pos) σ H (is (g i j)) :=
  ev_op2 ho ha hb fun x y H1 l hx hy Q q => ⟨i, j, hx, hy, hc, q _ H1 l.right rfl⟩
theorem ev_add {i j : Int} (ha : EvE X P Z a σ H (is (.int i))) (hb : EvE X P Z b σ H (is (.int j))) : EvE X P Z (.BinOp a .Add b pos) σ H (is (.int (i + j))) := ev_int op_add ha hb
theorem ev_sub {i j : Int} (ha : EvE X P Z a σ H (is (.int i))) (hb : EvE X P Z b σ H (is (.int j))) : EvE X P Z (.BinOp a .Sub b pos) σ H (is (.int (i - j))) := ev_int op_sub ha hb
theorem ev_mul {i j : Int} (ha : EvE X P Z a σ H (is (.int i))) (hb : EvE X P Z b σ H (is (.int j))) (hc : CMulW i j) : EvE X P Z (.BinOp a .Mult b pos) σ H (is (.int (i * j))) := ev_intC op_mulW ha hb hc
theorem ev_mulS {i j : Int} (ha : EvE X P Z a σ H (is (.int i))) (hb : EvE X P Z b σ H (is (.int j))) (hc : CMul i j) : EvE X P Z (.BinOp a .Mult b pos) σ H (is (.int (i * j))) := ev_intC op_mul ha hb hc
theorem ev_mod {i j : Int} (ha : EvE X P Z a σ H (is (.int i))) (hb : EvE X P Z b σ H (is (.int j))) (hc : 0 < j) : EvE X P Z (.BinOp a .Mod b pos) σ H (is (.int (i % j))) := ev_intC op_mod ha hb hc
theorem ev_div {i j : Int} (ha : EvE X P Z a σ H (is (.int i))) (hb : EvE X P Z b σ H (is (.int j))) (hc : CDivW i j) : EvE X P Z (.BinOp a .FloorDiv b pos) σ H (is (.int (i / j))) := ev_intC op_fdivW ha hb hc
/-- // by a divisor other than 0 below 2 ^ 9000 -/
def CDivZ (_ j : Int) : Prop := j ≠ 0 ∧ j.natAbs.log2 < 9000
theorem op_divZ : OpR X (binaryOp .FloorDiv) (rI CDivZ fun i j => .int (i.fdiv j)) := opI fun _ _ _ _ _ _ _ hc q => floordiv_int hc.1 q (.inl (PyProof.noPylong_of_log2 hc.2))
theorem ev_divZ {i j : Int} (ha : EvE X P Z a σ H (is (.int i))) (hb : EvE X P Z b σ H (is (.int j))) (hc : CDivZ i j) : EvE X P Z (.BinOp a .FloorDiv b pos) σ H (is (.int (i.fdiv j))) := ev_intC op_divZ ha hb hc
theorem ev_neg {i : Int} (ha : EvE X P Z a σ H (is (.int i))) : EvE X P Z (.UnaryOp .USub a pos) σ H (is (.int (-i))) :=
  ev_of (pe_un un_neg pe_w) fun H1 l Q q => ha H1 l _ fun x H2 l2 hx => ⟨i, hx, q _ H2 l2 rfl⟩
/-! comparisons, logic -/
theorem ev_cmp2 {op : CmpOp} {r : R2} (ho : OpR X (compareOp op) r) [m : Mono P Z Ra] (ha : EvE X P Z a σ H Ra) (hb : EvE X P Z b σ H Rb)
    (hr : ∀ x y H1, Le P Z H H1 → Ra x H1 → Rb y H1 → ∀ Q : VK, (∀ v H2, Le P Z H1 H2 → R v H2 → Q v H2) → r x y H1 Q) (hm : behindInMarks op b = false := by first | exact nomark _ | rfl) : EvE X P Z (.Compare a [op] [b] pos) σ H R :=
  ev_of (pe_cmpR ho pe_w pe_w hm) fun H1 l Q q => ha H1 l _ fun x H2 l2 hx => hb H2 (l.trans l2) _ fun y H3 l3 hy => hr x y H3 ((l.trans l2).trans l3) (m.up x H2 H3 l3 hx) hy Q fun v H4 l4 hv => q v H4 ((l2.trans l3).trans l4) hv
theorem ev_cmpI {op : CmpOp} {g : Int → Int → Bool} {i j : Int} (ho : OpR X (compareOp op) (rI0 fun i j => .bl (g i j))) (ha : EvE X P Z a σ H (is (.int i))) (hb : EvE X P Z b σ H (is (.int j)))
    (hm : behindInMarks op b = false := by first | exact nomark _ | rfl) : EvE X P Z (.Compare a [op] [b] pos) σ H (is (.bl (g i j))) := ev_cmp2 ho ha hb (fun x y H1 l hx hy Q q => ⟨i, j, hx, hy, q _ H1 l.right rfl⟩) hm
theorem ev_lt {i j : Int} (ha : EvE X P Z a σ H (is (.int i))) (hb : EvE X P Z b σ H (is (.int j))) : EvE X P Z (.Compare a [.Lt] [b] pos) σ H (is (.bl (decide (i < j)))) := ev_cmpI op_lt ha hb
theorem ev_le {i j : Int} (ha : EvE X P Z a σ H (is (.int i))) (hb : EvE X P Z b σ H (is (.int j))) : EvE X P Z (.Compare a [.LtE] [b] pos) σ H (is (.bl (decide (i ≤ j)))) := ev_cmpI op_le ha hb
theorem ev_gt {i j : Int} (ha : EvE X P Z a σ H (is (.int i))) (hb : EvE X P Z b σ H (is (.int j))) : EvE X P Z (.Compare a [.Gt] [b] pos) σ H (is (.bl (decide (j < i)))) := ev_cmpI op_gt ha hb
theorem ev_eqS {x y : V} (ha : EvE X P Z a σ H (is x)) (hb : EvE X P Z b σ H (is y)) (hs : scal x y = true) : EvE X P Z (.Compare a [.Eq] [b] pos) σ H (is (.bl (decide (x = y)))) :=
  ev_cmp2 op_eq ha hb fun u v H1 l hx hy Q q => by
    have hx' : u = x := hx
    have hy' : v = y := hy
    subst hx' hy'
    exact ⟨hs, q _ H1 l.right rfl⟩
theorem ev_neS {x y : V} (ha : EvE X P Z a σ H (is x)) (hb : EvE X P Z b σ H (is y)) (hs : scal x y = true) : EvE X P Z (.Compare a [.NotEq] [b] pos) σ H (is (.bl (!decide (x = y)))) :=
  ev_cmp2 op_ne ha hb fun u v H1 l hx hy Q q => by
    have hx' : u = x := hx
    have hy' : v = y := hy
    subst hx' hy'
    exact ⟨hs, q _ H1 l.right rfl⟩
theorem ev_eqI {i j : Int} (ha : EvE X P Z a σ H (is (.int i))) (hb : EvE X P Z b σ H (is (.int j))) : EvE X P Z (.Compare a [.Eq] [b] pos) σ H (is (.bl (i == j))) := (ev_eqS ha hb rfl).eq (by rw [dec_int])
theorem ev_neI {i j : Int} (ha : EvE X P Z a σ H (is (.int i))) (hb : EvE X P Z b σ H (is (.int j))) : EvE X P Z (.Compare a [.NotEq] [b] pos) σ H (is (.bl (i != j))) := (ev_neS ha hb rfl).eq (by rw [dec_int]; rfl)
theorem ev_eqB {i j : Bool} (ha : EvE X P Z a σ H (is (.bl i))) (hb : EvE X P Z b σ H (is (.bl j))) : EvE X P Z (.Compare a [.Eq] [b] pos) σ H (is (.bl (i == j))) := (ev_eqS ha hb rfl).eq (by rw [dec_bl])
theorem ev_isB {i j : Bool} (ha : EvE X P Z a σ H (is (.bl i))) (hb : EvE X P Z b σ H (is (.bl j))) : EvE X P Z (.Compare a [.Is] [b] pos) σ H (is (.bl (decide (i = j)))) :=
  ev_cmp2 op_isBl ha hb fun x y H1 l hx hy Q q => ⟨i, j, hx, hy, q _ H1 l.right rfl⟩
theorem ev_chain {op op' : CmpOp} {g g' : Int → Int → Bool} {i j k : Int} {pos : Pos} (ho : OpR X (compareOp op) (rI0 fun i j => .bl (g i j))) (ho' : OpR X (compareOp op') (rI0 fun i j => .bl (g' i j)))
    (ha : EvE X P Z a σ H (is (.int i))) (hb : EvE X P Z b σ H (is (.int j))) (hc : EvE X P Z c σ H (is (.int k))) (h : ∀ {ta tb tc : TE}, PE X a ta → PE X b tb → PE X c tc → PE X (.Compare a [op, op'] [b, c] pos) (tChain (rI0 fun i j => .bl (g i j)) (rI0 fun i j => .bl (g' i j)) ta tb tc)) :
    EvE X P Z (.Compare a [op, op'] [b, c] pos) σ H (is (.bl (g i j && g' j k))) :=
  ev_of (h pe_w pe_w pe_w) fun H1 l Q q => ha H1 l _ fun x H2 l2 hx => hb H2 (l.trans l2) _ fun y H3 l3 hy => ⟨i, j, hx, hy, g i j, rfl, by
    cases e : g i j with
    | false =>
      refine iteF ?_
      rw [e, Bool.false_and] at q
      exact q _ H3 (l2.trans l3) rfl
    | true =>
      refine iteT ?_
      rw [e, Bool.true_and] at q
      exact hc H3 ((l.trans l2).trans l3) _ fun z H4 l4 hz => ⟨j, k, hy, hz, q _ H4 ((l2.trans l3).trans l4) rfl⟩⟩
theorem ev_andB {x y : Bool} (ha : EvE X P Z a σ H (is (.bl x))) (hb : x = true → EvE X P Z b σ H (is (.bl y))) : EvE X P Z (.BoolOp .And [a, b] pos) σ H (is (.bl (x && y))) :=
  ev_of (pe_and pe_w (pe_one pe_w)) fun H1 l Q q => ha H1 l _ fun u H2 l2 hu => ⟨x, hu, by
    cases x with
    | false => exact iteF (q _ H2 l2 rfl)
    | true => exact iteT (hb rfl H2 (l.trans l2) Q fun v H3 l3 hv => q v H3 (l2.trans l3) hv)⟩
theorem ev_orB {x y : Bool} (ha : EvE X P Z a σ H (is (.bl x))) (hb : x = false → EvE X P Z b σ H (is (.bl y))) : EvE X P Z (.BoolOp .Or [a, b] pos) σ H (is (.bl (x || y))) :=
  ev_of (pe_or pe_w (pe_one pe_w)) fun H1 l Q q => ha H1 l _ fun u H2 l2 hu => ⟨x, hu, by
    cases x with
    | false => exact iteF (hb rfl H2 (l.trans l2) Q fun v H3 l3 hv => q v H3 (l2.trans l3) hv)
    | true => exact iteT (q _ H2 l2 rfl)⟩
theorem ev_notB {x : Bool} (ha : EvE X P Z a σ H (is (.bl x))) : EvE X P Z (.UnaryOp .Not a pos) σ H (is (.bl (!x))) :=
  ev_of (pe_not pe_w) fun H1 l Q q => ha H1 l _ fun u H2 l2 hu => ⟨x, hu, q _ H2 l2 rfl⟩
theorem ev_if {x : Bool} (hc : EvT X P Z c σ H x) (ha : x = true → EvE X P Z a σ H R) (hb : x = false → EvE X P Z b σ H R) : EvE X P Z (.IfExp c a b pos) σ H R :=
  ev_of (pe_ifExp pt_w pe_w pe_w) fun H1 l Q q => hc H1 l _ fun H2 l2 => by
    cases x with
    | false => exact iteF (hb rfl H2 (l.trans l2) Q fun v H3 l3 hv => q v H3 (l2.trans l3) hv)
    | true => exact iteT (ha rfl H2 (l.trans l2) Q fun v H3 l3 hv => q v H3 (l2.trans l3) hv)
/-! tests -/
theorem et_e {x : Bool} (h : EvE X P Z e σ H (is (.bl x))) (he : ∀ whole, isTrue e X.env whole = (do let v ← whole; standAt e.pos; holding [v] (truthy v)) := by intro _; rfl) : EvT X P Z e σ H x :=
  et_of (pt_val pe_w he) fun H1 l Q q => h H1 l _ fun u H2 l2 hu => ⟨x, hu, q H2 l2⟩
theorem et_not {x : Bool} (h : EvT X P Z a σ H x) : EvT X P Z (.UnaryOp .Not a pos) σ H (!x) := et_of (pt_not pt_w) fun H1 l Q q => h H1 l _ fun H2 l2 => q H2 l2
theorem et_and {x y : Bool} (ha : EvT X P Z a σ H x) (hb : x = true → EvT X P Z b σ H y) : EvT X P Z (.BoolOp .And [a, b] pos) σ H (x && y) :=
  et_of (PW.pt (pw_and pt_w (pw_and1 pt_w))) fun H1 l Q q => ha H1 l _ fun H2 l2 => by
    cases x with
    | false => exact iteF (q H2 l2)
    | true => exact iteT (hb rfl H2 (l.trans l2) Q fun H3 l3 => q H3 (l2.trans l3))
theorem et_or {x y : Bool} (ha : EvT X P Z a σ H x) (hb : x = false → EvT X P Z b σ H y) : EvT X P Z (.BoolOp .Or [a, b] pos) σ H (x || y) :=
  et_of (PW.pt (pw_or pt_w (pw_or1 pt_w))) fun H1 l Q q => ha H1 l _ fun H2 l2 => by
    cases x with
    | false => exact iteF (hb rfl H2 (l.trans l2) Q fun H3 l3 => q H3 (l2.trans l3))
    | true => exact iteT (q H2 l2)
/-! arguments, calls -/
theorem ea_nil : EvA X P Z [] σ H (fun vs _ => vs = []) := ea_of pa_nil fun H1 l Q q => q _ H1 l.right rfl
theorem ea_cons {es : List Expr} {Rs : List V → Hp → Prop} [m : Mono P Z R] (ha : EvE X P Z e σ H R) (hr : EvA X P Z es σ H Rs) (hs : starEach (e :: es) X.env = (false, eval e X.env) :: starEach es X.env := by rfl) :
    EvA X P Z (e :: es) σ H (fun vs H => ∃ v r, vs = v :: r ∧ R v H ∧ Rs r H) :=
  ea_of (pa_cons pe_w pa_w hs) fun H1 l Q q => ha H1 l _ fun x H2 l2 hx => hr H2 (l.trans l2) _ fun xs H3 l3 hxs => q _ H3 (l2.trans l3) ⟨x, xs, rfl, m.up x H2 H3 l3 hx, hxs⟩
end
end K6

/-! ## K63X -/
set_option Elab.async false
set_option linter.all false
set_option maxRecDepth 100000
set_option maxHeartbeats 4000000
namespace K6
open PySem PySem.Spec PyProof.Rows L2
theorem Le.znew {P : Addr} {Z : Option Addr} {H H' : Hp} {p : Addr} (l : Le P Z H H') (h : H' p = none) : Z ≠ some p := fun z => by
  obtain ⟨o, e⟩ := (l.dice p z).2.some
  rw [e] at h
  cases h
/-! ### calls -/
/-- a def of the text as it is called by its name -/
structure Fk (P : Program) (w : World) (K : PySem.W.Frag) (mg : Str → Option Value) (base : Heap) (x : Str) (k : Nat) (ps : List Str) (sp : Sp) : Prop where
  ex : ∃ (f : Addr) (fd : FuncData), FnOk P w K mg base CX0 k f fd ps sp ∧ mg x = some (.ref f) ∧ PySem.W.keepIn K (.ref f) = true ∧ Binds K fd ps []
section
variable {X : Cx} {P : Addr} {Z : Option Addr} {σ : L2.St} {H B : Hp} {R Ra Rb Rc : Rp} {a b c e : Expr} {es : List Expr} {pos p : Pos} {x : Str}
theorem ev_call {k : Nat} {ps : List Str} {sp : Sp} {Rs : List V → Hp → Prop} (F : Fk X.prog X.w X.K X.mg X.base x k ps sp) (hr : Room k X.A) (ha : EvA X P Z (e :: es) σ H Rs)
    (h : ∀ vs H1, Le P Z H H1 → Rs vs H1 → ∀ Q : VK, (∀ v H2, Le P Z H1 H2 → R v H2 → Q v H2) → sp vs H1 Q E0) (hg : Gl X x := by rfl)
    (he : starEach (e :: es) X.env = (false, eval e X.env) :: starEach es X.env := by rfl) (hpl : (backTo pos (starEach es X.env)).any (·.1) = false := by rfl) (hd : (x == ("__debug__" : Str)) = false := by decide) : EvE X P Z (.Call (.Name x p) (e :: es) [] pos) σ H R := by
  obtain ⟨f, fd, G, hm, kp, hb⟩ := F.ex
  refine ev_of (pe_call G hr hg hm kp hb .nil pass0 pa_w hd he hpl) fun H1 l Q q => ha H1 l _ fun vs H2 l2 hv => ?_
  show sp (vs ++ []) H2 Q E0
  rw [List.append_nil]
  exact h vs H2 (l.trans l2) hv Q fun v H3 l3 r => q v H3 (l2.trans l3) r
theorem ev_call1 {k : Nat} {ps : List Str} {sp : Sp} (F : Fk X.prog X.w X.K X.mg X.base x k ps sp) (hr : Room k X.A) [m : Mono P Z Ra] (ha : EvE X P Z a σ H Ra)
    (h : ∀ u H1, Le P Z H H1 → Ra u H1 → ∀ Q : VK, (∀ v H2, Le P Z H1 H2 → R v H2 → Q v H2) → sp [u] H1 Q E0) (hg : Gl X x := by rfl)
    (he : starEach [a] X.env = (false, eval a X.env) :: starEach [] X.env := by rfl) (hd : (x == ("__debug__" : Str)) = false := by decide) : EvE X P Z (.Call (.Name x p) [a] [] pos) σ H R :=
  ev_call F hr (ea_cons ha ea_nil he) (fun vs H1 l hv Q q => by
    obtain ⟨u, r, rfl, hu, hr⟩ := hv
    have e : r = [] := hr
    subst e
    exact h u H1 l hu Q q) hg he rfl hd
theorem ev_call2 {k : Nat} {ps : List Str} {sp : Sp} (F : Fk X.prog X.w X.K X.mg X.base x k ps sp) (hr : Room k X.A) [m : Mono P Z Ra] [m2 : Mono P Z Rb] (ha : EvE X P Z a σ H Ra) (hb : EvE X P Z b σ H Rb)
    (h : ∀ u v H1, Le P Z H H1 → Ra u H1 → Rb v H1 → ∀ Q : VK, (∀ v H2, Le P Z H1 H2 → R v H2 → Q v H2) → sp [u, v] H1 Q E0) (hg : Gl X x := by rfl)
    (he : starEach [a, b] X.env = (false, eval a X.env) :: starEach [b] X.env := by rfl) (he2 : starEach [b] X.env = (false, eval b X.env) :: starEach [] X.env := by rfl) (hpl : (backTo pos (starEach [b] X.env)).any (·.1) = false := by rfl) (hd : (x == ("__debug__" : Str)) = false := by decide) :
    EvE X P Z (.Call (.Name x p) [a, b] [] pos) σ H R :=
  ev_call F hr (ea_cons ha (ea_cons hb ea_nil he2) he) (fun vs H1 l hv Q q => by
    obtain ⟨u, r, rfl, hu, u2, r2, rfl, hu2, hr⟩ := hv
    have e : r2 = [] := hr
    subst e
    exact h u u2 H1 l hu hu2 Q q) hg he hpl hd
theorem ev_call3 {k : Nat} {ps : List Str} {sp : Sp} (F : Fk X.prog X.w X.K X.mg X.base x k ps sp) (hr : Room k X.A) [m : Mono P Z Ra] [m2 : Mono P Z Rb] [m3 : Mono P Z Rc] (ha : EvE X P Z a σ H Ra) (hb : EvE X P Z b σ H Rb) (hc : EvE X P Z c σ H Rc)
    (h : ∀ u v w H1, Le P Z H H1 → Ra u H1 → Rb v H1 → Rc w H1 → ∀ Q : VK, (∀ v H2, Le P Z H1 H2 → R v H2 → Q v H2) → sp [u, v, w] H1 Q E0) (hg : Gl X x := by rfl)
    (he : starEach [a, b, c] X.env = (false, eval a X.env) :: starEach [b, c] X.env := by rfl) (he2 : starEach [b, c] X.env = (false, eval b X.env) :: starEach [c] X.env := by rfl) (he3 : starEach [c] X.env = (false, eval c X.env) :: starEach [] X.env := by rfl)
    (hpl : (backTo pos (starEach [b, c] X.env)).any (·.1) = false := by rfl) (hd : (x == ("__debug__" : Str)) = false := by decide) :
    EvE X P Z (.Call (.Name x p) [a, b, c] [] pos) σ H R :=
  ev_call F hr (ea_cons ha (ea_cons hb (ea_cons hc ea_nil he3) he2) he) (fun vs H1 l hv Q q => by
    obtain ⟨u, r, rfl, hu, u2, r2, rfl, hu2, u3, r3, rfl, hu3, hr⟩ := hv
    have e : r3 = [] := hr
    subst e
    exact h u u2 u3 H1 l hu hu2 hu3 Q q) hg he hpl hd
/-- built-in functions and types -/
theorem ev_bf {id : String} {r : List V → Hp → VK → Prop} {Rs : List V → Hp → Prop} (hc : CallR X (.builtin id) r) (hm : X.mg x = none) (hv : bootBuiltins x = some (.builtin id)) (ha : EvA X P Z (e :: es) σ H Rs)
    (h : ∀ vs H1, Le P Z H H1 → Rs vs H1 → ∀ Q : VK, (∀ v H2, Le P Z H1 H2 → R v H2 → Q v H2) → r vs H1 Q) (hg : Gl X x := by rfl) (hn : x ≠ "__name__" := by decide) (hdb : (x == ("__debug__" : Str)) = false := by decide)
    (he : starEach (e :: es) X.env = (false, eval e X.env) :: starEach es X.env := by rfl) (hpl : (backTo pos (starEach es X.env)).any (·.1) = false := by rfl) : EvE X P Z (.Call (.Name x p) (e :: es) [] pos) σ H R :=
  ev_of (pe_callB hc hg hm hv pa_w hn hdb he hpl) fun H1 l Q q => ha H1 l _ fun vs H2 l2 hv => h vs H2 (l.trans l2) hv Q fun v H3 l3 r => q v H3 (l2.trans l3) r
theorem ev_bt {T : String} {r : List V → Hp → VK → Prop} {Rs : List V → Hp → Prop} (hc : CallR X (.type T) r) (hm : X.mg x = none) (hv : bootBuiltins x = some (.type T)) (ha : EvA X P Z (e :: es) σ H Rs)
    (h : ∀ vs H1, Le P Z H H1 → Rs vs H1 → ∀ Q : VK, (∀ v H2, Le P Z H1 H2 → R v H2 → Q v H2) → r vs H1 Q) (hg : Gl X x := by rfl) (hn : x ≠ "__name__" := by decide) (hdb : (x == ("__debug__" : Str)) = false := by decide)
    (he : starEach (e :: es) X.env = (false, eval e X.env) :: starEach es X.env := by rfl) (hpl : (backTo pos (starEach es X.env)).any (·.1) = false := by rfl) : EvE X P Z (.Call (.Name x p) (e :: es) [] pos) σ H R :=
  ev_of (pe_callTy hc hg hm hv pa_w hn hdb he hpl) fun H1 l Q q => ha H1 l _ fun vs H2 l2 hv => h vs H2 (l.trans l2) hv Q fun v H3 l3 r => q v H3 (l2.trans l3) r
theorem ev_bf1 {id : String} {r : List V → Hp → VK → Prop} [m : Mono P Z Ra] (hc : CallR X (.builtin id) r) (hm : X.mg x = none) (hv : bootBuiltins x = some (.builtin id)) (ha : EvE X P Z a σ H Ra)
    (h : ∀ u H1, Le P Z H H1 → Ra u H1 → ∀ Q : VK, (∀ v H2, Le P Z H1 H2 → R v H2 → Q v H2) → r [u] H1 Q) (hg : Gl X x := by rfl) (hn : x ≠ "__name__" := by decide) (hdb : (x == ("__debug__" : Str)) = false := by decide)
    (he : starEach [a] X.env = (false, eval a X.env) :: starEach [] X.env := by rfl) : EvE X P Z (.Call (.Name x p) [a] [] pos) σ H R :=
  ev_bf hc hm hv (ea_cons ha ea_nil he) (fun vs H1 l hv Q q => by
    obtain ⟨u, r, rfl, hu, hr⟩ := hv
    have e : r = [] := hr
    subst e
    exact h u H1 l hu Q q) hg hn hdb he rfl
theorem ev_bf2 {id : String} {r : List V → Hp → VK → Prop} [m : Mono P Z Ra] [m2 : Mono P Z Rb] (hc : CallR X (.builtin id) r) (hm : X.mg x = none) (hv : bootBuiltins x = some (.builtin id)) (ha : EvE X P Z a σ H Ra) (hb : EvE X P Z b σ H Rb)
    (h : ∀ u v H1, Le P Z H H1 → Ra u H1 → Rb v H1 → ∀ Q : VK, (∀ v H2, Le P Z H1 H2 → R v H2 → Q v H2) → r [u, v] H1 Q) (hg : Gl X x := by rfl) (hn : x ≠ "__name__" := by decide) (hdb : (x == ("__debug__" : Str)) = false := by decide)
    (he : starEach [a, b] X.env = (false, eval a X.env) :: starEach [b] X.env := by rfl) (he2 : starEach [b] X.env = (false, eval b X.env) :: starEach [] X.env := by rfl) (hpl : (backTo pos (starEach [b] X.env)).any (·.1) = false := by rfl) : EvE X P Z (.Call (.Name x p) [a, b] [] pos) σ H R :=
  ev_bf hc hm hv (ea_cons ha (ea_cons hb ea_nil he2) he) (fun vs H1 l hv Q q => by
    obtain ⟨u, r, rfl, hu, u2, r2, rfl, hu2, hr⟩ := hv
    have e : r2 = [] := hr
    subst e
    exact h u u2 H1 l hu hu2 Q q) hg hn hdb he hpl
theorem ev_bt1 {T : String} {r : List V → Hp → VK → Prop} [m : Mono P Z Ra] (hc : CallR X (.type T) r) (hm : X.mg x = none) (hv : bootBuiltins x = some (.type T)) (ha : EvE X P Z a σ H Ra)
    (h : ∀ u H1, Le P Z H H1 → Ra u H1 → ∀ Q : VK, (∀ v H2, Le P Z H1 H2 → R v H2 → Q v H2) → r [u] H1 Q) (hg : Gl X x := by rfl) (hn : x ≠ "__name__" := by decide) (hdb : (x == ("__debug__" : Str)) = false := by decide)
    (he : starEach [a] X.env = (false, eval a X.env) :: starEach [] X.env := by rfl) : EvE X P Z (.Call (.Name x p) [a] [] pos) σ H R :=
  ev_bt hc hm hv (ea_cons ha ea_nil he) (fun vs H1 l hv Q q => by
    obtain ⟨u, r, rfl, hu, hr⟩ := hv
    have e : r = [] := hr
    subst e
    exact h u H1 l hu Q q) hg hn hdb he rfl
/-! ### sequences -/
/-- a list or a tuple of just these values -/
def SV (xs : List V) (v : V) (H : Hp) : Prop := ∃ a, v = .ref a ∧ (H a = some (.lst xs) ∨ H a = some (.tup xs))
theorem sv_tv {xs : List V} {v : V} {H : Hp} (h : TV xs v H) : SV xs v H := let ⟨a, e, h⟩ := h; ⟨a, e, .inr h⟩
theorem sv_lv {xs : List V} {v : V} {H : Hp} (h : LV Z xs v H) : SV xs v H := let ⟨a, e, _, h⟩ := h; ⟨a, e, .inl h⟩
theorem SV.sq {K : PySem.W.Frag} {xs : List V} {v : V} {H : Hp} (h : SV xs v H) : ∃ a, v = .ref a ∧ (SqL K H a xs ∨ SqT K H a xs) := by
  obtain ⟨a, e, h | h⟩ := h
  · exact ⟨a, e, .inl (SqL.of h)⟩
  · exact ⟨a, e, .inr (SqT.of h)⟩
theorem ev_len {n : Nat} [m : Mono P Z Ra] (hm : X.mg "len" = none) (ha : EvE X P Z a σ H Ra) (hs : ∀ v H1, Ra v H1 → ∃ xs, SV xs v H1 ∧ xs.length = n) (hg : Gl X "len" := by rfl)
    (he : starEach [a] X.env = (false, eval a X.env) :: starEach [] X.env := by rfl) : EvE X P Z (.Call (.Name "len" p) [a] [] pos) σ H (is (.int (n : Int))) :=
  ev_bf1 call_len_seq hm PySem.boot_len ha (fun u H1 l hu Q q => by
    obtain ⟨xs, h, hn⟩ := hs u H1 hu
    obtain ⟨a, e, h⟩ := h.sq (K := X.K)
    exact ⟨a, xs, by rw [e], h, q _ H1 l.right (by rw [hn]; rfl)⟩) hg (by decide) (by decide) he
theorem ev_lenT {xs : List V} (hm : X.mg "len" = none) (ha : EvE X P Z a σ H (TV xs)) (hg : Gl X "len" := by rfl)
    (he : starEach [a] X.env = (false, eval a X.env) :: starEach [] X.env := by rfl) : EvE X P Z (.Call (.Name "len" p) [a] [] pos) σ H (is (.int (xs.length : Int))) := ev_len hm ha (fun v H1 h => ⟨xs, sv_tv h, rfl⟩) hg he
theorem ev_lenL {xs : List V} (hm : X.mg "len" = none) (ha : EvE X P Z a σ H (LV Z xs)) (hg : Gl X "len" := by rfl)
    (he : starEach [a] X.env = (false, eval a X.env) :: starEach [] X.env := by rfl) : EvE X P Z (.Call (.Name "len" p) [a] [] pos) σ H (is (.int (xs.length : Int))) := ev_len hm ha (fun v H1 h => ⟨xs, sv_lv h, rfl⟩) hg he
/-- len of a tuple of integers -/
theorem ev_lenI {ns : List Int} (hm : X.mg "len" = none) (ha : EvE X P Z a σ H (IT ns)) (hg : Gl X "len" := by rfl)
    (he : starEach [a] X.env = (false, eval a X.env) :: starEach [] X.env := by rfl) : EvE X P Z (.Call (.Name "len" p) [a] [] pos) σ H (is (.int (ns.length : Int))) := ev_len hm ha (fun v H1 h => ⟨_, sv_tv h, List.length_map ..⟩) hg he
theorem ev_tup {es : List Expr} {k : Nat} {Rs : List V → Hp → Prop} (ha : EvA X P Z es σ H Rs) (hs : ∀ vs H1, Rs vs H1 → vs.length ≤ 100000) :
    EvE X P Z (.Tuple es k pos) σ H (fun v H1 => ∃ a vs H0, v = .ref a ∧ H1 a = some (.tup vs) ∧ Le P Z H0 H1 ∧ Rs vs H0) :=
  ev_of (pe_tup pa_w) fun H1 l Q q => ha H1 l _ fun vs H2 l2 hv => ⟨Nat.le_trans (hs vs H2 hv) (by decide), fun p hp => q _ _ ((l2.right.mut hp) |> l2.trans) ⟨p, vs, H2, rfl, upd_same, l2.right.mut hp, hv⟩⟩
theorem ev_lst {es : List Expr} {Rs : List V → Hp → Prop} (ha : EvA X P Z es σ H Rs) (hs : ∀ vs H1, Rs vs H1 → vs.length ≤ 100000) :
    EvE X P Z (.List es pos) σ H (fun v H1 => ∃ a vs H0, v = .ref a ∧ Z ≠ some a ∧ H a = none ∧ H1 a = some (.lst vs) ∧ Le P Z H0 H1 ∧ Rs vs H0) :=
  ev_of (pe_lst pa_w) fun H1 l Q q => ha H1 l _ fun vs H2 l2 hv => ⟨Nat.le_trans (hs vs H2 hv) (by decide), fun p hp => q _ _ ((l2.right.mut hp) |> l2.trans) ⟨p, vs, H2, rfl, l2.znew hp, l.dom p (l2.dom p hp), upd_same, l2.right.mut hp, hv⟩⟩
/-- an item of a tuple, of a list -/
theorem ev_ixT {xs : List V} {j : Nat} {y : V} (ha : EvE X P Z a σ H (TV xs)) (hb : EvE X P Z b σ H (is (.int (j : Int)))) (hj : xs[j]? = some y) (hs : PlainIx b := by exact fun _ _ => rfl) : EvE X P Z (.Subscript a b pos) σ H (is y) :=
  ev_of (pe_ix ix_tup pe_w pe_w hs) fun H1 l Q q => ha H1 l _ fun u H2 l2 hu => hb H2 (l.trans l2) _ fun v H3 l3 hv => by
    obtain ⟨p, e, h⟩ := (mono_tv (P := P) (Z := Z)).up u H2 H3 l3 hu
    exact ⟨p, xs, (j : Int), y, e, hv, SqT.of h, atI_nat hj, q _ H3 (l2.trans l3) rfl⟩
theorem ev_ixL {xs : List V} {j : Nat} {y : V} (ha : EvE X P Z a σ H (LV Z xs)) (hb : EvE X P Z b σ H (is (.int (j : Int)))) (hj : xs[j]? = some y) (hs : PlainIx b := by exact fun _ _ => rfl) : EvE X P Z (.Subscript a b pos) σ H (is y) :=
  ev_of (pe_ix ix_list pe_w pe_w hs) fun H1 l Q q => ha H1 l _ fun u H2 l2 hu => hb H2 (l.trans l2) _ fun v H3 l3 hv => by
    obtain ⟨p, e, _, h⟩ := (mono_lv (P := P) (Z := Z)).up u H2 H3 l3 hu
    exact ⟨p, xs, (j : Int), y, e, hv, SqL.of h, atI_nat hj, q _ H3 (l2.trans l3) rfl⟩
/-- tuple(list), list(tuple), list(list) -/
theorem ev_tuple {xs : List V} (hm : X.mg "tuple" = none) (ha : EvE X P Z a σ H (LV Z xs)) (hg : Gl X "tuple" := by rfl) (he : starEach [a] X.env = (false, eval a X.env) :: starEach [] X.env := by rfl) : EvE X P Z (.Call (.Name "tuple" p) [a] [] pos) σ H (TV xs) :=
  ev_bt1 call_tuple_of hm (by decide +kernel) ha (fun u H1 l hu Q q => by
    obtain ⟨p, e, _, h⟩ := hu
    exact ⟨p, xs, by rw [e], .inl ⟨SqL.of h, fun t ht => q _ _ (l.right.mut ht) ⟨t, rfl, upd_same⟩⟩⟩) hg (by decide) (by decide) he
theorem ev_tupleG {n : Nat} {Rn : Nat → Rp} [m : ∀ i, Mono P Z (Rn i)] (hm : X.mg "tuple" = none) (ha : EvE X P Z a σ H (LG Z n Rn)) (hg : Gl X "tuple" := by rfl) (he : starEach [a] X.env = (false, eval a X.env) :: starEach [] X.env := by rfl) :
    EvE X P Z (.Call (.Name "tuple" p) [a] [] pos) σ H (TG n Rn) :=
  ev_bt1 call_tuple_of hm (by decide +kernel) ha (fun u H1 l hu Q q => by
    obtain ⟨p, vs, e, _, h, hl, hr⟩ := hu
    exact ⟨p, vs, by rw [e], .inl ⟨SqL.of h, fun t ht => q _ _ (l.right.mut ht) ⟨t, vs, rfl, upd_same, hl, fun i x hx => (m i).up _ _ _ (l.right.mut ht) (hr i x hx)⟩⟩⟩) hg (by decide) (by decide) he
theorem ev_list {xs : List V} [m : Mono P Z Ra] (hm : X.mg "list" = none) (ha : EvE X P Z a σ H Ra) (hs : ∀ v H1, Ra v H1 → SV xs v H1) (hg : Gl X "list" := by rfl) (he : starEach [a] X.env = (false, eval a X.env) :: starEach [] X.env := by rfl) :
    EvE X P Z (.Call (.Name "list" p) [a] [] pos) σ H (LV Z xs) :=
  ev_bt1 call_list_of hm (by decide +kernel) ha (fun u H1 l hu Q q => by
    obtain ⟨p, e, h⟩ := (hs u H1 hu).sq (K := X.K)
    refine ⟨p, xs, by rw [e], h, fun t ht => q _ _ (l.right.mut ht) ⟨t, rfl, fun z => ?_, upd_same⟩⟩
    obtain ⟨o, e⟩ := (l.dice t z).2.some
    rw [e] at ht
    cases ht) hg (by decide) (by decide) he
theorem ev_listG {n : Nat} {Rn : Nat → Rp} [m : ∀ i, Mono P Z (Rn i)] (hm : X.mg "list" = none) (ha : EvE X P Z a σ H (TG n Rn)) (hg : Gl X "list" := by rfl) (he : starEach [a] X.env = (false, eval a X.env) :: starEach [] X.env := by rfl) :
    EvE X P Z (.Call (.Name "list" p) [a] [] pos) σ H (LG Z n Rn) :=
  ev_bt1 call_list_of hm (by decide +kernel) ha (fun u H1 l hu Q q => by
    obtain ⟨p, vs, e, h, hl, hr⟩ := hu
    refine ⟨p, vs, by rw [e], .inr (SqT.of h), fun t ht => q _ _ (l.right.mut ht) ⟨t, vs, rfl, fun z => ?_, upd_same, hl, fun i x hx => (m i).up _ _ _ (l.right.mut ht) (hr i x hx)⟩⟩
    obtain ⟨o, e⟩ := (l.dice t z).2.some
    rw [e] at ht
    cases ht) hg (by decide) (by decide) he
/-- slices of a list and of a tuple -/
theorem eo_none : Eo P Z tNoPart σ H none := fun H1 l Q q => q H1 l.right
theorem eo_some {i : Int} (h : EvE X P Z e σ H (is (.int i))) : Eo P Z (tPart (wE X e)) σ H (some i) := fun H1 l Q q => h H1 l _ fun v H2 l2 hv => ⟨i, hv, q H2 l2⟩
theorem ev_sliceL {lo hi : Option Expr} {tl th : TO} {p2 : Pos} {ol oh : Option Int} {xs : List V} (pl : PO X lo tl) (ph : PO X hi th) (ha : EvE X P Z a σ H (LV Z xs)) (hl : Eo P Z tl σ H ol) (hh : Eo P Z th σ H oh) :
    EvE X P Z (.Subscript a (.Slice lo hi none p2) pos) σ H (LV Z (cutV xs ol oh)) :=
  ev_of (pe_slice sl_list pe_w pl ph) fun H1 l Q q => ha H1 l _ fun u H2 l2 hu => hl H2 (l.trans l2) _ fun H3 l3 => hh H3 ((l.trans l2).trans l3) _ fun H4 l4 => by
    obtain ⟨p, e, _, h⟩ := (mono_lv (P := P) (Z := Z)).up u H2 H4 (l3.trans l4) hu
    have l5 := (l2.trans l3).trans l4
    refine ⟨p, xs, e, SqL.of h, fun t ht => q _ _ (l5.trans (l4.right.mut ht)) ⟨t, rfl, fun z => ?_, upd_same⟩⟩
    obtain ⟨o, e⟩ := (l4.dice t z).2.some
    rw [e] at ht
    cases ht
theorem ev_sliceT {lo hi : Option Expr} {tl th : TO} {p2 : Pos} {ol oh : Option Int} {xs : List V} (pl : PO X lo tl) (ph : PO X hi th) (ha : EvE X P Z a σ H (TV xs)) (hl : Eo P Z tl σ H ol) (hh : Eo P Z th σ H oh)
    (hw : ¬ (HT.sIx xs.length 0 ol = 0 ∧ HT.sIx xs.length xs.length oh = xs.length)) :
    EvE X P Z (.Subscript a (.Slice lo hi none p2) pos) σ H (TV (cutV xs ol oh)) :=
  ev_of (pe_slice sl_tup pe_w pl ph) fun H1 l Q q => ha H1 l _ fun u H2 l2 hu => hl H2 (l.trans l2) _ fun H3 l3 => hh H3 ((l.trans l2).trans l3) _ fun H4 l4 => by
    obtain ⟨p, e, h⟩ := (mono_tv (P := P) (Z := Z)).up u H2 H4 (l3.trans l4) hu
    have l5 := (l2.trans l3).trans l4
    exact ⟨p, xs, e, SqT.of h, hw, fun t ht => q _ _ (l5.trans (l4.right.mut ht)) ⟨t, rfl, upd_same⟩⟩
end
/-! ### blocks -/
section
variable {X : Cx} {P : Addr} {Z : Option Addr} {σ : L2.St} {H B : Hp} {R : Rp} {e : Expr} {pos : Pos} {D : Ends} {rest : List Stmt}
theorem hb_nil (h : D.nx σ H) : wB X [] D σ H := fun pins s I => pss_nil.run pins s σ H D I h
theorem hb_cons {st : Stmt} {t : TS} (h1 : PS X st t) (h : t { D with nx := wB X rest D } σ H) : wB X (st :: rest) D σ H := fun pins s I => (pss_cons h1 pb_w).run pins s σ H D I h
theorem hb_set {x : Str} {px : Pos} (i : Nat) (l : Le P Z B H) (he : EvE X P Z e σ H R) (nd : X.N.Nodup) (k : ∀ v H1, Le P Z B H1 → Le P Z H H1 → R v H1 → wB X rest D (σ.set i (some v)) H1)
    (hi : X.N[i]? = some x := by rfl) (hx : Loc X.env.scope x := by first | exact Or.inl rfl | exact Or.inr rfl) (hs : swapsWith e (some (.Name x px)) pos.line X.env = pure false := by rfl) (hf : X.fn x = true ∨ X.env.scope.names.lookup x = some .local := by first | exact .inl rfl | exact .inr rfl) :
    wB X (.Assign [.Name x px] e pos :: rest) D σ H :=
  hb_cons (ps_set (i := i) nd hi hx pe_w hs hf) (he H l.right _ fun v H1 l1 hv => k v H1 (l.trans l1) l1 hv)
theorem hb_ret (l : Le P Z B H) (he : EvE X P Z e σ H R) (k : ∀ v H1, Le P Z B H1 → Le P Z H H1 → R v H1 → D.rt v H1) : wB X (.Return (some e) pos :: rest) D σ H :=
  hb_cons (ps_ret pe_w) (he H l.right _ fun v H1 l1 hv => k v H1 (l.trans l1) l1 hv)
theorem hb_if {c : Expr} {a b : List Stmt} {x : Bool} (l : Le P Z B H) (hc : EvT X P Z c σ H x) (ha : x = true → ∀ H1, Le P Z B H1 → Le P Z H H1 → wB X a { D with nx := wB X rest D } σ H1) (hb : x = false → ∀ H1, Le P Z B H1 → Le P Z H H1 → wB X b { D with nx := wB X rest D } σ H1) :
    wB X (.If c a b pos :: rest) D σ H :=
  hb_cons (ps_if pt_w pb_w pb_w) (hc H l.right _ fun H1 l1 => by
    cases x with
    | false => exact iteF (hb rfl H1 (l.trans l1) l1)
    | true => exact iteT (ha rfl H1 (l.trans l1) l1))
/-- an if whose body is not reached -/
theorem hb_ifn {c : Expr} {a : List Stmt} {x : Bool} (l : Le P Z B H) (hc : EvT X P Z c σ H x) (hx : x = false) (hb : ∀ H1, Le P Z B H1 → Le P Z H H1 → wB X rest D σ H1) : wB X (.If c a [] pos :: rest) D σ H :=
  hb_if l hc (fun h => by rw [hx] at h; cases h) fun _ H1 l1 l2 => hb_nil (hb H1 l1 l2)
theorem hb_expr (l : Le P Z B H) (he : EvE X P Z e σ H R) (k : ∀ v H1, Le P Z B H1 → Le P Z H H1 → R v H1 → wB X rest D σ H1) (hs : swapsWith e none pos.line X.env = pure false := by rfl) : wB X (.Expr e pos :: rest) D σ H :=
  hb_cons (ps_expr pe_w hs) (he H l.right _ fun v H1 l1 hv => k v H1 (l.trans l1) l1 hv)
/-- a, b = x, y -/
theorem hb_par {x y : Str} {a b : Expr} {px py pt : Pos} {kt k2 pt2} {Rs : List V → Hp → Prop} (i j : Nat) (l : Le P Z B H) (ha : EvA X P Z [a, b] σ H Rs) (nd : X.N.Nodup) (k : ∀ vs H1, Le P Z B H1 → Le P Z H H1 → Rs vs H1 → ∃ v w, vs = [v, w] ∧ wB X rest D ((σ.set i (some v)).set j (some w)) H1)
    (hc : X.calm = true := by rfl) (hi : X.N[i]? = some x := by rfl) (hj : X.N[j]? = some y := by rfl) (hij : i ≠ j := by decide)
    (hx : X.env.scope.names.lookup x = some .local := by rfl) (hy : X.env.scope.names.lookup y = some .local := by rfl)
    (hw : swappedStores [.Tuple [.Name x px, .Name y py] kt pt] (.Tuple [a, b] k2 pt2) X.env = pure (some [x, y]) := by rfl)
    (hs : swapsWithSole [.Tuple [.Name x px, .Name y py] kt pt] (.Tuple [a, b] k2 pt2) pos.line X.env = pure false := by rfl) : wB X (.Assign [.Tuple [.Name x px, .Name y py] kt pt] (.Tuple [a, b] k2 pt2) pos :: rest) D σ H :=
  hb_cons (ps_par hc nd hi hj hij hx hy pa_w hw hs) (ha H l.right _ fun vs H1 l1 hv => k vs H1 (l.trans l1) l1 hv)
end
end K6

/-! ## K63R -/
set_option Elab.async false
set_option linter.all false
set_option maxRecDepth 100000
set_option maxHeartbeats 4000000
namespace K6
open PySem PySem.Spec PyProof.Rows L2
/-! ### enumerate(tuple) -/
theorem meets_enumT {l : Addr} {items : Array Value} :
    Meets (Builtin.«enumerate.__new__» ⟨[.type "enumerate", .ref l], []⟩) (fun _ R s => s.heap.IsTuple l items ∧
      R (.ok (.ret (.ref (s.heap.push { cls := .type "tuple_iterator", data := .fields #[.ref l, .int 0 0] }).objs.size)))
        { s with heap := (s.heap.push { cls := .type "tuple_iterator", data := .fields #[.ref l, .int 0 0] }).push { cls := .type "enumerate", data := .fields #[.none, .bool false, .ref s.heap.objs.size, rawInt 0, .none, .none] } }) :=
  .of_wp fun prog w A R s h => by
    obtain ⟨hp, gs, dr, tk, os⟩ := s
    obtain ⟨ht, h⟩ := h
    have sub_en := sub_enumerate
    wp_walk
    refine wpAny_stack_any fun stk => wpAny_pure ?_
    split
    · rename_i cc _ _ _ _ _
      cases (cc == Value.type "enumerate") <;> (wp_walk using wpAny_pyIter_tuple ht; exact ⟨_, rfl, h⟩)
    · wp_walk using wpAny_pyIter_tuple ht
      exact ⟨_, rfl, h⟩
theorem call_enumT {prog : Program} {w : World} {A : Around} {E : Value → Shared → Prop} {s : Shared} {l : Addr} {items : Array Value} {Q : Value → Shared → Prop} (ht : s.heap.IsTuple l items)
    (h : ∀ h', IsEnum h' (s.heap.objs.size + 1) s.heap.objs.size 0 .none → h'.IsTupleIter s.heap.objs.size l 0 → (∀ b o, s.heap.get? b = some o → h'.get? b = some o) → Q (.ref (s.heap.objs.size + 1)) { s with heap := h' }) :
    wpAny (model prog w) A (call (.type "enumerate") [.ref l]) Q E s := by
  refine callType_new F.called_enumerate (by decide) (F.typeCall_enumerate_1 _) (F.newCall_enumerate_1 _) (fun ob => F.args_object_init_2 ob _) F.entry_enumerate_new meets_enumT ⟨ht, ?_⟩
  have sz : (s.heap.push { cls := .type "tuple_iterator", data := .fields #[.ref l, .int 0 0] }).objs.size = s.heap.objs.size + 1 := Heap.size_push ..
  have en := Heap.get?_push_size (s.heap.push { cls := .type "tuple_iterator", data := .fields #[.ref l, .int 0 0] }) (o := { cls := .type "enumerate", data := .fields #[.none, .bool false, .ref s.heap.objs.size, rawInt 0, .none, .none] }) rfl
  show _ ∧ _
  rw [sz] at en ⊢
  exact ⟨⟨_, en, rfl⟩, h _ en ⟨_, Heap.get?_push_of_some _ (Heap.get?_push_size _ rfl), rfl, rfl⟩ fun b o q => Heap.get?_push_of_some _ (Heap.get?_push_of_some _ q)⟩
/-- a new pair of the turn's number and the item of the tuple at a -/
def ItE (K : PySem.W.Frag) (a : Addr) : It where
  go := fun i H => ∃ (xs : List V) (x : V), SqT K H a xs ∧ xs[i]? = some x
  yld := fun i H v H' => ∃ T x, v = .ref T ∧ H T = none ∧ H' = upd H T (.tup [.int (i : Nat), x]) ∧ ∀ xs, SqT K H a xs → xs[i]? = some x
  stop := fun i H => ∃ xs : List V, SqT K H a xs ∧ xs.length = i
theorem turn_enT {P : Program} {w : World} {K : PySem.W.Frag} {elts : List Expr} {kk : Nat} {tp : Pos} (a e it : Addr) :
    Turn P w K (.Tuple elts kk tp) (ItE K a) [e, it] e (fun i h => (∃ old, IsEnum h e it ((i : Nat) : Int) old) ∧ h.IsTupleIter it a i ∧ e ≠ it) where
  mem := List.mem_cons_self
  obj := fun i h st b hb => by
    obtain ⟨⟨old, he⟩, ⟨o, ho, hc, hd⟩, _⟩ := st
    rcases List.mem_cons.mp hb with z | z
    · rw [z]
      exact ⟨_, he, fun v q => nomatch q⟩
    · rw [List.mem_singleton.mp z]
      exact ⟨o, ho, fun v q => by rw [hd] at q; cases q⟩
  keep := fun i h h' st k => by
    obtain ⟨⟨old, he⟩, hi, ne⟩ := st
    exact ⟨⟨old, k e List.mem_cons_self _ he⟩, hi.at fun o q => k it (List.mem_cons_of_mem _ List.mem_cons_self) o q, ne⟩
  item := by
    intro X hP hw hK hc i pins s σ H E I hf st hg
    subst hP hw hK
    obtain ⟨⟨old, he⟩, hit, ne⟩ := st
    obtain ⟨xs, x, hq, hx⟩ := hg
    obtain ⟨its, rv, pt, hz⟩ := I.tuple hq
    have tt : s.heap.IsTuple a its.toArray := pt
    obtain ⟨u, hu, ru⟩ := rv.get hx
    have hlt : i < its.toArray.size := by
      rw [List.size_toArray]
      exact (List.getElem?_eq_some_iff.mp hu).1
    have lte : e < s.heap.objs.size := Heap.lt_size he
    have lti : it < s.heap.objs.size := by
      obtain ⟨_, q, _⟩ := hit
      exact Heap.lt_size q
    have nai : a ≠ it := fun q => by
      obtain ⟨o1, q1, q2, _⟩ := tt
      obtain ⟨o2, q3, q4, _⟩ := hit
      rw [q, q3] at q1
      cases q1
      rw [q4] at q2
      exact absurd (Value.type.inj q2) (by decide)
    have nae : a ≠ e := fun q => by
      obtain ⟨o1, q1, q2, _⟩ := tt
      rw [q, he] at q1
      cases q1
      exact absurd (Value.type.inj q2) (by decide)
    have hh : X.A.in1.handled = none := I.ok.hd hc
    refine wpAny_pyNext_enum_itemD (Draws.tuple hh it a nai its.toArray) he ⟨hit, tt⟩ hlt ne (fun q => ?_) fun y h' tk hy ho st' hT hsz hk => ?_
    · rcases List.mem_cons.mp q with q | q
      · exact ne q
      · exact nae (List.mem_singleton.mp q).symm
    · have ey : y = u := by
        have q1 : its.toArray[i]? = some y := hy
        rw [List.getElem?_toArray, hu] at q1
        exact (Option.some.inj q1).symm
      subst ey
      refine ⟨_, rfl, wpAny_letOwnedTupleGo_enum (s := { s with heap := h', toks := tk + 1 }) ho fun h2 he2 sb => ?_⟩
      have hT2 : h2.get? s.heap.objs.size = some { cls := .type "tuple", data := .seq #[.int i tk, y] } := (sb.2 _ (Nat.ne_of_gt lte)).trans hT
      have new : ObjOk X.prog X.w (upd H s.heap.objs.size (.tup [.int (i : Nat), x])) h2 s.heap.objs.size (.tup [.int (i : Nat), x]) :=
        ⟨(show 2 ≤ sizeLine by decide), [.int i tk, y], .cons ⟨_, rfl⟩ (.cons ru .nil), ⟨_, hT2, rfl, _, rfl⟩⟩
      have I1 : Inv X pins σ (upd H s.heap.objs.size (.tup [.int (i : Nat), x])) { s with heap := h2, toks := tk + 1 } :=
        I.turnedNew (ch := [e, it]) (fun b ob hb q => (sb.2 b fun z => hb (by simp [z])).trans (hk b ob (fun z => hb (by simp [z])) (fun z => hb (by simp [z])) q)) hf (Nat.le_refl _) new
      refine ⟨.ref s.heap.objs.size, _, I1, rfl, ⟨_, x, rfl, I.hok.fresh (Nat.le_refl _), rfl, fun ys hys => by rw [I.tuple_inj hys hq]; exact hx⟩, ⟨⟨y, ?_⟩, st'.1.at fun o q => (sb.2 it (Ne.symm ne)).trans q, ne⟩, fun b hb => ?_⟩
      · have ei : ((i + 1 : Nat) : Int) = (i : Int) + 1 := Int.natCast_succ i
        rw [ei]
        exact he2
      · have lb : b < s.heap.objs.size := by
          rcases List.mem_cons.mp hb with z | z
          · rw [z]
            exact lte
          · rw [List.mem_singleton.mp z]
            exact lti
        rw [upd_ne (Nat.ne_of_lt lb)]
        exact (hf b hb).1
  done := by
    intro X hP hw hK hc i pins s σ H E I hf st hg
    subst hP hw hK
    obtain ⟨⟨old, he⟩, hit, ne⟩ := st
    obtain ⟨xs, hq, hx⟩ := hg
    obtain ⟨its, rv, pt, hz⟩ := I.tuple hq
    have tt : s.heap.IsTuple a its.toArray := pt
    obtain ⟨f0, f1, f2, f3, f4, f5⟩ := hf it (List.mem_cons_of_mem _ List.mem_cons_self)
    have nai : a ≠ it := fun q => by
      obtain ⟨o1, q1, q2, _⟩ := tt
      obtain ⟨o2, q3, q4, _⟩ := hit
      rw [q, q3] at q1
      cases q1
      rw [q4] at q2
      exact absurd (Value.type.inj q2) (by decide)
    have hh : X.A.in1.handled = none := I.ok.hd hc
    have ei : i = its.toArray.size := by
      rw [List.size_toArray, ← rv.length]
      exact hx.symm
    have st2 : s.heap.IsTupleIter it a its.toArray.size ∧ s.heap.IsTuple a its.toArray := ⟨by rw [← ei]; exact hit, tt⟩
    exact wpAny_pyNext_enum_endD (Draws.tuple hh it a nai its.toArray) he st2 fun h' eb => ⟨rfl, I.turned (t' := s.toks) (fun b o hb q => eb b o hb q) f0 f1 f3 f4 f5⟩
  self := fun A i s Q E st h => let ⟨⟨_, he⟩, _⟩ := st; wpAny_pyIter_enum he h
theorem walk_enT {K : PySem.W.Frag} {a : Addr} {xs : List V} : Walk (ItE K a) xs.length (fun H => SqT K H a xs) (YPair (fun i => some (.int (i : Nat))) (fun i => xs[i]?)) := by
  refine ⟨fun i _ hi q => ⟨xs, xs[i], q, List.getElem?_eq_getElem hi⟩, fun _ q => ⟨xs, q, rfl⟩, fun i H v H' _ q y => ?_⟩
  obtain ⟨T, x, h1, h2, h3, h4⟩ := y
  exact ⟨T, .int (i : Nat), x, h1, h2, h3, rfl, h4 xs q⟩
def iEnT (K : PySem.W.Frag) (ta : TA) : TI := fun σ H R => ta σ H fun vs H1 => ∃ a xs, vs = [.ref a] ∧ SqT K H1 a xs ∧ R (ItE K a) H1
theorem pi_enT {X : Cx} {e : Expr} {ta : TA} {p pos tp : Pos} {elts : List Expr} {kk : Nat} (hg : Gl X "enumerate") (hm : X.mg "enumerate" = none) (ha : PA X [e] ta) (hs : starEach [e] X.env = [(false, eval e X.env)] := by rfl) :
    PI X (.Tuple elts kk tp) (.Call (.Name "enumerate" p) [e] [] pos) (iEnT X.K ta) := by
  refine ⟨fun pins s σ H R I h => Call_ (ld_blt I hg hm boot_enumerate (PyProof.Rows.callWith_type1 (thn (ha.run pos pins s σ H _ I h) fun us s1 ⟨vs, H1, I1, r1, q1⟩ => ?_) hs rfl))⟩
  obtain ⟨a, xs, ex, hq, q⟩ := q1
  subst ex
  obtain ⟨u, rfl, ru⟩ := vals1 r1
  cases ru
  obtain ⟨its, rv, pt, hz⟩ := I1.tuple hq
  have tt : s1.heap.IsTuple a its.toArray := pt
  refine call_enumT tt fun h' he hit hk => wpAny_pyIter_enum he ?_
  have I2 : Inv X pins σ H1 { s1 with heap := h' } := I1.kept (t' := s1.toks) hk
  refine ⟨s1.heap.objs.size + 1, [s1.heap.objs.size + 1, s1.heap.objs.size], _, _, H1, rfl, I2, turn_enT a (s1.heap.objs.size + 1) s1.heap.objs.size, ⟨⟨.none, he⟩, hit, Nat.succ_ne_self _⟩, fun b hb => ?_, q⟩
  have hle : s1.heap.objs.size ≤ b := by
    rcases List.mem_cons.mp hb with z | z
    · rw [z]
      exact Nat.le_succ _
    · rw [List.mem_singleton.mp z]
      exact Nat.le_refl _
  exact I1.fpOk hle (I1.hok.fresh hle)

/-! ### zip(list, tuple) -/
/-- a new pair of the items of the list at a and of the tuple at b -/
def ItZ (K : PySem.W.Frag) (a b : Addr) : It where
  go := fun i H => ∃ (xs ys : List V) (x y : V), SqL K H a xs ∧ SqT K H b ys ∧ xs[i]? = some x ∧ ys[i]? = some y
  yld := fun i H v H' => ∃ T x y, v = .ref T ∧ H T = none ∧ H' = upd H T (.tup [x, y]) ∧ (∀ xs, SqL K H a xs → xs[i]? = some x) ∧ ∀ ys, SqT K H b ys → ys[i]? = some y
  stop := fun i H => ∃ xs ys : List V, SqL K H a xs ∧ SqT K H b ys ∧ xs.length = i ∧ ys.length = i
theorem walk_zLT {K : PySem.W.Frag} {a b : Addr} {xs ys : List V} (hl : ys.length = xs.length) : Walk (ItZ K a b) xs.length (fun H => SqL K H a xs ∧ SqT K H b ys) (YPair (fun i => xs[i]?) (fun i => ys[i]?)) := by
  refine ⟨fun i _ hi q => ⟨xs, ys, xs[i], ys[i]'(by omega), q.1, q.2, List.getElem?_eq_getElem hi, List.getElem?_eq_getElem (by omega)⟩, fun _ q => ⟨xs, ys, q.1, q.2, rfl, hl⟩, fun i H v H' _ q y => ?_⟩
  obtain ⟨T, x, z, h1, h2, h3, h4, h5⟩ := y
  exact ⟨T, x, z, h1, h2, h3, h4 xs q.1, h5 ys q.2⟩
/-- how the two iterators of such a zip stand -/
structure ZSt (z TI TO i1 i2 a b : Addr) (i : Nat) (h : Heap) : Prop where
  z : IsZip h z TI TO .none
  ti : IsTupOf2 h TI (.ref i1) (.ref i2)
  to : ∃ x y, IsTupOf2 h TO x y
  l : h.IsListIter i1 a i
  t : h.IsTupleIter i2 b i
theorem cls_ne {h : Heap} {a b : Addr} {o u : Obj} {S T : String} (h1 : h.get? a = some o) (c1 : o.cls = .type S) (h2 : h.get? b = some u) (c2 : u.cls = .type T) (n : S ≠ T) : a ≠ b := fun e => by
  rw [e, h2] at h1
  cases h1
  rw [c1] at c2
  exact n (Value.type.inj c2)
theorem turn_zLT {P : Program} {w : World} {K : PySem.W.Frag} {elts : List Expr} {kk : Nat} {tp : Pos} {a b z TI TO i1 i2 : Addr} (D : ZipSep2 z TI TO i1 i2 [i1, a] [i2, b]) :
    Turn P w K (.Tuple elts kk tp) (ItZ K a b) [z, TI, TO, i1, i2] z (fun i h => ZSt z TI TO i1 i2 a b i h) where
  mem := List.mem_cons_self
  obj := fun i h st c hc => by
    obtain ⟨hz, hTI, ⟨x, y, hTO⟩, ⟨o1, e1, _, d1⟩, ⟨o2, e2, _, d2⟩⟩ := st
    simp only [List.mem_cons, List.not_mem_nil, or_false] at hc
    rcases hc with q | q | q | q | q <;> rw [q]
    · exact ⟨_, hz, fun v q => nomatch q⟩
    · exact ⟨_, hTI, fun v q => nomatch q⟩
    · exact ⟨_, hTO, fun v q => nomatch q⟩
    · exact ⟨o1, e1, fun v q => by rw [d1] at q; cases q⟩
    · exact ⟨o2, e2, fun v q => by rw [d2] at q; cases q⟩
  keep := fun i h h' st k => by
    obtain ⟨hz, hTI, ⟨x, y, hTO⟩, h1, h2⟩ := st
    exact ⟨k z (by simp) _ hz, k TI (by simp) _ hTI, ⟨x, y, k TO (by simp) _ hTO⟩, h1.at fun o q => k i1 (by simp) o q, h2.at fun o q => k i2 (by simp) o q⟩
  item := by
    intro X hP hw hK hc i pins s σ H E I hf st hg
    subst hP hw hK
    obtain ⟨hz, hTI, ⟨x0, y0, hTO⟩, h1, h2⟩ := st
    obtain ⟨xs, ys, x, y, hqx, hqy, hx, hy⟩ := hg
    obtain ⟨its, rv, p1, _⟩ := I.list hqx
    obtain ⟨its2, rv2, p2, _⟩ := I.tuple hqy
    have l1 : s.heap.IsList a its.toArray := p1.isList
    have t2 : s.heap.IsTuple b its2.toArray := p2
    obtain ⟨u, hu, ru⟩ := rv.get hx
    obtain ⟨v, hv, rv'⟩ := rv2.get hy
    have hh : X.A.in1.handled = none := I.ok.hd hc
    have n1 : a ≠ i1 := by
      obtain ⟨o1, q1, q2, _⟩ := l1
      obtain ⟨o2, q3, q4, _⟩ := h1
      exact cls_ne q1 q2 q3 q4 (by decide)
    have n2 : b ≠ i2 := by
      obtain ⟨o1, q1, q2, _⟩ := t2
      obtain ⟨o2, q3, q4, _⟩ := h2
      exact cls_ne q1 q2 q3 q4 (by decide)
    have lz : z < s.heap.objs.size := Heap.lt_size hz
    refine wpAny_pyNext_zipD2_item D (Draws.list hh i1 a n1 its.toArray) (Draws.tuple hh i2 b n2 its2.toArray) hz hTI hTO ⟨h1, l1⟩ ⟨h2, t2⟩ (by rw [List.size_toArray]; exact (List.getElem?_eq_some_iff.mp hu).1) (by rw [List.size_toArray]; exact (List.getElem?_eq_some_iff.mp hv).1)
      fun w1 w2 h' tk hw1 hw2 z' TO' s1' s2' hT hsz hk => ?_
    have e1 : w1 = u := by
      have q1 : its.toArray[i]? = some w1 := hw1
      rw [List.getElem?_toArray, hu] at q1
      exact (Option.some.inj q1).symm
    have e2 : w2 = v := by
      have q1 : its2.toArray[i]? = some w2 := hw2
      rw [List.getElem?_toArray, hv] at q1
      exact (Option.some.inj q1).symm
    subst e1 e2
    refine ⟨_, rfl, wpAny_letOwnedTupleGo_zip (s := { s with heap := h', toks := tk }) z' fun h2' z2 sb => ?_⟩
    have hT2 : h2'.get? s.heap.objs.size = some { cls := .type "tuple", data := .seq #[w1, w2] } := (sb.2 _ (Nat.ne_of_gt lz)).trans hT
    have new : ObjOk X.prog X.w (upd H s.heap.objs.size (.tup [x, y])) h2' s.heap.objs.size (.tup [x, y]) :=
      ⟨(show 2 ≤ sizeLine by decide), [w1, w2], .cons ru (.cons rv' .nil), ⟨_, hT2, rfl, _, rfl⟩⟩
    have I1 : Inv X pins σ (upd H s.heap.objs.size (.tup [x, y])) { s with heap := h2', toks := tk } :=
      I.turnedNew (ch := [z, TI, TO, i1, i2]) (fun c o hb q => (sb.2 c fun q' => hb (by simp [q'])).trans (hk c o (fun q' => hb (by simp [q'])) (fun q' => hb (by simp [q'])) (fun q' => hb (by simp [q'])) (fun q' => hb (by simp [q'])) q)) hf (Nat.le_refl _) new
    refine ⟨.ref s.heap.objs.size, _, I1, rfl, ⟨_, x, y, rfl, I.hok.fresh (Nat.le_refl _), rfl, fun l hl => by rw [I.list_inj hl hqx]; exact hx, fun l hl => by rw [I.tuple_inj hl hqy]; exact hy⟩, ⟨z2, ?_, ⟨w1, w2, ?_⟩, ?_, ?_⟩, fun c hcm => ?_⟩
    · exact (sb.2 _ D.TIz).trans (hk _ _ D.TIz D.TITO D.TIi1 D.TIi2 hTI)
    · exact (sb.2 _ D.TOz).trans TO'
    · exact s1'.1.at fun o q => (sb.2 _ D.zi1.symm).trans q
    · exact s2'.1.at fun o q => (sb.2 _ D.zi2.symm).trans q
    · have lc : c < s.heap.objs.size := by
        simp only [List.mem_cons, List.not_mem_nil, or_false] at hcm
        rcases hcm with q | q | q | q | q <;> rw [q]
        · exact lz
        · exact Heap.lt_size hTI
        · exact Heap.lt_size hTO
        · obtain ⟨_, e1, _⟩ := h1
          exact Heap.lt_size e1
        · obtain ⟨_, e2, _⟩ := h2
          exact Heap.lt_size e2
      rw [upd_ne (Nat.ne_of_lt lc)]
      exact (hf c hcm).1
  done := by
    intro X hP hw hK hc i pins s σ H E I hf st hg
    subst hP hw hK
    obtain ⟨hz, hTI, ⟨x0, y0, hTO⟩, h1, h2⟩ := st
    obtain ⟨xs, ys, hqx, hqy, ex, ey⟩ := hg
    obtain ⟨its, rv, p1, _⟩ := I.list hqx
    obtain ⟨its2, rv2, p2, _⟩ := I.tuple hqy
    have l1 : s.heap.IsList a its.toArray := p1.isList
    have t2 : s.heap.IsTuple b its2.toArray := p2
    have hh : X.A.in1.handled = none := I.ok.hd hc
    have n1 : a ≠ i1 := by
      obtain ⟨o1, q1, q2, _⟩ := l1
      obtain ⟨o2, q3, q4, _⟩ := h1
      exact cls_ne q1 q2 q3 q4 (by decide)
    have n2 : b ≠ i2 := by
      obtain ⟨o1, q1, q2, _⟩ := t2
      obtain ⟨o2, q3, q4, _⟩ := h2
      exact cls_ne q1 q2 q3 q4 (by decide)
    have z1 : its.toArray.size = i := by rw [List.size_toArray, ← rv.length]; exact ex
    have z2 : its2.toArray.size = i := by rw [List.size_toArray, ← rv2.length]; exact ey
    exact wpAny_pyNext_zipD2_end D (Draws.list hh i1 a n1 its.toArray) (Draws.tuple hh i2 b n2 its2.toArray) hz hTI hTO ⟨h1, l1⟩ ⟨h2, t2⟩ (by omega) (by omega) (by omega) fun h' tk hk => ⟨rfl, I.turnedL (t' := tk) (ch := [z, TI, TO, i1, i2]) (fun c o hb q =>
      hk c o (fun q' => hb (by simp [q'])) (fun q' => hb (by simp [q'])) (fun q' => hb (by simp [q'])) (fun q' => hb (by simp [q'])) q) hf⟩
  self := fun A i s Q E st h => wpAny_pyIter_zip st.z h
def iZLT (K : PySem.W.Frag) (ta : TA) : TI := fun σ H R => ta σ H fun vs H1 => ∃ a b xs ys, vs = [.ref a, .ref b] ∧ SqL K H1 a xs ∧ SqT K H1 b ys ∧ R (ItZ K a b) H1
theorem pi_zLT {X : Cx} {e e2 : Expr} {ta : TA} {p pos tp : Pos} {elts : List Expr} {kk : Nat} (hg : Gl X "zip") (hm : X.mg "zip" = none) (ha : PA X [e, e2] ta)
    (hs : starEach [e, e2] X.env = (false, eval e X.env) :: starEach [e2] X.env := by rfl) (hpl : (backTo pos (starEach [e2] X.env)).any (·.1) = false := by rfl) :
    PI X (.Tuple elts kk tp) (.Call (.Name "zip" p) [e, e2] [] pos) (iZLT X.K ta) := by
  refine ⟨fun pins s σ H R I h => Call_ (ld_blt I hg hm PyProof.Rows.boot_zip (PyProof.Rows.callWith_type1 (thn (ha.run pos pins s σ H _ I h) fun us s1 ⟨vs, H1, I1, r1, q1⟩ => ?_) hs hpl))⟩
  obtain ⟨a, b, xs, ys, ex, hqx, hqy, q⟩ := q1
  subst ex
  obtain ⟨u, v, rfl, ru, rv⟩ := vals2 r1
  cases ru
  cases rv
  obtain ⟨its, rx, p1, _⟩ := I1.list hqx
  obtain ⟨its2, ry, p2, _⟩ := I1.tuple hqy
  have l1 : s1.heap.IsList a its.toArray := p1.isList
  have t2 : s1.heap.IsTuple b its2.toArray := p2
  have la : a < s1.heap.objs.size := by
    obtain ⟨_, q1, _⟩ := l1
    exact Heap.lt_size q1
  have lb : b < s1.heap.objs.size := by
    obtain ⟨_, q1, _⟩ := t2
    exact Heap.lt_size q1
  refine zip_begins2 (begins_list a its.toArray) (begins_tuple b its2.toArray) l1 t2 fun h' hz hTI hTO h1 h2 hsz hk => wpAny_pyIter_zip hz ?_
  have I2 : Inv X pins σ H1 { s1 with heap := h' } := I1.kept (t' := s1.toks) hk
  refine ⟨s1.heap.objs.size + 4, [s1.heap.objs.size + 4, s1.heap.objs.size + 2, s1.heap.objs.size + 3, s1.heap.objs.size, s1.heap.objs.size + 1], _, _, H1, rfl, I2,
    turn_zLT (zip_sep2 (fun c hc => by rw [List.mem_singleton.mp hc]; exact la) (fun c hc => by rw [List.mem_singleton.mp hc]; exact lb)), ⟨hz, hTI, ⟨_, _, hTO⟩, ⟨_, h1, rfl, rfl⟩, ⟨_, h2, rfl, rfl⟩⟩, fun c hc => ?_, q⟩
  have hle : s1.heap.objs.size ≤ c := by
    simp only [List.mem_cons, List.not_mem_nil, or_false] at hc
    rcases hc with z | z | z | z | z <;> rw [z] <;> first | exact Nat.le_refl _ | exact Nat.le_add_right _ _
  exact I1.fpOk hle (I1.hok.fresh hle)
end K6

/-! ## K63Y -/
set_option Elab.async false
set_option linter.all false
set_option maxRecDepth 100000
set_option maxHeartbeats 4000000
namespace K6
open PySem PySem.Spec PyProof.Rows L2
/-! ### what is walked -/
/-- n turns; the item of a turn binds u, of which U is known -/
structure Bd (P : Addr) (Z : Option Addr) {α : Type} (g : L2.TG) (Y : Nat → Hp → V → Hp → Prop) (n : Nat) (U : Nat → α → Hp → Prop) (bind : L2.St → α → L2.St) : Prop where
  run : ∀ i x σ H H', i < n → Le P Z H H → Y i H x H' → ∀ K : L2.St → Hp → Prop, (∀ u H2, Le P Z H H2 → U i u H2 → K (bind σ u) H2) → g x σ H' K
def YR (R : Nat → Rp) : Nat → Hp → V → Hp → Prop := fun i H x H' => H' = H ∧ R i x H
def YP (R S : Nat → Rp) : Nat → Hp → V → Hp → Prop := fun i H v H' => ∃ T x y, v = .ref T ∧ H T = none ∧ H' = upd H T (.tup [x, y]) ∧ R i x H ∧ S i y H
/-- from what stands at B on; from what stands behind the source on -/
def Es (P : Addr) (Z : Option Addr) (wi : L2.TI) (σ : L2.St) (B : Hp) (n : Nat) (Y : Nat → Hp → V → Hp → Prop) : Prop := ∀ H1, Le P Z B H1 → ∀ R : It → Hp → Prop, (∀ J H2, Le P Z H1 H2 → Walk J n (fun H3 => Le P Z B H3) Y → R J H2) → wi σ H1 R
def En (P : Addr) (Z : Option Addr) (wi : L2.TI) (σ : L2.St) (H : Hp) (n : Nat) (Y : Nat → Hp → V → Hp → Prop) : Prop := ∀ H1, Le P Z H H1 → ∀ R : It → Hp → Prop, (∀ J H2, Le P Z H1 H2 → Walk J n (fun H3 => Le P Z H2 H3) Y → R J H2) → wi σ H1 R
section
variable {X : Cx} {P : Addr} {Z : Option Addr} {σ : L2.St} {H B : Hp} {R S : Nat → Rp} {wi : L2.TI} {n : Nat} {Y : Nat → Hp → V → Hp → Prop} {a b e : Expr} {es : List Expr} {pos p : Pos}
theorem Es.toN (h : Es P Z wi σ B n Y) : En P Z wi σ B n Y := fun H1 l R k => h H1 l R fun J H2 l2 w => k J H2 l2 (w.mono (fun H3 l3 => (l.trans l2).trans l3) fun _ _ _ _ _ _ y => y)
theorem bd_name {j : Nat} {K : PySem.W.Frag} : Bd P Z (gName j) (YR R) n (α := V) R (fun σ u => σ.set j (some u)) := ⟨fun i x σ H H' _ l y K k => by
  obtain ⟨e, r⟩ := y
  rw [e]
  exact k x H l r⟩
theorem bd_pair {j k : Nat} {K : PySem.W.Frag} [mr : ∀ i, Mono P Z (R i)] [ms : ∀ i, Mono P Z (S i)] : Bd P Z (gTup K 2 (gCons (gName j) (gCons (gName k) gNil))) (YP R S) n (α := V × V) (fun i u H => R i u.1 H ∧ S i u.2 H) (fun σ u => (σ.set j (some u.1)).set k (some u.2)) := ⟨fun i v σ H H' _ l y K q => by
  obtain ⟨T, x, z, e, hT, e2, r, s⟩ := y
  rw [e, e2]
  have l2 : Le P Z H (upd H T (.tup [x, z])) := l.mut hT
  exact ⟨T, [x, z], rfl, SqT.of upd_same, rfl, x, [z], rfl, z, [], rfl, rfl, q (x, z) _ l2 ⟨(mr i).up _ _ _ l2 r, (ms i).up _ _ _ l2 s⟩⟩⟩
/-! ranges -/
theorem es_range1 {m : Int} (ha : EvE X P Z a σ B (is (.int m))) (hm : -(2 ^ 62) ≤ m ∧ m < 2 ^ 62) (hs : starEach [a] X.env = (false, eval a X.env) :: starEach [] X.env := by rfl) : Es P Z (iRng1 (wA X [a])) σ B m.toNat (YR fun i => is (.int (i : Int))) := fun H1 l R k =>
  (ea_cons (ha.up l) ea_nil hs) H1 l.right _ fun vs H2 l2 hv => by
    obtain ⟨v, r, rfl, hv, hr⟩ := hv
    have e1 : v = .int m := hv
    have e2 : r = [] := hr
    subst e1 e2
    exact ⟨m, rfl, hm.1, hm.2, k _ H2 l2 (walk_range.mono (fun _ _ => trivial) fun i H x H' _ _ y => ⟨y.1, by rw [y.2]; show V.int (0 + (i : Int)) = V.int i; rw [Int.zero_add]⟩)⟩
theorem es_range2 {lo hi : Int} (ha : EvE X P Z a σ B (is (.int lo))) (hb : EvE X P Z b σ B (is (.int hi))) (hm : -(2 ^ 62) ≤ lo ∧ lo < 2 ^ 62 ∧ -(2 ^ 62) ≤ hi ∧ hi < 2 ^ 62) (hs : starEach [a, b] X.env = (false, eval a X.env) :: starEach [b] X.env := by rfl) (hs2 : starEach [b] X.env = (false, eval b X.env) :: starEach [] X.env := by rfl) :
    Es P Z (iRng2 (wA X [a, b])) σ B (hi - lo).toNat (YR fun i => is (.int (lo + (i : Int)))) := fun H1 l R k =>
  (ea_cons (ha.up l) (ea_cons (hb.up l) ea_nil hs2) hs) H1 l.right _ fun vs H2 l2 hv => by
    obtain ⟨v, r, rfl, hv, v2, r2, rfl, hv2, hr⟩ := hv
    have e1 : v = .int lo := hv
    have e3 : v2 = .int hi := hv2
    have e2 : r2 = [] := hr
    subst e1 e2 e3
    exact ⟨lo, hi, rfl, hm, k _ H2 l2 (walk_range.mono (fun _ _ => trivial) fun i H x H' _ _ y => y)⟩
/-! lists, tuples -/
theorem es_list {ad : Addr} [m : ∀ i, Mono P Z (R i)] (he : EvE X P Z e σ B (is (.ref ad))) (hB : LG Z n R (.ref ad) B) : Es P Z (iList X.K (wE X e)) σ B n (YR R) := fun H1 l Rr k => he H1 l _ fun v H2 l2 hv => by
  obtain ⟨a', vs, ea, hz, hx, hl, hr⟩ := hB
  cases ea
  have at_ : ∀ H3, Le P Z B H3 → H3 ad = some (.lst vs) := fun H3 l3 => l3.keep ad _ hz nt_lst hx
  refine ⟨ad, hv, ⟨vs, SqL.of (at_ H2 (l.trans l2))⟩, k _ H2 l2 ?_⟩
  have w : Walk (Itl X.K ad) vs.length (fun H => SqL X.K H ad vs) (YAt vs) := walk_list
  rw [hl] at w
  exact w.mono (fun H3 l3 => SqL.of (at_ H3 l3)) fun i H3 x H4 _ l3 y => ⟨y.1, (m i).up _ _ _ l3 (hr i x y.2)⟩
theorem en_list [m : ∀ i, Mono P Z (R i)] (he : EvE X P Z e σ H (LG Z n R)) : En P Z (iList X.K (wE X e)) σ H n (YR R) := fun H1 l Rr k => he H1 l _ fun v H2 l2 hv => by
  obtain ⟨ad, vs, ea, hz, hx, hl, hr⟩ := hv
  have at_ : ∀ H3, Le P Z H2 H3 → H3 ad = some (.lst vs) := fun H3 l3 => l3.keep ad _ hz nt_lst hx
  refine ⟨ad, ea, ⟨vs, SqL.of hx⟩, k _ H2 l2 ?_⟩
  have w : Walk (Itl X.K ad) vs.length (fun H => SqL X.K H ad vs) (YAt vs) := walk_list
  rw [hl] at w
  exact w.mono (fun H3 l3 => SqL.of (at_ H3 l3)) fun i H3 x H4 _ l3 y => ⟨y.1, (m i).up _ _ _ l3 (hr i x y.2)⟩
theorem en_tup [m : ∀ i, Mono P Z (R i)] (he : EvE X P Z e σ H (TG n R)) : En P Z (iTup X.K (wE X e)) σ H n (YR R) := fun H1 l Rr k => he H1 l _ fun v H2 l2 hv => by
  obtain ⟨ad, vs, ea, hx, hl, hr⟩ := hv
  have at_ : ∀ H3, Le P Z H2 H3 → H3 ad = some (.tup vs) := fun H3 l3 => tup_up l3 hx
  refine ⟨ad, ea, ⟨vs, SqT.of hx⟩, k _ H2 l2 ?_⟩
  have w : Walk (Itt X.K ad) vs.length (fun H => SqT X.K H ad vs) (YAt vs) := walk_tup
  rw [hl] at w
  exact w.mono (fun H3 l3 => SqT.of (at_ H3 l3)) fun i H3 x H4 _ l3 y => ⟨y.1, (m i).up _ _ _ l3 (hr i x y.2)⟩
/-! enumerate -/
theorem en_enumL [m : ∀ i, Mono P Z (R i)] (he : EvE X P Z e σ H (LG Z n R)) (hs : starEach [e] X.env = (false, eval e X.env) :: starEach [] X.env := by rfl) : En P Z (iEnum X.K (wA X [e])) σ H n (YP (fun i => is (.int (i : Int))) R) := fun H1 l Rr k => (ea_cons he ea_nil hs) H1 l _ fun us H2 l2 hv => by
  obtain ⟨v, r, rfl, ⟨ad, vs, ea, hz, hx, hl, hr⟩, e2⟩ := hv
  have e2' : r = [] := e2
  subst e2' ea
  have at_ : ∀ H3, Le P Z H2 H3 → H3 ad = some (.lst vs) := fun H3 l3 => l3.keep ad _ hz nt_lst hx
  refine ⟨ad, vs, rfl, SqL.of hx, k _ H2 l2 ?_⟩
  have w : Walk (Ite X.K ad) vs.length (fun H => SqL X.K H ad vs) (YPair (fun i => some (.int (i : Nat))) (fun i => vs[i]?)) := walk_enum
  rw [hl] at w
  exact w.mono (fun H3 l3 => SqL.of (at_ H3 l3)) fun i H3 x H4 _ l3 y => by
    obtain ⟨T, x', y', h1, h2, h3, h4, h5⟩ := y
    exact ⟨T, x', y', h1, h2, h3, (Option.some.inj h4).symm, (m i).up _ _ _ l3 (hr i y' h5)⟩
theorem en_enumT [m : ∀ i, Mono P Z (R i)] (he : EvE X P Z e σ H (TG n R)) (hs : starEach [e] X.env = (false, eval e X.env) :: starEach [] X.env := by rfl) : En P Z (iEnT X.K (wA X [e])) σ H n (YP (fun i => is (.int (i : Int))) R) := fun H1 l Rr k => (ea_cons he ea_nil hs) H1 l _ fun us H2 l2 hv => by
  obtain ⟨v, r, rfl, ⟨ad, vs, ea, hx, hl, hr⟩, e2⟩ := hv
  have e2' : r = [] := e2
  subst e2' ea
  have at_ : ∀ H3, Le P Z H2 H3 → H3 ad = some (.tup vs) := fun H3 l3 => tup_up l3 hx
  refine ⟨ad, vs, rfl, SqT.of hx, k _ H2 l2 ?_⟩
  have w : Walk (ItE X.K ad) vs.length (fun H => SqT X.K H ad vs) (YPair (fun i => some (.int (i : Nat))) (fun i => vs[i]?)) := walk_enT
  rw [hl] at w
  exact w.mono (fun H3 l3 => SqT.of (at_ H3 l3)) fun i H3 x H4 _ l3 y => by
    obtain ⟨T, x', y', h1, h2, h3, h4, h5⟩ := y
    exact ⟨T, x', y', h1, h2, h3, (Option.some.inj h4).symm, (m i).up _ _ _ l3 (hr i y' h5)⟩
/-- the tuple stands at B -/
theorem es_enumT {ad : Addr} [m : ∀ i, Mono P Z (R i)] (he : EvE X P Z e σ B (is (.ref ad))) (hB : TG n R (.ref ad) B) (hs : starEach [e] X.env = (false, eval e X.env) :: starEach [] X.env := by rfl) : Es P Z (iEnT X.K (wA X [e])) σ B n (YP (fun i => is (.int (i : Int))) R) := fun H1 l Rr k => (ea_cons he ea_nil hs) H1 l _ fun us H2 l2 hv => by
  obtain ⟨v, r, rfl, ev, e2⟩ := hv
  obtain ⟨a', vs, ea, hx, hl, hr⟩ := hB
  cases ea
  have e2' : r = [] := e2
  have e3 : v = .ref ad := ev
  subst e2' e3
  have at_ : ∀ H3, Le P Z B H3 → H3 ad = some (.tup vs) := fun H3 l3 => tup_up l3 hx
  refine ⟨ad, vs, rfl, SqT.of (at_ H2 (l.trans l2)), k _ H2 l2 ?_⟩
  have w : Walk (ItE X.K ad) vs.length (fun H => SqT X.K H ad vs) (YPair (fun i => some (.int (i : Nat))) (fun i => vs[i]?)) := walk_enT
  rw [hl] at w
  exact w.mono (fun H3 l3 => SqT.of (at_ H3 l3)) fun i H3 x H4 _ l3 y => by
    obtain ⟨T, x', y', h1, h2, h3, h4, h5⟩ := y
    exact ⟨T, x', y', h1, h2, h3, (Option.some.inj h4).symm, (m i).up _ _ _ l3 (hr i y' h5)⟩
/-! zip -/
theorem en_zipL [m : ∀ i, Mono P Z (R i)] [m2 : ∀ i, Mono P Z (S i)] (ha : EvE X P Z a σ H (LG Z n R)) (hb : EvE X P Z b σ H (LG Z n S)) (hs : starEach [a, b] X.env = (false, eval a X.env) :: starEach [b] X.env := by rfl) (hs2 : starEach [b] X.env = (false, eval b X.env) :: starEach [] X.env := by rfl) :
    En P Z (iZip X.K (wA X [a, b])) σ H n (YP R S) := fun H1 l Rr k => (ea_cons ha (ea_cons hb ea_nil hs2) hs) H1 l _ fun us H2 l2 hv => by
  obtain ⟨v, r, rfl, ⟨ad, vs, ea, hz, hx, hl, hr⟩, v2, r2, rfl, ⟨ad2, vs2, ea2, hz2, hx2, hl2, hr2⟩, e2⟩ := hv
  have e2' : r2 = [] := e2
  subst e2' ea ea2
  refine ⟨ad, ad2, vs, vs2, rfl, SqL.of hx, SqL.of hx2, k _ H2 l2 ?_⟩
  have w : Walk (Itz X.K ad ad2) n (fun H => SqL X.K H ad vs ∧ SqL X.K H ad2 vs2) (YPair (fun i => vs[i]?) (fun i => vs2[i]?)) := walk_zip (by omega)
  exact w.mono (fun H3 l3 => ⟨SqL.of (l3.keep ad _ hz nt_lst hx), SqL.of (l3.keep ad2 _ hz2 nt_lst hx2)⟩) fun i H3 x H4 _ l3 y => by
    obtain ⟨T, x', y', h1, h2, h3, h4, h5⟩ := y
    exact ⟨T, x', y', h1, h2, h3, (m i).up _ _ _ l3 (hr i x' h4), (m2 i).up _ _ _ l3 (hr2 i y' h5)⟩
/-- both lists stand at B -/
theorem es_zipL {ad ad2 : Addr} [m : ∀ i, Mono P Z (R i)] [m2 : ∀ i, Mono P Z (S i)] (ha : EvE X P Z a σ B (is (.ref ad))) (hb : EvE X P Z b σ B (is (.ref ad2))) (h1 : LG Z n R (.ref ad) B) (h2 : LG Z n S (.ref ad2) B)
    (hs : starEach [a, b] X.env = (false, eval a X.env) :: starEach [b] X.env := by rfl) (hs2 : starEach [b] X.env = (false, eval b X.env) :: starEach [] X.env := by rfl) :
    Es P Z (iZip X.K (wA X [a, b])) σ B n (YP R S) := fun H1 l Rr k => (ea_cons ha (ea_cons hb ea_nil hs2) hs) H1 l _ fun us H2 l2 hv => by
  obtain ⟨v, r, rfl, ev, v2, r2, rfl, ev2, e2⟩ := hv
  obtain ⟨a1, vs, ea, hz, hx, hl, hr⟩ := h1
  obtain ⟨a2, vs2, ea2, hz2, hx2, hl2, hr2⟩ := h2
  cases ea
  cases ea2
  have e2' : r2 = [] := e2
  have e3 : v = .ref ad := ev
  have e4 : v2 = .ref ad2 := ev2
  subst e2' e3 e4
  have l3 := l.trans l2
  refine ⟨ad, ad2, vs, vs2, rfl, SqL.of (l3.keep ad _ hz nt_lst hx), SqL.of (l3.keep ad2 _ hz2 nt_lst hx2), k _ H2 l2 ?_⟩
  have w : Walk (Itz X.K ad ad2) n (fun H => SqL X.K H ad vs ∧ SqL X.K H ad2 vs2) (YPair (fun i => vs[i]?) (fun i => vs2[i]?)) := walk_zip (by omega)
  exact w.mono (fun H3 l3 => ⟨SqL.of (l3.keep ad _ hz nt_lst hx), SqL.of (l3.keep ad2 _ hz2 nt_lst hx2)⟩) fun i H3 x H4 _ l3 y => by
    obtain ⟨T, x', y', h1, h2, h3, h4, h5⟩ := y
    exact ⟨T, x', y', h1, h2, h3, (m i).up _ _ _ l3 (hr i x' h4), (m2 i).up _ _ _ l3 (hr2 i y' h5)⟩
theorem walk_zTT {K : PySem.W.Frag} {a b : Addr} {xs ys : List V} (hl : ys.length = xs.length) : Walk (RZ.ItzT K a b) xs.length (fun H => SqT K H a xs ∧ SqT K H b ys) (YPair (fun i => xs[i]?) (fun i => ys[i]?)) := by
  refine ⟨fun i _ hi q => ⟨xs, ys, xs[i], ys[i]'(by omega), q.1, q.2, List.getElem?_eq_getElem hi, List.getElem?_eq_getElem (by omega)⟩, fun _ q => ⟨xs, ys, q.1, q.2, .inl (Nat.le_refl _)⟩, fun i H v H' _ q y => ?_⟩
  obtain ⟨T, x, z, h1, h2, h3, h4, h5⟩ := y
  exact ⟨T, x, z, h1, h2, h3, h4 xs q.1, h5 ys q.2⟩
theorem en_zipT [m : ∀ i, Mono P Z (R i)] [m2 : ∀ i, Mono P Z (S i)] (ha : EvE X P Z a σ H (TG n R)) (hb : EvE X P Z b σ H (TG n S)) (hs : starEach [a, b] X.env = (false, eval a X.env) :: starEach [b] X.env := by rfl) (hs2 : starEach [b] X.env = (false, eval b X.env) :: starEach [] X.env := by rfl) :
    En P Z (RZ.iZipA X.K (wA X [a, b])) σ H n (YP R S) := fun H1 l Rr k => (ea_cons ha (ea_cons hb ea_nil hs2) hs) H1 l _ fun us H2 l2 hv => by
  obtain ⟨v, r, rfl, ⟨ad, vs, ea, hx, hl, hr⟩, v2, r2, rfl, ⟨ad2, vs2, ea2, hx2, hl2, hr2⟩, e2⟩ := hv
  have e2' : r2 = [] := e2
  subst e2' ea ea2
  refine ⟨ad, ad2, vs, vs2, rfl, .inr ⟨SqT.of hx, SqT.of hx2, k _ H2 l2 ?_⟩⟩
  have w := walk_zTT (K := X.K) (a := ad) (b := ad2) (xs := vs) (ys := vs2) (by omega)
  rw [hl] at w
  exact w.mono (fun H3 l3 => ⟨SqT.of (tup_up l3 hx), SqT.of (tup_up l3 hx2)⟩) fun i H3 x H4 _ l3 y => by
    obtain ⟨T, x', y', h1, h2, h3, h4, h5⟩ := y
    exact ⟨T, x', y', h1, h2, h3, (m i).up _ _ _ l3 (hr i x' h4), (m2 i).up _ _ _ l3 (hr2 i y' h5)⟩
theorem en_zLT [m : ∀ i, Mono P Z (R i)] [m2 : ∀ i, Mono P Z (S i)] (ha : EvE X P Z a σ H (LG Z n R)) (hb : EvE X P Z b σ H (TG n S)) (hs : starEach [a, b] X.env = (false, eval a X.env) :: starEach [b] X.env := by rfl) (hs2 : starEach [b] X.env = (false, eval b X.env) :: starEach [] X.env := by rfl) :
    En P Z (iZLT X.K (wA X [a, b])) σ H n (YP R S) := fun H1 l Rr k => (ea_cons ha (ea_cons hb ea_nil hs2) hs) H1 l _ fun us H2 l2 hv => by
  obtain ⟨v, r, rfl, ⟨ad, vs, ea, hz, hx, hl, hr⟩, v2, r2, rfl, ⟨ad2, vs2, ea2, hx2, hl2, hr2⟩, e2⟩ := hv
  have e2' : r2 = [] := e2
  subst e2' ea ea2
  refine ⟨ad, ad2, vs, vs2, rfl, SqL.of hx, SqT.of hx2, k _ H2 l2 ?_⟩
  have w := walk_zLT (K := X.K) (a := ad) (b := ad2) (xs := vs) (ys := vs2) (by omega)
  rw [hl] at w
  exact w.mono (fun H3 l3 => ⟨SqL.of (l3.keep ad _ hz nt_lst hx), SqT.of (tup_up l3 hx2)⟩) fun i H3 x H4 _ l3 y => by
    obtain ⟨T, x', y', h1, h2, h3, h4, h5⟩ := y
    exact ⟨T, x', y', h1, h2, h3, (m i).up _ _ _ l3 (hr i x' h4), (m2 i).up _ _ _ l3 (hr2 i y' h5)⟩
end
/-! ### loops -/
section
variable {X : Cx} {P : Addr} {Z : Option Addr} {σ : L2.St} {H B : Hp} {wi : L2.TI} {g : L2.TG} {n : Nat} {Y : Nat → Hp → V → Hp → Prop} {α : Type} {U : Nat → α → Hp → Prop} {bind : L2.St → α → L2.St} {tg iter : Expr} {body rest : List Stmt} {D : Ends} {pos : Pos}
/-- over what stands at B; Pv says that all grows from B on -/
theorem hb_for (Pv : Nat → L2.St → Hp → Prop) (hi : PI X tg iter wi) (hg : PG X tg g) (l : Le P Z B H) (es : Es P Z wi σ B n Y) (bd : Bd P Z g Y n U bind) (h0 : ∀ H1, Le P Z B H1 → Le P Z H H1 → Pv 0 σ H1) (hB : ∀ i σ' H', i ≤ n → Pv i σ' H' → Le P Z B H')
    (hs : ∀ i u σ' H' H2, i < n → Pv i σ' H' → Le P Z H' H2 → U i u H2 → wB X body { D with nx := Pv (i + 1), ct := Pv (i + 1), bk := wB X rest D } (bind σ' u) H2) (hd : ∀ σ' H', Pv n σ' H' → wB X rest D σ' H')
    (hp : PassesOwn (model X.prog X.w) X.A X.env X.xe := by exact PassesOwn.never) (hc : X.calm = true := by rfl) (hf : ∀ x, foldedSetIterable iter X.env x = pure x := by intro _; rfl) : wB X (.For tg iter body [] pos :: rest) D σ H :=
  hb_cons (ps_for hp hc hi hg pb_w hf) (es H l _ fun J H1 l1 w => for_it w Pv (h0 H1 (l.trans l1) l1) (fun i σ' H' h p => hB i σ' H' h p)
    (fun i x σ' H' H'' h p y => bd.run i x σ' H' H'' h (hB i σ' H' (Nat.le_of_lt h) p).right y _ fun u H2 l2 hu => hs i u σ' H' H2 h p l2 hu) hd)
/-- over anything, by a turn that changes nothing that stood -/
theorem hb_forN (Pv : Nat → L2.St → Hp → Prop) (hi : PI X tg iter wi) (hg : PG X tg g) (l : Le P Z B H) (es : En P Z wi σ H n Y) (bd : Bd P Z g Y n U bind) (h0 : ∀ H1, Le P Z H H1 → Pv 0 σ H1)
    (hs : ∀ i u σ' H' H2, i < n → Le P Z H H' → Le P Z B H2 → Pv i σ' H' → Le P Z H' H2 → U i u H2 → wB X body { D with nx := fun σ3 H3 => Le P Z H2 H3 ∧ Pv (i + 1) σ3 H3, ct := fun σ3 H3 => Le P Z H2 H3 ∧ Pv (i + 1) σ3 H3, bk := wB X rest D } (bind σ' u) H2)
    (hd : ∀ σ' H', Le P Z B H' → Le P Z H H' → Pv n σ' H' → wB X rest D σ' H')
    (hp : PassesOwn (model X.prog X.w) X.A X.env X.xe := by exact PassesOwn.never) (hc : X.calm = true := by rfl) (hf : ∀ x, foldedSetIterable iter X.env x = pure x := by intro _; rfl) : wB X (.For tg iter body [] pos :: rest) D σ H :=
  hb_cons (ps_for hp hc hi hg pb_w hf) (es H l.right _ fun J H1 l1 w => for_it w (fun i σ' H' => Le P Z H1 H' ∧ Pv i σ' H') ⟨l1.right, h0 H1 l1⟩ (fun i σ' H' h p => p.1)
    (fun i x σ' H' H'' h p y => bd.run i x σ' H' H'' h p.1.right y _ fun u H2 l2 hu => by
      have q := hs i u σ' H' H2 h (l1.trans p.1) ((l.trans l1).trans (p.1.trans l2)) p.2 l2 hu
      intro pins s I
      refine wpAny_mono (q pins s I) (fun f s' z => ?_) fun _ _ z => z
      cases f with
      | next => obtain ⟨σ3, H3, I3, z1, z2⟩ := z; exact ⟨σ3, H3, I3, p.1.trans (l2.trans z1), z2⟩
      | cont => obtain ⟨σ3, H3, I3, z1, z2⟩ := z; exact ⟨σ3, H3, I3, p.1.trans (l2.trans z1), z2⟩
      | brk => exact z
      | ret v => exact z) fun σ' H' p => hd σ' H' ((l.trans l1).trans p.1) (l1.trans p.1) p.2)
end
end K6

/-! ## K63Z -/
set_option Elab.async false
set_option linter.all false
set_option maxRecDepth 100000
set_option maxHeartbeats 4000000
namespace K6
open PySem PySem.Spec PyProof.Rows L2
/-! ### comprehensions -/
/-- the element, the test, in the comprehension's block, whatever its frame -/
def wEb (X : Cx) (scope : Scope) (elt : Expr) : TE := fun σ H Q => ∀ (s : Shared) (H0 : Hp) (C : Addr) (cl : List (Str × Addr)) (fp : List Addr), wE (X.blk s H0 scope (compEnvC scope cl C X.env) fp) elt σ H Q
def wTb (X : Cx) (scope : Scope) (elt : Expr) : TT := fun σ H Q => ∀ (s : Shared) (H0 : Hp) (C : Addr) (cl : List (Str × Addr)) (fp : List Addr), wT (X.blk s H0 scope (compEnvC scope cl C X.env) fp) elt σ H Q
section
variable {X : Cx} {P : Addr} {Z : Option Addr} {σ : L2.St} {H B : Hp} {wi : L2.TI} {g : L2.TG} {n : Nat} {Y : Nat → Hp → V → Hp → Prop} {α : Type} {U : Nat → α → Hp → Prop} {bind : L2.St → α → L2.St} {tg iter elt c : Expr} {R : Rp} {scope : Scope} {pos : Pos}
theorem pe_wb (s : Shared) (H0 : Hp) (C : Addr) (cl : List (Str × Addr)) (fp : List Addr) : PE (X.blk s H0 scope (compEnvC scope cl C X.env) fp) elt (wEb X scope elt) := ⟨fun pins s1 σ H Q I h => h s H0 C cl fp pins s1 I⟩
theorem pt_wb (s : Shared) (H0 : Hp) (C : Addr) (cl : List (Str × Addr)) (fp : List Addr) : PT (X.blk s H0 scope (compEnvC scope cl C X.env) fp) elt (wTb X scope elt) := ⟨fun pins s1 σ H Q I h => h s H0 C cl fp pins s1 I⟩
abbrev EvB (X : Cx) (P : Addr) (Z : Option Addr) (scope : Scope) (e : Expr) (σ : L2.St) (H : Hp) (R : Rp) : Prop := Ev P Z (wEb X scope e) σ H R
abbrev EtB (X : Cx) (P : Addr) (Z : Option Addr) (scope : Scope) (e : Expr) (σ : L2.St) (H : Hp) (b : Bool) : Prop := Et P Z (wTb X scope e) σ H b
theorem eb_of {e : Expr} (h : ∀ (s : Shared) (H0 : Hp) (C : Addr) (cl : List (Str × Addr)) (fp : List Addr), EvE (X.blk s H0 scope (compEnvC scope cl C X.env) fp) P Z e σ H R) : EvB X P Z scope e σ H R :=
  fun H1 l Q q s H0 C cl fp => h s H0 C cl fp H1 l Q q
theorem tb_of {e : Expr} {b : Bool} (h : ∀ (s : Shared) (H0 : Hp) (C : Addr) (cl : List (Str × Addr)) (fp : List Addr), EvT (X.blk s H0 scope (compEnvC scope cl C X.env) fp) P Z e σ H b) : EtB X P Z scope e σ H b :=
  fun H1 l Q q s H0 C cl fp => h s H0 C cl fp H1 l Q q
/-- the heart: what is made so far stands in the new list -/
theorem lc_heart {te : TE} {tt : TT} {vs : List Nat} (es : En P Z wi σ H n Y) (bd : Bd P Z g Y n U bind) (hn : n ≤ 100000) (hw : ∀ i u H1, U i u H1 → wipe (bind (wipe σ vs) u) vs = wipe σ vs)
    (M : Nat → List V → Hp → Prop) (m0 : ∀ H1, Le P Z H H1 → M 0 [] H1) (mlen : ∀ i xs H1, i < n → M i xs H1 → xs.length ≤ i)
    (mup : ∀ i xs H1 H2, Le P Z H1 H2 → M i xs H1 → M i xs H2)
    (turn : ∀ i u H1 xs D, i < n → Le P Z H H1 → U i u H1 → M i xs H1 → H1 D = some (.lst xs) → Z ≠ some D → ∀ Q : Bool → Hp → Prop, ∀ Q2 : VK,
      (∀ H2, Le P Z H1 H2 → M (i + 1) xs (upd H2 D (.lst xs)) → Q false H2) → (∀ H2, Le P Z H1 H2 → te (bind (wipe σ vs) u) H2 Q2 → Q true H2) →
      (∀ y H2, Le P Z H1 H2 → M (i + 1) (xs ++ [y]) (upd H2 D (.lst (xs ++ [y]))) → Q2 y H2) → tt (bind (wipe σ vs) u) H1 Q) :
    Ev P Z (tLc wi g tt te vs) σ H (fun v H1 => ∃ D xs, v = .ref D ∧ Z ≠ some D ∧ H D = none ∧ H1 D = some (.lst xs) ∧ M n xs H1) := fun H1 l Q q =>
  es H1 l _ fun J H2 l2 w D hD => by
    have zD : Z ≠ some D := l2.znew hD
    have HD : H D = none := l.dom D (l2.dom D hD)
    refine lc_it w (fun i H' => Le P Z H2 H' ∧ ∃ xs, H' D = some (.lst xs) ∧ M i xs H') ⟨l2.right.mut hD, [], upd_same, m0 _ ((l.trans l2).trans (l2.right.mut hD))⟩ (fun i H' _ p => p.1) (fun i x H' H'' hi p y => ?_) (fun H' p => ?_)
    · obtain ⟨p1, xs, p2, p3⟩ := p
      refine bd.run i x _ H' H'' hi p1.right y _ fun u H3 l3 hu => ⟨hw i u H3 hu, ?_⟩
      have d3 := l3.keep D _ zD nt_lst p2
      refine turn i u H3 xs D hi ((l.trans l2).trans (p1.trans l3)) hu (mup i xs _ _ l3 p3) d3 zD _ (fun y H4 => ∃ acc, H4 D = some (.lst acc) ∧ acc.length < sizeLine ∧ (Le P Z H2 (upd H4 D (.lst (acc ++ [y]))) ∧ ∃ xs, upd H4 D (.lst (acc ++ [y])) D = some (.lst xs) ∧ M (i + 1) xs (upd H4 D (.lst (acc ++ [y]))))) (fun H4 l4 hm => ?_) (fun H4 l4 h => ?_) fun y H4 l4 hm => ?_
      · refine iteF ⟨(p1.trans l3).trans l4, xs, l4.keep D _ zD nt_lst d3, ?_⟩
        have e : upd H4 D (.lst xs) = H4 := by
          funext b
          by_cases q : b = D
          · rw [q, upd_same, l4.keep D _ zD nt_lst d3]
          · rw [upd_ne q]
        rw [e] at hm
        exact hm
      · exact iteT h
      · have len := mlen i xs H' hi p3
        exact ⟨xs, l4.keep D _ zD nt_lst d3, Nat.lt_of_le_of_lt (Nat.le_trans len (Nat.le_of_lt (Nat.lt_of_lt_of_le hi hn))) (by decide), ((p1.trans l3).trans l4).mut hD, _, upd_same, hm⟩
    · obtain ⟨p1, xs, p2, p3⟩ := p
      exact q _ _ (l2.trans p1) ⟨D, xs, rfl, zD, HD, p2, p3⟩
/-- plain values -/
theorem lc_vals {vs : List Nat} (es : En P Z wi σ H n Y) (bd : Bd P Z g Y n U bind) (hn : n ≤ 100000) (hw : ∀ i u H1, U i u H1 → wipe (bind (wipe σ vs) u) vs = wipe σ vs) (f : Nat → V)
    (he : ∀ i u H1, i < n → Le P Z H H1 → U i u H1 → EvB X P Z scope elt (bind (wipe σ vs) u) H1 (is (f i))) : Ev P Z (tLc wi g tYes (wEb X scope elt) vs) σ H (LV Z ((List.range n).map f)) :=
  (lc_heart es bd hn hw (fun i xs _ => xs = (List.range i).map f) (fun _ _ => rfl) (fun i xs _ _ h => by rw [h, List.length_map, List.length_range]; exact Nat.le_refl _) (fun _ _ _ _ _ h => h)
    fun i u H1 xs D hi l hu hm hD zD Q Q2 h1 h2 h3 => h2 H1 l.right (he i u H1 hi l hu H1 l.right _ fun v H2 l2 hv => h3 v H2 l2 (by
      have hv' : v = f i := hv
      rw [hm, List.range_succ, List.map_append, hv']
      rfl))).imp fun v H1 l ⟨D, xs, e, z, _, h, hm⟩ => ⟨D, e, z, by rw [h, hm]⟩
/-- plain values of the items that pass -/
theorem lc_some {vs : List Nat} (es : En P Z wi σ H n Y) (bd : Bd P Z g Y n U bind) (hn : n ≤ 100000) (hw : ∀ i u H1, U i u H1 → wipe (bind (wipe σ vs) u) vs = wipe σ vs) (b : Nat → Bool) (f : Nat → V)
    (ht : ∀ i u H1, i < n → Le P Z H H1 → U i u H1 → EtB X P Z scope c (bind (wipe σ vs) u) H1 (b i))
    (he : ∀ i u H1, i < n → Le P Z H H1 → U i u H1 → b i = true → EvB X P Z scope elt (bind (wipe σ vs) u) H1 (is (f i))) [mu : ∀ i u, Mono P Z (fun _ H => U i u H)] : Ev P Z (tLc wi g (wTb X scope c) (wEb X scope elt) vs) σ H (LV Z (((List.range n).filter b).map f)) :=
  (lc_heart es bd hn hw (fun i xs _ => xs = ((List.range i).filter b).map f) (fun _ _ => rfl) (fun i xs _ _ h => by
      rw [h, List.length_map]
      have q := List.length_filter_le b (List.range i)
      rw [List.length_range] at q
      exact q) (fun _ _ _ _ _ h => h)
    fun i u H1 xs D hi l hu hm hD zD Q Q2 h1 h2 h3 => ht i u H1 hi l hu H1 l.right Q fun H2 l2 => by
      cases e : b i with
      | false =>
        refine h1 H2 l2 ?_
        rw [hm, List.range_succ, List.filter_append, List.filter_cons, if_neg (by rw [e]; exact Bool.false_ne_true)]
        show _ = List.map f (_ ++ [])
        rw [List.append_nil]
      | true =>
        refine h2 H2 l2 (he i u H2 hi (l.trans l2) ((mu i u).up .non _ _ l2 hu) e H2 l2.right _ fun v H3 l3 hv => h3 v H3 (l2.trans l3) ?_)
        have hv' : v = f i := hv
        rw [hm, List.range_succ, List.filter_append, List.filter_cons, if_pos e, List.map_append, hv']
        rfl).imp fun v H1 l ⟨D, xs, e, z, _, h, hm⟩ => ⟨D, e, z, by rw [h, hm]⟩
end
/-- things that no change of a list of things touches -/
class Ob (R : Rp) : Prop where
  ref : ∀ v H, R v H → ∀ n, v ≠ .int n
  off : ∀ v H D vs o, R v H → H D = some (.lst vs) → (∀ x ∈ vs, ∀ n, x ≠ V.int n) → R v (upd H D o)
theorem ref_int {a : Addr} {n : Int} : V.ref a ≠ V.int n := fun q => by cases q
theorem upd_off {H : Hp} {a D : Addr} {xs vs : List V} {o : HO} (h : H a = some (.tup xs)) (hD : H D = some (.lst vs)) : upd H D o a = some (.tup xs) := by
  rw [upd_ne (ne_of h hD (fun q => by cases q))]
  exact h
theorem upd_offL {H : Hp} {a D : Addr} {ns : List Int} {vs : List V} {o : HO} (hn : ns ≠ []) (h : H a = some (.lst (ns.map V.int))) (hD : H D = some (.lst vs)) (hv : ∀ x ∈ vs, ∀ n, x ≠ V.int n) : upd H D o a = some (.lst (ns.map V.int)) := by
  have ne : a ≠ D := fun q => by
    rw [q, hD] at h
    have e2 : vs = ns.map V.int := by injection (Option.some.inj h)
    cases ns with
    | nil => exact hn rfl
    | cons n r => exact hv (.int n) (by rw [e2]; exact List.mem_cons_self) n rfl
  rw [upd_ne ne]
  exact h
instance ob_tv {xs : List V} : Ob (TV xs) where
  ref := fun v H h n => by
    obtain ⟨a, e, _⟩ := h
    rw [e]
    exact ref_int
  off := fun v H D vs o h hD _ => by
    obtain ⟨a, e, h⟩ := h
    exact ⟨a, e, upd_off h hD⟩
theorem ob_il {Z : Option Addr} {ns : List Int} (hn : ns ≠ []) : Ob (IL Z ns) where
  ref := fun v H h n => by
    obtain ⟨a, e, _⟩ := h
    rw [e]
    exact ref_int
  off := fun v H D vs o h hD hv => by
    obtain ⟨a, e, z, h⟩ := h
    exact ⟨a, e, z, upd_offL hn h hD hv⟩
section
variable {X : Cx} {P : Addr} {Z : Option Addr} {σ : L2.St} {H B : Hp} {wi : L2.TI} {g : L2.TG} {n : Nat} {Y : Nat → Hp → V → Hp → Prop} {α : Type} {U : Nat → α → Hp → Prop} {bind : L2.St → α → L2.St} {tg iter elt c : Expr} {R : Nat → Rp} {scope : Scope} {pos : Pos}
/-- things -/
theorem lc_objs {vs : List Nat} (es : En P Z wi σ H n Y) (bd : Bd P Z g Y n U bind) (hn : n ≤ 100000) (hw : ∀ i u H1, U i u H1 → wipe (bind (wipe σ vs) u) vs = wipe σ vs) (ob : ∀ i, i < n → Ob (R i)) [mr : ∀ i, Mono P Z (R i)]
    (he : ∀ i u H1, i < n → Le P Z H H1 → U i u H1 → EvB X P Z scope elt (bind (wipe σ vs) u) H1 (R i)) :
    Ev P Z (tLc wi g tYes (wEb X scope elt) vs) σ H (fun v H1 => ∃ D xs, v = .ref D ∧ Z ≠ some D ∧ H D = none ∧ H1 D = some (.lst xs) ∧ xs.length = n ∧ ∀ i x, xs[i]? = some x → R i x H1) :=
  (lc_heart es bd hn hw (fun i xs H1 => i ≤ n ∧ xs.length = i ∧ ∀ k x, xs[k]? = some x → R k x H1) (fun _ _ => ⟨Nat.zero_le _, rfl, fun k x h => by simp at h⟩) (fun i xs _ _ h => Nat.le_of_eq h.2.1) (fun i xs _ _ l h => ⟨h.1, h.2.1, fun k x hx => (mr k).up _ _ _ l (h.2.2 k x hx)⟩)
    fun i u H1 xs D hi l hu hm hD zD Q Q2 h1 h2 h3 => h2 H1 l.right (he i u H1 hi l hu H1 l.right _ fun v H2 l2 hv => h3 v H2 l2 (by
      obtain ⟨_, e1, e2⟩ := hm
      have hD2 := l2.keep D _ zD nt_lst hD
      have noint : ∀ x ∈ xs, ∀ n, x ≠ V.int n := fun x hx m => by
        obtain ⟨k, hk, ek⟩ := List.getElem_of_mem hx
        exact (ob k (by omega)).ref x H1 (e2 k x (by rw [List.getElem?_eq_getElem hk, ek])) m
      refine ⟨hi, by rw [List.length_append, e1]; rfl, fun k x hx => ?_⟩
      by_cases q : k < xs.length
      · rw [List.getElem?_append_left q] at hx
        exact (ob k (by omega)).off x H2 D xs _ ((mr k).up _ _ _ l2 (e2 k x hx)) hD2 noint
      · have ek : k = i := by
          have := (List.getElem?_eq_some_iff.mp hx).1
          rw [List.length_append] at this
          have h1 : [v].length = 1 := rfl
          omega
        rw [ek, ← e1, List.getElem?_append_right (Nat.le_refl _), Nat.sub_self] at hx
        have ev : v = x := Option.some.inj hx
        rw [ek, ← ev]
        exact (ob i hi).off v H2 D xs _ hv hD2 noint))).imp fun v H1 l ⟨D, xs, e, z, f, h, _, h1, h2⟩ => ⟨D, xs, e, z, f, h, h1, h2⟩
theorem lg_of {v : V} {H H1 : Hp} (h : ∃ D xs, v = .ref D ∧ Z ≠ some D ∧ H D = none ∧ H1 D = some (.lst xs) ∧ xs.length = n ∧ ∀ i x, xs[i]? = some x → R i x H1) : LG Z n R v H1 := let ⟨D, xs, e, z, _, h⟩ := h; ⟨D, xs, e, z, h⟩
end
/-! as a value, as what a name is set to -/
section
variable {X : Cx} {P : Addr} {Z : Option Addr} {σ : L2.St} {H B : Hp} {wi : L2.TI} {g : L2.TG} {tg iter elt c : Expr} {R : Rp} {scope : Scope} {own : List (Str × Nat)} {pos spos : Pos} {D : Ends} {rest : List Stmt}
theorem ev_lc (nd : X.N.Nodup) (hi : PI X tg iter wi) (ok : BlkOk X.N X.env.scope scope own) (hg : ∀ (s : Shared) (H : Hp) (C : Addr) (cl : List (Str × Addr)) (fp : List Addr), PG (X.blk s H scope (compEnvC scope cl C X.env) fp) tg g)
    (h : Ev P Z (tLc wi g tYes (wEb X scope elt) (own.map (·.2))) σ H R) (hc : X.calm = true := by rfl) (hf : ∀ x, foldedSetIterable iter X.env x = pure x := by intro _; rfl) : EvE X P Z (.ListComp elt [⟨tg, iter, [], 0⟩] scope pos) σ H R :=
  ev_of (pe_lc hc nd hi ok hg (fun _ _ _ _ _ => pts_nil) (fun s H C cl fp => pe_wb s H C cl fp) hf) h
theorem ev_lcT (nd : X.N.Nodup) (hi : PI X tg iter wi) (ok : BlkOk X.N X.env.scope scope own) (hg : ∀ (s : Shared) (H : Hp) (C : Addr) (cl : List (Str × Addr)) (fp : List Addr), PG (X.blk s H scope (compEnvC scope cl C X.env) fp) tg g)
    (h : Ev P Z (tLc wi g (wTb X scope c) (wEb X scope elt) (own.map (·.2))) σ H R) (hc : X.calm = true := by rfl) (hf : ∀ x, foldedSetIterable iter X.env x = pure x := by intro _; rfl) : EvE X P Z (.ListComp elt [⟨tg, iter, [c], 0⟩] scope pos) σ H R :=
  ev_of (pe_lc hc nd hi ok hg (fun s H C cl fp => pts_one (pt_wb s H C cl fp)) (fun s H C cl fp => pe_wb s H C cl fp) hf) h
/-- y = [..] -/
theorem hb_lc {y : Str} {py : Pos} (i : Nat) (l : Le P Z B H) (nd : X.N.Nodup) (hi : PI X tg iter wi) (ok : BlkOk X.N X.env.scope scope own) (hg : ∀ (s : Shared) (H : Hp) (C : Addr) (cl : List (Str × Addr)) (fp : List Addr), PG (X.blk s H scope (compEnvC scope cl C X.env) fp) tg g)
    (h : Ev P Z (tLc wi g tYes (wEb X scope elt) (own.map (·.2))) σ H R) (k : ∀ v H1, Le P Z B H1 → Le P Z H H1 → R v H1 → wB X rest D (σ.set i (some v)) H1)
    (hsw : swapsWith (.ListComp elt [⟨tg, iter, [], 0⟩] scope pos) (some (.Name y py)) spos.line X.env = pure true)
    (hy : X.N[i]? = some y := by rfl) (hyl : X.env.scope.names.lookup y = some .local := by rfl) (hc : X.calm = true := by rfl) (hf : ∀ x, foldedSetIterable iter X.env x = pure x := by intro _; rfl) :
    wB X (.Assign [.Name y py] (.ListComp elt [⟨tg, iter, [], 0⟩] scope pos) spos :: rest) D σ H :=
  hb_cons (ps_setLc hc nd hy hyl hsw hi ok hg (fun _ _ _ _ _ => pts_nil) (fun s H C cl fp => pe_wb s H C cl fp) hf) (h H l.right _ fun v H1 l1 hv => k v H1 (l.trans l1) l1 hv)
theorem hb_lcT {y : Str} {py : Pos} (i : Nat) (l : Le P Z B H) (nd : X.N.Nodup) (hi : PI X tg iter wi) (ok : BlkOk X.N X.env.scope scope own) (hg : ∀ (s : Shared) (H : Hp) (C : Addr) (cl : List (Str × Addr)) (fp : List Addr), PG (X.blk s H scope (compEnvC scope cl C X.env) fp) tg g)
    (h : Ev P Z (tLc wi g (wTb X scope c) (wEb X scope elt) (own.map (·.2))) σ H R) (k : ∀ v H1, Le P Z B H1 → Le P Z H H1 → R v H1 → wB X rest D (σ.set i (some v)) H1)
    (hsw : swapsWith (.ListComp elt [⟨tg, iter, [c], 0⟩] scope pos) (some (.Name y py)) spos.line X.env = pure true)
    (hy : X.N[i]? = some y := by rfl) (hyl : X.env.scope.names.lookup y = some .local := by rfl) (hc : X.calm = true := by rfl) (hf : ∀ x, foldedSetIterable iter X.env x = pure x := by intro _; rfl) :
    wB X (.Assign [.Name y py] (.ListComp elt [⟨tg, iter, [c], 0⟩] scope pos) spos :: rest) D σ H :=
  hb_cons (ps_setLc hc nd hy hyl hsw hi ok hg (fun s H C cl fp => pts_one (pt_wb s H C cl fp)) (fun s H C cl fp => pe_wb s H C cl fp) hf) (h H l.right _ fun v H1 l1 hv => k v H1 (l.trans l1) l1 hv)
end
/-! ### short words -/
theorem it_tg {ns : List Int} {v : V} {H : Hp} (h : IT ns v H) : TG ns.length (fun i => is (.int (K63.g ns i))) v H := by
  obtain ⟨a, e, h⟩ := h
  refine ⟨a, _, e, h, List.length_map .., fun i x hx => ?_⟩
  have hi : i < ns.length := by
    have := (List.getElem?_eq_some_iff.mp hx).1
    rw [List.length_map] at this
    exact this
  rw [List.getElem?_map, K63.g_lt hi] at hx
  exact (Option.some.inj hx).symm
theorem il_lg {Z : Option Addr} {ns : List Int} {v : V} {H : Hp} (h : IL Z ns v H) : LG Z ns.length (fun i => is (.int (K63.g ns i))) v H := by
  obtain ⟨a, e, z, h⟩ := h
  refine ⟨a, _, e, z, h, List.length_map .., fun i x hx => ?_⟩
  have hi : i < ns.length := by
    have := (List.getElem?_eq_some_iff.mp hx).1
    rw [List.length_map] at this
    exact this
  rw [List.getElem?_map, K63.g_lt hi] at hx
  exact (Option.some.inj hx).symm
theorem map_tab (n : Nat) (f : Nat → Int) : (List.range n).map (fun i => V.int (f i)) = (K63.tab n f).map V.int := by
  unfold K63.tab
  rw [List.map_map]
  rfl
section
variable {X : Cx} {P : Addr} {Z : Option Addr} {σ : L2.St} {H B : Hp} {R Rb : Rp} {a b e : Expr} {pos p px : Pos} {D : Ends} {rest : List Stmt}
theorem ev_gcd {i j : Int} (hm : X.mg "gcd" = some (.builtin "math.gcd")) (ha : EvE X P Z a σ H (is (.int i))) (hb : EvE X P Z b σ H (is (.int j))) (hg : Gl X "gcd" := by rfl)
    (he : starEach [a, b] X.env = (false, eval a X.env) :: starEach [b] X.env := by rfl) (he2 : starEach [b] X.env = (false, eval b X.env) :: starEach [] X.env := by rfl) (hpl : (backTo pos (starEach [b] X.env)).any (·.1) = false := by rfl) :
    EvE X P Z (.Call (.Name "gcd" p) [a, b] [] pos) σ H (is (.int (K63.gcd2 i j))) :=
  ev_of (pe_callBfun cr_gcd hg hm pa_w (by decide) he hpl) fun H1 l Q q => (ea_cons ha (ea_cons hb ea_nil he2) he) H1 l _ fun vs H2 l2 hv => by
    obtain ⟨u, r, rfl, hu, u2, r2, rfl, hu2, hr⟩ := hv
    have e0 : r2 = [] := hr
    have e1 : u = .int i := hu
    have e2 : u2 = .int j := hu2
    subst e0 e1 e2
    exact ⟨i, j, rfl, q _ H2 l2 rfl⟩
/-- x op= e on integers -/
theorem hb_aug {x : Str} {op : Operator} {C : Int → Int → Prop} {g : Int → Int → V} {i j : Int} (k : Nat) (l : Le P Z B H) (nd : X.N.Nodup) (hv : σ[k]? = some (some (.int i))) (he : EvE X P Z e σ H (is (.int j))) (ho : PIp X op (rI C g)) (hc : C i j)
    (next : ∀ H1, Le P Z B H1 → Le P Z H H1 → wB X rest D (σ.set k (some (g i j))) H1) (hi : X.N[k]? = some x := by rfl) (hx : Loc X.env.scope x := by first | exact Or.inl rfl | exact Or.inr rfl)
    (hf : X.fn x = true ∨ X.env.scope.names.lookup x = some .local := by first | exact .inl rfl | exact .inr rfl) : wB X (.AugAssign (.Name x px) op e pos :: rest) D σ H :=
  hb_cons (ps_aug nd hi hx pe_w ho hf) ⟨.int i, hv, he H l.right _ fun v H1 l1 r => ⟨i, j, rfl, r, hc, next H1 (l.trans l1) l1⟩⟩
end
end K6

/-! ## K63T -/
set_option Elab.async false
set_option linter.all false
set_option maxRecDepth 100000
set_option maxHeartbeats 4000000
/-! The text by places, what its top leaves. -/
namespace K6
open PySem PySem.Spec PyProof.Rows L2
def top (i : Nat) : Stmt := PySem.Challenge.pw_sourceforms_k63_whole_level_tables_and_a.main.body.getD i (.Pass ⟨0, 0, 0, 0⟩)
/-- a def of the top as it stands -/
abbrev FnP (K : PySem.W.Frag) (x : Str) (i : Nat) (f : Addr) (fd : FuncData) : Prop := FunD K x x (defArgs (top i)) (defBody (top i)) (defScope (top i)) [] [] f fd
/-- what the top's names stand for -/
structure G0 (mg : Str → Option Value) : Prop where
  isinstance : mg "isinstance" = none
  int : mg "int" = none
  bool : mg "bool" = none
  tuple : mg "tuple" = none
  list : mg "list" = none
  all : mg "all" = none
  any : mg "any" = none
  len : mg "len" = none
  range : mg "range" = none
  enum : mg "enumerate" = none
  zip : mg "zip" = none
  sum : mg "sum" = none
  min : mg "min" = none
  max : mg "max" = none
  abs : mg "abs" = none
  repr : mg "repr" = none
  next : mg "next" = none
  iter : mg "iter" = none
  gcd : mg "gcd" = some (.builtin "math.gcd")
  great : ∃ t, mg "GREATEST" = some (.int (10 ^ 60) t)
  most : ∃ t, mg "MAX_DEGREE" = some (.int 40 t)
theorem fk_of {P : Program} {w : World} {K : PySem.W.Frag} {mg : Str → Option Value} {base : Heap} {x : Str} {i k : Nat} {ps : List Str} {sp : Sp} (d : ∃ f fd, FnP K x i f fd ∧ mg x = some (.ref f))
    (ok : ∀ f fd, FnP K x i f fd → FnOk P w K mg base CX0 k f fd ps sp)
    (b : ∀ (kV doc pm : Value) (an : Option Addr) (cdv ct : Value) (us : List Value), us.length = ps.length → bindArgs (PySem.W.fnOf x x (defArgs (top i)) (defBody (top i)) (defScope (top i)) .none kV doc pm an cdv ct) ⟨us, []⟩ = pure (ps.zip us)) : Fk P w K mg base x k ps sp := by
  obtain ⟨f, fd, F, g⟩ := d
  exact ⟨f, fd, ok f fd F, g, F.kp, F.bindsN b⟩
/-- a promise of a def that changes nothing: what its argument values ask, what it hands back -/
def pure_ {A : Type} (T : Addr) (args : A → List V → Hp → Prop) (R : A → Rp) : Sp := fun vs H Q _ => ∃ a, args a vs H ∧ ∀ v H', Le T none H H' → R a v H' → Q v H'
end K6

/-! ## H1 -/
set_option Elab.async false
set_option linter.all false
set_option maxRecDepth 100000
set_option maxHeartbeats 0
/-! The head: what the top leaves. -/
namespace K6
open PySem PySem.Spec PyProof.Rows L2 SlX
abbrev K63R : PySem.W.OpenRow := PySem.W.OpenLaw.row PySem.Challenge.rw_sourceforms_k63_whole_level_tables_and_a
def gd (x : Str) (i : Nat) : He.DefD := ⟨(x, none), x, x, defArgs (top i), defBody (top i), defScope (top i), [], []⟩
def cd (C x qual : Str) (i j : Nat) : He.DefD := ⟨(C, some x), x, qual, defArgs (inClass (top i) j), defBody (inClass (top i) j), defScope (inClass (top i) j), [], []⟩
def fn : List He.DefD := [gd "is_whole" 11, gd "is_short" 12, gd "is_from" 13, gd "are_short" 14, gd "require_from" 16, gd "shared_of" 17, gd "first_of" 18, gd "primitive_of" 19, gd "factorial_of" 20, gd "less_head" 22, gd "echelon_rows" 23, gd "lead_of" 24, gd "kernel_rows" 25,
  gd "joined_entries" 29, gd "derived_in" 32, gd "is_zero_in" 33, cd "Told" "__init__" "Told.__init__" 34 1, gd "are_entries" 35, cd "Form" "__init__" "Form.__init__" 36 1, cd "Form" "__mul__" "Form.__mul__" 36 17, cd "Form" "__eq__" "Form.__eq__" 36 18, cd "Form" "__len__" "Form.__len__" 36 19, cd "Form" "__iter__" "Form.__iter__" 36 20,
  gd "form_of" 37, gd "require_form" 38, gd "level_entries" 41, gd "level_rows" 42, gd "killed_in" 43, gd "does_kill_in" 44, gd "killers_in" 45, gd "level_table" 46, gd "does_kill" 47, gd "killed" 48, gd "killers" 49,
  gd "_law_dice" 51, gd "_law_roll" 52, gd "_law_near" 53, gd "_law_gcd" 54, gd "_law_shared" 55, gd "_law_plus" 56, gd "_law_scaled" 57, gd "_law_product" 58, gd "_law_all_product" 59, gd "_law_power" 60, gd "_law_by_x" 61, gd "_law_by_y" 62, gd "_law_derived" 63, gd "_law_plain" 64, gd "_law_line" 65, gd "_law_point" 66, gd "_law_small_form" 67, gd "_law_form" 68, gd "_law_levels" 69, gd "_law_killer_table" 70, gd "_law_acted" 71, gd "_law_is_acting_right" 72, gd "_law_right" 73, gd "law" 74]
def globs : List Str := (["is_whole", "is_short", "is_from", "are_short", "require_from", "shared_of", "first_of", "primitive_of", "factorial_of", "less_head", "echelon_rows", "lead_of", "kernel_rows", "joined_entries", "derived_in", "is_zero_in", "are_entries", "form_of", "require_form", "level_entries", "level_rows", "killed_in", "does_kill_in", "killers_in", "level_table", "does_kill", "killed", "killers",
  "_law_dice", "_law_roll", "_law_near", "_law_gcd", "_law_shared", "_law_plus", "_law_scaled", "_law_product", "_law_all_product", "_law_power", "_law_by_x", "_law_by_y", "_law_derived", "_law_plain", "_law_line", "_law_point", "_law_small_form", "_law_form", "_law_levels", "_law_killer_table", "_law_acted", "_law_is_acting_right", "_law_right", "law", "Told", "Form"] : List String).map Str.ofString
def frees : List Str := (["isinstance", "int", "bool", "tuple", "list", "all", "any", "len", "range", "enumerate", "zip", "sum", "min", "max", "abs", "repr", "next", "iter"] : List String).map Str.ofString
def fa : List He.Fa := globs.map He.Fa.glo ++ frees.map He.Fa.free ++ [.int "GREATEST" (10 ^ 60), .int "MAX_DEGREE" 40, .mkr "Told", .mkr "Form"]
def tf : List He.Defn := [("first_of", none)]
/-! more of the two classes -/
def clsB (K : PySem.W.Frag) (C : Addr) (f : Str) : Bool :=
  PySem.W.plainGet K C Str.empty && (PySem.W.isClsIn K C && (PySem.W.plainOver K C && (He.eqO (PySem.W.findIn K (.ref C) "__setattr__") (some (some (.builtin "object.__setattr__"))) &&
  (He.eqO (PySem.W.findIn K (.ref C) f) (some (some (.ref (He.ma K C f)))) && (He.eqO (PySem.W.specialIn K (.ref (He.ma K C f)) "__get__") (some (some (.builtin "member_descriptor.__get__"))) && (decide (PySem.W.takesIn K (.ref (He.ma K C f)) = some true) &&
  (decide (PySem.W.typeIn K (.ref (He.ma K C f)) = some (.type "member_descriptor")) && (decide (PySem.W.slotIn K (He.ma K C f) C = some 0) &&
  (He.eqO (PySem.W.findIn K (.ref C) "__class__") (some (some (.builtin "object.__class__"))) && (He.eqO (PySem.W.specialIn K (.builtin "object.__class__") "__get__") (some (some (.builtin "getset_descriptor.__get__"))) && (decide (PySem.W.takesIn K (.builtin "object.__class__") = some true) && (decide (PySem.W.mroIn K C (.type "object") = some true) &&
  (decide (PySem.W.kitOne K (.ref C) (.ref C) = some true) && decide (PySem.W.kitOne K (.type "tuple") (.ref C) = some false))))))))))))))
def getter (K : PySem.W.Frag) (C : Addr) (f : Str) : Addr := match PySem.W.recIn K (He.ma K C f) "property" with
  | some (.ref g :: _) => g
  | _ => 0
def propB (K : PySem.W.Frag) (C : Addr) (f qual : Str) : Bool :=
  He.eqO (PySem.W.findIn K (.ref C) f) (some (some (.ref (He.ma K C f)))) && (He.eqO (PySem.W.specialIn K (.ref (He.ma K C f)) "__get__") (some (some (.builtin "property.__get__"))) && (decide (PySem.W.takesIn K (.ref (He.ma K C f)) = some true) &&
  ((match PySem.W.recIn K (He.ma K C f) "property" with
    | some (.ref _ :: _) => true
    | _ => false) && (PySem.W.keepIn K (.ref (getter K C f)) && (match K.lookup (getter K C f) with
    | some ⟨_, _, .func fd, _⟩ => PySem.W.codeIn K fd.code qual && (He.dflB K fd.defaults [] && He.kwdB K fd.kwdefaults [])
    | _ => false)))))
def methB (K : PySem.W.Frag) (C : Addr) (m : Str) : Bool := He.eqO (PySem.W.findIn K (.ref C) m) (some (some (.ref (He.ma K C m)))) && PySem.W.isFn K (.ref (He.ma K C m))
def ex (K : PySem.W.Frag) : Bool :=
  He.eqO (PySem.W.nsIn K mainGlobals "gcd") (some (some (.builtin "math.gcd"))) && (clsB K (He.ga K "Told") "own_row" && (clsB K (He.ga K "Form") "own_entries" && (propB K (He.ga K "Form") "entries" "Form.entries" && (propB K (He.ga K "Form") "degree" "Form.degree" &&
  (methB K (He.ga K "Form") "__mul__" && (methB K (He.ga K "Form") "__eq__" && (methB K (He.ga K "Form") "__len__" && (methB K (He.ga K "Form") "__iter__" && (PySem.W.selfFirst K (He.ga K "Form") && (He.eqO (PySem.W.findIn K (.ref (He.ga K "Form")) "__ne__") (some (some (.builtin "object.__ne__"))) && PySem.W.notFirst K (He.ga K "Form") (.ref (He.ga K "Form"))))))))))))
/-! the getters' text -/
def fnG (K : PySem.W.Frag) (g : Addr) : He.FnW := match K.lookup g with
  | some ⟨_, _, .func fd, _⟩ => some (fd.name, fd.qualname, fd.params, fd.body, fd.scope, fd.globals, fd.closure, fd.builtins)
  | _ => none
def gs : List He.DefD := [cd "Form" "entries" "Form.entries" 36 4, cd "Form" "degree" "Form.degree" 36 5]
def obsG (K : PySem.W.Frag) : List He.FnW := gs.map fun d => fnG K (getter K (He.ga K "Form") d.name)
/-- the addresses that the head leaves and the names reach: numbers, so that nothing is sought in the kernel -/
def AS : List Addr := [3, 6, 4, 49, 59, 72, 84, 96, 117, 139, 149, 156, 163, 168, 175, 182, 189, 196, 201, 208, 213, 218, 223, 228, 235, 240, 247, 254, 259, 266, 285, 295, 459, 469, 476, 481, 486, 491,
  496, 503, 508, 515, 522, 529, 534, 541, 548, 555, 562, 569, 574, 579, 584, 591, 598, 603, 608, 615, 620, 627, 634, 639, 644, 651, 656, 661, 666, 671, 676, 0, 48, 58, 71, 83, 95,
  116, 138, 148, 155, 162, 167, 174, 181, 188, 195, 200, 207, 212, 217, 222, 227, 234, 239, 246, 253, 258, 265, 284, 294, 458, 468, 475, 480, 485, 490, 495, 502, 507, 514, 521, 528,
  533, 540, 547, 554, 561, 568, 573, 578, 583, 590, 597, 602, 607, 614, 619, 626, 633, 638, 643, 650, 655, 660, 665, 670, 675, 43, 44, 45, 46, 47, 57, 60, 70, 82, 94, 114, 115, 118,
  136, 137, 140, 143, 144, 145, 146, 147, 150, 151, 152, 153, 154, 157, 158, 159, 160, 161, 164, 165, 166, 169, 170, 171, 172, 173, 176, 177, 178, 179, 180, 183, 184, 185, 186, 187,
  190, 191, 192, 193, 194, 197, 198, 199, 202, 203, 204, 205, 206, 209, 210, 211, 214, 215, 216, 219, 220, 221, 224, 225, 226, 229, 230, 231, 232, 233, 236, 237, 238, 241, 242, 243,
  244, 245, 248, 249, 250, 251, 252, 255, 256, 257, 260, 261, 262, 263, 264, 274, 281, 282, 286, 289, 290, 291, 292, 293, 303, 310, 319, 329, 338, 346, 354, 362, 370, 377, 384, 391,
  398, 405, 412, 419, 424, 429, 436, 443, 450, 455, 456, 460, 463, 464, 465, 466, 467, 470, 471, 472, 473, 474, 477, 478, 479, 482, 483, 484, 487, 488, 489, 492, 493, 494, 497, 498,
  499, 500, 501, 504, 505, 506, 509, 510, 511, 512, 513, 516, 517, 518, 519, 520, 523, 524, 525, 526, 527, 530, 531, 532, 535, 536, 537, 538, 539, 542, 543, 544, 545, 546, 549, 550,
  551, 552, 553, 556, 557, 558, 559, 560, 563, 564, 565, 566, 567, 570, 571, 572, 575, 576, 577, 580, 581, 582, 585, 586, 587, 588, 589, 592, 593, 594, 595, 596, 599, 600, 601, 604,
  605, 606, 609, 610, 611, 612, 613, 616, 617, 618, 621, 622, 623, 624, 625, 628, 629, 630, 631, 632, 635, 636, 637, 640, 641, 642, 645, 646, 647, 648, 649, 652, 653, 654, 657, 658,
  659, 662, 663, 664, 667, 668, 669, 672, 673, 674, 113, 102, 135, 124, 280, 309, 317, 318, 327, 328, 337, 345, 353, 361, 369, 376, 383, 390, 397, 404, 411, 418, 423, 428, 435, 442,
  449, 454, 108, 109, 110, 111, 112, 130, 131, 132, 133, 134, 275, 276, 277, 278, 279, 304, 305, 306, 307, 308, 316, 320, 326, 330, 336, 344, 352, 360, 368, 371, 372, 373, 374, 375,
  378, 379, 380, 381, 382, 385, 386, 387, 388, 389, 392, 393, 394, 395, 396, 399, 400, 401, 402, 403, 406, 407, 408, 409, 410, 413, 414, 415, 416, 417, 420, 421, 422, 425, 426, 427,
  430, 431, 432, 433, 434, 437, 438, 439, 440, 441, 444, 445, 446, 447, 448, 451, 452, 453, 311, 312, 313, 314, 315, 321, 322, 323, 324, 325, 331, 332, 333, 334, 335, 339, 340, 341,
  342, 343, 347, 348, 349, 350, 351, 355, 356, 357, 358, 359, 363, 364, 365, 366, 367]
abbrev KA (g : Addr → Option Obj) : PySem.W.Frag := He.frT g AS
def tabOk (g : Addr → Option Obj) (K : PySem.W.Frag) (p : He.Defn) : Bool :=
  PySem.W.codeHdIn K (He.cT K p).1 (He.cT K p).2 && (g (He.cT K p).2).elim false He.emptyTab
def obs9 (g : Addr → Option Obj) : He.AlX × List He.FnW := ((He.obsT fa fn [] (KA g), ex (KA g) && tf.all (tabOk g (KA g))), obsG (KA g))
theorem says_of {w : World} {h : Heap} {v : List He.FnW} (e : obs9 h.get? = (He.valX fn [] w, v)) : He.SaysX fa fn [] tf ex w h (KA h.get?) := by
  obtain ⟨a, b⟩ := Bool.and_eq_true_iff.mp (congrArg (fun z : He.AlX × List He.FnW => z.1.2) e)
  have k : ∀ p : He.Defn, p ∈ tf → ∃ o, PySem.W.codeHdIn (KA h.get?) (He.cT (KA h.get?) p).1 (He.cT (KA h.get?) p).2 = true ∧ h.get? (He.cT (KA h.get?) p).2 = some o ∧ He.emptyTab o = true := by
    intro p hp
    obtain ⟨c, d⟩ := Bool.and_eq_true_iff.mp (List.all_eq_true.mp b p hp)
    cases q : h.get? (He.cT (KA h.get?) p).2 with
    | some o => exact ⟨o, c, rfl, by rw [q] at d; exact d⟩
    | none => rw [q] at d; cases d
  constructor
  · exact congrArg (fun z : He.AlX × List He.FnW => z.1.1) e
  · exact a
  · intro p hp; obtain ⟨_, c, _, _⟩ := k p hp; exact c
  · intro p hp; obtain ⟨_, _, q, z⟩ := k p hp; exact He.frT_none q z
  · intro p hp; obtain ⟨o, _, q, z⟩ := k p hp; rw [q, He.emptyTab_eq z]
def val9 (w : World) : He.AlX × List He.FnW := (He.valX fn [] w, gs.map He.DefD.val)
def hk : PySem.W.Hook where
  α := He.AlX × List He.FnW
  obs := fun s => obs9 s.heap.get?
  val := val9
  says := fun w h => ∃ K : PySem.W.Frag, K.In h ∧ He.SaysX fa fn [] tf ex w h K ∧ obsG K = gs.map He.DefD.val
  of := fun _ _ e => ⟨_, He.frT_in, says_of e, congrArg (fun z : He.AlX × List He.FnW => z.2) e⟩
  keeps := fun _ _ _ ⟨K, hK, c, d⟩ k => ⟨K, PySem.W.Frag.In.keeps hK k, ⟨c.t, c.more, c.hd, c.out, fun p hp => k _ _ (c.empty p hp)⟩, d⟩
def ob (s : PySem.W.SharedT) : He.AlX × List He.FnW := obs9 (HandSHeadRun.getT s)
theorem ob_eq (s : PySem.W.SharedT) : ob s = hk.obs s.abs := by
  have e : HandSHeadRun.getT s = s.abs.heap.get? := funext (HandSHeadRun.getT_eq s)
  unfold ob
  rw [e]
  rfl
def loose : List Str := (["gcd", "_wall", "LetterError", "InvalidForm", "InvalidPoint", "InvalidOperation", "InvalidNumber", "TooMany", "GREATEST", "is_whole", "is_short", "is_from", "are_short", "require_short", "require_from", "shared_of", "first_of", "primitive_of", "factorial_of", "less_head", "echelon_rows", "lead_of", "kernel_rows", "MAX_DEGREE", "product_in", "joined_entries", "power_in", "value_in", "derived_in", "is_zero_in", "Told", "are_entries", "Form", "form_of", "require_form", "sum_in", "level_entries", "level_rows", "killed_in", "does_kill_in", "killers_in", "level_table", "does_kill", "killed", "killers", "_law_dice", "_law_roll", "_law_near", "_law_gcd", "_law_shared", "_law_plus", "_law_scaled", "_law_product", "_law_all_product", "_law_power", "_law_by_x", "_law_by_y", "_law_derived", "_law_plain", "_law_line", "_law_point", "_law_small_form", "_law_form", "_law_levels", "_law_killer_table", "_law_acted", "_law_is_acting_right", "_law_right"] : List String).map Str.ofString
abbrev q0 : Program := PySem.W.view K63R.prog [0, 74]
end K6

/-! ## H3 -/
set_option Elab.async false
set_option linter.all false
set_option maxRecDepth 100000
set_option maxHeartbeats 0
/-! The head's run, in two looks: each runs the top anew in the kernel, so that neither holds the other's memory. -/
namespace K6
open PySem PySem.Spec PyProof.Rows L2 SlX
open HandSHeadRun PySem.W in
noncomputable def R0 (w : World) := wholeF (fun p => stepQ (denQ tabQ) p w) fenceQ 5000 K63R.prog
open HandSHeadRun PySem.W in
theorem runA (w : World) : (R0 w).map (fun x => (looksF K63R.prog x.1.heap x.2.abs, seenQ q0 loose (importedModules K63R.prog.main.body) (fun s => xlAt q0 [] s && recOk K63R.toRowW.records s) x.2.abs)) = some (true, openGood q0 loose) := by kernel_rfl
theorem runB (w : World) : (R0 w).map (fun x => ob x.2) = some (hk.val w) := by kernel_rfl
theorem glue {A B C D : Type} {o : Option A} {f : A → B} {g : A → C} {k : A → D} {a : B} {b : C} {c : D} (h1 : o.map (fun x => (f x, g x)) = some (a, b)) (h2 : o.map k = some c) : o.map (fun x => (f x, g x, k x)) = some (a, b, c) := by
  cases o with
  | none => cases h1
  | some x =>
    obtain ⟨p, q⟩ := Prod.mk.inj (Option.some.inj h1)
    have r : k x = c := Option.some.inj h2
    show some (f x, g x, k x) = _
    rw [show f x = a from p, show g x = b from q, r]
theorem run (w : World) : HandSHeadRun.RunEqI K63R q0 hk ob 5000 loose w := by
  unfold HandSHeadRun.RunEqI
  exact glue (o := R0 w) (runA w) (runB w)
end K6

/-! ## D1 -/
set_option Elab.async false
set_option linter.all false
set_option maxRecDepth 100000
set_option maxHeartbeats 4000000
namespace K6
open PySem PySem.Spec PyProof.Rows L2
section
variable {P : Program} {w : World} {K : PySem.W.Frag} {mg : Str → Option Value} {base : Heap} {T : Addr}
/-! ### is_whole, is_short, is_from -/
def spWhole (T : Addr) : Sp := fun vs H Q _ => ∃ n : Int, vs = [.int n] ∧ ∀ H', Le T none H H' → Q (.bl true) H'
theorem sc11 : FnScope ["value"] ["value"] (defScope (top 11)) := ⟨rfl, rfl, rfl, by decide +kernel, rfl, by decide +kernel, by decide +kernel⟩
theorem ok_whole {f : Addr} {fd : FuncData} (F : FnP K "is_whole" 11 f fd) (G : G0 mg) : FnOk P w K mg base CX0 1 f fd ["value"] (spWhole T) := by
  refine F.ok sc11 (fun vs H Q E h => ?_) (fun cdv A outer s H vs Q E hr h => ?_)
  · obtain ⟨n, rfl, _⟩ := h
    rfl
  · obtain ⟨n, rfl, q⟩ := h
    refine ⟨_, PSs.nox pb_w, ?_⟩
    refine hb_ret (P := T) (Z := none) (Le.refl0 H) (ev_andB (x := true) (y := true) ?_ fun _ => ev_notB (x := false) ?_) fun v H1 l _ r => ?_
    · exact ev_bf2 call_isi G.isinstance (by decide +kernel) (ev_i 0 rfl) (ev_bltn (v := .ty "int") G.int (by decide +kernel) rfl) fun u v H1 l hu hv Q q => ⟨_, _, _, _, true, by rw [hu, hv], .ty "int", .base (.int n), kit_ty (by decide +kernel), q _ _ l.right rfl⟩
    · exact ev_bf2 call_isi G.isinstance (by decide +kernel) (ev_i 0 rfl) (ev_bltn (v := .ty "bool") G.bool (by decide +kernel) rfl) fun u v H1 l hu hv Q q => ⟨_, _, _, _, false, by rw [hu, hv], .ty "bool", .base (.int n), kit_ty (by decide +kernel), q _ _ l.right rfl⟩
    · have e : v = .bl (true && !false) := r
      rw [e]
      exact q H1 l
def spShort (T : Addr) : Sp := fun vs H Q _ => ∃ n : Int, vs = [.int n] ∧ ∀ H', Le T none H H' → Q (.bl (decide (-(10 ^ 60) < n) && decide (n < 10 ^ 60))) H'
theorem sc12 : FnScope ["value"] ["value"] (defScope (top 12)) := ⟨rfl, rfl, rfl, by decide +kernel, rfl, by decide +kernel, by decide +kernel⟩
theorem ok_short {f : Addr} {fd : FuncData} (F : FnP K "is_short" 12 f fd) (G : G0 mg) (fW : Fk P w K mg base "is_whole" 1 ["value"] (spWhole T)) : FnOk P w K mg base CX0 2 f fd ["value"] (spShort T) := by
  refine F.ok sc12 (fun vs H Q E h => ?_) (fun cdv A outer s H vs Q E hr h => ?_)
  · obtain ⟨n, rfl, _⟩ := h
    rfl
  · obtain ⟨n, rfl, q⟩ := h
    obtain ⟨t, hg⟩ := G.great
    refine ⟨_, PSs.nox pb_w, ?_⟩
    refine hb_ret (P := T) (Z := none) (Le.refl0 H) (ev_andB (x := true) ?_ fun _ => ev_chain op_lt op_lt (ev_neg (ev_g hg ⟨t, rfl⟩)) (ev_i 0 rfl) (ev_g hg ⟨t, rfl⟩) fun ha hb hc => pe_chain op_lt op_lt ha hb hc) fun v H1 l _ r => ?_
    · exact ev_call1 fW hr (ev_i 0 rfl) fun u H1 l hu Q q => ⟨n, by rw [hu], fun H2 l2 => q _ H2 l2 rfl⟩
    · have e : v = .bl (true && (decide (-(10 ^ 60) < n) && decide (n < 10 ^ 60))) := r
      rw [e]
      exact q H1 l
def spFrom (T : Addr) : Sp := fun vs H Q _ => ∃ n a b : Int, vs = [.int n, .int a, .int b] ∧ ∀ H', Le T none H H' → Q (.bl (decide (a ≤ n) && decide (n ≤ b))) H'
theorem sc13 : FnScope ["value", "least", "most"] ["value", "least", "most"] (defScope (top 13)) := ⟨rfl, rfl, rfl, by decide +kernel, rfl, by decide +kernel, by decide +kernel⟩
theorem ok_from {f : Addr} {fd : FuncData} (F : FnP K "is_from" 13 f fd) (fW : Fk P w K mg base "is_whole" 1 ["value"] (spWhole T)) : FnOk P w K mg base CX0 2 f fd ["value", "least", "most"] (spFrom T) := by
  refine F.ok sc13 (fun vs H Q E h => ?_) (fun cdv A outer s H vs Q E hr h => ?_)
  · obtain ⟨n, a, b, rfl, _⟩ := h
    rfl
  · obtain ⟨n, a, b, rfl, q⟩ := h
    refine ⟨_, PSs.nox pb_w, ?_⟩
    refine hb_ret (P := T) (Z := none) (Le.refl0 H) (ev_andB (x := true) ?_ fun _ => ev_chain op_le op_le (ev_i 1 rfl) (ev_i 0 rfl) (ev_i 2 rfl) fun ha hb hc => pe_chain op_le op_le ha hb hc) fun v H1 l _ r => ?_
    · exact ev_call1 fW hr (ev_i 0 rfl) fun u H1 l hu Q q => ⟨n, by rw [hu], fun H2 l2 => q _ H2 l2 rfl⟩
    · have e : v = .bl (true && (decide (a ≤ n) && decide (n ≤ b))) := r
      rw [e]
      exact q H1 l
/-- a tuple of integers of at most sixty digits -/
def Sh (ns : List Int) : Prop := ∀ n ∈ ns, -(10 ^ 60) < n ∧ n < 10 ^ 60
def spAre (T : Addr) : Sp := fun vs H Q _ => ∃ (v : V) (ns : List Int), vs = [v] ∧ IT ns v H ∧ Sh ns ∧ ns.length ≤ 1000 ∧ ∀ H', Le T none H H' → Q (.bl true) H'
theorem sc14 : FnScope ["value", "entry"] ["value"] (defScope (top 14)) := ⟨rfl, rfl, rfl, by decide +kernel, rfl, by decide +kernel, by decide +kernel⟩
theorem ok_are {f : Addr} {fd : FuncData} (F : FnP K "are_short" 14 f fd) (G : G0 mg) (fS : Fk P w K mg base "is_short" 2 ["value"] (spShort T)) : FnOk P w K mg base CX0 3 f fd ["value"] (spAre T) := by
  refine F.ok sc14 (fun vs H Q E h => ?_) (fun cdv A outer s H vs Q E hr h => ?_)
  · obtain ⟨v, ns, rfl, _⟩ := h
    rfl
  · obtain ⟨v, ns, rfl, hv, hs, hl, q⟩ := h
    refine ⟨_, PSs.nox pb_w, ?_⟩
    refine hb_ret (P := T) (Z := none) (Le.refl0 H) (ev_andB (x := true) (y := true) ?_ fun _ => ?_) fun v H1 l _ r => ?_
    · exact ev_bf2 call_isi G.isinstance (by decide +kernel) (ev_v (R := IT ns) 0 rfl hv) (ev_bltn (v := .ty "tuple") G.tuple (by decide +kernel) rfl) fun u v H1 l hu hv Q q => by
        obtain ⟨a, e, h⟩ := hu
        exact ⟨_, _, _, _, true, by rw [hv], .ty "tuple", .base (by rw [e]; exact .tup h), kit_ty (by decide +kernel), q _ _ l.right rfl⟩
    · refine ev_bf1 (cr_all rfl) G.all (by decide +kernel) (ev_lc sc14.nd (pi_tup pe_w) (blkOk_by (own := [("entry", 1)]) (N := ["value", "entry"]) (sc := defScope (top 14)) (by decide +kernel)) (fun _ _ _ _ _ => pg_name (i := 1) sc14.nd rfl (Or.inl rfl))
        (lc_vals (en_tup (ev_v (R := TG ns.length fun i => is (.int (K63.g ns i))) 0 rfl (it_tg hv))) (bd_name (K := K)) (by omega) (fun _ _ _ _ => rfl) (fun _ => .bl true) fun i u H1 hi l hu => eb_of fun _ _ _ _ _ => ?_)) fun u H1 l hu Q q => ?_
      · have eu : u = .int (K63.g ns i) := hu
        rw [eu]
        have hm := hs _ (K63.g_mem hi)
        exact ev_call1 fS hr (ev_i 1 rfl) fun u H1 l hu Q q => ⟨K63.g ns i, by rw [hu], fun H2 l2 => q _ H2 l2 (by rw [decide_eq_true hm.1, decide_eq_true hm.2]; rfl)⟩
      · obtain ⟨a, e, _, h⟩ := hu
        refine ⟨a, (List.range ns.length).map fun _ => true, by rw [e], SqL.of (by rw [h, List.map_map]; rfl), q _ H1 l.right ?_⟩
        show V.bl _ = V.bl true
        congr 1
        rw [List.all_eq_true]
        intro x hx
        obtain ⟨_, _, ex⟩ := List.mem_map.mp hx
        rw [← ex]
        rfl
    · have e : v = .bl (true && true) := r
      rw [e]
      exact q H1 l
/-! ### require_from -/
def spReq (T : Addr) : Sp := fun vs H Q _ => ∃ n a b : Int, vs = [.int n, .int a, .int b] ∧ a ≤ n ∧ n ≤ b ∧ ∀ H', Le T none H H' → Q .non H'
theorem sc16 : FnScope ["value", "least", "most"] ["value", "least", "most"] (defScope (top 16)) := ⟨rfl, rfl, rfl, by decide +kernel, rfl, by decide +kernel, by decide +kernel⟩
theorem ok_req {f : Addr} {fd : FuncData} (F : FnP K "require_from" 16 f fd) (fF : Fk P w K mg base "is_from" 2 ["value", "least", "most"] (spFrom T)) : FnOk P w K mg base CX0 3 f fd ["value", "least", "most"] (spReq T) := by
  refine F.ok sc16 (fun vs H Q E h => ?_) (fun cdv A outer s H vs Q E hr h => ?_)
  · obtain ⟨n, a, b, rfl, _⟩ := h
    rfl
  · obtain ⟨n, a, b, rfl, h1, h2, q⟩ := h
    refine ⟨_, PSs.nox pb_w, ?_⟩
    refine hb_ifn (P := T) (Z := none) (Le.refl0 H) (et_not (x := true) (et_e ?_)) rfl fun H1 l _ => hb_nil (q H1 l)
    exact ev_call3 fF hr (ev_i 0 rfl) (ev_i 1 rfl) (ev_i 2 rfl) fun u v w H1 l hu hv hw Q q => ⟨n, a, b, by rw [hu, hv, hw], fun H2 l2 => q _ H2 l2 (by rw [decide_eq_true h1, decide_eq_true h2]; rfl)⟩
/-! ### shared_of -/
def spShared (T : Addr) : Sp := fun vs H Q _ => ∃ (v : V) (ns : List Int), vs = [v] ∧ IL none ns v H ∧ ∀ H', Le T none H H' → Q (.int (K63.shared ns)) H'
theorem sc17 : FnScope ["numbers", "found", "number"] ["numbers"] (defScope (top 17)) := ⟨rfl, rfl, rfl, by decide +kernel, rfl, by decide +kernel, by decide +kernel⟩
theorem take_foldl {α : Type} (f : α → Int → α) (a : α) (ns : List Int) {i : Nat} (hi : i < ns.length) : (ns.take (i + 1)).foldl f a = f ((ns.take i).foldl f a) (K63.g ns i) := by
  rw [List.take_add_one, K63.g_lt hi, List.foldl_append]
  rfl
theorem ok_shared {f : Addr} {fd : FuncData} (F : FnP K "shared_of" 17 f fd) (G : G0 mg) : FnOk P w K mg base CX0 1 f fd ["numbers"] (spShared T) := by
  refine F.ok sc17 (fun vs H Q E h => ?_) (fun cdv A outer s H vs Q E hr h => ?_)
  · obtain ⟨v, ns, rfl, _⟩ := h
    rfl
  · obtain ⟨v, ns, rfl, hv, q⟩ := h
    refine ⟨_, PSs.nox pb_w, ?_⟩
    refine hb_set (P := T) (Z := none) 1 (Le.refl0 H) ev_c sc17.nd fun u H1 l1 _ r => ?_
    have e : u = .int 0 := r
    subst e
    refine hb_forN (fun i σ' H' => ∃ x, σ' = [some v, some (.int ((ns.take i).foldl K63.gcd2 0)), x]) (pi_list pe_w) (pg_name (i := 2) sc17.nd rfl (Or.inl rfl)) l1 (en_list (ev_v (R := LG none ns.length fun i => is (.int (K63.g ns i))) 0 rfl (mono_lg.up _ _ _ l1 (il_lg hv)))) (bd_name (K := K))
      (fun H2 _ => ⟨none, rfl⟩) (fun i u σ' H' H2 hi _ _ p l3 hu => ?_) fun σ' H' l2 _ p => ?_
    · obtain ⟨x, rfl⟩ := p
      have eu : u = .int (K63.g ns i) := hu
      subst eu
      refine hb_set 1 l3.right (ev_gcd G.gcd (ev_i 1 rfl) (ev_i 2 rfl)) sc17.nd fun u H3 _ l4 r => hb_nil ⟨l4, some (.int (K63.g ns i)), ?_⟩
      have e : u = .int (K63.gcd2 ((ns.take i).foldl K63.gcd2 0) (K63.g ns i)) := r
      rw [take_foldl _ _ _ hi, e]
      rfl
    · obtain ⟨x, rfl⟩ := p
      refine hb_ret l2 (ev_i 1 rfl) fun u H3 l3 _ r => ?_
      have e : u = .int ((ns.take ns.length).foldl K63.gcd2 0) := r
      rw [e, List.take_length]
      exact q H3 l3
/-! ### factorial_of -/
def spFact (T : Addr) : Sp := fun vs H Q _ => ∃ n : Nat, vs = [.int n] ∧ n ≤ 100 ∧ ∀ H', Le T none H H' → Q (.int (K63.fact n)) H'
theorem sc20 : FnScope ["number", "found", "factor"] ["number"] (defScope (top 20)) := ⟨rfl, rfl, rfl, by decide +kernel, rfl, by decide +kernel, by decide +kernel⟩
theorem ok_fact {f : Addr} {fd : FuncData} (F : FnP K "factorial_of" 20 f fd) (G : G0 mg) : FnOk P w K mg base CX0 1 f fd ["number"] (spFact T) := by
  refine F.ok sc20 (fun vs H Q E h => ?_) (fun cdv A outer s H vs Q E hr h => ?_)
  · obtain ⟨n, rfl, _⟩ := h
    rfl
  · obtain ⟨n, rfl, hn, q⟩ := h
    refine ⟨_, PSs.nox pb_w, ?_⟩
    refine hb_set (P := T) (Z := none) 1 (Le.refl0 H) ev_c sc20.nd fun u H1 l1 _ r => ?_
    have e : u = .int 1 := r
    subst e
    refine hb_forN (fun i σ' H' => ∃ x, σ' = [some (.int n), some (.int (K63.fact (i + 1))), x]) (pi_range2 rfl G.range pa_w) (pg_name (i := 2) sc20.nd rfl (Or.inl rfl)) l1 (es_range2 ev_c (ev_add (ev_i 0 rfl) ev_c) ⟨by decide, by decide, by omega, by omega⟩).toN (bd_name (K := K))
      (fun H2 _ => ⟨none, rfl⟩) (fun i u σ' H' H2 hi _ _ p l3 hu => ?_) fun σ' H' l2 _ p => ?_
    · obtain ⟨x, rfl⟩ := p
      have eu : u = .int (2 + (i : Int)) := hu
      subst eu
      refine hb_aug 1 l3.right sc20.nd rfl (ev_i 2 rfl) iop_mul (.inr ⟨by omega, by omega⟩) fun H3 _ l4 => hb_nil ⟨l4, some (.int (2 + (i : Int))), ?_⟩
      have e2 : K63.fact (i + 1 + 1) = K63.fact (i + 1) * (2 + (i : Int)) := by
        show K63.fact (i + 1) * (((i + 1 : Nat) : Int) + 1) = _
        congr 1
        omega
      rw [e2]
      rfl
    · obtain ⟨x, rfl⟩ := p
      refine hb_ret l2 (ev_i 1 rfl) fun u H3 l3 _ r => ?_
      have e : u = .int (K63.fact (((n : Int) + 1 - 2).toNat + 1)) := r
      have e2 : K63.fact (((n : Int) + 1 - 2).toNat + 1) = K63.fact n := by
        cases n with
        | zero => rfl
        | succ n =>
          congr 1
          omega
      rw [e, e2]
      exact q H3 l3
end
end K6

/-! ## K63G -/
set_option Elab.async false
set_option linter.all false
set_option maxRecDepth 100000
set_option maxHeartbeats 4000000
/-! next((x for x in xs if x != 0), 0) over a list of integers. -/
namespace K6
open PySem PySem.Spec PyProof.Rows L2 GxR
def nz (l : List Int) (j : Nat) : Bool := K63.g l j != 0
theorem pass_cons (n : Int) (l : List Int) : ((List.range (n :: l).length).filter (nz (n :: l))) = (if n != 0 then [0] else []) ++ ((List.range l.length).filter (nz l)).map (· + 1) := by
  have e : nz (n :: l) ∘ (fun x => x + 1) = nz l := rfl
  rw [List.length_cons, List.range_succ_eq_map, List.filter_cons]
  have e0 : nz (n :: l) 0 = (n != 0) := rfl
  have em : List.map Nat.succ (List.range l.length) = List.map (fun x => x + 1) (List.range l.length) := rfl
  rw [e0, em, List.filter_map, e]
  cases (n != 0) <;> rfl
theorem first_pass : ∀ l : List Int, K63.firstOf l = ((((List.range l.length).filter (nz l)).head?).map fun i => K63.g l i).getD 0
  | [] => rfl
  | n :: l => by
    rw [pass_cons]
    have f : K63.firstOf (n :: l) = if n != 0 then n else K63.firstOf l := by
      unfold K63.firstOf
      rw [List.find?_cons]
      cases (n != 0) <;> rfl
    rw [f]
    cases e : (n != 0) with
    | true => rfl
    | false =>
      rw [if_neg Bool.false_ne_true, if_neg Bool.false_ne_true, List.nil_append, first_pass l]
      cases (List.range l.length).filter (nz l) with
      | nil => rfl
      | cons i r => rfl
section
variable {X : Cx} {pins : List (Addr × Obj)} {σ : L2.St} {H : Hp} {s : Shared}
/-- the generator g over the numbers, ready to be walked -/
def ReadyI (X : Cx) (pins : List (Addr × Obj)) (σ : L2.St) (H1 : Hp) (P : Addr) (ns : List Int) (g : Addr) (s5 : Shared) : Prop :=
  ∃ (fp wr : List Addr) (G : Array GenState → Array GenState → Prop) (F : Nat → Value → Prop) (St : Nat → Shared → Prop),
    WalksS X.prog X.w X.A.in1 g fp wr G ((List.range ns.length).filter (nz ns)).length F St ∧ St 0 s5 ∧ s5.TypeIs (.ref g) "generator" ∧
    (∀ j y, F j y → ∃ i t, ((List.range ns.length).filter (nz ns))[j]? = some i ∧ y = .int (K63.g ns i) t) ∧
    ∀ s', Moved wr G s5 s' → ∃ H2, Tabbed P H1 H2 ∧ Inv X pins σ H2 s'
theorem gen_int {c P : Addr} {iter : Expr} {x : Str} {px p1 p2 p3 p4 gpos : Pos} {j0 : Nat} {scope : Scope} {te : TE} {k : Nat} {Q' : Value → Shared → Prop} {R : List Int → Hp → Prop}
    (hr : Room k X.A) (TB : TabB X.base X.mg c P) (hcode : X.env.code = .ref c) (S : GenS X.env scope x) (hi : PE X iter te) (hd : (x == ("__debug__" : Str)) = false)
    (hs : ∀ v, genFold iter X.env v = pure v) (I : Inv X pins σ H s) (h : te σ H fun v H1 => ∃ a ns, v = .ref a ∧ SqL X.K H1 a (ns.map V.int) ∧ TabG H1 P ∧ R ns H1)
    (hQ : ∀ ns H1 g s5, R ns H1 → ReadyI X pins σ H1 P ns g s5 → Q' (.ref g) s5) :
    wpAny (model X.prog X.w) X.A (eval (.GeneratorExp (.Name x p1) [⟨.Name x px, iter, [.Compare (.Name x p2) [.NotEq] [.Constant (.int 0) j0 p3] p4], 0⟩] scope gpos) X.env) Q' X.xe s := by
  refine wpAny_GeneratorExp_walksQ hr.hd S.co (closure_ok S.free) S.cell S.dot S.loc S.kind (by have := hr.dp; omega) ?_ hs
  refine thn (hi.run pins s σ H _ I h) fun xv s1 ⟨v, H1, I1, r1, q1⟩ => ?_
  obtain ⟨a, ns, rfl, hq, ⟨ps, hP, ht⟩, q1⟩ := q1
  cases r1
  obtain ⟨its, rv, pl, hz⟩ := I1.list hq
  have il : s1.heap.IsList a its.toArray := pl.isList
  have hlen : its.length = ns.length := by rw [← rv.length, List.length_map]
  have la : a < s1.heap.objs.size := by
    obtain ⟨_, q, _⟩ := il
    exact Heap.lt_size q
  have vals : ∀ i y, its.toArray[i]? = some y → i < ns.length ∧ ∃ t, y = .int (K63.g ns i) t := fun i y hy => by
    rw [List.getElem?_toArray] at hy
    have hi : i < ns.length := by
      rw [← hlen]
      exact (List.getElem?_eq_some_iff.mp hy).1
    have hx : (ns.map V.int)[i]? = some (.int (K63.g ns i)) := by
      rw [List.getElem?_map, K63.g_lt hi]
      rfl
    obtain ⟨u, hu, ru⟩ := rv.get hx
    rw [hu] at hy
    cases hy
    exact ⟨hi, ru⟩
  refine wpAny_pyIter_list il ?_
  have hPs : s1.heap.get? P = some { cls := .none, data := .fields ps } := I1.hok P _ hP
  have hPlt : P < s1.heap.objs.size := Heap.lt_size hPs
  generalize ho : ({ cls := .type "list_iterator", data := .fields #[.ref a, .int 0 0] } : Obj) = o
  have hP2 : (s1.heap.push o).get? P = some { cls := .none, data := .fields ps } := Heap.get?_push_of_some _ hPs
  have cd : PySem.W.CodeHd (s1.heap.push o) c P := TB.code.keeps fun b u e => Heap.get?_push_of_some _ (I1.bk b u e)
  have lim2 : (s1.heap.push o).NoLimit := I1.nolimit.push o
  have naP : a ≠ P := fun e => by
    obtain ⟨o', q1, q2, _⟩ := il
    rw [e, hPs] at q1
    cases q1
    cases q2
  have cont : ∀ (code : Value) (h3 : Heap) (tk : Nat) (ps' : Array Value), Heap.ExtBut P (s1.heap.push o) h3 → (s1.heap.push o).objs.size ≤ h3.objs.size → h3.get? P = some { cls := .none, data := .fields ps' } → (∃ more, ps' = ps ++ more) → TriplesOk ps'.toList →
      wpAny (model X.prog X.w) X.A (builtinsFor X.env.globals X.env.builtins) (fun bi s₄ =>
        ∃ Ia fp wr n₀ Pf St₀ pz F, Value.ref s1.heap.objs.size = .ref Ia ∧ (∀ A' : Around, A'.handled = none → Walks X.prog X.w A' Ia fp wr n₀ Pf St₀) ∧ St₀ 0 s₄.heap ∧ (∀ b ∈ fp, b < s₄.heap.objs.size) ∧ s₄.heap.NoLimit ∧ cStatics ∉ wr ∧
          (∀ href : Heap, (∀ b o, s₄.heap.get? b = some o → href.get? b = some o) →
            QuietGen X.prog X.w (genEnv scope (cloFrom X.env.cells scope.names []) s₄.heap.objs.size code bi X.env) x [.Compare (.Name x p2) [.NotEq] [.Constant (.int 0) j0 p3] p4] (.Name x p1) (List.range s₄.heap.objs.size) wr Pf pz F href) ∧
          (∀ a h₅ tk gs, gs.bare = true → s₄.heap.objs.size < a → h₅.objs.size = a + 1 → (∀ b o, s₄.heap.get? b = some o → h₅.get? b = some o) →
            WalksS X.prog X.w X.A.in4 a (a :: s₄.heap.objs.size :: List.range s₄.heap.objs.size) (s₄.heap.objs.size :: wr) (GenOnlyQ s₄.gens.size) (passing pz n₀ 0).length
              (fun j y => ∃ i, (passing pz n₀ 0)[j]? = some i ∧ F i y) (GenAt X.prog X.w X.A.in4 a s₄.gens.size s₄.heap.objs.size (List.range s₄.heap.objs.size) wr pz n₀ F) →
            GenAt X.prog X.w X.A.in4 a s₄.gens.size s₄.heap.objs.size (List.range s₄.heap.objs.size) wr pz n₀ F 0 { s₄ with gens := s₄.gens.push gs, toks := tk, heap := h₅ } →
            Q' (.ref a) { s₄ with gens := s₄.gens.push gs, toks := tk, heap := h₅ })) X.xe { s1 with heap := h3, toks := tk } := by
    intro code h3 tk ps' hx hsz hP3 hmore ht3
    obtain ⟨bm, ob, e1, e2, e3, e4, e5, e6, e7, e8⟩ := TB.bm
    have hcP : cStatics ≠ P := fun e => by
      obtain ⟨_, hns, _⟩ := I1.nolimit
      obtain ⟨o', es, ep, ho, hd, _⟩ := hns
      rw [e, hPs] at ho
      cases ho
      cases hd
    have hcl : cStatics < s1.heap.objs.size := let ⟨_, hns, _⟩ := I1.nolimit; hns.lt
    have sz2 : (s1.heap.push o).objs.size = s1.heap.objs.size + 1 := Heap.size_push ..
    have keep3 : ∀ b u, b ≠ P → s1.heap.get? b = some u → h3.get? b = some u := fun b u hb e => hx b u hb (Heap.get?_push_of_some _ e)
    have nIP : s1.heap.objs.size ≠ P := fun z => Nat.ne_of_lt hPlt z.symm
    refine wpAny_builtinsFor (m := X.mg) (by rw [I1.ok.glob]; exact ((I1.mod.glob.keeps I1.bk).push o).extBut hx TB.gP) e1 e2 (keep3 _ _ e4 (I1.bk _ _ e5)) e6 e7 e8 ?_
    refine ⟨s1.heap.objs.size, [s1.heap.objs.size, a], [s1.heap.objs.size], its.toArray.size, fun i v => its.toArray[i]? = some v, _, nz ns, (fun i y => its.toArray[i]? = some y), rfl, fun A' hA => Walks.list hA _ a (Nat.ne_of_lt la) its.toArray, ⟨?_, ?_⟩, ?_, lim2.extBut hx hcP, ?_, ?_, ?_⟩
    · subst ho
      exact ⟨_, hx _ _ nIP (Heap.get?_push_size _ rfl), rfl, rfl⟩
    · exact il.at fun u e => keep3 a u naP e
    · intro b hb
      have : s1.heap.objs.size < h3.objs.size := by omega
      rcases List.mem_cons.mp hb with z | z
      · rw [z]
        exact this
      · rw [List.mem_singleton.mp z]
        exact Nat.lt_trans la this
    · intro z
      rcases List.mem_cons.mp z with z | z
      · exact Nat.ne_of_lt hcl z
      · cases z
    · intro href hhref
      refine ⟨fun A' E' i v s₂ m₂ hA hPv hn hm hk => ?_, fun A' E' i v s₂ m₂ hA hPv hp hn hm hk => ?_⟩
      · obtain ⟨hi, t, rfl⟩ := vals i v hPv
        simp only [List.forIn_cons, List.forIn_nil, if_true]
        refine wpAny_bind (wpAny_bind ?_)
        refine wpAny_isTrue_Compare1 (wpAny_Name (wpAny_loadName_local S.kind (show List.lookup x scope.names = some .local from S.loc) hn hm ?_) hd)
        refine wpAny_Constant_int (ne_int (wpAny_truthy_bool (wpAny_pure (wpAny_pure ?_))))
        exact ⟨rfl, keeps_tok _ _⟩
      · exact wpAny_Name (wpAny_loadName_local S.kind (show List.lookup x scope.names = some .local from S.loc) hn hm ⟨hPv, keeps_refl _⟩) hd
    · intro g h5 tk5 gs hgb hag hsz5 hk5 W5 hat
      have ep : passing (nz ns) its.toArray.size 0 = (List.range ns.length).filter (nz ns) := by
        unfold passing
        rw [List.drop_zero, List.size_toArray, hlen]
      refine hQ ns H1 g _ q1 ⟨_, _, _, _, _, by rw [← ep]; exact W5.in4_1, hat, hat.1.typeIs, fun j y hy => ?_, fun s' hm => ?_⟩
      · obtain ⟨i, hij, hF⟩ := hy
        obtain ⟨_, t, e⟩ := vals i y hF
        exact ⟨i, t, by rw [← ep]; exact hij, e⟩
      · obtain ⟨more, em⟩ := hmore
        have nwr : ∀ b u, s1.heap.get? b = some u → b ∉ h3.objs.size :: [s1.heap.objs.size] := fun b u e hb => by
          have hl := Heap.lt_size e
          rcases List.mem_cons.mp hb with z | z
          · rw [z] at hl
            have h9 : (h3.objs.size : Nat) < s1.heap.objs.size := hl
            omega
          · rcases List.mem_cons.mp z with z | z
            · rw [z] at hl
              exact Nat.lt_irrefl _ hl
            · cases z
        have J := inv_tab (more := more) (h' := s'.heap) (g' := s'.gens) (d' := s'.drawn) (t' := s'.toks) I1 hP (fun b u hb e => hm.heap b u (nwr b u e) (hk5 b u (keep3 b u hb e)))
          (by rw [← em]; exact hm.heap P _ (nwr P _ hPs) (hk5 P _ hP3)) (AllBare.movedS (I1.bare.push hgb) hm)
        rw [sh_eta s1 s' hm.os] at J
        refine ⟨upd H1 P (.tbl (ps ++ more)), ⟨⟨ps ++ more, upd_same, by rw [← em]; exact ht3⟩, fun b hb => upd_ne hb⟩, J⟩
  refine ⟨lim2, ?_⟩
  cases hf : codeAmong gpos ps.toList with
  | none =>
    refine wpAny_genexprCodeX hcode (cd.code hP2 ht) (cd.tab hP2) hf fun c' h' tk hx hge hlt hco' _ htab' _ => ?_
    obtain ⟨o1, vs, f1, tf, fl, tg, inF, tx, tt, op, _, _, _, _, _, _, _, _, _, htr, _⟩ := hco'
    exact cont _ h' tk _ hx (Nat.le_trans hge (Nat.le_of_lt hlt)) htab'.2 ⟨_, rfl⟩ htr
  | some cv =>
    refine wpAny_genexprCode_hit hcode (cd.code hP2 ht) hf ?_
    exact cont cv (s1.heap.push o) s1.toks ps (Heap.ExtBut.refl _ _) (Nat.le_refl _) hP2 ⟨#[], by simp⟩ ht
theorem call_next_or {prog : Program} {w : World} {A : Around} {E : Value → Shared → Prop} {s : Shared} {g : Addr} {dflt : Value} {Q : Value → Shared → Prop} (hT : s.TypeIs (.ref g) "generator")
    (h : wpAny (model prog w) A.in1 (pyNext (.ref g)) (fun o s' => Q (o.getD dflt) s') E s) : wpAny (model prog w) A (call (.builtin "next") [.ref g, dflt]) Q E s := by
  refine Calls.call_function_entry (by decide +kernel) (by decide +kernel) PySem.W.kdk_entry_next (PySem.W.kdk_args_next2 _ _) ?_
  unfold Builtin.«next»
  refine wpAny_bind (m := someArgs "next" 1 2 _) (wpAny_of_eq (a := [Value.ref g, dflt]) (by first | rfl | kernel_rfl!) ?_)
  dsimp only
  refine wpAny_bind (wpAny_specialOf (name := Str.ofString "__next__") hT slot_gen_next.lookup ?_)
  refine wpAny_ite_split (fun hab => absurd hab (by decide)) (fun _ => ?_)
  refine wpAny_bind (wpAny_mono h (fun o s' q => ?_) fun _ _ z => z)
  exact wpAny_pure ⟨_, rfl, q⟩
def tFirst (K : PySem.W.Frag) (P : Addr) (te : TE) : TE := fun σ H Q => te σ H fun v H1 => ∃ a ns, v = .ref a ∧ SqL K H1 a (ns.map V.int) ∧ TabG H1 P ∧ ∀ H2, Tabbed P H1 H2 → Q (.int (K63.firstOf ns)) H2
theorem pe_first {c P : Addr} {iter : Expr} {x : Str} {px p p1 p2 p3 p4 p5 pos gpos : Pos} {j0 j5 : Nat} {scope : Scope} {te : TE} {k : Nat}
    (hr : Room k X.A) (hg : Gl X "next") (hm : X.mg "next" = none) (hb : bootBuiltins "next" = some (.builtin "next")) (TB : TabB X.base X.mg c P) (hcode : X.env.code = .ref c) (S : GenS X.env scope x) (hi : PE X iter te) (hd : (x == ("__debug__" : Str)) = false)
    (hs : ∀ v, genFold iter X.env v = pure v)
    (he : starEach [.GeneratorExp (.Name x p1) [⟨.Name x px, iter, [.Compare (.Name x p2) [.NotEq] [.Constant (.int 0) j0 p3] p4], 0⟩] scope gpos, .Constant (.int 0) j5 p5] X.env = (false, eval (.GeneratorExp (.Name x p1) [⟨.Name x px, iter, [.Compare (.Name x p2) [.NotEq] [.Constant (.int 0) j0 p3] p4], 0⟩] scope gpos) X.env) :: starEach [.Constant (.int 0) j5 p5] X.env := by rfl)
    (he2 : starEach [.Constant (.int 0) j5 p5] X.env = (false, eval (.Constant (.int 0) j5 p5) X.env) :: starEach [] X.env := by rfl) (hpl : (backTo pos (starEach [.Constant (.int 0) j5 p5] X.env)).any (·.1) = false := by rfl) :
    PE X (.Call (.Name "next" p) [.GeneratorExp (.Name x p1) [⟨.Name x px, iter, [.Compare (.Name x p2) [.NotEq] [.Constant (.int 0) j0 p3] p4], 0⟩] scope gpos, .Constant (.int 0) j5 p5] [] pos) (tFirst X.K P te) := by
  refine ⟨fun pins s σ H Q I h => ?_⟩
  refine wpAny_Call_Name_kw (ld_blt I hg hm hb ?_)
  refine PyProof.Rows.callWith_builtin1 ?_ he hpl
  rw [he, he2]
  show wpAny _ _ (spliced ((false, eval (.GeneratorExp _ _ scope gpos) X.env) :: (false, eval (.Constant (.int 0) j5 p5) X.env) :: [])) _ _ s
  refine Calls.spliced_cons (gen_int (R := fun ns H1 => ∀ H2, Tabbed P H1 H2 → Q (.int (K63.firstOf ns)) H2) hr TB hcode S hi hd hs I h fun ns H1 g s5 hR hG => ?_)
  obtain ⟨fp, wr, G, F, St, W, hst, hT, hF, hI⟩ := hG
  refine Calls.spliced_cons (wpAny_Constant_int (Calls.spliced_nil (call_next_or ?_ ?_)))
  · exact hT
  · rw [first_pass] at hR
    have W2 := W.frame 0 s5 s5.heap (s5.toks + 1) hst (Nat.le_succ _) fun _ _ _ e => e
    have fin : ∀ s' : Shared, Moved wr G s5 s' → ∃ H2, Tabbed P H1 H2 ∧ Inv X pins σ H2 s' := hI
    generalize hl : (List.range ns.length).filter (nz ns) = l at W hF hR
    cases l with
    | nil =>
      refine W.done _ _ _ W2 fun s' hm => ?_
      obtain ⟨H2, hT2, J⟩ := fin s' ⟨hm.heap, hm.gens, hm.drawn, hm.os, Nat.le_trans (Nat.le_succ _) hm.toks⟩
      exact ⟨.int 0, H2, J, ⟨_, rfl⟩, hR H2 hT2⟩
    | cons i r =>
      refine W.item 0 _ _ _ (Nat.succ_pos _) W2 fun v s' hv _ hm => ?_
      obtain ⟨i', t, e, rfl⟩ := hF 0 v hv
      cases e
      obtain ⟨H2, hT2, J⟩ := fin s' ⟨hm.heap, hm.gens, hm.drawn, hm.os, Nat.le_trans (Nat.le_succ _) hm.toks⟩
      exact ⟨.int (K63.g ns i), H2, J, ⟨t, rfl⟩, hR H2 hT2⟩
end
section
variable {P : Program} {w : World} {K : PySem.W.Frag} {mg : Str → Option Value} {base : Heap} {T : Addr}
theorem Tabbed.le {H H' : Hp} (h : Tabbed T H H') (t : TabG H T) : Le T none H H' := by
  obtain ⟨⟨ps, e, k⟩, same⟩ := id h
  obtain ⟨ps0, e0, k0⟩ := id t
  refine ⟨fun a o _ n q => ?_, fun a q => ?_, fun _ => h.1, fun d z => by cases z⟩
  · rw [same a (fun z => by rw [z, e0] at q; exact n ps0 (Option.some.inj q).symm)]
    exact q
  · by_cases z : a = T
    · rw [z, e] at q
      cases q
    · rw [← same a z]
      exact q
/-- a list of integers, with the table at its place -/
def spFirst (T : Addr) : Sp := fun vs H Q _ => ∃ (v : V) (ns : List Int), vs = [v] ∧ IL none ns v H ∧ TabG H T ∧ ∀ H', Le T none H H' → Q (.int (K63.firstOf ns)) H'
theorem sc18 : FnScope ["numbers"] ["numbers"] (defScope (top 18)) := ⟨rfl, rfl, rfl, by decide +kernel, rfl, by decide +kernel, by decide +kernel⟩
theorem ok_first {f : Addr} {fd : FuncData} (F : FnP K "first_of" 18 f fd) (G : G0 mg) {c : Addr} (hc : fd.code = .ref c) (TB : TabB base mg c T) : FnOk P w K mg base CX0 1 f fd ["numbers"] (spFirst T) := by
  obtain ⟨oc, od, dV, kV, doc, pm, an, cdv, ct, osl, rfl, lk, hcd, _, _⟩ := F.ex
  have hc2 : cdv = .ref c := hc
  subst hc2
  refine fn_of lk hcd sc18 (fun vs H Q E h => ?_) fun A outer s H vs Q E hr h => ?_
  · obtain ⟨v, ns, rfl, _⟩ := h
    rfl
  · obtain ⟨v, ns, rfl, hv, ht, q⟩ := h
    refine ⟨_, PSs.nox pb_w, ?_⟩
    refine hb_ret (P := T) (Z := none) (Le.refl0 H) (R := fun v H1 => v = .int (K63.firstOf ns)) (ev_of (pe_first hr rfl G.next (by decide +kernel) TB rfl ⟨rfl, rfl, by decide +kernel, rfl, rfl, fun y hy e => by rcases List.mem_cons.mp hy with z | z <;> (try rw [List.mem_singleton.mp z] at e) <;> (try rw [z] at e) <;> cases e⟩ pe_w (by decide) (fun _ => rfl)) fun H1 l Q q => ?_) fun u H1 l _ r => ?_
    · refine (ev_v (P := T) (Z := none) (H := H) (v := v) (R := IL none ns) 0 rfl hv : EvE _ T none _ _ H (IL none ns)) H1 l _ fun u H2 l2 hu => ?_
      obtain ⟨a, e, _, hx⟩ := hu
      have t2 := l2.tab (l.tab ht)
      exact ⟨a, ns, e, SqL.of hx, t2, fun H3 t3 => q _ H3 (l2.trans (Tabbed.le t3 t2)) rfl⟩
    · have e : u = .int (K63.firstOf ns) := r
      rw [e]
      exact q H1 l
end
end K6

/-! ## K63H -/
set_option Elab.async false
set_option linter.all false
set_option maxRecDepth 100000
set_option maxHeartbeats 4000000
/-! Lists that change, lists of lists. -/
namespace K6
open PySem PySem.Spec PyProof.Rows L2
theorem sz_le {n : Nat} (h : n ≤ 1000000) : n < sizeLine := Nat.lt_of_le_of_lt h (by decide)
theorem ixN_nat {n j : Nat} (hj : j < n) : ixN n (j : Int) = some j := by
  unfold ixN
  rw [if_pos (by omega), if_pos (by omega)]
  rfl
theorem seq_nat {n j : Nat} (hj : j < n) : seqIndex? (j : Int) n = some j := (ixN_seq (ixN_nat hj)).1
section
variable {X : Cx} {P : Addr} {Z : Option Addr} {σ : L2.St} {H B : Hp} {R Ra Rb : Rp} {a b c e o ix : Expr} {es : List Expr} {pos p px pt tpos apos cpos : Pos} {D : Ends} {rest : List Stmt}
instance mono_sv {xs : List V} : Mono P none (SV xs) := ⟨fun _ _ _ l ⟨a, e, h⟩ => ⟨a, e, h.imp (fun h => l.keep a _ (fun q => by cases q) nt_lst h) fun h => tup_up l h⟩⟩
/-- at l stands xs -/
theorem Le.lst {H H1 : Hp} {l : Addr} {xs : List V} (le : Le P Z H H1) (z : Z ≠ some l) (h : H l = some (.lst xs)) : H1 l = some (.lst xs) := le.keep l _ z nt_lst h
/-- x = xs.pop(i) -/
theorem hb_pop {x : Str} {l : Addr} {xs : List V} {k : Nat} {y : V} (j : Nat) (hB : Le P Z B H) (hBl : B l = none) (hl : H l = some (.lst xs)) (z : Z ≠ some l) (ho : EvE X P Z o σ H (is (.ref l))) (hi : EvE X P Z ix σ H (is (.int (k : Int)))) (hy : xs[k]? = some y) (hk : xs.length ≤ 1000000) (nd : X.N.Nodup)
    (next : ∀ H1, Le P Z B H1 → Le P Z H H1 → H1 l = some (.lst xs) → Le P Z B (upd H1 l (.lst (xs.eraseIdx k))) → wB X rest D (σ.set j (some y)) (upd H1 l (.lst (xs.eraseIdx k))))
    (hN : X.N[j]? = some x := by rfl) (hx : Loc X.env.scope x := by first | exact Or.inl rfl | exact Or.inr rfl) (hf : X.fn x = true ∨ X.env.scope.names.lookup x = some .local := by first | exact .inl rfl | exact .inr rfl)
    (hs : swapsWith (.Call (.Attribute o "pop" apos) [ix] [] cpos) (some (.Name x px)) pos.line X.env = pure false := by rfl)
    (hbase : attributeBase o "pop" X.env (eval o X.env) = eval o X.env := by rfl)
    (hfew : ((backTo cpos (starEach [ix] X.env)).all (fun x => !x.1) && (backToKw cpos (keywordEach [] X.env)).all (fun x => x.1.isSome)
      && decide (([ix]).length + ([] : List Keyword).length + (if ([] : List Keyword).isEmpty then 0 else 1) < 30)) = true := by rfl)
    (hline : (apos.endLine == cpos.line) = true := by rfl) (hss : starEach [ix] X.env = (false, eval ix X.env) :: starEach [] X.env := by rfl) :
    wB X (.Assign [.Name x px] (.Call (.Attribute o "pop" apos) [ix] [] cpos) pos :: rest) D σ H := by
  refine hb_cons (ps_set (i := j) nd hN hx (pe_bm (o := o) (name := "pop") (apos := apos) (cpos := cpos) PySem.F.plainAttrs_list PySem.F.slot_list_pop PySem.F.type_list_pop mt_popAt pe_w pa_w hbase hfew hline hss rfl) hs hf) ?_
  refine ho H hB.right _ fun v H1 l1 hv => ?_
  have ev : v = .ref l := hv
  subst ev
  refine ⟨Or.inl ⟨rfl, xs, SqL.of (l1.lst z hl)⟩, (ea_cons hi ea_nil hss) H1 l1 _ fun vs H2 l2 hvs => ?_⟩
  obtain ⟨u, r, rfl, hu, hr⟩ := hvs
  have e1 : u = .int (k : Int) := hu
  have e2 : r = [] := hr
  subst e1 e2
  have l3 := l1.trans l2
  have hlt : k < xs.length := (List.getElem?_eq_some_iff.mp hy).1
  exact ⟨l, xs, (k : Int), k, y, rfl, rfl, l3.lst z hl, by omega, by omega, seq_nat hlt, hy, next H2 (hB.trans l3) l3 (l3.lst z hl) ((hB.trans l3).mut hBl)⟩
/-- xs.append(e) -/
theorem hb_app {l : Addr} {xs : List V} (hB : Le P Z B H) (hBl : B l = none) (hl : H l = some (.lst xs)) (z : Z ≠ some l) (ho : EvE X P Z o σ H (is (.ref l))) (he : EvE X P Z e σ H R) (hk : xs.length ≤ 1000000)
    (next : ∀ v H1, Le P Z B H1 → Le P Z H H1 → H1 l = some (.lst xs) → (∃ H0, Le P Z H0 H1 ∧ R v H0) → Le P Z B (upd H1 l (.lst (xs ++ [v]))) → wB X rest D σ (upd H1 l (.lst (xs ++ [v]))))
    (hs : swapsWith (.Call (.Attribute o "append" apos) [e] [] cpos) none pos.line X.env = pure false := by rfl)
    (hbase : attributeBase o "append" X.env (eval o X.env) = eval o X.env := by rfl)
    (hfew : ((backTo cpos (starEach [e] X.env)).all (fun x => !x.1) && (backToKw cpos (keywordEach [] X.env)).all (fun x => x.1.isSome)
      && decide (([e]).length + ([] : List Keyword).length + (if ([] : List Keyword).isEmpty then 0 else 1) < 30)) = true := by rfl)
    (hline : (apos.endLine == cpos.line) = true := by rfl) (hss : starEach [e] X.env = (false, eval e X.env) :: starEach [] X.env := by rfl) :
    wB X (.Expr (.Call (.Attribute o "append" apos) [e] [] cpos) pos :: rest) D σ H := by
  refine hb_cons (ps_expr (pe_bm (o := o) (name := "append") (apos := apos) (cpos := cpos) PySem.F.plainAttrs_list PySem.F.slot_list_append PySem.F.type_list_append mt_append pe_w pa_w hbase hfew hline hss rfl) hs) ?_
  refine ho H hB.right _ fun v H1 l1 hv => ?_
  have ev : v = .ref l := hv
  subst ev
  refine ⟨Or.inl ⟨rfl, xs, SqL.of (l1.lst z hl)⟩, (ea_cons (R := fun v H3 => ∃ H0, Le P Z H0 H3 ∧ Le P Z H H0 ∧ R v H0) (m := ⟨fun v H1 H2 l2 ⟨H0, l3, l4, r⟩ => ⟨H0, l3.trans l2, l4, r⟩⟩) (he.imp fun v H1 l2 r => ⟨H1, l2.right, l2, r⟩) ea_nil hss) H1 l1 _ fun vs H2 l2 hvs => ?_⟩
  obtain ⟨u, r, rfl, ⟨H0, l5, l6, hu⟩, hr⟩ := hvs
  have e2 : r = [] := hr
  subst e2
  have l3 := l1.trans l2
  exact ⟨l, xs, u, rfl, rfl, l3.lst z hl, sz_le hk, next u H2 (hB.trans l3) l3 (l3.lst z hl) ⟨H0, l5, hu⟩ ((hB.trans l3).mut hBl)⟩
/-- xs[i] = e -/
theorem hb_sub {l : Addr} {xs : List V} {k : Nat} {y : V} (hB : Le P Z B H) (hBl : B l = none) (hl : H l = some (.lst xs)) (z : Z ≠ some l) (he : EvE X P Z e σ H (is y)) (ho : EvE X P Z o σ H (is (.ref l))) (hi : EvE X P Z ix σ H (is (.int (k : Int)))) (hk : k < xs.length)
    (next : ∀ H1, Le P Z B H1 → Le P Z H H1 → H1 l = some (.lst xs) → Le P Z B (upd H1 l (.lst (xs.set k y))) → wB X rest D σ (upd H1 l (.lst (xs.set k y))))
    (hs : swapsWithSole [.Subscript o ix tpos] e pos.line X.env = pure false := by rfl) (hw : swappedStores [.Subscript o ix tpos] e X.env = pure none := by rfl)
    (h1 : (assignEach [.Subscript o ix tpos] X.env).map (·.2) = [assign (.Subscript o ix tpos) X.env] := by rfl)
    (ha : ∀ v, assign (.Subscript o ix tpos) X.env v = (do
      let ov ← holding [v] (eval o X.env)
      let iv ← holding [v, ov] (eval ix X.env)
      standAt tpos
      holding [v, ov, iv] (setItem ov iv v)
      release [v, ov, iv] []) := by intro _; rfl) : wB X (.Assign [.Subscript o ix tpos] e pos :: rest) D σ H := by
  refine hb_cons (ps_asg pe_w (pg_sub pe_w pe_w set_list ha) hs hw h1) (he H hB.right _ fun v H1 l1 hv => ho H1 l1 _ fun u H2 l2 hu => hi H2 (l1.trans l2) _ fun w H3 l3 hw => ?_)
  have e1 : v = y := hv
  have e2 : u = .ref l := hu
  have e3 : w = .int (k : Int) := hw
  subst e1 e2 e3
  have l4 := (l1.trans l2).trans l3
  exact ⟨l, xs, (k : Int), k, rfl, rfl, l4.lst z hl, ixN_nat hk, next H3 (hB.trans l4) l4 (l4.lst z hl) ((hB.trans l4).mut hBl)⟩
/-- a, b = x, y, the names kept in cells -/
theorem hb_parC {x y : Str} {py : Pos} {kt k2 pt2} {Rs : List V → Hp → Prop} (i j : Nat) (hB : Le P Z B H) (ha : EvA X P Z [a, b] σ H Rs) (nd : X.N.Nodup) (k : ∀ vs H1, Le P Z B H1 → Le P Z H H1 → (∃ H0, Le P Z H0 H1 ∧ Rs vs H0) → ∃ v w, vs = [v, w] ∧ wB X rest D ((σ.set i (some v)).set j (some w)) H1) (hl2 : ∀ vs H1, Rs vs H1 → vs.length = 2)
    (hc : X.calm = true := by rfl) (hi : X.N[i]? = some x := by rfl) (hj : X.N[j]? = some y := by rfl)
    (hx : Loc X.env.scope x := by first | exact Or.inl rfl | exact Or.inr rfl) (hy : Loc X.env.scope y := by first | exact Or.inl rfl | exact Or.inr rfl)
    (hfx : X.fn x = true ∨ X.env.scope.names.lookup x = some .local := by first | exact .inl rfl | exact .inr rfl) (hfy : X.fn y = true ∨ X.env.scope.names.lookup y = some .local := by first | exact .inl rfl | exact .inr rfl)
    (hs : swapsWithSole [.Tuple [.Name x px, .Name y py] kt pt] (.Tuple [a, b] k2 pt2) pos.line X.env = pure false := by rfl) (hw : swappedStores [.Tuple [.Name x px, .Name y py] kt pt] (.Tuple [a, b] k2 pt2) X.env = pure none := by rfl)
    (h1 : (assignEach [.Tuple [.Name x px, .Name y py] kt pt] X.env).map (·.2) = [assign (.Tuple [.Name x px, .Name y py] kt pt) X.env] := by rfl)
    (hn : (assignEach [.Name x px, .Name y py] X.env).length = 2 := by rfl) (hst : (assignEach [.Name x px, .Name y py] X.env).findIdx? (·.1) = none := by rfl)
    (hs1 : (assignEach [.Name x px, .Name y py] X.env).map (·.2) = assign (.Name x px) X.env :: (assignEach [.Name y py] X.env).map (·.2) := by rfl)
    (hs2 : (assignEach [.Name y py] X.env).map (·.2) = assign (.Name y py) X.env :: (assignEach [] X.env).map (·.2) := by rfl) : wB X (.Assign [.Tuple [.Name x px, .Name y py] kt pt] (.Tuple [a, b] k2 pt2) pos :: rest) D σ H := by
  refine hb_cons (ps_asg (pe_tup pa_w) (pg_tup hc (pgs_cons (pg_name nd hi hx hfx) (pgs_cons (pg_name nd hj hy hfy) pgs_nil hs2) hs1) hn hst) hs hw h1) (ha H hB.right _ fun vs H1 l1 hv => ?_)
  have len := hl2 vs H1 hv
  refine ⟨by rw [len]; decide, fun q hq => ?_⟩
  have l2 : Le P Z H1 (upd H1 q (.tup vs)) := l1.right.mut hq
  obtain ⟨v, w, e, hk⟩ := k vs _ (hB.trans (l1.trans l2)) (l1.trans l2) ⟨H1, l2, hv⟩
  subst e
  exact ⟨q, [v, w], rfl, SqT.of upd_same, rfl, v, [w], rfl, w, [], rfl, rfl, hk⟩
/-- xs * n of a list -/
theorem ev_rep {xs : List V} {n : Nat} [m : Mono P Z Ra] (ha : EvE X P Z a σ H (LV Z xs)) (hb : EvE X P Z b σ H (is (.int (n : Int)))) (hn : n ≤ 1000) (hx : xs.length ≤ 1000) :
    EvE X P Z (.BinOp a .Mult b pos) σ H (fun v H1 => ∃ p, v = .ref p ∧ Z ≠ some p ∧ H p = none ∧ H1 p = some (.lst (List.replicate n xs).flatten)) :=
  ev_of (pe_op op_rep pe_w pe_w) fun H1 l Q q => ha H1 l _ fun u H2 l2 hu => hb H2 (l.trans l2) _ fun v H3 l3 hv => by
    obtain ⟨a, e, z, h⟩ := (mono_lv (P := P) (Z := Z)).up u H2 H3 l3 hu
    have ev : v = .int (n : Int) := hv
    subst ev
    have l4 := l.trans (l2.trans l3)
    refine ⟨a, (n : Int), xs, e, rfl, h, by omega, by omega, ?_, fun t ht => ?_⟩
    · show xs.length * n ≤ sizeLine
      have : xs.length * n ≤ 1000 * 1000 := Nat.mul_le_mul hx hn
      exact Nat.le_of_lt (sz_le this)
    · exact q _ _ ((l2.trans l3).trans (l4.right.mut ht)) ⟨t, rfl, l4.znew ht, l4.dom t ht, upd_same⟩
/-- x not in a list of integers -/
theorem ev_notin {n : Int} {ns : List Int} (ha : EvE X P Z a σ H (is (.int n))) (hb : EvE X P Z b σ H (IL Z ns)) (hm : behindInMarks .NotIn b = false := by first | exact nomark _ | rfl) :
    EvE X P Z (.Compare a [.NotIn] [b] pos) σ H (is (.bl (!ns.contains n))) :=
  ev_cmp2 op_notIn_seq ha hb (fun u v H1 l hu hv Q q => by
    obtain ⟨a, e, _, h⟩ := hv
    have eu : u = .int n := hu
    subst eu
    refine ⟨a, ns.map V.int, e, .inl (SqL.of h), rfl, ?_, ?_⟩
    · rw [List.all_eq_true]
      intro x hx
      obtain ⟨i, _, rfl⟩ := List.mem_map.mp hx
      rfl
    · have ein : inV (.int n) (ns.map V.int) = ns.contains n := by
        unfold inV
        rw [List.any_map, List.contains_eq_any_beq]
        congr 1
        funext i
        show (i == n) = (n == i)
        rw [Bool.eq_iff_iff, beq_iff_eq, beq_iff_eq]
        exact eq_comm
      show Q (.bl (if true = true then !inV (.int n) (ns.map V.int) else _)) H1
      rw [if_pos rfl, ein]
      exact q _ H1 l.right rfl) hm
/-- starred arguments -/
theorem ea_star {es : List Expr} {Rs Ss : List V → Hp → Prop} {ps : Pos} (ms : ∀ vs H H', Le P Z H H' → Ss vs H → Ss vs H') (ha : EvE X P Z e σ H (fun v H1 => ∃ xs, SV xs v H1 ∧ Ss xs H1)) (hr : EvA X P Z es σ H Rs) (hs : starEach (.Starred e ps :: es) X.env = (true, eval e X.env) :: starEach es X.env := by rfl) :
    EvA X P Z (.Starred e ps :: es) σ H (fun vs H => ∃ xs r, vs = xs ++ r ∧ Ss xs H ∧ Rs r H) :=
  ea_of (StX.pa_star pe_w pa_w hs) fun H1 l Q q => ha H1 l _ fun x H2 l2 hx => by
    obtain ⟨xs, ⟨a, e, h⟩, hss⟩ := hx
    exact ⟨a, xs, e, h.elim (fun h => .inr (SqL.of h)) (fun h => .inl (SqT.of h)), hr H2 (l.trans l2) _ fun ys H3 l3 hy => q _ H3 (l2.trans l3) ⟨xs, ys, rfl, ms _ _ _ l3 hss, hy⟩⟩
end
/-! ### data -/
section
variable {K : PySem.W.Frag} {H : Hp}
def dI (ns : List Int) : List PyData := ns.map PyData.int
theorem dp_all : ∀ ns : List Int, DpAll K H (ns.map V.int) (dI ns)
  | [] => .nil
  | n :: r => .cons (.int n) (dp_all r)
theorem dp_l {a : Addr} {ns : List Int} (h : H a = some (.lst (ns.map V.int))) : Dp K H (.ref a) (.list (dI ns)) := .lst (SqL.of h) (dp_all ns)
theorem dp_t {a : Addr} {ns : List Int} (h : H a = some (.tup (ns.map V.int))) : Dp K H (.ref a) (.tuple (dI ns)) := .tup (SqT.of h) (dp_all ns)
end
theorem lay_ints : ∀ ns : List Int, PyData.canLayAll0 (dI ns) = true
  | [] => by simp only [dI, List.map_nil, PyData.canLayAll0]
  | n :: r => by
    have := lay_ints r
    simp only [dI, List.map_cons, PyData.canLayAll0, PyData.canLay0, Bool.true_and] at *
    exact this
theorem depth_ints : ∀ ns : List Int, PyData.depthAll (dI ns) = 0
  | [] => by simp only [dI, List.map_nil, PyData.depthAll]
  | n :: r => by
    have := depth_ints r
    simp only [dI, List.map_cons, PyData.depthAll, PyData.depth] at *
    omega
theorem shaped_l (ns : List Int) : SeqAt.shaped (.list (dI ns)) = true := by
  simp only [SeqAt.shaped, PyData.canLay0, PyData.depth, lay_ints, depth_ints]
  decide
theorem shaped_t (ns : List Int) : SeqAt.shaped (.tuple (dI ns)) = true := by
  simp only [SeqAt.shaped, PyData.canLay0, PyData.depth, lay_ints, depth_ints]
  decide
theorem eqv_ints : ∀ ns ms : List Int, PyData.eqvAll (dI ns) (dI ms) = (ns == ms)
  | [], [] => by simp [dI, PyData.eqvAll]
  | [], _ :: _ => by simp [dI, PyData.eqvAll]
  | _ :: _, [] => by simp [dI, PyData.eqvAll]
  | n :: r, m :: t => by
    have := eqv_ints r t
    simp only [dI, List.map_cons, PyData.eqvAll, PyData.eqv] at *
    rw [this]
    rfl
/-! tuples of integers in a list, in a tuple -/
def dT (rs : List (List Int)) : List PyData := rs.map fun ns => .tuple (dI ns)
theorem lay_rows : ∀ rs : List (List Int), PyData.canLayAll0 (dT rs) = true
  | [] => by simp only [dT, List.map_nil, PyData.canLayAll0]
  | n :: r => by
    have := lay_rows r
    simp only [dT, List.map_cons, PyData.canLayAll0, PyData.canLay0, lay_ints, Bool.true_and] at *
    exact this
theorem depth_rows : ∀ rs : List (List Int), PyData.depthAll (dT rs) ≤ 1
  | [] => by simp only [dT, List.map_nil, PyData.depthAll]; omega
  | n :: r => by
    have := depth_rows r
    simp only [dT, List.map_cons, PyData.depthAll, PyData.depth, depth_ints] at *
    omega
theorem shaped_rl (rs : List (List Int)) : SeqAt.shaped (.list (dT rs)) = true := by
  have := depth_rows rs
  simp only [SeqAt.shaped, PyData.canLay0, PyData.depth, lay_rows, Bool.true_and]
  exact decide_eq_true (by omega)
theorem eqv_rows : ∀ rs ts : List (List Int), PyData.eqvAll (dT rs) (dT ts) = (rs == ts)
  | [], [] => by simp [dT, PyData.eqvAll]
  | [], _ :: _ => by simp [dT, PyData.eqvAll]
  | _ :: _, [] => by simp [dT, PyData.eqvAll]
  | n :: r, m :: t => by
    have := eqv_rows r t
    simp only [dT, List.map_cons, PyData.eqvAll, PyData.eqv, eqv_ints] at *
    rw [this]
    rfl
section
variable {X : Cx} {P : Addr} {Z : Option Addr} {σ : L2.St} {H B : Hp} {a b : Expr} {pos : Pos}
theorem room64 {k : Nat} {A : Around} (r : Room k A) : A.units + 64 < cLine := by have := r.un; omega
/-- lists of integers: ==, != -/
theorem ev_neL {k : Nat} {ns ms : List Int} (hr : Room k X.A) (ha : EvE X P Z a σ H (IL Z ns)) (hb : EvE X P Z b σ H (IL Z ms)) (hm : behindInMarks .NotEq b = false := by first | exact nomark _ | rfl) : EvE X P Z (.Compare a [.NotEq] [b] pos) σ H (is (.bl (ns != ms))) :=
  ev_cmp2 (op_neD (room64 hr)) ha hb (fun u v H1 l ⟨p, e, _, h⟩ ⟨p2, e2, _, h2⟩ Q q => by
    rw [e, e2]
    refine ⟨_, _, dp_l h, dp_l h2, shaped_l _, shaped_l _, ?_⟩
    rw [PyData.eqv, eqv_ints]
    exact q _ H1 l.right rfl) hm
/-- .. tuples -/
theorem ev_neT {k : Nat} {ns ms : List Int} (hr : Room k X.A) (ha : EvE X P Z a σ H (IT ns)) (hb : EvE X P Z b σ H (IT ms)) (hm : behindInMarks .NotEq b = false := by first | exact nomark _ | rfl) : EvE X P Z (.Compare a [.NotEq] [b] pos) σ H (is (.bl (ns != ms))) :=
  ev_cmp2 (op_neD (room64 hr)) ha hb (fun u v H1 l ⟨p, e, h⟩ ⟨p2, e2, h2⟩ Q q => by
    rw [e, e2]
    refine ⟨_, _, dp_t h, dp_t h2, shaped_t _, shaped_t _, ?_⟩
    rw [PyData.eqv, eqv_ints]
    exact q _ H1 l.right rfl) hm
theorem ev_eqT {k : Nat} {ns ms : List Int} (hr : Room k X.A) (ha : EvE X P Z a σ H (IT ns)) (hb : EvE X P Z b σ H (IT ms)) (hm : behindInMarks .Eq b = false := by first | exact nomark _ | rfl) : EvE X P Z (.Compare a [.Eq] [b] pos) σ H (is (.bl (ns == ms))) :=
  ev_cmp2 (op_eqD (room64 hr)) ha hb (fun u v H1 l ⟨p, e, h⟩ ⟨p2, e2, h2⟩ Q q => by
    rw [e, e2]
    refine ⟨_, _, dp_t h, dp_t h2, shaped_t _, shaped_t _, ?_⟩
    rw [PyData.eqv, eqv_ints]
    exact q _ H1 l.right rfl) hm
end
section
variable {X : Cx} {P : Addr} {Z : Option Addr} {σ : L2.St} {H B : Hp} {a b : Expr} {pos : Pos} {op : CmpOp} {t : TE}
theorem isTrue_cmpE (env : Env) (whole : Sem Value) : isTrue (.Compare a [op] [b] pos) env whole = (eval (.Compare a [op] [b] pos) env >>= fun c => holding [c] (truthy c)) := by
  rw [isTrue_Compare1, eval_Compare1]
  simp only [bind_assoc]
theorem pt_cmpE (h : PE X (.Compare a [op] [b] pos) t) : PT X (.Compare a [op] [b] pos) (tB t) := by
  refine ⟨fun pins s σ H Q I hw => ?_⟩
  rw [isTrue_cmpE]
  refine wpAny_bind (thn (h.run pins s σ H _ I hw) fun v s1 ⟨x, H1, I1, r1, d, e, q⟩ => ?_)
  subst e
  cases r1
  exact wpAny_holding (wpAny_truthy_bool ⟨H1, I1, q⟩)
/-- a comparison as a test -/
theorem et_c {x : Bool} (h : EvE X P Z (.Compare a [op] [b] pos) σ H (is (.bl x))) : EvT X P Z (.Compare a [op] [b] pos) σ H x :=
  et_of (pt_cmpE pe_w) fun H1 l Q q => h H1 l _ fun u H2 l2 hu => ⟨x, hu, q H2 l2⟩
end
section
variable {X : Cx}
theorem pg_pair {i j : Nat} {x y : Str} {p1 p2 pt : Pos} {kt : Nat} (nd : X.N.Nodup) (hi : X.N[i]? = some x) (hj : X.N[j]? = some y) (hx : Loc X.env.scope x) (hy : Loc X.env.scope y) (hc : X.calm = true := by rfl)
    (hfx : X.fn x = true ∨ X.env.scope.names.lookup x = some .local := by first | exact .inl rfl | exact .inr rfl) (hfy : X.fn y = true ∨ X.env.scope.names.lookup y = some .local := by first | exact .inl rfl | exact .inr rfl)
    (hn : (assignEach [.Name x p1, .Name y p2] X.env).length = 2 := by rfl) (hst : (assignEach [.Name x p1, .Name y p2] X.env).findIdx? (·.1) = none := by rfl)
    (hs1 : (assignEach [.Name x p1, .Name y p2] X.env).map (·.2) = assign (.Name x p1) X.env :: (assignEach [.Name y p2] X.env).map (·.2) := by rfl)
    (hs2 : (assignEach [.Name y p2] X.env).map (·.2) = assign (.Name y p2) X.env :: (assignEach [] X.env).map (·.2) := by rfl) :
    PG X (.Tuple [.Name x p1, .Name y p2] kt pt) (gTup X.K 2 (gCons (gName i) (gCons (gName j) gNil))) :=
  pg_tup hc (pgs_cons (pg_name nd hi hx hfx) (pgs_cons (pg_name nd hj hy hfy) pgs_nil hs2) hs1) hn hst
end
end K6

/-! ## D2 -/
set_option Elab.async false
set_option linter.all false
set_option maxRecDepth 100000
set_option maxHeartbeats 4000000
namespace K6
open PySem PySem.Spec PyProof.Rows L2
section
variable {P : Program} {w : World} {K : PySem.W.Frag} {mg : Str → Option Value} {base : Heap} {T : Addr}
/-! ### primitive_of -/
def spPrim (T : Addr) : Sp := fun vs H Q _ => ∃ (v : V) (ns : List Int), vs = [v] ∧ IL none ns v H ∧ GxR.TabG H T ∧ ns.length ≤ 1000 ∧ (K63.shared ns).natAbs.log2 < 9000 ∧ ∀ u H', Le T none H H' → IL none (K63.prim ns) u H' → Q u H'
theorem sc19 : FnScope ["numbers", "part", "number"] ["numbers"] (defScope (top 19)) := ⟨rfl, rfl, rfl, by decide +kernel, rfl, by decide +kernel, by decide +kernel⟩
theorem map_range {α : Type} (ns : List Int) (f : Int → α) : (List.range ns.length).map (fun i => f (K63.g ns i)) = ns.map f := by
  refine List.ext_getElem? fun i => ?_
  rw [List.getElem?_map, List.getElem?_map]
  by_cases h : i < ns.length
  · rw [K63.g_lt h, List.getElem?_range h]
    rfl
  · have e1 : ns[i]? = none := List.getElem?_eq_none_iff.mpr (by omega)
    have e2 : (List.range ns.length)[i]? = none := List.getElem?_eq_none_iff.mpr (by rw [List.length_range]; omega)
    rw [e1, e2]
    rfl
theorem ok_prim {f : Addr} {fd : FuncData} (F : FnP K "primitive_of" 19 f fd) (G : G0 mg) (fS : Fk P w K mg base "shared_of" 1 ["numbers"] (spShared T)) (fF : Fk P w K mg base "first_of" 1 ["numbers"] (spFirst T)) : FnOk P w K mg base CX0 2 f fd ["numbers"] (spPrim T) := by
  refine F.ok sc19 (fun vs H Q E h => ?_) (fun cdv A outer s H vs Q E hr h => ?_)
  · obtain ⟨v, ns, rfl, _⟩ := h
    rfl
  · obtain ⟨v, ns, rfl, hv, ht, hl, hz, q⟩ := h
    refine ⟨_, PSs.nox pb_w, ?_⟩
    refine hb_set (P := T) (Z := none) 1 (Le.refl0 H) (ev_call1 (R := is (.int (K63.shared ns))) fS hr (ev_v (R := IL none ns) 0 rfl hv) fun u H1 l hu Q q => ⟨u, ns, rfl, hu, fun H2 l2 => q _ H2 l2 rfl⟩) sc19.nd fun u H1 l1 _ r => ?_
    have e : u = .int (K63.shared ns) := r
    subst e
    have hv1 := (mono_lv (P := T) (Z := none)).up v H H1 l1 hv
    refine hb_if (x := K63.shared ns == 0) l1 (et_c (ev_eqI (ev_i 1 rfl) ev_c)) (fun hx H2 l2 l3 => ?_) fun hx H2 l2 l3 => hb_nil ?_
    · refine hb_ret l2 (ev_list G.list (ev_v (R := IL none ns) 0 rfl ((mono_lv (P := T) (Z := none)).up v H1 H2 l3 hv1)) fun v H1 h => sv_lv h) fun u H3 l4 _ r => q u H3 l4 ?_
      unfold K63.prim
      rw [if_pos (by exact beq_iff_eq.mp hx)]
      exact r
    · have hne : K63.shared ns ≠ 0 := fun z => by rw [z] at hx; exact absurd hx (by decide)
      have hv2 := (mono_lv (P := T) (Z := none)).up v H1 H2 l3 hv1
      refine hb_set 1 l2 (R := is (.int (if K63.firstOf ns > 0 then K63.shared ns else -K63.shared ns))) (ev_if (x := decide (0 < K63.firstOf ns)) (et_c (ev_gt (ev_call1 (R := is (.int (K63.firstOf ns))) fF hr (ev_v (R := IL none ns) 0 rfl hv2) fun u H1 l hu Q q => ⟨u, ns, rfl, hu, (l2.trans l).tab ht, fun H2 l2 => q _ H2 l2 rfl⟩) ev_c)) (fun hy => ?_) fun hy => ?_) sc19.nd fun u H3 l4 l5 r => ?_
      · rw [if_pos (of_decide_eq_true hy)]
        exact ev_i 1 rfl
      · rw [if_neg (of_decide_eq_false hy)]
        exact ev_neg (ev_i 1 rfl)
      · have e : u = .int (if K63.firstOf ns > 0 then K63.shared ns else -K63.shared ns) := r
        subst e
        have hv3 := (mono_lv (P := T) (Z := none)).up v H2 H3 l5 hv2
        refine hb_ret l4 (ev_lc sc19.nd (pi_list pe_w) (blkOk_by (own := [("number", 2)]) (N := ["numbers", "part", "number"]) (sc := defScope (top 19)) (by decide +kernel)) (fun _ _ _ _ _ => pg_name (i := 2) sc19.nd rfl (Or.inl rfl))
          (lc_vals (en_list (ev_v (R := LG none ns.length fun i => is (.int (K63.g ns i))) 0 rfl (il_lg hv3))) (bd_name (K := K)) (by omega) (fun _ _ _ _ => rfl) (fun i => .int (Int.fdiv (K63.g ns i) (if K63.firstOf ns > 0 then K63.shared ns else -K63.shared ns))) fun i u H1 hi l hu => eb_of fun _ _ _ _ _ => ?_)) fun u H4 l6 _ r => q u H4 l6 ?_
        · have eu : u = .int (K63.g ns i) := hu
          rw [eu]
          refine ev_divZ (ev_i 2 rfl) (ev_i 1 rfl) ?_
          refine ⟨?_, ?_⟩
          · split <;> omega
          · split
            · exact hz
            · rw [Int.natAbs_neg]
              exact hz
        · unfold K63.prim
          rw [if_neg hne]
          have e := map_range ns fun n => V.int (Int.fdiv n (if K63.firstOf ns > 0 then K63.shared ns else -K63.shared ns))
          rw [e] at r
          show LV none (List.map V.int (List.map _ ns)) u H4
          rw [List.map_map]
          exact r
/-! ### less_head -/
def Bits (n : Int) : Prop := n.natAbs < 2 ^ 9000
def spLess (T : Addr) : Sp := fun vs H Q _ => ∃ (u v : V) (row head : List Int) (p : Nat), vs = [u, v, .int p] ∧ IL none row u H ∧ IL none head v H ∧ row.length = head.length ∧ row.length ≤ 1000 ∧ p < row.length ∧ K63.g head p ≠ 0 ∧ (∀ i, Bits (K63.g row i)) ∧ (∀ i, Bits (K63.g head i)) ∧
  (K63.shared (K63.comb (K63.g head p / K63.gcd2 (K63.g head p) (K63.g row p)) (K63.g row p / K63.gcd2 (K63.g head p) (K63.g row p)) row head)).natAbs < 2 ^ 9000 ∧ ∀ z H', Le T none H H' → IL none (K63.lessHead row head p) z H' → Q z H'
theorem sc22 : FnScope ["row", "head", "place", "one", "other", "part", "found", "shared", "entry", "taken"] ["row", "head", "place"] (defScope (top 22)) := ⟨rfl, rfl, rfl, by decide +kernel, rfl, by decide +kernel, by decide +kernel⟩
theorem Bits.log {n : Int} (h : Bits n) : n.natAbs.log2 < 9000 := by
  by_cases z : n.natAbs = 0
  · rw [z]
    decide
  · exact (Nat.log2_lt z).mpr h
theorem Bits.mul {i j : Int} (h : Bits i) (h2 : Bits j) : CMulW i j := by
  have := h.log
  have := h2.log
  unfold CMulW
  omega
theorem Bits.le {i j : Int} (h : Bits j) (l : i.natAbs ≤ j.natAbs) : Bits i := Nat.lt_of_le_of_lt l h
theorem comb_eq {row head : List Int} (hl : row.length = head.length) (one other : Int) : K63.comb one other row head = K63.tab row.length fun i => K63.g row i * one - other * K63.g head i :=
  K63.eq_tab (by unfold K63.comb; rw [List.length_zipWith]; omega) fun i _ => K63.comb_g hl i
theorem ok_less {f : Addr} {fd : FuncData} (F : FnP K "less_head" 22 f fd) (G : G0 mg) (fS : Fk P w K mg base "shared_of" 1 ["numbers"] (spShared T)) : FnOk P w K mg base CX0 2 f fd ["row", "head", "place"] (spLess T) := by
  refine F.ok sc22 (fun vs H Q E h => ?_) (fun cdv A outer s H vs Q E hr h => ?_)
  · obtain ⟨u, v, row, head, p, rfl, _⟩ := h
    rfl
  · obtain ⟨u, v, row, head, p, rfl, hu, hv, hl, hl2, hp, hz, b1, b2, b3, q⟩ := h
    refine ⟨_, PSs.nox pb_w, ?_⟩
    have gr : ∀ (u : V) (r : List Int) (H1 : Hp), p < r.length → IL none r u H1 → ∃ a, u = .ref a := fun u r H1 _ h => let ⟨a, e, _⟩ := h; ⟨a, e⟩
    have gi : ∀ r : List Int, p < r.length → (r.map V.int)[p]? = some (.int (K63.g r p)) := fun r h => by
      rw [List.getElem?_map, K63.g_lt h]
      rfl
    refine hb_parC (P := T) (Z := none) 3 4 (Le.refl0 H) (ea_cons (ev_ixL (ev_v (R := IL none head) 1 rfl hv) (ev_i 2 rfl) (gi head (by omega))) (ea_cons (ev_ixL (ev_v (R := IL none row) 0 rfl hu) (ev_i 2 rfl) (gi row hp)) ea_nil)) sc22.nd (fun vs H1 l1 _ r => ?_) fun vs H1 r => ?_
    · obtain ⟨H0, l0, x, r1, e1, hx, y, r2, e2, hy, e3⟩ := r
      have ex : x = .int (K63.g head p) := hx
      have ey : y = .int (K63.g row p) := hy
      have e3' : r2 = [] := e3
      subst ex ey e3' e2 e1
      refine ⟨_, _, rfl, ?_⟩
      have hu1 := (mono_lv (P := T) (Z := none)).up u H H1 l1 hu
      have hv1 := (mono_lv (P := T) (Z := none)).up v H H1 l1 hv
      refine hb_if (x := K63.g row p == 0) l1 (et_c (ev_eqI (ev_i 4 rfl) ev_c)) (fun hx H2 l2 l3 => ?_) fun hx H2 l2 l3 => hb_nil ?_
      · refine hb_ret l2 (ev_v (R := IL none row) 0 rfl ((mono_lv (P := T) (Z := none)).up u H1 H2 l3 hu1)) fun z H3 l4 _ r => q z H3 l4 ?_
        unfold K63.lessHead
        rw [if_pos (beq_iff_eq.mp hx)]
        exact r
      · have hne : K63.g row p ≠ 0 := fun z => by rw [z] at hx; exact absurd hx (by decide)
        generalize hd : K63.gcd2 (K63.g head p) (K63.g row p) = d at b3
        have dpos : 0 < d := by rw [← hd]; exact K63.gcd2_pos hne
        have d1 : d ∣ K63.g head p := by rw [← hd]; exact K63.gcd2_left _ _
        have d2 : d ∣ K63.g row p := by rw [← hd]; exact K63.gcd2_right _ _
        have dle : d.natAbs ≤ (K63.g row p).natAbs := Nat.le_of_dvd (by omega) (Int.natAbs_dvd_natAbs.mpr d2)
        have cd : ∀ i, CDivW i d := fun i => ⟨dpos, ((b1 p).le dle).log⟩
        refine hb_set 5 l2 (ev_gcd G.gcd (ev_i 3 rfl) (ev_i 4 rfl)) sc22.nd fun u' H3 l4 l5 r => ?_
        have e : u' = .int d := by rw [← hd]; exact r
        subst e
        refine hb_parC 3 4 l4 (ea_cons (ev_div (ev_i 3 rfl) (ev_i 5 rfl) (cd _)) (ea_cons (ev_div (ev_i 4 rfl) (ev_i 5 rfl) (cd _)) ea_nil)) sc22.nd (fun vs H4 l6 l7 r => ?_) fun vs H1 r => ?_
        · obtain ⟨H0, l0, x, r1, e1, hx, y, r2, e2, hy, e3⟩ := r
          have ex : x = .int (K63.g head p / d) := hx
          have ey : y = .int (K63.g row p / d) := hy
          have e3' : r2 = [] := e3
          subst ex ey e3' e2 e1
          refine ⟨_, _, rfl, ?_⟩
          have l8 := l3.trans (l5.trans l7)
          have hu4 := (mono_lv (P := T) (Z := none)).up u H1 H4 l8 hu1
          have hv4 := (mono_lv (P := T) (Z := none)).up v H1 H4 l8 hv1
          have c1 : Bits (K63.g head p / d) := (b2 p).le (K63.ediv_natAbs_le d1 dpos)
          have c2 : Bits (K63.g row p / d) := (b1 p).le (K63.ediv_natAbs_le d2 dpos)
          generalize hone : K63.g head p / d = one at *
          generalize hoth : K63.g row p / d = other at *
          refine hb_lc 6 l6 sc22.nd (pi_zip rfl G.zip pa_w) (blkOk_by (own := [("entry", 8), ("taken", 9)]) (N := ["row", "head", "place", "one", "other", "part", "found", "shared", "entry", "taken"]) (sc := defScope (top 22)) (by decide +kernel))
            (fun _ _ _ _ _ => pg_pair (i := 8) (j := 9) sc22.nd rfl rfl (Or.inl rfl) (Or.inl rfl))
            (lc_vals (en_zipL (ev_v (R := LG none row.length fun i => is (.int (K63.g row i))) 0 rfl (il_lg hu4)) (ev_v (R := LG none row.length fun i => is (.int (K63.g head i))) 1 rfl (by rw [hl]; exact il_lg hv4))) (bd_pair (K := K)) (by omega) (fun _ _ _ _ => rfl) (fun i => .int (K63.g row i * one - other * K63.g head i)) fun i u H1 hi l hu => eb_of fun _ _ _ _ _ => ?_)
            (fun u' H5 l9 l10 r => ?_) (sw_true rfl rfl rfl rfl)
          · obtain ⟨u1, u2⟩ := u
            obtain ⟨h1, h2⟩ := hu
            have h1' : u1 = .int (K63.g row i) := h1
            have h2' : u2 = .int (K63.g head i) := h2
            subst h1' h2'
            exact ev_sub (ev_mul (ev_i 8 rfl) (ev_i 3 rfl) ((b1 i).mul c1)) (ev_mul (ev_i 4 rfl) (ev_i 9 rfl) (c2.mul (b2 i)))
          · rw [map_tab, ← comb_eq hl] at r
            generalize hc : K63.comb one other row head = xs at *
            have hxl : xs.length = row.length := by
              rw [← hc]
              unfold K63.comb
              rw [List.length_zipWith]
              omega
            refine hb_set 7 l9 (ev_call1 (R := is (.int (K63.shared xs))) fS hr (ev_v (R := IL none xs) 6 rfl r) fun u H1 l hu Q q => ⟨u, xs, rfl, hu, fun H2 l2 => q _ H2 l2 rfl⟩) sc22.nd fun z H6 l11 l12 r2 => ?_
            have e : z = .int (K63.shared xs) := r2
            subst e
            have r6 := (mono_lv (P := T) (Z := none)).up u' H5 H6 l12 r
            have fin : K63.lessHead row head p = K63.cut xs := by
              unfold K63.lessHead
              rw [if_neg hne, hd, hone, hoth, hc]
            refine hb_ret (R := IL none (K63.cut xs)) l11 (ev_if (x := decide (1 < K63.shared xs)) (et_c (ev_gt (ev_i 7 rfl) ev_c)) (fun hy => ?_) fun hy => ?_) fun z H7 l13 _ r => q z H7 l13 (by rw [fin]; exact r)
            · have h1 := of_decide_eq_true hy
              unfold K63.cut
              rw [if_pos h1]
              refine (ev_lc sc22.nd (pi_list pe_w) (blkOk_by (own := [("entry", 8)]) (N := ["row", "head", "place", "one", "other", "part", "found", "shared", "entry", "taken"]) (sc := defScope (top 22)) (by decide +kernel)) (fun _ _ _ _ _ => pg_name (i := 8) sc22.nd rfl (Or.inl rfl))
                (lc_vals (en_list (ev_v (R := LG none xs.length fun i => is (.int (K63.g xs i))) 6 rfl (il_lg r6))) (bd_name (K := K)) (by omega) (fun _ _ _ _ => rfl) (fun i => .int (K63.g xs i / K63.shared xs)) fun i u H1 hi l hu => eb_of fun _ _ _ _ _ => ?_)).imp fun v H1 l r => ?_
              · have eu : u = .int (K63.g xs i) := hu
                rw [eu]
                exact ev_div (ev_i 8 rfl) (ev_i 7 rfl) ⟨by omega, Bits.log b3⟩
              · have e := map_range xs fun n => V.int (n / K63.shared xs)
                rw [e] at r
                show LV none (List.map V.int (List.map _ xs)) v H1
                rw [List.map_map]
                exact r
            · have h1 := of_decide_eq_false hy
              unfold K63.cut
              rw [if_neg h1]
              exact ev_v (R := IL none xs) 6 rfl r6
        · obtain ⟨x, r1, e1, hx, y, r2, e2, hy, e3⟩ := r
          have e3' : r2 = [] := e3
          subst e3' e2 e1
          rfl
    · obtain ⟨x, r1, e1, hx, y, r2, e2, hy, e3⟩ := r
      have e3' : r2 = [] := e3
      subst e3' e2 e1
      rfl
end
end K6

/-! ## D3 -/
set_option Elab.async false
set_option linter.all false
set_option maxRecDepth 100000
set_option maxHeartbeats 4000000
namespace K6
open PySem PySem.Spec PyProof.Rows L2
/-- a list of lists of integers -/
abbrev RL (rs : List (List Int)) : Rp := LG none rs.length (fun i => IL none (rs.getD i []))
/-- a list, made behind B, of n things -/
def FL (Z : Option Addr) (B : Hp) (n : Nat) (R : Nat → Rp) : Rp := fun v H1 => ∃ D xs, v = .ref D ∧ Z ≠ some D ∧ B D = none ∧ H1 D = some (.lst xs) ∧ xs.length = n ∧ ∀ i x, xs[i]? = some x → R i x H1
def FV (Z : Option Addr) (B : Hp) (xs : List V) : Rp := fun v H1 => ∃ D, v = .ref D ∧ Z ≠ some D ∧ B D = none ∧ H1 D = some (.lst xs)
instance mono_fl {P : Addr} {Z : Option Addr} {B : Hp} {n : Nat} {R : Nat → Rp} [m : ∀ i, Mono P Z (R i)] : Mono P Z (FL Z B n R) :=
  ⟨fun _ _ _ l ⟨a, vs, e, z, b, h, hl, hr⟩ => ⟨a, vs, e, z, b, l.keep a _ z nt_lst h, hl, fun i x hx => (m i).up _ _ _ l (hr i x hx)⟩⟩
instance mono_fv {P : Addr} {Z : Option Addr} {B : Hp} {xs : List V} : Mono P Z (FV Z B xs) := ⟨fun _ _ _ l ⟨a, e, z, b, h⟩ => ⟨a, e, z, b, l.keep a _ z nt_lst h⟩⟩
theorem fl_lg {Z : Option Addr} {B : Hp} {n : Nat} {R : Nat → Rp} {v : V} {H : Hp} (h : FL Z B n R v H) : LG Z n R v H := let ⟨D, xs, e, z, _, h⟩ := h; ⟨D, xs, e, z, h⟩
theorem ev_nil {X : Cx} {P : Addr} {Z : Option Addr} {σ : L2.St} {H : Hp} {pos : Pos} : EvE X P Z (.List [] pos) σ H (FV Z H []) :=
  (ev_lst ea_nil fun vs H1 h => by rw [show vs = [] from h]; decide).imp fun v H1 l ⟨a, vs, H0, e, z, b, h, _, hv⟩ => ⟨a, e, z, b, by rw [h, show vs = [] from hv]⟩
section
variable {P : Program} {w : World} {K : PySem.W.Frag} {mg : Str → Option Value} {base : Heap} {T : Addr}
/-! ### echelon_rows -/
/-- rows as lists or tuples -/
abbrev RS (rs : List (List Int)) : Rp := LG none rs.length (fun i => SV ((rs.getD i []).map V.int))
structure EchOk (rows : List (List Int)) (w : Nat) : Prop where
  len : ∀ r ∈ rows, r.length = w
  pos : 1 ≤ w
  big : w ≤ 1000
  few : rows.length ≤ 1000
  size : ∃ c m : Nat, (∀ r ∈ rows, ∀ i, 2 * (K63.g r i).natAbs ≤ 2 ^ c) ∧ c * 2 ^ m ≤ 8998 ∧ (w ≤ m ∨ rows.length ≤ m)
def spEch (T : Addr) : Sp := fun vs H Q _ => ∃ (v : V) (rows : List (List Int)) (n : Nat), vs = [v, .int n] ∧ RS rows v H ∧ GxR.TabG H T ∧ EchOk rows n ∧ ∀ u H', Le T none H H' → RL (K63.ech rows n) u H' → Q u H'
theorem sc23 : FnScope ["rows", "width", "left", "found", "place", "heads", "head", "row", "at"] ["rows", "width"] (defScope (top 23)) := ⟨rfl, rfl, rfl, by decide +kernel, rfl, by decide +kernel, by decide +kernel⟩
theorem mem_getD {rs : List (List Int)} {i : Nat} (h : i < rs.length) : rs.getD i [] ∈ rs := K63.getD_mem h
theorem ne_len {r : List Int} {n : Nat} (h : r.length = n) (p : 1 ≤ n) : r ≠ [] := fun e => by rw [e] at h; have : ([] : List Int).length = 0 := rfl; omega
/-- a change of a list of references lets a list of rows stand -/
theorem rl_off {rs : List (List Int)} {v : V} {H : Hp} {D : Addr} {vs : List V} {o : HO} (h : RL rs v H) (hne : ∀ a, v = .ref a → a ≠ D) (hD : H D = some (.lst vs)) (hv : ∀ x ∈ vs, ∀ n, x ≠ V.int n) (hr : ∀ r ∈ rs, r ≠ []) : RL rs v (upd H D o) := by
  obtain ⟨a, xs, e, z, hx, hl, hi⟩ := h
  refine ⟨a, xs, e, z, ?_, hl, fun i x q => ?_⟩
  · rw [upd_ne (hne a e)]
    exact hx
  · have hi' : i < rs.length := by rw [← hl]; exact (List.getElem?_eq_some_iff.mp q).1
    exact (ob_il (hr _ (mem_getD hi'))).off x H D vs o (hi i x q) hD hv
theorem rl_refs {rs : List (List Int)} {xs : List V} {H : Hp} (hl : xs.length = rs.length) (hi : ∀ i x, xs[i]? = some x → IL none (rs.getD i []) x H) : ∀ x ∈ xs, ∀ n, x ≠ V.int n := fun x hx n => by
  obtain ⟨k, hk, e⟩ := List.getElem_of_mem hx
  obtain ⟨a, ea, _⟩ := hi k x (by rw [List.getElem?_eq_getElem hk, e])
  rw [ea]
  exact ref_int
theorem less_len {row head : List Int} {p n : Nat} (h : row.length = n) (h2 : head.length = n) : (K63.lessHead row head p).length = n := by
  unfold K63.lessHead
  split
  · exact h
  · rw [K63.cut_len]
    unfold K63.comb
    rw [List.length_zipWith]
    omega
theorem prim_len {row : List Int} {n : Nat} (h : row.length = n) : (K63.prim row).length = n := by
  unfold K63.prim
  split
  · exact h
  · rw [List.length_map]
    exact h
/-- what the loop keeps -/
def EchP (T : Addr) (H : Hp) (rows : List (List Int)) (v : V) (n : Nat) (i : Nat) (σ : L2.St) (H' : Hp) : Prop :=
  Le T none H H' ∧ ∃ la fa x4 x5 x6, σ = [some v, some (.int n), some (.ref la), some (.ref fa), x4, x5, x6, none, none] ∧ H la = none ∧ RL (K63.run rows i).1 (.ref la) H' ∧ RL (K63.run rows i).2 (.ref fa) H' ∧ ((K63.run rows i).1 = [] ∨ la ≠ fa)
theorem lgi {rs : List (List Int)} {n : Nat} {R : Nat → Rp} {v : V} {H : Hp} (h : LG none n R v H) (hl : n = rs.length) (hr : ∀ i x, i < n → R i x H → IL none (rs.getD i []) x H) : RL rs v H := by
  obtain ⟨D, xs, e, z, hx, len, hi⟩ := h
  refine ⟨D, xs, e, z, hx, len.trans hl, fun i x q => hr i x ?_ (hi i x q)⟩
  rw [← len]
  exact (List.getElem?_eq_some_iff.mp q).1
theorem ok_ech {f : Addr} {fd : FuncData} (F : FnP K "echelon_rows" 23 f fd) (G : G0 mg) (fL : Fk P w K mg base "less_head" 2 ["row", "head", "place"] (spLess T)) (fP : Fk P w K mg base "primitive_of" 2 ["numbers"] (spPrim T)) : FnOk P w K mg base CX0 3 f fd ["rows", "width"] (spEch T) := by
  refine F.ok sc23 (fun vs H Q E h => ?_) (fun cdv A outer s H vs Q E hr h => ?_)
  · obtain ⟨v, rows, n, rfl, _⟩ := h
    rfl
  · obtain ⟨v, rows, n, rfl, hv, ht, ok, q⟩ := h
    obtain ⟨c, m, hc, hm, hmm⟩ := ok.size
    have rne : ∀ r ∈ rows, r ≠ [] := fun r h => ne_len (ok.len r h) ok.pos
    refine ⟨_, PSs.nox pb_w, ?_⟩
    refine hb_par (P := T) (Z := none) 2 3 (Le.refl0 H) (ea_cons (R := FL none H rows.length fun i => IL none (rows.getD i []))
      (ev_lc sc23.nd (pi_list pe_w) (blkOk_by (own := [("row", 7)]) (N := ["rows", "width", "left", "found", "place", "heads", "head", "row", "at"]) (sc := defScope (top 23)) (by decide +kernel)) (fun _ _ _ _ _ => pg_name (i := 7) sc23.nd rfl (Or.inl rfl))
        (lc_objs (en_list (ev_v 0 rfl hv)) (bd_name (K := K)) (by have := ok.few; omega) (fun _ _ _ _ => rfl) (fun i hi => ob_il (rne _ (mem_getD hi))) fun i u H1 hi l hu => eb_of fun _ _ _ _ _ => ?_))
      (ea_cons ev_nil ea_nil)) sc23.nd fun vs H1 l1 _ r => ?_
    · exact ev_list G.list (ev_v (R := SV ((rows.getD i []).map V.int)) 7 rfl hu) fun v H1 h => h
    · obtain ⟨x, r1, rfl, ⟨la, xs, rfl, zl, bl, hl, len, hi⟩, y, r2, rfl, ⟨fa, rfl, zf, bf, hf⟩, e⟩ := r
      have e' : r2 = [] := e
      subst e'
      refine ⟨_, _, rfl, ?_⟩
      refine hb_for (B := H) (EchP T H rows v n) (pi_range1 rfl G.range pa_w) (pg_name (i := 4) sc23.nd rfl (Or.inr rfl)) l1 (es_range1 (ev_i 1 rfl) (by have := ok.big; omega)) (bd_name (K := K)) (fun H2 l2 l3 => ?_) (fun i σ' H' _ h => h.1) (fun i u σ' H' H2 hi h l2 hu => ?_) fun σ' H' h => ?_
      · refine ⟨l2, la, fa, none, none, none, rfl, bl, ?_, ?_, ?_⟩
        · exact mono_lg.up _ _ _ l3 ⟨la, xs, rfl, zl, hl, len, hi⟩
        · exact mono_lg.up _ _ _ l3 ⟨fa, [], rfl, zf, hf, rfl, fun i x h => by simp at h⟩
        · cases rows with
          | nil => exact .inl rfl
          | cons r rs =>
            refine .inr fun z => ?_
            rw [z, hf] at hl
            have e : ([] : List V) = xs := by injection (Option.some.inj hl)
            rw [← e] at len
            cases len
      · obtain ⟨lb, la, fa, x4, x5, x6, rfl, bl, hL, hF, hd⟩ := h
        have eu : u = .int (i : Int) := hu
        subst eu
        have hin : i < n := by rw [Int.toNat_natCast] at hi; exact hi
        have l0 := lb.trans l2
        have hL2 := mono_lg.up _ _ _ l2 hL
        have hF2 := mono_lg.up _ _ _ l2 hF
        have hll := K63.left_len ok.len (Nat.le_of_lt hin)
        have hfl := K63.found_len ok.len (Nat.le_of_lt hin)
        have hcnt := K63.run_count ok.len (Nat.le_of_lt hin)
        have hfew := ok.few
        have lo := fun (h : Nat) (t : List Nat) e => K63.less_ok ok.len hc hm hmm hin (h := h) (t := t) e
        have hrun : K63.run rows (i + 1) = K63.step (K63.run rows i) i := K63.run_succ rows i
        have snil := K63.step_nil (st := K63.run rows i) (p := i)
        have scons := fun (h : Nat) (t : List Nat) => K63.step_cons (st := K63.run rows i) (p := i) (h := h) (t := t)
        unfold EchP
        rw [hrun]
        generalize K63.run rows i = st at *
        refine hb_lcT 5 l0 sc23.nd (pi_enum rfl G.enum pa_w) (blkOk_by (own := [("at", 8), ("row", 7)]) (N := ["rows", "width", "left", "found", "place", "heads", "head", "row", "at"]) (sc := defScope (top 23)) (by decide +kernel))
          (fun _ _ _ _ _ => pg_pair (i := 8) (j := 7) sc23.nd rfl rfl (Or.inl rfl) (Or.inl rfl))
          (lc_some (en_enumL (ev_v 2 rfl hL2)) (bd_pair (K := K)) (by omega) (fun _ _ _ _ => rfl) (fun k => K63.g (st.1.getD k []) i != 0) (fun k => .int (k : Int)) (fun k u H1 hk l hu => tb_of fun _ _ _ _ _ => ?_) (fun k u H1 hk l hu _ => eb_of fun _ _ _ _ _ => ?_) (mu := fun k u => ⟨fun _ H H' l h => ⟨h.1, mono_lv.up _ _ _ l h.2⟩⟩))
          (fun hv' H3 l3 l4 r => ?_) (sw_true rfl rfl rfl rfl)
        · obtain ⟨u1, u2⟩ := u
          obtain ⟨h1, h2⟩ := hu
          refine et_c (ev_neI (ev_ixL (ev_v (R := IL none (st.1.getD k [])) 7 rfl h2) (ev_i 4 rfl) ?_) ev_c)
          rw [List.getElem?_map, K63.g_lt (by rw [hll _ (mem_getD hk)]; exact hin)]
          rfl
        · obtain ⟨u1, u2⟩ := u
          exact ev_v (R := is (.int (k : Int))) 8 rfl hu.1
        · have r3 : LV none ((K63.heads st.1 i).map fun k : Nat => V.int (k : Int)) hv' H3 := r
          have r' : IL none ((K63.heads st.1 i).map fun k : Nat => (k : Int)) hv' H3 := by
            show LV none (List.map _ (List.map _ _)) hv' H3
            rw [List.map_map]
            exact r
          have hL3 := mono_lg.up _ _ _ l4 hL2
          have hF3 := mono_lg.up _ _ _ l4 hF2
          refine hb_if (x := ((K63.heads st.1 i).map fun k : Nat => (k : Int)) != []) l3 (et_c (ev_neL hr (ev_v (R := IL none ((K63.heads st.1 i).map fun k : Nat => (k : Int))) 5 rfl r') (ev_nil.imp fun v H1 l ⟨a, e, z, b, h⟩ => ⟨a, e, z, h⟩))) (fun hx H4 l5 l6 => ?_) fun hx H4 l5 l6 => hb_nil (hb_nil ?_)
          · cases hh : K63.heads st.1 i with
            | nil => rw [hh] at hx; cases hx
            | cons h t =>
              obtain ⟨h1, lh, h2, bh, all⟩ := lo h t hh
              have hst := scons h t hh
              rw [hst]
              have hL4 := mono_lg.up _ _ _ l6 hL3
              have hF4 := mono_lg.up _ _ _ l6 hF3
              obtain ⟨la', xs, e, zl, hl, len, hi⟩ := id hL4
              cases e
              have ne : la ≠ fa := by
                rcases hd with hd | hd
                · rw [hd] at h1
                  cases h1
                · exact hd
              have hyx : xs[h]? = some (xs[h]'(by omega)) := List.getElem?_eq_getElem _
              generalize xs[h]'(by omega) = y at hyx
              rw [hh] at r3
              have r4 := (mono_lv (P := T) (Z := none)).up _ _ _ l6 r3
              refine hb_pop (k := h) (y := y) 6 l5 bl hl (fun z => by cases z) (ev_i 2 rfl) (ev_ixL (j := 0) (ev_v (R := LV none ((h :: t).map fun k : Nat => V.int (k : Int))) 5 rfl r4) ev_c rfl) hyx (by omega) sc23.nd fun H5 l7 l8 hl5 ly => ?_
              have hL5 := mono_lg.up _ _ _ l8 hL4
              have hF5 := mono_lg.up _ _ _ l8 hF4
              obtain ⟨la', xs', e, _, hl5', _, hi5⟩ := id hL5
              cases e
              have exs : xs' = xs := by rw [hl5] at hl5'; injection (Option.some.inj hl5'.symm)
              subst exs
              have refs := rl_refs len hi5
              generalize hhd : st.1.getD h [] = hd' at *
              have hdne : hd' ≠ [] := ne_len lh ok.pos
              have hdy : IL none hd' y (upd H5 la (.lst (xs'.eraseIdx h))) := (ob_il hdne).off y H5 la xs' _ (by rw [← hhd]; exact hi5 h y hyx) hl5 refs
              have hFy : RL st.2 (.ref fa) (upd H5 la (.lst (xs'.eraseIdx h))) := rl_off hF5 (fun a e => by cases e; exact Ne.symm ne) hl5 refs fun r hr => ne_len (hfl r hr) ok.pos
              have hLy : RL (st.1.eraseIdx h) (.ref la) (upd H5 la (.lst (xs'.eraseIdx h))) := by
                refine ⟨la, xs'.eraseIdx h, rfl, zl, upd_same, by rw [List.length_eraseIdx, List.length_eraseIdx, len], fun k x hk => ?_⟩
                rw [List.getElem?_eraseIdx] at hk
                rw [K63.erase_getD]
                split at hk
                · have hk2 : k < st.1.length := by omega
                  rw [if_pos (by assumption)]
                  exact (ob_il (ne_len (hll _ (mem_getD hk2)) ok.pos)).off x H5 la xs' _ (hi5 k x hk) hl5 refs
                · have hk2 : k + 1 < st.1.length := by rw [← len]; exact (List.getElem?_eq_some_iff.mp hk).1
                  rw [if_neg (by assumption)]
                  exact (ob_il (ne_len (hll _ (mem_getD hk2)) ok.pos)).off x H5 la xs' _ (hi5 (k + 1) x hk) hl5 refs
              generalize upd H5 la (.lst (xs'.eraseIdx h)) = Hy at *
              have cond : ∀ row, (row ∈ st.1 ∨ row ∈ st.2) → ∀ (a b c : V) (H1 : Hp), IL none row a H1 → IL none hd' b H1 → c = .int (i : Int) → ∀ Q : VK, (∀ v H2, Le T none H1 H2 → IL none (K63.lessHead row hd' i) v H2 → Q v H2) → spLess T [a, b, c] H1 Q E0 := fun row hrow a b c H1 ha hb hc Q q => by
                have o := all row hrow
                exact ⟨a, b, row, hd', i, by rw [hc], ha, hb, by rw [o.len, lh], by rw [o.len]; exact ok.big, by rw [o.len]; exact hin, h2, o.bits, bh, o.sh, fun z H' l r => q z H' l r⟩
              refine hb_set 3 ly (ev_lst (Rs := fun vs H1 => ∃ xs r, vs = xs ++ r ∧ (xs.length = st.2.length ∧ ∀ k x, xs[k]? = some x → IL none (K63.lessHead (st.2.getD k []) hd' i) x H1) ∧ ∃ v r', r = v :: r' ∧ IL none hd' v H1 ∧ r' = []) (ea_star (Ss := fun xs H1 => xs.length = st.2.length ∧ ∀ k x, xs[k]? = some x → IL none (K63.lessHead (st.2.getD k []) hd' i) x H1) (fun vs H1 H2 l h => ⟨h.1, fun k x hk => (mono_lv (P := T) (Z := none)).up _ _ _ l (h.2 k x hk)⟩)
                ((ev_lc sc23.nd (pi_list pe_w) (blkOk_by (own := [("row", 7)]) (N := ["rows", "width", "left", "found", "place", "heads", "head", "row", "at"]) (sc := defScope (top 23)) (by decide +kernel)) (fun _ _ _ _ _ => pg_name (i := 7) sc23.nd rfl (Or.inl rfl))
                  (lc_objs (R := fun k => IL none (K63.lessHead (st.2.getD k []) hd' i)) (en_list (ev_v 3 rfl hFy)) (bd_name (K := K)) (by omega) (fun _ _ _ _ => rfl) (fun k hk => ob_il (ne_len (less_len (all _ (.inr (mem_getD hk))).len lh) ok.pos)) fun k u H1 hk l hu => eb_of fun _ _ _ _ _ => ?_)).imp fun v H1 l ⟨D, xs, e, z, b, h, len, hi⟩ => ⟨xs, ⟨D, e, .inl h⟩, len, hi⟩)
                (ea_cons (ev_v (R := IL none hd') 6 rfl hdy) ea_nil)) fun vs H1 ⟨xs, r, e, ⟨len, _⟩, v, r', e2, _, e3⟩ => by rw [e, e2, e3, List.length_append, len]; show _ + 1 ≤ _; omega) sc23.nd fun z H6 l9 l10 r => ?_
              · exact ev_call3 fL hr (ev_v (R := IL none (st.2.getD k [])) 7 rfl hu) (ev_v (R := IL none hd') 6 rfl ((mono_lv (P := T) (Z := none)).up _ _ _ l hdy)) (ev_i 4 rfl) fun a b c H1 l ha hb hc Q q => cond _ (.inr (mem_getD hk)) a b c H1 ha hb hc Q q
              · obtain ⟨fa', vs', H7, rfl, zf, bf, hf, l11, xs2, r2, rfl, ⟨len2, hi2⟩, y', r3', rfl, hy', rfl⟩ := r
                have hF' : RL (st.2.map (fun r => K63.lessHead r hd' i) ++ [hd']) (.ref fa') H6 := by
                  refine ⟨fa', _, rfl, zf, hf, by rw [List.length_append, List.length_append, List.length_map, len2]; rfl, fun k x hk => ?_⟩
                  by_cases hlt : k < xs2.length
                  · rw [List.getElem?_append_left hlt] at hk
                    have q1 := (mono_lv (P := T) (Z := none)).up _ _ _ l11 (hi2 k x hk)
                    have e : (st.2.map (fun r => K63.lessHead r hd' i) ++ [hd']).getD k [] = K63.lessHead (st.2.getD k []) hd' i := by
                      rw [List.getD_eq_getElem?_getD, List.getElem?_append_left (by rw [List.length_map]; omega), List.getElem?_map, List.getElem?_eq_getElem (by omega), K63.getD_lt (by omega)]
                      rfl
                    show IL none ((st.2.map (fun r => K63.lessHead r hd' i) ++ [hd']).getD k []) x H6
                    rw [e]
                    exact q1
                  · have ek : k = xs2.length := by
                      have := (List.getElem?_eq_some_iff.mp hk).1
                      rw [List.length_append] at this
                      have : [y'].length = 1 := rfl
                      omega
                    rw [ek, List.getElem?_append_right (Nat.le_refl _), Nat.sub_self] at hk
                    have ex : y' = x := Option.some.inj hk
                    have e : (st.2.map (fun r => K63.lessHead r hd' i) ++ [hd']).getD k [] = hd' := by
                      rw [List.getD_eq_getElem?_getD, ek, List.getElem?_append_right (by rw [List.length_map]; omega), List.length_map, len2, Nat.sub_self]
                      rfl
                    show IL none ((st.2.map (fun r => K63.lessHead r hd' i) ++ [hd']).getD k []) x H6
                    rw [e, ← ex]
                    exact (mono_lv (P := T) (Z := none)).up _ _ _ l11 hy'
                have hL6 := mono_lg.up _ _ _ l10 hLy
                have hd6 := (mono_lv (P := T) (Z := none)).up _ _ _ l10 hdy
                have elen : (st.1.eraseIdx h).length ≤ 1000 := by rw [List.length_eraseIdx]; split <;> omega
                refine hb_lc 2 l9 sc23.nd (pi_list pe_w) (blkOk_by (own := [("row", 7)]) (N := ["rows", "width", "left", "found", "place", "heads", "head", "row", "at"]) (sc := defScope (top 23)) (by decide +kernel)) (fun _ _ _ _ _ => pg_name (i := 7) sc23.nd rfl (Or.inl rfl))
                  (lc_objs (R := fun k => IL none (K63.lessHead ((st.1.eraseIdx h).getD k []) hd' i)) (en_list (ev_v 2 rfl hL6)) (bd_name (K := K)) (by omega) (fun _ _ _ _ => rfl) (fun k hk => ob_il (ne_len (less_len (all _ (.inl (List.mem_of_mem_eraseIdx (mem_getD hk)))).len lh) ok.pos)) fun k u H1 hk l hu => eb_of fun _ _ _ _ _ => ?_)
                  (fun z H8 l12 l13 r => hb_nil (hb_nil ?_)) (sw_true rfl rfl rfl rfl)
                · exact ev_call3 fL hr (ev_v (R := IL none ((st.1.eraseIdx h).getD k [])) 7 rfl hu) (ev_v (R := IL none hd') 6 rfl ((mono_lv (P := T) (Z := none)).up _ _ _ l hd6)) (ev_i 4 rfl) fun a b c H1 l ha hb hc Q q => cond _ (.inl (List.mem_of_mem_eraseIdx (mem_getD hk))) a b c H1 ha hb hc Q q
                · obtain ⟨D, xs3, rfl, zD, bD, hD, len3, hi3⟩ := r
                  refine ⟨l12, D, fa', _, _, _, rfl, l9.dom D bD, ?_, mono_lg.up _ _ _ l13 hF', .inr fun z => ?_⟩
                  · refine ⟨D, xs3, rfl, zD, hD, by rw [len3, List.length_map], fun k x hk => ?_⟩
                    have hk2 : k < (st.1.eraseIdx h).length := by rw [← len3]; exact (List.getElem?_eq_some_iff.mp hk).1
                    have e : ((st.1.eraseIdx h).map (fun r => K63.lessHead r hd' i)).getD k [] = K63.lessHead ((st.1.eraseIdx h).getD k []) hd' i := K63.getD_map _ hk2
                    show IL none (((st.1.eraseIdx h).map (fun r => K63.lessHead r hd' i)).getD k []) x H8
                    rw [e]
                    exact hi3 k x hk
                  · rw [z, hf] at bD
                    cases bD
          · have hnil : K63.heads st.1 i = [] := by
              cases hh : K63.heads st.1 i with
              | nil => rfl
              | cons h t => rw [hh] at hx; cases hx
            rw [snil hnil]
            exact ⟨l5, la, fa, _, _, _, rfl, bl, mono_lg.up _ _ _ l6 hL3, mono_lg.up _ _ _ l6 hF3, hd⟩
      · obtain ⟨lb, la, fa, x4, x5, x6, rfl, bl, hL, hF, hd⟩ := h
        rw [Int.toNat_natCast] at hF
        have hok := K63.found_ok ok.len hc hm hmm
        have hcnt := K63.run_count ok.len (Nat.le_refl _)
        have hfew := ok.few
        have hbig := ok.big
        have hech : K63.ech rows n = (K63.run rows n).2.map K63.prim := rfl
        generalize (K63.run rows n).2 = fd at *
        refine hb_ret lb (ev_lc sc23.nd (pi_list pe_w) (blkOk_by (own := [("row", 7)]) (N := ["rows", "width", "left", "found", "place", "heads", "head", "row", "at"]) (sc := defScope (top 23)) (by decide +kernel)) (fun _ _ _ _ _ => pg_name (i := 7) sc23.nd rfl (Or.inl rfl))
          (lc_objs (R := fun k => IL none (K63.prim (fd.getD k []))) (en_list (ev_v 3 rfl hF)) (bd_name (K := K)) (by omega) (fun _ _ _ _ => rfl) (fun k hk => ob_il (ne_len (prim_len (hok _ (mem_getD hk)).1) ok.pos)) fun k u H1 hk l hu => eb_of fun _ _ _ _ _ => ?_)) fun z H8 l12 _ r => q z H8 l12 ?_
        · have o := hok _ (mem_getD hk)
          exact ev_call1 fP hr (ev_v (R := IL none (fd.getD k [])) 7 rfl hu) fun a H2 l3 ha Q q => ⟨a, _, rfl, ha, (lb.trans (l.trans l3)).tab ht, by rw [o.1]; exact hbig, Bits.log o.2, fun z H' l r => q z H' l r⟩
        · rw [hech]
          exact lgi (fl_lg r) (List.length_map ..).symm fun k x hk h => by
            rw [K63.getD_map K63.prim (a := []) hk]
            exact h
end
end K6

/-! ## D4 -/
set_option Elab.async false
set_option linter.all false
set_option maxRecDepth 100000
set_option maxHeartbeats 4000000
namespace K6
open PySem PySem.Spec PyProof.Rows L2
/-! ### a loop that changes one list while others stand -/
def del (H : Hp) (fa : Addr) : Hp := fun b => if b = fa then none else H b
theorem del_ne {H : Hp} {fa a : Addr} (h : a ≠ fa) : del H fa a = H a := if_neg h
theorem del_at {H : Hp} {fa : Addr} : del H fa fa = none := if_pos rfl
section
variable {P : Addr} {H H1 H2 B : Hp} {fa : Addr}
theorem Le.del (l : Le P none H H1) : Le P none (del H fa) H1 := by
  refine ⟨fun a o _ n e => ?_, fun a e => ?_, fun t => ?_, fun d z => by cases z⟩
  · by_cases q : a = fa
    · rw [q, del_at] at e
      cases e
    · rw [del_ne q] at e
      exact l.keep a o (fun z => by cases z) n e
  · by_cases q : a = fa
    · rw [q, del_at]
    · rw [del_ne q]
      exact l.dom a e
  · obtain ⟨ps, e, k⟩ := t
    by_cases q : P = fa
    · rw [q, del_at] at e
      cases e
    · rw [del_ne q] at e
      exact l.tab ⟨ps, e, k⟩
theorem Le.undel {xs : List V} (l : Le P none B H1) (hB : B fa = none) (h1 : H1 fa = some (.lst xs)) (l2 : Le P none (K6.del H1 fa) H2) : Le P none B H2 := by
  refine ⟨fun a o z n e => ?_, fun a e => ?_, fun t => ?_, fun d z => by cases z⟩
  · refine l2.keep a o z n ?_
    rw [del_ne (fun q => by rw [q, hB] at e; cases e)]
    exact l.keep a o z n e
  · have h := l2.dom a e
    by_cases q : a = fa
    · rw [q]
      exact hB
    · rw [del_ne q] at h
      exact l.dom a h
  · obtain ⟨ps, e, k⟩ := l.tab t
    refine l2.tab ⟨ps, ?_, k⟩
    rw [del_ne (fun q => by rw [q, h1] at e; cases e)]
    exact e
end
section
variable {X : Cx} {P : Addr} {σ : L2.St} {H B : Hp} {wi : L2.TI} {g : L2.TG} {n : Nat} {Y : Nat → Hp → V → Hp → Prop} {α : Type} {U : Nat → α → Hp → Prop} {bind : L2.St → α → L2.St} {tg iter e : Expr} {body rest : List Stmt} {D : Ends} {pos : Pos} {fa : Addr}
def EnD (P : Addr) (wi : L2.TI) (σ : L2.St) (H : Hp) (fa : Addr) (n : Nat) (Y : Nat → Hp → V → Hp → Prop) : Prop := ∀ H1, Le P none H H1 → ∀ R : It → Hp → Prop, (∀ J H2, Le P none H1 H2 → Walk J n (fun H3 => Le P none (del H2 fa) H3) Y → R J H2) → wi σ H1 R
theorem en_listD {xs : List V} {u : HO} (hfa : H fa = some u) (he : EvE X P none e σ H (FV none H xs)) : EnD P (iList X.K (wE X e)) σ H fa xs.length (YR fun i => is (xs.getD i .non)) := fun H1 l Rr k => he H1 l _ fun v H2 l2 hv => by
  obtain ⟨ad, ea, hz, hb, hx⟩ := hv
  have ne : ad ≠ fa := fun q => by rw [q, hfa] at hb; cases hb
  have at_ : ∀ H3, Le P none (del H2 fa) H3 → H3 ad = some (.lst xs) := fun H3 l3 => l3.keep ad _ hz nt_lst (by rw [del_ne ne]; exact hx)
  refine ⟨ad, ea, ⟨xs, SqL.of hx⟩, k _ H2 l2 ?_⟩
  have w : Walk (Itl X.K ad) xs.length (fun H => SqL X.K H ad xs) (YAt xs) := walk_list
  exact w.mono (fun H3 l3 => SqL.of (at_ H3 l3)) fun i H3 x H4 _ l3 y => ⟨y.1, by
    have q := y.2
    show x = xs.getD i .non
    rw [List.getD_eq_getElem?_getD, q]
    rfl⟩
theorem hb_forD (Pv : Hp → Nat → L2.St → Hp → Prop) (hi : PI X tg iter wi) (hg : PG X tg g) (l : Le P none B H) (es : EnD P wi σ H fa n Y) (bd : Bd P none g Y n U bind) (h0 : ∀ H1, Le P none H H1 → Pv H1 0 σ H1) (hB : ∀ H1 i σ' H', i ≤ n → Pv H1 i σ' H' → Le P none (del H1 fa) H')
    (hs : ∀ H1 i u σ' H' H2, Le P none H H1 → i < n → Pv H1 i σ' H' → Le P none H' H2 → U i u H2 → wB X body { D with nx := Pv H1 (i + 1), ct := Pv H1 (i + 1), bk := wB X rest D } (bind σ' u) H2)
    (hd : ∀ H1 σ' H', Le P none H H1 → Pv H1 n σ' H' → wB X rest D σ' H')
    (hp : PassesOwn (model X.prog X.w) X.A X.env X.xe := by exact PassesOwn.never) (hc : X.calm = true := by rfl) (hf : ∀ x, foldedSetIterable iter X.env x = pure x := by intro _; rfl) : wB X (.For tg iter body [] pos :: rest) D σ H :=
  hb_cons (ps_for hp hc hi hg pb_w hf) (es H l.right _ fun J H1 l1 w => for_it w (Pv H1) (h0 H1 l1) (fun i σ' H' h p => hB H1 i σ' H' h p)
    (fun i x σ' H' H'' h p y => bd.run i x σ' H' H'' h (hB H1 i σ' H' (Nat.le_of_lt h) p).right y _ fun u H2 l2 hu => hs H1 i u σ' H' H2 l1 h p l2 hu) (fun σ' H' p => hd H1 σ' H' l1 p))
/-- plain values of the items that pass, in a list that is new -/
theorem lc_someF {Z : Option Addr} {elt c : Expr} {scope : Scope} {vs : List Nat} (es : En P Z wi σ H n Y) (bd : Bd P Z g Y n U bind) (hn : n ≤ 100000) (hw : ∀ i u H1, U i u H1 → wipe (bind (wipe σ vs) u) vs = wipe σ vs) (b : Nat → Bool) (f : Nat → V)
    (ht : ∀ i u H1, i < n → Le P Z H H1 → U i u H1 → EtB X P Z scope c (bind (wipe σ vs) u) H1 (b i))
    (he : ∀ i u H1, i < n → Le P Z H H1 → U i u H1 → b i = true → EvB X P Z scope elt (bind (wipe σ vs) u) H1 (is (f i))) [mu : ∀ i u, Mono P Z (fun _ H => U i u H)] : Ev P Z (tLc wi g (wTb X scope c) (wEb X scope elt) vs) σ H (FV Z H (((List.range n).filter b).map f)) :=
  (lc_heart es bd hn hw (fun i xs _ => xs = ((List.range i).filter b).map f) (fun _ _ => rfl) (fun i xs _ _ h => by
      rw [h, List.length_map]
      have q := List.length_filter_le b (List.range i)
      rw [List.length_range] at q
      exact q) (fun _ _ _ _ _ h => h)
    fun i u H1 xs D hi l hu hm hD zD Q Q2 h1 h2 h3 => ht i u H1 hi l hu H1 l.right Q fun H2 l2 => by
      cases e : b i with
      | false =>
        refine h1 H2 l2 ?_
        rw [hm, List.range_succ, List.filter_append, List.filter_cons, if_neg (by rw [e]; exact Bool.false_ne_true)]
        show _ = List.map f (_ ++ [])
        rw [List.append_nil]
      | true =>
        refine h2 H2 l2 (he i u H2 hi (l.trans l2) ((mu i u).up .non _ _ l2 hu) e H2 l2.right _ fun v H3 l3 hv => h3 v H3 (l2.trans l3) ?_)
        have hv' : v = f i := hv
        rw [hm, List.range_succ, List.filter_append, List.filter_cons, if_pos e, List.map_append, hv']
        rfl).imp fun v H1 l ⟨D, xs, e, z, f, h, hm⟩ => ⟨D, e, z, f, by rw [h, hm]⟩
theorem lc_valsF {Z : Option Addr} {elt : Expr} {scope : Scope} {vs : List Nat} (es : En P Z wi σ H n Y) (bd : Bd P Z g Y n U bind) (hn : n ≤ 100000) (hw : ∀ i u H1, U i u H1 → wipe (bind (wipe σ vs) u) vs = wipe σ vs) (f : Nat → V)
    (he : ∀ i u H1, i < n → Le P Z H H1 → U i u H1 → EvB X P Z scope elt (bind (wipe σ vs) u) H1 (is (f i))) : Ev P Z (tLc wi g tYes (wEb X scope elt) vs) σ H (FV Z H ((List.range n).map f)) :=
  (lc_heart es bd hn hw (fun i xs _ => xs = (List.range i).map f) (fun _ _ => rfl) (fun i xs _ _ h => by rw [h, List.length_map, List.length_range]; exact Nat.le_refl _) (fun _ _ _ _ _ h => h)
    fun i u H1 xs D hi l hu hm hD zD Q Q2 h1 h2 h3 => h2 H1 l.right (he i u H1 hi l hu H1 l.right _ fun v H2 l2 hv => h3 v H2 l2 (by
      have hv' : v = f i := hv
      rw [hm, List.range_succ, List.map_append, hv']
      rfl))).imp fun v H1 l ⟨D, xs, e, z, f, h, hm⟩ => ⟨D, e, z, f, by rw [h, hm]⟩
/-- two arguments, the second known by what stands behind the first -/
theorem ea_two {Z : Option Addr} {a b : Expr} {Ra : Rp} {Rb : Hp → Rp} (ha : EvE X P Z a σ H Ra) (hb : ∀ H1, Le P Z H H1 → EvE X P Z b σ H1 (Rb H1)) (hs : starEach [a, b] X.env = (false, eval a X.env) :: starEach [b] X.env := by rfl) (hs2 : starEach [b] X.env = (false, eval b X.env) :: starEach [] X.env := by rfl) :
    EvA X P Z [a, b] σ H (fun vs H2 => ∃ u v H1, vs = [u, v] ∧ Le P Z H H1 ∧ Le P Z H1 H2 ∧ Ra u H1 ∧ Rb H1 v H2) :=
  ea_of (pa_cons pe_w (pa_cons pe_w pa_nil hs2) hs) fun H1 l Q q => ha H1 l _ fun x H2 l2 hx => hb H2 (l.trans l2) H2 l2.right _ fun y H3 l3 hy => q _ H3 (l2.trans l3) ⟨x, y, H2, rfl, l.trans l2, l3, hx, hy⟩
end
section
variable {P : Program} {w : World} {K : PySem.W.Frag} {mg : Str → Option Value} {base : Heap} {T : Addr}
/-! ### lead_of -/
def spLead (T : Addr) : Sp := fun vs H Q _ => ∃ (v : V) (ns : List Int), vs = [v] ∧ IL none ns v H ∧ ns.length ≤ 1000 ∧ (∃ i, i < ns.length ∧ K63.g ns i ≠ 0) ∧ ∀ H', Le T none H H' → Q (.int (K63.leadOf ns : Nat)) H'
theorem sc24 : FnScope ["row", "at", "entry"] ["row"] (defScope (top 24)) := ⟨rfl, rfl, rfl, by decide +kernel, rfl, by decide +kernel, by decide +kernel⟩
theorem lead_head {ns : List Int} (h : ∃ i, i < ns.length ∧ K63.g ns i ≠ 0) : (((List.range ns.length).filter fun i => K63.g ns i != 0).map fun i : Nat => V.int (i : Int))[0]? = some (.int (K63.leadOf ns : Nat)) := by
  obtain ⟨i, hi, hn⟩ := h
  unfold K63.leadOf
  have hm : i ∈ (List.range ns.length).filter fun i => K63.g ns i != 0 := List.mem_filter.mpr ⟨List.mem_range.mpr hi, bne_iff_ne.mpr hn⟩
  cases e : (List.range ns.length).filter fun i => K63.g ns i != 0 with
  | nil => rw [e] at hm; cases hm
  | cons a r => rfl
theorem ok_lead {f : Addr} {fd : FuncData} (F : FnP K "lead_of" 24 f fd) (G : G0 mg) : FnOk P w K mg base CX0 1 f fd ["row"] (spLead T) := by
  refine F.ok sc24 (fun vs H Q E h => ?_) (fun cdv A outer s H vs Q E hr h => ?_)
  · obtain ⟨v, ns, rfl, _⟩ := h
    rfl
  · obtain ⟨v, ns, rfl, hv, hl, hn, q⟩ := h
    refine ⟨_, PSs.nox pb_w, ?_⟩
    refine hb_ret (P := T) (Z := none) (Le.refl0 H) (ev_ixL (j := 0) (ev_lcT sc24.nd (pi_enum rfl G.enum pa_w) (blkOk_by (own := [("at", 1), ("entry", 2)]) (N := ["row", "at", "entry"]) (sc := defScope (top 24)) (by decide +kernel)) (fun _ _ _ _ _ => pg_pair (i := 1) (j := 2) sc24.nd rfl rfl (Or.inl rfl) (Or.inl rfl))
      (lc_some (en_enumL (ev_v (R := LG none ns.length fun i => is (.int (K63.g ns i))) 0 rfl (il_lg hv))) (bd_pair (K := K)) (by omega) (fun _ _ _ _ => rfl) (fun k => K63.g ns k != 0) (fun k => .int (k : Int)) (fun k u H1 hk l hu => tb_of fun _ _ _ _ _ => ?_) (fun k u H1 hk l hu _ => eb_of fun _ _ _ _ _ => ?_) (mu := fun k u => ⟨fun _ H H' l h => h⟩))) ev_c (lead_head hn)) fun u H1 l _ r => ?_
    · obtain ⟨u1, u2⟩ := u
      have e2 : u2 = .int (K63.g ns k) := hu.2
      subst e2
      exact et_c (ev_neI (ev_i 2 rfl) ev_c)
    · obtain ⟨u1, u2⟩ := u
      exact ev_v (R := is (.int (k : Int))) 1 rfl hu.1
    · rw [show u = .int (K63.leadOf ns : Nat) from r]
      exact q H1 l
/-! ### kernel_rows -/
structure KerOk (rows : List (List Int)) (w : Nat) : Prop where
  len : ∀ r ∈ rows, r.length = w
  pos : 1 ≤ w
  big : w ≤ 5
  few : rows.length ≤ 1000
  size : ∀ r ∈ rows, ∀ i, 2 * (K63.g r i).natAbs ≤ 2 ^ 54
theorem KerOk.ech {rows : List (List Int)} {w : Nat} (o : KerOk rows w) : EchOk rows w :=
  ⟨o.len, o.pos, by have := o.big; omega, o.few, 54, 5, o.size, by decide, .inl o.big⟩
def spKer (T : Addr) : Sp := fun vs H Q _ => ∃ (v : V) (rows : List (List Int)) (n : Nat), vs = [v, .int n] ∧ RS rows v H ∧ GxR.TabG H T ∧ KerOk rows n ∧ ∀ u H', Le T none H H' → RL (K63.kernel rows n) u H' → Q u H'
theorem sc25 : FnScope ["rows", "width", "told", "found", "row", "leads", "whole", "lead", "free", "one", "place"] ["rows", "width"] (defScope (top 25)) := ⟨rfl, rfl, rfl, by decide +kernel, rfl, by decide +kernel, by decide +kernel⟩
theorem rl_rs {rs : List (List Int)} {v : V} {H : Hp} (h : RL rs v H) : RS rs v H := by
  obtain ⟨a, vs, e, z, hx, hl, hi⟩ := h
  exact ⟨a, vs, e, z, hx, hl, fun i x q => sv_lv (hi i x q)⟩
theorem fv_lg {Z : Option Addr} {B : Hp} {n : Nat} {f : Nat → V} {v : V} {H : Hp} (h : FV Z B ((List.range n).map f) v H) : LG Z n (fun i => is (f i)) v H := by
  obtain ⟨D, e, z, _, h⟩ := h
  refine ⟨D, _, e, z, h, by rw [List.length_map, List.length_range], fun i x q => ?_⟩
  have hi : i < n := by
    have := (List.getElem?_eq_some_iff.mp q).1
    rw [List.length_map, List.length_range] at this
    exact this
  rw [List.getElem?_map, List.getElem?_range hi] at q
  exact (Option.some.inj q).symm
theorem map_rangeG {α β : Type} (l : List α) (d : α) (f : α → β) : (List.range l.length).map (fun i => f (l.getD i d)) = l.map f := by
  refine List.ext_getElem? fun i => ?_
  rw [List.getElem?_map, List.getElem?_map]
  by_cases h : i < l.length
  · rw [List.getElem?_range h, List.getElem?_eq_getElem h, Option.map_some, Option.map_some, K63.getD_lt h]
  · have e1 : l[i]? = none := List.getElem?_eq_none_iff.mpr (by omega)
    have e2 : (List.range l.length)[i]? = none := List.getElem?_eq_none_iff.mpr (by rw [List.length_range]; omega)
    rw [e1, e2]
    rfl
theorem contains_cast (l : List Nat) (k : Nat) : (l.map fun k : Nat => (k : Int)).contains (k : Int) = l.contains k := by
  rw [Bool.eq_iff_iff, List.contains_eq_mem, List.contains_eq_mem, decide_eq_true_iff, decide_eq_true_iff, List.mem_map]
  constructor
  · intro ⟨a, h, e⟩
    have : a = k := Int.ofNat.inj e
    rw [← this]
    exact h
  · exact fun h => ⟨k, h, rfl⟩
theorem rl_del {rs : List (List Int)} {ta fa : Addr} {H : Hp} (h : RL rs (.ref ta) H) (ne : ta ≠ fa) (hf : H fa = some (.lst [])) (hr : ∀ r ∈ rs, r ≠ []) : RL rs (.ref ta) (del H fa) := by
  obtain ⟨a, xs, e, z, hx, hl, hi⟩ := h
  cases e
  refine ⟨ta, xs, rfl, z, by rw [del_ne ne]; exact hx, hl, fun i x q => ?_⟩
  have hi' : i < rs.length := by rw [← hl]; exact (List.getElem?_eq_some_iff.mp q).1
  obtain ⟨b, e, zb, hb⟩ := hi i x q
  refine ⟨b, e, zb, ?_⟩
  rw [del_ne fun z => ?_]
  · exact hb
  · rw [z, hf] at hb
    have e2 : ([] : List V) = (rs.getD i []).map V.int := by injection (Option.some.inj hb)
    exact hr _ (mem_getD hi') (List.map_eq_nil_iff.mp e2.symm)
theorem flat_zero : ∀ n : Nat, (List.replicate n [V.int 0]).flatten = (List.replicate n (0 : Int)).map V.int
  | 0 => rfl
  | n + 1 => by
    rw [List.replicate_succ, List.replicate_succ, List.flatten_cons, flat_zero n]
    rfl
/-- what the outer loop keeps -/
def KerP (T : Addr) (n : Nat) (prs : List (List Int × Nat)) (whole : Int) (frees : List Nat) (v tv lv : V) (fa : Addr) (H1 : Hp) (i : Nat) (σ : L2.St) (H' : Hp) : Prop :=
  Le T none (del H1 fa) H' ∧ ∃ x4 x7 x8 x9 xs, σ = [some v, some (.int n), some tv, some (.ref fa), x4, some lv, some (.int whole), x7, x8, x9, none] ∧ H' fa = some (.lst xs) ∧ xs.length = i ∧ ∀ k x, xs[k]? = some x → IL none (K63.oneOf prs n whole (frees.getD k 0)) x H'
/-- what the inner loop keeps -/
def KerQ (T : Addr) (n : Nat) (prs : List (List Int × Nat)) (whole : Int) (frees : List Nat) (f : Nat) (v tv lv : V) (fa p : Addr) (B : Hp) (xs : List V) (j : Nat) (σ : L2.St) (H' : Hp) : Prop :=
  Le T none B H' ∧ H' fa = some (.lst xs) ∧ (∀ k x, xs[k]? = some x → IL none (K63.oneOf prs n whole (frees.getD k 0)) x H' ∧ x ≠ .ref p) ∧ ∃ x4 x7, σ = [some v, some (.int n), some tv, some (.ref fa), x4, some lv, some (.int whole), x7, some (.int f), some (.ref p), none] ∧ H' p = some (.lst ((K63.oneOf (prs.take j) n whole f).map V.int))
theorem ok_ker {f : Addr} {fd : FuncData} (F : FnP K "kernel_rows" 25 f fd) (G : G0 mg) (fE : Fk P w K mg base "echelon_rows" 3 ["rows", "width"] (spEch T)) (fL : Fk P w K mg base "lead_of" 1 ["row"] (spLead T)) : FnOk P w K mg base CX0 4 f fd ["rows", "width"] (spKer T) := by
  refine F.ok sc25 (fun vs H Q E h => ?_) (fun cdv A outer s H vs Q E hr h => ?_)
  · obtain ⟨v, rows, n, rfl, _⟩ := h
    rfl
  · obtain ⟨v, rows, n, rfl, hv, ht, ok, q⟩ := h
    have W := K63.ker_way ok.len ok.big ok.size
    have kdef : K63.kernel rows n = K63.ech (K63.onesOf (K63.ech rows n) n) n := rfl
    have odef : K63.onesOf (K63.ech rows n) n = (K63.freesOf ((K63.ech rows n).map K63.leadOf) n).map fun f => K63.oneOf ((K63.ech rows n).zip ((K63.ech rows n).map K63.leadOf)) n (K63.wholeOf ((K63.ech rows n).zip ((K63.ech rows n).map K63.leadOf))) f := rfl
    have hpos := ok.pos
    have hbig := ok.big
    have okE := ok.ech
    refine ⟨_, PSs.nox pb_w, ?_⟩
    refine hb_par (P := T) (Z := none) 2 3 (Le.refl0 H) (ea_two (Ra := RL (K63.ech rows n)) (Rb := fun H1 => FV none H1 []) (ev_call2 fE (hr.mono (by decide)) (ev_v (R := RS rows) 0 rfl hv) (ev_i 1 rfl) fun a b H1 l ha hb Q q => ⟨a, rows, n, by rw [show b = .int (n : Int) from hb], ha, l.tab ht, okE, fun z H' l2 r => q z H' l2 r⟩) fun H1 l => ev_nil) sc25.nd fun vs H1 l1 _ r => ?_
    obtain ⟨tv, y, H0, rfl, l01, l02, hT0, fa, rfl, zf, bf0, hf⟩ := r
    have bf : H fa = none := l01.dom fa bf0
    have hT := mono_lg.up _ _ _ l02 hT0
    obtain ⟨ta, ts, rfl, zt, ht0, _, _⟩ := id hT0
    have taf : ta ≠ fa := fun z => by rw [z, bf0] at ht0; cases ht0
    refine ⟨_, _, rfl, ?_⟩
    rw [kdef] at q
    generalize K63.ech rows n = told at *
    generalize hp : told.zip (told.map K63.leadOf) = prs at *
    have tl := W.tlen
    have trow : ∀ i, i < told.length → (told.getD i []).length = n := fun i hi => W.len _ (mem_getD hi)
    have tne : ∀ r ∈ told, r ≠ [] := fun r hr => ne_len (W.len r hr) hpos
    have gat : ∀ (r : List Int) (p : Nat), p < r.length → (r.map V.int)[p]? = some (.int (K63.g r p)) := fun r p h => by
      rw [List.getElem?_map, K63.g_lt h]
      rfl
    refine hb_set 5 l1 (ev_lc sc25.nd (pi_list pe_w) (blkOk_by (own := [("row", 4)]) (N := ["rows", "width", "told", "found", "row", "leads", "whole", "lead", "free", "one", "place"]) (sc := defScope (top 25)) (by decide +kernel)) (fun _ _ _ _ _ => pg_name (i := 4) sc25.nd rfl (Or.inl rfl))
      (lc_valsF (en_list (ev_v 2 rfl hT)) (bd_name (K := K)) (by omega) (fun _ _ _ _ => rfl) (fun k => .int (K63.leadOf (told.getD k []) : Nat)) fun k u H1 hk l hu => eb_of fun _ _ _ _ _ => ?_)) sc25.nd
      (fun lv H2 l2 l3 r => ?_)
    · have o := W.lead k hk
      exact ev_call1 fL (hr.mono (by decide)) (ev_v (R := IL none (told.getD k [])) 4 rfl hu) fun a H2 l3 ha Q q => ⟨a, _, rfl, ha, by rw [trow k hk]; omega, ⟨_, by rw [trow k hk]; exact o.1, by omega⟩, fun H' l => q _ H' l rfl⟩
    · obtain ⟨la, rfl, zl, bl, hl⟩ := id r
      have laf : la ≠ fa := fun z => by rw [z, hf] at bl; cases bl
      have leadsL := fv_lg r
      have leadsI : IL none ((told.map K63.leadOf).map fun k : Nat => (k : Int)) (.ref la) H2 := by
        refine ⟨la, rfl, zl, ?_⟩
        rw [hl, map_rangeG told [] fun r => V.int (K63.leadOf r : Nat), List.map_map, List.map_map]
        rfl
      have cdv' : ∀ i j, i < told.length → CDivW j (K63.g (told.getD i []) (K63.leadOf (told.getD i []))) := fun i j hi => ⟨(W.lead i hi).2, Bits.log (W.bits _ (mem_getD hi) _)⟩
      have hT2 := mono_lg.up _ _ _ l3 hT
      refine hb_set 6 l2 ev_c sc25.nd fun u H3 l4 l5 r1 => ?_
      have eu : u = .int 1 := r1
      subst eu
      refine hb_forN (fun i σ' H' => ∃ x4 x7, σ' = [some v, some (.int n), some (.ref ta), some (.ref fa), x4, some (.ref la), some (.int (K63.wholeOf (prs.take i))), x7, none, none, none]) (pi_zip rfl G.zip pa_w) (pg_pair (i := 4) (j := 7) sc25.nd rfl rfl (Or.inl rfl) (Or.inl rfl)) l4
        (en_zipL (ev_v 2 rfl (mono_lg.up _ _ _ l5 hT2)) (ev_v 5 rfl (mono_lg.up _ _ _ l5 leadsL))) (bd_pair (K := K)) (fun H4 _ => ⟨none, none, rfl⟩) (fun i u σ' H' H4 hi _ l6 p l7 hu => ?_) fun σ' H4 l6 l7 p => ?_
      · obtain ⟨x4, x7, rfl⟩ := p
        obtain ⟨u1, u2⟩ := u
        obtain ⟨h1, h2⟩ := hu
        have e2 : u2 = .int (K63.leadOf (told.getD i []) : Nat) := h2
        subst e2
        have o := W.lead i hi
        have wh := W.whole i (by rw [W.plen]; omega)
        have elt := gat (told.getD i []) (K63.leadOf (told.getD i [])) (by rw [trow i hi]; exact o.1)
        generalize hE : K63.g (told.getD i []) (K63.leadOf (told.getD i [])) = e at *
        have gpos : 0 < K63.gcd2 (K63.wholeOf (prs.take i)) e := K63.gcd2_pos (by omega)
        have gle : (K63.gcd2 (K63.wholeOf (prs.take i)) e).natAbs ≤ e.natAbs := Nat.le_of_dvd (by omega) (Int.natAbs_dvd_natAbs.mpr (K63.gcd2_right _ _))
        have be : Bits e := by rw [← hE]; exact W.bits _ (mem_getD hi) _
        refine hb_set 6 l6 (ev_mul (ev_i 6 rfl) (ev_div (ev_ixL (ev_v (R := IL none (told.getD i [])) 4 rfl h1) (ev_i 7 rfl) elt) (ev_gcd G.gcd (ev_i 6 rfl) (ev_ixL (ev_v (R := IL none (told.getD i [])) 4 rfl h1) (ev_i 7 rfl) elt)) ⟨gpos, (be.le gle).log⟩) (Bits.mul wh.2 (be.le (K63.ediv_natAbs_le (K63.gcd2_right _ _) gpos)))) sc25.nd fun z H5 l8 l9 r2 => hb_nil ⟨l9, some u1, some (.int (K63.leadOf (told.getD i []) : Nat)), ?_⟩
        have ez : z = .int (K63.wholeOf (prs.take i) * (e / K63.gcd2 (K63.wholeOf (prs.take i)) e)) := r2
        subst ez
        rw [K63.whole_succ (by rw [W.plen]; exact hi), (W.fst i hi).1, (W.fst i hi).2, hE]
        rfl
      · obtain ⟨x4, x7, rfl⟩ := p
        rw [← W.plen, List.take_length]
        have whl := W.whole prs.length (Nat.le_refl _)
        rw [List.take_length] at whl
        have l27 := l5.trans l7
        have hT4 := mono_lg.up _ _ _ l27 hT2
        have leads4 := mono_lg.up _ _ _ l27 leadsL
        have leadsI4 := (mono_lv (P := T) (Z := none)).up _ _ _ l27 leadsI
        have hf4 := (l3.trans l27).lst zf hf
        generalize K63.wholeOf prs = whole at *
        have clen : ((told.map K63.leadOf).map fun k : Nat => (k : Int)).length = told.length := by rw [List.length_map, List.length_map]
        have fr : ∀ i, i < (K63.freesOf (told.map K63.leadOf) n).length → (K63.freesOf (told.map K63.leadOf) n).getD i 0 < n := fun i hi => (K63.mem_frees.mp (by rw [K63.getD_lt hi]; exact List.getElem_mem _)).1
        have mapf : ∀ i, i < (K63.freesOf (told.map K63.leadOf) n).length → ((K63.freesOf (told.map K63.leadOf) n).map fun k : Nat => V.int (k : Int)).getD i .non = .int ((K63.freesOf (told.map K63.leadOf) n).getD i 0 : Nat) := fun i hi => K63.getD_map _ hi
        refine hb_forD (fa := fa) (n := ((K63.freesOf (told.map K63.leadOf) n).map fun k : Nat => V.int (k : Int)).length) (KerP T n prs whole (K63.freesOf (told.map K63.leadOf) n) v (.ref ta) (.ref la) fa) (pi_list pe_w) (pg_name (i := 8) sc25.nd rfl (Or.inl rfl)) l6
          (en_listD (xs := (K63.freesOf (told.map K63.leadOf) n).map fun k : Nat => V.int (k : Int)) hf4 ?_)
          (bd_name (K := K)) (fun H5 l => ?_) (fun H5 i σ' H' _ h => h.1) (fun H5 i u σ' H' H6 l8 hi h l9 hu => ?_) fun H5 σ' H' l8 h => ?_
        · refine Ev.imp (R := FV none H4 (((List.range (n : Int).toNat).filter fun k => !(told.map K63.leadOf).contains k).map fun k : Nat => V.int (k : Int))) (ev_lcT sc25.nd (pi_range1 rfl G.range pa_w) (blkOk_by (own := [("place", 10)]) (N := ["rows", "width", "told", "found", "row", "leads", "whole", "lead", "free", "one", "place"]) (sc := defScope (top 25)) (by decide +kernel)) (fun _ _ _ _ _ => pg_name (i := 10) sc25.nd rfl (Or.inl rfl))
            (lc_someF (es_range1 (ev_i 1 rfl) (by omega)).toN (bd_name (K := K)) (by omega) (fun _ _ _ _ => rfl) (fun k => !(told.map K63.leadOf).contains k) (fun k => .int (k : Int)) (fun k u H5 hk l hu => tb_of fun _ _ _ _ _ => ?_) (fun k u H5 hk l hu _ => eb_of fun _ _ _ _ _ => ?_) (mu := fun k u => ⟨fun _ H H' l h => h⟩))) (fun v H1 l r => r)
          · have eu : u = .int (k : Int) := hu
            subst eu
            refine Et.is (et_c (ev_notin (ev_i 10 rfl) (ev_v (R := IL none ((told.map K63.leadOf).map fun k : Nat => (k : Int))) 5 rfl ((mono_lv (P := T) (Z := none)).up _ _ _ l leadsI4)))) ?_
            rw [contains_cast]
          · exact ev_v (R := is (.int (k : Int))) 10 rfl hu
        · exact ⟨l.right.del, x4, x7, none, none, [], rfl, l.lst zf hf4, rfl, fun k x h => by simp at h⟩
        · obtain ⟨lb, y4, y7, y8, y9, xs, rfl, hfx, hxl, hxs⟩ := h
          rw [List.length_map] at hi
          have eu : u = .int ((K63.freesOf (told.map K63.leadOf) n).getD i 0 : Nat) := by rw [← mapf i hi]; exact hu
          subst eu
          have hfn := fr i hi
          generalize hfree : (K63.freesOf (told.map K63.leadOf) n).getD i 0 = free at *
          have l29 := l3.trans (l27.trans l8)
          have tB : RL told (.ref ta) (del H5 fa) := rl_del (mono_lg.up _ _ _ l8 hT4) taf (l8.lst zf hf4) tne
          have lB : LG none told.length (fun i => is (.int (K63.leadOf (told.getD i []) : Nat))) (.ref la) (del H5 fa) := by
            obtain ⟨a, vs, e, z, h, hl, hr⟩ := mono_lg.up _ _ _ l8 leads4
            cases e
            exact ⟨la, vs, rfl, z, by rw [del_ne laf]; exact h, hl, hr⟩
          have hfx6 := l9.lst zf hfx
          have lb6 := lb.trans l9
          refine hb_set 9 lb6 (ev_rep (n := n) (xs := [.int 0]) (Ra := is .non) ((ev_lst (ea_cons ev_c ea_nil) fun vs H1 ⟨a, r, e, _, e2⟩ => by rw [e, show r = [] from e2]; exact (by decide : 1 ≤ 100000)).imp fun v H1 l ⟨a, vs, H0, e, z, b, h, _, x, r, e2, hx, e3⟩ => ⟨a, e, z, by rw [h, e2, show x = .int 0 from hx, show r = [] from e3]⟩) (ev_i 1 rfl) (by omega) (by decide)) sc25.nd fun pv H7 l10 l11 r7 => ?_
          obtain ⟨p, rfl, zp, bp, hp7⟩ := r7
          have pB : del H5 fa p = none := lb6.dom p bp
          have pf : p ≠ fa := fun z => by rw [z, hfx6] at bp; cases bp
          rw [flat_zero] at hp7
          refine hb_sub (y := .int whole) (k := free) l10 pB hp7 zp (ev_i 6 rfl) (ev_i 9 rfl) (ev_i 8 rfl) (by rw [List.length_map, List.length_replicate]; exact hfn) fun H8 l12 l13 hp8 l14 => ?_
          rw [← List.map_set] at l14 ⊢
          have hxs8 : ∀ k x, xs[k]? = some x → IL none (K63.oneOf prs n whole ((K63.freesOf (told.map K63.leadOf) n).getD k 0)) x (upd H8 p (.lst (((List.replicate n (0 : Int)).set free whole).map V.int))) ∧ x ≠ .ref p := fun k x hk => by
            have h1 := (mono_lv (P := T) (Z := none)).up _ _ _ l9 (hxs k x hk)
            obtain ⟨a, e, z, ha⟩ := id h1
            have ap : a ≠ p := fun q => by rw [q, bp] at ha; cases ha
            obtain ⟨a', e', z', ha'⟩ := (mono_lv (P := T) (Z := none)).up _ _ _ (l11.trans l13) h1
            rw [e] at e'
            cases e'
            exact ⟨⟨a, e, z, by rw [upd_ne ap]; exact ha'⟩, fun q => by rw [e] at q; cases q; exact ap rfl⟩
          have hfx8 : upd H8 p (.lst (((List.replicate n (0 : Int)).set free whole).map V.int)) fa = some (.lst xs) := by
            rw [upd_ne (Ne.symm pf)]
            exact (l11.trans l13).lst zf hfx6
          refine hb_for (B := del H5 fa) (KerQ T n prs whole (K63.freesOf (told.map K63.leadOf) n) free v (.ref ta) (.ref la) fa p (del H5 fa) xs) (pi_zip rfl G.zip pa_w) (pg_pair (i := 4) (j := 7) sc25.nd rfl rfl (Or.inl rfl) (Or.inl rfl)) l14
            (es_zipL (ev_i 2 rfl) (ev_i 5 rfl) tB lB) (bd_pair (K := K)) (fun H9 l15 l16 => ?_) (fun j σ' H' _ h => h.1) (fun j u σ' H' H9 hj h l15 hu => ?_) fun σ' H' h => ?_
          · refine ⟨l15, l16.lst zf hfx8, fun k x hk => ⟨(mono_lv (P := T) (Z := none)).up _ _ _ l16 (hxs8 k x hk).1, (hxs8 k x hk).2⟩, y4, y7, rfl, l16.lst zp upd_same⟩
          · obtain ⟨l17, hfx9, hxs9, z4, z7, rfl, hp9⟩ := h
            obtain ⟨u1, u2⟩ := u
            obtain ⟨h1, h2⟩ := hu
            have e2 : u2 = .int (K63.leadOf (told.getD j []) : Nat) := h2
            subst e2
            have o := W.lead j hj
            have l18 := l17.trans l15
            have elt := gat (told.getD j []) (K63.leadOf (told.getD j [])) (by rw [trow j hj]; exact o.1)
            have elf := gat (told.getD j []) free (by rw [trow j hj]; exact hfn)
            have onel := K63.one_len (prs.take j) n whole free
            have bq : Bits (whole / K63.g (told.getD j []) (K63.leadOf (told.getD j []))) := by
              have a1 : 0 ≤ whole / K63.g (told.getD j []) (K63.leadOf (told.getD j [])) := Int.ediv_nonneg (by omega) (by omega)
              have a2 : whole / K63.g (told.getD j []) (K63.leadOf (told.getD j [])) ≤ whole := Int.ediv_le_self _ (by omega)
              have a3 := whl.2
              refine Nat.lt_of_le_of_lt ?_ a3
              omega
            refine hb_sub (y := .int (-(whole / K63.g (told.getD j []) (K63.leadOf (told.getD j []))) * K63.g (told.getD j []) free)) (k := K63.leadOf (told.getD j [])) l18 pB (l15.lst zp hp9) zp
              (ev_mul (ev_neg (ev_div (ev_i 6 rfl) (ev_ixL (ev_v (R := IL none (told.getD j [])) 4 rfl h1) (ev_i 7 rfl) elt) (cdv' j _ hj))) (ev_ixL (ev_v (R := IL none (told.getD j [])) 4 rfl h1) (ev_i 8 rfl) elf) (Bits.mul (by unfold Bits; rw [Int.natAbs_neg]; exact bq) (W.bits _ (mem_getD hj) _)))
              (ev_i 9 rfl) (ev_i 7 rfl) (by rw [List.length_map, onel]; exact o.1) fun H10 l19 l20 hp10 l21 => hb_nil ⟨l21, ?_, fun k x hk => ?_, some u1, some (.int (K63.leadOf (told.getD j []) : Nat)), rfl, ?_⟩
            · rw [upd_ne (Ne.symm pf)]
              exact (l15.trans l20).lst zf hfx9
            · obtain ⟨q1, q2⟩ := hxs9 k x hk
              obtain ⟨a, e, z, ha⟩ := (mono_lv (P := T) (Z := none)).up _ _ _ (l15.trans l20) q1
              exact ⟨⟨a, e, z, by rw [upd_ne fun q => q2 (by rw [e, q])]; exact ha⟩, q2⟩
            · rw [upd_same, K63.one_succ (by rw [W.plen]; exact hj), (W.fst j hj).1, (W.fst j hj).2, List.map_set]
          · obtain ⟨l17, hfx9, hxs9, z4, z7, rfl, hp9⟩ := h
            rw [← W.plen, List.take_length] at hp9
            refine hb_app l17 del_at hfx9 zf (ev_i 3 rfl) (ev_i 9 rfl) (by rw [hxl]; have := List.length_filter_le (fun p => !(told.map K63.leadOf).contains p) (List.range n); rw [List.length_range] at this; have h9 : (K63.freesOf (told.map K63.leadOf) n).length ≤ n := this; omega) fun pv' H10 l18 l19 hf10 r10 l20 => hb_nil ⟨l20, z4, z7, some (.int free), some (.ref p), xs ++ [.ref p], rfl, ?_, ?_, fun k x hk => ?_⟩
            · obtain ⟨_, _, e⟩ := r10
              rw [upd_same, show pv' = .ref p from e]
            · rw [List.length_append, hxl]
              rfl
            · obtain ⟨_, _, e⟩ := r10
              rw [show pv' = .ref p from e]
              have refs : ∀ x ∈ xs, ∀ m, x ≠ V.int m := fun x hx m => by
                obtain ⟨k, hk, e⟩ := List.getElem_of_mem hx
                obtain ⟨⟨a, ea, _⟩, _⟩ := hxs9 k x (by rw [List.getElem?_eq_getElem hk, e])
                rw [ea]
                exact ref_int
              by_cases hlt : k < xs.length
              · rw [List.getElem?_append_left hlt] at hk
                exact (ob_il (ne_len (K63.one_len _ _ _ _) hpos)).off x H10 fa xs _ ((mono_lv (P := T) (Z := none)).up _ _ _ l19 (hxs9 k x hk).1) hf10 refs
              · have ek : k = xs.length := by
                  have := (List.getElem?_eq_some_iff.mp hk).1
                  rw [List.length_append] at this
                  have : [V.ref p].length = 1 := rfl
                  omega
                rw [ek, List.getElem?_append_right (Nat.le_refl _), Nat.sub_self] at hk
                have ex : V.ref p = x := Option.some.inj hk
                rw [ek, hxl, hfree, ← ex]
                exact ⟨p, rfl, zp, by rw [upd_ne pf]; exact l19.lst zp hp9⟩
        · obtain ⟨lb, y4, y7, y8, y9, xs, rfl, hfx, hxl, hxs⟩ := h
          rw [List.length_map] at hxl
          have le := Le.undel (l6.trans l8) bf (l8.lst zf hf4) lb
          refine hb_ret le (R := RL (K63.ech (K63.onesOf told n) n)) (ev_call2 fE (hr.mono (by decide)) (ev_v (R := RL (K63.onesOf told n)) 3 rfl ?_) (ev_i 1 rfl) fun a b H1 l ha hb Q q => ⟨a, _, n, by rw [show b = .int (n : Int) from hb], rl_rs ha, (le.trans l).tab ht, ⟨W.onesW, hpos, by omega, by have := W.onesLen; omega, W.ones⟩, fun z H' l2 r => q z H' l2 r⟩) fun z H8 l12 _ r => q z H8 l12 r
          refine ⟨fa, xs, rfl, zf, hfx, by rw [hxl, odef, List.length_map], fun k x hk => ?_⟩
          rw [odef]
          have hk2 : k < (K63.freesOf (told.map K63.leadOf) n).length := by rw [← hxl]; exact (List.getElem?_eq_some_iff.mp hk).1
          show IL none (((K63.freesOf (told.map K63.leadOf) n).map fun f => K63.oneOf prs n whole f).getD k []) x H'
          rw [K63.getD_map _ (a := 0) hk2]
          exact hxs k x hk
end
end K6

/-! ## D5 -/
set_option Elab.async false
set_option linter.all false
set_option maxRecDepth 100000
set_option maxHeartbeats 4000000
namespace K6
open PySem PySem.Spec PyProof.Rows L2
/-! ### any of a tuple of integers -/
def rAnyI (K : PySem.W.Frag) : List V → Hp → VK → Prop := fun vs H Q => ∃ (a : Addr) (ns : List Int), vs = [V.ref a] ∧ SqT K H a (ns.map V.int) ∧ Q (.bl (ns.any fun n => n != 0)) H
theorem cr_anyI {X : Cx} (hc : X.calm = true) : CallR X (.builtin "any") (rAnyI X.K) := by
  intro pins s σ H vs us Q I r h
  obtain ⟨a, ns, rfl, hs, q⟩ := h
  obtain ⟨its, rv, hl, _⟩ := I.tuple hs
  rw [Vals.ref1 r]
  have tt : s.heap.IsTuple a its.toArray := hl
  have hlen : its.length = ns.length := by rw [← rv.length, List.length_map]
  have hlt : a < s.heap.objs.size := by
    obtain ⟨_, e, _⟩ := tt
    exact Heap.lt_size e
  refine call_any_walk (wpAny_pyIter_tuple tt ?_)
  refine ⟨_, _, _, its.toArray.size, fun i v => its.toArray[i]? = some v, _, fun i => K63.g ns i != 0, rfl, Walks.tuple (A := X.A.in1) (I.ok.hd hc) _ a (Nat.ne_of_lt hlt) its.toArray, ⟨⟨_, Heap.get?_push_size _ rfl, rfl, rfl⟩, tt.push _⟩, fun i v s Q E hv hq => ?_, fun h' tk hk => ?_⟩
  · replace hv : its.toArray[i]? = some v := hv
    rw [List.getElem?_toArray] at hv
    have hi : i < ns.length := by
      rw [← hlen]
      exact (List.getElem?_eq_some_iff.mp hv).1
    have hx : (ns.map V.int)[i]? = some (.int (K63.g ns i)) := by
      rw [List.getElem?_map, K63.g_lt hi]
      rfl
    obtain ⟨u, hu, ru⟩ := rv.get hx
    rw [hu] at hv
    cases hv
    obtain ⟨t, rfl⟩ := ru
    exact truthy_int hq
  · refine ⟨.bl _, H, I.kept fun b o eo => hk b o (fun hmem => ?_) (Heap.get?_push_of_some _ eo), ?_, q⟩
    · rcases List.mem_cons.mp hmem with e1 | hmem
      · exact absurd (e1 ▸ Heap.lt_size eo) (Nat.lt_irrefl _)
      · cases hmem
    · show Value.bool _ = Value.bool _
      rw [List.size_toArray, hlen]
      congr 1
      rw [Bool.eq_iff_iff, List.any_eq_true, List.any_eq_true]
      constructor
      · intro ⟨i, hi, h⟩
        exact ⟨_, K63.g_mem (List.mem_range.mp hi), h⟩
      · intro ⟨x, hx, h⟩
        obtain ⟨i, hi, e⟩ := List.getElem_of_mem hx
        refine ⟨i, List.mem_range.mpr hi, ?_⟩
        rw [K63.g_get (show ns[i]? = some x by rw [List.getElem?_eq_getElem hi, e])]
        exact h
section
variable {P : Program} {w : World} {K : PySem.W.Frag} {mg : Str → Option Value} {base : Heap} {T : Addr}
/-! ### is_zero_in -/
def spZero (T : Addr) : Sp := fun vs H Q _ => ∃ (v : V) (ns : List Int), vs = [v] ∧ IT ns v H ∧ ∀ H', Le T none H H' → Q (.bl (!(ns.any fun n => n != 0))) H'
theorem sc33 : FnScope ["entries"] ["entries"] (defScope (top 33)) := ⟨rfl, rfl, rfl, by decide +kernel, rfl, by decide +kernel, by decide +kernel⟩
theorem ok_zero {f : Addr} {fd : FuncData} (F : FnP K "is_zero_in" 33 f fd) (G : G0 mg) : FnOk P w K mg base CX0 1 f fd ["entries"] (spZero T) := by
  refine F.ok sc33 (fun vs H Q E h => ?_) (fun cdv A outer s H vs Q E hr h => ?_)
  · obtain ⟨v, ns, rfl, _⟩ := h
    rfl
  · obtain ⟨v, ns, rfl, hv, q⟩ := h
    refine ⟨_, PSs.nox pb_w, ?_⟩
    refine hb_ret (P := T) (Z := none) (Le.refl0 H) (ev_notB (x := ns.any fun n => n != 0) (ev_bf1 (cr_anyI rfl) G.any (by decide +kernel) (ev_v (R := IT ns) 0 rfl hv) fun u H1 l ⟨a, e, h⟩ Q q => ⟨a, ns, by rw [e], SqT.of h, q _ H1 l.right rfl⟩)) fun u H1 l _ r => ?_
    rw [show u = .bl (!(ns.any fun n => n != 0)) from r]
    exact q H1 l
/-! ### joined_entries -/
def BitsAll (ns : List Int) : Prop := ∀ i, (K63.g ns i).natAbs < 2 ^ 9000
def spJoin (T : Addr) : Sp := fun vs H Q _ => ∃ (u v : V) (a b : List Int), vs = [u, v] ∧ IT a u H ∧ IT b v H ∧ 1 ≤ a.length ∧ 1 ≤ b.length ∧ a.length ≤ 100 ∧ b.length ≤ 100 ∧ (∀ i j, CMulW (K63.g a i) (K63.g b j)) ∧ ∀ z H', Le T none H H' → IT (K63.mulL a b) z H' → Q z H'
theorem sc29 : FnScope ["one", "other", "place", "found", "at"] ["one", "other"] (defScope (top 29)) := ⟨rfl, rfl, rfl, by decide +kernel, rfl, by decide +kernel, by decide +kernel⟩
theorem gatI {r : List Int} {p : Nat} (h : p < r.length) : (r.map V.int)[p]? = some (.int (K63.g r p)) := by
  rw [List.getElem?_map, K63.g_lt h]
  rfl
theorem map_zero (n : Nat) : (List.range n).map (fun _ => V.int 0) = (List.replicate n (0 : Int)).map V.int := by
  refine List.ext_getElem? fun i => ?_
  rw [List.getElem?_map, List.getElem?_map]
  by_cases h : i < n
  · rw [List.getElem?_range h, List.getElem?_replicate, if_pos h]
    rfl
  · have e2 : (List.range n)[i]? = none := List.getElem?_eq_none_iff.mpr (by rw [List.length_range]; omega)
    rw [e2, List.getElem?_replicate, if_neg h]
    rfl
def JoinP (T : Addr) (H : Hp) (u v : V) (fa : Addr) (L : Nat → List Int) (σ4 : Nat → Option V → Prop) (i : Nat) (σ : L2.St) (H' : Hp) : Prop := Le T none H H' ∧ ∃ x2 x4, σ4 i x4 ∧ σ = [some u, some v, x2, some (.ref fa), x4] ∧ H' fa = some (.lst ((L i).map V.int))
theorem ok_join {f : Addr} {fd : FuncData} (F : FnP K "joined_entries" 29 f fd) (G : G0 mg) : FnOk P w K mg base CX0 1 f fd ["one", "other"] (spJoin T) := by
  refine F.ok sc29 (fun vs H Q E h => ?_) (fun cdv A outer s H vs Q E hr h => ?_)
  · obtain ⟨u, v, a, b, rfl, _⟩ := h
    rfl
  · obtain ⟨u, v, a, b, rfl, hu, hv, ha1, hb1, ha2, hb2, hm, q⟩ := h
    refine ⟨_, PSs.nox pb_w, ?_⟩
    have lens : ∀ H1, Le T none H H1 → IT a u H1 ∧ IT b v H1 := fun H1 l => ⟨mono_tv.up _ _ _ l hu, mono_tv.up _ _ _ l hv⟩
    refine hb_lc (P := T) (Z := none) 3 (Le.refl0 H) sc29.nd (pi_range1 rfl G.range pa_w) (blkOk_by (own := [("place", 2)]) (N := ["one", "other", "place", "found", "at"]) (sc := defScope (top 29)) (by decide +kernel)) (fun _ _ _ _ _ => pg_name (i := 2) sc29.nd rfl (Or.inl rfl))
      (lc_valsF (es_range1 (ev_sub (ev_add (ev_lenI G.len (ev_v 0 rfl hu)) (ev_lenI G.len (ev_v 1 rfl hv))) ev_c) (by omega)).toN (bd_name (K := K)) (by omega) (fun _ _ _ _ => rfl) (fun _ => .int 0) fun i u H1 hi l hu => eb_of fun _ _ _ _ _ => ev_c)
      (fun z H1 l1 _ r => ?_) (sw_true rfl rfl rfl rfl)
    obtain ⟨fa, rfl, zf, bf, hf⟩ := r
    rw [map_zero] at hf
    have en : ((a.length : Int) + (b.length : Int) - 1).toNat = a.length + b.length - 1 := by omega
    rw [en] at hf
    refine hb_for (B := H) (JoinP T H u v fa (K63.mulOut a b) fun _ _ => True) (pi_range1 rfl G.range pa_w) (pg_name (i := 4) sc29.nd rfl (Or.inl rfl)) l1 (es_range1 (ev_lenI G.len (ev_v 0 rfl hu)) (by omega)) (bd_name (K := K)) (fun H2 l2 l3 => ⟨l2, none, none, trivial, rfl, l3.lst zf hf⟩) (fun i σ' H' _ h => h.1) (fun i w σ' H' H2 hi h l2 hw => ?_) fun σ' H' h => ?_
    · obtain ⟨lb, x2, x4, _, rfl, hfi⟩ := h
      have ew : w = .int (i : Int) := hw
      subst ew
      rw [Int.toNat_natCast] at hi
      refine hb_for (B := H) (JoinP T H u v fa (K63.mulIn a b i (K63.mulOut a b i)) fun _ x => x = some (.int (i : Int))) (pi_range1 rfl G.range pa_w) (pg_name (i := 2) sc29.nd rfl (Or.inl rfl)) (lb.trans l2) (es_range1 (ev_lenI G.len (ev_v 1 rfl hv)) (by omega)) (bd_name (K := K)) (fun H3 l3 l4 => ⟨l3, x2, _, rfl, rfl, (l2.trans l4).lst zf hfi⟩) (fun i σ' H' _ h => h.1) (fun j w σ' H' H3 hj h l5 hw => ?_) fun σ' H' h => hb_nil ?_
      · obtain ⟨lb2, y2, y4, rfl, rfl, hfj⟩ := h
        have ew : w = .int (j : Int) := hw
        subst ew
        rw [Int.toNat_natCast] at hj
        have l6 := lb2.trans l5
        have hf3 := l5.lst zf hfj
        have hlen : (K63.mulIn a b i (K63.mulOut a b i) j).length = a.length + b.length - 1 := by rw [K63.mulIn_len, K63.mulOut_len]
        have hij : i + j < (K63.mulIn a b i (K63.mulOut a b i) j).length := by rw [hlen]; omega
        obtain ⟨hu3, hv3⟩ := lens H3 l6
        have ecast : (i : Int) + (j : Int) = ((i + j : Nat) : Int) := (Int.natCast_add i j).symm
        refine hb_sub (y := .int (K63.g (K63.mulIn a b i (K63.mulOut a b i) j) (i + j) + K63.g a i * K63.g b j)) (k := i + j) l6 bf hf3 zf
          (ev_add (ev_ixL (j := i + j) (ev_v (R := IL none (K63.mulIn a b i (K63.mulOut a b i) j)) 3 rfl ⟨fa, rfl, zf, hf3⟩) (Ev.eq (ev_add (ev_i 4 rfl) (ev_i 2 rfl)) (by rw [ecast])) (gatI hij))
            (ev_mul (ev_ixT (ev_v 0 rfl hu3) (ev_i 4 rfl) (gatI hi)) (ev_ixT (ev_v 1 rfl hv3) (ev_i 2 rfl) (gatI hj)) (hm i j)))
          (ev_i 3 rfl) (Ev.eq (ev_add (ev_i 4 rfl) (ev_i 2 rfl)) (by rw [ecast])) (by rw [List.length_map]; exact hij) fun H7 l7 l8 h7 l9 => hb_nil ⟨l9, _, _, rfl, rfl, ?_⟩
        rw [upd_same, K63.mulIn_succ, List.map_set]
      · obtain ⟨lb2, y2, y4, rfl, rfl, hfj⟩ := h
        rw [Int.toNat_natCast] at hfj
        exact ⟨lb2, _, _, trivial, rfl, by rw [K63.mulOut_succ]; exact hfj⟩
    · obtain ⟨lb, x2, x4, _, rfl, hfi⟩ := h
      rw [Int.toNat_natCast] at hfi
      exact hb_ret lb (ev_tuple G.tuple (ev_v (R := IL none (K63.mulL a b)) 3 rfl ⟨fa, rfl, zf, hfi⟩)) fun z H8 l12 _ r => q z H8 l12 r
/-! ### derived_in -/
def spDer (T : Addr) : Sp := fun vs H Q _ => ∃ (v : V) (ns : List Int) (a b : Nat), vs = [v, .int a, .int b] ∧ IT ns v H ∧ ns.length ≤ 100 ∧ a + b < ns.length ∧ ∀ z H', Le T none H H' → IT (K63.derL ns a b) z H' → Q z H'
theorem sc32 : FnScope ["entries", "one", "other", "found", "turn", "at", "entry"] ["entries", "one", "other"] (defScope (top 32)) := ⟨rfl, rfl, rfl, by decide +kernel, rfl, by decide +kernel, by decide +kernel⟩
theorem cut_last {ns : List Int} (h : 1 ≤ ns.length) : cutV (ns.map V.int) none (some (-1)) = (ns.take (ns.length - 1)).map V.int := by
  unfold cutV
  rw [List.length_map, List.map_take]
  show ((ns.map V.int).drop 0).take _ = _
  rw [List.drop_zero]
  congr 1
  have e : HT.sIx ns.length ns.length (some (-1)) = ((-1 : Int) + (ns.length : Int)).toNat := by
    unfold HT.sIx
    exact if_pos (by decide)
  rw [e]
  show ((-1 : Int) + (ns.length : Int)).toNat - 0 = _
  omega
theorem cut_first {ns : List Int} (h : 1 ≤ ns.length) : cutV (ns.map V.int) (some 1) none = (ns.drop 1).map V.int := by
  unfold cutV
  rw [List.length_map, List.map_drop]
  have e : HT.sIx ns.length 0 (some 1) = 1 := by
    have := HT.sIx_nat ns.length 0 1
    rw [show ((1 : Nat) : Int) = 1 from rfl] at this
    rw [this]
    omega
  rw [e]
  show ((ns.map V.int).drop 1).take (ns.length - 1) = _
  rw [List.take_of_length_le]
  rw [List.length_drop, List.length_map]
  omega
theorem whole_not {ns : List Int} (h : 1 ≤ ns.length) : ¬ (HT.sIx (ns.map V.int).length 0 none = 0 ∧ HT.sIx (ns.map V.int).length (ns.map V.int).length (some (-1)) = (ns.map V.int).length) := fun ⟨_, e⟩ => by
  rw [List.length_map] at e
  have e2 : HT.sIx ns.length ns.length (some (-1)) = ((-1 : Int) + (ns.length : Int)).toNat := by
    unfold HT.sIx
    exact if_pos (by decide)
  rw [e2] at e
  omega
theorem whole_not1 {ns : List Int} (h : 1 ≤ ns.length) : ¬ (HT.sIx (ns.map V.int).length 0 (some 1) = 0 ∧ HT.sIx (ns.map V.int).length (ns.map V.int).length none = (ns.map V.int).length) := fun ⟨e, _⟩ => by
  rw [List.length_map] at e
  have := HT.sIx_nat ns.length 0 1
  rw [show ((1 : Nat) : Int) = 1 from rfl] at this
  rw [this] at e
  omega
theorem g_take {ns : List Int} {i n : Nat} (h : i < n) : K63.g (ns.take n) i = K63.g ns i := by
  unfold K63.g
  rw [List.getD_eq_getElem?_getD, List.getD_eq_getElem?_getD, List.getElem?_take, if_pos h]
theorem g_drop {ns : List Int} {i n : Nat} : K63.g (ns.drop n) i = K63.g ns (n + i) := by
  unfold K63.g
  rw [List.getD_eq_getElem?_getD, List.getD_eq_getElem?_getD, List.getElem?_drop]
theorem tg_of {ns : List Int} {n : Nat} {f : Nat → Int} {v : V} {H : Hp} (hl : ns.length = n) (hf : ∀ i, i < n → K63.g ns i = f i) (h : IT ns v H) : TG n (fun i => is (.int (f i))) v H := by
  obtain ⟨a, vs, e, hx, len, hi⟩ := it_tg h
  refine ⟨a, vs, e, hx, len.trans hl, fun i x q => ?_⟩
  have hi' : i < n := by rw [← hl, ← len]; exact (List.getElem?_eq_some_iff.mp q).1
  have h9 : x = .int (K63.g ns i) := hi i x q
  rw [hf i hi'] at h9
  exact h9
theorem byX_succ (f : List Int) (i : Nat) : K63.iter K63.byX (i + 1) f = K63.byX (K63.iter K63.byX i f) := rfl
def DerP (T : Addr) (v : V) (a b : Nat) (f : Nat → List Int) (i : Nat) (σ : L2.St) (H' : Hp) : Prop := ∃ w x4, σ = [some v, some (.int a), some (.int b), some w, x4, none, none] ∧ IT (f i) w H'
theorem ok_der {f : Addr} {fd : FuncData} (F : FnP K "derived_in" 32 f fd) (G : G0 mg) : FnOk P w K mg base CX0 1 f fd ["entries", "one", "other"] (spDer T) := by
  refine F.ok sc32 (fun vs H Q E h => ?_) (fun cdv A outer s H vs Q E hr h => ?_)
  · obtain ⟨v, ns, a, b, rfl, _⟩ := h
    rfl
  · obtain ⟨v, ns, a, b, rfl, hv, hl, hab, q⟩ := h
    refine ⟨_, PSs.nox pb_w, ?_⟩
    refine hb_set (P := T) (Z := none) 3 (Le.refl0 H) (ev_v (R := IT ns) 0 rfl hv) sc32.nd fun u H1 l1 _ r => ?_
    refine hb_forN (DerP T v a b fun i => K63.iter K63.byX i ns) (pi_range1 rfl G.range pa_w) (pg_name (i := 4) sc32.nd rfl (Or.inl rfl)) l1 (es_range1 (ev_i 1 rfl) (by omega)).toN (bd_name (K := K)) (fun H2 l => ⟨u, none, rfl, mono_tv.up _ _ _ l r⟩) (fun i t σ' H' H2 hi _ l2 h l3 ht => ?_) fun σ' H' l2 _ h => ?_
    · obtain ⟨w, x4, rfl, hw⟩ := h
      rw [Int.toNat_natCast] at hi
      have hlen := K63.iterX_len ns i
      have hw2 : IT (K63.iter K63.byX i ns) w H2 := mono_tv.up _ _ _ l3 hw
      have esucc : K63.iter K63.byX (i + 1) ns = K63.byX (K63.iter K63.byX i ns) := rfl
      unfold DerP
      simp only [esucc]
      generalize K63.iter K63.byX i ns = c at *
      refine hb_set 3 l2 (ev_tuple G.tuple (ev_lc sc32.nd (pi_enT rfl G.enum pa_w) (blkOk_by (own := [("at", 5), ("entry", 6)]) (N := ["entries", "one", "other", "found", "turn", "at", "entry"]) (sc := defScope (top 32)) (by decide +kernel)) (fun _ _ _ _ _ => pg_pair (i := 5) (j := 6) sc32.nd rfl rfl (Or.inl rfl) (Or.inl rfl))
        (lc_vals (en_enumT (n := c.length - 1) (R := fun i => is (.int (K63.g c i))) (Ev.imp (R := TV (cutV (c.map V.int) none (some (-1)))) (ev_sliceT po_none (po_some pe_w) (ev_v (R := IT c) 3 rfl hw2) eo_none (eo_some (ev_neg ev_c)) (whole_not (by omega))) fun v H1 l h => by
          rw [cut_last (by omega)] at h
          exact tg_of (by rw [List.length_take]; omega) (fun i hi => g_take hi) h)) (bd_pair (K := K)) (by omega) (fun _ _ _ _ => rfl) (fun i => .int (K63.g c i * ((c.length : Int) - 1 - i))) fun i u H1 hi l hu => eb_of fun _ _ _ _ _ => ?_))) sc32.nd fun z H3 l4 l5 r => hb_nil ⟨l5, z, _, rfl, ?_⟩
      · obtain ⟨u1, u2⟩ := u
        obtain ⟨h1, h2⟩ := hu
        have e1 : u1 = .int (i : Int) := h1
        have e2 : u2 = .int (K63.g c i) := h2
        subst e1 e2
        exact ev_mulS (ev_i 6 rfl) (ev_sub (ev_sub (ev_lenI G.len (ev_v 3 rfl (mono_tv.up _ _ _ l hw2))) ev_c) (ev_i 5 rfl)) (.inr ⟨by omega, by omega⟩)
      · rw [map_tab] at r
        exact r
    · obtain ⟨w, x4, rfl, hw⟩ := h
      rw [Int.toNat_natCast] at hw
      have hlen0 := K63.iterX_len ns a
      have eder : ∀ i, K63.iter K63.byY i (K63.iter K63.byX a ns) = K63.derL ns a i := fun _ => rfl
      refine hb_forN (DerP T v a b fun i => K63.derL ns a i) (pi_range1 rfl G.range pa_w) (pg_name (i := 4) sc32.nd rfl (Or.inl rfl)) l2 (es_range1 (ev_i 2 rfl) (by omega)).toN (bd_name (K := K)) (fun H2 l => ⟨w, x4, rfl, mono_tv.up _ _ _ l hw⟩) (fun i t σ' H' H2 hi _ l2 h l3 ht => ?_) fun σ' H' l2 _ h => ?_
      · obtain ⟨w, x4, rfl, hw⟩ := h
        rw [Int.toNat_natCast] at hi
        have hlen := K63.derL_len ns a i
        have hw2 : IT (K63.derL ns a i) w H2 := mono_tv.up _ _ _ l3 hw
        have esucc : K63.derL ns a (i + 1) = K63.byY (K63.derL ns a i) := rfl
        unfold DerP
        simp only [esucc]
        generalize K63.derL ns a i = c at *
        refine hb_set 3 l2 (ev_tuple G.tuple (ev_lc sc32.nd (pi_enT rfl G.enum pa_w) (blkOk_by (own := [("at", 5), ("entry", 6)]) (N := ["entries", "one", "other", "found", "turn", "at", "entry"]) (sc := defScope (top 32)) (by decide +kernel)) (fun _ _ _ _ _ => pg_pair (i := 5) (j := 6) sc32.nd rfl rfl (Or.inl rfl) (Or.inl rfl))
          (lc_vals (en_enumT (n := c.length - 1) (R := fun i => is (.int (K63.g c (i + 1)))) (Ev.imp (R := TV (cutV (c.map V.int) (some 1) none)) (ev_sliceT (po_some pe_w) po_none (ev_v (R := IT c) 3 rfl hw2) (eo_some ev_c) eo_none (whole_not1 (by omega))) fun v H1 l h => by
            rw [cut_first (by omega)] at h
            exact tg_of (by rw [List.length_drop]) (fun i hi => by rw [g_drop, Nat.add_comm]) h)) (bd_pair (K := K)) (by omega) (fun _ _ _ _ => rfl) (fun i => .int (K63.g c (i + 1) * ((i : Int) + 1))) fun i u H1 hi l hu => eb_of fun _ _ _ _ _ => ?_))) sc32.nd fun z H3 l4 l5 r => hb_nil ⟨l5, z, _, rfl, ?_⟩
        · obtain ⟨u1, u2⟩ := u
          obtain ⟨h1, h2⟩ := hu
          have e1 : u1 = .int (i : Int) := h1
          have e2 : u2 = .int (K63.g c (i + 1)) := h2
          subst e1 e2
          exact ev_mulS (ev_i 6 rfl) (ev_add (ev_i 5 rfl) ev_c) (.inr ⟨by omega, by omega⟩)
        · rw [map_tab] at r
          exact r
      · obtain ⟨w, x4, rfl, hw⟩ := h
        rw [Int.toNat_natCast] at hw
        exact hb_ret l2 (ev_v (R := IT (K63.derL ns a b)) 3 rfl hw) fun z H8 l12 _ r => q z H8 l12 r
/-! ### are_entries -/
def spEntr (T : Addr) : Sp := fun vs H Q _ => ∃ (v : V) (ns : List Int), vs = [v] ∧ IT ns v H ∧ Sh ns ∧ 1 ≤ ns.length ∧ ns.length ≤ 41 ∧ ∀ H', Le T none H H' → Q (.bl true) H'
theorem sc35 : FnScope ["value"] ["value"] (defScope (top 35)) := ⟨rfl, rfl, rfl, by decide +kernel, rfl, by decide +kernel, by decide +kernel⟩
theorem ok_entr {f : Addr} {fd : FuncData} (F : FnP K "are_entries" 35 f fd) (G : G0 mg) (fA : Fk P w K mg base "are_short" 3 ["value"] (spAre T)) : FnOk P w K mg base CX0 4 f fd ["value"] (spEntr T) := by
  refine F.ok sc35 (fun vs H Q E h => ?_) (fun cdv A outer s H vs Q E hr h => ?_)
  · obtain ⟨v, ns, rfl, _⟩ := h
    rfl
  · obtain ⟨v, ns, rfl, hv, hs, h1, h2, q⟩ := h
    obtain ⟨t, hg⟩ := G.most
    refine ⟨_, PSs.nox pb_w, ?_⟩
    refine hb_ret (P := T) (Z := none) (Le.refl0 H) (ev_andB (x := true) (y := true) (ev_call1 fA hr (ev_v (R := IT ns) 0 rfl hv) fun u H1 l hu Q q => ⟨u, ns, rfl, hu, hs, by omega, fun H2 l2 => q _ H2 l2 rfl⟩)
      fun _ => Ev.eq (ev_chain op_le op_le ev_c (ev_lenI G.len (ev_v 0 rfl hv)) (ev_add (ev_g hg ⟨t, rfl⟩) ev_c) fun ha hb hc => pe_chain op_le op_le ha hb hc) ?_) fun u H1 l _ r => ?_
    · show V.bl (decide ((1 : Int) ≤ (ns.length : Int)) && decide ((ns.length : Int) ≤ 40 + 1)) = V.bl true
      rw [decide_eq_true (by omega), decide_eq_true (by omega)]
      rfl
    · rw [show u = .bl (true && true) from r]
      exact q H1 l
end
end K6

/-! ## D6 -/
set_option Elab.async false
set_option linter.all false
set_option maxRecDepth 100000
set_option maxHeartbeats 4000000
namespace K6
open PySem PySem.Spec PyProof.Rows L2
/-- below 2 ^ 20000 -/
def Big (n : Int) : Prop := n.natAbs < 2 ^ 20000
theorem Big.log {n : Int} (h : Big n) : n.natAbs.log2 < 20000 := by
  by_cases z : n.natAbs = 0
  · rw [z]
    decide
  · exact (Nat.log2_lt z).mpr h
theorem Big.mul {i j : Int} (h : Big i) (h2 : Big j) : CMulW i j := by
  have := h.log
  have := h2.log
  unfold CMulW
  omega
theorem Big.le {i j : Int} (h : Big j) (l : i.natAbs ≤ j.natAbs) : Big i := Nat.lt_of_le_of_lt l h
theorem big_of {n : Int} {b : Nat} (h : n.natAbs < 2 ^ b) (hb : b ≤ 20000) : Big n := Nat.lt_of_lt_of_le h (Nat.pow_le_pow_right (by decide) hb)
theorem fact_bits : ∀ n, n ≤ 100 → (K63.fact n).natAbs < 2 ^ (7 * n + 1)
  | 0, _ => by decide
  | n + 1, h => by
    have ih := fact_bits n (by omega)
    show (K63.fact n * ((n : Int) + 1)).natAbs < _
    rw [Int.natAbs_mul]
    have h1 : ((n : Int) + 1).natAbs ≤ 2 ^ 7 := by
      have : ((n : Int) + 1).natAbs = n + 1 := by omega
      rw [this]
      have : (2 : Nat) ^ 7 = 128 := by decide
      omega
    have e : 7 * (n + 1) + 1 = (7 * n + 1) + 7 := by omega
    rw [e, Nat.pow_add]
    exact Nat.lt_of_le_of_lt (Nat.mul_le_mul_left _ h1) (Nat.mul_lt_mul_of_pos_right ih (by decide))
theorem fact_big {n : Nat} (h : n ≤ 100) : (K63.fact n).natAbs < 2 ^ 701 := Nat.lt_of_lt_of_le (fact_bits n h) (Nat.pow_le_pow_right (by decide) (by omega))
theorem fact2_big {n m : Nat} (h : n ≤ 100) (h2 : m ≤ 100) : Big (K63.fact n * K63.fact m) := by
  refine big_of (b := 1402) ?_ (by decide)
  rw [Int.natAbs_mul]
  have e : (2 : Nat) ^ 1402 = 2 ^ 701 * 2 ^ 701 := by rw [← Nat.pow_add]
  rw [e]
  exact Nat.mul_lt_mul'' (fact_big h) (fact_big h2)
theorem lv_ge (f : List Int) (i : Nat) : (K63.g f i).natAbs ≤ (K63.lv f i).natAbs := by
  unfold K63.lv
  rw [Int.natAbs_mul, Int.natAbs_mul]
  have h1 := K63.fact_pos i
  have h2 := K63.fact_pos (f.length - 1 - i)
  have h3 : 1 ≤ (K63.fact i).natAbs * (K63.fact (f.length - 1 - i)).natAbs := Nat.mul_pos (by omega) (by omega)
  exact Nat.le_mul_of_pos_left _ h3
theorem der_big {f : List Int} (h : ∀ i, Big (K63.lv f i)) {a b j : Nat} : Big (K63.g (K63.derL f a b) j) := by
  by_cases hj : j < f.length - a - b
  · have e := K63.derL_lv f (a := a) (b := b) (i := j) (by omega)
    exact (h (j + b)).le (by rw [← e]; exact lv_ge _ _)
  · rw [K63.g_ge (by rw [K63.derL_len]; omega)]
    exact Nat.pow_pos (by decide)
section
variable {P : Program} {w : World} {K : PySem.W.Frag} {mg : Str → Option Value} {base : Heap} {T : Addr}
/-! ### level_entries -/
def spLev (T : Addr) : Sp := fun vs H Q _ => ∃ (v : V) (f : List Int), vs = [v] ∧ IT f v H ∧ 1 ≤ f.length ∧ f.length ≤ 100 ∧ (∀ i, Big (K63.lv f i)) ∧ ∀ z H', Le T none H H' → IL none (K63.lev f) z H' → Q z H'
theorem sc41 : FnScope ["entries", "last", "at", "entry"] ["entries"] (defScope (top 41)) := ⟨rfl, rfl, rfl, by decide +kernel, rfl, by decide +kernel, by decide +kernel⟩
theorem ok_lev {f : Addr} {fd : FuncData} (F : FnP K "level_entries" 41 f fd) (G : G0 mg) (fF : Fk P w K mg base "factorial_of" 1 ["number"] (spFact T)) : FnOk P w K mg base CX0 2 f fd ["entries"] (spLev T) := by
  refine F.ok sc41 (fun vs H Q E h => ?_) (fun cdv A outer s H vs Q E hr h => ?_)
  · obtain ⟨v, f, rfl, _⟩ := h
    rfl
  · obtain ⟨v, f, rfl, hv, h1, h2, hb, q⟩ := h
    refine ⟨_, PSs.nox pb_w, ?_⟩
    refine hb_set (P := T) (Z := none) 1 (Le.refl0 H) (R := is (.int ((f.length - 1 : Nat) : Int))) (Ev.eq (ev_sub (ev_lenI G.len (ev_v 0 rfl hv)) ev_c) (by congr 1; omega)) sc41.nd fun u H1 l1 _ r => ?_
    have e : u = .int ((f.length - 1 : Nat) : Int) := r
    subst e
    have hv1 := mono_tv.up _ _ _ l1 hv
    refine hb_ret l1 (ev_lc sc41.nd (pi_enT rfl G.enum pa_w) (blkOk_by (own := [("at", 2), ("entry", 3)]) (N := ["entries", "last", "at", "entry"]) (sc := defScope (top 41)) (by decide +kernel)) (fun _ _ _ _ _ => pg_pair (i := 2) (j := 3) sc41.nd rfl rfl (Or.inl rfl) (Or.inl rfl))
      (lc_vals (en_enumT (n := f.length) (R := fun i => is (.int (K63.g f i))) (Ev.imp (R := IT f) (ev_v 0 rfl hv1) fun v H1 l h => it_tg h)) (bd_pair (K := K)) (by omega) (fun _ _ _ _ => rfl) (fun i => .int (K63.lv f i)) fun i u H1 hi l hu => eb_of fun _ _ _ _ _ => ?_)) fun z H3 l4 _ r => q z H3 l4 ?_
    · obtain ⟨u1, u2⟩ := u
      obtain ⟨h1', h2'⟩ := hu
      have e1 : u1 = .int (i : Int) := h1'
      have e2 : u2 = .int (K63.g f i) := h2'
      subst e1 e2
      have b1 := fact2_big (n := i) (m := f.length - 1 - i) (by omega) (by omega)
      have b2 : Big (K63.g f i) := (hb i).le (lv_ge f i)
      refine ev_mul (ev_mul (ev_call1 (R := is (.int (K63.fact i))) fF hr (ev_i 2 rfl) fun u H1 l hu Q q => ⟨i, by rw [show u = .int (i : Int) from hu], by omega, fun H2 l2 => q _ H2 l2 rfl⟩)
        (ev_call1 (R := is (.int (K63.fact (f.length - 1 - i)))) fF hr (ev_sub (ev_i 1 rfl) (ev_i 2 rfl)) fun u H1 l hu Q q => ⟨f.length - 1 - i, by rw [show u = .int (((f.length - 1 : Nat) : Int) - (i : Int)) from hu]; congr 2; omega, by omega, fun H2 l2 => q _ H2 l2 rfl⟩) ?_) (ev_i 3 rfl) (b1.mul b2)
      exact Big.mul (big_of (fact_big (by omega)) (by decide)) (big_of (fact_big (by omega)) (by decide))
    · rw [map_tab] at r
      exact r
/-! ### level_rows -/
/-- a list of tuples of integers -/
abbrev LT (Z : Option Addr) (rs : List (List Int)) : Rp := LG Z rs.length (fun i => IT (rs.getD i []))
def spRows (T : Addr) : Sp := fun vs H Q _ => ∃ (v : V) (f : List Int) (d : Nat), vs = [v, .int d] ∧ IT f v H ∧ 1 ≤ f.length ∧ f.length ≤ 100 ∧ d ≤ 100 ∧ (∀ i, Big (K63.lv f i)) ∧ ∀ z H', Le T none H H' → LT none (K63.levelRows f d) z H' → Q z H'
theorem sc42 : FnScope ["entries", "degree", "told", "at"] ["entries", "degree"] (defScope (top 42)) := ⟨rfl, rfl, rfl, by decide +kernel, rfl, by decide +kernel, by decide +kernel⟩
theorem cut_mid {ns : List Int} {i d : Nat} (h : i + d < ns.length) : cutV (ns.map V.int) (some (i : Int)) (some ((i : Int) + (d : Int) + 1)) = ((ns.drop i).take (d + 1)).map V.int := by
  unfold cutV
  rw [List.length_map, HT.sIx_nat]
  have e : (i : Int) + (d : Int) + 1 = ((i + d + 1 : Nat) : Int) := by omega
  rw [e, HT.sIx_nat, List.map_take, List.map_drop]
  have e1 : min i ns.length = i := by omega
  have e2 : min (i + d + 1) ns.length - i = d + 1 := by omega
  rw [e1, e2]
theorem lev_len (f : List Int) : (K63.lev f).length = f.length := K63.tab_len _ _
theorem ok_rows {f : Addr} {fd : FuncData} (F : FnP K "level_rows" 42 f fd) (G : G0 mg) (fL : Fk P w K mg base "level_entries" 2 ["entries"] (spLev T)) : FnOk P w K mg base CX0 3 f fd ["entries", "degree"] (spRows T) := by
  refine F.ok sc42 (fun vs H Q E h => ?_) (fun cdv A outer s H vs Q E hr h => ?_)
  · obtain ⟨v, f, d, rfl, _⟩ := h
    rfl
  · obtain ⟨v, f, d, rfl, hv, h1, h2, hd, hb, q⟩ := h
    refine ⟨_, PSs.nox pb_w, ?_⟩
    refine hb_set (P := T) (Z := none) 2 (Le.refl0 H) (R := IL none (K63.lev f)) (ev_call1 fL hr (ev_v (R := IT f) 0 rfl hv) fun u H1 l hu Q q => ⟨u, f, rfl, hu, h1, h2, hb, fun z H2 l2 r => q z H2 l2 r⟩) sc42.nd fun u H1 l1 _ r => ?_
    have hv1 := mono_tv.up _ _ _ l1 hv
    refine hb_ret l1 (ev_lc sc42.nd (pi_range1 rfl G.range pa_w) (blkOk_by (own := [("at", 3)]) (N := ["entries", "degree", "told", "at"]) (sc := defScope (top 42)) (by decide +kernel)) (fun _ _ _ _ _ => pg_name (i := 3) sc42.nd rfl (Or.inl rfl))
      (lc_objs (R := fun i => IT (K63.rowAt f d i)) (es_range1 (ev_sub (ev_lenI G.len (ev_v 0 rfl hv1)) (ev_i 1 rfl)) (by omega)).toN (bd_name (K := K)) (by omega) (fun _ _ _ _ => rfl) (fun i hi => ob_tv) fun i u H1 hi l hu => eb_of fun _ _ _ _ _ => ?_)) fun z H3 l4 _ r => q z H3 l4 ?_
    · have e : u = .int (i : Int) := hu
      subst e
      have hid : i + d < f.length := by omega
      refine Ev.imp (R := TV (cutV ((K63.lev f).map V.int) (some (i : Int)) (some ((i : Int) + (d : Int) + 1)))) (ev_tuple G.tuple (ev_sliceL (po_some pe_w) (po_some pe_w) (ev_v (R := IL none (K63.lev f)) 2 rfl ((mono_lv (P := T) (Z := none)).up _ _ _ l r)) (eo_some (ev_i 3 rfl)) (eo_some (ev_add (ev_add (ev_i 3 rfl) (ev_i 1 rfl)) ev_c)))) fun v H1 l h => ?_
      rw [cut_mid (by rw [lev_len]; exact hid), K63.slice_row hid] at h
      exact h
    · obtain ⟨D, xs, e, z, _, h, len, hi⟩ := r
      have en : ((f.length : Int) - (d : Int)).toNat = f.length - d := by omega
      rw [en] at len
      refine ⟨D, xs, e, z, h, by rw [len]; unfold K63.levelRows; rw [List.length_map, List.length_range], fun i x hx => ?_⟩
      have hil : i < f.length - d := by rw [← len]; exact (List.getElem?_eq_some_iff.mp hx).1
      have e2 : (K63.levelRows f d).getD i [] = K63.rowAt f d i := by
        unfold K63.levelRows
        rw [K63.getD_map (K63.rowAt f d) (a := 0) (by rw [List.length_range]; exact hil), K63.getD_lt (by rw [List.length_range]; exact hil), List.getElem_range]
      show IT ((K63.levelRows f d).getD i []) x _
      rw [e2]
      exact hi i x hx
end
end K6

/-! ## D7 -/
set_option Elab.async false
set_option linter.all false
set_option maxRecDepth 100000
set_option maxHeartbeats 4000000
namespace K6
open PySem PySem.Spec PyProof.Rows L2
section
variable {P : Program} {w : World} {K : PySem.W.Frag} {mg : Str → Option Value} {base : Heap} {T : Addr}
/-! ### killed_in -/
structure ActOk (a f : List Int) : Prop where
  a1 : 1 ≤ a.length
  a2 : a.length ≤ 100
  f2 : f.length ≤ 100
  ba : ∀ i, Big (K63.g a i)
  bf : ∀ i, Big (K63.lv f i)
def spAct (T : Addr) : Sp := fun vs H Q _ => ∃ (u v : V) (a f : List Int), vs = [u, v] ∧ IT a u H ∧ IT f v H ∧ ActOk a f ∧ a.length ≤ f.length ∧ ∀ z H', Le T none H H' → IT (K63.actL a f) z H' → Q z H'
theorem sc43 : FnScope ["one", "entries", "last", "found", "at", "factor", "piece", "entry", "more"] ["one", "entries"] (defScope (top 43)) := ⟨rfl, rfl, rfl, by decide +kernel, rfl, by decide +kernel, by decide +kernel⟩
theorem act_zero0 (a f : List Int) : K63.actN a f 0 = List.replicate (f.length - (a.length - 1)) 0 := by
  refine (K63.eq_tab (by rw [List.length_replicate]) fun i _ => ?_).symm
  rw [K63.g_rep]
  rfl
theorem act_succ (a f : List Int) (n : Nat) : K63.actN a f (n + 1) = K63.tab (f.length - (a.length - 1)) fun j => K63.g (K63.actN a f n) j + K63.g a n * K63.g (K63.derL f (a.length - 1 - n) n) j :=
  K63.tab_ext fun j hj => by
    unfold K63.actN
    rw [K63.tab_g hj]
    rfl
theorem act_skip {a f : List Int} {n : Nat} (h : K63.g a n = 0) : K63.actN a f (n + 1) = K63.actN a f n := by
  unfold K63.actN
  refine K63.tab_ext fun j hj => ?_
  show K63.sm n _ + K63.g a n * _ = K63.sm n _
  rw [h]
  omega
theorem actN_len (a f : List Int) (n : Nat) : (K63.actN a f n).length = f.length - (a.length - 1) := K63.tab_len _ _
def ActP (u v : V) (a f : List Int) (i : Nat) (σ : L2.St) (H' : Hp) : Prop := ∃ x3 x4 x5 x6, σ = [some u, some v, some (.int ((a.length - 1 : Nat) : Int)), some x3, x4, x5, x6, none, none] ∧ IL none (K63.actN a f i) x3 H'
theorem ok_act {f : Addr} {fd : FuncData} (F : FnP K "killed_in" 43 f fd) (G : G0 mg) (fD : Fk P w K mg base "derived_in" 1 ["entries", "one", "other"] (spDer T)) : FnOk P w K mg base CX0 2 f fd ["one", "entries"] (spAct T) := by
  refine F.ok sc43 (fun vs H Q E h => ?_) (fun cdv A outer s H vs Q E hr h => ?_)
  · obtain ⟨u, v, a, f, rfl, _⟩ := h
    rfl
  · obtain ⟨u, v, a, f, rfl, hu, hv, ok, hle, q⟩ := h
    have a1 := ok.a1
    have a2 := ok.a2
    have f2 := ok.f2
    refine ⟨_, PSs.nox pb_w, ?_⟩
    refine hb_set (P := T) (Z := none) 2 (Le.refl0 H) (R := is (.int ((a.length - 1 : Nat) : Int))) (Ev.eq (ev_sub (ev_lenI G.len (ev_v 0 rfl hu)) ev_c) (by congr 1; omega)) sc43.nd fun z H1 l1 _ r => ?_
    have e : z = .int ((a.length - 1 : Nat) : Int) := r
    subst e
    have lens : ∀ H1, Le T none H H1 → IT a u H1 ∧ IT f v H1 := fun H1 l => ⟨mono_tv.up _ _ _ l hu, mono_tv.up _ _ _ l hv⟩
    refine hb_set 3 l1 (ev_rep (n := f.length - (a.length - 1)) (xs := [.int 0]) (Ra := is .non) ((ev_lst (ea_cons ev_c ea_nil) fun vs H1 ⟨a, r, e, _, e2⟩ => by rw [e, show r = [] from e2]; exact (by decide : 1 ≤ 100000)).imp fun v H1 l ⟨a, vs, H0, e, z, b, h, _, x, r, e2, hx, e3⟩ => ⟨a, e, z, by rw [h, e2, show x = .int 0 from hx, show r = [] from e3]⟩)
      (Ev.eq (ev_sub (ev_lenI G.len (ev_v 1 rfl (lens H1 l1).2)) (ev_i 2 rfl)) (by congr 1; omega)) (by omega) (by decide)) sc43.nd fun z H2 l2 l3 r => ?_
    obtain ⟨p, rfl, zp, _, hp⟩ := r
    rw [flat_zero, ← act_zero0] at hp
    refine hb_forN (ActP u v a f) (pi_enT rfl G.enum pa_w) (pg_pair (i := 4) (j := 5) sc43.nd rfl rfl (Or.inl rfl) (Or.inr rfl)) l2 (en_enumT (n := a.length) (R := fun i => is (.int (K63.g a i))) (Ev.imp (R := IT a) (ev_v 0 rfl (lens H2 l2).1) fun v H1 l h => it_tg h)) (bd_pair (K := K)) (fun H3 l => ⟨.ref p, none, none, none, rfl, p, rfl, zp, l.lst zp hp⟩) (fun i t σ' H' H3 hi _ l4 h l5 ht => ?_) fun σ' H' l4 _ h => ?_
    · obtain ⟨x3, x4, x5, x6, rfl, hx⟩ := h
      obtain ⟨t1, t2⟩ := t
      obtain ⟨h1', h2'⟩ := ht
      have e1 : t1 = .int (i : Int) := h1'
      have e2 : t2 = .int (K63.g a i) := h2'
      subst e1 e2
      have hx3 := (mono_lv (P := T) (Z := none)).up _ _ _ l5 hx
      refine hb_if (x := K63.g a i != 0) l4 (et_c (ev_neI (ev_i 5 rfl) ev_c)) (fun hn H4 l6 l7 => ?_) fun hn H4 l6 l7 => hb_nil (hb_nil ⟨l7, x3, _, _, _, rfl, ?_⟩)
      · refine hb_set 6 l6 (R := IT (K63.derL f (a.length - 1 - i) i)) (ev_call3 fD hr (ev_v (R := IT f) 1 rfl (lens H4 l6).2) (ev_sub (ev_i 2 rfl) (ev_i 4 rfl)) (ev_i 4 rfl) fun x y z H5 l hx hy hz Q q => ⟨x, f, a.length - 1 - i, i, by rw [show y = .int (((a.length - 1 : Nat) : Int) - (i : Int)) from hy, show z = .int (i : Int) from hz]; congr 3; omega, hx, by omega, by omega, fun z H2 l2 r => q z H2 l2 r⟩) sc43.nd fun z H5 l8 l9 r => ?_
        have hx5 : IL none (K63.actN a f i) x3 H5 := (mono_lv (P := T) (Z := none)).up _ _ _ (l7.trans l9) hx3
        have dl := K63.derL_len f (a.length - 1 - i) i
        refine hb_lc 3 l8 sc43.nd (pi_zLT rfl G.zip pa_w) (blkOk_by (own := [("entry", 7), ("more", 8)]) (N := ["one", "entries", "last", "found", "at", "factor", "piece", "entry", "more"]) (sc := defScope (top 43)) (by decide +kernel)) (fun _ _ _ _ _ => pg_pair (i := 7) (j := 8) sc43.nd rfl rfl (Or.inl rfl) (Or.inl rfl))
          (lc_vals (en_zLT (n := f.length - (a.length - 1)) (R := fun j => is (.int (K63.g (K63.actN a f i) j))) (S := fun j => is (.int (K63.g (K63.derL f (a.length - 1 - i) i) j))) (Ev.imp (R := IL none (K63.actN a f i)) (ev_v 3 rfl hx5) fun v H1 l h => by
              have := il_lg h
              rw [actN_len] at this
              exact this)
            (Ev.imp (R := IT (K63.derL f (a.length - 1 - i) i)) (ev_v 6 rfl r) fun v H1 l h => tg_of (by omega) (fun _ _ => rfl) h)) (bd_pair (K := K)) (by omega) (fun _ _ _ _ => rfl) (fun j => .int (K63.g (K63.actN a f i) j + K63.g a i * K63.g (K63.derL f (a.length - 1 - i) i) j)) fun j u H1 hj l hu => eb_of fun _ _ _ _ _ => ?_)
          (fun z H6 l10 l11 r => hb_nil (hb_nil ⟨l7.trans (l9.trans l11), z, _, _, _, rfl, ?_⟩)) (sw_true rfl rfl rfl rfl)
        · obtain ⟨u1, u2⟩ := u
          obtain ⟨g1, g2⟩ := hu
          have e1 : u1 = .int (K63.g (K63.actN a f i) j) := g1
          have e2 : u2 = .int (K63.g (K63.derL f (a.length - 1 - i) i) j) := g2
          subst e1 e2
          exact ev_add (ev_i 7 rfl) (ev_mul (ev_i 5 rfl) (ev_i 8 rfl) ((ok.ba i).mul (der_big ok.bf)))
        · rw [map_tab] at r
          rw [act_succ]
          exact r
      · have hz : K63.g a i = 0 := by
          have := hn
          rw [bne_eq_false_iff_eq] at this
          exact this
        rw [act_skip hz]
        exact (mono_lv (P := T) (Z := none)).up _ _ _ l7 hx3
    · obtain ⟨x3, x4, x5, x6, rfl, hx⟩ := h
      exact hb_ret l4 (ev_tuple G.tuple (ev_v (R := IL none (K63.actL a f)) 3 rfl hx)) fun z H8 l12 _ r => q z H8 l12 r
/-! ### does_kill_in -/
def doesKill (a f : List Int) : Bool := decide ((f.length : Int) < (a.length : Int)) || !((K63.actL a f).any fun n => n != 0)
def spDoes (T : Addr) : Sp := fun vs H Q _ => ∃ (u v : V) (a f : List Int), vs = [u, v] ∧ IT a u H ∧ IT f v H ∧ ActOk a f ∧ ∀ H', Le T none H H' → Q (.bl (doesKill a f)) H'
theorem sc44 : FnScope ["one", "entries"] ["one", "entries"] (defScope (top 44)) := ⟨rfl, rfl, rfl, by decide +kernel, rfl, by decide +kernel, by decide +kernel⟩
theorem ok_does {f : Addr} {fd : FuncData} (F : FnP K "does_kill_in" 44 f fd) (G : G0 mg) (fZ : Fk P w K mg base "is_zero_in" 1 ["entries"] (spZero T)) (fA : Fk P w K mg base "killed_in" 2 ["one", "entries"] (spAct T)) : FnOk P w K mg base CX0 3 f fd ["one", "entries"] (spDoes T) := by
  refine F.ok sc44 (fun vs H Q E h => ?_) (fun cdv A outer s H vs Q E hr h => ?_)
  · obtain ⟨u, v, a, f, rfl, _⟩ := h
    rfl
  · obtain ⟨u, v, a, f, rfl, hu, hv, ok, q⟩ := h
    refine ⟨_, PSs.nox pb_w, ?_⟩
    refine hb_ret (P := T) (Z := none) (Le.refl0 H) (ev_orB (ev_gt (ev_lenI G.len (ev_v 0 rfl hu)) (ev_lenI G.len (ev_v 1 rfl hv))) fun hx => ev_call1 (R := is (.bl (!((K63.actL a f).any fun n => n != 0)))) fZ (hr.mono (by decide))
      (ev_call2 (R := IT (K63.actL a f)) fA hr (ev_v (R := IT a) 0 rfl hu) (ev_v (R := IT f) 1 rfl hv) fun x y H1 l hx hy Q q => ⟨x, y, a, f, rfl, hx, hy, ok, ?_, fun z H2 l2 r => q z H2 l2 r⟩) fun u H1 l hu Q q => ⟨u, _, rfl, hu, fun H2 l2 => q _ H2 l2 rfl⟩) fun z H8 l12 _ r => ?_
    · have := of_decide_eq_false ‹decide _ = false›
      omega
    · rw [show z = .bl (doesKill a f) from r]
      exact q H8 l12
/-! ### killers_in -/
structure RowsOk (f : List Int) (d : Nat) : Prop where
  f1 : 1 ≤ f.length
  f2 : f.length ≤ 100
  d4 : d ≤ 4
  bf : ∀ i, 2 * (K63.lv f i).natAbs ≤ 2 ^ 54
theorem RowsOk.big {f : List Int} {d : Nat} (o : RowsOk f d) : ∀ i, Big (K63.lv f i) := fun i => by
  have := o.bf i
  refine big_of (b := 54) ?_ (by decide)
  have h : (0 : Nat) < 2 ^ 54 := Nat.pow_pos (by decide)
  omega
theorem RowsOk.ker {f : List Int} {d : Nat} (o : RowsOk f d) : KerOk (K63.levelRows f d) (d + 1) := by
  have mem : ∀ r ∈ K63.levelRows f d, ∃ i, r = K63.rowAt f d i := fun r hr => by
    unfold K63.levelRows at hr
    obtain ⟨i, _, rfl⟩ := List.mem_map.mp hr
    exact ⟨i, rfl⟩
  refine ⟨fun r hr => ?_, by omega, by have := o.d4; omega, ?_, fun r hr i => ?_⟩
  · obtain ⟨i, rfl⟩ := mem r hr
    exact K63.tab_len _ _
  · unfold K63.levelRows
    rw [List.length_map, List.length_range]
    have := o.f2
    omega
  · obtain ⟨j, rfl⟩ := mem r hr
    by_cases hi : i < d + 1
    · unfold K63.rowAt
      rw [K63.tab_g hi]
      exact o.bf _
    · unfold K63.rowAt
      rw [K63.tab_ge (by omega)]
      exact Nat.zero_le _
def spKils (T : Addr) : Sp := fun vs H Q _ => ∃ (v : V) (f : List Int) (d : Nat), vs = [v, .int d] ∧ IT f v H ∧ GxR.TabG H T ∧ RowsOk f d ∧ ∀ z H', Le T none H H' → LT none (K63.kernel (K63.levelRows f d) (d + 1)) z H' → Q z H'
theorem sc45 : FnScope ["entries", "degree", "row"] ["entries", "degree"] (defScope (top 45)) := ⟨rfl, rfl, rfl, by decide +kernel, rfl, by decide +kernel, by decide +kernel⟩
theorem lt_rs {rs : List (List Int)} {v : V} {H : Hp} (h : LT none rs v H) : RS rs v H := by
  obtain ⟨a, vs, e, z, hx, hl, hi⟩ := h
  exact ⟨a, vs, e, z, hx, hl, fun i x q => sv_tv (hi i x q)⟩
theorem ker_few {rs : List (List Int)} {w : Nat} (o : KerOk rs w) : (K63.kernel rs w).length ≤ 1000 := by
  have W := K63.ker_way o.len o.big o.size
  obtain ⟨ls, E⟩ := K63.ech_is W.onesW
  have h1 : (K63.kernel rs w).length ≤ (K63.onesOf (K63.ech rs w) w).length := E.count
  have h2 := W.onesLen
  have h3 := o.big
  omega
theorem ok_kils {f : Addr} {fd : FuncData} (F : FnP K "killers_in" 45 f fd) (G : G0 mg) (fK : Fk P w K mg base "kernel_rows" 4 ["rows", "width"] (spKer T)) (fR : Fk P w K mg base "level_rows" 3 ["entries", "degree"] (spRows T)) : FnOk P w K mg base CX0 5 f fd ["entries", "degree"] (spKils T) := by
  refine F.ok sc45 (fun vs H Q E h => ?_) (fun cdv A outer s H vs Q E hr h => ?_)
  · obtain ⟨v, f, d, rfl, _⟩ := h
    rfl
  · obtain ⟨v, f, d, rfl, hv, ht, ok, q⟩ := h
    have okd := ok.d4
    have few := ker_few ok.ker
    refine ⟨_, PSs.nox pb_w, ?_⟩
    refine hb_ret (P := T) (Z := none) (Le.refl0 H) (ev_lc sc45.nd (pi_list pe_w) (blkOk_by (own := [("row", 2)]) (N := ["entries", "degree", "row"]) (sc := defScope (top 45)) (by decide +kernel)) (fun _ _ _ _ _ => pg_name (i := 2) sc45.nd rfl (Or.inl rfl))
      (lc_objs (R := fun i => IT ((K63.kernel (K63.levelRows f d) (d + 1)).getD i [])) (en_list (ev_call2 (R := RL (K63.kernel (K63.levelRows f d) (d + 1))) fK hr (ev_call2 (R := LT none (K63.levelRows f d)) fR (hr.mono (by decide)) (ev_v (R := IT f) 0 rfl hv) (ev_i 1 rfl) fun x y H1 l hx hy Q q => ⟨x, f, d, by rw [show y = .int (d : Int) from hy], hx, ok.f1, ok.f2, by omega, ok.big, fun z H2 l2 r => q z H2 l2 r⟩) (ev_add (ev_i 1 rfl) ev_c)
        fun x y H1 l hx hy Q q => ⟨x, _, d + 1, by rw [show y = .int ((d : Int) + 1) from hy]; rfl, lt_rs hx, l.tab ht, ok.ker, fun z H2 l2 r => q z H2 l2 r⟩)) (bd_name (K := K)) (by omega) (fun _ _ _ _ => rfl) (fun i hi => ob_tv) fun i u H1 hi l hu => eb_of fun _ _ _ _ _ => ?_)) fun z H8 l12 _ r => q z H8 l12 (lg_of r)
    exact ev_tuple G.tuple (ev_v (R := IL none ((K63.kernel (K63.levelRows f d) (d + 1)).getD i [])) 2 rfl hu)
end
end K6

/-! ## D8 -/
set_option Elab.async false
set_option linter.all false
set_option maxRecDepth 100000
set_option maxHeartbeats 4000000
/-! The two classes with slots: made, asked, read. -/
namespace K6
open PySem PySem.Spec PyProof.Rows L2 SlX
/-- an instance of the class at C whose one slot holds a tuple of these integers -/
def Box (C : Addr) (ns : List Int) : Rp := fun v H => ∃ a dx e, v = .ref a ∧ Slt H a C dx [some e] ∧ IT ns e H
theorem slt_up {P : Addr} {Z : Option Addr} {H H' : Hp} {a C dx : Addr} {e : V} (l : Le P Z H H') (h : Slt H a C dx [some e]) : Slt H' a C dx [some e] := by
  have nz : ∀ b o, H b = some o → (∀ xs, o ≠ .lst xs) → Z ≠ some b := fun b o e n z => by
    obtain ⟨x, y, t, q⟩ := (l.dice b z).1
    rw [q] at e
    exact n _ (Option.some.inj e).symm
  rcases h with ⟨_, h⟩ | ⟨h1, h2⟩
  · cases h
  · exact .inr ⟨l.keep a _ (nz a _ h1 fun xs q => by unfold SlO at q; cases q) nt_ext h1, l.keep dx _ (nz dx _ h2 fun xs q => by cases q) nt_xd h2⟩
instance mono_box {P : Addr} {Z : Option Addr} {C : Addr} {ns : List Int} : Mono P Z (Box C ns) := ⟨fun _ _ _ l ⟨a, dx, e, ev, h, h2⟩ => ⟨a, dx, e, ev, slt_up l h, mono_tv.up _ _ _ l h2⟩⟩
instance ob_box {C : Addr} {ns : List Int} : Ob (Box C ns) where
  ref := fun v H ⟨a, _, _, e, _⟩ n => by
    rw [e]
    exact ref_int
  off := fun v H D vs o ⟨a, dx, e, ev, h, h2⟩ hD hv => by
    refine ⟨a, dx, e, ev, ?_, ob_tv.off e H D vs o h2 hD hv⟩
    rcases h with ⟨_, h⟩ | ⟨q1, q2⟩
    · cases h
    · exact .inr ⟨by rw [upd_ne (ne_of q1 hD fun q => by unfold SlO at q; cases q)]; exact q1, by rw [upd_ne (ne_of q2 hD fun q => by cases q)]; exact q2⟩
/-- what __init__ promises -/
def spBox (T C : Addr) (Arg : List Int → Rp) : Sp := fun vs H Q _ => ∃ (x dx : Addr) (v : V) (ns : List Int), vs = [.ref x, v] ∧ H x = some (.ins C dx []) ∧ Arg ns v H ∧ ∀ e H1, Le T none H H1 → IT ns e H1 → Q .non (slH H1 x C dx [some e])
/-- a class that is made from one argument -/
structure Made (P : Program) (w : World) (K : PySem.W.Frag) (mg : Str → Option Value) (base : Heap) (T : Addr) (x : Str) (C : Addr) (k : Nat) (Arg : List Int → Rp) : Prop where
  glob : mg x = some (.ref C)
  ex : ∃ (f : Addr) (fd : FuncData) (ps : List Str), Mk K C f ∧ FnOk P w K mg base CX0 k f fd ps (spBox T C Arg) ∧ Binds K fd ps []
section
variable {X : Cx} {P : Addr} {Z : Option Addr} {σ : L2.St} {H B : Hp} {R Ra : Rp} {a e : Expr} {pos p : Pos} {x : Str} {C : Addr} {ns : List Int}
theorem ev_make {k : Nat} {Arg : List Int → Rp} (M : Made X.prog X.w X.K X.mg X.base P x C k Arg) (hr : Room (k + 1) X.A) [m : Mono P Z Ra] (ha : EvE X P Z a σ H Ra) (hA : ∀ v H1, Ra v H1 → ∀ H2, Le P none H1 H2 → Arg ns v H2) (hg : Gl X x := by rfl)
    (he : starEach [a] X.env = (false, eval a X.env) :: starEach [] X.env := by rfl) (hdb : (x == ("__debug__" : Str)) = false := by decide) : EvE X P Z (.Call (.Name x p) [a] [] pos) σ H (Box C ns) := by
  obtain ⟨f, fd, ps, mk, F, hb⟩ := M.ex
  refine ev_of (pe_make mk F hr hg M.glob hb .nil pass0 pa_w hdb he rfl) fun H1 l Q q => (ea_cons ha ea_nil he) H1 l _ fun vs H2 l2 hv => ?_
  obtain ⟨v, r, rfl, hv, er⟩ := hv
  have er' : r = [] := er
  subst er'
  intro y dx hy hdx hne
  have l02 : Le P none H2 (upd (upd H2 dx (.own y)) y (.ins C dx [])) := ((Le.refl0 H2).mut hdx).mut hy
  refine ⟨y, dx, v, ns, rfl, upd_same, hA v H2 hv _ l02, fun e H3 l3 he => ⟨rfl, ?_⟩⟩
  have l4 : Le P none H2 (slH H3 y C dx [some e]) := ((l02.trans l3).mut hdx).mut hy
  obtain ⟨t, e1, ht⟩ := he
  have ny : t ≠ y := fun z => by
    have h9 := l3.keep y _ (fun q => by cases q) nt_ins upd_same
    rw [← z, ht] at h9
    cases h9
  have nd : t ≠ dx := fun z => by
    have h8 : (upd (upd H2 dx (.own y)) y (.ins C dx [])) dx = some (.own y) := by rw [upd_ne hne, upd_same]
    have h9 := l3.keep dx _ (fun q => by cases q) nt_own h8
    rw [← z, ht] at h9
    cases h9
  refine q _ _ (l2.trans (l4.weak fun d z => (l2.dice d z).2)) ⟨y, dx, e, rfl, slH_slt hne, t, e1, ?_⟩
  rw [slH_ne ny nd]
  exact ht
/-- what a class with one slot is asked -/
structure Cls (K : PySem.W.Frag) (C : Addr) (f : Str) : Prop where
  cls : SCls K C
  slot : ∃ p, Slot1 K C f p 0
  isi : SIsi K C
  self : PySem.W.kitOne K (.ref C) (.ref C) = some true
  tup : PySem.W.kitOne K (.type "tuple") (.ref C) = some false
/-- e.f -/
theorem ev_slot {f : Str} (c : Cls X.K C f) (he : EvE X P Z e σ H (Box C ns)) (hb : attributeBase e f X.env (eval e X.env) = eval e X.env := by rfl) : EvE X P Z (.Attribute e f pos) σ H (IT ns) :=
  ev_of (pe_sl pe_w hb) fun H1 l Q q => he H1 l _ fun v H2 l2 ⟨a, dx, w, ev, hs, hi⟩ => by
    obtain ⟨p, sl⟩ := c.slot
    exact ⟨a, C, dx, p, _, 0, w, ev, hs, c.cls, sl, rfl, q w H2 l2 hi⟩
/-- isinstance(x, C) -/
theorem ev_isBox {f y : Str} {py p1 : Pos} [m : Mono P Z Ra] (c : Cls X.K C f) (hm : X.mg "isinstance" = none) (hc : X.mg y = some (.ref C)) (ha : EvE X P Z a σ H (Box C ns)) (hg : Gl X "isinstance" := by rfl) (hy : Gl X y := by rfl) (hyd : (y == ("__debug__" : Str)) = false := by decide)
    (he : starEach [a, .Name y py] X.env = (false, eval a X.env) :: starEach [.Name y py] X.env := by rfl) (he2 : starEach [.Name y py] X.env = (false, eval (.Name y py) X.env) :: starEach [] X.env := by rfl) (hpl : (backTo pos (starEach [.Name y py] X.env)).any (·.1) = false := by rfl) :
    EvE X P Z (.Call (.Name "isinstance" p1) [a, .Name y py] [] pos) σ H (is (.bl true)) :=
  ev_bf2 (call_isiSl (.ref C)) hm (by decide +kernel) ha (ev_g (v := .ref C) hc rfl hy hyd) (fun u v H1 l ⟨b, dx, w, ev, hs, hi⟩ hv Q q => ⟨b, C, dx, _, .ref C, true, by rw [ev, show v = .ref C from hv], rfl, fun w r => r, hs, c.cls, c.isi, c.self, q _ H1 l.right rfl⟩) hg (by decide) (by decide) he he2 hpl
theorem ev_isTup {f y : Str} {py p1 : Pos} (c : Cls X.K C f) (hm : X.mg "isinstance" = none) (hc : X.mg y = some (.ref C)) (ha : EvE X P Z a σ H (IT ns)) (hg : Gl X "isinstance" := by rfl) (hy : Gl X y := by rfl) (hyd : (y == ("__debug__" : Str)) = false := by decide)
    (he : starEach [a, .Name y py] X.env = (false, eval a X.env) :: starEach [.Name y py] X.env := by rfl) (he2 : starEach [.Name y py] X.env = (false, eval (.Name y py) X.env) :: starEach [] X.env := by rfl) (hpl : (backTo pos (starEach [.Name y py] X.env)).any (·.1) = false := by rfl) :
    EvE X P Z (.Call (.Name "isinstance" p1) [a, .Name y py] [] pos) σ H (is (.bl false)) :=
  ev_bf2 call_isi hm (by decide +kernel) ha (ev_g (v := .ref C) hc rfl hy hyd) (fun u v H1 l ⟨b, ev, hb⟩ hv Q q => by
    have e2 : v = .ref C := hv
    subst ev e2
    exact ⟨_, _, _, _, false, rfl, .own C, .base (.tup hb), c.tup, q _ H1 l.right rfl⟩) hg (by decide) (by decide) he he2 hpl
/-- x.f = e, the object just made -/
theorem hb_init {f y : Str} {py px : Pos} {rest : List Stmt} {D : Ends} {x dx : Addr} (hB : Le P none B H) (hx : H x = some (.ins C dx [])) (c : Cls X.K C f) (he : EvE X P none e σ H (IT ns)) (ho : EvE X P none (.Name y py) σ H (is (.ref x)))
    (next : ∀ v H1, Le P none B H1 → Le P none H H1 → IT ns v H1 → wB X rest D σ (slH H1 x C dx [some v]))
    (hs : swapsWith e (some (.Attribute (.Name y py) f px)) pos.line X.env = pure false := by rfl) : wB X (.Assign [.Attribute (.Name y py) f px] e pos :: rest) D σ H :=
  hb_cons (ps_sl pe_w pe_w hs) (he H hB.right _ fun v H1 l1 hv => ho H1 l1 _ fun u H2 l2 hu => by
    have eu : u = .ref x := hu
    subst eu
    obtain ⟨p, sl⟩ := c.slot
    exact ⟨x, C, dx, p, [], 0, rfl, .inl ⟨(l1.trans l2).keep x _ (fun q => by cases q) nt_ins hx, rfl⟩, c.cls, sl, next v H2 (hB.trans (l1.trans l2)) (l1.trans l2) (mono_tv.up _ _ _ l2 hv)⟩)
end
end K6

/-! ## D9 -/
set_option Elab.async false
set_option linter.all false
set_option maxRecDepth 100000
set_option maxHeartbeats 4000000
namespace K6
open PySem PySem.Spec PyProof.Rows L2 SlX
abbrev FnC (K : PySem.W.Frag) (x qual : Str) (i j : Nat) (f : Addr) (fd : FuncData) : Prop := FunD K x qual (defArgs (inClass (top i) j)) (defBody (inClass (top i) j)) (defScope (inClass (top i) j)) [] [] f fd
theorem FnOk.raw0 {P : Program} {w : World} {K : PySem.W.Frag} {mg : Str → Option Value} {base : Heap} {CX : CXT} {k : Nat} {f : Addr} {fd : FuncData} {ps : List Str} {sp : Sp} (F : FnOk P w K mg base CX k f fd ps sp) (hb : Binds K fd ps []) : FnR P w K mg base CX k f sp :=
  (F.raw hb .nil).imp fun vs H Q E h => by rw [List.append_nil]; exact h
/-- a property of the class at C -/
structure Pr1 (P : Program) (w : World) (K : PySem.W.Frag) (mg : Str → Option Value) (base : Heap) (C : Addr) (f : Str) (k : Nat) (sp : Sp) : Prop where
  ex : ∃ p g, PySem.W.findIn K (.ref C) f = some (some (.ref p)) ∧ PySem.W.specialIn K (.ref p) "__get__" = some (some (.builtin "property.__get__")) ∧ PySem.W.takesIn K (.ref p) = some true ∧ (∃ rest, PySem.W.recIn K p "property" = some (.ref g :: rest)) ∧ FnR P w K mg base CX0 k g sp
section
variable {X : Cx} {P : Addr} {Z : Option Addr} {σ : L2.St} {H B : Hp} {R Ra Rb : Rp} {a b e : Expr} {pos p : Pos} {x f : Str} {C : Addr} {ns ms : List Int}
theorem ev_prop {k : Nat} {sp : Sp} {fs : Str} (p : Pr1 X.prog X.w X.K X.mg X.base C f k sp) (c : Cls X.K C fs) (hr : Room (k + 1) X.A) (he : EvE X P Z e σ H (Box C ns)) (h : ∀ u H1, Le P Z H H1 → Box C ns u H1 → ∀ Q : VK, (∀ v H2, Le P Z H1 H2 → R v H2 → Q v H2) → sp [u] H1 Q E0)
    (hb : attributeBase e f X.env (eval e X.env) = eval e X.env := by rfl) : EvE X P Z (.Attribute e f pos) σ H R := by
  obtain ⟨p, g, h1, h2, h3, h4, F⟩ := p.ex
  refine ev_of (pe_propSl (E := E0) pe_w c.cls h1 h2 h3 h4 F hr (fun H s e s' z => z) hb) fun H1 l Q q => he H1 l _ fun v H2 l2 hv => ?_
  obtain ⟨a, dx, w, ev, hs, hi⟩ := id hv
  exact ⟨a, dx, _, ev, hs, by rw [← ev]; exact h v H2 (l.trans l2) hv Q fun v H3 l3 r => q v H3 (l2.trans l3) r⟩
end
/-- the getters -/
def spEnt (T C : Addr) : Sp := fun vs H Q _ => ∃ (v : V) (ns : List Int), vs = [v] ∧ Box C ns v H ∧ ∀ e H', Le T none H H' → IT ns e H' → Q e H'
def spDeg (T C : Addr) : Sp := fun vs H Q _ => ∃ (v : V) (ns : List Int), vs = [v] ∧ Box C ns v H ∧ 1 ≤ ns.length ∧ ∀ H', Le T none H H' → Q (.int ((ns.length - 1 : Nat) : Int)) H'
def spLen (T C : Addr) : Sp := fun vs H Q _ => ∃ (v : V) (ns : List Int), vs = [v] ∧ Box C ns v H ∧ ∀ H', Le T none H H' → Q (.int (ns.length : Int)) H'
def spEq (T C : Addr) : Sp := fun vs H Q _ => ∃ (u v : V) (ns ms : List Int), vs = [u, v] ∧ Box C ns u H ∧ Box C ms v H ∧ ∀ H', Le T none H H' → Q (.bl (ns == ms)) H'
def spMul (T C : Addr) : Sp := fun vs H Q _ => ∃ (u v : V) (ns ms : List Int), vs = [u, v] ∧ Box C ns u H ∧ Box C ms v H ∧ 1 ≤ ns.length ∧ 1 ≤ ms.length ∧ ns.length ≤ 10 ∧ ms.length ≤ 10 ∧ (∀ i j, CMulW (K63.g ns i) (K63.g ms j)) ∧ ∀ z H', Le T none H H' → Box C (K63.mulL ns ms) z H' → Q z H'
def spFormOf (T C : Addr) : Sp := fun vs H Q _ => ∃ (v : V) (ns : List Int), vs = [v] ∧ IT ns v H ∧ ∀ z H', Le T none H H' → Box C ns z H' → Q z H'
def spReqF (T C : Addr) : Sp := fun vs H Q _ => ∃ (v : V) (ns : List Int), vs = [v] ∧ Box C ns v H ∧ ∀ H', Le T none H H' → Q .non H'
/-- what Form(..) takes -/
def ArgF (CT : Addr) (ns : List Int) : Rp := fun v H => Box CT ns v H ∨ (IT ns v H ∧ Sh ns ∧ 1 ≤ ns.length ∧ ns.length ≤ 41)
section
variable {P : Program} {w : World} {K : PySem.W.Frag} {mg : Str → Option Value} {base : Heap} {T CT CF : Addr}
theorem ok_told {f : Addr} {fd : FuncData} (F : FnC K "__init__" "Told.__init__" 34 1 f fd) (c : Cls K CT "own_row") : FnOk P w K mg base CX0 1 f fd ["self", "row"] (spBox T CT fun ns => IT ns) := by
  have sc : FnScope ["self", "row"] ["self", "row"] (defScope (inClass (top 34) 1)) := ⟨rfl, rfl, rfl, by decide +kernel, rfl, by decide +kernel, by decide +kernel⟩
  refine F.ok sc (fun vs H Q E h => ?_) (fun cdv A outer s H vs Q E hr h => ?_)
  · obtain ⟨x, dx, v, ns, rfl, _⟩ := h
    rfl
  · obtain ⟨x, dx, v, ns, rfl, hx, hv, q⟩ := h
    refine ⟨_, PSs.nox pb_w, ?_⟩
    exact hb_init (P := T) (Le.refl0 H) hx c (ev_v (R := IT ns) 1 rfl hv) (ev_i 0 rfl) fun v H1 l _ r => hb_nil (q v H1 l r)
theorem ok_form {f : Addr} {fd : FuncData} (F : FnC K "__init__" "Form.__init__" 36 1 f fd) (G : G0 mg) (ct : Cls K CT "own_row") (c : Cls K CF "own_entries") (hT : mg "Told" = some (.ref CT)) (fE : Fk P w K mg base "are_entries" 4 ["value"] (spEntr T)) : FnOk P w K mg base CX0 5 f fd ["self", "entries"] (spBox T CF (ArgF CT)) := by
  have sc : FnScope ["self", "entries"] ["self", "entries"] (defScope (inClass (top 36) 1)) := ⟨rfl, rfl, rfl, by decide +kernel, rfl, by decide +kernel, by decide +kernel⟩
  refine F.ok sc (fun vs H Q E h => ?_) (fun cdv A outer s H vs Q E hr h => ?_)
  · obtain ⟨x, dx, v, ns, rfl, _⟩ := h
    rfl
  · obtain ⟨x, dx, v, ns, rfl, hx, hv, q⟩ := h
    refine ⟨_, PSs.nox pb_w, ?_⟩
    rcases hv with hv | ⟨hv, hs, h1, h2⟩
    · refine hb_ifn (P := T) (Z := none) (x := false) (Le.refl0 H) (et_and (x := false) (y := false) (et_not (x := true) (et_e (ev_isBox (Ra := Box CT ns) ct G.isinstance hT (ev_v 1 rfl hv)))) fun z => by cases z) rfl fun H1 l _ => ?_
      have hv1 := mono_box.up _ _ _ l hv
      exact hb_init (P := T) l (l.keep x _ (fun q => by cases q) nt_ins hx) c (ev_if (x := true) (et_e (ev_isBox (Ra := Box CT ns) ct G.isinstance hT (ev_v 1 rfl hv1))) (fun _ => ev_slot ct (ev_v (R := Box CT ns) 1 rfl hv1)) fun z => by cases z) (ev_i 0 rfl) fun v H1 l _ r => hb_nil (q v H1 l r)
    · refine hb_ifn (P := T) (Z := none) (x := false) (Le.refl0 H) (et_and (x := true) (y := false) (et_not (x := false) (et_e (ev_isTup ct G.isinstance hT (ev_v 1 rfl hv)))) fun z => et_not (x := true) (et_e (ev_call1 fE hr (ev_v (R := IT ns) 1 rfl hv) fun u H1 l hu Q q => ⟨u, ns, rfl, hu, hs, h1, h2, fun H2 l2 => q _ H2 l2 rfl⟩))) rfl fun H1 l _ => ?_
      have hv1 := mono_tv.up _ _ _ l hv
      exact hb_init (P := T) l (l.keep x _ (fun q => by cases q) nt_ins hx) c (ev_if (x := false) (et_e (ev_isTup ct G.isinstance hT (ev_v 1 rfl hv1))) (fun z => by cases z) fun _ => ev_v (R := IT ns) 1 rfl hv1) (ev_i 0 rfl) fun v H1 l _ r => hb_nil (q v H1 l r)
theorem ok_ent {f : Addr} {fd : FuncData} (F : FnC K "entries" "Form.entries" 36 4 f fd) (c : Cls K CF "own_entries") : FnOk P w K mg base CX0 1 f fd ["self"] (spEnt T CF) := by
  have sc : FnScope ["self"] ["self"] (defScope (inClass (top 36) 4)) := ⟨rfl, rfl, rfl, by decide +kernel, rfl, by decide +kernel, by decide +kernel⟩
  refine F.ok sc (fun vs H Q E h => ?_) (fun cdv A outer s H vs Q E hr h => ?_)
  · obtain ⟨v, ns, rfl, _⟩ := h
    rfl
  · obtain ⟨v, ns, rfl, hv, q⟩ := h
    refine ⟨_, PSs.nox pb_w, ?_⟩
    exact hb_ret (P := T) (Z := none) (Le.refl0 H) (ev_slot c (ev_v (R := Box CF ns) 0 rfl hv)) fun z H8 l _ r => q z H8 l r
theorem ok_deg {f : Addr} {fd : FuncData} (F : FnC K "degree" "Form.degree" 36 5 f fd) (G : G0 mg) (c : Cls K CF "own_entries") : FnOk P w K mg base CX0 1 f fd ["self"] (spDeg T CF) := by
  have sc : FnScope ["self"] ["self"] (defScope (inClass (top 36) 5)) := ⟨rfl, rfl, rfl, by decide +kernel, rfl, by decide +kernel, by decide +kernel⟩
  refine F.ok sc (fun vs H Q E h => ?_) (fun cdv A outer s H vs Q E hr h => ?_)
  · obtain ⟨v, ns, rfl, _⟩ := h
    rfl
  · obtain ⟨v, ns, rfl, hv, h1, q⟩ := h
    refine ⟨_, PSs.nox pb_w, ?_⟩
    refine hb_ret (P := T) (Z := none) (Le.refl0 H) (ev_sub (ev_lenI G.len (ev_slot c (ev_v (R := Box CF ns) 0 rfl hv))) ev_c) fun z H8 l _ r => ?_
    rw [show z = .int ((ns.length : Int) - 1) from r, show ((ns.length : Int) - 1) = ((ns.length - 1 : Nat) : Int) by omega]
    exact q H8 l
theorem ok_len {f : Addr} {fd : FuncData} (F : FnC K "__len__" "Form.__len__" 36 19 f fd) (G : G0 mg) (c : Cls K CF "own_entries") : FnOk P w K mg base CX0 1 f fd ["self"] (spLen T CF) := by
  have sc : FnScope ["self"] ["self"] (defScope (inClass (top 36) 19)) := ⟨rfl, rfl, rfl, by decide +kernel, rfl, by decide +kernel, by decide +kernel⟩
  refine F.ok sc (fun vs H Q E h => ?_) (fun cdv A outer s H vs Q E hr h => ?_)
  · obtain ⟨v, ns, rfl, _⟩ := h
    rfl
  · obtain ⟨v, ns, rfl, hv, q⟩ := h
    refine ⟨_, PSs.nox pb_w, ?_⟩
    refine hb_ret (P := T) (Z := none) (Le.refl0 H) (ev_lenI G.len (ev_slot c (ev_v (R := Box CF ns) 0 rfl hv))) fun z H8 l _ r => ?_
    rw [show z = .int (ns.length : Int) from r]
    exact q H8 l
theorem ok_eq {f : Addr} {fd : FuncData} (F : FnC K "__eq__" "Form.__eq__" 36 18 f fd) (G : G0 mg) (c : Cls K CF "own_entries") (hF : mg "Form" = some (.ref CF)) : FnOk P w K mg base CX0 1 f fd ["self", "other"] (spEq T CF) := by
  have sc : FnScope ["self", "other"] ["self", "other"] (defScope (inClass (top 36) 18)) := ⟨rfl, rfl, rfl, by decide +kernel, rfl, by decide +kernel, by decide +kernel⟩
  refine F.ok sc (fun vs H Q E h => ?_) (fun cdv A outer s H vs Q E hr h => ?_)
  · obtain ⟨u, v, ns, ms, rfl, _⟩ := h
    rfl
  · obtain ⟨u, v, ns, ms, rfl, hu, hv, q⟩ := h
    refine ⟨_, PSs.nox pb_w, ?_⟩
    refine hb_ret (P := T) (Z := none) (Le.refl0 H) (ev_andB (x := true) (ev_isBox (Ra := Box CF ms) c G.isinstance hF (ev_v 1 rfl hv)) fun _ => ev_eqT hr (ev_slot c (ev_v (R := Box CF ns) 0 rfl hu)) (ev_slot c (ev_v (R := Box CF ms) 1 rfl hv))) fun z H8 l _ r => ?_
    rw [show z = .bl (true && (ns == ms)) from r]
    exact q H8 l
/-! ### form_of, require_form -/
theorem sc37 : FnScope ["entries"] ["entries"] (defScope (top 37)) := ⟨rfl, rfl, rfl, by decide +kernel, rfl, by decide +kernel, by decide +kernel⟩
theorem ok_formOf {f : Addr} {fd : FuncData} (F : FnP K "form_of" 37 f fd) (mT : Made P w K mg base T "Told" CT 1 fun ns => IT ns) (mF : Made P w K mg base T "Form" CF 5 (ArgF CT)) : FnOk P w K mg base CX0 7 f fd ["entries"] (spFormOf T CF) := by
  refine F.ok sc37 (fun vs H Q E h => ?_) (fun cdv A outer s H vs Q E hr h => ?_)
  · obtain ⟨v, ns, rfl, _⟩ := h
    rfl
  · obtain ⟨v, ns, rfl, hv, q⟩ := h
    refine ⟨_, PSs.nox pb_w, ?_⟩
    exact hb_ret (P := T) (Z := none) (Le.refl0 H) (ev_make mF hr (ev_make (ns := ns) mT (hr.mono (by decide)) (ev_v (R := IT ns) 0 rfl hv) fun v H1 h H2 l => mono_tv.up _ _ _ l h) fun v H1 h H2 l => .inl (mono_box.up _ _ _ l h)) fun z H8 l _ r => q z H8 l r
theorem sc38 : FnScope ["value"] ["value"] (defScope (top 38)) := ⟨rfl, rfl, rfl, by decide +kernel, rfl, by decide +kernel, by decide +kernel⟩
theorem ok_reqF {f : Addr} {fd : FuncData} (F : FnP K "require_form" 38 f fd) (G : G0 mg) (c : Cls K CF "own_entries") (hF : mg "Form" = some (.ref CF)) : FnOk P w K mg base CX0 1 f fd ["value"] (spReqF T CF) := by
  refine F.ok sc38 (fun vs H Q E h => ?_) (fun cdv A outer s H vs Q E hr h => ?_)
  · obtain ⟨v, ns, rfl, _⟩ := h
    rfl
  · obtain ⟨v, ns, rfl, hv, q⟩ := h
    refine ⟨_, PSs.nox pb_w, ?_⟩
    exact hb_ifn (P := T) (Z := none) (Le.refl0 H) (et_not (x := true) (et_e (ev_isBox (Ra := Box CF ns) c G.isinstance hF (ev_v 0 rfl hv)))) rfl fun H1 l _ => hb_nil (q H1 l)
end
end K6

/-! ## D10 -/
set_option Elab.async false
set_option linter.all false
set_option maxRecDepth 100000
set_option maxHeartbeats 4000000
namespace K6
open PySem PySem.Spec PyProof.Rows L2 SlX
/-- what the program's own code knows of Form -/
structure Fm (P : Program) (w : World) (K : PySem.W.Frag) (mg : Str → Option Value) (base : Heap) (T CF : Addr) : Prop where
  cls : Cls K CF "own_entries"
  glob : mg "Form" = some (.ref CF)
  ent : Pr1 P w K mg base CF "entries" 1 (spEnt T CF)
  deg : Pr1 P w K mg base CF "degree" 1 (spDeg T CF)
section
variable {X : Cx} {P : Addr} {Z : Option Addr} {σ : L2.St} {H B : Hp} {a b e : Expr} {pos p : Pos} {x f : Str} {C : Addr} {ns ms : List Int}
theorem ev_ent (F : Fm X.prog X.w X.K X.mg X.base P C) (hr : Room 2 X.A) (he : EvE X P Z e σ H (Box C ns)) (hb : attributeBase e "entries" X.env (eval e X.env) = eval e X.env := by rfl) : EvE X P Z (.Attribute e "entries" pos) σ H (IT ns) :=
  ev_prop F.ent F.cls hr he (fun u H1 l hu Q q => ⟨u, ns, rfl, hu, fun e H2 l2 r => q e H2 (l2.weak fun d z => (l.dice d z).2) r⟩) hb
theorem ev_deg (F : Fm X.prog X.w X.K X.mg X.base P C) (hr : Room 2 X.A) (h1 : 1 ≤ ns.length) (he : EvE X P Z e σ H (Box C ns)) (hb : attributeBase e "degree" X.env (eval e X.env) = eval e X.env := by rfl) : EvE X P Z (.Attribute e "degree" pos) σ H (is (.int ((ns.length - 1 : Nat) : Int))) :=
  ev_prop F.deg F.cls hr he (fun u H1 l hu Q q => ⟨u, ns, rfl, hu, h1, fun H2 l2 => q _ H2 (l2.weak fun d z => (l.dice d z).2) rfl⟩) hb
theorem ev_min2 {i j : Int} (hc : X.calm = true) (hm : X.mg "min" = none) (ha : EvE X P Z a σ H (is (.int i))) (hb : EvE X P Z b σ H (is (.int j))) (hg : Gl X "min" := by rfl)
    (he : starEach [a, b] X.env = (false, eval a X.env) :: starEach [b] X.env := by rfl) (he2 : starEach [b] X.env = (false, eval b X.env) :: starEach [] X.env := by rfl) (hpl : (backTo pos (starEach [b] X.env)).any (·.1) = false := by rfl) : EvE X P Z (.Call (.Name "min" p) [a, b] [] pos) σ H (is (.int (if j < i then j else i))) :=
  ev_bf2 (call_min2 hc) hm (by decide +kernel) ha hb (fun x y H3 l hx hy Q q => by
    have e1 : x = .int i := hx
    have e2 : y = .int j := hy
    subst e1 e2
    exact ⟨i, j, rfl, q _ H3 l.right rfl⟩) hg (by decide) (by decide) he he2 hpl
theorem ev_max2 {i j : Int} (hc : X.calm = true) (hm : X.mg "max" = none) (ha : EvE X P Z a σ H (is (.int i))) (hb : EvE X P Z b σ H (is (.int j))) (hg : Gl X "max" := by rfl)
    (he : starEach [a, b] X.env = (false, eval a X.env) :: starEach [b] X.env := by rfl) (he2 : starEach [b] X.env = (false, eval b X.env) :: starEach [] X.env := by rfl) (hpl : (backTo pos (starEach [b] X.env)).any (·.1) = false := by rfl) : EvE X P Z (.Call (.Name "max" p) [a, b] [] pos) σ H (is (.int (if j > i then j else i))) :=
  ev_bf2 (call_max2 hc) hm (by decide +kernel) ha hb (fun x y H3 l hx hy Q q => by
    have e1 : x = .int i := hx
    have e2 : y = .int j := hy
    subst e1 e2
    exact ⟨i, j, rfl, q _ H3 l.right rfl⟩) hg (by decide) (by decide) he he2 hpl
theorem ev_abs {i : Int} (hm : X.mg "abs" = none) (ha : EvE X P Z a σ H (is (.int i))) (hg : Gl X "abs" := by rfl) (he : starEach [a] X.env = (false, eval a X.env) :: starEach [] X.env := by rfl) : EvE X P Z (.Call (.Name "abs" p) [a] [] pos) σ H (is (.int (if i < 0 then -i else i))) :=
  ev_bf1 call_abs hm (by decide +kernel) ha (fun x H3 l hx Q q => by
    have e1 : x = .int i := hx
    subst e1
    exact ⟨i, rfl, q _ H3 l.right rfl⟩) hg (by decide) (by decide) he
theorem ev_intI {i : Int} (hm : X.mg "int" = none) (ha : EvE X P Z a σ H (is (.int i))) (hg : Gl X "int" := by rfl) (he : starEach [a] X.env = (false, eval a X.env) :: starEach [] X.env := by rfl) : EvE X P Z (.Call (.Name "int" p) [a] [] pos) σ H (is (.int i)) :=
  ev_bt1 call_int1 hm (by decide +kernel) ha (fun x H3 l hx Q q => by
    have e1 : x = .int i := hx
    subst e1
    exact .inl ⟨i, rfl, q _ H3 l.right rfl⟩) hg (by decide) (by decide) he
theorem ev_intB {i : Bool} (hm : X.mg "int" = none) (ha : EvE X P Z a σ H (is (.bl i))) (hg : Gl X "int" := by rfl) (he : starEach [a] X.env = (false, eval a X.env) :: starEach [] X.env := by rfl) : EvE X P Z (.Call (.Name "int" p) [a] [] pos) σ H (is (.int (if i then 1 else 0))) :=
  ev_bt1 call_int1 hm (by decide +kernel) ha (fun x H3 l hx Q q => by
    have e1 : x = .bl i := hx
    subst e1
    exact .inr ⟨i, rfl, q _ H3 l.right rfl⟩) hg (by decide) (by decide) he
/-- Form * Form -/
theorem op_mulOwn {C g : Addr} {n : Nat} {sp : Sp} (hs : PySem.W.findIn X.K (.ref C) "__mul__" = some (some (.ref g))) (hf : PySem.W.isFn X.K (.ref g) = true) (hself : PySem.W.selfFirst X.K C = true) (F : FnR X.prog X.w X.K X.mg X.base CX0 n g sp) (hr : Room n X.A) :
    OpR X (binaryOp .Mult) (fun x y H Q => ∃ a dx vs b dy ws, x = .ref a ∧ y = .ref b ∧ Slt H a C dx vs ∧ Slt H b C dy ws ∧ sp [x, y] H Q E0) := by
  intro pins s σ H x y v u Q I rx ry h
  obtain ⟨a, dx, vs, b, dy, ws, rfl, rfl, ha, hb, q⟩ := h
  cases (show v = Value.ref a from rx)
  cases (show u = Value.ref b from ry)
  obtain ⟨sl, od, _, J, _⟩ := slt_inst I ha
  obtain ⟨sl', od', _, J', _⟩ := slt_inst I hb
  obtain ⟨m, hF⟩ := I.fr
  refine PySem.W.binop_K (op := .Mult) hF I.ok.mod.kin J J'.type hself hs hf ?_
  refine wpAny_mono (wpAny_call (run_fnR (us := [.ref a, .ref b]) (vs := [.ref a, .ref b]) F hr pass0 I (.cons rfl (.cons rfl .nil)) q)) (fun w s' z => ?_) fun _ _ x => x
  obtain ⟨z', H', I', rz, qz⟩ := z
  exact cmpback rz ⟨z', H', I', rz, qz⟩
end
section
variable {P : Program} {w : World} {K : PySem.W.Frag} {mg : Str → Option Value} {base : Heap} {T CT CF : Addr}
theorem ok_mul {f : Addr} {fd : FuncData} (F : FnC K "__mul__" "Form.__mul__" 36 17 f fd) (G : G0 mg) (M : Fm P w K mg base T CF) (fJ : Fk P w K mg base "joined_entries" 1 ["one", "other"] (spJoin T)) (fF : Fk P w K mg base "form_of" 7 ["entries"] (spFormOf T CF)) : FnOk P w K mg base CX0 8 f fd ["self", "other"] (spMul T CF) := by
  have sc : FnScope ["self", "other", "entry"] ["self", "other"] (defScope (inClass (top 36) 17)) := ⟨rfl, rfl, rfl, by decide +kernel, rfl, by decide +kernel, by decide +kernel⟩
  refine F.ok sc (fun vs H Q E h => ?_) (fun cdv A outer s H vs Q E hr h => ?_)
  · obtain ⟨u, v, ns, ms, rfl, _⟩ := h
    rfl
  · obtain ⟨u, v, ns, ms, rfl, hu, hv, h1, h2, h3, h4, hm, q⟩ := h
    obtain ⟨t, hg⟩ := G.most
    refine ⟨_, PSs.nox pb_w, ?_⟩
    refine hb_if (P := T) (Z := none) (x := true) (Le.refl0 H) (et_e (ev_isBox (Ra := Box CF ms) M.cls G.isinstance M.glob (ev_v 1 rfl hv))) (fun _ H1 l1 _ => ?_) fun z => by cases z
    have bu := fun H1 (l : Le T none H H1) => mono_box.up (P := T) (Z := none) _ _ _ l hu
    have bv := fun H1 (l : Le T none H H1) => mono_box.up (P := T) (Z := none) _ _ _ l hv
    refine hb_ifn l1 (et_c (ev_gt (ev_add (ev_deg M (hr.mono (by decide)) h1 (ev_v (R := Box CF ns) 0 rfl (bu H1 l1))) (ev_deg M (hr.mono (by decide)) h2 (ev_v (R := Box CF ms) 1 rfl (bv H1 l1)))) (ev_g hg ⟨t, rfl⟩))) (decide_eq_false (by omega)) fun H2 l2 _ => ?_
    exact hb_ret l2 (ev_call1 (R := Box CF (K63.mulL ns ms)) fF hr (ev_call2 (R := IT (K63.mulL ns ms)) fJ (hr.mono (by decide)) (ev_slot M.cls (ev_v (R := Box CF ns) 0 rfl (bu H2 l2))) (ev_slot M.cls (ev_v (R := Box CF ms) 1 rfl (bv H2 l2))) fun x y H3 l hx hy Q q => ⟨x, y, ns, ms, rfl, hx, hy, h1, h2, by omega, by omega, hm, fun z H4 l r => q z H4 l r⟩) fun x H3 l hx Q q => ⟨x, _, rfl, hx, fun z H4 l r => q z H4 l r⟩) fun z H8 l _ r => q z H8 l r
/-! ### level_table, does_kill, killed, killers -/
abbrev TT (rs : List (List Int)) : Rp := TG rs.length (fun i => IT (rs.getD i []))
def spTab (T CF : Addr) : Sp := fun vs H Q _ => ∃ (v : V) (f : List Int) (d : Nat), vs = [v, .int d] ∧ Box CF f v H ∧ 1 ≤ f.length ∧ f.length ≤ 100 ∧ d + 1 ≤ f.length ∧ (∀ i, Big (K63.lv f i)) ∧ ∀ z H', Le T none H H' → TT (K63.levelRows f d) z H' → Q z H'
theorem sc46 : FnScope ["form", "degree"] ["form", "degree"] (defScope (top 46)) := ⟨rfl, rfl, rfl, by decide +kernel, rfl, by decide +kernel, by decide +kernel⟩
theorem ok_tab {f : Addr} {fd : FuncData} (F : FnP K "level_table" 46 f fd) (G : G0 mg) (M : Fm P w K mg base T CF) (fQ : Fk P w K mg base "require_form" 1 ["value"] (spReqF T CF)) (fR : Fk P w K mg base "require_from" 3 ["value", "least", "most"] (spReq T)) (fL : Fk P w K mg base "level_rows" 3 ["entries", "degree"] (spRows T)) : FnOk P w K mg base CX0 4 f fd ["form", "degree"] (spTab T CF) := by
  refine F.ok sc46 (fun vs H Q E h => ?_) (fun cdv A outer s H vs Q E hr h => ?_)
  · obtain ⟨v, f, d, rfl, _⟩ := h
    rfl
  · obtain ⟨v, f, d, rfl, hv, h1, h2, hd, hb, q⟩ := h
    have bv := fun H1 (l : Le T none H H1) => mono_box.up (P := T) (Z := none) _ _ _ l hv
    refine ⟨_, PSs.nox pb_w, ?_⟩
    refine hb_expr (P := T) (Z := none) (R := is .non) (Le.refl0 H) (ev_call1 fQ (hr.mono (by decide)) (ev_v (R := Box CF f) 0 rfl hv) fun x H3 l hx Q q => ⟨x, f, rfl, hx, fun H4 l => q _ H4 l rfl⟩) fun _ H1 l1 _ _ => ?_
    refine hb_expr (R := is .non) l1 (ev_call3 fR hr (ev_i 1 rfl) ev_c (ev_deg M (hr.mono (by decide)) h1 (ev_v (R := Box CF f) 0 rfl (bv H1 l1))) fun x y z H3 l hx hy hz Q q => ⟨(d : Int), 0, ((f.length - 1 : Nat) : Int), by rw [show x = _ from hx, show y = _ from hy, show z = _ from hz], by omega, by omega, fun H4 l => q _ H4 l rfl⟩) fun _ H2 l2 _ _ => ?_
    exact hb_ret l2 (ev_tupleG G.tuple (ev_call2 (R := LT none (K63.levelRows f d)) fL hr (ev_ent M (hr.mono (by decide)) (ev_v (R := Box CF f) 0 rfl (bv H2 l2))) (ev_i 1 rfl) fun x y H3 l hx hy Q q => ⟨x, f, d, by rw [show y = .int (d : Int) from hy], hx, h1, h2, by omega, hb, fun z H4 l r => q z H4 l r⟩)) fun z H8 l _ r => q z H8 l r
def spDK (T CF : Addr) : Sp := fun vs H Q _ => ∃ (u v : V) (a f : List Int), vs = [u, v] ∧ Box CF a u H ∧ Box CF f v H ∧ ActOk a f ∧ ∀ H', Le T none H H' → Q (.bl (doesKill a f)) H'
theorem sc47 : FnScope ["one", "form"] ["one", "form"] (defScope (top 47)) := ⟨rfl, rfl, rfl, by decide +kernel, rfl, by decide +kernel, by decide +kernel⟩
theorem ok_dk {f : Addr} {fd : FuncData} (F : FnP K "does_kill" 47 f fd) (M : Fm P w K mg base T CF) (fQ : Fk P w K mg base "require_form" 1 ["value"] (spReqF T CF)) (fD : Fk P w K mg base "does_kill_in" 3 ["one", "entries"] (spDoes T)) : FnOk P w K mg base CX0 4 f fd ["one", "form"] (spDK T CF) := by
  refine F.ok sc47 (fun vs H Q E h => ?_) (fun cdv A outer s H vs Q E hr h => ?_)
  · obtain ⟨u, v, a, f, rfl, _⟩ := h
    rfl
  · obtain ⟨u, v, a, f, rfl, hu, hv, ok, q⟩ := h
    have bu := fun H1 (l : Le T none H H1) => mono_box.up (P := T) (Z := none) _ _ _ l hu
    have bv := fun H1 (l : Le T none H H1) => mono_box.up (P := T) (Z := none) _ _ _ l hv
    refine ⟨_, PSs.nox pb_w, ?_⟩
    refine hb_expr (P := T) (Z := none) (R := is .non) (Le.refl0 H) (ev_call1 fQ (hr.mono (by decide)) (ev_v (R := Box CF a) 0 rfl hu) fun x H3 l hx Q q => ⟨x, a, rfl, hx, fun H4 l => q _ H4 l rfl⟩) fun _ H1 l1 _ _ => ?_
    refine hb_expr (R := is .non) l1 (ev_call1 fQ (hr.mono (by decide)) (ev_v (R := Box CF f) 1 rfl (bv H1 l1)) fun x H3 l hx Q q => ⟨x, f, rfl, hx, fun H4 l => q _ H4 l rfl⟩) fun _ H2 l2 _ _ => ?_
    refine hb_ret l2 (ev_call2 (R := is (.bl (doesKill a f))) fD hr (ev_ent M (hr.mono (by decide)) (ev_v (R := Box CF a) 0 rfl (bu H2 l2))) (ev_ent M (hr.mono (by decide)) (ev_v (R := Box CF f) 1 rfl (bv H2 l2))) fun x y H3 l hx hy Q q => ⟨x, y, a, f, rfl, hx, hy, ok, fun H4 l => q _ H4 l rfl⟩) fun z H8 l _ r => ?_
    rw [show z = .bl (doesKill a f) from r]
    exact q H8 l
def spKd (T CF : Addr) : Sp := fun vs H Q _ => ∃ (u v : V) (a f : List Int), vs = [u, v] ∧ Box CF a u H ∧ Box CF f v H ∧ ActOk a f ∧ a.length ≤ f.length ∧ ∀ z H', Le T none H H' → Box CF (K63.actL a f) z H' → Q z H'
theorem sc48 : FnScope ["one", "form"] ["one", "form"] (defScope (top 48)) := ⟨rfl, rfl, rfl, by decide +kernel, rfl, by decide +kernel, by decide +kernel⟩
theorem ok_kd {f : Addr} {fd : FuncData} (F : FnP K "killed" 48 f fd) (M : Fm P w K mg base T CF) (fQ : Fk P w K mg base "require_form" 1 ["value"] (spReqF T CF)) (fA : Fk P w K mg base "killed_in" 2 ["one", "entries"] (spAct T)) (fF : Fk P w K mg base "form_of" 7 ["entries"] (spFormOf T CF)) : FnOk P w K mg base CX0 8 f fd ["one", "form"] (spKd T CF) := by
  refine F.ok sc48 (fun vs H Q E h => ?_) (fun cdv A outer s H vs Q E hr h => ?_)
  · obtain ⟨u, v, a, f, rfl, _⟩ := h
    rfl
  · obtain ⟨u, v, a, f, rfl, hu, hv, ok, hle, q⟩ := h
    have bu := fun H1 (l : Le T none H H1) => mono_box.up (P := T) (Z := none) _ _ _ l hu
    have bv := fun H1 (l : Le T none H H1) => mono_box.up (P := T) (Z := none) _ _ _ l hv
    have a1 := ok.a1
    refine ⟨_, PSs.nox pb_w, ?_⟩
    refine hb_expr (P := T) (Z := none) (R := is .non) (Le.refl0 H) (ev_call1 fQ (hr.mono (by decide)) (ev_v (R := Box CF a) 0 rfl hu) fun x H3 l hx Q q => ⟨x, a, rfl, hx, fun H4 l => q _ H4 l rfl⟩) fun _ H1 l1 _ _ => ?_
    refine hb_expr (R := is .non) l1 (ev_call1 fQ (hr.mono (by decide)) (ev_v (R := Box CF f) 1 rfl (bv H1 l1)) fun x H3 l hx Q q => ⟨x, f, rfl, hx, fun H4 l => q _ H4 l rfl⟩) fun _ H2 l2 _ _ => ?_
    refine hb_ifn l2 (et_c (ev_gt (ev_deg M (hr.mono (by decide)) a1 (ev_v (R := Box CF a) 0 rfl (bu H2 l2))) (ev_deg M (hr.mono (by decide)) (by omega) (ev_v (R := Box CF f) 1 rfl (bv H2 l2))))) (decide_eq_false (by omega)) fun H3 l3 _ => ?_
    exact hb_ret l3 (ev_call1 (R := Box CF (K63.actL a f)) fF hr (ev_call2 (R := IT (K63.actL a f)) fA (hr.mono (by decide)) (ev_ent M (hr.mono (by decide)) (ev_v (R := Box CF a) 0 rfl (bu H3 l3))) (ev_ent M (hr.mono (by decide)) (ev_v (R := Box CF f) 1 rfl (bv H3 l3))) fun x y H3 l hx hy Q q => ⟨x, y, a, f, rfl, hx, hy, ok, hle, fun z H4 l r => q z H4 l r⟩) fun x H3 l hx Q q => ⟨x, _, rfl, hx, fun z H4 l r => q z H4 l r⟩) fun z H8 l _ r => q z H8 l r
/-- a tuple of forms -/
abbrev TF (C : Addr) (rs : List (List Int)) : Rp := TG rs.length (fun i => Box C (rs.getD i []))
def spKs (T CF : Addr) : Sp := fun vs H Q _ => ∃ (v : V) (f : List Int) (d : Nat), vs = [v, .int d] ∧ Box CF f v H ∧ GxR.TabG H T ∧ RowsOk f d ∧ d ≤ f.length ∧ ∀ z H', Le T none H H' → TF CF (K63.kernel (K63.levelRows f d) (d + 1)) z H' → Q z H'
theorem sc49 : FnScope ["form", "degree", "row"] ["form", "degree"] (defScope (top 49)) := ⟨rfl, rfl, rfl, by decide +kernel, rfl, by decide +kernel, by decide +kernel⟩
theorem ok_ks {f : Addr} {fd : FuncData} (F : FnP K "killers" 49 f fd) (G : G0 mg) (M : Fm P w K mg base T CF) (fQ : Fk P w K mg base "require_form" 1 ["value"] (spReqF T CF)) (fR : Fk P w K mg base "require_from" 3 ["value", "least", "most"] (spReq T)) (fK : Fk P w K mg base "killers_in" 5 ["entries", "degree"] (spKils T)) (fF : Fk P w K mg base "form_of" 7 ["entries"] (spFormOf T CF)) : FnOk P w K mg base CX0 8 f fd ["form", "degree"] (spKs T CF) := by
  refine F.ok sc49 (fun vs H Q E h => ?_) (fun cdv A outer s H vs Q E hr h => ?_)
  · obtain ⟨v, f, d, rfl, _⟩ := h
    rfl
  · obtain ⟨v, f, d, rfl, hv, ht, ok, hd, q⟩ := h
    have bv := fun H1 (l : Le T none H H1) => mono_box.up (P := T) (Z := none) _ _ _ l hv
    obtain ⟨t, hg⟩ := G.most
    have f1 := ok.f1
    have d4 := ok.d4
    have few := ker_few ok.ker
    refine ⟨_, PSs.nox pb_w, ?_⟩
    refine hb_expr (P := T) (Z := none) (R := is .non) (Le.refl0 H) (ev_call1 fQ (hr.mono (by decide)) (ev_v (R := Box CF f) 0 rfl hv) fun x H3 l hx Q q => ⟨x, f, rfl, hx, fun H4 l => q _ H4 l rfl⟩) fun _ H1 l1 _ _ => ?_
    refine hb_expr (R := is .non) l1 (ev_call3 fR (hr.mono (by decide)) (ev_i 1 rfl) ev_c (Ev.imp (ev_min2 rfl G.min (ev_add (ev_deg M (hr.mono (by decide)) f1 (ev_v (R := Box CF f) 0 rfl (bv H1 l1))) ev_c) (ev_g hg ⟨t, rfl⟩)) fun v H1 l h => ⟨_, h, by split <;> omega⟩) (Rc := fun v _ => ∃ n : Int, v = .int n ∧ (d : Int) ≤ n) (m3 := ⟨fun _ _ _ _ h => h⟩) fun x y z H3 l hx hy hz Q q => ?_) fun _ H2 l2 _ _ => ?_
    · obtain ⟨n, rfl, hn⟩ := hz
      exact ⟨(d : Int), 0, n, by rw [show x = _ from hx, show y = _ from hy], by omega, hn, fun H4 l => q _ H4 l rfl⟩
    · refine hb_ret l2 (ev_tupleG (n := (K63.kernel (K63.levelRows f d) (d + 1)).length) (Rn := fun i => Box CF ((K63.kernel (K63.levelRows f d) (d + 1)).getD i [])) G.tuple (Ev.imp (ev_lc sc49.nd (pi_list pe_w) (blkOk_by (own := [("row", 2)]) (N := ["form", "degree", "row"]) (sc := defScope (top 49)) (by decide +kernel)) (fun _ _ _ _ _ => pg_name (i := 2) sc49.nd rfl (Or.inl rfl))
        (lc_objs (R := fun i => Box CF ((K63.kernel (K63.levelRows f d) (d + 1)).getD i [])) (en_list (ev_call2 (R := LT none (K63.kernel (K63.levelRows f d) (d + 1))) fK (hr.mono (by decide)) (ev_ent M (hr.mono (by decide)) (ev_v (R := Box CF f) 0 rfl (bv H2 l2))) (ev_i 1 rfl) fun x y H1 l hx hy Q q => ⟨x, f, d, by rw [show y = .int (d : Int) from hy], hx, (l2.trans l).tab ht, ok, fun z H2 l2 r => q z H2 l2 r⟩)) (bd_name (K := K)) (by omega) (fun _ _ _ _ => rfl) (fun i hi => ob_box) fun i u H1 hi l hu => eb_of fun _ _ _ _ _ => ?_)) fun v H1 l h => lg_of h)) fun z H8 l _ r => q z H8 l r
      exact ev_call1 fF hr (ev_v (R := IT ((K63.kernel (K63.levelRows f d) (d + 1)).getD i [])) 2 rfl hu) fun x H3 l hx Q q => ⟨x, _, rfl, hx, fun z H4 l r => q z H4 l r⟩
end
end K6

/-! ## D11 -/
set_option Elab.async false
set_option linter.all false
set_option maxRecDepth 100000
set_option maxHeartbeats 4000000
namespace K6
open PySem PySem.Spec PyProof.Rows L2 SlX
section
variable {P : Program} {w : World} {K : PySem.W.Frag} {mg : Str → Option Value} {base : Heap} {T : Addr}
/-! ### _law_gcd, _law_shared -/
def spLGcd (T : Addr) : Sp := fun vs H Q _ => ∃ a b : Int, vs = [.int a, .int b] ∧ ∀ H', Le T none H H' → Q (.int (K63.gcd2 a b)) H'
theorem sc54 : FnScope ["_law_one", "_law_other"] ["_law_one", "_law_other"] (defScope (top 54)) := ⟨rfl, rfl, rfl, by decide +kernel, rfl, by decide +kernel, by decide +kernel⟩
theorem abs_eq (a : Int) : (if a < 0 then -a else a) = (a.natAbs : Int) := by
  split <;> omega
theorem hb_while {X : Cx} {P : Addr} {Z : Option Addr} {σ : L2.St} {H : Hp} {c : Expr} {body rest : List Stmt} {D : Ends} {pos : Pos} (Pv : Nat → L2.St → Hp → Prop) (m : Nat) (h0 : Pv m σ H) (b : Nat → L2.St → Bool) (hc : ∀ m σ' H', Pv m σ' H' → ∃ B, Le P Z B H' ∧ EvT X P Z c σ' H' (b m σ'))
    (hs : ∀ m σ' H' H2, Pv m σ' H' → Le P Z H' H2 → b m σ' = true → wB X body { D with nx := fun σ3 H3 => ∃ m', m' < m ∧ Pv m' σ3 H3, ct := fun σ3 H3 => ∃ m', m' < m ∧ Pv m' σ3 H3, bk := wB X rest D } σ' H2) (hd : ∀ m σ' H' H2, Pv m σ' H' → Le P Z H' H2 → b m σ' = false → wB X rest D σ' H2)
    (hp : PassesOwn (model X.prog X.w) X.A X.env X.xe := by exact PassesOwn.never) : wB X (.While c body [] pos :: rest) D σ H :=
  hb_cons (ps_while hp pt_w pb_w) ⟨Pv, ⟨m, h0⟩, fun m σ' H' p => by
    obtain ⟨B, l, hcv⟩ := hc m σ' H' p
    refine hcv H' l.right _ fun H2 l2 => ?_
    cases e : b m σ' with
    | true => exact iteT ⟨_, fun _ _ q => q, hs m σ' H' H2 p l2 e⟩
    | false => exact iteF (hd m σ' H' H2 p l2 e)⟩
theorem ok_lgcd {f : Addr} {fd : FuncData} (F : FnP K "_law_gcd" 54 f fd) (G : G0 mg) : FnOk P w K mg base CX0 1 f fd ["_law_one", "_law_other"] (spLGcd T) := by
  refine F.ok sc54 (fun vs H Q E h => ?_) (fun cdv A outer s H vs Q E hr h => ?_)
  · obtain ⟨a, b, rfl, _⟩ := h
    rfl
  · obtain ⟨a, b, rfl, q⟩ := h
    refine ⟨_, PSs.nox pb_w, ?_⟩
    refine hb_par (P := T) (Z := none) 0 1 (Le.refl0 H) (ea_cons (ev_abs G.abs (ev_i 0 rfl)) (ea_cons (ev_abs G.abs (ev_i 1 rfl)) ea_nil)) sc54.nd fun vs H1 l1 _ r => ?_
    obtain ⟨x, r1, rfl, hx, y, r2, rfl, hy, e⟩ := r
    have ex : x = .int (a.natAbs : Int) := by rw [show x = _ from hx, abs_eq]
    have ey : y = .int (b.natAbs : Int) := by rw [show y = _ from hy, abs_eq]
    have e' : r2 = [] := e
    subst ex ey e'
    refine ⟨_, _, rfl, ?_⟩
    refine hb_while (P := T) (Z := none) (fun m σ' H' => Le T none H H' ∧ ∃ x : Nat, σ' = [some (.int (x : Int)), some (.int (m : Int))] ∧ Nat.gcd x m = Nat.gcd a.natAbs b.natAbs) b.natAbs ⟨l1, a.natAbs, rfl, rfl⟩ (fun m _ => decide (0 < m)) (fun m σ' H' p => ?_) (fun m σ' H' H2 p l2 e => ?_) fun m σ' H' H2 p l2 e => ?_
    · obtain ⟨lb, x, rfl, _⟩ := p
      exact ⟨H, lb, Et.is (et_c (ev_gt (ev_i 1 rfl) ev_c)) (by rw [Bool.eq_iff_iff, decide_eq_true_iff, decide_eq_true_iff]; omega)⟩
    · obtain ⟨lb, x, rfl, hg⟩ := p
      have hm := of_decide_eq_true e
      refine hb_par 0 1 (lb.trans l2) (ea_cons (ev_i 1 rfl) (ea_cons (ev_mod (ev_intI G.int (ev_i 0 rfl)) (ev_i 1 rfl) (by omega)) ea_nil)) sc54.nd fun vs H3 l3 _ r => ?_
      obtain ⟨u, r1, rfl, hu, v, r2, rfl, hv, e⟩ := r
      have eu : u = .int (m : Int) := hu
      have ev : v = .int ((x % m : Nat) : Int) := by rw [show v = _ from hv, Int.natCast_emod]
      have e' : r2 = [] := e
      subst eu ev e'
      refine ⟨_, _, rfl, hb_nil ⟨x % m, Nat.mod_lt x hm, l3, m, rfl, ?_⟩⟩
      rw [← hg, Nat.gcd_comm, ← Nat.gcd_rec, Nat.gcd_comm]
    · obtain ⟨lb, x, rfl, hg⟩ := p
      have hm : m = 0 := by have := of_decide_eq_false e; omega
      subst hm
      refine hb_ret (lb.trans l2) (ev_i 0 rfl) fun z H8 l _ r => ?_
      rw [show z = .int (x : Int) from r, show (x : Int) = K63.gcd2 a b by unfold K63.gcd2; rw [← hg, Nat.gcd_zero_right]]
      exact q H8 l
def spLSh (T : Addr) : Sp := fun vs H Q _ => ∃ (v : V) (ns : List Int), vs = [v] ∧ SV (ns.map V.int) v H ∧ ∀ H', Le T none H H' → Q (.int (K63.shared ns)) H'
theorem sc55 : FnScope ["_law_numbers", "_law_found", "_law_number"] ["_law_numbers"] (defScope (top 55)) := ⟨rfl, rfl, rfl, by decide +kernel, rfl, by decide +kernel, by decide +kernel⟩
theorem ok_lsh {f : Addr} {fd : FuncData} (F : FnP K "_law_shared" 55 f fd) (fG : Fk P w K mg base "_law_gcd" 1 ["_law_one", "_law_other"] (spLGcd T)) : FnOk P w K mg base CX0 2 f fd ["_law_numbers"] (spLSh T) := by
  refine F.ok sc55 (fun vs H Q E h => ?_) (fun cdv A outer s H vs Q E hr h => ?_)
  · obtain ⟨v, ns, rfl, _⟩ := h
    rfl
  · obtain ⟨v, ns, rfl, hv, q⟩ := h
    refine ⟨_, PSs.nox pb_w, ?_⟩
    refine hb_set (P := T) (Z := none) 1 (Le.refl0 H) ev_c sc55.nd fun u H1 l1 _ r => ?_
    have e : u = .int 0 := r
    subst e
    obtain ⟨a, rfl, hv⟩ := hv
    rcases hv with hv | hv
    · refine hb_forN (fun i σ' H' => ∃ x, σ' = [some (.ref a), some (.int ((ns.take i).foldl K63.gcd2 0)), x]) (pi_list pe_w) (pg_name (i := 2) sc55.nd rfl (Or.inl rfl)) l1 (en_list (ev_v (R := LG none ns.length fun i => is (.int (K63.g ns i))) 0 rfl (mono_lg.up _ _ _ l1 (il_lg ⟨a, rfl, (fun z => by cases z), hv⟩)))) (bd_name (K := K))
        (fun H2 _ => ⟨none, rfl⟩) (fun i u σ' H' H2 hi _ _ p l3 hu => ?_) fun σ' H' l2 _ p => ?_
      · obtain ⟨x, rfl⟩ := p
        have eu : u = .int (K63.g ns i) := hu
        subst eu
        refine hb_set 1 l3.right (R := is (.int (K63.gcd2 ((ns.take i).foldl K63.gcd2 0) (K63.g ns i)))) (ev_call2 fG hr (ev_i 1 rfl) (ev_i 2 rfl) fun x y H3 l hx hy Q q => ⟨_, _, by rw [show x = _ from hx, show y = _ from hy], fun H4 l => q _ H4 l rfl⟩) sc55.nd fun u H3 _ l4 r => hb_nil ⟨l4, some (.int (K63.g ns i)), ?_⟩
        have e : u = .int (K63.gcd2 ((ns.take i).foldl K63.gcd2 0) (K63.g ns i)) := r
        rw [take_foldl _ _ _ hi, e]
        rfl
      · obtain ⟨x, rfl⟩ := p
        refine hb_ret l2 (ev_i 1 rfl) fun u H3 l3 _ r => ?_
        rw [show u = .int ((ns.take ns.length).foldl K63.gcd2 0) from r, List.take_length]
        exact q H3 l3
    · refine hb_forN (fun i σ' H' => ∃ x, σ' = [some (.ref a), some (.int ((ns.take i).foldl K63.gcd2 0)), x]) (pi_tup pe_w) (pg_name (i := 2) sc55.nd rfl (Or.inl rfl)) l1 (en_tup (ev_v (R := TG ns.length fun i => is (.int (K63.g ns i))) 0 rfl (mono_tg.up _ _ _ l1 (it_tg ⟨a, rfl, hv⟩)))) (bd_name (K := K))
        (fun H2 _ => ⟨none, rfl⟩) (fun i u σ' H' H2 hi _ _ p l3 hu => ?_) fun σ' H' l2 _ p => ?_
      · obtain ⟨x, rfl⟩ := p
        have eu : u = .int (K63.g ns i) := hu
        subst eu
        refine hb_set 1 l3.right (R := is (.int (K63.gcd2 ((ns.take i).foldl K63.gcd2 0) (K63.g ns i)))) (ev_call2 fG hr (ev_i 1 rfl) (ev_i 2 rfl) fun x y H3 l hx hy Q q => ⟨_, _, by rw [show x = _ from hx, show y = _ from hy], fun H4 l => q _ H4 l rfl⟩) sc55.nd fun u H3 _ l4 r => hb_nil ⟨l4, some (.int (K63.g ns i)), ?_⟩
        have e : u = .int (K63.gcd2 ((ns.take i).foldl K63.gcd2 0) (K63.g ns i)) := r
        rw [take_foldl _ _ _ hi, e]
        rfl
      · obtain ⟨x, rfl⟩ := p
        refine hb_ret l2 (ev_i 1 rfl) fun u H3 l3 _ r => ?_
        rw [show u = .int ((ns.take ns.length).foldl K63.gcd2 0) from r, List.take_length]
        exact q H3 l3
/-! ### _law_plus, _law_scaled -/
def spPlus (T : Addr) : Sp := fun vs H Q _ => ∃ (u v : V) (a b : List Int), vs = [u, v] ∧ IT a u H ∧ IT b v H ∧ a.length = b.length ∧ a.length ≤ 100 ∧ ∀ z H', Le T none H H' → IT (K63.tab a.length fun i => K63.g a i + K63.g b i) z H' → Q z H'
theorem sc56 : FnScope ["_law_one", "_law_other", "_law_first", "_law_second"] ["_law_one", "_law_other"] (defScope (top 56)) := ⟨rfl, rfl, rfl, by decide +kernel, rfl, by decide +kernel, by decide +kernel⟩
theorem ok_plus {f : Addr} {fd : FuncData} (F : FnP K "_law_plus" 56 f fd) (G : G0 mg) : FnOk P w K mg base CX0 1 f fd ["_law_one", "_law_other"] (spPlus T) := by
  refine F.ok sc56 (fun vs H Q E h => ?_) (fun cdv A outer s H vs Q E hr h => ?_)
  · obtain ⟨u, v, a, b, rfl, _⟩ := h
    rfl
  · obtain ⟨u, v, a, b, rfl, hu, hv, hl, h2, q⟩ := h
    refine ⟨_, PSs.nox pb_w, ?_⟩
    refine hb_ret (P := T) (Z := none) (Le.refl0 H) (ev_tuple G.tuple (ev_lc sc56.nd (RZ.pi_zipA rfl G.zip pa_w) (blkOk_by (own := [("_law_first", 2), ("_law_second", 3)]) (N := ["_law_one", "_law_other", "_law_first", "_law_second"]) (sc := defScope (top 56)) (by decide +kernel)) (fun _ _ _ _ _ => pg_pair (i := 2) (j := 3) sc56.nd rfl rfl (Or.inl rfl) (Or.inl rfl))
      (lc_vals (en_zipT (n := a.length) (R := fun i => is (.int (K63.g a i))) (S := fun i => is (.int (K63.g b i))) (Ev.imp (R := IT a) (ev_v 0 rfl hu) fun v H1 l h => it_tg h) (Ev.imp (R := IT b) (ev_v 1 rfl hv) fun v H1 l h => tg_of hl.symm (fun _ _ => rfl) h)) (bd_pair (K := K)) (by omega) (fun _ _ _ _ => rfl) (fun i => .int (K63.g a i + K63.g b i)) fun i u H1 hi l hu => eb_of fun _ _ _ _ _ => ?_))) fun z H3 l4 _ r => q z H3 l4 ?_
    · obtain ⟨u1, u2⟩ := u
      have e1 : u1 = .int (K63.g a i) := hu.1
      have e2 : u2 = .int (K63.g b i) := hu.2
      subst e1 e2
      exact ev_add (ev_i 2 rfl) (ev_i 3 rfl)
    · rw [map_tab] at r
      exact r
def spScal (T : Addr) : Sp := fun vs H Q _ => ∃ (u : V) (a : List Int) (c : Int), vs = [u, .int c] ∧ IT a u H ∧ a.length ≤ 100 ∧ (∀ i, CMulW c (K63.g a i)) ∧ ∀ z H', Le T none H H' → IT (K63.tab a.length fun i => c * K63.g a i) z H' → Q z H'
theorem sc57 : FnScope ["_law_form_here", "_law_factor", "_law_entry"] ["_law_form_here", "_law_factor"] (defScope (top 57)) := ⟨rfl, rfl, rfl, by decide +kernel, rfl, by decide +kernel, by decide +kernel⟩
theorem ok_scal {f : Addr} {fd : FuncData} (F : FnP K "_law_scaled" 57 f fd) (G : G0 mg) : FnOk P w K mg base CX0 1 f fd ["_law_form_here", "_law_factor"] (spScal T) := by
  refine F.ok sc57 (fun vs H Q E h => ?_) (fun cdv A outer s H vs Q E hr h => ?_)
  · obtain ⟨u, a, c, rfl, _⟩ := h
    rfl
  · obtain ⟨u, a, c, rfl, hu, hl, hm, q⟩ := h
    refine ⟨_, PSs.nox pb_w, ?_⟩
    refine hb_ret (P := T) (Z := none) (Le.refl0 H) (ev_tuple G.tuple (ev_lc sc57.nd (pi_tup pe_w) (blkOk_by (own := [("_law_entry", 2)]) (N := ["_law_form_here", "_law_factor", "_law_entry"]) (sc := defScope (top 57)) (by decide +kernel)) (fun _ _ _ _ _ => pg_name (i := 2) sc57.nd rfl (Or.inl rfl))
      (lc_vals (en_tup (n := a.length) (R := fun i => is (.int (K63.g a i))) (Ev.imp (R := IT a) (ev_v 0 rfl hu) fun v H1 l h => it_tg h)) (bd_name (K := K)) (by omega) (fun _ _ _ _ => rfl) (fun i => .int (c * K63.g a i)) fun i u H1 hi l hu => eb_of fun _ _ _ _ _ => ?_))) fun z H3 l4 _ r => q z H3 l4 ?_
    · have e1 : u = .int (K63.g a i) := hu
      subst e1
      exact ev_mul (ev_i 1 rfl) (ev_i 2 rfl) (hm i)
    · rw [map_tab] at r
      exact r
/-! ### _law_by_x, _law_by_y, _law_derived -/
def spByX (T : Addr) : Sp := fun vs H Q _ => ∃ (u : V) (c : List Int), vs = [u] ∧ IT c u H ∧ 1 ≤ c.length ∧ c.length ≤ 100 ∧ ∀ z H', Le T none H H' → IT (K63.byX c) z H' → Q z H'
def spByY (T : Addr) : Sp := fun vs H Q _ => ∃ (u : V) (c : List Int), vs = [u] ∧ IT c u H ∧ 1 ≤ c.length ∧ c.length ≤ 100 ∧ ∀ z H', Le T none H H' → IT (K63.byY c) z H' → Q z H'
theorem sc61 : FnScope ["_law_form_here", "_law_at", "_law_entry"] ["_law_form_here"] (defScope (top 61)) := ⟨rfl, rfl, rfl, by decide +kernel, rfl, by decide +kernel, by decide +kernel⟩
theorem sc62 : FnScope ["_law_form_here", "_law_at", "_law_entry"] ["_law_form_here"] (defScope (top 62)) := ⟨rfl, rfl, rfl, by decide +kernel, rfl, by decide +kernel, by decide +kernel⟩
theorem ok_byX {f : Addr} {fd : FuncData} (F : FnP K "_law_by_x" 61 f fd) (G : G0 mg) : FnOk P w K mg base CX0 1 f fd ["_law_form_here"] (spByX T) := by
  refine F.ok sc61 (fun vs H Q E h => ?_) (fun cdv A outer s H vs Q E hr h => ?_)
  · obtain ⟨u, c, rfl, _⟩ := h
    rfl
  · obtain ⟨u, c, rfl, hu, h1, h2, q⟩ := h
    refine ⟨_, PSs.nox pb_w, ?_⟩
    refine hb_ret (P := T) (Z := none) (Le.refl0 H) (ev_tuple G.tuple (ev_lc sc61.nd (pi_enT rfl G.enum pa_w) (blkOk_by (own := [("_law_at", 1), ("_law_entry", 2)]) (N := ["_law_form_here", "_law_at", "_law_entry"]) (sc := defScope (top 61)) (by decide +kernel)) (fun _ _ _ _ _ => pg_pair (i := 1) (j := 2) sc61.nd rfl rfl (Or.inl rfl) (Or.inl rfl))
      (lc_vals (en_enumT (n := c.length - 1) (R := fun i => is (.int (K63.g c i))) (Ev.imp (R := TV (cutV (c.map V.int) none (some (-1)))) (ev_sliceT po_none (po_some pe_w) (ev_v (R := IT c) 0 rfl hu) eo_none (eo_some (ev_neg ev_c)) (whole_not (by omega))) fun v H1 l h => by
        rw [cut_last (by omega)] at h
        exact tg_of (by rw [List.length_take]; omega) (fun i hi => g_take hi) h)) (bd_pair (K := K)) (by omega) (fun _ _ _ _ => rfl) (fun i => .int (K63.g c i * ((c.length : Int) - 1 - i))) fun i u H1 hi l hu' => eb_of fun _ _ _ _ _ => ?_))) fun z H3 l4 _ r => q z H3 l4 ?_
    · obtain ⟨u1, u2⟩ := u
      have e1 : u1 = .int (i : Int) := hu'.1
      have e2 : u2 = .int (K63.g c i) := hu'.2
      subst e1 e2
      exact ev_mulS (ev_i 2 rfl) (ev_sub (ev_sub (ev_lenI G.len (ev_v 0 rfl (mono_tv.up _ _ _ l hu))) ev_c) (ev_i 1 rfl)) (.inr ⟨by omega, by omega⟩)
    · rw [map_tab] at r
      exact r
theorem ok_byY {f : Addr} {fd : FuncData} (F : FnP K "_law_by_y" 62 f fd) (G : G0 mg) : FnOk P w K mg base CX0 1 f fd ["_law_form_here"] (spByY T) := by
  refine F.ok sc62 (fun vs H Q E h => ?_) (fun cdv A outer s H vs Q E hr h => ?_)
  · obtain ⟨u, c, rfl, _⟩ := h
    rfl
  · obtain ⟨u, c, rfl, hu, h1, h2, q⟩ := h
    refine ⟨_, PSs.nox pb_w, ?_⟩
    refine hb_ret (P := T) (Z := none) (Le.refl0 H) (ev_tuple G.tuple (ev_lc sc62.nd (pi_enT rfl G.enum pa_w) (blkOk_by (own := [("_law_at", 1), ("_law_entry", 2)]) (N := ["_law_form_here", "_law_at", "_law_entry"]) (sc := defScope (top 62)) (by decide +kernel)) (fun _ _ _ _ _ => pg_pair (i := 1) (j := 2) sc62.nd rfl rfl (Or.inl rfl) (Or.inl rfl))
      (lc_vals (en_enumT (n := c.length - 1) (R := fun i => is (.int (K63.g c (i + 1)))) (Ev.imp (R := TV (cutV (c.map V.int) (some 1) none)) (ev_sliceT (po_some pe_w) po_none (ev_v (R := IT c) 0 rfl hu) (eo_some ev_c) eo_none (whole_not1 (by omega))) fun v H1 l h => by
        rw [cut_first (by omega)] at h
        exact tg_of (by rw [List.length_drop]) (fun i hi => by rw [g_drop, Nat.add_comm]) h)) (bd_pair (K := K)) (by omega) (fun _ _ _ _ => rfl) (fun i => .int (K63.g c (i + 1) * ((i : Int) + 1))) fun i u H1 hi l hu' => eb_of fun _ _ _ _ _ => ?_))) fun z H3 l4 _ r => q z H3 l4 ?_
    · obtain ⟨u1, u2⟩ := u
      have e1 : u1 = .int (i : Int) := hu'.1
      have e2 : u2 = .int (K63.g c (i + 1)) := hu'.2
      subst e1 e2
      exact ev_mulS (ev_i 2 rfl) (ev_add (ev_i 1 rfl) ev_c) (.inr ⟨by omega, by omega⟩)
    · rw [map_tab] at r
      exact r
theorem sc63 : FnScope ["_law_form_here", "_law_one", "_law_other", "_law_turn"] ["_law_form_here", "_law_one", "_law_other"] (defScope (top 63)) := ⟨rfl, rfl, rfl, by decide +kernel, rfl, by decide +kernel, by decide +kernel⟩
def LDerP (T : Addr) (a b : Nat) (f : Nat → List Int) (i : Nat) (σ : L2.St) (H' : Hp) : Prop := ∃ w x4, σ = [some w, some (.int a), some (.int b), x4] ∧ IT (f i) w H'
theorem ok_lder {f : Addr} {fd : FuncData} (F : FnP K "_law_derived" 63 f fd) (G : G0 mg) (fX : Fk P w K mg base "_law_by_x" 1 ["_law_form_here"] (spByX T)) (fY : Fk P w K mg base "_law_by_y" 1 ["_law_form_here"] (spByY T)) : FnOk P w K mg base CX0 2 f fd ["_law_form_here", "_law_one", "_law_other"] (spDer T) := by
  refine F.ok sc63 (fun vs H Q E h => ?_) (fun cdv A outer s H vs Q E hr h => ?_)
  · obtain ⟨v, ns, a, b, rfl, _⟩ := h
    rfl
  · obtain ⟨v, ns, a, b, rfl, hv, hl, hab, q⟩ := h
    refine ⟨_, PSs.nox pb_w, ?_⟩
    refine hb_forN (P := T) (Z := none) (LDerP T a b fun i => K63.iter K63.byX i ns) (pi_range1 rfl G.range pa_w) (pg_name (i := 3) sc63.nd rfl (Or.inl rfl)) (Le.refl0 H) (es_range1 (ev_i 1 rfl) (by omega)).toN (bd_name (K := K)) (fun H2 l => ⟨v, none, rfl, mono_tv.up _ _ _ l hv⟩) (fun i t σ' H' H2 hi _ l2 h l3 ht => ?_) fun σ' H' l2 _ h => ?_
    · obtain ⟨w, x4, rfl, hw⟩ := h
      rw [Int.toNat_natCast] at hi
      have hlen := K63.iterX_len ns i
      have hw2 : IT (K63.iter K63.byX i ns) w H2 := mono_tv.up _ _ _ l3 hw
      exact hb_set 0 l2 (R := IT (K63.byX (K63.iter K63.byX i ns))) (ev_call1 fX hr (ev_v (R := IT (K63.iter K63.byX i ns)) 0 rfl hw2) fun x H3 l hx Q q => ⟨x, _, rfl, hx, by omega, by omega, fun z H4 l r => q z H4 l r⟩) sc63.nd fun z H3 l4 l5 r => hb_nil ⟨l5, z, _, rfl, r⟩
    · obtain ⟨w, x4, rfl, hw⟩ := h
      rw [Int.toNat_natCast] at hw
      have hlen0 := K63.iterX_len ns a
      refine hb_forN (LDerP T a b fun i => K63.derL ns a i) (pi_range1 rfl G.range pa_w) (pg_name (i := 3) sc63.nd rfl (Or.inl rfl)) l2 (es_range1 (ev_i 2 rfl) (by omega)).toN (bd_name (K := K)) (fun H2 l => ⟨w, x4, rfl, mono_tv.up _ _ _ l hw⟩) (fun i t σ' H' H2 hi _ l2 h l3 ht => ?_) fun σ' H' l2 _ h => ?_
      · obtain ⟨w, x4, rfl, hw⟩ := h
        rw [Int.toNat_natCast] at hi
        have hlen := K63.derL_len ns a i
        have hw2 : IT (K63.derL ns a i) w H2 := mono_tv.up _ _ _ l3 hw
        exact hb_set 0 l2 (R := IT (K63.byY (K63.derL ns a i))) (ev_call1 fY hr (ev_v (R := IT (K63.derL ns a i)) 0 rfl hw2) fun x H3 l hx Q q => ⟨x, _, rfl, hx, by omega, by omega, fun z H4 l r => q z H4 l r⟩) sc63.nd fun z H3 l4 l5 r => hb_nil ⟨l5, z, _, rfl, r⟩
      · obtain ⟨w, x4, rfl, hw⟩ := h
        rw [Int.toNat_natCast] at hw
        exact hb_ret l2 (ev_v (R := IT (K63.derL ns a b)) 0 rfl hw) fun z H8 l12 _ r => q z H8 l12 r
end
end K6

/-! ## D12 -/
set_option Elab.async false
set_option linter.all false
set_option maxRecDepth 100000
set_option maxHeartbeats 4000000
namespace K6
open PySem PySem.Spec PyProof.Rows L2 SlX
section
variable {P : Program} {w : World} {K : PySem.W.Frag} {mg : Str → Option Value} {base : Heap} {T : Addr}
/-! ### _law_product -/
theorem sc58 : FnScope ["_law_one", "_law_other", "_law_place", "_law_found", "_law_at", "_law_first", "_law_second"] ["_law_one", "_law_other"] (defScope (top 58)) := ⟨rfl, rfl, rfl, by decide +kernel, rfl, by decide +kernel, by decide +kernel⟩
def ProdP (T : Addr) (H : Hp) (u v : V) (fa : Addr) (L : Nat → List Int) (C : Nat → Option V → Option V → Prop) (i : Nat) (σ : L2.St) (H' : Hp) : Prop := Le T none H H' ∧ ∃ x2 x4 x5 x6, C i x4 x5 ∧ σ = [some u, some v, x2, some (.ref fa), x4, x5, x6] ∧ H' fa = some (.lst ((L i).map V.int))
theorem ok_prod {f : Addr} {fd : FuncData} (F : FnP K "_law_product" 58 f fd) (G : G0 mg) : FnOk P w K mg base CX0 1 f fd ["_law_one", "_law_other"] (spJoin T) := by
  refine F.ok sc58 (fun vs H Q E h => ?_) (fun cdv A outer s H vs Q E hr h => ?_)
  · obtain ⟨u, v, a, b, rfl, _⟩ := h
    rfl
  · obtain ⟨u, v, a, b, rfl, hu, hv, ha1, hb1, ha2, hb2, hm, q⟩ := h
    refine ⟨_, PSs.nox pb_w, ?_⟩
    obtain ⟨ua, rfl, hua⟩ := id hu
    obtain ⟨va, rfl, hva⟩ := id hv
    have lens : ∀ H1, Le T none H H1 → IT a (.ref ua) H1 ∧ IT b (.ref va) H1 := fun H1 l => ⟨mono_tv.up _ _ _ l hu, mono_tv.up _ _ _ l hv⟩
    refine hb_lc (P := T) (Z := none) 3 (Le.refl0 H) sc58.nd (pi_range1 rfl G.range pa_w) (blkOk_by (own := [("_law_place", 2)]) (N := ["_law_one", "_law_other", "_law_place", "_law_found", "_law_at", "_law_first", "_law_second"]) (sc := defScope (top 58)) (by decide +kernel)) (fun _ _ _ _ _ => pg_name (i := 2) sc58.nd rfl (Or.inl rfl))
      (lc_valsF (es_range1 (ev_sub (ev_add (ev_lenI G.len (ev_v 0 rfl hu)) (ev_lenI G.len (ev_v 1 rfl hv))) ev_c) (by omega)).toN (bd_name (K := K)) (by omega) (fun _ _ _ _ => rfl) (fun _ => .int 0) fun i u H1 hi l hu => eb_of fun _ _ _ _ _ => ev_c)
      (fun z H1 l1 _ r => ?_) (sw_true rfl rfl rfl rfl)
    obtain ⟨fa, rfl, zf, bf, hf⟩ := r
    rw [map_zero] at hf
    have en : ((a.length : Int) + (b.length : Int) - 1).toNat = a.length + b.length - 1 := by omega
    rw [en] at hf
    refine hb_for (B := H) (ProdP T H (.ref ua) (.ref va) fa (K63.mulOut a b) fun _ _ _ => True) (pi_enT rfl G.enum pa_w) (pg_pair (i := 4) (j := 5) sc58.nd rfl rfl (Or.inl rfl) (Or.inl rfl)) l1 (es_enumT (ev_i 0 rfl) (it_tg hu)) (bd_pair (K := K)) (fun H2 l2 l3 => ⟨l2, none, none, none, none, trivial, rfl, l3.lst zf hf⟩) (fun i σ' H' _ h => h.1) (fun i w σ' H' H2 hi h l2 hw => ?_) fun σ' H' h => ?_
    · obtain ⟨lb, x2, x4, x5, x6, _, rfl, hfi⟩ := h
      obtain ⟨w1, w2⟩ := w
      have ew : w1 = .int (i : Int) := hw.1
      have ew2 : w2 = .int (K63.g a i) := hw.2
      subst ew ew2
      refine hb_for (B := H) (ProdP T H (.ref ua) (.ref va) fa (K63.mulIn a b i (K63.mulOut a b i)) fun _ x y => x = some (.int (i : Int)) ∧ y = some (.int (K63.g a i))) (pi_enT rfl G.enum pa_w) (pg_pair (i := 2) (j := 6) sc58.nd rfl rfl (Or.inl rfl) (Or.inl rfl)) (lb.trans l2) (es_enumT (ev_i 1 rfl) (it_tg hv)) (bd_pair (K := K)) (fun H3 l3 l4 => ⟨l3, x2, _, _, x6, ⟨rfl, rfl⟩, rfl, (l2.trans l4).lst zf hfi⟩) (fun i σ' H' _ h => h.1) (fun j w σ' H' H3 hj h l5 hw => ?_) fun σ' H' h => hb_nil ?_
      · obtain ⟨lb2, y2, y4, y5, y6, ⟨rfl, rfl⟩, rfl, hfj⟩ := h
        obtain ⟨w1, w2⟩ := w
        have ew : w1 = .int (j : Int) := hw.1
        have ew2 : w2 = .int (K63.g b j) := hw.2
        subst ew ew2
        have l6 := lb2.trans l5
        have hf3 := l5.lst zf hfj
        have hlen : (K63.mulIn a b i (K63.mulOut a b i) j).length = a.length + b.length - 1 := by rw [K63.mulIn_len, K63.mulOut_len]
        have hij : i + j < (K63.mulIn a b i (K63.mulOut a b i) j).length := by rw [hlen]; omega
        have ecast : (i : Int) + (j : Int) = ((i + j : Nat) : Int) := (Int.natCast_add i j).symm
        refine hb_sub (y := .int (K63.g (K63.mulIn a b i (K63.mulOut a b i) j) (i + j) + K63.g a i * K63.g b j)) (k := i + j) l6 bf hf3 zf
          (ev_add (ev_ixL (j := i + j) (ev_v (R := IL none (K63.mulIn a b i (K63.mulOut a b i) j)) 3 rfl ⟨fa, rfl, zf, hf3⟩) (Ev.eq (ev_add (ev_i 4 rfl) (ev_i 2 rfl)) (by rw [ecast])) (gatI hij))
            (ev_mul (ev_i 5 rfl) (ev_i 6 rfl) (hm i j)))
          (ev_i 3 rfl) (Ev.eq (ev_add (ev_i 4 rfl) (ev_i 2 rfl)) (by rw [ecast])) (by rw [List.length_map]; exact hij) fun H7 l7 l8 h7 l9 => hb_nil ⟨l9, _, _, _, _, ⟨rfl, rfl⟩, rfl, ?_⟩
        rw [upd_same, K63.mulIn_succ, List.map_set]
      · obtain ⟨lb2, y2, y4, y5, y6, ⟨rfl, rfl⟩, rfl, hfj⟩ := h
        exact ⟨lb2, _, _, _, _, trivial, rfl, by rw [K63.mulOut_succ]; exact hfj⟩
    · obtain ⟨lb, x2, x4, x5, x6, _, rfl, hfi⟩ := h
      exact hb_ret lb (ev_tuple G.tuple (ev_v (R := IL none (K63.mulL a b)) 3 rfl ⟨fa, rfl, zf, hfi⟩)) fun z H8 l12 _ r => q z H8 l12 r
/-! ### _law_all_product, _law_power -/
def Lines (ls : List (List Int)) : Prop := ls.length ≤ 7 ∧ ∀ l ∈ ls, l.length = 2 ∧ ∀ i, (K63.g l i).natAbs ≤ 3
theorem Lines.mulOk {ls : List (List Int)} (h : Lines ls) {n : Nat} (hn : n < ls.length) : ∀ i j, CMulW (K63.g (K63.prodAll (ls.take n)) i) (K63.g (ls.getD n []) j) := fun i j => by
  obtain ⟨h1, h2⟩ := h
  have b1 := (K63.prodAll_ok h2 n (by omega)).2 i
  have b2 := (h2 _ (mem_getD hn)).2 j
  have b3 := K63.bd_mono (n := n) (by omega)
  exact Big.mul (big_of (b := 40) (Nat.lt_of_le_of_lt (Nat.le_trans b1 b3) (by decide)) (by decide)) (big_of (b := 2) (Nat.lt_of_le_of_lt b2 (by decide)) (by decide))
def spAll (T : Addr) : Sp := fun vs H Q _ => ∃ (v : V) (ls : List (List Int)), vs = [v] ∧ LT none ls v H ∧ Lines ls ∧ ∀ z H', Le T none H H' → IT (K63.prodAll ls) z H' → Q z H'
theorem sc59 : FnScope ["_law_forms", "_law_found", "_law_form_here"] ["_law_forms"] (defScope (top 59)) := ⟨rfl, rfl, rfl, by decide +kernel, rfl, by decide +kernel, by decide +kernel⟩
theorem ev_one {X : Cx} {P : Addr} {Z : Option Addr} {σ : L2.St} {H : Hp} {i : Int} {j k : Nat} {p p2 : Pos} : EvE X P Z (.Tuple [.Constant (.int i) j p] k p2) σ H (IT [i]) :=
  (ev_tup (ea_cons ev_c ea_nil) fun vs H1 ⟨a, r, e, _, e2⟩ => by rw [e, show r = [] from e2]; exact (by decide : 1 ≤ 100000)).imp fun v H1 l ⟨a, vs, H0, e, h, _, x, r, e2, hx, e3⟩ => ⟨a, e, by rw [h, e2, show x = .int i from hx, show r = [] from e3]; rfl⟩
theorem ok_all {f : Addr} {fd : FuncData} (F : FnP K "_law_all_product" 59 f fd) (fP : Fk P w K mg base "_law_product" 1 ["_law_one", "_law_other"] (spJoin T)) : FnOk P w K mg base CX0 2 f fd ["_law_forms"] (spAll T) := by
  refine F.ok sc59 (fun vs H Q E h => ?_) (fun cdv A outer s H vs Q E hr h => ?_)
  · obtain ⟨v, ls, rfl, _⟩ := h
    rfl
  · obtain ⟨v, ls, rfl, hv, hl, q⟩ := h
    refine ⟨_, PSs.nox pb_w, ?_⟩
    refine hb_set (P := T) (Z := none) 1 (Le.refl0 H) ev_one sc59.nd fun u H1 l1 _ r => ?_
    refine hb_forN (fun i σ' H' => ∃ u x, σ' = [some v, some u, x] ∧ IT (K63.prodAll (ls.take i)) u H') (pi_list pe_w) (pg_name (i := 2) sc59.nd rfl (Or.inl rfl)) l1 (en_list (ev_v 0 rfl (mono_lg.up _ _ _ l1 hv))) (bd_name (K := K)) (fun H2 l => ⟨u, none, rfl, mono_tv.up _ _ _ l r⟩) (fun i t σ' H' H2 hi _ l2 p l3 ht => ?_) fun σ' H' l2 _ p => ?_
    · obtain ⟨u, x, rfl, hu⟩ := p
      have ok := K63.prodAll_ok hl.2 i (by omega)
      have o2 := hl.2 _ (mem_getD hi)
      have h7 := hl.1
      exact hb_set 1 l2 (R := IT (K63.mulL (K63.prodAll (ls.take i)) (ls.getD i []))) (ev_call2 fP hr (ev_v (R := IT (K63.prodAll (ls.take i))) 1 rfl (mono_tv.up _ _ _ l3 hu)) (ev_v (R := IT (ls.getD i [])) 2 rfl ht) fun x y H3 l hx hy Q q => ⟨x, y, _, _, rfl, hx, hy, by omega, by omega, by omega, by omega, hl.mulOk hi, fun z H4 l r => q z H4 l r⟩) sc59.nd fun z H3 _ l4 r => hb_nil ⟨l4, z, _, rfl, by rw [K63.prodAll_succ ls hi]; exact r⟩
    · obtain ⟨u, x, rfl, hu⟩ := p
      rw [List.take_length] at hu
      exact hb_ret l2 (ev_v (R := IT (K63.prodAll ls)) 1 rfl hu) fun z H8 l _ r => q z H8 l r
def spPow (T : Addr) : Sp := fun vs H Q _ => ∃ (v : V) (l : List Int) (n : Nat), vs = [v, .int n] ∧ IT l v H ∧ Lines (List.replicate n l) ∧ ∀ z H', Le T none H H' → IT (K63.prodAll (List.replicate n l)) z H' → Q z H'
theorem sc60 : FnScope ["_law_pair", "_law_times", "_law_found", "_law_turn"] ["_law_pair", "_law_times"] (defScope (top 60)) := ⟨rfl, rfl, rfl, by decide +kernel, rfl, by decide +kernel, by decide +kernel⟩
theorem ok_pow {f : Addr} {fd : FuncData} (F : FnP K "_law_power" 60 f fd) (G : G0 mg) (fP : Fk P w K mg base "_law_product" 1 ["_law_one", "_law_other"] (spJoin T)) : FnOk P w K mg base CX0 2 f fd ["_law_pair", "_law_times"] (spPow T) := by
  refine F.ok sc60 (fun vs H Q E h => ?_) (fun cdv A outer s H vs Q E hr h => ?_)
  · obtain ⟨v, l, n, rfl, _⟩ := h
    rfl
  · obtain ⟨v, l, n, rfl, hv, hl, q⟩ := h
    generalize hls : List.replicate n l = ls at *
    have hlen : ls.length = n := by rw [← hls, List.length_replicate]
    have hget : ∀ i, i < n → ls.getD i [] = l := fun i hi => by rw [← hls, K63.getD_lt (by rw [List.length_replicate]; exact hi), List.getElem_replicate]
    have h7 := hl.1
    refine ⟨_, PSs.nox pb_w, ?_⟩
    refine hb_set (P := T) (Z := none) 2 (Le.refl0 H) ev_one sc60.nd fun u H1 l1 _ r => ?_
    refine hb_forN (fun i σ' H' => ∃ u x, σ' = [some v, some (.int n), some u, x] ∧ IT (K63.prodAll (ls.take i)) u H') (pi_range1 rfl G.range pa_w) (pg_name (i := 3) sc60.nd rfl (Or.inl rfl)) l1 (es_range1 (ev_i 1 rfl) (by omega)).toN (bd_name (K := K)) (fun H2 l => ⟨u, none, rfl, mono_tv.up _ _ _ l r⟩) (fun i t σ' H' H2 hi _ l2 p l3 ht => ?_) fun σ' H' l2 _ p => ?_
    · obtain ⟨u, x, rfl, hu⟩ := p
      rw [Int.toNat_natCast] at hi
      have ok := K63.prodAll_ok hl.2 i (by omega)
      have o2 := hl.2 _ (mem_getD (show i < ls.length by omega))
      have om := hl.mulOk (show i < ls.length by omega)
      rw [hget i hi] at o2 om
      exact hb_set 2 l2 (R := IT (K63.mulL (K63.prodAll (ls.take i)) l)) (ev_call2 fP hr (ev_v (R := IT (K63.prodAll (ls.take i))) 2 rfl (mono_tv.up _ _ _ l3 hu)) (ev_v (R := IT l) 0 rfl (mono_tv.up _ _ _ l2 hv)) fun x y H3 l hx hy Q q => ⟨x, y, _, _, rfl, hx, hy, by omega, by omega, by omega, by omega, om, fun z H4 l r => q z H4 l r⟩) sc60.nd fun z H3 _ l4 r => hb_nil ⟨l4, z, _, rfl, by rw [K63.prodAll_succ ls (by omega), hget i hi]; exact r⟩
    · obtain ⟨u, x, rfl, hu⟩ := p
      rw [Int.toNat_natCast, ← hlen, List.take_length] at hu
      exact hb_ret l2 (ev_v (R := IT (K63.prodAll ls)) 2 rfl hu) fun z H8 l _ r => q z H8 l r
/-! ### _law_plain, _law_line -/
def spPlain (T : Addr) : Sp := fun vs H Q _ => ∃ (v : V) (ns : List Int), vs = [v] ∧ IT ns v H ∧ ns.length ≤ 100 ∧ (∀ i, (K63.g ns i).natAbs < 2 ^ 9000) ∧ ∀ z H', Le T none H H' → IT (K63.prim ns) z H' → Q z H'
theorem sc64 : FnScope ["_law_form_here", "_law_part", "_law_first", "_law_entry"] ["_law_form_here"] (defScope (top 64)) := ⟨rfl, rfl, rfl, by decide +kernel, rfl, by decide +kernel, by decide +kernel⟩
theorem first_head {ns : List Int} (h : K63.shared ns ≠ 0) : (((List.range ns.length).filter fun i => K63.g ns i != 0).map fun i : Nat => V.int (K63.g ns i))[0]? = some (.int (K63.firstOf ns)) := by
  have fp := first_pass ns
  have e : nz ns = fun i => K63.g ns i != 0 := rfl
  rw [e] at fp
  cases hl : (List.range ns.length).filter fun i => K63.g ns i != 0 with
  | nil =>
    refine absurd (K63.shared_eq_zero.mpr fun x hx => ?_) h
    obtain ⟨i, hi, e⟩ := List.getElem_of_mem hx
    refine Classical.byContradiction fun hn => ?_
    have hm : i ∈ (List.range ns.length).filter fun i => K63.g ns i != 0 := List.mem_filter.mpr ⟨List.mem_range.mpr hi, bne_iff_ne.mpr (by rw [K63.g_get (show ns[i]? = some x by rw [List.getElem?_eq_getElem hi, e])]; exact hn)⟩
    rw [hl] at hm
    cases hm
  | cons a r =>
    rw [hl] at fp
    rw [fp]
    rfl
theorem ok_plain {f : Addr} {fd : FuncData} (F : FnP K "_law_plain" 64 f fd) (G : G0 mg) (fS : Fk P w K mg base "_law_shared" 2 ["_law_numbers"] (spLSh T)) : FnOk P w K mg base CX0 3 f fd ["_law_form_here"] (spPlain T) := by
  refine F.ok sc64 (fun vs H Q E h => ?_) (fun cdv A outer s H vs Q E hr h => ?_)
  · obtain ⟨v, ns, rfl, _⟩ := h
    rfl
  · obtain ⟨v, ns, rfl, hv, hl, hb, q⟩ := h
    refine ⟨_, PSs.nox pb_w, ?_⟩
    refine hb_set (P := T) (Z := none) 1 (Le.refl0 H) (R := is (.int (K63.shared ns))) (ev_call1 fS hr (ev_v (R := IT ns) 0 rfl hv) fun u H1 l hu Q q => ⟨u, ns, rfl, sv_tv hu, fun H2 l2 => q _ H2 l2 rfl⟩) sc64.nd fun u H1 l1 _ r => ?_
    have e : u = .int (K63.shared ns) := r
    subst e
    have hv1 := mono_tv.up _ _ _ l1 hv
    refine hb_if (x := K63.shared ns == 0) l1 (et_c (ev_eqI (ev_i 1 rfl) ev_c)) (fun hx H2 l2 l3 => ?_) fun hx H2 l2 l3 => hb_nil ?_
    · refine hb_ret l2 (ev_v (R := IT ns) 0 rfl (mono_tv.up _ _ _ l3 hv1)) fun u H3 l4 _ r => q u H3 l4 ?_
      unfold K63.prim
      rw [if_pos (beq_iff_eq.mp hx)]
      exact r
    · have hne : K63.shared ns ≠ 0 := fun z => by rw [z] at hx; exact absurd hx (by decide)
      have hv2 := mono_tv.up _ _ _ l3 hv1
      have bsh := K63.shared_lt hb (Nat.pow_pos (by decide))
      refine hb_set 2 l2 (R := is (.int (K63.firstOf ns))) (ev_ixL (j := 0) (ev_lcT sc64.nd (pi_tup pe_w) (blkOk_by (own := [("_law_entry", 3)]) (N := ["_law_form_here", "_law_part", "_law_first", "_law_entry"]) (sc := defScope (top 64)) (by decide +kernel)) (fun _ _ _ _ _ => pg_name (i := 3) sc64.nd rfl (Or.inl rfl))
        (lc_some (en_tup (n := ns.length) (R := fun i => is (.int (K63.g ns i))) (Ev.imp (R := IT ns) (ev_v 0 rfl hv2) fun v H1 l h => it_tg h)) (bd_name (K := K)) (by omega) (fun _ _ _ _ => rfl) (fun k => K63.g ns k != 0) (fun k => .int (K63.g ns k)) (fun k u H1 hk l hu => tb_of fun _ _ _ _ _ => ?_) (fun k u H1 hk l hu _ => eb_of fun _ _ _ _ _ => ?_) (mu := fun k u => ⟨fun _ H H' l h => h⟩))) ev_c (first_head hne)) sc64.nd fun u H3 l4 l5 r => ?_
      · have eu : u = .int (K63.g ns k) := hu
        subst eu
        exact et_c (ev_neI (ev_i 3 rfl) ev_c)
      · exact ev_v (R := is (.int (K63.g ns k))) 3 rfl hu
      · have e : u = .int (K63.firstOf ns) := r
        subst e
        refine hb_ret l4 (ev_tuple G.tuple (ev_lc sc64.nd (pi_tup pe_w) (blkOk_by (own := [("_law_entry", 3)]) (N := ["_law_form_here", "_law_part", "_law_first", "_law_entry"]) (sc := defScope (top 64)) (by decide +kernel)) (fun _ _ _ _ _ => pg_name (i := 3) sc64.nd rfl (Or.inl rfl))
          (lc_vals (en_tup (n := ns.length) (R := fun i => is (.int (K63.g ns i))) (Ev.imp (R := IT ns) (ev_v 0 rfl (mono_tv.up _ _ _ l5 hv2)) fun v H1 l h => it_tg h)) (bd_name (K := K)) (by omega) (fun _ _ _ _ => rfl) (fun i => .int (Int.fdiv (K63.g ns i) (if K63.firstOf ns > 0 then K63.shared ns else -K63.shared ns))) fun i u H1 hi l hu => eb_of fun _ _ _ _ _ => ?_))) fun u H4 l6 _ r => q u H4 l6 ?_
        · have eu : u = .int (K63.g ns i) := hu
          rw [eu]
          refine ev_divZ (ev_i 3 rfl) (ev_if (R := is (.int (if K63.firstOf ns > 0 then K63.shared ns else -K63.shared ns))) (x := decide (0 < K63.firstOf ns)) (et_c (ev_gt (ev_i 2 rfl) ev_c)) (fun hy => ?_) fun hy => ?_) ⟨?_, ?_⟩
          · rw [if_pos (of_decide_eq_true hy)]
            exact ev_i 1 rfl
          · rw [if_neg (of_decide_eq_false hy)]
            exact Ev.eq (ev_sub ev_c (ev_i 1 rfl)) (by congr 1; omega)
          · split <;> omega
          · split
            · exact Bits.log bsh
            · rw [Int.natAbs_neg]
              exact Bits.log bsh
        · unfold K63.prim
          rw [if_neg hne]
          have e := map_range ns fun n => V.int (Int.fdiv n (if K63.firstOf ns > 0 then K63.shared ns else -K63.shared ns))
          rw [e] at r
          show TV (List.map V.int (List.map _ ns)) u H4
          rw [List.map_map]
          exact r
def spLine (T : Addr) : Sp := fun vs H Q _ => ∃ (v : V) (ns : List Int), vs = [v] ∧ IT ns v H ∧ ns.length = 2 ∧ ∀ z H', Le T none H H' → IT [K63.g ns 1, 0 - K63.g ns 0] z H' → Q z H'
theorem sc65 : FnScope ["_law_point_here"] ["_law_point_here"] (defScope (top 65)) := ⟨rfl, rfl, rfl, by decide +kernel, rfl, by decide +kernel, by decide +kernel⟩
theorem ev_two {X : Cx} {P : Addr} {Z : Option Addr} {σ : L2.St} {H : Hp} {a b : Expr} {i j : Int} {k : Nat} {p2 : Pos} (ha : EvE X P Z a σ H (is (.int i))) (hb : EvE X P Z b σ H (is (.int j))) (hs : starEach [a, b] X.env = (false, eval a X.env) :: starEach [b] X.env := by rfl) (hs2 : starEach [b] X.env = (false, eval b X.env) :: starEach [] X.env := by rfl) : EvE X P Z (.Tuple [a, b] k p2) σ H (IT [i, j]) :=
  (ev_tup (ea_cons ha (ea_cons hb ea_nil hs2) hs) fun vs H1 ⟨a, r, e, _, b, r2, e2, _, e3⟩ => by rw [e, e2, show r2 = [] from e3]; exact (by decide : 2 ≤ 100000)).imp fun v H1 l ⟨a, vs, H0, e, h, _, x, r, e2, hx, y, r2, e3, hy, e4⟩ => ⟨a, e, by rw [h, e2, e3, show x = .int i from hx, show y = .int j from hy, show r2 = [] from e4]; rfl⟩
theorem ok_line {f : Addr} {fd : FuncData} (F : FnP K "_law_line" 65 f fd) : FnOk P w K mg base CX0 1 f fd ["_law_point_here"] (spLine T) := by
  refine F.ok sc65 (fun vs H Q E h => ?_) (fun cdv A outer s H vs Q E hr h => ?_)
  · obtain ⟨v, ns, rfl, _⟩ := h
    rfl
  · obtain ⟨v, ns, rfl, hv, hl, q⟩ := h
    refine ⟨_, PSs.nox pb_w, ?_⟩
    exact hb_ret (P := T) (Z := none) (Le.refl0 H) (ev_two (ev_ixT (j := 1) (ev_v (R := IT ns) 0 rfl hv) ev_c (gatI (by omega))) (ev_sub ev_c (ev_ixT (j := 0) (ev_v (R := IT ns) 0 rfl hv) ev_c (gatI (by omega))))) fun z H8 l _ r => q z H8 l r
end
end K6

/-! ## D13 -/
set_option Elab.async false
set_option linter.all false
set_option maxRecDepth 100000
set_option maxHeartbeats 4000000
namespace K6
open PySem PySem.Spec PyProof.Rows L2 SlX
section
variable {X : Cx} {P : Addr} {Z : Option Addr} {σ : L2.St} {H B : Hp} {a b c : Expr} {pos px : Pos} {rest : List Stmt} {D : Ends}
theorem ev_ixLi {xs : List V} {i : Int} {y : V} (ha : EvE X P Z a σ H (LV Z xs)) (hb : EvE X P Z b σ H (is (.int i))) (hj : atI xs i = some y) (hs : PlainIx b := by exact fun _ _ => rfl) : EvE X P Z (.Subscript a b pos) σ H (is y) :=
  ev_of (pe_ix ix_list pe_w pe_w hs) fun H1 l Q q => ha H1 l _ fun u H2 l2 hu => hb H2 (l.trans l2) _ fun v H3 l3 hv => by
    obtain ⟨p, e, _, h⟩ := (mono_lv (P := P) (Z := Z)).up u H2 H3 l3 hu
    exact ⟨p, xs, i, y, e, hv, SqL.of h, hj, q _ H3 (l2.trans l3) rfl⟩
theorem hb_par3 {x y z : Str} {py pz pt : Pos} {kt k2 pt2} {Rs : List V → Hp → Prop} (i j k : Nat) (l : Le P Z B H) (ha : EvA X P Z [a, b, c] σ H Rs) (nd : X.N.Nodup) (kk : ∀ vs H1, Le P Z B H1 → Le P Z H H1 → Rs vs H1 → ∃ u v w, vs = [u, v, w] ∧ wB X rest D (((σ.set i (some u)).set j (some v)).set k (some w)) H1)
    (hc : X.calm = true := by rfl) (hi : X.N[i]? = some x := by rfl) (hj : X.N[j]? = some y := by rfl) (hk : X.N[k]? = some z := by rfl) (hij : i ≠ j := by decide) (hik : i ≠ k := by decide) (hjk : j ≠ k := by decide)
    (hx : X.env.scope.names.lookup x = some .local := by rfl) (hy : X.env.scope.names.lookup y = some .local := by rfl) (hz : X.env.scope.names.lookup z = some .local := by rfl)
    (hw : swappedStores [.Tuple [.Name x px, .Name y py, .Name z pz] kt pt] (.Tuple [a, b, c] k2 pt2) X.env = pure (some [x, y, z]) := by rfl)
    (hs : swapsWithSole [.Tuple [.Name x px, .Name y py, .Name z pz] kt pt] (.Tuple [a, b, c] k2 pt2) pos.line X.env = pure false := by rfl) : wB X (.Assign [.Tuple [.Name x px, .Name y py, .Name z pz] kt pt] (.Tuple [a, b, c] k2 pt2) pos :: rest) D σ H :=
  hb_cons (ps_par3 hc nd hi hj hk hij hik hjk hx hy hz pa_w hw hs) (ha H l.right _ fun vs H1 l1 hv => kk vs H1 (l.trans l1) l1 hv)
end
section
variable {P : Program} {w : World} {K : PySem.W.Frag} {mg : Str → Option Value} {base : Heap} {T : Addr}
/-! ### _law_levels -/
theorem sc69 : FnScope ["_law_entries", "_law_size", "_law_found", "_law_ups", "_law_number", "_law_at", "_law_entry"] ["_law_entries"] (defScope (top 69)) := ⟨rfl, rfl, rfl, by decide +kernel, rfl, by decide +kernel, by decide +kernel⟩
def LevP (T : Addr) (H : Hp) (v : V) (n : Nat) (fa ua : Addr) (L U : Nat → List Int) (i : Nat) (σ : L2.St) (H' : Hp) : Prop := Le T none H H' ∧ ∃ x4 x5 x6, σ = [some v, some (.int ((n - 1 : Nat) : Int)), some (.ref fa), some (.ref ua), x4, x5, x6] ∧ H' fa = some (.lst ((L i).map V.int)) ∧ H' ua = some (.lst ((U i).map V.int))
theorem atI_last {xs : List Int} {n : Nat} (h : xs.length = n + 1) : atI (xs.map V.int) (-1) = some (.int (K63.g xs n)) := by
  have e : ixN (xs.map V.int).length (-1) = some n := by
    unfold ixN
    rw [List.length_map, h, if_neg (by omega), if_pos (by omega)]
    congr 1
    omega
  unfold atI
  rw [e]
  exact gatI (by omega)
theorem ok_levs {f : Addr} {fd : FuncData} (F : FnP K "_law_levels" 69 f fd) (G : G0 mg) : FnOk P w K mg base CX0 1 f fd ["_law_entries"] (spLev T) := by
  refine F.ok sc69 (fun vs H Q E h => ?_) (fun cdv A outer s H vs Q E hr h => ?_)
  · obtain ⟨v, f, rfl, _⟩ := h
    rfl
  · obtain ⟨v, f, rfl, hv, h1, h2, hb, q⟩ := h
    obtain ⟨va, rfl, hva⟩ := id hv
    refine ⟨_, PSs.nox pb_w, ?_⟩
    refine hb_par3 (P := T) (Z := none) 1 2 3 (Le.refl0 H) (ea_cons (R := is (.int ((f.length - 1 : Nat) : Int))) (Ev.eq (ev_sub (ev_lenI G.len (ev_v 0 rfl hv)) ev_c) (by congr 1; omega)) (ea_cons ev_nil (ea_cons (R := FV none H [.int 1]) ((ev_lst (ea_cons ev_c ea_nil) fun vs H1 ⟨a, r, e, _, e2⟩ => by rw [e, show r = [] from e2]; exact (by decide : 1 ≤ 100000)).imp fun v H1 l ⟨a, vs, H0, e, z, b, h, _, x, r, e2, hx, e3⟩ => ⟨a, e, z, b, by rw [h, e2, show x = .int 1 from hx, show r = [] from e3]⟩) ea_nil))) sc69.nd fun vs H1 l1 _ r => ?_
    obtain ⟨u, r1, rfl, hu, y, r2, rfl, ⟨fa, rfl, zf, bf, hf⟩, z, r3, rfl, ⟨ua, rfl, zu, bu, hu2⟩, e⟩ := r
    have eu : u = .int ((f.length - 1 : Nat) : Int) := hu
    have e' : r3 = [] := e
    subst eu e'
    have fu : fa ≠ ua := fun z => by
      rw [z, hu2] at hf
      have e2 : [V.int 1] = [] := by injection (Option.some.inj hf)
      cases e2
    refine ⟨_, _, _, rfl, ?_⟩
    refine hb_for (B := H) (LevP T H (.ref va) f.length fa ua (fun _ => []) fun i => K63.tab (i + 1) K63.fact) (pi_range2 rfl G.range pa_w) (pg_name (i := 4) sc69.nd rfl (Or.inl rfl)) l1 (es_range2 ev_c (ev_add (ev_i 1 rfl) ev_c) ⟨by decide, by decide, by omega, by omega⟩) (bd_name (K := K)) (fun H2 l2 l3 => ⟨l2, none, none, none, rfl, l3.lst zf hf, l3.lst zu hu2⟩) (fun i σ' H' _ h => h.1) (fun i u σ' H' H2 hi h l2 hu => ?_) fun σ' H' h => ?_
    · obtain ⟨lb, x4, x5, x6, rfl, hfi, hui⟩ := h
      have eu : u = .int (1 + (i : Int)) := hu
      subst eu
      refine hb_app (B := H) (lb.trans l2) bu (l2.lst zu hui) zu (ev_i 3 rfl) (R := is (.int (K63.fact (i + 1)))) (Ev.eq (ev_mul (ev_ixLi (i := -1) (ev_v (R := IL none (K63.tab (i + 1) K63.fact)) 3 rfl ⟨ua, rfl, zu, l2.lst zu hui⟩) (ev_neg ev_c) (atI_last (K63.tab_len _ _))) (ev_i 4 rfl) ?_) ?_) (by rw [List.length_map, K63.tab_len]; omega) fun v H3 l3 l4 h3 r l5 => hb_nil ⟨l5, _, _, _, rfl, ?_, ?_⟩
      · rw [K63.tab_g (by omega)]
        exact Big.mul (big_of (fact_big (by omega)) (by decide)) (big_of (b := 8) (by omega) (by decide))
      · rw [K63.tab_g (by omega)]
        show V.int (K63.fact i * (1 + (i : Int))) = V.int (K63.fact i * ((i : Int) + 1))
        rw [Int.add_comm]
      · rw [upd_ne fu]
        exact (l2.trans l4).lst zf hfi
      · obtain ⟨_, _, e⟩ := r
        rw [upd_same, show v = .int (K63.fact (i + 1)) from e]
        show some (HO.lst (List.map V.int (K63.tab (i + 1) K63.fact) ++ [V.int (K63.fact (i + 1))])) = some (HO.lst (List.map V.int (K63.tab (i + 1 + 1) K63.fact)))
        rw [K63.tab_succ (i + 1), List.map_append]
        rfl
    · obtain ⟨lb, x4, x5, x6, rfl, hfi, hui⟩ := h
      have en : (((f.length - 1 : Nat) : Int) + 1 - 1).toNat + 1 = f.length := by omega
      have hui' : H' ua = some (.lst ((K63.tab ((((f.length - 1 : Nat) : Int) + 1 - 1).toNat + 1) K63.fact).map V.int)) := hui
      rw [en] at hui'
      refine hb_for (B := H) (LevP T H (.ref va) f.length fa ua (fun i => K63.tab i (K63.lv f)) fun _ => K63.tab f.length K63.fact) (pi_enT rfl G.enum pa_w) (pg_pair (i := 5) (j := 6) sc69.nd rfl rfl (Or.inl rfl) (Or.inl rfl)) lb (es_enumT (ev_i 0 rfl) (it_tg hv)) (bd_pair (K := K)) (fun H2 l2 l3 => ⟨l2, _, _, _, rfl, l3.lst zf hfi, l3.lst zu hui'⟩) (fun i σ' H' _ h => h.1) (fun i w σ' H' H2 hi h l2 hw => ?_) fun σ' H' h => ?_
      · obtain ⟨lb, x4, x5, x6, rfl, hfi, hui⟩ := h
        obtain ⟨w1, w2⟩ := w
        have ew : w1 = .int (i : Int) := hw.1
        have ew2 : w2 = .int (K63.g f i) := hw.2
        subst ew ew2
        have b2 : Big (K63.g f i) := (hb i).le (lv_ge f i)
        have ups : IL none (K63.tab f.length K63.fact) (.ref ua) H2 := ⟨ua, rfl, zu, l2.lst zu hui⟩
        refine hb_app (B := H) (lb.trans l2) bf (l2.lst zf hfi) zf (ev_i 2 rfl) (R := is (.int (K63.lv f i))) (Ev.eq (ev_mul (ev_mul (ev_ixL (j := i) (ev_v (R := IL none (K63.tab f.length K63.fact)) 3 rfl ups) (ev_i 5 rfl) (gatI (by rw [K63.tab_len]; exact hi))) (ev_ixL (j := f.length - 1 - i) (ev_v (R := IL none (K63.tab f.length K63.fact)) 3 rfl ups) (Ev.eq (ev_sub (ev_i 1 rfl) (ev_i 5 rfl)) (by congr 1; omega)) (gatI (by rw [K63.tab_len]; omega))) ?_) (ev_i 6 rfl) ?_) ?_) (by rw [List.length_map, K63.tab_len]; omega) fun v H3 l3 l4 h3 r l5 => hb_nil ⟨l5, _, _, _, rfl, ?_, ?_⟩
        · rw [K63.tab_g hi, K63.tab_g (by omega)]
          exact Big.mul (big_of (fact_big (by omega)) (by decide)) (big_of (fact_big (by omega)) (by decide))
        · rw [K63.tab_g hi, K63.tab_g (by omega)]
          exact (fact2_big (by omega) (by omega)).mul b2
        · rw [K63.tab_g hi, K63.tab_g (by omega)]
          rfl
        · obtain ⟨_, _, e⟩ := r
          rw [upd_same, show v = .int (K63.lv f i) from e]
          show some (HO.lst (List.map V.int (K63.tab i (K63.lv f)) ++ [V.int (K63.lv f i)])) = some (HO.lst (List.map V.int (K63.tab (i + 1) (K63.lv f))))
          rw [K63.tab_succ i, List.map_append]
          rfl
        · rw [upd_ne (Ne.symm fu)]
          exact (l2.trans l4).lst zu hui
      · obtain ⟨lb, x4, x5, x6, rfl, hfi, hui⟩ := h
        exact hb_ret lb (ev_v (R := IL none (K63.lev f)) 2 rfl ⟨fa, rfl, zf, hfi⟩) fun z H8 l _ r => q z H8 l r
/-! ### _law_killer_table -/
theorem sc70 : FnScope ["_law_entries", "_law_degree", "_law_levels_here", "_law_at"] ["_law_entries", "_law_degree"] (defScope (top 70)) := ⟨rfl, rfl, rfl, by decide +kernel, rfl, by decide +kernel, by decide +kernel⟩
theorem ok_kt {f : Addr} {fd : FuncData} (F : FnP K "_law_killer_table" 70 f fd) (G : G0 mg) (fL : Fk P w K mg base "_law_levels" 1 ["_law_entries"] (spLev T)) : FnOk P w K mg base CX0 2 f fd ["_law_entries", "_law_degree"] (spRows T) := by
  refine F.ok sc70 (fun vs H Q E h => ?_) (fun cdv A outer s H vs Q E hr h => ?_)
  · obtain ⟨v, f, d, rfl, _⟩ := h
    rfl
  · obtain ⟨v, f, d, rfl, hv, h1, h2, hd, hb, q⟩ := h
    refine ⟨_, PSs.nox pb_w, ?_⟩
    refine hb_set (P := T) (Z := none) 2 (Le.refl0 H) (R := IL none (K63.lev f)) (ev_call1 fL hr (ev_v (R := IT f) 0 rfl hv) fun u H1 l hu Q q => ⟨u, f, rfl, hu, h1, h2, hb, fun z H2 l2 r => q z H2 l2 r⟩) sc70.nd fun u H1 l1 _ r => ?_
    have hv1 := mono_tv.up _ _ _ l1 hv
    refine hb_ret l1 (ev_lc sc70.nd (pi_range1 rfl G.range pa_w) (blkOk_by (own := [("_law_at", 3)]) (N := ["_law_entries", "_law_degree", "_law_levels_here", "_law_at"]) (sc := defScope (top 70)) (by decide +kernel)) (fun _ _ _ _ _ => pg_name (i := 3) sc70.nd rfl (Or.inl rfl))
      (lc_objs (R := fun i => IT (K63.rowAt f d i)) (es_range1 (ev_sub (ev_lenI G.len (ev_v 0 rfl hv1)) (ev_i 1 rfl)) (by omega)).toN (bd_name (K := K)) (by omega) (fun _ _ _ _ => rfl) (fun i hi => ob_tv) fun i u H1 hi l hu => eb_of fun _ _ _ _ _ => ?_)) fun z H3 l4 _ r => q z H3 l4 ?_
    · have e : u = .int (i : Int) := hu
      subst e
      have hid : i + d < f.length := by omega
      refine Ev.imp (R := TV (cutV ((K63.lev f).map V.int) (some (i : Int)) (some ((i : Int) + (d : Int) + 1)))) (ev_tuple G.tuple (ev_sliceL (po_some pe_w) (po_some pe_w) (ev_v (R := IL none (K63.lev f)) 2 rfl ((mono_lv (P := T) (Z := none)).up _ _ _ l r)) (eo_some (ev_i 3 rfl)) (eo_some (ev_add (ev_add (ev_i 3 rfl) (ev_i 1 rfl)) ev_c)))) fun v H1 l h => ?_
      rw [cut_mid (by rw [lev_len]; exact hid), K63.slice_row hid] at h
      exact h
    · obtain ⟨D, xs, e, z, _, h, len, hi⟩ := r
      have en : ((f.length : Int) - (d : Int)).toNat = f.length - d := by omega
      rw [en] at len
      refine ⟨D, xs, e, z, h, by rw [len]; unfold K63.levelRows; rw [List.length_map, List.length_range], fun i x hx => ?_⟩
      have hil : i < f.length - d := by rw [← len]; exact (List.getElem?_eq_some_iff.mp hx).1
      have e2 : (K63.levelRows f d).getD i [] = K63.rowAt f d i := by
        unfold K63.levelRows
        rw [K63.getD_map (K63.rowAt f d) (a := 0) (by rw [List.length_range]; exact hil), K63.getD_lt (by rw [List.length_range]; exact hil), List.getElem_range]
      show IT ((K63.levelRows f d).getD i []) x _
      rw [e2]
      exact hi i x hx
/-! ### _law_acted -/
theorem sc71 : FnScope ["_law_one", "_law_form_here", "_law_size", "_law_found", "_law_at", "_law_entry", "_law_place"] ["_law_one", "_law_form_here"] (defScope (top 71)) := ⟨rfl, rfl, rfl, by decide +kernel, rfl, by decide +kernel, by decide +kernel⟩
def LActP (u v : V) (a f : List Int) (i : Nat) (σ : L2.St) (H' : Hp) : Prop := ∃ x3 x4 x5, σ = [some u, some v, some (.int ((a.length - 1 : Nat) : Int)), some x3, x4, x5, none] ∧ IT (K63.actN a f i) x3 H'
theorem ok_lact {f : Addr} {fd : FuncData} (F : FnP K "_law_acted" 71 f fd) (G : G0 mg) (fD : Fk P w K mg base "_law_derived" 2 ["_law_form_here", "_law_one", "_law_other"] (spDer T)) (fS : Fk P w K mg base "_law_scaled" 1 ["_law_form_here", "_law_factor"] (spScal T)) (fP : Fk P w K mg base "_law_plus" 1 ["_law_one", "_law_other"] (spPlus T)) :
    FnOk P w K mg base CX0 3 f fd ["_law_one", "_law_form_here"] (spAct T) := by
  refine F.ok sc71 (fun vs H Q E h => ?_) (fun cdv A outer s H vs Q E hr h => ?_)
  · obtain ⟨u, v, a, f, rfl, _⟩ := h
    rfl
  · obtain ⟨u, v, a, f, rfl, hu, hv, ok, hle, q⟩ := h
    have a1 := ok.a1
    have a2 := ok.a2
    have f2 := ok.f2
    refine ⟨_, PSs.nox pb_w, ?_⟩
    refine hb_set (P := T) (Z := none) 2 (Le.refl0 H) (R := is (.int ((a.length - 1 : Nat) : Int))) (Ev.eq (ev_sub (ev_lenI G.len (ev_v 0 rfl hu)) ev_c) (by congr 1; omega)) sc71.nd fun z H1 l1 _ r => ?_
    have e : z = .int ((a.length - 1 : Nat) : Int) := r
    subst e
    have lens : ∀ H1, Le T none H H1 → IT a u H1 ∧ IT f v H1 := fun H1 l => ⟨mono_tv.up _ _ _ l hu, mono_tv.up _ _ _ l hv⟩
    refine hb_set 3 l1 (ev_tuple G.tuple (ev_lc sc71.nd (pi_range1 rfl G.range pa_w) (blkOk_by (own := [("_law_place", 6)]) (N := ["_law_one", "_law_form_here", "_law_size", "_law_found", "_law_at", "_law_entry", "_law_place"]) (sc := defScope (top 71)) (by decide +kernel)) (fun _ _ _ _ _ => pg_name (i := 6) sc71.nd rfl (Or.inl rfl))
      (lc_vals (es_range1 (ev_sub (ev_lenI G.len (ev_v 1 rfl (lens H1 l1).2)) (ev_i 2 rfl)) (by omega)).toN (bd_name (K := K)) (by omega) (fun _ _ _ _ => rfl) (fun _ => .int 0) fun i u H1 hi l hu => eb_of fun _ _ _ _ _ => ev_c))) sc71.nd fun z H2 l2 l3 r => ?_
    have en : ((f.length : Int) - ((a.length - 1 : Nat) : Int)).toNat = f.length - (a.length - 1) := by omega
    rw [en, map_zero, ← act_zero0] at r
    refine hb_forN (LActP u v a f) (pi_enT rfl G.enum pa_w) (pg_pair (i := 4) (j := 5) sc71.nd rfl rfl (Or.inl rfl) (Or.inl rfl)) l2 (en_enumT (n := a.length) (R := fun i => is (.int (K63.g a i))) (Ev.imp (R := IT a) (ev_v 0 rfl (lens H2 l2).1) fun v H1 l h => it_tg h)) (bd_pair (K := K)) (fun H3 l => ⟨z, none, none, rfl, mono_tv.up _ _ _ l r⟩) (fun i t σ' H' H3 hi _ l4 h l5 ht => ?_) fun σ' H' l4 _ h => ?_
    · obtain ⟨x3, x4, x5, rfl, hx⟩ := h
      obtain ⟨t1, t2⟩ := t
      have e1 : t1 = .int (i : Int) := ht.1
      have e2 : t2 = .int (K63.g a i) := ht.2
      subst e1 e2
      have hx3 : IT (K63.actN a f i) x3 H3 := mono_tv.up _ _ _ l5 hx
      have dl := K63.derL_len f (a.length - 1 - i) i
      have al := actN_len a f i
      refine hb_set 3 l4 (ev_call2 (R := IT (K63.actN a f (i + 1))) fP (hr.mono (by decide)) (ev_v (R := IT (K63.actN a f i)) 3 rfl hx3)
        (ev_call2 (R := IT (K63.tab (K63.derL f (a.length - 1 - i) i).length fun k => K63.g a i * K63.g (K63.derL f (a.length - 1 - i) i) k)) fS (hr.mono (by decide)) (ev_call3 (R := IT (K63.derL f (a.length - 1 - i) i)) fD hr (ev_v (R := IT f) 1 rfl (lens H3 l4).2) (ev_sub (ev_i 2 rfl) (ev_i 4 rfl)) (ev_i 4 rfl)
          fun x y z H5 l hx hy hz Q q => ⟨x, f, a.length - 1 - i, i, by rw [show y = .int (((a.length - 1 : Nat) : Int) - (i : Int)) from hy, show z = .int (i : Int) from hz]; congr 3; omega, hx, by omega, by omega, fun z H2 l2 r => q z H2 l2 r⟩) (ev_i 5 rfl)
          fun x y H5 l hx hy Q q => ⟨x, _, K63.g a i, by rw [show y = _ from hy], hx, by omega, fun k => (ok.ba i).mul (der_big ok.bf), fun z H2 l2 r => q z H2 l2 r⟩)
        fun x y H5 l hx hy Q q => ⟨x, y, _, _, rfl, hx, hy, by rw [K63.tab_len]; omega, by omega, fun z H2 l2 r => q z H2 l2 ?_⟩) sc71.nd fun z H5 _ l6 r => hb_nil ⟨l6, z, _, _, rfl, r⟩
      have e : K63.actN a f (i + 1) = K63.tab (K63.actN a f i).length fun k => K63.g (K63.actN a f i) k + K63.g (K63.tab (K63.derL f (a.length - 1 - i) i).length fun k => K63.g a i * K63.g (K63.derL f (a.length - 1 - i) i) k) k := by
        rw [act_succ, al]
        exact K63.tab_ext fun j hj => by rw [K63.tab_g (by omega)]
      rw [e]
      exact r
    · obtain ⟨x3, x4, x5, rfl, hx⟩ := h
      exact hb_ret l4 (ev_v (R := IT (K63.actL a f)) 3 rfl hx) fun z H8 l12 _ r => q z H8 l12 r
end
end K6

/-! ## D14 -/
set_option Elab.async false
set_option linter.all false
set_option maxRecDepth 100000
set_option maxHeartbeats 4000000
set_option exponentiation.threshold 100000
namespace K6
open PySem PySem.Spec PyProof.Rows L2 SlX
/-! ### what is not known whole -/
def IN (lo hi : Int) : Rp := fun v _ => ∃ r : Int, v = .int r ∧ lo ≤ r ∧ r ≤ hi
instance mono_in {P : Addr} {Z : Option Addr} {lo hi : Int} : Mono P Z (IN lo hi) := ⟨fun _ _ _ _ h => h⟩
def IE (Pr : List Int → Prop) : Rp := fun v H => ∃ ns, IT ns v H ∧ Pr ns
instance mono_ie {P : Addr} {Z : Option Addr} {Pr : List Int → Prop} : Mono P Z (IE Pr) := ⟨fun _ _ _ l ⟨ns, h, p⟩ => ⟨ns, mono_tv.up _ _ _ l h, p⟩⟩
instance ob_ie {Pr : List Int → Prop} : Ob (IE Pr) where
  ref := fun v H ⟨ns, h, _⟩ n => ob_tv.ref v H h n
  off := fun v H D vs o ⟨ns, h, p⟩ hD hv => ⟨ns, ob_tv.off v H D vs o h hD hv, p⟩
def LE (Z : Option Addr) (Pr : List Int → Prop) : Rp := fun v H => ∃ ns, IL Z ns v H ∧ Pr ns
instance mono_le {P : Addr} {Z : Option Addr} {Pr : List Int → Prop} : Mono P Z (LE Z Pr) := ⟨fun _ _ _ l ⟨ns, h, p⟩ => ⟨ns, mono_lv.up _ _ _ l h, p⟩⟩
/-- a list that may stand among what the text wrote -/
def SK (K : PySem.W.Frag) (xs : List V) : Rp := fun v H => ∃ a, v = .ref a ∧ SqL K H a xs
instance mono_sk {P : Addr} {K : PySem.W.Frag} {xs : List V} : Mono P none (SK K xs) := ⟨fun _ _ _ l ⟨a, e, h⟩ => ⟨a, e, by
  rcases h with (h | ⟨o, h⟩) | h
  · exact .inl (.inl (l.keep a _ (fun z => by cases z) nt_lst h))
  · exact .inl (.inr ⟨o, l.keep a _ (fun z => by cases z) nt_frz h⟩)
  · exact .inr h⟩⟩
section
variable {X : Cx} {P : Addr} {Z : Option Addr} {σ : L2.St} {H B : Hp} {R Ra Rb : Rp} {a b c e : Expr} {pos p : Pos} {es : List Expr}
theorem ev_lenSK {xs : List V} (hm : X.mg "len" = none) (ha : EvE X P none a σ H (SK X.K xs)) (hg : Gl X "len" := by rfl) (he : starEach [a] X.env = (false, eval a X.env) :: starEach [] X.env := by rfl) : EvE X P none (.Call (.Name "len" p) [a] [] pos) σ H (is (.int (xs.length : Int))) :=
  ev_bf1 call_len_seq hm PySem.boot_len ha (fun u H1 l ⟨a, e, h⟩ Q q => ⟨a, xs, by rw [e], .inl h, q _ H1 l.right rfl⟩) hg (by decide) (by decide) he
theorem ev_ixSK {xs : List V} {j : Nat} {y : V} (ha : EvE X P none a σ H (SK X.K xs)) (hb : EvE X P none b σ H (is (.int (j : Int)))) (hj : xs[j]? = some y) (hs : PlainIx b := by exact fun _ _ => rfl) : EvE X P none (.Subscript a b pos) σ H (is y) :=
  ev_of (pe_ix ix_list pe_w pe_w hs) fun H1 l Q q => ha H1 l _ fun u H2 l2 hu => hb H2 (l.trans l2) _ fun v H3 l3 hv => by
    obtain ⟨p, e, h⟩ := (mono_sk (P := P)).up u H2 H3 l3 hu
    exact ⟨p, xs, (j : Int), y, e, hv, h, atI_nat hj, q _ H3 (l2.trans l3) rfl⟩
theorem ev_pow {i j : Int} (ha : EvE X P Z a σ H (is (.int i))) (hb : EvE X P Z b σ H (is (.int j))) (hc : CPow i j) : EvE X P Z (.BinOp a .Pow b pos) σ H (is (.int (i ^ j.toNat))) := ev_intC op_pow ha hb hc
/-- tuple(a list of integers not known whole) -/
theorem ev_tupleE {Pr : List Int → Prop} (hm : X.mg "tuple" = none) (ha : EvE X P Z a σ H (LE Z Pr)) (hg : Gl X "tuple" := by rfl) (he : starEach [a] X.env = (false, eval a X.env) :: starEach [] X.env := by rfl) : EvE X P Z (.Call (.Name "tuple" p) [a] [] pos) σ H (IE Pr) :=
  ev_bt1 call_tuple_of hm (by decide +kernel) ha (fun u H1 l ⟨ns, ⟨p, e, _, h⟩, pr⟩ Q q => ⟨p, ns.map V.int, by rw [e], .inl ⟨SqL.of h, fun t ht => q _ _ (l.right.mut ht) ⟨ns, ⟨t, rfl, upd_same⟩, pr⟩⟩⟩) hg (by decide) (by decide) he
/-- a comprehension of integers not known whole -/
theorem lc_ints {wi : L2.TI} {g : L2.TG} {n : Nat} {Y : Nat → Hp → V → Hp → Prop} {α : Type} {U : Nat → α → Hp → Prop} {bind : L2.St → α → L2.St} {elt : Expr} {scope : Scope} {vs : List Nat} {lo hi : Int} (es : En P Z wi σ H n Y) (bd : Bd P Z g Y n U bind) (hn : n ≤ 100000) (hw : ∀ i u H1, U i u H1 → wipe (bind (wipe σ vs) u) vs = wipe σ vs)
    (he : ∀ i u H1, i < n → Le P Z H H1 → U i u H1 → EvB X P Z scope elt (bind (wipe σ vs) u) H1 (IN lo hi)) : Ev P Z (tLc wi g tYes (wEb X scope elt) vs) σ H (LE Z fun ns => ns.length = n ∧ ∀ x ∈ ns, lo ≤ x ∧ x ≤ hi) :=
  (lc_heart es bd hn hw (fun i xs _ => ∃ ns : List Int, xs = ns.map V.int ∧ ns.length = i ∧ ∀ x ∈ ns, lo ≤ x ∧ x ≤ hi) (fun _ _ => ⟨[], rfl, rfl, fun x h => by cases h⟩) (fun i xs _ _ ⟨ns, e, l, _⟩ => by rw [e, List.length_map, l]; exact Nat.le_refl _) (fun _ _ _ _ _ h => h)
    fun i u H1 xs D hi' l hu hm hD zD Q Q2 h1 h2 h3 => h2 H1 l.right (he i u H1 hi' l hu H1 l.right _ fun v H2 l2 hv => h3 v H2 l2 (by
      obtain ⟨ns, e, len, hb⟩ := hm
      obtain ⟨r, ev, r1, r2⟩ := hv
      refine ⟨ns ++ [r], by rw [e, ev, List.map_append]; rfl, by rw [List.length_append, len]; rfl, fun x hx => ?_⟩
      rcases List.mem_append.mp hx with hx | hx
      · exact hb x hx
      · rw [List.mem_singleton.mp hx]
        exact ⟨r1, r2⟩))).imp fun v H1 l ⟨D, xs, e, z, _, h, ns, e2, len, hb⟩ => ⟨ns, ⟨D, e, z, by rw [h, e2]⟩, len, hb⟩
/-- tests not known -/
def EvX (X : Cx) (P : Addr) (Z : Option Addr) (c : Expr) (σ : L2.St) (H : Hp) : Prop := ∀ H1, Le P Z H H1 → ∀ Q : Bool → Hp → Prop, (∀ x H2, Le P Z H1 H2 → Q x H2) → wT X c σ H1 Q
theorem ex_c {op : CmpOp} (h : EvE X P Z (.Compare a [op] [b] pos) σ H (fun v _ => ∃ x, v = .bl x)) : EvX X P Z (.Compare a [op] [b] pos) σ H :=
  fun H1 l Q q pins s I => (pt_cmpE pe_w).run pins s σ H1 Q I (h H1 l _ fun u H2 l2 ⟨x, e⟩ => ⟨x, e, q x H2 l2⟩)
theorem ex_and {x : Bool} (ha : EvT X P Z a σ H x) (hb : EvX X P Z b σ H) : EvX X P Z (.BoolOp .And [a, b] pos) σ H :=
  fun H1 l Q q pins s I => (PW.pt (pw_and pt_w (pw_and1 pt_w))).run pins s σ H1 Q I (ha H1 l _ fun H2 l2 => by
    cases x with
    | false => exact iteF (q _ H2 l2)
    | true => exact iteT (hb H2 (l.trans l2) Q fun x H3 l3 => q x H3 (l2.trans l3)))
theorem hb_ifX {u v rest : List Stmt} {D : Ends} (l : Le P Z B H) (hc : EvX X P Z c σ H) (ha : ∀ H1, Le P Z B H1 → Le P Z H H1 → wB X u { D with nx := wB X rest D } σ H1) (hb : ∀ H1, Le P Z B H1 → Le P Z H H1 → wB X v { D with nx := wB X rest D } σ H1) : wB X (.If c u v pos :: rest) D σ H :=
  hb_cons (ps_if pt_w pb_w pb_w) (hc H l.right _ fun x H1 l1 => by
    cases x with
    | false => exact iteF (hb H1 (l.trans l1) l1)
    | true => exact iteT (ha H1 (l.trans l1) l1))
/-- for x in range(e), e not known -/
theorem hb_forE {tg : Expr} {g : L2.TG} {bind : L2.St → V → L2.St} {body rest : List Stmt} {D : Ends} {hi : Int} (Pv : Nat → L2.St → Hp → Prop) (hr : X.mg "range" = none) (hgl : Gl X "range") (hg : PG X tg g) (l : Le P Z B H) (ha : EvE X P Z a σ H (IN 0 hi)) (hh : hi < 2 ^ 62) (bd : ∀ n, Bd P Z g (YR fun i => is (.int (i : Int))) n (fun i => is (.int (i : Int))) bind)
    (h0 : ∀ H1, Le P Z H H1 → Pv 0 σ H1)
    (hs : ∀ (i : Nat) u σ' H' H2, (i : Int) < hi → Le P Z H H' → Le P Z B H2 → Pv i σ' H' → Le P Z H' H2 → wB X body { D with nx := fun σ3 H3 => Le P Z H2 H3 ∧ Pv (i + 1) σ3 H3, ct := fun σ3 H3 => Le P Z H2 H3 ∧ Pv (i + 1) σ3 H3, bk := wB X rest D } (bind σ' u) H2)
    (hd : ∀ (i : Nat) σ' H', (i : Int) ≤ hi → Le P Z B H' → Le P Z H H' → Pv i σ' H' → wB X rest D σ' H')
    (hp : PassesOwn (model X.prog X.w) X.A X.env X.xe := by exact PassesOwn.never) (hc : X.calm = true := by rfl) (hf : ∀ x, foldedSetIterable (.Call (.Name "range" p) [a] [] pos) X.env x = pure x := by intro _; rfl) (hss : starEach [a] X.env = (false, eval a X.env) :: starEach [] X.env := by rfl) {fpos : Pos} : wB X (.For tg (.Call (.Name "range" p) [a] [] pos) body [] fpos :: rest) D σ H := by
  refine hb_cons (ps_for hp hc (pi_range1 hgl hr pa_w hss) hg pb_w hf) ((ea_cons ha ea_nil hss) H l.right _ fun vs H1 l1 hv => ?_)
  obtain ⟨v, r, rfl, ⟨m, rfl, m0, m1⟩, e⟩ := hv
  have e' : r = [] := e
  subst e'
  refine ⟨m, rfl, by omega, by omega, ?_⟩
  have w : Walk (Itr 0 m.toNat) m.toNat (fun H3 => Le P Z H1 H3) (YR fun i => is (.int (i : Int))) := walk_range.mono (fun _ _ => trivial) fun i H x H' _ _ y => ⟨y.1, by rw [y.2]; show V.int (0 + (i : Int)) = V.int i; rw [Int.zero_add]⟩
  exact for_it w (fun i σ' H' => Le P Z H1 H' ∧ Pv i σ' H') ⟨l1.right, h0 H1 l1⟩ (fun i σ' H' h p => p.1)
    (fun i x σ' H' H'' h p y => (bd m.toNat).run i x σ' H' H'' h p.1.right y _ fun u H2 l2 hu => by
      have q := hs i u σ' H' H2 (by omega) (l1.trans p.1) ((l.trans l1).trans (p.1.trans l2)) p.2 l2
      intro pins s I
      refine wpAny_mono (q pins s I) (fun f s' z => ?_) fun _ _ z => z
      cases f with
      | next => obtain ⟨σ3, H3, I3, z1, z2⟩ := z; exact ⟨σ3, H3, I3, p.1.trans (l2.trans z1), z2⟩
      | cont => obtain ⟨σ3, H3, I3, z1, z2⟩ := z; exact ⟨σ3, H3, I3, p.1.trans (l2.trans z1), z2⟩
      | brk => exact z
      | ret v => exact z) fun σ' H' p => hd m.toNat σ' H' (by omega) ((l.trans l1).trans p.1) (l1.trans p.1) p.2
end
section
variable {P : Program} {w : World} {K : PySem.W.Frag} {mg : Str → Option Value} {base : Heap} {T : Addr}
/-! ### _law_dice -/
def spDice (T : Addr) (K : PySem.W.Frag) : Sp := fun vs H Q _ => ∃ (v : V) (ns : List Int) (k : Nat), vs = [v, .int k] ∧ SK K (ns.map V.int) v H ∧ k < 1000 ∧ ∀ d a b c H', Le T none H H' → H d = none → H' d = some (.lst [.int a, .int b, .int c]) → Q (.ref d) H'
theorem sc51 : FnScope ["_law_script", "_law_spot", "_law_cell", "_law_left"] ["_law_script", "_law_spot"] (defScope (top 51)) := ⟨rfl, rfl, rfl, by decide +kernel, rfl, by decide +kernel, by decide +kernel⟩
theorem ok_dice {f : Addr} {fd : FuncData} (F : FnP K "_law_dice" 51 f fd) (G : G0 mg) : FnOk P w K mg base CX0 1 f fd ["_law_script", "_law_spot"] (spDice T K) := by
  refine F.ok sc51 (fun vs H Q E h => ?_) (fun cdv A outer s H vs Q E hr h => ?_)
  · obtain ⟨v, ns, k, rfl, _⟩ := h
    rfl
  · obtain ⟨v, ns, k, rfl, hv, hk, q⟩ := h
    refine ⟨_, PSs.nox pb_w, ?_⟩
    refine hb_set (P := T) (Z := none) 2 (Le.refl0 H) (R := fun v _ => ∃ c : Int, v = .int c) (ev_if (x := decide ((k : Int) < (ns.length : Int))) (et_c (Ev.eq (ev_lt (ev_i 1 rfl) (ev_lenSK G.len (ev_v (R := SK K (ns.map V.int)) 0 rfl hv))) (by rw [List.length_map]))) (fun hx => ?_) fun hx => Ev.imp (ev_add (ev_mulS ev_c (ev_i 1 rfl) (.inl ⟨by decide, by decide⟩)) ev_c) fun v H1 l h => ⟨_, h⟩) sc51.nd fun u H1 l1 _ r => ?_
    · have hx' := of_decide_eq_true hx
      exact Ev.imp (ev_intI G.int (ev_ixSK (ev_v (R := SK K (ns.map V.int)) 0 rfl hv) (ev_i 1 rfl) (gatI (by omega)))) fun v H1 l h => ⟨_, h⟩
    · obtain ⟨c, rfl⟩ := r
      refine hb_set 3 l1 (R := fun v _ => ∃ c : Int, v = .int c) (Ev.imp (ev_mod (ev_max2 rfl G.max ev_c (ev_sub (ev_abs G.abs (ev_i 2 rfl)) (ev_pow ev_c ev_c ⟨by decide, by decide, by decide⟩))) (ev_mul (ev_pow ev_c ev_c ⟨by decide, by decide, by decide⟩) (ev_pow ev_c ev_c ⟨by decide, by decide, by decide⟩) (by unfold CMulW; decide +kernel)) (by decide +kernel)) fun v H1 l h => ⟨_, h⟩) sc51.nd fun u H2 l2 _ r => ?_
      obtain ⟨c2, rfl⟩ := r
      refine hb_ret l2 (ev_lst (ea_cons (ev_i 3 rfl) (ea_cons (R := fun v _ => ∃ c : Int, v = .int c) (m := ⟨fun _ _ _ _ h => h⟩) (Ev.imp (ev_add (ev_add (ev_add (ev_mulS (ev_mod (ev_abs G.abs (ev_i 2 rfl)) ev_c (by decide)) ev_c (.inr ⟨by decide, by decide⟩)) (ev_mulS ev_c (ev_i 1 rfl) (.inl ⟨by decide, by decide⟩))) (ev_mulS ev_c (ev_intB G.int (ev_lt (ev_i 2 rfl) ev_c)) (.inl ⟨by decide, by decide⟩))) ev_c) fun v H1 l h => ⟨_, h⟩) (ea_cons ev_c ea_nil))) fun vs H1 h => ?_) fun z H8 l _ r => ?_
      · obtain ⟨a, r1, rfl, _, b, r2, rfl, _, d, r3, rfl, _, e⟩ := h
        rw [show r3 = [] from e]
        exact (by decide : 3 ≤ 100000)
      · obtain ⟨d, vs, H0, rfl, _, bD, hd, _, a, r1, rfl, ha, b, r2, rfl, ⟨cb, rfl⟩, c3, r3, rfl, hc, e⟩ := r
        have ea : a = .int c2 := ha
        have ec : c3 = .int 0 := hc
        have er : r3 = [] := e
        subst ea ec er
        exact q d c2 cb 0 H8 l (l2.dom d bD) hd
/-! ### _law_roll -/
theorem Le.toD {H H' : Hp} {d : Addr} {a b c : Int} (l : Le T none (K6.del H d) H') (h : H d = some (.lst [.int a, .int b, .int c])) (h' : Dice H' d) : Le T (some d) H H' := by
  refine ⟨fun x o z n e => ?_, fun x e => ?_, fun t => ?_, fun y z => ?_⟩
  · have hx : x ≠ d := fun q => z (by rw [q])
    exact l.keep x o (fun q => by cases q) n (by rw [del_ne hx]; exact e)
  · by_cases q : x = d
    · obtain ⟨_, _, _, e2⟩ := h'
      rw [q, e2] at e
      cases e
    · have := l.dom x e
      rw [del_ne q] at this
      exact this
  · obtain ⟨ps, e, k⟩ := t
    refine l.tab ⟨ps, ?_, k⟩
    rw [del_ne (fun q => by rw [q, h] at e; cases e)]
    exact e
  · cases z
    exact ⟨⟨_, _, _, h⟩, h'⟩
def spRoll (T : Addr) : Sp := fun vs H Q _ => ∃ (d : Addr) (t : Int), vs = [.ref d, .int t] ∧ 0 < t ∧ t < 2 ^ 64 ∧ Dice H d ∧ ∀ r H', Le T (some d) H H' → 0 ≤ r → r < t → Q (.int r) H'
theorem sc52 : FnScope ["_law_dice_here", "_law_total", "_law_found", "_law_one", "_law_two"] ["_law_dice_here", "_law_total"] (defScope (top 52)) := ⟨rfl, rfl, rfl, by decide +kernel, rfl, by decide +kernel, by decide +kernel⟩
theorem ok_roll {f : Addr} {fd : FuncData} (F : FnP K "_law_roll" 52 f fd) (G : G0 mg) : FnOk P w K mg base CX0 1 f fd ["_law_dice_here", "_law_total"] (spRoll T) := by
  refine F.ok sc52 (fun vs H Q E h => ?_) (fun cdv A outer s H vs Q E hr h => ?_)
  · obtain ⟨d, t, rfl, _⟩ := h
    rfl
  · obtain ⟨d, t, rfl, t0, t1, ⟨a, b, c, hd⟩, q⟩ := h
    refine ⟨_, PSs.nox pb_w, ?_⟩
    have bt : CDivW 0 t := ⟨t0, Bits.log (Nat.lt_of_lt_of_le (show t.natAbs < 2 ^ 64 by omega) (Nat.pow_le_pow_right (by decide) (by decide)))⟩
    have lv : ∀ H1, Le T none H H1 → LV none [.int a, .int b, .int c] (.ref d) H1 := fun H1 l => ⟨d, rfl, (fun z => by cases z), l.lst (fun z => by cases z) hd⟩
    have dd : ∀ H1, Le T none H H1 → H1 d = some (.lst [.int a, .int b, .int c]) := fun H1 l => l.lst (fun z => by cases z) hd
    refine hb_if (P := T) (Z := none) (x := decide (0 < a)) (Le.refl0 H) (et_c (ev_gt (ev_ixL (j := 0) (ev_v (R := LV none [.int a, .int b, .int c]) 0 rfl (lv H (Le.refl0 H))) ev_c rfl) ev_c)) (fun hx H1 l1 _ => ?_) fun hx H1 l1 _ => hb_nil ?_
    · refine hb_set 2 l1 (ev_mod (ev_intI G.int (ev_ixL (j := 0) (ev_v (R := LV none [.int a, .int b, .int c]) 0 rfl (lv H1 l1)) ev_c rfl)) (ev_i 1 rfl) t0) sc52.nd fun u H2 l2 _ r => ?_
      have e : u = .int (a % t) := r
      subst e
      refine hb_sub (B := del H d) (y := .int (a / t)) (k := 0) l2.del del_at (dd H2 l2) (fun z => by cases z) (ev_div (ev_ixL (j := 0) (ev_v (R := LV none [.int a, .int b, .int c]) 0 rfl (lv H2 l2)) ev_c rfl) (ev_i 1 rfl) bt) (ev_i 0 rfl) ev_c (Nat.succ_pos _) fun H3 l3 l4 h3 l5 => ?_
      refine hb_ret l5 (ev_i 2 rfl) fun z H8 l l' r => ?_
      rw [show z = .int (a % t) from r]
      exact q _ H8 (Le.toD l hd ⟨a / t, b, c, l'.lst (fun z => by cases z) upd_same⟩) (Int.emod_nonneg _ (by omega)) (Int.emod_lt_of_pos _ t0)
    · refine hb_sub (B := del H d) (y := .int (c + 1)) (k := 2) l1.del del_at (dd H1 l1) (fun z => by cases z) (ev_add (ev_ixL (j := 2) (ev_v (R := LV none [.int a, .int b, .int c]) 0 rfl (lv H1 l1)) ev_c rfl) ev_c) (ev_i 0 rfl) ev_c (by show 2 < 3; decide) fun H3 l3 l4 h3 l5 => ?_
      have hy : (upd H3 d (.lst ([V.int a, .int b, .int c].set 2 (.int (c + 1))))) d = some (.lst [.int a, .int b, .int (c + 1)]) := upd_same
      generalize upd H3 d (.lst ([V.int a, .int b, .int c].set 2 (.int (c + 1)))) = Hy at *
      have lv' : ∀ H1, Le T none Hy H1 → LV none [.int a, .int b, .int (c + 1)] (.ref d) H1 := fun H1 l => ⟨d, rfl, (fun z => by cases z), l.lst (fun z => by cases z) hy⟩
      refine hb_set 3 l5 (ev_mod (ev_intI G.int (ev_add (ev_ixL (j := 1) (ev_v (R := LV none [.int a, .int b, .int (c + 1)]) 0 rfl (lv' Hy l5.right)) ev_c rfl) (ev_mulS ev_c (ev_ixL (j := 2) (ev_v (R := LV none [.int a, .int b, .int (c + 1)]) 0 rfl (lv' Hy l5.right)) ev_c rfl) (.inl ⟨by decide, by decide⟩)))) ev_c (by decide)) sc52.nd fun u H4 l6 l7 r => ?_
      have e : u = .int ((b + 92821991 * (c + 1)) % 2305843009213691579) := r
      have o1 := Int.emod_nonneg (b + 92821991 * (c + 1)) (show (2305843009213691579 : Int) ≠ 0 by decide)
      have o2 := Int.emod_lt_of_pos (b + 92821991 * (c + 1)) (show (0 : Int) < 2305843009213691579 by decide)
      generalize (b + 92821991 * (c + 1)) % 2305843009213691579 = one at *
      subst e
      refine hb_set 4 l6 (R := fun v _ => ∃ n : Int, v = .int n) (Ev.imp (ev_add (ev_mulS (ev_mod (ev_intI G.int (ev_add (ev_mulS (ev_i 3 rfl) (ev_i 3 rfl) (.inl ⟨by omega, by omega⟩)) (ev_mulS ev_c (ev_ixL (j := 2) (ev_v (R := LV none [.int a, .int b, .int (c + 1)]) 0 rfl (lv' H4 l7)) ev_c rfl) (.inl ⟨by decide, by decide⟩)))) ev_c (by decide)) ev_c (.inr ⟨by decide, by decide⟩)) (ev_i 3 rfl)) fun v H1 l h => ⟨_, h⟩) sc52.nd fun u H5 l8 l9 r => ?_
      obtain ⟨two, rfl⟩ := r
      refine hb_ret l8 (ev_mod (ev_intI G.int (ev_div (ev_i 4 rfl) ev_c ⟨by decide, by decide⟩)) (ev_i 1 rfl) t0) fun z H8 l l' r => ?_
      rw [show z = .int (two / 65536 % t) from r]
      exact q _ H8 (Le.toD l hd ⟨a, b, c + 1, (l7.trans (l9.trans l')).lst (fun z => by cases z) hy⟩) (Int.emod_nonneg _ (by omega)) (Int.emod_lt_of_pos _ t0)
end
end K6

/-! ## D15 -/
set_option Elab.async false
set_option linter.all false
set_option maxRecDepth 100000
set_option maxHeartbeats 4000000
set_option exponentiation.threshold 100000
namespace K6
open PySem PySem.Spec PyProof.Rows L2 SlX
section
variable {P : Program} {w : World} {K : PySem.W.Frag} {mg : Str → Option Value} {base : Heap} {T : Addr}
/-! ### calls of the dice -/
theorem ev_roll {X : Cx} {d : Addr} {σ : L2.St} {H : Hp} {a b : Expr} {t : Int} {p pos : Pos} (F : Fk X.prog X.w X.K X.mg X.base "_law_roll" 1 ["_law_dice_here", "_law_total"] (spRoll T)) (hr : Room 1 X.A) (ha : EvE X T (some d) a σ H (is (.ref d))) (hb : EvE X T (some d) b σ H (is (.int t))) (h0 : 0 < t) (h1 : t < 2 ^ 64) (hg : Gl X "_law_roll" := by rfl)
    (he : starEach [a, b] X.env = (false, eval a X.env) :: starEach [b] X.env := by rfl) (he2 : starEach [b] X.env = (false, eval b X.env) :: starEach [] X.env := by rfl) (hpl : (backTo pos (starEach [b] X.env)).any (·.1) = false := by rfl) : EvE X T (some d) (.Call (.Name "_law_roll" p) [a, b] [] pos) σ H (IN 0 (t - 1)) :=
  ev_call2 F hr ha hb (fun x y H3 l hx hy Q q => ⟨d, t, by rw [show x = _ from hx, show y = _ from hy], h0, h1, (l.dice d rfl).2, fun r H4 l4 r0 r1 => q _ H4 l4 ⟨r, rfl, r0, by omega⟩⟩) hg he he2 hpl
def spNear (T : Addr) : Sp := fun vs H Q _ => ∃ (d : Addr) (m : Int), vs = [.ref d, .int m] ∧ 0 ≤ m ∧ m ≤ 10 ^ 12 ∧ Dice H d ∧ ∀ r H', Le T (some d) H H' → -m ≤ r → r ≤ m → Q (.int r) H'
theorem sc53 : FnScope ["_law_dice_here", "_law_most"] ["_law_dice_here", "_law_most"] (defScope (top 53)) := ⟨rfl, rfl, rfl, by decide +kernel, rfl, by decide +kernel, by decide +kernel⟩
theorem ok_near {f : Addr} {fd : FuncData} (F : FnP K "_law_near" 53 f fd) (fR : Fk P w K mg base "_law_roll" 1 ["_law_dice_here", "_law_total"] (spRoll T)) : FnOk P w K mg base CX0 2 f fd ["_law_dice_here", "_law_most"] (spNear T) := by
  refine F.ok sc53 (fun vs H Q E h => ?_) (fun cdv A outer s H vs Q E hr h => ?_)
  · obtain ⟨d, m, rfl, _⟩ := h
    rfl
  · obtain ⟨d, m, rfl, m0, m1, hd, q⟩ := h
    refine ⟨_, PSs.nox pb_w, ?_⟩
    refine hb_ret (P := T) (Z := some d) (R := IN (-m) m) (Le.reflD hd) (ev_op2 op_sub (ev_roll fR hr (ev_i 0 rfl) (ev_add (ev_mulS ev_c (ev_i 1 rfl) (.inl ⟨by decide, by decide⟩)) ev_c) (by omega) (by omega)) (ev_i 1 rfl) fun x y H1 l ⟨r, hx, r0, r1⟩ hy Q q => ⟨r, m, hx, hy, q _ H1 l.right ⟨_, rfl, by omega, by omega⟩⟩) fun z H8 l _ ⟨r, e, r0, r1⟩ => ?_
    rw [e]
    exact q r H8 l r0 r1
theorem ev_near {X : Cx} {d : Addr} {σ : L2.St} {H : Hp} {a b : Expr} {m : Int} {p pos : Pos} (F : Fk X.prog X.w X.K X.mg X.base "_law_near" 2 ["_law_dice_here", "_law_most"] (spNear T)) (hr : Room 2 X.A) (ha : EvE X T (some d) a σ H (is (.ref d))) (hb : EvE X T (some d) b σ H (is (.int m))) (h0 : 0 ≤ m) (h1 : m ≤ 10 ^ 12) (hg : Gl X "_law_near" := by rfl)
    (he : starEach [a, b] X.env = (false, eval a X.env) :: starEach [b] X.env := by rfl) (he2 : starEach [b] X.env = (false, eval b X.env) :: starEach [] X.env := by rfl) (hpl : (backTo pos (starEach [b] X.env)).any (·.1) = false := by rfl) : EvE X T (some d) (.Call (.Name "_law_near" p) [a, b] [] pos) σ H (IN (-m) m) :=
  ev_call2 F hr ha hb (fun x y H3 l hx hy Q q => ⟨d, m, by rw [show x = _ from hx, show y = _ from hy], h0, h1, (l.dice d rfl).2, fun r H4 l4 r0 r1 => q _ H4 l4 ⟨r, rfl, r0, r1⟩⟩) hg he he2 hpl
/-! ### _law_point -/
def Pt (ns : List Int) : Prop := ns.length = 2 ∧ ∀ i, (K63.g ns i).natAbs ≤ 3
theorem g_pair {a b : Int} (i : Nat) (h1 : a.natAbs ≤ 3) (h2 : b.natAbs ≤ 3) : (K63.g [a, b] i).natAbs ≤ 3 := by
  match i with
  | 0 => exact h1
  | 1 => exact h2
  | i + 2 =>
    rw [K63.g_cons_succ, K63.g_cons_succ, K63.g_nil]
    decide
def spPoint (T : Addr) : Sp := fun vs H Q _ => ∃ (d : Addr), vs = [.ref d, .int 3] ∧ Dice H d ∧ ∀ z H', Le T (some d) H H' → IE Pt z H' → Q z H'
theorem sc66 : FnScope ["_law_dice_here", "_law_most", "_law_one", "_law_other"] ["_law_dice_here", "_law_most"] (defScope (top 66)) := ⟨rfl, rfl, rfl, by decide +kernel, rfl, by decide +kernel, by decide +kernel⟩
theorem ok_point {f : Addr} {fd : FuncData} (F : FnP K "_law_point" 66 f fd) (fN : Fk P w K mg base "_law_near" 2 ["_law_dice_here", "_law_most"] (spNear T)) (fP : Fk P w K mg base "_law_plain" 3 ["_law_form_here"] (spPlain T)) : FnOk P w K mg base CX0 4 f fd ["_law_dice_here", "_law_most"] (spPoint T) := by
  refine F.ok sc66 (fun vs H Q E h => ?_) (fun cdv A outer s H vs Q E hr h => ?_)
  · obtain ⟨d, rfl, _⟩ := h
    rfl
  · obtain ⟨d, rfl, hd, q⟩ := h
    refine ⟨_, PSs.nox pb_w, ?_⟩
    refine hb_par (P := T) (Z := some d) 2 3 (Le.reflD hd) (ea_cons (ev_near fN (hr.mono (by decide)) (ev_i 0 rfl) (ev_i 1 rfl) (by decide) (by decide)) (ea_cons (ev_near fN (hr.mono (by decide)) (ev_i 0 rfl) (ev_i 1 rfl) (by decide) (by decide)) ea_nil)) sc66.nd fun vs H1 l1 _ r => ?_
    obtain ⟨x, r1, rfl, ⟨a, rfl, a0, a1⟩, y, r2, rfl, ⟨b, rfl, b0, b1⟩, e⟩ := r
    have e' : r2 = [] := e
    subst e'
    refine ⟨_, _, rfl, ?_⟩
    refine hb_ret (R := IE Pt) l1 (ev_if (x := ([a, b] != [0, 0])) (et_c (ev_neT hr (ev_two (ev_i 2 rfl) (ev_i 3 rfl)) (ev_two ev_c ev_c))) (fun _ => ?_) fun _ => ?_) fun z H8 l _ r => q z H8 l r
    · exact ev_call1 fP hr (ev_two (ev_i 2 rfl) (ev_i 3 rfl)) fun x H3 l hx Q q => ⟨x, [a, b], rfl, hx, (by show 2 ≤ 100; decide), fun i => Nat.lt_of_le_of_lt (g_pair i (by omega) (by omega)) (Nat.lt_of_lt_of_le (show 3 < 2 ^ 2 by decide) (Nat.pow_le_pow_right (by decide) (by decide))), fun z H4 l4 r => q z H4 (l4.weak fun d' z => (l.dice d' z).2) ⟨_, r, prim_len rfl, fun i => Nat.le_trans (K63.prim_size i) (g_pair i (by omega) (by omega))⟩⟩
    · exact Ev.imp (ev_two ev_c ev_c) fun v H1 l h => ⟨[1, 0], h, rfl, fun i => g_pair i (by decide) (by decide)⟩
theorem ev_point {X : Cx} {d : Addr} {σ : L2.St} {H : Hp} {a b : Expr} {p pos : Pos} (F : Fk X.prog X.w X.K X.mg X.base "_law_point" 4 ["_law_dice_here", "_law_most"] (spPoint T)) (hr : Room 4 X.A) (ha : EvE X T (some d) a σ H (is (.ref d))) (hb : EvE X T (some d) b σ H (is (.int 3))) (hg : Gl X "_law_point" := by rfl)
    (he : starEach [a, b] X.env = (false, eval a X.env) :: starEach [b] X.env := by rfl) (he2 : starEach [b] X.env = (false, eval b X.env) :: starEach [] X.env := by rfl) (hpl : (backTo pos (starEach [b] X.env)).any (·.1) = false := by rfl) : EvE X T (some d) (.Call (.Name "_law_point" p) [a, b] [] pos) σ H (IE Pt) :=
  ev_call2 F hr ha hb (fun x y H3 l hx hy Q q => ⟨d, by rw [show x = _ from hx, show y = _ from hy], (l.dice d rfl).2, fun z H4 l4 r => q z H4 l4 r⟩) hg he he2 hpl
/-! ### _law_small_form -/
def Fo (n : Nat) (m : Int) (ns : List Int) : Prop := ns.length = n ∧ ∀ x ∈ ns, -m ≤ x ∧ x ≤ m
def spSmall (T : Addr) : Sp := fun vs H Q _ => ∃ (d : Addr) (n : Nat) (m : Int), vs = [.ref d, .int n, .int m] ∧ n ≤ 100 ∧ 0 ≤ m ∧ m ≤ 10 ^ 12 ∧ Dice H d ∧ ∀ z H', Le T (some d) H H' → IE (Fo (n + 1) m) z H' → Q z H'
theorem sc67 : FnScope ["_law_dice_here", "_law_degree", "_law_most", "_law_place"] ["_law_dice_here", "_law_degree", "_law_most"] (defScope (top 67)) := ⟨rfl, rfl, rfl, by decide +kernel, rfl, by decide +kernel, by decide +kernel⟩
theorem ok_small {f : Addr} {fd : FuncData} (F : FnP K "_law_small_form" 67 f fd) (G : G0 mg) (fN : Fk P w K mg base "_law_near" 2 ["_law_dice_here", "_law_most"] (spNear T)) : FnOk P w K mg base CX0 3 f fd ["_law_dice_here", "_law_degree", "_law_most"] (spSmall T) := by
  refine F.ok sc67 (fun vs H Q E h => ?_) (fun cdv A outer s H vs Q E hr h => ?_)
  · obtain ⟨d, n, m, rfl, _⟩ := h
    rfl
  · obtain ⟨d, n, m, rfl, hn, m0, m1, hd, q⟩ := h
    refine ⟨_, PSs.nox pb_w, ?_⟩
    refine hb_ret (P := T) (Z := some d) (R := IE (Fo (n + 1) m)) (Le.reflD hd) (Ev.imp (ev_tupleE (Pr := fun ns => ns.length = ((n : Int) + 1).toNat ∧ ∀ x ∈ ns, -m ≤ x ∧ x ≤ m) G.tuple (ev_lc sc67.nd (pi_range1 rfl G.range pa_w) (blkOk_by (own := [("_law_place", 3)]) (N := ["_law_dice_here", "_law_degree", "_law_most", "_law_place"]) (sc := defScope (top 67)) (by decide +kernel)) (fun _ _ _ _ _ => pg_name (i := 3) sc67.nd rfl (Or.inl rfl))
      (lc_ints (es_range1 (ev_add (ev_i 1 rfl) ev_c) (by omega)).toN (bd_name (K := K)) (by omega) (fun _ _ _ _ => rfl) fun i u H1 hi l hu => eb_of fun _ _ _ _ _ => ?_))) fun v H1 l ⟨ns, h, h1, h2⟩ => ⟨ns, h, by rw [h1]; omega, h2⟩) fun z H8 l _ r => q z H8 l r
    exact ev_near fN hr (ev_i 0 rfl) (ev_i 2 rfl) m0 m1
theorem ev_small {X : Cx} {d : Addr} {σ : L2.St} {H : Hp} {a b c : Expr} {n : Nat} {m : Int} {p pos : Pos} (F : Fk X.prog X.w X.K X.mg X.base "_law_small_form" 3 ["_law_dice_here", "_law_degree", "_law_most"] (spSmall T)) (hr : Room 3 X.A) (ha : EvE X T (some d) a σ H (is (.ref d))) (hb : EvE X T (some d) b σ H (is (.int (n : Int)))) (hcc : EvE X T (some d) c σ H (is (.int m))) (hn : n ≤ 100) (h0 : 0 ≤ m) (h1 : m ≤ 10 ^ 12) (hg : Gl X "_law_small_form" := by rfl)
    (he : starEach [a, b, c] X.env = (false, eval a X.env) :: starEach [b, c] X.env := by rfl) (he2 : starEach [b, c] X.env = (false, eval b X.env) :: starEach [c] X.env := by rfl) (he3 : starEach [c] X.env = (false, eval c X.env) :: starEach [] X.env := by rfl) (hpl : (backTo pos (starEach [b, c] X.env)).any (·.1) = false := by rfl) : EvE X T (some d) (.Call (.Name "_law_small_form" p) [a, b, c] [] pos) σ H (IE (Fo (n + 1) m)) :=
  ev_call3 F hr ha hb hcc (fun x y z H3 l hx hy hz Q q => ⟨d, n, m, by rw [show x = _ from hx, show y = _ from hy, show z = _ from hz], hn, h0, h1, (l.dice d rfl).2, fun z H4 l4 r => q z H4 l4 r⟩) hg he he2 he3 hpl
/-! ### _law_form -/
theorem fo_g {n : Nat} {m : Int} {ns : List Int} (h : Fo n m ns) (i : Nat) : (K63.g ns i).natAbs ≤ m.natAbs := by
  by_cases hi : i < ns.length
  · have := h.2 _ (K63.g_mem hi)
    omega
  · rw [K63.g_ge (by omega)]
    exact Nat.zero_le _
theorem fo_of {n : Nat} {m : Int} {ns : List Int} (hl : ns.length = n) (h : ∀ i, ((K63.g ns i).natAbs : Int) ≤ m) : Fo n m ns := ⟨hl, fun x hx => by
  obtain ⟨i, hi, e⟩ := List.getElem_of_mem hx
  have := h i
  rw [K63.g_get (show ns[i]? = some x by rw [List.getElem?_eq_getElem hi, e])] at this
  omega⟩
/-- a list of tuples that are not known whole: they are some -/
theorem lines_of {d : Option Addr} {n : Nat} {Pr : List Int → Prop} {v : V} {H : Hp} (h : LG d n (fun _ => IE Pr) v H) : ∃ ls : List (List Int), ls.length = n ∧ (∀ l ∈ ls, Pr l) ∧ LT none ls v H := by
  obtain ⟨a, vs, e, _, hx, hl, hi⟩ := h
  have key : ∀ (vs : List V), (∀ (i : Nat) (x : V), vs[i]? = some x → IE Pr x H) → ∃ ls : List (List Int), ls.length = vs.length ∧ (∀ l ∈ ls, Pr l) ∧ ∀ (i : Nat) (x : V), vs[i]? = some x → IT (ls.getD i []) x H := by
    intro vs
    induction vs with
    | nil => exact fun _ => ⟨[], rfl, (fun l h => by cases h), fun i x h => by simp at h⟩
    | cons v r ih =>
      intro hi
      obtain ⟨ls, h1, h2, h3⟩ := ih fun i x h => hi (i + 1) x h
      obtain ⟨ns, h4, h5⟩ := hi 0 v rfl
      refine ⟨ns :: ls, by rw [List.length_cons, List.length_cons, h1], fun l h => ?_, fun i x h => ?_⟩
      · rcases List.mem_cons.mp h with h | h
        · rw [h]
          exact h5
        · exact h2 l h
      · cases i with
        | zero =>
          have ex : v = x := Option.some.inj h
          rw [← ex]
          exact h4
        | succ i => exact h3 i x h
  obtain ⟨ls, h1, h2, h3⟩ := key vs fun i x h => hi i x h
  exact ⟨ls, h1.trans hl, h2, a, vs, e, (fun z => by cases z), hx, h1.symm, h3⟩
def spForm (T : Addr) : Sp := fun vs H Q _ => ∃ (d : Addr) (n : Nat), vs = [.ref d, .int n] ∧ n ≤ 7 ∧ Dice H d ∧ ∀ z H', Le T (some d) H H' → IE (Fo (n + 1) (10 ^ 12)) z H' → Q z H'
theorem sc68 : FnScope ["_law_dice_here", "_law_degree", "_law_way", "_law_turn", "_law_line_here", "_law_often", "_law_found", "_law_place"] ["_law_dice_here", "_law_degree"] (defScope (top 68)) := ⟨rfl, rfl, rfl, by decide +kernel, rfl, by decide +kernel, by decide +kernel⟩
theorem Fo.up {n : Nat} {m : Int} {ns : List Int} (h : Fo n m ns) (hm : m ≤ 10 ^ 12) : Fo n (10 ^ 12) ns := ⟨h.1, fun x hx => by have := h.2 x hx; omega⟩
theorem ie_up {Pr Qr : List Int → Prop} (h : ∀ ns, Pr ns → Qr ns) {v : V} {H : Hp} (i : IE Pr v H) : IE Qr v H := let ⟨ns, a, b⟩ := i; ⟨ns, a, h ns b⟩
theorem prod_fo {ls : List (List Int)} (hl : Lines ls) : (K63.prodAll ls).length = ls.length + 1 ∧ ∀ i, (K63.g (K63.prodAll ls) i).natAbs ≤ 1410877440 := by
  have h := K63.prodAll_ok hl.2 ls.length (Nat.le_refl _)
  rw [List.take_length] at h
  exact ⟨h.1, fun i => Nat.le_trans (h.2 i) (K63.bd_mono hl.1)⟩
/-- a power of a point -/
def PwP (n : Nat) (ns : List Int) : Prop := ns.length = n + 1 ∧ ∀ i, (K63.g ns i).natAbs ≤ 1410877440
theorem ev_pw {X : Cx} {d : Addr} {σ : L2.St} {H : Hp} {a b : Expr} {k : Nat} {p pos : Pos} (F : Fk X.prog X.w X.K X.mg X.base "_law_power" 2 ["_law_pair", "_law_times"] (spPow T)) (hr : Room 2 X.A) (ha : EvE X T (some d) a σ H (IE Pt)) (hb : EvE X T (some d) b σ H (is (.int (k : Int)))) (hk : k ≤ 7) (hg : Gl X "_law_power" := by rfl)
    (he : starEach [a, b] X.env = (false, eval a X.env) :: starEach [b] X.env := by rfl) (he2 : starEach [b] X.env = (false, eval b X.env) :: starEach [] X.env := by rfl) (hpl : (backTo pos (starEach [b] X.env)).any (·.1) = false := by rfl) : EvE X T (some d) (.Call (.Name "_law_power" p) [a, b] [] pos) σ H (IE (PwP k)) :=
  ev_call2 F hr ha hb (fun x y H3 l ⟨ns, hx, hp⟩ hy Q q => by
    have hl : Lines (List.replicate k ns) := ⟨by rw [List.length_replicate]; exact hk, fun l hl => by rw [List.eq_of_mem_replicate hl]; exact hp⟩
    have hf := prod_fo hl
    rw [List.length_replicate] at hf
    exact ⟨x, ns, k, by rw [show y = _ from hy], hx, hl, fun z H4 l4 r => q z H4 (l4.weak fun d' z => (l.dice d' z).2) ⟨_, r, hf⟩⟩) hg he he2 hpl
theorem ev_ln {X : Cx} {d : Addr} {σ : L2.St} {H : Hp} {a : Expr} {p pos : Pos} (F : Fk X.prog X.w X.K X.mg X.base "_law_line" 1 ["_law_point_here"] (spLine T)) (hr : Room 1 X.A) (ha : EvE X T (some d) a σ H (IE Pt)) (hg : Gl X "_law_line" := by rfl)
    (he : starEach [a] X.env = (false, eval a X.env) :: starEach [] X.env := by rfl) : EvE X T (some d) (.Call (.Name "_law_line" p) [a] [] pos) σ H (IE Pt) :=
  ev_call1 F hr ha (fun x H3 l ⟨ns, hx, hp⟩ Q q => ⟨x, ns, rfl, hx, hp.1, fun z H4 l4 r => q z H4 (l4.weak fun d' z => (l.dice d' z).2) ⟨_, r, rfl, fun i => g_pair i (hp.2 1) (by have := hp.2 0; omega)⟩⟩) hg he
abbrev N68 : List Str := ["_law_dice_here", "_law_degree", "_law_way", "_law_turn", "_law_line_here", "_law_often", "_law_found", "_law_place"]
theorem ok_lform {f : Addr} {fd : FuncData} (F : FnP K "_law_form" 68 f fd) (G : G0 mg) (fR : Fk P w K mg base "_law_roll" 1 ["_law_dice_here", "_law_total"] (spRoll T)) (fN : Fk P w K mg base "_law_near" 2 ["_law_dice_here", "_law_most"] (spNear T)) (fPt : Fk P w K mg base "_law_point" 4 ["_law_dice_here", "_law_most"] (spPoint T))
    (fL : Fk P w K mg base "_law_line" 1 ["_law_point_here"] (spLine T)) (fA : Fk P w K mg base "_law_all_product" 2 ["_law_forms"] (spAll T)) (fW : Fk P w K mg base "_law_power" 2 ["_law_pair", "_law_times"] (spPow T)) (fM : Fk P w K mg base "_law_product" 1 ["_law_one", "_law_other"] (spJoin T))
    (fSm : Fk P w K mg base "_law_small_form" 3 ["_law_dice_here", "_law_degree", "_law_most"] (spSmall T)) (fSc : Fk P w K mg base "_law_scaled" 1 ["_law_form_here", "_law_factor"] (spScal T)) (fPl : Fk P w K mg base "_law_plus" 1 ["_law_one", "_law_other"] (spPlus T)) : FnOk P w K mg base CX0 5 f fd ["_law_dice_here", "_law_degree"] (spForm T) := by
  refine F.ok sc68 (fun vs H Q E h => ?_) (fun cdv A outer s H vs Q E hr h => ?_)
  · obtain ⟨d, n, rfl, _⟩ := h
    rfl
  · obtain ⟨d, n, rfl, hn, hd, q⟩ := h
    refine ⟨_, PSs.nox pb_w, ?_⟩
    refine hb_set (P := T) (Z := some d) 2 (Le.reflD hd) (ev_roll fR (hr.mono (by decide)) (ev_i 0 rfl) ev_c (by decide) (by decide)) sc68.nd fun u H1 l1 _ r => ?_
    obtain ⟨way, rfl, w0, w1⟩ := r
    refine hb_if (x := way == 0) l1 (et_c (ev_eqI (ev_i 2 rfl) ev_c)) (fun hx H2 l2 _ => ?_) fun hx H2 l2 _ => hb_nil ?_
    · refine hb_ret (R := IE (Fo (n + 1) (10 ^ 12))) l2 (ev_call1 (Ra := LG (some d) n fun _ => IE Pt) fA (hr.mono (by decide)) (Ev.imp (ev_lc sc68.nd (pi_range1 rfl G.range pa_w) (blkOk_by (own := [("_law_turn", 3)]) (N := N68) (sc := defScope (top 68)) (by decide +kernel)) (fun _ _ _ _ _ => pg_name (i := 3) sc68.nd rfl (Or.inl rfl))
        (lc_objs (R := fun _ => IE Pt) (es_range1 (ev_i 1 rfl) (by omega)).toN (bd_name (K := K)) (by omega) (fun _ _ _ _ => rfl) (fun _ _ => ob_ie) fun i u H1 hi l hu => eb_of fun _ _ _ _ _ => ?_)) fun v H1 l h => by
          have := lg_of h
          rw [Int.toNat_natCast] at this
          exact this) fun x H3 l hx Q q => ?_) fun z H8 l _ r => q z H8 l r
      · exact ev_ln fL (hr.mono (by decide)) (ev_point fPt hr (ev_i 0 rfl) ev_c)
      · obtain ⟨ls, h1, h2, h3⟩ := lines_of hx
        have hl : Lines ls := ⟨by omega, h2⟩
        have hf := prod_fo hl
        exact ⟨x, ls, rfl, h3, hl, fun z H4 l4 r => q z H4 (l4.weak fun d' z => (l.dice d' z).2) ⟨_, r, fo_of (by omega) fun i => by have := hf.2 i; omega⟩⟩
    · refine hb_if (x := way == 1) l2 (et_c (ev_eqI (ev_i 2 rfl) ev_c)) (fun hx H3 l3 _ => ?_) fun hx H3 l3 _ => hb_nil ?_
      · refine hb_par 4 5 l3 (ea_cons (ev_ln fL (hr.mono (by decide)) (ev_point fPt hr (ev_i 0 rfl) ev_c)) (ea_cons (ev_roll fR (hr.mono (by decide)) (ev_i 0 rfl) (ev_add (ev_i 1 rfl) ev_c) (by omega) (by omega)) ea_nil)) sc68.nd fun vs H4 l4 _ r => ?_
        obtain ⟨x, r1, rfl, ⟨ns, hns, hpt⟩, y, r2, rfl, ⟨o, rfl, o0, o1⟩, e⟩ := r
        have e' : r2 = [] := e
        subst e'
        refine ⟨_, _, rfl, ?_⟩
        obtain ⟨k, rfl⟩ : ∃ k : Nat, o = (k : Int) := ⟨o.toNat, by omega⟩
        have hk : k ≤ n := by omega
        refine hb_ret (R := IE (Fo (n + 1) (10 ^ 12))) l4 (ev_call2 fM (hr.mono (by decide)) (ev_pw fW (hr.mono (by decide)) (ev_v (R := IE Pt) 4 rfl ⟨ns, hns, hpt⟩) (ev_i 5 rfl) (by omega)) (ev_small (n := n - k) (m := 4) fSm (hr.mono (by decide)) (ev_i 0 rfl) (Ev.eq (ev_sub (ev_i 1 rfl) (ev_i 5 rfl)) (by congr 1; omega)) ev_c (by omega) (by decide) (by decide)) fun x y H5 l ⟨a, hx, pa⟩ ⟨b, hy, pb⟩ Q q => ?_) fun z H8 l _ r => q z H8 l r
        have p1 := pa.1
        have p2 := pb.1
        have hbb := fo_g pb
        refine ⟨x, y, a, b, rfl, hx, hy, by omega, by omega, by omega, by omega, fun i j => Big.mul (big_of (b := 40) (Nat.lt_of_le_of_lt (pa.2 i) (by decide)) (by decide)) (big_of (b := 4) (Nat.lt_of_le_of_lt (hbb j) (by decide)) (by decide)), fun z H6 l6 r => q z H6 (l6.weak fun d' z => (l.dice d' z).2) ⟨_, r, fo_of (by rw [K63.mulL_len]; omega) fun i => ?_⟩⟩
        have sz := K63.mulL_size pa.2 hbb (by omega) i
        have h1 : a.length * (b.length * (1410877440 * (4 : Int).natAbs)) ≤ 8 * (8 * (1410877440 * 4)) := Nat.mul_le_mul (by omega) (Nat.mul_le_mul (by omega) (by decide))
        have h2 : 8 * (8 * (1410877440 * 4)) ≤ 10 ^ 12 := by decide
        omega
      · refine hb_if (x := way == 2) l3 (et_c (ev_eqI (ev_i 2 rfl) ev_c)) (fun hx H4 l4 _ => ?_) fun hx H4 l4 _ => hb_nil ?_
        · refine hb_set 6 l4 (ev_tuple G.tuple (ev_lc sc68.nd (pi_range1 rfl G.range pa_w) (blkOk_by (own := [("_law_place", 7)]) (N := N68) (sc := defScope (top 68)) (by decide +kernel)) (fun _ _ _ _ _ => pg_name (i := 7) sc68.nd rfl (Or.inl rfl))
            (lc_vals (es_range1 (ev_add (ev_i 1 rfl) ev_c) (by omega)).toN (bd_name (K := K)) (by omega) (fun _ _ _ _ => rfl) (fun _ => .int 0) fun i u H1 hi l hu => eb_of fun _ _ _ _ _ => ev_c))) sc68.nd fun u H5 l5 _ r => ?_
          rw [map_zero] at r
          refine hb_forE (hi := 3) (fun i σ' H' => ∃ u x3, σ' = [some (.ref d), some (.int n), some (.int way), x3, none, none, some u, none] ∧ IE (fun ns => ns.length = n + 1 ∧ ∀ j, (K63.g ns j).natAbs ≤ i * 5643509760) u H') G.range (by rfl) (pg_name (i := 3) sc68.nd rfl (Or.inl rfl)) l5 (ev_op2 op_add (Ra := is (.int 1)) ev_c (ev_roll fR (hr.mono (by decide)) (ev_i 0 rfl) ev_c (by decide) (by decide)) fun x y H1 l hx ⟨o, hy, o0, o1⟩ Q q => ⟨1, o, hx, hy, q _ H1 l.right ⟨_, rfl, by omega, by omega⟩⟩) (by decide) (fun _ => bd_name (K := K)) (fun H6 l => ⟨u, none, rfl, _, mono_tv.up _ _ _ l r, by rw [List.length_replicate]; omega, fun j => by rw [K63.g_rep]; exact Nat.zero_le _⟩) (fun i t σ' H' H6 hi _ l6 p l7 => ?_) fun i σ' H' hi l6 _ p => ?_
          · obtain ⟨u, x3, rfl, hu⟩ := p
            refine hb_set 6 l6 (R := IE (fun ns => ns.length = n + 1 ∧ ∀ j, (K63.g ns j).natAbs ≤ (i + 1) * 5643509760)) (ev_call2 fPl (hr.mono (by decide)) (ev_v 6 rfl (mono_ie.up _ _ _ l7 hu)) (ev_call2 (R := IE (fun ns => ns.length = n + 1 ∧ ∀ j, (K63.g ns j).natAbs ≤ 5643509760)) fSc (hr.mono (by decide)) (ev_pw fW (hr.mono (by decide)) (ev_point fPt hr (ev_i 0 rfl) ev_c) (ev_i 1 rfl) hn) (ev_near fN (hr.mono (by decide)) (ev_i 0 rfl) ev_c (by decide) (by decide)) fun x y H7 l ⟨a, hx, pa⟩ ⟨c, hy, c0, c1⟩ Q q => ?_) fun x y H7 l ⟨a, hx, pa⟩ ⟨b, hy, pb⟩ Q q => ?_) sc68.nd fun z H7 _ l8 r => hb_nil ⟨l8, z, _, rfl, r⟩
            · have p1 := pa.1
              refine ⟨x, a, c, by rw [hy], hx, by omega, fun j => Big.mul (big_of (b := 4) (Nat.lt_of_le_of_lt (show c.natAbs ≤ 4 by omega) (by decide)) (by decide)) (big_of (b := 40) (Nat.lt_of_le_of_lt (pa.2 j) (by decide)) (by decide)), fun z H8 l8 r => q z H8 (l8.weak fun d' z => (l.dice d' z).2) ⟨_, r, by rw [K63.tab_len]; exact p1, fun j => ?_⟩⟩
              by_cases hj : j < a.length
              · rw [K63.tab_g hj, Int.natAbs_mul]
                exact Nat.mul_le_mul (show c.natAbs ≤ 4 by omega) (pa.2 j)
              · rw [K63.tab_ge (by omega)]
                exact Nat.zero_le _
            · have p1 := pa.1
              have p2 := pb.1
              refine ⟨x, y, a, b, rfl, hx, hy, by omega, by omega, fun z H8 l8 r => q z H8 (l8.weak fun d' z => (l.dice d' z).2) ⟨_, r, by rw [K63.tab_len]; exact p1, fun j => ?_⟩⟩
              by_cases hj : j < a.length
              · rw [K63.tab_g hj]
                have := pa.2 j
                have := pb.2 j
                omega
              · rw [K63.tab_ge (by omega)]
                exact Nat.zero_le _
          · obtain ⟨u, x3, rfl, hu⟩ := p
            refine hb_ret (R := IE (Fo (n + 1) (10 ^ 12))) l6 (ev_v 6 rfl (ie_up (fun ns h => fo_of h.1 fun j => ?_) hu)) fun z H8 l _ r => q z H8 l r
            have h1 := h.2 j
            have h2 : i * 5643509760 ≤ 3 * 5643509760 := Nat.mul_le_mul_right _ (by omega)
            omega
        · refine hb_if (x := way == 3) l4 (et_c (ev_eqI (ev_i 2 rfl) ev_c)) (fun hx H5 l5 _ => ?_) fun hx H5 l5 _ => hb_nil ?_
          · refine hb_ret (R := IE (Fo (n + 1) (10 ^ 12))) l5 (Ev.imp (ev_tupleE (Pr := fun ns => ns.length = ((n : Int) + 1).toNat ∧ ∀ x ∈ ns, -3 ≤ x ∧ x ≤ 3) G.tuple (ev_lc sc68.nd (pi_range1 rfl G.range pa_w) (blkOk_by (own := [("_law_place", 7)]) (N := N68) (sc := defScope (top 68)) (by decide +kernel)) (fun _ _ _ _ _ => pg_name (i := 7) sc68.nd rfl (Or.inl rfl))
              (lc_ints (es_range1 (ev_add (ev_i 1 rfl) ev_c) (by omega)).toN (bd_name (K := K)) (by omega) (fun _ _ _ _ => rfl) fun i u H1 hi l hu => eb_of fun _ _ _ _ _ => ?_))) fun v H1 l ⟨ns, h, h1, h2⟩ => ⟨ns, h, by rw [h1]; omega, fun x hx => by have := h2 x hx; omega⟩) fun z H8 l _ r => q z H8 l r
            refine ev_op2 op_mulW (ev_near fN (hr.mono (by decide)) (ev_i 0 rfl) ev_c (by decide) (by decide)) (ev_roll fR (hr.mono (by decide)) (ev_i 0 rfl) ev_c (by decide) (by decide)) fun x y H1 l ⟨a, hx, a0, a1⟩ ⟨b, hy, b0, b1⟩ Q q => ⟨a, b, hx, hy, Big.mul (big_of (b := 4) (Nat.lt_of_le_of_lt (show a.natAbs ≤ 3 by omega) (by decide)) (by decide)) (big_of (b := 4) (Nat.lt_of_le_of_lt (show b.natAbs ≤ 3 by omega) (by decide)) (by decide)), q _ H1 l.right ⟨_, rfl, ?_, ?_⟩⟩
            · rcases (show b = 0 ∨ b = 1 by omega) with h | h <;> rw [h] <;> omega
            · rcases (show b = 0 ∨ b = 1 by omega) with h | h <;> rw [h] <;> omega
          · refine hb_ifX l5 (ex_and (x := way == 4) (et_c (ev_eqI (ev_i 2 rfl) ev_c)) (ex_c (ev_cmp2 op_eq (Rb := is (.int 0)) (ev_roll fR (hr.mono (by decide)) (ev_i 0 rfl) ev_c (by decide) (by decide)) ev_c fun x y H1 l ⟨a, hx, _, _⟩ hy Q q => ⟨by rw [hx, show y = _ from hy]; rfl, q _ H1 l.right ⟨_, rfl⟩⟩))) (fun H6 l6 _ => ?_) fun H6 l6 _ => hb_nil ?_
            · refine hb_ret (R := IE (Fo (n + 1) (10 ^ 12))) l6 (Ev.imp (ev_tupleE (Pr := fun ns => ns.length = ((n : Int) + 1).toNat ∧ ∀ x ∈ ns, -(10 ^ 12) ≤ x ∧ x ≤ 10 ^ 12) G.tuple (ev_lc sc68.nd (pi_range1 rfl G.range pa_w) (blkOk_by (own := [("_law_place", 7)]) (N := N68) (sc := defScope (top 68)) (by decide +kernel)) (fun _ _ _ _ _ => pg_name (i := 7) sc68.nd rfl (Or.inl rfl))
                (lc_ints (es_range1 (ev_add (ev_i 1 rfl) ev_c) (by omega)).toN (bd_name (K := K)) (by omega) (fun _ _ _ _ => rfl) fun i u H1 hi l hu => eb_of fun _ _ _ _ _ => ?_))) fun v H1 l ⟨ns, h, h1, h2⟩ => ⟨ns, h, by rw [h1]; omega, h2⟩) fun z H8 l _ r => q z H8 l r
              exact ev_near (m := 10 ^ 12) fN (hr.mono (by decide)) (ev_i 0 rfl) (ev_pow ev_c ev_c ⟨by decide, by decide, by decide⟩) (by decide) (by decide)
            · exact hb_ret (R := IE (Fo (n + 1) (10 ^ 12))) l6 (Ev.imp (ev_small (n := n) (m := 6) fSm (hr.mono (by decide)) (ev_i 0 rfl) (ev_i 1 rfl) ev_c (by omega) (by decide) (by decide)) fun v H1 l h => ie_up (fun ns h => h.up (by decide)) h) fun z H8 l _ r => q z H8 l r
end
end K6

/-! ## D16 -/
set_option Elab.async false
set_option linter.all false
set_option maxRecDepth 100000
set_option maxHeartbeats 4000000
set_option exponentiation.threshold 100000
namespace K6
open PySem PySem.Spec PyProof.Rows L2 SlX
/-! ### iter(tuple) -/
def TiO (t it : Addr) : HO := .ext fun h => h.IsTupleIter it t 0
theorem tiO_ok {P : Program} {w : World} {H : Hp} {h : Heap} {t it : Addr} (e : h.get? it = some { cls := .type "tuple_iterator", data := .fields #[.ref t, .int 0 0] }) : ObjOk P w H h it (TiO t it) :=
  ⟨⟨_, e, rfl, rfl⟩, ⟨_, e⟩, fun h1 h2 ⟨o, e1, r⟩ k => ⟨o, k o e1, r⟩⟩
theorem call_iter_tup {prog : Program} {w : World} {A : Around} {E : Value → Shared → Prop} {s : Shared} {t : Addr} {items : Array Value} {Q : Value → Shared → Prop} (ht : s.heap.IsTuple t items)
    (h : Q (.ref s.heap.objs.size) { s with heap := s.heap.push { cls := .type "tuple_iterator", data := .fields #[.ref t, .int 0 0] } }) : wpAny (model prog w) A (call (.builtin "iter") [.ref t]) Q E s := by
  refine Calls.call_function_entry (by decide +kernel) (by decide +kernel) PySem.W.kdk_entry_iter (PySem.W.kdk_args_iter _) ?_
  unfold Builtin.«iter»
  refine wpAny_bind (m := someArgs "iter" 1 2 _) (wpAny_of_eq (a := [Value.ref t]) (by first | rfl | kernel_rfl!) ?_)
  show wpAny _ _ (pyIter (.ref t) >>= _) _ _ _
  refine wpAny_bind (wpAny_pyIter_tuple ht ?_)
  exact wpAny_pure ⟨_, rfl, h⟩
theorem call_iterT {X : Cx} : CallR X (.builtin "iter") (fun xs H Q => ∃ t ys, xs = [.ref t] ∧ SqT X.K H t ys ∧ ∀ it, H it = none → (∀ b u, H b = some u → b < it) → Q (.ref it) (upd H it (TiO t it))) := by
  intro pins s σ H xs us Q I r h
  obtain ⟨t, ys, rfl, hq, q⟩ := h
  obtain ⟨u, rfl, ru⟩ := vals1 r
  cases ru
  obtain ⟨its, rv, pl, hz⟩ := I.tuple hq
  refine call_iter_tup pl ?_
  exact ⟨.ref s.heap.objs.size, _, I.laid (t' := s.toks) (fun b u e => Heap.get?_push_of_some _ e) (Nat.le_refl _) (tiO_ok (Heap.get?_push_size _ rfl)), rfl, q _ (I.hok.fresh (Nat.le_refl _)) fun b u e => by
    cases g : s.heap.get? b with
    | none => rw [L2.HOk.gone I.hok g] at e; cases e
    | some o => exact Heap.lt_size g⟩
def spIter (T C : Addr) : Sp := fun vs H Q _ => ∃ (v : V) (ns : List Int), vs = [v] ∧ Box C ns v H ∧ ∀ it t H', Le T none H H' → (∀ b u, H b = some u → b < it) → H' it = some (TiO t it) → H' t = some (.tup (ns.map V.int)) → Q (.ref it) H'
section
variable {P : Program} {w : World} {K : PySem.W.Frag} {mg : Str → Option Value} {base : Heap} {T CF : Addr}
theorem ok_iter {f : Addr} {fd : FuncData} (F : FnC K "__iter__" "Form.__iter__" 36 20 f fd) (G : G0 mg) (c : Cls K CF "own_entries") : FnOk P w K mg base CX0 1 f fd ["self"] (spIter T CF) := by
  have sc : FnScope ["self"] ["self"] (defScope (inClass (top 36) 20)) := ⟨rfl, rfl, rfl, by decide +kernel, rfl, by decide +kernel, by decide +kernel⟩
  refine F.ok sc (fun vs H Q E h => ?_) (fun cdv A outer s H vs Q E hr h => ?_)
  · obtain ⟨v, ns, rfl, _⟩ := h
    rfl
  · obtain ⟨v, ns, rfl, hv, q⟩ := h
    refine ⟨_, PSs.nox pb_w, ?_⟩
    refine hb_ret (P := T) (Z := none) (R := fun v H1 => ∃ it t, v = .ref it ∧ (∀ b u, H b = some u → b < it) ∧ H1 it = some (TiO t it) ∧ H1 t = some (.tup (ns.map V.int))) (Le.refl0 H) (ev_bf1 call_iterT G.iter (by decide +kernel) (ev_slot c (ev_v (R := Box CF ns) 0 rfl hv)) fun u H1 l ⟨t, e, ht⟩ Q q => ⟨t, _, by rw [e], SqT.of ht, fun it hit lt => q _ _ (l.right.mut hit) ⟨it, t, rfl, (fun b u e => by
      cases g : H1 b with
      | none => rw [l.dom b g] at e; cases e
      | some o => exact lt b o g), upd_same, by rw [upd_ne (ne_of_none ht hit)]; exact ht⟩⟩) fun z H8 l _ ⟨it, t, e, h0, h1, h2⟩ => ?_
    rw [e]
    exact q it t H8 l h0 h1 h2
end
/-! ### tuple(form) -/
section
variable {X : Cx} {pins : List (Addr × Obj)} {σ : L2.St} {H : Hp} {s : Shared} {T C a fi fl : Addr} {ns : List Int} {n : Nat}
theorem ti_hint {M : Model} {A : Around} {E : Value → Shared → Prop} {Q : Bool → Shared → Prop} {k : Nat} {ox : Obj} {od : Option Obj} (X₀ : X.K.In s.heap) (J : PySem.W.InstAt s.heap a ox C od) (hl : PySem.W.findIn X.K (.ref C) "__len__" = some (some (.ref fl)))
    (h : wpAny M A (call (.builtin "len") [.ref a]) (fun v s' => ∃ t, v = .int (k : Int) t ∧ k < 1000 ∧ ∀ b, Q b s') (fun _ _ => False) s) : wpAny M A (Builtin.List.listLengthHint (.ref a)) Q E s := by
  unfold Builtin.List.listLengthHint
  refine wpAny_bind (wpAny_bind (J.type.here ((PySem.W.looks_findIn X₀ hl).here ?_)))
  refine PySem.W.KFB.if_not rfl ?_
  refine PySem.W.KFB.if_so rfl ?_
  refine wpAny_bind (wpAny_rule (wpAny_bind (wpAny_attempt (wpAny_mono h (fun v s' hv => ?_) fun e s' he => he.elim))))
  obtain ⟨t, rfl, hk, hq⟩ := hv
  refine wpAny_bind (wpAny_of_eq (a := some (k : Int)) (by first | rfl | kernel_rfl!) ?_)
  refine PySem.W.KFB.if_not ?_ (wpAny_pure (hq _))
  show decide ((k : Int).toNat > sizeLine) = false
  have h9 : 1000 < sizeLine := by decide
  exact decide_eq_false (by omega)
theorem run_0 {A : Around} {Q : VK} {us : List Value} {ws : List V} {g : Addr} {sp : Sp} (F : FnR X.prog X.w X.K X.mg X.base CX0 n g sp) (hr : Room n A) (hA : A.frames = X.A.frames) (I : Inv X pins σ H s) (r : Vals ws us) (h : sp ws H Q E0) :
    wpAny (model X.prog X.w) A (call (.ref g) us) (EP X pins σ Q) (fun _ _ => False) s := by
  have e0 : Env0 X.prog X.w X.K X.mg X.base A X.stack s H := by
    have e := I.env0
    exact ⟨by rw [hA]; exact e.frames, e.mod, e.bs, e.bsz, e.funs, e.frf, e.hok, e.bare⟩
  refine wpAny_call (codeAny_mono (F A X.stack s H us ws Q E0 hr e0 r h) fun r s' hq => ?_)
  cases r with
  | error e => exact hq
  | ok fl =>
    cases fl with
    | ret u => exact I.after hq
    | next => exact hq
    | brk => exact hq
    | cont => exact hq
theorem collect_box {A : Around} {fiR : FnR X.prog X.w X.K X.mg X.base CX0 n fi (spIter T C)} {flR : FnR X.prog X.w X.K X.mg X.base CX0 n fl (spLen T C)} (hi : PySem.W.findIn X.K (.ref C) "__iter__" = some (some (.ref fi))) (hiF : PySem.W.isFn X.K (.ref fi) = true) (hl : PySem.W.findIn X.K (.ref C) "__len__" = some (some (.ref fl))) (hlF : PySem.W.isFn X.K (.ref fl) = true)
    (hr : Room (n + 2) A) (hA : A.frames = X.A.frames) (I : Inv X pins σ H s) (hb : Box C ns (.ref a) H) (hn : ns.length < 1000) {E : Value → Shared → Prop} {Q : List Value → Shared → Prop}
    (hQ : ∀ its s' H', Inv X pins σ H' s' → Le T none H H' → Vals (ns.map V.int) its → Q its s') : wpAny (model X.prog X.w) A (collect (.ref a)) Q E s := by
  unfold collect
  refine wpAny_bind (wpAny_runValue (codeAny_builtin F.entry_proto_collect ?_))
  rw [Around.under_plainId F.plain_proto_collect _]
  show wpAny _ A.in1 (newList [] >>= fun l => again (.builtin "list.__iadd__" ⟨[l, .ref a], []⟩)) _ _ s
  refine wpAny_bind (wpAny_newObj_type ?_)
  refine wpAny_pure ⟨plainId_quiet F.plain_list_iadd _, codeAny_builtin F.entry_list_iadd ?_⟩
  rw [Around.under_plainId F.plain_list_iadd _]
  have hS0 : (s.heap.push { cls := .type "list", data := .seq ([] : List Value).toArray }).get? s.heap.objs.size = some { cls := .type "list", data := .seq ([] : List Value).toArray } := Heap.get?_push_size _ rfl
  generalize hSz : s.heap.objs.size = S at hS0 ⊢
  have sS : X.s_0.heap.objs.size ≤ S := by rw [← hSz]; exact I.sz
  have HS : H S = none := I.hok.fresh (by rw [hSz]; exact Nat.le_refl _)
  have I1 : Inv X pins σ (upd H S (.ext fun h => h.get? S = some { cls := .type "list", data := .seq ([] : List Value).toArray })) { s with heap := s.heap.push { cls := .type "list", data := .seq ([] : List Value).toArray } } :=
    I.laid (t' := s.toks) (fun b u e => Heap.get?_push_of_some _ e) (by rw [hSz]; exact Nat.le_refl _) ⟨hS0, ⟨_, hS0⟩, fun h1 h2 e k => k _ e⟩
  have l1 : Le T none H (upd H S (.ext fun h => h.get? S = some { cls := .type "list", data := .seq ([] : List Value).toArray })) := (Le.refl0 H).mut HS
  have hS1 : (upd H S (.ext fun h => h.get? S = some { cls := .type "list", data := .seq ([] : List Value).toArray })) S = some (.ext fun h => h.get? S = some { cls := .type "list", data := .seq ([] : List Value).toArray }) := upd_same
  have hb1 := mono_box.up (P := T) (Z := none) _ _ _ l1 hb
  generalize upd H S (.ext fun h => h.get? S = some { cls := .type "list", data := .seq ([] : List Value).toArray }) = H1 at I1 l1 hS1 hb1
  generalize ({ s with heap := s.heap.push { cls := .type "list", data := .seq ([] : List Value).toArray } } : Shared) = s1 at I1 ⊢
  show wpAny _ A.in1 (Builtin.List.listExtendWith (.ref S) (.ref a) (.ref S)) _ _ s1
  obtain ⟨a', dx, e1, ea, hs1, ht1⟩ := id hb1
  cases ea
  obtain ⟨sl, od, _, J, _⟩ := slt_inst I1 hs1
  obtain ⟨m, hF⟩ := I1.fr
  have gS : s1.heap.get? S = some { cls := .type "list", data := .seq ([] : List Value).toArray } := (show _ ∧ _ from I1.hok S _ hS1).1
  have nSa : S ≠ a := fun z => by
    obtain ⟨_, sl2, mA, e, _⟩ := slt_at I1 hs1
    rw [← z, gS] at e
    cases e
  unfold Builtin.List.listExtendWith
  refine wpAny_bind (J.type.here ?_)
  have h1 : Builtin.List.listSameRef (.ref S) (.ref a) = false := by simp [Builtin.List.listSameRef, nSa]
  have h2 : (Value.ref C == Value.type "list") = false := rfl
  have h3 : (Value.ref C == Value.type "tuple") = false := rfl
  simp only [h1, h2, h3, Bool.or_false, Bool.false_eq_true, if_false]
  have hrA : Room n A.in1 := (Room.in1 hr).mono (Nat.le_succ _)
  have hrA2 : Room n A.in1.in1 := Room.in1 (Room.in1 hr)
  refine wpAny_bind (PySem.W.owit_iter hF I1.ok.mod.kin J hi hiF (wpAny_mono (run_0 (Q := fun v H' => ∃ it' t, v = .ref it' ∧ Le T none H1 H' ∧ (∀ b u, H1 b = some u → b < it') ∧ H' it' = some (TiO t it') ∧ H' t = some (.tup (ns.map V.int))) (us := [.ref a]) (ws := [.ref a]) fiR hrA hA I1 (.cons rfl .nil) ⟨.ref a, ns, rfl, hb1, fun it t H' l h0 h1 h2 => ⟨it, t, rfl, l, h0, h1, h2⟩⟩) (fun v s2 hv => ?_) fun _ _ z => z.elim))
  obtain ⟨x, H2, I2, rx, it, t, ex, l2, hlt, hit, ht⟩ := hv
  subst ex
  obtain rfl : v = Value.ref it := rx
  have git : s2.heap.IsTupleIter it t 0 := (show _ ∧ _ from I2.hok it _ hit).1
  have Tit : s2.TypeIs (.ref it) "tuple_iterator" := let ⟨o, e, c, _⟩ := git; ⟨o, e, c⟩
  unfold PySem.W.OwitIt
  refine wpAny_specialOf (name := Str.ofString "__next__") Tit F.slot_tuple_iterator_next.lookup ?_
  refine wpAny_bind (wpAny_holding ?_)
  have hb2 := mono_box.up (P := T) (Z := none) _ _ _ l2 hb1
  obtain ⟨a', dx2, e1, ea, hs2, ht2⟩ := id hb2
  cases ea
  obtain ⟨sl2, od2, _, J2, _⟩ := slt_inst I2 hs2
  obtain ⟨m2, hF2⟩ := I2.fr
  refine ti_hint (k := ns.length) I2.kIn J2 hl (PySem.W.len_K hF2 I2.ok.mod.kin J2 hl hlF (wpAny_mono (run_0 (Q := fun v H' => v = .int (ns.length : Int) ∧ Le T none H2 H') (us := [.ref a]) (ws := [.ref a]) flR hrA2 hA I2 (.cons rfl .nil) ⟨.ref a, ns, rfl, hb2, fun H' l => ⟨rfl, l⟩⟩) (fun v s3 hv => ?_) fun _ _ z => z))
  obtain ⟨x, H3, I3, rx, ex, l3⟩ := hv
  subst ex
  obtain ⟨tk, rfl⟩ := rx
  refine ⟨⟨by omega, by omega⟩, ?_⟩
  have I4 := I3.tok (s3.toks + 1)
  refine ⟨_, rfl, hn, fun bb => ?_⟩
  generalize ({ s3 with toks := s3.toks + 1 } : Shared) = s4 at I4 ⊢
  have l23 := l2.trans l3
  have hS3 : H3 S = some (.ext fun h => h.get? S = some { cls := .type "list", data := .seq ([] : List Value).toArray }) := l23.keep S _ (fun z => by cases z) nt_ext hS1
  have hit3 : H3 it = some (TiO t it) := l3.keep it _ (fun z => by cases z) nt_ext hit
  have ht3 : H3 t = some (.tup (ns.map V.int)) := tup_up l3 ht
  have gS4 : s4.heap.get? S = some { cls := .type "list", data := .seq ([] : List Value).toArray } := (show _ ∧ _ from I4.hok S _ hS3).1
  have git4 : s4.heap.IsTupleIter it t 0 := (show _ ∧ _ from I4.hok it _ hit3).1
  obtain ⟨its, rv, plt, _⟩ := I4.tuple (SqT.of (K := X.K) ht3)
  have tt : s4.heap.IsTuple t its.toArray := plt
  have nSit : S ≠ it := fun z => by
    obtain ⟨o, e, c, _⟩ := git4
    rw [← z, gS4] at e
    cases e
    exact absurd (Value.type.inj c) (by decide)
  have nSt : S ≠ t := fun z => by
    rw [← z, hS3] at ht3
    cases ht3
  have ntit : t ≠ it := fun z => by
    rw [z, hit3] at ht3
    cases ht3
  have hlen : its.length = ns.length := by rw [← rv.length, List.length_map]
  have sit : X.s_0.heap.objs.size ≤ it := Nat.le_of_lt (Nat.lt_of_le_of_lt sS (hlt S _ hS1))
  have I5 := ItX.inv_drop I4 hS3
  have fS := ItX.inv_fp I4 hS3 sS
  have hit5 : ItX.dropH H3 S it = some (TiO t it) := by rw [ItX.dropH_ne (Ne.symm nSit)]; exact hit3
  have I6 := ItX.inv_drop I5 hit5
  have fit := ItX.inv_fp I5 hit5 sit
  have fS6 : FpOk X pins (ItX.dropH (ItX.dropH H3 S) it) S := ⟨by rw [ItX.dropH_ne nSit]; exact ItX.dropH_same, fS.2⟩
  have lf : Le T none H (ItX.dropH (ItX.dropH H3 S) it) := by
    have l13 := l1.trans l23
    have Hit : H it = none := by
      cases g : H it with
      | none => rfl
      | some u =>
        cases g1 : H1 it with
        | none => rw [l1.dom it g1] at g; cases g
        | some u1 => exact absurd (hlt it u1 g1) (Nat.lt_irrefl _)
    refine ⟨fun b o z nt e => ?_, fun b e => ?_, fun tb => ?_, fun d z => by cases z⟩
    · have b1 : b ≠ it := fun q => by rw [q, Hit] at e; cases e
      have b2 : b ≠ S := fun q => by rw [q, HS] at e; cases e
      rw [ItX.dropH_ne b1, ItX.dropH_ne b2]
      exact l13.keep b o z nt e
    · by_cases b1 : b = it
      · rw [b1]; exact Hit
      · rw [ItX.dropH_ne b1] at e
        by_cases b2 : b = S
        · rw [b2]; exact HS
        · rw [ItX.dropH_ne b2] at e
          exact l13.dom b e
    · obtain ⟨ps, e, k⟩ := l13.tab tb
      exact ⟨ps, by rw [ItX.dropH_ne (fun q => by rw [q, hit3] at e; cases e), ItX.dropH_ne (fun q => by rw [q, hS3] at e; cases e)]; exact e, k⟩
  have hh : A.in1.handled = none := hr.hd
  have W := (Walks.tuple (prog := X.prog) (w := X.w) (A := A.in1) hh it t ntit its.toArray).toS
  have hSf : S ∉ [it, t] := fun z => by
    rcases List.mem_cons.mp z with z | z
    · exact nSit z
    · exact nSt (List.mem_singleton.mp z)
  have hsz : its.toArray.size ≤ sizeLine := by
    rw [List.size_toArray, hlen]
    have h9 : 1000 < sizeLine := by decide
    omega
  have fin : ∀ (R : Result → Shared → Prop) (s5 : Shared) (c : Nat), (∃ h5 tk, s5 = { s4 with heap := h5, toks := tk }) → (∀ b o, b ≠ S → s4.heap.get? b = some o → s5.heap.get? b = some o) → s5.heap.get? S = some { cls := .type "list", dict := none, data := .seq #[] c, slots := #[] } →
      (∀ s' c', s'.heap.get? S = some { cls := .type "list", dict := none, data := .seq its.toArray c', slots := #[] } → Inv X pins σ (ItX.dropH (ItX.dropH H3 S) it) s' → R (.ok (.ret (.ref S))) s') →
      codeAny (model X.prog X.w) A (.builtin "list.extend.loop" ⟨[.ref S, .ref it, .ref S], []⟩) R s5 := by
    intro R s5 c e5 k5 g5 hR
    have git5 : s5.heap.IsTupleIter it t 0 := let ⟨o, e, r⟩ := git4; ⟨o, k5 it o (Ne.symm nSit) e, r⟩
    have tt5 : s5.heap.IsTuple t its.toArray := tt.at fun o e => k5 t o (Ne.symm nSt) e
    refine codeAny_extend_loopS W hsz S hSf (.ref S) its.toArray.size 0 s5 #[] c (Nat.sub_zero _) (Nat.zero_le _) ⟨git5, tt5⟩ g5 (ItemsOf.nil _) fun s' acc' c' hm hS' hacc => ?_
    have ea : acc' = its.toArray := by
      refine Array.ext (by rw [hacc.1]) fun i h1 h2 => ?_
      have h9 : its.toArray[i]? = some acc'[i] := hacc.2 i _ (Array.getElem?_eq_getElem h1)
      rw [Array.getElem?_eq_getElem h2] at h9
      exact (Option.some.inj h9).symm
    rw [ea] at hS'
    refine hR s' c' hS' ?_
    obtain ⟨h5, tk5, rfl⟩ := e5
    have J := I6.turnedL (h' := s'.heap) (t' := s'.toks) (ch := [S, it]) (fun b o hb e => hm.heap b o hb (k5 b o (fun z => hb (by rw [z]; exact List.mem_cons_self)) e)) (fun b hb => by
      rcases List.mem_cons.mp hb with z | z
      · rw [z]; exact fS6
      · rw [List.mem_singleton.mp z]; exact fit)
    have es : ({ s4 with heap := s'.heap, toks := s'.toks } : Shared) = s' := by
      obtain ⟨q1, q2, q3, q4, q5⟩ := s'
      have h1 : q2 = s4.gens := hm.gens
      have h2 : q3 = s4.drawn := hm.drawn
      have h3 : q5 = s4.os := hm.os
      subst h1 h2 h3
      rfl
    rw [es] at J
    exact J
  have done : ∀ s' c', s'.heap.get? S = some { cls := .type "list", dict := none, data := .seq its.toArray c', slots := #[] } → Inv X pins σ (ItX.dropH (ItX.dropH H3 S) it) s' → wpAny (model X.prog X.w) A (load S >>= fun o => match o.data with
      | Data.seq xs epoch => pure xs.toList
      | x => unsupported "internal:collect") Q E s' := fun s' c' g J => by
    refine wpAny_bind (wpAny_load g ?_)
    refine wpAny_pure (hQ _ s' _ J lf ?_)
    rw [List.toList_toArray]
    exact rv
  refine wpAny_ite_split (fun _ => ?_) fun _ => wpAny_pure ⟨plainId_quiet PySem.F.plain_extend_loop _, fin _ s4 0 ⟨s4.heap, s4.toks, rfl⟩ (fun _ _ _ e => e) gS4 fun s' c' g J => done s' c' g J⟩
  refine wpAny_bind (wpAny_rule ?_)
  refine wpAny_bind ?_
  show wpAny _ A.in1 (updateSeq S (·.push .none) >>= fun _ => updateSeq S (·.pop)) _ _ _
  refine wpAny_bind (wpAny_updateSeq gS4 rfl ?_)
  have hS₂ := Heap.get?_update_self (Obj.mapSeq (·.push Value.none)) gS4 rfl
  refine wpAny_updateSeq hS₂ rfl ?_
  have hS₃ := Heap.get?_update_self (Obj.mapSeq (·.pop)) hS₂ rfl
  refine wpAny_pure ⟨plainId_quiet PySem.F.plain_extend_loop _, fin _ _ _ ⟨_, _, rfl⟩ (fun b o hb e => (Heap.get?_update_other _ _ (Ne.symm hb)).trans ((Heap.get?_update_other _ _ (Ne.symm hb)).trans e)) hS₃ fun s' c' g J => done s' c' g J⟩
/-- what tuple(form) does -/
def rTB (T C : Addr) : List V → Hp → VK → Prop := fun xs H Q => ∃ (v : V) (ns : List Int), xs = [v] ∧ Box C ns v H ∧ ns.length < 1000 ∧ ∀ z H', Le T none H H' → IT ns z H' → Q z H'
theorem call_tupBox (fiR : FnR X.prog X.w X.K X.mg X.base CX0 n fi (spIter T C)) (flR : FnR X.prog X.w X.K X.mg X.base CX0 n fl (spLen T C)) (hi : PySem.W.findIn X.K (.ref C) "__iter__" = some (some (.ref fi))) (hiF : PySem.W.isFn X.K (.ref fi) = true) (hl : PySem.W.findIn X.K (.ref C) "__len__" = some (some (.ref fl))) (hlF : PySem.W.isFn X.K (.ref fl) = true)
    (hr : Room (n + 4) X.A) : CallR X (.type "tuple") (rTB T C) := by
  intro pins s σ H xs us Q I r h
  obtain ⟨v, ns, rfl, hb, hn, q⟩ := h
  obtain ⟨a, dx, e, rfl, hs, hi0⟩ := id hb
  obtain ⟨u, rfl, ru⟩ := vals1 r
  cases ru
  obtain ⟨sl, od, _, J, _⟩ := slt_inst I hs
  refine callType_codes (Q₁ := fun obj s₁ => s₁.TypeIs obj "tuple" ∧ EP X pins σ Q obj s₁) F.called_tuple (F.typeCall_tuple_1 _) F.entry_object_init ?_ fun obj s₁ h₁ =>
    ⟨h₁.1, F.args_object_init_2 obj _, object_init_meets F.called_tuple.init.lookup F.called_tuple.made (by decide) X.prog X.w X.A.in1 _ s₁ ⟨h₁.1, rfl, h₁.2⟩⟩
  refine codeAny_of_tree ?_
  show wpAny _ X.A.in1.in1 (do checkBuiltinCall "tuple.__new__" ⟨[.type "tuple", .ref a], []⟩; again (.builtin "tuple.__new__" ⟨[.type "tuple", .ref a], []⟩)) _ _ s
  refine wpAny_bind (wpAny_of_eq (F.newCall_tuple_1 _) (wpAny_pure ⟨plainId_quiet F.plain_tuple_new _, codeAny_builtin F.entry_tuple_new ?_⟩))
  rw [Around.under_plainId F.plain_tuple_new _]
  have hsub := sub_tuple_self
  have hinit := init_tuple_lookup
  have hmh := madeHere_tuple
  have hT : ∀ {A : Around} {Q : Value → Shared → Prop} {E : Value → Shared → Prop}, Q (.ref C) s → wpAny (model X.prog X.w) A (typeOf (.ref a)) Q E s := fun h => J.type.here h
  have hr2 : Room (n + 2) X.A.in1.in1 := Room.in1 (Room.in1 hr)
  have hcol : ∀ {E : Value → Shared → Prop} {Q : List Value → Shared → Prop}, (∀ its s' H', Inv X pins σ H' s' → Le T none H H' → Vals (ns.map V.int) its → Q its s') → wpAny (model X.prog X.w) X.A.in1.in1 (collect (.ref a)) Q E s := fun h => collect_box (fiR := fiR) (flR := flR) hi hiF hl hlF hr2 rfl I hb hn h
  wp_walk using hT, hcol
  intro its s' H' I' l rv
  have hlen : its.length = ns.length := by rw [← rv.length, List.length_map]
  show wpAny _ _ (Builtin.Tuple.tupleExact its.toArray >>= fun v => ret v) _ _ _
  unfold Builtin.Tuple.tupleExact
  refine wpAny_bind (wpAny_newObj_type ?_ (by show its.toArray.size ≤ sizeLine; rw [List.size_toArray, hlen]; have h9 : 1000 < sizeLine := by decide
                                              omega))
  refine wpAny_pure ⟨⟨_, Heap.get?_push_size _ rfl, rfl⟩, .ref s'.heap.objs.size, upd H' s'.heap.objs.size (.tup (ns.map V.int)), I'.laid (t' := s'.toks) (fun b u e => Heap.get?_push_of_some _ e) (Nat.le_refl _) ?_, rfl, q _ _ (l.trans (l.right.mut (I'.hok.fresh (Nat.le_refl _)))) ⟨_, rfl, upd_same⟩⟩
  have h9 : 1000 < sizeLine := by decide
  exact ⟨by rw [List.length_map]; omega, its, rv, ⟨_, Heap.get?_push_size _ rfl, rfl, _, rfl⟩⟩
end
end K6

/-! ## D17 -/
set_option Elab.async false
set_option linter.all false
set_option maxRecDepth 100000
set_option maxHeartbeats 4000000
set_option exponentiation.threshold 100000
namespace K6
open PySem PySem.Spec PyProof.Rows L2 SlX Builtin
section
variable {M : Model} {prog : Program} {w : World} {A : Around} {E : Value → Shared → Prop} {s : Shared} {K : PySem.W.Frag} {x y C g : Addr} {ox : Obj} {od : Option Obj}
theorem ifBound_objNe {args : List Value} {Q : Option Value → Shared → Prop} (X : K.In s.heap) (I : PySem.W.InstAt s.heap x ox C od) (hs : PySem.W.findIn K (.ref C) "__ne__" = some (some (.builtin "object.__ne__")))
    (h : wpAny M A (call (.builtin "object.__ne__") (.ref x :: args)) (fun v => Q (some v)) E s) : wpAny M A (callSpecialIfBound? (.ref x) "__ne__" args) Q E s := by
  simp only [callSpecialIfBound?, bindSpecialIfBound?]
  refine wpAny_holding (wpAny_bind (wpAny_bind (wpAny_bind (I.type.here ((PySem.W.looks_findIn X hs).here ?_)))))
  refine wpAny_bind (wpAny_askSetting (wpAny_ite ?_))
  have fin : wpAny M A (call (.builtin "object.__ne__") ([.ref x] ++ args) >>= fun v => pure (some v)) Q E s := wpAny_bind (wpAny_mono h (fun v s' h' => wpAny_pure h') fun _ _ h' => h')
  split
  · exact wpAny_bind (wpAny_of_eq (F.cmp_object.ne.bind _) (wpAny_pure (by exact fin)))
  · exact wpAny_tryCatch (wpAny_bind (wpAny_of_eq (F.cmp_object.ne.bind _) (wpAny_pure (by exact fin))))
theorem objNe_K {Q : Fin → Shared → Prop} (hu : A.units < cLine) (X : K.In s.heap) (I : PySem.W.InstAt s.heap x ox C od) (he : PySem.W.findIn K (.ref C) "__eq__" = some (some (.ref g))) (hg : PySem.W.isFn K (.ref g) = true)
    (h : wpAny M A (call (.ref g) [.ref x, .ref y]) (fun v s' => ∃ b, v = .bool b ∧ Q (.done (.ret (.bool (!b)))) s') E s) : wpAny M A (Builtin.«object.__ne__» ⟨[.ref x, .ref y], []⟩) Q E s := by
  unfold Builtin.«object.__ne__»
  repeat (first
    | with_reducible refine wpAny_cRoomFor hu ?_
    | (refine wpAny_bind (m := callSpecialIfBound? (.ref x) (Str.ofString "__eq__") [.ref y])
        (PySem.W.ifBound_K X I he hg (wpAny_mono h (fun r s' hr => by
          obtain ⟨b, rfl, hq⟩ := hr
          repeat (first | exact hq | exact wpAny_pure hq | exact wpAny_truthy_bool hq | (refine wpAny_bind (m := truthy (.bool _)) (wpAny_truthy_bool ?_)) | wp_step)) fun _ _ e => e)))
    | wp_step)
theorem rc_ne {Q : Value → Shared → Prop} (hu : A.units + 1 < cLine) (X : K.In s.heap) (I : PySem.W.InstAt s.heap x ox C od) (Iy : PySem.W.Looks (model prog w) s.heap (typeOf (.ref y)) (.ref C)) (hm : PySem.W.mroIn K C (.type "object") = some true) (hn : PySem.W.findIn K (.ref C) "__ne__" = some (some (.builtin "object.__ne__"))) (he : PySem.W.findIn K (.ref C) "__eq__" = some (some (.ref g))) (hg : PySem.W.isFn K (.ref g) = true)
    (h : wpAny (model prog w) A.in1 (call (.ref g) [.ref x, .ref y]) (fun v s' => ∃ b, v = .bool b ∧ Q (.bool (!b)) s') E s) : wpAny (model prog w) A (richCompare .NotEq (.ref x) (.ref y)) Q E s := by
  have one : wpAny (model prog w) A (tryCompare (.ref x) "__ne__" (.ref y)) (fun r s' => ∃ b, r = some (.bool b) ∧ Q (.bool b) s') E s := by
    unfold tryCompare
    refine wpAny_bind (ifBound_objNe X I hn (wpAny_call (codeAny_call_builtin F.cmp_object.ne.plain F.cmpEntry_ne (PySem.W.check_slot F.cmpKind_ne F.cmpSplit_ne (I.type.andThen (PySem.W.looks_mroIn X hm)) (F.cmpArgs_ne _ _)
      (objNe_K (A := A.in1) hu X I he hg (wpAny_mono h (fun v s' hv => ?_) fun _ _ e => e))))))
    obtain ⟨b, rfl, hq⟩ := hv
    first | exact ⟨b, rfl, wpAny_pure ⟨_, rfl, hq⟩⟩ | exact ⟨b, rfl, wpAny_pure (wpAny_pure ⟨_, rfl, hq⟩)⟩ | exact ⟨b, rfl, ⟨_, rfl, hq⟩⟩
  unfold richCompare
  simp only [oneThing_ref]
  refine wpAny_holding (wpAny_bind (wpAny_cRoomFor (Nat.lt_of_succ_lt hu) ?_))
  rw [cmpInfo_NotEq]
  dsimp only
  refine wpAny_bind (I.type.here (wpAny_bind (Iy.here ?_)))
  rw [show (Value.ref C != Value.ref C) = false from by simp]
  simp only [Bool.false_eq_true, if_false]
  refine wpAny_bind (wpAny_pure ?_)
  simp only [Bool.false_eq_true, if_false]
  refine wpAny_bind (wpAny_mono one (fun r s' z => ?_) fun _ _ e => e)
  obtain ⟨b, rfl, hq⟩ := z
  exact wpAny_pure hq
end
/-- Form != Form -/
theorem op_neOwn {X : Cx} {C g : Addr} {n : Nat} {T : Addr} (c : Cls X.K C "own_entries") (hn : PySem.W.findIn X.K (.ref C) "__ne__" = some (some (.builtin "object.__ne__"))) (he : PySem.W.findIn X.K (.ref C) "__eq__" = some (some (.ref g))) (hg : PySem.W.isFn X.K (.ref g) = true) (F : FnR X.prog X.w X.K X.mg X.base CX0 n g (spEq T C)) (hr : Room (n + 1) X.A) :
    OpR X (compareOp .NotEq) (fun x y H Q => ∃ ns ms, Box C ns x H ∧ Box C ms y H ∧ ∀ H', Le T none H H' → Q (.bl (!(ns == ms))) H') := by
  intro pins s σ H x y v u Q I rx ry h
  obtain ⟨ns, ms, hx, hy, q⟩ := h
  obtain ⟨a, dx, e, rfl, ha, hea⟩ := id hx
  obtain ⟨b, dy, e2, rfl, hb, heb⟩ := id hy
  cases (show v = Value.ref a from rx)
  cases (show u = Value.ref b from ry)
  obtain ⟨sl, od, _, J, _⟩ := slt_inst I ha
  obtain ⟨sl', od', _, J', _⟩ := slt_inst I hb
  show wpAny (model X.prog X.w) X.A (richCompare .NotEq (.ref a) (.ref b)) _ _ s
  refine rc_ne (by have := hr.un; omega) I.kIn J J'.type c.isi.cm hn he hg (wpAny_mono (run_0 (Q := fun v H' => v = .bl (ns == ms) ∧ Le T none H H') (us := [.ref a, .ref b]) (ws := [.ref a, .ref b]) F hr.in1 rfl I (.cons rfl (.cons rfl .nil)) ⟨_, _, ns, ms, rfl, hx, hy, fun H' l => ⟨rfl, l⟩⟩) (fun w s' z => ?_) fun _ _ z => z.elim)
  obtain ⟨z', H', I', rz, ez, l⟩ := z
  subst ez
  cases (show w = Value.bool (ns == ms) from rz)
  exact ⟨_, rfl, .bl _, H', I', rfl, q H' l⟩
/-- repr(a bool) -/
theorem call_reprB {X : Cx} : CallR X (.builtin "repr") (fun xs H Q => ∃ b : Bool, xs = [.bl b] ∧ Q (.str (if b then "True" else "False")) H) := by
  intro pins s σ H xs us Q I r h
  obtain ⟨b, rfl, q⟩ := h
  obtain ⟨u, rfl, ru⟩ := vals1 r
  cases (show u = Value.bool b from ru)
  exact PySem.P.repr_of_bool ⟨.str _, H, I.tok _, ⟨_, rfl⟩, q⟩
/-- a tuple once -/
theorem tuple_mul1 (l : Addr) (items : Array Value) (n : Nat) (dd : Option Addr) (sl : Array (Option Value)) (u : Tok) :
    Meets (Builtin.«tuple.__mul__» ⟨[.ref l, .int 1 u], []⟩) (fun _ R s => s.heap.get? l = some { cls := .type "tuple", dict := dd, data := .seq items n, slots := sl } ∧ R (.ok (.ret (Value.ref l))) s) :=
  .of_wp fun prog w A R s h => by
    obtain ⟨hp, g, d, tk, os⟩ := s
    obtain ⟨hl, h⟩ := h
    have f1 := AutoSeq1.idx_int
    have c0 : (decide ((1 : Int) < -(2 ^ 63)) || decide ((1 : Int) ≥ 2 ^ 63)) = false := by decide
    have c1 : (items.isEmpty || (1 : Int) == 1) = true := by rw [show ((1 : Int) == 1) = true from rfl, Bool.or_true]
    wp_walk using AutoSeq1.wpAny_loadPart' hl
    repeat (first
      | (refine wpAny_ite_false (decide_eq_false (by rw [c0]; exact Bool.false_ne_true)) ?_; wp_walk using AutoSeq1.wpAny_loadPart' hl)
      | (refine wpAny_ite_true (decide_eq_true c1) ?_; wp_walk using AutoSeq1.wpAny_loadPart' hl)
      | (refine PySem.W.KFB.if_so c1 ?_; wp_walk using AutoSeq1.wpAny_loadPart' hl))
    exact ⟨_, rfl, h⟩
theorem op_repT1 {X : Cx} : OpR X (binaryOp .Mult) (fun x y H Q => ∃ l xs, x = .ref l ∧ y = .int 1 ∧ SqT X.K H l xs ∧ Q (.ref l) H) := by
  intro pins s σ H x y v u Q I rx ry h
  obtain ⟨l, xs, rfl, rfl, hT, q⟩ := h
  cases rx
  obtain ⟨t, rfl⟩ := ry
  obtain ⟨its, r, ⟨⟨cls, dd, data, sl⟩, ho, hc, n, hd⟩, hs⟩ := I.tuple hT
  simp only at hc hd
  subst hc hd
  exact wpAny_binaryOp_repeat_ref (T := "tuple") (U := "int") (by decide) ⟨_, ho, rfl⟩ (fun s' => typeIs_int s' 1 t) noFill_tuple_mul F.fills_int_mul F.slot_int_rmul repeat_tuple F.slot_int_index.lookup
    (call_meets F.slot_int_rmul (typeIs_int s 1 t) F.entry_int_rmul (F.args_int_rmul_2 _ _) (int_rmul_tuple 1 t l its.toArray n dd sl)
      ⟨ho, rfl, ⟨_, ho, rfl⟩, call_meets F.slot_tuple_mul ⟨_, ho, rfl⟩ F.entry_tuple_mul (F.args_tuple_mul_2 _ _) (tuple_mul1 l its.toArray n dd sl t) ⟨ho, ⟨.ref l, H, I, rfl, q⟩⟩⟩)
end K6

/-! ## D18 -/
set_option Elab.async false
set_option linter.all false
set_option maxRecDepth 100000
set_option maxHeartbeats 4000000
set_option exponentiation.threshold 100000
namespace K6
open PySem PySem.Spec PyProof.Rows L2 SlX
theorem any_zero (l : List Int) : (!(l.any fun n => n != 0)) = (K63.shared l == 0) := by
  rw [Bool.eq_iff_iff, beq_iff_eq, K63.shared_eq_zero, Bool.not_eq_true']
  constructor
  · intro h x hx
    have := List.any_eq_false.mp h x hx
    exact Classical.byContradiction fun q => this (bne_iff_ne.mpr q)
  · intro h
    exact List.any_eq_false.mpr fun x hx => by
      rw [h x hx]
      decide
theorem dk_eq {a f : List Int} (h : a.length ≤ f.length) : doesKill a f = (K63.shared (K63.actL a f) == 0) := by
  unfold doesKill
  rw [decide_eq_false (by omega), Bool.false_or, any_zero]
theorem dk_long {a f : List Int} (h : f.length < a.length) : doesKill a f = true := by
  unfold doesKill
  rw [decide_eq_true (by omega)]
  rfl
def prods (a f : List Int) : List Int := K63.tab (f.length - (a.length - 1)) fun k => K63.sm a.length fun i => K63.g a i * K63.g (K63.rowAt f (a.length - 1) k) i
theorem prods_eq {a f : List Int} (ha : 1 ≤ a.length) (h : a.length ≤ f.length) : (K63.shared (prods a f) == 0) = doesKill a f := by
  rw [dk_eq h, Bool.eq_iff_iff, beq_iff_eq, beq_iff_eq, K63.shared_eq_zero, K63.shared_eq_zero, K63.act_zero ha h]
  have key : ∀ k, (K63.sm a.length fun i => K63.g a i * K63.g (K63.rowAt f (a.length - 1) k) i) = K63.sm a.length fun i => K63.g a i * K63.lv f (i + k) := fun k => by
    have e := K63.row_dot (a := a) (f := f) (d := a.length - 1) (j := k) (by omega)
    rw [show a.length - 1 + 1 = a.length by omega] at e
    exact e
  constructor
  · intro hz j hj
    rw [← key j]
    refine hz _ ?_
    have : K63.g (prods a f) j ∈ prods a f := K63.g_mem (by unfold prods; rw [K63.tab_len]; omega)
    unfold prods at this ⊢
    rw [K63.tab_g (by omega)] at this
    exact this
  · intro hz x hx
    obtain ⟨k, hk, e⟩ := List.getElem_of_mem hx
    have hk' : k < f.length - (a.length - 1) := by
      have h9 := hk
      unfold prods at h9
      rw [K63.tab_len] at h9
      exact h9
    have e2 : K63.g (prods a f) k = x := K63.g_get (by rw [List.getElem?_eq_getElem hk, e])
    rw [← e2]
    unfold prods
    rw [K63.tab_g hk', key]
    exact hz k (by omega)
/-- what the law knows of the program -/
structure Lw (P : Program) (w : World) (K : PySem.W.Frag) (mg : Str → Option Value) (base : Heap) (T CT CF : Addr) : Prop where
  fm : Fm P w K mg base T CF
  made : Made P w K mg base T "Form" CF 5 (ArgF CT)
  tab : Fk P w K mg base "level_table" 4 ["form", "degree"] (spTab T CF)
  dk : Fk P w K mg base "does_kill" 4 ["one", "form"] (spDK T CF)
  kd : Fk P w K mg base "killed" 8 ["one", "form"] (spKd T CF)
  ks : Fk P w K mg base "killers" 8 ["form", "degree"] (spKs T CF)
  lsh : Fk P w K mg base "_law_shared" 2 ["_law_numbers"] (spLSh T)
  kt : Fk P w K mg base "_law_killer_table" 2 ["_law_entries", "_law_degree"] (spRows T)
  act : Fk P w K mg base "_law_acted" 3 ["_law_one", "_law_form_here"] (spAct T)
section
variable {P : Program} {w : World} {K : PySem.W.Frag} {mg : Str → Option Value} {base : Heap} {T CT CF : Addr}
/-- Form(a tuple) -/
theorem ev_form {X : Cx} {σ : L2.St} {H : Hp} {a : Expr} {p pos : Pos} {ns : List Int} (L : Lw X.prog X.w X.K X.mg X.base T CT CF) (hr : Room 6 X.A) (ha : EvE X T none a σ H (IT ns)) (h1 : 1 ≤ ns.length) (h2 : ns.length ≤ 41) (hs : Sh ns) (hg : Gl X "Form" := by rfl)
    (he : starEach [a] X.env = (false, eval a X.env) :: starEach [] X.env := by rfl) : EvE X T none (.Call (.Name "Form" p) [a] [] pos) σ H (Box CF ns) :=
  ev_make L.made hr ha (fun v H1 h H2 l => .inr ⟨mono_tv.up _ _ _ l h, hs, h1, h2⟩) hg he
theorem ev_dk {X : Cx} {σ : L2.St} {H : Hp} {a b : Expr} {p pos : Pos} {ns ms : List Int} (L : Lw X.prog X.w X.K X.mg X.base T CT CF) (hr : Room 4 X.A) (ha : EvE X T none a σ H (Box CF ns)) (hb : EvE X T none b σ H (Box CF ms)) (ok : ActOk ns ms) (hg : Gl X "does_kill" := by rfl)
    (he : starEach [a, b] X.env = (false, eval a X.env) :: starEach [b] X.env := by rfl) (he2 : starEach [b] X.env = (false, eval b X.env) :: starEach [] X.env := by rfl) (hpl : (backTo pos (starEach [b] X.env)).any (·.1) = false := by rfl) : EvE X T none (.Call (.Name "does_kill" p) [a, b] [] pos) σ H (is (.bl (doesKill ns ms))) :=
  ev_call2 L.dk hr ha hb (fun x y H3 l hx hy Q q => ⟨x, y, ns, ms, rfl, hx, hy, ok, fun H4 l => q _ H4 l rfl⟩) hg he he2 hpl
theorem ev_kd {X : Cx} {σ : L2.St} {H : Hp} {a b : Expr} {p pos : Pos} {ns ms : List Int} (L : Lw X.prog X.w X.K X.mg X.base T CT CF) (hr : Room 8 X.A) (ha : EvE X T none a σ H (Box CF ns)) (hb : EvE X T none b σ H (Box CF ms)) (ok : ActOk ns ms) (hl : ns.length ≤ ms.length) (hg : Gl X "killed" := by rfl)
    (he : starEach [a, b] X.env = (false, eval a X.env) :: starEach [b] X.env := by rfl) (he2 : starEach [b] X.env = (false, eval b X.env) :: starEach [] X.env := by rfl) (hpl : (backTo pos (starEach [b] X.env)).any (·.1) = false := by rfl) : EvE X T none (.Call (.Name "killed" p) [a, b] [] pos) σ H (Box CF (K63.actL ns ms)) :=
  ev_call2 L.kd hr ha hb (fun x y H3 l hx hy Q q => ⟨x, y, ns, ms, rfl, hx, hy, ok, hl, fun z H4 l r => q z H4 l r⟩) hg he he2 hpl
theorem ev_lsh {X : Cx} {σ : L2.St} {H : Hp} {a : Expr} {p pos : Pos} {ns : List Int} {Ra : Rp} [m : Mono T none Ra] (F : Fk X.prog X.w X.K X.mg X.base "_law_shared" 2 ["_law_numbers"] (spLSh T)) (hr : Room 2 X.A) (ha : EvE X T none a σ H Ra) (hR : ∀ v H1, Ra v H1 → SV (ns.map V.int) v H1) (hg : Gl X "_law_shared" := by rfl)
    (he : starEach [a] X.env = (false, eval a X.env) :: starEach [] X.env := by rfl) : EvE X T none (.Call (.Name "_law_shared" p) [a] [] pos) σ H (is (.int (K63.shared ns))) :=
  ev_call1 F hr ha (fun x H3 l hx Q q => ⟨x, ns, rfl, hR x H3 hx, fun H4 l => q _ H4 l rfl⟩) hg he
/-! ### _law_is_acting_right -/
def spActR (T : Addr) : Sp := fun vs H Q _ => ∃ (u v : V) (a f : List Int), vs = [u, v] ∧ IT a u H ∧ IT f v H ∧ ActOk a f ∧ Sh a ∧ Sh f ∧ a.length ≤ 41 ∧ 1 ≤ f.length ∧ f.length ≤ 41 ∧ ∀ H', Le T none H H' → Q (.bl true) H'
abbrev N72 : List Str := ["_law_one", "_law_form_here", "_law_first", "_law_second", "_law_due", "_law_rows", "_law_products", "_law_row", "_law_a", "_law_b"]
theorem sc72 : FnScope N72 ["_law_one", "_law_form_here"] (defScope (top 72)) := ⟨rfl, rfl, rfl, by decide +kernel, rfl, by decide +kernel, by decide +kernel⟩
theorem ok_actR {f : Addr} {fd : FuncData} (F : FnP K "_law_is_acting_right" 72 f fd) (G : G0 mg) (L : Lw P w K mg base T CT CF) : FnOk P w K mg base CX0 9 f fd ["_law_one", "_law_form_here"] (spActR T) := by
  refine F.ok sc72 (fun vs H Q E h => ?_) (fun cdv A outer s H vs Q E hr h => ?_)
  · obtain ⟨u, v, a, f, rfl, _⟩ := h
    rfl
  · obtain ⟨u, v, a, f, rfl, hu, hv, ok, sa, sf, ha, f1, f2, q⟩ := h
    have a1 := ok.a1
    have lens : ∀ H1, Le T none H H1 → IT a u H1 ∧ IT f v H1 := fun H1 l => ⟨mono_tv.up _ _ _ l hu, mono_tv.up _ _ _ l hv⟩
    refine ⟨_, PSs.nox pb_w, ?_⟩
    refine hb_par (P := T) (Z := none) 2 3 (Le.refl0 H) (ea_cons (ev_form L (hr.mono (by decide)) (ev_v 0 rfl hu) a1 ha sa) (ea_cons (ev_form L (hr.mono (by decide)) (ev_v 1 rfl hv) f1 f2 sf) ea_nil)) sc72.nd fun vs H1 l1 _ r => ?_
    obtain ⟨x, r1, rfl, hx, y, r2, rfl, hy, e⟩ := r
    have e' : r2 = [] := e
    subst e'
    refine ⟨_, _, rfl, ?_⟩
    have bx : ∀ H2, Le T none H1 H2 → Box CF a x H2 ∧ Box CF f y H2 := fun H2 l => ⟨mono_box.up _ _ _ l hx, mono_box.up _ _ _ l hy⟩
    refine hb_if (x := decide ((f.length : Int) < (a.length : Int))) l1 (et_c (ev_gt (ev_lenI G.len (ev_v 0 rfl (lens H1 l1).1)) (ev_lenI G.len (ev_v 1 rfl (lens H1 l1).2)))) (fun hc H2 l2 l3 => ?_) fun hc H2 l2 l3 => hb_nil ?_
    · have hlt := of_decide_eq_true hc
      refine hb_ret l2 (ev_isB (ev_dk L (hr.mono (by decide)) (ev_v 2 rfl (bx H2 l3).1) (ev_v 3 rfl (bx H2 l3).2) ok) ev_b) fun z H8 l _ r => ?_
      rw [show z = .bl (decide (doesKill a f = true)) from r, dk_long (by omega)]
      exact q H8 l
    · have hle : a.length ≤ f.length := by have := of_decide_eq_false hc; omega
      refine hb_set 4 l2 (R := IT (K63.actL a f)) (ev_call2 L.act (hr.mono (by decide)) (ev_v (R := IT a) 0 rfl (lens H2 l2).1) (ev_v (R := IT f) 1 rfl (lens H2 l2).2) fun x y H3 l hx hy Q q => ⟨x, y, a, f, rfl, hx, hy, ok, hle, fun z H4 l r => q z H4 l r⟩) sc72.nd fun due H3 l4 l5 hdue => ?_
      have l35 := l3.trans l5
      refine hb_ifn (x := false) l4 (et_or (x := false) (y := false) (Et.is (et_c (ev_neT hr (ev_ent L.fm (hr.mono (by decide)) (ev_kd L hr (ev_v 2 rfl (bx H3 l35).1) (ev_v 3 rfl (bx H3 l35).2) ok hle)) (ev_v 4 rfl hdue))) (by simp)) fun _ => Et.is (et_c (ev_neS (x := .str (if doesKill a f then "True" else "False")) (y := .str (if K63.shared (K63.actL a f) == 0 then "True" else "False")) (ev_bf1 call_reprB G.repr (by decide +kernel) (ev_dk L (hr.mono (by decide)) (ev_v 2 rfl (bx H3 l35).1) (ev_v 3 rfl (bx H3 l35).2) ok) fun u H5 l hu Q q => ⟨_, by rw [show u = _ from hu], q _ H5 l.right rfl⟩)
        (ev_bf1 call_reprB G.repr (by decide +kernel) (ev_eqI (ev_lsh L.lsh (hr.mono (by decide)) (ev_v (R := IT (K63.actL a f)) 4 rfl hdue) fun v H1 h => sv_tv h) ev_c) fun u H5 l hu Q q => ⟨_, by rw [show u = _ from hu], q _ H5 l.right rfl⟩) rfl)) (by rw [dk_eq hle]; simp)) rfl fun H4 l6 l7 => ?_
      refine hb_set 5 l6 (R := LT none (K63.levelRows f (a.length - 1))) (ev_call2 L.kt (hr.mono (by decide)) (ev_v (R := IT f) 1 rfl (lens H4 l6).2) (ev_sub (ev_lenI G.len (ev_v 0 rfl (lens H4 l6).1)) ev_c) fun x y H3 l hx hy Q q => ⟨x, f, a.length - 1, by rw [show y = .int ((a.length : Int) - 1) from hy]; congr 3; omega, hx, f1, ok.f2, by have := ok.a2; omega, ok.bf, fun z H4 l r => q z H4 l r⟩) sc72.nd fun rows H5 l8 l9 hrows => ?_
      have rlen : (K63.levelRows f (a.length - 1)).length = f.length - (a.length - 1) := by unfold K63.levelRows; rw [List.length_map, List.length_range]
      have rget : ∀ k, k < (K63.levelRows f (a.length - 1)).length → (K63.levelRows f (a.length - 1)).getD k [] = K63.rowAt f (a.length - 1) k := fun k hk => by
        rw [rlen] at hk
        unfold K63.levelRows
        rw [K63.getD_map (K63.rowAt f (a.length - 1)) (a := 0) (by rw [List.length_range]; exact hk), K63.getD_lt (by rw [List.length_range]; exact hk), List.getElem_range]
      have ff2 := ok.f2
      refine hb_lc 6 l8 sc72.nd (pi_list pe_w) (blkOk_by (own := [("_law_row", 7)]) (N := N72) (sc := defScope (top 72)) (by decide +kernel)) (fun _ _ _ _ _ => pg_name (i := 7) sc72.nd rfl (Or.inl rfl))
        (lc_vals (en_list (ev_v 5 rfl hrows)) (bd_name (K := K)) (by omega) (fun _ _ _ _ => rfl) (fun k => .int (K63.sm a.length fun i => K63.g a i * K63.g (K63.rowAt f (a.length - 1) k) i)) fun k u H6 hk l hu => eb_of fun _ _ _ _ _ => ?_)
        (fun pr H6 l10 l11 r => ?_) (sw_true rfl rfl rfl rfl)
      · have hk2 : k < f.length - (a.length - 1) := by rw [← rlen]; exact hk
        have hrow : IT (K63.rowAt f (a.length - 1) k) u H6 := by rw [← rget k hk]; exact hu
        have hrl : (K63.rowAt f (a.length - 1) k).length = a.length := by unfold K63.rowAt; rw [K63.tab_len]; omega
        refine ev_bf1 (cr_sum rfl) G.sum (by decide +kernel) (ev_lc sc72.nd (RZ.pi_zipA rfl G.zip pa_w) (blkOk_by (own := [("_law_a", 8), ("_law_b", 9)]) (N := N72) rfl) (fun _ _ _ _ _ => pg_pair (i := 8) (j := 9) sc72.nd rfl rfl (Or.inl rfl) (Or.inl rfl))
          (lc_vals (en_zipT (n := a.length) (R := fun i => is (.int (K63.g a i))) (S := fun i => is (.int (K63.g (K63.rowAt f (a.length - 1) k) i))) (Ev.imp (R := IT a) (ev_v 0 rfl (lens H6 (l8.trans l)).1) fun v H1 l h => it_tg h) (Ev.imp (R := IT (K63.rowAt f (a.length - 1) k)) (ev_v 7 rfl hrow) fun v H1 l h => tg_of hrl (fun _ _ => rfl) h)) (bd_pair (K := K)) (by have := ok.a2; omega) (fun _ _ _ _ => rfl) (fun i => .int (K63.g a i * K63.g (K63.rowAt f (a.length - 1) k) i)) fun i u H1 hi l hu => eb_of fun _ _ _ _ _ => ?_)) fun u H7 l hu Q q => ?_
        · obtain ⟨u1, u2⟩ := u
          have e1 : u1 = .int (K63.g a i) := hu.1
          have e2 : u2 = .int (K63.g (K63.rowAt f (a.length - 1) k) i) := hu.2
          subst e1 e2
          refine ev_mul (ev_i 8 rfl) (ev_i 9 rfl) ((ok.ba i).mul ?_)
          unfold K63.rowAt
          rw [K63.tab_g (by omega)]
          exact ok.bf _
        · obtain ⟨p, e, _, h⟩ := hu
          rw [map_tab] at h
          refine ⟨p, _, by rw [e], SqL.of h, q _ H7 l.right ?_⟩
          show V.int _ = V.int _
          unfold K63.tab
          rw [K63.sm_sum]
      · rw [map_tab, rlen] at r
        refine hb_ret l10 (ev_eqB (ev_eqI (ev_lsh (ns := prods a f) L.lsh (hr.mono (by decide)) (ev_v (R := IL none (prods a f)) 6 rfl r) fun v H1 h => sv_lv h) ev_c) (ev_dk L (hr.mono (by decide)) (ev_v 2 rfl (bx H6 ((l35.trans l7).trans (l9.trans l11))).1) (ev_v 3 rfl (bx H6 ((l35.trans l7).trans (l9.trans l11))).2) ok)) fun z H8 l _ r => ?_
        rw [show z = .bl ((K63.shared (prods a f) == 0) == doesKill a f) from r, prods_eq a1 hle, beq_self_eq_true]
        exact q H8 l
end
end K6

/-! ## D19 -/
set_option Elab.async false
set_option linter.all false
set_option maxRecDepth 100000
set_option maxHeartbeats 4000000
set_option exponentiation.threshold 100000
namespace K6
open PySem PySem.Spec PyProof.Rows L2 SlX
/-! ### sizes -/
def FI (f : List Int) : Prop := 1 ≤ f.length ∧ f.length ≤ 8 ∧ ∀ i, (K63.g f i).natAbs ≤ 10 ^ 12
theorem fi_of {n : Nat} {f : List Int} (h : Fo (n + 1) (10 ^ 12) f) (hn : n ≤ 7) : FI f := ⟨by have := h.1; omega, by have := h.1; omega, fun i => fo_g h i⟩
theorem FI.lv {f : List Int} (h : FI f) (i : Nat) : (K63.lv f i).natAbs ≤ 5040 * 10 ^ 12 := K63.lv_size h.2.1 h.2.2 i
theorem FI.big {f : List Int} (h : FI f) (i : Nat) : Big (K63.lv f i) := big_of (b := 63) (Nat.lt_of_le_of_lt (h.lv i) (by decide)) (by decide)
theorem sh_of {a : List Int} (h : ∀ i, (K63.g a i).natAbs < 10 ^ 60) : Sh a := fun x hx => by
  obtain ⟨i, hi, e⟩ := List.getElem_of_mem hx
  have := h i
  rw [K63.g_get (show a[i]? = some x by rw [List.getElem?_eq_getElem hi, e])] at this
  omega
theorem FI.sh {f : List Int} (h : FI f) : Sh f := sh_of fun i => Nat.lt_of_le_of_lt (h.2.2 i) (by decide)
theorem FI.rows {f : List Int} (h : FI f) {d : Nat} (hd : d ≤ 4) : RowsOk f d := ⟨h.1, by have := h.2.1; omega, hd, fun i => Nat.le_trans (Nat.mul_le_mul_left 2 (h.lv i)) (by decide)⟩
def AI (a : List Int) : Prop := 1 ≤ a.length ∧ a.length ≤ 41 ∧ Sh a
theorem FI.ai {f : List Int} (h : FI f) : AI f := ⟨h.1, by have := h.2.1; omega, h.sh⟩
theorem sh_big {a : List Int} (h : Sh a) (i : Nat) : Big (K63.g a i) := by
  refine big_of (b := 200) ?_ (by decide)
  have e : (10 : Nat) ^ 60 ≤ 2 ^ 200 := by decide
  by_cases hi : i < a.length
  · have := h _ (K63.g_mem hi)
    omega
  · rw [K63.g_ge (by omega)]
    exact Nat.pow_pos (by decide)
theorem AI.act {a f : List Int} (h : AI a) (hf : FI f) : ActOk a f := ⟨h.1, by have := h.2.1; omega, by have := hf.2.1; omega, sh_big h.2.2, hf.big⟩
theorem row_mem {f : List Int} {d : Nat} {r : List Int} (h : r ∈ K63.levelRows f d) : ∃ j, j < f.length - d ∧ r = K63.rowAt f d j := by
  unfold K63.levelRows at h
  obtain ⟨j, hj, rfl⟩ := List.mem_map.mp h
  exact ⟨j, List.mem_range.mp hj, rfl⟩
theorem mem_row {f : List Int} {d j : Nat} (h : j < f.length - d) : K63.rowAt f d j ∈ K63.levelRows f d := List.mem_map.mpr ⟨j, List.mem_range.mpr h, rfl⟩
theorem FI.ker {f : List Int} (h : FI f) {d : Nat} (hd : d ≤ 4) : K63.Ker (K63.levelRows f d) (d + 1) (K63.kernel (K63.levelRows f d) (d + 1)) := by
  have k := (h.rows hd).ker
  exact K63.kernel_is k.len k.big k.size
theorem ai_ker {f : List Int} (h : FI f) {d : Nat} (hd : d ≤ 3) {v : List Int} (hv : v ∈ K63.kernel (K63.levelRows f d) (d + 1)) : AI v := by
  have k := h.ker (d := d) (by omega)
  have hl := k.len v hv
  refine ⟨by omega, by omega, sh_of fun i => Nat.lt_of_le_of_lt (k.small (by omega) (5040 * 10 ^ 12) (by decide) (fun r hr i => ?_) v hv i) (by decide)⟩
  obtain ⟨j, _, rfl⟩ := row_mem hr
  by_cases hi : i < d + 1
  · unfold K63.rowAt
    rw [K63.tab_g hi]
    exact h.lv _
  · unfold K63.rowAt
    rw [K63.tab_ge (by omega)]
    exact Nat.zero_le _
/-- a killer: its size and its length -/
theorem ker_one {f : List Int} (h : FI f) {d : Nat} (hd : d ≤ 4) {v : List Int} (hv : v ∈ K63.kernel (K63.levelRows f d) (d + 1)) : v.length = d + 1 ∧ ∀ i, (K63.g v i).natAbs < 2 ^ 8998 := by
  have k := h.ker hd
  refine ⟨k.len v hv, fun i => ?_⟩
  have := k.size v hv i
  have p : (0 : Nat) < 2 ^ 8998 := Nat.pow_pos (by decide)
  generalize (2 : Nat) ^ 8998 = B at *
  omega
theorem ker_dots {f : List Int} (h : FI f) {d : Nat} (hd : d ≤ 4) {v : List Int} (hv : v ∈ K63.kernel (K63.levelRows f d) (d + 1)) : ∀ j, j + v.length ≤ f.length → (K63.sm v.length fun i => K63.g v i * K63.lv f (i + j)) = 0 := fun j hj => by
  have k := h.ker hd
  have hl := k.len v hv
  rw [← K63.row_dot (f := f) (d := d) (j := j) hl]
  exact k.kill v hv _ (mem_row (by omega))
theorem ker_kills {f : List Int} (h : FI f) {d : Nat} (hd : d ≤ 4) {v : List Int} (hv : v ∈ K63.kernel (K63.levelRows f d) (d + 1)) : doesKill v f = true := by
  have hl := (ker_one h hd hv).1
  by_cases hle : v.length ≤ f.length
  · rw [dk_eq hle, beq_iff_eq, K63.shared_eq_zero]
    exact (K63.act_zero (by omega) hle).mpr (ker_dots h hd hv)
  · exact dk_long (by omega)
theorem prod_kills {f b : List Int} (h : FI f) {d : Nat} (hd : d ≤ 4) (hb : 1 ≤ b.length) {v : List Int} (hv : v ∈ K63.kernel (K63.levelRows f d) (d + 1)) : doesKill (K63.mulL v b) f = true := by
  have hl := (ker_one h hd hv).1
  have ml := K63.mulL_len v b
  by_cases hle : v.length + b.length - 1 ≤ f.length
  · rw [dk_eq (by omega), beq_iff_eq, K63.shared_eq_zero]
    exact K63.act_prod (by omega) hb hle (ker_dots h hd hv)
  · exact dk_long (by omega)
theorem prod_ai {a b : List Int} (ha : FI a) (hb : FI b) : AI (K63.mulL a b) := by
  have ml := K63.mulL_len a b
  have a1 := ha.1; have a2 := ha.2.1; have b1 := hb.1; have b2 := hb.2.1
  refine ⟨by omega, by omega, sh_of fun i => Nat.lt_of_le_of_lt (K63.mulL_size ha.2.2 hb.2.2 b1 i) ?_⟩
  exact Nat.lt_of_le_of_lt (Nat.mul_le_mul a2 (Nat.mul_le_mul b2 (Nat.le_refl _))) (by decide)
theorem zero_ai {n : Nat} (h1 : 1 ≤ n) (h2 : n ≤ 41) : AI (List.replicate n 0) := by
  refine ⟨by rw [List.length_replicate]; exact h1, by rw [List.length_replicate]; exact h2, fun x hx => ?_⟩
  rw [List.eq_of_mem_replicate hx]
  exact ⟨by decide, by decide⟩
theorem sm_le {B : Nat} : ∀ (n : Nat) (u : Nat → Int), (∀ i, (u i).natAbs ≤ B) → (K63.sm n u).natAbs ≤ n * B
  | 0, u, h => by
    rw [Nat.zero_mul]
    exact Nat.le_of_eq rfl
  | n + 1, u, h => by
    have ih := sm_le n u h
    have := h n
    show (K63.sm n u + u n).natAbs ≤ _
    rw [Nat.succ_mul]
    exact Nat.le_trans (Int.natAbs_add_le _ _) (Nat.add_le_add ih this)
/-- what a form did to another is fit to be acted on -/
theorem step_ok {a b f : List Int} (ha : FI a) (hb : FI b) (hf : FI f) (h : b.length ≤ f.length) : ActOk a (K63.actL b f) := by
  have al := K63.actL_len b f
  have a1 := ha.1; have a2 := ha.2.1; have b1 := hb.1; have b2 := hb.2.1; have f2 := hf.2.1
  refine ⟨a1, by omega, by omega, sh_big ha.sh, fun j => ?_⟩
  by_cases hj : j + b.length ≤ f.length
  · rw [K63.actL_lv b1 hj]
    refine big_of (b := 200) (Nat.lt_of_le_of_lt (sm_le (B := 10 ^ 12 * (5040 * 10 ^ 12)) _ _ fun i => ?_) ?_) (by decide)
    · rw [Int.natAbs_mul]
      exact Nat.mul_le_mul (hb.2.2 i) (hf.lv _)
    · exact Nat.lt_of_le_of_lt (Nat.mul_le_mul b2 (Nat.le_refl _)) (by decide)
  · have e : K63.lv (K63.actL b f) j = 0 := K63.lv_zero.mpr (K63.g_ge (by omega))
    rw [e]
    exact big_of (b := 1) (by decide) (by decide)
/-! ### lists of tuples that are some -/
def LK (m : Nat) (Pr : List Int → Prop) : Rp := fun v H => ∃ a xs, v = .ref a ∧ H a = some (.lst xs) ∧ xs.length ≤ m ∧ ∀ x ∈ xs, IE Pr x H
instance mono_lk {P : Addr} {m : Nat} {Pr : List Int → Prop} : Mono P none (LK m Pr) := ⟨fun _ _ _ l ⟨a, xs, e, h, hl, hx⟩ => ⟨a, xs, e, l.lst (fun z => by cases z) h, hl, fun x m => mono_ie.up _ _ _ l (hx x m)⟩⟩
theorem lk_of {n m : Nat} {Pr : List Int → Prop} {v : V} {H : Hp} (h : LG none n (fun _ => IE Pr) v H) (hn : n ≤ m) : LK m Pr v H := by
  obtain ⟨a, vs, e, _, hx, hl, hi⟩ := h
  refine ⟨a, vs, e, hx, by omega, fun x m => ?_⟩
  obtain ⟨i, hi2, ei⟩ := List.getElem_of_mem m
  exact hi i x (by rw [List.getElem?_eq_getElem hi2, ei])
theorem lk_lg {m : Nat} {Pr : List Int → Prop} {v : V} {H : Hp} (h : LK m Pr v H) : ∃ n, n ≤ m ∧ LG none n (fun _ => IE Pr) v H := by
  obtain ⟨a, xs, e, hx, hl, hi⟩ := h
  exact ⟨_, hl, a, xs, e, (fun z => by cases z), hx, rfl, fun i x q => hi x (List.mem_of_getElem? q)⟩
section
variable {X : Cx} {P : Addr} {σ : L2.St} {H B : Hp} {a b : Expr} {pos : Pos} {m n : Nat} {Pr : List Int → Prop}
theorem cut_sub {xs : List V} {lo hi : Option Int} {x : V} (h : x ∈ cutV xs lo hi) : x ∈ xs := by
  unfold cutV at h
  exact List.mem_of_mem_drop (List.mem_of_mem_take h)
theorem ev_sliceK {lo hi : Option Expr} {tl th : TO} {p2 : Pos} {ol oh : Option Int} (pl : PO X lo tl) (ph : PO X hi th) (ha : EvE X P none a σ H (LK m Pr)) (hl : Eo P none tl σ H ol) (hh : Eo P none th σ H oh) :
    EvE X P none (.Subscript a (.Slice lo hi none p2) pos) σ H (LK m Pr) :=
  ev_of (pe_slice sl_list pe_w pl ph) fun H1 l Q q => ha H1 l _ fun u H2 l2 hu => hl H2 (l.trans l2) _ fun H3 l3 => hh H3 ((l.trans l2).trans l3) _ fun H4 l4 => by
    obtain ⟨p, xs, e, h, hlen, hx⟩ := (mono_lk (P := P) (m := m) (Pr := Pr)).up u H2 H4 (l3.trans l4) hu
    have l5 := (l2.trans l3).trans l4
    exact ⟨p, xs, e, SqL.of h, fun t ht => q _ _ (l5.trans (l4.right.mut ht)) ⟨t, _, rfl, upd_same, Nat.le_trans (cutV_length _ _ _) hlen, fun x m => mono_ie.up _ _ _ (l4.right.mut ht) (hx x (cut_sub m))⟩⟩
theorem ev_catK (ha : EvE X P none a σ H (LK m Pr)) (hb : EvE X P none b σ H (LK n Pr)) (hmn : m + n ≤ 100000) : EvE X P none (.BinOp a .Add b pos) σ H (LK (m + n) Pr) :=
  ev_of (pe_op op_cat pe_w pe_w) fun H1 l Q q => ha H1 l _ fun u H2 l2 hu => hb H2 (l.trans l2) _ fun v H3 l3 hv => by
    obtain ⟨p, xs, e, h, hlen, hx⟩ := (mono_lk (P := P) (m := m) (Pr := Pr)).up u H2 H3 l3 hu
    obtain ⟨p2, ys, e2, h2, hlen2, hy⟩ := hv
    exact ⟨p, p2, xs, ys, e, e2, h, h2, Nat.le_trans (show xs.length + ys.length ≤ 100000 by omega) (by decide), fun t ht => q _ _ ((l2.trans l3).trans (l3.right.mut ht)) ⟨t, _, rfl, upd_same, by rw [List.length_append]; omega, fun x mx => mono_ie.up _ _ _ (l3.right.mut ht) ((List.mem_append.mp mx).elim (hx x) (hy x))⟩⟩
theorem ev_lstK {es : List Expr} {Rs : List V → Hp → Prop} (ha : EvA X P none es σ H Rs) (hs : ∀ vs H1, Rs vs H1 → vs.length ≤ m ∧ ∀ x ∈ vs, IE Pr x H1) (hm : m ≤ 100000) : EvE X P none (.List es pos) σ H (LK m Pr) :=
  (ev_lst ha fun vs H1 h => Nat.le_trans (hs vs H1 h).1 hm).imp fun v H1 l ⟨a, vs, H0, e, _, _, h, l2, r⟩ => ⟨a, vs, e, h, (hs vs H0 r).1, fun x mx => mono_ie.up _ _ _ l2 ((hs vs H0 r).2 x mx)⟩
/-- lists of tuples, compared -/
theorem dp_rows {K : PySem.W.Frag} {H : Hp} : ∀ (rs : List (List Int)) (vs : List V), vs.length = rs.length → (∀ i x, vs[i]? = some x → IT (rs.getD i []) x H) → DpAll K H vs (dT rs)
  | [], [], _, _ => .nil
  | [], _ :: _, h, _ => by cases h
  | _ :: _, [], h, _ => by cases h
  | r :: rs, v :: vs, h, hi => by
    obtain ⟨a, e, hr⟩ := hi 0 v rfl
    subst e
    exact .cons (dp_t hr) (dp_rows rs vs (by simpa using h) fun i x q => hi (i + 1) x q)
theorem ev_neR {k : Nat} {rs ts : List (List Int)} (hr : Room k X.A) (ha : EvE X P none a σ H (LT none rs)) (hb : EvE X P none b σ H (LT none ts)) (hm : behindInMarks .NotEq b = false := by first | exact nomark _ | rfl) : EvE X P none (.Compare a [.NotEq] [b] pos) σ H (is (.bl (rs != ts))) :=
  ev_cmp2 (op_neD (room64 hr)) ha hb (fun u v H1 l ⟨p, vs, e, _, h, hl, hi⟩ ⟨p2, ws, e2, _, h2, hl2, hi2⟩ Q q => by
    rw [e, e2]
    refine ⟨_, _, .lst (SqL.of h) (dp_rows rs vs hl hi), .lst (SqL.of h2) (dp_rows ts ws hl2 hi2), shaped_rl _, shaped_rl _, ?_⟩
    rw [PyData.eqv, eqv_rows]
    exact q _ H1 l.right rfl) hm
end
/-- what Form's own code does, as far as the law leans on it -/
structure Ow (P : Program) (w : World) (K : PySem.W.Frag) (mg : Str → Option Value) (base : Heap) (T CF : Addr) : Prop where
  mul : ∃ g, PySem.W.findIn K (.ref CF) "__mul__" = some (some (.ref g)) ∧ PySem.W.isFn K (.ref g) = true ∧ FnR P w K mg base CX0 8 g (spMul T CF)
  self : PySem.W.selfFirst K CF = true
  ne : PySem.W.findIn K (.ref CF) "__ne__" = some (some (.builtin "object.__ne__"))
  eq : ∃ g, PySem.W.findIn K (.ref CF) "__eq__" = some (some (.ref g)) ∧ PySem.W.isFn K (.ref g) = true ∧ FnR P w K mg base CX0 1 g (spEq T CF)
  it : ∃ g, PySem.W.findIn K (.ref CF) "__iter__" = some (some (.ref g)) ∧ PySem.W.isFn K (.ref g) = true ∧ FnR P w K mg base CX0 1 g (spIter T CF)
  len : ∃ g, PySem.W.findIn K (.ref CF) "__len__" = some (some (.ref g)) ∧ PySem.W.isFn K (.ref g) = true ∧ FnR P w K mg base CX0 1 g (spLen T CF)
section
variable {X : Cx} {T CF : Addr} {σ : L2.St} {H : Hp} {a b : Expr} {ns ms : List Int} {p pos : Pos}
theorem ev_mulF (O : Ow X.prog X.w X.K X.mg X.base T CF) (hr : Room 8 X.A) (ha : EvE X T none a σ H (Box CF ns)) (hb : EvE X T none b σ H (Box CF ms)) (h1 : 1 ≤ ns.length) (h2 : 1 ≤ ms.length) (h3 : ns.length ≤ 10) (h4 : ms.length ≤ 10) (hc : ∀ i j, CMulW (K63.g ns i) (K63.g ms j)) : EvE X T none (.BinOp a .Mult b pos) σ H (Box CF (K63.mulL ns ms)) := by
  obtain ⟨g, m1, m2, F⟩ := O.mul
  exact ev_op2 (op_mulOwn m1 m2 O.self F hr) ha hb fun x y H1 l hx hy Q q => by
    obtain ⟨a, dx, e, rfl, sa, ea⟩ := id hx
    obtain ⟨b, dy, e2, rfl, sb, eb⟩ := id hy
    exact ⟨a, dx, _, b, dy, _, rfl, rfl, sa, sb, _, _, ns, ms, rfl, hx, hy, h1, h2, h3, h4, hc, fun z H2 l2 r => q z H2 l2 r⟩
theorem ev_neF (O : Ow X.prog X.w X.K X.mg X.base T CF) (c : Cls X.K CF "own_entries") (hr : Room 2 X.A) (ha : EvE X T none a σ H (Box CF ns)) (hb : EvE X T none b σ H (Box CF ms)) (hm : behindInMarks .NotEq b = false := by first | exact nomark _ | rfl) : EvE X T none (.Compare a [.NotEq] [b] pos) σ H (is (.bl (!(ns == ms)))) := by
  obtain ⟨g, m1, m2, F⟩ := O.eq
  exact ev_cmp2 (op_neOwn c O.ne m1 m2 F hr) ha hb (fun x y H1 l hx hy Q q => ⟨ns, ms, hx, hy, fun H2 l2 => q _ H2 l2 rfl⟩) hm
theorem ev_tupF (O : Ow X.prog X.w X.K X.mg X.base T CF) (hm : X.mg "tuple" = none) (hr : Room 5 X.A) (ha : EvE X T none a σ H (Box CF ns)) (hn : ns.length < 1000) (hg : Gl X "tuple" := by rfl) (he : starEach [a] X.env = (false, eval a X.env) :: starEach [] X.env := by rfl) : EvE X T none (.Call (.Name "tuple" p) [a] [] pos) σ H (IT ns) := by
  obtain ⟨g, m1, m2, F⟩ := O.it
  obtain ⟨g2, n1, n2, F2⟩ := O.len
  exact ev_bt1 (call_tupBox F F2 m1 m2 n1 n2 hr) hm (by decide +kernel) ha (fun u H1 l hu Q q => ⟨u, ns, rfl, hu, hn, fun z H2 l2 r => q z H2 l2 r⟩) hg (by decide) (by decide) he
end
end K6

/-! ## D20 -/
set_option Elab.async false
set_option linter.all false
set_option maxRecDepth 100000
set_option maxHeartbeats 4000000
set_option exponentiation.threshold 100000
namespace K6
open PySem PySem.Spec PyProof.Rows L2 SlX
section
variable {X : Cx} {P : Addr} {Z : Option Addr} {σ : L2.St} {H B : Hp} {a b : Expr} {pos : Pos}
theorem wb_nx {sts : List Stmt} {D : Ends} {Pv N : L2.St → Hp → Prop} (h : wB X sts { D with nx := Pv } σ H) (k : ∀ σ' H', Pv σ' H' → N σ' H') : wB X sts { D with nx := N } σ H := by
  intro pins s I
  refine wpAny_mono (h pins s I) (fun f s' z => ?_) fun _ _ z => z
  cases f with
  | next => obtain ⟨σ3, H3, I3, z⟩ := z; exact ⟨σ3, H3, I3, k _ _ z⟩
  | cont => exact z
  | brk => exact z
  | ret v => exact z
/-- an if whose branches meet again -/
theorem hb_ifJ {c : Expr} {u v rest : List Stmt} {D : Ends} {x : Bool} (Pv : L2.St → Hp → Prop) (l : Le P Z B H) (hc : EvT X P Z c σ H x) (ha : x = true → ∀ H1, Le P Z B H1 → Le P Z H H1 → wB X u { D with nx := Pv } σ H1) (hb : x = false → ∀ H1, Le P Z B H1 → Le P Z H H1 → wB X v { D with nx := Pv } σ H1) (k : ∀ σ' H', Pv σ' H' → wB X rest D σ' H') :
    wB X (.If c u v pos :: rest) D σ H :=
  hb_if l hc (fun hx H1 l1 l2 => wb_nx (ha hx H1 l1 l2) k) fun hx H1 l1 l2 => wb_nx (hb hx H1 l1 l2) k
/-- (0,) * n -/
theorem ev_zeros {n : Nat} (ha : EvE X P none a σ H (IT [0])) (hb : EvE X P none b σ H (is (.int (n : Int)))) (h1 : 1 ≤ n) (h2 : n ≤ 1000) : EvE X P none (.BinOp a .Mult b pos) σ H (IT (List.replicate n 0)) := by
  by_cases h : n = 1
  · subst h
    exact ev_op2 op_repT1 ha hb fun x y H1 l ⟨p, e, hx⟩ hy Q q => ⟨p, _, e, hy, SqT.of hx, q _ H1 l.right ⟨p, rfl, hx⟩⟩
  · refine ev_op2 op_repT ha hb fun x y H1 l ⟨p, e, hx⟩ hy Q q => ⟨p, _, _, e, hy, SqT.of hx, (fun z => by cases z), by omega, by omega, (by show 1 ≤ 1000; decide), fun t ht => q _ _ (l.right.mut ht) ⟨t, rfl, ?_⟩⟩
    rw [upd_same]
    have key : ∀ n, (List.replicate n ([(0 : Int)].map V.int)).flatten = (List.replicate n (0 : Int)).map V.int := fun n => by
      induction n with
      | zero => rfl
      | succ n ih => rw [List.replicate_succ, List.flatten_cons, ih, List.replicate_succ]; rfl
    rw [Int.toNat_natCast, key]
end
theorem dk_zero {f : List Int} (h : 1 ≤ f.length) : doesKill [0] f = true := by
  rw [dk_eq (a := [0]) (f := f) h, beq_iff_eq, K63.shared_eq_zero]
  refine (K63.act_zero (a := [0]) (f := f) (by decide) h).mpr fun j hj => ?_
  refine K63.sm_zero fun i hi => ?_
  have e : i = 0 := by have : ([0] : List Int).length = 1 := rfl; omega
  subst e
  exact Int.zero_mul _
theorem lv_zeros (n i : Nat) : K63.lv (List.replicate n 0) i = 0 := by
  refine K63.lv_zero.mpr ?_
  by_cases hi : i < (List.replicate n (0 : Int)).length
  · exact List.eq_of_mem_replicate (K63.g_mem hi)
  · exact K63.g_ge (by omega)
theorem dk_zeros {a : List Int} {n : Nat} (h : 1 ≤ a.length) : doesKill a (List.replicate n 0) = true := by
  by_cases hle : a.length ≤ (List.replicate n (0 : Int)).length
  · rw [dk_eq hle, beq_iff_eq, K63.shared_eq_zero]
    refine (K63.act_zero h hle).mpr fun j hj => K63.sm_zero fun i hi => ?_
    rw [lv_zeros]
    exact Int.mul_zero _
  · exact dk_long (by omega)
theorem zero_fi : FI [0] := ⟨by decide, by decide, fun i => by
  match i with
  | 0 => exact Nat.zero_le _
  | i + 1 => rw [K63.g_cons_succ, K63.g_nil]; exact Nat.zero_le _⟩
theorem zeros_act {a : List Int} (ha : FI a) {n : Nat} (hn : n ≤ 100) : ActOk a (List.replicate n 0) := ⟨ha.1, by have := ha.2.1; omega, by rw [List.length_replicate]; exact hn, sh_big ha.sh, fun i => by rw [lv_zeros]; exact big_of (b := 1) (by decide) (by decide)⟩
theorem prod_big {c b : List Int} (h1 : 1 ≤ c.length) (h2 : c.length ≤ 10) (b1 : 1 ≤ b.length) (hc : ∀ i, (K63.g c i).natAbs < 2 ^ 8998) (hb : FI b) (i : Nat) : Big (K63.g (K63.mulL c b) i) := by
  have hs := K63.mulL_size (one := c) (other := b) (A := 2 ^ 8998) (B := 10 ^ 12) (fun i => Nat.le_of_lt (hc i)) hb.2.2 b1 i
  refine big_of (b := 9998) (Nat.lt_of_le_of_lt hs ?_) (by decide)
  have e1 : c.length * (b.length * (2 ^ 8998 * 10 ^ 12)) ≤ 10 * (8 * (2 ^ 8998 * 10 ^ 12)) := Nat.mul_le_mul h2 (Nat.mul_le_mul hb.2.1 (Nat.le_refl _))
  have e2 : (2 : Nat) ^ 9998 = 2 ^ 8998 * 2 ^ 1000 := by rw [← Nat.pow_add]
  have e3 : 10 * (8 * 10 ^ 12) < 2 ^ 1000 := by decide
  have p : (0 : Nat) < 2 ^ 8998 := Nat.pow_pos (by decide)
  refine Nat.lt_of_le_of_lt e1 ?_
  rw [e2, show 10 * (8 * (2 ^ 8998 * 10 ^ 12)) = 2 ^ 8998 * (10 * (8 * 10 ^ 12)) from by rw [Nat.mul_left_comm 8, Nat.mul_left_comm 10]]
  exact Nat.mul_lt_mul_of_pos_left e3 p
section
variable {P : Program} {w : World} {K : PySem.W.Frag} {mg : Str → Option Value} {base : Heap} {T CT CF : Addr}
theorem ev_lform {X : Cx} {d : Addr} {σ : L2.St} {H : Hp} {a b : Expr} {m : Nat} {p pos : Pos} (F : Fk X.prog X.w X.K X.mg X.base "_law_form" 5 ["_law_dice_here", "_law_degree"] (spForm T)) (hr : Room 5 X.A) (ha : EvE X T (some d) a σ H (is (.ref d))) (hb : EvE X T (some d) b σ H (IN 0 (m : Int))) (hm : m ≤ 7) (hg : Gl X "_law_form" := by rfl)
    (he : starEach [a, b] X.env = (false, eval a X.env) :: starEach [b] X.env := by rfl) (he2 : starEach [b] X.env = (false, eval b X.env) :: starEach [] X.env := by rfl) (hpl : (backTo pos (starEach [b] X.env)).any (·.1) = false := by rfl) : EvE X T (some d) (.Call (.Name "_law_form" p) [a, b] [] pos) σ H (IE fun f => FI f ∧ f.length ≤ m + 1) :=
  ev_call2 F hr ha hb (fun x y H3 l hx ⟨r, hy, r0, r1⟩ Q q => ⟨d, r.toNat, by rw [show x = _ from hx, hy, Int.toNat_of_nonneg r0], by omega, (l.dice d rfl).2, fun z H4 l4 ⟨f, hf, fo⟩ => q z H4 l4 ⟨f, hf, fi_of fo (by omega), by have := fo.1; omega⟩⟩) hg he he2 hpl
def spRight (T : Addr) : Sp := fun vs H Q _ => ∃ d, vs = [.ref d] ∧ Dice H d ∧ GxR.TabG H T ∧ ∀ H', Le T (some d) H H' → Q (.bl true) H'
abbrev N73 : List Str := ["_law_dice_here", "_law_form_here", "_law_size", "_law_degree", "_law_one", "_law_other", "_law_some", "_law_told", "_law_acting", "_law_step", "_law_entry"]
theorem sc73 : FnScope N73 ["_law_dice_here"] (defScope (top 73)) := ⟨rfl, rfl, rfl, by decide +kernel, rfl, by decide +kernel, by decide +kernel⟩
theorem ok_right {f : Addr} {fd : FuncData} (F : FnP K "_law_right" 73 f fd) (G : G0 mg) (L : Lw P w K mg base T CT CF) (O : Ow P w K mg base T CF) (fR : Fk P w K mg base "_law_roll" 1 ["_law_dice_here", "_law_total"] (spRoll T)) (fF : Fk P w K mg base "_law_form" 5 ["_law_dice_here", "_law_degree"] (spForm T))
    (fM : Fk P w K mg base "_law_product" 1 ["_law_one", "_law_other"] (spJoin T)) (fA : Fk P w K mg base "_law_is_acting_right" 9 ["_law_one", "_law_form_here"] (spActR T)) : FnOk P w K mg base CX0 10 f fd ["_law_dice_here"] (spRight T) := by
  refine F.ok sc73 (fun vs H Q E h => ?_) (fun cdv A outer s H vs Q E hr h => ?_)
  · obtain ⟨d, rfl, _⟩ := h
    rfl
  · obtain ⟨d, rfl, hd, ht, q⟩ := h
    refine ⟨_, PSs.nox pb_w, ?_⟩
    refine hb_set (P := T) (Z := some d) 1 (Le.reflD hd) (ev_lform (m := 7) fF (hr.mono (by decide)) (ev_i 0 rfl) (ev_roll fR (hr.mono (by decide)) (ev_i 0 rfl) ev_c (by decide) (by decide)) (by decide)) sc73.nd fun u H1 l1 _ r => ?_
    obtain ⟨f, hf, hF, _⟩ := r
    have f1 := hF.1
    have f2 := hF.2.1
    have fv : ∀ H2, Le T none H1 H2 → IT f u H2 := fun H2 l => mono_tv.up _ _ _ l hf
    refine hb_set (P := T) (Z := none) 2 (Le.refl0 H1) (R := is (.int ((f.length - 1 : Nat) : Int))) (Ev.eq (ev_sub (ev_lenI G.len (ev_v 1 rfl hf)) ev_c) (by congr 1; omega)) sc73.nd fun v H2 l2 _ r => ?_
    have ev : v = .int ((f.length - 1 : Nat) : Int) := r
    subst ev
    refine hb_forN (P := T) (Z := none) (B := H1) (fun i σ' H' => ∃ x, σ' = [some (.ref d), some u, some (.int ((f.length - 1 : Nat) : Int)), x, none, none, none, none, none, none, none]) (pi_range1 rfl G.range pa_w) (pg_name (i := 3) sc73.nd rfl (Or.inl rfl)) l2 (es_range1 (ev_add (ev_i 2 rfl) ev_c) (by omega)).toN (bd_name (K := K)) (fun H2 l => ⟨none, rfl⟩) (fun i t σ' H' H3 hi _ l3 h _ ht => ?_) fun σ' H3 l3 _ h => ?_
    · obtain ⟨x, rfl⟩ := h
      have et : t = .int (i : Int) := ht
      subst et
      exact hb_ifn l3 (x := false) (Et.is (et_c (ev_neR hr (ev_listG G.list (ev_call2 (R := TT (K63.levelRows f i)) L.tab (hr.mono (by decide)) (ev_form L (hr.mono (by decide)) (ev_v 1 rfl (fv H3 l3)) f1 (by omega) hF.sh) (ev_i 3 rfl) fun x y H4 l hx hy Q q => ⟨x, f, i, by rw [show y = _ from hy], hx, f1, by omega, by omega, hF.big, fun z H5 l r => q z H5 l r⟩))
        (ev_call2 (R := LT none (K63.levelRows f i)) L.kt (hr.mono (by decide)) (ev_v (R := IT f) 1 rfl (fv H3 l3)) (ev_i 3 rfl) fun x y H4 l hx hy Q q => ⟨x, f, i, by rw [show y = _ from hy], hx, f1, by omega, by omega, hF.big, fun z H5 l r => q z H5 l r⟩))) (by simp)) rfl fun H4 l4 l5 => hb_nil ⟨l5, _, rfl⟩
    · obtain ⟨x3, rfl⟩ := h
      have l3d := l3.weak (Z := some d) fun a z => (l1.dice a z).2
      refine hb_par (P := T) (Z := some d) 4 5 (Le.reflD (l3d.dice d rfl).2) (ea_cons (ev_lform (m := 4) fF (hr.mono (by decide)) (ev_i 0 rfl) (ev_roll fR (hr.mono (by decide)) (ev_i 0 rfl) ev_c (by decide) (by decide)) (by decide)) (ea_cons (ev_lform (m := 3) fF (hr.mono (by decide)) (ev_i 0 rfl) (ev_roll fR (hr.mono (by decide)) (ev_i 0 rfl) ev_c (by decide) (by decide)) (by decide)) ea_nil)) sc73.nd fun vs H4 l4 _ r => ?_
      obtain ⟨va, r1, rfl, ⟨a, ha, fa, la⟩, vb, r2, rfl, ⟨b, hb, fb, lb⟩, e⟩ := r
      have e' : r2 = [] := e
      subst e'
      refine ⟨_, _, rfl, ?_⟩
      have l14 := (l1.trans l3d).trans l4
      have a1 := fa.1
      have b1 := fb.1
      have hT4 := l14.tab ht
      have hf4 : IT f u H4 := mono_tv.up _ _ _ l4 (fv H3 l3)
      have up : ∀ H5, Le T none H4 H5 → IT f u H5 ∧ IT a va H5 ∧ IT b vb H5 ∧ GxR.TabG H5 T := fun H5 l => ⟨mono_tv.up _ _ _ l hf4, mono_tv.up _ _ _ l ha, mono_tv.up _ _ _ l hb, l.tab hT4⟩
      have fin : ∀ H5, Le T none H4 H5 → Le T (some d) H H5 := fun H5 l => l14.trans (l.weak fun a z => (l14.dice a z).2)
      refine hb_set (P := T) (Z := none) 6 (Le.refl0 H4) (R := LK 4 AI) (ev_lstK (Rs := fun vs H => ∃ x r, vs = x :: r ∧ IE AI x H ∧ ∃ x2 r2, r = x2 :: r2 ∧ IE AI x2 H ∧ ∃ x3 r3, r2 = x3 :: r3 ∧ IE AI x3 H ∧ ∃ x4 r4, r3 = x4 :: r4 ∧ IE AI x4 H ∧ r4 = []) (ea_cons (R := IE AI) (Ev.imp (ev_v (R := IT a) 4 rfl ha) fun v H l h => ⟨a, h, fa.ai⟩) (ea_cons (R := IE AI) (Ev.imp (ev_v (R := IT b) 5 rfl hb) fun v H l h => ⟨b, h, fb.ai⟩)
        (ea_cons (R := IE AI) (Ev.imp (ev_tuple G.tuple (ev_lc (R := LV none ((List.range a.length).map fun _ => V.int 0)) sc73.nd (pi_tup pe_w) (blkOk_by (own := [("_law_entry", 10)]) (N := N73) (sc := defScope (top 73)) (by decide +kernel)) (fun _ _ _ _ _ => pg_name (i := 10) sc73.nd rfl (Or.inl rfl))
          (lc_vals (en_tup (n := a.length) (R := fun i => is (.int (K63.g a i))) (Ev.imp (R := IT a) (ev_v 4 rfl ha) fun v H1 l h => it_tg h)) (bd_name (K := K)) (by have := fa.2.1; omega) (fun _ _ _ _ => rfl) (fun _ => .int 0) fun k u H6 hk l hu => eb_of fun _ _ _ _ _ => ev_c))) fun v H l h => ⟨_, (show IT (List.replicate a.length 0) v H by
            have e : (List.range a.length).map (fun _ => V.int 0) = (List.replicate a.length (0 : Int)).map V.int := by rw [List.map_const', List.length_range, List.map_replicate]
            show TV ((List.replicate a.length (0 : Int)).map V.int) v H
            rw [← e]
            exact h), zero_ai a1 (by have := fa.2.1; omega)⟩)
        (ea_cons (R := IE AI) (Ev.imp (ev_call2 (R := IT (K63.mulL a b)) fM (hr.mono (by decide)) (ev_v (R := IT a) 4 rfl ha) (ev_v (R := IT b) 5 rfl hb) fun x y H3 l hx hy Q q => ⟨x, y, a, b, rfl, hx, hy, a1, b1, by have := fa.2.1; omega, by have := fb.2.1; omega, fun i j => (sh_big fa.sh i).mul (sh_big fb.sh j), fun z H4 l r => q z H4 l r⟩) fun v H l h => ⟨_, h, prod_ai fa fb⟩) ea_nil)))) (fun vs H h => by
          obtain ⟨x, r, rfl, hx, x2, r2, rfl, hx2, x3, r3, rfl, hx3, x4, r4, rfl, hx4, rfl⟩ := h
          refine ⟨Nat.le_refl _, fun y m => ?_⟩
          rcases List.mem_cons.mp m with rfl | m
          · exact hx
          rcases List.mem_cons.mp m with rfl | m
          · exact hx2
          rcases List.mem_cons.mp m with rfl | m
          · exact hx3
          rcases List.mem_cons.mp m with rfl | m
          · exact hx4
          · cases m) (by decide)) sc73.nd fun some1 H5 l5 _ hsome => ?_
      have dm : ∀ k : Nat, ∀ H6, (Le T none H4 H6) → k ≤ 4 → True := fun _ _ _ _ => trivial
      have few : (K63.kernel (K63.levelRows f (min f.length 3)) (min f.length 3 + 1)).length ≤ 1000 := ker_few (hF.rows (d := min f.length 3) (by omega)).ker
      have few4 : (K63.kernel (K63.levelRows f (min f.length 4)) (min f.length 4 + 1)).length ≤ 1000 := ker_few (hF.rows (d := min f.length 4) (by omega)).ker
      refine hb_set 6 l5 (R := LK (4 + 1000) AI) (ev_catK (ev_v (R := LK 4 AI) 6 rfl hsome) (ev_sliceK po_none (po_some pe_w) (ev_lc (R := LK 1000 AI) sc73.nd (pi_tup pe_w) (blkOk_by (own := [("_law_told", 7)]) (N := N73) (sc := defScope (top 73)) (by decide +kernel)) (fun _ _ _ _ _ => pg_name (i := 7) sc73.nd rfl (Or.inl rfl))
        (Ev.imp (lc_objs (R := fun _ => IE AI) (en_tup (n := (K63.kernel (K63.levelRows f (min f.length 3)) (min f.length 3 + 1)).length) (R := fun i => Box CF ((K63.kernel (K63.levelRows f (min f.length 3)) (min f.length 3 + 1)).getD i [])) (ev_call2 (R := TF CF (K63.kernel (K63.levelRows f (min f.length 3)) (min f.length 3 + 1))) L.ks (hr.mono (by decide)) (ev_form L (hr.mono (by decide)) (ev_v 1 rfl (up H5 l5).1) f1 (by omega) hF.sh) (Ev.eq (y := .int ((min f.length 3 : Nat) : Int)) (ev_min2 rfl G.min (ev_add (ev_i 2 rfl) ev_c) ev_c) (by congr 1; split <;> omega)) fun x y H6 l hx hy Q q => ⟨x, f, min f.length 3, by rw [show y = _ from hy], hx, (l5.trans l).tab hT4, hF.rows (by omega), by omega, fun z H5 l r => q z H5 l r⟩)) (bd_name (K := K)) (by omega) (fun _ _ _ _ => rfl) (fun _ _ => ob_ie) fun i u H6 hi l hu => eb_of fun _ _ _ _ _ => ?_) fun v H l h => lk_of (lg_of h) few)) eo_none (eo_some ev_c)) (by decide)) sc73.nd fun some2 H6 l6 _ hsome2 => ?_
      · have mem : (K63.kernel (K63.levelRows f (min f.length 3)) (min f.length 3 + 1)).getD i [] ∈ K63.kernel (K63.levelRows f (min f.length 3)) (min f.length 3 + 1) := by
          rw [K63.getD_lt hi]
          exact List.getElem_mem hi
        have av := ai_ker hF (by omega) mem
        exact Ev.imp (ev_tupF O G.tuple (hr.mono (by decide)) (ev_v (R := Box CF _) 7 rfl hu) (by have := av.2.1; omega)) fun v H l h => ⟨_, h, av⟩
      · obtain ⟨n, hn, hlg⟩ := lk_lg hsome2
        refine hb_forN (P := T) (Z := none) (B := H4) (fun i σ' H' => ∃ x, σ' = [some (.ref d), some u, some (.int ((f.length - 1 : Nat) : Int)), x3, some va, some vb, some some2, none, x, none, none]) (pi_list pe_w) (pg_name (i := 8) sc73.nd rfl (Or.inl rfl)) l6 (en_list (ev_v (R := LG none n fun _ => IE AI) 6 rfl hlg)) (bd_name (K := K)) (fun H2 l => ⟨none, rfl⟩) (fun i t σ' H' H7 hi _ l7 h _ ht => ?_) fun σ' H7 l7 _ h => ?_
        · obtain ⟨x, rfl⟩ := h
          obtain ⟨c, hc, ac⟩ := ht
          exact hb_ifn l7 (et_not (x := true) (et_e (ev_call2 (R := is (.bl true)) fA hr (ev_v (R := IT c) 8 rfl hc) (ev_v (R := IT f) 1 rfl (up H7 l7).1) fun x y H8 l hx hy Q q => ⟨x, y, c, f, rfl, hx, hy, ac.act hF, ac.2.2, hF.sh, ac.2.1, f1, by omega, fun H9 l => q _ H9 l rfl⟩))) rfl fun H8 l8 l9 => hb_nil ⟨l9, _, rfl⟩
        · obtain ⟨x8, rfl⟩ := h
          refine hb_ifJ (P := T) (Z := none) (B := H4) (x := decide ((a.length : Int) + (b.length : Int) - 2 ≤ ((f.length - 1 : Nat) : Int))) (fun σ' H' => Le T none H4 H' ∧ ∃ x9, σ' = [some (.ref d), some u, some (.int ((f.length - 1 : Nat) : Int)), x3, some va, some vb, some some2, none, x8, x9, none]) l7 (et_c (ev_le (ev_sub (ev_add (ev_lenI G.len (ev_v 4 rfl (up H7 l7).2.1)) (ev_lenI G.len (ev_v 5 rfl (up H7 l7).2.2.1))) ev_c) (ev_i 2 rfl))) (fun hc H8 l8 _ => ?_) (fun _ H8 l8 _ => hb_nil ⟨l8, _, rfl⟩) fun σ' H8 h => ?_
          · have hle : a.length + b.length - 1 ≤ f.length := by have := of_decide_eq_true hc; omega
            have al := K63.actL_len b f
            refine hb_set 9 l8 (R := Box CF (K63.actL b f)) (ev_kd L (hr.mono (by decide)) (ev_form L (hr.mono (by decide)) (ev_v 5 rfl (up H8 l8).2.2.1) b1 (by omega) fb.sh) (ev_form L (hr.mono (by decide)) (ev_v 1 rfl (up H8 l8).1) f1 (by omega) hF.sh) (fb.ai.act hF) (by omega)) sc73.nd fun step H9 l9 _ hstep => ?_
            have pa := prod_ai fa fb
            have ml := K63.mulL_len a b
            refine hb_ifn l9 (x := false) (Et.is (et_c (ev_neF O L.fm.cls (hr.mono (by decide)) (ev_kd L (hr.mono (by decide)) (ev_form (ns := K63.mulL a b) L (hr.mono (by decide)) (ev_call2 (R := IT (K63.mulL a b)) fM (hr.mono (by decide)) (ev_v (R := IT a) 4 rfl (up H9 l9).2.1) (ev_v (R := IT b) 5 rfl (up H9 l9).2.2.1) fun x y H3 l hx hy Q q => ⟨x, y, a, b, rfl, hx, hy, a1, b1, by have := fa.2.1; omega, by have := fb.2.1; omega, fun i j => (sh_big fa.sh i).mul (sh_big fb.sh j), fun z H4 l r => q z H4 l r⟩) pa.1 pa.2.1 pa.2.2) (ev_form L (hr.mono (by decide)) (ev_v 1 rfl (up H9 l9).1) f1 (by omega) hF.sh) (pa.act hF) (by omega))
              (ev_kd L (hr.mono (by decide)) (ev_form L (hr.mono (by decide)) (ev_v 4 rfl (up H9 l9).2.1) a1 (by omega) fa.sh) (ev_v (R := Box CF (K63.actL b f)) 9 rfl hstep) (step_ok fa fb hF (by omega)) (by omega)))) (by rw [K63.act_mul a1 b1 hle]; simp)) rfl fun H10 l10 _ => hb_nil ⟨l10, _, rfl⟩
          · obtain ⟨l8, x9, rfl⟩ := h
            refine hb_forN (P := T) (Z := none) (B := H4) (fun i σ' H' => ∃ x7, σ' = [some (.ref d), some u, some (.int ((f.length - 1 : Nat) : Int)), x3, some va, some vb, some some2, x7, x8, x9, none]) (pi_tup pe_w) (pg_name (i := 7) sc73.nd rfl (Or.inl rfl)) l8 (en_tup (n := (K63.kernel (K63.levelRows f (min f.length 4)) (min f.length 4 + 1)).length) (R := fun i => Box CF ((K63.kernel (K63.levelRows f (min f.length 4)) (min f.length 4 + 1)).getD i [])) (ev_call2 (R := TF CF (K63.kernel (K63.levelRows f (min f.length 4)) (min f.length 4 + 1))) L.ks (hr.mono (by decide)) (ev_form L (hr.mono (by decide)) (ev_v 1 rfl (up H8 l8).1) f1 (by omega) hF.sh) (Ev.eq (y := .int ((min f.length 4 : Nat) : Int)) (ev_min2 rfl G.min (ev_add (ev_i 2 rfl) ev_c) ev_c) (by congr 1; split <;> omega)) fun x y H6 l hx hy Q q => ⟨x, f, min f.length 4, by rw [show y = _ from hy], hx, (l8.trans l).tab hT4, hF.rows (by omega), by omega, fun z H5 l r => q z H5 l r⟩)) (bd_name (K := K)) (fun H2 l => ⟨none, rfl⟩) (fun i t σ' H' H9 hi _ l9 h _ ht => ?_) fun σ' H9 l9 _ h => ?_
            · obtain ⟨x, rfl⟩ := h
              have mem : (K63.kernel (K63.levelRows f (min f.length 4)) (min f.length 4 + 1)).getD i [] ∈ K63.kernel (K63.levelRows f (min f.length 4)) (min f.length 4 + 1) := by
                rw [K63.getD_lt hi]
                exact List.getElem_mem hi
              generalize (K63.kernel (K63.levelRows f (min f.length 4)) (min f.length 4 + 1)).getD i [] = c at mem ht
              have cl := ker_one hF (by omega) mem
              have ml := K63.mulL_len c b
              have ok1 : ActOk c f := ⟨by omega, by omega, by omega, fun i => big_of (cl.2 i) (by decide), hF.big⟩
              have ok2 : ActOk (K63.mulL c b) f := ⟨by omega, by omega, by omega, prod_big (by omega) (by omega) b1 cl.2 fb, hF.big⟩
              exact hb_ifn l9 (et_or (x := false) (y := false) (Et.is (et_not (x := true) (et_e (Ev.eq (ev_dk L (hr.mono (by decide)) (ev_v (R := Box CF c) 7 rfl ht) (ev_form L (hr.mono (by decide)) (ev_v 1 rfl (up H9 l9).1) f1 (by omega) hF.sh) ok1) (by rw [ker_kills hF (by omega) mem])))) rfl)
                fun _ => Et.is (et_not (x := true) (et_e (Ev.eq (ev_dk L (hr.mono (by decide)) (ev_mulF O (hr.mono (by decide)) (ev_v (R := Box CF c) 7 rfl ht) (ev_form L (hr.mono (by decide)) (ev_v 5 rfl (up H9 l9).2.2.1) b1 (by omega) fb.sh) (by omega) b1 (by omega) (by omega) fun i j => Big.mul (big_of (cl.2 i) (by decide)) (sh_big fb.sh j)) (ev_form L (hr.mono (by decide)) (ev_v 1 rfl (up H9 l9).1) f1 (by omega) hF.sh) ok2) (by rw [prod_kills hF (by omega) b1 mem])))) rfl) rfl fun H10 l10 l11 => hb_nil ⟨l11, _, rfl⟩
            · obtain ⟨x7, rfl⟩ := h
              refine hb_ret l9 (ev_andB (ev_dk L (hr.mono (by decide)) (ev_form (ns := [0]) L (hr.mono (by decide)) ev_one (by decide) (by decide) zero_fi.sh) (ev_form L (hr.mono (by decide)) (ev_v 1 rfl (up H9 l9).1) f1 (by omega) hF.sh) (zero_fi.ai.act hF))
                fun _ => ev_dk L (hr.mono (by decide)) (ev_form L (hr.mono (by decide)) (ev_v 4 rfl (up H9 l9).2.1) a1 (by omega) fa.sh) (ev_form (ns := List.replicate f.length 0) L (hr.mono (by decide)) (ev_zeros ev_one (Ev.eq (ev_add (ev_i 2 rfl) ev_c) (by congr 1; omega)) f1 (by omega)) (zero_ai f1 (by omega)).1 (zero_ai f1 (by omega)).2.1 (zero_ai f1 (by omega)).2.2) (zeros_act fa (by omega))) fun z H10 l10 _ r => ?_
              rw [show z = .bl (doesKill [0] f && doesKill a (List.replicate f.length 0)) from r, dk_zero f1, dk_zeros a1]
              exact q H10 (fin H10 l10)
end
end K6

/-! ## D21 -/
set_option Elab.async false
set_option linter.all false
set_option maxRecDepth 100000
set_option maxHeartbeats 4000000
set_option exponentiation.threshold 100000
namespace K6
open PySem PySem.Spec PyProof.Rows L2 SlX
section
variable {X : Cx} {P : Addr} {σ : L2.St} {H H3 H' : Hp} {R : Rp} {a b e : Expr} {es : List Expr} {pos p : Pos} {x : Str}
/-- a thing made now may change unseen -/
theorem Le.fresh {d : Addr} (l : Le P none H H3) (l2 : Le P (some d) H3 H') (hd : H d = none) : Le P none H H' :=
  ⟨fun a o z n h => l2.keep a o (fun e => by cases e; rw [hd] at h; cases h) n (l.keep a o z n h), fun a h => l.dom a (l2.dom a h), fun h => l2.tab (l.tab h), fun _ e => by cases e⟩
theorem ev_callF {k : Nat} {ps : List Str} {sp : Sp} {Ra : Hp → Rp} (F : Fk X.prog X.w X.K X.mg X.base x k ps sp) (hr : Room k X.A) (ha : ∀ H1, Le P none H H1 → EvE X P none a σ H1 (Ra H1)) (hm : ∀ H1, Mono P none (Ra H1))
    (h : ∀ H1 u H2, Le P none H H1 → Le P none H1 H2 → Ra H1 u H2 → ∀ Q : VK, (∀ v H3, Le P none H1 H3 → R v H3 → Q v H3) → sp [u] H2 Q E0) (hg : Gl X x := by rfl)
    (he : starEach [a] X.env = (false, eval a X.env) :: starEach [] X.env := by rfl) (hpl : (backTo pos (starEach [] X.env)).any (·.1) = false := by rfl) (hd : (x == ("__debug__" : Str)) = false := by decide) : EvE X P none (.Call (.Name x p) [a] [] pos) σ H R := by
  obtain ⟨f, fd, G, hmg, kp, hb⟩ := F.ex
  refine ev_of (pe_call G hr hg hmg kp hb .nil pass0 pa_w hd he hpl) fun H1 l Q q => (haveI := hm H1; ea_cons (ha H1 l) ea_nil he) H1 l.right _ fun vs H2 l2 hv => ?_
  obtain ⟨u, r, rfl, hu, hr⟩ := hv
  have e : r = [] := hr
  subst e
  show sp [u] H2 Q E0
  exact h H1 u H2 l l2 hu Q fun v H3 l3 r => q v H3 l3 r
/-! ### data told whole -/
theorem sqL_up {K : PySem.W.Frag} {xs : List V} {c : Addr} (l : Le P none H H') (h : SqL K H c xs) : SqL K H' c xs := by
  rcases h with (h | ⟨o, h⟩) | h
  · exact .inl (.inl (l.keep c _ (fun z => by cases z) nt_lst h))
  · exact .inl (.inr ⟨o, l.keep c _ (fun z => by cases z) nt_frz h⟩)
  · exact .inr h
theorem sqT_up {K : PySem.W.Frag} {xs : List V} {c : Addr} (l : Le P none H H') (h : SqT K H c xs) : SqT K H' c xs := by
  rcases h with (h | ⟨o, h⟩) | h
  · exact .inl (.inl (l.keep c _ (fun z => by cases z) nt_tup h))
  · exact .inl (.inr ⟨o, l.keep c _ (fun z => by cases z) nt_frz h⟩)
  · exact .inr h
theorem dp_up {K : PySem.W.Frag} (l : Le P none H H') {v : V} {d : PyData} (h : Dp K H v d) : Dp K H' v d :=
  Dp.rec (motive_1 := fun v d _ => Dp K H' v d) (motive_2 := fun vs ds _ => DpAll K H' vs ds) .non .bl .int .str (fun h1 _ ih => .lst (sqL_up l h1) ih) (fun h1 _ ih => .tup (sqT_up l h1) ih) .nil (fun _ _ a b => .cons a b) h
theorem dps_up {K : PySem.W.Frag} (l : Le P none H H') {vs : List V} {ds : List PyData} (h : DpAll K H vs ds) : DpAll K H' vs ds :=
  DpAll.rec (motive_1 := fun v d _ => Dp K H' v d) (motive_2 := fun vs ds _ => DpAll K H' vs ds) .non .bl .int .str (fun h1 _ ih => .lst (sqL_up l h1) ih) (fun h1 _ ih => .tup (sqT_up l h1) ih) .nil (fun _ _ a b => .cons a b) h
def RD (K : PySem.W.Frag) (d : PyData) : Rp := fun v H => Dp K H v d
def RDs (K : PySem.W.Frag) (ds : List PyData) : List V → Hp → Prop := fun vs H => DpAll K H vs ds
instance mono_rd {K : PySem.W.Frag} {d : PyData} : Mono P none (RD K d) := ⟨fun _ _ _ l h => dp_up l h⟩
theorem dps_len {K : PySem.W.Frag} : ∀ {vs : List V} {ds : List PyData}, DpAll K H vs ds → vs.length = ds.length
  | [], [], _ => rfl
  | _ :: _, [], h => by cases h
  | [], _ :: _, h => by cases h
  | _ :: _, _ :: _, h => by
    cases h with
    | cons _ h => rw [List.length_cons, List.length_cons, dps_len h]
theorem rd_nil : EvA X P none [] σ H (RDs X.K []) := fun H1 l Q q => ea_nil H1 l Q fun vs H2 l2 h => q vs H2 l2 (by rw [h]; exact .nil)
theorem rd_cons {d : PyData} {ds : List PyData} (ha : EvE X P none e σ H (RD X.K d)) (hr : EvA X P none es σ H (RDs X.K ds)) (hs : starEach (e :: es) X.env = (false, eval e X.env) :: starEach es X.env := by rfl) : EvA X P none (e :: es) σ H (RDs X.K (d :: ds)) :=
  fun H1 l Q q => ea_cons ha hr hs H1 l Q fun vs H2 l2 ⟨v, r, e, h1, h2⟩ => q vs H2 l2 (by rw [e]; exact .cons h1 h2)
theorem rd_tup {ds : List PyData} {k : Nat} (ha : EvA X P none es σ H (RDs X.K ds)) (hl : ds.length ≤ 1000) : EvE X P none (.Tuple es k pos) σ H (RD X.K (.tuple ds)) :=
  (ev_tup ha fun vs H1 h => by rw [dps_len h]; exact Nat.le_trans hl (by decide)).imp fun v H1 l ⟨a, vs, H0, e, h, l2, r⟩ => by
    rw [e]
    exact .tup (SqT.of h) (dps_up l2 r)
theorem rd_lst {ds : List PyData} (ha : EvA X P none es σ H (RDs X.K ds)) (hl : ds.length ≤ 1000) : EvE X P none (.List es pos) σ H (RD X.K (.list ds)) :=
  (ev_lst ha fun vs H1 h => by rw [dps_len h]; exact Nat.le_trans hl (by decide)).imp fun v H1 l ⟨a, vs, H0, e, _, _, h, l2, r⟩ => by
    rw [e]
    exact .lst (SqL.of h) (dps_up l2 r)
theorem rd_int {i : Int} (ha : EvE X P none e σ H (is (.int i))) : EvE X P none e σ H (RD X.K (.int i)) := Ev.imp ha fun v H1 l h => by
  rw [show v = .int i from h]
  exact .int i
theorem rd_bl {i : Bool} (ha : EvE X P none e σ H (is (.bl i))) : EvE X P none e σ H (RD X.K (.bool i)) := Ev.imp ha fun v H1 l h => by
  rw [show v = .bl i from h]
  exact .bl i
theorem rd_it {ns : List Int} (ha : EvE X P none e σ H (IT ns)) : EvE X P none e σ H (RD X.K (.tuple (dI ns))) := Ev.imp ha fun v H1 l ⟨a, e, h⟩ => by
  rw [e]
  exact dp_t h
theorem rd_tt {rs : List (List Int)} (ha : EvE X P none e σ H (TT rs)) : EvE X P none e σ H (RD X.K (.tuple (dT rs))) := Ev.imp ha fun v H1 l ⟨a, vs, e, h, hl, hi⟩ => by
  rw [e]
  exact .tup (SqT.of h) (dp_rows rs vs hl hi)
theorem rd_ne {k : Nat} {d e : PyData} (hr : Room k X.A) (ha : EvE X P none a σ H (RD X.K d)) (hb : EvE X P none b σ H (RD X.K e)) (hd : SeqAt.shaped d = true) (he : SeqAt.shaped e = true) (hm : behindInMarks .NotEq b = false := by first | exact nomark _ | rfl) : EvE X P none (.Compare a [.NotEq] [b] pos) σ H (is (.bl (!PyData.eqv d e))) :=
  ev_cmp2 (op_neD (room64 hr)) ha hb (fun u v H1 l h1 h2 Q q => ⟨d, e, h1, h2, hd, he, q _ H1 l.right rfl⟩) hm
theorem rd_eq {k : Nat} {d e : PyData} (hr : Room k X.A) (ha : EvE X P none a σ H (RD X.K d)) (hb : EvE X P none b σ H (RD X.K e)) (hd : SeqAt.shaped d = true) (he : SeqAt.shaped e = true) (hm : behindInMarks .Eq b = false := by first | exact nomark _ | rfl) : EvE X P none (.Compare a [.Eq] [b] pos) σ H (is (.bl (PyData.eqv d e))) :=
  ev_cmp2 (op_eqD (room64 hr)) ha hb (fun u v H1 l h1 h2 Q q => ⟨d, e, h1, h2, hd, he, q _ H1 l.right rfl⟩) hm
/-- tuples of integers as the text writes them -/
def Is (ns : List Int) : List V → Hp → Prop := fun vs _ => vs = ns.map V.int
theorem is_nil : EvA X P none [] σ H (Is []) := ea_nil
theorem is_cons {i : Int} {ns : List Int} (ha : EvE X P none e σ H (is (.int i))) (hr : EvA X P none es σ H (Is ns)) (hs : starEach (e :: es) X.env = (false, eval e X.env) :: starEach es X.env := by rfl) : EvA X P none (e :: es) σ H (Is (i :: ns)) :=
  fun H1 l Q q => ea_cons ha hr hs H1 l Q fun vs H2 l2 ⟨v, r, e, h1, h2⟩ => q vs H2 l2 (by rw [e, show v = _ from h1, show r = _ from h2]; rfl)
theorem is_tup {ns : List Int} {k : Nat} (ha : EvA X P none es σ H (Is ns)) (hl : ns.length ≤ 1000) : EvE X P none (.Tuple es k pos) σ H (IT ns) :=
  (ev_tup ha fun vs H1 h => by rw [show vs = _ from h, List.length_map]; exact Nat.le_trans hl (by decide)).imp fun v H1 l ⟨a, vs, H0, e, h, l2, r⟩ => ⟨a, e, by rw [h, show vs = _ from r]⟩
/-- .. a tuple of such -/
def Ls (qs : List (List Int)) : List V → Hp → Prop := fun vs H => vs.length = qs.length ∧ ∀ i x, vs[i]? = some x → IT (qs.getD i []) x H
theorem ls_nil : EvA X P none [] σ H (Ls []) := fun H1 l Q q => ea_nil H1 l Q fun vs H2 l2 h => q vs H2 l2 (by rw [h]; exact ⟨rfl, fun i x q => by simp at q⟩)
theorem ls_cons {c : List Int} {qs : List (List Int)} (ha : EvE X P none e σ H (IT c)) (hr : EvA X P none es σ H (Ls qs)) (hs : starEach (e :: es) X.env = (false, eval e X.env) :: starEach es X.env := by rfl) : EvA X P none (e :: es) σ H (Ls (c :: qs)) :=
  fun H1 l Q q => ea_cons ha hr hs H1 l Q fun vs H2 l2 ⟨v, r, e, h1, h2⟩ => q vs H2 l2 (by
    rw [e]
    refine ⟨by rw [List.length_cons, List.length_cons, h2.1], fun i x hx => ?_⟩
    cases i with
    | zero =>
      have ex : v = x := Option.some.inj hx
      rw [← ex]
      exact h1
    | succ i => exact h2.2 i x hx)
theorem ls_tup {qs : List (List Int)} {k : Nat} (ha : EvA X P none es σ H (Ls qs)) (hl : qs.length ≤ 1000) : EvE X P none (.Tuple es k pos) σ H (TT qs) :=
  (ev_tup ha fun vs H1 h => by rw [h.1]; exact Nat.le_trans hl (by decide)).imp fun v H1 l ⟨a, vs, H0, e, h, l2, r⟩ => ⟨a, vs, e, h, r.1, fun i x hx => mono_tv.up _ _ _ l2 (r.2 i x hx)⟩
end
/-! ### the cubic -/
abbrev cub : List Int := [1, 0, -3, 1]
theorem cub_1 : K63.levelRows cub 1 = [[6, 0], [0, -6], [-6, 6]] := by decide +kernel
theorem cub_2 : K63.levelRows cub 2 = [[6, 0, -6], [0, -6, 6]] := by decide +kernel
theorem cub_3 : K63.actL [1, 0] cub = [3, 0, -3] := by decide +kernel
theorem cub_4 : K63.levelRows [7] 0 = [[7]] := by decide +kernel
abbrev cubD : PyData := .list [.tuple (dT [[6, 0], [0, -6], [-6, 6]]), .tuple (dT [[6, 0, -6], [0, -6, 6]]), .tuple (dI [3, 0, -3]), .tuple (dT [[7]])]
theorem cubD_sh : SeqAt.shaped cubD = true := by
  simp only [SeqAt.shaped, PyData.canLay0, PyData.canLayAll0, PyData.depth, PyData.depthAll, dT, dI, List.map]
  decide
theorem cubD_eq : PyData.eqv cubD cubD = true := by
  simp only [PyData.eqv, PyData.eqvAll, dT, dI, List.map]
  decide
abbrev blD : PyData := .list [.bool true, .bool false, .bool true, .bool true]
theorem blD_sh : SeqAt.shaped blD = true := by
  simp only [SeqAt.shaped, PyData.canLay0, PyData.canLayAll0, PyData.depth, PyData.depthAll]
  decide
theorem blD_eq : PyData.eqv blD blD = true := by
  simp only [PyData.eqv, PyData.eqvAll]
  decide
def cubs : List (List Int) := [[1, 1, 1], [1, 0], [1, 0, 0, -1], [5, 0, 0, 0, 0]]
theorem rd_bls {X : Cx} {P : Addr} {σ : L2.St} {H : Hp} {e : Expr} {xs : List V} (h : xs = [V.bl true, V.bl false, V.bl true, V.bl true]) (ha : EvE X P none e σ H (LV none xs)) : EvE X P none e σ H (RD X.K blD) := Ev.imp ha fun v H l ⟨a, e, _, q⟩ => by
  rw [e]
  rw [h] at q
  exact .lst (SqL.of q) (.cons (.bl _) (.cons (.bl _) (.cons (.bl _) (.cons (.bl _) .nil))))
theorem tup4 {P : Addr} (X : Cx) (σ : L2.St) (H : Hp) (e1 e2 e3 e4 : Expr) (k : Nat) (pos : Pos) {a b c d : List Int} (h1 : EvE X P none e1 σ H (IT a)) (h2 : EvE X P none e2 σ H (IT b)) (h3 : EvE X P none e3 σ H (IT c)) (h4 : EvE X P none e4 σ H (IT d))
    (s1 : starEach [e1, e2, e3, e4] X.env = (false, eval e1 X.env) :: starEach [e2, e3, e4] X.env) (s2 : starEach [e2, e3, e4] X.env = (false, eval e2 X.env) :: starEach [e3, e4] X.env) (s3 : starEach [e3, e4] X.env = (false, eval e3 X.env) :: starEach [e4] X.env) (s4 : starEach [e4] X.env = (false, eval e4 X.env) :: starEach [] X.env) : EvE X P none (.Tuple [e1, e2, e3, e4] k pos) σ H (TT [a, b, c, d]) :=
  ls_tup (ls_cons h1 (ls_cons h2 (ls_cons h3 (ls_cons h4 ls_nil s4) s3) s2) s1) (by show 4 ≤ 1000; decide)
theorem star_tup (es r : List Expr) (k : Nat) (pos : Pos) (env : Env) : starEach (.Tuple es k pos :: r) env = (false, eval (.Tuple es k pos) env) :: starEach r env := rfl
theorem ret_abs {P : Addr} {R : Rp} (X : Cx) (σ : L2.St) (H : Hp) (elt tg te : Expr) (scope : Scope) (pos : Pos) (htup : EvE X P none te σ H (TT cubs)) (rest : ∀ te, (∀ x, foldedSetIterable te X.env x = pure x) → EvE X P none te σ H (TT cubs) → EvE X P none (.ListComp elt [⟨tg, te, [], 0⟩] scope pos) σ H R) (hf : ∀ x, foldedSetIterable te X.env x = pure x) : EvE X P none (.ListComp elt [⟨tg, te, [], 0⟩] scope pos) σ H R := rest te hf htup
def small (a : List Int) : Bool := decide (1 ≤ a.length) && decide (a.length ≤ 8) && a.all fun x => decide (x.natAbs ≤ 10 ^ 12)
theorem small_fi {a : List Int} (h : small a = true) : FI a := by
  unfold small at h
  rw [Bool.and_eq_true, Bool.and_eq_true] at h
  refine ⟨of_decide_eq_true h.1.1, of_decide_eq_true h.1.2, fun i => ?_⟩
  by_cases hi : i < a.length
  · exact of_decide_eq_true (List.all_eq_true.mp h.2 _ (K63.g_mem hi))
  · rw [K63.g_ge (by omega)]
    exact Nat.zero_le _
theorem cub_fi : FI cub := small_fi (by decide +kernel)
theorem cubs_fi (i : Nat) (h : i < 4) : FI (cubs.getD i []) := by
  match i, h with
  | 0, _ => exact small_fi (by decide +kernel)
  | 1, _ => exact small_fi (by decide +kernel)
  | 2, _ => exact small_fi (by decide +kernel)
  | 3, _ => exact small_fi (by decide +kernel)
theorem cubs_bl : ((List.range cubs.length).map fun i => V.bl (doesKill (cubs.getD i []) cub)) = [V.bl true, V.bl false, V.bl true, V.bl true] := by
  have e : ((List.range cubs.length).map fun i => doesKill (cubs.getD i []) cub) = [true, false, true, true] := by decide +kernel
  have e2 : ((List.range cubs.length).map fun i => V.bl (doesKill (cubs.getD i []) cub)) = ((List.range cubs.length).map fun i => doesKill (cubs.getD i []) cub).map V.bl := by rw [List.map_map]; rfl
  rw [e2, e]
  rfl
section
variable {X : Cx} {P : Addr} {Z : Option Addr} {σ : L2.St} {H B : Hp} {a : Expr} {p pos : Pos}
/-- for x in range(e), e not known, x known -/
theorem hb_forE2 {tg : Expr} {g : L2.TG} {bind : L2.St → V → L2.St} {body rest : List Stmt} {D : Ends} {hi : Int} (Pv : Nat → L2.St → Hp → Prop) (hr : X.mg "range" = none) (hgl : Gl X "range") (hg : PG X tg g) (l : Le P Z B H) (ha : EvE X P Z a σ H (IN 0 hi)) (hh : hi < 2 ^ 62) (bd : ∀ n, Bd P Z g (YR fun i => is (.int (i : Int))) n (fun i => is (.int (i : Int))) bind)
    (h0 : ∀ H1, Le P Z H H1 → Pv 0 σ H1)
    (hs : ∀ (i : Nat) u σ' H' H2, (i : Int) < hi → Le P Z H H' → Le P Z B H2 → Pv i σ' H' → Le P Z H' H2 → u = V.int (i : Int) → wB X body { D with nx := fun σ3 H3 => Le P Z H2 H3 ∧ Pv (i + 1) σ3 H3, ct := fun σ3 H3 => Le P Z H2 H3 ∧ Pv (i + 1) σ3 H3, bk := wB X rest D } (bind σ' u) H2)
    (hd : ∀ (i : Nat) σ' H', (i : Int) ≤ hi → Le P Z B H' → Le P Z H H' → Pv i σ' H' → wB X rest D σ' H')
    (hp : PassesOwn (model X.prog X.w) X.A X.env X.xe := by exact PassesOwn.never) (hc : X.calm = true := by rfl) (hf : ∀ x, foldedSetIterable (.Call (.Name "range" p) [a] [] pos) X.env x = pure x := by intro _; rfl) (hss : starEach [a] X.env = (false, eval a X.env) :: starEach [] X.env := by rfl) {fpos : Pos} : wB X (.For tg (.Call (.Name "range" p) [a] [] pos) body [] fpos :: rest) D σ H := by
  refine hb_cons (ps_for hp hc (pi_range1 hgl hr pa_w hss) hg pb_w hf) ((ea_cons ha ea_nil hss) H l.right _ fun vs H1 l1 hv => ?_)
  obtain ⟨v, r, rfl, ⟨m, rfl, m0, m1⟩, e⟩ := hv
  have e' : r = [] := e
  subst e'
  refine ⟨m, rfl, by omega, by omega, ?_⟩
  have w : Walk (Itr 0 m.toNat) m.toNat (fun H3 => Le P Z H1 H3) (YR fun i => is (.int (i : Int))) := walk_range.mono (fun _ _ => trivial) fun i H x H' _ _ y => ⟨y.1, by rw [y.2]; show V.int (0 + (i : Int)) = V.int i; rw [Int.zero_add]⟩
  exact for_it w (fun i σ' H' => Le P Z H1 H' ∧ Pv i σ' H') ⟨l1.right, h0 H1 l1⟩ (fun i σ' H' h p => p.1)
    (fun i x σ' H' H'' h p y => (bd m.toNat).run i x σ' H' H'' h p.1.right y _ fun u H2 l2 hu => by
      have q := hs i u σ' H' H2 (by omega) (l1.trans p.1) ((l.trans l1).trans (p.1.trans l2)) p.2 l2 hu
      intro pins s I
      refine wpAny_mono (q pins s I) (fun f s' z => ?_) fun _ _ z => z
      cases f with
      | next => obtain ⟨σ3, H3, I3, z1, z2⟩ := z; exact ⟨σ3, H3, I3, p.1.trans (l2.trans z1), z2⟩
      | cont => obtain ⟨σ3, H3, I3, z1, z2⟩ := z; exact ⟨σ3, H3, I3, p.1.trans (l2.trans z1), z2⟩
      | brk => exact z
      | ret v => exact z) fun σ' H' p => hd m.toNat σ' H' (by omega) ((l.trans l1).trans p.1) (l1.trans p.1) p.2
end
section
variable {P : Program} {w : World} {K : PySem.W.Frag} {mg : Str → Option Value} {base : Heap} {T CT CF : Addr}
def spLaw (T : Addr) (K : PySem.W.Frag) : Sp := fun vs H Q _ => ∃ (v : V) (ns : List Int), vs = [v] ∧ SK K (ns.map V.int) v H ∧ ns.length ≤ 63 ∧ GxR.TabG H T ∧ ∀ H', Q (.bl true) H'
abbrev N74 : List Str := ["_law_script", "_law_spot", "_law_cubic", "_law_told", "_law_one"]
theorem sc74 : FnScope N74 ["_law_script"] (defScope (top 74)) := ⟨rfl, rfl, rfl, by decide +kernel, rfl, by decide +kernel, by decide +kernel⟩
def Dc (H1 : Hp) : Rp := fun v H2 => ∃ d, v = .ref d ∧ H1 d = none ∧ Dice H2 d
theorem ok_law {f : Addr} {fd : FuncData} (F : FnP K "law" 74 f fd) (G : G0 mg) (L : Lw P w K mg base T CT CF) (fD : Fk P w K mg base "_law_dice" 1 ["_law_script", "_law_spot"] (spDice T K)) (fR : Fk P w K mg base "_law_right" 10 ["_law_dice_here"] (spRight T)) : FnOk P w K mg base CX0 11 f fd ["_law_script"] (spLaw T K) := by
  refine F.ok sc74 (fun vs H Q E h => ?_) (fun cdv A outer s H vs Q E hr h => ?_)
  · obtain ⟨v, ns, rfl, _⟩ := h
    rfl
  · obtain ⟨v, ns, rfl, hv, hl, ht, q⟩ := h
    refine ⟨_, PSs.nox pb_w, ?_⟩
    have sv : ∀ H1, Le T none H H1 → SK K (ns.map V.int) v H1 := fun H1 l => mono_sk.up _ _ _ l hv
    refine hb_forE2 (P := T) (Z := none) (B := H) (hi := 4) (fun i σ' H' => Le T none H H' ∧ ∃ x, σ' = [some v, x, none, none, none]) G.range (by rfl) (pg_name (i := 1) sc74.nd rfl (Or.inl rfl)) (Le.refl0 H) (Ev.imp (ev_max2 rfl G.max ev_c (ev_min2 rfl G.min ev_c (ev_lenSK G.len (ev_v (R := SK K (ns.map V.int)) 0 rfl hv)))) fun v H1 l h => ⟨_, h, by split <;> split <;> omega, by split <;> split <;> omega⟩) (by decide) (fun n => bd_name (K := K)) (fun H1 l => ⟨l, none, rfl⟩) (fun i u σ' H' H2 hi _ l2 h l3 hu => ?_) fun i σ' H' hi _ _ h => ?_
    · obtain ⟨_, x, rfl⟩ := h
      subst hu
      exact hb_ifn l2 (et_not (x := true) (et_e (ev_callF (R := is (.bl true)) (Ra := Dc) fR hr (fun H3 l4 => ev_call2 (R := Dc H3) fD (hr.mono (by decide)) (ev_v (R := SK K (ns.map V.int)) 0 rfl (sv H3 (l2.trans l4))) (ev_i 1 rfl) fun x y H4 l hx hy Q q => ⟨x, ns, i, by rw [show y = _ from hy], hx, by omega, fun d a b c H5 l5 hn hd => q (.ref d) H5 l5 ⟨d, rfl, l.dom d hn, a, b, c, hd⟩⟩)
        (fun H3 => ⟨fun v H4 H5 l ⟨d, e, n, a, b, c, h⟩ => ⟨d, e, n, a, b, c, l.lst (fun z => by cases z) h⟩⟩)
        fun H3 u H4 l4 l5 ⟨d, e, hn, hd⟩ Q q => ⟨d, by rw [e], hd, ((l2.trans l4).trans l5).tab ht, fun H5 l6 => q _ H5 (Le.fresh l5 l6 hn) rfl⟩))) rfl fun H3 l4 l5 => hb_nil ⟨l5, l4, _, rfl⟩
    · obtain ⟨l1, x, rfl⟩ := h
      refine hb_set 2 l1 (R := Box CF cub) (ev_form L (hr.mono (by decide)) (is_tup (is_cons ev_c (is_cons ev_c (is_cons (ev_neg ev_c) (is_cons ev_c is_nil)))) (by decide)) (by decide) (by decide) cub_fi.sh) sc74.nd fun c H2 l2 _ hc => ?_
      refine hb_set 3 l2 (R := RD K cubD) (rd_lst (rd_cons (rd_tt (rs := [[6, 0], [0, -6], [-6, 6]]) (ev_call2 L.tab (hr.mono (by decide)) (ev_v (R := Box CF cub) 2 rfl hc) ev_c fun x y H3 l hx hy Q q => ⟨x, cub, 1, by rw [show y = _ from hy]; rfl, hx, by decide, by decide, by decide, cub_fi.big, fun z H5 l r => q z H5 l (by rw [cub_1] at r; exact r)⟩))
        (rd_cons (rd_tt (rs := [[6, 0, -6], [0, -6, 6]]) (ev_call2 L.tab (hr.mono (by decide)) (ev_v (R := Box CF cub) 2 rfl hc) ev_c fun x y H3 l hx hy Q q => ⟨x, cub, 2, by rw [show y = _ from hy]; rfl, hx, by decide, by decide, by decide, cub_fi.big, fun z H5 l r => q z H5 l (by rw [cub_2] at r; exact r)⟩))
        (rd_cons (rd_it (ns := [3, 0, -3]) (ev_ent L.fm (hr.mono (by decide)) (Ev.imp (ev_kd (ns := [1, 0]) L (hr.mono (by decide)) (ev_form L (hr.mono (by decide)) (is_tup (is_cons ev_c (is_cons ev_c is_nil)) (by decide)) (by decide) (by decide) (cubs_fi 1 (by decide)).sh) (ev_v (R := Box CF cub) 2 rfl hc) ((cubs_fi 1 (by decide)).ai.act cub_fi) (by decide)) fun v H l h => by rw [cub_3] at h; exact h)))
        (rd_cons (rd_tt (rs := [[7]]) (ev_call2 L.tab (hr.mono (by decide)) (ev_form (ns := [7]) L (hr.mono (by decide)) ev_one (by decide) (by decide) (small_fi (by decide +kernel)).sh) ev_c fun x y H3 l hx hy Q q => ⟨x, [7], 0, by rw [show y = _ from hy]; rfl, hx, by decide, by decide, by decide, (small_fi (by decide +kernel)).big, fun z H5 l r => q z H5 l (by rw [cub_4] at r; exact r)⟩)) rd_nil)))) (by decide)) sc74.nd fun told H3 l3 l4 htold => ?_
      refine hb_ifn l3 (x := false) (Et.is (et_c (rd_ne hr (ev_v (R := RD K cubD) 3 rfl htold) (rd_lst (rd_cons (rd_tt (rs := [[6, 0], [0, -6], [-6, 6]]) (ls_tup (ls_cons (is_tup (is_cons ev_c (is_cons ev_c is_nil)) (by decide)) (ls_cons (is_tup (is_cons ev_c (is_cons (ev_neg ev_c) is_nil)) (by decide)) (ls_cons (is_tup (is_cons (ev_neg ev_c) (is_cons ev_c is_nil)) (by decide)) ls_nil))) (by decide)))
        (rd_cons (rd_tt (rs := [[6, 0, -6], [0, -6, 6]]) (ls_tup (ls_cons (is_tup (is_cons ev_c (is_cons ev_c (is_cons (ev_neg ev_c) is_nil))) (by decide)) (ls_cons (is_tup (is_cons ev_c (is_cons (ev_neg ev_c) (is_cons ev_c is_nil))) (by decide)) ls_nil)) (by decide)))
        (rd_cons (rd_it (ns := [3, 0, -3]) (is_tup (is_cons ev_c (is_cons ev_c (is_cons (ev_neg ev_c) is_nil))) (by decide))) (rd_cons (rd_tt (rs := [[7]]) (ls_tup (ls_cons ev_one ls_nil) (by decide))) rd_nil)))) (by decide)) cubD_sh cubD_sh)) (by rw [cubD_eq]; rfl)) rfl fun H4 l5 l6 => ?_
      have hc4 : Box CF cub c H4 := mono_box.up _ _ _ (l4.trans l6) hc
      have fin : ∀ (X : Cx) (e : Expr) (pos : Pos) (D : Ends) (σ : L2.St) (R : Rp), EvE X T none e σ H4 R → (∀ v H5, Le T none H H5 → R v H5 → D.rt v H5) → wB X [.Return (some e) pos] D σ H4 := fun X e pos D σ R he k => hb_ret l5 he fun v H5 l _ r => k v H5 l r
      with_reducible refine fin _ _ _ _ _ (is (.bl (PyData.eqv blD blD))) ?A ?K
      · with_reducible refine rd_eq hr ?L ?B blD_sh blD_sh (hm := ?hm)
        case hm => exact nomark _
        case B => exact (rd_lst (rd_cons (rd_bl ev_b) (rd_cons (rd_bl ev_b) (rd_cons (rd_bl ev_b) (rd_cons (rd_bl ev_b) rd_nil)))) (by decide))
        case L =>
          with_reducible refine rd_bls cubs_bl ?L2
          with_reducible refine ret_abs _ _ _ _ _ _ _ _ ?htup ?rest ?hf
          case hf => exact fun x => rfl
          case htup =>
            show EvE _ _ _ _ _ _ (TT [[1, 1, 1], [1, 0], [1, 0, 0, -1], [5, 0, 0, 0, 0]])
            with_reducible refine tup4 _ _ _ _ _ _ _ _ _ ?h1 ?h2 ?h3 ?h4 (star_tup _ _ _ _ _) (star_tup _ _ _ _ _) (star_tup _ _ _ _ _) (star_tup _ _ _ _ _)
            case h1 => exact is_tup (is_cons ev_c (is_cons ev_c (is_cons ev_c is_nil))) (by decide)
            case h2 => exact is_tup (is_cons ev_c (is_cons ev_c is_nil)) (by decide)
            case h3 => exact is_tup (is_cons ev_c (is_cons ev_c (is_cons ev_c (is_cons (ev_neg ev_c) is_nil)))) (by decide)
            case h4 => exact is_tup (is_cons ev_c (is_cons ev_c (is_cons ev_c (is_cons ev_c (is_cons ev_c is_nil))))) (by decide)
          case rest =>
            intro te hf htup
            refine ev_lc (R := LV none ((List.range cubs.length).map fun i => V.bl (doesKill (cubs.getD i []) cub))) sc74.nd (pi_tup pe_w) (blkOk_by (own := [("_law_one", 4)]) (N := N74) (sc := defScope (top 74)) (by decide +kernel)) (fun _ _ _ _ _ => pg_name (i := 4) sc74.nd rfl (Or.inl rfl))
              (lc_vals (en_tup (n := cubs.length) (R := fun i => IT (cubs.getD i [])) htup) (bd_name (K := K)) (by decide) (fun _ _ _ _ => rfl) (fun i => .bl (doesKill (cubs.getD i []) cub)) fun i u H6 hi l hu => eb_of fun _ _ _ _ _ => ?_) (hf := hf)
            have fi := cubs_fi i hi
            exact ev_dk L (hr.mono (by decide)) (ev_form L (hr.mono (by decide)) (ev_v (R := IT (cubs.getD i [])) 4 rfl hu) fi.1 (by have := fi.2.1; omega) fi.sh) (ev_v (R := Box CF cub) 2 rfl (mono_box.up _ _ _ l hc4)) (fi.ai.act cub_fi)
      · intro z H8 l r
        rw [show z = .bl (PyData.eqv blD blD) from r, blD_eq]
        exact q H8
end
end K6

/-! ## H4 -/
set_option Elab.async false
set_option linter.all false
set_option maxRecDepth 100000
set_option maxHeartbeats 4000000
namespace K6
open PySem PySem.Spec PyProof.Rows L2 SlX
theorem cls_ok {K : PySem.W.Frag} {C : Addr} {f : Str} (h : clsB K C f = true) : Cls K C f := by
  unfold clsB at h
  obtain ⟨h1, h⟩ := He.ba h
  obtain ⟨h2, h⟩ := He.ba h
  obtain ⟨h3, h⟩ := He.ba h
  obtain ⟨h4, h⟩ := He.ba h
  obtain ⟨h5, h⟩ := He.ba h
  obtain ⟨h6, h⟩ := He.ba h
  obtain ⟨h7, h⟩ := He.ba h
  obtain ⟨h8, h⟩ := He.ba h
  obtain ⟨h9, h⟩ := He.ba h
  obtain ⟨h10, h⟩ := He.ba h
  obtain ⟨h11, h⟩ := He.ba h
  obtain ⟨h12, h⟩ := He.ba h
  obtain ⟨h13, h⟩ := He.ba h
  obtain ⟨h14, h15⟩ := He.ba h
  exact ⟨⟨h1, h2, h3, He.eqO_ok h4⟩, ⟨He.ma K C f, He.eqO_ok h5, He.eqO_ok h6, of_decide_eq_true h7, of_decide_eq_true h8, of_decide_eq_true h9, by decide⟩, ⟨He.eqO_ok h10, He.eqO_ok h11, of_decide_eq_true h12, of_decide_eq_true h13⟩, of_decide_eq_true h14, of_decide_eq_true h15⟩
theorem getFn {K : PySem.W.Frag} {g : Addr} {d : He.DefD} (e : fnG K g = d.val) (kp : PySem.W.keepIn K (.ref g) = true) (c2 : (match K.lookup g with
    | some ⟨_, _, .func fd, _⟩ => PySem.W.codeIn K fd.code d.qual && (He.dflB K fd.defaults [] && He.kwdB K fd.kwdefaults [])
    | _ => false) = true) : ∃ fd, FunD K d.name d.qual d.params d.body d.scope [] [] g fd := by
  unfold fnG at e
  cases q : K.lookup g with
  | none =>
    rw [q] at c2
    cases c2
  | some o =>
    obtain ⟨oc, od, dt, osl⟩ := o
    rw [q] at c2 e
    cases dt with
    | func fd =>
      obtain ⟨n1, n2, n3, n4, n5, n6, n7, n8, n9, n10, n11, n12, n13, n14, n15⟩ := fd
      have e2 : (some (n1, n2, n3, n4, n5, n6, n7, n15) : He.FnW) = some (d.name, d.qual, d.params, .stmts d.body, d.scope, mainGlobals, [], builtinsNs) := e
      simp only [Option.some.injEq, Prod.mk.injEq] at e2
      obtain ⟨h1, h2, h3, h4, h5, h6, h7, h8⟩ := e2
      subst h1 h2 h3 h4 h5 h6 h7 h8
      have c3 : (PySem.W.codeIn K n13 d.qual && (He.dflB K n8 [] && He.kwdB K n9 [])) = true := c2
      obtain ⟨k1, k2⟩ := He.ba c3
      obtain ⟨k3, k4⟩ := He.ba k2
      exact ⟨_, ⟨oc, od, n8, n9, n10, n11, n12, n13, n14, osl, rfl, q, k1, He.dflB_ok k3, He.kwdB_ok k4⟩, kp⟩
    | _ => cases c2
theorem prop_ok {K : PySem.W.Frag} {C : Addr} {f : Str} {d : He.DefD} (h : propB K C f d.qual = true) (e : fnG K (getter K C f) = d.val) : ∃ p g, PySem.W.findIn K (.ref C) f = some (some (.ref p)) ∧ PySem.W.specialIn K (.ref p) "__get__" = some (some (.builtin "property.__get__")) ∧ PySem.W.takesIn K (.ref p) = some true ∧ (∃ rest, PySem.W.recIn K p "property" = some (.ref g :: rest)) ∧ ∃ fd, FunD K d.name d.qual d.params d.body d.scope [] [] g fd := by
  unfold propB at h
  obtain ⟨h1, h⟩ := He.ba h
  obtain ⟨h2, h⟩ := He.ba h
  obtain ⟨h3, h⟩ := He.ba h
  obtain ⟨h4, h⟩ := He.ba h
  obtain ⟨h5, h6⟩ := He.ba h
  refine ⟨He.ma K C f, getter K C f, He.eqO_ok h1, He.eqO_ok h2, of_decide_eq_true h3, ?_, getFn e h5 h6⟩
  cases q : PySem.W.recIn K (He.ma K C f) "property" with
  | none =>
    rw [q] at h4
    cases h4
  | some l =>
    rw [q] at h4
    cases l with
    | nil => cases h4
    | cons v r =>
      cases v with
      | ref g => exact ⟨r, by unfold getter; rw [q]⟩
      | _ => cases h4
theorem meth_ok {K : PySem.W.Frag} {C : Addr} {m : Str} (h : methB K C m = true) : PySem.W.findIn K (.ref C) m = some (some (.ref (He.ma K C m))) ∧ PySem.W.isFn K (.ref (He.ma K C m)) = true :=
  let z := He.ba h
  ⟨He.eqO_ok z.1, z.2⟩
section
variable {P : Program} {w : World} {K : PySem.W.Frag} {mg : Str → Option Value} {base h : Heap}
theorem df (X : K.In h) (G : h.Ns mainGlobals mg) (c : He.SaysX fa fn [] tf ex w h K) {x : Str} {i : Nat} (n m : Nat) (hn : fn[n]? = some (gd x i) := by rfl) (hm : fa[m]? = some (.glo x) := by rfl) : ∃ f fd, FnP K x i f fd ∧ mg x = some (.ref f) := by
  obtain ⟨fd, F⟩ := c.t.d.def_ n hn
  exact ⟨_, fd, F, He.glo_ok X G (c.t.d.fact m hm)⟩
theorem g0_ok (X : K.In h) (G : h.Ns mainGlobals mg) (c : He.SaysX fa fn [] tf ex w h K) : G0 mg where
  isinstance := He.free_ok X G (c.t.d.fact 54 (f := .free "isinstance") rfl)
  int := He.free_ok X G (c.t.d.fact 55 (f := .free "int") rfl)
  bool := He.free_ok X G (c.t.d.fact 56 (f := .free "bool") rfl)
  tuple := He.free_ok X G (c.t.d.fact 57 (f := .free "tuple") rfl)
  list := He.free_ok X G (c.t.d.fact 58 (f := .free "list") rfl)
  all := He.free_ok X G (c.t.d.fact 59 (f := .free "all") rfl)
  any := He.free_ok X G (c.t.d.fact 60 (f := .free "any") rfl)
  len := He.free_ok X G (c.t.d.fact 61 (f := .free "len") rfl)
  range := He.free_ok X G (c.t.d.fact 62 (f := .free "range") rfl)
  enum := He.free_ok X G (c.t.d.fact 63 (f := .free "enumerate") rfl)
  zip := He.free_ok X G (c.t.d.fact 64 (f := .free "zip") rfl)
  sum := He.free_ok X G (c.t.d.fact 65 (f := .free "sum") rfl)
  min := He.free_ok X G (c.t.d.fact 66 (f := .free "min") rfl)
  max := He.free_ok X G (c.t.d.fact 67 (f := .free "max") rfl)
  abs := He.free_ok X G (c.t.d.fact 68 (f := .free "abs") rfl)
  repr := He.free_ok X G (c.t.d.fact 69 (f := .free "repr") rfl)
  next := He.free_ok X G (c.t.d.fact 70 (f := .free "next") rfl)
  iter := He.free_ok X G (c.t.d.fact 71 (f := .free "iter") rfl)
  gcd := PySem.W.mg_of X G (He.eqO_ok (He.ba c.more).1)
  great := He.int_ok X G (c.t.d.fact 72 (f := .int "GREATEST" (10 ^ 60)) rfl)
  most := He.int_ok X G (c.t.d.fact 73 (f := .int "MAX_DEGREE" 40) rfl)
abbrev c9 (K : PySem.W.Frag) : Addr := (He.cT K ("first_of", none)).1
abbrev T9 (K : PySem.W.Frag) : Addr := (He.cT K ("first_of", none)).2
theorem law_fn (c : He.SaysX fa fn [] tf ex w h K) : ∃ fd, FnP K "law" 74 (He.ga K "law") fd := c.t.d.def_ 57 (d := gd "law" 74) rfl
theorem all_ok (X : K.In h) (G : h.Ns mainGlobals mg) (c : He.SaysX fa fn [] tf ex w h K) (cg : obsG K = gs.map He.DefD.val) (TB : GxR.TabB base mg (c9 K) (T9 K)) {fd : FuncData} (F : FnP K "law" 74 (He.ga K "law") fd) : FnOk P w K mg base CX0 11 (He.ga K "law") fd ["_law_script"] (spLaw (T9 K) K) := by
  have g := g0_ok X G c
  have glT : mg "Told" = some (.ref (He.ga K "Told")) := He.glo_ok X G (c.t.d.fact 52 (f := .glo "Told") rfl)
  have glF : mg "Form" = some (.ref (He.ga K "Form")) := He.glo_ok X G (c.t.d.fact 53 (f := .glo "Form") rfl)
  have mkT := He.mkr_ok (c.t.d.fact 74 (f := .mkr "Told") rfl)
  have mkF := He.mkr_ok (c.t.d.fact 75 (f := .mkr "Form") rfl)
  obtain ⟨_, e1⟩ := He.ba c.more
  obtain ⟨hcT, e2⟩ := He.ba e1
  obtain ⟨hcF, e3⟩ := He.ba e2
  obtain ⟨hpE, e4⟩ := He.ba e3
  obtain ⟨hpD, e5⟩ := He.ba e4
  obtain ⟨hmM, e6⟩ := He.ba e5
  obtain ⟨hmE, e7⟩ := He.ba e6
  obtain ⟨hmL, e8⟩ := He.ba e7
  obtain ⟨hmI, e9⟩ := He.ba e8
  obtain ⟨hself, e10⟩ := He.ba e9
  obtain ⟨hne, _⟩ := He.ba e10
  have clT := cls_ok hcT
  have clF := cls_ok hcF
  have gE : fnG K (getter K (He.ga K "Form") "entries") = (cd "Form" "entries" "Form.entries" 36 4).val := (List.cons.inj cg).1
  have gD : fnG K (getter K (He.ga K "Form") "degree") = (cd "Form" "degree" "Form.degree" 36 5).val := (List.cons.inj (List.cons.inj cg).2).1
  generalize hTt : T9 K = T at TB ⊢
  have w1 : Fk P w K mg base "is_whole" 1 ["value"] (spWhole T) := fk_of (i := 11) (df X G c 0 0) (fun f fd F => ok_whole F g) (fun _ _ _ _ _ _ us hl => match us, hl with | [_], _ => rfl)
  have sh2 : Fk P w K mg base "is_short" 2 ["value"] (spShort T) := fk_of (i := 12) (df X G c 1 1) (fun f fd F => ok_short F g w1) (fun _ _ _ _ _ _ us hl => match us, hl with | [_], _ => rfl)
  have fr2 : Fk P w K mg base "is_from" 2 ["value", "least", "most"] (spFrom T) := fk_of (i := 13) (df X G c 2 2) (fun f fd F => ok_from F w1) (fun _ _ _ _ _ _ us hl => match us, hl with | [_, _, _], _ => rfl)
  have are3 : Fk P w K mg base "are_short" 3 ["value"] (spAre T) := fk_of (i := 14) (df X G c 3 3) (fun f fd F => ok_are F g sh2) (fun _ _ _ _ _ _ us hl => match us, hl with | [_], _ => rfl)
  have req3 : Fk P w K mg base "require_from" 3 ["value", "least", "most"] (spReq T) := fk_of (i := 16) (df X G c 4 4) (fun f fd F => ok_req F fr2) (fun _ _ _ _ _ _ us hl => match us, hl with | [_, _, _], _ => rfl)
  have shd : Fk P w K mg base "shared_of" 1 ["numbers"] (spShared T) := fk_of (i := 17) (df X G c 5 5) (fun f fd F => ok_shared F g) (fun _ _ _ _ _ _ us hl => match us, hl with | [_], _ => rfl)
  have fst : Fk P w K mg base "first_of" 1 ["numbers"] (spFirst T) := by
    obtain ⟨fd1, F1⟩ := c.t.d.def_ 6 (d := gd "first_of" 18) rfl
    have F2 : FnP K "first_of" 18 (He.ga K "first_of") fd1 := F1
    obtain ⟨oc, od, dV, kV, doc, pm, an, cdv, ct, osl, e, lk, hcd, _, _⟩ := F2.ex
    obtain ⟨cc, ec⟩ := He.codeIn_ref hcd
    have ef : fd1.code = .ref cc := by rw [e]; exact ec
    have ecc : c9 K = cc := He.codeOf_eq (p := ("first_of", none)) lk ef
    exact ⟨_, fd1, ok_first F2 g (c := c9 K) (by rw [ef, ecc]) TB, He.glo_ok X G (c.t.d.fact 6 (f := .glo "first_of") rfl), F2.kp, F2.bindsN (fun _ _ _ _ _ _ us hl => match us, hl with | [_], _ => rfl)⟩
  have prm : Fk P w K mg base "primitive_of" 2 ["numbers"] (spPrim T) := fk_of (i := 19) (df X G c 7 7) (fun f fd F => ok_prim F g shd fst) (fun _ _ _ _ _ _ us hl => match us, hl with | [_], _ => rfl)
  have fct : Fk P w K mg base "factorial_of" 1 ["number"] (spFact T) := fk_of (i := 20) (df X G c 8 8) (fun f fd F => ok_fact F g) (fun _ _ _ _ _ _ us hl => match us, hl with | [_], _ => rfl)
  have lss : Fk P w K mg base "less_head" 2 ["row", "head", "place"] (spLess T) := fk_of (i := 22) (df X G c 9 9) (fun f fd F => ok_less F g shd) (fun _ _ _ _ _ _ us hl => match us, hl with | [_, _, _], _ => rfl)
  have ech : Fk P w K mg base "echelon_rows" 3 ["rows", "width"] (spEch T) := fk_of (i := 23) (df X G c 10 10) (fun f fd F => ok_ech F g lss prm) (fun _ _ _ _ _ _ us hl => match us, hl with | [_, _], _ => rfl)
  have led : Fk P w K mg base "lead_of" 1 ["row"] (spLead T) := fk_of (i := 24) (df X G c 11 11) (fun f fd F => ok_lead F g) (fun _ _ _ _ _ _ us hl => match us, hl with | [_], _ => rfl)
  have ker : Fk P w K mg base "kernel_rows" 4 ["rows", "width"] (spKer T) := fk_of (i := 25) (df X G c 12 12) (fun f fd F => ok_ker F g ech led) (fun _ _ _ _ _ _ us hl => match us, hl with | [_, _], _ => rfl)
  have joi : Fk P w K mg base "joined_entries" 1 ["one", "other"] (spJoin T) := fk_of (i := 29) (df X G c 13 13) (fun f fd F => ok_join F g) (fun _ _ _ _ _ _ us hl => match us, hl with | [_, _], _ => rfl)
  have der : Fk P w K mg base "derived_in" 1 ["entries", "one", "other"] (spDer T) := fk_of (i := 32) (df X G c 14 14) (fun f fd F => ok_der F g) (fun _ _ _ _ _ _ us hl => match us, hl with | [_, _, _], _ => rfl)
  have zer : Fk P w K mg base "is_zero_in" 1 ["entries"] (spZero T) := fk_of (i := 33) (df X G c 15 15) (fun f fd F => ok_zero F g) (fun _ _ _ _ _ _ us hl => match us, hl with | [_], _ => rfl)
  have ent : Fk P w K mg base "are_entries" 4 ["value"] (spEntr T) := fk_of (i := 35) (df X G c 17 16) (fun f fd F => ok_entr F g are3) (fun _ _ _ _ _ _ us hl => match us, hl with | [_], _ => rfl)
  have mT : Made P w K mg base T "Told" (He.ga K "Told") 1 (fun ns => IT ns) := by
    obtain ⟨fd1, F1⟩ := c.t.d.def_ 16 (d := cd "Told" "__init__" "Told.__init__" 34 1) rfl
    have F2 : FnC K "__init__" "Told.__init__" 34 1 (He.ma K (He.ga K "Told") "__init__") fd1 := F1
    exact ⟨glT, _, fd1, ["self", "row"], mkT, ok_told F2 clT, F2.bindsN (fun _ _ _ _ _ _ us hl => match us, hl with | [_, _], _ => rfl)⟩
  have mF : Made P w K mg base T "Form" (He.ga K "Form") 5 (ArgF (He.ga K "Told")) := by
    obtain ⟨fd1, F1⟩ := c.t.d.def_ 18 (d := cd "Form" "__init__" "Form.__init__" 36 1) rfl
    have F2 : FnC K "__init__" "Form.__init__" 36 1 (He.ma K (He.ga K "Form") "__init__") fd1 := F1
    exact ⟨glF, _, fd1, ["self", "entries"], mkF, ok_form F2 g clT clF glT ent, F2.bindsN (fun _ _ _ _ _ _ us hl => match us, hl with | [_, _], _ => rfl)⟩
  have fm : Fm P w K mg base T (He.ga K "Form") := by
    refine ⟨clF, glF, ?_, ?_⟩
    · obtain ⟨p, g1, h1, h2, h3, h4, fd1, F1⟩ := prop_ok (d := cd "Form" "entries" "Form.entries" 36 4) hpE gE
      have F2 : FnC K "entries" "Form.entries" 36 4 g1 fd1 := F1
      exact ⟨p, g1, h1, h2, h3, h4, K6.FnOk.raw0 (ok_ent F2 clF) (F2.bindsN (fun _ _ _ _ _ _ us hl => match us, hl with | [_], _ => rfl))⟩
    · obtain ⟨p, g1, h1, h2, h3, h4, fd1, F1⟩ := prop_ok (d := cd "Form" "degree" "Form.degree" 36 5) hpD gD
      have F2 : FnC K "degree" "Form.degree" 36 5 g1 fd1 := F1
      exact ⟨p, g1, h1, h2, h3, h4, K6.FnOk.raw0 (ok_deg F2 g clF) (F2.bindsN (fun _ _ _ _ _ _ us hl => match us, hl with | [_], _ => rfl))⟩
  have fof : Fk P w K mg base "form_of" 7 ["entries"] (spFormOf T (He.ga K "Form")) := fk_of (i := 37) (df X G c 23 17) (fun f fd F => ok_formOf F mT mF) (fun _ _ _ _ _ _ us hl => match us, hl with | [_], _ => rfl)
  have rqf : Fk P w K mg base "require_form" 1 ["value"] (spReqF T (He.ga K "Form")) := fk_of (i := 38) (df X G c 24 18) (fun f fd F => ok_reqF F g clF glF) (fun _ _ _ _ _ _ us hl => match us, hl with | [_], _ => rfl)
  have oM : ∃ g1, PySem.W.findIn K (.ref (He.ga K "Form")) "__mul__" = some (some (.ref g1)) ∧ PySem.W.isFn K (.ref g1) = true ∧ FnR P w K mg base CX0 8 g1 (spMul T (He.ga K "Form")) := by
    obtain ⟨fd1, F1⟩ := c.t.d.def_ 19 (d := cd "Form" "__mul__" "Form.__mul__" 36 17) rfl
    have F2 : FnC K "__mul__" "Form.__mul__" 36 17 (He.ma K (He.ga K "Form") "__mul__") fd1 := F1
    exact ⟨_, (meth_ok hmM).1, (meth_ok hmM).2, K6.FnOk.raw0 (ok_mul F2 g fm joi fof) (F2.bindsN (fun _ _ _ _ _ _ us hl => match us, hl with | [_, _], _ => rfl))⟩
  have oE : ∃ g1, PySem.W.findIn K (.ref (He.ga K "Form")) "__eq__" = some (some (.ref g1)) ∧ PySem.W.isFn K (.ref g1) = true ∧ FnR P w K mg base CX0 1 g1 (spEq T (He.ga K "Form")) := by
    obtain ⟨fd1, F1⟩ := c.t.d.def_ 20 (d := cd "Form" "__eq__" "Form.__eq__" 36 18) rfl
    have F2 : FnC K "__eq__" "Form.__eq__" 36 18 (He.ma K (He.ga K "Form") "__eq__") fd1 := F1
    exact ⟨_, (meth_ok hmE).1, (meth_ok hmE).2, K6.FnOk.raw0 (ok_eq F2 g clF glF) (F2.bindsN (fun _ _ _ _ _ _ us hl => match us, hl with | [_, _], _ => rfl))⟩
  have oL : ∃ g1, PySem.W.findIn K (.ref (He.ga K "Form")) "__len__" = some (some (.ref g1)) ∧ PySem.W.isFn K (.ref g1) = true ∧ FnR P w K mg base CX0 1 g1 (spLen T (He.ga K "Form")) := by
    obtain ⟨fd1, F1⟩ := c.t.d.def_ 21 (d := cd "Form" "__len__" "Form.__len__" 36 19) rfl
    have F2 : FnC K "__len__" "Form.__len__" 36 19 (He.ma K (He.ga K "Form") "__len__") fd1 := F1
    exact ⟨_, (meth_ok hmL).1, (meth_ok hmL).2, K6.FnOk.raw0 (ok_len F2 g clF) (F2.bindsN (fun _ _ _ _ _ _ us hl => match us, hl with | [_], _ => rfl))⟩
  have oI : ∃ g1, PySem.W.findIn K (.ref (He.ga K "Form")) "__iter__" = some (some (.ref g1)) ∧ PySem.W.isFn K (.ref g1) = true ∧ FnR P w K mg base CX0 1 g1 (spIter T (He.ga K "Form")) := by
    obtain ⟨fd1, F1⟩ := c.t.d.def_ 22 (d := cd "Form" "__iter__" "Form.__iter__" 36 20) rfl
    have F2 : FnC K "__iter__" "Form.__iter__" 36 20 (He.ma K (He.ga K "Form") "__iter__") fd1 := F1
    exact ⟨_, (meth_ok hmI).1, (meth_ok hmI).2, K6.FnOk.raw0 (ok_iter F2 g clF) (F2.bindsN (fun _ _ _ _ _ _ us hl => match us, hl with | [_], _ => rfl))⟩
  have ow : Ow P w K mg base T (He.ga K "Form") := ⟨oM, hself, He.eqO_ok hne, oE, oI, oL⟩
  have lev : Fk P w K mg base "level_entries" 2 ["entries"] (spLev T) := fk_of (i := 41) (df X G c 25 19) (fun f fd F => ok_lev F g fct) (fun _ _ _ _ _ _ us hl => match us, hl with | [_], _ => rfl)
  have row : Fk P w K mg base "level_rows" 3 ["entries", "degree"] (spRows T) := fk_of (i := 42) (df X G c 26 20) (fun f fd F => ok_rows F g lev) (fun _ _ _ _ _ _ us hl => match us, hl with | [_, _], _ => rfl)
  have act : Fk P w K mg base "killed_in" 2 ["one", "entries"] (spAct T) := fk_of (i := 43) (df X G c 27 21) (fun f fd F => ok_act F g der) (fun _ _ _ _ _ _ us hl => match us, hl with | [_, _], _ => rfl)
  have dos : Fk P w K mg base "does_kill_in" 3 ["one", "entries"] (spDoes T) := fk_of (i := 44) (df X G c 28 22) (fun f fd F => ok_does F g zer act) (fun _ _ _ _ _ _ us hl => match us, hl with | [_, _], _ => rfl)
  have kls : Fk P w K mg base "killers_in" 5 ["entries", "degree"] (spKils T) := fk_of (i := 45) (df X G c 29 23) (fun f fd F => ok_kils F g ker row) (fun _ _ _ _ _ _ us hl => match us, hl with | [_, _], _ => rfl)
  have tab : Fk P w K mg base "level_table" 4 ["form", "degree"] (spTab T (He.ga K "Form")) := fk_of (i := 46) (df X G c 30 24) (fun f fd F => ok_tab F g fm rqf req3 row) (fun _ _ _ _ _ _ us hl => match us, hl with | [_, _], _ => rfl)
  have dk : Fk P w K mg base "does_kill" 4 ["one", "form"] (spDK T (He.ga K "Form")) := fk_of (i := 47) (df X G c 31 25) (fun f fd F => ok_dk F fm rqf dos) (fun _ _ _ _ _ _ us hl => match us, hl with | [_, _], _ => rfl)
  have kd : Fk P w K mg base "killed" 8 ["one", "form"] (spKd T (He.ga K "Form")) := fk_of (i := 48) (df X G c 32 26) (fun f fd F => ok_kd F fm rqf act fof) (fun _ _ _ _ _ _ us hl => match us, hl with | [_, _], _ => rfl)
  have ks : Fk P w K mg base "killers" 8 ["form", "degree"] (spKs T (He.ga K "Form")) := fk_of (i := 49) (df X G c 33 27) (fun f fd F => ok_ks F g fm rqf req3 kls fof) (fun _ _ _ _ _ _ us hl => match us, hl with | [_, _], _ => rfl)
  have dice : Fk P w K mg base "_law_dice" 1 ["_law_script", "_law_spot"] (spDice T K) := fk_of (i := 51) (df X G c 34 28) (fun f fd F => ok_dice F g) (fun _ _ _ _ _ _ us hl => match us, hl with | [_, _], _ => rfl)
  have roll : Fk P w K mg base "_law_roll" 1 ["_law_dice_here", "_law_total"] (spRoll T) := fk_of (i := 52) (df X G c 35 29) (fun f fd F => ok_roll F g) (fun _ _ _ _ _ _ us hl => match us, hl with | [_, _], _ => rfl)
  have near : Fk P w K mg base "_law_near" 2 ["_law_dice_here", "_law_most"] (spNear T) := fk_of (i := 53) (df X G c 36 30) (fun f fd F => ok_near F roll) (fun _ _ _ _ _ _ us hl => match us, hl with | [_, _], _ => rfl)
  have lgcd : Fk P w K mg base "_law_gcd" 1 ["_law_one", "_law_other"] (spLGcd T) := fk_of (i := 54) (df X G c 37 31) (fun f fd F => ok_lgcd F g) (fun _ _ _ _ _ _ us hl => match us, hl with | [_, _], _ => rfl)
  have lsh : Fk P w K mg base "_law_shared" 2 ["_law_numbers"] (spLSh T) := fk_of (i := 55) (df X G c 38 32) (fun f fd F => ok_lsh F lgcd) (fun _ _ _ _ _ _ us hl => match us, hl with | [_], _ => rfl)
  have plus : Fk P w K mg base "_law_plus" 1 ["_law_one", "_law_other"] (spPlus T) := fk_of (i := 56) (df X G c 39 33) (fun f fd F => ok_plus F g) (fun _ _ _ _ _ _ us hl => match us, hl with | [_, _], _ => rfl)
  have scal : Fk P w K mg base "_law_scaled" 1 ["_law_form_here", "_law_factor"] (spScal T) := fk_of (i := 57) (df X G c 40 34) (fun f fd F => ok_scal F g) (fun _ _ _ _ _ _ us hl => match us, hl with | [_, _], _ => rfl)
  have prod : Fk P w K mg base "_law_product" 1 ["_law_one", "_law_other"] (spJoin T) := fk_of (i := 58) (df X G c 41 35) (fun f fd F => ok_prod F g) (fun _ _ _ _ _ _ us hl => match us, hl with | [_, _], _ => rfl)
  have allp : Fk P w K mg base "_law_all_product" 2 ["_law_forms"] (spAll T) := fk_of (i := 59) (df X G c 42 36) (fun f fd F => ok_all F prod) (fun _ _ _ _ _ _ us hl => match us, hl with | [_], _ => rfl)
  have pow : Fk P w K mg base "_law_power" 2 ["_law_pair", "_law_times"] (spPow T) := fk_of (i := 60) (df X G c 43 37) (fun f fd F => ok_pow F g prod) (fun _ _ _ _ _ _ us hl => match us, hl with | [_, _], _ => rfl)
  have byx : Fk P w K mg base "_law_by_x" 1 ["_law_form_here"] (spByX T) := fk_of (i := 61) (df X G c 44 38) (fun f fd F => ok_byX F g) (fun _ _ _ _ _ _ us hl => match us, hl with | [_], _ => rfl)
  have byy : Fk P w K mg base "_law_by_y" 1 ["_law_form_here"] (spByY T) := fk_of (i := 62) (df X G c 45 39) (fun f fd F => ok_byY F g) (fun _ _ _ _ _ _ us hl => match us, hl with | [_], _ => rfl)
  have ldr : Fk P w K mg base "_law_derived" 2 ["_law_form_here", "_law_one", "_law_other"] (spDer T) := fk_of (i := 63) (df X G c 46 40) (fun f fd F => ok_lder F g byx byy) (fun _ _ _ _ _ _ us hl => match us, hl with | [_, _, _], _ => rfl)
  have pln : Fk P w K mg base "_law_plain" 3 ["_law_form_here"] (spPlain T) := fk_of (i := 64) (df X G c 47 41) (fun f fd F => ok_plain F g lsh) (fun _ _ _ _ _ _ us hl => match us, hl with | [_], _ => rfl)
  have lin : Fk P w K mg base "_law_line" 1 ["_law_point_here"] (spLine T) := fk_of (i := 65) (df X G c 48 42) (fun f fd F => ok_line F) (fun _ _ _ _ _ _ us hl => match us, hl with | [_], _ => rfl)
  have pnt : Fk P w K mg base "_law_point" 4 ["_law_dice_here", "_law_most"] (spPoint T) := fk_of (i := 66) (df X G c 49 43) (fun f fd F => ok_point F near pln) (fun _ _ _ _ _ _ us hl => match us, hl with | [_, _], _ => rfl)
  have sml : Fk P w K mg base "_law_small_form" 3 ["_law_dice_here", "_law_degree", "_law_most"] (spSmall T) := fk_of (i := 67) (df X G c 50 44) (fun f fd F => ok_small F g near) (fun _ _ _ _ _ _ us hl => match us, hl with | [_, _, _], _ => rfl)
  have frm : Fk P w K mg base "_law_form" 5 ["_law_dice_here", "_law_degree"] (spForm T) := fk_of (i := 68) (df X G c 51 45) (fun f fd F => ok_lform F g roll near pnt lin allp pow prod sml scal plus) (fun _ _ _ _ _ _ us hl => match us, hl with | [_, _], _ => rfl)
  have llv : Fk P w K mg base "_law_levels" 1 ["_law_entries"] (spLev T) := fk_of (i := 69) (df X G c 52 46) (fun f fd F => ok_levs F g) (fun _ _ _ _ _ _ us hl => match us, hl with | [_], _ => rfl)
  have lkt : Fk P w K mg base "_law_killer_table" 2 ["_law_entries", "_law_degree"] (spRows T) := fk_of (i := 70) (df X G c 53 47) (fun f fd F => ok_kt F g llv) (fun _ _ _ _ _ _ us hl => match us, hl with | [_, _], _ => rfl)
  have lac : Fk P w K mg base "_law_acted" 3 ["_law_one", "_law_form_here"] (spAct T) := fk_of (i := 71) (df X G c 54 48) (fun f fd F => ok_lact F g ldr scal plus) (fun _ _ _ _ _ _ us hl => match us, hl with | [_, _], _ => rfl)
  have lw : Lw P w K mg base T (He.ga K "Told") (He.ga K "Form") := ⟨fm, mF, tab, dk, kd, ks, lsh, lkt, lac⟩
  have acr : Fk P w K mg base "_law_is_acting_right" 9 ["_law_one", "_law_form_here"] (spActR T) := fk_of (i := 72) (df X G c 55 49) (fun f fd F => ok_actR F g lw) (fun _ _ _ _ _ _ us hl => match us, hl with | [_, _], _ => rfl)
  have rgt : Fk P w K mg base "_law_right" 10 ["_law_dice_here"] (spRight T) := fk_of (i := 73) (df X G c 56 50) (fun f fd F => ok_right F g lw ow roll frm prod acr) (fun _ _ _ _ _ _ us hl => match us, hl with | [_], _ => rfl)
  exact ok_law F g lw dice rgt
end
theorem at_s (w : World) (mg : Str → Option Value) (fa' : Addr) (h : Heap) (Y : hk.says w h) (G : h.Ns mainGlobals mg) (hfa : mg ("law" : Str) = some (.ref fa')) : ∃ K : PySem.W.Frag, K.In h ∧ LamX.LawAtS PySem.Challenge.rw_sourceforms_k63_whole_level_tables_and_a w K CX0 11 63 "_law_script" mg fa' h := by
  obtain ⟨K, X, c, cg⟩ := Y
  have e := hfa.symm.trans (He.glo_ok X G (c.t.d.fact 51 (f := .glo "law") rfl))
  cases e
  obtain ⟨fd, F⟩ := law_fn c
  have b := FunD.bindsA (ps := ["_law_script"]) F (fun _ _ _ _ _ _ us hl => match us, hl with | [_], _ => rfl)
  have m1 : (("first_of", none) : He.Defn) ∈ tf := List.mem_singleton.mpr rfl
  have one : ∀ {p : Addr × Addr}, p ∈ [He.cT K ("first_of", none)] → p = He.cT K ("first_of", none) := fun hp => List.mem_singleton.mp hp
  refine ⟨K, X, fd, [He.cT K ("first_of", none)], spLaw (T9 K) K, fun p hp => ?_, fun p hp => ?_, fun p hp => ?_, fun s u => b s [u] rfl, fun H a ns hl _ hT hS => ⟨.ref a, ns, rfl, ⟨a, rfl, hS⟩, hl, ⟨#[], hT _ (List.mem_singleton.mpr rfl), ?_⟩, fun _ => rfl⟩, fun base _ _ TB => ?_⟩
  · rw [one hp]; exact c.empty _ m1
  · rw [one hp]; exact c.out _ m1
  · rw [one hp]; exact PySem.W.codeHd_of_K X (c.hd _ m1)
  · first | exact .nil | trivial | exact fun _ h => nomatch h | constructor
  · exact all_ok X G c cg (let z := TB _ (List.mem_singleton.mpr rfl); ⟨z.code, z.bm, z.gP⟩) F
end K6
open PySem PySem.W PySem.Calls PyProof.Rows
theorem PySem.Challenge.cw_sourceforms_k63_whole_level_tables_and_a_holds : PySem.Challenge.rw_sourceforms_k63_whole_level_tables_and_a.Holds := by
  w_on; o_law
  refine HandSHeadRun.head_imp (r := OpenLaw.row PySem.Challenge.rw_sourceforms_k63_whole_level_tables_and_a) (q := view (OpenLaw.row PySem.Challenge.rw_sourceforms_k63_whole_level_tables_and_a).prog [0, 74]) (H := K6.hk) (ob := K6.ob) (M := 5000) (loose := K6.loose) (d := HandSHeadRun.topDef (OpenLaw.row PySem.Challenge.rw_sourceforms_k63_whole_level_tables_and_a).prog 74) (kwd := []) K6.ob_eq
    K6.run (by kernel_rfl) (by kernel_rfl) (by kernel_rfl) (by rfl) (by first | assumption | decide +kernel) (by decide +kernel) ⟨rfl, rfl, rfl, rfl, rfl, by decide +kernel⟩ ?hw ?hc
  case hw => w_witness2
  case hc =>
    refine LamX.walk_ofTsE (l := PySem.Challenge.rw_sourceforms_k63_whole_level_tables_and_a) (n := 63) (k := 11) (x := "_law_script") (CX := fun _ => L2.CX0) rfl (by decide) (by kernel_rfl) ⟨rfl, by decide, by decide⟩ ?F (fun _ _ _ _ _ z => z)
    intro w mg fa h Y G hmg0
    have hmg : mg ("law" : PySem.Str) = some (.ref fa) := by
      have e : (HandSHeadRun.topDef (OpenLaw.row PySem.Challenge.rw_sourceforms_k63_whole_level_tables_and_a).prog 74).name = ("law" : PySem.Str) := by kernel_rfl
      rw [← e]
      exact hmg0
    exact K6.at_s w mg fa h Y G hmg

