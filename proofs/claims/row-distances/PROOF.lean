import PyProof.Rows.All
import Wide.All
import OpenK.AllK
import Wide.FinOn
import HandS.ForMost
import HandS.TupAny
import HandS.IsInst
import HandS.Deep
import KE.KExcSuper
import HandS.ExcSuper
import HandS.ExcField
import HandS.WordsExc
import HandS.Style
import PyProof.ReprLen
import HandS.Rev
import HandS.RevTup
import KE.KExcIs
import HandS.ExcIs
import PySem.Challenge.RW_graftbook_k07_whole_row_distances
set_option Elab.async false
set_option linter.all false
set_option maxRecDepth 100000
set_option maxHeartbeats 1000000
/-! The mathematics: least prices of matchings of two rows, by tables from the front and from the back; the first matching; their number. -/
namespace Gb
variable {T : Type} (c : T → T → Int) (dr ad : Int)

/-- the least price, three ways a step -/
def dist : List T → List T → Int
  | [], b => ad * (b.length : Int)
  | _ :: r, [] => dr + dist r []
  | x :: r, y :: s => min (dr + dist r (y :: s)) (min (ad + dist (x :: r) s) (c x y + dist r s))
termination_by a b => a.length + b.length

/-- a way from one row to the other and its price -/
inductive Al : List T → List T → Int → Prop
  | nil : Al [] [] 0
  | drop (x : T) {a b : List T} {v : Int} : Al a b v → Al (x :: a) b (dr + v)
  | add (y : T) {a b : List T} {v : Int} : Al a b v → Al a (y :: b) (ad + v)
  | pair (x y : T) {a b : List T} {v : Int} : Al a b v → Al (x :: a) (y :: b) (c x y + v)

theorem dist_nil (b : List T) : dist c dr ad [] b = ad * (b.length : Int) := by rw [dist]
theorem dist_cn (x : T) (r : List T) : dist c dr ad (x :: r) [] = dr + dist c dr ad r [] := by rw [dist]
theorem dist_cc (x y : T) (r s : List T) : dist c dr ad (x :: r) (y :: s) = min (dr + dist c dr ad r (y :: s)) (min (ad + dist c dr ad (x :: r) s) (c x y + dist c dr ad r s)) := by rw [dist]

theorem mul_succ_len (b : List T) (y : T) : ad * ((y :: b).length : Int) = ad + ad * (b.length : Int) := by
  rw [List.length_cons]
  have : ((b.length + 1 : Nat) : Int) = (b.length : Int) + 1 := by omega
  rw [this, Int.mul_add, Int.mul_one]; omega

theorem Al.to {a b : List T} {u v : Int} (h : Al c dr ad a b u) (e : u = v) : Al c dr ad a b v := e ▸ h

theorem al_nil : ∀ b : List T, Al c dr ad [] b (ad * (b.length : Int))
  | [] => (Al.nil : Al c dr ad [] [] 0).to c dr ad (by simp)
  | y :: b => (Al.add y (al_nil b)).to c dr ad (by rw [mul_succ_len])

theorem al_dist : ∀ (n : Nat) (a b : List T), a.length + b.length ≤ n → Al c dr ad a b (dist c dr ad a b)
  | _, [], b, _ => by rw [dist_nil]; exact al_nil c dr ad b
  | 0, _ :: _, _, h => by simp at h
  | n + 1, x :: r, [], h => by
    rw [dist_cn]
    exact Al.drop x (al_dist n r [] (by simp only [List.length_cons, List.length_nil] at h ⊢; omega))
  | n + 1, x :: r, y :: s, h => by
    rw [dist_cc]
    simp only [List.length_cons] at h
    have h1 := Al.drop (c := c) (dr := dr) (ad := ad) x (al_dist n r (y :: s) (by simp only [List.length_cons]; omega))
    have h2 := Al.add (c := c) (dr := dr) (ad := ad) y (al_dist n (x :: r) s (by simp only [List.length_cons]; omega))
    have h3 := Al.pair (c := c) (dr := dr) (ad := ad) x y (al_dist n r s (by omega))
    rcases Int.le_total (ad + dist c dr ad (x :: r) s) (c x y + dist c dr ad r s) with k | k
    · rw [Int.min_eq_left k]
      rcases Int.le_total (dr + dist c dr ad r (y :: s)) (ad + dist c dr ad (x :: r) s) with k2 | k2
      · rw [Int.min_eq_left k2]; exact h1
      · rw [Int.min_eq_right k2]; exact h2
    · rw [Int.min_eq_right k]
      rcases Int.le_total (dr + dist c dr ad r (y :: s)) (c x y + dist c dr ad r s) with k2 | k2
      · rw [Int.min_eq_left k2]; exact h1
      · rw [Int.min_eq_right k2]; exact h3

theorem dist_al (a b : List T) : Al c dr ad a b (dist c dr ad a b) := al_dist c dr ad _ a b (Nat.le_refl _)

theorem dist_le {a b : List T} {v : Int} (h : Al c dr ad a b v) : dist c dr ad a b ≤ v := by
  induction h with
  | nil => rw [dist_nil]; simp
  | @drop x a b v _ ih =>
    cases b with
    | nil => rw [dist_cn]; omega
    | cons y s => rw [dist_cc]; omega
  | @add y a b v _ ih =>
    cases a with
    | nil => rw [dist_nil, mul_succ_len]; rw [dist_nil] at ih; omega
    | cons x r => rw [dist_cc]; omega
  | @pair x y a b v _ ih => rw [dist_cc]; omega

theorem Al.append {a b a' b' : List T} {v v' : Int} (h : Al c dr ad a b v) (h' : Al c dr ad a' b' v') : Al c dr ad (a ++ a') (b ++ b') (v + v') := by
  induction h with
  | nil => exact h'.to c dr ad (by omega)
  | @drop x a b v _ ih => exact (Al.drop x ih).to c dr ad (by omega)
  | @add y a b v _ ih => exact (Al.add y ih).to c dr ad (by omega)
  | @pair x y a b v _ ih => exact (Al.pair x y ih).to c dr ad (by omega)

theorem Al.rev {a b : List T} {v : Int} (h : Al c dr ad a b v) : Al c dr ad a.reverse b.reverse v := by
  induction h with
  | nil => exact Al.nil
  | @drop x a b v _ ih =>
    have q := Al.append c dr ad ih (Al.drop (c := c) (dr := dr) (ad := ad) x Al.nil)
    rw [List.append_nil] at q
    rw [List.reverse_cons]
    exact q.to c dr ad (by omega)
  | @add y a b v _ ih =>
    have q := Al.append c dr ad ih (Al.add (c := c) (dr := dr) (ad := ad) y Al.nil)
    rw [List.append_nil] at q
    rw [List.reverse_cons]
    exact q.to c dr ad (by omega)
  | @pair x y a b v _ ih =>
    have q := Al.append c dr ad ih (Al.pair (c := c) (dr := dr) (ad := ad) x y Al.nil)
    rw [List.reverse_cons, List.reverse_cons]
    exact q.to c dr ad (by omega)

theorem dist_rev_le (a b : List T) : dist c dr ad a.reverse b.reverse ≤ dist c dr ad a b := dist_le c dr ad (Al.rev c dr ad (dist_al c dr ad a b))
theorem dist_rev (a b : List T) : dist c dr ad a.reverse b.reverse = dist c dr ad a b := by
  have h1 := dist_rev_le c dr ad a b
  have h2 := dist_rev_le c dr ad a.reverse b.reverse
  rw [List.reverse_reverse, List.reverse_reverse] at h2
  omega

theorem dist_ss (a b : List T) (x y : T) : dist c dr ad (a ++ [x]) (b ++ [y]) = min (dr + dist c dr ad a (b ++ [y])) (min (ad + dist c dr ad (a ++ [x]) b) (c x y + dist c dr ad a b)) := by
  rw [← dist_rev c dr ad (a ++ [x]) (b ++ [y]), List.reverse_append, List.reverse_append]
  show dist c dr ad (x :: a.reverse) (y :: b.reverse) = _
  rw [dist_cc, dist_rev]
  have e1 : dist c dr ad a.reverse (y :: b.reverse) = dist c dr ad a (b ++ [y]) := by
    rw [← dist_rev c dr ad a (b ++ [y]), List.reverse_append]; rfl
  have e2 : dist c dr ad (x :: a.reverse) b.reverse = dist c dr ad (a ++ [x]) b := by
    rw [← dist_rev c dr ad (a ++ [x]) b, List.reverse_append]; rfl
  rw [e1, e2]
theorem dist_ns (b : List T) (y : T) : dist c dr ad [] (b ++ [y]) = ad + dist c dr ad [] b := by
  rw [dist_nil, dist_nil, List.length_append, List.length_singleton]
  have : ((b.length + 1 : Nat) : Int) = (b.length : Int) + 1 := by omega
  rw [this, Int.mul_add, Int.mul_one]; omega
theorem dist_sn (a : List T) (x : T) : dist c dr ad (a ++ [x]) [] = dr + dist c dr ad a [] := by
  have e := dist_rev c dr ad (a ++ [x]) []
  rw [List.reverse_append] at e
  have e2 := dist_rev c dr ad a []
  rw [← e, ← e2]
  show dist c dr ad (x :: a.reverse) [] = _
  rw [dist_cn]; rfl
/-- the empty matching's price -/
theorem dist_all (a b : List T) : dist c dr ad a b ≤ dr * (a.length : Int) + ad * (b.length : Int) := by
  refine dist_le c dr ad ?_
  induction a with
  | nil => exact (al_nil c dr ad b).to c dr ad (by simp)
  | cons x r ih => exact (Al.drop x ih).to c dr ad (by rw [mul_succ_len]; omega)
theorem dist_add_le (a : List T) (y : T) (s : List T) : dist c dr ad a (y :: s) ≤ ad + dist c dr ad a s := dist_le c dr ad (Al.add y (dist_al c dr ad a s))
theorem dist_drop_le (x : T) (r : List T) (s : List T) : dist c dr ad (x :: r) s ≤ dr + dist c dr ad r s := dist_le c dr ad (Al.drop x (dist_al c dr ad r s))

/-! ### the law's own table -/
/-- x, the head of a row, meets each of s in turn; o: the price of those ahead -/
def scan (x : T) (F : List T → Int × Int) : Int → List T → Int × Int → Int × Int
  | _, [], best => best
  | o, y :: s, best => scan x F (o + ad) s (if o + c x y + (F s).1 < best.1 then (o + c x y + (F s).1, (F s).2) else if o + c x y + (F s).1 = best.1 then (best.1, best.2 + (F s).2) else best)
def lawT : List T → List T → Int × Int
  | [], s => (ad * (s.length : Int), 1)
  | x :: r, s => scan c ad x (lawT r) 0 s ((lawT r s).1 + dr, (lawT r s).2)

theorem scan_min (x : T) (F : List T → Int × Int) : ∀ (s : List T) (o : Int) (u w : Int × Int), u.1 ≤ w.1 → (scan c ad x F o s u).1 = min u.1 (scan c ad x F o s w).1
  | [], o, u, w, h => by
    show u.1 = min u.1 w.1
    omega
  | y :: s, o, u, w, h => by
    have key : ∀ b : Int × Int, (scan c ad x F o (y :: s) b).1 = min (min b.1 (o + c x y + (F s).1)) (scan c ad x F (o + ad) s (max (max u.1 w.1) (o + c x y + (F s).1) + b.1.natAbs, 0)).1 := fun b => by
      have e : (scan c ad x F o (y :: s) b).1 = (scan c ad x F (o + ad) s (if o + c x y + (F s).1 < b.1 then (o + c x y + (F s).1, (F s).2) else if o + c x y + (F s).1 = b.1 then (b.1, b.2 + (F s).2) else b)).1 := rfl
      rw [e]
      by_cases h1 : o + c x y + (F s).1 < b.1
      · rw [if_pos h1, scan_min x F s (o + ad) _ (max (max u.1 w.1) (o + c x y + (F s).1) + b.1.natAbs, 0) (by show o + c x y + (F s).1 ≤ max (max u.1 w.1) (o + c x y + (F s).1) + b.1.natAbs; omega)]
        show min (o + c x y + (F s).1) _ = _
        omega
      · rw [if_neg h1]
        by_cases h2 : o + c x y + (F s).1 = b.1
        · rw [if_pos h2, scan_min x F s (o + ad) _ (max (max u.1 w.1) (o + c x y + (F s).1) + b.1.natAbs, 0) (by show b.1 ≤ max (max u.1 w.1) (o + c x y + (F s).1) + b.1.natAbs; omega)]
          show min b.1 _ = _
          omega
        · rw [if_neg h2, scan_min x F s (o + ad) b (max (max u.1 w.1) (o + c x y + (F s).1) + b.1.natAbs, 0) (by show b.1 ≤ max (max u.1 w.1) (o + c x y + (F s).1) + b.1.natAbs; omega)]
          omega
    have ku := key u
    have kw := key w
    -- both rests stand over a great start; make them one
    have g : ∀ m n : Int, u.1 ≤ m → o + c x y + (F s).1 ≤ m → w.1 ≤ m → m ≤ n → min (min u.1 (o + c x y + (F s).1)) (scan c ad x F (o + ad) s (m, 0)).1 = min (min u.1 (o + c x y + (F s).1)) (scan c ad x F (o + ad) s (n, 0)).1 := fun m n h1 h2 h3 h4 => by
      rw [scan_min x F s (o + ad) (m, 0) (n, 0) h4]
      show min (min u.1 (o + c x y + (F s).1)) (min m _) = _
      omega
    have g1 := g (max (max u.1 w.1) (o + c x y + (F s).1) + u.1.natAbs) (max (max u.1 w.1) (o + c x y + (F s).1) + u.1.natAbs + w.1.natAbs) (by omega) (by omega) (by omega) (by omega)
    have g2 := g (max (max u.1 w.1) (o + c x y + (F s).1) + w.1.natAbs) (max (max u.1 w.1) (o + c x y + (F s).1) + u.1.natAbs + w.1.natAbs) (by omega) (by omega) (by omega) (by omega)
    rw [ku, kw]
    omega

theorem scan_shift (x : T) (F : List T → Int × Int) (d : Int) : ∀ (s : List T) (o : Int) (u : Int × Int) (k : Int), (scan c ad x F (o + d) s (u.1 + d, k)).1 = (scan c ad x F o s u).1 + d
  | [], o, u, k => rfl
  | y :: s, o, u, k => by
    show (scan c ad x F (o + d + ad) s (if o + d + c x y + (F s).1 < u.1 + d then (o + d + c x y + (F s).1, (F s).2) else if o + d + c x y + (F s).1 = u.1 + d then (u.1 + d, k + (F s).2) else (u.1 + d, k))).1 =
      (scan c ad x F (o + ad) s (if o + c x y + (F s).1 < u.1 then (o + c x y + (F s).1, (F s).2) else if o + c x y + (F s).1 = u.1 then (u.1, u.2 + (F s).2) else u)).1 + d
    have eo : o + d + ad = o + ad + d := by omega
    rw [eo]
    by_cases h1 : o + c x y + (F s).1 < u.1
    · rw [if_pos h1, if_pos (show o + d + c x y + (F s).1 < u.1 + d by omega)]
      have e : o + d + c x y + (F s).1 = (o + c x y + (F s).1) + d := by omega
      rw [e]
      exact scan_shift x F d s (o + ad) (o + c x y + (F s).1, (F s).2) _
    · rw [if_neg h1, if_neg (show ¬ o + d + c x y + (F s).1 < u.1 + d by omega)]
      by_cases h2 : o + c x y + (F s).1 = u.1
      · rw [if_pos h2, if_pos (show o + d + c x y + (F s).1 = u.1 + d by omega)]
        exact scan_shift x F d s (o + ad) (u.1, u.2 + (F s).2) _
      · rw [if_neg h2, if_neg (show ¬ o + d + c x y + (F s).1 = u.1 + d by omega)]
        exact scan_shift x F d s (o + ad) u _

/-- the law's table holds the least prices -/
theorem lawT_dist : ∀ (a s : List T), (lawT c dr ad a s).1 = dist c dr ad a s
  | [], s => by rw [dist_nil]; rfl
  | x :: r, [] => by
    rw [dist_cn, ← lawT_dist r []]
    show (lawT c dr ad r []).1 + dr = _
    omega
  | x :: r, y :: s => by
    have ih := lawT_dist (x :: r) s
    have i1 := lawT_dist r (y :: s)
    have i2 := lawT_dist r s
    rw [dist_cc, ← ih, ← i1, ← i2]
    have le := dist_add_le c dr ad r y s
    rw [← i1, ← i2] at le
    have e1 : (lawT c dr ad (x :: r) (y :: s)).1 = (scan c ad x (lawT c dr ad r) (0 + ad) s (if 0 + c x y + (lawT c dr ad r s).1 < (lawT c dr ad r (y :: s)).1 + dr then (0 + c x y + (lawT c dr ad r s).1, (lawT c dr ad r s).2)
      else if 0 + c x y + (lawT c dr ad r s).1 = (lawT c dr ad r (y :: s)).1 + dr then ((lawT c dr ad r (y :: s)).1 + dr, (lawT c dr ad r (y :: s)).2 + (lawT c dr ad r s).2) else ((lawT c dr ad r (y :: s)).1 + dr, (lawT c dr ad r (y :: s)).2))).1 := rfl
    have e2 : (scan c ad x (lawT c dr ad r) (0 + ad) s (((lawT c dr ad r s).1 + dr, (lawT c dr ad r s).2).1 + ad, 0)).1 = (lawT c dr ad (x :: r) s).1 + ad := scan_shift c ad x (lawT c dr ad r) ad s 0 ((lawT c dr ad r s).1 + dr, (lawT c dr ad r s).2) 0
    rw [e1]
    by_cases h1 : 0 + c x y + (lawT c dr ad r s).1 < (lawT c dr ad r (y :: s)).1 + dr
    · rw [if_pos h1, scan_min c ad x (lawT c dr ad r) s (0 + ad) _ (((lawT c dr ad r s).1 + dr, (lawT c dr ad r s).2).1 + ad, 0) (by show 0 + c x y + (lawT c dr ad r s).1 ≤ (lawT c dr ad r s).1 + dr + ad; omega), e2]
      show min (0 + c x y + (lawT c dr ad r s).1) _ = _
      omega
    · rw [if_neg h1]
      by_cases h2 : 0 + c x y + (lawT c dr ad r s).1 = (lawT c dr ad r (y :: s)).1 + dr
      · rw [if_pos h2, scan_min c ad x (lawT c dr ad r) s (0 + ad) _ (((lawT c dr ad r s).1 + dr, (lawT c dr ad r s).2).1 + ad, 0) (by show (lawT c dr ad r (y :: s)).1 + dr ≤ (lawT c dr ad r s).1 + dr + ad; omega), e2]
        show min ((lawT c dr ad r (y :: s)).1 + dr) _ = _
        omega
      · rw [if_neg h2, scan_min c ad x (lawT c dr ad r) s (0 + ad) _ (((lawT c dr ad r s).1 + dr, (lawT c dr ad r s).2).1 + ad, 0) (by show (lawT c dr ad r (y :: s)).1 + dr ≤ (lawT c dr ad r s).1 + dr + ad; omega), e2]
        show min ((lawT c dr ad r (y :: s)).1 + dr) _ = _
        omega
termination_by a s => a.length + s.length

/-! ### the pairs with which a least matching can begin; the number of least matchings -/
/-- the sum over s of g where x meets it at the price t -/
def rowSum (x : T) (F : List T → Int × Int) (t : Int) : Int → List T → Int
  | _, [] => 0
  | o, y :: s => (if o + c x y + (F s).1 = t then (F s).2 else 0) + rowSum x F t (o + ad) s
theorem scan_le (x : T) (F : List T → Int × Int) : ∀ (s : List T) (o : Int) (u : Int × Int), (scan c ad x F o s u).1 ≤ u.1
  | [], _, _ => Int.le_refl _
  | y :: s, o, u => by
    show (scan c ad x F (o + ad) s (if o + c x y + (F s).1 < u.1 then (o + c x y + (F s).1, (F s).2) else if o + c x y + (F s).1 = u.1 then (u.1, u.2 + (F s).2) else u)).1 ≤ u.1
    split
    · rename_i h
      have := scan_le x F s (o + ad) (o + c x y + (F s).1, (F s).2)
      simp only at this
      omega
    · split
      · exact scan_le x F s (o + ad) (u.1, u.2 + (F s).2)
      · exact scan_le x F s (o + ad) u
theorem scan_num (x : T) (F : List T → Int × Int) : ∀ (s : List T) (o : Int) (u : Int × Int),
    (scan c ad x F o s u).2 = (if u.1 = (scan c ad x F o s u).1 then u.2 else 0) + rowSum c ad x F (scan c ad x F o s u).1 o s
  | [], o, u => by
    show u.2 = (if u.1 = u.1 then u.2 else 0) + 0
    rw [if_pos rfl]; omega
  | y :: s, o, u => by
    have e : scan c ad x F o (y :: s) u = scan c ad x F (o + ad) s (if o + c x y + (F s).1 < u.1 then (o + c x y + (F s).1, (F s).2) else if o + c x y + (F s).1 = u.1 then (u.1, u.2 + (F s).2) else u) := rfl
    have er : ∀ t, rowSum c ad x F t o (y :: s) = (if o + c x y + (F s).1 = t then (F s).2 else 0) + rowSum c ad x F t (o + ad) s := fun _ => rfl
    rw [e, er]
    by_cases h1 : o + c x y + (F s).1 < u.1
    · rw [if_pos h1]
      have l := scan_le c ad x F s (o + ad) (o + c x y + (F s).1, (F s).2)
      have ih := scan_num x F s (o + ad) (o + c x y + (F s).1, (F s).2)
      simp only at ih l
      rw [ih, if_neg (show ¬ u.1 = _ by omega)]
      omega
    · rw [if_neg h1]
      by_cases h2 : o + c x y + (F s).1 = u.1
      · rw [if_pos h2]
        have ih := scan_num x F s (o + ad) (u.1, u.2 + (F s).2)
        simp only at ih
        rw [ih, h2]
        split <;> omega
      · rw [if_neg h2]
        have l := scan_le c ad x F s (o + ad) u
        have ih := scan_num x F s (o + ad) u
        rw [ih, if_neg (show ¬ o + c x y + (F s).1 = _ by omega)]
        omega

/-- the pairs of place k (the word x, r behind it) with the places of s from n on that bring the price t; o: the price ahead -/
def rowPairs (k : Nat) (x : T) (r : List T) (t : Int) : Int → Nat → List T → List (Nat × Nat)
  | _, _, [] => []
  | o, n, y :: s => (if o + c x y + dist c dr ad r s = t then [(k, n)] else []) ++ rowPairs k x r t (o + ad) (n + 1) s
/-- .. of all places from k on -/
def pairsFrom (t : Int) (j : Nat) (s : List T) : Int → Nat → List T → List (Nat × Nat)
  | _, _, [] => []
  | o, k, x :: r => rowPairs c dr ad k x r t o j s ++ pairsFrom t j s (o + dr) (k + 1) r
/-- the number of least matchings of what stands behind -/
def numOf (a b : List T) (k n : Nat) : Int := (lawT c dr ad (a.drop k) (b.drop n)).2
def sumOf (a b : List T) (l : List (Nat × Nat)) : Int := (l.map fun p => numOf c dr ad a b (p.1 + 1) (p.2 + 1)).sum
theorem sumOf_append (a b : List T) (l m : List (Nat × Nat)) : sumOf c dr ad a b (l ++ m) = sumOf c dr ad a b l + sumOf c dr ad a b m := by
  unfold sumOf
  rw [List.map_append, List.sum_append]
theorem sumOf_cons (a b : List T) (p : Nat × Nat) (l : List (Nat × Nat)) : sumOf c dr ad a b (p :: l) = numOf c dr ad a b (p.1 + 1) (p.2 + 1) + sumOf c dr ad a b l := by
  unfold sumOf
  rw [List.map_cons, List.sum_cons]
theorem sumOf_nil (a b : List T) : sumOf c dr ad a b [] = 0 := rfl
theorem drop_succ_of {a r : List T} {x : T} {k : Nat} (h : a.drop k = x :: r) : a.drop (k + 1) = r := by
  have e : a.drop (k + 1) = (a.drop k).drop 1 := by rw [List.drop_drop]
  rw [e, h]; rfl
theorem rowPairs_sum (a b : List T) (x : T) (r : List T) (t : Int) (k : Nat) (hk : a.drop k = x :: r) : ∀ (s : List T) (o : Int) (n : Nat), b.drop n = s → sumOf c dr ad a b (rowPairs c dr ad k x r t o n s) = rowSum c ad x (lawT c dr ad r) t o s
  | [], _, _, _ => rfl
  | y :: s, o, n, h => by
    have e1 : rowPairs c dr ad k x r t o n (y :: s) = (if o + c x y + dist c dr ad r s = t then [(k, n)] else []) ++ rowPairs c dr ad k x r t (o + ad) (n + 1) s := rfl
    have e2 : rowSum c ad x (lawT c dr ad r) t o (y :: s) = (if o + c x y + (lawT c dr ad r s).1 = t then (lawT c dr ad r s).2 else 0) + rowSum c ad x (lawT c dr ad r) t (o + ad) s := rfl
    rw [e1, e2, sumOf_append, rowPairs_sum a b x r t k hk s (o + ad) (n + 1) (drop_succ_of h), lawT_dist]
    by_cases q : o + c x y + dist c dr ad r s = t
    · rw [if_pos q, if_pos q, sumOf_cons, sumOf_nil]
      unfold numOf
      rw [drop_succ_of hk, drop_succ_of h]; omega
    · rw [if_neg q, if_neg q, sumOf_nil]
theorem pair_price_ge (x : T) (r : List T) : ∀ (s : List T) (o t : Int), t < o + dist c dr ad (x :: r) s → rowSum c ad x (lawT c dr ad r) t o s = 0
  | [], _, _, _ => rfl
  | y :: s, o, t, h => by
    have l1 : dist c dr ad (x :: r) (y :: s) ≤ c x y + dist c dr ad r s := dist_le c dr ad (Al.pair x y (dist_al c dr ad r s))
    have l2 := dist_add_le c dr ad (x :: r) y s
    show (if o + c x y + (lawT c dr ad r s).1 = t then (lawT c dr ad r s).2 else 0) + rowSum c ad x (lawT c dr ad r) t (o + ad) s = 0
    rw [lawT_dist, if_neg (by omega), pair_price_ge x r s (o + ad) t (by omega)]; omega
theorem pairsFrom_none (a b : List T) (j : Nat) (s : List T) (hs : b.drop j = s) (t : Int) : ∀ (r : List T) (o : Int) (k : Nat), a.drop k = r → t < o + dist c dr ad r s → sumOf c dr ad a b (pairsFrom c dr ad t j s o k r) = 0
  | [], _, _, _, _ => rfl
  | x :: r, o, k, hk, h => by
    show sumOf c dr ad a b (rowPairs c dr ad k x r t o j s ++ pairsFrom c dr ad t j s (o + dr) (k + 1) r) = 0
    have l := dist_drop_le c dr ad x r s
    rw [sumOf_append, rowPairs_sum c dr ad a b x r t k hk s o j hs, pair_price_ge c dr ad x r s o t h, pairsFrom_none a b j s hs t r (o + dr) (k + 1) (drop_succ_of hk) (by omega)]; rfl
theorem rowSum_shift (x : T) (F : List T → Int × Int) (t d : Int) : ∀ (s : List T) (o : Int), rowSum c ad x F (t + d) (o + d) s = rowSum c ad x F t o s
  | [], _ => rfl
  | y :: s, o => by
    show (if o + d + c x y + (F s).1 = t + d then (F s).2 else 0) + rowSum c ad x F (t + d) (o + d + ad) s = (if o + c x y + (F s).1 = t then (F s).2 else 0) + rowSum c ad x F t (o + ad) s
    have e : o + d + ad = o + ad + d := by omega
    rw [e, rowSum_shift x F t d s (o + ad)]
    by_cases q : o + c x y + (F s).1 = t
    · rw [if_pos q, if_pos (by omega)]
    · rw [if_neg q, if_neg (by omega)]
theorem rowPairs_shift (k : Nat) (x : T) (r : List T) (t d : Int) : ∀ (s : List T) (o : Int) (n : Nat), rowPairs c dr ad k x r (t + d) (o + d) n s = rowPairs c dr ad k x r t o n s
  | [], _, _ => rfl
  | y :: s, o, n => by
    show (if o + d + c x y + dist c dr ad r s = t + d then [(k, n)] else []) ++ rowPairs c dr ad k x r (t + d) (o + d + ad) (n + 1) s = (if o + c x y + dist c dr ad r s = t then [(k, n)] else []) ++ rowPairs c dr ad k x r t (o + ad) (n + 1) s
    have e : o + d + ad = o + ad + d := by omega
    rw [e, rowPairs_shift k x r t d s (o + ad) (n + 1)]
    by_cases q : o + c x y + dist c dr ad r s = t
    · rw [if_pos q, if_pos (by omega)]
    · rw [if_neg q, if_neg (by omega)]
theorem pairsFrom_shift (t d : Int) (j : Nat) (s : List T) : ∀ (r : List T) (o : Int) (k : Nat), pairsFrom c dr ad (t + d) j s (o + d) k r = pairsFrom c dr ad t j s o k r
  | [], _, _ => rfl
  | x :: r, o, k => by
    show rowPairs c dr ad k x r (t + d) (o + d) j s ++ pairsFrom c dr ad (t + d) j s (o + d + dr) (k + 1) r = rowPairs c dr ad k x r t o j s ++ pairsFrom c dr ad t j s (o + dr) (k + 1) r
    have e : o + d + dr = o + dr + d := by omega
    rw [e, pairsFrom_shift t d j s r (o + dr) (k + 1), rowPairs_shift]
/-- whether the empty matching is a least one -/
def ends (a b : List T) : Prop := dr * (a.length : Int) + ad * (b.length : Int) = dist c dr ad a b
instance (a b : List T) : Decidable (ends c dr ad a b) := inferInstanceAs (Decidable (_ = _))
/-- THE NUMBER: the law's is the program's -/
theorem num_eq (a b : List T) (j : Nat) (s : List T) (hs : b.drop j = s) : ∀ (r : List T) (k : Nat), a.drop k = r →
    (lawT c dr ad r s).2 = (if ends c dr ad r s then 1 else 0) + sumOf c dr ad a b (pairsFrom c dr ad (dist c dr ad r s) j s 0 k r)
  | [], k, hk => by
    have e : ends c dr ad [] s := by
      unfold ends
      rw [dist_nil]; simp
    rw [if_pos e]; rfl
  | x :: r, k, hk => by
    have ih := num_eq a b j s hs r (k + 1) (drop_succ_of hk)
    have e1 : (lawT c dr ad (x :: r) s).2 = (scan c ad x (lawT c dr ad r) 0 s ((lawT c dr ad r s).1 + dr, (lawT c dr ad r s).2)).2 := rfl
    have e2 : (scan c ad x (lawT c dr ad r) 0 s ((lawT c dr ad r s).1 + dr, (lawT c dr ad r s).2)).1 = dist c dr ad (x :: r) s := lawT_dist c dr ad (x :: r) s
    rw [e1, scan_num, e2, lawT_dist]
    have e3 : pairsFrom c dr ad (dist c dr ad (x :: r) s) j s 0 k (x :: r) = rowPairs c dr ad k x r (dist c dr ad (x :: r) s) 0 j s ++ pairsFrom c dr ad (dist c dr ad (x :: r) s) j s (0 + dr) (k + 1) r := rfl
    rw [e3, sumOf_append, rowPairs_sum c dr ad a b x r _ k hk s 0 j hs]
    have l := dist_drop_le c dr ad x r s
    have l2 := dist_all c dr ad r s
    have ml := mul_succ_len dr r x
    by_cases q : dist c dr ad r s + dr = dist c dr ad (x :: r) s
    · rw [if_pos q, ih]
      have e4 : pairsFrom c dr ad (dist c dr ad (x :: r) s) j s (0 + dr) (k + 1) r = pairsFrom c dr ad (dist c dr ad r s) j s 0 (k + 1) r := by
        rw [← q]; exact pairsFrom_shift c dr ad _ dr j s r 0 (k + 1)
      rw [e4]
      have e5 : ends c dr ad r s ↔ ends c dr ad (x :: r) s := by
        unfold ends
        rw [ml]; omega
      by_cases q5 : ends c dr ad r s
      · rw [if_pos q5, if_pos (e5.mp q5)]; omega
      · rw [if_neg q5, if_neg (fun z => q5 (e5.mpr z))]; omega
    · rw [if_neg q, pairsFrom_none c dr ad a b j s hs _ r (0 + dr) (k + 1) (drop_succ_of hk) (by omega)]
      have e5 : ¬ ends c dr ad (x :: r) s := by
        unfold ends
        rw [ml]; omega
      rw [if_neg e5]; omega

/-! ### where a pair is found -/
theorem row_found (x : T) (r : List T) (k : Nat) : ∀ (s : List T) (o : Int) (n : Nat), rowPairs c dr ad k x r (o + dist c dr ad (x :: r) s) o n s ≠ [] ∨ dist c dr ad (x :: r) s = dr + dist c dr ad r s
  | [], _, _ => .inr (dist_cn c dr ad x r)
  | y :: s, o, n => by
    have e := dist_cc c dr ad x y r s
    have er : rowPairs c dr ad k x r (o + dist c dr ad (x :: r) (y :: s)) o n (y :: s) = (if o + c x y + dist c dr ad r s = o + dist c dr ad (x :: r) (y :: s) then [(k, n)] else []) ++ rowPairs c dr ad k x r (o + dist c dr ad (x :: r) (y :: s)) (o + ad) (n + 1) s := rfl
    by_cases h1 : c x y + dist c dr ad r s = dist c dr ad (x :: r) (y :: s)
    · refine .inl ?_
      rw [er, if_pos (by omega)]
      simp
    · by_cases h2 : ad + dist c dr ad (x :: r) s = dist c dr ad (x :: r) (y :: s)
      · have ih := row_found x r k s (o + ad) (n + 1)
        rcases ih with ih | ih
        · refine .inl ?_
          rw [er, ← h2]
          have e3 : o + (ad + dist c dr ad (x :: r) s) = o + ad + dist c dr ad (x :: r) s := by omega
          rw [e3]
          intro z
          exact ih (List.append_eq_nil_iff.mp z).2
        · have l := dist_add_le c dr ad r y s
          exact .inr (by omega)
      · exact .inr (by omega)
/-- not at the end: a pair is there -/
theorem pairs_found (j : Nat) (s : List T) : ∀ (r : List T) (o : Int) (k : Nat), ¬ ends c dr ad r s → pairsFrom c dr ad (o + dist c dr ad r s) j s o k r ≠ []
  | [], o, k, h => by
    refine absurd ?_ h
    unfold ends
    rw [dist_nil]; simp
  | x :: r, o, k, h => by
    have er : pairsFrom c dr ad (o + dist c dr ad (x :: r) s) j s o k (x :: r) = rowPairs c dr ad k x r (o + dist c dr ad (x :: r) s) o j s ++ pairsFrom c dr ad (o + dist c dr ad (x :: r) s) j s (o + dr) (k + 1) r := rfl
    rw [er]
    intro z
    obtain ⟨z1, z2⟩ := List.append_eq_nil_iff.mp z
    rcases row_found c dr ad x r k s o j with q | q
    · exact q z1
    · have h' : ¬ ends c dr ad r s := fun w => h (by
        unfold ends at w ⊢
        rw [mul_succ_len]; omega)
      refine pairs_found j s r (o + dr) (k + 1) h' ?_
      have e : o + dr + dist c dr ad r s = o + dist c dr ad (x :: r) s := by omega
      rw [e]; exact z2
theorem rowPairs_mem (k : Nat) (x : T) (r : List T) (t : Int) : ∀ (s : List T) (o : Int) (n : Nat) (p : Nat × Nat), p ∈ rowPairs c dr ad k x r t o n s → p.1 = k ∧ n ≤ p.2 ∧ p.2 < n + s.length
  | [], _, _, _, h => nomatch h
  | y :: s, o, n, p, h => by
    have h' : p ∈ (if o + c x y + dist c dr ad r s = t then [(k, n)] else []) ++ rowPairs c dr ad k x r t (o + ad) (n + 1) s := h
    rw [List.length_cons]
    rcases List.mem_append.mp h' with q | q
    · split at q
      · rw [List.mem_singleton] at q
        subst q
        exact ⟨rfl, Nat.le_refl _, by show n < _; omega⟩
      · exact nomatch q
    · obtain ⟨h1, h2, h3⟩ := rowPairs_mem k x r t s (o + ad) (n + 1) p q
      exact ⟨h1, by omega, by omega⟩
theorem pairsFrom_mem (t : Int) (j : Nat) (s : List T) : ∀ (r : List T) (o : Int) (k : Nat) (p : Nat × Nat), p ∈ pairsFrom c dr ad t j s o k r → (k ≤ p.1 ∧ p.1 < k + r.length) ∧ j ≤ p.2 ∧ p.2 < j + s.length
  | [], _, _, _, h => nomatch h
  | x :: r, o, k, p, h => by
    have h' : p ∈ rowPairs c dr ad k x r t o j s ++ pairsFrom c dr ad t j s (o + dr) (k + 1) r := h
    rw [List.length_cons]
    rcases List.mem_append.mp h' with q | q
    · obtain ⟨h1, h2, h3⟩ := rowPairs_mem c dr ad k x r t s o j p q
      exact ⟨⟨by omega, by omega⟩, h2, h3⟩
    · obtain ⟨⟨h1, h2⟩, h3⟩ := pairsFrom_mem t j s r (o + dr) (k + 1) p q
      exact ⟨⟨by omega, by omega⟩, h3⟩

/-! ### the first matching -/
def nextPairs (a b : List T) (i j : Nat) : List (Nat × Nat) := pairsFrom c dr ad (dist c dr ad (a.drop i) (b.drop j)) j (b.drop j) 0 i (a.drop i)
def firstF (a b : List T) : Nat → Nat → Nat → List (Nat × Nat)
  | 0, _, _ => []
  | f + 1, i, j => if ends c dr ad (a.drop i) (b.drop j) then [] else match nextPairs c dr ad a b i j with
    | [] => []
    | p :: _ => p :: firstF a b f (p.1 + 1) (p.2 + 1)
/-- the first least matching -/
def first (a b : List T) : List (Nat × Nat) := firstF c dr ad a b (a.length + 1) 0 0
theorem next_found (a b : List T) (i j : Nat) (h : ¬ ends c dr ad (a.drop i) (b.drop j)) : ∃ p l, nextPairs c dr ad a b i j = p :: l ∧ i ≤ p.1 ∧ p.1 < a.length ∧ j ≤ p.2 ∧ p.2 < b.length := by
  have q := pairs_found c dr ad j (b.drop j) (a.drop i) 0 i h
  rw [Int.zero_add] at q
  cases e : nextPairs c dr ad a b i j with
  | nil => exact absurd e q
  | cons p l =>
    have m : p ∈ nextPairs c dr ad a b i j := by rw [e]; exact List.mem_cons_self
    obtain ⟨⟨h1, h2⟩, h3, h4⟩ := pairsFrom_mem c dr ad _ j (b.drop j) (a.drop i) 0 i p m
    rw [List.length_drop] at h2 h4
    exact ⟨p, l, rfl, h1, by omega, h3, by omega⟩
end Gb

set_option maxHeartbeats 1000000
/-! My layer over HandS: expressions that evaluate to data (PyData trees). H: what is tracked; F: the part of it that never changes again. -/
namespace Gb
open PySem L2

/-! ### heaps -/
def Ext (H H' : Hp) : Prop := ∀ a o, H a = some o → H' a = some o
theorem Ext.rfl' {H : Hp} : Ext H H := fun _ _ h => h
theorem Ext.tr {H H1 H2 : Hp} (a : Ext H H1) (b : Ext H1 H2) : Ext H H2 := fun x o h => b x o (a x o h)
theorem Ext.new {H : Hp} {p : Addr} {o : HO} (h : H p = none) : Ext H (upd H p o) := fun a u e => by
  rw [upd_ne (ne_of_none e h)]; exact e
theorem Ext.none_of {H H' : Hp} (x : Ext H H') {p : Addr} (h : H' p = none) : H p = none := by
  cases e : H p with
  | none => rfl
  | some o => rw [x p o e] at h; cases h
/-- what may change: nothing -/
def no : Addr → Prop := fun _ => False
/-- the tracked heap H with its lasting part F has grown to H2, F2; m: what may have changed -/
structure Gr (m : Addr → Prop) (H F H2 F2 : Hp) : Prop where
  h : ∀ a o, ¬ m a → H a = some o → H2 a = some o
  t : ∀ a, H a ≠ none → H2 a ≠ none
  f : Ext F F2
  e : Ext F2 H2
  n : ∀ a, H a ≠ none → F2 a = F a
section
variable {m : Addr → Prop} {H F H1 F1 H2 F2 : Hp}
theorem Gr.refl (x : Ext F H) : Gr m H F H F := ⟨fun _ _ _ h => h, fun _ h => h, Ext.rfl', x, fun _ _ => rfl⟩
theorem Gr.tr (a : Gr m H F H1 F1) (b : Gr m H1 F1 H2 F2) : Gr m H F H2 F2 :=
  ⟨fun x o n h => b.h x o n (a.h x o n h), fun x h => b.t x (a.t x h), a.f.tr b.f, b.e, fun x h => (b.n x (a.t x h)).trans (a.n x h)⟩
theorem Gr.to (a : Gr no H F H1 F1) : Gr m H F H1 F1 := ⟨fun x o _ h => a.h x o (fun z => z) h, a.t, a.f, a.e, a.n⟩
theorem Gr.ext (a : Gr no H F H1 F1) : Ext H H1 := fun x o h => a.h x o (fun z => z) h
/-- a new lasting object -/
theorem Gr.new {p : Addr} {o : HO} (x : Ext F H) (hp : H p = none) : Gr m H F (upd H p o) (upd F p o) where
  h := fun a u _ h => by rw [upd_ne (ne_of_none h hp)]; exact h
  t := fun a h => by
    by_cases e : a = p
    · subst e; exact absurd hp h
    · rw [upd_ne e]; exact h
  f := Ext.new (x.none_of hp)
  e := fun a u h => by
    by_cases e : a = p
    · subst e; rw [upd_same] at h ⊢; exact h
    · rw [upd_ne e] at h ⊢; exact x a u h
  n := fun a h => by rw [upd_ne (fun e => h (by rw [e]; exact hp))]
/-- a new object that may change -/
theorem Gr.newM {p : Addr} {o : HO} (x : Ext F H) (hp : H p = none) : Gr m H F (upd H p o) F where
  h := fun a u _ h => by rw [upd_ne (ne_of_none h hp)]; exact h
  t := fun a h => by
    by_cases e : a = p
    · subst e; exact absurd hp h
    · rw [upd_ne e]; exact h
  f := Ext.rfl'
  e := fun a u h => by rw [upd_ne (ne_of_none (x a u h) hp)]; exact x a u h
  n := fun a h => rfl
/-- an object that is younger than H, and not lasting, changes -/
theorem Gr.mut {l : Addr} {o : HO} (a : Gr m H F H1 F1) (hl : H l = none) (fl : F1 l = none) : Gr m H F (upd H1 l o) F1 where
  h := fun x u nx h => by rw [upd_ne (ne_of_none h hl)]; exact a.h x u nx h
  t := fun x h => by
    by_cases e : x = l
    · subst e; exact absurd hl h
    · rw [upd_ne e]; exact a.t x h
  f := a.f
  e := fun x u h => by rw [upd_ne (ne_of_none h fl)]; exact a.e x u h
  n := a.n
/-- .. becomes lasting -/
theorem Gr.last {l : Addr} {o : HO} (a : Gr m H F H1 F1) (hl : H l = none) (fl : F1 l = none) (h1 : H1 l = some o) : Gr m H F H1 (upd F1 l o) where
  h := a.h
  t := a.t
  f := a.f.tr (Ext.new fl)
  e := fun x u h => by
    by_cases e : x = l
    · subst e; rw [upd_same] at h; rw [h1]; exact h
    · rw [upd_ne e] at h; exact a.e x u h
  n := fun x h => by
    by_cases e : x = l
    · subst e; exact absurd hl h
    · rw [upd_ne e]; exact a.n x h
end

/-! ### data -/
theorem rd_ext {H H' : Hp} {a : Addr} {u : HO} (e : Ext H H') (h : Rd H a u) : Rd H' a u := by
  rcases h with h | ⟨o, h⟩
  · exact .inl (e a _ h)
  · exact .inr ⟨o, e a _ h⟩
section
variable {K : PySem.W.Frag} {H H' : Hp}
theorem sql_ext {a : Addr} {xs : List V} (e : Ext H H') (h : SqL K H a xs) : SqL K H' a xs := by
  rcases h with h | h
  · exact .inl (rd_ext e h)
  · exact .inr h
theorem sqt_ext {a : Addr} {xs : List V} (e : Ext H H') (h : SqT K H a xs) : SqT K H' a xs := by
  rcases h with h | h
  · exact .inl (rd_ext e h)
  · exact .inr h
mutual
theorem dp_ext (e : Ext H H') : ∀ (d : PyData) (v : V), Dp K H v d → Dp K H' v d
  | .none, _, h => by cases h; exact .non
  | .bool _, _, h => by cases h; exact .bl _
  | .int _, _, h => by cases h; exact .int _
  | .str _, _, h => by cases h; exact .str _
  | .list ds, _, h => by
    cases h with
    | lst hs ha => exact .lst (sql_ext e hs) (dpa_ext e ds _ ha)
  | .tuple ds, _, h => by
    cases h with
    | tup hs ha => exact .tup (sqt_ext e hs) (dpa_ext e ds _ ha)
  | .dict _, _, h => by cases h
theorem dpa_ext (e : Ext H H') : ∀ (ds : List PyData) (vs : List V), DpAll K H vs ds → DpAll K H' vs ds
  | [], _, h => by cases h; exact .nil
  | d :: ds, _, h => by
    cases h with
    | cons h1 h2 => exact .cons (dp_ext e d _ h1) (dpa_ext e ds _ h2)
end
theorem Dp.ext {v : V} {d : PyData} (h : Dp K H v d) (e : Ext H H') : Dp K H' v d := dp_ext e d v h
theorem DpAll.ext {vs : List V} {ds : List PyData} (h : DpAll K H vs ds) (e : Ext H H') : DpAll K H' vs ds := dpa_ext e ds vs h
theorem DpAll.len : ∀ {vs : List V} {ds : List PyData}, DpAll K H vs ds → vs.length = ds.length
  | _, _, .nil => rfl
  | _, _, .cons _ t => congrArg (· + 1) (DpAll.len t)
theorem DpAll.get : ∀ {vs : List V} {ds : List PyData} {i : Nat} {d : PyData}, DpAll K H vs ds → ds[i]? = some d → ∃ v, vs[i]? = some v ∧ Dp K H v d
  | _, _, _, _, .nil, e => by simp at e
  | _, _, 0, _, .cons h _, e => by
    simp at e; subst e; exact ⟨_, rfl, h⟩
  | _, _, i + 1, d, .cons _ t, e => by
    obtain ⟨v, h1, h2⟩ := DpAll.get (i := i) (d := d) t (by simpa using e)
    exact ⟨v, by simpa using h1, h2⟩
theorem DpAll.getV : ∀ {vs : List V} {ds : List PyData} {i : Nat} {v : V}, DpAll K H vs ds → vs[i]? = some v → ∃ d, ds[i]? = some d ∧ Dp K H v d
  | _, _, _, _, .nil, e => by simp at e
  | _, _, 0, _, .cons h _, e => by
    simp at e; subst e; exact ⟨_, rfl, h⟩
  | _, _, i + 1, d, .cons _ t, e => by
    obtain ⟨v, h1, h2⟩ := DpAll.getV (i := i) (v := d) t (by simpa using e)
    exact ⟨v, by simpa using h1, h2⟩
theorem DpAll.app : ∀ {vs ws : List V} {ds es : List PyData}, DpAll K H vs ds → DpAll K H ws es → DpAll K H (vs ++ ws) (ds ++ es)
  | _, _, _, _, .nil, h => h
  | _, _, _, _, .cons a t, h => .cons a (DpAll.app t h)
theorem DpAll.take : ∀ {vs : List V} {ds : List PyData} (n : Nat), DpAll K H vs ds → DpAll K H (vs.take n) (ds.take n)
  | _, _, 0, _ => .nil
  | _, _, _ + 1, .nil => .nil
  | _, _, n + 1, .cons a t => .cons a (DpAll.take n t)
theorem DpAll.drop : ∀ {vs : List V} {ds : List PyData} (n : Nat), DpAll K H vs ds → DpAll K H (vs.drop n) (ds.drop n)
  | _, _, 0, h => h
  | _, _, _ + 1, .nil => .nil
  | _, _, n + 1, .cons _ t => DpAll.drop n t
theorem DpAll.rev {vs : List V} {ds : List PyData} (h : DpAll K H vs ds) : DpAll K H vs.reverse ds.reverse := by
  induction vs generalizing ds with
  | nil => cases h; exact .nil
  | cons v vs ih =>
    cases h with
    | cons a t => rw [List.reverse_cons, List.reverse_cons]; exact DpAll.app (ih t) (.cons a .nil)
theorem DpAll.ints : ∀ {vs : List V} {ns : List Int}, DpAll K H vs (ns.map PyData.int) → vs = ns.map V.int
  | vs, [], h => by cases h; rfl
  | vs, n :: ns, h => by
    rw [List.map_cons] at h
    cases h with
    | cons a t => cases a; rw [DpAll.ints t]; rfl
theorem dpa_ints : ∀ (ns : List Int), DpAll K H (ns.map V.int) (ns.map PyData.int)
  | [] => .nil
  | n :: ns => .cons (.int n) (dpa_ints ns)
theorem DpAll.bools : ∀ {vs : List V} {bs : List Bool}, DpAll K H vs (bs.map PyData.bool) → vs = bs.map V.bl
  | vs, [], h => by cases h; rfl
  | vs, b :: bs, h => by
    rw [List.map_cons] at h
    cases h with
    | cons a t => cases a; rw [DpAll.bools t]; rfl
theorem DpAll.strs : ∀ {vs : List V} {ss : List Str}, DpAll K H vs (ss.map PyData.str) → vs = ss.map V.str
  | vs, [], h => by cases h; rfl
  | vs, s :: ss, h => by
    rw [List.map_cons] at h
    cases h with
    | cons a t => cases a; rw [DpAll.strs t]; rfl
theorem dpa_strs : ∀ (ss : List Str), DpAll K H (ss.map V.str) (ss.map PyData.str)
  | [] => .nil
  | n :: ns => .cons (.str n) (dpa_strs ns)
end

/-! ### slots -/
inductive Sv where
  | un
  | d (x : PyData)
  | v (x : V)
def SvOk (K : PySem.W.Frag) (F : Hp) (o : Option V) : Sv → Prop
  | .un => True
  | .d x => ∃ v, o = some v ∧ Dp K F v x
  | .v x => o = some x
def Env (K : PySem.W.Frag) (F : Hp) : List (Option V) → List Sv → Prop
  | [], [] => True
  | o :: σ, s :: ρ => SvOk K F o s ∧ Env K F σ ρ
  | _, _ => False
section
variable {K : PySem.W.Frag} {F F2 : Hp}
theorem SvOk.ext {o : Option V} {s : Sv} (h : SvOk K F o s) (e : Ext F F2) : SvOk K F2 o s := by
  cases s with
  | un => trivial
  | d x => obtain ⟨v, h1, h2⟩ := h; exact ⟨v, h1, Dp.ext h2 e⟩
  | v x => exact h
theorem Env.ext (e : Ext F F2) : ∀ {σ : List (Option V)} {ρ : List Sv}, Env K F σ ρ → Env K F2 σ ρ
  | [], [], _ => trivial
  | _ :: _, _ :: _, h => ⟨SvOk.ext h.1 e, Env.ext e h.2⟩
  | [], _ :: _, h => h.elim
  | _ :: _, [], h => h.elim
theorem Env.get : ∀ {σ : List (Option V)} {ρ : List Sv} {i : Nat} {s : Sv}, Env K F σ ρ → ρ[i]? = some s → ∃ o, σ[i]? = some o ∧ SvOk K F o s
  | [], [], _, _, _, e => by simp at e
  | o :: σ, t :: ρ, 0, s, h, e => by
    simp at e; subst e; exact ⟨o, rfl, h.1⟩
  | o :: σ, t :: ρ, i + 1, s, h, e => by
    obtain ⟨o', h1, h2⟩ := Env.get (i := i) (s := s) h.2 (by simpa using e)
    exact ⟨o', by simpa using h1, h2⟩
  | [], _ :: _, _, _, h, _ => h.elim
  | _ :: _, [], _, _, h, _ => h.elim
theorem Env.set : ∀ {σ : List (Option V)} {ρ : List Sv} (i : Nat) {o : Option V} {s : Sv}, Env K F σ ρ → SvOk K F o s → Env K F (σ.set i o) (ρ.set i s)
  | [], [], _, _, _, _, _ => trivial
  | _ :: _, _ :: _, 0, _, _, h, q => ⟨q, h.2⟩
  | _ :: _, _ :: _, i + 1, _, _, h, q => ⟨h.1, Env.set i h.2 q⟩
  | [], _ :: _, _, _, _, h, _ => h.elim
  | _ :: _, [], _, _, _, h, _ => h.elim
theorem Env.data {σ : List (Option V)} {ρ : List Sv} {i : Nat} {d : PyData} (E : Env K F σ ρ) (h : ρ[i]? = some (.d d)) : ∃ v, σ[i]? = some (some v) ∧ Dp K F v d := by
  obtain ⟨o, h1, v, h2, h3⟩ := E.get h
  exact ⟨v, by rw [h1, h2], h3⟩
theorem Env.val {σ : List (Option V)} {ρ : List Sv} {i : Nat} {v : V} (E : Env K F σ ρ) (h : ρ[i]? = some (.v v)) : σ[i]? = some (some v) := by
  obtain ⟨o, h1, h2⟩ := E.get h
  have h2' : o = some v := h2
  rw [h1, h2']
theorem env_un : ∀ n : Nat, Env K F (List.replicate n none) (List.replicate n Sv.un)
  | 0 => trivial
  | n + 1 => ⟨trivial, env_un n⟩
theorem env_app : ∀ {σ τ : List (Option V)} {ρ π : List Sv}, Env K F σ ρ → Env K F τ π → Env K F (σ ++ τ) (ρ ++ π)
  | [], _, [], _, _, h => h
  | _ :: _, _, _ :: _, _, h, q => ⟨h.1, env_app h.2 q⟩
  | [], _, _ :: _, _, h, _ => h.elim
  | _ :: _, _, [], _, h, _ => h.elim
theorem env_args : ∀ {vs : List V} {ds : List PyData}, DpAll K F vs ds → Env K F (vs.map some) (ds.map Sv.d)
  | _, _, .nil => trivial
  | _, _, .cons h t => ⟨⟨_, rfl, h⟩, env_args t⟩
theorem env_start {N : List Str} {vs : List V} {ds : List PyData} (h : DpAll K F vs ds) : Env K F (L2.start N vs) (ds.map Sv.d ++ List.replicate (N.length - ds.length) Sv.un) := by
  unfold L2.start
  rw [DpAll.len h]
  exact env_app (env_args h) (env_un _)
end

/-! ### what evaluates to which data -/
def Ed (K : PySem.W.Frag) (te : TE) (σ : L2.St) (F H : Hp) (d : PyData) : Prop :=
  ∀ F1 H1, Gr no H F H1 F1 → ∀ Q : VK, (∀ v H2 F2, Gr no H1 F1 H2 F2 → Dp K F2 v d → Q v H2) → te σ H1 Q
/-- a value as it is, nothing made -/
def Er (te : TE) (σ : L2.St) (F H : Hp) (v : V) : Prop := ∀ F1 H1, Gr no H F H1 F1 → ∀ Q : VK, Q v H1 → te σ H1 Q
def Edt (tt : TT) (σ : L2.St) (F H : Hp) (b : Bool) : Prop :=
  ∀ F1 H1, Gr no H F H1 F1 → ∀ Q : Bool → Hp → Prop, (∀ H2 F2, Gr no H1 F1 H2 F2 → Q b H2) → tt σ H1 Q
def Eda (K : PySem.W.Frag) (ta : TA) (σ : L2.St) (F H : Hp) (ds : List PyData) : Prop :=
  ∀ F1 H1, Gr no H F H1 F1 → ∀ Q : List V → Hp → Prop, (∀ vs H2 F2, Gr no H1 F1 H2 F2 → DpAll K F2 vs ds → Q vs H2) → ta σ H1 Q
def Edo (to : TO) (σ : L2.St) (F H : Hp) (o : Option Int) : Prop :=
  ∀ F1 H1, Gr no H F H1 F1 → ∀ Q : Option Int → Hp → Prop, (∀ H2 F2, Gr no H1 F1 H2 F2 → Q o H2) → to σ H1 Q
/-- an operation on two pieces of data, a call, a slice -/
def OpD (K : PySem.W.Frag) (r : R2) (d1 d2 d : PyData) : Prop :=
  ∀ F H v1 v2, Ext F H → Dp K F v1 d1 → Dp K F v2 d2 → ∀ Q : VK, (∀ v H2 F2, Gr no H F H2 F2 → Dp K F2 v d → Q v H2) → r v1 v2 H Q
def CbD (K : PySem.W.Frag) (r : List V → Hp → VK → Prop) (ds : List PyData) (d : PyData) : Prop :=
  ∀ F H vs, Ext F H → DpAll K F vs ds → ∀ Q : VK, (∀ v H2 F2, Gr no H F H2 F2 → Dp K F2 v d → Q v H2) → r vs H Q
def SlD (K : PySem.W.Frag) (r : V → Option Int → Option Int → Hp → VK → Prop) (d1 : PyData) (lo hi : Option Int) (d : PyData) : Prop :=
  ∀ F H v1, Ext F H → Dp K F v1 d1 → ∀ Q : VK, (∀ v H2 F2, Gr no H F H2 F2 → Dp K F2 v d → Q v H2) → r v1 lo hi H Q
section
variable {K : PySem.W.Frag} {σ : L2.St} {F H : Hp} {ρ : List Sv} {ta tb te : TE} {d d1 d2 : PyData} {i : Nat}
theorem Ed.step {F2 H2 : Hp} (h : Ed K te σ F H d) (g : Gr no H F H2 F2) : Ed K te σ F2 H2 d := fun F1 H1 g1 Q q => h F1 H1 (g.tr g1) Q q
theorem ed_is (h : Ed K te σ F H d) (e : d = d1) : Ed K te σ F H d1 := e ▸ h
theorem ed_var (E : Env K F σ ρ) (h : ρ[i]? = some (.d d)) : Ed K (tVar i) σ F H d := fun F1 H1 g Q q => by
  obtain ⟨v, h1, h2⟩ := E.data h
  exact ⟨v, h1, q v H1 F1 (Gr.refl g.e) (Dp.ext h2 g.f)⟩
theorem er_var {v : V} (E : Env K F σ ρ) (h : ρ[i]? = some (.v v)) : Er (tVar i) σ F H v := fun F1 H1 g Q q => ⟨v, E.val h, q⟩
theorem ed_cI {z : Int} : Ed K (tC (.int z)) σ F H (.int z) := fun F1 H1 g Q q => q _ H1 F1 (Gr.refl g.e) (.int z)
theorem ed_cS {z : Str} : Ed K (tC (.str z)) σ F H (.str z) := fun F1 H1 g Q q => q _ H1 F1 (Gr.refl g.e) (.str z)
theorem ed_cB {z : Bool} : Ed K (tC (.bl z)) σ F H (.bool z) := fun F1 H1 g Q q => q _ H1 F1 (Gr.refl g.e) (.bl z)
theorem ed_cN : Ed K (tC .non) σ F H .none := fun F1 H1 g Q q => q _ H1 F1 (Gr.refl g.e) .non
theorem er_c {v : V} : Er (tC v) σ F H v := fun F1 H1 g Q q => q
theorem ed_op {r : R2} (ha : Ed K ta σ F H d1) (hb : Ed K tb σ F H d2) (hr : OpD K r d1 d2 d) : Ed K (tOp r ta tb) σ F H d := fun F1 H1 g Q q =>
  ha F1 H1 g _ fun v H2 F2 g2 p2 => hb F2 H2 (g.tr g2) _ fun w H3 F3 g3 p3 => hr F3 H3 v w g3.e (Dp.ext p2 g3.f) p3 Q fun z H4 F4 g4 p4 => q z H4 F4 ((g2.tr g3).tr g4) p4
theorem eda_nil : Eda K tNil σ F H [] := fun F1 H1 g Q q => q [] H1 F1 (Gr.refl g.e) .nil
theorem eda_cons {tr : TA} {ds : List PyData} (ha : Ed K ta σ F H d) (hr : Eda K tr σ F H ds) : Eda K (tCons ta tr) σ F H (d :: ds) := fun F1 H1 g Q q =>
  ha F1 H1 g _ fun v H2 F2 g2 p2 => hr F2 H2 (g.tr g2) _ fun vs H3 F3 g3 p3 => q _ H3 F3 (g2.tr g3) (.cons (Dp.ext p2 g3.f) p3)
theorem ed_tup {t : TA} {ds : List PyData} (h : Eda K t σ F H ds) (hl : ds.length ≤ 1000 := by decide) : Ed K (tTup t) σ F H (.tuple ds) := fun F1 H1 g Q q =>
  h F1 H1 g _ fun vs H2 F2 g2 p2 => ⟨by rw [DpAll.len p2]; exact Nat.le_trans hl (by decide), fun p hp => q _ _ (upd F2 p (.tup vs)) (g2.tr (Gr.new g2.e hp)) (.tup (.inl (.inl upd_same)) (DpAll.ext p2 (Ext.new (g2.e.none_of hp))))⟩
theorem ed_lst {t : TA} {ds : List PyData} (h : Eda K t σ F H ds) (hl : ds.length ≤ 1000 := by decide) : Ed K (tLst t) σ F H (.list ds) := fun F1 H1 g Q q =>
  h F1 H1 g _ fun vs H2 F2 g2 p2 => ⟨by rw [DpAll.len p2]; exact Nat.le_trans hl (by decide), fun p hp => q _ _ (upd F2 p (.lst vs)) (g2.tr (Gr.new g2.e hp)) (.lst (.inl (.inl upd_same)) (DpAll.ext p2 (Ext.new (g2.e.none_of hp))))⟩
theorem ed_cb {r : List V → Hp → VK → Prop} {t : TA} {ds : List PyData} (h : Eda K t σ F H ds) (hr : CbD K r ds d) : Ed K (tCB r t) σ F H d := fun F1 H1 g Q q =>
  h F1 H1 g _ fun vs H2 F2 g2 p2 => hr F2 H2 vs g2.e p2 Q fun z H4 F4 g4 p4 => q z H4 F4 (g2.tr g4) p4
theorem edo_none : Edo tNoPart σ F H none := fun F1 H1 g Q q => q H1 F1 (Gr.refl g.e)
theorem edo_some {z : Int} (h : Ed K te σ F H (.int z)) : Edo (tPart te) σ F H (some z) := fun F1 H1 g Q q =>
  h F1 H1 g _ fun v H2 F2 g2 p2 => by
    cases p2
    exact ⟨z, rfl, q H2 F2 g2⟩
theorem ed_sl {r : V → Option Int → Option Int → Hp → VK → Prop} {tl th : TO} {lo hi : Option Int} (h : Ed K te σ F H d1) (h1 : Edo tl σ F H lo) (h2 : Edo th σ F H hi) (hr : SlD K r d1 lo hi d) : Ed K (tSl r te tl th) σ F H d := fun F1 H1 g Q q =>
  h F1 H1 g _ fun v H2 F2 g2 p2 => h1 F2 H2 (g.tr g2) _ fun H3 F3 g3 => h2 F3 H3 ((g.tr g2).tr g3) _ fun H4 F4 g4 =>
    hr F4 H4 v g4.e (Dp.ext p2 (g3.f.tr g4.f)) Q fun z H5 F5 g5 p5 => q z H5 F5 (((g2.tr g3).tr g4).tr g5) p5
/-! tests -/
variable {t u : TT} {b c : Bool}
theorem edt_test (h : Ed K te σ F H (.bool b)) : Edt (tTest te) σ F H b := fun F1 H1 g Q q => h F1 H1 g _ fun v H2 F2 g2 p2 => by
  cases p2
  exact ⟨b, rfl, q H2 F2 g2⟩
theorem edt_B (h : Ed K te σ F H (.bool b)) : Edt (tB te) σ F H b := fun F1 H1 g Q q => h F1 H1 g _ fun v H2 F2 g2 p2 => by
  cases p2
  exact ⟨b, rfl, q H2 F2 g2⟩
theorem edt_is (h : Edt t σ F H b) (e : b = c) : Edt t σ F H c := e ▸ h
theorem edt_and (h1 : Edt t σ F H b) (h2 : b = true → Edt u σ F H c) : Edt (tAnd t u) σ F H (b && c) := fun F1 H1 g Q q => h1 F1 H1 g _ fun H2 F2 g2 => by
  cases b with
  | true => exact h2 rfl F2 H2 (g.tr g2) Q fun H3 F3 g3 => q H3 F3 (g2.tr g3)
  | false => exact q H2 F2 g2
theorem edt_or (h1 : Edt t σ F H b) (h2 : b = false → Edt u σ F H c) : Edt (tOr t u) σ F H (b || c) := fun F1 H1 g Q q => h1 F1 H1 g _ fun H2 F2 g2 => by
  cases b with
  | true => exact q H2 F2 g2
  | false => exact h2 rfl F2 H2 (g.tr g2) Q fun H3 F3 g3 => q H3 F3 (g2.tr g3)
theorem edt_not (h1 : Edt t σ F H b) : Edt (tNot t) σ F H (!b) := fun F1 H1 g Q q => h1 F1 H1 g _ fun H2 F2 g2 => q H2 F2 g2
theorem ed_andV (h1 : Ed K ta σ F H (.bool b)) (h2 : b = true → Ed K tb σ F H (.bool c)) : Ed K (tAndV ta tb) σ F H (.bool (b && c)) := fun F1 H1 g Q q => h1 F1 H1 g _ fun v H2 F2 g2 p2 => by
  cases p2
  refine ⟨b, rfl, ?_⟩
  cases b with
  | true => exact h2 rfl F2 H2 (g.tr g2) Q fun w H3 F3 g3 p3 => q w H3 F3 (g2.tr g3) p3
  | false => exact q _ H2 F2 g2 (.bl false)
theorem ed_orV (h1 : Ed K ta σ F H (.bool b)) (h2 : b = false → Ed K tb σ F H (.bool c)) : Ed K (tOrV ta tb) σ F H (.bool (b || c)) := fun F1 H1 g Q q => h1 F1 H1 g _ fun v H2 F2 g2 p2 => by
  cases p2
  refine ⟨b, rfl, ?_⟩
  cases b with
  | true => exact q _ H2 F2 g2 (.bl true)
  | false => exact h2 rfl F2 H2 (g.tr g2) Q fun w H3 F3 g3 p3 => q w H3 F3 (g2.tr g3) p3
theorem ed_notV (h1 : Ed K ta σ F H (.bool b)) : Ed K (tNotV ta) σ F H (.bool (!b)) := fun F1 H1 g Q q => h1 F1 H1 g _ fun v H2 F2 g2 p2 => by
  cases p2
  exact ⟨b, rfl, q _ H2 F2 g2 (.bl (!b))⟩
theorem ed_if (h : Edt t σ F H b) (h1 : b = true → Ed K ta σ F H d) (h2 : b = false → Ed K tb σ F H d) : Ed K (tIf t ta tb) σ F H d := fun F1 H1 g Q q => h F1 H1 g _ fun H2 F2 g2 => by
  cases b with
  | true => exact h1 rfl F2 H2 (g.tr g2) Q fun w H3 F3 g3 p3 => q w H3 F3 (g2.tr g3) p3
  | false => exact h2 rfl F2 H2 (g.tr g2) Q fun w H3 F3 g3 p3 => q w H3 F3 (g2.tr g3) p3
/-- a < b < c -/
theorem ed_chain {r r' : R2} {tc : TE} {d3 : PyData} (ha : Ed K ta σ F H d1) (hb : Ed K tb σ F H d2) (hr : OpD K r d1 d2 (.bool b)) (hc : b = true → Ed K tc σ F H d3) (hr' : b = true → OpD K r' d2 d3 (.bool c)) :
    Ed K (tChain r r' ta tb tc) σ F H (.bool (b && c)) := fun F1 H1 g Q q =>
  ha F1 H1 g _ fun v H2 F2 g2 p2 => hb F2 H2 (g.tr g2) _ fun w H3 F3 g3 p3 => hr F3 H3 v w g3.e (Dp.ext p2 g3.f) p3 _ fun z H4 F4 g4 p4 => by
    cases p4
    refine ⟨b, rfl, ?_⟩
    cases b with
    | false => exact q _ H4 F4 ((g2.tr g3).tr g4) (.bl false)
    | true => exact hc rfl F4 H4 (((g.tr g2).tr g3).tr g4) _ fun w' H5 F5 g5 p5 => hr' rfl F5 H5 w w' g5.e (Dp.ext p3 (g4.f.tr g5.f)) p5 Q fun z' H6 F6 g6 p6 => q z' H6 F6 ((((g2.tr g3).tr g4).tr g5).tr g6) p6
end

/-! ### operations -/
section
variable {K : PySem.W.Frag}
theorem od_add {a b : Int} : OpD K (rI0 fun i j => .int (i + j)) (.int a) (.int b) (.int (a + b)) := fun F H v w x h1 h2 Q q => by
  cases h1; cases h2; exact ⟨a, b, rfl, rfl, q _ H F (Gr.refl x) (.int _)⟩
theorem od_sub {a b : Int} : OpD K (rI0 fun i j => .int (i - j)) (.int a) (.int b) (.int (a - b)) := fun F H v w x h1 h2 Q q => by
  cases h1; cases h2; exact ⟨a, b, rfl, rfl, q _ H F (Gr.refl x) (.int _)⟩
theorem od_mul {a b : Int} (hc : CMul a b) : OpD K (rI CMul fun i j => .int (i * j)) (.int a) (.int b) (.int (a * b)) := fun F H v w x h1 h2 Q q => by
  cases h1; cases h2; exact ⟨a, b, rfl, rfl, hc, q _ H F (Gr.refl x) (.int _)⟩
theorem od_lt {a b : Int} : OpD K (rI0 fun i j => .bl (decide (i < j))) (.int a) (.int b) (.bool (decide (a < b))) := fun F H v w x h1 h2 Q q => by
  cases h1; cases h2; exact ⟨a, b, rfl, rfl, q _ H F (Gr.refl x) (.bl _)⟩
theorem od_le {a b : Int} : OpD K (rI0 fun i j => .bl (decide (i ≤ j))) (.int a) (.int b) (.bool (decide (a ≤ b))) := fun F H v w x h1 h2 Q q => by
  cases h1; cases h2; exact ⟨a, b, rfl, rfl, q _ H F (Gr.refl x) (.bl _)⟩
theorem od_gt {a b : Int} : OpD K (rI0 fun i j => .bl (decide (j < i))) (.int a) (.int b) (.bool (decide (b < a))) := fun F H v w x h1 h2 Q q => by
  cases h1; cases h2; exact ⟨a, b, rfl, rfl, q _ H F (Gr.refl x) (.bl _)⟩
theorem od_ge {a b : Int} : OpD K (rI0 fun i j => .bl (decide (j ≤ i))) (.int a) (.int b) (.bool (decide (b ≤ a))) := fun F H v w x h1 h2 Q q => by
  cases h1; cases h2; exact ⟨a, b, rfl, rfl, q _ H F (Gr.refl x) (.bl _)⟩
theorem od_eqI {a b : Int} : OpD K rEq (.int a) (.int b) (.bool (decide (a = b))) := fun F H v w x h1 h2 Q q => by
  cases h1; cases h2
  exact ⟨rfl, q _ H F (Gr.refl x) (by rw [show decide (V.int a = V.int b) = decide (a = b) by simp]; exact .bl _)⟩
theorem od_eqS {a b : Str} : OpD K rEq (.str a) (.str b) (.bool (decide (a = b))) := fun F H v w x h1 h2 Q q => by
  cases h1; cases h2
  exact ⟨rfl, q _ H F (Gr.refl x) (by rw [show decide (V.str a = V.str b) = decide (a = b) by simp]; exact .bl _)⟩
theorem od_neS {a b : Str} : OpD K rNe (.str a) (.str b) (.bool (!decide (a = b))) := fun F H v w x h1 h2 Q q => by
  cases h1; cases h2
  exact ⟨rfl, q _ H F (Gr.refl x) (by rw [show decide (V.str a = V.str b) = decide (a = b) by simp]; exact .bl _)⟩
theorem od_eqD {a b : PyData} (h1 : SeqAt.shaped a = true) (h2 : SeqAt.shaped b = true) : OpD K (rEqD K) a b (.bool (PyData.eqv a b)) := fun F H v w x p1 p2 Q q =>
  ⟨a, b, Dp.ext p1 x, Dp.ext p2 x, h1, h2, q _ H F (Gr.refl x) (.bl _)⟩
theorem od_inD {a : PyData} {ds : List PyData} (h1 : SeqAt.shaped a = true) (h2 : SeqAt.shaped (.list ds) = true) : OpD K (rInD K) a (.list ds) (.bool (ds.any fun z => PyData.eqv z a)) := fun F H v w x p1 p2 Q q =>
  ⟨a, ds, Dp.ext p1 x, Dp.ext p2 x, h1, h2, q _ H F (Gr.refl x) (.bl _)⟩
theorem od_notInD {a : PyData} {ds : List PyData} (h1 : SeqAt.shaped a = true) (h2 : SeqAt.shaped (.list ds) = true) : OpD K (rNotInD K) a (.list ds) (.bool (!ds.any fun z => PyData.eqv z a)) := fun F H v w x p1 p2 Q q =>
  ⟨a, ds, Dp.ext p1 x, Dp.ext p2 x, h1, h2, q _ H F (Gr.refl x) (.bl _)⟩
theorem at_of' {xs : List V} {z : Int} {j : Nat} {v : V} (e : z = (j : Int)) (h : xs[j]? = some v) : atI xs z = some v := by rw [e]; exact atI_nat h
/-- xs[i], a list or a tuple -/
theorem od_ixT {ds : List PyData} {z : Int} {j : Nat} {d : PyData} (e : z = (j : Int)) (h : ds[j]? = some d) : OpD K (rIx K) (.tuple ds) (.int z) d := fun F H v w x h1 h2 Q q => by
  cases h2
  cases h1 with
  | tup hs ha =>
    obtain ⟨v', e1, e2⟩ := DpAll.get ha h
    exact .inr (.inl ⟨_, _, z, v', rfl, rfl, sqt_ext x hs, at_of' e e1, q _ H F (Gr.refl x) e2⟩)
theorem od_ixL {ds : List PyData} {z : Int} {j : Nat} {d : PyData} (e : z = (j : Int)) (h : ds[j]? = some d) : OpD K (rIx K) (.list ds) (.int z) d := fun F H v w x h1 h2 Q q => by
  cases h2
  cases h1 with
  | lst hs ha =>
    obtain ⟨v', e1, e2⟩ := DpAll.get ha h
    exact .inl ⟨_, _, z, v', rfl, rfl, sql_ext x hs, at_of' e e1, q _ H F (Gr.refl x) e2⟩
/-- a list or a tuple of these -/
def sqD (tup : Bool) (ds : List PyData) : PyData := if tup then .tuple ds else .list ds
theorem od_ix {tp : Bool} {ds : List PyData} {z : Int} {j : Nat} {d : PyData} (e : z = (j : Int)) (h : ds[j]? = some d) : OpD K (rIx K) (sqD tp ds) (.int z) d := by
  cases tp with
  | true => exact od_ixT e h
  | false => exact od_ixL e h
/-- t + u, tuples -/
theorem od_cat {ds es : List PyData} (hl : ds.length + es.length ≤ 1000) : OpD K (rCatA K) (.tuple ds) (.tuple es) (.tuple (ds ++ es)) := fun F H v w x h1 h2 Q q => by
  cases h1 with
  | @tup a xs _ hs ha =>
    cases h2 with
    | @tup b ys _ hs2 ha2 =>
      have l1 := DpAll.len ha
      have l2 := DpAll.len ha2
      refine ⟨a, b, xs, ys, rfl, rfl, sqt_ext x hs, sqt_ext x hs2, by rw [l1, l2]; exact Nat.le_trans hl (by decide), fun e => ?_, fun _ e => ?_, fun _ _ p hp => ?_⟩
      · subst e; cases ha
        exact q _ H F (Gr.refl x) (.tup hs2 ha2)
      · subst e; cases ha2
        refine q _ H F (Gr.refl x) ?_
        rw [List.append_nil]
        exact .tup hs ha
      · exact q _ _ (upd F p (.tup (xs ++ ys))) (Gr.new x hp) (.tup (.inl (.inl upd_same)) (DpAll.ext (DpAll.app ha ha2) (Ext.new (x.none_of hp))))
def cutD (ds : List PyData) (lo hi : Option Int) : List PyData := (ds.drop (HT.sIx ds.length 0 lo)).take (HT.sIx ds.length ds.length hi - HT.sIx ds.length 0 lo)
theorem sd_tup {ds : List PyData} {lo hi : Option Int} : SlD K (rSlA K) (.tuple ds) lo hi (.tuple (cutD ds lo hi)) := fun F H v x h1 Q q => by
  cases h1 with
  | @tup a xs _ hs ha =>
    have l1 := DpAll.len ha
    refine ⟨a, xs, rfl, sqt_ext x hs, fun e => ?_, fun _ p hp => ?_⟩
    · have ec : cutD ds lo hi = ds := by
        unfold cutD
        rw [← l1, e.1, e.2, List.drop_zero, Nat.sub_zero, l1, List.take_length]
      rw [ec] at q
      exact q _ H F (Gr.refl x) (.tup hs ha)
    · refine q _ _ (upd F p (.tup (cutV xs lo hi))) (Gr.new x hp) (.tup (.inl (.inl upd_same)) (DpAll.ext ?_ (Ext.new (x.none_of hp))))
      unfold cutV cutD
      rw [l1]
      exact DpAll.take _ (DpAll.drop _ ha)
/-- len(x), list(x), tuple(x) -/
def rLenQ (K : PySem.W.Frag) : List V → Hp → VK → Prop := fun xs H Q => ∃ p ys, xs = [.ref p] ∧ (SqL K H p ys ∨ SqT K H p ys) ∧ Q (.int ys.length) H
def rListQ (K : PySem.W.Frag) : List V → Hp → VK → Prop := fun xs H Q => ∃ p ys, xs = [.ref p] ∧ (SqL K H p ys ∨ SqT K H p ys) ∧ ∀ l, H l = none → Q (.ref l) (upd H l (.lst ys))
def rTupQ (K : PySem.W.Frag) : List V → Hp → VK → Prop := fun xs H Q => ∃ p ys, xs = [.ref p] ∧ ((SqL K H p ys ∧ ∀ l, H l = none → Q (.ref l) (upd H l (.tup ys))) ∨ (SqT K H p ys ∧ Q (.ref p) H))
theorem call_lenQ {X : Cx} : CallR X (.builtin "len") (rLenQ X.K) := call_len_seq
theorem call_listQ {X : Cx} : CallR X (.type "list") (rListQ X.K) := call_list_of
theorem call_tupQ {X : Cx} : CallR X (.type "tuple") (rTupQ X.K) := call_tuple_of
theorem cd_len {tp : Bool} {ds : List PyData} : CbD K (rLenQ K) [sqD tp ds] (.int (ds.length : Int)) := fun F H vs x h Q q => by
  cases h with
  | cons h1 h2 =>
    cases h2
    cases tp with
    | true =>
      cases h1 with
      | @tup a xs _ hs ha => exact ⟨a, xs, rfl, .inr (sqt_ext x hs), by rw [DpAll.len ha]; exact q _ H F (Gr.refl x) (.int _)⟩
    | false =>
      cases h1 with
      | @lst a xs _ hs ha => exact ⟨a, xs, rfl, .inl (sql_ext x hs), by rw [DpAll.len ha]; exact q _ H F (Gr.refl x) (.int _)⟩
theorem cd_lenT {ds : List PyData} : CbD K (rLenQ K) [.tuple ds] (.int (ds.length : Int)) := cd_len (tp := true)
theorem cd_lenL {ds : List PyData} : CbD K (rLenQ K) [.list ds] (.int (ds.length : Int)) := cd_len (tp := false)
theorem cd_list {tp : Bool} {ds : List PyData} : CbD K (rListQ K) [sqD tp ds] (.list ds) := fun F H vs x h Q q => by
  cases h with
  | cons h1 h2 =>
    cases h2
    cases tp with
    | true =>
      cases h1 with
      | @tup a xs _ hs ha => exact ⟨a, xs, rfl, .inr (sqt_ext x hs), fun l hl => q _ _ (upd F l (.lst xs)) (Gr.new x hl) (.lst (.inl (.inl upd_same)) (DpAll.ext ha (Ext.new (x.none_of hl))))⟩
    | false =>
      cases h1 with
      | @lst a xs _ hs ha => exact ⟨a, xs, rfl, .inl (sql_ext x hs), fun l hl => q _ _ (upd F l (.lst xs)) (Gr.new x hl) (.lst (.inl (.inl upd_same)) (DpAll.ext ha (Ext.new (x.none_of hl))))⟩
theorem cd_tuple {tp : Bool} {ds : List PyData} : CbD K (rTupQ K) [sqD tp ds] (.tuple ds) := fun F H vs x h Q q => by
  cases h with
  | cons h1 h2 =>
    cases h2
    cases tp with
    | true =>
      cases h1 with
      | @tup a xs _ hs ha => exact ⟨a, xs, rfl, .inr ⟨sqt_ext x hs, q _ H F (Gr.refl x) (.tup hs ha)⟩⟩
    | false =>
      cases h1 with
      | @lst a xs _ hs ha => exact ⟨a, xs, rfl, .inl ⟨sql_ext x hs, fun l hl => q _ _ (upd F l (.tup xs)) (Gr.new x hl) (.tup (.inl (.inl upd_same)) (DpAll.ext ha (Ext.new (x.none_of hl))))⟩⟩
/-! isinstance -/
def tyD : PyData → String
  | .none => "NoneType"
  | .bool _ => "bool"
  | .int _ => "int"
  | .str _ => "str"
  | .list _ => "list"
  | .tuple _ => "tuple"
  | .dict _ => "dict"
theorem ty_of {F H : Hp} {v : V} {d : PyData} (x : Ext F H) (h : Dp K F v d) : TyX K H v (.type (tyD d)) := by
  cases h with
  | non => exact .base .non
  | bl b => exact .base (.bl b)
  | int i => exact .base (.int i)
  | str s => exact .base (.str s)
  | lst hs _ =>
    rcases sql_ext x hs with (h | ⟨o, h⟩) | ⟨o, its, n, hk, hc, _⟩
    · exact .base (.lst h)
    · exact .base (.frz h)
    · exact .kList hk hc
  | tup hs _ =>
    rcases sqt_ext x hs with (h | ⟨o, h⟩) | ⟨o, its, n, hk, hc, _⟩
    · exact .base (.tup h)
    · exact .fTuple h
    · exact .kTuple hk hc
/-- isinstance(x, T): T a built-in type -/
theorem ed_isi {σ : L2.St} {F H : Hp} {te : TE} {d : PyData} {T : String} {b : Bool} (h : Ed K te σ F H d) (hb : kitB (tyD d) T = some b) : Ed K (tCB (rIsi K) (tCons te (tCons (tC (.ty T)) tNil))) σ F H (.bool b) := fun F1 H1 g Q q =>
  h F1 H1 g _ fun v H2 F2 g2 p2 => ⟨v, .ty T, _, _, b, rfl, .ty T, ty_of g2.e p2, kit_ty hb, q _ H2 F2 g2 (.bl b)⟩
end
end Gb

set_option maxHeartbeats 1000000
/-! Statements, loops, lists that grow, promises: over data. -/
namespace Gb
open PySem L2

/-! ### promises -/
/-- called with the data ds it hands back the data d; nothing that stood changes -/
def spD (K : PySem.W.Frag) (R : List PyData → PyData → Prop) : Sp := fun vs H Q _ => ∃ F ds d, Ext F H ∧ DpAll K F vs ds ∧ R ds d ∧ ∀ v H2 F2, Gr no H F H2 F2 → Dp K F2 v d → Q v H2
/-- what is wanted behind a def's body -/
def Rt (K : PySem.W.Frag) (H F : Hp) (d : PyData) (Q : VK) : Prop := ∀ v H2 F2, Gr no H F H2 F2 → Dp K F2 v d → Q v H2
/-- a body's reading keeps the promise -/
def Keeps (K : PySem.W.Frag) (N : List Str) (R : List PyData → PyData → Prop) (t : TS) : Prop :=
  ∀ (H F : Hp) (vs : List V) (ds : List PyData) (d : PyData) (Q : VK), Ext F H → DpAll K F vs ds → R ds d → Rt K H F d Q → t { nx := fun _ H' => Q .non H', rt := Q } (L2.start N vs) H
section
variable {P : Program} {w : World} {K : PySem.W.Frag} {mg : Str → Option Value} {base : Heap}
theorem okD {x qual : Str} {st : Stmt} {f : Addr} {fd : FuncData} {N ps : List Str} {k : Nat} {R : List PyData → PyData → Prop} (F : Fun K x qual st f fd) (S : FnScope N ps (defScope st)) (t : TS)
    (hl : ∀ ds d, R ds d → ds.length = ps.length) (rd : Keeps K N R t)
    (dv : ∀ (cdv : Value) (A : Around) (outer : List PySem.Env) (s : Shared) (H : Hp) (E : XK), Room k (A.deeper (PyProof.Rows.envOfC qual (defScope st) s.heap.objs.size f cdv)) →
      PSs (cxOf CX0 P w K mg base N qual (defScope st) f cdv A outer s H E).nox (defBody st) t) : FnOk P w K mg base CX0 (k + 1) f fd ps (spD K R) := by
  refine F.ok S (fun vs H Q E h => ?_) (fun cdv A outer s H vs Q E hr h => ⟨t, dv cdv A outer s H E hr, ?_⟩)
  · obtain ⟨F0, ds, d, x, hd, r, _⟩ := h
    rw [DpAll.len hd]; exact hl ds d r
  · obtain ⟨F0, ds, d, x, hd, r, q⟩ := h
    exact rd H F0 vs ds d Q x hd r q
end
section
variable {K : PySem.W.Frag} {σ : L2.St} {F H H0 F0 : Hp} {ρ : List Sv} {ta tb te : TE} {d d1 d2 : PyData} {i : Nat} {D : Ends} {tz : TS}
theorem ed_call {R : List PyData → PyData → Prop} {t : TA} {ds : List PyData} {E : XK} (h : Eda K t σ F H ds) (hr : R ds d) : Ed K (tCall (spD K R) [] E t) σ F H d := fun F1 H1 g Q q =>
  h F1 H1 g _ fun vs H2 F2 g2 p2 => ⟨F2, ds, d, g2.e, by rw [List.append_nil]; exact p2, hr, fun v H3 F3 g3 p3 => q v H3 F3 (g2.tr g3) p3⟩
theorem ed_of {v : V} (h : Er te σ F H v) (p : Dp K F v d) : Ed K te σ F H d := fun F1 H1 g Q q => h F1 H1 g Q (q v H1 F1 (Gr.refl g.e) (Dp.ext p g.f))

/-! ### small statements -/
theorem st_seq {t1 t2 : TS} (h : t1 { D with nx := t2 D } σ H) : tSeq t1 t2 D σ H := h
theorem st_ret (G : Gr no H0 F0 H F) (h : Ed K te σ F H d) (q : Rt K H0 F0 d D.rt) : tRet te D σ H := h F H (Gr.refl G.e) _ fun v H2 F2 g p => q v H2 F2 (G.tr g) p
theorem st_set (G : Gr no H0 F0 H F) (E : Env K F σ ρ) (h : Ed K te σ F H d) (k : ∀ v H2 F2, Gr no H0 F0 H2 F2 → Gr no H F H2 F2 → Dp K F2 v d → Env K F2 (σ.set i (some v)) (ρ.set i (.d d)) → D.nx (σ.set i (some v)) H2) :
    tAsg te (gName i) D σ H := h F H (Gr.refl G.e) _ fun v H2 F2 g p => k v H2 F2 (G.tr g) g p (Env.set i (s := .d d) (E.ext g.f) ⟨v, rfl, p⟩)
/-- a value as it is goes into a slot -/
theorem st_setV {v : V} (G : Gr no H0 F0 H F) (E : Env K F σ ρ) (h : Er te σ F H v) (k : Env K F (σ.set i (some v)) (ρ.set i (.v v)) → D.nx (σ.set i (some v)) H) :
    tAsg te (gName i) D σ H := h F H (Gr.refl G.e) _ (k (Env.set i (s := .v v) E rfl))
theorem st_if {tc : TT} {t1 t2 : TS} {b : Bool} (G : Gr no H0 F0 H F) (h : Edt tc σ F H b) (h1 : b = true → ∀ H2 F2, Gr no H0 F0 H2 F2 → Gr no H F H2 F2 → t1 D σ H2) (h2 : b = false → ∀ H2 F2, Gr no H0 F0 H2 F2 → Gr no H F H2 F2 → t2 D σ H2) :
    tIfS tc t1 t2 D σ H := h F H (Gr.refl G.e) _ fun H2 F2 g => by
  cases b with
  | true => exact h1 rfl H2 F2 (G.tr g) g
  | false => exact h2 rfl H2 F2 (G.tr g) g
theorem st_nx (q : D.nx σ H) : tNext D σ H := q
theorem st_drop (G : Gr no H0 F0 H F) (h : Ed K te σ F H d) (k : ∀ H2 F2, Gr no H0 F0 H2 F2 → Gr no H F H2 F2 → D.nx σ H2) : tDrop te D σ H := h F H (Gr.refl G.e) _ fun v H2 F2 g p => k H2 F2 (G.tr g) g
/-- a, b = x, y: plain locals -/
theorem st_par {i j : Nat} {ta : TA} {d1 d2 : PyData} (G : Gr no H0 F0 H F) (E : Env K F σ ρ) (h : Eda K ta σ F H [d1, d2])
    (k : ∀ σ2 H2 F2, Gr no H0 F0 H2 F2 → Gr no H F H2 F2 → Env K F2 σ2 ((ρ.set i (.d d1)).set j (.d d2)) → D.nx σ2 H2) : tPar i j ta D σ H := h F H (Gr.refl G.e) _ fun vs H2 F2 g p => by
  cases p with
  | @cons v _ _ _ p1 p =>
    cases p with
    | @cons w _ _ _ p2 p =>
      cases p
      exact ⟨v, w, rfl, k _ H2 F2 (G.tr g) g (Env.set j (s := .d d2) (Env.set i (s := .d d1) (E.ext g.f) ⟨v, rfl, p1⟩) ⟨w, rfl, p2⟩)⟩

/-! ### targets that are tuples -/
theorem g_tup2 {i j : Nat} {x : V} {Q : L2.St → Hp → Prop} (p : Dp K F x (.tuple [d1, d2])) (e : Ext F H) (k : ∀ v w, Dp K F v d1 → Dp K F w d2 → Q ((σ.set i (some v)).set j (some w)) H) : gTup K 2 (gCons (gName i) (gCons (gName j) gNil)) x σ H Q := by
  cases p with
  | @tup a xs _ hs ha =>
    cases ha with
    | @cons v _ _ _ p1 ha =>
      cases ha with
      | @cons w _ _ _ p2 ha =>
        cases ha
        exact ⟨a, _, rfl, sqt_ext e hs, rfl, v, [w], rfl, w, [], rfl, rfl, k v w p1 p2⟩
theorem g_tup3 {i j l : Nat} {x : V} {d3 : PyData} {Q : L2.St → Hp → Prop} (p : Dp K F x (.tuple [d1, d2, d3])) (e : Ext F H) (k : ∀ v w u, Dp K F v d1 → Dp K F w d2 → Dp K F u d3 → Q (((σ.set i (some v)).set j (some w)).set l (some u)) H) :
    gTup K 3 (gCons (gName i) (gCons (gName j) (gCons (gName l) gNil))) x σ H Q := by
  cases p with
  | @tup a xs _ hs ha =>
    cases ha with
    | @cons v _ _ _ p1 ha =>
      cases ha with
      | @cons w _ _ _ p2 ha =>
        cases ha with
        | @cons u _ _ _ p3 ha =>
          cases ha
          exact ⟨a, _, rfl, sqt_ext e hs, rfl, v, [w, u], rfl, w, [u], rfl, u, [], rfl, rfl, k v w u p1 p2 p3⟩
/-- a, b = e, e a pair -/
theorem st_pair {i j : Nat} (G : Gr no H0 F0 H F) (E : Env K F σ ρ) (h : Ed K te σ F H (.tuple [d1, d2]))
    (k : ∀ σ2 H2 F2, Gr no H0 F0 H2 F2 → Gr no H F H2 F2 → Env K F2 σ2 ((ρ.set i (.d d1)).set j (.d d2)) → D.nx σ2 H2) : tAsg te (gTup K 2 (gCons (gName i) (gCons (gName j) gNil))) D σ H := h F H (Gr.refl G.e) _ fun v H2 F2 g p =>
  g_tup2 p g.e fun v w p1 p2 => k _ H2 F2 (G.tr g) g (Env.set j (s := .d d2) (Env.set i (s := .d d1) (E.ext g.f) ⟨v, rfl, p1⟩) ⟨w, rfl, p2⟩)

/-! ### lists that grow -/
/-- a list at l, younger than H0, that holds the data ds and may still grow -/
structure Ml (K : PySem.W.Frag) (H0 : Hp) (l : Addr) (ds : List PyData) (F H : Hp) : Prop where
  y : H0 l = none
  f : F l = none
  h : ∃ xs, H l = some (.lst xs) ∧ DpAll K F xs ds
theorem Ml.step {l : Addr} {ds : List PyData} {F2 H2 : Hp} (M : Ml K H0 l ds F H) (g : Gr no H F H2 F2) : Ml K H0 l ds F2 H2 := by
  obtain ⟨xs, h1, h2⟩ := M.h
  exact ⟨M.y, by rw [g.n l (by rw [h1]; simp)]; exact M.f, xs, g.ext l _ h1, DpAll.ext h2 g.f⟩
theorem Ml.last {l : Addr} {ds : List PyData} (M : Ml K H0 l ds F H) (G : Gr no H0 F0 H F) : ∃ F2, Ext F F2 ∧ Gr no H0 F0 H F2 ∧ Dp K F2 (.ref l) (.list ds) := by
  obtain ⟨xs, h1, h2⟩ := M.h
  exact ⟨upd F l (.lst xs), Ext.new M.f, G.last M.y M.f h1, .lst (.inl (.inl upd_same)) (DpAll.ext h2 (Ext.new M.f))⟩
/-- x = [] -/
theorem st_new {i : Nat} (G : Gr no H0 F0 H F) (E : Env K F σ ρ) (k : ∀ l H2, Gr no H0 F0 H2 F → Gr no H F H2 F → Ml K H0 l [] F H2 → H l = none → Env K F (σ.set i (some (.ref l))) (ρ.set i (.v (.ref l))) → D.nx (σ.set i (some (.ref l))) H2) :
    tAsg (tLst tNil) (gName i) D σ H := ⟨Nat.zero_le _, fun p hp => by
  have g : Gr no H F (upd H p (.lst [])) F := Gr.newM G.e hp
  have hp0 : H0 p = none := by
    cases e : H0 p with
    | none => rfl
    | some o => exact absurd hp (G.t p (by rw [e]; simp))
  exact k p _ (G.tr g) g ⟨hp0, G.e.none_of hp, [], upd_same, .nil⟩ hp (Env.set i (s := .v (.ref p)) E rfl)⟩
/-- x.append(e) -/
theorem st_app {to te : TE} {l : Addr} {ds : List PyData} (G : Gr no H0 F0 H F) (M : Ml K H0 l ds F H) (ho : Er to σ F H (.ref l)) (h : Ed K te σ F H d) (hl : ds.length ≤ 1000)
    (k : ∀ H2 F2, Gr no H0 F0 H2 F2 → Ext F F2 → Ml K H0 l (ds ++ [d]) F2 H2 → D.nx σ H2) : tDrop (tBM K "list" rAppend to (tCons te tNil)) D σ H := by
  obtain ⟨xs0, h1, _⟩ := M.h
  refine ho F H (Gr.refl G.e) _ ⟨.inl ⟨rfl, xs0, .inl (.inl h1)⟩, h F H (Gr.refl G.e) _ fun v H2 F2 g p => ?_⟩
  have M2 := M.step g
  obtain ⟨xs, h2, h3⟩ := M2.h
  have lx := DpAll.len h3
  refine ⟨l, xs, v, rfl, rfl, h2, by rw [lx]; exact small1000 (by omega), ?_⟩
  exact k _ F2 ((G.tr g).mut M.y M2.f) g.f ⟨M.y, M2.f, xs ++ [v], upd_same, DpAll.app h3 (.cons p .nil)⟩
/-- xs[i] of a growing list at a slot -/
theorem ed_ixM {l : Addr} {ds : List PyData} {ti : TE} {z : Int} {j : Nat} (M : Ml K H0 l ds F H) (ha : Er ta σ F H (.ref l)) (hi : Ed K ti σ F H (.int z)) (e : z = (j : Int)) (h : ds[j]? = some d) : Ed K (tOp (rIx K) ta ti) σ F H d := fun F1 H1 g Q q =>
  ha F1 H1 g _ (hi F1 H1 g _ fun v H2 F2 g2 p2 => by
    cases p2
    obtain ⟨xs, h2, h3⟩ := (M.step (g.tr g2)).h
    obtain ⟨v', e1, e2⟩ := DpAll.get h3 h
    exact .inl ⟨l, xs, z, v', rfl, rfl, .inl (.inl h2), at_of' e e1, q _ H2 F2 g2 e2⟩)
/-- a growing list has become data: its slot too -/
theorem Env.up {i : Nat} {v : V} (E : Env K F σ ρ) (h : ρ[i]? = some (.v v)) (p : Dp K F v d) : Env K F σ (ρ.set i (.d d)) := by
  have e := E.val h
  have q : Env K F (σ.set i (some v)) (ρ.set i (.d d)) := Env.set i (s := .d d) E ⟨v, rfl, p⟩
  have z : σ.set i (some v) = σ := by
    obtain ⟨h1, h2⟩ := List.getElem?_eq_some_iff.mp e
    rw [← h2]; exact List.set_getElem_self h1
  rw [z] at q; exact q

/-! ### for -/
theorem st_for1 {te : TE} {j : Nat} {tb : TS} {n : Int} (G : Gr no H0 F0 H F) (h : Ed K te σ F H (.int n)) (hn : 0 ≤ n ∧ n ≤ 100000)
    (k : ∀ H1 F1, Gr no H0 F0 H1 F1 → Gr no H F H1 F1 → ∃ Pv : Nat → L2.St → Hp → Prop, Pv 0 σ H1 ∧ (∀ (i : Nat) σ' H', (i : Int) < n → Pv i σ' H' → tb { D with nx := Pv (i + 1), ct := Pv (i + 1), bk := D.nx } (σ'.set j (some (.int (i : Int)))) H') ∧ ∀ σ' H', Pv n.toNat σ' H' → D.nx σ' H') :
    tFor (iRng1 (tCons te tNil)) (gName j) tb D σ H := h F H (Gr.refl G.e) _ fun v H1 F1 g p => by
  cases p
  obtain ⟨Pv, h0, hs, hd⟩ := k H1 F1 (G.tr g) g
  refine ⟨n, rfl, by omega, by omega, ?_⟩
  refine for_range (lo := 0) (n := n.toNat) Pv h0 (fun i σ' H' hi hp => ?_) hd
  show tb _ (σ'.set j (some (.int (0 + (i : Int))))) H'
  rw [Int.zero_add]
  exact hs i σ' H' (by omega) hp
theorem st_for2 {ta tb' : TE} {j : Nat} {tb : TS} {lo n : Int} (G : Gr no H0 F0 H F) (h1 : Ed K ta σ F H (.int lo)) (h2 : Ed K tb' σ F H (.int n)) (hn : 0 ≤ lo ∧ lo ≤ 100000 ∧ 0 ≤ n ∧ n ≤ 100000)
    (k : ∀ H1 F1, Gr no H0 F0 H1 F1 → Gr no H F H1 F1 → ∃ Pv : Nat → L2.St → Hp → Prop, Pv 0 σ H1 ∧ (∀ (i : Nat) σ' H', lo + (i : Int) < n → Pv i σ' H' → tb { D with nx := Pv (i + 1), ct := Pv (i + 1), bk := D.nx } (σ'.set j (some (.int (lo + (i : Int))))) H') ∧ ∀ σ' H', Pv (n - lo).toNat σ' H' → D.nx σ' H') :
    tFor (iRng2 (tCons ta (tCons tb' tNil))) (gName j) tb D σ H := h1 F H (Gr.refl G.e) _ fun v H1 F1 g p => h2 F1 H1 g _ fun w H2 F2 g2 p2 => by
  cases p
  cases p2
  obtain ⟨Pv, h0, hs, hd⟩ := k H2 F2 (G.tr (g.tr g2)) (g.tr g2)
  refine ⟨lo, n, rfl, by omega, ?_⟩
  exact for_range (lo := lo) (n := (n - lo).toNat) Pv h0 (fun i σ' H' hi hp => hs i σ' H' (by omega) hp) hd
/-- over the items of a tuple -/
theorem st_forT {te : TE} {g : TG} {tb : TS} {ds : List PyData} (G : Gr no H0 F0 H F) (h : Ed K te σ F H (.tuple ds))
    (k : ∀ H1 F1, Gr no H0 F0 H1 F1 → Gr no H F H1 F1 → ∃ Pv : Nat → L2.St → Hp → Prop, Pv 0 σ H1 ∧ (∀ i σ' H', Pv i σ' H' → Ext F1 H') ∧
      (∀ (i : Nat) d x σ' H', ds[i]? = some d → Dp K F1 x d → Pv i σ' H' → g x σ' H' fun σ2 H2 => tb { D with nx := Pv (i + 1), ct := Pv (i + 1), bk := D.nx } σ2 H2) ∧ ∀ σ' H', Pv ds.length σ' H' → D.nx σ' H') :
    tFor (iTup K te) g tb D σ H := h F H (Gr.refl G.e) _ fun v H1 F1 g1 p => by
  cases p with
  | @tup a xs _ hs ha =>
    obtain ⟨Pv, h0, hx, ht, hd⟩ := k H1 F1 (G.tr g1) g1
    refine ⟨a, rfl, ⟨xs, sqt_ext g1.e hs⟩, for_tup (K := K) (a := a) (xs := xs) Pv h0 (fun i σ' H' _ hp => sqt_ext (hx i σ' H' hp) hs) (fun i x σ' H' e hp => ?_) (fun σ' H' hp => hd σ' H' (by rw [← DpAll.len ha]; exact hp))⟩
    obtain ⟨d, e1, e2⟩ := DpAll.getV ha e
    exact ht i d x σ' H' e1 e2 hp
/-- over the items of a list -/
theorem st_forL {te : TE} {g : TG} {tb : TS} {ds : List PyData} (G : Gr no H0 F0 H F) (h : Ed K te σ F H (.list ds))
    (k : ∀ H1 F1, Gr no H0 F0 H1 F1 → Gr no H F H1 F1 → ∃ Pv : Nat → L2.St → Hp → Prop, Pv 0 σ H1 ∧ (∀ i σ' H', Pv i σ' H' → Ext F1 H') ∧
      (∀ (i : Nat) d x σ' H', ds[i]? = some d → Dp K F1 x d → Pv i σ' H' → g x σ' H' fun σ2 H2 => tb { D with nx := Pv (i + 1), ct := Pv (i + 1), bk := D.nx } σ2 H2) ∧ ∀ σ' H', Pv ds.length σ' H' → D.nx σ' H') :
    tFor (iList K te) g tb D σ H := h F H (Gr.refl G.e) _ fun v H1 F1 g1 p => by
  cases p with
  | @lst a xs _ hs ha =>
    obtain ⟨Pv, h0, hx, ht, hd⟩ := k H1 F1 (G.tr g1) g1
    refine ⟨a, rfl, ⟨xs, sql_ext g1.e hs⟩, for_list (K := K) (a := a) (xs := xs) Pv h0 (fun i σ' H' _ hp => sql_ext (hx i σ' H' hp) hs) (fun i x σ' H' e hp => ?_) (fun σ' H' hp => hd σ' H' (by rw [← DpAll.len ha]; exact hp))⟩
    obtain ⟨d, e1, e2⟩ := DpAll.getV ha e
    exact ht i d x σ' H' e1 e2 hp

/-! ### comprehensions of one name, without tests -/
def wipeS (ρ : List Sv) : List Nat → List Sv
  | [] => ρ
  | v :: vs => (wipeS ρ vs).set v .un
theorem env_wipe (E : Env K F σ ρ) : ∀ vs : List Nat, Env K F (wipe σ vs) (wipeS ρ vs)
  | [] => E
  | v :: vs => Env.set v (env_wipe E vs) trivial
theorem wipe_one (σ : L2.St) (j : Nat) (o : Option V) : wipe ((wipe σ [j]).set j o) [j] = wipe σ [j] := by
  show ((σ.set j none).set j o).set j none = σ.set j none
  rw [List.set_set, List.set_set]
/-- the turns' word: D holds the data made so far -/
def Lw (K : PySem.W.Frag) (H F : Hp) (D : Addr) (ds : List PyData) (H' : Hp) : Prop := ∃ F', Gr no H F H' F' ∧ Ml K H D ds F' H'
theorem lw_start {p : Addr} (x : Ext F H) (hp : H p = none) : Lw K H F p [] (upd H p (.lst [])) := ⟨F, Gr.newM x hp, hp, x.none_of hp, [], upd_same, .nil⟩
theorem lw_turn {p : Addr} {ds : List PyData} {H' : Hp} (h : Lw K H F p ds H') (hl : ds.length ≤ 1000) (he : ∀ F1 H1, Gr no H F H1 F1 → Ed K te σ F1 H1 d) :
    te σ H' fun y H4 => ∃ acc, H4 p = some (.lst acc) ∧ acc.length < sizeLine ∧ Lw K H F p (ds ++ [d]) (upd H4 p (.lst (acc ++ [y]))) := by
  obtain ⟨F', g, M⟩ := h
  refine he F' H' g F' H' (Gr.refl g.e) _ fun y H4 F4 g4 p4 => ?_
  have M2 := M.step g4
  obtain ⟨xs, h2, h3⟩ := M2.h
  have lx := DpAll.len h3
  exact ⟨xs, h2, by rw [lx]; exact small1000 (by omega), F4, (g.tr g4).mut M.y M2.f, M.y, M2.f, xs ++ [y], upd_same, DpAll.app h3 (.cons p4 .nil)⟩
theorem lw_end {p : Addr} {ds : List PyData} {H' : Hp} {Q : VK} (h : Lw K H F p ds H') (q : ∀ v H2 F2, Gr no H F H2 F2 → Dp K F2 v (.list ds) → Q v H2) : Q (.ref p) H' := by
  obtain ⟨F', g, M⟩ := h
  obtain ⟨F2, _, g2, p2⟩ := M.last g
  exact q _ H' F2 g2 p2
theorem ed_lcT {tl te : TE} {j : Nat} {ds : List PyData} (f : Nat → PyData → PyData) (h : Ed K tl σ F H (.tuple ds)) (hl : ds.length ≤ 1000)
    (he : ∀ i d x F1 H1, ds[i]? = some d → Gr no H F H1 F1 → Dp K F1 x d → Ed K te ((wipe σ [j]).set j (some x)) F1 H1 (f i d)) :
    Ed K (tLc (iTup K tl) (gName j) tYes te [j]) σ F H (.list (ds.mapIdx f)) := fun F1 H1 g Q q => h F1 H1 g _ fun v H2 F2 g2 p2 => by
  cases p2 with
  | @tup a xs _ hs ha =>
    refine ⟨a, rfl, ⟨xs, sqt_ext g2.e hs⟩, fun p hp => ?_⟩
    refine lc_tup (K := K) (a := a) (xs := xs) (Qd := fun H' => Q (.ref p) H') (fun i H' => Lw K H2 F2 p ((ds.mapIdx f).take i) H') (lw_start g2.e hp) (fun i H' _ ⟨F', g', _⟩ => sqt_ext g'.ext (sqt_ext g2.e hs)) (fun i x H' e hw => ?_) (fun H' hw => ?_)
    · obtain ⟨d, e1, e2⟩ := DpAll.getV ha e
      have hi : (ds.mapIdx f)[i]? = some (f i d) := by rw [List.getElem?_mapIdx, e1]; rfl
      have key := lw_turn (σ := (wipe σ [j]).set j (some x)) (te := te) (d := f i d) hw (by rw [List.length_take, List.length_mapIdx]; omega) fun F3 H3 g3 => he i d x F3 H3 e1 (g.tr (g2.tr g3)) (Dp.ext e2 g3.f)
      have et : (ds.mapIdx f).take (i + 1) = (ds.mapIdx f).take i ++ [f i d] := by rw [List.take_add_one, hi]; rfl
      rw [← et] at key
      exact ⟨wipe_one σ j _, key⟩
    · have e : (ds.mapIdx f).take xs.length = ds.mapIdx f := List.take_of_length_le (by rw [List.length_mapIdx, DpAll.len ha]; exact Nat.le_refl _)
      rw [e] at hw
      exact lw_end hw fun v H3 F3 g3 p3 => q v H3 F3 (g2.tr g3) p3
theorem ed_lcL {tl te : TE} {j : Nat} {ds : List PyData} (f : Nat → PyData → PyData) (h : Ed K tl σ F H (.list ds)) (hl : ds.length ≤ 1000)
    (he : ∀ i d x F1 H1, ds[i]? = some d → Gr no H F H1 F1 → Dp K F1 x d → Ed K te ((wipe σ [j]).set j (some x)) F1 H1 (f i d)) :
    Ed K (tLc (iList K tl) (gName j) tYes te [j]) σ F H (.list (ds.mapIdx f)) := fun F1 H1 g Q q => h F1 H1 g _ fun v H2 F2 g2 p2 => by
  cases p2 with
  | @lst a xs _ hs ha =>
    refine ⟨a, rfl, ⟨xs, sql_ext g2.e hs⟩, fun p hp => ?_⟩
    refine lc_list (K := K) (a := a) (xs := xs) (Qd := fun H' => Q (.ref p) H') (fun i H' => Lw K H2 F2 p ((ds.mapIdx f).take i) H') (lw_start g2.e hp) (fun i H' _ ⟨F', g', _⟩ => sql_ext g'.ext (sql_ext g2.e hs)) (fun i x H' e hw => ?_) (fun H' hw => ?_)
    · obtain ⟨d, e1, e2⟩ := DpAll.getV ha e
      have hi : (ds.mapIdx f)[i]? = some (f i d) := by rw [List.getElem?_mapIdx, e1]; rfl
      have key := lw_turn (σ := (wipe σ [j]).set j (some x)) (te := te) (d := f i d) hw (by rw [List.length_take, List.length_mapIdx]; omega) fun F3 H3 g3 => he i d x F3 H3 e1 (g.tr (g2.tr g3)) (Dp.ext e2 g3.f)
      have et : (ds.mapIdx f).take (i + 1) = (ds.mapIdx f).take i ++ [f i d] := by rw [List.take_add_one, hi]; rfl
      rw [← et] at key
      exact ⟨wipe_one σ j _, key⟩
    · have e : (ds.mapIdx f).take xs.length = ds.mapIdx f := List.take_of_length_le (by rw [List.length_mapIdx, DpAll.len ha]; exact Nat.le_refl _)
      rw [e] at hw
      exact lw_end hw fun v H3 F3 g3 p3 => q v H3 F3 (g2.tr g3) p3
/-- over range(n) -/
theorem ed_lcR {tn te : TE} {j : Nat} {n : Nat} (f : Nat → PyData) (h : Ed K tn σ F H (.int (n : Int))) (hl : n ≤ 1000)
    (he : ∀ (i : Nat) F1 H1, i < n → Gr no H F H1 F1 → Ed K te ((wipe σ [j]).set j (some (.int (i : Int)))) F1 H1 (f i)) :
    Ed K (tLc (iRng1 (tCons tn tNil)) (gName j) tYes te [j]) σ F H (.list ((List.range n).map f)) := fun F1 H1 g Q q => h F1 H1 g _ fun v H2 F2 g2 p2 => by
  cases p2
  refine ⟨(n : Int), rfl, by omega, by omega, fun p hp => ?_⟩
  have key := lc_range (lo := 0) (n := n) (g := gName j) (tt := tYes) (te := te) (vs := [j]) (σ := σ) (H1 := H2) (D := p) (Qd := fun H' => Q (.ref p) H') (fun i H' => Lw K H2 F2 p (((List.range n).map f).take i) H') (lw_start g2.e hp) (fun i H' hi hw => ?_) (fun H' hw => ?_)
  · simpa using key
  · have hi' : ((List.range n).map f)[i]? = some (f i) := by rw [List.getElem?_map, List.getElem?_range hi]; rfl
    have key := lw_turn (σ := (wipe σ [j]).set j (some (.int (i : Int)))) (te := te) (d := f i) hw (by rw [List.length_take, List.length_map, List.length_range]; omega) fun F3 H3 g3 => he i F3 H3 hi (g.tr (g2.tr g3))
    have et : ((List.range n).map f).take (i + 1) = ((List.range n).map f).take i ++ [f i] := by rw [List.take_add_one, hi']; rfl
    rw [← et] at key
    rw [Int.zero_add]
    exact ⟨wipe_one σ j _, key⟩
  · have e : ((List.range n).map f).take n = (List.range n).map f := List.take_of_length_le (by rw [List.length_map, List.length_range]; exact Nat.le_refl _)
    rw [e] at hw
    exact lw_end hw fun v H3 F3 g3 p3 => q v H3 F3 (g2.tr g3) p3
/-- all(xs), a list of bools -/
theorem cd_all {bs : List Bool} : CbD K (rAll K) [.list (bs.map PyData.bool)] (.bool (bs.all id)) := fun F H vs x h Q q => by
  cases h with
  | cons h1 h2 =>
    cases h2
    cases h1 with
    | @lst a xs _ hs ha =>
      have e := DpAll.bools ha
      subst e
      exact ⟨a, bs, rfl, sql_ext x hs, q _ H F (Gr.refl x) (.bl _)⟩
end
end Gb

set_option maxHeartbeats 1000000
/-! The text by places, the slots of each def, what the top has written; short names of readings. -/
namespace Gb
open PySem L2
def topS (i : Nat) : Stmt := PySem.Challenge.pw_graftbook_k07_whole_row_distances.main.body.getD i (.Pass ⟨0, 0, 0, 0⟩)
def letters : Str := "abcdefghijklmnopqrstuvwxyz"
/-- a def of the text as the top has left it -/
structure Df (K : PySem.W.Frag) (mg : Str → Option Value) (x : Str) (st : Stmt) (ps : List Str) where
  f : Addr
  fd : FuncData
  F : Fun K x x st f fd
  b : Binds K fd ps []
  g : mg x = some (.ref f)
abbrev rAddI : R2 := rI0 fun i j => .int (i + j)
abbrev rSubI : R2 := rI0 fun i j => .int (i - j)
abbrev rMulI : R2 := rI CMul fun i j => .int (i * j)
abbrev rDivI : R2 := rI CDiv fun i j => .int (i / j)
abbrev rModI : R2 := rI (fun _ j => 0 < j) fun i j => .int (i % j)
abbrev rPowI : R2 := rI CPow fun i j => .int (i ^ j.toNat)
abbrev rLtI : R2 := rI0 fun i j => .bl (decide (i < j))
abbrev rLeI : R2 := rI0 fun i j => .bl (decide (i ≤ j))
abbrev rGtI : R2 := rI0 fun i j => .bl (decide (j < i))
abbrev rGeI : R2 := rI0 fun i j => .bl (decide (j ≤ i))
abbrev rNegI : V → Hp → VK → Prop := rU fun i => .int (-i)
def rAddS : R2 := fun x y H Q => ∃ i j, x = .str i ∧ y = .str j ∧ i.length + j.length ≤ sizeLine ∧ Q (.str (i ++ j)) H
theorem op_addSQ {X : Cx} : OpR X (binaryOp .Add) rAddS := op_add_str
def rLenSQ : List V → Hp → VK → Prop := fun xs H Q => ∃ z, xs = [.str z] ∧ z.length ≤ sizeLine ∧ Q (.int z.length) H
theorem call_lenSQ {X : Cx} : CallR X (.builtin "len") rLenSQ := call_len_str
def rInSg : R2 := fun x y H Q => ∃ (c : Nat) (z : Str), x = .str ⟨#[c]⟩ ∧ y = .str z ∧ Q (.bl (decide (c ∈ z.cps.toList))) H
theorem op_inSQ {X : Cx} : OpR X (compareOp .In) rInSg := op_in_sign
def rIntQ : List V → Hp → VK → Prop := fun xs H Q => (∃ i, xs = [.int i] ∧ Q (.int i) H) ∨ ∃ k, xs = [.bl k] ∧ Q (.int (if k then 1 else 0)) H
theorem call_intQ {X : Cx} : CallR X (.type "int") rIntQ := call_int1
theorem sl_strQ {X : Cx} : SlR X rSlS := sl_str
abbrev s_is_int : Stmt := topS 7
abbrev N_is_int : List Str := ["value"]
theorem sc_is_int : FnScope N_is_int ["value"] (defScope s_is_int) := ⟨rfl, rfl, rfl, by decide +kernel, rfl, by decide +kernel, by decide +kernel⟩
abbrev s_is_between : Stmt := topS 8
abbrev N_is_between : List Str := ["value", "low", "high"]
theorem sc_is_between : FnScope N_is_between ["value", "low", "high"] (defScope s_is_between) := ⟨rfl, rfl, rfl, by decide +kernel, rfl, by decide +kernel, by decide +kernel⟩
abbrev s_is_count : Stmt := topS 9
abbrev N_is_count : List Str := ["value"]
theorem sc_is_count : FnScope N_is_count ["value"] (defScope s_is_count) := ⟨rfl, rfl, rfl, by decide +kernel, rfl, by decide +kernel, by decide +kernel⟩
abbrev s_has_size : Stmt := topS 10
abbrev N_has_size : List Str := ["value", "size"]
theorem sc_has_size : FnScope N_has_size ["value", "size"] (defScope s_has_size) := ⟨rfl, rfl, rfl, by decide +kernel, rfl, by decide +kernel, by decide +kernel⟩
abbrev s_is_word : Stmt := topS 11
abbrev N_is_word : List Str := ["value", "sign"]
theorem sc_is_word : FnScope N_is_word ["value"] (defScope s_is_word) := ⟨rfl, rfl, rfl, by decide +kernel, rfl, by decide +kernel, by decide +kernel⟩
abbrev s_are_ints : Stmt := topS 12
abbrev N_are_ints : List Str := ["value", "size", "part"]
theorem sc_are_ints : FnScope N_are_ints ["value", "size"] (defScope s_are_ints) := ⟨rfl, rfl, rfl, by decide +kernel, rfl, by decide +kernel, by decide +kernel⟩
abbrev s__are_triples : Stmt := topS 14
abbrev N__are_triples : List Str := ["table", "seen", "triple"]
theorem sc__are_triples : FnScope N__are_triples ["table"] (defScope s__are_triples) := ⟨rfl, rfl, rfl, by decide +kernel, rfl, by decide +kernel, by decide +kernel⟩
abbrev s_is_prices : Stmt := topS 15
abbrev N_is_prices : List Str := ["value", "part"]
theorem sc_is_prices : FnScope N_is_prices ["value"] (defScope s_is_prices) := ⟨rfl, rfl, rfl, by decide +kernel, rfl, by decide +kernel, by decide +kernel⟩
abbrev s_need_prices : Stmt := topS 16
abbrev N_need_prices : List Str := ["prices"]
theorem sc_need_prices : FnScope N_need_prices ["prices"] (defScope s_need_prices) := ⟨rfl, rfl, rfl, by decide +kernel, rfl, by decide +kernel, by decide +kernel⟩
abbrev s_price_between : Stmt := topS 17
abbrev N_price_between : List Str := ["prices", "word", "other", "first", "second", "price"]
theorem sc_price_between : FnScope N_price_between ["prices", "word", "other"] (defScope s_price_between) := ⟨rfl, rfl, rfl, by decide +kernel, rfl, by decide +kernel, by decide +kernel⟩
abbrev s_are_row_pairs : Stmt := topS 19
abbrev N_are_row_pairs : List Str := ["value", "first", "second", "i", "j", "pair"]
theorem sc_are_row_pairs : FnScope N_are_row_pairs ["value", "first", "second"] (defScope s_are_row_pairs) := ⟨rfl, rfl, rfl, by decide +kernel, rfl, by decide +kernel, by decide +kernel⟩
abbrev s_pairs_price : Stmt := topS 20
abbrev N_pairs_price : List Str := ["a", "b", "prices", "matching", "total", "i", "j"]
theorem sc_pairs_price : FnScope N_pairs_price ["a", "b", "prices", "matching"] (defScope s_pairs_price) := ⟨rfl, rfl, rfl, by decide +kernel, rfl, by decide +kernel, by decide +kernel⟩
abbrev s_row_price : Stmt := topS 21
abbrev N_row_price : List Str := ["a", "b", "prices", "matching"]
theorem sc_row_price : FnScope N_row_price ["a", "b", "prices", "matching"] (defScope s_row_price) := ⟨rfl, rfl, rfl, by decide +kernel, rfl, by decide +kernel, by decide +kernel⟩
abbrev s_table_ahead : Stmt := topS 22
abbrev N_table_ahead : List Str := ["a", "b", "prices", "drop", "more", "rows", "i", "row", "j", "ways"]
theorem sc_table_ahead : FnScope N_table_ahead ["a", "b", "prices"] (defScope s_table_ahead) := ⟨rfl, rfl, rfl, by decide +kernel, rfl, by decide +kernel, by decide +kernel⟩
abbrev s_row_distance : Stmt := topS 23
abbrev N_row_distance : List Str := ["a", "b", "prices"]
theorem sc_row_distance : FnScope N_row_distance ["a", "b", "prices"] (defScope s_row_distance) := ⟨rfl, rfl, rfl, by decide +kernel, rfl, by decide +kernel, by decide +kernel⟩
abbrev s__table_behind : Stmt := topS 24
abbrev N__table_behind : List Str := ["a", "b", "prices", "rows", "row"]
theorem sc__table_behind : FnScope N__table_behind ["a", "b", "prices"] (defScope s__table_behind) := ⟨rfl, rfl, rfl, by decide +kernel, rfl, by decide +kernel, by decide +kernel⟩
abbrev s__next_pairs : Stmt := topS 25
abbrev N__next_pairs : List Str := ["a", "b", "prices", "behind", "i", "j", "found", "k", "n", "price"]
theorem sc__next_pairs : FnScope N__next_pairs ["a", "b", "prices", "behind", "i", "j"] (defScope s__next_pairs) := ⟨rfl, rfl, rfl, by decide +kernel, rfl, by decide +kernel, by decide +kernel⟩
abbrev s__can_end : Stmt := topS 26
abbrev N__can_end : List Str := ["a", "b", "prices", "behind", "i", "j"]
theorem sc__can_end : FnScope N__can_end ["a", "b", "prices", "behind", "i", "j"] (defScope s__can_end) := ⟨rfl, rfl, rfl, by decide +kernel, rfl, by decide +kernel, by decide +kernel⟩
abbrev s_first_row_matching : Stmt := topS 27
abbrev N_first_row_matching : List Str := ["a", "b", "prices", "behind", "found", "i", "j", "pair"]
theorem sc_first_row_matching : FnScope N_first_row_matching ["a", "b", "prices"] (defScope s_first_row_matching) := ⟨rfl, rfl, rfl, by decide +kernel, rfl, by decide +kernel, by decide +kernel⟩
abbrev s_count_row_matchings : Stmt := topS 28
abbrev N_count_row_matchings : List Str := ["a", "b", "prices", "behind", "counts", "i", "j", "many", "k", "n"]
theorem sc_count_row_matchings : FnScope N_count_row_matchings ["a", "b", "prices"] (defScope s_count_row_matchings) := ⟨rfl, rfl, rfl, by decide +kernel, rfl, by decide +kernel, by decide +kernel⟩
abbrev s__law_mixed : Stmt := topS 30
abbrev N__law_mixed : List Str := ["_law_number", "_law_turn", "_law_many", "_law_prime", "_law_once", "_law_twice"]
theorem sc__law_mixed : FnScope N__law_mixed ["_law_number", "_law_turn", "_law_many"] (defScope s__law_mixed) := ⟨rfl, rfl, rfl, by decide +kernel, rfl, by decide +kernel, by decide +kernel⟩
abbrev s__law_pool : Stmt := topS 31
abbrev N__law_pool : List Str := ["_law_script", "_law_seed", "_law_cell", "_law_cells"]
theorem sc__law_pool : FnScope N__law_pool ["_law_script"] (defScope s__law_pool) := ⟨rfl, rfl, rfl, by decide +kernel, rfl, by decide +kernel, by decide +kernel⟩
abbrev s__law_take : Stmt := topS 32
abbrev N__law_take : List Str := ["_law_pool_here", "_law_many", "_law_drawn_here"]
theorem sc__law_take : FnScope N__law_take ["_law_pool_here", "_law_many"] (defScope s__law_take) := ⟨rfl, rfl, rfl, by decide +kernel, rfl, by decide +kernel, by decide +kernel⟩
abbrev s__law_words : Stmt := topS 33
abbrev N__law_words : List Str := ["_law_pool_here", "_law_letters", "_law_size", "_law_k", "_law_base", "_law_words_here", "_law_at", "_law_word_here"]
theorem sc__law_words : FnScope N__law_words ["_law_pool_here"] (defScope s__law_words) := ⟨rfl, rfl, rfl, by decide +kernel, rfl, by decide +kernel, by decide +kernel⟩
abbrev s__law_word : Stmt := topS 34
abbrev N__law_word : List Str := ["_law_pool_here"]
theorem sc__law_word : FnScope N__law_word ["_law_pool_here"] (defScope s__law_word) := ⟨rfl, rfl, rfl, by decide +kernel, rfl, by decide +kernel, by decide +kernel⟩
abbrev s__law_price : Stmt := topS 35
abbrev N__law_price : List Str := ["_law_pool_here"]
theorem sc__law_price : FnScope N__law_price ["_law_pool_here"] (defScope s__law_price) := ⟨rfl, rfl, rfl, by decide +kernel, rfl, by decide +kernel, by decide +kernel⟩
abbrev s__law_prices : Stmt := topS 36
abbrev N__law_prices : List Str := ["_law_pool_here", "_law_table_here", "_law_k", "_law_word_here", "_law_other", "_law_row"]
theorem sc__law_prices : FnScope N__law_prices ["_law_pool_here"] (defScope s__law_prices) := ⟨rfl, rfl, rfl, by decide +kernel, rfl, by decide +kernel, by decide +kernel⟩
abbrev s__law_change : Stmt := topS 37
abbrev N__law_change : List Str := ["_law_prices_here", "_law_word_here", "_law_other", "_law_row"]
theorem sc__law_change : FnScope N__law_change ["_law_prices_here", "_law_word_here", "_law_other"] (defScope s__law_change) := ⟨rfl, rfl, rfl, by decide +kernel, rfl, by decide +kernel, by decide +kernel⟩
abbrev s__law_is_integer : Stmt := topS 38
abbrev N__law_is_integer : List Str := ["_law_value"]
theorem sc__law_is_integer : FnScope N__law_is_integer ["_law_value"] (defScope s__law_is_integer) := ⟨rfl, rfl, rfl, by decide +kernel, rfl, by decide +kernel, by decide +kernel⟩
abbrev s__law_same : Stmt := topS 39
abbrev N__law_same : List Str := ["_law_actual", "_law_due", "_law_k"]
theorem sc__law_same : FnScope N__law_same ["_law_actual", "_law_due"] (defScope s__law_same) := ⟨rfl, rfl, rfl, by decide +kernel, rfl, by decide +kernel, by decide +kernel⟩
abbrev s__law_table : Stmt := topS 40
abbrev N__law_table : List Str := ["_law_a", "_law_b", "_law_prices_here", "_law_j", "_law_table_here", "_law_k", "_law_word_here", "_law_below", "_law_row", "_law_least", "_law_many", "_law_y", "_law_cost"]
theorem sc__law_table : FnScope N__law_table ["_law_a", "_law_b", "_law_prices_here"] (defScope s__law_table) := ⟨rfl, rfl, rfl, by decide +kernel, rfl, by decide +kernel, by decide +kernel⟩
abbrev s__law_pair : Stmt := topS 41
abbrev N__law_pair : List Str := ["_law_a", "_law_b", "_law_prices_here", "_law_table_here", "_law_i", "_law_j", "_law_x", "_law_y", "_law_cost"]
theorem sc__law_pair : FnScope N__law_pair ["_law_a", "_law_b", "_law_prices_here", "_law_table_here", "_law_i", "_law_j"] (defScope s__law_pair) := ⟨rfl, rfl, rfl, by decide +kernel, rfl, by decide +kernel, by decide +kernel⟩
abbrev s__law_first : Stmt := topS 42
abbrev N__law_first : List Str := ["_law_a", "_law_b", "_law_prices_here", "_law_table_here", "_law_found", "_law_i", "_law_j", "_law_turn", "_law_pair_here"]
theorem sc__law_first : FnScope N__law_first ["_law_a", "_law_b", "_law_prices_here", "_law_table_here"] (defScope s__law_first) := ⟨rfl, rfl, rfl, by decide +kernel, rfl, by decide +kernel, by decide +kernel⟩
abbrev s__law_drawn : Stmt := topS 43
abbrev N__law_drawn : List Str := ["_law_pool_here", "_law_a", "_law_b", "_law_found", "_law_start", "_law_i", "_law_j"]
theorem sc__law_drawn : FnScope N__law_drawn ["_law_pool_here", "_law_a", "_law_b"] (defScope s__law_drawn) := ⟨rfl, rfl, rfl, by decide +kernel, rfl, by decide +kernel, by decide +kernel⟩
abbrev s__law_spoilt : Stmt := topS 44
abbrev N__law_spoilt : List Str := ["_law_pool_here", "_law_matching", "_law_way", "_law_pair_here", "_law_at"]
theorem sc__law_spoilt : FnScope N__law_spoilt ["_law_pool_here", "_law_matching"] (defScope s__law_spoilt) := ⟨rfl, rfl, rfl, by decide +kernel, rfl, by decide +kernel, by decide +kernel⟩
abbrev s__law_is_row_matching : Stmt := topS 45
abbrev N__law_is_row_matching : List Str := ["_law_value", "_law_a", "_law_b", "_law_last", "_law_pair_here"]
theorem sc__law_is_row_matching : FnScope N__law_is_row_matching ["_law_value", "_law_a", "_law_b"] (defScope s__law_is_row_matching) := ⟨rfl, rfl, rfl, by decide +kernel, rfl, by decide +kernel, by decide +kernel⟩
abbrev s__law_odd_prices : Stmt := topS 46
abbrev N__law_odd_prices : List Str := ["_law_pool_here", "_law_prices_here", "_law_word_here", "_law_rows", "_law_odd"]
theorem sc__law_odd_prices : FnScope N__law_odd_prices ["_law_pool_here", "_law_prices_here"] (defScope s__law_odd_prices) := ⟨rfl, rfl, rfl, by decide +kernel, rfl, by decide +kernel, by decide +kernel⟩
abbrev s__law_told : Stmt := topS 47
abbrev N__law_told : List Str := ["_law_a", "_law_b", "_law_prices_here", "_law_matching", "e", "_law_right"]
theorem sc__law_told : FnScope N__law_told ["_law_a", "_law_b", "_law_prices_here", "_law_matching"] (defScope s__law_told) := ⟨rfl, rfl, rfl, by decide +kernel, rfl, by decide +kernel, by decide +kernel⟩
abbrev s__law_told_right : Stmt := topS 48
abbrev N__law_told_right : List Str := ["_law_a", "_law_b", "_law_prices_here", "_law_value", "_law_told_here", "_law_cost", "_law_i", "_law_j"]
theorem sc__law_told_right : FnScope N__law_told_right ["_law_a", "_law_b", "_law_prices_here", "_law_value"] (defScope s__law_told_right) := ⟨rfl, rfl, rfl, by decide +kernel, rfl, by decide +kernel, by decide +kernel⟩
abbrev s_law : Stmt := topS 49
abbrev N_law : List Str := ["_law_script", "_law_pool_here", "_law_prices_here", "_law_sizes", "_law_a", "_law_b", "_law_table_here", "_law_kept", "_law_first_here", "_law_drawn_here", "_law_value", "_law_odd", "_law_k"]
theorem sc_law : FnScope N_law ["_law_script"] (defScope s_law) := ⟨rfl, rfl, rfl, by decide +kernel, rfl, by decide +kernel, by decide +kernel⟩
structure Tx (K : PySem.W.Frag) (mg : Str → Option Value) where
  n_isinstance : mg "isinstance" = none
  n_int : mg "int" = none
  n_bool : mg "bool" = none
  n_str : mg "str" = none
  n_tuple : mg "tuple" = none
  n_list : mg "list" = none
  n_len : mg "len" = none
  n_all : mg "all" = none
  n_min : mg "min" = none
  n_range : mg "range" = none
  n_reversed : mg "reversed" = none
  n_repr : mg "repr" = none
  tkL : Tok
  g_LETTERS : mg "LETTERS" = some (.str letters tkL)
  tkM : Tok
  g_MOST_LETTERS : mg "MOST_LETTERS" = some (.int 8 tkM)
  d_is_int : Df K mg "is_int" s_is_int ["value"]
  d_is_between : Df K mg "is_between" s_is_between ["value", "low", "high"]
  d_is_count : Df K mg "is_count" s_is_count ["value"]
  d_has_size : Df K mg "has_size" s_has_size ["value", "size"]
  d_is_word : Df K mg "is_word" s_is_word ["value"]
  d_are_ints : Df K mg "are_ints" s_are_ints ["value", "size"]
  d__are_triples : Df K mg "_are_triples" s__are_triples ["table"]
  d_is_prices : Df K mg "is_prices" s_is_prices ["value"]
  d_need_prices : Df K mg "need_prices" s_need_prices ["prices"]
  d_price_between : Df K mg "price_between" s_price_between ["prices", "word", "other"]
  d_are_row_pairs : Df K mg "are_row_pairs" s_are_row_pairs ["value", "first", "second"]
  d_pairs_price : Df K mg "pairs_price" s_pairs_price ["a", "b", "prices", "matching"]
  d_row_price : Df K mg "row_price" s_row_price ["a", "b", "prices", "matching"]
  d_table_ahead : Df K mg "table_ahead" s_table_ahead ["a", "b", "prices"]
  d_row_distance : Df K mg "row_distance" s_row_distance ["a", "b", "prices"]
  d__table_behind : Df K mg "_table_behind" s__table_behind ["a", "b", "prices"]
  d__next_pairs : Df K mg "_next_pairs" s__next_pairs ["a", "b", "prices", "behind", "i", "j"]
  d__can_end : Df K mg "_can_end" s__can_end ["a", "b", "prices", "behind", "i", "j"]
  d_first_row_matching : Df K mg "first_row_matching" s_first_row_matching ["a", "b", "prices"]
  d_count_row_matchings : Df K mg "count_row_matchings" s_count_row_matchings ["a", "b", "prices"]
  d__law_mixed : Df K mg "_law_mixed" s__law_mixed ["_law_number", "_law_turn", "_law_many"]
  d__law_pool : Df K mg "_law_pool" s__law_pool ["_law_script"]
  d__law_take : Df K mg "_law_take" s__law_take ["_law_pool_here", "_law_many"]
  d__law_words : Df K mg "_law_words" s__law_words ["_law_pool_here"]
  d__law_word : Df K mg "_law_word" s__law_word ["_law_pool_here"]
  d__law_price : Df K mg "_law_price" s__law_price ["_law_pool_here"]
  d__law_prices : Df K mg "_law_prices" s__law_prices ["_law_pool_here"]
  d__law_change : Df K mg "_law_change" s__law_change ["_law_prices_here", "_law_word_here", "_law_other"]
  d__law_is_integer : Df K mg "_law_is_integer" s__law_is_integer ["_law_value"]
  d__law_same : Df K mg "_law_same" s__law_same ["_law_actual", "_law_due"]
  d__law_table : Df K mg "_law_table" s__law_table ["_law_a", "_law_b", "_law_prices_here"]
  d__law_pair : Df K mg "_law_pair" s__law_pair ["_law_a", "_law_b", "_law_prices_here", "_law_table_here", "_law_i", "_law_j"]
  d__law_first : Df K mg "_law_first" s__law_first ["_law_a", "_law_b", "_law_prices_here", "_law_table_here"]
  d__law_drawn : Df K mg "_law_drawn" s__law_drawn ["_law_pool_here", "_law_a", "_law_b"]
  d__law_spoilt : Df K mg "_law_spoilt" s__law_spoilt ["_law_pool_here", "_law_matching"]
  d__law_is_row_matching : Df K mg "_law_is_row_matching" s__law_is_row_matching ["_law_value", "_law_a", "_law_b"]
  d__law_odd_prices : Df K mg "_law_odd_prices" s__law_odd_prices ["_law_pool_here", "_law_prices_here"]
  d__law_told : Df K mg "_law_told" s__law_told ["_law_a", "_law_b", "_law_prices_here", "_law_matching"]
  d__law_told_right : Df K mg "_law_told_right" s__law_told_right ["_law_a", "_law_b", "_law_prices_here", "_law_value"]
  d_law : Df K mg "law" s_law ["_law_script"]
end Gb

set_option maxHeartbeats 1000000
/-! What each def computes, on data. -/
namespace Gb
open PySem L2
def isI : PyData → Bool
  | .int _ => true
  | _ => false
def betw : PyData → Int → Int → Bool
  | .int i, lo, hi => decide (lo ≤ i) && decide (i ≤ hi)
  | _, _, _ => false
def isC : PyData → Bool
  | .int i => decide (0 ≤ i)
  | _ => false
def hasSz : PyData → Int → Bool
  | .tuple ds, n => decide ((ds.length : Int) = n)
  | _, _ => false
def wordOk (z : Str) : Bool := (decide (1 ≤ z.length) && decide (z.length ≤ 8)) && z.cps.toList.all fun c => decide (c ∈ letters.cps.toList)
def isW : PyData → Bool
  | .str z => wordOk z
  | _ => false
def areIs : PyData → Int → Bool
  | .tuple ds, n => decide ((ds.length : Int) = n) && ds.all isI
  | _, _ => false
mutual
/-- of moderate size -/
def sm : PyData → Bool
  | .none => true
  | .bool _ => true
  | .int _ => true
  | .str z => decide (z.length ≤ 1000)
  | .list ds => decide (ds.length ≤ 1000) && smAll ds
  | .tuple ds => decide (ds.length ≤ 1000) && smAll ds
  | .dict _ => false
def smAll : List PyData → Bool
  | [] => true
  | d :: ds => sm d && smAll ds
end
theorem smAll_get : ∀ {ds : List PyData} {i : Nat} {d : PyData}, smAll ds = true → ds[i]? = some d → sm d = true
  | [], _, _, _, e => by simp at e
  | x :: ds, 0, d, h, e => by
    simp at e; subst e
    rw [smAll, Bool.and_eq_true] at h; exact h.1
  | x :: ds, i + 1, d, h, e => by
    rw [smAll, Bool.and_eq_true] at h
    exact smAll_get h.2 (by simpa using e)
theorem sm_tup {ds : List PyData} (h : sm (.tuple ds) = true) : ds.length ≤ 1000 ∧ smAll ds = true := by
  rw [sm, Bool.and_eq_true, decide_eq_true_eq] at h; exact h
theorem sm_lst {ds : List PyData} (h : sm (.list ds) = true) : ds.length ≤ 1000 ∧ smAll ds = true := by
  rw [sm, Bool.and_eq_true, decide_eq_true_eq] at h; exact h
/-- prices -/
structure Pr where
  dr : Int
  ad : Int
  ch : Int
  tab : List (Str × Str × Int)
def triD (t : Str × Str × Int) : PyData := .tuple [.str t.1, .str t.2.1, .int t.2.2]
def prD (p : Pr) : PyData := .tuple [.int p.dr, .int p.ad, .int p.ch, .tuple (p.tab.map triD)]
def lookT : List (Str × Str × Int) → Str → Str → Int → Int
  | [], _, _, c => c
  | t :: r, w, o, c => if t.1 = w ∧ t.2.1 = o then t.2.2 else lookT r w o c
def chg (p : Pr) (w o : Str) : Int := if w = o then 0 else lookT p.tab w o p.ch
def R_is_int (ds : List PyData) (d : PyData) : Prop := ∃ x, ds = [x] ∧ d = .bool (isI x)
def R_is_between (ds : List PyData) (d : PyData) : Prop := ∃ x lo hi, ds = [x, .int lo, .int hi] ∧ d = .bool (betw x lo hi)
def R_is_count (ds : List PyData) (d : PyData) : Prop := ∃ x, ds = [x] ∧ d = .bool (isC x)
def R_has_size (ds : List PyData) (d : PyData) : Prop := ∃ x n, ds = [x, .int n] ∧ d = .bool (hasSz x n)
def R_is_word (ds : List PyData) (d : PyData) : Prop := ∃ x, sm x = true ∧ ds = [x] ∧ d = .bool (isW x)
def R_are_ints (ds : List PyData) (d : PyData) : Prop := ∃ x n, sm x = true ∧ ds = [x, .int n] ∧ d = .bool (areIs x n)
def R_price_between (ds : List PyData) (d : PyData) : Prop := ∃ p w o, ds = [prD p, .str w, .str o] ∧ d = .int (chg p w o)
abbrev sp_is_int (K : PySem.W.Frag) : Sp := spD K R_is_int
abbrev sp_is_between (K : PySem.W.Frag) : Sp := spD K R_is_between
abbrev sp_is_count (K : PySem.W.Frag) : Sp := spD K R_is_count
abbrev sp_has_size (K : PySem.W.Frag) : Sp := spD K R_has_size
abbrev sp_is_word (K : PySem.W.Frag) : Sp := spD K R_is_word
abbrev sp_are_ints (K : PySem.W.Frag) : Sp := spD K R_are_ints
abbrev sp_price_between (K : PySem.W.Frag) : Sp := spD K R_price_between
/-! weakening of slots -/
def Wk : List Sv → List Sv → Prop
  | [], [] => True
  | a :: r, b :: r2 => (b = .un ∨ a = b) ∧ Wk r r2
  | _, _ => False
theorem Env.weak {K : PySem.W.Frag} {F : Hp} : ∀ {σ : List (Option V)} {ρ ρ2 : List Sv}, Env K F σ ρ → Wk ρ ρ2 → Env K F σ ρ2
  | [], [], [], _, _ => trivial
  | _ :: _, _ :: _, _ :: _, h, w => ⟨by
      rcases w.1 with e | e
      · rw [e]; trivial
      · rw [← e]; exact h.1, Env.weak h.2 w.2⟩
  | [], _ :: _, _, h, _ => h.elim
  | _ :: _, [], _, h, _ => h.elim
  | [], [], _ :: _, _, w => w.elim
  | _ :: _, _ :: _, [], _, w => w.elim
end Gb

set_option maxHeartbeats 1000000
/-! Further rules over data. -/
namespace Gb
open PySem L2
section
variable {K : PySem.W.Frag} {σ : L2.St} {F H H0 F0 : Hp} {ρ : List Sv} {ta tb te : TE} {d d1 d2 : PyData} {i : Nat} {D : Ends} {tz : TS}
theorem mapIdx_c (g : PyData → PyData) (ds : List PyData) : ds.mapIdx (fun _ d => g d) = ds.map g := by
  apply List.ext_getElem?
  intro i
  rw [List.getElem?_mapIdx, List.getElem?_map]
theorem ed_lcT1 {tl te : TE} {j : Nat} {ds : List PyData} (f : PyData → PyData) (h : Ed K tl σ F H (.tuple ds)) (hl : ds.length ≤ 1000)
    (he : ∀ (i : Nat) d x F1 H1, ds[i]? = some d → Gr no H F H1 F1 → Dp K F1 x d → Ed K te ((wipe σ [j]).set j (some x)) F1 H1 (f d)) :
    Ed K (tLc (iTup K tl) (gName j) tYes te [j]) σ F H (.list (ds.map f)) := by
  rw [← mapIdx_c]
  exact ed_lcT (fun _ d => f d) h hl he
theorem ed_lcL1 {tl te : TE} {j : Nat} {ds : List PyData} (f : PyData → PyData) (h : Ed K tl σ F H (.list ds)) (hl : ds.length ≤ 1000)
    (he : ∀ (i : Nat) d x F1 H1, ds[i]? = some d → Gr no H F H1 F1 → Dp K F1 x d → Ed K te ((wipe σ [j]).set j (some x)) F1 H1 (f d)) :
    Ed K (tLc (iList K tl) (gName j) tYes te [j]) σ F H (.list (ds.map f)) := by
  rw [← mapIdx_c]
  exact ed_lcL (fun _ d => f d) h hl he
/-- over the signs of a text -/
theorem ed_lcS {tl te : TE} {j : Nat} {z : Str} (f : Nat → PyData) (h : Ed K tl σ F H (.str z)) (hl : z.length ≤ 1000)
    (he : ∀ (i c : Nat) F1 H1, z.cps[i]? = some c → Gr no H F H1 F1 → Ed K te ((wipe σ [j]).set j (some (.str ⟨#[c]⟩))) F1 H1 (f c)) :
    Ed K (tLc (iStr tl) (gName j) tYes te [j]) σ F H (.list (z.cps.toList.map f)) := fun F1 H1 g Q q => h F1 H1 g _ fun v H2 F2 g2 p2 => by
  cases p2
  refine ⟨z, rfl, fun p hp => ?_⟩
  have hz : z.cps.size = z.length := rfl
  have ll : (z.cps.toList.map f).length = z.cps.size := by simp
  refine ⟨fun i m H' => m = z.cps.size - i ∧ i ≤ z.cps.size ∧ Lw K H2 F2 p ((z.cps.toList.map f).take i) H', ⟨z.cps.size, by simp, Nat.zero_le _, lw_start g2.e hp⟩, ?_⟩
  rintro i m H' ⟨rfl, hi, hw⟩
  by_cases hlt : i < z.cps.size
  · have hc : z.cps[i]? = some z.cps[i] := by simp [hlt]
    refine .inr ⟨hlt, fun H' => Lw K H2 F2 p ((z.cps.toList.map f).take (i + 1)) H', fun H3 h3 => ⟨z.cps.size - (i + 1), by omega, rfl, hlt, h3⟩, fun x H3 hy => ?_⟩
    obtain ⟨rfl, c, e, rfl⟩ := hy
    have hi' : (z.cps.toList.map f)[i]? = some (f c) := by rw [List.getElem?_map, Array.getElem?_toList, e]; rfl
    have key := lw_turn (σ := (wipe σ [j]).set j (some (.str ⟨#[c]⟩))) (te := te) (d := f c) hw (by rw [List.length_take, ll]; omega) fun F3 H3 g3 => he i c F3 H3 e (g.tr (g2.tr g3))
    have et : (z.cps.toList.map f).take (i + 1) = (z.cps.toList.map f).take i ++ [f c] := by rw [List.take_add_one, hi']; rfl
    rw [← et] at key
    exact ⟨wipe_one σ j _, key⟩
  · have e : (z.cps.toList.map f).take i = z.cps.toList.map f := List.take_of_length_le (by rw [ll]; omega)
    rw [e] at hw
    exact .inl ⟨by show z.cps.size ≤ i; omega, lw_end hw fun v H3 F3 g3 p3 => q v H3 F3 (g2.tr g3) p3⟩
theorem cd_lenS {z : Str} (h : z.length ≤ 1000) : CbD K rLenSQ [.str z] (.int (z.length : Int)) := fun F H vs x p Q q => by
  cases p with
  | cons h1 h2 =>
    cases h2
    cases h1
    exact ⟨z, rfl, Nat.le_trans h (by decide), q _ H F (Gr.refl x) (.int _)⟩
theorem od_inSg {c : Nat} {z : Str} : OpD K rInSg (.str ⟨#[c]⟩) (.str z) (.bool (decide (c ∈ z.cps.toList))) := fun F H v w x h1 h2 Q q => by
  cases h1; cases h2
  exact ⟨c, z, rfl, rfl, q _ H F (Gr.refl x) (.bl _)⟩
theorem od_addS {a b : Str} (h : a.length + b.length ≤ 1000) : OpD K rAddS (.str a) (.str b) (.str (a ++ b)) := fun F H v w x h1 h2 Q q => by
  cases h1; cases h2
  exact ⟨a, b, rfl, rfl, Nat.le_trans h (by decide), q _ H F (Gr.refl x) (.str _)⟩
/-- e in a growing list -/
theorem ed_inM {l : Addr} {ds : List PyData} {tl : TE} {a : PyData} (M : Ml K H0 l ds F H) (ha : Ed K ta σ F H a) (hl : Er tl σ F H (.ref l)) (h1 : SeqAt.shaped a = true) (h2 : SeqAt.shaped (.list ds) = true) :
    Ed K (tOp (rInD K) ta tl) σ F H (.bool (ds.any fun z => PyData.eqv z a)) := fun F1 H1 g Q q => ha F1 H1 g _ fun v H2 F2 g2 p2 => hl F2 H2 (g.tr g2) _ (by
  obtain ⟨xs, h3, h4⟩ := (M.step (g.tr g2)).h
  exact ⟨a, ds, Dp.ext p2 g2.e, .lst (.inl (.inl h3)) (DpAll.ext h4 g2.e), h1, h2, q _ H2 F2 g2 (.bl _)⟩)
/-- a slot of the environment by its place in a block -/
theorem env_blk {j : Nat} {x : V} {F1 : Hp} (E : Env K F σ ρ) (e : Ext F F1) (p : Dp K F1 x d) : Env K F1 ((wipe σ [j]).set j (some x)) ((wipeS ρ [j]).set j (.d d)) :=
  Env.set j (s := .d d) (env_wipe (E.ext e) [j]) ⟨x, rfl, p⟩
end
end Gb

set_option maxHeartbeats 1000000
namespace Gb
open PySem L2
local macro_rules | `(tactic| walk_at "wk") => `(tactic| (repeat' (first | exact trivial | exact Or.inl rfl | exact Or.inr rfl | apply And.intro)))
section
variable {P : Program} {w : World} {K : PySem.W.Frag} {mg : Str → Option Value} {base : Heap}
def isB : PyData → Bool
  | .bool _ => true
  | _ => false
def isS : PyData → Bool
  | .str _ => true
  | _ => false
def isTu : PyData → Bool
  | .tuple _ => true
  | _ => false
theorem k_int_none : kitB "NoneType" "int" = some false := by decide +kernel
theorem k_int_bool : kitB "bool" "int" = some true := by decide +kernel
theorem k_int_int : kitB "int" "int" = some true := by decide +kernel
theorem k_int_str : kitB "str" "int" = some false := by decide +kernel
theorem k_int_list : kitB "list" "int" = some false := by decide +kernel
theorem k_int_tuple : kitB "tuple" "int" = some false := by decide +kernel
theorem k_int_dict : kitB "dict" "int" = some false := by decide +kernel
theorem kit_int : ∀ x : PyData, kitB (tyD x) "int" = some (isI x || isB x)
  | .none => k_int_none
  | .bool b => k_int_bool
  | .int i => k_int_int
  | .str z => k_int_str
  | .list l => k_int_list
  | .tuple l => k_int_tuple
  | .dict l => k_int_dict
theorem k_bool_none : kitB "NoneType" "bool" = some false := by decide +kernel
theorem k_bool_bool : kitB "bool" "bool" = some true := by decide +kernel
theorem k_bool_int : kitB "int" "bool" = some false := by decide +kernel
theorem k_bool_str : kitB "str" "bool" = some false := by decide +kernel
theorem k_bool_list : kitB "list" "bool" = some false := by decide +kernel
theorem k_bool_tuple : kitB "tuple" "bool" = some false := by decide +kernel
theorem k_bool_dict : kitB "dict" "bool" = some false := by decide +kernel
theorem kit_bool : ∀ x : PyData, kitB (tyD x) "bool" = some (isB x)
  | .none => k_bool_none
  | .bool b => k_bool_bool
  | .int i => k_bool_int
  | .str z => k_bool_str
  | .list l => k_bool_list
  | .tuple l => k_bool_tuple
  | .dict l => k_bool_dict
theorem k_str_none : kitB "NoneType" "str" = some false := by decide +kernel
theorem k_str_bool : kitB "bool" "str" = some false := by decide +kernel
theorem k_str_int : kitB "int" "str" = some false := by decide +kernel
theorem k_str_str : kitB "str" "str" = some true := by decide +kernel
theorem k_str_list : kitB "list" "str" = some false := by decide +kernel
theorem k_str_tuple : kitB "tuple" "str" = some false := by decide +kernel
theorem k_str_dict : kitB "dict" "str" = some false := by decide +kernel
theorem kit_str : ∀ x : PyData, kitB (tyD x) "str" = some (isS x)
  | .none => k_str_none
  | .bool b => k_str_bool
  | .int i => k_str_int
  | .str z => k_str_str
  | .list l => k_str_list
  | .tuple l => k_str_tuple
  | .dict l => k_str_dict
theorem k_tuple_none : kitB "NoneType" "tuple" = some false := by decide +kernel
theorem k_tuple_bool : kitB "bool" "tuple" = some false := by decide +kernel
theorem k_tuple_int : kitB "int" "tuple" = some false := by decide +kernel
theorem k_tuple_str : kitB "str" "tuple" = some false := by decide +kernel
theorem k_tuple_list : kitB "list" "tuple" = some false := by decide +kernel
theorem k_tuple_tuple : kitB "tuple" "tuple" = some true := by decide +kernel
theorem k_tuple_dict : kitB "dict" "tuple" = some false := by decide +kernel
theorem kit_tuple : ∀ x : PyData, kitB (tyD x) "tuple" = some (isTu x)
  | .none => k_tuple_none
  | .bool b => k_tuple_bool
  | .int i => k_tuple_int
  | .str z => k_tuple_str
  | .list l => k_tuple_list
  | .tuple l => k_tuple_tuple
  | .dict l => k_tuple_dict
/-! ### is_int -/
def t_is_int (K : PySem.W.Frag) : TS :=
  (tRet (tAndV (tCB (rIsi K) (tCons (tVar 0) (tCons (tC (.ty "int")) tNil))) (tNotV (tCB (rIsi K) (tCons (tVar 0) (tCons (tC (.ty "bool")) tNil))))))

theorem rd_is_int : Keeps K N_is_int R_is_int (t_is_int K) := by
  intro H F vs ds d Q x hd h q
  obtain ⟨a, rfl, rfl⟩ := h
  have E := env_start (N := N_is_int) hd
  refine st_ret (Gr.refl x) ?_ q
  exact ed_is (ed_andV (ed_isi (ed_var E rfl) (kit_int a)) fun _ => ed_notV (ed_isi (ed_var E rfl) (kit_bool a))) (by cases a <;> rfl)
theorem len_is_int (ds : List PyData) (d : PyData) (h : R_is_int ds d) : ds.length = 1 := by obtain ⟨_, h⟩ := h; rw [h.1]; rfl
theorem dv_is_int (T : Tx K mg) (cdv : Value) (A : Around) (outer : List PySem.Env) (s : Shared) (H : Hp) (E : XK) (hr : Room 0 (A.deeper (PyProof.Rows.envOfC "is_int" (defScope s_is_int) s.heap.objs.size T.d_is_int.f cdv))) :
    PSs (cxOf CX0 P w K mg base N_is_int "is_int" (defScope s_is_int) T.d_is_int.f cdv A outer s H E).nox (defBody s_is_int) (t_is_int K) := by
  exact (pss_one (ps_ret (pe_and (pe_callB call_isi (by rfl) T.n_isinstance (by decide +kernel) (pa_cons (pv 0) (pa_cons (pe_bltn (v := .ty "int") (by rfl) T.n_int (by decide +kernel) rfl) pa_nil))) (pe_one (pe_not (pe_callB call_isi (by rfl) T.n_isinstance (by decide +kernel) (pa_cons (pv 0) (pa_cons (pe_bltn (v := .ty "bool") (by rfl) T.n_bool (by decide +kernel) rfl) pa_nil))))))))

theorem ok_is_int (T : Tx K mg) : FnOk P w K mg base CX0 1 T.d_is_int.f T.d_is_int.fd ["value"] (sp_is_int K) :=
  okD T.d_is_int.F sc_is_int (t_is_int K) len_is_int rd_is_int (fun cdv A outer s H E hr => dv_is_int T cdv A outer s H E hr)

/-! ### is_between -/
def t_is_between (K : PySem.W.Frag) : TS :=
  (tRet (tAndV (tCall (sp_is_int K) [] E0 (tCons (tVar 0) tNil)) (tChain rLeI rLeI (tVar 1) (tVar 0) (tVar 2))))

theorem rd_is_between : Keeps K N_is_between R_is_between (t_is_between K) := by
  intro H F vs ds d Q x hd h q
  obtain ⟨a, lo, hi, rfl, rfl⟩ := h
  have E := env_start (N := N_is_between) hd
  refine st_ret (Gr.refl x) ?_ q
  cases a with
  | int i => exact ed_is (ed_andV (c := decide (lo ≤ i) && decide (i ≤ hi)) (ed_call (eda_cons (ed_var E rfl) eda_nil) ⟨_, rfl, rfl⟩) fun _ => ed_chain (ed_var E rfl) (ed_var E rfl) od_le (fun _ => ed_var E rfl) (fun _ => od_le)) rfl
  | _ => exact ed_is (ed_andV (c := false) (ed_call (eda_cons (ed_var E rfl) eda_nil) ⟨_, rfl, rfl⟩) fun z => nomatch z) rfl
theorem len_is_between (ds : List PyData) (d : PyData) (h : R_is_between ds d) : ds.length = 3 := by obtain ⟨_, h⟩ := h; obtain ⟨_, _, h, _⟩ := h; rw [h]; rfl
theorem dv_is_between (T : Tx K mg) (cdv : Value) (A : Around) (outer : List PySem.Env) (s : Shared) (H : Hp) (E : XK) (hr : Room 1 (A.deeper (PyProof.Rows.envOfC "is_between" (defScope s_is_between) s.heap.objs.size T.d_is_between.f cdv))) :
    PSs (cxOf CX0 P w K mg base N_is_between "is_between" (defScope s_is_between) T.d_is_between.f cdv A outer s H E).nox (defBody s_is_between) (t_is_between K) := by
  exact (pss_one (ps_ret (pe_and (pe_call (ok_is_int T) (hr.mono (by decide)) (by rfl) T.d_is_int.g T.d_is_int.F.kp T.d_is_int.b .nil pass0 (pa_cons (pv 0) pa_nil)) (pe_one (pe_chain op_le op_le (pv 1) (pv 0) (pv 2))))))

theorem ok_is_between (T : Tx K mg) : FnOk P w K mg base CX0 2 T.d_is_between.f T.d_is_between.fd ["value", "low", "high"] (sp_is_between K) :=
  okD T.d_is_between.F sc_is_between (t_is_between K) len_is_between rd_is_between (fun cdv A outer s H E hr => dv_is_between T cdv A outer s H E hr)

/-! ### is_count -/
def t_is_count (K : PySem.W.Frag) : TS :=
  (tRet (tAndV (tCall (sp_is_int K) [] E0 (tCons (tVar 0) tNil)) (tOp rGeI (tVar 0) (tC (.int 0)))))

theorem rd_is_count : Keeps K N_is_count R_is_count (t_is_count K) := by
  intro H F vs ds d Q x hd h q
  obtain ⟨a, rfl, rfl⟩ := h
  have E := env_start (N := N_is_count) hd
  refine st_ret (Gr.refl x) ?_ q
  cases a with
  | int i => exact ed_is (ed_andV (c := decide (0 ≤ i)) (ed_call (eda_cons (ed_var E rfl) eda_nil) ⟨_, rfl, rfl⟩) fun _ => ed_op (ed_var E rfl) ed_cI od_ge) rfl
  | _ => exact ed_is (ed_andV (c := false) (ed_call (eda_cons (ed_var E rfl) eda_nil) ⟨_, rfl, rfl⟩) fun z => nomatch z) rfl
theorem len_is_count (ds : List PyData) (d : PyData) (h : R_is_count ds d) : ds.length = 1 := by obtain ⟨_, h⟩ := h; rw [h.1]; rfl
theorem dv_is_count (T : Tx K mg) (cdv : Value) (A : Around) (outer : List PySem.Env) (s : Shared) (H : Hp) (E : XK) (hr : Room 1 (A.deeper (PyProof.Rows.envOfC "is_count" (defScope s_is_count) s.heap.objs.size T.d_is_count.f cdv))) :
    PSs (cxOf CX0 P w K mg base N_is_count "is_count" (defScope s_is_count) T.d_is_count.f cdv A outer s H E).nox (defBody s_is_count) (t_is_count K) := by
  exact (pss_one (ps_ret (pe_and (pe_call (ok_is_int T) (hr.mono (by decide)) (by rfl) T.d_is_int.g T.d_is_int.F.kp T.d_is_int.b .nil pass0 (pa_cons (pv 0) pa_nil)) (pe_one (pe_cmpR op_ge (pv 0) pe_int (nomark _))))))

theorem ok_is_count (T : Tx K mg) : FnOk P w K mg base CX0 2 T.d_is_count.f T.d_is_count.fd ["value"] (sp_is_count K) :=
  okD T.d_is_count.F sc_is_count (t_is_count K) len_is_count rd_is_count (fun cdv A outer s H E hr => dv_is_count T cdv A outer s H E hr)

/-! ### has_size -/
def t_has_size (K : PySem.W.Frag) : TS :=
  (tRet (tAndV (tCB (rIsi K) (tCons (tVar 0) (tCons (tC (.ty "tuple")) tNil))) (tOp rEq (tCB (rLenQ K) (tCons (tVar 0) tNil)) (tVar 1))))

theorem rd_has_size : Keeps K N_has_size R_has_size (t_has_size K) := by
  intro H F vs ds d Q x hd h q
  obtain ⟨a, n, rfl, rfl⟩ := h
  have E := env_start (N := N_has_size) hd
  refine st_ret (Gr.refl x) ?_ q
  cases a with
  | tuple es => exact ed_is (ed_andV (c := decide ((es.length : Int) = n)) (ed_isi (ed_var E rfl) (kit_tuple _)) fun _ => ed_op (ed_cb (eda_cons (ed_var E rfl) eda_nil) cd_lenT) (ed_var E rfl) od_eqI) rfl
  | _ => exact ed_is (ed_andV (c := false) (ed_isi (ed_var E rfl) (kit_tuple _)) fun z => nomatch z) rfl
theorem len_has_size (ds : List PyData) (d : PyData) (h : R_has_size ds d) : ds.length = 2 := by obtain ⟨_, h⟩ := h; obtain ⟨_, h, _⟩ := h; rw [h]; rfl
theorem dv_has_size (T : Tx K mg) (cdv : Value) (A : Around) (outer : List PySem.Env) (s : Shared) (H : Hp) (E : XK) (hr : Room 0 (A.deeper (PyProof.Rows.envOfC "has_size" (defScope s_has_size) s.heap.objs.size T.d_has_size.f cdv))) :
    PSs (cxOf CX0 P w K mg base N_has_size "has_size" (defScope s_has_size) T.d_has_size.f cdv A outer s H E).nox (defBody s_has_size) (t_has_size K) := by
  exact (pss_one (ps_ret (pe_and (pe_callB call_isi (by rfl) T.n_isinstance (by decide +kernel) (pa_cons (pv 0) (pa_cons (pe_bltn (v := .ty "tuple") (by rfl) T.n_tuple (by decide +kernel) rfl) pa_nil))) (pe_one (pe_cmpR op_eq (pe_callB call_lenQ (by rfl) T.n_len (by decide +kernel) (pa_cons (pv 0) pa_nil)) (pv 1) (nomark _))))))

theorem ok_has_size (T : Tx K mg) : FnOk P w K mg base CX0 1 T.d_has_size.f T.d_has_size.fd ["value", "size"] (sp_has_size K) :=
  okD T.d_has_size.F sc_has_size (t_has_size K) len_has_size rd_has_size (fun cdv A outer s H E hr => dv_has_size T cdv A outer s H E hr)

end
end Gb

set_option maxHeartbeats 1000000
namespace Gb
open PySem L2
local macro_rules | `(tactic| walk_at "wk") => `(tactic| (repeat' (first | exact trivial | exact Or.inl rfl | exact Or.inr rfl | apply And.intro)))
section
variable {P : Program} {w : World} {K : PySem.W.Frag} {mg : Str → Option Value} {base : Heap}
/-! ### is_word -/
def t_is_word (K : PySem.W.Frag) : TS :=
  (tSeq (tIfS (tOr (tNot (tB (tCB (rIsi K) (tCons (tVar 0) (tCons (tC (.ty "str")) tNil))))) (tNot (tTest (tChain rLeI rLeI (tC (.int 1)) (tCB rLenSQ (tCons (tVar 0) tNil)) (tC (.int 8)))))) (tRet (tC (.bl false))) tNext)
  (tRet (tCB (rAll K) (tCons (tLc (iStr (tVar 0)) (gName 1) tYes (tOp rInSg (tVar 1) (tC (.str letters))) [1]) tNil))))

theorem rd_is_word : Keeps K N_is_word R_is_word (t_is_word K) := by
  intro H F vs ds d Q x hd h q
  obtain ⟨a, hs, rfl, rfl⟩ := h
  have E := env_start (N := N_is_word) hd
  cases a with
  | str z =>
    have hz : z.length ≤ 1000 := by rw [sm, decide_eq_true_eq] at hs; exact hs
    refine st_seq (st_if (b := (!true) || (!(decide ((1 : Int) ≤ (z.length : Int)) && decide ((z.length : Int) ≤ 8)))) (Gr.refl x) (edt_or (edt_not (edt_B (ed_isi (ed_var E rfl) (kit_str _)))) fun _ =>
      edt_not (edt_test (ed_chain (ed_cI (K := K)) (ed_cb (eda_cons (ed_var E rfl) eda_nil) (cd_lenS hz)) od_le (fun _ => (ed_cI (K := K))) (fun _ => od_le)))) (fun h H2 F2 G g => ?_) (fun h H2 F2 G g => ?_))
    · refine st_ret G (ed_cB (K := K)) ?_
      have e : isW (.str z) = false := by
        show ((decide (1 ≤ z.length) && decide (z.length ≤ 8)) && _) = false
        have h' : (decide (1 ≤ z.length) && decide (z.length ≤ 8)) = false := by
          simp only [Bool.not_true, Bool.false_or, Bool.not_eq_true', Bool.and_eq_false_iff, decide_eq_false_iff_not] at h ⊢
          omega
        rw [h', Bool.false_and]
      rw [e] at q
      exact q
    · have E := E.ext g.f
      refine st_ret G (ed_is (ed_cb (eda_cons (ed_is (ed_lcS (fun c => .bool (decide (c ∈ letters.cps.toList))) (ed_var E rfl) hz fun i c F1 H1 e g1 =>
        ed_op (ed_var (env_blk E g1.f (.str _)) rfl) ed_cS od_inSg) (show _ = PyData.list ((z.cps.toList.map fun c => decide (c ∈ letters.cps.toList)).map PyData.bool) by rw [List.map_map]; rfl)) eda_nil) cd_all) ?_) q
      show PyData.bool _ = PyData.bool ((decide (1 ≤ z.length) && decide (z.length ≤ 8)) && _)
      have h' : (decide (1 ≤ z.length) && decide (z.length ≤ 8)) = true := by
        simp only [Bool.not_true, Bool.false_or, Bool.not_eq_false', Bool.and_eq_true, decide_eq_true_eq] at h ⊢
        omega
      rw [h', Bool.true_and, List.all_map]
      rfl
  | _ =>
    refine st_seq (st_if (b := (!false) || false) (Gr.refl x) (edt_or (edt_not (edt_B (ed_isi (ed_var E rfl) (kit_str _)))) fun z => nomatch z) (fun h H2 F2 G g => st_ret G (ed_cB (K := K)) q) (fun h => nomatch h))
theorem len_is_word (ds : List PyData) (d : PyData) (h : R_is_word ds d) : ds.length = 1 := by obtain ⟨_, _, h, _⟩ := h; rw [h]; rfl
theorem dv_is_word (T : Tx K mg) (cdv : Value) (A : Around) (outer : List PySem.Env) (s : Shared) (H : Hp) (E : XK) (hr : Room 0 (A.deeper (PyProof.Rows.envOfC "is_word" (defScope s_is_word) s.heap.objs.size T.d_is_word.f cdv))) :
    PSs (cxOf CX0 P w K mg base N_is_word "is_word" (defScope s_is_word) T.d_is_word.f cdv A outer s H E).nox (defBody s_is_word) (t_is_word K) := by
  exact (pss_cons (ps_if (PW.pt (pw_or (pt_not (pt_val (pe_callB call_isi (by rfl) T.n_isinstance (by decide +kernel) (pa_cons (pv 0) (pa_cons (pe_bltn (v := .ty "str") (by rfl) T.n_str (by decide +kernel) rfl) pa_nil))))) (pw_or1 (pt_not (pt_chain op_le op_le pe_int (pe_callB call_lenSQ (by rfl) T.n_len (by decide +kernel) (pa_cons (pv 0) pa_nil)) (pe_glob (by rfl) T.g_MOST_LETTERS ⟨_, rfl⟩)))))) (pss_one (ps_ret pe_bl)) pss_nil)
  (pss_one (ps_ret (pe_callB (cr_all rfl) (by rfl) T.n_all (by decide +kernel) (pa_cons (pe_lc (own := [("sign", 1)]) (g := gName 1) (tt := tYes) rfl sc_is_word.nd (pi_str (pv 0)) (blkOk_by (own := [("sign", 1)]) (N := N_is_word) (sc := defScope s_is_word) (by decide +kernel)) (fun _ _ _ _ _ => pg_name (i := 1) sc_is_word.nd rfl (Or.inl rfl)) (fun _ _ _ _ _ => pts_nil) (fun _ _ _ _ _ => (pe_cmpR op_inSQ (pv 1) (pe_glob (by rfl) T.g_LETTERS ⟨_, rfl⟩) (by rfl)))) pa_nil)))))

theorem ok_is_word (T : Tx K mg) : FnOk P w K mg base CX0 1 T.d_is_word.f T.d_is_word.fd ["value"] (sp_is_word K) :=
  okD T.d_is_word.F sc_is_word (t_is_word K) len_is_word rd_is_word (fun cdv A outer s H E hr => dv_is_word T cdv A outer s H E hr)

/-! ### are_ints -/
def t_are_ints (K : PySem.W.Frag) : TS :=
  (tRet (tAndV (tCall (sp_has_size K) [] E0 (tCons (tVar 0) (tCons (tVar 1) tNil))) (tCB (rAll K) (tCons (tLc (iTup K (tVar 0)) (gName 2) tYes (tCall (sp_is_int K) [] E0 (tCons (tVar 2) tNil)) [2]) tNil))))

theorem rd_are_ints : Keeps K N_are_ints R_are_ints (t_are_ints K) := by
  intro H F vs ds d Q x hd h q
  obtain ⟨a, n, hs, rfl, rfl⟩ := h
  have E := env_start (N := N_are_ints) hd
  refine st_ret (Gr.refl x) ?_ q
  cases a with
  | tuple es =>
    obtain ⟨h1, h2⟩ := sm_tup hs
    refine ed_andV (c := es.all isI) (ed_call (eda_cons (ed_var E rfl) (eda_cons (ed_var E rfl) eda_nil)) ⟨_, _, rfl, rfl⟩) fun _ => ?_
    refine ed_is (ed_cb (eda_cons (ed_is (ed_lcT1 (fun d => .bool (isI d)) (ed_var E rfl) h1 fun i d x F1 H1 e g1 p =>
      ed_call (eda_cons (ed_var (env_blk E g1.f p) rfl) eda_nil) ⟨_, rfl, rfl⟩) (show _ = PyData.list ((es.map isI).map PyData.bool) by rw [List.map_map]; rfl)) eda_nil) cd_all) ?_
    rw [List.all_map]
    rfl
  | _ => exact ed_is (ed_andV (c := false) (ed_call (eda_cons (ed_var E rfl) (eda_cons (ed_var E rfl) eda_nil)) ⟨_, _, rfl, rfl⟩) fun z => nomatch z) rfl
theorem len_are_ints (ds : List PyData) (d : PyData) (h : R_are_ints ds d) : ds.length = 2 := by obtain ⟨_, _, _, h, _⟩ := h; rw [h]; rfl
theorem dv_are_ints (T : Tx K mg) (cdv : Value) (A : Around) (outer : List PySem.Env) (s : Shared) (H : Hp) (E : XK) (hr : Room 1 (A.deeper (PyProof.Rows.envOfC "are_ints" (defScope s_are_ints) s.heap.objs.size T.d_are_ints.f cdv))) :
    PSs (cxOf CX0 P w K mg base N_are_ints "are_ints" (defScope s_are_ints) T.d_are_ints.f cdv A outer s H E).nox (defBody s_are_ints) (t_are_ints K) := by
  exact (pss_one (ps_ret (pe_and (pe_call (ok_has_size T) (hr.mono (by decide)) (by rfl) T.d_has_size.g T.d_has_size.F.kp T.d_has_size.b .nil pass0 (pa_cons (pv 0) (pa_cons (pv 1) pa_nil))) (pe_one (pe_callB (cr_all rfl) (by rfl) T.n_all (by decide +kernel) (pa_cons (pe_lc (own := [("part", 2)]) (g := gName 2) (tt := tYes) rfl sc_are_ints.nd (pi_tup (pv 0)) (blkOk_by (own := [("part", 2)]) (N := N_are_ints) (sc := defScope s_are_ints) (by decide +kernel)) (fun _ _ _ _ _ => pg_name (i := 2) sc_are_ints.nd rfl (Or.inl rfl)) (fun _ _ _ _ _ => pts_nil) (fun _ _ _ _ _ => (pe_call (ok_is_int T) (hr.mono (by decide)) (by rfl) T.d_is_int.g T.d_is_int.F.kp T.d_is_int.b .nil pass0 (pa_cons (pv 2) pa_nil)))) pa_nil))))))

theorem ok_are_ints (T : Tx K mg) : FnOk P w K mg base CX0 2 T.d_are_ints.f T.d_are_ints.fd ["value", "size"] (sp_are_ints K) :=
  okD T.d_are_ints.F sc_are_ints (t_are_ints K) len_are_ints rd_are_ints (fun cdv A outer s H E hr => dv_are_ints T cdv A outer s H E hr)

end
/-! ### the triples -/
def triOk : PyData → Option (Str × Str)
  | .tuple [.str x, .str y, .int c] => if (wordOk x && wordOk y && decide (0 ≤ c)) = true then some (x, y) else none
  | _ => none
def goTri (seen : List (Str × Str)) : List PyData → Bool
  | [] => true
  | t :: r => match triOk t with
    | none => false
    | some p => if (decide (p.1 = p.2) || decide (p ∈ seen)) = true then false else goTri (seen ++ [p]) r
def areTri : PyData → Bool
  | .tuple ds => goTri [] ds
  | _ => false
def isPr : PyData → Bool
  | .tuple [a, b, c, t] => (isC a && (isC b && isC c)) && areTri t
  | _ => false
def R__are_triples (ds : List PyData) (d : PyData) : Prop := ∃ x, sm x = true ∧ ds = [x] ∧ d = .bool (areTri x)
def R_is_prices (ds : List PyData) (d : PyData) : Prop := ∃ x, sm x = true ∧ ds = [x] ∧ d = .bool (isPr x)
abbrev sp__are_triples (K : PySem.W.Frag) : Sp := spD K R__are_triples
abbrev sp_is_prices (K : PySem.W.Frag) : Sp := spD K R_is_prices
def prS (p : Str × Str) : PyData := .tuple [.str p.1, .str p.2]
theorem un65 {k : Nat} {A : Around} (r : Room k A) : A.units + 65 < cLine := by have := r.un; omega
theorem letters_ok : ∀ c ∈ letters.cps.toList, c < 0x110000 := by decide +kernel
theorem word_strOk {z : Str} (h : wordOk z = true) : PyData.strOk z = true := by
  unfold wordOk at h
  rw [Bool.and_eq_true] at h
  have h2 := List.all_eq_true.mp h.2
  unfold PyData.strOk
  rw [← Array.all_toList, List.all_eq_true]
  intro c hc
  exact decide_eq_true (letters_ok c (of_decide_eq_true (h2 c hc)))
def pOk (p : Str × Str) : Prop := PyData.strOk p.1 = true ∧ PyData.strOk p.2 = true
theorem prS_lay0 (p : Str × Str) (h : pOk p) : PyData.canLay0 (prS p) = true := by
  simp only [prS, PyData.canLay0, PyData.canLayAll0, h.1, h.2, Bool.and_self]
theorem prS_dep (p : Str × Str) : (prS p).depth = 1 := by simp [prS, PyData.depth, PyData.depthAll]
theorem prS_shaped (p : Str × Str) (h : pOk p) : SeqAt.shaped (prS p) = true := by
  show (PyData.canLay0 (prS p) && decide (PyData.depth (prS p) ≤ 64)) = true
  rw [prS_lay0 p h, prS_dep]; rfl
theorem prS_lay : ∀ l : List (Str × Str), (∀ p ∈ l, pOk p) → PyData.canLayAll0 (l.map prS) = true ∧ PyData.depthAll (l.map prS) ≤ 1
  | [], _ => by simp [PyData.canLayAll0, PyData.depthAll]
  | p :: l, h => by
    obtain ⟨h1, h2⟩ := prS_lay l (fun q hq => h q (List.mem_cons_of_mem _ hq))
    rw [List.map_cons]
    constructor
    · simp only [PyData.canLayAll0, h1, prS_lay0 p (h p List.mem_cons_self), Bool.and_self]
    · have e : PyData.depthAll (prS p :: l.map prS) = max (prS p).depth (PyData.depthAll (l.map prS)) := by simp [PyData.depthAll]
      rw [e, prS_dep]; omega
theorem prSs_shaped (l : List (Str × Str)) (h : ∀ p ∈ l, pOk p) : SeqAt.shaped (.list (l.map prS)) = true := by
  obtain ⟨h1, h2⟩ := prS_lay l h
  have e : (PyData.list (l.map prS)).depth = PyData.depthAll (l.map prS) + 1 := by simp [PyData.depth]
  show (PyData.canLay0 (.list (l.map prS)) && decide (PyData.depth (.list (l.map prS)) ≤ 64)) = true
  rw [Bool.and_eq_true]
  exact ⟨by simp only [PyData.canLay0]; exact h1, decide_eq_true (by rw [e]; omega)⟩
theorem prS_eqv (p q : Str × Str) : PyData.eqv (prS p) (prS q) = decide (p = q) := by
  obtain ⟨a, b⟩ := p
  obtain ⟨a', b'⟩ := q
  have h : PyData.eqv (prS (a, b)) (prS (a', b')) = (decide (a = a') && decide (b = b')) := by
    simp only [prS, PyData.eqv, PyData.eqvAll, Bool.and_true]
    rfl
  rw [h]
  by_cases h1 : a = a'
  · by_cases h2 : b = b'
    · subst h1; subst h2; simp
    · simp [h2]
  · simp [h1]
theorem prS_any : ∀ (l : List (Str × Str)) (p : Str × Str), ((l.map prS).any fun z => PyData.eqv z (prS p)) = decide (p ∈ l)
  | [], p => by simp
  | a :: l, p => by
    rw [List.map_cons, List.any_cons, prS_any l p, prS_eqv]
    by_cases h1 : a = p
    · subst h1; simp
    · have h2 : ¬ p = a := fun e => h1 e.symm
      by_cases h3 : p ∈ l
      · simp [h1, h3]
      · simp [h1, h2, h3]
section
variable {P : Program} {w : World} {K : PySem.W.Frag} {mg : Str → Option Value} {base : Heap}
/-! ### _are_triples -/
def t__are_triples (K : PySem.W.Frag) : TS :=
  (tSeq (tIfS (tNot (tB (tCB (rIsi K) (tCons (tVar 0) (tCons (tC (.ty "tuple")) tNil))))) (tRet (tC (.bl false))) tNext)
  (tSeq (tAsg (tLst tNil) (gName 1))
  (tSeq (tFor (iTup K (tVar 0)) (gName 2)
    (tSeq (tIfS (tOr (tNot (tB (tCall (sp_has_size K) [] E0 (tCons (tVar 2) (tCons (tC (.int 3)) tNil))))) (tOr (tNot (tB (tCall (sp_is_word K) [] E0 (tCons (tOp (rIx K) (tVar 2) (tC (.int 0))) tNil)))) (tOr (tNot (tB (tCall (sp_is_word K) [] E0 (tCons (tOp (rIx K) (tVar 2) (tC (.int 1))) tNil)))) (tNot (tB (tCall (sp_is_count K) [] E0 (tCons (tOp (rIx K) (tVar 2) (tC (.int 2))) tNil))))))) (tRet (tC (.bl false))) tNext)
  (tSeq (tIfS (tOr (tTest (tOp rEq (tOp (rIx K) (tVar 2) (tC (.int 0))) (tOp (rIx K) (tVar 2) (tC (.int 1))))) (tTest (tOp (rInD K) (tSl (rSlA K) (tVar 2) tNoPart (tPart (tC (.int 2)))) (tVar 1)))) (tRet (tC (.bl false))) tNext)
  (tDrop (tBM K "list" rAppend (tVar 1) (tCons (tSl (rSlA K) (tVar 2) tNoPart (tPart (tC (.int 2)))) tNil))))))
  (tRet (tC (.bl true))))))

theorem rd__are_triples : Keeps K N__are_triples R__are_triples (t__are_triples K) := by
  intro H F vs ds d Q x hd h q
  obtain ⟨a, hs, rfl, rfl⟩ := h
  have E := env_start (N := N__are_triples) hd
  cases a with
  | tuple es =>
    obtain ⟨hl, ha⟩ := sm_tup hs
    refine st_seq (st_if (b := !true) (Gr.refl x) (edt_not (edt_B (ed_isi (ed_var E rfl) (kit_tuple _)))) (fun h => nomatch h) (fun h H2 F2 G g => ?_))
    have E := E.ext g.f
    refine st_seq (st_new G E fun l H3 G3 g3 M3 _ E3 => ?_)
    refine st_seq (st_forT G3 (ed_var E3 rfl) fun H4 F4 G4 g4 => ⟨fun i σ' H' => ∃ F' seen, Gr no H F H' F' ∧ Ext F4 F' ∧ Env K F' σ' [.d (.tuple es), .v (.ref l), .un] ∧ Ml K H l (seen.map prS) F' H' ∧
      goTri seen (es.drop i) = goTri [] es ∧ seen.length = i ∧ (∀ p ∈ seen, pOk p), ?_, ?_, ?_, ?_⟩)
    · exact ⟨F4, [], G4, Ext.rfl', E3.ext g4.f, M3.step g4, rfl, rfl, fun _ h => nomatch h⟩
    · rintro i σ' H' ⟨F', seen, G', e', _⟩
      exact e'.tr G'.e
    · rintro i t v σ' H' e p ⟨F', seen, G', e', E', M', hg, hn, hp⟩
      have st : sm t = true := smAll_get ha e
      have il : i < es.length := (List.getElem?_eq_some_iff.mp e).1
      have hdr : es.drop i = t :: es.drop (i + 1) := by
        obtain ⟨h1, h2⟩ := List.getElem?_eq_some_iff.mp e
        rw [List.drop_eq_getElem_cons h1, h2]
      rw [hdr] at hg
      have E5 : Env K F' (σ'.set 2 (some v)) [.d (.tuple es), .v (.ref l), .d t] := Env.set 2 (s := .d t) E' ⟨v, rfl, Dp.ext p e'⟩
      have bad : triOk t = none → Rt K H F (.bool (areTri (.tuple es))) Q → Rt K H F (.bool false) Q := fun hb q => by
        have e0 : goTri [] es = false := by
          rw [← hg]
          show (match triOk t with | none => false | some p => _) = false
          rw [hb]
        have e1 : areTri (.tuple es) = false := e0
        rw [e1] at q
        exact q
      show tSeq _ _ _ _ _
      by_cases hz : hasSz t 3 = true
      · obtain ⟨a, b, c, rfl⟩ : ∃ a b c, t = .tuple [a, b, c] := by
          cases t with
          | tuple l =>
            have hz' : (l.length : Int) = 3 := of_decide_eq_true hz
            match l, hz' with
            | [a, b, c], _ => exact ⟨a, b, c, rfl⟩
          | _ => cases hz
        have sa : sm a = true := smAll_get (sm_tup st).2 (i := 0) rfl
        have sb : sm b = true := smAll_get (sm_tup st).2 (i := 1) rfl
        have sc : sm c = true := smAll_get (sm_tup st).2 (i := 2) rfl
        refine st_seq (st_if (b := (!true) || ((!isW a) || ((!isW b) || (!isC c)))) G' (edt_or (edt_not (edt_B (ed_call (eda_cons (ed_var E5 rfl) (eda_cons (ed_cI (K := K)) eda_nil)) ⟨_, _, rfl, by rw [hz]⟩))) fun _ =>
          edt_or (edt_not (edt_B (ed_call (eda_cons (ed_op (ed_var E5 rfl) (ed_cI (K := K)) (od_ixT (j := 0) rfl rfl)) eda_nil) ⟨_, sa, rfl, rfl⟩))) fun _ =>
          edt_or (edt_not (edt_B (ed_call (eda_cons (ed_op (ed_var E5 rfl) (ed_cI (K := K)) (od_ixT (j := 1) rfl rfl)) eda_nil) ⟨_, sb, rfl, rfl⟩))) fun _ =>
          edt_not (edt_B (ed_call (eda_cons (ed_op (ed_var E5 rfl) (ed_cI (K := K)) (od_ixT (j := 2) rfl rfl)) eda_nil) ⟨_, rfl, rfl⟩))) (fun h H6 F6 G6 g6 => ?_) (fun h H6 F6 G6 g6 => ?_))
        · refine st_ret G6 (ed_cB (K := K)) (bad ?_ q)
          unfold triOk
          split
          · rename_i x y n heq
            injection heq with heq
            injection heq with e1 heq
            injection heq with e2 heq
            injection heq with e3 _
            subst e1 e2 e3
            rw [if_neg]
            intro z
            rw [Bool.and_eq_true, Bool.and_eq_true] at z
            have h' : ((!wordOk x) || ((!wordOk y) || (!decide (0 ≤ n)))) = true := h
            rw [z.1.1, z.1.2, z.2] at h'
            cases h'
          · rfl
        · have h' : isW a = true ∧ isW b = true ∧ isC c = true := by
            simpa using h
          obtain ⟨h1, h2, h3⟩ := h'
          obtain ⟨x, rfl⟩ : ∃ x, a = .str x := by cases a <;> first | exact ⟨_, rfl⟩ | cases h1
          obtain ⟨y, rfl⟩ : ∃ y, b = .str y := by cases b <;> first | exact ⟨_, rfl⟩ | cases h2
          obtain ⟨n, rfl⟩ : ∃ n, c = .int n := by cases c <;> first | exact ⟨_, rfl⟩ | cases h3
          have ht : triOk (.tuple [.str x, .str y, .int n]) = some (x, y) := by
            have z : (wordOk x && wordOk y && decide (0 ≤ n)) = true := by
              have h1' : wordOk x = true := h1
              have h2' : wordOk y = true := h2
              have h3' : decide (0 ≤ n) = true := h3
              rw [h1', h2', h3']; rfl
            show (if (wordOk x && wordOk y && decide (0 ≤ n)) = true then some (x, y) else none) = _
            rw [if_pos z]
          have hxy : pOk (x, y) := ⟨word_strOk h1, word_strOk h2⟩
          have E6 := E5.ext g6.f
          have M6 := M'.step g6
          have hsl : ∀ {F1 H1 : Hp}, Gr no H6 F6 H1 F1 → Ed K (tSl (rSlA K) (tVar 2) tNoPart (tPart (tC (.int 2)))) (σ'.set 2 (some v)) F1 H1 (prS (x, y)) := fun {F1 H1} g1 =>
            ed_is (ed_sl (ed_var (E6.ext g1.f) rfl) edo_none (edo_some (ed_cI (K := K))) sd_tup) rfl
          refine st_seq (st_if (b := decide (x = y) || decide ((x, y) ∈ seen)) G6 (edt_or (edt_test (ed_op (ed_op (ed_var E6 rfl) (ed_cI (K := K)) (od_ixT (j := 0) rfl rfl)) (ed_op (ed_var E6 rfl) (ed_cI (K := K)) (od_ixT (j := 1) rfl rfl)) od_eqS)) fun _ =>
            edt_is (edt_test (ed_inM M6 (hsl (Gr.refl G6.e)) (er_var E6 rfl) (prS_shaped _ hxy) (prSs_shaped _ hp))) (prS_any seen (x, y))) (fun h H7 F7 G7 g7 => ?_) (fun h H7 F7 G7 g7 => ?_))
          · refine st_ret G7 (ed_cB (K := K)) ?_
            have e0 : goTri [] es = false := by
              rw [← hg]
              show (match triOk (.tuple [.str x, .str y, .int n]) with | none => false | some p => if (decide (p.1 = p.2) || decide (p ∈ seen)) = true then false else goTri (seen ++ [p]) (es.drop (i + 1))) = false
              rw [ht]
              exact if_pos h
            have e1 : areTri (.tuple es) = false := e0
            rw [e1] at q
            exact q
          · refine st_app G7 (M6.step g7) (er_var (E6.ext g7.f) rfl) (hsl g7) (by rw [List.length_map]; omega) fun H8 F8 G8 e8 M8 => ?_
            refine ⟨F8, seen ++ [(x, y)], G8, ((e'.tr g6.f).tr g7.f).tr e8, ((E6.ext g7.f).ext e8).weak (by walk_at "wk"), by rw [List.map_append]; exact M8, ?_, by rw [List.length_append, List.length_singleton]; omega, fun p h => ?_⟩
            rw [← hg]
            show _ = (match triOk (.tuple [.str x, .str y, .int n]) with | none => false | some p => if (decide (p.1 = p.2) || decide (p ∈ seen)) = true then false else goTri (seen ++ [p]) (es.drop (i + 1)))
            rw [ht]
            show _ = if (decide (x = y) || decide ((x, y) ∈ seen)) = true then false else goTri (seen ++ [(x, y)]) (es.drop (i + 1))
            rw [if_neg (by rw [h]; exact Bool.false_ne_true)]
            rcases List.mem_append.mp h with h | h
            · exact hp p h
            · rw [List.mem_singleton.mp h]; exact hxy
      · have hz' : hasSz t 3 = false := by simpa using hz
        refine st_seq (st_if (b := (!false) || false) G' (edt_or (edt_not (edt_B (ed_call (eda_cons (ed_var E5 rfl) (eda_cons (ed_cI (K := K)) eda_nil)) ⟨_, _, rfl, by rw [hz']⟩))) fun z => nomatch z) (fun h H6 F6 G6 g6 => ?_) (fun h => nomatch h))
        refine st_ret G6 (ed_cB (K := K)) (bad ?_ q)
        unfold triOk
        split
        · exact absurd rfl hz
        · rfl
    · rintro σ' H' ⟨F', seen, G', e', E', M', hg, hn, hp⟩
      dsimp only
      refine st_ret G' (ed_cB (K := K)) ?_
      rw [List.drop_length] at hg
      have e1 : areTri (.tuple es) = true := hg.symm
      rw [e1] at q
      exact q
  | _ =>
    refine st_seq (st_if (b := !false) (Gr.refl x) (edt_not (edt_B (ed_isi (ed_var E rfl) (kit_tuple _)))) (fun h H2 F2 G g => st_ret G (ed_cB (K := K)) q) (fun h => nomatch h))
theorem len__are_triples (ds : List PyData) (d : PyData) (h : R__are_triples ds d) : ds.length = 1 := by obtain ⟨_, _, h, _⟩ := h; rw [h]; rfl
theorem dv__are_triples (T : Tx K mg) (cdv : Value) (A : Around) (outer : List PySem.Env) (s : Shared) (H : Hp) (E : XK) (hr : Room 2 (A.deeper (PyProof.Rows.envOfC "_are_triples" (defScope s__are_triples) s.heap.objs.size T.d__are_triples.f cdv))) :
    PSs (cxOf CX0 P w K mg base N__are_triples "_are_triples" (defScope s__are_triples) T.d__are_triples.f cdv A outer s H E).nox (defBody s__are_triples) (t__are_triples K) := by
  exact (pss_cons (ps_if (pt_not (pt_val (pe_callB call_isi (by rfl) T.n_isinstance (by decide +kernel) (pa_cons (pv 0) (pa_cons (pe_bltn (v := .ty "tuple") (by rfl) T.n_tuple (by decide +kernel) rfl) pa_nil))))) (pss_one (ps_ret pe_bl)) pss_nil)
  (pss_cons (ps_set (i := 1) sc__are_triples.nd rfl (Or.inl rfl) (pe_lst pa_nil))
  (pss_cons (ps_for PassesOwn.never rfl (pi_tup (pv 0)) (pg_name (i := 2) sc__are_triples.nd rfl (Or.inl rfl))
    (pss_cons (ps_if (PW.pt (pw_or (pt_not (pt_val (pe_call (ok_has_size T) (hr.mono (by decide)) (by rfl) T.d_has_size.g T.d_has_size.F.kp T.d_has_size.b .nil pass0 (pa_cons (pv 2) (pa_cons pe_int pa_nil))))) (pw_or (pt_not (pt_val (pe_call (ok_is_word T) (hr.mono (by decide)) (by rfl) T.d_is_word.g T.d_is_word.F.kp T.d_is_word.b .nil pass0 (pa_cons (pe_ix ix_seq (pv 2) pe_int (fun _ _ => rfl)) pa_nil)))) (pw_or (pt_not (pt_val (pe_call (ok_is_word T) (hr.mono (by decide)) (by rfl) T.d_is_word.g T.d_is_word.F.kp T.d_is_word.b .nil pass0 (pa_cons (pe_ix ix_seq (pv 2) pe_int (fun _ _ => rfl)) pa_nil)))) (pw_or1 (pt_not (pt_val (pe_call (ok_is_count T) (hr.mono (by decide)) (by rfl) T.d_is_count.g T.d_is_count.F.kp T.d_is_count.b .nil pass0 (pa_cons (pe_ix ix_seq (pv 2) pe_int (fun _ _ => rfl)) pa_nil))))))))) (pss_one (ps_ret pe_bl)) pss_nil)
  (pss_cons (ps_if (PW.pt (pw_or (pt_cmpR op_eq (pe_ix ix_seq (pv 2) pe_int (fun _ _ => rfl)) (pe_ix ix_seq (pv 2) pe_int (fun _ _ => rfl)) (nomark _)) (pw_or1 (pt_cmpR (op_inD (un65 hr)) (pe_slice sl_tupA (pv 2) po_none (po_some pe_int)) (pv 1) (by rfl))))) (pss_one (ps_ret pe_bl)) pss_nil)
  (pss_one (ps_expr (pe_bm PySem.F.plainAttrs_list PySem.F.slot_list_append PySem.F.type_list_append mt_append (pv 1) (pa_cons (pe_slice sl_tupA (pv 2) po_none (po_some pe_int)) pa_nil)))))))
  (pss_one (ps_ret pe_bl)))))

theorem ok__are_triples (T : Tx K mg) : FnOk P w K mg base CX0 3 T.d__are_triples.f T.d__are_triples.fd ["table"] (sp__are_triples K) :=
  okD T.d__are_triples.F sc__are_triples (t__are_triples K) len__are_triples rd__are_triples (fun cdv A outer s H E hr => dv__are_triples T cdv A outer s H E hr)

/-! ### is_prices -/
def t_is_prices (K : PySem.W.Frag) : TS :=
  (tSeq (tIfS (tOr (tNot (tB (tCall (sp_has_size K) [] E0 (tCons (tVar 0) (tCons (tC (.int 4)) tNil))))) (tNot (tB (tCB (rAll K) (tCons (tLc (iTup K (tSl (rSlA K) (tVar 0) tNoPart (tPart (tC (.int 3))))) (gName 1) tYes (tCall (sp_is_count K) [] E0 (tCons (tVar 1) tNil)) [1]) tNil))))) (tRet (tC (.bl false))) tNext)
  (tRet (tCall (sp__are_triples K) [] E0 (tCons (tOp (rIx K) (tVar 0) (tC (.int 3))) tNil))))

theorem rd_is_prices : Keeps K N_is_prices R_is_prices (t_is_prices K) := by
  intro H F vs ds d Q x hd h q
  obtain ⟨a, hs, rfl, rfl⟩ := h
  have E := env_start (N := N_is_prices) hd
  by_cases hz : hasSz a 4 = true
  · obtain ⟨a1, a2, a3, a4, rfl⟩ : ∃ a1 a2 a3 a4, a = .tuple [a1, a2, a3, a4] := by
      cases a with
      | tuple l =>
        have hz' : (l.length : Int) = 4 := of_decide_eq_true hz
        match l, hz' with
        | [a, b, c, t], _ => exact ⟨a, b, c, t, rfl⟩
      | _ => cases hz
    have s4 : sm a4 = true := smAll_get (sm_tup hs).2 (i := 3) rfl
    refine st_seq (st_if (b := (!true) || (!([isC a1, isC a2, isC a3].all id))) (Gr.refl x) (edt_or (edt_not (edt_B (ed_call (eda_cons (ed_var E rfl) (eda_cons (ed_cI (K := K)) eda_nil)) ⟨_, _, rfl, by rw [hz]⟩))) fun _ =>
      edt_not (edt_B (ed_cb (eda_cons (ed_is (ed_lcT1 (fun d => .bool (isC d)) (ed_sl (ed_var E rfl) edo_none (edo_some (ed_cI (K := K))) sd_tup) (show 3 ≤ 1000 by decide) fun i d x F1 H1 e g1 p =>
        ed_call (eda_cons (ed_var (env_blk E g1.f p) rfl) eda_nil) ⟨_, rfl, rfl⟩) (show _ = PyData.list ([isC a1, isC a2, isC a3].map PyData.bool) from rfl)) eda_nil) cd_all))) (fun h H2 F2 G g => ?_) (fun h H2 F2 G g => ?_))
    · refine st_ret G (ed_cB (K := K)) ?_
      have e : isPr (.tuple [a1, a2, a3, a4]) = false := by
        show ((isC a1 && (isC a2 && isC a3)) && areTri a4) = false
        have h' : (isC a1 && (isC a2 && isC a3)) = false := by
          revert h
          cases isC a1 <;> cases isC a2 <;> cases isC a3 <;> simp
        rw [h', Bool.false_and]
      rw [e] at q
      exact q
    · have E := E.ext g.f
      refine st_ret G (ed_call (eda_cons (ed_op (ed_var E rfl) (ed_cI (K := K)) (od_ixT (j := 3) rfl rfl)) eda_nil) ⟨_, s4, rfl, rfl⟩) ?_
      have e : isPr (.tuple [a1, a2, a3, a4]) = areTri a4 := by
        show ((isC a1 && (isC a2 && isC a3)) && areTri a4) = _
        have h' : (isC a1 && (isC a2 && isC a3)) = true := by simpa using h
        rw [h', Bool.true_and]
      rw [e] at q
      exact q
  · have hz' : hasSz a 4 = false := by simpa using hz
    refine st_seq (st_if (b := (!false) || false) (Gr.refl x) (edt_or (edt_not (edt_B (ed_call (eda_cons (ed_var E rfl) (eda_cons (ed_cI (K := K)) eda_nil)) ⟨_, _, rfl, by rw [hz']⟩))) fun z => nomatch z) (fun h H2 F2 G g => ?_) (fun h => nomatch h))
    refine st_ret G (ed_cB (K := K)) ?_
    have e : isPr a = false := by
      unfold isPr
      split
      · exact absurd rfl hz
      · rfl
    rw [e] at q
    exact q
theorem len_is_prices (ds : List PyData) (d : PyData) (h : R_is_prices ds d) : ds.length = 1 := by obtain ⟨_, _, h, _⟩ := h; rw [h]; rfl
theorem dv_is_prices (T : Tx K mg) (cdv : Value) (A : Around) (outer : List PySem.Env) (s : Shared) (H : Hp) (E : XK) (hr : Room 3 (A.deeper (PyProof.Rows.envOfC "is_prices" (defScope s_is_prices) s.heap.objs.size T.d_is_prices.f cdv))) :
    PSs (cxOf CX0 P w K mg base N_is_prices "is_prices" (defScope s_is_prices) T.d_is_prices.f cdv A outer s H E).nox (defBody s_is_prices) (t_is_prices K) := by
  exact (pss_cons (ps_if (PW.pt (pw_or (pt_not (pt_val (pe_call (ok_has_size T) (hr.mono (by decide)) (by rfl) T.d_has_size.g T.d_has_size.F.kp T.d_has_size.b .nil pass0 (pa_cons (pv 0) (pa_cons pe_int pa_nil))))) (pw_or1 (pt_not (pt_val (pe_callB (cr_all rfl) (by rfl) T.n_all (by decide +kernel) (pa_cons (pe_lc (own := [("part", 1)]) (g := gName 1) (tt := tYes) rfl sc_is_prices.nd (pi_tup (pe_slice sl_tupA (pv 0) po_none (po_some pe_int))) (blkOk_by (own := [("part", 1)]) (N := N_is_prices) (sc := defScope s_is_prices) (by decide +kernel)) (fun _ _ _ _ _ => pg_name (i := 1) sc_is_prices.nd rfl (Or.inl rfl)) (fun _ _ _ _ _ => pts_nil) (fun _ _ _ _ _ => (pe_call (ok_is_count T) (hr.mono (by decide)) (by rfl) T.d_is_count.g T.d_is_count.F.kp T.d_is_count.b .nil pass0 (pa_cons (pv 1) pa_nil)))) pa_nil))))))) (pss_one (ps_ret pe_bl)) pss_nil)
  (pss_one (ps_ret (pe_call (ok__are_triples T) (hr.mono (by decide)) (by rfl) T.d__are_triples.g T.d__are_triples.F.kp T.d__are_triples.b .nil pass0 (pa_cons (pe_ix ix_seq (pv 0) pe_int (fun _ _ => rfl)) pa_nil)))))

theorem ok_is_prices (T : Tx K mg) : FnOk P w K mg base CX0 4 T.d_is_prices.f T.d_is_prices.fd ["value"] (sp_is_prices K) :=
  okD T.d_is_prices.F sc_is_prices (t_is_prices K) len_is_prices rd_is_prices (fun cdv A outer s H E hr => dv_is_prices T cdv A outer s H E hr)

end
end Gb

set_option maxHeartbeats 2000000
/-! An own error below ValueError whose __init__ says super().__init__(text), then self.value = value. -/
namespace Gb
open PySem PySem.W PySem.Calls PyProof.Rows PySem.HandSPX
def iA (p1 p2 : Pos) : Arguments := { posonlyargs := [], args := [{ arg := "self", annotation := none, pos := p1 }, { arg := "value", annotation := none, pos := p2 }], vararg := none, kwonlyargs := [], kw_defaults := [], kwarg := none, defaults := [] }
def iB (msg : Str) (k : Nat) (a1 a2 a3 a4 a5 a6 q1 q2 q3 q4 : Pos) : List Stmt :=
  [.Expr (.Call (.Attribute (.Call (.Name "super" a1) [] [] a2) "__init__" a3) [.Constant (.str msg) k a4] [] a5) a6, .Assign [.Attribute (.Name "self" q1) "value" q2] (.Name "value" q3) q4]
def iS : Scope := { kind := .function, names := [(PySem.Str.ofString "self", .local), (PySem.Str.ofString "value", .local), (PySem.Str.ofString "__class__", .free), (PySem.Str.ofString "super", .globalImplicit)], isGenerator := false, isCoroutine := false, more := [] }
def callForm (msg : Str) (k : Nat) (a1 a2 a3 a4 a5 : Pos) : Prop := ∀ env : PySem.Env, ∃ pl, eval (.Call (.Attribute (.Call (.Name "super" a1) [] [] a2) "__init__" a3) [.Constant (.str msg) k a4] [] a5) env = (do
      let ov ← attributeBase (.Call (.Name "super" a1) [] [] a2) "__init__" env (eval (.Call (.Name "super" a1) [] [] a2) env)
      standAt a3.atName
      let (f, first) ← holding [ov] (getMethod ov "__init__" pl)
      callWith a5 f first (backTo a5 (starEach [.Constant (.str msg) k a4] env)) [])
/-- what the written part says of the class nm at C, its __init__ at fI, its cell at cc, the code at cda -/
structure ErrTxt (P : Program) (K : Frag) (mg : Str → Option Value) (nm : Str) (C fI cc cda : Addr) : Prop where
  gC : mg nm = some (.ref C)
  gs : mg "super" = none
  cls : ∃ n q N bs bm sn sub ab col dd k0 k1 k2 k3 k5, K.lookup C = some (excClassObj n q C N bs bm true sn sub ab col dd k0 k1 k2 k3 k5 "ValueError.__new__") ∧ refsVE bm = true ∧ alongIn K "__init__" bm = some (some (.builtin "ValueError.__init__"))
  sa : findIn K (.ref C) "__setattr__" = some (some (.builtin "object.__setattr__"))
  ga : findIn K (.ref C) "__getattribute__" = some (some (.builtin "BaseException.__getattribute__"))
  gg : findIn K (.ref C) "__getattr__" = some none
  noN : findIn K (.ref C) "value" = some none
  iC : findIn K (.ref C) "__init__" = some (some (.ref fI))
  tC : typeIn K (.ref fI) = some (.type "function")
  kC : keepIn K (.ref C) = true
  exC : subIn K (.ref C) (.type "BaseException") = some true
  exV : subIn K (.ref C) (.type "ValueError") = some true
  tyC : typeIn K (.ref C) = some (.type "type")
  hdC : hasDictIn K C = true
  slf : mroIn K C (.ref C) = some true
  opq : nsIn K cStatics "thirdparty.any" = some none
  cell : ∃ cl cld csl, K.lookup cc = some ⟨cl, cld, .cell (some (.ref C)), csl⟩
  code : ∃ ccl cdd vs ccs file tf, K.lookup cda = some ⟨ccl, cdd, .fields vs, ccs⟩ ∧ vs[2]? = some (.str file tf) ∧ ((P.main.file : Str) == file) = true
  top : (P.main.scope.names.lookup ("super" : Str)).isSome = false
  fn : ∃ (qual msg : Str) (k : Nat) (oc : Value) (od : Option Addr) (kV doc pm : Value) (an : Option Addr) (ct : Value) (osl : Array (Option Value)) (p1 p2 a1 a2 a3 a4 a5 a6 q1 q2 q3 q4 : Pos),
    K.lookup fI = some ⟨oc, od, .func (ksFn "__init__" qual (iA p1 p2) (iB msg k a1 a2 a3 a4 a5 a6 q1 q2 q3 q4) iS .none kV doc pm an (.ref cda) ct cc), osl⟩ ∧ codeIn K (.ref cda) qual = true ∧ callForm msg k a1 a2 a3 a4 a5
theorem ldE {M : Model} {s : Shared} {name : Str} {L a cc : Addr} {cd : Value} {m : Str → Option Value} {x : Str} {pos : Pos} {v : Value} {Q : Value → Shared → Prop} {A : Around} {E : Value → Shared → Prop} (hn : s.heap.Ns L m) (hv : m x = some v) (h : Q v s)
    (hl : (ksEnv name iS L a cd cc).kindOf x = some .local := by rfl) (hd : (x == ("__debug__" : Str)) = false := by decide) :
    wpAny M A (eval (.Name x pos) (ksEnv name iS L a cd cc)) Q E s := wpAny_Name (wpAny_loadName_local rfl hl hn hv h) hd
/-- what __init__ leaves of a fresh exception at x -/
structure InitEnd (h h' : Heap) (x C dx t1 : Addr) (v : Value) : Prop where
  keep : ∀ b o, b ≠ x → h.get? b = some o → h'.get? b = some o
  obj : h'.get? x = some { cls := .ref C, dict := some dx, data := .fields #[.ref t1, .none, .none, .none, .bool false, .none] }
  dbig : h.objs.size ≤ dx
  dne : dx ≠ x
  ns : h'.Ns1 dx (fun y => if y = "value" then some v else none)
/-- a made error -/
structure OwnMade (h h' : Heap) (e C d : Addr) (v : Value) : Prop where
  keep : ∀ b o, h.get? b = some o → h'.get? b = some o
  new : h.objs.size ≤ e
  obj : ∃ oe vs, h'.get? e = some oe ∧ oe.cls = .ref C ∧ oe.dict = some d ∧ oe.data = .fields vs ∧ vs[1]? = some .none
  dbig : h.objs.size ≤ d
  dne : d ≠ e
  ns : h'.Ns1 d (fun y => if y = "value" then some v else none)
section
variable {prog : Program} {w : World} {A : Around} {E : Value → Shared → Prop} {R : Result → Shared → Prop} {s : Shared} {K : Frag} {mg : Str → Option Value} {nmC : Str} {C fI cc cda : Addr}
/-- the bound ValueError.__init__ called -/
theorem call_kx {hp : Heap} {g : Array GenState} {d : Drawn} {t : Nat} {os : OsState} {nm q : Str} {N u e t0 : Addr} {bs bm : List Value} {hdct : Bool} {sn : List Str} {sub : List Value} {ab : Bool} {col : Option Bool} {dd : Option Addr} {k0 k1 k2 k3 k5 : Option Value}
    {rest : List Value} {Q : Value → Shared → Prop} (hC : hp.get? C = some (excClassObj nm q C N bs bm hdct sn sub ab col dd k0 k1 k2 k3 k5 "ValueError.__new__")) (he : hp.get? e = some (excO C t0)) (hu : hp.get? u = some (kxs_mw "ValueError.__init__" e)) (hrest : rest.length ≤ sizeLine)
    (hq : ∀ h' t1, (∀ b o, b ≠ e → hp.get? b = some o → h'.get? b = some o) → h'.get? e = some (excO C t1) → Q .none ⟨h', g, d, t, os⟩) :
    wpAny (model prog w) A (call (.ref u) rest) Q E ⟨hp, g, d, t, os⟩ := by
  have FB := F.excBase_ValueError
  refine wpAny_call (codeAny_of_tree ?_)
  show wpAny _ A.in1 (callAny (.ref u) ⟨rest, []⟩) _ _ _
  simp only [callAny]
  refine wpAny_bind (wpAny_load hu ?_)
  simp only [kxs_mw, show (Value.type "method-wrapper" == Value.type "method" || Value.type "method-wrapper" == Value.type "builtin_function_or_method" || Value.type "method-wrapper" == Value.type "method-wrapper") = true by decide, if_true]
  refine W.KFB.if_so (by decide) ?_
  refine wpAny_bind (check_bound_init FB.toExcCallFacts hC he rfl ?_)
  refine wpAny_bind (wpAny_pure (wpAny_pure ?_))
  refine ⟨plainId_quiet FB.init.plain _, codeAny_builtin FB.initEntry ?_⟩
  exact exc_init_tree (cls := .ref C) (t0 := t0) (dv := none) (c2 := .none) (c3 := .none) (b4 := .bool false) he hrest fun h' k e' t' => hq h' _ k e'
theorem err_init (T : ErrTxt prog K mg nmC C fI cc cda) {x t0 : Addr} {v : Value} (X : K.In s.heap) (hlim : s.heap.NoLimit) (hg : s.heap.Ns mainGlobals mg) (hb : ∃ mb, s.heap.Ns builtinsNs mb ∧ mb "super" = some (.type "super"))
    (hx : s.heap.get? x = some (excO C t0)) (hnx : K.lookup x = none) (hroom : A.depth < recursionLimit)
    (hq : ∀ h' tk dx t1, InitEnd s.heap h' x C dx t1 v → R (.ok (.ret .none)) { s with heap := h', toks := tk }) :
    codeAny (model prog w) A (.call (.ref fI) ⟨[.ref x, v], []⟩) R s := by
  obtain ⟨qual, msg, k, oc, od, kV, doc, pm, an, ct, osl, p1, p2, a1, a2, a3, a4, a5, a6, q1, q2, q3, q4, ho, hcd, hcf⟩ := T.fn
  obtain ⟨nm, q, N, bs, bm, sn, sub, ab, col, dd, k0, k1, k2, k3, k5, hC, hbm, hal⟩ := T.cls
  obtain ⟨cl, cld, csl, hcell⟩ := T.cell
  obtain ⟨ccl, cdd, vs, ccs, file, tf, hcode, hvs, hfile⟩ := T.code
  obtain ⟨mb, hb, hbs⟩ := hb
  have hcl : clsIn K C = some { name := nm, bases := bs, mro := .ref C :: bm, ns := N, qualname := q, hasDict := true, slotNames := sn, subclasses := sub, abstract := ab, collection := col, hasDel := false } := by unfold clsIn; rw [hC] <;> rfl
  refine ks_codeAny_call_defAt (fd := ksFn "__init__" qual (iA p1 p2) (iB msg k a1 a2 a3 a4 a5 a6 q1 q2 q3 q4) iS .none kV doc pm an (.ref cda) ct cc) (body := iB msg k a1 a2 a3 a4 a5 a6 q1 q2 q3 q4) (binds := [("self", .ref x), ("value", v)])
    hroom (X _ _ ho) rfl hlim (codeRec_of X hcd) rfl (BindsTo.of_eq (by first | rfl | with_unfolding_all rfl)) (show ∀ x ∈ iS.names, x.2 ≠ .cell by decide) (locs rfl) (fun h₁ hn k₁ => ?_)
  have hxL : s.heap.objs.size ≠ x := Nat.ne_of_gt (Heap.lt_size hx)
  have X₁ : K.In h₁ := X.keeps k₁
  have hx₁ := k₁ _ _ hx
  obtain ⟨hp0, g, d, tk0, os⟩ := s
  dsimp only at *
  have hnl : h₁.NoLimit := hlim.keeps k₁
  have hC₁ := X₁ _ _ hC
  have hI : Looks (model prog w) h₁ (isInstance (.ref x) (.type "ValueError")) true := (show Looks (model prog w) h₁ (typeOf (.ref x)) (.ref C) from fun A Q E s k q => wpAny_typeOf_ref (k _ _ hx₁) q).andThen (looks_subIn X₁ T.exV)
  obtain ⟨pl, hcf⟩ := hcf (ksEnv qual iS hp0.objs.size fI (.ref cda) cc)
  refine ks_wpAt_execs_cons (ks_wpAt_Expr_any (ks_wpAt_MethodCall (pl := pl) ?_ hcf))
  · refine ks_wpAt_super_base (env := ksEnv qual iS hp0.objs.size fI (.ref cda) cc) rfl rfl rfl rfl (X₁ _ _ ho) rfl rfl rfl (X₁ _ _ hcode) rfl hvs hfile T.top ?_
    refine ks_loadName_global rfl rfl (loadGlobal_builtin (env := ksEnv qual iS hp0.objs.size fI (.ref cda) cc) (hg.keeps k₁) T.gs (hb.keeps k₁) hbs ⟨rfl, ?_⟩)
    refine wpAny_loadName_free rfl rfl rfl ⟨_, X₁ _ _ hcell, rfl⟩ ?_
    refine wpAny_loadName_local rfl rfl hn (by first | rfl | kernel_rfl) ?_
    refine ks_wpAny_isType_cls hC₁ rfl ⟨rfl, ?_⟩
    refine ks_wpAny_call_super hC₁ rfl hx₁ rfl (fun c e => by cases e) (looks_mroIn X₁ T.slf) (fun h2 e2 k2 => ?_)
    have X2 := X₁.keeps k2
    refine kxs_getMethod (K := K) kxs_ValueError e2 (looks_opaque X2 T.opq) (fun A Q E s k q => wpAny_bind ((looks_clsIn X2 hcl) A _ E s k (wpAny_pure q))) (PySem.ESX.drop_own C bm) X2 hal (hI.keeps k2) ?_ rfl ?_
    · rintro rfl
      rw [hC] at hnx; cases hnx
    · have up : ∀ b o, h2.get? b = some o → (h2.push (kxs_mw "ValueError.__init__" x)).get? b = some o := fun b o e => Heap.get?_push_of_some _ e
      refine kxs_callWith (i := "ValueError.__init__") (x := x) rfl ?_
      refine evalArgs_plain (Calls.spliced_cons (Calls.Constant_str (k := k) (pos := a4) (Calls.spliced_nil ⟨Heap.get?_push_at rfl rfl, ?_⟩)))
      refine call_kx (C := C) (e := x) (t0 := t0) (up _ _ (X2 _ _ hC)) (up _ _ (k2 _ _ hx₁)) (Heap.get?_push_at rfl rfl) (by rw [sizeLine_eq]; exact (by decide : 1 ≤ 16777216)) fun h3 t1 k3 hx3 => ?_
      have kk : ∀ b o, b ≠ x → hp0.get? b = some o → h3.get? b = some o := fun b o hb e => k3 b o hb (up _ _ (k2 _ _ (k₁ _ _ e)))
      have X3 : K.In h3 := fun b o e => kk b o (fun z => by rw [z] at e; have e' : K.lookup x = some o := e; rw [hnx] at e'; cases e') (X _ _ e)
      obtain ⟨oL, es, ep, hL, rL⟩ := hn
      have hL3 := k3 _ _ hxL (up _ _ (k2 _ _ hL))
      have hn3 : h3.Ns hp0.objs.size _ := ⟨oL, es, ep, hL3, rL⟩
      refine ks_wpAt_execs_cons (wpAt_of_wpAny (plainObj_wpAny_Assign_Attribute ?_))
      refine ldE (v := v) hn3 (by first | rfl | kernel_rfl) (ldE (v := .ref x) hn3 (by first | rfl | kernel_rfl) ?_)
      refine set_plain X3 (ox := excO C t1) (od := none) ⟨hx3, rfl, rfl, trivial⟩ T.sa ?_
      refine exc_osa X3 hx3 hcl (show refsVE (.ref C :: bm) = true from hbm) rfl T.noN (fun h4 tk4 dx k4 dn dne hx4 hn4 => ?_)
      refine wpAt_of_wpAny (wpAny_execs_nil (hq h4 tk4 dx t1 ⟨fun b o hb e => k4 b o hb (kk b o hb e), hx4, ?_, dne, hn4⟩))
      exact Nat.le_trans (Nat.le_of_lt (Heap.lt_size hL3)) dn
theorem err_made (T : ErrTxt prog K mg nmC C fI cc cda) {v : Value} (X : K.In s.heap) (hlim : s.heap.NoLimit) (hg : s.heap.Ns mainGlobals mg) (hb : ∃ mb, s.heap.Ns builtinsNs mb ∧ mb "super" = some (.type "super")) (hroom : A.depth + 1 < recursionLimit)
    (hq : ∀ h' tk e d, OwnMade s.heap h' e C d v → R (.ok (.ret (.ref e))) { s with heap := h', toks := tk }) :
    codeAny (model prog w) A (.call (.ref C) ⟨[v], []⟩) R s := by
  obtain ⟨nm, q, N, bs, bm, sn, sub, ab, col, dd, k0, k1, k2, k3, k5, hC, hbm, hal⟩ := T.cls
  obtain ⟨hp, g, dr, tk, os⟩ := s
  have k : ∀ b o, hp.get? b = some o → ((hp.push (kdv_tup [v])).push (excO C hp.objs.size)).get? b = some o := fun b o e => Heap.get?_push_of_some _ (Heap.get?_push_of_some _ e)
  have hget : ((hp.push (kdv_tup [v])).push (excO C hp.objs.size)).get? (hp.objs.size + 1) = some (excO C hp.objs.size) := by heap_get
  have hnx : K.lookup (hp.objs.size + 1) = none := by
    cases e : K.lookup (hp.objs.size + 1) with
    | none => rfl
    | some o =>
      have z : hp.get? (hp.objs.size + 1) = some o := X _ _ e
      exact absurd (Nat.lt_of_succ_lt (Heap.lt_size z)) (Nat.lt_irrefl _)
  obtain ⟨mb, hb, hbs⟩ := hb
  refine call_own F.excBase_ValueError (fun X => refsVE_contains X bm hbm) (X _ _ hC) (looks_findIn X T.iC) (fun self => bind_fn X self T.tC) (show [v].length ≤ sizeLine by rw [sizeLine_eq]; exact (by decide : 1 ≤ 16777216)) ?_
  refine err_init (s := ⟨(hp.push (kdv_tup [v])).push (excO C hp.objs.size), g, dr, tk, os⟩) T (X.keeps k) (hlim.keeps k) (hg.keeps k) ⟨mb, hb.keeps k, hbs⟩ hget hnx ?_ fun h' tk' dx t1 ⟨k', hx, dn, dne, hns⟩ => ?_
  · show A.depth + 1 < recursionLimit
    exact hroom
  · have old : ∀ b o, hp.get? b = some o → h'.get? b = some o := fun b o e => k' b o (Nat.ne_of_lt (Nat.lt_succ_of_lt (Heap.lt_size e))) (k b o e)
    have z : hp.objs.size + 1 + 1 ≤ dx := by
      first
        | (simpa only [Heap.size_push] using dn)
        | exact dn
        | (have q := dn; rw [Heap.size_push, Heap.size_push] at q; exact q)
    exact ⟨rfl, hq h' tk' (hp.objs.size + 1) dx ⟨old, Nat.le_succ _, ⟨_, _, hx, rfl, rfl, rfl, rfl⟩, Nat.le_trans (Nat.le_trans (Nat.le_succ _) (Nat.le_succ _)) z, dne, hns⟩⟩
end
end Gb
namespace Gb
open PySem PySem.Spec PyProof.Rows L2
theorem relO_val {v : V} {v' : Value} (r : RelV v v') (f : Str) : RelO (List.lookup f [(("value" : Str), v)]) (if f = "value" then some v' else none) := by
  by_cases hw : f = "value"
  · subst hw
    rw [if_pos rfl]
    have q : List.lookup ("value" : Str) [(("value" : Str), v)] = some v := by simp [List.lookup]
    rw [q]
    exact r
  · rw [if_neg hw]
    have qw : (f == ("value" : Str)) = false := by simpa using hw
    have q2 : List.lookup f [(("value" : Str), v)] = none := by simp [List.lookup, qw]
    rw [q2]
    trivial
section
variable {X : Cx} {nmC : Str} {C fI cc cda : Addr}
/-- E(e) -/
def tMkErr (C : Addr) (ta : TA) : L2.St → Hp → XK → Prop := fun σ H Q => ta σ H fun vs H1 => ∃ v, vs = [v] ∧ ∀ d, H1 d = none → Q (.ref C) (some d) (upd H1 d (.xd [(("value" : Str), v)]))
theorem pmk_err {a : Expr} {ta : TA} {p pos : Pos} {k : Nat} (T : ErrTxt X.prog X.K X.mg nmC C fI cc cda) (hr : Room k X.A) (ha : PA X [a] ta) (hg : Gl X nmC) (hdb : (nmC == ("__debug__" : Str)) = false)
    (he : starEach (a :: []) X.env = (false, eval a X.env) :: starEach [] X.env := by rfl) (hpl : (backTo pos (starEach [] X.env)).any (·.1) = false := by rfl) :
    PMk X (.Call (.Name nmC p) [a] [] pos) (tMkErr C ta) := by
  intro pins s σ H Q I h
  refine wpAny_Call_Name_kw (ld_glob I hg T.gC ?_ hdb)
  refine PySem.W.callWith_K (h₀ := X.base) I.ok.mod.kin T.kC (thn (ha.run pos pins s σ H _ I h) fun us s1 hh => ?_) he hpl
  obtain ⟨vs, H1, I1, r1, v, ev, q1⟩ := hh
  subst ev
  refine ⟨I1.kIn, ?_⟩
  cases r1 with
  | cons rv rn =>
    rename_i v' us'
    cases rn
    show wpAny _ _ (call (.ref C) [v']) _ _ _
    have hlim := I1.nolimit
    have hgl := I1.mod.glob.keeps I1.bk
    obtain ⟨mb, hb, hmb⟩ := I1.mod.blt
    have hbl := hb.keeps I1.bk
    obtain ⟨hp, g, dr, tk, os⟩ := s1
    refine wpAny_call (err_made T I1.kIn hlim hgl ⟨mb, hbl, (hmb _ (by decide)).trans (by first | rfl | kernel_rfl)⟩ (by have := hr.dp; omega) fun h' tk' e d M => ?_)
    show MkP X pins σ Q (.ref e) ⟨h', g, dr, tk', os⟩
    obtain ⟨oe, fv, hoe, hc, hd, hdat, h1⟩ := M.obj
    have hns := M.ns
    obtain ⟨G', g1, g2⟩ := restrict h' fun b => decide (b ≠ e)
    have gk : ∀ b, b ≠ e → G'.get? b = h'.get? b := fun b hb => g1 b (decide_eq_true hb)
    have ge : G'.get? e = none := g2 e (by simp)
    have old : ∀ b o, hp.get? b = some o → G'.get? b = some o := fun b o q => (gk b (Nat.ne_of_lt (Nat.lt_of_lt_of_le (Heap.lt_size q) M.new))).trans (M.keep b o q)
    have ob : ObjOk X.prog X.w (upd H1 d (.xd [(("value" : Str), v)])) G' d (.xd [(("value" : Str), v)]) :=
      ⟨_, hns.at (fun o q => (gk d M.dne).trans q), fun f => relO_val rv f⟩
    have J : Inv X pins σ (upd H1 d (.xd [(("value" : Str), v)])) ⟨G', g, dr, tk', os⟩ := I1.laid (t' := tk') old M.dbig ob
    refine ⟨e, oe, fv, ⟨G', g, dr, tk', os⟩, _, .ref C, some d, rfl, J, fun b o q => ?_, ge, hoe, ⟨hc, hd⟩, hdat, h1, ?_, rfl, I1.bare, raises_own T.exC T.tyC, q1 d (I1.hok.fresh M.dbig)⟩
    · by_cases hb : b = e
      · have q' : G'.get? b = some o := q
        rw [hb, ge] at q'; cases q'
      · exact (gk b hb).symm.trans q
    · rw [upd_ne (Ne.symm M.dne)]
      exact I1.hok.fresh M.new
/-- raise E(e) -/
def tRaiseErr (C : Addr) (W : WX) (ta : TA) : TS := fun _ σ H => tMkErr C ta σ H fun cls d H' => W cls d σ H'
theorem ps_raiseErr {a : Expr} {ta : TA} {W : WX} {p pos pos2 : Pos} {k : Nat} (hc : X.calm = true) (T : ErrTxt X.prog X.K X.mg nmC C fI cc cda) (hr : Room k X.A) (tk : Takes X W) (ha : PA X [a] ta) (hg : Gl X nmC) (hdb : (nmC == ("__debug__" : Str)) = false := by decide)
    (he : starEach (a :: []) X.env = (false, eval a X.env) :: starEach [] X.env := by rfl) (hpl : (backTo pos (starEach [] X.env)).any (·.1) = false := by rfl) :
    PS X (.Raise (some (.Call (.Name nmC p) [a] [] pos)) none pos2) (tRaiseErr C W ta) := ps_raise hc tk (pmk_err T hr ha hg hdb he hpl)
end
end Gb

set_option maxHeartbeats 1000000
/-! repr of data. It asks that no repr is at work around (A.guards = some []): so the promises of the defs that call it know that. -/
namespace Gb
open PySem PySem.Spec PyProof.Rows L2
/-- repr(x), x data -/
def rReprQ (K : PySem.W.Frag) : List V → Hp → VK → Prop := fun xs H Q => ∃ x d, xs = [x] ∧ Dp K H x d ∧ d.showable = true ∧ d.hasDict = false ∧ d.depth ≤ 60 ∧ d.shown.length ≤ sizeLine ∧ Q (.str d.shown) H
theorem call_reprQ {X : Cx} (hg : X.A.guards = some []) (hu : X.A.units + 64 < cLine) : CallR X (.builtin "repr") (rReprQ X.K) := by
  intro pins s σ H xs us Q I r h
  obtain ⟨x, d, rfl, hd, hs, hnd, hdp, hsz, q⟩ := h
  cases r with
  | cons r1 r2 =>
    rename_i u _
    cases r2
    obtain ⟨as, rd⟩ := Dp.reads I d x u hd r1
    have ref : ∀ a, u = .ref a → wpAny (model X.prog X.w) X.A (call (.builtin "repr") [u]) (EP X pins σ Q) X.xe s := by
      rintro a rfl
      exact repr_of_reads' rd hs (PyData.noDict_hsm hnd) hg (by omega) (fun _ _ e => e) (fun h' t tk hk => ⟨.str d.shown, H, I.kept hk, ⟨_, rfl⟩, q⟩) hsz
    cases hd with
    | non =>
      obtain rfl : u = Value.none := r1
      exact PySem.P.repr_of_none ⟨.str _, H, I.tok _, ⟨_, rfl⟩, q⟩
    | bl b =>
      obtain rfl : u = Value.bool b := r1
      cases b with
      | true => exact PySem.P.repr_of_bool ⟨.str _, H, I.tok _, ⟨_, rfl⟩, q⟩
      | false => exact PySem.P.repr_of_bool ⟨.str _, H, I.tok _, ⟨_, rfl⟩, q⟩
    | int i =>
      obtain ⟨t, rfl⟩ := r1
      exact PySem.P.repr_of_int (of_decide_eq_true hs) ⟨.str _, H, I.tok _, ⟨_, rfl⟩, q⟩
    | str z =>
      obtain ⟨t, rfl⟩ := r1
      exact PySem.P.repr_of_str ⟨.str _, H, I.tok _, ⟨_, rfl⟩, q⟩ hsz
    | lst _ _ => exact ref _ r1
    | tup _ _ => exact ref _ r1
/-- the data of a repr's argument -/
def shw (d : PyData) : Bool := ((d.showable && !d.hasDict) && decide (d.depth ≤ 60)) && decide (d.shown.length ≤ 100000)
theorem cd_repr {K : PySem.W.Frag} {d : PyData} (h : shw d = true) : CbD K (rReprQ K) [d] (.str d.shown) := fun F H vs x p Q q => by
  unfold shw at h
  rw [Bool.and_eq_true, Bool.and_eq_true, Bool.and_eq_true, decide_eq_true_eq, decide_eq_true_eq, Bool.not_eq_true'] at h
  cases p with
  | cons h1 h2 =>
    cases h2
    exact ⟨_, d, rfl, Dp.ext h1 x, h.1.1.1, h.1.1.2, h.1.2, Nat.le_trans h.2 (by decide), q _ H F (Gr.refl x) (.str _)⟩
/-! ### defs that know the guards -/
structure FnOkG (P : Program) (w : World) (K : PySem.W.Frag) (mg : Str → Option Value) (base : Heap) (k : Nat) (f : Addr) (fd : FuncData) (ps : List Str) (sp : Sp) : Prop where
  len : ∀ vs H Q E, sp vs H Q E → vs.length = ps.length
  run : ∀ (A : Around) (outer : List PySem.Env) (s : Shared) (H : Hp) (args : Args) (us : List Value) (vs : List V) (Q : VK) (E : XK), Room k A → A.guards = some [] → Env0 P w K mg base A outer s H → BindsTo s fd args (ps.zip us) → Vals vs us → sp vs H Q E →
    codeAny (model P w) A (.call (.ref f) args) (CR CX0 outer P w H s Q E) s
section
variable {P : Program} {w : World} {K : PySem.W.Frag} {mg : Str → Option Value} {base : Heap}
theorem okG {x qual : Str} {st : Stmt} {f : Addr} {fd : FuncData} {N ps : List Str} {k : Nat} {sp : Sp} (F : Fun K x qual st f fd) (S : FnScope N ps (defScope st)) (len : ∀ vs H Q E, sp vs H Q E → vs.length = ps.length)
    (hbody : ∀ (cdv : Value) (A : Around) (outer : List PySem.Env) (s : Shared) (H : Hp) (vs : List V) (Q : VK) (E : XK), Room k (A.deeper (envOfC qual (defScope st) s.heap.objs.size f cdv)) → A.guards = some [] → sp vs H Q E →
      ∃ t, PSs (cxOf CX0 P w K mg base N qual (defScope st) f cdv A outer s H E).nox (defBody st) t ∧ t { nx := fun _ H' => Q .non H', rt := Q } (L2.start N vs) H) : FnOkG P w K mg base (k + 1) f fd ps sp := by
  obtain ⟨oc, od, kV, doc, pm, an, cdv, ct, osl, rfl, lk, hcd⟩ := F.ex
  refine ⟨len, fun A outer s H args us vs Q E hr hgd e0 hb r hsp => ?_⟩
  have KX : K.In s.heap := e0.mod.kin.keeps fun b o e => (e0.bs b o e).1
  obtain ⟨t, h, q⟩ := hbody cdv A outer s H vs Q E (hr.deeper _) hgd hsp
  have hl := len _ _ _ _ hsp
  refine codeAny_call_function hr.depth (KX _ _ lk) rfl S.co S.gen rfl (PySem.W.codeRec_of KX hcd) (hb _ _ _ _ ?_)
  refine wpAny_newFunctionEnv_cells S.kind (fun ⟨n, v⟩ hy => (S.par n (List.of_mem_zip hy).1).imp id fun q => ⟨q, PySem.W.cellsFrom_some _ _ _ (.inl q)⟩) fun env he s1 y => ?_
  subst he
  refine ⟨(e0.mod.nolimit.keeps fun b o e => (e0.bs b o e).1).keeps y.toInCall.keep, codeAny_func ?_⟩
  refine wpAny_mono (h.nox.run [] s1 (L2.start N vs) H _ (inv_start S hr.hd e0 hl r y) q) (fun fl s' hs => ?_) fun e s' hs => hs
  have fin : ∀ {σ' : L2.St} {H' : Hp} {v : V} {u : Value}, Inv (cxOf CX0 P w K mg base N qual (defScope st) f cdv A outer s H E) [] σ' H' s' → RelV v u → Q v H' → CE outer P w H s Q u s' := fun {σ' H' v u} J rv q => ⟨v, H', J.os, J.bare, J.base, J.hok, rv, q⟩
  cases fl with
  | ret u => obtain ⟨v, σ', H', J, rv, q⟩ := hs; exact fin J rv q
  | next => obtain ⟨σ', H', J, q⟩ := hs; exact fin (v := V.non) (u := Value.none) J rfl q
  | brk => obtain ⟨_, _, _, q⟩ := hs; exact False.elim q
  | cont => obtain ⟨_, _, _, q⟩ := hs; exact False.elim q
end
section
variable {X : Cx} {k : Nat} {f : Addr} {fd : FuncData} {ps : List Str} {sp : Sp} {x : Str} {p pos : Pos} {e : Expr} {es : List Expr} {t : TA}
/-- a call of such a def -/
theorem pe_callG (F : FnOkG X.prog X.w X.K X.mg X.base k f fd ps sp) (hr : Room k X.A) (hgd : X.A.guards = some []) (hg : Gl X x) (hm : X.mg x = some (.ref f)) (hk : PySem.W.keepIn X.K (.ref f) = true) (hb : Binds X.K fd ps [])
    (ha : PA X (e :: es) t) (hdb : (x == ("__debug__" : Str)) = false := by decide) (he : starEach (e :: es) X.env = (false, eval e X.env) :: starEach es X.env := by rfl) (hpl : (backTo pos (starEach es X.env)).any (·.1) = false := by rfl) :
    PE X (.Call (.Name x p) (e :: es) [] pos) (tCall sp [] E0 t) := by
  refine ⟨fun pins s σ H Q I h => ?_⟩
  refine wpAny_Call_Name_kw (ld_glob I hg hm ?_ hdb)
  refine PySem.W.callWith_K (h₀ := X.base) I.ok.mod.kin hk (thn (ha.run pos pins s σ H _ I h) fun us s1 ⟨vs, H1, I1, r, q⟩ => ⟨I1.kIn, ?_⟩) he hpl
  have q : sp (vs ++ []) H1 Q E0 := q
  rw [List.append_nil] at q
  have hl : us.length = ps.length := by rw [← r.length]; exact F.len _ _ _ _ q
  have hb' := hb s1 us I1.kIn (by rw [List.append_nil]; exact hl)
  rw [List.append_nil] at hb'
  refine wpAny_call (codeAny_mono (F.run X.A X.stack s1 H1 ⟨us, []⟩ us vs Q _ hr hgd I1.env0 hb' r q) fun r s' hq => ?_)
  cases r with
  | error e => exact False.elim hq
  | ok fl =>
    cases fl with
    | ret u => exact I1.after hq
    | next => exact False.elim hq
    | brk => exact False.elim hq
    | cont => exact False.elim hq
end
/-! ### the head -/
section
open PySem.W
theorem nsOf {h : Heap} {H : Hp} {a : Addr} {o : Obj} (ha : h.get? a = some o) (hd : ∀ es ep, o.data ≠ .dict es ep) (hA : ∀ b, H b ≠ none → b = a) {b : Addr} {m : Str → Option Value} (n : h.Ns b m) : (hidT h H).Ns b m := by
  obtain ⟨o', es, ep, e, d, r⟩ := n
  refine ⟨o', es, ep, hidT_get e ?_, d, r⟩
  cases q : H b with
  | none => rfl
  | some u =>
    have z := hA b (by rw [q]; simp)
    subst z
    rw [ha] at e; cases e
    exact absurd d (hd es ep)
/-- the law's def is called with a script: as the library's head has it, for a def that knows the guards -/
theorem head_call {P : Program} {w : World} {K : PySem.W.Frag} {mg mb : Str → Option Value} {k : Nat} {fa a : Addr} {fd : FuncData} {x : Str} {sp : Sp} {s : Shared} {vs : List Value} {ns : List Int}
    (KX : K.In s.heap) (hns : s.heap.Ns mainGlobals mg) (hb : s.heap.Ns builtinsNs mb) (hbb : ∀ x : Str, x ≠ "__name__" → mb x = bootBuiltins x) (hlim : s.heap.NoLimit) (hg : s.gens = #[])
    (ha : s.heap.get? a = some { cls := .type "list", data := .seq vs.toArray }) (hi : IntsAre vs ns) (hl : ns.length ≤ sizeLine) (hr : Room k callerA)
    (F : ∀ base : Heap, K.In base → base.Ns mainGlobals mg → FnOkG P w K mg base k fa fd [x] sp) (hbind : ∀ (s : Shared) (u : Value), BindsTo s fd ⟨[u], []⟩ [(x, u)])
    (hsp : ∀ H : Hp, Only H → SqL K H a (ns.map V.int) → sp [.ref a] H (fun v _ => v = .bl true) fun _ _ _ => False) :
    codeAny (model P w) callerA (.call (.ref fa) ⟨[.ref a], []⟩) (fun r s' => r = .ok (.ret (.bool true)) ∧ OldK s.heap s'.heap ∧ s'.os = s.os ∧ AllBare s'.gens) s := by
  have nd : ∀ (es : Array DictEntry) (ep : Nat), ({ cls := .type "list", data := .seq vs.toArray } : Obj).data ≠ .dict es ep := fun es ep z => by
    have z' : Data.seq vs.toArray _ = Data.dict es ep := z
    cases z'
  have core : ∀ H : Hp, Only H → SqL K H a (ns.map V.int) → HOk P w H s.heap → (∀ b, H b ≠ none → b = a) → (H a ≠ none → K.lookup a = none) →
      codeAny (model P w) callerA (.call (.ref fa) ⟨[.ref a], []⟩) (fun r s' => r = .ok (.ret (.bool true)) ∧ OldK s.heap s'.heap ∧ s'.os = s.os ∧ AllBare s'.gens) s := by
    intro H hO hS hok hA hK
    have kb : K.In (hidT s.heap H) := fun b o e => hidT_get (KX b o e) (by
      by_cases q : H b = none
      · exact q
      · have z := hA b q
        subst z
        have e' : K.lookup b = some o := e
        rw [hK q] at e'; cases e')
    have hgl := nsOf ha nd hA hns
    obtain ⟨mc, l1, l2⟩ := hlim
    have e0 : Env0 P w K mg (hidT s.heap H) callerA [] s H := {
      frames := rfl
      mod := ⟨kb, hgl, ⟨mb, nsOf ha nd hA hb, hbb⟩, ⟨mc, nsOf ha nd hA l1, l2⟩⟩
      bs := fun b o e => of_hidT e
      bsz := Nat.le_of_eq (hidT_size _ _)
      funs := trivial
      frf := fun b hb => nomatch hb
      hok := hok
      bare := .of_eq hg }
    refine codeAny_mono ((F _ kb hgl).run callerA [] s H ⟨[.ref a], []⟩ [.ref a] [.ref a] _ _ hr rfl e0 (hbind s (.ref a)) (.cons rfl .nil) (hsp H hO hS)) fun r s' h => ?_
    match r, h with
    | .error e, h => exact False.elim h
    | .ok .next, h => exact False.elim h
    | .ok .brk, h => exact False.elim h
    | .ok .cont, h => exact False.elim h
    | .ok (.ret u), h =>
      obtain ⟨v, H', os, bare, un, hok', r', q⟩ := h
      obtain rfl : v = .bl true := q
      obtain rfl : u = Value.bool true := r'
      refine ⟨rfl, OldK.of_keep fun b o e => ?_, os, bare⟩
      cases q : H b with
      | none => exact un.keep b o e q (fun z => nomatch z) (fun z => nomatch z)
      | some u =>
        rcases hO b with z | ⟨ob, xs, z⟩
        · rw [q] at z; cases z
        · obtain ⟨e1, _⟩ := hok b _ z
          obtain ⟨e2, _⟩ := hok' b _ (un.frzs b ob _ z)
          rw [e] at e1; cases e1
          exact e2
  have lenV := hi.length
  cases hk : K.lookup a with
  | some o =>
    have e := KX a o hk
    rw [ha] at e; cases e
    exact core (fun _ => none) (fun _ => .inl rfl) (.inr ⟨_, vs.toArray, _, hk, rfl, rfl, rfl, by rw [List.size_toArray, lenV]; exact hl, by simpa using vals_ints hi⟩) (fun b u z => nomatch z) (fun b z => absurd rfl z) fun z => absurd rfl z
  | none =>
    have hat : ∀ b (u : HO), (if b = a then some (HO.frz { cls := .type "list", data := .seq vs.toArray } (.lst (ns.map V.int))) else none) = some u → b = a ∧ u = HO.frz { cls := .type "list", data := .seq vs.toArray } (.lst (ns.map V.int)) := fun b u z => by
      by_cases hb : b = a
      · rw [if_pos hb] at z; cases z; exact ⟨hb, rfl⟩
      · rw [if_neg hb] at z; cases z
    refine core (fun b => if b = a then some (.frz { cls := .type "list", data := .seq vs.toArray } (.lst (ns.map V.int))) else none) (fun b => ?_) (.inl (.inr ⟨_, if_pos rfl⟩)) (fun b u z => ?_) (fun b z => ?_) fun _ => hk
    · by_cases hb : b = a
      · exact .inr ⟨_, _, if_pos hb⟩
      · exact .inl (if_neg hb)
    · obtain ⟨rfl, rfl⟩ := hat b u z
      exact ⟨ha, by rw [List.length_map]; exact hl, vs, _, vals_ints hi, ha⟩
    · by_cases hb : b = a
      · exact hb
      · exact absurd (if_neg hb) z
theorem walk_g {l : PySem.W.OpenLaw} {n k : Nat} {q : Program} {loose : List Str} {XP : (Str → Option Value) → Heap → Prop} {YP : World → Heap → Prop} {d : DefRec} {K : Params → PySem.W.Frag} {sp : World → Sp} {x : Str}
    (hn : l.most = some n) (hn2 : n ≤ sizeLine) (hdf : d.params.defaults = []) (hr : Room k callerA)
    (hY : ∀ (w : World) (h : Heap), YP w h → (K w.params).In h)
    (F : ∀ (w : World) (mg : Str → Option Value) (fa : Addr) (h : Heap), (K w.params).In h → h.Ns mainGlobals mg → mg d.name = some (.ref fa) →
      ∃ fd : FuncData, (∀ (s : Shared) (u : Value), BindsTo s fd ⟨[u], []⟩ [(x, u)]) ∧
        ∀ base : Heap, (K w.params).In base → base.Ns mainGlobals mg → FnOkG l.prog w (K w.params) mg base k fa fd [x] (sp w))
    (hsp : ∀ (w : World) (H : Hp) (a : Addr) (ns : List Int), ns.length ≤ n → Only H → SqL (K w.params) H a (ns.map V.int) → sp w [.ref a] H (fun v _ => v = .bl true) fun _ _ _ => False) :
    PySem.W.WalkO q loose XP YP l.row.toRowW d [] (fun f vs => PySem.call f vs) := by
  refine Att.attach_call hn hdf fun w s₀ s₁ mg mb fa o pm cd doc a vs ns G Y ho hd hcd hmg hobj hints hlen hg => ?_
  obtain ⟨fd, hb, hF⟩ := F w mg fa _ (hY w _ Y) G.T.g hmg
  exact head_call (hY w _ Y) G.T.g G.T.b G.T.builtins G.T.nolimit hg hobj hints (Nat.le_trans hlen hn2) hr hF hb (fun H hO hS => hsp w H a ns hlen hO hS)
end
end Gb

set_option maxHeartbeats 1000000
namespace Gb
open PySem L2
local macro_rules | `(tactic| walk_at "wk") => `(tactic| (repeat' (first | exact trivial | exact Or.inl rfl | exact Or.inr rfl | apply And.intro)))
section
variable {K : PySem.W.Frag} {σ : L2.St} {F H H0 F0 : Hp} {ρ : List Sv} {ta tb te : TE} {d d1 d2 : PyData} {i : Nat} {D : Ends} {tz : TS}
theorem ed_neg {z : Int} (h : Ed K te σ F H (.int z)) : Ed K (tUn rNegI te) σ F H (.int (-z)) := fun F1 H1 g Q q => h F1 H1 g _ fun v H2 F2 g2 p2 => by
  cases p2
  exact ⟨z, rfl, q _ H2 F2 g2 (.int _)⟩
end
/-! ### prices -/
structure PrOk (p : Pr) : Prop where
  dr : 0 ≤ p.dr ∧ p.dr ≤ 999
  ad : 0 ≤ p.ad ∧ p.ad ≤ 999
  ch : 0 ≤ p.ch ∧ p.ch ≤ 999
  tb : ∀ t ∈ p.tab, 0 ≤ t.2.2 ∧ t.2.2 ≤ 999
  len : p.tab.length ≤ 6
  ok : isPr (prD p) = true
  sm : sm (prD p) = true
theorem lookT_le : ∀ (l : List (Str × Str × Int)) (w o : Str) (c : Int), (∀ t ∈ l, 0 ≤ t.2.2 ∧ t.2.2 ≤ 999) → 0 ≤ c ∧ c ≤ 999 → 0 ≤ lookT l w o c ∧ lookT l w o c ≤ 999
  | [], _, _, c, _, h => h
  | t :: r, w, o, c, ht, h => by
    rw [lookT]
    split
    · exact ht t List.mem_cons_self
    · exact lookT_le r w o c (fun t h => ht t (List.mem_cons_of_mem _ h)) h
theorem PrOk.chg {p : Pr} (h : PrOk p) (w o : Str) : 0 ≤ chg p w o ∧ chg p w o ≤ 999 := by
  unfold Gb.chg
  split
  · omega
  · exact lookT_le _ _ _ _ h.tb h.ch
theorem cmul_l {i j : Int} (h : 0 ≤ i ∧ i ≤ 999) : CMul i j := .inl ⟨by omega, by omega⟩
section
variable {P : Program} {w : World} {K : PySem.W.Frag} {mg : Str → Option Value} {base : Heap}
/-! ### price_between -/
def t_price_between (K : PySem.W.Frag) : TS :=
  (tSeq (tIfS (tTest (tOp rEq (tVar 1) (tVar 2))) (tRet (tC (.int 0))) tNext)
  (tSeq (tFor (iTup K (tOp (rIx K) (tVar 0) (tC (.int 3)))) (gTup K 3 (gCons (gName 3) (gCons (gName 4) (gCons (gName 5) gNil))))
    (tIfS (tAnd (tTest (tOp rEq (tVar 3) (tVar 1))) (tTest (tOp rEq (tVar 4) (tVar 2)))) (tRet (tVar 5)) tNext))
  (tRet (tOp (rIx K) (tVar 0) (tC (.int 2))))))

theorem rd_price_between : Keeps K N_price_between R_price_between (t_price_between K) := by
  intro H F vs ds d Q x hd h q
  obtain ⟨p, w, o, rfl, rfl⟩ := h
  have E := env_start (N := N_price_between) hd
  refine st_seq (st_if (Gr.refl x) (edt_test (ed_op (ed_var E rfl) (ed_var E rfl) od_eqS)) (fun h H2 F2 G g => ?_) (fun h H2 F2 G g => ?_))
  · refine st_ret G (ed_cI (K := K)) ?_
    have e : chg p w o = 0 := if_pos (of_decide_eq_true h)
    rw [e] at q
    exact q
  · have E := E.ext g.f
    have hne : ¬ w = o := of_decide_eq_false h
    have ec : chg p w o = lookT p.tab w o p.ch := if_neg hne
    refine st_seq (st_forT G (ed_op (ed_var E rfl) (ed_cI (K := K)) (od_ixT (j := 3) rfl rfl)) fun H4 F4 G4 g4 => ⟨fun i σ' H' => ∃ F', Gr no H F H' F' ∧ Ext F4 F' ∧ Env K F' σ' [.d (prD p), .d (.str w), .d (.str o), .un, .un, .un] ∧
      lookT (p.tab.drop i) w o p.ch = chg p w o, ?_, ?_, ?_, ?_⟩)
    · exact ⟨F4, G4, Ext.rfl', E.ext g4.f, ec.symm⟩
    · rintro i σ' H' ⟨F', G', e', _⟩
      exact e'.tr G'.e
    · rintro i t v σ' H' e pv ⟨F', G', e', E', hl⟩
      rw [List.getElem?_map] at e
      cases et : p.tab[i]? with
      | none => rw [et] at e; cases e
      | some t' =>
        rw [et] at e
        obtain rfl : triD t' = t := Option.some.inj e
        obtain ⟨a, b, c⟩ := t'
        have hdr : p.tab.drop i = (a, b, c) :: p.tab.drop (i + 1) := by
          obtain ⟨h1, h2⟩ := List.getElem?_eq_some_iff.mp et
          rw [List.drop_eq_getElem_cons h1, h2]
        rw [hdr] at hl
        refine g_tup3 (Dp.ext pv e') G'.e fun v1 v2 v3 p1 p2 p3 => ?_
        have E5 : Env K F' _ [.d (prD p), .d (.str w), .d (.str o), .d (.str a), .d (.str b), .d (.int c)] := Env.set 5 (s := .d (.int c)) (Env.set 4 (s := .d (.str b)) (Env.set 3 (s := .d (.str a)) E' ⟨v1, rfl, p1⟩) ⟨v2, rfl, p2⟩) ⟨v3, rfl, p3⟩
        refine st_if (b := decide (a = w) && decide (b = o)) G' (edt_and (edt_test (ed_op (ed_var E5 rfl) (ed_var E5 rfl) od_eqS)) fun _ => edt_test (ed_op (ed_var E5 rfl) (ed_var E5 rfl) od_eqS)) (fun h H6 F6 G6 g6 => ?_) (fun h H6 F6 G6 g6 => ?_)
        · rw [Bool.and_eq_true, decide_eq_true_eq, decide_eq_true_eq] at h
          refine st_ret G6 (ed_var (E5.ext g6.f) rfl) ?_
          have e1 : chg p w o = c := by
            rw [← hl]
            exact if_pos h
          rw [e1] at q
          exact q
        · refine ⟨F6, G6, e'.tr g6.f, (E5.ext g6.f).weak (by walk_at "wk"), ?_⟩
          rw [← hl]
          have h' : ¬ (a = w ∧ b = o) := fun z => by rw [decide_eq_true z.1, decide_eq_true z.2] at h; cases h
          exact (if_neg h').symm
    · rintro σ' H' ⟨F', G', e', E', hl⟩
      dsimp only
      have e1 : (p.tab.drop (p.tab.map triD).length) = [] := by rw [List.length_map, List.drop_length]
      rw [e1] at hl
      refine st_ret G' (ed_op (ed_var E' rfl) (ed_cI (K := K)) (od_ixT (j := 2) rfl rfl)) ?_
      rw [← hl] at q
      exact q
theorem len_price_between (ds : List PyData) (d : PyData) (h : R_price_between ds d) : ds.length = 3 := by obtain ⟨_, _, _, h, _⟩ := h; rw [h]; rfl
theorem dv_price_between (T : Tx K mg) (cdv : Value) (A : Around) (outer : List PySem.Env) (s : Shared) (H : Hp) (E : XK) (hr : Room 0 (A.deeper (PyProof.Rows.envOfC "price_between" (defScope s_price_between) s.heap.objs.size T.d_price_between.f cdv))) :
    PSs (cxOf CX0 P w K mg base N_price_between "price_between" (defScope s_price_between) T.d_price_between.f cdv A outer s H E).nox (defBody s_price_between) (t_price_between K) := by
  exact (pss_cons (ps_if (pt_cmpR op_eq (pv 1) (pv 2) (nomark _)) (pss_one (ps_ret pe_int)) pss_nil)
  (pss_cons (ps_for PassesOwn.never rfl (pi_tup (pe_ix ix_seq (pv 0) pe_int (fun _ _ => rfl))) (pg_tup (by rfl) (pgs_cons (pg_name (i := 3) sc_price_between.nd rfl (Or.inl rfl)) (pgs_cons (pg_name (i := 4) sc_price_between.nd rfl (Or.inl rfl)) (pgs_cons (pg_name (i := 5) sc_price_between.nd rfl (Or.inl rfl)) pgs_nil))))
    (pss_one (ps_if (PW.pt (pw_and (pt_cmpR op_eq (pv 3) (pv 1) (nomark _)) (pw_and1 (pt_cmpR op_eq (pv 4) (pv 2) (nomark _))))) (pss_one (ps_ret (pv 5))) pss_nil)))
  (pss_one (ps_ret (pe_ix ix_seq (pv 0) pe_int (fun _ _ => rfl))))))

theorem ok_price_between (T : Tx K mg) : FnOk P w K mg base CX0 1 T.d_price_between.f T.d_price_between.fd ["prices", "word", "other"] (sp_price_between K) :=
  okD T.d_price_between.F sc_price_between (t_price_between K) len_price_between rd_price_between (fun cdv A outer s H E hr => dv_price_between T cdv A outer s H E hr)

end
/-! ### row pairs -/
def goRP (n m : Int) : Int → Int → List PyData → Bool
  | _, _, [] => true
  | i, j, .tuple [.int x, .int y] :: r => if (decide (i + 1 ≤ x) && decide (x ≤ n - 1)) = true then (if (decide (j + 1 ≤ y) && decide (y ≤ m - 1)) = true then goRP n m x y r else false) else false
  | _, _, _ :: _ => false
def areRP (n m : Int) : PyData → Bool
  | .tuple ds => goRP n m (-1) (-1) ds
  | _ => false
theorem areIs_two {d : PyData} (h : areIs d 2 = true) : ∃ x y, d = .tuple [.int x, .int y] := by
  cases d with
  | tuple l =>
    have h' : (decide ((l.length : Int) = 2) && l.all isI) = true := h
    rw [Bool.and_eq_true, decide_eq_true_eq] at h'
    match l, h'.1, h'.2 with
    | [a, b], _, h2 =>
      cases a with
      | int x =>
        cases b with
        | int y => exact ⟨x, y, rfl⟩
        | _ => simp [isI] at h2
      | _ => simp [isI] at h2
  | _ => cases h
theorem goRP_bad {n m i j : Int} {d : PyData} {r : List PyData} (h : areIs d 2 = false) : goRP n m i j (d :: r) = false := by
  unfold goRP
  split
  · rename_i heq; cases heq
  · rename_i heq
    injection heq with h1 h2
    subst h1
    rw [show areIs (.tuple [.int _, .int _]) 2 = true from rfl] at h
    cases h
  · rfl
def R_are_row_pairs (ds : List PyData) (d : PyData) : Prop := ∃ x n m, sm x = true ∧ ds = [x, .int n, .int m] ∧ d = .bool (areRP n m x)
abbrev sp_are_row_pairs (K : PySem.W.Frag) : Sp := spD K R_are_row_pairs
section
variable {P : Program} {w : World} {K : PySem.W.Frag} {mg : Str → Option Value} {base : Heap}
/-! ### are_row_pairs -/
def t_are_row_pairs (K : PySem.W.Frag) : TS :=
  (tSeq (tIfS (tNot (tB (tCB (rIsi K) (tCons (tVar 0) (tCons (tC (.ty "tuple")) tNil))))) (tRet (tC (.bl false))) tNext)
  (tSeq (tAsg (tUn rNegI (tC (.int 1))) (gName 3))
  (tSeq (tAsg (tUn rNegI (tC (.int 1))) (gName 4))
  (tSeq (tFor (iTup K (tVar 0)) (gName 5)
    (tSeq (tIfS (tOr (tNot (tB (tCall (sp_are_ints K) [] E0 (tCons (tVar 5) (tCons (tC (.int 2)) tNil))))) (tNot (tB (tCall (sp_is_between K) [] E0 (tCons (tOp (rIx K) (tVar 5) (tC (.int 0))) (tCons (tOp rAddI (tVar 3) (tC (.int 1))) (tCons (tOp rSubI (tVar 1) (tC (.int 1))) tNil))))))) (tRet (tC (.bl false))) tNext)
  (tSeq (tIfS (tNot (tB (tCall (sp_is_between K) [] E0 (tCons (tOp (rIx K) (tVar 5) (tC (.int 1))) (tCons (tOp rAddI (tVar 4) (tC (.int 1))) (tCons (tOp rSubI (tVar 2) (tC (.int 1))) tNil)))))) (tRet (tC (.bl false))) tNext)
  (tAsg (tVar 5) (gTup K 2 (gCons (gName 3) (gCons (gName 4) gNil)))))))
  (tRet (tC (.bl true)))))))

theorem rd_are_row_pairs : Keeps K N_are_row_pairs R_are_row_pairs (t_are_row_pairs K) := by
  intro H F vs ds d Q x hd h q
  obtain ⟨a, n, m, hs, rfl, rfl⟩ := h
  have E := env_start (N := N_are_row_pairs) hd
  cases a with
  | tuple es =>
    obtain ⟨hl, ha⟩ := sm_tup hs
    refine st_seq (st_if (b := !true) (Gr.refl x) (edt_not (edt_B (ed_isi (ed_var E rfl) (kit_tuple _)))) (fun h => nomatch h) (fun h H2 F2 G g => ?_))
    have E := E.ext g.f
    refine st_seq (st_set G E (ed_neg (ed_cI (K := K))) fun v H3 F3 G3 g3 p3 E3 => ?_)
    refine st_seq (st_set G3 E3 (ed_neg (ed_cI (K := K))) fun v H4 F4 G4 g4 p4 E4 => ?_)
    refine st_seq (st_forT G4 (ed_var E4 rfl) fun H5 F5 G5 g5 => ⟨fun k σ' H' => ∃ F' i j, Gr no H F H' F' ∧ Ext F5 F' ∧ Env K F' σ' [.d (.tuple es), .d (.int n), .d (.int m), .d (.int i), .d (.int j), .un] ∧
      goRP n m i j (es.drop k) = areRP n m (.tuple es), ?_, ?_, ?_, ?_⟩)
    · exact ⟨F5, _, _, G5, Ext.rfl', E4.ext g5.f, rfl⟩
    · rintro i σ' H' ⟨F', _, _, G', e', _⟩
      exact e'.tr G'.e
    · rintro k t v σ' H' e p ⟨F', i, j, G', e', E', hg⟩
      have st : sm t = true := smAll_get ha e
      have hdr : es.drop k = t :: es.drop (k + 1) := by
        obtain ⟨h1, h2⟩ := List.getElem?_eq_some_iff.mp e
        rw [List.drop_eq_getElem_cons h1, h2]
      rw [hdr] at hg
      have E5 : Env K F' (σ'.set 5 (some v)) [.d (.tuple es), .d (.int n), .d (.int m), .d (.int i), .d (.int j), .d t] := Env.set 5 (s := .d t) E' ⟨v, rfl, Dp.ext p e'⟩
      have bad : goRP n m i j (t :: es.drop (k + 1)) = false → Rt K H F (.bool false) Q := fun hb => by
        rw [← hg, hb] at q
        exact q
      by_cases hi : areIs t 2 = true
      · obtain ⟨y, z, rfl⟩ := areIs_two hi
        refine st_seq (st_if (b := (!true) || !(betw (.int y) (i + 1) (n - 1))) G' (edt_or (edt_not (edt_B (ed_call (eda_cons (ed_var E5 rfl) (eda_cons (ed_cI (K := K)) eda_nil)) ⟨_, _, st, rfl, by rw [hi]⟩))) fun _ =>
          edt_not (edt_B (ed_call (eda_cons (ed_op (ed_var E5 rfl) (ed_cI (K := K)) (od_ixT (j := 0) rfl rfl)) (eda_cons (ed_op (ed_var E5 rfl) (ed_cI (K := K)) od_add) (eda_cons (ed_op (ed_var E5 rfl) (ed_cI (K := K)) od_sub) eda_nil))) ⟨_, _, _, rfl, rfl⟩))) (fun h H6 F6 G6 g6 => ?_) (fun h H6 F6 G6 g6 => ?_))
        · refine st_ret G6 (ed_cB (K := K)) (bad ?_)
          have h' : ¬ (decide (i + 1 ≤ y) && decide (y ≤ n - 1)) = true := by
            intro z
            have h2 : ((!true) || !(decide (i + 1 ≤ y) && decide (y ≤ n - 1))) = true := h
            rw [z] at h2; cases h2
          exact if_neg h'
        · have h1 : (decide (i + 1 ≤ y) && decide (y ≤ n - 1)) = true := by
            have h2 : ((!true) || !(decide (i + 1 ≤ y) && decide (y ≤ n - 1))) = false := h
            cases hh : (decide (i + 1 ≤ y) && decide (y ≤ n - 1)) with
            | true => rfl
            | false => rw [hh] at h2; cases h2
          have E6 := E5.ext g6.f
          have hg1 : (if (decide (j + 1 ≤ z) && decide (z ≤ m - 1)) = true then goRP n m y z (es.drop (k + 1)) else false) = areRP n m (.tuple es) := by
            rw [← hg]
            exact (if_pos h1).symm
          refine st_seq (st_if (b := !(betw (.int z) (j + 1) (m - 1))) G6 (edt_not (edt_B (ed_call (eda_cons (ed_op (ed_var E6 rfl) (ed_cI (K := K)) (od_ixT (j := 1) rfl rfl)) (eda_cons (ed_op (ed_var E6 rfl) (ed_cI (K := K)) od_add) (eda_cons (ed_op (ed_var E6 rfl) (ed_cI (K := K)) od_sub) eda_nil))) ⟨_, _, _, rfl, rfl⟩))) (fun h H7 F7 G7 g7 => ?_) (fun h H7 F7 G7 g7 => ?_))
          · refine st_ret G7 (ed_cB (K := K)) ?_
            have h' : ¬ (decide (j + 1 ≤ z) && decide (z ≤ m - 1)) = true := by
              intro zz
              have h2 : (!(decide (j + 1 ≤ z) && decide (z ≤ m - 1))) = true := h
              rw [zz] at h2; cases h2
            rw [← hg1, if_neg h'] at q
            exact q
          · have h3 : (decide (j + 1 ≤ z) && decide (z ≤ m - 1)) = true := by
              have h2 : (!(decide (j + 1 ≤ z) && decide (z ≤ m - 1))) = false := h
              cases hh : (decide (j + 1 ≤ z) && decide (z ≤ m - 1)) with
              | true => rfl
              | false => rw [hh] at h2; cases h2
            refine st_pair G7 (E6.ext g7.f) (ed_var (E6.ext g7.f) rfl) fun σ2 H8 F8 G8 g8 E8 => ?_
            refine ⟨F8, y, z, G8, ((e'.tr g6.f).tr g7.f).tr g8.f, E8.weak (by walk_at "wk"), ?_⟩
            rw [← hg1, if_pos h3]
      · have hi' : areIs t 2 = false := by simpa using hi
        refine st_seq (st_if (b := (!false) || false) G' (edt_or (edt_not (edt_B (ed_call (eda_cons (ed_var E5 rfl) (eda_cons (ed_cI (K := K)) eda_nil)) ⟨_, _, st, rfl, by rw [hi']⟩))) fun z => nomatch z) (fun h H6 F6 G6 g6 => ?_) (fun h => nomatch h))
        exact st_ret G6 (ed_cB (K := K)) (bad (goRP_bad hi'))
    · rintro σ' H' ⟨F', i, j, G', e', E', hg⟩
      dsimp only
      refine st_ret G' (ed_cB (K := K)) ?_
      rw [List.drop_length] at hg
      rw [← hg] at q
      exact q
  | _ =>
    refine st_seq (st_if (b := !false) (Gr.refl x) (edt_not (edt_B (ed_isi (ed_var E rfl) (kit_tuple _)))) (fun h H2 F2 G g => st_ret G (ed_cB (K := K)) q) (fun h => nomatch h))
theorem len_are_row_pairs (ds : List PyData) (d : PyData) (h : R_are_row_pairs ds d) : ds.length = 3 := by obtain ⟨_, _, _, _, h, _⟩ := h; rw [h]; rfl
theorem dv_are_row_pairs (T : Tx K mg) (cdv : Value) (A : Around) (outer : List PySem.Env) (s : Shared) (H : Hp) (E : XK) (hr : Room 2 (A.deeper (PyProof.Rows.envOfC "are_row_pairs" (defScope s_are_row_pairs) s.heap.objs.size T.d_are_row_pairs.f cdv))) :
    PSs (cxOf CX0 P w K mg base N_are_row_pairs "are_row_pairs" (defScope s_are_row_pairs) T.d_are_row_pairs.f cdv A outer s H E).nox (defBody s_are_row_pairs) (t_are_row_pairs K) := by
  exact (pss_cons (ps_if (pt_not (pt_val (pe_callB call_isi (by rfl) T.n_isinstance (by decide +kernel) (pa_cons (pv 0) (pa_cons (pe_bltn (v := .ty "tuple") (by rfl) T.n_tuple (by decide +kernel) rfl) pa_nil))))) (pss_one (ps_ret pe_bl)) pss_nil)
  (pss_cons (ps_set (i := 3) sc_are_row_pairs.nd rfl (Or.inl rfl) (pe_un un_neg pe_int))
  (pss_cons (ps_set (i := 4) sc_are_row_pairs.nd rfl (Or.inl rfl) (pe_un un_neg pe_int))
  (pss_cons (ps_for PassesOwn.never rfl (pi_tup (pv 0)) (pg_name (i := 5) sc_are_row_pairs.nd rfl (Or.inl rfl))
    (pss_cons (ps_if (PW.pt (pw_or (pt_not (pt_val (pe_call (ok_are_ints T) (hr.mono (by decide)) (by rfl) T.d_are_ints.g T.d_are_ints.F.kp T.d_are_ints.b .nil pass0 (pa_cons (pv 5) (pa_cons pe_int pa_nil))))) (pw_or1 (pt_not (pt_val (pe_call (ok_is_between T) (hr.mono (by decide)) (by rfl) T.d_is_between.g T.d_is_between.F.kp T.d_is_between.b .nil pass0 (pa_cons (pe_ix ix_seq (pv 5) pe_int (fun _ _ => rfl)) (pa_cons (pe_op op_add (pv 3) pe_int) (pa_cons (pe_op op_sub (pv 1) pe_int) pa_nil))))))))) (pss_one (ps_ret pe_bl)) pss_nil)
  (pss_cons (ps_if (pt_not (pt_val (pe_call (ok_is_between T) (hr.mono (by decide)) (by rfl) T.d_is_between.g T.d_is_between.F.kp T.d_is_between.b .nil pass0 (pa_cons (pe_ix ix_seq (pv 5) pe_int (fun _ _ => rfl)) (pa_cons (pe_op op_add (pv 4) pe_int) (pa_cons (pe_op op_sub (pv 2) pe_int) pa_nil)))))) (pss_one (ps_ret pe_bl)) pss_nil)
  (pss_one (ps_asg (pv 5) (pg_tup (by rfl) (pgs_cons (pg_name (i := 3) sc_are_row_pairs.nd rfl (Or.inl rfl)) (pgs_cons (pg_name (i := 4) sc_are_row_pairs.nd rfl (Or.inl rfl)) pgs_nil))))))))
  (pss_one (ps_ret pe_bl))))))

theorem ok_are_row_pairs (T : Tx K mg) : FnOk P w K mg base CX0 3 T.d_are_row_pairs.f T.d_are_row_pairs.fd ["value", "first", "second"] (sp_are_row_pairs K) :=
  okD T.d_are_row_pairs.F sc_are_row_pairs (t_are_row_pairs K) len_are_row_pairs rd_are_row_pairs (fun cdv A outer s H E hr => dv_are_row_pairs T cdv A outer s H E hr)

end
/-! ### the price of pairs -/
def wAt (a : List Str) (i : Nat) : Str := a.getD i ""
def rowD (t : Bool) (a : List Str) : PyData := sqD t (a.map .str)
def pairD (q : Nat × Nat) : PyData := .tuple [.int (q.1 : Int), .int (q.2 : Int)]
def chgs (p : Pr) (a b : List Str) : List (Nat × Nat) → Int
  | [] => 0
  | q :: r => chg p (wAt a q.1) (wAt b q.2) + chgs p a b r
def priceOf (p : Pr) (a b : List Str) (l : List (Nat × Nat)) : Int := p.dr * ((a.length : Int) - l.length) + p.ad * ((b.length : Int) - l.length) + chgs p a b l
theorem wAt_get {a : List Str} {i : Nat} (h : i < a.length) : (a.map PyData.str)[i]? = some (.str (wAt a i)) := by
  rw [List.getElem?_map]
  unfold wAt
  rw [List.getD_eq_getElem?_getD, List.getElem?_eq_getElem h]
  rfl
theorem od_word {K : PySem.W.Frag} {t : Bool} {a : List Str} {z : Int} {i : Nat} (e : z = (i : Int)) (h : i < a.length) : OpD K (rIx K) (rowD t a) (.int z) (.str (wAt a i)) := od_ix e (wAt_get h)
theorem cd_lenR {K : PySem.W.Frag} {t : Bool} {a : List Str} : CbD K (rLenQ K) [rowD t a] (.int (a.length : Int)) := by
  have h := cd_len (K := K) (tp := t) (ds := a.map PyData.str)
  rw [List.length_map] at h
  exact h
def inR (a b : List Str) (l : List (Nat × Nat)) : Prop := ∀ q ∈ l, q.1 < a.length ∧ q.2 < b.length
def R_pairs_price (ds : List PyData) (d : PyData) : Prop := ∃ ta tb a b p l, PrOk p ∧ inR a b l ∧ ds = [rowD ta a, rowD tb b, prD p, .tuple (l.map pairD)] ∧ d = .int (priceOf p a b l)
abbrev sp_pairs_price (K : PySem.W.Frag) : Sp := spD K R_pairs_price
section
variable {P : Program} {w : World} {K : PySem.W.Frag} {mg : Str → Option Value} {base : Heap}
/-! ### pairs_price -/
def t_pairs_price (K : PySem.W.Frag) : TS :=
  (tSeq (tAsg (tOp rAddI (tOp rMulI (tOp (rIx K) (tVar 2) (tC (.int 0))) (tOp rSubI (tCB (rLenQ K) (tCons (tVar 0) tNil)) (tCB (rLenQ K) (tCons (tVar 3) tNil)))) (tOp rMulI (tOp (rIx K) (tVar 2) (tC (.int 1))) (tOp rSubI (tCB (rLenQ K) (tCons (tVar 1) tNil)) (tCB (rLenQ K) (tCons (tVar 3) tNil))))) (gName 4))
  (tSeq (tFor (iTup K (tVar 3)) (gTup K 2 (gCons (gName 5) (gCons (gName 6) gNil)))
    (tAsg (tOp rAddI (tVar 4) (tCall (sp_price_between K) [] E0 (tCons (tVar 2) (tCons (tOp (rIx K) (tVar 0) (tVar 5)) (tCons (tOp (rIx K) (tVar 1) (tVar 6)) tNil))))) (gName 4)))
  (tRet (tVar 4))))

theorem rd_pairs_price : Keeps K N_pairs_price R_pairs_price (t_pairs_price K) := by
  intro H F vs ds d Q x hd h q
  obtain ⟨ta, tb, a, b, p, l, ok, hin, rfl, rfl⟩ := h
  have E := env_start (N := N_pairs_price) hd
  have hlen : CbD K (rLenQ K) [.tuple (l.map pairD)] (.int (l.length : Int)) := by
    have h := cd_lenT (K := K) (ds := l.map pairD)
    rw [List.length_map] at h
    exact h
  refine st_seq (st_set (Gr.refl x) E (d := .int (p.dr * ((a.length : Int) - l.length) + p.ad * ((b.length : Int) - l.length))) (ed_op (ed_op (ed_op (ed_var E rfl) (ed_cI (K := K)) (od_ixT (j := 0) rfl rfl)) (ed_op (ed_cb (eda_cons (ed_var E rfl) eda_nil) cd_lenR) (ed_cb (eda_cons (ed_var E rfl) eda_nil) hlen) od_sub) (od_mul (cmul_l ok.dr)))
    (ed_op (ed_op (ed_var E rfl) (ed_cI (K := K)) (od_ixT (j := 1) rfl rfl)) (ed_op (ed_cb (eda_cons (ed_var E rfl) eda_nil) cd_lenR) (ed_cb (eda_cons (ed_var E rfl) eda_nil) hlen) od_sub) (od_mul (cmul_l ok.ad))) od_add) fun v H2 F2 G g pv E2 => ?_)
  refine st_seq (st_forT G (ed_var E2 rfl) fun H4 F4 G4 g4 => ⟨fun i σ' H' => ∃ F' z, Gr no H F H' F' ∧ Ext F4 F' ∧ Env K F' σ' [.d (rowD ta a), .d (rowD tb b), .d (prD p), .d (.tuple (l.map pairD)), .d (.int z), .un, .un] ∧
      z + chgs p a b (l.drop i) = priceOf p a b l, ?_, ?_, ?_, ?_⟩)
  · exact ⟨F4, _, G4, Ext.rfl', E2.ext g4.f, rfl⟩
  · rintro i σ' H' ⟨F', _, G', e', _⟩
    exact e'.tr G'.e
  · rintro i t v σ' H' e pv ⟨F', z, G', e', E', hl⟩
    rw [List.getElem?_map] at e
    cases et : l[i]? with
    | none => rw [et] at e; cases e
    | some t' =>
      rw [et] at e
      obtain rfl : pairD t' = t := Option.some.inj e
      have hdr : l.drop i = t' :: l.drop (i + 1) := by
        obtain ⟨h1, h2⟩ := List.getElem?_eq_some_iff.mp et
        rw [List.drop_eq_getElem_cons h1, h2]
      have hm := hin t' (List.mem_of_getElem? et)
      rw [hdr] at hl
      refine g_tup2 (Dp.ext pv e') G'.e fun v1 v2 p1 p2 => ?_
      have E5 : Env K F' _ [.d (rowD ta a), .d (rowD tb b), .d (prD p), .d (.tuple (l.map pairD)), .d (.int z), .d (.int (t'.1 : Int)), .d (.int (t'.2 : Int))] := Env.set 6 (s := .d (.int (t'.2 : Int))) (Env.set 5 (s := .d (.int (t'.1 : Int))) E' ⟨v1, rfl, p1⟩) ⟨v2, rfl, p2⟩
      refine st_set G' E5 (ed_op (ed_var E5 rfl) (ed_call (eda_cons (ed_var E5 rfl) (eda_cons (ed_op (ed_var E5 rfl) (ed_var E5 rfl) (od_word rfl hm.1)) (eda_cons (ed_op (ed_var E5 rfl) (ed_var E5 rfl) (od_word rfl hm.2)) eda_nil))) ⟨_, _, _, rfl, rfl⟩) od_add) fun v6 H6 F6 G6 g6 p6 E6 => ?_
      refine ⟨F6, _, G6, e'.tr g6.f, E6.weak (by walk_at "wk"), ?_⟩
      rw [← hl]
      show z + _ + _ = z + (_ + _)
      omega
  · rintro σ' H' ⟨F', z, G', e', E', hl⟩
    dsimp only
    have e1 : (l.drop (l.map pairD).length) = [] := by rw [List.length_map, List.drop_length]
    rw [e1] at hl
    refine st_ret G' (ed_var E' rfl) ?_
    have hl' : z + 0 = priceOf p a b l := hl
    rw [← hl', Int.add_zero] at q
    exact q
theorem len_pairs_price (ds : List PyData) (d : PyData) (h : R_pairs_price ds d) : ds.length = 4 := by obtain ⟨_, _, _, _, _, _, _, _, h, _⟩ := h; rw [h]; rfl
theorem dv_pairs_price (T : Tx K mg) (cdv : Value) (A : Around) (outer : List PySem.Env) (s : Shared) (H : Hp) (E : XK) (hr : Room 1 (A.deeper (PyProof.Rows.envOfC "pairs_price" (defScope s_pairs_price) s.heap.objs.size T.d_pairs_price.f cdv))) :
    PSs (cxOf CX0 P w K mg base N_pairs_price "pairs_price" (defScope s_pairs_price) T.d_pairs_price.f cdv A outer s H E).nox (defBody s_pairs_price) (t_pairs_price K) := by
  exact (pss_cons (ps_set (i := 4) sc_pairs_price.nd rfl (Or.inl rfl) (pe_op op_add (pe_op op_mul (pe_ix ix_seq (pv 2) pe_int (fun _ _ => rfl)) (pe_op op_sub (pe_callB call_lenQ (by rfl) T.n_len (by decide +kernel) (pa_cons (pv 0) pa_nil)) (pe_callB call_lenQ (by rfl) T.n_len (by decide +kernel) (pa_cons (pv 3) pa_nil)))) (pe_op op_mul (pe_ix ix_seq (pv 2) pe_int (fun _ _ => rfl)) (pe_op op_sub (pe_callB call_lenQ (by rfl) T.n_len (by decide +kernel) (pa_cons (pv 1) pa_nil)) (pe_callB call_lenQ (by rfl) T.n_len (by decide +kernel) (pa_cons (pv 3) pa_nil))))))
  (pss_cons (ps_for PassesOwn.never rfl (pi_tup (pv 3)) (pg_tup (by rfl) (pgs_cons (pg_name (i := 5) sc_pairs_price.nd rfl (Or.inl rfl)) (pgs_cons (pg_name (i := 6) sc_pairs_price.nd rfl (Or.inl rfl)) pgs_nil)))
    (pss_one (ps_set (i := 4) sc_pairs_price.nd rfl (Or.inl rfl) (pe_op op_add (pv 4) (pe_call (ok_price_between T) (hr.mono (by decide)) (by rfl) T.d_price_between.g T.d_price_between.F.kp T.d_price_between.b .nil pass0 (pa_cons (pv 2) (pa_cons (pe_ix ix_seq (pv 0) (pv 5) (fun _ _ => rfl)) (pa_cons (pe_ix ix_seq (pv 1) (pv 6) (fun _ _ => rfl)) pa_nil))))))))
  (pss_one (ps_ret (pv 4)))))

theorem ok_pairs_price (T : Tx K mg) : FnOk P w K mg base CX0 2 T.d_pairs_price.f T.d_pairs_price.fd ["a", "b", "prices", "matching"] (sp_pairs_price K) :=
  okD T.d_pairs_price.F sc_pairs_price (t_pairs_price K) len_pairs_price rd_pairs_price (fun cdv A outer s H E hr => dv_pairs_price T cdv A outer s H E hr)

end
end Gb

set_option maxHeartbeats 1000000
namespace Gb
open PySem L2
/-- an error of the class at C that holds the data x -/
def RtE (K : PySem.W.Frag) (H F : Hp) (C : Addr) (x : PyData) (E : XK) : Prop := ∀ v H2 F2 dd, Gr no H F H2 F2 → Dp K F2 v x → H2 dd = none → E (.ref C) (some dd) (upd H2 dd (.xd [(("value" : Str), v)]))
def Out (K : PySem.W.Frag) (R : List PyData → PyData → Prop) (RE : List PyData → Addr → PyData → Prop) (H F : Hp) (ds : List PyData) (Q : VK) (E : XK) : Prop :=
  (∃ d, R ds d ∧ Rt K H F d Q) ∨ ∃ C x, RE ds C x ∧ RtE K H F C x E
def spX (K : PySem.W.Frag) (R : List PyData → PyData → Prop) (RE : List PyData → Addr → PyData → Prop) : Sp := fun vs H Q E => ∃ F ds, Ext F H ∧ DpAll K F vs ds ∧ Out K R RE H F ds Q E
theorem spX_of {K : PySem.W.Frag} {R : List PyData → PyData → Prop} {RE : List PyData → Addr → PyData → Prop} (vs : List V) (H : Hp) (Q : VK) (E : XK) (h : spD K R vs H Q E) : spX K R RE vs H Q E := by
  obtain ⟨F, ds, d, x, hd, r, q⟩ := h
  exact ⟨F, ds, x, hd, .inl ⟨d, r, q⟩⟩
def KeepsX (K : PySem.W.Frag) (N : List Str) (R : List PyData → PyData → Prop) (RE : List PyData → Addr → PyData → Prop) (t : XK → TS) : Prop :=
  ∀ (H F : Hp) (vs : List V) (ds : List PyData) (Q : VK) (E : XK), Ext F H → DpAll K F vs ds → Out K R RE H F ds Q E → t E { nx := fun _ H' => Q .non H', rt := Q } (L2.start N vs) H
section
variable {K : PySem.W.Frag} {σ : L2.St} {F H H0 F0 : Hp} {te : TE} {d : PyData} {D : Ends}
theorem RtE.step {C : Addr} {x : PyData} {E : XK} (q : RtE K H0 F0 C x E) (G : Gr no H0 F0 H F) : RtE K H F C x E := fun v H2 F2 dd g p hn => q v H2 F2 dd (G.tr g) p hn
theorem st_raise {C : Addr} {E : XK} (G : Gr no H0 F0 H F) (h : Ed K te σ F H d) (q : RtE K H0 F0 C d E) : tRaiseErr C (fun cls d _ H => E cls d H) (tCons te tNil) D σ H := h F H (Gr.refl G.e) _ fun v H2 F2 g p =>
  ⟨v, rfl, fun dd hn => q v H2 F2 dd (G.tr g) p hn⟩
theorem ed_callX {R : List PyData → PyData → Prop} {RE : List PyData → Addr → PyData → Prop} {t : TA} {ds : List PyData} {E : XK} (h : Eda K t σ F H ds) (hr : R ds d) : Ed K (tCall (spX K R RE) [] E t) σ F H d := fun F1 H1 g Q q =>
  h F1 H1 g _ fun vs H2 F2 g2 p2 => ⟨F2, ds, g2.e, by rw [List.append_nil]; exact p2, .inl ⟨d, hr, fun v H3 F3 g3 p3 => q v H3 F3 (g2.tr g3) p3⟩⟩
/-- a call that raises -/
theorem st_dropX {R : List PyData → PyData → Prop} {RE : List PyData → Addr → PyData → Prop} {t : TA} {ds : List PyData} {E : XK} {C : Addr} {x : PyData} (G : Gr no H0 F0 H F) (h : Eda K t σ F H ds) (hr : RE ds C x) (q : RtE K H0 F0 C x E) : tDrop (tCall (spX K R RE) [] E t) D σ H :=
  h F H (Gr.refl G.e) _ fun vs H2 F2 g2 p2 => ⟨F2, ds, g2.e, by rw [List.append_nil]; exact p2, .inr ⟨C, x, hr, q.step (G.tr g2)⟩⟩
end
section
variable {P : Program} {w : World} {K : PySem.W.Frag} {mg : Str → Option Value} {base : Heap}
theorem okXD {x qual : Str} {st : Stmt} {f : Addr} {fd : FuncData} {N ps : List Str} {k : Nat} {R : List PyData → PyData → Prop} {RE : List PyData → Addr → PyData → Prop} (F : Fun K x qual st f fd) (S : FnScope N ps (defScope st)) (t : XK → TS)
    (hl : ∀ ds d, R ds d → ds.length = ps.length) (hl2 : ∀ ds C x, RE ds C x → ds.length = ps.length) (rd : KeepsX K N R RE t)
    (dv : ∀ (cdv : Value) (A : Around) (outer : List PySem.Env) (s : Shared) (H : Hp) (E : XK), Room k (A.deeper (PyProof.Rows.envOfC qual (defScope st) s.heap.objs.size f cdv)) →
      PSs (cxOf (L2.CX P w) P w K mg base N qual (defScope st) f cdv A outer s H E) (defBody st) (t E)) : FnOk P w K mg base (L2.CX P w) (k + 1) f fd ps (spX K R RE) := by
  refine F.okX S (fun vs H Q E h => ?_) (fun cdv A outer s H vs Q E hr h => ⟨t E, dv cdv A outer s H E hr, ?_⟩)
  · obtain ⟨F0, ds, x, hd, o⟩ := h
    rw [DpAll.len hd]
    rcases o with ⟨d, r, _⟩ | ⟨C, x, r, _⟩
    · exact hl ds d r
    · exact hl2 ds C x r
  · obtain ⟨F0, ds, x, hd, o⟩ := h
    exact rd H F0 vs ds Q E x hd o
end
/-! ### need_prices -/
def R_need_prices (ds : List PyData) (d : PyData) : Prop := ∃ x, sm x = true ∧ isPr x = true ∧ ds = [x] ∧ d = .none
def RE_need_prices (CP : Addr) (ds : List PyData) (C : Addr) (x : PyData) : Prop := sm x = true ∧ isPr x = false ∧ ds = [x] ∧ C = CP
abbrev sp_need_prices (K : PySem.W.Frag) : Sp := spD K R_need_prices
def t_need_prices (K : PySem.W.Frag) (CP : Addr) (E : XK) : TS := tIfS (tNot (tB (tCall (sp_is_prices K) [] E0 (tCons (tVar 0) tNil)))) (tRaiseErr CP (fun cls d _ H => E cls d H) (tCons (tVar 0) tNil)) tNext
theorem rd_need_prices {K : PySem.W.Frag} {CP : Addr} : KeepsX K N_need_prices R_need_prices (RE_need_prices CP) (t_need_prices K CP) := by
  intro H F vs ds Q E0' x hd o
  rcases o with ⟨d, ⟨a, hs, hp, rfl, rfl⟩, q⟩ | ⟨C, a, ⟨hs, hp, rfl, rfl⟩, q⟩
  · have E := env_start (N := N_need_prices) hd
    refine st_if (b := !true) (Gr.refl x) (edt_not (edt_B (ed_call (eda_cons (ed_var E rfl) eda_nil) ⟨_, hs, rfl, by rw [hp]⟩))) (fun h => nomatch h) (fun h H2 F2 G g => ?_)
    exact q .non H2 F2 G .non
  · have E := env_start (N := N_need_prices) hd
    refine st_if (b := !false) (Gr.refl x) (edt_not (edt_B (ed_call (eda_cons (ed_var E rfl) eda_nil) ⟨_, hs, rfl, by rw [hp]⟩))) (fun h H2 F2 G g => ?_) (fun h => nomatch h)
    exact st_raise G (ed_var (E.ext g.f) rfl) q
/-- what the top has written of the two errors -/
structure Errs (P : Program) (K : PySem.W.Frag) (mg : Str → Option Value) (CP CM : Addr) : Prop where
  p : ∃ f cc cd, ErrTxt P K mg "InvalidPrices" CP f cc cd
  m : ∃ f cc cd, ErrTxt P K mg "InvalidMatching" CM f cc cd
section
variable {P : Program} {w : World} {K : PySem.W.Frag} {mg : Str → Option Value} {base : Heap} {CP CM : Addr}
theorem ok_need_pricesX (T : Tx K mg) (X : Errs P K mg CP CM) : FnOk P w K mg base (L2.CX P w) 5 T.d_need_prices.f T.d_need_prices.fd ["prices"] (spX K R_need_prices (RE_need_prices CP)) := by
  obtain ⟨f, cc, cd, e⟩ := X.p
  refine okXD T.d_need_prices.F sc_need_prices (t_need_prices K CP) (fun ds d h => ?_) (fun ds C x h => ?_) rd_need_prices (fun cdv A outer s H E hr => ?_)
  · obtain ⟨_, _, _, h, _⟩ := h; rw [h]; rfl
  · obtain ⟨_, _, h, _⟩ := h; rw [h]; rfl
  · exact (pss_one (ps_if (pt_not (pt_val (pe_call (ok_is_prices T) (hr.mono (by decide)) (by rfl) T.d_is_prices.g T.d_is_prices.F.kp T.d_is_prices.b .nil pass0 (pa_cons (pv 0) pa_nil)))) (pss_one (ps_raiseErr rfl e hr (takes_of rfl rfl rfl rfl) (by exact (pa_cons (pv 0) pa_nil)) (by rfl))) pss_nil))
theorem ok_need_prices (T : Tx K mg) (X : Errs P K mg CP CM) : FnOk P w K mg base (L2.CX P w) 5 T.d_need_prices.f T.d_need_prices.fd ["prices"] (sp_need_prices K) := (ok_need_pricesX T X).imp spX_of
end
/-! ### row_price -/
theorem goRP_pairs (n m : Nat) : ∀ (l : List PyData) (i j : Int), -1 ≤ i → -1 ≤ j → goRP n m i j l = true → ∃ ps : List (Nat × Nat), l = ps.map pairD ∧ ∀ q ∈ ps, q.1 < n ∧ q.2 < m
  | [], _, _, _, _, _ => ⟨[], rfl, fun _ h => nomatch h⟩
  | d :: r, i, j, hi, hj, h => by
    by_cases ha : areIs d 2 = true
    · obtain ⟨x, y, rfl⟩ := areIs_two ha
      have h' : (if (decide (i + 1 ≤ x) && decide (x ≤ (n : Int) - 1)) = true then (if (decide (j + 1 ≤ y) && decide (y ≤ (m : Int) - 1)) = true then goRP n m x y r else false) else false) = true := h
      split at h'
      · rename_i h1
        split at h'
        · rename_i h2
          rw [Bool.and_eq_true, decide_eq_true_eq, decide_eq_true_eq] at h1 h2
          obtain ⟨ps, e, hp⟩ := goRP_pairs n m r x y (by omega) (by omega) h'
          refine ⟨(x.toNat, y.toNat) :: ps, ?_, fun q hq => ?_⟩
          · rw [e, List.map_cons]
            have e1 : ((x.toNat : Nat) : Int) = x := by omega
            have e2 : ((y.toNat : Nat) : Int) = y := by omega
            unfold pairD
            dsimp only
            rw [e1, e2]
          · rcases List.mem_cons.mp hq with rfl | hq
            · dsimp only; omega
            · exact hp q hq
        · cases h'
      · cases h'
    · rw [goRP_bad (by simpa using ha)] at h; cases h
theorem areRP_pairs {n m : Nat} {x : PyData} (h : areRP n m x = true) : ∃ ps : List (Nat × Nat), x = .tuple (ps.map pairD) ∧ ∀ q ∈ ps, q.1 < n ∧ q.2 < m := by
  cases x with
  | tuple l =>
    obtain ⟨ps, e, hp⟩ := goRP_pairs n m l (-1) (-1) (by omega) (by omega) h
    exact ⟨ps, by rw [e], hp⟩
  | _ => cases h
def R_row_price (ds : List PyData) (d : PyData) : Prop := ∃ ta tb a b p l, PrOk p ∧ sm (.tuple (l.map pairD)) = true ∧ areRP (a.length : Int) (b.length : Int) (.tuple (l.map pairD)) = true ∧ inR a b l ∧ ds = [rowD ta a, rowD tb b, prD p, .tuple (l.map pairD)] ∧ d = .int (priceOf p a b l)
def RE_row_price (CP CM : Addr) (ds : List PyData) (C : Addr) (x : PyData) : Prop := (∃ y z m, sm x = true ∧ isPr x = false ∧ ds = [y, z, x, m] ∧ C = CP) ∨
  ∃ ta tb a b p, PrOk p ∧ sm x = true ∧ areRP ((a : List Str).length : Int) ((b : List Str).length : Int) x = false ∧ ds = [rowD ta a, rowD tb b, prD p, x] ∧ C = CM
def t_row_price (K : PySem.W.Frag) (CP CM : Addr) (E : XK) : TS := tSeq (tDrop (tCall (spX K R_need_prices (RE_need_prices CP)) [] E (tCons (tVar 2) tNil)))
  (tSeq (tIfS (tNot (tB (tCall (sp_are_row_pairs K) [] E0 (tCons (tVar 3) (tCons (tCB (rLenQ K) (tCons (tVar 0) tNil)) (tCons (tCB (rLenQ K) (tCons (tVar 1) tNil)) tNil)))))) (tRaiseErr CM (fun cls d _ H => E cls d H) (tCons (tVar 3) tNil)) tNext)
  (tRet (tCall (sp_pairs_price K) [] E0 (tCons (tVar 0) (tCons (tVar 1) (tCons (tVar 2) (tCons (tVar 3) tNil)))))))
theorem rd_row_price {K : PySem.W.Frag} {CP CM : Addr} : KeepsX K N_row_price R_row_price (RE_row_price CP CM) (t_row_price K CP CM) := by
  intro H F vs ds Q E0' x hd o
  rcases o with ⟨d, ⟨ta, tb, a, b, p, l, ok, hs, hr, hin, rfl, rfl⟩, q⟩ | ⟨C, a, ⟨y, z, m, hs, hp, rfl, rfl⟩ | ⟨ta, tb, a', b, p, ok, hs, hr, rfl, rfl⟩, q⟩
  · have E := env_start (N := N_row_price) hd
    refine st_seq (st_drop (Gr.refl x) (ed_callX (eda_cons (ed_var E rfl) eda_nil) ⟨_, ok.sm, ok.ok, rfl, rfl⟩) fun H2 F2 G g => ?_)
    have E := E.ext g.f
    refine st_seq (st_if (b := !true) G (edt_not (edt_B (ed_call (eda_cons (ed_var E rfl) (eda_cons (ed_cb (eda_cons (ed_var E rfl) eda_nil) cd_lenR) (eda_cons (ed_cb (eda_cons (ed_var E rfl) eda_nil) cd_lenR) eda_nil))) ⟨_, _, _, hs, rfl, by rw [hr]⟩))) (fun h => nomatch h) (fun h H3 F3 G3 g3 => ?_))
    have E := E.ext g3.f
    exact st_ret G3 (ed_call (eda_cons (ed_var E rfl) (eda_cons (ed_var E rfl) (eda_cons (ed_var E rfl) (eda_cons (ed_var E rfl) eda_nil)))) ⟨ta, tb, a, b, p, l, ok, hin, rfl, rfl⟩) q
  · have E := env_start (N := N_row_price) hd
    exact st_seq (st_dropX (Gr.refl x) (eda_cons (ed_var E rfl) eda_nil) ⟨hs, hp, rfl, rfl⟩ q)
  · have E := env_start (N := N_row_price) hd
    refine st_seq (st_drop (Gr.refl x) (ed_callX (eda_cons (ed_var E rfl) eda_nil) ⟨_, ok.sm, ok.ok, rfl, rfl⟩) fun H2 F2 G g => ?_)
    have E := E.ext g.f
    refine st_seq (st_if (b := !false) G (edt_not (edt_B (ed_call (eda_cons (ed_var E rfl) (eda_cons (ed_cb (eda_cons (ed_var E rfl) eda_nil) cd_lenR) (eda_cons (ed_cb (eda_cons (ed_var E rfl) eda_nil) cd_lenR) eda_nil))) ⟨_, _, _, hs, rfl, by rw [hr]⟩))) (fun h H3 F3 G3 g3 => ?_) (fun h => nomatch h))
    exact st_raise G3 (ed_var (E.ext g3.f) rfl) q
section
variable {P : Program} {w : World} {K : PySem.W.Frag} {mg : Str → Option Value} {base : Heap} {CP CM : Addr}
theorem ok_row_price (T : Tx K mg) (X : Errs P K mg CP CM) : FnOk P w K mg base (L2.CX P w) 6 T.d_row_price.f T.d_row_price.fd ["a", "b", "prices", "matching"] (spX K R_row_price (RE_row_price CP CM)) := by
  obtain ⟨f, cc, cd, e⟩ := X.m
  refine okXD T.d_row_price.F sc_row_price (t_row_price K CP CM) (fun ds d h => ?_) (fun ds C x h => ?_) rd_row_price (fun cdv A outer s H E hr => ?_)
  · obtain ⟨_, _, _, _, _, _, _, _, _, _, h, _⟩ := h; rw [h]; rfl
  · rcases h with ⟨_, _, _, _, _, h, _⟩ | ⟨_, _, _, _, _, _, _, _, h, _⟩ <;> (rw [h]; rfl)
  · exact (pss_cons (ps_expr (pe_call (ok_need_pricesX T X) (hr.mono (by decide)) (by rfl) T.d_need_prices.g T.d_need_prices.F.kp T.d_need_prices.b .nil (passes_call (takes_of rfl rfl rfl rfl) (fun _ _ _ _ h => h)) (pa_cons (pv 2) pa_nil)))
      (pss_cons (ps_if (pt_not (pt_val (pe_call (ok_are_row_pairs T) (hr.mono (by decide)) (by rfl) T.d_are_row_pairs.g T.d_are_row_pairs.F.kp T.d_are_row_pairs.b .nil pass0 (pa_cons (pv 3) (pa_cons (pe_callB call_lenQ (by rfl) T.n_len (by decide +kernel) (pa_cons (pv 0) pa_nil)) (pa_cons (pe_callB call_lenQ (by rfl) T.n_len (by decide +kernel) (pa_cons (pv 1) pa_nil)) pa_nil))))))
        (pss_one (ps_raiseErr rfl e hr (takes_of rfl rfl rfl rfl) (by exact (pa_cons (pv 3) pa_nil)) (by rfl))) pss_nil)
      (pss_one (ps_ret (pe_call (ok_pairs_price T) (hr.mono (by decide)) (by rfl) T.d_pairs_price.g T.d_pairs_price.F.kp T.d_pairs_price.b .nil pass0 (pa_cons (pv 0) (pa_cons (pv 1) (pa_cons (pv 2) (pa_cons (pv 3) pa_nil)))))))))
end
end Gb

set_option maxHeartbeats 1000000
/-! xs[::-1] of a list or a tuple. -/
namespace Gb
open PySem PySem.Spec PyProof.Rows L2
section
variable {prog : Program} {w : World} {A : Around} {E : Value → Shared → Prop} {s : Shared}
theorem back_places (n : Nat) : Builtin.Slice.slicePlaces ((n : Int) - 1) (-1) (-1) = n := by
  unfold Builtin.Slice.slicePlaces
  rw [if_neg (by decide)]
  by_cases h : (n : Int) - 1 > -1
  · rw [if_pos h, show (- -1 : Int) = 1 by decide, Int.ediv_one]; omega
  · rw [if_neg h]; omega
theorem sliced_back {sl : Addr} {vs : Value} {n : Nat} {Q : Int × Int × Nat → Shared → Prop} (hs : s.heap.IsSliceOf sl .none .none vs) (ps : IsPart vs (some (-1))) (h : Q ((n : Int) - 1, -1, n) s) :
    wpAny (model prog w) A (Builtin.Slice.sliceApplied (.ref sl) (pure (n : Int))) Q E s := by
  obtain ⟨os, hos, hcs, hds⟩ := id hs
  unfold Builtin.Slice.sliceApplied Builtin.Slice.sliceFields
  refine wpAny_bind (wpAny_bind (wpAny_field hos hds (x := .none) rfl (wpAny_bind (wpAny_field hos hds (x := .none) rfl (wpAny_bind (wpAny_field hos hds (x := vs) rfl (wpAny_pure ?_)))))))
  refine wpAny_bind (HT.slicePart_ ps ?_)
  show wpAny _ _ (if ((-1 : Int) == 0) = true then _ else _) _ _ s
  rw [if_neg (by decide)]
  refine wpAny_bind (HT.slicePart_ .none (wpAny_bind (HT.slicePart_ .none (wpAny_bind (wpAny_pure ?_)))))
  show wpAny _ _ (pure ((n : Int) - 1, (-1 : Int), Builtin.Slice.slicePlaces ((n : Int) - 1) (-1) (-1))) _ _ s
  rw [back_places]
  exact wpAny_pure h
theorem pick_back (xs : Array Value) : ((List.range xs.size).filterMap fun (k : Nat) => xs[((xs.size : Int) - 1 + (k : Int) * (-1)).toNat]?).toArray = xs.toList.reverse.toArray := by
  congr 1
  apply List.ext_getElem?
  intro i
  have e : (List.range xs.size).filterMap (fun (k : Nat) => xs[((xs.size : Int) - 1 + (k : Int) * (-1)).toNat]?) = (List.range xs.size).map fun k => xs.getD (xs.size - 1 - k) .none := by
    have key : ∀ l : List Nat, (∀ k ∈ l, k < xs.size) → l.filterMap (fun (k : Nat) => xs[((xs.size : Int) - 1 + (k : Int) * (-1)).toNat]?) = l.map fun k => xs.getD (xs.size - 1 - k) .none := fun l => by
      induction l with
      | nil => intro _; rfl
      | cons k l ih =>
        intro hl
        have hk' : k < xs.size := hl k List.mem_cons_self
        have e1 : ((xs.size : Int) - 1 + (k : Int) * (-1)).toNat = xs.size - 1 - k := by omega
        have e2 : xs[((xs.size : Int) - 1 + (k : Int) * (-1)).toNat]? = some (xs.getD (xs.size - 1 - k) .none) := by
          rw [e1, Array.getElem?_eq_getElem (by omega)]
          simp [Array.getD, show xs.size - 1 - k < xs.size by omega]
        rw [List.filterMap_cons_some (f := fun (k : Nat) => xs[((xs.size : Int) - 1 + (k : Int) * (-1)).toNat]?) e2, List.map_cons, ih fun k h => hl k (List.mem_cons_of_mem _ h)]
    exact key _ fun k hk => List.mem_range.mp hk
  rw [e]
  by_cases hi : i < xs.size
  · rw [List.getElem?_map, List.getElem?_range hi, List.getElem?_reverse (by simpa using hi)]
    simp [Array.getD, show xs.size - 1 - i < xs.size by omega]
  · rw [List.getElem?_eq_none (by simpa using hi), List.getElem?_eq_none (by simpa using hi)]
theorem getItem_back {t sl : Addr} {items : Array Value} {vs : Value} {Q : Value → Shared → Prop} (ht : IsTup s.heap t items) (hs : s.heap.IsSliceOf sl .none .none vs) (ps : IsPart vs (some (-1)))
    (h : Q (.ref s.heap.objs.size) { s with heap := s.heap.push { cls := .type "tuple", data := .seq items.toList.reverse.toArray } }) (hsz : items.size ≤ sizeLine) : wpAny (model prog w) A (getItem (.ref t) (.ref sl)) Q E s := by
  have hok : sizeOk (.seq items.toList.reverse.toArray) := by
    show items.toList.reverse.toArray.size ≤ sizeLine
    simpa using hsz
  obtain ⟨os, hos, hcs, hds⟩ := id hs
  have hTs : s.TypeIs (.ref sl) "slice" := ⟨os, hos, hcs⟩
  unfold getItem
  try with_reducible refine wpAny_holding ?_
  first | refine wpAny_bind (wpAny_pure ?_) | skip
  refine wpAny_bind (wpAny_sequenceKey ht.typeIs (by decide) ?_)
  refine wpAny_bind (wpAny_callSpecial?_slot (name := Str.ofString "__getitem__") ht.typeIs PyProof.Rows.slot_tuple_getitem
    (wpAny_call_entry PyProof.Rows.slot_tuple_getitem ht.typeIs entry_tuple_getitem ?_ (args_tuple_getitem _ _)))
  show wpAny _ _ (Builtin.Tuple.tupleItemsOf (.ref t) >>= _) _ _ s
  refine wpAny_bind (PyProof.Rows.tupleItemsOf_ ht ?_)
  refine wpAny_bind (wpAny_typeOf hTs ?_)
  rw [if_pos (by decide)]
  refine wpAny_bind (sliced_back (n := items.size) hs ps ?_)
  have hno : ¬ ((((items.size : Int) - 1) == 0 && (-1 : Int) == 1 && items.size == items.size) = true) := by simp
  show wpAny _ _ (if ((((items.size : Int) - 1) == 0 && (-1 : Int) == 1 && items.size == items.size) = true) then _ else _) _ _ s
  rw [if_neg hno, pick_back]
  first
    | exact wpAny_bind (m := Builtin.Tuple.tupleExact _) (wpAny_newObj_type (wpAny_pure ⟨_, rfl, wpAny_pure h⟩) hok)
    | exact wpAny_bind (m := Builtin.Tuple.tupleExact _) (wpAny_newObj_type (wpAny_bind (wpAny_pure (wpAny_pure ⟨_, rfl, wpAny_pure h⟩))) hok)
    | exact wpAny_bind (wpAny_bind (m := Builtin.Tuple.tupleExact _) (wpAny_newObj_type (wpAny_pure (wpAny_pure ⟨_, rfl, wpAny_pure h⟩)) hok))
    | exact wpAny_bind (wpAny_bind (m := Builtin.Tuple.tupleExact _) (wpAny_newObj_type (wpAny_pure ⟨_, rfl, wpAny_pure h⟩) hok))
end
section
variable {X : Cx}
/-- x[::-1], x a list or a tuple -/
def tRev (K : PySem.W.Frag) (te : TE) : TE := fun σ H Q => te σ H fun x H1 => ∃ a xs, x = .ref a ∧ ((SqL K H1 a xs ∧ ∀ p, H1 p = none → Q (.ref p) (upd H1 p (.lst xs.reverse))) ∨ (SqT K H1 a xs ∧ ∀ p, H1 p = none → Q (.ref p) (upd H1 p (.tup xs.reverse))))
theorem pe_rev {e : Expr} {te : TE} {k : Nat} {p1 p2 p3 pos : Pos} (he : PE X e te) : PE X (.Subscript e (.Slice none none (some (.UnaryOp .USub (.Constant (.int 1) k p1) p2)) p3) pos) (tRev X.K te) := by
  refine ⟨fun pins s σ H Q I h => ?_⟩
  refine Subscript_ (thn (he.run pins s σ H _ I h) fun v s1 ⟨x, H1, I1, r1, a, xs, ex, q⟩ => ?_)
  subst ex
  cases r1
  have hst : PO X (some (.UnaryOp .USub (.Constant (.int 1) k p1) p2)) (tPart (tUn (rU fun i => .int (-i)) (tC (.int 1)))) := po_some (pe_un un_neg pe_int)
  refine wpAny_Slice (thn (po_none.run pins s1 σ H1 (fun o H2 => o = none ∧ H2 = H1) I1 ⟨rfl, rfl⟩) fun vl s2 ⟨l, H2, I2, pl, el, e2⟩ => ?_)
  subst el e2
  refine thn (po_none.run pins s2 σ H2 (fun o H3 => o = none ∧ H3 = H2) I2 ⟨rfl, rfl⟩) fun vu s3 ⟨u, H3, I3, pu, eu, e3⟩ => ?_
  subst eu e3
  refine thn (hst.run pins s3 σ H3 (fun o H4 => o = some (-1) ∧ H4 = H3) I3 ⟨1, rfl, -1, rfl, rfl, rfl⟩) fun vs s4 ⟨o, H4, I4, ps, eo, e4⟩ => ?_
  subst eo e4
  have I5 : Inv X pins σ H4 { s4 with heap := s4.heap.push { cls := .type "slice", data := .fields #[vl, vu, vs] } } := I4.kept (t' := s4.toks) fun b ob q => Heap.get?_push_of_some _ q
  show wpAny (model X.prog X.w) X.A (subscriptTail e (.Slice none none (some (.UnaryOp .USub (.Constant (.int 1) k p1) p2)) p3) (.ref a) (.ref s4.heap.objs.size)) (EP X pins σ Q) X.xe { s4 with heap := s4.heap.push { cls := .type "slice", data := .fields #[vl, vu, vs] } }
  rcases q with ⟨hx, q⟩ | ⟨hx, q⟩
  · obtain ⟨its, r, ht, hz⟩ := I5.list hx
    have hlen := r.length
    refine tail_any (ops := [.ref a, .ref s4.heap.objs.size]) ht.isList.typeIs (PySem.slot_list_getitem.lookup) ?_ (by with_unfolding_all rfl)
    refine wpAny_getItem_list_slice ht.isList (Heap.IsSliceOf.new _ vl vu vs) pl pu ps (by decide) ?_ (by rw [List.size_toArray]; omega)
    rw [PySem.W.krv_pick]
    refine ⟨.ref _, _, I5.laid (t' := s4.toks) (o := .lst xs.reverse) (fun b ob q => Heap.get?_push_of_some _ q) (Nat.le_refl _) ?_, rfl, q _ (I5.hok.fresh (Nat.le_refl _))⟩
    exact ⟨by rw [List.length_reverse]; exact hz, _, 0, r.reverse, Heap.get?_push_size _ rfl⟩
  · obtain ⟨its, r, ht, hz⟩ := I5.tuple hx
    have hlen := r.length
    cases pl
    cases pu
    refine tail_any (ops := [.ref a, .ref s4.heap.objs.size]) ht.typeIs (PyProof.Rows.slot_tuple_getitem.lookup) ?_ (by with_unfolding_all rfl)
    refine getItem_back ht (Heap.IsSliceOf.new _ .none .none vs) ps ?_ (by rw [List.size_toArray]; omega)
    refine ⟨.ref _, _, I5.laid (t' := s4.toks) (o := .tup xs.reverse) (fun b ob q => Heap.get?_push_of_some _ q) (Nat.le_refl _) ?_, rfl, q _ (I5.hok.fresh (Nat.le_refl _))⟩
    exact ⟨by rw [List.length_reverse]; exact hz, _, r.reverse, IsTup.new _ _⟩
end
section
variable {K : PySem.W.Frag} {σ : L2.St} {F H : Hp} {te : TE}
theorem ed_rev {t : Bool} {ds : List PyData} (h : Ed K te σ F H (sqD t ds)) : Ed K (tRev K te) σ F H (sqD t ds.reverse) := fun F1 H1 g Q q => h F1 H1 g _ fun v H2 F2 g2 p2 => by
  cases t with
  | true =>
    cases p2 with
    | @tup a xs _ hs ha => exact ⟨a, xs, rfl, .inr ⟨sqt_ext g2.e hs, fun p hp => q _ _ (upd F2 p (.tup xs.reverse)) (g2.tr (Gr.new g2.e hp)) (.tup (.inl (.inl upd_same)) (DpAll.ext (DpAll.rev ha) (Ext.new (g2.e.none_of hp))))⟩⟩
  | false =>
    cases p2 with
    | @lst a xs _ hs ha => exact ⟨a, xs, rfl, .inl ⟨sql_ext g2.e hs, fun p hp => q _ _ (upd F2 p (.lst xs.reverse)) (g2.tr (Gr.new g2.e hp)) (.lst (.inl (.inl upd_same)) (DpAll.ext (DpAll.rev ha) (Ext.new (g2.e.none_of hp))))⟩⟩
theorem ed_revL {ds : List PyData} (h : Ed K te σ F H (.list ds)) : Ed K (tRev K te) σ F H (.list ds.reverse) := ed_rev (t := false) h
end
end Gb

set_option maxHeartbeats 1000000
/-! Several growing lists; min; tables. -/
namespace Gb
open PySem L2
section
variable {K : PySem.W.Frag} {σ : L2.St} {F H H0 F0 : Hp} {ρ : List Sv} {ta tb te : TE} {d d1 d2 : PyData} {i : Nat} {D : Ends} {tz : TS}
/-- the other growing lists stand -/
def Oth (K : PySem.W.Frag) (H0 : Hp) (l : Addr) (F H F2 H2 : Hp) : Prop := ∀ l' ds', l' ≠ l → Ml K H0 l' ds' F H → Ml K H0 l' ds' F2 H2
theorem Ml.at {l : Addr} {ds : List PyData} (M : Ml K H0 l ds F H) : H l ≠ none := by
  obtain ⟨xs, h, _⟩ := M.h
  rw [h]; simp
theorem Ml.ne {l l' : Addr} {ds : List PyData} (M : Ml K H0 l ds F H) (h : H l' = none) : l' ≠ l := fun e => M.at (e ▸ h)
theorem Ml.last' {l : Addr} {ds : List PyData} (M : Ml K H0 l ds F H) (G : Gr no H0 F0 H F) : ∃ F2, Ext F F2 ∧ Gr no H0 F0 H F2 ∧ Dp K F2 (.ref l) (.list ds) ∧ Oth K H0 l F H F2 H := by
  obtain ⟨xs, h1, h2⟩ := M.h
  refine ⟨upd F l (.lst xs), Ext.new M.f, G.last M.y M.f h1, .lst (.inl (.inl upd_same)) (DpAll.ext h2 (Ext.new M.f)), fun l' ds' hne M' => ?_⟩
  obtain ⟨xs', h1', h2'⟩ := M'.h
  exact ⟨M'.y, by rw [upd_ne hne]; exact M'.f, xs', h1', DpAll.ext h2' (Ext.new M.f)⟩
/-- x.append(e) -/
theorem st_app' {to te : TE} {l : Addr} {ds : List PyData} (G : Gr no H0 F0 H F) (M : Ml K H0 l ds F H) (ho : Er to σ F H (.ref l)) (h : Ed K te σ F H d) (hl : ds.length ≤ 1000)
    (k : ∀ H2 F2, Gr no H0 F0 H2 F2 → Ext F F2 → Ml K H0 l (ds ++ [d]) F2 H2 → Oth K H0 l F H F2 H2 → D.nx σ H2) : tDrop (tBM K "list" rAppend to (tCons te tNil)) D σ H := by
  obtain ⟨xs0, h1, _⟩ := M.h
  refine ho F H (Gr.refl G.e) _ ⟨.inl ⟨rfl, xs0, .inl (.inl h1)⟩, h F H (Gr.refl G.e) _ fun v H2 F2 g p => ?_⟩
  have M2 := M.step g
  obtain ⟨xs, h2, h3⟩ := M2.h
  have lx := DpAll.len h3
  refine ⟨l, xs, v, rfl, rfl, h2, by rw [lx]; exact small1000 (by omega), ?_⟩
  refine k _ F2 ((G.tr g).mut M.y M2.f) g.f ⟨M.y, M2.f, xs ++ [v], upd_same, DpAll.app h3 (.cons p .nil)⟩ fun l' ds' hne M' => ?_
  obtain ⟨xs', h1', h2'⟩ := (M'.step g).h
  exact ⟨M'.y, (M'.step g).f, xs', by rw [upd_ne hne]; exact h1', h2'⟩
/-- if c: x.append(e) -/
theorem st_ifapp {tc : TT} {b : Bool} {to te : TE} {l : Addr} {ds : List PyData} (G : Gr no H0 F0 H F) (hc : Edt tc σ F H b) (M : Ml K H0 l ds F H) (ho : Er to σ F H (.ref l)) (h : b = true → ∀ H2 F2, Gr no H F H2 F2 → Ed K te σ F2 H2 d) (hl : ds.length ≤ 1000)
    (k : ∀ H2 F2, Gr no H0 F0 H2 F2 → Ext F F2 → Ml K H0 l (ds ++ if b = true then [d] else []) F2 H2 → Oth K H0 l F H F2 H2 → D.nx σ H2) : tIfS tc (tDrop (tBM K "list" rAppend to (tCons te tNil))) tNext D σ H := by
  refine st_if G hc (fun hb H2 F2 G2 g2 => ?_) (fun hb H2 F2 G2 g2 => ?_)
  · refine st_app' G2 (M.step g2) (fun F1 H1 g Q q => ho F1 H1 (g2.tr g) Q q) (h hb H2 F2 g2) hl fun H3 F3 G3 e3 M3 o3 => ?_
    refine k H3 F3 G3 (g2.f.tr e3) (by rw [if_pos hb]; exact M3) fun l' ds' hne M' => o3 l' ds' hne (M'.step g2)
  · refine k H2 F2 G2 g2.f (by rw [hb, if_neg Bool.false_ne_true, List.append_nil]; exact M.step g2) fun l' ds' _ M' => M'.step g2
/-- x = [e, ..], to grow -/
theorem st_newL {i : Nat} {t : TA} {ds : List PyData} (G : Gr no H0 F0 H F) (E : Env K F σ ρ) (h : Eda K t σ F H ds) (hl : ds.length ≤ 1000)
    (k : ∀ l H2 F2, Gr no H0 F0 H2 F2 → Gr no H F H2 F2 → Ml K H0 l ds F2 H2 → H l = none → Env K F2 (σ.set i (some (.ref l))) (ρ.set i (.v (.ref l))) → D.nx (σ.set i (some (.ref l))) H2) :
    tAsg (tLst t) (gName i) D σ H := h F H (Gr.refl G.e) _ fun vs H1 F1 g p => by
  refine ⟨by rw [DpAll.len p]; exact Nat.le_trans hl (by decide), fun q hq => ?_⟩
  have g2 : Gr no H1 F1 (upd H1 q (.lst vs)) F1 := Gr.newM g.e hq
  have none_of : ∀ {A B C : Hp} {Z : Hp}, Gr no A Z B C → B q = none → A q = none := fun {A B C Z} g e => by
    cases z : A q with
    | none => rfl
    | some o => exact absurd e (g.t q (by rw [z]; simp))
  have hq0 : H q = none := none_of g hq
  exact k q _ F1 (G.tr (g.tr g2)) (g.tr g2) ⟨none_of G hq0, g.e.none_of hq, vs, upd_same, p⟩ hq0 (Env.set i (s := .v (.ref q)) (E.ext g.f) rfl)
/-- x = a if c else b -/
theorem st_asgIf {tc : TT} {b : Bool} {g : TG} (G : Gr no H0 F0 H F) (h : Edt tc σ F H b) (h1 : b = true → ∀ H2 F2, Gr no H0 F0 H2 F2 → Gr no H F H2 F2 → tAsg ta g D σ H2) (h2 : b = false → ∀ H2 F2, Gr no H0 F0 H2 F2 → Gr no H F H2 F2 → tAsg tb g D σ H2) :
    tAsg (tIf tc ta tb) g D σ H := h F H (Gr.refl G.e) _ fun H2 F2 g => by
  cases b with
  | true => exact h1 rfl H2 F2 (G.tr g) g
  | false => exact h2 rfl H2 F2 (G.tr g) g
/-- min(x), x a growing list of ints -/
theorem ed_minM {l : Addr} {ns : List Int} {m : Int} (M : Ml K H0 l (ns.map PyData.int) F H) (ha : Er ta σ F H (.ref l)) (hm : m ∈ ns) (hle : ∀ y ∈ ns, m ≤ y) : Ed K (tCB (rMin K) (tCons ta tNil)) σ F H (.int m) := fun F1 H1 g Q q =>
  ha F1 H1 g _ (by
    obtain ⟨xs, h2, h3⟩ := (M.step g).h
    have e := DpAll.ints h3
    subst e
    refine ⟨l, ns, rfl, .inl (.inl h2), List.length_pos_of_mem hm, fun m' hm' hle' => ?_⟩
    have e : m' = m := Int.le_antisymm (hle' m hm) (hle m' hm')
    subst e
    exact q _ H1 F1 (Gr.refl g.e) (.int _))
/-- while -/
theorem st_while {tc : TT} {tb : TS} (Pv : Nat → L2.St → Hp → Prop) (h0 : ∃ m, Pv m σ H) (hs : ∀ m σ' H', Pv m σ' H' → ∃ F' b, Gr no H0 F0 H' F' ∧ Edt tc σ' F' H' b ∧
      (b = true → ∀ H2 F2, Gr no H0 F0 H2 F2 → Gr no H' F' H2 F2 → tb { D with nx := fun σ2 H3 => ∃ m', m' < m ∧ Pv m' σ2 H3, ct := fun σ2 H3 => ∃ m', m' < m ∧ Pv m' σ2 H3, bk := D.nx } σ' H2) ∧
      (b = false → ∀ H2 F2, Gr no H0 F0 H2 F2 → Gr no H' F' H2 F2 → D.nx σ' H2)) : tWhile tc tb D σ H :=
  ⟨Pv, h0, fun m σ' H' hp => by
    obtain ⟨F', b, G, hc, h1, h2⟩ := hs m σ' H' hp
    refine hc F' H' (Gr.refl G.e) _ fun H2 F2 g => ?_
    cases b with
    | true => exact ⟨_, fun _ _ z => z, h1 rfl H2 F2 (G.tr g) g⟩
    | false => exact h2 rfl H2 F2 (G.tr g) g⟩
end
/-! ### tables -/
def tabD (n m : Nat) (f : Nat → Nat → PyData) : PyData := .list ((List.range n).map fun i => .list ((List.range m).map fun j => f i j))
theorem range_get {α : Type} {n i : Nat} (f : Nat → α) (h : i < n) : ((List.range n).map f)[i]? = some (f i) := by
  rw [List.getElem?_map, List.getElem?_range h]; rfl
theorem range_snoc {α : Type} (n : Nat) (f : Nat → α) : (List.range (n + 1)).map f = (List.range n).map f ++ [f n] := by
  rw [List.range_succ, List.map_append]; rfl
theorem range_len {α : Type} (n : Nat) (f : Nat → α) : ((List.range n).map f).length = n := by rw [List.length_map, List.length_range]
section
variable {K : PySem.W.Frag} {σ : L2.St} {F H : Hp} {te ti tj : TE}
theorem ed_tab {n m : Nat} {f : Nat → Nat → PyData} {zi zj : Int} {i j : Nat} (h : Ed K te σ F H (tabD n m f)) (h1 : Ed K ti σ F H (.int zi)) (h2 : Ed K tj σ F H (.int zj)) (e1 : zi = (i : Int)) (e2 : zj = (j : Int)) (hi : i < n) (hj : j < m) :
    Ed K (tOp (rIx K) (tOp (rIx K) te ti) tj) σ F H (f i j) := ed_op (ed_op h h1 (od_ixL e1 (range_get _ hi))) h2 (od_ixL e2 (range_get _ hj))
end
end Gb

set_option maxHeartbeats 1000000
namespace Gb
open PySem L2
local macro_rules | `(tactic| walk_at "wk") => `(tactic| (repeat' (first | exact trivial | exact Or.inl rfl | exact Or.inr rfl | apply And.intro)))
/-! ### the table from the front -/
def dA (p : Pr) (a b : List Str) (i j : Nat) : Int := dist (chg p) p.dr p.ad (a.take i) (b.take j)
def dB (p : Pr) (a b : List Str) (i j : Nat) : Int := dist (chg p) p.dr p.ad (a.drop i) (b.drop j)
def fA (p : Pr) (a b : List Str) (i j : Nat) : PyData := .int (dA p a b i j)
def fB (p : Pr) (a b : List Str) (i j : Nat) : PyData := .int (dB p a b i j)
theorem take_snoc {a : List Str} {i : Nat} (h : i < a.length) : a.take (i + 1) = a.take i ++ [wAt a i] := by
  rw [List.take_add_one]
  unfold wAt
  rw [List.getD_eq_getElem?_getD, List.getElem?_eq_getElem h]
  rfl
def wys (p : Pr) (a b : List Str) (i j : Nat) : List Int := (((if (decide ((i : Int) = 0) && decide ((j : Int) = 0)) = true then [0] else []) ++ if decide ((0 : Int) < (i : Int)) = true then [dA p a b (i - 1) j + p.dr] else []) ++
  if decide ((0 : Int) < (j : Int)) = true then [dA p a b i (j - 1) + p.ad] else []) ++ if (decide ((0 : Int) < (i : Int)) && decide ((0 : Int) < (j : Int))) = true then [dA p a b (i - 1) (j - 1) + chg p (wAt a (i - 1)) (wAt b (j - 1))] else []
theorem wys_min (p : Pr) (a b : List Str) : ∀ (i j : Nat), i ≤ a.length → j ≤ b.length → dA p a b i j ∈ wys p a b i j ∧ ∀ y ∈ wys p a b i j, dA p a b i j ≤ y
  | 0, 0, _, _ => by
    have e : dA p a b 0 0 = 0 := by
      unfold dA
      rw [List.take_zero, List.take_zero, dist_nil]
      simp
    simp [wys, e]
  | 0, j + 1, _, hj => by
    have e : dA p a b 0 (j + 1) = dA p a b 0 j + p.ad := by
      unfold dA
      rw [List.take_zero, take_snoc (by omega), dist_ns, Int.add_comm]
    have e2 : ¬ ((j : Int) + 1 = 0) := by omega
    have e3 : (0 : Int) < (j : Int) + 1 := by omega
    simp [wys, e, e2, e3]
  | i + 1, 0, hi, _ => by
    have e : dA p a b (i + 1) 0 = dA p a b i 0 + p.dr := by
      unfold dA
      rw [List.take_zero, take_snoc (by omega), dist_sn, Int.add_comm]
    have e2 : ¬ ((i : Int) + 1 = 0) := by omega
    have e3 : (0 : Int) < (i : Int) + 1 := by omega
    simp [wys, e, e2, e3]
  | i + 1, j + 1, hi, hj => by
    have e : dA p a b (i + 1) (j + 1) = min (p.dr + dA p a b i (j + 1)) (min (p.ad + dA p a b (i + 1) j) (chg p (wAt a i) (wAt b j) + dA p a b i j)) := by
      unfold dA
      rw [take_snoc (a := a) (by omega), take_snoc (a := b) (by omega), dist_ss]
    have e2 : ¬ ((i : Int) + 1 = 0) := by omega
    have e3 : (0 : Int) < (i : Int) + 1 := by omega
    have e4 : (0 : Int) < (j : Int) + 1 := by omega
    simp only [wys, Nat.add_sub_cancel, Int.natCast_add, Int.cast_ofNat_Int, e2, e3, e4, decide_true, decide_false, Bool.and_true, Bool.false_and, if_true, Bool.false_eq_true, if_false, List.nil_append, List.cons_append, List.mem_cons, List.not_mem_nil, or_false]
    rw [e]
    generalize dA p a b i (j + 1) = u
    generalize dA p a b (i + 1) j = v
    generalize dA p a b i j = z
    generalize chg p (wAt a i) (wAt b j) = t
    constructor
    · omega
    · rintro y (rfl | rfl | rfl) <;> omega
def R_table_ahead (ds : List PyData) (d : PyData) : Prop := ∃ ta tb a b p, PrOk p ∧ (a : List Str).length ≤ 12 ∧ (b : List Str).length ≤ 12 ∧ ds = [rowD ta a, rowD tb b, prD p] ∧ d = tabD (a.length + 1) (b.length + 1) (fA p a b)
abbrev sp_table_ahead (K : PySem.W.Frag) : Sp := spD K R_table_ahead
section
variable {P : Program} {w : World} {K : PySem.W.Frag} {mg : Str → Option Value} {base : Heap}
/-! ### table_ahead -/
def t_table_ahead (K : PySem.W.Frag) : TS :=
  (tSeq (tAsg (tSl (rSlA K) (tVar 2) tNoPart (tPart (tC (.int 2)))) (gTup K 2 (gCons (gName 3) (gCons (gName 4) gNil))))
  (tSeq (tAsg (tLst tNil) (gName 5))
  (tSeq (tFor (iRng1 (tCons (tOp rAddI (tCB (rLenQ K) (tCons (tVar 0) tNil)) (tC (.int 1))) tNil)) (gName 6)
    (tSeq (tAsg (tLst tNil) (gName 7))
  (tSeq (tFor (iRng1 (tCons (tOp rAddI (tCB (rLenQ K) (tCons (tVar 1) tNil)) (tC (.int 1))) tNil)) (gName 8)
    (tSeq (tAsg (tIf (tAnd (tTest (tOp rEq (tVar 6) (tC (.int 0)))) (tTest (tOp rEq (tVar 8) (tC (.int 0))))) (tLst (tCons (tC (.int 0)) tNil)) (tLst tNil)) (gName 9))
  (tSeq (tIfS (tTest (tOp rGtI (tVar 6) (tC (.int 0)))) (tDrop (tBM K "list" rAppend (tVar 9) (tCons (tOp rAddI (tOp (rIx K) (tOp (rIx K) (tVar 5) (tOp rSubI (tVar 6) (tC (.int 1)))) (tVar 8)) (tVar 3)) tNil))) tNext)
  (tSeq (tIfS (tTest (tOp rGtI (tVar 8) (tC (.int 0)))) (tDrop (tBM K "list" rAppend (tVar 9) (tCons (tOp rAddI (tOp (rIx K) (tVar 7) (tOp rSubI (tVar 8) (tC (.int 1)))) (tVar 4)) tNil))) tNext)
  (tSeq (tIfS (tAnd (tTest (tOp rGtI (tVar 6) (tC (.int 0)))) (tTest (tOp rGtI (tVar 8) (tC (.int 0))))) (tDrop (tBM K "list" rAppend (tVar 9) (tCons (tOp rAddI (tOp (rIx K) (tOp (rIx K) (tVar 5) (tOp rSubI (tVar 6) (tC (.int 1)))) (tOp rSubI (tVar 8) (tC (.int 1)))) (tCall (sp_price_between K) [] E0 (tCons (tVar 2) (tCons (tOp (rIx K) (tVar 0) (tOp rSubI (tVar 6) (tC (.int 1)))) (tCons (tOp (rIx K) (tVar 1) (tOp rSubI (tVar 8) (tC (.int 1)))) tNil))))) tNil))) tNext)
  (tDrop (tBM K "list" rAppend (tVar 7) (tCons (tCB (rMin K) (tCons (tVar 9) tNil)) tNil))))))))
  (tDrop (tBM K "list" rAppend (tVar 5) (tCons (tVar 7) tNil))))))
  (tRet (tVar 5)))))

theorem rd_table_ahead : Keeps K N_table_ahead R_table_ahead (t_table_ahead K) := by
  intro H F vs ds d Q x hd h q
  obtain ⟨ta, tb, a, b, p, ok, ha, hb, rfl, rfl⟩ := h
  have E := env_start (N := N_table_ahead) hd
  refine st_seq (st_pair (Gr.refl x) E (ed_is (ed_sl (ed_var E rfl) edo_none (edo_some (ed_cI (K := K))) sd_tup) (show _ = PyData.tuple [.int p.dr, .int p.ad] from rfl)) fun σ1 H1 F1 G1 g1 E1 => ?_)
  refine st_seq (st_new G1 E1 fun l5 H2 G2 g2 M2 _ E2 => ?_)
  refine st_seq (st_for1 G2 (ed_op (ed_cb (eda_cons (ed_var E2 rfl) eda_nil) cd_lenR) (ed_cI (K := K)) od_add) ⟨by omega, by omega⟩ fun H3 F3 G3 g3 => ⟨fun i σ' H' => ∃ F', Gr no H F H' F' ∧
    Env K F' σ' [.d (rowD ta a), .d (rowD tb b), .d (prD p), .d (.int p.dr), .d (.int p.ad), .v (.ref l5), .un, .un, .un, .un] ∧ Ml K H l5 ((List.range i).map fun i => .list ((List.range (b.length + 1)).map fun j => fA p a b i j)) F' H', ?_, ?_, ?_⟩)
  · exact ⟨F3, G3, E2.ext g3.f, M2.step g3⟩
  · rintro i σ' H' hi ⟨F', G', E', M'⟩
    have hi' : i ≤ a.length := by omega
    have E4 := Env.set 6 (s := .d (.int (i : Int))) E' ⟨_, rfl, .int _⟩
    refine st_seq (st_new G' E4 fun l7 H5 G5 g5 M7 n7 E5 => ?_)
    have ne75 : l7 ≠ l5 := M'.ne n7
    refine st_seq (st_for1 G5 (ed_op (ed_cb (eda_cons (ed_var E5 rfl) eda_nil) cd_lenR) (ed_cI (K := K)) od_add) ⟨by omega, by omega⟩ fun H6 F6 G6 g6 => ⟨fun j σ' H' => ∃ F', Gr no H F H' F' ∧
      Env K F' σ' [.d (rowD ta a), .d (rowD tb b), .d (prD p), .d (.int p.dr), .d (.int p.ad), .v (.ref l5), .d (.int (i : Int)), .v (.ref l7), .un, .un] ∧ Ml K H l5 ((List.range i).map fun i => .list ((List.range (b.length + 1)).map fun j => fA p a b i j)) F' H' ∧
      Ml K H l7 ((List.range j).map fun j => fA p a b i j) F' H', ?_, ?_, ?_⟩)
    · exact ⟨F6, G6, (E5.ext g6.f).weak (by walk_at "wk"), (M'.step g5).step g6, M7.step g6⟩
    · rintro j σ' H' hj ⟨F', G', E', M5, M7⟩
      have hj' : j ≤ b.length := by omega
      have E7 := Env.set 8 (s := .d (.int (j : Int))) E' ⟨_, rfl, .int _⟩
      have rest : ∀ (σ9 : L2.St) (l9 : Addr) (H9 F9 : Hp) (D : Ends), Gr no H F H9 F9 → l9 ≠ l5 → l9 ≠ l7 →
          Env K F9 σ9 [.d (rowD ta a), .d (rowD tb b), .d (prD p), .d (.int p.dr), .d (.int p.ad), .v (.ref l5), .d (.int (i : Int)), .v (.ref l7), .d (.int (j : Int)), .v (.ref l9)] →
          Ml K H l5 ((List.range i).map fun i => .list ((List.range (b.length + 1)).map fun j => fA p a b i j)) F9 H9 → Ml K H l7 ((List.range j).map fun j => fA p a b i j) F9 H9 →
          Ml K H l9 (((if (decide ((i : Int) = 0) && decide ((j : Int) = 0)) = true then [0] else []) : List Int).map PyData.int) F9 H9 →
          (∀ σ' H' F', Gr no H F H' F' → Env K F' σ' [.d (rowD ta a), .d (rowD tb b), .d (prD p), .d (.int p.dr), .d (.int p.ad), .v (.ref l5), .d (.int (i : Int)), .v (.ref l7), .un, .un] →
            Ml K H l5 ((List.range i).map fun i => .list ((List.range (b.length + 1)).map fun j => fA p a b i j)) F' H' → Ml K H l7 ((List.range (j + 1)).map fun j => fA p a b i j) F' H' → D.nx σ' H') →
          (tSeq (tIfS (tTest (tOp rGtI (tVar 6) (tC (.int 0)))) (tDrop (tBM K "list" rAppend (tVar 9) (tCons (tOp rAddI (tOp (rIx K) (tOp (rIx K) (tVar 5) (tOp rSubI (tVar 6) (tC (.int 1)))) (tVar 8)) (tVar 3)) tNil))) tNext)
            (tSeq (tIfS (tTest (tOp rGtI (tVar 8) (tC (.int 0)))) (tDrop (tBM K "list" rAppend (tVar 9) (tCons (tOp rAddI (tOp (rIx K) (tVar 7) (tOp rSubI (tVar 8) (tC (.int 1)))) (tVar 4)) tNil))) tNext)
            (tSeq (tIfS (tAnd (tTest (tOp rGtI (tVar 6) (tC (.int 0)))) (tTest (tOp rGtI (tVar 8) (tC (.int 0))))) (tDrop (tBM K "list" rAppend (tVar 9) (tCons (tOp rAddI (tOp (rIx K) (tOp (rIx K) (tVar 5) (tOp rSubI (tVar 6) (tC (.int 1)))) (tOp rSubI (tVar 8) (tC (.int 1)))) (tCall (sp_price_between K) [] E0 (tCons (tVar 2) (tCons (tOp (rIx K) (tVar 0) (tOp rSubI (tVar 6) (tC (.int 1)))) (tCons (tOp (rIx K) (tVar 1) (tOp rSubI (tVar 8) (tC (.int 1)))) tNil))))) tNil))) tNext)
            (tDrop (tBM K "list" rAppend (tVar 7) (tCons (tCB (rMin K) (tCons (tVar 9) tNil)) tNil)))))) D σ9 H9 := by
        intro σ9 l9 H9 F9 D G9 n95 n97 E9 M5 M7 M9 fin
        refine st_seq (st_ifapp G9 (edt_test (ed_op (ed_var E9 rfl) (ed_cI (K := K)) od_gt)) M9 (er_var E9 rfl) (d := .int (dA p a b (i - 1) j + p.dr)) (fun hb1 H2 F2 g2 => ?_) (by split <;> simp) fun H10 F10 G10 e10 M9 o10 => ?_)
        · have hi0 : (0 : Int) < (i : Int) := of_decide_eq_true hb1
          exact ed_op (ed_op (ed_ixM (M5.step g2) (er_var (E9.ext g2.f) rfl) (ed_op (ed_var (E9.ext g2.f) rfl) (ed_cI (K := K)) od_sub) (show (i : Int) - 1 = ((i - 1 : Nat) : Int) by omega) (range_get _ (by omega))) (ed_var (E9.ext g2.f) rfl) (od_ixL rfl (range_get (fun j => fA p a b (i - 1) j) (by omega)))) (ed_var (E9.ext g2.f) rfl) od_add
        have E10 := E9.ext e10
        have M5 := o10 _ _ (Ne.symm n95) M5
        have M7 := o10 _ _ (Ne.symm n97) M7
        refine st_seq (st_ifapp G10 (edt_test (ed_op (ed_var E10 rfl) (ed_cI (K := K)) od_gt)) M9 (er_var E10 rfl) (d := .int (dA p a b i (j - 1) + p.ad)) (fun hb1 H2 F2 g2 => ?_) (by split <;> split <;> simp) fun H11 F11 G11 e11 M9 o11 => ?_)
        · have hj0 : (0 : Int) < (j : Int) := of_decide_eq_true hb1
          exact ed_op (ed_ixM (M7.step g2) (er_var (E10.ext g2.f) rfl) (ed_op (ed_var (E10.ext g2.f) rfl) (ed_cI (K := K)) od_sub) (show (j : Int) - 1 = ((j - 1 : Nat) : Int) by omega) (range_get (fun j => fA p a b i j) (by omega))) (ed_var (E10.ext g2.f) rfl) od_add
        have E11 := E10.ext e11
        have M5 := o11 _ _ (Ne.symm n95) M5
        have M7 := o11 _ _ (Ne.symm n97) M7
        refine st_seq (st_ifapp G11 (edt_and (edt_test (ed_op (ed_var E11 rfl) (ed_cI (K := K)) od_gt)) fun _ => edt_test (ed_op (ed_var E11 rfl) (ed_cI (K := K)) od_gt)) M9 (er_var E11 rfl) (d := .int (dA p a b (i - 1) (j - 1) + chg p (wAt a (i - 1)) (wAt b (j - 1)))) (fun hb1 H2 F2 g2 => ?_) (by split <;> split <;> split <;> simp) fun H12 F12 G12 e12 M9 o12 => ?_)
        · rw [Bool.and_eq_true, decide_eq_true_eq, decide_eq_true_eq] at hb1
          obtain ⟨hi0, hj0⟩ := hb1
          have E2 := E11.ext g2.f
          exact ed_op (ed_op (ed_ixM (M5.step g2) (er_var E2 rfl) (ed_op (ed_var E2 rfl) (ed_cI (K := K)) od_sub) (show (i : Int) - 1 = ((i - 1 : Nat) : Int) by omega) (range_get _ (by omega))) (ed_op (ed_var E2 rfl) (ed_cI (K := K)) od_sub) (od_ixL (show (j : Int) - 1 = ((j - 1 : Nat) : Int) by omega) (range_get (fun j => fA p a b (i - 1) j) (by omega))))
            (ed_call (eda_cons (ed_var E2 rfl) (eda_cons (ed_op (ed_var E2 rfl) (ed_op (ed_var E2 rfl) (ed_cI (K := K)) od_sub) (od_word (show (i : Int) - 1 = ((i - 1 : Nat) : Int) by omega) (by omega))) (eda_cons (ed_op (ed_var E2 rfl) (ed_op (ed_var E2 rfl) (ed_cI (K := K)) od_sub) (od_word (show (j : Int) - 1 = ((j - 1 : Nat) : Int) by omega) (by omega))) eda_nil))) ⟨_, _, _, rfl, rfl⟩) od_add
        have E12 := E11.ext e12
        have M5 := o12 _ _ (Ne.symm n95) M5
        have M7 := o12 _ _ (Ne.symm n97) M7
        have M9' : Ml K H l9 ((wys p a b i j).map PyData.int) F12 H12 := by
          have e : (wys p a b i j).map PyData.int = ((((if (decide ((i : Int) = 0) && decide ((j : Int) = 0)) = true then [0] else []) : List Int).map PyData.int ++ if decide ((0 : Int) < (i : Int)) = true then [PyData.int (dA p a b (i - 1) j + p.dr)] else []) ++
              if decide ((0 : Int) < (j : Int)) = true then [PyData.int (dA p a b i (j - 1) + p.ad)] else []) ++ if (decide ((0 : Int) < (i : Int)) && decide ((0 : Int) < (j : Int))) = true then [PyData.int (dA p a b (i - 1) (j - 1) + chg p (wAt a (i - 1)) (wAt b (j - 1)))] else [] := by
            unfold wys
            rw [List.map_append, List.map_append, List.map_append]
            congr 1
            · congr 1
              · congr 1
                split <;> rfl
              · split <;> rfl
            · split <;> rfl
          rw [e]
          exact M9
        obtain ⟨hm1, hm2⟩ := wys_min p a b i j hi' hj'
        refine st_app' G12 M7 (er_var E12 rfl) (ed_minM M9' (er_var E12 rfl) hm1 hm2) (by rw [range_len]; omega) fun H13 F13 G13 e13 M7 o13 => ?_
        refine fin σ9 H13 F13 G13 ((E12.ext e13).weak (by walk_at "wk")) (o13 _ _ (Ne.symm ne75) M5) ?_
        rw [range_snoc]
        exact M7
      refine st_seq (st_asgIf G' (edt_and (edt_test (ed_op (ed_var E7 rfl) (ed_cI (K := K)) od_eqI)) fun _ => edt_test (ed_op (ed_var E7 rfl) (ed_cI (K := K)) od_eqI)) (fun hb1 H8 F8 G8 g8 => ?_) (fun hb1 H8 F8 G8 g8 => ?_))
      · refine st_newL G8 (E7.ext g8.f) (eda_cons (ed_cI (K := K)) eda_nil) (by decide) fun l9 H9 F9 G9 g9 M9 n9 E9 => ?_
        refine rest _ l9 H9 F9 _ G9 ((M5.step g8).ne n9) ((M7.step g8).ne n9) E9 ((M5.step g8).step g9) ((M7.step g8).step g9) (by rw [if_pos hb1]; exact M9) ?_
        intro σ' H' F' G' E' M5 M7
        exact ⟨F', G', E', M5, M7⟩
      · refine st_newL G8 (E7.ext g8.f) (eda_nil (K := K)) (by decide) fun l9 H9 F9 G9 g9 M9 n9 E9 => ?_
        refine rest _ l9 H9 F9 _ G9 ((M5.step g8).ne n9) ((M7.step g8).ne n9) E9 ((M5.step g8).step g9) ((M7.step g8).step g9) (by rw [hb1, if_neg Bool.false_ne_true]; exact M9) ?_
        intro σ' H' F' G' E' M5 M7
        exact ⟨F', G', E', M5, M7⟩
    · rintro σ' H' ⟨F', G', E', M5, M7⟩
      dsimp only
      have et : ((b.length : Int) + 1).toNat = b.length + 1 := by omega
      rw [et] at M7
      obtain ⟨F2, e2, G2, p7, o7⟩ := M7.last' G'
      refine st_app' G2 (o7 _ _ (Ne.symm ne75) M5) (er_var (E'.ext e2) rfl) (ed_of (er_var (E'.ext e2) rfl) p7) (by rw [range_len]; omega) fun H3 F3 G3 e3 M5 o3 => ?_
      refine ⟨F3, G3, ((E'.ext e2).ext e3).weak (by walk_at "wk"), ?_⟩
      rw [range_snoc]
      exact M5
  · rintro σ' H' ⟨F', G', E', M5⟩
    dsimp only
    have et : ((a.length : Int) + 1).toNat = a.length + 1 := by omega
    rw [et] at M5
    obtain ⟨F2, e2, G2, p5, _⟩ := M5.last' G'
    exact st_ret G2 (ed_of (er_var (E'.ext e2) rfl) p5) q
theorem len_table_ahead (ds : List PyData) (d : PyData) (h : R_table_ahead ds d) : ds.length = 3 := by obtain ⟨_, _, _, _, _, _, _, _, h, _⟩ := h; rw [h]; rfl
theorem dv_table_ahead (T : Tx K mg) (cdv : Value) (A : Around) (outer : List PySem.Env) (s : Shared) (H : Hp) (E : XK) (hr : Room 1 (A.deeper (PyProof.Rows.envOfC "table_ahead" (defScope s_table_ahead) s.heap.objs.size T.d_table_ahead.f cdv))) :
    PSs (cxOf CX0 P w K mg base N_table_ahead "table_ahead" (defScope s_table_ahead) T.d_table_ahead.f cdv A outer s H E).nox (defBody s_table_ahead) (t_table_ahead K) := by
  exact (pss_cons (ps_asg (pe_slice sl_tupA (pv 2) po_none (po_some pe_int)) (pg_tup (by rfl) (pgs_cons (pg_name (i := 3) sc_table_ahead.nd rfl (Or.inl rfl)) (pgs_cons (pg_name (i := 4) sc_table_ahead.nd rfl (Or.inl rfl)) pgs_nil))))
  (pss_cons (ps_set (i := 5) sc_table_ahead.nd rfl (Or.inl rfl) (pe_lst pa_nil))
  (pss_cons (ps_for PassesOwn.never rfl (pi_range1 (by rfl) T.n_range (pa_cons (pe_op op_add (pe_callB call_lenQ (by rfl) T.n_len (by decide +kernel) (pa_cons (pv 0) pa_nil)) pe_int) pa_nil)) (pg_name (i := 6) sc_table_ahead.nd rfl (Or.inl rfl))
    (pss_cons (ps_set (i := 7) sc_table_ahead.nd rfl (Or.inl rfl) (pe_lst pa_nil))
  (pss_cons (ps_for PassesOwn.never rfl (pi_range1 (by rfl) T.n_range (pa_cons (pe_op op_add (pe_callB call_lenQ (by rfl) T.n_len (by decide +kernel) (pa_cons (pv 1) pa_nil)) pe_int) pa_nil)) (pg_name (i := 8) sc_table_ahead.nd rfl (Or.inl rfl))
    (pss_cons (ps_set (i := 9) sc_table_ahead.nd rfl (Or.inl rfl) (pe_ifExp (PW.pt (pw_and (pt_cmpR op_eq (pv 6) pe_int (nomark _)) (pw_and1 (pt_cmpR op_eq (pv 8) pe_int (nomark _))))) (pe_lst (pa_cons pe_int pa_nil)) (pe_lst pa_nil)))
  (pss_cons (ps_if (pt_cmpR op_gt (pv 6) pe_int (nomark _)) (pss_one (ps_expr (pe_bm PySem.F.plainAttrs_list PySem.F.slot_list_append PySem.F.type_list_append mt_append (pv 9) (pa_cons (pe_op op_add (pe_ix ix_seq (pe_ix ix_seq (pv 5) (pe_op op_sub (pv 6) pe_int) (fun _ _ => rfl)) (pv 8) (fun _ _ => rfl)) (pv 3)) pa_nil)))) pss_nil)
  (pss_cons (ps_if (pt_cmpR op_gt (pv 8) pe_int (nomark _)) (pss_one (ps_expr (pe_bm PySem.F.plainAttrs_list PySem.F.slot_list_append PySem.F.type_list_append mt_append (pv 9) (pa_cons (pe_op op_add (pe_ix ix_seq (pv 7) (pe_op op_sub (pv 8) pe_int) (fun _ _ => rfl)) (pv 4)) pa_nil)))) pss_nil)
  (pss_cons (ps_if (PW.pt (pw_and (pt_cmpR op_gt (pv 6) pe_int (nomark _)) (pw_and1 (pt_cmpR op_gt (pv 8) pe_int (nomark _))))) (pss_one (ps_expr (pe_bm PySem.F.plainAttrs_list PySem.F.slot_list_append PySem.F.type_list_append mt_append (pv 9) (pa_cons (pe_op op_add (pe_ix ix_seq (pe_ix ix_seq (pv 5) (pe_op op_sub (pv 6) pe_int) (fun _ _ => rfl)) (pe_op op_sub (pv 8) pe_int) (fun _ _ => rfl)) (pe_call (ok_price_between T) (hr.mono (by decide)) (by rfl) T.d_price_between.g T.d_price_between.F.kp T.d_price_between.b .nil pass0 (pa_cons (pv 2) (pa_cons (pe_ix ix_seq (pv 0) (pe_op op_sub (pv 6) pe_int) (fun _ _ => rfl)) (pa_cons (pe_ix ix_seq (pv 1) (pe_op op_sub (pv 8) pe_int) (fun _ _ => rfl)) pa_nil))))) pa_nil)))) pss_nil)
  (pss_one (ps_expr (pe_bm PySem.F.plainAttrs_list PySem.F.slot_list_append PySem.F.type_list_append mt_append (pv 7) (pa_cons (pe_callB (cr_min rfl) (by rfl) T.n_min (by decide +kernel) (pa_cons (pv 9) pa_nil)) pa_nil)))))))))
  (pss_one (ps_expr (pe_bm PySem.F.plainAttrs_list PySem.F.slot_list_append PySem.F.type_list_append mt_append (pv 5) (pa_cons (pv 7) pa_nil)))))))
  (pss_one (ps_ret (pv 5))))))

theorem ok_table_ahead (T : Tx K mg) : FnOk P w K mg base CX0 2 T.d_table_ahead.f T.d_table_ahead.fd ["a", "b", "prices"] (sp_table_ahead K) :=
  okD T.d_table_ahead.F sc_table_ahead (t_table_ahead K) len_table_ahead rd_table_ahead (fun cdv A outer s H E hr => dv_table_ahead T cdv A outer s H E hr)

end
end Gb

set_option maxHeartbeats 1000000
namespace Gb
open PySem L2
local macro_rules | `(tactic| walk_at "wk") => `(tactic| (repeat' (first | exact trivial | exact Or.inl rfl | exact Or.inr rfl | apply And.intro)))
/-! ### row_distance -/
def rowsR (R : List Str → List Str → Pr → PyData → Prop) (ds : List PyData) (d : PyData) : Prop := ∃ ta tb a b p, PrOk p ∧ (a : List Str).length ≤ 12 ∧ (b : List Str).length ≤ 12 ∧ ds = [rowD ta a, rowD tb b, prD p] ∧ R a b p d
def R_row_distance : List PyData → PyData → Prop := rowsR fun a b p d => d = .int (dist (chg p) p.dr p.ad a b)
def R__table_behind : List PyData → PyData → Prop := rowsR fun a b p d => d = tabD (a.length + 1) (b.length + 1) (fB p a b)
abbrev sp_row_distance (K : PySem.W.Frag) : Sp := spD K R_row_distance
abbrev sp__table_behind (K : PySem.W.Frag) : Sp := spD K R__table_behind
theorem len_rows {R : List Str → List Str → Pr → PyData → Prop} (ds : List PyData) (d : PyData) (h : rowsR R ds d) : ds.length = 3 := by obtain ⟨_, _, _, _, _, _, _, _, h, _⟩ := h; rw [h]; rfl
section
variable {P : Program} {w : World} {K : PySem.W.Frag} {mg : Str → Option Value} {base : Heap} {CP CM : Addr}
/-! ### row_distance -/
def t_row_distance (K : PySem.W.Frag) : TS :=
  (tSeq (tDrop (tCall (sp_need_prices K) [] E0 (tCons (tVar 2) tNil)))
  (tRet (tOp (rIx K) (tOp (rIx K) (tCall (sp_table_ahead K) [] E0 (tCons (tVar 0) (tCons (tVar 1) (tCons (tVar 2) tNil)))) (tCB (rLenQ K) (tCons (tVar 0) tNil))) (tCB (rLenQ K) (tCons (tVar 1) tNil)))))

theorem rd_row_distance : Keeps K N_row_distance R_row_distance (t_row_distance K) := by
  intro H F vs ds d Q x hd h q
  obtain ⟨ta, tb, a, b, p, ok, ha, hb, rfl, rfl⟩ := h
  have E := env_start (N := N_row_distance) hd
  refine st_seq (st_drop (Gr.refl x) (ed_call (eda_cons (ed_var E rfl) eda_nil) ⟨_, ok.sm, ok.ok, rfl, rfl⟩) fun H2 F2 G g => ?_)
  have E := E.ext g.f
  refine st_ret G (ed_is (ed_tab (ed_call (eda_cons (ed_var E rfl) (eda_cons (ed_var E rfl) (eda_cons (ed_var E rfl) eda_nil))) ⟨ta, tb, a, b, p, ok, ha, hb, rfl, rfl⟩) (ed_cb (eda_cons (ed_var E rfl) eda_nil) cd_lenR) (ed_cb (eda_cons (ed_var E rfl) eda_nil) cd_lenR) rfl rfl (Nat.lt_succ_self _) (Nat.lt_succ_self _)) ?_) q
  show PyData.int (dist (chg p) p.dr p.ad (a.take a.length) (b.take b.length)) = _
  rw [List.take_length, List.take_length]
theorem len_row_distance (ds : List PyData) (d : PyData) (h : R_row_distance ds d) : ds.length = 3 := len_rows ds d h
theorem dv_row_distance (T : Tx K mg) (XE : Errs P K mg CP CM) (cdv : Value) (A : Around) (outer : List PySem.Env) (s : Shared) (H : Hp) (E : XK) (hr : Room 5 (A.deeper (PyProof.Rows.envOfC "row_distance" (defScope s_row_distance) s.heap.objs.size T.d_row_distance.f cdv))) :
    PSs (cxOf CX0 P w K mg base N_row_distance "row_distance" (defScope s_row_distance) T.d_row_distance.f cdv A outer s H E).nox (defBody s_row_distance) (t_row_distance K) := by
  exact (pss_cons (ps_expr (pe_call (ok_need_prices T XE) (hr.mono (by decide)) (by rfl) T.d_need_prices.g T.d_need_prices.F.kp T.d_need_prices.b .nil passL (pa_cons (pv 2) pa_nil)))
  (pss_one (ps_ret (pe_ix ix_seq (pe_ix ix_seq (pe_call (ok_table_ahead T) (hr.mono (by decide)) (by rfl) T.d_table_ahead.g T.d_table_ahead.F.kp T.d_table_ahead.b .nil pass0 (pa_cons (pv 0) (pa_cons (pv 1) (pa_cons (pv 2) pa_nil)))) (pe_callB call_lenQ (by rfl) T.n_len (by decide +kernel) (pa_cons (pv 0) pa_nil)) (fun _ _ => rfl)) (pe_callB call_lenQ (by rfl) T.n_len (by decide +kernel) (pa_cons (pv 1) pa_nil)) (fun _ _ => rfl)))))

theorem ok_row_distance (T : Tx K mg) (XE : Errs P K mg CP CM) : FnOk P w K mg base CX0 6 T.d_row_distance.f T.d_row_distance.fd ["a", "b", "prices"] (sp_row_distance K) :=
  okD T.d_row_distance.F sc_row_distance (t_row_distance K) len_row_distance rd_row_distance (fun cdv A outer s H E hr => dv_row_distance T XE cdv A outer s H E hr)

/-! ### the table from the back -/
def revD : PyData → PyData
  | .list l => .list l.reverse
  | d => d
theorem range_rev {α : Type} (n : Nat) (f : Nat → α) : ((List.range n).map f).reverse = (List.range n).map fun i => f (n - 1 - i) := by
  apply List.ext_getElem?
  intro i
  by_cases hi : i < n
  · rw [List.getElem?_reverse (by rw [range_len]; exact hi), range_len, range_get _ (by omega), range_get _ hi]
  · rw [List.getElem?_eq_none (by rw [List.length_reverse, range_len]; omega), List.getElem?_eq_none (by rw [range_len]; omega)]
theorem dA_rev (p : Pr) (a b : List Str) (i j : Nat) (hi : i ≤ a.length) (hj : j ≤ b.length) : dA p a.reverse b.reverse (a.length - i) (b.length - j) = dB p a b i j := by
  unfold dA dB
  rw [List.take_reverse, List.take_reverse, show a.length - (a.length - i) = i by omega, show b.length - (b.length - j) = j by omega, dist_rev]
theorem tab_rev (p : Pr) (a b : List Str) : PyData.list ((((List.range (a.length + 1)).map fun i => PyData.list ((List.range (b.length + 1)).map fun j => fA p a.reverse b.reverse i j)).reverse).map revD) = tabD (a.length + 1) (b.length + 1) (fB p a b) := by
  unfold tabD
  rw [range_rev, List.map_map]
  congr 1
  apply List.map_congr_left
  intro i hi
  have hi' := List.mem_range.mp hi
  show PyData.list (((List.range (b.length + 1)).map fun j => fA p a.reverse b.reverse (a.length + 1 - 1 - i) j).reverse) = _
  rw [range_rev]
  congr 1
  apply List.map_congr_left
  intro j hj
  have hj' := List.mem_range.mp hj
  unfold fA fB
  rw [Nat.add_sub_cancel, Nat.add_sub_cancel, dA_rev p a b i j (by omega) (by omega)]
/-! ### _table_behind -/
def t__table_behind (K : PySem.W.Frag) : TS :=
  (tSeq (tAsg (tCall (sp_table_ahead K) [] E0 (tCons (tRev K (tVar 0)) (tCons (tRev K (tVar 1)) (tCons (tVar 2) tNil)))) (gName 3))
  (tRet (tLc (iList K (tRev K (tVar 3))) (gName 4) tYes (tRev K (tVar 4)) [4])))

theorem rd__table_behind : Keeps K N__table_behind R__table_behind (t__table_behind K) := by
  intro H F vs ds d Q x hd h q
  obtain ⟨ta, tb, a, b, p, ok, ha, hb, rfl, rfl⟩ := h
  have E := env_start (N := N__table_behind) hd
  have hr : ∀ {t : Bool} {a : List Str} {te : TE} {σ : L2.St} {F H : Hp}, Ed K te σ F H (rowD t a) → Ed K (tRev K te) σ F H (rowD t a.reverse) := fun h => ed_is (ed_rev h) (by unfold rowD; rw [List.map_reverse])
  refine st_seq (st_set (Gr.refl x) E (ed_call (eda_cons (hr (ed_var E rfl)) (eda_cons (hr (ed_var E rfl)) (eda_cons (ed_var E rfl) eda_nil))) ⟨ta, tb, a.reverse, b.reverse, p, ok, by rw [List.length_reverse]; exact ha, by rw [List.length_reverse]; exact hb, rfl, rfl⟩) fun v H2 F2 G g pv E2 => ?_)
  rw [List.length_reverse, List.length_reverse] at E2
  refine st_ret G (ed_is (ed_lcL1 revD (ed_revL (ed_var E2 rfl)) (by rw [List.length_reverse, range_len]; omega) fun i d x F1 H1 e g1 p1 => ?_) (tab_rev p a b)) q
  rw [range_rev, List.getElem?_map] at e
  have hi : i < a.length + 1 := by
    by_cases h : i < a.length + 1
    · exact h
    · rw [List.getElem?_eq_none (by rw [List.length_range]; omega)] at e; cases e
  rw [List.getElem?_range hi] at e
  obtain rfl := Option.some.inj e
  exact ed_revL (ed_var (env_blk E2 g1.f p1) rfl)
theorem len__table_behind (ds : List PyData) (d : PyData) (h : R__table_behind ds d) : ds.length = 3 := len_rows ds d h
theorem dv__table_behind (T : Tx K mg) (cdv : Value) (A : Around) (outer : List PySem.Env) (s : Shared) (H : Hp) (E : XK) (hr : Room 2 (A.deeper (PyProof.Rows.envOfC "_table_behind" (defScope s__table_behind) s.heap.objs.size T.d__table_behind.f cdv))) :
    PSs (cxOf CX0 P w K mg base N__table_behind "_table_behind" (defScope s__table_behind) T.d__table_behind.f cdv A outer s H E).nox (defBody s__table_behind) (t__table_behind K) := by
  exact (pss_cons (ps_set (i := 3) sc__table_behind.nd rfl (Or.inl rfl) (pe_call (ok_table_ahead T) (hr.mono (by decide)) (by rfl) T.d_table_ahead.g T.d_table_ahead.F.kp T.d_table_ahead.b .nil pass0 (pa_cons (pe_rev (pv 0)) (pa_cons (pe_rev (pv 1)) (pa_cons (pv 2) pa_nil)))))
  (pss_one (ps_ret (pe_lc (own := [("row", 4)]) (g := gName 4) (tt := tYes) rfl sc__table_behind.nd (pi_list (pe_rev (pv 3))) (blkOk_by (own := [("row", 4)]) (N := N__table_behind) (sc := defScope s__table_behind) (by decide +kernel)) (fun _ _ _ _ _ => pg_name (i := 4) sc__table_behind.nd rfl (Or.inl rfl)) (fun _ _ _ _ _ => pts_nil) (fun _ _ _ _ _ => (pe_rev (pv 4)))))))

theorem ok__table_behind (T : Tx K mg) : FnOk P w K mg base CX0 3 T.d__table_behind.f T.d__table_behind.fd ["a", "b", "prices"] (sp__table_behind K) :=
  okD T.d__table_behind.F sc__table_behind (t__table_behind K) len__table_behind rd__table_behind (fun cdv A outer s H E hr => dv__table_behind T cdv A outer s H E hr)

/-! ### may it end here, which pairs are next -/
def placeR (R : List Str → List Str → Pr → Nat → Nat → PyData → Prop) (ds : List PyData) (d : PyData) : Prop := ∃ ta tb a b p i j, PrOk p ∧ (a : List Str).length ≤ 12 ∧ (b : List Str).length ≤ 12 ∧ i ≤ a.length ∧ j ≤ b.length ∧
  ds = [rowD ta a, rowD tb b, prD p, tabD (a.length + 1) (b.length + 1) (fB p a b), .int (i : Int), .int (j : Int)] ∧ R a b p i j d
def R__can_end : List PyData → PyData → Prop := placeR fun a b p i j d => d = .bool (decide (ends (chg p) p.dr p.ad (a.drop i) (b.drop j)))
def R__next_pairs : List PyData → PyData → Prop := placeR fun a b p i j d => d = .list ((nextPairs (chg p) p.dr p.ad a b i j).map pairD)
abbrev sp__can_end (K : PySem.W.Frag) : Sp := spD K R__can_end
abbrev sp__next_pairs (K : PySem.W.Frag) : Sp := spD K R__next_pairs
theorem len_place {R : List Str → List Str → Pr → Nat → Nat → PyData → Prop} (ds : List PyData) (d : PyData) (h : placeR R ds d) : ds.length = 6 := by obtain ⟨_, _, _, _, _, _, _, _, _, _, _, _, h, _⟩ := h; rw [h]; rfl
/-! ### _can_end -/
def t__can_end (K : PySem.W.Frag) : TS :=
  (tRet (tOp rEq (tOp rAddI (tOp rMulI (tOp (rIx K) (tVar 2) (tC (.int 0))) (tOp rSubI (tCB (rLenQ K) (tCons (tVar 0) tNil)) (tVar 4))) (tOp rMulI (tOp (rIx K) (tVar 2) (tC (.int 1))) (tOp rSubI (tCB (rLenQ K) (tCons (tVar 1) tNil)) (tVar 5)))) (tOp (rIx K) (tOp (rIx K) (tVar 3) (tVar 4)) (tVar 5))))

theorem rd__can_end : Keeps K N__can_end R__can_end (t__can_end K) := by
  intro H F vs ds d Q x hd h q
  obtain ⟨ta, tb, a, b, p, i, j, ok, ha, hb, hi, hj, rfl, rfl⟩ := h
  have E := env_start (N := N__can_end) hd
  refine st_ret (Gr.refl x) (ed_is (ed_op (ed_op (ed_op (ed_op (ed_var E rfl) (ed_cI (K := K)) (od_ixT (j := 0) rfl rfl)) (ed_op (ed_cb (eda_cons (ed_var E rfl) eda_nil) cd_lenR) (ed_var E rfl) od_sub) (od_mul (cmul_l ok.dr)))
    (ed_op (ed_op (ed_var E rfl) (ed_cI (K := K)) (od_ixT (j := 1) rfl rfl)) (ed_op (ed_cb (eda_cons (ed_var E rfl) eda_nil) cd_lenR) (ed_var E rfl) od_sub) (od_mul (cmul_l ok.ad))) od_add)
    (ed_tab (ed_var E rfl) (ed_var E rfl) (ed_var E rfl) rfl rfl (Nat.lt_succ_of_le hi) (Nat.lt_succ_of_le hj)) od_eqI) ?_) q
  have e1 : ((a.drop i).length : Int) = (a.length : Int) - (i : Int) := by rw [List.length_drop]; omega
  have e2 : ((b.drop j).length : Int) = (b.length : Int) - (j : Int) := by rw [List.length_drop]; omega
  congr 1
  apply decide_eq_decide.mpr
  unfold ends
  rw [e1, e2]
  exact Iff.rfl
theorem len__can_end (ds : List PyData) (d : PyData) (h : R__can_end ds d) : ds.length = 6 := len_place ds d h
theorem dv__can_end (T : Tx K mg) (cdv : Value) (A : Around) (outer : List PySem.Env) (s : Shared) (H : Hp) (E : XK) (hr : Room 0 (A.deeper (PyProof.Rows.envOfC "_can_end" (defScope s__can_end) s.heap.objs.size T.d__can_end.f cdv))) :
    PSs (cxOf CX0 P w K mg base N__can_end "_can_end" (defScope s__can_end) T.d__can_end.f cdv A outer s H E).nox (defBody s__can_end) (t__can_end K) := by
  exact (pss_one (ps_ret (pe_cmpR op_eq (pe_op op_add (pe_op op_mul (pe_ix ix_seq (pv 2) pe_int (fun _ _ => rfl)) (pe_op op_sub (pe_callB call_lenQ (by rfl) T.n_len (by decide +kernel) (pa_cons (pv 0) pa_nil)) (pv 4))) (pe_op op_mul (pe_ix ix_seq (pv 2) pe_int (fun _ _ => rfl)) (pe_op op_sub (pe_callB call_lenQ (by rfl) T.n_len (by decide +kernel) (pa_cons (pv 1) pa_nil)) (pv 5)))) (pe_ix ix_seq (pe_ix ix_seq (pv 3) (pv 4) (fun _ _ => rfl)) (pv 5) (fun _ _ => rfl)) (nomark _))))

theorem ok__can_end (T : Tx K mg) : FnOk P w K mg base CX0 1 T.d__can_end.f T.d__can_end.fd ["a", "b", "prices", "behind", "i", "j"] (sp__can_end K) :=
  okD T.d__can_end.F sc__can_end (t__can_end K) len__can_end rd__can_end (fun cdv A outer s H E hr => dv__can_end T cdv A outer s H E hr)

theorem drop_cons {a : List Str} {i : Nat} (h : i < a.length) : a.drop i = wAt a i :: a.drop (i + 1) := by
  rw [List.drop_eq_getElem_cons h]
  unfold wAt
  rw [List.getD_eq_getElem?_getD, List.getElem?_eq_getElem h]
  rfl
/-! ### _next_pairs -/
def t__next_pairs (K : PySem.W.Frag) : TS :=
  (tSeq (tAsg (tLst tNil) (gName 6))
  (tSeq (tFor (iRng2 (tCons (tVar 4) (tCons (tCB (rLenQ K) (tCons (tVar 0) tNil)) tNil))) (gName 7)
    (tFor (iRng2 (tCons (tVar 5) (tCons (tCB (rLenQ K) (tCons (tVar 1) tNil)) tNil))) (gName 8)
    (tSeq (tAsg (tOp rAddI (tOp rAddI (tOp rMulI (tOp (rIx K) (tVar 2) (tC (.int 0))) (tOp rSubI (tVar 7) (tVar 4))) (tOp rMulI (tOp (rIx K) (tVar 2) (tC (.int 1))) (tOp rSubI (tVar 8) (tVar 5)))) (tCall (sp_price_between K) [] E0 (tCons (tVar 2) (tCons (tOp (rIx K) (tVar 0) (tVar 7)) (tCons (tOp (rIx K) (tVar 1) (tVar 8)) tNil))))) (gName 9))
  (tIfS (tTest (tOp rEq (tOp rAddI (tVar 9) (tOp (rIx K) (tOp (rIx K) (tVar 3) (tOp rAddI (tVar 7) (tC (.int 1)))) (tOp rAddI (tVar 8) (tC (.int 1))))) (tOp (rIx K) (tOp (rIx K) (tVar 3) (tVar 4)) (tVar 5)))) (tDrop (tBM K "list" rAppend (tVar 6) (tCons (tTup (tCons (tVar 7) (tCons (tVar 8) tNil))) tNil))) tNext))))
  (tRet (tVar 6))))

theorem rd__next_pairs : Keeps K N__next_pairs R__next_pairs (t__next_pairs K) := by
  intro H F vs ds d Q x hd h q
  obtain ⟨ta, tb, a, b, p, i, j, ok, ha, hb, hi, hj, rfl, rfl⟩ := h
  have E := env_start (N := N__next_pairs) hd
  refine st_seq (st_new (Gr.refl x) E fun l6 H2 G2 g2 M2 _ E2 => ?_)
  refine st_seq (st_for2 G2 (ed_var E2 rfl) (ed_cb (eda_cons (ed_var E2 rfl) eda_nil) cd_lenR) ⟨by omega, by omega, by omega, by omega⟩ fun H3 F3 G3 g3 => ⟨fun m σ' H' => ∃ F' fl, Gr no H F H' F' ∧
    Env K F' σ' [.d (rowD ta a), .d (rowD tb b), .d (prD p), .d (tabD (a.length + 1) (b.length + 1) (fB p a b)), .d (.int (i : Int)), .d (.int (j : Int)), .v (.ref l6), .un, .un, .un] ∧ Ml K H l6 (fl.map pairD) F' H' ∧ fl.length ≤ 20 * m ∧
    fl ++ pairsFrom (chg p) p.dr p.ad (dB p a b i j) j (b.drop j) (p.dr * (m : Int)) (i + m) (a.drop (i + m)) = nextPairs (chg p) p.dr p.ad a b i j, ?_, ?_, ?_⟩)
  · refine ⟨F3, [], G3, E2.ext g3.f, M2.step g3, Nat.zero_le _, ?_⟩
    show pairsFrom _ _ _ _ _ _ (p.dr * 0) (i + 0) (a.drop (i + 0)) = _
    rw [Int.mul_zero, Nat.add_zero]
    rfl
  · rintro m σ' H' hm ⟨F', fl, G', E', M', hl, hf⟩
    have hk : i + m < a.length := by omega
    have E4 := Env.set (o := some (V.int ((i : Int) + (m : Int)))) 7 (s := .d (.int ((i + m : Nat) : Int))) E' ⟨_, rfl, by rw [← Int.natCast_add]; exact .int _⟩
    rw [drop_cons hk] at hf
    have hf1 : (fl ++ rowPairs (chg p) p.dr p.ad (i + m) (wAt a (i + m)) (a.drop (i + m + 1)) (dB p a b i j) (p.dr * (m : Int)) j (b.drop j)) ++ pairsFrom (chg p) p.dr p.ad (dB p a b i j) j (b.drop j) (p.dr * ((m + 1 : Nat) : Int)) (i + (m + 1)) (a.drop (i + (m + 1))) = nextPairs (chg p) p.dr p.ad a b i j := by
      rw [← hf, List.append_assoc]
      have e : p.dr * ((m + 1 : Nat) : Int) = p.dr * (m : Int) + p.dr := by rw [Int.natCast_add, Int.mul_add]; omega
      rw [e]
      rfl
    refine st_for2 G' (ed_var E4 rfl) (ed_cb (eda_cons (ed_var E4 rfl) eda_nil) cd_lenR) ⟨by omega, by omega, by omega, by omega⟩ fun H5 F5 G5 g5 => ⟨fun n σ' H' => ∃ F' fl', Gr no H F H' F' ∧
      Env K F' σ' [.d (rowD ta a), .d (rowD tb b), .d (prD p), .d (tabD (a.length + 1) (b.length + 1) (fB p a b)), .d (.int (i : Int)), .d (.int (j : Int)), .v (.ref l6), .d (.int ((i + m : Nat) : Int)), .un, .un] ∧ Ml K H l6 (fl'.map pairD) F' H' ∧ fl'.length ≤ 20 * m + n ∧
      fl' ++ rowPairs (chg p) p.dr p.ad (i + m) (wAt a (i + m)) (a.drop (i + m + 1)) (dB p a b i j) (p.dr * (m : Int) + p.ad * (n : Int)) (j + n) (b.drop (j + n)) = fl ++ rowPairs (chg p) p.dr p.ad (i + m) (wAt a (i + m)) (a.drop (i + m + 1)) (dB p a b i j) (p.dr * (m : Int)) j (b.drop j), ?_, ?_, ?_⟩
    · refine ⟨F5, fl, G5, E4.ext g5.f, M'.step g5, by omega, ?_⟩
      rw [show ((0 : Nat) : Int) = 0 from rfl, Int.mul_zero, Int.add_zero]
      rfl
    · rintro n σ' H' hn ⟨F', fl', G', E', M', hl', hf'⟩
      have hk2 : j + n < b.length := by omega
      have E6 := Env.set (o := some (V.int ((j : Int) + (n : Int)))) 8 (s := .d (.int ((j + n : Nat) : Int))) E' ⟨_, rfl, by rw [← Int.natCast_add]; exact .int _⟩
      refine st_seq (st_set G' E6 (d := .int (p.dr * (m : Int) + p.ad * (n : Int) + chg p (wAt a (i + m)) (wAt b (j + n)))) (ed_is (ed_op (ed_op (ed_op (ed_op (ed_var E6 rfl) (ed_cI (K := K)) (od_ixT (j := 0) rfl rfl)) (ed_op (ed_var E6 rfl) (ed_var E6 rfl) od_sub) (od_mul (cmul_l ok.dr)))
        (ed_op (ed_op (ed_var E6 rfl) (ed_cI (K := K)) (od_ixT (j := 1) rfl rfl)) (ed_op (ed_var E6 rfl) (ed_var E6 rfl) od_sub) (od_mul (cmul_l ok.ad))) od_add)
        (ed_call (eda_cons (ed_var E6 rfl) (eda_cons (ed_op (ed_var E6 rfl) (ed_var E6 rfl) (od_word rfl hk)) (eda_cons (ed_op (ed_var E6 rfl) (ed_var E6 rfl) (od_word rfl hk2)) eda_nil))) ⟨_, _, _, rfl, rfl⟩) od_add) (by
          rw [show ((i + m : Nat) : Int) - (i : Int) = (m : Int) by omega, show ((j + n : Nat) : Int) - (j : Int) = (n : Int) by omega])) fun v7 H7 F7 G7 g7 p7 E7 => ?_)
      refine st_ifapp G7 (b := decide (p.dr * (m : Int) + p.ad * (n : Int) + chg p (wAt a (i + m)) (wAt b (j + n)) + dB p a b (i + m + 1) (j + n + 1) = dB p a b i j)) (edt_test (ed_op (ed_op (ed_var E7 rfl) (ed_tab (ed_var E7 rfl) (ed_op (ed_var E7 rfl) (ed_cI (K := K)) od_add) (ed_op (ed_var E7 rfl) (ed_cI (K := K)) od_add)
          (show ((i + m : Nat) : Int) + 1 = ((i + m + 1 : Nat) : Int) by omega) (show ((j + n : Nat) : Int) + 1 = ((j + n + 1 : Nat) : Int) by omega) (by omega) (by omega)) od_add) (ed_tab (ed_var E7 rfl) (ed_var E7 rfl) (ed_var E7 rfl) rfl rfl (by omega) (by omega)) od_eqI)) (M'.step g7) (er_var E7 rfl)
          (d := pairD (i + m, j + n)) (fun hb1 H2 F2 g2 => ed_tup (eda_cons (ed_var (E7.ext g2.f) rfl) (eda_cons (ed_var (E7.ext g2.f) rfl) eda_nil)) (show 2 ≤ 1000 by omega)) (by rw [List.length_map]; omega) fun H8 F8 G8 e8 M8 _ => ?_
      refine ⟨F8, fl' ++ (if p.dr * (m : Int) + p.ad * (n : Int) + chg p (wAt a (i + m)) (wAt b (j + n)) + dB p a b (i + m + 1) (j + n + 1) = dB p a b i j then [(i + m, j + n)] else []), G8, (E7.ext e8).weak (by walk_at "wk"), ?_, ?_, ?_⟩
      · rw [List.map_append]
        by_cases hc : p.dr * (m : Int) + p.ad * (n : Int) + chg p (wAt a (i + m)) (wAt b (j + n)) + dB p a b (i + m + 1) (j + n + 1) = dB p a b i j
        · rw [if_pos (decide_eq_true hc)] at M8
          rw [if_pos hc]
          exact M8
        · rw [if_neg (by rw [decide_eq_false hc]; exact Bool.false_ne_true)] at M8
          rw [if_neg hc]
          exact M8
      · rw [List.length_append]
        split
        · rw [List.length_singleton]; omega
        · rw [List.length_nil]; omega
      · rw [← hf', drop_cons hk2, List.append_assoc]
        have e : p.dr * (m : Int) + p.ad * ((n + 1 : Nat) : Int) = p.dr * (m : Int) + p.ad * (n : Int) + p.ad := by rw [Int.natCast_add, Int.mul_add]; omega
        rw [e]
        rfl
    · rintro σ' H' ⟨F', fl', G', E', M', hl', hf'⟩
      dsimp only
      have et : ((b.length : Int) - (j : Int)).toNat = b.length - j := by omega
      rw [et] at hf' hl'
      have e2 : b.drop (j + (b.length - j)) = [] := by rw [show j + (b.length - j) = b.length by omega, List.drop_length]
      rw [e2] at hf'
      have hf2 : fl' = fl ++ rowPairs (chg p) p.dr p.ad (i + m) (wAt a (i + m)) (a.drop (i + m + 1)) (dB p a b i j) (p.dr * (m : Int)) j (b.drop j) := by
        rw [← hf']
        exact (List.append_nil _).symm
      refine ⟨F', fl', G', E'.weak (by walk_at "wk"), M', by omega, ?_⟩
      rw [hf2]
      exact hf1
  · rintro σ' H' ⟨F', fl, G', E', M', hl, hf⟩
    dsimp only
    have et : ((a.length : Int) - (i : Int)).toNat = a.length - i := by omega
    rw [et] at hf
    have e2 : a.drop (i + (a.length - i)) = [] := by rw [show i + (a.length - i) = a.length by omega, List.drop_length]
    rw [e2] at hf
    have hf2 : fl = nextPairs (chg p) p.dr p.ad a b i j := by
      rw [← hf]
      exact (List.append_nil _).symm
    obtain ⟨F2, e3, G2, p6, _⟩ := M'.last' G'
    rw [hf2] at p6
    exact st_ret G2 (ed_of (er_var (E'.ext e3) rfl) p6) q
theorem len__next_pairs (ds : List PyData) (d : PyData) (h : R__next_pairs ds d) : ds.length = 6 := len_place ds d h
theorem dv__next_pairs (T : Tx K mg) (cdv : Value) (A : Around) (outer : List PySem.Env) (s : Shared) (H : Hp) (E : XK) (hr : Room 1 (A.deeper (PyProof.Rows.envOfC "_next_pairs" (defScope s__next_pairs) s.heap.objs.size T.d__next_pairs.f cdv))) :
    PSs (cxOf CX0 P w K mg base N__next_pairs "_next_pairs" (defScope s__next_pairs) T.d__next_pairs.f cdv A outer s H E).nox (defBody s__next_pairs) (t__next_pairs K) := by
  exact (pss_cons (ps_set (i := 6) sc__next_pairs.nd rfl (Or.inl rfl) (pe_lst pa_nil))
  (pss_cons (ps_for PassesOwn.never rfl (pi_range2 (by rfl) T.n_range (pa_cons (pv 4) (pa_cons (pe_callB call_lenQ (by rfl) T.n_len (by decide +kernel) (pa_cons (pv 0) pa_nil)) pa_nil))) (pg_name (i := 7) sc__next_pairs.nd rfl (Or.inl rfl))
    (pss_one (ps_for PassesOwn.never rfl (pi_range2 (by rfl) T.n_range (pa_cons (pv 5) (pa_cons (pe_callB call_lenQ (by rfl) T.n_len (by decide +kernel) (pa_cons (pv 1) pa_nil)) pa_nil))) (pg_name (i := 8) sc__next_pairs.nd rfl (Or.inl rfl))
    (pss_cons (ps_set (i := 9) sc__next_pairs.nd rfl (Or.inl rfl) (pe_op op_add (pe_op op_add (pe_op op_mul (pe_ix ix_seq (pv 2) pe_int (fun _ _ => rfl)) (pe_op op_sub (pv 7) (pv 4))) (pe_op op_mul (pe_ix ix_seq (pv 2) pe_int (fun _ _ => rfl)) (pe_op op_sub (pv 8) (pv 5)))) (pe_call (ok_price_between T) (hr.mono (by decide)) (by rfl) T.d_price_between.g T.d_price_between.F.kp T.d_price_between.b .nil pass0 (pa_cons (pv 2) (pa_cons (pe_ix ix_seq (pv 0) (pv 7) (fun _ _ => rfl)) (pa_cons (pe_ix ix_seq (pv 1) (pv 8) (fun _ _ => rfl)) pa_nil))))))
  (pss_one (ps_if (pt_cmpR op_eq (pe_op op_add (pv 9) (pe_ix ix_seq (pe_ix ix_seq (pv 3) (pe_op op_add (pv 7) pe_int) (fun _ _ => rfl)) (pe_op op_add (pv 8) pe_int) (fun _ _ => rfl))) (pe_ix ix_seq (pe_ix ix_seq (pv 3) (pv 4) (fun _ _ => rfl)) (pv 5) (fun _ _ => rfl)) (nomark _)) (pss_one (ps_expr (pe_bm PySem.F.plainAttrs_list PySem.F.slot_list_append PySem.F.type_list_append mt_append (pv 6) (pa_cons (pe_tup (pa_cons (pv 7) (pa_cons (pv 8) pa_nil))) pa_nil)))) pss_nil))))))
  (pss_one (ps_ret (pv 6)))))

theorem ok__next_pairs (T : Tx K mg) : FnOk P w K mg base CX0 2 T.d__next_pairs.f T.d__next_pairs.fd ["a", "b", "prices", "behind", "i", "j"] (sp__next_pairs K) :=
  okD T.d__next_pairs.F sc__next_pairs (t__next_pairs K) len__next_pairs rd__next_pairs (fun cdv A outer s H E hr => dv__next_pairs T cdv A outer s H E hr)

/-! ### the first matching -/
def R_first_row_matching : List PyData → PyData → Prop := rowsR fun a b p d => d = .tuple ((first (chg p) p.dr p.ad a b).map pairD)
abbrev sp_first_row_matching (K : PySem.W.Frag) : Sp := spD K R_first_row_matching
/-! ### first_row_matching -/
def t_first_row_matching (K : PySem.W.Frag) : TS :=
  (tSeq (tDrop (tCall (sp_need_prices K) [] E0 (tCons (tVar 2) tNil)))
  (tSeq (tAsg (tCall (sp__table_behind K) [] E0 (tCons (tVar 0) (tCons (tVar 1) (tCons (tVar 2) tNil)))) (gName 3))
  (tSeq (tAsg (tTup tNil) (gName 4))
  (tSeq (tAsg (tC (.int 0)) (gName 5))
  (tSeq (tAsg (tC (.int 0)) (gName 6))
  (tSeq (tWhile (tNot (tB (tCall (sp__can_end K) [] E0 (tCons (tVar 0) (tCons (tVar 1) (tCons (tVar 2) (tCons (tVar 3) (tCons (tVar 5) (tCons (tVar 6) tNil))))))))) (tSeq (tAsg (tOp (rIx K) (tCall (sp__next_pairs K) [] E0 (tCons (tVar 0) (tCons (tVar 1) (tCons (tVar 2) (tCons (tVar 3) (tCons (tVar 5) (tCons (tVar 6) tNil))))))) (tC (.int 0))) (gName 7))
  (tSeq (tAsg (tOp (rCatA K) (tVar 4) (tTup (tCons (tVar 7) tNil))) (gName 4))
  (tPar 5 6 (tCons (tOp rAddI (tOp (rIx K) (tVar 7) (tC (.int 0))) (tC (.int 1))) (tCons (tOp rAddI (tOp (rIx K) (tVar 7) (tC (.int 1))) (tC (.int 1))) tNil))))))
  (tRet (tVar 4))))))))

theorem rd_first_row_matching : Keeps K N_first_row_matching R_first_row_matching (t_first_row_matching K) := by
  intro H F vs ds d Q x hd h q
  obtain ⟨ta, tb, a, b, p, ok, ha, hb, rfl, rfl⟩ := h
  have E := env_start (N := N_first_row_matching) hd
  refine st_seq (st_drop (Gr.refl x) (ed_call (eda_cons (ed_var E rfl) eda_nil) ⟨_, ok.sm, ok.ok, rfl, rfl⟩) fun H2 F2 G g => ?_)
  have E := E.ext g.f
  refine st_seq (st_set G E (ed_call (eda_cons (ed_var E rfl) (eda_cons (ed_var E rfl) (eda_cons (ed_var E rfl) eda_nil))) ⟨ta, tb, a, b, p, ok, ha, hb, rfl, rfl⟩) fun v3 H3 F3 G3 g3 p3 E3 => ?_)
  refine st_seq (st_set G3 E3 (ed_tup (eda_nil (K := K))) fun v4 H4 F4 G4 g4 p4 E4 => ?_)
  dsimp only
  refine st_seq (st_set G4 E4 (ed_cI (K := K)) fun v5 H5 F5 G5 g5 p5 E5 => ?_)
  dsimp only
  refine st_seq (st_set G5 E5 (ed_cI (K := K)) fun v6 H6 F6 G6 g6 p6 E6 => ?_)
  refine st_seq (st_while (H0 := H) (F0 := F) (fun m σ' H' => ∃ F' i j f fl, Gr no H F H' F' ∧
    Env K F' σ' [.d (rowD ta a), .d (rowD tb b), .d (prD p), .d (tabD (a.length + 1) (b.length + 1) (fB p a b)), .d (.tuple ((fl : List (Nat × Nat)).map pairD)), .d (.int ((i : Nat) : Int)), .d (.int ((j : Nat) : Int)), .un] ∧ i ≤ a.length ∧ j ≤ b.length ∧ fl.length ≤ i ∧ a.length + 1 ≤ f + i ∧ m = a.length - i ∧
    fl ++ firstF (chg p) p.dr p.ad a b f i j = first (chg p) p.dr p.ad a b) ⟨_, F6, 0, 0, a.length + 1, [], G6, E6, Nat.zero_le _, Nat.zero_le _, Nat.le_refl _, Nat.le_refl _, rfl, rfl⟩ ?_)
  rintro m σ' H' ⟨F', i, j, f, fl, G', E', hi, hj, hl, hf, rfl, hfl⟩
  obtain ⟨f', rfl⟩ : ∃ f', f = f' + 1 := ⟨f - 1, by omega⟩
  have key : firstF (chg p) p.dr p.ad a b (f' + 1) i j = if ends (chg p) p.dr p.ad (a.drop i) (b.drop j) then [] else match nextPairs (chg p) p.dr p.ad a b i j with
    | [] => []
    | q :: _ => q :: firstF (chg p) p.dr p.ad a b f' (q.1 + 1) (q.2 + 1) := rfl
  refine ⟨F', !(decide (ends (chg p) p.dr p.ad (a.drop i) (b.drop j))), G', edt_not (edt_B (ed_call (eda_cons (ed_var E' rfl) (eda_cons (ed_var E' rfl) (eda_cons (ed_var E' rfl) (eda_cons (ed_var E' rfl) (eda_cons (ed_var E' rfl) (eda_cons (ed_var E' rfl) eda_nil)))))) ⟨ta, tb, a, b, p, i, j, ok, ha, hb, hi, hj, rfl, rfl⟩)), fun hc H7 F7 G7 g7 => ?_, fun hc H7 F7 G7 g7 => ?_⟩
  · have hne : ¬ ends (chg p) p.dr p.ad (a.drop i) (b.drop j) := fun z => by rw [decide_eq_true z] at hc; cases hc
    obtain ⟨r, l, e, h1, h2, h3, h4⟩ := next_found (chg p) p.dr p.ad a b i j hne
    rw [key, if_neg hne, e] at hfl
    have E7 := E'.ext g7.f
    refine st_seq (st_set G7 E7 (d := pairD r) (ed_op (ed_call (eda_cons (ed_var E7 rfl) (eda_cons (ed_var E7 rfl) (eda_cons (ed_var E7 rfl) (eda_cons (ed_var E7 rfl) (eda_cons (ed_var E7 rfl) (eda_cons (ed_var E7 rfl) eda_nil)))))) ⟨ta, tb, a, b, p, i, j, ok, ha, hb, hi, hj, rfl, rfl⟩) (ed_cI (K := K)) (od_ixL (j := 0) rfl (by rw [e]; rfl))) fun v8 H8 F8 G8 g8 p8 E8 => ?_)
    refine st_seq (st_set G8 E8 (ed_op (ed_var E8 rfl) (ed_tup (eda_cons (ed_var E8 rfl) eda_nil) (show 1 ≤ 1000 by omega)) (od_cat (by rw [List.length_map, List.length_singleton]; omega))) fun v9 H9 F9 G9 g9 p9 E9 => ?_)
    refine st_par G9 E9 (eda_cons (ed_op (ed_op (ed_var E9 rfl) (ed_cI (K := K)) (od_ixT (j := 0) rfl rfl)) (ed_cI (K := K)) od_add) (eda_cons (ed_op (ed_op (ed_var E9 rfl) (ed_cI (K := K)) (od_ixT (j := 1) rfl rfl)) (ed_cI (K := K)) od_add) eda_nil)) fun σ2 H10 F10 G10 g10 E10 => ?_
    refine ⟨a.length - (r.1 + 1), by omega, F10, r.1 + 1, r.2 + 1, f', fl ++ [r], G10, ?_, by omega, by omega, by rw [List.length_append, List.length_singleton]; omega, by omega, rfl, ?_⟩
    · rw [List.map_append]
      exact E10.weak (by walk_at "wk")
    · rw [← hfl, List.append_assoc]
      rfl
  · have hy : ends (chg p) p.dr p.ad (a.drop i) (b.drop j) := by
      by_cases z : ends (chg p) p.dr p.ad (a.drop i) (b.drop j)
      · exact z
      · rw [decide_eq_false z] at hc; cases hc
    rw [key, if_pos hy, List.append_nil] at hfl
    refine st_ret G7 (ed_var (E'.ext g7.f) rfl) ?_
    rw [hfl]
    exact q
theorem len_first_row_matching (ds : List PyData) (d : PyData) (h : R_first_row_matching ds d) : ds.length = 3 := len_rows ds d h
theorem dv_first_row_matching (T : Tx K mg) (XE : Errs P K mg CP CM) (cdv : Value) (A : Around) (outer : List PySem.Env) (s : Shared) (H : Hp) (E : XK) (hr : Room 5 (A.deeper (PyProof.Rows.envOfC "first_row_matching" (defScope s_first_row_matching) s.heap.objs.size T.d_first_row_matching.f cdv))) :
    PSs (cxOf CX0 P w K mg base N_first_row_matching "first_row_matching" (defScope s_first_row_matching) T.d_first_row_matching.f cdv A outer s H E).nox (defBody s_first_row_matching) (t_first_row_matching K) := by
  exact (pss_cons (ps_expr (pe_call (ok_need_prices T XE) (hr.mono (by decide)) (by rfl) T.d_need_prices.g T.d_need_prices.F.kp T.d_need_prices.b .nil passL (pa_cons (pv 2) pa_nil)))
  (pss_cons (ps_set (i := 3) sc_first_row_matching.nd rfl (Or.inl rfl) (pe_call (ok__table_behind T) (hr.mono (by decide)) (by rfl) T.d__table_behind.g T.d__table_behind.F.kp T.d__table_behind.b .nil pass0 (pa_cons (pv 0) (pa_cons (pv 1) (pa_cons (pv 2) pa_nil)))))
  (pss_cons (ps_set (i := 4) sc_first_row_matching.nd rfl (Or.inl rfl) (pe_tup pa_nil))
  (pss_cons (ps_set (i := 5) sc_first_row_matching.nd rfl (Or.inl rfl) pe_int)
  (pss_cons (ps_set (i := 6) sc_first_row_matching.nd rfl (Or.inl rfl) pe_int)
  (pss_cons (ps_while PassesOwn.never (pt_not (pt_val (pe_call (ok__can_end T) (hr.mono (by decide)) (by rfl) T.d__can_end.g T.d__can_end.F.kp T.d__can_end.b .nil pass0 (pa_cons (pv 0) (pa_cons (pv 1) (pa_cons (pv 2) (pa_cons (pv 3) (pa_cons (pv 5) (pa_cons (pv 6) pa_nil))))))))) (pss_cons (ps_set (i := 7) sc_first_row_matching.nd rfl (Or.inl rfl) (pe_ix ix_seq (pe_call (ok__next_pairs T) (hr.mono (by decide)) (by rfl) T.d__next_pairs.g T.d__next_pairs.F.kp T.d__next_pairs.b .nil pass0 (pa_cons (pv 0) (pa_cons (pv 1) (pa_cons (pv 2) (pa_cons (pv 3) (pa_cons (pv 5) (pa_cons (pv 6) pa_nil))))))) pe_int (fun _ _ => rfl)))
  (pss_cons (ps_set (i := 4) sc_first_row_matching.nd rfl (Or.inl rfl) (pe_op op_catA (pv 4) (pe_tup (pa_cons (pv 7) pa_nil))))
  (pss_one (ps_par (i := 5) (j := 6) (by rfl) sc_first_row_matching.nd rfl rfl (by decide) rfl rfl (pa_cons (pe_op op_add (pe_ix ix_seq (pv 7) pe_int (fun _ _ => rfl)) pe_int) (pa_cons (pe_op op_add (pe_ix ix_seq (pv 7) pe_int (fun _ _ => rfl)) pe_int) pa_nil)) (by rfl))))))
  (pss_one (ps_ret (pv 4)))))))))

theorem ok_first_row_matching (T : Tx K mg) (XE : Errs P K mg CP CM) : FnOk P w K mg base CX0 6 T.d_first_row_matching.f T.d_first_row_matching.fd ["a", "b", "prices"] (sp_first_row_matching K) :=
  okD T.d_first_row_matching.F sc_first_row_matching (t_first_row_matching K) len_first_row_matching rd_first_row_matching (fun cdv A outer s H E hr => dv_first_row_matching T XE cdv A outer s H E hr)

end
end Gb

set_option maxHeartbeats 1000000
/-! A dict by pairs of ints; range that goes down. -/
namespace Gb
open PySem L2
section
variable {K : PySem.W.Frag} {σ : L2.St} {F H H0 F0 : Hp} {ρ : List Sv} {ta tb te : TE} {d d1 d2 : PyData} {i : Nat} {D : Ends} {tz : TS}
abbrev PK := List L2.Key
def pk (x y : Int) : PK := [.inl x, .inl y]
/-- a dict at l, younger than H0 -/
structure Md (H0 : Hp) (l : Addr) (kvs : List (PK × V)) (F H : Hp) : Prop where
  y : H0 l = none
  f : F l = none
  h : H l = some (.dT kvs)
theorem Md.step {l : Addr} {kvs : List (PK × V)} {F2 H2 : Hp} (M : Md H0 l kvs F H) (g : Gr no H F H2 F2) : Md H0 l kvs F2 H2 := ⟨M.y, by rw [g.n l (by rw [M.h]; simp)]; exact M.f, g.ext l _ M.h⟩
theorem put_len {κ : Type} [DecidableEq κ] (kvs : List (κ × V)) (k : κ) (v : V) : (putK kvs k v).length ≤ kvs.length + 1 := by
  unfold putK
  split
  · rw [List.length_map]; omega
  · rw [List.length_append]; exact Nat.le_refl _
theorem st_dnewT {i : Nat} (G : Gr no H0 F0 H F) (E : Env K F σ ρ) (k : ∀ l H2, Gr no H0 F0 H2 F → Gr no H F H2 F → Md H0 l [] F H2 → Env K F (σ.set i (some (.ref l))) (ρ.set i (.v (.ref l))) → D.nx (σ.set i (some (.ref l))) H2) :
    tAsg tDNewT (gName i) D σ H := fun p hp => by
  have g : Gr no H F (upd H p (.dT [])) F := Gr.newM G.e hp
  have hp0 : H0 p = none := by
    cases e : H0 p with
    | none => rfl
    | some o => exact absurd hp (G.t p (by rw [e]; simp))
  exact k p _ (G.tr g) g ⟨hp0, G.e.none_of hp, upd_same⟩ (Env.set i (s := .v (.ref p)) E rfl)
theorem ed_dgetT {l : Addr} {kvs : List (PK × V)} {to : TE} {x y z : Int} (M : Md H0 l kvs F H) (ho : Er to σ F H (.ref l)) (h1 : Ed K ta σ F H (.int x)) (h2 : Ed K tb σ F H (.int y)) (hv : valV kvs (pk x y) = some (.int z)) :
    Ed K (tDGet to (tTup (tCons ta (tCons tb tNil)))) σ F H (.int z) := fun F1 H1 g Q q => ho F1 H1 g _ (h1 F1 H1 g _ fun v H2 F2 g2 p2 => h2 F2 H2 (g.tr g2) _ fun w H3 F3 g3 p3 => by
  cases p2
  cases p3
  refine ⟨show 2 ≤ sizeLine by decide, fun p hp => ⟨l, .int z, rfl, ?_, ?_⟩⟩
  · have M3 := (M.step ((g.tr g2).tr g3)).h
    have e := DGet.t (H := upd H3 p (.tup [V.int x, V.int y])) (a := l) (b := p) (kvs := kvs) (k := pk x y) (by rw [upd_ne (ne_of_none M3 hp)]; exact M3) (by rw [upd_same]; rfl)
    rw [hv] at e
    exact e
  · exact q _ _ _ ((g2.tr g3).tr (Gr.new g3.e hp)) (.int z))
theorem st_dputT {l : Addr} {kvs : List (PK × V)} {to tv : TE} {x y z : Int} (G : Gr no H0 F0 H F) (M : Md H0 l kvs F H) (hl : kvs.length ≤ 1000) (ho : Er to σ F H (.ref l)) (h1 : Ed K ta σ F H (.int x)) (h2 : Ed K tb σ F H (.int y)) (hz : Ed K tv σ F H (.int z))
    (k : ∀ H2 F2, Gr no H0 F0 H2 F2 → Ext F F2 → Md H0 l (putK kvs (pk x y) (.int z)) F2 H2 → D.nx σ H2) : sDPut to (tTup (tCons ta (tCons tb tNil))) tv D σ H :=
  hz F H (Gr.refl G.e) _ fun v H1 F1 g1 p1 => ho F1 H1 g1 _ (h1 F1 H1 g1 _ fun v2 H2 F2 g2 p2 => h2 F2 H2 (g1.tr g2) _ fun w H3 F3 g3 p3 => by
    cases p1
    cases p2
    cases p3
    refine ⟨show 2 ≤ sizeLine by decide, fun p hp => ⟨l, upd (upd H3 p (.tup [V.int x, V.int y])) l (.dT (putK kvs (pk x y) (.int z))), rfl, ?_⟩⟩
    have g : Gr no H F H3 F3 := (g1.tr g2).tr g3
    have gp : Gr no H F (upd H3 p (.tup [V.int x, V.int y])) (upd F3 p (.tup [V.int x, V.int y])) := g.tr (Gr.new g3.e hp)
    have M4 := M.step gp
    refine ⟨DPut.t (b := p) (k := pk x y) M4.h (by rw [upd_same]; rfl) (small1000 hl), ?_⟩
    exact k _ _ ((G.tr gp).mut M4.y M4.f) gp.f ⟨M4.y, M4.f, upd_same⟩)
/-- range(a, b, -1) -/
theorem st_for3 {t1 t2 : TE} {j : Nat} {tb : TS} {lo hi : Int} (G : Gr no H0 F0 H F) (h1 : Ed K t1 σ F H (.int lo)) (h2 : Ed K t2 σ F H (.int hi)) (hn : -100 ≤ lo ∧ lo ≤ 100000 ∧ -100 ≤ hi ∧ hi ≤ 100000)
    (k : ∀ H1 F1, Gr no H0 F0 H1 F1 → Gr no H F H1 F1 → ∃ Pv : Nat → L2.St → Hp → Prop, Pv 0 σ H1 ∧ (∀ (i : Nat) σ' H', (i : Int) < lo - hi → Pv i σ' H' → tb { D with nx := Pv (i + 1), ct := Pv (i + 1), bk := D.nx } (σ'.set j (some (.int (lo - (i : Int))))) H') ∧ ∀ σ' H', Pv (lo - hi).toNat σ' H' → D.nx σ' H') :
    tFor (iRng3 (tCons t1 (tCons t2 (tCons (tUn rNegI (tC (.int 1))) tNil)))) (gName j) tb D σ H := h1 F H (Gr.refl G.e) _ fun v H1 F1 g p => h2 F1 H1 g _ fun w H2 F2 g2 p2 => by
  cases p
  cases p2
  obtain ⟨Pv, h0, hs, hd⟩ := k H2 F2 (G.tr (g.tr g2)) (g.tr g2)
  refine ⟨1, rfl, lo, hi, -1, (lo - hi).toNat, rfl, RgC.neg (by omega) (by omega) (by omega) (by omega), ?_⟩
  refine for_rangeC (lo := lo) (c := -1) (n := (lo - hi).toNat) Pv h0 (fun i σ' H' hi' hp => ?_) hd
  show tb _ (σ'.set j (some (.int (lo + (i : Int) * (-1))))) H'
  rw [show lo + (i : Int) * (-1) = lo - (i : Int) by omega]
  exact hs i σ' H' (by omega) hp
end
end Gb

set_option maxHeartbeats 1000000
namespace Gb
open PySem L2
local macro_rules | `(tactic| walk_at "wk") => `(tactic| (repeat' (first | exact trivial | exact Or.inl rfl | exact Or.inr rfl | apply And.intro)))
def nm (p : Pr) (a b : List Str) (i j : Nat) : Int := numOf (chg p) p.dr p.ad a b i j
def R_count_row_matchings : List PyData → PyData → Prop := rowsR fun a b p d => d = .int (nm p a b 0 0)
abbrev sp_count_row_matchings (K : PySem.W.Frag) : Sp := spD K R_count_row_matchings
theorem pk_inj {x y x' y' : Int} : pk x y = pk x' y' ↔ x = x' ∧ y = y' := by simp [pk]
theorem nm_eq (p : Pr) (a b : List Str) (i j : Nat) : nm p a b i j = (if ends (chg p) p.dr p.ad (a.drop i) (b.drop j) then 1 else 0) + sumOf (chg p) p.dr p.ad a b (nextPairs (chg p) p.dr p.ad a b i j) :=
  num_eq (chg p) p.dr p.ad a b j (b.drop j) rfl (a.drop i) i rfl
theorem next_mem {p : Pr} {a b : List Str} {i j : Nat} {q : Nat × Nat} (h : q ∈ nextPairs (chg p) p.dr p.ad a b i j) : i ≤ q.1 ∧ q.1 < i + (a.length - i) ∧ j ≤ q.2 ∧ q.2 < j + (b.length - j) := by
  obtain ⟨⟨h1, h2⟩, h3, h4⟩ := pairsFrom_mem (chg p) p.dr p.ad _ j (b.drop j) (a.drop i) 0 i q h
  rw [List.length_drop] at h2 h4
  exact ⟨h1, h2, h3, h4⟩
section
variable {P : Program} {w : World} {K : PySem.W.Frag} {mg : Str → Option Value} {base : Heap} {CP CM : Addr}
/-! ### count_row_matchings -/
def t_count_row_matchings (K : PySem.W.Frag) : TS :=
  (tSeq (tDrop (tCall (sp_need_prices K) [] E0 (tCons (tVar 2) tNil)))
  (tSeq (tAsg (tCall (sp__table_behind K) [] E0 (tCons (tVar 0) (tCons (tVar 1) (tCons (tVar 2) tNil)))) (gName 3))
  (tSeq (tAsg tDNewT (gName 4))
  (tSeq (tFor (iRng3 (tCons (tCB (rLenQ K) (tCons (tVar 0) tNil)) (tCons (tUn rNegI (tC (.int 1))) (tCons (tUn rNegI (tC (.int 1))) tNil)))) (gName 5)
    (tFor (iRng3 (tCons (tCB (rLenQ K) (tCons (tVar 1) tNil)) (tCons (tUn rNegI (tC (.int 1))) (tCons (tUn rNegI (tC (.int 1))) tNil)))) (gName 6)
    (tSeq (tAsg (tIf (tB (tCall (sp__can_end K) [] E0 (tCons (tVar 0) (tCons (tVar 1) (tCons (tVar 2) (tCons (tVar 3) (tCons (tVar 5) (tCons (tVar 6) tNil)))))))) (tC (.int 1)) (tC (.int 0))) (gName 7))
  (tSeq (tFor (iList K (tCall (sp__next_pairs K) [] E0 (tCons (tVar 0) (tCons (tVar 1) (tCons (tVar 2) (tCons (tVar 3) (tCons (tVar 5) (tCons (tVar 6) tNil)))))))) (gTup K 2 (gCons (gName 8) (gCons (gName 9) gNil)))
    (tAsg (tOp rAddI (tVar 7) (tDGet (tVar 4) (tTup (tCons (tOp rAddI (tVar 8) (tC (.int 1))) (tCons (tOp rAddI (tVar 9) (tC (.int 1))) tNil))))) (gName 7)))
  (sDPut (tVar 4) (tTup (tCons (tVar 5) (tCons (tVar 6) tNil))) (tVar 7))))))
  (tRet (tDGet (tVar 4) (tTup (tCons (tC (.int 0)) (tCons (tC (.int 0)) tNil)))))))))

theorem rd_count_row_matchings : Keeps K N_count_row_matchings R_count_row_matchings (t_count_row_matchings K) := by
  intro H F vs ds d Q x hd h q
  obtain ⟨ta, tb, a, b, p, ok, ha, hb, rfl, rfl⟩ := h
  have E := env_start (N := N_count_row_matchings) hd
  refine st_seq (st_drop (Gr.refl x) (ed_call (eda_cons (ed_var E rfl) eda_nil) ⟨_, ok.sm, ok.ok, rfl, rfl⟩) fun H2 F2 G g => ?_)
  have E := E.ext g.f
  refine st_seq (st_set G E (ed_call (eda_cons (ed_var E rfl) (eda_cons (ed_var E rfl) (eda_cons (ed_var E rfl) eda_nil))) ⟨ta, tb, a, b, p, ok, ha, hb, rfl, rfl⟩) fun v3 H3 F3 G3 g3 p3 E3 => ?_)
  refine st_seq (st_dnewT G3 E3 fun l H4 G4 g4 M4 E4 => ?_)
  refine st_seq (st_for3 G4 (ed_cb (eda_cons (ed_var E4 rfl) eda_nil) cd_lenR) (ed_neg (ed_cI (K := K))) ⟨by omega, by omega, by omega, by omega⟩ fun H5 F5 G5 g5 => ⟨fun m σ' H' => ∃ F' kvs, Gr no H F H' F' ∧
    Env K F' σ' [.d (rowD ta a), .d (rowD tb b), .d (prD p), .d (tabD (a.length + 1) (b.length + 1) (fB p a b)), .v (.ref l), .un, .un, .un, .un, .un] ∧ Md H l kvs F' H' ∧ kvs.length ≤ 20 * m ∧
    ∀ k n : Nat, k ≤ a.length → n ≤ b.length → a.length + 1 ≤ k + m → valV kvs (pk k n) = some (.int (nm p a b k n)), ?_, ?_, ?_⟩)
  · exact ⟨F5, [], G5, E4.ext g5.f, M4.step g5, Nat.zero_le _, fun k n h1 _ h2 => by omega⟩
  · rintro m σ' H' hm ⟨F', kvs, G', E', M', hl, hk⟩
    have hm' : m ≤ a.length := by omega
    obtain ⟨i, hi⟩ : ∃ i, i + m = a.length := ⟨a.length - m, by omega⟩
    have E6 := Env.set (o := some (V.int ((a.length : Int) - (m : Int)))) 5 (s := .d (.int (i : Int))) E' ⟨_, rfl, by rw [show (a.length : Int) - (m : Int) = (i : Int) by omega]; exact .int _⟩
    refine st_for3 G' (ed_cb (eda_cons (ed_var E6 rfl) eda_nil) cd_lenR) (ed_neg (ed_cI (K := K))) ⟨by omega, by omega, by omega, by omega⟩ fun H7 F7 G7 g7 => ⟨fun m2 σ' H' => ∃ F' kvs, Gr no H F H' F' ∧
      Env K F' σ' [.d (rowD ta a), .d (rowD tb b), .d (prD p), .d (tabD (a.length + 1) (b.length + 1) (fB p a b)), .v (.ref l), .d (.int (i : Int)), .un, .un, .un, .un] ∧ Md H l kvs F' H' ∧ kvs.length ≤ 20 * m + m2 ∧
      ∀ k n : Nat, k ≤ a.length → n ≤ b.length → (i < k ∨ (k = i ∧ b.length + 1 ≤ n + m2)) → valV kvs (pk k n) = some (.int (nm p a b k n)), ?_, ?_, ?_⟩
    · exact ⟨F7, kvs, G7, E6.ext g7.f, M'.step g7, by omega, fun k n h1 h2 h3 => hk k n h1 h2 (by omega)⟩
    · rintro m2 σ' H' hm2 ⟨F', kvs, G', E', M', hl, hk⟩
      obtain ⟨j, hj⟩ : ∃ j, j + m2 = b.length := ⟨b.length - m2, by omega⟩
      have E8 := Env.set (o := some (V.int ((b.length : Int) - (m2 : Int)))) 6 (s := .d (.int (j : Int))) E' ⟨_, rfl, by rw [show (b.length : Int) - (m2 : Int) = (j : Int) by omega]; exact .int _⟩
      have place : ∀ {R : List Str → List Str → Pr → Nat → Nat → PyData → Prop} {d : PyData}, R a b p i j d → placeR R [rowD ta a, rowD tb b, prD p, tabD (a.length + 1) (b.length + 1) (fB p a b), .int (i : Int), .int (j : Int)] d := fun r => ⟨ta, tb, a, b, p, i, j, ok, ha, hb, by omega, by omega, rfl, r⟩
      refine st_seq (st_set G' E8 (d := .int (if ends (chg p) p.dr p.ad (a.drop i) (b.drop j) then 1 else 0)) (ed_if (edt_B (ed_call (R := R__can_end) (eda_cons (ed_var E8 rfl) (eda_cons (ed_var E8 rfl) (eda_cons (ed_var E8 rfl) (eda_cons (ed_var E8 rfl) (eda_cons (ed_var E8 rfl) (eda_cons (ed_var E8 rfl) eda_nil)))))) (place rfl)))
        (fun hc => ed_is (ed_cI (K := K)) (by rw [if_pos (of_decide_eq_true hc)])) (fun hc => ed_is (ed_cI (K := K)) (by rw [if_neg (of_decide_eq_false hc)]))) fun v9 H9 F9 G9 g9 p9 E9 => ?_)
      refine st_seq (st_forL G9 (ed_call (R := R__next_pairs) (eda_cons (ed_var E9 rfl) (eda_cons (ed_var E9 rfl) (eda_cons (ed_var E9 rfl) (eda_cons (ed_var E9 rfl) (eda_cons (ed_var E9 rfl) (eda_cons (ed_var E9 rfl) eda_nil)))))) (place rfl)) fun H10 F10 G10 g10 => ⟨fun t σ' H' => ∃ F' z, Gr no H F H' F' ∧ Ext F10 F' ∧
        Env K F' σ' [.d (rowD ta a), .d (rowD tb b), .d (prD p), .d (tabD (a.length + 1) (b.length + 1) (fB p a b)), .v (.ref l), .d (.int (i : Int)), .d (.int (j : Int)), .d (.int z), .un, .un] ∧ Md H l kvs F' H' ∧
        z + sumOf (chg p) p.dr p.ad a b ((nextPairs (chg p) p.dr p.ad a b i j).drop t) = nm p a b i j, ?_, ?_, ?_, ?_⟩)
      · exact ⟨F10, _, G10, Ext.rfl', E9.ext g10.f, (M'.step g9).step g10, (nm_eq p a b i j).symm⟩
      · rintro t σ' H' ⟨F', _, G', e', _⟩
        exact e'.tr G'.e
      · rintro t y v σ' H' e pv ⟨F', z, G', e', E', M', hz⟩
        rw [List.getElem?_map] at e
        cases et : (nextPairs (chg p) p.dr p.ad a b i j)[t]? with
        | none => rw [et] at e; cases e
        | some t' =>
          rw [et] at e
          obtain rfl : pairD t' = y := Option.some.inj e
          have hm := next_mem (List.mem_of_getElem? et)
          have hdr : (nextPairs (chg p) p.dr p.ad a b i j).drop t = t' :: (nextPairs (chg p) p.dr p.ad a b i j).drop (t + 1) := by
            obtain ⟨h1, h2⟩ := List.getElem?_eq_some_iff.mp et
            rw [List.drop_eq_getElem_cons h1, h2]
          rw [hdr, sumOf_cons] at hz
          refine g_tup2 (Dp.ext pv e') G'.e fun v1 v2 p1 p2 => ?_
          have E5 : Env K F' _ [.d (rowD ta a), .d (rowD tb b), .d (prD p), .d (tabD (a.length + 1) (b.length + 1) (fB p a b)), .v (.ref l), .d (.int (i : Int)), .d (.int (j : Int)), .d (.int z), .d (.int (t'.1 : Int)), .d (.int (t'.2 : Int))] := Env.set 9 (s := .d (.int (t'.2 : Int))) (Env.set 8 (s := .d (.int (t'.1 : Int))) E' ⟨v1, rfl, p1⟩) ⟨v2, rfl, p2⟩
          refine st_set G' E5 (ed_op (ed_var E5 rfl) (ed_dgetT M' (er_var E5 rfl) (ed_op (ed_var E5 rfl) (ed_cI (K := K)) od_add) (ed_op (ed_var E5 rfl) (ed_cI (K := K)) od_add) (hk (t'.1 + 1) (t'.2 + 1) (by omega) (by omega) (by omega))) od_add) fun v6 H6 F6 G6 g6 p6 E6 => ?_
          refine ⟨F6, _, G6, e'.tr g6.f, E6.weak (by walk_at "wk"), M'.step g6, ?_⟩
          rw [← hz]
          show z + nm p a b (t'.1 + 1) (t'.2 + 1) + _ = z + (nm p a b (t'.1 + 1) (t'.2 + 1) + _)
          omega
      · rintro σ' H' ⟨F', z, G', e', E', M', hz⟩
        dsimp only
        rw [List.length_map, List.drop_length, sumOf_nil, Int.add_zero] at hz
        refine st_dputT G' M' (by omega) (er_var E' rfl) (ed_var E' rfl) (ed_var E' rfl) (ed_var E' rfl) fun H11 F11 G11 e11 M11 => ?_
        refine ⟨F11, _, G11, (E'.ext e11).weak (by walk_at "wk"), M11, ?_, ?_⟩
        · have := put_len kvs (pk (i : Int) (j : Int)) (V.int z)
          omega
        · intro k n h1 h2 h3
          rw [valV_put]
          by_cases hkn : k = i ∧ n = j
          · obtain ⟨rfl, rfl⟩ := hkn
            rw [if_pos rfl, hz]
          · rw [if_neg (fun z => hkn (by
              have z' := pk_inj.mp z
              omega))]
            exact hk k n h1 h2 (by omega)
    · rintro σ' H' ⟨F', kvs, G', E', M', hl, hk⟩
      dsimp only
      have et : ((b.length : Int) - -1).toNat = b.length + 1 := by omega
      rw [et] at hl hk
      exact ⟨F', kvs, G', E'.weak (by walk_at "wk"), M', by omega, fun k n h1 h2 h3 => hk k n h1 h2 (by omega)⟩
  · rintro σ' H' ⟨F', kvs, G', E', M', hl, hk⟩
    dsimp only
    have et : ((a.length : Int) - -1).toNat = a.length + 1 := by omega
    rw [et] at hk
    exact st_ret G' (ed_dgetT M' (er_var E' rfl) (ed_cI (K := K)) (ed_cI (K := K)) (hk 0 0 (by omega) (by omega) (by omega))) q
theorem len_count_row_matchings (ds : List PyData) (d : PyData) (h : R_count_row_matchings ds d) : ds.length = 3 := len_rows ds d h
theorem dv_count_row_matchings (T : Tx K mg) (XE : Errs P K mg CP CM) (cdv : Value) (A : Around) (outer : List PySem.Env) (s : Shared) (H : Hp) (E : XK) (hr : Room 5 (A.deeper (PyProof.Rows.envOfC "count_row_matchings" (defScope s_count_row_matchings) s.heap.objs.size T.d_count_row_matchings.f cdv))) :
    PSs (cxOf CX0 P w K mg base N_count_row_matchings "count_row_matchings" (defScope s_count_row_matchings) T.d_count_row_matchings.f cdv A outer s H E).nox (defBody s_count_row_matchings) (t_count_row_matchings K) := by
  exact (pss_cons (ps_expr (pe_call (ok_need_prices T XE) (hr.mono (by decide)) (by rfl) T.d_need_prices.g T.d_need_prices.F.kp T.d_need_prices.b .nil passL (pa_cons (pv 2) pa_nil)))
  (pss_cons (ps_set (i := 3) sc_count_row_matchings.nd rfl (Or.inl rfl) (pe_call (ok__table_behind T) (hr.mono (by decide)) (by rfl) T.d__table_behind.g T.d__table_behind.F.kp T.d__table_behind.b .nil pass0 (pa_cons (pv 0) (pa_cons (pv 1) (pa_cons (pv 2) pa_nil)))))
  (pss_cons (ps_set (i := 4) sc_count_row_matchings.nd rfl (Or.inl rfl) pe_dnewT)
  (pss_cons (ps_for PassesOwn.never rfl (pi_range3 (by rfl) T.n_range (pa_cons (pe_callB call_lenQ (by rfl) T.n_len (by decide +kernel) (pa_cons (pv 0) pa_nil)) (pa_cons (pe_un un_neg pe_int) (pa_cons (pe_un un_neg pe_int) pa_nil)))) (pg_name (i := 5) sc_count_row_matchings.nd rfl (Or.inl rfl))
    (pss_one (ps_for PassesOwn.never rfl (pi_range3 (by rfl) T.n_range (pa_cons (pe_callB call_lenQ (by rfl) T.n_len (by decide +kernel) (pa_cons (pv 1) pa_nil)) (pa_cons (pe_un un_neg pe_int) (pa_cons (pe_un un_neg pe_int) pa_nil)))) (pg_name (i := 6) sc_count_row_matchings.nd rfl (Or.inl rfl))
    (pss_cons (ps_set (i := 7) sc_count_row_matchings.nd rfl (Or.inl rfl) (pe_ifExp (pt_val (pe_call (ok__can_end T) (hr.mono (by decide)) (by rfl) T.d__can_end.g T.d__can_end.F.kp T.d__can_end.b .nil pass0 (pa_cons (pv 0) (pa_cons (pv 1) (pa_cons (pv 2) (pa_cons (pv 3) (pa_cons (pv 5) (pa_cons (pv 6) pa_nil)))))))) pe_int pe_int))
  (pss_cons (ps_for PassesOwn.never rfl (pi_list (pe_call (ok__next_pairs T) (hr.mono (by decide)) (by rfl) T.d__next_pairs.g T.d__next_pairs.F.kp T.d__next_pairs.b .nil pass0 (pa_cons (pv 0) (pa_cons (pv 1) (pa_cons (pv 2) (pa_cons (pv 3) (pa_cons (pv 5) (pa_cons (pv 6) pa_nil)))))))) (pg_tup (by rfl) (pgs_cons (pg_name (i := 8) sc_count_row_matchings.nd rfl (Or.inl rfl)) (pgs_cons (pg_name (i := 9) sc_count_row_matchings.nd rfl (Or.inl rfl)) pgs_nil)))
    (pss_one (ps_set (i := 7) sc_count_row_matchings.nd rfl (Or.inl rfl) (pe_op op_add (pv 7) (pe_dget (hu_of hr) (pv 4) (pe_tup (pa_cons (pe_op op_add (pv 8) pe_int) (pa_cons (pe_op op_add (pv 9) pe_int) pa_nil))) (fun _ _ => rfl))))))
  (pss_one (ps_dput (hu_of hr) (pv 4) (pe_tup (pa_cons (pv 5) (pa_cons (pv 6) pa_nil))) (pv 7) rfl)))))))
  (pss_one (ps_ret (pe_dget (hu_of hr) (pv 4) (pe_tup (pa_cons pe_int (pa_cons pe_int pa_nil))) (fun _ _ => rfl))))))))

theorem ok_count_row_matchings (T : Tx K mg) (XE : Errs P K mg CP CM) : FnOk P w K mg base CX0 6 T.d_count_row_matchings.f T.d_count_row_matchings.fd ["a", "b", "prices"] (sp_count_row_matchings K) :=
  okD T.d_count_row_matchings.F sc_count_row_matchings (t_count_row_matchings K) len_count_row_matchings rd_count_row_matchings (fun cdv A outer s H E hr => dv_count_row_matchings T XE cdv A outer s H E hr)

end
end Gb

set_option maxHeartbeats 1000000
namespace Gb
open PySem L2
local macro_rules | `(tactic| walk_at "wk") => `(tactic| (repeat' (first | exact trivial | exact Or.inl rfl | exact Or.inr rfl | apply And.intro)))
section
variable {K : PySem.W.Frag}
theorem od_mod {a b : Int} (hb : 0 < b) : OpD K rModI (.int a) (.int b) (.int (a % b)) := fun F H v w x h1 h2 Q q => by
  cases h1; cases h2; exact ⟨a, b, rfl, rfl, hb, q _ H F (Gr.refl x) (.int _)⟩
theorem od_div {a b : Int} (hb : CDiv a b) : OpD K rDivI (.int a) (.int b) (.int (a / b)) := fun F H v w x h1 h2 Q q => by
  cases h1; cases h2; exact ⟨a, b, rfl, rfl, hb, q _ H F (Gr.refl x) (.int _)⟩
theorem od_neI {a b : Int} : OpD K rNe (.int a) (.int b) (.bool (!decide (a = b))) := fun F H v w x h1 h2 Q q => by
  cases h1; cases h2
  exact ⟨rfl, q _ H F (Gr.refl x) (by rw [show decide (V.int a = V.int b) = decide (a = b) by simp]; exact .bl _)⟩
theorem cd_int {a : Int} : CbD K rIntQ [.int a] (.int a) := fun F H vs x h Q q => by
  cases h with
  | cons h1 h2 =>
    cases h2; cases h1
    exact .inl ⟨a, rfl, q _ H F (Gr.refl x) (.int _)⟩
theorem cd_intB {a : Bool} : CbD K rIntQ [.bool a] (.int (if a = true then 1 else 0)) := fun F H vs x h Q q => by
  cases h with
  | cons h1 h2 =>
    cases h2; cases h1
    exact .inr ⟨a, rfl, q _ H F (Gr.refl x) (.int _)⟩
theorem cmul_s {i j : Int} (h : -(2 ^ 64) < j ∧ j < 2 ^ 64) : CMul i j := .inr h
end
/-! ### drawn numbers -/
def mixO (n t : Int) : Int := (n * 48271 + t * 1000000000039 + 12345678910111213) % 2305843009213693951
def mixed (n t m : Int) : Int := ((mixO n t * mixO n t + t) * 7046029254386353 % 2305843009213693951) / 8 % m
theorem mixed_in (n t : Int) {m : Int} (h : 0 < m) : 0 ≤ mixed n t m ∧ mixed n t m < m := ⟨Int.emod_nonneg _ (by omega), Int.emod_lt_of_pos _ h⟩
def R__law_mixed (ds : List PyData) (d : PyData) : Prop := ∃ n t m, 0 < m ∧ ds = [.int n, .int t, .int m] ∧ d = .int (mixed n t m)
abbrev sp__law_mixed (K : PySem.W.Frag) : Sp := spD K R__law_mixed
section
variable {P : Program} {w : World} {K : PySem.W.Frag} {mg : Str → Option Value} {base : Heap}
/-! ### _law_mixed -/
def t__law_mixed (K : PySem.W.Frag) : TS :=
  (tSeq (tAsg (tC (.int 2305843009213693951)) (gName 3))
  (tSeq (tAsg (tOp rModI (tCB rIntQ (tCons (tOp rAddI (tOp rAddI (tOp rMulI (tVar 0) (tC (.int 48271))) (tOp rMulI (tVar 1) (tC (.int 1000000000039)))) (tC (.int 12345678910111213))) tNil)) (tVar 3)) (gName 4))
  (tSeq (tAsg (tOp rModI (tOp rMulI (tCB rIntQ (tCons (tOp rAddI (tOp rMulI (tVar 4) (tVar 4)) (tVar 1)) tNil)) (tC (.int 7046029254386353))) (tVar 3)) (gName 5))
  (tRet (tOp rModI (tOp rDivI (tVar 5) (tC (.int 8))) (tVar 2))))))

theorem rd__law_mixed : Keeps K N__law_mixed R__law_mixed (t__law_mixed K) := by
  intro H F vs ds d Q x hd h q
  obtain ⟨n, t, m, hm, rfl, rfl⟩ := h
  have E := env_start (N := N__law_mixed) hd
  refine st_seq (st_set (Gr.refl x) E (ed_cI (K := K)) fun v2 H2 F2 G2 g2 p2 E2 => ?_)
  refine st_seq (st_set G2 E2 (d := .int (mixO n t)) (ed_op (ed_cb (eda_cons (ed_op (ed_op (ed_op (ed_var E2 rfl) (ed_cI (K := K)) (od_mul (cmul_s ⟨by decide, by decide⟩))) (ed_op (ed_var E2 rfl) (ed_cI (K := K)) (od_mul (cmul_s ⟨by decide, by decide⟩))) od_add) (ed_cI (K := K)) od_add) eda_nil) cd_int) (ed_var E2 rfl) (od_mod (by decide))) fun v3 H3 F3 G3 g3 p3 E3 => ?_)
  have hb : 0 ≤ mixO n t ∧ mixO n t < 2305843009213693951 := ⟨Int.emod_nonneg _ (by decide), Int.emod_lt_of_pos _ (by decide)⟩
  dsimp only
  refine st_seq (st_set G3 E3 (d := .int ((mixO n t * mixO n t + t) * 7046029254386353 % 2305843009213693951)) (ed_op (ed_op (ed_cb (eda_cons (ed_op (ed_op (ed_var E3 rfl) (ed_var E3 rfl) (od_mul (cmul_s ⟨by omega, by omega⟩))) (ed_var E3 rfl) od_add) eda_nil) cd_int) (ed_cI (K := K)) (od_mul (cmul_s ⟨by decide, by decide⟩))) (ed_var E3 rfl) (od_mod (by decide))) fun v4 H4 F4 G4 g4 p4 E4 => ?_)
  exact st_ret G4 (ed_op (ed_op (ed_var E4 rfl) (ed_cI (K := K)) (od_div ⟨by decide, by decide⟩)) (ed_var E4 rfl) (od_mod hm)) q
theorem len__law_mixed (ds : List PyData) (d : PyData) (h : R__law_mixed ds d) : ds.length = 3 := by obtain ⟨_, _, _, _, h, _⟩ := h; rw [h]; rfl
theorem dv__law_mixed (T : Tx K mg) (cdv : Value) (A : Around) (outer : List PySem.Env) (s : Shared) (H : Hp) (E : XK) (hr : Room 0 (A.deeper (PyProof.Rows.envOfC "_law_mixed" (defScope s__law_mixed) s.heap.objs.size T.d__law_mixed.f cdv))) :
    PSs (cxOf CX0 P w K mg base N__law_mixed "_law_mixed" (defScope s__law_mixed) T.d__law_mixed.f cdv A outer s H E).nox (defBody s__law_mixed) (t__law_mixed K) := by
  exact (pss_cons (ps_set (i := 3) sc__law_mixed.nd rfl (Or.inl rfl) pe_int)
  (pss_cons (ps_set (i := 4) sc__law_mixed.nd rfl (Or.inl rfl) (pe_op op_mod (pe_callTy call_intQ (by rfl) T.n_int (by decide +kernel) (pa_cons (pe_op op_add (pe_op op_add (pe_op op_mul (pv 0) pe_int) (pe_op op_mul (pv 1) pe_int)) pe_int) pa_nil)) (pv 3)))
  (pss_cons (ps_set (i := 5) sc__law_mixed.nd rfl (Or.inl rfl) (pe_op op_mod (pe_op op_mul (pe_callTy call_intQ (by rfl) T.n_int (by decide +kernel) (pa_cons (pe_op op_add (pe_op op_mul (pv 4) (pv 4)) (pv 1)) pa_nil)) pe_int) (pv 3)))
  (pss_one (ps_ret (pe_op op_mod (pe_op op_fdiv (pv 5) pe_int) (pv 2)))))))

theorem ok__law_mixed (T : Tx K mg) : FnOk P w K mg base CX0 1 T.d__law_mixed.f T.d__law_mixed.fd ["_law_number", "_law_turn", "_law_many"] (sp__law_mixed K) :=
  okD T.d__law_mixed.F sc__law_mixed (t__law_mixed K) len__law_mixed rd__law_mixed (fun cdv A outer s H E hr => dv__law_mixed T cdv A outer s H E hr)

/-! ### what a change costs -/
abbrev R__law_change := R_price_between
abbrev sp__law_change (K : PySem.W.Frag) : Sp := spD K R__law_change
/-! ### _law_change -/
def t__law_change (K : PySem.W.Frag) : TS :=
  (tSeq (tIfS (tTest (tOp rEq (tVar 1) (tVar 2))) (tRet (tC (.int 0))) tNext)
  (tSeq (tFor (iTup K (tOp (rIx K) (tVar 0) (tC (.int 3)))) (gName 3)
    (tIfS (tAnd (tTest (tOp rEq (tOp (rIx K) (tVar 3) (tC (.int 0))) (tVar 1))) (tTest (tOp rEq (tOp (rIx K) (tVar 3) (tC (.int 1))) (tVar 2)))) (tRet (tOp (rIx K) (tVar 3) (tC (.int 2)))) tNext))
  (tRet (tOp (rIx K) (tVar 0) (tC (.int 2))))))

theorem rd__law_change : Keeps K N__law_change R__law_change (t__law_change K) := by
  intro H F vs ds d Q x hd h q
  obtain ⟨p, w, o, rfl, rfl⟩ := h
  have E := env_start (N := N__law_change) hd
  refine st_seq (st_if (Gr.refl x) (edt_test (ed_op (ed_var E rfl) (ed_var E rfl) od_eqS)) (fun h H2 F2 G g => ?_) (fun h H2 F2 G g => ?_))
  · refine st_ret G (ed_cI (K := K)) ?_
    have e : chg p w o = 0 := if_pos (of_decide_eq_true h)
    rw [e] at q
    exact q
  · have E := E.ext g.f
    have hne : ¬ w = o := of_decide_eq_false h
    have ec : chg p w o = lookT p.tab w o p.ch := if_neg hne
    refine st_seq (st_forT G (ed_op (ed_var E rfl) (ed_cI (K := K)) (od_ixT (j := 3) rfl rfl)) fun H4 F4 G4 g4 => ⟨fun i σ' H' => ∃ F', Gr no H F H' F' ∧ Ext F4 F' ∧ Env K F' σ' [.d (prD p), .d (.str w), .d (.str o), .un] ∧
      lookT (p.tab.drop i) w o p.ch = chg p w o, ?_, ?_, ?_, ?_⟩)
    · exact ⟨F4, G4, Ext.rfl', E.ext g4.f, ec.symm⟩
    · rintro i σ' H' ⟨F', G', e', _⟩
      exact e'.tr G'.e
    · rintro i t v σ' H' e pv ⟨F', G', e', E', hl⟩
      rw [List.getElem?_map] at e
      cases et : p.tab[i]? with
      | none => rw [et] at e; cases e
      | some t' =>
        rw [et] at e
        obtain rfl : triD t' = t := Option.some.inj e
        obtain ⟨a, b, c⟩ := t'
        have hdr : p.tab.drop i = (a, b, c) :: p.tab.drop (i + 1) := by
          obtain ⟨h1, h2⟩ := List.getElem?_eq_some_iff.mp et
          rw [List.drop_eq_getElem_cons h1, h2]
        rw [hdr] at hl
        have E5 := Env.set (o := some v) 3 (s := .d (triD (a, b, c))) E' ⟨v, rfl, Dp.ext pv e'⟩
        refine st_if (b := decide (a = w) && decide (b = o)) G' (edt_and (edt_test (ed_op (ed_op (ed_var E5 rfl) (ed_cI (K := K)) (od_ixT (j := 0) rfl rfl)) (ed_var E5 rfl) od_eqS)) fun _ => edt_test (ed_op (ed_op (ed_var E5 rfl) (ed_cI (K := K)) (od_ixT (j := 1) rfl rfl)) (ed_var E5 rfl) od_eqS)) (fun h H6 F6 G6 g6 => ?_) (fun h H6 F6 G6 g6 => ?_)
        · rw [Bool.and_eq_true, decide_eq_true_eq, decide_eq_true_eq] at h
          refine st_ret G6 (ed_op (ed_var (E5.ext g6.f) rfl) (ed_cI (K := K)) (od_ixT (j := 2) rfl rfl)) ?_
          have e1 : chg p w o = c := by
            rw [← hl]
            exact if_pos h
          rw [e1] at q
          exact q
        · refine ⟨F6, G6, e'.tr g6.f, (E5.ext g6.f).weak (by walk_at "wk"), ?_⟩
          rw [← hl]
          have h' : ¬ (a = w ∧ b = o) := fun z => by rw [decide_eq_true z.1, decide_eq_true z.2] at h; cases h
          exact (if_neg h').symm
    · rintro σ' H' ⟨F', G', e', E', hl⟩
      dsimp only
      have e1 : (p.tab.drop (p.tab.map triD).length) = [] := by rw [List.length_map, List.drop_length]
      rw [e1] at hl
      refine st_ret G' (ed_op (ed_var E' rfl) (ed_cI (K := K)) (od_ixT (j := 2) rfl rfl)) ?_
      rw [← hl] at q
      exact q
theorem len__law_change (ds : List PyData) (d : PyData) (h : R__law_change ds d) : ds.length = 3 := len_price_between ds d h
theorem dv__law_change (T : Tx K mg) (cdv : Value) (A : Around) (outer : List PySem.Env) (s : Shared) (H : Hp) (E : XK) (hr : Room 0 (A.deeper (PyProof.Rows.envOfC "_law_change" (defScope s__law_change) s.heap.objs.size T.d__law_change.f cdv))) :
    PSs (cxOf CX0 P w K mg base N__law_change "_law_change" (defScope s__law_change) T.d__law_change.f cdv A outer s H E).nox (defBody s__law_change) (t__law_change K) := by
  exact (pss_cons (ps_if (pt_cmpR op_eq (pv 1) (pv 2) (nomark _)) (pss_one (ps_ret pe_int)) pss_nil)
  (pss_cons (ps_for PassesOwn.never rfl (pi_tup (pe_ix ix_seq (pv 0) pe_int (fun _ _ => rfl))) (pg_name (i := 3) sc__law_change.nd rfl (Or.inl rfl))
    (pss_one (ps_if (PW.pt (pw_and (pt_cmpR op_eq (pe_ix ix_seq (pv 3) pe_int (fun _ _ => rfl)) (pv 1) (nomark _)) (pw_and1 (pt_cmpR op_eq (pe_ix ix_seq (pv 3) pe_int (fun _ _ => rfl)) (pv 2) (nomark _))))) (pss_one (ps_ret (pe_ix ix_seq (pv 3) pe_int (fun _ _ => rfl)))) pss_nil)))
  (pss_one (ps_ret (pe_ix ix_seq (pv 0) pe_int (fun _ _ => rfl))))))

theorem ok__law_change (T : Tx K mg) : FnOk P w K mg base CX0 1 T.d__law_change.f T.d__law_change.fd ["_law_prices_here", "_law_word_here", "_law_other"] (sp__law_change K) :=
  okD T.d__law_change.F sc__law_change (t__law_change K) len__law_change rd__law_change (fun cdv A outer s H E hr => dv__law_change T cdv A outer s H E hr)

abbrev R__law_is_integer := R_is_int
abbrev sp__law_is_integer (K : PySem.W.Frag) : Sp := spD K R__law_is_integer
/-! ### _law_is_integer -/
def t__law_is_integer (K : PySem.W.Frag) : TS :=
  (tRet (tAndV (tCB (rIsi K) (tCons (tVar 0) (tCons (tC (.ty "int")) tNil))) (tNotV (tCB (rIsi K) (tCons (tVar 0) (tCons (tC (.ty "bool")) tNil))))))

theorem rd__law_is_integer : Keeps K N__law_is_integer R__law_is_integer (t__law_is_integer K) := rd_is_int
theorem len__law_is_integer (ds : List PyData) (d : PyData) (h : R__law_is_integer ds d) : ds.length = 1 := len_is_int ds d h
theorem dv__law_is_integer (T : Tx K mg) (cdv : Value) (A : Around) (outer : List PySem.Env) (s : Shared) (H : Hp) (E : XK) (hr : Room 0 (A.deeper (PyProof.Rows.envOfC "_law_is_integer" (defScope s__law_is_integer) s.heap.objs.size T.d__law_is_integer.f cdv))) :
    PSs (cxOf CX0 P w K mg base N__law_is_integer "_law_is_integer" (defScope s__law_is_integer) T.d__law_is_integer.f cdv A outer s H E).nox (defBody s__law_is_integer) (t__law_is_integer K) := by
  exact (pss_one (ps_ret (pe_and (pe_callB call_isi (by rfl) T.n_isinstance (by decide +kernel) (pa_cons (pv 0) (pa_cons (pe_bltn (v := .ty "int") (by rfl) T.n_int (by decide +kernel) rfl) pa_nil))) (pe_one (pe_not (pe_callB call_isi (by rfl) T.n_isinstance (by decide +kernel) (pa_cons (pv 0) (pa_cons (pe_bltn (v := .ty "bool") (by rfl) T.n_bool (by decide +kernel) rfl) pa_nil))))))))

theorem ok__law_is_integer (T : Tx K mg) : FnOk P w K mg base CX0 1 T.d__law_is_integer.f T.d__law_is_integer.fd ["_law_value"] (sp__law_is_integer K) :=
  okD T.d__law_is_integer.F sc__law_is_integer (t__law_is_integer K) len__law_is_integer rd__law_is_integer (fun cdv A outer s H E hr => dv__law_is_integer T cdv A outer s H E hr)

/-! ### row matchings as the law sees them -/
def R__law_is_row_matching (ds : List PyData) (d : PyData) : Prop := ∃ x ta tb a b, ds = [x, rowD ta a, rowD tb b] ∧ d = .bool (areRP ((a : List Str).length : Int) ((b : List Str).length : Int) x)
abbrev sp__law_is_row_matching (K : PySem.W.Frag) : Sp := spD K R__law_is_row_matching
def isT2 : PyData → Bool
  | .tuple [_, _] => true
  | _ => false
/-! ### _law_is_row_matching -/
def t__law_is_row_matching (K : PySem.W.Frag) : TS :=
  (tSeq (tIfS (tNot (tB (tCB (rIsi K) (tCons (tVar 0) (tCons (tC (.ty "tuple")) tNil))))) (tRet (tC (.bl false))) tNext)
  (tSeq (tAsg (tTup (tCons (tUn rNegI (tC (.int 1))) (tCons (tUn rNegI (tC (.int 1))) tNil))) (gName 3))
  (tSeq (tFor (iTup K (tVar 0)) (gName 4)
    (tSeq (tIfS (tOr (tNot (tB (tCB (rIsi K) (tCons (tVar 4) (tCons (tC (.ty "tuple")) tNil))))) (tTest (tOp rNe (tCB (rLenQ K) (tCons (tVar 4) tNil)) (tC (.int 2))))) (tRet (tC (.bl false))) tNext)
  (tSeq (tIfS (tOr (tNot (tB (tCall (sp__law_is_integer K) [] E0 (tCons (tOp (rIx K) (tVar 4) (tC (.int 0))) tNil)))) (tNot (tB (tCall (sp__law_is_integer K) [] E0 (tCons (tOp (rIx K) (tVar 4) (tC (.int 1))) tNil))))) (tRet (tC (.bl false))) tNext)
  (tSeq (tIfS (tOr (tTest (tOp rLeI (tOp (rIx K) (tVar 4) (tC (.int 0))) (tOp (rIx K) (tVar 3) (tC (.int 0))))) (tOr (tTest (tOp rLeI (tOp (rIx K) (tVar 4) (tC (.int 1))) (tOp (rIx K) (tVar 3) (tC (.int 1))))) (tOr (tTest (tOp rGeI (tOp (rIx K) (tVar 4) (tC (.int 0))) (tCB (rLenQ K) (tCons (tVar 1) tNil)))) (tTest (tOp rGeI (tOp (rIx K) (tVar 4) (tC (.int 1))) (tCB (rLenQ K) (tCons (tVar 2) tNil))))))) (tRet (tC (.bl false))) tNext)
  (tAsg (tVar 4) (gName 3))))))
  (tRet (tC (.bl true))))))

theorem rd__law_is_row_matching : Keeps K N__law_is_row_matching R__law_is_row_matching (t__law_is_row_matching K) := by
  intro H F vs ds d Q x hd h q
  obtain ⟨y, ta, tb, a, b, rfl, rfl⟩ := h
  have E := env_start (N := N__law_is_row_matching) hd
  cases y with
  | tuple es =>
    refine st_seq (st_if (b := !true) (Gr.refl x) (edt_not (edt_B (ed_isi (ed_var E rfl) (kit_tuple _)))) (fun h => nomatch h) (fun h H2 F2 G g => ?_))
    have E := E.ext g.f
    refine st_seq (st_set G E (ed_tup (eda_cons (ed_neg (ed_cI (K := K))) (eda_cons (ed_neg (ed_cI (K := K))) eda_nil))) fun v H3 F3 G3 g3 p3 E3 => ?_)
    refine st_seq (st_forT G3 (ed_var E3 rfl) fun H5 F5 G5 g5 => ⟨fun k σ' H' => ∃ F' i j, Gr no H F H' F' ∧ Ext F5 F' ∧ Env K F' σ' [.d (.tuple es), .d (rowD ta a), .d (rowD tb b), .d (.tuple [.int i, .int j]), .un] ∧
      goRP (a.length : Int) (b.length : Int) i j (es.drop k) = areRP (a.length : Int) (b.length : Int) (.tuple es), ?_, ?_, ?_, ?_⟩)
    · exact ⟨F5, _, _, G5, Ext.rfl', E3.ext g5.f, rfl⟩
    · rintro i σ' H' ⟨F', _, _, G', e', _⟩
      exact e'.tr G'.e
    · rintro k t v σ' H' e p ⟨F', i, j, G', e', E', hg⟩
      have hdr : es.drop k = t :: es.drop (k + 1) := by
        obtain ⟨h1, h2⟩ := List.getElem?_eq_some_iff.mp e
        rw [List.drop_eq_getElem_cons h1, h2]
      rw [hdr] at hg
      have E5 : Env K F' (σ'.set 4 (some v)) [.d (.tuple es), .d (rowD ta a), .d (rowD tb b), .d (.tuple [.int i, .int j]), .d t] := Env.set 4 (s := .d t) E' ⟨v, rfl, Dp.ext p e'⟩
      have bad : goRP (a.length : Int) (b.length : Int) i j (t :: es.drop (k + 1)) = false → Rt K H F (.bool false) Q := fun hb => by
        rw [← hg, hb] at q
        exact q
      by_cases ht : ∃ l, t = .tuple l
      · obtain ⟨l, rfl⟩ := ht
        refine st_seq (st_if (b := (!true) || !(decide ((l.length : Int) = 2))) G' (edt_or (edt_not (edt_B (ed_isi (ed_var E5 rfl) (kit_tuple _)))) fun _ => edt_test (ed_op (ed_cb (eda_cons (ed_var E5 rfl) eda_nil) cd_lenT) (ed_cI (K := K)) od_neI)) (fun h H6 F6 G6 g6 => ?_) (fun h H6 F6 G6 g6 => ?_))
        · refine st_ret G6 (ed_cB (K := K)) (bad (goRP_bad ?_))
          show (decide ((l.length : Int) = 2) && _) = false
          have h' : ((!true) || !(decide ((l.length : Int) = 2))) = true := h
          cases hh : decide ((l.length : Int) = 2) with
          | true => rw [hh] at h'; cases h'
          | false => rfl
        · have hl2 : (l.length : Int) = 2 := by
            have h' : ((!true) || !(decide ((l.length : Int) = 2))) = false := h
            cases hh : decide ((l.length : Int) = 2) with
            | true => exact of_decide_eq_true hh
            | false => rw [hh] at h'; cases h'
          obtain ⟨y, z, rfl⟩ : ∃ y z, l = [y, z] := by
            match l, hl2 with
            | [y, z], _ => exact ⟨y, z, rfl⟩
          have E6 := E5.ext g6.f
          refine st_seq (st_if (b := (!(isI y)) || !(isI z)) G6 (edt_or (edt_not (edt_B (ed_call (R := R_is_int) (eda_cons (ed_op (ed_var E6 rfl) (ed_cI (K := K)) (od_ixT (j := 0) rfl rfl)) eda_nil) ⟨_, rfl, rfl⟩))) fun _ => edt_not (edt_B (ed_call (R := R_is_int) (eda_cons (ed_op (ed_var E6 rfl) (ed_cI (K := K)) (od_ixT (j := 1) rfl rfl)) eda_nil) ⟨_, rfl, rfl⟩))) (fun h H7 F7 G7 g7 => ?_) (fun h H7 F7 G7 g7 => ?_))
          · refine st_ret G7 (ed_cB (K := K)) (bad (goRP_bad ?_))
            show (true && (isI y && (isI z && true))) = false
            revert h
            cases isI y <;> cases isI z <;> simp
          · have hyz : isI y = true ∧ isI z = true := by
              revert h
              cases isI y <;> cases isI z <;> simp
            obtain ⟨y, rfl⟩ : ∃ i, y = .int i := by cases y <;> first | exact ⟨_, rfl⟩ | cases hyz.1
            obtain ⟨z, rfl⟩ : ∃ i, z = .int i := by cases z <;> first | exact ⟨_, rfl⟩ | cases hyz.2
            have E7 := E6.ext g7.f
            have hg1 : (if (decide (i + 1 ≤ y) && decide (y ≤ (a.length : Int) - 1)) = true then (if (decide (j + 1 ≤ z) && decide (z ≤ (b.length : Int) - 1)) = true then goRP (a.length : Int) (b.length : Int) y z (es.drop (k + 1)) else false) else false) = areRP (a.length : Int) (b.length : Int) (.tuple es) := hg
            refine st_seq (st_if (b := (decide (y ≤ i) || (decide (z ≤ j) || (decide ((a.length : Int) ≤ y) || decide ((b.length : Int) ≤ z))))) G7 (edt_or (edt_test (ed_op (ed_op (ed_var E7 rfl) (ed_cI (K := K)) (od_ixT (j := 0) rfl rfl)) (ed_op (ed_var E7 rfl) (ed_cI (K := K)) (od_ixT (j := 0) rfl rfl)) od_le)) fun _ =>
              edt_or (edt_test (ed_op (ed_op (ed_var E7 rfl) (ed_cI (K := K)) (od_ixT (j := 1) rfl rfl)) (ed_op (ed_var E7 rfl) (ed_cI (K := K)) (od_ixT (j := 1) rfl rfl)) od_le)) fun _ =>
              edt_or (edt_test (ed_op (ed_op (ed_var E7 rfl) (ed_cI (K := K)) (od_ixT (j := 0) rfl rfl)) (ed_cb (eda_cons (ed_var E7 rfl) eda_nil) cd_lenR) od_ge)) fun _ =>
              edt_test (ed_op (ed_op (ed_var E7 rfl) (ed_cI (K := K)) (od_ixT (j := 1) rfl rfl)) (ed_cb (eda_cons (ed_var E7 rfl) eda_nil) cd_lenR) od_ge)) (fun h H8 F8 G8 g8 => ?_) (fun h H8 F8 G8 g8 => ?_))
            · refine st_ret G8 (ed_cB (K := K)) (bad ?_)
              simp only [Bool.or_eq_true, decide_eq_true_eq] at h
              show (if (decide (i + 1 ≤ y) && decide (y ≤ (a.length : Int) - 1)) = true then (if (decide (j + 1 ≤ z) && decide (z ≤ (b.length : Int) - 1)) = true then goRP (a.length : Int) (b.length : Int) y z (es.drop (k + 1)) else false) else false) = false
              split
              · rename_i h1
                split
                · rename_i h2
                  rw [Bool.and_eq_true, decide_eq_true_eq, decide_eq_true_eq] at h1 h2
                  omega
                · rfl
              · rfl
            · simp only [Bool.or_eq_false_iff, decide_eq_false_iff_not] at h
              refine st_set G8 (E7.ext g8.f) (ed_var (E7.ext g8.f) rfl) fun v9 H9 F9 G9 g9 p9 E9 => ?_
              refine ⟨F9, y, z, G9, (((e'.tr g6.f).tr g7.f).tr g8.f).tr g9.f, E9.weak (by walk_at "wk"), ?_⟩
              rw [if_pos (by rw [Bool.and_eq_true, decide_eq_true_eq, decide_eq_true_eq]; omega), if_pos (by rw [Bool.and_eq_true, decide_eq_true_eq, decide_eq_true_eq]; omega)] at hg1
              exact hg1
      · have hk : isTu t = false := by cases t <;> first | rfl | exact absurd ⟨_, rfl⟩ ht
        have hb : areIs t 2 = false := by cases t <;> first | rfl | exact absurd ⟨_, rfl⟩ ht
        refine st_seq (st_if (b := (!false) || false) G' (edt_or (edt_not (edt_B (ed_is (ed_isi (ed_var E5 rfl) (kit_tuple _)) (by rw [hk])))) fun z => nomatch z) (fun h H6 F6 G6 g6 => ?_) (fun h => nomatch h))
        exact st_ret G6 (ed_cB (K := K)) (bad (goRP_bad hb))
    · rintro σ' H' ⟨F', i, j, G', e', E', hg⟩
      dsimp only
      refine st_ret G' (ed_cB (K := K)) ?_
      rw [List.drop_length] at hg
      rw [← hg] at q
      exact q
  | _ =>
    refine st_seq (st_if (b := !false) (Gr.refl x) (edt_not (edt_B (ed_isi (ed_var E rfl) (kit_tuple _)))) (fun h H2 F2 G g => st_ret G (ed_cB (K := K)) q) (fun h => nomatch h))
theorem len__law_is_row_matching (ds : List PyData) (d : PyData) (h : R__law_is_row_matching ds d) : ds.length = 3 := by obtain ⟨_, _, _, _, _, h, _⟩ := h; rw [h]; rfl
theorem dv__law_is_row_matching (T : Tx K mg) (cdv : Value) (A : Around) (outer : List PySem.Env) (s : Shared) (H : Hp) (E : XK) (hr : Room 1 (A.deeper (PyProof.Rows.envOfC "_law_is_row_matching" (defScope s__law_is_row_matching) s.heap.objs.size T.d__law_is_row_matching.f cdv))) :
    PSs (cxOf CX0 P w K mg base N__law_is_row_matching "_law_is_row_matching" (defScope s__law_is_row_matching) T.d__law_is_row_matching.f cdv A outer s H E).nox (defBody s__law_is_row_matching) (t__law_is_row_matching K) := by
  exact (pss_cons (ps_if (pt_not (pt_val (pe_callB call_isi (by rfl) T.n_isinstance (by decide +kernel) (pa_cons (pv 0) (pa_cons (pe_bltn (v := .ty "tuple") (by rfl) T.n_tuple (by decide +kernel) rfl) pa_nil))))) (pss_one (ps_ret pe_bl)) pss_nil)
  (pss_cons (ps_set (i := 3) sc__law_is_row_matching.nd rfl (Or.inl rfl) (pe_tup (pa_cons (pe_un un_neg pe_int) (pa_cons (pe_un un_neg pe_int) pa_nil))))
  (pss_cons (ps_for PassesOwn.never rfl (pi_tup (pv 0)) (pg_name (i := 4) sc__law_is_row_matching.nd rfl (Or.inl rfl))
    (pss_cons (ps_if (PW.pt (pw_or (pt_not (pt_val (pe_callB call_isi (by rfl) T.n_isinstance (by decide +kernel) (pa_cons (pv 4) (pa_cons (pe_bltn (v := .ty "tuple") (by rfl) T.n_tuple (by decide +kernel) rfl) pa_nil))))) (pw_or1 (pt_cmpR op_ne (pe_callB call_lenQ (by rfl) T.n_len (by decide +kernel) (pa_cons (pv 4) pa_nil)) pe_int (nomark _))))) (pss_one (ps_ret pe_bl)) pss_nil)
  (pss_cons (ps_if (PW.pt (pw_or (pt_not (pt_val (pe_call (ok__law_is_integer T) (hr.mono (by decide)) (by rfl) T.d__law_is_integer.g T.d__law_is_integer.F.kp T.d__law_is_integer.b .nil pass0 (pa_cons (pe_ix ix_seq (pv 4) pe_int (fun _ _ => rfl)) pa_nil)))) (pw_or1 (pt_not (pt_val (pe_call (ok__law_is_integer T) (hr.mono (by decide)) (by rfl) T.d__law_is_integer.g T.d__law_is_integer.F.kp T.d__law_is_integer.b .nil pass0 (pa_cons (pe_ix ix_seq (pv 4) pe_int (fun _ _ => rfl)) pa_nil))))))) (pss_one (ps_ret pe_bl)) pss_nil)
  (pss_cons (ps_if (PW.pt (pw_or (pt_cmpR op_le (pe_ix ix_seq (pv 4) pe_int (fun _ _ => rfl)) (pe_ix ix_seq (pv 3) pe_int (fun _ _ => rfl)) (nomark _)) (pw_or (pt_cmpR op_le (pe_ix ix_seq (pv 4) pe_int (fun _ _ => rfl)) (pe_ix ix_seq (pv 3) pe_int (fun _ _ => rfl)) (nomark _)) (pw_or (pt_cmpR op_ge (pe_ix ix_seq (pv 4) pe_int (fun _ _ => rfl)) (pe_callB call_lenQ (by rfl) T.n_len (by decide +kernel) (pa_cons (pv 1) pa_nil)) (nomark _)) (pw_or1 (pt_cmpR op_ge (pe_ix ix_seq (pv 4) pe_int (fun _ _ => rfl)) (pe_callB call_lenQ (by rfl) T.n_len (by decide +kernel) (pa_cons (pv 2) pa_nil)) (nomark _))))))) (pss_one (ps_ret pe_bl)) pss_nil)
  (pss_one (ps_set (i := 3) sc__law_is_row_matching.nd rfl (Or.inl rfl) (pv 4)))))))
  (pss_one (ps_ret pe_bl)))))

theorem ok__law_is_row_matching (T : Tx K mg) : FnOk P w K mg base CX0 2 T.d__law_is_row_matching.f T.d__law_is_row_matching.fd ["_law_value", "_law_a", "_law_b"] (sp__law_is_row_matching K) :=
  okD T.d__law_is_row_matching.F sc__law_is_row_matching (t__law_is_row_matching K) len__law_is_row_matching rd__law_is_row_matching (fun cdv A outer s H E hr => dv__law_is_row_matching T cdv A outer s H E hr)

end
end Gb

set_option maxHeartbeats 1000000
namespace Gb
open PySem L2
local macro_rules | `(tactic| walk_at "wk") => `(tactic| (repeat' (first | exact trivial | exact Or.inl rfl | exact Or.inr rfl | apply And.intro)))
/-! ### _law_same: the same data twice -/
def R_same0 (ds : List PyData) (d : PyData) : Prop := ∃ i, ds = [.int i, .int i] ∧ d = .bool true
def R_sameT (R : List PyData → PyData → Prop) (ds : List PyData) (d : PyData) : Prop := ∃ l : List PyData, l.length ≤ 100 ∧ (∀ x ∈ l, R [x, x] (.bool true)) ∧ ds = [.tuple l, .tuple l] ∧ d = .bool true
section
variable {P : Program} {w : World} {K : PySem.W.Frag} {mg : Str → Option Value} {base : Heap}
/-! ### _law_same -/
def t__law_same (SP : Sp) (K : PySem.W.Frag) : TS :=
  (tSeq (tIfS (tB (tCB (rIsi K) (tCons (tVar 1) (tCons (tC (.ty "tuple")) tNil)))) (tSeq (tIfS (tOr (tNot (tB (tCB (rIsi K) (tCons (tVar 0) (tCons (tC (.ty "tuple")) tNil))))) (tTest (tOp rNe (tCB (rLenQ K) (tCons (tVar 0) tNil)) (tCB (rLenQ K) (tCons (tVar 1) tNil))))) (tRet (tC (.bl false))) tNext)
  (tSeq (tFor (iRng1 (tCons (tCB (rLenQ K) (tCons (tVar 1) tNil)) tNil)) (gName 2)
    (tIfS (tNot (tB (tCall SP [] E0 (tCons (tOp (rIx K) (tVar 0) (tVar 2)) (tCons (tOp (rIx K) (tVar 1) (tVar 2)) tNil))))) (tRet (tC (.bl false))) tNext))
  (tRet (tC (.bl true))))) tNext)
  (tSeq (tIfS (tB (tCB (rIsi K) (tCons (tVar 1) (tCons (tC (.ty "int")) tNil)))) (tRet (tAndV (tCall (sp__law_is_integer K) [] E0 (tCons (tVar 0) tNil)) (tOp rEq (tVar 0) (tVar 1)))) tNext)
  (tRet (tAndV (tCB (rIsi K) (tCons (tVar 0) (tCons (tC (.ty "str")) tNil))) (tOp rEq (tVar 0) (tVar 1))))))

theorem dv__law_same {SP : Sp} {k0 k : Nat} (T : Tx K mg) (ok : FnOk P w K mg base CX0 k0 T.d__law_same.f T.d__law_same.fd ["_law_actual", "_law_due"] SP) (h0 : k0 ≤ k) (h1 : 1 ≤ k) (cdv : Value) (A : Around) (outer : List PySem.Env) (s : Shared) (H : Hp) (E : XK) (hr : Room k (A.deeper (PyProof.Rows.envOfC "_law_same" (defScope s__law_same) s.heap.objs.size T.d__law_same.f cdv))) :
    PSs (cxOf CX0 P w K mg base N__law_same "_law_same" (defScope s__law_same) T.d__law_same.f cdv A outer s H E).nox (defBody s__law_same) (t__law_same SP K) := by
  exact (pss_cons (ps_if (pt_val (pe_callB call_isi (by rfl) T.n_isinstance (by decide +kernel) (pa_cons (pv 1) (pa_cons (pe_bltn (v := .ty "tuple") (by rfl) T.n_tuple (by decide +kernel) rfl) pa_nil)))) (pss_cons (ps_if (PW.pt (pw_or (pt_not (pt_val (pe_callB call_isi (by rfl) T.n_isinstance (by decide +kernel) (pa_cons (pv 0) (pa_cons (pe_bltn (v := .ty "tuple") (by rfl) T.n_tuple (by decide +kernel) rfl) pa_nil))))) (pw_or1 (pt_cmpR op_ne (pe_callB call_lenQ (by rfl) T.n_len (by decide +kernel) (pa_cons (pv 0) pa_nil)) (pe_callB call_lenQ (by rfl) T.n_len (by decide +kernel) (pa_cons (pv 1) pa_nil)) (nomark _))))) (pss_one (ps_ret pe_bl)) pss_nil)
  (pss_cons (ps_for PassesOwn.never rfl (pi_range1 (by rfl) T.n_range (pa_cons (pe_callB call_lenQ (by rfl) T.n_len (by decide +kernel) (pa_cons (pv 1) pa_nil)) pa_nil)) (pg_name (i := 2) sc__law_same.nd rfl (Or.inl rfl))
    (pss_one (ps_if (pt_not (pt_val (pe_call (ok) (hr.mono (by assumption)) (by rfl) T.d__law_same.g T.d__law_same.F.kp T.d__law_same.b .nil pass0 (pa_cons (pe_ix ix_seq (pv 0) (pv 2) (fun _ _ => rfl)) (pa_cons (pe_ix ix_seq (pv 1) (pv 2) (fun _ _ => rfl)) pa_nil))))) (pss_one (ps_ret pe_bl)) pss_nil)))
  (pss_one (ps_ret pe_bl)))) pss_nil)
  (pss_cons (ps_if (pt_val (pe_callB call_isi (by rfl) T.n_isinstance (by decide +kernel) (pa_cons (pv 1) (pa_cons (pe_bltn (v := .ty "int") (by rfl) T.n_int (by decide +kernel) rfl) pa_nil)))) (pss_one (ps_ret (pe_and (pe_call (ok__law_is_integer T) (hr.mono (by assumption)) (by rfl) T.d__law_is_integer.g T.d__law_is_integer.F.kp T.d__law_is_integer.b .nil pass0 (pa_cons (pv 0) pa_nil)) (pe_one (pe_cmpR op_eq (pv 0) (pv 1) (nomark _)))))) pss_nil)
  (pss_one (ps_ret (pe_and (pe_callB call_isi (by rfl) T.n_isinstance (by decide +kernel) (pa_cons (pv 0) (pa_cons (pe_bltn (v := .ty "str") (by rfl) T.n_str (by decide +kernel) rfl) pa_nil))) (pe_one (pe_cmpR op_eq (pv 0) (pv 1) (nomark _))))))))

theorem rd_same0 (SP : Sp) : Keeps K N__law_same R_same0 (t__law_same SP K) := by
  intro H F vs ds d Q x hd h q
  obtain ⟨i, rfl, rfl⟩ := h
  have E := env_start (N := N__law_same) hd
  refine st_seq (st_if (b := false) (Gr.refl x) (edt_B (ed_isi (ed_var E rfl) (kit_tuple _))) (fun h => nomatch h) (fun h H2 F2 G g => ?_))
  have E := E.ext g.f
  refine st_seq (st_if (b := true) G (edt_B (ed_isi (ed_var E rfl) (kit_int _))) (fun h H3 F3 G3 g3 => ?_) (fun h => nomatch h))
  have E := E.ext g3.f
  refine st_ret G3 (ed_is (ed_andV (b := true) (c := decide (i = i)) (ed_call (R := R_is_int) (eda_cons (ed_var E rfl) eda_nil) ⟨_, rfl, rfl⟩) fun _ => ed_op (ed_var E rfl) (ed_var E rfl) od_eqI) ?_) q
  rw [decide_eq_true rfl]
  rfl
theorem rd_sameT (R : List PyData → PyData → Prop) : Keeps K N__law_same (R_sameT R) (t__law_same (spD K R) K) := by
  intro H F vs ds d Q x hd h q
  obtain ⟨l, hl, hr, rfl, rfl⟩ := h
  have E := env_start (N := N__law_same) hd
  refine st_seq (st_if (b := true) (Gr.refl x) (edt_B (ed_isi (ed_var E rfl) (kit_tuple _))) (fun h H2 F2 G g => ?_) (fun h => nomatch h))
  have E := E.ext g.f
  refine st_seq (st_if (b := (!true) || !(decide ((l.length : Int) = (l.length : Int)))) G (edt_or (edt_not (edt_B (ed_isi (ed_var E rfl) (kit_tuple _)))) fun _ => edt_test (ed_op (ed_cb (eda_cons (ed_var E rfl) eda_nil) cd_lenT) (ed_cb (eda_cons (ed_var E rfl) eda_nil) cd_lenT) od_neI)) (fun h => ?_) (fun h H3 F3 G3 g3 => ?_))
  · rw [decide_eq_true rfl] at h; cases h
  have E := E.ext g3.f
  refine st_seq (st_for1 G3 (ed_cb (eda_cons (ed_var E rfl) eda_nil) cd_lenT) ⟨by omega, by omega⟩ fun H4 F4 G4 g4 => ⟨fun i σ' H' => ∃ F', Gr no H F H' F' ∧ Env K F' σ' [.d (.tuple l), .d (.tuple l), .un], ?_, ?_, ?_⟩)
  · exact ⟨F4, G4, E.ext g4.f⟩
  · rintro i σ' H' hi ⟨F', G', E'⟩
    have hi' : i < l.length := by omega
    have E5 := Env.set (o := some (V.int (i : Int))) 2 (s := .d (.int (i : Int))) E' ⟨_, rfl, .int _⟩
    have hx : l[i]? = some l[i] := List.getElem?_eq_getElem hi'
    refine st_if (b := !true) G' (edt_not (edt_B (ed_call (eda_cons (ed_op (ed_var E5 rfl) (ed_var E5 rfl) (od_ixT rfl hx)) (eda_cons (ed_op (ed_var E5 rfl) (ed_var E5 rfl) (od_ixT rfl hx)) eda_nil)) (hr _ (List.getElem_mem hi'))))) (fun h => nomatch h) (fun h H6 F6 G6 g6 => ?_)
    exact ⟨F6, G6, (E5.ext g6.f).weak (by walk_at "wk")⟩
  · rintro σ' H' ⟨F', G', E'⟩
    dsimp only
    exact st_ret G' (ed_cB (K := K)) q
theorem ok_same0 (T : Tx K mg) : FnOk P w K mg base CX0 2 T.d__law_same.f T.d__law_same.fd ["_law_actual", "_law_due"] (spD K R_same0) :=
  okD T.d__law_same.F sc__law_same (t__law_same (fun _ _ _ _ => False) K) (fun ds d h => by obtain ⟨_, h, _⟩ := h; rw [h]; rfl) (rd_same0 _) (fun cdv A outer s H E hr => dv__law_same (k0 := 1) T ⟨fun _ _ _ _ z => z.elim, fun _ _ _ _ _ _ _ _ _ _ _ _ _ z => z.elim⟩ (by decide) (by decide) cdv A outer s H E hr)
theorem ok_sameT (T : Tx K mg) {R : List PyData → PyData → Prop} {k : Nat} (hk : 1 ≤ k) (ok : FnOk P w K mg base CX0 k T.d__law_same.f T.d__law_same.fd ["_law_actual", "_law_due"] (spD K R)) :
    FnOk P w K mg base CX0 (k + 1) T.d__law_same.f T.d__law_same.fd ["_law_actual", "_law_due"] (spD K (R_sameT R)) :=
  okD T.d__law_same.F sc__law_same (t__law_same (spD K R) K) (fun ds d h => by obtain ⟨_, _, _, h, _⟩ := h; rw [h]; rfl) (rd_sameT R) (fun cdv A outer s H E hr => dv__law_same T ok (Nat.le_refl _) hk cdv A outer s H E hr)
abbrev R_same2 := R_sameT (R_sameT R_same0)
theorem ok_same2 (T : Tx K mg) : FnOk P w K mg base CX0 4 T.d__law_same.f T.d__law_same.fd ["_law_actual", "_law_due"] (spD K R_same2) := ok_sameT T (by decide) (ok_sameT T (by decide) (ok_same0 T))
theorem same2_pairs {l : List (Nat × Nat)} (h : l.length ≤ 100) : R_same2 [.tuple (l.map pairD), .tuple (l.map pairD)] (.bool true) :=
  ⟨_, by rw [List.length_map]; exact h, fun x hx => by
    obtain ⟨q, _, rfl⟩ := List.mem_map.mp hx
    exact ⟨[.int (q.1 : Int), .int (q.2 : Int)], by show 2 ≤ 100; decide, fun y hy => by
      rcases List.mem_cons.mp hy with rfl | hy
      · exact ⟨_, rfl, rfl⟩
      · rw [List.mem_singleton] at hy
        subst hy
        exact ⟨_, rfl, rfl⟩, rfl, rfl⟩, rfl, rfl⟩
/-! ### the law's table: place by place the least price and the number -/
def fL (p : Pr) (a b : List Str) (i j : Nat) : PyData := .tuple [.int (dB p a b i j), .int (nm p a b i j)]
def R__law_table : List PyData → PyData → Prop := rowsR fun a b p d => d = tabD (a.length + 1) (b.length + 1) (fL p a b)
abbrev sp__law_table (K : PySem.W.Frag) : Sp := spD K R__law_table
/-- [e] + x, x a growing list -/
theorem st_catM {σ : L2.St} {F H H0 F0 : Hp} {ρ : List Sv} {D : Ends} {te to : TE} {l : Addr} {ds : List PyData} {d : PyData} {i : Nat} (G : Gr no H0 F0 H F) (E : Env K F σ ρ) (M : Ml K H0 l ds F H) (h : Ed K te σ F H d) (ho : Er to σ F H (.ref l)) (hl : ds.length ≤ 1000)
    (k : ∀ l' H2 F2, Gr no H0 F0 H2 F2 → Ext F F2 → Ml K H0 l' (d :: ds) F2 H2 → Env K F2 (σ.set i (some (.ref l'))) (ρ.set i (.v (.ref l'))) → D.nx (σ.set i (some (.ref l'))) H2) :
    tAsg (tOp rCat (tLst (tCons te tNil)) to) (gName i) D σ H := h F H (Gr.refl G.e) _ fun v H1 F1 g1 p1 => by
  refine ⟨show 1 ≤ sizeLine by decide, fun q hq => ho F1 (upd H1 q (.lst [v])) (g1.tr (Gr.newM g1.e hq)) _ ?_⟩
  have g2 : Gr no H F (upd H1 q (.lst [v])) F1 := g1.tr (Gr.newM g1.e hq)
  obtain ⟨xs, h2, h3⟩ := (M.step g2).h
  have lx := DpAll.len h3
  have hs : sizeLine = 16777216 := sizeLine_eq
  refine ⟨q, l, [v], xs, rfl, rfl, upd_same, h2, by rw [List.length_singleton, lx, hs]; omega, fun r hr => ?_⟩
  have g3 : Gr no H F (upd (upd H1 q (.lst [v])) r (.lst ([v] ++ xs))) F1 := g2.tr (Gr.newM g2.e hr)
  have hr1 : (upd H1 q (.lst [v])) r = none := hr
  have hrH : H r = none := by
    cases z : H r with
    | none => rfl
    | some o => exact absurd hr (g2.t r (by rw [z]; simp))
  have hr0 : H0 r = none := by
    cases z : H0 r with
    | none => rfl
    | some o => exact absurd hrH (G.t r (by rw [z]; simp))
  exact k r _ F1 (G.tr g3) g1.f ⟨hr0, g2.e.none_of hr, _, upd_same, .cons p1 h3⟩ (Env.set i (s := .v (.ref r)) (E.ext g1.f) rfl)
/-! ### _law_table -/
def t__law_table (K : PySem.W.Frag) : TS :=
  (tSeq (tAsg (tLst (tCons (tLc (iRng1 (tCons (tOp rAddI (tCB (rLenQ K) (tCons (tVar 1) tNil)) (tC (.int 1))) tNil)) (gName 3) tYes (tTup (tCons (tOp rMulI (tOp (rIx K) (tVar 2) (tC (.int 1))) (tOp rSubI (tCB (rLenQ K) (tCons (tVar 1) tNil)) (tVar 3))) (tCons (tC (.int 1)) tNil))) [3]) tNil)) (gName 4))
  (tSeq (tFor (iRng1 (tCons (tCB (rLenQ K) (tCons (tVar 0) tNil)) tNil)) (gName 5)
    (tSeq (tAsg (tOp (rIx K) (tVar 0) (tOp rSubI (tOp rSubI (tCB (rLenQ K) (tCons (tVar 0) tNil)) (tC (.int 1))) (tVar 5))) (gName 6))
  (tSeq (tAsg (tOp (rIx K) (tVar 4) (tC (.int 0))) (gName 7))
  (tSeq (tAsg (tLst tNil) (gName 8))
  (tSeq (tFor (iRng1 (tCons (tOp rAddI (tCB (rLenQ K) (tCons (tVar 1) tNil)) (tC (.int 1))) tNil)) (gName 3)
    (tSeq (tAsg (tOp rAddI (tOp (rIx K) (tOp (rIx K) (tVar 7) (tVar 3)) (tC (.int 0))) (tOp (rIx K) (tVar 2) (tC (.int 0)))) (gName 9))
  (tSeq (tAsg (tOp (rIx K) (tOp (rIx K) (tVar 7) (tVar 3)) (tC (.int 1))) (gName 10))
  (tSeq (tFor (iRng2 (tCons (tVar 3) (tCons (tCB (rLenQ K) (tCons (tVar 1) tNil)) tNil))) (gName 11)
    (tSeq (tAsg (tOp rAddI (tOp rAddI (tOp rMulI (tOp (rIx K) (tVar 2) (tC (.int 1))) (tOp rSubI (tVar 11) (tVar 3))) (tCall (sp__law_change K) [] E0 (tCons (tVar 2) (tCons (tVar 6) (tCons (tOp (rIx K) (tVar 1) (tVar 11)) tNil))))) (tOp (rIx K) (tOp (rIx K) (tVar 7) (tOp rAddI (tVar 11) (tC (.int 1)))) (tC (.int 0)))) (gName 12))
  (tSeq (tIfS (tTest (tOp rEq (tVar 12) (tVar 9))) (tAsg (tOp rAddI (tVar 10) (tOp (rIx K) (tOp (rIx K) (tVar 7) (tOp rAddI (tVar 11) (tC (.int 1)))) (tC (.int 1)))) (gName 10)) tNext)
  (tIfS (tTest (tOp rLtI (tVar 12) (tVar 9))) (tSeq (tAsg (tVar 12) (gName 9))
  (tAsg (tOp (rIx K) (tOp (rIx K) (tVar 7) (tOp rAddI (tVar 11) (tC (.int 1)))) (tC (.int 1))) (gName 10))) tNext))))
  (tDrop (tBM K "list" rAppend (tVar 8) (tCons (tTup (tCons (tVar 9) (tCons (tVar 10) tNil))) tNil)))))))
  (tAsg (tOp rCat (tLst (tCons (tVar 8) tNil)) (tVar 4)) (gName 4)))))))
  (tRet (tVar 4))))

theorem rd__law_table : Keeps K N__law_table R__law_table (t__law_table K) := by
  intro H F vs ds d Q x hd h q
  obtain ⟨ta, tb, a, b, p, ok, ha, hb, rfl, rfl⟩ := h
  have E := env_start (N := N__law_table) hd
  refine st_seq (st_newL (Gr.refl x) E (ds := [.list ((List.range (b.length + 1)).map fun j => fL p a b a.length j)]) (eda_cons (ed_is (ed_lcR (n := b.length + 1) (fun j => PyData.tuple [.int (p.ad * ((b.length : Int) - (j : Int))), .int 1]) (ed_is (ed_op (ed_cb (eda_cons (ed_var E rfl) eda_nil) cd_lenR) (ed_cI (K := K)) od_add) (by rw [Int.natCast_add]; rfl)) (by omega) fun j F1 H1 hj g1 => ?_) ?_) eda_nil) (show 1 ≤ 1000 by omega) fun l4 H2 F2 G2 g2 M2 n2 E2 => ?_)
  · have E1 := Env.set (o := some (V.int (j : Int))) 3 (s := .d (.int (j : Int))) (env_wipe (E.ext g1.f) [3]) ⟨_, rfl, .int _⟩
    exact ed_tup (eda_cons (ed_op (ed_op (ed_var E1 rfl) (ed_cI (K := K)) (od_ixT (j := 1) rfl rfl)) (ed_op (ed_cb (eda_cons (ed_var E1 rfl) eda_nil) cd_lenR) (ed_var E1 rfl) od_sub) (od_mul (cmul_l ok.ad))) (eda_cons (ed_cI (K := K)) eda_nil)) (show 2 ≤ 1000 by omega)
  · congr 1
    apply List.map_congr_left
    intro j hj
    have hj' := List.mem_range.mp hj
    have e1 : dB p a b a.length j = p.ad * ((b.length : Int) - (j : Int)) := by
      unfold dB
      rw [List.drop_length, dist_nil, List.length_drop, show ((b.length - j : Nat) : Int) = (b.length : Int) - (j : Int) by omega]
    have e2 : nm p a b a.length j = 1 := by
      unfold nm numOf
      rw [List.drop_length]
      rfl
    unfold fL
    rw [e1, e2]
  refine st_seq (st_for1 G2 (ed_cb (eda_cons (ed_var E2 rfl) eda_nil) cd_lenR) ⟨by omega, by omega⟩ fun H3 F3 G3 g3 => ⟨fun k σ' H' => ∃ F' l4 i, Gr no H F H' F' ∧ i + k = a.length ∧
    Env K F' σ' [.d (rowD ta a), .d (rowD tb b), .d (prD p), .un, .v (.ref l4), .un, .un, .un, .un, .un, .un, .un, .un] ∧ Ml K H l4 ((List.range (k + 1)).map fun t => .list ((List.range (b.length + 1)).map fun j => fL p a b (i + t) j)) F' H', ?_, ?_, ?_⟩)
  · exact ⟨F3, l4, a.length, G3, rfl, E2.ext g3.f, M2.step g3⟩
  · rintro k σ' H' hk ⟨F', l4, i', G', hik, E', M4⟩
    obtain ⟨i, rfl⟩ : ∃ i, i' = i + 1 := ⟨i' - 1, by omega⟩
    have hi : i < a.length := by omega
    have E4 := Env.set (o := some (V.int (k : Int))) 5 (s := .d (.int (k : Int))) E' ⟨_, rfl, .int _⟩
    refine st_seq (st_set G' E4 (ed_op (ed_var E4 rfl) (ed_op (ed_op (ed_cb (eda_cons (ed_var E4 rfl) eda_nil) cd_lenR) (ed_cI (K := K)) od_sub) (ed_var E4 rfl) od_sub) (od_word (show (a.length : Int) - 1 - (k : Int) = (i : Int) by omega) hi)) fun v5 H5 F5 G5 g5 p5 E5 => ?_)
    refine st_seq (st_set G5 E5 (d := .list ((List.range (b.length + 1)).map fun j => fL p a b (i + 1) j)) (ed_ixM (M4.step g5) (er_var E5 rfl) (ed_cI (K := K)) (show (0 : Int) = ((0 : Nat) : Int) from rfl) (range_get _ (by omega))) fun v6 H6 F6 G6 g6 p6 E6 => ?_)
    have M4 := (M4.step g5).step g6
    refine st_seq (st_new G6 E6 fun l8 H7 G7 g7 M8 n8 E7 => ?_)
    have n84 : l8 ≠ l4 := M4.ne n8
    have M4 := M4.step g7
    refine st_seq (st_for1 G7 (ed_op (ed_cb (eda_cons (ed_var E7 rfl) eda_nil) cd_lenR) (ed_cI (K := K)) od_add) ⟨by omega, by omega⟩ fun H8 F8 G8 g8 => ⟨fun j σ' H' => ∃ F', Gr no H F H' F' ∧
      Env K F' σ' [.d (rowD ta a), .d (rowD tb b), .d (prD p), .un, .v (.ref l4), .un, .d (.str (wAt a i)), .d (.list ((List.range (b.length + 1)).map fun j => fL p a b (i + 1) j)), .v (.ref l8), .un, .un, .un, .un] ∧
      Ml K H l4 ((List.range (k + 1)).map fun t => .list ((List.range (b.length + 1)).map fun j => fL p a b (i + 1 + t) j)) F' H' ∧ Ml K H l8 ((List.range j).map fun j => fL p a b i j) F' H', ?_, ?_, ?_⟩)
    · exact ⟨F8, G8, (E7.ext g8.f).weak (by walk_at "wk"), M4.step g8, M8.step g8⟩
    · rintro j σ' H' hj ⟨F', G', E', M4, M8⟩
      have hj' : j ≤ b.length := by omega
      have E9 := Env.set (o := some (V.int (j : Int))) 3 (s := .d (.int (j : Int))) E' ⟨_, rfl, .int _⟩
      refine st_seq (st_set G' E9 (d := .int (dB p a b (i + 1) j + p.dr)) (ed_op (ed_op (ed_op (ed_var E9 rfl) (ed_var E9 rfl) (od_ixL rfl (range_get (fun j => fL p a b (i + 1) j) (by omega)))) (ed_cI (K := K)) (od_ixT (j := 0) rfl rfl)) (ed_op (ed_var E9 rfl) (ed_cI (K := K)) (od_ixT (j := 0) rfl rfl)) od_add) fun v10 H10 F10 G10 g10 p10 E10 => ?_)
      refine st_seq (st_set G10 E10 (d := .int (nm p a b (i + 1) j)) (ed_op (ed_op (ed_var E10 rfl) (ed_var E10 rfl) (od_ixL rfl (range_get (fun j => fL p a b (i + 1) j) (by omega)))) (ed_cI (K := K)) (od_ixT (j := 1) rfl rfl)) fun v11 H11 F11 G11 g11 p11 E11 => ?_)
      have M4 := (M4.step g10).step g11
      have M8 := (M8.step g10).step g11
      have start : scan (chg p) p.ad (wAt a i) (lawT (chg p) p.dr p.ad (a.drop (i + 1))) 0 (b.drop j) (dB p a b (i + 1) j + p.dr, nm p a b (i + 1) j) = (dB p a b i j, nm p a b i j) := by
        have e : lawT (chg p) p.dr p.ad (a.drop i) (b.drop j) = (dB p a b i j, nm p a b i j) := Prod.ext (lawT_dist _ _ _ _ _) rfl
        rw [drop_cons hi] at e
        have e3 : dB p a b (i + 1) j = (lawT (chg p) p.dr p.ad (a.drop (i + 1)) (b.drop j)).1 := (lawT_dist _ _ _ _ _).symm
        rw [← e, e3]
        rfl
      refine st_seq (st_for2 G11 (ed_var E11 rfl) (ed_cb (eda_cons (ed_var E11 rfl) eda_nil) cd_lenR) ⟨by omega, by omega, by omega, by omega⟩ fun H12 F12 G12 g12 => ⟨fun m σ' H' => ∃ F' z n, Gr no H F H' F' ∧
        Env K F' σ' [.d (rowD ta a), .d (rowD tb b), .d (prD p), .d (.int (j : Int)), .v (.ref l4), .un, .d (.str (wAt a i)), .d (.list ((List.range (b.length + 1)).map fun j => fL p a b (i + 1) j)), .v (.ref l8), .d (.int z), .d (.int n), .un, .un] ∧
        Ml K H l4 ((List.range (k + 1)).map fun t => .list ((List.range (b.length + 1)).map fun j => fL p a b (i + 1 + t) j)) F' H' ∧ Ml K H l8 ((List.range j).map fun j => fL p a b i j) F' H' ∧
        scan (chg p) p.ad (wAt a i) (lawT (chg p) p.dr p.ad (a.drop (i + 1))) (p.ad * (m : Int)) (b.drop (j + m)) (z, n) = (dB p a b i j, nm p a b i j), ?_, ?_, ?_⟩)
      · refine ⟨F12, _, _, G12, (E11.ext g12.f).weak (by walk_at "wk"), M4.step g12, M8.step g12, ?_⟩
        rw [show ((0 : Nat) : Int) = 0 from rfl, Int.mul_zero]
        exact start
      · rintro m σ' H' hm ⟨F', z, n, G', E', M4, M8, hsc⟩
        have hy : j + m < b.length := by omega
        have E13 := Env.set (o := some (V.int ((j : Int) + (m : Int)))) 11 (s := .d (.int ((j + m : Nat) : Int))) E' ⟨_, rfl, by rw [← Int.natCast_add]; exact .int _⟩
        have cell : ∀ {σ : L2.St} {F H : Hp} {ρ : List Sv}, Env K F σ ρ → ρ[7]? = some (.d (.list ((List.range (b.length + 1)).map fun j => fL p a b (i + 1) j))) → ρ[11]? = some (.d (.int ((j + m : Nat) : Int))) → Ed K (tOp (rIx K) (tVar 7) (tOp rAddI (tVar 11) (tC (.int 1)))) σ F H (fL p a b (i + 1) (j + m + 1)) :=
          fun E h1 h2 => ed_op (ed_var E h1) (ed_op (ed_var E h2) (ed_cI (K := K)) od_add) (od_ixL (show ((j + m : Nat) : Int) + 1 = ((j + m + 1 : Nat) : Int) by omega) (range_get (fun j => fL p a b (i + 1) j) (by omega)))
        refine st_seq (st_set G' E13 (d := .int (p.ad * (m : Int) + chg p (wAt a i) (wAt b (j + m)) + dB p a b (i + 1) (j + m + 1))) (ed_is (ed_op (ed_op (ed_op (ed_op (ed_var E13 rfl) (ed_cI (K := K)) (od_ixT (j := 1) rfl rfl)) (ed_op (ed_var E13 rfl) (ed_var E13 rfl) od_sub) (od_mul (cmul_l ok.ad)))
          (ed_call (R := R_price_between) (eda_cons (ed_var E13 rfl) (eda_cons (ed_var E13 rfl) (eda_cons (ed_op (ed_var E13 rfl) (ed_var E13 rfl) (od_word rfl hy)) eda_nil))) ⟨_, _, _, rfl, rfl⟩) od_add) (ed_op (cell E13 rfl rfl) (ed_cI (K := K)) (od_ixT (j := 0) rfl rfl)) od_add) (by
            rw [show ((j + m : Nat) : Int) - (j : Int) = (m : Int) by omega])) fun v14 H14 F14 G14 g14 p14 E14 => ?_)
        have M4 := M4.step g14
        have M8 := M8.step g14
        rw [drop_cons hy] at hsc
        have hF : lawT (chg p) p.dr p.ad (a.drop (i + 1)) (b.drop (j + m + 1)) = (dB p a b (i + 1) (j + m + 1), nm p a b (i + 1) (j + m + 1)) := Prod.ext (lawT_dist _ _ _ _ _) rfl
        have hsc' : scan (chg p) p.ad (wAt a i) (lawT (chg p) p.dr p.ad (a.drop (i + 1))) (p.ad * ((m + 1 : Nat) : Int)) (b.drop (j + (m + 1))) (if p.ad * (m : Int) + chg p (wAt a i) (wAt b (j + m)) + dB p a b (i + 1) (j + m + 1) < z then (p.ad * (m : Int) + chg p (wAt a i) (wAt b (j + m)) + dB p a b (i + 1) (j + m + 1), nm p a b (i + 1) (j + m + 1)) else
            if p.ad * (m : Int) + chg p (wAt a i) (wAt b (j + m)) + dB p a b (i + 1) (j + m + 1) = z then (z, n + nm p a b (i + 1) (j + m + 1)) else (z, n)) = (dB p a b i j, nm p a b i j) := by
          rw [← hsc]
          have e : p.ad * ((m + 1 : Nat) : Int) = p.ad * (m : Int) + p.ad := by rw [Int.natCast_add, Int.mul_add]; omega
          rw [e]
          show _ = scan (chg p) p.ad (wAt a i) (lawT (chg p) p.dr p.ad (a.drop (i + 1))) (p.ad * (m : Int) + p.ad) (b.drop (j + m + 1)) (if p.ad * (m : Int) + chg p (wAt a i) (wAt b (j + m)) + (lawT (chg p) p.dr p.ad (a.drop (i + 1)) (b.drop (j + m + 1))).1 < z then _ else _)
          rw [hF]
          rfl
        have hcost : ∀ {σ : L2.St} {F H : Hp} {ρ : List Sv} {z : Int}, Env K F σ ρ → ρ[12]? = some (.d (.int (p.ad * (m : Int) + chg p (wAt a i) (wAt b (j + m)) + dB p a b (i + 1) (j + m + 1)))) → ρ[9]? = some (.d (.int z)) → Edt (tTest (tOp rLtI (tVar 12) (tVar 9))) σ F H (decide (p.ad * (m : Int) + chg p (wAt a i) (wAt b (j + m)) + dB p a b (i + 1) (j + m + 1) < z)) :=
          fun E h1 h2 => edt_test (ed_op (ed_var E h1) (ed_var E h2) od_lt)
        refine st_seq (st_if G14 (edt_test (ed_op (ed_var E14 rfl) (ed_var E14 rfl) od_eqI)) (fun hc H15 F15 G15 g15 => ?_) (fun hc H15 F15 G15 g15 => ?_))
        · have hc' := of_decide_eq_true hc
          rw [if_neg (by omega), if_pos hc'] at hsc'
          refine st_set G15 (E14.ext g15.f) (ed_op (ed_var (E14.ext g15.f) rfl) (ed_op (cell (E14.ext g15.f) rfl rfl) (ed_cI (K := K)) (od_ixT (j := 1) rfl rfl)) od_add) fun v16 H16 F16 G16 g16 p16 E16 => ?_
          refine st_if G16 (hcost E16 rfl rfl) (fun hc2 => ?_) (fun hc2 H17 F17 G17 g17 => ?_)
          · have := of_decide_eq_true hc2
            omega
          · exact ⟨F17, _, _, G17, (E16.ext g17.f).weak (by walk_at "wk"), ((M4.step g15).step g16).step g17, ((M8.step g15).step g16).step g17, hsc'⟩
        · have hc' := of_decide_eq_false hc
          have E15 := E14.ext g15.f
          refine st_if G15 (hcost E15 rfl rfl) (fun hc2 H17 F17 G17 g17 => ?_) (fun hc2 H17 F17 G17 g17 => ?_)
          · rw [if_pos (of_decide_eq_true hc2)] at hsc'
            refine st_seq (st_set G17 (E15.ext g17.f) (ed_var (E15.ext g17.f) rfl) fun v18 H18 F18 G18 g18 p18 E18 => ?_)
            dsimp only
            refine st_set G18 E18 (ed_op (cell E18 rfl rfl) (ed_cI (K := K)) (od_ixT (j := 1) rfl rfl)) fun v19 H19 F19 G19 g19 p19 E19 => ?_
            exact ⟨F19, _, _, G19, E19.weak (by walk_at "wk"), (((M4.step g15).step g17).step g18).step g19, (((M8.step g15).step g17).step g18).step g19, hsc'⟩
          · rw [if_neg (of_decide_eq_false hc2), if_neg hc'] at hsc'
            exact ⟨F17, _, _, G17, (E15.ext g17.f).weak (by walk_at "wk"), (M4.step g15).step g17, (M8.step g15).step g17, hsc'⟩
      · rintro σ' H' ⟨F', z, n, G', E', M4, M8, hsc⟩
        dsimp only
        have et : ((b.length : Int) - (j : Int)).toNat = b.length - j := by omega
        rw [et, show j + (b.length - j) = b.length by omega, List.drop_length] at hsc
        have hzn : (z, n) = (dB p a b i j, nm p a b i j) := hsc
        injection hzn with h1 h2
        subst h1 h2
        refine st_app' G' M8 (er_var E' rfl) (d := fL p a b i j) (ed_tup (eda_cons (ed_var E' rfl) (eda_cons (ed_var E' rfl) eda_nil)) (show 2 ≤ 1000 by omega)) (by rw [range_len]; omega) fun H13 F13 G13 e13 M8 o13 => ?_
        refine ⟨F13, G13, (E'.ext e13).weak (by walk_at "wk"), o13 _ _ (Ne.symm n84) M4, ?_⟩
        rw [range_snoc]
        exact M8
    · rintro σ' H' ⟨F', G', E', M4, M8⟩
      dsimp only
      have et : ((b.length : Int) + 1).toNat = b.length + 1 := by omega
      rw [et] at M8
      obtain ⟨F2, e2, G2, p8, o8⟩ := M8.last' G'
      refine st_catM G2 (E'.ext e2) (o8 _ _ (Ne.symm n84) M4) (ed_of (er_var (E'.ext e2) rfl) p8) (er_var (E'.ext e2) rfl) (by rw [range_len]; omega) fun l4' H3 F3 G3 e3 M4 E3 => ?_
      refine ⟨F3, l4', i, G3, by omega, E3.weak (by walk_at "wk"), ?_⟩
      rw [List.range_succ_eq_map (n := k + 1), List.map_cons, List.map_map]
      have e5 : (List.range (k + 1)).map ((fun t => PyData.list ((List.range (b.length + 1)).map fun j => fL p a b (i + t) j)) ∘ Nat.succ) = (List.range (k + 1)).map fun t => PyData.list ((List.range (b.length + 1)).map fun j => fL p a b (i + 1 + t) j) := by
        apply List.map_congr_left
        intro t _
        show PyData.list ((List.range (b.length + 1)).map fun j => fL p a b (i + (t + 1)) j) = _
        rw [show i + (t + 1) = i + 1 + t by omega]
      rw [e5]
      exact M4
  · rintro σ' H' ⟨F', l4, i, G', hik, E', M4⟩
    dsimp only
    have et : ((a.length : Int)).toNat = a.length := by omega
    rw [et] at M4 hik
    obtain rfl : i = 0 := by omega
    obtain ⟨F2, e2, G2, p4, _⟩ := M4.last' G'
    refine st_ret G2 (ed_is (ed_of (er_var (E'.ext e2) rfl) p4) ?_) q
    unfold tabD
    congr 1
    apply List.map_congr_left
    intro t _
    rw [Nat.zero_add]
theorem len__law_table (ds : List PyData) (d : PyData) (h : R__law_table ds d) : ds.length = 3 := len_rows ds d h
theorem dv__law_table (T : Tx K mg) (cdv : Value) (A : Around) (outer : List PySem.Env) (s : Shared) (H : Hp) (E : XK) (hr : Room 1 (A.deeper (PyProof.Rows.envOfC "_law_table" (defScope s__law_table) s.heap.objs.size T.d__law_table.f cdv))) :
    PSs (cxOf CX0 P w K mg base N__law_table "_law_table" (defScope s__law_table) T.d__law_table.f cdv A outer s H E).nox (defBody s__law_table) (t__law_table K) := by
  exact (pss_cons (ps_set (i := 4) sc__law_table.nd rfl (Or.inl rfl) (pe_lst (pa_cons (pe_lc (own := [("_law_j", 3)]) (g := gName 3) (tt := tYes) rfl sc__law_table.nd (pi_range1 (by rfl) T.n_range (pa_cons (pe_op op_add (pe_callB call_lenQ (by rfl) T.n_len (by decide +kernel) (pa_cons (pv 1) pa_nil)) pe_int) pa_nil)) (blkOk_by (own := [("_law_j", 3)]) (N := N__law_table) (sc := defScope s__law_table) (by decide +kernel)) (fun _ _ _ _ _ => pg_name (i := 3) sc__law_table.nd rfl (Or.inl rfl)) (fun _ _ _ _ _ => pts_nil) (fun _ _ _ _ _ => (pe_tup (pa_cons (pe_op op_mul (pe_ix ix_seq (pv 2) pe_int (fun _ _ => rfl)) (pe_op op_sub (pe_callB call_lenQ (by rfl) T.n_len (by decide +kernel) (pa_cons (pv 1) pa_nil)) (pv 3))) (pa_cons pe_int pa_nil))))) pa_nil)))
  (pss_cons (ps_for PassesOwn.never rfl (pi_range1 (by rfl) T.n_range (pa_cons (pe_callB call_lenQ (by rfl) T.n_len (by decide +kernel) (pa_cons (pv 0) pa_nil)) pa_nil)) (pg_name (i := 5) sc__law_table.nd rfl (Or.inl rfl))
    (pss_cons (ps_set (i := 6) sc__law_table.nd rfl (Or.inl rfl) (pe_ix ix_seq (pv 0) (pe_op op_sub (pe_op op_sub (pe_callB call_lenQ (by rfl) T.n_len (by decide +kernel) (pa_cons (pv 0) pa_nil)) pe_int) (pv 5)) (fun _ _ => rfl)))
  (pss_cons (ps_set (i := 7) sc__law_table.nd rfl (Or.inl rfl) (pe_ix ix_seq (pv 4) pe_int (fun _ _ => rfl)))
  (pss_cons (ps_set (i := 8) sc__law_table.nd rfl (Or.inl rfl) (pe_lst pa_nil))
  (pss_cons (ps_for PassesOwn.never rfl (pi_range1 (by rfl) T.n_range (pa_cons (pe_op op_add (pe_callB call_lenQ (by rfl) T.n_len (by decide +kernel) (pa_cons (pv 1) pa_nil)) pe_int) pa_nil)) (pg_name (i := 3) sc__law_table.nd rfl (Or.inl rfl))
    (pss_cons (ps_set (i := 9) sc__law_table.nd rfl (Or.inl rfl) (pe_op op_add (pe_ix ix_seq (pe_ix ix_seq (pv 7) (pv 3) (fun _ _ => rfl)) pe_int (fun _ _ => rfl)) (pe_ix ix_seq (pv 2) pe_int (fun _ _ => rfl))))
  (pss_cons (ps_set (i := 10) sc__law_table.nd rfl (Or.inl rfl) (pe_ix ix_seq (pe_ix ix_seq (pv 7) (pv 3) (fun _ _ => rfl)) pe_int (fun _ _ => rfl)))
  (pss_cons (ps_for PassesOwn.never rfl (pi_range2 (by rfl) T.n_range (pa_cons (pv 3) (pa_cons (pe_callB call_lenQ (by rfl) T.n_len (by decide +kernel) (pa_cons (pv 1) pa_nil)) pa_nil))) (pg_name (i := 11) sc__law_table.nd rfl (Or.inl rfl))
    (pss_cons (ps_set (i := 12) sc__law_table.nd rfl (Or.inl rfl) (pe_op op_add (pe_op op_add (pe_op op_mul (pe_ix ix_seq (pv 2) pe_int (fun _ _ => rfl)) (pe_op op_sub (pv 11) (pv 3))) (pe_call (ok__law_change T) (hr.mono (by decide)) (by rfl) T.d__law_change.g T.d__law_change.F.kp T.d__law_change.b .nil pass0 (pa_cons (pv 2) (pa_cons (pv 6) (pa_cons (pe_ix ix_seq (pv 1) (pv 11) (fun _ _ => rfl)) pa_nil))))) (pe_ix ix_seq (pe_ix ix_seq (pv 7) (pe_op op_add (pv 11) pe_int) (fun _ _ => rfl)) pe_int (fun _ _ => rfl))))
  (pss_cons (ps_if (pt_cmpR op_eq (pv 12) (pv 9) (nomark _)) (pss_one (ps_set (i := 10) sc__law_table.nd rfl (Or.inl rfl) (pe_op op_add (pv 10) (pe_ix ix_seq (pe_ix ix_seq (pv 7) (pe_op op_add (pv 11) pe_int) (fun _ _ => rfl)) pe_int (fun _ _ => rfl))))) pss_nil)
  (pss_one (ps_if (pt_cmpR op_lt (pv 12) (pv 9) (nomark _)) (pss_cons (ps_set (i := 9) sc__law_table.nd rfl (Or.inl rfl) (pv 12))
  (pss_one (ps_set (i := 10) sc__law_table.nd rfl (Or.inl rfl) (pe_ix ix_seq (pe_ix ix_seq (pv 7) (pe_op op_add (pv 11) pe_int) (fun _ _ => rfl)) pe_int (fun _ _ => rfl))))) pss_nil)))))
  (pss_one (ps_expr (pe_bm PySem.F.plainAttrs_list PySem.F.slot_list_append PySem.F.type_list_append mt_append (pv 8) (pa_cons (pe_tup (pa_cons (pv 9) (pa_cons (pv 10) pa_nil))) pa_nil))))))))
  (pss_one (ps_set (i := 4) sc__law_table.nd rfl (Or.inl rfl) (pe_op op_cat (pe_lst (pa_cons (pv 8) pa_nil)) (pv 4)))))))))
  (pss_one (ps_ret (pv 4)))))

theorem ok__law_table (T : Tx K mg) : FnOk P w K mg base CX0 2 T.d__law_table.f T.d__law_table.fd ["_law_a", "_law_b", "_law_prices_here"] (sp__law_table K) :=
  okD T.d__law_table.F sc__law_table (t__law_table K) len__law_table rd__law_table (fun cdv A outer s H E hr => dv__law_table T cdv A outer s H E hr)

end
end Gb

set_option maxHeartbeats 1000000
namespace Gb
open PySem L2
local macro_rules | `(tactic| walk_at "wk") => `(tactic| (repeat' (first | exact trivial | exact Or.inl rfl | exact Or.inr rfl | apply And.intro)))
def placeL (R : List Str → List Str → Pr → Nat → Nat → PyData → Prop) (ds : List PyData) (d : PyData) : Prop := ∃ ta tb a b p i j, PrOk p ∧ (a : List Str).length ≤ 12 ∧ (b : List Str).length ≤ 12 ∧ i ≤ a.length ∧ j ≤ b.length ∧
  ds = [rowD ta a, rowD tb b, prD p, tabD (a.length + 1) (b.length + 1) (fL p a b), .int (i : Int), .int (j : Int)] ∧ R a b p i j d
def pairO : List (Nat × Nat) → PyData
  | [] => .none
  | q :: _ => pairD q
def R__law_pair : List PyData → PyData → Prop := placeL fun a b p i j d => d = pairO (nextPairs (chg p) p.dr p.ad a b i j)
abbrev sp__law_pair (K : PySem.W.Frag) : Sp := spD K R__law_pair
section
variable {K : PySem.W.Frag} {σ : L2.St} {F H : Hp} {te ti tj : TE}
theorem ed_tabL {p : Pr} {a b : List Str} {zi zj : Int} {i j : Nat} (h : Ed K te σ F H (tabD (a.length + 1) (b.length + 1) (fL p a b))) (h1 : Ed K ti σ F H (.int zi)) (h2 : Ed K tj σ F H (.int zj)) (e1 : zi = (i : Int)) (e2 : zj = (j : Int)) (hi : i < a.length + 1) (hj : j < b.length + 1) :
    Ed K (tOp (rIx K) (tOp (rIx K) (tOp (rIx K) te ti) tj) (tC (.int 0))) σ F H (.int (dB p a b i j)) := ed_op (ed_tab h h1 h2 e1 e2 hi hj) (ed_cI (K := K)) (od_ixT (j := 0) rfl rfl)
end
section
variable {P : Program} {w : World} {K : PySem.W.Frag} {mg : Str → Option Value} {base : Heap}
/-! ### _law_pair -/
def t__law_pair (K : PySem.W.Frag) : TS :=
  (tSeq (tFor (iRng2 (tCons (tVar 4) (tCons (tCB (rLenQ K) (tCons (tVar 0) tNil)) tNil))) (gName 6)
    (tFor (iRng2 (tCons (tVar 5) (tCons (tCB (rLenQ K) (tCons (tVar 1) tNil)) tNil))) (gName 7)
    (tSeq (tAsg (tOp rAddI (tOp rAddI (tOp rMulI (tOp (rIx K) (tVar 2) (tC (.int 0))) (tOp rSubI (tVar 6) (tVar 4))) (tOp rMulI (tOp (rIx K) (tVar 2) (tC (.int 1))) (tOp rSubI (tVar 7) (tVar 5)))) (tCall (sp__law_change K) [] E0 (tCons (tVar 2) (tCons (tOp (rIx K) (tVar 0) (tVar 6)) (tCons (tOp (rIx K) (tVar 1) (tVar 7)) tNil))))) (gName 8))
  (tIfS (tTest (tOp rEq (tOp rAddI (tVar 8) (tOp (rIx K) (tOp (rIx K) (tOp (rIx K) (tVar 3) (tOp rAddI (tVar 6) (tC (.int 1)))) (tOp rAddI (tVar 7) (tC (.int 1)))) (tC (.int 0)))) (tOp (rIx K) (tOp (rIx K) (tOp (rIx K) (tVar 3) (tVar 4)) (tVar 5)) (tC (.int 0))))) (tRet (tTup (tCons (tVar 6) (tCons (tVar 7) tNil)))) tNext))))
  (tRet (tC .non)))

theorem rd__law_pair : Keeps K N__law_pair R__law_pair (t__law_pair K) := by
  intro H F vs ds d Q x hd h q
  obtain ⟨ta, tb, a, b, p, i, j, ok, ha, hb, hi, hj, rfl, rfl⟩ := h
  have E := env_start (N := N__law_pair) hd
  refine st_seq (st_for2 (Gr.refl x) (ed_var E rfl) (ed_cb (eda_cons (ed_var E rfl) eda_nil) cd_lenR) ⟨by omega, by omega, by omega, by omega⟩ fun H3 F3 G3 g3 => ⟨fun m σ' H' => ∃ F', Gr no H F H' F' ∧
    Env K F' σ' [.d (rowD ta a), .d (rowD tb b), .d (prD p), .d (tabD (a.length + 1) (b.length + 1) (fL p a b)), .d (.int (i : Int)), .d (.int (j : Int)), .un, .un, .un] ∧
    pairsFrom (chg p) p.dr p.ad (dB p a b i j) j (b.drop j) (p.dr * (m : Int)) (i + m) (a.drop (i + m)) = nextPairs (chg p) p.dr p.ad a b i j, ?_, ?_, ?_⟩)
  · refine ⟨F3, G3, E.ext g3.f, ?_⟩
    show pairsFrom _ _ _ _ _ _ (p.dr * 0) (i + 0) (a.drop (i + 0)) = _
    rw [Int.mul_zero, Nat.add_zero]
    rfl
  · rintro m σ' H' hm ⟨F', G', E', hf⟩
    have hk : i + m < a.length := by omega
    have E4 := Env.set (o := some (V.int ((i : Int) + (m : Int)))) 6 (s := .d (.int ((i + m : Nat) : Int))) E' ⟨_, rfl, by rw [← Int.natCast_add]; exact .int _⟩
    rw [drop_cons hk] at hf
    have hf1 : rowPairs (chg p) p.dr p.ad (i + m) (wAt a (i + m)) (a.drop (i + m + 1)) (dB p a b i j) (p.dr * (m : Int)) j (b.drop j) ++ pairsFrom (chg p) p.dr p.ad (dB p a b i j) j (b.drop j) (p.dr * ((m + 1 : Nat) : Int)) (i + (m + 1)) (a.drop (i + (m + 1))) = nextPairs (chg p) p.dr p.ad a b i j := by
      rw [← hf]
      have e : p.dr * ((m + 1 : Nat) : Int) = p.dr * (m : Int) + p.dr := by rw [Int.natCast_add, Int.mul_add]; omega
      rw [e]
      rfl
    refine st_for2 G' (ed_var E4 rfl) (ed_cb (eda_cons (ed_var E4 rfl) eda_nil) cd_lenR) ⟨by omega, by omega, by omega, by omega⟩ fun H5 F5 G5 g5 => ⟨fun n σ' H' => ∃ F', Gr no H F H' F' ∧
      Env K F' σ' [.d (rowD ta a), .d (rowD tb b), .d (prD p), .d (tabD (a.length + 1) (b.length + 1) (fL p a b)), .d (.int (i : Int)), .d (.int (j : Int)), .d (.int ((i + m : Nat) : Int)), .un, .un] ∧
      rowPairs (chg p) p.dr p.ad (i + m) (wAt a (i + m)) (a.drop (i + m + 1)) (dB p a b i j) (p.dr * (m : Int) + p.ad * (n : Int)) (j + n) (b.drop (j + n)) = rowPairs (chg p) p.dr p.ad (i + m) (wAt a (i + m)) (a.drop (i + m + 1)) (dB p a b i j) (p.dr * (m : Int)) j (b.drop j), ?_, ?_, ?_⟩
    · refine ⟨F5, G5, E4.ext g5.f, ?_⟩
      rw [show ((0 : Nat) : Int) = 0 from rfl, Int.mul_zero, Int.add_zero]
      rfl
    · rintro n σ' H' hn ⟨F', G', E', hf'⟩
      have hk2 : j + n < b.length := by omega
      have E6 := Env.set (o := some (V.int ((j : Int) + (n : Int)))) 7 (s := .d (.int ((j + n : Nat) : Int))) E' ⟨_, rfl, by rw [← Int.natCast_add]; exact .int _⟩
      refine st_seq (st_set G' E6 (d := .int (p.dr * (m : Int) + p.ad * (n : Int) + chg p (wAt a (i + m)) (wAt b (j + n)))) (ed_is (ed_op (ed_op (ed_op (ed_op (ed_var E6 rfl) (ed_cI (K := K)) (od_ixT (j := 0) rfl rfl)) (ed_op (ed_var E6 rfl) (ed_var E6 rfl) od_sub) (od_mul (cmul_l ok.dr)))
        (ed_op (ed_op (ed_var E6 rfl) (ed_cI (K := K)) (od_ixT (j := 1) rfl rfl)) (ed_op (ed_var E6 rfl) (ed_var E6 rfl) od_sub) (od_mul (cmul_l ok.ad))) od_add)
        (ed_call (R := R_price_between) (eda_cons (ed_var E6 rfl) (eda_cons (ed_op (ed_var E6 rfl) (ed_var E6 rfl) (od_word rfl hk)) (eda_cons (ed_op (ed_var E6 rfl) (ed_var E6 rfl) (od_word rfl hk2)) eda_nil))) ⟨_, _, _, rfl, rfl⟩) od_add) (by
          rw [show ((i + m : Nat) : Int) - (i : Int) = (m : Int) by omega, show ((j + n : Nat) : Int) - (j : Int) = (n : Int) by omega])) fun v7 H7 F7 G7 g7 p7 E7 => ?_)
      rw [drop_cons hk2] at hf'
      have hcond : rowPairs (chg p) p.dr p.ad (i + m) (wAt a (i + m)) (a.drop (i + m + 1)) (dB p a b i j) (p.dr * (m : Int)) j (b.drop j) = (if p.dr * (m : Int) + p.ad * (n : Int) + chg p (wAt a (i + m)) (wAt b (j + n)) + dB p a b (i + m + 1) (j + n + 1) = dB p a b i j then [(i + m, j + n)] else []) ++
          rowPairs (chg p) p.dr p.ad (i + m) (wAt a (i + m)) (a.drop (i + m + 1)) (dB p a b i j) (p.dr * (m : Int) + p.ad * ((n + 1 : Nat) : Int)) (j + (n + 1)) (b.drop (j + (n + 1))) := by
        rw [← hf']
        have e : p.dr * (m : Int) + p.ad * ((n + 1 : Nat) : Int) = p.dr * (m : Int) + p.ad * (n : Int) + p.ad := by rw [Int.natCast_add, Int.mul_add]; omega
        rw [e]
        rfl
      refine st_if G7 (b := decide (p.dr * (m : Int) + p.ad * (n : Int) + chg p (wAt a (i + m)) (wAt b (j + n)) + dB p a b (i + m + 1) (j + n + 1) = dB p a b i j)) (edt_test (ed_op (ed_op (ed_var E7 rfl) (ed_tabL (ed_var E7 rfl) (ed_op (ed_var E7 rfl) (ed_cI (K := K)) od_add) (ed_op (ed_var E7 rfl) (ed_cI (K := K)) od_add)
          (show ((i + m : Nat) : Int) + 1 = ((i + m + 1 : Nat) : Int) by omega) (show ((j + n : Nat) : Int) + 1 = ((j + n + 1 : Nat) : Int) by omega) (by omega) (by omega)) od_add) (ed_tabL (ed_var E7 rfl) (ed_var E7 rfl) (ed_var E7 rfl) rfl rfl (by omega) (by omega)) od_eqI)) (fun hc H8 F8 G8 g8 => ?_) (fun hc H8 F8 G8 g8 => ?_)
      · rw [if_pos (of_decide_eq_true hc)] at hcond
        refine st_ret G8 (d := pairD (i + m, j + n)) (ed_tup (eda_cons (ed_var (E7.ext g8.f) rfl) (eda_cons (ed_var (E7.ext g8.f) rfl) eda_nil)) (show 2 ≤ 1000 by omega)) ?_
        rw [hcond] at hf1
        rw [← hf1] at q
        exact q
      · rw [if_neg (of_decide_eq_false hc)] at hcond
        refine ⟨F8, G8, (E7.ext g8.f).weak (by walk_at "wk"), ?_⟩
        rw [hcond]
        rfl
    · rintro σ' H' ⟨F', G', E', hf'⟩
      dsimp only
      have et : ((b.length : Int) - (j : Int)).toNat = b.length - j := by omega
      rw [et, show j + (b.length - j) = b.length by omega, List.drop_length] at hf'
      rw [← hf'] at hf1
      exact ⟨F', G', E'.weak (by walk_at "wk"), hf1⟩
  · rintro σ' H' ⟨F', G', E', hf⟩
    dsimp only
    have et : ((a.length : Int) - (i : Int)).toNat = a.length - i := by omega
    rw [et, show i + (a.length - i) = a.length by omega, List.drop_length] at hf
    refine st_ret G' (ed_cN (K := K)) ?_
    rw [← hf] at q
    exact q
theorem len__law_pair (ds : List PyData) (d : PyData) (h : R__law_pair ds d) : ds.length = 6 := by obtain ⟨_, _, _, _, _, _, _, _, _, _, _, _, h, _⟩ := h; rw [h]; rfl
theorem dv__law_pair (T : Tx K mg) (cdv : Value) (A : Around) (outer : List PySem.Env) (s : Shared) (H : Hp) (E : XK) (hr : Room 1 (A.deeper (PyProof.Rows.envOfC "_law_pair" (defScope s__law_pair) s.heap.objs.size T.d__law_pair.f cdv))) :
    PSs (cxOf CX0 P w K mg base N__law_pair "_law_pair" (defScope s__law_pair) T.d__law_pair.f cdv A outer s H E).nox (defBody s__law_pair) (t__law_pair K) := by
  exact (pss_cons (ps_for PassesOwn.never rfl (pi_range2 (by rfl) T.n_range (pa_cons (pv 4) (pa_cons (pe_callB call_lenQ (by rfl) T.n_len (by decide +kernel) (pa_cons (pv 0) pa_nil)) pa_nil))) (pg_name (i := 6) sc__law_pair.nd rfl (Or.inl rfl))
    (pss_one (ps_for PassesOwn.never rfl (pi_range2 (by rfl) T.n_range (pa_cons (pv 5) (pa_cons (pe_callB call_lenQ (by rfl) T.n_len (by decide +kernel) (pa_cons (pv 1) pa_nil)) pa_nil))) (pg_name (i := 7) sc__law_pair.nd rfl (Or.inl rfl))
    (pss_cons (ps_set (i := 8) sc__law_pair.nd rfl (Or.inl rfl) (pe_op op_add (pe_op op_add (pe_op op_mul (pe_ix ix_seq (pv 2) pe_int (fun _ _ => rfl)) (pe_op op_sub (pv 6) (pv 4))) (pe_op op_mul (pe_ix ix_seq (pv 2) pe_int (fun _ _ => rfl)) (pe_op op_sub (pv 7) (pv 5)))) (pe_call (ok__law_change T) (hr.mono (by decide)) (by rfl) T.d__law_change.g T.d__law_change.F.kp T.d__law_change.b .nil pass0 (pa_cons (pv 2) (pa_cons (pe_ix ix_seq (pv 0) (pv 6) (fun _ _ => rfl)) (pa_cons (pe_ix ix_seq (pv 1) (pv 7) (fun _ _ => rfl)) pa_nil))))))
  (pss_one (ps_if (pt_cmpR op_eq (pe_op op_add (pv 8) (pe_ix ix_seq (pe_ix ix_seq (pe_ix ix_seq (pv 3) (pe_op op_add (pv 6) pe_int) (fun _ _ => rfl)) (pe_op op_add (pv 7) pe_int) (fun _ _ => rfl)) pe_int (fun _ _ => rfl))) (pe_ix ix_seq (pe_ix ix_seq (pe_ix ix_seq (pv 3) (pv 4) (fun _ _ => rfl)) (pv 5) (fun _ _ => rfl)) pe_int (fun _ _ => rfl)) (nomark _)) (pss_one (ps_ret (pe_tup (pa_cons (pv 6) (pa_cons (pv 7) pa_nil))))) pss_nil))))))
  (pss_one (ps_ret pe_non)))

theorem ok__law_pair (T : Tx K mg) : FnOk P w K mg base CX0 2 T.d__law_pair.f T.d__law_pair.fd ["_law_a", "_law_b", "_law_prices_here", "_law_table_here", "_law_i", "_law_j"] (sp__law_pair K) :=
  okD T.d__law_pair.F sc__law_pair (t__law_pair K) len__law_pair rd__law_pair (fun cdv A outer s H E hr => dv__law_pair T cdv A outer s H E hr)

def R__law_first (ds : List PyData) (d : PyData) : Prop := ∃ ta tb a b p, PrOk p ∧ (a : List Str).length ≤ 12 ∧ (b : List Str).length ≤ 12 ∧ ds = [rowD ta a, rowD tb b, prD p, tabD (a.length + 1) (b.length + 1) (fL p a b)] ∧ d = .tuple ((first (chg p) p.dr p.ad a b).map pairD)
abbrev sp__law_first (K : PySem.W.Frag) : Sp := spD K R__law_first
/-- return tuple(x), x a growing list -/
theorem st_retTup {σ : L2.St} {F H H0 F0 : Hp} {D : Ends} {ρ : List Sv} {i : Nat} {l : Addr} {ds : List PyData} (G : Gr no H0 F0 H F) (M : Ml K H0 l ds F H) (E : Env K F σ ρ) (hi : ρ[i]? = some (.v (.ref l))) (q : Rt K H0 F0 (.tuple ds) D.rt) : tRet (tCB (rTupQ K) (tCons (tVar i) tNil)) D σ H := by
  obtain ⟨F2, e2, G2, p2, _⟩ := M.last' G
  exact st_ret G2 (ed_cb (eda_cons (ed_of (er_var (E.ext e2) hi) p2) eda_nil) (cd_tuple (tp := false))) q
/-! ### _law_first -/
def t__law_first (K : PySem.W.Frag) : TS :=
  (tSeq (tAsg (tLst tNil) (gName 4))
  (tSeq (tAsg (tC (.int 0)) (gName 5))
  (tSeq (tAsg (tC (.int 0)) (gName 6))
  (tSeq (tFor (iRng1 (tCons (tOp rAddI (tCB (rLenQ K) (tCons (tVar 0) tNil)) (tC (.int 1))) tNil)) (gName 7)
    (tSeq (tIfS (tTest (tOp rEq (tOp rAddI (tOp rMulI (tOp (rIx K) (tVar 2) (tC (.int 0))) (tOp rSubI (tCB (rLenQ K) (tCons (tVar 0) tNil)) (tVar 5))) (tOp rMulI (tOp (rIx K) (tVar 2) (tC (.int 1))) (tOp rSubI (tCB (rLenQ K) (tCons (tVar 1) tNil)) (tVar 6)))) (tOp (rIx K) (tOp (rIx K) (tOp (rIx K) (tVar 3) (tVar 5)) (tVar 6)) (tC (.int 0))))) (tRet (tCB (rTupQ K) (tCons (tVar 4) tNil))) tNext)
  (tSeq (tAsg (tCall (sp__law_pair K) [] E0 (tCons (tVar 0) (tCons (tVar 1) (tCons (tVar 2) (tCons (tVar 3) (tCons (tVar 5) (tCons (tVar 6) tNil))))))) (gName 8))
  (tSeq (tDrop (tBM K "list" rAppend (tVar 4) (tCons (tVar 8) tNil)))
  (tSeq (tAsg (tOp rAddI (tOp (rIx K) (tVar 8) (tC (.int 0))) (tC (.int 1))) (gName 5))
  (tAsg (tOp rAddI (tOp (rIx K) (tVar 8) (tC (.int 1))) (tC (.int 1))) (gName 6)))))))
  (tRet (tCB (rTupQ K) (tCons (tVar 4) tNil)))))))

theorem rd__law_first : Keeps K N__law_first R__law_first (t__law_first K) := by
  intro H F vs ds d Q x hd h q
  obtain ⟨ta, tb, a, b, p, ok, ha, hb, rfl, rfl⟩ := h
  have E := env_start (N := N__law_first) hd
  refine st_seq (st_new (Gr.refl x) E fun l4 H2 G2 g2 M2 _ E2 => ?_)
  dsimp only
  refine st_seq (st_set G2 E2 (ed_cI (K := K)) fun v5 H5 F5 G5 g5 p5 E5 => ?_)
  dsimp only
  refine st_seq (st_set G5 E5 (ed_cI (K := K)) fun v6 H6 F6 G6 g6 p6 E6 => ?_)
  have M6 := (M2.step g5).step g6
  refine st_seq (st_for1 G6 (ed_op (ed_cb (eda_cons (ed_var E6 rfl) eda_nil) cd_lenR) (ed_cI (K := K)) od_add) ⟨by omega, by omega⟩ fun H7 F7 G7 g7 => ⟨fun t σ' H' => ∃ F' i j fl, Gr no H F H' F' ∧
    Env K F' σ' [.d (rowD ta a), .d (rowD tb b), .d (prD p), .d (tabD (a.length + 1) (b.length + 1) (fL p a b)), .v (.ref l4), .d (.int ((i : Nat) : Int)), .d (.int ((j : Nat) : Int)), .un, .un] ∧ Ml K H l4 ((fl : List (Nat × Nat)).map pairD) F' H' ∧ i ≤ a.length ∧ j ≤ b.length ∧ fl.length ≤ t ∧ t ≤ a.length + 1 ∧
    fl ++ firstF (chg p) p.dr p.ad a b (a.length + 1 - t) i j = first (chg p) p.dr p.ad a b, ?_, ?_, ?_⟩)
  · exact ⟨F7, 0, 0, [], G7, E6.ext g7.f, M6.step g7, Nat.zero_le _, Nat.zero_le _, Nat.le_refl _, Nat.zero_le _, rfl⟩
  · rintro t σ' H' ht ⟨F', i, j, fl, G', E', M', hi, hj, hl, ht2, hfl⟩
    obtain ⟨f', hf'⟩ : ∃ f', a.length + 1 - t = f' + 1 := ⟨a.length - t, by omega⟩
    rw [hf'] at hfl
    have key : firstF (chg p) p.dr p.ad a b (f' + 1) i j = if ends (chg p) p.dr p.ad (a.drop i) (b.drop j) then [] else match nextPairs (chg p) p.dr p.ad a b i j with
      | [] => []
      | q :: _ => q :: firstF (chg p) p.dr p.ad a b f' (q.1 + 1) (q.2 + 1) := rfl
    have E8 := Env.set (o := some (V.int (t : Int))) 7 (s := .d (.int (t : Int))) E' ⟨_, rfl, .int _⟩
    have e1 : ((a.drop i).length : Int) = (a.length : Int) - (i : Int) := by rw [List.length_drop]; omega
    have e2 : ((b.drop j).length : Int) = (b.length : Int) - (j : Int) := by rw [List.length_drop]; omega
    have hends : (p.dr * ((a.length : Int) - (i : Int)) + p.ad * ((b.length : Int) - (j : Int)) = dB p a b i j) = ends (chg p) p.dr p.ad (a.drop i) (b.drop j) := by
      unfold ends
      rw [e1, e2]
      rfl
    refine st_seq (st_if G' (edt_test (ed_op (ed_op (ed_op (ed_op (ed_var E8 rfl) (ed_cI (K := K)) (od_ixT (j := 0) rfl rfl)) (ed_op (ed_cb (eda_cons (ed_var E8 rfl) eda_nil) cd_lenR) (ed_var E8 rfl) od_sub) (od_mul (cmul_l ok.dr)))
      (ed_op (ed_op (ed_var E8 rfl) (ed_cI (K := K)) (od_ixT (j := 1) rfl rfl)) (ed_op (ed_cb (eda_cons (ed_var E8 rfl) eda_nil) cd_lenR) (ed_var E8 rfl) od_sub) (od_mul (cmul_l ok.ad))) od_add)
      (ed_tabL (ed_var E8 rfl) (ed_var E8 rfl) (ed_var E8 rfl) rfl rfl (by omega) (by omega)) od_eqI)) (fun hc H9 F9 G9 g9 => ?_) (fun hc H9 F9 G9 g9 => ?_))
    · have hy := of_decide_eq_true hc
      rw [hends] at hy
      rw [key, if_pos hy, List.append_nil] at hfl
      rw [hfl] at M'
      exact st_retTup G9 (M'.step g9) (E8.ext g9.f) rfl q
    · have hne := of_decide_eq_false hc
      rw [hends] at hne
      obtain ⟨r, l, e, h1, h2, h3, h4⟩ := next_found (chg p) p.dr p.ad a b i j hne
      rw [key, if_neg hne, e] at hfl
      have E9 := E8.ext g9.f
      refine st_seq (st_set G9 E9 (d := pairD r) (ed_is (ed_call (R := R__law_pair) (eda_cons (ed_var E9 rfl) (eda_cons (ed_var E9 rfl) (eda_cons (ed_var E9 rfl) (eda_cons (ed_var E9 rfl) (eda_cons (ed_var E9 rfl) (eda_cons (ed_var E9 rfl) eda_nil)))))) ⟨ta, tb, a, b, p, i, j, ok, ha, hb, hi, hj, rfl, rfl⟩) (by rw [e]; rfl)) fun v10 H10 F10 G10 g10 p10 E10 => ?_)
      refine st_seq (st_app' G10 ((M'.step g9).step g10) (er_var E10 rfl) (ed_var E10 rfl) (by rw [List.length_map]; omega) fun H11 F11 G11 e11 M11 _ => ?_)
      have E11 := E10.ext e11
      refine st_seq (st_set G11 E11 (ed_op (ed_op (ed_var E11 rfl) (ed_cI (K := K)) (od_ixT (j := 0) rfl rfl)) (ed_cI (K := K)) od_add) fun v12 H12 F12 G12 g12 p12 E12 => ?_)
      refine st_set G12 E12 (ed_op (ed_op (ed_var E12 rfl) (ed_cI (K := K)) (od_ixT (j := 1) rfl rfl)) (ed_cI (K := K)) od_add) fun v13 H13 F13 G13 g13 p13 E13 => ?_
      refine ⟨F13, r.1 + 1, r.2 + 1, fl ++ [r], G13, E13.weak (by walk_at "wk"), ?_, by omega, by omega, by rw [List.length_append, List.length_singleton]; omega, by omega, ?_⟩
      · rw [List.map_append]
        exact (M11.step g12).step g13
      · rw [show a.length + 1 - (t + 1) = f' by omega, ← hfl, List.append_assoc]
        rfl
  · rintro σ' H' ⟨F', i, j, fl, G', E', M', hi, hj, hl, ht2, hfl⟩
    dsimp only
    have et : ((a.length : Int) + 1).toNat = a.length + 1 := by omega
    rw [et, Nat.sub_self] at hfl
    have hfl' : fl ++ [] = first (chg p) p.dr p.ad a b := hfl
    rw [List.append_nil] at hfl'
    rw [hfl'] at M'
    exact st_retTup G' M' E' rfl q
theorem len__law_first (ds : List PyData) (d : PyData) (h : R__law_first ds d) : ds.length = 4 := by obtain ⟨_, _, _, _, _, _, _, _, h, _⟩ := h; rw [h]; rfl
theorem dv__law_first (T : Tx K mg) (cdv : Value) (A : Around) (outer : List PySem.Env) (s : Shared) (H : Hp) (E : XK) (hr : Room 2 (A.deeper (PyProof.Rows.envOfC "_law_first" (defScope s__law_first) s.heap.objs.size T.d__law_first.f cdv))) :
    PSs (cxOf CX0 P w K mg base N__law_first "_law_first" (defScope s__law_first) T.d__law_first.f cdv A outer s H E).nox (defBody s__law_first) (t__law_first K) := by
  exact (pss_cons (ps_set (i := 4) sc__law_first.nd rfl (Or.inl rfl) (pe_lst pa_nil))
  (pss_cons (ps_set (i := 5) sc__law_first.nd rfl (Or.inl rfl) pe_int)
  (pss_cons (ps_set (i := 6) sc__law_first.nd rfl (Or.inl rfl) pe_int)
  (pss_cons (ps_for PassesOwn.never rfl (pi_range1 (by rfl) T.n_range (pa_cons (pe_op op_add (pe_callB call_lenQ (by rfl) T.n_len (by decide +kernel) (pa_cons (pv 0) pa_nil)) pe_int) pa_nil)) (pg_name (i := 7) sc__law_first.nd rfl (Or.inl rfl))
    (pss_cons (ps_if (pt_cmpR op_eq (pe_op op_add (pe_op op_mul (pe_ix ix_seq (pv 2) pe_int (fun _ _ => rfl)) (pe_op op_sub (pe_callB call_lenQ (by rfl) T.n_len (by decide +kernel) (pa_cons (pv 0) pa_nil)) (pv 5))) (pe_op op_mul (pe_ix ix_seq (pv 2) pe_int (fun _ _ => rfl)) (pe_op op_sub (pe_callB call_lenQ (by rfl) T.n_len (by decide +kernel) (pa_cons (pv 1) pa_nil)) (pv 6)))) (pe_ix ix_seq (pe_ix ix_seq (pe_ix ix_seq (pv 3) (pv 5) (fun _ _ => rfl)) (pv 6) (fun _ _ => rfl)) pe_int (fun _ _ => rfl)) (nomark _)) (pss_one (ps_ret (pe_callTy call_tupQ (by rfl) T.n_tuple (by decide +kernel) (pa_cons (pv 4) pa_nil)))) pss_nil)
  (pss_cons (ps_set (i := 8) sc__law_first.nd rfl (Or.inl rfl) (pe_call (ok__law_pair T) (hr.mono (by decide)) (by rfl) T.d__law_pair.g T.d__law_pair.F.kp T.d__law_pair.b .nil pass0 (pa_cons (pv 0) (pa_cons (pv 1) (pa_cons (pv 2) (pa_cons (pv 3) (pa_cons (pv 5) (pa_cons (pv 6) pa_nil))))))))
  (pss_cons (ps_expr (pe_bm PySem.F.plainAttrs_list PySem.F.slot_list_append PySem.F.type_list_append mt_append (pv 4) (pa_cons (pv 8) pa_nil)))
  (pss_cons (ps_set (i := 5) sc__law_first.nd rfl (Or.inl rfl) (pe_op op_add (pe_ix ix_seq (pv 8) pe_int (fun _ _ => rfl)) pe_int))
  (pss_one (ps_set (i := 6) sc__law_first.nd rfl (Or.inl rfl) (pe_op op_add (pe_ix ix_seq (pv 8) pe_int (fun _ _ => rfl)) pe_int))))))))
  (pss_one (ps_ret (pe_callTy call_tupQ (by rfl) T.n_tuple (by decide +kernel) (pa_cons (pv 4) pa_nil))))))))

theorem ok__law_first (T : Tx K mg) : FnOk P w K mg base CX0 3 T.d__law_first.f T.d__law_first.fd ["_law_a", "_law_b", "_law_prices_here", "_law_table_here"] (sp__law_first K) :=
  okD T.d__law_first.F sc__law_first (t__law_first K) len__law_first rd__law_first (fun cdv A outer s H E hr => dv__law_first T cdv A outer s H E hr)

end
end Gb

set_option maxHeartbeats 1000000
/-! The pool of drawn numbers: a dict that every draw changes. What is drawn is not reckoned: a wish holds for any number in bounds. -/
namespace Gb
open PySem L2
def pm (p : Addr) : Addr → Prop := fun a => a = p
def poolK (c : V) (at_ rest left : Int) (small : Bool) (seed turn : Int) (wd : Option V) : List (L2.Key × V) :=
  [(.inr "cells", c), (.inr "at", .int at_), (.inr "rest", .int rest), (.inr "left", .int left), (.inr "small", .bl small), (.inr "seed", .int seed), (.inr "turn", .int turn)] ++ wd.toList.map fun v => (.inr "words", v)
section
variable (c : V) (a r l : Int) (m : Bool) (s t : Int) (wd : Option V)
theorem gp_cells : valV (poolK c a r l m s t wd) (.inr "cells") = some c := rfl
theorem gp_at : valV (poolK c a r l m s t wd) (.inr "at") = some (.int a) := rfl
theorem gp_rest : valV (poolK c a r l m s t wd) (.inr "rest") = some (.int r) := rfl
theorem gp_left : valV (poolK c a r l m s t wd) (.inr "left") = some (.int l) := rfl
theorem gp_small : valV (poolK c a r l m s t wd) (.inr "small") = some (.bl m) := rfl
theorem gp_seed : valV (poolK c a r l m s t wd) (.inr "seed") = some (.int s) := rfl
theorem gp_turn : valV (poolK c a r l m s t wd) (.inr "turn") = some (.int t) := rfl
theorem gp_words (w : V) : valV (poolK c a r l m s t (some w)) (.inr "words") = some w := rfl
theorem pp_at (x : Int) : putK (poolK c a r l m s t wd) (.inr "at") (.int x) = poolK c x r l m s t wd := by cases wd <;> rfl
theorem pp_rest (x : Int) : putK (poolK c a r l m s t wd) (.inr "rest") (.int x) = poolK c a x l m s t wd := by cases wd <;> rfl
theorem pp_left (x : Int) : putK (poolK c a r l m s t wd) (.inr "left") (.int x) = poolK c a r x m s t wd := by cases wd <;> rfl
theorem pp_small (x : Bool) : putK (poolK c a r l m s t wd) (.inr "small") (.bl x) = poolK c a r l x s t wd := by cases wd <;> rfl
theorem pp_turn (x : Int) : putK (poolK c a r l m s t wd) (.inr "turn") (.int x) = poolK c a r l m s x wd := by cases wd <;> rfl
theorem pp_words (w : V) : putK (poolK c a r l m s t none) (.inr "words") w = poolK c a r l m s t (some w) := rfl
theorem poolK_len : (poolK c a r l m s t wd).length ≤ 8 := by cases wd <;> simp [poolK]
end
/-- the pool at p; ws: its words, where they stand there already -/
structure PoolAt (K : PySem.W.Frag) (p : Addr) (ws : Option (List Str)) (F H : Hp) : Prop where
  f : F p = none
  h : ∃ c a r l m s t wd, H p = some (.dK (poolK c a r l m s t wd)) ∧ (∃ ns : List Int, Dp K F c (.list (ns.map PyData.int))) ∧ 0 ≤ a ∧ (match ws with | none => wd = none | some l => ∃ w, wd = some w ∧ Dp K F w (.list (l.map PyData.str)))
section
variable {K : PySem.W.Frag} {p : Addr} {ws : Option (List Str)} {F H F1 H1 F2 H2 H0 F0 : Hp}
theorem Gr.mutP {o : HO} (a : Gr (pm p) H F H1 F1) (fl : F1 p = none) (hp : H1 p ≠ none) : Gr (pm p) H F (upd H1 p o) F1 where
  h := fun x u nx h => by
    have e : x ≠ p := fun z => nx z
    rw [upd_ne e]; exact a.h x u nx h
  t := fun x h => by
    by_cases e : x = p
    · subst e; rw [upd_same]; simp
    · rw [upd_ne e]; exact a.t x h
  f := a.f
  e := fun x u h => by rw [upd_ne (ne_of_none h fl)]; exact a.e x u h
  n := a.n
theorem PoolAt.ext (P : PoolAt K p ws F H) (g : Ext F F2) (hf : F2 p = none) (hh : H2 p = H p) : PoolAt K p ws F2 H2 := by
  obtain ⟨c, a, r, l, m, s, t, wd, h1, ⟨ns, h2⟩, h3, h4⟩ := P.h
  refine ⟨hf, c, a, r, l, m, s, t, wd, by rw [hh]; exact h1, ⟨ns, Dp.ext h2 g⟩, h3, ?_⟩
  cases ws with
  | none => exact h4
  | some z => obtain ⟨w, e, d⟩ := h4; exact ⟨w, e, Dp.ext d g⟩
theorem PoolAt.at (P : PoolAt K p ws F H) : H p ≠ none := by
  obtain ⟨c, a, r, l, m, s, t, wd, h1, _⟩ := P.h
  rw [h1]; simp
theorem PoolAt.step (P : PoolAt K p ws F H) (g : Gr no H F H2 F2) : PoolAt K p ws F2 H2 := by
  obtain ⟨c, a, r, l, m, s, t, wd, h1, _⟩ := id P.h
  exact P.ext g.f (by rw [g.n p P.at]; exact P.f) (by rw [g.ext p _ h1, h1])
end
/-! ### expressions that draw -/
def Ep (K : PySem.W.Frag) (p : Addr) (ws : Option (List Str)) (te : TE) (σ : L2.St) (F H : Hp) (R : PyData → Prop) : Prop :=
  ∀ F1 H1, Gr (pm p) H F H1 F1 → PoolAt K p ws F1 H1 → ∀ Q : VK, (∀ v d H2 F2, Gr (pm p) H1 F1 H2 F2 → PoolAt K p ws F2 H2 → R d → Dp K F2 v d → Q v H2) → te σ H1 Q
def Epa (K : PySem.W.Frag) (p : Addr) (ws : Option (List Str)) (ta : TA) (σ : L2.St) (F H : Hp) (R : List PyData → Prop) : Prop :=
  ∀ F1 H1, Gr (pm p) H F H1 F1 → PoolAt K p ws F1 H1 → ∀ Q : List V → Hp → Prop, (∀ vs ds H2 F2, Gr (pm p) H1 F1 H2 F2 → PoolAt K p ws F2 H2 → R ds → DpAll K F2 vs ds → Q vs H2) → ta σ H1 Q
def Ept (K : PySem.W.Frag) (p : Addr) (ws : Option (List Str)) (tt : TT) (σ : L2.St) (F H : Hp) (R : Bool → Prop) : Prop :=
  ∀ F1 H1, Gr (pm p) H F H1 F1 → PoolAt K p ws F1 H1 → ∀ Q : Bool → Hp → Prop, (∀ b H2 F2, Gr (pm p) H1 F1 H2 F2 → PoolAt K p ws F2 H2 → R b → Q b H2) → tt σ H1 Q
/-- what a def over the pool promises -/
def spP (K : PySem.W.Frag) (ws : Option (List Str)) (Pre : List PyData → Prop) (R : List PyData → PyData → Prop) : Sp := fun vs H Q _ => ∃ F p vs' ds, vs = .ref p :: vs' ∧ Ext F H ∧ PoolAt K p ws F H ∧ DpAll K F vs' ds ∧ Pre ds ∧
  ∀ v d H2 F2, Gr (pm p) H F H2 F2 → PoolAt K p ws F2 H2 → R ds d → Dp K F2 v d → Q v H2
def RtP (K : PySem.W.Frag) (p : Addr) (ws : Option (List Str)) (H F : Hp) (R : PyData → Prop) (Q : VK) : Prop := ∀ v d H2 F2, Gr (pm p) H F H2 F2 → PoolAt K p ws F2 H2 → R d → Dp K F2 v d → Q v H2
section
variable {K : PySem.W.Frag} {p : Addr} {ws : Option (List Str)} {σ : L2.St} {F H H0 F0 : Hp} {ρ : List Sv} {ta tb te : TE} {R Ra Rb R' : PyData → Prop} {d : PyData} {i : Nat} {D : Ends}
theorem ep_ed (h : ∀ F1 H1, Ext F F1 → Ext F1 H1 → Ed K te σ F1 H1 d) (hr : R d) : Ep K p ws te σ F H R := fun F1 H1 g po Q q =>
  h F1 H1 g.f g.e F1 H1 (Gr.refl g.e) Q fun v H2 F2 g2 p2 => q v d H2 F2 g2.to (po.step g2) hr p2
theorem ep_imp (h : Ep K p ws te σ F H R) (hr : ∀ d, R d → R' d) : Ep K p ws te σ F H R' := fun F1 H1 g po Q q => h F1 H1 g po Q fun v d H2 F2 g2 p2 r p3 => q v d H2 F2 g2 p2 (hr d r) p3
theorem ep_var (E : Env K F σ ρ) (h : ρ[i]? = some (.d d)) : Ep K p ws (tVar i) σ F H (fun x => x = d) := ep_ed (fun F1 H1 e _ => ed_var (E.ext e) h) rfl
theorem ep_cI {z : Int} : Ep K p ws (tC (.int z)) σ F H (fun x => x = .int z) := ep_ed (fun F1 H1 _ _ => ed_cI) rfl
theorem ep_cS {z : Str} : Ep K p ws (tC (.str z)) σ F H (fun x => x = .str z) := ep_ed (fun F1 H1 _ _ => ed_cS) rfl
theorem ep_cB {z : Bool} : Ep K p ws (tC (.bl z)) σ F H (fun x => x = .bool z) := ep_ed (fun F1 H1 _ _ => ed_cB) rfl
theorem ep_cN : Ep K p ws (tC .non) σ F H (fun x => x = .none) := ep_ed (fun F1 H1 _ _ => ed_cN) rfl
theorem ep_op {r : R2} (ha : Ep K p ws ta σ F H Ra) (hb : Ep K p ws tb σ F H Rb) (hr : ∀ d1 d2, Ra d1 → Rb d2 → ∃ d, OpD K r d1 d2 d ∧ R d) : Ep K p ws (tOp r ta tb) σ F H R := fun F1 H1 g po Q q =>
  ha F1 H1 g po _ fun v d1 H2 F2 g2 po2 r1 p2 => hb F2 H2 (g.tr g2) po2 _ fun w d2 H3 F3 g3 po3 r2 p3 => by
    obtain ⟨d, od, rd⟩ := hr d1 d2 r1 r2
    exact od F3 H3 v w g3.e (Dp.ext p2 g3.f) p3 Q fun z H4 F4 g4 p4 => q z d H4 F4 ((g2.tr g3).tr g4.to) (po3.step g4) rd p4
theorem epa_nil : Epa K p ws tNil σ F H (fun ds => ds = []) := fun F1 H1 g po Q q => q [] [] H1 F1 (Gr.refl g.e) po rfl .nil
theorem epa_cons {tr : TA} {RA : List PyData → Prop} (ha : Ep K p ws ta σ F H Ra) (hr : Epa K p ws tr σ F H RA) : Epa K p ws (tCons ta tr) σ F H (fun l => ∃ d ds, l = d :: ds ∧ Ra d ∧ RA ds) := fun F1 H1 g po Q q =>
  ha F1 H1 g po _ fun v d H2 F2 g2 po2 r1 p2 => hr F2 H2 (g.tr g2) po2 _ fun vs ds H3 F3 g3 po3 r3 p3 => q _ _ H3 F3 (g2.tr g3) po3 ⟨d, ds, rfl, r1, r3⟩ (.cons (Dp.ext p2 g3.f) p3)
theorem ep_tup {t : TA} {RA : List PyData → Prop} (h : Epa K p ws t σ F H RA) (hr : ∀ ds, RA ds → ds.length ≤ 1000 ∧ R (.tuple ds)) : Ep K p ws (tTup t) σ F H R := fun F1 H1 g po Q q =>
  h F1 H1 g po _ fun vs ds H2 F2 g2 po2 r p2 => ⟨by rw [DpAll.len p2]; exact Nat.le_trans (hr ds r).1 (by decide), fun a ha => by
    have gn : Gr no H2 F2 (upd H2 a (.tup vs)) (upd F2 a (.tup vs)) := Gr.new g2.e ha
    exact q _ _ _ _ (g2.tr gn.to) (po2.step gn) (hr ds r).2 (.tup (.inl (.inl upd_same)) (DpAll.ext p2 (Ext.new (g2.e.none_of ha))))⟩
theorem ep_lst {t : TA} {RA : List PyData → Prop} (h : Epa K p ws t σ F H RA) (hr : ∀ ds, RA ds → ds.length ≤ 1000 ∧ R (.list ds)) : Ep K p ws (tLst t) σ F H R := fun F1 H1 g po Q q =>
  h F1 H1 g po _ fun vs ds H2 F2 g2 po2 r p2 => ⟨by rw [DpAll.len p2]; exact Nat.le_trans (hr ds r).1 (by decide), fun a ha => by
    have gn : Gr no H2 F2 (upd H2 a (.lst vs)) (upd F2 a (.lst vs)) := Gr.new g2.e ha
    exact q _ _ _ _ (g2.tr gn.to) (po2.step gn) (hr ds r).2 (.lst (.inl (.inl upd_same)) (DpAll.ext p2 (Ext.new (g2.e.none_of ha))))⟩
theorem ep_cb {r : List V → Hp → VK → Prop} {t : TA} {RA : List PyData → Prop} (h : Epa K p ws t σ F H RA) (hr : ∀ ds, RA ds → ∃ d, CbD K r ds d ∧ R d) : Ep K p ws (tCB r t) σ F H R := fun F1 H1 g po Q q =>
  h F1 H1 g po _ fun vs ds H2 F2 g2 po2 ra p2 => by
    obtain ⟨d, cd, rd⟩ := hr ds ra
    exact cd F2 H2 vs g2.e p2 Q fun z H4 F4 g4 p4 => q z d H4 F4 (g2.tr g4.to) (po2.step g4) rd p4
theorem ep_call {RD : List PyData → PyData → Prop} {t : TA} {RA : List PyData → Prop} {E : XK} (h : Epa K p ws t σ F H RA) (hr : ∀ ds, RA ds → ∃ d, RD ds d ∧ R d) : Ep K p ws (tCall (spD K RD) [] E t) σ F H R := fun F1 H1 g po Q q =>
  h F1 H1 g po _ fun vs ds H2 F2 g2 po2 ra p2 => by
    obtain ⟨d, cd, rd⟩ := hr ds ra
    exact ⟨F2, ds, d, g2.e, by rw [List.append_nil]; exact p2, cd, fun v H3 F3 g3 p3 => q v d H3 F3 (g2.tr g3.to) (po2.step g3) rd p3⟩
/-- a call of a def over the pool -/
theorem ep_callP {Pre : List PyData → Prop} {RD : List PyData → PyData → Prop} {t : TA} {RA : List PyData → Prop} {X : XK} (E : Env K F σ ρ) (hi : ρ[i]? = some (.v (.ref p))) (h : Epa K p ws t σ F H RA) (hpre : ∀ ds, RA ds → Pre ds) (hr : ∀ ds d, RA ds → RD ds d → R d) :
    Ep K p ws (tCall (spP K ws Pre RD) [] X (tCons (tVar i) t)) σ F H R := fun F1 H1 g po Q q =>
  ⟨.ref p, (E.ext g.f).val hi, h F1 H1 g po _ fun vs ds H2 F2 g2 po2 ra p2 => ⟨F2, p, vs, ds, by rw [List.append_nil], g2.e, po2, p2, hpre ds ra, fun v d H3 F3 g3 po3 r3 p3 => q v d H3 F3 (g2.tr g3) po3 (hr ds d ra r3) p3⟩⟩
theorem ept_test {RB : Bool → Prop} (h : Ep K p ws te σ F H R) (hr : ∀ d, R d → ∃ b, d = .bool b ∧ RB b) : Ept K p ws (tTest te) σ F H RB := fun F1 H1 g po Q q => h F1 H1 g po _ fun v d H2 F2 g2 po2 r p2 => by
  obtain ⟨b, rfl, rb⟩ := hr d r
  cases p2
  exact ⟨b, rfl, q b H2 F2 g2 po2 rb⟩
theorem ept_and {t u : TT} {RB RC : Bool → Prop} (h1 : Ept K p ws t σ F H RB) (h2 : RB true → Ept K p ws u σ F H RC) : Ept K p ws (tAnd t u) σ F H (fun b => b = true → RB true ∧ RC true) := fun F1 H1 g po Q q => h1 F1 H1 g po _ fun b H2 F2 g2 po2 rb => by
  cases b with
  | true => exact h2 rb F2 H2 (g.tr g2) po2 Q fun c H3 F3 g3 po3 rc => q c H3 F3 (g2.tr g3) po3 (fun e => ⟨rb, e ▸ rc⟩)
  | false => exact q false H2 F2 g2 po2 (fun e => nomatch e)
theorem ept_edt {t : TT} {b : Bool} {RB : Bool → Prop} (h : ∀ F1 H1, Ext F F1 → Ext F1 H1 → Edt t σ F1 H1 b) (hr : RB b) : Ept K p ws t σ F H RB := fun F1 H1 g po Q q => h F1 H1 g.f g.e F1 H1 (Gr.refl g.e) Q fun H2 F2 g2 => q b H2 F2 g2.to (po.step g2) hr
/-! ### statements -/
structure Cp (K : PySem.W.Frag) (p : Addr) (ws : Option (List Str)) (H0 F0 F H : Hp) : Prop where
  g : Gr (pm p) H0 F0 H F
  po : PoolAt K p ws F H
theorem Cp.step {F2 H2 : Hp} (S : Cp K p ws H0 F0 F H) (g : Gr no H F H2 F2) : Cp K p ws H0 F0 F2 H2 := ⟨S.g.tr g.to, S.po.step g⟩
theorem p_set (S : Cp K p ws H0 F0 F H) (E : Env K F σ ρ) (h : Ep K p ws te σ F H R) (k : ∀ v d H2 F2, Cp K p ws H0 F0 F2 H2 → Gr (pm p) H F H2 F2 → R d → Dp K F2 v d → Env K F2 (σ.set i (some v)) (ρ.set i (.d d)) → D.nx (σ.set i (some v)) H2) : tAsg te (gName i) D σ H :=
  h F H (Gr.refl S.g.e) S.po _ fun v d H2 F2 g2 po2 r p2 => k v d H2 F2 ⟨S.g.tr g2, po2⟩ g2 r p2 (Env.set i (s := .d d) (E.ext g2.f) ⟨v, rfl, p2⟩)
theorem p_ret (S : Cp K p ws H0 F0 F H) (h : Ep K p ws te σ F H R) (q : RtP K p ws H0 F0 R D.rt) : tRet te D σ H := h F H (Gr.refl S.g.e) S.po _ fun v d H2 F2 g2 po2 r p2 => q v d H2 F2 (S.g.tr g2) po2 r p2
theorem p_if {tc : TT} {t1 t2 : TS} {RB : Bool → Prop} (S : Cp K p ws H0 F0 F H) (h : Ept K p ws tc σ F H RB) (h1 : RB true → ∀ H2 F2, Cp K p ws H0 F0 F2 H2 → Gr (pm p) H F H2 F2 → t1 D σ H2) (h2 : RB false → ∀ H2 F2, Cp K p ws H0 F0 F2 H2 → Gr (pm p) H F H2 F2 → t2 D σ H2) : tIfS tc t1 t2 D σ H :=
  h F H (Gr.refl S.g.e) S.po _ fun b H2 F2 g2 po2 r => by
    cases b with
    | true => exact h1 r H2 F2 ⟨S.g.tr g2, po2⟩ g2
    | false => exact h2 r H2 F2 ⟨S.g.tr g2, po2⟩ g2
theorem Ml.stepP {l : Addr} {ds : List PyData} {F2 H2 : Hp} (M : Ml K H0 l ds F H) (hp : H0 p ≠ none) (g : Gr (pm p) H F H2 F2) : Ml K H0 l ds F2 H2 := by
  obtain ⟨xs, h1, h2⟩ := M.h
  have ne : l ≠ p := fun e => hp (e ▸ M.y)
  exact ⟨M.y, by rw [g.n l (by rw [h1]; simp)]; exact M.f, xs, g.h l _ ne h1, DpAll.ext h2 g.f⟩
theorem p_new {i : Nat} (S : Cp K p ws H0 F0 F H) (hp : H0 p ≠ none) (E : Env K F σ ρ) (k : ∀ l H2, Cp K p ws H0 F0 F H2 → Gr no H F H2 F → Ml K H0 l [] F H2 → Env K F (σ.set i (some (.ref l))) (ρ.set i (.v (.ref l))) → D.nx (σ.set i (some (.ref l))) H2) :
    tAsg (tLst tNil) (gName i) D σ H := ⟨Nat.zero_le _, fun q hq => by
  have g : Gr no H F (upd H q (.lst [])) F := Gr.newM S.g.e hq
  have hq0 : H0 q = none := by
    cases e : H0 q with
    | none => rfl
    | some o => exact absurd hq (S.g.t q (by rw [e]; simp))
  exact k q _ (S.step g) g ⟨hq0, S.g.e.none_of hq, [], upd_same, .nil⟩ (Env.set i (s := .v (.ref q)) E rfl)⟩
theorem Gr.mutM {l : Addr} {o : HO} {H1 F1 : Hp} (a : Gr (pm p) H0 F0 H1 F1) (hl : H0 l = none) (fl : F1 l = none) : Gr (pm p) H0 F0 (upd H1 l o) F1 := a.mut hl fl
theorem PoolAt.other {l : Addr} {o : HO} (P : PoolAt K p ws F H) (ne : p ≠ l) : PoolAt K p ws F (upd H l o) := P.ext Ext.rfl' P.f (upd_ne ne)
/-- x.append(e): e draws -/
theorem p_app {te : TE} {l : Addr} {ds : List PyData} (S : Cp K p ws H0 F0 F H) (hp : H0 p ≠ none) (M : Ml K H0 l ds F H) (E : Env K F σ ρ) (hi : ρ[i]? = some (.v (.ref l))) (h : Ep K p ws te σ F H R) (hl : ds.length ≤ 1000)
    (k : ∀ d H2 F2, Cp K p ws H0 F0 F2 H2 → Ext F F2 → R d → Ml K H0 l (ds ++ [d]) F2 H2 → D.nx σ H2) : tDrop (tBM K "list" rAppend (tVar i) (tCons te tNil)) D σ H := by
  obtain ⟨xs0, h1, _⟩ := M.h
  refine ⟨.ref l, E.val hi, .inl ⟨rfl, xs0, .inl (.inl h1)⟩, h F H (Gr.refl S.g.e) S.po _ fun v d H2 F2 g2 po2 r p2 => ?_⟩
  have M2 := M.stepP hp g2
  obtain ⟨xs, h2, h3⟩ := M2.h
  have lx := DpAll.len h3
  have ne : p ≠ l := fun e => hp (e ▸ M.y)
  refine ⟨l, xs, v, rfl, rfl, h2, by rw [lx]; exact small1000 (by omega), ?_⟩
  exact k d _ F2 ⟨(S.g.tr g2).mut M.y M2.f, po2.other ne⟩ g2.f r ⟨M.y, M2.f, xs ++ [v], upd_same, DpAll.app h3 (.cons p2 .nil)⟩
theorem p_last {l : Addr} {ds : List PyData} (S : Cp K p ws H0 F0 F H) (hp : H0 p ≠ none) (M : Ml K H0 l ds F H) : ∃ F2, Ext F F2 ∧ Cp K p ws H0 F0 F2 H ∧ Dp K F2 (.ref l) (.list ds) := by
  obtain ⟨xs, h1, h2⟩ := M.h
  have ne : p ≠ l := fun e => hp (e ▸ M.y)
  exact ⟨upd F l (.lst xs), Ext.new M.f, ⟨S.g.last M.y M.f h1, S.po.ext (Ext.new M.f) (by rw [upd_ne ne]; exact S.po.f) rfl⟩, .lst (.inl (.inl upd_same)) (DpAll.ext h2 (Ext.new M.f))⟩
/-- for k in range(e), e drawn -/
theorem p_for1 {te : TE} {j : Nat} {tb : TS} {RN : Int → Prop} (S : Cp K p ws H0 F0 F H) (h : Ep K p ws te σ F H R) (hr : ∀ d, R d → ∃ n, d = .int n ∧ 0 ≤ n ∧ n ≤ 100000 ∧ RN n)
    (k : ∀ n H1 F1, RN n → Cp K p ws H0 F0 F1 H1 → Gr (pm p) H F H1 F1 → ∃ Pv : Nat → L2.St → Hp → Prop, Pv 0 σ H1 ∧ (∀ (i : Nat) σ' H', (i : Int) < n → Pv i σ' H' → tb { D with nx := Pv (i + 1), ct := Pv (i + 1), bk := D.nx } (σ'.set j (some (.int (i : Int)))) H') ∧ ∀ σ' H', Pv n.toNat σ' H' → D.nx σ' H') :
    tFor (iRng1 (tCons te tNil)) (gName j) tb D σ H := h F H (Gr.refl S.g.e) S.po _ fun v d H1 F1 g1 po1 r p1 => by
  obtain ⟨n, rfl, n0, n1, rn⟩ := hr d r
  cases p1
  obtain ⟨Pv, h0, hs, hd⟩ := k n H1 F1 rn ⟨S.g.tr g1, po1⟩ g1
  refine ⟨n, rfl, by omega, by omega, ?_⟩
  refine for_range (lo := 0) (n := n.toNat) Pv h0 (fun i σ' H' hi hp => ?_) hd
  show tb _ (σ'.set j (some (.int (0 + (i : Int))))) H'
  rw [Int.zero_add]
  exact hs i σ' H' (by omega) hp
/-- a comprehension over range(e), its items drawn -/
theorem ep_lcR {tn te : TE} {j : Nat} {RN : Int → Prop} {RI : PyData → Prop} (h : Ep K p ws tn σ F H Ra) (hn : ∀ d, Ra d → ∃ n : Nat, d = .int (n : Int) ∧ n ≤ 1000 ∧ RN n)
    (he : ∀ (i : Nat) F1 H1, Gr (pm p) H F H1 F1 → Ep K p ws te ((wipe σ [j]).set j (some (.int (i : Int)))) F1 H1 RI) (hr : ∀ (n : Nat) ds, RN n → ds.length = n → (∀ d ∈ ds, RI d) → R (.list ds)) :
    Ep K p ws (tLc (iRng1 (tCons tn tNil)) (gName j) tYes te [j]) σ F H R := fun F1 H1 g po Q q => h F1 H1 g po _ fun v d H2 F2 g2 po2 r p2 => by
  obtain ⟨n, rfl, hl, rn⟩ := hn d r
  cases p2
  refine ⟨(n : Int), rfl, by omega, by omega, fun l hl0 => ?_⟩
  have pl : p ≠ l := fun e => po2.at (e ▸ hl0)
  have key := lc_range (lo := 0) (n := n) (g := gName j) (tt := tYes) (te := te) (vs := [j]) (σ := σ) (H1 := H2) (D := l) (Qd := fun H' => Q (.ref l) H') (fun i H' => ∃ F' ds, Gr (pm p) H2 F2 H' F' ∧ PoolAt K p ws F' H' ∧ Ml K H2 l ds F' H' ∧ ds.length = i ∧ ∀ d ∈ ds, RI d)
    ⟨F2, [], Gr.newM g2.e hl0, po2.other pl, ⟨hl0, g2.e.none_of hl0, [], upd_same, .nil⟩, rfl, fun _ z => nomatch z⟩ (fun i H' hi hw => ?_) (fun H' hw => ?_)
  · simpa using key
  · obtain ⟨F', ds, g3, po3, M3, hds, hri⟩ := hw
    rw [Int.zero_add]
    refine ⟨wipe_one σ j _, ?_⟩
    refine he i F' H' ((g.tr g2).tr g3) F' H' (Gr.refl g3.e) po3 _ fun y d H4 F4 g4 po4 rd p4 => ?_
    have M4 := M3.stepP po2.at g4
    obtain ⟨xs, h2, h3⟩ := M4.h
    have lx := DpAll.len h3
    refine ⟨xs, h2, by rw [lx]; exact small1000 (by omega), F4, ds ++ [d], (g3.tr g4).mut M4.y M4.f, po4.other pl, ⟨M4.y, M4.f, xs ++ [y], upd_same, DpAll.app h3 (.cons p4 .nil)⟩, by rw [List.length_append, hds]; rfl, fun z hz => ?_⟩
    rcases List.mem_append.mp hz with hz | hz
    · exact hri z hz
    · rw [List.mem_singleton.mp hz]; exact rd
  · obtain ⟨F', ds, g3, po3, M3, hds, hri⟩ := hw
    obtain ⟨xs, h1, h2⟩ := M3.h
    refine q _ (.list ds) H' (upd F' l (.lst xs)) (g2.tr (g3.last M3.y M3.f h1)) (po3.ext (Ext.new M3.f) (by rw [upd_ne pl]; exact po3.f) rfl) (hr n ds rn hds hri) (.lst (.inl (.inl upd_same)) (DpAll.ext h2 (Ext.new M3.f)))
end
/-! ### the pool's own entries -/
section
variable {K : PySem.W.Frag} {p : Addr} {σ : L2.St} {F H H0 F0 : Hp} {ρ : List Sv} {i : Nat} {D : Ends}
theorem er_pget {kvs : List (L2.Key × V)} {key : Str} {v : V} (E : Env K F σ ρ) (hi : ρ[i]? = some (.v (.ref p))) (hp : H p = some (.dK kvs)) (hv : valV kvs (.inr key) = some v) : Er (tDGet (tVar i) (tC (.str key))) σ F H v := fun F1 H1 g Q q =>
  ⟨.ref p, (E.ext g.f).val hi, p, v, rfl, by
    have e := DGet.k (k := .inr key) (g.ext p _ hp)
    rw [hv] at e
    exact e, q⟩
theorem ed_pget {kvs : List (L2.Key × V)} {key : Str} {v : V} {d : PyData} (E : Env K F σ ρ) (hi : ρ[i]? = some (.v (.ref p))) (hp : H p = some (.dK kvs)) (hv : valV kvs (.inr key) = some v) (pd : Dp K F v d) : Ed K (tDGet (tVar i) (tC (.str key))) σ F H d := ed_of (er_pget E hi hp hv) pd
/-- pool[key] = e -/
theorem st_pput {tv : TE} {kvs : List (L2.Key × V)} {key : Str} {d : PyData} (G : Gr (pm p) H0 F0 H F) (hf : F p = none) (hp : H p = some (.dK kvs)) (hl : kvs.length ≤ 1000) (E : Env K F σ ρ) (hi : ρ[i]? = some (.v (.ref p))) (h : Ed K tv σ F H d)
    (k : ∀ v H2 F2, Gr (pm p) H0 F0 H2 F2 → Ext F F2 → F2 p = none → Dp K F2 v d → H2 p = some (.dK (putK kvs (.inr key) v)) → D.nx σ H2) : sDPut (tVar i) (tC (.str key)) tv D σ H :=
  h F H (Gr.refl G.e) _ fun v H2 F2 g2 p2 => by
    have hp2 := g2.ext p _ hp
    have hf2 : F2 p = none := by rw [g2.n p (by rw [hp]; simp)]; exact hf
    refine ⟨.ref p, (E.ext g2.f).val hi, p, _, rfl, DPut.k (k := .inr key) hp2 (small1000 hl), ?_⟩
    exact k v _ F2 ((G.tr g2.to).mutP hf2 (by rw [hp2]; simp)) g2.f hf2 p2 upd_same
end
end Gb

set_option maxHeartbeats 1000000
namespace Gb
open PySem L2
local macro_rules | `(tactic| walk_at "wk") => `(tactic| (repeat' (first | exact trivial | exact Or.inl rfl | exact Or.inr rfl | apply And.intro)))
def KeepsP (K : PySem.W.Frag) (N : List Str) (ws : Option (List Str)) (Pre : List PyData → Prop) (R : List PyData → PyData → Prop) (t : TS) : Prop :=
  ∀ (H F : Hp) (p : Addr) (vs : List V) (ds : List PyData) (Q : VK), Ext F H → PoolAt K p ws F H → DpAll K F vs ds → Pre ds → RtP K p ws H F (R ds) Q → t { nx := fun _ H' => Q .non H', rt := Q } (L2.start N (.ref p :: vs)) H
section
variable {P : Program} {w : World} {K : PySem.W.Frag} {mg : Str → Option Value} {base : Heap}
theorem okP {x qual : Str} {st : Stmt} {f : Addr} {fd : FuncData} {N ps : List Str} {k : Nat} {ws : Option (List Str)} {Pre : List PyData → Prop} {R : List PyData → PyData → Prop} (F : Fun K x qual st f fd) (S : FnScope N ps (defScope st)) (t : TS)
    (hl : ∀ ds, Pre ds → ds.length + 1 = ps.length) (rd : KeepsP K N ws Pre R t)
    (dv : ∀ (cdv : Value) (A : Around) (outer : List PySem.Env) (s : Shared) (H : Hp) (E : XK), Room k (A.deeper (PyProof.Rows.envOfC qual (defScope st) s.heap.objs.size f cdv)) →
      PSs (cxOf CX0 P w K mg base N qual (defScope st) f cdv A outer s H E).nox (defBody st) t) : FnOk P w K mg base CX0 (k + 1) f fd ps (spP K ws Pre R) := by
  refine F.ok S (fun vs H Q E h => ?_) (fun cdv A outer s H vs Q E hr h => ⟨t, dv cdv A outer s H E hr, ?_⟩)
  · obtain ⟨F0, p, vs', ds, rfl, x, po, hd, hpre, _⟩ := h
    rw [List.length_cons, DpAll.len hd]; exact hl ds hpre
  · obtain ⟨F0, p, vs', ds, rfl, x, po, hd, hpre, q⟩ := h
    exact rd H F0 p vs' ds Q x po hd hpre q
theorem envP_start {F : Hp} {p : Addr} {N : List Str} {vs : List V} {ds : List PyData} (h : DpAll K F vs ds) : Env K F (L2.start N (.ref p :: vs)) (.v (.ref p) :: (ds.map Sv.d ++ List.replicate (N.length - (ds.length + 1)) Sv.un)) := by
  unfold L2.start
  rw [List.length_cons, DpAll.len h]
  exact ⟨rfl, env_app (env_args h) (env_un _)⟩
end
section
variable {K : PySem.W.Frag} {p : Addr} {ws : Option (List Str)} {σ : L2.St} {F H H0 F0 : Hp} {te : TE} {R : PyData → Prop} {d : PyData} {D : Ends}
theorem p_retE (S : Cp K p ws H0 F0 F H) (h : Ed K te σ F H d) (hr : R d) (q : RtP K p ws H0 F0 R D.rt) : tRet te D σ H := h F H (Gr.refl S.g.e) _ fun v H2 F2 g p => q v d H2 F2 (S.g.tr g.to) (S.po.step g) hr p
/-- if .. : ..; what comes behind is told once -/
theorem st_ifR {tc : TT} {t1 t2 : TS} (J : Hp → Prop) (rest : ∀ H', J H' → t2 D σ H') (k : (∀ H', J H' → t2 D σ H') → tIfS tc t1 tNext { D with nx := t2 D } σ H) : tSeq (tIfS tc t1 tNext) t2 D σ H := k rest
theorem od_pow {a b : Int} (h : CPow a b) : OpD K rPowI (.int a) (.int b) (.int (a ^ b.toNat)) := fun F H v w x h1 h2 Q q => by
  cases h1; cases h2; exact ⟨a, b, rfl, rfl, h, q _ H F (Gr.refl x) (.int _)⟩
/-- a test of data; the pool stands -/
theorem st_ifE {tc : TT} {t1 t2 : TS} {b : Bool} (G : Gr (pm p) H0 F0 H F) (h : Edt tc σ F H b) (h1 : b = true → ∀ H2 F2, Gr (pm p) H0 F0 H2 F2 → Gr no H F H2 F2 → t1 D σ H2) (h2 : b = false → ∀ H2 F2, Gr (pm p) H0 F0 H2 F2 → Gr no H F H2 F2 → t2 D σ H2) :
    tIfS tc t1 t2 D σ H := h F H (Gr.refl G.e) _ fun H2 F2 g => by
  cases b with
  | true => exact h1 rfl H2 F2 (G.tr g.to) g
  | false => exact h2 rfl H2 F2 (G.tr g.to) g
theorem st_setE {ρ : List Sv} {i : Nat} (G : Gr (pm p) H0 F0 H F) (E : Env K F σ ρ) (h : Ed K te σ F H d) (k : ∀ v H2 F2, Gr (pm p) H0 F0 H2 F2 → Gr no H F H2 F2 → Dp K F2 v d → Env K F2 (σ.set i (some v)) (ρ.set i (.d d)) → D.nx (σ.set i (some v)) H2) :
    tAsg te (gName i) D σ H := h F H (Gr.refl G.e) _ fun v H2 F2 g p => k v H2 F2 (G.tr g.to) g p (Env.set i (s := .d d) (E.ext g.f) ⟨v, rfl, p⟩)
end
/-! ### _law_take -/
def Pre_take (ds : List PyData) : Prop := ∃ m : Int, ds = [.int m] ∧ 0 < m ∧ m ≤ 1000
def R_take (ds : List PyData) (d : PyData) : Prop := ∃ m r : Int, ds = [.int m] ∧ d = .int r ∧ 0 ≤ r ∧ r < m
abbrev sp__law_take (K : PySem.W.Frag) (ws : Option (List Str)) : Sp := spP K ws Pre_take R_take
section
variable {P : Program} {w : World} {K : PySem.W.Frag} {mg : Str → Option Value} {base : Heap} {ws : Option (List Str)}
/-! ### _law_take -/
def t__law_take (K : PySem.W.Frag) : TS :=
  (tSeq (sDPut (tVar 0) (tC (.str "turn")) (tOp rAddI (tDGet (tVar 0) (tC (.str "turn"))) (tC (.int 1))))
  (tSeq (tIfS (tAnd (tTest (tOp rEq (tDGet (tVar 0) (tC (.str "left"))) (tC (.int 0)))) (tTest (tOp rLtI (tDGet (tVar 0) (tC (.str "at"))) (tCB (rLenQ K) (tCons (tDGet (tVar 0) (tC (.str "cells"))) tNil))))) (tSeq (sDPut (tVar 0) (tC (.str "rest")) (tOp (rIx K) (tDGet (tVar 0) (tC (.str "cells"))) (tDGet (tVar 0) (tC (.str "at")))))
  (tSeq (sDPut (tVar 0) (tC (.str "at")) (tOp rAddI (tDGet (tVar 0) (tC (.str "at"))) (tC (.int 1))))
  (tSeq (sDPut (tVar 0) (tC (.str "small")) (tOp rLtI (tDGet (tVar 0) (tC (.str "rest"))) (tOp rPowI (tC (.int 10)) (tC (.int 18)))))
  (sDPut (tVar 0) (tC (.str "left")) (tOp (rIx K) (tLst (tCons (tC (.int 60)) (tCons (tC (.int 2)) tNil))) (tCB rIntQ (tCons (tDGet (tVar 0) (tC (.str "small"))) tNil))))))) tNext)
  (tSeq (tIfS (tTest (tOp rEq (tDGet (tVar 0) (tC (.str "left"))) (tC (.int 0)))) (tRet (tCall (sp__law_mixed K) [] E0 (tCons (tDGet (tVar 0) (tC (.str "seed"))) (tCons (tDGet (tVar 0) (tC (.str "turn"))) (tCons (tVar 1) tNil))))) tNext)
  (tSeq (sDPut (tVar 0) (tC (.str "left")) (tOp rSubI (tDGet (tVar 0) (tC (.str "left"))) (tC (.int 1))))
  (tSeq (tIfS (tB (tDGet (tVar 0) (tC (.str "small")))) (tRet (tCall (sp__law_mixed K) [] E0 (tCons (tDGet (tVar 0) (tC (.str "rest"))) (tCons (tDGet (tVar 0) (tC (.str "turn"))) (tCons (tVar 1) tNil))))) tNext)
  (tSeq (tAsg (tOp rModI (tCB rIntQ (tCons (tDGet (tVar 0) (tC (.str "rest"))) tNil)) (tVar 1)) (gName 2))
  (tSeq (sDPut (tVar 0) (tC (.str "rest")) (tOp rDivI (tDGet (tVar 0) (tC (.str "rest"))) (tVar 1)))
  (tSeq (tIfS (tTest (tOp rEq (tDGet (tVar 0) (tC (.str "rest"))) (tC (.int 0)))) (sDPut (tVar 0) (tC (.str "left")) (tC (.int 0))) tNext)
  (tRet (tVar 2))))))))))

/-- what stands at p within a draw -/
def PlS (K : PySem.W.Frag) (p : Addr) (ws : Option (List Str)) (H0 F0 : Hp) (c : V) (s t : Int) (wd : Option V) (a r l : Int) (sm : Bool) (F H : Hp) : Prop :=
  Gr (pm p) H0 F0 H F ∧ F p = none ∧ H p = some (.dK (poolK c a r l sm s t wd)) ∧ (∃ ns : List Int, Dp K F c (.list (ns.map PyData.int))) ∧ 0 ≤ a ∧ (match ws with | none => wd = none | some l => ∃ w, wd = some w ∧ Dp K F w (.list (l.map PyData.str)))
theorem PlS.po {p : Addr} {H0 F0 : Hp} {c : V} {s t : Int} {wd : Option V} {a r l : Int} {sm : Bool} {F H : Hp} (h : PlS K p ws H0 F0 c s t wd a r l sm F H) : PoolAt K p ws F H := ⟨h.2.1, c, a, r, l, sm, s, t, wd, h.2.2.1, h.2.2.2.1, h.2.2.2.2.1, h.2.2.2.2.2⟩
theorem PlS.next {p : Addr} {H0 F0 : Hp} {c : V} {s t : Int} {wd : Option V} {a r l : Int} {sm : Bool} {F H F2 H2 : Hp} {s' t' a' r' l' : Int} {sm' : Bool} (h : PlS K p ws H0 F0 c s t wd a r l sm F H) (G : Gr (pm p) H0 F0 H2 F2) (e : Ext F F2) (f : F2 p = none) (hp : H2 p = some (.dK (poolK c a' r' l' sm' s' t' wd))) (ha : 0 ≤ a') : PlS K p ws H0 F0 c s' t' wd a' r' l' sm' F2 H2 := by
  obtain ⟨_, _, _, ⟨ns, h4⟩, _, h6⟩ := h
  refine ⟨G, f, hp, ⟨ns, Dp.ext h4 e⟩, ha, ?_⟩
  cases ws with
  | none => exact h6
  | some l => obtain ⟨w, e1, d⟩ := h6; exact ⟨w, e1, Dp.ext d e⟩
theorem rd__law_take : KeepsP K N__law_take ws Pre_take R_take (t__law_take K) := by
  intro H F p vs ds Q x po hd hpre q
  obtain ⟨m, rfl, m0, m1⟩ := hpre
  have E := envP_start (p := p) (N := N__law_take) hd
  obtain ⟨c, a, r, l, sm, s, t, wd, hp, hc, ha, hw⟩ := po.h
  have S0 : PlS K p ws H F c s t wd a r l sm F H := ⟨Gr.refl x, po.f, hp, hc, ha, hw⟩
  have L : ∀ {a r l sm s t}, (poolK c a r l sm s t wd).length ≤ 1000 := fun {a r l sm s t} => Nat.le_trans (poolK_len _ _ _ _ _ _ _ _) (by decide)
  have hq : ∀ {F2 H2 : Hp} {a r l : Int} {sm : Bool} {t : Int} {te : TE} {σ : L2.St} {z : Int} {D : Ends}, D.rt = Q → PlS K p ws H F c s t wd a r l sm F2 H2 → Ed K te σ F2 H2 (.int z) → 0 ≤ z → z < m → tRet te D σ H2 := fun {F2 H2 a r l sm t te σ z D} hD S h h0 h1 => by
    have hS : Cp K p ws H F F2 H2 := ⟨S.1, S.po⟩
    refine p_retE hS h (R := R_take [.int m]) ⟨m, z, rfl, rfl, h0, h1⟩ ?_
    rw [hD]; exact q
  refine st_seq (st_pput S0.1 S0.2.1 S0.2.2.1 L E rfl (ed_op (ed_pget E rfl S0.2.2.1 (gp_turn _ _ _ _ _ _ _ _) (.int _)) (ed_cI (K := K)) od_add) fun v H1 F1 G1 e1 f1 p1 hp1 => ?_)
  cases p1
  rw [pp_turn] at hp1
  have S1 := S0.next G1 e1 f1 hp1 ha
  have E1 := E.ext e1
  dsimp only
  refine st_ifR (fun H' => ∃ F' a r l sm, PlS K p ws H F c s (t + 1) wd a r l sm F' H' ∧ Ext F1 F') (fun H2 ⟨F2, a, r, l, sm, S2, e2⟩ => ?_) (fun rest => ?_)
  · have E2 := E1.ext e2
    refine st_seq (st_ifE S2.1 (edt_test (ed_op (ed_pget E2 rfl S2.2.2.1 (gp_left _ _ _ _ _ _ _ _) (.int _)) (ed_cI (K := K)) od_eqI)) (fun hb H3 F3 G3 g3 => ?_) (fun hb H3 F3 G3 g3 => ?_))
    · have S3 := S2.next G3 g3.f (by rw [g3.n p (by rw [S2.2.2.1]; simp)]; exact S2.2.1) (g3.ext p _ S2.2.2.1) S2.2.2.2.2.1
      have E3 := E2.ext g3.f
      exact hq rfl S3 (ed_call (R := R__law_mixed) (eda_cons (ed_pget E3 rfl S3.2.2.1 (gp_seed _ _ _ _ _ _ _ _) (.int _)) (eda_cons (ed_pget E3 rfl S3.2.2.1 (gp_turn _ _ _ _ _ _ _ _) (.int _)) (eda_cons (ed_var E3 rfl) eda_nil))) ⟨_, _, _, m0, rfl, rfl⟩) (mixed_in _ _ m0).1 (mixed_in _ _ m0).2
    · have S3 := S2.next G3 g3.f (by rw [g3.n p (by rw [S2.2.2.1]; simp)]; exact S2.2.1) (g3.ext p _ S2.2.2.1) S2.2.2.2.2.1
      have E3 := E2.ext g3.f
      dsimp only
      refine st_seq (st_pput S3.1 S3.2.1 S3.2.2.1 L E3 rfl (ed_op (ed_pget E3 rfl S3.2.2.1 (gp_left _ _ _ _ _ _ _ _) (.int _)) (ed_cI (K := K)) od_sub) fun v H4 F4 G4 e4 f4 p4 hp4 => ?_)
      cases p4
      rw [pp_left] at hp4
      have S4 := S3.next G4 e4 f4 hp4 S3.2.2.2.2.1
      have E4 := E3.ext e4
      refine st_seq (st_ifE S4.1 (edt_B (ed_pget E4 rfl S4.2.2.1 (gp_small _ _ _ _ _ _ _ _) (.bl _))) (fun hb H5 F5 G5 g5 => ?_) (fun hb H5 F5 G5 g5 => ?_))
      · have S5 := S4.next G5 g5.f (by rw [g5.n p (by rw [S4.2.2.1]; simp)]; exact S4.2.1) (g5.ext p _ S4.2.2.1) S4.2.2.2.2.1
        have E5 := E4.ext g5.f
        exact hq rfl S5 (ed_call (R := R__law_mixed) (eda_cons (ed_pget E5 rfl S5.2.2.1 (gp_rest _ _ _ _ _ _ _ _) (.int _)) (eda_cons (ed_pget E5 rfl S5.2.2.1 (gp_turn _ _ _ _ _ _ _ _) (.int _)) (eda_cons (ed_var E5 rfl) eda_nil))) ⟨_, _, _, m0, rfl, rfl⟩) (mixed_in _ _ m0).1 (mixed_in _ _ m0).2
      · have S5 := S4.next G5 g5.f (by rw [g5.n p (by rw [S4.2.2.1]; simp)]; exact S4.2.1) (g5.ext p _ S4.2.2.1) S4.2.2.2.2.1
        have E5 := E4.ext g5.f
        dsimp only
        refine st_seq (st_setE S5.1 E5 (ed_op (ed_cb (eda_cons (ed_pget E5 rfl S5.2.2.1 (gp_rest _ _ _ _ _ _ _ _) (.int _)) eda_nil) cd_int) (ed_var E5 rfl) (od_mod m0)) fun v6 H6 F6 G6 g6 p6 E6 => ?_)
        have S6 := S5.next G6 g6.f (by rw [g6.n p (by rw [S5.2.2.1]; simp)]; exact S5.2.1) (g6.ext p _ S5.2.2.1) S5.2.2.2.2.1
        dsimp only
        refine st_seq (st_pput S6.1 S6.2.1 S6.2.2.1 L E6 rfl (ed_op (ed_pget E6 rfl S6.2.2.1 (gp_rest _ _ _ _ _ _ _ _) (.int _)) (ed_var E6 rfl) (od_div ⟨m0, by omega⟩)) fun v H7 F7 G7 e7 f7 p7 hp7 => ?_)
        cases p7
        rw [pp_rest] at hp7
        have S7 := S6.next G7 e7 f7 hp7 S6.2.2.2.2.1
        have E7 := E6.ext e7
        dsimp only
        refine st_ifR (fun H' => ∃ F' a r l sm, PlS K p ws H F c s (t + 1) wd a r l sm F' H' ∧ Ext F7 F') (fun H8 ⟨F8, a, r, l, sm, S8, e8⟩ => ?_) (fun rest => ?_)
        · exact hq rfl S8 (ed_var (E7.ext e8) rfl) (Int.emod_nonneg _ (by omega)) (Int.emod_lt_of_pos _ m0)
        · refine st_ifE S7.1 (edt_test (ed_op (ed_pget E7 rfl S7.2.2.1 (gp_rest _ _ _ _ _ _ _ _) (.int _)) (ed_cI (K := K)) od_eqI)) (fun hb H8 F8 G8 g8 => ?_) (fun hb H8 F8 G8 g8 => ?_)
          · have S8 := S7.next G8 g8.f (by rw [g8.n p (by rw [S7.2.2.1]; simp)]; exact S7.2.1) (g8.ext p _ S7.2.2.1) S7.2.2.2.2.1
            refine st_pput S8.1 S8.2.1 S8.2.2.1 L (E7.ext g8.f) rfl (ed_cI (K := K)) fun v H9 F9 G9 e9 f9 p9 hp9 => ?_
            cases p9
            rw [pp_left] at hp9
            exact rest H9 ⟨F9, _, _, _, _, S8.next G9 e9 f9 hp9 S8.2.2.2.2.1, g8.f.tr e9⟩
          · have S8 := S7.next G8 g8.f (by rw [g8.n p (by rw [S7.2.2.1]; simp)]; exact S7.2.1) (g8.ext p _ S7.2.2.1) S7.2.2.2.2.1
            exact rest H8 ⟨F8, _, _, _, _, S8, g8.f⟩
  · obtain ⟨ns, hc1⟩ := S1.2.2.2.1
    have hlen : CbD K (rLenQ K) [.list (ns.map PyData.int)] (.int (ns.length : Int)) := by
      have h := cd_lenL (K := K) (ds := ns.map PyData.int)
      rw [List.length_map] at h
      exact h
    refine st_ifE S1.1 (edt_and (edt_test (ed_op (ed_pget E1 rfl S1.2.2.1 (gp_left _ _ _ _ _ _ _ _) (.int _)) (ed_cI (K := K)) od_eqI)) fun _ => edt_test (ed_op (ed_pget E1 rfl S1.2.2.1 (gp_at _ _ _ _ _ _ _ _) (.int _)) (ed_cb (eda_cons (ed_pget E1 rfl S1.2.2.1 (gp_cells _ _ _ _ _ _ _ _) hc1) eda_nil) hlen) od_lt)) (fun hb H2 F2 G2 g2 => ?_) (fun hb H2 F2 G2 g2 => ?_)
    · rw [Bool.and_eq_true, decide_eq_true_eq, decide_eq_true_eq] at hb
      have S2 := S1.next G2 g2.f (by rw [g2.n p (by rw [S1.2.2.1]; simp)]; exact S1.2.1) (g2.ext p _ S1.2.2.1) ha
      have E2 := E1.ext g2.f
      obtain ⟨j, hj⟩ : ∃ j : Nat, a = (j : Int) := ⟨a.toNat, by omega⟩
      have hjl : j < ns.length := by omega
      have hix : (ns.map PyData.int)[j]? = some (.int ns[j]) := by rw [List.getElem?_map, List.getElem?_eq_getElem hjl]; rfl
      refine st_seq (st_pput S2.1 S2.2.1 S2.2.2.1 L E2 rfl (ed_op (ed_pget E2 rfl S2.2.2.1 (gp_cells _ _ _ _ _ _ _ _) (Dp.ext hc1 g2.f)) (ed_pget E2 rfl S2.2.2.1 (gp_at _ _ _ _ _ _ _ _) (.int _)) (od_ixL hj hix)) fun v H3 F3 G3 e3 f3 p3 hp3 => ?_)
      cases p3
      rw [pp_rest] at hp3
      have S3 := S2.next G3 e3 f3 hp3 ha
      have E3 := E2.ext e3
      dsimp only
      refine st_seq (st_pput S3.1 S3.2.1 S3.2.2.1 L E3 rfl (ed_op (ed_pget E3 rfl S3.2.2.1 (gp_at _ _ _ _ _ _ _ _) (.int _)) (ed_cI (K := K)) od_add) fun v H4 F4 G4 e4 f4 p4 hp4 => ?_)
      cases p4
      rw [pp_at] at hp4
      have S4 := S3.next G4 e4 f4 hp4 (by omega)
      have E4 := E3.ext e4
      dsimp only
      refine st_seq (st_pput S4.1 S4.2.1 S4.2.2.1 L E4 rfl (ed_op (ed_pget E4 rfl S4.2.2.1 (gp_rest _ _ _ _ _ _ _ _) (.int _)) (ed_op (ed_cI (K := K)) (ed_cI (K := K)) (od_pow ⟨by decide, by decide, by decide⟩)) od_lt) fun v H5 F5 G5 e5 f5 p5 hp5 => ?_)
      cases p5
      rw [pp_small] at hp5
      have S5 := S4.next G5 e5 f5 hp5 S4.2.2.2.2.1
      have E5 := E4.ext e5
      dsimp only
      have key : ∀ b : Bool, ∃ z : Int, OpD K (rIx K) (.list [.int 60, .int 2]) (.int (if b = true then 1 else 0)) (.int z) := fun b => by
        cases b with
        | true => exact ⟨2, od_ixL (j := 1) rfl rfl⟩
        | false => exact ⟨60, od_ixL (j := 0) rfl rfl⟩
      obtain ⟨z, hz⟩ := key (decide (ns[j] < 10 ^ (18 : Int).toNat))
      refine st_pput S5.1 S5.2.1 S5.2.2.1 L E5 rfl (ed_op (ed_lst (eda_cons (ed_cI (K := K)) (eda_cons (ed_cI (K := K)) eda_nil))) (ed_cb (eda_cons (ed_pget E5 rfl S5.2.2.1 (gp_small _ _ _ _ _ _ _ _) (.bl _)) eda_nil) cd_intB) hz) fun v H6 F6 G6 e6 f6 p6 hp6 => ?_
      cases p6
      rw [pp_left] at hp6
      exact rest H6 ⟨F6, _, _, _, _, S5.next G6 e6 f6 hp6 S5.2.2.2.2.1, (((g2.f.tr e3).tr e4).tr e5).tr e6⟩
    · have S2 := S1.next G2 g2.f (by rw [g2.n p (by rw [S1.2.2.1]; simp)]; exact S1.2.1) (g2.ext p _ S1.2.2.1) ha
      exact rest H2 ⟨F2, _, _, _, _, S2, g2.f⟩
theorem len__law_take (ds : List PyData) (h : Pre_take ds) : ds.length + 1 = 2 := by obtain ⟨_, h, _⟩ := h; rw [h]; rfl
theorem dv__law_take (T : Tx K mg) (cdv : Value) (A : Around) (outer : List PySem.Env) (s : Shared) (H : Hp) (E : XK) (hr : Room 1 (A.deeper (PyProof.Rows.envOfC "_law_take" (defScope s__law_take) s.heap.objs.size T.d__law_take.f cdv))) :
    PSs (cxOf CX0 P w K mg base N__law_take "_law_take" (defScope s__law_take) T.d__law_take.f cdv A outer s H E).nox (defBody s__law_take) (t__law_take K) := by
  exact (pss_cons (ps_dput (hu_of hr) (pv 0) pe_str (pe_op op_add (pe_dget (hu_of hr) (pv 0) pe_str (fun _ _ => rfl)) pe_int) rfl)
  (pss_cons (ps_if (PW.pt (pw_and (pt_cmpR op_eq (pe_dget (hu_of hr) (pv 0) pe_str (fun _ _ => rfl)) pe_int (nomark _)) (pw_and1 (pt_cmpR op_lt (pe_dget (hu_of hr) (pv 0) pe_str (fun _ _ => rfl)) (pe_callB call_lenQ (by rfl) T.n_len (by decide +kernel) (pa_cons (pe_dget (hu_of hr) (pv 0) pe_str (fun _ _ => rfl)) pa_nil)) (nomark _))))) (pss_cons (ps_dput (hu_of hr) (pv 0) pe_str (pe_ix ix_seq (pe_dget (hu_of hr) (pv 0) pe_str (fun _ _ => rfl)) (pe_dget (hu_of hr) (pv 0) pe_str (fun _ _ => rfl)) (fun _ _ => rfl)) rfl)
  (pss_cons (ps_dput (hu_of hr) (pv 0) pe_str (pe_op op_add (pe_dget (hu_of hr) (pv 0) pe_str (fun _ _ => rfl)) pe_int) rfl)
  (pss_cons (ps_dput (hu_of hr) (pv 0) pe_str (pe_cmpR op_lt (pe_dget (hu_of hr) (pv 0) pe_str (fun _ _ => rfl)) (pe_op op_pow pe_int pe_int) (nomark _)) rfl)
  (pss_one (ps_dput (hu_of hr) (pv 0) pe_str (pe_ix ix_seq (pe_lst (pa_cons pe_int (pa_cons pe_int pa_nil))) (pe_callTy call_intQ (by rfl) T.n_int (by decide +kernel) (pa_cons (pe_dget (hu_of hr) (pv 0) pe_str (fun _ _ => rfl)) pa_nil)) (fun _ _ => rfl)) rfl))))) pss_nil)
  (pss_cons (ps_if (pt_cmpR op_eq (pe_dget (hu_of hr) (pv 0) pe_str (fun _ _ => rfl)) pe_int (nomark _)) (pss_one (ps_ret (pe_call (ok__law_mixed T) (hr.mono (by decide)) (by rfl) T.d__law_mixed.g T.d__law_mixed.F.kp T.d__law_mixed.b .nil pass0 (pa_cons (pe_dget (hu_of hr) (pv 0) pe_str (fun _ _ => rfl)) (pa_cons (pe_dget (hu_of hr) (pv 0) pe_str (fun _ _ => rfl)) (pa_cons (pv 1) pa_nil)))))) pss_nil)
  (pss_cons (ps_dput (hu_of hr) (pv 0) pe_str (pe_op op_sub (pe_dget (hu_of hr) (pv 0) pe_str (fun _ _ => rfl)) pe_int) rfl)
  (pss_cons (ps_if (pt_val (pe_dget (hu_of hr) (pv 0) pe_str (fun _ _ => rfl))) (pss_one (ps_ret (pe_call (ok__law_mixed T) (hr.mono (by decide)) (by rfl) T.d__law_mixed.g T.d__law_mixed.F.kp T.d__law_mixed.b .nil pass0 (pa_cons (pe_dget (hu_of hr) (pv 0) pe_str (fun _ _ => rfl)) (pa_cons (pe_dget (hu_of hr) (pv 0) pe_str (fun _ _ => rfl)) (pa_cons (pv 1) pa_nil)))))) pss_nil)
  (pss_cons (ps_set (i := 2) sc__law_take.nd rfl (Or.inl rfl) (pe_op op_mod (pe_callTy call_intQ (by rfl) T.n_int (by decide +kernel) (pa_cons (pe_dget (hu_of hr) (pv 0) pe_str (fun _ _ => rfl)) pa_nil)) (pv 1)))
  (pss_cons (ps_dput (hu_of hr) (pv 0) pe_str (pe_op op_fdiv (pe_dget (hu_of hr) (pv 0) pe_str (fun _ _ => rfl)) (pv 1)) rfl)
  (pss_cons (ps_if (pt_cmpR op_eq (pe_dget (hu_of hr) (pv 0) pe_str (fun _ _ => rfl)) pe_int (nomark _)) (pss_one (ps_dput (hu_of hr) (pv 0) pe_str pe_int rfl)) pss_nil)
  (pss_one (ps_ret (pv 2)))))))))))

theorem ok__law_take (T : Tx K mg) : FnOk P w K mg base CX0 2 T.d__law_take.f T.d__law_take.fd ["_law_pool_here", "_law_many"] (sp__law_take K ws) :=
  okP T.d__law_take.F sc__law_take (t__law_take K) len__law_take rd__law_take (fun cdv A outer s H E hr => dv__law_take T cdv A outer s H E hr)

end
end Gb

set_option maxHeartbeats 1000000
namespace Gb
open PySem L2
local macro_rules | `(tactic| walk_at "wk") => `(tactic| (repeat' (first | exact trivial | exact Or.inl rfl | exact Or.inr rfl | apply And.intro)))
/-! ### words -/
def lets (z : Str) : Prop := ∀ c ∈ z.cps.toList, c ∈ letters.cps.toList
theorem word_mk {z : Str} (h1 : 1 ≤ z.length) (h2 : z.length ≤ 8) (h3 : lets z) : wordOk z = true := by
  unfold wordOk
  rw [Bool.and_eq_true, Bool.and_eq_true, List.all_eq_true]
  exact ⟨⟨decide_eq_true h1, decide_eq_true h2⟩, fun c hc => decide_eq_true (h3 c hc)⟩
theorem word_un {z : Str} (h : wordOk z = true) : 1 ≤ z.length ∧ z.length ≤ 8 ∧ lets z := by
  unfold wordOk at h
  rw [Bool.and_eq_true, Bool.and_eq_true, List.all_eq_true, decide_eq_true_eq, decide_eq_true_eq] at h
  exact ⟨h.1.1, h.1.2, fun c hc => of_decide_eq_true (h.2 c hc)⟩
theorem lets_app {a b : Str} (ha : lets a) (hb : lets b) : lets (a ++ b) := fun c hc => by
  rw [Str.cps_append, Array.toList_append] at hc
  rcases List.mem_append.mp hc with h | h
  · exact ha c h
  · exact hb c h
theorem lets_one {c : Nat} (h : c ∈ letters.cps.toList) : lets ⟨#[c]⟩ := fun x hx => by
  have : x = c := by simpa using hx
  rw [this]; exact h
theorem lets_cut {z : Str} {lo hi : Option Int} (h : lets z) : lets (cutS z lo hi) := fun c hc => by
  unfold cutS at hc
  have hc' : c ∈ (z.cps.toList.drop (HT.sIx z.length 0 lo)).take (HT.sIx z.length z.length hi - HT.sIx z.length 0 lo) := by simpa using hc
  exact h c (List.mem_of_mem_drop (List.mem_of_mem_take hc'))
theorem cut_len (z : Str) (lo hi : Option Int) : (cutS z lo hi).length = min (HT.sIx z.length z.length hi - HT.sIx z.length 0 lo) (z.length - HT.sIx z.length 0 lo) := by
  show (cutS z lo hi).cps.size = _
  unfold cutS
  simp [Str.length]
theorem cut_to {z : Str} {k : Nat} (h : k ≤ z.length) : (cutS z none (some (k : Int))).length = k := by
  rw [cut_len, HT.sIx_nat, HT.sIx_none]
  omega
theorem cut_from {z : Str} {k : Nat} (h : k ≤ z.length) : (cutS z (some (k : Int)) none).length = z.length - k := by
  rw [cut_len, HT.sIx_nat, HT.sIx_none]
  omega
theorem cut_8 (z : Str) : (cutS z none (some 8)).length = min 8 z.length := by
  have e : (some (8 : Int)) = some ((8 : Nat) : Int) := rfl
  rw [cut_len, e, HT.sIx_nat, HT.sIx_none]
  omega
theorem join_lets : ∀ ys : List Str, (∀ y ∈ ys, ∃ c, y = ⟨#[c]⟩ ∧ c ∈ letters.cps.toList) → (Str.join "" ys).length = ys.length ∧ lets (Str.join "" ys)
  | [], _ => ⟨rfl, fun c hc => by simp [Str.join, Str.empty] at hc⟩
  | [y], h => by
    obtain ⟨c, rfl, hc⟩ := h y List.mem_cons_self
    exact ⟨rfl, lets_one hc⟩
  | y :: z :: r, h => by
    obtain ⟨c, rfl, hc⟩ := h y List.mem_cons_self
    obtain ⟨h1, h2⟩ := join_lets (z :: r) fun y hy => h y (List.mem_cons_of_mem _ hy)
    have e : Str.join "" (⟨#[c]⟩ :: z :: r) = ⟨#[c]⟩ ++ "" ++ Str.join "" (z :: r) := rfl
    rw [e]
    have e0 : ("" : Str).cps.toList = [] := by decide +kernel
    refine ⟨?_, lets_app (lets_app (lets_one hc) (fun c hc => by rw [e0] at hc; cases hc)) h2⟩
    rw [Str.length_append, Str.length_append, h1]
    show 1 + 0 + _ = _
    rw [List.length_cons, List.length_cons, List.length_cons]
    omega
section
variable {K : PySem.W.Frag} {p : Addr} {ws : Option (List Str)} {σ : L2.St} {F H H0 F0 : Hp} {ρ : List Sv} {te to : TE} {R R1 : PyData → Prop} {i : Nat} {D : Ends}
theorem sd_str {z : Str} {lo hi : Option Int} (h : z.length ≤ 1000) : SlD K rSlS (.str z) lo hi (.str (cutS z lo hi)) := fun F H v x h1 Q q => by
  cases h1
  exact ⟨z, rfl, Nat.le_trans h (by decide), q _ H F (Gr.refl x) (.str _)⟩
theorem od_ixS {z : Str} {n : Int} {j c : Nat} (e : n = (j : Int)) (h : z.cps.toList[j]? = some c) (hl : z.length ≤ 1000) : OpD K (rIx K) (.str z) (.int n) (.str ⟨#[c]⟩) := fun F H v w x h1 h2 Q q => by
  cases h1; cases h2
  exact .inr (.inr ⟨z, n, c, rfl, rfl, Nat.le_trans hl (by decide), by rw [e]; exact atI_nat h, q _ H F (Gr.refl x) (.str _)⟩)
/-- if .. : ..; what comes behind is told once, over any slots -/
theorem st_ifS {tc : TT} {t1 t2 : TS} (J : L2.St → Hp → Prop) (rest : ∀ σ' H', J σ' H' → t2 D σ' H') (k : (∀ σ' H', J σ' H' → t2 D σ' H') → tIfS tc t1 tNext { D with nx := t2 D } σ H) : tSeq (tIfS tc t1 tNext) t2 D σ H := k rest
/-- sep.join(list of texts) -/
abbrev tJoin (K : PySem.W.Frag) (to te : TE) : TE := tM1 (fun x xs H Q => ∃ a p, ∃ ys : List Str, x = .str a ∧ xs = [.ref p] ∧ (SqL K H p (ys.map V.str) ∨ SqT K H p (ys.map V.str)) ∧ (ys.map (·.length)).sum + ys.length * a.length ≤ 16777216 ∧ Q (.str (Txt.join a ys)) H) to te
theorem ep_join {sep : Str} (h : Ep K p ws te σ F H R1) (hr : ∀ d, R1 d → ∃ ys : List Str, d = .list (ys.map PyData.str) ∧ (ys.map (·.length)).sum + ys.length * sep.length ≤ 16777216 ∧ R (.str (Txt.join sep ys))) : Ep K p ws (tJoin K (tC (.str sep)) te) σ F H R := fun F1 H1 g po Q q =>
  ⟨⟨sep, rfl⟩, h F1 H1 g po _ fun v d H2 F2 g2 po2 r p2 => by
    obtain ⟨ys, rfl, hl, rr⟩ := hr d r
    cases p2 with
    | @lst a xs _ hs ha =>
      have e := DpAll.strs ha
      subst e
      exact ⟨sep, a, ys, rfl, rfl, .inl (sql_ext g2.e hs), hl, q _ _ H2 F2 g2 po2 rr (.str _)⟩⟩
/-- x[:8] of a drawn text -/
theorem ep_sl8 (h : Ep K p ws te σ F H R1) (hr : ∀ d, R1 d → ∃ z : Str, d = .str z ∧ z.length ≤ 1000 ∧ R (.str (cutS z none (some 8)))) : Ep K p ws (tSl rSlS te tNoPart (tPart (tC (.int 8)))) σ F H R := fun F1 H1 g po Q q =>
  h F1 H1 g po _ fun v d H2 F2 g2 po2 r p2 => by
    obtain ⟨z, rfl, hl, rz⟩ := hr d r
    cases p2
    exact ⟨8, rfl, z, rfl, Nat.le_trans hl (by decide), q _ _ H2 F2 g2 po2 rz (.str _)⟩
theorem ep_take {m : Int} {X : XK} (E : Env K F σ ρ) (hi : ρ[i]? = some (.v (.ref p))) (h : Ep K p ws te σ F H (fun x => x = .int m)) (m0 : 0 < m) (m1 : m ≤ 1000) :
    Ep K p ws (tCall (sp__law_take K ws) [] X (tCons (tVar i) (tCons te tNil))) σ F H (fun d => ∃ r : Int, d = .int r ∧ 0 ≤ r ∧ r < m) :=
  ep_callP E hi (epa_cons h epa_nil) (fun ds ⟨d, ds', e, e1, e2⟩ => ⟨m, by rw [e, e1, e2], m0, m1⟩) (fun ds d ⟨d', ds', e, e1, e2⟩ ⟨m', r, e3, e4, h0, h1⟩ => by
    rw [e, e1, e2] at e3
    injection e3 with e3
    injection e3 with e3
    subst e3
    exact ⟨r, e4, h0, h1⟩)
theorem ep_words {wl : List Str} (E : Env K F σ ρ) (hi : ρ[i]? = some (.v (.ref p))) : Ep K p (some wl) (tDGet (tVar i) (tC (.str "words"))) σ F H (fun d => d = .list (wl.map PyData.str)) := fun F1 H1 g po Q q => by
  obtain ⟨c, a, r, l, m, s, t, wd, hp, hc, ha, w, rfl, hw⟩ := id po.h
  exact ed_pget (E.ext g.f) hi hp (gp_words _ _ _ _ _ _ _ _) hw F1 H1 (Gr.refl g.e) Q fun v H2 F2 g2 p2 => q v _ H2 F2 g2.to (po.step g2) rfl p2
end
def goodW (wl : List Str) : Prop := 1 ≤ wl.length ∧ wl.length ≤ 4 ∧ ∀ z ∈ wl, wordOk z = true
def R__law_words (ds : List PyData) (d : PyData) : Prop := ∃ wl, d = .list (wl.map PyData.str) ∧ goodW wl
abbrev sp__law_words (K : PySem.W.Frag) (ws : Option (List Str)) : Sp := spP K none (fun ds => ds = []) R__law_words
section
variable {P : Program} {w : World} {K : PySem.W.Frag} {mg : Str → Option Value} {base : Heap} {ws : Option (List Str)}
theorem letter_at {K : PySem.W.Frag} {r : Int} (h0 : 0 ≤ r) (h1 : r < 26) : ∃ c, OpD K (rIx K) (.str letters) (.int r) (.str ⟨#[c]⟩) ∧ c ∈ letters.cps.toList := by
  have hl : letters.cps.toList.length = 26 := by decide +kernel
  have hr : r.toNat < letters.cps.toList.length := by omega
  exact ⟨letters.cps.toList[r.toNat], od_ixS (j := r.toNat) (by omega) (List.getElem?_eq_getElem hr) (by decide +kernel), List.getElem_mem hr⟩
/-! ### _law_words -/
def t__law_words (K : PySem.W.Frag) : TS :=
  (tSeq (tAsg (tC (.str "abcdefghijklmnopqrstuvwxyz")) (gName 1))
  (tSeq (tAsg (tOp (rIx K) (tLst (tCons (tC (.int 1)) (tCons (tC (.int 1)) (tCons (tC (.int 2)) (tCons (tC (.int 8)) (tCons (tOp rAddI (tC (.int 1)) (tCall (sp__law_take K none) [] E0 (tCons (tVar 0) (tCons (tC (.int 8)) tNil)))) tNil)))))) (tCall (sp__law_take K none) [] E0 (tCons (tVar 0) (tCons (tC (.int 5)) tNil)))) (gName 2))
  (tSeq (tAsg (tJoin K (tC (.str "")) (tLc (iRng1 (tCons (tVar 2) tNil)) (gName 3) tYes (tOp (rIx K) (tVar 1) (tCall (sp__law_take K none) [] E0 (tCons (tVar 0) (tCons (tC (.int 26)) tNil)))) [3])) (gName 4))
  (tSeq (tAsg (tLst (tCons (tVar 4) tNil)) (gName 5))
  (tSeq (tFor (iRng1 (tCons (tCall (sp__law_take K none) [] E0 (tCons (tVar 0) (tCons (tC (.int 4)) tNil))) tNil)) (gName 3)
    (tSeq (tAsg (tCall (sp__law_take K none) [] E0 (tCons (tVar 0) (tCons (tVar 2) tNil))) (gName 6))
  (tSeq (tAsg (tOp rAddS (tOp rAddS (tSl rSlS (tVar 4) tNoPart (tPart (tVar 6))) (tOp (rIx K) (tVar 1) (tCall (sp__law_take K none) [] E0 (tCons (tVar 0) (tCons (tC (.int 26)) tNil))))) (tSl rSlS (tVar 4) (tPart (tOp rAddI (tVar 6) (tC (.int 1)))) tNoPart)) (gName 7))
  (tSeq (tIfS (tTest (tOp rEq (tCall (sp__law_take K none) [] E0 (tCons (tVar 0) (tCons (tC (.int 4)) tNil))) (tC (.int 0)))) (tAsg (tSl rSlS (tOp rAddS (tOp rAddS (tSl rSlS (tVar 4) tNoPart (tPart (tVar 6))) (tOp (rIx K) (tVar 1) (tCall (sp__law_take K none) [] E0 (tCons (tVar 0) (tCons (tC (.int 26)) tNil))))) (tVar 4)) tNoPart (tPart (tC (.int 8)))) (gName 7)) tNext)
  (tDrop (tBM K "list" rAppend (tVar 5) (tCons (tVar 7) tNil)))))))
  (tRet (tVar 5)))))))

theorem rd__law_words : KeepsP K N__law_words none (fun ds => ds = []) R__law_words (t__law_words K) := by
  intro H F p vs ds Q x po hd hpre q
  subst hpre
  have E := envP_start (p := p) (N := N__law_words) hd
  have hp := po.at
  have S0 : Cp K p none H F F H := ⟨Gr.refl x, po⟩
  refine st_seq (p_set S0 E (ep_cS (z := letters)) fun v d H1 F1 S1 g1 r1 pd1 E1 => ?_)
  subst r1
  refine st_seq (p_set S1 E1 (R := fun d => ∃ n : Nat, d = .int (n : Int) ∧ 1 ≤ n ∧ n ≤ 8) (ep_op (Ra := fun d => ∃ r : Int, d = .list [.int 1, .int 1, .int 2, .int 8, .int (1 + r)] ∧ 0 ≤ r ∧ r < 8) (ep_lst (epa_cons ep_cI (epa_cons ep_cI (epa_cons ep_cI (epa_cons ep_cI (epa_cons (ep_op (R := fun d => ∃ r : Int, d = .int (1 + r) ∧ 0 ≤ r ∧ r < 8) ep_cI (ep_take E1 rfl ep_cI (by decide) (by decide)) fun d1 d2 r1 r2 => by
      obtain ⟨r, rfl, h0, h1⟩ := r2
      subst r1
      exact ⟨_, od_add, r, rfl, h0, h1⟩) epa_nil))))) fun ds h => by
      obtain ⟨d1, ds1, rfl, rfl, d2, ds2, rfl, rfl, d3, ds3, rfl, rfl, d4, ds4, rfl, rfl, d5, ds5, rfl, ⟨r, rfl, h0, h1⟩, rfl⟩ := h
      exact ⟨by show 5 ≤ 1000; omega, r, rfl, h0, h1⟩) (ep_take E1 rfl ep_cI (by decide) (by decide)) fun d1 d2 r1 r2 => by
    obtain ⟨r, rfl, h0, h1⟩ := r1
    obtain ⟨k, rfl, k0, k1⟩ := r2
    obtain ⟨r', rfl⟩ : ∃ r' : Nat, r = (r' : Int) := ⟨r.toNat, by omega⟩
    obtain ⟨k', rfl⟩ : ∃ k' : Nat, k = (k' : Int) := ⟨k.toNat, by omega⟩
    match k', k1 with
    | 0, _ => exact ⟨_, od_ixL (j := 0) rfl rfl, 1, rfl, by omega, by omega⟩
    | 1, _ => exact ⟨_, od_ixL (j := 1) rfl rfl, 1, rfl, by omega, by omega⟩
    | 2, _ => exact ⟨_, od_ixL (j := 2) rfl rfl, 2, rfl, by omega, by omega⟩
    | 3, _ => exact ⟨_, od_ixL (j := 3) rfl rfl, 8, rfl, by omega, by omega⟩
    | 4, _ => exact ⟨_, od_ixL (j := 4) rfl rfl, 1 + r', by rw [Int.natCast_add]; rfl, by omega, by omega⟩
    | k + 5, h => omega) fun v d H2 F2 S2 g2 r2 pd2 E2 => ?_)
  obtain ⟨n, rfl, n1, n8⟩ := r2
  refine st_seq (p_set S2 E2 (R := fun d => ∃ z : Str, d = .str z ∧ z.length = n ∧ lets z) (ep_join (R1 := fun d => ∃ ds : List PyData, d = .list ds ∧ ds.length = n ∧ ∀ x ∈ ds, ∃ c, x = .str ⟨#[c]⟩ ∧ c ∈ letters.cps.toList) (ep_lcR (RN := fun m => m = (n : Int)) (RI := fun x => ∃ c, x = .str ⟨#[c]⟩ ∧ c ∈ letters.cps.toList) (ep_var E2 rfl) (fun d h => ⟨n, h, by omega, rfl⟩) (fun i F1 H1 g => by
      have E3 := Env.set (o := some (V.int (i : Int))) 3 (s := .d (.int (i : Int))) (env_wipe (E2.ext g.f) [3]) ⟨_, rfl, .int _⟩
      refine ep_op (ep_var E3 rfl) (ep_take E3 rfl ep_cI (by decide) (by decide)) fun d1 d2 r1 r2 => ?_
      obtain ⟨r, rfl, h0, h1⟩ := r2
      subst r1
      obtain ⟨c, hc, hm⟩ := letter_at (K := K) h0 h1
      exact ⟨_, hc, c, rfl, hm⟩) (fun m ds hm hl hr => ⟨ds, rfl, by omega, hr⟩)) fun d h => by
    obtain ⟨ds, rfl, hl, hr⟩ := h
    obtain ⟨ys, rfl, hys⟩ : ∃ ys : List Str, ds = ys.map PyData.str ∧ ∀ y ∈ ys, ∃ c, y = ⟨#[c]⟩ ∧ c ∈ letters.cps.toList := by
      clear hl
      induction ds with
      | nil => exact ⟨[], rfl, fun _ h => nomatch h⟩
      | cons d ds ih =>
        obtain ⟨ys, rfl, h⟩ := ih fun x hx => hr x (List.mem_cons_of_mem _ hx)
        obtain ⟨c, rfl, hc⟩ := hr d List.mem_cons_self
        refine ⟨⟨#[c]⟩ :: ys, rfl, fun y hy => ?_⟩
        rcases List.mem_cons.mp hy with rfl | hy
        · exact ⟨c, rfl, hc⟩
        · exact h y hy
    rw [List.length_map] at hl
    obtain ⟨j1, j2⟩ := join_lets ys hys
    have hsum : (ys.map (·.length)).sum = ys.length := by
      clear hl j1 j2 hr
      induction ys with
      | nil => rfl
      | cons y ys ih =>
        obtain ⟨c, rfl, _⟩ := hys y List.mem_cons_self
        rw [List.map_cons, List.sum_cons, ih fun y hy => hys y (List.mem_cons_of_mem _ hy), List.length_cons]
        show 1 + _ = _
        omega
    have e : Txt.join "" ys = Str.join "" ys := StrLaws.glued_eq_join "" ys
    refine ⟨ys, rfl, ?_, _, rfl, by rw [e, j1, hl], by rw [e]; exact j2⟩
    rw [hsum, hl]
    show n + ys.length * 0 ≤ _
    omega) fun v d H3 F3 S3 g3 r3 pd3 E3 => ?_)
  obtain ⟨z, rfl, hz, hzl⟩ := r3
  -- the list of words
  have mk : ∀ (D : Ends) (k : ∀ l H4, Cp K p none H F F3 H4 → Ml K H l [.str z] F3 H4 → Env K F3 _ _ → D.nx _ H4), tAsg (tLst (tCons (tVar 4) tNil)) (gName 5) D _ H3 := fun D k => by
    obtain ⟨vz, hv, pz⟩ := E3.data (i := 4) rfl
    refine ⟨vz, hv, by show 1 ≤ sizeLine; decide, fun l hl => ?_⟩
    have gl : Gr no H3 F3 (upd H3 l (.lst [vz])) F3 := Gr.newM S3.g.e hl
    have hl0 : H l = none := by
      cases e : H l with
      | none => rfl
      | some o => exact absurd hl (S3.g.t l (by rw [e]; simp))
    exact k l _ (S3.step gl) ⟨hl0, S3.g.e.none_of hl, [vz], upd_same, .cons pz .nil⟩ (Env.set 5 (s := .v (.ref l)) E3 rfl)
  refine st_seq (mk _ fun l H4 S4 M4 E4 => ?_)
  dsimp only
  have wz : wordOk z = true := word_mk (by omega) (by omega) hzl
  refine st_seq (p_for1 S4 (ep_take E4 rfl ep_cI (by decide) (by decide)) (RN := fun n => n < 4) (fun d h => by obtain ⟨r, rfl, h0, h1⟩ := h; exact ⟨r, rfl, h0, by omega, h1⟩) fun m H5 F5 hm S5 g5 => ⟨fun i σ' H' => ∃ F' zs, Cp K p none H F F' H' ∧
    Env K F' σ' [.v (.ref p), .d (.str letters), .d (.int (n : Int)), .un, .d (.str z), .v (.ref l), .un, .un] ∧ Ml K H l ((zs : List Str).map PyData.str) F' H' ∧ zs.length = i + 1 ∧ ∀ y ∈ zs, wordOk y = true, ?_, ?_, ?_⟩)
  · refine ⟨F5, [z], S5, (E4.ext g5.f).weak (by walk_at "wk"), M4.stepP hp g5, rfl, fun y hy => ?_⟩
    rw [List.mem_singleton.mp hy]; exact wz
  · rintro i σ' H' hi ⟨F', zs, S', E', M', hlen, hok⟩
    have E6 := Env.set (o := some (V.int (i : Int))) 3 (s := .d (.int (i : Int))) E' ⟨_, rfl, .int _⟩
    refine st_seq (p_set S' E6 (ep_take E6 rfl (ep_var E6 rfl) (by omega) (by omega)) fun v d H7 F7 S7 g7 r7 pd7 E7 => ?_)
    obtain ⟨a, rfl, a0, a1⟩ := r7
    obtain ⟨a, rfl⟩ : ∃ k : Nat, a = (k : Int) := ⟨a.toNat, by omega⟩
    have M7 := M'.stepP hp g7
    have hz8 : z.length ≤ 1000 := by omega
    -- base[:at] + a letter
    have front : ∀ {σ F H}, Env K F σ [.v (.ref p), .d (.str letters), .d (.int (n : Int)), .d (.int (i : Int)), .d (.str z), .v (.ref l), .d (.int (a : Int)), .un] ∨ (∃ s, Env K F σ [.v (.ref p), .d (.str letters), .d (.int (n : Int)), .d (.int (i : Int)), .d (.str z), .v (.ref l), .d (.int (a : Int)), s]) →
        Ep K p none (tOp rAddS (tSl rSlS (tVar 4) tNoPart (tPart (tVar 6))) (tOp (rIx K) (tVar 1) (tCall (sp__law_take K none) [] E0 (tCons (tVar 0) (tCons (tC (.int 26)) tNil))))) σ F H (fun d => ∃ y : Str, d = .str y ∧ y.length = a + 1 ∧ lets y) := fun {σ F H} hE => by
      obtain ⟨s, E⟩ : ∃ s, Env K F σ [.v (.ref p), .d (.str letters), .d (.int (n : Int)), .d (.int (i : Int)), .d (.str z), .v (.ref l), .d (.int (a : Int)), s] := hE.elim (fun h => ⟨_, h⟩) id
      refine ep_op (ep_ed (fun F1 H1 e _ => ed_sl (ed_var (E.ext e) rfl) edo_none (edo_some (ed_var (E.ext e) rfl)) (sd_str hz8)) (rfl : (fun d => d = PyData.str (cutS z none (some (a : Int)))) _)) (ep_op (R := fun d => ∃ c, d = .str ⟨#[c]⟩ ∧ c ∈ letters.cps.toList) (ep_var E rfl) (ep_take E rfl ep_cI (by decide) (by decide)) fun d1 d2 r1 r2 => ?_) fun d1 d2 r1 r2 => ?_
      · obtain ⟨r, rfl, h0, h1⟩ := r2
        subst r1
        obtain ⟨c, hc, hm⟩ := letter_at (K := K) h0 h1
        exact ⟨_, hc, c, rfl, hm⟩
      · obtain ⟨c, rfl, hc⟩ := r2
        subst r1
        have l1 := cut_to (z := z) (k := a) (by omega)
        have l2 : (⟨#[c]⟩ : Str).length = 1 := rfl
        refine ⟨_, od_addS (by rw [l1, l2]; omega), _, rfl, by rw [Str.length_append, l1, l2], lets_app (lets_cut hzl) (lets_one hc)⟩
    refine st_seq (p_set S7 E7 (R := fun d => ∃ y : Str, d = .str y ∧ wordOk y = true) (ep_op (front (.inl E7)) (ep_ed (fun F1 H1 e _ => ed_sl (ed_var (E7.ext e) rfl) (edo_some (ed_op (ed_var (E7.ext e) rfl) (ed_cI (K := K)) od_add)) edo_none (sd_str hz8)) (rfl : (fun d => d = PyData.str (cutS z (some ((a : Int) + 1)) none)) _)) fun d1 d2 r1 r2 => by
        obtain ⟨y, rfl, hy, hyl⟩ := r1
        subst r2
        have l1 : (cutS z (some ((a : Int) + 1)) none).length = z.length - (a + 1) := cut_from (z := z) (k := a + 1) (by omega)
        exact ⟨_, od_addS (by rw [l1]; omega), _, rfl, word_mk (by rw [Str.length_append, l1]; omega) (by rw [Str.length_append, l1]; omega) (lets_app hyl (lets_cut hzl))⟩) fun v d H8 F8 S8 g8 r8 pd8 E8 => ?_)
    obtain ⟨y, rfl, hy⟩ := r8
    have M8 := M7.stepP hp g8
    dsimp only
    refine st_ifS (fun σ' H' => ∃ F' y, Cp K p none H F F' H' ∧ Env K F' σ' [.v (.ref p), .d (.str letters), .d (.int (n : Int)), .d (.int (i : Int)), .d (.str z), .v (.ref l), .d (.int (a : Int)), .d (.str y)] ∧ Ml K H l ((zs : List Str).map PyData.str) F' H' ∧ wordOk y = true)
      (fun σ' H' ⟨F', y, S', E', M', hy⟩ => ?_) (fun rest => ?_)
    · refine p_app S' hp M' E' rfl (ep_var E' rfl) (by rw [List.length_map]; omega) fun d H9 F9 S9 e9 rd M9 => ?_
      subst rd
      refine ⟨F9, zs ++ [y], S9, (E'.ext e9).weak (by walk_at "wk"), by rw [List.map_append]; exact M9, by rw [List.length_append, hlen]; rfl, fun x hx => ?_⟩
      rcases List.mem_append.mp hx with hx | hx
      · exact hok x hx
      · rw [List.mem_singleton.mp hx]; exact hy
    · refine p_if (RB := fun _ => True) S8 (ept_test (R := fun d => ∃ b, d = .bool b) (ep_op (ep_take E8 rfl ep_cI (by decide) (by decide)) ep_cI fun d1 d2 r1 r2 => by
          obtain ⟨r, rfl, h0, h1⟩ := r1
          subst r2
          exact ⟨_, od_eqI, _, rfl⟩) (fun d h => by obtain ⟨b, rfl⟩ := h; exact ⟨b, rfl, trivial⟩)) (fun _ H9 F9 S9 g9 => ?_) (fun _ H9 F9 S9 g9 => ?_)
      · have E9 := E8.ext g9.f
        refine p_set S9 E9 (R := fun d => ∃ y : Str, d = .str y ∧ wordOk y = true) (ep_sl8 (ep_op (R := fun d => ∃ y : Str, d = .str y ∧ 1 ≤ y.length ∧ y.length ≤ 1000 ∧ lets y) (front (.inr ⟨_, E9⟩)) (ep_var E9 rfl) fun d1 d2 r1 r2 => by
          obtain ⟨y, rfl, hy, hyl⟩ := r1
          subst r2
          exact ⟨_, od_addS (by omega), _, rfl, by rw [Str.length_append]; omega, by rw [Str.length_append]; omega, lets_app hyl hzl⟩) (fun d h => by
          obtain ⟨y, rfl, h1, h2, h3⟩ := h
          exact ⟨y, rfl, h2, _, rfl, word_mk (by rw [cut_8]; omega) (by rw [cut_8]; omega) (lets_cut h3)⟩)) fun v d H10 F10 S10 g10 r10 pd10 E10 => ?_
        obtain ⟨y', rfl, hy'⟩ := r10
        exact rest _ _ ⟨F10, y', S10, E10, (M8.stepP hp g9).stepP hp g10, hy'⟩
      · exact rest _ _ ⟨F9, y, S9, E8.ext g9.f, M8.stepP hp g9, hy⟩
  · rintro σ' H' ⟨F', zs, S', E', M', hlen, hok⟩
    dsimp only
    obtain ⟨F2, e2, S2, pl⟩ := p_last S' hp M'
    exact p_retE S2 (ed_of (er_var (E'.ext e2) rfl) pl) ⟨zs, rfl, by omega, by omega, hok⟩ q
theorem len__law_words (ds : List PyData) (h : ds = []) : ds.length + 1 = 1 := by rw [h]; rfl
theorem dv__law_words (T : Tx K mg) (cdv : Value) (A : Around) (outer : List PySem.Env) (s : Shared) (H : Hp) (E : XK) (hr : Room 2 (A.deeper (PyProof.Rows.envOfC "_law_words" (defScope s__law_words) s.heap.objs.size T.d__law_words.f cdv))) :
    PSs (cxOf CX0 P w K mg base N__law_words "_law_words" (defScope s__law_words) T.d__law_words.f cdv A outer s H E).nox (defBody s__law_words) (t__law_words K) := by
  exact (pss_cons (ps_set (i := 1) sc__law_words.nd rfl (Or.inr rfl) pe_str)
  (pss_cons (ps_set (i := 2) sc__law_words.nd rfl (Or.inl rfl) (pe_ix ix_seq (pe_lst (pa_cons pe_int (pa_cons pe_int (pa_cons pe_int (pa_cons pe_int (pa_cons (pe_op op_add pe_int (pe_call (ok__law_take T) (hr.mono (by decide)) (by rfl) T.d__law_take.g T.d__law_take.F.kp T.d__law_take.b .nil pass0 (pa_cons (pv 0) (pa_cons pe_int pa_nil)))) pa_nil)))))) (pe_call (ok__law_take T) (hr.mono (by decide)) (by rfl) T.d__law_take.g T.d__law_take.F.kp T.d__law_take.b .nil pass0 (pa_cons (pv 0) (pa_cons pe_int pa_nil))) (fun _ _ => rfl)))
  (pss_cons (ps_set (i := 4) sc__law_words.nd rfl (Or.inl rfl) (pe_join pe_str (pe_lc (own := [("_law_k", 3)]) (g := gName 3) (tt := tYes) rfl sc__law_words.nd (pi_range1 (by rfl) T.n_range (pa_cons (pv 2) pa_nil)) (blkOk_by (own := [("_law_k", 3)]) (N := N__law_words) (sc := defScope s__law_words) (by decide +kernel)) (fun _ _ _ _ _ => pg_name (i := 3) sc__law_words.nd rfl (Or.inl rfl)) (fun _ _ _ _ _ => pts_nil) (fun _ _ _ _ _ => (pe_ix ix_seq (pv 1) (pe_call (ok__law_take T) (hr.mono (by decide)) (by rfl) T.d__law_take.g T.d__law_take.F.kp T.d__law_take.b .nil pass0 (pa_cons (pv 0) (pa_cons pe_int pa_nil))) (fun _ _ => rfl))))))
  (pss_cons (ps_set (i := 5) sc__law_words.nd rfl (Or.inl rfl) (pe_lst (pa_cons (pv 4) pa_nil)))
  (pss_cons (ps_for PassesOwn.never rfl (pi_range1 (by rfl) T.n_range (pa_cons (pe_call (ok__law_take T) (hr.mono (by decide)) (by rfl) T.d__law_take.g T.d__law_take.F.kp T.d__law_take.b .nil pass0 (pa_cons (pv 0) (pa_cons pe_int pa_nil))) pa_nil)) (pg_name (i := 3) sc__law_words.nd rfl (Or.inl rfl))
    (pss_cons (ps_set (i := 6) sc__law_words.nd rfl (Or.inl rfl) (pe_call (ok__law_take T) (hr.mono (by decide)) (by rfl) T.d__law_take.g T.d__law_take.F.kp T.d__law_take.b .nil pass0 (pa_cons (pv 0) (pa_cons (pv 2) pa_nil))))
  (pss_cons (ps_set (i := 7) sc__law_words.nd rfl (Or.inl rfl) (pe_op op_addSQ (pe_op op_addSQ (pe_slice sl_strQ (pv 4) po_none (po_some (pv 6))) (pe_ix ix_seq (pv 1) (pe_call (ok__law_take T) (hr.mono (by decide)) (by rfl) T.d__law_take.g T.d__law_take.F.kp T.d__law_take.b .nil pass0 (pa_cons (pv 0) (pa_cons pe_int pa_nil))) (fun _ _ => rfl))) (pe_slice sl_strQ (pv 4) (po_some (pe_op op_add (pv 6) pe_int)) po_none)))
  (pss_cons (ps_if (pt_cmpR op_eq (pe_call (ok__law_take T) (hr.mono (by decide)) (by rfl) T.d__law_take.g T.d__law_take.F.kp T.d__law_take.b .nil pass0 (pa_cons (pv 0) (pa_cons pe_int pa_nil))) pe_int (nomark _)) (pss_one (ps_set (i := 7) sc__law_words.nd rfl (Or.inl rfl) (pe_slice sl_strQ (pe_op op_addSQ (pe_op op_addSQ (pe_slice sl_strQ (pv 4) po_none (po_some (pv 6))) (pe_ix ix_seq (pv 1) (pe_call (ok__law_take T) (hr.mono (by decide)) (by rfl) T.d__law_take.g T.d__law_take.F.kp T.d__law_take.b .nil pass0 (pa_cons (pv 0) (pa_cons pe_int pa_nil))) (fun _ _ => rfl))) (pv 4)) po_none (po_some pe_int)))) pss_nil)
  (pss_one (ps_expr (pe_bm PySem.F.plainAttrs_list PySem.F.slot_list_append PySem.F.type_list_append mt_append (pv 5) (pa_cons (pv 7) pa_nil))))))))
  (pss_one (ps_ret (pv 5))))))))

theorem ok__law_words (T : Tx K mg) : FnOk P w K mg base CX0 3 T.d__law_words.f T.d__law_words.fd ["_law_pool_here"] (sp__law_words K ws) :=
  okP T.d__law_words.F sc__law_words (t__law_words K) len__law_words rd__law_words (fun cdv A outer s H E hr => dv__law_words T cdv A outer s H E hr)

end
/-! ### a word, a price -/
def R__law_word (wl : List Str) (ds : List PyData) (d : PyData) : Prop := ∃ z, d = .str z ∧ z ∈ wl
abbrev sp__law_word (K : PySem.W.Frag) (wl : List Str) : Sp := spP K (some wl) (fun ds => ds = [] ∧ goodW wl) (R__law_word wl)
def R__law_price (ds : List PyData) (d : PyData) : Prop := ∃ r : Int, d = .int r ∧ 0 ≤ r ∧ r ≤ 999
abbrev sp__law_price (K : PySem.W.Frag) (wl : List Str) : Sp := spP K (some wl) (fun ds => ds = []) R__law_price
section
variable {P : Program} {w : World} {K : PySem.W.Frag} {mg : Str → Option Value} {base : Heap} {wl : List Str}
/-! ### _law_word -/
def t__law_word (wl : List Str) (K : PySem.W.Frag) : TS :=
  (tRet (tOp (rIx K) (tDGet (tVar 0) (tC (.str "words"))) (tCall (sp__law_take K (some wl)) [] E0 (tCons (tVar 0) (tCons (tCB (rLenQ K) (tCons (tDGet (tVar 0) (tC (.str "words"))) tNil)) tNil)))))

theorem rd__law_word : KeepsP K N__law_word (some wl) (fun ds => ds = [] ∧ goodW wl) (R__law_word wl) (t__law_word wl K) := by
  intro H F p vs ds Q x po hd hpre q
  obtain ⟨rfl, hg⟩ := hpre
  have E := envP_start (p := p) (N := N__law_word) hd
  have S0 : Cp K p (some wl) H F F H := ⟨Gr.refl x, po⟩
  have hlen : CbD K (rLenQ K) [.list (wl.map PyData.str)] (.int (wl.length : Int)) := by
    have h := cd_lenL (K := K) (ds := wl.map PyData.str)
    rw [List.length_map] at h
    exact h
  refine p_ret S0 (ep_op (ep_words E rfl) (ep_take (m := (wl.length : Int)) E rfl (ep_cb (epa_cons (ep_words E rfl) epa_nil) fun ds h => ?_) (by have := hg.1; omega) (by have := hg.2.1; omega)) fun d1 d2 r1 r2 => ?_) q
  · obtain ⟨d, ds', rfl, rfl, rfl⟩ := h
    exact ⟨_, hlen, rfl⟩
  · obtain ⟨r, rfl, h0, h1⟩ := r2
    subst r1
    have hr : r.toNat < wl.length := by omega
    exact ⟨_, od_ixL (j := r.toNat) (by omega) (by rw [List.getElem?_map, List.getElem?_eq_getElem hr]; rfl), _, rfl, List.getElem_mem hr⟩
theorem len__law_word (ds : List PyData) (h : ds = [] ∧ goodW wl) : ds.length + 1 = 1 := by rw [h.1]; rfl
theorem dv__law_word {wl : List Str} (T : Tx K mg) (cdv : Value) (A : Around) (outer : List PySem.Env) (s : Shared) (H : Hp) (E : XK) (hr : Room 2 (A.deeper (PyProof.Rows.envOfC "_law_word" (defScope s__law_word) s.heap.objs.size T.d__law_word.f cdv))) :
    PSs (cxOf CX0 P w K mg base N__law_word "_law_word" (defScope s__law_word) T.d__law_word.f cdv A outer s H E).nox (defBody s__law_word) (t__law_word wl K) := by
  exact (pss_one (ps_ret (pe_ix ix_seq (pe_dget (hu_of hr) (pv 0) pe_str (fun _ _ => rfl)) (pe_call (ok__law_take T) (hr.mono (by decide)) (by rfl) T.d__law_take.g T.d__law_take.F.kp T.d__law_take.b .nil pass0 (pa_cons (pv 0) (pa_cons (pe_callB call_lenQ (by rfl) T.n_len (by decide +kernel) (pa_cons (pe_dget (hu_of hr) (pv 0) pe_str (fun _ _ => rfl)) pa_nil)) pa_nil))) (fun _ _ => rfl))))

theorem ok__law_word (T : Tx K mg) : FnOk P w K mg base CX0 3 T.d__law_word.f T.d__law_word.fd ["_law_pool_here"] (sp__law_word K wl) :=
  okP T.d__law_word.F sc__law_word (t__law_word wl K) len__law_word rd__law_word (fun cdv A outer s H E hr => dv__law_word T cdv A outer s H E hr)

/-! ### _law_price -/
def t__law_price (wl : List Str) (K : PySem.W.Frag) : TS :=
  (tRet (tOp (rIx K) (tLst (tCons (tC (.int 0)) (tCons (tC (.int 1)) (tCons (tC (.int 1)) (tCons (tC (.int 2)) (tCons (tC (.int 3)) (tCons (tC (.int 999)) (tCons (tCall (sp__law_take K (some wl)) [] E0 (tCons (tVar 0) (tCons (tC (.int 10)) tNil))) (tCons (tCall (sp__law_take K (some wl)) [] E0 (tCons (tVar 0) (tCons (tC (.int 1000)) tNil))) tNil))))))))) (tCall (sp__law_take K (some wl)) [] E0 (tCons (tVar 0) (tCons (tC (.int 8)) tNil)))))

theorem rd__law_price : KeepsP K N__law_price (some wl) (fun ds => ds = []) R__law_price (t__law_price wl K) := by
  intro H F p vs ds Q x po hd hpre q
  subst hpre
  have E := envP_start (p := p) (N := N__law_price) hd
  have S0 : Cp K p (some wl) H F F H := ⟨Gr.refl x, po⟩
  refine p_ret S0 (ep_op (Ra := fun d => ∃ r s : Int, d = .list [.int 0, .int 1, .int 1, .int 2, .int 3, .int 999, .int r, .int s] ∧ (0 ≤ r ∧ r < 10) ∧ 0 ≤ s ∧ s < 1000) (ep_lst (epa_cons ep_cI (epa_cons ep_cI (epa_cons ep_cI (epa_cons ep_cI (epa_cons ep_cI (epa_cons ep_cI (epa_cons (ep_take E rfl ep_cI (by decide) (by decide)) (epa_cons (ep_take E rfl ep_cI (by decide) (by decide)) epa_nil)))))))) fun ds h => ?_) (ep_take E rfl ep_cI (by decide) (by decide)) fun d1 d2 r1 r2 => ?_) q
  · obtain ⟨d1, ds1, rfl, rfl, d2, ds2, rfl, rfl, d3, ds3, rfl, rfl, d4, ds4, rfl, rfl, d5, ds5, rfl, rfl, d6, ds6, rfl, rfl, d7, ds7, rfl, ⟨r, rfl, h0, h1⟩, d8, ds8, rfl, ⟨s, rfl, h2, h3⟩, rfl⟩ := h
    exact ⟨by show 8 ≤ 1000; omega, r, s, rfl, ⟨h0, h1⟩, h2, h3⟩
  · obtain ⟨r, s, rfl, ⟨h0, h1⟩, h2, h3⟩ := r1
    obtain ⟨k, rfl, k0, k1⟩ := r2
    obtain ⟨k', rfl⟩ : ∃ k' : Nat, k = (k' : Int) := ⟨k.toNat, by omega⟩
    match k', k1 with
    | 0, _ => exact ⟨_, od_ixL (j := 0) rfl rfl, _, rfl, by omega, by omega⟩
    | 1, _ => exact ⟨_, od_ixL (j := 1) rfl rfl, _, rfl, by omega, by omega⟩
    | 2, _ => exact ⟨_, od_ixL (j := 2) rfl rfl, _, rfl, by omega, by omega⟩
    | 3, _ => exact ⟨_, od_ixL (j := 3) rfl rfl, _, rfl, by omega, by omega⟩
    | 4, _ => exact ⟨_, od_ixL (j := 4) rfl rfl, _, rfl, by omega, by omega⟩
    | 5, _ => exact ⟨_, od_ixL (j := 5) rfl rfl, _, rfl, by omega, by omega⟩
    | 6, _ => exact ⟨_, od_ixL (j := 6) rfl rfl, _, rfl, by omega, by omega⟩
    | 7, _ => exact ⟨_, od_ixL (j := 7) rfl rfl, _, rfl, by omega, by omega⟩
    | k + 8, h => omega
theorem len__law_price (ds : List PyData) (h : ds = []) : ds.length + 1 = 1 := by rw [h]; rfl
theorem dv__law_price {wl : List Str} (T : Tx K mg) (cdv : Value) (A : Around) (outer : List PySem.Env) (s : Shared) (H : Hp) (E : XK) (hr : Room 2 (A.deeper (PyProof.Rows.envOfC "_law_price" (defScope s__law_price) s.heap.objs.size T.d__law_price.f cdv))) :
    PSs (cxOf CX0 P w K mg base N__law_price "_law_price" (defScope s__law_price) T.d__law_price.f cdv A outer s H E).nox (defBody s__law_price) (t__law_price wl K) := by
  exact (pss_one (ps_ret (pe_ix ix_seq (pe_lst (pa_cons pe_int (pa_cons pe_int (pa_cons pe_int (pa_cons pe_int (pa_cons pe_int (pa_cons pe_int (pa_cons (pe_call (ok__law_take T) (hr.mono (by decide)) (by rfl) T.d__law_take.g T.d__law_take.F.kp T.d__law_take.b .nil pass0 (pa_cons (pv 0) (pa_cons pe_int pa_nil))) (pa_cons (pe_call (ok__law_take T) (hr.mono (by decide)) (by rfl) T.d__law_take.g T.d__law_take.F.kp T.d__law_take.b .nil pass0 (pa_cons (pv 0) (pa_cons pe_int pa_nil))) pa_nil))))))))) (pe_call (ok__law_take T) (hr.mono (by decide)) (by rfl) T.d__law_take.g T.d__law_take.F.kp T.d__law_take.b .nil pass0 (pa_cons (pv 0) (pa_cons pe_int pa_nil))) (fun _ _ => rfl))))

theorem ok__law_price (T : Tx K mg) : FnOk P w K mg base CX0 3 T.d__law_price.f T.d__law_price.fd ["_law_pool_here"] (sp__law_price K wl) :=
  okP T.d__law_price.F sc__law_price (t__law_price wl K) len__law_price rd__law_price (fun cdv A outer s H E hr => dv__law_price T cdv A outer s H E hr)

end
end Gb

set_option maxHeartbeats 1000000
namespace Gb
open PySem L2
local macro_rules | `(tactic| walk_at "wk") => `(tactic| (repeat' (first | exact trivial | exact Or.inl rfl | exact Or.inr rfl | apply And.intro)))
/-! ### prices drawn -/
def keyT (t : Str × Str × Int) : Str × Str := (t.1, t.2.1)
def triGood (t : Str × Str × Int) : Prop := wordOk t.1 = true ∧ wordOk t.2.1 = true ∧ t.1 ≠ t.2.1 ∧ 0 ≤ t.2.2 ∧ t.2.2 ≤ 999
theorem goTri_good : ∀ (tab : List (Str × Str × Int)) (seen : List (Str × Str)), (∀ t ∈ tab, triGood t) → (tab.map keyT).Nodup → (∀ t ∈ tab, keyT t ∉ seen) → goTri seen (tab.map triD) = true
  | [], _, _, _, _ => rfl
  | t :: r, seen, hg, hn, hs => by
    obtain ⟨h1, h2, h3, h4, _⟩ := hg t List.mem_cons_self
    have ht : triOk (triD t) = some (keyT t) := by
      show (if (wordOk t.1 && wordOk t.2.1 && decide (0 ≤ t.2.2)) = true then some (t.1, t.2.1) else none) = _
      rw [h1, h2, decide_eq_true h4]
      rfl
    rw [List.map_cons, List.nodup_cons] at hn
    rw [List.map_cons]
    show (match triOk (triD t) with | none => false | some p => if (decide (p.1 = p.2) || decide (p ∈ seen)) = true then false else goTri (seen ++ [p]) (r.map triD)) = true
    rw [ht]
    show (if (decide (t.1 = t.2.1) || decide (keyT t ∈ seen)) = true then false else goTri (seen ++ [keyT t]) (r.map triD)) = true
    rw [decide_eq_false h3, decide_eq_false (hs t List.mem_cons_self), if_neg (by decide)]
    refine goTri_good r (seen ++ [keyT t]) (fun t' h => hg t' (List.mem_cons_of_mem _ h)) hn.2 (fun t' h' hm => ?_)
    rcases List.mem_append.mp hm with hm | hm
    · exact hs t' (List.mem_cons_of_mem _ h') hm
    · rw [List.mem_singleton] at hm
      exact hn.1 (hm ▸ List.mem_map_of_mem h')
theorem smAll_of {ds : List PyData} (h : ∀ d ∈ ds, sm d = true) : smAll ds = true := by
  induction ds with
  | nil => rfl
  | cons d ds ih =>
    rw [smAll, h d List.mem_cons_self, ih fun d h' => h d (List.mem_cons_of_mem _ h')]
    rfl
theorem sm_tupI {ds : List PyData} (h1 : ds.length ≤ 1000) (h : ∀ d ∈ ds, sm d = true) : sm (.tuple ds) = true := by
  rw [sm, decide_eq_true h1, smAll_of h]; rfl
theorem sm_lstI {ds : List PyData} (h1 : ds.length ≤ 1000) (h : ∀ d ∈ ds, sm d = true) : sm (.list ds) = true := by
  rw [sm, decide_eq_true h1, smAll_of h]; rfl
theorem sm_strI {z : Str} (h : z.length ≤ 1000) : sm (.str z) = true := by rw [sm]; exact decide_eq_true h
theorem sm_tri {t : Str × Str × Int} (h : triGood t) : sm (triD t) = true := sm_tupI (show 3 ≤ 1000 by omega) fun d hd => by
  have l1 := (word_un h.1).2.1
  have l2 := (word_un h.2.1).2.1
  rcases List.mem_cons.mp hd with rfl | hd
  · exact sm_strI (by omega)
  rcases List.mem_cons.mp hd with rfl | hd
  · exact sm_strI (by omega)
  rw [List.mem_singleton.mp hd]; rfl
theorem prok_mk {p : Pr} (h1 : 0 ≤ p.dr ∧ p.dr ≤ 999) (h2 : 0 ≤ p.ad ∧ p.ad ≤ 999) (h3 : 0 ≤ p.ch ∧ p.ch ≤ 999) (hl : p.tab.length ≤ 6) (hg : ∀ t ∈ p.tab, triGood t) (hn : (p.tab.map keyT).Nodup) : PrOk p where
  dr := h1
  ad := h2
  ch := h3
  tb := fun t h => (hg t h).2.2.2
  len := hl
  ok := by
    show ((decide (0 ≤ p.dr) && (decide (0 ≤ p.ad) && decide (0 ≤ p.ch))) && goTri [] (p.tab.map triD)) = true
    rw [decide_eq_true h1.1, decide_eq_true h2.1, decide_eq_true h3.1, goTri_good p.tab [] hg hn (fun _ _ => by simp)]
    rfl
  sm := sm_tupI (show 4 ≤ 1000 by omega) fun d hd => by
    rcases List.mem_cons.mp hd with rfl | hd
    · rfl
    rcases List.mem_cons.mp hd with rfl | hd
    · rfl
    rcases List.mem_cons.mp hd with rfl | hd
    · rfl
    rw [List.mem_singleton.mp hd]
    refine sm_tupI (by rw [List.length_map]; omega) fun d hd => ?_
    obtain ⟨t, ht, rfl⟩ := List.mem_map.mp hd
    exact sm_tri (hg t ht)
/-! ### a growing list looked at -/
theorem Gr.unlast {H F H2 F2 : Hp} {l : Addr} {o : HO} (g : Gr no H (upd F l o) H2 F2) (fl : F l = none) : Gr no H F H2 (fun a => if a = l then none else F2 a) where
  h := g.h
  t := g.t
  f := fun a u e => by
    have ne : a ≠ l := fun z => by rw [z, fl] at e; cases e
    show (if a = l then none else F2 a) = some u
    rw [if_neg ne]
    exact g.f a u (by rw [upd_ne ne]; exact e)
  e := fun a u h => by
    have h' : (if a = l then none else F2 a) = some u := h
    by_cases ne : a = l
    · rw [if_pos ne] at h'; cases h'
    · rw [if_neg ne] at h'; exact g.e a u h'
  n := fun a h => by
    by_cases ne : a = l
    · show (if a = l then none else F2 a) = F a
      rw [if_pos ne, ne, fl]
    · show (if a = l then none else F2 a) = F a
      rw [if_neg ne, g.n a h, upd_ne ne]
theorem edt_frozen {K : PySem.W.Frag} {tt : TT} {σ : L2.St} {F H H0 : Hp} {b : Bool} {l : Addr} {ds : List PyData} (x : Ext F H) (M : Ml K H0 l ds F H) (h : ∀ F', Ext F F' → Ext F' H → Dp K F' (.ref l) (.list ds) → Edt tt σ F' H b) : Edt tt σ F H b := fun F1 H1 g Q q => by
  obtain ⟨xs, h1, h2⟩ := M.h
  have e1 : Ext F (upd F l (.lst xs)) := Ext.new M.f
  have e2 : Ext (upd F l (.lst xs)) H := fun a u e => by
    by_cases ne : a = l
    · subst ne; rw [upd_same] at e; rw [h1]; exact e
    · rw [upd_ne ne] at e; exact x a u e
  have f1 : F1 l = none := by rw [g.n l (by rw [h1]; simp)]; exact M.f
  have g' : Gr no H (upd F l (.lst xs)) H1 (upd F1 l (.lst xs)) := {
    h := g.h
    t := g.t
    f := fun a u e => by
      by_cases ne : a = l
      · subst ne; rw [upd_same] at e ⊢; exact e
      · rw [upd_ne ne] at e ⊢; exact g.f a u e
    e := fun a u e => by
      by_cases ne : a = l
      · subst ne; rw [upd_same] at e; rw [g.ext _ _ h1]; exact e
      · rw [upd_ne ne] at e; exact g.e a u e
    n := fun a h => by
      by_cases ne : a = l
      · subst ne; rw [upd_same, upd_same]
      · rw [upd_ne ne, upd_ne ne]; exact g.n a h }
  exact h _ e1 e2 (.lst (.inl (.inl upd_same)) (DpAll.ext h2 e1)) _ H1 g' Q fun H2 F2 g2 => q H2 _ (g2.unlast f1)
def cut2D : PyData → PyData
  | .tuple (a :: b :: _) => .tuple [a, b]
  | d => d
def R__law_prices (ds : List PyData) (d : PyData) : Prop := ∃ p, PrOk p ∧ d = prD p ∧ (∀ t ∈ p.tab, triGood t)
abbrev sp__law_prices (K : PySem.W.Frag) (wl : List Str) : Sp := spP K (some wl) (fun ds => ds = [] ∧ goodW wl) R__law_prices
section
variable {P : Program} {w : World} {K : PySem.W.Frag} {mg : Str → Option Value} {base : Heap} {wl : List Str}
/-! ### _law_prices -/
def t__law_prices (wl : List Str) (K : PySem.W.Frag) : TS :=
  (tSeq (tAsg (tLst tNil) (gName 1))
  (tSeq (tFor (iRng1 (tCons (tCall (sp__law_take K (some wl)) [] E0 (tCons (tVar 0) (tCons (tC (.int 7)) tNil))) tNil)) (gName 2)
    (tSeq (tAsg (tCall (sp__law_word K wl) [] E0 (tCons (tVar 0) tNil)) (gName 3))
  (tSeq (tAsg (tCall (sp__law_word K wl) [] E0 (tCons (tVar 0) tNil)) (gName 4))
  (tIfS (tAnd (tTest (tOp rNe (tVar 3) (tVar 4))) (tTest (tOp (rNotInD K) (tTup (tCons (tVar 3) (tCons (tVar 4) tNil))) (tLc (iList K (tVar 1)) (gName 5) tYes (tSl (rSlA K) (tVar 5) tNoPart (tPart (tC (.int 2)))) [5])))) (tDrop (tBM K "list" rAppend (tVar 1) (tCons (tTup (tCons (tVar 3) (tCons (tVar 4) (tCons (tCall (sp__law_price K wl) [] E0 (tCons (tVar 0) tNil)) tNil)))) tNil))) tNext))))
  (tRet (tTup (tCons (tCall (sp__law_price K wl) [] E0 (tCons (tVar 0) tNil)) (tCons (tCall (sp__law_price K wl) [] E0 (tCons (tVar 0) tNil)) (tCons (tCall (sp__law_price K wl) [] E0 (tCons (tVar 0) tNil)) (tCons (tCB (rTupQ K) (tCons (tVar 1) tNil)) tNil))))))))

theorem rd__law_prices : KeepsP K N__law_prices (some wl) (fun ds => ds = [] ∧ goodW wl) R__law_prices (t__law_prices wl K) := by
  intro H F p vs ds Q x po hd hpre q
  obtain ⟨rfl, hg⟩ := hpre
  have E := envP_start (p := p) (N := N__law_prices) hd
  have hp := po.at
  have S0 : Cp K p (some wl) H F F H := ⟨Gr.refl x, po⟩
  have word : ∀ {σ F H ρ}, Env K F σ ρ → ρ[0]? = some (.v (.ref p)) → Ep K p (some wl) (tCall (sp__law_word K wl) [] E0 (tCons (tVar 0) tNil)) σ F H (fun d => ∃ z, d = .str z ∧ z ∈ wl) := fun E h => ep_callP E h epa_nil (fun ds h => ⟨h, hg⟩) (fun ds d _ h => h)
  have price : ∀ {σ F H ρ}, Env K F σ ρ → ρ[0]? = some (.v (.ref p)) → Ep K p (some wl) (tCall (sp__law_price K wl) [] E0 (tCons (tVar 0) tNil)) σ F H (fun d => ∃ r : Int, d = .int r ∧ 0 ≤ r ∧ r ≤ 999) := fun E h => ep_callP E h epa_nil (fun ds h => h) (fun ds d _ h => h)
  refine st_seq (p_new S0 hp E fun l H1 S1 g1 M1 E1 => ?_)
  refine st_seq (p_for1 S1 (ep_take E1 rfl ep_cI (by decide) (by decide)) (RN := fun n => n < 7) (fun d h => by obtain ⟨r, rfl, h0, h1⟩ := h; exact ⟨r, rfl, h0, by omega, h1⟩) fun m H2 F2 hm S2 g2 => ⟨fun i σ' H' => ∃ F' tab, Cp K p (some wl) H F F' H' ∧
    Env K F' σ' [.v (.ref p), .v (.ref l), .un, .un, .un, .un] ∧ Ml K H l ((tab : List (Str × Str × Int)).map triD) F' H' ∧ tab.length ≤ i ∧ (∀ t ∈ tab, triGood t) ∧ (tab.map keyT).Nodup, ?_, ?_, ?_⟩)
  · exact ⟨F2, [], S2, (E1.ext g2.f).weak (by walk_at "wk"), M1.stepP hp g2, Nat.le_refl _, (fun _ h => nomatch h), List.nodup_nil⟩
  · rintro i σ' H' hi ⟨F', tab, S', E', M', hlen, hgood, hnd⟩
    have E3 := Env.set (o := some (V.int (i : Int))) 2 (s := .d (.int (i : Int))) E' ⟨_, rfl, .int _⟩
    refine st_seq (p_set S' E3 (word E3 rfl) fun v d H4 F4 S4 g4 r4 pd4 E4 => ?_)
    obtain ⟨z, rfl, hz⟩ := r4
    dsimp only
    refine st_seq (p_set S4 E4 (word E4 rfl) fun v d H5 F5 S5 g5 r5 pd5 E5 => ?_)
    obtain ⟨y, rfl, hy⟩ := r5
    have M5 := (M'.stepP hp g4).stepP hp g5
    have wz := hg.2.2 z hz
    have wy := hg.2.2 y hy
    have hok : ∀ k ∈ tab.map keyT, pOk k := fun k hk => by
      obtain ⟨t, ht, rfl⟩ := List.mem_map.mp hk
      exact ⟨word_strOk (hgood t ht).1, word_strOk (hgood t ht).2.1⟩
    have hzy : pOk (z, y) := ⟨word_strOk wz, word_strOk wy⟩
    dsimp only
    refine st_ifE S5.g (b := !decide (z = y) && !decide ((z, y) ∈ tab.map keyT)) (edt_and (edt_test (ed_op (ed_var E5 rfl) (ed_var E5 rfl) od_neS)) fun _ => edt_frozen S5.g.e M5 fun F' e1 e2 pl => edt_test (K := K) ?_) (fun hb H6 F6 G6 g6 => ?_) (fun hb H6 F6 G6 g6 => ?_)
    · have E6 := E5.ext e1
      refine ed_is (ed_op (ed_tup (eda_cons (ed_var E6 rfl) (eda_cons (ed_var E6 rfl) eda_nil)) (show 2 ≤ 1000 by omega)) (ed_is (ed_lcL1 cut2D (ed_of (er_var E6 rfl) pl) (by rw [List.length_map]; omega) fun i d x F1 H1 e g1 p1 => ?_) (show _ = PyData.list ((tab.map keyT).map prS) by rw [List.map_map, List.map_map]; rfl)) (od_notInD (prS_shaped (z, y) hzy) (prSs_shaped _ hok))) (congrArg (fun b => PyData.bool (!b)) (prS_any (tab.map keyT) (z, y)))
      rw [List.getElem?_map] at e
      cases et : tab[i]? with
      | none => rw [et] at e; cases e
      | some t =>
        rw [et] at e
        obtain rfl : triD t = d := Option.some.inj e
        exact ed_is (ed_sl (ed_var (env_blk E6 g1.f p1) rfl) edo_none (edo_some (ed_cI (K := K))) sd_tup) rfl
    · rw [Bool.and_eq_true, Bool.not_eq_true', Bool.not_eq_true', decide_eq_false_iff_not, decide_eq_false_iff_not] at hb
      have S6 : Cp K p (some wl) H F F6 H6 := S5.step g6
      have E6 := E5.ext g6.f
      refine p_app S6 hp (M5.step g6) E6 rfl (R := fun d => ∃ c : Int, d = triD (z, y, c) ∧ 0 ≤ c ∧ c ≤ 999) (ep_tup (epa_cons (ep_var E6 rfl) (epa_cons (ep_var E6 rfl) (epa_cons (price E6 rfl) epa_nil))) fun ds h => ?_) (by rw [List.length_map]; omega) fun d H7 F7 S7 e7 rd M7 => ?_
      · obtain ⟨d1, ds1, rfl, rfl, d2, ds2, rfl, rfl, d3, ds3, rfl, ⟨c, rfl, c0, c1⟩, rfl⟩ := h
        exact ⟨by show 3 ≤ 1000; omega, c, rfl, c0, c1⟩
      · obtain ⟨c, rfl, c0, c1⟩ := rd
        refine ⟨F7, tab ++ [(z, y, c)], S7, (E6.ext e7).weak (by walk_at "wk"), by rw [List.map_append]; exact M7, by rw [List.length_append, List.length_singleton]; omega, fun t ht => ?_, ?_⟩
        · rcases List.mem_append.mp ht with ht | ht
          · exact hgood t ht
          · rw [List.mem_singleton.mp ht]; exact ⟨wz, wy, hb.1, c0, c1⟩
        · rw [List.map_append, List.nodup_append]
          refine ⟨hnd, by simp, fun a ha b hb' => ?_⟩
          have e : b = (z, y) := by simpa [keyT] using hb'
          rw [e]
          intro z'
          exact hb.2 (z' ▸ ha)
    · exact ⟨F6, tab, S5.step g6, (E5.ext g6.f).weak (by walk_at "wk"), M5.step g6, by omega, hgood, hnd⟩
  · rintro σ' H' ⟨F', tab, S', E', M', hlen, hgood, hnd⟩
    dsimp only
    obtain ⟨F2, e2, S2, pl⟩ := p_last S' hp M'
    have E2 := E'.ext e2
    refine p_ret S2 (ep_tup (epa_cons (price E2 rfl) (epa_cons (price E2 rfl) (epa_cons (price E2 rfl) (epa_cons (ep_ed (fun F1 H1 e x => ed_cb (eda_cons (ed_of (er_var (E2.ext e) rfl) (Dp.ext pl e)) eda_nil) (cd_tuple (tp := false))) (rfl : (fun d => d = PyData.tuple (tab.map triD)) _)) epa_nil)))) fun ds h => ?_) q
    obtain ⟨d1, ds1, rfl, ⟨r1, rfl, a0, a1⟩, d2, ds2, rfl, ⟨r2, rfl, b0, b1⟩, d3, ds3, rfl, ⟨r3, rfl, c0, c1⟩, d4, ds4, rfl, rfl, rfl⟩ := h
    refine ⟨by show 4 ≤ 1000; omega, ⟨r1, r2, r3, tab⟩, prok_mk ⟨a0, a1⟩ ⟨b0, b1⟩ ⟨c0, c1⟩ (by show tab.length ≤ 6; omega) hgood hnd, rfl, hgood⟩
theorem len__law_prices (ds : List PyData) (h : ds = [] ∧ goodW wl) : ds.length + 1 = 1 := by rw [h.1]; rfl
theorem dv__law_prices {wl : List Str} (T : Tx K mg) (cdv : Value) (A : Around) (outer : List PySem.Env) (s : Shared) (H : Hp) (E : XK) (hr : Room 3 (A.deeper (PyProof.Rows.envOfC "_law_prices" (defScope s__law_prices) s.heap.objs.size T.d__law_prices.f cdv))) :
    PSs (cxOf CX0 P w K mg base N__law_prices "_law_prices" (defScope s__law_prices) T.d__law_prices.f cdv A outer s H E).nox (defBody s__law_prices) (t__law_prices wl K) := by
  exact (pss_cons (ps_set (i := 1) sc__law_prices.nd rfl (Or.inl rfl) (pe_lst pa_nil))
  (pss_cons (ps_for PassesOwn.never rfl (pi_range1 (by rfl) T.n_range (pa_cons (pe_call (ok__law_take T) (hr.mono (by decide)) (by rfl) T.d__law_take.g T.d__law_take.F.kp T.d__law_take.b .nil pass0 (pa_cons (pv 0) (pa_cons pe_int pa_nil))) pa_nil)) (pg_name (i := 2) sc__law_prices.nd rfl (Or.inl rfl))
    (pss_cons (ps_set (i := 3) sc__law_prices.nd rfl (Or.inl rfl) (pe_call (ok__law_word T) (hr.mono (by decide)) (by rfl) T.d__law_word.g T.d__law_word.F.kp T.d__law_word.b .nil pass0 (pa_cons (pv 0) pa_nil)))
  (pss_cons (ps_set (i := 4) sc__law_prices.nd rfl (Or.inl rfl) (pe_call (ok__law_word T) (hr.mono (by decide)) (by rfl) T.d__law_word.g T.d__law_word.F.kp T.d__law_word.b .nil pass0 (pa_cons (pv 0) pa_nil)))
  (pss_one (ps_if (PW.pt (pw_and (pt_cmpR op_ne (pv 3) (pv 4) (nomark _)) (pw_and1 (pt_cmpR (op_notInD (un65 hr)) (pe_tup (pa_cons (pv 3) (pa_cons (pv 4) pa_nil))) (pe_lc (own := [("_law_row", 5)]) (g := gName 5) (tt := tYes) rfl sc__law_prices.nd (pi_list (pv 1)) (blkOk_by (own := [("_law_row", 5)]) (N := N__law_prices) (sc := defScope s__law_prices) (by decide +kernel)) (fun _ _ _ _ _ => pg_name (i := 5) sc__law_prices.nd rfl (Or.inl rfl)) (fun _ _ _ _ _ => pts_nil) (fun _ _ _ _ _ => (pe_slice sl_tupA (pv 5) po_none (po_some pe_int)))) (by rfl))))) (pss_one (ps_expr (pe_bm PySem.F.plainAttrs_list PySem.F.slot_list_append PySem.F.type_list_append mt_append (pv 1) (pa_cons (pe_tup (pa_cons (pv 3) (pa_cons (pv 4) (pa_cons (pe_call (ok__law_price T) (hr.mono (by decide)) (by rfl) T.d__law_price.g T.d__law_price.F.kp T.d__law_price.b .nil pass0 (pa_cons (pv 0) pa_nil)) pa_nil)))) pa_nil)))) pss_nil)))))
  (pss_one (ps_ret (pe_tup (pa_cons (pe_call (ok__law_price T) (hr.mono (by decide)) (by rfl) T.d__law_price.g T.d__law_price.F.kp T.d__law_price.b .nil pass0 (pa_cons (pv 0) pa_nil)) (pa_cons (pe_call (ok__law_price T) (hr.mono (by decide)) (by rfl) T.d__law_price.g T.d__law_price.F.kp T.d__law_price.b .nil pass0 (pa_cons (pv 0) pa_nil)) (pa_cons (pe_call (ok__law_price T) (hr.mono (by decide)) (by rfl) T.d__law_price.g T.d__law_price.F.kp T.d__law_price.b .nil pass0 (pa_cons (pv 0) pa_nil)) (pa_cons (pe_callTy call_tupQ (by rfl) T.n_tuple (by decide +kernel) (pa_cons (pv 1) pa_nil)) pa_nil)))))))))

theorem ok__law_prices (T : Tx K mg) : FnOk P w K mg base CX0 4 T.d__law_prices.f T.d__law_prices.fd ["_law_pool_here"] (sp__law_prices K wl) :=
  okP T.d__law_prices.F sc__law_prices (t__law_prices wl K) len__law_prices rd__law_prices (fun cdv A outer s H E hr => dv__law_prices T cdv A outer s H E hr)

end
/-! ### a matching drawn -/
def Pre_drawn (ds : List PyData) : Prop := ∃ ta tb a b, ds = [rowD ta a, rowD tb b] ∧ a.length ≤ 12 ∧ b.length ≤ 12
def smallM (l : List (Nat × Nat)) : Prop := l.length ≤ 12 ∧ ∀ q ∈ l, q.1 ≤ 12 ∧ q.2 ≤ 12
def R__law_drawn (ds : List PyData) (d : PyData) : Prop := ∃ l : List (Nat × Nat), d = .tuple (l.map pairD) ∧ smallM l
abbrev sp__law_drawn (K : PySem.W.Frag) (wl : List Str) : Sp := spP K (some wl) Pre_drawn R__law_drawn
section
variable {P : Program} {w : World} {K : PySem.W.Frag} {mg : Str → Option Value} {base : Heap} {wl : List Str}
/-! ### _law_drawn -/
def t__law_drawn (wl : List Str) (K : PySem.W.Frag) : TS :=
  (tSeq (tAsg (tLst tNil) (gName 3))
  (tSeq (tAsg (tC (.int 0)) (gName 4))
  (tSeq (tFor (iRng1 (tCons (tCB (rLenQ K) (tCons (tVar 1) tNil)) tNil)) (gName 5)
    (tIfS (tAnd (tTest (tOp rLtI (tVar 4) (tCB (rLenQ K) (tCons (tVar 2) tNil)))) (tTest (tOp rGtI (tCall (sp__law_take K (some wl)) [] E0 (tCons (tVar 0) (tCons (tC (.int 3)) tNil))) (tC (.int 0))))) (tSeq (tAsg (tOp rAddI (tVar 4) (tCall (sp__law_take K (some wl)) [] E0 (tCons (tVar 0) (tCons (tOp rSubI (tCB (rLenQ K) (tCons (tVar 2) tNil)) (tVar 4)) tNil)))) (gName 6))
  (tSeq (tIfS (tTest (tOp rGtI (tCall (sp__law_take K (some wl)) [] E0 (tCons (tVar 0) (tCons (tC (.int 3)) tNil))) (tC (.int 0)))) (tAsg (tVar 4) (gName 6)) tNext)
  (tSeq (tDrop (tBM K "list" rAppend (tVar 3) (tCons (tTup (tCons (tVar 5) (tCons (tVar 6) tNil))) tNil)))
  (tAsg (tOp rAddI (tVar 6) (tC (.int 1))) (gName 4))))) tNext))
  (tRet (tCB (rTupQ K) (tCons (tVar 3) tNil))))))

theorem rd__law_drawn : KeepsP K N__law_drawn (some wl) Pre_drawn R__law_drawn (t__law_drawn wl K) := by
  intro H F p vs ds Q x po hd hpre q
  obtain ⟨ta, tb, a, b, rfl, ha, hb⟩ := hpre
  have E := envP_start (p := p) (N := N__law_drawn) hd
  have hp := po.at
  have S0 : Cp K p (some wl) H F F H := ⟨Gr.refl x, po⟩
  refine st_seq (p_new S0 hp E fun l H1 S1 g1 M1 E1 => ?_)
  dsimp only
  refine st_seq (p_set S1 E1 (ep_cI (z := 0)) fun v d H2 F2 S2 g2 r2 pd2 E2 => ?_)
  subst r2
  have M2 := M1.stepP hp g2
  dsimp only
  refine st_seq (p_for1 (R := fun d => d = PyData.int (a.length : Int)) S2 (ep_ed (fun F1 H1 e x => ed_cb (eda_cons (ed_var (E2.ext e) rfl) eda_nil) cd_lenR) rfl) (RN := fun n => n = (a.length : Int)) (fun d h => ⟨_, h, by omega, by omega, rfl⟩) fun m H3 F3 hm S3 g3 => ⟨fun i σ' H' => ∃ F' fl s, Cp K p (some wl) H F F' H' ∧
    Env K F' σ' [.v (.ref p), .d (rowD ta a), .d (rowD tb b), .v (.ref l), .d (.int ((s : Nat) : Int)), .un, .un] ∧ Ml K H l ((fl : List (Nat × Nat)).map pairD) F' H' ∧ fl.length ≤ i ∧ s ≤ b.length ∧ i ≤ a.length ∧ ∀ q ∈ fl, q.1 ≤ 12 ∧ q.2 ≤ 12, ?_, ?_, ?_⟩)
  · exact ⟨F3, [], 0, S3, (E2.ext g3.f).weak (by walk_at "wk"), M2.stepP hp g3, Nat.le_refl _, Nat.zero_le _, Nat.zero_le _, fun _ h => nomatch h⟩
  · rintro i σ' H' hi ⟨F', fl, s, S', E', M', hlen, hs, hi2, hq⟩
    subst hm
    have hi' : i < a.length := by omega
    have E4 := Env.set (o := some (V.int (i : Int))) 5 (s := .d (.int (i : Int))) E' ⟨_, rfl, .int _⟩
    refine p_if S' (ept_and (RB := fun b' => b' = true → s < b.length) (RC := fun _ => True) (ept_edt (b := decide ((s : Int) < (b.length : Int))) (fun F1 H1 e x => edt_test (ed_op (ed_var (E4.ext e) rfl) (ed_cb (eda_cons (ed_var (E4.ext e) rfl) eda_nil) cd_lenR) od_lt)) (fun h => by have := of_decide_eq_true h; omega)) (fun _ => ept_test (R := fun d => ∃ b, d = .bool b) (ep_op (ep_take E4 rfl ep_cI (by decide) (by decide)) ep_cI fun d1 d2 r1 r2 => by
      obtain ⟨r, rfl, h0, h1⟩ := r1
      subst r2
      exact ⟨_, od_gt, _, rfl⟩) (fun d h => by obtain ⟨b, rfl⟩ := h; exact ⟨b, rfl, trivial⟩))) (fun hR H5 F5 S5 g5 => ?_) (fun _ H5 F5 S5 g5 => ?_)
    · have hsb : s < b.length := (hR rfl).1 rfl
      have E5 := E4.ext g5.f
      refine st_seq (p_set S5 E5 (R := fun d => ∃ j : Nat, d = .int (j : Int) ∧ s ≤ j ∧ j < b.length) (ep_op (ep_var E5 rfl) (ep_take (m := (b.length : Int) - (s : Int)) E5 rfl (ep_ed (fun F1 H1 e x => ed_op (ed_cb (eda_cons (ed_var (E5.ext e) rfl) eda_nil) cd_lenR) (ed_var (E5.ext e) rfl) od_sub) rfl) (by omega) (by omega)) fun d1 d2 r1 r2 => by
        obtain ⟨r, rfl, h0, h1⟩ := r2
        subst r1
        exact ⟨_, od_add, s + r.toNat, by congr 1; omega, by omega, by omega⟩) fun v d H6 F6 S6 g6 r6 pd6 E6 => ?_)
      obtain ⟨j, rfl, j0, j1⟩ := r6
      dsimp only
      refine st_ifS (fun σ' H' => ∃ F' j, Cp K p (some wl) H F F' H' ∧ Env K F' σ' [.v (.ref p), .d (rowD ta a), .d (rowD tb b), .v (.ref l), .d (.int ((s : Nat) : Int)), .d (.int (i : Int)), .d (.int ((j : Nat) : Int))] ∧ Ml K H l ((fl : List (Nat × Nat)).map pairD) F' H' ∧ j < b.length)
        (fun σ' H' ⟨F', j, S', E', M', hj⟩ => ?_) (fun rest => ?_)
      · refine st_seq (p_app S' hp M' E' rfl (R := fun d => d = pairD (i, j)) (ep_ed (fun F1 H1 e x => ed_tup (eda_cons (ed_var (E'.ext e) rfl) (eda_cons (ed_var (E'.ext e) rfl) eda_nil)) (show 2 ≤ 1000 by omega)) rfl) (by rw [List.length_map]; omega) fun d H9 F9 S9 e9 rd M9 => ?_)
        subst rd
        refine p_set S9 (E'.ext e9) (ep_ed (fun F1 H1 e x => ed_op (ed_var ((E'.ext e9).ext e) rfl) (ed_cI (K := K)) od_add) (rfl : (fun d => d = PyData.int ((j : Int) + 1)) _)) fun v d H10 F10 S10 g10 r10 pd10 E10 => ?_
        subst r10
        refine ⟨F10, fl ++ [(i, j)], j + 1, S10, E10.weak (by walk_at "wk"), by rw [List.map_append]; exact M9.stepP hp g10, by rw [List.length_append, List.length_singleton]; omega, by omega, by omega, fun q hq' => ?_⟩
        rcases List.mem_append.mp hq' with hq' | hq'
        · exact hq q hq'
        · rw [List.mem_singleton.mp hq']
          exact ⟨by show i ≤ 12; omega, by show j ≤ 12; omega⟩
      · have M6 := (M'.stepP hp g5).stepP hp g6
        refine p_if (RB := fun _ => True) S6 (ept_test (R := fun d => ∃ b, d = .bool b) (ep_op (ep_take E6 rfl ep_cI (by decide) (by decide)) ep_cI fun d1 d2 r1 r2 => by
          obtain ⟨r, rfl, h0, h1⟩ := r1
          subst r2
          exact ⟨_, od_gt, _, rfl⟩) (fun d h => by obtain ⟨b, rfl⟩ := h; exact ⟨b, rfl, trivial⟩)) (fun _ H7 F7 S7 g7 => ?_) (fun _ H7 F7 S7 g7 => ?_)
        · refine p_set S7 (E6.ext g7.f) (ep_var (E6.ext g7.f) rfl) fun v d H8 F8 S8 g8 r8 pd8 E8 => ?_
          subst r8
          exact rest _ _ ⟨F8, s, S8, E8, (M6.stepP hp g7).stepP hp g8, hsb⟩
        · exact rest _ _ ⟨F7, j, S7, E6.ext g7.f, M6.stepP hp g7, j1⟩
    · exact ⟨F5, fl, s, S5, (E4.ext g5.f).weak (by walk_at "wk"), M'.stepP hp g5, by omega, hs, by omega, hq⟩
  · rintro σ' H' ⟨F', fl, s, S', E', M', hlen, hs, hi2, hq⟩
    dsimp only
    obtain ⟨F2, e2, S2, pl⟩ := p_last S' hp M'
    refine p_retE S2 (ed_cb (eda_cons (ed_of (er_var (E'.ext e2) rfl) pl) eda_nil) (cd_tuple (tp := false))) ⟨fl, rfl, ?_, hq⟩ q
    subst hm
    have : ((a.length : Int)).toNat = a.length := by omega
    omega
theorem len__law_drawn (ds : List PyData) (h : Pre_drawn ds) : ds.length + 1 = 3 := by obtain ⟨_, _, _, _, h, _⟩ := h; rw [h]; rfl
theorem dv__law_drawn {wl : List Str} (T : Tx K mg) (cdv : Value) (A : Around) (outer : List PySem.Env) (s : Shared) (H : Hp) (E : XK) (hr : Room 2 (A.deeper (PyProof.Rows.envOfC "_law_drawn" (defScope s__law_drawn) s.heap.objs.size T.d__law_drawn.f cdv))) :
    PSs (cxOf CX0 P w K mg base N__law_drawn "_law_drawn" (defScope s__law_drawn) T.d__law_drawn.f cdv A outer s H E).nox (defBody s__law_drawn) (t__law_drawn wl K) := by
  exact (pss_cons (ps_set (i := 3) sc__law_drawn.nd rfl (Or.inl rfl) (pe_lst pa_nil))
  (pss_cons (ps_set (i := 4) sc__law_drawn.nd rfl (Or.inl rfl) pe_int)
  (pss_cons (ps_for PassesOwn.never rfl (pi_range1 (by rfl) T.n_range (pa_cons (pe_callB call_lenQ (by rfl) T.n_len (by decide +kernel) (pa_cons (pv 1) pa_nil)) pa_nil)) (pg_name (i := 5) sc__law_drawn.nd rfl (Or.inl rfl))
    (pss_one (ps_if (PW.pt (pw_and (pt_cmpR op_lt (pv 4) (pe_callB call_lenQ (by rfl) T.n_len (by decide +kernel) (pa_cons (pv 2) pa_nil)) (nomark _)) (pw_and1 (pt_cmpR op_gt (pe_call (ok__law_take T) (hr.mono (by decide)) (by rfl) T.d__law_take.g T.d__law_take.F.kp T.d__law_take.b .nil pass0 (pa_cons (pv 0) (pa_cons pe_int pa_nil))) pe_int (nomark _))))) (pss_cons (ps_set (i := 6) sc__law_drawn.nd rfl (Or.inl rfl) (pe_op op_add (pv 4) (pe_call (ok__law_take T) (hr.mono (by decide)) (by rfl) T.d__law_take.g T.d__law_take.F.kp T.d__law_take.b .nil pass0 (pa_cons (pv 0) (pa_cons (pe_op op_sub (pe_callB call_lenQ (by rfl) T.n_len (by decide +kernel) (pa_cons (pv 2) pa_nil)) (pv 4)) pa_nil)))))
  (pss_cons (ps_if (pt_cmpR op_gt (pe_call (ok__law_take T) (hr.mono (by decide)) (by rfl) T.d__law_take.g T.d__law_take.F.kp T.d__law_take.b .nil pass0 (pa_cons (pv 0) (pa_cons pe_int pa_nil))) pe_int (nomark _)) (pss_one (ps_set (i := 6) sc__law_drawn.nd rfl (Or.inl rfl) (pv 4))) pss_nil)
  (pss_cons (ps_expr (pe_bm PySem.F.plainAttrs_list PySem.F.slot_list_append PySem.F.type_list_append mt_append (pv 3) (pa_cons (pe_tup (pa_cons (pv 5) (pa_cons (pv 6) pa_nil))) pa_nil)))
  (pss_one (ps_set (i := 4) sc__law_drawn.nd rfl (Or.inl rfl) (pe_op op_add (pv 6) pe_int)))))) pss_nil)))
  (pss_one (ps_ret (pe_callTy call_tupQ (by rfl) T.n_tuple (by decide +kernel) (pa_cons (pv 3) pa_nil)))))))

theorem ok__law_drawn (T : Tx K mg) : FnOk P w K mg base CX0 3 T.d__law_drawn.f T.d__law_drawn.fd ["_law_pool_here", "_law_a", "_law_b"] (sp__law_drawn K wl) :=
  okP T.d__law_drawn.F sc__law_drawn (t__law_drawn wl K) len__law_drawn rd__law_drawn (fun cdv A outer s H E hr => dv__law_drawn T cdv A outer s H E hr)

end
end Gb

set_option maxHeartbeats 1000000
namespace Gb
open PySem L2
local macro_rules | `(tactic| walk_at "wk") => `(tactic| (repeat' (first | exact trivial | exact Or.inl rfl | exact Or.inr rfl | apply And.intro)))
section
variable {K : PySem.W.Frag} {σ : L2.St} {F H H0 F0 : Hp} {ρ : List Sv} {ta te : TE} {d : PyData} {i : Nat} {D : Ends}
theorem ed_lenM {l : Addr} {ds : List PyData} (M : Ml K H0 l ds F H) (ha : Er ta σ F H (.ref l)) : Ed K (tCB (rLenQ K) (tCons ta tNil)) σ F H (.int (ds.length : Int)) := fun F1 H1 g Q q => ha F1 H1 g _ (by
  obtain ⟨xs, h2, h3⟩ := (M.step g).h
  exact ⟨l, xs, rfl, .inl (.inl (.inl h2)), by rw [DpAll.len h3]; exact q _ H1 F1 (Gr.refl g.e) (.int _)⟩)
/-- x = list(y), y a list of data: to be changed -/
theorem st_listM {i j : Nat} {ds : List PyData} (G : Gr no H0 F0 H F) (E : Env K F σ ρ) (hj : ρ[j]? = some (.d (.list ds))) (k : ∀ l H2, Gr no H0 F0 H2 F → Gr no H F H2 F → Ml K H0 l ds F H2 → Env K F (σ.set i (some (.ref l))) (ρ.set i (.v (.ref l))) → D.nx (σ.set i (some (.ref l))) H2) :
    tAsg (tCB (rListQ K) (tCons (tVar j) tNil)) (gName i) D σ H := by
  obtain ⟨v, h1, p1⟩ := E.data hj
  refine ⟨v, h1, ?_⟩
  cases p1 with
  | @lst a xs _ hs ha =>
    refine ⟨a, xs, rfl, .inl (sql_ext G.e hs), fun l hl => ?_⟩
    have g : Gr no H F (upd H l (.lst xs)) F := Gr.newM G.e hl
    have hl0 : H0 l = none := by
      cases e : H0 l with
      | none => rfl
      | some o => exact absurd hl (G.t l (by rw [e]; simp))
    exact k l _ (G.tr g) g ⟨hl0, G.e.none_of hl, xs, upd_same, ha⟩ (Env.set i (s := .v (.ref l)) E rfl)
theorem DpAll.set : ∀ {vs : List V} {ds : List PyData} (n : Nat) {v : V} {d : PyData}, DpAll K H vs ds → Dp K H v d → DpAll K H (vs.set n v) (ds.set n d)
  | _, _, _, _, _, .nil, _ => .nil
  | _, _, 0, _, _, .cons _ t, h => .cons h t
  | _, _, n + 1, _, _, .cons a t, h => .cons a (DpAll.set n t h)
/-- x[0] = e -/
theorem st_set0 {l : Addr} {ds : List PyData} (G : Gr no H0 F0 H F) (M : Ml K H0 l ds F H) (E : Env K F σ ρ) (hi : ρ[i]? = some (.v (.ref l))) (h : Ed K te σ F H d) (h0 : 0 < ds.length) (k : ∀ H2 F2, Gr no H0 F0 H2 F2 → Ext F F2 → Ml K H0 l (ds.set 0 d) F2 H2 → D.nx σ H2) :
    tAsg te (gSub (tVar i) (tC (.int 0)) rSetL) D σ H := h F H (Gr.refl G.e) _ fun v H2 F2 g p => by
  have M2 := M.step g
  obtain ⟨xs, h2, h3⟩ := M2.h
  have lx := DpAll.len h3
  refine ⟨.ref l, (E.ext g.f).val hi, l, xs, 0, 0, rfl, rfl, h2, ?_, ?_⟩
  · unfold ixN
    rw [if_pos (by decide), if_pos (by omega)]
    rfl
  · exact k _ F2 ((G.tr g).mut M.y M2.f) g.f ⟨M.y, M2.f, xs.set 0 v, upd_same, DpAll.set 0 h3 p⟩
end
/-- _law_pool(script): a pool without words -/
def spPool (K : PySem.W.Frag) : Sp := fun vs H Q _ => ∃ (F : Hp) (ns : List Int), Ext F H ∧ DpAll K F vs [.list (ns.map PyData.int)] ∧ ∀ p H2 F2, Gr no H F H2 F2 → H p = none → PoolAt K p none F2 H2 → Q (.ref p) H2
abbrev sp__law_pool (K : PySem.W.Frag) : Sp := spPool K
section
variable {P : Program} {w : World} {K : PySem.W.Frag} {mg : Str → Option Value} {base : Heap}
/-! ### _law_pool -/
def t__law_pool (K : PySem.W.Frag) : TS :=
  (tSeq (tAsg (tC (.int 7)) (gName 1))
  (tSeq (tFor (iList K (tVar 0)) (gName 2)
    (tAsg (tOp rModI (tCB rIntQ (tCons (tOp rAddI (tOp rMulI (tVar 1) (tC (.int 1000003))) (tVar 2)) tNil)) (tC (.int 2305843009213693951))) (gName 1)))
  (tSeq (tAsg (tCB (rListQ K) (tCons (tVar 0) tNil)) (gName 3))
  (tSeq (tIfS (tAnd (tTest (tOp rGtI (tCB (rLenQ K) (tCons (tVar 3) tNil)) (tC (.int 0)))) (tTest (tOp rEq (tOp rModI (tCB rIntQ (tCons (tOp (rIx K) (tVar 3) (tC (.int 0))) tNil)) (tC (.int 2))) (tC (.int 1))))) (tAsg (tLst tNil) (gName 3)) tNext)
  (tSeq (tIfS (tTest (tOp rGtI (tCB (rLenQ K) (tCons (tVar 3) tNil)) (tC (.int 0)))) (tAsg (tOp rDivI (tOp (rIx K) (tVar 3) (tC (.int 0))) (tC (.int 2))) (gSub (tVar 3) (tC (.int 0)) rSetL)) tNext)
  (tRet (tDisp (((tC (.str "cells")), (tVar 3)) :: (((tC (.str "at")), (tC (.int 0))) :: (((tC (.str "rest")), (tC (.int 0))) :: (((tC (.str "left")), (tC (.int 0))) :: (((tC (.str "small")), (tC (.bl true))) :: (((tC (.str "seed")), (tVar 1)) :: (((tC (.str "turn")), (tC (.int 0))) :: []))))))))))))))

theorem rd__law_pool (vs : List V) (H : Hp) (Q : VK) (E0' : XK) (h : spPool K vs H Q E0') : t__law_pool K { nx := fun _ H' => Q .non H', rt := Q } (L2.start N__law_pool vs) H := by
  obtain ⟨F, ns, x, hd, q⟩ := h
  have E := env_start (N := N__law_pool) hd
  refine st_seq (st_set (Gr.refl x) E (ed_cI (K := K)) fun v H1 F1 G1 g1 p1 E1 => ?_)
  dsimp only
  refine st_seq (st_forL G1 (ed_var E1 rfl) fun H2 F2 G2 g2 => ⟨fun i σ' H' => ∃ (F' : Hp) (z : Int), Gr no H F H' F' ∧ Ext F2 F' ∧ Env K F' σ' [.d (.list (ns.map PyData.int)), .d (.int z), .un, .un], ?_, ?_, ?_, ?_⟩)
  · exact ⟨F2, _, G2, Ext.rfl', E1.ext g2.f⟩
  · rintro i σ' H' ⟨F', _, G', e', _⟩
    exact e'.tr G'.e
  · rintro i t v σ' H' e pv ⟨F', z, G', e', E'⟩
    rw [List.getElem?_map] at e
    cases et : ns[i]? with
    | none => rw [et] at e; cases e
    | some n =>
      rw [et] at e
      obtain rfl : PyData.int n = t := Option.some.inj e
      have E5 := Env.set (o := some v) 2 (s := .d (.int n)) E' ⟨v, rfl, Dp.ext pv e'⟩
      refine st_set G' E5 (ed_op (ed_cb (eda_cons (ed_op (ed_op (ed_var E5 rfl) (ed_cI (K := K)) (od_mul (cmul_s ⟨by decide, by decide⟩))) (ed_var E5 rfl) od_add) eda_nil) cd_int) (ed_cI (K := K)) (od_mod (by decide))) fun v6 H6 F6 G6 g6 p6 E6 => ?_
      exact ⟨F6, _, G6, e'.tr g6.f, E6.weak (by walk_at "wk")⟩
  · rintro σ' H' ⟨F', z, G', e', E'⟩
    dsimp only
    refine st_seq (st_listM G' E' rfl fun l H3 G3 g3 M3 E3 => ?_)
    dsimp only
    refine st_ifS (fun σ' H' => ∃ (F' : Hp) (l : Addr) (ns : List Int), Gr no H F H' F' ∧ Env K F' σ' [.un, .d (.int z), .un, .v (.ref l)] ∧ Ml K H l (ns.map PyData.int) F' H') (fun σ' H' ⟨F', l, ns, G', E', M'⟩ => ?_) (fun rest => ?_)
    · refine st_ifS (fun σ' H' => ∃ (F' : Hp) (l : Addr) (ns : List Int), Gr no H F H' F' ∧ Env K F' σ' [.un, .d (.int z), .un, .v (.ref l)] ∧ Ml K H l (ns.map PyData.int) F' H') (fun σ' H' ⟨F', l, ns, G', E', M'⟩ => ?_) (fun rest => ?_)
      · obtain ⟨F2, e2, G2, pl, _⟩ := M'.last' G'
        have E2 := E'.ext e2
        obtain ⟨vz, hv, pz⟩ := E2.data (i := 1) rfl
        have hl := E2.val (i := 3) rfl
        cases pz
        intro p hp
        have gp : Gr no H' F2 (upd H' p (.dK [])) F2 := Gr.newM G2.e hp
        have hp0 : H p = none := by
          cases e : H p with
          | none => rfl
          | some o => exact absurd hp (G2.t p (by rw [e]; simp))
        refine ⟨.ref l, hl, .int z, hv, ?_⟩
        refine ⟨upd_same, poolK (.ref l) 0 0 0 true z 0 none, rfl, Nat.le_trans (poolK_len _ _ _ _ _ _ _ _) (by decide), ?_⟩
        have hf2 : F2 p = none := G2.e.none_of hp
        have g3 : Gr no H F (upd (upd H' p (.dK [])) p (.dK (mergeK [] (poolK (.ref l) 0 0 0 true z 0 none)))) F2 := (G2.tr gp).mut hp0 hf2
        refine q p _ F2 g3 hp0 ⟨hf2, .ref l, 0, 0, 0, true, z, 0, none, ?_, ⟨ns, pl⟩, Int.le_refl _, rfl⟩
        rw [upd_same]
        rfl
      · have hlen := ed_lenM M' (er_var (i := 3) E' rfl)
        rw [List.length_map] at hlen
        refine st_if G' (edt_test (ed_op hlen (ed_cI (K := K)) od_gt)) (fun hb H4 F4 G4 g4 => ?_) (fun hb H4 F4 G4 g4 => ?_)
        · have hb' := of_decide_eq_true hb
          have h0 : 0 < ns.length := by omega
          have hx : (ns.map PyData.int)[0]? = some (.int ns[0]) := by rw [List.getElem?_map, List.getElem?_eq_getElem h0]; rfl
          have E4 := E'.ext g4.f
          have M4 := M'.step g4
          refine st_set0 G4 M4 E4 rfl (ed_op (ed_ixM M4 (er_var E4 rfl) (ed_cI (K := K)) (show (0 : Int) = ((0 : Nat) : Int) from rfl) hx) (ed_cI (K := K)) (od_div ⟨by decide, by decide⟩)) (by rw [List.length_map]; exact h0) fun H5 F5 G5 e5 M5 => ?_
          refine rest _ _ ⟨F5, l, ns.set 0 (ns[0] / 2), G5, E4.ext e5, ?_⟩
          rw [List.map_set]
          exact M5
        · exact rest _ _ ⟨F4, l, ns, G4, E'.ext g4.f, M'.step g4⟩
    · have hlen := ed_lenM M3 (er_var (i := 3) E3 rfl)
      rw [List.length_map] at hlen
      by_cases h0 : 0 < ns.length
      · have hx : (ns.map PyData.int)[0]? = some (.int ns[0]) := by rw [List.getElem?_map, List.getElem?_eq_getElem h0]; rfl
        refine st_if G3 (edt_and (edt_test (ed_op hlen (ed_cI (K := K)) od_gt)) fun _ => edt_test (ed_op (ed_op (ed_cb (eda_cons (ed_ixM M3 (er_var E3 rfl) (ed_cI (K := K)) (show (0 : Int) = ((0 : Nat) : Int) from rfl) hx) eda_nil) cd_int) (ed_cI (K := K)) (od_mod (by decide))) (ed_cI (K := K)) od_eqI)) (fun hb H4 F4 G4 g4 => ?_) (fun hb H4 F4 G4 g4 => ?_)
        · refine st_new G4 (E3.ext g4.f) fun l' H5 G5 g5 M5 _ E5 => ?_
          exact rest _ _ ⟨F4, l', [], G5, E5.weak (by walk_at "wk"), M5⟩
        · exact rest _ _ ⟨F4, l, ns, G4, (E3.ext g4.f).weak (by walk_at "wk"), M3.step g4⟩
      · refine st_if G3 (edt_and (b := decide ((0 : Int) < (ns.length : Int))) (c := false) (edt_test (ed_op hlen (ed_cI (K := K)) od_gt)) fun hb => ?_) (fun hb H4 F4 G4 g4 => ?_) (fun hb H4 F4 G4 g4 => ?_)
        · have := of_decide_eq_true hb
          omega
        · rw [Bool.and_false] at hb; cases hb
        · exact rest _ _ ⟨F4, l, ns, G4, (E3.ext g4.f).weak (by walk_at "wk"), M3.step g4⟩
theorem dv__law_pool (T : Tx K mg) (cdv : Value) (A : Around) (outer : List PySem.Env) (s : Shared) (H : Hp) (E : XK) (hr : Room 0 (A.deeper (PyProof.Rows.envOfC "_law_pool" (defScope s__law_pool) s.heap.objs.size T.d__law_pool.f cdv))) :
    PSs (cxOf CX0 P w K mg base N__law_pool "_law_pool" (defScope s__law_pool) T.d__law_pool.f cdv A outer s H E).nox (defBody s__law_pool) (t__law_pool K) := by
  exact (pss_cons (ps_set (i := 1) sc__law_pool.nd rfl (Or.inl rfl) pe_int)
  (pss_cons (ps_for PassesOwn.never rfl (pi_list (pv 0)) (pg_name (i := 2) sc__law_pool.nd rfl (Or.inl rfl))
    (pss_one (ps_set (i := 1) sc__law_pool.nd rfl (Or.inl rfl) (pe_op op_mod (pe_callTy call_intQ (by rfl) T.n_int (by decide +kernel) (pa_cons (pe_op op_add (pe_op op_mul (pv 1) pe_int) (pv 2)) pa_nil)) pe_int))))
  (pss_cons (ps_set (i := 3) sc__law_pool.nd rfl (Or.inl rfl) (pe_callTy call_listQ (by rfl) T.n_list (by decide +kernel) (pa_cons (pv 0) pa_nil)))
  (pss_cons (ps_if (PW.pt (pw_and (pt_cmpR op_gt (pe_callB call_lenQ (by rfl) T.n_len (by decide +kernel) (pa_cons (pv 3) pa_nil)) pe_int (nomark _)) (pw_and1 (pt_cmpR op_eq (pe_op op_mod (pe_callTy call_intQ (by rfl) T.n_int (by decide +kernel) (pa_cons (pe_ix ix_seq (pv 3) pe_int (fun _ _ => rfl)) pa_nil)) pe_int) pe_int (nomark _))))) (pss_one (ps_set (i := 3) sc__law_pool.nd rfl (Or.inl rfl) (pe_lst pa_nil))) pss_nil)
  (pss_cons (ps_if (pt_cmpR op_gt (pe_callB call_lenQ (by rfl) T.n_len (by decide +kernel) (pa_cons (pv 3) pa_nil)) pe_int (nomark _)) (pss_one (ps_asg (pe_op op_fdiv (pe_ix ix_seq (pv 3) pe_int (fun _ _ => rfl)) pe_int) (pg_sub (pv 3) pe_int set_list))) pss_nil)
  (pss_one (ps_ret (pe_disp (pps_cons pe_str (pv 3) (pps_cons pe_str pe_int (pps_cons pe_str pe_int (pps_cons pe_str pe_int (pps_cons pe_str pe_bl (pps_cons pe_str (pv 1) (pps_cons pe_str pe_int pps_nil))))))) rfl rfl (by simp) (by decide)))))))))

theorem ok__law_pool (T : Tx K mg) : FnOk P w K mg base CX0 1 T.d__law_pool.f T.d__law_pool.fd ["_law_script"] (sp__law_pool K) :=
  T.d__law_pool.F.ok sc__law_pool (fun vs H Q E h => by obtain ⟨F, ns, _, hd, _⟩ := h; rw [DpAll.len hd]; rfl) (fun cdv A outer s H vs Q E hr h => ⟨t__law_pool K, dv__law_pool T cdv A outer s H E hr, rd__law_pool vs H Q E h⟩)
end
end Gb

set_option maxHeartbeats 1000000
/-! Data of moderate size: what a repr asks. -/
namespace Gb
open PySem L2
mutual
/-- no less than the length of what is shown -/
def siz : PyData → Nat
  | .none => 4
  | .bool _ => 5
  | .int i => if i.natAbs < 10 ^ 40 then 41 else 1000000000
  | .str x => if (x.cps.toList.all fun c => decide (c < 16 ^ 8)) = true then 10 * x.length + 2 else 1000000000
  | .list ds => sizAll ds + 3
  | .tuple ds => sizAll ds + 3
  | .dict _ => 1000000000
def sizAll : List PyData → Nat
  | [] => 0
  | d :: ds => siz d + 2 + sizAll ds
end
theorem int_txt {i : Int} (h : i.natAbs < 10 ^ 40) : (PyData.shown (.int i)).length ≤ 41 := by
  have e := int_text_length_le10 (k := 40) (by decide) h
  show (Str.ofString (toString i)).length ≤ 41
  rw [ofString_length]; omega
mutual
theorem siz_ok : ∀ d : PyData, siz d < 1000000000 → d.shown.length ≤ siz d ∧ d.showable = true ∧ d.hasDict = false
  | .none, _ => ⟨Nat.le_refl _, rfl, rfl⟩
  | .bool b, _ => ⟨by cases b <;> decide, rfl, rfl⟩
  | .int i, h => by
    rw [siz] at h ⊢
    by_cases hi : i.natAbs < 10 ^ 40
    · rw [if_pos hi]
      refine ⟨int_txt hi, ?_, rfl⟩
      show decide (i.natAbs.log2 < 1920) = true
      refine decide_eq_true ?_
      by_cases h0 : i.natAbs = 0
      · rw [h0]; decide
      · rw [Nat.log2_lt h0]
        exact Nat.lt_of_lt_of_le hi (Nat.le_trans (show 10 ^ 40 ≤ 2 ^ 160 by decide) (Nat.pow_le_pow_right (by decide) (by decide)))
    · rw [if_neg hi] at h; omega
  | .str x, h => by
    rw [siz] at h ⊢
    by_cases hx : (x.cps.toList.all fun c => decide (c < 16 ^ 8)) = true
    · rw [if_pos hx]
      refine ⟨PySem.StrLaws.reprText_len x fun c hc => ?_, rfl, rfl⟩
      exact of_decide_eq_true (List.all_eq_true.mp hx c hc)
    · rw [if_neg hx] at h; omega
  | .list ds, h => by
    rw [siz] at h ⊢
    obtain ⟨h1, h2, h3⟩ := sizAll_ok ds (by omega)
    have e := listText_len_le (PyData.shownAll ds)
    have e2 := PyData.shownAll_length ds
    refine ⟨?_, h2, h3⟩
    show (listText (PyData.shownAll ds)).length ≤ _
    omega
  | .tuple ds, h => by
    rw [siz] at h ⊢
    obtain ⟨h1, h2, h3⟩ := sizAll_ok ds (by omega)
    have e := tupleText_len_le (PyData.shownAll ds)
    have e2 := PyData.shownAll_length ds
    refine ⟨?_, h2, h3⟩
    show (tupleText (PyData.shownAll ds)).length ≤ _
    omega
  | .dict _, h => by rw [siz] at h; omega
theorem sizAll_ok : ∀ ds : List PyData, sizAll ds < 1000000000 → ((PyData.shownAll ds).map (·.length)).sum + 2 * ds.length ≤ sizAll ds ∧ PyData.showableAll ds = true ∧ PyData.hasDictAll ds = false
  | [], _ => ⟨Nat.le_refl _, rfl, rfl⟩
  | d :: ds, h => by
    rw [sizAll] at h ⊢
    obtain ⟨h1, h2, h3⟩ := siz_ok d (by omega)
    obtain ⟨k1, k2, k3⟩ := sizAll_ok ds (by omega)
    refine ⟨?_, ?_, ?_⟩
    · simp only [PyData.shownAll, List.map_cons, List.sum_cons, List.length_cons]
      omega
    · simp only [PyData.showableAll, h2, k2, Bool.and_self]
    · simp only [PyData.hasDictAll, h3, k3, Bool.or_self]
end
mutual
theorem siz_sm : ∀ d : PyData, siz d ≤ 2000 → sm d = true
  | .none, _ => rfl
  | .bool _, _ => rfl
  | .int _, _ => rfl
  | .str x, h => by
    rw [siz] at h
    rw [sm]
    split at h
    · exact decide_eq_true (by omega)
    · omega
  | .list ds, h => by
    rw [siz] at h
    obtain ⟨h1, h2⟩ := sizAll_sm ds (by omega)
    rw [sm, h1, decide_eq_true (by omega)]; rfl
  | .tuple ds, h => by
    rw [siz] at h
    obtain ⟨h1, h2⟩ := sizAll_sm ds (by omega)
    rw [sm, h1, decide_eq_true (by omega)]; rfl
  | .dict _, h => by rw [siz] at h; omega
theorem sizAll_sm : ∀ ds : List PyData, sizAll ds ≤ 2000 → smAll ds = true ∧ 2 * ds.length ≤ sizAll ds
  | [], _ => ⟨rfl, Nat.le_refl _⟩
  | d :: ds, h => by
    rw [sizAll] at h ⊢
    obtain ⟨k1, k2⟩ := sizAll_sm ds (by omega)
    refine ⟨?_, ?_⟩
    · rw [smAll, siz_sm d (by omega), k1]; rfl
    · rw [List.length_cons]; omega
end
/-- moderate: n levels, k signs -/
structure Fi (n k : Nat) (d : PyData) : Prop where
  s : siz d ≤ k
  d : d.depth ≤ n
theorem Fi.mono {n k n' k' : Nat} {d : PyData} (h : Fi n k d) (hn : n ≤ n' := by omega) (hk : k ≤ k' := by omega) : Fi n' k' d := ⟨Nat.le_trans h.s hk, Nat.le_trans h.d hn⟩
theorem Fi.shw {n k : Nat} {d : PyData} (h : Fi n k d) (hn : n ≤ 60 := by omega) (hk : k ≤ 100000 := by omega) : shw d = true := by
  have hs := h.s
  have hd := h.d
  obtain ⟨h1, h2, h3⟩ := siz_ok d (by omega)
  unfold Gb.shw
  rw [h2, h3, decide_eq_true (by omega), decide_eq_true (by omega)]
  rfl
theorem Fi.sm {n k : Nat} {d : PyData} (h : Fi n k d) (hk : k ≤ 2000 := by omega) : sm d = true := siz_sm d (Nat.le_trans h.s hk)
theorem fi_none : Fi 0 4 .none := ⟨Nat.le_refl _, by simp [PyData.depth]⟩
theorem fi_bool {b : Bool} : Fi 0 5 (.bool b) := ⟨Nat.le_refl _, by simp [PyData.depth]⟩
theorem fi_int {i : Int} (h : i.natAbs < 10 ^ 40) : Fi 0 41 (.int i) := ⟨by rw [siz, if_pos h]; exact Nat.le_refl _, by simp [PyData.depth]⟩
theorem fi_str {x : Str} {m : Nat} (h : ∀ c ∈ x.cps.toList, c < 16 ^ 8) (hl : x.length ≤ m) : Fi 0 (10 * m + 2) (.str x) := ⟨by
  rw [siz, if_pos (List.all_eq_true.mpr fun c hc => decide_eq_true (h c hc))]; omega, by simp [PyData.depth]⟩
theorem fi_all {n k m : Nat} : ∀ {ds : List PyData}, (∀ d ∈ ds, Fi n k d) → ds.length ≤ m → sizAll ds ≤ m * (k + 2) ∧ PyData.depthAll ds ≤ n
  | [], _, _ => ⟨Nat.zero_le _, by simp [PyData.depthAll]⟩
  | d :: ds, h, hl => by
    obtain ⟨m', rfl⟩ : ∃ m', m = m' + 1 := ⟨m - 1, by rw [List.length_cons] at hl; omega⟩
    obtain ⟨h1, h2⟩ := fi_all (n := n) (k := k) (m := m') (fun d h' => h d (List.mem_cons_of_mem _ h')) (by rw [List.length_cons] at hl; omega)
    have hd := h d List.mem_cons_self
    have hs := hd.s
    have hdd := hd.d
    have e : (m' + 1) * (k + 2) = m' * (k + 2) + (k + 2) := Nat.succ_mul m' (k + 2)
    refine ⟨by rw [sizAll]; omega, ?_⟩
    have e2 : PyData.depthAll (d :: ds) = max d.depth (PyData.depthAll ds) := by simp [PyData.depthAll]
    rw [e2]; omega
theorem fi_tup {n k m : Nat} {ds : List PyData} (h : ∀ d ∈ ds, Fi n k d) (hl : ds.length ≤ m) : Fi (n + 1) (m * (k + 2) + 3) (.tuple ds) := by
  obtain ⟨h1, h2⟩ := fi_all h hl
  refine ⟨by rw [siz]; omega, ?_⟩
  have e : (PyData.tuple ds).depth = PyData.depthAll ds + 1 := by simp [PyData.depth]
  rw [e]; omega
theorem fi_lst {n k m : Nat} {ds : List PyData} (h : ∀ d ∈ ds, Fi n k d) (hl : ds.length ≤ m) : Fi (n + 1) (m * (k + 2) + 3) (.list ds) := by
  obtain ⟨h1, h2⟩ := fi_all h hl
  refine ⟨by rw [siz]; omega, ?_⟩
  have e : (PyData.list ds).depth = PyData.depthAll ds + 1 := by simp [PyData.depth]
  rw [e]; omega
end Gb

set_option maxHeartbeats 1000000
/-! tuple(reversed(t)), t a tuple. reversed(t) hints at its length, so the list that collects makes room first. -/
namespace Gb
open PySem PySem.Spec PyProof.Rows RT
theorem nolen_rt : typeLookup (.type "reversed") "__len__" = pure none := by rw [typeLookup_type, builtinLookup_eq_fast]; kernel_rfl
theorem slot_rt_hint : Slot "reversed" "__length_hint__" "reversed.__length_hint__" :=
  .of (owner := "reversed") (n := "__length_hint__") (by rw [typeLookup_type, builtinLookup_eq_fast]; kernel_rfl) (by decide +kernel) (by decide +kernel) (by decide +kernel)
    (by first | exact .inl (by decide +kernel) | exact .inr (by decide +kernel)) (by rw [isSubtype_type]; kernel_rfl)
theorem entry_rt_hint : entryFor table "reversed.__length_hint__" = some Builtin.«reversed.__length_hint__» := entryFor_of_tree (by kernel_rfl)
theorem args_rt_hint (a : Value) : argsOk "reversed.__length_hint__" ⟨[a], []⟩ := by
  unfold argsOk; rw [signature?_of (id := "reversed.__length_hint__") (n := ['_', '_', 't', 'n', 'i', 'h', '_', 'h', 't', 'g', 'n', 'e', 'l', '_', '_']) (o := ['d', 'e', 's', 'r', 'e', 'v', 'e', 'r']) (by kernel_rfl) owner_rt]; kernel_rfl
abbrev backAt (items : Array Value) (i : Nat) (v : Value) : Prop := items[items.size - 1 - i]? = some v
/-- the reversed object at it, over the tuple at t, behind i items -/
structure RtAt (it t : Addr) (items : Array Value) (i : Nat) (h : Heap) : Prop where
  le : i ≤ items.size
  it : IsRt h it t ((items.size : Int) - 1 - (i : Int))
  tup : IsTup h t items
theorem RtAt.mv {it t : Addr} {items : Array Value} {i : Nat} {h h' : Heap} (r : RtAt it t items i h) (k1 : ∀ o, h.get? it = some o → h'.get? it = some o) (k2 : ∀ o, h.get? t = some o → h'.get? t = some o) : RtAt it t items i h' := by
  obtain ⟨le, at1, o, g, m⟩ := r
  exact ⟨le, at1.at k1, o, k2 o g, m⟩
theorem RtAt.first {it t : Addr} {items : Array Value} {h : Heap} (r : RtAt it t items 0 h) : IsRt h it t ((items.size : Int) - 1) := by
  have q := r.it
  rwa [show (items.size : Int) - 1 - ((0 : Nat) : Int) = (items.size : Int) - 1 by omega] at q
theorem RtAt.start {it t : Addr} {items : Array Value} {h : Heap} (a : IsRt h it t ((items.size : Int) - 1)) (b : IsTup h t items) : RtAt it t items 0 h := ⟨Nat.zero_le _, by rwa [show (items.size : Int) - 1 - ((0 : Nat) : Int) = (items.size : Int) - 1 by omega], b⟩
theorem walks_rt {prog : Program} {w : World} {A : Around} (nh : A.handled = none) (it t : Addr) (ne : t ≠ it) (items : Array Value) (sz : items.size ≤ sizeLine) :
    Walks prog w A it [it, t] [it] items.size (backAt items) (RtAt it t items) where
  sub := fun b m => by rw [List.mem_singleton.mp m]; exact List.mem_cons_self
  frame := fun _ _ _ r kk => r.mv (fun o => kk it List.mem_cons_self o) (fun o => kk t (List.mem_cons_of_mem _ List.mem_cons_self) o)
  self := fun _ _ _ _ r q => iter_rt r.it q
  item := fun i s Q E lt r q => by
    have got : backAt items i (items[items.size - 1 - i]'(by omega)) := Array.getElem?_eq_getElem (by omega)
    have at1 := r.it
    rw [show (items.size : Int) - 1 - (i : Int) = ((items.size - 1 - i : Nat) : Int) by omega] at at1
    refine next_rt_item at1 r.tup got sz fun h2 at2 same => q _ h2 (s.toks + 1) got ⟨lt, ?_, ?_⟩ fun b o nb g => same.extBut b o (fun e => nb (e ▸ List.mem_cons_self)) g
    · rwa [show ((items.size - 1 - i : Nat) : Int) - 1 = (items.size : Int) - 1 - ((i + 1 : Nat) : Int) by omega] at at2
    · obtain ⟨o, g, m⟩ := r.tup
      exact ⟨o, (same.2 t ne).trans g, m⟩
  done := fun s Q E r q => by
    have at1 := r.it
    rw [show (items.size : Int) - 1 - (items.size : Int) = -1 by omega] at at1
    exact next_rt_end nh at1 fun h2 kk => q h2 s.toks fun b o nb g => kk b o (fun e => nb (e ▸ List.mem_cons_self)) g
section
variable {prog : Program} {w : World} {A : Around} {E : Value → Shared → Prop} {s : Shared}
/-- its hint: the number of items that are left -/
theorem hint_run {it t : Addr} {items : Array Value} {Q : Value → Shared → Prop} (r : RtAt it t items 0 s.heap) (sz : items.size ≤ 16777216)
    (q : ∀ u tk, s.toks ≤ tk → Q (.int (items.size : Int) u) { s with toks := tk }) : wpAny (model prog w) A (Builtin.«reversed.__length_hint__» ⟨[.ref it], []⟩) (fun fin s' => ∃ v, fin = .done (.ret v) ∧ Q v s') E s := by
  obtain ⟨o, g, _, dat⟩ := r.first
  unfold Builtin.«reversed.__length_hint__»
  refine wpAny_bind (wpAny_of_eq (a := Value.ref it) (by first | rfl | kernel_rfl) (wpAny_bind (wpAny_field g dat (x := .ref t) rfl ?_)))
  show wpAny _ _ (if (Value.ref t == .none) = true then _ else _) _ _ s
  rw [if_neg (by simp : ¬ ((Value.ref t == Value.none) = true))]
  refine wpAny_bind (PyProof.Rows.len_tuple r.tup (by omega) (wpAny_bind (wpAny_of_eq (a := some ((items.size : Nat) : Int)) rfl ?_)))
  refine wpAny_bind (wpAny_field (s := { s with toks := s.toks + 1 + 1 }) g dat (x := rawInt ((items.size : Int) - 1)) rfl ?_)
  show wpAny _ _ (if (items.size : Int) < (items.size : Int) - 1 + 1 then _ else _) _ _ _
  rw [if_neg (by omega), show (items.size : Int) - 1 + 1 = (items.size : Int) by omega]
  exact wpAny_bind (wpAny_mkInt (wpAny_pure ⟨_, rfl, q _ _ (by dsimp only; omega)⟩))
/-- an empty list -/
abbrev mtL : Obj := { cls := .type "list", data := .seq ([] : List Value).toArray }
theorem collect_rt {it t : Addr} {items : Array Value} {Q : List Value → Shared → Prop} (nh : A.handled = none) (at0 : IsRt s.heap it t ((items.size : Int) - 1)) (tup0 : IsTup s.heap t items) (ne : t ≠ it) (sz : items.size ≤ sizeLine)
    (q : ∀ (h' : Heap) (tk : Nat) (acc : Array Value), (∀ b o, b ≠ it → s.heap.get? b = some o → h'.get? b = some o) → ItemsOf (backAt items) acc items.size → Q acc.toList { s with heap := h', toks := tk }) :
    wpAny (model prog w) A (collect (.ref it)) Q E s := by
  have small : items.size ≤ 16777216 := by rw [← sizeLine_eq]; exact sz
  have old : ∀ b o, s.heap.get? b = some o → b ≠ s.heap.objs.size := fun b o e => Nat.ne_of_lt (Heap.lt_size e)
  have nIt : it ≠ s.heap.objs.size := by obtain ⟨o, g, _⟩ := id at0; exact old _ _ g
  have nT : t ≠ s.heap.objs.size := by obtain ⟨o, g, _⟩ := id tup0; exact old _ _ g
  have far : s.heap.objs.size ∉ [it, t] := fun m => by
    rcases List.mem_cons.mp m with e | m
    · exact nIt e.symm
    · exact nT (List.mem_singleton.mp m).symm
  have up : ∀ b o, s.heap.get? b = some o → (s.heap.push mtL).get? b = some o := fun b o e => Heap.get?_push_of_some _ e
  have r1 : RtAt it t items 0 (s.heap.push mtL) := (RtAt.start at0 tup0).mv (fun o => up it o) (fun o => up t o)
  have gL : (s.heap.push mtL).get? s.heap.objs.size = some mtL := Heap.get?_push_size _ rfl
  have ty : ∀ tk, ({ s with heap := s.heap.push mtL, toks := tk } : Shared).TypeIs (.ref it) "reversed" := fun tk => IsRt.typeIs (s := { s with heap := s.heap.push mtL, toks := tk }) r1.first
  have other : Builtin.List.listSameRef (.ref s.heap.objs.size) (.ref it) = false := by simp [Builtin.List.listSameRef, Ne.symm nIt]
  unfold collect
  refine wpAny_bind (wpAny_runValue (codeAny_builtin F.entry_proto_collect ?_))
  rw [Around.under_plainId F.plain_proto_collect _]
  show wpAny _ A.in1 (newList [] >>= fun l' => again (.builtin "list.__iadd__" ⟨[l', .ref it], []⟩)) _ _ s
  refine wpAny_bind (wpAny_newObj_type (wpAny_pure ⟨plainId_quiet F.plain_list_iadd _, codeAny_builtin F.entry_list_iadd ?_⟩))
  rw [Around.under_plainId F.plain_list_iadd _]
  show wpAny _ A.in1 (Builtin.List.listExtendWith (.ref s.heap.objs.size) (.ref it) (.ref s.heap.objs.size)) _ _ _
  unfold Builtin.List.listExtendWith
  refine wpAny_bind (wpAny_typeOf (ty s.toks) ?_)
  rw [if_neg (by rw [other]; exact Bool.false_ne_true)]
  refine wpAny_bind (iter_rt (s := { s with heap := s.heap.push mtL }) r1.first (wpAny_bind (wpAny_holding ?_)))
  -- the hint
  unfold Builtin.List.listLengthHint
  refine wpAny_bind (wpAny_specialOf (ty s.toks) nolen_rt ?_)
  show wpAny _ A.in1 (specialOf (Value.ref it) (Str.ofString "__length_hint__") >>= _) _ _ _
  refine wpAny_bind (wpAny_specialOf (ty s.toks) slot_rt_hint.lookup ?_)
  generalize hid : ("reversed.__length_hint__" : String) = id0
  wp_delta
  rw [show splitId id0 = some ("reversed", "__length_hint__") from by subst hid; decide +kernel]
  subst hid
  refine wpAny_bind (wpAny_isInstance (b := true) (ty s.toks) (by rw [isSubtype_type]; kernel_rfl) (wpAny_bind (wpAny_rule (wpAny_bind (wpAny_of_eq (slot_rt_hint.bind _) ?_)))))
  dsimp only
  refine wpAny_bind (wpAny_attempt (wpAny_call_entry slot_rt_hint (ty s.toks) entry_rt_hint (hint_run r1 small fun u tk htk => ?_) (args_rt_hint _)))
  dsimp only
  rw [show asInt? (Value.int (items.size : Int) u) = pure (some (items.size : Int)) from rfl, pure_bind]
  dsimp only
  rw [if_neg (by simp [Builtin.List.listFitsIndex]; omega), if_neg (show ¬ ((items.size : Int) < 0) by omega), if_neg (by simp [Builtin.List.listTooLong]; omega)]
  refine wpAny_pure ?_
  -- the loop and what comes of it
  have W := (walks_rt (prog := prog) (w := w) (A := A.in1) nh it t ne items sz).toS
  have fin : ∀ {h1 : Heap} {s' : Shared} {acc : Array Value}, (∀ b o, s.heap.get? b = some o → h1.get? b = some o) → Moved (s.heap.objs.size :: [it]) (fun a b => b = a) { s with heap := h1, toks := tk } s' → ItemsOf (backAt items) acc items.size → Q acc.toList s' := fun {h1 s' acc} k m hacc => by
    rw [Moved.eq_with m]
    refine q s'.heap s'.toks acc (fun b o nb g => m.heap b o (fun mem => ?_) (k b o g)) hacc
    rcases List.mem_cons.mp mem with e | mem
    · exact old b o g e
    · exact nb (List.mem_singleton.mp mem)
  by_cases h0 : items.size = 0
  · show wpAny _ _ (if (((items.size : Int) != 0) || false) = true then _ else _) _ _ _
    rw [if_neg (by rw [h0]; decide)]
    refine wpAny_pure ⟨plainId_quiet F.plain_extend_loop _, codeAny_extend_loopS W sz _ far _ items.size 0 _ _ _ rfl (Nat.zero_le _) r1 gL (ItemsOf.nil _) fun s' acc c' m g hacc => ?_⟩
    show wpAny _ A (load s.heap.objs.size >>= _) _ _ s'
    exact wpAny_bind (wpAny_load g (wpAny_pure (fin up m hacc)))
  · show wpAny _ _ (if (((items.size : Int) != 0) || false) = true then _ else _) _ _ _
    rw [if_pos (by rw [Bool.or_false, bne_iff_ne]; omega)]
    refine wpAny_bind (wpAny_rule (wpAny_bind ?_))
    show wpAny _ A.in1 (updateSeq s.heap.objs.size (·.push .none) >>= fun _ => updateSeq s.heap.objs.size (·.pop)) _ _ _
    have g2 := Heap.get?_update_self (Obj.mapSeq (·.push Value.none)) gL rfl
    have g3 := Heap.get?_update_self (Obj.mapSeq (·.pop)) g2 rfl
    have keep : ∀ b o, b ≠ s.heap.objs.size → (s.heap.push mtL).get? b = some o → (((s.heap.push mtL).update s.heap.objs.size (Obj.mapSeq (·.push Value.none))).update s.heap.objs.size (Obj.mapSeq (·.pop))).get? b = some o := fun b o nb e => by
      rw [Heap.get?_update_other _ _ (Ne.symm nb), Heap.get?_update_other _ _ (Ne.symm nb)]
      exact e
    refine wpAny_bind (wpAny_updateSeq gL rfl (wpAny_updateSeq g2 rfl ?_))
    refine wpAny_pure ⟨plainId_quiet F.plain_extend_loop _, codeAny_extend_loopS W sz _ far _ items.size 0 _ _ _ rfl (Nat.zero_le _) (r1.mv (fun o => keep it o nIt) (fun o => keep t o nT)) g3 (ItemsOf.nil _) fun s' acc c' m g hacc => ?_⟩
    show wpAny _ A (load s.heap.objs.size >>= _) _ _ s'
    exact wpAny_bind (wpAny_load g (wpAny_pure (fin (fun b o e => keep b o (old b o e) (up b o e)) m hacc)))
theorem new_tuple_rt {it t : Addr} {items : Array Value} {Q₁ : Value → Shared → Prop} (hh : A.handled = none) (hit : IsRt s.heap it t ((items.size : Int) - 1)) (ht : IsTup s.heap t items) (hne : t ≠ it) (hn : items.size ≤ sizeLine)
    (h : ∀ (h' : Heap) (tk : Nat) (acc : Array Value), (∀ b o, b ≠ it → s.heap.get? b = some o → h'.get? b = some o) → ItemsOf (backAt items) acc items.size →
      Q₁ (.ref h'.objs.size) { s with heap := h'.push { cls := .type "tuple", data := .seq acc }, toks := tk }) :
    codeAny (model prog w) A (.call (.builtin "tuple.__new__") ⟨[.type "tuple", .ref it], []⟩) (wants Q₁ E) s := by
  refine codeAny_of_tree ?_
  show wpAny _ A.in1 (do checkBuiltinCall "tuple.__new__" ⟨[.type "tuple", .ref it], []⟩; again (.builtin "tuple.__new__" ⟨[.type "tuple", .ref it], []⟩)) _ _ s
  refine wpAny_bind (wpAny_of_eq (F.newCall_tuple_1 _) (wpAny_pure ⟨plainId_quiet F.plain_tuple_new _, codeAny_builtin F.entry_tuple_new ?_⟩))
  rw [Around.under_plainId F.plain_tuple_new _]
  have hsub := sub_tuple_self
  have hinit := init_tuple_lookup
  have hmh := madeHere_tuple
  have hTI : s.TypeIs (.ref it) "reversed" := hit.typeIs
  have hh1 : A.in1.handled = none := hh
  wp_walk using wpAny_typeOf hTI, collect_rt (A := A.in1) hh1 hit ht hne hn
  intro h' tk acc hk hacc
  show wpAny _ _ (Builtin.Tuple.tupleExact acc.toList.toArray >>= fun v => ret v) _ _ _
  unfold Builtin.Tuple.tupleExact
  refine wpAny_bind (wpAny_newObj_type ?_ (by show acc.toList.toArray.size ≤ sizeLine; simp only [Array.toArray_toList]; rw [hacc.1]; exact hn))
  refine wpAny_pure ?_
  rw [show acc.toList.toArray = acc by simp]
  exact h h' tk acc hk hacc
theorem call_tuple_rt {it t : Addr} {items : Array Value} {Q : Value → Shared → Prop} (hh : A.handled = none) (hit : IsRt s.heap it t ((items.size : Int) - 1)) (ht : IsTup s.heap t items) (hne : t ≠ it) (hn : items.size ≤ sizeLine)
    (hQ : ∀ (h' : Heap) (tk : Nat) (acc : Array Value), (∀ b o, b ≠ it → s.heap.get? b = some o → h'.get? b = some o) → ItemsOf (backAt items) acc items.size →
      Q (.ref h'.objs.size) { s with heap := h'.push { cls := .type "tuple", data := .seq acc }, toks := tk }) :
    wpAny (model prog w) A (call (.type "tuple") [.ref it]) Q E s := by
  refine callType_codes (Q₁ := fun obj s₁ => s₁.TypeIs obj "tuple" ∧ Q obj s₁) F.called_tuple (F.typeCall_tuple_1 _) F.entry_object_init
    (new_tuple_rt (A := A.in1) hh hit ht hne hn fun h' tk acc hk hacc => ⟨⟨_, Heap.get?_push_size _ rfl, rfl⟩, hQ h' tk acc hk hacc⟩) fun obj s₁ h₁ => ?_
  exact ⟨h₁.1, F.args_object_init_2 obj _, object_init_meets F.called_tuple.init.lookup F.called_tuple.made (by decide) prog w A.in1 _ s₁ ⟨h₁.1, rfl, h₁.2⟩⟩
end
end Gb
namespace Gb
open PySem PySem.Spec PyProof.Rows RT L2
/-- tuple(reversed(x)), x a tuple: a new tuple -/
def tTupRevT (K : PySem.W.Frag) (te : TE) : TE := fun σ H Q => te σ H fun v H1 => ∃ (a : Addr) (xs : List V), v = .ref a ∧ SqT K H1 a xs ∧ ∀ q, H1 q = none → Q (.ref q) (upd H1 q (.tup xs.reverse))
theorem pe_tupRevT {X : Cx} {e : Expr} {te : TE} {p p2 pos pos2 : Pos} (hc : X.calm = true) (hg : Gl X "tuple") (hm : X.mg "tuple" = none) (hg2 : Gl X "reversed") (hm2 : X.mg "reversed" = none) (he : PE X e te)
    (hs : starEach [e] X.env = (false, eval e X.env) :: starEach [] X.env := by rfl)
    (hs2 : starEach [.Call (.Name "reversed" p2) [e] [] pos2] X.env = (false, eval (.Call (.Name "reversed" p2) [e] [] pos2) X.env) :: starEach [] X.env := by rfl) :
    PE X (.Call (.Name "tuple" p) [.Call (.Name "reversed" p2) [e] [] pos2] [] pos) (tTupRevT X.K te) := by
  refine ⟨fun pins s σ H Q I h => ?_⟩
  refine Call_ (ld_blt I hg hm boot_tuple (PyProof.Rows.callWith_type1 (args_cons (Call_ (ld_blt I hg2 hm2 PyProof.Rows.boot_reversed (PyProof.Rows.callWith_type1 (args_cons (thn (he.run pins s σ H _ I h) fun u s1 ⟨v, H1, I1, r1, q1⟩ => args_nil ?_) hs) hs rfl))) hs2) hs2 rfl))
  obtain ⟨a, xs, ev, hq, q⟩ := q1
  subst ev
  obtain rfl : u = Value.ref a := r1
  obtain ⟨its, rv, p', hz⟩ := I1.tuple hq
  have hn : its.toArray.size ≤ sizeLine := by rw [List.size_toArray, ← rv.length]; exact hz
  have h63 : its.toArray.size ≤ 16777216 := by rw [sizeLine_eq] at hn; exact hn
  refine call_reversed_tup p' (fun A E Q k => PyProof.Rows.len_tuple p' (by omega) k) (args_nil ?_)
  have k0 : ∀ b o, s1.heap.get? b = some o → (s1.heap.push (rtObj a ((its.toArray.size : Int) - 1))).get? b = some o := fun b o e => Heap.get?_push_of_some _ e
  have I2 : Inv X pins σ H1 { s1 with heap := s1.heap.push (rtObj a ((its.toArray.size : Int) - 1)), toks := s1.toks + 1 + 1 } := I1.kept (t' := s1.toks + 1 + 1) k0
  obtain ⟨f0, f1, f2, f3, f4, f5⟩ := I1.fpOk (H' := H1) (b := s1.heap.objs.size) (Nat.le_refl _) (I1.hok.fresh (Nat.le_refl _))
  obtain ⟨ot, hot, rt⟩ := id p'
  have hne : a ≠ s1.heap.objs.size := Nat.ne_of_lt (Heap.lt_size hot)
  refine call_tuple_rt (s := { s1 with heap := s1.heap.push (rtObj a ((its.toArray.size : Int) - 1)), toks := s1.toks + 1 + 1 }) (I1.ok.hd hc) ⟨_, Heap.get?_push_size _ rfl, rfl, rfl⟩ ⟨ot, k0 _ _ hot, rt⟩ hne hn fun h' tk acc hk hi => ?_
  have I3 : Inv X pins σ H1 { s1 with heap := h', toks := tk } := I2.turned (t' := tk) (fun b o hb e => hk b o hb e) f0 f1 f3 f4 f5
  refine ⟨.ref h'.objs.size, upd H1 h'.objs.size (.tup xs.reverse), I3.laid (t' := tk) (fun c o e => Heap.get?_push_of_some _ e) (Nat.le_refl _) (show ObjOk X.prog X.w _ _ _ (.tup xs.reverse) from ⟨by rw [List.length_reverse]; exact hz, acc.toList, vals_rev rv hi, ?_⟩), rfl, q _ (I3.hok.fresh (Nat.le_refl _))⟩
  rw [Array.toArray_toList]
  exact IsTup.new _ _
theorem ed_tupRevT {K : PySem.W.Frag} {σ : L2.St} {F H : Hp} {te : TE} {ds : List PyData} (h : Ed K te σ F H (.tuple ds)) : Ed K (tTupRevT K te) σ F H (.tuple ds.reverse) := fun F1 H1 g Q q => h F1 H1 g _ fun v H2 F2 g2 p2 => by
  cases p2 with
  | @tup a xs _ hs ha => exact ⟨a, xs, rfl, sqt_ext g2.e hs, fun p hp => q _ _ (upd F2 p (.tup xs.reverse)) (g2.tr (Gr.new g2.e hp)) (.tup (.inl (.inl upd_same)) (DpAll.ext (DpAll.rev ha) (Ext.new (g2.e.none_of hp))))⟩
end Gb

set_option maxHeartbeats 1000000
namespace Gb
open PySem L2
local macro_rules | `(tactic| walk_at "wk") => `(tactic| (repeat' (first | exact trivial | exact Or.inl rfl | exact Or.inr rfl | apply And.intro)))
theorem cut_mem {ds : List PyData} {lo hi : Option Int} {d : PyData} (h : d ∈ cutD ds lo hi) : d ∈ ds := List.mem_of_mem_drop (List.mem_of_mem_take h)
theorem cut_hd {ds : List PyData} (k : Nat) : (cutD ds none (some (k : Int))).length ≤ min k ds.length := by
  unfold cutD
  rw [HT.sIx_nat, HT.sIx_none, List.length_take, List.length_drop]
  omega
theorem cut_tl {ds : List PyData} (k : Nat) : (cutD ds (some (k : Int)) none).length ≤ ds.length - k := by
  unfold cutD
  rw [HT.sIx_nat, HT.sIx_none, List.length_take, List.length_drop]
  omega
theorem fi_nat {i : Int} (h : -1000 ≤ i ∧ i ≤ 1000) : Fi 0 41 (.int i) := fi_int (by
  have e : (1000 : Nat) < 10 ^ 40 := by decide
  omega)
theorem fi_pair {x y : Int} (hx : -1000 ≤ x ∧ x ≤ 1000) (hy : -1000 ≤ y ∧ y ≤ 1000) : Fi 3 132 (.tuple [.int x, .int y]) := (fi_tup (n := 0) (k := 41) (m := 2) (fun d hd => by
  rcases List.mem_cons.mp hd with rfl | hd
  · exact fi_nat hx
  · rw [List.mem_singleton.mp hd]; exact fi_nat hy) (Nat.le_refl _)).mono
theorem fi_match {l : List (Nat × Nat)} (h : smallM l) : ∀ d ∈ l.map pairD, Fi 3 132 d := fun d hd => by
  obtain ⟨q, hq, rfl⟩ := List.mem_map.mp hd
  have := h.2 q hq
  exact fi_pair (by omega) (by omega)
def Pre_spoilt (ds : List PyData) : Prop := ∃ l : List (Nat × Nat), ds = [.tuple (l.map pairD)] ∧ smallM l
def R__law_spoilt (ds : List PyData) (d : PyData) : Prop := Fi 5 1800 d
abbrev sp__law_spoilt (K : PySem.W.Frag) (wl : List Str) : Sp := spP K (some wl) Pre_spoilt R__law_spoilt
section
variable {P : Program} {w : World} {K : PySem.W.Frag} {mg : Str → Option Value} {base : Heap} {wl : List Str}
theorem fi_cat {ds es : List PyData} (h : ∀ d ∈ ds ++ es, Fi 3 132 d) (hl : (ds ++ es).length ≤ 13) : Fi 5 1800 (.tuple (ds ++ es)) := (fi_tup h hl).mono
/-! ### _law_spoilt -/
def t__law_spoilt (wl : List Str) (K : PySem.W.Frag) : TS :=
  (tSeq (tAsg (tCall (sp__law_take K (some wl)) [] E0 (tCons (tVar 0) (tCons (tC (.int 9)) tNil))) (gName 2))
  (tSeq (tAsg (tTup (tCons (tOp rSubI (tCall (sp__law_take K (some wl)) [] E0 (tCons (tVar 0) (tCons (tC (.int 15)) tNil))) (tC (.int 1))) (tCons (tOp rSubI (tCall (sp__law_take K (some wl)) [] E0 (tCons (tVar 0) (tCons (tC (.int 15)) tNil))) (tC (.int 1))) tNil))) (gName 3))
  (tSeq (tAsg (tCall (sp__law_take K (some wl)) [] E0 (tCons (tVar 0) (tCons (tOp rAddI (tCB (rLenQ K) (tCons (tVar 1) tNil)) (tC (.int 1))) tNil))) (gName 4))
  (tSeq (tIfS (tTest (tOp rEq (tVar 2) (tC (.int 0)))) (tRet (tCB (rListQ K) (tCons (tVar 1) tNil))) tNext)
  (tSeq (tIfS (tTest (tOp rEq (tVar 2) (tC (.int 1)))) (tRet (tOp (rCatA K) (tOp (rCatA K) (tSl (rSlA K) (tVar 1) tNoPart (tPart (tVar 4))) (tTup (tCons (tVar 3) tNil))) (tSl (rSlA K) (tVar 1) (tPart (tVar 4)) tNoPart))) tNext)
  (tSeq (tIfS (tTest (tOp rEq (tVar 2) (tC (.int 2)))) (tRet (tOp (rCatA K) (tOp (rCatA K) (tSl (rSlA K) (tVar 1) tNoPart (tPart (tVar 4))) (tTup (tCons (tVar 3) tNil))) (tSl (rSlA K) (tVar 1) (tPart (tOp rAddI (tVar 4) (tC (.int 1)))) tNoPart))) tNext)
  (tSeq (tIfS (tTest (tOp rEq (tVar 2) (tC (.int 3)))) (tRet (tTupRevT K (tVar 1))) tNext)
  (tSeq (tIfS (tTest (tOp rEq (tVar 2) (tC (.int 4)))) (tRet (tOp (rCatA K) (tOp (rCatA K) (tSl (rSlA K) (tVar 1) tNoPart (tPart (tVar 4))) (tTup (tCons (tCB (rListQ K) (tCons (tVar 3) tNil)) tNil))) (tSl (rSlA K) (tVar 1) (tPart (tOp rAddI (tVar 4) (tC (.int 1)))) tNoPart))) tNext)
  (tSeq (tIfS (tTest (tOp rEq (tVar 2) (tC (.int 5)))) (tRet (tOp (rCatA K) (tOp (rCatA K) (tSl (rSlA K) (tVar 1) tNoPart (tPart (tVar 4))) (tTup (tCons (tTup (tCons (tOp rEq (tCall (sp__law_take K (some wl)) [] E0 (tCons (tVar 0) (tCons (tC (.int 2)) tNil))) (tC (.int 1))) (tCons (tOp (rIx K) (tVar 3) (tC (.int 1))) tNil))) tNil))) (tSl (rSlA K) (tVar 1) (tPart (tOp rAddI (tVar 4) (tC (.int 1)))) tNoPart))) tNext)
  (tSeq (tIfS (tTest (tOp rEq (tVar 2) (tC (.int 6)))) (tRet (tOp (rCatA K) (tOp (rCatA K) (tSl (rSlA K) (tVar 1) tNoPart (tPart (tVar 4))) (tTup (tCons (tTup (tCons (tOp (rIx K) (tVar 3) (tC (.int 0))) (tCons (tOp (rIx K) (tVar 3) (tC (.int 1))) (tCons (tC (.int 0)) tNil)))) tNil))) (tSl (rSlA K) (tVar 1) (tPart (tOp rAddI (tVar 4) (tC (.int 1)))) tNoPart))) tNext)
  (tSeq (tIfS (tTest (tOp rEq (tVar 2) (tC (.int 7)))) (tRet (tOp (rCatA K) (tSl (rSlA K) (tVar 1) tNoPart (tPart (tVar 4))) (tSl (rSlA K) (tVar 1) (tPart (tOp rAddI (tVar 4) (tC (.int 1)))) tNoPart))) tNext)
  (tRet (tOp (rIx K) (tLst (tCons (tC .non) (tCons (tC (.int 0)) (tCons (tC (.bl true)) (tCons (tC (.str "")) (tCons (tC (.str "ab")) (tCons (tTup (tCons (tC (.int 0)) (tCons (tC (.int 0)) tNil))) (tCons (tTup (tCons (tTup tNil) tNil)) (tCons (tTup (tCons (tTup (tCons (tC .non) (tCons (tC (.int 0)) tNil))) tNil)) (tCons (tTup (tCons (tTup (tCons (tC (.int 0)) (tCons (tC (.str "a")) tNil))) tNil)) (tCons (tTup (tCons (tTup (tCons (tOp rPowI (tC (.int 10)) (tC (.int 30))) (tCons (tC (.int 0)) tNil))) tNil)) tNil))))))))))) (tCall (sp__law_take K (some wl)) [] E0 (tCons (tVar 0) (tCons (tC (.int 10)) tNil))))))))))))))))

theorem rd__law_spoilt : KeepsP K N__law_spoilt (some wl) Pre_spoilt R__law_spoilt (t__law_spoilt wl K) := by
  intro H F p vs ds Q x po hd hpre q
  obtain ⟨l, rfl, hl⟩ := hpre
  have hfi := fi_match hl
  have hlen : (l.map pairD).length ≤ 12 := by rw [List.length_map]; exact hl.1
  generalize hm : l.map pairD = m at *
  have E := envP_start (p := p) (N := N__law_spoilt) hd
  have S0 : Cp K p (some wl) H F F H := ⟨Gr.refl x, po⟩
  refine st_seq (p_set S0 E (ep_take E rfl ep_cI (by decide) (by decide)) fun v d H1 F1 S1 g1 r1 pd1 E1 => ?_)
  obtain ⟨way, rfl, w0, w1⟩ := r1
  dsimp only
  refine st_seq (p_set S1 E1 (R := fun d => ∃ x y : Int, d = .tuple [.int x, .int y] ∧ (-1 ≤ x ∧ x ≤ 13) ∧ -1 ≤ y ∧ y ≤ 13) (ep_tup (epa_cons (ep_op (R := fun d => ∃ x : Int, d = .int x ∧ -1 ≤ x ∧ x ≤ 13) (ep_take E1 rfl ep_cI (by decide) (by decide)) ep_cI fun d1 d2 r1 r2 => by
      obtain ⟨r, rfl, h0, h1⟩ := r1
      subst r2
      exact ⟨_, od_sub, r - 1, rfl, by omega, by omega⟩) (epa_cons (ep_op (R := fun d => ∃ x : Int, d = .int x ∧ -1 ≤ x ∧ x ≤ 13) (ep_take E1 rfl ep_cI (by decide) (by decide)) ep_cI fun d1 d2 r1 r2 => by
      obtain ⟨r, rfl, h0, h1⟩ := r1
      subst r2
      exact ⟨_, od_sub, r - 1, rfl, by omega, by omega⟩) epa_nil)) fun ds h => by
    obtain ⟨d1, ds1, rfl, ⟨x, rfl, x0, x1⟩, d2, ds2, rfl, ⟨y, rfl, y0, y1⟩, rfl⟩ := h
    exact ⟨by show 2 ≤ 1000; omega, x, y, rfl, ⟨x0, x1⟩, y0, y1⟩) fun v d H2 F2 S2 g2 r2 pd2 E2 => ?_)
  obtain ⟨px, py, rfl, ⟨x0, x1⟩, y0, y1⟩ := r2
  dsimp only
  refine st_seq (p_set S2 E2 (ep_take (m := (m.length : Int) + 1) E2 rfl (ep_ed (fun F1 H1 e x => ed_op (ed_cb (eda_cons (ed_var (E2.ext e) rfl) eda_nil) cd_lenT) (ed_cI (K := K)) od_add) rfl) (by omega) (by omega)) fun v d H3 F3 S3 g3 r3 pd3 E3 => ?_)
  obtain ⟨at_, rfl, a0, a1⟩ := r3
  obtain ⟨k, rfl⟩ : ∃ k : Nat, at_ = (k : Int) := ⟨at_.toNat, by omega⟩
  have hk : k ≤ m.length := by omega
  have hpair : Fi 3 132 (.tuple [.int px, .int py]) := fi_pair (by omega) (by omega)
  -- what a return may tell
  have ret : ∀ {te : TE} {σ : L2.St} {F H' : Hp} {D : Ends} {d : PyData}, D.rt = Q → Cp K p (some wl) H F1 F H' ∨ True → True := fun _ _ => trivial
  have front : ∀ {F H : Hp} {σ : L2.St} {ρ : List Sv}, Env K F σ ρ → ρ[1]? = some (.d (.tuple m)) → ρ[4]? = some (.d (.int (k : Int))) → Ed K (tSl (rSlA K) (tVar 1) tNoPart (tPart (tVar 4))) σ F H (.tuple (cutD m none (some (k : Int)))) := fun E h1 h2 => ed_sl (ed_var E h1) edo_none (edo_some (ed_var E h2)) sd_tup
  have back0 : ∀ {F H : Hp} {σ : L2.St} {ρ : List Sv}, Env K F σ ρ → ρ[1]? = some (.d (.tuple m)) → ρ[4]? = some (.d (.int (k : Int))) → Ed K (tSl (rSlA K) (tVar 1) (tPart (tVar 4)) tNoPart) σ F H (.tuple (cutD m (some (k : Int)) none)) := fun E h1 h2 => ed_sl (ed_var E h1) (edo_some (ed_var E h2)) edo_none sd_tup
  have back1 : ∀ {F H : Hp} {σ : L2.St} {ρ : List Sv}, Env K F σ ρ → ρ[1]? = some (.d (.tuple m)) → ρ[4]? = some (.d (.int (k : Int))) → Ed K (tSl (rSlA K) (tVar 1) (tPart (tOp rAddI (tVar 4) (tC (.int 1)))) tNoPart) σ F H (.tuple (cutD m (some ((k + 1 : Nat) : Int)) none)) := fun E h1 h2 => ed_sl (ed_var E h1) (edo_some (ed_is (ed_op (ed_var E h2) (ed_cI (K := K)) od_add) (by rw [Int.natCast_add]; rfl))) edo_none sd_tup
  have lf : (cutD m none (some (k : Int))).length ≤ k := Nat.le_trans (cut_hd k) (Nat.min_le_left _ _)
  have lb0 : (cutD m (some (k : Int)) none).length ≤ m.length - k := cut_tl k
  have lb1 : (cutD m (some ((k + 1 : Nat) : Int)) none).length ≤ m.length - (k + 1) := cut_tl (k + 1)
  have fine : ∀ (y : PyData) (tl : List PyData), Fi 3 132 y → (∀ d ∈ tl, d ∈ m) → tl.length ≤ m.length - k → Fi 5 1800 (.tuple ((cutD m none (some (k : Int)) ++ [y]) ++ tl)) := fun y tl hy ht hl => fi_cat (fun d hd => by
    rcases List.mem_append.mp hd with hd | hd
    · rcases List.mem_append.mp hd with hd | hd
      · exact hfi d (cut_mem hd)
      · rw [List.mem_singleton.mp hd]; exact hy
    · exact hfi d (ht d hd)) (by rw [List.length_append, List.length_append, List.length_singleton]; omega)
  have c1 : ∀ (y : PyData), OpD K (rCatA K) (.tuple (cutD m none (some (k : Int)))) (.tuple [y]) (.tuple (cutD m none (some (k : Int)) ++ [y])) := fun y => od_cat (by rw [List.length_singleton]; omega)
  have c2 : ∀ (y : PyData) (tl : List PyData), tl.length ≤ m.length - k → OpD K (rCatA K) (.tuple (cutD m none (some (k : Int)) ++ [y])) (.tuple tl) (.tuple ((cutD m none (some (k : Int)) ++ [y]) ++ tl)) := fun y tl h => od_cat (by rw [List.length_append, List.length_singleton]; omega)
  dsimp only
  refine st_seq (st_ifE S3.g (edt_test (ed_op (ed_var E3 rfl) (ed_cI (K := K)) od_eqI)) (fun _ H4 F4 G4 g4 => ?_) (fun _ H4 F4 G4 g4 => ?_))
  · have S4 := S3.step g4
    have E4 := E3.ext g4.f
    exact p_retE S4 (ed_cb (eda_cons (ed_var E4 rfl) eda_nil) (cd_list (tp := true))) (show R__law_spoilt _ _ from (fi_lst hfi hlen).mono) q
  have S4 : Cp K p (some wl) H F F4 H4 := S3.step g4
  have E4 := E3.ext g4.f
  dsimp only
  refine st_seq (st_ifE S4.g (edt_test (ed_op (ed_var E4 rfl) (ed_cI (K := K)) od_eqI)) (fun _ H5 F5 G5 g5 => ?_) (fun _ H5 F5 G5 g5 => ?_))
  · have S5 := S4.step g5
    have E5 := E4.ext g5.f
    exact p_retE S5 (ed_op (ed_op (front E5 rfl rfl) (ed_tup (eda_cons (ed_var E5 rfl) eda_nil) (show 1 ≤ 1000 by omega)) (c1 _)) (back0 E5 rfl rfl) (c2 _ _ lb0)) (show R__law_spoilt _ _ from fine _ _ hpair (fun d => cut_mem) lb0) q
  have S5 : Cp K p (some wl) H F F5 H5 := S4.step g5
  have E5 := E4.ext g5.f
  dsimp only
  refine st_seq (st_ifE S5.g (edt_test (ed_op (ed_var E5 rfl) (ed_cI (K := K)) od_eqI)) (fun _ H6 F6 G6 g6 => ?_) (fun _ H6 F6 G6 g6 => ?_))
  · have S6 := S5.step g6
    have E6 := E5.ext g6.f
    exact p_retE S6 (ed_op (ed_op (front E6 rfl rfl) (ed_tup (eda_cons (ed_var E6 rfl) eda_nil) (show 1 ≤ 1000 by omega)) (c1 _)) (back1 E6 rfl rfl) (c2 _ _ (by omega))) (show R__law_spoilt _ _ from fine _ _ hpair (fun d => cut_mem) (by omega)) q
  have S6 : Cp K p (some wl) H F F6 H6 := S5.step g6
  have E6 := E5.ext g6.f
  dsimp only
  refine st_seq (st_ifE S6.g (edt_test (ed_op (ed_var E6 rfl) (ed_cI (K := K)) od_eqI)) (fun _ H7 F7 G7 g7 => ?_) (fun _ H7 F7 G7 g7 => ?_))
  · have S7 := S6.step g7
    have E7 := E6.ext g7.f
    exact p_retE S7 (ed_tupRevT (ed_var E7 rfl)) (show R__law_spoilt _ _ from (fi_tup (fun d hd => hfi d (List.mem_reverse.mp hd)) (by rw [List.length_reverse]; exact hlen)).mono) q
  have S7 : Cp K p (some wl) H F F7 H7 := S6.step g7
  have E7 := E6.ext g7.f
  dsimp only
  refine st_seq (st_ifE S7.g (edt_test (ed_op (ed_var E7 rfl) (ed_cI (K := K)) od_eqI)) (fun _ H8 F8 G8 g8 => ?_) (fun _ H8 F8 G8 g8 => ?_))
  · have S8 := S7.step g8
    have E8 := E7.ext g8.f
    have hy : Fi 3 132 (.list [.int px, .int py]) := (fi_lst (n := 0) (k := 41) (m := 2) (fun d hd => by
      rcases List.mem_cons.mp hd with rfl | hd
      · exact fi_nat (by omega)
      · rw [List.mem_singleton.mp hd]; exact fi_nat (by omega)) (Nat.le_refl _)).mono
    exact p_retE S8 (ed_op (ed_op (front E8 rfl rfl) (ed_tup (eda_cons (ed_cb (eda_cons (ed_var E8 rfl) eda_nil) (cd_list (tp := true))) eda_nil) (show 1 ≤ 1000 by omega)) (c1 _)) (back1 E8 rfl rfl) (c2 _ _ (by omega))) (show R__law_spoilt _ _ from fine _ _ hy (fun d => cut_mem) (by omega)) q
  have S8 : Cp K p (some wl) H F F8 H8 := S7.step g8
  have E8 := E7.ext g8.f
  dsimp only
  refine st_seq (st_ifE S8.g (edt_test (ed_op (ed_var E8 rfl) (ed_cI (K := K)) od_eqI)) (fun _ H9 F9 G9 g9 => ?_) (fun _ H9 F9 G9 g9 => ?_))
  · have S9 := S8.step g9
    have E9 := E8.ext g9.f
    refine p_ret S9 (ep_op (Ra := fun d => ∃ y, d = .tuple (cutD m none (some (k : Int)) ++ [y]) ∧ Fi 3 132 y) (Rb := fun d => d = .tuple (cutD m (some ((k + 1 : Nat) : Int)) none)) (ep_op (ep_ed (fun F1 H1 e x => front (E9.ext e) rfl rfl) (rfl : (fun d => d = PyData.tuple (cutD m none (some (k : Int)))) _)) (Rb := fun d => ∃ y, d = .tuple [y] ∧ Fi 3 132 y) (ep_tup (epa_cons (Ra := fun d => ∃ b, d = .tuple [.bool b, .int py]) (ep_tup (epa_cons (Ra := fun d => ∃ b, d = .bool b) (ep_op (ep_take E9 rfl ep_cI (by decide) (by decide)) ep_cI fun d1 d2 r1 r2 => by
        obtain ⟨r, rfl, h0, h1⟩ := r1
        subst r2
        exact ⟨_, od_eqI, _, rfl⟩) (epa_cons (Ra := fun d => d = .int py) (ep_ed (fun F1 H1 e x => ed_op (ed_var (E9.ext e) rfl) (ed_cI (K := K)) (od_ixT (j := 1) rfl rfl)) rfl) epa_nil)) fun ds h => by
        obtain ⟨d1, ds1, rfl, ⟨b, rfl⟩, d2, ds2, rfl, rfl, rfl⟩ := h
        exact ⟨by show 2 ≤ 1000; omega, b, rfl⟩) epa_nil) fun ds h => by
        obtain ⟨d1, ds1, rfl, ⟨b, rfl⟩, rfl⟩ := h
        refine ⟨by show 1 ≤ 1000; omega, _, rfl, (fi_tup (n := 0) (k := 41) (m := 2) (fun d hd => ?_) (Nat.le_refl _)).mono⟩
        rcases List.mem_cons.mp hd with rfl | hd
        · exact fi_bool.mono
        · rw [List.mem_singleton.mp hd]; exact fi_nat (by omega)) fun d1 d2 r1 r2 => by
        obtain ⟨y, rfl, hy⟩ := r2
        subst r1
        exact ⟨_, c1 _, y, rfl, hy⟩) (ep_ed (fun F1 H1 e x => back1 (E9.ext e) rfl rfl) rfl) fun d1 d2 r1 r2 => ?_) q
    obtain ⟨y, rfl, hy⟩ := r1
    subst r2
    exact ⟨_, c2 _ _ (by omega), fine _ _ hy (fun d => cut_mem) (by omega)⟩
  have S9 : Cp K p (some wl) H F F9 H9 := S8.step g9
  have E9 := E8.ext g9.f
  dsimp only
  refine st_seq (st_ifE S9.g (edt_test (ed_op (ed_var E9 rfl) (ed_cI (K := K)) od_eqI)) (fun _ H10 F10 G10 g10 => ?_) (fun _ H10 F10 G10 g10 => ?_))
  · have S10 := S9.step g10
    have E10 := E9.ext g10.f
    have hy : Fi 3 132 (.tuple [.int px, .int py, .int 0]) := (fi_tup (n := 0) (k := 41) (m := 3) (fun d hd => by
      rcases List.mem_cons.mp hd with rfl | hd
      · exact fi_nat (by omega)
      rcases List.mem_cons.mp hd with rfl | hd
      · exact fi_nat (by omega)
      · rw [List.mem_singleton.mp hd]; exact fi_nat (by omega)) (Nat.le_refl _)).mono
    exact p_retE S10 (ed_op (ed_op (front E10 rfl rfl) (ed_tup (eda_cons (ed_tup (eda_cons (ed_op (ed_var E10 rfl) (ed_cI (K := K)) (od_ixT (j := 0) rfl rfl)) (eda_cons (ed_op (ed_var E10 rfl) (ed_cI (K := K)) (od_ixT (j := 1) rfl rfl)) (eda_cons (ed_cI (K := K)) eda_nil))) (show 3 ≤ 1000 by omega)) eda_nil) (show 1 ≤ 1000 by omega)) (c1 _)) (back1 E10 rfl rfl) (c2 _ _ (by omega))) (show R__law_spoilt _ _ from fine _ _ hy (fun d => cut_mem) (by omega)) q
  have S10 : Cp K p (some wl) H F F10 H10 := S9.step g10
  have E10 := E9.ext g10.f
  dsimp only
  refine st_seq (st_ifE S10.g (edt_test (ed_op (ed_var E10 rfl) (ed_cI (K := K)) od_eqI)) (fun _ H11 F11 G11 g11 => ?_) (fun _ H11 F11 G11 g11 => ?_))
  · have S11 := S10.step g11
    have E11 := E10.ext g11.f
    refine p_retE S11 (ed_op (front E11 rfl rfl) (back1 E11 rfl rfl) (od_cat (by omega))) (show R__law_spoilt _ _ from fi_cat (fun d hd => ?_) (by rw [List.length_append]; omega)) q
    rcases List.mem_append.mp hd with hd | hd
    · exact hfi d (cut_mem hd)
    · exact hfi d (cut_mem hd)
  have S11 : Cp K p (some wl) H F F11 H11 := S10.step g11
  have E11 := E10.ext g11.f
  dsimp only
  have big : (10 ^ 30 : Int).natAbs < 10 ^ 40 := by decide
  have t0 : ∀ {x y : PyData}, Fi 0 41 x → Fi 0 41 y → Fi 2 200 (.tuple [.tuple [x, y]]) := fun hx hy => (fi_tup (m := 1) (fun d hd => by
    rw [List.mem_singleton.mp hd]
    exact fi_tup (n := 0) (k := 41) (m := 2) (fun d hd => by
      rcases List.mem_cons.mp hd with rfl | hd
      · exact hx
      · rw [List.mem_singleton.mp hd]; exact hy) (Nat.le_refl _)) (Nat.le_refl _)).mono
  refine p_ret S11 (ep_op (Ra := fun d => d = .list [.none, .int 0, .bool true, .str "", .str "ab", .tuple [.int 0, .int 0], .tuple [.tuple []], .tuple [.tuple [.none, .int 0]], .tuple [.tuple [.int 0, .str "a"]], .tuple [.tuple [.int (10 ^ 30), .int 0]]])
    (ep_ed (fun F1 H1 e x => ed_lst (eda_cons (ed_cN (K := K)) (eda_cons (ed_cI (K := K)) (eda_cons (ed_cB (K := K)) (eda_cons (ed_cS (K := K)) (eda_cons (ed_cS (K := K)) (eda_cons (ed_tup (eda_cons (ed_cI (K := K)) (eda_cons (ed_cI (K := K)) eda_nil)))
      (eda_cons (ed_tup (eda_cons (ed_tup (eda_nil (K := K))) eda_nil)) (eda_cons (ed_tup (eda_cons (ed_tup (eda_cons (ed_cN (K := K)) (eda_cons (ed_cI (K := K)) eda_nil))) eda_nil)) (eda_cons (ed_tup (eda_cons (ed_tup (eda_cons (ed_cI (K := K)) (eda_cons (ed_cS (K := K)) eda_nil))) eda_nil))
      (eda_cons (ed_tup (eda_cons (ed_tup (eda_cons (ed_op (ed_cI (K := K)) (ed_cI (K := K)) (od_pow ⟨by decide, by decide, by decide⟩)) (eda_cons (ed_cI (K := K)) eda_nil)) (show 2 ≤ 1000 by omega)) eda_nil) (show 1 ≤ 1000 by omega)) eda_nil)))))))))) (show 10 ≤ 1000 by omega)) rfl)
    (ep_take E11 rfl ep_cI (by decide) (by decide)) fun d1 d2 r1 r2 => ?_) q
  obtain ⟨r, rfl, h0, h1⟩ := r2
  subst r1
  obtain ⟨r', rfl⟩ : ∃ r' : Nat, r = (r' : Int) := ⟨r.toNat, by omega⟩
  have ok0 : ∀ c ∈ ("" : Str).cps.toList, c < 16 ^ 8 := by decide +kernel
  have ok1 : ∀ c ∈ ("ab" : Str).cps.toList, c < 16 ^ 8 := by decide +kernel
  have ok2 : ∀ c ∈ ("a" : Str).cps.toList, c < 16 ^ 8 := by decide +kernel
  match r', h1 with
  | 0, _ => exact ⟨_, od_ixL (j := 0) rfl rfl, fi_none.mono⟩
  | 1, _ => exact ⟨_, od_ixL (j := 1) rfl rfl, (fi_nat (by omega)).mono⟩
  | 2, _ => exact ⟨_, od_ixL (j := 2) rfl rfl, fi_bool.mono⟩
  | 3, _ => exact ⟨_, od_ixL (j := 3) rfl rfl, (fi_str (m := 0) ok0 (by decide)).mono⟩
  | 4, _ => exact ⟨_, od_ixL (j := 4) rfl rfl, (fi_str (m := 2) ok1 (by decide)).mono⟩
  | 5, _ => exact ⟨_, od_ixL (j := 5) rfl rfl, (fi_pair (by omega) (by omega)).mono⟩
  | 6, _ => exact ⟨_, od_ixL (j := 6) rfl rfl, (fi_tup (n := 1) (k := 3) (m := 1) (fun d hd => by rw [List.mem_singleton.mp hd]; exact (fi_tup (n := 0) (k := 0) (m := 0) (ds := []) (fun _ h => nomatch h) (Nat.le_refl _)).mono) (Nat.le_refl _)).mono⟩
  | 7, _ => exact ⟨_, od_ixL (j := 7) rfl rfl, (t0 fi_none.mono (fi_nat (by omega))).mono⟩
  | 8, _ => exact ⟨_, od_ixL (j := 8) rfl rfl, (t0 (fi_nat (by omega)) (fi_str (m := 1) ok2 (by decide)).mono).mono⟩
  | 9, _ => exact ⟨_, od_ixL (j := 9) rfl rfl, (t0 (fi_int big) (fi_nat (by omega))).mono⟩
  | r + 10, h => omega
theorem len__law_spoilt (ds : List PyData) (h : Pre_spoilt ds) : ds.length + 1 = 2 := by obtain ⟨_, h, _⟩ := h; rw [h]; rfl
theorem dv__law_spoilt {wl : List Str} (T : Tx K mg) (cdv : Value) (A : Around) (outer : List PySem.Env) (s : Shared) (H : Hp) (E : XK) (hr : Room 2 (A.deeper (PyProof.Rows.envOfC "_law_spoilt" (defScope s__law_spoilt) s.heap.objs.size T.d__law_spoilt.f cdv))) :
    PSs (cxOf CX0 P w K mg base N__law_spoilt "_law_spoilt" (defScope s__law_spoilt) T.d__law_spoilt.f cdv A outer s H E).nox (defBody s__law_spoilt) (t__law_spoilt wl K) := by
  exact (pss_cons (ps_set (i := 2) sc__law_spoilt.nd rfl (Or.inl rfl) (pe_call (ok__law_take T) (hr.mono (by decide)) (by rfl) T.d__law_take.g T.d__law_take.F.kp T.d__law_take.b .nil pass0 (pa_cons (pv 0) (pa_cons pe_int pa_nil))))
  (pss_cons (ps_set (i := 3) sc__law_spoilt.nd rfl (Or.inl rfl) (pe_tup (pa_cons (pe_op op_sub (pe_call (ok__law_take T) (hr.mono (by decide)) (by rfl) T.d__law_take.g T.d__law_take.F.kp T.d__law_take.b .nil pass0 (pa_cons (pv 0) (pa_cons pe_int pa_nil))) pe_int) (pa_cons (pe_op op_sub (pe_call (ok__law_take T) (hr.mono (by decide)) (by rfl) T.d__law_take.g T.d__law_take.F.kp T.d__law_take.b .nil pass0 (pa_cons (pv 0) (pa_cons pe_int pa_nil))) pe_int) pa_nil))))
  (pss_cons (ps_set (i := 4) sc__law_spoilt.nd rfl (Or.inl rfl) (pe_call (ok__law_take T) (hr.mono (by decide)) (by rfl) T.d__law_take.g T.d__law_take.F.kp T.d__law_take.b .nil pass0 (pa_cons (pv 0) (pa_cons (pe_op op_add (pe_callB call_lenQ (by rfl) T.n_len (by decide +kernel) (pa_cons (pv 1) pa_nil)) pe_int) pa_nil))))
  (pss_cons (ps_if (pt_cmpR op_eq (pv 2) pe_int (nomark _)) (pss_one (ps_ret (pe_callTy call_listQ (by rfl) T.n_list (by decide +kernel) (pa_cons (pv 1) pa_nil)))) pss_nil)
  (pss_cons (ps_if (pt_cmpR op_eq (pv 2) pe_int (nomark _)) (pss_one (ps_ret (pe_op op_catA (pe_op op_catA (pe_slice sl_tupA (pv 1) po_none (po_some (pv 4))) (pe_tup (pa_cons (pv 3) pa_nil))) (pe_slice sl_tupA (pv 1) (po_some (pv 4)) po_none)))) pss_nil)
  (pss_cons (ps_if (pt_cmpR op_eq (pv 2) pe_int (nomark _)) (pss_one (ps_ret (pe_op op_catA (pe_op op_catA (pe_slice sl_tupA (pv 1) po_none (po_some (pv 4))) (pe_tup (pa_cons (pv 3) pa_nil))) (pe_slice sl_tupA (pv 1) (po_some (pe_op op_add (pv 4) pe_int)) po_none)))) pss_nil)
  (pss_cons (ps_if (pt_cmpR op_eq (pv 2) pe_int (nomark _)) (pss_one (ps_ret (pe_tupRevT rfl (by rfl) T.n_tuple (by rfl) T.n_reversed (pv 1)))) pss_nil)
  (pss_cons (ps_if (pt_cmpR op_eq (pv 2) pe_int (nomark _)) (pss_one (ps_ret (pe_op op_catA (pe_op op_catA (pe_slice sl_tupA (pv 1) po_none (po_some (pv 4))) (pe_tup (pa_cons (pe_callTy call_listQ (by rfl) T.n_list (by decide +kernel) (pa_cons (pv 3) pa_nil)) pa_nil))) (pe_slice sl_tupA (pv 1) (po_some (pe_op op_add (pv 4) pe_int)) po_none)))) pss_nil)
  (pss_cons (ps_if (pt_cmpR op_eq (pv 2) pe_int (nomark _)) (pss_one (ps_ret (pe_op op_catA (pe_op op_catA (pe_slice sl_tupA (pv 1) po_none (po_some (pv 4))) (pe_tup (pa_cons (pe_tup (pa_cons (pe_cmpR op_eq (pe_call (ok__law_take T) (hr.mono (by decide)) (by rfl) T.d__law_take.g T.d__law_take.F.kp T.d__law_take.b .nil pass0 (pa_cons (pv 0) (pa_cons pe_int pa_nil))) pe_int (nomark _)) (pa_cons (pe_ix ix_seq (pv 3) pe_int (fun _ _ => rfl)) pa_nil))) pa_nil))) (pe_slice sl_tupA (pv 1) (po_some (pe_op op_add (pv 4) pe_int)) po_none)))) pss_nil)
  (pss_cons (ps_if (pt_cmpR op_eq (pv 2) pe_int (nomark _)) (pss_one (ps_ret (pe_op op_catA (pe_op op_catA (pe_slice sl_tupA (pv 1) po_none (po_some (pv 4))) (pe_tup (pa_cons (pe_tup (pa_cons (pe_ix ix_seq (pv 3) pe_int (fun _ _ => rfl)) (pa_cons (pe_ix ix_seq (pv 3) pe_int (fun _ _ => rfl)) (pa_cons pe_int pa_nil)))) pa_nil))) (pe_slice sl_tupA (pv 1) (po_some (pe_op op_add (pv 4) pe_int)) po_none)))) pss_nil)
  (pss_cons (ps_if (pt_cmpR op_eq (pv 2) pe_int (nomark _)) (pss_one (ps_ret (pe_op op_catA (pe_slice sl_tupA (pv 1) po_none (po_some (pv 4))) (pe_slice sl_tupA (pv 1) (po_some (pe_op op_add (pv 4) pe_int)) po_none)))) pss_nil)
  (pss_one (ps_ret (pe_ix ix_seq (pe_lst (pa_cons pe_non (pa_cons pe_int (pa_cons pe_bl (pa_cons pe_str (pa_cons pe_str (pa_cons (pe_tup (pa_cons pe_int (pa_cons pe_int pa_nil))) (pa_cons (pe_tup (pa_cons (pe_tup pa_nil) pa_nil)) (pa_cons (pe_tup (pa_cons (pe_tup (pa_cons pe_non (pa_cons pe_int pa_nil))) pa_nil)) (pa_cons (pe_tup (pa_cons (pe_tup (pa_cons pe_int (pa_cons pe_str pa_nil))) pa_nil)) (pa_cons (pe_tup (pa_cons (pe_tup (pa_cons (pe_op op_pow pe_int pe_int) (pa_cons pe_int pa_nil))) pa_nil)) pa_nil))))))))))) (pe_call (ok__law_take T) (hr.mono (by decide)) (by rfl) T.d__law_take.g T.d__law_take.F.kp T.d__law_take.b .nil pass0 (pa_cons (pv 0) (pa_cons pe_int pa_nil))) (fun _ _ => rfl)))))))))))))))

theorem ok__law_spoilt (T : Tx K mg) : FnOk P w K mg base CX0 3 T.d__law_spoilt.f T.d__law_spoilt.fd ["_law_pool_here", "_law_matching"] (sp__law_spoilt K wl) :=
  okP T.d__law_spoilt.F sc__law_spoilt (t__law_spoilt wl K) len__law_spoilt rd__law_spoilt (fun cdv A outer s H E hr => dv__law_spoilt T cdv A outer s H E hr)

end
end Gb

set_option maxHeartbeats 1000000
namespace Gb
open PySem L2
local macro_rules | `(tactic| walk_at "wk") => `(tactic| (repeat' (first | exact trivial | exact Or.inl rfl | exact Or.inr rfl | apply And.intro)))
section
variable {K : PySem.W.Frag} {p : Addr} {ws : Option (List Str)} {σ : L2.St} {F H H0 F0 : Hp} {ρ : List Sv} {te : TE} {i : Nat} {D : Ends}
theorem epa_imp {t : TA} {RA RB : List PyData → Prop} (h : Epa K p ws t σ F H RA) (hr : ∀ ds, RA ds → RB ds) : Epa K p ws t σ F H RB := fun F1 H1 g po Q q => h F1 H1 g po Q fun vs ds H2 F2 g2 p2 r p3 => q vs ds H2 F2 g2 p2 (hr ds r) p3
/-- x = [e, ..], its items drawn; to grow -/
theorem p_newL {t : TA} {RA : List PyData → Prop} (S : Cp K p ws H0 F0 F H) (E : Env K F σ ρ) (h : Epa K p ws t σ F H RA) (hl : ∀ ds, RA ds → ds.length ≤ 1000)
    (k : ∀ l ds H2 F2, Cp K p ws H0 F0 F2 H2 → RA ds → Ml K H0 l ds F2 H2 → Env K F2 (σ.set i (some (.ref l))) (ρ.set i (.v (.ref l))) → D.nx (σ.set i (some (.ref l))) H2) : tAsg (tLst t) (gName i) D σ H :=
  h F H (Gr.refl S.g.e) S.po _ fun vs ds H1 F1 g1 po1 r p1 => by
    refine ⟨by rw [DpAll.len p1]; exact Nat.le_trans (hl ds r) (by decide), fun q hq => ?_⟩
    have S1 : Cp K p ws H0 F0 F1 H1 := ⟨S.g.tr g1, po1⟩
    have gq : Gr no H1 F1 (upd H1 q (.lst vs)) F1 := Gr.newM g1.e hq
    have hq0 : H0 q = none := by
      cases e : H0 q with
      | none => rfl
      | some o => exact absurd hq (S1.g.t q (by rw [e]; simp))
    exact k q ds _ F1 (S1.step gq) r ⟨hq0, g1.e.none_of hq, vs, upd_same, p1⟩ (Env.set i (s := .v (.ref q)) (E.ext g1.f) rfl)
/-- x = x + [e, ..] -/
theorem p_catL {t : TA} {l : Addr} {ds es : List PyData} (S : Cp K p ws H0 F0 F H) (E : Env K F σ ρ) (hi : ρ[i]? = some (.v (.ref l))) (M : Ml K H0 l ds F H) (h : ∀ F1 H1, Ext F F1 → Ext F1 H1 → Eda K t σ F1 H1 es) (hl : ds.length ≤ 1000 ∧ es.length ≤ 1000)
    (k : ∀ l' H2 F2, Cp K p ws H0 F0 F2 H2 → Ext F F2 → Ml K H0 l' (ds ++ es) F2 H2 → Env K F2 (σ.set i (some (.ref l'))) (ρ.set i (.v (.ref l'))) → D.nx (σ.set i (some (.ref l'))) H2) : tAsg (tOp rCat (tVar i) (tLst t)) (gName i) D σ H :=
  ⟨.ref l, E.val hi, h F H Ext.rfl' S.g.e F H (Gr.refl S.g.e) _ fun vs H1 F1 g1 p1 => by
    have hs : sizeLine = 16777216 := sizeLine_eq
    have le := DpAll.len p1
    refine ⟨by rw [le]; exact Nat.le_trans hl.2 (by decide), fun q hq => ?_⟩
    have gq : Gr no H F (upd H1 q (.lst vs)) F1 := g1.tr (Gr.newM g1.e hq)
    obtain ⟨xs, h2, h3⟩ := (M.step gq).h
    have lx := DpAll.len h3
    refine ⟨l, q, xs, vs, rfl, rfl, h2, upd_same, by rw [lx, le, hs]; omega, fun r hr => ?_⟩
    have gr : Gr no H F (upd (upd H1 q (.lst vs)) r (.lst (xs ++ vs))) F1 := gq.tr (Gr.newM gq.e hr)
    have hr0 : H0 r = none := by
      cases e : H0 r with
      | none => rfl
      | some o => exact absurd hr ((S.step gq).g.t r (by rw [e]; simp))
    exact k r _ F1 (S.step gr) g1.f ⟨hr0, gq.e.none_of hr, xs ++ vs, upd_same, DpAll.app h3 p1⟩ (Env.set i (s := .v (.ref r)) (E.ext g1.f) rfl)⟩
end
/-! ### sizes, summed -/
structure FiA (n s : Nat) (ds : List PyData) : Prop where
  s : sizAll ds ≤ s
  d : PyData.depthAll ds ≤ n
theorem FiA.nil {n : Nat} : FiA n 0 [] := ⟨Nat.le_refl _, by simp [PyData.depthAll]⟩
theorem FiA.cons {n k s : Nat} {d : PyData} {ds : List PyData} (h : Fi n k d) (t : FiA n s ds) : FiA n (k + 2 + s) (d :: ds) := by
  have h1 := h.s
  have h2 := t.s
  have h3 := h.d
  have h4 := t.d
  refine ⟨by rw [sizAll]; omega, ?_⟩
  have e2 : PyData.depthAll (d :: ds) = max d.depth (PyData.depthAll ds) := by simp [PyData.depthAll]
  rw [e2]; omega
theorem FiA.cons0 {n k s : Nat} {d : PyData} {ds : List PyData} (h : Fi 0 k d) (t : FiA n s ds) : FiA n (k + 2 + s) (d :: ds) := FiA.cons (h.mono (Nat.zero_le _) (Nat.le_refl _)) t
theorem sizAll_app : ∀ ds es : List PyData, sizAll (ds ++ es) = sizAll ds + sizAll es
  | [], es => by show sizAll es = 0 + sizAll es; omega
  | d :: ds, es => by
    rw [List.cons_append, sizAll, sizAll, sizAll_app ds es]; omega
theorem depthAll_app : ∀ ds es : List PyData, PyData.depthAll (ds ++ es) = max (PyData.depthAll ds) (PyData.depthAll es)
  | [], es => by simp [PyData.depthAll]
  | d :: ds, es => by
    have e1 : PyData.depthAll (d :: (ds ++ es)) = max d.depth (PyData.depthAll (ds ++ es)) := by simp [PyData.depthAll]
    have e2 : PyData.depthAll (d :: ds) = max d.depth (PyData.depthAll ds) := by simp [PyData.depthAll]
    rw [List.cons_append, e1, e2, depthAll_app ds es]; omega
theorem FiA.app {n s s' : Nat} {ds es : List PyData} (h : FiA n s ds) (t : FiA n s' es) : FiA n (s + s') (ds ++ es) := by
  have h1 := h.s
  have h2 := t.s
  have h3 := h.d
  have h4 := t.d
  exact ⟨by rw [sizAll_app]; omega, by rw [depthAll_app]; omega⟩
theorem FiA.tup {n s : Nat} {ds : List PyData} (h : FiA n s ds) : Fi (n + 1) (s + 3) (.tuple ds) := by
  have h1 := h.s
  have h3 := h.d
  refine ⟨by rw [siz]; omega, ?_⟩
  have e : (PyData.tuple ds).depth = PyData.depthAll ds + 1 := by simp [PyData.depth]
  rw [e]; omega
theorem FiA.lst {n s : Nat} {ds : List PyData} (h : FiA n s ds) : Fi (n + 1) (s + 3) (.list ds) := by
  have h1 := h.s
  have h3 := h.d
  refine ⟨by rw [siz]; omega, ?_⟩
  have e : (PyData.list ds).depth = PyData.depthAll ds + 1 := by simp [PyData.depth]
  rw [e]; omega
theorem fi_word {z : Str} (h : wordOk z = true) : Fi 0 82 (.str z) := by
  obtain ⟨_, h2, h3⟩ := word_un h
  exact fi_str (m := 8) (fun c hc => Nat.lt_trans (letters_ok c (h3 c hc)) (by decide)) h2
theorem fi_tri {t : Str × Str × Int} (h : triGood t) : Fi 1 214 (triD t) := (FiA.tup (FiA.cons (fi_word h.1) (FiA.cons (fi_word h.2.1) (FiA.cons (fi_nat (by have := h.2.2.2; omega)) FiA.nil)))).mono
theorem fi_tab {p : Pr} (ok : PrOk p) (hg : ∀ t ∈ p.tab, triGood t) : FiA 1 1296 (p.tab.map triD) := by
  obtain ⟨h1, h2⟩ := fi_all (n := 1) (k := 214) (m := 6) (ds := p.tab.map triD) (fun d hd => by
    obtain ⟨t, ht, rfl⟩ := List.mem_map.mp hd
    exact fi_tri (hg t ht)) (by rw [List.length_map]; exact ok.len)
  exact ⟨h1, h2⟩
theorem goTri_app_bad {x : PyData} (hx : ∀ seen, goTri seen [x] = false) : ∀ (l : List PyData) (seen : List (Str × Str)), goTri seen (l ++ [x]) = false
  | [], seen => hx seen
  | t :: l, seen => by
    rw [List.cons_append]
    show (match triOk t with | none => false | some p => if (decide (p.1 = p.2) || decide (p ∈ seen)) = true then false else goTri (seen ++ [p]) (l ++ [x])) = false
    split
    · rfl
    · split
      · rfl
      · exact goTri_app_bad hx l _
theorem goTri_twice (z : Str) (seen : List (Str × Str)) : goTri seen [triD (z, z, 1)] = false := by
  show (match triOk (triD (z, z, 1)) with | none => false | some p => if (decide (p.1 = p.2) || decide (p ∈ seen)) = true then false else goTri (seen ++ [p]) []) = false
  cases h : triOk (triD (z, z, 1)) with
  | none => rfl
  | some q =>
    have h' : (if (wordOk z && wordOk z && decide ((0 : Int) ≤ 1)) = true then some (z, z) else none) = some q := h
    split at h'
    · obtain rfl := Option.some.inj h'
      show (if (decide (z = z) || _) = true then false else _) = false
      rw [decide_eq_true rfl]
      rfl
    · cases h'
def oddOk (d : PyData) : Prop := Fi 5 2000 d ∧ isPr d = false
def Pre_odd (wl : List Str) (ds : List PyData) : Prop := ∃ p, ds = [prD p] ∧ PrOk p ∧ (∀ t ∈ p.tab, triGood t) ∧ goodW wl
def R__law_odd_prices (ds : List PyData) (d : PyData) : Prop := oddOk d
abbrev sp__law_odd_prices (K : PySem.W.Frag) (wl : List Str) : Sp := spP K (some wl) (Pre_odd wl) R__law_odd_prices
theorem row1_no : areTri (.tuple [.tuple [.str "a", .str "b", .int 1], .tuple [.str "a", .str "b", .int 2]]) = false := by decide +kernel
theorem row2_no : areTri (.tuple [.tuple [.str "A", .str "b", .int 1]]) = false := by decide +kernel
theorem row3_no : areTri (.tuple [.tuple [.str "a", .str "b", .int (-1)]]) = false := by decide +kernel
theorem row4_no : areTri (.tuple [.tuple [.str "a", .str "abcdefghi", .int 1]]) = false := by decide +kernel
theorem isPr_no {a b c t : PyData} (h : areTri t = false) : isPr (.tuple [a, b, c, t]) = false := by
  show ((isC a && (isC b && isC c)) && areTri t) = false
  rw [h, Bool.and_false]
section
variable {P : Program} {w : World} {K : PySem.W.Frag} {mg : Str → Option Value} {base : Heap} {wl : List Str}
/-! ### _law_odd_prices -/
def t__law_odd_prices (wl : List Str) (K : PySem.W.Frag) : TS :=
  (tSeq (tAsg (tCall (sp__law_word K wl) [] E0 (tCons (tVar 0) tNil)) (gName 2))
  (tSeq (tAsg (tLst (tCons (tTup (tCons (tC (.str "a")) (tCons (tC (.str "b")) (tCons (tC (.int 1)) tNil)))) (tCons (tTup (tCons (tC (.str "a")) (tCons (tC (.str "b")) (tCons (tC (.int 2)) tNil)))) tNil))) (gName 3))
  (tSeq (tAsg (tLst (tCons (tSl (rSlA K) (tVar 1) tNoPart (tPart (tC (.int 3)))) (tCons (tCB (rListQ K) (tCons (tVar 1) tNil)) (tCons (tOp (rCatA K) (tTup (tCons (tC (.bl true)) tNil)) (tSl (rSlA K) (tVar 1) (tPart (tC (.int 1))) tNoPart)) (tCons (tOp (rCatA K) (tTup (tCons (tOp (rIx K) (tVar 1) (tC (.int 0))) (tCons (tOp rSubI (tUn rNegI (tC (.int 1))) (tCall (sp__law_take K (some wl)) [] E0 (tCons (tVar 0) (tCons (tC (.int 9)) tNil)))) tNil))) (tSl (rSlA K) (tVar 1) (tPart (tC (.int 2))) tNoPart)) (tCons (tC .non) tNil)))))) (gName 4))
  (tSeq (tAsg (tOp rCat (tVar 4) (tLst (tCons (tOp (rCatA K) (tSl (rSlA K) (tVar 1) tNoPart (tPart (tC (.int 3)))) (tTup (tCons (tCB (rListQ K) (tCons (tOp (rIx K) (tVar 1) (tC (.int 3))) tNil)) tNil))) (tCons (tOp (rCatA K) (tSl (rSlA K) (tVar 1) tNoPart (tPart (tC (.int 3)))) (tTup (tCons (tOp (rCatA K) (tOp (rIx K) (tVar 1) (tC (.int 3))) (tTup (tCons (tTup (tCons (tVar 2) (tCons (tVar 2) (tCons (tC (.int 1)) tNil)))) tNil))) tNil))) tNil)))) (gName 4))
  (tSeq (tAsg (tOp rCat (tVar 4) (tLst (tCons (tOp (rCatA K) (tSl (rSlA K) (tVar 1) tNoPart (tPart (tC (.int 3)))) (tTup (tCons (tCB (rTupQ K) (tCons (tVar 3) tNil)) tNil))) (tCons (tOp (rCatA K) (tSl (rSlA K) (tVar 1) tNoPart (tPart (tC (.int 3)))) (tTup (tCons (tTup (tCons (tTup (tCons (tC (.str "A")) (tCons (tC (.str "b")) (tCons (tC (.int 1)) tNil)))) tNil)) tNil))) (tCons (tOp (rCatA K) (tOp (rCatA K) (tSl (rSlA K) (tVar 1) tNoPart (tPart (tC (.int 2)))) (tTup (tCons (tC (.bl false)) tNil))) (tSl (rSlA K) (tVar 1) (tPart (tC (.int 3))) tNoPart)) tNil))))) (gName 4))
  (tSeq (tAsg (tOp rCat (tVar 4) (tLst (tCons (tOp (rCatA K) (tVar 1) (tTup (tCons (tTup tNil) tNil))) (tCons (tOp (rCatA K) (tSl (rSlA K) (tVar 1) tNoPart (tPart (tC (.int 3)))) (tTup (tCons (tTup (tCons (tTup (tCons (tC (.str "a")) (tCons (tC (.str "b")) (tCons (tUn rNegI (tC (.int 1))) tNil)))) tNil)) tNil))) (tCons (tOp (rCatA K) (tSl (rSlA K) (tVar 1) tNoPart (tPart (tC (.int 3)))) (tTup (tCons (tTup (tCons (tTup (tCons (tC (.str "a")) (tCons (tC (.str "abcdefghi")) (tCons (tC (.int 1)) tNil)))) tNil)) tNil))) tNil))))) (gName 4))
  (tRet (tOp (rIx K) (tVar 4) (tCall (sp__law_take K (some wl)) [] E0 (tCons (tVar 0) (tCons (tC (.int 13)) tNil)))))))))))

theorem rd__law_odd_prices : KeepsP K N__law_odd_prices (some wl) (Pre_odd wl) R__law_odd_prices (t__law_odd_prices wl K) := by
  intro H F p vs ds Q x po hd hpre q
  obtain ⟨pr, rfl, ok, hgood, hg⟩ := hpre
  have E := envP_start (p := p) (N := N__law_odd_prices) hd
  have hp := po.at
  have S0 : Cp K p (some wl) H F F H := ⟨Gr.refl x, po⟩
  have fdr : Fi 0 41 (.int pr.dr) := fi_nat (by have := ok.dr; omega)
  have fad : Fi 0 41 (.int pr.ad) := fi_nat (by have := ok.ad; omega)
  have fch : Fi 0 41 (.int pr.ch) := fi_nat (by have := ok.ch; omega)
  have ftab := fi_tab ok hgood
  have fT : Fi 4 1299 (.tuple (pr.tab.map triD)) := ftab.tup.mono
  have ltab : (pr.tab.map triD).length ≤ 6 := by rw [List.length_map]; exact ok.len
  refine st_seq (p_set S0 E (R := fun d => ∃ z, d = .str z ∧ z ∈ wl) (ep_callP E rfl epa_nil (fun ds h => ⟨h, hg⟩) (fun ds d _ h => h)) fun v d H1 F1 S1 g1 r1 pd1 E1 => ?_)
  obtain ⟨z, rfl, hz⟩ := r1
  have wz := hg.2.2 z hz
  dsimp only
  refine st_seq (st_setE S1.g E1 (ed_lst (eda_cons (ed_tup (eda_cons (ed_cS (K := K)) (eda_cons (ed_cS (K := K)) (eda_cons (ed_cI (K := K)) eda_nil)))) (eda_cons (ed_tup (eda_cons (ed_cS (K := K)) (eda_cons (ed_cS (K := K)) (eda_cons (ed_cI (K := K)) eda_nil)))) eda_nil))) fun v H2 F2 G2 g2 pd2 E2 => ?_)
  have S2 : Cp K p (some wl) H F F2 H2 := S1.step g2
  have o4 : ∀ {a b c t : PyData} {k : Nat}, Fi 0 41 a → Fi 0 41 b → Fi 0 41 c → Fi 4 k t → k ≤ 1600 → Fi 5 2000 (.tuple [a, b, c, t]) := fun ha hb hc ht hk => (FiA.tup (FiA.cons0 ha (FiA.cons0 hb (FiA.cons0 hc (FiA.cons ht FiA.nil))))).mono
  dsimp only
  refine st_seq (p_newL S2 E2 (RA := fun ds => ds.length = 5 ∧ ∀ d ∈ ds, oddOk d) (epa_imp (epa_cons (Ra := fun d => d = .tuple [.int pr.dr, .int pr.ad, .int pr.ch]) (ep_ed (fun F1 H1 e x => ed_is (ed_sl (ed_var (E2.ext e) rfl) edo_none (edo_some (ed_cI (K := K))) sd_tup) rfl) rfl)
      (epa_cons (Ra := fun d => d = .list [.int pr.dr, .int pr.ad, .int pr.ch, .tuple (pr.tab.map triD)]) (ep_ed (fun F1 H1 e x => ed_cb (eda_cons (ed_var (E2.ext e) rfl) eda_nil) (cd_list (tp := true))) rfl)
      (epa_cons (Ra := fun d => d = .tuple [.bool true, .int pr.ad, .int pr.ch, .tuple (pr.tab.map triD)]) (ep_ed (fun F1 H1 e x => ed_is (ed_op (ed_tup (eda_cons (ed_cB (K := K)) eda_nil)) (ed_is (ed_sl (ed_var (E2.ext e) rfl) (edo_some (ed_cI (K := K))) edo_none sd_tup) (show _ = PyData.tuple [.int pr.ad, .int pr.ch, .tuple (pr.tab.map triD)] from rfl)) (od_cat (show 1 + 3 ≤ 1000 by omega))) rfl) rfl)
      (epa_cons (Ra := fun d => ∃ r : Int, d = .tuple [.int pr.dr, .int (-1 - r), .int pr.ch, .tuple (pr.tab.map triD)] ∧ 0 ≤ r ∧ r < 9) (ep_op (Ra := fun d => ∃ r : Int, d = .tuple [.int pr.dr, .int (-1 - r)] ∧ 0 ≤ r ∧ r < 9) (Rb := fun d => d = .tuple [.int pr.ch, .tuple (pr.tab.map triD)])
        (ep_tup (epa_cons (Ra := fun d => d = .int pr.dr) (ep_ed (fun F1 H1 e x => ed_op (ed_var (E2.ext e) rfl) (ed_cI (K := K)) (od_ixT (j := 0) rfl rfl)) rfl) (epa_cons (Ra := fun d => ∃ r : Int, d = .int (-1 - r) ∧ 0 ≤ r ∧ r < 9) (ep_op (Ra := fun d => d = .int (-1)) (ep_ed (fun F1 H1 e x => ed_neg (ed_cI (K := K))) rfl) (ep_take E2 rfl ep_cI (by decide) (by decide)) fun d1 d2 r1 r2 => by
          obtain ⟨r, rfl, h0, h1⟩ := r2
          subst r1
          exact ⟨_, od_sub, r, rfl, h0, h1⟩) epa_nil)) fun ds h => by
          obtain ⟨d1, ds1, rfl, rfl, d2, ds2, rfl, ⟨r, rfl, h0, h1⟩, rfl⟩ := h
          exact ⟨by show 2 ≤ 1000; omega, r, rfl, h0, h1⟩)
        (ep_ed (fun F1 H1 e x => ed_is (ed_sl (ed_var (E2.ext e) rfl) (edo_some (ed_cI (K := K))) edo_none sd_tup) rfl) rfl) fun d1 d2 r1 r2 => by
          obtain ⟨r, rfl, h0, h1⟩ := r1
          subst r2
          exact ⟨_, od_cat (show 2 + 2 ≤ 1000 by omega), r, rfl, h0, h1⟩)
      (epa_cons ep_cN epa_nil))))) (fun ds h => ?_)) (fun ds h => by omega) fun l ds H3 F3 S3 r3 M3 E3 => ?_)
  · obtain ⟨d1, ds1, rfl, rfl, d2, ds2, rfl, rfl, d3, ds3, rfl, rfl, d4, ds4, rfl, ⟨r, rfl, r0, r1⟩, d5, ds5, rfl, rfl, rfl⟩ := h
    refine ⟨rfl, fun d hd => ?_⟩
    rcases List.mem_cons.mp hd with rfl | hd
    · exact ⟨(FiA.tup (n := 0) (FiA.cons fdr (FiA.cons fad (FiA.cons fch FiA.nil)))).mono, rfl⟩
    rcases List.mem_cons.mp hd with rfl | hd
    · exact ⟨(FiA.lst (FiA.cons0 fdr (FiA.cons0 fad (FiA.cons0 fch (FiA.cons fT FiA.nil))))).mono, rfl⟩
    rcases List.mem_cons.mp hd with rfl | hd
    · exact ⟨o4 fi_bool.mono fad fch fT (by omega), rfl⟩
    rcases List.mem_cons.mp hd with rfl | hd
    · refine ⟨o4 fdr (fi_nat (by omega)) fch fT (by omega), ?_⟩
      show ((decide (0 ≤ pr.dr) && (decide (0 ≤ -1 - r) && decide (0 ≤ pr.ch))) && _) = false
      rw [decide_eq_false (show ¬ 0 ≤ -1 - r by omega), Bool.false_and, Bool.and_false, Bool.false_and]
    · rw [List.mem_singleton.mp hd]
      exact ⟨fi_none.mono, rfl⟩
  · obtain ⟨l3, ok3⟩ := r3
    have h3 : ∀ {σ : L2.St} {F H : Hp} {ρ : List Sv}, Env K F σ ρ → ρ[1]? = some (.d (prD pr)) → Ed K (tSl (rSlA K) (tVar 1) tNoPart (tPart (tC (.int 3)))) σ F H (.tuple [.int pr.dr, .int pr.ad, .int pr.ch]) := fun E h => ed_is (ed_sl (ed_var E h) edo_none (edo_some (ed_cI (K := K))) sd_tup) rfl
    have ix3 : ∀ {σ : L2.St} {F H : Hp} {ρ : List Sv}, Env K F σ ρ → ρ[1]? = some (.d (prD pr)) → Ed K (tOp (rIx K) (tVar 1) (tC (.int 3))) σ F H (.tuple (pr.tab.map triD)) := fun E h => ed_op (ed_var E h) (ed_cI (K := K)) (od_ixT (j := 3) rfl rfl)
    have cat1 : ∀ {σ : L2.St} {F H : Hp} {te : TE} {y : PyData} {ρ : List Sv}, Env K F σ ρ → ρ[1]? = some (.d (prD pr)) → Ed K te σ F H y → Ed K (tOp (rCatA K) (tSl (rSlA K) (tVar 1) tNoPart (tPart (tC (.int 3)))) (tTup (tCons te tNil))) σ F H (.tuple [.int pr.dr, .int pr.ad, .int pr.ch, y]) := fun E h hy => ed_is (ed_op (h3 E h) (ed_tup (eda_cons hy eda_nil) (show 1 ≤ 1000 by omega)) (od_cat (show 3 + 1 ≤ 1000 by omega))) rfl
    dsimp only
    refine st_seq (p_catL S3 E3 rfl M3 (es := [.tuple [.int pr.dr, .int pr.ad, .int pr.ch, .list (pr.tab.map triD)], .tuple [.int pr.dr, .int pr.ad, .int pr.ch, .tuple (pr.tab.map triD ++ [triD (z, z, 1)])]])
      (fun F1 H1 e x => eda_cons (cat1 (E3.ext e) rfl (ed_cb (eda_cons (ix3 (E3.ext e) rfl) eda_nil) (cd_list (tp := true)))) (eda_cons (cat1 (E3.ext e) rfl (ed_op (ix3 (E3.ext e) rfl) (ed_tup (eda_cons (ed_tup (eda_cons (ed_var (E3.ext e) rfl) (eda_cons (ed_var (E3.ext e) rfl) (eda_cons (ed_cI (K := K)) eda_nil))) (show 3 ≤ 1000 by omega)) eda_nil) (show 1 ≤ 1000 by omega)) (od_cat (by rw [List.length_singleton]; omega)))) eda_nil))
      ⟨by omega, show 2 ≤ 1000 by omega⟩ fun l4 H4 F4 S4 e4 M4 E4 => ?_)
    have fz : Fi 4 1600 (.tuple (pr.tab.map triD ++ [triD (z, z, 1)])) := ((ftab.app (FiA.cons (FiA.tup (n := 0) (FiA.cons (fi_word wz) (FiA.cons (fi_word wz) (FiA.cons (fi_nat (i := 1) (by omega)) FiA.nil)))) FiA.nil)).tup).mono
    have ok4 : ∀ d ∈ ds ++ [PyData.tuple [.int pr.dr, .int pr.ad, .int pr.ch, .list (pr.tab.map triD)], .tuple [.int pr.dr, .int pr.ad, .int pr.ch, .tuple (pr.tab.map triD ++ [triD (z, z, 1)])]], oddOk d := fun d hd => by
      rcases List.mem_append.mp hd with hd | hd
      · exact ok3 d hd
      rcases List.mem_cons.mp hd with rfl | hd
      · exact ⟨o4 fdr fad fch (ftab.lst.mono (n' := 4) (k' := 1299)) (by omega), isPr_no rfl⟩
      · rw [List.mem_singleton.mp hd]
        exact ⟨o4 fdr fad fch fz (by omega), isPr_no (goTri_app_bad (goTri_twice z) _ _)⟩
    have l4' : (ds ++ [PyData.tuple [.int pr.dr, .int pr.ad, .int pr.ch, .list (pr.tab.map triD)], .tuple [.int pr.dr, .int pr.ad, .int pr.ch, .tuple (pr.tab.map triD ++ [triD (z, z, 1)])]]).length = 7 := by rw [List.length_append, l3]; rfl
    generalize hds4 : ds ++ [PyData.tuple [.int pr.dr, .int pr.ad, .int pr.ch, .list (pr.tab.map triD)], .tuple [.int pr.dr, .int pr.ad, .int pr.ch, .tuple (pr.tab.map triD ++ [triD (z, z, 1)])]] = ds4 at *
    dsimp only
    refine st_seq (p_catL S4 E4 rfl M4 (es := [.tuple [.int pr.dr, .int pr.ad, .int pr.ch, .tuple [.tuple [.str "a", .str "b", .int 1], .tuple [.str "a", .str "b", .int 2]]], .tuple [.int pr.dr, .int pr.ad, .int pr.ch, .tuple [.tuple [.str "A", .str "b", .int 1]]], .tuple [.int pr.dr, .int pr.ad, .bool false, .tuple (pr.tab.map triD)]])
      (fun F1 H1 e x => eda_cons (cat1 (E4.ext e) rfl (ed_cb (eda_cons (ed_var (E4.ext e) rfl) eda_nil) (cd_tuple (tp := false)))) (eda_cons (cat1 (E4.ext e) rfl (ed_tup (eda_cons (ed_tup (eda_cons (ed_cS (K := K)) (eda_cons (ed_cS (K := K)) (eda_cons (ed_cI (K := K)) eda_nil)))) eda_nil)))
        (eda_cons (ed_is (ed_op (ed_op (ed_is (ed_sl (ed_var (E4.ext e) rfl) edo_none (edo_some (ed_cI (K := K))) sd_tup) (show _ = PyData.tuple [.int pr.dr, .int pr.ad] from rfl)) (ed_tup (eda_cons (ed_cB (K := K)) eda_nil)) (od_cat (show 2 + 1 ≤ 1000 by omega))) (ed_is (ed_sl (ed_var (E4.ext e) rfl) (edo_some (ed_cI (K := K))) edo_none sd_tup) (show _ = PyData.tuple [.tuple (pr.tab.map triD)] from rfl)) (od_cat (show 3 + 1 ≤ 1000 by omega))) rfl) eda_nil)))
      ⟨by omega, show 3 ≤ 1000 by omega⟩ fun l5 H5 F5 S5 e5 M5 E5 => ?_)
    have okA : ∀ c ∈ ("A" : Str).cps.toList, c < 16 ^ 8 := by decide +kernel
    have oka : ∀ c ∈ ("a" : Str).cps.toList, c < 16 ^ 8 := by decide +kernel
    have okb : ∀ c ∈ ("b" : Str).cps.toList, c < 16 ^ 8 := by decide +kernel
    have ok9 : ∀ c ∈ ("abcdefghi" : Str).cps.toList, c < 16 ^ 8 := by decide +kernel
    have tri3 : ∀ {x y : Str} {i : Int} {m : Nat}, Fi 0 m (.str x) → Fi 0 m (.str y) → (-1000 ≤ i ∧ i ≤ 1000) → m ≤ 100 → Fi 1 260 (.tuple [.str x, .str y, .int i]) := fun hx hy hi hm => (FiA.tup (FiA.cons hx (FiA.cons hy (FiA.cons (fi_nat hi) FiA.nil)))).mono
    have fa : Fi 0 92 (.str "a") := (fi_str (m := 9) oka (by decide)).mono
    have fb : Fi 0 92 (.str "b") := (fi_str (m := 9) okb (by decide)).mono
    have fA' : Fi 0 92 (.str "A") := (fi_str (m := 9) okA (by decide)).mono
    have f9 : Fi 0 92 (.str "abcdefghi") := (fi_str (m := 9) ok9 (by decide)).mono
    have one : ∀ {d : PyData}, Fi 1 260 d → Fi 4 300 (.tuple [d]) := fun h => (FiA.tup (FiA.cons h FiA.nil)).mono
    have ok5 : ∀ d ∈ ds4 ++ [PyData.tuple [.int pr.dr, .int pr.ad, .int pr.ch, .tuple [.tuple [.str "a", .str "b", .int 1], .tuple [.str "a", .str "b", .int 2]]], .tuple [.int pr.dr, .int pr.ad, .int pr.ch, .tuple [.tuple [.str "A", .str "b", .int 1]]], .tuple [.int pr.dr, .int pr.ad, .bool false, .tuple (pr.tab.map triD)]], oddOk d := fun d hd => by
      rcases List.mem_append.mp hd with hd | hd
      · exact ok4 d hd
      rcases List.mem_cons.mp hd with rfl | hd
      · exact ⟨o4 fdr fad fch ((FiA.tup (FiA.cons (tri3 fa fb (by omega) (by omega)) (FiA.cons (tri3 fa fb (by omega) (by omega)) FiA.nil))).mono (n' := 4) (k' := 600)) (by omega), isPr_no row1_no⟩
      rcases List.mem_cons.mp hd with rfl | hd
      · exact ⟨o4 fdr fad fch (one (tri3 fA' fb (by omega) (by omega))) (by omega), isPr_no row2_no⟩
      · rw [List.mem_singleton.mp hd]
        refine ⟨o4 fdr fad fi_bool.mono fT (by omega), ?_⟩
        show ((decide (0 ≤ pr.dr) && (decide (0 ≤ pr.ad) && false)) && _) = false
        rw [Bool.and_false, Bool.and_false, Bool.false_and]
    have l5' : (ds4 ++ [PyData.tuple [.int pr.dr, .int pr.ad, .int pr.ch, .tuple [.tuple [.str "a", .str "b", .int 1], .tuple [.str "a", .str "b", .int 2]]], .tuple [.int pr.dr, .int pr.ad, .int pr.ch, .tuple [.tuple [.str "A", .str "b", .int 1]]], .tuple [.int pr.dr, .int pr.ad, .bool false, .tuple (pr.tab.map triD)]]).length = 10 := by rw [List.length_append, l4']; rfl
    generalize hds5 : ds4 ++ [PyData.tuple [.int pr.dr, .int pr.ad, .int pr.ch, .tuple [.tuple [.str "a", .str "b", .int 1], .tuple [.str "a", .str "b", .int 2]]], .tuple [.int pr.dr, .int pr.ad, .int pr.ch, .tuple [.tuple [.str "A", .str "b", .int 1]]], .tuple [.int pr.dr, .int pr.ad, .bool false, .tuple (pr.tab.map triD)]] = ds5 at *
    dsimp only
    refine st_seq (p_catL S5 E5 rfl M5 (es := [.tuple [.int pr.dr, .int pr.ad, .int pr.ch, .tuple (pr.tab.map triD), .tuple []], .tuple [.int pr.dr, .int pr.ad, .int pr.ch, .tuple [.tuple [.str "a", .str "b", .int (-1)]]], .tuple [.int pr.dr, .int pr.ad, .int pr.ch, .tuple [.tuple [.str "a", .str "abcdefghi", .int 1]]]])
      (fun F1 H1 e x => eda_cons (ed_is (ed_op (ed_var (E5.ext e) rfl) (ed_tup (eda_cons (ed_tup (eda_nil (K := K))) eda_nil)) (od_cat (show 4 + 1 ≤ 1000 by omega))) rfl) (eda_cons (cat1 (E5.ext e) rfl (ed_tup (eda_cons (ed_tup (eda_cons (ed_cS (K := K)) (eda_cons (ed_cS (K := K)) (eda_cons (ed_neg (ed_cI (K := K))) eda_nil)))) eda_nil)))
        (eda_cons (cat1 (E5.ext e) rfl (ed_tup (eda_cons (ed_tup (eda_cons (ed_cS (K := K)) (eda_cons (ed_cS (K := K)) (eda_cons (ed_cI (K := K)) eda_nil)))) eda_nil))) eda_nil)))
      ⟨by omega, show 3 ≤ 1000 by omega⟩ fun l6 H6 F6 S6 e6 M6 E6 => ?_)
    have ok6 : ∀ d ∈ ds5 ++ [PyData.tuple [.int pr.dr, .int pr.ad, .int pr.ch, .tuple (pr.tab.map triD), .tuple []], .tuple [.int pr.dr, .int pr.ad, .int pr.ch, .tuple [.tuple [.str "a", .str "b", .int (-1)]]], .tuple [.int pr.dr, .int pr.ad, .int pr.ch, .tuple [.tuple [.str "a", .str "abcdefghi", .int 1]]]], oddOk d := fun d hd => by
      rcases List.mem_append.mp hd with hd | hd
      · exact ok5 d hd
      rcases List.mem_cons.mp hd with rfl | hd
      · exact ⟨(FiA.tup (FiA.cons0 fdr (FiA.cons0 fad (FiA.cons0 fch (FiA.cons fT (FiA.cons ((FiA.tup (FiA.nil (n := 0))).mono (n' := 4) (k' := 3)) FiA.nil)))))).mono, rfl⟩
      rcases List.mem_cons.mp hd with rfl | hd
      · exact ⟨o4 fdr fad fch (one (tri3 fa fb (by omega) (by omega))) (by omega), isPr_no row3_no⟩
      · rw [List.mem_singleton.mp hd]
        exact ⟨o4 fdr fad fch (one (tri3 fa f9 (by omega) (by omega))) (by omega), isPr_no row4_no⟩
    have l6' : (ds5 ++ [PyData.tuple [.int pr.dr, .int pr.ad, .int pr.ch, .tuple (pr.tab.map triD), .tuple []], .tuple [.int pr.dr, .int pr.ad, .int pr.ch, .tuple [.tuple [.str "a", .str "b", .int (-1)]]], .tuple [.int pr.dr, .int pr.ad, .int pr.ch, .tuple [.tuple [.str "a", .str "abcdefghi", .int 1]]]]).length = 13 := by rw [List.length_append, l5']; rfl
    generalize hds6 : ds5 ++ [PyData.tuple [.int pr.dr, .int pr.ad, .int pr.ch, .tuple (pr.tab.map triD), .tuple []], .tuple [.int pr.dr, .int pr.ad, .int pr.ch, .tuple [.tuple [.str "a", .str "b", .int (-1)]]], .tuple [.int pr.dr, .int pr.ad, .int pr.ch, .tuple [.tuple [.str "a", .str "abcdefghi", .int 1]]]] = ds6 at *
    dsimp only
    obtain ⟨F7, e7, S7, pl⟩ := p_last S6 hp M6
    have E7 := E6.ext e7
    refine p_ret S7 (ep_op (Ra := fun d => d = .list ds6) (ep_ed (fun F1 H1 e x => ed_of (er_var (E7.ext e) rfl) (Dp.ext pl e)) rfl) (ep_take E7 rfl ep_cI (by decide) (by decide)) fun d1 d2 r1 r2 => ?_) q
    obtain ⟨r, rfl, r0, r1'⟩ := r2
    subst r1
    have hr : r.toNat < ds6.length := by omega
    exact ⟨_, od_ixL (j := r.toNat) (by omega) (List.getElem?_eq_getElem hr), ok6 _ (List.getElem_mem hr)⟩
theorem len__law_odd_prices (ds : List PyData) (h : Pre_odd wl ds) : ds.length + 1 = 2 := by obtain ⟨_, h, _⟩ := h; rw [h]; rfl
theorem dv__law_odd_prices {wl : List Str} (T : Tx K mg) (cdv : Value) (A : Around) (outer : List PySem.Env) (s : Shared) (H : Hp) (E : XK) (hr : Room 3 (A.deeper (PyProof.Rows.envOfC "_law_odd_prices" (defScope s__law_odd_prices) s.heap.objs.size T.d__law_odd_prices.f cdv))) :
    PSs (cxOf CX0 P w K mg base N__law_odd_prices "_law_odd_prices" (defScope s__law_odd_prices) T.d__law_odd_prices.f cdv A outer s H E).nox (defBody s__law_odd_prices) (t__law_odd_prices wl K) := by
  exact (pss_cons (ps_set (i := 2) sc__law_odd_prices.nd rfl (Or.inl rfl) (pe_call (ok__law_word T) (hr.mono (by decide)) (by rfl) T.d__law_word.g T.d__law_word.F.kp T.d__law_word.b .nil pass0 (pa_cons (pv 0) pa_nil)))
  (pss_cons (ps_set (i := 3) sc__law_odd_prices.nd rfl (Or.inl rfl) (pe_lst (pa_cons (pe_tup (pa_cons pe_str (pa_cons pe_str (pa_cons pe_int pa_nil)))) (pa_cons (pe_tup (pa_cons pe_str (pa_cons pe_str (pa_cons pe_int pa_nil)))) pa_nil))))
  (pss_cons (ps_set (i := 4) sc__law_odd_prices.nd rfl (Or.inl rfl) (pe_lst (pa_cons (pe_slice sl_tupA (pv 1) po_none (po_some pe_int)) (pa_cons (pe_callTy call_listQ (by rfl) T.n_list (by decide +kernel) (pa_cons (pv 1) pa_nil)) (pa_cons (pe_op op_catA (pe_tup (pa_cons pe_bl pa_nil)) (pe_slice sl_tupA (pv 1) (po_some pe_int) po_none)) (pa_cons (pe_op op_catA (pe_tup (pa_cons (pe_ix ix_seq (pv 1) pe_int (fun _ _ => rfl)) (pa_cons (pe_op op_sub (pe_un un_neg pe_int) (pe_call (ok__law_take T) (hr.mono (by decide)) (by rfl) T.d__law_take.g T.d__law_take.F.kp T.d__law_take.b .nil pass0 (pa_cons (pv 0) (pa_cons pe_int pa_nil)))) pa_nil))) (pe_slice sl_tupA (pv 1) (po_some pe_int) po_none)) (pa_cons pe_non pa_nil)))))))
  (pss_cons (ps_set (i := 4) sc__law_odd_prices.nd rfl (Or.inl rfl) (pe_op op_cat (pv 4) (pe_lst (pa_cons (pe_op op_catA (pe_slice sl_tupA (pv 1) po_none (po_some pe_int)) (pe_tup (pa_cons (pe_callTy call_listQ (by rfl) T.n_list (by decide +kernel) (pa_cons (pe_ix ix_seq (pv 1) pe_int (fun _ _ => rfl)) pa_nil)) pa_nil))) (pa_cons (pe_op op_catA (pe_slice sl_tupA (pv 1) po_none (po_some pe_int)) (pe_tup (pa_cons (pe_op op_catA (pe_ix ix_seq (pv 1) pe_int (fun _ _ => rfl)) (pe_tup (pa_cons (pe_tup (pa_cons (pv 2) (pa_cons (pv 2) (pa_cons pe_int pa_nil)))) pa_nil))) pa_nil))) pa_nil)))))
  (pss_cons (ps_set (i := 4) sc__law_odd_prices.nd rfl (Or.inl rfl) (pe_op op_cat (pv 4) (pe_lst (pa_cons (pe_op op_catA (pe_slice sl_tupA (pv 1) po_none (po_some pe_int)) (pe_tup (pa_cons (pe_callTy call_tupQ (by rfl) T.n_tuple (by decide +kernel) (pa_cons (pv 3) pa_nil)) pa_nil))) (pa_cons (pe_op op_catA (pe_slice sl_tupA (pv 1) po_none (po_some pe_int)) (pe_tup (pa_cons (pe_tup (pa_cons (pe_tup (pa_cons pe_str (pa_cons pe_str (pa_cons pe_int pa_nil)))) pa_nil)) pa_nil))) (pa_cons (pe_op op_catA (pe_op op_catA (pe_slice sl_tupA (pv 1) po_none (po_some pe_int)) (pe_tup (pa_cons pe_bl pa_nil))) (pe_slice sl_tupA (pv 1) (po_some pe_int) po_none)) pa_nil))))))
  (pss_cons (ps_set (i := 4) sc__law_odd_prices.nd rfl (Or.inl rfl) (pe_op op_cat (pv 4) (pe_lst (pa_cons (pe_op op_catA (pv 1) (pe_tup (pa_cons (pe_tup pa_nil) pa_nil))) (pa_cons (pe_op op_catA (pe_slice sl_tupA (pv 1) po_none (po_some pe_int)) (pe_tup (pa_cons (pe_tup (pa_cons (pe_tup (pa_cons pe_str (pa_cons pe_str (pa_cons (pe_un un_neg pe_int) pa_nil)))) pa_nil)) pa_nil))) (pa_cons (pe_op op_catA (pe_slice sl_tupA (pv 1) po_none (po_some pe_int)) (pe_tup (pa_cons (pe_tup (pa_cons (pe_tup (pa_cons pe_str (pa_cons pe_str (pa_cons pe_int pa_nil)))) pa_nil)) pa_nil))) pa_nil))))))
  (pss_one (ps_ret (pe_ix ix_seq (pv 4) (pe_call (ok__law_take T) (hr.mono (by decide)) (by rfl) T.d__law_take.g T.d__law_take.F.kp T.d__law_take.b .nil pass0 (pa_cons (pv 0) (pa_cons pe_int pa_nil))) (fun _ _ => rfl))))))))))

theorem ok__law_odd_prices (T : Tx K mg) : FnOk P w K mg base CX0 4 T.d__law_odd_prices.f T.d__law_odd_prices.fd ["_law_pool_here", "_law_prices_here"] (sp__law_odd_prices K wl) :=
  okP T.d__law_odd_prices.F sc__law_odd_prices (t__law_odd_prices wl K) len__law_odd_prices rd__law_odd_prices (fun cdv A outer s H E hr => dv__law_odd_prices T cdv A outer s H E hr)

end
end Gb

set_option maxHeartbeats 2000000
/-! try with several clauses 'except x as n': the library has one such clause, or several without a name. -/
namespace Gb
open PySem PySem.Spec PyProof.Rows
open L2
abbrev Cl := Value × Nat × (Addr → Value → Option Addr → TS)
/-- the wish of a list of clauses: each one's wish, what it lets by goes to the next -/
def wAsM (K : PySem.W.Frag) (Wout : WX) (D : Ends) : List Cl → WX
  | [] => Wout
  | (c, i, ts) :: r => wAs K c i ts (wAsM K Wout D r) D
/-- the clauses of the text and their readings -/
inductive HdsAs (X : Cx) : List ExceptHandler → List Cl → Prop
  | nil : HdsAs X [] []
  | cons {x n : Str} {c : Value} {i : Nat} {ts : Addr → Value → Option Addr → TS} {f : Stmt} {su : List Stmt} {p q : Pos} {hds : List ExceptHandler} {l : List Cl}
      (slot : X.N[i]? = some n) (loc : X.env.kindOf n = some .local) (cls : Names X x c)
      (body : ∀ (a : Addr) (o : Obj) (k : Value) (d : Option Addr) (ps : List (Addr × Obj)), Zc k d o → (∃ vs, o.data = .fields vs) → PSs (X.suite a ((a, o) :: ps)) (f :: su) (ts a k d)) (rest : HdsAs X hds l) :
      HdsAs X (.ExceptHandler (some (.Name x p)) (some n) (f :: su) q :: hds) ((c, i, ts) :: l)
/-- the exception a has landed: hp is the heap now, s0 the state as it was without it -/
structure Lnd (X : Cx) (B : Heap) (a : Addr) (k : Value) (d : Option Addr) (pins : List (Addr × Obj)) (σ : L2.St) (H : Hp) (s0 s1 : Shared) (hp : Heap) : Prop where
  i : Inv X pins σ H s0
  base : ∀ b o, s0.heap.get? b = some o → b ∉ frs X.stack → B.get? b = some o
  fly : HandSPX.FlyingZ B (X.env :: X.outer) a (Zc k d) hp
  upto : s0.heap.UpToSlots hp
  new : H a = none
  io : s1.os = s0.os
  gen : AllBare s1.gens
section
variable {X : Cx} {B : Heap} {a : Addr} {k : Value} {d : Option Addr} {pins : List (Addr × Obj)} {σ : L2.St} {H : Hp} {s0 s1 : Shared} {hp : Heap}
theorem Lnd.here (l : Lnd X B a k d pins σ H s0 s1 hp) : Inv X pins σ H { s1 with heap := hp } := l.i.landed l.base l.fly.1 l.upto l.io l.gen
/-- it is none of the frames -/
theorem Lnd.far (l : Lnd X B a k d pins σ H s0 s1 hp) : ∀ e ∈ X.env :: X.outer, e.frame ≠ some a := fun e he q => by
  obtain ⟨o, fs, at_, _, isF⟩ := l.fly.there
  obtain ⟨_, o2, at2, notF⟩ := l.fly.2.2.1.mem (List.mem_filterMap.mpr ⟨e, he, q⟩)
  obtain rfl : o = o2 := Option.some.inj (at_.symm.trans at2)
  exact notF fs isF
/-- the suite's beginning -/
theorem Lnd.su (hf : X.env.frame = some X.env.locals) (l : Lnd X B a k d pins σ H s0 s1 hp) :
    ∃ o, hp.get? a = some o ∧ Zc k d o ∧ (∃ vs, o.data = .fields vs) ∧ Inv (X.suite a ((a, o) :: (X.pn ++ pins))) [] σ H { s1 with heap := hp } := by
  obtain ⟨o, fs, at_, z, isF⟩ := l.fly.there
  have n1 : a ≠ X.env.locals := fun e => l.far X.env List.mem_cons_self (e ▸ hf)
  have n2 : a ∉ X.fs := fun m => by
    obtain ⟨e, me, fe⟩ := List.mem_filterMap.mp m
    exact l.far e (List.mem_cons_of_mem _ me) fe
  exact ⟨o, at_, z, ⟨fs, isF⟩, l.here.suite at_ isF l.new n1 n2⟩
theorem Lnd.next (l : Lnd X B a k d pins σ H s0 s1 hp) {h2 : Heap} (fly : HandSPX.FlyingZ B (X.env :: X.outer) a (Zc k d) h2) (u : hp.UpToSlots h2) : Lnd X B a k d pins σ H s0 s1 h2 := ⟨l.i, l.base, fly, l.upto.trans u, l.new, l.io, l.gen⟩
/-- no clause takes it -/
theorem Lnd.leaves {W : WX} {Q : Flow → Shared → Prop} (hs : X.stack = X.env :: X.outer) (hf : X.env.frame = some X.env.locals) (tk : Takes X W) (l : Lnd X B a k d pins σ H s0 s1 hp) (w : W k d σ H) :
    wpAny (model X.prog X.w) X.A (handleBy (.ref a) X.env []) Q X.xe { s1 with heap := hp } := by
  have out : wpAny (model X.prog X.w) X.A (setFlight (.ref a) X.env.frame) (fun _ s4 => wpAny (model X.prog X.w) X.A (throw (.ref a) : Sem Flow) Q X.xe s4) X.xe { s1 with heap := hp } := by
    rw [hf]
    exact HandSPX.setFlight_upZ l.fly fun h4 held u => wpAny_throw (tk _ _ ⟨a, B, s0, pins, σ, H, k, d, rfl, l.i, l.base, l.upto.trans u, .inr (.inr (hs ▸ held)), l.new, l.io, l.gen, w⟩)
  obtain ⟨_, _, _, o, fs, T, _, _, at_, _, isF, tb, _⟩ := id l.fly
  refine wpAny_handleBy_nil ?_
  unfold PySem.passOn
  refine wpAny_bind (wpAny_field at_ isF tb ?_)
  rw [if_neg (by simp : ¬ ((Value.ref T == Value.none) = true))]
  first
    | exact wpAny_bind (wpAny_pure (wpAny_bind out))
    | exact wpAny_bind out
/-- the clauses, one by one -/
theorem Lnd.clauses {W : WX} {D : Ends} (hs : X.stack = X.env :: X.outer) (hf : X.env.frame = some X.env.locals) (hN : X.N.Nodup) (tk : Takes X W) (l : Lnd X B a k d pins σ H s0 s1 hp) {hds : List ExceptHandler} {cs : List Cl} (hh : HdsAs X hds cs) :
    wAsM X.K W D cs k d σ H → wpAny (model X.prog X.w) X.A (handleBy (.ref a) X.env hds) (SP X pins D) X.xe { s1 with heap := hp } := by
  induction hh with
  | nil => exact l.leaves hs hf tk
  | @cons x n c i ts f su p q hds cs slot loc cls body rest ih =>
    rintro ⟨b, hb, yes, no⟩
    obtain ⟨o, at_, z, isF, S⟩ := l.su hf
    have ok := l.i.ok
    have hm := PySem.W.exm_one (M := model X.prog X.w) l.here.kIn (fun A Q E s kk qq => wpAny_typeOf_ref (kk _ _ at_) (by rw [z.1]; exact qq)) hb
    have named : ∀ {Q E : Value → Shared → Prop}, Q c { s1 with heap := hp } → wpAny (model X.prog X.w) (X.A.mark (some (.ref a))) (eval (.Name x p) X.env) Q E { s1 with heap := hp } := fun {Q E} qc => by
      obtain ⟨gl, dbg, at1 | ⟨no1, bi, nn⟩⟩ := cls
      · exact ld_glob S gl at1 qc dbg
      · exact ld_blt S gl no1 bi qc nn dbg
    refine wpAny_handleBy_cons (codeAny_handlers_test (named (hm.here ?_))) (by intro e; cases e)
    cases b with
    | false => exact ih (no rfl)
    | true =>
      refine codeAny_handlers_suite_as (HandSPX.lands_againZ l.fly fun h4 fly4 u4 => ?_)
      have l4 := l.next fly4 u4
      obtain ⟨o4, _, z4, isF4, S4⟩ := l4.su hf
      refine store_ok (X := X.suite a ((a, o4) :: (X.pn ++ pins))) (v := .ref a) S4 hN slot (.inl loc) rfl (fun s5 S5 => ?_) (.inr loc)
      have gone : ∀ {σ6 : L2.St} {H6 : Hp} {s6 : Shared} {R : Shared → Prop}, Inv (X.suite a ((a, o4) :: (X.pn ++ pins))) [] σ6 H6 s6 → (∀ s7, Inv X pins (σ6.set i none) H6 s7 → R s7) →
          wpAny (model X.prog X.w) X.A (do bindName X.env n .none; unbindBehindTheSuite X.env n q) (fun _ s7 => R s7) X.xe s6 := fun S6 r => gone_ok (S6.unsuite ok) hN slot loc r
      refine wpAny_mono ((body a o4 k d (X.pn ++ pins) z4 isF4).run [] s5 _ H _ S5 (yes rfl a l.new)) (fun fl s6 e => ?_) (fun _ _ e => e.elim)
      match fl, e with
      | .next, ⟨_, _, S6, r⟩ => exact gone S6 fun _ J => ⟨_, _, J, r⟩
      | .brk, ⟨_, _, S6, r⟩ => exact gone S6 fun _ J => ⟨_, _, J, r⟩
      | .cont, ⟨_, _, S6, r⟩ => exact gone S6 fun _ J => ⟨_, _, J, r⟩
      | .ret u, ⟨_, _, _, S6, rv, r⟩ => exact gone S6 fun _ J => ⟨_, _, _, J, rv, r⟩
end
/-- what is wanted of the body's exceptions: that the clauses come through -/
def catchX (X : Cx) (hds : List ExceptHandler) (pins : List (Addr × Obj)) (D : Ends) : Value → Shared → Prop := fun e t => wpAny (model X.prog X.w) X.A (noteFrame e X.env) (fun _ t2 => wpAny (model X.prog X.w) X.A (setFlight e none)
  (fun _ t3 => wpAny (model X.prog X.w) X.A (handleBy e X.env hds) (SP X pins D) X.xe t3) X.xe t2) X.xe t
section
variable {X : Cx} {body : List Stmt} {h₀ : ExceptHandler} {hds : List ExceptHandler} {cs : List Cl} {pos : Pos} {tb : WX → TS} {Wout : WX}
theorem ps_try_asM (hs : X.stack = X.env :: X.outer) (hf : X.env.frame = some X.env.locals) (hN : X.N.Nodup) (tk : Takes X Wout)
    (hb : ∀ (W : WX) (ps : List (Addr × Obj)) (xe : Value → Shared → Prop), Takes (X.tr ps xe) W → PassesOwn (model X.prog X.w) X.A X.env xe → PSs (X.tr ps xe) body (tb W))
    (hh : HdsAs X (h₀ :: hds) cs) : PS X (.Try body (h₀ :: hds) [] [] pos) (fun D σ H => tb (wAsM X.K Wout D cs) D σ H) := by
  refine ⟨fun pins s σ H D I h => wpAny_Try_except ?_⟩
  have ok := I.ok
  have fr : X.A.frames = some (X.env :: X.outer) := ok.frames.trans (congrArg some hs)
  have caught : Takes (X.tr (X.pn ++ pins) (catchX X (h₀ :: hds) pins D)) (wAsM X.K Wout D cs) := fun u s1 t => by
    obtain ⟨a, B, s0, ps2, σ2, H2, k, d, rfl, J, nb, up, sky, na, io, ag, w⟩ := t
    have sky2 : Sky B (X.env :: X.outer) a (Zc k d) X.env.locals s1.heap := hs ▸ sky
    exact Sky.land Zc.steady fr hf sky2 fun h3 fly u3 => Lnd.clauses hs hf hN tk ⟨J.ofTry ok, nb, fly, up.trans u3, na, io, ag⟩ hh w
  have run := (hb _ (X.pn ++ pins) (catchX X (h₀ :: hds) pins D) caught PassesOwn.looking).run [] s σ H D (I.toTry _) h
  refine wpAny_mono run (fun fl s1 e => ?_) fun _ _ e => e
  match fl, e with
  | .next, ⟨_, _, J, r⟩ => exact wpAny_execs_nil ⟨_, _, J.ofTry ok, r⟩
  | .brk, ⟨_, _, J, r⟩ => exact ⟨_, _, J.ofTry ok, r⟩
  | .cont, ⟨_, _, J, r⟩ => exact ⟨_, _, J.ofTry ok, r⟩
  | .ret u, ⟨_, _, _, J, rv, r⟩ => exact ⟨_, _, _, J.ofTry ok, rv, r⟩
end
end Gb

set_option maxHeartbeats 2000000
/-! _law_told -/
namespace Gb
open PySem PySem.Spec PyProof.Rows L2
/-- isinstance(e, c), e the caught error, with its field -/
structure KxC (K : PySem.W.Frag) (C : Addr) : Prop where
  cl : (PySem.W.clsIn K C).isSome = true
  ga : PySem.W.findIn K (.ref C) "__getattribute__" = some (some (.builtin "BaseException.__getattribute__"))
  gg : PySem.W.findIn K (.ref C) "__getattr__" = some none
  ex : PySem.W.subIn K (.ref C) (.type "BaseException") = some true
  ca : PySem.W.findIn K (.ref C) "__class__" = some (some (.builtin "object.__class__"))
  cg : PySem.W.specialIn K (.builtin "object.__class__") "__get__" = some (some (.builtin "getset_descriptor.__get__"))
  ct : PySem.W.takesIn K (.builtin "object.__class__") = some true
  cm : PySem.W.mroIn K C (.type "object") = some true
def rIsX (K : PySem.W.Frag) (a : Addr) (cls : Value) (d : Option Addr) (C : Addr) : List V → Hp → VK → Prop := fun xs H Q => ∃ (c : V) (cv : Value) (b : Bool) (dd : Addr) (fs : List (Str × V)),
  xs = [.ref a, c] ∧ cls = .ref C ∧ d = some dd ∧ H dd = some (.xd fs) ∧ ClsV c cv ∧ PySem.W.kitOne K (.ref C) cv = some b ∧ Q (.bl b) H
theorem call_isX {X : Cx} {a C : Addr} {oe : Obj} {cls : Value} {d : Option Addr} {pn : List (Addr × Obj)} (T : KxC X.K C) (hz : Zc cls d oe) (hf : ∃ vs, oe.data = .fields vs) : CallR (X.suite a ((a, oe) :: pn)) (.builtin "isinstance") (rIsX X.K a cls d C) := by
  intro pins s σ H xs us Q I r h
  obtain ⟨c, cv, b, dd, fs, rfl, ec, ed, ea, k, e, q⟩ := h
  subst ec
  subst ed
  obtain ⟨u1, u2, rfl, r1, r2⟩ := vals2 r
  have e2 := k.eq r2
  subst e2
  obtain rfl : u1 = Value.ref a := r1
  obtain ⟨ha, _⟩ := I.pin (a, oe) (List.mem_append_left _ List.mem_cons_self)
  obtain ⟨vs, hd⟩ := hf
  have hx : ObjOk X.prog X.w H s.heap dd (.xd fs) := I.hok dd _ ea
  obtain ⟨mA, hns, hr⟩ := hx
  obtain ⟨od, ho, hl⟩ := lookIn_ns hns
  have J : PySem.W.InstAt s.heap a oe C (some od) := ⟨ha, hz.1, by unfold PySem.W.notCls; rw [hd] <;> rfl, by rw [hz.2]; exact ho⟩
  exact PySem.W.kia_one (PySem.W.kitx_exc T.cl T.ga T.gg T.ex T.ca T.cg T.ct T.cm) I.kIn J e (fun z => nomatch z) fun tk => ⟨.bl b, H, I.tok tk, rfl, q⟩
section
variable {K : PySem.W.Frag} {σ : L2.St} {F H : Hp} {ρ : List Sv} {te : TE} {a C dd : Addr} {v : V} {x : PyData} {i : Nat}
/-- what the clause knows: the error at a stands in slot i, its dict at dd -/
theorem ed_isX {c : V} {cv : Value} {b : Bool} {fs : List (Str × V)} (E : Env K F σ ρ) (hi : ρ[i]? = some (.v (.ref a))) (hd : F dd = some (.xd fs)) (k : ClsV c cv) (e : PySem.W.kitOne K (.ref C) cv = some b) :
    Ed K (tCB (rIsX K a (.ref C) (some dd) C) (tCons (tVar i) (tCons (tC c) tNil))) σ F H (.bool b) := fun F1 H1 g Q q =>
  ⟨.ref a, E.val hi, c, cv, b, dd, fs, rfl, rfl, rfl, g.e dd _ (g.f dd _ hd), k, e, q _ H1 F1 (Gr.refl g.e) (.bl b)⟩
theorem ed_xf {f : Str} {fs : List (Str × V)} (E : Env K F σ ρ) (hi : ρ[i]? = some (.v (.ref a))) (hd : F dd = some (.xd fs)) (l : fs.lookup f = some v) (p : Dp K F v x) :
    Ed K (tXf a (.ref C) (some dd) C f (tVar i)) σ F H x := fun F1 H1 g Q q =>
  ⟨.ref a, E.val hi, rfl, rfl, dd, fs, v, rfl, g.e dd _ (g.f dd _ hd), l, q v H1 F1 (Gr.refl g.e) (Dp.ext p g.f)⟩
end
/-- what the top has written of the three errors -/
structure Errs3 (P : Program) (K : PySem.W.Frag) (mg : Str → Option Value) (CG CP CM : Addr) : Prop where
  e : Errs P K mg CP CM
  kP : KxC K CP
  kM : KxC K CM
  gG : mg "GraftError" = some (.ref CG)
  gP : mg "InvalidPrices" = some (.ref CP)
  gM : mg "InvalidMatching" = some (.ref CM)
  hP : PySem.W.hasDictIn K CP = true
  hM : PySem.W.hasDictIn K CM = true
  nP : PySem.W.findIn K (.ref CP) "value" = some none
  nM : PySem.W.findIn K (.ref CM) "value" = some none
  isMG : PySem.W.kitOne K (.ref CM) (.ref CG) = some true
  isMV : PySem.W.kitOne K (.ref CM) (.type "ValueError") = some true
  isMP : PySem.W.kitOne K (.ref CM) (.ref CP) = some false
  isPG : PySem.W.kitOne K (.ref CP) (.ref CG) = some true
  xMM : PySem.W.exmOne K (.ref CM) (.ref CM) = some true
  xPM : PySem.W.exmOne K (.ref CP) (.ref CM) = some false
  xPP : PySem.W.exmOne K (.ref CP) (.ref CP) = some true
  nV : mg "ValueError" = none
theorem Errs3.xP {P : Program} {K : PySem.W.Frag} {mg : Str → Option Value} {CG CP CM : Addr} (X : Errs3 P K mg CG CP CM) : XfC K CP := ⟨X.kP.ga, X.kP.gg, X.kP.ex, X.hP⟩
theorem Errs3.xM {P : Program} {K : PySem.W.Frag} {mg : Str → Option Value} {CG CP CM : Addr} (X : Errs3 P K mg CG CP CM) : XfC K CM := ⟨X.kM.ga, X.kM.gg, X.kM.ex, X.hM⟩
/-! ### defs that know the guards -/
section
variable {P : Program} {w : World} {K : PySem.W.Frag} {mg : Str → Option Value} {base : Heap}
theorem okDG {x qual : Str} {st : Stmt} {f : Addr} {fd : FuncData} {N ps : List Str} {k : Nat} {R : List PyData → PyData → Prop} (F : Fun K x qual st f fd) (S : FnScope N ps (defScope st)) (t : TS)
    (hl : ∀ ds d, R ds d → ds.length = ps.length) (rd : Keeps K N R t)
    (dv : ∀ (cdv : Value) (A : Around) (outer : List PySem.Env) (s : Shared) (H : Hp) (E : XK), Room k (A.deeper (PyProof.Rows.envOfC qual (defScope st) s.heap.objs.size f cdv)) → A.guards = some [] →
      PSs (cxOf CX0 P w K mg base N qual (defScope st) f cdv A outer s H E).nox (defBody st) t) : FnOkG P w K mg base (k + 1) f fd ps (spD K R) := by
  refine okG F S (fun vs H Q E h => ?_) (fun cdv A outer s H vs Q E hr hg h => ⟨t, dv cdv A outer s H E hr hg, ?_⟩)
  · obtain ⟨F0, ds, d, x, hd, r, _⟩ := h
    rw [DpAll.len hd]; exact hl ds d r
  · obtain ⟨F0, ds, d, x, hd, r, q⟩ := h
    exact rd H F0 vs ds d Q x hd r q
end
/-! ### _law_told -/
def t_bodyT (K : PySem.W.Frag) (CP CM : Addr) (W : WX) : TS := tRet (tTup (tCons (tC (.str "price")) (tCons (tCallS (spX K R_row_price (RE_row_price CP CM)) (WE W) (tCons (tVar 0) (tCons (tVar 1) (tCons (tVar 2) (tCons (tVar 3) tNil))))) tNil)))
def t_sM (K : PySem.W.Frag) (CG CP CM : Addr) (a : Addr) (cls : Value) (d : Option Addr) : TS :=
  tSeq (tAsg (tAndV (tCB (rIsX K a cls d CM) (tCons (tVar 4) (tCons (tC (.ref CG)) tNil))) (tAndV (tCB (rIsX K a cls d CM) (tCons (tVar 4) (tCons (tC (.ty "ValueError")) tNil))) (tNotV (tCB (rIsX K a cls d CM) (tCons (tVar 4) (tCons (tC (.ref CP)) tNil)))))) (gName 5))
    (tRet (tTup (tCons (tC (.str "matching")) (tCons (tAndV (tVar 5) (tOp rEq (tCB (rReprQ K) (tCons (tXf a cls d CM "value" (tVar 4)) tNil)) (tCB (rReprQ K) (tCons (tVar 3) tNil)))) tNil))))
def t_sP (K : PySem.W.Frag) (CG CP : Addr) (a : Addr) (cls : Value) (d : Option Addr) : TS :=
  tRet (tTup (tCons (tC (.str "prices")) (tCons (tAndV (tCB (rIsX K a cls d CP) (tCons (tVar 4) (tCons (tC (.ref CG)) tNil))) (tOp rEq (tCB (rReprQ K) (tCons (tXf a cls d CP "value" (tVar 4)) tNil)) (tCB (rReprQ K) (tCons (tVar 2) tNil)))) tNil)))
def told_cl (K : PySem.W.Frag) (CG CP CM : Addr) : List (Value × Nat × (Addr → Value → Option Addr → TS)) := [(.ref CM, 4, t_sM K CG CP CM), (.ref CP, 4, t_sP K CG CP)]
def t__law_told (K : PySem.W.Frag) (CG CP CM : Addr) : TS := fun D σ H => t_bodyT K CP CM (wAsM K (fun _ _ _ _ => False) D (told_cl K CG CP CM)) D σ H
def R__law_told (ds : List PyData) (d : PyData) : Prop := ∃ ta tb a b x m, ds = [rowD ta a, rowD tb b, x, m] ∧ sm x = true ∧ sm m = true ∧ shw x = true ∧ shw m = true ∧
  ((isPr x = false ∧ d = .tuple [.str "prices", .bool true]) ∨
   (∃ p, PrOk p ∧ x = prD p ∧ areRP ((a : List Str).length : Int) ((b : List Str).length : Int) m = false ∧ d = .tuple [.str "matching", .bool true]) ∨
   (∃ p l, PrOk p ∧ x = prD p ∧ m = .tuple (l.map pairD) ∧ areRP (a.length : Int) (b.length : Int) m = true ∧ inR a b l ∧ d = .tuple [.str "price", .int (priceOf p a b l)]))
theorem len__law_told (ds : List PyData) (d : PyData) (h : R__law_told ds d) : ds.length = 4 := by obtain ⟨_, _, _, _, _, _, h, _⟩ := h; rw [h]; rfl
section
variable {P : Program} {w : World} {K : PySem.W.Frag} {mg : Str → Option Value} {base : Heap} {CG CP CM : Addr}
theorem dv__law_told (T : Tx K mg) (X : Errs3 P K mg CG CP CM) (cdv : Value) (A : Around) (outer : List PySem.Env) (s : Shared) (H : Hp) (E : XK) (hr : Room 6 (A.deeper (PyProof.Rows.envOfC "_law_told" (defScope s__law_told) s.heap.objs.size T.d__law_told.f cdv))) (hg : A.guards = some []) :
    PSs (cxOf CX0 P w K mg base N__law_told "_law_told" (defScope s__law_told) T.d__law_told.f cdv A outer s H E).nox (defBody s__law_told) (t__law_told K CG CP CM) := by
  refine pss_one (ps_try_asM (tb := t_bodyT K CP CM) (Wout := fun _ _ _ _ => False) (cs := told_cl K CG CP CM) rfl rfl sc__law_told.nd takes0 (fun W pn xe tk _ => ?_) ?_)
  · exact pss_one (ps_ret (pe_tup (pa_cons pe_str (pa_cons (by exact pe_callS (ok_row_price T X.e) hr rfl T.d_row_price.g T.d_row_price.F.kp T.d_row_price.b (fun σ => passAt tk σ) (by exact (pa_cons (pv 0) (pa_cons (pv 1) (pa_cons (pv 2) (pa_cons (pv 3) pa_nil)))))) pa_nil))))
  · refine .cons rfl rfl ⟨rfl, by decide, .inl X.gM⟩ (fun a oe cls d pn hz hf => ?_) (.cons rfl rfl ⟨rfl, by decide, .inl X.gP⟩ (fun a oe cls d pn hz hf => ?_) .nil)
    · exact pss_cons (ps_set (i := 5) sc__law_told.nd rfl (Or.inl rfl) (by exact pe_and (pe_callB (call_isX X.kM hz hf) (by rfl) T.n_isinstance (by decide +kernel) (by exact (pa_cons (pv 4) (pa_cons (pe_glob (by rfl) X.gG rfl) pa_nil)))) (pe_and (pe_callB (call_isX X.kM hz hf) (by rfl) T.n_isinstance (by decide +kernel) (by exact (pa_cons (pv 4) (pa_cons (pe_bltn (v := .ty "ValueError") (by rfl) X.nV (by decide +kernel) rfl) pa_nil)))) (pe_one (pe_not (pe_callB (call_isX X.kM hz hf) (by rfl) T.n_isinstance (by decide +kernel) (by exact (pa_cons (pv 4) (pa_cons (pe_glob (by rfl) X.gP rfl) pa_nil)))))))))
        (pss_one (ps_ret (pe_tup (pa_cons pe_str (pa_cons (by exact pe_and (pv 5) (pe_one (pe_cmpR op_eq (pe_callB (call_reprQ hg hr.units) (by rfl) T.n_repr (by decide +kernel) (by exact (pa_cons (pe_xf X.xM X.nM hz hf (pv 4)) pa_nil))) (pe_callB (call_reprQ hg hr.units) (by rfl) T.n_repr (by decide +kernel) (by exact (pa_cons (pv 3) pa_nil))) (nomark _)))) pa_nil)))))
    · exact (pss_one (ps_ret (pe_tup (pa_cons pe_str (pa_cons (by exact pe_and (pe_callB (call_isX X.kP hz hf) (by rfl) T.n_isinstance (by decide +kernel) (by exact (pa_cons (pv 4) (pa_cons (pe_glob (by rfl) X.gG rfl) pa_nil)))) (pe_one (pe_cmpR op_eq (pe_callB (call_reprQ hg hr.units) (by rfl) T.n_repr (by decide +kernel) (by exact (pa_cons (pe_xf X.xP X.nP hz hf (pv 4)) pa_nil))) (pe_callB (call_reprQ hg hr.units) (by rfl) T.n_repr (by decide +kernel) (by exact (pa_cons (pv 2) pa_nil))) (nomark _)))) pa_nil)))))
end
section
variable {K : PySem.W.Frag} {σ : L2.St} {F H H0 F0 : Hp} {ρ : List Sv} {d : PyData} {D : Ends} {t : TA} {ds : List PyData}
theorem ed_callS {R : List PyData → PyData → Prop} {RE : List PyData → Addr → PyData → Prop} {E : L2.St → XK} (h : Eda K t σ F H ds) (hr : R ds d) : Ed K (tCallS (spX K R RE) E t) σ F H d := fun F1 H1 g Q q =>
  h F1 H1 g _ fun vs H2 F2 g2 p2 => ⟨F2, ds, g2.e, p2, .inl ⟨d, hr, fun v H3 F3 g3 p3 => q v H3 F3 (g2.tr g3) p3⟩⟩
/-- return (z, f(..)) where f raises -/
theorem st_told {R : List PyData → PyData → Prop} {RE : List PyData → Addr → PyData → Prop} {W : WX} {C : Addr} {x : PyData} {z : Str} (G : Gr no H0 F0 H F) (h : Eda K t σ F H ds) (hr : RE ds C x)
    (k : ∀ v dd H2 F2, Gr no H0 F0 H2 F2 → Gr no H F H2 F2 → F2 dd = some (.xd [(("value" : Str), v)]) → Dp K F2 v x → W (.ref C) (some dd) σ H2) :
    tRet (tTup (tCons (tC (.str z)) (tCons (tCallS (spX K R RE) (WE W) t) tNil))) D σ H := h F H (Gr.refl G.e) _ fun vs H2 F2 g2 p2 => ⟨F2, ds, g2.e, p2, .inr ⟨C, x, hr, fun v H3 F3 dd g3 p3 hn =>
  have g4 : Gr no H3 F3 (upd H3 dd (.xd [(("value" : Str), v)])) (upd F3 dd (.xd [(("value" : Str), v)])) := Gr.new g3.e hn
  k v dd _ _ (G.tr ((g2.tr g3).tr g4)) ((g2.tr g3).tr g4) upd_same (Dp.ext p3 g4.f)⟩⟩
end
section
variable {P : Program} {w : World} {K : PySem.W.Frag} {mg : Str → Option Value} {base : Heap} {CG CP CM : Addr}
theorem rd__law_told (X : Errs3 P K mg CG CP CM) : Keeps K N__law_told R__law_told (t__law_told K CG CP CM) := by
  intro H F vs ds d Q x hd h q
  obtain ⟨ta, tb, a, b, y, m, rfl, sy, sm', hy, hm, h⟩ := h
  have E := env_start (N := N__law_told) hd
  have G : Gr no H F H F := Gr.refl x
  have args : Eda K (tCons (tVar 0) (tCons (tVar 1) (tCons (tVar 2) (tCons (tVar 3) tNil)))) (L2.start N__law_told vs) F H [rowD ta a, rowD tb b, y, m] := eda_cons (ed_var E rfl) (eda_cons (ed_var E rfl) (eda_cons (ed_var E rfl) (eda_cons (ed_var E rfl) eda_nil)))
  rcases h with ⟨hp, rfl⟩ | ⟨p, ok, rfl, hr, rfl⟩ | ⟨p, l, ok, rfl, rfl, hr, hin, rfl⟩
  · refine st_told G args (RE := RE_row_price CP CM) (C := CP) (x := y) (.inl ⟨_, _, _, sy, hp, rfl, rfl⟩) fun v dd H2 F2 G2 g2 hdd p2 => ?_
    refine ⟨false, X.xPM, (fun z => nomatch z), fun _ => ⟨true, X.xPP, fun _ e na => ?_, fun z => nomatch z⟩⟩
    have E2 := Env.set (o := some (V.ref e)) 4 (s := .v (.ref e)) (E.ext g2.f) rfl
    exact st_ret G2 (ed_tup (eda_cons (ed_cS (K := K)) (eda_cons (ed_is (ed_andV (ed_isX E2 rfl hdd (ClsV.own CG) X.isPG) (fun _ => ed_op (ed_cb (eda_cons (ed_xf E2 rfl hdd (by simp [List.lookup]) p2) eda_nil) (cd_repr hy)) (ed_cb (eda_cons (ed_var E2 rfl) eda_nil) (cd_repr hy)) od_eqS)) (by simp)) eda_nil))) q
  · refine st_told G args (RE := RE_row_price CP CM) (C := CM) (x := m) (.inr ⟨ta, tb, a, b, p, ok, sm', hr, rfl, rfl⟩) fun v dd H2 F2 G2 g2 hdd p2 => ?_
    refine ⟨true, X.xMM, fun _ e na => ?_, fun z => nomatch z⟩
    have E2 := Env.set (o := some (V.ref e)) 4 (s := .v (.ref e)) (E.ext g2.f) rfl
    refine st_seq (st_set (d := .bool true) G2 E2 (ed_is (ed_andV (ed_isX E2 rfl hdd (ClsV.own CG) X.isMG) (fun _ => ed_andV (ed_isX E2 rfl hdd (ClsV.ty "ValueError") X.isMV) (fun _ => ed_notV (ed_isX E2 rfl hdd (ClsV.own CP) X.isMP)))) rfl) fun v3 H3 F3 G3 g3 p3 E3 => ?_)
    exact st_ret G3 (ed_tup (eda_cons (ed_cS (K := K)) (eda_cons (ed_is (ed_andV (ed_var E3 rfl) (fun _ => ed_op (ed_cb (eda_cons (ed_xf E3 rfl (g3.f _ _ hdd) (by simp [List.lookup]) (Dp.ext p2 g3.f)) eda_nil) (cd_repr hm)) (ed_cb (eda_cons (ed_var E3 rfl) eda_nil) (cd_repr hm)) od_eqS)) (by simp)) eda_nil))) q
  · exact st_ret G (ed_tup (eda_cons (ed_cS (K := K)) (eda_cons (ed_callS args ⟨ta, tb, a, b, p, l, ok, sm', hr, hin, rfl, rfl⟩) eda_nil)) (show 2 ≤ 1000 by omega)) q
theorem ok__law_told (T : Tx K mg) (X : Errs3 P K mg CG CP CM) : FnOkG P w K mg base 7 T.d__law_told.f T.d__law_told.fd ["_law_a", "_law_b", "_law_prices_here", "_law_matching"] (spD K R__law_told) :=
  okDG T.d__law_told.F sc__law_told (t__law_told K CG CP CM) len__law_told (rd__law_told X) (fun cdv A outer s H E hr hg => dv__law_told T X cdv A outer s H E hr hg)
end
end Gb

set_option maxHeartbeats 1000000
/-! _law_told_right -/
namespace Gb
open PySem L2
local macro_rules | `(tactic| walk_at "wk") => `(tactic| (repeat' (first | exact trivial | exact Or.inl rfl | exact Or.inr rfl | apply And.intro)))
def R__law_told_right (ds : List PyData) (d : PyData) : Prop := ∃ ta tb a b p m, ds = [rowD ta a, rowD tb b, prD p, m] ∧ PrOk p ∧ sm m = true ∧ shw (prD p) = true ∧ shw m = true ∧ d = .bool true
theorem len__law_told_right (ds : List PyData) (d : PyData) (h : R__law_told_right ds d) : ds.length = 4 := by obtain ⟨_, _, _, _, _, _, h, _⟩ := h; rw [h]; rfl
section
variable {P : Program} {w : World} {K : PySem.W.Frag} {mg : Str → Option Value} {base : Heap} {CG CP CM : Addr}
/-! ### _law_told_right -/
def t__law_told_right (K : PySem.W.Frag) : TS :=
  (tSeq (tAsg (tCall (spD K R__law_told) [] E0 (tCons (tVar 0) (tCons (tVar 1) (tCons (tVar 2) (tCons (tVar 3) tNil))))) (gName 4))
  (tSeq (tIfS (tNot (tB (tCall (sp__law_is_row_matching K) [] E0 (tCons (tVar 3) (tCons (tVar 0) (tCons (tVar 1) tNil)))))) (tRet (tOp (rEqD K) (tVar 4) (tTup (tCons (tC (.str "matching")) (tCons (tC (.bl true)) tNil))))) tNext)
  (tSeq (tAsg (tOp rAddI (tOp rMulI (tOp (rIx K) (tVar 2) (tC (.int 0))) (tOp rSubI (tCB (rLenQ K) (tCons (tVar 0) tNil)) (tCB (rLenQ K) (tCons (tVar 3) tNil)))) (tOp rMulI (tOp (rIx K) (tVar 2) (tC (.int 1))) (tOp rSubI (tCB (rLenQ K) (tCons (tVar 1) tNil)) (tCB (rLenQ K) (tCons (tVar 3) tNil))))) (gName 5))
  (tSeq (tFor (iTup K (tVar 3)) (gTup K 2 (gCons (gName 6) (gCons (gName 7) gNil)))
    (tAsg (tOp rAddI (tVar 5) (tCall (sp__law_change K) [] E0 (tCons (tVar 2) (tCons (tOp (rIx K) (tVar 0) (tVar 6)) (tCons (tOp (rIx K) (tVar 1) (tVar 7)) tNil))))) (gName 5)))
  (tRet (tAndV (tOp rEq (tOp (rIx K) (tVar 4) (tC (.int 0))) (tC (.str "price"))) (tCall (spD K R_same0) [] E0 (tCons (tOp (rIx K) (tVar 4) (tC (.int 1))) (tCons (tVar 5) tNil)))))))))

theorem rd__law_told_right : Keeps K N__law_told_right R__law_told_right (t__law_told_right K) := by
  intro H F vs ds d Q x hd h q
  obtain ⟨ta, tb, a, b, p, m, rfl, ok, sm', hp, hm, rfl⟩ := h
  have E := env_start (N := N__law_told_right) hd
  by_cases hr : areRP (a.length : Int) (b.length : Int) m = true
  · obtain ⟨l, rfl, hin⟩ := areRP_pairs hr
    have hlen : CbD K (rLenQ K) [.tuple (l.map pairD)] (.int (l.length : Int)) := by
      have h := cd_lenT (K := K) (ds := l.map pairD)
      rw [List.length_map] at h
      exact h
    refine st_seq (st_set (Gr.refl x) E (d := .tuple [.str "price", .int (priceOf p a b l)]) (ed_call (eda_cons (ed_var E rfl) (eda_cons (ed_var E rfl) (eda_cons (ed_var E rfl) (eda_cons (ed_var E rfl) eda_nil)))) ⟨ta, tb, a, b, prD p, _, rfl, ok.sm, sm', hp, hm, .inr (.inr ⟨p, l, ok, rfl, rfl, hr, hin, rfl⟩)⟩) fun v1 H1 F1 G1 g1 p1 E1 => ?_)
    refine st_seq (st_if (b := !true) G1 (edt_not (edt_B (ed_call (eda_cons (ed_var E1 rfl) (eda_cons (ed_var E1 rfl) (eda_cons (ed_var E1 rfl) eda_nil))) ⟨_, _, _, _, _, rfl, by rw [hr]⟩))) (fun h => nomatch h) (fun h H2 F2 G2 g2 => ?_))
    have E2 := E1.ext g2.f
    refine st_seq (st_set G2 E2 (d := .int (p.dr * ((a.length : Int) - l.length) + p.ad * ((b.length : Int) - l.length))) (ed_op (ed_op (ed_op (ed_var E2 rfl) (ed_cI (K := K)) (od_ixT (j := 0) rfl rfl)) (ed_op (ed_cb (eda_cons (ed_var E2 rfl) eda_nil) cd_lenR) (ed_cb (eda_cons (ed_var E2 rfl) eda_nil) hlen) od_sub) (od_mul (cmul_l ok.dr)))
      (ed_op (ed_op (ed_var E2 rfl) (ed_cI (K := K)) (od_ixT (j := 1) rfl rfl)) (ed_op (ed_cb (eda_cons (ed_var E2 rfl) eda_nil) cd_lenR) (ed_cb (eda_cons (ed_var E2 rfl) eda_nil) hlen) od_sub) (od_mul (cmul_l ok.ad))) od_add) fun v3 H3 F3 G3 g3 pv3 E3 => ?_)
    refine st_seq (st_forT G3 (ed_var E3 rfl) fun H4 F4 G4 g4 => ⟨fun i σ' H' => ∃ F' z, Gr no H F H' F' ∧ Ext F4 F' ∧ Env K F' σ' [.d (rowD ta a), .d (rowD tb b), .d (prD p), .d (.tuple (l.map pairD)), .d (.tuple [.str "price", .int (priceOf p a b l)]), .d (.int z), .un, .un] ∧
        z + chgs p a b (l.drop i) = priceOf p a b l, ?_, ?_, ?_, ?_⟩)
    · exact ⟨F4, _, G4, Ext.rfl', E3.ext g4.f, rfl⟩
    · rintro i σ' H' ⟨F', _, G', e', _⟩
      exact e'.tr G'.e
    · rintro i t v σ' H' e pv ⟨F', z, G', e', E', hl⟩
      rw [List.getElem?_map] at e
      cases et : l[i]? with
      | none => rw [et] at e; cases e
      | some t' =>
        rw [et] at e
        obtain rfl : pairD t' = t := Option.some.inj e
        have hdr : l.drop i = t' :: l.drop (i + 1) := by
          obtain ⟨h1, h2⟩ := List.getElem?_eq_some_iff.mp et
          rw [List.drop_eq_getElem_cons h1, h2]
        have hm' := hin t' (List.mem_of_getElem? et)
        rw [hdr] at hl
        refine g_tup2 (Dp.ext pv e') G'.e fun v1 v2 p1 p2 => ?_
        have E5 : Env K F' _ [.d (rowD ta a), .d (rowD tb b), .d (prD p), .d (.tuple (l.map pairD)), .d (.tuple [.str "price", .int (priceOf p a b l)]), .d (.int z), .d (.int (t'.1 : Int)), .d (.int (t'.2 : Int))] := Env.set 7 (s := .d (.int (t'.2 : Int))) (Env.set 6 (s := .d (.int (t'.1 : Int))) E' ⟨v1, rfl, p1⟩) ⟨v2, rfl, p2⟩
        refine st_set G' E5 (ed_op (ed_var E5 rfl) (ed_call (eda_cons (ed_var E5 rfl) (eda_cons (ed_op (ed_var E5 rfl) (ed_var E5 rfl) (od_word rfl hm'.1)) (eda_cons (ed_op (ed_var E5 rfl) (ed_var E5 rfl) (od_word rfl hm'.2)) eda_nil))) ⟨_, _, _, rfl, rfl⟩) od_add) fun v6 H6 F6 G6 g6 p6 E6 => ?_
        refine ⟨F6, _, G6, e'.tr g6.f, E6.weak (by walk_at "wk"), ?_⟩
        rw [← hl]
        show z + _ + _ = z + (_ + _)
        omega
    · rintro σ' H' ⟨F', z, G', e', E', hl⟩
      dsimp only
      have e1 : (l.drop (l.map pairD).length) = [] := by rw [List.length_map, List.drop_length]
      rw [e1] at hl
      have hl' : z + 0 = priceOf p a b l := hl
      rw [Int.add_zero] at hl'
      refine st_ret G' (ed_is (ed_andV (b := true) (c := true) (ed_is (ed_op (ed_op (ed_var E' rfl) (ed_cI (K := K)) (od_ixT (j := 0) rfl rfl)) (ed_cS (K := K)) od_eqS) (by simp)) (fun _ => ed_call (eda_cons (ed_op (ed_var E' rfl) (ed_cI (K := K)) (od_ixT (j := 1) rfl rfl)) (eda_cons (ed_var E' rfl) eda_nil)) ⟨z, by rw [hl'], rfl⟩)) rfl) q
  · have hr' : areRP (a.length : Int) (b.length : Int) m = false := by simpa using hr
    refine st_seq (st_set (Gr.refl x) E (d := .tuple [.str "matching", .bool true]) (ed_call (eda_cons (ed_var E rfl) (eda_cons (ed_var E rfl) (eda_cons (ed_var E rfl) (eda_cons (ed_var E rfl) eda_nil)))) ⟨ta, tb, a, b, prD p, m, rfl, ok.sm, sm', hp, hm, .inr (.inl ⟨p, ok, rfl, hr', rfl⟩)⟩) fun v1 H1 F1 G1 g1 p1 E1 => ?_)
    refine st_seq (st_if (b := !false) G1 (edt_not (edt_B (ed_call (eda_cons (ed_var E1 rfl) (eda_cons (ed_var E1 rfl) (eda_cons (ed_var E1 rfl) eda_nil))) ⟨_, _, _, _, _, rfl, by rw [hr']⟩))) (fun h H2 F2 G2 g2 => ?_) (fun h => nomatch h))
    have E2 := E1.ext g2.f
    exact st_ret G2 (ed_is (ed_op (ed_var E2 rfl) (ed_tup (eda_cons (ed_cS (K := K)) (eda_cons (ed_cB (K := K)) eda_nil))) (od_eqD (by decide +kernel) (by decide +kernel))) (congrArg PyData.bool (by decide +kernel))) q
theorem dv__law_told_right (T : Tx K mg) (X3 : Errs3 P K mg CG CP CM) (cdv : Value) (A : Around) (outer : List PySem.Env) (s : Shared) (H : Hp) (E : XK) (hr : Room 7 (A.deeper (PyProof.Rows.envOfC "_law_told_right" (defScope s__law_told_right) s.heap.objs.size T.d__law_told_right.f cdv))) (hg : A.guards = some []) :
    PSs (cxOf CX0 P w K mg base N__law_told_right "_law_told_right" (defScope s__law_told_right) T.d__law_told_right.f cdv A outer s H E).nox (defBody s__law_told_right) (t__law_told_right K) := by
  exact (pss_cons (ps_set (i := 4) sc__law_told_right.nd rfl (Or.inl rfl) (pe_callG (ok__law_told T X3) (hr.mono (by decide)) hg (by rfl) T.d__law_told.g T.d__law_told.F.kp T.d__law_told.b (pa_cons (pv 0) (pa_cons (pv 1) (pa_cons (pv 2) (pa_cons (pv 3) pa_nil))))))
  (pss_cons (ps_if (pt_not (pt_val (pe_call (ok__law_is_row_matching T) (hr.mono (by decide)) (by rfl) T.d__law_is_row_matching.g T.d__law_is_row_matching.F.kp T.d__law_is_row_matching.b .nil pass0 (pa_cons (pv 3) (pa_cons (pv 0) (pa_cons (pv 1) pa_nil)))))) (pss_one (ps_ret (pe_cmpR (op_eqD hr.units) (pv 4) (pe_tup (pa_cons pe_str (pa_cons pe_bl pa_nil))) (nomark _)))) pss_nil)
  (pss_cons (ps_set (i := 5) sc__law_told_right.nd rfl (Or.inl rfl) (pe_op op_add (pe_op op_mul (pe_ix ix_seq (pv 2) pe_int (fun _ _ => rfl)) (pe_op op_sub (pe_callB call_lenQ (by rfl) T.n_len (by decide +kernel) (pa_cons (pv 0) pa_nil)) (pe_callB call_lenQ (by rfl) T.n_len (by decide +kernel) (pa_cons (pv 3) pa_nil)))) (pe_op op_mul (pe_ix ix_seq (pv 2) pe_int (fun _ _ => rfl)) (pe_op op_sub (pe_callB call_lenQ (by rfl) T.n_len (by decide +kernel) (pa_cons (pv 1) pa_nil)) (pe_callB call_lenQ (by rfl) T.n_len (by decide +kernel) (pa_cons (pv 3) pa_nil))))))
  (pss_cons (ps_for PassesOwn.never rfl (pi_tup (pv 3)) (pg_tup (by rfl) (pgs_cons (pg_name (i := 6) sc__law_told_right.nd rfl (Or.inl rfl)) (pgs_cons (pg_name (i := 7) sc__law_told_right.nd rfl (Or.inl rfl)) pgs_nil)))
    (pss_one (ps_set (i := 5) sc__law_told_right.nd rfl (Or.inl rfl) (pe_op op_add (pv 5) (pe_call (ok__law_change T) (hr.mono (by decide)) (by rfl) T.d__law_change.g T.d__law_change.F.kp T.d__law_change.b .nil pass0 (pa_cons (pv 2) (pa_cons (pe_ix ix_seq (pv 0) (pv 6) (fun _ _ => rfl)) (pa_cons (pe_ix ix_seq (pv 1) (pv 7) (fun _ _ => rfl)) pa_nil))))))))
  (pss_one (ps_ret (pe_and (pe_cmpR op_eq (pe_ix ix_seq (pv 4) pe_int (fun _ _ => rfl)) pe_str (nomark _)) (pe_one (pe_call (ok_same0 T) (hr.mono (by decide)) (by rfl) T.d__law_same.g T.d__law_same.F.kp T.d__law_same.b .nil pass0 (pa_cons (pe_ix ix_seq (pv 4) pe_int (fun _ _ => rfl)) (pa_cons (pv 5) pa_nil)))))))))))

theorem ok__law_told_right (T : Tx K mg) (X3 : Errs3 P K mg CG CP CM) : FnOkG P w K mg base 8 T.d__law_told_right.f T.d__law_told_right.fd ["_law_a", "_law_b", "_law_prices_here", "_law_value"] (spD K R__law_told_right) :=
  okDG T.d__law_told_right.F sc__law_told_right (t__law_told_right K) len__law_told_right rd__law_told_right (fun cdv A outer s H E hr hg => dv__law_told_right T X3 cdv A outer s H E hr hg)

end
end Gb

set_option maxHeartbeats 1000000
/-! law -/
namespace Gb
open PySem L2
local macro_rules | `(tactic| walk_at "wk") => `(tactic| (repeat' (first | exact trivial | exact Or.inl rfl | exact Or.inr rfl | apply And.intro)))
/-! ### promises for some words -/
def spW (sp : List Str → Sp) : Sp := fun vs H Q E => ∃ wl, sp wl vs H Q E
section
variable {P : Program} {w : World} {K : PySem.W.Frag} {mg : Str → Option Value} {base : Heap} {CG CP CM : Addr}
theorem okW {k : Nat} {f : Addr} {fd : FuncData} {ps : List Str} {sp : List Str → Sp} (h : ∀ wl, FnOk P w K mg base CX0 k f fd ps (sp wl)) : FnOk P w K mg base CX0 k f fd ps (spW sp) where
  len := fun vs H Q E ⟨wl, x⟩ => (h wl).len vs H Q E x
  run := fun A outer s H args us vs Q E hr e0 hb r ⟨wl, x⟩ => (h wl).run A outer s H args us vs Q E hr e0 hb r x
/-! ### law -/
def t_law (K : PySem.W.Frag) : TS :=
  (tSeq (tAsg (tCall (sp__law_pool K) [] E0 (tCons (tVar 0) tNil)) (gName 1))
  (tSeq (sDPut (tVar 1) (tC (.str "words")) (tCall (sp__law_words K none) [] E0 (tCons (tVar 1) tNil)))
  (tSeq (tAsg (tCall (spW fun wl => sp__law_prices K wl) [] E0 (tCons (tVar 1) tNil)) (gName 2))
  (tSeq (tAsg (tLc (iRng1 (tCons (tC (.int 2)) tNil)) (gName 12) tYes (tOp (rIx K) (tLst (tCons (tCall (spW fun wl => sp__law_take K (some wl)) [] E0 (tCons (tVar 1) (tCons (tC (.int 4)) tNil))) (tCons (tCall (spW fun wl => sp__law_take K (some wl)) [] E0 (tCons (tVar 1) (tCons (tC (.int 13)) tNil))) (tCons (tC (.int 12)) tNil)))) (tCall (spW fun wl => sp__law_take K (some wl)) [] E0 (tCons (tVar 1) (tCons (tC (.int 3)) tNil)))) [12]) (gName 3))
  (tSeq (tAsg (tLc (iRng1 (tCons (tOp (rIx K) (tVar 3) (tC (.int 0))) tNil)) (gName 12) tYes (tCall (spW fun wl => sp__law_word K wl) [] E0 (tCons (tVar 1) tNil)) [12]) (gName 4))
  (tSeq (tAsg (tLc (iRng1 (tCons (tOp (rIx K) (tVar 3) (tC (.int 1))) tNil)) (gName 12) tYes (tCall (spW fun wl => sp__law_word K wl) [] E0 (tCons (tVar 1) tNil)) [12]) (gName 5))
  (tSeq (tIfS (tTest (tOp rEq (tCall (spW fun wl => sp__law_take K (some wl)) [] E0 (tCons (tVar 1) (tCons (tC (.int 4)) tNil))) (tC (.int 0)))) (tSeq (tAsg (tCB (rTupQ K) (tCons (tVar 4) tNil)) (gName 4))
  (tAsg (tCB (rTupQ K) (tCons (tVar 5) tNil)) (gName 5))) tNext)
  (tSeq (tAsg (tCall (sp__law_table K) [] E0 (tCons (tVar 4) (tCons (tVar 5) (tCons (tVar 2) tNil)))) (gName 6))
  (tSeq (tAsg (tCB (rReprQ K) (tCons (tTup (tCons (tVar 4) (tCons (tVar 5) tNil))) tNil)) (gName 7))
  (tSeq (tAsg (tCall (sp__law_first K) [] E0 (tCons (tVar 4) (tCons (tVar 5) (tCons (tVar 2) (tCons (tVar 6) tNil))))) (gName 8))
  (tSeq (tIfS (tNot (tB (tCall (spD K R_same0) [] E0 (tCons (tCall (sp_row_distance K) [] E0 (tCons (tVar 4) (tCons (tVar 5) (tCons (tVar 2) tNil)))) (tCons (tOp (rIx K) (tOp (rIx K) (tOp (rIx K) (tVar 6) (tC (.int 0))) (tC (.int 0))) (tC (.int 0))) tNil))))) (tRet (tC (.bl false))) tNext)
  (tSeq (tIfS (tNot (tB (tCall (spD K R_same2) [] E0 (tCons (tCall (sp_first_row_matching K) [] E0 (tCons (tVar 4) (tCons (tVar 5) (tCons (tVar 2) tNil)))) (tCons (tVar 8) tNil))))) (tRet (tC (.bl false))) tNext)
  (tSeq (tIfS (tNot (tB (tCall (spD K R_same0) [] E0 (tCons (tCall (sp_count_row_matchings K) [] E0 (tCons (tVar 4) (tCons (tVar 5) (tCons (tVar 2) tNil)))) (tCons (tOp (rIx K) (tOp (rIx K) (tOp (rIx K) (tVar 6) (tC (.int 0))) (tC (.int 0))) (tC (.int 1))) tNil))))) (tRet (tC (.bl false))) tNext)
  (tSeq (tAsg (tCall (spW fun wl => sp__law_drawn K wl) [] E0 (tCons (tVar 1) (tCons (tVar 4) (tCons (tVar 5) tNil)))) (gName 9))
  (tSeq (tFor (iList K (tLst (tCons (tVar 8) (tCons (tVar 9) (tCons (tCall (spW fun wl => sp__law_spoilt K wl) [] E0 (tCons (tVar 1) (tCons (tVar 9) tNil))) (tCons (tCall (spW fun wl => sp__law_spoilt K wl) [] E0 (tCons (tVar 1) (tCons (tVar 8) tNil))) tNil)))))) (gName 10)
    (tIfS (tNot (tB (tCall (spD K R__law_told_right) [] E0 (tCons (tVar 4) (tCons (tVar 5) (tCons (tVar 2) (tCons (tVar 10) tNil))))))) (tRet (tC (.bl false))) tNext))
  (tSeq (tAsg (tCall (spW fun wl => sp__law_odd_prices K wl) [] E0 (tCons (tVar 1) (tCons (tVar 2) tNil))) (gName 11))
  (tRet (tAndV (tOp (rEqD K) (tCall (spD K R__law_told) [] E0 (tCons (tVar 4) (tCons (tVar 5) (tCons (tVar 11) (tCons (tCall (spW fun wl => sp__law_spoilt K wl) [] E0 (tCons (tVar 1) (tCons (tVar 9) tNil))) tNil))))) (tTup (tCons (tC (.str "prices")) (tCons (tC (.bl true)) tNil)))) (tOp rEq (tCB (rReprQ K) (tCons (tTup (tCons (tVar 4) (tCons (tVar 5) tNil))) tNil)) (tVar 7))))))))))))))))))))

theorem dv_law (T : Tx K mg) (X3 : Errs3 P K mg CG CP CM) (cdv : Value) (A : Around) (outer : List PySem.Env) (s : Shared) (H : Hp) (E : XK) (hr : Room 8 (A.deeper (PyProof.Rows.envOfC "law" (defScope s_law) s.heap.objs.size T.d_law.f cdv))) (hg : A.guards = some []) :
    PSs (cxOf CX0 P w K mg base N_law "law" (defScope s_law) T.d_law.f cdv A outer s H E).nox (defBody s_law) (t_law K) := by
  exact (pss_cons (ps_set (i := 1) sc_law.nd rfl (Or.inr rfl) (pe_call (ok__law_pool T) (hr.mono (by decide)) (by rfl) T.d__law_pool.g T.d__law_pool.F.kp T.d__law_pool.b .nil pass0 (pa_cons (pv 0) pa_nil)))
  (pss_cons (ps_dput (hu_of hr) (pv 1) pe_str (pe_call (ok__law_words T) (hr.mono (by decide)) (by rfl) T.d__law_words.g T.d__law_words.F.kp T.d__law_words.b .nil pass0 (pa_cons (pv 1) pa_nil)) rfl)
  (pss_cons (ps_set (i := 2) sc_law.nd rfl (Or.inl rfl) (pe_call (okW (sp := fun wl => sp__law_prices K wl) fun wl => ok__law_prices T) (hr.mono (by decide)) (by rfl) T.d__law_prices.g T.d__law_prices.F.kp T.d__law_prices.b .nil pass0 (pa_cons (pv 1) pa_nil)))
  (pss_cons (ps_setLc (i := 3) (own := [("_law_k", 12)]) (g := gName 12) (tt := tYes) rfl sc_law.nd rfl rfl (sw_true rfl rfl rfl (by decide +kernel)) (pi_range1 (by rfl) T.n_range (pa_cons pe_int pa_nil)) (blkOk_by (own := [("_law_k", 12)]) (N := N_law) (sc := defScope s_law) (by decide +kernel)) (fun _ _ _ _ _ => pg_name (i := 12) sc_law.nd rfl (Or.inl rfl)) (fun _ _ _ _ _ => pts_nil) (fun _ _ _ _ _ => (pe_ix ix_seq (pe_lst (pa_cons (pe_call (okW (sp := fun wl => sp__law_take K (some wl)) fun wl => ok__law_take T) (hr.mono (by decide)) (by rfl) T.d__law_take.g T.d__law_take.F.kp T.d__law_take.b .nil pass0 (pa_cons (pv 1) (pa_cons pe_int pa_nil))) (pa_cons (pe_call (okW (sp := fun wl => sp__law_take K (some wl)) fun wl => ok__law_take T) (hr.mono (by decide)) (by rfl) T.d__law_take.g T.d__law_take.F.kp T.d__law_take.b .nil pass0 (pa_cons (pv 1) (pa_cons pe_int pa_nil))) (pa_cons pe_int pa_nil)))) (pe_call (okW (sp := fun wl => sp__law_take K (some wl)) fun wl => ok__law_take T) (hr.mono (by decide)) (by rfl) T.d__law_take.g T.d__law_take.F.kp T.d__law_take.b .nil pass0 (pa_cons (pv 1) (pa_cons pe_int pa_nil))) (fun _ _ => rfl))))
  (pss_cons (ps_setLc (i := 4) (own := [("_law_k", 12)]) (g := gName 12) (tt := tYes) rfl sc_law.nd rfl rfl (sw_true rfl rfl rfl (by decide +kernel)) (pi_range1 (by rfl) T.n_range (pa_cons (pe_ix ix_seq (pv 3) pe_int (fun _ _ => rfl)) pa_nil)) (blkOk_by (own := [("_law_k", 12)]) (N := N_law) (sc := defScope s_law) (by decide +kernel)) (fun _ _ _ _ _ => pg_name (i := 12) sc_law.nd rfl (Or.inl rfl)) (fun _ _ _ _ _ => pts_nil) (fun _ _ _ _ _ => (pe_call (okW (sp := fun wl => sp__law_word K wl) fun wl => ok__law_word T) (hr.mono (by decide)) (by rfl) T.d__law_word.g T.d__law_word.F.kp T.d__law_word.b .nil pass0 (pa_cons (pv 1) pa_nil))))
  (pss_cons (ps_setLc (i := 5) (own := [("_law_k", 12)]) (g := gName 12) (tt := tYes) rfl sc_law.nd rfl rfl (sw_true rfl rfl rfl (by decide +kernel)) (pi_range1 (by rfl) T.n_range (pa_cons (pe_ix ix_seq (pv 3) pe_int (fun _ _ => rfl)) pa_nil)) (blkOk_by (own := [("_law_k", 12)]) (N := N_law) (sc := defScope s_law) (by decide +kernel)) (fun _ _ _ _ _ => pg_name (i := 12) sc_law.nd rfl (Or.inl rfl)) (fun _ _ _ _ _ => pts_nil) (fun _ _ _ _ _ => (pe_call (okW (sp := fun wl => sp__law_word K wl) fun wl => ok__law_word T) (hr.mono (by decide)) (by rfl) T.d__law_word.g T.d__law_word.F.kp T.d__law_word.b .nil pass0 (pa_cons (pv 1) pa_nil))))
  (pss_cons (ps_if (pt_cmpR op_eq (pe_call (okW (sp := fun wl => sp__law_take K (some wl)) fun wl => ok__law_take T) (hr.mono (by decide)) (by rfl) T.d__law_take.g T.d__law_take.F.kp T.d__law_take.b .nil pass0 (pa_cons (pv 1) (pa_cons pe_int pa_nil))) pe_int (nomark _)) (pss_cons (ps_set (i := 4) sc_law.nd rfl (Or.inl rfl) (pe_callTy call_tupQ (by rfl) T.n_tuple (by decide +kernel) (pa_cons (pv 4) pa_nil)))
  (pss_one (ps_set (i := 5) sc_law.nd rfl (Or.inl rfl) (pe_callTy call_tupQ (by rfl) T.n_tuple (by decide +kernel) (pa_cons (pv 5) pa_nil))))) pss_nil)
  (pss_cons (ps_set (i := 6) sc_law.nd rfl (Or.inl rfl) (pe_call (ok__law_table T) (hr.mono (by decide)) (by rfl) T.d__law_table.g T.d__law_table.F.kp T.d__law_table.b .nil pass0 (pa_cons (pv 4) (pa_cons (pv 5) (pa_cons (pv 2) pa_nil)))))
  (pss_cons (ps_set (i := 7) sc_law.nd rfl (Or.inl rfl) (pe_callB (call_reprQ hg hr.units) (by rfl) T.n_repr (by decide +kernel) (pa_cons (pe_tup (pa_cons (pv 4) (pa_cons (pv 5) pa_nil))) pa_nil)))
  (pss_cons (ps_set (i := 8) sc_law.nd rfl (Or.inl rfl) (pe_call (ok__law_first T) (hr.mono (by decide)) (by rfl) T.d__law_first.g T.d__law_first.F.kp T.d__law_first.b .nil pass0 (pa_cons (pv 4) (pa_cons (pv 5) (pa_cons (pv 2) (pa_cons (pv 6) pa_nil))))))
  (pss_cons (ps_if (pt_not (pt_val (pe_call (ok_same0 T) (hr.mono (by decide)) (by rfl) T.d__law_same.g T.d__law_same.F.kp T.d__law_same.b .nil pass0 (pa_cons (pe_call (ok_row_distance T X3.e) (hr.mono (by decide)) (by rfl) T.d_row_distance.g T.d_row_distance.F.kp T.d_row_distance.b .nil pass0 (pa_cons (pv 4) (pa_cons (pv 5) (pa_cons (pv 2) pa_nil)))) (pa_cons (pe_ix ix_seq (pe_ix ix_seq (pe_ix ix_seq (pv 6) pe_int (fun _ _ => rfl)) pe_int (fun _ _ => rfl)) pe_int (fun _ _ => rfl)) pa_nil))))) (pss_one (ps_ret pe_bl)) pss_nil)
  (pss_cons (ps_if (pt_not (pt_val (pe_call (ok_same2 T) (hr.mono (by decide)) (by rfl) T.d__law_same.g T.d__law_same.F.kp T.d__law_same.b .nil pass0 (pa_cons (pe_call (ok_first_row_matching T X3.e) (hr.mono (by decide)) (by rfl) T.d_first_row_matching.g T.d_first_row_matching.F.kp T.d_first_row_matching.b .nil pass0 (pa_cons (pv 4) (pa_cons (pv 5) (pa_cons (pv 2) pa_nil)))) (pa_cons (pv 8) pa_nil))))) (pss_one (ps_ret pe_bl)) pss_nil)
  (pss_cons (ps_if (pt_not (pt_val (pe_call (ok_same0 T) (hr.mono (by decide)) (by rfl) T.d__law_same.g T.d__law_same.F.kp T.d__law_same.b .nil pass0 (pa_cons (pe_call (ok_count_row_matchings T X3.e) (hr.mono (by decide)) (by rfl) T.d_count_row_matchings.g T.d_count_row_matchings.F.kp T.d_count_row_matchings.b .nil pass0 (pa_cons (pv 4) (pa_cons (pv 5) (pa_cons (pv 2) pa_nil)))) (pa_cons (pe_ix ix_seq (pe_ix ix_seq (pe_ix ix_seq (pv 6) pe_int (fun _ _ => rfl)) pe_int (fun _ _ => rfl)) pe_int (fun _ _ => rfl)) pa_nil))))) (pss_one (ps_ret pe_bl)) pss_nil)
  (pss_cons (ps_set (i := 9) sc_law.nd rfl (Or.inl rfl) (pe_call (okW (sp := fun wl => sp__law_drawn K wl) fun wl => ok__law_drawn T) (hr.mono (by decide)) (by rfl) T.d__law_drawn.g T.d__law_drawn.F.kp T.d__law_drawn.b .nil pass0 (pa_cons (pv 1) (pa_cons (pv 4) (pa_cons (pv 5) pa_nil)))))
  (pss_cons (ps_for PassesOwn.never rfl (pi_list (pe_lst (pa_cons (pv 8) (pa_cons (pv 9) (pa_cons (pe_call (okW (sp := fun wl => sp__law_spoilt K wl) fun wl => ok__law_spoilt T) (hr.mono (by decide)) (by rfl) T.d__law_spoilt.g T.d__law_spoilt.F.kp T.d__law_spoilt.b .nil pass0 (pa_cons (pv 1) (pa_cons (pv 9) pa_nil))) (pa_cons (pe_call (okW (sp := fun wl => sp__law_spoilt K wl) fun wl => ok__law_spoilt T) (hr.mono (by decide)) (by rfl) T.d__law_spoilt.g T.d__law_spoilt.F.kp T.d__law_spoilt.b .nil pass0 (pa_cons (pv 1) (pa_cons (pv 8) pa_nil))) pa_nil)))))) (pg_name (i := 10) sc_law.nd rfl (Or.inl rfl))
    (pss_one (ps_if (pt_not (pt_val (pe_callG (ok__law_told_right T X3) (hr.mono (by decide)) hg (by rfl) T.d__law_told_right.g T.d__law_told_right.F.kp T.d__law_told_right.b (pa_cons (pv 4) (pa_cons (pv 5) (pa_cons (pv 2) (pa_cons (pv 10) pa_nil))))))) (pss_one (ps_ret pe_bl)) pss_nil)))
  (pss_cons (ps_set (i := 11) sc_law.nd rfl (Or.inl rfl) (pe_call (okW (sp := fun wl => sp__law_odd_prices K wl) fun wl => ok__law_odd_prices T) (hr.mono (by decide)) (by rfl) T.d__law_odd_prices.g T.d__law_odd_prices.F.kp T.d__law_odd_prices.b .nil pass0 (pa_cons (pv 1) (pa_cons (pv 2) pa_nil))))
  (pss_one (ps_ret (pe_and (pe_cmpR (op_eqD hr.units) (pe_callG (ok__law_told T X3) (hr.mono (by decide)) hg (by rfl) T.d__law_told.g T.d__law_told.F.kp T.d__law_told.b (pa_cons (pv 4) (pa_cons (pv 5) (pa_cons (pv 11) (pa_cons (pe_call (okW (sp := fun wl => sp__law_spoilt K wl) fun wl => ok__law_spoilt T) (hr.mono (by decide)) (by rfl) T.d__law_spoilt.g T.d__law_spoilt.F.kp T.d__law_spoilt.b .nil pass0 (pa_cons (pv 1) (pa_cons (pv 9) pa_nil))) pa_nil))))) (pe_tup (pa_cons pe_str (pa_cons pe_bl pa_nil))) (nomark _)) (pe_one (pe_cmpR op_eq (pe_callB (call_reprQ hg hr.units) (by rfl) T.n_repr (by decide +kernel) (pa_cons (pe_tup (pa_cons (pv 4) (pa_cons (pv 5) pa_nil))) pa_nil)) (pv 7) (nomark _))))))))))))))))))))))

end
end Gb

set_option maxHeartbeats 2000000
/-! law: what it hands back -/
namespace Gb
open PySem L2
local macro_rules | `(tactic| walk_at "wk") => `(tactic| (repeat' (first | exact trivial | exact Or.inl rfl | exact Or.inr rfl | apply And.intro)))
/-! ### the first matching is small -/
theorem firstF_small {p : Pr} {a b : List Str} : ∀ (f i j : Nat), (firstF (chg p) p.dr p.ad a b f i j).length ≤ a.length - i ∧ ∀ q ∈ firstF (chg p) p.dr p.ad a b f i j, q.1 < a.length ∧ q.2 < b.length
  | 0, _, _ => ⟨Nat.zero_le _, fun _ h => nomatch h⟩
  | f + 1, i, j => by
    rw [firstF]
    by_cases he : ends (chg p) p.dr p.ad (a.drop i) (b.drop j)
    · rw [if_pos he]
      exact ⟨Nat.zero_le _, fun _ h => nomatch h⟩
    · rw [if_neg he]
      obtain ⟨q, l, e, h1, h2, h3, h4⟩ := next_found (chg p) p.dr p.ad a b i j he
      rw [e]
      obtain ⟨k1, k2⟩ := firstF_small (p := p) (a := a) (b := b) f (q.1 + 1) (q.2 + 1)
      refine ⟨?_, fun r hr => ?_⟩
      · show (q :: firstF (chg p) p.dr p.ad a b f (q.1 + 1) (q.2 + 1)).length ≤ _
        rw [List.length_cons]; omega
      · have hr' : r ∈ q :: firstF (chg p) p.dr p.ad a b f (q.1 + 1) (q.2 + 1) := hr
        rcases List.mem_cons.mp hr' with rfl | hr'
        · exact ⟨h2, h4⟩
        · exact k2 r hr'
theorem first_small {p : Pr} {a b : List Str} (ha : a.length ≤ 12) (hb : b.length ≤ 12) : smallM (first (chg p) p.dr p.ad a b) := by
  obtain ⟨h1, h2⟩ := firstF_small (p := p) (a := a) (b := b) (a.length + 1) 0 0
  exact ⟨Nat.le_trans h1 (by omega), fun q hq => by obtain ⟨k1, k2⟩ := h2 q hq; omega⟩
/-! ### sizes -/
theorem fi_row {t : Bool} {a : List Str} (hw : ∀ z ∈ a, wordOk z = true) (hl : a.length ≤ 12) : Fi 1 1011 (rowD t a) := by
  have h : ∀ d ∈ a.map PyData.str, Fi 0 82 d := fun d hd => by
    obtain ⟨z, hz, rfl⟩ := List.mem_map.mp hd
    exact fi_word (hw z hz)
  cases t with
  | true => exact (fi_tup (m := 12) h (by rw [List.length_map]; exact hl)).mono
  | false => exact (fi_lst (m := 12) h (by rw [List.length_map]; exact hl)).mono
theorem fi_prD {p : Pr} (ok : PrOk p) (hg : ∀ t ∈ p.tab, triGood t) : Fi 3 2000 (prD p) := by
  have h1 := ok.dr
  have h2 := ok.ad
  have h3 := ok.ch
  exact (FiA.tup (FiA.cons0 (fi_nat (by omega)) (FiA.cons0 (fi_nat (by omega)) (FiA.cons0 (fi_nat (by omega)) (FiA.cons (FiA.tup (fi_tab ok hg)) FiA.nil))))).mono
theorem fi_mat {l : List (Nat × Nat)} (h : smallM l) : Fi 5 1800 (.tuple (l.map pairD)) := (fi_tup (m := 12) (fi_match h) (by rw [List.length_map]; exact h.1)).mono
theorem strs_of {wl : List Str} : ∀ {ds : List PyData}, (∀ d ∈ ds, R__law_word wl [] d) → ∃ a : List Str, ds = a.map PyData.str ∧ a.length = ds.length ∧ ∀ z ∈ a, z ∈ wl
  | [], _ => ⟨[], rfl, rfl, fun _ h => nomatch h⟩
  | d :: ds, h => by
    obtain ⟨z, rfl, hz⟩ := h d List.mem_cons_self
    obtain ⟨a, rfl, hl, ha⟩ := strs_of fun d hd => h d (List.mem_cons_of_mem _ hd)
    exact ⟨z :: a, rfl, by rw [List.length_cons, List.length_cons, hl], fun y hy => by
      rcases List.mem_cons.mp hy with rfl | hy
      · exact hz
      · exact ha y hy⟩
section
variable {K : PySem.W.Frag} {p : Addr} {ws : Option (List Str)} {wl : List Str} {σ : L2.St} {F H H0 F0 : Hp} {ρ : List Sv} {ta tb te : TE} {R Ra Rb R' : PyData → Prop} {d : PyData} {i : Nat} {D : Ends}
theorem ep_callW {Pre : List Str → List PyData → Prop} {RD : List Str → List PyData → PyData → Prop} {t : TA} {RA : List PyData → Prop} {X : XK} (E : Env K F σ ρ) (hi : ρ[i]? = some (.v (.ref p))) (h : Epa K p (some wl) t σ F H RA) (hpre : ∀ ds, RA ds → Pre wl ds) (hr : ∀ ds d, RA ds → RD wl ds d → R d) :
    Ep K p (some wl) (tCall (spW fun wl => spP K (some wl) (Pre wl) (RD wl)) [] X (tCons (tVar i) t)) σ F H R := fun F1 H1 g po Q q =>
  ⟨.ref p, (E.ext g.f).val hi, h F1 H1 g po _ fun vs ds H2 F2 g2 po2 ra p2 => ⟨wl, F2, p, vs, ds, by rw [List.append_nil], g2.e, po2, p2, hpre ds ra, fun v d H3 F3 g3 po3 r3 p3 => q v d H3 F3 (g2.tr g3) po3 (hr ds d ra r3) p3⟩⟩
theorem ep_takeW {m : Int} {X : XK} (E : Env K F σ ρ) (hi : ρ[i]? = some (.v (.ref p))) (h : Ep K p (some wl) te σ F H (fun x => x = .int m)) (m0 : 0 < m) (m1 : m ≤ 1000) :
    Ep K p (some wl) (tCall (spW fun wl => sp__law_take K (some wl)) [] X (tCons (tVar i) (tCons te tNil))) σ F H (fun d => ∃ r : Int, d = .int r ∧ 0 ≤ r ∧ r < m) :=
  ep_callW (Pre := fun _ => Pre_take) (RD := fun _ => R_take) E hi (epa_cons h epa_nil) (fun ds ⟨d, ds', e, e1, e2⟩ => ⟨m, by rw [e, e1, e2], m0, m1⟩) (fun ds d ⟨d', ds', e, e1, e2⟩ ⟨m', r, e3, e4, h0, h1⟩ => by
    rw [e, e1, e2] at e3
    injection e3 with e3
    injection e3 with e3
    subst e3
    exact ⟨r, e4, h0, h1⟩)
theorem ep_andV (ha : Ep K p ws ta σ F H (fun d => d = .bool true)) (hb : Ep K p ws tb σ F H (fun d => d = .bool true)) : Ep K p ws (tAndV ta tb) σ F H (fun d => d = .bool true) := fun F1 H1 g po Q q =>
  ha F1 H1 g po _ fun v d H2 F2 g2 po2 r2 p2 => by
    subst r2
    cases p2
    exact ⟨true, rfl, hb F2 H2 (g.tr g2) po2 Q fun w d3 H3 F3 g3 po3 r3 p3 => q w d3 H3 F3 (g2.tr g3) po3 r3 p3⟩
theorem p_setD (S : Cp K p ws H0 F0 F H) (E : Env K F σ ρ) (h : Ed K te σ F H d) (k : ∀ v H2 F2, Cp K p ws H0 F0 F2 H2 → Gr no H F H2 F2 → Env K F2 (σ.set i (some v)) (ρ.set i (.d d)) → D.nx (σ.set i (some v)) H2) : tAsg te (gName i) D σ H :=
  st_setE S.g E h fun v H2 F2 _ g2 _ E2 => k v H2 F2 (S.step g2) g2 E2
theorem p_ifN {tc : TT} {t1 t2 : TS} (S : Cp K p ws H0 F0 F H) (h : Edt tc σ F H false) (k : ∀ H2 F2, Cp K p ws H0 F0 F2 H2 → Gr no H F H2 F2 → t2 D σ H2) : tIfS tc t1 t2 D σ H :=
  h F H (Gr.refl S.g.e) _ fun H2 F2 g2 => k H2 F2 (S.step g2) g2
/-- pool["words"] = e -/
theorem p_putW (S : Cp K p none H0 F0 F H) (E : Env K F σ ρ) (hi : ρ[i]? = some (.v (.ref p))) (h : Ep K p none te σ F H R) (hr : ∀ d, R d → ∃ wl, d = .list (wl.map PyData.str) ∧ goodW wl)
    (k : ∀ wl H2 F2, goodW wl → Cp K p (some wl) H0 F0 F2 H2 → Ext F F2 → D.nx σ H2) : sDPut (tVar i) (tC (.str "words")) te D σ H :=
  h F H (Gr.refl S.g.e) S.po _ fun v d H2 F2 g2 po2 r p2 => by
    obtain ⟨wl, rfl, hw⟩ := hr d r
    obtain ⟨c, a, r', l, m, s, t, wd, hp, hc, ha, hwd⟩ := id po2.h
    have hwd' : wd = none := hwd
    subst hwd'
    refine ⟨.ref p, (E.ext g2.f).val hi, p, _, rfl, DPut.k (k := .inr "words") hp (small1000 (Nat.le_trans (poolK_len _ _ _ _ _ _ _ _) (by decide))), ?_⟩
    exact k wl _ F2 hw ⟨(S.g.tr g2).mutP po2.f (by rw [hp]; simp), ⟨po2.f, c, a, r', l, m, s, t, some v, by rw [upd_same, pp_words], hc, ha, v, rfl, p2⟩⟩ g2.f
/-- x = _law_pool(script) -/
theorem st_pool {ns : List Int} {t : TA} (x : Ext F H) (h : Eda K t σ F H [.list (ns.map PyData.int)]) (k : ∀ p H2 F2, Gr no H F H2 F2 → PoolAt K p none F2 H2 → D.nx (σ.set i (some (.ref p))) H2) :
    tAsg (tCall (spPool K) [] E0 t) (gName i) D σ H :=
  h F H (Gr.refl x) _ fun vs H2 F2 g2 p2 => ⟨F2, ns, g2.e, by rw [List.append_nil]; exact p2, fun p H3 F3 g3 _ po => k p H3 F3 (g2.tr g3) po⟩
/-- over the items of a list, drawn -/
theorem p_forL {te : TE} {g : TG} {tb : TS} {RD : List PyData → Prop} (S : Cp K p ws H0 F0 F H) (h : Ep K p ws te σ F H R) (hr : ∀ d, R d → ∃ ds, d = .list ds ∧ RD ds)
    (k : ∀ ds H1 F1, RD ds → Cp K p ws H0 F0 F1 H1 → Gr (pm p) H F H1 F1 → ∃ Pv : Nat → L2.St → Hp → Prop, Pv 0 σ H1 ∧ (∀ i σ' H', Pv i σ' H' → Ext F1 H') ∧
      (∀ (i : Nat) d x σ' H', ds[i]? = some d → Dp K F1 x d → Pv i σ' H' → g x σ' H' fun σ2 H2 => tb { D with nx := Pv (i + 1), ct := Pv (i + 1), bk := D.nx } σ2 H2) ∧ ∀ σ' H', Pv ds.length σ' H' → D.nx σ' H') :
    tFor (iList K te) g tb D σ H := h F H (Gr.refl S.g.e) S.po _ fun v d H1 F1 g1 po1 r p1 => by
  obtain ⟨ds, rfl, rd⟩ := hr d r
  cases p1 with
  | @lst a xs _ hs ha =>
    obtain ⟨Pv, h0, hx, ht, hd⟩ := k ds H1 F1 rd ⟨S.g.tr g1, po1⟩ g1
    refine ⟨a, rfl, ⟨xs, sql_ext g1.e hs⟩, for_list (K := K) (a := a) (xs := xs) Pv h0 (fun i σ' H' _ hp => sql_ext (hx i σ' H' hp) hs) (fun i x σ' H' e hp => ?_) (fun σ' H' hp => hd σ' H' (by rw [← DpAll.len ha]; exact hp))⟩
    obtain ⟨d, e1, e2⟩ := DpAll.getV ha e
    exact ht i d x σ' H' e1 e2 hp
end
def sp_law (K : PySem.W.Frag) : Sp := fun vs H Q _ => ∃ (a : Addr) (ns : List Int), vs = [.ref a] ∧ SqL K H a (ns.map V.int) ∧ ∀ H', Q (.bl true) H'
section
variable {K : PySem.W.Frag}
theorem rd_law (vs : List V) (H : Hp) (Q : VK) (E0' : XK) (h : sp_law K vs H Q E0') : t_law K { nx := fun _ H' => Q .non H', rt := Q } (L2.start N_law vs) H := by
  obtain ⟨a0, ns, rfl, hS, q⟩ := h
  have x : Ext H H := Ext.rfl'
  have E := env_start (N := N_law) (K := K) (F := H) (vs := [.ref a0]) (ds := [.list (ns.map PyData.int)]) (.cons (.lst hS (dpa_ints ns)) .nil)
  refine st_seq (st_pool x (eda_cons (ed_var E rfl) eda_nil) fun p H1 F1 g1 po1 => ?_)
  have E1 : Env K F1 _ [.un, .v (.ref p), .un, .un, .un, .un, .un, .un, .un, .un, .un, .un, .un] := (Env.set (o := some (V.ref p)) 1 (s := .v (.ref p)) (E.ext g1.f) rfl).weak (by walk_at "wk")
  have S1 : Cp K p none H1 F1 F1 H1 := ⟨Gr.refl g1.e, po1⟩
  have hp : H1 p ≠ none := po1.at
  dsimp only
  refine st_seq (p_putW S1 E1 rfl (R := R__law_words []) (ep_callP E1 rfl epa_nil (fun ds h => h) (fun ds d e h => by rw [e] at h; exact h)) (fun d h => h) fun wl H2 F2 hw S2 e2 => ?_)
  have E2 := E1.ext e2
  dsimp only
  refine st_seq (p_set S2 E2 (R := R__law_prices []) (ep_callW E2 rfl epa_nil (fun ds h => ⟨h, hw⟩) (fun ds d e h => by rw [e] at h; exact h)) fun v3 d3 H3 F3 S3 g3 r3 _ E3 => ?_)
  obtain ⟨pr, ok, rfl, hg⟩ := r3
  dsimp only
  have hI : ∀ {σ : L2.St} {F : Hp} {ρ : List Sv} (i : Nat), Env K F σ ρ → Env K F ((wipe σ [12]).set 12 (some (.int (i : Int)))) ((wipeS ρ [12]).set 12 (.d (.int (i : Int)))) := fun i E => Env.set 12 (s := .d (.int (i : Int))) (env_wipe E [12]) ⟨_, rfl, .int _⟩
  refine st_seq (p_set S3 E3 (R := fun d => ∃ n m : Nat, d = .list [.int (n : Int), .int (m : Int)] ∧ n ≤ 12 ∧ m ≤ 12) (ep_lcR (RN := fun n => n = 2) (RI := fun d => ∃ n : Nat, d = .int (n : Int) ∧ n ≤ 12) ep_cI (fun d h => ⟨2, h, by omega, rfl⟩) (fun i F4 H4 g4 => ?_) (fun n ds hn hl hri => ?_)) fun v4 d4 H4 F4 S4 g4 r4 _ E4 => ?_)
  · have E5 := hI i (E3.ext g4.f)
    refine ep_op (Ra := fun d => ∃ r1 r2 : Int, d = .list [.int r1, .int r2, .int 12] ∧ (0 ≤ r1 ∧ r1 < 4) ∧ 0 ≤ r2 ∧ r2 < 13) (ep_lst (epa_cons (ep_takeW E5 rfl ep_cI (by decide) (by decide)) (epa_cons (ep_takeW E5 rfl ep_cI (by decide) (by decide)) (epa_cons ep_cI epa_nil))) fun ds h => ?_) (ep_takeW E5 rfl ep_cI (by decide) (by decide)) fun d1 d2 k1 k2 => ?_
    · obtain ⟨_, _, rfl, ⟨r1, rfl, h1⟩, _, _, rfl, ⟨r2, rfl, h2⟩, _, _, rfl, rfl, rfl⟩ := h
      exact ⟨show 3 ≤ 1000 by omega, r1, r2, rfl, h1, h2⟩
    · obtain ⟨r1, r2, rfl, h1, h2⟩ := k1
      obtain ⟨r, rfl, h3, h4⟩ := k2
      rcases (show r = 0 ∨ r = 1 ∨ r = 2 by omega) with rfl | rfl | rfl
      · exact ⟨_, od_ixL (j := 0) rfl rfl, r1.toNat, by rw [Int.toNat_of_nonneg h1.1], by omega⟩
      · exact ⟨_, od_ixL (j := 1) rfl rfl, r2.toNat, by rw [Int.toNat_of_nonneg h2.1], by omega⟩
      · exact ⟨_, od_ixL (j := 2) rfl rfl, 12, rfl, by omega⟩
  · obtain rfl : n = 2 := by omega
    match ds, hl with
    | [y, z], _ =>
      obtain ⟨n, rfl, hn⟩ := hri y List.mem_cons_self
      obtain ⟨m, rfl, hm⟩ := hri z (List.mem_cons_of_mem _ List.mem_cons_self)
      exact ⟨n, m, rfl, hn, hm⟩
  obtain ⟨n, m, rfl, hn, hm⟩ := r4
  dsimp only
  have row : ∀ {σ : L2.St} {F H : Hp} {ρ : List Sv} {j k : Nat} {z : Int}, Env K F σ ρ → ρ[1]? = some (.v (.ref p)) → (wipeS ρ [12])[1]? = some (.v (.ref p)) → ρ[3]? = some (.d (.list [.int (n : Int), .int (m : Int)])) → z = (j : Int) → ([PyData.int (n : Int), PyData.int (m : Int)])[j]? = some (.int (k : Int)) → k ≤ 12 →
      Ep K p (some wl) (tLc (iRng1 (tCons (tOp (rIx K) (tVar 3) (tC (.int z))) tNil)) (gName 12) tYes (tCall (spW fun wl => sp__law_word K wl) [] E0 (tCons (tVar 1) tNil)) [12]) σ F H (fun d => ∃ a : List Str, d = .list (a.map PyData.str) ∧ a.length ≤ 12 ∧ ∀ z ∈ a, wordOk z = true) := by
    intro σ F H ρ j k z E h1 h1' h3 hz hk hk12
    refine ep_lcR (RN := fun r => r = (k : Int)) (RI := R__law_word wl []) (ep_op (R := fun d => d = .int (k : Int)) (ep_var E h3) ep_cI (fun d1 d2 e1 e2 => by subst e1; subst e2; exact ⟨_, od_ixL hz hk, rfl⟩)) (fun d h => ⟨k, h, by omega, rfl⟩) (fun i F4 H4 g4 => ?_) (fun r ds hr hl hri => ?_)
    · have E5 := hI i (E.ext g4.f)
      exact ep_callW E5 (by rw [List.getElem?_set_ne (by decide)]; exact h1') epa_nil (fun ds h => ⟨h, hw⟩) (fun ds d e h => by rw [e] at h; exact h)
    · obtain ⟨a, rfl, hla, hwa⟩ := strs_of hri
      exact ⟨a, rfl, by omega, fun z hz => hw.2.2 z (hwa z hz)⟩
  refine st_seq (p_set S4 E4 (row E4 rfl rfl rfl (j := 0) rfl rfl hn) fun v5 d5 H5 F5 S5 g5 r5 _ E5 => ?_)
  obtain ⟨a, rfl, ha, hwa⟩ := r5
  dsimp only
  refine st_seq (p_set S5 E5 (row E5 rfl rfl rfl (j := 1) rfl rfl hm) fun v6 d6 H6 F6 S6 g6 r6 _ E6 => ?_)
  obtain ⟨b, rfl, hb, hwb⟩ := r6
  dsimp only
  refine st_ifS (fun σ' H' => ∃ F' t, Cp K p (some wl) H1 F1 F' H' ∧ Env K F' σ' [.un, .v (.ref p), .d (prD pr), .un, .d (rowD t a), .d (rowD t b), .un, .un, .un, .un, .un, .un, .un]) (fun σ' H' ⟨F', t, S', E'⟩ => ?_) (fun rest => ?_)
  · have hfi := (FiA.tup (FiA.cons (fi_row (t := t) hwa ha) (FiA.cons (fi_row (t := t) hwb hb) FiA.nil))).shw
    have rows : ∀ {d : PyData} {R : List Str → List Str → Pr → PyData → Prop}, R a b pr d → rowsR R [rowD t a, rowD t b, prD pr] d := fun h => ⟨t, t, a, b, pr, ok, ha, hb, rfl, h⟩
    have hfirst := first_small (p := pr) ha hb
    have hprD := (fi_prD ok hg).shw
    have abp : ∀ {σ : L2.St} {F H : Hp} {ρ : List Sv}, Env K F σ ρ → ρ[4]? = some (.d (rowD t a)) → ρ[5]? = some (.d (rowD t b)) → ρ[2]? = some (.d (prD pr)) → Eda K (tCons (tVar 4) (tCons (tVar 5) (tCons (tVar 2) tNil))) σ F H [rowD t a, rowD t b, prD pr] := fun E h4 h5 h2 => eda_cons (ed_var E h4) (eda_cons (ed_var E h5) (eda_cons (ed_var E h2) eda_nil))
    have shown : ∀ {σ : L2.St} {F H : Hp} {ρ : List Sv}, Env K F σ ρ → ρ[4]? = some (.d (rowD t a)) → ρ[5]? = some (.d (rowD t b)) → Ed K (tCB (rReprQ K) (tCons (tTup (tCons (tVar 4) (tCons (tVar 5) tNil))) tNil)) σ F H (.str (PyData.tuple [rowD t a, rowD t b]).shown) := fun E h4 h5 => ed_cb (eda_cons (ed_tup (eda_cons (ed_var E h4) (eda_cons (ed_var E h5) eda_nil)) (show 2 ≤ 1000 by omega)) eda_nil) (cd_repr hfi)
    refine st_seq (p_setD S' E' (ed_call (R := R__law_table) (abp E' rfl rfl rfl) (rows rfl)) fun v7 H7 F7 S7 g7 E7 => ?_)
    dsimp only
    refine st_seq (p_setD S7 E7 (shown E7 rfl rfl) fun v8 H8 F8 S8 g8 E8 => ?_)
    dsimp only
    refine st_seq (p_setD S8 E8 (ed_call (R := R__law_first) (eda_cons (ed_var E8 rfl) (eda_cons (ed_var E8 rfl) (eda_cons (ed_var E8 rfl) (eda_cons (ed_var E8 rfl) eda_nil)))) ⟨t, t, a, b, pr, ok, ha, hb, rfl, rfl⟩) fun v9 H9 F9 S9 g9 E9 => ?_)
    dsimp only
    have tab : ∀ {σ : L2.St} {F H : Hp} {ρ : List Sv}, Env K F σ ρ → ρ[6]? = some (.d (tabD (a.length + 1) (b.length + 1) (fL pr a b))) → Ed K (tOp (rIx K) (tOp (rIx K) (tVar 6) (tC (.int 0))) (tC (.int 0))) σ F H (.tuple [.int (dB pr a b 0 0), .int (nm pr a b 0 0)]) := fun E h => ed_tab (i := 0) (j := 0) (ed_var E h) (ed_cI (K := K)) (ed_cI (K := K)) rfl rfl (Nat.succ_pos _) (Nat.succ_pos _)
    refine st_seq (p_ifN S9 (edt_not (edt_B (b := true) (ed_call (R := R_same0) (eda_cons (ed_call (R := R_row_distance) (abp E9 rfl rfl rfl) (rows rfl)) (eda_cons (ed_op (tab E9 rfl) (ed_cI (K := K)) (od_ixT (j := 0) rfl rfl)) eda_nil)) ⟨_, rfl, rfl⟩))) fun H10 F10 S10 g10 => ?_)
    have E10 := E9.ext g10.f
    dsimp only
    refine st_seq (p_ifN S10 (edt_not (edt_B (b := true) (ed_call (R := R_same2) (eda_cons (ed_call (R := R_first_row_matching) (abp E10 rfl rfl rfl) (rows rfl)) (eda_cons (ed_var E10 rfl) eda_nil)) (same2_pairs (by have := hfirst.1; omega))))) fun H11 F11 S11 g11 => ?_)
    have E11 := E10.ext g11.f
    dsimp only
    refine st_seq (p_ifN S11 (edt_not (edt_B (b := true) (ed_call (R := R_same0) (eda_cons (ed_call (R := R_count_row_matchings) (abp E11 rfl rfl rfl) (rows rfl)) (eda_cons (ed_op (tab E11 rfl) (ed_cI (K := K)) (od_ixT (j := 1) rfl rfl)) eda_nil)) ⟨_, rfl, rfl⟩))) fun H12 F12 S12 g12 => ?_)
    have E12 := E11.ext g12.f
    dsimp only
    refine st_seq (p_set S12 E12 (R := R__law_drawn []) (ep_callW E12 rfl (epa_cons (ep_var E12 rfl) (epa_cons (ep_var E12 rfl) epa_nil)) (fun ds h => ?_) (fun ds d _ h => h)) fun v13 d13 H13 F13 S13 g13 r13 _ E13 => ?_)
    · obtain ⟨_, _, rfl, rfl, _, _, rfl, rfl, rfl⟩ := h
      exact ⟨t, t, a, b, rfl, ha, hb⟩
    obtain ⟨l, rfl, hl⟩ := r13
    dsimp only
    have spoil : ∀ {σ : L2.St} {F H : Hp} {ρ : List Sv} {i : Nat} {l : List (Nat × Nat)}, Env K F σ ρ → ρ[1]? = some (.v (.ref p)) → ρ[i]? = some (.d (.tuple (l.map pairD))) → smallM l → Ep K p (some wl) (tCall (spW fun wl => sp__law_spoilt K wl) [] E0 (tCons (tVar 1) (tCons (tVar i) tNil))) σ F H (fun d => Fi 5 1800 d) := fun E h1 hi hl =>
      ep_callW E h1 (epa_cons (ep_var E hi) epa_nil) (fun ds ⟨d, ds', e, e1, e2⟩ => ⟨_, by rw [e, e1, e2], hl⟩) (fun ds d _ h => h)
    refine st_seq (p_forL S13 (RD := fun ds => ∀ d ∈ ds, Fi 5 1800 d) (R := fun d => ∃ ds, d = .list ds ∧ ∀ d ∈ ds, Fi 5 1800 d) (ep_lst (epa_cons (ep_var E13 rfl) (epa_cons (ep_var E13 rfl) (epa_cons (spoil E13 rfl rfl hl) (epa_cons (spoil E13 rfl rfl hfirst) epa_nil)))) (fun ds h => ?_)) (fun d h => h) fun ds H14 F14 hds S14 g14 => ⟨fun i σ' H' => ∃ F', Cp K p (some wl) H1 F1 F' H' ∧ Ext F14 F' ∧
        Env K F' σ' [.un, .v (.ref p), .d (prD pr), .un, .d (rowD t a), .d (rowD t b), .un, .d (.str (PyData.tuple [rowD t a, rowD t b]).shown), .un, .d (.tuple (l.map pairD)), .un, .un, .un], ?_, ?_, ?_, ?_⟩)
    · obtain ⟨_, _, rfl, rfl, _, _, rfl, rfl, _, _, rfl, h3, _, _, rfl, h4, rfl⟩ := h
      refine ⟨show 4 ≤ 1000 by omega, _, rfl, fun d hd => ?_⟩
      rcases List.mem_cons.mp hd with rfl | hd
      · exact fi_mat hfirst
      rcases List.mem_cons.mp hd with rfl | hd
      · exact fi_mat hl
      rcases List.mem_cons.mp hd with rfl | hd
      · exact h3
      · rw [List.mem_singleton.mp hd]; exact h4
    · exact ⟨F14, S14, Ext.rfl', (E13.ext g14.f).weak (by walk_at "wk")⟩
    · rintro i σ' H' ⟨F', S', e', _⟩
      exact e'.tr S'.g.e
    · rintro i d v σ' H' e pv ⟨F', S', e', E'⟩
      have hd := hds d (List.mem_of_getElem? e)
      have E15 := Env.set (o := some v) 10 (s := .d d) E' ⟨v, rfl, Dp.ext pv e'⟩
      refine p_ifN S' (edt_not (edt_B (b := true) (ed_call (R := R__law_told_right) (eda_cons (ed_var E15 rfl) (eda_cons (ed_var E15 rfl) (eda_cons (ed_var E15 rfl) (eda_cons (ed_var E15 rfl) eda_nil)))) ⟨t, t, a, b, pr, d, rfl, ok, hd.sm, hprD, hd.shw, rfl⟩))) fun H16 F16 S16 g16 => ?_
      exact ⟨F16, S16, e'.tr g16.f, (E15.ext g16.f).weak (by walk_at "wk")⟩
    · rintro σ' H' ⟨F', S', e', E'⟩
      dsimp only
      refine st_seq (p_set S' E' (R := oddOk) (ep_callW E' rfl (epa_cons (ep_var E' rfl) epa_nil) (fun ds ⟨d, ds', e, e1, e2⟩ => ⟨pr, by rw [e, e1, e2], ok, hg, hw⟩) (fun ds d _ h => h)) fun v17 d17 H17 F17 S17 g17 r17 _ E17 => ?_)
      dsimp only
      refine p_ret S17 (R := fun d => d = .bool true) (ep_andV (ep_op (Ra := fun d => d = .tuple [.str "prices", .bool true]) (Rb := fun d => d = .tuple [.str "prices", .bool true]) (ep_call (RD := R__law_told) (epa_cons (ep_var E17 rfl) (epa_cons (ep_var E17 rfl) (epa_cons (ep_var E17 rfl) (epa_cons (spoil E17 rfl rfl hl) epa_nil)))) (fun ds h => ?_)) (ep_ed (fun F1 H1 e x => ed_tup (eda_cons (ed_cS (K := K)) (eda_cons (ed_cB (K := K)) eda_nil))) rfl) (fun d1 d2 e1 e2 => by
        subst e1; subst e2
        exact ⟨_, od_eqD (by decide +kernel) (by decide +kernel), congrArg PyData.bool (by decide +kernel)⟩)) (ep_ed (fun F1 H1 e x => ed_op (shown (E17.ext e) rfl rfl) (ed_var (E17.ext e) rfl) od_eqS) (by simp))) (fun v d H2 F2 _ _ r p2 => ?_)
      · obtain ⟨_, _, rfl, rfl, _, _, rfl, rfl, _, _, rfl, rfl, y, _, rfl, hy, rfl⟩ := h
        exact ⟨_, ⟨t, t, a, b, _, y, rfl, r17.1.sm, hy.sm, r17.1.shw, hy.shw, .inl ⟨r17.2, rfl⟩⟩, rfl⟩
      · subst r
        cases p2
        exact q H2
  · refine p_if (RB := fun _ => True) S6 (ept_test (R := fun d => ∃ b, d = .bool b) (ep_op (ep_takeW E6 rfl ep_cI (by decide) (by decide)) ep_cI fun d1 d2 r1 r2 => by
        obtain ⟨r, rfl, h0, h1⟩ := r1
        subst r2
        exact ⟨_, od_eqI, _, rfl⟩) (fun d h => by obtain ⟨b, rfl⟩ := h; exact ⟨b, rfl, trivial⟩)) (fun _ H7 F7 S7 g7 => ?_) (fun _ H7 F7 S7 g7 => ?_)
    · have E7 := E6.ext g7.f
      refine st_seq (p_setD S7 E7 (ed_cb (eda_cons (ed_var E7 rfl) eda_nil) (cd_tuple (tp := false))) fun v8 H8 F8 S8 g8 E8 => ?_)
      dsimp only
      refine p_setD S8 E8 (ed_cb (eda_cons (ed_var E8 rfl) eda_nil) (cd_tuple (tp := false))) fun v9 H9 F9 S9 g9 E9 => ?_
      exact rest _ _ ⟨F9, true, S9, E9.weak (by walk_at "wk")⟩
    · exact rest _ _ ⟨F7, false, S7, (E6.ext g7.f).weak (by walk_at "wk")⟩
end
end Gb

set_option maxHeartbeats 2000000
/-! What the top has written: the defs, the errors; then the law's def keeps its promise. -/
namespace Gb
open PySem PySem.W PySem.Calls PyProof.Rows PySem.HandSPX
/-- a def of the top -/
abbrev DefIs (K : Frag) (x : Str) (st : Stmt) : Prop := ∃ (f : Addr) (oc : Value) (od : Option Addr) (kV doc pm : Value) (an : Option Addr) (cdv ct : Value) (osl : Array (Option Value)),
  nsIn K mainGlobals x = some (some (.ref f)) ∧ K.lookup f = some ⟨oc, od, .func (fnOf x x (L2.defArgs st) (L2.defBody st) (L2.defScope st) .none kV doc pm an cdv ct), osl⟩ ∧ codeIn K cdv x = true ∧ keepIn K (.ref f) = true
/-- an own error below CG, with the text of its __init__ -/
abbrev ErrIs (P : Program) (K : Frag) (nm : Str) (CG C : Addr) : Prop := ∃ (fI cc cda : Addr) (n q : Str) (N : Addr) (bs : List Value) (sn : List Str) (sub : List Value) (ab : Bool) (col : Option Bool) (dd : Option Addr) (k0 k1 k2 k3 k5 : Option Value)
    (cl : Value) (cld : Option Addr) (csl : Array (Option Value)) (ccl : Value) (cdd : Option Addr) (vs : Array Value) (ccs : Array (Option Value)) (file : Str) (tf : Tok)
    (qual msg : Str) (k : Nat) (oc : Value) (od : Option Addr) (kV doc pm : Value) (an : Option Addr) (ct : Value) (osl : Array (Option Value)) (p1 p2 a1 a2 a3 a4 a5 a6 q1 q2 q3 q4 : Pos),
  nsIn K mainGlobals nm = some (some (.ref C)) ∧
  K.lookup C = some (excClassObj n q C N bs [.ref CG, .type "ValueError", .type "Exception", .type "BaseException", .type "object"] true sn sub ab col dd k0 k1 k2 k3 k5 "ValueError.__new__") ∧
  findIn K (.ref C) "__init__" = some (some (.ref fI)) ∧
  K.lookup fI = some ⟨oc, od, .func (ksFn "__init__" qual (iA p1 p2) (iB msg k a1 a2 a3 a4 a5 a6 q1 q2 q3 q4) iS .none kV doc pm an (.ref cda) ct cc), osl⟩ ∧
  K.lookup cc = some ⟨cl, cld, .cell (some (.ref C)), csl⟩ ∧
  K.lookup cda = some ⟨ccl, cdd, .fields vs, ccs⟩ ∧ vs[2]? = some (.str file tf) ∧ ((P.main.file : Str) == file) = true ∧
  codeIn K (.ref cda) qual = true ∧ callForm msg k a1 a2 a3 a4 a5 ∧ typeIn K (.ref fI) = some (.type "function") ∧
  findIn K (.ref C) "__setattr__" = some (some (.builtin "object.__setattr__")) ∧ findIn K (.ref C) "__getattribute__" = some (some (.builtin "BaseException.__getattribute__")) ∧ findIn K (.ref C) "__getattr__" = some none ∧ findIn K (.ref C) "value" = some none ∧
  keepIn K (.ref C) = true ∧ typeIn K (.ref C) = some (.type "type") ∧ hasDictIn K C = true ∧
  findIn K (.ref C) "__class__" = some (some (.builtin "object.__class__"))
/-- their base -/
abbrev BaseIs (K : Frag) (CG : Addr) : Prop := ∃ (n q : Str) (N : Addr) (bs : List Value) (sn : List Str) (sub : List Value) (ab : Bool) (col : Option Bool) (dd : Option Addr) (k0 k1 k2 k3 k5 : Option Value),
  nsIn K mainGlobals "GraftError" = some (some (.ref CG)) ∧
  K.lookup CG = some (excClassObj n q CG N bs [.type "ValueError", .type "Exception", .type "BaseException", .type "object"] true sn sub ab col dd k0 k1 k2 k3 k5 "ValueError.__new__") ∧
  findIn K (.ref CG) "__init__" = some (some (.builtin "ValueError.__init__")) ∧ typeIn K (.ref CG) = some (.type "type") ∧
  nsIn K mainGlobals "super" = some none ∧ nsIn K mainGlobals "ValueError" = some none ∧ nsIn K cStatics "thirdparty.any" = some none ∧
  specialIn K (.builtin "object.__class__") "__get__" = some (some (.builtin "getset_descriptor.__get__")) ∧ takesIn K (.builtin "object.__class__") = some true
theorem defIs_of {K : Frag} {x : Str} {st : Stmt} {f : Addr} {oc : Value} {od : Option Addr} {kV doc pm : Value} {an : Option Addr} {cdv ct : Value} {osl : Array (Option Value)}
    (h0 : nsIn K mainGlobals x = some (some (.ref f))) (h1 : K.lookup f = some ⟨oc, od, .func (fnOf x x (L2.defArgs st) (L2.defBody st) (L2.defScope st) .none kV doc pm an cdv ct), osl⟩) (h2 : codeIn K cdv x = true) (h3 : keepIn K (.ref f) = true) : DefIs K x st :=
  ⟨_, _, _, _, _, _, _, _, _, _, h0, h1, h2, h3⟩
theorem errIs_of {P : Program} {K : Frag} {nm : Str} {CG C : Addr} {fI cc cda : Addr} {n q : Str} {N : Addr} {bs : List Value} {sn : List Str} {sub : List Value} {ab : Bool} {col : Option Bool} {dd : Option Addr} {k0 k1 k2 k3 k5 : Option Value} {cl : Value} {cld : Option Addr} {csl : Array (Option Value)} {ccl : Value} {cdd : Option Addr} {vs : Array Value} {ccs : Array (Option Value)} {file : Str} {tf : Tok} {qual msg : Str} {k : Nat} {oc : Value} {od : Option Addr} {kV doc pm : Value} {an : Option Addr} {ct : Value} {osl : Array (Option Value)} {p1 p2 a1 a2 a3 a4 a5 a6 q1 q2 q3 q4 : Pos}
    (h0 : nsIn K mainGlobals nm = some (some (.ref C))) (h1 : K.lookup C = some (excClassObj n q C N bs [.ref CG, .type "ValueError", .type "Exception", .type "BaseException", .type "object"] true sn sub ab col dd k0 k1 k2 k3 k5 "ValueError.__new__")) (h2 : findIn K (.ref C) "__init__" = some (some (.ref fI))) (h3 : K.lookup fI = some ⟨oc, od, .func (ksFn "__init__" qual (iA p1 p2) (iB msg k a1 a2 a3 a4 a5 a6 q1 q2 q3 q4) iS .none kV doc pm an (.ref cda) ct cc), osl⟩) (h4 : K.lookup cc = some ⟨cl, cld, .cell (some (.ref C)), csl⟩) (h5 : K.lookup cda = some ⟨ccl, cdd, .fields vs, ccs⟩) (h6 : vs[2]? = some (.str file tf)) (h7 : ((P.main.file : Str) == file) = true) (h8 : codeIn K (.ref cda) qual = true) (h9 : callForm msg k a1 a2 a3 a4 a5) (h10 : typeIn K (.ref fI) = some (.type "function")) (h11 : findIn K (.ref C) "__setattr__" = some (some (.builtin "object.__setattr__"))) (h12 : findIn K (.ref C) "__getattribute__" = some (some (.builtin "BaseException.__getattribute__"))) (h13 : findIn K (.ref C) "__getattr__" = some none) (h14 : findIn K (.ref C) "value" = some none) (h15 : keepIn K (.ref C) = true) (h16 : typeIn K (.ref C) = some (.type "type")) (h17 : hasDictIn K C = true) (h18 : findIn K (.ref C) "__class__" = some (some (.builtin "object.__class__"))) : ErrIs P K nm CG C :=
  ⟨_, _, _, _, _, _, _, _, _, _, _, _, _, _, _, _, _, _, _, _, _, _, _, _, _, _, _, _, _, _, _, _, _, _, _, _, _, _, _, _, _, _, _, _, _, _, _, _, _, h0, h1, h2, h3, h4, h5, h6, h7, h8, h9, h10, h11, h12, h13, h14, h15, h16, h17, h18⟩
theorem baseIs_of {K : Frag} {CG : Addr} {n q : Str} {N : Addr} {bs : List Value} {sn : List Str} {sub : List Value} {ab : Bool} {col : Option Bool} {dd : Option Addr} {k0 k1 k2 k3 k5 : Option Value}
    (h0 : nsIn K mainGlobals "GraftError" = some (some (.ref CG))) (h1 : K.lookup CG = some (excClassObj n q CG N bs [.type "ValueError", .type "Exception", .type "BaseException", .type "object"] true sn sub ab col dd k0 k1 k2 k3 k5 "ValueError.__new__")) (h2 : findIn K (.ref CG) "__init__" = some (some (.builtin "ValueError.__init__"))) (h3 : typeIn K (.ref CG) = some (.type "type")) (h4 : nsIn K mainGlobals "super" = some none) (h5 : nsIn K mainGlobals "ValueError" = some none) (h6 : nsIn K cStatics "thirdparty.any" = some none) (h7 : specialIn K (.builtin "object.__class__") "__get__" = some (some (.builtin "getset_descriptor.__get__"))) (h8 : takesIn K (.builtin "object.__class__") = some true) : BaseIs K CG :=
  ⟨_, _, _, _, _, _, _, _, _, _, _, _, _, _, h0, h1, h2, h3, h4, h5, h6, h7, h8⟩
section
variable {P : Program} {K : Frag} {h : Heap} {mg : Str → Option Value} {CG CP CM C : Addr} {nm : Str}
theorem cls_of {o : Obj} {cd : ClassData} {a : Value} {b : Option Addr} {s : Array (Option Value)} (l : K.lookup C = some ⟨a, b, .cls cd, s⟩) : clsIn K C = some cd := by unfold clsIn; rw [l]
theorem mro_of {cd : ClassData} {base : Value} (e : clsIn K C = some cd) (hm : cd.mro.isEmpty = false) (hc : cd.mro.contains base = true) : mroIn K C base = some true := by
  unfold mroIn
  rw [e]
  show (if cd.mro.isEmpty = true then none else some (cd.mro.contains base)) = some true
  rw [hm, hc]; rfl
theorem err_mk (X : K.In h) (G : h.Ns mainGlobals mg) (B : BaseIs K CG) (I : ErrIs P K nm CG C) (top : (P.main.scope.names.lookup ("super" : Str)).isSome = false) : (∃ fI cc cda, ErrTxt P K mg nm C fI cc cda) ∧ KxC K C ∧ subIn K (.ref C) (.ref CG) = some true := by
  obtain ⟨_, _, _, _, _, _, _, _, _, _, _, _, _, _, gN, gL, gI, gT, nS, nV, oq, sg, tk⟩ := B
  obtain ⟨fI, cc, cda, n, q, N, bs, sn, sub, ab, col, dd, k0, k1, k2, k3, k5, cl, cld, csl, ccl, cdd, vs, ccs, file, tf, qual, msg, k, oc, od, kV, doc, pm, an, ct, osl, p1, p2, a1, a2, a3, a4, a5, a6, q1, q2, q3, q4,
    aC, xL, iC, lI, lc, ld, hv, hf, hcd, hcf, tC, sa, ga, gg, nn, kC, tyC, hd, ca⟩ := I
  have ec := cls_of (o := excClassObj n q C N bs [] true sn sub ab col dd k0 k1 k2 k3 k5 "") xL
  have al : alongIn K "__init__" [.ref CG, .type "ValueError", .type "Exception", .type "BaseException", .type "object"] = some (some (.builtin "ValueError.__init__")) := by
    unfold findIn at gI
    dsimp only at gI
    rw [gL] at gI
    exact gI
  have m : ∀ v : Value, (v == Value.type "BaseException" || v == Value.type "ValueError" || v == Value.type "object" || v == Value.ref C || v == Value.ref CG) = true → mroIn K C v = some true := fun v hv => mro_of ec rfl (by
    simp only [Bool.or_eq_true, beq_iff_eq] at hv
    rcases hv with (((rfl | rfl) | rfl) | rfl) | rfl <;> simp)
  have T : ErrTxt P K mg nm C fI cc cda :=
    { gC := mg_of X G aC, gs := mg_none_of X G nS, cls := ⟨n, q, N, bs, _, sn, sub, ab, col, dd, k0, k1, k2, k3, k5, xL, rfl, al⟩, sa := sa, ga := ga, gg := gg, noN := nn, iC := iC, tC := tC, kC := kC,
      exC := m _ (by simp), exV := m _ (by simp), tyC := tyC, hdC := hd, slf := m _ (by simp), opq := oq, cell := ⟨cl, cld, csl, lc⟩, code := ⟨ccl, cdd, vs, ccs, file, tf, ld, hv, hf⟩, top := top,
      fn := ⟨qual, msg, k, oc, od, kV, doc, pm, an, ct, osl, p1, p2, a1, a2, a3, a4, a5, a6, q1, q2, q3, q4, lI, hcd, hcf⟩ }
  exact ⟨⟨fI, cc, cda, T⟩, ⟨by rw [ec]; rfl, ga, gg, T.exC, ca, sg, tk, m _ (by simp)⟩, m _ (by simp)⟩
theorem kit_ref {D : Addr} {b : Bool} (hD : (clsIn K D).isSome = true) (tD : typeIn K (.ref D) = some (.type "type")) (slf : subIn K (.ref C) (.ref C) = some true) (sub : subIn K (.ref C) (.ref D) = some b) : kitOne K (.ref C) (.ref D) = some b := by
  unfold kitOne
  by_cases e : C = D
  · subst e
    rw [slf] at sub
    rw [if_pos (by simp)]
    exact sub
  · rw [if_neg (by simpa using e)]
    show (if ((clsIn K D).isSome && typeIn K (.ref D) == some (.type "type")) = true then subIn K (.ref C) (.ref D) else none) = some b
    rw [hD, tD]
    exact sub
theorem kit_val (ex : subIn K (.ref C) (.type "ValueError") = some true) : kitOne K (.ref C) (.type "ValueError") = some true := by
  unfold kitOne
  rw [if_neg (by simp)]
  show (if kitMeta "ValueError" = true then subIn K (.ref C) (.type "ValueError") else none) = some true
  rw [if_pos (by decide +kernel)]
  exact ex
theorem errs_mk (X : K.In h) (G : h.Ns mainGlobals mg) (B : BaseIs K CG) (IP : ErrIs P K "InvalidPrices" CG CP) (IM : ErrIs P K "InvalidMatching" CG CM) (n1 : subIn K (.ref CM) (.ref CP) = some false) (n2 : subIn K (.ref CP) (.ref CM) = some false)
    (top : (P.main.scope.names.lookup ("super" : Str)).isSome = false) : Errs3 P K mg CG CP CM := by
  obtain ⟨⟨f1, c1, d1, TP⟩, kP, sP⟩ := err_mk X G B IP top
  obtain ⟨⟨f2, c2, d2, TM⟩, kM, sM⟩ := err_mk X G B IM top
  obtain ⟨_, _, _, _, _, _, _, _, _, _, _, _, _, _, gN, gL, gI, gT, nS, nV, oq, sg, tk⟩ := B
  have eG : (clsIn K CG).isSome = true := by unfold clsIn; rw [gL]; rfl
  exact { e := ⟨⟨f1, c1, d1, TP⟩, ⟨f2, c2, d2, TM⟩⟩, kP := kP, kM := kM, gG := mg_of X G gN, gP := TP.gC, gM := TM.gC, hP := TP.hdC, hM := TM.hdC, nP := TP.noN, nM := TM.noN,
          isMG := kit_ref eG gT TM.slf sM, isMV := kit_val TM.exV, isMP := kit_ref kP.cl TP.tyC TM.slf n1, isPG := kit_ref eG gT TP.slf sP,
          xMM := exm_ref TM.exC TM.hdC TM.tyC TM.slf, xPM := exm_ref TM.exC TM.hdC TM.tyC n2, xPP := exm_ref TP.exC TP.hdC TP.tyC TP.slf, nV := mg_none_of X G nV }
end
open L2
section
variable {K : PySem.W.Frag} {h : Heap} {mg : Str → Option Value}
theorem df_is_int (X : K.In h) (G : h.Ns mainGlobals mg) (I : DefIs K "is_int" s_is_int) : Nonempty (Df K mg "is_int" s_is_int ["value"]) := by
  obtain ⟨f, oc, od, kV, doc, pm, an, cdv, ct, osl, a, l, c, k⟩ := I
  exact ⟨⟨f, _, L2.fun_mk (st := s_is_int) l c k, (L2.fun_mk (st := s_is_int) l c k).binds (ps := ["value"]) fun _ _ _ _ _ _ us hl => match us, hl with | [_], _ => rfl, mg_of X G a⟩⟩
theorem df_is_between (X : K.In h) (G : h.Ns mainGlobals mg) (I : DefIs K "is_between" s_is_between) : Nonempty (Df K mg "is_between" s_is_between ["value", "low", "high"]) := by
  obtain ⟨f, oc, od, kV, doc, pm, an, cdv, ct, osl, a, l, c, k⟩ := I
  exact ⟨⟨f, _, L2.fun_mk (st := s_is_between) l c k, (L2.fun_mk (st := s_is_between) l c k).binds (ps := ["value", "low", "high"]) fun _ _ _ _ _ _ us hl => match us, hl with | [_, _, _], _ => rfl, mg_of X G a⟩⟩
theorem df_is_count (X : K.In h) (G : h.Ns mainGlobals mg) (I : DefIs K "is_count" s_is_count) : Nonempty (Df K mg "is_count" s_is_count ["value"]) := by
  obtain ⟨f, oc, od, kV, doc, pm, an, cdv, ct, osl, a, l, c, k⟩ := I
  exact ⟨⟨f, _, L2.fun_mk (st := s_is_count) l c k, (L2.fun_mk (st := s_is_count) l c k).binds (ps := ["value"]) fun _ _ _ _ _ _ us hl => match us, hl with | [_], _ => rfl, mg_of X G a⟩⟩
theorem df_has_size (X : K.In h) (G : h.Ns mainGlobals mg) (I : DefIs K "has_size" s_has_size) : Nonempty (Df K mg "has_size" s_has_size ["value", "size"]) := by
  obtain ⟨f, oc, od, kV, doc, pm, an, cdv, ct, osl, a, l, c, k⟩ := I
  exact ⟨⟨f, _, L2.fun_mk (st := s_has_size) l c k, (L2.fun_mk (st := s_has_size) l c k).binds (ps := ["value", "size"]) fun _ _ _ _ _ _ us hl => match us, hl with | [_, _], _ => rfl, mg_of X G a⟩⟩
theorem df_is_word (X : K.In h) (G : h.Ns mainGlobals mg) (I : DefIs K "is_word" s_is_word) : Nonempty (Df K mg "is_word" s_is_word ["value"]) := by
  obtain ⟨f, oc, od, kV, doc, pm, an, cdv, ct, osl, a, l, c, k⟩ := I
  exact ⟨⟨f, _, L2.fun_mk (st := s_is_word) l c k, (L2.fun_mk (st := s_is_word) l c k).binds (ps := ["value"]) fun _ _ _ _ _ _ us hl => match us, hl with | [_], _ => rfl, mg_of X G a⟩⟩
theorem df_are_ints (X : K.In h) (G : h.Ns mainGlobals mg) (I : DefIs K "are_ints" s_are_ints) : Nonempty (Df K mg "are_ints" s_are_ints ["value", "size"]) := by
  obtain ⟨f, oc, od, kV, doc, pm, an, cdv, ct, osl, a, l, c, k⟩ := I
  exact ⟨⟨f, _, L2.fun_mk (st := s_are_ints) l c k, (L2.fun_mk (st := s_are_ints) l c k).binds (ps := ["value", "size"]) fun _ _ _ _ _ _ us hl => match us, hl with | [_, _], _ => rfl, mg_of X G a⟩⟩
theorem df__are_triples (X : K.In h) (G : h.Ns mainGlobals mg) (I : DefIs K "_are_triples" s__are_triples) : Nonempty (Df K mg "_are_triples" s__are_triples ["table"]) := by
  obtain ⟨f, oc, od, kV, doc, pm, an, cdv, ct, osl, a, l, c, k⟩ := I
  exact ⟨⟨f, _, L2.fun_mk (st := s__are_triples) l c k, (L2.fun_mk (st := s__are_triples) l c k).binds (ps := ["table"]) fun _ _ _ _ _ _ us hl => match us, hl with | [_], _ => rfl, mg_of X G a⟩⟩
theorem df_is_prices (X : K.In h) (G : h.Ns mainGlobals mg) (I : DefIs K "is_prices" s_is_prices) : Nonempty (Df K mg "is_prices" s_is_prices ["value"]) := by
  obtain ⟨f, oc, od, kV, doc, pm, an, cdv, ct, osl, a, l, c, k⟩ := I
  exact ⟨⟨f, _, L2.fun_mk (st := s_is_prices) l c k, (L2.fun_mk (st := s_is_prices) l c k).binds (ps := ["value"]) fun _ _ _ _ _ _ us hl => match us, hl with | [_], _ => rfl, mg_of X G a⟩⟩
theorem df_need_prices (X : K.In h) (G : h.Ns mainGlobals mg) (I : DefIs K "need_prices" s_need_prices) : Nonempty (Df K mg "need_prices" s_need_prices ["prices"]) := by
  obtain ⟨f, oc, od, kV, doc, pm, an, cdv, ct, osl, a, l, c, k⟩ := I
  exact ⟨⟨f, _, L2.fun_mk (st := s_need_prices) l c k, (L2.fun_mk (st := s_need_prices) l c k).binds (ps := ["prices"]) fun _ _ _ _ _ _ us hl => match us, hl with | [_], _ => rfl, mg_of X G a⟩⟩
theorem df_price_between (X : K.In h) (G : h.Ns mainGlobals mg) (I : DefIs K "price_between" s_price_between) : Nonempty (Df K mg "price_between" s_price_between ["prices", "word", "other"]) := by
  obtain ⟨f, oc, od, kV, doc, pm, an, cdv, ct, osl, a, l, c, k⟩ := I
  exact ⟨⟨f, _, L2.fun_mk (st := s_price_between) l c k, (L2.fun_mk (st := s_price_between) l c k).binds (ps := ["prices", "word", "other"]) fun _ _ _ _ _ _ us hl => match us, hl with | [_, _, _], _ => rfl, mg_of X G a⟩⟩
theorem df_are_row_pairs (X : K.In h) (G : h.Ns mainGlobals mg) (I : DefIs K "are_row_pairs" s_are_row_pairs) : Nonempty (Df K mg "are_row_pairs" s_are_row_pairs ["value", "first", "second"]) := by
  obtain ⟨f, oc, od, kV, doc, pm, an, cdv, ct, osl, a, l, c, k⟩ := I
  exact ⟨⟨f, _, L2.fun_mk (st := s_are_row_pairs) l c k, (L2.fun_mk (st := s_are_row_pairs) l c k).binds (ps := ["value", "first", "second"]) fun _ _ _ _ _ _ us hl => match us, hl with | [_, _, _], _ => rfl, mg_of X G a⟩⟩
theorem df_pairs_price (X : K.In h) (G : h.Ns mainGlobals mg) (I : DefIs K "pairs_price" s_pairs_price) : Nonempty (Df K mg "pairs_price" s_pairs_price ["a", "b", "prices", "matching"]) := by
  obtain ⟨f, oc, od, kV, doc, pm, an, cdv, ct, osl, a, l, c, k⟩ := I
  exact ⟨⟨f, _, L2.fun_mk (st := s_pairs_price) l c k, (L2.fun_mk (st := s_pairs_price) l c k).binds (ps := ["a", "b", "prices", "matching"]) fun _ _ _ _ _ _ us hl => match us, hl with | [_, _, _, _], _ => rfl, mg_of X G a⟩⟩
theorem df_row_price (X : K.In h) (G : h.Ns mainGlobals mg) (I : DefIs K "row_price" s_row_price) : Nonempty (Df K mg "row_price" s_row_price ["a", "b", "prices", "matching"]) := by
  obtain ⟨f, oc, od, kV, doc, pm, an, cdv, ct, osl, a, l, c, k⟩ := I
  exact ⟨⟨f, _, L2.fun_mk (st := s_row_price) l c k, (L2.fun_mk (st := s_row_price) l c k).binds (ps := ["a", "b", "prices", "matching"]) fun _ _ _ _ _ _ us hl => match us, hl with | [_, _, _, _], _ => rfl, mg_of X G a⟩⟩
theorem df_table_ahead (X : K.In h) (G : h.Ns mainGlobals mg) (I : DefIs K "table_ahead" s_table_ahead) : Nonempty (Df K mg "table_ahead" s_table_ahead ["a", "b", "prices"]) := by
  obtain ⟨f, oc, od, kV, doc, pm, an, cdv, ct, osl, a, l, c, k⟩ := I
  exact ⟨⟨f, _, L2.fun_mk (st := s_table_ahead) l c k, (L2.fun_mk (st := s_table_ahead) l c k).binds (ps := ["a", "b", "prices"]) fun _ _ _ _ _ _ us hl => match us, hl with | [_, _, _], _ => rfl, mg_of X G a⟩⟩
theorem df_row_distance (X : K.In h) (G : h.Ns mainGlobals mg) (I : DefIs K "row_distance" s_row_distance) : Nonempty (Df K mg "row_distance" s_row_distance ["a", "b", "prices"]) := by
  obtain ⟨f, oc, od, kV, doc, pm, an, cdv, ct, osl, a, l, c, k⟩ := I
  exact ⟨⟨f, _, L2.fun_mk (st := s_row_distance) l c k, (L2.fun_mk (st := s_row_distance) l c k).binds (ps := ["a", "b", "prices"]) fun _ _ _ _ _ _ us hl => match us, hl with | [_, _, _], _ => rfl, mg_of X G a⟩⟩
theorem df__table_behind (X : K.In h) (G : h.Ns mainGlobals mg) (I : DefIs K "_table_behind" s__table_behind) : Nonempty (Df K mg "_table_behind" s__table_behind ["a", "b", "prices"]) := by
  obtain ⟨f, oc, od, kV, doc, pm, an, cdv, ct, osl, a, l, c, k⟩ := I
  exact ⟨⟨f, _, L2.fun_mk (st := s__table_behind) l c k, (L2.fun_mk (st := s__table_behind) l c k).binds (ps := ["a", "b", "prices"]) fun _ _ _ _ _ _ us hl => match us, hl with | [_, _, _], _ => rfl, mg_of X G a⟩⟩
theorem df__next_pairs (X : K.In h) (G : h.Ns mainGlobals mg) (I : DefIs K "_next_pairs" s__next_pairs) : Nonempty (Df K mg "_next_pairs" s__next_pairs ["a", "b", "prices", "behind", "i", "j"]) := by
  obtain ⟨f, oc, od, kV, doc, pm, an, cdv, ct, osl, a, l, c, k⟩ := I
  exact ⟨⟨f, _, L2.fun_mk (st := s__next_pairs) l c k, (L2.fun_mk (st := s__next_pairs) l c k).binds (ps := ["a", "b", "prices", "behind", "i", "j"]) fun _ _ _ _ _ _ us hl => match us, hl with | [_, _, _, _, _, _], _ => rfl, mg_of X G a⟩⟩
theorem df__can_end (X : K.In h) (G : h.Ns mainGlobals mg) (I : DefIs K "_can_end" s__can_end) : Nonempty (Df K mg "_can_end" s__can_end ["a", "b", "prices", "behind", "i", "j"]) := by
  obtain ⟨f, oc, od, kV, doc, pm, an, cdv, ct, osl, a, l, c, k⟩ := I
  exact ⟨⟨f, _, L2.fun_mk (st := s__can_end) l c k, (L2.fun_mk (st := s__can_end) l c k).binds (ps := ["a", "b", "prices", "behind", "i", "j"]) fun _ _ _ _ _ _ us hl => match us, hl with | [_, _, _, _, _, _], _ => rfl, mg_of X G a⟩⟩
theorem df_first_row_matching (X : K.In h) (G : h.Ns mainGlobals mg) (I : DefIs K "first_row_matching" s_first_row_matching) : Nonempty (Df K mg "first_row_matching" s_first_row_matching ["a", "b", "prices"]) := by
  obtain ⟨f, oc, od, kV, doc, pm, an, cdv, ct, osl, a, l, c, k⟩ := I
  exact ⟨⟨f, _, L2.fun_mk (st := s_first_row_matching) l c k, (L2.fun_mk (st := s_first_row_matching) l c k).binds (ps := ["a", "b", "prices"]) fun _ _ _ _ _ _ us hl => match us, hl with | [_, _, _], _ => rfl, mg_of X G a⟩⟩
theorem df_count_row_matchings (X : K.In h) (G : h.Ns mainGlobals mg) (I : DefIs K "count_row_matchings" s_count_row_matchings) : Nonempty (Df K mg "count_row_matchings" s_count_row_matchings ["a", "b", "prices"]) := by
  obtain ⟨f, oc, od, kV, doc, pm, an, cdv, ct, osl, a, l, c, k⟩ := I
  exact ⟨⟨f, _, L2.fun_mk (st := s_count_row_matchings) l c k, (L2.fun_mk (st := s_count_row_matchings) l c k).binds (ps := ["a", "b", "prices"]) fun _ _ _ _ _ _ us hl => match us, hl with | [_, _, _], _ => rfl, mg_of X G a⟩⟩
theorem df__law_mixed (X : K.In h) (G : h.Ns mainGlobals mg) (I : DefIs K "_law_mixed" s__law_mixed) : Nonempty (Df K mg "_law_mixed" s__law_mixed ["_law_number", "_law_turn", "_law_many"]) := by
  obtain ⟨f, oc, od, kV, doc, pm, an, cdv, ct, osl, a, l, c, k⟩ := I
  exact ⟨⟨f, _, L2.fun_mk (st := s__law_mixed) l c k, (L2.fun_mk (st := s__law_mixed) l c k).binds (ps := ["_law_number", "_law_turn", "_law_many"]) fun _ _ _ _ _ _ us hl => match us, hl with | [_, _, _], _ => rfl, mg_of X G a⟩⟩
theorem df__law_pool (X : K.In h) (G : h.Ns mainGlobals mg) (I : DefIs K "_law_pool" s__law_pool) : Nonempty (Df K mg "_law_pool" s__law_pool ["_law_script"]) := by
  obtain ⟨f, oc, od, kV, doc, pm, an, cdv, ct, osl, a, l, c, k⟩ := I
  exact ⟨⟨f, _, L2.fun_mk (st := s__law_pool) l c k, (L2.fun_mk (st := s__law_pool) l c k).binds (ps := ["_law_script"]) fun _ _ _ _ _ _ us hl => match us, hl with | [_], _ => rfl, mg_of X G a⟩⟩
theorem df__law_take (X : K.In h) (G : h.Ns mainGlobals mg) (I : DefIs K "_law_take" s__law_take) : Nonempty (Df K mg "_law_take" s__law_take ["_law_pool_here", "_law_many"]) := by
  obtain ⟨f, oc, od, kV, doc, pm, an, cdv, ct, osl, a, l, c, k⟩ := I
  exact ⟨⟨f, _, L2.fun_mk (st := s__law_take) l c k, (L2.fun_mk (st := s__law_take) l c k).binds (ps := ["_law_pool_here", "_law_many"]) fun _ _ _ _ _ _ us hl => match us, hl with | [_, _], _ => rfl, mg_of X G a⟩⟩
theorem df__law_words (X : K.In h) (G : h.Ns mainGlobals mg) (I : DefIs K "_law_words" s__law_words) : Nonempty (Df K mg "_law_words" s__law_words ["_law_pool_here"]) := by
  obtain ⟨f, oc, od, kV, doc, pm, an, cdv, ct, osl, a, l, c, k⟩ := I
  exact ⟨⟨f, _, L2.fun_mk (st := s__law_words) l c k, (L2.fun_mk (st := s__law_words) l c k).binds (ps := ["_law_pool_here"]) fun _ _ _ _ _ _ us hl => match us, hl with | [_], _ => rfl, mg_of X G a⟩⟩
theorem df__law_word (X : K.In h) (G : h.Ns mainGlobals mg) (I : DefIs K "_law_word" s__law_word) : Nonempty (Df K mg "_law_word" s__law_word ["_law_pool_here"]) := by
  obtain ⟨f, oc, od, kV, doc, pm, an, cdv, ct, osl, a, l, c, k⟩ := I
  exact ⟨⟨f, _, L2.fun_mk (st := s__law_word) l c k, (L2.fun_mk (st := s__law_word) l c k).binds (ps := ["_law_pool_here"]) fun _ _ _ _ _ _ us hl => match us, hl with | [_], _ => rfl, mg_of X G a⟩⟩
theorem df__law_price (X : K.In h) (G : h.Ns mainGlobals mg) (I : DefIs K "_law_price" s__law_price) : Nonempty (Df K mg "_law_price" s__law_price ["_law_pool_here"]) := by
  obtain ⟨f, oc, od, kV, doc, pm, an, cdv, ct, osl, a, l, c, k⟩ := I
  exact ⟨⟨f, _, L2.fun_mk (st := s__law_price) l c k, (L2.fun_mk (st := s__law_price) l c k).binds (ps := ["_law_pool_here"]) fun _ _ _ _ _ _ us hl => match us, hl with | [_], _ => rfl, mg_of X G a⟩⟩
theorem df__law_prices (X : K.In h) (G : h.Ns mainGlobals mg) (I : DefIs K "_law_prices" s__law_prices) : Nonempty (Df K mg "_law_prices" s__law_prices ["_law_pool_here"]) := by
  obtain ⟨f, oc, od, kV, doc, pm, an, cdv, ct, osl, a, l, c, k⟩ := I
  exact ⟨⟨f, _, L2.fun_mk (st := s__law_prices) l c k, (L2.fun_mk (st := s__law_prices) l c k).binds (ps := ["_law_pool_here"]) fun _ _ _ _ _ _ us hl => match us, hl with | [_], _ => rfl, mg_of X G a⟩⟩
theorem df__law_change (X : K.In h) (G : h.Ns mainGlobals mg) (I : DefIs K "_law_change" s__law_change) : Nonempty (Df K mg "_law_change" s__law_change ["_law_prices_here", "_law_word_here", "_law_other"]) := by
  obtain ⟨f, oc, od, kV, doc, pm, an, cdv, ct, osl, a, l, c, k⟩ := I
  exact ⟨⟨f, _, L2.fun_mk (st := s__law_change) l c k, (L2.fun_mk (st := s__law_change) l c k).binds (ps := ["_law_prices_here", "_law_word_here", "_law_other"]) fun _ _ _ _ _ _ us hl => match us, hl with | [_, _, _], _ => rfl, mg_of X G a⟩⟩
theorem df__law_is_integer (X : K.In h) (G : h.Ns mainGlobals mg) (I : DefIs K "_law_is_integer" s__law_is_integer) : Nonempty (Df K mg "_law_is_integer" s__law_is_integer ["_law_value"]) := by
  obtain ⟨f, oc, od, kV, doc, pm, an, cdv, ct, osl, a, l, c, k⟩ := I
  exact ⟨⟨f, _, L2.fun_mk (st := s__law_is_integer) l c k, (L2.fun_mk (st := s__law_is_integer) l c k).binds (ps := ["_law_value"]) fun _ _ _ _ _ _ us hl => match us, hl with | [_], _ => rfl, mg_of X G a⟩⟩
theorem df__law_same (X : K.In h) (G : h.Ns mainGlobals mg) (I : DefIs K "_law_same" s__law_same) : Nonempty (Df K mg "_law_same" s__law_same ["_law_actual", "_law_due"]) := by
  obtain ⟨f, oc, od, kV, doc, pm, an, cdv, ct, osl, a, l, c, k⟩ := I
  exact ⟨⟨f, _, L2.fun_mk (st := s__law_same) l c k, (L2.fun_mk (st := s__law_same) l c k).binds (ps := ["_law_actual", "_law_due"]) fun _ _ _ _ _ _ us hl => match us, hl with | [_, _], _ => rfl, mg_of X G a⟩⟩
theorem df__law_table (X : K.In h) (G : h.Ns mainGlobals mg) (I : DefIs K "_law_table" s__law_table) : Nonempty (Df K mg "_law_table" s__law_table ["_law_a", "_law_b", "_law_prices_here"]) := by
  obtain ⟨f, oc, od, kV, doc, pm, an, cdv, ct, osl, a, l, c, k⟩ := I
  exact ⟨⟨f, _, L2.fun_mk (st := s__law_table) l c k, (L2.fun_mk (st := s__law_table) l c k).binds (ps := ["_law_a", "_law_b", "_law_prices_here"]) fun _ _ _ _ _ _ us hl => match us, hl with | [_, _, _], _ => rfl, mg_of X G a⟩⟩
theorem df__law_pair (X : K.In h) (G : h.Ns mainGlobals mg) (I : DefIs K "_law_pair" s__law_pair) : Nonempty (Df K mg "_law_pair" s__law_pair ["_law_a", "_law_b", "_law_prices_here", "_law_table_here", "_law_i", "_law_j"]) := by
  obtain ⟨f, oc, od, kV, doc, pm, an, cdv, ct, osl, a, l, c, k⟩ := I
  exact ⟨⟨f, _, L2.fun_mk (st := s__law_pair) l c k, (L2.fun_mk (st := s__law_pair) l c k).binds (ps := ["_law_a", "_law_b", "_law_prices_here", "_law_table_here", "_law_i", "_law_j"]) fun _ _ _ _ _ _ us hl => match us, hl with | [_, _, _, _, _, _], _ => rfl, mg_of X G a⟩⟩
theorem df__law_first (X : K.In h) (G : h.Ns mainGlobals mg) (I : DefIs K "_law_first" s__law_first) : Nonempty (Df K mg "_law_first" s__law_first ["_law_a", "_law_b", "_law_prices_here", "_law_table_here"]) := by
  obtain ⟨f, oc, od, kV, doc, pm, an, cdv, ct, osl, a, l, c, k⟩ := I
  exact ⟨⟨f, _, L2.fun_mk (st := s__law_first) l c k, (L2.fun_mk (st := s__law_first) l c k).binds (ps := ["_law_a", "_law_b", "_law_prices_here", "_law_table_here"]) fun _ _ _ _ _ _ us hl => match us, hl with | [_, _, _, _], _ => rfl, mg_of X G a⟩⟩
theorem df__law_drawn (X : K.In h) (G : h.Ns mainGlobals mg) (I : DefIs K "_law_drawn" s__law_drawn) : Nonempty (Df K mg "_law_drawn" s__law_drawn ["_law_pool_here", "_law_a", "_law_b"]) := by
  obtain ⟨f, oc, od, kV, doc, pm, an, cdv, ct, osl, a, l, c, k⟩ := I
  exact ⟨⟨f, _, L2.fun_mk (st := s__law_drawn) l c k, (L2.fun_mk (st := s__law_drawn) l c k).binds (ps := ["_law_pool_here", "_law_a", "_law_b"]) fun _ _ _ _ _ _ us hl => match us, hl with | [_, _, _], _ => rfl, mg_of X G a⟩⟩
theorem df__law_spoilt (X : K.In h) (G : h.Ns mainGlobals mg) (I : DefIs K "_law_spoilt" s__law_spoilt) : Nonempty (Df K mg "_law_spoilt" s__law_spoilt ["_law_pool_here", "_law_matching"]) := by
  obtain ⟨f, oc, od, kV, doc, pm, an, cdv, ct, osl, a, l, c, k⟩ := I
  exact ⟨⟨f, _, L2.fun_mk (st := s__law_spoilt) l c k, (L2.fun_mk (st := s__law_spoilt) l c k).binds (ps := ["_law_pool_here", "_law_matching"]) fun _ _ _ _ _ _ us hl => match us, hl with | [_, _], _ => rfl, mg_of X G a⟩⟩
theorem df__law_is_row_matching (X : K.In h) (G : h.Ns mainGlobals mg) (I : DefIs K "_law_is_row_matching" s__law_is_row_matching) : Nonempty (Df K mg "_law_is_row_matching" s__law_is_row_matching ["_law_value", "_law_a", "_law_b"]) := by
  obtain ⟨f, oc, od, kV, doc, pm, an, cdv, ct, osl, a, l, c, k⟩ := I
  exact ⟨⟨f, _, L2.fun_mk (st := s__law_is_row_matching) l c k, (L2.fun_mk (st := s__law_is_row_matching) l c k).binds (ps := ["_law_value", "_law_a", "_law_b"]) fun _ _ _ _ _ _ us hl => match us, hl with | [_, _, _], _ => rfl, mg_of X G a⟩⟩
theorem df__law_odd_prices (X : K.In h) (G : h.Ns mainGlobals mg) (I : DefIs K "_law_odd_prices" s__law_odd_prices) : Nonempty (Df K mg "_law_odd_prices" s__law_odd_prices ["_law_pool_here", "_law_prices_here"]) := by
  obtain ⟨f, oc, od, kV, doc, pm, an, cdv, ct, osl, a, l, c, k⟩ := I
  exact ⟨⟨f, _, L2.fun_mk (st := s__law_odd_prices) l c k, (L2.fun_mk (st := s__law_odd_prices) l c k).binds (ps := ["_law_pool_here", "_law_prices_here"]) fun _ _ _ _ _ _ us hl => match us, hl with | [_, _], _ => rfl, mg_of X G a⟩⟩
theorem df__law_told (X : K.In h) (G : h.Ns mainGlobals mg) (I : DefIs K "_law_told" s__law_told) : Nonempty (Df K mg "_law_told" s__law_told ["_law_a", "_law_b", "_law_prices_here", "_law_matching"]) := by
  obtain ⟨f, oc, od, kV, doc, pm, an, cdv, ct, osl, a, l, c, k⟩ := I
  exact ⟨⟨f, _, L2.fun_mk (st := s__law_told) l c k, (L2.fun_mk (st := s__law_told) l c k).binds (ps := ["_law_a", "_law_b", "_law_prices_here", "_law_matching"]) fun _ _ _ _ _ _ us hl => match us, hl with | [_, _, _, _], _ => rfl, mg_of X G a⟩⟩
theorem df__law_told_right (X : K.In h) (G : h.Ns mainGlobals mg) (I : DefIs K "_law_told_right" s__law_told_right) : Nonempty (Df K mg "_law_told_right" s__law_told_right ["_law_a", "_law_b", "_law_prices_here", "_law_value"]) := by
  obtain ⟨f, oc, od, kV, doc, pm, an, cdv, ct, osl, a, l, c, k⟩ := I
  exact ⟨⟨f, _, L2.fun_mk (st := s__law_told_right) l c k, (L2.fun_mk (st := s__law_told_right) l c k).binds (ps := ["_law_a", "_law_b", "_law_prices_here", "_law_value"]) fun _ _ _ _ _ _ us hl => match us, hl with | [_, _, _, _], _ => rfl, mg_of X G a⟩⟩
theorem df_law (X : K.In h) (G : h.Ns mainGlobals mg) (I : DefIs K "law" s_law) : Nonempty (Df K mg "law" s_law ["_law_script"]) := by
  obtain ⟨f, oc, od, kV, doc, pm, an, cdv, ct, osl, a, l, c, k⟩ := I
  exact ⟨⟨f, _, L2.fun_mk (st := s_law) l c k, (L2.fun_mk (st := s_law) l c k).binds (ps := ["_law_script"]) fun _ _ _ _ _ _ us hl => match us, hl with | [_], _ => rfl, mg_of X G a⟩⟩
end
theorem len_law (K : PySem.W.Frag) (vs : List V) (H : Hp) (Q : VK) (E : XK) (h : sp_law K vs H Q E) : vs.length = (["_law_script"] : List Str).length := by obtain ⟨_, _, rfl, _⟩ := h; rfl
theorem ok_law {P : Program} {w : World} {K : PySem.W.Frag} {mg : Str → Option Value} {base : Heap} {CG CP CM : Addr} (T : Tx K mg) (X3 : Errs3 P K mg CG CP CM) : FnOkG P w K mg base 9 T.d_law.f T.d_law.fd ["_law_script"] (sp_law K) :=
  okG T.d_law.F sc_law (len_law K) (fun cdv A outer s H vs Q E hr hg h => ⟨t_law K, dv_law T X3 cdv A outer s H E hr hg, rd_law vs H Q E h⟩)
theorem all_mk {l : PySem.W.OpenLaw} {w : World} {K : PySem.W.Frag} {h : Heap} {mg : Str → Option Value} {fa CG CP CM : Addr} {tkL tkM : Tok} (X : K.In h) (G : h.Ns mainGlobals mg) (hfa : mg "law" = some (.ref fa))
    (n_isinstance : PySem.W.nsIn K mainGlobals "isinstance" = some none)
    (n_int : PySem.W.nsIn K mainGlobals "int" = some none)
    (n_bool : PySem.W.nsIn K mainGlobals "bool" = some none)
    (n_str : PySem.W.nsIn K mainGlobals "str" = some none)
    (n_tuple : PySem.W.nsIn K mainGlobals "tuple" = some none)
    (n_list : PySem.W.nsIn K mainGlobals "list" = some none)
    (n_len : PySem.W.nsIn K mainGlobals "len" = some none)
    (n_all : PySem.W.nsIn K mainGlobals "all" = some none)
    (n_min : PySem.W.nsIn K mainGlobals "min" = some none)
    (n_range : PySem.W.nsIn K mainGlobals "range" = some none)
    (n_reversed : PySem.W.nsIn K mainGlobals "reversed" = some none)
    (n_repr : PySem.W.nsIn K mainGlobals "repr" = some none)
    (gL : PySem.W.nsIn K mainGlobals "LETTERS" = some (some (.str letters tkL))) (gM : PySem.W.nsIn K mainGlobals "MOST_LETTERS" = some (some (.int 8 tkM)))
    (I_is_int : DefIs K "is_int" s_is_int)
    (I_is_between : DefIs K "is_between" s_is_between)
    (I_is_count : DefIs K "is_count" s_is_count)
    (I_has_size : DefIs K "has_size" s_has_size)
    (I_is_word : DefIs K "is_word" s_is_word)
    (I_are_ints : DefIs K "are_ints" s_are_ints)
    (I__are_triples : DefIs K "_are_triples" s__are_triples)
    (I_is_prices : DefIs K "is_prices" s_is_prices)
    (I_need_prices : DefIs K "need_prices" s_need_prices)
    (I_price_between : DefIs K "price_between" s_price_between)
    (I_are_row_pairs : DefIs K "are_row_pairs" s_are_row_pairs)
    (I_pairs_price : DefIs K "pairs_price" s_pairs_price)
    (I_row_price : DefIs K "row_price" s_row_price)
    (I_table_ahead : DefIs K "table_ahead" s_table_ahead)
    (I_row_distance : DefIs K "row_distance" s_row_distance)
    (I__table_behind : DefIs K "_table_behind" s__table_behind)
    (I__next_pairs : DefIs K "_next_pairs" s__next_pairs)
    (I__can_end : DefIs K "_can_end" s__can_end)
    (I_first_row_matching : DefIs K "first_row_matching" s_first_row_matching)
    (I_count_row_matchings : DefIs K "count_row_matchings" s_count_row_matchings)
    (I__law_mixed : DefIs K "_law_mixed" s__law_mixed)
    (I__law_pool : DefIs K "_law_pool" s__law_pool)
    (I__law_take : DefIs K "_law_take" s__law_take)
    (I__law_words : DefIs K "_law_words" s__law_words)
    (I__law_word : DefIs K "_law_word" s__law_word)
    (I__law_price : DefIs K "_law_price" s__law_price)
    (I__law_prices : DefIs K "_law_prices" s__law_prices)
    (I__law_change : DefIs K "_law_change" s__law_change)
    (I__law_is_integer : DefIs K "_law_is_integer" s__law_is_integer)
    (I__law_same : DefIs K "_law_same" s__law_same)
    (I__law_table : DefIs K "_law_table" s__law_table)
    (I__law_pair : DefIs K "_law_pair" s__law_pair)
    (I__law_first : DefIs K "_law_first" s__law_first)
    (I__law_drawn : DefIs K "_law_drawn" s__law_drawn)
    (I__law_spoilt : DefIs K "_law_spoilt" s__law_spoilt)
    (I__law_is_row_matching : DefIs K "_law_is_row_matching" s__law_is_row_matching)
    (I__law_odd_prices : DefIs K "_law_odd_prices" s__law_odd_prices)
    (I__law_told : DefIs K "_law_told" s__law_told)
    (I__law_told_right : DefIs K "_law_told_right" s__law_told_right)
    (I_law : DefIs K "law" s_law)
    (BG : BaseIs K CG) (IP : ErrIs l.prog K "InvalidPrices" CG CP) (IM : ErrIs l.prog K "InvalidMatching" CG CM) (n1 : PySem.W.subIn K (.ref CM) (.ref CP) = some false) (n2 : PySem.W.subIn K (.ref CP) (.ref CM) = some false) (top : (l.prog.main.scope.names.lookup ("super" : Str)).isSome = false) :
    ∃ fd : FuncData, (∀ (s : Shared) (v : Value), BindsTo s fd ⟨[v], []⟩ [("_law_script", v)]) ∧ ∀ base : Heap, K.In base → base.Ns mainGlobals mg → FnOkG l.prog w K mg base 9 fa fd ["_law_script"] (sp_law K) := by
  obtain ⟨D_is_int⟩ := df_is_int X G I_is_int
  obtain ⟨D_is_between⟩ := df_is_between X G I_is_between
  obtain ⟨D_is_count⟩ := df_is_count X G I_is_count
  obtain ⟨D_has_size⟩ := df_has_size X G I_has_size
  obtain ⟨D_is_word⟩ := df_is_word X G I_is_word
  obtain ⟨D_are_ints⟩ := df_are_ints X G I_are_ints
  obtain ⟨D__are_triples⟩ := df__are_triples X G I__are_triples
  obtain ⟨D_is_prices⟩ := df_is_prices X G I_is_prices
  obtain ⟨D_need_prices⟩ := df_need_prices X G I_need_prices
  obtain ⟨D_price_between⟩ := df_price_between X G I_price_between
  obtain ⟨D_are_row_pairs⟩ := df_are_row_pairs X G I_are_row_pairs
  obtain ⟨D_pairs_price⟩ := df_pairs_price X G I_pairs_price
  obtain ⟨D_row_price⟩ := df_row_price X G I_row_price
  obtain ⟨D_table_ahead⟩ := df_table_ahead X G I_table_ahead
  obtain ⟨D_row_distance⟩ := df_row_distance X G I_row_distance
  obtain ⟨D__table_behind⟩ := df__table_behind X G I__table_behind
  obtain ⟨D__next_pairs⟩ := df__next_pairs X G I__next_pairs
  obtain ⟨D__can_end⟩ := df__can_end X G I__can_end
  obtain ⟨D_first_row_matching⟩ := df_first_row_matching X G I_first_row_matching
  obtain ⟨D_count_row_matchings⟩ := df_count_row_matchings X G I_count_row_matchings
  obtain ⟨D__law_mixed⟩ := df__law_mixed X G I__law_mixed
  obtain ⟨D__law_pool⟩ := df__law_pool X G I__law_pool
  obtain ⟨D__law_take⟩ := df__law_take X G I__law_take
  obtain ⟨D__law_words⟩ := df__law_words X G I__law_words
  obtain ⟨D__law_word⟩ := df__law_word X G I__law_word
  obtain ⟨D__law_price⟩ := df__law_price X G I__law_price
  obtain ⟨D__law_prices⟩ := df__law_prices X G I__law_prices
  obtain ⟨D__law_change⟩ := df__law_change X G I__law_change
  obtain ⟨D__law_is_integer⟩ := df__law_is_integer X G I__law_is_integer
  obtain ⟨D__law_same⟩ := df__law_same X G I__law_same
  obtain ⟨D__law_table⟩ := df__law_table X G I__law_table
  obtain ⟨D__law_pair⟩ := df__law_pair X G I__law_pair
  obtain ⟨D__law_first⟩ := df__law_first X G I__law_first
  obtain ⟨D__law_drawn⟩ := df__law_drawn X G I__law_drawn
  obtain ⟨D__law_spoilt⟩ := df__law_spoilt X G I__law_spoilt
  obtain ⟨D__law_is_row_matching⟩ := df__law_is_row_matching X G I__law_is_row_matching
  obtain ⟨D__law_odd_prices⟩ := df__law_odd_prices X G I__law_odd_prices
  obtain ⟨D__law_told⟩ := df__law_told X G I__law_told
  obtain ⟨D__law_told_right⟩ := df__law_told_right X G I__law_told_right
  obtain ⟨f, oc, od, kV, doc, pm, an, cdv, ct, osl, a, lk, c, k⟩ := I_law
  have e := hfa.symm.trans (PySem.W.mg_of X G a)
  cases e
  have X3 := errs_mk X G BG IP IM n1 n2 top
  exact ⟨PySem.W.fnOf "law" "law" (defArgs s_law) (defBody s_law) (defScope s_law) .none kV doc pm an cdv ct, fun s v => .of_eq rfl, fun base _ _ => ok_law
    { n_isinstance := PySem.W.mg_none_of X G n_isinstance, n_int := PySem.W.mg_none_of X G n_int, n_bool := PySem.W.mg_none_of X G n_bool, n_str := PySem.W.mg_none_of X G n_str, n_tuple := PySem.W.mg_none_of X G n_tuple, n_list := PySem.W.mg_none_of X G n_list, n_len := PySem.W.mg_none_of X G n_len, n_all := PySem.W.mg_none_of X G n_all, n_min := PySem.W.mg_none_of X G n_min, n_range := PySem.W.mg_none_of X G n_range, n_reversed := PySem.W.mg_none_of X G n_reversed, n_repr := PySem.W.mg_none_of X G n_repr,
      tkL := tkL, g_LETTERS := PySem.W.mg_of X G gL, tkM := tkM, g_MOST_LETTERS := PySem.W.mg_of X G gM,
      d_is_int := D_is_int, d_is_between := D_is_between, d_is_count := D_is_count, d_has_size := D_has_size, d_is_word := D_is_word, d_are_ints := D_are_ints, d__are_triples := D__are_triples, d_is_prices := D_is_prices, d_need_prices := D_need_prices, d_price_between := D_price_between, d_are_row_pairs := D_are_row_pairs, d_pairs_price := D_pairs_price, d_row_price := D_row_price, d_table_ahead := D_table_ahead, d_row_distance := D_row_distance, d__table_behind := D__table_behind, d__next_pairs := D__next_pairs, d__can_end := D__can_end, d_first_row_matching := D_first_row_matching, d_count_row_matchings := D_count_row_matchings, d__law_mixed := D__law_mixed, d__law_pool := D__law_pool, d__law_take := D__law_take, d__law_words := D__law_words, d__law_word := D__law_word, d__law_price := D__law_price, d__law_prices := D__law_prices, d__law_change := D__law_change, d__law_is_integer := D__law_is_integer, d__law_same := D__law_same, d__law_table := D__law_table, d__law_pair := D__law_pair, d__law_first := D__law_first, d__law_drawn := D__law_drawn, d__law_spoilt := D__law_spoilt, d__law_is_row_matching := D__law_is_row_matching, d__law_odd_prices := D__law_odd_prices, d__law_told := D__law_told, d__law_told_right := D__law_told_right,
      d_law := ⟨fa, _, fun_mk (st := s_law) lk c k, (fun_mk (st := s_law) lk c k).binds (ps := ["_law_script"]) fun _ _ _ _ _ _ us hl => match us, hl with | [_], _ => rfl, hfa⟩ } X3⟩
end Gb

open PySem PySem.W PyProof.Rows
local macro_rules | `(tactic| walk_at "df") => `(tactic| (refine' Gb.defIs_of ?a ?l ?c ?k; (case a => k_is); (case l => k_is); (case c => k_is); (case k => k_is)))
set_option maxHeartbeats 0 in
theorem PySem.Challenge.cw_graftbook_k07_whole_row_distances_holds : PySem.Challenge.rw_graftbook_k07_whole_row_distances.Holds := by
  w_on; o_law; k_head; (case hw => w_witness2)
  k_fill
  refine Gb.walk_g (l := PySem.Challenge.rw_graftbook_k07_whole_row_distances) (n := 63) (k := 9) (x := "_law_script") (sp := fun w => Gb.sp_law _) rfl (by decide) rfl ⟨rfl, by decide, by decide⟩ (fun w h Y => PySem.W.kIn_of Y) ?F (fun _ _ a ns _ _ hS => ⟨a, ns, rfl, hS, fun _ => rfl⟩)
  case F =>
    intro w mg fa h KX G hmg
    refine' Gb.all_mk KX G hmg ?n_isinstance ?n_int ?n_bool ?n_str ?n_tuple ?n_list ?n_len ?n_all ?n_min ?n_range ?n_reversed ?n_repr ?gL ?gM ?I_is_int ?I_is_between ?I_is_count ?I_has_size ?I_is_word ?I_are_ints ?I__are_triples ?I_is_prices ?I_need_prices ?I_price_between ?I_are_row_pairs ?I_pairs_price ?I_row_price ?I_table_ahead ?I_row_distance ?I__table_behind ?I__next_pairs ?I__can_end ?I_first_row_matching ?I_count_row_matchings ?I__law_mixed ?I__law_pool ?I__law_take ?I__law_words ?I__law_word ?I__law_price ?I__law_prices ?I__law_change ?I__law_is_integer ?I__law_same ?I__law_table ?I__law_pair ?I__law_first ?I__law_drawn ?I__law_spoilt ?I__law_is_row_matching ?I__law_odd_prices ?I__law_told ?I__law_told_right ?I_law ?BG ?IP ?IM ?n1 ?n2 ?top
    (case n_isinstance => k_is)
    (case n_int => k_is)
    (case n_bool => k_is)
    (case n_str => k_is)
    (case n_tuple => k_is)
    (case n_list => k_is)
    (case n_len => k_is)
    (case n_all => k_is)
    (case n_min => k_is)
    (case n_range => k_is)
    (case n_reversed => k_is)
    (case n_repr => k_is)
    (case gL => k_is)
    (case gM => k_is)
    (case I_is_int => walk_at "df")
    (case I_is_between => walk_at "df")
    (case I_is_count => walk_at "df")
    (case I_has_size => walk_at "df")
    (case I_is_word => walk_at "df")
    (case I_are_ints => walk_at "df")
    (case I__are_triples => walk_at "df")
    (case I_is_prices => walk_at "df")
    (case I_need_prices => walk_at "df")
    (case I_price_between => walk_at "df")
    (case I_are_row_pairs => walk_at "df")
    (case I_pairs_price => walk_at "df")
    (case I_row_price => walk_at "df")
    (case I_table_ahead => walk_at "df")
    (case I_row_distance => walk_at "df")
    (case I__table_behind => walk_at "df")
    (case I__next_pairs => walk_at "df")
    (case I__can_end => walk_at "df")
    (case I_first_row_matching => walk_at "df")
    (case I_count_row_matchings => walk_at "df")
    (case I__law_mixed => walk_at "df")
    (case I__law_pool => walk_at "df")
    (case I__law_take => walk_at "df")
    (case I__law_words => walk_at "df")
    (case I__law_word => walk_at "df")
    (case I__law_price => walk_at "df")
    (case I__law_prices => walk_at "df")
    (case I__law_change => walk_at "df")
    (case I__law_is_integer => walk_at "df")
    (case I__law_same => walk_at "df")
    (case I__law_table => walk_at "df")
    (case I__law_pair => walk_at "df")
    (case I__law_first => walk_at "df")
    (case I__law_drawn => walk_at "df")
    (case I__law_spoilt => walk_at "df")
    (case I__law_is_row_matching => walk_at "df")
    (case I__law_odd_prices => walk_at "df")
    (case I__law_told => walk_at "df")
    (case I__law_told_right => walk_at "df")
    (case I_law => walk_at "df")
    (case BG => (refine' Gb.baseIs_of ?a ?b ?c ?d ?e ?f ?g ?h ?i; (case a => k_is); (case b => k_is); (case c => k_is); (case d => k_is); (case e => k_is); (case f => k_is); (case g => k_is); (case h => k_is); (case i => k_is)))
    (case IP => (refine' Gb.errIs_of ?ze_a ?ze_b ?ze_c ?ze_d ?ze_e ?ze_f ?ze_g ?ze_h ?ze_i ?ze_j ?ze_k ?ze_l ?ze_m ?ze_n ?ze_o ?ze_p ?ze_q ?ze_r ?ze_s; (case ze_a => k_is); (case ze_b => k_is); (case ze_c => k_is); (case ze_d => k_is); (case ze_e => k_is); (case ze_f => k_is); (case ze_g => rfl); (case ze_h => decide +kernel); (case ze_i => k_is); (case ze_j => exact fun _ => ⟨_, rfl⟩); (case ze_k => k_is); (case ze_l => k_is); (case ze_m => k_is); (case ze_n => k_is); (case ze_o => k_is); (case ze_p => k_is); (case ze_q => k_is); (case ze_r => k_is); (case ze_s => k_is)))
    (case IM => (refine' Gb.errIs_of ?ze_a ?ze_b ?ze_c ?ze_d ?ze_e ?ze_f ?ze_g ?ze_h ?ze_i ?ze_j ?ze_k ?ze_l ?ze_m ?ze_n ?ze_o ?ze_p ?ze_q ?ze_r ?ze_s; (case ze_a => k_is); (case ze_b => k_is); (case ze_c => k_is); (case ze_d => k_is); (case ze_e => k_is); (case ze_f => k_is); (case ze_g => rfl); (case ze_h => decide +kernel); (case ze_i => k_is); (case ze_j => exact fun _ => ⟨_, rfl⟩); (case ze_k => k_is); (case ze_l => k_is); (case ze_m => k_is); (case ze_n => k_is); (case ze_o => k_is); (case ze_p => k_is); (case ze_q => k_is); (case ze_r => k_is); (case ze_s => k_is)))
    (case n1 => k_is)
    (case n2 => k_is)
    (case top => decide +kernel)

