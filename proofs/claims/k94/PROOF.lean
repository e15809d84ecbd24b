import PyProof.Rows.All
import Wide.All
import OpenK.AllK
import Wide.FinOn
import HandS.ForMost
import HandS.NoneIn
import HandS.WideBits
import HandS.Wide
import HandS.Conv
import HandS.Deep
import HandS.Flow
import HandS.Style
import HandS.IsInst
import HandS.SortInts
import PyProof.StrHeap
import PyProof.ReprRoads
import HandS.DictComp
import KE.KDictDisplayH
import HandS.NamedTupSort
import HandS.Sort
import HandS.More
import HandS.Ends
import HandS.EndBits
import HandS.Rev
import HandS.RevRange
import PySem.Challenge.RW_looseseams_k94_whole_kinds_in_one_anothe
set_option Elab.async false
set_option linter.all false
set_option maxRecDepth 100000
set_option maxHeartbeats 4000000
/-! P0: plain definitions: kinds, orders (windows), steps, items, products, opposites, crossings. -/
namespace M
/-- the three names -/
inductive Kd where
  | plain | mirror | ring
  deriving DecidableEq
def st0 (k : Kd) : Int := if k = .mirror then 1 else 0
def gt (w : List Int) (i : Int) : Int := w.getD i.toNat 0
/-- is the step crossed -/
def xd (k : Kd) (w : List Int) (s : Int) : Bool := match k with
  | .mirror => if s = 0 then decide (gt w 0 < 0) else decide (gt w s < gt w (s - 1))
  | .ring => if s = w.length - 1 then decide (gt w 0 + w.length < gt w s) else decide (gt w (s + 1) < gt w s)
  | .plain => decide (gt w (s + 1) < gt w s)
/-- how many steps -/
def nst (k : Kd) (n : Nat) : Int := match k with
  | .plain => (n : Int) - 1
  | _ => n
def swp (w : List Int) (i : Int) : List Int := (w.set i.toNat (gt w (i + 1))).set (i + 1).toNat (gt w i)
def stp (k : Kd) (w : List Int) (s : Int) : List Int := match k with
  | .mirror => if s = 0 then w.set 0 (-gt w 0) else swp w (s - 1)
  | .ring => if s = w.length - 1 then (w.set 0 (gt w s - w.length)).set s.toNat (gt w 0 + w.length) else swp w s
  | .plain => swp w s
def sg (p : Int) : Int := if 0 < p then 1 else -1
def itm (k : Kd) (w : List Int) (p : Int) : Int := match k with
  | .mirror => gt w ((if 0 ≤ p then p else -p) - 1) * sg p
  | _ => gt w (p % w.length) + p - p % w.length
/-- a place that has an item -/
def plc (k : Kd) (n : Nat) (p : Int) : Prop := match k with
  | .mirror => p ≠ 0 ∧ -(n : Int) ≤ p ∧ p ≤ n
  | _ => 0 < n
/-- all items small -/
def sml (w : List Int) : Prop := ∀ i, -1000 < gt w i ∧ gt w i < 1000
/-- the places of an order's window, the items of one there, put together -/
def prd (k : Kd) (u v : List Int) : List Int := v.map (itm k u)
/-- 0, 1, .. -/
def ups (n : Nat) : List Int := (List.range n).map fun i : Nat => (i : Int)
/-- the crossed steps -/
def fls (k : Kd) (w : List Int) : List Int := (ups (nst k w.length).toNat).filter (xd k w)
def oix (k : Kd) (n : Nat) (x : Int) : Int := match k with
  | .mirror => (if 0 ≤ x then x else -x) - 1
  | _ => x % n
def ovl (k : Kd) (n : Nat) (i : Nat) (x : Int) : Int := match k with
  | .mirror => ((i : Int) + 1) * sg x
  | _ => (i : Int) - (x - x % n)
def opL (k : Kd) (n : Nat) : Nat → List Int → List Int → List Int
  | _, [], f => f
  | i, x :: xs, f => opL k n (i + 1) xs (f.set (oix k n x).toNat (ovl k n i x))
def opp (k : Kd) (w : List Int) : List Int := opL k w.length 0 w (List.replicate w.length 0)
/-- the start's window -/
def stW (k : Kd) (n : Nat) : List Int := (List.range n).map fun i : Nat => st0 k + i
/-- s put ahead -/
def ahd (k : Kd) (w : List Int) (s : Int) : List Int := prd k (stp k (stW k w.length) s) w
/-- how often two items are crossed -/
def cb (k : Kd) (n : Nat) (lo hi : Int) : Int := match k with
  | .ring => if 0 ≤ (hi - lo) / n then (hi - lo) / n else -((hi - lo) / n)
  | .mirror => (if hi < lo then 1 else 0) + (if lo + hi < 0 then 1 else 0)
  | .plain => if hi < lo then 1 else 0
def ng (k : Kd) (x : Int) : Int := if k = .mirror ∧ x < 0 then 1 else 0
def crG (k : Kd) (c : Int → Int → Int) : List Int → Int → Int
  | [], a => a
  | x :: xs, a => crG k c xs (xs.foldl (fun a y => a + c x y) a + ng k x)
def crs (k : Kd) (w : List Int) : Int := crG k (cb k w.length) w 0
end M
/-! P1: sums, windows, validity, crossings by steps. -/
namespace M
def sm : List Int → Int
  | [] => 0
  | x :: xs => x + sm xs
theorem sm_app : ∀ a b : List Int, sm (a ++ b) = sm a + sm b
  | [], b => by simp [sm]
  | x :: a, b => by simp only [List.cons_append, sm, sm_app a b]; omega
theorem sm_perm {a b : List Int} (h : a.Perm b) : sm a = sm b := by
  induction h with
  | nil => rfl
  | cons x _ ih => simp only [sm, ih]
  | swap x y l => simp only [sm]; omega
  | trans _ _ h1 h2 => rw [h1, h2]
theorem foldl_add {c : Int → Int} : ∀ (l : List Int) (a : Int), l.foldl (fun a y => a + c y) a = a + sm (l.map c)
  | [], a => by simp [sm]
  | x :: l, a => by rw [List.foldl_cons, foldl_add l, List.map_cons, sm]; omega
/-- the sum over the pairs -/
def ps (c : Int → Int → Int) : List Int → Int
  | [] => 0
  | x :: xs => sm (xs.map (c x)) + ps c xs
theorem crG_eq (k : Kd) (c : Int → Int → Int) : ∀ (l : List Int) (a : Int), crG k c l a = a + ps c l + sm (l.map (ng k))
  | [], a => by simp [crG, ps, sm]
  | x :: l, a => by rw [crG, crG_eq k c l, foldl_add, ps, List.map_cons, sm]; omega
theorem crs_eq (k : Kd) (w : List Int) : crs k w = ps (cb k w.length) w + sm (w.map (ng k)) := by
  rw [crs, crG_eq]; omega
theorem ps_swap (c : Int → Int → Int) (a b : Int) (v : List Int) : ∀ u : List Int, ps c (u ++ b :: a :: v) + c a b = ps c (u ++ a :: b :: v) + c b a
  | [] => by simp only [List.nil_append, ps, List.map_cons, sm]; omega
  | x :: u => by
    have ih := ps_swap c a b v u
    have hp : sm ((u ++ b :: a :: v).map (c x)) = sm ((u ++ a :: b :: v).map (c x)) := sm_perm (List.Perm.map _ (List.Perm.append_left u (List.Perm.swap a b v)))
    simp only [List.cons_append, ps]
    omega
theorem ps_snoc (c : Int → Int → Int) (b : Int) : ∀ u : List Int, ps c (u ++ [b]) = ps c u + sm (u.map fun y => c y b)
  | [] => by simp [ps, sm]
  | x :: u => by
    simp only [List.cons_append, ps, List.map_append, sm_app, ps_snoc c b u, List.map_cons, List.map_nil, sm]
    omega
/-! ### getting and setting -/
theorem gt_nat (w : List Int) (i : Nat) : gt w (i : Int) = w.getD i 0 := by simp [gt]
theorem swp_eq {w : List Int} {i : Nat} (h : i + 1 < w.length) : ∃ u v, u.length = i ∧ w = u ++ gt w i :: gt w (i + 1 : Nat) :: v ∧ swp w i = u ++ gt w (i + 1 : Nat) :: gt w i :: v := by
  refine ⟨w.take i, w.drop (i + 2), by rw [List.length_take]; omega, ?_, ?_⟩
  · have e1 := List.take_append_drop i w
    have e2 : w.drop i = w[i] :: w.drop (i + 1) := List.drop_eq_getElem_cons (by omega)
    have e3 : w.drop (i + 1) = w[i + 1] :: w.drop (i + 2) := List.drop_eq_getElem_cons (by omega)
    rw [gt_nat, gt_nat, List.getD_eq_getElem?_getD, List.getD_eq_getElem?_getD, List.getElem?_eq_getElem h, List.getElem?_eq_getElem (by omega : i < w.length), Option.getD_some, Option.getD_some]
    rw [← e3, ← e2, e1]
  · unfold swp
    have en : ((i : Int) + 1) = ((i + 1 : Nat) : Int) := by omega
    rw [en, gt_nat, gt_nat, Int.toNat_natCast, Int.toNat_natCast]
    refine List.ext_getElem? fun j => ?_
    rw [List.getElem?_set, List.getElem?_set, List.length_set]
    rw [List.getElem?_append, List.length_take, Nat.min_eq_left (by omega)]
    by_cases h1 : i + 1 = j
    · subst h1
      rw [if_pos rfl, if_pos h, if_neg (by omega), show i + 1 - i = 1 by omega]
      rfl
    · rw [if_neg h1]
      by_cases h2 : i = j
      · subst h2
        rw [if_pos rfl, if_pos (by omega), if_neg (by omega), Nat.sub_self]
        rfl
      · rw [if_neg h2]
        by_cases h3 : j < i
        · rw [if_pos h3, List.getElem?_take, if_pos h3]
        · rw [if_neg h3]
          obtain ⟨m, rfl⟩ : ∃ m, j = i + 2 + m := ⟨j - (i + 2), by omega⟩
          rw [show i + 2 + m - i = m + 2 by omega]
          simp [List.getElem?_drop]
theorem gt_app_l {u v : List Int} {i : Nat} (h : i < u.length) : gt (u ++ v) i = gt u i := by
  rw [gt_nat, gt_nat, List.getD_eq_getElem?_getD, List.getD_eq_getElem?_getD, List.getElem?_append_left h]
theorem gt_app_r {u v : List Int} {i : Nat} : gt (u ++ v) (u.length + i : Nat) = gt v i := by
  rw [gt_nat, gt_nat, List.getD_eq_getElem?_getD, List.getD_eq_getElem?_getD, List.getElem?_append_right (by omega), Nat.add_sub_cancel_left]
theorem gt_mem {w : List Int} {i : Nat} (h : i < w.length) : gt w i ∈ w := by
  rw [gt_nat, List.getD_eq_getElem?_getD, List.getElem?_eq_getElem h, Option.getD_some]
  exact List.getElem_mem h
theorem mem_gt {w : List Int} {x : Int} (h : x ∈ w) : ∃ i : Nat, i < w.length ∧ gt w i = x := by
  obtain ⟨i, hi, e⟩ := List.getElem_of_mem h
  exact ⟨i, hi, by rw [gt_nat, List.getD_eq_getElem?_getD, List.getElem?_eq_getElem hi, Option.getD_some, e]⟩
theorem ext_gt {u v : List Int} (hl : u.length = v.length) (h : ∀ i : Nat, i < u.length → gt u i = gt v i) : u = v := by
  refine List.ext_getElem hl fun i h1 h2 => ?_
  have := h i h1
  rw [gt_nat, gt_nat, List.getD_eq_getElem?_getD, List.getD_eq_getElem?_getD, List.getElem?_eq_getElem h1, List.getElem?_eq_getElem h2] at this
  exact this
theorem gt_set {w : List Int} {i j : Nat} {x : Int} (h : i < w.length) : gt (w.set i x) j = if i = j then x else gt w j := by
  rw [gt_nat, gt_nat, List.getD_eq_getElem?_getD, List.getD_eq_getElem?_getD, List.getElem?_set]
  by_cases e : i = j
  · rw [if_pos e, if_pos e, if_pos h]; rfl
  · rw [if_neg e, if_neg e]
theorem gt_map {w : List Int} {f : Int → Int} {i : Nat} (h : i < w.length) : gt (w.map f) i = f (gt w i) := by
  rw [gt_nat, gt_nat, List.getD_eq_getElem?_getD, List.getD_eq_getElem?_getD, List.getElem?_map, List.getElem?_eq_getElem h]
  rfl
/-- a window of two or more, its two ends -/
theorem ends_eq {w : List Int} {n : Nat} (h : w.length = n + 2) : ∃ m, w = gt w 0 :: (m ++ [gt w (n + 1 : Nat)]) ∧ ∀ x y, (w.set 0 x).set (n + 1) y = x :: (m ++ [y]) := by
  cases w with
  | nil => cases h
  | cons a t =>
    have ht : t.length = n + 1 := by simpa using h
    have hne : t ≠ [] := by intro e; rw [e] at ht; cases ht
    have e1 : t.dropLast ++ [t.getLast hne] = t := List.dropLast_concat_getLast hne
    have e2 : gt (a :: t) (n + 1 : Nat) = t.getLast hne := by
      rw [gt_nat, List.getD_eq_getElem?_getD, List.getElem?_cons_succ, List.getLast_eq_getElem, List.getElem?_eq_getElem (by omega), Option.getD_some]
      congr 1
      omega
    refine ⟨t.dropLast, ?_, fun x y => ?_⟩
    · rw [e2, e1]; rfl
    · rw [List.set_cons_zero, List.set_cons_succ]
      congr 1
      have hd : t.dropLast.length = n := by rw [List.length_dropLast]; omega
      conv => lhs; rw [← e1]
      rw [List.set_append_right _ _ (by omega), hd, Nat.sub_self]
      rfl
end M
/-! P2: valid windows; a step keeps them, changes the crossings by one. -/
namespace M
theorem len_ups (n : Nat) : (ups n).length = n := by unfold ups; rw [List.length_map, List.length_range]
theorem mem_ups {n : Nat} {i : Int} : i ∈ ups n ↔ 0 ≤ i ∧ i < n := by
  unfold ups
  rw [List.mem_map]
  constructor
  · rintro ⟨j, hj, rfl⟩
    rw [List.mem_range] at hj
    omega
  · rintro ⟨h0, h1⟩
    exact ⟨i.toNat, List.mem_range.mpr (by omega), by omega⟩
theorem ups_nodup (n : Nat) : (ups n).Nodup := by
  unfold ups
  refine List.pairwise_map.mpr (List.Pairwise.imp (fun h e => h ?_) (List.nodup_range (n := n)))
  omega
theorem stW_len (k : Kd) (n : Nat) : (stW k n).length = n := by unfold stW; rw [List.length_map, List.length_range]
theorem gt_stW {k : Kd} {n i : Nat} (h : i < n) : gt (stW k n) i = st0 k + i := by
  rw [gt_nat, List.getD_eq_getElem?_getD, stW, List.getElem?_map, List.getElem?_range h]
  rfl
theorem stp_len (k : Kd) (w : List Int) (s : Int) : (stp k w s).length = w.length := by
  cases k with
  | plain => simp [stp, swp]
  | mirror => by_cases h : s = 0 <;> simp [stp, swp, h]
  | ring => by_cases h : s = (w.length : Int) - 1 <;> simp [stp, swp, h]
/-- a valid window -/
structure Vd (k : Kd) (n : Nat) (w : List Int) : Prop where
  len : w.length = n
  res : (w.map (oix k n)).Perm (ups n)
  pl : k = .plain → ∀ x ∈ w, 0 ≤ x ∧ x < n
  mi : k = .mirror → ∀ x ∈ w, x ≠ 0
  ri : k = .ring → sm w = sm (stW k n)
/-- a step of a kind -/
def isS (k : Kd) (n : Nat) (s : Int) : Prop := 0 ≤ s ∧ s < nst k n
theorem Vd.dist {k : Kd} {n : Nat} {w : List Int} (h : Vd k n w) {i j : Nat} (hi : i < n) (hj : j < n) (e : oix k n (gt w i) = oix k n (gt w j)) : i = j := by
  have nd : (w.map (oix k n)).Nodup := h.res.nodup_iff.mpr (ups_nodup n)
  have l := h.len
  rw [gt_nat, gt_nat, List.getD_eq_getElem?_getD, List.getD_eq_getElem?_getD, List.getElem?_eq_getElem (by omega), List.getElem?_eq_getElem (by omega), Option.getD_some, Option.getD_some] at e
  have nd := List.pairwise_iff_getElem.mp nd
  rcases Nat.lt_trichotomy i j with h1 | h1 | h1
  · exact absurd (by rw [List.getElem_map, List.getElem_map]; exact e) (nd i j (by rw [List.length_map]; omega) (by rw [List.length_map]; omega) h1)
  · exact h1
  · exact absurd (by rw [List.getElem_map, List.getElem_map]; exact e.symm) (nd j i (by rw [List.length_map]; omega) (by rw [List.length_map]; omega) h1)
theorem Vd.rng {k : Kd} {n : Nat} {w : List Int} (h : Vd k n w) {x : Int} (hx : x ∈ w) : 0 ≤ oix k n x ∧ oix k n x < n :=
  mem_ups.mp (h.res.mem_iff.mp (List.mem_map.mpr ⟨x, hx, rfl⟩))
theorem sm_congr {f g : Int → Int} : ∀ {l : List Int}, (∀ x ∈ l, f x = g x) → sm (l.map f) = sm (l.map g)
  | [], _ => rfl
  | x :: l, h => by
    rw [List.map_cons, List.map_cons, sm, sm, h x (List.mem_cons_self ..), sm_congr fun y m => h y (List.mem_cons_of_mem _ m)]
theorem add_emod_self' (a n : Int) : (a + n) % n = a % n := Int.add_emod_right a n
theorem sub_emod_self' (a n : Int) : (a - n) % n = a % n := by
  have := Int.add_emod_right (a - n) n
  rw [show a - n + n = a by omega] at this
  exact this.symm
theorem ediv_neg_of {x n : Int} (hn : 0 < n) (h : x % n ≠ 0) : (-x) / n = -(x / n) - 1 := by
  have h1 := Int.mul_ediv_add_emod x n
  have h2 := Int.emod_nonneg x (Int.ne_of_gt hn)
  have h3 := Int.emod_lt_of_pos x hn
  have h4 := Int.mul_ediv_add_emod (-x) n
  have h5 := Int.emod_nonneg (-x) (Int.ne_of_gt hn)
  have h6 := Int.emod_lt_of_pos (-x) hn
  have e : n * ((-x) / n + x / n + 1) = n - x % n - (-x) % n := by
    rw [Int.mul_add, Int.mul_add]; omega
  have hlt : n * ((-x) / n + x / n + 1) < n * 1 := by omega
  have hgt : n * (-1) < n * ((-x) / n + x / n + 1) := by omega
  have a := Int.lt_of_mul_lt_mul_left hlt (Int.le_of_lt hn)
  have b := Int.lt_of_mul_lt_mul_left hgt (Int.le_of_lt hn)
  omega
theorem Vd.apart {k : Kd} {n : Nat} {w : List Int} (h : Vd k n w) {i j : Nat} (hi : i < n) (hj : j < n) (ij : i ≠ j) : (k ≠ .mirror → (gt w j - gt w i) % n ≠ 0) ∧ (k = .mirror → gt w i ≠ gt w j ∧ gt w i ≠ - gt w j) := by
  refine ⟨fun hk e => ij (h.dist hi hj ?_), fun hk => ⟨fun e => ij (h.dist hi hj (by rw [e])), fun e => ij (h.dist hi hj ?_)⟩⟩
  · cases k with
    | mirror => exact absurd rfl hk
    | plain =>
      show gt w i % n = gt w j % n
      exact (Int.emod_eq_emod_iff_emod_sub_eq_zero.mpr e).symm
    | ring =>
      show gt w i % n = gt w j % n
      exact (Int.emod_eq_emod_iff_emod_sub_eq_zero.mpr e).symm
  · subst hk
    show (if 0 ≤ gt w i then gt w i else - gt w i) - 1 = (if 0 ≤ gt w j then gt w j else - gt w j) - 1
    rw [e]
    split <;> split <;> omega
theorem Vd_start (k : Kd) (n : Nat) : Vd k n (stW k n) := by
  refine ⟨stW_len k n, ?_, fun e x hx => ?_, fun e x hx => ?_, fun e => rfl⟩
  · have : (stW k n).map (oix k n) = ups n := by
      unfold stW ups
      rw [List.map_map]
      refine List.map_congr_left fun i hi => ?_
      have hi := List.mem_range.mp hi
      cases k with
      | mirror =>
        show (if 0 ≤ (1 : Int) + i then (1 : Int) + i else -(1 + i)) - 1 = i
        rw [if_pos (by omega)]; omega
      | plain =>
        show ((0 : Int) + i) % n = i
        rw [Int.zero_add]
        exact Int.emod_eq_of_lt (by omega) (by omega)
      | ring =>
        show ((0 : Int) + i) % n = i
        rw [Int.zero_add]
        exact Int.emod_eq_of_lt (by omega) (by omega)
    rw [this]
  · subst e
    obtain ⟨i, hi, rfl⟩ := List.mem_map.mp hx
    have hi := List.mem_range.mp hi
    show 0 ≤ (0 : Int) + i ∧ (0 : Int) + i < n
    omega
  · subst e
    obtain ⟨i, hi, rfl⟩ := List.mem_map.mp hx
    show (1 : Int) + i ≠ 0
    omega
/-- what a step does to a window: it changes two neighbours; at the ends of a ring, with a shift; or the sign of the first -/
inductive Sk (k : Kd) (n : Nat) (w : List Int) (s : Int) : Prop
  | swap (u v : List Int) (i : Nat) (hi : i + 1 < n) (hs : s = i + st0 k) (hw : w = u ++ gt w i :: gt w (i + 1 : Nat) :: v) (e : stp k w s = u ++ gt w (i + 1 : Nat) :: gt w i :: v) (hx : xd k w s = decide (gt w (i + 1 : Nat) < gt w i))
  | wrap (m : List Int) (q : Nat) (hk : k = .ring) (hn : n = q + 2) (hs : s = n - 1) (hw : w = gt w 0 :: (m ++ [gt w (q + 1 : Nat)])) (e : stp k w s = (gt w (q + 1 : Nat) - n) :: (m ++ [gt w 0 + n])) (hx : xd k w s = decide (gt w 0 + n < gt w (q + 1 : Nat)))
  | sign (v : List Int) (hk : k = .mirror) (hn : 0 < n) (hs : s = 0) (hw : w = gt w 0 :: v) (e : stp k w s = (- gt w 0) :: v) (hx : xd k w s = decide (gt w 0 < 0))
theorem sk_of {k : Kd} {n : Nat} {w : List Int} {s : Int} (hl : w.length = n) (hs : isS k n s) (h2 : k = .ring → 2 ≤ n) : Sk k n w s := by
  obtain ⟨h0, h1⟩ := hs
  have sw : ∀ i : Nat, i + 1 < n → s = i + st0 k → stp k w s = swp w i → xd k w s = decide (gt w (i + 1 : Nat) < gt w i) → Sk k n w s := by
    intro i hi e1 e2 e3
    obtain ⟨u, v, _, a, b⟩ := swp_eq (w := w) (i := i) (by omega)
    exact .swap u v i hi e1 a (by rw [e2, b]) e3
  cases k with
  | plain =>
    have h1 : s < (n : Int) - 1 := h1
    obtain ⟨i, rfl⟩ : ∃ i : Nat, s = i := ⟨s.toNat, by omega⟩
    exact sw i (by omega) (by show (i : Int) = i + 0; omega) rfl rfl
  | mirror =>
    have h1 : s < (n : Int) := h1
    by_cases hz : s = 0
    · cases w with
      | nil => simp at hl; omega
      | cons a v =>
        refine .sign v rfl (by omega) hz rfl ?_ ?_
        · subst hz; rfl
        · subst hz; rfl
    · obtain ⟨i, rfl⟩ : ∃ i : Nat, s = i + 1 := ⟨(s - 1).toNat, by omega⟩
      refine sw i (by omega) rfl ?_ ?_
      · show (if (i : Int) + 1 = 0 then w.set 0 (-gt w 0) else swp w ((i : Int) + 1 - 1)) = _
        rw [if_neg hz, Int.add_sub_cancel]
      · show (if (i : Int) + 1 = 0 then decide (gt w 0 < 0) else decide (gt w ((i : Int) + 1) < gt w ((i : Int) + 1 - 1))) = _
        rw [if_neg hz, Int.add_sub_cancel]
        rfl
  | ring =>
    have h1 : s < (n : Int) := h1
    have h2 := h2 rfl
    by_cases hz : s = (n : Int) - 1
    · obtain ⟨q, rfl⟩ : ∃ q, n = q + 2 := ⟨n - 2, by omega⟩
      obtain ⟨m, e1, e2⟩ := ends_eq hl
      have es : s = ((q + 1 : Nat) : Int) := by omega
      refine .wrap m q rfl rfl hz e1 ?_ ?_
      · show (if s = (w.length : Int) - 1 then (w.set 0 (gt w s - w.length)).set s.toNat (gt w 0 + w.length) else swp w s) = _
        rw [hl, if_pos hz, es, Int.toNat_natCast, e2]
      · show (if s = (w.length : Int) - 1 then decide (gt w 0 + w.length < gt w s) else decide (gt w (s + 1) < gt w s)) = _
        rw [hl, if_pos hz, es]
    · obtain ⟨i, rfl⟩ : ∃ i : Nat, s = i := ⟨s.toNat, by omega⟩
      refine sw i (by omega) (by show (i : Int) = i + 0; omega) ?_ ?_
      · show (if (i : Int) = (w.length : Int) - 1 then _ else swp w i) = _
        rw [hl, if_neg hz]
      · show (if (i : Int) = (w.length : Int) - 1 then _ else decide (gt w ((i : Int) + 1) < gt w i)) = _
        rw [hl, if_neg hz]
        rfl
theorem Vd_stp {k : Kd} {n : Nat} {w : List Int} {s : Int} (h : Vd k n w) (hs : isS k n s) (h2 : k = .ring → 2 ≤ n) : Vd k n (stp k w s) := by
  have hl : (stp k w s).length = n := by rw [stp_len, h.len]
  rcases sk_of h.len hs h2 with ⟨u, v, i, hi, es, hw, e, _⟩ | ⟨m, q, rfl, hn, es, hw, e, _⟩ | ⟨v, rfl, hn, es, hw, e, _⟩
  · have p : (stp k w s).Perm w := by
      rw [e]
      conv => rhs; rw [hw]
      exact List.Perm.append_left u (List.Perm.swap ..)
    exact ⟨hl, (p.map _).trans h.res, fun hk x hx => h.pl hk x (p.mem_iff.mp hx), fun hk x hx => h.mi hk x (p.mem_iff.mp hx), fun hk => (sm_perm p).trans (h.ri hk)⟩
  · refine ⟨hl, ?_, (fun hk => by cases hk), (fun hk => by cases hk), fun _ => ?_⟩
    · refine List.Perm.trans ?_ h.res
      rw [e]
      conv => rhs; rw [hw]
      simp only [List.map_cons, List.map_append, List.map_nil]
      have e1 : oix .ring n (gt w (q + 1 : Nat) - n) = oix .ring n (gt w (q + 1 : Nat)) := sub_emod_self' _ _
      have e2 : oix .ring n (gt w 0 + n) = oix .ring n (gt w 0) := add_emod_self' _ _
      rw [e1, e2]
      exact ((List.perm_append_singleton _ _).cons _).trans ((List.Perm.swap _ _ _).trans ((List.perm_append_singleton _ _).symm.cons _))
    · rw [← h.ri rfl, e]
      conv => rhs; rw [hw]
      simp only [sm, sm_app]
      omega
  · refine ⟨hl, ?_, (fun hk => by cases hk), fun hk x hx => ?_, (fun hk => by cases hk)⟩
    · refine List.Perm.trans ?_ h.res
      rw [e]
      conv => rhs; rw [hw]
      have e1 : oix .mirror n (- gt w 0) = oix .mirror n (gt w 0) := by
        show (if 0 ≤ - gt w 0 then - gt w 0 else - - gt w 0) - 1 = (if 0 ≤ gt w 0 then gt w 0 else - gt w 0) - 1
        split <;> split <;> omega
      rw [List.map_cons, e1, List.map_cons]
    · rw [e] at hx
      rcases List.mem_cons.mp hx with rfl | hx
      · have := h.mi rfl (gt w 0) (gt_mem (i := 0) (by rw [h.len]; exact hn))
        omega
      · exact h.mi rfl x (by rw [hw]; exact List.mem_cons_of_mem _ hx)
theorem crs_stp {k : Kd} {n : Nat} {w : List Int} {s : Int} (h : Vd k n w) (hs : isS k n s) (h2 : k = .ring → 2 ≤ n) : crs k (stp k w s) = crs k w + if xd k w s then -1 else 1 := by
  rw [crs_eq, crs_eq, stp_len, h.len]
  rcases sk_of h.len hs h2 with ⟨u, v, i, hi, es, hw, e, hx⟩ | ⟨m, q, rfl, hn, es, hw, e, hx⟩ | ⟨v, rfl, hn, es, hw, e, hx⟩
  · have p : (stp k w s).Perm w := by
      rw [e]
      conv => rhs; rw [hw]
      exact List.Perm.append_left u (List.Perm.swap ..)
    rw [sm_perm (p.map (ng k)), e, hx]
    obtain ⟨a1, a2⟩ := h.apart (i := i) (j := i + 1) (by omega) (by omega) (by omega)
    have hp := ps_swap (cb k n) (gt w i) (gt w (i + 1 : Nat)) v u
    rw [← hw] at hp
    generalize gt w i = a at *
    generalize gt w (i + 1 : Nat) = b at *
    have key : cb k n b a = cb k n a b + if decide (b < a) = true then -1 else 1 := by
      cases k with
      | plain =>
        have : a ≠ b := fun z => a1 (by simp) (by rw [z, Int.sub_self, Int.zero_emod])
        simp only [cb, decide_eq_true_eq]
        split <;> split <;> omega
      | mirror =>
        obtain ⟨b1, b2⟩ := a2 rfl
        simp only [cb, decide_eq_true_eq]
        rw [Int.add_comm b a]
        split <;> split <;> split <;> omega
      | ring =>
        have hn : (0 : Int) < n := by omega
        have a1 := a1 (by simp)
        have ed := ediv_neg_of hn a1
        rw [show -(b - a) = a - b by omega] at ed
        have hne : a ≠ b := fun z => a1 (by rw [z, Int.sub_self, Int.zero_emod])
        have hq : (b - a) / n < 0 ↔ b - a < 0 * n := Int.ediv_lt_iff_lt_mul hn
        simp only [cb, decide_eq_true_eq]
        rw [ed]
        split <;> split <;> split <;> omega
    omega
  · obtain ⟨a1, _⟩ := h.apart (i := 0) (j := q + 1) (by omega) (by omega) (by omega)
    have a1 := a1 (by simp)
    have z1 : ∀ l : List Int, sm (l.map (ng .ring)) = 0 := by
      intro l
      induction l with
      | nil => rfl
      | cons x l ih => rw [List.map_cons, sm, ih]; rfl
    rw [z1, z1, e, hx]
    have hw' : ps (cb .ring n) w = ps (cb .ring n) (gt w 0 :: (m ++ [gt w (q + 1 : Nat)])) := by conv => lhs; rw [hw]
    rw [hw']
    have hn0 : (0 : Int) < n := by omega
    simp only [ps, ps_snoc, List.map_append, List.map_cons, List.map_nil, sm_app, sm]
    generalize gt w (q + 1 : Nat) = b at *
    have a1 : (b - gt w 0) % n ≠ 0 := a1
    generalize gt w 0 = a at *
    have e1 : sm (m.map (cb .ring n (b - n))) = sm (m.map fun y => cb .ring n y b) := by
      refine sm_congr fun y hy => ?_
      obtain ⟨j, hj, ej⟩ := mem_gt hy
      have hyb : (b - y) % n ≠ 0 := by
        have hw2 : gt w (j + 1 : Nat) = y := by
          rw [hw, show ((j + 1 : Nat) : Int) = ((j + 1 : Nat) : Int) from rfl, gt_nat, List.getD_eq_getElem?_getD, List.getElem?_cons_succ, List.getElem?_append_left hj, ← List.getD_eq_getElem?_getD, ← gt_nat, ej]
        have hm : m.length = q := by
          have := congrArg List.length hw
          rw [h.len, List.length_cons, List.length_append, List.length_singleton] at this
          omega
        have hb2 : gt w (q + 1 : Nat) = b := by
          rw [hw, gt_nat, List.getD_eq_getElem?_getD, List.getElem?_cons_succ, List.getElem?_append_right (by omega), hm, Nat.sub_self]
          rfl
        have := (h.apart (i := j + 1) (j := q + 1) (by omega) (by omega) (by omega)).1 (by simp)
        rw [hw2, hb2] at this
        exact this
      have ed := ediv_neg_of hn0 hyb
      have e3 : (y - (b - n)) / n = -((b - y) / n) := by
        rw [show y - (b - n) = -(b - y) + n * 1 by omega, Int.add_mul_ediv_left _ _ (by omega), ed]
        omega
      simp only [cb]
      rw [e3]
      split <;> split <;> omega
    have e2 : sm (m.map fun y => cb .ring n y (a + n)) = sm (m.map (cb .ring n a)) := by
      refine sm_congr fun y hy => ?_
      obtain ⟨j, hj, ej⟩ := mem_gt hy
      have hya : (y - a) % n ≠ 0 := by
        have hw2 : gt w (j + 1 : Nat) = y := by
          rw [hw, gt_nat, List.getD_eq_getElem?_getD, List.getElem?_cons_succ, List.getElem?_append_left hj, ← List.getD_eq_getElem?_getD, ← gt_nat, ej]
        have hm : m.length = q := by
          have := congrArg List.length hw
          rw [h.len, List.length_cons, List.length_append, List.length_singleton] at this
          omega
        have ha2 : gt w (0 : Nat) = a := by
          rw [hw]
          rfl
        have := (h.apart (i := 0) (j := j + 1) (by omega) (by omega) (by omega)).1 (by simp)
        rw [hw2, ha2] at this
        exact this
      have ed := ediv_neg_of hn0 hya
      have e3 : (a + n - y) / n = -((y - a) / n) := by
        rw [show a + n - y = -(y - a) + n * 1 by omega, Int.add_mul_ediv_left _ _ (by omega), ed]
        omega
      simp only [cb]
      rw [e3]
      split <;> split <;> omega
    rw [e1, e2]
    have ed := ediv_neg_of hn0 a1
    have e3 : (a + n - (b - n)) / n = -((b - a) / n) + 1 := by
      rw [show a + n - (b - n) = -(b - a) + n * 2 by omega, Int.add_mul_ediv_left _ _ (by omega), ed]
      omega
    have hq : 1 ≤ (b - a) / n ↔ 1 * n ≤ b - a := Int.le_ediv_iff_mul_le hn0
    have hne : b - a ≠ n := fun z => a1 (by rw [z, Int.emod_self])
    have key : cb .ring n (b - n) (a + n) = cb .ring n a b + if decide (a + n < b) = true then -1 else 1 := by
      simp only [cb, decide_eq_true_eq]
      rw [e3]
      split <;> split <;> split <;> omega
    omega
  · have a0 := h.mi rfl (gt w 0) (gt_mem (i := 0) (by rw [h.len]; exact hn))
    have hw' : ps (cb .mirror n) w + sm (w.map (ng .mirror)) = ps (cb .mirror n) (gt w 0 :: v) + sm ((gt w 0 :: v).map (ng .mirror)) := by conv => lhs; rw [hw]
    rw [hw', e, hx]
    simp only [ps, List.map_cons, sm]
    generalize gt w 0 = a at *
    have e1 : sm (v.map (cb .mirror n (-a))) = sm (v.map (cb .mirror n a)) := by
      refine sm_congr fun y hy => ?_
      simp only [cb]
      have q1 : (y < -a) ↔ (a + y < 0) := by omega
      have q2 : (-a + y < 0) ↔ (y < a) := by omega
      simp only [q1, q2]
      split <;> split <;> omega
    rw [e1]
    have key : ng .mirror (-a) = ng .mirror a + if decide (a < 0) = true then -1 else 1 := by
      simp only [ng, decide_eq_true_eq, true_and]
      split <;> split <;> omega
    omega
end M
/-! P3: a window without crossed steps is the start; items behind a step; words. -/
namespace M
theorem chain {w : List Int} {n : Nat} (h : ∀ i : Nat, i + 1 < n → gt w i < gt w (i + 1 : Nat)) : ∀ (j i : Nat), i + j < n → gt w i + j ≤ gt w (i + j : Nat)
  | 0, i, _ => by simp
  | j + 1, i, hi => by
    have a := chain h j i (by omega)
    have b := h (i + j) (by omega)
    rw [show i + (j + 1) = i + j + 1 by omega]
    omega
theorem sm_addc (a : Int) : ∀ l : List Int, sm (l.map fun x => a + x) = l.length * a + sm l
  | [] => by simp [sm]
  | x :: l => by
    rw [List.map_cons, sm, sm, sm_addc a l, List.length_cons]
    have : ((l.length + 1 : Nat) : Int) * a = l.length * a + a := by rw [Int.natCast_add, Int.add_mul]; simp
    omega
theorem start_of {k : Kd} {n : Nat} {w : List Int} (h : Vd k n w) (h1 : 1 ≤ n) (h2 : k = .ring → 2 ≤ n) (hx : ∀ s, isS k n s → xd k w s = false) : w = stW k n := by
  have hc : ∀ i : Nat, i + 1 < n → gt w i < gt w (i + 1 : Nat) := by
    intro i hi
    have hs : isS k n (i + st0 k) := by
      refine ⟨by unfold st0; split <;> omega, ?_⟩
      cases k with
      | plain => show (i : Int) + 0 < (n : Int) - 1; omega
      | mirror => show (i : Int) + 1 < (n : Int); omega
      | ring => show (i : Int) + 0 < (n : Int); omega
    have hx := hx _ hs
    rcases sk_of h.len hs h2 with ⟨u, v, j, hj, es, hw, e, hxx⟩ | ⟨m, q, rfl, hn, es, hw, e, hxx⟩ | ⟨v, rfl, hn, es, hw, e, hxx⟩
    · have : j = i := by omega
      subst this
      rw [hxx] at hx
      have ha := h.apart (i := j) (j := j + 1) (by omega) (by omega) (by omega)
      have hle : gt w j ≤ gt w (j + 1 : Nat) := by
        have := of_decide_eq_false hx
        omega
      have hne : gt w j ≠ gt w (j + 1 : Nat) := by
        intro z
        cases hk : k with
        | mirror => exact (ha.2 hk).1 z
        | plain => exact ha.1 (by rw [hk]; simp) (by rw [z, Int.sub_self, Int.zero_emod])
        | ring => exact ha.1 (by rw [hk]; simp) (by rw [z, Int.sub_self, Int.zero_emod])
      omega
    · have : (i : Int) + 0 = n - 1 := es
      omega
    · have : (i : Int) + 1 = 0 := es
      omega
  have hch := chain hc
  have lst := gt_mem (w := w) (i := n - 1) (by rw [h.len]; omega)
  have fst := gt_mem (w := w) (i := 0) (by rw [h.len]; omega)
  have fin : ∀ a b : Int, gt w (0 : Nat) = a → gt w (n - 1 : Nat) ≤ a + n - 1 → ∀ i : Nat, i < n → gt w i = a + i := by
    intro a b h0 h3 i hi
    have a1 := hch i 0 (by omega)
    have a2 := hch (n - 1 - i) i (by omega)
    rw [show i + (n - 1 - i) = n - 1 by omega] at a2
    rw [Nat.zero_add] at a1
    omega
  refine ext_gt (by rw [h.len, stW_len]) fun i hi => ?_
  rw [h.len] at hi
  rw [gt_stW hi]
  have hl0 := hch (n - 1) 0 (by omega)
  rw [Nat.zero_add] at hl0
  cases k with
  | plain =>
    have b1 := h.pl rfl _ lst
    have b2 := h.pl rfl _ fst
    exact fin 0 0 (by omega) (by omega) i hi
  | mirror =>
    have b1 := h.rng lst
    have b3 : gt w (n - 1 : Nat) ≤ n := by
      have : (if 0 ≤ gt w (n - 1 : Nat) then gt w (n - 1 : Nat) else - gt w (n - 1 : Nat)) - 1 < n := b1.2
      split at this <;> omega
    have hs : isS .mirror n 0 := ⟨by omega, by show (0 : Int) < n; omega⟩
    have b2 : ¬ gt w (0 : Nat) < 0 := of_decide_eq_false (hx 0 hs)
    have b4 := h.mi rfl _ fst
    exact fin 1 0 (by omega) (by omega) i hi
  | ring =>
    have h2 := h2 rfl
    have hs : isS .ring n ((n : Int) - 1) := ⟨by omega, by show (n : Int) - 1 < n; omega⟩
    have b1 : ¬ gt w (0 : Nat) + n < gt w (n - 1 : Nat) := by
      have hxs := hx _ hs
      rcases sk_of h.len hs (fun _ => h2) with ⟨u, v, j, hj, es, hw, e, hxx⟩ | ⟨m, q, _, hn, es, hw, e, hxx⟩ | ⟨v, hk, _⟩
      · have : (n : Int) - 1 = j + 0 := es
        omega
      · rw [hxx] at hxs
        have := of_decide_eq_false hxs
        rw [show n - 1 = q + 1 by omega]
        exact this
      · cases hk
    have b2 := (h.apart (i := 0) (j := n - 1) (by omega) (by omega) (by omega)).1 (by simp)
    have b3 : gt w (n - 1 : Nat) ≠ gt w (0 : Nat) + n := fun z => b2 (by rw [z, show gt w (0 : Nat) + n - gt w (0 : Nat) = (n : Int) by omega, Int.emod_self])
    have f := fin (gt w (0 : Nat)) 0 rfl (by omega)
    have e : w = (stW .ring n).map fun x => gt w (0 : Nat) + x := by
      refine ext_gt (by rw [List.length_map, stW_len, h.len]) fun j hj => ?_
      rw [h.len] at hj
      rw [gt_map (by rw [stW_len]; exact hj), gt_stW hj, f j hj]
      show _ = _ + (0 + (j : Int))
      omega
    have es := h.ri rfl
    rw [e, sm_addc, stW_len] at es
    have : (n : Int) * gt w (0 : Nat) = 0 := by omega
    have : gt w (0 : Nat) = 0 := by
      rcases Int.mul_eq_zero.mp this with z | z
      · omega
      · exact z
    rw [f i hi, this]
    rfl
/-! ### the items behind a step -/
theorem gt_swp {w : List Int} {i j : Nat} (h : i + 1 < w.length) : gt (swp w i) j = if j = i then gt w (i + 1 : Nat) else if j = i + 1 then gt w i else gt w j := by
  unfold swp
  rw [show ((i : Int) + 1) = ((i + 1 : Nat) : Int) by omega, Int.toNat_natCast, Int.toNat_natCast, gt_set (by rw [List.length_set]; exact h), gt_set (by omega)]
  by_cases e1 : j = i
  · rw [if_neg (by omega), if_pos e1.symm, if_pos e1]
  · rw [if_neg e1]
    by_cases e2 : j = i + 1
    · rw [if_pos e2.symm, if_pos e2]
    · rw [if_neg (by omega), if_neg (by omega), if_neg e2]
/-- a place that has an item -/
def pvp (k : Kd) (n : Nat) (p : Int) : Prop := k = .mirror → p ≠ 0 ∧ -(n : Int) ≤ p ∧ p ≤ n
/-- where a step leads a place -/
def trn (k : Kd) (n : Nat) (s p : Int) : Int := match k with
  | .mirror => if s = 0 then (if p = 1 then -1 else if p = -1 then 1 else p) else if p = s then s + 1 else if p = s + 1 then s else if p = -s then -(s + 1) else if p = -(s + 1) then -s else p
  | _ => if p % n = s then p + 1 else if p % n = (s + 1) % n then p - 1 else p
theorem emod_of {r q n : Int} (h0 : 0 ≤ r) (h1 : r < n) : (r + n * q) % n = r := by
  rw [Int.add_mul_emod_self_left]; exact Int.emod_eq_of_lt h0 h1
theorem dm (p : Int) {n : Nat} (h : 1 ≤ n) : ∃ r q : Int, 0 ≤ r ∧ r < n ∧ p = r + n * q :=
  ⟨p % n, p / n, Int.emod_nonneg _ (by omega), Int.emod_lt_of_pos _ (by omega), by have := Int.mul_ediv_add_emod p n; omega⟩
/-- the place one on -/
theorem mod_up {r q n : Int} (h0 : 0 ≤ r) (h1 : r < n) : (r + n * q + 1) % n = if r + 1 = n then 0 else r + 1 := by
  split
  · rename_i h
    have : r + n * q + 1 = 0 + n * (q + 1) := by rw [Int.mul_add]; omega
    rw [this]; exact emod_of (by omega) (by omega)
  · have : r + n * q + 1 = (r + 1) + n * q := by omega
    rw [this]; exact emod_of (by omega) (by omega)
theorem mod_dn {r q n : Int} (h0 : 0 ≤ r) (h1 : r < n) : (r + n * q - 1) % n = if r = 0 then n - 1 else r - 1 := by
  split
  · rename_i h
    have : r + n * q - 1 = (n - 1) + n * (q - 1) := by rw [Int.mul_sub]; omega
    rw [this]; exact emod_of (by omega) (by omega)
  · have : r + n * q - 1 = (r - 1) + n * q := by omega
    rw [this]; exact emod_of (by omega) (by omega)
theorem mod_s1 {s n : Int} (h0 : 0 ≤ s) (h1 : s < n) : (s + 1) % n = if s + 1 = n then 0 else s + 1 := by
  have := mod_up (q := 0) h0 h1
  rw [Int.mul_zero, Int.add_zero] at this
  exact this
theorem pv_trn {k : Kd} {n : Nat} {s p : Int} (hs : isS k n s) (h : pvp k n p) : pvp k n (trn k n s p) := by
  intro hk
  subst hk
  obtain ⟨a, b, c⟩ := h rfl
  obtain ⟨h0, h1⟩ := hs
  have h1 : s < (n : Int) := h1
  simp only [trn]
  repeat' split
  all_goals omega
theorem trn_trn {k : Kd} {n : Nat} {s p : Int} (hs : isS k n s) (h2 : 2 ≤ n ∨ k = .mirror) : trn k n s (trn k n s p) = p := by
  obtain ⟨h0, h1⟩ := hs
  have rg : s < (n : Int) → 2 ≤ n → (fun p => if p % (n : Int) = s then p + 1 else if p % n = (s + 1) % n then p - 1 else p) ((fun p => if p % (n : Int) = s then p + 1 else if p % n = (s + 1) % n then p - 1 else p) p) = p := by
    intro h1 h2
    obtain ⟨r, q, a, b, rfl⟩ := dm p (n := n) (by omega)
    simp only [emod_of a b, mod_s1 h0 h1]
    by_cases e1 : r = s
    · rw [if_pos e1, mod_up a b, e1]
      split <;> split <;> omega
    · rw [if_neg e1]
      by_cases e2 : r = if s + 1 = (n : Int) then 0 else s + 1
      · rw [if_pos e2, mod_dn a b]
        split at e2 <;> split <;> split <;> omega
      · rw [if_neg e2, emod_of a b, if_neg e1, if_neg e2]
  cases k with
  | plain => exact rg (by have : s < (n : Int) - 1 := h1; omega) (by rcases h2 with h | h; exact h; cases h)
  | ring => exact rg h1 (by rcases h2 with h | h; exact h; cases h)
  | mirror =>
    simp only [trn]
    repeat' split
    all_goals omega
theorem itm_stp {k : Kd} {n : Nat} {w : List Int} {s p : Int} (hl : w.length = n) (hs : isS k n s) (h2 : 2 ≤ n ∨ k = .mirror) (hp : pvp k n p) : itm k (stp k w s) p = itm k w (trn k n s p) := by
  obtain ⟨h0, h1⟩ := hs
  have rg : ∀ k', (k' = .plain ∨ k' = .ring) → s < (n : Int) → 2 ≤ n → stp k' w s = (if s = (n : Int) - 1 then (w.set 0 (gt w s - n)).set s.toNat (gt w 0 + n) else swp w s) → gt (stp k' w s) (p % n) + p - p % n = gt w ((if p % (n : Int) = s then p + 1 else if p % n = (s + 1) % n then p - 1 else p) % n) + (if p % (n : Int) = s then p + 1 else if p % n = (s + 1) % n then p - 1 else p) - (if p % (n : Int) = s then p + 1 else if p % n = (s + 1) % n then p - 1 else p) % n := by
    intro k' _ h1 h2 e
    obtain ⟨r, q, a, b, rfl⟩ := dm p (n := n) (by omega)
    obtain ⟨j, rfl⟩ : ∃ j : Nat, r = j := ⟨r.toNat, by omega⟩
    obtain ⟨i, rfl⟩ : ∃ i : Nat, s = i := ⟨s.toNat, by omega⟩
    simp only [emod_of a b, mod_s1 h0 h1]
    rw [e]
    by_cases hz : (i : Int) = (n : Int) - 1
    · rw [if_pos hz, if_pos (show (i : Int) + 1 = n by omega), Int.toNat_natCast, gt_set (by rw [List.length_set]; omega), gt_set (i := 0) (by omega)]
      by_cases e1 : (j : Int) = i
      · rw [if_pos (show i = j by omega), if_pos e1, mod_up a b, if_pos (by omega)]
        omega
      · rw [if_neg (show ¬ i = j by omega), if_neg e1]
        by_cases e2 : (j : Int) = 0
        · rw [if_pos (show 0 = j by omega), if_pos e2, mod_dn a b, if_pos (by omega), ← hz]
          omega
        · rw [if_neg (show ¬ 0 = j by omega), if_neg e2, emod_of a b]
    · rw [if_neg hz, if_neg (show ¬ (i : Int) + 1 = n by omega), gt_swp (by omega)]
      by_cases e1 : (j : Int) = i
      · rw [if_pos (show j = i by omega), if_pos e1, mod_up a b, if_neg (by omega), e1, show ((i : Int) + 1) = ((i + 1 : Nat) : Int) by omega]
        omega
      · rw [if_neg (show ¬ j = i by omega), if_neg e1]
        by_cases e2 : (j : Int) = i + 1
        · rw [if_pos (show j = i + 1 by omega), if_pos e2, mod_dn a b, if_neg (by omega), show (j : Int) - 1 = i by omega]
          omega
        · rw [if_neg (show ¬ j = i + 1 by omega), if_neg e2, emod_of a b]
  cases k with
  | plain =>
    have h1 : s < (n : Int) - 1 := h1
    have h2 : 2 ≤ n := by rcases h2 with h | h; exact h; cases h
    have := rg .plain (.inl rfl) (by omega) h2 (by rw [if_neg (by omega)]; rfl)
    simp only [itm, stp_len, hl, trn]
    exact this
  | ring =>
    have h2 : 2 ≤ n := by rcases h2 with h | h; exact h; cases h
    have := rg .ring (.inr rfl) h1 h2 (by show (if s = (w.length : Int) - 1 then (w.set 0 (gt w s - w.length)).set s.toNat (gt w 0 + w.length) else swp w s) = _; rw [hl])
    simp only [itm, stp_len, hl, trn]
    exact this
  | mirror =>
    have h1 : s < (n : Int) := h1
    obtain ⟨c1, c2, c3⟩ := hp rfl
    have iv : ∀ (x : List Int) (t : Int), itm .mirror x t = gt x ((if 0 ≤ t then t else -t) - 1) * sg t := fun _ _ => rfl
    rw [iv, iv]
    obtain ⟨j, hj⟩ : ∃ j : Nat, (if 0 ≤ p then p else -p) - 1 = j := ⟨((if 0 ≤ p then p else -p) - 1).toNat, by split <;> omega⟩
    have hjn : j < n := by split at hj <;> omega
    by_cases hz : s = 0
    · have e : stp .mirror w s = w.set 0 (- gt w 0) := by show (if s = 0 then _ else _) = _; rw [if_pos hz]
      have ht : trn .mirror n s p = if p = 1 then -1 else if p = -1 then 1 else p := if_pos hz
      generalize trn .mirror n s p = t at ht
      rw [e, hj, gt_set (by omega)]
      by_cases p1 : p = 1
      · subst p1
        rw [if_pos rfl] at ht
        have : j = 0 := by rw [if_pos (by omega)] at hj; omega
        subst this ht
        simp [sg, gt]
      · rw [if_neg p1] at ht
        by_cases p2 : p = -1
        · subst p2
          rw [if_pos rfl] at ht
          have : j = 0 := by rw [if_neg (by omega)] at hj; omega
          subst this ht
          simp [sg, gt]
        · have : j ≠ 0 := by split at hj <;> omega
          rw [if_neg p2] at ht
          rw [if_neg (by omega), ht, hj]
    · obtain ⟨i, rfl⟩ : ∃ i : Nat, s = i + 1 := ⟨(s - 1).toNat, by omega⟩
      have e : stp .mirror w ((i : Int) + 1) = swp w i := by show (if (i : Int) + 1 = 0 then w.set 0 (-gt w 0) else swp w ((i : Int) + 1 - 1)) = _; rw [if_neg hz, Int.add_sub_cancel]
      have ht : trn .mirror n ((i : Int) + 1) p = if p = (i : Int) + 1 then (i : Int) + 1 + 1 else if p = (i : Int) + 1 + 1 then (i : Int) + 1 else if p = -((i : Int) + 1) then -((i : Int) + 1 + 1) else if p = -((i : Int) + 1 + 1) then -((i : Int) + 1) else p := by
        simp only [trn]
        rw [if_neg hz]
      generalize trn .mirror n ((i : Int) + 1) p = t at ht
      rw [e, hj, gt_swp (by omega)]
      by_cases p1 : p = (i : Int) + 1
      · have : j = i := by rw [if_pos (by omega)] at hj; omega
        rw [if_pos p1] at ht
        subst ht
        rw [if_pos this, if_pos (by omega)]
        have s1 : sg p = 1 := if_pos (by omega)
        have s2 : sg ((i : Int) + 1 + 1) = 1 := if_pos (by omega)
        rw [s1, s2, show (i : Int) + 1 + 1 - 1 = ((i + 1 : Nat) : Int) by omega]
      · rw [if_neg p1] at ht
        by_cases p2 : p = (i : Int) + 1 + 1
        · have : j = i + 1 := by rw [if_pos (by omega)] at hj; omega
          rw [if_pos p2] at ht
          subst ht
          rw [if_neg (by omega), if_pos this, if_pos (by omega)]
          have s1 : sg p = 1 := if_pos (by omega)
          have s2 : sg ((i : Int) + 1) = 1 := if_pos (by omega)
          rw [s1, s2, Int.add_sub_cancel]
        · rw [if_neg p2] at ht
          by_cases p3 : p = -((i : Int) + 1)
          · have : j = i := by rw [if_neg (by omega)] at hj; omega
            rw [if_pos p3] at ht
            subst ht
            rw [if_pos this, if_neg (by omega)]
            have s1 : sg p = -1 := if_neg (by omega)
            have s2 : sg (-((i : Int) + 1 + 1)) = -1 := if_neg (by omega)
            rw [s1, s2, show -(-((i : Int) + 1 + 1)) - 1 = ((i + 1 : Nat) : Int) by omega]
          · rw [if_neg p3] at ht
            by_cases p4 : p = -((i : Int) + 1 + 1)
            · have : j = i + 1 := by rw [if_neg (by omega)] at hj; omega
              rw [if_pos p4] at ht
              subst ht
              rw [if_neg (by omega), if_pos this, if_neg (by omega)]
              have s1 : sg p = -1 := if_neg (by omega)
              have s2 : sg (-((i : Int) + 1)) = -1 := if_neg (by omega)
              rw [s1, s2, show -(-((i : Int) + 1)) - 1 = (i : Int) by omega]
            · rw [if_neg p4] at ht
              rw [if_neg (by split at hj <;> omega), if_neg (by split at hj <;> omega), ht, hj]
end M
/-! P4: orders made by rows: products, opposites. -/
namespace M
def gd (k : Kd) (n : Nat) : Prop := 1 ≤ n ∧ (k = .ring → 2 ≤ n)
theorem isS.two {k : Kd} {n : Nat} {s : Int} (h : isS k n s) (g : gd k n) : 2 ≤ n ∨ k = .mirror := by
  obtain ⟨a, b⟩ := h
  cases k with
  | plain => have b : s < (n : Int) - 1 := b; exact .inl (by omega)
  | mirror => exact .inr rfl
  | ring => exact .inl (g.2 rfl)
def mk (k : Kd) (n : Nat) (ss : List Int) : List Int := ss.foldl (stp k) (stW k n)
def isW (k : Kd) (n : Nat) (ss : List Int) : Prop := ∀ s ∈ ss, isS k n s
def twd (k : Kd) (n : Nat) : List Int → Int → Int
  | [], p => p
  | s :: ss, p => trn k n s (twd k n ss p)
section
variable {k : Kd} {n : Nat} {ss tt : List Int} {s p : Int}
theorem mk_snoc : mk k n (ss ++ [s]) = stp k (mk k n ss) s := by unfold mk; rw [List.foldl_append]; rfl
theorem isW.app (h1 : isW k n ss) (h2 : isW k n tt) : isW k n (ss ++ tt) := fun s m => by
  rcases List.mem_append.mp m with m | m
  · exact h1 s m
  · exact h2 s m
theorem isW.left (h : isW k n (ss ++ tt)) : isW k n ss := fun s m => h s (List.mem_append_left _ m)
theorem isW.right (h : isW k n (ss ++ tt)) : isW k n tt := fun s m => h s (List.mem_append_right _ m)
theorem isW.one (h : isS k n s) : isW k n [s] := fun t m => by
  rw [List.mem_singleton] at m; subst m; exact h
theorem isW.cons (h1 : isS k n s) (h : isW k n ss) : isW k n (s :: ss) := fun t m => by
  rcases List.mem_cons.mp m with rfl | m
  · exact h1
  · exact h t m
theorem isW.tail (h : isW k n (s :: ss)) : isW k n ss := fun t m => h t (List.mem_cons_of_mem _ m)
theorem isW.head (h : isW k n (s :: ss)) : isS k n s := h s (List.mem_cons_self ..)
theorem isW.rev (h : isW k n ss) : isW k n ss.reverse := fun t m => h t (List.mem_reverse.mp m)
theorem isW.nil : isW k n [] := fun t m => by cases m
/-- on rows, from the end -/
theorem snoc_ind {P : List Int → Prop} (h0 : P []) (h1 : ∀ l a, P l → P (l ++ [a])) : ∀ l, P l := by
  have : ∀ l : List Int, P l.reverse := by
    intro l
    induction l with
    | nil => exact h0
    | cons a l ih => rw [List.reverse_cons]; exact h1 _ _ ih
  intro l
  rw [← List.reverse_reverse l]
  exact this _
theorem Vd_mk (g : gd k n) : isW k n ss → Vd k n (mk k n ss) := by
  refine snoc_ind (P := fun ss => isW k n ss → Vd k n (mk k n ss)) (fun _ => Vd_start k n) (fun l a ih h => ?_) ss
  rw [mk_snoc]
  exact Vd_stp (ih h.left) (h.right.head) g.2
theorem tw_app : ∀ ss : List Int, twd k n (ss ++ tt) p = twd k n ss (twd k n tt p)
  | [] => rfl
  | s :: ss => by rw [List.cons_append, twd, twd, tw_app ss]
theorem pv_tw : ∀ {ss : List Int}, isW k n ss → pvp k n p → pvp k n (twd k n ss p)
  | [], _, h => h
  | s :: ss, hw, h => pv_trn hw.head (pv_tw hw.tail h)
theorem itm_start (hp : pvp k n p) (h1 : 1 ≤ n) : itm k (stW k n) p = p := by
  cases k with
  | mirror =>
    obtain ⟨a, b, c⟩ := hp rfl
    show gt (stW .mirror n) ((if 0 ≤ p then p else -p) - 1) * sg p = p
    obtain ⟨j, hj⟩ : ∃ j : Nat, (if 0 ≤ p then p else -p) - 1 = j := ⟨((if 0 ≤ p then p else -p) - 1).toNat, by split <;> omega⟩
    rw [hj, gt_stW (by split at hj <;> omega)]
    show ((1 : Int) + j) * sg p = p
    unfold sg
    split at hj <;> split <;> omega
  | plain =>
    show gt (stW .plain n) (p % (stW .plain n).length) + p - p % (stW .plain n).length = p
    rw [stW_len]
    obtain ⟨r, q, a, b, rfl⟩ := dm p h1
    obtain ⟨j, rfl⟩ : ∃ j : Nat, r = j := ⟨r.toNat, by omega⟩
    rw [emod_of a b, gt_stW (by omega)]
    show (0 : Int) + j + _ - _ = _
    omega
  | ring =>
    show gt (stW .ring n) (p % (stW .ring n).length) + p - p % (stW .ring n).length = p
    rw [stW_len]
    obtain ⟨r, q, a, b, rfl⟩ := dm p h1
    obtain ⟨j, rfl⟩ : ∃ j : Nat, r = j := ⟨r.toNat, by omega⟩
    rw [emod_of a b, gt_stW (by omega)]
    show (0 : Int) + j + _ - _ = _
    omega
theorem itm_mk (g : gd k n) (hp : pvp k n p) : isW k n ss → itm k (mk k n ss) p = twd k n ss p := by
  suffices ∀ ss, ∀ p, pvp k n p → isW k n ss → itm k (mk k n ss) p = twd k n ss p from this ss p hp
  refine snoc_ind (P := fun ss => ∀ p, pvp k n p → isW k n ss → itm k (mk k n ss) p = twd k n ss p) (fun p hp _ => itm_start hp g.1) (fun l a ih p hp h => ?_)
  have ha := h.right.head
  rw [mk_snoc, itm_stp (Vd_mk g h.left).len ha (ha.two g) hp, ih _ (pv_trn ha hp) h.left, tw_app]
  rfl
theorem itm_at {w : List Int} (hl : w.length = n) {i : Nat} (h : i < n) : itm k w (st0 k + i) = gt w i := by
  have rg : gt w ((0 + (i : Int)) % w.length) + (0 + i) - (0 + (i : Int)) % w.length = gt w i := by
    rw [Int.zero_add, hl, Int.emod_eq_of_lt (by omega) (by omega)]
    omega
  cases k with
  | plain => exact rg
  | ring => exact rg
  | mirror =>
    show gt w ((if 0 ≤ (1 : Int) + i then (1 : Int) + i else -(1 + i)) - 1) * sg (1 + i) = gt w i
    rw [if_pos (by omega), show sg (1 + (i : Int)) = 1 from if_pos (by omega), show (1 : Int) + i - 1 = i by omega]
    omega
theorem pv_at {i : Nat} (h : i < n) : pvp k n (st0 k + i) := by
  intro hk
  subst hk
  show (1 : Int) + i ≠ 0 ∧ -(n : Int) ≤ 1 + i ∧ (1 : Int) + i ≤ n
  omega
theorem gt_mk (g : gd k n) (h : isW k n ss) {i : Nat} (hi : i < n) : gt (mk k n ss) i = twd k n ss (st0 k + i) := by
  rw [← itm_at (k := k) (Vd_mk g h).len hi, itm_mk g (pv_at hi) h]
theorem mk_ext (g : gd k n) (h1 : isW k n ss) (h2 : isW k n tt) (h : ∀ p, pvp k n p → twd k n ss p = twd k n tt p) : mk k n ss = mk k n tt := by
  refine ext_gt (by rw [(Vd_mk g h1).len, (Vd_mk g h2).len]) fun i hi => ?_
  rw [(Vd_mk g h1).len] at hi
  rw [gt_mk g h1 hi, gt_mk g h2 hi, h _ (pv_at hi)]
theorem tw_of_mk (g : gd k n) (h1 : isW k n ss) (h2 : isW k n tt) (h : mk k n ss = mk k n tt) (hp : pvp k n p) : twd k n ss p = twd k n tt p := by
  rw [← itm_mk g hp h1, h, itm_mk g hp h2]
theorem pv_gt {w : List Int} (h : Vd k n w) {x : Int} (hx : x ∈ w) : pvp k n x := by
  intro hk
  subst hk
  have a := h.mi rfl x hx
  have b := h.rng hx
  have b : 0 ≤ (if 0 ≤ x then x else -x) - 1 ∧ (if 0 ≤ x then x else -x) - 1 < n := b
  split at b <;> omega
theorem prd_mk (g : gd k n) (h1 : isW k n ss) (h2 : isW k n tt) : prd k (mk k n ss) (mk k n tt) = mk k n (ss ++ tt) := by
  have v1 := Vd_mk g h1
  have v2 := Vd_mk g h2
  have v3 := Vd_mk g (h1.app h2)
  refine ext_gt (by unfold prd; rw [List.length_map, v2.len, v3.len]) fun i hi => ?_
  have hi : i < n := by unfold prd at hi; rwa [List.length_map, v2.len] at hi
  unfold prd
  rw [gt_map (by rw [v2.len]; exact hi), itm_mk g (pv_gt v2 (gt_mem (by rw [v2.len]; exact hi))) h1, gt_mk g h2 hi, gt_mk g (h1.app h2) hi, tw_app]
theorem tw_rev (g : gd k n) : ∀ {ss : List Int} {p : Int}, isW k n ss → twd k n ss.reverse (twd k n ss p) = p
  | [], p, _ => rfl
  | s :: ss, p, h => by
    rw [List.reverse_cons, tw_app, twd, twd, twd, trn_trn h.head (h.head.two g), tw_rev g h.tail]
theorem tw_rev' (g : gd k n) (h : isW k n ss) : twd k n ss (twd k n ss.reverse p) = p := by
  have := tw_rev g (p := p) h.rev
  rw [List.reverse_reverse] at this
  exact this
theorem trn_shift (hk : k ≠ .mirror) (h1 : 1 ≤ n) (q : Int) : trn k n s (p + n * q) = trn k n s p + n * q := by
  have e : (p + n * q) % n = p % n := Int.add_mul_emod_self_left ..
  have rg : (if (p + n * q) % (n : Int) = s then p + n * q + 1 else if (p + n * q) % n = (s + 1) % n then p + n * q - 1 else p + n * q) = (if p % (n : Int) = s then p + 1 else if p % n = (s + 1) % n then p - 1 else p) + n * q := by
    rw [e]
    split
    · omega
    · split <;> omega
  cases k with
  | mirror => exact absurd rfl hk
  | plain => exact rg
  | ring => exact rg
theorem trn_neg (h0 : 0 ≤ s) : trn .mirror n s (-p) = - trn .mirror n s p := by
  simp only [trn]
  by_cases hz : s = 0
  · rw [if_pos hz, if_pos hz]
    split <;> split <;> (try split) <;> (try split) <;> omega
  · rw [if_neg hz, if_neg hz]
    repeat' split
    all_goals omega
theorem tw_shift (hk : k ≠ .mirror) (h1 : 1 ≤ n) (q : Int) : ∀ ss : List Int, twd k n ss (p + n * q) = twd k n ss p + n * q
  | [] => rfl
  | s :: ss => by rw [twd, twd, tw_shift hk h1 q ss, trn_shift hk h1]
theorem tw_neg : ∀ {ss : List Int}, isW .mirror n ss → twd .mirror n ss (-p) = - twd .mirror n ss p
  | [], _ => rfl
  | s :: ss, h => by rw [twd, twd, tw_neg h.tail, trn_neg h.head.1]
/-! ### opposites -/
theorem opL_len (k : Kd) (n : Nat) : ∀ (xs : List Int) (i : Nat) (f : List Int), (opL k n i xs f).length = f.length
  | [], i, f => rfl
  | x :: xs, i, f => by
    show (opL k n (i + 1) xs _).length = _
    rw [opL_len k n xs, List.length_set]
theorem opp_len (k : Kd) (w : List Int) : (opp k w).length = w.length := by unfold opp; rw [opL_len, List.length_replicate]
theorem opL_keep {m : Nat} : ∀ {xs : List Int} {i : Nat} {f : List Int}, (∀ x ∈ xs, 0 ≤ oix k n x ∧ oix k n x < f.length) → (∀ x ∈ xs, oix k n x ≠ m) → gt (opL k n i xs f) m = gt f m
  | [], i, f, _, _ => rfl
  | x :: xs, i, f, hr, hm => by
    have a := hr x (List.mem_cons_self ..)
    rw [opL, opL_keep (fun y my => by rw [List.length_set]; exact hr y (List.mem_cons_of_mem _ my)) (fun y my => hm y (List.mem_cons_of_mem _ my)), gt_set (by omega), if_neg]
    have := hm x (List.mem_cons_self ..)
    omega
theorem opL_get : ∀ {xs : List Int} {i j : Nat} {f : List Int}, (∀ x ∈ xs, 0 ≤ oix k n x ∧ oix k n x < f.length) → (xs.map (oix k n)).Nodup → j < xs.length → gt (opL k n i xs f) (oix k n (gt xs j)) = ovl k n (i + j) (gt xs j)
  | [], i, j, f, _, _, hj => by cases hj
  | x :: xs, i, 0, f, hr, hn, _ => by
    obtain ⟨a, b⟩ := hr x (List.mem_cons_self ..)
    rw [List.map_cons, List.nodup_cons] at hn
    have e : gt (x :: xs) (0 : Nat) = x := rfl
    obtain ⟨m, hm⟩ : ∃ m : Nat, oix k n x = m := ⟨(oix k n x).toNat, by omega⟩
    rw [e, opL, hm, opL_keep (fun y my => by rw [List.length_set]; exact hr y (List.mem_cons_of_mem _ my)) (fun y my z => hn.1 (List.mem_map.mpr ⟨y, my, by rw [z, hm]⟩)), gt_set (by omega), if_pos (by omega)]
    rfl
  | x :: xs, i, j + 1, f, hr, hn, hj => by
    rw [List.map_cons, List.nodup_cons] at hn
    have e : gt (x :: xs) (j + 1 : Nat) = gt xs j := by rw [gt_nat, gt_nat, List.getD_cons_succ]
    rw [e, opL, opL_get (fun y my => by rw [List.length_set]; exact hr y (List.mem_cons_of_mem _ my)) hn.2 (by rw [List.length_cons] at hj; omega)]
    rw [show i + 1 + j = i + (j + 1) by omega]
theorem Vd.find {w : List Int} (h : Vd k n w) {m : Nat} (hm : m < n) : ∃ i : Nat, i < n ∧ oix k n (gt w i) = m := by
  have : (m : Int) ∈ w.map (oix k n) := h.res.mem_iff.mpr (mem_ups.mpr (by omega))
  obtain ⟨x, hx, e⟩ := List.mem_map.mp this
  obtain ⟨i, hi, rfl⟩ := mem_gt hx
  exact ⟨i, by rw [h.len] at hi; exact hi, e⟩
theorem gt_opp {w : List Int} (h : Vd k n w) {i : Nat} (hi : i < n) : gt (opp k w) (oix k n (gt w i)) = ovl k n i (gt w i) := by
  unfold opp
  rw [h.len]
  have := opL_get (k := k) (n := n) (xs := w) (i := 0) (j := i) (f := List.replicate n 0) (fun x hx => by rw [List.length_replicate]; exact h.rng hx) (h.res.nodup_iff.mpr (ups_nodup n)) (by rw [h.len]; exact hi)
  rw [Nat.zero_add] at this
  exact this
theorem opp_mk (g : gd k n) (h : isW k n ss) : opp k (mk k n ss) = mk k n ss.reverse := by
  have v := Vd_mk g h
  refine ext_gt (by rw [opp_len, v.len, (Vd_mk g h.rev).len]) fun m hm => ?_
  rw [opp_len, v.len] at hm
  obtain ⟨i, hi, e⟩ := v.find hm
  have a := gt_opp v hi
  rw [e] at a
  rw [a, gt_mk g h.rev hm]
  have b := gt_mk g h hi
  generalize gt (mk k n ss) i = x at *
  have c := tw_rev g (p := st0 k + i) h
  rw [← b] at c
  have rg : k ≠ .mirror → ovl k n i x = i - (x - x % n) → oix k n x = x % n → st0 k = 0 → ovl k n i x = twd k n ss.reverse (st0 k + m) := by
    intro hk e1 e2 e3
    rw [e3, Int.zero_add] at c ⊢
    rw [e1]
    rw [e2] at e
    have d := Int.mul_ediv_add_emod x n
    have s := tw_shift (p := (m : Int)) hk g.1 (x / n) ss.reverse
    rw [show (m : Int) + n * (x / n) = x by omega, c] at s
    omega
  cases hk : k with
  | plain => subst hk; exact rg (by simp) rfl rfl rfl
  | ring => subst hk; exact rg (by simp) rfl rfl rfl
  | mirror =>
    subst hk
    have e : (if 0 ≤ x then x else -x) - 1 = m := e
    show ((i : Int) + 1) * sg x = twd .mirror n ss.reverse (1 + m)
    have c : twd .mirror n ss.reverse x = 1 + i := c
    by_cases hx : 0 ≤ x
    · rw [if_pos hx] at e
      rw [show (1 : Int) + m = x by omega, c, show sg x = 1 from if_pos (by omega)]
      omega
    · rw [if_neg hx] at e
      have := tw_neg (p := x) h.rev
      rw [c] at this
      rw [show (1 : Int) + m = -x by omega, this, show sg x = -1 from if_neg (by omega)]
      omega
theorem ahd_mk (g : gd k n) (hs : isS k n s) (h : isW k n ss) : ahd k (mk k n ss) s = mk k n (s :: ss) := by
  unfold ahd
  rw [(Vd_mk g h).len]
  have : stp k (stW k n) s = mk k n [s] := rfl
  rw [this, prd_mk g (isW.one hs) h]
  rfl
theorem stp_stp (g : gd k n) (h : isW k n ss) (hs : isS k n s) : stp k (stp k (mk k n ss) s) s = mk k n ss := by
  rw [← mk_snoc, ← mk_snoc]
  refine mk_ext g ((h.app (isW.one hs)).app (isW.one hs)) h fun p hp => ?_
  rw [tw_app, tw_app, twd, twd, twd, trn_trn hs (hs.two g)]
  rfl
end
end M
/-! P5: crossings are least numbers of steps; the exchange. -/
namespace M
section
variable {k : Kd} {n : Nat} {ss tt : List Int} {s t p : Int}
theorem ps_zero {c : Int → Int → Int} : ∀ {l : List Int}, l.Pairwise (fun x y => c x y = 0) → ps c l = 0
  | [], _ => rfl
  | x :: l, h => by
    rw [List.pairwise_cons] at h
    rw [ps, ps_zero h.2, sm_congr (g := fun _ => 0) h.1]
    have : ∀ l : List Int, sm (l.map fun _ => 0) = 0 := by
      intro l
      induction l with
      | nil => rfl
      | cons x l ih => rw [List.map_cons, sm, ih]; rfl
    rw [this]; rfl
theorem crs_start (k : Kd) (n : Nat) : crs k (stW k n) = 0 := by
  rw [crs_eq, stW_len]
  have e1 : ps (cb k n) (stW k n) = 0 := by
    refine ps_zero ?_
    unfold stW
    refine List.pairwise_map.mpr ?_
    refine List.Pairwise.imp_of_mem (fun {a b} ha hb h => ?_) List.pairwise_lt_range
    have ha := List.mem_range.mp ha
    have hb := List.mem_range.mp hb
    cases k with
    | plain => show (if (0 : Int) + b < 0 + a then (1 : Int) else 0) = 0; rw [if_neg (by omega)]
    | mirror => show (if (1 : Int) + b < 1 + a then (1 : Int) else 0) + (if (1 : Int) + a + (1 + b) < 0 then 1 else 0) = 0; rw [if_neg (by omega), if_neg (by omega)]; rfl
    | ring =>
      have : ((0 : Int) + b - (0 + a)) / n = 0 := Int.ediv_eq_zero_of_lt (by omega) (by omega)
      show (if 0 ≤ ((0 : Int) + b - (0 + a)) / n then ((0 : Int) + b - (0 + a)) / n else -(((0 : Int) + b - (0 + a)) / n)) = 0
      rw [this]; rfl
  have e2 : sm ((stW k n).map (ng k)) = 0 := by
    rw [sm_congr (g := fun _ => 0) (fun x hx => ?_)]
    · have : ∀ l : List Int, sm (l.map fun _ => 0) = 0 := by
        intro l
        induction l with
        | nil => rfl
        | cons x l ih => rw [List.map_cons, sm, ih]; rfl
      exact this _
    · obtain ⟨i, hi, rfl⟩ := List.mem_map.mp hx
      unfold ng
      rw [if_neg]
      rintro ⟨rfl, h⟩
      have h : (1 : Int) + i < 0 := h
      omega
  rw [e1, e2]; rfl
theorem sm_nonneg : ∀ {l : List Int}, (∀ x ∈ l, 0 ≤ x) → 0 ≤ sm l
  | [], _ => Int.le_refl _
  | x :: l, h => by
    have a := h x (List.mem_cons_self ..)
    have b := sm_nonneg fun y m => h y (List.mem_cons_of_mem _ m)
    rw [sm]; omega
theorem cb_nonneg (k : Kd) (n : Nat) (x y : Int) : 0 ≤ cb k n x y := by
  cases k with
  | plain => simp only [cb]; split <;> omega
  | mirror => simp only [cb]; split <;> split <;> omega
  | ring => simp only [cb]; split <;> omega
theorem ps_nonneg (k : Kd) (n : Nat) : ∀ l : List Int, 0 ≤ ps (cb k n) l
  | [] => Int.le_refl _
  | x :: l => by
    have a := sm_nonneg (l := l.map (cb k n x)) fun y m => by
      obtain ⟨z, _, rfl⟩ := List.mem_map.mp m
      exact cb_nonneg ..
    have b := ps_nonneg k n l
    rw [ps]; omega
theorem crs_nonneg (k : Kd) (w : List Int) : 0 ≤ crs k w := by
  rw [crs_eq]
  have a := ps_nonneg k w.length w
  have b := sm_nonneg (l := w.map (ng k)) fun y m => by
    obtain ⟨z, _, rfl⟩ := List.mem_map.mp m
    unfold ng; split <;> omega
  omega
theorem crs_snoc (g : gd k n) (h : isW k n ss) (hs : isS k n s) : crs k (mk k n (ss ++ [s])) = crs k (mk k n ss) + if xd k (mk k n ss) s then -1 else 1 := by
  rw [mk_snoc, crs_stp (Vd_mk g h) hs g.2]
theorem crs_le (g : gd k n) : isW k n ss → crs k (mk k n ss) ≤ ss.length := by
  refine snoc_ind (P := fun ss => isW k n ss → crs k (mk k n ss) ≤ ss.length) (fun _ => ?_) (fun l a ih h => ?_) ss
  · have : crs k (mk k n []) = 0 := crs_start k n
    rw [this]; exact Int.le_refl _
  · have := ih h.left
    rw [crs_snoc g h.left h.right.head, List.length_append, List.length_singleton]
    split <;> omega
theorem fall_of (g : gd k n) {w : List Int} (h : Vd k n w) (hw : w ≠ stW k n) : ∃ s, isS k n s ∧ xd k w s = true := by
  by_cases hx : ∃ s, isS k n s ∧ xd k w s = true
  · exact hx
  · refine absurd (start_of h g.1 g.2 fun s hs => ?_) hw
    cases e : xd k w s with
    | false => rfl
    | true => exact absurd ⟨s, hs, e⟩ hx
theorem red (g : gd k n) : ∀ (m : Nat) {ss : List Int}, isW k n ss → crs k (mk k n ss) = m → ∃ tt, isW k n tt ∧ mk k n tt = mk k n ss ∧ tt.length = m := by
  intro m
  induction m with
  | zero =>
    intro ss h e
    by_cases hw : mk k n ss = stW k n
    · exact ⟨[], isW.nil, hw.symm, rfl⟩
    · obtain ⟨s, hs, hx⟩ := fall_of g (Vd_mk g h) hw
      have := crs_snoc g h hs
      rw [hx, if_pos rfl, e] at this
      have := crs_nonneg k (mk k n (ss ++ [s]))
      omega
  | succ m ih =>
    intro ss h e
    by_cases hw : mk k n ss = stW k n
    · rw [hw, crs_start] at e; omega
    · obtain ⟨s, hs, hx⟩ := fall_of g (Vd_mk g h) hw
      have := crs_snoc g h hs
      rw [hx, if_pos rfl, e] at this
      obtain ⟨tt, h1, h2, h3⟩ := ih (h.app (isW.one hs)) (by omega)
      refine ⟨tt ++ [s], h1.app (isW.one hs), ?_, by rw [List.length_append, h3]; rfl⟩
      rw [mk_snoc, h2, mk_snoc, stp_stp g h hs]
theorem red' (g : gd k n) (h : isW k n ss) : ∃ tt, isW k n tt ∧ mk k n tt = mk k n ss ∧ (tt.length : Int) = crs k (mk k n ss) := by
  have a := crs_nonneg k (mk k n ss)
  obtain ⟨tt, h1, h2, h3⟩ := red g (crs k (mk k n ss)).toNat h (by omega)
  exact ⟨tt, h1, h2, by omega⟩
theorem mk_rev (g : gd k n) (h1 : isW k n ss) (h2 : isW k n tt) (e : mk k n ss = mk k n tt) : mk k n ss.reverse = mk k n tt.reverse := by
  rw [← opp_mk g h1, ← opp_mk g h2, e]
theorem crs_rev (g : gd k n) (h : isW k n ss) : crs k (mk k n ss.reverse) = crs k (mk k n ss) := by
  have key : ∀ {ss : List Int}, isW k n ss → crs k (mk k n ss.reverse) ≤ crs k (mk k n ss) := by
    intro ss h
    obtain ⟨tt, h1, h2, h3⟩ := red' g h
    rw [mk_rev g h h1 h2.symm, ← h3]
    have := crs_le g h1.rev
    rw [List.length_reverse] at this
    exact this
  have a := key h
  have b := key h.rev
  rw [List.reverse_reverse] at b
  omega
theorem mk_app_l (ht : mk k n ss = mk k n tt) (u : List Int) : mk k n (ss ++ u) = mk k n (tt ++ u) := by
  have : ∀ v, mk k n (v ++ u) = u.foldl (stp k) (mk k n v) := fun v => by unfold mk; rw [List.foldl_append]
  rw [this, this, ht]
theorem mk_app_r (g : gd k n) {u : List Int} (hu : isW k n u) (h1 : isW k n ss) (h2 : isW k n tt) (ht : mk k n ss = mk k n tt) : mk k n (u ++ ss) = mk k n (u ++ tt) := by
  rw [← prd_mk g hu h1, ← prd_mk g hu h2, ht]
theorem crs_app (g : gd k n) (h1 : isW k n ss) (h2 : isW k n tt) : crs k (mk k n (ss ++ tt)) ≤ crs k (mk k n ss) + crs k (mk k n tt) := by
  obtain ⟨s', a1, a2, a3⟩ := red' g h1
  obtain ⟨t', b1, b2, b3⟩ := red' g h2
  rw [mk_app_l a2.symm, mk_app_r g a1 h2 b1 b2.symm]
  have := crs_le g (a1.app b1)
  rw [List.length_append] at this
  omega
theorem crs_cons (g : gd k n) (h : isW k n ss) (hs : isS k n s) : crs k (mk k n (s :: ss)) = crs k (mk k n ss) + if xd k (mk k n ss.reverse) s then -1 else 1 := by
  rw [← crs_rev g (isW.cons hs h), List.reverse_cons, crs_snoc g h.rev hs, crs_rev g h]
/-! ### the exchange -/
def plo (k : Kd) (s : Int) : Int := if k = .mirror ∧ s = 0 then -1 else s
def hi (k : Kd) (s : Int) : Int := s + 1
theorem trn_lo (hs : isS k n s) (g : gd k n) : trn k n s (plo k s) = hi k s := by
  obtain ⟨h0, h1⟩ := hs
  cases k with
  | mirror =>
    by_cases hz : s = 0
    · subst hz; rfl
    · have el : plo .mirror s = s := if_neg fun z => hz z.2
      rw [el]
      simp only [trn]
      rw [if_neg hz, if_pos True.intro]
      rfl
  | plain =>
    have h1 : s < (n : Int) - 1 := h1
    show (if s % (n : Int) = s then s + 1 else _) = s + 1
    rw [if_pos (Int.emod_eq_of_lt h0 (by omega))]
  | ring =>
    have h1 : s < (n : Int) := h1
    show (if s % (n : Int) = s then s + 1 else _) = s + 1
    rw [if_pos (Int.emod_eq_of_lt h0 (by omega))]
theorem pv_lo (hs : isS k n s) : pvp k n (plo k s) := by
  intro hk
  subst hk
  have h1 : s < (n : Int) := hs.2
  have h0 := hs.1
  unfold plo
  split
  · omega
  · rename_i h
    have : s ≠ 0 := fun z => h ⟨rfl, z⟩
    omega
theorem pv_hi (hs : isS k n s) : pvp k n (hi k s) := by
  intro hk
  subst hk
  have h1 : s < (n : Int) := hs.2
  have h0 := hs.1
  unfold hi
  omega
theorem xd_itm {w : List Int} (hl : w.length = n) (hs : isS k n s) (g : gd k n) : xd k w s = decide (itm k w (hi k s) < itm k w (plo k s)) := by
  have h2 := g.2
  rcases sk_of hl hs h2 with ⟨u, v, i, hin, es, hw, e, hx⟩ | ⟨m, q, rfl, hn, es, hw, e, hx⟩ | ⟨v, rfl, hn, es, hw, e, hx⟩
  · rw [hx]
    have e1 : plo k s = st0 k + i := by
      unfold plo
      rw [if_neg]
      · omega
      · rintro ⟨rfl, hz⟩
        have : s = i + 1 := es
        omega
    have e2 : hi k s = st0 k + (i + 1 : Nat) := by unfold hi; omega
    rw [e1, e2, itm_at hl (i := i + 1) hin, itm_at hl (i := i) (by omega)]
  · rw [hx]
    have e1 : plo .ring s = st0 .ring + (q + 1 : Nat) := by
      show s = 0 + _
      omega
    rw [e1, itm_at hl (by omega)]
    have e2 : itm .ring w (hi .ring s) = gt w 0 + n := by
      show gt w ((s + 1) % w.length) + (s + 1) - (s + 1) % w.length = _
      rw [hl, es, show (n : Int) - 1 + 1 = n by omega, Int.emod_self]
      omega
    rw [e2]
  · rw [hx, es]
    show decide (gt w 0 < 0) = decide (gt w 0 * 1 < gt w 0 * -1)
    congr 1
    apply propext
    omega
theorem trn_adj {a b : Int} (hs : isS k n s) (g : gd k n) (ha : pvp k n a) (hb : pvp k n b) (h1 : a < b) (h2 : trn k n s b < trn k n s a) : b = trn k n s a ∧ (k ≠ .mirror → a % n = s ∧ b = a + 1) ∧ (k = .mirror → (s = 0 ∧ a = -1 ∧ b = 1) ∨ (s ≠ 0 ∧ a = s ∧ b = s + 1) ∨ (s ≠ 0 ∧ a = -(s + 1) ∧ b = -s)) := by
  obtain ⟨z0, z1⟩ := hs
  have rg : k ≠ .mirror → s < (n : Int) → (∀ p, trn k n s p = (if p % (n : Int) = s then p + 1 else if p % n = (s + 1) % n then p - 1 else p)) → b = trn k n s a ∧ (k ≠ .mirror → a % n = s ∧ b = a + 1) ∧ (k = .mirror → (s = 0 ∧ a = -1 ∧ b = 1) ∨ (s ≠ 0 ∧ a = s ∧ b = s + 1) ∨ (s ≠ 0 ∧ a = -(s + 1) ∧ b = -s)) := by
    intro hk z1 e
    rw [e, e] at h2
    rw [e]
    have : a % n = s ∧ b = a + 1 := by
      split at h2 <;> split at h2 <;> (try split at h2) <;> (try split at h2) <;> first | omega | (refine ⟨by assumption, by omega⟩) | skip
      all_goals (exfalso; have : b = a + 1 := by omega)
      all_goals (subst this; omega)
    obtain ⟨h3, h4⟩ := this
    rw [if_pos h3]
    exact ⟨h4, fun _ => ⟨h3, h4⟩, fun z => absurd z hk⟩
  cases k with
  | plain => exact rg (by simp) (by have z1 : s < (n : Int) - 1 := z1; omega) (fun _ => rfl)
  | ring => exact rg (by simp) z1 (fun _ => rfl)
  | mirror =>
    have z1 : s < (n : Int) := z1
    obtain ⟨a1, a2, a3⟩ := ha rfl
    obtain ⟨b1, b2, b3⟩ := hb rfl
    simp only [trn] at h2 ⊢
    by_cases hz : s = 0
    · rw [if_pos hz, if_pos hz] at h2
      rw [if_pos hz]
      have : a = -1 ∧ b = 1 := by
        repeat' split at h2
        all_goals omega
      refine ⟨by rw [this.1, this.2]; rfl, fun h => absurd rfl h, fun _ => .inl ⟨hz, this⟩⟩
    · rw [if_neg hz, if_neg hz] at h2
      rw [if_neg hz]
      have : (a = s ∧ b = s + 1) ∨ (a = -(s + 1) ∧ b = -s) := by
        repeat' split at h2
        all_goals omega
      refine ⟨?_, fun h => absurd rfl h, fun _ => ?_⟩
      · rcases this with ⟨rfl, rfl⟩ | ⟨rfl, rfl⟩
        · simp
        · repeat' split
          all_goals omega
      · rcases this with h | h
        · exact .inr (.inl ⟨hz, h⟩)
        · exact .inr (.inr ⟨hz, h⟩)
theorem tw_inj (g : gd k n) (h : isW k n ss) {x y : Int} (e : twd k n ss x = twd k n ss y) : x = y := by
  rw [← tw_rev g (p := x) h, e, tw_rev g h]
theorem exch (g : gd k n) (h : isW k n ss) (hs : isS k n s) (ht : isS k n t) (h1 : xd k (mk k n ss) t = false) (h2 : xd k (mk k n (s :: ss)) t = true) : mk k n (s :: ss) = mk k n (ss ++ [t]) := by
  have hc := isW.cons hs h
  rw [xd_itm (Vd_mk g h).len ht g, itm_mk g (pv_hi ht) h, itm_mk g (pv_lo ht) h] at h1
  rw [xd_itm (Vd_mk g hc).len ht g, itm_mk g (pv_hi ht) hc, itm_mk g (pv_lo ht) hc] at h2
  have h1 := of_decide_eq_false h1
  have h2 : trn k n s (twd k n ss (hi k t)) < trn k n s (twd k n ss (plo k t)) := of_decide_eq_true h2
  have hne : twd k n ss (plo k t) ≠ twd k n ss (hi k t) := fun z => by
    have := tw_inj g h z
    unfold plo hi at this
    split at this <;> omega
  obtain ⟨c0, c1, c2⟩ := trn_adj hs g (pv_tw h (pv_lo ht)) (pv_tw h (pv_hi ht)) (by omega) h2
  refine mk_ext g hc (h.app (isW.one ht)) fun p hp => ?_
  rw [tw_app]
  show trn k n s (twd k n ss p) = twd k n ss (trn k n t p)
  have inj := fun x y => tw_inj g h (x := x) (y := y)
  have s0 := hs.1
  have t0 := ht.1
  have rg : k ≠ .mirror → 2 ≤ n → s < n → t < n → (∀ s p, trn k n s p = (if p % (n : Int) = s then p + 1 else if p % n = (s + 1) % n then p - 1 else p)) → trn k n s (twd k n ss p) = twd k n ss (trn k n t p) := by
    intro hk n2 s1 t1 e
    obtain ⟨c3, c4⟩ := c1 hk
    have sh := fun p q => tw_shift (p := p) hk g.1 q ss
    have el : plo k t = t := by unfold plo; rw [if_neg (fun z => hk z.1)]
    have eh : hi k t = t + 1 := rfl
    rw [el, eh] at c4
    rw [el] at c3
    generalize twd k n ss = f at *
    have fa : ∀ q, f (t + n * q) = f t + n * q := fun q => sh t q
    have fb : ∀ q, f (t + n * q + 1) = f t + n * q + 1 := fun q => by
      have := sh (t + 1) q
      rw [show t + n * q + 1 = t + 1 + n * q by omega, this, c4]; omega
    rw [e, e]
    obtain ⟨r, q, a, b, rfl⟩ := dm p g.1
    rw [emod_of a b, mod_s1 t0 t1]
    by_cases e1 : r = t
    · subst e1
      rw [if_pos rfl, fa, if_pos (by rw [Int.add_mul_emod_self_left]; exact c3), fb]
    · rw [if_neg e1]
      by_cases e2 : r = if t + 1 = (n : Int) then 0 else t + 1
      · rw [if_pos e2]
        obtain ⟨q', eq⟩ : ∃ q', r + n * q = t + n * q' + 1 := by
          split at e2
          · exact ⟨q - 1, by rw [Int.mul_sub]; omega⟩
          · exact ⟨q, by omega⟩
        rw [eq, show t + (n : Int) * q' + 1 - 1 = t + n * q' by omega, fa, fb]
        have d1 : (f t + n * q' + 1) % n = (s + 1) % n := by
          rw [show f t + n * q' + 1 = f t + 1 + n * q' by omega, Int.add_mul_emod_self_left, Int.add_emod, c3, Int.add_emod s 1, Int.emod_eq_of_lt s0 s1]
        have d2 : (s + 1) % (n : Int) ≠ s := by
          rw [mod_s1 s0 s1]
          split <;> omega
        rw [d1, if_neg d2, if_pos rfl]
        omega
      · rw [if_neg e2]
        have m1 : f (r + n * q) % n ≠ s := by
          intro z
          have : f (r + n * q) = f t + n * ((f (r + n * q)) / n - f t / n) := by
            have a1 := Int.mul_ediv_add_emod (f (r + n * q)) n
            have a2 := Int.mul_ediv_add_emod (f t) n
            rw [Int.mul_sub]
            omega
          rw [← fa] at this
          have := inj _ _ this
          have z2 := congrArg (· % (n : Int)) this
          simp only [emod_of a b, Int.add_mul_emod_self_left, Int.emod_eq_of_lt t0 t1] at z2
          exact e1 z2
        have m2 : f (r + n * q) % n ≠ (s + 1) % n := by
          intro z
          have d1 : (f t + 1) % n = (s + 1) % n := by
            rw [Int.add_emod, c3, Int.add_emod s 1, Int.emod_eq_of_lt s0 s1]
          have : f (r + n * q) = f t + n * ((f (r + n * q)) / n - (f t + 1) / n) + 1 := by
            have a1 := Int.mul_ediv_add_emod (f (r + n * q)) n
            have a2 := Int.mul_ediv_add_emod (f t + 1) n
            rw [Int.mul_sub]
            omega
          rw [← fb] at this
          have := inj _ _ this
          have z2 := congrArg (· % (n : Int)) this
          simp only [emod_of a b, mod_up t0 t1] at z2
          exact e2 z2
        rw [if_neg m1, if_neg m2]
  cases k with
  | plain =>
    have s1 : s < (n : Int) - 1 := hs.2
    have t1 : t < (n : Int) - 1 := ht.2
    exact rg (by simp) (by omega) (by omega) (by omega) (fun _ _ => rfl)
  | ring => exact rg (by simp) (g.2 rfl) hs.2 ht.2 (fun _ _ => rfl)
  | mirror =>
    have s1 : s < (n : Int) := hs.2
    have t1 : t < (n : Int) := ht.2
    have c2 := c2 rfl
    have ngf := fun p => tw_neg (p := p) h
    obtain ⟨p1, p2, p3⟩ := hp rfl
    generalize twd .mirror n ss = f at *
    have np := ngf p
    by_cases hz : t = 0
    · subst hz
      have el : plo .mirror 0 = -1 := rfl
      have eh : hi .mirror 0 = 1 := rfl
      rw [el, eh] at c2
      have n1 := ngf 1
      have hs0 : s = 0 ∧ f (-1) = -1 ∧ f 1 = 1 := by omega
      obtain ⟨rfl, f1, f2⟩ := hs0
      have tz : ∀ x, trn .mirror n 0 x = if x = 1 then -1 else if x = -1 then 1 else x := fun x => rfl
      rw [tz, tz]
      by_cases q1 : p = 1
      · subst q1; simp [f1, f2]
      · have r1 : f p ≠ 1 := fun z => q1 (inj _ _ (by rw [z, f2]))
        rw [if_neg r1, if_neg q1]
        by_cases q2 : p = -1
        · subst q2; simp [f1, f2]
        · have r2 : f p ≠ -1 := fun z => q2 (inj _ _ (by rw [z, f1]))
          rw [if_neg r2, if_neg q2]
    · have el : plo .mirror t = t := by unfold plo; rw [if_neg (fun z => hz z.2)]
      have eh : hi .mirror t = t + 1 := rfl
      rw [el, eh] at c2
      have n1 := ngf t
      have n2 := ngf (t + 1)
      have hs0 : s ≠ 0 := by
        intro z
        rcases c2 with ⟨_, c3, c4⟩ | ⟨c3, _⟩ | ⟨c3, _⟩
        · have : f (t + 1) = f (-t) := by omega
          have := inj _ _ this
          omega
        · exact c3 z
        · exact c3 z
      have i1 : f p = f t → p = t := inj _ _
      have i2 : f p = f (t + 1) → p = t + 1 := inj _ _
      have i3 : f p = f (-t) → p = -t := inj _ _
      have i4 : f p = f (-(t + 1)) → p = -(t + 1) := inj _ _
      simp only [trn]
      rw [if_neg hs0, if_neg hz]
      by_cases q1 : p = t
      · rw [if_pos q1, q1]
        rcases c2 with ⟨z, _⟩ | ⟨_, c3, c4⟩ | ⟨_, c3, c4⟩
        · exact absurd z hs0
        · rw [c3, if_pos rfl, c4]
        · rw [c3, c4, if_neg (by omega), if_neg (by omega), if_neg (by omega), if_pos rfl]
      · rw [if_neg q1]
        by_cases q2 : p = t + 1
        · rw [if_pos q2, q2]
          rcases c2 with ⟨z, _⟩ | ⟨_, c3, c4⟩ | ⟨_, c3, c4⟩
          · exact absurd z hs0
          · rw [c4, if_neg (by omega), if_pos rfl, c3]
          · rw [c4, if_neg (by omega), if_neg (by omega), if_pos rfl, c3]
        · rw [if_neg q2]
          by_cases q3 : p = -t
          · rw [if_pos q3, q3]
            rcases c2 with ⟨z, _⟩ | ⟨_, c3, c4⟩ | ⟨_, c3, c4⟩
            · exact absurd z hs0
            · rw [n1, n2, c3, c4, if_neg (by omega), if_neg (by omega), if_pos rfl]
            · rw [n1, n2, c3, c4, if_neg (by omega), if_pos (by omega)]; omega
          · rw [if_neg q3]
            by_cases q4 : p = -(t + 1)
            · rw [if_pos q4, q4]
              rcases c2 with ⟨z, _⟩ | ⟨_, c3, c4⟩ | ⟨_, c3, c4⟩
              · exact absurd z hs0
              · rw [n1, n2, c3, c4, if_neg (by omega), if_neg (by omega), if_neg (by omega), if_pos rfl]
              · rw [n1, n2, c3, c4, if_pos (by omega)]; omega
            · rw [if_neg q4]
              have j1 := fun z => q1 (i1 z)
              have j2 := fun z => q2 (i2 z)
              have j3 := fun z => q3 (i3 z)
              have j4 := fun z => q4 (i4 z)
              rw [n1] at j3
              rw [n2] at j4
              rcases c2 with ⟨z, _⟩ | ⟨_, c3, c4⟩ | ⟨_, c3, c4⟩
              · exact absurd z hs0
              · rw [c3] at j1 j3; rw [c4] at j2 j4
                rw [if_neg (by omega), if_neg (by omega), if_neg (by omega), if_neg (by omega)]
              · rw [c3] at j1 j3; rw [c4] at j2 j4
                rw [if_neg (by omega), if_neg (by omega), if_neg (by omega), if_neg (by omega)]
end
end M
/-! P6: orders, gains from both sides, what begins what; rows counted. -/
namespace M
/-- an order of a kind -/
def Od (k : Kd) (n : Nat) (w : List Int) : Prop := ∃ ss, isW k n ss ∧ w = mk k n ss
section
variable {k : Kd} {n : Nat} {u v w : List Int} {ss tt : List Int} {s t p : Int}
theorem Od.start : Od k n (stW k n) := ⟨[], isW.nil, rfl⟩
theorem Od.vd (g : gd k n) (h : Od k n w) : Vd k n w := by
  obtain ⟨ss, h1, rfl⟩ := h
  exact Vd_mk g h1
theorem Od.stp (h : Od k n w) (hs : isS k n s) : Od k n (stp k w s) := by
  obtain ⟨ss, h1, rfl⟩ := h
  exact ⟨ss ++ [s], h1.app (isW.one hs), mk_snoc.symm⟩
theorem Od.opp (g : gd k n) (h : Od k n w) : Od k n (opp k w) := by
  obtain ⟨ss, h1, rfl⟩ := h
  exact ⟨ss.reverse, h1.rev, opp_mk g h1⟩
theorem Od.prd (g : gd k n) (h : Od k n u) (h' : Od k n v) : Od k n (prd k u v) := by
  obtain ⟨ss, h1, rfl⟩ := h
  obtain ⟨tt, h2, rfl⟩ := h'
  exact ⟨ss ++ tt, h1.app h2, prd_mk g h1 h2⟩
theorem Od.ahd (g : gd k n) (h : Od k n w) (hs : isS k n s) : Od k n (ahd k w s) := by
  obtain ⟨ss, h1, rfl⟩ := h
  exact ⟨s :: ss, isW.cons hs h1, ahd_mk g hs h1⟩
theorem opp_opp (g : gd k n) (h : Od k n w) : opp k (opp k w) = w := by
  obtain ⟨ss, h1, rfl⟩ := h
  rw [opp_mk g h1, opp_mk g h1.rev, List.reverse_reverse]
theorem opp_start (g : gd k n) : opp k (stW k n) = stW k n := by
  have := opp_mk g (k := k) (n := n) (ss := []) isW.nil
  exact this
theorem opp_stp (g : gd k n) (h : Od k n w) (hs : isS k n s) : opp k (stp k w s) = ahd k (opp k w) s := by
  obtain ⟨ss, h1, rfl⟩ := h
  rw [← mk_snoc, opp_mk g (h1.app (isW.one hs)), opp_mk g h1, List.reverse_append, ahd_mk g hs h1.rev]
  rfl
theorem opp_ahd (g : gd k n) (h : Od k n w) (hs : isS k n s) : opp k (ahd k w s) = stp k (opp k w) s := by
  obtain ⟨ss, h1, rfl⟩ := h
  rw [ahd_mk g hs h1, opp_mk g (isW.cons hs h1), opp_mk g h1, List.reverse_cons, mk_snoc]
theorem stp_twice (g : gd k n) (h : Od k n w) (hs : isS k n s) : stp k (stp k w s) s = w := by
  obtain ⟨ss, h1, rfl⟩ := h
  exact stp_stp g h1 hs
theorem ahd_twice (g : gd k n) (h : Od k n w) (hs : isS k n s) : ahd k (ahd k w s) s = w := by
  rw [← opp_opp g ((h.ahd g hs).ahd g hs), opp_ahd g (h.ahd g hs) hs, opp_ahd g h hs, stp_twice g (h.opp g) hs, opp_opp g h]
theorem crs_step (g : gd k n) (h : Od k n w) (hs : isS k n s) : crs k (stp k w s) = crs k w + if xd k w s then -1 else 1 := crs_stp (h.vd g) hs g.2
theorem crs_opp (g : gd k n) (h : Od k n w) : crs k (opp k w) = crs k w := by
  obtain ⟨ss, h1, rfl⟩ := h
  rw [opp_mk g h1, crs_rev g h1]
theorem crs_ahd (g : gd k n) (h : Od k n w) (hs : isS k n s) : crs k (ahd k w s) = crs k w + if xd k (opp k w) s then -1 else 1 := by
  rw [← crs_opp g (h.ahd g hs), opp_ahd g h hs, crs_step g (h.opp g) hs, crs_opp g h]
theorem crs_prd (g : gd k n) (h : Od k n u) (h' : Od k n v) : crs k (prd k u v) ≤ crs k u + crs k v := by
  obtain ⟨ss, h1, rfl⟩ := h
  obtain ⟨tt, h2, rfl⟩ := h'
  rw [prd_mk g h1 h2]
  exact crs_app g h1 h2
theorem ahd_stp (g : gd k n) (h : Od k n w) (hs : isS k n s) (ht : isS k n t) : ahd k (stp k w t) s = stp k (ahd k w s) t := by
  obtain ⟨ss, h1, rfl⟩ := h
  rw [← mk_snoc, ahd_mk g hs (h1.app (isW.one ht)), ahd_mk g hs h1, ← mk_snoc]
  rfl
theorem ahd_start (g : gd k n) (hs : isS k n s) : ahd k (stW k n) s = stp k (stW k n) s := by
  have := ahd_mk g (k := k) (n := n) (ss := []) hs isW.nil
  exact this
theorem prd_stp (g : gd k n) (h : Od k n u) (h' : Od k n v) (hs : isS k n s) : prd k u (stp k v s) = stp k (prd k u v) s := by
  obtain ⟨ss, h1, rfl⟩ := h
  obtain ⟨tt, h2, rfl⟩ := h'
  rw [← mk_snoc, prd_mk g h1 (h2.app (isW.one hs)), prd_mk g h1 h2, ← mk_snoc, List.append_assoc]
theorem prd_ahd (g : gd k n) (h : Od k n u) (h' : Od k n v) (hs : isS k n s) : prd k (ahd k u s) v = ahd k (prd k u v) s := by
  obtain ⟨ss, h1, rfl⟩ := h
  obtain ⟨tt, h2, rfl⟩ := h'
  rw [ahd_mk g hs h1, prd_mk g (isW.cons hs h1) h2, prd_mk g h1 h2, ahd_mk g hs (h1.app h2), List.cons_append]
theorem prd_start (g : gd k n) (h : Od k n v) : prd k (stW k n) v = v := by
  obtain ⟨tt, h2, rfl⟩ := h
  have := prd_mk g (k := k) (n := n) (ss := []) isW.nil h2
  exact this
theorem prd_start' (g : gd k n) (h : Od k n u) : prd k u (stW k n) = u := by
  obtain ⟨ss, h1, rfl⟩ := h
  have := prd_mk g (k := k) (n := n) (tt := []) h1 isW.nil
  rw [List.append_nil] at this
  exact this
theorem prd_assoc (g : gd k n) (h : Od k n u) (h' : Od k n v) (h'' : Od k n w) : prd k (prd k u v) w = prd k u (prd k v w) := by
  obtain ⟨a, h1, rfl⟩ := h
  obtain ⟨b, h2, rfl⟩ := h'
  obtain ⟨c, h3, rfl⟩ := h''
  rw [prd_mk g h1 h2, prd_mk g (h1.app h2) h3, prd_mk g h2 h3, prd_mk g h1 (h2.app h3), List.append_assoc]
theorem mk_rev_self (g : gd k n) (h : isW k n ss) : mk k n (ss.reverse ++ ss) = stW k n :=
  mk_ext g (h.rev.app h) (tt := []) isW.nil fun p hp => by rw [tw_app, tw_rev g h]; rfl
theorem mk_self_rev (g : gd k n) (h : isW k n ss) : mk k n (ss ++ ss.reverse) = stW k n :=
  mk_ext g (h.app h.rev) (tt := []) isW.nil fun p hp => by rw [tw_app, tw_rev' g h]; rfl
theorem prd_opp (g : gd k n) (h : Od k n w) : prd k (opp k w) w = stW k n := by
  obtain ⟨ss, h1, rfl⟩ := h
  rw [opp_mk g h1, prd_mk g h1.rev h1, mk_rev_self g h1]
theorem prd_opp' (g : gd k n) (h : Od k n w) : prd k w (opp k w) = stW k n := by
  obtain ⟨ss, h1, rfl⟩ := h
  rw [opp_mk g h1, prd_mk g h1 h1.rev, mk_self_rev g h1]
theorem prd_back (g : gd k n) (h : Od k n u) (h' : Od k n v) : prd k u (prd k (opp k u) v) = v := by
  rw [← prd_assoc g h (h.opp g) h', prd_opp' g h, prd_start g h']
theorem exchange (g : gd k n) (h : Od k n w) (hs : isS k n s) (ht : isS k n t) (h1 : xd k w t = false) (h2 : xd k (ahd k w s) t = true) : ahd k w s = stp k w t := by
  obtain ⟨ss, h0, rfl⟩ := h
  rw [ahd_mk g hs h0] at h2 ⊢
  rw [← mk_snoc]
  exact exch g h0 hs ht h1 h2
theorem crs_zero (g : gd k n) (h : Od k n w) (e : crs k w = 0) : w = stW k n := by
  by_cases hw : w = stW k n
  · exact hw
  · obtain ⟨s, hs, hx⟩ := fall_of g (h.vd g) hw
    have := crs_step g h hs
    rw [hx, if_pos rfl, e] at this
    have := crs_nonneg k (stp k w s)
    omega
/-! ### gains -/
def gR (k : Kd) (w : List Int) (s : Int) : List Int := if xd k w s then w else stp k w s
def gL (k : Kd) (w : List Int) (s : Int) : List Int := if xd k (opp k w) s then w else ahd k w s
theorem Od.gR (h : Od k n w) (hs : isS k n s) : Od k n (gR k w s) := by
  unfold M.gR; split
  · exact h
  · exact h.stp hs
theorem Od.gL (g : gd k n) (h : Od k n w) (hs : isS k n s) : Od k n (gL k w s) := by
  unfold M.gL; split
  · exact h
  · exact h.ahd g hs
theorem opp_gL (g : gd k n) (h : Od k n w) (hs : isS k n s) : opp k (gL k w s) = gR k (opp k w) s := by
  unfold M.gL M.gR
  split
  · rfl
  · exact opp_ahd g h hs
theorem gR_t (e : xd k w s = true) : gR k w s = w := if_pos e
theorem gR_f (e : xd k w s = false) : gR k w s = stp k w s := if_neg (by rw [e]; simp)
theorem gL_t (e : xd k (opp k w) s = true) : gL k w s = w := if_pos e
theorem gL_f (e : xd k (opp k w) s = false) : gL k w s = ahd k w s := if_neg (by rw [e]; simp)
theorem gain_comm (g : gd k n) (h : Od k n w) (hs : isS k n s) (ht : isS k n t) : gL k (gR k w t) s = gR k (gL k w s) t := by
  have c1 := crs_step g h ht
  have c2 := crs_ahd g h hs
  have c3 := crs_ahd g (h.stp ht) hs
  have c4 := crs_step g (h.ahd g hs) ht
  rw [ahd_stp g h hs ht] at c3
  cases e1 : xd k w t with
  | true =>
    rw [gR_t e1]
    cases e2 : xd k (opp k w) s with
    | true => rw [gL_t e2, gR_t e1]
    | false =>
      rw [gL_f e2]
      cases e3 : xd k (ahd k w s) t with
      | true => rw [gR_t e3]
      | false =>
        rw [e1, if_pos rfl] at c1
        rw [e2, if_neg (by simp)] at c2
        rw [e3, if_neg (by simp)] at c4
        split at c3 <;> omega
  | false =>
    rw [gR_f e1]
    rw [e1, if_neg (by simp)] at c1
    cases e2 : xd k (opp k w) s with
    | true =>
      rw [gL_t e2, gR_f e1]
      cases e3 : xd k (opp k (stp k w t)) s with
      | true => rw [gL_t e3]
      | false =>
        rw [e2, if_pos rfl] at c2
        rw [e3, if_neg (by simp)] at c3
        split at c4 <;> omega
    | false =>
      rw [gL_f e2]
      rw [e2, if_neg (by simp)] at c2
      cases e3 : xd k (opp k (stp k w t)) s with
      | true =>
        rw [gL_t e3]
        rw [e3, if_pos rfl] at c3
        cases e4 : xd k (ahd k w s) t with
        | true => rw [gR_t e4]; exact (exchange g h hs ht e1 e4).symm
        | false => rw [e4, if_neg (by simp)] at c4; omega
      | false =>
        rw [gL_f e3]
        rw [e3, if_neg (by simp)] at c3
        cases e4 : xd k (ahd k w s) t with
        | true => rw [e4, if_pos rfl] at c4; omega
        | false => rw [gR_f e4]; exact ahd_stp g h hs ht
theorem gain_start (g : gd k n) (hs : isS k n s) : gL k (stW k n) s = gR k (stW k n) s := by
  unfold M.gL M.gR
  rw [opp_start g, ahd_start g hs]
/-- what a row comes to -/
def run (k : Kd) (u : List Int) (ss : List Int) : List Int := ss.foldl (gR k) u
theorem Od.run (h : Od k n u) : ∀ {ss : List Int}, isW k n ss → Od k n (run k u ss) := by
  intro ss
  induction ss generalizing u with
  | nil => intro _; exact h
  | cons s ss ih => intro hw; exact ih (h.gR hw.head) hw.tail
/-! ### what begins what -/
def rst (k : Kd) (u w : List Int) : List Int := prd k (opp k u) w
def bg (k : Kd) (u w : List Int) : Prop := crs k u + crs k (rst k u w) = crs k w
theorem Od.rst (g : gd k n) (h : Od k n u) (h' : Od k n w) : Od k n (rst k u w) := (h.opp g).prd g h'
theorem rst_stp (g : gd k n) (h : Od k n u) (h' : Od k n w) (hs : isS k n s) : rst k (stp k u s) w = ahd k (rst k u w) s := by
  unfold M.rst
  rw [opp_stp g h hs, prd_ahd g (h.opp g) h' hs]
theorem crs_rst (g : gd k n) (h : Od k n u) (h' : Od k n w) : crs k w ≤ crs k u + crs k (rst k u w) := by
  have := crs_prd g h (h.rst g h')
  unfold M.rst at this ⊢
  rw [prd_back g h h'] at this
  exact this
theorem bg_self (g : gd k n) (h : Od k n w) : bg k w w := by
  unfold bg rst
  rw [prd_opp g h, crs_start]; omega
theorem rst_self (g : gd k n) (h : Od k n w) : rst k w w = stW k n := prd_opp g h
theorem bg_start (g : gd k n) (h : Od k n w) : bg k (stW k n) w := by
  unfold bg rst
  rw [opp_start g, prd_start g h, crs_start]; omega
theorem bg_le {k : Kd} {u w : List Int} (b : bg k u w) : crs k u ≤ crs k w := by
  have := crs_nonneg k (rst k u w)
  unfold bg at b
  omega
theorem bg_gR (g : gd k n) (h : Od k n u) (h' : Od k n w) (hs : isS k n s) (b : bg k u w) : bg k u (gR k w s) := by
  unfold M.gR
  split
  · exact b
  · rename_i e
    have c1 := crs_step g h' hs
    rw [if_neg e] at c1
    have c2 := crs_rst g h (h'.stp hs)
    have c3 := crs_step g (h.rst g h') hs
    have e2 : M.rst k u (stp k w s) = stp k (M.rst k u w) s := prd_stp g (h.opp g) h' hs
    unfold bg at b ⊢
    rw [e2] at c2 ⊢
    split at c3 <;> omega
theorem bg_run (g : gd k n) (h : Od k n u) (h' : Od k n w) (b : bg k u w) : ∀ {ss : List Int}, isW k n ss → bg k u (run k w ss) := by
  intro ss
  induction ss generalizing w with
  | nil => intro _; exact b
  | cons s ss ih => intro hw; exact ih (h'.gR hw.head) (bg_gR g h h' hw.head b) hw.tail
theorem bg_head (g : gd k n) (h : Od k n u) (h' : Od k n w) (hs : isS k n s) (b : bg k u w) (hd : xd k (opp k (rst k u w)) s = true) : xd k u s = false ∧ bg k (stp k u s) w := by
  have c1 := crs_step g h hs
  have c2 := crs_ahd g (h.rst g h') hs
  rw [hd, if_pos rfl] at c2
  have c3 := crs_rst g (h.stp hs) h'
  unfold bg at b ⊢
  rw [rst_stp g h h' hs] at c3 ⊢
  cases e : xd k u s with
  | true => rw [e, if_pos rfl] at c1; omega
  | false => rw [e, if_neg (by simp)] at c1; exact ⟨rfl, by omega⟩
theorem head_bg (g : gd k n) (h : Od k n u) (h' : Od k n w) (hs : isS k n s) (hx : xd k u s = false) (b : bg k (stp k u s) w) : xd k (opp k (rst k u w)) s = true := by
  have c1 := crs_step g h hs
  rw [hx, if_neg (by simp)] at c1
  have c2 := crs_ahd g (h.rst g h') hs
  have c3 := crs_rst g h h'
  unfold bg at b
  rw [rst_stp g h h' hs] at b
  cases e : xd k (opp k (rst k u w)) s with
  | true => rfl
  | false => rw [e, if_neg (by simp)] at c2; omega
/-- a row that comes from what begins an order to it -/
theorem bg_row (g : gd k n) (h' : Od k n w) : ∀ (m : Nat) {u : List Int}, Od k n u → bg k u w → crs k (rst k u w) = m → ∃ ss, isW k n ss ∧ run k u ss = w ∧ ss.length = m := by
  intro m
  induction m with
  | zero =>
    intro u h b e
    have := crs_zero g (h.rst g h') e
    have : u = w := by
      have z := prd_back g h h'
      unfold rst at this
      rw [this, prd_start' g h] at z
      exact z
    exact ⟨[], isW.nil, this, rfl⟩
  | succ m ih =>
    intro u h b e
    have hr := h.rst g h'
    have hne : opp k (rst k u w) ≠ stW k n := by
      intro z
      have := crs_opp g hr
      rw [z, crs_start] at this
      omega
    obtain ⟨s, hs, hx⟩ := fall_of g ((hr.opp g).vd g) hne
    obtain ⟨h1, h2⟩ := bg_head g h h' hs b hx
    have c2 := crs_ahd g hr hs
    rw [hx, if_pos rfl] at c2
    obtain ⟨ss, a1, a2, a3⟩ := ih (h.stp hs) h2 (by rw [rst_stp g h h' hs]; omega)
    refine ⟨s :: ss, isW.cons hs a1, ?_, by rw [List.length_cons, a3]⟩
    show run k (gR k u s) ss = w
    unfold gR
    rw [h1, if_neg (by simp)]
    exact a2
/-! ### rows counted -/
def stepsL (k : Kd) (n : Nat) : List Int := ups (nst k n).toNat
theorem mem_stepsL : s ∈ stepsL k n ↔ isS k n s := by
  unfold stepsL isS
  rw [mem_ups]
  constructor <;> rintro ⟨a, b⟩ <;> exact ⟨a, by omega⟩
/-- oneW step taken in all ways -/
def opR (k : Kd) (n : Nat) (f : List Int → Int) (u : List Int) : Int := sm ((stepsL k n).map fun s => f (gR k u s))
def opLf (k : Kd) (n : Nat) (f : List Int → Int) (u : List Int) : Int := sm ((stepsL k n).map fun s => f (gL k u s))
def itr (o : (List Int → Int) → List Int → Int) : Nat → (List Int → Int) → List Int → Int
  | 0, f => f
  | m + 1, f => o (itr o m f)
def oneW (w : List Int) : List Int → Int := fun u => if u = w then 1 else 0
/-- how many rows of a length come from an order to another oneW -/
def Nr (k : Kd) (n m : Nat) (u w : List Int) : Int := itr (opR k n) m (oneW w) u
theorem sm_mapc {α : Type} {f h : α → Int} : ∀ {l : List α}, (∀ x ∈ l, f x = h x) → sm (l.map f) = sm (l.map h)
  | [], _ => rfl
  | x :: l, e => by
    rw [List.map_cons, List.map_cons, sm, sm, e x (List.mem_cons_self ..), sm_mapc fun y m => e y (List.mem_cons_of_mem _ m)]
theorem sm_add {α : Type} {f h : α → Int} : ∀ {l : List α}, sm (l.map fun x => f x + h x) = sm (l.map f) + sm (l.map h)
  | [] => rfl
  | x :: l => by
    rw [List.map_cons, List.map_cons, List.map_cons, sm, sm, sm, sm_add (l := l)]; omega
theorem sm_zero {α : Type} : ∀ {l : List α}, sm (l.map fun _ => (0 : Int)) = 0
  | [] => rfl
  | x :: l => by rw [List.map_cons, sm, sm_zero]; rfl
theorem sm_all0 {α : Type} {f : α → Int} {l : List α} (h : ∀ x ∈ l, f x = 0) : sm (l.map f) = 0 := by
  rw [sm_mapc (h := fun _ => 0) h, sm_zero]
theorem sm_mul {α : Type} {f : α → Int} (c : Int) : ∀ {l : List α}, sm (l.map fun x => f x * c) = sm (l.map f) * c
  | [] => by simp [sm]
  | x :: l => by
    rw [List.map_cons, List.map_cons, sm, sm, sm_mul c, Int.add_mul]
theorem sm_mull {α : Type} {f : α → Int} (c : Int) : ∀ {l : List α}, sm (l.map fun x => c * f x) = c * sm (l.map f)
  | [] => by simp [sm]
  | x :: l => by
    rw [List.map_cons, List.map_cons, sm, sm, sm_mull c, Int.mul_add]
theorem sm_swap {α β : Type} {f : α → β → Int} {l2 : List β} : ∀ {l1 : List α}, sm (l1.map fun x => sm (l2.map fun y => f x y)) = sm (l2.map fun y => sm (l1.map fun x => f x y))
  | [] => by simp only [List.map_nil, sm]; exact sm_zero.symm
  | x :: l1 => by
    simp only [List.map_cons, sm]
    rw [sm_swap (l1 := l1), ← sm_add]
/-- operators act alike where functions agree on orders -/
theorem opR_congr {f h : List Int → Int} (e : ∀ v, Od k n v → f v = h v) (hu : Od k n u) : opR k n f u = opR k n h u :=
  sm_mapc fun s m => e _ (hu.gR (mem_stepsL.mp m))
theorem opLf_congr (g : gd k n) {f h : List Int → Int} (e : ∀ v, Od k n v → f v = h v) (hu : Od k n u) : opLf k n f u = opLf k n h u :=
  sm_mapc fun s m => e _ (hu.gL g (mem_stepsL.mp m))
theorem op_comm (g : gd k n) (f : List Int → Int) (hu : Od k n u) : opR k n (opLf k n f) u = opLf k n (opR k n f) u := by
  unfold opR opLf
  rw [sm_swap]
  refine sm_mapc fun t ht => sm_mapc fun s hs => ?_
  rw [gain_comm g hu (mem_stepsL.mp ht) (mem_stepsL.mp hs)]
theorem itr_congrR {f h : List Int → Int} (e : ∀ v, Od k n v → f v = h v) : ∀ (m : Nat) {u : List Int}, Od k n u → itr (opR k n) m f u = itr (opR k n) m h u
  | 0, u, hu => e u hu
  | m + 1, u, hu => opR_congr (fun v hv => itr_congrR e m hv) hu
theorem itr_congrL (g : gd k n) {f h : List Int → Int} (e : ∀ v, Od k n v → f v = h v) : ∀ (m : Nat) {u : List Int}, Od k n u → itr (opLf k n) m f u = itr (opLf k n) m h u
  | 0, u, hu => e u hu
  | m + 1, u, hu => opLf_congr g (fun v hv => itr_congrL g e m hv) hu
theorem itr_succ {o : (List Int → Int) → List Int → Int} (f : List Int → Int) : ∀ m, itr o (m + 1) f = itr o m (o f)
  | 0 => rfl
  | m + 1 => by rw [itr, itr_succ f m]; rfl
theorem itr_add {o : (List Int → Int) → List Int → Int} (f : List Int → Int) (b : Nat) : ∀ a, itr o (a + b) f = itr o a (itr o b f)
  | 0 => by rw [Nat.zero_add]; rfl
  | a + 1 => by rw [show a + 1 + b = a + b + 1 by omega, itr, itr_add f b a]; rfl
theorem RL_comm (g : gd k n) (f : List Int → Int) : ∀ (m : Nat) {u : List Int}, Od k n u → itr (opR k n) m (opLf k n f) u = opLf k n (itr (opR k n) m f) u
  | 0, u, hu => rfl
  | m + 1, u, hu => by
    show opR k n (itr (opR k n) m (opLf k n f)) u = _
    rw [opR_congr (fun v hv => RL_comm g f m hv) hu, op_comm g _ hu]
    rfl
theorem RL_start (g : gd k n) : ∀ (m : Nat) (f : List Int → Int), itr (opR k n) m f (stW k n) = itr (opLf k n) m f (stW k n)
  | 0, f => rfl
  | m + 1, f => by
    have e : opR k n (itr (opR k n) m f) (stW k n) = opLf k n (itr (opR k n) m f) (stW k n) :=
      sm_mapc fun s hs => by rw [gain_start g (mem_stepsL.mp hs)]
    show opR k n (itr (opR k n) m f) (stW k n) = _
    rw [e, ← RL_comm g f m Od.start, RL_start g m (opLf k n f), ← itr_succ]
theorem L_opp (g : gd k n) (hw : Od k n w) : ∀ (m : Nat) {u : List Int}, Od k n u → itr (opLf k n) m (oneW w) u = itr (opR k n) m (oneW (opp k w)) (opp k u)
  | 0, u, hu => by
    show (if u = w then 1 else 0) = if opp k u = opp k w then (1 : Int) else 0
    by_cases e : u = w
    · rw [if_pos e, if_pos (by rw [e])]
    · rw [if_neg e, if_neg (fun z => e (by rw [← opp_opp g hu, z, opp_opp g hw]))]
  | m + 1, u, hu => by
    refine sm_mapc fun s hs => ?_
    have hs := mem_stepsL.mp hs
    show itr (opLf k n) m (oneW w) (gL k u s) = itr (opR k n) m (oneW (opp k w)) (gR k (opp k u) s)
    rw [L_opp g hw m (hu.gL g hs), opp_gL g hu hs]
/-- opposites have as many rows -/
theorem Nr_opp (g : gd k n) (hw : Od k n w) (m : Nat) : Nr k n m (stW k n) (opp k w) = Nr k n m (stW k n) w := by
  have a := L_opp g hw m (u := stW k n) Od.start
  rw [opp_start g] at a
  unfold Nr
  rw [← a, RL_start g m]
theorem Nr_zero (g : gd k n) (hw : Od k n w) : ∀ (m : Nat) {u : List Int}, Od k n u → ¬ bg k u w → Nr k n m u w = 0
  | 0, u, hu, hb => if_neg fun e => hb (by rw [e]; exact bg_self g hw)
  | m + 1, u, hu, hb => by
    refine sm_all0 fun s hs => ?_
    have hs := mem_stepsL.mp hs
    refine Nr_zero g hw m (hu.gR hs) fun b => hb ?_
    by_cases e : xd k u s = true
    · unfold gR at b; rw [if_pos e] at b; exact b
    · unfold gR at b; rw [if_neg e] at b
      have c1 := crs_step g hu hs
      rw [if_neg e] at c1
      have c2 := crs_rst g hu hw
      have c3 := crs_ahd g (hu.rst g hw) hs
      unfold bg at b ⊢
      rw [rst_stp g hu hw hs] at b
      split at c3 <;> omega
/-- over the orders between -/
theorem itr_over {f : List Int → Int} {S : List (List Int)} (nd : S.Nodup) : ∀ (m : Nat) {u : List Int}, Od k n u → (∀ v, Od k n v → v ∉ S → f v = 0) → itr (opR k n) m f u = sm (S.map fun v => Nr k n m u v * f v)
  | 0, u, hu, h => by
    show f u = sm (S.map fun v => (if u = v then 1 else 0) * f v)
    have key : ∀ {S : List (List Int)}, S.Nodup → sm (S.map fun v => (if u = v then 1 else 0) * f v) = if u ∈ S then f u else 0 := by
      intro S
      induction S with
      | nil => intro _; simp [sm]
      | cons x S ih =>
        intro nd
        rw [List.nodup_cons] at nd
        rw [List.map_cons, sm, ih nd.2]
        by_cases e : u = x
        · subst e
          rw [if_pos rfl, if_neg nd.1, if_pos (List.mem_cons_self ..)]; omega
        · rw [if_neg e]
          by_cases e2 : u ∈ S
          · rw [if_pos e2, if_pos (List.mem_cons_of_mem _ e2)]; omega
          · rw [if_neg e2, if_neg (by rw [List.mem_cons]; rintro (z | z); exact e z; exact e2 z)]; omega
    rw [key nd]
    split
    · rfl
    · rename_i hn; exact h u hu hn
  | m + 1, u, hu, h => by
    have e : opR k n (itr (opR k n) m f) u = sm ((stepsL k n).map fun s => sm (S.map fun v => Nr k n m (gR k u s) v * f v)) :=
      sm_mapc fun s hs => itr_over nd m (hu.gR (mem_stepsL.mp hs)) h
    show opR k n (itr (opR k n) m f) u = _
    rw [e, sm_swap]
    refine sm_mapc fun v _ => ?_
    rw [sm_mul]
    rfl
theorem Nr_over (g : gd k n) (hu : Od k n u) (hw : Od k n w) {S : List (List Int)} (nd : S.Nodup) (hS : ∀ v, Od k n v → bg k v w → v ∈ S) (a b : Nat) : Nr k n (a + b) u w = sm (S.map fun v => Nr k n a u v * Nr k n b v w) := by
  unfold Nr
  rw [itr_add]
  exact itr_over nd a hu fun v hv hn => Nr_zero g hw b hv fun z => hn (hS v hv z)
end
end M
/-! P7: how many orders begin an order: a bound by words. -/
namespace M
theorem nodup_sub {α : Type} [BEq α] [LawfulBEq α] : ∀ {l m : List α}, l.Nodup → (∀ x ∈ l, x ∈ m) → l.length ≤ m.length
  | [], m, _, _ => Nat.zero_le _
  | x :: l, m, hn, hs => by
    rw [List.nodup_cons] at hn
    have hx := hs x (List.mem_cons_self ..)
    have ih := nodup_sub (l := l) (m := m.erase x) hn.2 fun y hy => (List.mem_erase_of_ne fun e => hn.1 (by rw [← e]; exact hy)).mpr (hs y (List.mem_cons_of_mem _ hy))
    rw [List.length_erase_of_mem hx] at ih
    have := List.length_pos_of_mem hx
    rw [List.length_cons]; omega
theorem len_flatMap {α β : Type} {f : α → List β} {c : Nat} : ∀ {l : List α}, (∀ x ∈ l, (f x).length = c) → (l.flatMap f).length = l.length * c
  | [], _ => by simp
  | x :: l, h => by
    rw [List.flatMap_cons, List.length_append, h x (List.mem_cons_self ..), len_flatMap fun y m => h y (List.mem_cons_of_mem _ m), List.length_cons, Nat.add_mul]
    omega
/-- all rows of a length; of up to a length -/
def wl (k : Kd) (n : Nat) : Nat → List (List Int)
  | 0 => [[]]
  | j + 1 => (stepsL k n).flatMap fun s => (wl k n j).map (s :: ·)
def wu (k : Kd) (n : Nat) : Nat → List (List Int)
  | 0 => wl k n 0
  | j + 1 => wu k n j ++ wl k n (j + 1)
def pw (q : Nat) : Nat → Nat
  | 0 => 1
  | j + 1 => pw q j + q ^ (j + 1)
section
variable {k : Kd} {n : Nat} {u v w : List Int} {ss tt : List Int} {s t p : Int}
theorem len_wl : ∀ j, (wl k n j).length = (nst k n).toNat ^ j
  | 0 => rfl
  | j + 1 => by
    rw [wl, len_flatMap (c := (nst k n).toNat ^ j) fun s _ => by rw [List.length_map, len_wl j]]
    unfold stepsL
    rw [len_ups, Nat.pow_succ, Nat.mul_comm]
theorem len_wu : ∀ j, (wu k n j).length = pw (nst k n).toNat j
  | 0 => rfl
  | j + 1 => by rw [wu, List.length_append, len_wu j, len_wl]; rfl
theorem mem_wl : ∀ {ss : List Int}, isW k n ss → ss ∈ wl k n ss.length
  | [], _ => List.mem_singleton.mpr rfl
  | s :: ss, h => List.mem_flatMap.mpr ⟨s, mem_stepsL.mpr h.head, List.mem_map.mpr ⟨ss, mem_wl h.tail, rfl⟩⟩
theorem mem_wu (h : isW k n ss) : ∀ {j : Nat}, ss.length ≤ j → ss ∈ wu k n j
  | 0, hl => by
    have : ss = [] := List.length_eq_zero_iff.mp (by omega)
    subst this
    exact List.mem_singleton.mpr rfl
  | j + 1, hl => by
    rw [wu]
    by_cases e : ss.length ≤ j
    · exact List.mem_append_left _ (mem_wu h e)
    · have e2 : ss.length = j + 1 := by omega
      have := mem_wl h
      rw [e2] at this
      exact List.mem_append_right _ this
theorem od_red (g : gd k n) (h : Od k n w) : ∃ tt, isW k n tt ∧ mk k n tt = w ∧ (tt.length : Int) = crs k w := by
  obtain ⟨ss, h1, rfl⟩ := h
  exact red' g h1
theorem few (g : gd k n) (hw : Od k n w) {S : List (List Int)} (nd : S.Nodup) (hS : ∀ v ∈ S, Od k n v ∧ bg k v w) {a b : Nat} (hc : crs k w ≤ a + b + 1) : S.length ≤ pw (nst k n).toNat a + pw (nst k n).toNat b := by
  have := nodup_sub (m := (wu k n a).map (mk k n) ++ (wu k n b).map fun tt => prd k w (opp k (mk k n tt))) nd fun v hv => ?_
  · rw [List.length_append, List.length_map, List.length_map, len_wu, len_wu] at this
    exact this
  · obtain ⟨ho, hb⟩ := hS v hv
    rw [List.mem_append]
    by_cases e : crs k v ≤ a
    · obtain ⟨tt, h1, h2, h3⟩ := od_red g ho
      exact .inl (List.mem_map.mpr ⟨tt, mem_wu h1 (by omega), h2⟩)
    · have hr := ho.rst g hw
      obtain ⟨tt, h1, h2, h3⟩ := od_red g hr
      unfold bg at hb
      refine .inr (List.mem_map.mpr ⟨tt, mem_wu h1 (by omega), ?_⟩)
      show prd k w (opp k (mk k n tt)) = v
      rw [h2]
      have key : ∀ r, prd k v r = w → Od k n r → prd k w (opp k r) = v := by
        rintro r rfl hr
        rw [prd_assoc g ho hr (hr.opp g), prd_opp' g hr, prd_start' g ho]
      exact key _ (prd_back g ho hw) hr
/-- few enough -/
def fewC (k : Kd) (n : Nat) (c : Int) : Prop := (nst k n ≤ 3 ∧ c ≤ 10) ∨ (nst k n ≤ 5 ∧ c ≤ 8)
theorem pw_mono {q r : Nat} (h : q ≤ r) : ∀ j, pw q j ≤ pw r j
  | 0 => Nat.le_refl _
  | j + 1 => Nat.add_le_add (pw_mono h j) (Nat.pow_le_pow_left h _)
theorem few_1000 (g : gd k n) (hw : Od k n w) {S : List (List Int)} (nd : S.Nodup) (hS : ∀ v ∈ S, Od k n v ∧ bg k v w) (hc : fewC k n (crs k w)) : S.length ≤ 937 := by
  rcases hc with ⟨h1, h2⟩ | ⟨h1, h2⟩
  · have := few g hw nd hS (a := 5) (b := 4) (by omega)
    have a := pw_mono (q := (nst k n).toNat) (r := 3) (by omega) 5
    have b := pw_mono (q := (nst k n).toNat) (r := 3) (by omega) 4
    have : pw 3 5 = 364 := rfl
    have : pw 3 4 = 121 := rfl
    omega
  · have := few g hw nd hS (a := 4) (b := 3) (by omega)
    have a := pw_mono (q := (nst k n).toNat) (r := 5) (by omega) 4
    have b := pw_mono (q := (nst k n).toNat) (r := 5) (by omega) 3
    have : pw 5 4 = 781 := rfl
    have : pw 5 3 = 156 := rfl
    omega
end
end M
/-! P8: the ways on from an order to another one: what is found. -/
namespace M
/-- where an order stands in a list -/
def ixF (w : List Int) : Nat → List (List Int) → Option Nat
  | _, [] => none
  | i, v :: F => if v = w then some i else ixF w (i + 1) F
theorem ixF_some {w : List Int} : ∀ {F : List (List Int)} {i j : Nat}, ixF w i F = some j → i ≤ j ∧ F[j - i]? = some w
  | [], i, j, h => by cases h
  | v :: F, i, j, h => by
    rw [ixF] at h
    split at h
    · rename_i e
      cases h
      subst e
      exact ⟨Nat.le_refl _, by simp⟩
    · obtain ⟨a, b⟩ := ixF_some h
      refine ⟨by omega, ?_⟩
      rw [show j - i = (j - (i + 1)) + 1 by omega, List.getElem?_cons_succ]
      exact b
theorem ixF_none {w : List Int} : ∀ {F : List (List Int)} {i : Nat}, ixF w i F = none ↔ w ∉ F
  | [], i => by simp [ixF]
  | v :: F, i => by
    rw [ixF]
    by_cases e : v = w
    · subst e; simp
    · rw [if_neg e, ixF_none, List.mem_cons]
      constructor
      · rintro h (z | z)
        · exact e z.symm
        · exact h z
      · intro h z; exact h (.inr z)
theorem ixF_get {w : List Int} {F : List (List Int)} {j : Nat} (h : ixF w 0 F = some j) : F[j]? = some w := by
  have := (ixF_some h).2
  rwa [Nat.sub_zero] at this
theorem ixF_of {w : List Int} : ∀ {F : List (List Int)} {i j : Nat}, F.Nodup → F[j]? = some w → ixF w i F = some (i + j)
  | [], i, j, _, h => by simp at h
  | v :: F, i, 0, _, h => by
    simp at h
    rw [ixF, if_pos h]; rfl
  | v :: F, i, j + 1, nd, h => by
    rw [List.nodup_cons] at nd
    rw [List.getElem?_cons_succ] at h
    rw [ixF, if_neg, ixF_of nd.2 h, show i + 1 + j = i + (j + 1) by omega]
    intro e
    subst e
    exact nd.1 (List.mem_of_getElem? h)
section
variable {k : Kd} {n : Nat} {o u v w : List Int} {F R : List (List Int)} {s : Int}
/-- where a step leads, as the machine tells it -/
def LdOk (k : Kd) (w : List Int) (F : List (List Int)) (i : Nat) (u : List Int) (s : Int) (x : Option Nat) : Prop :=
  (xd k u s = true ∧ x = some i) ∨ (xd k u s = false ∧ xd k (opp k (rst k u w)) s = false ∧ x = none) ∨ (xd k u s = false ∧ xd k (opp k (rst k u w)) s = true ∧ ∃ j, x = some j ∧ F[j]? = some (stp k u s))
def LnOk (k : Kd) (w : List Int) (F : List (List Int)) (i : Nat) (u : List Int) (m : Nat) (l : List (Option Nat)) : Prop :=
  l.length = m ∧ ∀ s : Nat, s < m → ∃ x, l[s]? = some x ∧ LdOk k w F i u s x
theorem LdOk.mono {i : Nat} {x : Option Nat} (E : List (List Int)) (h : LdOk k w F i u s x) : LdOk k w (F ++ E) i u s x := by
  rcases h with h | h | ⟨h1, h2, j, e, h3⟩
  · exact .inl h
  · exact .inr (.inl h)
  · refine .inr (.inr ⟨h1, h2, j, e, ?_⟩)
    rw [List.getElem?_append_left (List.getElem?_eq_some_iff.mp h3).1]
    exact h3
theorem LnOk.mono {i m : Nat} {l : List (Option Nat)} (E : List (List Int)) (h : LnOk k w F i u m l) : LnOk k w (F ++ E) i u m l :=
  ⟨h.1, fun s hs => by obtain ⟨x, e, hx⟩ := h.2 s hs; exact ⟨x, e, hx.mono E⟩⟩
theorem LnOk.snoc {i m : Nat} {l : List (Option Nat)} {x : Option Nat} (h : LnOk k w F i u m l) (hx : LdOk k w F i u (m : Nat) x) : LnOk k w F i u (m + 1) (l ++ [x]) := by
  refine ⟨by rw [List.length_append, h.1]; rfl, fun s hs => ?_⟩
  by_cases e : s < m
  · obtain ⟨y, e1, hy⟩ := h.2 s e
    exact ⟨y, by rw [List.getElem?_append_left (by rw [h.1]; exact e)]; exact e1, hy⟩
  · have : s = m := by omega
    subst this
    exact ⟨x, by rw [List.getElem?_append_right (by rw [h.1]; exact Nat.le_refl _), h.1, Nat.sub_self]; rfl, hx⟩
theorem LnOk.nil {i : Nat} : LnOk k w F i u 0 [] := ⟨rfl, fun s hs => by omega⟩
/-- what is found -/
structure WInv (k : Kd) (n : Nat) (o w : List Int) (F R : List (List Int)) : Prop where
  nd : F.Nodup
  len : R.length = F.length
  ok : ∀ (i : Nat) (u : List Int), F[i]? = some u → Od k n u ∧ bg k o u ∧ bg k u w ∧ R[i]? = some (rst k u w)
theorem WInv.mem (h : WInv k n o w F R) (hu : u ∈ F) : Od k n u ∧ bg k o u ∧ bg k u w := by
  obtain ⟨i, hi⟩ := List.getElem?_of_mem hu
  obtain ⟨a, b, c, _⟩ := h.ok i u hi
  exact ⟨a, b, c⟩
theorem WInv.few (g : gd k n) (hw : Od k n w) (h : WInv k n o w F R) (hc : fewC k n (crs k w)) : F.length ≤ 937 :=
  few_1000 g hw h.nd (fun v hv => ⟨(h.mem hv).1, (h.mem hv).2.2⟩) hc
theorem bg_step (g : gd k n) (ho : Od k n o) (hu : Od k n u) (hs : isS k n s) (hx : xd k u s = false) (b : bg k o u) : bg k o (stp k u s) := by
  have := bg_gR g ho hu hs b
  rwa [gR_f hx] at this
theorem WInv.push (g : gd k n) (ho : Od k n o) (hw : Od k n w) (h : WInv k n o w F R) {i : Nat} (hu : F[i]? = some u) (hs : isS k n s) (hx : xd k u s = false) (hd : xd k (opp k (rst k u w)) s = true) (hn : stp k u s ∉ F) : WInv k n o w (F ++ [stp k u s]) (R ++ [ahd k (rst k u w) s]) := by
  obtain ⟨a, b, c, d⟩ := h.ok i u hu
  refine ⟨?_, by rw [List.length_append, List.length_append, h.len]; rfl, fun j v hv => ?_⟩
  · refine List.nodup_append.mpr ⟨h.nd, by simp, fun x hx y hy e => ?_⟩
    rw [List.mem_singleton] at hy
    subst hy
    exact hn (by rw [← e]; exact hx)
  · by_cases e : j < F.length
    · rw [List.getElem?_append_left e] at hv
      rw [List.getElem?_append_left (by rw [h.len]; exact e)]
      exact h.ok j v hv
    · have hj : j = F.length := by
        have := (List.getElem?_eq_some_iff.mp hv).1
        rw [List.length_append, List.length_singleton] at this
        omega
      subst hj
      rw [List.getElem?_append_right (Nat.le_refl _), Nat.sub_self] at hv
      cases hv
      rw [List.getElem?_append_right (by rw [h.len]; exact Nat.le_refl _), h.len, Nat.sub_self]
      refine ⟨a.stp hs, bg_step g ho a hs hx b, (bg_head g a hw hs c hd).2, ?_⟩
      rw [rst_stp g a hw hs]; rfl
theorem WInv.start (g : gd k n) (ho : Od k n o) (hb : bg k o w) : WInv k n o w [o] [rst k o w] :=
  ⟨by simp, rfl, fun i u hi => by
    cases i with
    | zero => cases hi; exact ⟨ho, bg_self g ho, hb, rfl⟩
    | succ i => simp at hi⟩
/-- each but the first is led to by an earlier one -/
def Rc (L : List (List (Option Nat))) (N : Nat) : Prop := ∀ j : Nat, 0 < j → j < N → ∃ i l, i < j ∧ L[i]? = some l ∧ some j ∈ l
/-- the ways on -/
structure Ways (k : Kd) (n : Nat) (o w : List Int) (F : List (List Int)) (L : List (List (Option Nat))) : Prop where
  nd : F.Nodup
  mem : ∀ u ∈ F, Od k n u ∧ bg k o u ∧ bg k u w
  fst : F[0]? = some o
  len : L.length = F.length
  ln : ∀ (i : Nat) (u : List Int) (l : List (Option Nat)), F[i]? = some u → L[i]? = some l → LnOk k w F i u (nst k n).toNat l
  rc : Rc L F.length
theorem Ways.step (h : Ways k n o w F L) (hu : u ∈ F) (hs : isS k n s) (hx : xd k u s = false) (hd : xd k (opp k (rst k u w)) s = true) : stp k u s ∈ F := by
  obtain ⟨i, hi⟩ := List.getElem?_of_mem hu
  have hl : i < L.length := by rw [h.len]; exact (List.getElem?_eq_some_iff.mp hi).1
  obtain ⟨x, e, hx2⟩ := (h.ln i u _ hi (List.getElem?_eq_getElem hl)).2 s.toNat (by have := hs.1; have := hs.2; omega)
  rw [show ((s.toNat : Nat) : Int) = s by have := hs.1; omega] at hx2
  rcases hx2 with ⟨h1, _⟩ | ⟨_, h1, _⟩ | ⟨_, _, j, _, h3⟩
  · rw [hx] at h1; cases h1
  · rw [hd] at h1; cases h1
  · exact List.mem_of_getElem? h3
theorem Ways.all (g : gd k n) (ho : Od k n o) (hw : Od k n w) (h : Ways k n o w F L) : ∀ (m : Nat) {u v : List Int}, u ∈ F → Od k n v → bg k u v → bg k v w → crs k (rst k u v) = m → v ∈ F := by
  intro m
  induction m with
  | zero =>
    intro u v hu hv b1 b2 e
    obtain ⟨a, _, _⟩ := h.mem u hu
    have := crs_zero g (a.rst g hv) e
    have z := prd_back g a hv
    unfold rst at this
    rw [this, prd_start' g a] at z
    rw [← z]; exact hu
  | succ m ih =>
    intro u v hu hv b1 b2 e
    obtain ⟨a, _, a3⟩ := h.mem u hu
    have hr := a.rst g hv
    have hne : opp k (rst k u v) ≠ stW k n := by
      intro z
      have := crs_opp g hr
      rw [z, crs_start] at this
      omega
    obtain ⟨s, hs, hx⟩ := fall_of g ((hr.opp g).vd g) hne
    obtain ⟨h1, h2⟩ := bg_head g a hv hs b1 hx
    have c2 := crs_ahd g hr hs
    rw [hx, if_pos rfl] at c2
    have b3 : bg k (stp k u s) w := by
      have c1 := crs_rst g (a.stp hs) hw
      have c4 := crs_prd g ((a.stp hs).rst g hv) (hv.rst g hw)
      have e4 : prd k (rst k (stp k u s) v) (rst k v w) = rst k (stp k u s) w := by
        unfold rst
        rw [← prd_assoc g (((a.stp hs).opp g).prd g hv) (hv.opp g) hw, prd_assoc g ((a.stp hs).opp g) hv (hv.opp g), prd_opp' g hv, prd_start' g ((a.stp hs).opp g)]
      rw [e4] at c4
      unfold bg at h2 b2 ⊢
      omega
    have hd := head_bg g a hw hs h1 b3
    exact ih (h.step hu hs h1 hd) hv h2 b2 (by rw [rst_stp g a hv hs]; omega)
/-- all that is between -/
theorem Ways.full (g : gd k n) (ho : Od k n o) (hw : Od k n w) (h : Ways k n o w F L) (hv : Od k n v) (b1 : bg k o v) (b2 : bg k v w) : v ∈ F :=
  h.all g ho hw (crs k (rst k o v)).toNat (List.mem_of_getElem? h.fst) hv b1 b2 (by have := crs_nonneg k (rst k o v); omega)
theorem Ways.last (g : gd k n) (ho : Od k n o) (hw : Od k n w) (hb : bg k o w) (h : Ways k n o w F L) : w ∈ F := h.full g ho hw hw hb (bg_self g hw)
theorem bg_anti (g : gd k n) (hu : Od k n u) (hv : Od k n v) (b : bg k u v) (e : crs k v ≤ crs k u) : u = v := by
  have c := crs_nonneg k (rst k u v)
  unfold bg at b
  have := crs_zero g (hu.rst g hv) (by omega)
  have z := prd_back g hu hv
  unfold rst at this
  rw [this, prd_start' g hu] at z
  exact z
/-- only one order is between an order and itself -/
theorem Ways.self (g : gd k n) (ho : Od k n o) (h : Ways k n o o F L) : F = [o] := by
  have all : ∀ u ∈ F, u = o := fun u hu => by
    obtain ⟨a, b, c⟩ := h.mem u hu
    have := bg_le b
    exact bg_anti g a ho c this
  match F, h.fst, h.nd, all with
  | [], f, _, _ => (simp at f)
  | [x], f, _, _ => (simp at f; rw [f])
  | x :: y :: F, _, nd, all => (rw [List.nodup_cons] at nd; exact absurd (by rw [all x (by simp), all y (by simp)]; simp) nd.1)
/-! ### rows counted, step by step -/
theorem Nr_succ (g : gd k n) (hu : Od k n u) (hw : Od k n w) (m : Nat) : Nr k n (m + 1) u w = sm ((stepsL k n).map fun s => Nr k n m (gR k u s) w) := rfl
/-- what a lead is worth -/
def wrt (c : List Int) : Option Nat → Int
  | none => 0
  | some j => gt c j
theorem Nr_lead (g : gd k n) (hu : Od k n u) (hw : Od k n w) (b : bg k u w) (hs : isS k n s) {i m : Nat} {x : Option Nat} {c : List Int} (hi : F[i]? = some u) (hx : LdOk k w F i u s x) (hc : ∀ (j : Nat) (v : List Int), F[j]? = some v → gt c j = Nr k n m v w) : wrt c x = Nr k n m (gR k u s) w := by
  rcases hx with ⟨h1, rfl⟩ | ⟨h1, h2, rfl⟩ | ⟨h1, h2, j, rfl, h3⟩
  · rw [gR_t h1]; exact hc i u hi
  · rw [gR_f h1, Nr_zero g hw m (hu.stp hs)]
    · rfl
    · intro b2
      have := head_bg g hu hw hs h1 b2
      rw [h2] at this; cases this
  · rw [gR_f h1]; exact hc j _ h3
theorem sm_ups_get {f : Int → Int} : ∀ (n : Nat) {l : List Int}, l.length = n → (∀ i : Nat, i < n → gt l i = f i) → sm l = sm ((ups n).map f)
  | n, l, hl, h => by
    have : l = (ups n).map f := by
      refine ext_gt (by rw [List.length_map, len_ups, hl]) fun i hi => ?_
      rw [gt_map (by rw [len_ups]; omega), h i (by omega)]
      congr 1
      unfold ups
      rw [gt_nat, List.getD_eq_getElem?_getD, List.getElem?_map, List.getElem?_range (by omega)]
      rfl
    rw [this]
theorem Nr_line (g : gd k n) (hu : Od k n u) (hw : Od k n w) (b : bg k u w) {i m : Nat} {l : List (Option Nat)} {c : List Int} (hi : F[i]? = some u) (hl : LnOk k w F i u (nst k n).toNat l) (hc : ∀ (j : Nat) (v : List Int), F[j]? = some v → gt c j = Nr k n m v w) : sm (l.map (wrt c)) = Nr k n (m + 1) u w := by
  rw [Nr_succ g hu hw]
  unfold stepsL
  refine sm_ups_get _ (by rw [List.length_map, hl.1]) fun s hs => ?_
  obtain ⟨x, e, hx⟩ := hl.2 s hs
  rw [gt_nat, List.getD_eq_getElem?_getD, List.getElem?_map, e]
  exact Nr_lead g hu hw b ⟨by omega, by omega⟩ hi hx hc
end
end M
/-! P9: where all rows of a length come to, with how many. -/
namespace M
abbrev WE := List (List Int × Int)
def addE (w : List Int) (c : Int) : WE → WE
  | [] => [(w, c)]
  | (v, x) :: E => if v = w then (v, x + c) :: E else (v, x) :: addE w c E
def getE (w : List Int) : WE → Int
  | [] => 0
  | (v, x) :: E => if v = w then x else getE w E
def sumE (E : WE) (f : List Int → Int) : Int := sm (E.map fun e => e.2 * f e.1)
def keysE (E : WE) : List (List Int) := E.map (·.1)
theorem sumE_add {w : List Int} {c : Int} {f : List Int → Int} : ∀ E : WE, sumE (addE w c E) f = sumE E f + c * f w
  | [] => by simp [sumE, addE, sm]
  | (v, x) :: E => by
    rw [addE]
    split
    · rename_i e
      subst e
      simp only [sumE, List.map_cons, sm, Int.add_mul]
      omega
    · have := sumE_add (w := w) (c := c) (f := f) E
      simp only [sumE, List.map_cons, sm] at this ⊢
      omega
theorem mem_addE {w v : List Int} {c : Int} : ∀ {E : WE}, v ∈ keysE (addE w c E) ↔ v = w ∨ v ∈ keysE E
  | [] => by simp [addE, keysE]
  | (u, x) :: E => by
    rw [addE]
    split
    · rename_i e
      subst e
      simp only [keysE, List.map_cons, List.mem_cons]
      constructor
      · rintro (h | h)
        · exact .inl h
        · exact .inr (.inr h)
      · rintro (h | h | h)
        · exact .inl h
        · exact .inl h
        · exact .inr h
    · have ih := mem_addE (w := w) (v := v) (c := c) (E := E)
      simp only [keysE, List.map_cons, List.mem_cons] at ih ⊢
      rw [ih]
      constructor
      · rintro (h | h | h)
        · exact .inr (.inl h)
        · exact .inl h
        · exact .inr (.inr h)
      · rintro (h | h | h)
        · exact .inr (.inl h)
        · exact .inl h
        · exact .inr (.inr h)
theorem nodup_addE {w : List Int} {c : Int} : ∀ {E : WE}, (keysE E).Nodup → (keysE (addE w c E)).Nodup
  | [], _ => by simp [addE, keysE]
  | (u, x) :: E, h => by
    have h' : u ∉ keysE E ∧ (keysE E).Nodup := List.nodup_cons.mp h
    rw [addE]
    split
    · exact h
    · rename_i e
      refine List.nodup_cons.mpr ⟨fun m => ?_, nodup_addE h'.2⟩
      rcases mem_addE.mp m with z | z
      · exact e z
      · exact h'.1 z
theorem len_addE {w : List Int} {c : Int} : ∀ E : WE, (addE w c E).length ≤ E.length + 1
  | [] => by simp [addE]
  | (u, x) :: E => by
    rw [addE]
    split
    · simp
    · have := len_addE (w := w) (c := c) E
      simp only [List.length_cons]
      omega
theorem getE_none {w : List Int} : ∀ {E : WE}, w ∉ keysE E → getE w E = 0
  | [], _ => rfl
  | (u, x) :: E, h => by
    have h' : w ≠ u ∧ w ∉ keysE E := by
      constructor
      · rintro rfl; exact h (List.mem_cons_self ..)
      · intro m; exact h (List.mem_cons_of_mem _ m)
    rw [getE, if_neg (fun e => h'.1 e.symm), getE_none h'.2]
theorem getE_sum {w : List Int} : ∀ {E : WE}, (keysE E).Nodup → getE w E = sumE E (oneW w)
  | [], _ => rfl
  | (u, x) :: E, h => by
    have h' : u ∉ keysE E ∧ (keysE E).Nodup := List.nodup_cons.mp h
    rw [getE]
    have ih := getE_sum (w := w) h'.2
    simp only [sumE, List.map_cons, sm, oneW] at ih ⊢
    by_cases e : u = w
    · subst e
      rw [if_pos rfl, if_pos rfl, ← ih, getE_none h'.1]
      omega
    · rw [if_neg e, if_neg e, ih]
      omega
theorem getE_mem {w : List Int} {x : Int} : ∀ {E : WE}, (keysE E).Nodup → (w, x) ∈ E → getE w E = x
  | [], _, h => by cases h
  | (u, y) :: E, h, m => by
    have h' : u ∉ keysE E ∧ (keysE E).Nodup := List.nodup_cons.mp h
    rw [getE]
    rcases List.mem_cons.mp m with e | m
    · injection e with e1 e2
      subst e1 e2
      rw [if_pos rfl]
    · rw [if_neg, getE_mem h'.2 m]
      rintro rfl
      exact h'.1 (List.mem_map.mpr ⟨_, m, rfl⟩)
section
variable {k : Kd} {n : Nat} {o u v w : List Int} {s c : Int} {E X : WE} {B : Int}
def addS (k : Kd) (u : List Int) (c : Int) (ss : List Int) (X : WE) : WE := ss.foldl (fun X s => addE (gR k u s) c X) X
def endS (k : Kd) (n : Nat) (E X : WE) : WE := E.foldl (fun X e => addS k e.1 e.2 (stepsL k n) X) X
def endsE (k : Kd) (n : Nat) (o : List Int) : Nat → WE
  | 0 => [(o, 1)]
  | t + 1 => endS k n (endsE k n o t) []
theorem sumE_addS {f : List Int → Int} : ∀ (ss : List Int) (X : WE), sumE (addS k u c ss X) f = sumE X f + c * sm (ss.map fun s => f (gR k u s))
  | [], X => by simp [addS, sm]
  | s :: ss, X => by
    show sumE (addS k u c ss (addE (gR k u s) c X)) f = _
    rw [sumE_addS ss, sumE_add, List.map_cons, sm, Int.mul_add]
    omega
theorem sumE_endS {f : List Int → Int} : ∀ (E X : WE), sumE (endS k n E X) f = sumE X f + sumE E (opR k n f)
  | [], X => by simp [endS, sumE, sm]
  | e :: E, X => by
    show sumE (endS k n E (addS k e.1 e.2 (stepsL k n) X)) f = _
    rw [sumE_endS E, sumE_addS]
    simp only [sumE, List.map_cons, sm, opR]
    omega
theorem sumE_ends : ∀ (t : Nat) (f : List Int → Int), sumE (endsE k n o t) f = itr (opR k n) t f o
  | 0, f => by simp [endsE, sumE, sm, itr]
  | t + 1, f => by
    rw [endsE, sumE_endS, sumE_ends t, itr_succ]
    simp [sumE, sm]
/-- keys: orders, of few crossings, each once -/
structure KE (k : Kd) (n : Nat) (B : Int) (X : WE) : Prop where
  nd : (keysE X).Nodup
  od : ∀ u ∈ keysE X, Od k n u ∧ crs k u ≤ B
theorem KE.add (h : KE k n B X) (hw : Od k n w) (hc : crs k w ≤ B) : KE k n B (addE w c X) :=
  ⟨nodup_addE h.nd, fun u hu => by
    rcases mem_addE.mp hu with rfl | hu
    · exact ⟨hw, hc⟩
    · exact h.od u hu⟩
theorem crs_gR' (g : gd k n) (h : Od k n w) (hs : isS k n s) : crs k (gR k w s) ≤ crs k w + 1 := by
  unfold gR
  split
  · omega
  · rw [crs_step g h hs]; split <;> omega
theorem KE.addS (g : gd k n) (hu : Od k n u) (hc : crs k u + 1 ≤ B) : ∀ {ss : List Int} {X : WE}, isW k n ss → KE k n B X → KE k n B (addS k u c ss X) := by
  intro ss
  induction ss with
  | nil => intro X _ h; exact h
  | cons s ss ih =>
    intro X hw h
    have := crs_gR' g hu hw.head
    exact ih hw.tail (h.add (hu.gR hw.head) (by omega))
theorem steps_isW : isW k n (stepsL k n) := fun s hs => mem_stepsL.mp hs
theorem KE.endS (g : gd k n) : ∀ {E X : WE}, KE k n B E → KE k n (B + 1) X → KE k n (B + 1) (endS k n E X) := by
  intro E
  induction E with
  | nil => intro X _ h; exact h
  | cons e E ih =>
    intro X hE h
    have he := hE.od e.1 (List.mem_cons_self ..)
    have hE' : KE k n B E := ⟨(List.nodup_cons.mp hE.nd).2, fun u hu => hE.od u (List.mem_cons_of_mem _ hu)⟩
    exact ih hE' (KE.addS g he.1 (by omega) steps_isW h)
theorem KE.ends (g : gd k n) (ho : Od k n o) (hc : crs k o ≤ B) : ∀ t : Nat, KE k n (B + t) (endsE k n o t)
  | 0 => ⟨by simp [endsE, keysE], fun u hu => by
    simp [endsE, keysE] at hu
    subst hu
    exact ⟨ho, by simpa using hc⟩⟩
  | t + 1 => by
    have := KE.endS g (KE.ends g ho hc t) (X := []) ⟨List.nodup_nil, fun u hu => by cases hu⟩
    rw [show B + ((t + 1 : Nat) : Int) = B + t + 1 by omega]
    exact this
theorem len_addS : ∀ (ss : List Int) (X : WE), (addS k u c ss X).length ≤ X.length + ss.length
  | [], X => Nat.le_refl _
  | s :: ss, X => by
    have a := len_addS ss (addE (gR k u s) c X)
    have b := len_addE (w := gR k u s) (c := c) X
    show (addS k u c ss (addE (gR k u s) c X)).length ≤ _
    rw [List.length_cons]
    omega
theorem len_endS : ∀ (E X : WE), (endS k n E X).length ≤ X.length + E.length * (stepsL k n).length
  | [], X => by simp [endS]
  | e :: E, X => by
    have a := len_endS E (addS k e.1 e.2 (stepsL k n) X)
    have b := len_addS (k := k) (u := e.1) (c := e.2) (stepsL k n) X
    show (endS k n E (addS k e.1 e.2 (stepsL k n) X)).length ≤ _
    rw [List.length_cons, Nat.add_mul]
    omega
theorem len_ends : ∀ t : Nat, (endsE k n o t).length ≤ (nst k n).toNat ^ t
  | 0 => by simp [endsE]
  | t + 1 => by
    have a := len_endS (k := k) (n := n) (endsE k n o t) []
    have b := len_ends t
    have e : (stepsL k n).length = (nst k n).toNat := len_ups _
    rw [e] at a
    rw [endsE, Nat.pow_succ]
    have := Nat.mul_le_mul_right (nst k n).toNat b
    simp only [List.length_nil] at a
    omega
/-- each key's number is that of the rows -/
theorem ends_Nr (g : gd k n) (ho : Od k n o) (hc : crs k o ≤ B) (t : Nat) (w : List Int) : getE w (endsE k n o t) = Nr k n t o w := by
  rw [getE_sum (KE.ends g ho hc t).nd, sumE_ends]
  rfl
/-- the numbers of rows together -/
theorem itr_one : ∀ (t : Nat) (u : List Int), itr (opR k n) t (fun _ => 1) u = ((nst k n).toNat : Int) ^ t
  | 0, u => rfl
  | t + 1, u => by
    show sm ((stepsL k n).map fun s => itr (opR k n) t (fun _ => 1) (gR k u s)) = _
    rw [sm_mapc (h := fun _ => ((nst k n).toNat : Int) ^ t) fun s _ => itr_one t _]
    have : ∀ (l : List Int) (c : Int), sm (l.map fun _ => c) = l.length * c := by
      intro l c
      induction l with
      | nil => simp [sm]
      | cons x l ih =>
        rw [List.map_cons, sm, ih, List.length_cons]
        rw [show ((l.length + 1 : Nat) : Int) = (l.length : Int) + 1 by omega, Int.add_mul]
        omega
    rw [this, show (stepsL k n).length = (nst k n).toNat from len_ups _, Int.pow_succ, Int.mul_comm]
theorem ends_sum (g : gd k n) (ho : Od k n o) (hc : crs k o ≤ B) (t : Nat) : sm ((keysE (endsE k n o t)).map fun w => Nr k n t o w) = ((nst k n).toNat : Int) ^ t := by
  have h := KE.ends g ho hc t
  have e := sumE_ends (k := k) (n := n) (o := o) t (fun _ => 1)
  rw [itr_one] at e
  rw [← e]
  unfold sumE keysE
  rw [List.map_map]
  refine sm_mapc fun x hx => ?_
  show Nr k n t o x.1 = x.2 * 1
  rw [← ends_Nr g ho hc t, getE_mem h.nd hx]
  omega
theorem itr_bound {f : List Int → Int} {c : Int} (h : ∀ u, 0 ≤ f u ∧ f u ≤ c) (hc : 0 ≤ c) : ∀ (t : Nat) (u : List Int), 0 ≤ itr (opR k n) t f u ∧ itr (opR k n) t f u ≤ ((nst k n).toNat : Int) ^ t * c
  | 0, u => by
    have := h u
    simp only [itr, Int.pow_zero, Int.one_mul]
    exact this
  | t + 1, u => by
    have key : ∀ (l : List Int) (f : Int → Int) (c : Int), (∀ s, 0 ≤ f s ∧ f s ≤ c) → 0 ≤ sm (l.map f) ∧ sm (l.map f) ≤ l.length * c := by
      intro l f c hf
      induction l with
      | nil => simp [sm]
      | cons x l ih =>
        have := hf x
        rw [List.map_cons, sm, List.length_cons]
        rw [show ((l.length + 1 : Nat) : Int) = (l.length : Int) + 1 by omega, Int.add_mul]
        omega
    have a := key (stepsL k n) (fun s => itr (opR k n) t f (gR k u s)) _ fun s => itr_bound h hc t _
    rw [show (stepsL k n).length = (nst k n).toNat from len_ups _] at a
    refine ⟨a.1, ?_⟩
    have e : ((nst k n).toNat : Int) ^ (t + 1) * c = (nst k n).toNat * (((nst k n).toNat : Int) ^ t * c) := by
      rw [Int.pow_succ, Int.mul_comm (((nst k n).toNat : Int) ^ t), Int.mul_assoc]
    rw [e]
    exact a.2
theorem Nr_bound (m : Nat) (u w : List Int) : 0 ≤ Nr k n m u w ∧ Nr k n m u w ≤ ((nst k n).toNat : Int) ^ m := by
  have := itr_bound (k := k) (n := n) (f := oneW w) (c := 1) (fun u => by unfold oneW; split <;> omega) (by omega) m u
  rw [Int.mul_one] at this
  exact this
end
end M
/-! M1: data, their representation in an abstract heap, the frame of a running def. -/
namespace M
open PySem PySem.Spec PyProof.Rows L2
abbrev Sg := List (Option V)

/-- pure data -/
inductive D where
  | non | bl (b : Bool) | int (i : Int) | str (x : Str)
  | lst (ds : List D) | tup (ds : List D)
  | dk (kvs : List (Key × D)) | dt (kvs : List (List Key × D)) | dn (kvs : List (Option Key × D))
  | kd (n : Str) (z : Int)

/-- the attributes of an instance of the class Kind -/
def kflds (n : Str) (z : Int) : List (Str × V) := putF "_size" (.int z) (putF "_name" (.str n) [])

/-- what stands fast through a law's run -/
structure Cn where
  P : Program
  w : World
  K : PySem.W.Frag
  C : Addr
/-- a dict whose keys are None, ints, texts -/
def dnO (c : Cn) (a : Addr) (kvs : List (Option Key × V)) : HO := .ext fun h => kvs.length ≤ sizeLine ∧ (a == sysModules) = false ∧ ∃ vs, KV kvs vs ∧ h.DictOf (noneKind c.P c.w) a vs

mutual
inductive Rp (c : Cn) (G : Hp) : V → D → Prop
  | non : Rp c G .non .non
  | bl (b : Bool) : Rp c G (.bl b) (.bl b)
  | int (i : Int) : Rp c G (.int i) (.int i)
  | str (x : Str) : Rp c G (.str x) (.str x)
  | lst {a : Addr} {xs : List V} {ds : List D} : SqL c.K G a xs → Rps c G xs ds → Rp c G (.ref a) (.lst ds)
  | tup {a : Addr} {xs : List V} {ds : List D} : G a = some (.tup xs) → Rps c G xs ds → Rp c G (.ref a) (.tup ds)
  | dk {a : Addr} {kvs : List (Key × V)} {es : List (Key × D)} : Rd G a (.dK kvs) → kvs.map (·.1) = es.map (·.1) → Rps c G (kvs.map (·.2)) (es.map (·.2)) → Rp c G (.ref a) (.dk es)
  | dt {a : Addr} {kvs : List (List Key × V)} {es : List (List Key × D)} : Rd G a (.dT kvs) → kvs.map (·.1) = es.map (·.1) → Rps c G (kvs.map (·.2)) (es.map (·.2)) → Rp c G (.ref a) (.dt es)
  | dn {a : Addr} {kvs : List (Option Key × V)} {es : List (Option Key × D)} : Rd G a (dnO c a kvs) → kvs.map (·.1) = es.map (·.1) → Rps c G (kvs.map (·.2)) (es.map (·.2)) → Rp c G (.ref a) (.dn es)
  | kd {a dx : Addr} {n : Str} {z : Int} : G a = some (.ins c.C dx (kflds n z)) → Rp c G (.ref a) (.kd n z)
inductive Rps (c : Cn) (G : Hp) : List V → List D → Prop
  | nil : Rps c G [] []
  | cons {v : V} {vs : List V} {d : D} {ds : List D} : Rp c G v d → Rps c G vs ds → Rps c G (v :: vs) (d :: ds)
end

section
variable {c : Cn} {G G' : Hp}
theorem rd_mono (s : Same G G') {a : Addr} {u : HO} (h : Rd G a u) : Rd G' a u := by
  rcases h with h | ⟨o, h⟩
  · exact .inl (s _ _ h)
  · exact .inr ⟨o, s _ _ h⟩
theorem sqT_mono {K : PySem.W.Frag} (s : Same G G') {a : Addr} {xs : List V} (h : SqT K G a xs) : SqT K G' a xs := by
  rcases h with h | h
  · exact .inl (rd_mono s h)
  · exact .inr h
mutual
theorem Rp.mono (s : Same G G') : ∀ {v : V} {d : D}, Rp c G v d → Rp c G' v d
  | _, _, .non => .non
  | _, _, .bl b => .bl b
  | _, _, .int i => .int i
  | _, _, .str x => .str x
  | _, _, .lst h r => .lst (s.seq h) (Rps.mono s r)
  | _, _, .tup h r => .tup (s _ _ h) (Rps.mono s r)
  | _, _, .dk h l r => .dk (rd_mono s h) l (Rps.mono s r)
  | _, _, .dt h l r => .dt (rd_mono s h) l (Rps.mono s r)
  | _, _, .dn h l r => .dn (rd_mono s h) l (Rps.mono s r)
  | _, _, .kd h => .kd (s _ _ h)
theorem Rps.mono (s : Same G G') : ∀ {vs : List V} {ds : List D}, Rps c G vs ds → Rps c G' vs ds
  | _, _, .nil => .nil
  | _, _, .cons h r => .cons (Rp.mono s h) (Rps.mono s r)
end
theorem Rps.len : ∀ {vs : List V} {ds : List D}, Rps c G vs ds → vs.length = ds.length
  | _, _, .nil => rfl
  | _, _, .cons _ r => congrArg (· + 1) (Rps.len r)
theorem Rps.get : ∀ {vs : List V} {ds : List D} {i : Nat} {d : D}, Rps c G vs ds → ds[i]? = some d → ∃ v, vs[i]? = some v ∧ Rp c G v d
  | _, _, i, d, .nil, e => by simp at e
  | _, _, 0, d, .cons h r, e => by simp at e; subst e; exact ⟨_, rfl, h⟩
  | _, _, i + 1, d, .cons h r, e => by
    obtain ⟨v, e1, e2⟩ := Rps.get (i := i) r (by simpa using e)
    exact ⟨v, by simpa using e1, e2⟩
theorem Rps.get' : ∀ {vs : List V} {ds : List D} {i : Nat} {v : V}, Rps c G vs ds → vs[i]? = some v → ∃ d, ds[i]? = some d ∧ Rp c G v d
  | _, _, i, d, .nil, e => by simp at e
  | _, _, 0, d, .cons h r, e => by simp at e; subst e; exact ⟨_, rfl, h⟩
  | _, _, i + 1, d, .cons h r, e => by
    obtain ⟨v, e1, e2⟩ := Rps.get' (i := i) r (by simpa using e)
    exact ⟨v, by simpa using e1, e2⟩
theorem Rps.append : ∀ {vs ws : List V} {ds es : List D}, Rps c G vs ds → Rps c G ws es → Rps c G (vs ++ ws) (ds ++ es)
  | _, _, _, _, .nil, s => s
  | _, _, _, _, .cons h r, s => .cons h (Rps.append r s)
theorem Rps.take : ∀ {vs : List V} {ds : List D} (n : Nat), Rps c G vs ds → Rps c G (vs.take n) (ds.take n)
  | _, _, 0, _ => .nil
  | _, _, _ + 1, .nil => .nil
  | _, _, n + 1, .cons h r => .cons h (Rps.take n r)
theorem Rps.drop : ∀ {vs : List V} {ds : List D} (n : Nat), Rps c G vs ds → Rps c G (vs.drop n) (ds.drop n)
  | _, _, 0, r => r
  | _, _, _ + 1, .nil => .nil
  | _, _, n + 1, .cons h r => Rps.drop n r
theorem Rps.set {v : V} {d : D} (h : Rp c G v d) : ∀ {vs : List V} {ds : List D} (n : Nat), Rps c G vs ds → Rps c G (vs.set n v) (ds.set n d)
  | _, _, _, .nil => .nil
  | _, _, 0, .cons _ r => .cons h r
  | _, _, n + 1, .cons g r => .cons g (Rps.set h n r)
theorem Rps.ints : ∀ {vs : List V} {ns : List Int}, Rps c G vs (ns.map D.int) → vs = ns.map V.int
  | _, [], .nil => rfl
  | _, n :: ns, .cons h r => by
    cases h
    rw [Rps.ints (ns := ns) r]; rfl
theorem rps_ints : ∀ ns : List Int, Rps c G (ns.map V.int) (ns.map D.int)
  | [] => .nil
  | n :: ns => .cons (.int n) (rps_ints ns)
end

/-- what a slot holds: nothing told; a datum; a thing of its own that it may change; the def's first argument, changed for the caller; a locked dict of its own -/
inductive Sl where
  | un | dat (d : D) | own (d : D) | io (d : D) | lck (d : D)
/-- a value in hand: a datum; what slot i holds; a new thing that no one else has; a lock's witness -/
inductive Rv where
  | dat (d : D) | bor (i : Nat) | new (d : D) | lk (d : D)
inductive Tag where
  | sl (i : Nat) | tm (k : Nat)
  deriving DecidableEq
abbrev Rho := List Sl
def setT (t : Addr → Option Tag) (a : Addr) (x : Option Tag) : Addr → Option Tag := fun b => if b = a then x else t b
theorem setT_same {t : Addr → Option Tag} {a : Addr} {x : Option Tag} : setT t a x a = x := if_pos rfl
theorem setT_ne {t : Addr → Option Tag} {a b : Addr} {x : Option Tag} (h : b ≠ a) : setT t a x b = t b := if_neg h

/-- what a def's run leans on: the written part, the class Kind, the heap at the entry, the readable part of it, the changed argument's place -/
structure Bs where
  c : Cn
  H0 : Hp
  G0 : Hp
  io : Option Addr

/-- an object of its own (at a) whose content is the datum -/
def Cont (c : Cn) (G : Hp) (a : Addr) (ho : HO) : D → Prop
  | .lst ds => ∃ xs, ho = .lst xs ∧ Rps c G xs ds
  | .dk es => ∃ kvs : List (Key × V), ho = .dK kvs ∧ kvs.map (·.1) = es.map (·.1) ∧ Rps c G (kvs.map (·.2)) (es.map (·.2))
  | .dt es => ∃ kvs : List (List Key × V), ho = .dT kvs ∧ kvs.map (·.1) = es.map (·.1) ∧ Rps c G (kvs.map (·.2)) (es.map (·.2))
  | .dn es => ∃ kvs : List (Option Key × V), ho = dnO c a kvs ∧ kvs.map (·.1) = es.map (·.1) ∧ Rps c G (kvs.map (·.2)) (es.map (·.2))
  | _ => False

def SlOk (B : Bs) (t : Addr → Option Tag) (G H : Hp) (i : Nat) (x : Option (Option V)) : Sl → Prop
  | .un => True
  | .dat d => ∃ v, x = some (some v) ∧ Rp B.c G v d
  | .own d => ∃ a ho, x = some (some (.ref a)) ∧ H a = some ho ∧ Cont B.c G a ho d ∧ t a = some (.sl i) ∧ B.H0 a = none
  | .io d => ∃ a ho, x = some (some (.ref a)) ∧ H a = some ho ∧ Cont B.c G a ho d ∧ t a = some (.sl i) ∧ B.io = some a
  | .lck d => ∃ a ho o, x = some (some (.ref a)) ∧ H a = some (.frz o ho) ∧ Cont B.c G a ho d ∧ t a = some (.sl i) ∧ B.H0 a = none

def HvOk (B : Bs) (t : Addr → Option Tag) (G H : Hp) (σ : Sg) (k : Nat) (v : V) : Rv → Prop
  | .dat d => Rp B.c G v d
  | .bor i => σ[i]? = some (some v)
  | .new d => ∃ a ho, v = .ref a ∧ H a = some ho ∧ Cont B.c G a ho d ∧ t a = some (.tm k) ∧ B.H0 a = none
  | .lk d => ∃ a ho o i, v = .ref a ∧ H a = some (.frz o ho) ∧ Cont B.c G a ho d ∧ t a = some (.sl i) ∧ B.H0 a = none
abbrev Hv := List (V × Rv)
def HvsOk (B : Bs) (t : Addr → Option Tag) (G H : Hp) (σ : Sg) : Hv → Prop
  | [] => True
  | (v, rv) :: r => HvOk B t G H σ r.length v rv ∧ HvsOk B t G H σ r

/-- a tuple stands there -/
def Tp (o : Option HO) : Prop := ∃ xs, o = some (.tup xs)
/-- a frame: hv what is in hand, ρ what the slots hold, G the readable part of H -/
structure Rep (B : Bs) (hv : Hv) (ρ : Rho) (σ : Sg) (H G : Hp) : Prop where
  ex : ∃ t : Addr → Option Tag, (∀ a, t a ≠ none → G a = none ∧ H a ≠ none ∧ ¬ Tp (H a)) ∧ (∀ i s, ρ[i]? = some s → SlOk B t G H i σ[i]? s) ∧ HvsOk B t G H σ hv
  sub : Same G H
  g0 : Same B.G0 G
  nw : ∀ b, G b ≠ none → B.G0 b ≠ none ∨ B.H0 b = none ∨ Tp (B.H0 b)
  hs : ∀ b o, B.H0 b = some o → B.io ≠ some b → H b = some o
  ioH : ∀ b, B.io = some b → H b ≠ none
  ioT : ∀ b, B.io = some b → ¬ Tp (H b)
  len : σ.length = ρ.length

section
variable {B : Bs} {hv : Hv} {ρ : Rho} {σ : Sg} {H H' G G' : Hp} {t t' : Addr → Option Tag} {d : D} {v : V} {a : Addr} {ho : HO}

theorem Cont.mono {c : Cn} (s : Same G G') (h : Cont c G a ho d) : Cont c G' a ho d := by
  cases d with
  | lst ds => obtain ⟨xs, e, r⟩ := h; exact ⟨xs, e, r.mono s⟩
  | dk es => obtain ⟨kvs, e, l, r⟩ := h; exact ⟨kvs, e, l, r.mono s⟩
  | dt es => obtain ⟨kvs, e, l, r⟩ := h; exact ⟨kvs, e, l, r.mono s⟩
  | dn es => obtain ⟨kvs, e, l, r⟩ := h; exact ⟨kvs, e, l, r.mono s⟩
  | _ => exact h.elim
/-- an owned thing, read as a datum where it stands in the readable part -/
theorem Cont.rp {c : Cn} (h : Cont c G a ho d) (e : G a = some ho) : Rp c G (.ref a) d := by
  cases d with
  | lst ds => obtain ⟨xs, rfl, r⟩ := h; exact .lst (SqL.of e) r
  | dk es => obtain ⟨kvs, rfl, l, r⟩ := h; exact .dk (Rd.of e) l r
  | dt es => obtain ⟨kvs, rfl, l, r⟩ := h; exact .dt (Rd.of e) l r
  | dn es => obtain ⟨kvs, rfl, l, r⟩ := h; exact .dn (Rd.of e) l r
  | _ => exact h.elim
theorem Cont.mut {c : Cn} (h : Cont c G a ho d) : Mut (some ho) := by
  cases d with
  | lst ds => obtain ⟨xs, rfl, r⟩ := h; trivial
  | dk es => obtain ⟨kvs, rfl, _⟩ := h; trivial
  | dt es => obtain ⟨kvs, rfl, _⟩ := h; trivial
  | dn es => obtain ⟨kvs, rfl, _⟩ := h; trivial
  | _ => exact h.elim
theorem Cont.notup {c : Cn} (h : Cont c G a ho d) : ¬ Tp (some ho) := fun ⟨xs, e⟩ => by
  have m := h.mut
  rw [e] at m; exact m
theorem Cont.nofrz {c : Cn} (h : Cont c G a ho d) {o : Obj} {u : HO} : ho ≠ .frz o u := by
  intro e; subst e; exact h.mut

/-- the slots, hands are kept where the objects at tagged addresses are -/
theorem SlOk.keep {i : Nat} {x : Option (Option V)} {s : Sl} (g : Same G G') (k : ∀ b o, t b ≠ none → H b = some o → H' b = some o ∧ t' b = t b) (h : SlOk B t G H i x s) : SlOk B t' G' H' i x s := by
  cases s with
  | un => trivial
  | dat d => obtain ⟨v, e, r⟩ := h; exact ⟨v, e, r.mono g⟩
  | own d =>
    obtain ⟨a, ho, e, e1, c, e2, e3⟩ := h
    obtain ⟨k1, k2⟩ := k a ho (by rw [e2]; simp) e1
    exact ⟨a, ho, e, k1, c.mono g, k2.trans e2, e3⟩
  | io d =>
    obtain ⟨a, ho, e, e1, c, e2, e3⟩ := h
    obtain ⟨k1, k2⟩ := k a ho (by rw [e2]; simp) e1
    exact ⟨a, ho, e, k1, c.mono g, k2.trans e2, e3⟩
  | lck d =>
    obtain ⟨a, ho, o, e, e1, c, e2, e3⟩ := h
    obtain ⟨k1, k2⟩ := k a _ (by rw [e2]; simp) e1
    exact ⟨a, ho, o, e, k1, c.mono g, k2.trans e2, e3⟩
theorem HvOk.keep {k : Nat} {rv : Rv} (g : Same G G') (kp : ∀ b o, t b ≠ none → H b = some o → H' b = some o ∧ t' b = t b) (h : HvOk B t G H σ k v rv) : HvOk B t' G' H' σ k v rv := by
  cases rv with
  | dat d => exact Rp.mono g h
  | bor i => exact h
  | new d =>
    obtain ⟨a, ho, e, e1, c, e2, e3⟩ := h
    obtain ⟨k1, k2⟩ := kp a ho (by rw [e2]; simp) e1
    exact ⟨a, ho, e, k1, c.mono g, k2.trans e2, e3⟩
  | lk d =>
    obtain ⟨a, ho, o, i, e, e1, c, e2, e3⟩ := h
    obtain ⟨k1, k2⟩ := kp a _ (by rw [e2]; simp) e1
    exact ⟨a, ho, o, i, e, k1, c.mono g, k2.trans e2, e3⟩
theorem HvsOk.keep (g : Same G G') (kp : ∀ b o, t b ≠ none → H b = some o → H' b = some o ∧ t' b = t b) : ∀ {hv : Hv}, HvsOk B t G H σ hv → HvsOk B t' G' H' σ hv
  | [], _ => trivial
  | (v, rv) :: r, ⟨h1, h2⟩ => ⟨h1.keep g kp, HvsOk.keep g kp h2⟩

/-- the heap has grown by what is none of ours -/
structure Gr (G H G' H' : Hp) : Prop where
  g : Same G G'
  h : Same H H'
  sub : Same G' H'
  nw : ∀ b, G' b ≠ none → G b ≠ none ∨ H b = none ∨ Tp (H b)
theorem Gr.refl (s : Same G H) : Gr G H G H := ⟨Same.refl _, Same.refl _, s, fun b h => .inl h⟩
theorem Rep.grow (R : Rep B hv ρ σ H G) (g : Gr G H G' H') : Rep B hv ρ σ H' G' := by
  obtain ⟨t, h1, h2, h3⟩ := R.ex
  have kp : ∀ b o, t b ≠ none → H b = some o → H' b = some o ∧ t b = t b := fun b o _ e => ⟨g.h _ _ e, rfl⟩
  refine ⟨⟨t, fun a ha => ?_, fun i s hs => (h2 i s hs).keep g.g kp, h3.keep g.g kp⟩, g.sub, R.g0.trans g.g, fun b hb => ?_, fun b o e n => g.h _ _ (R.hs b o e n), fun b e => ?_, fun b e => ?_, R.len⟩
  · obtain ⟨e1, e2, e3⟩ := h1 a ha
    refine ⟨?_, fun z => ?_, fun z => ?_⟩
    · cases q : G' a with
      | none => rfl
      | some o =>
        rcases g.nw a (by rw [q]; simp) with z | z | z
        · exact absurd e1 z
        · exact absurd z e2
        · exact absurd z e3
    · cases q : H a with
      | none => exact e2 q
      | some o => rw [g.h _ _ q] at z; cases z
    · cases q : H a with
      | none => exact e2 q
      | some o => rw [g.h _ _ q] at z; rw [q] at e3; exact e3 z
  · rcases g.nw b hb with z | z | ⟨xs, z⟩
    · exact R.nw b z
    · cases q : B.H0 b with
      | none => exact .inr (.inl rfl)
      | some o =>
        by_cases hio : B.io = some b
        · exact absurd z (R.ioH b hio)
        · rw [R.hs b o q hio] at z; cases z
    · cases q : B.H0 b with
      | none => exact .inr (.inl rfl)
      | some o =>
        by_cases hio : B.io = some b
        · exact .inr (.inr (absurd ⟨xs, z⟩ (R.ioT b hio)))
        · rw [R.hs b o q hio] at z; cases z
          exact .inr (.inr ⟨xs, rfl⟩)
  · cases q : H b with
    | none => exact absurd q (R.ioH b e)
    | some o => rw [g.h _ _ q]; simp
  · intro z
    cases q : H b with
    | none => exact absurd q (R.ioH b e)
    | some o => rw [g.h _ _ q, ← q] at z; exact R.ioT b e z
/-- at an address not yet taken nothing stood at the entry -/
theorem Rep.fresh (R : Rep B hv ρ σ H G) (e : H a = none) : B.H0 a = none ∧ G a = none := by
  refine ⟨?_, R.sub.free e⟩
  cases q : B.H0 a with
  | none => rfl
  | some o =>
    by_cases hio : B.io = some a
    · exact absurd e (R.ioH a hio)
    · rw [R.hs a o q hio] at e; cases e
/-- hands off -/
theorem Rep.pop {x : V × Rv} (R : Rep B (x :: hv) ρ σ H G) : Rep B hv ρ σ H G := by
  obtain ⟨t, h1, h2, h3⟩ := R.ex
  exact ⟨⟨t, h1, h2, h3.2⟩, R.sub, R.g0, R.nw, R.hs, R.ioH, R.ioT, R.len⟩
/-- a datum in hand -/
theorem Rep.dat (R : Rep B hv ρ σ H G) (h : Rp B.c G v d) : Rep B ((v, .dat d) :: hv) ρ σ H G := by
  obtain ⟨t, h1, h2, h3⟩ := R.ex
  exact ⟨⟨t, h1, h2, h, h3⟩, R.sub, R.g0, R.nw, R.hs, R.ioH, R.ioT, R.len⟩
theorem Rep.top {rest : Hv} (R : Rep B ((v, .dat d) :: rest) ρ σ H G) : Rp B.c G v d := by
  obtain ⟨t, h1, h2, h3, _⟩ := R.ex
  exact h3
theorem HvsOk.mem : ∀ {hv : Hv} {x : V × Rv}, HvsOk B t G H σ hv → x ∈ hv → ∃ k, HvOk B t G H σ k x.1 x.2
  | (v, rv) :: r, x, ⟨h1, h2⟩, m => by
    rcases List.mem_cons.mp m with rfl | m
    · exact ⟨_, h1⟩
    · exact HvsOk.mem h2 m
theorem Rep.mem (R : Rep B hv ρ σ H G) (m : (v, Rv.dat d) ∈ hv) : Rp B.c G v d := by
  obtain ⟨t, h1, h2, h3⟩ := R.ex
  obtain ⟨k, e⟩ := h3.mem m
  exact e
/-- a new thing of its own -/
theorem Rep.new (R : Rep B hv ρ σ H G) (e : H a = none) (c : Cont B.c G a ho d) : Rep B ((.ref a, .new d) :: hv) ρ σ (upd H a ho) G := by
  obtain ⟨t, h1, h2, h3⟩ := R.ex
  obtain ⟨e0, eG⟩ := R.fresh e
  have ta : t a = none := by
    cases q : t a with
    | none => rfl
    | some x => exact absurd e (h1 a (by rw [q]; simp)).2.1
  have kp : ∀ b o, t b ≠ none → H b = some o → upd H a ho b = some o ∧ setT t a (some (.tm hv.length)) b = t b := fun b o hb eb => by
    have n : b ≠ a := fun z => by rw [z] at hb; exact hb ta
    exact ⟨by rw [upd_ne n]; exact eb, setT_ne n⟩
  refine ⟨⟨setT t a (some (.tm hv.length)), fun b hb => ?_, fun i s hs => (h2 i s hs).keep (Same.refl _) kp, ⟨a, ho, rfl, upd_same, c, setT_same, e0⟩, h3.keep (Same.refl _) kp⟩, fun b o q => ?_, R.g0, R.nw, fun b o q n => ?_, fun b q => ?_, fun b q => ?_, R.len⟩
  · by_cases z : b = a
    · subst z; exact ⟨eG, by rw [upd_same]; simp, by rw [upd_same]; exact c.notup⟩
    · have hb' : t b ≠ none := by rw [setT_ne z] at hb; exact hb
      exact ⟨(h1 b hb').1, by rw [upd_ne z]; exact (h1 b hb').2⟩
  · have n : b ≠ a := fun z => by rw [z, eG] at q; cases q
    rw [upd_ne n]; exact R.sub _ _ q
  · have n' : b ≠ a := fun z => by rw [z, e0] at q; cases q
    rw [upd_ne n']; exact R.hs b o q n
  · have n' : b ≠ a := fun z => by rw [z] at q; exact R.ioH a q e
    rw [upd_ne n']; exact R.ioH b q
  · have n' : b ≠ a := fun z => by rw [z] at q; exact R.ioH a q e
    rw [upd_ne n']; exact R.ioT b q
/-- it is given away: read by all from now on -/
theorem Rep.give {ρ' : Rho} {hv' : Hv} (sub : Same G H) (g0 : Same B.G0 G) (nw : ∀ b, G b ≠ none → B.G0 b ≠ none ∨ B.H0 b = none ∨ Tp (B.H0 b)) (hs : ∀ b o, B.H0 b = some o → B.io ≠ some b → H b = some o) (ioH : ∀ b, B.io = some b → H b ≠ none) (ioT : ∀ b, B.io = some b → ¬ Tp (H b)) (len : σ.length = ρ'.length)
    (ht : ∀ b, t b ≠ none → G b = none ∧ H b ≠ none ∧ ¬ Tp (H b)) (eG : G a = none) (eH : H a = some ho) (e0 : B.H0 a = none)
    (h2 : ∀ i s, ρ'[i]? = some s → SlOk B (setT t a none) (upd G a ho) H i σ[i]? s) (h3 : HvsOk B (setT t a none) (upd G a ho) H σ hv') : Rep B hv' ρ' σ H (upd G a ho) := by
  refine ⟨⟨setT t a none, fun b hb => ?_, h2, h3⟩, fun b o q => ?_, g0.trans fun b o q => ?_, fun b hb => ?_, hs, ioH, ioT, len⟩
  · by_cases z : b = a
    · rw [z, setT_same] at hb; exact absurd rfl hb
    · rw [setT_ne z] at hb
      exact ⟨by rw [upd_ne z]; exact (ht b hb).1, (ht b hb).2⟩
  · by_cases z : b = a
    · subst z; rw [upd_same] at q; cases q; exact eH
    · rw [upd_ne z] at q; exact sub _ _ q
  · rw [upd_ne (ne_of_none q eG)]; exact q
  · by_cases z : b = a
    · subst z; exact .inr (.inl e0)
    · rw [upd_ne z] at hb; exact nw b hb
theorem same_updG (eG : G a = none) : Same G (upd G a ho) := fun b o q => by rw [upd_ne (ne_of_none q eG)]; exact q
theorem Rep.fzNew (R : Rep B ((v, .new d) :: hv) ρ σ H G) : ∃ G', Rep B ((v, .dat d) :: hv) ρ σ H G' := by
  obtain ⟨t, h1, h2, ⟨a, ho, rfl, eH, c, et, e0⟩, h3⟩ := R.ex
  have eG := (h1 a (by rw [et]; simp)).1
  have kp : ∀ b o, (t b ≠ none ∧ t b ≠ some (.tm hv.length)) → H b = some o → H b = some o ∧ setT t a none b = t b := fun b o hb eb => by
    have n : b ≠ a := fun z => by rw [z] at hb; exact hb.2 et
    exact ⟨eb, setT_ne n⟩
  refine ⟨upd G a ho, Rep.give R.sub R.g0 R.nw R.hs R.ioH R.ioT R.len h1 eG eH e0 (fun i s hs => ?_) ⟨(c.mono (same_updG eG)).rp upd_same, ?_⟩⟩
  · have h := h2 i s hs
    cases s with
    | un => trivial
    | dat d' => obtain ⟨v, e, r⟩ := h; exact ⟨v, e, r.mono (same_updG eG)⟩
    | own d' =>
      obtain ⟨b, hb, e, e1, c', e2, e3⟩ := h
      have n : b ≠ a := fun z => by rw [z, et] at e2; cases e2
      exact ⟨b, hb, e, e1, c'.mono (same_updG eG), by rw [setT_ne n]; exact e2, e3⟩
    | io d' =>
      obtain ⟨b, hb, e, e1, c', e2, e3⟩ := h
      have n : b ≠ a := fun z => by rw [z, et] at e2; cases e2
      exact ⟨b, hb, e, e1, c'.mono (same_updG eG), by rw [setT_ne n]; exact e2, e3⟩
    | lck d' =>
      obtain ⟨b, hb, o, e, e1, c', e2, e3⟩ := h
      have n : b ≠ a := fun z => by rw [z, et] at e2; cases e2
      exact ⟨b, hb, o, e, e1, c'.mono (same_updG eG), by rw [setT_ne n]; exact e2, e3⟩
  · have go : ∀ r : Hv, r.length ≤ hv.length → HvsOk B t G H σ r → HvsOk B (setT t a none) (upd G a ho) H σ r := by
      intro r
      induction r with
      | nil => intro _ _; trivial
      | cons x r ih =>
        intro hl hr
        obtain ⟨v', rv⟩ := x
        refine ⟨?_, ih (Nat.le_of_succ_le hl) hr.2⟩
        have h := hr.1
        cases rv with
        | dat d' => exact Rp.mono (same_updG eG) h
        | bor i => exact h
        | new d' =>
          obtain ⟨b, hb, e, e1, c', e2, e3⟩ := h
          have n : b ≠ a := fun z => by
            rw [z, et] at e2
            have q : hv.length = r.length := by injection e2 with e2; injection e2
            have hl' : r.length + 1 ≤ hv.length := hl
            omega
          exact ⟨b, hb, e, e1, c'.mono (same_updG eG), by rw [setT_ne n]; exact e2, e3⟩
        | lk d' =>
          obtain ⟨b, hb, o, i, e, e1, c', e2, e3⟩ := h
          have n : b ≠ a := fun z => by rw [z, et] at e2; cases e2
          exact ⟨b, hb, o, i, e, e1, c'.mono (same_updG eG), by rw [setT_ne n]; exact e2, e3⟩
    exact go hv (Nat.le_refl _) h3
end
end M
/-! M2: freezing, reading, assigning, changing: the steps of a frame. -/
namespace M
open PySem PySem.Spec PyProof.Rows L2

/-- a value in hand becomes a datum that all may read -/
def frz (rv : Rv) (ρ : Rho) : Option (D × Rho) := match rv with
  | .dat d => some (d, ρ)
  | .new d => some (d, ρ)
  | .bor i => match ρ[i]? with
    | some (.dat d) => some (d, ρ)
    | some (.own d) => some (d, ρ.set i (.dat d))
    | _ => none
  | .lk _ => none
def cont : Sl → Option D
  | .un => none
  | .dat d => some d
  | .own d => some d
  | .io d => some d
  | .lck d => some d
/-- what a value in hand is, to be read -/
def look (rv : Rv) (ρ : Rho) : Option D := match rv with
  | .dat d => some d
  | .new d => some d
  | .lk d => some d
  | .bor i => (ρ[i]?).bind cont
/-- what a slot will hold -/
def toS (rv : Rv) (ρ : Rho) : Option (Sl × Rho) := match rv with
  | .dat d => some (.dat d, ρ)
  | .new d => some (.own d, ρ)
  | .bor j => match ρ[j]? with
    | some (.dat d) => some (.dat d, ρ)
    | some (.own d) => some (.own d, ρ.set j .un)
    | _ => none
  | .lk _ => none
def free : Sl → Bool
  | .un => true
  | .dat _ => true
  | .own _ => true
  | _ => false
def asg (i : Nat) (rv : Rv) (ρ : Rho) : Option Rho := match ρ[i]? with
  | some s => if free s = true then (toS rv ρ).map fun p => p.2.set i p.1 else none
  | none => none
/-- a thing of one's own, to be changed -/
def mutS : Sl → Option D
  | .own d => some d
  | .io d => some d
  | _ => none
def putS : Sl → D → Sl
  | .io _, d => .io d
  | _, d => .own d

/-- read in H, its items in G -/
def Rh (c : Cn) (G H : Hp) (v : V) : D → Prop
  | .lst ds => ∃ (a : Addr) (xs : List V), v = .ref a ∧ SqL c.K H a xs ∧ Rps c G xs ds
  | .dk es => ∃ (a : Addr) (kvs : List (Key × V)), v = .ref a ∧ Rd H a (.dK kvs) ∧ kvs.map (·.1) = es.map (·.1) ∧ Rps c G (kvs.map (·.2)) (es.map (·.2))
  | .dt es => ∃ (a : Addr) (kvs : List (List Key × V)), v = .ref a ∧ Rd H a (.dT kvs) ∧ kvs.map (·.1) = es.map (·.1) ∧ Rps c G (kvs.map (·.2)) (es.map (·.2))
  | .dn es => ∃ (a : Addr) (kvs : List (Option Key × V)), v = .ref a ∧ Rd H a (dnO c a kvs) ∧ kvs.map (·.1) = es.map (·.1) ∧ Rps c G (kvs.map (·.2)) (es.map (·.2))
  | d => Rp c G v d
section
variable {B : Bs} {hv : Hv} {ρ ρ' : Rho} {σ : Sg} {H H' G G' : Hp} {t t' : Addr → Option Tag} {d : D} {v : V} {a : Addr} {ho : HO} {rv : Rv}
theorem Rp.rh {c : Cn} (s : Same G H) (h : Rp c G v d) : Rh c G H v d := by
  cases h with
  | lst h r => exact ⟨_, _, rfl, s.seq h, r⟩
  | tup h r => exact .tup h r
  | dk h l r => exact ⟨_, _, rfl, rd_mono s h, l, r⟩
  | dt h l r => exact ⟨_, _, rfl, rd_mono s h, l, r⟩
  | dn h l r => exact ⟨_, _, rfl, rd_mono s h, l, r⟩
  | non => exact .non
  | bl b => exact .bl b
  | int i => exact .int i
  | str x => exact .str x
  | kd h => exact .kd h
theorem Cont.rh {c : Cn} (h : Cont c G a ho d) (e : Rd H a ho) : Rh c G H (.ref a) d := by
  cases d with
  | lst ds => obtain ⟨xs, rfl, r⟩ := h; exact ⟨_, _, rfl, .inl e, r⟩
  | dk es => obtain ⟨kvs, rfl, l, r⟩ := h; exact ⟨_, _, rfl, e, l, r⟩
  | dt es => obtain ⟨kvs, rfl, l, r⟩ := h; exact ⟨_, _, rfl, e, l, r⟩
  | dn es => obtain ⟨kvs, rfl, l, r⟩ := h; exact ⟨_, _, rfl, e, l, r⟩
  | _ => exact h.elim
theorem HvOk.look {k : Nat} (hs : ∀ i s, ρ[i]? = some s → SlOk B t G H i σ[i]? s) (sub : Same G H) (h : HvOk B t G H σ k v rv) (e : look rv ρ = some d) : Rh B.c G H v d := by
  cases rv with
  | dat d' => simp only [M.look, Option.some.injEq] at e; subst e; exact Rp.rh sub h
  | new d' =>
    simp only [M.look, Option.some.injEq] at e; subst e
    obtain ⟨a, ho, rfl, e1, c, _⟩ := h
    exact c.rh (.inl e1)
  | lk d' =>
    simp only [M.look, Option.some.injEq] at e; subst e
    obtain ⟨a, ho, o, i, rfl, e1, c, _⟩ := h
    exact c.rh (.inr ⟨o, e1⟩)
  | bor i =>
    have hσ : σ[i]? = some (some v) := h
    simp only [M.look] at e
    cases q : ρ[i]? with
    | none => rw [q] at e; cases e
    | some s =>
      rw [q] at e
      have hi := hs i s q
      cases s with
      | un => cases e
      | dat d' =>
        simp only [Option.bind_some, cont, Option.some.injEq] at e; subst e
        obtain ⟨v', e1, r⟩ := hi
        rw [hσ] at e1; cases e1
        exact r.rh sub
      | own d' =>
        simp only [Option.bind_some, cont, Option.some.injEq] at e; subst e
        obtain ⟨a, ho, e1, e2, c, _⟩ := hi
        rw [hσ] at e1; cases e1
        exact c.rh (.inl e2)
      | io d' =>
        simp only [Option.bind_some, cont, Option.some.injEq] at e; subst e
        obtain ⟨a, ho, e1, e2, c, _⟩ := hi
        rw [hσ] at e1; cases e1
        exact c.rh (.inl e2)
      | lck d' =>
        simp only [Option.bind_some, cont, Option.some.injEq] at e; subst e
        obtain ⟨a, ho, o, e1, e2, c, _⟩ := hi
        rw [hσ] at e1; cases e1
        exact c.rh (.inr ⟨o, e2⟩)
theorem Rep.look (R : Rep B ((v, rv) :: hv) ρ σ H G) (e : look rv ρ = some d) : Rh B.c G H v d := by
  obtain ⟨t, h1, h2, h3, _⟩ := R.ex
  exact h3.look h2 R.sub e
theorem Rep.lookM {x : V × Rv} (R : Rep B hv ρ σ H G) (m : x ∈ hv) (e : M.look x.2 ρ = some d) : Rh B.c G H x.1 d := by
  obtain ⟨t, h1, h2, h3⟩ := R.ex
  obtain ⟨k, hk⟩ := h3.mem m
  exact hk.look h2 R.sub e
theorem set_get {α : Type} {l : List α} {i j : Nat} {x y : α} (h : (l.set i x)[j]? = some y) : (j = i ∧ y = x ∧ i < l.length) ∨ (j ≠ i ∧ l[j]? = some y) := by
  by_cases e : i = j
  · subst e
    left
    rw [List.getElem?_set_self'] at h
    cases q : l[i]? with
    | none => rw [q] at h; cases h
    | some z => rw [q] at h; cases h; exact ⟨rfl, rfl, (List.getElem?_eq_some_iff.mp q).1⟩
  · right
    rw [List.getElem?_set_ne e] at h
    exact ⟨fun z => e z.symm, h⟩
/-- what slot i owns becomes readable by all -/
theorem Rep.fzSlot {i : Nat} (R : Rep B hv ρ σ H G) (hi : ρ[i]? = some (.own d)) : ∃ G', Rep B hv (ρ.set i (.dat d)) σ H G' ∧ ∀ v, σ[i]? = some (some v) → Rp B.c G' v d := by
  obtain ⟨t, h1, h2, h3⟩ := R.ex
  obtain ⟨a, ho, es, eH, c, et, e0⟩ := h2 i _ hi
  have eG := (h1 a (by rw [et]; simp)).1
  have rp := (c.mono (same_updG (ho := ho) eG)).rp upd_same
  refine ⟨upd G a ho, Rep.give R.sub R.g0 R.nw R.hs R.ioH R.ioT (by rw [R.len, List.length_set]) h1 eG eH e0 (fun j s hs => ?_) ?_, fun v hv' => ?_⟩
  · rcases set_get hs with ⟨rfl, rfl, _⟩ | ⟨nj, hs⟩
    · exact ⟨_, es, rp⟩
    · have h := h2 j s hs
      cases s with
      | un => trivial
      | dat d' => obtain ⟨v, e, r⟩ := h; exact ⟨v, e, r.mono (same_updG eG)⟩
      | own d' =>
        obtain ⟨b, hb, e, e1, c', e2, e3⟩ := h
        have n : b ≠ a := fun z => by rw [z, et] at e2; injection e2 with e2; injection e2 with e2; exact nj e2.symm
        exact ⟨b, hb, e, e1, c'.mono (same_updG eG), by rw [setT_ne n]; exact e2, e3⟩
      | io d' =>
        obtain ⟨b, hb, e, e1, c', e2, e3⟩ := h
        have n : b ≠ a := fun z => by rw [z, et] at e2; injection e2 with e2; injection e2 with e2; exact nj e2.symm
        exact ⟨b, hb, e, e1, c'.mono (same_updG eG), by rw [setT_ne n]; exact e2, e3⟩
      | lck d' =>
        obtain ⟨b, hb, o, e, e1, c', e2, e3⟩ := h
        have n : b ≠ a := fun z => by rw [z, et] at e2; injection e2 with e2; injection e2 with e2; exact nj e2.symm
        exact ⟨b, hb, o, e, e1, c'.mono (same_updG eG), by rw [setT_ne n]; exact e2, e3⟩
  · have go : ∀ r : Hv, HvsOk B t G H σ r → HvsOk B (setT t a none) (upd G a ho) H σ r := by
      intro r
      induction r with
      | nil => intro _; trivial
      | cons x r ih =>
        intro hr
        obtain ⟨v', rv⟩ := x
        refine ⟨?_, ih hr.2⟩
        have h := hr.1
        cases rv with
        | dat d' => exact Rp.mono (same_updG eG) h
        | bor i => exact h
        | new d' =>
          obtain ⟨b, hb, e, e1, c', e2, e3⟩ := h
          have n : b ≠ a := fun z => by rw [z, et] at e2; cases e2
          exact ⟨b, hb, e, e1, c'.mono (same_updG eG), by rw [setT_ne n]; exact e2, e3⟩
        | lk d' =>
          obtain ⟨b, hb, o, i, e, e1, c', e2, e3⟩ := h
          have n : b ≠ a := fun z => by rw [z, eH] at e1; cases e1; exact c.nofrz rfl
          exact ⟨b, hb, o, i, e, e1, c'.mono (same_updG eG), by rw [setT_ne n]; exact e2, e3⟩
    exact go hv h3
  · rw [es] at hv'; cases hv'; exact rp
theorem Rep.frz (R : Rep B ((v, rv) :: hv) ρ σ H G) (e : frz rv ρ = some (d, ρ')) : ∃ G', Rep B ((v, .dat d) :: hv) ρ' σ H G' := by
  cases rv with
  | dat d' => simp only [M.frz, Option.some.injEq, Prod.mk.injEq] at e; obtain ⟨rfl, rfl⟩ := e; exact ⟨G, R⟩
  | new d' => simp only [M.frz, Option.some.injEq, Prod.mk.injEq] at e; obtain ⟨rfl, rfl⟩ := e; exact R.fzNew
  | lk d' => cases e
  | bor i =>
    simp only [M.frz] at e
    have hσ : σ[i]? = some (some v) := by obtain ⟨t, h1, h2, h3, _⟩ := R.ex; exact h3
    cases q : ρ[i]? with
    | none => rw [q] at e; cases e
    | some s =>
      rw [q] at e
      cases s with
      | un => cases e
      | dat d' =>
        simp only [Option.some.injEq, Prod.mk.injEq] at e; obtain ⟨rfl, rfl⟩ := e
        obtain ⟨t, h1, h2, h3⟩ := R.ex
        obtain ⟨v', e1, r⟩ := h2 i _ q
        rw [hσ] at e1; cases e1
        exact ⟨G, R.pop.dat r⟩
      | own d' =>
        simp only [Option.some.injEq, Prod.mk.injEq] at e; obtain ⟨rfl, rfl⟩ := e
        obtain ⟨G', R', h⟩ := R.pop.fzSlot q
        exact ⟨G', R'.dat (h v hσ)⟩
      | io d' => cases e
      | lck d' => cases e
/-- no hand leans on a slot -/
def NB (hv : Hv) : Prop := ∀ x ∈ hv, ∀ j, x.2 ≠ .bor j
theorem HvsOk.nb {σ' : Sg} : ∀ {hv : Hv}, NB hv → HvsOk B t G H σ hv → HvsOk B t G H σ' hv
  | [], _, _ => trivial
  | (v, rv) :: r, n, ⟨h1, h2⟩ => by
    refine ⟨?_, HvsOk.nb (fun x m => n x (List.mem_cons_of_mem _ m)) h2⟩
    cases rv with
    | dat d => exact h1
    | bor j => exact absurd rfl (n (v, .bor j) (List.mem_cons_self ..) j)
    | new d => exact h1
    | lk d => exact h1
/-- a datum goes to a slot -/
theorem Rep.setD {i : Nat} {s : Sl} (R : Rep B ((v, .dat d) :: hv) ρ σ H G) (n : NB hv) (hi : ρ[i]? = some s) (fs : M.free s = true) : Rep B hv (ρ.set i (.dat d)) (σ.set i (some v)) H G := by
  obtain ⟨t, h1, h2, h3, h4⟩ := R.ex
  have li : i < σ.length := by rw [R.len]; exact (List.getElem?_eq_some_iff.mp hi).1
  refine ⟨⟨t, h1, fun j s' hs => ?_, h4.nb n⟩, R.sub, R.g0, R.nw, R.hs, R.ioH, R.ioT, by rw [List.length_set, List.length_set, R.len]⟩
  rcases set_get hs with ⟨rfl, rfl, _⟩ | ⟨nj, hs⟩
  · exact ⟨v, by rw [List.getElem?_set_self li], h3⟩
  · rw [List.getElem?_set_ne (fun z => nj z.symm)]; exact h2 j s' hs
/-- an owned thing goes to a slot: its tag is turned; what bore the tag x holds it no more -/
theorem Rep.setO {i : Nat} {s : Sl} {ρ1 : Rho} (ht : ∀ b, t b ≠ none → G b = none ∧ H b ≠ none ∧ ¬ Tp (H b)) (h2 : ∀ j s, ρ1[j]? = some s → SlOk B t G H j σ[j]? s) (h3 : HvsOk B t G H σ hv)
    (sub : Same G H) (g0 : Same B.G0 G) (nw : ∀ b, G b ≠ none → B.G0 b ≠ none ∨ B.H0 b = none ∨ Tp (B.H0 b)) (hs : ∀ b o, B.H0 b = some o → B.io ≠ some b → H b = some o) (ioH : ∀ b, B.io = some b → H b ≠ none) (ioT : ∀ b, B.io = some b → ¬ Tp (H b)) (len : σ.length = ρ1.length)
    (n : NB hv) (hi : ρ1[i]? = some s) (eH : H a = some ho) (c : Cont B.c G a ho d) (e0 : B.H0 a = none) (eG : G a = none)
    (no : ∀ (j : Nat) (s : Sl), ρ1[j]? = some s → M.mutS s ≠ none → σ[j]? ≠ some (some (V.ref a))) (noh : ∀ x ∈ hv, ∀ d', x.2 = Rv.new d' → x.1 ≠ V.ref a) : Rep B hv (ρ1.set i (.own d)) (σ.set i (some (.ref a))) H G := by
  have li : i < σ.length := by rw [len]; exact (List.getElem?_eq_some_iff.mp hi).1
  have go : ∀ r : Hv, (∀ x ∈ r, ∀ d', x.2 = .new d' → x.1 ≠ .ref a) → HvsOk B t G H σ r → HvsOk B (setT t a (some (.sl i))) G H σ r := by
    intro r
    induction r with
    | nil => intro _ _; trivial
    | cons x r ih =>
      intro nn hr
      obtain ⟨v', rv⟩ := x
      refine ⟨?_, ih (fun y m => nn y (List.mem_cons_of_mem _ m)) hr.2⟩
      have h := hr.1
      cases rv with
      | dat d' => exact h
      | bor i => exact h
      | new d' =>
        obtain ⟨b, hb, e, e1, c', e2, e3⟩ := h
        have nb : b ≠ a := fun z => nn _ (List.mem_cons_self ..) d' rfl (by rw [← z]; exact e)
        exact ⟨b, hb, e, e1, c', by rw [setT_ne nb]; exact e2, e3⟩
      | lk d' =>
        obtain ⟨b, hb, o, i, e, e1, c', e2, e3⟩ := h
        have nb : b ≠ a := fun z => by rw [z, eH] at e1; cases e1; exact c.nofrz rfl
        exact ⟨b, hb, o, i, e, e1, c', by rw [setT_ne nb]; exact e2, e3⟩
  refine ⟨⟨setT t a (some (.sl i)), fun b hb => ?_, fun j s' hs' => ?_, (go hv noh h3).nb n⟩, sub, g0, nw, hs, ioH, ioT, by rw [List.length_set, List.length_set, len]⟩
  · by_cases z : b = a
    · subst z; exact ⟨eG, by rw [eH]; simp, by rw [eH]; exact c.notup⟩
    · rw [setT_ne z] at hb; exact ht b hb
  · rcases set_get hs' with ⟨rfl, rfl, _⟩ | ⟨nj, hs'⟩
    · exact ⟨a, ho, by rw [List.getElem?_set_self li], eH, c, setT_same, e0⟩
    · rw [List.getElem?_set_ne (fun z => nj z.symm)]
      have h := h2 j s' hs'
      cases s' with
      | un => trivial
      | dat d' => exact h
      | own d' =>
        have nn := no j _ hs' (by simp [M.mutS])
        obtain ⟨b, hb, e, e1, c', e2, e3⟩ := h
        have nb : b ≠ a := fun z => nn (by rw [← z]; exact e)
        exact ⟨b, hb, e, e1, c', by rw [setT_ne nb]; exact e2, e3⟩
      | io d' =>
        have nn := no j _ hs' (by simp [M.mutS])
        obtain ⟨b, hb, e, e1, c', e2, e3⟩ := h
        have nb : b ≠ a := fun z => nn (by rw [← z]; exact e)
        exact ⟨b, hb, e, e1, c', by rw [setT_ne nb]; exact e2, e3⟩
      | lck d' =>
        obtain ⟨b, hb, o, e, e1, c', e2, e3⟩ := h
        have nb : b ≠ a := fun z => by rw [z, eH] at e1; cases e1; exact c.nofrz rfl
        exact ⟨b, hb, o, e, e1, c', by rw [setT_ne nb]; exact e2, e3⟩
theorem Rep.setN {i : Nat} {s : Sl} (R : Rep B ((v, .new d) :: hv) ρ σ H G) (n : NB hv) (hi : ρ[i]? = some s) : Rep B hv (ρ.set i (.own d)) (σ.set i (some v)) H G := by
  obtain ⟨t, h1, h2, ⟨a, ho, rfl, eH, c, et, e0⟩, h4⟩ := R.ex
  have eG := (h1 a (by rw [et]; simp)).1
  refine Rep.setO h1 h2 h4 R.sub R.g0 R.nw R.hs R.ioH R.ioT R.len n hi eH c e0 eG (fun j s hs hm e => ?_) ?_
  · have h := h2 j s hs
    cases s with
    | own d' => obtain ⟨b, hb, e', e1, c', e2, e3⟩ := h; rw [e] at e'; cases e'; rw [et] at e2; cases e2
    | io d' => obtain ⟨b, hb, e', e1, c', e2, e3⟩ := h; rw [e] at e'; cases e'; rw [et] at e2; cases e2
    | un => exact hm rfl
    | dat d' => exact hm rfl
    | lck d' => exact hm rfl
  · have go : ∀ r : Hv, r.length ≤ hv.length → HvsOk B t G H σ r → ∀ x ∈ r, ∀ d', x.2 = .new d' → x.1 ≠ .ref a := by
      intro r
      induction r with
      | nil => intro _ _ x m; cases m
      | cons y r ih =>
        intro hl hr x m d' ex
        rcases List.mem_cons.mp m with rfl | m
        · have h := hr.1
          rw [ex] at h
          obtain ⟨b, hb, e, e1, c', e2, e3⟩ := h
          intro z
          rw [e] at z; cases z
          rw [et] at e2
          have q : hv.length = r.length := by injection e2 with e2; injection e2
          have hl' : r.length + 1 ≤ hv.length := hl
          omega
        · exact ih (Nat.le_of_succ_le hl) hr.2 x m d' ex
    exact go hv (Nat.le_refl _) h4
theorem Rep.forget {j : Nat} (R : Rep B hv ρ σ H G) : Rep B hv (ρ.set j .un) σ H G := by
  obtain ⟨t, h1, h2, h3⟩ := R.ex
  refine ⟨⟨t, h1, fun i s hs => ?_, h3⟩, R.sub, R.g0, R.nw, R.hs, R.ioH, R.ioT, by rw [List.length_set, R.len]⟩
  rcases set_get hs with ⟨rfl, rfl, _⟩ | ⟨_, hs⟩
  · trivial
  · exact h2 i s hs
theorem Rep.setB {i j : Nat} {s : Sl} (R : Rep B ((v, .bor j) :: hv) ρ σ H G) (n : NB hv) (hj : ρ[j]? = some (.own d)) (hi : ρ[i]? = some s) : Rep B hv ((ρ.set j .un).set i (.own d)) (σ.set i (some v)) H G := by
  obtain ⟨t, h1, h2, hb, h4⟩ := R.ex
  have hb : σ[j]? = some (some v) := hb
  obtain ⟨a, ho, e, eH, c, et, e0⟩ := h2 j _ hj
  rw [hb] at e; cases e
  have eG := (h1 a (by rw [et]; simp)).1
  have li := (List.getElem?_eq_some_iff.mp hi).1
  have hi' : ∃ s', (ρ.set j .un)[i]? = some s' := ⟨_, List.getElem?_eq_getElem (by rw [List.length_set]; exact li)⟩
  obtain ⟨s', hi'⟩ := hi'
  have Rf := R.pop.forget (j := j)
  refine Rep.setO (ρ1 := ρ.set j .un) h1 (fun i s hs => ?_) h4 R.sub R.g0 R.nw R.hs R.ioH R.ioT Rf.len n hi' eH c e0 eG (fun k s hs hm e => ?_) ?_
  · rcases set_get hs with ⟨rfl, rfl, _⟩ | ⟨_, hs⟩
    · trivial
    · exact h2 i s hs
  · rcases set_get hs with ⟨rfl, rfl, _⟩ | ⟨nk, hs⟩
    · exact hm rfl
    · have h := h2 k s hs
      cases s with
      | own d' => obtain ⟨b, hb, e', e1, c', e2, e3⟩ := h; rw [e] at e'; cases e'; rw [et] at e2; injection e2 with e2; injection e2 with e2; exact nk e2.symm
      | io d' => obtain ⟨b, hb, e', e1, c', e2, e3⟩ := h; rw [e] at e'; cases e'; rw [et] at e2; injection e2 with e2; injection e2 with e2; exact nk e2.symm
      | un => exact hm rfl
      | dat d' => exact hm rfl
      | lck d' => exact hm rfl
  · intro x m d' ex z
    obtain ⟨k, h⟩ := h4.mem m
    rw [ex] at h
    obtain ⟨b, hb, e, e1, c', e2, e3⟩ := h
    rw [e] at z; cases z
    rw [et] at e2; cases e2
theorem Rep.asg {i : Nat} (R : Rep B ((v, rv) :: hv) ρ σ H G) (n : NB hv) (e : asg i rv ρ = some ρ') : Rep B hv ρ' (σ.set i (some v)) H G := by
  simp only [M.asg] at e
  cases hi : ρ[i]? with
  | none => rw [hi] at e; cases e
  | some s =>
    rw [hi] at e
    by_cases fs : M.free s = true
    · simp only [fs, if_true] at e
      cases rv with
      | dat d => simp only [toS, Option.map_some, Option.some.injEq] at e; subst e; exact R.setD n hi fs
      | new d => simp only [toS, Option.map_some, Option.some.injEq] at e; subst e; exact R.setN n hi
      | lk d => cases e
      | bor j =>
        simp only [toS] at e
        cases hj : ρ[j]? with
        | none => rw [hj] at e; cases e
        | some sj =>
          rw [hj] at e
          cases sj with
          | dat d =>
            simp only [Option.map_some, Option.some.injEq] at e; subst e
            obtain ⟨G', R'⟩ := R.frz (d := d) (ρ' := ρ) (by simp only [M.frz, hj])
            have : Rep B ((v, .dat d) :: hv) ρ σ H G := by
              obtain ⟨t, h1, h2, h3⟩ := R.ex
              obtain ⟨v', e1, r⟩ := h2 j _ hj
              have h3' : σ[j]? = some (some v) := h3.1
              rw [h3'] at e1; cases e1
              exact R.pop.dat r
            exact this.setD n hi fs
          | own d => simp only [Option.map_some, Option.some.injEq] at e; subst e; exact R.setB n hj hi
          | un => cases e
          | io d => cases e
          | lck d => cases e
    · simp only [fs, if_false] at e; cases e
/-- a thing of slot i's own -/
theorem Rep.mut {i : Nat} {s : Sl} (R : Rep B hv ρ σ H G) (hi : ρ[i]? = some s) (m : mutS s = some d) : ∃ a ho, σ[i]? = some (some (.ref a)) ∧ H a = some ho ∧ Cont B.c G a ho d := by
  obtain ⟨t, h1, h2, h3⟩ := R.ex
  have h := h2 i s hi
  cases s with
  | own d' => simp only [M.mutS, Option.some.injEq] at m; subst m; obtain ⟨a, ho, e, e1, c, _⟩ := h; exact ⟨a, ho, e, e1, c⟩
  | io d' => simp only [M.mutS, Option.some.injEq] at m; subst m; obtain ⟨a, ho, e, e1, c, _⟩ := h; exact ⟨a, ho, e, e1, c⟩
  | un => cases m
  | dat d' => cases m
  | lck d' => cases m
/-- it is changed -/
theorem Rep.write {i : Nat} {s : Sl} {d' : D} {ho' : HO} (R : Rep B hv ρ σ H G) (hi : ρ[i]? = some s) (m : mutS s = some d) (es : σ[i]? = some (some (.ref a))) (c' : Cont B.c G a ho' d') : Rep B hv (ρ.set i (putS s d')) σ (upd H a ho') G := by
  obtain ⟨t, h1, h2, h3⟩ := R.ex
  have h := h2 i s hi
  obtain ⟨ho, eH, c, et, hor⟩ : ∃ ho, H a = some ho ∧ Cont B.c G a ho d ∧ t a = some (.sl i) ∧ ((B.H0 a = none ∧ putS s d' = .own d') ∨ (B.io = some a ∧ putS s d' = .io d')) := by
    cases s with
    | own d0 => simp only [M.mutS, Option.some.injEq] at m; subst m; obtain ⟨b, ho, e, e1, c, e2, e3⟩ := h; rw [es] at e; cases e; exact ⟨ho, e1, c, e2, .inl ⟨e3, rfl⟩⟩
    | io d0 => simp only [M.mutS, Option.some.injEq] at m; subst m; obtain ⟨b, ho, e, e1, c, e2, e3⟩ := h; rw [es] at e; cases e; exact ⟨ho, e1, c, e2, .inr ⟨e3, rfl⟩⟩
    | un => cases m
    | dat d0 => cases m
    | lck d0 => cases m
  have eG := (h1 a (by rw [et]; simp)).1
  refine ⟨⟨t, fun b hb => ⟨(h1 b hb).1, ?_⟩, fun j s' hs => ?_, ?_⟩, fun b o q => ?_, R.g0, R.nw, fun b o q nio => ?_, fun b q => ?_, fun b q => ?_, by rw [List.length_set, R.len]⟩
  · by_cases z : b = a
    · rw [z, upd_same]; exact ⟨by simp, c'.notup⟩
    · rw [upd_ne z]; exact (h1 b hb).2
  · rcases set_get hs with ⟨rfl, rfl, _⟩ | ⟨nj, hs⟩
    · rcases hor with ⟨e0, e⟩ | ⟨e0, e⟩
      · rw [e]; exact ⟨a, ho', es, upd_same, c', et, e0⟩
      · rw [e]; exact ⟨a, ho', es, upd_same, c', et, e0⟩
    · have h := h2 j s' hs
      cases s' with
      | un => trivial
      | dat d' => exact h
      | own d' =>
        obtain ⟨b, hb, e, e1, c', e2, e3⟩ := h
        have nb : b ≠ a := fun z => by rw [z, et] at e2; injection e2 with e2; injection e2 with e2; exact nj e2.symm
        exact ⟨b, hb, e, by rw [upd_ne nb]; exact e1, c', e2, e3⟩
      | io d' =>
        obtain ⟨b, hb, e, e1, c', e2, e3⟩ := h
        have nb : b ≠ a := fun z => by rw [z, et] at e2; injection e2 with e2; injection e2 with e2; exact nj e2.symm
        exact ⟨b, hb, e, by rw [upd_ne nb]; exact e1, c', e2, e3⟩
      | lck d' =>
        obtain ⟨b, hb, o, e, e1, c', e2, e3⟩ := h
        have nb : b ≠ a := fun z => by rw [z, et] at e2; injection e2 with e2; injection e2 with e2; exact nj e2.symm
        exact ⟨b, hb, o, e, by rw [upd_ne nb]; exact e1, c', e2, e3⟩
  · have go : ∀ r : Hv, HvsOk B t G H σ r → HvsOk B t G (upd H a ho') σ r := by
      intro r
      induction r with
      | nil => intro _; trivial
      | cons x r ih =>
        intro hr
        obtain ⟨v', rv⟩ := x
        refine ⟨?_, ih hr.2⟩
        have h := hr.1
        cases rv with
        | dat d' => exact h
        | bor i => exact h
        | new d' =>
          obtain ⟨b, hb, e, e1, c', e2, e3⟩ := h
          have nb : b ≠ a := fun z => by rw [z, et] at e2; cases e2
          exact ⟨b, hb, e, by rw [upd_ne nb]; exact e1, c', e2, e3⟩
        | lk d' =>
          obtain ⟨b, hb, o, i, e, e1, c', e2, e3⟩ := h
          have nb : b ≠ a := fun z => by rw [z, eH] at e1; cases e1; exact c.nofrz rfl
          exact ⟨b, hb, o, i, e, by rw [upd_ne nb]; exact e1, c', e2, e3⟩
    exact go hv h3
  · have nb : b ≠ a := fun z => by rw [z, eG] at q; cases q
    rw [upd_ne nb]; exact R.sub _ _ q
  · have nb : b ≠ a := fun z => by
      rcases hor with ⟨e0, _⟩ | ⟨e0, _⟩
      · rw [z, e0] at q; cases q
      · exact nio (by rw [z]; exact e0)
    rw [upd_ne nb]; exact R.hs b o q nio
  · by_cases z : b = a
    · rw [z, upd_same]; simp
    · rw [upd_ne z]; exact R.ioH b q
  · by_cases z : b = a
    · rw [z, upd_same]; exact c'.notup
    · rw [upd_ne z]; exact R.ioT b q
end
end M
/-! M3: expressions as functions of the slots. -/
namespace M
open PySem PySem.Spec PyProof.Rows L2

abbrev ME := Rho → Option (Rv × Rho)
abbrev MD := Rho → Option (D × Rho)
abbrev MB := Rho → Option (Bool × Rho)
abbrev MA := Rho → Option (List D × Rho)

/-! ### readings -/
def tM (B : Bs) (f : ME) : TE := fun σ H Q => ∃ hv ρ G, Rep B hv ρ σ H G ∧ ∃ rv ρ', f ρ = some (rv, ρ') ∧ ∀ v H' G', Rep B ((v, rv) :: hv) ρ' σ H' G' → Q v H'
def tD (B : Bs) (f : MD) : TE := fun σ H Q => ∃ hv ρ G, Rep B hv ρ σ H G ∧ ∃ d ρ', f ρ = some (d, ρ') ∧ ∀ v H' G', Rep B ((v, .dat d) :: hv) ρ' σ H' G' → Q v H'
def tT (B : Bs) (f : MB) : TT := fun σ H Q => ∃ hv ρ G, Rep B hv ρ σ H G ∧ ∃ b ρ', f ρ = some (b, ρ') ∧ ∀ H' G', Rep B hv ρ' σ H' G' → Q b H'
def tA (B : Bs) (f : MA) : TA := fun σ H Q => ∃ hv ρ G, Rep B hv ρ σ H G ∧ ∃ ds ρ', f ρ = some (ds, ρ') ∧ ∀ vs H' G', Rep B hv ρ' σ H' G' → Rps B.c G' vs ds → Q vs H'
abbrev PM (X : Cx) (B : Bs) (e : Expr) (f : ME) : Prop := PE X e (tM B f)
abbrev PD (X : Cx) (B : Bs) (e : Expr) (f : MD) : Prop := PE X e (tD B f)
abbrev PB (X : Cx) (B : Bs) (e : Expr) (f : MB) : Prop := PT X e (tT B f)
theorem _root_.L2.PE.wk {X : Cx} {e : Expr} {t t' : TE} (h : PE X e t) (w : ∀ σ H Q, t' σ H Q → t σ H Q) : PE X e t' := ⟨fun pins s σ H Q I q => h.run pins s σ H Q I (w _ _ _ q)⟩
theorem _root_.L2.PT.wk {X : Cx} {e : Expr} {t t' : TT} (h : PT X e t) (w : ∀ σ H Q, t' σ H Q → t σ H Q) : PT X e t' := ⟨fun pins s σ H Q I q => h.run pins s σ H Q I (w _ _ _ q)⟩
theorem _root_.L2.PW.wk {X : Cx} {e : Expr} {t t' : TT} (h : PW X e t) (w : ∀ σ H Q, t' σ H Q → t σ H Q) : PW X e t' := ⟨fun wh pins s σ H Q I q => h.run wh pins s σ H Q I (w _ _ _ q)⟩
theorem _root_.L2.PA.wk {X : Cx} {e : List Expr} {t t' : TA} (h : PA X e t) (w : ∀ σ H Q, t' σ H Q → t σ H Q) : PA X e t' := ⟨fun pos pins s σ H Q I q => h.run pos pins s σ H Q I (w _ _ _ q)⟩

/-! ### unpacking -/
theorem bnd {α β : Type} {o : Option α} {f : α → Option β} {b : β} (h : o.bind f = some b) : ∃ a, o = some a ∧ f a = some b := by
  cases o with
  | none => cases h
  | some a => exact ⟨a, rfl, h⟩
theorem mpp {α β : Type} {o : Option α} {f : α → β} {b : β} (h : o.map f = some b) : ∃ a, o = some a ∧ f a = b := by
  cases o with
  | none => cases h
  | some a => exact ⟨a, rfl, Option.some.inj h⟩

section
variable {X : Cx} {B : Bs} {e a b : Expr} {es : List Expr} {f g : ME} {fa fb : MD} {pos : Pos}
/-! ### between the kinds of readings -/
def fz (f : ME) : MD := fun ρ => (f ρ).bind fun p => frz p.1 p.2
def upE (f : MD) : ME := fun ρ => (f ρ).map fun p => (.dat p.1, p.2)
theorem pd_fz (h : PM X B e f) : PD X B e (fz f) := h.wk fun σ H Q ⟨hv, ρ, G, R, d, ρ', hf, k⟩ => by
  obtain ⟨⟨rv, ρ1⟩, h1, h2⟩ := bnd hf
  exact ⟨hv, ρ, G, R, rv, ρ1, h1, fun v H' G' R' => by
    obtain ⟨G2, R2⟩ := R'.frz h2
    exact k v H' G2 R2⟩
theorem pm_up (h : PD X B e fa) : PM X B e (upE fa) := h.wk fun σ H Q ⟨hv, ρ, G, R, rv, ρ', hf, k⟩ => by
  obtain ⟨⟨d, ρ1⟩, h1, h2⟩ := mpp hf
  cases h2
  exact ⟨hv, ρ, G, R, d, ρ1, h1, fun v H' G' R' => k v H' G' R'⟩
/-- a bool as a test -/
def asB (f : MD) : MB := fun ρ => (f ρ).bind fun p => match p.1 with
  | .bl b => some (b, p.2)
  | _ => none
theorem pb_val (h : PD X B e fa) (he : ∀ whole, isTrue e X.env whole = (do let v ← whole; standAt e.pos; holding [v] (truthy v)) := by intro _; rfl) : PB X B e (asB fa) := (pt_val h he).wk fun σ H Q ⟨hv, ρ, G, R, b, ρ', hf, k⟩ => by
  obtain ⟨⟨d, ρ1⟩, h1, h2⟩ := bnd hf
  refine ⟨hv, ρ, G, R, d, ρ1, h1, fun v H' G' R' => ?_⟩
  have r := R'.top
  cases d <;> simp only [Option.some.injEq, Prod.mk.injEq, reduceCtorEq] at h2
  obtain ⟨rfl, rfl⟩ := h2
  cases r
  exact ⟨_, rfl, k H' G' R'.pop⟩
/-- the same of a comparison -/
theorem tt_of {t : TE} (w : ∀ σ H Q, tD B fa σ H Q → t σ H Q) (h : PT X e (tTest t)) : PB X B e (asB fa) := h.wk fun σ H Q ⟨hv, ρ, G, R, b, ρ', hf, k⟩ => by
  obtain ⟨⟨d, ρ1⟩, h1, h2⟩ := bnd hf
  refine w _ _ _ ⟨hv, ρ, G, R, d, ρ1, h1, fun v H' G' R' => ?_⟩
  have r := R'.top
  cases d <;> simp only [Option.some.injEq, Prod.mk.injEq, reduceCtorEq] at h2
  obtain ⟨rfl, rfl⟩ := h2
  cases r
  exact ⟨_, rfl, k H' G' R'.pop⟩

/-! ### names and constants -/
def vr (i : Nat) : ME := fun ρ => match ρ[i]? with
  | some .un => none
  | some (.dat d) => some (.dat d, ρ)
  | some _ => some (.bor i, ρ)
  | none => none
theorem pm_var (i : Nat) {x : Str} (hN : X.N[i]? = some x := by rfl) (hv : Vis X.env.scope x := by first | exact Or.inl rfl | exact Or.inr (Or.inl rfl) | exact Or.inr (Or.inr rfl)) (hd : (x == ("__debug__" : Str)) = false := by decide)
    (hcd : (x == ("__classdict__" : Str)) = false := by decide) : PM X B (.Name x pos) (vr i) := (pe_var hN hv hd hcd).wk fun σ H Q ⟨hv, ρ, G, R, rv, ρ', hf, k⟩ => by
  obtain ⟨t, h1, h2, h3⟩ := R.ex
  simp only [vr] at hf
  cases q : ρ[i]? with
  | none => rw [q] at hf; cases hf
  | some s =>
    rw [q] at hf
    have hs := h2 i s q
    cases s with
    | un => cases hf
    | dat d =>
      simp only [Option.some.injEq, Prod.mk.injEq] at hf; obtain ⟨rfl, rfl⟩ := hf
      obtain ⟨v, e, r⟩ := hs
      exact ⟨v, e, k v H G (R.dat r)⟩
    | own d =>
      simp only [Option.some.injEq, Prod.mk.injEq] at hf; obtain ⟨rfl, rfl⟩ := hf
      obtain ⟨a, ho, e, _⟩ := hs
      exact ⟨_, e, k _ H G ⟨⟨t, h1, h2, e, h3⟩, R.sub, R.g0, R.nw, R.hs, R.ioH, R.ioT, R.len⟩⟩
    | io d =>
      simp only [Option.some.injEq, Prod.mk.injEq] at hf; obtain ⟨rfl, rfl⟩ := hf
      obtain ⟨a, ho, e, _⟩ := hs
      exact ⟨_, e, k _ H G ⟨⟨t, h1, h2, e, h3⟩, R.sub, R.g0, R.nw, R.hs, R.ioH, R.ioT, R.len⟩⟩
    | lck d =>
      simp only [Option.some.injEq, Prod.mk.injEq] at hf; obtain ⟨rfl, rfl⟩ := hf
      obtain ⟨a, ho, o, e, _⟩ := hs
      exact ⟨_, e, k _ H G ⟨⟨t, h1, h2, e, h3⟩, R.sub, R.g0, R.nw, R.hs, R.ioH, R.ioT, R.len⟩⟩
def cst (d : D) : MD := fun ρ => some (d, ρ)
theorem pd_c {v : V} {d : D} (h : PE X e (tC v)) (r : ∀ G, Rp B.c G v d) : PD X B e (cst d) := h.wk fun σ H Q ⟨hv, ρ, G, R, d', ρ', hf, k⟩ => by
  simp only [cst, Option.some.injEq, Prod.mk.injEq] at hf; obtain ⟨rfl, rfl⟩ := hf
  exact k v H G (R.dat (r G))
theorem pd_int {i : Int} {j : Nat} : PD X B (.Constant (.int i) j pos) (cst (.int i)) := pd_c pe_int fun _ => .int i
theorem pd_bl {b : Bool} {j : Nat} : PD X B (.Constant (.bool b) j pos) (cst (.bl b)) := pd_c pe_bl fun _ => .bl b
theorem pd_non {j : Nat} : PD X B (.Constant .none j pos) (cst .non) := pd_c pe_non fun _ => .non
theorem pd_str {x : Str} {j : Nat} : PD X B (.Constant (.str x) j pos) (cst (.str x)) := pd_c pe_str fun _ => .str x
/-- a module's constant that is an int (or a text) -/
theorem pd_glob {x : Str} {i : Int} {u : Value} (hg : Gl X x) (hm : X.mg x = some u) (r : RelV (.int i) u) (hd : (x == ("__debug__" : Str)) = false := by decide) : PD X B (.Name x pos) (cst (.int i)) := pd_c (pe_glob hg hm r hd) fun _ => .int i

/-! ### two operands -/
def m2 (o : D → D → Option D) (fa fb : MD) : MD := fun ρ => (fa ρ).bind fun p => (fb p.2).bind fun q => (o p.1 q.1).map fun d => (d, q.2)
/-- what an operation on values makes of data: nothing new is laid -/
def OpD (B : Bs) (r : R2) (o : D → D → Option D) : Prop :=
  ∀ (G H : Hp) (v w : V) (x y d : D) (Q : VK), Same G H → Rp B.c G v x → Rp B.c G w y → o x y = some d → (∀ u, Rp B.c G u d → Q u H) → r v w H Q
theorem m2_wk {r : R2} {o : D → D → Option D} (ho : OpD B r o) : ∀ σ H Q, tD B (m2 o fa fb) σ H Q → tOp r (tD B fa) (tD B fb) σ H Q := fun σ H Q ⟨hv, ρ, G, R, d, ρ', hf, k⟩ => by
  obtain ⟨⟨x, ρ1⟩, h1, hf⟩ := bnd hf
  obtain ⟨⟨y, ρ2⟩, h2, hf⟩ := bnd hf
  obtain ⟨d', h3, hf⟩ := mpp hf
  cases hf
  refine ⟨hv, ρ, G, R, x, ρ1, h1, fun v H1 G1 R1 => ⟨_, ρ1, G1, R1, y, ρ2, h2, fun w H2 G2 R2 => ?_⟩⟩
  exact ho G2 H2 v w x y _ _ R2.sub R2.pop.top R2.top h3 fun u ru => k u H2 G2 (R2.pop.pop.dat ru)
theorem pd_op {op : Operator} {r : R2} {o : D → D → Option D} (hr : OpR X (binaryOp op) r) (ho : OpD B r o) (ha : PD X B a fa) (hb : PD X B b fb) : PD X B (.BinOp a op b pos) (m2 o fa fb) := (pe_op hr ha hb).wk (m2_wk ho)
theorem pd_cmp {op : CmpOp} {r : R2} {o : D → D → Option D} (hr : OpR X (compareOp op) r) (ho : OpD B r o) (ha : PD X B a fa) (hb : PD X B b fb) (hm : behindInMarks op b = false) : PD X B (.Compare a [op] [b] pos) (m2 o fa fb) := (pe_cmpR hr ha hb hm).wk (m2_wk ho)
theorem pb_cmp {op : CmpOp} {r : R2} {o : D → D → Option D} (hr : OpR X (compareOp op) r) (ho : OpD B r o) (ha : PD X B a fa) (hb : PD X B b fb) (hm : behindInMarks op b = false) : PB X B (.Compare a [op] [b] pos) (asB (m2 o fa fb)) := tt_of (m2_wk ho) (pt_cmpR hr ha hb hm)
/-- .. where a new thing is laid; the operands are read -/
def n2 (o : D → D → Option D) (f g : ME) : ME := fun ρ => (f ρ).bind fun p => (g p.2).bind fun q => (look p.1 q.2).bind fun x => (look q.1 q.2).bind fun y => (o x y).map fun d => (.new d, q.2)
def OpN (B : Bs) (r : R2) (o : D → D → Option D) : Prop :=
  ∀ (G H : Hp) (v w : V) (x y d : D) (Q : VK), Same G H → Rh B.c G H v x → Rh B.c G H w y → o x y = some d → (∀ p ho, H p = none → Cont B.c G p ho d → Q (.ref p) (upd H p ho)) → r v w H Q
theorem pm_opN {op : Operator} {r : R2} {o : D → D → Option D} (hr : OpR X (binaryOp op) r) (ho : OpN B r o) (ha : PM X B a f) (hb : PM X B b g) : PM X B (.BinOp a op b pos) (n2 o f g) := (pe_op hr ha hb).wk fun σ H Q ⟨hv, ρ, G, R, rv, ρ', hf, k⟩ => by
  obtain ⟨⟨x, ρ1⟩, h1, hf⟩ := bnd hf
  obtain ⟨⟨y, ρ2⟩, h2, hf⟩ := bnd hf
  obtain ⟨dx, h3, hf⟩ := bnd hf
  obtain ⟨dy, h4, hf⟩ := bnd hf
  obtain ⟨d', h5, hf⟩ := mpp hf
  cases hf
  refine ⟨hv, ρ, G, R, x, ρ1, h1, fun v H1 G1 R1 => ⟨_, ρ1, G1, R1, y, ρ2, h2, fun w H2 G2 R2 => ?_⟩⟩
  exact ho G2 H2 v w dx dy _ _ R2.sub (R2.pop.look h3) (R2.look h4) h5 fun p hob hp c => k _ _ _ (R2.pop.pop.new hp c)

/-! ### one operand -/
def m1 (o : D → Option D) (f : ME) : MD := fun ρ => (f ρ).bind fun p => (look p.1 p.2).bind fun x => (o x).map fun d => (d, p.2)
def n1 (o : D → Option D) (f : ME) : ME := fun ρ => (f ρ).bind fun p => (look p.1 p.2).bind fun x => (o x).map fun d => (.new d, p.2)
abbrev R1 := V → Hp → VK → Prop
def UnD (B : Bs) (r : R1) (o : D → Option D) : Prop :=
  ∀ (G H : Hp) (v : V) (x d : D) (Q : VK), Same G H → Rh B.c G H v x → o x = some d → (∀ u, Rp B.c G u d → Q u H) → r v H Q
def UnN (B : Bs) (r : R1) (o : D → Option D) : Prop :=
  ∀ (G H : Hp) (v : V) (x d : D) (Q : VK), Same G H → Rh B.c G H v x → o x = some d → (∀ p ho, H p = none → Cont B.c G p ho d → Q (.ref p) (upd H p ho)) → r v H Q
theorem m1_wk {r : R1} {o : D → Option D} (ho : UnD B r o) : ∀ σ H Q, tD B (m1 o f) σ H Q → tM B f σ H fun x H1 => r x H1 Q := fun σ H Q ⟨hv, ρ, G, R, d, ρ', hf, k⟩ => by
  obtain ⟨⟨x, ρ1⟩, h1, hf⟩ := bnd hf
  obtain ⟨dx, h3, hf⟩ := bnd hf
  obtain ⟨d', h5, hf⟩ := mpp hf
  cases hf
  exact ⟨hv, ρ, G, R, x, ρ1, h1, fun v H1 G1 R1 => ho G1 H1 v dx _ _ R1.sub (R1.look h3) h5 fun u ru => k u H1 G1 (R1.pop.dat ru)⟩
theorem n1_wk {r : R1} {o : D → Option D} (ho : UnN B r o) : ∀ σ H Q, tM B (n1 o f) σ H Q → tM B f σ H fun x H1 => r x H1 Q := fun σ H Q ⟨hv, ρ, G, R, d, ρ', hf, k⟩ => by
  obtain ⟨⟨x, ρ1⟩, h1, hf⟩ := bnd hf
  obtain ⟨dx, h3, hf⟩ := bnd hf
  obtain ⟨d', h5, hf⟩ := mpp hf
  cases hf
  exact ⟨hv, ρ, G, R, x, ρ1, h1, fun v H1 G1 R1 => ho G1 H1 v dx _ _ R1.sub (R1.look h3) h5 fun p hob hp c => k _ _ _ (R1.pop.new hp c)⟩
theorem pd_un {op : UnaryOp} {r : R1} {o : D → Option D} (hr : UnR X (unaryOp op) r) (ho : UnD B r o) (ha : PM X B a f) : PD X B (.UnaryOp op a pos) (m1 o f) := (pe_un hr ha).wk (m1_wk ho)
/-- one argument of a built-in -/
def rL (r : List V → Hp → VK → Prop) : R1 := fun v H Q => r [v] H Q
theorem pd_b1 {id : String} {x : Str} {p : Pos} {r : List V → Hp → VK → Prop} {o : D → Option D} (hc : CallR X (.builtin id) r) (ho : UnD B (rL r) o) (hg : Gl X x) (hm : X.mg x = none) (hv : bootBuiltins x = some (.builtin id)) (ha : PM X B e f) (hn : x ≠ "__name__" := by decide) (hdb : (x == ("__debug__" : Str)) = false := by decide)
    (he : starEach (e :: []) X.env = (false, eval e X.env) :: starEach [] X.env := by rfl) (hpl : (backTo pos (starEach [] X.env)).any (·.1) = false := by rfl) : PD X B (.Call (.Name x p) (e :: []) [] pos) (m1 o f) :=
  (pe_callB hc hg hm hv (pa_cons ha pa_nil he) hn hdb he hpl).wk (m1_wk ho)
theorem pd_t1 {T : String} {x : Str} {p : Pos} {r : List V → Hp → VK → Prop} {o : D → Option D} (hc : CallR X (.type T) r) (ho : UnD B (rL r) o) (hg : Gl X x) (hm : X.mg x = none) (hv : bootBuiltins x = some (.type T)) (ha : PM X B e f) (hn : x ≠ "__name__" := by decide) (hdb : (x == ("__debug__" : Str)) = false := by decide)
    (he : starEach (e :: []) X.env = (false, eval e X.env) :: starEach [] X.env := by rfl) (hpl : (backTo pos (starEach [] X.env)).any (·.1) = false := by rfl) : PD X B (.Call (.Name x p) (e :: []) [] pos) (m1 o f) :=
  (pe_callTy hc hg hm hv (pa_cons ha pa_nil he) hn hdb he hpl).wk (m1_wk ho)
theorem pm_b1 {id : String} {x : Str} {p : Pos} {r : List V → Hp → VK → Prop} {o : D → Option D} (hc : CallR X (.builtin id) r) (ho : UnN B (rL r) o) (hg : Gl X x) (hm : X.mg x = none) (hv : bootBuiltins x = some (.builtin id)) (ha : PM X B e f) (hn : x ≠ "__name__" := by decide) (hdb : (x == ("__debug__" : Str)) = false := by decide)
    (he : starEach (e :: []) X.env = (false, eval e X.env) :: starEach [] X.env := by rfl) (hpl : (backTo pos (starEach [] X.env)).any (·.1) = false := by rfl) : PM X B (.Call (.Name x p) (e :: []) [] pos) (n1 o f) :=
  (pe_callB hc hg hm hv (pa_cons ha pa_nil he) hn hdb he hpl).wk (n1_wk ho)
theorem pm_t1 {T : String} {x : Str} {p : Pos} {r : List V → Hp → VK → Prop} {o : D → Option D} (hc : CallR X (.type T) r) (ho : UnN B (rL r) o) (hg : Gl X x) (hm : X.mg x = none) (hv : bootBuiltins x = some (.type T)) (ha : PM X B e f) (hn : x ≠ "__name__" := by decide) (hdb : (x == ("__debug__" : Str)) = false := by decide)
    (he : starEach (e :: []) X.env = (false, eval e X.env) :: starEach [] X.env := by rfl) (hpl : (backTo pos (starEach [] X.env)).any (·.1) = false := by rfl) : PM X B (.Call (.Name x p) (e :: []) [] pos) (n1 o f) :=
  (pe_callTy hc hg hm hv (pa_cons ha pa_nil he) hn hdb he hpl).wk (n1_wk ho)

/-! ### and, or, not, a if t else b -/
variable {tf tg : MB} {rest : List Expr}
def mAnd (f g : MB) : MB := fun ρ => (f ρ).bind fun p => if p.1 = true then g p.2 else some (false, p.2)
def mOr (f g : MB) : MB := fun ρ => (f ρ).bind fun p => if p.1 = true then some (true, p.2) else g p.2
def mNot (f : MB) : MB := fun ρ => (f ρ).map fun p => (!p.1, p.2)
abbrev PWB (X : Cx) (B : Bs) (e : Expr) (f : MB) : Prop := PW X e (tT B f)
theorem pw_and1' (h : PB X B a tf) : PWB X B (.BoolOp .And [a] pos) tf := pw_and1 h
theorem pw_or1' (h : PB X B a tf) : PWB X B (.BoolOp .Or [a] pos) tf := pw_or1 h
theorem pw_and' (ha : PB X B a tf) (hb : PWB X B (.BoolOp .And (b :: rest) pos) tg) : PWB X B (.BoolOp .And (a :: b :: rest) pos) (mAnd tf tg) := (pw_and ha hb).wk fun σ H Q ⟨hv, ρ, G, R, c, ρ', hf, k⟩ => by
  obtain ⟨⟨x, ρ1⟩, h1, hf⟩ := bnd hf
  refine ⟨hv, ρ, G, R, x, ρ1, h1, fun H1 G1 R1 => ?_⟩
  cases x with
  | true => exact ⟨hv, ρ1, G1, R1, c, ρ', hf, k⟩
  | false => cases hf; exact k _ _ R1
theorem pw_or' (ha : PB X B a tf) (hb : PWB X B (.BoolOp .Or (b :: rest) pos) tg) : PWB X B (.BoolOp .Or (a :: b :: rest) pos) (mOr tf tg) := (pw_or ha hb).wk fun σ H Q ⟨hv, ρ, G, R, c, ρ', hf, k⟩ => by
  obtain ⟨⟨x, ρ1⟩, h1, hf⟩ := bnd hf
  refine ⟨hv, ρ, G, R, x, ρ1, h1, fun H1 G1 R1 => ?_⟩
  cases x with
  | true => cases hf; exact k _ _ R1
  | false => exact ⟨hv, ρ1, G1, R1, c, ρ', hf, k⟩
theorem pb_not (ha : PB X B a tf) : PB X B (.UnaryOp .Not a pos) (mNot tf) := (pt_not ha).wk fun σ H Q ⟨hv, ρ, G, R, c, ρ', hf, k⟩ => by
  obtain ⟨⟨x, ρ1⟩, h1, hf⟩ := mpp hf
  cases hf
  exact ⟨hv, ρ, G, R, x, ρ1, h1, fun H1 G1 R1 => k _ _ R1⟩
/-- as values -/
def vAnd (f g : MD) : MD := fun ρ => (f ρ).bind fun p => match p.1 with
  | .bl b => if b = true then g p.2 else some (.bl false, p.2)
  | _ => none
def vOr (f g : MD) : MD := fun ρ => (f ρ).bind fun p => match p.1 with
  | .bl b => if b = true then some (.bl true, p.2) else g p.2
  | _ => none
def vNot (f : MD) : MD := fun ρ => (f ρ).bind fun p => match p.1 with
  | .bl b => some (.bl (!b), p.2)
  | _ => none
theorem pd_one {op : BoolOp} (h : PD X B a fa) : PD X B (.BoolOp op [a] pos) fa := pe_one h
theorem pd_and (ha : PD X B a fa) (hb : PD X B (.BoolOp .And (b :: rest) pos) fb) : PD X B (.BoolOp .And (a :: b :: rest) pos) (vAnd fa fb) := (pe_and ha hb).wk fun σ H Q ⟨hv, ρ, G, R, d, ρ', hf, k⟩ => by
  obtain ⟨⟨x, ρ1⟩, h1, hf⟩ := bnd hf
  refine ⟨hv, ρ, G, R, x, ρ1, h1, fun v H1 G1 R1 => ?_⟩
  have r := R1.top
  cases x <;> simp only [reduceCtorEq] at hf
  cases r
  rename_i c
  refine ⟨c, rfl, ?_⟩
  cases c with
  | true => exact ⟨hv, ρ1, G1, R1.pop, d, ρ', hf, k⟩
  | false => cases hf; exact k _ _ _ R1
theorem pd_or (ha : PD X B a fa) (hb : PD X B (.BoolOp .Or (b :: rest) pos) fb) : PD X B (.BoolOp .Or (a :: b :: rest) pos) (vOr fa fb) := (pe_or ha hb).wk fun σ H Q ⟨hv, ρ, G, R, d, ρ', hf, k⟩ => by
  obtain ⟨⟨x, ρ1⟩, h1, hf⟩ := bnd hf
  refine ⟨hv, ρ, G, R, x, ρ1, h1, fun v H1 G1 R1 => ?_⟩
  have r := R1.top
  cases x <;> simp only [reduceCtorEq] at hf
  cases r
  rename_i c
  refine ⟨c, rfl, ?_⟩
  cases c with
  | true => cases hf; exact k _ _ _ R1
  | false => exact ⟨hv, ρ1, G1, R1.pop, d, ρ', hf, k⟩
theorem pd_not (ha : PD X B a fa) : PD X B (.UnaryOp .Not a pos) (vNot fa) := (pe_not ha).wk fun σ H Q ⟨hv, ρ, G, R, d, ρ', hf, k⟩ => by
  obtain ⟨⟨x, ρ1⟩, h1, hf⟩ := bnd hf
  refine ⟨hv, ρ, G, R, x, ρ1, h1, fun v H1 G1 R1 => ?_⟩
  have r := R1.top
  cases x <;> simp only [reduceCtorEq, Option.some.injEq, Prod.mk.injEq] at hf
  obtain ⟨rfl, rfl⟩ := hf
  cases r
  exact ⟨_, rfl, k _ _ _ (R1.pop.dat (.bl _))⟩
def mIf {α : Type} (t : MB) (f g : Rho → Option α) : Rho → Option α := fun ρ => (t ρ).bind fun p => if p.1 = true then f p.2 else g p.2
theorem pm_if {c : Expr} (hc : PB X B c tf) (ha : PM X B a f) (hb : PM X B b g) : PM X B (.IfExp c a b pos) (mIf tf f g) := (pe_ifExp hc ha hb).wk fun σ H Q ⟨hv, ρ, G, R, rv, ρ', hf, k⟩ => by
  obtain ⟨⟨x, ρ1⟩, h1, hf⟩ := bnd hf
  refine ⟨hv, ρ, G, R, x, ρ1, h1, fun H1 G1 R1 => ?_⟩
  cases x with
  | true => exact ⟨hv, ρ1, G1, R1, rv, ρ', hf, k⟩
  | false => exact ⟨hv, ρ1, G1, R1, rv, ρ', hf, k⟩
theorem pd_if {c : Expr} (hc : PB X B c tf) (ha : PD X B a fa) (hb : PD X B b fb) : PD X B (.IfExp c a b pos) (mIf tf fa fb) := (pe_ifExp hc ha hb).wk fun σ H Q ⟨hv, ρ, G, R, d, ρ', hf, k⟩ => by
  obtain ⟨⟨x, ρ1⟩, h1, hf⟩ := bnd hf
  refine ⟨hv, ρ, G, R, x, ρ1, h1, fun H1 G1 R1 => ?_⟩
  cases x with
  | true => exact ⟨hv, ρ1, G1, R1, d, ρ', hf, k⟩
  | false => exact ⟨hv, ρ1, G1, R1, d, ρ', hf, k⟩

/-! ### argument lists, displays -/
variable {fr : MA}
def aNil : MA := fun ρ => some ([], ρ)
def aCons (f : MD) (g : MA) : MA := fun ρ => (f ρ).bind fun p => (g p.2).map fun q => (p.1 :: q.1, q.2)
abbrev PAM (X : Cx) (B : Bs) (es : List Expr) (f : MA) : Prop := PA X es (tA B f)
theorem pa_nilM : PAM X B [] aNil := pa_nil.wk fun σ H Q ⟨hv, ρ, G, R, ds, ρ', hf, k⟩ => by
  cases hf
  exact k _ _ _ R .nil
theorem pa_consM (ha : PD X B e fa) (hr : PAM X B es fr) (hs : starEach (e :: es) X.env = (false, eval e X.env) :: starEach es X.env := by rfl) : PAM X B (e :: es) (aCons fa fr) := (pa_cons ha hr hs).wk fun σ H Q ⟨hv, ρ, G, R, ds, ρ', hf, k⟩ => by
  obtain ⟨⟨x, ρ1⟩, h1, hf⟩ := bnd hf
  obtain ⟨⟨xs, ρ2⟩, h2, hf⟩ := mpp hf
  cases hf
  exact ⟨hv, ρ, G, R, x, ρ1, h1, fun v H1 G1 R1 => ⟨_, ρ1, G1, R1, xs, ρ2, h2, fun vs H2 G2 R2 rs => k _ _ _ R2.pop (.cons R2.top rs)⟩⟩
def okLen (ds : List D) : Bool := decide (ds.length ≤ sizeLine)
def mLst (f : MA) : ME := fun ρ => (f ρ).bind fun p => if okLen p.1 = true then some (.new (.lst p.1), p.2) else none
def mTup (f : MA) : MD := fun ρ => (f ρ).bind fun p => if okLen p.1 = true then some (.tup p.1, p.2) else none
theorem pm_lst (h : PAM X B es fr) : PM X B (.List es pos) (mLst fr) := (pe_lst h).wk fun σ H Q ⟨hv, ρ, G, R, rv, ρ', hf, k⟩ => by
  obtain ⟨⟨xs, ρ1⟩, h1, hf⟩ := bnd hf
  by_cases hl : okLen xs = true
  · simp only [hl, if_true, Option.some.injEq, Prod.mk.injEq] at hf
    obtain ⟨rfl, rfl⟩ := hf
    exact ⟨hv, ρ, G, R, xs, ρ1, h1, fun vs H1 G1 R1 rs => ⟨by rw [rs.len]; exact of_decide_eq_true hl, fun p hp => k _ _ _ (R1.new hp ⟨vs, rfl, rs⟩)⟩⟩
  · simp only [hl] at hf; cases hf
/-- a new tuple: read by all -/
theorem Rep.newT {hv : Hv} {ρ : Rho} {σ : Sg} {H G : Hp} {p : Addr} {vs : List V} {ds : List D} (R : Rep B hv ρ σ H G) (hp : H p = none) (rs : Rps B.c G vs ds) : Rep B ((.ref p, .dat (.tup ds)) :: hv) ρ σ (upd H p (.tup vs)) (upd G p (.tup vs)) := by
  have eG := R.sub.free hp
  have g : Gr G H (upd G p (.tup vs)) (upd H p (.tup vs)) := by
    refine ⟨same_updG eG, same_updG hp, fun b o q => ?_, fun b hb => ?_⟩
    · by_cases z : b = p
      · subst z; rw [upd_same] at q ⊢; exact q
      · rw [upd_ne z] at q ⊢; exact R.sub _ _ q
    · by_cases z : b = p
      · subst z; exact .inr (.inl hp)
      · rw [upd_ne z] at hb; exact .inl hb
  exact (R.grow g).dat (.tup upd_same (rs.mono g.g))
theorem pd_tup {x1 : Nat} (h : PAM X B es fr) : PD X B (.Tuple es x1 pos) (mTup fr) := (pe_tup h).wk fun σ H Q ⟨hv, ρ, G, R, d, ρ', hf, k⟩ => by
  obtain ⟨⟨xs, ρ1⟩, h1, hf⟩ := bnd hf
  by_cases hl : okLen xs = true
  · simp only [hl, if_true, Option.some.injEq, Prod.mk.injEq] at hf
    obtain ⟨rfl, rfl⟩ := hf
    exact ⟨hv, ρ, G, R, xs, ρ1, h1, fun vs H1 G1 R1 rs => ⟨by rw [rs.len]; exact of_decide_eq_true hl, fun p hp => k _ _ _ (R1.newT hp rs)⟩⟩
  · simp only [hl] at hf; cases hf
/-- several arguments of a built-in -/
def mC (o : List D → Option D) (f : MA) : MD := fun ρ => (f ρ).bind fun p => (o p.1).map fun d => (d, p.2)
def CaD (B : Bs) (r : List V → Hp → VK → Prop) (o : List D → Option D) : Prop :=
  ∀ (G H : Hp) (vs : List V) (ds : List D) (d : D) (Q : VK), Same G H → Rps B.c G vs ds → o ds = some d → (∀ u, Rp B.c G u d → Q u H) → r vs H Q
theorem pd_callB {id : String} {x : Str} {p : Pos} {r : List V → Hp → VK → Prop} {o : List D → Option D} (hc : CallR X (.builtin id) r) (ho : CaD B r o) (hg : Gl X x) (hm : X.mg x = none) (hv : bootBuiltins x = some (.builtin id)) (ha : PAM X B (e :: es) fr) (hn : x ≠ "__name__" := by decide) (hdb : (x == ("__debug__" : Str)) = false := by decide)
    (he : starEach (e :: es) X.env = (false, eval e X.env) :: starEach es X.env := by rfl) (hpl : (backTo pos (starEach es X.env)).any (·.1) = false := by rfl) : PD X B (.Call (.Name x p) (e :: es) [] pos) (mC o fr) :=
  (pe_callB hc hg hm hv ha hn hdb he hpl).wk fun σ H Q ⟨hv, ρ, G, R, d, ρ', hf, k⟩ => by
    obtain ⟨⟨xs, ρ1⟩, h1, hf⟩ := bnd hf
    obtain ⟨d', h5, hf⟩ := mpp hf
    cases hf
    exact ⟨hv, ρ, G, R, xs, ρ1, h1, fun vs H1 G1 R1 rs => ho G1 H1 vs xs _ _ R1.sub rs h5 fun u ru => k u H1 G1 (R1.dat ru)⟩

/-! ### subscripts -/
/-- the index first looked at behind the object -/
def mIx (o : D → D → Option D) (f : ME) (g : MD) : MD := fun ρ => (f ρ).bind fun p => (g p.2).bind fun q => (look p.1 q.2).bind fun x => (o x q.1).map fun d => (d, q.2)
def IxD (B : Bs) (r : R2) (o : D → D → Option D) : Prop :=
  ∀ (G H : Hp) (v w : V) (x y d : D) (Q : VK), Same G H → Rh B.c G H v x → Rp B.c G w y → o x y = some d → (∀ u, Rp B.c G u d → Q u H) → r v w H Q
theorem mIx_wk {r : R2} {o : D → D → Option D} (ho : IxD B r o) : ∀ σ H Q, tD B (mIx o f fb) σ H Q → tOp r (tM B f) (tD B fb) σ H Q := fun σ H Q ⟨hv, ρ, G, R, d, ρ', hf, k⟩ => by
  obtain ⟨⟨x, ρ1⟩, h1, hf⟩ := bnd hf
  obtain ⟨⟨y, ρ2⟩, h2, hf⟩ := bnd hf
  obtain ⟨dx, h3, hf⟩ := bnd hf
  obtain ⟨d', h5, hf⟩ := mpp hf
  cases hf
  refine ⟨hv, ρ, G, R, x, ρ1, h1, fun v H1 G1 R1 => ⟨_, ρ1, G1, R1, y, ρ2, h2, fun w H2 G2 R2 => ?_⟩⟩
  exact ho G2 H2 v w dx y _ _ R2.sub (R2.pop.look h3) R2.top h5 fun u ru => k u H2 G2 (R2.pop.pop.dat ru)
/-- xs[i], t[i] -/
def oIx : D → D → Option D
  | .lst ds, .int i => atI ds i
  | .tup ds, .int i => atI ds i
  | _, _ => none
theorem Rps.atI {c : Cn} {G : Hp} {vs : List V} {ds : List D} {i : Int} {d : D} (r : Rps c G vs ds) (e : L2.atI ds i = some d) : ∃ v, L2.atI vs i = some v ∧ Rp c G v d := by
  unfold L2.atI at e ⊢
  rw [r.len]
  cases q : ixN ds.length i with
  | none => rw [q] at e; cases e
  | some j =>
    rw [q] at e
    exact r.get (by simpa using e)
theorem ixd_seq {X : Cx} (hK : X.K = B.c.K) : IxD B (rIx X.K) oIx := fun G H v w x y d Q s hx hy e k => by
  cases hy <;> cases x <;> simp only [oIx, reduceCtorEq] at e
  · obtain ⟨a, xs, rfl, h, r⟩ := hx
    obtain ⟨u, e1, e2⟩ := r.atI e
    exact .inl ⟨a, xs, _, u, rfl, rfl, by rw [hK]; exact h, e1, k u e2⟩
  · cases hx with
    | tup h r =>
      obtain ⟨u, e1, e2⟩ := r.atI e
      exact .inr (.inl ⟨_, _, _, u, rfl, rfl, SqT.of (s _ _ h), e1, k u e2⟩)
theorem pd_ix (hK : X.K = B.c.K) (ha : PM X B a f) (hb : PD X B b fb) (hs : PlainIx b) : PD X B (.Subscript a b pos) (mIx oIx f fb) := (pe_ix ix_seq ha hb hs).wk (mIx_wk (ixd_seq hK))
end
end M
/-! M4: statements, loops, defs and their calls. -/
namespace M
open PySem PySem.Spec PyProof.Rows L2

/-- a statement's end -/
inductive Fl where
  | nx | bk | ct | rt (rv : Rv)
abbrev MS := Rho → Option (Fl × Rho)
def EndOk (B : Bs) (hv : Hv) (D : Ends) (ρ : Rho) : Fl → Prop
  | .nx => ∀ σ H G, Rep B hv ρ σ H G → D.nx σ H
  | .bk => ∀ σ H G, Rep B hv ρ σ H G → D.bk σ H
  | .ct => ∀ σ H G, Rep B hv ρ σ H G → D.ct σ H
  | .rt rv => ∀ hv' v σ H G, Rep B ((v, rv) :: hv') ρ σ H G → D.rt v H
def tS (B : Bs) (f : MS) : TS := fun D σ H => ∃ hv ρ G, NB hv ∧ Rep B hv ρ σ H G ∧ ∃ fl ρ', f ρ = some (fl, ρ') ∧ EndOk B hv D ρ' fl
abbrev PSM (X : Cx) (B : Bs) (st : Stmt) (f : MS) : Prop := PS X st (tS B f)
abbrev PSsM (X : Cx) (B : Bs) (st : List Stmt) (f : MS) : Prop := PSs X st (tS B f)
theorem _root_.L2.PS.wk {X : Cx} {e : Stmt} {t t' : TS} (h : PS X e t) (w : ∀ D σ H, t' D σ H → t D σ H) : PS X e t' := ⟨fun pins s σ H D I q => h.run pins s σ H D I (w _ _ _ q)⟩
theorem _root_.L2.PSs.wk {X : Cx} {e : List Stmt} {t t' : TS} (h : PSs X e t) (w : ∀ D σ H, t' D σ H → t D σ H) : PSs X e t' := ⟨fun pins s σ H D I q => h.run pins s σ H D I (w _ _ _ q)⟩

/-- a value in hand that leans on no slot -/
def hold (rv : Rv) (ρ : Rho) : Option (Rv × Rho) := match rv with
  | .new d => some (.new d, ρ)
  | rv => (frz rv ρ).map fun p => (.dat p.1, p.2)
section
variable {X : Cx} {B : Bs} {st : Stmt} {rest : List Stmt} {e a b : Expr} {es : List Expr} {f g : ME} {fa fb : MD} {fr : MA} {tf : MB} {s u : MS} {pos : Pos}
theorem Rep.hold {hv : Hv} {ρ ρ' : Rho} {σ : Sg} {H G : Hp} {v : V} {rv rv' : Rv} (R : Rep B ((v, rv) :: hv) ρ σ H G) (h : hold rv ρ = some (rv', ρ')) : (∃ G', Rep B ((v, rv') :: hv) ρ' σ H G') ∧ ∀ j, rv' ≠ .bor j := by
  cases rv with
  | new d => simp only [M.hold, Option.some.injEq, Prod.mk.injEq] at h; obtain ⟨rfl, rfl⟩ := h; exact ⟨⟨G, R⟩, fun j q => by cases q⟩
  | dat d => have h : (M.frz (Rv.dat d) ρ).map (fun p => (Rv.dat p.1, p.2)) = some (rv', ρ') := h; obtain ⟨p, h1, h2⟩ := mpp h; cases h2; exact ⟨R.frz h1, fun j q => by cases q⟩
  | bor i => obtain ⟨p, h1, h2⟩ := mpp h; cases h2; exact ⟨R.frz h1, fun j q => by cases q⟩
  | lk d => have h : (M.frz (Rv.lk d) ρ).map (fun p => (Rv.dat p.1, p.2)) = some (rv', ρ') := h; obtain ⟨p, h1, h2⟩ := mpp h; cases h2; exact ⟨R.frz h1, fun j q => by cases q⟩
theorem NB.cons {hv : Hv} {x : V × Rv} (n : NB hv) (h : ∀ j, x.2 ≠ .bor j) : NB (x :: hv) := fun y m j => by
  rcases List.mem_cons.mp m with rfl | m
  · exact h j
  · exact n y m j

/-! ### blocks, tests, return -/
def mNil : MS := fun ρ => some (.nx, ρ)
def mSeq (f g : MS) : MS := fun ρ => (f ρ).bind fun p => match p.1 with
  | .nx => g p.2
  | fl => some (fl, p.2)
theorem ps_nilM : PSsM X B [] mNil := pss_nil.wk fun D σ H ⟨hv, ρ, G, n, R, fl, ρ', hf, k⟩ => by
  cases hf; exact k _ _ _ R
theorem ps_consM (h1 : PSM X B st s) (h2 : PSsM X B rest u) : PSsM X B (st :: rest) (mSeq s u) := (pss_cons h1 h2).wk fun D σ H ⟨hv, ρ, G, n, R, fl, ρ', hf, k⟩ => by
  obtain ⟨⟨f1, ρ1⟩, e1, hf⟩ := bnd hf
  refine ⟨hv, ρ, G, n, R, f1, ρ1, e1, ?_⟩
  cases f1 with
  | nx => exact fun σ H G R => ⟨hv, ρ1, G, n, R, fl, ρ', hf, k⟩
  | bk => cases hf; exact k
  | ct => cases hf; exact k
  | rt rv => cases hf; exact k
theorem ps_oneM (h1 : PSM X B st s) : PSsM X B [st] s := pss_one h1
theorem ps_passM : PSM X B (.Pass pos) mNil := ps_pass.wk fun D σ H ⟨hv, ρ, G, n, R, fl, ρ', hf, k⟩ => by cases hf; exact k _ _ _ R
theorem ps_breakM : PSM X B (.Break pos) (fun ρ => some (.bk, ρ)) := ps_break.wk fun D σ H ⟨hv, ρ, G, n, R, fl, ρ', hf, k⟩ => by cases hf; exact k _ _ _ R
theorem ps_contM : PSM X B (.Continue pos) (fun ρ => some (.ct, ρ)) := ps_continue.wk fun D σ H ⟨hv, ρ, G, n, R, fl, ρ', hf, k⟩ => by cases hf; exact k _ _ _ R
/-- what the proof never comes to -/
def mNever : MS := fun _ => none
theorem ps_neverM : PSM X B st mNever := ps_never.wk fun D σ H ⟨hv, ρ, G, n, R, fl, ρ', hf, k⟩ => by cases hf
theorem pss_neverM : PSsM X B rest mNever := pss_never.wk fun D σ H ⟨hv, ρ, G, n, R, fl, ρ', hf, k⟩ => by cases hf
theorem ps_ifM {c : Expr} {p q : List Stmt} (hc : PB X B c tf) (ha : PSsM X B p s) (hb : PSsM X B q u) : PSM X B (.If c p q pos) (mIf tf s u) := (ps_if hc ha hb).wk fun D σ H ⟨hv, ρ, G, n, R, fl, ρ', hf, k⟩ => by
  obtain ⟨⟨x, ρ1⟩, h1, hf⟩ := bnd hf
  refine ⟨hv, ρ, G, R, x, ρ1, h1, fun H1 G1 R1 => ?_⟩
  cases x with
  | true => exact ⟨hv, ρ1, G1, n, R1, fl, ρ', hf, k⟩
  | false => exact ⟨hv, ρ1, G1, n, R1, fl, ρ', hf, k⟩
def mRet (f : ME) : MS := fun ρ => (f ρ).bind fun p => (hold p.1 p.2).map fun q => (.rt q.1, q.2)
theorem ps_retM (h : PM X B e f) : PSM X B (.Return (some e) pos) (mRet f) := (ps_ret h).wk fun D σ H ⟨hv, ρ, G, n, R, fl, ρ', hf, k⟩ => by
  obtain ⟨⟨rv, ρ1⟩, h1, hf⟩ := bnd hf
  obtain ⟨⟨rv', ρ2⟩, h2, hf⟩ := mpp hf
  cases hf
  exact ⟨hv, ρ, G, R, rv, ρ1, h1, fun v H1 G1 R1 => by
    obtain ⟨⟨G2, R2⟩, _⟩ := R1.hold h2
    exact k _ v σ H1 G2 R2⟩
def mDrop (f : MD) : MS := fun ρ => (f ρ).map fun p => (.nx, p.2)
theorem ps_exprM (h : PD X B e fa) (hs : swapsWith e none pos.line X.env = pure false := by rfl) : PSM X B (.Expr e pos) (mDrop fa) := (ps_expr h hs).wk fun D σ H ⟨hv, ρ, G, n, R, fl, ρ', hf, k⟩ => by
  obtain ⟨⟨d, ρ1⟩, h1, hf⟩ := mpp hf
  cases hf
  exact ⟨hv, ρ, G, R, d, ρ1, h1, fun v H1 G1 R1 => k _ _ _ R1.pop⟩

/-! ### assignments -/
def mSet (i : Nat) (f : ME) : MS := fun ρ => (f ρ).bind fun p => (asg i p.1 p.2).map fun r => (.nx, r)
theorem mSet_wk {i : Nat} : ∀ D σ H, tS B (mSet i f) D σ H → tAsg (tM B f) (gName i) D σ H := fun D σ H ⟨hv, ρ, G, n, R, fl, ρ', hf, k⟩ => by
  obtain ⟨⟨rv, ρ1⟩, h1, hf⟩ := bnd hf
  obtain ⟨ρ2, h2, hf⟩ := mpp hf
  cases hf
  exact ⟨hv, ρ, G, R, rv, ρ1, h1, fun v H1 G1 R1 => k _ _ _ (R1.asg n h2)⟩
theorem ps_setM (i : Nat) {x : Str} {pos' : Pos} (h : PM X B e f) (hN : X.N.Nodup) (hi : X.N[i]? = some x := by rfl) (hx : Loc X.env.scope x := by first | exact Or.inl rfl | exact Or.inr rfl) (hs : swapsWith e (some (.Name x pos')) pos.line X.env = pure false := by rfl) (hf : X.fn x = true ∨ X.env.scope.names.lookup x = some .local := by first | exact .inl rfl | exact .inr rfl | assumption) : PSM X B (.Assign [.Name x pos'] e pos) (mSet i f) :=
  (ps_set hN hi hx h hs hf).wk mSet_wk
def hM (f : ME) : ME := fun ρ => (f ρ).bind fun p => M.hold p.1 p.2
theorem tM_hold {σ : Sg} {H : Hp} {Q : VK} {hv : Hv} {ρ ρ' : Rho} {G : Hp} {rv : Rv} (R : Rep B hv ρ σ H G) (hf : hM f ρ = some (rv, ρ')) (k : ∀ v H' G', (∀ j, rv ≠ .bor j) → Rep B ((v, rv) :: hv) ρ' σ H' G' → Q v H') : tM B f σ H Q := by
  obtain ⟨⟨r1, ρ1⟩, h1, h2⟩ := bnd hf
  exact ⟨hv, ρ, G, R, r1, ρ1, h1, fun v H1 G1 R1 => by
    obtain ⟨⟨G2, R2⟩, n⟩ := R1.hold h2
    exact k v H1 G2 n R2⟩
def mPar (i j : Nat) (f g : ME) : MS := fun ρ => (hM f ρ).bind fun p => (hM g p.2).bind fun q => (asg j q.1 q.2).bind fun r => (asg i p.1 r).map fun z => (.nx, z)
theorem ps_parM (i j : Nat) {x y : Str} {px py pt : Pos} {kt k2 : Nat} {pt2 : Pos} (hc : X.calm = true) (hN : X.N.Nodup) (ha : PM X B a f) (hb : PM X B b g) (hi : X.N[i]? = some x := by rfl) (hj : X.N[j]? = some y := by rfl) (hij : i ≠ j := by decide)
    (hx : X.env.scope.names.lookup x = some .local := by rfl) (hy : X.env.scope.names.lookup y = some .local := by rfl)
    (hw : swappedStores [.Tuple [.Name x px, .Name y py] kt pt] (.Tuple [a, b] k2 pt2) X.env = pure (some [x, y]) := by rfl)
    (hs : swapsWithSole [.Tuple [.Name x px, .Name y py] kt pt] (.Tuple [a, b] k2 pt2) pos.line X.env = pure false := by rfl)
    (h1 : starEach [a, b] X.env = (false, eval a X.env) :: starEach [b] X.env := by rfl) (h2 : starEach [b] X.env = (false, eval b X.env) :: starEach [] X.env := by rfl) :
    PSM X B (.Assign [.Tuple [.Name x px, .Name y py] kt pt] (.Tuple [a, b] k2 pt2) pos) (mPar i j f g) := (ps_par hc hN hi hj hij hx hy (pa_cons ha (pa_cons hb pa_nil h2) h1) hw hs).wk fun D σ H ⟨hv, ρ, G, n, R, fl, ρ', hf, k⟩ => by
  obtain ⟨⟨r1, ρ1⟩, e1, hf⟩ := bnd hf
  obtain ⟨⟨r2, ρ2⟩, e2, hf⟩ := bnd hf
  obtain ⟨ρ3, e3, hf⟩ := bnd hf
  obtain ⟨ρ4, e4, hf⟩ := mpp hf
  cases hf
  refine tM_hold R e1 fun v H1 G1 n1 R1 => tM_hold R1 e2 fun w H2 G2 n2 R2 => ⟨v, w, rfl, ?_⟩
  have R3 := R2.asg (n.cons n1) e3
  have R4 := R3.asg n e4
  rw [List.set_comm _ _ hij]
  exact k _ _ _ R4
def mPar3 (i j l : Nat) (f g h : ME) : MS := fun ρ => (hM f ρ).bind fun p => (hM g p.2).bind fun q => (hM h q.2).bind fun o => (asg l o.1 o.2).bind fun r => (asg j q.1 r).bind fun r => (asg i p.1 r).map fun z => (.nx, z)
theorem ps_par3M (i j l : Nat) {c : Expr} {h : ME} {x y z : Str} {px py pz pt : Pos} {kt k2 : Nat} {pt2 : Pos} (hc : X.calm = true) (hN : X.N.Nodup) (ha : PM X B a f) (hb : PM X B b g) (hh : PM X B c h) (hi : X.N[i]? = some x := by rfl) (hj : X.N[j]? = some y := by rfl) (hl : X.N[l]? = some z := by rfl) (hij : i ≠ j := by decide) (hil : i ≠ l := by decide) (hjl : j ≠ l := by decide)
    (hx : X.env.scope.names.lookup x = some .local := by rfl) (hy : X.env.scope.names.lookup y = some .local := by rfl) (hz : X.env.scope.names.lookup z = some .local := by rfl)
    (hw : swappedStores [.Tuple [.Name x px, .Name y py, .Name z pz] kt pt] (.Tuple [a, b, c] k2 pt2) X.env = pure (some [x, y, z]) := by rfl)
    (hs : swapsWithSole [.Tuple [.Name x px, .Name y py, .Name z pz] kt pt] (.Tuple [a, b, c] k2 pt2) pos.line X.env = pure false := by rfl)
    (h1 : starEach [a, b, c] X.env = (false, eval a X.env) :: starEach [b, c] X.env := by rfl) (h2 : starEach [b, c] X.env = (false, eval b X.env) :: starEach [c] X.env := by rfl) (h3 : starEach [c] X.env = (false, eval c X.env) :: starEach [] X.env := by rfl) :
    PSM X B (.Assign [.Tuple [.Name x px, .Name y py, .Name z pz] kt pt] (.Tuple [a, b, c] k2 pt2) pos) (mPar3 i j l f g h) := (ps_par3 hc hN hi hj hl hij hil hjl hx hy hz (pa_cons ha (pa_cons hb (pa_cons hh pa_nil h3) h2) h1) hw hs).wk fun D σ H ⟨hv, ρ, G, n, R, fl, ρ', hf, k⟩ => by
  obtain ⟨⟨r1, ρ1⟩, e1, hf⟩ := bnd hf
  obtain ⟨⟨r2, ρ2⟩, e2, hf⟩ := bnd hf
  obtain ⟨⟨r3, ρ3⟩, e3, hf⟩ := bnd hf
  obtain ⟨ρ4, e4, hf⟩ := bnd hf
  obtain ⟨ρ5, e5, hf⟩ := bnd hf
  obtain ⟨ρ6, e6, hf⟩ := mpp hf
  cases hf
  refine tM_hold R e1 fun v H1 G1 n1 R1 => tM_hold R1 e2 fun w H2 G2 n2 R2 => tM_hold R2 e3 fun y H3 G3 n3 R3 => ⟨v, w, y, rfl, ?_⟩
  have R4 := R3.asg ((n.cons n1).cons n2) e4
  have R5 := R4.asg (n.cons n1) e5
  have R6 := R5.asg n e6
  have q : ((σ.set i (some v)).set j (some w)).set l (some y) = ((σ.set l (some y)).set j (some w)).set i (some v) := by
    rw [List.set_comm (some v) (some w) hij, List.set_comm (some v) (some y) hil, List.set_comm (some w) (some y) hjl]
  rw [q]
  exact k _ _ _ R6

/-! ### targets of a datum -/
abbrev MG := D → Rho → Option Rho
/-- is: the slots that are stored -/
def gM (B : Bs) (is : List Nat) (s : MG) : TG := fun v σ H Q => ∃ hv ρ G d, NB hv ∧ Rep B ((v, .dat d) :: hv) ρ σ H G ∧ ∃ ρ', s d ρ = some ρ' ∧ ∀ σ' H' G', (∀ vs : List Nat, (∀ i ∈ is, i ∈ vs) → wipe σ' vs = wipe σ vs) → Rep B hv ρ' σ' H' G' → Q σ' H'
def gNm (i : Nat) : MG := fun d ρ => asg i (.dat d) ρ
theorem wipe_set {σ : Sg} {i : Nat} {x : Option V} : ∀ {vs : List Nat}, i ∈ vs → wipe (σ.set i x) vs = wipe σ vs
  | j :: vs, m => by
    show (wipe (σ.set i x) vs).set j none = (wipe σ vs).set j none
    rcases List.mem_cons.mp m with rfl | m
    · have go : ∀ ws : List Nat, (wipe (σ.set i x) ws).set i none = (wipe σ ws).set i none := by
        intro ws
        induction ws with
        | nil => show (σ.set i x).set i none = σ.set i none; rw [List.set_set]
        | cons w ws ih =>
          show ((wipe (σ.set i x) ws).set w none).set i none = ((wipe σ ws).set w none).set i none
          by_cases q : w = i
          · subst q; rw [List.set_set, List.set_set, ih]
          · rw [List.set_comm _ _ q, ih, List.set_comm _ _ q]
      exact go vs
    · rw [wipe_set m]
theorem pg_nameM (i : Nat) {x : Str} (hN : X.N.Nodup) (hi : X.N[i]? = some x := by rfl) (hx : Loc X.env.scope x := by first | exact Or.inl rfl | exact Or.inr rfl) (hf : X.fn x = true ∨ X.env.scope.names.lookup x = some .local := by first | exact .inl rfl | exact .inr rfl | assumption) : PG X (.Name x pos) (gM B [i] (gNm i)) :=
  ⟨fun pins s σ H v u Q I r q => (pg_name hN hi hx hf).run pins s σ H v u Q I r (by
    obtain ⟨hv, ρ, G, d, n, R, ρ', hs, k⟩ := q
    exact k _ _ G (fun vs h => wipe_set (h i (List.mem_cons_self ..))) (R.asg n hs))⟩
/-- a, b = a pair -/
def gPr (s t : MG) : MG := fun d ρ => match d with
  | .tup [x, y] => (s x ρ).bind fun r => t y r
  | _ => none
theorem pg_pairM {a b : Expr} {s t : MG} {is js : List Nat} {k : Nat} (hc : X.calm = true) (hK : X.K = B.c.K) (ha : PG X a (gM B is s)) (hb : PG X b (gM B js t)) (h1 : (assignEach [a, b] X.env).map (·.2) = assign a X.env :: (assignEach [b] X.env).map (·.2) := by rfl)
    (h2 : (assignEach [b] X.env).map (·.2) = assign b X.env :: (assignEach [] X.env).map (·.2) := by rfl) (hn : (assignEach [a, b] X.env).length = 2 := by rfl) (hst : (assignEach [a, b] X.env).findIdx? (·.1) = none := by rfl) : PG X (.Tuple [a, b] k pos) (gM B (is ++ js) (gPr s t)) :=
  ⟨fun pins s' σ H v u Q I r q => (pg_tup hc (pgs_cons ha (pgs_cons hb pgs_nil h2) h1) hn hst).run pins s' σ H v u Q I r (by
    obtain ⟨hv, ρ, G, d, n, R, ρ', hs, k⟩ := q
    have rp := R.top
    cases rp with
    | tup hG rs =>
      cases rs with
      | cons r1 rs =>
        cases rs with
        | cons r2 rs =>
          cases rs with
          | nil =>
            obtain ⟨ρ1, e1, e2⟩ := bnd hs
            refine ⟨_, _, rfl, SqT.of (R.sub _ _ hG), rfl, _, _, rfl, ⟨_, ρ, G, _, n.cons (fun j q => by cases q), (R.pop.dat r2).dat r1, ρ1, e1, fun σ1 H1 G1 w1 R1 => ⟨_, _, rfl, ⟨hv, ρ1, G1, _, n, R1, ρ', e2, fun σ2 H2 G2 w2 R2 => ⟨rfl, k _ _ _ (fun vs h => ?_) R2⟩⟩⟩⟩⟩
            rw [w2 vs fun i m => h i (List.mem_append_right _ m), w1 vs fun i m => h i (List.mem_append_left _ m)]
          | cons => cases hs
        | nil => cases hs
      | nil => cases hs
    | _ => cases hs)⟩
/-- target = e, the value read by all -/
def mAsg (f : MD) (s : MG) : MS := fun ρ => (f ρ).bind fun p => (s p.1 p.2).map fun r => (.nx, r)
theorem ps_asgM {tg : Expr} {is : List Nat} {s : MG} (he : PD X B e fa) (hg : PG X tg (gM B is s)) (hs : swapsWithSole [tg] e pos.line X.env = pure false := by rfl) (hw : swappedStores [tg] e X.env = pure none := by rfl)
    (h1 : (assignEach [tg] X.env).map (·.2) = [assign tg X.env] := by rfl) : PSM X B (.Assign [tg] e pos) (mAsg fa s) := (ps_asg he hg hs hw h1).wk fun D σ H ⟨hv, ρ, G, n, R, fl, ρ', hf, k⟩ => by
  obtain ⟨⟨d, ρ1⟩, e1, hf⟩ := bnd hf
  obtain ⟨ρ2, e2, hf⟩ := mpp hf
  cases hf
  exact ⟨hv, ρ, G, R, d, ρ1, e1, fun v H1 G1 R1 => ⟨hv, ρ1, G1, d, n, R1, _, e2, fun σ' H' G' _ R' => k _ _ _ R'⟩⟩
/-- o[i] = .. -/
def chg (rv : Rv) (ρ : Rho) (o : D → Option D) : Option Rho := match rv with
  | .bor i => (ρ[i]?).bind fun s => (mutS s).bind fun d => (o d).map fun d' => ρ.set i (putS s d')
  | _ => none
theorem Rep.chg {hv : Hv} {ρ ρ' : Rho} {σ : Sg} {H G : Hp} {v : V} {rv : Rv} {o : D → Option D} (R : Rep B ((v, rv) :: hv) ρ σ H G) (h : chg rv ρ o = some ρ') : ∃ a ho d d', v = .ref a ∧ H a = some ho ∧ Cont B.c G a ho d ∧ o d = some d' ∧ ∀ ho', Cont B.c G a ho' d' → Rep B ((v, rv) :: hv) ρ' σ (upd H a ho') G := by
  cases rv with
  | bor i =>
    obtain ⟨s, h1, h⟩ := bnd h
    obtain ⟨d, h2, h⟩ := bnd h
    obtain ⟨d', h3, h⟩ := mpp h
    cases h
    obtain ⟨a, ho, e1, e2, c⟩ := R.mut h1 h2
    have hσ : σ[i]? = some (some v) := by obtain ⟨t, _, _, h3, _⟩ := R.ex; exact h3
    rw [hσ] at e1; cases e1
    exact ⟨a, ho, d, d', rfl, e2, c, h3, fun ho' c' => R.write h1 h2 hσ c'⟩
  | _ => cases h
/-- x[i] = v in a list -/
def oSet (i v : D) : D → Option D
  | .lst ds => match i with
    | .int k => (ixN ds.length k).map fun j => .lst (ds.set j v)
    | _ => none
  | _ => none
def gSubL (f : ME) (g : MD) : MG := fun d ρ => (f ρ).bind fun p => (g p.2).bind fun q => chg p.1 q.2 (oSet q.1 d)
theorem pg_subM {o i : Expr} (ho : PM X B o f) (hi : PD X B i fb) (ha : ∀ v, assign (.Subscript o i pos) X.env v = (do
      let ov ← holding [v] (eval o X.env)
      let iv ← holding [v, ov] (eval i X.env)
      standAt pos
      holding [v, ov, iv] (setItem ov iv v)
      release [v, ov, iv] []) := by intro _; rfl) : PG X (.Subscript o i pos) (gM B [] (gSubL f fb)) :=
  ⟨fun pins s σ H v u Q I r q => (pg_sub ho hi set_list ha).run pins s σ H v u Q I r (by
    obtain ⟨hv, ρ, G, d, n, R, ρ', hs, k⟩ := q
    obtain ⟨⟨rv, ρ1⟩, e1, hs⟩ := bnd hs
    obtain ⟨⟨di, ρ2⟩, e2, hs⟩ := bnd hs
    refine ⟨_, ρ, G, R, rv, ρ1, e1, fun ov H1 G1 R1 => ⟨_, ρ1, G1, R1, di, ρ2, e2, fun iv H2 G2 R2 => ?_⟩⟩
    have ri := R2.top
    obtain ⟨a, hoo, x, x', rfl, e3, c, e4, kk⟩ := R2.pop.chg hs
    cases x <;> simp only [oSet, reduceCtorEq] at e4
    cases di <;> simp only [reduceCtorEq] at e4
    obtain ⟨j, e5, e4⟩ := mpp e4
    cases e4
    obtain ⟨xs, rfl, rs⟩ := c
    cases ri
    have rd := R2.pop.pop.top
    refine ⟨a, xs, _, j, rfl, rfl, e3, by rw [rs.len]; exact e5, ?_⟩
    have R3 := (kk (.lst (xs.set j v)) ⟨_, rfl, rs.set rd j⟩).pop.pop
    exact k _ _ _ (fun _ _ => rfl) R3)⟩

/-! ### loops -/
/-- items in turn -/
def JOk (B : Bs) (hx : V × Rv) (J : It) (ds : List D) : Prop :=
  (∀ hv ρ σ H G i d, Rep B hv ρ σ H G → hx ∈ hv → ds[i]? = some d → J.go i H ∧ ∀ x H', J.yld i H x H' → ∃ G', Rep B ((x, .dat d) :: hv) ρ σ H' G') ∧
  ∀ hv ρ σ H G, Rep B hv ρ σ H G → hx ∈ hv → J.stop ds.length H
abbrev MI := Rho → Option (List D × Rho)
def tI (B : Bs) (f : MI) : TI := fun σ H R => ∃ hv ρ G, Rep B hv ρ σ H G ∧ ∃ ds ρ', f ρ = some (ds, ρ') ∧ ∀ J H' G' hx, JOk B hx J ds → (∀ j, hx.2 ≠ .bor j) → Rep B (hx :: hv) ρ' σ H' G' → R J H'
abbrev PIM (X : Cx) (B : Bs) (tg iter : Expr) (f : MI) : Prop := PI X tg iter (tI B f)
theorem _root_.L2.PI.wk {X : Cx} {tg iter : Expr} {t t' : TI} (h : PI X tg iter t) (w : ∀ σ H Q, t' σ H Q → t σ H Q) : PI X tg iter t' := ⟨fun pins s σ H Q I q => h.run pins s σ H Q I (w _ _ _ q)⟩
def mForL (s : MG) (f : MS) : List D → MS
  | [], ρ => some (.nx, ρ)
  | d :: ds, ρ => (s d ρ).bind fun r => (f r).bind fun p => match p.1 with
    | .nx => mForL s f ds p.2
    | .ct => mForL s f ds p.2
    | .bk => some (.nx, p.2)
    | .rt rv => some (.rt rv, p.2)
def mFor (f : MI) (s : MG) (b : MS) : MS := fun ρ => (f ρ).bind fun p => mForL s b p.1 p.2
theorem ps_forM {tg iter : Expr} {body : List Stmt} {fi : MI} {sg : MG} {is : List Nat} (hp : PassesOwn (model X.prog X.w) X.A X.env X.xe) (hc : X.calm = true) (hi : PIM X B tg iter fi) (hg : PG X tg (gM B is sg)) (hb : PSsM X B body s)
    (hs : ∀ x, foldedSetIterable iter X.env x = pure x := by intro _; rfl) : PSM X B (.For tg iter body [] pos) (mFor fi sg s) := (ps_for hp hc hi hg hb hs).wk fun D σ H ⟨hv, ρ, G, n, R, fl, ρ', hf, k⟩ => by
  obtain ⟨⟨ds, ρ1⟩, e1, hf⟩ := bnd hf
  refine ⟨hv, ρ, G, R, ds, ρ1, e1, fun J H1 G1 hx jo nx R1 => ?_⟩
  have nb : NB (hx :: hv) := n.cons nx
  refine ⟨fun i m σ H => m = ds.length - i ∧ i ≤ ds.length ∧ ∃ ρi G, Rep B (hx :: hv) ρi σ H G ∧ mForL sg s (ds.drop i) ρi = some (fl, ρ'), ⟨_, rfl, Nat.zero_le _, ρ1, G1, R1, hf⟩, ?_⟩
  rintro i m σ2 H2 ⟨rfl, hi, ρi, G2, R2, h2⟩
  by_cases hl : i = ds.length
  · left
    subst hl
    refine ⟨jo.2 _ _ _ _ _ R2 (List.mem_cons_self ..), ?_⟩
    rw [List.drop_length] at h2
    cases h2
    exact k _ _ _ R2.pop
  · right
    have hlt : i < ds.length := Nat.lt_of_le_of_ne hi hl
    obtain ⟨d, hd⟩ : ∃ d, ds[i]? = some d := ⟨_, List.getElem?_eq_getElem hlt⟩
    have hdr : ds.drop i = d :: ds.drop (i + 1) := by
      rw [List.drop_eq_getElem_cons hlt]
      rw [List.getElem?_eq_getElem hlt] at hd
      cases hd; rfl
    obtain ⟨go, yl⟩ := jo.1 _ _ _ _ _ i d R2 (List.mem_cons_self ..) hd
    rw [hdr] at h2
    obtain ⟨r, h3, h2⟩ := bnd h2
    obtain ⟨⟨f2, ρ2⟩, h4, h2⟩ := bnd h2
    refine ⟨go, fun σ' H' => ∃ ρ'' G, Rep B (hx :: hv) ρ'' σ' H' G ∧ mForL sg s (ds.drop (i + 1)) ρ'' = some (fl, ρ'), fun σ' H' ⟨ρ'', G, R', h'⟩ => ⟨_, by omega, rfl, hlt, ρ'', G, R', h'⟩, fun x H' hy => ?_⟩
    obtain ⟨G3, R3⟩ := yl x H' hy
    refine ⟨hx :: hv, ρi, G3, d, nb, R3, r, h3, fun σ4 H4 G4 _ R4 => ⟨hx :: hv, r, G4, nb, R4, f2, ρ2, h4, ?_⟩⟩
    cases f2 with
    | nx => exact fun σ H G R => ⟨_, _, R, h2⟩
    | ct => exact fun σ H G R => ⟨_, _, R, h2⟩
    | bk => cases h2; exact fun σ H G R => k _ _ _ R.pop
    | rt rv =>
      cases h2
      exact k
end
end M
/-! M5: while, comprehensions, what is walked, defs and their calls. -/
namespace M
open PySem PySem.Spec PyProof.Rows L2
section
variable {X : Cx} {B : Bs} {st : Stmt} {rest : List Stmt} {e a b : Expr} {es : List Expr} {f g : ME} {fa fb : MD} {fr : MA} {tf : MB} {s u : MS} {pos : Pos}
/-! ### while -/
def mWhl (c : MB) (b : MS) : Nat → MS
  | 0, _ => none
  | n + 1, ρ => (c ρ).bind fun p => if p.1 = true then (b p.2).bind fun q => (match q.1 with
      | .nx => mWhl c b n q.2
      | .ct => mWhl c b n q.2
      | .bk => some (.nx, q.2)
      | .rt rv => some (.rt rv, q.2)) else some (.nx, p.2)
theorem ps_whileM (n : Nat) {c : Expr} {body : List Stmt} (hp : PassesOwn (model X.prog X.w) X.A X.env X.xe) (hc : PB X B c tf) (hb : PSsM X B body s) : PSM X B (.While c body [] pos) (mWhl tf s n) := (ps_while hp hc hb).wk fun D σ H ⟨hv, ρ, G, nb, R, fl, ρ', hf, k⟩ => by
  refine ⟨fun m σ H => ∃ ρi G, Rep B hv ρi σ H G ∧ mWhl tf s m ρi = some (fl, ρ'), ⟨n, ρ, G, R, hf⟩, ?_⟩
  rintro m σ1 H1 ⟨ρ1, G1, R1, h1⟩
  cases m with
  | zero => cases h1
  | succ m =>
    obtain ⟨⟨x, ρ2⟩, h2, h1⟩ := bnd h1
    refine ⟨hv, ρ1, G1, R1, x, ρ2, h2, fun H3 G3 R3 => ?_⟩
    cases x with
    | true =>
      simp only [if_true] at h1 ⊢
      obtain ⟨⟨f2, ρ3⟩, h3, h1⟩ := bnd h1
      refine ⟨fun σ' H' => ∃ ρ'' G, Rep B hv ρ'' σ' H' G ∧ mWhl tf s m ρ'' = some (fl, ρ'), fun σ' H' ⟨ρ'', G, R', h'⟩ => ⟨m, Nat.lt_succ_self m, ρ'', G, R', h'⟩, ⟨hv, ρ2, G3, nb, R3, f2, ρ3, h3, ?_⟩⟩
      cases f2 with
      | nx => exact fun σ H G R => ⟨_, _, R, h1⟩
      | ct => exact fun σ H G R => ⟨_, _, R, h1⟩
      | bk => cases h1; exact k
      | rt rv => cases h1; exact k
    | false =>
      simp only [Bool.false_eq_true, if_false] at h1 ⊢
      cases h1
      exact k _ _ _ R3

/-! ### what is walked -/
/-- a list's items (given away ahead) -/
def iLst (f : MD) : MI := fun ρ => (f ρ).bind fun p => match p.1 with
  | .lst ds => some (ds, p.2)
  | _ => none
theorem pi_listM {tg l : Expr} (hK : X.K = B.c.K) (hl : PD X B l fa) : PIM X B tg l (iLst fa) := (pi_list hl).wk fun σ H Q ⟨hv, ρ, G, R, ds, ρ', hf, k⟩ => by
  obtain ⟨⟨d, ρ1⟩, h1, hf⟩ := bnd hf
  refine ⟨hv, ρ, G, R, d, ρ1, h1, fun v H1 G1 R1 => ?_⟩
  cases d <;> simp only [reduceCtorEq, Option.some.injEq, Prod.mk.injEq] at hf
  obtain ⟨rfl, rfl⟩ := hf
  have r := R1.top
  cases r with
  | lst h rs =>
    rename_i a xs
    refine ⟨a, rfl, ⟨xs, by rw [hK]; exact R1.sub.seq h⟩, k _ _ G1 _ ⟨?_, ?_⟩ (fun j q => by cases q) R1⟩
    · intro hv' ρ'' σ' H' G' i d R' m hd
      have q := R'.mem m
      cases q with
      | lst h' rs' =>
        obtain ⟨v, e1, e2⟩ := rs'.get hd
        rename_i ys
        have hs : SqL X.K H' a ys := by rw [hK]; exact R'.sub.seq h'
        exact ⟨⟨_, v, hs, e1⟩, fun x H'' ⟨eH, hx⟩ => by
          subst eH
          have e3 := hx _ hs
          rw [e1] at e3; cases e3
          exact ⟨G', R'.dat e2⟩⟩
    · intro hv' ρ'' σ' H' G' R' m
      have q := R'.mem m
      cases q with
      | lst h' rs' => rename_i ys; exact ⟨ys, by rw [hK]; exact R'.sub.seq h', by rw [rs'.len]; exact Nat.le_refl _⟩
/-- lo, lo + 1, .. -/
def rgD (lo : Int) (n : Nat) : List D := (List.range n).map fun i => D.int (lo + (i : Nat))
theorem rgD_get {lo : Int} {n i : Nat} {d : D} (h : (rgD lo n)[i]? = some d) : i < n ∧ d = .int (lo + (i : Nat)) := by
  unfold rgD at h
  rw [List.getElem?_map] at h
  by_cases hi : i < n
  · rw [List.getElem?_range hi] at h
    cases h
    exact ⟨hi, rfl⟩
  · rw [List.getElem?_eq_none (by rw [List.length_range]; omega)] at h
    cases h
theorem rgD_len {lo : Int} {n : Nat} : (rgD lo n).length = n := by unfold rgD; rw [List.length_map, List.length_range]
def small (i : Int) : Bool := decide (-(2 ^ 62) ≤ i ∧ i < 2 ^ 62)
def iRg1 (f : MA) : MI := fun ρ => (f ρ).bind fun p => match p.1 with
  | [.int j] => if small j = true then some (rgD 0 j.toNat, p.2) else none
  | _ => none
def iRg2 (f : MA) : MI := fun ρ => (f ρ).bind fun p => match p.1 with
  | [.int i, .int j] => if (small i && small j) = true then some (rgD i (j - i).toNat, p.2) else none
  | _ => none
theorem jok_range {lo : Int} {n : Nat} {hx : V × Rv} : JOk B hx (Itr lo n) (rgD lo n) := by
  refine ⟨fun hv ρ σ H G i d R m hd => ?_, fun hv ρ σ H G R m => by rw [rgD_len]; exact Nat.le_refl _⟩
  obtain ⟨h1, rfl⟩ := rgD_get hd
  exact ⟨h1, fun x H' ⟨e, e2⟩ => by subst e; subst e2; exact ⟨G, R.dat (.int _)⟩⟩
theorem pi_rg1M {tg a : Expr} {p : Pos} (hg : Gl X "range") (hm : X.mg "range" = none) (ha : PAM X B [a] fr) (hs : starEach [a] X.env = [(false, eval a X.env)] := by rfl) : PIM X B tg (.Call (.Name "range" p) [a] [] pos) (iRg1 fr) := (pi_range1 hg hm ha hs).wk fun σ H Q ⟨hv, ρ, G, R, ds, ρ', hf, k⟩ => by
  obtain ⟨⟨xs, ρ1⟩, h1, hf⟩ := bnd hf
  refine ⟨hv, ρ, G, R, xs, ρ1, h1, fun vs H1 G1 R1 rs => ?_⟩
  match xs, rs, hf with
  | [.int j], .cons (.int _) .nil, hf =>
    by_cases hb : small j = true
    · simp only [hb, if_true, Option.some.injEq, Prod.mk.injEq] at hf
      obtain ⟨rfl, rfl⟩ := hf
      obtain ⟨b1, b2⟩ := of_decide_eq_true hb
      exact ⟨j, rfl, b1, b2, k _ _ G1 (.non, .dat .non) jok_range (fun j q => by cases q) (R1.dat .non)⟩
    · simp only [hb] at hf; cases hf
theorem pi_rg2M {tg a b : Expr} {p : Pos} (hg : Gl X "range") (hm : X.mg "range" = none) (ha : PAM X B [a, b] fr) (hs : starEach [a, b] X.env = [(false, eval a X.env), (false, eval b X.env)] := by rfl) (hs2 : starEach [b] X.env = [(false, eval b X.env)] := by rfl) : PIM X B tg (.Call (.Name "range" p) [a, b] [] pos) (iRg2 fr) := (pi_range2 hg hm ha hs hs2).wk fun σ H Q ⟨hv, ρ, G, R, ds, ρ', hf, k⟩ => by
  obtain ⟨⟨xs, ρ1⟩, h1, hf⟩ := bnd hf
  refine ⟨hv, ρ, G, R, xs, ρ1, h1, fun vs H1 G1 R1 rs => ?_⟩
  match xs, rs, hf with
  | [.int i, .int j], .cons (.int _) (.cons (.int _) .nil), hf =>
    by_cases hb : (small i && small j) = true
    · simp only [hb, if_true, Option.some.injEq, Prod.mk.injEq] at hf
      obtain ⟨rfl, rfl⟩ := hf
      rw [Bool.and_eq_true] at hb
      obtain ⟨b1, b2⟩ := of_decide_eq_true hb.1
      obtain ⟨b3, b4⟩ := of_decide_eq_true hb.2
      exact ⟨i, j, rfl, ⟨b1, b2, b3, b4⟩, k _ _ G1 (.non, .dat .non) jok_range (fun j q => by cases q) (R1.dat .non)⟩
    · simp only [hb] at hf; cases hf
/-- (0, x), (1, y), .. -/
def enD : Nat → List D → List D
  | _, [] => []
  | i, d :: ds => .tup [.int (i : Nat), d] :: enD (i + 1) ds
theorem enD_len : ∀ (i : Nat) (ds : List D), (enD i ds).length = ds.length
  | _, [] => rfl
  | i, d :: ds => congrArg (· + 1) (enD_len (i + 1) ds)
theorem enD_get : ∀ {j : Nat} {ds : List D} {i : Nat} {d : D}, (enD j ds)[i]? = some d → ∃ x, ds[i]? = some x ∧ d = .tup [.int ((j + i : Nat) : Int), x]
  | _, [], _, _, h => by simp [enD] at h
  | j, x :: ds, 0, d, h => by simp [enD] at h; exact ⟨x, rfl, h.symm⟩
  | j, x :: ds, i + 1, d, h => by
    obtain ⟨y, e1, e2⟩ := enD_get (j := j + 1) (ds := ds) (i := i) (d := d) (by simpa [enD] using h)
    refine ⟨y, by simpa using e1, ?_⟩
    rw [e2, show j + 1 + i = j + (i + 1) by omega]
def iEn (f : MD) : MI := fun ρ => (f ρ).bind fun p => match p.1 with
  | .lst ds => some (enD 0 ds, p.2)
  | _ => none
theorem pi_enumM {e : Expr} {p tpos : Pos} {elts : List Expr} {kk : Nat} (hK : X.K = B.c.K) (hg : Gl X "enumerate") (hm : X.mg "enumerate" = none) (ha : PD X B e fa) (hs : starEach [e] X.env = [(false, eval e X.env)] := by rfl) :
    PIM X B (.Tuple elts kk tpos) (.Call (.Name "enumerate" p) [e] [] pos) (iEn fa) := (pi_enum hg hm (pa_cons ha pa_nil hs) hs).wk fun σ H Q ⟨hv, ρ, G, R, ds, ρ', hf, k⟩ => by
  obtain ⟨⟨d, ρ1⟩, h1, hf⟩ := bnd hf
  refine ⟨hv, ρ, G, R, d, ρ1, h1, fun v H1 G1 R1 => ?_⟩
  cases d <;> simp only [reduceCtorEq, Option.some.injEq, Prod.mk.injEq] at hf
  obtain ⟨rfl, rfl⟩ := hf
  have r := R1.top
  cases r with
  | lst h rs =>
    rename_i a xs
    refine ⟨a, xs, rfl, by rw [hK]; exact R1.sub.seq h, k _ _ G1 _ ⟨?_, ?_⟩ (fun j q => by cases q) R1⟩
    · intro hv' ρ'' σ' H' G' i d R' m hd
      obtain ⟨x, hx, rfl⟩ := enD_get hd
      have q := R'.mem m
      cases q with
      | lst h' rs' =>
        obtain ⟨v, e1, e2⟩ := rs'.get hx
        rename_i ys
        have hs : SqL X.K H' a ys := by rw [hK]; exact R'.sub.seq h'
        refine ⟨⟨_, v, hs, e1⟩, fun y H'' hy => ?_⟩
        obtain ⟨T, z, rfl, hT, rfl, hz⟩ := hy
        have e3 := hz _ hs
        rw [e1] at e3; cases e3
        have q := R'.newT hT (.cons (.int ((i : Nat) : Int)) (.cons e2 .nil))
        rw [Nat.zero_add]
        exact ⟨_, q⟩
    · intro hv' ρ'' σ' H' G' R' m
      have q := R'.mem m
      cases q with
      | lst h' rs' => rename_i ys; exact ⟨ys, by rw [hK]; exact R'.sub.seq h', by rw [enD_len, rs'.len]; exact Nat.le_refl _⟩

/-! ### comprehensions -/
/-- the slots of the block's own names are told nothing of -/
def wipeR (ρ : Rho) : List Nat → Rho
  | [] => ρ
  | v :: vs => (wipeR ρ vs).set v .un
theorem wipeR_len (ρ : Rho) : ∀ vs : List Nat, (wipeR ρ vs).length = ρ.length
  | [] => rfl
  | v :: vs => by show ((wipeR ρ vs).set v .un).length = _; rw [List.length_set, wipeR_len ρ vs]
theorem wipeR_get {ρ : Rho} {i : Nat} {x : Sl} : ∀ {vs : List Nat}, (wipeR ρ vs)[i]? = some x → x = .un ∨ (i ∉ vs ∧ ρ[i]? = some x)
  | [], h => .inr ⟨by simp, h⟩
  | v :: vs, h => by
    rcases set_get h with ⟨rfl, rfl, _⟩ | ⟨n, h⟩
    · exact .inl rfl
    · rcases wipeR_get (vs := vs) h with h | ⟨h1, h2⟩
      · exact .inl h
      · refine .inr ⟨fun m => ?_, h2⟩
        rcases List.mem_cons.mp m with z | z
        · exact n z
        · exact h1 z
/-- another frame's values, alike where something is told -/
theorem Rep.other {hv : Hv} {ρ ρ' : Rho} {σ σ' : Sg} {H G : Hp} (R : Rep B hv ρ σ H G) (nb : NB hv) (hl : σ'.length = ρ'.length) (h : ∀ (i : Nat) (x : Sl), ρ'[i]? = some x → x = Sl.un ∨ (ρ[i]? = some x ∧ σ'[i]? = σ[i]?)) : Rep B hv ρ' σ' H G := by
  obtain ⟨t, h1, h2, h3⟩ := R.ex
  refine ⟨⟨t, h1, fun i x hx => ?_, h3.nb nb⟩, R.sub, R.g0, R.nw, R.hs, R.ioH, R.ioT, hl⟩
  rcases h i x hx with rfl | ⟨e1, e2⟩
  · trivial
  · rw [e2]; exact h2 i x e1
def mCmpL (s : MG) (t : MB) (f : MD) (vs : List Nat) : List D → List D → Rho → Option (List D × Rho)
  | [], acc, ρ => some (acc, ρ)
  | d :: ds, acc, ρ => (s d ρ).bind fun r => (t r).bind fun p => if p.1 = true then (f p.2).bind fun q => if decide (acc.length < sizeLine) = true then mCmpL s t f vs ds (acc ++ [q.1]) (wipeR q.2 vs) else none else mCmpL s t f vs ds acc (wipeR p.2 vs)
def mCmp (i : MI) (s : MG) (t : MB) (f : MD) (vs : List Nat) : ME := fun ρ => (i ρ).bind fun p => (mCmpL s t f vs p.1 [] (wipeR p.2 vs)).map fun q => (.new (.lst q.1), q.2)
theorem wipe_get {σ : Sg} {i : Nat} : ∀ {vs : List Nat}, i ∉ vs → (wipe σ vs)[i]? = σ[i]?
  | [], _ => rfl
  | v :: vs, h => by
    show ((wipe σ vs).set v none)[i]? = σ[i]?
    rw [List.getElem?_set_ne (fun z => h (by rw [z]; exact List.mem_cons_self ..))]
    exact wipe_get fun m => h (List.mem_cons_of_mem _ m)
theorem Rep.wiped {hv : Hv} {ρ : Rho} {σ σ0 : Sg} {H G : Hp} {vs : List Nat} (R : Rep B hv ρ σ H G) (nb : NB hv) (w : wipe σ vs = wipe σ0 vs) : Rep B hv (wipeR ρ vs) (wipe σ0 vs) H G := by
  refine R.other nb ?_ fun i x hx => ?_
  · rw [wipe_length, wipeR_len, ← R.len]
    have := congrArg List.length w
    rw [wipe_length, wipe_length] at this
    exact this.symm
  · rcases wipeR_get hx with h | ⟨h1, h2⟩
    · exact .inl h
    · refine .inr ⟨h2, ?_⟩
      rw [← w, wipe_get h1]
theorem Rep.unwiped {hv : Hv} {ρ : Rho} {σ0 : Sg} {H G : Hp} {vs : List Nat} (R : Rep B hv ρ (wipe σ0 vs) H G) (nb : NB hv) (hw : ∀ (i : Nat) (x : Sl), ρ[i]? = some x → i ∈ vs → x = .un) : Rep B hv ρ σ0 H G := by
  refine R.other nb ?_ fun i x hx => ?_
  · rw [← R.len, wipe_length]
  · by_cases m : i ∈ vs
    · exact .inl (hw i x hx m)
    · exact .inr ⟨hx, (wipe_get m).symm⟩
theorem wipeR_un {ρ : Rho} : ∀ {vs : List Nat} (i : Nat) (x : Sl), (wipeR ρ vs)[i]? = some x → i ∈ vs → x = .un
  | vs, i, x, h, m => by
    rcases wipeR_get h with h | ⟨h1, _⟩
    · exact h
    · exact absurd m h1
/-- the top of the hands, a list of its own, grows by a datum -/
theorem Rep.growTop {hv : Hv} {ρ : Rho} {σ : Sg} {H G : Hp} {D0 : Addr} {acc : List D} {y : V} {d : D} (R : Rep B ((y, .dat d) :: (.ref D0, .new (.lst acc)) :: hv) ρ σ H G) : ∃ xs, H D0 = some (.lst xs) ∧ xs.length = acc.length ∧ Rep B ((.ref D0, .new (.lst (acc ++ [d]))) :: hv) ρ σ (upd H D0 (.lst (xs ++ [y]))) G := by
  have ry := R.top
  obtain ⟨t, h1, h2, h3, h4, h5⟩ := R.ex
  obtain ⟨a, ho, e, e1, c, e2, e3⟩ := h4
  cases e
  obtain ⟨xs, rfl, rs⟩ := c
  have eG := (h1 D0 (by rw [e2]; simp)).1
  refine ⟨xs, e1, rs.len, ?_⟩
  have keepH : ∀ b o, b ≠ D0 → H b = some o → upd H D0 (.lst (xs ++ [y])) b = some o := fun b o n e => by rw [upd_ne n]; exact e
  refine ⟨⟨t, fun b hb => ⟨(h1 b hb).1, ?_⟩, fun j s' hs => ?_, ⟨D0, _, rfl, upd_same, ⟨_, rfl, rs.append (.cons ry .nil)⟩, e2, e3⟩, ?_⟩, fun b o q => ?_, R.g0, R.nw, fun b o q nio => ?_, fun b q => ?_, fun b q => ?_, R.len⟩
  · by_cases z : b = D0
    · rw [z, upd_same]; exact ⟨by simp, fun ⟨xs, e⟩ => by cases e⟩
    · rw [upd_ne z]; exact (h1 b hb).2
  · have h := h2 j s' hs
    cases s' with
    | un => trivial
    | dat d' => exact h
    | own d' =>
      obtain ⟨b, hb, f, f1, c', f2, f3⟩ := h
      exact ⟨b, hb, f, keepH _ _ (fun z => by rw [z, e2] at f2; cases f2) f1, c', f2, f3⟩
    | io d' =>
      obtain ⟨b, hb, f, f1, c', f2, f3⟩ := h
      exact ⟨b, hb, f, keepH _ _ (fun z => by rw [z, e2] at f2; cases f2) f1, c', f2, f3⟩
    | lck d' =>
      obtain ⟨b, hb, o, f, f1, c', f2, f3⟩ := h
      exact ⟨b, hb, o, f, keepH _ _ (fun z => by rw [z, e2] at f2; cases f2) f1, c', f2, f3⟩
  · have go : ∀ r : Hv, r.length ≤ hv.length → HvsOk B t G H σ r → HvsOk B t G (upd H D0 (.lst (xs ++ [y]))) σ r := by
      intro r
      induction r with
      | nil => intro _ _; trivial
      | cons x r ih =>
        intro hl hr
        obtain ⟨v', rv⟩ := x
        refine ⟨?_, ih (Nat.le_of_succ_le hl) hr.2⟩
        have h := hr.1
        cases rv with
        | dat d' => exact h
        | bor i => exact h
        | new d' =>
          obtain ⟨b, hb, f, f1, c', f2, f3⟩ := h
          have n : b ≠ D0 := fun z => by
            rw [z, e2] at f2
            have q : hv.length = r.length := by injection f2 with f2; injection f2
            have hl' : r.length + 1 ≤ hv.length := hl
            omega
          exact ⟨b, hb, f, keepH _ _ n f1, c', f2, f3⟩
        | lk d' =>
          obtain ⟨b, hb, o, i, f, f1, c', f2, f3⟩ := h
          exact ⟨b, hb, o, i, f, keepH _ _ (fun z => by rw [z, e2] at f2; cases f2) f1, c', f2, f3⟩
    exact go hv (Nat.le_refl _) h5
  · have nb : b ≠ D0 := fun z => by rw [z, eG] at q; cases q
    rw [upd_ne nb]; exact R.sub _ _ q
  · have nb : b ≠ D0 := fun z => by rw [z, e3] at q; cases q
    rw [upd_ne nb]; exact R.hs b o q nio
  · by_cases z : b = D0
    · rw [z, upd_same]; simp
    · rw [upd_ne z]; exact R.ioH b q
  · by_cases z : b = D0
    · rw [z, upd_same]; exact fun ⟨xs, e⟩ => by cases e
    · rw [upd_ne z]; exact R.ioT b q
/-- a thing in hand under the top goes -/
theorem Rep.pop2 {hv : Hv} {ρ : Rho} {σ : Sg} {H G : Hp} {p : Addr} {d : D} {x : V × Rv} (R : Rep B ((.ref p, .new d) :: x :: hv) ρ σ H G) : Rep B ((.ref p, .new d) :: hv) ρ σ H G := by
  obtain ⟨t, h1, h2, ⟨a, ho, e, e1, c, e2, e3⟩, h4, h5⟩ := R.ex
  cases e
  have go : ∀ r : Hv, r.length ≤ hv.length → HvsOk B t G H σ r → HvsOk B (setT t p (some (.tm hv.length))) G H σ r := by
    intro r
    induction r with
    | nil => intro _ _; trivial
    | cons x r ih =>
      intro hl hr
      obtain ⟨v', rv⟩ := x
      refine ⟨?_, ih (Nat.le_of_succ_le hl) hr.2⟩
      have h := hr.1
      cases rv with
      | dat d' => exact h
      | bor i => exact h
      | new d' =>
        obtain ⟨b, hb, f, f1, c', f2, f3⟩ := h
        have n : b ≠ p := fun z => by
          rw [z, e2] at f2
          have q : (x :: hv).length = r.length := by injection f2 with f2; injection f2
          have hl' : r.length + 1 ≤ hv.length := hl
          have q' : hv.length + 1 = r.length := q
          omega
        exact ⟨b, hb, f, f1, c', by rw [setT_ne n]; exact f2, f3⟩
      | lk d' =>
        obtain ⟨b, hb, o, i, f, f1, c', f2, f3⟩ := h
        exact ⟨b, hb, o, i, f, f1, c', by rw [setT_ne (fun z => by rw [z, e2] at f2; cases f2)]; exact f2, f3⟩
  refine ⟨⟨setT t p (some (.tm hv.length)), fun b hb => ?_, fun j s' hs => ?_, ⟨p, ho, rfl, e1, c, setT_same, e3⟩, go hv (Nat.le_refl _) h5⟩, R.sub, R.g0, R.nw, R.hs, R.ioH, R.ioT, R.len⟩
  · by_cases z : b = p
    · subst z; exact h1 b (by rw [e2]; simp)
    · rw [setT_ne z] at hb; exact h1 b hb
  · have h := h2 j s' hs
    cases s' with
    | un => trivial
    | dat d' => exact h
    | own d' =>
      obtain ⟨b, hb, f, f1, c', f2, f3⟩ := h
      exact ⟨b, hb, f, f1, c', by rw [setT_ne (fun z => by rw [z, e2] at f2; cases f2)]; exact f2, f3⟩
    | io d' =>
      obtain ⟨b, hb, f, f1, c', f2, f3⟩ := h
      exact ⟨b, hb, f, f1, c', by rw [setT_ne (fun z => by rw [z, e2] at f2; cases f2)]; exact f2, f3⟩
    | lck d' =>
      obtain ⟨b, hb, o, f, f1, c', f2, f3⟩ := h
      exact ⟨b, hb, o, f, f1, c', by rw [setT_ne (fun z => by rw [z, e2] at f2; cases f2)]; exact f2, f3⟩
/-- the hands that lean on slots are put aside while a block runs -/
def nb1 (x : V × Rv) : V × Rv := match x.2 with
  | .bor _ => (.non, .dat .non)
  | _ => x
abbrev nbs (hv : Hv) : Hv := hv.map nb1
theorem nb1_of {x : V × Rv} (h : ∀ j, x.2 ≠ .bor j) : nb1 x = x := by
  obtain ⟨v, rv⟩ := x
  cases rv with
  | bor j => exact absurd rfl (h j)
  | _ => rfl
theorem nbs_nb {hv : Hv} : NB (nbs hv) := fun x m j q => by
  obtain ⟨y, my, rfl⟩ := List.mem_map.mp m
  obtain ⟨v, rv⟩ := y
  cases rv <;> cases q
def Bors (hv : Hv) (σ : Sg) : Prop := ∀ x ∈ hv, ∀ i, x.2 = .bor i → σ[i]? = some (some x.1)
theorem HvsOk.toNb {t : Addr → Option Tag} {G H : Hp} {σ : Sg} : ∀ {hv : Hv}, HvsOk B t G H σ hv → HvsOk B t G H σ (nbs hv) ∧ Bors hv σ
  | [], _ => ⟨trivial, fun x m => by cases m⟩
  | (v, rv) :: r, ⟨h1, h2⟩ => by
    obtain ⟨h3, h4⟩ := HvsOk.toNb h2
    refine ⟨?_, fun x m i q => ?_⟩
    · have hl : (nbs r).length = r.length := List.length_map ..
      cases rv with
      | bor j => exact ⟨Rp.non, h3⟩
      | dat d => exact ⟨h1, h3⟩
      | new d => refine ⟨?_, h3⟩; rw [hl]; exact h1
      | lk d => exact ⟨h1, h3⟩
    · rcases List.mem_cons.mp m with rfl | m
      · subst q; exact h1
      · exact h4 x m i q
theorem HvsOk.ofNb {t : Addr → Option Tag} {G H : Hp} {σ : Sg} : ∀ {hv : Hv}, HvsOk B t G H σ (nbs hv) → Bors hv σ → HvsOk B t G H σ hv
  | [], _, _ => trivial
  | (v, rv) :: r, ⟨h1, h2⟩, b => by
    refine ⟨?_, HvsOk.ofNb h2 fun x m => b x (List.mem_cons_of_mem _ m)⟩
    have hl : (nbs r).length = r.length := List.length_map ..
    cases rv with
    | bor j => exact b (v, .bor j) (List.mem_cons_self ..) j rfl
    | dat d => exact h1
    | new d => rw [hl] at h1; exact h1
    | lk d => exact h1
theorem Rep.toNb {hv : Hv} {ρ : Rho} {σ : Sg} {H G : Hp} (R : Rep B hv ρ σ H G) : Rep B (nbs hv) ρ σ H G ∧ Bors hv σ := by
  obtain ⟨t, h1, h2, h3⟩ := R.ex
  exact ⟨⟨⟨t, h1, h2, h3.toNb.1⟩, R.sub, R.g0, R.nw, R.hs, R.ioH, R.ioT, R.len⟩, h3.toNb.2⟩
theorem Rep.ofNb {hv : Hv} {ρ : Rho} {σ : Sg} {H G : Hp} (R : Rep B (nbs hv) ρ σ H G) (b : Bors hv σ) : Rep B hv ρ σ H G := by
  obtain ⟨t, h1, h2, h3⟩ := R.ex
  exact ⟨⟨t, h1, h2, h3.ofNb b⟩, R.sub, R.g0, R.nw, R.hs, R.ioH, R.ioT, R.len⟩
theorem wipe_wipe {σ : Sg} (vs : List Nat) : wipe (wipe σ vs) vs = wipe σ vs := by
  refine List.ext_getElem? fun i => ?_
  by_cases m : i ∈ vs
  · have go : ∀ (σ : Sg) (ws : List Nat), i ∈ ws → (wipe σ ws)[i]? = (σ[i]?).map fun _ => none := by
      intro σ ws
      induction ws with
      | nil => intro m; cases m
      | cons w ws ih =>
        intro m
        show ((wipe σ ws).set w none)[i]? = _
        by_cases z : w = i
        · subst z
          rw [List.getElem?_set_self']
          by_cases m' : w ∈ ws
          · rw [ih m']; cases σ[w]? <;> rfl
          · rw [wipe_get m']; cases σ[w]? <;> rfl
        · rw [List.getElem?_set_ne z]
          exact ih ((List.mem_cons.mp m).resolve_left fun q => z q.symm)
    rw [go _ _ m, go _ _ m]
    cases σ[i]? <;> rfl
  · rw [wipe_get m]
theorem lc_wk {fi : MI} {sg : MG} {is vs : List Nat} (hvs : ∀ i ∈ is, i ∈ vs) : ∀ σ H Q, tM B (mCmp fi sg tf fa vs) σ H Q → tLc (tI B fi) (gM B is sg) (tT B tf) (tD B fa) vs σ H Q := fun σ H Q ⟨hv, ρ, G, R, rv, ρ', hf, k⟩ => by
  obtain ⟨⟨ds, ρ1⟩, e1, hf⟩ := bnd hf
  obtain ⟨⟨accF, ρ2⟩, e2, hf⟩ := mpp hf
  cases hf
  refine ⟨hv, ρ, G, R, ds, ρ1, e1, fun J H1 G1 hx jo nx R1 => fun D0 hD => ?_⟩
  obtain ⟨R2, bo⟩ := R1.toNb
  have nb : NB (nbs (hx :: hv)) := nbs_nb
  have R3 := (R2.wiped (vs := vs) nb rfl).new (ho := .lst []) (d := .lst []) hD ⟨[], rfl, .nil⟩
  refine ⟨fun i m H => m = ds.length - i ∧ i ≤ ds.length ∧ ∃ ρi acc G, Rep B ((.ref D0, .new (.lst acc)) :: nbs (hx :: hv)) ρi (wipe σ vs) H G ∧ (∀ (j : Nat) (x : Sl), ρi[j]? = some x → j ∈ vs → x = .un) ∧ mCmpL sg tf fa vs (ds.drop i) acc ρi = some (accF, ρ2),
    ⟨_, rfl, Nat.zero_le _, _, [], _, R3, wipeR_un, e2⟩, ?_⟩
  rintro i m H2 ⟨rfl, hi, ρi, acc, G2, R4, un, h2⟩
  have mx : hx ∈ ((V.ref D0, Rv.new (.lst acc)) :: nbs (hx :: hv)) := by
    refine List.mem_cons_of_mem _ (List.mem_map.mpr ⟨hx, List.mem_cons_self .., nb1_of nx⟩)
  by_cases hl : i = ds.length
  · left
    subst hl
    refine ⟨jo.2 _ _ _ _ _ R4 mx, ?_⟩
    rw [List.drop_length] at h2
    cases h2
    have R5 := R4.unwiped (nb.cons fun j q => by cases q) un
    have R6 : Rep B (nbs ((V.ref D0, Rv.new (.lst accF)) :: hv)) ρ2 σ H2 G2 := R5.pop2
    refine k _ _ _ (R6.ofNb fun x m' i q => ?_)
    rcases List.mem_cons.mp m' with rfl | m'
    · cases q
    · exact bo x (List.mem_cons_of_mem _ m') i q
  · right
    have hlt : i < ds.length := Nat.lt_of_le_of_ne hi hl
    obtain ⟨d, hd⟩ : ∃ d, ds[i]? = some d := ⟨_, List.getElem?_eq_getElem hlt⟩
    have hdr : ds.drop i = d :: ds.drop (i + 1) := by
      rw [List.drop_eq_getElem_cons hlt]
      rw [List.getElem?_eq_getElem hlt] at hd
      cases hd; rfl
    obtain ⟨go, yl⟩ := jo.1 _ _ _ _ _ i d R4 mx hd
    rw [hdr] at h2
    obtain ⟨r, h3, h2⟩ := bnd h2
    obtain ⟨⟨bt, ρ4⟩, h4, h2⟩ := bnd h2
    refine ⟨go, fun H' => ∃ ρi acc G, Rep B ((.ref D0, .new (.lst acc)) :: nbs (hx :: hv)) ρi (wipe σ vs) H' G ∧ (∀ (j : Nat) (x : Sl), ρi[j]? = some x → j ∈ vs → x = .un) ∧ mCmpL sg tf fa vs (ds.drop (i + 1)) acc ρi = some (accF, ρ2), fun H' ⟨ρi, acc, G, R', un', h'⟩ => ⟨_, by omega, rfl, hlt, ρi, acc, G, R', un', h'⟩, fun x H' hy => ?_⟩
    obtain ⟨G3, R5⟩ := yl x H' hy
    refine ⟨_, ρi, G3, d, nb.cons (fun j q => by cases q), R5, r, h3, fun σ4 H4 G4 w4 R6 => ?_⟩
    have w5 : wipe σ4 vs = wipe σ vs := (w4 vs hvs).trans (wipe_wipe vs)
    refine ⟨w5, ⟨_, r, G4, R6, bt, ρ4, h4, fun H5 G5 R7 => ?_⟩⟩
    cases bt with
    | true =>
      simp only [if_true] at h2 ⊢
      obtain ⟨⟨y, ρ5⟩, h5, h2⟩ := bnd h2
      refine ⟨_, ρ4, G5, R7, y, ρ5, h5, fun v H6 G6 R8 => ?_⟩
      obtain ⟨xs, e6, e7, R9⟩ := R8.growTop
      by_cases hz : decide (acc.length < sizeLine) = true
      · rw [if_pos hz] at h2
        exact ⟨xs, e6, by rw [e7]; exact of_decide_eq_true hz, _, _, _, R9.wiped (nb.cons fun j q => by cases q) w5, wipeR_un, h2⟩
      · rw [if_neg hz] at h2; cases h2
    | false =>
      simp only [Bool.false_eq_true, if_false] at h2 ⊢
      exact ⟨_, _, _, R7.wiped (nb.cons fun j q => by cases q) w5, wipeR_un, h2⟩
def yes : MB := fun ρ => some (true, ρ)
theorem pts_nilM : PTs X [] (tT B yes) := ⟨fun pins s σ H Q I h => pts_nil.run pins s σ H Q I (by
  obtain ⟨hv, ρ, G, R, b, ρ', hf, k⟩ := h
  cases hf
  exact k _ _ R)⟩
theorem pts_oneM {c : Expr} (h : PB X B c tf) : PTs X [c] (tT B tf) := pts_one h
section
variable {elt tg iter : Expr} {ifs : List Expr} {scope : Scope} {own : List (Str × Nat)} {fi : MI} {sg : MG} {is : List Nat}
theorem pm_lc (hc : X.calm = true) (hN : X.N.Nodup) (hi : PIM X B tg iter fi) (ok : BlkOk X.N X.env.scope scope own)
    (hg : ∀ (s : Shared) (H : Hp) (C : Addr) (cl : List (Str × Addr)) (fp : List Addr), PG (X.blk s H scope (compEnvC scope cl C X.env) fp) tg (gM B is sg)) (ht : ∀ (s : Shared) (H : Hp) (C : Addr) (cl : List (Str × Addr)) (fp : List Addr), PTs (X.blk s H scope (compEnvC scope cl C X.env) fp) ifs (tT B tf))
    (he : ∀ (s : Shared) (H : Hp) (C : Addr) (cl : List (Str × Addr)) (fp : List Addr), PD (X.blk s H scope (compEnvC scope cl C X.env) fp) B elt fa) (hvs : ∀ i ∈ is, i ∈ own.map (·.2) := by decide) (hs : ∀ x, foldedSetIterable iter X.env x = pure x := by intro _; rfl) :
    PM X B (.ListComp elt [⟨tg, iter, ifs, 0⟩] scope pos) (mCmp fi sg tf fa (own.map (·.2))) := (pe_lc hc hN hi ok hg ht he hs).wk (lc_wk hvs)
theorem ps_setLcM (i : Nat) {y : Str} {py spos : Pos} (hc : X.calm = true) (hN : X.N.Nodup) (hyl : X.env.scope.names.lookup y = some .local)
    (hsw : swapsWith (.ListComp elt [⟨tg, iter, ifs, 0⟩] scope pos) (some (.Name y py)) spos.line X.env = pure true) (hi : PIM X B tg iter fi) (ok : BlkOk X.N X.env.scope scope own)
    (hg : ∀ (s : Shared) (H : Hp) (C : Addr) (cl : List (Str × Addr)) (fp : List Addr), PG (X.blk s H scope (compEnvC scope cl C X.env) fp) tg (gM B is sg)) (ht : ∀ (s : Shared) (H : Hp) (C : Addr) (cl : List (Str × Addr)) (fp : List Addr), PTs (X.blk s H scope (compEnvC scope cl C X.env) fp) ifs (tT B tf))
    (he : ∀ (s : Shared) (H : Hp) (C : Addr) (cl : List (Str × Addr)) (fp : List Addr), PD (X.blk s H scope (compEnvC scope cl C X.env) fp) B elt fa) (hy : X.N[i]? = some y := by rfl) (hvs : ∀ i ∈ is, i ∈ own.map (·.2) := by decide) (hs : ∀ x, foldedSetIterable iter X.env x = pure x := by intro _; rfl) :
    PSM X B (.Assign [.Name y py] (.ListComp elt [⟨tg, iter, ifs, 0⟩] scope pos) spos) (mSet i (mCmp fi sg tf fa (own.map (·.2)))) := (ps_setLc hc hN hy hyl hsw hi ok hg ht he hs).wk fun D σ H h => lc_wk hvs _ _ _ (mSet_wk D σ H h)
end
end
end M
/-! M6: defs and their calls. -/
namespace M
open PySem PySem.Spec PyProof.Rows L2

/-- a def's promise where nothing is being shown around: as the layer's own, which knows nothing of that -/
structure FnA (P : Program) (w : World) (K : PySem.W.Frag) (mg : Str → Option Value) (base : Heap) (k : Nat) (f : Addr) (fd : FuncData) (ps : List Str) (sp : Sp) : Prop where
  ln : ∀ vs H Q E, sp vs H Q E → vs.length = ps.length
  go : ∀ (A : Around) (ou : List Env) (s : Shared) (H : Hp) (ar : Args) (us : List Value) (vs : List V) (Q : VK) (E : XK), A.guards = some [] → Room k A → Env0 P w K mg base A ou s H →
    BindsTo s fd ar (ps.zip us) → Vals vs us → sp vs H Q E → codeAny (model P w) A (.call (.ref f) ar) (CR CX0 ou P w H s Q E) s
section
variable {P : Program} {w : World} {K : PySem.W.Frag} {mg : Str → Option Value} {base : Heap}
theorem FnA.of {k : Nat} {f : Addr} {fd : FuncData} {ps : List Str} {sp : Sp} (F : FnOk P w K mg base CX0 k f fd ps sp) : FnA P w K mg base k f fd ps sp :=
  ⟨F.len, fun A ou s H ar us vs Q E _ => F.run A ou s H ar us vs Q E⟩
theorem FnA.up {j k : Nat} {f : Addr} {fd : FuncData} {ps : List Str} {sp : Sp} (F : FnA P w K mg base j f fd ps sp) (h : j ≤ k) : FnA P w K mg base k f fd ps sp :=
  ⟨F.ln, fun A ou s H ar us vs Q E g hr => F.go A ou s H ar us vs Q E g (hr.mono h)⟩
theorem funA {x qual : Str} {st : Stmt} {f : Addr} {fd : FuncData} {N ps : List Str} {k : Nat} {sp : Sp} (F : Fun K x qual st f fd) (S : FnScope N ps (defScope st)) (ln : ∀ vs H Q E, sp vs H Q E → vs.length = ps.length)
    (bd : ∀ (cdv : Value) (A : Around) (ou : List Env) (s : Shared) (H : Hp) (vs : List V) (Q : VK) (E : XK), A.guards = some [] → Room k (A.deeper (envOfC qual (defScope st) s.heap.objs.size f cdv)) → sp vs H Q E →
      ∃ t, PSs (cxOf CX0 P w K mg base N qual (defScope st) f cdv A ou s H E).nox (defBody st) t ∧ t { nx := fun _ H' => Q .non H', rt := Q } (L2.start N vs) H) : FnA P w K mg base (k + 1) f fd ps sp := by
  obtain ⟨oc, od, kV, doc, pm, an, cdv, ct, osl, rfl, lk, hcd⟩ := F.ex
  refine ⟨ln, ?_⟩
  intro A ou s H ar us vs Q E hg hr e0 hb r hsp
  have old : ∀ b o, base.get? b = some o → s.heap.get? b = some o := fun b o q => (e0.bs b o q).1
  have hK := e0.mod.kin.keeps old
  have pars : ∀ z ∈ ps.zip us, (defScope st).names.lookup z.1 = some .local ∨ ((defScope st).names.lookup z.1 = some .cell ∧ ((cellsFrom (s.heap.objs.size + 1) (defScope st).names []).lookup z.1).isSome = true) := by
    intro z hz
    cases S.par z.1 (List.of_mem_zip (a := z.1) (b := z.2) hz).1 with
    | inl q => exact Or.inl q
    | inr q => exact Or.inr ⟨q, PySem.W.cellsFrom_some _ _ _ (.inl q)⟩
  apply codeAny_call_function hr.depth (hK _ _ lk) rfl S.co S.gen rfl (PySem.W.codeRec_of hK hcd)
  apply hb
  apply wpAny_newFunctionEnv_cells S.kind pars
  intro env he s1 ic
  subst he
  refine And.intro (e0.mod.nolimit.keeps fun b o q => ic.toInCall.keep b o (old b o q)) (codeAny_func ?_)
  obtain ⟨t, ht, hq⟩ := bd cdv A ou s H vs Q E hg (hr.deeper _) hsp
  have I := inv_start (CX := CX0) (E := E) S hr.hd e0 (ln _ _ _ _ hsp) r ic
  refine wpAny_mono (ht.nox.run [] s1 _ H _ I hq) ?_ (fun e s' q => q)
  intro fl s' q
  match fl, q with
  | .ret u, ⟨v, _, H', J, rv, q⟩ => exact ⟨v, H', J.os, J.bare, J.base, J.hok, rv, q⟩
  | .next, ⟨_, H', J, q⟩ => exact ⟨.non, H', J.os, J.bare, J.base, J.hok, rfl, q⟩
  | .brk, ⟨_, _, _, q⟩ => cases q
  | .cont, ⟨_, _, _, q⟩ => cases q
end
section
variable {X : Cx} {k : Nat} {f : Addr} {fd : FuncData} {ps : List Str} {sp : Sp} {x : Str} {p pos : Pos} {e : Expr} {es : List Expr} {t : TA}
theorem pe_callA (F : FnA X.prog X.w X.K X.mg X.base k f fd ps sp) (hgd : X.A.guards = some []) (hr : Room k X.A) (hg : Gl X x) (hm : X.mg x = some (.ref f)) (hk : PySem.W.keepIn X.K (.ref f) = true) (hb : Binds X.K fd ps [])
    (ha : PA X (e :: es) t) (hdb : (x == ("__debug__" : Str)) = false) (he : starEach (e :: es) X.env = (false, eval e X.env) :: starEach es X.env) (hpl : (backTo pos (starEach es X.env)).any (·.1) = false) :
    PE X (.Call (.Name x p) (e :: es) [] pos) (fun σ H Q => t σ H fun vs H1 => sp vs H1 Q E0) := PE.mk (by
  intro pins s σ H Q I h
  apply wpAny_Call_Name_kw
  apply ld_glob I hg hm _ hdb
  refine PySem.W.callWith_K (h₀ := X.base) I.ok.mod.kin hk (thn (ha.run pos pins s σ H _ I h) ?_) he hpl
  rintro us s1 ⟨vs, H1, I1, r, q⟩
  refine And.intro I1.kIn (wpAny_call (codeAny_mono (F.go X.A X.stack s1 H1 ⟨us, []⟩ us vs Q E0 hgd hr I1.env0 ?_ r q) ?_))
  · have hl : us.length = ps.length := by rw [← r.length]; exact F.ln _ _ _ _ q
    have hb' := hb s1 us I1.kIn (by rw [List.append_nil]; exact hl)
    rw [List.append_nil] at hb'
    exact hb'
  · intro rr s' hq
    match rr, hq with
    | .ok (.ret u), hq => exact I1.after hq)
end

/-- a def that only reads its arguments: n of them, m what it hands back -/
def spP (c : Cn) (n : Nat) (m : List D → Option D) : Sp := fun vs H Q _ => vs.length = n ∧ ∃ ds G d, Same G H ∧ Rps c G vs ds ∧ m ds = some d ∧ ∀ v H' G', Gr G H G' H' → Rp c G' v d → Q v H'
/-- .. and hands back a new thing that no one else has -/
def spN (c : Cn) (n : Nat) (m : List D → Option D) : Sp := fun vs H Q _ => vs.length = n ∧ ∃ ds G d, Same G H ∧ Rps c G vs ds ∧ m ds = some d ∧ ∀ p ho H' G', Gr G H G' H' → H p = none → H' p = some ho → G' p = none → Cont c G' p ho d → Q (.ref p) H'
/-- a def that changes its first argument -/
def spG (c : Cn) (n : Nat) (m : D → List D → Option (D × D)) : Sp := fun vs H Q _ => vs.length = n ∧ ∃ a vs' ho g ds G d g', vs = .ref a :: vs' ∧ Same G H ∧ H a = some ho ∧ Cont c G a ho g ∧ G a = none ∧ Rps c G vs' ds ∧ m g ds = some (d, g') ∧
  ∀ v ho' H' G', (∀ b o, H b = some o → b ≠ a → H' b = some o) → H' a = some ho' → Cont c G' a ho' g' → G' a = none → Same G G' → Same G' H' → (∀ b, G' b ≠ none → G b ≠ none ∨ H b = none ∨ Tp (H b)) → Rp c G' v d → Q v H'

def argR (ds : List D) (n : Nat) : Rho := ds.map Sl.dat ++ List.replicate n .un
/-- a def's function, of its body's -/
def fnP (n : Nat) (f : MS) : List D → Option D := fun ds => (f (argR ds n)).bind fun p => match p.1 with
  | .rt (.dat d) => some d
  | .rt (.new d) => some d
  | .nx => some .non
  | _ => none
def fnN (n : Nat) (f : MS) : List D → Option D := fun ds => (f (argR ds n)).bind fun p => match p.1 with
  | .rt (.new d) => some d
  | _ => none
def fnG (n : Nat) (f : MS) : D → List D → Option (D × D) := fun g ds => (f (.io g :: argR ds n)).bind fun p => match p.2 with
  | .io g' :: _ => (match p.1 with
    | .rt (.dat d) => some (d, g')
    | .rt (.new d) => some (d, g')
    | .nx => some (.non, g')
    | _ => none)
  | _ => none

theorem start_get {N : List Str} {vs : List V} {i : Nat} (h : i < vs.length) : (start N vs)[i]? = some (vs[i]?) := by
  unfold L2.start
  rw [List.getElem?_append_left (by rw [List.length_map]; exact h), List.getElem?_map, List.getElem?_eq_getElem h]
  rfl
theorem start_len {N : List Str} {vs : List V} (h : vs.length ≤ N.length) : (start N vs).length = N.length := by
  unfold L2.start
  rw [List.length_append, List.length_map, List.length_replicate]
  omega
theorem argR_get {ds : List D} {n i : Nat} {s : Sl} (h : (argR ds n)[i]? = some s) : s = .un ∨ ∃ d, ds[i]? = some d ∧ s = .dat d := by
  unfold argR at h
  by_cases hi : i < ds.length
  · rw [List.getElem?_append_left (by rw [List.length_map]; exact hi), List.getElem?_map, List.getElem?_eq_getElem hi] at h
    cases h
    exact .inr ⟨_, List.getElem?_eq_getElem hi, rfl⟩
  · rw [List.getElem?_append_right (by rw [List.length_map]; omega)] at h
    rw [List.getElem?_replicate] at h
    split at h
    · cases h; exact .inl rfl
    · cases h
theorem argR_len {ds : List D} {n : Nat} : (argR ds n).length = ds.length + n := by unfold argR; rw [List.length_append, List.length_map, List.length_replicate]

theorem nb_nil : NB [] := fun x m => nomatch m
section
variable {P : Program} {w : World} {K : PySem.W.Frag} {mg : Str → Option Value} {base : Heap} {C : Addr}
/-- the frame at a reading def's entry -/
theorem rep_start {c : Cn} {G H : Hp} {N : List Str} {vs : List V} {ds : List D} {n : Nat} (s : Same G H) (r : Rps c G vs ds) (hl : N.length = vs.length + n) : Rep ⟨c, H, G, none⟩ [] (argR ds n) (start N vs) H G := by
  refine ⟨⟨fun _ => none, fun a ha => absurd rfl ha, fun i x hx => ?_, trivial⟩, s, Same.refl _, fun b hb => .inl hb, fun b o e _ => e, fun b e => (by cases e), fun b e => (by cases e), ?_⟩
  · rcases argR_get hx with rfl | ⟨d, e1, rfl⟩
    · trivial
    · obtain ⟨v, e2, e3⟩ := r.get e1
      have hi : i < vs.length := (List.getElem?_eq_some_iff.mp e2).1
      exact ⟨v, by rw [start_get hi, e2], e3⟩
  · rw [start_len (by omega), argR_len, ← r.len, hl]
theorem rep_startG {c : Cn} {G H : Hp} {N : List Str} {a : Addr} {ho : HO} {g : D} {vs : List V} {ds : List D} {n : Nat} (s : Same G H) (r : Rps c G vs ds) (hl : N.length = vs.length + 1 + n) (hH : H a = some ho) (hc : Cont c G a ho g) (hG : G a = none) :
    Rep ⟨c, H, G, some a⟩ [] (.io g :: argR ds n) (start N (.ref a :: vs)) H G := by
  refine ⟨⟨fun b => if b = a then some (.sl 0) else none, fun b hb => ?_, fun i x hx => ?_, trivial⟩, s, Same.refl _, fun b hb => .inl hb, fun b o e _ => e, fun b e => ?_, fun b e => ?_, ?_⟩
  · by_cases z : b = a
    · subst z; exact ⟨hG, by rw [hH]; simp, by rw [hH]; exact hc.notup⟩
    · exact absurd (if_neg z) hb
  · cases i with
    | zero =>
      simp only [List.getElem?_cons_zero, Option.some.injEq] at hx
      subst hx
      exact ⟨a, ho, by rw [start_get (by simp)]; rfl, hH, hc, if_pos rfl, rfl⟩
    | succ i =>
      rw [List.getElem?_cons_succ] at hx
      rcases argR_get hx with rfl | ⟨d, e1, rfl⟩
      · trivial
      · obtain ⟨v, e2, e3⟩ := r.get e1
        have hi : i < vs.length := (List.getElem?_eq_some_iff.mp e2).1
        exact ⟨v, by rw [start_get (by rw [List.length_cons]; omega), List.getElem?_cons_succ, e2], e3⟩
  · have e : a = b := Option.some.inj e
    rw [← e, hH]; simp
  · have e : a = b := Option.some.inj e
    rw [← e, hH]; exact hc.notup
  · rw [start_len (by rw [List.length_cons]; omega), List.length_cons, argR_len, ← r.len, hl]
    omega
/-- what has become of the heap since the entry -/
theorem Rep.gr {c : Cn} {G0 H0 G H : Hp} {hv : Hv} {ρ : Rho} {σ : Sg} (R : Rep ⟨c, H0, G0, none⟩ hv ρ σ H G) : Gr G0 H0 G H := ⟨R.g0, fun b o e => R.hs b o e (by simp), R.sub, R.nw⟩
variable {x qual : Str} {st : Stmt} {f : Addr} {fd : FuncData} {N ps : List Str} {k n : Nat} {fb : MS}
abbrev BodyOk (P : Program) (w : World) (K : PySem.W.Frag) (mg : Str → Option Value) (base : Heap) (C : Addr) (N : List Str) (qual : Str) (st : Stmt) (f : Addr) (k : Nat) (fb : MS) : Prop :=
  ∀ (cdv : Value) (A : Around) (outer : List Env) (s : Shared) (H : Hp) (E : XK) (G0 : Hp) (io : Option Addr), A.guards = some [] → Room k (A.deeper (envOfC qual (defScope st) s.heap.objs.size f cdv)) →
    PSsM (cxOf CX0 P w K mg base N qual (defScope st) f cdv A outer s H E).nox ⟨⟨P, w, K, C⟩, H, G0, io⟩ (defBody st) fb
theorem okP (F : Fun K x qual st f fd) (S : FnScope N ps (defScope st)) (hn : N.length = ps.length + n) (body : BodyOk P w K mg base C N qual st f k fb) : FnA P w K mg base (k + 1) f fd ps (spP ⟨P, w, K, C⟩ ps.length (fnP n fb)) := by
  refine funA F S (fun vs H Q E h => h.1) (fun cdv A outer s H vs Q E hgd hr h => ?_)
  obtain ⟨hl, ds, G, d, sG, r, hm, q⟩ := h
  refine ⟨_, body cdv A outer s H E G none hgd hr, ?_⟩
  obtain ⟨⟨fl, ρ'⟩, h1, h2⟩ := bnd hm
  refine ⟨[], argR ds n, G, nb_nil, rep_start (c := ⟨P, w, K, C⟩) sG r (by rw [hl]; exact hn), fl, ρ', h1, ?_⟩
  cases fl with
  | nx => simp only [Option.some.injEq] at h2; subst h2; exact fun σ H' G' R => q _ _ _ R.gr .non
  | bk => cases h2
  | ct => cases h2
  | rt rv =>
    intro hv' v σ H' G' R
    cases rv with
    | dat d' => simp only [Option.some.injEq] at h2; subst h2; exact q _ _ _ R.gr R.top
    | new d' => simp only [Option.some.injEq] at h2; subst h2; obtain ⟨G2, R2⟩ := R.fzNew; exact q _ _ _ R2.gr R2.top
    | bor i => cases h2
    | lk d' => cases h2
abbrev BodyOk0 (P : Program) (w : World) (K : PySem.W.Frag) (mg : Str → Option Value) (base : Heap) (C : Addr) (N : List Str) (qual : Str) (st : Stmt) (f : Addr) (k : Nat) (fb : MS) : Prop :=
  ∀ (cdv : Value) (A : Around) (outer : List Env) (s : Shared) (H : Hp) (E : XK) (G0 : Hp) (io : Option Addr), Room k (A.deeper (envOfC qual (defScope st) s.heap.objs.size f cdv)) →
    PSsM (cxOf CX0 P w K mg base N qual (defScope st) f cdv A outer s H E).nox ⟨⟨P, w, K, C⟩, H, G0, io⟩ (defBody st) fb
/-- the same for a def that shows nothing: the layer's own promise -/
theorem okP0 (F : Fun K x qual st f fd) (S : FnScope N ps (defScope st)) (hn : N.length = ps.length + n) (body : BodyOk0 P w K mg base C N qual st f k fb) : FnOk P w K mg base CX0 (k + 1) f fd ps (spP ⟨P, w, K, C⟩ ps.length (fnP n fb)) := by
  refine F.ok S (fun vs H Q E h => h.1) (fun cdv A outer s H vs Q E hr h => ?_)
  obtain ⟨hl, ds, G, d, sG, r, hm, q⟩ := h
  refine ⟨_, body cdv A outer s H E G none hr, ?_⟩
  obtain ⟨⟨fl, ρ'⟩, h1, h2⟩ := bnd hm
  refine ⟨[], argR ds n, G, nb_nil, rep_start (c := ⟨P, w, K, C⟩) sG r (by rw [hl]; exact hn), fl, ρ', h1, ?_⟩
  cases fl with
  | nx => simp only [Option.some.injEq] at h2; subst h2; exact fun σ H' G' R => q _ _ _ R.gr .non
  | bk => cases h2
  | ct => cases h2
  | rt rv =>
    intro hv' v σ H' G' R
    cases rv with
    | dat d' => simp only [Option.some.injEq] at h2; subst h2; exact q _ _ _ R.gr R.top
    | new d' => simp only [Option.some.injEq] at h2; subst h2; obtain ⟨G2, R2⟩ := R.fzNew; exact q _ _ _ R2.gr R2.top
    | bor i => cases h2
    | lk d' => cases h2
theorem okN (F : Fun K x qual st f fd) (S : FnScope N ps (defScope st)) (hn : N.length = ps.length + n) (body : BodyOk P w K mg base C N qual st f k fb) : FnA P w K mg base (k + 1) f fd ps (spN ⟨P, w, K, C⟩ ps.length (fnN n fb)) := by
  refine funA F S (fun vs H Q E h => h.1) (fun cdv A outer s H vs Q E hgd hr h => ?_)
  obtain ⟨hl, ds, G, d, sG, r, hm, q⟩ := h
  refine ⟨_, body cdv A outer s H E G none hgd hr, ?_⟩
  obtain ⟨⟨fl, ρ'⟩, h1, h2⟩ := bnd hm
  refine ⟨[], argR ds n, G, nb_nil, rep_start (c := ⟨P, w, K, C⟩) sG r (by rw [hl]; exact hn), fl, ρ', h1, ?_⟩
  cases fl with
  | nx => cases h2
  | bk => cases h2
  | ct => cases h2
  | rt rv =>
    intro hv' v σ H' G' R
    cases rv with
    | dat d' => cases h2
    | bor i => cases h2
    | lk d' => cases h2
    | new d' =>
      simp only [Option.some.injEq] at h2; subst h2
      obtain ⟨t, t1, t2, ⟨a, ho, rfl, eH, c, et, e0⟩, t3⟩ := R.ex
      exact q a ho H' G' R.gr e0 eH (t1 a (by rw [et]; simp)).1 c
theorem okG {y : Str} {rest : List Str} (hps : ps = y :: rest) (F : Fun K x qual st f fd) (S : FnScope N ps (defScope st)) (hn : N.length = ps.length + n) (body : BodyOk P w K mg base C N qual st f k fb) : FnA P w K mg base (k + 1) f fd ps (spG ⟨P, w, K, C⟩ ps.length (fnG n fb)) := by
  refine funA F S (fun vs H Q E h => h.1) (fun cdv A outer s H vs Q E hgd hr h => ?_)
  obtain ⟨hl, a, vs', ho, g, ds, G, d, g', rfl, sG, hH, hc, hG, r, hm, q⟩ := h
  refine ⟨_, body cdv A outer s H E G (some a) hgd hr, ?_⟩
  obtain ⟨⟨fl, ρ'⟩, h1, h2⟩ := bnd hm
  have R0 := rep_startG (c := ⟨P, w, K, C⟩) (N := N) (n := n) sG r (by rw [hn, ← hl, List.length_cons]) hH hc hG
  refine ⟨[], .io g :: argR ds n, G, nb_nil, R0, fl, ρ', h1, ?_⟩
  have fin : ∀ {hv : Hv} {σ : Sg} {H' G' : Hp} {v : V} {gg : D} {r : List Sl}, ρ' = .io gg :: r → Rep ⟨⟨P, w, K, C⟩, H, G, some a⟩ ((v, .dat d) :: hv) ρ' σ H' G' → gg = g' → Q v H' := by
    intro hv σ H' G' v gg r e R eg
    subst eg
    obtain ⟨t, t1, t2, t3⟩ := R.ex
    have h0 := t2 0 (.io gg) (by rw [e]; rfl)
    obtain ⟨b, ho', e1, e2, c, e3, e4⟩ := h0
    have eb : a = b := Option.some.inj e4
    subst eb
    exact q v ho' H' G' (fun b o e n => R.hs b o e (by intro z; exact n (Option.some.inj z).symm)) e2 c (t1 a (by rw [e3]; simp)).1 R.g0 R.sub R.nw R.top
  match ρ', h2 with
  | .io gg :: r, h2 =>
    cases fl with
    | nx =>
      simp only [Option.some.injEq, Prod.mk.injEq] at h2
      obtain ⟨rfl, rfl⟩ := h2
      exact fun σ H' G' R => fin rfl (R.dat .non) rfl
    | bk => cases h2
    | ct => cases h2
    | rt rv =>
      intro hv' v σ H' G' R
      cases rv with
      | dat d' =>
        simp only [Option.some.injEq, Prod.mk.injEq] at h2
        obtain ⟨rfl, rfl⟩ := h2
        exact fin rfl R rfl
      | new d' =>
        simp only [Option.some.injEq, Prod.mk.injEq] at h2
        obtain ⟨rfl, rfl⟩ := h2
        obtain ⟨G2, R2⟩ := R.fzNew
        exact fin rfl R2 rfl
      | bor i => cases h2
      | lk d' => cases h2
end

/-! ### calls -/
section
variable {X : Cx} {B : Bs} {CX : CXT} {k n : Nat} {f : Addr} {fd : FuncData} {ps : List Str} {m : List D → Option D} {mG : D → List D → Option (D × D)} {x : Str} {p pos apos : Pos} {e o : Expr} {es : List Expr} {fa : MD} {f0 : ME} {fr : MA}
/-- how many arguments a call hands on -/
def nA (m : List D → Option D) (n : Nat) : List D → Option D := fun ds => if ds.length = n then m ds else none
def nAG (m : D → List D → Option (D × D)) (n : Nat) : D → List D → Option (D × D) := fun g ds => if ds.length + 1 = n then m g ds else none
theorem nA_some {ds : List D} {d : D} (h : nA m n ds = some d) : ds.length = n ∧ m ds = some d := by
  unfold nA at h
  split at h
  · exact ⟨by assumption, h⟩
  · cases h
theorem pd_call (F : FnA X.prog X.w X.K X.mg X.base k f fd ps (spP B.c n m)) (hgd : X.A.guards = some []) (hr : Room k X.A) (hg : Gl X x) (hm : X.mg x = some (.ref f)) (hk : PySem.W.keepIn X.K (.ref f) = true) (hb : Binds X.K fd ps [])
    (ha : PAM X B (e :: es) fr) (hdb : (x == ("__debug__" : Str)) = false := by decide) (he : starEach (e :: es) X.env = (false, eval e X.env) :: starEach es X.env := by rfl) (hpl : (backTo pos (starEach es X.env)).any (·.1) = false := by rfl) :
    PD X B (.Call (.Name x p) (e :: es) [] pos) (mC (nA m n) fr) := (pe_callA F hgd hr hg hm hk hb ha hdb he hpl).wk fun σ H Q ⟨hv, ρ, G, R, d, ρ', hf, k⟩ => by
  obtain ⟨⟨xs, ρ1⟩, h1, hf⟩ := bnd hf
  obtain ⟨d', h5, hf⟩ := mpp hf
  cases hf
  obtain ⟨h6, h7⟩ := nA_some h5
  refine ⟨hv, ρ, G, R, xs, ρ1, h1, fun vs H1 G1 R1 rs => ?_⟩
  exact ⟨by rw [rs.len]; exact h6, xs, G1, _, R1.sub, rs, h7, fun v H2 G2 g r => k _ _ _ ((R1.grow g).dat r)⟩
theorem pd_call0 (F : FnOk X.prog X.w X.K X.mg X.base CX0 k f fd ps (spP B.c n m)) (hr : Room k X.A) (hg : Gl X x) (hm : X.mg x = some (.ref f)) (hk : PySem.W.keepIn X.K (.ref f) = true) (hb : Binds X.K fd ps [])
    (ha : PAM X B (e :: es) fr) (hdb : (x == ("__debug__" : Str)) = false := by decide) (he : starEach (e :: es) X.env = (false, eval e X.env) :: starEach es X.env := by rfl) (hpl : (backTo pos (starEach es X.env)).any (·.1) = false := by rfl) :
    PD X B (.Call (.Name x p) (e :: es) [] pos) (mC (nA m n) fr) := (pe_call F hr hg hm hk hb .nil pass0 ha hdb he hpl).wk fun σ H Q ⟨hv, ρ, G, R, d, ρ', hf, k⟩ => by
  obtain ⟨⟨xs, ρ1⟩, h1, hf⟩ := bnd hf
  obtain ⟨d', h5, hf⟩ := mpp hf
  cases hf
  obtain ⟨h6, h7⟩ := nA_some h5
  refine ⟨hv, ρ, G, R, xs, ρ1, h1, fun vs H1 G1 R1 rs => ?_⟩
  dsimp only
  rw [List.append_nil]
  exact ⟨by rw [rs.len]; exact h6, xs, G1, _, R1.sub, rs, h7, fun v H2 G2 g r => k _ _ _ ((R1.grow g).dat r)⟩
/-- .. handing back a new thing -/
def mCn (m : List D → Option D) (fr : MA) : ME := fun ρ => (fr ρ).bind fun p => (m p.1).map fun d => (.new d, p.2)
theorem Rep.come {hv : Hv} {ρ : Rho} {σ : Sg} {H G H' G' : Hp} {p : Addr} {ho : HO} {d : D} (R : Rep B hv ρ σ H G) (g : Gr G H G' H') (h0 : H p = none) (h1 : H' p = some ho) (h2 : G' p = none) (c : Cont B.c G' p ho d) : Rep B ((.ref p, .new d) :: hv) ρ σ H' G' := by
  have R1 := R.grow g
  obtain ⟨e0, eG⟩ := R.fresh h0
  obtain ⟨t, t1, t2, t3⟩ := R.ex
  have ta : t p = none := by
    cases q : t p with
    | none => rfl
    | some x => exact absurd h0 (t1 p (by rw [q]; simp)).2.1
  have kp : ∀ b o, t b ≠ none → H b = some o → H' b = some o ∧ setT t p (some (.tm hv.length)) b = t b := fun b o hb eb => by
    have n : b ≠ p := fun z => by rw [z] at hb; exact hb ta
    exact ⟨g.h _ _ eb, setT_ne n⟩
  refine ⟨⟨setT t p (some (.tm hv.length)), fun b hb => ?_, fun i s hs => (t2 i s hs).keep g.g kp, ⟨p, ho, rfl, h1, c, setT_same, e0⟩, t3.keep g.g kp⟩, R1.sub, R1.g0, R1.nw, R1.hs, R1.ioH, R1.ioT, R1.len⟩
  by_cases z : b = p
  · subst z; exact ⟨h2, by rw [h1]; simp, by rw [h1]; exact c.notup⟩
  · rw [setT_ne z] at hb
    obtain ⟨q1, q2, q3⟩ := t1 b hb
    refine ⟨?_, fun q => ?_, fun q => ?_⟩
    · cases q : G' b with
      | none => rfl
      | some o =>
        rcases g.nw b (by rw [q]; simp) with z | z | z
        · exact absurd q1 z
        · exact absurd z q2
        · exact absurd z q3
    · cases q' : H b with
      | none => exact q2 q'
      | some o => rw [g.h _ _ q'] at q; cases q
    · cases q' : H b with
      | none => exact q2 q'
      | some o => rw [g.h _ _ q', ← q'] at q; exact q3 q
theorem pm_callN (F : FnA X.prog X.w X.K X.mg X.base k f fd ps (spN B.c n m)) (hgd : X.A.guards = some []) (hr : Room k X.A) (hg : Gl X x) (hm : X.mg x = some (.ref f)) (hk : PySem.W.keepIn X.K (.ref f) = true) (hb : Binds X.K fd ps [])
    (ha : PAM X B (e :: es) fr) (hdb : (x == ("__debug__" : Str)) = false := by decide) (he : starEach (e :: es) X.env = (false, eval e X.env) :: starEach es X.env := by rfl) (hpl : (backTo pos (starEach es X.env)).any (·.1) = false := by rfl) :
    PM X B (.Call (.Name x p) (e :: es) [] pos) (mCn (nA m n) fr) := (pe_callA F hgd hr hg hm hk hb ha hdb he hpl).wk fun σ H Q ⟨hv, ρ, G, R, rv, ρ', hf, k⟩ => by
  obtain ⟨⟨xs, ρ1⟩, h1, hf⟩ := bnd hf
  obtain ⟨d', h5, hf⟩ := mpp hf
  cases hf
  obtain ⟨h6, h7⟩ := nA_some h5
  refine ⟨hv, ρ, G, R, xs, ρ1, h1, fun vs H1 G1 R1 rs => ?_⟩
  exact ⟨by rw [rs.len]; exact h6, xs, G1, _, R1.sub, rs, h7, fun p ho H2 G2 g h0 e1 e2 c => k _ _ _ (R1.come g h0 e1 e2 c)⟩
/-- a call that changes what slot i holds (or a new thing in hand) -/
def mCG (m : D → List D → Option (D × D)) (f0 : ME) (fr : MA) : MD := fun ρ => (f0 ρ).bind fun p => (fr p.2).bind fun q => match p.1 with
  | .bor i => (q.2[i]?).bind fun s => (mutS s).bind fun g => (m g q.1).map fun r => (r.1, q.2.set i (putS s r.2))
  | .new g => (m g q.1).map fun r => (r.1, q.2)
  | _ => none
theorem updIt {H : Hp} {a : Addr} {ho : HO} (h : H a = some ho) : upd H a ho = H := by
  funext b
  by_cases z : b = a
  · subst z; rw [upd_same, h]
  · rw [upd_ne z]
theorem upd2 {H : Hp} {a : Addr} {ho ho' : HO} (h : H a = some ho') : upd (upd H a ho) a ho' = H := by rw [upd_upd, updIt h]
theorem grMut {G H G' H' : Hp} {a : Addr} {ho : HO} (hH : H a = some ho) (hG : G a = none) (h1 : ∀ b o, H b = some o → b ≠ a → H' b = some o) (hG' : G' a = none) (h2 : Same G G') (h3 : Same G' H') (h4 : ∀ b, G' b ≠ none → G b ≠ none ∨ H b = none ∨ Tp (H b)) : Gr G H G' (upd H' a ho) := by
  refine ⟨h2, fun b o e => ?_, fun b o e => ?_, h4⟩
  · by_cases z : b = a
    · subst z; rw [upd_same, ← hH]; exact e
    · rw [upd_ne z]; exact h1 b o e z
  · have n : b ≠ a := fun z => by rw [z, hG'] at e; cases e
    rw [upd_ne n]; exact h3 b o e
theorem pd_callG (F : FnA X.prog X.w X.K X.mg X.base k f fd ps (spG B.c n mG)) (hgd : X.A.guards = some []) (hr : Room k X.A) (hg : Gl X x) (hm : X.mg x = some (.ref f)) (hk : PySem.W.keepIn X.K (.ref f) = true) (hb : Binds X.K fd ps [])
    (h0 : PM X B e f0) (ha : PAM X B es fr) (hdb : (x == ("__debug__" : Str)) = false := by decide) (he : starEach (e :: es) X.env = (false, eval e X.env) :: starEach es X.env := by rfl) (hpl : (backTo pos (starEach es X.env)).any (·.1) = false := by rfl) :
    PD X B (.Call (.Name x p) (e :: es) [] pos) (mCG (nAG mG n) f0 fr) := (pe_callA F hgd hr hg hm hk hb (pa_cons h0 ha he) hdb he hpl).wk fun σ H Q ⟨hv, ρ, G, R, d, ρ', hf, k⟩ => by
  obtain ⟨⟨rv, ρ1⟩, e1, hf⟩ := bnd hf
  obtain ⟨⟨xs, ρ2⟩, e2, hf⟩ := bnd hf
  refine ⟨hv, ρ, G, R, rv, ρ1, e1, fun v0 H1 G1 R1 => ⟨_, ρ1, G1, R1, xs, ρ2, e2, fun vs H2 G2 R2 rs => ?_⟩⟩
  cases rv with
  | bor i =>
    obtain ⟨s, e3, hf⟩ := bnd hf
    obtain ⟨g, e4, hf⟩ := bnd hf
    obtain ⟨⟨d', g'⟩, e5, hf⟩ := mpp hf
    simp only [Prod.mk.injEq] at hf
    obtain ⟨rfl, rfl⟩ := hf
    unfold nAG at e5
    split at e5
    case isFalse => cases e5
    rename_i hl
    obtain ⟨a, ho, es', eH, c⟩ := R2.mut e3 e4
    have hσ : σ[i]? = some (some v0) := by obtain ⟨t, _, _, h3, _⟩ := R2.ex; exact h3
    rw [hσ] at es'; cases es'
    have eG : G2 a = none := by
      obtain ⟨t, t1, t2, t3⟩ := R2.ex
      have h := t2 i s e3
      cases s with
      | own d0 => obtain ⟨b, hb, f1, f2, f3, f4, f5⟩ := h; rw [hσ] at f1; cases f1; exact (t1 a (by rw [f4]; simp)).1
      | io d0 => obtain ⟨b, hb, f1, f2, f3, f4, f5⟩ := h; rw [hσ] at f1; cases f1; exact (t1 a (by rw [f4]; simp)).1
      | _ => cases e4
    refine ⟨by rw [List.length_cons, rs.len]; exact hl, a, vs, ho, g, xs, G2, d', g', rfl, R2.sub, eH, c, eG, rs, e5, fun v ho' H3 G3 q1 q2 q3 q4 q5 q6 q7 q8 => ?_⟩
    have R3 := R2.grow (grMut eH eG q1 q4 q5 q6 q7)
    have R4 := R3.write e3 e4 hσ q3
    rw [upd2 q2] at R4
    exact k _ _ _ (R4.pop.dat q8)
  | new g =>
    obtain ⟨⟨d', g'⟩, e5, hf⟩ := mpp hf
    simp only [Prod.mk.injEq] at hf
    obtain ⟨rfl, rfl⟩ := hf
    unfold nAG at e5
    split at e5
    case isFalse => cases e5
    rename_i hl
    obtain ⟨t, t1, t2, ⟨a, ho, rfl, eH, c, et, e0⟩, t3⟩ := R2.ex
    have eG := (t1 a (by rw [et]; simp)).1
    refine ⟨by rw [List.length_cons, rs.len]; exact hl, a, vs, ho, g, xs, G2, d', g', rfl, R2.sub, eH, c, eG, rs, e5, fun v ho' H3 G3 q1 q2 q3 q4 q5 q6 q7 q8 => ?_⟩
    have R3 := R2.grow (grMut eH eG q1 q4 q5 q6 q7)
    -- the thing in hand goes: nothing else leans on it
    have R4 : Rep B hv ρ2 σ H3 G3 := by
      obtain ⟨t, t1, t2, ⟨b, hb, z, f1, f2, f3, f4⟩, t3⟩ := R3.ex
      cases z
      have kp : ∀ (r : Hv), r.length ≤ hv.length → HvsOk B t G3 (upd H3 a ho) σ r → HvsOk B t G3 H3 σ r := by
        intro r
        induction r with
        | nil => intro _ _; trivial
        | cons y r ih =>
          intro hl hr
          obtain ⟨v', rv⟩ := y
          refine ⟨?_, ih (Nat.le_of_succ_le hl) hr.2⟩
          have h := hr.1
          cases rv with
          | dat d' => exact h
          | bor i => exact h
          | new d' =>
            obtain ⟨b', hb', z1, z2, z3, z4, z5⟩ := h
            have n : b' ≠ a := fun z => by
              rw [z, f3] at z4
              have q : hv.length = r.length := by injection z4 with z4; injection z4
              have hl' : r.length + 1 ≤ hv.length := hl
              omega
            rw [upd_ne n] at z2
            exact ⟨b', hb', z1, z2, z3, z4, z5⟩
          | lk d' =>
            obtain ⟨b', hb', o, i, z1, z2, z3, z4, z5⟩ := h
            have n : b' ≠ a := fun z => by rw [z, f3] at z4; cases z4
            rw [upd_ne n] at z2
            exact ⟨b', hb', o, i, z1, z2, z3, z4, z5⟩
      refine ⟨⟨t, fun b hb => ⟨(t1 b hb).1, ?_⟩, fun j s' hs => ?_, kp hv (Nat.le_refl _) t3⟩, q6, R3.g0, R3.nw, fun b o e n => ?_, fun b e => ?_, fun b e => ?_, R3.len⟩
      · by_cases z : b = a
        · rw [z, q2]; exact ⟨by simp, q3.notup⟩
        · have := (t1 b hb).2; rw [upd_ne z] at this; exact this
      · have h := t2 j s' hs
        cases s' with
        | un => trivial
        | dat d' => exact h
        | own d' =>
          obtain ⟨b', hb', z1, z2, z3, z4, z5⟩ := h
          have n : b' ≠ a := fun z => by rw [z, f3] at z4; cases z4
          rw [upd_ne n] at z2
          exact ⟨b', hb', z1, z2, z3, z4, z5⟩
        | io d' =>
          obtain ⟨b', hb', z1, z2, z3, z4, z5⟩ := h
          have n : b' ≠ a := fun z => by rw [z, f3] at z4; cases z4
          rw [upd_ne n] at z2
          exact ⟨b', hb', z1, z2, z3, z4, z5⟩
        | lck d' =>
          obtain ⟨b', hb', o, z1, z2, z3, z4, z5⟩ := h
          have n : b' ≠ a := fun z => by rw [z, f3] at z4; cases z4
          rw [upd_ne n] at z2
          exact ⟨b', hb', o, z1, z2, z3, z4, z5⟩
      · have h := R3.hs b o e n
        have nb : b ≠ a := fun z => by rw [z, f4] at e; cases e
        rw [upd_ne nb] at h; exact h
      · have h := R3.ioH b e
        by_cases z : b = a
        · rw [z, q2]; simp
        · rw [upd_ne z] at h; exact h
      · have h := R3.ioT b e
        by_cases z : b = a
        · rw [z, q2]; exact q3.notup
        · rw [upd_ne z] at h; exact h
    exact k _ _ _ (R4.dat q8)
  | dat d => cases hf
  | lk d => cases hf
/-! ### the class Kind -/
def mMeth (m : List D → Option D) (fa : MD) : MD := fun ρ => (fa ρ).bind fun p => match p.1 with
  | .kd a b => (m [.kd a b]).map fun d => (d, p.2)
  | _ => none
theorem pd_meth0 {pl : Sem Bool} {C : Addr} {nm : Str} (he : PD X B o fa) (hC : B.c.C = C) (c : Cls X.K C) (hm : Meth X.K C nm f) (F : FnOk X.prog X.w X.K X.mg X.base CX k f fd ps (spP B.c n m)) (hr : Room k X.A) (hb : Binds X.K fd ps []) (hx : Passes CX X E0) (hnf : ∀ a b, (kflds a b).lookup nm = none) (hn : n = 1)
    (ht : eval (.Call (.Attribute o nm apos) [] [] pos) X.env = (do
      let ov ← eval o X.env
      standAt apos.atName
      let (f, first) ← holding [ov] (getMethod ov nm pl)
      callWith pos f first (backTo pos (starEach [] X.env)) (backToKw pos (keywordEach [] X.env))) := by rfl) :
    PD X B (.Call (.Attribute o nm apos) [] [] pos) (mMeth m fa) := (pe_meth0 he c hm F hr hb .nil hx ht).wk fun σ H Q ⟨hv, ρ, G, R, d, ρ', hf, k⟩ => by
  obtain ⟨⟨d0, ρ1⟩, h1, hf⟩ := bnd hf
  refine ⟨hv, ρ, G, R, d0, ρ1, h1, fun v H1 G1 R1 => ?_⟩
  have r := R1.top
  cases d0 <;> simp only [reduceCtorEq] at hf
  obtain ⟨d', h2, hf⟩ := mpp hf
  cases hf
  cases r with
  | kd h =>
    subst hC
    refine ⟨_, _, _, rfl, R1.sub _ _ h, hnf _ _, ?_⟩
    exact ⟨by rw [hn]; rfl, _, G1, _, R1.sub, .cons (.kd h) .nil, h2, fun v H2 G2 g r => k _ _ _ (((R1.pop).grow g).dat r)⟩
end
end M
/-! M7: the operations, one by one. -/
namespace M
open PySem PySem.Spec PyProof.Rows L2

/-! ### ints -/
def oI (g : Int → Int → Option D) : D → D → Option D
  | .int i, .int j => g i j
  | _, _ => none
section
variable {X : Cx} {B : Bs} {e a b : Expr} {es : List Expr} {f g : ME} {fa fb : MD} {fr : MA} {tf : MB} {pos : Pos}
theorem opd_I {C : Int → Int → Prop} [∀ i j, Decidable (C i j)] {h : Int → Int → Int} : OpD B (rI C fun i j => .int (h i j)) (oI fun i j => if C i j then some (.int (h i j)) else none) := fun G H v w x y d Q s hx hy e k => by
  cases hx <;> cases hy <;> simp only [oI, reduceCtorEq] at e
  rename_i i j
  by_cases hc : C i j
  · rw [if_pos hc] at e; cases e
    exact ⟨i, j, rfl, rfl, hc, k _ (.int _)⟩
  · rw [if_neg hc] at e; cases e
theorem opd_I0 {h : Int → Int → Int} : OpD B (rI0 fun i j => .int (h i j)) (oI fun i j => some (.int (h i j))) := fun G H v w x y d Q s hx hy e k => by
  cases hx <;> cases hy <;> simp only [oI, reduceCtorEq, Option.some.injEq] at e
  subst e
  exact ⟨_, _, rfl, rfl, k _ (.int _)⟩
theorem opd_B0 {h : Int → Int → Bool} : OpD B (rI0 fun i j => .bl (h i j)) (oI fun i j => some (.bl (h i j))) := fun G H v w x y d Q s hx hy e k => by
  cases hx <;> cases hy <;> simp only [oI, reduceCtorEq, Option.some.injEq] at e
  subst e
  exact ⟨_, _, rfl, rfl, k _ (.bl _)⟩
def oAdd : D → D → Option D := oI fun i j => some (.int (i + j))
def oSub : D → D → Option D := oI fun i j => some (.int (i - j))
theorem mulX_ble (i j : Int) : Nat.ble (Builtin.Int.intBits i + Builtin.Int.intBits j) 134217728 = true ↔ CMulX i j := by
  unfold CMulX
  rw [Nat.ble_eq]
  omega
instance (i j : Int) : Decidable (CMulX i j) := decidable_of_iff _ (mulX_ble i j)
instance (i j : Int) : Decidable (CDivW i j) := by unfold CDivW; infer_instance
def oMul : D → D → Option D := oI fun i j => if CMulX i j then some (.int (i * j)) else none
def oDiv : D → D → Option D := oI fun i j => if CDivW i j then some (.int (i / j)) else none
def oMod : D → D → Option D := oI fun i j => if 0 < j then some (.int (i % j)) else none
def CPowB (i j : Int) : Prop := 0 ≤ j ∧ (Builtin.Int.intBits i : Int) * j ≤ 2 ^ 27
instance (i j : Int) : Decidable (CPowB i j) := by unfold CPowB; infer_instance
theorem op_powB : OpR X (binaryOp .Pow) (rI CPowB fun i j => .int (i ^ j.toNat)) := opI fun _ _ _ _ _ _ _ hc q => pow_int hc.1 hc.2 q
def oPow : D → D → Option D := oI fun i j => if CPowB i j then some (.int (i ^ j.toNat)) else none
theorem pd_add (ha : PD X B a fa) (hb : PD X B b fb) : PD X B (.BinOp a .Add b pos) (m2 oAdd fa fb) := pd_op op_add opd_I0 ha hb
theorem pd_sub (ha : PD X B a fa) (hb : PD X B b fb) : PD X B (.BinOp a .Sub b pos) (m2 oSub fa fb) := pd_op op_sub opd_I0 ha hb
theorem pd_mul (ha : PD X B a fa) (hb : PD X B b fb) : PD X B (.BinOp a .Mult b pos) (m2 oMul fa fb) := pd_op op_mulX opd_I ha hb
theorem pd_div (ha : PD X B a fa) (hb : PD X B b fb) : PD X B (.BinOp a .FloorDiv b pos) (m2 oDiv fa fb) := pd_op op_fdivW opd_I ha hb
theorem pd_mod (ha : PD X B a fa) (hb : PD X B b fb) : PD X B (.BinOp a .Mod b pos) (m2 oMod fa fb) := pd_op op_mod opd_I ha hb
theorem pd_pow (ha : PD X B a fa) (hb : PD X B b fb) : PD X B (.BinOp a .Pow b pos) (m2 oPow fa fb) := pd_op op_powB opd_I ha hb
def oLt : D → D → Option D := oI fun i j => some (.bl (decide (i < j)))
def oLe : D → D → Option D := oI fun i j => some (.bl (decide (i ≤ j)))
def oGt : D → D → Option D := oI fun i j => some (.bl (decide (j < i)))
def oGe : D → D → Option D := oI fun i j => some (.bl (decide (j ≤ i)))
theorem pd_lt (ha : PD X B a fa) (hb : PD X B b fb) : PD X B (.Compare a [.Lt] [b] pos) (m2 oLt fa fb) := pd_cmp op_lt opd_B0 ha hb (nomark _)
theorem pd_le (ha : PD X B a fa) (hb : PD X B b fb) : PD X B (.Compare a [.LtE] [b] pos) (m2 oLe fa fb) := pd_cmp op_le opd_B0 ha hb (nomark _)
theorem pd_gt (ha : PD X B a fa) (hb : PD X B b fb) : PD X B (.Compare a [.Gt] [b] pos) (m2 oGt fa fb) := pd_cmp op_gt opd_B0 ha hb (nomark _)
theorem pd_ge (ha : PD X B a fa) (hb : PD X B b fb) : PD X B (.Compare a [.GtE] [b] pos) (m2 oGe fa fb) := pd_cmp op_ge opd_B0 ha hb (nomark _)
theorem pb_lt (ha : PD X B a fa) (hb : PD X B b fb) : PB X B (.Compare a [.Lt] [b] pos) (asB (m2 oLt fa fb)) := pb_cmp op_lt opd_B0 ha hb (nomark _)
theorem pb_le (ha : PD X B a fa) (hb : PD X B b fb) : PB X B (.Compare a [.LtE] [b] pos) (asB (m2 oLe fa fb)) := pb_cmp op_le opd_B0 ha hb (nomark _)
theorem pb_gt (ha : PD X B a fa) (hb : PD X B b fb) : PB X B (.Compare a [.Gt] [b] pos) (asB (m2 oGt fa fb)) := pb_cmp op_gt opd_B0 ha hb (nomark _)
theorem pb_ge (ha : PD X B a fa) (hb : PD X B b fb) : PB X B (.Compare a [.GtE] [b] pos) (asB (m2 oGe fa fb)) := pb_cmp op_ge opd_B0 ha hb (nomark _)

/-! ### == -/
mutual
def py : D → Option PyData
  | .non => some .none
  | .bl b => some (.bool b)
  | .int i => some (.int i)
  | .str x => some (.str x)
  | .lst ds => (pyL ds).map PyData.list
  | .tup ds => (pyL ds).map PyData.tuple
  | _ => none
def pyL : List D → Option (List PyData)
  | [] => some []
  | d :: ds => (py d).bind fun p => (pyL ds).map fun q => p :: q
end
mutual
theorem py_dp {c : Cn} {H : Hp} : ∀ {v : V} {d : D} {p : PyData}, Rp c H v d → py d = some p → Dp c.K H v p
  | _, _, _, .non, e => by simp only [py, Option.some.injEq] at e; subst e; exact .non
  | _, _, _, .bl b, e => by simp only [py, Option.some.injEq] at e; subst e; exact .bl b
  | _, _, _, .int i, e => by simp only [py, Option.some.injEq] at e; subst e; exact .int i
  | _, _, _, .str x, e => by simp only [py, Option.some.injEq] at e; subst e; exact .str x
  | _, _, _, .lst h r, e => by
    simp only [py] at e
    obtain ⟨q, e1, e2⟩ := mpp e
    subst e2
    exact .lst h (py_dps r e1)
  | _, _, _, .tup h r, e => by
    simp only [py] at e
    obtain ⟨q, e1, e2⟩ := mpp e
    subst e2
    exact .tup (SqT.of h) (py_dps r e1)
  | _, _, _, .dk _ _ _, e => by simp only [py, reduceCtorEq] at e
  | _, _, _, .dt _ _ _, e => by simp only [py, reduceCtorEq] at e
  | _, _, _, .dn _ _ _, e => by simp only [py, reduceCtorEq] at e
  | _, _, _, .kd _, e => by simp only [py, reduceCtorEq] at e
theorem py_dps {c : Cn} {H : Hp} : ∀ {vs : List V} {ds : List D} {ps : List PyData}, Rps c H vs ds → pyL ds = some ps → DpAll c.K H vs ps
  | _, _, _, .nil, e => by simp only [pyL, Option.some.injEq] at e; subst e; exact .nil
  | _, _, _, .cons h r, e => by
    simp only [pyL] at e
    obtain ⟨p, e1, e⟩ := bnd e
    obtain ⟨q, e2, e⟩ := mpp e
    subst e
    exact .cons (py_dp h e1) (py_dps r e2)
end
def eqD (x y : D) : Option Bool := (py x).bind fun p => (py y).bind fun q => if (SeqAt.shaped p && SeqAt.shaped q) = true then some (PyData.eqv p q) else none
def oEq (x y : D) : Option D := (eqD x y).map D.bl
def oNe (x y : D) : Option D := (eqD x y).map fun b => D.bl (!b)
theorem opd_eq {K : PySem.W.Frag} (hK : K = B.c.K) : OpD B (rEqD K) oEq := fun G H v w x y d Q s hx hy e k => by
  obtain ⟨b, f0, rfl⟩ := mpp e
  obtain ⟨p, e1, f1⟩ := bnd f0
  obtain ⟨q, e2, f2⟩ := bnd f1
  by_cases hs : (SeqAt.shaped p && SeqAt.shaped q) = true
  · rw [if_pos hs] at f2; cases f2
    rw [Bool.and_eq_true] at hs
    exact ⟨p, q, by rw [hK]; exact py_dp (hx.mono s) e1, by rw [hK]; exact py_dp (hy.mono s) e2, hs.1, hs.2, k _ (.bl _)⟩
  · rw [if_neg hs] at f2; cases f2
theorem opd_ne {K : PySem.W.Frag} (hK : K = B.c.K) : OpD B (rNeD K) oNe := fun G H v w x y d Q s hx hy e k => by
  obtain ⟨b, f0, rfl⟩ := mpp e
  obtain ⟨p, e1, f1⟩ := bnd f0
  obtain ⟨q, e2, f2⟩ := bnd f1
  by_cases hs : (SeqAt.shaped p && SeqAt.shaped q) = true
  · rw [if_pos hs] at f2; cases f2
    rw [Bool.and_eq_true] at hs
    exact ⟨p, q, by rw [hK]; exact py_dp (hx.mono s) e1, by rw [hK]; exact py_dp (hy.mono s) e2, hs.1, hs.2, k _ (.bl _)⟩
  · rw [if_neg hs] at f2; cases f2
theorem pd_eq (hK : X.K = B.c.K) (hu : X.A.units + 64 < cLine) (ha : PD X B a fa) (hb : PD X B b fb) : PD X B (.Compare a [.Eq] [b] pos) (m2 oEq fa fb) := pd_cmp (op_eqD hu) (opd_eq hK) ha hb (nomark _)
theorem pd_ne (hK : X.K = B.c.K) (hu : X.A.units + 64 < cLine) (ha : PD X B a fa) (hb : PD X B b fb) : PD X B (.Compare a [.NotEq] [b] pos) (m2 oNe fa fb) := pd_cmp (op_neD hu) (opd_ne hK) ha hb (nomark _)
theorem pb_eq (hK : X.K = B.c.K) (hu : X.A.units + 64 < cLine) (ha : PD X B a fa) (hb : PD X B b fb) : PB X B (.Compare a [.Eq] [b] pos) (asB (m2 oEq fa fb)) := pb_cmp (op_eqD hu) (opd_eq hK) ha hb (nomark _)
theorem pb_ne (hK : X.K = B.c.K) (hu : X.A.units + 64 < cLine) (ha : PD X B a fa) (hb : PD X B b fb) : PB X B (.Compare a [.NotEq] [b] pos) (asB (m2 oNe fa fb)) := pb_cmp (op_neD hu) (opd_ne hK) ha hb (nomark _)

/-! ### is None -/
def isN : D → Bool
  | .non => true
  | _ => false
theorem Rp.isN {c : Cn} {G : Hp} {v : V} {d : D} (h : Rp c G v d) : decide (v = .non) = isN d := by
  cases h <;> rfl
def oIsN (x y : D) : Option D := match y with
  | .non => some (.bl (isN x))
  | _ => none
def oNotN (x y : D) : Option D := match y with
  | .non => some (.bl (!isN x))
  | _ => none
theorem opd_isN : OpD B (fun x y H Q => y = .non ∧ Q (.bl (decide (x = .non))) H) oIsN := fun G H v w x y d Q s hx hy e k => by
  cases hy <;> simp only [oIsN, reduceCtorEq, Option.some.injEq] at e
  subst e
  exact ⟨rfl, by rw [hx.isN]; exact k _ (.bl _)⟩
theorem opd_notN : OpD B (fun x y H Q => y = .non ∧ Q (.bl (!decide (x = .non))) H) oNotN := fun G H v w x y d Q s hx hy e k => by
  cases hy <;> simp only [oNotN, reduceCtorEq, Option.some.injEq] at e
  subst e
  exact ⟨rfl, by rw [hx.isN]; exact k _ (.bl _)⟩
theorem pd_isN (ha : PD X B a fa) (hb : PD X B b fb) : PD X B (.Compare a [.Is] [b] pos) (m2 oIsN fa fb) := pd_cmp op_isN opd_isN ha hb (nomark _)
theorem pd_notN (ha : PD X B a fa) (hb : PD X B b fb) : PD X B (.Compare a [.IsNot] [b] pos) (m2 oNotN fa fb) := pd_cmp op_notN opd_notN ha hb (nomark _)
theorem pb_isN (ha : PD X B a fa) (hb : PD X B b fb) : PB X B (.Compare a [.Is] [b] pos) (asB (m2 oIsN fa fb)) := pb_cmp op_isN opd_isN ha hb (nomark _)
theorem pb_notN (ha : PD X B a fa) (hb : PD X B b fb) : PB X B (.Compare a [.IsNot] [b] pos) (asB (m2 oNotN fa fb)) := pb_cmp op_notN opd_notN ha hb (nomark _)

/-! ### x in a list of ints -/
def intsOf : List D → Option (List Int)
  | [] => some []
  | .int i :: ds => (intsOf ds).map fun ns => i :: ns
  | _ => none
theorem intsOf_eq : ∀ {ds : List D} {ns : List Int}, intsOf ds = some ns → ds = ns.map D.int
  | [], _, h => by simp only [intsOf, Option.some.injEq] at h; subst h; rfl
  | d :: ds, ns, h => by
    cases d <;> simp only [intsOf, reduceCtorEq] at h
    obtain ⟨ms, e1, e2⟩ := mpp h
    subst e2
    rw [intsOf_eq e1]; rfl
theorem intsOf_ints : ∀ ns : List Int, intsOf (ns.map D.int) = some ns
  | [] => rfl
  | n :: ns => by simp only [List.map_cons, intsOf, intsOf_ints ns, Option.map_some]
def oInI (neg : Bool) (x y : D) : Option D := match x, y with
  | .int i, .lst ds => (intsOf ds).map fun ns => .bl (if neg then !ns.contains i else ns.contains i)
  | _, _ => none
theorem inV_ints (i : Int) : ∀ ns : List Int, inV (.int i) (ns.map V.int) = ns.contains i
  | [] => rfl
  | n :: ns => by
    have ih := inV_ints i ns
    unfold inV at ih ⊢
    rw [List.map_cons, List.any_cons, ih, List.contains_cons]
    have e : eqV (V.int n) (V.int i) = (n == i) := rfl
    rw [e, show (n == i) = (i == n) from Bool.beq_comm]
theorem flat_ints : ∀ ns : List Int, (ns.map V.int).all flatV = true
  | [] => rfl
  | n :: ns => by rw [List.map_cons, List.all_cons, flat_ints ns]; rfl
theorem opd_inI {K : PySem.W.Frag} (hK : K = B.c.K) (neg : Bool) : OpD B (rIn K neg) (oInI neg) := fun G H v w x y d Q s hx hy e k => by
  cases hx <;> cases hy <;> simp only [oInI, reduceCtorEq] at e
  obtain ⟨ns, e1, e2⟩ := mpp e
  subst e2
  rename_i i a xs ds h r
  rw [intsOf_eq e1] at r
  have rv := r.ints
  subst rv
  refine ⟨a, _, rfl, .inl (by rw [hK]; exact s.seq h), rfl, flat_ints ns, ?_⟩
  rw [inV_ints]
  exact k _ (.bl _)
theorem pd_inI (hK : X.K = B.c.K) (ha : PD X B a fa) (hb : PD X B b fb) (hm : behindInMarks .In b = false := by rfl) : PD X B (.Compare a [.In] [b] pos) (m2 (oInI false) fa fb) := pd_cmp op_in_seq (opd_inI hK false) ha hb hm
theorem pb_inI (hK : X.K = B.c.K) (ha : PD X B a fa) (hb : PD X B b fb) (hm : behindInMarks .In b = false := by rfl) : PB X B (.Compare a [.In] [b] pos) (asB (m2 (oInI false) fa fb)) := pb_cmp op_in_seq (opd_inI hK false) ha hb hm
theorem pd_ninI (hK : X.K = B.c.K) (ha : PD X B a fa) (hb : PD X B b fb) (hm : behindInMarks .NotIn b = false := by rfl) : PD X B (.Compare a [.NotIn] [b] pos) (m2 (oInI true) fa fb) := pd_cmp op_notIn_seq (opd_inI hK true) ha hb hm
theorem pb_ninI (hK : X.K = B.c.K) (ha : PD X B a fa) (hb : PD X B b fb) (hm : behindInMarks .NotIn b = false := by rfl) : PB X B (.Compare a [.NotIn] [b] pos) (asB (m2 (oInI true) fa fb)) := pb_cmp op_notIn_seq (opd_inI hK true) ha hb hm

/-! ### one operand -/
def o1I (g : Int → Int) : D → Option D
  | .int i => some (.int (g i))
  | _ => none
theorem und_U {h : Int → Int} : UnD B (rU fun i => .int (h i)) (o1I h) := fun G H v x d Q s hx e k => by
  cases x <;> simp only [o1I, reduceCtorEq, Option.some.injEq] at e
  subst e
  cases hx
  exact ⟨_, rfl, k _ (.int _)⟩
theorem pd_neg (ha : PM X B a f) : PD X B (.UnaryOp .USub a pos) (m1 (o1I fun i => -i) f) := pd_un un_neg und_U ha
def oLen : D → Option D
  | .lst ds => some (.int ds.length)
  | .tup ds => some (.int ds.length)
  | _ => none
def oAbs : D → Option D := o1I fun i => if i < 0 then -i else i
def oInt : D → Option D
  | .int i => some (.int i)
  | .bl b => some (.int (if b then 1 else 0))
  | _ => none
def oSum : D → Option D
  | .lst ds => (intsOf ds).map fun ns => .int ns.sum
  | _ => none
def oList : D → Option D
  | .lst ds => some (.lst ds)
  | .tup ds => some (.lst ds)
  | _ => none
variable {p : Pos}
theorem pd_len (hK : X.K = B.c.K) (hg : Gl X "len") (hm : X.mg "len" = none) (ha : PM X B e f) (he : starEach (e :: []) X.env = (false, eval e X.env) :: starEach [] X.env := by rfl) (hpl : (backTo pos (starEach [] X.env)).any (·.1) = false := by rfl) : PD X B (.Call (.Name "len" p) (e :: []) [] pos) (m1 oLen f) :=
  pd_b1 call_len_seq (fun G H v x d Q s hx e k => by
    cases x <;> simp only [oLen, reduceCtorEq, Option.some.injEq] at e
    · subst e
      obtain ⟨a, xs, rfl, h, r⟩ := hx
      exact ⟨a, xs, rfl, .inl (by rw [hK]; exact h), by rw [r.len]; exact k _ (.int _)⟩
    · subst e
      cases hx with
      | tup h r => exact ⟨_, _, rfl, .inr (SqT.of (s _ _ h)), by rw [r.len]; exact k _ (.int _)⟩) hg hm PySem.boot_len ha (by decide) (by decide) he hpl
theorem pd_abs (hg : Gl X "abs") (hm : X.mg "abs" = none) (ha : PM X B e f) (he : starEach (e :: []) X.env = (false, eval e X.env) :: starEach [] X.env := by rfl) (hpl : (backTo pos (starEach [] X.env)).any (·.1) = false := by rfl) : PD X B (.Call (.Name "abs" p) (e :: []) [] pos) (m1 oAbs f) :=
  pd_b1 call_abs (fun G H v x d Q s hx e k => by
    cases x <;> simp only [oAbs, o1I, reduceCtorEq, Option.some.injEq] at e
    subst e
    cases hx
    exact ⟨_, rfl, k _ (.int _)⟩) hg hm (by decide +kernel) ha (by decide) (by decide) he hpl
theorem pd_int1 (hg : Gl X "int") (hm : X.mg "int" = none) (ha : PM X B e f) (he : starEach (e :: []) X.env = (false, eval e X.env) :: starEach [] X.env := by rfl) (hpl : (backTo pos (starEach [] X.env)).any (·.1) = false := by rfl) : PD X B (.Call (.Name "int" p) (e :: []) [] pos) (m1 oInt f) :=
  pd_t1 call_int1 (fun G H v x d Q s hx e k => by
    cases x <;> simp only [oInt, reduceCtorEq, Option.some.injEq] at e
    · subst e; cases hx; exact .inr ⟨_, rfl, k _ (.int _)⟩
    · subst e; cases hx; exact .inl ⟨_, rfl, k _ (.int _)⟩) hg hm (by decide +kernel) ha (by decide) (by decide) he hpl
theorem pd_sum (hc : X.calm = true) (hK : X.K = B.c.K) (hg : Gl X "sum") (hm : X.mg "sum" = none) (ha : PM X B e f) (he : starEach (e :: []) X.env = (false, eval e X.env) :: starEach [] X.env := by rfl) (hpl : (backTo pos (starEach [] X.env)).any (·.1) = false := by rfl) : PD X B (.Call (.Name "sum" p) (e :: []) [] pos) (m1 oSum f) :=
  pd_b1 (cr_sum hc) (fun G H v x d Q s hx e k => by
    cases x <;> simp only [oSum, reduceCtorEq] at e
    obtain ⟨ns, e1, e2⟩ := mpp e
    subst e2
    obtain ⟨a, xs, rfl, h, r⟩ := hx
    rw [intsOf_eq e1] at r
    have rv := r.ints
    subst rv
    exact ⟨a, ns, rfl, by rw [hK]; exact h, k _ (.int _)⟩) hg hm (by decide +kernel) ha (by decide) (by decide) he hpl
theorem pm_list1 (hK : X.K = B.c.K) (hg : Gl X "list") (hm : X.mg "list" = none) (ha : PM X B e f) (he : starEach (e :: []) X.env = (false, eval e X.env) :: starEach [] X.env := by rfl) (hpl : (backTo pos (starEach [] X.env)).any (·.1) = false := by rfl) : PM X B (.Call (.Name "list" p) (e :: []) [] pos) (n1 oList f) :=
  pm_t1 call_list_of (fun G H v x d Q s hx e k => by
    cases x <;> simp only [oList, reduceCtorEq, Option.some.injEq] at e
    · subst e
      obtain ⟨a, xs, rfl, h, r⟩ := hx
      exact ⟨a, xs, rfl, .inl (by rw [hK]; exact h), fun l hl => k l _ hl ⟨xs, rfl, r⟩⟩
    · subst e
      cases hx with
      | tup h r => exact ⟨_, _, rfl, .inr (SqT.of (s _ _ h)), fun l hl => k l _ hl ⟨_, rfl, r⟩⟩) hg hm (by decide +kernel) ha (by decide) (by decide) he hpl
/-- list(range(..)) -/
def rgOk (a b : Int) : Bool := decide (-(2 ^ 62) ≤ a ∧ a < 2 ^ 62 ∧ -(2 ^ 62) ≤ b ∧ b < 2 ^ 62 ∧ (b - a).toNat ≤ 2 ^ 24)
def mLR1 (fa : MD) : ME := fun ρ => (fa ρ).bind fun p => match p.1 with
  | .int n => if rgOk 0 n = true then some (.new (.lst (rgD 0 n.toNat)), p.2) else none
  | _ => none
def mLR2 (fa fb : MD) : ME := fun ρ => (fa ρ).bind fun p => (fb p.2).bind fun q => match p.1, q.1 with
  | .int i, .int j => if rgOk i j = true then some (.new (.lst (rgD i (j - i).toNat)), q.2) else none
  | _, _ => none
theorem rps_rg {c : Cn} {G : Hp} (i j : Int) : Rps c G (rgV i j) (rgD i (j - i).toNat) := by
  unfold rgV rgD
  generalize List.range (j - i).toNat = l
  induction l with
  | nil => exact .nil
  | cons x l ih => exact .cons (.int _) ih
theorem pm_listR1 {p2 pos2 : Pos} (hc : X.calm = true) (hg : Gl X "list") (hm : X.mg "list" = none) (hg2 : Gl X "range") (hm2 : X.mg "range" = none) (ha : PD X B a fa) (na : starEach [a] X.env = (false, eval a X.env) :: starEach [] X.env := by rfl)
    (nb : starEach [.Call (.Name "range" p2) [a] [] pos2] X.env = (false, eval (.Call (.Name "range" p2) [a] [] pos2) X.env) :: starEach [] X.env := by rfl) : PM X B (.Call (.Name "list" p) [.Call (.Name "range" p2) [a] [] pos2] [] pos) (mLR1 fa) :=
  (pe_listRg hc hg hm (prg_1 hg2 hm2 ha na) nb).wk fun σ H Q ⟨hv, ρ, G, R, rv, ρ', hf, k⟩ => by
    obtain ⟨⟨d, ρ1⟩, h1, hf⟩ := bnd hf
    refine ⟨hv, ρ, G, R, d, ρ1, h1, fun v H1 G1 R1 => ?_⟩
    have r := R1.top
    cases d <;> simp only [reduceCtorEq] at hf
    rename_i n
    by_cases hb : rgOk 0 n = true
    · rw [if_pos hb] at hf
      simp only [Option.some.injEq, Prod.mk.injEq] at hf
      obtain ⟨rfl, rfl⟩ := hf
      cases r
      have hq0 := of_decide_eq_true hb
      refine ⟨n, rfl, hq0, fun q hq => k _ _ _ (R1.pop.new hq ⟨_, rfl, ?_⟩)⟩
      have := rps_rg (c := B.c) (G := G1) 0 n
      rw [Int.sub_zero] at this
      exact this
    · rw [if_neg hb] at hf; cases hf
theorem pm_listR2 {p2 pos2 : Pos} (hc : X.calm = true) (hg : Gl X "list") (hm : X.mg "list" = none) (hg2 : Gl X "range") (hm2 : X.mg "range" = none) (ha : PD X B a fa) (hb : PD X B b fb) (na : starEach [a, b] X.env = (false, eval a X.env) :: starEach [b] X.env := by rfl)
    (nb : starEach [b] X.env = (false, eval b X.env) :: starEach [] X.env := by rfl) (hp : (backTo pos2 (starEach [b] X.env)).any (·.1) = false := by rfl) (nc : starEach [.Call (.Name "range" p2) [a, b] [] pos2] X.env = (false, eval (.Call (.Name "range" p2) [a, b] [] pos2) X.env) :: starEach [] X.env := by rfl) :
    PM X B (.Call (.Name "list" p) [.Call (.Name "range" p2) [a, b] [] pos2] [] pos) (mLR2 fa fb) :=
  (pe_listRg hc hg hm (prg_2 hg2 hm2 ha hb na nb hp) nc).wk fun σ H Q ⟨hv, ρ, G, R, rv, ρ', hf, k⟩ => by
    obtain ⟨⟨d, ρ1⟩, h1, hf⟩ := bnd hf
    obtain ⟨⟨d2, ρ2⟩, h2, hf⟩ := bnd hf
    refine ⟨hv, ρ, G, R, d, ρ1, h1, fun v H1 G1 R1 => ⟨_, ρ1, G1, R1, d2, ρ2, h2, fun w H2 G2 R2 => ?_⟩⟩
    have r := R2.pop.top
    have r2 := R2.top
    cases d <;> cases d2 <;> simp only [reduceCtorEq] at hf
    cases r
    cases r2
    rename_i i _ j
    by_cases hb : rgOk i j = true
    · rw [if_pos hb] at hf
      simp only [Option.some.injEq, Prod.mk.injEq] at hf
      obtain ⟨rfl, rfl⟩ := hf
      have hq0 := of_decide_eq_true hb
      exact ⟨i, j, rfl, rfl, hq0, fun q hq => k _ _ _ (R2.pop.pop.new hq ⟨_, rfl, rps_rg i j⟩)⟩
    · rw [if_neg hb] at hf; cases hf
/-- tuple(xs) -/
def oTuple : D → Option (List D)
  | .lst ds => some ds
  | _ => none
def mTpl (f : ME) : MD := fun ρ => (f ρ).bind fun p => (look p.1 p.2).bind fun x => (oTuple x).map fun ds => (.tup ds, p.2)
theorem pd_tuple1 (hK : X.K = B.c.K) (hg : Gl X "tuple") (hm : X.mg "tuple" = none) (ha : PM X B e f) (he : starEach (e :: []) X.env = (false, eval e X.env) :: starEach [] X.env := by rfl) (hpl : (backTo pos (starEach [] X.env)).any (·.1) = false := by rfl) : PD X B (.Call (.Name "tuple" p) (e :: []) [] pos) (mTpl f) :=
  (pe_callTy call_tuple_of hg hm (by decide +kernel) (pa_cons ha pa_nil he) (by decide) (by decide) he hpl).wk fun σ H Q ⟨hv, ρ, G, R, d, ρ', hf, k⟩ => by
    obtain ⟨⟨rv, ρ1⟩, h1, hf⟩ := bnd hf
    obtain ⟨x, h2, hf⟩ := bnd hf
    obtain ⟨ds, h3, hf⟩ := mpp hf
    simp only [Prod.mk.injEq] at hf
    obtain ⟨rfl, rfl⟩ := hf
    refine ⟨hv, ρ, G, R, rv, ρ1, h1, fun v H1 G1 R1 => ?_⟩
    cases x <;> simp only [oTuple, reduceCtorEq, Option.some.injEq] at h3
    subst h3
    obtain ⟨a, xs, rfl, h, r⟩ := R1.look h2
    exact ⟨a, xs, rfl, .inl ⟨by rw [hK]; exact h, fun l hl => k _ _ _ (R1.pop.newT hl r)⟩⟩
/-- max(a, b) of ints -/
def oMax2 : List D → Option D
  | [.int i, .int j] => some (.int (if j > i then j else i))
  | _ => none
theorem pd_max2 (hc : X.calm = true) (hg : Gl X "max") (hm : X.mg "max" = none) (ha : PAM X B (e :: es) fr) (he : starEach (e :: es) X.env = (false, eval e X.env) :: starEach es X.env := by rfl) (hpl : (backTo pos (starEach es X.env)).any (·.1) = false := by rfl) : PD X B (.Call (.Name "max" p) (e :: es) [] pos) (mC oMax2 fr) :=
  pd_callB (call_max2 hc) (fun G H vs ds d Q s hx e k => by
    match ds, hx, e with
    | [.int i, .int j], .cons (.int _) (.cons (.int _) .nil), e =>
      simp only [oMax2, Option.some.injEq] at e
      subst e
      exact ⟨i, j, rfl, k _ (.int _)⟩) hg hm (by decide +kernel) ha (by decide) (by decide) he hpl

/-! ### lists -/
/-- o.append(e) -/
def oApp (d : D) : D → Option D
  | .lst ds => if decide (ds.length < sizeLine) = true then some (.lst (ds ++ [d])) else none
  | _ => none
def isL : D → Option (List D)
  | .lst ds => some ds
  | _ => none
def mApp (f : ME) (fa : MD) : MS := fun ρ => (f ρ).bind fun p => ((look p.1 p.2).bind isL).bind fun _ => (fa p.2).bind fun q => (chg p.1 q.2 (oApp q.1)).map fun r => (.nx, r)
theorem ps_appM {o : Expr} {apos cpos : Pos} (hK : X.K = B.c.K) (ho : PM X B o f) (ha : PD X B e fa)
    (hbase : attributeBase o "append" X.env (eval o X.env) = eval o X.env := by rfl)
    (hfew : ((backTo cpos (starEach [e] X.env)).all (fun x => !x.1) && (backToKw cpos (keywordEach [] X.env)).all (fun x => x.1.isSome)
      && decide (([e] : List Expr).length + ([] : List Keyword).length + (if ([] : List Keyword).isEmpty then 0 else 1) < 30)) = true := by rfl)
    (hline : (apos.endLine == cpos.line) = true := by rfl) (hs : starEach [e] X.env = (false, eval e X.env) :: starEach [] X.env := by rfl) (hplain : (backTo cpos (starEach [] X.env)).any (·.1) = false := by rfl)
    (hsw : swapsWith (.Call (.Attribute o "append" apos) [e] [] cpos) none pos.line X.env = pure false := by rfl) : PSM X B (.Expr (.Call (.Attribute o "append" apos) [e] [] cpos) pos) (mApp f fa) :=
  (ps_expr (pe_bm PySem.F.plainAttrs_list PySem.F.slot_list_append PySem.F.type_list_append mt_append ho (pa_cons ha pa_nil hs) hbase hfew hline hs hplain) hsw).wk fun D σ H ⟨hv, ρ, G, n, R, fl, ρ', hf, k⟩ => by
    obtain ⟨⟨rv, ρ1⟩, h1, hf⟩ := bnd hf
    obtain ⟨ds0, h0, hf⟩ := bnd hf
    obtain ⟨x0, h00, h01⟩ := bnd h0
    obtain ⟨⟨d, ρ2⟩, h2, hf⟩ := bnd hf
    obtain ⟨ρ3, h3, hf⟩ := mpp hf
    simp only [Prod.mk.injEq] at hf
    obtain ⟨rfl, rfl⟩ := hf
    refine ⟨hv, ρ, G, R, rv, ρ1, h1, fun v H1 G1 R1 => ?_⟩
    refine ⟨?_, _, ρ1, G1, R1, d, ρ2, h2, fun w H2 G2 R2 => ?_⟩
    · cases x0 <;> simp only [isL, reduceCtorEq] at h01
      obtain ⟨a, xs, rfl, h, r⟩ := R1.look h00
      exact .inl ⟨rfl, xs, by rw [hK]; exact h⟩
    · obtain ⟨a, ho', x, x', rfl, e3, c, e4, kk⟩ := R2.pop.chg h3
      cases x <;> simp only [oApp, reduceCtorEq] at e4
      rename_i ds
      by_cases hz : decide (ds.length < sizeLine) = true
      · rw [if_pos hz] at e4
        cases e4
        obtain ⟨xs, rfl, rs⟩ := c
        refine ⟨a, xs, w, rfl, rfl, e3, by rw [rs.len]; exact of_decide_eq_true hz, ?_⟩
        exact k _ _ _ (kk _ ⟨_, rfl, rs.append (.cons R2.top .nil)⟩).pop
      · rw [if_neg hz] at e4; cases e4
end
end M
/-! M8: more operations. -/
namespace M
open PySem PySem.Spec PyProof.Rows L2
section
variable {X : Cx} {B : Bs} {e a b : Expr} {es : List Expr} {f g : ME} {fa fb : MD} {fr : MA} {tf : MB} {p pos : Pos}

/-! ### sorted(xs) of ints -/
def insI (i : Int) : List Int → List Int
  | [] => [i]
  | j :: l => if i ≤ j then i :: j :: l else j :: insI i l
def sortI : List Int → List Int
  | [] => []
  | i :: l => insI i (sortI l)
theorem insI_perm (i : Int) : ∀ l : List Int, (insI i l).Perm (i :: l)
  | [] => .refl _
  | j :: l => by
    unfold insI
    split
    · exact .refl _
    · exact ((insI_perm i l).cons j).trans (.swap i j l)
theorem sortI_perm : ∀ l : List Int, (sortI l).Perm l
  | [] => .refl _
  | i :: l => (insI_perm i (sortI l)).trans ((sortI_perm l).cons i)
theorem insI_sorted (i : Int) : ∀ l : List Int, l.Pairwise (· ≤ ·) → (insI i l).Pairwise (· ≤ ·)
  | [], _ => List.pairwise_singleton _ _
  | j :: l, h => by
    unfold insI
    rw [List.pairwise_cons] at h
    split
    · rename_i hij
      refine List.pairwise_cons.mpr ⟨fun k hk => ?_, List.pairwise_cons.mpr h⟩
      rcases List.mem_cons.mp hk with rfl | hk
      · exact hij
      · exact Int.le_trans hij (h.1 k hk)
    · rename_i hij
      refine List.pairwise_cons.mpr ⟨fun k hk => ?_, insI_sorted i l h.2⟩
      rcases List.mem_cons.mp ((insI_perm i l).mem_iff.mp hk) with rfl | hk
      · omega
      · exact h.1 k hk
theorem sortI_sorted : ∀ l : List Int, (sortI l).Pairwise (· ≤ ·)
  | [] => .nil
  | i :: l => insI_sorted i _ (sortI_sorted l)
theorem sorted_unique : ∀ {l m : List Int}, l.Perm m → l.Pairwise (· ≤ ·) → m.Pairwise (· ≤ ·) → l = m
  | [], m, p, _, _ => (List.nil_perm.mp p).symm
  | i :: l, [], p, _, _ => absurd p.length_eq (by simp)
  | i :: l, j :: m, p, h1, h2 => by
    rw [List.pairwise_cons] at h1 h2
    have e : i = j := by
      have a1 : i ∈ j :: m := p.mem_iff.mp (List.mem_cons_self ..)
      have a2 : j ∈ i :: l := p.mem_iff.mpr (List.mem_cons_self ..)
      rcases List.mem_cons.mp a1 with q | q
      · exact q
      · rcases List.mem_cons.mp a2 with r | r
        · exact r.symm
        · have := h1.1 j r; have := h2.1 i q; omega
    subst e
    rw [sorted_unique (List.Perm.cons_inv p) h1.2 h2.2]
def oSortI : D → Option D
  | .lst ds => (intsOf ds).map fun ns => .lst ((sortI ns).map D.int)
  | _ => none
theorem pm_sortI (hK : X.K = B.c.K) (hg : Gl X "sorted") (hm : X.mg "sorted" = none) (ha : PM X B e f) (he : starEach (e :: []) X.env = (false, eval e X.env) :: starEach [] X.env := by rfl) (hpl : (backTo pos (starEach [] X.env)).any (·.1) = false := by rfl) : PM X B (.Call (.Name "sorted" p) (e :: []) [] pos) (n1 oSortI f) :=
  pm_b1 cr_sortedI (fun G H v x d Q s hx e k => by
    cases x <;> simp only [oSortI, reduceCtorEq] at e
    obtain ⟨ns, e1, e2⟩ := mpp e
    subst e2
    obtain ⟨a, xs, rfl, h, r⟩ := hx
    rw [intsOf_eq e1] at r
    have rv := r.ints
    subst rv
    refine ⟨a, ns, rfl, by rw [hK]; exact h, fun ns' q hp hs hq => k q _ hq ?_⟩
    have e3 : ns' = sortI ns := sorted_unique (hp.trans (sortI_perm ns).symm) hs (sortI_sorted ns)
    subst e3
    exact ⟨_, rfl, rps_ints _⟩) hg hm (by decide +kernel) ha (by decide) (by decide) he hpl

/-! ### slices of lists -/
def cutD (ds : List D) (lo hi : Option Int) : List D := (ds.drop (HT.sIx ds.length 0 lo)).take (HT.sIx ds.length ds.length hi - HT.sIx ds.length 0 lo)
abbrev MO := Rho → Option (Option Int × Rho)
def tO (B : Bs) (f : MO) : TO := fun σ H Q => ∃ hv ρ G, Rep B hv ρ σ H G ∧ ∃ o ρ', f ρ = some (o, ρ') ∧ ∀ H' G', Rep B hv ρ' σ H' G' → Q o H'
def oNo : MO := fun ρ => some (none, ρ)
def oYes (f : MD) : MO := fun ρ => (f ρ).bind fun p => match p.1 with
  | .int i => some (some i, p.2)
  | _ => none
theorem po_noM : PO X none (tO B oNo) := ⟨fun pins s σ H Q I ⟨hv, ρ, G, R, o, ρ', hf, k⟩ => po_none.run pins s σ H Q I (by cases hf; exact k _ _ R)⟩
theorem po_yesM (h : PD X B e fa) : PO X (some e) (tO B (oYes fa)) := ⟨fun pins s σ H Q I ⟨hv, ρ, G, R, o, ρ', hf, k⟩ => (po_some h).run pins s σ H Q I (by
  obtain ⟨⟨d, ρ1⟩, h1, hf⟩ := bnd hf
  refine ⟨hv, ρ, G, R, d, ρ1, h1, fun v H1 G1 R1 => ?_⟩
  have r := R1.top
  cases d <;> simp only [reduceCtorEq, Option.some.injEq, Prod.mk.injEq] at hf
  obtain ⟨rfl, rfl⟩ := hf
  cases r
  exact ⟨_, rfl, k _ _ R1.pop⟩)⟩
def mSl (f : ME) (lo hi : MO) : ME := fun ρ => (f ρ).bind fun p => (lo p.2).bind fun l => (hi l.2).bind fun h => ((look p.1 h.2).bind isL).map fun ds => (.new (.lst (cutD ds l.1 h.1)), h.2)
theorem pm_slice {lo hi : Option Expr} {fl fh : MO} {p2 : Pos} (hK : X.K = B.c.K) (he : PM X B e f) (hl : PO X lo (tO B fl)) (hh : PO X hi (tO B fh)) : PM X B (.Subscript e (.Slice lo hi none p2) pos) (mSl f fl fh) := (pe_slice sl_list he hl hh).wk fun σ H Q ⟨hv, ρ, G, R, rv, ρ', hf, k⟩ => by
  obtain ⟨⟨r1, ρ1⟩, h1, hf⟩ := bnd hf
  obtain ⟨⟨l, ρ2⟩, h2, hf⟩ := bnd hf
  obtain ⟨⟨u, ρ3⟩, h3, hf⟩ := bnd hf
  obtain ⟨ds, h4, hf⟩ := mpp hf
  cases hf
  obtain ⟨x, h5, h6⟩ := bnd h4
  refine ⟨hv, ρ, G, R, r1, ρ1, h1, fun v H1 G1 R1 => ⟨_, ρ1, G1, R1, l, ρ2, h2, fun H2 G2 R2 => ⟨_, ρ2, G2, R2, u, ρ3, h3, fun H3 G3 R3 => ?_⟩⟩⟩
  cases x <;> simp only [isL, reduceCtorEq, Option.some.injEq] at h6
  subst h6
  obtain ⟨a, xs, rfl, h, r⟩ := R3.look h5
  refine ⟨a, xs, rfl, by rw [hK]; exact h, fun q hq => k _ _ _ (R3.pop.new hq ⟨_, rfl, ?_⟩)⟩
  unfold cutV cutD
  rw [r.len]
  exact (r.drop _).take _

/-! ### lists put together -/
/-- a list of one's own, or in hand -/
def lookT (rv : Rv) (ρ : Rho) : Option D := match rv with
  | .new d => some d
  | .bor i => (ρ[i]?).bind mutS
  | _ => none
theorem Rep.lookT {hv : Hv} {ρ : Rho} {σ : Sg} {H G : Hp} {v : V} {rv : Rv} {d : D} (R : Rep B ((v, rv) :: hv) ρ σ H G) (h : M.lookT rv ρ = some d) : ∃ a ho, v = .ref a ∧ H a = some ho ∧ Cont B.c G a ho d := by
  cases rv with
  | new d' =>
    simp only [M.lookT, Option.some.injEq] at h
    subst h
    obtain ⟨t, _, _, ⟨a, ho, e, eH, c, _⟩, _⟩ := R.ex
    exact ⟨a, ho, e, eH, c⟩
  | bor i =>
    obtain ⟨s, h1, h2⟩ := bnd h
    obtain ⟨a, ho, e, e1, c⟩ := R.mut h1 h2
    have hσ : σ[i]? = some (some v) := by obtain ⟨t, _, _, h3, _⟩ := R.ex; exact h3
    rw [hσ] at e; cases e
    exact ⟨a, ho, rfl, e1, c⟩
  | dat d' => cases h
  | lk d' => cases h
def oCat (x y : D) : Option D := match x, y with
  | .lst ds, .lst es => if decide (ds.length + es.length ≤ sizeLine) = true then some (.lst (ds ++ es)) else none
  | _, _ => none
def mCat (f g : ME) : ME := fun ρ => (f ρ).bind fun p => (g p.2).bind fun q => (lookT p.1 q.2).bind fun x => (lookT q.1 q.2).bind fun y => (oCat x y).map fun d => (.new d, q.2)
theorem pm_cat (ha : PM X B a f) (hb : PM X B b g) : PM X B (.BinOp a .Add b pos) (mCat f g) := (pe_op op_cat ha hb).wk fun σ H Q ⟨hv, ρ, G, R, rv, ρ', hf, k⟩ => by
  obtain ⟨⟨r1, ρ1⟩, h1, hf⟩ := bnd hf
  obtain ⟨⟨r2, ρ2⟩, h2, hf⟩ := bnd hf
  obtain ⟨x, h3, hf⟩ := bnd hf
  obtain ⟨y, h4, hf⟩ := bnd hf
  obtain ⟨d, e, hf⟩ := mpp hf
  cases hf
  refine ⟨hv, ρ, G, R, r1, ρ1, h1, fun v H1 G1 R1 => ⟨_, ρ1, G1, R1, r2, ρ2, h2, fun w H2 G2 R2 => ?_⟩⟩
  obtain ⟨l1, o1, rfl, g1, c1⟩ := R2.pop.lookT h3
  obtain ⟨l2, o2, rfl, g2, c2⟩ := R2.lookT h4
  cases x <;> cases y <;> simp only [oCat, reduceCtorEq] at e
  rename_i ds _ es
  by_cases hz : decide (ds.length + es.length ≤ sizeLine) = true
  · rw [if_pos hz] at e
    cases e
    obtain ⟨xs, rfl, q1⟩ := c1
    obtain ⟨zs, rfl, q2⟩ := c2
    exact ⟨l1, l2, xs, zs, rfl, rfl, g1, g2, by rw [q1.len, q2.len]; exact of_decide_eq_true hz, fun q hq => k _ _ _ (R2.pop.pop.new hq ⟨_, rfl, q1.append q2⟩)⟩
  · rw [if_neg hz] at e; cases e
/-- [x, ..] * n, the list new -/
def repOk (ds : List D) (k : Int) : Bool := decide (-(2 ^ 63) ≤ k ∧ k < 2 ^ 63 ∧ ds.length * k.toNat ≤ sizeLine)
def mRep (f : ME) (fb : MD) : ME := fun ρ => (f ρ).bind fun p => (fb p.2).bind fun q => match p.1, q.1 with
  | .new (.lst ds), .int k => if repOk ds k = true then some (.new (.lst (List.replicate k.toNat ds).flatten), q.2) else none
  | _, _ => none
theorem Rps.rep {c : Cn} {G : Hp} {vs : List V} {ds : List D} (r : Rps c G vs ds) : ∀ k : Nat, Rps c G (List.replicate k vs).flatten (List.replicate k ds).flatten
  | 0 => .nil
  | k + 1 => by
    rw [List.replicate_succ, List.replicate_succ, List.flatten_cons, List.flatten_cons]
    exact r.append (Rps.rep r k)
theorem pm_rep (ha : PM X B a f) (hb : PD X B b fb) : PM X B (.BinOp a .Mult b pos) (mRep f fb) := (pe_op op_rep ha hb).wk fun σ H Q ⟨hv, ρ, G, R, rv, ρ', hf, k⟩ => by
  obtain ⟨⟨r1, ρ1⟩, h1, hf⟩ := bnd hf
  obtain ⟨⟨d2, ρ2⟩, h2, hf⟩ := bnd hf
  refine ⟨hv, ρ, G, R, r1, ρ1, h1, fun v H1 G1 R1 => ⟨_, ρ1, G1, R1, d2, ρ2, h2, fun w H2 G2 R2 => ?_⟩⟩
  match r1, d2, hf with
  | .new (.lst ds), .int n, hf =>
    by_cases hz : repOk ds n = true
    · simp only [hz, if_true, Option.some.injEq, Prod.mk.injEq] at hf
      obtain ⟨rfl, rfl⟩ := hf
      have r2 := R2.top
      cases r2
      obtain ⟨t, _, _, ⟨a, ho, rfl, eH, ⟨xs, rfl, rs⟩, _⟩, _⟩ := R2.pop.ex
      obtain ⟨z1, z2, z3⟩ := of_decide_eq_true hz
      exact ⟨a, n, xs, rfl, rfl, eH, z1, z2, by rw [rs.len]; exact z3, fun q hq => k _ _ _ (R2.pop.pop.new hq ⟨_, rfl, rs.rep _⟩)⟩
    · simp only [hz] at hf; cases hf

/-! ### isinstance -/
/-- by the value's kind: int, bool, list -/
def isiInt : D → Option Bool
  | .non => some false | .bl _ => some true | .int _ => some true | .str _ => some false | .lst _ => some false | .tup _ => some false
  | _ => none
def isiBool : D → Option Bool
  | .non => some false | .bl _ => some true | .int _ => some false | .str _ => some false | .lst _ => some false | .tup _ => some false
  | _ => none
def isiList : D → Option Bool
  | .non => some false | .bl _ => some false | .int _ => some false | .str _ => some false | .lst _ => some true | .tup _ => some false
  | _ => none
theorem tyx_lst {K : PySem.W.Frag} {H : Hp} {a : Addr} {xs : List V} (h : SqL K H a xs) : TyX K H (.ref a) (.type "list") := by
  rcases h with (h | ⟨o, h⟩) | ⟨o, its, n, h1, h2, _⟩
  · exact .base (.lst h)
  · exact .base (.frz h)
  · exact .kList h1 h2
def oIsi (t : D → Option Bool) : D → Option D := fun d => (t d).map D.bl
theorem isi_core {T : String} {t : D → Option Bool} (hK : X.K = B.c.K)
    (h : ∀ (n : String) (d : D), (match d with | .non => n = "NoneType" | .bl _ => n = "bool" | .int _ => n = "int" | .str _ => n = "str" | .lst _ => n = "list" | .tup _ => n = "tuple" | _ => False) → ∀ b, t d = some b → kitB n T = some b)
    (hn : ∀ d, (match d with | .dk _ => True | .dt _ => True | .dn _ => True | .kd _ _ => True | _ => False) → t d = none) : ∀ (G H : Hp) (v : V) (x d : D) (Q : VK), Same G H → Rh B.c G H v x → oIsi t x = some d → (∀ u, Rp B.c G u d → Q u H) → rIsi X.K [v, .ty T] H Q := fun G H v x d Q s hx e k => by
  obtain ⟨b, e1, rfl⟩ := mpp e
  cases x with
  | non => cases hx; exact ⟨_, _, _, _, b, rfl, .ty _, .base .non, kit_ty (h "NoneType" .non rfl b e1), k _ (.bl _)⟩
  | bl c => cases hx; exact ⟨_, _, _, _, b, rfl, .ty _, .base (.bl _), kit_ty (h "bool" (.bl c) rfl b e1), k _ (.bl _)⟩
  | int i => cases hx; exact ⟨_, _, _, _, b, rfl, .ty _, .base (.int _), kit_ty (h "int" (.int i) rfl b e1), k _ (.bl _)⟩
  | str i => cases hx; exact ⟨_, _, _, _, b, rfl, .ty _, .base (.str _), kit_ty (h "str" (.str i) rfl b e1), k _ (.bl _)⟩
  | lst ds =>
    obtain ⟨a, xs, rfl, h1, r⟩ := hx
    exact ⟨_, _, _, _, b, rfl, .ty _, tyx_lst (by rw [hK]; exact h1), kit_ty (h "list" (.lst ds) rfl b e1), k _ (.bl _)⟩
  | tup ds =>
    cases hx with
    | tup h1 r => exact ⟨_, _, _, _, b, rfl, .ty _, .base (.tup (s _ _ h1)), kit_ty (h "tuple" (.tup ds) rfl b e1), k _ (.bl _)⟩
  | dk _ => rw [hn _ trivial] at e1; cases e1
  | dt _ => rw [hn _ trivial] at e1; cases e1
  | dn _ => rw [hn _ trivial] at e1; cases e1
  | kd _ _ => rw [hn _ trivial] at e1; cases e1
theorem pd_isi {T : String} {t : D → Option Bool} {q2 : Pos} {nT : Str} (hc : ∀ (G H : Hp) (v : V) (x d : D) (Q : VK), Same G H → Rh B.c G H v x → oIsi t x = some d → (∀ u, Rp B.c G u d → Q u H) → rIsi X.K [v, .ty T] H Q)
    (hg : Gl X "isinstance") (hm : X.mg "isinstance" = none) (ha : PM X B e f) (hg2 : Gl X nT) (hm2 : X.mg nT = none) (hv2 : bootBuiltins nT = some (.type T)) (hn2 : nT ≠ "__name__" := by decide) (hd2 : (nT == ("__debug__" : Str)) = false := by decide)
    (he : starEach [e, .Name nT q2] X.env = (false, eval e X.env) :: starEach [.Name nT q2] X.env := by rfl) (he2 : starEach [.Name nT q2] X.env = (false, eval (.Name nT q2) X.env) :: starEach [] X.env := by rfl) (hpl : (backTo pos (starEach [.Name nT q2] X.env)).any (·.1) = false := by rfl) :
    PD X B (.Call (.Name "isinstance" p) [e, .Name nT q2] [] pos) (m1 (oIsi t) f) :=
  (pe_callB call_isi hg hm (by decide +kernel) (pa_cons ha (pa_cons (pe_bltn (v := .ty T) hg2 hm2 hv2 rfl hn2 hd2) pa_nil he2) he) (by decide) (by decide) he hpl).wk fun σ H Q ⟨hv, ρ, G, R, d, ρ', hf, k⟩ => by
    obtain ⟨⟨x, ρ1⟩, h1, hf⟩ := bnd hf
    obtain ⟨dx, h3, hf⟩ := bnd hf
    obtain ⟨d', h5, hf⟩ := mpp hf
    cases hf
    exact ⟨hv, ρ, G, R, x, ρ1, h1, fun v H1 G1 R1 => hc G1 H1 v dx _ _ R1.sub (R1.look h3) h5 fun u ru => k u H1 G1 (R1.pop.dat ru)⟩
theorem isi_int (hK : X.K = B.c.K) : ∀ (G H : Hp) (v : V) (x d : D) (Q : VK), Same G H → Rh B.c G H v x → oIsi isiInt x = some d → (∀ u, Rp B.c G u d → Q u H) → rIsi X.K [v, .ty "int"] H Q :=
  isi_core hK (fun n d hn b hb => by
    cases d <;> simp only [isiInt, Option.some.injEq, reduceCtorEq] at hb hn <;> subst hn hb <;> decide +kernel) fun d hd => by cases d <;> first | rfl | exact hd.elim
theorem isi_bool (hK : X.K = B.c.K) : ∀ (G H : Hp) (v : V) (x d : D) (Q : VK), Same G H → Rh B.c G H v x → oIsi isiBool x = some d → (∀ u, Rp B.c G u d → Q u H) → rIsi X.K [v, .ty "bool"] H Q :=
  isi_core hK (fun n d hn b hb => by
    cases d <;> simp only [isiBool, Option.some.injEq, reduceCtorEq] at hb hn <;> subst hn hb <;> decide +kernel) fun d hd => by cases d <;> first | rfl | exact hd.elim
theorem isi_list (hK : X.K = B.c.K) : ∀ (G H : Hp) (v : V) (x d : D) (Q : VK), Same G H → Rh B.c G H v x → oIsi isiList x = some d → (∀ u, Rp B.c G u d → Q u H) → rIsi X.K [v, .ty "list"] H Q :=
  isi_core hK (fun n d hn b hb => by
    cases d <;> simp only [isiList, Option.some.injEq, reduceCtorEq] at hb hn <;> subst hn hb <;> decide +kernel) fun d hd => by cases d <;> first | rfl | exact hd.elim

/-! ### repr -/
def oRepr (x : D) : Option D := match x with
  | .lst ds => (pyL ds).bind fun q => if (SeqAt.shaped (.list q) && (PyData.list q).showable && !(PyData.list q).hasDict && decide ((PyData.list q).shown.length ≤ sizeLine)) = true then some (.str (PyData.list q).shown) else none
  | _ => none
theorem pd_repr (hK : X.K = B.c.K) (hgd : X.A.guards = some []) (hu : X.A.units + 65 < cLine) (hg : Gl X "repr") (hm : X.mg "repr" = none) (ha : PD X B e fa) (he : starEach (e :: []) X.env = (false, eval e X.env) :: starEach [] X.env := by rfl) (hpl : (backTo pos (starEach [] X.env)).any (·.1) = false := by rfl) :
    PD X B (.Call (.Name "repr" p) (e :: []) [] pos) (m1 oRepr (upE fa)) :=
  pd_b1 (r := fun xs H Q => ∃ x q, xs = [x] ∧ Dp X.K H x (.list q) ∧ SeqAt.shaped (.list q) = true ∧ (PyData.list q).showable = true ∧ (PyData.list q).hasDict = false ∧ (PyData.list q).shown.length ≤ sizeLine ∧ Q (.str (PyData.list q).shown) H)
    (fun pins s σ H xs us Q I r h => by
      obtain ⟨x, q, rfl, hd, h1, h2, h3, h4, k⟩ := h
      obtain ⟨u, rfl, ru⟩ := vals1 r
      obtain ⟨as, rd⟩ := Dp.reads I _ _ _ hd ru
      have hdep := SeqAt.depth_of_shaped h1
      obtain ⟨T, idr, sh⟩ : ∃ T idr, ∃ av, u = .ref av ∧ ShowsBy X.prog X.w s.heap av (.list q) T idr := by
        cases hd with
        | lst _ _ =>
          cases ru
          obtain ⟨T, idr, sb⟩ := showsBy_of_reads (prog := X.prog) (w := X.w) rd h2 (fun z => by rw [h3] at z; cases z) h4
          exact ⟨T, idr, _, rfl, sb⟩
      obtain ⟨av, rfl, sb⟩ := sh
      refine call_repr_slot (by omega) (sb.typeIs s fun _ _ z => z) sb.slotRepr (sb.call X.A.in1 _ s _ hgd (by show X.A.units + 1 + _ < cLine; omega) (fun _ _ z => z) fun h' t tk kp => ⟨_, t, rfl, ?_⟩)
      exact ⟨.str _, H, I.kept kp, ⟨t, rfl⟩, k⟩)
    (fun G H v x d Q s hx e k => by
      cases x <;> simp only [oRepr, reduceCtorEq] at e
      rename_i ds
      obtain ⟨q, e1, e2⟩ := bnd e
      by_cases hz : (SeqAt.shaped (.list q) && (PyData.list q).showable && !(PyData.list q).hasDict && decide ((PyData.list q).shown.length ≤ sizeLine)) = true
      · rw [if_pos hz] at e2
        cases e2
        simp only [Bool.and_eq_true, Bool.not_eq_true', decide_eq_true_eq] at hz
        obtain ⟨⟨⟨z1, z2⟩, z3⟩, z4⟩ := hz
        obtain ⟨a, xs, rfl, h, r⟩ := hx
        exact ⟨_, q, rfl, by rw [hK]; exact .lst h (py_dps (r.mono s) e1), z1, z2, z3, z4, k _ (.str _)⟩
      · rw [if_neg hz] at e2; cases e2) hg hm (by decide +kernel) (pm_up ha) (by decide) (by decide) he hpl
end
end M
/-! M9: dicts. -/
namespace M
open PySem PySem.Spec PyProof.Rows L2

def kD : D → Option Key
  | .int i => some (.inl i)
  | .str x => some (.inr x)
  | _ => none
def kDs : List D → Option (List Key)
  | [] => some []
  | d :: ds => (kD d).bind fun k => (kDs ds).map fun ks => k :: ks
def ktD : D → Option (List Key)
  | .tup ds => kDs ds
  | _ => none
def knD : D → Option (Option Key)
  | .non => some none
  | d => (kD d).map some
theorem kD_rp {c : Cn} {G : Hp} {v : V} {d : D} {k : Key} (h : Rp c G v d) (e : kD d = some k) : v = kV k := by
  cases h <;> simp only [kD, Option.some.injEq, reduceCtorEq] at e <;> subst e <;> rfl
theorem kDs_rps {c : Cn} {G : Hp} : ∀ {vs : List V} {ds : List D} {ks : List Key}, Rps c G vs ds → kDs ds = some ks → vs = ks.map kV
  | _, _, _, .nil, e => by simp only [kDs, Option.some.injEq] at e; subst e; rfl
  | _, _, _, .cons h r, e => by
    simp only [kDs] at e
    obtain ⟨k, e1, e⟩ := bnd e
    obtain ⟨ks, e2, e3⟩ := mpp e
    subst e3
    rw [kD_rp h e1, kDs_rps r e2]; rfl
section
variable {κ : Type} [DecidableEq κ]
def valD (es : List (κ × D)) (k : κ) : Option D := (es.find? fun e => decide (e.1 = k)).map (·.2)
def putD (es : List (κ × D)) (k : κ) (d : D) : List (κ × D) := if (es.any fun e => decide (e.1 = k)) = true then es.map (fun e => if e.1 = k then (e.1, d) else e) else es ++ [(k, d)]
/-- the values by the same keys -/
structure KR (c : Cn) (G : Hp) (kvs : List (κ × V)) (es : List (κ × D)) : Prop where
  ks : kvs.map (·.1) = es.map (·.1)
  vs : Rps c G (kvs.map (·.2)) (es.map (·.2))
variable {c : Cn} {G : Hp}
theorem KR.cons_inv {k : κ} {d : D} {es : List (κ × D)} {kvs : List (κ × V)} (h : KR c G kvs ((k, d) :: es)) : ∃ v r, kvs = (k, v) :: r ∧ Rp c G v d ∧ KR c G r es := by
  obtain ⟨h1, h2⟩ := h
  cases kvs with
  | nil => cases h1
  | cons p r =>
    obtain ⟨k', v⟩ := p
    simp only [List.map_cons, List.cons.injEq] at h1
    obtain ⟨e1, e2⟩ := h1
    subst e1
    cases h2 with
    | cons a b => exact ⟨v, r, rfl, a, e2, b⟩
theorem KR.len {es : List (κ × D)} {kvs : List (κ × V)} (h : KR c G kvs es) : kvs.length = es.length := by
  have := congrArg List.length h.ks
  rw [List.length_map, List.length_map] at this
  exact this
theorem KR.val {k : κ} : ∀ {es : List (κ × D)} {kvs : List (κ × V)}, KR c G kvs es → (∀ d, valD es k = some d → ∃ v, valV kvs k = some v ∧ Rp c G v d) ∧ (valD es k = none → valV kvs k = none)
  | [], kvs, h => by
    have : kvs = [] := List.length_eq_zero_iff.mp h.len
    subst this
    exact ⟨fun d e => (by cases e), fun _ => rfl⟩
  | (j, d) :: es, kvs, h => by
    obtain ⟨v, r, rfl, hv, hr⟩ := h.cons_inv
    have ih := KR.val (k := k) hr
    by_cases e : j = k
    · subst e
      have e1 : valD ((j, d) :: es) j = some d := by unfold valD; rw [List.find?_cons_of_pos (by simp)]; rfl
      rw [e1, valV_pos (p := (j, v)) rfl]
      exact ⟨fun d' q => ⟨v, rfl, by cases q; exact hv⟩, fun q => by cases q⟩
    · have e1 : valD ((j, d) :: es) k = valD es k := by unfold valD; rw [List.find?_cons_of_neg (by simpa using e)]
      rw [e1, valV_neg (p := (j, v)) e]
      exact ih
theorem KR.isSome {k : κ} {es : List (κ × D)} {kvs : List (κ × V)} (h : KR c G kvs es) : (valV kvs k).isSome = (valD es k).isSome := by
  cases q : valD es k with
  | none => rw [h.val.2 q]; rfl
  | some d => obtain ⟨v, e, _⟩ := h.val.1 d q; rw [e]; rfl
theorem KR.any {k : κ} {es : List (κ × D)} {kvs : List (κ × V)} (h : KR c G kvs es) : (kvs.any fun kv => decide (kv.1 = k)) = (es.any fun e => decide (e.1 = k)) := by
  have e1 : (kvs.any fun kv => decide (kv.1 = k)) = (kvs.map (·.1)).any fun x => decide (x = k) := by rw [List.any_map]; rfl
  have e2 : (es.any fun kv => decide (kv.1 = k)) = (es.map (·.1)).any fun x => decide (x = k) := by rw [List.any_map]; rfl
  rw [e1, e2, h.ks]
theorem KR.repl {k : κ} {v : V} {d : D} (hv : Rp c G v d) : ∀ {es : List (κ × D)} {kvs : List (κ × V)}, KR c G kvs es → KR c G (kvs.map fun kv => if kv.1 = k then (kv.1, v) else kv) (es.map fun e => if e.1 = k then (e.1, d) else e)
  | [], kvs, h => by
    have : kvs = [] := List.length_eq_zero_iff.mp h.len
    subst this
    exact ⟨rfl, .nil⟩
  | (j, d') :: es, kvs, h => by
    obtain ⟨w, r, rfl, hw, hr⟩ := h.cons_inv
    obtain ⟨i1, i2⟩ := KR.repl (k := k) hv hr
    by_cases e : j = k
    · refine ⟨?_, ?_⟩
      · simp only [List.map_cons, if_pos e] at i1 ⊢; rw [i1]
      · simp only [List.map_cons, if_pos e] at i2 ⊢; exact .cons hv i2
    · refine ⟨?_, ?_⟩
      · simp only [List.map_cons, if_neg e] at i1 ⊢; rw [i1]
      · simp only [List.map_cons, if_neg e] at i2 ⊢; exact .cons hw i2
theorem KR.put {k : κ} {v : V} {d : D} {es : List (κ × D)} {kvs : List (κ × V)} (h : KR c G kvs es) (hv : Rp c G v d) : KR c G (putK kvs k v) (putD es k d) := by
  unfold putK putD
  rw [h.any]
  split
  · exact h.repl hv
  · refine ⟨?_, ?_⟩
    · rw [List.map_append, List.map_append, h.ks]; rfl
    · rw [List.map_append, List.map_append]; exact h.vs.append (.cons hv .nil)
end

section
variable {X : Cx} {B : Bs} {e a b o i : Expr} {es : List Expr} {f g : ME} {fa fb fc : MD} {fr : MA} {tf : MB} {p pos : Pos}
/-! ### d[k], k in d, d.get(k, x) with keys ints, texts, tuples of them -/
def oDGet : D → D → Option D
  | .dk es, k => (kD k).bind (valD es)
  | .dt es, k => (ktD k).bind (valD es)
  | _, _ => none
def oDHas : D → D → Option Bool
  | .dk es, k => (kD k).map fun k => (valD es k).isSome
  | .dt es, k => (ktD k).map fun k => (valD es k).isSome
  | _, _ => none
/-- what the dict holds at the key, as the layer says it -/
theorem dget_of {c : Cn} {G H : Hp} {v w : V} {x y : D} (s : Same G H) (hx : Rh c G H v x) (hy : Rp c G w y) {r : Bool} (e : oDHas x y = some r) :
    ∃ a ov, v = .ref a ∧ DGet H a w ov ∧ (∀ d, oDGet x y = some d → ∃ u, ov = some u ∧ Rp c G u d) ∧ (oDGet x y = none → ov = none) ∧ ov.isSome = r := by
  cases x <;> simp only [oDHas, reduceCtorEq] at e
  · obtain ⟨k, e1, e2⟩ := mpp e
    obtain ⟨a, kvs, rfl, h1, h2, h3⟩ := hx
    have kr : KR c G kvs _ := ⟨h2, h3⟩
    have ey := kD_rp hy e1
    refine ⟨a, valV kvs k, rfl, .inl ⟨kvs, k, h1, ey, rfl⟩, fun d q => ?_, fun q => ?_, by rw [kr.isSome]; exact e2⟩
    · simp only [oDGet, e1, Option.bind_some] at q; exact kr.val.1 d q
    · simp only [oDGet, e1, Option.bind_some] at q; exact kr.val.2 q
  · obtain ⟨k, e1, e2⟩ := mpp e
    obtain ⟨a, kvs, rfl, h1, h2, h3⟩ := hx
    have kr : KR c G kvs _ := ⟨h2, h3⟩
    cases hy <;> simp only [ktD, reduceCtorEq] at e1
    rename_i b xs ds hb rs
    have ey := kDs_rps rs e1
    subst ey
    refine ⟨a, valV kvs k, rfl, .inr ⟨kvs, k, b, h1, rfl, s _ _ hb, rfl⟩, fun d q => ?_, fun q => ?_, by rw [kr.isSome]; exact e2⟩
    · simp only [oDGet, ktD, e1, Option.bind_some] at q; exact kr.val.1 d q
    · simp only [oDGet, ktD, e1, Option.bind_some] at q; exact kr.val.2 q
theorem oDGet_has {x y d : D} (h : oDGet x y = some d) : oDHas x y = some true := by
  cases x <;> simp only [oDGet, reduceCtorEq] at h
  · obtain ⟨k, e1, e2⟩ := bnd h; simp only [oDHas, e1, Option.map_some, e2, Option.isSome_some]
  · obtain ⟨k, e1, e2⟩ := bnd h; simp only [oDHas, e1, Option.map_some, e2, Option.isSome_some]
theorem pd_dget (hu : X.A.units + 1 < cLine) (ho : PM X B o f) (hi : PD X B i fb) (hs : NoSl i := by intro _ _; rfl) : PD X B (.Subscript o i pos) (mIx oDGet f fb) := (pe_dget hu ho hi hs).wk fun σ H Q ⟨hv, ρ, G, R, d, ρ', hf, k⟩ => by
  obtain ⟨⟨x, ρ1⟩, h1, hf⟩ := bnd hf
  obtain ⟨⟨y, ρ2⟩, h2, hf⟩ := bnd hf
  obtain ⟨dx, h3, hf⟩ := bnd hf
  obtain ⟨d', h5, hf⟩ := mpp hf
  cases hf
  refine ⟨hv, ρ, G, R, x, ρ1, h1, fun v H1 G1 R1 => ⟨_, ρ1, G1, R1, y, ρ2, h2, fun w H2 G2 R2 => ?_⟩⟩
  obtain ⟨a, ov, rfl, q1, q2, _, _⟩ := dget_of R2.sub (R2.pop.look h3) R2.top (oDGet_has h5)
  obtain ⟨u, rfl, ru⟩ := q2 _ h5
  exact ⟨a, u, rfl, q1, k u H2 G2 (R2.pop.pop.dat ru)⟩
/-- the key first, then the dict -/
def mIn (neg : Bool) (o : D → D → Option Bool) (fa : MD) (f : ME) : MD := fun ρ => (fa ρ).bind fun p => (f p.2).bind fun q => (look q.1 q.2).bind fun x => (o x p.1).map fun b => (.bl (if neg then !b else b), q.2)
theorem din_wk : ∀ σ H Q, tD B (mIn false oDHas fa f) σ H Q → tDIn (tD B fa) (tM B f) σ H Q := fun σ H Q ⟨hv, ρ, G, R, d, ρ', hf, k⟩ => by
  obtain ⟨⟨y, ρ1⟩, h1, hf⟩ := bnd hf
  obtain ⟨⟨x, ρ2⟩, h2, hf⟩ := bnd hf
  obtain ⟨dx, h3, hf⟩ := bnd hf
  obtain ⟨b, h5, hf⟩ := mpp hf
  cases hf
  refine ⟨hv, ρ, G, R, y, ρ1, h1, fun w H1 G1 R1 => ⟨_, ρ1, G1, R1, x, ρ2, h2, fun v H2 G2 R2 => ?_⟩⟩
  obtain ⟨a, ov, rfl, q1, _, _, q4⟩ := dget_of R2.sub (R2.look h3) R2.pop.top h5
  exact ⟨a, ov, rfl, q1, by rw [q4]; exact k _ H2 G2 (R2.pop.pop.dat (.bl _))⟩
theorem dnin_wk : ∀ σ H Q, tD B (mIn true oDHas fa f) σ H Q → tDNotIn (tD B fa) (tM B f) σ H Q := fun σ H Q ⟨hv, ρ, G, R, d, ρ', hf, k⟩ => by
  obtain ⟨⟨y, ρ1⟩, h1, hf⟩ := bnd hf
  obtain ⟨⟨x, ρ2⟩, h2, hf⟩ := bnd hf
  obtain ⟨dx, h3, hf⟩ := bnd hf
  obtain ⟨b, h5, hf⟩ := mpp hf
  cases hf
  refine ⟨hv, ρ, G, R, y, ρ1, h1, fun w H1 G1 R1 => ⟨_, ρ1, G1, R1, x, ρ2, h2, fun v H2 G2 R2 => ?_⟩⟩
  obtain ⟨a, ov, rfl, q1, _, _, q4⟩ := dget_of R2.sub (R2.look h3) R2.pop.top h5
  exact ⟨a, ov, rfl, q1, by rw [q4]; exact k _ H2 G2 (R2.pop.pop.dat (.bl _))⟩
theorem pd_din (hu : X.A.units + 1 < cLine) (hi : PD X B i fa) (ho : PM X B o f) (hm : behindInMarks .In o = false := by rfl) : PD X B (.Compare i [.In] [o] pos) (mIn false oDHas fa f) := (pe_cmp (pc_din hu hi ho) hm).wk din_wk
theorem pd_dnin (hu : X.A.units + 1 < cLine) (hi : PD X B i fa) (ho : PM X B o f) (hm : behindInMarks .NotIn o = false := by rfl) : PD X B (.Compare i [.NotIn] [o] pos) (mIn true oDHas fa f) := (pe_cmp (pc_dnotin hu hi ho) hm).wk dnin_wk
theorem pb_din (hu : X.A.units + 1 < cLine) (hi : PD X B i fa) (ho : PM X B o f) (hm : behindInMarks .In o = false := by rfl) : PB X B (.Compare i [.In] [o] pos) (asB (mIn false oDHas fa f)) := tt_of din_wk (pt_cmp (pc_din hu hi ho) hm)
theorem pb_dnin (hu : X.A.units + 1 < cLine) (hi : PD X B i fa) (ho : PM X B o f) (hm : behindInMarks .NotIn o = false := by rfl) : PB X B (.Compare i [.NotIn] [o] pos) (asB (mIn true oDHas fa f)) := tt_of dnin_wk (pt_cmp (pc_dnotin hu hi ho) hm)
/-- d.get(k, x) -/
def isDc : D → Bool
  | .dk _ => true
  | .dt _ => true
  | _ => false
def mGet2 (f : ME) (fb fc : MD) : MD := fun ρ => (f ρ).bind fun p => ((look p.1 p.2).bind fun x => if isDc x = true then some x else none).bind fun _ => (fb p.2).bind fun q => (fc q.2).bind fun z => (look p.1 z.2).bind fun x => (oDHas x q.1).map fun _ => ((oDGet x q.1).getD z.1, z.2)
theorem pd_get2 {apos cpos : Pos} {d0 : Expr} (hu : X.A.units + 1 < cLine) (ho : PM X B o f) (he : PD X B e fb) (hf : PD X B d0 fc) (m : M2 X o "get" apos e d0 cpos) : PD X B (.Call (.Attribute o "get" apos) [e, d0] [] cpos) (mGet2 f fb fc) := (pe_dget2 hu ho he hf m).wk fun σ H Q ⟨hv, ρ, G, R, d, ρ', hf, k⟩ => by
  obtain ⟨⟨x, ρ1⟩, h1, hf⟩ := bnd hf
  obtain ⟨x0, h0, hf⟩ := bnd hf
  obtain ⟨⟨y, ρ2⟩, h2, hf⟩ := bnd hf
  obtain ⟨⟨z, ρ3⟩, h3, hf⟩ := bnd hf
  obtain ⟨dx, h4, hf⟩ := bnd hf
  obtain ⟨b, h5, hf⟩ := mpp hf
  simp only [Prod.mk.injEq] at hf
  obtain ⟨rfl, rfl⟩ := hf
  obtain ⟨x1, h6, h7⟩ := bnd h0
  refine ⟨hv, ρ, G, R, x, ρ1, h1, fun v H1 G1 R1 => ?_⟩
  have hD : ∃ a, v = .ref a ∧ IsD H1 a := by
    have hl := R1.look h6
    cases x1 <;> simp only [isDc, if_true, Bool.false_eq_true, if_false, reduceCtorEq] at h7
    · obtain ⟨a, kvs, e1, e2, _⟩ := hl; exact ⟨a, e1, .inl ⟨_, e2⟩⟩
    · obtain ⟨a, kvs, e1, e2, _⟩ := hl; exact ⟨a, e1, .inr ⟨_, e2⟩⟩
  obtain ⟨a, rfl, hD⟩ := hD
  refine ⟨a, rfl, hD, ⟨_, ρ1, G1, R1, y, ρ2, h2, fun w H2 G2 R2 => ⟨_, ρ2, G2, R2, z, ρ3, h3, fun u H3 G3 R3 => ?_⟩⟩⟩
  obtain ⟨a', ov, e', q1, q2, q3, q4⟩ := dget_of R3.sub (R3.pop.pop.look h4) R3.pop.top h5
  cases e'
  refine ⟨ov, q1, ?_⟩
  cases hq : oDGet dx y with
  | none =>
    rw [q3 hq]
    rw [hq] at k
    exact k u H3 G3 (R3.pop.pop.pop.dat R3.top)
  | some d' =>
    obtain ⟨u', rfl, ru⟩ := q2 d' hq
    rw [hq] at k
    exact k u' H3 G3 (R3.pop.pop.pop.dat ru)
/-! ### d[k] = v -/
def oDPut (k v : D) : D → Option D
  | .dk es => (kD k).bind fun k => if decide (es.length < sizeLine) = true then some (.dk (putD es k v)) else none
  | .dt es => (ktD k).bind fun k => if decide (es.length < sizeLine) = true then some (.dt (putD es k v)) else none
  | _ => none
def mDPut (f : ME) (fb fc : MD) : MS := fun ρ => (fc ρ).bind fun v => (f v.2).bind fun p => (fb p.2).bind fun q => (chg p.1 q.2 (oDPut q.1 v.1)).map fun r => (.nx, r)
theorem ps_dputM {value : Expr} {pos' : Pos} (hu : X.A.units + 1 < cLine) (ho : PM X B o f) (hi : PD X B i fb) (hv : PD X B value fc) (hs : swapsWith value (some (.Subscript o i pos')) pos.line X.env = pure false := by rfl) :
    PSM X B (.Assign [.Subscript o i pos'] value pos) (mDPut f fb fc) := (ps_dput hu ho hi hv hs).wk fun D σ H ⟨hv, ρ, G, n, R, fl, ρ', hf, k⟩ => by
  obtain ⟨⟨dv, ρ1⟩, h1, hf⟩ := bnd hf
  obtain ⟨⟨x, ρ2⟩, h2, hf⟩ := bnd hf
  obtain ⟨⟨y, ρ3⟩, h3, hf⟩ := bnd hf
  obtain ⟨ρ4, h4, hf⟩ := mpp hf
  simp only [Prod.mk.injEq] at hf
  obtain ⟨rfl, rfl⟩ := hf
  refine ⟨hv, ρ, G, R, dv, ρ1, h1, fun u H1 G1 R1 => ⟨_, ρ1, G1, R1, x, ρ2, h2, fun v H2 G2 R2 => ⟨_, ρ2, G2, R2, y, ρ3, h3, fun w H3 G3 R3 => ?_⟩⟩⟩
  have ry := R3.top
  have ru := R3.pop.pop.top
  obtain ⟨a, ho', x0, x', rfl, e3, c, e4, kk⟩ := R3.pop.chg h4
  cases x0 <;> simp only [oDPut, reduceCtorEq] at e4
  · obtain ⟨key, e5, e4⟩ := bnd e4
    split at e4
    case isFalse => cases e4
    rename_i hz
    cases e4
    obtain ⟨kvs, rfl, c1, c2⟩ := c
    have kr : KR B.c G3 kvs _ := ⟨c1, c2⟩
    have kr2 := kr.put (k := key) ru
    refine ⟨a, _, rfl, .inl ⟨kvs, key, e3, kD_rp ry e5, by rw [kr.len]; exact of_decide_eq_true hz, rfl⟩, ?_⟩
    exact k _ _ _ (kk _ ⟨_, rfl, kr2.ks, kr2.vs⟩).pop.pop
  · obtain ⟨key, e5, e4⟩ := bnd e4
    split at e4
    case isFalse => cases e4
    rename_i hz
    cases e4
    obtain ⟨kvs, rfl, c1, c2⟩ := c
    have kr : KR B.c G3 kvs _ := ⟨c1, c2⟩
    have kr2 := kr.put (k := key) ru
    cases ry <;> simp only [ktD, reduceCtorEq] at e5
    rename_i b xs ds hb rs
    have ey := kDs_rps rs e5
    subst ey
    refine ⟨a, _, rfl, .inr ⟨kvs, key, b, e3, rfl, R3.sub _ _ hb, by rw [kr.len]; exact of_decide_eq_true hz, rfl⟩, ?_⟩
    exact k _ _ _ (kk _ ⟨_, rfl, kr2.ks, kr2.vs⟩).pop.pop
/-! ### {} -/
theorem pm_newK : PM X B (.Dict [] [] pos) (fun ρ => some (.new (.dk []), ρ)) := pe_dnewK.wk fun σ H Q ⟨hv, ρ, G, R, rv, ρ', hf, k⟩ => by
  cases hf
  exact fun p hp => k _ _ _ (R.new hp ⟨[], rfl, rfl, .nil⟩)
theorem pm_newT : PM X B (.Dict [] [] pos) (fun ρ => some (.new (.dt []), ρ)) := pe_dnewT.wk fun σ H Q ⟨hv, ρ, G, R, rv, ρ', hf, k⟩ => by
  cases hf
  exact fun p hp => k _ _ _ (R.new hp ⟨[], rfl, rfl, .nil⟩)
end
end M
/-! M10: the class Kind, bit_length, index, three targets. -/
namespace M
open PySem PySem.Spec PyProof.Rows L2
theorem hu65 {k : Nat} {A : Around} (hr : Room k A) : A.units + 65 < cLine := by have := hr.un; omega
section
variable {X : Cx} {B : Bs} {e a b o i : Expr} {es : List Expr} {f g : ME} {fa fb fc : MD} {fr : MA} {tf : MB} {p pos : Pos}
/-! ### Kind -/
theorem ns_ne : ¬ (("_name" : Str) = "_size") := by decide +kernel
theorem kf_name (n : Str) (z : Int) : (kflds n z).lookup ("_name" : Str) = some (.str n) := by
  unfold kflds
  rw [lookup_putF, if_neg ns_ne, lookup_putF, if_pos rfl]
theorem kf_size (n : Str) (z : Int) : (kflds n z).lookup ("_size" : Str) = some (.int z) := by
  unfold kflds
  rw [lookup_putF, if_pos rfl]
theorem kf_no {m : Str} (h1 : ¬ m = "_size") (h2 : ¬ m = "_name") (n : Str) (z : Int) : (kflds n z).lookup m = none := by
  unfold kflds
  rw [lookup_putF, if_neg h1, lookup_putF, if_neg h2]
  all_goals rfl
theorem kno_name : ∀ a b, (kflds a b).lookup ("name" : Str) = none := kf_no (by decide +kernel) (by decide +kernel)
theorem kno_size : ∀ a b, (kflds a b).lookup ("size" : Str) = none := kf_no (by decide +kernel) (by decide +kernel)
theorem kno_steps : ∀ a b, (kflds a b).lookup ("steps" : Str) = none := kf_no (by decide +kernel) (by decide +kernel)
theorem kno_start : ∀ a b, (kflds a b).lookup ("start" : Str) = none := kf_no (by decide +kernel) (by decide +kernel)
def mK_name (fa : MD) : MD := fun ρ => (fa ρ).bind fun p => match p.1 with
  | .kd n _ => some (.str n, p.2)
  | _ => none
def mK_size (fa : MD) : MD := fun ρ => (fa ρ).bind fun p => match p.1 with
  | .kd _ z => some (.int z, p.2)
  | _ => none
theorem pd_k_name {C : Addr} (hC : B.c.C = C) (c : Cls X.K C) (n : NoAttr X.K C "_name") (he : PD X B e fa) (hb : attributeBase e "_name" X.env (eval e X.env) = eval e X.env := by rfl) : PD X B (.Attribute e "_name" pos) (mK_name fa) := (pe_fld he hb).wk fun σ H Q ⟨hv, ρ, G, R, d, ρ', hf, k⟩ => by
  obtain ⟨⟨x, ρ1⟩, h1, hf⟩ := bnd hf
  refine ⟨hv, ρ, G, R, x, ρ1, h1, fun v H1 G1 R1 => ?_⟩
  have r := R1.top
  cases x <;> simp only [reduceCtorEq, Option.some.injEq, Prod.mk.injEq] at hf
  obtain ⟨rfl, rfl⟩ := hf
  cases r with
  | kd h =>
    subst hC
    exact ⟨_, _, _, _, _, rfl, R1.sub _ _ h, c, n, kf_name _ _, k _ _ _ (R1.pop.dat (.str _))⟩
theorem pd_k_size {C : Addr} (hC : B.c.C = C) (c : Cls X.K C) (n : NoAttr X.K C "_size") (he : PD X B e fa) (hb : attributeBase e "_size" X.env (eval e X.env) = eval e X.env := by rfl) : PD X B (.Attribute e "_size" pos) (mK_size fa) := (pe_fld he hb).wk fun σ H Q ⟨hv, ρ, G, R, d, ρ', hf, k⟩ => by
  obtain ⟨⟨x, ρ1⟩, h1, hf⟩ := bnd hf
  refine ⟨hv, ρ, G, R, x, ρ1, h1, fun v H1 G1 R1 => ?_⟩
  have r := R1.top
  cases x <;> simp only [reduceCtorEq, Option.some.injEq, Prod.mk.injEq] at hf
  obtain ⟨rfl, rfl⟩ := hf
  cases r with
  | kd h =>
    subst hC
    exact ⟨_, _, _, _, _, rfl, R1.sub _ _ h, c, n, kf_size _ _, k _ _ _ (R1.pop.dat (.int _))⟩
/-- what isinstance(x, Kind) asks of the class -/
structure KIs (K : PySem.W.Frag) (C : Addr) : Prop where
  ha : PySem.W.findIn K (.ref C) "__class__" = some (some (.builtin "object.__class__"))
  hn : PySem.W.specialIn K (.builtin "object.__class__") "__get__" = some (some (.builtin "getset_descriptor.__get__"))
  htk : PySem.W.takesIn K (.builtin "object.__class__") = some true
  hm : PySem.W.mroIn K C (.type "object") = some true
  one : PySem.W.kitOne K (.ref C) (.ref C) = some true
/-- a Kind: True; nothing else is asked -/
def isiKind : D → Option Bool
  | .kd _ _ => some true
  | _ => none
theorem pd_isiK {C : Addr} {q2 : Pos} (hC : B.c.C = C) (c : Cls X.K C) (ki : KIs X.K C) (hg : Gl X "isinstance") (hm : X.mg "isinstance" = none) (ha : PM X B e f) (hg2 : Gl X "Kind") (hm2 : X.mg "Kind" = some (.ref C))
    (he : starEach [e, .Name "Kind" q2] X.env = (false, eval e X.env) :: starEach [.Name "Kind" q2] X.env := by rfl) (he2 : starEach [.Name "Kind" q2] X.env = (false, eval (.Name "Kind" q2) X.env) :: starEach [] X.env := by rfl) (hpl : (backTo pos (starEach [.Name "Kind" q2] X.env)).any (·.1) = false := by rfl) :
    PD X B (.Call (.Name "isinstance" p) [e, .Name "Kind" q2] [] pos) (m1 (oIsi isiKind) f) :=
  (pe_callB call_isi hg hm (by decide +kernel) (pa_cons ha (pa_cons (pe_glob (v := .ref C) hg2 hm2 rfl) pa_nil he2) he) (by decide) (by decide) he hpl).wk fun σ H Q ⟨hv, ρ, G, R, d, ρ', hf, k⟩ => by
    obtain ⟨⟨x, ρ1⟩, h1, hf⟩ := bnd hf
    obtain ⟨dx, h3, hf⟩ := bnd hf
    obtain ⟨d', h5, hf⟩ := mpp hf
    cases hf
    refine ⟨hv, ρ, G, R, x, ρ1, h1, fun v H1 G1 R1 => ?_⟩
    have hl := R1.look h3
    cases dx <;> simp only [oIsi, isiKind, Option.map_none, Option.map_some, reduceCtorEq, Option.some.injEq] at h5
    subst h5
    cases hl with
    | kd h =>
      subst hC
      exact ⟨_, _, _, _, true, rfl, .own _, .base (.ins (R1.sub _ _ h) c ki.ha ki.hn ki.htk ki.hm), ki.one, k _ _ _ (R1.pop.dat (.bl _))⟩
/-! ### n.bit_length() -/
def oBits : D → Option D
  | .int i => some (.int (Builtin.Int.intBits i : Nat))
  | _ => none
theorem pd_bits {apos : Pos} (ho : PM X B o f) (hbase : attributeBase o "bit_length" X.env (eval o X.env) = eval o X.env := by rfl) (hline : (apos.endLine == pos.line) = true := by rfl) : PD X B (.Call (.Attribute o "bit_length" apos) [] [] pos) (m1 oBits f) := (pe_bits ho hbase hline).wk (m1_wk (r := fun x H Q => ∃ i, x = .int i ∧ Q (.int (Builtin.Int.intBits i : Nat)) H) fun G H v x d Q s hx e k => by
  cases x <;> simp only [oBits, reduceCtorEq, Option.some.injEq] at e
  subst e
  cases hx
  exact ⟨_, rfl, k _ (.int _)⟩)
/-! ### xs.index(x), there -/
def findP (p : PyData) : List PyData → Nat → Option Nat
  | [], _ => none
  | q :: qs, n => if PyData.eqv q p = true then some n else findP p qs (n + 1)
theorem findP_some {p : PyData} : ∀ {qs : List PyData} {n j : Nat}, findP p qs n = some j → ∃ m z, j = n + m ∧ qs[m]? = some z ∧ PyData.eqv z p = true ∧ ∀ (k : Nat) (z' : PyData), k < m → qs[k]? = some z' → PyData.eqv z' p = false
  | [], _, _, h => by cases h
  | q :: qs, n, j, h => by
    unfold findP at h
    split at h
    · rename_i hq
      cases h
      exact ⟨0, q, rfl, rfl, hq, fun k z' hk => absurd hk (Nat.not_lt_zero _)⟩
    · rename_i hq
      obtain ⟨m, z, e1, e2, e3, e4⟩ := findP_some h
      refine ⟨m + 1, z, by omega, by simpa using e2, e3, fun k z' hk hz => ?_⟩
      cases k with
      | zero => cases hz; simpa using hq
      | succ k => exact e4 k z' (by omega) (by simpa using hz)
def oIndex (x y : D) : Option D := match x with
  | .lst ds => (pyL ds).bind fun qs => (py y).bind fun q => if (SeqAt.shaped (.list qs) && SeqAt.shaped q) = true then (findP q qs 0).map fun j => .int (j : Nat) else none
  | _ => none
def mIndex (fa fb : MD) : MD := m2 oIndex fa fb
theorem pd_index {apos cpos : Pos} (hK : X.K = B.c.K) (hu : X.A.units + 65 < cLine) (ho : PD X B o fa) (he : PD X B e fb) (hbase : attributeBase o "index" X.env (eval o X.env) = eval o X.env := by rfl)
    (hfew : ((backTo cpos (starEach [e] X.env)).all (fun x => !x.1) && (backToKw cpos (keywordEach [] X.env)).all (fun x => x.1.isSome)
      && decide (([e] : List Expr).length + ([] : List Keyword).length + (if ([] : List Keyword).isEmpty then 0 else 1) < 30)) = true := by rfl)
    (hline : (apos.endLine == cpos.line) = true := by rfl) (hs : starEach [e] X.env = (false, eval e X.env) :: starEach [] X.env := by rfl) (hplain : (backTo cpos (starEach [] X.env)).any (·.1) = false := by rfl) :
    PD X B (.Call (.Attribute o "index" apos) [e] [] cpos) (mIndex fa fb) :=
  (pe_bm PySem.F.plainAttrs_list PySem.F.slot_list_index PySem.F.type_list_index (mt_indexD hu) ho (pa_cons he pa_nil hs) hbase hfew hline hs hplain).wk fun σ H Q ⟨hv, ρ, G, R, d, ρ', hf, k⟩ => by
    obtain ⟨⟨x, ρ1⟩, h1, hf⟩ := bnd hf
    obtain ⟨⟨y, ρ2⟩, h2, hf⟩ := bnd hf
    obtain ⟨d', h5, hf⟩ := mpp hf
    cases hf
    refine ⟨hv, ρ, G, R, x, ρ1, h1, fun v H1 G1 R1 => ?_⟩
    cases x <;> simp only [oIndex, reduceCtorEq] at h5
    obtain ⟨qs, e1, h5⟩ := bnd h5
    obtain ⟨q, e2, h5⟩ := bnd h5
    split at h5
    case isFalse => cases h5
    rename_i hsh
    obtain ⟨j, e3, e4⟩ := mpp h5
    subst e4
    rw [Bool.and_eq_true] at hsh
    have r1 := R1.top
    cases r1 with
    | lst h rs =>
      rename_i aa _
      refine ⟨.inl ⟨rfl, _, by rw [hK]; exact R1.sub.seq h⟩, _, ρ1, G1, R1, y, ρ2, h2, fun w H2 G2 R2 => ?_⟩
      have q1 : Dp X.K H2 (.ref aa) (.list qs) := by
        have := R2.pop.top
        rw [hK]
        exact py_dp (this.mono R2.sub) (by simp only [py, e1, Option.map_some])
      have q2 : Dp X.K H2 w q := by rw [hK]; exact py_dp (R2.top.mono R2.sub) e2
      obtain ⟨m, z, z1, z2, z3, z4⟩ := findP_some e3
      rw [Nat.zero_add] at z1
      subst z1
      exact ⟨_, w, q, qs, _, z, rfl, rfl, q1, q2, hsh.1, hsh.2, z2, z3, z4, k _ _ _ (R2.pop.pop.dat (.int _))⟩
/-! ### a, b, c = a triple -/
def gTr (s t u : MG) : MG := fun d ρ => match d with
  | .tup [x, y, z] => (s x ρ).bind fun r => (t y r).bind fun r => u z r
  | _ => none
theorem pg_triM {a b c : Expr} {s t u : MG} {is js ls : List Nat} {k : Nat} (hc : X.calm = true) (hK : X.K = B.c.K) (ha : PG X a (gM B is s)) (hb : PG X b (gM B js t)) (hcc : PG X c (gM B ls u)) (h1 : (assignEach [a, b, c] X.env).map (·.2) = assign a X.env :: (assignEach [b, c] X.env).map (·.2) := by rfl)
    (h2 : (assignEach [b, c] X.env).map (·.2) = assign b X.env :: (assignEach [c] X.env).map (·.2) := by rfl) (h3 : (assignEach [c] X.env).map (·.2) = assign c X.env :: (assignEach [] X.env).map (·.2) := by rfl) (hn : (assignEach [a, b, c] X.env).length = 3 := by rfl) (hst : (assignEach [a, b, c] X.env).findIdx? (·.1) = none := by rfl) : PG X (.Tuple [a, b, c] k pos) (gM B (is ++ (js ++ ls)) (gTr s t u)) :=
  ⟨fun pins s' σ H v w Q I r q => (pg_tup hc (pgs_cons ha (pgs_cons hb (pgs_cons hcc pgs_nil h3) h2) h1) hn hst).run pins s' σ H v w Q I r (by
    obtain ⟨hv, ρ, G, d, n, R, ρ', hs, k⟩ := q
    have rp := R.top
    match d, hs, rp with
    | .tup [x, y, z], hs, .tup hG (.cons r1 (.cons r2 (.cons r3 .nil))) =>
      obtain ⟨ρ1, e1, hs⟩ := bnd hs
      obtain ⟨ρ2, e2, e3⟩ := bnd hs
      refine ⟨_, _, rfl, SqT.of (R.sub _ _ hG), rfl, _, _, rfl, ⟨_, ρ, G, _, (n.cons (x := (_, .dat z)) (fun j q => by cases q)).cons (x := (_, .dat y)) (fun j q => by cases q), ((R.pop.dat r3).dat r2).dat r1, ρ1, e1, fun σ1 H1 G1 w1 R1 => ⟨_, _, rfl, ⟨_, ρ1, G1, _, n.cons (x := (_, .dat z)) (fun j q => by cases q), R1, ρ2, e2, fun σ2 H2 G2 w2 R2 => ⟨_, _, rfl, ⟨hv, ρ2, G2, _, n, R2, ρ', e3, fun σ3 H3 G3 w3 R3 => ⟨rfl, k _ _ _ (fun vs h => ?_) R3⟩⟩⟩⟩⟩⟩⟩
      rw [w3 vs fun i m => h i (List.mem_append_right _ (List.mem_append_right _ m)), w2 vs fun i m => h i (List.mem_append_right _ (List.mem_append_left _ m)), w1 vs fun i m => h i (List.mem_append_left _ m)])⟩
end
end M
/-! M11: dicts with None among the keys; displays of one pair. -/
namespace M
open PySem PySem.Spec PyProof.Rows L2
def nkV : Option Key → V
  | none => .non
  | some k => kV k
theorem knD_rp {c : Cn} {G : Hp} {v : V} {d : D} {k : Option Key} (h : Rp c G v d) (e : knD d = some k) : v = nkV k := by
  cases h <;> simp only [knD, kD, Option.map_some, Option.map_none, Option.some.injEq, reduceCtorEq] at e <;> subst e <;> rfl
theorem nkV_is {P : Program} {w : World} {k : Option Key} {u : Value} (r : RelV (nkV k) u) : (noneKind P w).is k u = true := by
  cases k with
  | none =>
    have e : u = Value.none := r
    subst e; rfl
  | some k => exact kV_is (P := P) (w := w) r
section
variable {c : Cn} {H H' : Hp} {h : Heap} {a : Addr} {kvs : List (Option Key × V)}
theorem dn_rd (ok : HOk c.P c.w H h) (e : Rd H a (dnO c a kvs)) : kvs.length ≤ sizeLine ∧ (a == sysModules) = false ∧ ∃ vs, KV kvs vs ∧ h.DictOf (noneKind c.P c.w) a vs :=
  (show ObjOk c.P c.w H h a (dnO c a kvs) from e.ok ok).1
theorem dn_new {vs : List (Option Key × Value)} (z : kvs.length ≤ sizeLine) (hd : (a == sysModules) = false) (rel : KV kvs vs) (dd : h.DictOf (noneKind c.P c.w) a vs) : ObjOk c.P c.w H' h a (dnO c a kvs) := by
  refine ⟨⟨z, hd, vs, rel, dd⟩, ?_, fun h1 h2 q k => ?_⟩
  · obtain ⟨o, _, _, e, _⟩ := dd; exact ⟨o, e⟩
  · obtain ⟨z1, z2, ws, r, o, es, ep, e, rest⟩ := q
    exact ⟨z1, z2, ws, r, o, es, ep, k o e, rest⟩
end
section
variable {X : Cx} {B : Bs} {e a b o i value : Expr} {f g : ME} {fa fb fc : MD} {tf : MB} {p pos pos' : Pos} {td ty tv : TE}
/-! ### readings -/
def tNGet (c : Cn) (td ty : TE) : TE := fun σ H Q => td σ H fun x H1 => ty σ H1 fun y H2 => ∃ (q : Addr) (kvs : List (Option Key × V)) (k : Option Key) (v : V), x = .ref q ∧ Rd H2 q (dnO c q kvs) ∧ y = nkV k ∧ valV kvs k = some v ∧ Q v H2
def tNIn (neg : Bool) (c : Cn) (ty td : TE) : TE := fun σ H Q => ty σ H fun y H1 => td σ H1 fun x H2 => ∃ (q : Addr) (kvs : List (Option Key × V)) (k : Option Key), x = .ref q ∧ Rd H2 q (dnO c q kvs) ∧ y = nkV k ∧ Q (.bl (if neg then !(valV kvs k).isSome else (valV kvs k).isSome)) H2
def sNPut (c : Cn) (td ty tv : TE) : TS := fun D σ H => tv σ H fun v H1 => td σ H1 fun x H2 => ty σ H2 fun y H3 => ∃ (q : Addr) (kvs : List (Option Key × V)) (k : Option Key), x = .ref q ∧ H3 q = some (dnO c q kvs) ∧ y = nkV k ∧ kvs.length < sizeLine ∧ D.nx σ (upd H3 q (dnO c q (putK kvs k v)))
structure PW (X : Cx) (B : Bs) : Prop where
  P : X.prog = B.c.P
  w : X.w = B.c.w
theorem pe_nget (hp : PW X B) (ho : PE X o td) (hi : PE X i ty) (hs : NoSl i) : PE X (.Subscript o i pos) (tNGet B.c td ty) := by
  refine ⟨fun pins s σ H Q J h => ?_⟩
  refine subD_of PySem.F.slot_dict_getitem.lookup hs (thn (ho.run pins s σ H _ J h) fun u s1 ⟨x, H1, J1, rx, q1⟩ => thn (hi.run pins s1 σ H1 _ J1 q1) fun iv s2 ⟨y, H2, J2, ry, q, kvs, k, v, ex, g, ey, l, q2⟩ => ?_)
  subst ex ey
  obtain rfl : u = Value.ref q := rx
  have hok := J2.hok
  rw [hp.P, hp.w] at hok ⊢
  obtain ⟨z, hd, vs, rel, dd⟩ := dn_rd hok g
  obtain ⟨w', hw, rw'⟩ := RelO.some_of (v := v) (o := valueAt vs k) (by rw [← l]; exact rel.val k)
  exact ⟨dd.typeIs, wpAny_getItem_of (nkV_is ry) dd.mapOf hw ⟨v, H2, J2.tok _, rw', q2⟩⟩
theorem pc_nin (hp : PW X B) (hi : PE X i ty) (ho : PE X o td) : PC X .In i o (tNIn false B.c ty td) := by
  refine ⟨fun pins s σ H Q J h => ?_⟩
  refine thn (hi.run pins s σ H _ J h) fun iv s1 ⟨y, H1, J1, ry, q1⟩ => thn (ho.run pins s1 σ H1 _ J1 q1) fun u s2 ⟨x, H2, J2, rx, q, kvs, k, ex, g, ey, q2⟩ => ?_
  subst ex ey
  obtain rfl : u = Value.ref q := rx
  have hok := J2.hok
  rw [hp.P, hp.w] at hok ⊢
  obtain ⟨z, hd, vs, rel, dd⟩ := dn_rd hok g
  refine wpAny_in_of (nkV_is ry) hd dd.mapOf ?_
  rw [← (rel.val k).isSome_eq]
  exact ⟨.bl (valV kvs k).isSome, H2, J2.tok _, rfl, q2⟩
theorem pc_nnin (hp : PW X B) (hi : PE X i ty) (ho : PE X o td) : PC X .NotIn i o (tNIn true B.c ty td) := by
  refine ⟨fun pins s σ H Q J h => ?_⟩
  refine thn (hi.run pins s σ H _ J h) fun iv s1 ⟨y, H1, J1, ry, q1⟩ => thn (ho.run pins s1 σ H1 _ J1 q1) fun u s2 ⟨x, H2, J2, rx, q, kvs, k, ex, g, ey, q2⟩ => ?_
  subst ex ey
  obtain rfl : u = Value.ref q := rx
  have hok := J2.hok
  rw [hp.P, hp.w] at hok ⊢
  obtain ⟨z, hd, vs, rel, dd⟩ := dn_rd hok g
  refine wpAny_notIn_of (nkV_is ry) hd dd.mapOf ?_
  rw [← (rel.val k).isSome_eq]
  exact ⟨.bl (!(valV kvs k).isSome), H2, J2.tok _, rfl, q2⟩
theorem ps_nput (hp : PW X B) (ho : PE X o td) (hi : PE X i ty) (hv : PE X value tv) (hs : swapsWith value (some (.Subscript o i pos')) pos.line X.env = pure false) :
    PS X (.Assign [.Subscript o i pos'] value pos) (sNPut B.c td ty tv) := by
  refine ⟨fun pins s σ H D J h => ?_⟩
  refine wpAny_Assign_Subscript (thn (hv.run pins s σ H _ J h) fun r s1 ⟨v, H1, J1, rv, q1⟩ => thn (ho.run pins s1 σ H1 _ J1 q1) fun u s2 ⟨x, H2, J2, rx, q2⟩ => thn (hi.run pins s2 σ H2 _ J2 q2) fun iv s3 ⟨y, H3, J3, ry, q, kvs, k, ex, g, ey, l, q3⟩ => ?_) hs
  subst ex ey
  obtain rfl : u = Value.ref q := rx
  have hok := J3.hok
  rw [hp.P, hp.w] at hok
  obtain ⟨z, hd, vs, rel, dd⟩ := dn_rd hok (Rd.of g)
  have hz : vs.length ≤ sizeLine := by rw [← rel.length]; exact z
  have hl : (putK kvs k v).length ≤ sizeLine := by have := length_putK kvs k v; omega
  have dd' := dd
  rw [← hp.P, ← hp.w] at dd'
  refine wpAny_setItem_pairs (hsz := hz) (nkV_is ry) dd' fun h' dn' hs => ⟨σ, _, ?_, q3⟩
  rw [hp.P, hp.w] at dn'
  have he : ∃ q0, h'.get? q = some q0 := let ⟨q0, _, _, hq, _⟩ := dn'; ⟨q0, hq⟩
  exact d_write J3 (by rw [g]; exact True.intro) hs he (by rw [hp.P, hp.w]; exact dn_new hl hd (rel.put k rv) dn')
/-! ### mirrors -/
def oNGet : D → D → Option D
  | .dn es, k => (knD k).bind (valD es)
  | _, _ => none
def oNHas : D → D → Option Bool
  | .dn es, k => (knD k).map fun k => (valD es k).isSome
  | _, _ => none
theorem pd_dgetN (hp : PW X B) (ho : PM X B o f) (hi : PD X B i fb) (hs : NoSl i := by intro _ _; rfl) : PD X B (.Subscript o i pos) (mIx oNGet f fb) := (pe_nget hp ho hi hs).wk fun σ H Q ⟨hv, ρ, G, R, d, ρ', hf, kk⟩ => by
  obtain ⟨⟨x, ρ1⟩, h1, hf⟩ := bnd hf
  obtain ⟨⟨y, ρ2⟩, h2, hf⟩ := bnd hf
  obtain ⟨dx, h3, hf⟩ := bnd hf
  obtain ⟨d', h5, hf⟩ := mpp hf
  cases hf
  refine ⟨hv, ρ, G, R, x, ρ1, h1, fun v H1 G1 R1 => ⟨_, ρ1, G1, R1, y, ρ2, h2, fun w H2 G2 R2 => ?_⟩⟩
  cases dx <;> simp only [oNGet, reduceCtorEq] at h5
  obtain ⟨k, e1, e2⟩ := bnd h5
  obtain ⟨q, kvs, rfl, z1, z2, z3⟩ := R2.pop.look h3
  have kr : KR B.c G2 kvs _ := ⟨z2, z3⟩
  obtain ⟨u, e3, ru⟩ := kr.val.1 _ e2
  exact ⟨q, kvs, k, u, rfl, z1, knD_rp R2.top e1, e3, kk u H2 G2 (R2.pop.pop.dat ru)⟩
theorem nin_wk {neg : Bool} : ∀ σ H Q, tD B (mIn neg oNHas fa f) σ H Q → tNIn neg B.c (tD B fa) (tM B f) σ H Q := fun σ H Q ⟨hv, ρ, G, R, d, ρ', hf, kk⟩ => by
  obtain ⟨⟨y, ρ1⟩, h1, hf⟩ := bnd hf
  obtain ⟨⟨x, ρ2⟩, h2, hf⟩ := bnd hf
  obtain ⟨dx, h3, hf⟩ := bnd hf
  obtain ⟨b, h5, hf⟩ := mpp hf
  cases hf
  refine ⟨hv, ρ, G, R, y, ρ1, h1, fun w H1 G1 R1 => ⟨_, ρ1, G1, R1, x, ρ2, h2, fun v H2 G2 R2 => ?_⟩⟩
  cases dx <;> simp only [oNHas, reduceCtorEq] at h5
  obtain ⟨k, e1, e2⟩ := mpp h5
  obtain ⟨q, kvs, rfl, z1, z2, z3⟩ := R2.look h3
  have kr : KR B.c G2 kvs _ := ⟨z2, z3⟩
  refine ⟨q, kvs, k, rfl, z1, knD_rp R2.pop.top e1, ?_⟩
  rw [kr.isSome, e2]
  exact kk _ H2 G2 (R2.pop.pop.dat (.bl _))
theorem pd_dinN (hp : PW X B) (hi : PD X B i fa) (ho : PM X B o f) (hm : behindInMarks .In o = false := by rfl) : PD X B (.Compare i [.In] [o] pos) (mIn false oNHas fa f) := (pe_cmp (pc_nin hp hi ho) hm).wk nin_wk
theorem pd_dninN (hp : PW X B) (hi : PD X B i fa) (ho : PM X B o f) (hm : behindInMarks .NotIn o = false := by rfl) : PD X B (.Compare i [.NotIn] [o] pos) (mIn true oNHas fa f) := (pe_cmp (pc_nnin hp hi ho) hm).wk nin_wk
theorem pb_dinN (hp : PW X B) (hi : PD X B i fa) (ho : PM X B o f) (hm : behindInMarks .In o = false := by rfl) : PB X B (.Compare i [.In] [o] pos) (asB (mIn false oNHas fa f)) := tt_of nin_wk (pt_cmp (pc_nin hp hi ho) hm)
theorem pb_dninN (hp : PW X B) (hi : PD X B i fa) (ho : PM X B o f) (hm : behindInMarks .NotIn o = false := by rfl) : PB X B (.Compare i [.NotIn] [o] pos) (asB (mIn true oNHas fa f)) := tt_of nin_wk (pt_cmp (pc_nnin hp hi ho) hm)
def oNPut (k v : D) : D → Option D
  | .dn es => (knD k).bind fun k => if decide (es.length < sizeLine) = true then some (.dn (putD es k v)) else none
  | _ => none
def mNPut (f : ME) (fb fc : MD) : MS := fun ρ => (fc ρ).bind fun v => (f v.2).bind fun p => (fb p.2).bind fun q => (chg p.1 q.2 (oNPut q.1 v.1)).map fun r => (.nx, r)
theorem ps_dputN (hp : PW X B) (ho : PM X B o f) (hi : PD X B i fb) (hv : PD X B value fc) (hs : swapsWith value (some (.Subscript o i pos')) pos.line X.env = pure false := by rfl) :
    PSM X B (.Assign [.Subscript o i pos'] value pos) (mNPut f fb fc) := (ps_nput hp ho hi hv hs).wk fun D σ H ⟨hv, ρ, G, n, R, fl, ρ', hf, k⟩ => by
  obtain ⟨⟨dv, ρ1⟩, h1, hf⟩ := bnd hf
  obtain ⟨⟨x, ρ2⟩, h2, hf⟩ := bnd hf
  obtain ⟨⟨y, ρ3⟩, h3, hf⟩ := bnd hf
  obtain ⟨ρ4, h4, hf⟩ := mpp hf
  simp only [Prod.mk.injEq] at hf
  obtain ⟨rfl, rfl⟩ := hf
  refine ⟨hv, ρ, G, R, dv, ρ1, h1, fun u H1 G1 R1 => ⟨_, ρ1, G1, R1, x, ρ2, h2, fun v H2 G2 R2 => ⟨_, ρ2, G2, R2, y, ρ3, h3, fun w H3 G3 R3 => ?_⟩⟩⟩
  have ry := R3.top
  have ru := R3.pop.pop.top
  obtain ⟨a, ho', x0, x', rfl, e3, c, e4, kk⟩ := R3.pop.chg h4
  cases x0 <;> simp only [oNPut, reduceCtorEq] at e4
  obtain ⟨key, e5, e4⟩ := bnd e4
  split at e4
  case isFalse => cases e4
  rename_i hz
  cases e4
  obtain ⟨kvs, rfl, c1, c2⟩ := c
  have kr : KR B.c G3 kvs _ := ⟨c1, c2⟩
  have kr2 := kr.put (k := key) ru
  refine ⟨a, kvs, key, rfl, e3, knD_rp ry e5, by rw [kr.len]; exact of_decide_eq_true hz, ?_⟩
  exact k _ _ _ (kk _ ⟨_, rfl, kr2.ks, kr2.vs⟩).pop.pop
/-! ### displays of one pair -/
/-- what the top of the hands holds of its own is changed -/
theorem Rep.chgTop {hv : Hv} {ρ : Rho} {σ : Sg} {H G : Hp} {D0 : Addr} {d d' : D} {ho' : HO} (R : Rep B ((.ref D0, .new d) :: hv) ρ σ H G) (c' : Cont B.c G D0 ho' d') : Rep B ((.ref D0, .new d') :: hv) ρ σ (upd H D0 ho') G := by
  obtain ⟨t, h1, h2, ⟨a, ho, e, e1, c, e2, e3⟩, h5⟩ := R.ex
  cases e
  have eG := (h1 D0 (by rw [e2]; simp)).1
  have kH : ∀ b o, b ≠ D0 → H b = some o → upd H D0 ho' b = some o := fun b o n e => by rw [upd_ne n]; exact e
  have nsl : ∀ (b : Addr) (j : Nat), t b = some (.sl j) → b ≠ D0 := fun b j e z => by rw [z, e2] at e; cases e
  refine ⟨⟨t, fun b hb => ⟨(h1 b hb).1, ?_⟩, fun j s' hs => ?_, ⟨D0, _, rfl, upd_same, c', e2, e3⟩, ?_⟩, fun b o q => ?_, R.g0, R.nw, fun b o q nio => ?_, fun b q => ?_, fun b q => ?_, R.len⟩
  · by_cases z : b = D0
    · rw [z, upd_same]; exact ⟨by simp, c'.notup⟩
    · rw [upd_ne z]; exact (h1 b hb).2
  · have h := h2 j s' hs
    cases s' with
    | un => trivial
    | dat _ => exact h
    | own _ => obtain ⟨b, hb, f, f1, c', f2, f3⟩ := h; exact ⟨b, hb, f, kH _ _ (nsl _ _ f2) f1, c', f2, f3⟩
    | io _ => obtain ⟨b, hb, f, f1, c', f2, f3⟩ := h; exact ⟨b, hb, f, kH _ _ (nsl _ _ f2) f1, c', f2, f3⟩
    | lck _ => obtain ⟨b, hb, o, f, f1, c', f2, f3⟩ := h; exact ⟨b, hb, o, f, kH _ _ (nsl _ _ f2) f1, c', f2, f3⟩
  · have go : ∀ r : Hv, r.length ≤ hv.length → HvsOk B t G H σ r → HvsOk B t G (upd H D0 ho') σ r := by
      intro r
      induction r with
      | nil => intro _ _; trivial
      | cons x r ih =>
        intro hl hr
        obtain ⟨v', rv⟩ := x
        refine ⟨?_, ih (Nat.le_of_succ_le hl) hr.2⟩
        have h := hr.1
        cases rv with
        | dat _ => exact h
        | bor _ => exact h
        | new _ =>
          obtain ⟨b, hb, f, f1, c', f2, f3⟩ := h
          have n : b ≠ D0 := fun z => by
            rw [z, e2] at f2
            have q : hv.length = r.length := by injection f2 with f2; injection f2
            have hl' : r.length + 1 ≤ hv.length := hl
            omega
          exact ⟨b, hb, f, kH _ _ n f1, c', f2, f3⟩
        | lk _ => obtain ⟨b, hb, o, i, f, f1, c', f2, f3⟩ := h; exact ⟨b, hb, o, i, f, kH _ _ (nsl _ _ f2) f1, c', f2, f3⟩
    exact go hv (Nat.le_refl _) h5
  · rw [upd_ne (fun z => by rw [z, eG] at q; cases q)]; exact R.sub _ _ q
  · rw [upd_ne (fun z => by rw [z, e3] at q; cases q)]; exact R.hs b o q nio
  · by_cases z : b = D0
    · rw [z, upd_same]; simp
    · rw [upd_ne z]; exact R.ioH b q
  · by_cases z : b = D0
    · rw [z, upd_same]; exact c'.notup
    · rw [upd_ne z]; exact R.ioT b q
theorem Rep.topNew {hv : Hv} {ρ : Rho} {σ : Sg} {H G : Hp} {v : V} {d : D} (R : Rep B ((v, .new d) :: hv) ρ σ H G) : ∃ a ho, v = .ref a ∧ H a = some ho ∧ Cont B.c G a ho d := by
  obtain ⟨t, h1, h2, ⟨a, ho, e, e1, c, e2, e3⟩, h5⟩ := R.ex
  exact ⟨a, ho, e, e1, c⟩
def tN1 (c : Cn) (tk tv : TE) : TE := fun σ H Q => ∀ q, H q = none → tk σ (upd H q (dnO c q [])) fun x H1 => tv σ H1 fun y H2 => ∃ k : Option Key, H2 q = some (dnO c q []) ∧ x = nkV k ∧ Q (.ref q) (upd H2 q (dnO c q [(k, y)]))
theorem pe_n1 {tk tv : TE} {k v : Expr} (hp : PW X B) (hk : PE X k tk) (hv : PE X v tv) : PE X (.Dict [some k] [v] pos) (tN1 B.c tk tv) := by
  refine ⟨fun pins s σ H Q J q => ?_⟩
  have hn := J.hok.fresh (Nat.le_refl s.heap.objs.size)
  have J1 := J.laid (a := s.heap.objs.size) (o := dnO B.c s.heap.objs.size []) (h' := s.heap.push { cls := .type "dict", data := .dict #[] }) (t' := s.toks) (fun _ _ q => Heap.get?_push_of_some _ q) (Nat.le_refl _)
    (by rw [hp.P, hp.w]; exact dn_new (Nat.zero_le _) (beq_eq_false_iff_ne.mpr (Ne.symm (Nat.ne_of_lt J.big))) .nil (Heap.DictOf.new s.heap))
  refine wpAny_Dict_walk (knd := noneKind X.prog X.w) rfl rfl (by simp) (by simp) ?_
  refine pairTrees_cons_walk (thn (hk.run pins _ σ _ _ J1 (q _ hn)) fun u s2 ⟨x, H2, J2, rx, q2⟩ => thn (hv.run pins s2 σ H2 _ J2 q2) fun w2 s3 ⟨y, H3, J3, ry, kk, e, ex, q3⟩ => pairTrees_nil_walk ?_)
  subst ex
  have hok := J3.hok
  rw [hp.P, hp.w] at hok
  obtain ⟨z, hd, vs0, r0, dd⟩ := dn_rd hok (Rd.of e)
  cases r0
  refine ⟨[(kk, w2)], ⟨nkV_is rx, rfl, True.intro⟩, by rw [hp.P, hp.w]; exact dd, fun h' dn' hs => ⟨.ref s.heap.objs.size, _, ?_, rfl, q3⟩⟩
  rw [hp.P, hp.w] at dn'
  have he : ∃ q0, h'.get? s.heap.objs.size = some q0 := let ⟨q0, _, _, hq, _⟩ := dn'; ⟨q0, hq⟩
  exact d_write J3 (by rw [e]; exact True.intro) hs he (by rw [hp.P, hp.w]; exact dn_new (by rw [sizeLine_eq]; show 1 ≤ _; omega) hd (.cons ⟨rfl, ry⟩ .nil) dn')
def tT1 (tk tv : TE) : TE := fun σ H Q => ∀ q, H q = none → tk σ (upd H q (.dT [])) fun x H1 => tv σ H1 fun y H2 => ∃ (k : List Key) (b : Addr), H2 q = some (.dT []) ∧ x = .ref b ∧ H2 b = some (.tup (k.map kV)) ∧ Q (.ref q) (upd H2 q (.dT [(k, y)]))
theorem pe_t1 {tk tv : TE} {k v : Expr} (hu : X.A.units + 1 < cLine) (hk : PE X k tk) (hv : PE X v tv) : PE X (.Dict [some k] [v] pos) (tT1 tk tv) := by
  refine ⟨fun pins s σ H Q J q => ?_⟩
  have hn := J.hok.fresh (Nat.le_refl s.heap.objs.size)
  have J1 := J.laid (a := s.heap.objs.size) (o := .dT []) (h' := s.heap.push { cls := .type "dict", data := .dict #[] }) (t' := s.toks) (fun _ _ q => Heap.get?_push_of_some _ q) (Nat.le_refl _) (dt_empty s.heap J.big)
  rw [arm_eval_Dict, zip_pairTrees [some k] [v] X.env pos rfl rfl, dictDisplay_pairs (pairTrees [some k] [v] X.env pos) (by simp [pairTrees]) (by simp [pairTrees])]
  refine wpAny_bind (wpAny_standAt (wpAny_bind (wpAny_subDictH (knd := tupleKind (mixKind X.prog X.w)) (show X.A.units < cLine by omega) (by simp [pairTrees]) ?_)))
  refine pairTrees_cons_walk (thn (hk.run pins _ σ _ _ J1 (q _ hn)) fun u s2 ⟨x, H2, J2, rx, q2⟩ => thn (hv.run pins s2 σ H2 _ J2 q2) fun w2 s3 ⟨y, H3, J3, ry, ks, b, e, ex, eb, q3⟩ => pairTrees_nil_walk ?_)
  subst ex
  obtain rfl : u = Value.ref b := rx
  obtain ⟨z, hd, xs0, r0, dd⟩ := dt_of J3.hok e
  cases r0
  refine ⟨[(ks, b, w2)], ⟨rfl, rfl, key_of J3.hok eb, True.intro⟩, dd, fun h' tk dk' hs => wpAny_pure ⟨.ref s.heap.objs.size, _, ?_, rfl, q3⟩⟩
  obtain ⟨ob, es, ep, hq, g2, g3, g4, _, g5⟩ := dk'
  refine d_write J3 (by rw [e]; exact True.intro) hs ⟨ob, hq⟩ ⟨by rw [sizeLine_eq]; show 1 ≤ _; omega, hd, [(ks, b, w2)], .cons ⟨rfl, ?_, ry⟩ .nil, ob, es, ep, hq, g2, g3, g4, g5⟩
  rw [upd_ne (ne_of eb e (fun z => nomatch z))]
  exact eb
/-- {k: v} -/
def dpN (k v : D) : Option D := (knD k).map fun k => .dn [(k, v)]
def dpT (k v : D) : Option D := (ktD k).map fun k => .dt [(k, v)]
def mDp1 (o : D → D → Option D) (fk fv : MD) : ME := fun ρ => (fk ρ).bind fun p => (fv p.2).bind fun q => (o p.1 q.1).map fun d => (.new d, q.2)
theorem pm_dp1n {k v : Expr} (hp : PW X B) (hk : PD X B k fa) (hv : PD X B v fb) : PM X B (.Dict [some k] [v] pos) (mDp1 dpN fa fb) := (pe_n1 hp hk hv).wk fun σ H Q ⟨hv, ρ, G, R, rv, ρ', hf, kk⟩ q hq => by
  obtain ⟨⟨x, ρ1⟩, h1, hf⟩ := bnd hf
  obtain ⟨⟨y, ρ2⟩, h2, hf⟩ := bnd hf
  obtain ⟨d, h3, hf⟩ := mpp hf
  simp only [Prod.mk.injEq] at hf
  obtain ⟨rfl, rfl⟩ := hf
  refine ⟨_, ρ, G, R.new hq (ho := dnO B.c q []) (d := .dn []) ⟨[], rfl, rfl, .nil⟩, x, ρ1, h1, fun v H1 G1 R1 => ⟨_, ρ1, G1, R1, y, ρ2, h2, fun w H2 G2 R2 => ?_⟩⟩
  obtain ⟨k, e1, e2⟩ := mpp h3
  subst e2
  obtain ⟨a, ho, e3, e4, kvs, e5, e6, e7⟩ := R2.pop.pop.topNew
  cases e3
  cases kvs with
  | cons _ _ => cases e6
  | nil => exact ⟨k, by rw [e4, e5], knD_rp R2.pop.top e1, kk _ _ G2 (R2.pop.pop.chgTop (d' := .dn [(k, y)]) ⟨[(k, w)], rfl, rfl, .cons R2.top .nil⟩)⟩
theorem pm_dp1t {k v : Expr} (hu : X.A.units + 1 < cLine) (hk : PD X B k fa) (hv : PD X B v fb) : PM X B (.Dict [some k] [v] pos) (mDp1 dpT fa fb) := (pe_t1 hu hk hv).wk fun σ H Q ⟨hv, ρ, G, R, rv, ρ', hf, kk⟩ q hq => by
  obtain ⟨⟨x, ρ1⟩, h1, hf⟩ := bnd hf
  obtain ⟨⟨y, ρ2⟩, h2, hf⟩ := bnd hf
  obtain ⟨d, h3, hf⟩ := mpp hf
  simp only [Prod.mk.injEq] at hf
  obtain ⟨rfl, rfl⟩ := hf
  refine ⟨_, ρ, G, R.new hq (ho := .dT []) (d := .dt []) ⟨[], rfl, rfl, .nil⟩, x, ρ1, h1, fun v H1 G1 R1 => ⟨_, ρ1, G1, R1, y, ρ2, h2, fun w H2 G2 R2 => ?_⟩⟩
  obtain ⟨k, e1, e2⟩ := mpp h3
  subst e2
  obtain ⟨a, ho, e3, e4, kvs, e5, e6, e7⟩ := R2.pop.pop.topNew
  cases e3
  have rk := R2.pop.top
  cases x <;> simp only [ktD, reduceCtorEq] at e1
  cases rk with
  | tup hG rs =>
    have ek := kDs_rps rs e1
    subst ek
    cases kvs with
    | cons _ _ => cases e6
    | nil => exact ⟨k, _, by rw [e4, e5], rfl, R2.sub _ _ hG, kk _ _ G2 (R2.pop.pop.chgTop (d' := .dt [(k, y)]) ⟨[(k, w)], rfl, rfl, .cons R2.top .nil⟩)⟩
end
end M
/-! M12: dict comprehensions over dicts of any of the three kinds. -/
namespace M
open PySem PySem.Spec PyProof.Rows L2
/-- a dict at q of a written kind, and what d[y] = z makes of the heap -/
structure DKind (P : Program) (w : World) where
  o0 : Addr → HO
  put : Hp → Addr → V → V → Hp → Prop
  new : ∀ (H : Hp) (h : Heap), sysModules < h.objs.size → ObjOk P w H (h.push { cls := .type "dict", data := .dict #[] }) h.objs.size (o0 h.objs.size)
  set : ∀ (X' : Cx) (pins : List (Addr × Obj)) (σ : L2.St) (H H' : Hp) (s : Shared) (q : Addr) (y z : V) (u r : Value) (Q : Unit → Shared → Prop) (E : Value → Shared → Prop), X'.prog = P → X'.w = w → X'.A.units + 1 < cLine →
    Inv X' pins σ H s → put H q y z H' → RelV y u → RelV z r → (∀ s', Inv X' pins σ H' s' → Q () s') → wpAny (model X'.prog X'.w) X'.A (dictSet q u r) Q E s
section
variable {X : Cx}
/-- the reading: q the new dict, W what is true ahead of each turn -/
def tDx (kd : DKind X.prog X.w) (wi : TI) (g : TG) (tt : TT) (tk tv : TE) (vs : List Nat) : TE := fun σ H Q => wi σ H fun J H1 => ∀ q, H1 q = none → ∃ W : Nat → Nat → Hp → Prop, (∃ m, W 0 m (upd H1 q (kd.o0 q))) ∧ ∀ i m H, W i m H →
  (J.stop i H ∧ Q (.ref q) H) ∨ (J.go i H ∧ ∃ Nx : Hp → Prop, (∀ H', Nx H' → ∃ m', m' < m ∧ W (i + 1) m' H') ∧ ∀ x H', J.yld i H x H' → g x (wipe σ vs) H' fun σ2 H2 => wipe σ2 vs = wipe σ vs ∧ tt σ2 H2 fun b H3 =>
    if b = true then tk σ2 H3 fun y H4 => tv σ2 H4 fun z H5 => ∃ H6, kd.put H5 q y z H6 ∧ Nx H6 else Nx H3)
variable {kx vx tg iter : Expr} {ifs : List Expr} {scope : Scope} {own : List (Str × Nat)} {pos : Pos} {wi : TI} {g : TG} {tt : TT} {tk tv : TE}
abbrev BC (X : Cx) (scope : Scope) (s : Shared) (H : Hp) (C : Addr) (cl : List (Str × Addr)) (fp : List Addr) : Cx := X.blk s H scope (compEnvC scope cl C X.env) fp
theorem dx_core {pins : List (Addr × Obj)} {s : Shared} {σ : L2.St} {H : Hp} {Q : VK} {use : Option (Value → Sem Unit)} {Qf : Value → Shared → Prop} {pos' : Pos} (kd : DKind X.prog X.w) (hu : X.A.units + 1 < cLine) (calm : X.calm = true) (nd : X.N.Nodup) (hi : PI X tg iter wi) (bo : BlkOk X.N X.env.scope scope own)
    (hg : ∀ s H C cl fp, PG (BC X scope s H C cl fp) tg g) (ht : ∀ s H C cl fp, PTs (BC X scope s H C cl fp) ifs tt) (hk : ∀ s H C cl fp, PE (BC X scope s H C cl fp) kx tk) (hv : ∀ s H C cl fp, PE (BC X scope s H C cl fp) vx tv)
    (hs : ∀ x, foldedSetIterable iter X.env x = pure x) (Iv : Inv X pins σ H s) (rd : tDx kd wi g tt tk tv (own.map (·.2)) σ H Q)
    (fin : ∀ (q C : Addr) (s' : Shared) (m : Str → Option Value) (H' : Hp), Inv X pins σ H' s' → Q (.ref q) H' → s'.heap.Ns C m → FpOk X pins H' C → compPost (model X.prog X.w) X.A X.xe use Qf (.ref q) C (.ok .next) s') :
    wpAny (model X.prog X.w) X.A (comprehension (.DictComp kx vx [⟨tg, iter, ifs, 0⟩] scope pos) scope X.env pos' newDict false (eval iter X.env) use) Qf X.xe s := by
  have fr : ∀ y ∈ scope.names, y.2 = .free → ∃ c, X.env.cells.lookup y.1 = some c := fun y hy e => (bo.free y hy e).elim (fun k => Iv.ok.has _ (.inl k)) fun k => Iv.ok.has _ (.inr k)
  refine wpAny_comprehension_free rfl hs (closure_ok fr) bo.kind (fun y hy e => (bo.uniq y hy).trans (by rw [e])) (thn (hi.run pins s σ H _ Iv rd) fun xv t1 hx => thn hx fun itv t2 hit => ?_)
  obtain ⟨it, fp, tn, J, Ha, rfl, Ia, T, sa, fa, rd⟩ := hit
  refine wpAny_newObj_type (newEnv_comp ?_)
  obtain ⟨W, ⟨m0, w0⟩, turn⟩ := rd t2.heap.objs.size (Ia.hok.fresh (Nat.le_refl _))
  -- with the dict laid
  have Ib := Ia.laid (a := t2.heap.objs.size) (o := kd.o0 t2.heap.objs.size) (h' := t2.heap.push { cls := .type "dict", data := .dict #[] }) (t' := t2.toks) (fun b o e => Heap.get?_push_of_some _ e) (Nat.le_refl _) (kd.new _ _ Ia.big)
  have below : ∀ b ∈ fp, b < t2.heap.objs.size := fun b hb => let ⟨o, e, _⟩ := T.obj _ _ sa b hb; Heap.lt_size e
  generalize ha : t2.heap.objs.size = q at Ib w0 turn below ⊢
  generalize hHb : upd Ha q (kd.o0 q) = Hb at Ib w0 ⊢
  have eHb : ∀ b ∈ fp, Hb b = none := fun b hb => by rw [← hHb, upd_ne (Nat.ne_of_lt (below b hb))]; exact (fa b hb).1
  generalize ht3 : ({ t2 with heap := t2.heap.push { cls := .type "dict", data := .dict #[] } } : Shared) = t3 at Ib ⊢
  have eh3 : t3.heap = t2.heap.push { cls := .type "dict", data := .dict #[] } := by rw [← ht3]
  have fb : ∀ b ∈ fp, FpOk X pins Hb b ∧ b < t3.heap.objs.size := fun b hb => ⟨⟨eHb b hb, (fa b hb).2⟩, by rw [eh3, Heap.size_push, ha]; exact Nat.lt_succ_of_lt (below b hb)⟩
  have Ic := block_start Ib bo nd fb
  have sc : tn 0 (pushCells (t3.heap.push { cls := .type "dict", data := .dict #[] }) scope.names) := T.keep _ _ _ sa fun b _ o e => pushCells_keeps _ _ _ _ (Heap.get?_push_of_some _ (by rw [eh3]; exact Heap.get?_push_of_some _ e))
  generalize hcl : cellsFrom (t3.heap.objs.size + 1) scope.names (cloFrom X.env.cells scope.names []) = cl at Ic
  have jg := hg t3 Hb t3.heap.objs.size cl fp
  have jt := ht t3 Hb t3.heap.objs.size cl fp
  have jk := hk t3 Hb t3.heap.objs.size cl fp
  have jv := hv t3 Hb t3.heap.objs.size cl fp
  have ecl : (compEnvC scope cl t3.heap.objs.size X.env).locals = t3.heap.objs.size := rfl
  have own' : ∀ {σ' : L2.St} {H' : Hp} {s' : Shared}, Inv (BC X scope t3 Hb t3.heap.objs.size cl fp) [] σ' H' s' → (∀ b ∈ fp, H' b = none) → ∀ b ∈ fp, FpOk (BC X scope t3 Hb t3.heap.objs.size cl fp) [] H' b := fun {σ' H' s'} K hn b hb =>
    have z := K.ok.exf b hb
    ⟨hn b hb, z.1, K.ok.exfs b hb, .inl hb, fun x c e => z.2 x c e, fun p (hp : p ∈ ([] ++ [] : List (Addr × Obj))) => (by cases hp)⟩
  have loop : codeAny (model X.prog X.w) X.A (.compLoop (.DictComp kx vx [⟨tg, iter, ifs, 0⟩] scope pos) 0 (.ref it) (.ref q) (compEnvC scope cl t3.heap.objs.size X.env))
      (compPost (model X.prog X.w) X.A X.xe use Qf (.ref q) t3.heap.objs.size) { t3 with heap := pushCells (t3.heap.push { cls := .type "dict", data := .dict #[] }) scope.names } := by
    refine compLoop_anyD (fun n u => ∃ i Hi, Inv (BC X scope t3 Hb t3.heap.objs.size cl fp) [] (wipe σ (own.map (·.2))) Hi u ∧ tn i u.heap ∧ (∀ b ∈ fp, Hi b = none) ∧ W i n Hi) (fun n t5 ⟨i, Hi, Ii, si, ni, wi⟩ => ?_) m0 ⟨0, Hb, Ic, sc, eHb, w0⟩
    rcases turn i n Hi wi with ⟨stop, done⟩ | ⟨go, Nx, next, step⟩
    · -- no more: the block is left
      refine thnF (T.done (BC X scope t3 Hb t3.heap.objs.size cl fp) rfl rfl rfl calm i [] t5 _ Hi (fun _ _ => False) Ii (own' Ii ni) si stop) fun r t6 ⟨er, Ie⟩ => ?_
      subst er
      have back : Inv X pins σ Hi t6 := Ib.call' (ch := fp) Ie.os Ie.base Ie.hok Ie.bare fun b hb => let z := (fb b hb).1.2; ⟨z.2.2.1, z.1, z.2.2.2.1, z.2.2.2.2⟩
      obtain ⟨m, hm, _⟩ := Ie.loc
      have hC : Hi t3.heap.objs.size = none := Ie.free
      exact fin q _ t6 m Hi back done hm (Ib.fpOk (Nat.le_refl _) hC)
    · refine thnF (T.item (BC X scope t3 Hb t3.heap.objs.size cl fp) rfl rfl rfl calm i [] t5 _ Hi (fun _ _ => False) Ii (own' Ii ni) si go) fun r t6 ⟨u, er, h6⟩ => ?_
      subst er
      refine thnF h6 fun _ t7 ⟨x, H7, I7, r7, y7, s7, n7⟩ => ?_
      refine thnF (jg.run _ t7 _ H7 x u _ (I7.pinned (own' I7 n7) (T.obj _ _ s7)) r7 (step x H7 y7)) fun _ t8 ⟨σ8, H8, I8, w8, q8⟩ => ?_
      refine thnF (jt.run _ t8 σ8 H8 _ I8 q8) fun c t9 ⟨H9, I9, q9⟩ => ?_
      have again : ∀ {u : Shared} {Hu : Hp}, Inv (BC X scope t3 Hb t3.heap.objs.size cl fp) ([] ++ pinsAt fp t7.heap) σ8 Hu u → Nx Hu → ∃ m, m < n ∧ ∃ i Hi, Inv (BC X scope t3 Hb t3.heap.objs.size cl fp) [] (wipe σ (own.map (·.2))) Hi u ∧ tn i u.heap ∧ (∀ b ∈ fp, Hi b = none) ∧ W i m Hi := fun {u Hu} Iu nx => by
        obtain ⟨m', lt, w'⟩ := next Hu nx
        have there : ∀ b ∈ fp, ∀ o, t7.heap.get? b = some o → u.heap.get? b = some o ∧ Hu b = none := fun b hb o e => by
          have z := Iu.pin (b, o) (List.mem_append_right _ (List.mem_append_right _ (mem_pinsAt hb e)))
          exact ⟨z.1, z.2.1⟩
        refine ⟨m', lt, i + 1, Hu, Iu.unpinned.weak (by rw [← w8, wipe_length]) (fun j v e => (wipe_some (w8 ▸ e)).1), T.keep _ _ _ s7 fun b hb o e => (there b hb o e).1, fun b hb => ?_, w'⟩
        obtain ⟨o, e, _⟩ := T.obj _ _ s7 b hb
        exact (there b hb o e).2
      cases c with
      | false => exact again I9 q9
      | true =>
        refine thnF (jk.run _ t9 σ8 H9 _ I9 q9) fun yv t10 ⟨y, H10, I10, ry, q10⟩ => ?_
        refine thnF (jv.run _ t10 σ8 H10 _ I10 q10) fun zv t11 ⟨z, H11, I11, rz, H12, pt, nx⟩ => ?_
        exact kd.set (BC X scope t3 Hb t3.heap.objs.size cl fp) _ σ8 H11 H12 t11 q y z yv zv _ _ rfl rfl hu I11 pt ry rz fun t12 I12 => again I12 nx
  exact codeAny_compStart_dict loop (T.self X.A 0 _ _ _ sc loop)
/-- as a value -/
theorem pe_dx (kd : DKind X.prog X.w) (hu : X.A.units + 1 < cLine) (calm : X.calm = true) (nd : X.N.Nodup) (hi : PI X tg iter wi) (bo : BlkOk X.N X.env.scope scope own)
    (hg : ∀ s H C cl fp, PG (BC X scope s H C cl fp) tg g) (ht : ∀ s H C cl fp, PTs (BC X scope s H C cl fp) ifs tt) (hk : ∀ s H C cl fp, PE (BC X scope s H C cl fp) kx tk) (hv : ∀ s H C cl fp, PE (BC X scope s H C cl fp) vx tv)
    (hs : ∀ x, foldedSetIterable iter X.env x = pure x := by intro _; rfl) : PE X (.DictComp kx vx [⟨tg, iter, ifs, 0⟩] scope pos) (tDx kd wi g tt tk tv (own.map (·.2))) := by
  refine ⟨fun pins s σ H Q Iv rd => ?_⟩
  rw [arm_eval_DictComp]
  refine dx_core kd hu calm nd hi bo hg ht hk hv hs Iv rd fun q C s' m H' K d hm f => ⟨m, hm, fun h'' sb => ?_⟩
  obtain ⟨f0, f1, f2, f3, f4, f5⟩ := f
  exact ⟨.ref q, H', K.turned (t' := s'.toks) (fun b o hb e => (sb.2 b hb).trans e) f0 f1 f3 f4 f5, rfl, d⟩
/-- name = {..} on one line, the name a local -/
theorem ps_setDx {i : Nat} {y : Str} {py spos : Pos} (kd : DKind X.prog X.w) (hu : X.A.units + 1 < cLine) (calm : X.calm = true) (nd : X.N.Nodup) (hy : X.N[i]? = some y) (hyl : X.env.scope.names.lookup y = some .local)
    (hsw : swapsWith (.DictComp kx vx [⟨tg, iter, ifs, 0⟩] scope pos) (some (.Name y py)) spos.line X.env = pure true) (hi : PI X tg iter wi) (bo : BlkOk X.N X.env.scope scope own)
    (hg : ∀ s H C cl fp, PG (BC X scope s H C cl fp) tg g) (ht : ∀ s H C cl fp, PTs (BC X scope s H C cl fp) ifs tt) (hk : ∀ s H C cl fp, PE (BC X scope s H C cl fp) kx tk) (hv : ∀ s H C cl fp, PE (BC X scope s H C cl fp) vx tv)
    (hs : ∀ x, foldedSetIterable iter X.env x = pure x := by intro _; rfl) : PS X (.Assign [.Name y py] (.DictComp kx vx [⟨tg, iter, ifs, 0⟩] scope pos) spos) (tAsg (tDx kd wi g tt tk tv (own.map (·.2))) (gName i)) := by
  refine ⟨fun pins s σ H D Iv rd => ?_⟩
  rw [exec_Assign_Name_used _ _ _ _ hsw]
  refine wpAny_bind (wpAny_standAt (wpAny_bind ?_))
  show wpAny _ X.A (do let _ ← comprehension (.DictComp kx vx [⟨tg, iter, ifs, 0⟩] scope pos) scope X.env (firstIterPos [⟨tg, iter, ifs, 0⟩] pos) newDict false (eval iter X.env) (some (assign (.Name y py) X.env))) _ _ s
  have rd : tDx kd wi g tt tk tv (own.map (·.2)) σ H (fun x H1 => gName i x σ H1 D.nx) := rd
  refine wpAny_bind (thn (dx_core (Qf := fun _ s' => SP X pins D .next s') kd hu calm nd hi bo hg ht hk hv hs Iv rd fun q C s' m H' K d hm f => ?_) fun _ s' hq => wpAny_pure (wpAny_pure hq))
  show wpAny _ _ (assign (.Name y py) X.env (.ref q)) _ _ _
  refine wpAny_assign_Name (store_ok2 (v := V.ref q) K nd hy (.inl hyl) rfl (fun s2 K2 ⟨a, sb, ha⟩ => ?_) (.inr hyl))
  obtain ⟨f0, f1, f2, f3, f4, f5⟩ := f
  have ne : C ≠ a := ha.elim (fun z => by rw [z]; exact f1) fun z e => f4 y a z e.symm
  exact ⟨m, hm.sameBut sb ne, fun h3 sb3 => ⟨_, H', K2.turned (t' := s2.toks) (fun b o hb e => (sb3.2 b hb).trans e) f0 f1 f3 f4 f5, d⟩⟩
theorem swx_true {gs : List Comprehension} {py : Pos} {y : Str} {l : Nat} {env : Env} (hk : env.scope.kind = .function) (hy : env.scope.names.lookup y = some .local) (hl : (py.line == pos.line) = true)
    (ha : (scope.names.any fun (n, k) => n == y && (k == .local || k == .cell)) = false) : swapsWith (.DictComp kx vx gs scope pos) (some (.Name y py)) l env = pure true := by
  have k1 : env.kindOf y = some .local := hy
  have k2 : env.blockKind = .function := by unfold Env.blockKind; rw [hk]; rfl
  unfold swapsWith
  simp only [k2, k1, ha, Expr.pos, hl]
  rfl
end
end M
/-! M13: dict comprehensions, mirrors. -/
namespace M
open PySem PySem.Spec PyProof.Rows L2
/-- keys ints, texts -/
def kdK (P : Program) (w : World) : DKind P w where
  o0 := fun _ => .dK []
  put := fun H q y z H' => ∃ kvs k, y = kV k ∧ H q = some (.dK kvs) ∧ kvs.length < sizeLine ∧ H' = upd H q (.dK (putK kvs k z))
  new := fun H h hb => dk_empty h hb
  set := by
    rintro X' pins σ H H' s q y z u r Q E rfl rfl hu Iv ⟨kvs, k, rfl, hD, hz, rfl⟩ ry rz h
    exact d_dictSet Iv hD hz ry rz h
/-- keys tuples -/
def kdT (P : Program) (w : World) : DKind P w where
  o0 := fun _ => .dT []
  put := fun H q y z H' => ∃ kvs k b, y = .ref b ∧ H b = some (.tup (List.map kV k)) ∧ H q = some (.dT kvs) ∧ kvs.length < sizeLine ∧ H' = upd H q (.dT (putK kvs k z))
  new := fun H h hb => dt_empty h hb
  set := by
    rintro X' pins σ H H' s q y z u r Q E rfl rfl hu Iv ⟨kvs, k, b, rfl, eb, e, l, rfl⟩ ry rz h
    cases (show u = Value.ref b from ry)
    obtain ⟨sz, hd, xs, rel, dd⟩ := dt_of Iv.hok e
    have hz : xs.length ≤ sizeLine := by rw [← Paired.length rel]; exact sz
    have hl : (putK kvs k z).length ≤ sizeLine := by have := length_putK kvs k z; omega
    refine wpAny_dictSet_heap (hsz := hz) (knd := tupleKind (mixKind X'.prog X'.w)) (show X'.A.units < cLine by omega) (key_of Iv.hok eb) dd fun h' dd' hs => h _ ?_
    obtain ⟨ob, es, ep, hq, h2, h3, h4, _, h5⟩ := dd'
    refine d_write Iv (by rw [e]; exact True.intro) hs ⟨ob, hq⟩ ⟨hl, hd, _, (rel.put k eb rz).keeps fun c ys ec => ?_, ob, es, ep, hq, h2, h3, h4, h5⟩
    rw [upd_ne (ne_of ec e (fun z => nomatch z))]
    exact ec
section
variable {X : Cx} {B : Bs} {kx vx tg iter : Expr} {ifs : List Expr} {scope : Scope} {own : List (Str × Nat)} {pos : Pos} {fi : MI} {sg : MG} {tf : MB} {fk fv : MD} {is : List Nat}
def mDcL (o : D → D → D → Option D) (s : MG) (t : MB) (fk fv : MD) (vs : List Nat) : List D → D → Rho → Option (D × Rho)
  | [], acc, ρ => some (acc, ρ)
  | d :: ds, acc, ρ => (s d ρ).bind fun r => (t r).bind fun p => if p.1 = true then (fk p.2).bind fun y => (fv y.2).bind fun z => (o y.1 z.1 acc).bind fun acc' => mDcL o s t fk fv vs ds acc' (wipeR z.2 vs) else mDcL o s t fk fv vs ds acc (wipeR p.2 vs)
def mDc (e0 : D) (o : D → D → D → Option D) (fi : MI) (s : MG) (t : MB) (fk fv : MD) (vs : List Nat) : ME := fun ρ => (fi ρ).bind fun p => (mDcL o s t fk fv vs p.1 e0 (wipeR p.2 vs)).map fun q => (.new q.1, q.2)
/-- what a written kind of dict must show -/
structure KdOk (c : Cn) {P : Program} {w : World} (kd : DKind P w) (e0 : D) (o : D → D → D → Option D) : Prop where
  e0 : ∀ (G : Hp) (q : Addr), Cont c G q (kd.o0 q) e0
  put : ∀ (G H : Hp) (q : Addr) (ho : HO) (d dy dz d' : D) (y z : V), H q = some ho → Same G H → Cont c G q ho d → Rp c G y dy → Rp c G z dz → o dy dz d = some d' → ∃ ho', kd.put H q y z (upd H q ho') ∧ Cont c G q ho' d'
def oPutK (k v : D) : D → Option D
  | .dk es => (kD k).bind fun k => if decide (es.length < sizeLine) = true then some (.dk (putD es k v)) else none
  | _ => none
def oPutT (k v : D) : D → Option D
  | .dt es => (ktD k).bind fun k => if decide (es.length < sizeLine) = true then some (.dt (putD es k v)) else none
  | _ => none
theorem kdK_ok {c : Cn} {P : Program} {w : World} : KdOk c (kdK P w) (.dk []) oPutK where
  e0 := fun G q => ⟨[], rfl, rfl, .nil⟩
  put := by
    intro G H q ho d dy dz d' y z e s cc ry rz h
    cases d <;> simp only [oPutK, reduceCtorEq] at h
    obtain ⟨k, e1, h⟩ := bnd h
    split at h
    case isFalse => cases h
    rename_i hz
    cases h
    obtain ⟨kvs, rfl, c1, c2⟩ := cc
    have kr : KR c G kvs _ := ⟨c1, c2⟩
    have kr2 := kr.put (k := k) rz
    exact ⟨_, ⟨kvs, k, kD_rp ry e1, e, by rw [kr.len]; exact of_decide_eq_true hz, rfl⟩, ⟨_, rfl, kr2.ks, kr2.vs⟩⟩
theorem kdT_ok {c : Cn} {P : Program} {w : World} : KdOk c (kdT P w) (.dt []) oPutT where
  e0 := fun G q => ⟨[], rfl, rfl, .nil⟩
  put := by
    intro G H q ho d dy dz d' y z e s cc ry rz h
    cases d <;> simp only [oPutT, reduceCtorEq] at h
    obtain ⟨k, e1, h⟩ := bnd h
    split at h
    case isFalse => cases h
    rename_i hz
    cases h
    obtain ⟨kvs, rfl, c1, c2⟩ := cc
    have kr : KR c G kvs _ := ⟨c1, c2⟩
    have kr2 := kr.put (k := k) rz
    cases ry <;> simp only [ktD, reduceCtorEq] at e1
    rename_i b xs ds hb rs
    have ey := kDs_rps rs e1
    subst ey
    exact ⟨_, ⟨kvs, k, b, rfl, s _ _ hb, e, by rw [kr.len]; exact of_decide_eq_true hz, rfl⟩, ⟨_, rfl, kr2.ks, kr2.vs⟩⟩
theorem dx_wk {kd : DKind X.prog X.w} {e0 : D} {o : D → D → D → Option D} (ko : KdOk B.c kd e0 o) {vs : List Nat} (hvs : ∀ i ∈ is, i ∈ vs) : ∀ σ H Q, tM B (mDc e0 o fi sg tf fk fv vs) σ H Q → tDx kd (tI B fi) (gM B is sg) (tT B tf) (tD B fk) (tD B fv) vs σ H Q := fun σ H Q ⟨hv, ρ, G, R, rv, ρ', hf, kk⟩ => by
  obtain ⟨⟨ds, ρ1⟩, e1, hf⟩ := bnd hf
  obtain ⟨⟨accF, ρ2⟩, e2, hf⟩ := mpp hf
  cases hf
  refine ⟨hv, ρ, G, R, ds, ρ1, e1, fun J H1 G1 hx jo nx R1 => fun D0 hD => ?_⟩
  obtain ⟨R2, bo⟩ := R1.toNb
  have nb : NB (nbs (hx :: hv)) := nbs_nb
  have R3 := (R2.wiped (vs := vs) nb rfl).new (ho := kd.o0 D0) (d := e0) hD (ko.e0 _ _)
  refine ⟨fun i m H => m = ds.length - i ∧ i ≤ ds.length ∧ ∃ ρi acc G, Rep B ((.ref D0, .new acc) :: nbs (hx :: hv)) ρi (wipe σ vs) H G ∧ (∀ (j : Nat) (x : Sl), ρi[j]? = some x → j ∈ vs → x = .un) ∧ mDcL o sg tf fk fv vs (ds.drop i) acc ρi = some (accF, ρ2),
    ⟨_, rfl, Nat.zero_le _, _, e0, _, R3, wipeR_un, e2⟩, ?_⟩
  rintro i m H2 ⟨rfl, hi, ρi, acc, G2, R4, un, h2⟩
  have mx : hx ∈ ((V.ref D0, Rv.new acc) :: nbs (hx :: hv)) := List.mem_cons_of_mem _ (List.mem_map.mpr ⟨hx, List.mem_cons_self .., nb1_of nx⟩)
  by_cases hl : i = ds.length
  · left
    subst hl
    refine ⟨jo.2 _ _ _ _ _ R4 mx, ?_⟩
    rw [List.drop_length] at h2
    cases h2
    have R5 := R4.unwiped (nb.cons fun j q => by cases q) un
    have R6 : Rep B (nbs ((V.ref D0, Rv.new accF) :: hv)) ρ2 σ H2 G2 := R5.pop2
    refine kk _ _ _ (R6.ofNb fun x m' i q => ?_)
    rcases List.mem_cons.mp m' with rfl | m'
    · cases q
    · exact bo x (List.mem_cons_of_mem _ m') i q
  · right
    have hlt : i < ds.length := Nat.lt_of_le_of_ne hi hl
    have hd : ds[i]? = some ds[i] := List.getElem?_eq_getElem hlt
    have hdr : ds.drop i = ds[i] :: ds.drop (i + 1) := List.drop_eq_getElem_cons hlt
    obtain ⟨go, yl⟩ := jo.1 _ _ _ _ _ i _ R4 mx hd
    rw [hdr] at h2
    obtain ⟨r, h3, h2⟩ := bnd h2
    obtain ⟨⟨bt, ρ4⟩, h4, h2⟩ := bnd h2
    refine ⟨go, fun H' => ∃ ρi acc G, Rep B ((.ref D0, .new acc) :: nbs (hx :: hv)) ρi (wipe σ vs) H' G ∧ (∀ (j : Nat) (x : Sl), ρi[j]? = some x → j ∈ vs → x = .un) ∧ mDcL o sg tf fk fv vs (ds.drop (i + 1)) acc ρi = some (accF, ρ2), fun H' ⟨ρi, acc, G, R', un', h'⟩ => ⟨_, by omega, rfl, hlt, ρi, acc, G, R', un', h'⟩, fun x H' hy => ?_⟩
    obtain ⟨G3, R5⟩ := yl x H' hy
    refine ⟨_, ρi, G3, _, nb.cons (fun j q => by cases q), R5, r, h3, fun σ4 H4 G4 w4 R6 => ?_⟩
    have w5 : wipe σ4 vs = wipe σ vs := (w4 vs hvs).trans (wipe_wipe vs)
    refine ⟨w5, ⟨_, r, G4, R6, bt, ρ4, h4, fun H5 G5 R7 => ?_⟩⟩
    cases bt with
    | true =>
      simp only [if_true] at h2 ⊢
      obtain ⟨⟨y, ρ5⟩, h5, h2⟩ := bnd h2
      obtain ⟨⟨z, ρ6⟩, h6, h2⟩ := bnd h2
      obtain ⟨acc', h7, h2⟩ := bnd h2
      refine ⟨_, ρ4, G5, R7, y, ρ5, h5, fun v H6 G6 R8 => ⟨_, ρ5, G6, R8, z, ρ6, h6, fun u H7 G7 R9 => ?_⟩⟩
      obtain ⟨a, ho, ea, eH, cc⟩ := R9.pop.pop.topNew
      cases ea
      obtain ⟨ho', p1, p2⟩ := ko.put G7 H7 D0 ho acc y z acc' v u eH R9.sub cc R9.pop.top R9.top h7
      exact ⟨_, p1, _, _, _, (R9.pop.pop.chgTop p2).wiped (nb.cons fun j q => by cases q) w5, wipeR_un, h2⟩
    | false =>
      simp only [Bool.false_eq_true, if_false] at h2 ⊢
      exact ⟨_, _, _, R7.wiped (nb.cons fun j q => by cases q) w5, wipeR_un, h2⟩
theorem pm_dc {e0 : D} {o : D → D → D → Option D} (kd : DKind X.prog X.w) (ko : KdOk B.c kd e0 o) (hu : X.A.units + 1 < cLine) (calm : X.calm = true) (nd : X.N.Nodup) (hi : PIM X B tg iter fi) (bo : BlkOk X.N X.env.scope scope own)
    (hg : ∀ s H C cl fp, PG (BC X scope s H C cl fp) tg (gM B is sg)) (ht : ∀ s H C cl fp, PTs (BC X scope s H C cl fp) ifs (tT B tf)) (hk : ∀ s H C cl fp, PD (BC X scope s H C cl fp) B kx fk) (hv : ∀ s H C cl fp, PD (BC X scope s H C cl fp) B vx fv)
    (hvs : ∀ i ∈ is, i ∈ own.map (·.2) := by decide) (hs : ∀ x, foldedSetIterable iter X.env x = pure x := by intro _; rfl) :
    PM X B (.DictComp kx vx [⟨tg, iter, ifs, 0⟩] scope pos) (mDc e0 o fi sg tf fk fv (own.map (·.2))) := (pe_dx kd hu calm nd hi bo hg ht hk hv hs).wk (dx_wk ko hvs)
theorem ps_setDc {e0 : D} {o : D → D → D → Option D} {y : Str} {py spos : Pos} (i : Nat) (kd : DKind X.prog X.w) (ko : KdOk B.c kd e0 o) (hu : X.A.units + 1 < cLine) (calm : X.calm = true) (nd : X.N.Nodup) (hyl : X.env.scope.names.lookup y = some .local)
    (hsw : swapsWith (.DictComp kx vx [⟨tg, iter, ifs, 0⟩] scope pos) (some (.Name y py)) spos.line X.env = pure true) (hi : PIM X B tg iter fi) (bo : BlkOk X.N X.env.scope scope own)
    (hg : ∀ s H C cl fp, PG (BC X scope s H C cl fp) tg (gM B is sg)) (ht : ∀ s H C cl fp, PTs (BC X scope s H C cl fp) ifs (tT B tf)) (hk : ∀ s H C cl fp, PD (BC X scope s H C cl fp) B kx fk) (hv : ∀ s H C cl fp, PD (BC X scope s H C cl fp) B vx fv)
    (hy : X.N[i]? = some y := by rfl) (hvs : ∀ i ∈ is, i ∈ own.map (·.2) := by decide) (hs : ∀ x, foldedSetIterable iter X.env x = pure x := by intro _; rfl) :
    PSM X B (.Assign [.Name y py] (.DictComp kx vx [⟨tg, iter, ifs, 0⟩] scope pos) spos) (mSet i (mDc e0 o fi sg tf fk fv (own.map (·.2)))) := (ps_setDx kd hu calm nd hy hyl hsw hi bo hg ht hk hv hs).wk fun D σ H h => dx_wk ko hvs _ _ _ (mSet_wk D σ H h)
end
end M
/-! M14: for k in a dict of one's own. -/
namespace M
open PySem PySem.Spec PyProof.Rows L2
section
variable {c : Cn} {G : Hp} {a : Addr} {od : Obj} {u : HO}
theorem rd_open (h : G a = some (.frz od u)) (mu : Mut (some u)) {b : Addr} {o : HO} (mo : Mut (some o)) (r : Rd G b o) : Rd (upd G a u) b o := by
  by_cases z : b = a
  · subst z
    rcases r with r | ⟨o', r⟩
    · rw [h] at r; cases r; exact absurd mo (by simp [Mut])
    · rw [h] at r; cases r; exact .inl upd_same
  · rcases r with r | ⟨o', r⟩
    · exact .inl (by rw [upd_ne z]; exact r)
    · exact .inr ⟨o', by rw [upd_ne z]; exact r⟩
theorem dnO_mut {c : Cn} {a : Addr} {kvs : List (Option Key × V)} : Mut (some (dnO c a kvs)) := True.intro
mutual
theorem Rp.open (h : G a = some (.frz od u)) (mu : Mut (some u)) : ∀ {v : V} {d : D}, Rp c G v d → Rp c (upd G a u) v d
  | _, _, .non => .non
  | _, _, .bl b => .bl b
  | _, _, .int i => .int i
  | _, _, .str x => .str x
  | _, _, .lst q r => .lst (q.elim (fun q => .inl (rd_open h mu True.intro q)) .inr) (Rps.open h mu r)
  | _, _, .tup (a := b) q r => .tup (by rw [upd_ne (fun z => by rw [z, h] at q; cases q)]; exact q) (Rps.open h mu r)
  | _, _, .dk q l r => .dk (rd_open h mu True.intro q) l (Rps.open h mu r)
  | _, _, .dt q l r => .dt (rd_open h mu True.intro q) l (Rps.open h mu r)
  | _, _, .dn q l r => .dn (rd_open h mu dnO_mut q) l (Rps.open h mu r)
  | _, _, .kd q => .kd (by rw [upd_ne (fun z => by rw [z, h] at q; cases q)]; exact q)
theorem Rps.open (h : G a = some (.frz od u)) (mu : Mut (some u)) : ∀ {vs : List V} {ds : List D}, Rps c G vs ds → Rps c (upd G a u) vs ds
  | _, _, .nil => .nil
  | _, _, .cons q r => .cons (Rp.open h mu q) (Rps.open h mu r)
end
theorem Cont.open {b : Addr} {ho : HO} {d : D} (h : G a = some (.frz od u)) (mu : Mut (some u)) (k : Cont c G b ho d) : Cont c (upd G a u) b ho d := by
  cases d with
  | lst ds => obtain ⟨xs, e, r⟩ := k; exact ⟨xs, e, r.open h mu⟩
  | dk es => obtain ⟨kvs, e, l, r⟩ := k; exact ⟨kvs, e, l, r.open h mu⟩
  | dt es => obtain ⟨kvs, e, l, r⟩ := k; exact ⟨kvs, e, l, r.open h mu⟩
  | dn es => obtain ⟨kvs, e, l, r⟩ := k; exact ⟨kvs, e, l, r.open h mu⟩
  | _ => exact k.elim
end
section
variable {B : Bs} {hv : Hv} {ρ : Rho} {σ : Sg} {H G : Hp} {a : Addr} {ho u : HO} {d : D} {i : Nat} {od : Obj}
/-- a frame of which all readable things stay: while a loop walks a locked thing -/
abbrev Bs.at (B : Bs) (g : Hp) : Bs := ⟨B.c, B.H0, g, B.io⟩
theorem Rep.lockAt (R : Rep B hv ρ σ H G) (hi : ρ[i]? = some (.own d)) (nb : NB hv) : ∃ a ho, σ[i]? = some (some (.ref a)) ∧ H a = some ho ∧ Cont B.c G a ho d ∧ B.G0 a = none ∧ B.H0 a = none ∧
    ∀ od, Rep (B.at (upd G a (.frz od ho))) hv (ρ.set i (.dat d)) σ (upd H a (.frz od ho)) (upd G a (.frz od ho)) := by
  obtain ⟨t, h1, h2, h3⟩ := R.ex
  obtain ⟨a, ho, es, eH, cc, et, e0⟩ := h2 i _ hi
  have eG := (h1 a (by rw [et]; simp)).1
  have eG0 : B.G0 a = none := by
    cases q : B.G0 a with
    | none => rfl
    | some o => rw [R.g0 _ _ q] at eG; cases eG
  refine ⟨a, ho, es, eH, cc, eG0, e0, fun od => ?_⟩
  have sG : Same G (upd G a (.frz od ho)) := same_updG eG
  have cH : ∀ b o, b ≠ a → H b = some o → upd H a (.frz od ho) b = some o := fun b o n e => by rw [upd_ne n]; exact e
  have rp : Rp B.c (upd G a (.frz od ho)) (.ref a) d := by
    have k := cc.mono sG
    cases d with
    | lst ds => obtain ⟨xs, rfl, r⟩ := k; exact .lst (.inl (.inr ⟨od, upd_same⟩)) r
    | dk es => obtain ⟨kvs, rfl, l, r⟩ := k; exact .dk (.inr ⟨od, upd_same⟩) l r
    | dt es => obtain ⟨kvs, rfl, l, r⟩ := k; exact .dt (.inr ⟨od, upd_same⟩) l r
    | dn es => obtain ⟨kvs, rfl, l, r⟩ := k; exact .dn (.inr ⟨od, upd_same⟩) l r
    | _ => exact k.elim
  refine ⟨⟨setT t a none, fun b hb => ?_, fun j s hs => ?_, ?_⟩, fun b o q => ?_, Same.refl _, fun b q => .inl q, fun b o q nio => ?_, fun b q => ?_, fun b q => ?_, by rw [List.length_set]; exact R.len⟩
  · by_cases z : b = a
    · subst z; rw [setT_same] at hb; exact absurd rfl hb
    · rw [setT_ne z] at hb; rw [upd_ne z, upd_ne z]; exact h1 b hb
  · rcases set_get hs with ⟨rfl, rfl, _⟩ | ⟨nj, hs⟩
    · exact ⟨_, es, rp⟩
    · have h := h2 j s hs
      have ne : ∀ b, t b = some (.sl j) → b ≠ a := fun b e z => by rw [z, et] at e; injection e with e; injection e with e; exact nj e.symm
      cases s with
      | un => trivial
      | dat _ => obtain ⟨v, e, r⟩ := h; exact ⟨v, e, r.mono sG⟩
      | own _ => obtain ⟨b, hb, f, f1, c', f2, f3⟩ := h; exact ⟨b, hb, f, cH _ _ (ne _ f2) f1, c'.mono sG, by rw [setT_ne (ne _ f2)]; exact f2, f3⟩
      | io _ => obtain ⟨b, hb, f, f1, c', f2, f3⟩ := h; exact ⟨b, hb, f, cH _ _ (ne _ f2) f1, c'.mono sG, by rw [setT_ne (ne _ f2)]; exact f2, f3⟩
      | lck _ => obtain ⟨b, hb, o, f, f1, c', f2, f3⟩ := h; exact ⟨b, hb, o, f, cH _ _ (ne _ f2) f1, c'.mono sG, by rw [setT_ne (ne _ f2)]; exact f2, f3⟩
  · have go : ∀ r : Hv, HvsOk B t G H σ r → HvsOk (B.at (upd G a (.frz od ho))) (setT t a none) (upd G a (.frz od ho)) (upd H a (.frz od ho)) σ r := by
      intro r
      induction r with
      | nil => intro _; trivial
      | cons x r ih =>
        intro hr
        obtain ⟨v', rv⟩ := x
        refine ⟨?_, ih hr.2⟩
        have h := hr.1
        cases rv with
        | dat _ => exact Rp.mono sG h
        | bor _ => exact h
        | new _ =>
          obtain ⟨b, hb, f, f1, c', f2, f3⟩ := h
          have n : b ≠ a := fun z => by rw [z, et] at f2; cases f2
          exact ⟨b, hb, f, cH _ _ n f1, c'.mono sG, by rw [setT_ne n]; exact f2, f3⟩
        | lk _ =>
          obtain ⟨b, hb, o, j, f, f1, c', f2, f3⟩ := h
          have n : b ≠ a := fun z => by rw [z, eH] at f1; cases f1; exact cc.nofrz rfl
          exact ⟨b, hb, o, j, f, cH _ _ n f1, c'.mono sG, by rw [setT_ne n]; exact f2, f3⟩
    exact go hv h3
  · by_cases z : b = a
    · subst z; rw [upd_same] at q ⊢; exact q
    · rw [upd_ne z] at q ⊢; exact R.sub _ _ q
  · exact cH _ _ (fun z => by rw [z, e0] at q; cases q) (R.hs b o q nio)
  · by_cases z : b = a
    · rw [z, upd_same]; simp
    · rw [upd_ne z]; exact R.ioH b q
  · by_cases z : b = a
    · rw [z, upd_same]; rintro ⟨xs, e⟩; cases e
    · rw [upd_ne z]; exact R.ioT b q
theorem Rep.openAt {G1 : Hp} (R : Rep (B.at (upd G a (.frz od u))) hv ρ σ H G1) (mu : Mut (some u)) (g0 : Same B.G0 G) (nw : ∀ b, G b ≠ none → B.G0 b ≠ none ∨ B.H0 b = none ∨ Tp (B.H0 b)) (z0 : B.G0 a = none) (h0 : B.H0 a = none) : H a = some (.frz od u) ∧ Rep B hv ρ σ (upd H a u) (upd G1 a u) := by
  have eG : G1 a = some (.frz od u) := R.g0 a _ upd_same
  have eH : H a = some (.frz od u) := R.sub _ _ eG
  refine ⟨eH, ?_⟩
  obtain ⟨t, h1, h2, h3⟩ := R.ex
  have nt : ∀ b, t b ≠ none → b ≠ a := fun b e z => by have := (h1 b e).1; rw [z, eG] at this; cases this
  have cH : ∀ b o, b ≠ a → H b = some o → upd H a u b = some o := fun b o n e => by rw [upd_ne n]; exact e
  refine ⟨⟨t, fun b hb => ?_, fun j s hs => ?_, ?_⟩, fun b o q => ?_, fun b o q => ?_, fun b q => ?_, fun b o q nio => ?_, fun b q => ?_, fun b q => ?_, R.len⟩
  · rw [upd_ne (nt b hb), upd_ne (nt b hb)]; exact h1 b hb
  · have h := h2 j s hs
    cases s with
    | un => trivial
    | dat _ => obtain ⟨v, e, r⟩ := h; exact ⟨v, e, Rp.open eG mu r⟩
    | own _ => obtain ⟨b, hb, f, f1, c', f2, f3⟩ := h; exact ⟨b, hb, f, cH _ _ (nt b (by rw [f2]; simp)) f1, Cont.open eG mu c', f2, f3⟩
    | io _ => obtain ⟨b, hb, f, f1, c', f2, f3⟩ := h; exact ⟨b, hb, f, cH _ _ (nt b (by rw [f2]; simp)) f1, Cont.open eG mu c', f2, f3⟩
    | lck _ => obtain ⟨b, hb, o, f, f1, c', f2, f3⟩ := h; exact ⟨b, hb, o, f, cH _ _ (nt b (by rw [f2]; simp)) f1, Cont.open eG mu c', f2, f3⟩
  · have go : ∀ r : Hv, HvsOk (B.at (upd G a (.frz od u))) t G1 H σ r → HvsOk B t (upd G1 a u) (upd H a u) σ r := by
      intro r
      induction r with
      | nil => intro _; trivial
      | cons x r ih =>
        intro hr
        obtain ⟨v', rv⟩ := x
        refine ⟨?_, ih hr.2⟩
        have h := hr.1
        cases rv with
        | dat _ => exact Rp.open eG mu h
        | bor _ => exact h
        | new _ => obtain ⟨b, hb, f, f1, c', f2, f3⟩ := h; exact ⟨b, hb, f, cH _ _ (nt b (by rw [f2]; simp)) f1, Cont.open eG mu c', f2, f3⟩
        | lk _ => obtain ⟨b, hb, o, j, f, f1, c', f2, f3⟩ := h; exact ⟨b, hb, o, j, f, cH _ _ (nt b (by rw [f2]; simp)) f1, Cont.open eG mu c', f2, f3⟩
    exact go hv h3
  · by_cases z : b = a
    · subst z; rw [upd_same] at q ⊢; exact q
    · rw [upd_ne z] at q ⊢; exact R.sub _ _ q
  · have n : b ≠ a := fun z => by rw [z, z0] at q; cases q
    rw [upd_ne n]
    exact R.g0 b o (by show upd G a (.frz od u) b = some o; rw [upd_ne n]; exact g0 _ _ q)
  · by_cases z : b = a
    · exact .inr (.inl (by rw [z]; exact h0))
    · rw [upd_ne z] at q
      rcases R.nw b q with q | q
      · have q : upd G a (.frz od u) b ≠ none := q
        rw [upd_ne z] at q
        exact nw b q
      · exact .inr q
  · exact cH _ _ (fun z => by rw [z, h0] at q; cases q) (R.hs b o q nio)
  · by_cases z : b = a
    · rw [z, upd_same]; simp
    · rw [upd_ne z]; exact R.ioH b q
  · by_cases z : b = a
    · rw [z, upd_same]; rintro ⟨xs, e⟩; cases e; exact mu
    · rw [upd_ne z]; exact R.ioT b q
end
/-- the keys of a dict, as data -/
def kdD : Key → D
  | .inl i => .int i
  | .inr x => .str x
def keysD : D → Option (List D)
  | .dk es => some (es.map fun e => kdD e.1)
  | .dt es => some (es.map fun e => .tup (e.1.map kdD))
  | _ => none
theorem kdD_rp {c : Cn} {G : Hp} (k : Key) : Rp c G (kV k) (kdD k) := by
  cases k with
  | inl i => exact .int i
  | inr x => exact .str x
theorem kdD_rps {c : Cn} {G : Hp} : ∀ ks : List Key, Rps c G (ks.map kV) (ks.map kdD)
  | [] => .nil
  | k :: ks => .cons (kdD_rp k) (kdD_rps ks)
/-- for k in x: (x a dict of its own, from then on read by all) -/
def mForK (i : Nat) (s : MG) (b : MS) : MS := fun ρ => match ρ[i]? with
  | some (.own d) => (keysD d).bind fun ds => (mForL s b ds (ρ.set i (.dat d))).bind fun r => match r.1 with
    | .nx => some (.nx, r.2)
    | _ => none
  | _ => none
section
variable {X : Cx} {B : Bs} {pos : Pos} {s : MS}
theorem ps_forK (i : Nat) {x : Str} {p : Pos} {tg : Expr} {body : List Stmt} {sg : MG} {is : List Nat} (hp : PassesOwn (model X.prog X.w) X.A X.env X.xe) (hc : X.calm = true) (hg : ∀ g, PG X tg (gM (B.at g) is sg)) (hb : ∀ g, PSsM X (B.at g) body s)
    (hN : X.N[i]? = some x := by rfl) (hv : Vis X.env.scope x := by first | exact Or.inl rfl | exact Or.inr (Or.inl rfl) | exact Or.inr (Or.inr rfl)) (hd : (x == ("__debug__" : Str)) = false := by decide)
    (hcd : (x == ("__classdict__" : Str)) = false := by decide) (hs : ∀ z, foldedSetIterable (.Name x p) X.env z = pure z := by intro _; rfl) : PSM X B (.For tg (.Name x p) body [] pos) (mForK i sg s) := by
  have hg' : PG X tg (fun v σ H Q => ∃ g, gM (B.at g) is sg v σ H Q) := ⟨fun pins s' σ H v u Q Iv r ⟨g, q⟩ => (hg g).run pins s' σ H v u Q Iv r q⟩
  have hb' : PSs X body (fun D σ H => ∃ g, tS (B.at g) s D σ H) := ⟨fun pins s' σ H D Iv ⟨g, q⟩ => (hb g).run pins s' σ H D Iv q⟩
  refine (ps_lock (ps_for hp hc (pi_keys (pe_var hN hv hd hcd)) hg' hb' hs)).wk fun En σ H ⟨hv, ρ, G, n, R, fl, ρ', hf, k⟩ => ?_
  simp only [mForK] at hf
  split at hf
  case h_2 => cases hf
  rename_i d hi
  obtain ⟨ds, hk, hf⟩ := bnd hf
  obtain ⟨⟨f1, ρ1⟩, hl, hf⟩ := bnd hf
  cases f1 <;> simp only [reduceCtorEq, Option.some.injEq, Prod.mk.injEq] at hf
  obtain ⟨rfl, rfl⟩ := hf
  obtain ⟨a, ho, es, eH, cc, z0, h0, lk⟩ := R.lockAt hi n
  have mu : Mut (some ho) := cc.mut
  refine ⟨a, ho, eH, mu, fun od => ⟨.ref a, es, a, od, rfl, ?_⟩⟩
  have R1 := lk od
  -- the end
  have fin : ∀ (σ' : Sg) (H' G' : Hp), Rep (B.at (upd G a (.frz od ho))) hv ρ1 σ' H' G' → H' a = some (.frz od ho) ∧ En.nx σ' (upd H' a ho) := fun σ' H' G' R' => by
    obtain ⟨e, R2⟩ := R'.openAt mu R.g0 R.nw z0 h0
    exact ⟨e, k _ _ _ R2⟩
  -- the turns, for any walk that hands out the keys
  have go : ∀ (J : It), (∀ i H', i < ds.length → H' a = some (.frz od ho) → J.go i H' ∧ ∀ x H2, J.yld i H' x H2 → H2 = H' ∧ ∃ d, ds[i]? = some d ∧ ∀ G', Same G' H' → (∃ G'', Gr G' H' G'' H' ∧ Rp B.c G'' x d)) → (∀ H', H' a = some (.frz od ho) → J.stop ds.length H') →
      ∃ W : Nat → Nat → L2.St → Hp → Prop, (∃ m, W 0 m σ (upd H a (.frz od ho))) ∧ ∀ i m σ H, W i m σ H → (J.stop i H ∧ H a = some (.frz od ho) ∧ En.nx σ (upd H a ho)) ∨ (J.go i H ∧ ∃ N : L2.St → Hp → Prop, (∀ σ' H', N σ' H' → ∃ m', m' < m ∧ W (i + 1) m' σ' H') ∧ ∀ x H', J.yld i H x H' →
        ∃ g, gM (B.at g) is sg x σ H' fun σ2 H2 => ∃ g, tS (B.at g) s ⟨N, fun v H' => H' a = some (.frz od ho) ∧ En.rt v (upd H' a ho), fun σ H => H a = some (.frz od ho) ∧ En.nx σ (upd H a ho), N⟩ σ2 H2) := by
    intro J jg js
    refine ⟨fun i m σ H => m = ds.length - i ∧ i ≤ ds.length ∧ ∃ ρi G', Rep (B.at (upd G a (.frz od ho))) hv ρi σ H G' ∧ mForL sg s (ds.drop i) ρi = some (.nx, ρ1), ⟨_, rfl, Nat.zero_le _, _, _, R1, hl⟩, ?_⟩
    rintro i m σ2 H2 ⟨rfl, hi, ρi, G2, R2, h2⟩
    have eH2 : H2 a = some (.frz od ho) := R2.sub _ _ (R2.g0 a _ upd_same)
    by_cases hl : i = ds.length
    · left
      subst hl
      rw [List.drop_length] at h2
      cases h2
      exact ⟨js _ eH2, fin _ _ _ R2⟩
    · right
      have hlt : i < ds.length := Nat.lt_of_le_of_ne hi hl
      have hdr : ds.drop i = ds[i] :: ds.drop (i + 1) := List.drop_eq_getElem_cons hlt
      obtain ⟨g1, yl⟩ := jg i H2 hlt eH2
      rw [hdr] at h2
      obtain ⟨r, h3, h2⟩ := bnd h2
      obtain ⟨⟨f2, ρ2⟩, h4, h2⟩ := bnd h2
      refine ⟨g1, fun σ' H' => ∃ ρ'' G', Rep (B.at (upd G a (.frz od ho))) hv ρ'' σ' H' G' ∧ mForL sg s (ds.drop (i + 1)) ρ'' = some (.nx, ρ1), fun σ' H' ⟨ρ'', G', R', h'⟩ => ⟨_, by omega, rfl, hlt, ρ'', G', R', h'⟩, fun x H' hy => ?_⟩
      obtain ⟨rfl, d', hd', gr⟩ := yl x H' hy
      rw [List.getElem?_eq_getElem hlt] at hd'
      cases hd'
      obtain ⟨G3, g3, rp⟩ := gr G2 R2.sub
      refine ⟨_, hv, ρi, G3, _, n, (R2.grow g3).dat rp, r, h3, fun σ4 H4 G4 _ R4 => ⟨_, hv, r, G4, n, R4, f2, ρ2, h4, ?_⟩⟩
      cases f2 with
      | nx => exact fun σ H G R => ⟨_, _, R, h2⟩
      | ct => exact fun σ H G R => ⟨_, _, R, h2⟩
      | bk => cases h2; exact fun σ H G R => fin _ _ _ R
      | rt rv => cases h2
  cases d <;> simp only [keysD, reduceCtorEq, Option.some.injEq] at hk
  · subst hk
    obtain ⟨kvs, rfl, c1, c2⟩ := cc
    refine .inl ⟨kvs, upd_same, go (Itk a od kvs) (fun i H' hi e => ⟨⟨e, ?_⟩, fun x H2 ⟨e2, k, v, e3, e4⟩ => ?_⟩) fun H' e => ⟨e, ?_⟩⟩
    · have := congrArg List.length c1; rw [List.length_map, List.length_map] at this; rw [List.length_map] at hi; omega
    · subst e4
      refine ⟨e2, kdD k, ?_, fun G' sG => ⟨G', Gr.refl sG, kdD_rp k⟩⟩
      have := congrArg (·[i]?) c1
      simp only [List.getElem?_map, e3, Option.map_some] at this ⊢
      cases q : (_ : List (Key × D))[i]? with
      | none => rw [q] at this; cases this
      | some z => rw [q] at this; cases this; rfl
    · have := congrArg List.length c1; rw [List.length_map, List.length_map] at this; rw [List.length_map]; omega
  · subst hk
    obtain ⟨kvs, rfl, c1, c2⟩ := cc
    refine .inr ⟨kvs, upd_same, go (Itkt a od kvs) (fun i H' hi e => ⟨⟨e, ?_⟩, fun x H2 ⟨e2, k, v, q, e3, e4, e5⟩ => ?_⟩) fun H' e => ⟨e, ?_⟩⟩
    · have := congrArg List.length c1; rw [List.length_map, List.length_map] at this; rw [List.length_map] at hi; omega
    · subst e4
      refine ⟨e2, .tup (k.map kdD), ?_, fun G' sG => ?_⟩
      · have := congrArg (·[i]?) c1
        simp only [List.getElem?_map, e3, Option.map_some] at this ⊢
        cases q : (_ : List (List Key × D))[i]? with
        | none => rw [q] at this; cases this
        | some z => rw [q] at this; cases this; rfl
      · by_cases z : G' q = none
        · refine ⟨upd G' q (.tup (k.map kV)), ⟨same_updG z, Same.refl _, fun b o h => ?_, fun b h => ?_⟩, .tup upd_same (kdD_rps k)⟩
          · by_cases zb : b = q
            · subst zb; rw [upd_same] at h; cases h; exact e5
            · rw [upd_ne zb] at h; exact sG _ _ h
          · by_cases zb : b = q
            · subst zb; exact .inr (.inr ⟨_, e5⟩)
            · rw [upd_ne zb] at h; exact .inl h
        · obtain ⟨o, eo⟩ := Option.ne_none_iff_exists'.mp z
          have := sG _ _ eo
          rw [e5] at this
          cases this
          exact ⟨G', Gr.refl sG, .tup eo (kdD_rps k)⟩
    · have := congrArg List.length c1; rw [List.length_map, List.length_map] at this; rw [List.length_map]; omega
end
end M
/-! M15: list(d), sorted of tuples of ints. -/
namespace M
open PySem PySem.Spec PyProof.Rows L2
/-! ### tuples come into the readable part -/
theorem gr_tup {G H : Hp} {b : Addr} {xs : List V} (sG : Same G H) (e : H b = some (.tup xs)) : ∃ G', Gr G H G' H ∧ G' b = some (.tup xs) := by
  by_cases z : G b = none
  · refine ⟨upd G b (.tup xs), ⟨same_updG z, Same.refl _, fun c o h => ?_, fun c h => ?_⟩, upd_same⟩
    · by_cases zb : c = b
      · subst zb; rw [upd_same] at h; cases h; exact e
      · rw [upd_ne zb] at h; exact sG _ _ h
    · by_cases zb : c = b
      · subst zb; exact .inr (.inr ⟨_, e⟩)
      · rw [upd_ne zb] at h; exact .inl h
  · obtain ⟨o, eo⟩ := Option.ne_none_iff_exists'.mp z
    have := sG _ _ eo
    rw [e] at this
    cases this
    exact ⟨G, Gr.refl sG, eo⟩
theorem gr_tr {G G' G'' H : Hp} (a : Gr G H G' H) (b : Gr G' H G'' H) : Gr G H G'' H := ⟨a.g.trans b.g, Same.refl _, b.sub, fun c h => (b.nw c h).elim (fun z => a.nw c z) .inr⟩
theorem gr_keys {c : Cn} {H : Hp} : ∀ {kvs : List (List Key × V)} {bs : List Addr} {G : Hp}, Same G H → IsKeys H kvs bs → ∃ G', Gr G H G' H ∧ Rps c G' (bs.map V.ref) (kvs.map fun e => .tup (e.1.map kdD))
  | _, _, G, sG, .nil => ⟨G, Gr.refl sG, .nil⟩
  | _, _, G, sG, .cons h t => by
    obtain ⟨G1, g1, e1⟩ := gr_tup sG h
    obtain ⟨G2, g2, r2⟩ := gr_keys (c := c) g1.sub t
    exact ⟨G2, gr_tr g1 g2, .cons (.tup (g2.g _ _ e1) (kdD_rps _)) r2⟩
section
variable {X : Cx} {B : Bs} {e : Expr} {f : ME} {p pos : Pos}
def oListT : D → Option D
  | .dt es => some (.lst (es.map fun e => .tup (e.1.map kdD)))
  | _ => none
theorem map_fst {κ α β γ : Type} (f : κ → γ) {l : List (κ × α)} {m : List (κ × β)} (h : l.map (·.1) = m.map (·.1)) : l.map (fun e => f e.1) = m.map (fun e => f e.1) := by
  have := congrArg (List.map f) h
  rw [List.map_map, List.map_map] at this
  exact this
theorem pm_listT (hc : X.calm = true) (hg : Gl X "list") (hm : X.mg "list" = none) (ha : PM X B e f) (he : starEach (e :: []) X.env = (false, eval e X.env) :: starEach [] X.env := by rfl) (hpl : (backTo pos (starEach [] X.env)).any (·.1) = false := by rfl) : PM X B (.Call (.Name "list" p) (e :: []) [] pos) (n1 oListT f) :=
  (pe_callTy (call_list_dT hc) hg hm (by decide +kernel) (pa_cons ha pa_nil he) (by decide) (by decide) he hpl).wk fun σ H Q ⟨hv, ρ, G, R, d, ρ', hf, k⟩ => by
    obtain ⟨⟨rv, ρ1⟩, h1, hf⟩ := bnd hf
    obtain ⟨x, h2, hf⟩ := bnd hf
    obtain ⟨ds, h3, hf⟩ := mpp hf
    simp only [Prod.mk.injEq] at hf
    obtain ⟨rfl, rfl⟩ := hf
    refine ⟨hv, ρ, G, R, rv, ρ1, h1, fun v H1 G1 R1 => ?_⟩
    cases x <;> simp only [oListT, reduceCtorEq, Option.some.injEq] at h3
    subst h3
    obtain ⟨a, kvs, rfl, q1, q2, q3⟩ := R1.look h2
    refine ⟨a, kvs, rfl, q1, fun l bs hl ks => ?_⟩
    obtain ⟨G2, g2, r2⟩ := gr_keys (c := B.c) R1.sub ks
    rw [map_fst (fun k => D.tup (k.map kdD)) q2] at r2
    exact k _ _ _ ((R1.pop.grow g2).new hl ⟨_, rfl, r2⟩)
end
/-! ### sorted of tuples of ints, of one length, at any number -/
section
variable {prog : Program} {w : World} {A : Around} {s : Shared} {Q : Bool → Shared → Prop}
theorem lexA {b : Bool} {xs ys : List Value} {ns ms : List Int} (i : Nat) (hx : IntsAre xs ns) (hy : IntsAre ys ms) (hl : ns.length = ms.length) (h : Q (HT.lexLt ns ms) s) : PySem.W.KatLex prog w A b false Q (xs.zip ys) i s := by
  induction hx generalizing ys ms i with
  | nil =>
    cases hy with
    | nil => exact PySem.W.kat_nil h
    | cons q u hy => cases hl
  | @cons p t xs ns hx ih =>
    cases hy with
    | nil => cases hl
    | @cons q u ys ms hy =>
      rw [HT.lexLt_cons] at h
      refine PySem.W.kat_cons (wpAny_eqBool_int ?_)
      by_cases e : p = q
      · subst e
        rw [if_pos rfl] at h
        rw [beq_self_eq_true]
        exact PySem.W.kat_yes (ih _ hy (Nat.succ.inj hl) h)
      · rw [if_neg e] at h
        rw [show (p == q) = false from beq_eq_false_iff_ne.mpr e]
        exact PySem.W.kat_no (TS.oneLt_ints _ h)
theorem firstsL {h : Heap} : ∀ vs : List Value, (∀ v ∈ vs, ∃ ns, TS.TupInts h v ns ∧ 1 ≤ ns.length) → ∃ fs, PySem.W.KatTups h vs fs ∧ fs.length = vs.length ∧ ∀ f ∈ fs, ∃ n t, f = Value.int n t
  | [], _ => ⟨[], .nil, rfl, fun f hf => by cases hf⟩
  | v :: vs, x => by
    obtain ⟨fs, kt, hl, hi⟩ := firstsL vs fun u hu => x u (List.mem_cons_of_mem _ hu)
    obtain ⟨ns, ⟨a, xs, rfl, ⟨o, ho, hc, n, hdt⟩, ia⟩, hn⟩ := x v (List.mem_cons_self ..)
    cases q : xs.toList with
    | nil =>
      rw [q] at ia
      have := ia.length
      rw [List.length_nil] at this
      omega
    | cons y ys =>
      obtain ⟨m, t, hy⟩ := ia.all y (by rw [q]; exact List.mem_cons_self ..)
      refine ⟨y :: fs, .cons ho hc hdt ?_ kt, congrArg (· + 1) hl, fun f hf => ?_⟩
      · have z := congrArg (fun l : List Value => l[0]?) q
        simpa using z
      · rcases List.mem_cons.mp hf with rfl | hf
        · exact ⟨m, t, hy⟩
        · exact hi f hf
theorem tups_sortable {a : Addr} {vs : List Value} {k : Value → List Int} {d : Nat} (hd : 1 ≤ d) (h2 : 2 ≤ vs.length) (ht : ∀ v ∈ vs, TS.TupInts s.heap v (k v) ∧ (k v).length = d) (ha : ∀ o, s.heap.get? a = some o → o.cls ≠ .type "tuple") :
    SrtO.SortableO prog w A s a vs (fun v u => HT.lexLt (k v) (k u)) := by
  intro h' kp
  have ht' : ∀ v ∈ vs, TS.TupInts h' v (k v) := fun v m => (ht v m).1.keeps fun b o e c => kp b o (fun z => ha o (z ▸ e) c) e
  obtain ⟨fs, kt, hl, hi⟩ := firstsL vs fun v m => ⟨_, ht' v m, by rw [(ht v m).2]; exact hd⟩
  refine ⟨tuples' true, fun Q E hq => ?_, fun p q hp hq => ?_⟩
  · have e : (Value.type "int" != Value.type "tuple") = true := by first | rfl | decide
    refine PySem.W.kat_kind (s := { s with heap := h' }) (T := Value.type "int") kt (by omega) (fun f hf => ?_) rfl (by rw [e]; exact hq)
    obtain ⟨n, t, rfl⟩ := hi f hf
    exact PySem.W.Looks.of_pure rfl
  · obtain ⟨a1, xs, e1, ⟨o, ho, hc, n, hdt⟩, i1⟩ := ht' _ hp
    obtain ⟨a2, ys, e2, ⟨o', ho', hc', n', hdt'⟩, i2⟩ := ht' _ hq
    show wpAny (model prog w) A (keyLt' (tuples' true) p.1 q.1) (fun r s' => s' = { s with heap := h' } ∧ r = HT.lexLt (k p.1) (k q.1)) (fun _ _ => False) { s with heap := h' }
    have l1 := (ht _ hp).2
    have l2 := (ht _ hq).2
    rw [e1, e2] at *
    refine PySem.W.kat_lt (s := { s with heap := h' }) ho hdt ho' hdt' ?_
    have sz : decide (xs.size < ys.size) = false := by
      have z1 := i1.length
      have z2 := i2.length
      rw [Array.length_toList] at z1 z2
      exact decide_eq_false (by omega)
    rw [sz]
    exact lexA 0 i1 i2 (by omega) ⟨rfl, rfl⟩
end
section
variable {X : Cx}
def rSortT (K : PySem.W.Frag) : List V → Hp → VK → Prop := fun vs H Q => ∃ (a : Addr) (xs : List V) (k : V → List Int) (d : Nat), vs = [V.ref a] ∧ SqL K H a xs ∧ 1 ≤ d ∧ (∀ x ∈ xs, ∃ t, x = V.ref t ∧ H t = some (.tup ((k x).map V.int)) ∧ (k x).length = d) ∧
  ∀ ys p, ys.Perm xs → ys.Pairwise (fun x y => HT.lexLt (k y) (k x) = false) → H p = none → Q (.ref p) (upd H p (.lst ys))
theorem cr_sortT : CallR X (.builtin "sorted") (rSortT X.K) := by
  intro pins s σ H vs us Q Iv r h
  obtain ⟨a, xs, k, d, rfl, hs, hd, hx, q⟩ := h
  obtain ⟨its, rv, hl, hz⟩ := Iv.list hs
  rw [Vals.ref1 r]
  obtain ⟨e1, e2⟩ := refs_back rv fun x m => let ⟨t, e, _⟩ := hx x m; ⟨t, e⟩
  have ht : ∀ v ∈ its, TS.TupInts s.heap v (k (backV v)) ∧ (k (backV v)).length = d := fun v hv => by
    obtain ⟨t, rfl⟩ := e2 v hv
    obtain ⟨t', e, ht, hlen⟩ := hx (V.ref t) (by rw [e1]; exact List.mem_map.mpr ⟨_, hv, rfl⟩)
    cases e
    obtain ⟨_, its2, r2, tp⟩ := Iv.hok _ _ ht
    exact ⟨⟨t, its2.toArray, rfl, tp, r2.ints⟩, hlen⟩
  refine SrtO.sorted_ord (NtL.swo_lexL fun u => k (backV u)) hl.isList (by rw [← rv.length]; exact hz) (fun h2 h₁ a' ea kp => tups_sortable hd h2 (fun v hv => ⟨(ht v hv).1.keeps fun b o e _ => (kp b o e).2, (ht v hv).2⟩) fun o e => ?_) fun out h1 h2 => ?_
  · rw [ea] at e
    cases e
    intro c
    exact absurd (Value.type.inj c) (by decide)
  have h3 : ∀ u ∈ out, ∃ a, u = Value.ref a := fun u hu => e2 u (h2.perm.mem_iff.mp hu)
  have pm : (out.map backV).Perm xs := by rw [e1]; exact h2.perm.map _
  obtain ⟨ep, he'⟩ := PyProof.Rows.sortedAll_at s.heap its out.toArray
  refine ⟨.ref _, upd H (s.heap.objs.size + 1) (.lst (out.map backV)), Iv.laid (t' := s.toks) (fun _ _ => PyProof.Rows.sortedAll_old) (Nat.le_succ _) ⟨by rw [pm.length_eq]; exact hz, out, ep, vals_back h3, he'⟩, rfl, q _ _ pm ?_ (Iv.hok.fresh (Nat.le_succ _))⟩
  exact List.pairwise_map.mpr h1
end
def tupI : D → Option (List Int)
  | .tup ds => intsOf ds
  | _ => none
def tupsI : List D → Option (List (List Int))
  | [] => some []
  | d :: ds => (tupI d).bind fun n => (tupsI ds).map fun ns => n :: ns
def insL (x : List Int) : List (List Int) → List (List Int)
  | [] => [x]
  | y :: l => if HT.lexLt y x = true then y :: insL x l else x :: y :: l
def sortL : List (List Int) → List (List Int)
  | [] => []
  | x :: l => insL x (sortL l)
theorem insL_perm (x : List Int) : ∀ l, (insL x l).Perm (x :: l)
  | [] => .refl _
  | y :: l => by
    unfold insL
    split
    · exact ((insL_perm x l).cons y).trans (.swap x y l)
    · exact .refl _
theorem sortL_perm : ∀ l, (sortL l).Perm l
  | [] => .refl _
  | x :: l => (insL_perm x (sortL l)).trans ((sortL_perm l).cons x)
abbrev SrL (l : List (List Int)) : Prop := l.Pairwise fun x y => HT.lexLt y x = false
theorem insL_sorted (x : List Int) : ∀ l, SrL l → SrL (insL x l)
  | [], _ => List.pairwise_singleton _ _
  | y :: l, h => by
    have h' := List.pairwise_cons.mp h
    unfold insL
    split
    · rename_i c
      refine List.pairwise_cons.mpr ⟨fun z hz => ?_, insL_sorted x l h'.2⟩
      rcases List.mem_cons.mp ((insL_perm x l).mem_iff.mp hz) with rfl | hz
      · exact NtL.lex_asym _ _ c
      · exact h'.1 z hz
    · rename_i c
      have c : HT.lexLt y x = false := by simpa using c
      refine List.pairwise_cons.mpr ⟨fun z hz => ?_, h⟩
      rcases List.mem_cons.mp hz with rfl | hz
      · exact c
      · exact NtL.lex_tr _ _ _ c (h'.1 z hz)
theorem sortL_sorted : ∀ l, SrL (sortL l)
  | [] => .nil
  | x :: l => insL_sorted x _ (sortL_sorted l)
theorem lex_eq : ∀ x y : List Int, HT.lexLt x y = false → HT.lexLt y x = false → x = y
  | [], [], _, _ => rfl
  | [], y :: ys, h, _ => by rw [HT.lexLt_nil_cons] at h; cases h
  | x :: xs, [], _, h => by rw [HT.lexLt_nil_cons] at h; cases h
  | x :: xs, y :: ys, h1, h2 => by
    rw [HT.lexLt_cons] at h1 h2
    by_cases e : x = y
    · subst e
      rw [if_pos rfl] at h1 h2
      rw [lex_eq xs ys h1 h2]
    · rw [if_neg e] at h1
      rw [if_neg (fun z => e z.symm)] at h2
      have := of_decide_eq_false h1
      have := of_decide_eq_false h2
      omega
theorem sortedL_unique : ∀ {l m : List (List Int)}, l.Perm m → SrL l → SrL m → l = m
  | [], m, p, _, _ => (List.nil_perm.mp p).symm
  | i :: l, [], p, _, _ => absurd p.length_eq (by simp)
  | i :: l, j :: m, p, h1, h2 => by
    have h1 := List.pairwise_cons.mp h1
    have h2 := List.pairwise_cons.mp h2
    have e : i = j := by
      have a1 : i ∈ j :: m := p.mem_iff.mp (List.mem_cons_self ..)
      have a2 : j ∈ i :: l := p.mem_iff.mpr (List.mem_cons_self ..)
      rcases List.mem_cons.mp a1 with q | q
      · exact q
      · rcases List.mem_cons.mp a2 with r | r
        · exact r.symm
        · exact lex_eq i j (h2.1 i q) (h1.1 j r)
    subst e
    rw [sortedL_unique (List.Perm.cons_inv p) h1.2 h2.2]
def oSortT : D → Option D
  | .lst ds => (tupsI ds).bind fun nss => if decide (1 ≤ (nss.headD [0]).length) && nss.all (fun ns => decide (ns.length = (nss.headD [0]).length)) then some (.lst ((sortL nss).map fun ns => .tup (ns.map D.int))) else none
  | _ => none
def vI : V → Int
  | .int i => i
  | _ => 0
theorem vI_map : ∀ ns : List Int, (ns.map V.int).map vI = ns
  | [] => rfl
  | n :: ns => by rw [List.map_cons, List.map_cons, vI_map ns]; rfl
def kyV (H : Hp) : V → List Int
  | .ref t => match H t with
    | some (.tup vs) => vs.map vI
    | _ => []
  | _ => []
theorem tups_rps {c : Cn} {G H : Hp} (sG : Same G H) : ∀ {xs : List V} {ds : List D} {nss : List (List Int)}, Rps c G xs ds → tupsI ds = some nss → xs.map (kyV H) = nss ∧ ∀ x ∈ xs, ∃ t, x = V.ref t ∧ G t = some (.tup ((kyV H x).map V.int))
  | _, _, nss, .nil, e => by cases e; exact ⟨rfl, fun x m => by cases m⟩
  | _, _, nss, .cons (v := v) (d := d) h r, e => by
    obtain ⟨n, e1, e⟩ := bnd e
    obtain ⟨ns, e2, e3⟩ := mpp e
    subst e3
    obtain ⟨i1, i2⟩ := tups_rps sG r e2
    cases d <;> simp only [tupI, reduceCtorEq] at e1
    cases h with
    | tup q rs =>
      rw [intsOf_eq e1] at rs
      have rv := rs.ints
      subst rv
      rename_i t
      have ek : kyV H (.ref t) = n := by
        show (match H t with
          | some (.tup vs) => vs.map vI
          | _ => []) = n
        rw [sG _ _ q]
        exact vI_map n
      refine ⟨by rw [List.map_cons, ek, i1], fun x m => ?_⟩
      rcases List.mem_cons.mp m with rfl | m
      · exact ⟨t, rfl, by rw [ek]; exact q⟩
      · exact i2 x m
theorem rps_keys {c : Cn} {G H : Hp} : ∀ {ys : List V}, (∀ x ∈ ys, ∃ t, x = V.ref t ∧ G t = some (.tup ((kyV H x).map V.int))) → Rps c G ys ((ys.map (kyV H)).map fun ns => .tup (ns.map D.int))
  | [], _ => .nil
  | y :: ys, h => by
    obtain ⟨t, e, q⟩ := h y (List.mem_cons_self ..)
    refine .cons ?_ (rps_keys fun x m => h x (List.mem_cons_of_mem _ m))
    rw [e] at q ⊢
    exact .tup q (rps_ints _)
section
variable {X : Cx}
theorem pm_sortT {B : Bs} {e : Expr} {f : ME} {p pos : Pos} (hK : X.K = B.c.K) (hg : Gl X "sorted") (hm : X.mg "sorted" = none) (ha : PM X B e f) (he : starEach (e :: []) X.env = (false, eval e X.env) :: starEach [] X.env := by rfl) (hpl : (backTo pos (starEach [] X.env)).any (·.1) = false := by rfl) : PM X B (.Call (.Name "sorted" p) (e :: []) [] pos) (n1 oSortT f) :=
  pm_b1 cr_sortT (fun G H v x d Q s hx e k => by
    cases x <;> simp only [oSortT, reduceCtorEq] at e
    obtain ⟨nss, e1, e2⟩ := bnd e
    split at e2
    case isFalse => cases e2
    rename_i hc
    cases e2
    rw [Bool.and_eq_true] at hc
    obtain ⟨a, xs, rfl, h, r⟩ := hx
    obtain ⟨i1, i2⟩ := tups_rps s r e1
    refine ⟨a, xs, kyV H, _, rfl, by rw [hK]; exact h, of_decide_eq_true hc.1, fun x m => ?_, fun ys q pm sr hq => ?_⟩
    · obtain ⟨t, e, et⟩ := i2 x m
      refine ⟨t, e, s _ _ et, ?_⟩
      have m' : kyV H x ∈ nss := by rw [← i1]; exact List.mem_map.mpr ⟨x, m, rfl⟩
      exact of_decide_eq_true (List.all_eq_true.mp hc.2 _ m')
    · have er : ys.map (kyV H) = sortL nss := sortedL_unique ((pm.map _).trans (by rw [i1]; exact (sortL_perm nss).symm)) (List.pairwise_map.mpr sr) (sortL_sorted nss)
      have rr := rps_keys (c := B.c) (G := G) (H := H) (ys := ys) fun x m => i2 x (pm.mem_iff.mp m)
      rw [er] at rr
      exact k q _ hq ⟨ys, rfl, rr⟩) hg hm (by decide +kernel) ha (by decide) (by decide) he hpl
end
end M
/-! M16: a new Kind. -/
namespace M
open PySem PySem.Spec PyProof.Rows L2
def kindB (n : Str) : Option (Int × Int) := if n = "plain" then some (1, 7) else if n = "mirror" then some (1, 5) else if n = "ring" then some (2, 5) else none
def kindOk (n : Str) (z : Int) : Bool := match kindB n with
  | some (lo, hi) => decide (lo ≤ z ∧ z ≤ hi)
  | none => false
/-- the table of the bounds in the written part -/
structure Bnds (K : PySem.W.Frag) (w : World) (d : Addr) : Prop where
  D : ∃ es n, KDict K w d es n
  at_ : ∀ n lo hi, kindB n = some (lo, hi) → ∃ t, PySem.W.nsIn K d n = some (some (.ref t)) ∧ ∀ H, SqT K H t [.int lo, .int hi]
section
variable {X : Cx} {d : Addr} {es : Array DictEntry} {n : Nat}
/-- d[t], d of the written part -/
theorem ix_kd (D : KDict X.K X.w d es n) : IxR X (fun x y H Q => ∃ (z : Str) (u0 : Value) (v0 : V), x = .ref d ∧ y = .str z ∧ PySem.W.nsIn X.K d z = some (some u0) ∧ RelV v0 u0 ∧ Q v0 H) := by
  intro value slice pins s σ H x y v u Q Iv rx ry h hs
  obtain ⟨z, u0, v0, rfl, rfl, e, r, q⟩ := h
  have hT := kd_type D Iv
  cases rx
  refine tail_any hT PySem.F.slot_dict_getitem.lookup ?_ hs
  exact op_item_kd D pins s σ H (V.ref d) (V.str z) (Value.ref d) u Q Iv (show RelV (V.ref d) (Value.ref d) from rfl) ry ⟨z, u0, v0, rfl, rfl, e, r, q⟩
end
/-- Kind's __init__ : the new instance, a name, a size that are let -/
def spK (c : Cn) : Sp := fun vs H Q _ => vs.length = 3 ∧ ∃ x dx n z, vs = [.ref x, .str n, .int z] ∧ H x = some (.ins c.C dx []) ∧ kindOk n z = true ∧ ∀ H1, Same H H1 → Q .non (upd H1 x (.ins c.C dx (kflds n z)))
def oKind : List D → Option D
  | [.str n, .int z] => if kindOk n z = true then some (.kd n z) else none
  | _ => none
section
variable {X : Cx} {B : Bs} {k : Nat} {f : Addr} {fd : FuncData} {ps : List Str} {p pos : Pos} {e : Expr} {es : List Expr} {fr : MA}
theorem pd_mkKind (mk : Mk X.K B.c.C f) (F : FnOk X.prog X.w X.K X.mg X.base CX0 k f fd ps (spK B.c)) (hr : Room (k + 1) X.A) (hg : Gl X "Kind") (hm : X.mg "Kind" = some (.ref B.c.C)) (hb : Binds X.K fd ps []) (ha : PAM X B (e :: es) fr)
    (he : starEach (e :: es) X.env = (false, eval e X.env) :: starEach es X.env := by rfl) (hpl : (backTo pos (starEach es X.env)).any (·.1) = false := by rfl) : PD X B (.Call (.Name "Kind" p) (e :: es) [] pos) (mC oKind fr) :=
  (pe_make mk F hr hg hm hb .nil pass0 ha (by decide) he hpl).wk fun σ H Q ⟨hv, ρ, G, R, d, ρ', hf, kk⟩ => by
  obtain ⟨⟨xs, ρ1⟩, h1, hf⟩ := bnd hf
  obtain ⟨d', h5, hf⟩ := mpp hf
  cases hf
  refine ⟨hv, ρ, G, R, xs, ρ1, h1, fun vs H1 G1 R1 rs x dx hx hdx ne => ?_⟩
  rw [List.append_nil]
  match xs, rs, h5 with
  | [.str n, .int z], .cons (.str _) (.cons (.int _) .nil), h5 =>
    simp only [oKind] at h5
    split at h5
    case isFalse => cases h5
    rename_i hk
    cases h5
    refine ⟨rfl, x, dx, n, z, rfl, upd_same, hk, fun H2 sm => ⟨rfl, ?_⟩⟩
    have h12 : Same H1 H2 := fun b o q => sm b o (by rw [upd_ne (fun z => by rw [z, hx] at q; cases q), upd_ne (fun z => by rw [z, hdx] at q; cases q)]; exact q)
    have gx : G1 x = none := R1.sub.free hx
    have g : Gr G1 H1 (upd G1 x (.ins B.c.C dx (kflds n z))) (upd H2 x (.ins B.c.C dx (kflds n z))) := by
      refine ⟨same_updG gx, fun b o q => ?_, fun b o q => ?_, fun b q => ?_⟩
      · rw [upd_ne (fun z => by rw [z, hx] at q; cases q)]; exact h12 _ _ q
      · by_cases z : b = x
        · subst z; rw [upd_same] at q ⊢; exact q
        · rw [upd_ne z] at q ⊢; exact h12 _ _ (R1.sub _ _ q)
      · by_cases z : b = x
        · subst z; exact .inr (.inl hx)
        · rw [upd_ne z] at q; exact .inl q
    exact kk _ _ _ ((R1.grow g).dat (.kd upd_same))
end
/-! ### a comprehension in a comprehension -/
def rlS (scope sc0 : Scope) : Scope := { scope with names := scope.names.map fun (n, k) => if (k == .free && sc0.kind == .function && sc0.names.lookup n == some .cell) then (n, .cell) else (n, k) }
theorem blkOk_rl {N : List Str} {env : Env} {sc0 scope1 scope : Scope} {own : List (Str × Nat)} (h : env.scope = sc0) (d : blkC N (rlS scope1 sc0) scope own = true) : BlkOk N (relabel scope1 env) scope own := by
  subst h
  exact blkOk_by d
end M
/-! M17: the end: the law's promise at the heap behind the top. -/
namespace M
open PySem PySem.Spec PyProof.Rows L2
section
variable {P : Program} {w : World} {K : PySem.W.Frag} {mg mb : Str → Option Value} {k : Nat} {fa a : Addr} {fd : FuncData} {x : Str} {sp : Sp} {t : Shared} {vs : List Value}
/-- the run from an abstract heap that tracks the script at most -/
theorem runA (kin : K.In t.heap) (gl : t.heap.Ns mainGlobals mg) (bl : t.heap.Ns builtinsNs mb) (bb : ∀ x : Str, x ≠ "__name__" → mb x = bootBuiltins x) (lim : t.heap.NoLimit) (gn : t.gens = #[]) (at_ : t.heap.get? a = some { cls := .type "list", data := .seq vs.toArray })
    (F : ∀ base : Heap, K.In base → base.Ns mainGlobals mg → FnA P w K mg base k fa fd [x] sp) (hr : Room k callerA) (hb : ∀ (s : Shared) (u : Value), BindsTo s fd ⟨[u], []⟩ [(x, u)])
    (H : Hp) (only : ∀ b o, H b = some o → b = a ∧ K.lookup a = none ∧ ∃ q, o = .frz { cls := .type "list", data := .seq vs.toArray } q) (ok : HOk P w H t.heap) (h : sp [.ref a] H (fun v _ => v = .bl true) E0) :
    codeAny (model P w) callerA (.call (.ref fa) ⟨[.ref a], []⟩) (fun r u => r = .ok (.ret (.bool true)) ∧ OldK t.heap u.heap ∧ u.os = t.os ∧ AllBare u.gens) t := by
  have free : ∀ (b : Addr) (o : Obj), t.heap.get? b = some o → (b = a → K.lookup a ≠ none ∨ ∃ es ep, o.data = .dict es ep) → H b = none := fun b o e hne => by
    cases q : H b with
    | none => rfl
    | some u =>
      obtain ⟨eb, k0, _⟩ := only b u q
      rcases hne eb with z | ⟨es, ep, d⟩
      · exact absurd k0 z
      · rw [eb, at_] at e
        cases e
        cases (show Data.seq vs.toArray _ = Data.dict es ep from d)
  have hid : ∀ {b : Addr} {m : Str → Option Value}, t.heap.Ns b m → (hidT t.heap H).Ns b m := fun {b m} ⟨o, es, ep, e, d, r⟩ => ⟨o, es, ep, hidT_get e (free b o e fun _ => .inr ⟨es, ep, d⟩), d, r⟩
  have kb : K.In (hidT t.heap H) := fun b o e => hidT_get (kin b o e) (free b o (kin b o e) fun z => .inl (by rw [← z, e]; simp))
  have md : Mod K mg (hidT t.heap H) := ⟨kb, hid gl, ⟨mb, hid bl, bb⟩, let ⟨mc, h1, h2⟩ := lim; ⟨mc, hid h1, h2⟩⟩
  have en : Env0 P w K mg (hidT t.heap H) callerA [] t H := ⟨rfl, md, fun b o e => of_hidT e, Nat.le_of_eq (hidT_size _ _), trivial, fun b (hb : b ∈ ([] : List Addr)) => (by cases hb), ok, .of_eq gn⟩
  refine codeAny_mono ((F _ kb (hid gl)).go callerA [] t H ⟨[.ref a], []⟩ [.ref a] [.ref a] _ _ rfl hr en (hb t (.ref a)) (.cons rfl .nil) h) fun r u q => ?_
  match r, q with
  | .ok (.ret z), ⟨v, H', os, bare, un, ok', rz, e⟩ =>
    cases (show v = .bl true from e)
    cases (show z = Value.bool true from rz)
    refine ⟨rfl, OldK.of_keep fun b o eo => ?_, os, bare⟩
    cases q : H b with
    | none => exact un.keep b o eo q (fun (z : b ∈ ([] : List Addr)) => by cases z) (by simp)
    | some u =>
      obtain ⟨_, _, ho, rfl⟩ := only b u q
      have e1 := (ok b _ q).1
      have e2 := (ok' b _ (un.frzs b _ _ q)).1
      rw [eo] at e1
      cases e1
      exact e2
theorem lawA {ns : List Int} (kin : K.In t.heap) (gl : t.heap.Ns mainGlobals mg) (bl : t.heap.Ns builtinsNs mb) (bb : ∀ x : Str, x ≠ "__name__" → mb x = bootBuiltins x) (lim : t.heap.NoLimit) (gn : t.gens = #[]) (at_ : t.heap.get? a = some { cls := .type "list", data := .seq vs.toArray })
    (hi : IntsAre vs ns) (hl : ns.length ≤ sizeLine) (F : ∀ base : Heap, K.In base → base.Ns mainGlobals mg → FnA P w K mg base k fa fd [x] sp) (hr : Room k callerA) (hb : ∀ (s : Shared) (u : Value), BindsTo s fd ⟨[u], []⟩ [(x, u)])
    (h : ∀ H : Hp, SqL K H a (ns.map V.int) → sp [.ref a] H (fun v _ => v = .bl true) E0) :
    codeAny (model P w) callerA (.call (.ref fa) ⟨[.ref a], []⟩) (fun r u => r = .ok (.ret (.bool true)) ∧ OldK t.heap u.heap ∧ u.os = t.os ∧ AllBare u.gens) t := by
  have rv := vals_ints hi
  cases hk : K.lookup a with
  | some o =>
    have e := kin a o hk
    rw [at_] at e
    cases e
    refine runA kin gl bl bb lim gn at_ F hr hb (fun _ => none) (fun b o z => by cases z) (fun b u z => by cases z) (h _ (.inr ⟨_, vs.toArray, _, hk, rfl, rfl, rfl, ?_, by simpa using rv⟩))
    rw [List.size_toArray, hi.length]; exact hl
  | none =>
    refine runA kin gl bl bb lim gn at_ F hr hb (upd (fun _ => none) a (.frz { cls := .type "list", data := .seq vs.toArray } (.lst (ns.map V.int)))) (fun b o z => ?_) (fun b u z => ?_) (h _ (.inl (.inr ⟨_, upd_same⟩)))
    · by_cases q : b = a
      · subst q; rw [upd_same] at z; cases z; exact ⟨rfl, hk, _, rfl⟩
      · rw [upd_ne q] at z; cases z
    · by_cases q : b = a
      · subst q; rw [upd_same] at z; cases z; exact ⟨at_, by rw [List.length_map]; exact hl, vs, _, rv, at_⟩
      · rw [upd_ne q] at z; cases z
end
/-- the goal that the head leaves, of the law's own function -/
theorem walkA {l : PySem.W.OpenLaw} {n k : Nat} {q : Program} {loose : List Str} {XP : (Str → Option Value) → Heap → Prop} {YP : World → Heap → Prop} {d : DefRec} {K : Params → PySem.W.Frag} {x : Str} {m : List D → Option D}
    (hn : l.most = some n) (hn2 : n ≤ sizeLine) (hdf : d.params.defaults = []) (hr : Room k callerA) (hY : ∀ (w : World) (h : Heap), YP w h → (K w.params).In h)
    (F : ∀ (w : World) (mg : Str → Option Value) (fa : Addr) (h : Heap), (K w.params).In h → h.Ns mainGlobals mg → mg d.name = some (.ref fa) →
      ∃ fd : FuncData, (∀ (s : Shared) (u : Value), BindsTo s fd ⟨[u], []⟩ [(x, u)]) ∧ ∃ C : Addr, ∀ base : Heap, (K w.params).In base → base.Ns mainGlobals mg → FnA l.prog w (K w.params) mg base k fa fd [x] (spP ⟨l.prog, w, K w.params, C⟩ 1 m))
    (hm : ∀ ns : List Int, ns.length ≤ n → (∀ z ∈ ns, Builtin.Int.intBits z ≤ 1048576) → m [.lst (ns.map D.int)] = some (.bl true)) :
    PySem.W.WalkO q loose XP YP l.row.toRowW d [] (fun f vs => PySem.call f vs) := by
  refine Att.attach_callB hn hdf fun w s₀ s₁ mg mb fa o pm cd doc a vs ns G Y ho hd hcd hmg hobj hints hlen hbits hg => ?_
  have KX := hY w _ Y
  obtain ⟨fd, hb, C, hF⟩ := F w mg fa _ KX G.T.g hmg
  refine lawA KX G.T.g G.T.b G.T.builtins G.T.nolimit hg hobj hints (Nat.le_trans hlen hn2) hF hr hb fun H hS => ⟨rfl, [.lst (ns.map D.int)], H, .bl true, Same.refl _, .cons (.lst hS (rps_ints ns)) .nil, hm ns hlen hbits, fun v H' G' g r => ?_⟩
  cases r
  rfl
/-! ### what the top has left, def by def -/
def DefAt (K : PySem.W.Frag) (x : Str) (st : Stmt) : Prop := ∃ f fd, Fun K x x st f fd ∧ PySem.W.nsIn K mainGlobals x = some (some (.ref f))
def MethAt (K : PySem.W.Frag) (C : Addr) (x qual : Str) (st : Stmt) : Prop := ∃ f fd, Fun K x qual st f fd ∧ PySem.W.findIn K (.ref C) x = some (some (.ref f)) ∧ PySem.W.isFn K (.ref f) = true
section
variable {K : PySem.W.Frag} {x qual : Str} {st : Stmt} {f C : Addr} {od an : Option Addr} {sl : Array (Option Value)} {oc kV dc pm cd ct : Value}
theorem DefAt.mk (a : PySem.W.nsIn K mainGlobals x = some (some (.ref f))) (l : K.lookup f = some ⟨oc, od, .func (PySem.W.fnOf x x (defArgs st) (defBody st) (defScope st) .none kV dc pm an cd ct), sl⟩) (c : PySem.W.codeIn K cd x = true) (k : PySem.W.keepIn K (.ref f) = true) : DefAt K x st :=
  ⟨_, _, fun_mk l c k, a⟩
theorem MethAt.mk (a : PySem.W.findIn K (.ref C) x = some (some (.ref f))) (i : PySem.W.isFn K (.ref f) = true) (l : K.lookup f = some ⟨oc, od, .func (PySem.W.fnOf x qual (defArgs st) (defBody st) (defScope st) .none kV dc pm an cd ct), sl⟩) (c : PySem.W.codeIn K cd qual = true) (k : PySem.W.keepIn K (.ref f) = true) : MethAt K C x qual st :=
  ⟨_, _, fun_mk l c k, a, i⟩
theorem bnds_mk {w : World} {d t1 t2 t3 : Addr} {es : Array DictEntry} {n n1 n2 n3 : Nat} {o1 o2 o3 : Option Addr} {s1 s2 s3 : Array (Option Value)} {k1 k2 k3 k4 k5 k6 : Tok} (l : K.lookup d = some ⟨.type "dict", none, .dict es n, #[]⟩) (lit : PySem.W.KeysLit w.params es.toList) (low : (d == sysModules) = false)
    (e1 : PySem.W.nsIn K d "plain" = some (some (.ref t1))) (e2 : PySem.W.nsIn K d "mirror" = some (some (.ref t2))) (e3 : PySem.W.nsIn K d "ring" = some (some (.ref t3)))
    (l1 : K.lookup t1 = some ⟨.type "tuple", o1, .seq #[.int 1 k1, .int 7 k2] n1, s1⟩) (l2 : K.lookup t2 = some ⟨.type "tuple", o2, .seq #[.int 1 k3, .int 5 k4] n2, s2⟩) (l3 : K.lookup t3 = some ⟨.type "tuple", o3, .seq #[.int 2 k5, .int 5 k6] n3, s3⟩)   : Bnds K w d := by
  refine ⟨⟨es, n, l, lit, low⟩, fun z lo hi h => ?_⟩
  unfold kindB at h
  split at h
  · rename_i e
    cases h
    subst e
    exact ⟨t1, e1, fun H => .inr ⟨_, _, _, l1, rfl, rfl, by rw [sizeLine_eq]; show 2 ≤ 16777216; decide, .cons ⟨_, rfl⟩ (.cons ⟨_, rfl⟩ .nil)⟩⟩
  · split at h
    · rename_i e
      cases h
      subst e
      exact ⟨t2, e2, fun H => .inr ⟨_, _, _, l2, rfl, rfl, by rw [sizeLine_eq]; show 2 ≤ 16777216; decide, .cons ⟨_, rfl⟩ (.cons ⟨_, rfl⟩ .nil)⟩⟩
    · split at h
      · rename_i e
        cases h
        subst e
        exact ⟨t3, e3, fun H => .inr ⟨_, _, _, l3, rfl, rfl, by rw [sizeLine_eq]; show 2 ≤ 16777216; decide, .cons ⟨_, rfl⟩ (.cons ⟨_, rfl⟩ .nil)⟩⟩
      · cases h
end
theorem kit_self {K : PySem.W.Frag} (C : Addr) : PySem.W.kitOne K (.ref C) (.ref C) = some true := by
  unfold PySem.W.kitOne
  first
    | exact if_pos (beq_self_eq_true _)
    | exact if_pos (by rfl)
    | simp
end M
/-! M18: a comprehension over a list of one's own that stays one's own. -/
namespace M
open PySem PySem.Spec PyProof.Rows L2
section
variable {B : Bs} {hv : Hv} {ρ : Rho} {σ : Sg} {H G : Hp} {a p : Addr} {ho u : HO} {d e : D} {i : Nat}
theorem HvsOk.retag {t : Addr → Option Tag} {x : Option Tag} (eH : H a = some ho) (nf : ∀ (o : Obj) (u : HO), ho ≠ .frz o u) : ∀ {r : Hv}, (∀ (j : Nat), j < r.length → t a ≠ some (.tm j)) → HvsOk B t G H σ r → HvsOk B (setT t a x) G H σ r
  | [], _, _ => trivial
  | (v, rv) :: r, n, ⟨h1, h2⟩ => by
    refine ⟨?_, HvsOk.retag eH nf (fun j hj => n j (Nat.lt_succ_of_lt hj)) h2⟩
    cases rv with
    | dat d => exact h1
    | bor j => exact h1
    | new d =>
      obtain ⟨b, hb, f, f1, c', f2, f3⟩ := h1
      have ne : b ≠ a := fun z => n r.length (Nat.lt_succ_self _) (by rw [← z]; exact f2)
      exact ⟨b, hb, f, f1, c', by rw [setT_ne ne]; exact f2, f3⟩
    | lk d =>
      obtain ⟨b, hb, o, j, f, f1, c', f2, f3⟩ := h1
      have ne : b ≠ a := fun z => by rw [z, eH] at f1; cases f1; exact nf _ _ rfl
      exact ⟨b, hb, o, j, f, f1, c', by rw [setT_ne ne]; exact f2, f3⟩
theorem SlOk.retag {t : Addr → Option Tag} {x : Option Tag} {j : Nat} {y : Option (Option V)} {s : Sl} (n : t a ≠ some (.sl j)) (h : SlOk B t G H j y s) : SlOk B (setT t a x) G H j y s := by
  have ne : ∀ b, t b = some (.sl j) → b ≠ a := fun b f z => n (by rw [← z]; exact f)
  cases s with
  | un => trivial
  | dat d => exact h
  | own d => obtain ⟨b, hb, f, f1, c', f2, f3⟩ := h; exact ⟨b, hb, f, f1, c', by rw [setT_ne (ne b f2)]; exact f2, f3⟩
  | io d => obtain ⟨b, hb, f, f1, c', f2, f3⟩ := h; exact ⟨b, hb, f, f1, c', by rw [setT_ne (ne b f2)]; exact f2, f3⟩
  | lck d => obtain ⟨b, hb, o, f, f1, c', f2, f3⟩ := h; exact ⟨b, hb, o, f, f1, c', by rw [setT_ne (ne b f2)]; exact f2, f3⟩
/-- a slot's own thing is taken in hand -/
theorem Rep.take (R : Rep B hv ρ σ H G) (hi : ρ[i]? = some (.own d)) : ∃ a, σ[i]? = some (some (.ref a)) ∧ Rep B ((.ref a, .new d) :: hv) (ρ.set i .un) σ H G := by
  obtain ⟨t, h1, h2, h3⟩ := R.ex
  obtain ⟨a, ho, es, eH, c, et, e0⟩ := h2 i _ hi
  refine ⟨a, es, ⟨setT t a (some (.tm hv.length)), fun b hb => ?_, fun j s hs => ?_, ⟨a, ho, rfl, eH, c, setT_same, e0⟩, ?_⟩, R.sub, R.g0, R.nw, R.hs, R.ioH, R.ioT, by rw [List.length_set, R.len]⟩
  · by_cases z : b = a
    · subst z; exact h1 b (by rw [et]; simp)
    · rw [setT_ne z] at hb; exact h1 b hb
  · rcases set_get hs with ⟨rfl, rfl, _⟩ | ⟨nj, hs⟩
    · trivial
    · exact (h2 j s hs).retag (by rw [et]; intro q; injection q with q; injection q with q; exact nj q.symm)
  · exact h3.retag eH (fun o u => c.nofrz) (fun j _ q => by rw [et] at q; cases q)
/-- the thing under the top goes back to its slot -/
theorem Rep.back2 (R : Rep B ((.ref p, .new e) :: (.ref a, .new d) :: hv) ρ σ H G) (hi : ρ[i]? = some .un) (hσ : σ[i]? = some (some (.ref a))) : Rep B ((.ref p, .new e) :: hv) (ρ.set i (.own d)) σ H G := by
  obtain ⟨t, h1, h2, ⟨p', hp, ep, pH, pc, pt, p0⟩, ⟨a', ho, ea, eH, c, et, e0⟩, h5⟩ := R.ex
  cases ep
  cases ea
  have pa : p ≠ a := fun z => by
    rw [z, et] at pt
    have q : hv.length = hv.length + 1 := by injection pt with pt; injection pt
    omega
  refine ⟨⟨setT (setT t p (some (.tm hv.length))) a (some (.sl i)), fun b hb => ?_, fun j s hs => ?_, ⟨p, hp, rfl, pH, pc, by rw [setT_ne pa]; exact setT_same, p0⟩, ?_⟩, R.sub, R.g0, R.nw, R.hs, R.ioH, R.ioT, by rw [List.length_set, R.len]⟩
  · by_cases z : b = a
    · subst z; exact h1 b (by rw [et]; simp)
    · rw [setT_ne z] at hb
      by_cases z2 : b = p
      · subst z2; exact h1 b (by rw [pt]; simp)
      · rw [setT_ne z2] at hb; exact h1 b hb
  · have ta : setT t p (some (.tm hv.length)) a = some (.tm hv.length) := by rw [setT_ne (fun z => pa z.symm)]; exact et
    rcases set_get hs with ⟨rfl, rfl, _⟩ | ⟨nj, hs⟩
    · exact ⟨a, ho, hσ, eH, c, setT_same, e0⟩
    · exact ((h2 j s hs).retag (by rw [pt]; intro q; cases q)).retag (by rw [ta]; intro q; cases q)
  · have ta : setT t p (some (.tm hv.length)) a = some (.tm hv.length) := by rw [setT_ne (fun z => pa z.symm)]; exact et
    refine (h5.retag pH (fun o u => pc.nofrz) fun j hj q => ?_).retag eH (fun o u => c.nofrz) fun j hj q => ?_
    · rw [pt] at q
      have q : hv.length + 1 = j := by injection q with q; injection q
      omega
    · rw [ta] at q
      have q : hv.length = j := by injection q with q; injection q
      omega
end
section
variable {X : Cx} {B : Bs} {kx vx tg iter : Expr} {ifs : List Expr} {scope : Scope} {own : List (Str × Nat)} {pos : Pos} {sg : MG} {tf : MB} {fk fv : MD} {is : List Nat}
/-- the slot's own list, walked -/
def tIo (B : Bs) (i : Nat) : TI := fun σ H R => ∃ hv ρ G ds, Rep B hv ρ σ H G ∧ ρ[i]? = some (.own (.lst ds)) ∧ ∀ J G' a, σ[i]? = some (some (.ref a)) → JOk B (.ref a, .new (.lst ds)) J ds → Rep B ((.ref a, .new (.lst ds)) :: hv) (ρ.set i .un) σ H G' → R J H
theorem pi_own (hK : X.K = B.c.K) (i : Nat) {x : Str} {p : Pos} (hN : X.N[i]? = some x := by rfl) (hv : Vis X.env.scope x := by first | exact Or.inl rfl | exact Or.inr (Or.inl rfl) | exact Or.inr (Or.inr rfl)) (hd : (x == ("__debug__" : Str)) = false := by decide)
    (hcd : (x == ("__classdict__" : Str)) = false := by decide) : PI X tg (.Name x p) (tIo B i) := (pi_list (pe_var hN hv hd hcd)).wk fun σ H Q ⟨hv, ρ, G, ds, R, hi, k⟩ => by
  obtain ⟨a, es, R1⟩ := R.take hi
  obtain ⟨t, h1, h2, ⟨a', ho, ea, eH, c, et, e0⟩, h4⟩ := R1.ex
  cases ea
  obtain ⟨xs, rfl, rs⟩ := c
  have lst : ∀ {hv' : Hv} {ρ' : Rho} {σ' : Sg} {H' G' : Hp}, Rep B hv' ρ' σ' H' G' → (V.ref a, Rv.new (D.lst ds)) ∈ hv' → ∃ ys, SqL X.K H' a ys ∧ Rps B.c G' ys ds := by
    intro hv' ρ' σ' H' G' R' m
    obtain ⟨t', g1, g2, g3⟩ := R'.ex
    obtain ⟨k', h'⟩ := g3.mem m
    obtain ⟨b, hb, f, f1, c', f2, f3⟩ := h'
    cases f
    obtain ⟨ys, rfl, r⟩ := c'
    exact ⟨ys, .inl (.inl f1), r⟩
  refine ⟨.ref a, es, a, rfl, ⟨xs, .inl (.inl eH)⟩, k _ G a es ⟨?_, ?_⟩ R1⟩
  · intro hv' ρ'' σ' H' G' j d R' m hd
    obtain ⟨ys, hs, r⟩ := lst R' m
    obtain ⟨v, e1, e2⟩ := r.get hd
    exact ⟨⟨_, v, hs, e1⟩, fun x H'' ⟨eH, hx⟩ => by
      subst eH
      have e3 := hx _ hs
      rw [e1] at e3; cases e3
      exact ⟨G', R'.dat e2⟩⟩
  · intro hv' ρ'' σ' H' G' R' m
    obtain ⟨ys, hs, r⟩ := lst R' m
    exact ⟨ys, hs, by rw [r.len]; exact Nat.le_refl _⟩
def mDcO (i : Nat) (e0 : D) (o : D → D → D → Option D) (s : MG) (t : MB) (fk fv : MD) (vs : List Nat) : ME := fun ρ => match ρ[i]? with
  | some (.own (.lst ds)) => (mDcL o s t fk fv vs ds e0 (wipeR (ρ.set i .un) vs)).bind fun q => match q.2[i]? with
    | some .un => some (.new q.1, q.2.set i (.own (.lst ds)))
    | _ => none
  | _ => none
theorem dx_wkO {kd : DKind X.prog X.w} {e0 : D} {o : D → D → D → Option D} (i : Nat) (ko : KdOk B.c kd e0 o) {vs : List Nat} (hvs : ∀ i ∈ is, i ∈ vs) : ∀ σ H Q, tM B (mDcO i e0 o sg tf fk fv vs) σ H Q → tDx kd (tIo B i) (gM B is sg) (tT B tf) (tD B fk) (tD B fv) vs σ H Q := fun σ H Q ⟨hv, ρ, G, R, rv, ρ', hf, kk⟩ => by
  unfold mDcO at hf
  split at hf
  case h_2 => cases hf
  rename_i ds hi0
  obtain ⟨⟨accF, ρ2⟩, e2, hf⟩ := bnd hf
  split at hf
  case h_2 => cases hf
  rename_i hun
  simp only [Option.some.injEq, Prod.mk.injEq] at hf
  obtain ⟨rfl, rfl⟩ := hf
  refine ⟨hv, ρ, G, ds, R, hi0, fun J G1 a0 es jo R1 => fun D0 hD => ?_⟩
  obtain ⟨R2, bo⟩ := R1.toNb
  have nb : NB (nbs ((V.ref a0, Rv.new (D.lst ds)) :: hv)) := nbs_nb
  have R3 := (R2.wiped (vs := vs) nb rfl).new (ho := kd.o0 D0) (d := e0) hD (ko.e0 _ _)
  refine ⟨fun i m H => m = ds.length - i ∧ i ≤ ds.length ∧ ∃ ρi acc G, Rep B ((.ref D0, .new acc) :: nbs ((V.ref a0, Rv.new (D.lst ds)) :: hv)) ρi (wipe σ vs) H G ∧ (∀ (j : Nat) (x : Sl), ρi[j]? = some x → j ∈ vs → x = .un) ∧ mDcL o sg tf fk fv vs (ds.drop i) acc ρi = some (accF, ρ2),
    ⟨_, rfl, Nat.zero_le _, _, e0, _, R3, wipeR_un, e2⟩, ?_⟩
  rintro i' m H2 ⟨rfl, hi, ρi, acc, G2, R4, un, h2⟩
  have mx : (V.ref a0, Rv.new (D.lst ds)) ∈ ((V.ref D0, Rv.new acc) :: nbs ((V.ref a0, Rv.new (D.lst ds)) :: hv)) := List.mem_cons_of_mem _ (List.mem_cons_self ..)
  by_cases hl : i' = ds.length
  · left
    subst hl
    refine ⟨jo.2 _ _ _ _ _ R4 mx, ?_⟩
    rw [List.drop_length] at h2
    cases h2
    have R5 := R4.unwiped (nb.cons fun j q => by cases q) un
    have R6 : Rep B (nbs ((V.ref D0, Rv.new accF) :: hv)) (ρ2.set i (.own (.lst ds))) σ H2 G2 := Rep.back2 R5 hun es
    refine kk _ _ _ (R6.ofNb fun x m' i q => ?_)
    rcases List.mem_cons.mp m' with rfl | m'
    · cases q
    · exact bo x (List.mem_cons_of_mem _ m') i q
  · right
    have hlt : i' < ds.length := Nat.lt_of_le_of_ne hi hl
    have hd : ds[i']? = some ds[i'] := List.getElem?_eq_getElem hlt
    have hdr : ds.drop i' = ds[i'] :: ds.drop (i' + 1) := List.drop_eq_getElem_cons hlt
    obtain ⟨go, yl⟩ := jo.1 _ _ _ _ _ i' _ R4 mx hd
    rw [hdr] at h2
    obtain ⟨r, h3, h2⟩ := bnd h2
    obtain ⟨⟨bt, ρ4⟩, h4, h2⟩ := bnd h2
    refine ⟨go, fun H' => ∃ ρi acc G, Rep B ((.ref D0, .new acc) :: nbs ((V.ref a0, Rv.new (D.lst ds)) :: hv)) ρi (wipe σ vs) H' G ∧ (∀ (j : Nat) (x : Sl), ρi[j]? = some x → j ∈ vs → x = .un) ∧ mDcL o sg tf fk fv vs (ds.drop (i' + 1)) acc ρi = some (accF, ρ2), fun H' ⟨ρi, acc, G, R', un', h'⟩ => ⟨_, by omega, rfl, hlt, ρi, acc, G, R', un', h'⟩, fun x H' hy => ?_⟩
    obtain ⟨G3, R5⟩ := yl x H' hy
    refine ⟨_, ρi, G3, _, nb.cons (fun j q => by cases q), R5, r, h3, fun σ4 H4 G4 w4 R6 => ?_⟩
    have w5 : wipe σ4 vs = wipe σ vs := (w4 vs hvs).trans (wipe_wipe vs)
    refine ⟨w5, ⟨_, r, G4, R6, bt, ρ4, h4, fun H5 G5 R7 => ?_⟩⟩
    cases bt with
    | true =>
      simp only [if_true] at h2 ⊢
      obtain ⟨⟨y, ρ5⟩, h5, h2⟩ := bnd h2
      obtain ⟨⟨z, ρ6⟩, h6, h2⟩ := bnd h2
      obtain ⟨acc', h7, h2⟩ := bnd h2
      refine ⟨_, ρ4, G5, R7, y, ρ5, h5, fun v H6 G6 R8 => ⟨_, ρ5, G6, R8, z, ρ6, h6, fun u H7 G7 R9 => ?_⟩⟩
      obtain ⟨a, ho, ea, eH, cc⟩ := R9.pop.pop.topNew
      cases ea
      obtain ⟨ho', p1, p2⟩ := ko.put G7 H7 D0 ho acc y z acc' v u eH R9.sub cc R9.pop.top R9.top h7
      exact ⟨_, p1, _, _, _, (R9.pop.pop.chgTop p2).wiped (nb.cons fun j q => by cases q) w5, wipeR_un, h2⟩
    | false =>
      simp only [Bool.false_eq_true, if_false] at h2 ⊢
      exact ⟨_, _, _, R7.wiped (nb.cons fun j q => by cases q) w5, wipeR_un, h2⟩
theorem pm_dcO {e0 : D} {o : D → D → D → Option D} (i : Nat) (kd : DKind X.prog X.w) (ko : KdOk B.c kd e0 o) (hu : X.A.units + 1 < cLine) (calm : X.calm = true) (nd : X.N.Nodup) (hi : PI X tg iter (tIo B i)) (bo : BlkOk X.N X.env.scope scope own)
    (hg : ∀ s H C cl fp, PG (BC X scope s H C cl fp) tg (gM B is sg)) (ht : ∀ s H C cl fp, PTs (BC X scope s H C cl fp) ifs (tT B tf)) (hk : ∀ s H C cl fp, PD (BC X scope s H C cl fp) B kx fk) (hv : ∀ s H C cl fp, PD (BC X scope s H C cl fp) B vx fv)
    (hvs : ∀ i ∈ is, i ∈ own.map (·.2) := by decide) (hs : ∀ x, foldedSetIterable iter X.env x = pure x := by intro _; rfl) :
    PM X B (.DictComp kx vx [⟨tg, iter, ifs, 0⟩] scope pos) (mDcO i e0 o sg tf fk fv (own.map (·.2))) := (pe_dx kd hu calm nd hi bo hg ht hk hv hs).wk (dx_wkO i ko hvs)
/-- a, b, c = x, y, z where the three go through a tuple (names that a block reads) -/
theorem ps_tup3M {a b c : Expr} {f g h : ME} (i j l : Nat) {x y z : Str} {px py pz pt : Pos} {kt k2 : Nat} {pt2 : Pos} (hc : X.calm = true) (hN : X.N.Nodup) (ha : PM X B a f) (hb : PM X B b g) (hh : PM X B c h) (hi : X.N[i]? = some x := by rfl) (hj : X.N[j]? = some y := by rfl) (hl : X.N[l]? = some z := by rfl) (hij : i ≠ j := by decide) (hil : i ≠ l := by decide) (hjl : j ≠ l := by decide)
    (hx : Loc X.env.scope x := by first | exact Or.inl rfl | exact Or.inr rfl) (hy : Loc X.env.scope y := by first | exact Or.inl rfl | exact Or.inr rfl) (hz : Loc X.env.scope z := by first | exact Or.inl rfl | exact Or.inr rfl)
    (fx : X.fn x = true ∨ X.env.scope.names.lookup x = some .local := by first | exact .inl rfl | exact .inr rfl | assumption) (fy : X.fn y = true ∨ X.env.scope.names.lookup y = some .local := by first | exact .inl rfl | exact .inr rfl | assumption) (fz : X.fn z = true ∨ X.env.scope.names.lookup z = some .local := by first | exact .inl rfl | exact .inr rfl | assumption)
    (hs : swapsWithSole [.Tuple [.Name x px, .Name y py, .Name z pz] kt pt] (.Tuple [a, b, c] k2 pt2) pos.line X.env = pure false := by rfl)
    (hw : swappedStores [.Tuple [.Name x px, .Name y py, .Name z pz] kt pt] (.Tuple [a, b, c] k2 pt2) X.env = pure none := by rfl)
    (g0 : (assignEach [.Tuple [.Name x px, .Name y py, .Name z pz] kt pt] X.env).map (·.2) = [assign (.Tuple [.Name x px, .Name y py, .Name z pz] kt pt) X.env] := by rfl)
    (g1 : (assignEach [.Name x px, .Name y py, .Name z pz] X.env).map (·.2) = assign (.Name x px) X.env :: (assignEach [.Name y py, .Name z pz] X.env).map (·.2) := by rfl)
    (g2 : (assignEach [.Name y py, .Name z pz] X.env).map (·.2) = assign (.Name y py) X.env :: (assignEach [.Name z pz] X.env).map (·.2) := by rfl)
    (g3 : (assignEach [.Name z pz] X.env).map (·.2) = assign (.Name z pz) X.env :: (assignEach [] X.env).map (·.2) := by rfl)
    (hn : (assignEach [.Name x px, .Name y py, .Name z pz] X.env).length = 3 := by rfl) (hst : (assignEach [.Name x px, .Name y py, .Name z pz] X.env).findIdx? (·.1) = none := by rfl)
    (h1 : starEach [a, b, c] X.env = (false, eval a X.env) :: starEach [b, c] X.env := by rfl) (h2 : starEach [b, c] X.env = (false, eval b X.env) :: starEach [c] X.env := by rfl) (h3 : starEach [c] X.env = (false, eval c X.env) :: starEach [] X.env := by rfl) :
    PSM X B (.Assign [.Tuple [.Name x px, .Name y py, .Name z pz] kt pt] (.Tuple [a, b, c] k2 pt2) pos) (mPar3 i j l f g h) :=
  (ps_asg (pe_tup (pa_cons ha (pa_cons hb (pa_cons hh pa_nil h3) h2) h1)) (pg_tup hc (pgs_cons (pg_name hN hi hx fx) (pgs_cons (pg_name hN hj hy fy) (pgs_cons (pg_name hN hl hz fz) pgs_nil g3) g2) g1) hn hst) hs hw g0).wk fun D σ H ⟨hv, ρ, G, n, R, fl, ρ', hf, k⟩ => by
  obtain ⟨⟨r1, ρ1⟩, e1, hf⟩ := bnd hf
  obtain ⟨⟨r2, ρ2⟩, e2, hf⟩ := bnd hf
  obtain ⟨⟨r3, ρ3⟩, e3, hf⟩ := bnd hf
  obtain ⟨ρ4, e4, hf⟩ := bnd hf
  obtain ⟨ρ5, e5, hf⟩ := bnd hf
  obtain ⟨ρ6, e6, hf⟩ := mpp hf
  cases hf
  refine tM_hold R e1 fun v H1 G1 n1 R1 => tM_hold R1 e2 fun w H2 G2 n2 R2 => tM_hold R2 e3 fun y H3 G3 n3 R3 => ⟨by rw [sizeLine_eq]; show 3 ≤ _; omega, fun p hp => ?_⟩
  have gr : Gr G3 H3 G3 (upd H3 p (.tup [v, w, y])) := ⟨Same.refl _, same_updG hp, fun b o q => by
    have nb : b ≠ p := fun z => by rw [z, R3.sub.free hp] at q; cases q
    rw [upd_ne nb]; exact R3.sub _ _ q, fun b hb => .inl hb⟩
  have R4 := (R3.grow gr).asg ((n.cons n1).cons n2) e4
  have R5 := R4.asg (n.cons n1) e5
  have R6 := R5.asg n e6
  have q : ((σ.set i (some v)).set j (some w)).set l (some y) = ((σ.set l (some y)).set j (some w)).set i (some v) := by
    rw [List.set_comm (some v) (some w) hij, List.set_comm (some v) (some y) hil, List.set_comm (some w) (some y) hjl]
  refine ⟨p, [v, w, y], rfl, SqT.of upd_same, rfl, v, _, rfl, w, _, rfl, y, _, rfl, rfl, ?_⟩
  rw [q]
  exact k _ _ _ R6
end
end M
/-! M19: lists from their end, chained comparisons, texts in a display, is of bools, repr of bools. -/
namespace M
open PySem PySem.Spec PyProof.Rows L2
section
variable {X : Cx} {B : Bs} {tg e a b c : Expr} {f : ME} {fa fb fc : MD} {fr : MA} {pos p : Pos}
theorem Rps.rev {c : Cn} {G : Hp} : ∀ {vs : List V} {ds : List D}, Rps c G vs ds → Rps c G vs.reverse ds.reverse
  | _, _, .nil => .nil
  | _, _, .cons h r => by rw [List.reverse_cons, List.reverse_cons]; exact (Rps.rev r).append (.cons h .nil)
/-! ### x[::-1], x[-2::-1] -/
def mRev (f : ME) : ME := fun ρ => (f ρ).bind fun p => ((look p.1 p.2).bind isL).map fun ds => (.new (.lst ds.reverse), p.2)
theorem pm_rev {k : Nat} {p1 p2 p3 : Pos} (hK : X.K = B.c.K) (he : PM X B e f) : PM X B (.Subscript e (.Slice none none (some (.UnaryOp .USub (.Constant (.int 1) k p1) p2)) p3) pos) (mRev f) := (pe_revL he).wk fun σ H Q ⟨hv, ρ, G, R, rv, ρ', hf, k⟩ => by
  obtain ⟨⟨r1, ρ1⟩, h1, hf⟩ := bnd hf
  obtain ⟨ds, h4, hf⟩ := mpp hf
  cases hf
  obtain ⟨x, h5, h6⟩ := bnd h4
  refine ⟨hv, ρ, G, R, r1, ρ1, h1, fun v H1 G1 R1 => ?_⟩
  cases x <;> simp only [isL, reduceCtorEq, Option.some.injEq] at h6
  subst h6
  obtain ⟨a, xs, rfl, h, r⟩ := R1.look h5
  exact ⟨a, xs, rfl, by rw [hK]; exact h, fun q hq => k _ _ _ (R1.pop.new hq ⟨_, rfl, r.rev⟩)⟩
theorem pick2 (items : Array Value) : slicePick items (some (-2)) none (some (-1)) = items.toList.dropLast.reverse.toArray := by
  unfold slicePick
  have hb : sliceBounds (some (-2)) none (some (-1)) items.size = (max (-1) ((items.size : Int) - 2), -1, -1) := by
    simp only [sliceBounds, Option.getD_some]
    refine Prod.ext ?_ rfl
    show max (-1) (min ((-2 : Int) + (items.size : Int)) ((items.size : Int) - 1)) = _
    omega
  rw [hb]
  show ((sliceRange (max (-1) ((items.size : Int) - 2)) (-1) (-1)).filterMap (items[·]?)).toArray = _
  have e : sliceRange (max (-1) ((items.size : Int) - 2)) (-1) (-1) = (List.range (items.size - 1)).reverse := by
    rcases Nat.eq_zero_or_pos items.size with h | h
    · rw [h]; rfl
    · have e1 : max (-1) ((items.size : Int) - 2) = ((items.size - 1 : Nat) : Int) - 1 := by omega
      rw [e1, PySem.W.krv_sliceRange, PySem.W.krv_range]
  rw [e, List.filterMap_reverse]
  congr 2
  have h := pick_run items 0 (items.size - 1)
  have e0 : (List.range (items.size - 1)).map (0 + ·) = List.range (items.size - 1) := by
    rw [show ((0 + ·) : Nat → Nat) = id from funext fun k => Nat.zero_add k, List.map_id]
  rw [e0, List.drop_zero] at h
  rw [h, List.dropLast_eq_take, Array.length_toList]
def tRev2 (K : PySem.W.Frag) (te : TE) : TE := fun σ H Q => te σ H fun x H1 => ∃ a xs, x = .ref a ∧ SqL K H1 a xs ∧ ∀ p, H1 p = none → Q (.ref p) (upd H1 p (.lst xs.dropLast.reverse))
theorem pe_rev2 {te : TE} {k k' : Nat} {p1 p2 p3 p4 p5 : Pos} (he : PE X e te) : PE X (.Subscript e (.Slice (some (.UnaryOp .USub (.Constant (.int 2) k' p4) p5)) none (some (.UnaryOp .USub (.Constant (.int 1) k p1) p2)) p3) pos) (tRev2 X.K te) := by
  refine ⟨fun pins s σ H Q I h => ?_⟩
  refine Subscript_ (thn (he.run pins s σ H _ I h) fun v s1 ⟨x, H1, I1, r1, q1⟩ => ?_)
  obtain ⟨a, xs, ex, hx, q⟩ := q1
  subst ex
  cases r1
  have hst : PO X (some (.UnaryOp .USub (.Constant (.int 1) k p1) p2)) (tPart (tUn (rU fun i => .int (-i)) (tC (.int 1)))) := po_some (pe_un un_neg pe_int)
  have hlo : PO X (some (.UnaryOp .USub (.Constant (.int 2) k' p4) p5)) (tPart (tUn (rU fun i => .int (-i)) (tC (.int 2)))) := po_some (pe_un un_neg pe_int)
  refine wpAny_Slice (thn (hlo.run pins s1 σ H1 (fun o H2 => o = some (-2) ∧ H2 = H1) I1 ⟨2, rfl, -2, rfl, rfl, rfl⟩) fun vl s2 ⟨l, H2, I2, pl, el, e2⟩ => ?_)
  subst el e2
  refine thn (po_none.run pins s2 σ H2 (fun o H3 => o = none ∧ H3 = H2) I2 ⟨rfl, rfl⟩) fun vu s3 ⟨u, H3, I3, pu, eu, e3⟩ => ?_
  subst eu e3
  refine thn (hst.run pins s3 σ H3 (fun o H4 => o = some (-1) ∧ H4 = H3) I3 ⟨1, rfl, -1, rfl, rfl, rfl⟩) fun vs s4 ⟨o, H4, I4, ps, eo, e4⟩ => ?_
  subst eo e4
  have I5 : Inv X pins σ H4 { s4 with heap := s4.heap.push { cls := .type "slice", data := .fields #[vl, vu, vs] } } := I4.kept (t' := s4.toks) fun b ob q => Heap.get?_push_of_some _ q
  obtain ⟨its, r, ht, hz⟩ := I5.list hx
  have hlen := r.length
  show wpAny (model X.prog X.w) X.A (subscriptTail e (.Slice (some (.UnaryOp .USub (.Constant (.int 2) k' p4) p5)) none (some (.UnaryOp .USub (.Constant (.int 1) k p1) p2)) p3) (.ref a) (.ref s4.heap.objs.size)) (EP X pins σ Q) X.xe { s4 with heap := s4.heap.push { cls := .type "slice", data := .fields #[vl, vu, vs] } }
  refine tail_any (ops := [.ref a, .ref s4.heap.objs.size]) ht.isList.typeIs (PySem.slot_list_getitem.lookup) ?_ (by with_unfolding_all rfl)
  refine wpAny_getItem_list_slice ht.isList (Heap.IsSliceOf.new _ vl vu vs) pl pu ps (by decide) ?_ (by rw [List.size_toArray]; omega)
  rw [pick2]
  refine ⟨.ref _, _, I5.laid (t' := s4.toks) (o := .lst xs.dropLast.reverse) (fun b ob q => Heap.get?_push_of_some _ q) (Nat.le_refl _) ?_, rfl, q _ (I5.hok.fresh (Nat.le_refl _))⟩
  have rd : Vals xs.dropLast its.dropLast := by
    rw [List.dropLast_eq_take, List.dropLast_eq_take, hlen]; exact r.take _
  exact ⟨by rw [List.length_reverse, List.length_dropLast]; omega, _, 0, rd.reverse, Heap.get?_push_size _ rfl⟩
def mRev2 (f : ME) : ME := fun ρ => (f ρ).bind fun p => ((look p.1 p.2).bind isL).map fun ds => (.new (.lst ds.dropLast.reverse), p.2)
theorem pm_rev2 {k k' : Nat} {p1 p2 p3 p4 p5 : Pos} (hK : X.K = B.c.K) (he : PM X B e f) : PM X B (.Subscript e (.Slice (some (.UnaryOp .USub (.Constant (.int 2) k' p4) p5)) none (some (.UnaryOp .USub (.Constant (.int 1) k p1) p2)) p3) pos) (mRev2 f) := (pe_rev2 he).wk fun σ H Q ⟨hv, ρ, G, R, rv, ρ', hf, k⟩ => by
  obtain ⟨⟨r1, ρ1⟩, h1, hf⟩ := bnd hf
  obtain ⟨ds, h4, hf⟩ := mpp hf
  cases hf
  obtain ⟨x, h5, h6⟩ := bnd h4
  refine ⟨hv, ρ, G, R, r1, ρ1, h1, fun v H1 G1 R1 => ?_⟩
  cases x <;> simp only [isL, reduceCtorEq, Option.some.injEq] at h6
  subst h6
  obtain ⟨a, xs, rfl, h, r⟩ := R1.look h5
  refine ⟨a, xs, rfl, by rw [hK]; exact h, fun q hq => k _ _ _ (R1.pop.new hq ⟨_, rfl, Rps.rev ?_⟩)⟩
  rw [List.dropLast_eq_take, List.dropLast_eq_take, r.len]
  exact r.take _

/-! ### reversed -/
theorem jok_revL {K : PySem.W.Frag} {a : Addr} {xs : List V} {ds : List D} (hK : K = B.c.K) (hl : xs.length = ds.length) : JOk B (.ref a, .dat (.lst ds)) (Itv K a xs.length) ds.reverse := by
  refine ⟨fun hv' ρ'' σ' H' G' i d R' m hd => ?_, fun hv' ρ'' σ' H' G' R' m => ?_⟩
  · have q := R'.mem m
    cases q with
    | lst h' rs' =>
      rename_i ys
      have hi : i < ds.length := by
        have := List.getElem?_eq_some_iff.mp hd
        obtain ⟨z, _⟩ := this
        rw [List.length_reverse] at z; exact z
      rw [List.getElem?_reverse hi] at hd
      obtain ⟨v, e1, e2⟩ := rs'.get hd
      have hs : SqL K H' a ys := by rw [hK]; exact R'.sub.seq h'
      rw [← hl] at e1
      exact ⟨⟨by omega, ys, v, hs, e1⟩, fun x H'' ⟨eH, hx⟩ => by
        subst eH
        have e3 := hx _ hs
        rw [e1] at e3; cases e3
        exact ⟨G', R'.dat e2⟩⟩
  · show xs.length ≤ ds.reverse.length
    rw [List.length_reverse, hl]; exact Nat.le_refl _
def iRvL (f : MD) : MI := fun ρ => (f ρ).bind fun p => match p.1 with
  | .lst ds => some (ds.reverse, p.2)
  | _ => none
theorem pi_revLM {p : Pos} (hK : X.K = B.c.K) (hg : Gl X "reversed") (hm : X.mg "reversed" = none) (he : PD X B e fa) (hs : starEach [e] X.env = (false, eval e X.env) :: starEach [] X.env := by rfl) : PIM X B tg (.Call (.Name "reversed" p) [e] [] pos) (iRvL fa) := (RT.pi_revA hg hm he hs).wk fun σ H Q ⟨hv, ρ, G, R, ds, ρ', hf, k⟩ => by
  obtain ⟨⟨d, ρ1⟩, h1, hf⟩ := bnd hf
  refine ⟨hv, ρ, G, R, d, ρ1, h1, fun v H1 G1 R1 => ?_⟩
  cases d <;> simp only [reduceCtorEq, Option.some.injEq, Prod.mk.injEq] at hf
  obtain ⟨rfl, rfl⟩ := hf
  have r := R1.top
  cases r with
  | lst h rs =>
    rename_i a xs
    exact ⟨a, xs, rfl, .inl ⟨by rw [hK]; exact R1.sub.seq h, k _ _ G1 _ (jok_revL hK rs.len) (fun j q => by cases q) R1⟩⟩
/-- lo, lo + c, .. -/
def rcD (lo c : Int) (n : Nat) : List D := (List.range n).map fun i => D.int (lo + (i : Nat) * c)
theorem rcD_get {lo c : Int} {n i : Nat} {d : D} (h : (rcD lo c n)[i]? = some d) : i < n ∧ d = .int (lo + (i : Nat) * c) := by
  unfold rcD at h
  rw [List.getElem?_map] at h
  by_cases hi : i < n
  · rw [List.getElem?_range hi] at h
    cases h
    exact ⟨hi, rfl⟩
  · rw [List.getElem?_eq_none (by rw [List.length_range]; omega)] at h
    cases h
theorem rcD_len {lo c : Int} {n : Nat} : (rcD lo c n).length = n := by unfold rcD; rw [List.length_map, List.length_range]
theorem jok_rangeC {lo c : Int} {n : Nat} {hx : V × Rv} : JOk B hx (Itc lo c n) (rcD lo c n) := by
  refine ⟨fun hv ρ σ H G i d R m hd => ?_, fun hv ρ σ H G R m => by rw [rcD_len]; exact Nat.le_refl _⟩
  obtain ⟨h1, rfl⟩ := rcD_get hd
  exact ⟨h1, fun x H' ⟨e, e2⟩ => by subst e; subst e2; exact ⟨G, R.dat (.int _)⟩⟩
/-- range(i, j, -1) -/
def iRg3 (f : MA) : MI := fun ρ => (f ρ).bind fun p => match p.1 with
  | [.int i, .int j, .int k] => if (small i && small j && decide (k = -1)) = true then some (rcD i (-1) (i - j).toNat, p.2) else none
  | _ => none
theorem pi_rg3M {p : Pos} (hg : Gl X "range") (hm : X.mg "range" = none) (ha : PAM X B [a, b, c] fr) (hs : starEach [a, b, c] X.env = (false, eval a X.env) :: starEach [b, c] X.env := by rfl) (hpl : (backTo pos (starEach [b, c] X.env)).any (·.1) = false := by rfl) : PIM X B tg (.Call (.Name "range" p) [a, b, c] [] pos) (iRg3 fr) := (pi_range3 hg hm ha hs hpl).wk fun σ H Q ⟨hv, ρ, G, R, ds, ρ', hf, k⟩ => by
  obtain ⟨⟨xs, ρ1⟩, h1, hf⟩ := bnd hf
  refine ⟨hv, ρ, G, R, xs, ρ1, h1, fun vs H1 G1 R1 rs => ?_⟩
  match xs, rs, hf with
  | [.int i, .int j, .int l], .cons (.int _) (.cons (.int _) (.cons (.int _) .nil)), hf =>
    by_cases hb : (small i && small j && decide (l = -1)) = true
    · simp only [hb, if_true, Option.some.injEq, Prod.mk.injEq] at hf
      obtain ⟨rfl, rfl⟩ := hf
      simp only [Bool.and_eq_true] at hb
      obtain ⟨b1, b2⟩ := of_decide_eq_true hb.1.1
      obtain ⟨b3, b4⟩ := of_decide_eq_true hb.1.2
      have b5 := of_decide_eq_true hb.2
      subst b5
      exact ⟨i, j, -1, _, rfl, RgC.neg b1 b2 b3 b4, k _ _ G1 (.non, .dat .non) jok_rangeC (fun j q => by cases q) (R1.dat .non)⟩
    · simp only [hb] at hf; cases hf
/-- reversed(range(j)) -/
def iRvR (f : MD) : MI := fun ρ => (f ρ).bind fun p => match p.1 with
  | .int j => if small j = true then some (rcD (((j.toNat : Nat) : Int) - 1) (-1) j.toNat, p.2) else none
  | _ => none
theorem pi_revRM {p p2 pos2 : Pos} (hg : Gl X "reversed") (hm : X.mg "reversed" = none) (hg2 : Gl X "range") (hm2 : X.mg "range" = none) (ha : PD X B a fa) (na : starEach [a] X.env = (false, eval a X.env) :: starEach [] X.env := by rfl)
    (hs : starEach [.Call (.Name "range" p2) [a] [] pos2] X.env = (false, eval (.Call (.Name "range" p2) [a] [] pos2) X.env) :: starEach [] X.env := by rfl) :
    PIM X B tg (.Call (.Name "reversed" p) [.Call (.Name "range" p2) [a] [] pos2] [] pos) (iRvR fa) := (pi_revR hg hm (prg_1 hg2 hm2 ha na) hs).wk fun σ H Q ⟨hv, ρ, G, R, ds, ρ', hf, k⟩ => by
  obtain ⟨⟨d, ρ1⟩, h1, hf⟩ := bnd hf
  refine ⟨hv, ρ, G, R, d, ρ1, h1, fun v H1 G1 R1 => ?_⟩
  cases d <;> simp only [reduceCtorEq] at hf
  rename_i j
  by_cases hb : small j = true
  · simp only [hb, if_true, Option.some.injEq, Prod.mk.injEq] at hf
    obtain ⟨rfl, rfl⟩ := hf
    obtain ⟨b1, b2⟩ := of_decide_eq_true hb
    have r := R1.top
    cases r
    refine ⟨j, rfl, by omega, by omega, b1, b2, ?_⟩
    have e : (0 : Int) + (((j - 0).toNat : Nat) : Int) - 1 = ((j.toNat : Nat) : Int) - 1 := by rw [Int.sub_zero, Int.zero_add]
    rw [e, Int.sub_zero]
    exact k _ _ G1 (.non, .dat .non) jok_rangeC (fun j q => by cases q) (R1.pop.dat .non)
  · simp only [hb] at hf; cases hf

/-! ### a <= b <= c -/
def mChain (o o' : D → D → Option D) (fa fb fc : MD) : MD := fun ρ => (fa ρ).bind fun p => (fb p.2).bind fun q => (o p.1 q.1).bind fun d => match d with
  | .bl true => (fc q.2).bind fun r => (o' q.1 r.1).map fun d => (d, r.2)
  | .bl false => some (.bl false, q.2)
  | _ => none
theorem chain_wk {r r' : R2} {o o' : D → D → Option D} (ho : OpD B r o) (ho' : OpD B r' o') : ∀ σ H Q, tD B (mChain o o' fa fb fc) σ H Q → tChain r r' (tD B fa) (tD B fb) (tD B fc) σ H Q := fun σ H Q ⟨hv, ρ, G, R, d, ρ', hf, k⟩ => by
  obtain ⟨⟨d1, ρ1⟩, h1, hf⟩ := bnd hf
  obtain ⟨⟨d2, ρ2⟩, h2, hf⟩ := bnd hf
  obtain ⟨d3, h3, hf⟩ := bnd hf
  refine ⟨hv, ρ, G, R, d1, ρ1, h1, fun v H1 G1 R1 => ⟨_, ρ1, G1, R1, d2, ρ2, h2, fun w H2 G2 R2 => ?_⟩⟩
  refine ho G2 H2 v w d1 d2 d3 _ R2.sub R2.pop.top R2.top h3 fun u ru => ?_
  match d3, hf with
  | .bl true, hf =>
    cases ru
    obtain ⟨⟨d4, ρ4⟩, h4, hf⟩ := bnd hf
    obtain ⟨d5, h5, hf⟩ := mpp hf
    cases hf
    refine ⟨true, rfl, ?_⟩
    rw [if_pos rfl]
    refine ⟨_, ρ2, G2, R2, d4, ρ4, h4, fun z H4 G4 R4 => ?_⟩
    exact ho' G4 H4 w z d2 d4 _ _ R4.sub R4.pop.top R4.top h5 fun u ru => k u H4 G4 (R4.pop.pop.pop.dat ru)
  | .bl false, hf =>
    cases ru
    cases hf
    refine ⟨false, rfl, ?_⟩
    rw [if_neg Bool.false_ne_true]
    exact k _ H2 G2 (R2.pop.pop.dat (.bl _))
theorem pd_chainLe (ha : PD X B a fa) (hb : PD X B b fb) (hc : PD X B c fc) (hm : lastMarks [.LtE, .LtE] [b, c] = false := by with_unfolding_all rfl) : PD X B (.Compare a [.LtE, .LtE] [b, c] pos) (mChain oLe oLe fa fb fc) := (pe_chain op_le op_le ha hb hc hm).wk (chain_wk opd_B0 opd_B0)
theorem pb_chainLe (ha : PD X B a fa) (hb : PD X B b fb) (hc : PD X B c fc) (hm : lastMarks [.LtE, .LtE] [b, c] = false := by with_unfolding_all rfl) : PB X B (.Compare a [.LtE, .LtE] [b, c] pos) (asB (mChain oLe oLe fa fb fc)) := tt_of (chain_wk opd_B0 opd_B0) (pt_chain op_le op_le ha hb hc hm)

/-! ### x in ("a", "b") -/
def strsOf : List D → Option (List Str)
  | [] => some []
  | .str i :: ds => (strsOf ds).map fun ns => i :: ns
  | _ => none
theorem strsOf_eq : ∀ {ds : List D} {ns : List Str}, strsOf ds = some ns → ds = ns.map D.str
  | [], ns, h => by simp only [strsOf, Option.some.injEq] at h; subst h; rfl
  | d :: ds, ns, h => by
    cases d <;> simp only [strsOf, reduceCtorEq] at h
    obtain ⟨ms, e1, e2⟩ := mpp h
    subst e2
    rw [strsOf_eq e1]; rfl
theorem Rps.strs {c : Cn} {G : Hp} : ∀ {vs : List V} {ns : List Str}, Rps c G vs (ns.map D.str) → vs = ns.map V.str
  | _, [], .nil => rfl
  | _, n :: ns, .cons h r => by
    cases h
    rw [Rps.strs (ns := ns) r]; rfl
def oInS (neg : Bool) (x y : D) : Option D := match x, y with
  | .str i, .tup ds => (strsOf ds).map fun ns => .bl (if neg then !inV (.str i) (ns.map V.str) else inV (.str i) (ns.map V.str))
  | _, _ => none
theorem flat_strs : ∀ ns : List Str, (ns.map V.str).all flatV = true
  | [] => rfl
  | n :: ns => by rw [List.map_cons, List.all_cons, flat_strs ns]; rfl
theorem opd_inS {K : PySem.W.Frag} (neg : Bool) : OpD B (rIn K neg) (oInS neg) := fun G H v w x y d Q s hx hy e k => by
  cases hx <;> cases hy <;> simp only [oInS, reduceCtorEq] at e
  obtain ⟨ns, e1, e2⟩ := mpp e
  subst e2
  rename_i i a xs ds h r
  rw [strsOf_eq e1] at r
  have rv := r.strs
  subst rv
  refine ⟨a, _, rfl, .inr (SqT.of (s _ _ h)), rfl, flat_strs ns, ?_⟩
  exact k _ (.bl _)
theorem pd_inS (ha : PD X B a fa) (hb : PD X B b fb) (hm : behindInMarks .In b = false := by rfl) : PD X B (.Compare a [.In] [b] pos) (m2 (oInS false) fa fb) := pd_cmp op_in_seq (opd_inS false) ha hb hm
theorem pb_inS (ha : PD X B a fa) (hb : PD X B b fb) (hm : behindInMarks .In b = false := by rfl) : PB X B (.Compare a [.In] [b] pos) (asB (m2 (oInS false) fa fb)) := pb_cmp op_in_seq (opd_inS false) ha hb hm
theorem pd_ninS (ha : PD X B a fa) (hb : PD X B b fb) (hm : behindInMarks .NotIn b = false := by rfl) : PD X B (.Compare a [.NotIn] [b] pos) (m2 (oInS true) fa fb) := pd_cmp op_notIn_seq (opd_inS true) ha hb hm
theorem pb_ninS (ha : PD X B a fa) (hb : PD X B b fb) (hm : behindInMarks .NotIn b = false := by rfl) : PB X B (.Compare a [.NotIn] [b] pos) (asB (m2 (oInS true) fa fb)) := pb_cmp op_notIn_seq (opd_inS true) ha hb hm

/-! ### is True -/
def oIsB (x y : D) : Option D := match x, y with
  | .bl a, .bl b => some (.bl (decide (a = b)))
  | _, _ => none
def oNotB (x y : D) : Option D := match x, y with
  | .bl a, .bl b => some (.bl (!decide (a = b)))
  | _, _ => none
theorem opd_isB : OpD B rIsB oIsB := fun G H v w x y d Q s hx hy e k => by
  cases hx <;> cases hy <;> simp only [oIsB, reduceCtorEq, Option.some.injEq] at e
  subst e
  exact ⟨_, _, rfl, rfl, k _ (.bl _)⟩
theorem opd_notB : OpD B rNotB oNotB := fun G H v w x y d Q s hx hy e k => by
  cases hx <;> cases hy <;> simp only [oNotB, reduceCtorEq, Option.some.injEq] at e
  subst e
  exact ⟨_, _, rfl, rfl, k _ (.bl _)⟩
theorem pd_isB (ha : PD X B a fa) (hb : PD X B b fb) : PD X B (.Compare a [.Is] [b] pos) (m2 oIsB fa fb) := pd_cmp op_isBl opd_isB ha hb (nomark _)
theorem pb_isB (ha : PD X B a fa) (hb : PD X B b fb) : PB X B (.Compare a [.Is] [b] pos) (asB (m2 oIsB fa fb)) := pb_cmp op_isBl opd_isB ha hb (nomark _)
theorem pd_notB (ha : PD X B a fa) (hb : PD X B b fb) : PD X B (.Compare a [.IsNot] [b] pos) (m2 oNotB fa fb) := pd_cmp op_notBl opd_notB ha hb (nomark _)
theorem pb_notB (ha : PD X B a fa) (hb : PD X B b fb) : PB X B (.Compare a [.IsNot] [b] pos) (asB (m2 oNotB fa fb)) := pb_cmp op_notBl opd_notB ha hb (nomark _)

/-! ### isinstance of tuples, texts -/
def isiTup : D → Option Bool
  | .non => some false | .bl _ => some false | .int _ => some false | .str _ => some false | .lst _ => some false | .tup _ => some true
  | _ => none
def isiStr : D → Option Bool
  | .non => some false | .bl _ => some false | .int _ => some false | .str _ => some true | .lst _ => some false | .tup _ => some false
  | _ => none
theorem isi_tup (hK : X.K = B.c.K) : ∀ (G H : Hp) (v : V) (x d : D) (Q : VK), Same G H → Rh B.c G H v x → oIsi isiTup x = some d → (∀ u, Rp B.c G u d → Q u H) → rIsi X.K [v, .ty "tuple"] H Q :=
  isi_core hK (fun n d hn b hb => by
    cases d <;> simp only [isiTup, Option.some.injEq, reduceCtorEq] at hb hn <;> subst hn hb <;> decide +kernel) fun d hd => by cases d <;> first | rfl | exact hd.elim
theorem isi_str (hK : X.K = B.c.K) : ∀ (G H : Hp) (v : V) (x d : D) (Q : VK), Same G H → Rh B.c G H v x → oIsi isiStr x = some d → (∀ u, Rp B.c G u d → Q u H) → rIsi X.K [v, .ty "str"] H Q :=
  isi_core hK (fun n d hn b hb => by
    cases d <;> simp only [isiStr, Option.some.injEq, reduceCtorEq] at hb hn <;> subst hn hb <;> decide +kernel) fun d hd => by cases d <;> first | rfl | exact hd.elim
/-! ### repr of a bool -/
def reprB (b : Bool) : Str := if b then "True" else "False"
def oReprB : D → Option D
  | .bl b => some (.str (reprB b))
  | _ => none
theorem pd_reprB (hg : Gl X "repr") (hm : X.mg "repr" = none) (ha : PM X B e f) (he : starEach (e :: []) X.env = (false, eval e X.env) :: starEach [] X.env := by rfl) (hpl : (backTo pos (starEach [] X.env)).any (·.1) = false := by rfl) : PD X B (.Call (.Name "repr" p) (e :: []) [] pos) (m1 oReprB f) :=
  pd_b1 (r := fun xs H Q => ∃ b, xs = [.bl b] ∧ Q (.str (reprB b)) H) (fun pins s σ H xs us Q I r h => by
      obtain ⟨b, rfl, k⟩ := h
      obtain ⟨u, rfl, ru⟩ := vals1 r
      cases (show u = Value.bool b from ru)
      exact P.repr_of_bool ⟨.str _, H, I.tok _, ⟨s.toks, rfl⟩, k⟩)
    (fun G H v x d Q s hx e k => by
      cases x <;> simp only [oReprB, reduceCtorEq, Option.some.injEq] at e
      subst e
      cases hx
      exact ⟨_, rfl, k _ (.str _)⟩) hg hm (by decide +kernel) ha (by decide) (by decide) he hpl
/-! ### lists put together, given away or not -/
def rCatL (K : PySem.W.Frag) : R2 := fun x y H Q => ∃ l b xs zs, x = .ref l ∧ y = .ref b ∧ SqL K H l xs ∧ SqL K H b zs ∧ xs.length + zs.length ≤ sizeLine ∧ ∀ p, H p = none → Q (.ref p) (upd H p (.lst (xs ++ zs)))
theorem op_catL : OpR X (binaryOp .Add) (rCatL X.K) := by
  intro pins s σ H x y v u Q I rx ry h
  obtain ⟨l, b, xs, zs, rfl, rfl, hH, hB, hz, q⟩ := h
  cases rx
  cases ry
  obtain ⟨its, r, e, z1⟩ := I.list hH
  obtain ⟨its2, r2, e2, z2⟩ := I.list hB
  have l1 := r.length
  have l2 := r2.length
  obtain ⟨⟨cls, dd, data, sl⟩, ho, hc, n, hd⟩ := id e.isList
  obtain ⟨⟨cls2, dd2, data2, sl2⟩, ho2, hc2, n2, hd2⟩ := id e2.isList
  simp only at hc hd hc2 hd2
  subst hc hd hc2 hd2
  have ea : its.toArray ++ its2.toArray = (its ++ its2).toArray := by simp
  refine concat_meets ⟨_, ho, rfl⟩ ⟨_, ho2, rfl⟩ noFill_list_add seq_list_add PySem.F.slot_list_add PySem.F.entry_list_add (PySem.F.args_list_add_2 _ _) (list_addW l b its.toArray its2.toArray n n2 dd dd2 sl sl2 (by simp only [List.size_toArray]; omega)) ⟨ho, ho2, ?_⟩
  rw [ea]
  exact ⟨.ref _, _, I.lnew (t' := s.toks) (r.append r2) (by rw [List.length_append]; omega), rfl, q _ I.fresh⟩
def mCatL (f g : ME) : ME := fun ρ => (f ρ).bind fun p => (g p.2).bind fun q => (look p.1 q.2).bind fun x => (look q.1 q.2).bind fun y => (oCat x y).map fun d => (.new d, q.2)
theorem pm_catL {g : ME} (hK : X.K = B.c.K) (ha : PM X B a f) (hb : PM X B b g) : PM X B (.BinOp a .Add b pos) (mCatL f g) := (pe_op op_catL ha hb).wk fun σ H Q ⟨hv, ρ, G, R, rv, ρ', hf, k⟩ => by
  obtain ⟨⟨r1, ρ1⟩, h1, hf⟩ := bnd hf
  obtain ⟨⟨r2, ρ2⟩, h2, hf⟩ := bnd hf
  obtain ⟨x, h3, hf⟩ := bnd hf
  obtain ⟨y, h4, hf⟩ := bnd hf
  obtain ⟨d, e, hf⟩ := mpp hf
  cases hf
  refine ⟨hv, ρ, G, R, r1, ρ1, h1, fun v H1 G1 R1 => ⟨_, ρ1, G1, R1, r2, ρ2, h2, fun w H2 G2 R2 => ?_⟩⟩
  have c1 := R2.pop.look h3
  have c2 := R2.look h4
  clear h3 h4
  obtain ⟨ds, rfl⟩ : ∃ ds, x = .lst ds := by cases x <;> first | exact ⟨_, rfl⟩ | (simp only [oCat, reduceCtorEq] at e)
  obtain ⟨es, rfl⟩ : ∃ es, y = .lst es := by cases y <;> first | exact ⟨_, rfl⟩ | (simp only [oCat, reduceCtorEq] at e)
  simp only [oCat] at e
  by_cases hz : decide (ds.length + es.length ≤ sizeLine) = true
  · rw [if_pos hz] at e
    cases e
    obtain ⟨a1, xs, rfl, g1, q1⟩ := c1
    obtain ⟨a2, zs, rfl, g2, q2⟩ := c2
    exact ⟨a1, a2, xs, zs, rfl, rfl, by rw [hK]; exact g1, by rw [hK]; exact g2, by rw [q1.len, q2.len]; exact of_decide_eq_true hz, fun q hq => k _ _ _ (R2.pop.pop.new hq ⟨_, rfl, q1.append q2⟩)⟩
  · rw [if_neg hz] at e; cases e
/-- a, b = x, y where the two go through a tuple (names that a block reads) -/
theorem ps_tup2M {a b : Expr} {f g : ME} (i j : Nat) {x y : Str} {px py pt : Pos} {kt k2 : Nat} {pt2 : Pos} (hc : X.calm = true) (hN : X.N.Nodup) (ha : PM X B a f) (hb : PM X B b g) (hi : X.N[i]? = some x := by rfl) (hj : X.N[j]? = some y := by rfl) (hij : i ≠ j := by decide)
    (hx : Loc X.env.scope x := by first | exact Or.inl rfl | exact Or.inr rfl) (hy : Loc X.env.scope y := by first | exact Or.inl rfl | exact Or.inr rfl)
    (fx : X.fn x = true ∨ X.env.scope.names.lookup x = some .local := by first | exact .inl rfl | exact .inr rfl | assumption) (fy : X.fn y = true ∨ X.env.scope.names.lookup y = some .local := by first | exact .inl rfl | exact .inr rfl | assumption)
    (hs : swapsWithSole [.Tuple [.Name x px, .Name y py] kt pt] (.Tuple [a, b] k2 pt2) pos.line X.env = pure false := by rfl)
    (hw : swappedStores [.Tuple [.Name x px, .Name y py] kt pt] (.Tuple [a, b] k2 pt2) X.env = pure none := by rfl)
    (g0 : (assignEach [.Tuple [.Name x px, .Name y py] kt pt] X.env).map (·.2) = [assign (.Tuple [.Name x px, .Name y py] kt pt) X.env] := by rfl)
    (g1 : (assignEach [.Name x px, .Name y py] X.env).map (·.2) = assign (.Name x px) X.env :: (assignEach [.Name y py] X.env).map (·.2) := by rfl)
    (g2 : (assignEach [.Name y py] X.env).map (·.2) = assign (.Name y py) X.env :: (assignEach [] X.env).map (·.2) := by rfl)
    (hn : (assignEach [.Name x px, .Name y py] X.env).length = 2 := by rfl) (hst : (assignEach [.Name x px, .Name y py] X.env).findIdx? (·.1) = none := by rfl)
    (h1 : starEach [a, b] X.env = (false, eval a X.env) :: starEach [b] X.env := by rfl) (h2 : starEach [b] X.env = (false, eval b X.env) :: starEach [] X.env := by rfl) :
    PSM X B (.Assign [.Tuple [.Name x px, .Name y py] kt pt] (.Tuple [a, b] k2 pt2) pos) (mPar i j f g) :=
  (ps_asg (pe_tup (pa_cons ha (pa_cons hb pa_nil h2) h1)) (pg_tup hc (pgs_cons (pg_name hN hi hx fx) (pgs_cons (pg_name hN hj hy fy) pgs_nil g2) g1) hn hst) hs hw g0).wk fun D σ H ⟨hv, ρ, G, n, R, fl, ρ', hf, k⟩ => by
  obtain ⟨⟨r1, ρ1⟩, e1, hf⟩ := bnd hf
  obtain ⟨⟨r2, ρ2⟩, e2, hf⟩ := bnd hf
  obtain ⟨ρ4, e4, hf⟩ := bnd hf
  obtain ⟨ρ5, e5, hf⟩ := mpp hf
  cases hf
  refine tM_hold R e1 fun v H1 G1 n1 R1 => tM_hold R1 e2 fun w H2 G2 n2 R2 => ⟨by rw [sizeLine_eq]; show 2 ≤ _; omega, fun p hp => ?_⟩
  have gr : Gr G2 H2 G2 (upd H2 p (.tup [v, w])) := ⟨Same.refl _, same_updG hp, fun b o q => by
    have nb : b ≠ p := fun z => by rw [z, R2.sub.free hp] at q; cases q
    rw [upd_ne nb]; exact R2.sub _ _ q, fun b hb => .inl hb⟩
  have R4 := (R2.grow gr).asg (n.cons n1) e4
  have R5 := R4.asg n e5
  have q : (σ.set i (some v)).set j (some w) = (σ.set j (some w)).set i (some v) := List.set_comm _ _ hij
  refine ⟨p, [v, w], rfl, SqT.of upd_same, rfl, v, _, rfl, w, _, rfl, rfl, ?_⟩
  rw [q]
  exact k _ _ _ R5
end
/-- a def under another name -/
def DefAs (K : PySem.W.Frag) (x n : Str) (st : Stmt) : Prop := ∃ f fd, Fun K n n st f fd ∧ PySem.W.nsIn K mainGlobals x = some (some (.ref f))
theorem DefAs.mk {K : PySem.W.Frag} {x n : Str} {st : Stmt} {f : Addr} {od an : Option Addr} {sl : Array (Option Value)} {oc kV dc pm cd ct : Value} (a : PySem.W.nsIn K mainGlobals x = some (some (.ref f))) (l : K.lookup f = some ⟨oc, od, .func (PySem.W.fnOf n n (defArgs st) (defBody st) (defScope st) .none kV dc pm an cd ct), sl⟩) (c : PySem.W.codeIn K cd n = true) (k : PySem.W.keepIn K (.ref f) = true) : DefAs K x n st :=
  ⟨_, _, fun_mk l c k, a⟩
end M
/-! M20: xs[:] = ys; a call by keywords alone; None or a new thing; append to a new thing. -/
namespace M
open PySem PySem.Spec PyProof.Rows L2
theorem bounds_all {n : Nat} : sliceBounds none none none n = (((0 : Nat) : Int), ((n : Nat) : Int), 1) := by
  simp only [sliceBounds, Option.getD_none]
  rfl
section
variable {prog : Program} {w : World} {A : Around} {E : Value → Shared → Prop} {s : Shared}
theorem setItem_all {l b sl : Addr} {items new : Array Value} {n : Nat} {o2 : Obj} {n2 : Nat} {Q : Unit → Shared → Prop}
    (e : s.heap.get? l = some { cls := .type "list", data := .seq items n }) (hb : s.heap.IsList b new) (e2 : s.heap.get? b = some o2) (d2 : o2.data = .seq new n2) (hne : l ≠ b)
    (hs : s.heap.IsSliceOf sl .none .none .none)
    (hsz : items.size + new.size ≤ sizeLine) (h : Q () { s with heap := s.heap.update l (Obj.mapSeq fun xs => xs.extract 0 0 ++ new ++ xs.extract items.size xs.size) }) :
    wpAny (model prog w) A (setItem (.ref l) (.ref sl) (.ref b)) Q E s := by
  have hl : s.heap.IsList l items := PySem.IsL.isList e
  obtain ⟨os, hos, hcs, hds⟩ := id hs
  have hTs : s.TypeIs (.ref sl) "slice" := ⟨os, hos, hcs⟩
  have hstep : ¬ ((rawPart none == rawInt 0) = true) := Bool.false_ne_true
  have hsame : Builtin.List.listSameRef (.ref l) (.ref b) = false := by
    unfold Builtin.List.listSameRef
    exact beq_eq_false_iff_ne.mpr hne
  have hmax : (max (((0 : Nat) : Int)) (items.size : Int)).toNat = items.size := by omega
  have hz' : ((fun xs : Array Value => xs.extract 0 0 ++ new ++ xs.extract items.size xs.size) items).size ≤ sizeLine + 1 := by
    simp only [Array.size_append, Array.size_extract]
    omega
  unfold setItem
  try with_reducible refine wpAny_holding ?_
  first | refine wpAny_bind (wpAny_pure ?_) | skip
  refine wpAny_bind (wpAny_sequenceKey hl.typeIs (by decide) ?_)
  refine wpAny_bind (wpAny_callSpecial?_slot (name := Str.ofString "__setitem__") hl.typeIs slot_list_setitem
    (wpAny_call_entry slot_list_setitem hl.typeIs entry_list_setitem ?_ (args_list_setitem _ _ _)))
  show wpAny _ _ (Builtin.List.listSubscript? (.ref sl) >>= _) _ _ s
  refine wpAny_bind ?_
  unfold Builtin.List.listSubscript?
  refine wpAny_bind (wpAny_specialOf hTs slice_no_index ?_)
  simp only [Option.isNone_none, if_true]
  refine wpAny_pure ?_
  show wpAny _ _ (typeOf (.ref sl) >>= _) _ _ s
  refine wpAny_bind (wpAny_typeOf hTs ?_)
  first
    | rw [if_neg (by decide)]
    | refine PySem.W.KFB.if_not (by decide) ?_
  rw [listSliceParts_eq]
  refine wpAny_bind (wpAny_bind (wpAny_field hos hds (x := .none) rfl (wpAny_bind (wpAny_listPart .none ?_))))
  rw [if_neg hstep]
  refine wpAny_bind (wpAny_field hos hds (x := .none) rfl (wpAny_bind (wpAny_listPart .none ?_)))
  refine wpAny_bind (wpAny_field hos hds (x := .none) rfl (wpAny_bind (wpAny_listPart .none (wpAny_pure ?_))))
  first
    | simp only [hsame, Bool.false_eq_true, if_false]
    | refine PySem.W.KFB.if_not hsame ?_
    | (dsimp only
       rw [if_neg (by rw [hsame]; exact Bool.false_ne_true)])
  refine wpAny_bind (m := Builtin.List.listAllItems (.ref b) "must assign iterable to extended slice") ?_
  unfold Builtin.List.listAllItems
  refine wpAny_bind (wpAny_typeOf hb.typeIs ?_)
  first
    | refine PySem.W.KFB.if_so (by decide) ?_
    | rw [if_pos (by decide)]
    | simp only [beq_self_eq_true, Bool.true_or, if_true]
  unfold Builtin.List.listItems
  refine wpAny_bind (wpAny_seqItems e2 d2 (wpAny_pure ?_))
  refine wpAny_bind (wpAny_bind (wpAny_seqItems e rfl (wpAny_pure ?_)))
  refine wpAny_bind (wpAny_of_eq ((sliceIndices_raw none none none items.size (by simp)).trans (congrArg (pure : Int × Int × Int → Sem (Int × Int × Int)) bounds_all)) ?_)
  show wpAny _ _ (if ((1 : Int) == 1) = true then _ else _) _ _ s
  rw [if_pos (by decide)]
  refine wpAny_bind (wpAny_rule ?_)
  first
    | simp only [notLongL hsz, Bool.false_eq_true, if_false]
    | refine PySem.W.KFB.if_not (notLongL hsz) ?_
  first | refine wpAny_bind (wpAny_pure ?_) | skip
  show wpAny _ _ (updateSeq l (fun xs => xs.extract 0 (((0 : Nat) : Int)).toNat ++ new ++ xs.extract (max (((0 : Nat) : Int)) (items.size : Int)).toNat xs.size) >>= _) _ _ s
  rw [hmax, Int.toNat_natCast]
  refine wpAny_bind (wpAny_updateSeq (hz := Nat.le_trans (Nat.le_add_right _ _) hsz) (_hz' := hz') e rfl ?_)
  refine wpAny_bind (wpAny_letGo ?_)
  first
    | exact wpAny_bind (wpAny_pure (wpAny_pure ⟨.none, rfl, wpAny_pure h⟩))
    | exact wpAny_pure ⟨.none, rfl, wpAny_pure h⟩
end
section
variable {X : Cx} {B : Bs} {f : ME} {fa : MD} {e : Expr} {pos : Pos}
theorem set_all {pins : List (Addr × Obj)} {s : Shared} {σ : L2.St} {H : Hp} {l b sl : Addr} {xs ys : List V} {Q : Unit → Shared → Prop} (I : Inv X pins σ H s)
    (hH : H l = some (.lst xs)) (hB : SqL X.K H b ys) (hne : l ≠ b) (hs : s.heap.IsSliceOf sl .none .none .none) (hz : xs.length + ys.length ≤ sizeLine) (h : ∀ s', Inv X pins σ (upd H l (.lst ys)) s' → Q () s') :
    wpAny (model X.prog X.w) X.A (setItem (.ref l) (.ref sl) (.ref b)) Q X.xe s := by
  obtain ⟨z, its, n, r, hl, e⟩ := I.lstM hH
  obtain ⟨its2, r2, e2, z2⟩ := I.list hB
  have l1 := r.length
  have l2 := r2.length
  obtain ⟨o2, ho, hc, n2, hd⟩ := id e2.isList
  refine setItem_all e e2.isList ho hd hne hs (by rw [List.size_toArray, List.size_toArray]; omega) (h _ ?_)
  refine I.lset (its' := its2) (t' := s.toks) hH e ?_ r2 z2
  have := splice_eq its its2 0 its.length
  simp only [List.take_zero, List.nil_append, List.drop_length, List.append_nil] at this
  rw [← this]
  simp
/-- x[:] = e -/
def oAll (v : D) : D → Option D := fun x => match x, v with
  | .lst ds, .lst es => if decide (ds.length + es.length ≤ sizeLine) = true then some (.lst es) else none
  | _, _ => none
def gAll (f : ME) : MG := fun d ρ => (f ρ).bind fun p => chg p.1 p.2 (oAll d)
theorem pg_allM {o : Expr} {p2 : Pos} (hK : X.K = B.c.K) (ho : PM X B o f) (ha : ∀ v, assign (.Subscript o (.Slice none none none p2) pos) X.env v = (do
      let ov ← holding [v] (eval o X.env)
      let iv ← holding [v, ov] (eval (.Slice none none none p2) X.env)
      standAt pos
      holding [v, ov, iv] (setItem ov iv v)
      release [iv, v, ov] []) := by intro _; rfl) : PG X (.Subscript o (.Slice none none none p2) pos) (gM B [] (gAll f)) := by
  refine ⟨fun pins s σ H v u Q I r q => ?_⟩
  obtain ⟨hv, ρ, G, d, n, R, ρ', hs, k⟩ := q
  obtain ⟨⟨rv, ρ1⟩, e1, hs⟩ := bnd hs
  rw [ha]
  refine wpAny_bind (wpAny_holding (thn (ho.run pins s σ H (fun x H1 => ∃ G1, Rep B ((x, rv) :: (v, .dat d) :: hv) ρ1 σ H1 G1) I ⟨_, ρ, G, R, rv, ρ1, e1, fun ov H1 G1 R1 => ⟨G1, R1⟩⟩) fun ov s1 ⟨x, H1, I1, r1, G1, R1⟩ => ?_))
  obtain ⟨a, hoo, y, y', rfl, e3, c, e4, kk⟩ := R1.chg hs
  have rd := R1.pop.top
  cases y <;> simp only [oAll, reduceCtorEq] at e4
  rename_i ds
  cases d <;> simp only [reduceCtorEq] at e4
  rename_i es
  split at e4
  case isFalse => cases e4
  case isTrue hz =>
  cases e4
  obtain ⟨xs, rfl, rs⟩ := c
  have hz := of_decide_eq_true hz
  cases rd with
  | lst hb rb =>
  rename_i b ys
  cases r1
  cases r
  have eG : G1 a = none := by
    obtain ⟨t, h1, h2, h3, _⟩ := R1.ex
    cases rv with
    | bor i =>
      obtain ⟨sl, q1, hs⟩ := bnd hs
      obtain ⟨dd, q2, hs⟩ := bnd hs
      have h := h2 i _ q1
      have h3 : σ[i]? = some (some (.ref a)) := h3
      cases sl with
      | own d0 => obtain ⟨b', ho', g1, g2, g3, g4, g5⟩ := h; rw [h3] at g1; cases g1; exact (h1 a (by rw [g4]; simp)).1
      | io d0 => obtain ⟨b', ho', g1, g2, g3, g4, g5⟩ := h; rw [h3] at g1; cases g1; exact (h1 a (by rw [g4]; simp)).1
      | un => cases q2
      | dat d0 => cases q2
      | lck d0 => cases q2
    | _ => cases hs
  have hb1 : SqL X.K H1 b ys := by rw [hK]; exact R1.sub.seq hb
  have hne : a ≠ b := fun z => by
    subst z
    rcases hb with h | ⟨o', its, m, hk, _⟩
    · rcases h with h | ⟨o', h⟩
      · rw [eG] at h; cases h
      · rw [eG] at h; cases h
    · rw [← hK] at hk
      have := (I1.bs a o' (I1.ok.mod.kin a o' hk)).2
      rw [e3] at this; cases this
  refine wpAny_bind (wpAny_holding (wpAny_Slice ?_))
  rw [evalPart_none]
  refine wpAny_pure (wpAny_pure (wpAny_pure ?_))
  have I4 : Inv X pins σ H1 { s1 with heap := s1.heap.push { cls := .type "slice", data := .fields #[.none, .none, .none] } } := I1.kept (t' := s1.toks) fun b ob q => Heap.get?_push_of_some _ q
  refine wpAny_bind (wpAny_standAt (wpAny_bind (wpAny_holding (set_all I4 e3 hb1 hne (Heap.IsSliceOf.new _ .none .none .none) (by rw [rs.len, rb.len]; exact hz) fun s' I' => ?_))))
  exact wpAny_release ⟨σ, _, I', k σ _ G1 (fun _ _ => rfl) (kk (.lst ys) ⟨_, rfl, rb⟩).pop.pop⟩
/-! ### None or a new thing -/
def rvQ : D → Rv
  | .non => .dat .non
  | d => .new d
def spQ (c : Cn) (n : Nat) (m : List D → Option D) : Sp := fun vs H Q _ => vs.length = n ∧ ∃ ds G d, Same G H ∧ Rps c G vs ds ∧ m ds = some d ∧ (d = .non → ∀ H' G', Gr G H G' H' → Q .non H') ∧ ∀ p ho H' G', Gr G H G' H' → H p = none → H' p = some ho → G' p = none → Cont c G' p ho d → Q (.ref p) H'
def fnQ (n : Nat) (f : MS) : List D → Option D := fun ds => (f (argR ds n)).bind fun p => match p.1 with
  | .rt (.new d) => some d
  | .rt (.dat .non) => some .non
  | _ => none
def mCq (o : List D → Option D) (fr : MA) : ME := fun ρ => (fr ρ).bind fun p => (o p.1).map fun d => (rvQ d, p.2)
end
section
variable {P : Program} {w : World} {K : PySem.W.Frag} {mg : Str → Option Value} {base : Heap} {C : Addr} {x qual : Str} {st : Stmt} {f : Addr} {fd : FuncData} {N ps : List Str} {n k : Nat} {fb : MS}
theorem okQ (F : Fun K x qual st f fd) (S : FnScope N ps (defScope st)) (hn : N.length = ps.length + n) (body : BodyOk P w K mg base C N qual st f k fb) : FnA P w K mg base (k + 1) f fd ps (spQ ⟨P, w, K, C⟩ ps.length (fnQ n fb)) := by
  refine funA F S (fun vs H Q E h => h.1) (fun cdv A outer s H vs Q E hgd hr h => ?_)
  obtain ⟨hl, ds, G, d, sG, r, hm, q0, q⟩ := h
  refine ⟨_, body cdv A outer s H E G none hgd hr, ?_⟩
  obtain ⟨⟨fl, ρ'⟩, h1, h2⟩ := bnd hm
  refine ⟨[], argR ds n, G, nb_nil, rep_start (c := ⟨P, w, K, C⟩) sG r (by rw [hl]; exact hn), fl, ρ', h1, ?_⟩
  cases fl with
  | nx => cases h2
  | bk => cases h2
  | ct => cases h2
  | rt rv =>
    intro hv' v σ H' G' R
    cases rv with
    | dat d' =>
      cases d' with
      | non =>
        simp only [Option.some.injEq] at h2; subst h2
        have rp := R.top
        cases rp
        exact q0 rfl H' G' R.gr
      | _ => cases h2
    | bor i => cases h2
    | lk d' => cases h2
    | new d' =>
      simp only [Option.some.injEq] at h2; subst h2
      obtain ⟨t, t1, t2, ⟨a, ho, rfl, eH, c, et, e0⟩, t3⟩ := R.ex
      exact q a ho H' G' R.gr e0 eH (t1 a (by rw [et]; simp)).1 c
end
section
variable {X : Cx} {B : Bs} {f : Addr} {fd : FuncData} {ps ks : List Str} {x : Str} {p pos : Pos} {e : Expr} {es : List Expr} {fr : MA} {m : List D → Option D} {n k : Nat} {sp : Sp} {t : TA} {kws : List Keyword}
theorem rv_q {c : Cn} {G : Hp} {a : Addr} {ho : HO} {d : D} (h : Cont c G a ho d) : rvQ d = .new d := by
  cases d <;> first | rfl | exact h.elim
theorem pm_callQ (F : FnA X.prog X.w X.K X.mg X.base k f fd ps (spQ B.c n m)) (hgd : X.A.guards = some []) (hr : Room k X.A) (hg : Gl X x) (hm : X.mg x = some (.ref f)) (hk : PySem.W.keepIn X.K (.ref f) = true) (hb : Binds X.K fd ps [])
    (ha : PAM X B (e :: es) fr) (hdb : (x == ("__debug__" : Str)) = false := by decide) (he : starEach (e :: es) X.env = (false, eval e X.env) :: starEach es X.env := by rfl) (hpl : (backTo pos (starEach es X.env)).any (·.1) = false := by rfl) :
    PM X B (.Call (.Name x p) (e :: es) [] pos) (mCq (nA m n) fr) := (pe_callA F hgd hr hg hm hk hb ha hdb he hpl).wk fun σ H Q ⟨hv, ρ, G, R, rv, ρ', hf, k⟩ => by
  obtain ⟨⟨xs, ρ1⟩, h1, hf⟩ := bnd hf
  obtain ⟨d', h5, hf⟩ := mpp hf
  cases hf
  obtain ⟨h6, h7⟩ := nA_some h5
  refine ⟨hv, ρ, G, R, xs, ρ1, h1, fun vs H1 G1 R1 rs => ?_⟩
  refine ⟨by rw [rs.len]; exact h6, xs, G1, _, R1.sub, rs, h7, fun e0 H2 G2 g => ?_, fun p ho H2 G2 g h0 e1 e2 c => ?_⟩
  · subst e0; exact k _ _ _ ((R1.grow g).dat .non)
  · rw [rv_q c] at k; exact k _ _ _ (R1.come g h0 e1 e2 c)
/-! ### f(k = v, ..) -/
abbrev PKM (X : Cx) (B : Bs) (kws : List Keyword) (f : MA) : Prop := PK X kws (tA B f)
theorem _root_.L2.PK.wk {X : Cx} {kws : List Keyword} {t t' : TA} (h : PK X kws t) (w : ∀ σ H Q, t' σ H Q → t σ H Q) : PK X kws t' := ⟨fun pos pins s σ H Q I q => h.run pos pins s σ H Q I (w _ _ _ q)⟩
theorem pk_nilM : PKM X B [] aNil := pk_nil.wk fun σ H Q ⟨hv, ρ, G, R, ds, ρ', hf, k⟩ => by
  cases hf
  exact k _ _ _ R .nil
theorem pk_consM {nm : Option Str} {kpos : Pos} {fa : MD} (ha : PD X B e fa) (hr : PKM X B kws fr) : PKM X B (⟨nm, e, kpos⟩ :: kws) (aCons fa fr) := (pk_cons ha hr).wk fun σ H Q ⟨hv, ρ, G, R, ds, ρ', hf, k⟩ => by
  obtain ⟨⟨x, ρ1⟩, h1, hf⟩ := bnd hf
  obtain ⟨⟨xs, ρ2⟩, h2, hf⟩ := mpp hf
  cases hf
  exact ⟨hv, ρ, G, R, x, ρ1, h1, fun v H1 G1 R1 => ⟨_, ρ1, G1, R1, xs, ρ2, h2, fun vs H2 G2 R2 rs => k _ _ _ R2.pop (.cons R2.top rs)⟩⟩
/-- keywords in the turned order -/
structure KRev (K : PySem.W.Frag) (fd : FuncData) (ps ks : List Str) : Prop where
  to : ∀ (s : Shared) (ws : List Value), K.In s.heap → ws.length = ps.length → BindsTo s fd ⟨[], ks.zip ws⟩ (ps.zip ws.reverse)
theorem krev_of {K : PySem.W.Frag} {x qual : Str} {st : Stmt} {f : Addr} {fd : FuncData} {ps ks : List Str} (F : Fun K x qual st f fd)
    (h : ∀ (kV doc pm : Value) (an : Option Addr) (cdv ct : Value) (us : List Value), us.length = ps.length → bindArgs (PySem.W.fnOf x qual (defArgs st) (defBody st) (defScope st) .none kV doc pm an cdv ct) ⟨[], ks.zip us⟩ = pure (ps.zip us.reverse)) : KRev K fd ps ks := by
  obtain ⟨oc, od, kV, doc, pm, an, cdv, ct, osl, rfl, lk, hcd⟩ := F.ex
  exact ⟨fun s ws X hl => .of_eq (h kV doc pm an cdv ct ws hl)⟩
theorem vals_rev {vs : List V} {us : List Value} (h : Vals vs us) : Vals vs.reverse us.reverse := by
  induction h with
  | nil => exact .nil
  | cons r _ ih => rw [List.reverse_cons, List.reverse_cons]; exact ih.append (.cons r .nil)
theorem pe_callKr (F : FnA X.prog X.w X.K X.mg X.base k f fd ps sp) (hgd : X.A.guards = some []) (hr : Room k X.A) (hg : Gl X x) (hm : X.mg x = some (.ref f)) (hk : PySem.W.keepIn X.K (.ref f) = true) (hb : KRev X.K fd ps ks)
    (hkw : PK X kws t) (hall : (backToKw pos (keywordEach kws X.env)).all (·.1.isSome) = true) (hks : (backToKw pos (keywordEach kws X.env)).filterMap (·.1) = ks) (hdb : (x == ("__debug__" : Str)) = false)
    (hpl : ((backTo pos (starEach [] X.env)).any (·.1) || (backToKw pos (keywordEach kws X.env)).any (·.1.isNone)) = false) :
    PE X (.Call (.Name x p) [] kws pos) (fun σ H Q => t σ H fun vs H1 => sp vs.reverse H1 Q E0) := PE.mk (by
  intro pins s σ H Q I h
  apply wpAny_Call_Name_kw
  apply ld_glob I hg hm _ hdb
  refine PySem.W.callWith_KW0 (h₀ := X.base) I.ok.mod.kin hk hall ?_ hpl
  refine thn (hkw.run pos pins s σ H _ I h) ?_
  rintro ws s1 ⟨zs, H1, I1, r, q⟩
  have hl : zs.reverse.length = ps.length := F.ln _ _ _ _ q
  have rl := r.length
  refine And.intro I1.kIn ?_
  rw [hks]
  refine wpAny_call (codeAny_mono (F.go X.A X.stack s1 H1 ⟨[], ks.zip ws⟩ ws.reverse zs.reverse Q E0 hgd hr I1.env0 (hb.to s1 ws I1.kIn (by rw [← rl, ← hl, List.length_reverse])) (vals_rev r) q) ?_)
  intro rr s' hq
  match rr, hq with
  | .ok (.ret u), hq => exact I1.after hq)
def oRv (m : List D → Option D) : List D → Option D := fun ds => m ds.reverse
theorem rps_rv {c : Cn} {G : Hp} {vs : List V} {ds : List D} (r : Rps c G vs ds) : Rps c G vs.reverse ds.reverse := Rps.rev r
theorem pm_callQr (F : FnA X.prog X.w X.K X.mg X.base k f fd ps (spQ B.c n m)) (hgd : X.A.guards = some []) (hr : Room k X.A) (hg : Gl X x) (hm : X.mg x = some (.ref f)) (hk : PySem.W.keepIn X.K (.ref f) = true) (hb : KRev X.K fd ps ks)
    (ha : PKM X B kws fr) (hall : (backToKw pos (keywordEach kws X.env)).all (·.1.isSome) = true := by rfl) (hks : (backToKw pos (keywordEach kws X.env)).filterMap (·.1) = ks := by rfl) (hdb : (x == ("__debug__" : Str)) = false := by decide)
    (hpl : ((backTo pos (starEach [] X.env)).any (·.1) || (backToKw pos (keywordEach kws X.env)).any (·.1.isNone)) = false := by rfl) :
    PM X B (.Call (.Name x p) [] kws pos) (mCq (oRv (nA m n)) fr) := (pe_callKr F hgd hr hg hm hk hb ha hall hks hdb hpl).wk fun σ H Q ⟨hv, ρ, G, R, rv, ρ', hf, k⟩ => by
  obtain ⟨⟨xs, ρ1⟩, h1, hf⟩ := bnd hf
  obtain ⟨d', h5, hf⟩ := mpp hf
  cases hf
  obtain ⟨h6, h7⟩ := nA_some h5
  refine ⟨hv, ρ, G, R, xs, ρ1, h1, fun vs H1 G1 R1 rs => ?_⟩
  refine ⟨by rw [(rps_rv rs).len]; exact h6, xs.reverse, G1, _, R1.sub, rps_rv rs, h7, fun e0 H2 G2 g => ?_, fun p ho H2 G2 g h0 e1 e2 c => ?_⟩
  · subst e0; exact k _ _ _ ((R1.grow g).dat .non)
  · rw [rv_q c] at k; exact k _ _ _ (R1.come g h0 e1 e2 c)
theorem pm_callNr (F : FnA X.prog X.w X.K X.mg X.base k f fd ps (spN B.c n m)) (hgd : X.A.guards = some []) (hr : Room k X.A) (hg : Gl X x) (hm : X.mg x = some (.ref f)) (hk : PySem.W.keepIn X.K (.ref f) = true) (hb : KRev X.K fd ps ks)
    (ha : PKM X B kws fr) (hall : (backToKw pos (keywordEach kws X.env)).all (·.1.isSome) = true := by rfl) (hks : (backToKw pos (keywordEach kws X.env)).filterMap (·.1) = ks := by rfl) (hdb : (x == ("__debug__" : Str)) = false := by decide)
    (hpl : ((backTo pos (starEach [] X.env)).any (·.1) || (backToKw pos (keywordEach kws X.env)).any (·.1.isNone)) = false := by rfl) :
    PM X B (.Call (.Name x p) [] kws pos) (mCn (oRv (nA m n)) fr) := (pe_callKr F hgd hr hg hm hk hb ha hall hks hdb hpl).wk fun σ H Q ⟨hv, ρ, G, R, rv, ρ', hf, k⟩ => by
  obtain ⟨⟨xs, ρ1⟩, h1, hf⟩ := bnd hf
  obtain ⟨d', h5, hf⟩ := mpp hf
  cases hf
  obtain ⟨h6, h7⟩ := nA_some h5
  refine ⟨hv, ρ, G, R, xs, ρ1, h1, fun vs H1 G1 R1 rs => ?_⟩
  exact ⟨by rw [(rps_rv rs).len]; exact h6, xs.reverse, G1, _, R1.sub, rps_rv rs, h7, fun p ho H2 G2 g h0 e1 e2 c => k _ _ _ (R1.come g h0 e1 e2 c)⟩
end
/-! ### append to a new thing -/
section
variable {B : Bs} {hv : Hv} {ρ : Rho} {σ : Sg} {H G : Hp} {v : V} {d : D}
theorem Rep.chgN (R : Rep B ((v, .new d) :: hv) ρ σ H G) : ∃ a ho, v = .ref a ∧ H a = some ho ∧ Cont B.c G a ho d ∧ ∀ ho' d', Cont B.c G a ho' d' → Rep B hv ρ σ (upd H a ho') G := by
  obtain ⟨t, h1, h2, ⟨a, ho, rfl, eH, c, et, e0⟩, h3⟩ := R.ex
  refine ⟨a, ho, rfl, eH, c, fun ho' d' c' => ?_⟩
  have eG := (h1 a (by rw [et]; simp)).1
  refine ⟨⟨t, fun b hb => ⟨(h1 b hb).1, ?_⟩, fun j s' hs => ?_, ?_⟩, fun b o q => ?_, R.g0, R.nw, fun b o q nio => ?_, fun b q => ?_, fun b q => ?_, R.len⟩
  · by_cases z : b = a
    · rw [z, upd_same]; exact ⟨by simp, c'.notup⟩
    · rw [upd_ne z]; exact (h1 b hb).2
  · have h := h2 j s' hs
    cases s' with
    | un => trivial
    | dat d' => exact h
    | own d' =>
      obtain ⟨b, hb, e, e1, c', e2, e3⟩ := h
      have nb : b ≠ a := fun z => by rw [z, et] at e2; cases e2
      exact ⟨b, hb, e, by rw [upd_ne nb]; exact e1, c', e2, e3⟩
    | io d' =>
      obtain ⟨b, hb, e, e1, c', e2, e3⟩ := h
      have nb : b ≠ a := fun z => by rw [z, et] at e2; cases e2
      exact ⟨b, hb, e, by rw [upd_ne nb]; exact e1, c', e2, e3⟩
    | lck d' =>
      obtain ⟨b, hb, o, e, e1, c', e2, e3⟩ := h
      have nb : b ≠ a := fun z => by rw [z, et] at e2; cases e2
      exact ⟨b, hb, o, e, by rw [upd_ne nb]; exact e1, c', e2, e3⟩
  · have go : ∀ r : Hv, r.length ≤ hv.length → HvsOk B t G H σ r → HvsOk B t G (upd H a ho') σ r := by
      intro r
      induction r with
      | nil => intro _ _; trivial
      | cons x r ih =>
        intro hl hr
        obtain ⟨v', rv⟩ := x
        have hl' : r.length + 1 ≤ hv.length := hl
        refine ⟨?_, ih (by omega) hr.2⟩
        have h := hr.1
        cases rv with
        | dat d' => exact h
        | bor i => exact h
        | new d' =>
          obtain ⟨b, hb, e, e1, c', e2, e3⟩ := h
          have nb : b ≠ a := fun z => by
            rw [z, et] at e2
            have q : hv.length = r.length := by injection e2 with e2; injection e2
            omega
          exact ⟨b, hb, e, by rw [upd_ne nb]; exact e1, c', e2, e3⟩
        | lk d' =>
          obtain ⟨b, hb, o, i, e, e1, c', e2, e3⟩ := h
          have nb : b ≠ a := fun z => by rw [z, eH] at e1; cases e1; exact c.nofrz rfl
          exact ⟨b, hb, o, i, e, by rw [upd_ne nb]; exact e1, c', e2, e3⟩
    exact go hv (Nat.le_refl _) h3
  · have nb : b ≠ a := fun z => by rw [z, eG] at q; cases q
    rw [upd_ne nb]; exact R.sub _ _ q
  · have nb : b ≠ a := fun z => by rw [z, e0] at q; cases q
    rw [upd_ne nb]; exact R.hs b o q nio
  · by_cases z : b = a
    · rw [z, upd_same]; simp
    · rw [upd_ne z]; exact R.ioH b q
  · by_cases z : b = a
    · rw [z, upd_same]; exact c'.notup
    · rw [upd_ne z]; exact R.ioT b q
end
def mAppN (f : ME) (fa : MD) : MS := fun ρ => (f ρ).bind fun p => match p.1 with
  | .new (.lst ds) => (fa p.2).bind fun q => if decide (ds.length < sizeLine) = true then some (.nx, q.2) else none
  | _ => none
section
variable {X : Cx} {B : Bs} {f : ME} {fa : MD} {e : Expr} {pos : Pos}
theorem ps_appN {o : Expr} {apos cpos : Pos} (hK : X.K = B.c.K) (ho : PM X B o f) (ha : PD X B e fa)
    (hbase : attributeBase o "append" X.env (eval o X.env) = eval o X.env := by rfl)
    (hfew : ((backTo cpos (starEach [e] X.env)).all (fun x => !x.1) && (backToKw cpos (keywordEach [] X.env)).all (fun x => x.1.isSome)
      && decide (([e] : List Expr).length + ([] : List Keyword).length + (if ([] : List Keyword).isEmpty then 0 else 1) < 30)) = true := by rfl)
    (hline : (apos.endLine == cpos.line) = true := by rfl) (hs : starEach [e] X.env = (false, eval e X.env) :: starEach [] X.env := by rfl) (hplain : (backTo cpos (starEach [] X.env)).any (·.1) = false := by rfl)
    (hsw : swapsWith (.Call (.Attribute o "append" apos) [e] [] cpos) none pos.line X.env = pure false := by rfl) : PSM X B (.Expr (.Call (.Attribute o "append" apos) [e] [] cpos) pos) (mAppN f fa) :=
  (ps_expr (pe_bm PySem.F.plainAttrs_list PySem.F.slot_list_append PySem.F.type_list_append mt_append ho (pa_cons ha pa_nil hs) hbase hfew hline hs hplain) hsw).wk fun D σ H ⟨hv, ρ, G, n, R, fl, ρ', hf, k⟩ => by
    obtain ⟨⟨rv, ρ1⟩, h1, hf⟩ := bnd hf
    cases rv with
    | new d0 =>
      cases d0 with
      | lst ds =>
        obtain ⟨⟨d, ρ2⟩, h2, hf⟩ := bnd hf
        by_cases hz : decide (ds.length < sizeLine) = true
        · simp only [hz, if_true, Option.some.injEq, Prod.mk.injEq] at hf
          obtain ⟨rfl, rfl⟩ := hf
          refine ⟨hv, ρ, G, R, _, ρ1, h1, fun v H1 G1 R1 => ?_⟩
          refine ⟨?_, _, ρ1, G1, R1, d, ρ2, h2, fun w H2 G2 R2 => ?_⟩
          · obtain ⟨a, xs, rfl, h, r⟩ := R1.look (d := .lst ds) rfl
            exact .inl ⟨rfl, xs, by rw [hK]; exact h⟩
          · obtain ⟨a, ho', rfl, e3, c, kk⟩ := R2.pop.chgN
            obtain ⟨xs, rfl, rs⟩ := c
            refine ⟨a, xs, w, rfl, rfl, e3, by rw [rs.len]; exact of_decide_eq_true hz, ?_⟩
            exact k _ _ _ (kk _ (.lst (ds ++ [d])) ⟨_, rfl, rs.append (.cons R2.top .nil)⟩)
        · simp only [hz] at hf
          cases hf
      | _ => cases hf
    | _ => cases hf
end
/-! ### a call that borrows what slot i owns, and hands back a new list of ints -/
def flatI : D → Bool
  | .lst ds => (intsOf ds).isSome
  | _ => false
def mCnB (i : Nat) (o : List D → Option D) (fr : MA) : ME := fun ρ => match ρ[i]? with
  | some (.own _) => (fr ρ).bind fun q => match q.2[i]? with
    | some (.own d0) => (o (d0 :: q.1)).bind fun d => if flatI d = true then some (.new d, q.2) else none
    | _ => none
  | _ => none
theorem ints_of {ds : List D} (h : (intsOf ds).isSome = true) : ∃ ns : List Int, ds = ns.map D.int := by
  induction ds with
  | nil => exact ⟨[], rfl⟩
  | cons d ds ih =>
    cases d with
    | int z =>
      have : (intsOf ds).isSome = true := by
        cases q : intsOf ds with
        | none => simp [intsOf, q] at h
        | some l => rfl
      obtain ⟨ns, rfl⟩ := ih this
      exact ⟨z :: ns, rfl⟩
    | _ => simp [intsOf] at h
theorem cont_flat {c : Cn} {G G' : Hp} {a : Addr} {ho : HO} {d : D} (f : flatI d = true) (h : Cont c G a ho d) : Cont c G' a ho d := by
  cases d with
  | lst ds =>
    obtain ⟨ns, rfl⟩ := ints_of f
    obtain ⟨xs, e, r⟩ := h
    have := r.ints
    subst this
    exact ⟨_, e, rps_ints ns⟩
  | _ => cases f
section
variable {X : Cx} {B : Bs} {f : Addr} {fd : FuncData} {ps : List Str} {x : Str} {p pos : Pos} {e : Expr} {es : List Expr} {fr : MA} {m : List D → Option D} {n k : Nat}
theorem pm_callNB (i : Nat) (F : FnA X.prog X.w X.K X.mg X.base k f fd ps (spN B.c n m)) (hgd : X.A.guards = some []) (hr : Room k X.A) (hg : Gl X x) (hm : X.mg x = some (.ref f)) (hk : PySem.W.keepIn X.K (.ref f) = true) (hb : Binds X.K fd ps [])
    (hx : PM X B e (vr i)) (ha : PAM X B es fr) (hdb : (x == ("__debug__" : Str)) = false := by decide) (he : starEach (e :: es) X.env = (false, eval e X.env) :: starEach es X.env := by rfl) (hpl : (backTo pos (starEach es X.env)).any (·.1) = false := by rfl) :
    PM X B (.Call (.Name x p) (e :: es) [] pos) (mCnB i (nA m n) fr) := (pe_callA F hgd hr hg hm hk hb (pa_cons hx ha he) hdb he hpl).wk fun σ H Q ⟨hv, ρ, G, R, rv, ρ', hf, k⟩ => by
  unfold mCnB at hf
  cases q0 : ρ[i]? with
  | none => rw [q0] at hf; cases hf
  | some s0 =>
    rw [q0] at hf
    cases s0 with
    | own d00 =>
      obtain ⟨⟨xs, ρ1⟩, h1, hf⟩ := bnd hf
      cases q1 : ρ1[i]? with
      | none => simp only [q1] at hf; cases hf
      | some s1 =>
        cases s1 with
        | own d0 =>
          simp only [q1] at hf
          obtain ⟨d, h5, hf⟩ := bnd hf
          by_cases hfl : flatI d = true
          · rw [if_pos hfl] at hf
            cases hf
            obtain ⟨h6, h7⟩ := nA_some h5
            have hvr : vr i ρ = some (.bor i, ρ) := by unfold vr; rw [q0]
            refine ⟨hv, ρ, G, R, .bor i, ρ, hvr, fun v H1 G1 R1 => ⟨_, ρ, G1, R1, xs, _, h1, fun vs H2 G2 R2 rs => ?_⟩⟩
            obtain ⟨t, t1, t2, t3, t4⟩ := R2.ex
            have hσ : σ[i]? = some (some v) := t3
            obtain ⟨a, ho, es', eH, c, et, e0⟩ := t2 i _ q1
            rw [hσ] at es'; cases es'
            have eG := (t1 a (by rw [et]; simp)).1
            have sG : Same (upd G2 a ho) H2 := fun b o q => by
              by_cases z : b = a
              · rw [z, upd_same] at q; cases q; rw [z]; exact eH
              · rw [upd_ne z] at q; exact R2.sub _ _ q
            have mono := same_updG (ho := ho) eG
            refine ⟨by rw [List.length_cons, rs.len, ← h6]; rfl, d0 :: xs, upd G2 a ho, d, sG, .cons ((c.mono mono).rp upd_same) (rs.mono mono), h7, fun p' ho' H3 G3 g h0 e1 e2 c' => ?_⟩
            have gr : Gr G2 H2 G2 H3 := ⟨Same.refl _, g.h, fun b o q => g.h _ _ (R2.sub _ _ q), fun b hb => .inl hb⟩
            exact k _ _ _ (R2.pop.come gr h0 e1 (R2.sub.free h0) (cont_flat hfl c'))
          · rw [if_neg hfl] at hf; cases hf
        | _ => simp only [q1] at hf; cases hf
    | _ => cases hf
end
end M
/-! V0: the mirrors, evaluated. -/
namespace M
open PySem PySem.Spec PyProof.Rows L2
section
variable {α : Type} {ρ : Rho} {d : D} {i : Nat} {f g h : ME} {fa fb fc : MD} {tf tg : MB} {fr : MA} {s u : MS}
@[simp] theorem ev_frz_dat : frz (.dat d) ρ = some (d, ρ) := Eq.trans rfl rfl
@[simp] theorem ev_frz_new : frz (.new d) ρ = some (d, ρ) := Eq.trans rfl rfl
@[simp] theorem ev_frz_bor : frz (.bor i) ρ = (match ρ[i]? with
    | some (.dat d) => some (d, ρ)
    | some (.own d) => some (d, ρ.set i (.dat d))
    | _ => none) := Eq.trans rfl rfl
@[simp] theorem ev_look_dat : look (.dat d) ρ = some d := Eq.trans rfl rfl
@[simp] theorem ev_look_new : look (.new d) ρ = some d := Eq.trans rfl rfl
@[simp] theorem ev_look_bor : look (.bor i) ρ = (ρ[i]?).bind cont := Eq.trans rfl rfl
@[simp] theorem ev_cont_dat : cont (.dat d) = some d := Eq.trans rfl rfl
@[simp] theorem ev_cont_own : cont (.own d) = some d := Eq.trans rfl rfl
@[simp] theorem ev_cont_io : cont (.io d) = some d := Eq.trans rfl rfl
@[simp] theorem ev_toS_dat : toS (.dat d) ρ = some (.dat d, ρ) := Eq.trans rfl rfl
@[simp] theorem ev_toS_new : toS (.new d) ρ = some (.own d, ρ) := Eq.trans rfl rfl
@[simp] theorem ev_toS_bor : toS (.bor i) ρ = (match ρ[i]? with
    | some (.dat d) => some (.dat d, ρ)
    | some (.own d) => some (.own d, ρ.set i .un)
    | _ => none) := Eq.trans rfl rfl
@[simp] theorem ev_free_un : M.free .un = true := Eq.trans rfl rfl
@[simp] theorem ev_free_dat : M.free (.dat d) = true := Eq.trans rfl rfl
@[simp] theorem ev_free_own : M.free (.own d) = true := Eq.trans rfl rfl
@[simp] theorem ev_asg {rv : Rv} : asg i rv ρ = (match ρ[i]? with
    | some s => if M.free s = true then (toS rv ρ).map fun p => p.2.set i p.1 else none
    | none => none) := Eq.trans rfl rfl
@[simp] theorem ev_mutS_own : mutS (.own d) = some d := Eq.trans rfl rfl
@[simp] theorem ev_mutS_io : mutS (.io d) = some d := Eq.trans rfl rfl
@[simp] theorem ev_putS_own {d' : D} : putS (.own d) d' = .own d' := Eq.trans rfl rfl
@[simp] theorem ev_putS_io {d' : D} : putS (.io d) d' = .io d' := Eq.trans rfl rfl
@[simp] theorem ev_fz : fz f ρ = (f ρ).bind fun p => frz p.1 p.2 := Eq.trans rfl rfl
@[simp] theorem ev_upE : upE fa ρ = (fa ρ).map fun p => (.dat p.1, p.2) := Eq.trans rfl rfl
@[simp] theorem ev_asB : asB fa ρ = (fa ρ).bind fun p => match p.1 with
    | .bl b => some (b, p.2)
    | _ => none := Eq.trans rfl rfl
@[simp] theorem ev_vr : vr i ρ = (match ρ[i]? with
    | some (.dat d) => some (.dat d, ρ)
    | some .un => none
    | some _ => some (.bor i, ρ)
    | none => none) := by unfold vr; cases ρ[i]? with
  | none => rfl
  | some s => cases s <;> rfl
@[simp] theorem ev_cst : cst d ρ = some (d, ρ) := Eq.trans rfl rfl
@[simp] theorem ev_m1 {o : D → Option D} : m1 o f ρ = (f ρ).bind fun p => (look p.1 p.2).bind fun x => (o x).map fun d => (d, p.2) := Eq.trans rfl rfl
@[simp] theorem ev_n1 {o : D → Option D} : n1 o f ρ = (f ρ).bind fun p => (look p.1 p.2).bind fun x => (o x).map fun d => (.new d, p.2) := Eq.trans rfl rfl
@[simp] theorem ev_m2 {o : D → D → Option D} : m2 o fa fb ρ = (fa ρ).bind fun p => (fb p.2).bind fun q => (o p.1 q.1).map fun d => (d, q.2) := Eq.trans rfl rfl
@[simp] theorem ev_mIx {o : D → D → Option D} : mIx o f fb ρ = (f ρ).bind fun p => (fb p.2).bind fun q => (look p.1 q.2).bind fun x => (o x q.1).map fun d => (d, q.2) := Eq.trans rfl rfl
@[simp] theorem ev_mAnd : mAnd tf tg ρ = (tf ρ).bind fun p => if p.1 = true then tg p.2 else some (false, p.2) := Eq.trans rfl rfl
@[simp] theorem ev_mOr : mOr tf tg ρ = (tf ρ).bind fun p => if p.1 = true then some (true, p.2) else tg p.2 := Eq.trans rfl rfl
@[simp] theorem ev_mNot : mNot tf ρ = (tf ρ).map fun p => (!p.1, p.2) := Eq.trans rfl rfl
@[simp] theorem ev_vAnd : vAnd fa fb ρ = (fa ρ).bind fun p => match p.1 with
    | .bl b => if b = true then fb p.2 else some (.bl false, p.2)
    | _ => none := Eq.trans rfl rfl
@[simp] theorem ev_vOr : vOr fa fb ρ = (fa ρ).bind fun p => match p.1 with
    | .bl b => if b = true then some (.bl true, p.2) else fb p.2
    | _ => none := Eq.trans rfl rfl
@[simp] theorem ev_vNot : vNot fa ρ = (fa ρ).bind fun p => match p.1 with
    | .bl b => some (.bl (!b), p.2)
    | _ => none := Eq.trans rfl rfl
@[simp] theorem ev_mIf {a b : Rho → Option α} : mIf tf a b ρ = (tf ρ).bind fun p => if p.1 = true then a p.2 else b p.2 := Eq.trans rfl rfl
@[simp] theorem ev_aNil : aNil ρ = some ([], ρ) := Eq.trans rfl rfl
@[simp] theorem ev_aCons : aCons fa fr ρ = (fa ρ).bind fun p => (fr p.2).map fun q => (p.1 :: q.1, q.2) := Eq.trans rfl rfl
@[simp] theorem ev_mLst : mLst fr ρ = (fr ρ).bind fun p => if okLen p.1 = true then some (.new (.lst p.1), p.2) else none := Eq.trans rfl rfl
@[simp] theorem ev_mTup : mTup fr ρ = (fr ρ).bind fun p => if okLen p.1 = true then some (.tup p.1, p.2) else none := Eq.trans rfl rfl
@[simp] theorem ev_mC {o : List D → Option D} : mC o fr ρ = (fr ρ).bind fun p => (o p.1).map fun d => (d, p.2) := Eq.trans rfl rfl
@[simp] theorem ev_mCn {o : List D → Option D} : mCn o fr ρ = (fr ρ).bind fun p => (o p.1).map fun d => (.new d, p.2) := Eq.trans rfl rfl
@[simp] theorem ev_nA {m : List D → Option D} {n : Nat} {ds : List D} : nA m n ds = if ds.length = n then m ds else none := Eq.trans rfl rfl
@[simp] theorem ev_mNil : mNil ρ = some (.nx, ρ) := Eq.trans rfl rfl
@[simp] theorem ev_mNever : mNever ρ = none := Eq.trans rfl rfl
@[simp] theorem ev_mSeq : mSeq s u ρ = (s ρ).bind fun p => match p.1 with
    | .nx => u p.2
    | fl => some (fl, p.2) := Eq.trans rfl rfl
@[simp] theorem ev_hold_dat : hold (.dat d) ρ = some (.dat d, ρ) := Eq.trans rfl rfl
@[simp] theorem ev_hold_new : hold (.new d) ρ = some (.new d, ρ) := Eq.trans rfl rfl
@[simp] theorem ev_hold_bor : hold (.bor i) ρ = (frz (.bor i) ρ).map fun p => (.dat p.1, p.2) := Eq.trans rfl rfl
@[simp] theorem ev_mRet : mRet f ρ = (f ρ).bind fun p => (hold p.1 p.2).map fun q => (.rt q.1, q.2) := Eq.trans rfl rfl
@[simp] theorem ev_mDrop : mDrop fa ρ = (fa ρ).map fun p => (.nx, p.2) := Eq.trans rfl rfl
@[simp] theorem ev_mSet : mSet i f ρ = (f ρ).bind fun p => (asg i p.1 p.2).map fun r => (.nx, r) := Eq.trans rfl rfl
@[simp] theorem ev_argR {ds : List D} {n : Nat} : argR ds n = ds.map Sl.dat ++ List.replicate n .un := Eq.trans rfl rfl
@[simp] theorem ev_fnP {n : Nat} {ds : List D} : fnP n s ds = (s (argR ds n)).bind fun p => match p.1 with
    | .rt (.dat d) => some d
    | .rt (.new d) => some d
    | .nx => some .non
    | _ => none := Eq.trans rfl rfl
@[simp] theorem ev_mAsg {sg : MG} : mAsg fa sg ρ = (fa ρ).bind fun p => (sg p.1 p.2).map fun r => (.nx, r) := Eq.trans rfl rfl
@[simp] theorem ev_gNm {x : D} : gNm i x ρ = asg i (.dat x) ρ := Eq.trans rfl rfl
@[simp] theorem ev_mK_name : mK_name fa ρ = (fa ρ).bind fun p => match p.1 with
    | .kd n _ => some (.str n, p.2)
    | _ => none := Eq.trans rfl rfl
@[simp] theorem ev_mK_size : mK_size fa ρ = (fa ρ).bind fun p => match p.1 with
    | .kd _ z => some (.int z, p.2)
    | _ => none := Eq.trans rfl rfl
@[simp] theorem ev_mMeth {m : List D → Option D} : mMeth m fa ρ = (fa ρ).bind fun p => match p.1 with
    | .kd a b => (m [.kd a b]).map fun d => (d, p.2)
    | _ => none := Eq.trans rfl rfl
section
variable {x y : Int}
@[simp] theorem ev_oAdd : oAdd (.int x) (.int y) = some (.int (x + y)) := Eq.trans rfl rfl
@[simp] theorem ev_oSub : oSub (.int x) (.int y) = some (.int (x - y)) := Eq.trans rfl rfl
@[simp] theorem ev_oLt : oLt (.int x) (.int y) = some (.bl (decide (x < y))) := Eq.trans rfl rfl
@[simp] theorem ev_oLe : oLe (.int x) (.int y) = some (.bl (decide (x ≤ y))) := Eq.trans rfl rfl
@[simp] theorem ev_oGt : oGt (.int x) (.int y) = some (.bl (decide (y < x))) := Eq.trans rfl rfl
@[simp] theorem ev_oGe : oGe (.int x) (.int y) = some (.bl (decide (y ≤ x))) := Eq.trans rfl rfl
@[simp] theorem ev_oMod : oMod (.int x) (.int y) = if 0 < y then some (.int (x % y)) else none := Eq.trans rfl rfl
@[simp] theorem ev_oNeg : o1I (fun i => -i) (.int x) = some (.int (-x)) := Eq.trans rfl rfl
@[simp] theorem ev_oAbs : oAbs (.int x) = some (.int (if 0 ≤ x then x else -x)) := by
  show some (D.int (if x < 0 then -x else x)) = _
  by_cases h : x < 0
  · rw [if_pos h, if_neg (by omega)]
  · rw [if_neg h, if_pos (by omega)]
@[simp] theorem ev_oIntI : oInt (.int x) = some (.int x) := Eq.trans rfl rfl
@[simp] theorem ev_oIntB {b : Bool} : oInt (.bl b) = some (.int (if b = true then 1 else 0)) := by cases b <;> rfl
@[simp] theorem ev_isN_non : oIsN .non .non = some (.bl true) := Eq.trans rfl rfl
@[simp] theorem ev_isN_int : oIsN (.int x) .non = some (.bl false) := Eq.trans rfl rfl
@[simp] theorem ev_isN_lst {ds : List D} : oIsN (.lst ds) .non = some (.bl false) := Eq.trans rfl rfl
@[simp] theorem ev_notN_non : oNotN .non .non = some (.bl false) := Eq.trans rfl rfl
@[simp] theorem ev_notN_int : oNotN (.int x) .non = some (.bl true) := Eq.trans rfl rfl
@[simp] theorem ev_notN_lst {ds : List D} : oNotN (.lst ds) .non = some (.bl true) := Eq.trans rfl rfl
theorem lay_int : (PyData.int x).canLay0 = true ∧ (PyData.int x).depth ≤ 64 := ⟨by simp [PyData.canLay0], by simp [PyData.depth]⟩
@[simp] theorem ev_eqII : oEq (.int x) (.int y) = some (.bl (decide (x = y))) := by
  simp [oEq, eqD, py, SeqAt.shaped, PyData.eqv]
  exact ⟨⟨lay_int, lay_int⟩, rfl⟩
@[simp] theorem ev_neII : oNe (.int x) (.int y) = some (.bl (!decide (x = y))) := by
  simp [oNe, eqD, py, SeqAt.shaped, PyData.eqv]
  exact ⟨⟨lay_int, lay_int⟩, rfl⟩
end
def Kd.nm : Kd → Str
  | .plain => "plain"
  | .mirror => "mirror"
  | .ring => "ring"
theorem nm_lay (k : Kd) : (PyData.str k.nm).canLay0 = true ∧ (PyData.str k.nm).depth ≤ 64 := by
  refine ⟨?_, by simp [PyData.depth]⟩
  show PyData.strOk k.nm = true
  cases k <;> decide +kernel
theorem nm_eq (k j : Kd) : (k.nm == j.nm) = decide (k = j) := by cases k <;> cases j <;> decide +kernel
theorem ev_eqNN (k j : Kd) : oEq (.str k.nm) (.str j.nm) = some (.bl (decide (k = j))) := by
  simp [oEq, eqD, py, SeqAt.shaped, PyData.eqv]
  exact ⟨⟨nm_lay k, nm_lay j⟩, nm_eq k j⟩
@[simp] theorem ev_eqP (k : Kd) : oEq (.str k.nm) (.str "plain") = some (.bl (decide (k = .plain))) := ev_eqNN k .plain
@[simp] theorem ev_eqM (k : Kd) : oEq (.str k.nm) (.str "mirror") = some (.bl (decide (k = .mirror))) := ev_eqNN k .mirror
@[simp] theorem ev_eqR (k : Kd) : oEq (.str k.nm) (.str "ring") = some (.bl (decide (k = .ring))) := ev_eqNN k .ring
theorem ev_neNN (k j : Kd) : oNe (.str k.nm) (.str j.nm) = some (.bl (!decide (k = j))) := by
  simp [oNe, eqD, py, SeqAt.shaped, PyData.eqv]
  exact ⟨⟨nm_lay k, nm_lay j⟩, by rw [nm_eq k j]⟩
@[simp] theorem ev_neM (k : Kd) : oNe (.str k.nm) (.str "mirror") = some (.bl (!decide (k = .mirror))) := ev_neNN k .mirror
end
end M
namespace M
open PySem PySem.Spec PyProof.Rows L2
abbrev topS (i : Nat) : Stmt := PySem.Challenge.pw_looseseams_k94_whole_kinds_in_one_anothe.main.body.getD i (.Pass ⟨0, 0, 0, 0⟩)
abbrev s_is_whole : Stmt := topS 9
abbrev s_is_between : Stmt := topS 10
abbrev s_check_number : Stmt := topS 11
abbrev s_Kind___init__ : Stmt := inClass (topS 12) 0
abbrev s_Kind_name : Stmt := inClass (topS 12) 1
abbrev s_Kind_size : Stmt := inClass (topS 12) 2
abbrev s_Kind_steps : Stmt := inClass (topS 12) 3
abbrev s_Kind_start : Stmt := inClass (topS 12) 4
abbrev s_check_kind : Stmt := topS 13
abbrev s_is_crossed : Stmt := topS 14
abbrev s_by_step : Stmt := topS 15
abbrev s_item_at : Stmt := topS 16
abbrev s_product_of : Stmt := topS 17
abbrev s_opposite_of : Stmt := topS 18
abbrev s_falls_of : Stmt := topS 19
abbrev s_crossings_between : Stmt := topS 21
abbrev s_crossings_of : Stmt := topS 20
abbrev s_is_order_list : Stmt := topS 22
abbrev s_is_let_order : Stmt := topS 23
abbrev s_check_order : Stmt := topS 24
abbrev s_unfolded : Stmt := topS 27
abbrev s_folded : Stmt := topS 28
abbrev s_least_row_of : Stmt := topS 30
abbrev s_check_two_orders : Stmt := topS 32
abbrev s_lesser : Stmt := topS 33
abbrev s_check_orders : Stmt := topS 48
abbrev s_falls : Stmt := topS 50
abbrev s_is_below : Stmt := topS 34
abbrev s_is_beneath : Stmt := topS 35
abbrev s_check_one : Stmt := topS 38
abbrev s_check_two : Stmt := topS 39
abbrev s_gain : Stmt := topS 40
abbrev s_gained_all : Stmt := topS 42
abbrev s_greedy_of : Stmt := topS 41
abbrev s_greedy : Stmt := topS 43
abbrev s_power : Stmt := topS 44
abbrev s_crossings : Stmt := topS 49
abbrev s_opposite : Stmt := topS 51
abbrev s_product : Stmt := topS 52
abbrev s_multiplied : Stmt := topS 53
abbrev s_numbers_to : Stmt := topS 54
abbrev s_how_many_orders : Stmt := topS 55
abbrev s_orders_with : Stmt := topS 56
abbrev s__law_hash : Stmt := topS 58
abbrev s__law_random : Stmt := topS 59
abbrev s__law_cell : Stmt := topS 60
abbrev s__law_generator : Stmt := topS 61
abbrev s__law_start : Stmt := topS 62
abbrev s__law_steps : Stmt := topS 63
abbrev s__law_two : Stmt := topS 64
abbrev s__law_crossed : Stmt := topS 65
abbrev s__law_stepped : Stmt := topS 66
abbrev s__law_gains : Stmt := topS 67
abbrev s__law_row : Stmt := topS 68
abbrev s__law_order : Stmt := topS 69
abbrev s__law_unfolded : Stmt := topS 70
abbrev s__law_mirror_right : Stmt := topS 71
abbrev s__law_all_folded : Stmt := topS 72
abbrev s__law_plain_right : Stmt := topS 73
abbrev s_law : Stmt := topS 74
/-- what the top has left -/
structure Tx (w : World) (K : PySem.W.Frag) (mg : Str → Option Value) where
  C : Addr
  g_Kind : mg "Kind" = some (.ref C)
  cl : Cls K C
  n_name : NoAttr K C "_name"
  n_size : NoAttr K C "_size"
  kis : KIs K C
  f_is_whole : Addr
  fd_is_whole : FuncData
  F_is_whole : Fun K "is_whole" "is_whole" s_is_whole f_is_whole fd_is_whole
  g_is_whole : mg "is_whole" = some (.ref f_is_whole)
  f_is_between : Addr
  fd_is_between : FuncData
  F_is_between : Fun K "is_between" "is_between" s_is_between f_is_between fd_is_between
  g_is_between : mg "is_between" = some (.ref f_is_between)
  f_check_number : Addr
  fd_check_number : FuncData
  F_check_number : Fun K "check_number" "check_number" s_check_number f_check_number fd_check_number
  g_check_number : mg "check_number" = some (.ref f_check_number)
  f_Kind___init__ : Addr
  fd_Kind___init__ : FuncData
  F_Kind___init__ : Fun K "__init__" "Kind.__init__" s_Kind___init__ f_Kind___init__ fd_Kind___init__
  mkK : Mk K C f_Kind___init__
  f_Kind_name : Addr
  fd_Kind_name : FuncData
  F_Kind_name : Fun K "name" "Kind.name" s_Kind_name f_Kind_name fd_Kind_name
  k_name : Meth K C "name" f_Kind_name
  f_Kind_size : Addr
  fd_Kind_size : FuncData
  F_Kind_size : Fun K "size" "Kind.size" s_Kind_size f_Kind_size fd_Kind_size
  k_size : Meth K C "size" f_Kind_size
  f_Kind_steps : Addr
  fd_Kind_steps : FuncData
  F_Kind_steps : Fun K "steps" "Kind.steps" s_Kind_steps f_Kind_steps fd_Kind_steps
  k_steps : Meth K C "steps" f_Kind_steps
  f_Kind_start : Addr
  fd_Kind_start : FuncData
  F_Kind_start : Fun K "start" "Kind.start" s_Kind_start f_Kind_start fd_Kind_start
  k_start : Meth K C "start" f_Kind_start
  f_check_kind : Addr
  fd_check_kind : FuncData
  F_check_kind : Fun K "check_kind" "check_kind" s_check_kind f_check_kind fd_check_kind
  g_check_kind : mg "check_kind" = some (.ref f_check_kind)
  f_is_crossed : Addr
  fd_is_crossed : FuncData
  F_is_crossed : Fun K "is_crossed" "is_crossed" s_is_crossed f_is_crossed fd_is_crossed
  g_is_crossed : mg "is_crossed" = some (.ref f_is_crossed)
  f_by_step : Addr
  fd_by_step : FuncData
  F_by_step : Fun K "by_step" "by_step" s_by_step f_by_step fd_by_step
  g_by_step : mg "by_step" = some (.ref f_by_step)
  f_item_at : Addr
  fd_item_at : FuncData
  F_item_at : Fun K "item_at" "item_at" s_item_at f_item_at fd_item_at
  g_item_at : mg "item_at" = some (.ref f_item_at)
  f_product_of : Addr
  fd_product_of : FuncData
  F_product_of : Fun K "product_of" "product_of" s_product_of f_product_of fd_product_of
  g_product_of : mg "product_of" = some (.ref f_product_of)
  f_opposite_of : Addr
  fd_opposite_of : FuncData
  F_opposite_of : Fun K "opposite_of" "opposite_of" s_opposite_of f_opposite_of fd_opposite_of
  g_opposite_of : mg "opposite_of" = some (.ref f_opposite_of)
  f_falls_of : Addr
  fd_falls_of : FuncData
  F_falls_of : Fun K "falls_of" "falls_of" s_falls_of f_falls_of fd_falls_of
  g_falls_of : mg "falls_of" = some (.ref f_falls_of)
  f_crossings_between : Addr
  fd_crossings_between : FuncData
  F_crossings_between : Fun K "crossings_between" "crossings_between" s_crossings_between f_crossings_between fd_crossings_between
  g_crossings_between : mg "crossings_between" = some (.ref f_crossings_between)
  f_crossings_of : Addr
  fd_crossings_of : FuncData
  F_crossings_of : Fun K "crossings_of" "crossings_of" s_crossings_of f_crossings_of fd_crossings_of
  g_crossings_of : mg "crossings_of" = some (.ref f_crossings_of)
  f_is_order_list : Addr
  fd_is_order_list : FuncData
  F_is_order_list : Fun K "is_order_list" "is_order_list" s_is_order_list f_is_order_list fd_is_order_list
  g_is_order_list : mg "is_order_list" = some (.ref f_is_order_list)
  f_is_let_order : Addr
  fd_is_let_order : FuncData
  F_is_let_order : Fun K "is_let_order" "is_let_order" s_is_let_order f_is_let_order fd_is_let_order
  g_is_let_order : mg "is_let_order" = some (.ref f_is_let_order)
  f_check_order : Addr
  fd_check_order : FuncData
  F_check_order : Fun K "check_order" "check_order" s_check_order f_check_order fd_check_order
  g_check_order : mg "check_order" = some (.ref f_check_order)
  f_unfolded : Addr
  fd_unfolded : FuncData
  F_unfolded : Fun K "unfolded" "unfolded" s_unfolded f_unfolded fd_unfolded
  g_unfolded : mg "unfolded" = some (.ref f_unfolded)
  f_folded : Addr
  fd_folded : FuncData
  F_folded : Fun K "folded" "folded" s_folded f_folded fd_folded
  g_folded : mg "folded" = some (.ref f_folded)
  f_least_row_of : Addr
  fd_least_row_of : FuncData
  F_least_row_of : Fun K "least_row_of" "least_row_of" s_least_row_of f_least_row_of fd_least_row_of
  g_least_row_of : mg "least_row_of" = some (.ref f_least_row_of)
  f_check_two_orders : Addr
  fd_check_two_orders : FuncData
  F_check_two_orders : Fun K "check_two_orders" "check_two_orders" s_check_two_orders f_check_two_orders fd_check_two_orders
  g_check_two_orders : mg "check_two_orders" = some (.ref f_check_two_orders)
  f_lesser : Addr
  fd_lesser : FuncData
  F_lesser : Fun K "lesser" "lesser" s_lesser f_lesser fd_lesser
  g_lesser : mg "lesser" = some (.ref f_lesser)
  f_check_orders : Addr
  fd_check_orders : FuncData
  F_check_orders : Fun K "check_orders" "check_orders" s_check_orders f_check_orders fd_check_orders
  g_check_orders : mg "check_orders" = some (.ref f_check_orders)
  f_falls : Addr
  fd_falls : FuncData
  F_falls : Fun K "falls" "falls" s_falls f_falls fd_falls
  g_falls : mg "falls" = some (.ref f_falls)
  f_is_below : Addr
  fd_is_below : FuncData
  F_is_below : Fun K "is_below" "is_below" s_is_below f_is_below fd_is_below
  g_is_below : mg "is_below" = some (.ref f_is_below)
  f_is_beneath : Addr
  fd_is_beneath : FuncData
  F_is_beneath : Fun K "is_beneath" "is_beneath" s_is_beneath f_is_beneath fd_is_beneath
  g_is_beneath : mg "is_beneath" = some (.ref f_is_beneath)
  f_check_one : Addr
  fd_check_one : FuncData
  F_check_one : Fun K "check_one" "check_one" s_check_one f_check_one fd_check_one
  g_check_one : mg "check_one" = some (.ref f_check_one)
  f_check_two : Addr
  fd_check_two : FuncData
  F_check_two : Fun K "check_two" "check_two" s_check_two f_check_two fd_check_two
  g_check_two : mg "check_two" = some (.ref f_check_two)
  f_gain : Addr
  fd_gain : FuncData
  F_gain : Fun K "gain" "gain" s_gain f_gain fd_gain
  g_gain : mg "gain" = some (.ref f_gain)
  f_gained_all : Addr
  fd_gained_all : FuncData
  F_gained_all : Fun K "gained_all" "gained_all" s_gained_all f_gained_all fd_gained_all
  g_gained_all : mg "gained_all" = some (.ref f_gained_all)
  f_greedy_of : Addr
  fd_greedy_of : FuncData
  F_greedy_of : Fun K "greedy_of" "greedy_of" s_greedy_of f_greedy_of fd_greedy_of
  g_greedy_of : mg "greedy_of" = some (.ref f_greedy_of)
  f_greedy : Addr
  fd_greedy : FuncData
  F_greedy : Fun K "greedy" "greedy" s_greedy f_greedy fd_greedy
  g_greedy : mg "greedy" = some (.ref f_greedy)
  f_power : Addr
  fd_power : FuncData
  F_power : Fun K "power" "power" s_power f_power fd_power
  g_power : mg "power" = some (.ref f_power)
  f_crossings : Addr
  fd_crossings : FuncData
  F_crossings : Fun K "crossings" "crossings" s_crossings f_crossings fd_crossings
  g_crossings : mg "crossings" = some (.ref f_crossings)
  f_opposite : Addr
  fd_opposite : FuncData
  F_opposite : Fun K "opposite" "opposite" s_opposite f_opposite fd_opposite
  g_opposite : mg "opposite" = some (.ref f_opposite)
  f_product : Addr
  fd_product : FuncData
  F_product : Fun K "product" "product" s_product f_product fd_product
  g_product : mg "product" = some (.ref f_product)
  f_multiplied : Addr
  fd_multiplied : FuncData
  F_multiplied : Fun K "multiplied" "multiplied" s_multiplied f_multiplied fd_multiplied
  g_multiplied : mg "multiplied" = some (.ref f_multiplied)
  f_numbers_to : Addr
  fd_numbers_to : FuncData
  F_numbers_to : Fun K "numbers_to" "numbers_to" s_numbers_to f_numbers_to fd_numbers_to
  g_numbers_to : mg "numbers_to" = some (.ref f_numbers_to)
  f_how_many_orders : Addr
  fd_how_many_orders : FuncData
  F_how_many_orders : Fun K "how_many_orders" "how_many_orders" s_how_many_orders f_how_many_orders fd_how_many_orders
  g_how_many_orders : mg "how_many_orders" = some (.ref f_how_many_orders)
  f_orders_with : Addr
  fd_orders_with : FuncData
  F_orders_with : Fun K "orders_with" "orders_with" s_orders_with f_orders_with fd_orders_with
  g_orders_with : mg "orders_with" = some (.ref f_orders_with)
  f__law_hash : Addr
  fd__law_hash : FuncData
  F__law_hash : Fun K "_law_hash" "_law_hash" s__law_hash f__law_hash fd__law_hash
  g__law_hash : mg "_law_hash" = some (.ref f__law_hash)
  f__law_random : Addr
  fd__law_random : FuncData
  F__law_random : Fun K "_law_random" "_law_random" s__law_random f__law_random fd__law_random
  g__law_random : mg "_law_random" = some (.ref f__law_random)
  f__law_cell : Addr
  fd__law_cell : FuncData
  F__law_cell : Fun K "_law_cell" "_law_cell" s__law_cell f__law_cell fd__law_cell
  g__law_cell : mg "_law_cell" = some (.ref f__law_cell)
  f__law_generator : Addr
  fd__law_generator : FuncData
  F__law_generator : Fun K "_law_generator" "_law_generator" s__law_generator f__law_generator fd__law_generator
  g__law_generator : mg "_law_generator" = some (.ref f__law_generator)
  f__law_start : Addr
  fd__law_start : FuncData
  F__law_start : Fun K "_law_start" "_law_start" s__law_start f__law_start fd__law_start
  g__law_start : mg "_law_start" = some (.ref f__law_start)
  f__law_steps : Addr
  fd__law_steps : FuncData
  F__law_steps : Fun K "_law_steps" "_law_steps" s__law_steps f__law_steps fd__law_steps
  g__law_steps : mg "_law_steps" = some (.ref f__law_steps)
  f__law_two : Addr
  fd__law_two : FuncData
  F__law_two : Fun K "_law_two" "_law_two" s__law_two f__law_two fd__law_two
  g__law_two : mg "_law_two" = some (.ref f__law_two)
  f__law_crossed : Addr
  fd__law_crossed : FuncData
  F__law_crossed : Fun K "_law_crossed" "_law_crossed" s__law_crossed f__law_crossed fd__law_crossed
  g__law_crossed : mg "_law_crossed" = some (.ref f__law_crossed)
  f__law_stepped : Addr
  fd__law_stepped : FuncData
  F__law_stepped : Fun K "_law_stepped" "_law_stepped" s__law_stepped f__law_stepped fd__law_stepped
  g__law_stepped : mg "_law_stepped" = some (.ref f__law_stepped)
  f__law_gains : Addr
  fd__law_gains : FuncData
  F__law_gains : Fun K "_law_gains" "_law_gains" s__law_gains f__law_gains fd__law_gains
  g__law_gains : mg "_law_gains" = some (.ref f__law_gains)
  f__law_row : Addr
  fd__law_row : FuncData
  F__law_row : Fun K "_law_row" "_law_row" s__law_row f__law_row fd__law_row
  g__law_row : mg "_law_row" = some (.ref f__law_row)
  f__law_order : Addr
  fd__law_order : FuncData
  F__law_order : Fun K "_law_order" "_law_order" s__law_order f__law_order fd__law_order
  g__law_order : mg "_law_order" = some (.ref f__law_order)
  f__law_unfolded : Addr
  fd__law_unfolded : FuncData
  F__law_unfolded : Fun K "_law_unfolded" "_law_unfolded" s__law_unfolded f__law_unfolded fd__law_unfolded
  g__law_unfolded : mg "_law_unfolded" = some (.ref f__law_unfolded)
  f__law_mirror_right : Addr
  fd__law_mirror_right : FuncData
  F__law_mirror_right : Fun K "_law_mirror_right" "_law_mirror_right" s__law_mirror_right f__law_mirror_right fd__law_mirror_right
  g__law_mirror_right : mg "_law_mirror_right" = some (.ref f__law_mirror_right)
  f__law_all_folded : Addr
  fd__law_all_folded : FuncData
  F__law_all_folded : Fun K "_law_all_folded" "_law_all_folded" s__law_all_folded f__law_all_folded fd__law_all_folded
  g__law_all_folded : mg "_law_all_folded" = some (.ref f__law_all_folded)
  f__law_plain_right : Addr
  fd__law_plain_right : FuncData
  F__law_plain_right : Fun K "_law_plain_right" "_law_plain_right" s__law_plain_right f__law_plain_right fd__law_plain_right
  g__law_plain_right : mg "_law_plain_right" = some (.ref f__law_plain_right)
  f_law : Addr
  fd_law : FuncData
  F_law : Fun K "law" "law" s_law f_law fd_law
  g_law : mg "law" = some (.ref f_law)
  b_abs : mg "abs" = none
  b_bool : mg "bool" = none
  b_enumerate : mg "enumerate" = none
  b_int : mg "int" = none
  b_isinstance : mg "isinstance" = none
  b_len : mg "len" = none
  b_list : mg "list" = none
  b_max : mg "max" = none
  b_range : mg "range" = none
  b_reversed : mg "reversed" = none
  b_sorted : mg "sorted" = none
  b_str : mg "str" = none
  b_sum : mg "sum" = none
  b_tuple : mg "tuple" = none
  c_MOST_CROSSINGS : ∃ t, mg "MOST_CROSSINGS" = some (.int 60 t)
  c_MOST_SIZE : ∃ t, mg "MOST_SIZE" = some (.int 3 t)
  c_MOST_COUNT : ∃ t, mg "MOST_COUNT" = some (.int 1000 t)
  c_MOST_ASKED : ∃ t, mg "MOST_ASKED" = some (.int 200 t)
  c_MOST_LISTED : ∃ t, mg "MOST_LISTED" = some (.int 1000 t)
  bndA : Addr
  g_BOUNDS : mg "BOUNDS" = some (.ref bndA)
  bnd : Bnds K w bndA
noncomputable section
variable {P : Program} {w : World} {K : PySem.W.Frag} {mg : Str → Option Value} {base : Heap}
/-! ### is_whole -/
abbrev N_is_whole : List Str := ["value"]
theorem sc_is_whole : FnScope N_is_whole ["value"] (defScope s_is_whole) := ⟨rfl, rfl, rfl, by decide +kernel, rfl, by decide +kernel, by decide +kernel⟩
def b_is_whole : MS := (mRet (upE (vAnd (m1 (oIsi isiInt) (vr 0)) (vNot (m1 (oIsi isiBool) (vr 0))))))
def m_is_whole : List D → Option D := fnP 0 b_is_whole
theorem m_is_whole_eq : m_is_whole = fnP 0 b_is_whole := rfl
theorem bi_is_whole (T : Tx w K mg) : L2.Binds K T.fd_is_whole ["value"] [] := T.F_is_whole.binds fun _ _ _ _ _ _ us hl => match us, hl with | [_], _ => rfl
theorem ok_is_whole (T : Tx w K mg) : FnOk P w K mg base CX0 1 T.f_is_whole T.fd_is_whole ["value"] (spP ⟨P, w, K, T.C⟩ 1 m_is_whole) := by
  refine okP0 T.F_is_whole sc_is_whole rfl (fun cdv A outer s H E G0 io hr => ?_)
  exact (ps_oneM (ps_retM (pm_up (pd_and (pd_isi (isi_int rfl) rfl T.b_isinstance (pm_var 0) rfl T.b_int (by decide +kernel)) (pd_one (pd_not (pd_isi (isi_bool rfl) rfl T.b_isinstance (pm_var 0) rfl T.b_bool (by decide +kernel))))))))
/-! ### is_between -/
abbrev N_is_between : List Str := ["value", "low", "high"]
theorem sc_is_between : FnScope N_is_between ["value", "low", "high"] (defScope s_is_between) := ⟨rfl, rfl, rfl, by decide +kernel, rfl, by decide +kernel, by decide +kernel⟩
def b_is_between : MS := (mRet (upE (vAnd (mC (nA m_is_whole 1) (aCons (fz (vr 0)) aNil)) (vAnd (m2 oGe (fz (vr 0)) (fz (vr 1))) (vOr (m2 oIsN (fz (vr 2)) (cst .non)) (m2 oLe (fz (vr 0)) (fz (vr 2))))))))
def m_is_between : List D → Option D := fnP 0 b_is_between
theorem m_is_between_eq : m_is_between = fnP 0 b_is_between := rfl
theorem bi_is_between (T : Tx w K mg) : L2.Binds K T.fd_is_between ["value", "low", "high"] [] := T.F_is_between.binds fun _ _ _ _ _ _ us hl => match us, hl with | [_, _, _], _ => rfl
theorem ok_is_between (T : Tx w K mg) : FnOk P w K mg base CX0 2 T.f_is_between T.fd_is_between ["value", "low", "high"] (spP ⟨P, w, K, T.C⟩ 3 m_is_between) := by
  refine okP0 T.F_is_between sc_is_between rfl (fun cdv A outer s H E G0 io hr => ?_)
  exact (ps_oneM (ps_retM (pm_up (pd_and (pd_call0 (ok_is_whole T) (hr.mono (by decide)) rfl T.g_is_whole T.F_is_whole.kp (bi_is_whole T) (pa_consM (pd_fz (pm_var 0)) pa_nilM)) (pd_and (pd_ge (pd_fz (pm_var 0)) (pd_fz (pm_var 1))) (pd_one (pd_or (pd_isN (pd_fz (pm_var 2)) pd_non) (pd_one (pd_le (pd_fz (pm_var 0)) (pd_fz (pm_var 2)))))))))))
/-! ### check_number -/
abbrev N_check_number : List Str := ["number", "low", "high"]
theorem sc_check_number : FnScope N_check_number ["number", "low", "high"] (defScope s_check_number) := ⟨rfl, rfl, rfl, by decide +kernel, rfl, by decide +kernel, by decide +kernel⟩
def b_check_number : MS := (mIf (mNot (asB (mC (nA m_is_between 3) (aCons (fz (vr 0)) (aCons (fz (vr 1)) (aCons (fz (vr 2)) aNil)))))) mNever mNil)
def m_check_number : List D → Option D := fnP 0 b_check_number
theorem m_check_number_eq : m_check_number = fnP 0 b_check_number := rfl
theorem bi_check_number (T : Tx w K mg) : L2.Binds K T.fd_check_number ["number", "low", "high"] [] := T.F_check_number.binds fun _ _ _ _ _ _ us hl => match us, hl with | [_, _, _], _ => rfl
theorem ok_check_number (T : Tx w K mg) : FnOk P w K mg base CX0 3 T.f_check_number T.fd_check_number ["number", "low", "high"] (spP ⟨P, w, K, T.C⟩ 3 m_check_number) := by
  refine okP0 T.F_check_number sc_check_number rfl (fun cdv A outer s H E G0 io hr => ?_)
  exact (ps_oneM (ps_ifM (pb_not (pb_val (pd_call0 (ok_is_between T) (hr.mono (by decide)) rfl T.g_is_between T.F_is_between.kp (bi_is_between T) (pa_consM (pd_fz (pm_var 0)) (pa_consM (pd_fz (pm_var 1)) (pa_consM (pd_fz (pm_var 2)) pa_nilM)))))) (ps_oneM ps_neverM) ps_nilM))
/-! ### Kind.__init__ -/
abbrev N_Kind___init__ : List Str := ["self", "name", "size"]
theorem sc_Kind___init__ : FnScope N_Kind___init__ ["self", "name", "size"] (defScope s_Kind___init__) := ⟨rfl, rfl, rfl, by decide +kernel, rfl, by decide +kernel, by decide +kernel⟩
theorem bi_Kind___init__ (T : Tx w K mg) : L2.Binds K T.fd_Kind___init__ ["self", "name", "size"] [] := T.F_Kind___init__.binds fun _ _ _ _ _ _ us hl => match us, hl with | [_, _, _], _ => rfl
theorem chk_ok {lo hi z : Int} (h1 : lo ≤ z) (h2 : z ≤ hi) : m_check_number [.int z, .int lo, .int hi] = some .non := by
  have w : m_is_whole [.int z] = some (.bl true) := rfl
  have e : m_is_between [.int z, .int lo, .int hi] = some (.bl true) := by
    simp [m_is_between, b_is_between, w, h1, h2]
  simp [m_check_number, b_check_number, e]
theorem ok_Kind___init__ (T : Tx w K mg) : FnOk P w K mg base CX0 4 T.f_Kind___init__ T.fd_Kind___init__ ["self", "name", "size"] (spK ⟨P, w, K, T.C⟩) := by
  refine T.F_Kind___init__.ok sc_Kind___init__ (fun vs H Q E h => h.1) (fun cdv A outer s H vs Q E hr h => ?_)
  obtain ⟨_, x, dx, n, z, rfl, hx, hk, q⟩ := h
  obtain ⟨lo, hi, hb, hlo, hhi⟩ : ∃ lo hi, kindB n = some (lo, hi) ∧ lo ≤ z ∧ z ≤ hi := by
    unfold kindOk at hk
    split at hk
    · rename_i lo hi e
      exact ⟨lo, hi, e, of_decide_eq_true hk⟩
    · cases hk
  obtain ⟨es, m, D⟩ := T.bnd.D
  obtain ⟨t, ht, hT⟩ := T.bnd.at_ n lo hi hb
  refine ⟨_, pss_cons (ps_if (PW.pt (pw_or (pt_not (pt_val (pe_callB call_isi rfl T.b_isinstance (by decide +kernel) (pa_cons (pv 1) (pa_cons (pe_bltn (v := .ty "str") rfl T.b_str (by decide +kernel) rfl) pa_nil rfl) rfl)))) (pw_or1 (pt_cmpR (op_notIn_kd D) (pv 1) (pe_glob (v := .ref T.bndA) rfl T.g_BOUNDS rfl) rfl))))
      pss_never pss_nil)
    (pss_cons (ps_expr (pe_call (ok_check_number T) (hr.mono (by decide)) rfl T.g_check_number T.F_check_number.kp (bi_check_number T) .nil pass0
      (pa_cons (pv 2) (pa_cons (pe_ix ix_seq (pe_ix (ix_kd D) (pe_glob (v := .ref T.bndA) rfl T.g_BOUNDS rfl) (pv 1) (fun _ _ => rfl)) pe_int (fun _ _ => rfl)) (pa_cons (pe_ix ix_seq (pe_ix (ix_kd D) (pe_glob (v := .ref T.bndA) rfl T.g_BOUNDS rfl) (pv 1) (fun _ _ => rfl)) pe_int (fun _ _ => rfl)) pa_nil rfl) rfl))))
    (pss_cons (ps_fld (pv 0) (pv 1) rfl) (pss_one (ps_fld (pv 0) (pv 2) rfl)))), ?_⟩
  refine ⟨_, rfl, _, _, _, _, true, rfl, .ty _, .base (.str _), kit_ty (by decide +kernel), ?_⟩
  refine ⟨true, rfl, ?_⟩
  refine iteF ?_
  refine ⟨_, rfl, n, some (.ref t), rfl, rfl, ht, ?_⟩
  refine ⟨false, rfl, iteF ?_⟩
  refine ⟨_, rfl, _, rfl, n, _, V.ref t, rfl, rfl, ht, rfl, .inr (.inl ⟨t, [.int lo, .int hi], 0, .int lo, rfl, rfl, hT _, rfl, ?_⟩)⟩
  refine ⟨_, rfl, n, _, V.ref t, rfl, rfl, ht, rfl, .inr (.inl ⟨t, [.int lo, .int hi], 1, .int hi, rfl, rfl, hT _, rfl, ?_⟩)⟩
  refine ⟨rfl, [.int z, .int lo, .int hi], fun _ => none, .non, fun b o e => (by cases e), .cons (.int z) (.cons (.int lo) (.cons (.int hi) .nil)), chk_ok hlo hhi, fun v H' G' g r => ?_⟩
  have hx' := g.h _ _ hx
  refine ⟨_, rfl, _, rfl, x, T.C, dx, [], rfl, hx', T.cl, T.n_name, by decide, ?_⟩
  refine ⟨_, rfl, _, rfl, x, T.C, dx, _, rfl, upd_same, T.cl, T.n_size, (show 1 < 1000 by decide), ?_⟩
  rw [upd_upd]
  exact q H' g.h
/-! ### Kind.name -/
abbrev N_Kind_name : List Str := ["self"]
theorem sc_Kind_name : FnScope N_Kind_name ["self"] (defScope s_Kind_name) := ⟨rfl, rfl, rfl, by decide +kernel, rfl, by decide +kernel, by decide +kernel⟩
def b_Kind_name : MS := (mRet (upE (mK_name (fz (vr 0)))))
def m_Kind_name : List D → Option D := fnP 0 b_Kind_name
theorem m_Kind_name_eq : m_Kind_name = fnP 0 b_Kind_name := rfl
theorem bi_Kind_name (T : Tx w K mg) : L2.Binds K T.fd_Kind_name ["self"] [] := T.F_Kind_name.binds fun _ _ _ _ _ _ us hl => match us, hl with | [_], _ => rfl
theorem ok_Kind_name (T : Tx w K mg) : FnOk P w K mg base CX0 1 T.f_Kind_name T.fd_Kind_name ["self"] (spP ⟨P, w, K, T.C⟩ 1 m_Kind_name) := by
  refine okP0 T.F_Kind_name sc_Kind_name rfl (fun cdv A outer s H E G0 io hr => ?_)
  exact (ps_oneM (ps_retM (pm_up (pd_k_name rfl T.cl T.n_name (pd_fz (pm_var 0))))))
/-! ### Kind.size -/
abbrev N_Kind_size : List Str := ["self"]
theorem sc_Kind_size : FnScope N_Kind_size ["self"] (defScope s_Kind_size) := ⟨rfl, rfl, rfl, by decide +kernel, rfl, by decide +kernel, by decide +kernel⟩
def b_Kind_size : MS := (mRet (upE (mK_size (fz (vr 0)))))
def m_Kind_size : List D → Option D := fnP 0 b_Kind_size
theorem m_Kind_size_eq : m_Kind_size = fnP 0 b_Kind_size := rfl
theorem bi_Kind_size (T : Tx w K mg) : L2.Binds K T.fd_Kind_size ["self"] [] := T.F_Kind_size.binds fun _ _ _ _ _ _ us hl => match us, hl with | [_], _ => rfl
theorem ok_Kind_size (T : Tx w K mg) : FnOk P w K mg base CX0 1 T.f_Kind_size T.fd_Kind_size ["self"] (spP ⟨P, w, K, T.C⟩ 1 m_Kind_size) := by
  refine okP0 T.F_Kind_size sc_Kind_size rfl (fun cdv A outer s H E G0 io hr => ?_)
  exact (ps_oneM (ps_retM (pm_up (pd_k_size rfl T.cl T.n_size (pd_fz (pm_var 0))))))
/-! ### Kind.steps -/
abbrev N_Kind_steps : List Str := ["self"]
theorem sc_Kind_steps : FnScope N_Kind_steps ["self"] (defScope s_Kind_steps) := ⟨rfl, rfl, rfl, by decide +kernel, rfl, by decide +kernel, by decide +kernel⟩
def b_Kind_steps : MS := (mRet (upE (m2 oSub (mK_size (fz (vr 0))) (m1 oInt (upE (m2 oEq (mK_name (fz (vr 0))) (cst (.str "plain"))))))))
def m_Kind_steps : List D → Option D := fnP 0 b_Kind_steps
theorem m_Kind_steps_eq : m_Kind_steps = fnP 0 b_Kind_steps := rfl
theorem bi_Kind_steps (T : Tx w K mg) : L2.Binds K T.fd_Kind_steps ["self"] [] := T.F_Kind_steps.binds fun _ _ _ _ _ _ us hl => match us, hl with | [_], _ => rfl
theorem ok_Kind_steps (T : Tx w K mg) : FnOk P w K mg base CX0 1 T.f_Kind_steps T.fd_Kind_steps ["self"] (spP ⟨P, w, K, T.C⟩ 1 m_Kind_steps) := by
  refine okP0 T.F_Kind_steps sc_Kind_steps rfl (fun cdv A outer s H E G0 io hr => ?_)
  exact (ps_oneM (ps_retM (pm_up (pd_sub (pd_k_size rfl T.cl T.n_size (pd_fz (pm_var 0))) (pd_int1 rfl T.b_int (pm_up (pd_eq rfl hr.units (pd_k_name rfl T.cl T.n_name (pd_fz (pm_var 0))) pd_str)))))))
/-! ### Kind.start -/
abbrev N_Kind_start : List Str := ["self", "first"]
theorem sc_Kind_start : FnScope N_Kind_start ["self"] (defScope s_Kind_start) := ⟨rfl, rfl, rfl, by decide +kernel, rfl, by decide +kernel, by decide +kernel⟩
def b_Kind_start : MS := (mSeq (mSet 1 (upE (m1 oInt (upE (m2 oEq (mK_name (fz (vr 0))) (cst (.str "mirror")))))))
    (mRet (mLR2 (fz (vr 1)) (m2 oAdd (fz (vr 1)) (mK_size (fz (vr 0)))))))
def m_Kind_start : List D → Option D := fnP 1 b_Kind_start
theorem m_Kind_start_eq : m_Kind_start = fnP 1 b_Kind_start := rfl
theorem bi_Kind_start (T : Tx w K mg) : L2.Binds K T.fd_Kind_start ["self"] [] := T.F_Kind_start.binds fun _ _ _ _ _ _ us hl => match us, hl with | [_], _ => rfl
theorem ok_Kind_start (T : Tx w K mg) : FnOk P w K mg base CX0 1 T.f_Kind_start T.fd_Kind_start ["self"] (spP ⟨P, w, K, T.C⟩ 1 m_Kind_start) := by
  refine okP0 T.F_Kind_start sc_Kind_start rfl (fun cdv A outer s H E G0 io hr => ?_)
  exact (ps_consM (ps_setM 1 (pm_up (pd_int1 rfl T.b_int (pm_up (pd_eq rfl hr.units (pd_k_name rfl T.cl T.n_name (pd_fz (pm_var 0))) pd_str)))) sc_Kind_start.nd)
    (ps_oneM (ps_retM (pm_listR2 rfl rfl T.b_list rfl T.b_range (pd_fz (pm_var 1)) (pd_add (pd_fz (pm_var 1)) (pd_k_size rfl T.cl T.n_size (pd_fz (pm_var 0))))))))
/-! ### check_kind -/
abbrev N_check_kind : List Str := ["kind"]
theorem sc_check_kind : FnScope N_check_kind ["kind"] (defScope s_check_kind) := ⟨rfl, rfl, rfl, by decide +kernel, rfl, by decide +kernel, by decide +kernel⟩
def b_check_kind : MS := (mIf (mNot (asB (m1 (oIsi isiKind) (vr 0)))) mNever mNil)
def m_check_kind : List D → Option D := fnP 0 b_check_kind
theorem m_check_kind_eq : m_check_kind = fnP 0 b_check_kind := rfl
theorem bi_check_kind (T : Tx w K mg) : L2.Binds K T.fd_check_kind ["kind"] [] := T.F_check_kind.binds fun _ _ _ _ _ _ us hl => match us, hl with | [_], _ => rfl
theorem ok_check_kind (T : Tx w K mg) : FnA P w K mg base 1 T.f_check_kind T.fd_check_kind ["kind"] (spP ⟨P, w, K, T.C⟩ 1 m_check_kind) := by
  refine okP T.F_check_kind sc_check_kind rfl (fun cdv A outer s H E G0 io hgd hr => ?_)
  exact (ps_oneM (ps_ifM (pb_not (pb_val (pd_isiK rfl T.cl T.kis rfl T.b_isinstance (pm_var 0) rfl T.g_Kind))) (ps_oneM ps_neverM) ps_nilM))
/-! ### is_crossed -/
abbrev N_is_crossed : List Str := ["kind", "order", "step"]
theorem sc_is_crossed : FnScope N_is_crossed ["kind", "order", "step"] (defScope s_is_crossed) := ⟨rfl, rfl, rfl, by decide +kernel, rfl, by decide +kernel, by decide +kernel⟩
def b_is_crossed : MS := (mSeq (mIf (asB (m2 oEq (mMeth m_Kind_name (fz (vr 0))) (cst (.str "mirror")))) (mRet (upE (mIf (asB (m2 oEq (fz (vr 2)) (cst (.int 0)))) (m2 oLt (mIx oIx (vr 1) (cst (.int 0))) (cst (.int 0))) (m2 oGt (mIx oIx (vr 1) (m2 oSub (fz (vr 2)) (cst (.int 1)))) (mIx oIx (vr 1) (fz (vr 2))))))) mNil)
    (mSeq (mIf (mAnd (asB (m2 oEq (mMeth m_Kind_name (fz (vr 0))) (cst (.str "ring")))) (asB (m2 oEq (fz (vr 2)) (m2 oSub (m1 oLen (vr 1)) (cst (.int 1)))))) (mRet (upE (m2 oGt (mIx oIx (vr 1) (fz (vr 2))) (m2 oAdd (mIx oIx (vr 1) (cst (.int 0))) (m1 oLen (vr 1)))))) mNil)
    (mRet (upE (m2 oGt (mIx oIx (vr 1) (fz (vr 2))) (mIx oIx (vr 1) (m2 oAdd (fz (vr 2)) (cst (.int 1)))))))))
theorem mx_is_crossed : ∃ m : List D → Option D, m = fnP 0 b_is_crossed := ⟨_, rfl⟩
def m_is_crossed : List D → Option D := mx_is_crossed.choose
theorem m_is_crossed_eq : m_is_crossed = fnP 0 b_is_crossed := mx_is_crossed.choose_spec
theorem bi_is_crossed (T : Tx w K mg) : L2.Binds K T.fd_is_crossed ["kind", "order", "step"] [] := T.F_is_crossed.binds fun _ _ _ _ _ _ us hl => match us, hl with | [_, _, _], _ => rfl
theorem ok_is_crossed (T : Tx w K mg) : FnA P w K mg base 2 T.f_is_crossed T.fd_is_crossed ["kind", "order", "step"] (spP ⟨P, w, K, T.C⟩ 3 m_is_crossed) := by
  rw [m_is_crossed_eq]
  refine okP T.F_is_crossed sc_is_crossed rfl (fun cdv A outer s H E G0 io hgd hr => ?_)
  exact (ps_consM (ps_ifM (pb_eq rfl hr.units (pd_meth0 (pd_fz (pm_var 0)) rfl T.cl T.k_name (ok_Kind_name T) (hr.mono (by decide)) (bi_Kind_name T) pass0 kno_name rfl) pd_str) (ps_oneM (ps_retM (pm_up (pd_if (pb_eq rfl hr.units (pd_fz (pm_var 2)) pd_int) (pd_lt (pd_ix rfl (pm_var 1) pd_int (fun _ _ => rfl)) pd_int) (pd_gt (pd_ix rfl (pm_var 1) (pd_sub (pd_fz (pm_var 2)) pd_int) (fun _ _ => rfl)) (pd_ix rfl (pm_var 1) (pd_fz (pm_var 2)) (fun _ _ => rfl))))))) ps_nilM)
    (ps_consM (ps_ifM (PW.pt (pw_and' (pb_eq rfl hr.units (pd_meth0 (pd_fz (pm_var 0)) rfl T.cl T.k_name (ok_Kind_name T) (hr.mono (by decide)) (bi_Kind_name T) pass0 kno_name rfl) pd_str) (pw_and1' (pb_eq rfl hr.units (pd_fz (pm_var 2)) (pd_sub (pd_len rfl rfl T.b_len (pm_var 1)) pd_int))))) (ps_oneM (ps_retM (pm_up (pd_gt (pd_ix rfl (pm_var 1) (pd_fz (pm_var 2)) (fun _ _ => rfl)) (pd_add (pd_ix rfl (pm_var 1) pd_int (fun _ _ => rfl)) (pd_len rfl rfl T.b_len (pm_var 1))))))) ps_nilM)
    (ps_oneM (ps_retM (pm_up (pd_gt (pd_ix rfl (pm_var 1) (pd_fz (pm_var 2)) (fun _ _ => rfl)) (pd_ix rfl (pm_var 1) (pd_add (pd_fz (pm_var 2)) pd_int) (fun _ _ => rfl))))))))
/-! ### by_step -/
abbrev N_by_step : List Str := ["kind", "order", "step", "found", "at"]
theorem sc_by_step : FnScope N_by_step ["kind", "order", "step"] (defScope s_by_step) := ⟨rfl, rfl, rfl, by decide +kernel, rfl, by decide +kernel, by decide +kernel⟩
def b_by_step : MS := (mSeq (mSet 3 (n1 oList (vr 1)))
    (mSeq (mIf (mAnd (asB (m2 oEq (mMeth m_Kind_name (fz (vr 0))) (cst (.str "mirror")))) (asB (m2 oEq (fz (vr 2)) (cst (.int 0))))) (mAsg (m1 (o1I fun i => -i) (upE (mIx oIx (vr 3) (cst (.int 0))))) (gSubL (vr 3) (cst (.int 0)))) (mIf (mAnd (asB (m2 oEq (mMeth m_Kind_name (fz (vr 0))) (cst (.str "ring")))) (asB (m2 oEq (fz (vr 2)) (m2 oSub (m1 oLen (vr 1)) (cst (.int 1)))))) (mAsg (mTup (aCons (m2 oSub (mIx oIx (vr 1) (fz (vr 2))) (m1 oLen (vr 1))) (aCons (m2 oAdd (mIx oIx (vr 1) (cst (.int 0))) (m1 oLen (vr 1))) aNil))) (gPr (gSubL (vr 3) (cst (.int 0))) (gSubL (vr 3) (fz (vr 2))))) (mSeq (mSet 4 (upE (m2 oSub (fz (vr 2)) (m1 oInt (upE (m2 oEq (mMeth m_Kind_name (fz (vr 0))) (cst (.str "mirror"))))))))
    (mAsg (mTup (aCons (mIx oIx (vr 1) (m2 oAdd (fz (vr 4)) (cst (.int 1)))) (aCons (mIx oIx (vr 1) (fz (vr 4))) aNil))) (gPr (gSubL (vr 3) (fz (vr 4))) (gSubL (vr 3) (m2 oAdd (fz (vr 4)) (cst (.int 1)))))))))
    (mRet (vr 3))))
theorem mx_by_step : ∃ m : List D → Option D, m = fnP 2 b_by_step := ⟨_, rfl⟩
def m_by_step : List D → Option D := mx_by_step.choose
theorem m_by_step_eq : m_by_step = fnP 2 b_by_step := mx_by_step.choose_spec
theorem bi_by_step (T : Tx w K mg) : L2.Binds K T.fd_by_step ["kind", "order", "step"] [] := T.F_by_step.binds fun _ _ _ _ _ _ us hl => match us, hl with | [_, _, _], _ => rfl
theorem ok_by_step (T : Tx w K mg) : FnA P w K mg base 2 T.f_by_step T.fd_by_step ["kind", "order", "step"] (spP ⟨P, w, K, T.C⟩ 3 m_by_step) := by
  rw [m_by_step_eq]
  refine okP T.F_by_step sc_by_step rfl (fun cdv A outer s H E G0 io hgd hr => ?_)
  exact (ps_consM (ps_setM 3 (pm_list1 rfl rfl T.b_list (pm_var 1)) sc_by_step.nd)
    (ps_consM (ps_ifM (PW.pt (pw_and' (pb_eq rfl hr.units (pd_meth0 (pd_fz (pm_var 0)) rfl T.cl T.k_name (ok_Kind_name T) (hr.mono (by decide)) (bi_Kind_name T) pass0 kno_name rfl) pd_str) (pw_and1' (pb_eq rfl hr.units (pd_fz (pm_var 2)) pd_int)))) (ps_oneM (ps_asgM (pd_neg (pm_up (pd_ix rfl (pm_var 3) pd_int (fun _ _ => rfl)))) (pg_subM (pm_var 3) pd_int))) (ps_oneM (ps_ifM (PW.pt (pw_and' (pb_eq rfl hr.units (pd_meth0 (pd_fz (pm_var 0)) rfl T.cl T.k_name (ok_Kind_name T) (hr.mono (by decide)) (bi_Kind_name T) pass0 kno_name rfl) pd_str) (pw_and1' (pb_eq rfl hr.units (pd_fz (pm_var 2)) (pd_sub (pd_len rfl rfl T.b_len (pm_var 1)) pd_int))))) (ps_oneM (ps_asgM (pd_tup (pa_consM (pd_sub (pd_ix rfl (pm_var 1) (pd_fz (pm_var 2)) (fun _ _ => rfl)) (pd_len rfl rfl T.b_len (pm_var 1))) (pa_consM (pd_add (pd_ix rfl (pm_var 1) pd_int (fun _ _ => rfl)) (pd_len rfl rfl T.b_len (pm_var 1))) pa_nilM))) (pg_pairM rfl rfl (pg_subM (pm_var 3) pd_int) (pg_subM (pm_var 3) (pd_fz (pm_var 2)))))) (ps_consM (ps_setM 4 (pm_up (pd_sub (pd_fz (pm_var 2)) (pd_int1 rfl T.b_int (pm_up (pd_eq rfl hr.units (pd_meth0 (pd_fz (pm_var 0)) rfl T.cl T.k_name (ok_Kind_name T) (hr.mono (by decide)) (bi_Kind_name T) pass0 kno_name rfl) pd_str))))) sc_by_step.nd)
    (ps_oneM (ps_asgM (pd_tup (pa_consM (pd_ix rfl (pm_var 1) (pd_add (pd_fz (pm_var 4)) pd_int) (fun _ _ => rfl)) (pa_consM (pd_ix rfl (pm_var 1) (pd_fz (pm_var 4)) (fun _ _ => rfl)) pa_nilM))) (pg_pairM rfl rfl (pg_subM (pm_var 3) (pd_fz (pm_var 4))) (pg_subM (pm_var 3) (pd_add (pd_fz (pm_var 4)) pd_int)))))))))
    (ps_oneM (ps_retM (pm_var 3)))))
/-! ### item_at -/
abbrev N_item_at : List Str := ["kind", "order", "place"]
theorem sc_item_at : FnScope N_item_at ["kind", "order", "place"] (defScope s_item_at) := ⟨rfl, rfl, rfl, by decide +kernel, rfl, by decide +kernel, by decide +kernel⟩
def b_item_at : MS := (mSeq (mIf (asB (m2 oEq (mMeth m_Kind_name (fz (vr 0))) (cst (.str "mirror")))) (mRet (upE (m2 oMul (mIx oIx (vr 1) (m2 oSub (m1 oAbs (vr 2)) (cst (.int 1)))) (mIf (asB (m2 oGt (fz (vr 2)) (cst (.int 0)))) (cst (.int 1)) (m1 (o1I fun i => -i) (upE (cst (.int 1)))))))) mNil)
    (mRet (upE (m2 oSub (m2 oAdd (mIx oIx (vr 1) (m2 oMod (fz (vr 2)) (m1 oLen (vr 1)))) (fz (vr 2))) (m2 oMod (fz (vr 2)) (m1 oLen (vr 1)))))))
theorem mx_item_at : ∃ m : List D → Option D, m = fnP 0 b_item_at := ⟨_, rfl⟩
def m_item_at : List D → Option D := mx_item_at.choose
theorem m_item_at_eq : m_item_at = fnP 0 b_item_at := mx_item_at.choose_spec
theorem bi_item_at (T : Tx w K mg) : L2.Binds K T.fd_item_at ["kind", "order", "place"] [] := T.F_item_at.binds fun _ _ _ _ _ _ us hl => match us, hl with | [_, _, _], _ => rfl
theorem ok_item_at (T : Tx w K mg) : FnA P w K mg base 2 T.f_item_at T.fd_item_at ["kind", "order", "place"] (spP ⟨P, w, K, T.C⟩ 3 m_item_at) := by
  rw [m_item_at_eq]
  refine okP T.F_item_at sc_item_at rfl (fun cdv A outer s H E G0 io hgd hr => ?_)
  exact (ps_consM (ps_ifM (pb_eq rfl hr.units (pd_meth0 (pd_fz (pm_var 0)) rfl T.cl T.k_name (ok_Kind_name T) (hr.mono (by decide)) (bi_Kind_name T) pass0 kno_name rfl) pd_str) (ps_oneM (ps_retM (pm_up (pd_mul (pd_ix rfl (pm_var 1) (pd_sub (pd_abs rfl T.b_abs (pm_var 2)) pd_int) (fun _ _ => rfl)) (pd_if (pb_gt (pd_fz (pm_var 2)) pd_int) pd_int (pd_neg (pm_up pd_int))))))) ps_nilM)
    (ps_oneM (ps_retM (pm_up (pd_sub (pd_add (pd_ix rfl (pm_var 1) (pd_mod (pd_fz (pm_var 2)) (pd_len rfl rfl T.b_len (pm_var 1))) (fun _ _ => rfl)) (pd_fz (pm_var 2))) (pd_mod (pd_fz (pm_var 2)) (pd_len rfl rfl T.b_len (pm_var 1))))))))
/-! ### product_of -/
abbrev N_product_of : List Str := ["kind", "one", "other", "place"]
theorem sc_product_of : FnScope N_product_of ["kind", "one", "other"] (defScope s_product_of) := ⟨rfl, rfl, rfl, by decide +kernel, rfl, by decide +kernel, by decide +kernel⟩
def b_product_of : MS := (mRet (mCmp (iLst (fz (vr 2))) (gNm 3) yes (mC (nA m_item_at 3) (aCons (fz (vr 0)) (aCons (fz (vr 1)) (aCons (fz (vr 3)) aNil)))) [3]))
theorem mx_product_of : ∃ m : List D → Option D, m = fnP 1 b_product_of := ⟨_, rfl⟩
def m_product_of : List D → Option D := mx_product_of.choose
theorem m_product_of_eq : m_product_of = fnP 1 b_product_of := mx_product_of.choose_spec
theorem bi_product_of (T : Tx w K mg) : L2.Binds K T.fd_product_of ["kind", "one", "other"] [] := T.F_product_of.binds fun _ _ _ _ _ _ us hl => match us, hl with | [_, _, _], _ => rfl
theorem ok_product_of (T : Tx w K mg) : FnA P w K mg base 3 T.f_product_of T.fd_product_of ["kind", "one", "other"] (spP ⟨P, w, K, T.C⟩ 3 m_product_of) := by
  rw [m_product_of_eq]
  refine okP T.F_product_of sc_product_of rfl (fun cdv A outer s H E G0 io hgd hr => ?_)
  exact (ps_oneM (ps_retM (pm_lc (own := [("place", 3)]) rfl sc_product_of.nd (pi_listM rfl (pd_fz (pm_var 2))) (blkOk_by (own := [("place", 3)]) (N := N_product_of) (sc := defScope s_product_of) (by decide +kernel)) (fun _ _ _ _ _ => (pg_nameM 3 sc_product_of.nd)) (fun _ _ _ _ _ => pts_nilM) (fun _ _ _ _ _ => (pd_call (ok_item_at T) hgd (hr.mono (by decide)) rfl T.g_item_at T.F_item_at.kp (bi_item_at T) (pa_consM (pd_fz (pm_var 0)) (pa_consM (pd_fz (pm_var 1)) (pa_consM (pd_fz (pm_var 3)) pa_nilM))))))))
/-! ### opposite_of -/
abbrev N_opposite_of : List Str := ["kind", "order", "found", "at", "item"]
theorem sc_opposite_of : FnScope N_opposite_of ["kind", "order"] (defScope s_opposite_of) := ⟨rfl, rfl, rfl, by decide +kernel, rfl, by decide +kernel, by decide +kernel⟩
def b_opposite_of : MS := (mSeq (mSet 2 (mRep (mLst (aCons (cst (.int 0)) aNil)) (m1 oLen (vr 1))))
    (mSeq (mFor (iEn (fz (vr 1))) (gPr (gNm 3) (gNm 4)) (mIf (asB (m2 oEq (mMeth m_Kind_name (fz (vr 0))) (cst (.str "mirror")))) (mAsg (m2 oMul (m2 oAdd (fz (vr 3)) (cst (.int 1))) (mIf (asB (m2 oGt (fz (vr 4)) (cst (.int 0)))) (cst (.int 1)) (m1 (o1I fun i => -i) (upE (cst (.int 1)))))) (gSubL (vr 2) (m2 oSub (m1 oAbs (vr 4)) (cst (.int 1))))) (mAsg (m2 oSub (fz (vr 3)) (m2 oSub (fz (vr 4)) (m2 oMod (fz (vr 4)) (m1 oLen (vr 1))))) (gSubL (vr 2) (m2 oMod (fz (vr 4)) (m1 oLen (vr 1)))))))
    (mRet (vr 2))))
theorem mx_opposite_of : ∃ m : List D → Option D, m = fnP 3 b_opposite_of := ⟨_, rfl⟩
def m_opposite_of : List D → Option D := mx_opposite_of.choose
theorem m_opposite_of_eq : m_opposite_of = fnP 3 b_opposite_of := mx_opposite_of.choose_spec
theorem bi_opposite_of (T : Tx w K mg) : L2.Binds K T.fd_opposite_of ["kind", "order"] [] := T.F_opposite_of.binds fun _ _ _ _ _ _ us hl => match us, hl with | [_, _], _ => rfl
theorem ok_opposite_of (T : Tx w K mg) : FnA P w K mg base 2 T.f_opposite_of T.fd_opposite_of ["kind", "order"] (spP ⟨P, w, K, T.C⟩ 2 m_opposite_of) := by
  rw [m_opposite_of_eq]
  refine okP T.F_opposite_of sc_opposite_of rfl (fun cdv A outer s H E G0 io hgd hr => ?_)
  exact (ps_consM (ps_setM 2 (pm_rep (pm_lst (pa_consM pd_int pa_nilM)) (pd_len rfl rfl T.b_len (pm_var 1))) sc_opposite_of.nd)
    (ps_consM (ps_forM PassesOwn.never rfl (pi_enumM rfl rfl T.b_enumerate (pd_fz (pm_var 1))) (pg_pairM rfl rfl (pg_nameM 3 sc_opposite_of.nd) (pg_nameM 4 sc_opposite_of.nd)) (ps_oneM (ps_ifM (pb_eq rfl hr.units (pd_meth0 (pd_fz (pm_var 0)) rfl T.cl T.k_name (ok_Kind_name T) (hr.mono (by decide)) (bi_Kind_name T) pass0 kno_name rfl) pd_str) (ps_oneM (ps_asgM (pd_mul (pd_add (pd_fz (pm_var 3)) pd_int) (pd_if (pb_gt (pd_fz (pm_var 4)) pd_int) pd_int (pd_neg (pm_up pd_int)))) (pg_subM (pm_var 2) (pd_sub (pd_abs rfl T.b_abs (pm_var 4)) pd_int)))) (ps_oneM (ps_asgM (pd_sub (pd_fz (pm_var 3)) (pd_sub (pd_fz (pm_var 4)) (pd_mod (pd_fz (pm_var 4)) (pd_len rfl rfl T.b_len (pm_var 1))))) (pg_subM (pm_var 2) (pd_mod (pd_fz (pm_var 4)) (pd_len rfl rfl T.b_len (pm_var 1)))))))))
    (ps_oneM (ps_retM (pm_var 2)))))
/-! ### falls_of -/
abbrev N_falls_of : List Str := ["kind", "order", "step"]
theorem sc_falls_of : FnScope N_falls_of ["kind", "order"] (defScope s_falls_of) := ⟨rfl, rfl, rfl, by decide +kernel, rfl, by decide +kernel, by decide +kernel⟩
def b_falls_of : MS := (mRet (mCmp (iRg1 (aCons (mMeth m_Kind_steps (fz (vr 0))) aNil)) (gNm 2) (asB (mC (nA m_is_crossed 3) (aCons (fz (vr 0)) (aCons (fz (vr 1)) (aCons (fz (vr 2)) aNil))))) (fz (vr 2)) [2]))
theorem mx_falls_of : ∃ m : List D → Option D, m = fnP 1 b_falls_of := ⟨_, rfl⟩
def m_falls_of : List D → Option D := mx_falls_of.choose
theorem m_falls_of_eq : m_falls_of = fnP 1 b_falls_of := mx_falls_of.choose_spec
theorem bi_falls_of (T : Tx w K mg) : L2.Binds K T.fd_falls_of ["kind", "order"] [] := T.F_falls_of.binds fun _ _ _ _ _ _ us hl => match us, hl with | [_, _], _ => rfl
theorem ok_falls_of (T : Tx w K mg) : FnA P w K mg base 3 T.f_falls_of T.fd_falls_of ["kind", "order"] (spP ⟨P, w, K, T.C⟩ 2 m_falls_of) := by
  rw [m_falls_of_eq]
  refine okP T.F_falls_of sc_falls_of rfl (fun cdv A outer s H E G0 io hgd hr => ?_)
  exact (ps_oneM (ps_retM (pm_lc (own := [("step", 2)]) rfl sc_falls_of.nd (pi_rg1M rfl T.b_range (pa_consM (pd_meth0 (pd_fz (pm_var 0)) rfl T.cl T.k_steps (ok_Kind_steps T) (hr.mono (by decide)) (bi_Kind_steps T) pass0 kno_steps rfl) pa_nilM)) (blkOk_by (own := [("step", 2)]) (N := N_falls_of) (sc := defScope s_falls_of) (by decide +kernel)) (fun _ _ _ _ _ => (pg_nameM 2 sc_falls_of.nd)) (fun _ _ _ _ _ => (pts_oneM (pb_val (pd_call (ok_is_crossed T) hgd (hr.mono (by decide)) rfl T.g_is_crossed T.F_is_crossed.kp (bi_is_crossed T) (pa_consM (pd_fz (pm_var 0)) (pa_consM (pd_fz (pm_var 1)) (pa_consM (pd_fz (pm_var 2)) pa_nilM))))))) (fun _ _ _ _ _ => (pd_fz (pm_var 2))))))
/-! ### crossings_between -/
abbrev N_crossings_between : List Str := ["kind", "size", "low", "high"]
theorem sc_crossings_between : FnScope N_crossings_between ["kind", "size", "low", "high"] (defScope s_crossings_between) := ⟨rfl, rfl, rfl, by decide +kernel, rfl, by decide +kernel, by decide +kernel⟩
def b_crossings_between : MS := (mSeq (mIf (asB (m2 oEq (mMeth m_Kind_name (fz (vr 0))) (cst (.str "ring")))) (mRet (upE (m1 oAbs (upE (m2 oDiv (m2 oSub (fz (vr 3)) (fz (vr 2))) (fz (vr 1))))))) mNil)
    (mRet (upE (m2 oAdd (m1 oInt (upE (m2 oGt (fz (vr 2)) (fz (vr 3))))) (m1 oInt (upE (vAnd (m2 oEq (mMeth m_Kind_name (fz (vr 0))) (cst (.str "mirror"))) (m2 oLt (m2 oAdd (fz (vr 2)) (fz (vr 3))) (cst (.int 0))))))))))
theorem mx_crossings_between : ∃ m : List D → Option D, m = fnP 0 b_crossings_between := ⟨_, rfl⟩
def m_crossings_between : List D → Option D := mx_crossings_between.choose
theorem m_crossings_between_eq : m_crossings_between = fnP 0 b_crossings_between := mx_crossings_between.choose_spec
theorem bi_crossings_between (T : Tx w K mg) : L2.Binds K T.fd_crossings_between ["kind", "size", "low", "high"] [] := T.F_crossings_between.binds fun _ _ _ _ _ _ us hl => match us, hl with | [_, _, _, _], _ => rfl
theorem ok_crossings_between (T : Tx w K mg) : FnA P w K mg base 2 T.f_crossings_between T.fd_crossings_between ["kind", "size", "low", "high"] (spP ⟨P, w, K, T.C⟩ 4 m_crossings_between) := by
  rw [m_crossings_between_eq]
  refine okP T.F_crossings_between sc_crossings_between rfl (fun cdv A outer s H E G0 io hgd hr => ?_)
  exact (ps_consM (ps_ifM (pb_eq rfl hr.units (pd_meth0 (pd_fz (pm_var 0)) rfl T.cl T.k_name (ok_Kind_name T) (hr.mono (by decide)) (bi_Kind_name T) pass0 kno_name rfl) pd_str) (ps_oneM (ps_retM (pm_up (pd_abs rfl T.b_abs (pm_up (pd_div (pd_sub (pd_fz (pm_var 3)) (pd_fz (pm_var 2))) (pd_fz (pm_var 1)))))))) ps_nilM)
    (ps_oneM (ps_retM (pm_up (pd_add (pd_int1 rfl T.b_int (pm_up (pd_gt (pd_fz (pm_var 2)) (pd_fz (pm_var 3))))) (pd_int1 rfl T.b_int (pm_up (pd_and (pd_eq rfl hr.units (pd_meth0 (pd_fz (pm_var 0)) rfl T.cl T.k_name (ok_Kind_name T) (hr.mono (by decide)) (bi_Kind_name T) pass0 kno_name rfl) pd_str) (pd_one (pd_lt (pd_add (pd_fz (pm_var 2)) (pd_fz (pm_var 3))) pd_int))))))))))
/-! ### crossings_of -/
abbrev N_crossings_of : List Str := ["kind", "order", "found", "at", "low", "high"]
theorem sc_crossings_of : FnScope N_crossings_of ["kind", "order"] (defScope s_crossings_of) := ⟨rfl, rfl, rfl, by decide +kernel, rfl, by decide +kernel, by decide +kernel⟩
def b_crossings_of : MS := (mSeq (mSet 2 (upE (cst (.int 0))))
    (mSeq (mFor (iEn (fz (vr 1))) (gPr (gNm 3) (gNm 4)) (mSeq (mFor (iLst (fz (mSl (vr 1) (oYes (m2 oAdd (fz (vr 3)) (cst (.int 1)))) oNo))) (gNm 5) (mSet 2 (upE (m2 oAdd (fz (vr 2)) (mC (nA m_crossings_between 4) (aCons (fz (vr 0)) (aCons (m1 oLen (vr 1)) (aCons (fz (vr 4)) (aCons (fz (vr 5)) aNil)))))))))
    (mSet 2 (upE (m2 oAdd (fz (vr 2)) (m1 oInt (upE (vAnd (m2 oEq (mMeth m_Kind_name (fz (vr 0))) (cst (.str "mirror"))) (m2 oLt (fz (vr 4)) (cst (.int 0)))))))))))
    (mRet (vr 2))))
theorem mx_crossings_of : ∃ m : List D → Option D, m = fnP 4 b_crossings_of := ⟨_, rfl⟩
def m_crossings_of : List D → Option D := mx_crossings_of.choose
theorem m_crossings_of_eq : m_crossings_of = fnP 4 b_crossings_of := mx_crossings_of.choose_spec
theorem bi_crossings_of (T : Tx w K mg) : L2.Binds K T.fd_crossings_of ["kind", "order"] [] := T.F_crossings_of.binds fun _ _ _ _ _ _ us hl => match us, hl with | [_, _], _ => rfl
theorem ok_crossings_of (T : Tx w K mg) : FnA P w K mg base 3 T.f_crossings_of T.fd_crossings_of ["kind", "order"] (spP ⟨P, w, K, T.C⟩ 2 m_crossings_of) := by
  rw [m_crossings_of_eq]
  refine okP T.F_crossings_of sc_crossings_of rfl (fun cdv A outer s H E G0 io hgd hr => ?_)
  exact (ps_consM (ps_setM 2 (pm_up pd_int) sc_crossings_of.nd)
    (ps_consM (ps_forM PassesOwn.never rfl (pi_enumM rfl rfl T.b_enumerate (pd_fz (pm_var 1))) (pg_pairM rfl rfl (pg_nameM 3 sc_crossings_of.nd) (pg_nameM 4 sc_crossings_of.nd)) (ps_consM (ps_forM PassesOwn.never rfl (pi_listM rfl (pd_fz (pm_slice rfl (pm_var 1) (po_yesM (pd_add (pd_fz (pm_var 3)) pd_int)) po_noM))) (pg_nameM 5 sc_crossings_of.nd) (ps_oneM (ps_setM 2 (pm_up (pd_add (pd_fz (pm_var 2)) (pd_call (ok_crossings_between T) hgd (hr.mono (by decide)) rfl T.g_crossings_between T.F_crossings_between.kp (bi_crossings_between T) (pa_consM (pd_fz (pm_var 0)) (pa_consM (pd_len rfl rfl T.b_len (pm_var 1)) (pa_consM (pd_fz (pm_var 4)) (pa_consM (pd_fz (pm_var 5)) pa_nilM))))))) sc_crossings_of.nd)))
    (ps_oneM (ps_setM 2 (pm_up (pd_add (pd_fz (pm_var 2)) (pd_int1 rfl T.b_int (pm_up (pd_and (pd_eq rfl hr.units (pd_meth0 (pd_fz (pm_var 0)) rfl T.cl T.k_name (ok_Kind_name T) (hr.mono (by decide)) (bi_Kind_name T) pass0 kno_name rfl) pd_str) (pd_one (pd_lt (pd_fz (pm_var 4)) pd_int))))))) sc_crossings_of.nd))))
    (ps_oneM (ps_retM (pm_var 2)))))
/-! ### is_order_list -/
abbrev N_is_order_list : List Str := ["kind", "value", "size", "item"]
theorem sc_is_order_list : FnScope N_is_order_list ["kind", "value"] (defScope s_is_order_list) := ⟨rfl, rfl, rfl, by decide +kernel, rfl, by decide +kernel, by decide +kernel⟩
def b_is_order_list : MS := (mSeq (mSet 2 (upE (mMeth m_Kind_size (fz (vr 0)))))
    (mSeq (mIf (mOr (mNot (asB (m1 (oIsi isiList) (vr 1)))) (mOr (asB (m2 oNe (m1 oLen (vr 1)) (fz (vr 2)))) (asB (m2 oNe (fz (mCmp (iLst (fz (vr 1))) (gNm 3) (mNot (asB (mC (nA m_is_whole 1) (aCons (fz (vr 3)) aNil)))) (fz (vr 3)) [3])) (fz (mLst aNil)))))) (mRet (upE (cst (.bl false)))) mNil)
    (mSeq (mIf (asB (m2 oEq (mMeth m_Kind_name (fz (vr 0))) (cst (.str "plain")))) (mRet (upE (m2 oEq (fz (n1 oSortI (vr 1))) (fz (mLR1 (fz (vr 2))))))) mNil)
    (mSeq (mIf (asB (m2 oEq (mMeth m_Kind_name (fz (vr 0))) (cst (.str "mirror")))) (mRet (upE (m2 oEq (fz (n1 oSortI (mCmp (iLst (fz (vr 1))) (gNm 3) yes (m1 oAbs (vr 3)) [3]))) (fz (mLR2 (cst (.int 1)) (m2 oAdd (fz (vr 2)) (cst (.int 1)))))))) mNil)
    (mRet (upE (vAnd (m2 oEq (fz (n1 oSortI (mCmp (iLst (fz (vr 1))) (gNm 3) yes (m2 oMod (fz (vr 3)) (fz (vr 2))) [3]))) (fz (mLR1 (fz (vr 2))))) (m2 oEq (m1 oSum (vr 1)) (m2 oDiv (m2 oMul (fz (vr 2)) (m2 oSub (fz (vr 2)) (cst (.int 1)))) (cst (.int 2)))))))))))
theorem mx_is_order_list : ∃ m : List D → Option D, m = fnP 2 b_is_order_list := ⟨_, rfl⟩
def m_is_order_list : List D → Option D := mx_is_order_list.choose
theorem m_is_order_list_eq : m_is_order_list = fnP 2 b_is_order_list := mx_is_order_list.choose_spec
theorem bi_is_order_list (T : Tx w K mg) : L2.Binds K T.fd_is_order_list ["kind", "value"] [] := T.F_is_order_list.binds fun _ _ _ _ _ _ us hl => match us, hl with | [_, _], _ => rfl
theorem ok_is_order_list (T : Tx w K mg) : FnA P w K mg base 2 T.f_is_order_list T.fd_is_order_list ["kind", "value"] (spP ⟨P, w, K, T.C⟩ 2 m_is_order_list) := by
  rw [m_is_order_list_eq]
  refine okP T.F_is_order_list sc_is_order_list rfl (fun cdv A outer s H E G0 io hgd hr => ?_)
  exact (ps_consM (ps_setM 2 (pm_up (pd_meth0 (pd_fz (pm_var 0)) rfl T.cl T.k_size (ok_Kind_size T) (hr.mono (by decide)) (bi_Kind_size T) pass0 kno_size rfl)) sc_is_order_list.nd)
    (ps_consM (ps_ifM (PW.pt (pw_or' (pb_not (pb_val (pd_isi (isi_list rfl) rfl T.b_isinstance (pm_var 1) rfl T.b_list (by decide +kernel)))) (pw_or' (pb_ne rfl hr.units (pd_len rfl rfl T.b_len (pm_var 1)) (pd_fz (pm_var 2))) (pw_or1' (pb_ne rfl hr.units (pd_fz (pm_lc (own := [("item", 3)]) rfl sc_is_order_list.nd (pi_listM rfl (pd_fz (pm_var 1))) (blkOk_by (own := [("item", 3)]) (N := N_is_order_list) (sc := defScope s_is_order_list) (by decide +kernel)) (fun _ _ _ _ _ => (pg_nameM 3 sc_is_order_list.nd)) (fun _ _ _ _ _ => (pts_oneM (pb_not (pb_val (pd_call0 (ok_is_whole T) (hr.mono (by decide)) rfl T.g_is_whole T.F_is_whole.kp (bi_is_whole T) (pa_consM (pd_fz (pm_var 3)) pa_nilM)))))) (fun _ _ _ _ _ => (pd_fz (pm_var 3))))) (pd_fz (pm_lst pa_nilM))))))) (ps_oneM (ps_retM (pm_up pd_bl))) ps_nilM)
    (ps_consM (ps_ifM (pb_eq rfl hr.units (pd_meth0 (pd_fz (pm_var 0)) rfl T.cl T.k_name (ok_Kind_name T) (hr.mono (by decide)) (bi_Kind_name T) pass0 kno_name rfl) pd_str) (ps_oneM (ps_retM (pm_up (pd_eq rfl hr.units (pd_fz (pm_sortI rfl rfl T.b_sorted (pm_var 1))) (pd_fz (pm_listR1 rfl rfl T.b_list rfl T.b_range (pd_fz (pm_var 2)))))))) ps_nilM)
    (ps_consM (ps_ifM (pb_eq rfl hr.units (pd_meth0 (pd_fz (pm_var 0)) rfl T.cl T.k_name (ok_Kind_name T) (hr.mono (by decide)) (bi_Kind_name T) pass0 kno_name rfl) pd_str) (ps_oneM (ps_retM (pm_up (pd_eq rfl hr.units (pd_fz (pm_sortI rfl rfl T.b_sorted (pm_lc (own := [("item", 3)]) rfl sc_is_order_list.nd (pi_listM rfl (pd_fz (pm_var 1))) (blkOk_by (own := [("item", 3)]) (N := N_is_order_list) (sc := defScope s_is_order_list) (by decide +kernel)) (fun _ _ _ _ _ => (pg_nameM 3 sc_is_order_list.nd)) (fun _ _ _ _ _ => pts_nilM) (fun _ _ _ _ _ => (pd_abs rfl T.b_abs (pm_var 3)))))) (pd_fz (pm_listR2 rfl rfl T.b_list rfl T.b_range pd_int (pd_add (pd_fz (pm_var 2)) pd_int))))))) ps_nilM)
    (ps_oneM (ps_retM (pm_up (pd_and (pd_eq rfl hr.units (pd_fz (pm_sortI rfl rfl T.b_sorted (pm_lc (own := [("item", 3)]) rfl sc_is_order_list.nd (pi_listM rfl (pd_fz (pm_var 1))) (blkOk_by (own := [("item", 3)]) (N := N_is_order_list) (sc := defScope s_is_order_list) (by decide +kernel)) (fun _ _ _ _ _ => (pg_nameM 3 sc_is_order_list.nd)) (fun _ _ _ _ _ => pts_nilM) (fun _ _ _ _ _ => (pd_mod (pd_fz (pm_var 3)) (pd_fz (pm_var 2))))))) (pd_fz (pm_listR1 rfl rfl T.b_list rfl T.b_range (pd_fz (pm_var 2))))) (pd_one (pd_eq rfl hr.units (pd_sum rfl rfl rfl T.b_sum (pm_var 1)) (pd_div (pd_mul (pd_fz (pm_var 2)) (pd_sub (pd_fz (pm_var 2)) pd_int)) pd_int)))))))))))
/-! ### is_let_order -/
abbrev N_is_let_order : List Str := ["kind", "value"]
theorem sc_is_let_order : FnScope N_is_let_order ["kind", "value"] (defScope s_is_let_order) := ⟨rfl, rfl, rfl, by decide +kernel, rfl, by decide +kernel, by decide +kernel⟩
def b_is_let_order : MS := (mRet (upE (vAnd (mC (nA m_is_order_list 2) (aCons (fz (vr 0)) (aCons (fz (vr 1)) aNil))) (m2 oLe (mC (nA m_crossings_of 2) (aCons (fz (vr 0)) (aCons (fz (vr 1)) aNil))) (cst (.int 60))))))
theorem mx_is_let_order : ∃ m : List D → Option D, m = fnP 0 b_is_let_order := ⟨_, rfl⟩
def m_is_let_order : List D → Option D := mx_is_let_order.choose
theorem m_is_let_order_eq : m_is_let_order = fnP 0 b_is_let_order := mx_is_let_order.choose_spec
theorem bi_is_let_order (T : Tx w K mg) : L2.Binds K T.fd_is_let_order ["kind", "value"] [] := T.F_is_let_order.binds fun _ _ _ _ _ _ us hl => match us, hl with | [_, _], _ => rfl
theorem ok_is_let_order (T : Tx w K mg) : FnA P w K mg base 4 T.f_is_let_order T.fd_is_let_order ["kind", "value"] (spP ⟨P, w, K, T.C⟩ 2 m_is_let_order) := by
  rw [m_is_let_order_eq]
  refine okP T.F_is_let_order sc_is_let_order rfl (fun cdv A outer s H E G0 io hgd hr => ?_)
  exact (ps_oneM (ps_retM (pm_up (pd_and (pd_call (ok_is_order_list T) hgd (hr.mono (by decide)) rfl T.g_is_order_list T.F_is_order_list.kp (bi_is_order_list T) (pa_consM (pd_fz (pm_var 0)) (pa_consM (pd_fz (pm_var 1)) pa_nilM))) (pd_one (pd_le (pd_call (ok_crossings_of T) hgd (hr.mono (by decide)) rfl T.g_crossings_of T.F_crossings_of.kp (bi_crossings_of T) (pa_consM (pd_fz (pm_var 0)) (pa_consM (pd_fz (pm_var 1)) pa_nilM))) (pd_glob (i := 60) rfl T.c_MOST_CROSSINGS.choose_spec ⟨_, rfl⟩)))))))
/-! ### check_order -/
abbrev N_check_order : List Str := ["kind", "order"]
theorem sc_check_order : FnScope N_check_order ["kind", "order"] (defScope s_check_order) := ⟨rfl, rfl, rfl, by decide +kernel, rfl, by decide +kernel, by decide +kernel⟩
def b_check_order : MS := (mIf (mNot (asB (mC (nA m_is_let_order 2) (aCons (fz (vr 0)) (aCons (fz (vr 1)) aNil))))) mNever mNil)
theorem mx_check_order : ∃ m : List D → Option D, m = fnP 0 b_check_order := ⟨_, rfl⟩
def m_check_order : List D → Option D := mx_check_order.choose
theorem m_check_order_eq : m_check_order = fnP 0 b_check_order := mx_check_order.choose_spec
theorem bi_check_order (T : Tx w K mg) : L2.Binds K T.fd_check_order ["kind", "order"] [] := T.F_check_order.binds fun _ _ _ _ _ _ us hl => match us, hl with | [_, _], _ => rfl
theorem ok_check_order (T : Tx w K mg) : FnA P w K mg base 5 T.f_check_order T.fd_check_order ["kind", "order"] (spP ⟨P, w, K, T.C⟩ 2 m_check_order) := by
  rw [m_check_order_eq]
  refine okP T.F_check_order sc_check_order rfl (fun cdv A outer s H E G0 io hgd hr => ?_)
  exact (ps_oneM (ps_ifM (pb_not (pb_val (pd_call (ok_is_let_order T) hgd (hr.mono (by decide)) rfl T.g_is_let_order T.F_is_let_order.kp (bi_is_let_order T) (pa_consM (pd_fz (pm_var 0)) (pa_consM (pd_fz (pm_var 1)) pa_nilM))))) (ps_oneM ps_neverM) ps_nilM))
/-! ### unfolded -/
abbrev N_unfolded : List Str := ["order", "size", "items", "item"]
theorem sc_unfolded : FnScope N_unfolded ["order", "size"] (defScope s_unfolded) := ⟨rfl, rfl, rfl, by decide +kernel, rfl, by decide +kernel, by decide +kernel⟩
def b_unfolded : MS := (mSeq (mDrop (mC (nA m_check_number 3) (aCons (fz (vr 1)) (aCons (cst (.int 1)) (aCons (cst (.int 3)) aNil)))))
    (mSeq (mIf (mNot (asB (mC (nA m_is_let_order 2) (aCons (mC oKind (aCons (cst (.str "mirror")) (aCons (fz (vr 1)) aNil))) (aCons (fz (vr 0)) aNil))))) mNever mNil)
    (mSeq (mSet 2 (mCatL (mCmp (iRvL (fz (vr 0))) (gNm 3) yes (m1 (o1I fun i => -i) (vr 3)) [3]) (n1 oList (vr 0))))
    (mRet (mCmp (iLst (fz (vr 2))) (gNm 3) yes (m2 oSub (m2 oAdd (fz (vr 3)) (fz (vr 1))) (m1 oInt (upE (m2 oGt (fz (vr 3)) (cst (.int 0)))))) [3])))))
theorem mx_unfolded : ∃ m : List D → Option D, m = fnN 2 b_unfolded := ⟨_, rfl⟩
def m_unfolded : List D → Option D := mx_unfolded.choose
theorem m_unfolded_eq : m_unfolded = fnN 2 b_unfolded := mx_unfolded.choose_spec
theorem bi_unfolded (T : Tx w K mg) : L2.Binds K T.fd_unfolded ["order", "size"] [] := T.F_unfolded.binds fun _ _ _ _ _ _ us hl => match us, hl with | [_, _], _ => rfl
theorem kr_unfolded (T : Tx w K mg) : KRev K T.fd_unfolded ["order", "size"] ["size", "order"] := krev_of T.F_unfolded fun _ _ _ _ _ _ us hl => match us, hl with | [_, _], _ => rfl
theorem ok_unfolded (T : Tx w K mg) : FnA P w K mg base 6 T.f_unfolded T.fd_unfolded ["order", "size"] (spN ⟨P, w, K, T.C⟩ 2 m_unfolded) := by
  rw [m_unfolded_eq]
  refine okN T.F_unfolded sc_unfolded rfl (fun cdv A outer s H E G0 io hgd hr => ?_)
  exact (ps_consM (ps_exprM (pd_call0 (ok_check_number T) (hr.mono (by decide)) rfl T.g_check_number T.F_check_number.kp (bi_check_number T) (pa_consM (pd_fz (pm_var 1)) (pa_consM pd_int (pa_consM (pd_glob (i := 3) rfl T.c_MOST_SIZE.choose_spec ⟨_, rfl⟩) pa_nilM)))))
    (ps_consM (ps_ifM (pb_not (pb_val (pd_call (ok_is_let_order T) hgd (hr.mono (by decide)) rfl T.g_is_let_order T.F_is_let_order.kp (bi_is_let_order T) (pa_consM (pd_mkKind T.mkK (ok_Kind___init__ T) (hr.mono (by decide)) rfl T.g_Kind (bi_Kind___init__ T) (pa_consM pd_str (pa_consM (pd_fz (pm_var 1)) pa_nilM))) (pa_consM (pd_fz (pm_var 0)) pa_nilM))))) (ps_oneM ps_neverM) ps_nilM)
    (ps_consM (ps_setM 2 (pm_catL rfl (pm_lc (own := [("item", 3)]) rfl sc_unfolded.nd (pi_revLM rfl rfl T.b_reversed (pd_fz (pm_var 0))) (blkOk_by (own := [("item", 3)]) (N := N_unfolded) (sc := defScope s_unfolded) (by decide +kernel)) (fun _ _ _ _ _ => (pg_nameM 3 sc_unfolded.nd)) (fun _ _ _ _ _ => pts_nilM) (fun _ _ _ _ _ => (pd_neg (pm_var 3)))) (pm_list1 rfl rfl T.b_list (pm_var 0))) sc_unfolded.nd)
    (ps_oneM (ps_retM (pm_lc (own := [("item", 3)]) rfl sc_unfolded.nd (pi_listM rfl (pd_fz (pm_var 2))) (blkOk_by (own := [("item", 3)]) (N := N_unfolded) (sc := defScope s_unfolded) (by decide +kernel)) (fun _ _ _ _ _ => (pg_nameM 3 sc_unfolded.nd)) (fun _ _ _ _ _ => pts_nilM) (fun _ _ _ _ _ => (pd_sub (pd_add (pd_fz (pm_var 3)) (pd_fz (pm_var 1))) (pd_int1 rfl T.b_int (pm_up (pd_gt (pd_fz (pm_var 3)) pd_int)))))))))))
/-! ### folded -/
abbrev N_folded : List Str := ["order", "size", "at", "rank"]
theorem sc_folded : FnScope N_folded ["order", "size"] (defScope s_folded) := ⟨rfl, rfl, rfl, by decide +kernel, rfl, by decide +kernel, by decide +kernel⟩
def b_folded : MS := (mSeq (mDrop (mC (nA m_check_number 3) (aCons (fz (vr 1)) (aCons (cst (.int 1)) (aCons (cst (.int 3)) aNil)))))
    (mSeq (mIf (mNot (asB (mC (nA m_is_let_order 2) (aCons (mC oKind (aCons (cst (.str "plain")) (aCons (m2 oMul (cst (.int 2)) (fz (vr 1))) aNil))) (aCons (fz (vr 0)) aNil))))) mNever mNil)
    (mSeq (mIf (asB (m2 oNe (fz (mCmp (iRg1 (aCons (fz (vr 1)) aNil)) (gNm 2) (asB (m2 oNe (m2 oAdd (mIx oIx (vr 0) (fz (vr 2))) (mIx oIx (vr 0) (m2 oSub (m2 oSub (m2 oMul (cst (.int 2)) (fz (vr 1))) (cst (.int 1))) (fz (vr 2))))) (m2 oSub (m2 oMul (cst (.int 2)) (fz (vr 1))) (cst (.int 1))))) (fz (vr 2)) [2])) (fz (mLst aNil)))) (mRet (upE (cst .non))) mNil)
    (mRet (mCmp (iLst (fz (mSl (vr 0) (oYes (fz (vr 1))) oNo))) (gNm 3) yes (m2 oAdd (m2 oSub (fz (vr 3)) (fz (vr 1))) (m1 oInt (upE (m2 oGe (fz (vr 3)) (fz (vr 1)))))) [3])))))
theorem mx_folded : ∃ m : List D → Option D, m = fnQ 2 b_folded := ⟨_, rfl⟩
def m_folded : List D → Option D := mx_folded.choose
theorem m_folded_eq : m_folded = fnQ 2 b_folded := mx_folded.choose_spec
theorem bi_folded (T : Tx w K mg) : L2.Binds K T.fd_folded ["order", "size"] [] := T.F_folded.binds fun _ _ _ _ _ _ us hl => match us, hl with | [_, _], _ => rfl
theorem kr_folded (T : Tx w K mg) : KRev K T.fd_folded ["order", "size"] ["size", "order"] := krev_of T.F_folded fun _ _ _ _ _ _ us hl => match us, hl with | [_, _], _ => rfl
theorem ok_folded (T : Tx w K mg) : FnA P w K mg base 6 T.f_folded T.fd_folded ["order", "size"] (spQ ⟨P, w, K, T.C⟩ 2 m_folded) := by
  rw [m_folded_eq]
  refine okQ T.F_folded sc_folded rfl (fun cdv A outer s H E G0 io hgd hr => ?_)
  exact (ps_consM (ps_exprM (pd_call0 (ok_check_number T) (hr.mono (by decide)) rfl T.g_check_number T.F_check_number.kp (bi_check_number T) (pa_consM (pd_fz (pm_var 1)) (pa_consM pd_int (pa_consM (pd_glob (i := 3) rfl T.c_MOST_SIZE.choose_spec ⟨_, rfl⟩) pa_nilM)))))
    (ps_consM (ps_ifM (pb_not (pb_val (pd_call (ok_is_let_order T) hgd (hr.mono (by decide)) rfl T.g_is_let_order T.F_is_let_order.kp (bi_is_let_order T) (pa_consM (pd_mkKind T.mkK (ok_Kind___init__ T) (hr.mono (by decide)) rfl T.g_Kind (bi_Kind___init__ T) (pa_consM pd_str (pa_consM (pd_mul pd_int (pd_fz (pm_var 1))) pa_nilM))) (pa_consM (pd_fz (pm_var 0)) pa_nilM))))) (ps_oneM ps_neverM) ps_nilM)
    (ps_consM (ps_ifM (pb_ne rfl hr.units (pd_fz (pm_lc (own := [("at", 2)]) rfl sc_folded.nd (pi_rg1M rfl T.b_range (pa_consM (pd_fz (pm_var 1)) pa_nilM)) (blkOk_by (own := [("at", 2)]) (N := N_folded) (sc := defScope s_folded) (by decide +kernel)) (fun _ _ _ _ _ => (pg_nameM 2 sc_folded.nd)) (fun _ _ _ _ _ => (pts_oneM (pb_ne rfl hr.units (pd_add (pd_ix rfl (pm_var 0) (pd_fz (pm_var 2)) (fun _ _ => rfl)) (pd_ix rfl (pm_var 0) (pd_sub (pd_sub (pd_mul pd_int (pd_fz (pm_var 1))) pd_int) (pd_fz (pm_var 2))) (fun _ _ => rfl))) (pd_sub (pd_mul pd_int (pd_fz (pm_var 1))) pd_int)))) (fun _ _ _ _ _ => (pd_fz (pm_var 2))))) (pd_fz (pm_lst pa_nilM))) (ps_oneM (ps_retM (pm_up pd_non))) ps_nilM)
    (ps_oneM (ps_retM (pm_lc (own := [("rank", 3)]) rfl sc_folded.nd (pi_listM rfl (pd_fz (pm_slice rfl (pm_var 0) (po_yesM (pd_fz (pm_var 1))) po_noM))) (blkOk_by (own := [("rank", 3)]) (N := N_folded) (sc := defScope s_folded) (by decide +kernel)) (fun _ _ _ _ _ => (pg_nameM 3 sc_folded.nd)) (fun _ _ _ _ _ => pts_nilM) (fun _ _ _ _ _ => (pd_add (pd_sub (pd_fz (pm_var 3)) (pd_fz (pm_var 1))) (pd_int1 rfl T.b_int (pm_up (pd_ge (pd_fz (pm_var 3)) (pd_fz (pm_var 1)))))))))))))
/-! ### least_row_of -/
abbrev N_least_row_of : List Str := ["kind", "order", "found", "left", "steps"]
theorem sc_least_row_of : FnScope N_least_row_of ["kind", "order"] (defScope s_least_row_of) := ⟨rfl, rfl, rfl, by decide +kernel, rfl, by decide +kernel, by decide +kernel⟩
def b_least_row_of : MS := (mSeq (mPar 2 3 (mLst aNil) (upE (fz (n1 oList (vr 1)))))
    (mSeq (mSet 4 (upE (mC (nA m_falls_of 2) (aCons (fz (vr 0)) (aCons (fz (vr 3)) aNil)))))
    (mSeq (mWhl (asB (m2 oNe (fz (vr 4)) (fz (mLst aNil)))) (mSeq (mApp (vr 2) (mIx oIx (vr 4) (cst (.int 0))))
    (mSeq (mSet 3 (upE (mC (nA m_by_step 3) (aCons (fz (vr 0)) (aCons (fz (vr 3)) (aCons (mIx oIx (vr 4) (cst (.int 0))) aNil))))))
    (mSet 4 (upE (mC (nA m_falls_of 2) (aCons (fz (vr 0)) (aCons (fz (vr 3)) aNil))))))) 5000)
    (mRet (mRev (vr 2))))))
theorem mx_least_row_of : ∃ m : List D → Option D, m = fnN 3 b_least_row_of := ⟨_, rfl⟩
def m_least_row_of : List D → Option D := mx_least_row_of.choose
theorem m_least_row_of_eq : m_least_row_of = fnN 3 b_least_row_of := mx_least_row_of.choose_spec
theorem bi_least_row_of (T : Tx w K mg) : L2.Binds K T.fd_least_row_of ["kind", "order"] [] := T.F_least_row_of.binds fun _ _ _ _ _ _ us hl => match us, hl with | [_, _], _ => rfl
theorem ok_least_row_of (T : Tx w K mg) : FnA P w K mg base 4 T.f_least_row_of T.fd_least_row_of ["kind", "order"] (spN ⟨P, w, K, T.C⟩ 2 m_least_row_of) := by
  rw [m_least_row_of_eq]
  refine okN T.F_least_row_of sc_least_row_of rfl (fun cdv A outer s H E G0 io hgd hr => ?_)
  exact (ps_consM (ps_parM 2 3 rfl sc_least_row_of.nd (pm_lst pa_nilM) (pm_up (pd_fz (pm_list1 rfl rfl T.b_list (pm_var 1)))))
    (ps_consM (ps_setM 4 (pm_up (pd_call (ok_falls_of T) hgd (hr.mono (by decide)) rfl T.g_falls_of T.F_falls_of.kp (bi_falls_of T) (pa_consM (pd_fz (pm_var 0)) (pa_consM (pd_fz (pm_var 3)) pa_nilM)))) sc_least_row_of.nd)
    (ps_consM (ps_whileM 5000 PassesOwn.never (pb_ne rfl hr.units (pd_fz (pm_var 4)) (pd_fz (pm_lst pa_nilM))) (ps_consM (ps_appM rfl (pm_var 2) (pd_ix rfl (pm_var 4) pd_int (fun _ _ => rfl)))
    (ps_consM (ps_setM 3 (pm_up (pd_call (ok_by_step T) hgd (hr.mono (by decide)) rfl T.g_by_step T.F_by_step.kp (bi_by_step T) (pa_consM (pd_fz (pm_var 0)) (pa_consM (pd_fz (pm_var 3)) (pa_consM (pd_ix rfl (pm_var 4) pd_int (fun _ _ => rfl)) pa_nilM))))) sc_least_row_of.nd)
    (ps_oneM (ps_setM 4 (pm_up (pd_call (ok_falls_of T) hgd (hr.mono (by decide)) rfl T.g_falls_of T.F_falls_of.kp (bi_falls_of T) (pa_consM (pd_fz (pm_var 0)) (pa_consM (pd_fz (pm_var 3)) pa_nilM)))) sc_least_row_of.nd)))))
    (ps_oneM (ps_retM (pm_rev rfl (pm_var 2)))))))
/-! ### check_two_orders -/
abbrev N_check_two_orders : List Str := ["kind", "one", "other"]
theorem sc_check_two_orders : FnScope N_check_two_orders ["kind", "one", "other"] (defScope s_check_two_orders) := ⟨rfl, rfl, rfl, by decide +kernel, rfl, by decide +kernel, by decide +kernel⟩
def b_check_two_orders : MS := (mSeq (mDrop (mC (nA m_check_kind 1) (aCons (fz (vr 0)) aNil)))
    (mSeq (mDrop (mC (nA m_check_order 2) (aCons (fz (vr 0)) (aCons (fz (vr 1)) aNil))))
    (mDrop (mC (nA m_check_order 2) (aCons (fz (vr 0)) (aCons (fz (vr 2)) aNil))))))
theorem mx_check_two_orders : ∃ m : List D → Option D, m = fnP 0 b_check_two_orders := ⟨_, rfl⟩
def m_check_two_orders : List D → Option D := mx_check_two_orders.choose
theorem m_check_two_orders_eq : m_check_two_orders = fnP 0 b_check_two_orders := mx_check_two_orders.choose_spec
theorem bi_check_two_orders (T : Tx w K mg) : L2.Binds K T.fd_check_two_orders ["kind", "one", "other"] [] := T.F_check_two_orders.binds fun _ _ _ _ _ _ us hl => match us, hl with | [_, _, _], _ => rfl
theorem ok_check_two_orders (T : Tx w K mg) : FnA P w K mg base 6 T.f_check_two_orders T.fd_check_two_orders ["kind", "one", "other"] (spP ⟨P, w, K, T.C⟩ 3 m_check_two_orders) := by
  rw [m_check_two_orders_eq]
  refine okP T.F_check_two_orders sc_check_two_orders rfl (fun cdv A outer s H E G0 io hgd hr => ?_)
  exact (ps_consM (ps_exprM (pd_call (ok_check_kind T) hgd (hr.mono (by decide)) rfl T.g_check_kind T.F_check_kind.kp (bi_check_kind T) (pa_consM (pd_fz (pm_var 0)) pa_nilM)))
    (ps_consM (ps_exprM (pd_call (ok_check_order T) hgd (hr.mono (by decide)) rfl T.g_check_order T.F_check_order.kp (bi_check_order T) (pa_consM (pd_fz (pm_var 0)) (pa_consM (pd_fz (pm_var 1)) pa_nilM))))
    (ps_oneM (ps_exprM (pd_call (ok_check_order T) hgd (hr.mono (by decide)) rfl T.g_check_order T.F_check_order.kp (bi_check_order T) (pa_consM (pd_fz (pm_var 0)) (pa_consM (pd_fz (pm_var 2)) pa_nilM)))))))
/-! ### lesser -/
abbrev N_lesser : List Str := ["kind", "order", "step"]
theorem sc_lesser : FnScope N_lesser ["kind", "order", "step"] (defScope s_lesser) := ⟨rfl, rfl, rfl, by decide +kernel, rfl, by decide +kernel, by decide +kernel⟩
def b_lesser : MS := (mRet (mIf (asB (mC (nA m_is_crossed 3) (aCons (fz (vr 0)) (aCons (fz (vr 1)) (aCons (fz (vr 2)) aNil))))) (upE (mC (nA m_by_step 3) (aCons (fz (vr 0)) (aCons (fz (vr 1)) (aCons (fz (vr 2)) aNil))))) (vr 1)))
theorem mx_lesser : ∃ m : List D → Option D, m = fnP 0 b_lesser := ⟨_, rfl⟩
def m_lesser : List D → Option D := mx_lesser.choose
theorem m_lesser_eq : m_lesser = fnP 0 b_lesser := mx_lesser.choose_spec
theorem bi_lesser (T : Tx w K mg) : L2.Binds K T.fd_lesser ["kind", "order", "step"] [] := T.F_lesser.binds fun _ _ _ _ _ _ us hl => match us, hl with | [_, _, _], _ => rfl
theorem ok_lesser (T : Tx w K mg) : FnA P w K mg base 3 T.f_lesser T.fd_lesser ["kind", "order", "step"] (spP ⟨P, w, K, T.C⟩ 3 m_lesser) := by
  rw [m_lesser_eq]
  refine okP T.F_lesser sc_lesser rfl (fun cdv A outer s H E G0 io hgd hr => ?_)
  exact (ps_oneM (ps_retM (pm_if (pb_val (pd_call (ok_is_crossed T) hgd (hr.mono (by decide)) rfl T.g_is_crossed T.F_is_crossed.kp (bi_is_crossed T) (pa_consM (pd_fz (pm_var 0)) (pa_consM (pd_fz (pm_var 1)) (pa_consM (pd_fz (pm_var 2)) pa_nilM))))) (pm_up (pd_call (ok_by_step T) hgd (hr.mono (by decide)) rfl T.g_by_step T.F_by_step.kp (bi_by_step T) (pa_consM (pd_fz (pm_var 0)) (pa_consM (pd_fz (pm_var 1)) (pa_consM (pd_fz (pm_var 2)) pa_nilM))))) (pm_var 1))))
/-! ### check_orders -/
abbrev N_check_orders : List Str := ["kind", "orders", "order"]
theorem sc_check_orders : FnScope N_check_orders ["kind", "orders"] (defScope s_check_orders) := ⟨rfl, rfl, rfl, by decide +kernel, rfl, by decide +kernel, by decide +kernel⟩
def b_check_orders : MS := (mSeq (mDrop (mC (nA m_check_kind 1) (aCons (fz (vr 0)) aNil)))
    (mFor (iLst (fz (vr 1))) (gNm 2) (mDrop (mC (nA m_check_order 2) (aCons (fz (vr 0)) (aCons (fz (vr 2)) aNil))))))
theorem mx_check_orders : ∃ m : List D → Option D, m = fnP 1 b_check_orders := ⟨_, rfl⟩
def m_check_orders : List D → Option D := mx_check_orders.choose
theorem m_check_orders_eq : m_check_orders = fnP 1 b_check_orders := mx_check_orders.choose_spec
theorem bi_check_orders (T : Tx w K mg) : L2.Binds K T.fd_check_orders ["kind", "orders"] [] := T.F_check_orders.binds fun _ _ _ _ _ _ us hl => match us, hl with | [_, _], _ => rfl
theorem ok_check_orders (T : Tx w K mg) : FnA P w K mg base 6 T.f_check_orders T.fd_check_orders ["kind", "orders"] (spP ⟨P, w, K, T.C⟩ 2 m_check_orders) := by
  rw [m_check_orders_eq]
  refine okP T.F_check_orders sc_check_orders rfl (fun cdv A outer s H E G0 io hgd hr => ?_)
  exact (ps_consM (ps_exprM (pd_call (ok_check_kind T) hgd (hr.mono (by decide)) rfl T.g_check_kind T.F_check_kind.kp (bi_check_kind T) (pa_consM (pd_fz (pm_var 0)) pa_nilM)))
    (ps_oneM (ps_forM PassesOwn.never rfl (pi_listM rfl (pd_fz (pm_var 1))) (pg_nameM 2 sc_check_orders.nd) (ps_oneM (ps_exprM (pd_call (ok_check_order T) hgd (hr.mono (by decide)) rfl T.g_check_order T.F_check_order.kp (bi_check_order T) (pa_consM (pd_fz (pm_var 0)) (pa_consM (pd_fz (pm_var 2)) pa_nilM))))))))
/-! ### falls -/
abbrev N_falls : List Str := ["kind", "order"]
theorem sc_falls : FnScope N_falls ["kind", "order"] (defScope s_falls) := ⟨rfl, rfl, rfl, by decide +kernel, rfl, by decide +kernel, by decide +kernel⟩
def b_falls : MS := (mSeq (mDrop (mC (nA m_check_orders 2) (aCons (fz (vr 0)) (aCons (fz (mLst (aCons (fz (vr 1)) aNil))) aNil))))
    (mRet (upE (mC (nA m_falls_of 2) (aCons (fz (vr 0)) (aCons (fz (vr 1)) aNil))))))
theorem mx_falls : ∃ m : List D → Option D, m = fnP 0 b_falls := ⟨_, rfl⟩
def m_falls : List D → Option D := mx_falls.choose
theorem m_falls_eq : m_falls = fnP 0 b_falls := mx_falls.choose_spec
theorem bi_falls (T : Tx w K mg) : L2.Binds K T.fd_falls ["kind", "order"] [] := T.F_falls.binds fun _ _ _ _ _ _ us hl => match us, hl with | [_, _], _ => rfl
theorem ok_falls (T : Tx w K mg) : FnA P w K mg base 7 T.f_falls T.fd_falls ["kind", "order"] (spP ⟨P, w, K, T.C⟩ 2 m_falls) := by
  rw [m_falls_eq]
  refine okP T.F_falls sc_falls rfl (fun cdv A outer s H E G0 io hgd hr => ?_)
  exact (ps_consM (ps_exprM (pd_call (ok_check_orders T) hgd (hr.mono (by decide)) rfl T.g_check_orders T.F_check_orders.kp (bi_check_orders T) (pa_consM (pd_fz (pm_var 0)) (pa_consM (pd_fz (pm_lst (pa_consM (pd_fz (pm_var 1)) pa_nilM))) pa_nilM))))
    (ps_oneM (ps_retM (pm_up (pd_call (ok_falls_of T) hgd (hr.mono (by decide)) rfl T.g_falls_of T.F_falls_of.kp (bi_falls_of T) (pa_consM (pd_fz (pm_var 0)) (pa_consM (pd_fz (pm_var 1)) pa_nilM)))))))
/-! ### is_below -/
abbrev N_is_below : List Str := ["kind", "one", "other", "low", "high", "falls"]
theorem sc_is_below : FnScope N_is_below ["kind", "one", "other"] (defScope s_is_below) := ⟨rfl, rfl, rfl, by decide +kernel, rfl, by decide +kernel, by decide +kernel⟩
def b_is_below : MS := (mSeq (mPar 3 4 (vr 1) (vr 2))
    (mSeq (mSet 5 (upE (mC (nA m_falls_of 2) (aCons (fz (vr 0)) (aCons (fz (vr 4)) aNil)))))
    (mSeq (mWhl (asB (m2 oNe (fz (vr 5)) (fz (mLst aNil)))) (mSeq (mPar 3 4 (upE (mC (nA m_lesser 3) (aCons (fz (vr 0)) (aCons (fz (vr 3)) (aCons (mIx oIx (vr 5) (cst (.int 0))) aNil))))) (upE (mC (nA m_by_step 3) (aCons (fz (vr 0)) (aCons (fz (vr 4)) (aCons (mIx oIx (vr 5) (cst (.int 0))) aNil))))))
    (mSet 5 (upE (mC (nA m_falls_of 2) (aCons (fz (vr 0)) (aCons (fz (vr 4)) aNil)))))) 5000)
    (mRet (upE (m2 oEq (fz (vr 3)) (mMeth m_Kind_start (fz (vr 0)))))))))
theorem mx_is_below : ∃ m : List D → Option D, m = fnP 3 b_is_below := ⟨_, rfl⟩
def m_is_below : List D → Option D := mx_is_below.choose
theorem m_is_below_eq : m_is_below = fnP 3 b_is_below := mx_is_below.choose_spec
theorem bi_is_below (T : Tx w K mg) : L2.Binds K T.fd_is_below ["kind", "one", "other"] [] := T.F_is_below.binds fun _ _ _ _ _ _ us hl => match us, hl with | [_, _, _], _ => rfl
theorem ok_is_below (T : Tx w K mg) : FnA P w K mg base 4 T.f_is_below T.fd_is_below ["kind", "one", "other"] (spP ⟨P, w, K, T.C⟩ 3 m_is_below) := by
  rw [m_is_below_eq]
  refine okP T.F_is_below sc_is_below rfl (fun cdv A outer s H E G0 io hgd hr => ?_)
  exact (ps_consM (ps_parM 3 4 rfl sc_is_below.nd (pm_var 1) (pm_var 2))
    (ps_consM (ps_setM 5 (pm_up (pd_call (ok_falls_of T) hgd (hr.mono (by decide)) rfl T.g_falls_of T.F_falls_of.kp (bi_falls_of T) (pa_consM (pd_fz (pm_var 0)) (pa_consM (pd_fz (pm_var 4)) pa_nilM)))) sc_is_below.nd)
    (ps_consM (ps_whileM 5000 PassesOwn.never (pb_ne rfl hr.units (pd_fz (pm_var 5)) (pd_fz (pm_lst pa_nilM))) (ps_consM (ps_parM 3 4 rfl sc_is_below.nd (pm_up (pd_call (ok_lesser T) hgd (hr.mono (by decide)) rfl T.g_lesser T.F_lesser.kp (bi_lesser T) (pa_consM (pd_fz (pm_var 0)) (pa_consM (pd_fz (pm_var 3)) (pa_consM (pd_ix rfl (pm_var 5) pd_int (fun _ _ => rfl)) pa_nilM))))) (pm_up (pd_call (ok_by_step T) hgd (hr.mono (by decide)) rfl T.g_by_step T.F_by_step.kp (bi_by_step T) (pa_consM (pd_fz (pm_var 0)) (pa_consM (pd_fz (pm_var 4)) (pa_consM (pd_ix rfl (pm_var 5) pd_int (fun _ _ => rfl)) pa_nilM))))))
    (ps_oneM (ps_setM 5 (pm_up (pd_call (ok_falls_of T) hgd (hr.mono (by decide)) rfl T.g_falls_of T.F_falls_of.kp (bi_falls_of T) (pa_consM (pd_fz (pm_var 0)) (pa_consM (pd_fz (pm_var 4)) pa_nilM)))) sc_is_below.nd))))
    (ps_oneM (ps_retM (pm_up (pd_eq rfl hr.units (pd_fz (pm_var 3)) (pd_meth0 (pd_fz (pm_var 0)) rfl T.cl T.k_start (ok_Kind_start T) (hr.mono (by decide)) (bi_Kind_start T) pass0 kno_start rfl))))))))
/-! ### is_beneath -/
abbrev N_is_beneath : List Str := ["kind", "one", "other"]
theorem sc_is_beneath : FnScope N_is_beneath ["kind", "one", "other"] (defScope s_is_beneath) := ⟨rfl, rfl, rfl, by decide +kernel, rfl, by decide +kernel, by decide +kernel⟩
def b_is_beneath : MS := (mSeq (mDrop (mC (nA m_check_two_orders 3) (aCons (fz (vr 0)) (aCons (fz (vr 1)) (aCons (fz (vr 2)) aNil)))))
    (mRet (upE (mC (nA m_is_below 3) (aCons (fz (vr 0)) (aCons (fz (vr 1)) (aCons (fz (vr 2)) aNil)))))))
theorem mx_is_beneath : ∃ m : List D → Option D, m = fnP 0 b_is_beneath := ⟨_, rfl⟩
def m_is_beneath : List D → Option D := mx_is_beneath.choose
theorem m_is_beneath_eq : m_is_beneath = fnP 0 b_is_beneath := mx_is_beneath.choose_spec
theorem bi_is_beneath (T : Tx w K mg) : L2.Binds K T.fd_is_beneath ["kind", "one", "other"] [] := T.F_is_beneath.binds fun _ _ _ _ _ _ us hl => match us, hl with | [_, _, _], _ => rfl
theorem ok_is_beneath (T : Tx w K mg) : FnA P w K mg base 7 T.f_is_beneath T.fd_is_beneath ["kind", "one", "other"] (spP ⟨P, w, K, T.C⟩ 3 m_is_beneath) := by
  rw [m_is_beneath_eq]
  refine okP T.F_is_beneath sc_is_beneath rfl (fun cdv A outer s H E G0 io hgd hr => ?_)
  exact (ps_consM (ps_exprM (pd_call (ok_check_two_orders T) hgd (hr.mono (by decide)) rfl T.g_check_two_orders T.F_check_two_orders.kp (bi_check_two_orders T) (pa_consM (pd_fz (pm_var 0)) (pa_consM (pd_fz (pm_var 1)) (pa_consM (pd_fz (pm_var 2)) pa_nilM)))))
    (ps_oneM (ps_retM (pm_up (pd_call (ok_is_below T) hgd (hr.mono (by decide)) rfl T.g_is_below T.F_is_below.kp (bi_is_below T) (pa_consM (pd_fz (pm_var 0)) (pa_consM (pd_fz (pm_var 1)) (pa_consM (pd_fz (pm_var 2)) pa_nilM))))))))
/-! ### check_one -/
abbrev N_check_one : List Str := ["kind", "order"]
theorem sc_check_one : FnScope N_check_one ["kind", "order"] (defScope s_check_one) := ⟨rfl, rfl, rfl, by decide +kernel, rfl, by decide +kernel, by decide +kernel⟩
def b_check_one : MS := (mSeq (mDrop (mC (nA m_check_kind 1) (aCons (fz (vr 0)) aNil)))
    (mDrop (mC (nA m_check_order 2) (aCons (fz (vr 0)) (aCons (fz (vr 1)) aNil)))))
theorem mx_check_one : ∃ m : List D → Option D, m = fnP 0 b_check_one := ⟨_, rfl⟩
def m_check_one : List D → Option D := mx_check_one.choose
theorem m_check_one_eq : m_check_one = fnP 0 b_check_one := mx_check_one.choose_spec
theorem bi_check_one (T : Tx w K mg) : L2.Binds K T.fd_check_one ["kind", "order"] [] := T.F_check_one.binds fun _ _ _ _ _ _ us hl => match us, hl with | [_, _], _ => rfl
theorem ok_check_one (T : Tx w K mg) : FnA P w K mg base 6 T.f_check_one T.fd_check_one ["kind", "order"] (spP ⟨P, w, K, T.C⟩ 2 m_check_one) := by
  rw [m_check_one_eq]
  refine okP T.F_check_one sc_check_one rfl (fun cdv A outer s H E G0 io hgd hr => ?_)
  exact (ps_consM (ps_exprM (pd_call (ok_check_kind T) hgd (hr.mono (by decide)) rfl T.g_check_kind T.F_check_kind.kp (bi_check_kind T) (pa_consM (pd_fz (pm_var 0)) pa_nilM)))
    (ps_oneM (ps_exprM (pd_call (ok_check_order T) hgd (hr.mono (by decide)) rfl T.g_check_order T.F_check_order.kp (bi_check_order T) (pa_consM (pd_fz (pm_var 0)) (pa_consM (pd_fz (pm_var 1)) pa_nilM))))))
/-! ### check_two -/
abbrev N_check_two : List Str := ["kind", "one", "other"]
theorem sc_check_two : FnScope N_check_two ["kind", "one", "other"] (defScope s_check_two) := ⟨rfl, rfl, rfl, by decide +kernel, rfl, by decide +kernel, by decide +kernel⟩
def b_check_two : MS := (mSeq (mDrop (mC (nA m_check_one 2) (aCons (fz (vr 0)) (aCons (fz (vr 1)) aNil))))
    (mDrop (mC (nA m_check_order 2) (aCons (fz (vr 0)) (aCons (fz (vr 2)) aNil)))))
theorem mx_check_two : ∃ m : List D → Option D, m = fnP 0 b_check_two := ⟨_, rfl⟩
def m_check_two : List D → Option D := mx_check_two.choose
theorem m_check_two_eq : m_check_two = fnP 0 b_check_two := mx_check_two.choose_spec
theorem bi_check_two (T : Tx w K mg) : L2.Binds K T.fd_check_two ["kind", "one", "other"] [] := T.F_check_two.binds fun _ _ _ _ _ _ us hl => match us, hl with | [_, _, _], _ => rfl
theorem ok_check_two (T : Tx w K mg) : FnA P w K mg base 7 T.f_check_two T.fd_check_two ["kind", "one", "other"] (spP ⟨P, w, K, T.C⟩ 3 m_check_two) := by
  rw [m_check_two_eq]
  refine okP T.F_check_two sc_check_two rfl (fun cdv A outer s H E G0 io hgd hr => ?_)
  exact (ps_consM (ps_exprM (pd_call (ok_check_one T) hgd (hr.mono (by decide)) rfl T.g_check_one T.F_check_one.kp (bi_check_one T) (pa_consM (pd_fz (pm_var 0)) (pa_consM (pd_fz (pm_var 1)) pa_nilM))))
    (ps_oneM (ps_exprM (pd_call (ok_check_order T) hgd (hr.mono (by decide)) rfl T.g_check_order T.F_check_order.kp (bi_check_order T) (pa_consM (pd_fz (pm_var 0)) (pa_consM (pd_fz (pm_var 2)) pa_nilM))))))
/-! ### gain -/
abbrev N_gain : List Str := ["kind", "order", "step"]
theorem sc_gain : FnScope N_gain ["kind", "order", "step"] (defScope s_gain) := ⟨rfl, rfl, rfl, by decide +kernel, rfl, by decide +kernel, by decide +kernel⟩
def b_gain : MS := (mRet (mIf (asB (mC (nA m_is_crossed 3) (aCons (fz (vr 0)) (aCons (fz (vr 1)) (aCons (fz (vr 2)) aNil))))) (n1 oList (vr 1)) (upE (mC (nA m_by_step 3) (aCons (fz (vr 0)) (aCons (fz (vr 1)) (aCons (fz (vr 2)) aNil)))))))
theorem mx_gain : ∃ m : List D → Option D, m = fnP 0 b_gain := ⟨_, rfl⟩
def m_gain : List D → Option D := mx_gain.choose
theorem m_gain_eq : m_gain = fnP 0 b_gain := mx_gain.choose_spec
theorem bi_gain (T : Tx w K mg) : L2.Binds K T.fd_gain ["kind", "order", "step"] [] := T.F_gain.binds fun _ _ _ _ _ _ us hl => match us, hl with | [_, _, _], _ => rfl
theorem ok_gain (T : Tx w K mg) : FnA P w K mg base 3 T.f_gain T.fd_gain ["kind", "order", "step"] (spP ⟨P, w, K, T.C⟩ 3 m_gain) := by
  rw [m_gain_eq]
  refine okP T.F_gain sc_gain rfl (fun cdv A outer s H E G0 io hgd hr => ?_)
  exact (ps_oneM (ps_retM (pm_if (pb_val (pd_call (ok_is_crossed T) hgd (hr.mono (by decide)) rfl T.g_is_crossed T.F_is_crossed.kp (bi_is_crossed T) (pa_consM (pd_fz (pm_var 0)) (pa_consM (pd_fz (pm_var 1)) (pa_consM (pd_fz (pm_var 2)) pa_nilM))))) (pm_list1 rfl rfl T.b_list (pm_var 1)) (pm_up (pd_call (ok_by_step T) hgd (hr.mono (by decide)) rfl T.g_by_step T.F_by_step.kp (bi_by_step T) (pa_consM (pd_fz (pm_var 0)) (pa_consM (pd_fz (pm_var 1)) (pa_consM (pd_fz (pm_var 2)) pa_nilM))))))))
/-! ### gained_all -/
abbrev N_gained_all : List Str := ["kind", "order", "row", "found", "step"]
theorem sc_gained_all : FnScope N_gained_all ["kind", "order", "row"] (defScope s_gained_all) := ⟨rfl, rfl, rfl, by decide +kernel, rfl, by decide +kernel, by decide +kernel⟩
def b_gained_all : MS := (mSeq (mSet 3 (upE (fz (n1 oList (vr 1)))))
    (mSeq (mFor (iLst (fz (vr 2))) (gNm 4) (mSet 3 (upE (mC (nA m_gain 3) (aCons (fz (vr 0)) (aCons (fz (vr 3)) (aCons (fz (vr 4)) aNil)))))))
    (mRet (vr 3))))
theorem mx_gained_all : ∃ m : List D → Option D, m = fnP 2 b_gained_all := ⟨_, rfl⟩
def m_gained_all : List D → Option D := mx_gained_all.choose
theorem m_gained_all_eq : m_gained_all = fnP 2 b_gained_all := mx_gained_all.choose_spec
theorem bi_gained_all (T : Tx w K mg) : L2.Binds K T.fd_gained_all ["kind", "order", "row"] [] := T.F_gained_all.binds fun _ _ _ _ _ _ us hl => match us, hl with | [_, _, _], _ => rfl
theorem ok_gained_all (T : Tx w K mg) : FnA P w K mg base 4 T.f_gained_all T.fd_gained_all ["kind", "order", "row"] (spP ⟨P, w, K, T.C⟩ 3 m_gained_all) := by
  rw [m_gained_all_eq]
  refine okP T.F_gained_all sc_gained_all rfl (fun cdv A outer s H E G0 io hgd hr => ?_)
  exact (ps_consM (ps_setM 3 (pm_up (pd_fz (pm_list1 rfl rfl T.b_list (pm_var 1)))) sc_gained_all.nd)
    (ps_consM (ps_forM PassesOwn.never rfl (pi_listM rfl (pd_fz (pm_var 2))) (pg_nameM 4 sc_gained_all.nd) (ps_oneM (ps_setM 3 (pm_up (pd_call (ok_gain T) hgd (hr.mono (by decide)) rfl T.g_gain T.F_gain.kp (bi_gain T) (pa_consM (pd_fz (pm_var 0)) (pa_consM (pd_fz (pm_var 3)) (pa_consM (pd_fz (pm_var 4)) pa_nilM))))) sc_gained_all.nd)))
    (ps_oneM (ps_retM (pm_var 3)))))
/-! ### greedy_of -/
abbrev N_greedy_of : List Str := ["kind", "one", "other"]
theorem sc_greedy_of : FnScope N_greedy_of ["kind", "one", "other"] (defScope s_greedy_of) := ⟨rfl, rfl, rfl, by decide +kernel, rfl, by decide +kernel, by decide +kernel⟩
def b_greedy_of : MS := (mRet (upE (mC (nA m_gained_all 3) (aCons (fz (vr 0)) (aCons (fz (vr 1)) (aCons (fz (mCn (nA m_least_row_of 2) (aCons (fz (vr 0)) (aCons (fz (vr 2)) aNil)))) aNil))))))
theorem mx_greedy_of : ∃ m : List D → Option D, m = fnP 0 b_greedy_of := ⟨_, rfl⟩
def m_greedy_of : List D → Option D := mx_greedy_of.choose
theorem m_greedy_of_eq : m_greedy_of = fnP 0 b_greedy_of := mx_greedy_of.choose_spec
theorem bi_greedy_of (T : Tx w K mg) : L2.Binds K T.fd_greedy_of ["kind", "one", "other"] [] := T.F_greedy_of.binds fun _ _ _ _ _ _ us hl => match us, hl with | [_, _, _], _ => rfl
theorem ok_greedy_of (T : Tx w K mg) : FnA P w K mg base 5 T.f_greedy_of T.fd_greedy_of ["kind", "one", "other"] (spP ⟨P, w, K, T.C⟩ 3 m_greedy_of) := by
  rw [m_greedy_of_eq]
  refine okP T.F_greedy_of sc_greedy_of rfl (fun cdv A outer s H E G0 io hgd hr => ?_)
  exact (ps_oneM (ps_retM (pm_up (pd_call (ok_gained_all T) hgd (hr.mono (by decide)) rfl T.g_gained_all T.F_gained_all.kp (bi_gained_all T) (pa_consM (pd_fz (pm_var 0)) (pa_consM (pd_fz (pm_var 1)) (pa_consM (pd_fz (pm_callN (ok_least_row_of T) hgd (hr.mono (by decide)) rfl T.g_least_row_of T.F_least_row_of.kp (bi_least_row_of T) (pa_consM (pd_fz (pm_var 0)) (pa_consM (pd_fz (pm_var 2)) pa_nilM)))) pa_nilM)))))))
/-! ### greedy -/
abbrev N_greedy : List Str := ["kind", "one", "other"]
theorem sc_greedy : FnScope N_greedy ["kind", "one", "other"] (defScope s_greedy) := ⟨rfl, rfl, rfl, by decide +kernel, rfl, by decide +kernel, by decide +kernel⟩
def b_greedy : MS := (mSeq (mDrop (mC (nA m_check_two 3) (aCons (fz (vr 0)) (aCons (fz (vr 1)) (aCons (fz (vr 2)) aNil)))))
    (mRet (upE (mC (nA m_greedy_of 3) (aCons (fz (vr 0)) (aCons (fz (vr 1)) (aCons (fz (vr 2)) aNil)))))))
theorem mx_greedy : ∃ m : List D → Option D, m = fnP 0 b_greedy := ⟨_, rfl⟩
def m_greedy : List D → Option D := mx_greedy.choose
theorem m_greedy_eq : m_greedy = fnP 0 b_greedy := mx_greedy.choose_spec
theorem bi_greedy (T : Tx w K mg) : L2.Binds K T.fd_greedy ["kind", "one", "other"] [] := T.F_greedy.binds fun _ _ _ _ _ _ us hl => match us, hl with | [_, _, _], _ => rfl
theorem ok_greedy (T : Tx w K mg) : FnA P w K mg base 8 T.f_greedy T.fd_greedy ["kind", "one", "other"] (spP ⟨P, w, K, T.C⟩ 3 m_greedy) := by
  rw [m_greedy_eq]
  refine okP T.F_greedy sc_greedy rfl (fun cdv A outer s H E G0 io hgd hr => ?_)
  exact (ps_consM (ps_exprM (pd_call (ok_check_two T) hgd (hr.mono (by decide)) rfl T.g_check_two T.F_check_two.kp (bi_check_two T) (pa_consM (pd_fz (pm_var 0)) (pa_consM (pd_fz (pm_var 1)) (pa_consM (pd_fz (pm_var 2)) pa_nilM)))))
    (ps_oneM (ps_retM (pm_up (pd_call (ok_greedy_of T) hgd (hr.mono (by decide)) rfl T.g_greedy_of T.F_greedy_of.kp (bi_greedy_of T) (pa_consM (pd_fz (pm_var 0)) (pa_consM (pd_fz (pm_var 1)) (pa_consM (pd_fz (pm_var 2)) pa_nilM))))))))
/-! ### power -/
abbrev N_power : List Str := ["kind", "order", "count", "found", "_", "further"]
theorem sc_power : FnScope N_power ["kind", "order", "count"] (defScope s_power) := ⟨rfl, rfl, rfl, by decide +kernel, rfl, by decide +kernel, by decide +kernel⟩
def b_power : MS := (mSeq (mDrop (mC (nA m_check_one 2) (aCons (fz (vr 0)) (aCons (fz (vr 1)) aNil))))
    (mSeq (mDrop (mC (nA m_check_number 3) (aCons (fz (vr 2)) (aCons (cst (.int 0)) (aCons (cst (.int 1000)) aNil)))))
    (mSeq (mSet 3 (upE (mMeth m_Kind_start (fz (vr 0)))))
    (mSeq (mFor (iRg1 (aCons (fz (vr 2)) aNil)) (gNm 4) (mSeq (mSet 5 (upE (mC (nA m_greedy_of 3) (aCons (fz (vr 0)) (aCons (fz (vr 3)) (aCons (fz (vr 1)) aNil))))))
    (mSeq (mIf (asB (m2 oEq (fz (vr 5)) (fz (vr 3)))) (mRet (vr 3)) mNil)
    (mSet 3 (vr 5)))))
    (mRet (vr 3))))))
theorem mx_power : ∃ m : List D → Option D, m = fnP 3 b_power := ⟨_, rfl⟩
def m_power : List D → Option D := mx_power.choose
theorem m_power_eq : m_power = fnP 3 b_power := mx_power.choose_spec
theorem bi_power (T : Tx w K mg) : L2.Binds K T.fd_power ["kind", "order", "count"] [] := T.F_power.binds fun _ _ _ _ _ _ us hl => match us, hl with | [_, _, _], _ => rfl
theorem ok_power (T : Tx w K mg) : FnA P w K mg base 7 T.f_power T.fd_power ["kind", "order", "count"] (spP ⟨P, w, K, T.C⟩ 3 m_power) := by
  rw [m_power_eq]
  refine okP T.F_power sc_power rfl (fun cdv A outer s H E G0 io hgd hr => ?_)
  exact (ps_consM (ps_exprM (pd_call (ok_check_one T) hgd (hr.mono (by decide)) rfl T.g_check_one T.F_check_one.kp (bi_check_one T) (pa_consM (pd_fz (pm_var 0)) (pa_consM (pd_fz (pm_var 1)) pa_nilM))))
    (ps_consM (ps_exprM (pd_call0 (ok_check_number T) (hr.mono (by decide)) rfl T.g_check_number T.F_check_number.kp (bi_check_number T) (pa_consM (pd_fz (pm_var 2)) (pa_consM pd_int (pa_consM (pd_glob (i := 1000) rfl T.c_MOST_COUNT.choose_spec ⟨_, rfl⟩) pa_nilM)))))
    (ps_consM (ps_setM 3 (pm_up (pd_meth0 (pd_fz (pm_var 0)) rfl T.cl T.k_start (ok_Kind_start T) (hr.mono (by decide)) (bi_Kind_start T) pass0 kno_start rfl)) sc_power.nd)
    (ps_consM (ps_forM PassesOwn.never rfl (pi_rg1M rfl T.b_range (pa_consM (pd_fz (pm_var 2)) pa_nilM)) (pg_nameM 4 sc_power.nd) (ps_consM (ps_setM 5 (pm_up (pd_call (ok_greedy_of T) hgd (hr.mono (by decide)) rfl T.g_greedy_of T.F_greedy_of.kp (bi_greedy_of T) (pa_consM (pd_fz (pm_var 0)) (pa_consM (pd_fz (pm_var 3)) (pa_consM (pd_fz (pm_var 1)) pa_nilM))))) sc_power.nd)
    (ps_consM (ps_ifM (pb_eq rfl hr.units (pd_fz (pm_var 5)) (pd_fz (pm_var 3))) (ps_oneM (ps_retM (pm_var 3))) ps_nilM)
    (ps_oneM (ps_setM 3 (pm_var 5) sc_power.nd)))))
    (ps_oneM (ps_retM (pm_var 3)))))))
/-! ### crossings -/
abbrev N_crossings : List Str := ["kind", "order"]
theorem sc_crossings : FnScope N_crossings ["kind", "order"] (defScope s_crossings) := ⟨rfl, rfl, rfl, by decide +kernel, rfl, by decide +kernel, by decide +kernel⟩
def b_crossings : MS := (mSeq (mDrop (mC (nA m_check_orders 2) (aCons (fz (vr 0)) (aCons (fz (mLst (aCons (fz (vr 1)) aNil))) aNil))))
    (mRet (upE (mC (nA m_crossings_of 2) (aCons (fz (vr 0)) (aCons (fz (vr 1)) aNil))))))
theorem mx_crossings : ∃ m : List D → Option D, m = fnP 0 b_crossings := ⟨_, rfl⟩
def m_crossings : List D → Option D := mx_crossings.choose
theorem m_crossings_eq : m_crossings = fnP 0 b_crossings := mx_crossings.choose_spec
theorem bi_crossings (T : Tx w K mg) : L2.Binds K T.fd_crossings ["kind", "order"] [] := T.F_crossings.binds fun _ _ _ _ _ _ us hl => match us, hl with | [_, _], _ => rfl
theorem ok_crossings (T : Tx w K mg) : FnA P w K mg base 7 T.f_crossings T.fd_crossings ["kind", "order"] (spP ⟨P, w, K, T.C⟩ 2 m_crossings) := by
  rw [m_crossings_eq]
  refine okP T.F_crossings sc_crossings rfl (fun cdv A outer s H E G0 io hgd hr => ?_)
  exact (ps_consM (ps_exprM (pd_call (ok_check_orders T) hgd (hr.mono (by decide)) rfl T.g_check_orders T.F_check_orders.kp (bi_check_orders T) (pa_consM (pd_fz (pm_var 0)) (pa_consM (pd_fz (pm_lst (pa_consM (pd_fz (pm_var 1)) pa_nilM))) pa_nilM))))
    (ps_oneM (ps_retM (pm_up (pd_call (ok_crossings_of T) hgd (hr.mono (by decide)) rfl T.g_crossings_of T.F_crossings_of.kp (bi_crossings_of T) (pa_consM (pd_fz (pm_var 0)) (pa_consM (pd_fz (pm_var 1)) pa_nilM)))))))
/-! ### opposite -/
abbrev N_opposite : List Str := ["kind", "order"]
theorem sc_opposite : FnScope N_opposite ["kind", "order"] (defScope s_opposite) := ⟨rfl, rfl, rfl, by decide +kernel, rfl, by decide +kernel, by decide +kernel⟩
def b_opposite : MS := (mSeq (mDrop (mC (nA m_check_orders 2) (aCons (fz (vr 0)) (aCons (fz (mLst (aCons (fz (vr 1)) aNil))) aNil))))
    (mRet (upE (mC (nA m_opposite_of 2) (aCons (fz (vr 0)) (aCons (fz (vr 1)) aNil))))))
theorem mx_opposite : ∃ m : List D → Option D, m = fnP 0 b_opposite := ⟨_, rfl⟩
def m_opposite : List D → Option D := mx_opposite.choose
theorem m_opposite_eq : m_opposite = fnP 0 b_opposite := mx_opposite.choose_spec
theorem bi_opposite (T : Tx w K mg) : L2.Binds K T.fd_opposite ["kind", "order"] [] := T.F_opposite.binds fun _ _ _ _ _ _ us hl => match us, hl with | [_, _], _ => rfl
theorem ok_opposite (T : Tx w K mg) : FnA P w K mg base 7 T.f_opposite T.fd_opposite ["kind", "order"] (spP ⟨P, w, K, T.C⟩ 2 m_opposite) := by
  rw [m_opposite_eq]
  refine okP T.F_opposite sc_opposite rfl (fun cdv A outer s H E G0 io hgd hr => ?_)
  exact (ps_consM (ps_exprM (pd_call (ok_check_orders T) hgd (hr.mono (by decide)) rfl T.g_check_orders T.F_check_orders.kp (bi_check_orders T) (pa_consM (pd_fz (pm_var 0)) (pa_consM (pd_fz (pm_lst (pa_consM (pd_fz (pm_var 1)) pa_nilM))) pa_nilM))))
    (ps_oneM (ps_retM (pm_up (pd_call (ok_opposite_of T) hgd (hr.mono (by decide)) rfl T.g_opposite_of T.F_opposite_of.kp (bi_opposite_of T) (pa_consM (pd_fz (pm_var 0)) (pa_consM (pd_fz (pm_var 1)) pa_nilM)))))))
/-! ### product -/
abbrev N_product : List Str := ["kind", "one", "other"]
theorem sc_product : FnScope N_product ["kind", "one", "other"] (defScope s_product) := ⟨rfl, rfl, rfl, by decide +kernel, rfl, by decide +kernel, by decide +kernel⟩
def b_product : MS := (mSeq (mDrop (mC (nA m_check_orders 2) (aCons (fz (vr 0)) (aCons (fz (mLst (aCons (fz (vr 1)) (aCons (fz (vr 2)) aNil)))) aNil))))
    (mRet (upE (mC (nA m_product_of 3) (aCons (fz (vr 0)) (aCons (fz (vr 1)) (aCons (fz (vr 2)) aNil)))))))
theorem mx_product : ∃ m : List D → Option D, m = fnP 0 b_product := ⟨_, rfl⟩
def m_product : List D → Option D := mx_product.choose
theorem m_product_eq : m_product = fnP 0 b_product := mx_product.choose_spec
theorem bi_product (T : Tx w K mg) : L2.Binds K T.fd_product ["kind", "one", "other"] [] := T.F_product.binds fun _ _ _ _ _ _ us hl => match us, hl with | [_, _, _], _ => rfl
theorem ok_product (T : Tx w K mg) : FnA P w K mg base 7 T.f_product T.fd_product ["kind", "one", "other"] (spP ⟨P, w, K, T.C⟩ 3 m_product) := by
  rw [m_product_eq]
  refine okP T.F_product sc_product rfl (fun cdv A outer s H E G0 io hgd hr => ?_)
  exact (ps_consM (ps_exprM (pd_call (ok_check_orders T) hgd (hr.mono (by decide)) rfl T.g_check_orders T.F_check_orders.kp (bi_check_orders T) (pa_consM (pd_fz (pm_var 0)) (pa_consM (pd_fz (pm_lst (pa_consM (pd_fz (pm_var 1)) (pa_consM (pd_fz (pm_var 2)) pa_nilM)))) pa_nilM))))
    (ps_oneM (ps_retM (pm_up (pd_call (ok_product_of T) hgd (hr.mono (by decide)) rfl T.g_product_of T.F_product_of.kp (bi_product_of T) (pa_consM (pd_fz (pm_var 0)) (pa_consM (pd_fz (pm_var 1)) (pa_consM (pd_fz (pm_var 2)) pa_nilM))))))))
/-! ### multiplied -/
abbrev N_multiplied : List Str := ["one", "other", "most", "found", "at", "low", "place", "high"]
theorem sc_multiplied : FnScope N_multiplied ["one", "other", "most"] (defScope s_multiplied) := ⟨rfl, rfl, rfl, by decide +kernel, rfl, by decide +kernel, by decide +kernel⟩
def b_multiplied : MS := (mSeq (mSet 3 (mRep (mLst (aCons (cst (.int 0)) aNil)) (m2 oAdd (fz (vr 2)) (cst (.int 1)))))
    (mSeq (mFor (iEn (fz (vr 0))) (gPr (gNm 4) (gNm 5)) (mFor (iEn (fz (vr 1))) (gPr (gNm 6) (gNm 7)) (mIf (asB (m2 oLe (m2 oAdd (fz (vr 4)) (fz (vr 6))) (fz (vr 2)))) (mAsg (m2 oAdd (mIx oIx (vr 3) (m2 oAdd (fz (vr 4)) (fz (vr 6)))) (m2 oMul (fz (vr 5)) (fz (vr 7)))) (gSubL (vr 3) (m2 oAdd (fz (vr 4)) (fz (vr 6))))) mNil)))
    (mRet (vr 3))))
theorem mx_multiplied : ∃ m : List D → Option D, m = fnP 5 b_multiplied := ⟨_, rfl⟩
def m_multiplied : List D → Option D := mx_multiplied.choose
theorem m_multiplied_eq : m_multiplied = fnP 5 b_multiplied := mx_multiplied.choose_spec
theorem bi_multiplied (T : Tx w K mg) : L2.Binds K T.fd_multiplied ["one", "other", "most"] [] := T.F_multiplied.binds fun _ _ _ _ _ _ us hl => match us, hl with | [_, _, _], _ => rfl
theorem ok_multiplied (T : Tx w K mg) : FnA P w K mg base 1 T.f_multiplied T.fd_multiplied ["one", "other", "most"] (spP ⟨P, w, K, T.C⟩ 3 m_multiplied) := by
  rw [m_multiplied_eq]
  refine okP T.F_multiplied sc_multiplied rfl (fun cdv A outer s H E G0 io hgd hr => ?_)
  exact (ps_consM (ps_setM 3 (pm_rep (pm_lst (pa_consM pd_int pa_nilM)) (pd_add (pd_fz (pm_var 2)) pd_int)) sc_multiplied.nd)
    (ps_consM (ps_forM PassesOwn.never rfl (pi_enumM rfl rfl T.b_enumerate (pd_fz (pm_var 0))) (pg_pairM rfl rfl (pg_nameM 4 sc_multiplied.nd) (pg_nameM 5 sc_multiplied.nd)) (ps_oneM (ps_forM PassesOwn.never rfl (pi_enumM rfl rfl T.b_enumerate (pd_fz (pm_var 1))) (pg_pairM rfl rfl (pg_nameM 6 sc_multiplied.nd) (pg_nameM 7 sc_multiplied.nd)) (ps_oneM (ps_ifM (pb_le (pd_add (pd_fz (pm_var 4)) (pd_fz (pm_var 6))) (pd_fz (pm_var 2))) (ps_oneM (ps_asgM (pd_add (pd_ix rfl (pm_var 3) (pd_add (pd_fz (pm_var 4)) (pd_fz (pm_var 6))) (fun _ _ => rfl)) (pd_mul (pd_fz (pm_var 5)) (pd_fz (pm_var 7)))) (pg_subM (pm_var 3) (pd_add (pd_fz (pm_var 4)) (pd_fz (pm_var 6)))))) ps_nilM)))))
    (ps_oneM (ps_retM (pm_var 3)))))
/-! ### numbers_to -/
abbrev N_numbers_to : List Str := ["kind", "most", "found", "number", "at"]
theorem sc_numbers_to : FnScope N_numbers_to ["kind", "most"] (defScope s_numbers_to) := ⟨rfl, rfl, rfl, by decide +kernel, rfl, by decide +kernel, by decide +kernel⟩
def b_numbers_to : MS := (mSeq (mSet 2 (mCatL (mLst (aCons (cst (.int 1)) aNil)) (mRep (mLst (aCons (cst (.int 0)) aNil)) (fz (vr 1)))))
    (mSeq (mFor (iRg2 (aCons (cst (.int 1)) (aCons (m2 oAdd (mMeth m_Kind_size (fz (vr 0))) (cst (.int 1))) aNil))) (gNm 3) (mSet 2 (upE (mC (nA m_multiplied 3) (aCons (fz (vr 2)) (aCons (fz (mRep (mLst (aCons (cst (.int 1)) aNil)) (m2 oMul (fz (vr 3)) (m2 oAdd (cst (.int 1)) (m1 oInt (upE (m2 oEq (mMeth m_Kind_name (fz (vr 0))) (cst (.str "mirror"))))))))) (aCons (fz (vr 1)) aNil)))))))
    (mSeq (mIf (asB (m2 oEq (mMeth m_Kind_name (fz (vr 0))) (cst (.str "ring")))) (mFor (iRg2 (aCons (cst (.int 1)) (aCons (mMeth m_Kind_size (fz (vr 0))) aNil))) (gNm 3) (mFor (iRg2 (aCons (fz (vr 3)) (aCons (m2 oAdd (fz (vr 1)) (cst (.int 1))) aNil))) (gNm 4) (mAsg (m2 oAdd (mIx oIx (vr 2) (fz (vr 4))) (mIx oIx (vr 2) (m2 oSub (fz (vr 4)) (fz (vr 3))))) (gSubL (vr 2) (fz (vr 4)))))) mNil)
    (mRet (vr 2)))))
theorem mx_numbers_to : ∃ m : List D → Option D, m = fnP 3 b_numbers_to := ⟨_, rfl⟩
def m_numbers_to : List D → Option D := mx_numbers_to.choose
theorem m_numbers_to_eq : m_numbers_to = fnP 3 b_numbers_to := mx_numbers_to.choose_spec
theorem bi_numbers_to (T : Tx w K mg) : L2.Binds K T.fd_numbers_to ["kind", "most"] [] := T.F_numbers_to.binds fun _ _ _ _ _ _ us hl => match us, hl with | [_, _], _ => rfl
theorem ok_numbers_to (T : Tx w K mg) : FnA P w K mg base 2 T.f_numbers_to T.fd_numbers_to ["kind", "most"] (spP ⟨P, w, K, T.C⟩ 2 m_numbers_to) := by
  rw [m_numbers_to_eq]
  refine okP T.F_numbers_to sc_numbers_to rfl (fun cdv A outer s H E G0 io hgd hr => ?_)
  exact (ps_consM (ps_setM 2 (pm_catL rfl (pm_lst (pa_consM pd_int pa_nilM)) (pm_rep (pm_lst (pa_consM pd_int pa_nilM)) (pd_fz (pm_var 1)))) sc_numbers_to.nd)
    (ps_consM (ps_forM PassesOwn.never rfl (pi_rg2M rfl T.b_range (pa_consM pd_int (pa_consM (pd_add (pd_meth0 (pd_fz (pm_var 0)) rfl T.cl T.k_size (ok_Kind_size T) (hr.mono (by decide)) (bi_Kind_size T) pass0 kno_size rfl) pd_int) pa_nilM))) (pg_nameM 3 sc_numbers_to.nd) (ps_oneM (ps_setM 2 (pm_up (pd_call (ok_multiplied T) hgd (hr.mono (by decide)) rfl T.g_multiplied T.F_multiplied.kp (bi_multiplied T) (pa_consM (pd_fz (pm_var 2)) (pa_consM (pd_fz (pm_rep (pm_lst (pa_consM pd_int pa_nilM)) (pd_mul (pd_fz (pm_var 3)) (pd_add pd_int (pd_int1 rfl T.b_int (pm_up (pd_eq rfl hr.units (pd_meth0 (pd_fz (pm_var 0)) rfl T.cl T.k_name (ok_Kind_name T) (hr.mono (by decide)) (bi_Kind_name T) pass0 kno_name rfl) pd_str))))))) (pa_consM (pd_fz (pm_var 1)) pa_nilM))))) sc_numbers_to.nd)))
    (ps_consM (ps_ifM (pb_eq rfl hr.units (pd_meth0 (pd_fz (pm_var 0)) rfl T.cl T.k_name (ok_Kind_name T) (hr.mono (by decide)) (bi_Kind_name T) pass0 kno_name rfl) pd_str) (ps_oneM (ps_forM PassesOwn.never rfl (pi_rg2M rfl T.b_range (pa_consM pd_int (pa_consM (pd_meth0 (pd_fz (pm_var 0)) rfl T.cl T.k_size (ok_Kind_size T) (hr.mono (by decide)) (bi_Kind_size T) pass0 kno_size rfl) pa_nilM))) (pg_nameM 3 sc_numbers_to.nd) (ps_oneM (ps_forM PassesOwn.never rfl (pi_rg2M rfl T.b_range (pa_consM (pd_fz (pm_var 3)) (pa_consM (pd_add (pd_fz (pm_var 1)) pd_int) pa_nilM))) (pg_nameM 4 sc_numbers_to.nd) (ps_oneM (ps_asgM (pd_add (pd_ix rfl (pm_var 2) (pd_fz (pm_var 4)) (fun _ _ => rfl)) (pd_ix rfl (pm_var 2) (pd_sub (pd_fz (pm_var 4)) (pd_fz (pm_var 3))) (fun _ _ => rfl))) (pg_subM (pm_var 2) (pd_fz (pm_var 4))))))))) ps_nilM)
    (ps_oneM (ps_retM (pm_var 2))))))
/-! ### how_many_orders -/
abbrev N_how_many_orders : List Str := ["kind", "crossings"]
theorem sc_how_many_orders : FnScope N_how_many_orders ["kind", "crossings"] (defScope s_how_many_orders) := ⟨rfl, rfl, rfl, by decide +kernel, rfl, by decide +kernel, by decide +kernel⟩
def b_how_many_orders : MS := (mSeq (mDrop (mC (nA m_check_kind 1) (aCons (fz (vr 0)) aNil)))
    (mSeq (mDrop (mC (nA m_check_number 3) (aCons (fz (vr 1)) (aCons (cst (.int 0)) (aCons (cst .non) aNil)))))
    (mRet (upE (mIf (mAnd (asB (m2 oGt (fz (vr 1)) (cst (.int 200)))) (asB (m2 oNe (mMeth m_Kind_name (fz (vr 0))) (cst (.str "ring"))))) (cst (.int 0)) (mIx oIx (upE (mC (nA m_numbers_to 2) (aCons (fz (vr 0)) (aCons (fz (vr 1)) aNil)))) (fz (vr 1))))))))
theorem mx_how_many_orders : ∃ m : List D → Option D, m = fnP 0 b_how_many_orders := ⟨_, rfl⟩
def m_how_many_orders : List D → Option D := mx_how_many_orders.choose
theorem m_how_many_orders_eq : m_how_many_orders = fnP 0 b_how_many_orders := mx_how_many_orders.choose_spec
theorem bi_how_many_orders (T : Tx w K mg) : L2.Binds K T.fd_how_many_orders ["kind", "crossings"] [] := T.F_how_many_orders.binds fun _ _ _ _ _ _ us hl => match us, hl with | [_, _], _ => rfl
theorem ok_how_many_orders (T : Tx w K mg) : FnA P w K mg base 4 T.f_how_many_orders T.fd_how_many_orders ["kind", "crossings"] (spP ⟨P, w, K, T.C⟩ 2 m_how_many_orders) := by
  rw [m_how_many_orders_eq]
  refine okP T.F_how_many_orders sc_how_many_orders rfl (fun cdv A outer s H E G0 io hgd hr => ?_)
  exact (ps_consM (ps_exprM (pd_call (ok_check_kind T) hgd (hr.mono (by decide)) rfl T.g_check_kind T.F_check_kind.kp (bi_check_kind T) (pa_consM (pd_fz (pm_var 0)) pa_nilM)))
    (ps_consM (ps_exprM (pd_call0 (ok_check_number T) (hr.mono (by decide)) rfl T.g_check_number T.F_check_number.kp (bi_check_number T) (pa_consM (pd_fz (pm_var 1)) (pa_consM pd_int (pa_consM pd_non pa_nilM)))))
    (ps_oneM (ps_retM (pm_up (pd_if (PW.pt (pw_and' (pb_gt (pd_fz (pm_var 1)) (pd_glob (i := 200) rfl T.c_MOST_ASKED.choose_spec ⟨_, rfl⟩)) (pw_and1' (pb_ne rfl hr.units (pd_meth0 (pd_fz (pm_var 0)) rfl T.cl T.k_name (ok_Kind_name T) (hr.mono (by decide)) (bi_Kind_name T) pass0 kno_name rfl) pd_str)))) pd_int (pd_ix rfl (pm_up (pd_call (ok_numbers_to T) hgd (hr.mono (by decide)) rfl T.g_numbers_to T.F_numbers_to.kp (bi_numbers_to T) (pa_consM (pd_fz (pm_var 0)) (pa_consM (pd_fz (pm_var 1)) pa_nilM)))) (pd_fz (pm_var 1)) (fun _ _ => rfl))))))))
/-! ### orders_with -/
abbrev N_orders_with : List Str := ["kind", "crossings", "many", "found", "turn", "longer", "order", "step"]
theorem sc_orders_with : FnScope N_orders_with ["kind", "crossings"] (defScope s_orders_with) := ⟨rfl, rfl, rfl, by decide +kernel, rfl, by decide +kernel, by decide +kernel⟩
def b_orders_with : MS := (mSeq (mSet 2 (upE (mC (nA m_how_many_orders 2) (aCons (fz (vr 0)) (aCons (fz (vr 1)) aNil)))))
    (mSeq (mIf (asB (m2 oGt (fz (vr 2)) (cst (.int 1000)))) mNever mNil)
    (mSeq (mSet 3 (mIf (asB (m2 oGt (fz (vr 2)) (cst (.int 0)))) (mDp1 dpT (mTpl (upE (mMeth m_Kind_start (fz (vr 0))))) (cst (.bl true))) (fun ρ => some (.new (.dt []), ρ))))
    (mSeq (mFor (iRg1 (aCons (m2 oMul (fz (vr 1)) (m1 oInt (upE (m2 oGt (fz (vr 2)) (cst (.int 0)))))) aNil)) (gNm 4) (mSeq (mSet 5 (fun ρ => some (.new (.dt []), ρ)))
    (mSeq (mForK 3 (gNm 6) (mFor (iRg1 (aCons (mMeth m_Kind_steps (fz (vr 0))) aNil)) (gNm 7) (mIf (mNot (asB (mC (nA m_is_crossed 3) (aCons (fz (vr 0)) (aCons (fz (vr 6)) (aCons (fz (vr 7)) aNil)))))) (mDPut (vr 5) (mTpl (upE (mC (nA m_by_step 3) (aCons (fz (vr 0)) (aCons (fz (vr 6)) (aCons (fz (vr 7)) aNil)))))) (cst (.bl true))) mNil)))
    (mSet 3 (vr 5)))))
    (mRet (mCmp (iLst (fz (n1 oSortT (n1 oListT (vr 3))))) (gNm 6) yes (fz (n1 oList (vr 6))) [6]))))))
theorem mx_orders_with : ∃ m : List D → Option D, m = fnP 6 b_orders_with := ⟨_, rfl⟩
def m_orders_with : List D → Option D := mx_orders_with.choose
theorem m_orders_with_eq : m_orders_with = fnP 6 b_orders_with := mx_orders_with.choose_spec
theorem bi_orders_with (T : Tx w K mg) : L2.Binds K T.fd_orders_with ["kind", "crossings"] [] := T.F_orders_with.binds fun _ _ _ _ _ _ us hl => match us, hl with | [_, _], _ => rfl
theorem ok_orders_with (T : Tx w K mg) : FnA P w K mg base 5 T.f_orders_with T.fd_orders_with ["kind", "crossings"] (spP ⟨P, w, K, T.C⟩ 2 m_orders_with) := by
  rw [m_orders_with_eq]
  refine okP T.F_orders_with sc_orders_with rfl (fun cdv A outer s H E G0 io hgd hr => ?_)
  exact (ps_consM (ps_setM 2 (pm_up (pd_call (ok_how_many_orders T) hgd (hr.mono (by decide)) rfl T.g_how_many_orders T.F_how_many_orders.kp (bi_how_many_orders T) (pa_consM (pd_fz (pm_var 0)) (pa_consM (pd_fz (pm_var 1)) pa_nilM)))) sc_orders_with.nd)
    (ps_consM (ps_ifM (pb_gt (pd_fz (pm_var 2)) (pd_glob (i := 1000) rfl T.c_MOST_LISTED.choose_spec ⟨_, rfl⟩)) (ps_oneM ps_neverM) ps_nilM)
    (ps_consM (ps_setM 3 (pm_if (pb_gt (pd_fz (pm_var 2)) pd_int) (pm_dp1t (hu_of hr) (pd_tuple1 rfl rfl T.b_tuple (pm_up (pd_meth0 (pd_fz (pm_var 0)) rfl T.cl T.k_start (ok_Kind_start T) (hr.mono (by decide)) (bi_Kind_start T) pass0 kno_start rfl))) pd_bl) pm_newT) sc_orders_with.nd)
    (ps_consM (ps_forM PassesOwn.never rfl (pi_rg1M rfl T.b_range (pa_consM (pd_mul (pd_fz (pm_var 1)) (pd_int1 rfl T.b_int (pm_up (pd_gt (pd_fz (pm_var 2)) pd_int)))) pa_nilM)) (pg_nameM 4 sc_orders_with.nd) (ps_consM (ps_setM 5 pm_newT sc_orders_with.nd)
    (ps_consM (ps_forK 3 PassesOwn.never rfl (fun _ => (pg_nameM 6 sc_orders_with.nd)) (fun _ => (ps_oneM (ps_forM PassesOwn.never rfl (pi_rg1M rfl T.b_range (pa_consM (pd_meth0 (pd_fz (pm_var 0)) rfl T.cl T.k_steps (ok_Kind_steps T) (hr.mono (by decide)) (bi_Kind_steps T) pass0 kno_steps rfl) pa_nilM)) (pg_nameM 7 sc_orders_with.nd) (ps_oneM (ps_ifM (pb_not (pb_val (pd_call (ok_is_crossed T) hgd (hr.mono (by decide)) rfl T.g_is_crossed T.F_is_crossed.kp (bi_is_crossed T) (pa_consM (pd_fz (pm_var 0)) (pa_consM (pd_fz (pm_var 6)) (pa_consM (pd_fz (pm_var 7)) pa_nilM)))))) (ps_oneM (ps_dputM (hu_of hr) (pm_var 5) (pd_tuple1 rfl rfl T.b_tuple (pm_up (pd_call (ok_by_step T) hgd (hr.mono (by decide)) rfl T.g_by_step T.F_by_step.kp (bi_by_step T) (pa_consM (pd_fz (pm_var 0)) (pa_consM (pd_fz (pm_var 6)) (pa_consM (pd_fz (pm_var 7)) pa_nilM)))))) pd_bl)) ps_nilM))))))
    (ps_oneM (ps_setM 3 (pm_var 5) sc_orders_with.nd)))))
    (ps_oneM (ps_retM (pm_lc (own := [("order", 6)]) rfl sc_orders_with.nd (pi_listM rfl (pd_fz (pm_sortT rfl rfl T.b_sorted (pm_listT rfl rfl T.b_list (pm_var 3))))) (blkOk_by (own := [("order", 6)]) (N := N_orders_with) (sc := defScope s_orders_with) (by decide +kernel)) (fun _ _ _ _ _ => (pg_nameM 6 sc_orders_with.nd)) (fun _ _ _ _ _ => pts_nilM) (fun _ _ _ _ _ => (pd_fz (pm_list1 rfl rfl T.b_list (pm_var 6)))))))))))
/-! ### _law_hash -/
abbrev N__law_hash : List Str := ["seed", "index", "mixed"]
theorem sc__law_hash : FnScope N__law_hash ["seed", "index"] (defScope s__law_hash) := ⟨rfl, rfl, rfl, by decide +kernel, rfl, by decide +kernel, by decide +kernel⟩
def b__law_hash : MS := (mSeq (mSet 2 (upE (m2 oMod (m1 oInt (upE (m2 oAdd (m2 oAdd (m2 oAdd (m2 oMul (fz (vr 0)) (cst (.int 1140671))) (m2 oMul (m2 oMul (cst (.int 27644437)) (fz (vr 1))) (fz (vr 1)))) (m2 oMul (cst (.int 131)) (fz (vr 1)))) (cst (.int 19))))) (cst (.int 2147483629)))))
    (mSeq (mSet 2 (upE (m2 oMod (m1 oInt (upE (m2 oAdd (m2 oAdd (m2 oMul (fz (vr 2)) (fz (vr 2))) (m2 oMul (cst (.int 62089)) (fz (vr 1)))) (cst (.int 32416187))))) (cst (.int 2147483587)))))
    (mRet (upE (m2 oMod (m1 oInt (upE (m2 oMul (fz (vr 2)) (cst (.int 48271))))) (cst (.int 2147483647)))))))
theorem mx__law_hash : ∃ m : List D → Option D, m = fnP 1 b__law_hash := ⟨_, rfl⟩
def m__law_hash : List D → Option D := mx__law_hash.choose
theorem m__law_hash_eq : m__law_hash = fnP 1 b__law_hash := mx__law_hash.choose_spec
theorem bi__law_hash (T : Tx w K mg) : L2.Binds K T.fd__law_hash ["seed", "index"] [] := T.F__law_hash.binds fun _ _ _ _ _ _ us hl => match us, hl with | [_, _], _ => rfl
theorem ok__law_hash (T : Tx w K mg) : FnA P w K mg base 1 T.f__law_hash T.fd__law_hash ["seed", "index"] (spP ⟨P, w, K, T.C⟩ 2 m__law_hash) := by
  rw [m__law_hash_eq]
  refine okP T.F__law_hash sc__law_hash rfl (fun cdv A outer s H E G0 io hgd hr => ?_)
  exact (ps_consM (ps_setM 2 (pm_up (pd_mod (pd_int1 rfl T.b_int (pm_up (pd_add (pd_add (pd_add (pd_mul (pd_fz (pm_var 0)) pd_int) (pd_mul (pd_mul pd_int (pd_fz (pm_var 1))) (pd_fz (pm_var 1)))) (pd_mul pd_int (pd_fz (pm_var 1)))) pd_int))) pd_int)) sc__law_hash.nd)
    (ps_consM (ps_setM 2 (pm_up (pd_mod (pd_int1 rfl T.b_int (pm_up (pd_add (pd_add (pd_mul (pd_fz (pm_var 2)) (pd_fz (pm_var 2))) (pd_mul pd_int (pd_fz (pm_var 1)))) pd_int))) pd_int)) sc__law_hash.nd)
    (ps_oneM (ps_retM (pm_up (pd_mod (pd_int1 rfl T.b_int (pm_up (pd_mul (pd_fz (pm_var 2)) pd_int))) pd_int))))))
/-! ### _law_random -/
abbrev N__law_random : List Str := ["generator", "bound", "drawn", "turn"]
theorem sc__law_random : FnScope N__law_random ["generator", "bound"] (defScope s__law_random) := ⟨rfl, rfl, rfl, by decide +kernel, rfl, by decide +kernel, by decide +kernel⟩
def b__law_random : MS := (mSeq (mIf (asB (m2 oGt (mIx oIx (vr 0) (cst (.int 0))) (cst (.int 0)))) (mSeq (mSet 2 (upE (m2 oMod (m1 oInt (upE (mIx oIx (vr 0) (cst (.int 0))))) (fz (vr 1)))))
    (mSeq (mAsg (m2 oDiv (mIx oIx (vr 0) (cst (.int 0))) (fz (vr 1))) (gSubL (vr 0) (cst (.int 0))))
    (mRet (vr 2)))) mNil)
    (mSeq (mSet 2 (upE (cst (.int 0))))
    (mSeq (mFor (iRg1 (aCons (m2 oAdd (cst (.int 1)) (m2 oDiv (m1 oBits (vr 1)) (cst (.int 30)))) aNil)) (gNm 3) (mSeq (mAsg (m2 oAdd (mIx oIx (vr 0) (cst (.int 2))) (cst (.int 1))) (gSubL (vr 0) (cst (.int 2))))
    (mSet 2 (upE (m2 oAdd (m2 oMul (fz (vr 2)) (cst (.int 2147483587))) (mC (nA m__law_hash 2) (aCons (mIx oIx (vr 0) (cst (.int 1))) (aCons (mIx oIx (vr 0) (cst (.int 2))) aNil))))))))
    (mRet (upE (m2 oMod (m1 oInt (vr 2)) (fz (vr 1))))))))
theorem mx__law_random : ∃ m : D → List D → Option (D × D), m = fnG 2 b__law_random := ⟨_, rfl⟩
def m__law_random : D → List D → Option (D × D) := mx__law_random.choose
theorem m__law_random_eq : m__law_random = fnG 2 b__law_random := mx__law_random.choose_spec
theorem bi__law_random (T : Tx w K mg) : L2.Binds K T.fd__law_random ["generator", "bound"] [] := T.F__law_random.binds fun _ _ _ _ _ _ us hl => match us, hl with | [_, _], _ => rfl
theorem ok__law_random (T : Tx w K mg) : FnA P w K mg base 2 T.f__law_random T.fd__law_random ["generator", "bound"] (spG ⟨P, w, K, T.C⟩ 2 m__law_random) := by
  rw [m__law_random_eq]
  refine okG rfl T.F__law_random sc__law_random rfl (fun cdv A outer s H E G0 io hgd hr => ?_)
  exact (ps_consM (ps_ifM (pb_gt (pd_ix rfl (pm_var 0) pd_int (fun _ _ => rfl)) pd_int) (ps_consM (ps_setM 2 (pm_up (pd_mod (pd_int1 rfl T.b_int (pm_up (pd_ix rfl (pm_var 0) pd_int (fun _ _ => rfl)))) (pd_fz (pm_var 1)))) sc__law_random.nd)
    (ps_consM (ps_asgM (pd_div (pd_ix rfl (pm_var 0) pd_int (fun _ _ => rfl)) (pd_fz (pm_var 1))) (pg_subM (pm_var 0) pd_int))
    (ps_oneM (ps_retM (pm_var 2))))) ps_nilM)
    (ps_consM (ps_setM 2 (pm_up pd_int) sc__law_random.nd)
    (ps_consM (ps_forM PassesOwn.never rfl (pi_rg1M rfl T.b_range (pa_consM (pd_add pd_int (pd_div (pd_bits (pm_var 1)) pd_int)) pa_nilM)) (pg_nameM 3 sc__law_random.nd) (ps_consM (ps_asgM (pd_add (pd_ix rfl (pm_var 0) pd_int (fun _ _ => rfl)) pd_int) (pg_subM (pm_var 0) pd_int))
    (ps_oneM (ps_setM 2 (pm_up (pd_add (pd_mul (pd_fz (pm_var 2)) pd_int) (pd_call (ok__law_hash T) hgd (hr.mono (by decide)) rfl T.g__law_hash T.F__law_hash.kp (bi__law_hash T) (pa_consM (pd_ix rfl (pm_var 0) pd_int (fun _ _ => rfl)) (pa_consM (pd_ix rfl (pm_var 0) pd_int (fun _ _ => rfl)) pa_nilM))))) sc__law_random.nd))))
    (ps_oneM (ps_retM (pm_up (pd_mod (pd_int1 rfl T.b_int (pm_var 2)) (pd_fz (pm_var 1)))))))))
/-! ### _law_cell -/
abbrev N__law_cell : List Str := ["script", "index"]
theorem sc__law_cell : FnScope N__law_cell ["script", "index"] (defScope s__law_cell) := ⟨rfl, rfl, rfl, by decide +kernel, rfl, by decide +kernel, by decide +kernel⟩
def b__law_cell : MS := (mSeq (mIf (asB (m2 oLt (fz (vr 1)) (m1 oLen (vr 0)))) (mRet (upE (mIx oIx (vr 0) (fz (vr 1))))) mNil)
    (mRet (upE (m2 oMod (m1 oSum (mSl (vr 0) oNo (oYes (cst (.int 1))))) (cst (.int 1000003))))))
theorem mx__law_cell : ∃ m : List D → Option D, m = fnP 0 b__law_cell := ⟨_, rfl⟩
def m__law_cell : List D → Option D := mx__law_cell.choose
theorem m__law_cell_eq : m__law_cell = fnP 0 b__law_cell := mx__law_cell.choose_spec
theorem bi__law_cell (T : Tx w K mg) : L2.Binds K T.fd__law_cell ["script", "index"] [] := T.F__law_cell.binds fun _ _ _ _ _ _ us hl => match us, hl with | [_, _], _ => rfl
theorem ok__law_cell (T : Tx w K mg) : FnA P w K mg base 1 T.f__law_cell T.fd__law_cell ["script", "index"] (spP ⟨P, w, K, T.C⟩ 2 m__law_cell) := by
  rw [m__law_cell_eq]
  refine okP T.F__law_cell sc__law_cell rfl (fun cdv A outer s H E G0 io hgd hr => ?_)
  exact (ps_consM (ps_ifM (pb_lt (pd_fz (pm_var 1)) (pd_len rfl rfl T.b_len (pm_var 0))) (ps_oneM (ps_retM (pm_up (pd_ix rfl (pm_var 0) (pd_fz (pm_var 1)) (fun _ _ => rfl))))) ps_nilM)
    (ps_oneM (ps_retM (pm_up (pd_mod (pd_sum rfl rfl rfl T.b_sum (pm_slice rfl (pm_var 0) po_noM (po_yesM pd_int))) pd_int)))))
/-! ### _law_generator -/
abbrev N__law_generator : List Str := ["script", "index", "seed"]
theorem sc__law_generator : FnScope N__law_generator ["script", "index"] (defScope s__law_generator) := ⟨rfl, rfl, rfl, by decide +kernel, rfl, by decide +kernel, by decide +kernel⟩
def b__law_generator : MS := (mSeq (mSet 2 (upE (mC (nA m__law_cell 2) (aCons (fz (vr 0)) (aCons (fz (vr 1)) aNil)))))
    (mRet (mLst (aCons (m2 oMod (m1 oInt (upE (mC oMax2 (aCons (m2 oSub (fz (vr 2)) (m2 oPow (cst (.int 10)) (cst (.int 18)))) (aCons (cst (.int 0)) aNil))))) (m2 oPow (m2 oPow (cst (.int 10)) (cst (.int 60))) (cst (.int 10)))) (aCons (m2 oMod (m1 oInt (vr 2)) (cst (.int 2147483647))) (aCons (m2 oMul (cst (.int 1000)) (fz (vr 1))) aNil))))))
theorem mx__law_generator : ∃ m : List D → Option D, m = fnN 1 b__law_generator := ⟨_, rfl⟩
def m__law_generator : List D → Option D := mx__law_generator.choose
theorem m__law_generator_eq : m__law_generator = fnN 1 b__law_generator := mx__law_generator.choose_spec
theorem bi__law_generator (T : Tx w K mg) : L2.Binds K T.fd__law_generator ["script", "index"] [] := T.F__law_generator.binds fun _ _ _ _ _ _ us hl => match us, hl with | [_, _], _ => rfl
theorem ok__law_generator (T : Tx w K mg) : FnA P w K mg base 2 T.f__law_generator T.fd__law_generator ["script", "index"] (spN ⟨P, w, K, T.C⟩ 2 m__law_generator) := by
  rw [m__law_generator_eq]
  refine okN T.F__law_generator sc__law_generator rfl (fun cdv A outer s H E G0 io hgd hr => ?_)
  exact (ps_consM (ps_setM 2 (pm_up (pd_call (ok__law_cell T) hgd (hr.mono (by decide)) rfl T.g__law_cell T.F__law_cell.kp (bi__law_cell T) (pa_consM (pd_fz (pm_var 0)) (pa_consM (pd_fz (pm_var 1)) pa_nilM)))) sc__law_generator.nd)
    (ps_oneM (ps_retM (pm_lst (pa_consM (pd_mod (pd_int1 rfl T.b_int (pm_up (pd_max2 rfl rfl T.b_max (pa_consM (pd_sub (pd_fz (pm_var 2)) (pd_pow pd_int pd_int)) (pa_consM pd_int pa_nilM))))) (pd_pow (pd_pow pd_int pd_int) pd_int)) (pa_consM (pd_mod (pd_int1 rfl T.b_int (pm_var 2)) pd_int) (pa_consM (pd_mul pd_int (pd_fz (pm_var 1))) pa_nilM)))))))
/-! ### _law_start -/
abbrev N__law_start : List Str := ["told", "name", "size"]
theorem sc__law_start : FnScope N__law_start ["told"] (defScope s__law_start) := ⟨rfl, rfl, rfl, by decide +kernel, rfl, by decide +kernel, by decide +kernel⟩
def b__law_start : MS := (mSeq (mAsg (fz (vr 0)) (gPr (gNm 1) (gNm 2)))
    (mRet (mLR2 (m1 oInt (upE (m2 oEq (fz (vr 1)) (cst (.str "mirror"))))) (m2 oAdd (fz (vr 2)) (m1 oInt (upE (m2 oEq (fz (vr 1)) (cst (.str "mirror")))))))))
theorem mx__law_start : ∃ m : List D → Option D, m = fnP 2 b__law_start := ⟨_, rfl⟩
def m__law_start : List D → Option D := mx__law_start.choose
theorem m__law_start_eq : m__law_start = fnP 2 b__law_start := mx__law_start.choose_spec
theorem bi__law_start (T : Tx w K mg) : L2.Binds K T.fd__law_start ["told"] [] := T.F__law_start.binds fun _ _ _ _ _ _ us hl => match us, hl with | [_], _ => rfl
theorem ok__law_start (T : Tx w K mg) : FnA P w K mg base 1 T.f__law_start T.fd__law_start ["told"] (spP ⟨P, w, K, T.C⟩ 1 m__law_start) := by
  rw [m__law_start_eq]
  refine okP T.F__law_start sc__law_start rfl (fun cdv A outer s H E G0 io hgd hr => ?_)
  exact (ps_consM (ps_asgM (pd_fz (pm_var 0)) (pg_pairM rfl rfl (pg_nameM 1 sc__law_start.nd) (pg_nameM 2 sc__law_start.nd)))
    (ps_oneM (ps_retM (pm_listR2 rfl rfl T.b_list rfl T.b_range (pd_int1 rfl T.b_int (pm_up (pd_eq rfl hr.units (pd_fz (pm_var 1)) pd_str))) (pd_add (pd_fz (pm_var 2)) (pd_int1 rfl T.b_int (pm_up (pd_eq rfl hr.units (pd_fz (pm_var 1)) pd_str))))))))
/-! ### _law_steps -/
abbrev N__law_steps : List Str := ["told", "name", "size"]
theorem sc__law_steps : FnScope N__law_steps ["told"] (defScope s__law_steps) := ⟨rfl, rfl, rfl, by decide +kernel, rfl, by decide +kernel, by decide +kernel⟩
def b__law_steps : MS := (mSeq (mAsg (fz (vr 0)) (gPr (gNm 1) (gNm 2)))
    (mRet (upE (m2 oSub (fz (vr 2)) (m1 oInt (upE (m2 oEq (fz (vr 1)) (cst (.str "plain")))))))))
theorem mx__law_steps : ∃ m : List D → Option D, m = fnP 2 b__law_steps := ⟨_, rfl⟩
def m__law_steps : List D → Option D := mx__law_steps.choose
theorem m__law_steps_eq : m__law_steps = fnP 2 b__law_steps := mx__law_steps.choose_spec
theorem bi__law_steps (T : Tx w K mg) : L2.Binds K T.fd__law_steps ["told"] [] := T.F__law_steps.binds fun _ _ _ _ _ _ us hl => match us, hl with | [_], _ => rfl
theorem ok__law_steps (T : Tx w K mg) : FnA P w K mg base 1 T.f__law_steps T.fd__law_steps ["told"] (spP ⟨P, w, K, T.C⟩ 1 m__law_steps) := by
  rw [m__law_steps_eq]
  refine okP T.F__law_steps sc__law_steps rfl (fun cdv A outer s H E G0 io hgd hr => ?_)
  exact (ps_consM (ps_asgM (pd_fz (pm_var 0)) (pg_pairM rfl rfl (pg_nameM 1 sc__law_steps.nd) (pg_nameM 2 sc__law_steps.nd)))
    (ps_oneM (ps_retM (pm_up (pd_sub (pd_fz (pm_var 2)) (pd_int1 rfl T.b_int (pm_up (pd_eq rfl hr.units (pd_fz (pm_var 1)) pd_str))))))))
/-! ### _law_two -/
abbrev N__law_two : List Str := ["told", "order", "step", "name", "size"]
theorem sc__law_two : FnScope N__law_two ["told", "order", "step"] (defScope s__law_two) := ⟨rfl, rfl, rfl, by decide +kernel, rfl, by decide +kernel, by decide +kernel⟩
def b__law_two : MS := (mSeq (mAsg (fz (vr 0)) (gPr (gNm 3) (gNm 4)))
    (mSeq (mIf (asB (m2 oEq (fz (vr 3)) (cst (.str "mirror")))) (mRet (upE (mIf (asB (m2 oEq (fz (vr 2)) (cst (.int 0)))) (mTup (aCons (m1 (o1I fun i => -i) (upE (mIx oIx (vr 1) (cst (.int 0))))) (aCons (mIx oIx (vr 1) (cst (.int 0))) aNil))) (mTup (aCons (mIx oIx (vr 1) (m2 oSub (fz (vr 2)) (cst (.int 1)))) (aCons (mIx oIx (vr 1) (fz (vr 2))) aNil)))))) mNil)
    (mSeq (mIf (mAnd (asB (m2 oEq (fz (vr 3)) (cst (.str "ring")))) (asB (m2 oEq (fz (vr 2)) (m2 oSub (fz (vr 4)) (cst (.int 1)))))) (mRet (upE (mTup (aCons (mIx oIx (vr 1) (fz (vr 2))) (aCons (m2 oAdd (mIx oIx (vr 1) (cst (.int 0))) (fz (vr 4))) aNil))))) mNil)
    (mRet (upE (mTup (aCons (mIx oIx (vr 1) (fz (vr 2))) (aCons (mIx oIx (vr 1) (m2 oAdd (fz (vr 2)) (cst (.int 1)))) aNil))))))))
theorem mx__law_two : ∃ m : List D → Option D, m = fnP 2 b__law_two := ⟨_, rfl⟩
def m__law_two : List D → Option D := mx__law_two.choose
theorem m__law_two_eq : m__law_two = fnP 2 b__law_two := mx__law_two.choose_spec
theorem bi__law_two (T : Tx w K mg) : L2.Binds K T.fd__law_two ["told", "order", "step"] [] := T.F__law_two.binds fun _ _ _ _ _ _ us hl => match us, hl with | [_, _, _], _ => rfl
theorem ok__law_two (T : Tx w K mg) : FnA P w K mg base 1 T.f__law_two T.fd__law_two ["told", "order", "step"] (spP ⟨P, w, K, T.C⟩ 3 m__law_two) := by
  rw [m__law_two_eq]
  refine okP T.F__law_two sc__law_two rfl (fun cdv A outer s H E G0 io hgd hr => ?_)
  exact (ps_consM (ps_asgM (pd_fz (pm_var 0)) (pg_pairM rfl rfl (pg_nameM 3 sc__law_two.nd) (pg_nameM 4 sc__law_two.nd)))
    (ps_consM (ps_ifM (pb_eq rfl hr.units (pd_fz (pm_var 3)) pd_str) (ps_oneM (ps_retM (pm_up (pd_if (pb_eq rfl hr.units (pd_fz (pm_var 2)) pd_int) (pd_tup (pa_consM (pd_neg (pm_up (pd_ix rfl (pm_var 1) pd_int (fun _ _ => rfl)))) (pa_consM (pd_ix rfl (pm_var 1) pd_int (fun _ _ => rfl)) pa_nilM))) (pd_tup (pa_consM (pd_ix rfl (pm_var 1) (pd_sub (pd_fz (pm_var 2)) pd_int) (fun _ _ => rfl)) (pa_consM (pd_ix rfl (pm_var 1) (pd_fz (pm_var 2)) (fun _ _ => rfl)) pa_nilM))))))) ps_nilM)
    (ps_consM (ps_ifM (PW.pt (pw_and' (pb_eq rfl hr.units (pd_fz (pm_var 3)) pd_str) (pw_and1' (pb_eq rfl hr.units (pd_fz (pm_var 2)) (pd_sub (pd_fz (pm_var 4)) pd_int))))) (ps_oneM (ps_retM (pm_up (pd_tup (pa_consM (pd_ix rfl (pm_var 1) (pd_fz (pm_var 2)) (fun _ _ => rfl)) (pa_consM (pd_add (pd_ix rfl (pm_var 1) pd_int (fun _ _ => rfl)) (pd_fz (pm_var 4))) pa_nilM)))))) ps_nilM)
    (ps_oneM (ps_retM (pm_up (pd_tup (pa_consM (pd_ix rfl (pm_var 1) (pd_fz (pm_var 2)) (fun _ _ => rfl)) (pa_consM (pd_ix rfl (pm_var 1) (pd_add (pd_fz (pm_var 2)) pd_int) (fun _ _ => rfl)) pa_nilM)))))))))
/-! ### _law_crossed -/
abbrev N__law_crossed : List Str := ["told", "order", "step", "low", "high"]
theorem sc__law_crossed : FnScope N__law_crossed ["told", "order", "step"] (defScope s__law_crossed) := ⟨rfl, rfl, rfl, by decide +kernel, rfl, by decide +kernel, by decide +kernel⟩
def b__law_crossed : MS := (mSeq (mAsg (mC (nA m__law_two 3) (aCons (fz (vr 0)) (aCons (fz (vr 1)) (aCons (fz (vr 2)) aNil)))) (gPr (gNm 3) (gNm 4)))
    (mRet (upE (m2 oGt (fz (vr 3)) (fz (vr 4))))))
theorem mx__law_crossed : ∃ m : List D → Option D, m = fnP 2 b__law_crossed := ⟨_, rfl⟩
def m__law_crossed : List D → Option D := mx__law_crossed.choose
theorem m__law_crossed_eq : m__law_crossed = fnP 2 b__law_crossed := mx__law_crossed.choose_spec
theorem bi__law_crossed (T : Tx w K mg) : L2.Binds K T.fd__law_crossed ["told", "order", "step"] [] := T.F__law_crossed.binds fun _ _ _ _ _ _ us hl => match us, hl with | [_, _, _], _ => rfl
theorem ok__law_crossed (T : Tx w K mg) : FnA P w K mg base 2 T.f__law_crossed T.fd__law_crossed ["told", "order", "step"] (spP ⟨P, w, K, T.C⟩ 3 m__law_crossed) := by
  rw [m__law_crossed_eq]
  refine okP T.F__law_crossed sc__law_crossed rfl (fun cdv A outer s H E G0 io hgd hr => ?_)
  exact (ps_consM (ps_asgM (pd_call (ok__law_two T) hgd (hr.mono (by decide)) rfl T.g__law_two T.F__law_two.kp (bi__law_two T) (pa_consM (pd_fz (pm_var 0)) (pa_consM (pd_fz (pm_var 1)) (pa_consM (pd_fz (pm_var 2)) pa_nilM)))) (pg_pairM rfl rfl (pg_nameM 3 sc__law_crossed.nd) (pg_nameM 4 sc__law_crossed.nd)))
    (ps_oneM (ps_retM (pm_up (pd_gt (pd_fz (pm_var 3)) (pd_fz (pm_var 4)))))))
/-! ### _law_stepped -/
abbrev N__law_stepped : List Str := ["told", "order", "step", "name", "size", "low", "high"]
theorem sc__law_stepped : FnScope N__law_stepped ["told", "order", "step"] (defScope s__law_stepped) := ⟨rfl, rfl, rfl, by decide +kernel, rfl, by decide +kernel, by decide +kernel⟩
def b__law_stepped : MS := (mSeq (mAsg (fz (vr 0)) (gPr (gNm 3) (gNm 4)))
    (mSeq (mAsg (mC (nA m__law_two 3) (aCons (fz (vr 0)) (aCons (fz (vr 1)) (aCons (fz (vr 2)) aNil)))) (gPr (gNm 5) (gNm 6)))
    (mSeq (mIf (asB (m2 oEq (fz (vr 3)) (cst (.str "mirror")))) (mRet (mIf (asB (m2 oEq (fz (vr 2)) (cst (.int 0)))) (mCatL (mLst (aCons (fz (vr 5)) aNil)) (mSl (vr 1) (oYes (cst (.int 1))) oNo)) (mCatL (mCatL (mSl (vr 1) oNo (oYes (m2 oSub (fz (vr 2)) (cst (.int 1))))) (mLst (aCons (fz (vr 6)) (aCons (fz (vr 5)) aNil)))) (mSl (vr 1) (oYes (m2 oAdd (fz (vr 2)) (cst (.int 1)))) oNo)))) mNil)
    (mSeq (mIf (mAnd (asB (m2 oEq (fz (vr 3)) (cst (.str "ring")))) (asB (m2 oEq (fz (vr 2)) (m2 oSub (fz (vr 4)) (cst (.int 1)))))) (mRet (mCatL (mCatL (mLst (aCons (m2 oSub (fz (vr 5)) (fz (vr 4))) aNil)) (mSl (vr 1) (oYes (cst (.int 1))) (oYes (fz (vr 2))))) (mLst (aCons (fz (vr 6)) aNil)))) mNil)
    (mRet (mCatL (mCatL (mSl (vr 1) oNo (oYes (fz (vr 2)))) (mLst (aCons (fz (vr 6)) (aCons (fz (vr 5)) aNil)))) (mSl (vr 1) (oYes (m2 oAdd (fz (vr 2)) (cst (.int 2)))) oNo)))))))
theorem mx__law_stepped : ∃ m : List D → Option D, m = fnP 4 b__law_stepped := ⟨_, rfl⟩
def m__law_stepped : List D → Option D := mx__law_stepped.choose
theorem m__law_stepped_eq : m__law_stepped = fnP 4 b__law_stepped := mx__law_stepped.choose_spec
theorem bi__law_stepped (T : Tx w K mg) : L2.Binds K T.fd__law_stepped ["told", "order", "step"] [] := T.F__law_stepped.binds fun _ _ _ _ _ _ us hl => match us, hl with | [_, _, _], _ => rfl
theorem ok__law_stepped (T : Tx w K mg) : FnA P w K mg base 2 T.f__law_stepped T.fd__law_stepped ["told", "order", "step"] (spP ⟨P, w, K, T.C⟩ 3 m__law_stepped) := by
  rw [m__law_stepped_eq]
  refine okP T.F__law_stepped sc__law_stepped rfl (fun cdv A outer s H E G0 io hgd hr => ?_)
  exact (ps_consM (ps_asgM (pd_fz (pm_var 0)) (pg_pairM rfl rfl (pg_nameM 3 sc__law_stepped.nd) (pg_nameM 4 sc__law_stepped.nd)))
    (ps_consM (ps_asgM (pd_call (ok__law_two T) hgd (hr.mono (by decide)) rfl T.g__law_two T.F__law_two.kp (bi__law_two T) (pa_consM (pd_fz (pm_var 0)) (pa_consM (pd_fz (pm_var 1)) (pa_consM (pd_fz (pm_var 2)) pa_nilM)))) (pg_pairM rfl rfl (pg_nameM 5 sc__law_stepped.nd) (pg_nameM 6 sc__law_stepped.nd)))
    (ps_consM (ps_ifM (pb_eq rfl hr.units (pd_fz (pm_var 3)) pd_str) (ps_oneM (ps_retM (pm_if (pb_eq rfl hr.units (pd_fz (pm_var 2)) pd_int) (pm_catL rfl (pm_lst (pa_consM (pd_fz (pm_var 5)) pa_nilM)) (pm_slice rfl (pm_var 1) (po_yesM pd_int) po_noM)) (pm_catL rfl (pm_catL rfl (pm_slice rfl (pm_var 1) po_noM (po_yesM (pd_sub (pd_fz (pm_var 2)) pd_int))) (pm_lst (pa_consM (pd_fz (pm_var 6)) (pa_consM (pd_fz (pm_var 5)) pa_nilM)))) (pm_slice rfl (pm_var 1) (po_yesM (pd_add (pd_fz (pm_var 2)) pd_int)) po_noM))))) ps_nilM)
    (ps_consM (ps_ifM (PW.pt (pw_and' (pb_eq rfl hr.units (pd_fz (pm_var 3)) pd_str) (pw_and1' (pb_eq rfl hr.units (pd_fz (pm_var 2)) (pd_sub (pd_fz (pm_var 4)) pd_int))))) (ps_oneM (ps_retM (pm_catL rfl (pm_catL rfl (pm_lst (pa_consM (pd_sub (pd_fz (pm_var 5)) (pd_fz (pm_var 4))) pa_nilM)) (pm_slice rfl (pm_var 1) (po_yesM pd_int) (po_yesM (pd_fz (pm_var 2))))) (pm_lst (pa_consM (pd_fz (pm_var 6)) pa_nilM))))) ps_nilM)
    (ps_oneM (ps_retM (pm_catL rfl (pm_catL rfl (pm_slice rfl (pm_var 1) po_noM (po_yesM (pd_fz (pm_var 2)))) (pm_lst (pa_consM (pd_fz (pm_var 6)) (pa_consM (pd_fz (pm_var 5)) pa_nilM)))) (pm_slice rfl (pm_var 1) (po_yesM (pd_add (pd_fz (pm_var 2)) pd_int)) po_noM))))))))
/-! ### _law_gains -/
abbrev N__law_gains : List Str := ["told", "order", "row", "found", "step"]
theorem sc__law_gains : FnScope N__law_gains ["told", "order", "row"] (defScope s__law_gains) := ⟨rfl, rfl, rfl, by decide +kernel, rfl, by decide +kernel, by decide +kernel⟩
def b__law_gains : MS := (mSeq (mSet 3 (upE (fz (n1 oList (vr 1)))))
    (mSeq (mFor (iLst (fz (vr 2))) (gNm 4) (mIf (mNot (asB (mC (nA m__law_crossed 3) (aCons (fz (vr 0)) (aCons (fz (vr 3)) (aCons (fz (vr 4)) aNil)))))) (mSet 3 (upE (mC (nA m__law_stepped 3) (aCons (fz (vr 0)) (aCons (fz (vr 3)) (aCons (fz (vr 4)) aNil)))))) mNil))
    (mRet (vr 3))))
theorem mx__law_gains : ∃ m : List D → Option D, m = fnP 2 b__law_gains := ⟨_, rfl⟩
def m__law_gains : List D → Option D := mx__law_gains.choose
theorem m__law_gains_eq : m__law_gains = fnP 2 b__law_gains := mx__law_gains.choose_spec
theorem bi__law_gains (T : Tx w K mg) : L2.Binds K T.fd__law_gains ["told", "order", "row"] [] := T.F__law_gains.binds fun _ _ _ _ _ _ us hl => match us, hl with | [_, _, _], _ => rfl
theorem ok__law_gains (T : Tx w K mg) : FnA P w K mg base 3 T.f__law_gains T.fd__law_gains ["told", "order", "row"] (spP ⟨P, w, K, T.C⟩ 3 m__law_gains) := by
  rw [m__law_gains_eq]
  refine okP T.F__law_gains sc__law_gains rfl (fun cdv A outer s H E G0 io hgd hr => ?_)
  exact (ps_consM (ps_setM 3 (pm_up (pd_fz (pm_list1 rfl rfl T.b_list (pm_var 1)))) sc__law_gains.nd)
    (ps_consM (ps_forM PassesOwn.never rfl (pi_listM rfl (pd_fz (pm_var 2))) (pg_nameM 4 sc__law_gains.nd) (ps_oneM (ps_ifM (pb_not (pb_val (pd_call (ok__law_crossed T) hgd (hr.mono (by decide)) rfl T.g__law_crossed T.F__law_crossed.kp (bi__law_crossed T) (pa_consM (pd_fz (pm_var 0)) (pa_consM (pd_fz (pm_var 3)) (pa_consM (pd_fz (pm_var 4)) pa_nilM)))))) (ps_oneM (ps_setM 3 (pm_up (pd_call (ok__law_stepped T) hgd (hr.mono (by decide)) rfl T.g__law_stepped T.F__law_stepped.kp (bi__law_stepped T) (pa_consM (pd_fz (pm_var 0)) (pa_consM (pd_fz (pm_var 3)) (pa_consM (pd_fz (pm_var 4)) pa_nilM))))) sc__law_gains.nd)) ps_nilM)))
    (ps_oneM (ps_retM (pm_var 3)))))
/-! ### _law_row -/
abbrev N__law_row : List Str := ["generator", "told", "most", "many", "steps", "turn"]
theorem sc__law_row : FnScope N__law_row ["generator", "told", "most"] (defScope s__law_row) := ⟨rfl, rfl, rfl, by decide +kernel, rfl, by decide +kernel, by decide +kernel⟩
def b__law_row : MS := (mSeq (mPar 3 4 (upE (mCG (nAG m__law_random 2) (vr 0) (aCons (m2 oAdd (fz (vr 2)) (cst (.int 1))) aNil))) (upE (mC (nA m__law_steps 1) (aCons (fz (vr 1)) aNil))))
    (mRet (mCmp (iRg1 (aCons (m2 oMul (fz (vr 3)) (m1 oInt (upE (m2 oGt (fz (vr 4)) (cst (.int 0)))))) aNil)) (gNm 5) yes (mCG (nAG m__law_random 2) (vr 0) (aCons (fz (vr 4)) aNil)) [5])))
theorem mx__law_row : ∃ m : D → List D → Option (D × D), m = fnG 3 b__law_row := ⟨_, rfl⟩
def m__law_row : D → List D → Option (D × D) := mx__law_row.choose
theorem m__law_row_eq : m__law_row = fnG 3 b__law_row := mx__law_row.choose_spec
theorem bi__law_row (T : Tx w K mg) : L2.Binds K T.fd__law_row ["generator", "told", "most"] [] := T.F__law_row.binds fun _ _ _ _ _ _ us hl => match us, hl with | [_, _, _], _ => rfl
theorem ok__law_row (T : Tx w K mg) : FnA P w K mg base 3 T.f__law_row T.fd__law_row ["generator", "told", "most"] (spG ⟨P, w, K, T.C⟩ 3 m__law_row) := by
  rw [m__law_row_eq]
  refine okG rfl T.F__law_row sc__law_row rfl (fun cdv A outer s H E G0 io hgd hr => ?_)
  exact (ps_consM (ps_tup2M 3 4 rfl sc__law_row.nd (pm_up (pd_callG (ok__law_random T) hgd (hr.mono (by decide)) rfl T.g__law_random T.F__law_random.kp (bi__law_random T) (pm_var 0) (pa_consM (pd_add (pd_fz (pm_var 2)) pd_int) pa_nilM))) (pm_up (pd_call (ok__law_steps T) hgd (hr.mono (by decide)) rfl T.g__law_steps T.F__law_steps.kp (bi__law_steps T) (pa_consM (pd_fz (pm_var 1)) pa_nilM))))
    (ps_oneM (ps_retM (pm_lc (own := [("turn", 5)]) rfl sc__law_row.nd (pi_rg1M rfl T.b_range (pa_consM (pd_mul (pd_fz (pm_var 3)) (pd_int1 rfl T.b_int (pm_up (pd_gt (pd_fz (pm_var 4)) pd_int)))) pa_nilM)) (blkOk_by (own := [("turn", 5)]) (N := N__law_row) (sc := defScope s__law_row) (by decide +kernel)) (fun _ _ _ _ _ => (pg_nameM 5 sc__law_row.nd)) (fun _ _ _ _ _ => pts_nilM) (fun _ _ _ _ _ => (pd_callG (ok__law_random T) hgd (hr.mono (by decide)) rfl T.g__law_random T.F__law_random.kp (bi__law_random T) (pm_var 0) (pa_consM (pd_fz (pm_var 4)) pa_nilM)))))))
/-! ### _law_order -/
abbrev N__law_order : List Str := ["generator", "told", "most"]
theorem sc__law_order : FnScope N__law_order ["generator", "told", "most"] (defScope s__law_order) := ⟨rfl, rfl, rfl, by decide +kernel, rfl, by decide +kernel, by decide +kernel⟩
def b__law_order : MS := (mRet (upE (mC (nA m__law_gains 3) (aCons (fz (vr 1)) (aCons (mC (nA m__law_start 1) (aCons (fz (vr 1)) aNil)) (aCons (mCG (nAG m__law_row 3) (vr 0) (aCons (fz (vr 1)) (aCons (fz (vr 2)) aNil))) aNil))))))
theorem mx__law_order : ∃ m : D → List D → Option (D × D), m = fnG 0 b__law_order := ⟨_, rfl⟩
def m__law_order : D → List D → Option (D × D) := mx__law_order.choose
theorem m__law_order_eq : m__law_order = fnG 0 b__law_order := mx__law_order.choose_spec
theorem bi__law_order (T : Tx w K mg) : L2.Binds K T.fd__law_order ["generator", "told", "most"] [] := T.F__law_order.binds fun _ _ _ _ _ _ us hl => match us, hl with | [_, _, _], _ => rfl
theorem ok__law_order (T : Tx w K mg) : FnA P w K mg base 4 T.f__law_order T.fd__law_order ["generator", "told", "most"] (spG ⟨P, w, K, T.C⟩ 3 m__law_order) := by
  rw [m__law_order_eq]
  refine okG rfl T.F__law_order sc__law_order rfl (fun cdv A outer s H E G0 io hgd hr => ?_)
  exact (ps_oneM (ps_retM (pm_up (pd_call (ok__law_gains T) hgd (hr.mono (by decide)) rfl T.g__law_gains T.F__law_gains.kp (bi__law_gains T) (pa_consM (pd_fz (pm_var 1)) (pa_consM (pd_call (ok__law_start T) hgd (hr.mono (by decide)) rfl T.g__law_start T.F__law_start.kp (bi__law_start T) (pa_consM (pd_fz (pm_var 1)) pa_nilM)) (pa_consM (pd_callG (ok__law_row T) hgd (hr.mono (by decide)) rfl T.g__law_row T.F__law_row.kp (bi__law_row T) (pm_var 0) (pa_consM (pd_fz (pm_var 1)) (pa_consM (pd_fz (pm_var 2)) pa_nilM))) pa_nilM)))))))
/-! ### _law_unfolded -/
abbrev N__law_unfolded : List Str := ["order", "items", "item"]
theorem sc__law_unfolded : FnScope N__law_unfolded ["order"] (defScope s__law_unfolded) := ⟨rfl, rfl, rfl, by decide +kernel, rfl, by decide +kernel, by decide +kernel⟩
def b__law_unfolded : MS := (mSeq (mSet 1 (mCatL (mCmp (iLst (fz (mRev (vr 0)))) (gNm 2) yes (m2 oSub (cst (.int 0)) (fz (vr 2))) [2]) (n1 oList (vr 0))))
    (mRet (mCmp (iLst (fz (vr 1))) (gNm 2) yes (mIndex (fz (n1 oSortI (vr 1))) (fz (vr 2))) [2])))
theorem mx__law_unfolded : ∃ m : List D → Option D, m = fnP 2 b__law_unfolded := ⟨_, rfl⟩
def m__law_unfolded : List D → Option D := mx__law_unfolded.choose
theorem m__law_unfolded_eq : m__law_unfolded = fnP 2 b__law_unfolded := mx__law_unfolded.choose_spec
theorem bi__law_unfolded (T : Tx w K mg) : L2.Binds K T.fd__law_unfolded ["order"] [] := T.F__law_unfolded.binds fun _ _ _ _ _ _ us hl => match us, hl with | [_], _ => rfl
theorem ok__law_unfolded (T : Tx w K mg) : FnA P w K mg base 1 T.f__law_unfolded T.fd__law_unfolded ["order"] (spP ⟨P, w, K, T.C⟩ 1 m__law_unfolded) := by
  rw [m__law_unfolded_eq]
  refine okP T.F__law_unfolded sc__law_unfolded rfl (fun cdv A outer s H E G0 io hgd hr => ?_)
  exact (ps_consM (ps_setM 1 (pm_catL rfl (pm_lc (own := [("item", 2)]) rfl sc__law_unfolded.nd (pi_listM rfl (pd_fz (pm_rev rfl (pm_var 0)))) (blkOk_by (own := [("item", 2)]) (N := N__law_unfolded) (sc := defScope s__law_unfolded) (by decide +kernel)) (fun _ _ _ _ _ => (pg_nameM 2 sc__law_unfolded.nd)) (fun _ _ _ _ _ => pts_nilM) (fun _ _ _ _ _ => (pd_sub pd_int (pd_fz (pm_var 2))))) (pm_list1 rfl rfl T.b_list (pm_var 0))) sc__law_unfolded.nd)
    (ps_oneM (ps_retM (pm_lc (own := [("item", 2)]) rfl sc__law_unfolded.nd (pi_listM rfl (pd_fz (pm_var 1))) (blkOk_by (own := [("item", 2)]) (N := N__law_unfolded) (sc := defScope s__law_unfolded) (by decide +kernel)) (fun _ _ _ _ _ => (pg_nameM 2 sc__law_unfolded.nd)) (fun _ _ _ _ _ => pts_nilM) (fun _ _ _ _ _ => (pd_index rfl (hu65 hr) (pd_fz (pm_sortI rfl rfl T.b_sorted (pm_var 1))) (pd_fz (pm_var 2))))))))
/-! ### _law_mirror_right -/
abbrev N__law_mirror_right : List Str := ["generator", "size", "small", "great", "told", "one", "other", "here", "there", "step", "pair", "handed", "asked", "item", "place"]
theorem sc__law_mirror_right : FnScope N__law_mirror_right ["generator"] (defScope s__law_mirror_right) := ⟨rfl, rfl, rfl, by decide +kernel, rfl, by decide +kernel, by decide +kernel⟩
def b__law_mirror_right : MS := (mSeq (mSet 1 (upE (m2 oAdd (cst (.int 1)) (mCG (nAG m__law_random 2) (vr 0) (aCons (cst (.int 3)) aNil)))))
    (mSeq (mPar3 2 3 4 (upE (mC oKind (aCons (cst (.str "mirror")) (aCons (fz (vr 1)) aNil)))) (upE (mC oKind (aCons (cst (.str "plain")) (aCons (m2 oMul (cst (.int 2)) (fz (vr 1))) aNil)))) (upE (mTup (aCons (cst (.str "mirror")) (aCons (fz (vr 1)) aNil)))))
    (mSeq (mPar 5 6 (upE (mCG (nAG m__law_order 3) (vr 0) (aCons (fz (vr 4)) (aCons (cst (.int 9)) aNil)))) (upE (mCG (nAG m__law_order 3) (vr 0) (aCons (fz (vr 4)) (aCons (cst (.int 9)) aNil)))))
    (mSeq (mPar 7 8 (upE (mC (nA m__law_unfolded 1) (aCons (fz (vr 5)) aNil))) (upE (mC (nA m__law_unfolded 1) (aCons (fz (vr 6)) aNil))))
    (mSeq (mIf (mOr (asB (m2 oNe (fz (mCn (nA m_unfolded 2) (aCons (fz (vr 5)) (aCons (fz (vr 1)) aNil)))) (fz (vr 7)))) (mOr (asB (m2 oNe (fz (mCn (oRv (nA m_unfolded 2)) (aCons (fz (vr 1)) (aCons (fz (vr 6)) aNil)))) (fz (vr 8)))) (mOr (asB (m2 oNe (fz (mCq (nA m_folded 2) (aCons (fz (vr 7)) (aCons (fz (vr 1)) aNil)))) (fz (vr 5)))) (asB (m2 oNe (fz (mCq (oRv (nA m_folded 2)) (aCons (fz (vr 1)) (aCons (fz (vr 8)) aNil)))) (fz (vr 6))))))) (mRet (upE (cst (.bl false)))) mNil)
    (mSeq (mIf (asB (m2 oNe (mC (nA m_crossings 2) (aCons (fz (vr 3)) (aCons (fz (vr 7)) aNil))) (m2 oSub (m2 oMul (cst (.int 2)) (mC (nA m_crossings 2) (aCons (fz (vr 2)) (aCons (fz (vr 5)) aNil)))) (m1 oLen (mCmp (iLst (fz (vr 5))) (gNm 13) (asB (m2 oLt (fz (vr 13)) (cst (.int 0)))) (fz (vr 13)) [13]))))) (mRet (upE (cst (.bl false)))) mNil)
    (mSeq (mIf (mOr (asB (m2 oNe (fz (mCn (nA m_unfolded 2) (aCons (mC (nA m_greedy 3) (aCons (fz (vr 2)) (aCons (fz (vr 5)) (aCons (fz (vr 6)) aNil)))) (aCons (fz (vr 1)) aNil)))) (mC (nA m_greedy 3) (aCons (fz (vr 3)) (aCons (fz (vr 7)) (aCons (fz (vr 8)) aNil)))))) (asB (m2 oNe (fz (mCn (nA m_unfolded 2) (aCons (mC (nA m_product 3) (aCons (fz (vr 2)) (aCons (fz (vr 5)) (aCons (fz (vr 6)) aNil)))) (aCons (fz (vr 1)) aNil)))) (mC (nA m_product 3) (aCons (fz (vr 3)) (aCons (fz (vr 7)) (aCons (fz (vr 8)) aNil))))))) (mRet (upE (cst (.bl false)))) mNil)
    (mSeq (mIf (mOr (asB (m2 oNe (fz (mCn (nA m_unfolded 2) (aCons (mC (nA m_opposite 2) (aCons (fz (vr 2)) (aCons (fz (vr 5)) aNil))) (aCons (fz (vr 1)) aNil)))) (mC (nA m_opposite 2) (aCons (fz (vr 3)) (aCons (fz (vr 7)) aNil))))) (asB (m2 oNe (fz (mCn (nA m_unfolded 2) (aCons (mC (nA m_power 3) (aCons (fz (vr 2)) (aCons (fz (vr 5)) (aCons (cst (.int 3)) aNil)))) (aCons (fz (vr 1)) aNil)))) (mC (nA m_power 3) (aCons (fz (vr 3)) (aCons (fz (vr 7)) (aCons (cst (.int 3)) aNil))))))) (mRet (upE (cst (.bl false)))) mNil)
    (mSeq (mIf (asB (m2 oNe (mC (nA m_is_beneath 3) (aCons (fz (vr 2)) (aCons (fz (vr 5)) (aCons (fz (vr 6)) aNil)))) (mC (nA m_is_beneath 3) (aCons (fz (vr 3)) (aCons (fz (vr 7)) (aCons (fz (vr 8)) aNil)))))) (mRet (upE (cst (.bl false)))) mNil)
    (mSeq (mFor (iRg1 (aCons (fz (vr 1)) aNil)) (gNm 9) (mSeq (mSet 10 (mLst (aCons (m2 oSub (m2 oSub (fz (vr 1)) (cst (.int 1))) (fz (vr 9))) (aCons (m2 oAdd (m2 oSub (fz (vr 1)) (cst (.int 1))) (fz (vr 9))) aNil))))
    (mIf (asB (m2 oNe (fz (mRep (mLst (aCons (m2 (oInI false) (fz (vr 9)) (mC (nA m_falls 2) (aCons (fz (vr 2)) (aCons (fz (vr 5)) aNil)))) aNil)) (cst (.int 2)))) (fz (mCmp (iLst (fz (vr 10))) (gNm 14) yes (m2 (oInI false) (fz (vr 14)) (mC (nA m_falls 2) (aCons (fz (vr 3)) (aCons (fz (vr 7)) aNil)))) [14])))) (mRet (upE (cst (.bl false)))) mNil)))
    (mSeq (mAppN (mCn (nA m_unfolded 2) (aCons (fz (vr 5)) (aCons (fz (vr 1)) aNil))) (cst (.int 7)))
    (mSeq (mAppN (mCq (nA m_folded 2) (aCons (fz (vr 7)) (aCons (fz (vr 1)) aNil))) (cst (.int 7)))
    (mSeq (mPar 11 12 (n1 oList (vr 5)) (mLst (aCons (fz (mCn (nA m_unfolded 2) (aCons (fz (vr 5)) (aCons (fz (vr 1)) aNil)))) aNil)))
    (mSeq (mDrop (fz (mCnB 11 (nA m_unfolded 2) (aCons (fz (vr 1)) aNil))))
    (mSeq (mAsg (fz (vr 6)) (gAll (vr 11)))
    (mSeq (mSet 12 (mCatL (vr 12) (mLst (aCons (fz (mCnB 11 (nA m_unfolded 2) (aCons (fz (vr 1)) aNil))) (aCons (fz (mCq (nA m_folded 2) (aCons (fz (vr 7)) (aCons (fz (vr 1)) aNil)))) aNil)))))
    (mRet (upE (vAnd (m2 oEq (fz (vr 12)) (fz (mLst (aCons (mC (nA m__law_unfolded 1) (aCons (fz (vr 5)) aNil)) (aCons (mC (nA m__law_unfolded 1) (aCons (fz (vr 6)) aNil)) (aCons (fz (vr 5)) aNil)))))) (m2 oEq (fz (vr 7)) (mC (nA m__law_unfolded 1) (aCons (fz (vr 5)) aNil))))))))))))))))))))))
theorem mx__law_mirror_right : ∃ m : D → List D → Option (D × D), m = fnG 14 b__law_mirror_right := ⟨_, rfl⟩
def m__law_mirror_right : D → List D → Option (D × D) := mx__law_mirror_right.choose
theorem m__law_mirror_right_eq : m__law_mirror_right = fnG 14 b__law_mirror_right := mx__law_mirror_right.choose_spec
theorem bi__law_mirror_right (T : Tx w K mg) : L2.Binds K T.fd__law_mirror_right ["generator"] [] := T.F__law_mirror_right.binds fun _ _ _ _ _ _ us hl => match us, hl with | [_], _ => rfl
theorem ok__law_mirror_right (T : Tx w K mg) : FnA P w K mg base 9 T.f__law_mirror_right T.fd__law_mirror_right ["generator"] (spG ⟨P, w, K, T.C⟩ 1 m__law_mirror_right) := by
  rw [m__law_mirror_right_eq]
  refine okG rfl T.F__law_mirror_right sc__law_mirror_right rfl (fun cdv A outer s H E G0 io hgd hr => ?_)
  exact (ps_consM (ps_setM 1 (pm_up (pd_add pd_int (pd_callG (ok__law_random T) hgd (hr.mono (by decide)) rfl T.g__law_random T.F__law_random.kp (bi__law_random T) (pm_var 0) (pa_consM pd_int pa_nilM)))) sc__law_mirror_right.nd)
    (ps_consM (ps_tup3M 2 3 4 rfl sc__law_mirror_right.nd (pm_up (pd_mkKind T.mkK (ok_Kind___init__ T) (hr.mono (by decide)) rfl T.g_Kind (bi_Kind___init__ T) (pa_consM pd_str (pa_consM (pd_fz (pm_var 1)) pa_nilM)))) (pm_up (pd_mkKind T.mkK (ok_Kind___init__ T) (hr.mono (by decide)) rfl T.g_Kind (bi_Kind___init__ T) (pa_consM pd_str (pa_consM (pd_mul pd_int (pd_fz (pm_var 1))) pa_nilM)))) (pm_up (pd_tup (pa_consM pd_str (pa_consM (pd_fz (pm_var 1)) pa_nilM)))))
    (ps_consM (ps_parM 5 6 rfl sc__law_mirror_right.nd (pm_up (pd_callG (ok__law_order T) hgd (hr.mono (by decide)) rfl T.g__law_order T.F__law_order.kp (bi__law_order T) (pm_var 0) (pa_consM (pd_fz (pm_var 4)) (pa_consM pd_int pa_nilM)))) (pm_up (pd_callG (ok__law_order T) hgd (hr.mono (by decide)) rfl T.g__law_order T.F__law_order.kp (bi__law_order T) (pm_var 0) (pa_consM (pd_fz (pm_var 4)) (pa_consM pd_int pa_nilM)))))
    (ps_consM (ps_tup2M 7 8 rfl sc__law_mirror_right.nd (pm_up (pd_call (ok__law_unfolded T) hgd (hr.mono (by decide)) rfl T.g__law_unfolded T.F__law_unfolded.kp (bi__law_unfolded T) (pa_consM (pd_fz (pm_var 5)) pa_nilM))) (pm_up (pd_call (ok__law_unfolded T) hgd (hr.mono (by decide)) rfl T.g__law_unfolded T.F__law_unfolded.kp (bi__law_unfolded T) (pa_consM (pd_fz (pm_var 6)) pa_nilM))))
    (ps_consM (ps_ifM (PW.pt (pw_or' (pb_ne rfl hr.units (pd_fz (pm_callN (ok_unfolded T) hgd (hr.mono (by decide)) rfl T.g_unfolded T.F_unfolded.kp (bi_unfolded T) (pa_consM (pd_fz (pm_var 5)) (pa_consM (pd_fz (pm_var 1)) pa_nilM)))) (pd_fz (pm_var 7))) (pw_or' (pb_ne rfl hr.units (pd_fz (pm_callNr (ok_unfolded T) hgd (hr.mono (by decide)) rfl T.g_unfolded T.F_unfolded.kp (kr_unfolded T) (pk_consM (pd_fz (pm_var 1)) (pk_consM (pd_fz (pm_var 6)) pk_nilM)))) (pd_fz (pm_var 8))) (pw_or' (pb_ne rfl hr.units (pd_fz (pm_callQ (ok_folded T) hgd (hr.mono (by decide)) rfl T.g_folded T.F_folded.kp (bi_folded T) (pa_consM (pd_fz (pm_var 7)) (pa_consM (pd_fz (pm_var 1)) pa_nilM)))) (pd_fz (pm_var 5))) (pw_or1' (pb_ne rfl hr.units (pd_fz (pm_callQr (ok_folded T) hgd (hr.mono (by decide)) rfl T.g_folded T.F_folded.kp (kr_folded T) (pk_consM (pd_fz (pm_var 1)) (pk_consM (pd_fz (pm_var 8)) pk_nilM)))) (pd_fz (pm_var 6)))))))) (ps_oneM (ps_retM (pm_up pd_bl))) ps_nilM)
    (ps_consM (ps_ifM (pb_ne rfl hr.units (pd_call (ok_crossings T) hgd (hr.mono (by decide)) rfl T.g_crossings T.F_crossings.kp (bi_crossings T) (pa_consM (pd_fz (pm_var 3)) (pa_consM (pd_fz (pm_var 7)) pa_nilM))) (pd_sub (pd_mul pd_int (pd_call (ok_crossings T) hgd (hr.mono (by decide)) rfl T.g_crossings T.F_crossings.kp (bi_crossings T) (pa_consM (pd_fz (pm_var 2)) (pa_consM (pd_fz (pm_var 5)) pa_nilM)))) (pd_len rfl rfl T.b_len (pm_lc (own := [("item", 13)]) rfl sc__law_mirror_right.nd (pi_listM rfl (pd_fz (pm_var 5))) (blkOk_by (own := [("item", 13)]) (N := N__law_mirror_right) (sc := defScope s__law_mirror_right) (by decide +kernel)) (fun _ _ _ _ _ => (pg_nameM 13 sc__law_mirror_right.nd)) (fun _ _ _ _ _ => (pts_oneM (pb_lt (pd_fz (pm_var 13)) pd_int))) (fun _ _ _ _ _ => (pd_fz (pm_var 13))))))) (ps_oneM (ps_retM (pm_up pd_bl))) ps_nilM)
    (ps_consM (ps_ifM (PW.pt (pw_or' (pb_ne rfl hr.units (pd_fz (pm_callN (ok_unfolded T) hgd (hr.mono (by decide)) rfl T.g_unfolded T.F_unfolded.kp (bi_unfolded T) (pa_consM (pd_call (ok_greedy T) hgd (hr.mono (by decide)) rfl T.g_greedy T.F_greedy.kp (bi_greedy T) (pa_consM (pd_fz (pm_var 2)) (pa_consM (pd_fz (pm_var 5)) (pa_consM (pd_fz (pm_var 6)) pa_nilM)))) (pa_consM (pd_fz (pm_var 1)) pa_nilM)))) (pd_call (ok_greedy T) hgd (hr.mono (by decide)) rfl T.g_greedy T.F_greedy.kp (bi_greedy T) (pa_consM (pd_fz (pm_var 3)) (pa_consM (pd_fz (pm_var 7)) (pa_consM (pd_fz (pm_var 8)) pa_nilM))))) (pw_or1' (pb_ne rfl hr.units (pd_fz (pm_callN (ok_unfolded T) hgd (hr.mono (by decide)) rfl T.g_unfolded T.F_unfolded.kp (bi_unfolded T) (pa_consM (pd_call (ok_product T) hgd (hr.mono (by decide)) rfl T.g_product T.F_product.kp (bi_product T) (pa_consM (pd_fz (pm_var 2)) (pa_consM (pd_fz (pm_var 5)) (pa_consM (pd_fz (pm_var 6)) pa_nilM)))) (pa_consM (pd_fz (pm_var 1)) pa_nilM)))) (pd_call (ok_product T) hgd (hr.mono (by decide)) rfl T.g_product T.F_product.kp (bi_product T) (pa_consM (pd_fz (pm_var 3)) (pa_consM (pd_fz (pm_var 7)) (pa_consM (pd_fz (pm_var 8)) pa_nilM)))))))) (ps_oneM (ps_retM (pm_up pd_bl))) ps_nilM)
    (ps_consM (ps_ifM (PW.pt (pw_or' (pb_ne rfl hr.units (pd_fz (pm_callN (ok_unfolded T) hgd (hr.mono (by decide)) rfl T.g_unfolded T.F_unfolded.kp (bi_unfolded T) (pa_consM (pd_call (ok_opposite T) hgd (hr.mono (by decide)) rfl T.g_opposite T.F_opposite.kp (bi_opposite T) (pa_consM (pd_fz (pm_var 2)) (pa_consM (pd_fz (pm_var 5)) pa_nilM))) (pa_consM (pd_fz (pm_var 1)) pa_nilM)))) (pd_call (ok_opposite T) hgd (hr.mono (by decide)) rfl T.g_opposite T.F_opposite.kp (bi_opposite T) (pa_consM (pd_fz (pm_var 3)) (pa_consM (pd_fz (pm_var 7)) pa_nilM)))) (pw_or1' (pb_ne rfl hr.units (pd_fz (pm_callN (ok_unfolded T) hgd (hr.mono (by decide)) rfl T.g_unfolded T.F_unfolded.kp (bi_unfolded T) (pa_consM (pd_call (ok_power T) hgd (hr.mono (by decide)) rfl T.g_power T.F_power.kp (bi_power T) (pa_consM (pd_fz (pm_var 2)) (pa_consM (pd_fz (pm_var 5)) (pa_consM pd_int pa_nilM)))) (pa_consM (pd_fz (pm_var 1)) pa_nilM)))) (pd_call (ok_power T) hgd (hr.mono (by decide)) rfl T.g_power T.F_power.kp (bi_power T) (pa_consM (pd_fz (pm_var 3)) (pa_consM (pd_fz (pm_var 7)) (pa_consM pd_int pa_nilM)))))))) (ps_oneM (ps_retM (pm_up pd_bl))) ps_nilM)
    (ps_consM (ps_ifM (pb_ne rfl hr.units (pd_call (ok_is_beneath T) hgd (hr.mono (by decide)) rfl T.g_is_beneath T.F_is_beneath.kp (bi_is_beneath T) (pa_consM (pd_fz (pm_var 2)) (pa_consM (pd_fz (pm_var 5)) (pa_consM (pd_fz (pm_var 6)) pa_nilM)))) (pd_call (ok_is_beneath T) hgd (hr.mono (by decide)) rfl T.g_is_beneath T.F_is_beneath.kp (bi_is_beneath T) (pa_consM (pd_fz (pm_var 3)) (pa_consM (pd_fz (pm_var 7)) (pa_consM (pd_fz (pm_var 8)) pa_nilM))))) (ps_oneM (ps_retM (pm_up pd_bl))) ps_nilM)
    (ps_consM (ps_forM PassesOwn.never rfl (pi_rg1M rfl T.b_range (pa_consM (pd_fz (pm_var 1)) pa_nilM)) (pg_nameM 9 sc__law_mirror_right.nd) (ps_consM (ps_setM 10 (pm_lst (pa_consM (pd_sub (pd_sub (pd_fz (pm_var 1)) pd_int) (pd_fz (pm_var 9))) (pa_consM (pd_add (pd_sub (pd_fz (pm_var 1)) pd_int) (pd_fz (pm_var 9))) pa_nilM))) sc__law_mirror_right.nd)
    (ps_oneM (ps_ifM (pb_ne rfl hr.units (pd_fz (pm_rep (pm_lst (pa_consM (pd_inI rfl (pd_fz (pm_var 9)) (pd_call (ok_falls T) hgd (hr.mono (by decide)) rfl T.g_falls T.F_falls.kp (bi_falls T) (pa_consM (pd_fz (pm_var 2)) (pa_consM (pd_fz (pm_var 5)) pa_nilM)))) pa_nilM)) pd_int)) (pd_fz (pm_lc (own := [("place", 14)]) rfl sc__law_mirror_right.nd (pi_listM rfl (pd_fz (pm_var 10))) (blkOk_by (own := [("place", 14)]) (N := N__law_mirror_right) (sc := defScope s__law_mirror_right) (by decide +kernel)) (fun _ _ _ _ _ => (pg_nameM 14 sc__law_mirror_right.nd)) (fun _ _ _ _ _ => pts_nilM) (fun _ _ _ _ _ => (pd_inI rfl (pd_fz (pm_var 14)) (pd_call (ok_falls T) hgd (hr.mono (by decide)) rfl T.g_falls T.F_falls.kp (bi_falls T) (pa_consM (pd_fz (pm_var 3)) (pa_consM (pd_fz (pm_var 7)) pa_nilM)))))))) (ps_oneM (ps_retM (pm_up pd_bl))) ps_nilM))))
    (ps_consM (ps_appN rfl (pm_callN (ok_unfolded T) hgd (hr.mono (by decide)) rfl T.g_unfolded T.F_unfolded.kp (bi_unfolded T) (pa_consM (pd_fz (pm_var 5)) (pa_consM (pd_fz (pm_var 1)) pa_nilM))) pd_int)
    (ps_consM (ps_appN rfl (pm_callQ (ok_folded T) hgd (hr.mono (by decide)) rfl T.g_folded T.F_folded.kp (bi_folded T) (pa_consM (pd_fz (pm_var 7)) (pa_consM (pd_fz (pm_var 1)) pa_nilM))) pd_int)
    (ps_consM (ps_parM 11 12 rfl sc__law_mirror_right.nd (pm_list1 rfl rfl T.b_list (pm_var 5)) (pm_lst (pa_consM (pd_fz (pm_callN (ok_unfolded T) hgd (hr.mono (by decide)) rfl T.g_unfolded T.F_unfolded.kp (bi_unfolded T) (pa_consM (pd_fz (pm_var 5)) (pa_consM (pd_fz (pm_var 1)) pa_nilM)))) pa_nilM)))
    (ps_consM (ps_exprM (pd_fz (pm_callNB 11 (ok_unfolded T) hgd (hr.mono (by decide)) rfl T.g_unfolded T.F_unfolded.kp (bi_unfolded T) (pm_var 11) (pa_consM (pd_fz (pm_var 1)) pa_nilM))))
    (ps_consM (ps_asgM (pd_fz (pm_var 6)) (pg_allM rfl (pm_var 11)))
    (ps_consM (ps_setM 12 (pm_catL rfl (pm_var 12) (pm_lst (pa_consM (pd_fz (pm_callNB 11 (ok_unfolded T) hgd (hr.mono (by decide)) rfl T.g_unfolded T.F_unfolded.kp (bi_unfolded T) (pm_var 11) (pa_consM (pd_fz (pm_var 1)) pa_nilM))) (pa_consM (pd_fz (pm_callQ (ok_folded T) hgd (hr.mono (by decide)) rfl T.g_folded T.F_folded.kp (bi_folded T) (pa_consM (pd_fz (pm_var 7)) (pa_consM (pd_fz (pm_var 1)) pa_nilM)))) pa_nilM)))) sc__law_mirror_right.nd)
    (ps_oneM (ps_retM (pm_up (pd_and (pd_eq rfl hr.units (pd_fz (pm_var 12)) (pd_fz (pm_lst (pa_consM (pd_call (ok__law_unfolded T) hgd (hr.mono (by decide)) rfl T.g__law_unfolded T.F__law_unfolded.kp (bi__law_unfolded T) (pa_consM (pd_fz (pm_var 5)) pa_nilM)) (pa_consM (pd_call (ok__law_unfolded T) hgd (hr.mono (by decide)) rfl T.g__law_unfolded T.F__law_unfolded.kp (bi__law_unfolded T) (pa_consM (pd_fz (pm_var 6)) pa_nilM)) (pa_consM (pd_fz (pm_var 5)) pa_nilM)))))) (pd_one (pd_eq rfl hr.units (pd_fz (pm_var 7)) (pd_call (ok__law_unfolded T) hgd (hr.mono (by decide)) rfl T.g__law_unfolded T.F__law_unfolded.kp (bi__law_unfolded T) (pa_consM (pd_fz (pm_var 5)) pa_nilM))))))))))))))))))))))))
/-! ### _law_all_folded -/
abbrev N__law_all_folded : List Str := ["size", "kind", "found", "many", "order", "told", "due", "number", "at"]
theorem sc__law_all_folded : FnScope N__law_all_folded ["size"] (defScope s__law_all_folded) := ⟨rfl, rfl, rfl, by decide +kernel, rfl, by decide +kernel, by decide +kernel⟩
def b__law_all_folded : MS := (mSeq (mPar 1 2 (upE (mC oKind (aCons (cst (.str "plain")) (aCons (m2 oMul (cst (.int 2)) (fz (vr 0))) aNil)))) (mLst aNil))
    (mSeq (mFor (iRg1 (aCons (m2 oAdd (m2 oMul (fz (vr 0)) (m2 oSub (m2 oMul (cst (.int 2)) (fz (vr 0))) (cst (.int 1)))) (cst (.int 1))) aNil)) (gNm 3) (mFor (iLst (mC (nA m_orders_with 2) (aCons (fz (vr 1)) (aCons (fz (vr 3)) aNil)))) (gNm 4) (mSeq (mSet 5 (mCq (nA m_folded 2) (aCons (fz (vr 4)) (aCons (fz (vr 0)) aNil))))
    (mIf (asB (m2 oNotN (fz (vr 5)) (cst .non))) (mSeq (mApp (vr 2) (fz (vr 5)))
    (mIf (asB (m2 oNe (fz (mCn (nA m_unfolded 2) (aCons (fz (vr 5)) (aCons (fz (vr 0)) aNil)))) (fz (vr 4)))) (mRet (upE (cst (.bl false)))) mNil)) (mIf (asB (m2 oEq (fz (mCmp (iRg1 (aCons (fz (vr 0)) aNil)) (gNm 8) (asB (m2 oNe (m2 oAdd (mIx oIx (vr 4) (fz (vr 8))) (mIx oIx (vr 4) (m2 oSub (m2 oSub (m2 oMul (cst (.int 2)) (fz (vr 0))) (cst (.int 1))) (fz (vr 8))))) (m2 oSub (m2 oMul (cst (.int 2)) (fz (vr 0))) (cst (.int 1))))) (fz (vr 8)) [8])) (fz (mLst aNil)))) (mRet (upE (cst (.bl false)))) mNil)))))
    (mSeq (mSet 6 (upE (cst (.int 1))))
    (mSeq (mFor (iRg2 (aCons (cst (.int 1)) (aCons (m2 oAdd (fz (vr 0)) (cst (.int 1))) aNil))) (gNm 7) (mSet 6 (upE (m2 oMul (m2 oMul (fz (vr 6)) (cst (.int 2))) (fz (vr 7))))))
    (mRet (upE (m2 oEq (m1 oLen (vr 2)) (fz (vr 6)))))))))
theorem mx__law_all_folded : ∃ m : List D → Option D, m = fnP 8 b__law_all_folded := ⟨_, rfl⟩
def m__law_all_folded : List D → Option D := mx__law_all_folded.choose
theorem m__law_all_folded_eq : m__law_all_folded = fnP 8 b__law_all_folded := mx__law_all_folded.choose_spec
theorem bi__law_all_folded (T : Tx w K mg) : L2.Binds K T.fd__law_all_folded ["size"] [] := T.F__law_all_folded.binds fun _ _ _ _ _ _ us hl => match us, hl with | [_], _ => rfl
theorem ok__law_all_folded (T : Tx w K mg) : FnA P w K mg base 7 T.f__law_all_folded T.fd__law_all_folded ["size"] (spP ⟨P, w, K, T.C⟩ 1 m__law_all_folded) := by
  rw [m__law_all_folded_eq]
  refine okP T.F__law_all_folded sc__law_all_folded rfl (fun cdv A outer s H E G0 io hgd hr => ?_)
  exact (ps_consM (ps_parM 1 2 rfl sc__law_all_folded.nd (pm_up (pd_mkKind T.mkK (ok_Kind___init__ T) (hr.mono (by decide)) rfl T.g_Kind (bi_Kind___init__ T) (pa_consM pd_str (pa_consM (pd_mul pd_int (pd_fz (pm_var 0))) pa_nilM)))) (pm_lst pa_nilM))
    (ps_consM (ps_forM PassesOwn.never rfl (pi_rg1M rfl T.b_range (pa_consM (pd_add (pd_mul (pd_fz (pm_var 0)) (pd_sub (pd_mul pd_int (pd_fz (pm_var 0))) pd_int)) pd_int) pa_nilM)) (pg_nameM 3 sc__law_all_folded.nd) (ps_oneM (ps_forM PassesOwn.never rfl (pi_listM rfl (pd_call (ok_orders_with T) hgd (hr.mono (by decide)) rfl T.g_orders_with T.F_orders_with.kp (bi_orders_with T) (pa_consM (pd_fz (pm_var 1)) (pa_consM (pd_fz (pm_var 3)) pa_nilM)))) (pg_nameM 4 sc__law_all_folded.nd) (ps_consM (ps_setM 5 (pm_callQ (ok_folded T) hgd (hr.mono (by decide)) rfl T.g_folded T.F_folded.kp (bi_folded T) (pa_consM (pd_fz (pm_var 4)) (pa_consM (pd_fz (pm_var 0)) pa_nilM))) sc__law_all_folded.nd)
    (ps_oneM (ps_ifM (pb_notN (pd_fz (pm_var 5)) pd_non) (ps_consM (ps_appM rfl (pm_var 2) (pd_fz (pm_var 5)))
    (ps_oneM (ps_ifM (pb_ne rfl hr.units (pd_fz (pm_callN (ok_unfolded T) hgd (hr.mono (by decide)) rfl T.g_unfolded T.F_unfolded.kp (bi_unfolded T) (pa_consM (pd_fz (pm_var 5)) (pa_consM (pd_fz (pm_var 0)) pa_nilM)))) (pd_fz (pm_var 4))) (ps_oneM (ps_retM (pm_up pd_bl))) ps_nilM))) (ps_oneM (ps_ifM (pb_eq rfl hr.units (pd_fz (pm_lc (own := [("at", 8)]) rfl sc__law_all_folded.nd (pi_rg1M rfl T.b_range (pa_consM (pd_fz (pm_var 0)) pa_nilM)) (blkOk_by (own := [("at", 8)]) (N := N__law_all_folded) (sc := defScope s__law_all_folded) (by decide +kernel)) (fun _ _ _ _ _ => (pg_nameM 8 sc__law_all_folded.nd)) (fun _ _ _ _ _ => (pts_oneM (pb_ne rfl hr.units (pd_add (pd_ix rfl (pm_var 4) (pd_fz (pm_var 8)) (fun _ _ => rfl)) (pd_ix rfl (pm_var 4) (pd_sub (pd_sub (pd_mul pd_int (pd_fz (pm_var 0))) pd_int) (pd_fz (pm_var 8))) (fun _ _ => rfl))) (pd_sub (pd_mul pd_int (pd_fz (pm_var 0))) pd_int)))) (fun _ _ _ _ _ => (pd_fz (pm_var 8))))) (pd_fz (pm_lst pa_nilM))) (ps_oneM (ps_retM (pm_up pd_bl))) ps_nilM))))))))
    (ps_consM (ps_setM 6 (pm_up pd_int) sc__law_all_folded.nd)
    (ps_consM (ps_forM PassesOwn.never rfl (pi_rg2M rfl T.b_range (pa_consM pd_int (pa_consM (pd_add (pd_fz (pm_var 0)) pd_int) pa_nilM))) (pg_nameM 7 sc__law_all_folded.nd) (ps_oneM (ps_setM 6 (pm_up (pd_mul (pd_mul (pd_fz (pm_var 6)) pd_int) (pd_fz (pm_var 7)))) sc__law_all_folded.nd)))
    (ps_oneM (ps_retM (pm_up (pd_eq rfl hr.units (pd_len rfl rfl T.b_len (pm_var 2)) (pd_fz (pm_var 6))))))))))
/-! ### _law_plain_right -/
abbrev N__law_plain_right : List Str := ["generator", "size", "plain", "ring", "told", "one", "other"]
theorem sc__law_plain_right : FnScope N__law_plain_right ["generator"] (defScope s__law_plain_right) := ⟨rfl, rfl, rfl, by decide +kernel, rfl, by decide +kernel, by decide +kernel⟩
def b__law_plain_right : MS := (mSeq (mSet 1 (upE (m2 oAdd (cst (.int 2)) (mCG (nAG m__law_random 2) (vr 0) (aCons (cst (.int 4)) aNil)))))
    (mSeq (mPar3 2 3 4 (upE (mC oKind (aCons (cst (.str "plain")) (aCons (fz (vr 1)) aNil)))) (upE (mC oKind (aCons (cst (.str "ring")) (aCons (fz (vr 1)) aNil)))) (upE (mTup (aCons (cst (.str "plain")) (aCons (fz (vr 1)) aNil)))))
    (mSeq (mPar 5 6 (upE (mCG (nAG m__law_order 3) (vr 0) (aCons (fz (vr 4)) (aCons (cst (.int 12)) aNil)))) (upE (mCG (nAG m__law_order 3) (vr 0) (aCons (fz (vr 4)) (aCons (cst (.int 12)) aNil)))))
    (mSeq (mIf (mOr (asB (m2 oNe (mC (nA m_crossings 2) (aCons (fz (vr 2)) (aCons (fz (vr 5)) aNil))) (mC (nA m_crossings 2) (aCons (fz (vr 3)) (aCons (fz (vr 5)) aNil))))) (mOr (asB (m2 oNe (mC (nA m_falls 2) (aCons (fz (vr 2)) (aCons (fz (vr 5)) aNil))) (mC (nA m_falls 2) (aCons (fz (vr 3)) (aCons (fz (vr 5)) aNil))))) (asB (m2 oNe (mC (nA m_opposite 2) (aCons (fz (vr 2)) (aCons (fz (vr 5)) aNil))) (mC (nA m_opposite 2) (aCons (fz (vr 3)) (aCons (fz (vr 5)) aNil))))))) (mRet (upE (cst (.bl false)))) mNil)
    (mSeq (mIf (mOr (asB (m2 oNe (mC (nA m_product 3) (aCons (fz (vr 2)) (aCons (fz (vr 5)) (aCons (fz (vr 6)) aNil)))) (mC (nA m_product 3) (aCons (fz (vr 3)) (aCons (fz (vr 5)) (aCons (fz (vr 6)) aNil)))))) (asB (m2 oNe (mC (nA m_greedy 3) (aCons (fz (vr 2)) (aCons (fz (vr 5)) (aCons (fz (vr 6)) aNil)))) (mC (nA m_greedy 3) (aCons (fz (vr 3)) (aCons (fz (vr 5)) (aCons (fz (vr 6)) aNil))))))) (mRet (upE (cst (.bl false)))) mNil)
    (mSeq (mIf (asB (m2 oNe (mC (nA m_is_beneath 3) (aCons (fz (vr 2)) (aCons (fz (vr 5)) (aCons (fz (vr 6)) aNil)))) (mC (nA m_is_beneath 3) (aCons (fz (vr 3)) (aCons (fz (vr 5)) (aCons (fz (vr 6)) aNil)))))) (mRet (upE (cst (.bl false)))) mNil)
    (mRet (upE (m2 oEq (mC (nA m_power 3) (aCons (fz (vr 2)) (aCons (fz (vr 5)) (aCons (cst (.int 4)) aNil)))) (mC (nA m_power 3) (aCons (fz (vr 3)) (aCons (fz (vr 5)) (aCons (cst (.int 4)) aNil)))))))))))))
theorem mx__law_plain_right : ∃ m : D → List D → Option (D × D), m = fnG 6 b__law_plain_right := ⟨_, rfl⟩
def m__law_plain_right : D → List D → Option (D × D) := mx__law_plain_right.choose
theorem m__law_plain_right_eq : m__law_plain_right = fnG 6 b__law_plain_right := mx__law_plain_right.choose_spec
theorem bi__law_plain_right (T : Tx w K mg) : L2.Binds K T.fd__law_plain_right ["generator"] [] := T.F__law_plain_right.binds fun _ _ _ _ _ _ us hl => match us, hl with | [_], _ => rfl
theorem ok__law_plain_right (T : Tx w K mg) : FnA P w K mg base 9 T.f__law_plain_right T.fd__law_plain_right ["generator"] (spG ⟨P, w, K, T.C⟩ 1 m__law_plain_right) := by
  rw [m__law_plain_right_eq]
  refine okG rfl T.F__law_plain_right sc__law_plain_right rfl (fun cdv A outer s H E G0 io hgd hr => ?_)
  exact (ps_consM (ps_setM 1 (pm_up (pd_add pd_int (pd_callG (ok__law_random T) hgd (hr.mono (by decide)) rfl T.g__law_random T.F__law_random.kp (bi__law_random T) (pm_var 0) (pa_consM pd_int pa_nilM)))) sc__law_plain_right.nd)
    (ps_consM (ps_par3M 2 3 4 rfl sc__law_plain_right.nd (pm_up (pd_mkKind T.mkK (ok_Kind___init__ T) (hr.mono (by decide)) rfl T.g_Kind (bi_Kind___init__ T) (pa_consM pd_str (pa_consM (pd_fz (pm_var 1)) pa_nilM)))) (pm_up (pd_mkKind T.mkK (ok_Kind___init__ T) (hr.mono (by decide)) rfl T.g_Kind (bi_Kind___init__ T) (pa_consM pd_str (pa_consM (pd_fz (pm_var 1)) pa_nilM)))) (pm_up (pd_tup (pa_consM pd_str (pa_consM (pd_fz (pm_var 1)) pa_nilM)))))
    (ps_consM (ps_parM 5 6 rfl sc__law_plain_right.nd (pm_up (pd_callG (ok__law_order T) hgd (hr.mono (by decide)) rfl T.g__law_order T.F__law_order.kp (bi__law_order T) (pm_var 0) (pa_consM (pd_fz (pm_var 4)) (pa_consM pd_int pa_nilM)))) (pm_up (pd_callG (ok__law_order T) hgd (hr.mono (by decide)) rfl T.g__law_order T.F__law_order.kp (bi__law_order T) (pm_var 0) (pa_consM (pd_fz (pm_var 4)) (pa_consM pd_int pa_nilM)))))
    (ps_consM (ps_ifM (PW.pt (pw_or' (pb_ne rfl hr.units (pd_call (ok_crossings T) hgd (hr.mono (by decide)) rfl T.g_crossings T.F_crossings.kp (bi_crossings T) (pa_consM (pd_fz (pm_var 2)) (pa_consM (pd_fz (pm_var 5)) pa_nilM))) (pd_call (ok_crossings T) hgd (hr.mono (by decide)) rfl T.g_crossings T.F_crossings.kp (bi_crossings T) (pa_consM (pd_fz (pm_var 3)) (pa_consM (pd_fz (pm_var 5)) pa_nilM)))) (pw_or' (pb_ne rfl hr.units (pd_call (ok_falls T) hgd (hr.mono (by decide)) rfl T.g_falls T.F_falls.kp (bi_falls T) (pa_consM (pd_fz (pm_var 2)) (pa_consM (pd_fz (pm_var 5)) pa_nilM))) (pd_call (ok_falls T) hgd (hr.mono (by decide)) rfl T.g_falls T.F_falls.kp (bi_falls T) (pa_consM (pd_fz (pm_var 3)) (pa_consM (pd_fz (pm_var 5)) pa_nilM)))) (pw_or1' (pb_ne rfl hr.units (pd_call (ok_opposite T) hgd (hr.mono (by decide)) rfl T.g_opposite T.F_opposite.kp (bi_opposite T) (pa_consM (pd_fz (pm_var 2)) (pa_consM (pd_fz (pm_var 5)) pa_nilM))) (pd_call (ok_opposite T) hgd (hr.mono (by decide)) rfl T.g_opposite T.F_opposite.kp (bi_opposite T) (pa_consM (pd_fz (pm_var 3)) (pa_consM (pd_fz (pm_var 5)) pa_nilM)))))))) (ps_oneM (ps_retM (pm_up pd_bl))) ps_nilM)
    (ps_consM (ps_ifM (PW.pt (pw_or' (pb_ne rfl hr.units (pd_call (ok_product T) hgd (hr.mono (by decide)) rfl T.g_product T.F_product.kp (bi_product T) (pa_consM (pd_fz (pm_var 2)) (pa_consM (pd_fz (pm_var 5)) (pa_consM (pd_fz (pm_var 6)) pa_nilM)))) (pd_call (ok_product T) hgd (hr.mono (by decide)) rfl T.g_product T.F_product.kp (bi_product T) (pa_consM (pd_fz (pm_var 3)) (pa_consM (pd_fz (pm_var 5)) (pa_consM (pd_fz (pm_var 6)) pa_nilM))))) (pw_or1' (pb_ne rfl hr.units (pd_call (ok_greedy T) hgd (hr.mono (by decide)) rfl T.g_greedy T.F_greedy.kp (bi_greedy T) (pa_consM (pd_fz (pm_var 2)) (pa_consM (pd_fz (pm_var 5)) (pa_consM (pd_fz (pm_var 6)) pa_nilM)))) (pd_call (ok_greedy T) hgd (hr.mono (by decide)) rfl T.g_greedy T.F_greedy.kp (bi_greedy T) (pa_consM (pd_fz (pm_var 3)) (pa_consM (pd_fz (pm_var 5)) (pa_consM (pd_fz (pm_var 6)) pa_nilM)))))))) (ps_oneM (ps_retM (pm_up pd_bl))) ps_nilM)
    (ps_consM (ps_ifM (pb_ne rfl hr.units (pd_call (ok_is_beneath T) hgd (hr.mono (by decide)) rfl T.g_is_beneath T.F_is_beneath.kp (bi_is_beneath T) (pa_consM (pd_fz (pm_var 2)) (pa_consM (pd_fz (pm_var 5)) (pa_consM (pd_fz (pm_var 6)) pa_nilM)))) (pd_call (ok_is_beneath T) hgd (hr.mono (by decide)) rfl T.g_is_beneath T.F_is_beneath.kp (bi_is_beneath T) (pa_consM (pd_fz (pm_var 3)) (pa_consM (pd_fz (pm_var 5)) (pa_consM (pd_fz (pm_var 6)) pa_nilM))))) (ps_oneM (ps_retM (pm_up pd_bl))) ps_nilM)
    (ps_oneM (ps_retM (pm_up (pd_eq rfl hr.units (pd_call (ok_power T) hgd (hr.mono (by decide)) rfl T.g_power T.F_power.kp (bi_power T) (pa_consM (pd_fz (pm_var 2)) (pa_consM (pd_fz (pm_var 5)) (pa_consM pd_int pa_nilM)))) (pd_call (ok_power T) hgd (hr.mono (by decide)) rfl T.g_power T.F_power.kp (bi_power T) (pa_consM (pd_fz (pm_var 3)) (pa_consM (pd_fz (pm_var 5)) (pa_consM pd_int pa_nilM))))))))))))))
/-! ### law -/
abbrev N_law : List Str := ["script", "index", "generator", "turn", "size", "order", "found", "at"]
theorem sc_law : FnScope N_law ["script"] (defScope s_law) := ⟨rfl, rfl, rfl, by decide +kernel, rfl, by decide +kernel, by decide +kernel⟩
def b_law : MS := (mSeq (mFor (iRg1 (aCons (cst (.int 3)) aNil)) (gNm 1) (mIf (mOr (mNot (asB (mCG (nAG m__law_mirror_right 1) (mCn (nA m__law_generator 2) (aCons (fz (vr 0)) (aCons (fz (vr 1)) aNil))) aNil))) (mNot (asB (mCG (nAG m__law_plain_right 1) (mCn (nA m__law_generator 2) (aCons (fz (vr 0)) (aCons (m2 oAdd (fz (vr 1)) (cst (.int 3))) aNil))) aNil)))) (mRet (upE (cst (.bl false)))) mNil))
    (mSeq (mSet 2 (mCn (nA m__law_generator 2) (aCons (fz (vr 0)) (aCons (cst (.int 6)) aNil))))
    (mSeq (mFor (iRg1 (aCons (cst (.int 4)) aNil)) (gNm 3) (mSeq (mSet 4 (upE (m2 oAdd (cst (.int 2)) (mCG (nAG m__law_random 2) (vr 2) (aCons (cst (.int 2)) aNil)))))
    (mSeq (mSet 5 (upE (mCG (nAG m__law_order 3) (vr 2) (aCons (mTup (aCons (cst (.str "plain")) (aCons (m2 oMul (cst (.int 2)) (fz (vr 4))) aNil))) (aCons (cst (.int 12)) aNil)))))
    (mSeq (mSet 6 (mCq (nA m_folded 2) (aCons (fz (vr 5)) (aCons (fz (vr 4)) aNil))))
    (mSeq (mIf (asB (m2 oNe (m2 oIsN (fz (vr 6)) (cst .non)) (m2 oNe (fz (mCmp (iRg1 (aCons (fz (vr 4)) aNil)) (gNm 7) (asB (m2 oNe (m2 oAdd (mIx oIx (vr 5) (fz (vr 7))) (mIx oIx (vr 5) (m2 oSub (m2 oSub (m2 oMul (cst (.int 2)) (fz (vr 4))) (cst (.int 1))) (fz (vr 7))))) (m2 oSub (m2 oMul (cst (.int 2)) (fz (vr 4))) (cst (.int 1))))) (fz (vr 7)) [7])) (fz (mLst aNil))))) (mRet (upE (cst (.bl false)))) mNil)
    (mIf (mAnd (asB (m2 oNotN (fz (vr 6)) (cst .non))) (asB (m2 oNe (mC (nA m__law_unfolded 1) (aCons (fz (vr 6)) aNil)) (fz (vr 5))))) (mRet (upE (cst (.bl false)))) mNil))))))
    (mSeq (mIf (mOr (asB (m2 oNotN (fz (mCq (nA m_folded 2) (aCons (fz (mLst (aCons (cst (.int 0)) (aCons (cst (.int 1)) (aCons (cst (.int 2)) (aCons (cst (.int 4)) (aCons (cst (.int 3)) (aCons (cst (.int 5)) aNil)))))))) (aCons (cst (.int 3)) aNil)))) (cst .non))) (asB (m2 oNe (fz (mCq (nA m_folded 2) (aCons (fz (mLst (aCons (cst (.int 5)) (aCons (cst (.int 4)) (aCons (cst (.int 2)) (aCons (cst (.int 3)) (aCons (cst (.int 1)) (aCons (cst (.int 0)) aNil)))))))) (aCons (cst (.int 3)) aNil)))) (fz (mLst (aCons (cst (.int 1)) (aCons (m1 (o1I fun i => -i) (upE (cst (.int 2)))) (aCons (m1 (o1I fun i => -i) (upE (cst (.int 3)))) aNil)))))))) (mRet (upE (cst (.bl false)))) mNil)
    (mSeq (mIf (mOr (mNot (asB (mC (nA m__law_all_folded 1) (aCons (cst (.int 1)) aNil)))) (mNot (asB (mC (nA m__law_all_folded 1) (aCons (cst (.int 2)) aNil))))) (mRet (upE (cst (.bl false)))) mNil)
    (mSeq (mIf (mOr (asB (m2 oNe (fz (mCn (nA m_unfolded 2) (aCons (fz (mLst (aCons (m1 (o1I fun i => -i) (upE (cst (.int 2)))) (aCons (cst (.int 1)) aNil)))) (aCons (cst (.int 2)) aNil)))) (fz (mLst (aCons (cst (.int 1)) (aCons (cst (.int 3)) (aCons (cst (.int 0)) (aCons (cst (.int 2)) aNil)))))))) (mOr (asB (m2 oNe (fz (mCq (nA m_folded 2) (aCons (fz (mLst (aCons (cst (.int 2)) (aCons (cst (.int 0)) (aCons (cst (.int 3)) (aCons (cst (.int 1)) aNil)))))) (aCons (cst (.int 2)) aNil)))) (fz (mLst (aCons (cst (.int 2)) (aCons (m1 (o1I fun i => -i) (upE (cst (.int 1)))) aNil)))))) (asB (m2 oNotN (fz (mCq (nA m_folded 2) (aCons (fz (mLst (aCons (cst (.int 1)) (aCons (cst (.int 0)) (aCons (cst (.int 2)) (aCons (cst (.int 3)) aNil)))))) (aCons (cst (.int 2)) aNil)))) (cst .non))))) (mRet (upE (cst (.bl false)))) mNil)
    (mRet (upE (vAnd (m2 oEq (fz (mCn (nA m_unfolded 2) (aCons (fz (mLst (aCons (m1 (o1I fun i => -i) (upE (cst (.int 1)))) aNil))) (aCons (cst (.int 1)) aNil)))) (fz (mLst (aCons (cst (.int 1)) (aCons (cst (.int 0)) aNil))))) (m2 oEq (fz (mCn (nA m_unfolded 2) (aCons (fz (mLst (aCons (cst (.int 1)) (aCons (cst (.int 2)) (aCons (cst (.int 3)) aNil))))) (aCons (cst (.int 3)) aNil)))) (fz (mLst (aCons (cst (.int 0)) (aCons (cst (.int 1)) (aCons (cst (.int 2)) (aCons (cst (.int 3)) (aCons (cst (.int 4)) (aCons (cst (.int 5)) aNil))))))))))))))))))
theorem mx_law : ∃ m : List D → Option D, m = fnP 7 b_law := ⟨_, rfl⟩
def m_law : List D → Option D := mx_law.choose
theorem m_law_eq : m_law = fnP 7 b_law := mx_law.choose_spec
theorem bi_law (T : Tx w K mg) : L2.Binds K T.fd_law ["script"] [] := T.F_law.binds fun _ _ _ _ _ _ us hl => match us, hl with | [_], _ => rfl
theorem ok_law (T : Tx w K mg) : FnA P w K mg base 10 T.f_law T.fd_law ["script"] (spP ⟨P, w, K, T.C⟩ 1 m_law) := by
  rw [m_law_eq]
  refine okP T.F_law sc_law rfl (fun cdv A outer s H E G0 io hgd hr => ?_)
  exact (ps_consM (ps_forM PassesOwn.never rfl (pi_rg1M rfl T.b_range (pa_consM pd_int pa_nilM)) (pg_nameM 1 sc_law.nd) (ps_oneM (ps_ifM (PW.pt (pw_or' (pb_not (pb_val (pd_callG (ok__law_mirror_right T) hgd (hr.mono (by decide)) rfl T.g__law_mirror_right T.F__law_mirror_right.kp (bi__law_mirror_right T) (pm_callN (ok__law_generator T) hgd (hr.mono (by decide)) rfl T.g__law_generator T.F__law_generator.kp (bi__law_generator T) (pa_consM (pd_fz (pm_var 0)) (pa_consM (pd_fz (pm_var 1)) pa_nilM))) pa_nilM))) (pw_or1' (pb_not (pb_val (pd_callG (ok__law_plain_right T) hgd (hr.mono (by decide)) rfl T.g__law_plain_right T.F__law_plain_right.kp (bi__law_plain_right T) (pm_callN (ok__law_generator T) hgd (hr.mono (by decide)) rfl T.g__law_generator T.F__law_generator.kp (bi__law_generator T) (pa_consM (pd_fz (pm_var 0)) (pa_consM (pd_add (pd_fz (pm_var 1)) pd_int) pa_nilM))) pa_nilM)))))) (ps_oneM (ps_retM (pm_up pd_bl))) ps_nilM)))
    (ps_consM (ps_setM 2 (pm_callN (ok__law_generator T) hgd (hr.mono (by decide)) rfl T.g__law_generator T.F__law_generator.kp (bi__law_generator T) (pa_consM (pd_fz (pm_var 0)) (pa_consM pd_int pa_nilM))) sc_law.nd)
    (ps_consM (ps_forM PassesOwn.never rfl (pi_rg1M rfl T.b_range (pa_consM pd_int pa_nilM)) (pg_nameM 3 sc_law.nd) (ps_consM (ps_setM 4 (pm_up (pd_add pd_int (pd_callG (ok__law_random T) hgd (hr.mono (by decide)) rfl T.g__law_random T.F__law_random.kp (bi__law_random T) (pm_var 2) (pa_consM pd_int pa_nilM)))) sc_law.nd)
    (ps_consM (ps_setM 5 (pm_up (pd_callG (ok__law_order T) hgd (hr.mono (by decide)) rfl T.g__law_order T.F__law_order.kp (bi__law_order T) (pm_var 2) (pa_consM (pd_tup (pa_consM pd_str (pa_consM (pd_mul pd_int (pd_fz (pm_var 4))) pa_nilM))) (pa_consM pd_int pa_nilM)))) sc_law.nd)
    (ps_consM (ps_setM 6 (pm_callQ (ok_folded T) hgd (hr.mono (by decide)) rfl T.g_folded T.F_folded.kp (bi_folded T) (pa_consM (pd_fz (pm_var 5)) (pa_consM (pd_fz (pm_var 4)) pa_nilM))) sc_law.nd)
    (ps_consM (ps_ifM (pb_ne rfl hr.units (pd_isN (pd_fz (pm_var 6)) pd_non) (pd_ne rfl hr.units (pd_fz (pm_lc (own := [("at", 7)]) rfl sc_law.nd (pi_rg1M rfl T.b_range (pa_consM (pd_fz (pm_var 4)) pa_nilM)) (blkOk_by (own := [("at", 7)]) (N := N_law) (sc := defScope s_law) (by decide +kernel)) (fun _ _ _ _ _ => (pg_nameM 7 sc_law.nd)) (fun _ _ _ _ _ => (pts_oneM (pb_ne rfl hr.units (pd_add (pd_ix rfl (pm_var 5) (pd_fz (pm_var 7)) (fun _ _ => rfl)) (pd_ix rfl (pm_var 5) (pd_sub (pd_sub (pd_mul pd_int (pd_fz (pm_var 4))) pd_int) (pd_fz (pm_var 7))) (fun _ _ => rfl))) (pd_sub (pd_mul pd_int (pd_fz (pm_var 4))) pd_int)))) (fun _ _ _ _ _ => (pd_fz (pm_var 7))))) (pd_fz (pm_lst pa_nilM)))) (ps_oneM (ps_retM (pm_up pd_bl))) ps_nilM)
    (ps_oneM (ps_ifM (PW.pt (pw_and' (pb_notN (pd_fz (pm_var 6)) pd_non) (pw_and1' (pb_ne rfl hr.units (pd_call (ok__law_unfolded T) hgd (hr.mono (by decide)) rfl T.g__law_unfolded T.F__law_unfolded.kp (bi__law_unfolded T) (pa_consM (pd_fz (pm_var 6)) pa_nilM)) (pd_fz (pm_var 5)))))) (ps_oneM (ps_retM (pm_up pd_bl))) ps_nilM)))))))
    (ps_consM (ps_ifM (PW.pt (pw_or' (pb_notN (pd_fz (pm_callQ (ok_folded T) hgd (hr.mono (by decide)) rfl T.g_folded T.F_folded.kp (bi_folded T) (pa_consM (pd_fz (pm_lst (pa_consM pd_int (pa_consM pd_int (pa_consM pd_int (pa_consM pd_int (pa_consM pd_int (pa_consM pd_int pa_nilM)))))))) (pa_consM pd_int pa_nilM)))) pd_non) (pw_or1' (pb_ne rfl hr.units (pd_fz (pm_callQ (ok_folded T) hgd (hr.mono (by decide)) rfl T.g_folded T.F_folded.kp (bi_folded T) (pa_consM (pd_fz (pm_lst (pa_consM pd_int (pa_consM pd_int (pa_consM pd_int (pa_consM pd_int (pa_consM pd_int (pa_consM pd_int pa_nilM)))))))) (pa_consM pd_int pa_nilM)))) (pd_fz (pm_lst (pa_consM pd_int (pa_consM (pd_neg (pm_up pd_int)) (pa_consM (pd_neg (pm_up pd_int)) pa_nilM))))))))) (ps_oneM (ps_retM (pm_up pd_bl))) ps_nilM)
    (ps_consM (ps_ifM (PW.pt (pw_or' (pb_not (pb_val (pd_call (ok__law_all_folded T) hgd (hr.mono (by decide)) rfl T.g__law_all_folded T.F__law_all_folded.kp (bi__law_all_folded T) (pa_consM pd_int pa_nilM)))) (pw_or1' (pb_not (pb_val (pd_call (ok__law_all_folded T) hgd (hr.mono (by decide)) rfl T.g__law_all_folded T.F__law_all_folded.kp (bi__law_all_folded T) (pa_consM pd_int pa_nilM))))))) (ps_oneM (ps_retM (pm_up pd_bl))) ps_nilM)
    (ps_consM (ps_ifM (PW.pt (pw_or' (pb_ne rfl hr.units (pd_fz (pm_callN (ok_unfolded T) hgd (hr.mono (by decide)) rfl T.g_unfolded T.F_unfolded.kp (bi_unfolded T) (pa_consM (pd_fz (pm_lst (pa_consM (pd_neg (pm_up pd_int)) (pa_consM pd_int pa_nilM)))) (pa_consM pd_int pa_nilM)))) (pd_fz (pm_lst (pa_consM pd_int (pa_consM pd_int (pa_consM pd_int (pa_consM pd_int pa_nilM))))))) (pw_or' (pb_ne rfl hr.units (pd_fz (pm_callQ (ok_folded T) hgd (hr.mono (by decide)) rfl T.g_folded T.F_folded.kp (bi_folded T) (pa_consM (pd_fz (pm_lst (pa_consM pd_int (pa_consM pd_int (pa_consM pd_int (pa_consM pd_int pa_nilM)))))) (pa_consM pd_int pa_nilM)))) (pd_fz (pm_lst (pa_consM pd_int (pa_consM (pd_neg (pm_up pd_int)) pa_nilM))))) (pw_or1' (pb_notN (pd_fz (pm_callQ (ok_folded T) hgd (hr.mono (by decide)) rfl T.g_folded T.F_folded.kp (bi_folded T) (pa_consM (pd_fz (pm_lst (pa_consM pd_int (pa_consM pd_int (pa_consM pd_int (pa_consM pd_int pa_nilM)))))) (pa_consM pd_int pa_nilM)))) pd_non))))) (ps_oneM (ps_retM (pm_up pd_bl))) ps_nilM)
    (ps_oneM (ps_retM (pm_up (pd_and (pd_eq rfl hr.units (pd_fz (pm_callN (ok_unfolded T) hgd (hr.mono (by decide)) rfl T.g_unfolded T.F_unfolded.kp (bi_unfolded T) (pa_consM (pd_fz (pm_lst (pa_consM (pd_neg (pm_up pd_int)) pa_nilM))) (pa_consM pd_int pa_nilM)))) (pd_fz (pm_lst (pa_consM pd_int (pa_consM pd_int pa_nilM))))) (pd_one (pd_eq rfl hr.units (pd_fz (pm_callN (ok_unfolded T) hgd (hr.mono (by decide)) rfl T.g_unfolded T.F_unfolded.kp (bi_unfolded T) (pa_consM (pd_fz (pm_lst (pa_consM pd_int (pa_consM pd_int (pa_consM pd_int pa_nilM))))) (pa_consM pd_int pa_nilM)))) (pd_fz (pm_lst (pa_consM pd_int (pa_consM pd_int (pa_consM pd_int (pa_consM pd_int (pa_consM pd_int (pa_consM pd_int pa_nilM))))))))))))))))))))
end
/-! ### the end -/
theorem all_of {l : PySem.W.OpenLaw} {w : World} {K : PySem.W.Frag} {h : Heap} {mg : Str → Option Value} {fa C f bd : Addr} {oc kV dc pm cd ct : Value} {od an : Option Addr} {sl : Array (Option Value)} {t_MOST_CROSSINGS : Tok} {t_MOST_SIZE : Tok} {t_MOST_COUNT : Tok} {t_MOST_ASKED : Tok} {t_MOST_LISTED : Tok} (X : K.In h) (G : h.Ns mainGlobals mg) (hfa : mg "law" = some (.ref fa))
    (a_law : PySem.W.nsIn K mainGlobals "law" = some (some (.ref f))) (l_law : K.lookup f = some ⟨oc, od, .func (PySem.W.fnOf "law" "law" (defArgs s_law) (defBody s_law) (defScope s_law) .none kV dc pm an cd ct), sl⟩) (c_law : PySem.W.codeIn K cd "law" = true) (k_law : PySem.W.keepIn K (.ref f) = true)
    (d_is_whole : DefAt K "is_whole" s_is_whole)
    (d_is_between : DefAt K "is_between" s_is_between)
    (d_check_number : DefAt K "check_number" s_check_number)
    (d_check_kind : DefAt K "check_kind" s_check_kind)
    (d_is_crossed : DefAt K "is_crossed" s_is_crossed)
    (d_by_step : DefAt K "by_step" s_by_step)
    (d_item_at : DefAt K "item_at" s_item_at)
    (d_product_of : DefAt K "product_of" s_product_of)
    (d_opposite_of : DefAt K "opposite_of" s_opposite_of)
    (d_falls_of : DefAt K "falls_of" s_falls_of)
    (d_crossings_between : DefAt K "crossings_between" s_crossings_between)
    (d_crossings_of : DefAt K "crossings_of" s_crossings_of)
    (d_is_order_list : DefAt K "is_order_list" s_is_order_list)
    (d_is_let_order : DefAt K "is_let_order" s_is_let_order)
    (d_check_order : DefAt K "check_order" s_check_order)
    (d_unfolded : DefAt K "unfolded" s_unfolded)
    (d_folded : DefAt K "folded" s_folded)
    (d_least_row_of : DefAt K "least_row_of" s_least_row_of)
    (d_check_two_orders : DefAt K "check_two_orders" s_check_two_orders)
    (d_lesser : DefAt K "lesser" s_lesser)
    (d_check_orders : DefAt K "check_orders" s_check_orders)
    (d_falls : DefAt K "falls" s_falls)
    (d_is_below : DefAt K "is_below" s_is_below)
    (d_is_beneath : DefAt K "is_beneath" s_is_beneath)
    (d_check_one : DefAt K "check_one" s_check_one)
    (d_check_two : DefAt K "check_two" s_check_two)
    (d_gain : DefAt K "gain" s_gain)
    (d_gained_all : DefAt K "gained_all" s_gained_all)
    (d_greedy_of : DefAt K "greedy_of" s_greedy_of)
    (d_greedy : DefAt K "greedy" s_greedy)
    (d_power : DefAt K "power" s_power)
    (d_crossings : DefAt K "crossings" s_crossings)
    (d_opposite : DefAt K "opposite" s_opposite)
    (d_product : DefAt K "product" s_product)
    (d_multiplied : DefAt K "multiplied" s_multiplied)
    (d_numbers_to : DefAt K "numbers_to" s_numbers_to)
    (d_how_many_orders : DefAt K "how_many_orders" s_how_many_orders)
    (d_orders_with : DefAt K "orders_with" s_orders_with)
    (d__law_hash : DefAt K "_law_hash" s__law_hash)
    (d__law_random : DefAt K "_law_random" s__law_random)
    (d__law_cell : DefAt K "_law_cell" s__law_cell)
    (d__law_generator : DefAt K "_law_generator" s__law_generator)
    (d__law_start : DefAt K "_law_start" s__law_start)
    (d__law_steps : DefAt K "_law_steps" s__law_steps)
    (d__law_two : DefAt K "_law_two" s__law_two)
    (d__law_crossed : DefAt K "_law_crossed" s__law_crossed)
    (d__law_stepped : DefAt K "_law_stepped" s__law_stepped)
    (d__law_gains : DefAt K "_law_gains" s__law_gains)
    (d__law_row : DefAt K "_law_row" s__law_row)
    (d__law_order : DefAt K "_law_order" s__law_order)
    (d__law_unfolded : DefAt K "_law_unfolded" s__law_unfolded)
    (d__law_mirror_right : DefAt K "_law_mirror_right" s__law_mirror_right)
    (d__law_all_folded : DefAt K "_law_all_folded" s__law_all_folded)
    (d__law_plain_right : DefAt K "_law_plain_right" s__law_plain_right)
    (d_Kind___init__ : MethAt K C "__init__" "Kind.__init__" s_Kind___init__)
    (d_Kind_name : MethAt K C "name" "Kind.name" s_Kind_name)
    (d_Kind_size : MethAt K C "size" "Kind.size" s_Kind_size)
    (d_Kind_steps : MethAt K C "steps" "Kind.steps" s_Kind_steps)
    (d_Kind_start : MethAt K C "start" "Kind.start" s_Kind_start)
    (a_Kind : PySem.W.nsIn K mainGlobals "Kind" = some (some (.ref C))) (pg : PySem.W.plainGet K C Str.empty = true) (hd : PySem.W.hasDictIn K C = true) (po : PySem.W.plainOver K C = true) (sa : PySem.W.findIn K (.ref C) "__setattr__" = some (some (.builtin "object.__setattr__"))) (n1 : PySem.W.findIn K (.ref C) "_name" = some none) (n2 : PySem.W.findIn K (.ref C) "_size" = some none) (q1 : PySem.W.findIn K (.ref C) "__class__" = some (some (.builtin "object.__class__"))) (q2 : PySem.W.specialIn K (.builtin "object.__class__") "__get__" = some (some (.builtin "getset_descriptor.__get__"))) (q3 : PySem.W.takesIn K (.builtin "object.__class__") = some true) (q4 : PySem.W.mroIn K C (.type "object") = some true) (mk : PySem.W.makesIn K C = true) (kc : PySem.W.keepIn K (.ref C) = true)
    (a_B : PySem.W.nsIn K mainGlobals "BOUNDS" = some (some (.ref bd))) (bnd : Bnds K w bd)
    (z_abs : PySem.W.nsIn K mainGlobals "abs" = some none)
    (z_bool : PySem.W.nsIn K mainGlobals "bool" = some none)
    (z_enumerate : PySem.W.nsIn K mainGlobals "enumerate" = some none)
    (z_int : PySem.W.nsIn K mainGlobals "int" = some none)
    (z_isinstance : PySem.W.nsIn K mainGlobals "isinstance" = some none)
    (z_len : PySem.W.nsIn K mainGlobals "len" = some none)
    (z_list : PySem.W.nsIn K mainGlobals "list" = some none)
    (z_max : PySem.W.nsIn K mainGlobals "max" = some none)
    (z_range : PySem.W.nsIn K mainGlobals "range" = some none)
    (z_reversed : PySem.W.nsIn K mainGlobals "reversed" = some none)
    (z_sorted : PySem.W.nsIn K mainGlobals "sorted" = some none)
    (z_str : PySem.W.nsIn K mainGlobals "str" = some none)
    (z_sum : PySem.W.nsIn K mainGlobals "sum" = some none)
    (z_tuple : PySem.W.nsIn K mainGlobals "tuple" = some none)
    (c_MOST_CROSSINGS : PySem.W.nsIn K mainGlobals "MOST_CROSSINGS" = some (some (.int 60 t_MOST_CROSSINGS)))
    (c_MOST_SIZE : PySem.W.nsIn K mainGlobals "MOST_SIZE" = some (some (.int 3 t_MOST_SIZE)))
    (c_MOST_COUNT : PySem.W.nsIn K mainGlobals "MOST_COUNT" = some (some (.int 1000 t_MOST_COUNT)))
    (c_MOST_ASKED : PySem.W.nsIn K mainGlobals "MOST_ASKED" = some (some (.int 200 t_MOST_ASKED)))
    (c_MOST_LISTED : PySem.W.nsIn K mainGlobals "MOST_LISTED" = some (some (.int 1000 t_MOST_LISTED)))
    : ∃ fd : FuncData, (∀ (s : Shared) (u : Value), BindsTo s fd ⟨[u], []⟩ [("script", u)]) ∧ ∃ C : Addr, ∀ base : Heap, K.In base → base.Ns mainGlobals mg → FnA l.prog w K mg base 10 fa fd ["script"] (spP ⟨l.prog, w, K, C⟩ 1 m_law) := by
  have e := hfa.symm.trans (PySem.W.mg_of X G a_law)
  cases e
  have F_law := fun_mk (st := s_law) l_law c_law k_law
  obtain ⟨f_is_whole, fd_is_whole, F_is_whole, a_is_whole⟩ := d_is_whole
  obtain ⟨f_is_between, fd_is_between, F_is_between, a_is_between⟩ := d_is_between
  obtain ⟨f_check_number, fd_check_number, F_check_number, a_check_number⟩ := d_check_number
  obtain ⟨f_check_kind, fd_check_kind, F_check_kind, a_check_kind⟩ := d_check_kind
  obtain ⟨f_is_crossed, fd_is_crossed, F_is_crossed, a_is_crossed⟩ := d_is_crossed
  obtain ⟨f_by_step, fd_by_step, F_by_step, a_by_step⟩ := d_by_step
  obtain ⟨f_item_at, fd_item_at, F_item_at, a_item_at⟩ := d_item_at
  obtain ⟨f_product_of, fd_product_of, F_product_of, a_product_of⟩ := d_product_of
  obtain ⟨f_opposite_of, fd_opposite_of, F_opposite_of, a_opposite_of⟩ := d_opposite_of
  obtain ⟨f_falls_of, fd_falls_of, F_falls_of, a_falls_of⟩ := d_falls_of
  obtain ⟨f_crossings_between, fd_crossings_between, F_crossings_between, a_crossings_between⟩ := d_crossings_between
  obtain ⟨f_crossings_of, fd_crossings_of, F_crossings_of, a_crossings_of⟩ := d_crossings_of
  obtain ⟨f_is_order_list, fd_is_order_list, F_is_order_list, a_is_order_list⟩ := d_is_order_list
  obtain ⟨f_is_let_order, fd_is_let_order, F_is_let_order, a_is_let_order⟩ := d_is_let_order
  obtain ⟨f_check_order, fd_check_order, F_check_order, a_check_order⟩ := d_check_order
  obtain ⟨f_unfolded, fd_unfolded, F_unfolded, a_unfolded⟩ := d_unfolded
  obtain ⟨f_folded, fd_folded, F_folded, a_folded⟩ := d_folded
  obtain ⟨f_least_row_of, fd_least_row_of, F_least_row_of, a_least_row_of⟩ := d_least_row_of
  obtain ⟨f_check_two_orders, fd_check_two_orders, F_check_two_orders, a_check_two_orders⟩ := d_check_two_orders
  obtain ⟨f_lesser, fd_lesser, F_lesser, a_lesser⟩ := d_lesser
  obtain ⟨f_check_orders, fd_check_orders, F_check_orders, a_check_orders⟩ := d_check_orders
  obtain ⟨f_falls, fd_falls, F_falls, a_falls⟩ := d_falls
  obtain ⟨f_is_below, fd_is_below, F_is_below, a_is_below⟩ := d_is_below
  obtain ⟨f_is_beneath, fd_is_beneath, F_is_beneath, a_is_beneath⟩ := d_is_beneath
  obtain ⟨f_check_one, fd_check_one, F_check_one, a_check_one⟩ := d_check_one
  obtain ⟨f_check_two, fd_check_two, F_check_two, a_check_two⟩ := d_check_two
  obtain ⟨f_gain, fd_gain, F_gain, a_gain⟩ := d_gain
  obtain ⟨f_gained_all, fd_gained_all, F_gained_all, a_gained_all⟩ := d_gained_all
  obtain ⟨f_greedy_of, fd_greedy_of, F_greedy_of, a_greedy_of⟩ := d_greedy_of
  obtain ⟨f_greedy, fd_greedy, F_greedy, a_greedy⟩ := d_greedy
  obtain ⟨f_power, fd_power, F_power, a_power⟩ := d_power
  obtain ⟨f_crossings, fd_crossings, F_crossings, a_crossings⟩ := d_crossings
  obtain ⟨f_opposite, fd_opposite, F_opposite, a_opposite⟩ := d_opposite
  obtain ⟨f_product, fd_product, F_product, a_product⟩ := d_product
  obtain ⟨f_multiplied, fd_multiplied, F_multiplied, a_multiplied⟩ := d_multiplied
  obtain ⟨f_numbers_to, fd_numbers_to, F_numbers_to, a_numbers_to⟩ := d_numbers_to
  obtain ⟨f_how_many_orders, fd_how_many_orders, F_how_many_orders, a_how_many_orders⟩ := d_how_many_orders
  obtain ⟨f_orders_with, fd_orders_with, F_orders_with, a_orders_with⟩ := d_orders_with
  obtain ⟨f__law_hash, fd__law_hash, F__law_hash, a__law_hash⟩ := d__law_hash
  obtain ⟨f__law_random, fd__law_random, F__law_random, a__law_random⟩ := d__law_random
  obtain ⟨f__law_cell, fd__law_cell, F__law_cell, a__law_cell⟩ := d__law_cell
  obtain ⟨f__law_generator, fd__law_generator, F__law_generator, a__law_generator⟩ := d__law_generator
  obtain ⟨f__law_start, fd__law_start, F__law_start, a__law_start⟩ := d__law_start
  obtain ⟨f__law_steps, fd__law_steps, F__law_steps, a__law_steps⟩ := d__law_steps
  obtain ⟨f__law_two, fd__law_two, F__law_two, a__law_two⟩ := d__law_two
  obtain ⟨f__law_crossed, fd__law_crossed, F__law_crossed, a__law_crossed⟩ := d__law_crossed
  obtain ⟨f__law_stepped, fd__law_stepped, F__law_stepped, a__law_stepped⟩ := d__law_stepped
  obtain ⟨f__law_gains, fd__law_gains, F__law_gains, a__law_gains⟩ := d__law_gains
  obtain ⟨f__law_row, fd__law_row, F__law_row, a__law_row⟩ := d__law_row
  obtain ⟨f__law_order, fd__law_order, F__law_order, a__law_order⟩ := d__law_order
  obtain ⟨f__law_unfolded, fd__law_unfolded, F__law_unfolded, a__law_unfolded⟩ := d__law_unfolded
  obtain ⟨f__law_mirror_right, fd__law_mirror_right, F__law_mirror_right, a__law_mirror_right⟩ := d__law_mirror_right
  obtain ⟨f__law_all_folded, fd__law_all_folded, F__law_all_folded, a__law_all_folded⟩ := d__law_all_folded
  obtain ⟨f__law_plain_right, fd__law_plain_right, F__law_plain_right, a__law_plain_right⟩ := d__law_plain_right
  obtain ⟨f_Kind___init__, fd_Kind___init__, F_Kind___init__, a_Kind___init__, i_Kind___init__⟩ := d_Kind___init__
  obtain ⟨f_Kind_name, fd_Kind_name, F_Kind_name, a_Kind_name, i_Kind_name⟩ := d_Kind_name
  obtain ⟨f_Kind_size, fd_Kind_size, F_Kind_size, a_Kind_size, i_Kind_size⟩ := d_Kind_size
  obtain ⟨f_Kind_steps, fd_Kind_steps, F_Kind_steps, a_Kind_steps, i_Kind_steps⟩ := d_Kind_steps
  obtain ⟨f_Kind_start, fd_Kind_start, F_Kind_start, a_Kind_start, i_Kind_start⟩ := d_Kind_start
  let T : Tx w K mg := { C := C, g_Kind := PySem.W.mg_of X G a_Kind, cl := ⟨pg, hd, po, sa⟩, n_name := n1, n_size := n2, kis := ⟨q1, q2, q3, q4, kit_self C⟩, bndA := bd, g_BOUNDS := PySem.W.mg_of X G a_B, bnd := bnd, f_is_whole := f_is_whole, fd_is_whole := fd_is_whole, F_is_whole := F_is_whole, g_is_whole := PySem.W.mg_of X G a_is_whole, f_is_between := f_is_between, fd_is_between := fd_is_between, F_is_between := F_is_between, g_is_between := PySem.W.mg_of X G a_is_between, f_check_number := f_check_number, fd_check_number := fd_check_number, F_check_number := F_check_number, g_check_number := PySem.W.mg_of X G a_check_number, f_Kind___init__ := f_Kind___init__, fd_Kind___init__ := fd_Kind___init__, F_Kind___init__ := F_Kind___init__, mkK := ⟨mk, a_Kind___init__, i_Kind___init__, kc⟩, f_Kind_name := f_Kind_name, fd_Kind_name := fd_Kind_name, F_Kind_name := F_Kind_name, k_name := ⟨a_Kind_name, i_Kind_name, F_Kind_name.kp⟩, f_Kind_size := f_Kind_size, fd_Kind_size := fd_Kind_size, F_Kind_size := F_Kind_size, k_size := ⟨a_Kind_size, i_Kind_size, F_Kind_size.kp⟩, f_Kind_steps := f_Kind_steps, fd_Kind_steps := fd_Kind_steps, F_Kind_steps := F_Kind_steps, k_steps := ⟨a_Kind_steps, i_Kind_steps, F_Kind_steps.kp⟩, f_Kind_start := f_Kind_start, fd_Kind_start := fd_Kind_start, F_Kind_start := F_Kind_start, k_start := ⟨a_Kind_start, i_Kind_start, F_Kind_start.kp⟩, f_check_kind := f_check_kind, fd_check_kind := fd_check_kind, F_check_kind := F_check_kind, g_check_kind := PySem.W.mg_of X G a_check_kind, f_is_crossed := f_is_crossed, fd_is_crossed := fd_is_crossed, F_is_crossed := F_is_crossed, g_is_crossed := PySem.W.mg_of X G a_is_crossed, f_by_step := f_by_step, fd_by_step := fd_by_step, F_by_step := F_by_step, g_by_step := PySem.W.mg_of X G a_by_step, f_item_at := f_item_at, fd_item_at := fd_item_at, F_item_at := F_item_at, g_item_at := PySem.W.mg_of X G a_item_at, f_product_of := f_product_of, fd_product_of := fd_product_of, F_product_of := F_product_of, g_product_of := PySem.W.mg_of X G a_product_of, f_opposite_of := f_opposite_of, fd_opposite_of := fd_opposite_of, F_opposite_of := F_opposite_of, g_opposite_of := PySem.W.mg_of X G a_opposite_of, f_falls_of := f_falls_of, fd_falls_of := fd_falls_of, F_falls_of := F_falls_of, g_falls_of := PySem.W.mg_of X G a_falls_of, f_crossings_between := f_crossings_between, fd_crossings_between := fd_crossings_between, F_crossings_between := F_crossings_between, g_crossings_between := PySem.W.mg_of X G a_crossings_between, f_crossings_of := f_crossings_of, fd_crossings_of := fd_crossings_of, F_crossings_of := F_crossings_of, g_crossings_of := PySem.W.mg_of X G a_crossings_of, f_is_order_list := f_is_order_list, fd_is_order_list := fd_is_order_list, F_is_order_list := F_is_order_list, g_is_order_list := PySem.W.mg_of X G a_is_order_list, f_is_let_order := f_is_let_order, fd_is_let_order := fd_is_let_order, F_is_let_order := F_is_let_order, g_is_let_order := PySem.W.mg_of X G a_is_let_order, f_check_order := f_check_order, fd_check_order := fd_check_order, F_check_order := F_check_order, g_check_order := PySem.W.mg_of X G a_check_order, f_unfolded := f_unfolded, fd_unfolded := fd_unfolded, F_unfolded := F_unfolded, g_unfolded := PySem.W.mg_of X G a_unfolded, f_folded := f_folded, fd_folded := fd_folded, F_folded := F_folded, g_folded := PySem.W.mg_of X G a_folded, f_least_row_of := f_least_row_of, fd_least_row_of := fd_least_row_of, F_least_row_of := F_least_row_of, g_least_row_of := PySem.W.mg_of X G a_least_row_of, f_check_two_orders := f_check_two_orders, fd_check_two_orders := fd_check_two_orders, F_check_two_orders := F_check_two_orders, g_check_two_orders := PySem.W.mg_of X G a_check_two_orders, f_lesser := f_lesser, fd_lesser := fd_lesser, F_lesser := F_lesser, g_lesser := PySem.W.mg_of X G a_lesser, f_check_orders := f_check_orders, fd_check_orders := fd_check_orders, F_check_orders := F_check_orders, g_check_orders := PySem.W.mg_of X G a_check_orders, f_falls := f_falls, fd_falls := fd_falls, F_falls := F_falls, g_falls := PySem.W.mg_of X G a_falls, f_is_below := f_is_below, fd_is_below := fd_is_below, F_is_below := F_is_below, g_is_below := PySem.W.mg_of X G a_is_below, f_is_beneath := f_is_beneath, fd_is_beneath := fd_is_beneath, F_is_beneath := F_is_beneath, g_is_beneath := PySem.W.mg_of X G a_is_beneath, f_check_one := f_check_one, fd_check_one := fd_check_one, F_check_one := F_check_one, g_check_one := PySem.W.mg_of X G a_check_one, f_check_two := f_check_two, fd_check_two := fd_check_two, F_check_two := F_check_two, g_check_two := PySem.W.mg_of X G a_check_two, f_gain := f_gain, fd_gain := fd_gain, F_gain := F_gain, g_gain := PySem.W.mg_of X G a_gain, f_gained_all := f_gained_all, fd_gained_all := fd_gained_all, F_gained_all := F_gained_all, g_gained_all := PySem.W.mg_of X G a_gained_all, f_greedy_of := f_greedy_of, fd_greedy_of := fd_greedy_of, F_greedy_of := F_greedy_of, g_greedy_of := PySem.W.mg_of X G a_greedy_of, f_greedy := f_greedy, fd_greedy := fd_greedy, F_greedy := F_greedy, g_greedy := PySem.W.mg_of X G a_greedy, f_power := f_power, fd_power := fd_power, F_power := F_power, g_power := PySem.W.mg_of X G a_power, f_crossings := f_crossings, fd_crossings := fd_crossings, F_crossings := F_crossings, g_crossings := PySem.W.mg_of X G a_crossings, f_opposite := f_opposite, fd_opposite := fd_opposite, F_opposite := F_opposite, g_opposite := PySem.W.mg_of X G a_opposite, f_product := f_product, fd_product := fd_product, F_product := F_product, g_product := PySem.W.mg_of X G a_product, f_multiplied := f_multiplied, fd_multiplied := fd_multiplied, F_multiplied := F_multiplied, g_multiplied := PySem.W.mg_of X G a_multiplied, f_numbers_to := f_numbers_to, fd_numbers_to := fd_numbers_to, F_numbers_to := F_numbers_to, g_numbers_to := PySem.W.mg_of X G a_numbers_to, f_how_many_orders := f_how_many_orders, fd_how_many_orders := fd_how_many_orders, F_how_many_orders := F_how_many_orders, g_how_many_orders := PySem.W.mg_of X G a_how_many_orders, f_orders_with := f_orders_with, fd_orders_with := fd_orders_with, F_orders_with := F_orders_with, g_orders_with := PySem.W.mg_of X G a_orders_with, f__law_hash := f__law_hash, fd__law_hash := fd__law_hash, F__law_hash := F__law_hash, g__law_hash := PySem.W.mg_of X G a__law_hash, f__law_random := f__law_random, fd__law_random := fd__law_random, F__law_random := F__law_random, g__law_random := PySem.W.mg_of X G a__law_random, f__law_cell := f__law_cell, fd__law_cell := fd__law_cell, F__law_cell := F__law_cell, g__law_cell := PySem.W.mg_of X G a__law_cell, f__law_generator := f__law_generator, fd__law_generator := fd__law_generator, F__law_generator := F__law_generator, g__law_generator := PySem.W.mg_of X G a__law_generator, f__law_start := f__law_start, fd__law_start := fd__law_start, F__law_start := F__law_start, g__law_start := PySem.W.mg_of X G a__law_start, f__law_steps := f__law_steps, fd__law_steps := fd__law_steps, F__law_steps := F__law_steps, g__law_steps := PySem.W.mg_of X G a__law_steps, f__law_two := f__law_two, fd__law_two := fd__law_two, F__law_two := F__law_two, g__law_two := PySem.W.mg_of X G a__law_two, f__law_crossed := f__law_crossed, fd__law_crossed := fd__law_crossed, F__law_crossed := F__law_crossed, g__law_crossed := PySem.W.mg_of X G a__law_crossed, f__law_stepped := f__law_stepped, fd__law_stepped := fd__law_stepped, F__law_stepped := F__law_stepped, g__law_stepped := PySem.W.mg_of X G a__law_stepped, f__law_gains := f__law_gains, fd__law_gains := fd__law_gains, F__law_gains := F__law_gains, g__law_gains := PySem.W.mg_of X G a__law_gains, f__law_row := f__law_row, fd__law_row := fd__law_row, F__law_row := F__law_row, g__law_row := PySem.W.mg_of X G a__law_row, f__law_order := f__law_order, fd__law_order := fd__law_order, F__law_order := F__law_order, g__law_order := PySem.W.mg_of X G a__law_order, f__law_unfolded := f__law_unfolded, fd__law_unfolded := fd__law_unfolded, F__law_unfolded := F__law_unfolded, g__law_unfolded := PySem.W.mg_of X G a__law_unfolded, f__law_mirror_right := f__law_mirror_right, fd__law_mirror_right := fd__law_mirror_right, F__law_mirror_right := F__law_mirror_right, g__law_mirror_right := PySem.W.mg_of X G a__law_mirror_right, f__law_all_folded := f__law_all_folded, fd__law_all_folded := fd__law_all_folded, F__law_all_folded := F__law_all_folded, g__law_all_folded := PySem.W.mg_of X G a__law_all_folded, f__law_plain_right := f__law_plain_right, fd__law_plain_right := fd__law_plain_right, F__law_plain_right := F__law_plain_right, g__law_plain_right := PySem.W.mg_of X G a__law_plain_right, f_law := _, fd_law := _, F_law := F_law, g_law := hfa, b_abs := PySem.W.mg_none_of X G z_abs, b_bool := PySem.W.mg_none_of X G z_bool, b_enumerate := PySem.W.mg_none_of X G z_enumerate, b_int := PySem.W.mg_none_of X G z_int, b_isinstance := PySem.W.mg_none_of X G z_isinstance, b_len := PySem.W.mg_none_of X G z_len, b_list := PySem.W.mg_none_of X G z_list, b_max := PySem.W.mg_none_of X G z_max, b_range := PySem.W.mg_none_of X G z_range, b_reversed := PySem.W.mg_none_of X G z_reversed, b_sorted := PySem.W.mg_none_of X G z_sorted, b_str := PySem.W.mg_none_of X G z_str, b_sum := PySem.W.mg_none_of X G z_sum, b_tuple := PySem.W.mg_none_of X G z_tuple, c_MOST_CROSSINGS := ⟨_, PySem.W.mg_of X G c_MOST_CROSSINGS⟩, c_MOST_SIZE := ⟨_, PySem.W.mg_of X G c_MOST_SIZE⟩, c_MOST_COUNT := ⟨_, PySem.W.mg_of X G c_MOST_COUNT⟩, c_MOST_ASKED := ⟨_, PySem.W.mg_of X G c_MOST_ASKED⟩, c_MOST_LISTED := ⟨_, PySem.W.mg_of X G c_MOST_LISTED⟩ }
  exact ⟨_, fun s v => .of_eq rfl, C, fun base _ _ => ok_law T⟩
end M
/-! V1: what the small defs compute. -/
namespace M
open PySem PySem.Spec PyProof.Rows L2
theorem e_is_whole (z : Int) : m_is_whole [.int z] = some (.bl true) := rfl
theorem e_is_between (z lo hi : Int) : m_is_between [.int z, .int lo, .int hi] = some (.bl (decide (lo ≤ z) && decide (z ≤ hi))) := by
  cases h : decide (lo ≤ z) <;> simp [m_is_between, b_is_between, e_is_whole, h]
theorem e_is_betweenN (z lo : Int) : m_is_between [.int z, .int lo, .non] = some (.bl (decide (lo ≤ z))) := by
  cases h : decide (lo ≤ z) <;> simp [m_is_between, b_is_between, e_is_whole, h]
theorem e_check_number {z lo hi : Int} (h1 : lo ≤ z) (h2 : z ≤ hi) : m_check_number [.int z, .int lo, .int hi] = some .non := by
  simp [m_check_number, b_check_number, e_is_between, h1, h2]
theorem e_check_numberN {z lo : Int} (h1 : lo ≤ z) : m_check_number [.int z, .int lo, .non] = some .non := by
  simp [m_check_number, b_check_number, e_is_betweenN, h1]
@[simp] theorem e_name (n : Str) (z : Int) : m_Kind_name [.kd n z] = some (.str n) := by
  simp [m_Kind_name, b_Kind_name]
@[simp] theorem e_size (n : Str) (z : Int) : m_Kind_size [.kd n z] = some (.int z) := by
  simp [m_Kind_size, b_Kind_size]
theorem e_check_kind (n : Str) (z : Int) : m_check_kind [.kd n z] = some .non := by
  simp [m_check_kind, b_check_kind, oIsi, isiKind]
@[simp] theorem e_steps (k : Kd) (z : Int) : m_Kind_steps [.kd k.nm z] = some (.int (z - if k = .plain then 1 else 0)) := by
  simp [m_Kind_steps, b_Kind_steps]
theorem rgOk_small {a b : Int} (h1 : 0 ≤ a) (h2 : a ≤ 1000) (h3 : 0 ≤ b) (h4 : b ≤ 100000) : rgOk a b = true := by
  unfold rgOk
  exact decide_eq_true ⟨by omega, by omega, by omega, by omega, by omega⟩
@[simp] theorem ev_mLR2 {ρ : Rho} {fa fb : MD} : mLR2 fa fb ρ = (fa ρ).bind fun p => (fb p.2).bind fun q => match p.1, q.1 with
  | .int i, .int j => if rgOk i j = true then some (.new (.lst (rgD i (j - i).toNat)), q.2) else none
  | _, _ => none := Eq.trans rfl rfl
theorem e_start (k : Kd) (z : Int) (h0 : 0 ≤ z) (h1 : z ≤ 100) : m_Kind_start [.kd k.nm z] = some (.lst (rgD (st0 k) z.toNat)) := by
  have hr : rgOk (st0 k) (st0 k + z) = true := by unfold st0; split <;> exact rgOk_small (by omega) (by omega) (by omega) (by omega)
  have e : st0 k = (if k = .mirror then 1 else 0) := rfl
  simp [m_Kind_start, b_Kind_start, ← e, hr]
  rw [show st0 k + z - st0 k = z by omega]
end M
/-! V2: orders: crossings of a step, steps, items. -/
namespace M
open PySem PySem.Spec PyProof.Rows L2
abbrev il (w : List Int) : D := .lst (w.map D.int)
theorem at_il {w : List Int} {i : Int} (h0 : 0 ≤ i) (h1 : i < w.length) : oIx (il w) (.int i) = some (.int (gt w i)) := by
  show L2.atI (w.map D.int) i = _
  unfold L2.atI L2.ixN gt
  have hn : i.toNat < w.length := by omega
  rw [if_pos h0, List.length_map, if_pos h1, Option.bind_some, List.getElem?_map, List.getElem?_eq_getElem hn, List.getD_eq_getElem?_getD, List.getElem?_eq_getElem hn]
  rfl
@[simp] theorem len_il (w : List Int) : oLen (il w) = some (.int w.length) := by
  show some (D.int ((w.map D.int).length : Nat)) = _
  rw [List.length_map]
theorem e_is_crossed {k : Kd} {z : Int} {w : List Int} {s : Int} (h0 : 0 ≤ s) (h1 : s < nst k w.length) : m_is_crossed [.kd k.nm z, il w, .int s] = some (.bl (xd k w s)) := by
  cases k with
  | plain =>
    have h1 : s < (w.length : Int) - 1 := h1
    simp [m_is_crossed_eq, b_is_crossed, xd, at_il (w := w) (i := s) h0 (by omega), at_il (w := w) (i := s + 1) (by omega) (by omega)]
  | mirror =>
    have h1 : s < (w.length : Int) := h1
    by_cases hs : s = 0
    · subst hs
      simp [m_is_crossed_eq, b_is_crossed, xd, at_il (w := w) (i := 0) (by omega) (by omega)]
    · simp [m_is_crossed_eq, b_is_crossed, xd, hs, at_il (w := w) (i := s) h0 (by omega), at_il (w := w) (i := s - 1) (by omega) (by omega)]
  | ring =>
    have h1 : s < (w.length : Int) := h1
    by_cases hs : s = (w.length : Int) - 1
    · simp [m_is_crossed_eq, b_is_crossed, xd, hs, at_il (w := w) (i := (w.length : Int) - 1) (by omega) (by omega), at_il (w := w) (i := 0) (by omega) (by omega)]
    · simp [m_is_crossed_eq, b_is_crossed, xd, hs, at_il (w := w) (i := s) h0 (by omega), at_il (w := w) (i := s + 1) (by omega) (by omega)]
/-! ### by_step -/
@[simp] theorem ev_gSubL {f : ME} {g : MD} {d : D} {ρ : Rho} : gSubL f g d ρ = (f ρ).bind fun p => (g p.2).bind fun q => chg p.1 q.2 (oSet q.1 d) := Eq.trans rfl rfl
@[simp] theorem ev_gPr {s t : MG} {x y : D} {ρ : Rho} : gPr s t (.tup [x, y]) ρ = (s x ρ).bind fun r => t y r := Eq.trans rfl rfl
@[simp] theorem ev_chg {i : Nat} {ρ : Rho} {o : D → Option D} : chg (.bor i) ρ o = (ρ[i]?).bind fun s => (mutS s).bind fun d => (o d).map fun d' => ρ.set i (putS s d') := Eq.trans rfl rfl
@[simp] theorem ev_okLen2 {a b : D} : okLen [a, b] = true := by
  unfold okLen
  rw [sizeLine_eq]
  rfl
@[simp] theorem ev_oListL {ds : List D} : oList (.lst ds) = some (.lst ds) := Eq.trans rfl rfl
@[simp] theorem ev_oListT {ds : List D} : oList (.tup ds) = some (.lst ds) := Eq.trans rfl rfl
theorem set_il {w : List Int} {i v : Int} (h0 : 0 ≤ i) (h1 : i < w.length) : oSet (.int i) (.int v) (il w) = some (il (w.set i.toNat v)) := by
  show (L2.ixN (w.map D.int).length i).map (fun j => D.lst ((w.map D.int).set j (.int v))) = _
  unfold L2.ixN
  rw [if_pos h0, List.length_map, if_pos h1, Option.map_some, ← List.map_set]
theorem e_by_step {k : Kd} {z : Int} {w : List Int} {s : Int} (h0 : 0 ≤ s) (h1 : s < nst k w.length) : m_by_step [.kd k.nm z, il w, .int s] = some (il (stp k w s)) := by
  cases k with
  | plain =>
    have h1 : s < (w.length : Int) - 1 := h1
    simp [m_by_step_eq, b_by_step, stp, swp, at_il (w := w) (i := s) h0 (by omega), at_il (w := w) (i := s + 1) (by omega) (by omega), set_il (w := w) (i := s) h0 (by omega), set_il (w := w.set s.toNat (gt w (s + 1))) (i := s + 1) (by omega) (by simp; omega)]
  | mirror =>
    have h1 : s < (w.length : Int) := h1
    by_cases hs : s = 0
    · subst hs
      simp [m_by_step_eq, b_by_step, stp, at_il (w := w) (i := 0) (by omega) (by omega), set_il (w := w) (i := 0) (by omega) (by omega)]
    · obtain ⟨t, rfl⟩ : ∃ t, s = t + 1 := ⟨s - 1, by omega⟩
      simp [m_by_step_eq, b_by_step, stp, swp, hs, at_il (w := w) (i := t) (by omega) (by omega), at_il (w := w) (i := t + 1) (by omega) (by omega), set_il (w := w) (i := t) (by omega) (by omega), set_il (w := w.set t.toNat (gt w (t + 1))) (i := t + 1) (by omega) (by simp; omega)]
  | ring =>
    have h1 : s < (w.length : Int) := h1
    by_cases hs : s = (w.length : Int) - 1
    · simp [m_by_step_eq, b_by_step, stp, hs, at_il (w := w) (i := (w.length : Int) - 1) (by omega) (by omega), at_il (w := w) (i := 0) (by omega) (by omega), set_il (w := w) (i := 0) (by omega) (by omega), set_il (w := w.set 0 (gt w ((w.length : Int) - 1) - w.length)) (i := (w.length : Int) - 1) (by omega) (by simp; omega)]
    · simp [m_by_step_eq, b_by_step, stp, swp, hs, at_il (w := w) (i := s) h0 (by omega), at_il (w := w) (i := s + 1) (by omega) (by omega), set_il (w := w) (i := s) h0 (by omega), set_il (w := w.set s.toNat (gt w (s + 1))) (i := s + 1) (by omega) (by simp; omega)]
end M
/-! V3: loops of the mirrors; items, products. -/
namespace M
open PySem PySem.Spec PyProof.Rows L2
theorem for_ind {s : MG} {b : MS} {ds : List D} (I : Nat → Rho → Prop) (hs : ∀ (i : Nat) (d : D) (ρ : Rho), ds[i]? = some d → I i ρ → ∃ r ρ', s d ρ = some r ∧ b r = some (.nx, ρ') ∧ I (i + 1) ρ') {ρ : Rho} (h0 : I 0 ρ) :
    ∃ ρ', mForL s b ds ρ = some (.nx, ρ') ∧ I ds.length ρ' := by
  induction ds generalizing ρ I with
  | nil => exact ⟨ρ, rfl, h0⟩
  | cons d ds ih =>
    obtain ⟨r, ρ1, e1, e2, h1⟩ := hs 0 d ρ rfl h0
    obtain ⟨ρ2, e3, h2⟩ := ih (fun i => I (i + 1)) (fun i d' ρ' hd hi => hs (i + 1) d' ρ' hd hi) h1
    refine ⟨ρ2, ?_, h2⟩
    show ((s d ρ).bind fun r => (b r).bind fun p => match p.1 with
      | .nx => mForL s b ds p.2
      | .ct => mForL s b ds p.2
      | .bk => some (.nx, p.2)
      | .rt rv => some (.rt rv, p.2)) = _
    rw [e1, Option.bind_some, e2, Option.bind_some]
    exact e3
theorem cmpL_map {s : MG} {t : MB} {f : MD} {vs : List Nat} {ρ : Rho} {keep : D → Bool} {h : D → D} : ∀ {ds : List D} {acc : List D}, (∀ d ∈ ds, ∃ r p, s d ρ = some r ∧ t r = some (keep d, p) ∧ (keep d = true → ∃ q, f p = some (h d, q) ∧ wipeR q vs = ρ) ∧ (keep d = false → wipeR p vs = ρ)) → acc.length + ds.length ≤ 100000 →
    mCmpL s t f vs ds acc ρ = some (acc ++ (ds.filter keep).map h, ρ)
  | [], acc, _, _ => by simp [mCmpL]
  | d :: ds, acc, hd, hl => by
    obtain ⟨r, p, e1, e2, e3, e4⟩ := hd d (List.mem_cons_self ..)
    have ih := fun acc' => cmpL_map (s := s) (t := t) (f := f) (vs := vs) (ρ := ρ) (keep := keep) (h := h) (ds := ds) (acc := acc') fun x m => hd x (List.mem_cons_of_mem _ m)
    rw [List.length_cons] at hl
    simp only [mCmpL, e1, Option.bind_some, e2]
    cases hk : keep d with
    | true =>
      obtain ⟨q, e5, e6⟩ := e3 hk
      have hz : decide (acc.length < sizeLine) = true := decide_eq_true (by rw [sizeLine_eq]; omega)
      simp only [if_true, e5, Option.bind_some, hz, e6]
      rw [ih _ (by rw [List.length_append, List.length_singleton]; omega), List.filter_cons_of_pos hk, List.map_cons, List.append_assoc]
      rfl
    | false =>
      simp only [Bool.false_eq_true, if_false, e4 hk]
      rw [ih _ (by omega), List.filter_cons_of_neg (by rw [hk]; simp)]
/-- [f(x) for x in xs] -/
theorem cmp_all {i : MI} {s : MG} {f : MD} {vs : List Nat} {ρ ρ0 ρ1 : Rho} {h : D → D} {ds : List D} (hi : i ρ0 = some (ds, ρ1)) (hw : wipeR ρ1 vs = ρ) (hd : ∀ d ∈ ds, ∃ r q, s d ρ = some r ∧ f r = some (h d, q) ∧ wipeR q vs = ρ) (hl : ds.length ≤ 100000) :
    mCmp i s yes f vs ρ0 = some (.new (.lst (ds.map h)), ρ) := by
  unfold mCmp
  rw [hi, Option.bind_some]
  rw [hw, cmpL_map (keep := fun _ => true) (h := h) (fun d m => ?_) (by simpa using hl)]
  · rw [List.filter_eq_self.mpr (fun _ _ => rfl)]; rfl
  · obtain ⟨r, q, e1, e2, e3⟩ := hd d m
    exact ⟨r, r, e1, rfl, fun _ => ⟨q, e2, e3⟩, fun z => by cases z⟩
@[simp] theorem ev_iLst {f : MD} {ρ : Rho} : iLst f ρ = (f ρ).bind fun p => match p.1 with
  | .lst ds => some (ds, p.2)
  | _ => none := Eq.trans rfl rfl
theorem wipeR_cons {ρ : Rho} {v : Nat} {vs : List Nat} : wipeR ρ (v :: vs) = (wipeR ρ vs).set v .un := rfl
@[simp] theorem wipeR_nil {ρ : Rho} : wipeR ρ [] = ρ := Eq.trans rfl rfl
/-! ### items -/
theorem bits_small {x : Int} (h1 : -1000 < x) (h2 : x < 1000) : Builtin.Int.intBits x ≤ 64 := PySem.intBits_le_64 (by omega) (by omega)
theorem mul_small {x y : Int} (h1 : -1000 < x) (h2 : x < 1000) (h3 : -1000 < y) (h4 : y < 1000) : oMul (.int x) (.int y) = some (.int (x * y)) := by
  have a := bits_small h1 h2
  have b := bits_small h3 h4
  have c : CMulX x y := by unfold CMulX; omega
  show (if CMulX x y then some (D.int (x * y)) else none) = _
  rw [if_pos c]
theorem sg_small (p : Int) : -1000 < sg p ∧ sg p < 1000 := by unfold sg; split <;> omega
theorem e_item_at {k : Kd} {z : Int} {w : List Int} {p : Int} (hs : sml w) (h : plc k w.length p) : m_item_at [.kd k.nm z, il w, .int p] = some (.int (itm k w p)) := by
  cases k with
  | mirror =>
    obtain ⟨h0, h1, h2⟩ := h
    obtain ⟨a1, a2⟩ := hs ((if 0 ≤ p then p else -p) - 1)
    obtain ⟨b1, b2⟩ := sg_small p
    have ha := at_il (w := w) (i := (if 0 ≤ p then p else -p) - 1) (by split <;> omega) (by split <;> omega)
    by_cases hp : 0 < p
    · have es : sg p = 1 := by unfold sg; rw [if_pos hp]
      have hm := mul_small (y := 1) a1 a2 (by omega) (by omega)
      simp [m_item_at_eq, b_item_at, itm, ha, hp, hm, es]
    · have es : sg p = -1 := by unfold sg; rw [if_neg hp]
      have hm := mul_small (y := -1) a1 a2 (by omega) (by omega)
      simp [m_item_at_eq, b_item_at, itm, ha, hp, hm, es]
  | plain =>
    have h : 0 < w.length := h
    have hl : 0 < (w.length : Int) := by omega
    have ha := at_il (w := w) (i := p % w.length) (Int.emod_nonneg _ (by omega)) (Int.emod_lt_of_pos _ hl)
    simp [m_item_at_eq, b_item_at, itm, ha, h]
  | ring =>
    have h : 0 < w.length := h
    have hl : 0 < (w.length : Int) := by omega
    have ha := at_il (w := w) (i := p % w.length) (Int.emod_nonneg _ (by omega)) (Int.emod_lt_of_pos _ hl)
    simp [m_item_at_eq, b_item_at, itm, ha, h]
theorem e_product_of {k : Kd} {z : Int} {u v : List Int} (hs : sml u) (h : ∀ p ∈ v, plc k u.length p) (hl : v.length ≤ 1000) : m_product_of [.kd k.nm z, il u, il v] = some (il (prd k u v)) := by
  have e : mCmp (iLst (fz (vr 2))) (gNm 3) yes (mC (nA m_item_at 3) (aCons (fz (vr 0)) (aCons (fz (vr 1)) (aCons (fz (vr 3)) aNil)))) [3] [.dat (.kd k.nm z), .dat (il u), .dat (il v), .un] =
      some (.new (.lst ((v.map D.int).map fun d => match d with
        | .int p => .int (itm k u p)
        | _ => .non)), [.dat (.kd k.nm z), .dat (il u), .dat (il v), .un]) := by
    refine cmp_all (ds := v.map D.int) (ρ1 := [.dat (.kd k.nm z), .dat (il u), .dat (il v), .un]) (by simp) (by simp [wipeR_cons]) (fun d m => ?_) (by simp; omega)
    obtain ⟨p, hp, rfl⟩ := List.mem_map.mp m
    refine ⟨[.dat (.kd k.nm z), .dat (il u), .dat (il v), .dat (.int p)], [.dat (.kd k.nm z), .dat (il u), .dat (il v), .dat (.int p)], by simp, by simp [e_item_at hs (h p hp)], by simp [wipeR_cons]⟩
  simp only [m_product_of_eq, b_product_of, ev_fnP, ev_argR, List.map_cons, List.map_nil, List.replicate, List.cons_append, List.nil_append, ev_mRet, e, Option.bind_some, ev_hold_new, Option.map_some]
  simp [prd, il]
end M
/-! V4: falls, heads, opposites. -/
namespace M
open PySem PySem.Spec PyProof.Rows L2
@[simp] theorem ev_iRg1 {f : MA} {ρ : Rho} : iRg1 f ρ = (f ρ).bind fun p => match p.1 with
  | [.int j] => if small j = true then some (rgD 0 j.toNat, p.2) else none
  | _ => none := Eq.trans rfl rfl
@[simp] theorem ev_iEn {f : MD} {ρ : Rho} : iEn f ρ = (f ρ).bind fun p => match p.1 with
  | .lst ds => some (enD 0 ds, p.2)
  | _ => none := Eq.trans rfl rfl
/-- [g(x) for x in xs if t(x)] -/
theorem cmp_if {i : MI} {s : MG} {t : MB} {f : MD} {vs : List Nat} {ρ ρ0 ρ1 : Rho} {keep : D → Bool} {h : D → D} {ds : List D} (hi : i ρ0 = some (ds, ρ1)) (hw : wipeR ρ1 vs = ρ)
    (hd : ∀ d ∈ ds, ∃ r p, s d ρ = some r ∧ t r = some (keep d, p) ∧ (keep d = true → ∃ q, f p = some (h d, q) ∧ wipeR q vs = ρ) ∧ (keep d = false → wipeR p vs = ρ)) (hl : ds.length ≤ 100000) :
    mCmp i s t f vs ρ0 = some (.new (.lst ((ds.filter keep).map h)), ρ) := by
  unfold mCmp
  rw [hi, Option.bind_some, hw, cmpL_map hd (by simpa using hl)]
  rfl
theorem small_ok {j : Int} (h0 : 0 ≤ j) (h1 : j ≤ 100000) : small j = true := by
  unfold small
  exact decide_eq_true (by omega)
theorem rgD_ups (n : Nat) : rgD 0 n = (ups n).map D.int := by
  unfold rgD ups
  rw [List.map_map]
  refine List.map_congr_left fun i _ => ?_
  show D.int (0 + (i : Int)) = D.int (i : Int)
  rw [Int.zero_add]
theorem filter_int (l : List Int) (p : Int → Bool) (q : D → Bool) (h : ∀ i, q (.int i) = p i) : (l.map D.int).filter q = (l.filter p).map D.int := by
  induction l with
  | nil => rfl
  | cons a l ih =>
    rw [List.map_cons]
    cases e : p a with
    | true => rw [List.filter_cons_of_pos (by rw [h]; exact e), List.filter_cons_of_pos e, List.map_cons, ih]
    | false => rw [List.filter_cons_of_neg (by rw [h, e]; simp), List.filter_cons_of_neg (by rw [e]; simp), ih]
def keepI (p : Int → Bool) : D → Bool
  | .int i => p i
  | _ => false
theorem e_falls_of {k : Kd} {z : Int} {w : List Int} (hz : z = w.length) (h1 : 1 ≤ w.length) (hl : w.length ≤ 100) : m_falls_of [.kd k.nm z, il w] = some (il (fls k w)) := by
  have hst : z - (if k = .plain then 1 else 0) = nst k w.length := by subst hz; cases k <;> simp [nst]
  have hn : 0 ≤ nst k w.length := by cases k <;> simp only [nst] <;> omega
  · have hup : nst k w.length ≤ 100 := by cases k <;> simp only [nst] <;> omega
    have e : mCmp (iRg1 (aCons (mMeth m_Kind_steps (fz (vr 0))) aNil)) (gNm 2) (asB (mC (nA m_is_crossed 3) (aCons (fz (vr 0)) (aCons (fz (vr 1)) (aCons (fz (vr 2)) aNil))))) (fz (vr 2)) [2] [.dat (.kd k.nm z), .dat (il w), .un] =
        some (.new (.lst ((((ups (nst k w.length).toNat).map D.int).filter (keepI (xd k w))).map id)), [.dat (.kd k.nm z), .dat (il w), .un]) := by
      refine cmp_if (ρ1 := [.dat (.kd k.nm z), .dat (il w), .un]) (by simp [hst, small_ok hn (by omega), rgD_ups]) (by simp [wipeR_cons]) (fun d m => ?_) (by rw [List.length_map, len_ups]; omega)
      obtain ⟨i, hi, rfl⟩ := List.mem_map.mp m
      rw [mem_ups] at hi
      exact ⟨[.dat (.kd k.nm z), .dat (il w), .dat (.int i)], [.dat (.kd k.nm z), .dat (il w), .dat (.int i)], by simp, by simp [e_is_crossed (k := k) (z := z) (w := w) hi.1 (by omega), keepI], fun _ => ⟨[.dat (.kd k.nm z), .dat (il w), .dat (.int i)], by simp, by simp [wipeR_cons]⟩, fun _ => by simp [wipeR_cons]⟩
    simp only [m_falls_of_eq, b_falls_of, ev_fnP, ev_argR, List.map_cons, List.map_nil, List.replicate, List.cons_append, List.nil_append, ev_mRet, e, Option.bind_some, ev_hold_new, Option.map_some]
    rw [filter_int _ (xd k w) _ (fun _ => rfl)]
    simp [fls, il]
end M
/-! V5: opposites, heads, what is put ahead. -/
namespace M
open PySem PySem.Spec PyProof.Rows L2
@[simp] theorem ev_mRep {f : ME} {fb : MD} {ρ : Rho} : mRep f fb ρ = (f ρ).bind fun p => (fb p.2).bind fun q => match p.1, q.1 with
  | .new (.lst ds), .int k => if repOk ds k = true then some (.new (.lst (List.replicate k.toNat ds).flatten), q.2) else none
  | _, _ => none := Eq.trans rfl rfl
@[simp] theorem ev_okLen1 {a : D} : okLen [a] = true := by
  unfold okLen
  rw [sizeLine_eq]
  rfl
def opB : MS := mIf (asB (m2 oEq (mMeth m_Kind_name (fz (vr 0))) (cst (.str "mirror")))) (mAsg (m2 oMul (m2 oAdd (fz (vr 3)) (cst (.int 1))) (mIf (asB (m2 oGt (fz (vr 4)) (cst (.int 0)))) (cst (.int 1)) (m1 (o1I fun i => -i) (upE (cst (.int 1)))))) (gSubL (vr 2) (m2 oSub (m1 oAbs (vr 4)) (cst (.int 1))))) (mAsg (m2 oSub (fz (vr 3)) (m2 oSub (fz (vr 4)) (m2 oMod (fz (vr 4)) (m1 oLen (vr 1))))) (gSubL (vr 2) (m2 oMod (fz (vr 4)) (m1 oLen (vr 1)))))
theorem op_turn {k : Kd} {z : Int} {w f : List Int} {i : Nat} {x : Int} (hp : plc k w.length x) (hf : f.length = w.length) (hi : i ≤ 100) :
    opB [.dat (.kd k.nm z), .dat (il w), .own (il f), .dat (.int (i : Nat)), .dat (.int x)] = some (.nx, [.dat (.kd k.nm z), .dat (il w), .own (il (f.set (oix k w.length x).toNat (ovl k w.length i x))), .dat (.int (i : Nat)), .dat (.int x)]) := by
  cases k with
  | mirror =>
    obtain ⟨h0, h1, h2⟩ := hp
    have hs := fun v => set_il (w := f) (v := v) (i := (if 0 ≤ x then x else -x) - 1) (by split <;> omega) (by split <;> omega)
    by_cases hx : 0 < x
    · have es : sg x = 1 := by unfold sg; rw [if_pos hx]
      have hm := mul_small (x := (i : Int) + 1) (y := 1) (by omega) (by omega) (by omega) (by omega)
      simp [opB, hx, hm, hs, oix, ovl, es]
    · have es : sg x = -1 := by unfold sg; rw [if_neg hx]
      have hm := mul_small (x := (i : Int) + 1) (y := -1) (by omega) (by omega) (by omega) (by omega)
      simp [opB, hx, hm, hs, oix, ovl, es]
  | plain =>
    have hp : 0 < w.length := hp
    have hs := fun v => set_il (w := f) (v := v) (i := x % (w.length : Int)) (Int.emod_nonneg _ (by omega)) (by rw [hf]; exact Int.emod_lt_of_pos _ (by omega))
    simp [opB, hp, hs, oix, ovl]
  | ring =>
    have hp : 0 < w.length := hp
    have hs := fun v => set_il (w := f) (v := v) (i := x % (w.length : Int)) (Int.emod_nonneg _ (by omega)) (by rw [hf]; exact Int.emod_lt_of_pos _ (by omega))
    simp [opB, hp, hs, oix, ovl]
theorem op_loop {k : Kd} {z : Int} {w : List Int} : ∀ {xs f : List Int} {i : Nat} {s3 s4 : Sl}, (∀ x ∈ xs, plc k w.length x) → f.length = w.length → i + xs.length ≤ 100 → M.free s3 = true → M.free s4 = true →
    ∃ t3 t4, mForL (gPr (gNm 3) (gNm 4)) opB (enD i (xs.map D.int)) [.dat (.kd k.nm z), .dat (il w), .own (il f), s3, s4] = some (.nx, [.dat (.kd k.nm z), .dat (il w), .own (il (opL k w.length i xs f)), t3, t4])
  | [], f, i, s3, s4, _, _, _, _, _ => ⟨s3, s4, rfl⟩
  | x :: xs, f, i, s3, s4, hp, hf, hi, h3, h4 => by
    rw [List.length_cons] at hi
    obtain ⟨t3, t4, e⟩ := op_loop (k := k) (z := z) (w := w) (xs := xs) (f := f.set (oix k w.length x).toNat (ovl k w.length i x)) (i := i + 1) (s3 := .dat (.int (i : Nat))) (s4 := .dat (.int x)) (fun y m => hp y (List.mem_cons_of_mem _ m)) (by rw [List.length_set]; exact hf) (by omega) rfl rfl
    refine ⟨t3, t4, ?_⟩
    have ht := op_turn (k := k) (z := z) (w := w) (f := f) (i := i) (hp x (List.mem_cons_self ..)) hf (by omega)
    simp only [List.map_cons, enD, mForL, ev_gPr, ev_gNm, ev_asg, List.getElem?_cons_succ, List.getElem?_cons_zero, h3, h4, if_true, ev_toS_dat, Option.map_some, Option.bind_some, List.set_cons_succ, List.set_cons_zero]
    rw [ht, Option.bind_some]
    exact e
theorem repOk_iff {ds : List D} {k : Int} : repOk ds k = true ↔ (-(2 ^ 63) ≤ k ∧ k < 2 ^ 63 ∧ ds.length * k.toNat ≤ sizeLine) := by
  unfold repOk
  exact decide_eq_true_iff
theorem rep_ok {n : Nat} (h : n ≤ 100) : repOk [D.int 0] (n : Int) = true := by
  refine repOk_iff.mpr ⟨by omega, by omega, ?_⟩
  rw [sizeLine_eq, List.length_singleton]
  omega
theorem opp_def : m_opposite_of = fnP 3 (mSeq (mSet 2 (mRep (mLst (aCons (cst (.int 0)) aNil)) (m1 oLen (vr 1)))) (mSeq (mFor (iEn (fz (vr 1))) (gPr (gNm 3) (gNm 4)) opB) (mRet (vr 2)))) := m_opposite_of_eq
theorem opp_for {k : Kd} {z : Int} {w : List Int} (hp : ∀ x ∈ w, plc k w.length x) (hl : w.length ≤ 100) : ∃ t3 t4, mFor (iEn (fz (vr 1))) (gPr (gNm 3) (gNm 4)) opB [.dat (.kd k.nm z), .dat (il w), .own (il (List.replicate w.length 0)), .un, .un] = some (.nx, [.dat (.kd k.nm z), .dat (il w), .own (il (opp k w)), t3, t4]) := by
  obtain ⟨t3, t4, e⟩ := op_loop (k := k) (z := z) (w := w) (xs := w) (f := List.replicate w.length 0) (i := 0) (s3 := .un) (s4 := .un) hp (List.length_replicate ..) (by omega) rfl rfl
  refine ⟨t3, t4, ?_⟩
  unfold mFor
  simp only [ev_iEn, ev_fz, ev_vr, List.getElem?_cons_succ, List.getElem?_cons_zero, Option.bind_some, ev_frz_dat]
  exact e
theorem rep_fl (n : Nat) : (List.replicate n [D.int 0]).flatten = (List.replicate n (0 : Int)).map D.int := by
  induction n with
  | zero => rfl
  | succ n ih => rw [List.replicate_succ, List.flatten_cons, ih, List.replicate_succ, List.map_cons]; rfl
theorem rep_val {k : Kd} {z : Int} {w : List Int} (hl : w.length ≤ 100) : mRep (mLst (aCons (cst (.int 0)) aNil)) (m1 oLen (vr 1)) [.dat (.kd k.nm z), .dat (il w), .un, .un, .un] = some (.new (il (List.replicate w.length 0)), [.dat (.kd k.nm z), .dat (il w), .un, .un, .un]) := by
  have e1 : mLst (aCons (cst (.int 0)) aNil) [.dat (.kd k.nm z), .dat (il w), .un, .un, .un] = some (.new (.lst [.int 0]), [.dat (.kd k.nm z), .dat (il w), .un, .un, .un]) := by simp
  have e2 : m1 oLen (vr 1) [.dat (.kd k.nm z), .dat (il w), .un, .un, .un] = some (.int (w.length : Nat), [.dat (.kd k.nm z), .dat (il w), .un, .un, .un]) := by simp
  rw [ev_mRep, e1, Option.bind_some, e2, Option.bind_some]
  have hr := rep_ok hl
  generalize hb : repOk [D.int 0] (w.length : Int) = b at hr
  subst hr
  show (if repOk [D.int 0] (w.length : Int) = true then some (Rv.new (.lst (List.replicate (w.length : Int).toNat [D.int 0]).flatten), _) else none) = _
  rw [hb, if_pos rfl, Int.toNat_natCast, rep_fl]
theorem e_opposite_of {k : Kd} {z : Int} {w : List Int} (hp : ∀ x ∈ w, plc k w.length x) (hl : w.length ≤ 100) : m_opposite_of [.kd k.nm z, il w] = some (il (opp k w)) := by
  obtain ⟨t3, t4, e⟩ := opp_for (z := z) hp hl
  have e0 : argR [.kd k.nm z, il w] 3 = [.dat (.kd k.nm z), .dat (il w), .un, .un, .un] := rfl
  have e1 : mSet 2 (mRep (mLst (aCons (cst (.int 0)) aNil)) (m1 oLen (vr 1))) [.dat (.kd k.nm z), .dat (il w), .un, .un, .un] = some (.nx, [.dat (.kd k.nm z), .dat (il w), .own (il (List.replicate w.length 0)), .un, .un]) := by
    rw [ev_mSet, rep_val hl]
    rfl
  have e2 : mRet (vr 2) [.dat (.kd k.nm z), .dat (il w), .own (il (opp k w)), t3, t4] = some (.rt (.dat (il (opp k w))), [.dat (.kd k.nm z), .dat (il w), .dat (il (opp k w)), t3, t4]) := rfl
  rw [opp_def, ev_fnP, e0, ev_mSeq, e1, Option.bind_some]
  show ((mSeq (mFor (iEn (fz (vr 1))) (gPr (gNm 3) (gNm 4)) opB) (mRet (vr 2))) [.dat (.kd k.nm z), .dat (il w), .own (il (List.replicate w.length 0)), .un, .un]).bind _ = _
  rw [ev_mSeq, e, Option.bind_some]
  show (mRet (vr 2) [.dat (.kd k.nm z), .dat (il w), .own (il (opp k w)), t3, t4]).bind _ = _
  rw [e2]
  rfl
end M
/-! V6: heads, what is put ahead. -/
namespace M
open PySem PySem.Spec PyProof.Rows L2
theorem rgD_stW (k : Kd) (n : Nat) : rgD (st0 k) n = (stW k n).map D.int := by
  unfold rgD stW
  rw [List.map_map]
  rfl
theorem e_startW (k : Kd) (n : Nat) (h1 : n ≤ 100) : m_Kind_start [.kd k.nm n] = some (il (stW k n)) := by
  rw [e_start k n (by omega) (by omega), rgD_stW, Int.toNat_natCast]
end M
/-! V7: crossings. -/
namespace M
open PySem PySem.Spec PyProof.Rows L2
theorem div_small {x n : Int} (h1 : 1 ≤ n) (h2 : n ≤ 100) : oDiv (.int x) (.int n) = some (.int (x / n)) := by
  have c : CDivW x n := ⟨by omega, Nat.lt_of_le_of_lt (Nat.log2_le_self _) (by omega)⟩
  show (if CDivW x n then some (D.int (x / n)) else none) = _
  rw [if_pos c]
theorem e_crossings_between {k : Kd} {z : Int} {n : Nat} {lo hi : Int} (h1 : 1 ≤ n) (h2 : n ≤ 100) : m_crossings_between [.kd k.nm z, .int (n : Nat), .int lo, .int hi] = some (.int (cb k n lo hi)) := by
  have hd := div_small (x := hi - lo) (n := (n : Int)) (by omega) (by omega)
  cases k with
  | ring => simp [m_crossings_between_eq, b_crossings_between, hd, cb]
  | mirror => by_cases c : hi < lo <;> by_cases c2 : lo + hi < 0 <;> simp [m_crossings_between_eq, b_crossings_between, cb, c, c2]
  | plain => by_cases c : hi < lo <;> simp [m_crossings_between_eq, b_crossings_between, cb, c]
theorem cut_from (ds : List D) {i : Nat} (h : i ≤ ds.length) : cutD ds (some (i : Int)) none = ds.drop i := by
  unfold cutD
  have e1 : HT.sIx ds.length 0 (some (i : Int)) = i := by rw [HT.sIx_nat]; omega
  rw [e1, HT.sIx_none]
  exact List.take_of_length_le (by rw [List.length_drop]; omega)
def inB (mcb : List D → Option D) : MS := mSet 2 (upE (m2 oAdd (fz (vr 2)) (mC (nA mcb 4) (aCons (fz (vr 0)) (aCons (m1 oLen (vr 1)) (aCons (fz (vr 4)) (aCons (fz (vr 5)) aNil)))))))
theorem in_loop {mcb : List D → Option D} {kd : D} {w : List Int} {c : Int → Int → Int} {x i : Int} (h : ∀ lo hi, mcb [kd, .int w.length, .int lo, .int hi] = some (.int (c lo hi))) : ∀ {ys : List Int} {acc : Int} {s5 : Sl}, M.free s5 = true →
    ∃ t5, M.free t5 = true ∧ mForL (gNm 5) (inB mcb) (ys.map D.int) [.dat kd, .dat (il w), .dat (.int acc), .dat (.int i), .dat (.int x), s5] = some (.nx, [.dat kd, .dat (il w), .dat (.int (ys.foldl (fun a y => a + c x y) acc)), .dat (.int i), .dat (.int x), t5])
  | [], acc, s5, h5 => ⟨s5, h5, rfl⟩
  | y :: ys, acc, s5, h5 => by
    obtain ⟨t5, h6, e⟩ := in_loop (i := i) h (ys := ys) (acc := acc + c x y) (s5 := .dat (.int y)) rfl
    refine ⟨t5, h6, ?_⟩
    have ht : inB mcb [.dat kd, .dat (il w), .dat (.int acc), .dat (.int i), .dat (.int x), .dat (.int y)] = some (.nx, [.dat kd, .dat (il w), .dat (.int (acc + c x y)), .dat (.int i), .dat (.int x), .dat (.int y)]) := by
      simp [inB, h]
    simp only [List.map_cons, mForL, ev_gNm, ev_asg, List.getElem?_cons_succ, List.getElem?_cons_zero, h5, if_true, ev_toS_dat, Option.map_some, Option.bind_some, List.set_cons_succ, List.set_cons_zero]
    rw [ht, Option.bind_some]
    exact e
def outB (mcb : List D → Option D) : MS := mSeq (mFor (iLst (fz (mSl (vr 1) (oYes (m2 oAdd (fz (vr 3)) (cst (.int 1)))) oNo))) (gNm 5) (inB mcb)) (mSet 2 (upE (m2 oAdd (fz (vr 2)) (m1 oInt (upE (vAnd (m2 oEq (mMeth m_Kind_name (fz (vr 0))) (cst (.str "mirror"))) (m2 oLt (fz (vr 4)) (cst (.int 0)))))))))
theorem out_turn {mcb : List D → Option D} {k : Kd} {z : Int} {w : List Int} {c : Int → Int → Int} {x acc : Int} {i : Nat} {s5 : Sl} (h : ∀ lo hi, mcb [.kd k.nm z, .int w.length, .int lo, .int hi] = some (.int (c lo hi))) (hi : i < w.length) (h5 : M.free s5 = true) :
    ∃ t5, M.free t5 = true ∧ outB mcb [.dat (.kd k.nm z), .dat (il w), .dat (.int acc), .dat (.int (i : Nat)), .dat (.int x), s5] = some (.nx, [.dat (.kd k.nm z), .dat (il w), .dat (.int ((w.drop (i + 1)).foldl (fun a y => a + c x y) acc + ng k x)), .dat (.int (i : Nat)), .dat (.int x), t5]) := by
  obtain ⟨t5, h6, e⟩ := in_loop (x := x) (i := (i : Int)) h (ys := w.drop (i + 1)) (acc := acc) h5
  refine ⟨t5, h6, ?_⟩
  have e1 : iLst (fz (mSl (vr 1) (oYes (m2 oAdd (fz (vr 3)) (cst (.int 1)))) oNo)) [.dat (.kd k.nm z), .dat (il w), .dat (.int acc), .dat (.int (i : Nat)), .dat (.int x), s5] = some ((w.drop (i + 1)).map D.int, [.dat (.kd k.nm z), .dat (il w), .dat (.int acc), .dat (.int (i : Nat)), .dat (.int x), s5]) := by
    have hc : cutD (w.map D.int) (some ((i : Int) + 1)) none = (w.drop (i + 1)).map D.int := by
      have := cut_from (w.map D.int) (i := i + 1) (by rw [List.length_map]; omega)
      rw [show ((i + 1 : Nat) : Int) = (i : Int) + 1 by omega] at this
      rw [this, List.map_drop]
    simp [mSl, oYes, oNo, isL, hc]
  have e2 : mSet 2 (upE (m2 oAdd (fz (vr 2)) (m1 oInt (upE (vAnd (m2 oEq (mMeth m_Kind_name (fz (vr 0))) (cst (.str "mirror"))) (m2 oLt (fz (vr 4)) (cst (.int 0)))))))) [.dat (.kd k.nm z), .dat (il w), .dat (.int ((w.drop (i + 1)).foldl (fun a y => a + c x y) acc)), .dat (.int (i : Nat)), .dat (.int x), t5] =
      some (.nx, [.dat (.kd k.nm z), .dat (il w), .dat (.int ((w.drop (i + 1)).foldl (fun a y => a + c x y) acc + ng k x)), .dat (.int (i : Nat)), .dat (.int x), t5]) := by
    generalize (w.drop (i + 1)).foldl (fun a y => a + c x y) acc = q
    by_cases hk : k = .mirror <;> by_cases hx : x < 0 <;> simp [ng, hk, hx]
  unfold outB
  rw [ev_mSeq]
  unfold mFor
  rw [e1, Option.bind_some, e, Option.bind_some]
  exact e2
theorem out_loop {mcb : List D → Option D} {k : Kd} {z : Int} {w : List Int} {c : Int → Int → Int} (h : ∀ lo hi, mcb [.kd k.nm z, .int w.length, .int lo, .int hi] = some (.int (c lo hi))) : ∀ {xs : List Int} {i : Nat} {acc : Int} {s3 s4 s5 : Sl}, w.drop i = xs → M.free s3 = true → M.free s4 = true → M.free s5 = true →
    ∃ t3 t4 t5, mForL (gPr (gNm 3) (gNm 4)) (outB mcb) (enD i (xs.map D.int)) [.dat (.kd k.nm z), .dat (il w), .dat (.int acc), s3, s4, s5] = some (.nx, [.dat (.kd k.nm z), .dat (il w), .dat (.int (crG k c xs acc)), t3, t4, t5])
  | [], i, acc, s3, s4, s5, _, _, _, _ => ⟨s3, s4, s5, rfl⟩
  | x :: xs, i, acc, s3, s4, s5, hx, h3, h4, h5 => by
    have hi : i < w.length := by
      have := congrArg List.length hx
      rw [List.length_drop, List.length_cons] at this
      omega
    have hd : w.drop (i + 1) = xs := by
      rw [← List.drop_drop, hx] <;> rfl
    obtain ⟨q5, h6, e1⟩ := out_turn (x := x) (acc := acc) h hi h5
    rw [hd] at e1
    obtain ⟨t3, t4, t5, e⟩ := out_loop h (xs := xs) (i := i + 1) (acc := xs.foldl (fun a y => a + c x y) acc + ng k x) (s3 := .dat (.int (i : Nat))) (s4 := .dat (.int x)) (s5 := q5) hd rfl rfl h6
    refine ⟨t3, t4, t5, ?_⟩
    simp only [List.map_cons, enD, mForL, ev_gPr, ev_gNm, ev_asg, List.getElem?_cons_succ, List.getElem?_cons_zero, h3, h4, if_true, ev_toS_dat, Option.map_some, Option.bind_some, List.set_cons_succ, List.set_cons_zero]
    rw [e1, Option.bind_some]
    exact e
theorem crs_key {mcb : List D → Option D} {k : Kd} {z : Int} {w : List Int} {c : Int → Int → Int} (h : ∀ lo hi, mcb [.kd k.nm z, .int w.length, .int lo, .int hi] = some (.int (c lo hi))) :
    fnP 4 (mSeq (mSet 2 (upE (cst (.int 0)))) (mSeq (mFor (iEn (fz (vr 1))) (gPr (gNm 3) (gNm 4)) (outB mcb)) (mRet (vr 2)))) [.kd k.nm z, il w] = some (.int (crG k c w 0)) := by
  obtain ⟨t3, t4, t5, e⟩ := out_loop (w := w) h (xs := w) (i := 0) (acc := 0) (s3 := .un) (s4 := .un) (s5 := .un) rfl rfl rfl rfl
  have e1 : mFor (iEn (fz (vr 1))) (gPr (gNm 3) (gNm 4)) (outB mcb) [.dat (.kd k.nm z), .dat (il w), .dat (.int 0), .un, .un, .un] = some (.nx, [.dat (.kd k.nm z), .dat (il w), .dat (.int (crG k c w 0)), t3, t4, t5]) := by
    unfold mFor
    simp only [ev_iEn, ev_fz, ev_vr, List.getElem?_cons_succ, List.getElem?_cons_zero, Option.bind_some, ev_frz_dat]
    exact e
  have e0 : argR [.kd k.nm z, il w] 4 = [.dat (.kd k.nm z), .dat (il w), .un, .un, .un, .un] := rfl
  have e2 : mSet 2 (upE (cst (.int 0))) [.dat (.kd k.nm z), .dat (il w), .un, .un, .un, .un] = some (.nx, [.dat (.kd k.nm z), .dat (il w), .dat (.int 0), .un, .un, .un]) := rfl
  rw [ev_fnP, e0, ev_mSeq, e2, Option.bind_some]
  show ((mSeq (mFor (iEn (fz (vr 1))) (gPr (gNm 3) (gNm 4)) (outB mcb)) (mRet (vr 2))) [.dat (.kd k.nm z), .dat (il w), .dat (.int 0), .un, .un, .un]).bind _ = _
  rw [ev_mSeq, e1, Option.bind_some]
  rfl
theorem e_crossings_of {k : Kd} {z : Int} {w : List Int} (h1 : 1 ≤ w.length) (h2 : w.length ≤ 100) : m_crossings_of [.kd k.nm z, il w] = some (.int (crs k w)) := by
  rw [m_crossings_of_eq]
  exact crs_key fun lo hi => e_crossings_between h1 h2
end M
/-! V8: data compared; what is an order. -/
namespace M
open PySem PySem.Spec PyProof.Rows L2
theorem pyL_ints : ∀ w : List Int, pyL (w.map D.int) = some (w.map PyData.int)
  | [] => rfl
  | x :: w => by
    rw [List.map_cons, pyL, pyL_ints w]
    rfl
theorem lay_ints : ∀ w : List Int, PyData.canLayAll0 (w.map PyData.int) = true
  | [] => by rw [List.map_nil, PyData.canLayAll0]
  | x :: w => by rw [List.map_cons, PyData.canLayAll0, lay_ints w]; simp [PyData.canLay0]
theorem dep_ints : ∀ w : List Int, PyData.depthAll (w.map PyData.int) = 0
  | [] => by rw [List.map_nil, PyData.depthAll]
  | x :: w => by rw [List.map_cons, PyData.depthAll, dep_ints w]; simp [PyData.depth]
theorem eqv_ints : ∀ u w : List Int, PyData.eqvAll (u.map PyData.int) (w.map PyData.int) = decide (u = w)
  | [], [] => by simp [PyData.eqvAll]
  | [], y :: w => by simp [PyData.eqvAll]
  | x :: u, [] => by simp [PyData.eqvAll]
  | x :: u, y :: w => by
    rw [List.map_cons, List.map_cons, PyData.eqvAll, eqv_ints u w]
    show (x == y && decide (u = w)) = _
    by_cases h1 : x = y <;> by_cases h2 : u = w <;> simp [h1, h2]
theorem py_il (w : List Int) : py (il w) = some (.list (w.map PyData.int)) := by
  show (pyL (w.map D.int)).map PyData.list = _
  rw [pyL_ints]; rfl
theorem sh_il (w : List Int) : SeqAt.shaped (.list (w.map PyData.int)) = true := by
  unfold SeqAt.shaped
  rw [PyData.canLay0, lay_ints, PyData.depth, dep_ints]
  rfl
theorem eqD_il (u w : List Int) : eqD (il u) (il w) = some (decide (u = w)) := by
  unfold eqD
  rw [py_il, Option.bind_some, py_il, Option.bind_some, sh_il, sh_il]
  show some (PyData.eqv (.list _) (.list _)) = _
  rw [PyData.eqv, eqv_ints]
theorem oEq_il (u w : List Int) : oEq (il u) (il w) = some (.bl (decide (u = w))) := by unfold oEq; rw [eqD_il]; rfl
theorem oNe_il (u w : List Int) : oNe (il u) (il w) = some (.bl (!decide (u = w))) := by unfold oNe; rw [eqD_il]; rfl
theorem ups_sorted (n : Nat) : (ups n).Pairwise (· ≤ ·) := by
  unfold ups
  refine List.pairwise_map.mpr (List.Pairwise.imp (fun h => ?_) List.pairwise_lt_range)
  omega
theorem sortI_ups {l : List Int} {n : Nat} (h : l.Perm (ups n)) : sortI l = ups n :=
  sorted_unique ((sortI_perm l).trans h) (sortI_sorted l) (ups_sorted n)
theorem oSort_il (w : List Int) : oSortI (il w) = some (il (sortI w)) := by
  show (intsOf (w.map D.int)).map _ = _
  rw [intsOf_ints]; rfl
theorem oSum_il (w : List Int) : oSum (il w) = some (.int w.sum) := by
  show (intsOf (w.map D.int)).map _ = _
  rw [intsOf_ints]; rfl
theorem sum_sm : ∀ w : List Int, w.sum = sm w
  | [] => rfl
  | x :: w => by rw [List.sum_cons, sum_sm w, sm]
/-- the sum of 0, 1, .. -/
theorem sm_ups : ∀ n : Nat, sm (ups n) * 2 = (n : Int) * ((n : Int) - 1)
  | 0 => rfl
  | n + 1 => by
    have ih := sm_ups n
    have e : ups (n + 1) = ups n ++ [(n : Int)] := by unfold ups; rw [List.range_succ, List.map_append]; rfl
    rw [e, sm_app, Int.add_mul, ih]
    simp only [sm]
    have : ((n + 1 : Nat) : Int) * (((n + 1 : Nat) : Int) - 1) = ((n : Int) + 1) * n := by
      rw [show ((n + 1 : Nat) : Int) = (n : Int) + 1 by omega, Int.add_sub_cancel]
    have e3 : ((n : Int) + 1) * n = n * n + n := by rw [Int.add_mul, Int.one_mul]
    rw [this, e3, Int.mul_sub]
    omega
theorem lr1_ok {fa : MD} {ρ ρ' : Rho} {z : Int} (h : fa ρ = some (.int z, ρ')) (r : rgOk 0 z = true) : mLR1 fa ρ = some (.new (.lst (rgD 0 z.toNat)), ρ') := by
  unfold mLR1
  rw [h, Option.bind_some]
  show (if rgOk 0 z = true then _ else _) = _
  rw [if_pos r]
theorem lr2_ok {fa fb : MD} {ρ ρ1 ρ' : Rho} {y z : Int} (h1 : fa ρ = some (.int y, ρ1)) (h2 : fb ρ1 = some (.int z, ρ')) (r : rgOk y z = true) : mLR2 fa fb ρ = some (.new (.lst (rgD y (z - y).toNat)), ρ') := by
  unfold mLR2
  rw [h1, Option.bind_some, h2, Option.bind_some]
  show (if rgOk y z = true then _ else _) = _
  rw [if_pos r]
/-! ### is_order_list -/
theorem plain_res {n : Nat} {w : List Int} (h : Vd .plain n w) : w.map (oix .plain n) = w := by
  have e : w.map (oix .plain n) = w.map id := by
    refine List.map_congr_left fun x hx => ?_
    obtain ⟨a, b⟩ := h.pl rfl x hx
    show x % (n : Int) = x
    exact Int.emod_eq_of_lt a b
  rw [e, List.map_id]
def olB (mw ms mn : List D → Option D) : MS := mSeq (mSet 2 (upE (mMeth ms (fz (vr 0)))))
    (mSeq (mIf (mOr (mNot (asB (m1 (oIsi isiList) (vr 1)))) (mOr (asB (m2 oNe (m1 oLen (vr 1)) (fz (vr 2)))) (asB (m2 oNe (fz (mCmp (iLst (fz (vr 1))) (gNm 3) (mNot (asB (mC (nA mw 1) (aCons (fz (vr 3)) aNil)))) (fz (vr 3)) [3])) (fz (mLst aNil)))))) (mRet (upE (cst (.bl false)))) mNil)
    (mSeq (mIf (asB (m2 oEq (mMeth mn (fz (vr 0))) (cst (.str "plain")))) (mRet (upE (m2 oEq (fz (n1 oSortI (vr 1))) (fz (mLR1 (fz (vr 2))))))) mNil)
    (mSeq (mIf (asB (m2 oEq (mMeth mn (fz (vr 0))) (cst (.str "mirror")))) (mRet (upE (m2 oEq (fz (n1 oSortI (mCmp (iLst (fz (vr 1))) (gNm 3) yes (m1 oAbs (vr 3)) [3]))) (fz (mLR2 (cst (.int 1)) (m2 oAdd (fz (vr 2)) (cst (.int 1)))))))) mNil)
    (mRet (upE (vAnd (m2 oEq (fz (n1 oSortI (mCmp (iLst (fz (vr 1))) (gNm 3) yes (m2 oMod (fz (vr 3)) (fz (vr 2))) [3]))) (fz (mLR1 (fz (vr 2))))) (m2 oEq (m1 oSum (vr 1)) (m2 oDiv (m2 oMul (fz (vr 2)) (m2 oSub (fz (vr 2)) (cst (.int 1)))) (cst (.int 2))))))))))
theorem ol_def : m_is_order_list = fnP 2 (olB m_is_whole m_Kind_size m_Kind_name) := m_is_order_list_eq
def iDo (f : Int → Int) : D → D
  | .int i => .int (f i)
  | _ => .non
theorem map_iDo (f : Int → Int) (l : List Int) : (l.map D.int).map (iDo f) = (l.map f).map D.int := by
  rw [List.map_map, List.map_map]
  rfl
theorem seq_nx {s u : MS} {ρ ρ' : Rho} (h : s ρ = some (.nx, ρ')) : mSeq s u ρ = u ρ' := by rw [ev_mSeq, h]; rfl
theorem seq_rt {s u : MS} {ρ ρ' : Rho} {v : Rv} (h : s ρ = some (.rt v, ρ')) : mSeq s u ρ = some (.rt v, ρ') := by rw [ev_mSeq, h]; rfl
theorem fn_rt {n : Nat} {s : MS} {ds : List D} {d : D} {ρ' : Rho} (h : s (argR ds n) = some (.rt (.dat d), ρ')) : fnP n s ds = some d := by rw [ev_fnP, h]; rfl
theorem fn_rn {n : Nat} {s : MS} {ds : List D} {d : D} {ρ' : Rho} (h : s (argR ds n) = some (.rt (.new d), ρ')) : fnP n s ds = some d := by rw [ev_fnP, h]; rfl
theorem fn_nx {n : Nat} {s : MS} {ds : List D} {ρ' : Rho} (h : s (argR ds n) = some (.nx, ρ')) : fnP n s ds = some .non := by rw [ev_fnP, h]; rfl
theorem ol_key {k : Kd} {n : Nat} {w : List Int} (mw ms mn : List D → Option D) (h1 : ∀ z : Int, mw [.int z] = some (.bl true)) (h2 : ms [.kd k.nm n] = some (.int n)) (h3 : mn [.kd k.nm n] = some (.str k.nm)) (h : Vd k n w) (hn1 : 1 ≤ n) (hn : n ≤ 100) :
    fnP 2 (olB mw ms mn) [.kd k.nm n, il w] = some (.bl true) := by
  have s1 : mSet 2 (upE (mMeth ms (fz (vr 0)))) [.dat (.kd k.nm n), .dat (il w), .un, .un] = some (.nx, [.dat (.kd k.nm n), .dat (il w), .dat (.int n), .un]) := by simp [h2]
  have c1 : mCmp (iLst (fz (vr 1))) (gNm 3) (mNot (asB (mC (nA mw 1) (aCons (fz (vr 3)) aNil)))) (fz (vr 3)) [3] [.dat (.kd k.nm n), .dat (il w), .dat (.int n), .un] = some (.new (il []), [.dat (.kd k.nm n), .dat (il w), .dat (.int n), .un]) := by
    rw [cmp_if (ρ := [.dat (.kd k.nm n), .dat (il w), .dat (.int n), .un]) (ρ1 := [.dat (.kd k.nm n), .dat (il w), .dat (.int n), .un]) (keep := fun _ => false) (h := fun d => d) (ds := w.map D.int) (by simp) (by simp [wipeR_cons]) (fun d m => ?_) (by rw [List.length_map, h.len]; omega)]
    · rw [List.filter_eq_nil_iff.mpr (by simp)]; rfl
    · obtain ⟨x, hx, rfl⟩ := List.mem_map.mp m
      exact ⟨[.dat (.kd k.nm n), .dat (il w), .dat (.int n), .dat (.int x)], [.dat (.kd k.nm n), .dat (il w), .dat (.int n), .dat (.int x)], by simp, by simp [h1], fun z => (Bool.false_ne_true z).elim, fun _ => by simp [wipeR_cons]⟩
  have e0 : (w.length : Int) = n := by rw [h.len]
  have nil : mLst aNil = fun ρ => some (.new (il []), ρ) := by
    funext ρ
    have : okLen [] = true := by unfold okLen; rw [sizeLine_eq]; rfl
    simp [this]
  have s2 : mIf (mOr (mNot (asB (m1 (oIsi isiList) (vr 1)))) (mOr (asB (m2 oNe (m1 oLen (vr 1)) (fz (vr 2)))) (asB (m2 oNe (fz (mCmp (iLst (fz (vr 1))) (gNm 3) (mNot (asB (mC (nA mw 1) (aCons (fz (vr 3)) aNil)))) (fz (vr 3)) [3])) (fz (mLst aNil)))))) (mRet (upE (cst (.bl false)))) mNil [.dat (.kd k.nm n), .dat (il w), .dat (.int n), .un] = some (.nx, [.dat (.kd k.nm n), .dat (il w), .dat (.int n), .un]) := by
    have i1 : oIsi isiList (il w) = some (.bl true) := rfl
    simp [i1, e0, nil, c1, oNe_il]
  have cmp : ∀ (f : MD) (g : Int → Int), (∀ x : Int, x ∈ w → f [.dat (.kd k.nm n), .dat (il w), .dat (.int n), .dat (.int x)] = some (.int (g x), [.dat (.kd k.nm n), .dat (il w), .dat (.int n), .dat (.int x)])) → mCmp (iLst (fz (vr 1))) (gNm 3) yes f [3] [.dat (.kd k.nm n), .dat (il w), .dat (.int n), .un] = some (.new (il (w.map g)), [.dat (.kd k.nm n), .dat (il w), .dat (.int n), .un]) := by
    intro f g hf
    rw [cmp_all (ρ := [.dat (.kd k.nm n), .dat (il w), .dat (.int n), .un]) (ρ1 := [.dat (.kd k.nm n), .dat (il w), .dat (.int n), .un]) (h := iDo g) (ds := w.map D.int) (by simp) (by simp [wipeR_cons]) (fun d m => ?_) (by rw [List.length_map, h.len]; omega)]
    · rw [map_iDo]
    · obtain ⟨x, hx, rfl⟩ := List.mem_map.mp m
      exact ⟨_, [.dat (.kd k.nm n), .dat (il w), .dat (.int n), .dat (.int x)], by simp, hf x hx, by simp [wipeR_cons]⟩
  have rg : rgOk 0 (n : Int) = true := rgOk_small (by omega) (by omega) (by omega) (by omega)
  have fn : ∀ r, olB mw ms mn (argR [.kd k.nm n, il w] 2) = r → r = some (.rt (.dat (.bl true)), [.dat (.kd k.nm n), .dat (il w), .dat (.int n), .un]) → fnP 2 (olB mw ms mn) [.kd k.nm n, il w] = some (.bl true) := fun r e1 e2 => fn_rt (e1.trans e2)
  refine fn _ rfl ?_
  show olB mw ms mn [.dat (.kd k.nm n), .dat (il w), .un, .un] = _
  unfold olB
  rw [seq_nx s1, seq_nx s2]
  have rg0 : mLR1 (fz (vr 2)) [.dat (.kd k.nm n), .dat (il w), .dat (.int n), .un] = some (.new (il (ups n)), [.dat (.kd k.nm n), .dat (il w), .dat (.int n), .un]) := by
    have e1 : fz (vr 2) [.dat (.kd k.nm n), .dat (il w), .dat (.int n), .un] = some (.int n, [.dat (.kd k.nm n), .dat (il w), .dat (.int n), .un]) := by simp
    rw [lr1_ok e1 rg, Int.toNat_natCast, rgD_ups]
  cases k with
  | plain =>
    refine seq_rt ?_
    have hs := h.res
    rw [plain_res h] at hs
    have b1 : asB (m2 oEq (mMeth mn (fz (vr 0))) (cst (.str "plain"))) [.dat (.kd Kd.plain.nm n), .dat (il w), .dat (.int n), .un] = some (true, [.dat (.kd Kd.plain.nm n), .dat (il w), .dat (.int n), .un]) := by simp [h3]
    have s3 : n1 oSortI (vr 1) [.dat (.kd Kd.plain.nm n), .dat (il w), .dat (.int n), .un] = some (.new (il (ups n)), [.dat (.kd Kd.plain.nm n), .dat (il w), .dat (.int n), .un]) := by
      simp [oSort_il, sortI_ups hs]
    have ee : oEq (il (ups n)) (il (ups n)) = some (.bl true) := by rw [oEq_il]; simp
    rw [ev_mIf, b1, Option.bind_some, if_pos rfl, ev_mRet, ev_upE, ev_m2, ev_fz, s3, Option.bind_some, ev_frz_new, Option.bind_some, ev_fz, rg0, Option.bind_some, ev_frz_new, Option.bind_some, ee]
    rfl
  | mirror =>
    have t1 : mIf (asB (m2 oEq (mMeth mn (fz (vr 0))) (cst (.str "plain")))) (mRet (upE (m2 oEq (fz (n1 oSortI (vr 1))) (fz (mLR1 (fz (vr 2))))))) mNil [.dat (.kd Kd.mirror.nm n), .dat (il w), .dat (.int n), .un] = some (.nx, [.dat (.kd Kd.mirror.nm n), .dat (il w), .dat (.int n), .un]) := by
      simp [h3]
    rw [seq_nx t1]
    refine seq_rt ?_
    have c2 := cmp (m1 oAbs (vr 3)) (fun x => if 0 ≤ x then x else -x) (fun x hx => by simp)
    have rg2 : rgOk 1 ((n : Int) + 1) = true := rgOk_small (by omega) (by omega) (by omega) (by omega)
    have e1 : sortI (w.map fun x => if 0 ≤ x then x else -x) = (ups n).map (· + 1) := by
      refine sorted_unique ((sortI_perm _).trans ?_) (sortI_sorted _) ?_
      · have := h.res.map (· + 1)
        rw [List.map_map] at this
        refine List.Perm.trans ?_ this
        rw [List.map_congr_left (g := (fun x => x + 1) ∘ oix Kd.mirror n) fun x hx => ?_]
        show (if 0 ≤ x then x else -x) = (if 0 ≤ x then x else -x) - 1 + 1
        omega
      · refine List.pairwise_map.mpr (List.Pairwise.imp (fun h => ?_) (ups_sorted n))
        omega
    have e2 : rgD 1 ((n : Int) + 1 - 1).toNat = ((ups n).map (· + 1)).map D.int := by
      rw [Int.add_sub_cancel, Int.toNat_natCast]
      unfold rgD ups
      rw [List.map_map, List.map_map]
      refine List.map_congr_left fun i _ => ?_
      show D.int (1 + (i : Int)) = D.int ((i : Int) + 1)
      rw [Int.add_comm]
    have ee : oEq (il (sortI (w.map fun x => if 0 ≤ x then x else -x))) (.lst (rgD 1 ((n : Int) + 1 - 1).toNat)) = some (.bl true) := by
      rw [e1, e2, oEq_il]
      simp
    have s3 : n1 oSortI (mCmp (iLst (fz (vr 1))) (gNm 3) yes (m1 oAbs (vr 3)) [3]) [.dat (.kd Kd.mirror.nm n), .dat (il w), .dat (.int n), .un] = some (.new (il (sortI (w.map fun x => if 0 ≤ x then x else -x))), [.dat (.kd Kd.mirror.nm n), .dat (il w), .dat (.int n), .un]) := by
      rw [ev_n1, c2, Option.bind_some, ev_look_new, Option.bind_some, oSort_il]; rfl
    have s4 : mLR2 (cst (.int 1)) (m2 oAdd (fz (vr 2)) (cst (.int 1))) [.dat (.kd Kd.mirror.nm n), .dat (il w), .dat (.int n), .un] = some (.new (.lst (rgD 1 ((n : Int) + 1 - 1).toNat)), [.dat (.kd Kd.mirror.nm n), .dat (il w), .dat (.int n), .un]) := by
      exact lr2_ok (y := 1) (z := (n : Int) + 1) (ρ1 := [.dat (.kd Kd.mirror.nm n), .dat (il w), .dat (.int n), .un]) (ρ' := [.dat (.kd Kd.mirror.nm n), .dat (il w), .dat (.int n), .un]) (by simp) (by simp) rg2
    have b1 : asB (m2 oEq (mMeth mn (fz (vr 0))) (cst (.str "mirror"))) [.dat (.kd Kd.mirror.nm n), .dat (il w), .dat (.int n), .un] = some (true, [.dat (.kd Kd.mirror.nm n), .dat (il w), .dat (.int n), .un]) := by simp [h3]
    rw [ev_mIf, b1, Option.bind_some, if_pos rfl, ev_mRet, ev_upE, ev_m2, ev_fz, s3, Option.bind_some, ev_frz_new, Option.bind_some, ev_fz, s4, Option.bind_some, ev_frz_new, Option.bind_some, ee]
    rfl
  | ring =>
    have t1 : mIf (asB (m2 oEq (mMeth mn (fz (vr 0))) (cst (.str "plain")))) (mRet (upE (m2 oEq (fz (n1 oSortI (vr 1))) (fz (mLR1 (fz (vr 2))))))) mNil [.dat (.kd Kd.ring.nm n), .dat (il w), .dat (.int n), .un] = some (.nx, [.dat (.kd Kd.ring.nm n), .dat (il w), .dat (.int n), .un]) := by
      simp [h3]
    have t2 : mIf (asB (m2 oEq (mMeth mn (fz (vr 0))) (cst (.str "mirror")))) (mRet (upE (m2 oEq (fz (n1 oSortI (mCmp (iLst (fz (vr 1))) (gNm 3) yes (m1 oAbs (vr 3)) [3]))) (fz (mLR2 (cst (.int 1)) (m2 oAdd (fz (vr 2)) (cst (.int 1)))))))) mNil [.dat (.kd Kd.ring.nm n), .dat (il w), .dat (.int n), .un] = some (.nx, [.dat (.kd Kd.ring.nm n), .dat (il w), .dat (.int n), .un]) := by
      simp [h3]
    rw [seq_nx t1, seq_nx t2]
    have c2 := cmp (m2 oMod (fz (vr 3)) (fz (vr 2))) (fun x => x % n) (fun x hx => by simp; omega)
    have s3 : n1 oSortI (mCmp (iLst (fz (vr 1))) (gNm 3) yes (m2 oMod (fz (vr 3)) (fz (vr 2))) [3]) [.dat (.kd Kd.ring.nm n), .dat (il w), .dat (.int n), .un] = some (.new (il (ups n)), [.dat (.kd Kd.ring.nm n), .dat (il w), .dat (.int n), .un]) := by
      rw [ev_n1, c2, Option.bind_some, ev_look_new, Option.bind_some, oSort_il, sortI_ups (show (w.map fun x => x % (n : Int)).Perm (ups n) from h.res)]; rfl
    have es : w.sum = (n : Int) * ((n : Int) - 1) / 2 := by
      rw [sum_sm, h.ri rfl]
      have e1 : stW .ring n = ups n := by
        unfold stW ups
        refine List.map_congr_left fun i _ => ?_
        show (0 : Int) + i = i
        omega
      rw [e1]
      have := sm_ups n
      omega
    have hm := mul_small (x := (n : Int)) (y := (n : Int) - 1) (by omega) (by omega) (by omega) (by omega)
    have hd := div_small (x := (n : Int) * ((n : Int) - 1)) (n := 2) (by omega) (by omega)
    have s5 : m2 oDiv (m2 oMul (fz (vr 2)) (m2 oSub (fz (vr 2)) (cst (.int 1)))) (cst (.int 2)) [.dat (.kd Kd.ring.nm n), .dat (il w), .dat (.int n), .un] = some (.int w.sum, [.dat (.kd Kd.ring.nm n), .dat (il w), .dat (.int n), .un]) := by
      rw [es]; simp [hm, hd]
    have e1 : oEq (il (ups n)) (il (ups n)) = some (.bl true) := by rw [oEq_il]; simp
    have s6 : m2 oEq (fz (n1 oSortI (mCmp (iLst (fz (vr 1))) (gNm 3) yes (m2 oMod (fz (vr 3)) (fz (vr 2))) [3]))) (fz (mLR1 (fz (vr 2)))) [.dat (.kd Kd.ring.nm n), .dat (il w), .dat (.int n), .un] = some (.bl true, [.dat (.kd Kd.ring.nm n), .dat (il w), .dat (.int n), .un]) := by
      rw [ev_m2, ev_fz, s3, Option.bind_some, ev_frz_new, Option.bind_some, ev_fz, rg0, Option.bind_some, ev_frz_new, Option.bind_some, e1]; rfl
    have s7 : m1 oSum (vr 1) [.dat (.kd Kd.ring.nm n), .dat (il w), .dat (.int n), .un] = some (.int w.sum, [.dat (.kd Kd.ring.nm n), .dat (il w), .dat (.int n), .un]) := by
      simp [oSum_il]
    have s8 : m2 oEq (m1 oSum (vr 1)) (m2 oDiv (m2 oMul (fz (vr 2)) (m2 oSub (fz (vr 2)) (cst (.int 1)))) (cst (.int 2))) [.dat (.kd Kd.ring.nm n), .dat (il w), .dat (.int n), .un] = some (.bl true, [.dat (.kd Kd.ring.nm n), .dat (il w), .dat (.int n), .un]) := by
      rw [ev_m2, s7, Option.bind_some, s5, Option.bind_some, ev_eqII]; simp
    rw [ev_mRet, ev_upE, ev_vAnd, s6, Option.bind_some]
    show (((m2 oEq (m1 oSum (vr 1)) (m2 oDiv (m2 oMul (fz (vr 2)) (m2 oSub (fz (vr 2)) (cst (.int 1)))) (cst (.int 2))) [.dat (.kd Kd.ring.nm n), .dat (il w), .dat (.int n), .un]).map fun p => (Rv.dat p.1, p.2)).bind _) = _
    rw [s8]
    rfl
theorem e_is_order_list {k : Kd} {n : Nat} {w : List Int} (h : Vd k n w) (hn1 : 1 ≤ n) (hn : n ≤ 100) : m_is_order_list [.kd k.nm n, il w] = some (.bl true) := by
  rw [ol_def]
  exact ol_key _ _ _ e_is_whole (e_size _ _) (e_name _ _) h hn1 hn
theorem e_is_let_order {k : Kd} {n : Nat} {w : List Int} (h : Vd k n w) (hn1 : 1 ≤ n) (hn : n ≤ 100) (hc : crs k w ≤ 60) : m_is_let_order [.kd k.nm n, il w] = some (.bl true) := by
  have e1 := e_is_order_list h hn1 hn
  have e2 := e_crossings_of (k := k) (z := n) (w := w) (by rw [h.len]; exact hn1) (by rw [h.len]; exact hn)
  have key : ∀ (mo mc : List D → Option D), mo [.kd k.nm n, il w] = some (.bl true) → mc [.kd k.nm n, il w] = some (.int (crs k w)) →
      fnP 0 (mRet (upE (vAnd (mC (nA mo 2) (aCons (fz (vr 0)) (aCons (fz (vr 1)) aNil))) (m2 oLe (mC (nA mc 2) (aCons (fz (vr 0)) (aCons (fz (vr 1)) aNil))) (cst (.int 60)))))) [.kd k.nm n, il w] = some (.bl true) := by
    intro mo mc h1 h2
    simp [h1, h2, hc]
  rw [m_is_let_order_eq]
  exact key _ _ e1 e2
theorem e_check_order {k : Kd} {n : Nat} {w : List Int} (h : Vd k n w) (hn1 : 1 ≤ n) (hn : n ≤ 100) (hc : crs k w ≤ 60) : m_check_order [.kd k.nm n, il w] = some .non := by
  have e1 := e_is_let_order h hn1 hn hc
  have key : ∀ (mo : List D → Option D), mo [.kd k.nm n, il w] = some (.bl true) →
      fnP 0 (mIf (mNot (asB (mC (nA mo 2) (aCons (fz (vr 0)) (aCons (fz (vr 1)) aNil))))) mNever mNil) [.kd k.nm n, il w] = some .non := by
    intro mo h1
    simp [h1]
  rw [m_check_order_eq]
  exact key _ e1
end M
/-! V9: what begins an order; the ways on. -/
namespace M
open PySem PySem.Spec PyProof.Rows L2
/-- a kind and its size, small -/
structure Sz (k : Kd) (n : Nat) : Prop where
  g : gd k n
  n100 : n ≤ 100
theorem Sz.n1 {k : Kd} {n : Nat} (h : Sz k n) : 1 ≤ n := h.g.1
/-- an order with few crossings: all items small -/
theorem Od.plc {k : Kd} {n : Nat} {w : List Int} (z : Sz k n) (h : Od k n w) : ∀ p ∈ w, plc k n p := by
  intro p hp
  have := pv_gt (h.vd z.g) hp
  cases k with
  | mirror => exact this rfl
  | plain => exact z.n1
  | ring => exact z.n1
theorem sml_mk {k : Kd} {n : Nat} {ss : List Int} (z : Sz k n) : isW k n ss → ∀ i : Nat, i < n → -(100 + (ss.length : Int)) ≤ gt (mk k n ss) i - 0 ∧ gt (mk k n ss) i ≤ 100 + ss.length := by
  have tb : ∀ (ss : List Int), isW k n ss → ∀ p, pvp k n p → (-100 ≤ p ∧ p ≤ 100) → -(100 + (ss.length : Int)) ≤ twd k n ss p ∧ twd k n ss p ≤ 100 + ss.length := by
    intro ss
    induction ss with
    | nil => intro _ p _ h; simp [twd]; exact h
    | cons s ss ih =>
      intro hw p hp h
      have := ih hw.tail p hp h
      have h2 := pv_tw hw.tail hp
      rw [twd, List.length_cons]
      generalize twd k n ss p = q at *
      have ht : -(100 + ((ss.length + 1 : Nat) : Int)) ≤ trn k n s q ∧ trn k n s q ≤ 100 + (ss.length + 1 : Nat) := by
        cases k with
        | plain => simp only [trn]; split <;> (try split) <;> omega
        | ring => simp only [trn]; split <;> (try split) <;> omega
        | mirror =>
          have a := pv_trn hw.head h2 rfl
          have := z.n100
          omega
      exact ht
  intro hw i hi
  have := tb ss hw _ (pv_at (k := k) hi) (by have := z.n100; unfold st0; split <;> omega)
  rw [gt_mk z.g hw hi]
  omega
theorem Od.sml {k : Kd} {n : Nat} {w : List Int} (z : Sz k n) (h : Od k n w) (hc : crs k w ≤ 800) : sml w := by
  obtain ⟨tt, h1, rfl, h3⟩ := od_red z.g h
  intro i
  by_cases hi : i.toNat < n
  · have := sml_mk z h1 i.toNat hi
    have e : gt (mk k n tt) i = gt (mk k n tt) (i.toNat : Nat) := by unfold gt; rw [Int.toNat_natCast]
    rw [e]; omega
  · have : gt (mk k n tt) i = 0 := by
      unfold gt
      rw [List.getD_eq_getElem?_getD, List.getElem?_eq_none (by rw [(Vd_mk z.g h1).len]; omega)]
      rfl
    rw [this]; omega
theorem e_opp {k : Kd} {n : Nat} {w : List Int} (z : Sz k n) (h : Od k n w) : m_opposite_of [.kd k.nm n, il w] = some (il (opp k w)) := by
  have l := (h.vd z.g).len
  exact e_opposite_of (fun x hx => by rw [l]; exact h.plc z x hx) (by rw [l]; exact z.n100)
theorem e_prd {k : Kd} {n : Nat} {u v : List Int} (z : Sz k n) (hu : Od k n u) (hv : Od k n v) (hc : crs k u ≤ 800) : m_product_of [.kd k.nm n, il u, il v] = some (il (prd k u v)) :=
  e_product_of (hu.sml z hc) (fun p hp => by rw [(hu.vd z.g).len]; exact hv.plc z p hp) (by rw [(hv.vd z.g).len]; have := z.n100; omega)
theorem e_crs {k : Kd} {n : Nat} {w : List Int} (z : Sz k n) (h : Od k n w) : m_crossings_of [.kd k.nm n, il w] = some (.int (crs k w)) := by
  have l := (h.vd z.g).len
  exact e_crossings_of (by rw [l]; exact z.n1) (by rw [l]; exact z.n100)
/-- the rest, told -/
def rstD (k : Kd) (u w : List Int) : D := if crs k u + crs k (rst k u w) = crs k w then il (rst k u w) else .non
end M
/-! P10: what lies beneath what: strong exchange, parts of rows, gains and losses. -/
namespace M
section
variable {k : Kd} {n : Nat} {u v w x y : List Int} {ss tt rr : List Int} {s t : Int}
theorem exch_or (gg : gd k n) (hx : Od k n x) (hs : isS k n s) (ht : isS k n t) (e : xd k (ahd k x s) t ≠ xd k x t) : ahd k x s = stp k x t := by
  cases q : xd k x t with
  | false =>
    rw [q] at e
    cases q2 : xd k (ahd k x s) t with
    | false => exact absurd q2 e
    | true => exact exchange gg hx hs ht q q2
  | true =>
    rw [q] at e
    cases q2 : xd k (ahd k x s) t with
    | true => exact absurd q2 e
    | false =>
      have := exchange gg (hx.ahd gg hs) hs ht q2 (by rw [ahd_twice gg hx hs]; exact q)
      rw [ahd_twice gg hx hs] at this
      have e2 := congrArg (fun z => stp k z t) this
      simp only [stp_twice gg (hx.ahd gg hs) ht] at e2
      exact e2.symm
/-- the reflection of a step, carried along -/
def rfx (k : Kd) (y : List Int) (t : Int) : List Int := prd k (opp k y) (ahd k y t)
/-- an order turned by it, or not -/
def inv (k : Kd) (x y : List Int) (t : Int) : Bool := xd k (prd k x (opp k y)) t != xd k (opp k y) t
theorem Od.rfx (gg : gd k n) (hy : Od k n y) (ht : isS k n t) : Od k n (rfx k y t) := (hy.opp gg).prd gg (hy.ahd gg ht)
/-- x r = ((x y^-1) t) y -/
theorem prd_rfx (gg : gd k n) (hx : Od k n x) (hy : Od k n y) (ht : isS k n t) : prd k x (rfx k y t) = prd k (stp k (prd k x (opp k y)) t) y := by
  unfold M.rfx
  have e1 : ahd k y t = prd k (stp k (stW k n) t) y := by unfold ahd; rw [(hy.vd gg).len]
  have ot : Od k n (stp k (stW k n) t) := Od.start.stp ht
  rw [e1, ← prd_assoc gg hx (hy.opp gg) (ot.prd gg hy), ← prd_assoc gg (hx.prd gg (hy.opp gg)) ot hy, prd_stp gg (hx.prd gg (hy.opp gg)) Od.start ht, prd_start' gg (hx.prd gg (hy.opp gg))]
theorem prd_cancel (gg : gd k n) (hx : Od k n x) (hy : Od k n y) : prd k (prd k x y) (opp k y) = x := by
  rw [prd_assoc gg hx hy (hy.opp gg), prd_opp' gg hy, prd_start' gg hx]
theorem prd_cancel' (gg : gd k n) (hx : Od k n x) (hy : Od k n y) : prd k (prd k x (opp k y)) y = x := by
  rw [prd_assoc gg hx (hy.opp gg) hy, prd_opp gg hy, prd_start' gg hx]
theorem rfx_twice (gg : gd k n) (hx : Od k n x) (hy : Od k n y) (ht : isS k n t) : prd k (prd k x (rfx k y t)) (rfx k y t) = x := by
  have o1 := hx.prd gg (hy.opp gg)
  rw [prd_rfx gg (hx.prd gg (hy.rfx gg ht)) hy ht, prd_rfx gg hx hy ht, prd_cancel gg (o1.stp ht) hy, stp_twice gg o1 ht, prd_cancel' gg hx hy]
theorem xd_stp (gg : gd k n) (hx : Od k n x) (ht : isS k n t) : xd k (stp k x t) t = !xd k x t := by
  have c1 := crs_step gg hx ht
  have c2 := crs_step gg (hx.stp ht) ht
  rw [stp_twice gg hx ht] at c2
  cases q1 : xd k x t <;> cases q2 : xd k (stp k x t) t <;> rw [q1] at c1 <;> rw [q2] at c2 <;> simp at c1 c2 ⊢ <;> omega
theorem inv_rfx (gg : gd k n) (hx : Od k n x) (hy : Od k n y) (ht : isS k n t) : inv k (prd k x (rfx k y t)) y t = !inv k x y t := by
  unfold inv
  have o1 := hx.prd gg (hy.opp gg)
  rw [prd_rfx gg hx hy ht, prd_cancel gg (o1.stp ht) hy, xd_stp gg o1 ht]
  cases xd k (prd k x (opp k y)) t <;> cases xd k (opp k y) t <;> rfl
theorem inv_start (gg : gd k n) (hy : Od k n y) : inv k (stW k n) y t = false := by
  unfold inv
  rw [prd_start gg (hy.opp gg)]
  cases xd k (opp k y) t <;> rfl
theorem mk_ahd (gg : gd k n) (hs : isS k n s) (h : isW k n ss) : mk k n (s :: ss) = ahd k (mk k n ss) s := (ahd_mk gg hs h).symm
theorem Od.mk (h : isW k n ss) : Od k n (mk k n ss) := ⟨ss, h, rfl⟩
/-- the strong exchange -/
theorem strong (gg : gd k n) (hy : Od k n y) (ht : isS k n t) : ∀ {ss : List Int}, isW k n ss → inv k (mk k n ss) y t = true → ∃ a s b, ss = a ++ s :: b ∧ mk k n (a ++ b) = prd k (mk k n ss) (rfx k y t)
  | [], _, h => by
    have : mk k n [] = stW k n := rfl
    rw [this, inv_start gg hy] at h
    cases h
  | s :: ss, hw, h => by
    have hs := hw.head
    have ho : Od k n (mk k n ss) := Od.mk hw.tail
    have hr := hy.rfx gg ht
    cases q : inv k (mk k n ss) y t with
    | true =>
      obtain ⟨a, s', b, e1, e2⟩ := strong gg hy ht hw.tail q
      refine ⟨s :: a, s', b, by rw [e1]; rfl, ?_⟩
      have hab : isW k n (a ++ b) := by
        have hwt := hw.tail
        rw [e1] at hwt
        exact hwt.left.app hwt.right.tail
      rw [List.cons_append, mk_ahd gg hs hab, e2, mk_ahd gg hs hw.tail, prd_ahd gg ho hr hs]
    | false =>
      refine ⟨[], s, ss, rfl, ?_⟩
      have o1 := ho.prd gg (hy.opp gg)
      have e1 : ahd k (prd k (mk k n ss) (opp k y)) s = stp k (prd k (mk k n ss) (opp k y)) t := by
        refine exch_or gg o1 hs ht fun e => ?_
        rw [mk_ahd gg hs hw.tail] at h
        unfold inv at h q
        rw [prd_ahd gg ho (hy.opp gg) hs, e, q] at h
        cases h
      rw [List.nil_append, mk_ahd gg hs hw.tail, prd_rfx gg (ho.ahd gg hs) hy ht, prd_ahd gg ho (hy.opp gg) hs, e1, stp_twice gg o1 ht, prd_cancel' gg ho hy]
theorem inv_less (gg : gd k n) (hx : Od k n x) (hy : Od k n y) (ht : isS k n t) (h : inv k x y t = true) : crs k (prd k x (rfx k y t)) < crs k x := by
  obtain ⟨ss, h1, rfl, h3⟩ := od_red gg hx
  obtain ⟨a, s, b, e1, e2⟩ := strong gg hy ht h1 h
  have hab : isW k n (a ++ b) := by
    rw [e1] at h1
    exact h1.left.app h1.right.tail
  have := crs_le gg hab
  rw [← e2, ← h3, e1]
  rw [List.length_append] at this ⊢
  rw [List.length_cons]
  omega
theorem less_inv (gg : gd k n) (hx : Od k n x) (hy : Od k n y) (ht : isS k n t) (h : crs k (prd k x (rfx k y t)) ≤ crs k x) : inv k x y t = true := by
  cases q : inv k x y t with
  | true => rfl
  | false =>
    have := inv_less gg (hx.prd gg (hy.rfx gg ht)) hy ht (by rw [inv_rfx gg hx hy ht, q]; rfl)
    rw [rfx_twice gg hx hy ht] at this
    omega
/-- a reflection is never without effect on the crossings -/
theorem crs_rfx_ne (gg : gd k n) (hx : Od k n x) (hy : Od k n y) (ht : isS k n t) : crs k (prd k x (rfx k y t)) ≠ crs k x := by
  intro e
  have := inv_less gg hx hy ht (less_inv gg hx hy ht (by omega))
  omega
/-- one order lies beneath another one -/
inductive Le (k : Kd) (n : Nat) : List Int → List Int → Prop
  | refl {w : List Int} : Od k n w → Le k n w w
  | step {v w y : List Int} {t : Int} : Le k n v w → Od k n y → isS k n t → crs k (prd k v (rfx k y t)) < crs k v → Le k n (prd k v (rfx k y t)) w
theorem Le.od (gg : gd k n) (h : Le k n u w) : Od k n u ∧ Od k n w := by
  induction h with
  | refl h => exact ⟨h, h⟩
  | step _ hy ht _ ih => exact ⟨ih.1.prd gg (hy.rfx gg ht), ih.2⟩
theorem Le.trans (h1 : Le k n u v) (h2 : Le k n v w) : Le k n u w := by
  induction h1 with
  | refl _ => exact h2
  | step _ hy ht c ih => exact .step (ih h2) hy ht c
theorem Le.crs (h : Le k n u w) : crs k u ≤ crs k w := by
  induction h with
  | refl _ => exact Int.le_refl _
  | step _ _ _ c ih => omega
theorem Le.anti (h : Le k n u w) (e : M.crs k w ≤ M.crs k u) : u = w := by
  cases h with
  | refl _ => rfl
  | step h' _ _ c => have := h'.crs; omega
/-- a step is a reflection -/
theorem stp_rfx (gg : gd k n) (hx : Od k n x) (ht : isS k n t) : prd k x (rfx k (stW k n) t) = stp k x t := by
  rw [prd_rfx gg hx Od.start ht, opp_start gg, prd_start' gg hx, prd_start' gg (hx.stp ht)]
theorem Le.down (gg : gd k n) (hw : Od k n w) (ht : isS k n t) (hx : xd k w t = true) : Le k n (stp k w t) w := by
  have c := crs_step gg hw ht
  rw [hx, if_pos rfl] at c
  have := Le.step (Le.refl hw) Od.start ht (by rw [stp_rfx gg hw ht]; omega)
  rw [stp_rfx gg hw ht] at this
  exact this
theorem Le.up (gg : gd k n) (hw : Od k n w) (ht : isS k n t) (hx : xd k w t = false) : Le k n w (stp k w t) := by
  have := Le.down gg (hw.stp ht) ht (by rw [xd_stp gg hw ht, hx]; rfl)
  rw [stp_twice gg hw ht] at this
  exact this
/-- what lies beneath is made by a part of any row -/
theorem Le.sub (gg : gd k n) (h : Le k n u w) : ∀ {ss : List Int}, isW k n ss → mk k n ss = w → ∃ tt, tt.Sublist ss ∧ mk k n tt = u := by
  induction h with
  | refl _ => intro ss hw e; exact ⟨ss, List.Sublist.refl _, e⟩
  | @step v w y t h' hy ht c ih =>
    intro ss hw e
    obtain ⟨tt, h1, rfl⟩ := ih hw e
    have htt : isW k n tt := fun s m => hw s (h1.subset m)
    obtain ⟨a, s, b, e1, e2⟩ := strong gg hy ht htt (less_inv gg (Od.mk htt) hy ht (by omega))
    refine ⟨a ++ b, List.Sublist.trans ?_ h1, e2⟩
    rw [e1]
    exact List.Sublist.append (List.Sublist.refl _) (List.sublist_cons_self ..)
theorem rfx_stp (gg : gd k n) (hx : Od k n x) (hy : Od k n y) (ht : isS k n t) (hs : isS k n s) : prd k (stp k x s) (rfx k (stp k y s) t) = stp k (prd k x (rfx k y t)) s := by
  have oy := hy.stp hs
  have oxy := hx.prd gg (hy.opp gg)
  have e1 : prd k (stp k x s) (opp k (stp k y s)) = prd k x (opp k y) := by
    have a : prd k (prd k (stp k x s) (opp k (stp k y s))) y = prd k (prd k x (opp k y)) y := by
      have o1 := (hx.stp hs).prd gg (oy.opp gg)
      have b : prd k (prd k (stp k x s) (opp k (stp k y s))) (stp k y s) = stp k x s := prd_cancel' gg (hx.stp hs) oy
      rw [prd_stp gg o1 hy hs] at b
      have c := congrArg (fun z => stp k z s) b
      simp only [stp_twice gg (o1.prd gg hy) hs, stp_twice gg hx hs] at c
      rw [c, prd_cancel' gg hx hy]
    have a2 := congrArg (fun z => prd k z (opp k y)) a
    simp only [prd_cancel gg ((hx.stp hs).prd gg (oy.opp gg)) hy, prd_cancel gg oxy hy] at a2
    exact a2
  rw [prd_rfx gg (hx.stp hs) oy ht, e1, prd_stp gg (oxy.stp ht) hy hs, prd_rfx gg hx hy ht]
/-- both go up by a step -/
theorem Le.lift (gg : gd k n) (hs : isS k n s) (h : Le k n v w) (hx : xd k w s = false) : Le k n (stp k v s) (stp k w s) := by
  induction h with
  | refl h => exact .refl (h.stp hs)
  | @step v w y t h' hy ht c ih =>
    have ih := ih hx
    obtain ⟨ov, ow⟩ := h'.od gg
    have ou := ov.prd gg (hy.rfx gg ht)
    have e := rfx_stp gg ov hy ht hs
    by_cases q : M.crs k (stp k (prd k v (rfx k y t)) s) < M.crs k (stp k v s)
    · rw [← e] at q ⊢
      exact .step ih (hy.stp hs) ht q
    · have ne := crs_rfx_ne gg (ov.stp hs) (hy.stp hs) ht
      rw [e] at ne
      have c1 := crs_step gg ou hs
      have c2 := crs_step gg ov hs
      -- u s = (u)(s), its row that of u and s
      obtain ⟨rr, r1, r2, r3⟩ := od_red gg ou
      have hrs : isW k n (rr ++ [s]) := r1.app (isW.one hs)
      have em : mk k n (rr ++ [s]) = stp k (prd k v (rfx k y t)) s := by rw [mk_snoc, r2]
      have back : prd k (stp k (prd k v (rfx k y t)) s) (rfx k (stp k y s) t) = stp k v s := by
        rw [← e, rfx_twice gg (ov.stp hs) (hy.stp hs) ht]
      have hi : inv k (mk k n (rr ++ [s])) (stp k y s) t = true := by
        rw [em]
        refine less_inv gg (ou.stp hs) (hy.stp hs) ht ?_
        rw [back]; omega
      obtain ⟨a, z, b, e1, e2⟩ := strong gg (hy.stp hs) ht hrs hi
      rw [em, back] at e2
      rcases List.eq_nil_or_concat b with rfl | ⟨b', z', rfl⟩
      · have e1 : rr ++ [s] = a ++ [z] := e1
        obtain ⟨h1, h2⟩ := List.append_inj' e1 rfl
        rw [List.append_nil] at e2
        rw [← h1, r2] at e2
        have : stp k (prd k v (rfx k y t)) s = v := by rw [e2, stp_twice gg ov hs]
        rw [this]
        exact h'.trans (Le.up gg ow hs hx)
      · exfalso
        rw [List.concat_eq_append] at e1 e2
        have e1' : rr ++ [s] = (a ++ z :: b') ++ [z'] := by rw [e1]; simp
        obtain ⟨h1, h2⟩ := List.append_inj' e1' rfl
        have hz : s = z' := by injection h2
        subst hz
        have hab : isW k n (a ++ b') := by
          rw [h1] at r1
          exact r1.left.app r1.right.tail
        have e3 : stp k (mk k n (a ++ b')) s = stp k v s := by rw [← mk_snoc, ← e2, List.append_assoc]
        have e4 := congrArg (fun z => stp k z s) e3
        simp only [stp_twice gg (Od.mk hab) hs, stp_twice gg ov hs] at e4
        have := crs_le gg hab
        rw [e4] at this
        rw [h1, List.length_append, List.length_cons] at r3
        rw [List.length_append] at this
        omega
theorem Le.gR (gg : gd k n) (hs : isS k n s) (hw : Od k n w) : Le k n w (gR k w s) := by
  cases q : xd k w s with
  | true => rw [gR_t q]; exact .refl hw
  | false => rw [gR_f q]; exact Le.up gg hw hs q
/-- what a part of a least row makes lies beneath -/
theorem sub_red (gg : gd k n) : ∀ {rr : List Int}, isW k n rr → (rr.length : Int) = M.crs k (mk k n rr) → ∀ {tt : List Int}, tt.Sublist rr → Le k n (mk k n tt) (mk k n rr) := by
  intro rr
  refine snoc_ind (P := fun rr => isW k n rr → (rr.length : Int) = M.crs k (mk k n rr) → ∀ {tt : List Int}, tt.Sublist rr → Le k n (mk k n tt) (mk k n rr)) (fun _ _ tt ht => ?_) (fun rr a ih hw hl tt ht => ?_) rr
  · rw [List.sublist_nil.mp ht]; exact .refl Od.start
  · have ha := hw.right.head
    have c1 := crs_snoc gg hw.left ha
    have c2 := crs_le gg hw.left
    rw [List.length_append, List.length_singleton] at hl
    have xa : xd k (mk k n rr) a = false := by
      cases q : xd k (mk k n rr) a with
      | false => rfl
      | true => rw [q, if_pos rfl] at c1; omega
    rw [xa, if_neg (by simp)] at c1
    have ih := fun {tt} => ih hw.left (by omega) (tt := tt)
    rcases List.sublist_append_iff.mp ht with ⟨l1, l2, rfl, s1, s2⟩
    rw [mk_snoc]
    rcases List.sublist_cons_iff.mp s2 with s3 | ⟨r, rfl, s3⟩
    · rw [List.sublist_nil.mp s3, List.append_nil]
      exact (ih s1).trans (Le.up gg (Od.mk hw.left) ha xa)
    · rw [List.sublist_nil.mp s3, mk_snoc]
      exact Le.lift gg ha (ih s1) xa
/-- with a fall of the greater one: what is without it lies beneath the one without it -/
theorem Le.key (gg : gd k n) (hs : isS k n s) (h : Le k n v w) (hx : xd k w s = true) : Le k n v (stp k w s) ∨ Le k n (stp k v s) (stp k w s) := by
  obtain ⟨ov, ow⟩ := h.od gg
  have o' := ow.stp hs
  obtain ⟨rr, r1, r2, r3⟩ := od_red gg o'
  obtain ⟨tt, h1, h2⟩ := h.sub gg (r1.app (isW.one hs)) (by rw [mk_snoc, r2, stp_twice gg ow hs])
  have red : ∀ {tt : List Int}, tt.Sublist rr → Le k n (mk k n tt) (stp k w s) := fun {tt} ht => by
    rw [← r2]; exact sub_red gg r1 (by rw [r2]; exact r3) ht
  rcases List.sublist_append_iff.mp h1 with ⟨l1, l2, rfl, s1, s2⟩
  rcases List.sublist_cons_iff.mp s2 with s3 | ⟨r, rfl, s3⟩
  · rw [List.sublist_nil.mp s3, List.append_nil] at h2
    rw [← h2]; exact .inl (red s1)
  · rw [List.sublist_nil.mp s3, mk_snoc] at h2
    have hl1 : isW k n l1 := fun z m => r1 z (s1.subset m)
    rw [← h2, stp_twice gg (Od.mk hl1) hs]
    exact .inr (red s1)
theorem Le.fall (gg : gd k n) (hs : isS k n s) (h : Le k n v w) (hx : xd k w s = true) : Le k n (stp k v s) w := by
  obtain ⟨ov, ow⟩ := h.od gg
  have x' : xd k (stp k w s) s = false := by rw [xd_stp gg ow hs, hx]; rfl
  rcases h.key gg hs hx with h' | h'
  · have := Le.lift gg hs h' x'
    rw [stp_twice gg ow hs] at this
    exact this
  · exact h'.trans (Le.down gg ow hs hx)
end
end M
/-! P11: losses; what lies beneath, by rows; what is lacking. -/
namespace M
section
variable {k : Kd} {n : Nat} {u v w x y g : List Int} {ss tt rr row : List Int} {s t : Int}
/-- a step taken off behind, ahead -/
def lR (k : Kd) (x : List Int) (s : Int) : List Int := if xd k x s then stp k x s else x
def lL (k : Kd) (x : List Int) (s : Int) : List Int := if xd k (opp k x) s then ahd k x s else x
theorem lR_t (e : xd k x s = true) : lR k x s = stp k x s := if_pos e
theorem lR_f (e : xd k x s = false) : lR k x s = x := if_neg (by rw [e]; simp)
theorem Od.lR (h : Od k n x) (hs : isS k n s) : Od k n (lR k x s) := by
  unfold M.lR; split
  · exact h.stp hs
  · exact h
theorem Od.lL (gg : gd k n) (h : Od k n x) (hs : isS k n s) : Od k n (lL k x s) := by
  unfold M.lL; split
  · exact h.ahd gg hs
  · exact h
theorem opp_lL (gg : gd k n) (h : Od k n x) (hs : isS k n s) : opp k (lL k x s) = lR k (opp k x) s := by
  unfold M.lL M.lR
  split
  · exact opp_ahd gg h hs
  · rfl
theorem opp_lR (gg : gd k n) (h : Od k n x) (hs : isS k n s) : opp k (lR k x s) = lL k (opp k x) s := by
  unfold M.lL M.lR
  rw [opp_opp gg h]
  split
  · exact opp_stp gg h hs
  · rfl
theorem Le.lR (gg : gd k n) (h : Od k n x) (hs : isS k n s) : Le k n (lR k x s) x := by
  cases q : xd k x s with
  | true => rw [lR_t q]; exact Le.down gg h hs q
  | false => rw [lR_f q]; exact .refl h
theorem Le.eq (h1 : Le k n u w) (h2 : Le k n w u) : u = w := h1.anti h2.crs
theorem xd_gR (gg : gd k n) (h : Od k n x) (hs : isS k n s) : xd k (gR k x s) s = true := by
  cases q : xd k x s with
  | true => rw [gR_t q]; exact q
  | false => rw [gR_f q, xd_stp gg h hs, q]; rfl
/-- gain and loss belong to one another -/
theorem adj (gg : gd k n) (hg : Od k n g) (hx : Od k n x) (hs : isS k n s) : Le k n g (gR k x s) ↔ Le k n (lR k g s) x := by
  constructor
  · intro h
    cases q : xd k x s with
    | true =>
      rw [gR_t q] at h
      exact (Le.lR gg hg hs).trans h
    | false =>
      rw [gR_f q] at h
      have q2 : xd k (stp k x s) s = true := by rw [xd_stp gg hx hs, q]; rfl
      have h3 := h.key gg hs q2
      rw [stp_twice gg hx hs] at h3
      cases q3 : xd k g s with
      | true =>
        rw [lR_t q3]
        rcases h3 with h3 | h3
        · exact (Le.down gg hg hs q3).trans h3
        · exact h3
      | false =>
        rw [lR_f q3]
        rcases h3 with h3 | h3
        · exact h3
        · exact (Le.up gg hg hs q3).trans h3
  · intro h
    have h2 := h.trans (Le.gR gg hs hx)
    cases q3 : xd k g s with
    | false => rw [lR_f q3] at h2; exact h2
    | true =>
      rw [lR_t q3] at h2
      have := Le.fall gg hs h2 (xd_gR gg hx hs)
      rw [stp_twice gg hg hs] at this
      exact this
/-- a row taken off, from its end -/
def snk (k : Kd) (x : List Int) (row : List Int) : List Int := row.reverse.foldl (lR k) x
theorem snk_cons : snk k x (s :: row) = lR k (snk k x row) s := by
  unfold snk
  rw [List.reverse_cons, List.foldl_append]
  rfl
theorem snk_snoc : snk k x (row ++ [s]) = snk k (lR k x s) row := by
  unfold snk
  rw [List.reverse_append]
  rfl
theorem Od.snk (h : Od k n x) : ∀ {row : List Int}, isW k n row → Od k n (snk k x row)
  | [], _ => h
  | s :: row, hw => by rw [snk_cons]; exact (Od.snk h hw.tail).lR hw.head
theorem snk_adj (gg : gd k n) (hg : Od k n g) : ∀ {row x : List Int}, Od k n x → isW k n row → (Le k n g (run k x row) ↔ Le k n (snk k g row) x)
  | [], x, _, _ => Iff.rfl
  | s :: row, x, hx, hw => by
    have e : run k x (s :: row) = run k (gR k x s) row := rfl
    rw [e, snk_cons, snk_adj gg hg (hx.gR hw.head) hw.tail]
    exact adj gg (Od.snk hg hw.tail) hx hw.head
theorem Le.start_iff (gg : gd k n) (h : Od k n x) : Le k n x (stW k n) ↔ x = stW k n := by
  constructor
  · intro h1
    refine h1.anti ?_
    rw [crs_start]; exact crs_nonneg k x
  · rintro rfl; exact .refl Od.start
theorem Le.of_start (gg : gd k n) (h : Od k n x) : Le k n (stW k n) x := by
  obtain ⟨rr, r1, r2, r3⟩ := od_red gg h
  rw [← r2]
  exact sub_red gg r1 (by rw [r2]; exact r3) (List.nil_sublist _)
/-- beneath what a row greedily makes -/
theorem blw (gg : gd k n) (hu : Od k n u) (hw : isW k n row) : snk k u row = stW k n ↔ Le k n u (run k (stW k n) row) := by
  rw [snk_adj gg hu Od.start hw, Le.start_iff gg (Od.snk hu hw)]
/-! ### greedy products -/
theorem F_cons (gg : gd k n) : ∀ {ss : List Int}, isW k n ss → isS k n s → run k (stW k n) (s :: ss) = gL k (run k (stW k n) ss) s := by
  intro ss
  refine snoc_ind (P := fun ss => isW k n ss → isS k n s → run k (stW k n) (s :: ss) = gL k (run k (stW k n) ss) s) (fun _ hs => ?_) (fun ss t ih hw hs => ?_) ss
  · show gR k (stW k n) s = _
    rw [← gain_start gg hs]; rfl
  · have ih := ih hw.left hs
    have e1 : run k (stW k n) (s :: (ss ++ [t])) = gR k (run k (stW k n) (s :: ss)) t := by
      unfold run
      rw [← List.cons_append, List.foldl_append]; rfl
    have e2 : run k (stW k n) (ss ++ [t]) = gR k (run k (stW k n) ss) t := by
      unfold run
      rw [List.foldl_append]; rfl
    rw [e1, e2, ih, ← gain_comm gg (Od.run Od.start hw.left) hs hw.right.head]
theorem F_app (gg : gd k n) : ∀ {ss tt : List Int}, isW k n ss → isW k n tt → run k (stW k n) (ss ++ tt) = ss.foldr (fun s z => gL k z s) (run k (stW k n) tt)
  | [], tt, _, _ => rfl
  | s :: ss, tt, h1, h2 => by
    rw [List.cons_append, F_cons gg (h1.tail.app h2) h1.head, F_app gg h1.tail h2]
    rfl
theorem run_app (x ss tt : List Int) : run k x (ss ++ tt) = run k (run k x ss) tt := by unfold run; rw [List.foldl_append]
/-- a least row makes greedily what it makes -/
theorem run_red (gg : gd k n) : ∀ {rr : List Int}, isW k n rr → (rr.length : Int) = crs k (mk k n rr) → run k (stW k n) rr = mk k n rr := by
  intro rr
  refine snoc_ind (P := fun rr => isW k n rr → (rr.length : Int) = M.crs k (mk k n rr) → run k (stW k n) rr = mk k n rr) (fun _ _ => rfl) (fun rr a ih hw hl => ?_) rr
  have ha := hw.right.head
  have c1 := crs_snoc gg hw.left ha
  have c2 := crs_le gg hw.left
  rw [List.length_append, List.length_singleton] at hl
  have xa : xd k (mk k n rr) a = false := by
    cases q : xd k (mk k n rr) a with
    | false => rfl
    | true => rw [q, if_pos rfl] at c1; omega
  rw [xa, if_neg (by simp)] at c1
  rw [run_app, ih hw.left (by omega), mk_snoc]
  show gR k (mk k n rr) a = _
  rw [gR_f xa]
/-- a least row of an order -/
def Lr (k : Kd) (n : Nat) (w row : List Int) : Prop := isW k n row ∧ mk k n row = w ∧ (row.length : Int) = crs k w
theorem Lr.ex (gg : gd k n) (h : Od k n w) : ∃ row, Lr k n w row := od_red gg h
theorem Lr.run (gg : gd k n) (h : Lr k n w row) : M.run k (stW k n) row = w := by
  obtain ⟨h1, h2, h3⟩ := h
  rw [run_red gg h1 (by rw [h2]; exact h3), h2]
theorem Lr.rev (gg : gd k n) (h : Lr k n w row) : Lr k n (opp k w) row.reverse := by
  obtain ⟨h1, h2, h3⟩ := h
  have ho : Od k n w := ⟨row, h1, h2.symm⟩
  exact ⟨h1.rev, by rw [← opp_mk gg h1, h2], by rw [List.length_reverse, crs_opp gg ho, h3]⟩
/-- gains by a row depend on what it greedily makes alone -/
theorem run_same (gg : gd k n) (hx : Od k n x) (h1 : isW k n ss) (h2 : isW k n tt) (e : run k (stW k n) ss = run k (stW k n) tt) : run k x ss = run k x tt := by
  obtain ⟨row, hr⟩ := Lr.ex gg hx
  rw [← hr.run gg, ← run_app, ← run_app, F_app gg hr.1 h1, F_app gg hr.1 h2, e]
theorem snk_same (gg : gd k n) (hg : Od k n g) (h1 : isW k n ss) (h2 : isW k n tt) (e : run k (stW k n) ss = run k (stW k n) tt) : snk k g ss = snk k g tt := by
  have key : ∀ {ss tt : List Int}, isW k n ss → isW k n tt → run k (stW k n) ss = run k (stW k n) tt → Le k n (snk k g ss) (snk k g tt) := by
    intro ss tt h1 h2 e
    have o2 := Od.snk hg h2
    rw [← snk_adj gg hg o2 h1, run_same gg o2 h1 h2 e, snk_adj gg hg o2 h2]
    exact .refl o2
  exact (key h1 h2 e).eq (key h2 h1 e.symm)
theorem Le.opp (gg : gd k n) (h : Le k n u w) : Le k n (opp k u) (opp k w) := by
  obtain ⟨ou, ow⟩ := h.od gg
  obtain ⟨row, hr⟩ := Lr.ex gg ow
  obtain ⟨tt, h1, h2⟩ := h.sub gg hr.1 hr.2.1
  have hrr := hr.rev gg
  have htt : isW k n tt := fun s m => hr.1 s (h1.subset m)
  have := sub_red gg hrr.1 (by rw [hrr.2.1]; exact hrr.2.2) (List.reverse_sublist.mpr h1)
  rw [hrr.2.1, ← opp_mk gg htt, h2] at this
  exact this
theorem Le.opp_iff (gg : gd k n) (hu : Od k n u) (hw : Od k n w) : Le k n (M.opp k u) (M.opp k w) ↔ Le k n u w := by
  constructor
  · intro h
    have := h.opp gg
    rw [opp_opp gg hu, opp_opp gg hw] at this
    exact this
  · exact fun h => h.opp gg
/-- the greedy product, by any row of the second -/
theorem opp_run (gg : gd k n) : ∀ {ss x : List Int}, Od k n x → isW k n ss → opp k (run k x ss) = ss.foldl (fun z s => gL k z s) (opp k x)
  | [], x, _, _ => rfl
  | s :: ss, x, hx, hw => by
    show opp k (run k (gR k x s) ss) = ss.foldl _ (gL k (opp k x) s)
    rw [opp_run gg (hx.gR hw.head) hw.tail]
    congr 1
    unfold gR gL
    rw [opp_opp gg hx]
    split
    · rfl
    · exact opp_stp gg hx hw.head
/-- x * y = run x (row of y): from the other side -/
theorem run_opp (gg : gd k n) (h1 : isW k n ss) (h2 : isW k n tt) : opp k (run k (run k (stW k n) ss) tt) = run k (run k (stW k n) tt.reverse) ss.reverse := by
  have gen : ∀ {ss : List Int}, isW k n ss → opp k (run k (stW k n) ss) = run k (stW k n) ss.reverse := by
    intro ss
    induction ss with
    | nil => intro _; exact opp_start gg
    | cons s ss ih =>
      intro hw
      rw [F_cons gg hw.tail hw.head, opp_gL gg (Od.run Od.start hw.tail) hw.head, ih hw.tail, List.reverse_cons, run_app]
      rfl
  rw [← run_app, ← run_app, gen (h1.app h2), List.reverse_append]
/-- what is lacking behind: x * y above g, by y -/
def lck (k : Kd) (g row : List Int) : List Int := row.foldl (lL k) g
theorem Od.lck (gg : gd k n) : ∀ {row g : List Int}, Od k n g → isW k n row → Od k n (lck k g row)
  | [], g, h, _ => h
  | s :: row, g, h, hw => by
    show Od k n (M.lck k (M.lL k g s) row)
    exact Od.lck gg (h.lL gg hw.head) hw.tail
theorem opp_lck (gg : gd k n) : ∀ {row g : List Int}, Od k n g → isW k n row → opp k (lck k g row) = snk k (opp k g) row.reverse
  | [], g, h, _ => rfl
  | s :: row, g, h, hw => by
    show opp k (lck k (lL k g s) row) = _
    rw [opp_lck gg (h.lL gg hw.head) hw.tail, opp_lL gg h hw.head, List.reverse_cons, snk_snoc]
theorem lck_adj (gg : gd k n) (hg : Od k n g) (h1 : isW k n ss) (h2 : isW k n tt) : Le k n g (run k (run k (stW k n) ss) tt) ↔ Le k n (lck k g ss) (run k (stW k n) tt) := by
  have o1 := Od.run (Od.run (Od.start (k := k)) h1) h2
  have o2 := Od.lck gg hg h1
  have o3 := Od.run (Od.start (k := k)) h2
  rw [← Le.opp_iff gg hg o1, ← Le.opp_iff gg o2 o3, run_opp gg h1 h2, opp_lck gg hg h1, snk_adj gg (hg.opp gg) (Od.run Od.start h2.rev) h1.rev]
  have : opp k (run k (stW k n) tt) = run k (stW k n) tt.reverse := by
    have := run_opp gg (ss := []) (tt := tt) isW.nil h2
    exact this
  rw [this]
theorem lck_same (gg : gd k n) (hg : Od k n g) (h1 : isW k n ss) (h2 : isW k n tt) (e : run k (stW k n) ss = run k (stW k n) tt) : lck k g ss = lck k g tt := by
  have o1 := Od.lck gg hg h1
  have o2 := Od.lck gg hg h2
  rw [← opp_opp gg o1, ← opp_opp gg o2, opp_lck gg hg h1, opp_lck gg hg h2]
  congr 1
  refine snk_same gg (hg.opp gg) h1.rev h2.rev ?_
  have r1 := run_opp gg (ss := []) (tt := ss) isW.nil h1
  have r2 := run_opp gg (ss := []) (tt := tt) isW.nil h2
  have r1 : opp k (run k (stW k n) ss) = run k (stW k n) ss.reverse := r1
  have r2 : opp k (run k (stW k n) tt) = run k (stW k n) tt.reverse := r2
  rw [← r1, ← r2, e]
end
end M
/-! P12: what is lacking from both sides; parts kept; least rows found step by step; layers together; deeds. -/
namespace M
section
variable {k : Kd} {n : Nat} {u v w x y g : List Int} {ss tt rr row : List Int} {s t : Int}
theorem lck_snk (gg : gd k n) (hg : Od k n g) (h1 : isW k n ss) (h2 : isW k n tt) : lck k (snk k g tt) ss = snk k (lck k g ss) tt := by
  have oa := Od.lck gg (Od.snk hg h2) h1
  have ob := Od.snk (Od.lck gg hg h1) h2
  have key : ∀ {y : List Int}, Od k n y → (Le k n (lck k (snk k g tt) ss) y ↔ Le k n (snk k (lck k g ss) tt) y) := by
    intro y hy
    obtain ⟨yy, hr⟩ := Lr.ex gg hy
    rw [← hr.run gg, ← lck_adj gg (Od.snk hg h2) h1 hr.1, ← snk_adj gg (Od.lck gg hg h1) (Od.run Od.start hr.1) h2,
      ← snk_adj gg hg (Od.run (Od.run Od.start h1) hr.1) h2, ← run_app, ← run_app, ← run_app]
    rw [← lck_adj gg hg h1 (hr.1.app h2), ← run_app]
  exact ((key ob).mpr (.refl ob)).eq ((key oa).mp (.refl oa))
/-! ### parts of a row -/
theorem snk_app (x a b : List Int) : snk k x (a ++ b) = snk k (snk k x b) a := by
  unfold snk; rw [List.reverse_append, List.foldl_append]
def kp (k : Kd) (x : List Int) : List Int → List Int
  | [] => []
  | s :: row => if xd k (snk k x row) s then s :: kp k x row else kp k x row
theorem kp_app (x : List Int) : ∀ a b : List Int, kp k x (a ++ b) = kp k (snk k x b) a ++ kp k x b
  | [], b => rfl
  | s :: a, b => by
    have e1 : kp k x (s :: (a ++ b)) = if xd k (snk k x (a ++ b)) s then s :: kp k x (a ++ b) else kp k x (a ++ b) := rfl
    have e2 : kp k (snk k x b) (s :: a) = if xd k (snk k (snk k x b) a) s then s :: kp k (snk k x b) a else kp k (snk k x b) a := rfl
    rw [List.cons_append, e1, e2, snk_app, kp_app x a b]
    split <;> rfl
theorem kp_sub (x : List Int) : ∀ row : List Int, (kp k x row).Sublist row
  | [] => .slnil
  | s :: row => by
    unfold kp
    split
    · exact (kp_sub x row).cons₂ s
    · exact (kp_sub x row).cons s
theorem isW.sub (h : isW k n ss) (b : tt.Sublist ss) : isW k n tt := fun s m => h s (b.subset m)
theorem kp_all (gg : gd k n) (hx : Od k n x) : ∀ {row : List Int}, isW k n row → (kp k x row).foldl (stp k) (snk k x row) = x
  | [], _ => rfl
  | s :: row, hw => by
    have ih := kp_all gg hx hw.tail
    have ho := Od.snk hx hw.tail
    unfold kp
    rw [snk_cons]
    cases q : xd k (snk k x row) s with
    | true =>
      rw [if_pos rfl, lR_t q, List.foldl_cons, stp_twice gg ho hw.head]; exact ih
    | false =>
      rw [if_neg (by simp), lR_f q]; exact ih
theorem kp_mk (gg : gd k n) (hx : Od k n x) (hw : isW k n row) (e : snk k x row = stW k n) : mk k n (kp k x row) = x := by
  have := kp_all gg hx hw
  rw [e] at this; exact this
/-! ### a least row, found step by step -/
def lrw (pick : List Int → Int) (k : Kd) : Nat → List Int → List Int
  | 0, _ => []
  | m + 1, w => if fls k w = [] then [] else lrw pick k m (stp k w (pick (fls k w))) ++ [pick (fls k w)]
abbrev Pk (pick : List Int → Int) : Prop := ∀ l : List Int, l ≠ [] → pick l ∈ l
theorem mem_fls (hl : w.length = n) : s ∈ fls k w ↔ isS k n s ∧ xd k w s = true := by
  unfold fls
  rw [List.mem_filter, hl]
  exact and_congr mem_stepsL Iff.rfl
theorem Od.len (gg : gd k n) (h : Od k n w) : w.length = n := (h.vd gg).len
theorem fls_nil (gg : gd k n) (h : Od k n w) : fls k w = [] ↔ w = stW k n := by
  constructor
  · intro e
    refine start_of (h.vd gg) gg.1 gg.2 fun s hs => ?_
    cases q : xd k w s with
    | false => rfl
    | true =>
      have := (mem_fls (h.len gg)).mpr ⟨hs, q⟩
      rw [e] at this; cases this
  · rintro rfl
    apply List.eq_nil_iff_forall_not_mem.mpr
    intro s m
    obtain ⟨hs, q⟩ := (mem_fls (h.len gg)).mp m
    have := crs_step gg h hs
    rw [q, crs_start, if_pos rfl] at this
    have h0 := crs_nonneg k (stp k (stW k n) s)
    omega
theorem lrw_Lr {pick : List Int → Int} (hp : Pk pick) (gg : gd k n) : ∀ (m : Nat) {w : List Int}, Od k n w → crs k w = m → Lr k n w (lrw pick k m w)
  | 0, w, h, e => by
    have := crs_zero gg h e
    subst this
    exact ⟨isW.nil, rfl, by rw [crs_start]; rfl⟩
  | m + 1, w, h, e => by
    unfold lrw
    by_cases q : fls k w = []
    · have := (fls_nil gg h).mp q
      rw [this, crs_start] at e
      omega
    · rw [if_neg q]
      obtain ⟨hs, hx⟩ := (mem_fls (h.len gg)).mp (hp _ q)
      have c := crs_step gg h hs
      rw [hx, if_pos rfl] at c
      obtain ⟨r1, r2, r3⟩ := lrw_Lr hp gg m (h.stp hs) (by omega)
      refine ⟨r1.app (isW.one hs), ?_, ?_⟩
      · rw [mk_snoc, r2, stp_twice gg h hs]
      · rw [List.length_append, List.length_singleton]
        have : (((lrw pick k m (stp k w (pick (fls k w)))).length + 1 : Nat) : Int) = ((lrw pick k m (stp k w (pick (fls k w)))).length : Int) + 1 := by omega
        rw [this, r3]; omega
def ler (pick : List Int → Int) (k : Kd) (w : List Int) : List Int := lrw pick k (crs k w).toNat w
theorem ler_Lr {pick : List Int → Int} (hp : Pk pick) (gg : gd k n) (h : Od k n w) : Lr k n w (ler pick k w) :=
  lrw_Lr hp gg _ h (by have := crs_nonneg k w; omega)
theorem Lr.same (gg : gd k n) (hx : Od k n x) (h1 : Lr k n w ss) (h2 : Lr k n w tt) : M.run k x ss = M.run k x tt := run_same gg hx h1.1 h2.1 (by rw [h1.run gg, h2.run gg])
theorem Lr.snk (gg : gd k n) (hx : Od k n x) (h1 : Lr k n w ss) (h2 : Lr k n w tt) : M.snk k x ss = M.snk k x tt := snk_same gg hx h1.1 h2.1 (by rw [h1.run gg, h2.run gg])
theorem Lr.lck (gg : gd k n) (hx : Od k n x) (h1 : Lr k n w ss) (h2 : Lr k n w tt) : M.lck k x ss = M.lck k x tt := lck_same gg hx h1.1 h2.1 (by rw [h1.run gg, h2.run gg])
theorem Lr.od (h : Lr k n w ss) : Od k n w := ⟨ss, h.1, h.2.1.symm⟩
/-- by a least row: beneath -/
theorem blw' (gg : gd k n) (hu : Od k n u) (h : Lr k n w ss) : M.snk k u ss = stW k n ↔ Le k n u w := by rw [blw gg hu h.1, h.run gg]
/-! ### pieces of least rows -/
theorem Lr.app (gg : gd k n) (h1 : isW k n ss) (h2 : isW k n tt) (h : ((ss ++ tt).length : Int) = crs k (mk k n (ss ++ tt))) : Lr k n (mk k n ss) ss ∧ Lr k n (mk k n tt) tt := by
  have c := crs_app gg h1 h2
  have c1 := crs_le gg h1
  have c2 := crs_le gg h2
  rw [List.length_append] at h
  exact ⟨⟨h1, rfl, by omega⟩, ⟨h2, rfl, by omega⟩⟩
theorem rst_app (gg : gd k n) (h1 : isW k n ss) (h2 : isW k n tt) : rst k (mk k n ss) (mk k n (ss ++ tt)) = mk k n tt := by
  unfold rst
  rw [opp_mk gg h1, prd_mk gg h1.rev (h1.app h2), ← List.append_assoc]
  have := mk_rev_self gg h1
  exact mk_app_l (ss := ss.reverse ++ ss) (tt := []) this tt
theorem lck_row (gg : gd k n) : ∀ {ss tt : List Int}, isW k n ss → isW k n tt → ((ss ++ tt).length : Int) = crs k (mk k n (ss ++ tt)) → lck k (mk k n (ss ++ tt)) ss = mk k n tt
  | [], tt, _, _, _ => rfl
  | s :: ss, tt, h1, h2, e => by
    have hw := h1.tail.app h2
    have o := Od.mk (k := k) (n := n) hw
    have os := Od.mk (k := k) (n := n) (ss := s :: (ss ++ tt)) (isW.cons h1.head hw)
    have e1 : mk k n (s :: (ss ++ tt)) = ahd k (mk k n (ss ++ tt)) s := mk_ahd gg h1.head hw
    have c1 := crs_le gg hw
    have c2 := crs_ahd gg o h1.head
    have c3 : crs k (mk k n (s :: (ss ++ tt))) = ((ss ++ tt).length : Int) + 1 := by
      have : s :: ss ++ tt = s :: (ss ++ tt) := rfl
      rw [this] at e
      rw [← e, List.length_cons]; omega
    have q : xd k (opp k (mk k n (s :: (ss ++ tt)))) s = true := by
      have c4 := crs_ahd gg os h1.head
      have e2 : ahd k (mk k n (s :: (ss ++ tt))) s = mk k n (ss ++ tt) := by rw [e1, ahd_twice gg o h1.head]
      rw [e2] at c4
      cases q : xd k (opp k (mk k n (s :: (ss ++ tt)))) s with
      | true => rfl
      | false => rw [q, if_neg (by simp)] at c4; omega
    have e2 : lL k (mk k n (s :: (ss ++ tt))) s = mk k n (ss ++ tt) := by
      unfold lL
      rw [if_pos q, e1, ahd_twice gg o h1.head]
    show lck k (lL k (mk k n (s :: (ss ++ tt))) s) ss = _
    rw [e2]
    refine lck_row gg h1.tail h2 ?_
    rw [← e1] at c2
    split at c2 <;> omega
/-- what lacks behind an order that begins the goal is the rest -/
theorem lck_bg (gg : gd k n) (hu : Od k n u) (hg : Od k n g) (hr : Lr k n u ss) (b : bg k u g) : lck k g ss = rst k u g := by
  obtain ⟨tt, ht⟩ := Lr.ex gg (Od.rst gg hu hg)
  have e : mk k n (ss ++ tt) = g := by
    rw [← prd_mk gg hr.1 ht.1, hr.2.1, ht.2.1]
    exact prd_back gg hu hg
  have := lck_row gg hr.1 ht.1 (by rw [e, List.length_append, ← b, ← hr.2.2, ← ht.2.2]; omega)
  rw [e, ht.2.1] at this
  exact this
/-! ### greedy products, layers -/
theorem Le.run_r (gg : gd k n) : ∀ {row x : List Int}, Od k n x → isW k n row → Le k n x (run k x row)
  | [], x, hx, _ => .refl hx
  | s :: row, x, hx, hw => (Le.gR gg hw.head hx).trans (Le.run_r gg (hx.gR hw.head) hw.tail)
theorem Le.run_l (gg : gd k n) (hx : Od k n x) (hw : isW k n row) : Le k n (run k (stW k n) row) (run k x row) := by
  have o := Od.run (Od.start (k := k)) hw
  rw [snk_adj gg o hx hw, (blw gg o hw).mpr (.refl o)]
  exact Le.of_start gg hx
theorem crs_gR (gg : gd k n) (h : Od k n x) (hs : isS k n s) : crs k (gR k x s) ≤ crs k x + 1 := by
  have c := crs_step gg h hs
  cases q : xd k x s with
  | true => rw [gR_t q]; omega
  | false => rw [gR_f q, c, q, if_neg (by simp)]; exact Int.le_refl _
theorem crs_run (gg : gd k n) : ∀ {row x : List Int}, Od k n x → isW k n row → crs k (run k x row) ≤ crs k x + row.length
  | [], x, _, _ => by simp [run]
  | s :: row, x, hx, hw => by
    have c := crs_run gg (hx.gR hw.head) hw.tail
    have d := crs_gR gg hx hw.head
    show crs k (run k (gR k x s) row) ≤ _
    rw [List.length_cons]; omega
/-- a deed at a seam: the fall of the lower layer goes ahead of the upper one, or away from there -/
theorem deed_low (gg : gd k n) (hu : Od k n u) (hv : Od k n v) (hs : isS k n s) (hx : xd k u s = true) (h1 : Lr k n v ss) (h2 : Lr k n (ahd k v s) tt) : run k u tt = run k u ss := by
  have ha := hv.ahd gg hs
  have go : ∀ {v ss tt : List Int}, Od k n v → Lr k n v ss → Lr k n (ahd k v s) tt → xd k (opp k v) s = false → run k u tt = run k u ss := by
    intro v ss tt hv h1 h2 q
    have e : run k (stW k n) tt = run k (stW k n) (s :: ss) := by
      rw [h2.run gg, F_cons gg h1.1 hs, h1.run gg, gL_f q]
    rw [run_same gg hu h2.1 (isW.cons hs h1.1) e]
    show run k (gR k u s) ss = _
    rw [gR_t hx]
  cases q : xd k (opp k v) s with
  | false => exact go hv h1 h2 q
  | true =>
    refine (go (v := ahd k v s) ha h2 (by rw [ahd_twice gg hv hs]; exact h1) ?_).symm
    rw [opp_ahd gg hv hs, xd_stp gg (hv.opp gg) hs, q]; rfl
/-- the head of the upper layer goes behind the lower one, or away from there -/
theorem deed_up (gg : gd k n) (hu : Od k n u) (hv : Od k n v) (hs : isS k n s) (hx : xd k (opp k v) s = true) (h1 : Lr k n v ss) : run k (stp k u s) ss = run k u ss := by
  have e : run k (stW k n) (s :: ss) = run k (stW k n) ss := by
    rw [F_cons gg h1.1 hs, h1.run gg, gL_t hx]
  have e2 : ∀ {u : List Int}, Od k n u → run k (gR k u s) ss = run k u ss := fun hu => run_same gg hu (isW.cons hs h1.1) h1.1 e
  cases q : xd k u s with
  | false => rw [← gR_f q]; exact e2 hu
  | true =>
    have := e2 (hu.stp hs)
    have q2 : xd k (stp k u s) s = false := by rw [xd_stp gg hu hs, q]; rfl
    rw [gR_f q2, stp_twice gg hu hs] at this
    exact this.symm
def hd0 (l : List Int) : Int := l.headD 0
theorem pk_hd : Pk hd0 := fun l h => by
  cases l with
  | nil => exact absurd rfl h
  | cons a l => exact List.mem_cons_self ..
def ls0 (l : List Int) : Int := l.getLastD 0
theorem pk_ls : Pk ls0 := fun l h => by
  unfold ls0
  rw [List.getLastD_eq_getLast?, List.getLast?_eq_some_getLast h]
  exact List.getLast_mem h
/-- the rows of layers put together; their whole -/
def rws (k : Kd) (ls : List (List Int)) : List Int := ls.flatMap (ler hd0 k)
def whl (k : Kd) (n : Nat) (ls : List (List Int)) : List Int := run k (stW k n) (rws k ls)
abbrev Ods (k : Kd) (n : Nat) (ls : List (List Int)) : Prop := ∀ w ∈ ls, Od k n w
theorem rws_app (a b : List (List Int)) : rws k (a ++ b) = rws k a ++ rws k b := by unfold rws; rw [List.flatMap_append]
theorem rws_cons (a : List Int) (b : List (List Int)) : rws k (a :: b) = ler hd0 k a ++ rws k b := by unfold rws; rw [List.flatMap_cons]
theorem isW_rws (gg : gd k n) : ∀ {ls : List (List Int)}, Ods k n ls → isW k n (rws k ls)
  | [], _ => isW.nil
  | a :: b, h => by
    rw [rws_cons]
    exact (ler_Lr pk_hd gg (h a (List.mem_cons_self ..))).1.app (isW_rws gg fun w m => h w (List.mem_cons_of_mem _ m))
theorem Od.whl (gg : gd k n) {ls : List (List Int)} (h : Ods k n ls) : Od k n (whl k n ls) := Od.run Od.start (isW_rws gg h)
theorem whl_cons (gg : gd k n) {ls : List (List Int)} (hu : Od k n u) (h : Ods k n ls) (hr : Lr k n (whl k n ls) ss) : run k u ss = whl k n (u :: ls) := by
  unfold M.whl
  rw [rws_cons, run_app, (ler_Lr pk_hd gg hu).run gg]
  exact run_same gg hu hr.1 (isW_rws gg h) (hr.run gg)
theorem whl_one (gg : gd k n) (hu : Od k n u) : whl k n [u] = u := by
  unfold M.whl
  rw [rws_cons]
  show run k (stW k n) (ler hd0 k u ++ []) = u
  rw [List.append_nil, (ler_Lr pk_hd gg hu).run gg]
theorem whl_app (gg : gd k n) (a b : List (List Int)) : whl k n (a ++ b) = run k (whl k n a) (rws k b) := by
  unfold M.whl
  rw [rws_app, run_app]
theorem whl_snoc (gg : gd k n) {a : List (List Int)} (ha : Ods k n a) (hv : Od k n v) (hr : Lr k n v ss) : run k (whl k n a) ss = whl k n (a ++ [v]) := by
  rw [whl_app gg]
  show _ = run k (whl k n a) (ler hd0 k v ++ [])
  rw [List.append_nil]
  exact hr.same gg (Od.whl gg ha) (ler_Lr pk_hd gg hv)
theorem crs_rws (gg : gd k n) : ∀ {ls : List (List Int)}, Ods k n ls → ((rws k ls).length : Int) = sm (ls.map (crs k))
  | [], _ => rfl
  | a :: b, h => by
    rw [rws_cons, List.length_append]
    have e1 := (ler_Lr pk_hd gg (h a (List.mem_cons_self ..))).2.2
    have e2 := crs_rws gg (ls := b) fun w m => h w (List.mem_cons_of_mem _ m)
    rw [List.map_cons]
    show _ = crs k a + sm (b.map (crs k))
    omega
theorem crs_whl (gg : gd k n) {ls : List (List Int)} (h : Ods k n ls) : crs k (whl k n ls) ≤ sm (ls.map (crs k)) := by
  have := crs_run gg (Od.start (k := k)) (isW_rws gg h)
  rw [crs_start, crs_rws gg h] at this
  unfold M.whl
  omega
theorem Le.whl (gg : gd k n) {ls : List (List Int)} (h : Ods k n ls) (m : u ∈ ls) : Le k n u (whl k n ls) := by
  obtain ⟨a, b, rfl⟩ := List.append_of_mem m
  have hu := h u m
  have ha : Ods k n a := fun w m => h w (List.mem_append_left _ m)
  have hb : Ods k n b := fun w m => h w (List.mem_append_right _ (List.mem_cons_of_mem _ m))
  have r := ler_Lr pk_hd gg hu
  rw [whl_app gg, rws_cons, run_app]
  have h1 := Le.run_l gg (Od.whl gg ha) r.1
  rw [r.run gg] at h1
  exact h1.trans (Le.run_r gg (Od.run (Od.whl gg ha) r.1) (isW_rws gg hb))
/-- two neighbours may be put in the place of two that come to the same -/
theorem whl_two (gg : gd k n) {a b : List (List Int)} {u' v' : List Int} (ha : Ods k n a) (hu : Od k n u) (hv : Od k n v) (hu' : Od k n u') (hv' : Od k n v') (e : run k u (ler hd0 k v) = run k u' (ler hd0 k v')) :
    whl k n (a ++ u :: v :: b) = whl k n (a ++ u' :: v' :: b) := by
  have r1 := ler_Lr pk_hd gg hu
  have r2 := ler_Lr pk_hd gg hu'
  have s1 := ler_Lr pk_hd gg hv
  have s2 := ler_Lr pk_hd gg hv'
  rw [whl_app gg, whl_app gg, rws_cons, rws_cons, rws_cons, rws_cons, ← List.append_assoc, ← List.append_assoc, run_app, run_app _ _ (rws k b)]
  congr 1
  refine run_same gg (Od.whl gg ha) (r1.1.app s1.1) (r2.1.app s2.1) ?_
  rw [run_app, run_app, r1.run gg, r2.run gg, e]
end
end M
/-! P13: mirror orders unfolded to plain ones of twice the size. -/
namespace M
/-- the rank of an item -/
def rk (n : Nat) (x : Int) : Int := x + n - (if 0 < x then 1 else 0)
def unf (n : Nat) (w : List Int) : List Int := ((w.reverse.map fun x => -x) ++ w).map (rk n)
/-- the steps that a step becomes -/
def us (n : Nat) (s : Int) : List Int := if s = 0 then [(n : Int) - 1] else [(n : Int) - 1 - s, (n : Int) - 1 + s]
def usr (n : Nat) (row : List Int) : List Int := row.flatMap (us n)
section
variable {n : Nat} {w u v x : List Int} {s p : Int} {row : List Int}
theorem len_unf (h : w.length = n) : (unf n w).length = 2 * n := by
  unfold unf
  rw [List.length_map, List.length_append, List.length_map, List.length_reverse]; omega
theorem gt_rev {i : Nat} (h : i < w.length) : gt w.reverse (w.length - 1 - i : Nat) = gt w i := by
  rw [gt_nat, gt_nat, List.getD_eq_getElem?_getD, List.getD_eq_getElem?_getD, List.getElem?_reverse (by omega)]
  congr 3; omega
theorem gt_unf_r (h : w.length = n) {i : Nat} (hi : i < n) : gt (unf n w) (n + i : Nat) = rk n (gt w i) := by
  unfold unf
  rw [gt_map (by rw [List.length_append, List.length_map, List.length_reverse]; omega)]
  have := gt_app_r (u := w.reverse.map fun x => -x) (v := w) (i := i)
  rw [List.length_map, List.length_reverse, h] at this
  rw [this]
theorem gt_unf_l (h : w.length = n) {i : Nat} (hi : i < n) : gt (unf n w) (n - 1 - i : Nat) = rk n (-gt w i) := by
  unfold unf
  rw [gt_map (by rw [List.length_append, List.length_map, List.length_reverse]; omega), gt_app_l (by rw [List.length_map, List.length_reverse]; omega), gt_map (by rw [List.length_reverse]; omega)]
  have := gt_rev (w := w) (i := i) (by omega)
  rw [h] at this
  rw [this]
theorem two_ways {m : Nat} (h : m < 2 * n) : (∃ i : Nat, i < n ∧ m = n + i) ∨ ∃ i : Nat, i < n ∧ m = n - 1 - i := by
  by_cases q : n ≤ m
  · exact .inl ⟨m - n, by omega, by omega⟩
  · exact .inr ⟨n - 1 - m, by omega, by omega⟩
theorem isS_nat (hs : isS .mirror n s) : ∃ t : Nat, s = t ∧ t < n := by
  obtain ⟨a, b⟩ := hs
  have b : s < n := b
  exact ⟨s.toNat, by omega, by omega⟩
theorem gt_swp' {i j : Nat} {a : Int} (ha : a = i) (h : i + 1 < w.length) : gt (swp w a) j = if j = i then gt w (i + 1 : Nat) else if j = i + 1 then gt w i else gt w j := by
  subst ha; exact gt_swp h
theorem swp_len (w : List Int) (i : Int) : (swp w i).length = w.length := by unfold swp; rw [List.length_set, List.length_set]
theorem unf_stp (hl : w.length = n) (hs : isS .mirror n s) : (us n s).foldl (stp .plain) (unf n w) = unf n (stp .mirror w s) := by
  obtain ⟨t, rfl, ht⟩ := isS_nat hs
  have l1 := len_unf hl
  have l2 : (stp .mirror w (t : Int)).length = n := by rw [stp_len, hl]
  by_cases h0 : t = 0
  · subst h0
    have e : us n ((0 : Nat) : Int) = [(n : Int) - 1] := rfl
    rw [e]
    show swp (unf n w) ((n : Int) - 1) = _
    refine ext_gt (by rw [swp_len, l1, len_unf l2]) fun m hm => ?_
    rw [swp_len, l1] at hm
    rw [gt_swp' (i := n - 1) (by omega) (by omega)]
    have a1 := gt_unf_r hl (i := 0) (by omega)
    have a2 := gt_unf_l hl (i := 0) (by omega)
    have es : stp .mirror w ((0 : Nat) : Int) = w.set 0 (-gt w 0) := rfl
    rcases two_ways hm with ⟨i, hi, rfl⟩ | ⟨i, hi, rfl⟩
    · rw [gt_unf_r l2 hi, es, gt_set (by omega)]
      by_cases q : i = 0
      · subst q
        rw [if_neg (by omega), if_pos (by omega), if_pos rfl]
        exact a2
      · rw [if_neg (by omega), if_neg (by omega), if_neg (by omega), gt_unf_r hl hi]
    · rw [gt_unf_l l2 hi, es, gt_set (by omega)]
      by_cases q : i = 0
      · subst q
        rw [if_pos (by omega), if_pos rfl, Int.neg_neg]
        rw [show n - 1 + 1 = n + 0 by omega]
        exact a1
      · rw [if_neg (by omega), if_neg (by omega), if_neg (by omega), gt_unf_l hl hi]
  · have e : us n (t : Int) = [(n : Int) - 1 - t, (n : Int) - 1 + t] := by unfold us; rw [if_neg (by omega)]
    rw [e]
    show swp (swp (unf n w) ((n : Int) - 1 - t)) ((n : Int) - 1 + t) = _
    have es : stp .mirror w (t : Int) = swp w ((t : Int) - 1) := by unfold stp; simp only; rw [if_neg (by omega)]
    refine ext_gt (by rw [swp_len, swp_len, l1, len_unf l2]) fun m hm => ?_
    rw [swp_len, swp_len, l1] at hm
    have g1 := fun j : Nat => gt_swp' (w := swp (unf n w) ((n : Int) - 1 - t)) (i := n - 1 + t) (j := j) (a := (n : Int) - 1 + t) (by omega) (by rw [swp_len]; omega)
    have g2 := fun j : Nat => gt_swp' (w := unf n w) (i := n - 1 - t) (j := j) (a := (n : Int) - 1 - t) (by omega) (by omega)
    have g3 := fun j : Nat => gt_swp' (w := w) (i := t - 1) (j := j) (a := (t : Int) - 1) (by omega) (by omega)
    rw [g1, g2, g2, g2]
    rcases two_ways hm with ⟨i, hi, rfl⟩ | ⟨i, hi, rfl⟩
    · rw [gt_unf_r l2 hi, es, g3]
      by_cases q1 : i = t - 1
      · rw [if_pos (by omega), if_neg (by omega), if_neg (by omega), if_pos q1, show n - 1 + t + 1 = n + t by omega, gt_unf_r hl ht, show t - 1 + 1 = t by omega]
      · by_cases q2 : i = t
        · rw [if_neg (by omega), if_pos (by omega), if_neg (by omega), if_neg (by omega), if_neg q1, if_pos (by omega), show n - 1 + t = n + (t - 1) by omega, gt_unf_r hl (by omega)]
        · rw [if_neg (by omega), if_neg (by omega), if_neg (by omega), if_neg (by omega), if_neg q1, if_neg (by omega), gt_unf_r hl hi]
    · rw [gt_unf_l l2 hi, es, g3]
      by_cases q1 : i = t - 1
      · rw [if_neg (by omega), if_neg (by omega), if_neg (by omega), if_pos (by omega), if_pos q1, gt_unf_l hl ht, show t - 1 + 1 = t by omega]
      · by_cases q2 : i = t
        · rw [if_neg (by omega), if_neg (by omega), if_pos (by omega), if_neg q1, if_pos (by omega), show n - 1 - t + 1 = n - 1 - (t - 1) by omega, gt_unf_l hl (by omega)]
        · rw [if_neg (by omega), if_neg (by omega), if_neg (by omega), if_neg (by omega), if_neg q1, if_neg (by omega), gt_unf_l hl hi]
end
end M
/-! P14: gains, losses, words, products, opposites, crossings of unfolded orders. -/
namespace M
section
variable {n : Nat} {w u v x : List Int} {s p : Int} {row : List Int}
theorem mi_items (gg : gd .mirror n) (h : Od .mirror n w) : ∀ i : Nat, i < n → gt w i ≠ 0 ∧ -(n : Int) ≤ gt w i ∧ gt w i ≤ n := fun i hi => by
  have v := h.vd gg
  exact pv_gt v (gt_mem (by rw [v.len]; exact hi)) rfl
theorem rk_lt {x y : Int} (hx : x ≠ 0) (hy : y ≠ 0) : (rk n x < rk n y) = (x < y) := by
  unfold rk
  refine propext ?_
  split <;> split <;> omega
theorem rk_inj {x y : Int} (hx : x ≠ 0) (hy : y ≠ 0) (e : rk n x = rk n y) : x = y := by
  unfold rk at e
  split at e <;> split at e <;> omega
theorem gd_un (gg : gd .mirror n) : gd .plain (2 * n) := ⟨by have := gg.1; omega, fun h => by cases h⟩
theorem us_isS (hs : isS .mirror n s) : isW .plain (2 * n) (us n s) := by
  obtain ⟨t, rfl, ht⟩ := isS_nat hs
  intro p m
  unfold us at m
  split at m
  · rw [List.mem_singleton] at m
    subst m
    exact ⟨by omega, by show (n : Int) - 1 < ((2 * n : Nat) : Int) - 1; omega⟩
  · simp only [List.mem_cons, List.not_mem_nil, or_false] at m
    rcases m with rfl | rfl
    · exact ⟨by omega, by show _ < ((2 * n : Nat) : Int) - 1; omega⟩
    · exact ⟨by omega, by show _ < ((2 * n : Nat) : Int) - 1; omega⟩
theorem usr_isW (h : isW .mirror n row) : isW .plain (2 * n) (usr n row) := fun p m => by
  obtain ⟨s, hs, m⟩ := List.mem_flatMap.mp m
  exact us_isS (h s hs) p m
theorem usr_app (a b : List Int) : usr n (a ++ b) = usr n a ++ usr n b := by unfold usr; rw [List.flatMap_append]
theorem usr_cons (a : Int) (b : List Int) : usr n (a :: b) = us n a ++ usr n b := by unfold usr; rw [List.flatMap_cons]
theorem usr_one (a : Int) : usr n [a] = us n a := by rw [usr_cons]; exact List.append_nil _
theorem gp (u : List Int) {a : Int} {i : Nat} (h : a = i) : gt u a = gt u (i : Nat) := by rw [h]
/-- crossed just where the mirror order is -/
theorem xd_unf (gg : gd .mirror n) (h : Od .mirror n w) (hs : isS .mirror n s) : ∀ p ∈ us n s, xd .plain (unf n w) p = xd .mirror w s := by
  have it := mi_items gg h
  have hl := h.len gg
  obtain ⟨t, rfl, ht⟩ := isS_nat hs
  intro p m
  unfold us at m
  split at m
  · rename_i h0
    have h0 : t = 0 := by omega
    subst h0
    rw [List.mem_singleton] at m
    subst m
    show decide (gt (unf n w) ((n : Int) - 1 + 1) < gt (unf n w) ((n : Int) - 1)) = decide (gt w 0 < 0)
    refine decide_eq_decide.mpr ?_
    rw [gp _ (a := (n : Int) - 1 + 1) (i := n + 0) (by omega), gp _ (a := (n : Int) - 1) (i := n - 1 - 0) (by omega), gt_unf_r hl ht, gt_unf_l hl ht]
    have a := it 0 ht
    rw [rk_lt a.1 (by omega)]
    show gt w 0 < -gt w 0 ↔ _
    have e : gt w ((0 : Nat) : Int) = gt w 0 := rfl
    omega
  · rename_i h0
    have a := it t ht
    have b := it (t - 1) (by omega)
    have e1 : xd .mirror w (t : Int) = decide (gt w (t : Int) < gt w ((t : Int) - 1)) := by unfold xd; simp only; rw [if_neg h0]
    rw [e1, gp w (a := (t : Int) - 1) (i := t - 1) (by omega)]
    simp only [List.mem_cons, List.not_mem_nil, or_false] at m
    rcases m with rfl | rfl
    · show decide (gt (unf n w) ((n : Int) - 1 - t + 1) < gt (unf n w) ((n : Int) - 1 - t)) = _
      refine decide_eq_decide.mpr ?_
      rw [gp _ (a := (n : Int) - 1 - t + 1) (i := n - 1 - (t - 1)) (by omega), gp _ (a := (n : Int) - 1 - t) (i := n - 1 - t) (by omega), gt_unf_l hl ht, gt_unf_l hl (by omega), rk_lt (by omega) (by omega)]
      omega
    · show decide (gt (unf n w) ((n : Int) - 1 + t + 1) < gt (unf n w) ((n : Int) - 1 + t)) = _
      refine decide_eq_decide.mpr ?_
      rw [gp _ (a := (n : Int) - 1 + t + 1) (i := n + t) (by omega), gp _ (a := (n : Int) - 1 + t) (i := n + (t - 1)) (by omega), gt_unf_r hl ht, gt_unf_r hl (by omega), rk_lt a.1 b.1]
/-- steps far apart -/
theorem swp_comm {a b : Nat} (hab : a + 1 < b) (hb : b + 1 < w.length) : swp (swp w a) b = swp (swp w b) a := by
  refine ext_gt (by simp only [swp_len]) fun m hm => ?_
  have g1 := fun j : Nat => gt_swp (w := swp w a) (i := b) (j := j) (by rw [swp_len]; omega)
  have g2 := fun j : Nat => gt_swp (w := swp w b) (i := a) (j := j) (by rw [swp_len]; omega)
  have g3 := fun j : Nat => gt_swp (w := w) (i := b) (j := j) (by omega)
  have g4 := fun j : Nat => gt_swp (w := w) (i := a) (j := j) (by omega)
  rw [g1, g2, g4, g4, g4, g3, g3, g3]
  by_cases q1 : m = b
  · subst q1
    rw [if_pos rfl, if_neg (by omega), if_neg (by omega), if_neg (by omega), if_neg (by omega), if_pos rfl]
  · by_cases q2 : m = b + 1
    · subst q2
      rw [if_neg (by omega), if_pos rfl, if_neg (by omega), if_neg (by omega), if_neg (by omega), if_neg (by omega), if_neg (by omega), if_pos rfl]
    · by_cases q3 : m = a
      · subst q3
        rw [if_neg (by omega), if_neg (by omega), if_pos rfl, if_pos rfl, if_neg (by omega), if_neg (by omega)]
      · by_cases q4 : m = a + 1
        · subst q4
          rw [if_neg (by omega), if_neg (by omega), if_neg (by omega), if_pos rfl, if_neg (by omega), if_pos rfl, if_neg (by omega), if_neg (by omega)]
        · rw [if_neg q1, if_neg q2, if_neg q3, if_neg q4, if_neg q3, if_neg q4, if_neg q1, if_neg q2]
theorem xd_far {a b : Nat} (hab : a + 1 < b) (hb : b + 1 < w.length) : xd .plain (swp w a) b = xd .plain w b ∧ xd .plain (swp w b) a = xd .plain w a := by
  have g3 := fun j : Nat => gt_swp (w := w) (i := b) (j := j) (by omega)
  have g4 := fun j : Nat => gt_swp (w := w) (i := a) (j := j) (by omega)
  constructor
  · show decide (gt (swp w a) ((b : Int) + 1) < gt (swp w a) b) = decide (gt w ((b : Int) + 1) < gt w b)
    rw [gp (swp w a) (a := (b : Int) + 1) (i := b + 1) (by omega), gp w (a := (b : Int) + 1) (i := b + 1) (by omega), g4, g4, if_neg (by omega), if_neg (by omega), if_neg (by omega), if_neg (by omega)]
  · show decide (gt (swp w b) ((a : Int) + 1) < gt (swp w b) a) = decide (gt w ((a : Int) + 1) < gt w a)
    rw [gp (swp w b) (a := (a : Int) + 1) (i := a + 1) (by omega), gp w (a := (a : Int) + 1) (i := a + 1) (by omega), g3, g3, if_neg (by omega), if_neg (by omega), if_neg (by omega), if_neg (by omega)]
/-- a step of the mirror, in one or two plain steps -/
theorem us_cases (hs : isS .mirror n s) : (∃ a : Nat, us n s = [(a : Int)] ∧ a + 1 < 2 * n ∧ s = 0) ∨ ∃ a b : Nat, us n s = [(a : Int), (b : Int)] ∧ a + 1 < b ∧ b + 1 < 2 * n ∧ s ≠ 0 := by
  obtain ⟨t, rfl, ht⟩ := isS_nat hs
  by_cases h0 : t = 0
  · subst h0
    exact .inl ⟨n - 1, by show [(n : Int) - 1] = _; rw [show (n : Int) - 1 = ((n - 1 : Nat) : Int) by omega], by omega, rfl⟩
  · refine .inr ⟨n - 1 - t, n - 1 + t, ?_, by omega, by omega, by omega⟩
    unfold us
    rw [if_neg (by omega), show (n : Int) - 1 - t = ((n - 1 - t : Nat) : Int) by omega, show (n : Int) - 1 + t = ((n - 1 + t : Nat) : Int) by omega]
theorem run_us (gg : gd .mirror n) (h : Od .mirror n w) (hs : isS .mirror n s) : run .plain (unf n w) (us n s) = unf n (gR .mirror w s) := by
  have hx := xd_unf gg h hs
  have hl := len_unf (h.len gg)
  have hst := unf_stp (h.len gg) hs
  cases q : xd .mirror w s with
  | true =>
    rw [gR_t q]
    rcases us_cases hs with ⟨a, e, _⟩ | ⟨a, b, e, _⟩
    · rw [e] at hx ⊢
      show gR .plain (unf n w) a = _
      rw [gR_t (by rw [hx a (by simp), q])]
    · rw [e] at hx ⊢
      show gR .plain (gR .plain (unf n w) a) b = _
      have ha : xd .plain (unf n w) a = true := by rw [hx a (by simp), q]
      have hb : xd .plain (unf n w) b = true := by rw [hx b (by simp), q]
      rw [gR_t ha, gR_t hb]
  | false =>
    rw [gR_f q, ← hst]
    rcases us_cases hs with ⟨a, e, _⟩ | ⟨a, b, e, ha, hb, _⟩
    · rw [e] at hx ⊢
      show gR .plain (unf n w) a = _
      rw [gR_f (by rw [hx a (by simp), q])]
      rfl
    · rw [e] at hx ⊢
      show gR .plain (gR .plain (unf n w) a) b = _
      have h1 : xd .plain (unf n w) a = false := by rw [hx a (by simp), q]
      rw [gR_f h1]
      show gR .plain (swp (unf n w) a) b = _
      rw [gR_f (by rw [(xd_far ha (by rw [hl]; exact hb)).1, hx b (by simp), q])]
      rfl
theorem snk_us (gg : gd .mirror n) (h : Od .mirror n w) (hs : isS .mirror n s) : snk .plain (unf n w) (us n s) = unf n (lR .mirror w s) := by
  have hx := xd_unf gg h hs
  have hl := len_unf (h.len gg)
  have hst := unf_stp (h.len gg) hs
  cases q : xd .mirror w s with
  | false =>
    rw [lR_f q]
    rcases us_cases hs with ⟨a, e, _⟩ | ⟨a, b, e, _⟩
    · rw [e] at hx ⊢
      show lR .plain (unf n w) a = _
      rw [lR_f (by rw [hx a (by simp), q])]
    · rw [e] at hx ⊢
      show lR .plain (lR .plain (unf n w) b) a = _
      have ha : xd .plain (unf n w) a = false := by rw [hx a (by simp), q]
      have hb : xd .plain (unf n w) b = false := by rw [hx b (by simp), q]
      rw [lR_f hb, lR_f ha]
  | true =>
    rw [lR_t q, ← hst]
    rcases us_cases hs with ⟨a, e, _⟩ | ⟨a, b, e, ha, hb, _⟩
    · rw [e] at hx ⊢
      show lR .plain (unf n w) a = _
      rw [lR_t (by rw [hx a (by simp), q])]
      rfl
    · rw [e] at hx ⊢
      show lR .plain (lR .plain (unf n w) b) a = _
      have h1 : xd .plain (unf n w) b = true := by rw [hx b (by simp), q]
      rw [lR_t h1]
      show lR .plain (swp (unf n w) b) a = _
      rw [lR_t (by rw [(xd_far ha (by rw [hl]; exact hb)).2, hx a (by simp), q])]
      show swp (swp (unf n w) b) a = swp (swp (unf n w) a) b
      rw [swp_comm ha (by rw [hl]; exact hb)]
theorem unf_run (gg : gd .mirror n) : ∀ {row w : List Int}, Od .mirror n w → isW .mirror n row → run .plain (unf n w) (usr n row) = unf n (run .mirror w row)
  | [], w, _, _ => rfl
  | s :: row, w, h, hw => by
    rw [usr_cons, run_app, run_us gg h hw.head]
    exact unf_run gg (h.gR hw.head) hw.tail
theorem unf_snk (gg : gd .mirror n) : ∀ {row w : List Int}, Od .mirror n w → isW .mirror n row → snk .plain (unf n w) (usr n row) = unf n (snk .mirror w row)
  | [], w, _, _ => rfl
  | s :: row, w, h, hw => by
    rw [usr_cons, snk_app, unf_snk gg h hw.tail, snk_us gg (Od.snk h hw.tail) hw.head, snk_cons]
theorem unf_start : unf n (stW .mirror n) = stW .plain (2 * n) := by
  have hl := stW_len .mirror n
  refine ext_gt (by rw [len_unf hl, stW_len]) fun m hm => ?_
  rw [len_unf hl] at hm
  rw [gt_stW hm]
  rcases two_ways hm with ⟨i, hi, rfl⟩ | ⟨i, hi, rfl⟩
  · rw [gt_unf_r hl hi, gt_stW hi]
    unfold rk st0
    rw [if_pos rfl, if_pos (by omega), if_neg (by simp)]
    omega
  · rw [gt_unf_l hl hi, gt_stW hi]
    unfold rk st0
    rw [if_pos rfl, if_neg (by omega), if_neg (by simp)]
    omega
theorem unf_mk (gg : gd .mirror n) : ∀ row : List Int, isW .mirror n row → unf n (mk .mirror n row) = mk .plain (2 * n) (usr n row) := by
  intro row
  refine snoc_ind (P := fun row => isW .mirror n row → unf n (mk .mirror n row) = mk .plain (2 * n) (usr n row)) (fun _ => unf_start) (fun row s ih hw => ?_) row
  rw [mk_snoc, usr_app, usr_one]
  have hs : isS .mirror n s := hw s (List.mem_append_right _ (List.mem_singleton.mpr rfl))
  rw [← unf_stp ((Od.mk hw.left).len gg) hs, ih hw.left]
  unfold mk
  rw [List.foldl_append]
theorem Od.unf (gg : gd .mirror n) (h : Od .mirror n w) : Od .plain (2 * n) (M.unf n w) := by
  obtain ⟨ss, h1, rfl⟩ := h
  rw [unf_mk gg ss h1]
  exact Od.mk (usr_isW h1)
theorem unf_inj (gg : gd .mirror n) (hu : Od .mirror n u) (hw : Od .mirror n w) (e : unf n u = unf n w) : u = w := by
  have lu := hu.len gg
  have lw := hw.len gg
  refine ext_gt (by rw [lu, lw]) fun i hi => ?_
  rw [lu] at hi
  have a := gt_unf_r lu hi
  rw [e, gt_unf_r lw hi] at a
  exact (rk_inj (mi_items gg hw i hi).1 (mi_items gg hu i hi).1 a).symm
/-- rows that make the same greedily -/
theorem usr_ler (gg : gd .mirror n) (h : Od .mirror n w) : run .plain (stW .plain (2 * n)) (ler hd0 .plain (unf n w)) = run .plain (stW .plain (2 * n)) (usr n (ler hd0 .mirror w)) := by
  have a := ler_Lr pk_hd (gd_un gg) (h.unf gg)
  have b := ler_Lr pk_hd gg h
  rw [a.run (gd_un gg), ← unf_start, unf_run gg Od.start b.1, b.run gg]
theorem unf_greedy (gg : gd .mirror n) (hu : Od .mirror n u) (hw : Od .mirror n w) : run .plain (unf n u) (ler hd0 .plain (unf n w)) = unf n (run .mirror u (ler hd0 .mirror w)) := by
  have a := ler_Lr pk_hd (gd_un gg) (hw.unf gg)
  have b := ler_Lr pk_hd gg hw
  rw [run_same (gd_un gg) (hu.unf gg) a.1 (usr_isW b.1) (usr_ler gg hw), unf_run gg hu b.1]
theorem unf_below (gg : gd .mirror n) (hu : Od .mirror n u) (hw : Od .mirror n w) : snk .plain (unf n u) (ler hd0 .plain (unf n w)) = stW .plain (2 * n) ↔ snk .mirror u (ler hd0 .mirror w) = stW .mirror n := by
  have a := ler_Lr pk_hd (gd_un gg) (hw.unf gg)
  have b := ler_Lr pk_hd gg hw
  rw [snk_same (gd_un gg) (hu.unf gg) a.1 (usr_isW b.1) (usr_ler gg hw), unf_snk gg hu b.1, ← unf_start]
  exact ⟨fun e => unf_inj gg (Od.snk hu b.1) Od.start e, fun e => by rw [e]⟩
theorem unf_prd (gg : gd .mirror n) (hu : Od .mirror n u) (hw : Od .mirror n w) : prd .plain (unf n u) (unf n w) = unf n (prd .mirror u w) := by
  obtain ⟨r1, h1, rfl⟩ := hu
  obtain ⟨r2, h2, rfl⟩ := hw
  rw [prd_mk gg h1 h2, unf_mk gg _ h1, unf_mk gg _ h2, unf_mk gg _ (h1.app h2), usr_app, prd_mk (gd_un gg) (usr_isW h1) (usr_isW h2)]
/-- turned about -/
theorem us_rev (hs : isS .mirror n s) (hl : x.length = 2 * n) : (us n s).reverse.foldl (stp .plain) x = (us n s).foldl (stp .plain) x := by
  rcases us_cases hs with ⟨a, e, _⟩ | ⟨a, b, e, ha, hb, _⟩
  · rw [e]; rfl
  · rw [e]
    show swp (swp x b) a = swp (swp x a) b
    rw [swp_comm ha (by rw [hl]; exact hb)]
theorem usr_rev (row : List Int) : (usr n row).reverse = row.reverse.flatMap fun s => (us n s).reverse := by
  induction row with
  | nil => rfl
  | cons s row ih => rw [usr_cons, List.reverse_append, ih, List.reverse_cons, List.flatMap_append]; simp
theorem fold_rev : ∀ {row x : List Int}, isW .mirror n row → x.length = 2 * n → (row.flatMap fun s => (us n s).reverse).foldl (stp .plain) x = (usr n row).foldl (stp .plain) x
  | [], _, _, _ => rfl
  | s :: row, x, hw, hl => by
    have key : ∀ (l x : List Int), (l.foldl (stp .plain) x).length = x.length := by
      intro l
      induction l with
      | nil => intro x; rfl
      | cons a l ih => intro x; rw [List.foldl_cons, ih, stp_len]
    rw [List.flatMap_cons, List.foldl_append, us_rev hw.head hl, usr_cons, List.foldl_append]
    exact fold_rev hw.tail (by rw [key, hl])
theorem unf_opp (gg : gd .mirror n) (hw : Od .mirror n w) : opp .plain (unf n w) = unf n (opp .mirror w) := by
  obtain ⟨row, h1, rfl⟩ := hw
  rw [opp_mk gg h1, unf_mk gg _ h1, unf_mk gg _ h1.rev, opp_mk (gd_un gg) (usr_isW h1), usr_rev]
  unfold mk
  exact fold_rev h1.rev (stW_len ..)
/-- how many items lie below 0 -/
def neg (w : List Int) : Nat := (w.filter fun x => decide (x < 0)).length
theorem neg_eq (w : List Int) : neg w = w.countP fun x => decide (x < 0) := by unfold neg; rw [List.countP_eq_length_filter]
theorem neg_set {i : Nat} {y : Int} (h : i < w.length) : (neg (w.set i y) : Int) = neg w - (if gt w i < 0 then 1 else 0) + (if y < 0 then 1 else 0) := by
  have e : gt w i = w[i] := by rw [gt_nat, List.getD_eq_getElem?_getD, List.getElem?_eq_getElem h]; rfl
  have c := List.countP_set (p := fun x => decide (x < 0)) (l := w) (a := y) h
  have pos : gt w i < 0 → 1 ≤ w.countP fun x => decide (x < 0) := fun q => List.countP_pos_iff.mpr ⟨w[i], List.getElem_mem h, by rw [← e]; simpa using q⟩
  rw [neg_eq, neg_eq, c, ← e]
  by_cases q1 : gt w i < 0 <;> by_cases q2 : y < 0 <;> simp [q1, q2] <;> have := pos <;> omega
theorem unf_crs (gg : gd .mirror n) : ∀ row : List Int, isW .mirror n row → crs .plain (unf n (mk .mirror n row)) = 2 * crs .mirror (mk .mirror n row) - neg (mk .mirror n row) := by
  intro row
  refine snoc_ind (P := fun row => isW .mirror n row → crs .plain (unf n (mk .mirror n row)) = 2 * crs .mirror (mk .mirror n row) - neg (mk .mirror n row)) (fun _ => ?_) (fun row s ih hw => ?_) row
  · show crs .plain (unf n (stW .mirror n)) = 2 * crs .mirror (stW .mirror n) - neg (stW .mirror n)
    rw [unf_start, crs_start, crs_start]
    have : neg (stW .mirror n) = 0 := by
      unfold neg
      rw [List.length_eq_zero_iff, List.filter_eq_nil_iff]
      intro x m
      obtain ⟨i, hi, rfl⟩ := mem_gt m
      rw [stW_len] at hi
      rw [gt_stW hi]
      unfold st0
      simp
      omega
    omega
  · have hs : isS .mirror n s := hw s (List.mem_append_right _ (List.mem_singleton.mpr rfl))
    have ih := ih hw.left
    have ow := Od.mk hw.left
    rw [mk_snoc]
    generalize mk .mirror n row = w at *
    have hl := ow.len gg
    have lu := len_unf hl
    have ou := ow.unf gg
    have hx := xd_unf gg ow hs
    have c0 := crs_step gg ow hs
    rw [← unf_stp hl hs]
    obtain ⟨t, rfl, ht⟩ := isS_nat hs
    rcases us_cases hs with ⟨a, e, ha, h0⟩ | ⟨a, b, e, ha, hb, h0⟩
    · rw [e] at hx ⊢
      have h0 : t = 0 := by omega
      subst h0
      have c1 := crs_step (gd_un gg) ou (s := (a : Int)) ⟨by omega, by show (a : Int) < ((2 * n : Nat) : Int) - 1; omega⟩
      rw [hx a (by simp)] at c1
      show crs .plain (stp .plain (unf n w) a) = _
      have es : stp .mirror w ((0 : Nat) : Int) = w.set 0 (-gt w 0) := rfl
      have en := neg_set (w := w) (i := 0) (y := -gt w 0) (by omega)
      have ex : xd .mirror w ((0 : Nat) : Int) = decide (gt w 0 < 0) := rfl
      have i0 := (mi_items gg ow 0 ht).1
      rw [es] at c0
      rw [es, c0, c1, en, ih, ex]
      have e0 : gt w ((0 : Nat) : Int) = gt w 0 := rfl
      rw [e0] at i0 ⊢
      by_cases q : gt w 0 < 0
      · have q2 : ¬ -gt w 0 < 0 := by omega
        simp only [q, q2, decide_true, if_true, if_false]; omega
      · have q2 : -gt w 0 < 0 := by omega
        simp only [q, q2, decide_false, if_true, if_false, Bool.false_eq_true]; omega
    · rw [e] at hx ⊢
      have hS : ∀ c : Nat, c + 1 < 2 * n → isS .plain (2 * n) (c : Int) := fun c hc => ⟨by omega, by show (c : Int) < ((2 * n : Nat) : Int) - 1; omega⟩
      have c1 := crs_step (gd_un gg) ou (hS a (by omega))
      rw [hx a (by simp)] at c1
      have c2 := crs_step (gd_un gg) (ou.stp (hS a (by omega))) (hS b hb)
      have x2 : xd .plain (stp .plain (unf n w) a) b = xd .mirror w (t : Int) := by
        show xd .plain (swp (unf n w) a) b = _
        rw [(xd_far ha (by rw [lu]; exact hb)).1, hx b (by simp)]
      rw [x2] at c2
      show crs .plain (stp .plain (stp .plain (unf n w) a) b) = _
      have es : stp .mirror w (t : Int) = swp w ((t : Int) - 1) := by unfold stp; simp only; rw [if_neg h0]
      have en : (neg (swp w ((t : Int) - 1)) : Int) = neg w := by
        obtain ⟨j, rfl⟩ : ∃ j, t = j + 1 := ⟨t - 1, by omega⟩
        unfold swp
        rw [show ((j + 1 : Nat) : Int) - 1 = (j : Int) by omega, show (j : Int) + 1 = ((j + 1 : Nat) : Int) by omega, Int.toNat_natCast, Int.toNat_natCast]
        have gs : gt (w.set j (gt w ((j + 1 : Nat) : Int))) ((j + 1 : Nat) : Int) = gt w ((j + 1 : Nat) : Int) := by rw [gt_set (by omega), if_neg (by omega)]
        rw [neg_set (by rw [List.length_set]; omega), neg_set (by omega), gs]
        generalize gt w ((j + 1 : Nat) : Int) = A
        generalize gt w (j : Int) = A2
        split <;> split <;> omega
      rw [es] at c0
      rw [c2, c1, es, en, c0, ih]
      split <;> omega
end
end M
/-! P15: plain orders as ring orders. -/
namespace M
section
variable {n : Nat} {w u v x : List Int} {s p : Int} {row : List Int}
theorem isS_pr (h : isS .plain n s) : isS .ring n s := ⟨h.1, by have := h.2; show s < (n : Int); have e : s < (n : Int) - 1 := this; omega⟩
theorem isW_pr (h : isW .plain n row) : isW .ring n row := fun s m => isS_pr (h s m)
theorem gd_p (h2 : 2 ≤ n) : gd .plain n := ⟨by omega, fun h => by cases h⟩
theorem gd_r (h2 : 2 ≤ n) : gd .ring n := ⟨by omega, fun _ => h2⟩
theorem low_pr (hl : w.length = n) (h : isS .plain n s) : ¬ s = (w.length : Int) - 1 := by
  have e : s < (n : Int) - 1 := h.2
  rw [hl]; omega
theorem xd_pr (hl : w.length = n) (h : isS .plain n s) : xd .ring w s = xd .plain w s := by
  unfold xd; simp only; rw [if_neg (low_pr hl h)]
theorem stp_pr (hl : w.length = n) (h : isS .plain n s) : stp .ring w s = stp .plain w s := by
  unfold stp; simp only; rw [if_neg (low_pr hl h)]
theorem gR_pr (hl : w.length = n) (h : isS .plain n s) : gR .ring w s = gR .plain w s := by unfold gR; rw [xd_pr hl h, stp_pr hl h]
theorem lR_pr (hl : w.length = n) (h : isS .plain n s) : lR .ring w s = lR .plain w s := by unfold lR; rw [xd_pr hl h, stp_pr hl h]
theorem gR_len (k : Kd) (w : List Int) (s : Int) : (gR k w s).length = w.length := by unfold gR; split <;> simp [stp_len]
theorem lR_len (k : Kd) (w : List Int) (s : Int) : (lR k w s).length = w.length := by unfold lR; split <;> simp [stp_len]
theorem run_pr : ∀ {row w : List Int}, w.length = n → isW .plain n row → run .ring w row = run .plain w row
  | [], _, _, _ => rfl
  | s :: row, w, hl, hw => by
    show run .ring (gR .ring w s) row = run .plain (gR .plain w s) row
    rw [gR_pr hl hw.head]
    exact run_pr (by rw [gR_len]; exact hl) hw.tail
theorem snk_len (k : Kd) (w : List Int) : ∀ row : List Int, (snk k w row).length = w.length
  | [] => rfl
  | s :: row => by rw [snk_cons, lR_len, snk_len k w row]
theorem snk_pr : ∀ {row w : List Int}, w.length = n → isW .plain n row → snk .ring w row = snk .plain w row
  | [], _, _, _ => rfl
  | s :: row, w, hl, hw => by
    rw [snk_cons, snk_cons, snk_pr hl hw.tail]
    exact lR_pr (by rw [snk_len]; exact hl) hw.head
theorem stW_pr : stW .ring n = stW .plain n := rfl
theorem fold_pr : ∀ {row w : List Int}, w.length = n → isW .plain n row → row.foldl (stp .ring) w = row.foldl (stp .plain) w
  | [], _, _, _ => rfl
  | s :: row, w, hl, hw => by
    rw [List.foldl_cons, List.foldl_cons, stp_pr hl hw.head]
    exact fold_pr (by rw [stp_len]; exact hl) hw.tail
theorem mk_pr (h : isW .plain n row) : mk .ring n row = mk .plain n row := fold_pr (stW_len .plain n) h
theorem Od.pr (h : Od .plain n w) : Od .ring n w := by
  obtain ⟨ss, h1, rfl⟩ := h
  rw [← mk_pr h1]
  exact Od.mk (isW_pr h1)
theorem top_pr (h2 : 2 ≤ n) (h : Od .plain n w) : xd .ring w ((n : Int) - 1) = false := by
  have hv := h.vd (gd_p h2)
  have hl := hv.len
  have it := fun (i : Nat) (hi : i < n) => hv.pl rfl (gt w i) (gt_mem (by rw [hl]; exact hi))
  unfold xd
  simp only
  rw [hl, if_pos rfl]
  refine decide_eq_false ?_
  have a := it 0 (by omega)
  have b := it (n - 1) (by omega)
  rw [gp w (a := (n : Int) - 1) (i := n - 1) (by omega), gp w (a := 0) (i := 0) rfl]
  omega
theorem ups_succ (m : Nat) : ups (m + 1) = ups m ++ [(m : Int)] := by unfold ups; rw [List.range_succ, List.map_append]; rfl
theorem fls_pr (h2 : 2 ≤ n) (h : Od .plain n w) : fls .ring w = fls .plain w := by
  have hl := h.len (gd_p h2)
  unfold fls
  rw [hl]
  obtain ⟨m, rfl⟩ : ∃ m, n = m + 1 := ⟨n - 1, by omega⟩
  have e1 : (nst .ring (m + 1)).toNat = m + 1 := by show (((m + 1 : Nat) : Int)).toNat = m + 1; omega
  have e2 : (nst .plain (m + 1)).toNat = m := by show (((m + 1 : Nat) : Int) - 1).toNat = m; omega
  rw [e1, e2, ups_succ, List.filter_append]
  have t := top_pr h2 h
  rw [show (((m + 1 : Nat) : Int) - 1) = (m : Int) by omega] at t
  have e3 : [(m : Int)].filter (xd .ring w) = [] := by simp [t]
  rw [e3, List.append_nil]
  refine List.filter_congr fun s hs => ?_
  rw [mem_ups] at hs
  exact xd_pr hl ⟨hs.1, by show s < ((m + 1 : Nat) : Int) - 1; omega⟩
theorem crs_pr (h2 : 2 ≤ n) : ∀ row : List Int, isW .plain n row → crs .ring (mk .plain n row) = crs .plain (mk .plain n row) := by
  intro row
  refine snoc_ind (P := fun row => isW .plain n row → crs .ring (mk .plain n row) = crs .plain (mk .plain n row)) (fun _ => ?_) (fun row s ih hw => ?_) row
  · show crs .ring (stW .ring n) = crs .plain (stW .plain n)
    rw [crs_start, crs_start]
  · have hs : isS .plain n s := hw s (List.mem_append_right _ (List.mem_singleton.mpr rfl))
    have o := Od.mk hw.left
    have hl := o.len (gd_p h2)
    have ih := ih hw.left
    rw [mk_snoc]
    generalize mk .plain n row = w at *
    have c1 := crs_step (gd_p h2) o hs
    have c2 := crs_step (gd_r h2) o.pr (isS_pr hs)
    rw [stp_pr hl hs, xd_pr hl hs] at c2
    rw [c1, c2, ih]
theorem crs_pr' (h2 : 2 ≤ n) (h : Od .plain n w) : crs .ring w = crs .plain w := by
  obtain ⟨ss, h1, rfl⟩ := h
  exact crs_pr h2 ss h1
theorem opp_pr (h2 : 2 ≤ n) (h : Od .plain n w) : opp .ring w = opp .plain w := by
  obtain ⟨ss, h1, rfl⟩ := h
  rw [opp_mk (gd_p h2) h1, ← mk_pr h1, opp_mk (gd_r h2) (isW_pr h1), mk_pr h1.rev]
theorem prd_pr (h2 : 2 ≤ n) (hu : Od .plain n u) (hw : Od .plain n w) : prd .ring u w = prd .plain u w := by
  obtain ⟨r1, h1, rfl⟩ := hu
  obtain ⟨r3, h3, rfl⟩ := hw
  rw [prd_mk (gd_p h2) h1 h3, ← mk_pr h1, ← mk_pr h3, prd_mk (gd_r h2) (isW_pr h1) (isW_pr h3), mk_pr (h1.app h3)]
theorem ler_pr (h2 : 2 ≤ n) (h : Od .plain n w) : run .ring (stW .ring n) (ler hd0 .ring w) = run .ring (stW .ring n) (ler hd0 .plain w) := by
  have a := ler_Lr pk_hd (gd_r h2) h.pr
  have b := ler_Lr pk_hd (gd_p h2) h
  rw [a.run (gd_r h2), run_pr (stW_len .ring n) b.1]
  exact (b.run (gd_p h2)).symm
theorem greedy_pr (h2 : 2 ≤ n) (hu : Od .plain n u) (hw : Od .plain n w) : run .ring u (ler hd0 .ring w) = run .plain u (ler hd0 .plain w) := by
  have a := ler_Lr pk_hd (gd_r h2) hw.pr
  have b := ler_Lr pk_hd (gd_p h2) hw
  rw [run_same (gd_r h2) hu.pr a.1 (isW_pr b.1) (ler_pr h2 hw), run_pr (hu.len (gd_p h2)) b.1]
theorem below_pr (h2 : 2 ≤ n) (hu : Od .plain n u) (hw : Od .plain n w) : snk .ring u (ler hd0 .ring w) = snk .plain u (ler hd0 .plain w) := by
  have a := ler_Lr pk_hd (gd_r h2) hw.pr
  have b := ler_Lr pk_hd (gd_p h2) hw
  rw [snk_same (gd_r h2) hu.pr a.1 (isW_pr b.1) (ler_pr h2 hw), snk_pr (hu.len (gd_p h2)) b.1]
/-! ### powers -/
/-- found, taken so often greedily with what the row makes; it may stop where nothing changes -/
def pwr (k : Kd) (row : List Int) : Nat → List Int → List Int
  | 0, x => x
  | m + 1, x => pwr k row m (run k x row)
theorem pw_fix {k : Kd} {row x : List Int} (h : run k x row = x) : ∀ m, pwr k row m x = x
  | 0 => rfl
  | m + 1 => by rw [pwr, h]; exact pw_fix h m
theorem Od.pwr {k : Kd} {n : Nat} {row : List Int} (hw : isW k n row) : ∀ (m : Nat) {x : List Int}, Od k n x → Od k n (M.pwr k row m x)
  | 0, _, h => h
  | m + 1, _, h => Od.pwr hw m (Od.run h hw)
theorem unf_pw (gg : gd .mirror n) (hw : Od .mirror n w) : ∀ (m : Nat) {x : List Int}, Od .mirror n x → pwr .plain (ler hd0 .plain (unf n w)) m (unf n x) = unf n (pwr .mirror (ler hd0 .mirror w) m x)
  | 0, _, _ => rfl
  | m + 1, x, hx => by
    rw [pwr, pwr, unf_greedy gg hx hw]
    exact unf_pw gg hw m (Od.run hx (ler_Lr pk_hd gg hw).1)
theorem pw_pr (h2 : 2 ≤ n) (hw : Od .plain n w) : ∀ (m : Nat) {x : List Int}, Od .plain n x → pwr .ring (ler hd0 .ring w) m x = pwr .plain (ler hd0 .plain w) m x
  | 0, _, _ => rfl
  | m + 1, x, hx => by
    rw [pwr, pwr, greedy_pr h2 hx hw]
    exact pw_pr h2 hw m (Od.run hx (ler_Lr pk_hd (gd_p h2) hw).1)
/-! ### an order folded -/
def rf (n : Nat) (r : Int) : Int := r - n + (if (n : Int) ≤ r then 1 else 0)
theorem rf_rk {x : Int} (hx : x ≠ 0) : rf n (rk n x) = x := by
  unfold rf rk
  split <;> split <;> omega
theorem rk_rf (r : Int) : rk n (rf n r) = r := by
  unfold rf rk
  split <;> split <;> omega
theorem rf_lt {a b : Int} (h : a < b) : rf n a < rf n b := by
  unfold rf
  split <;> split <;> omega
end
end M
/-! W1: rules for evaluation; folds over rows; least rows. -/
namespace M
open PySem PySem.Spec PyProof.Rows L2
noncomputable section
@[simp] theorem ev_isL {ds : List D} : isL (.lst ds) = some ds := Eq.trans rfl rfl
@[simp] theorem ev_oLenL {ds : List D} : oLen (.lst ds) = some (.int ds.length) := Eq.trans rfl rfl
@[simp] theorem ev_mRev {f : ME} {ρ : Rho} : mRev f ρ = (f ρ).bind fun p => ((look p.1 p.2).bind isL).map fun ds => (.new (.lst ds.reverse), p.2) := Eq.trans rfl rfl
@[simp] theorem ev_mRev2 {f : ME} {ρ : Rho} : mRev2 f ρ = (f ρ).bind fun p => ((look p.1 p.2).bind isL).map fun ds => (.new (.lst ds.dropLast.reverse), p.2) := Eq.trans rfl rfl
@[simp] theorem ev_mCatL {f g : ME} {ρ : Rho} : mCatL f g ρ = (f ρ).bind fun p => (g p.2).bind fun q => (look p.1 q.2).bind fun x => (look q.1 q.2).bind fun y => (oCat x y).map fun d => (.new d, q.2) := Eq.trans rfl rfl
@[simp] theorem ev_mApp {f : ME} {fa : MD} {ρ : Rho} : mApp f fa ρ = (f ρ).bind fun p => ((look p.1 p.2).bind isL).bind fun _ => (fa p.2).bind fun q => (chg p.1 q.2 (oApp q.1)).map fun r => (.nx, r) := Eq.trans rfl rfl
@[simp] theorem ev_hM {f : ME} {ρ : Rho} : hM f ρ = (f ρ).bind fun p => M.hold p.1 p.2 := Eq.trans rfl rfl
@[simp] theorem ev_mPar {i j : Nat} {f g : ME} {ρ : Rho} : mPar i j f g ρ = (hM f ρ).bind fun p => (hM g p.2).bind fun q => (asg j q.1 q.2).bind fun r => (asg i p.1 r).map fun z => (.nx, z) := Eq.trans rfl rfl
@[simp] theorem ev_iRvL {f : MD} {ρ : Rho} : iRvL f ρ = (f ρ).bind fun p => match p.1 with
  | .lst ds => some (ds.reverse, p.2)
  | _ => none := Eq.trans rfl rfl
@[simp] theorem ev_mFor {f : MI} {s : MG} {b : MS} {ρ : Rho} : mFor f s b ρ = (f ρ).bind fun p => mForL s b p.1 p.2 := Eq.trans rfl rfl
theorem rg1_ok {fa : MA} {ρ ρ' : Rho} {z : Int} (h : fa ρ = some ([.int z], ρ')) (r : small z = true) : iRg1 fa ρ = some (rgD 0 z.toNat, ρ') := by
  unfold iRg1
  rw [h, Option.bind_some]
  show (if small z = true then _ else _) = _
  rw [if_pos r]
theorem rg1_len {fa : MA} {ρ ρ' : Rho} {N : Nat} (h : fa ρ = some ([.int N], ρ')) (r : N ≤ 100000) : iRg1 fa ρ = some ((ups N).map D.int, ρ') := by
  rw [rg1_ok h (small_ok (by omega) (by omega)), Int.toNat_natCast, rgD_ups]
theorem lt_line {n : Nat} (h : n ≤ 100000) : decide (n < sizeLine) = true := decide_eq_true (by rw [sizeLine_eq]; omega)
theorem app_ok {ds : List D} {d : D} (h : ds.length ≤ 100000) : oApp d (.lst ds) = some (.lst (ds ++ [d])) := by
  show (if decide (ds.length < sizeLine) = true then some (D.lst (ds ++ [d])) else none) = _
  rw [if_pos (lt_line h)]
theorem app_il {w : List Int} {x : Int} (h : w.length ≤ 100000) : oApp (.int x) (il w) = some (il (w ++ [x])) := by
  rw [app_ok (by rw [List.length_map]; exact h)]
  simp [il]
theorem ix_nat {ds : List D} {i : Nat} {d : D} (h : ds[i]? = some d) : oIx (.lst ds) (.int i) = some d := by
  show L2.atI ds i = _
  have hi : i < ds.length := by
    obtain ⟨q, _⟩ := List.getElem?_eq_some_iff.mp h
    exact q
  unfold L2.atI L2.ixN
  rw [if_pos (by omega), if_pos (by omega), Option.bind_some, Int.toNat_natCast, h]
theorem at0 {l : List Int} (h : l ≠ []) : oIx (il l) (.int 0) = some (.int (hd0 l)) := by
  cases l with
  | nil => exact absurd rfl h
  | cons a l => exact ix_nat (i := 0) rfl
theorem okl0 : okLen [] = true := by unfold okLen; rw [sizeLine_eq]; rfl
theorem oEq_nil (w : List Int) : oEq (il w) (.lst []) = some (.bl (decide (w = []))) := oEq_il w []
theorem oNe_nil (w : List Int) : oNe (il w) (.lst []) = some (.bl (!decide (w = []))) := oNe_il w []
theorem oEq_il0 : oEq (.lst []) (.lst []) = some (.bl true) := oEq_il [] []
theorem nil_ev {ρ : Rho} : mLst aNil ρ = some (.new (il []), ρ) := by
  have : okLen [] = true := by unfold okLen; rw [sizeLine_eq]; rfl
  simp [this, il]
theorem rev_il (w : List Int) : (D.lst (w.map D.int).reverse) = il w.reverse := by rw [← List.map_reverse]
theorem fN_rn {n : Nat} {s : MS} {ds : List D} {d : D} {ρ' : Rho} (h : s (argR ds n) = some (.rt (.new d), ρ')) : fnN n s ds = some d := by
  unfold fnN; rw [h]; rfl
section
variable {k : Kd} {n : Nat} {u v w o r : List Int} {s : Int}
theorem e_xd (z : Sz k n) (h : Od k n w) (hs : isS k n s) : m_is_crossed [.kd k.nm n, il w, .int s] = some (.bl (xd k w s)) := by
  have l := (h.vd z.g).len
  exact e_is_crossed hs.1 (by rw [l]; exact hs.2)
theorem e_stp (z : Sz k n) (h : Od k n w) (hs : isS k n s) : m_by_step [.kd k.nm n, il w, .int s] = some (il (stp k w s)) := by
  have l := (h.vd z.g).len
  exact e_by_step hs.1 (by rw [l]; exact hs.2)
theorem e_fls (z : Sz k n) (h : Od k n w) : m_falls_of [.kd k.nm n, il w] = some (il (fls k w)) := by
  have l := (h.vd z.g).len
  exact e_falls_of (by rw [l]) (by rw [l]; exact z.n1) (by rw [l]; exact z.n100)
theorem e_sta (z : Sz k n) : m_Kind_start [.kd k.nm n] = some (il (stW k n)) := e_startW k n z.n100
theorem e_stps : m_Kind_steps [.kd k.nm n] = some (.int (nst k n)) := by
  rw [e_steps]
  cases k <;> simp [nst]
theorem nst_range (z : Sz k n) : 0 ≤ nst k n ∧ nst k n ≤ 100 := by
  have := z.n100
  have := z.n1
  cases k <;> simp only [nst] <;> omega
theorem e_chk (z : Sz k n) (h : Od k n w) (hc : crs k w ≤ 60) : m_check_order [.kd k.nm n, il w] = some .non := e_check_order (h.vd z.g) z.n1 z.n100 hc
theorem e_let (z : Sz k n) (h : Od k n w) (hc : crs k w ≤ 60) : m_is_let_order [.kd k.nm n, il w] = some (.bl true) := e_is_let_order (h.vd z.g) z.n1 z.n100 hc
/-! ### folds -/
theorem fold_loop {tg : MG} {b : MS} {F : List Int → Int → List Int} {P : List Int → Prop} {Q : Int → Prop} (St : List Int → Sl → Rho)
    (ht : ∀ x t s, M.free t = true → tg (.int s) (St x t) = some (St x (.dat (.int s))))
    (hb : ∀ x s, P x → Q s → b (St x (.dat (.int s))) = some (.nx, St (F x s) (.dat (.int s))))
    (hP : ∀ x s, P x → Q s → P (F x s)) : ∀ (row : List Int) {x : List Int} {t : Sl}, P x → M.free t = true → (∀ s ∈ row, Q s) →
    ∃ t', M.free t' = true ∧ mForL tg b (row.map D.int) (St x t) = some (.nx, St (row.foldl F x) t')
  | [], x, t, _, f, _ => ⟨t, f, rfl⟩
  | s :: row, x, t, p, f, q => by
    have qs := q s (List.mem_cons_self ..)
    obtain ⟨t', f', e⟩ := fold_loop St ht hb hP row (x := F x s) (t := .dat (.int s)) (hP x s p qs) rfl fun s m => q s (List.mem_cons_of_mem _ m)
    refine ⟨t', f', ?_⟩
    rw [List.map_cons, mForL, ht x t s f, Option.bind_some, hb x s p qs]
    exact e
/-! ### least rows -/
def lrC : MB := asB (m2 oNe (fz (vr 4)) (fz (mLst aNil)))
def lrB : MS := mSeq (mApp (vr 2) (mIx oIx (vr 4) (cst (.int 0))))
    (mSeq (mSet 3 (upE (mC (nA m_by_step 3) (aCons (fz (vr 0)) (aCons (fz (vr 3)) (aCons (mIx oIx (vr 4) (cst (.int 0))) aNil))))))
    (mSet 4 (upE (mC (nA m_falls_of 2) (aCons (fz (vr 0)) (aCons (fz (vr 3)) aNil))))))
theorem ne_nil {l : List Int} {a b c d : Sl} : lrC [a, b, c, d, .dat (il l)] = some (!decide (l = []), [a, b, c, d, .dat (il l)]) := by
  have e := oNe_il l []
  simp only [lrC, ev_asB, ev_m2, ev_fz, ev_vr, nil_ev, List.getElem?_cons_succ, List.getElem?_cons_zero, Option.bind_some, ev_frz_dat, ev_frz_new, e, Option.map_some]
theorem lr_loop (z : Sz k n) {O : Sl} : ∀ (m : Nat) {w f : List Int} {fuel : Nat}, Od k n w → crs k w = m → m < fuel → f.length + m ≤ 5000 →
    mWhl lrC lrB fuel [.dat (.kd k.nm n), O, .own (il f), .dat (il w), .dat (il (fls k w))] = some (.nx, [.dat (.kd k.nm n), O, .own (il (f ++ (lrw hd0 k m w).reverse)), .dat (il (stW k n)), .dat (il [])])
  | 0, w, f, fuel + 1, h, e, _, _ => by
    have h0 := crs_zero z.g h e
    have h1 := (fls_nil z.g h).mpr h0
    rw [mWhl, ne_nil, h1, h0]
    simp [lrw]
  | m + 1, w, f, fuel + 1, h, e, hf, hl => by
    have h1 : fls k w ≠ [] := fun q => by
      have := (fls_nil z.g h).mp q
      rw [this, crs_start] at e
      omega
    obtain ⟨hs, hx⟩ := (mem_fls (h.len z.g)).mp (pk_hd _ h1)
    have c := crs_step z.g h hs
    rw [hx, if_pos rfl] at c
    have ih := lr_loop z (O := O) m (w := stp k w (hd0 (fls k w))) (f := f ++ [hd0 (fls k w)]) (fuel := fuel) (h.stp hs) (by omega) (by omega) (by rw [List.length_append, List.length_singleton]; omega)
    have b1 : lrB [.dat (.kd k.nm n), O, .own (il f), .dat (il w), .dat (il (fls k w))] = some (.nx, [.dat (.kd k.nm n), O, .own (il (f ++ [hd0 (fls k w)])), .dat (il (stp k w (hd0 (fls k w)))), .dat (il (fls k (stp k w (hd0 (fls k w)))))]) := by
      simp [lrB, at0 h1, app_il (w := f) (x := hd0 (fls k w)) (by omega), e_stp z h hs, e_fls z (h.stp hs)]
    rw [mWhl, ne_nil, Option.bind_some, if_pos (by simpa using h1), b1]
    show mWhl lrC lrB fuel _ = _
    rw [ih]
    have : lrw hd0 k (m + 1) w = lrw hd0 k m (stp k w (hd0 (fls k w))) ++ [hd0 (fls k w)] := by
      rw [lrw, if_neg h1]
    rw [this, List.reverse_append, List.append_assoc]
    rfl
theorem e_least_row_of (z : Sz k n) (h : Od k n w) (hc : crs k w ≤ 800) : m_least_row_of [.kd k.nm n, il w] = some (il (ler hd0 k w)) := by
  rw [m_least_row_of_eq]
  have c0 := crs_nonneg k w
  have e0 := lr_loop z (O := .dat (il w)) (crs k w).toNat (w := w) (f := []) (fuel := 5000) h (by omega) (by omega) (by simp; omega)
  refine fN_rn (ρ' := [.dat (.kd k.nm n), .dat (il w), .own (il (lrw hd0 k (crs k w).toNat w).reverse), .dat (il (stW k n)), .dat (il [])]) ?_
  show b_least_row_of [.dat (.kd k.nm n), .dat (il w), .un, .un, .un] = _
  have e1 : mPar 2 3 (mLst aNil) (upE (fz (n1 oList (vr 1)))) [.dat (.kd k.nm n), .dat (il w), .un, .un, .un] = some (.nx, [.dat (.kd k.nm n), .dat (il w), .own (il []), .dat (il w), .un]) := by
    simp [okl0]
  have e2 : mSet 4 (upE (mC (nA m_falls_of 2) (aCons (fz (vr 0)) (aCons (fz (vr 3)) aNil)))) [.dat (.kd k.nm n), .dat (il w), .own (il []), .dat (il w), .un] = some (.nx, [.dat (.kd k.nm n), .dat (il w), .own (il []), .dat (il w), .dat (il (fls k w))]) := by
    simp [e_fls z h]
  unfold b_least_row_of
  rw [seq_nx e1, seq_nx e2]
  show mSeq (mWhl lrC lrB 5000) _ _ = _
  rw [seq_nx e0]
  simp [ler, rev_il]
end
end
end M
/-! W2: gains, losses, rows made; what is beneath; parts. -/
namespace M
open PySem PySem.Spec PyProof.Rows L2
noncomputable section
section
variable {k : Kd} {n : Nat} {u v w o r g : List Int} {row ss : List Int} {s : Int}
abbrev KD (k : Kd) (n : Nat) : D := .kd k.nm n
theorem e_lesser (z : Sz k n) (h : Od k n w) (hs : isS k n s) : m_lesser [KD k n, il w, .int s] = some (il (lR k w s)) := by
  rw [m_lesser_eq]
  cases q : xd k w s <;> simp [b_lesser, e_xd z h hs, e_stp z h hs, q, lR_t, lR_f]
theorem e_gain (z : Sz k n) (h : Od k n w) (hs : isS k n s) : m_gain [KD k n, il w, .int s] = some (il (gR k w s)) := by
  rw [m_gain_eq]
  cases q : xd k w s <;> simp [b_gain, e_xd z h hs, e_stp z h hs, q, gR_t, gR_f]
theorem e_gained_all (z : Sz k n) (h : Od k n w) (hw : isW k n row) : m_gained_all [KD k n, il w, il row] = some (il (run k w row)) := by
  rw [m_gained_all_eq]
  obtain ⟨t', f', e⟩ := fold_loop (tg := gNm 4) (b := mSet 3 (upE (mC (nA m_gain 3) (aCons (fz (vr 0)) (aCons (fz (vr 3)) (aCons (fz (vr 4)) aNil))))))
    (F := gR k) (P := Od k n) (Q := isS k n) (fun x t => [.dat (KD k n), .dat (il w), .dat (il row), .dat (il x), t])
    (fun x t s f => by simp [f]) (fun x s h hs => by simp [e_gain z h hs]) (fun x s h hs => h.gR hs) row (x := w) (t := .un) h rfl hw
  simp [b_gained_all, e]
  rfl
theorem e_greedy_of (z : Sz k n) (h : Od k n u) (h' : Od k n w) (hc : crs k w ≤ 800) : m_greedy_of [KD k n, il u, il w] = some (il (run k u (ler hd0 k w))) := by
  rw [m_greedy_of_eq]
  simp [b_greedy_of, e_least_row_of z h' hc, e_gained_all z h (ler_Lr pk_hd z.g h').1]
end
end
end M
/-! W3: what is beneath; parts of a row; factors. -/
namespace M
open PySem PySem.Spec PyProof.Rows L2
noncomputable section
section
variable {k : Kd} {n : Nat} {u v w x o r g : List Int} {row ss : List Int} {s : Int}
/-! ### is_below -/
def ibC : MB := asB (m2 oNe (fz (vr 5)) (fz (mLst aNil)))
def ibB : MS := mSeq (mPar 3 4 (upE (mC (nA m_lesser 3) (aCons (fz (vr 0)) (aCons (fz (vr 3)) (aCons (mIx oIx (vr 5) (cst (.int 0))) aNil))))) (upE (mC (nA m_by_step 3) (aCons (fz (vr 0)) (aCons (fz (vr 4)) (aCons (mIx oIx (vr 5) (cst (.int 0))) aNil))))))
    (mSet 5 (upE (mC (nA m_falls_of 2) (aCons (fz (vr 0)) (aCons (fz (vr 4)) aNil)))))
theorem ib_ne {l : List Int} {a b c d e : Sl} : ibC [a, b, c, d, e, .dat (il l)] = some (!decide (l = []), [a, b, c, d, e, .dat (il l)]) := by
  have e := oNe_il l []
  simp only [ibC, ev_asB, ev_m2, ev_fz, ev_vr, nil_ev, List.getElem?_cons_succ, List.getElem?_cons_zero, Option.bind_some, ev_frz_dat, ev_frz_new, e, Option.map_some]
theorem ib_loop (z : Sz k n) {A B : Sl} : ∀ (m : Nat) {w x : List Int} {fuel : Nat}, Od k n w → Od k n x → crs k w = m → m < fuel →
    mWhl ibC ibB fuel [.dat (KD k n), A, B, .dat (il x), .dat (il w), .dat (il (fls k w))] = some (.nx, [.dat (KD k n), A, B, .dat (il (snk k x (lrw hd0 k m w))), .dat (il (stW k n)), .dat (il [])])
  | 0, w, x, fuel + 1, h, _, e, _ => by
    have h0 := crs_zero z.g h e
    have h1 := (fls_nil z.g h).mpr h0
    rw [mWhl, ib_ne, h1, h0]
    simp [lrw, snk]
  | m + 1, w, x, fuel + 1, h, hx', e, hf => by
    have h1 : fls k w ≠ [] := fun q => by
      have := (fls_nil z.g h).mp q
      rw [this, crs_start] at e
      omega
    obtain ⟨hs, hx⟩ := (mem_fls (h.len z.g)).mp (pk_hd _ h1)
    have c := crs_step z.g h hs
    rw [hx, if_pos rfl] at c
    have ih := ib_loop z (A := A) (B := B) m (w := stp k w (hd0 (fls k w))) (x := lR k x (hd0 (fls k w))) (fuel := fuel) (h.stp hs) (hx'.lR hs) (by omega) (by omega)
    have b1 : ibB [.dat (KD k n), A, B, .dat (il x), .dat (il w), .dat (il (fls k w))] = some (.nx, [.dat (KD k n), A, B, .dat (il (lR k x (hd0 (fls k w)))), .dat (il (stp k w (hd0 (fls k w)))), .dat (il (fls k (stp k w (hd0 (fls k w)))))]) := by
      simp [ibB, at0 h1, e_lesser z hx' hs, e_stp z h hs, e_fls z (h.stp hs)]
    rw [mWhl, ib_ne, Option.bind_some, if_pos (by simpa using h1), b1]
    show mWhl ibC ibB fuel _ = _
    rw [ih]
    have : lrw hd0 k (m + 1) w = lrw hd0 k m (stp k w (hd0 (fls k w))) ++ [hd0 (fls k w)] := by
      rw [lrw, if_neg h1]
    rw [this, snk_snoc]
theorem e_is_below (z : Sz k n) (hu : Od k n u) (h : Od k n w) (hc : crs k w ≤ 800) : m_is_below [KD k n, il u, il w] = some (.bl (decide (snk k u (ler hd0 k w) = stW k n))) := by
  rw [m_is_below_eq]
  have c0 := crs_nonneg k w
  have e0 := ib_loop z (A := .dat (il u)) (B := .dat (il w)) (crs k w).toNat (w := w) (x := u) (fuel := 5000) h hu (by omega) (by omega)
  have e1 : mPar 3 4 (vr 1) (vr 2) [.dat (KD k n), .dat (il u), .dat (il w), .un, .un, .un] = some (.nx, [.dat (KD k n), .dat (il u), .dat (il w), .dat (il u), .dat (il w), .un]) := by simp
  have e2 : mSet 5 (upE (mC (nA m_falls_of 2) (aCons (fz (vr 0)) (aCons (fz (vr 4)) aNil)))) [.dat (KD k n), .dat (il u), .dat (il w), .dat (il u), .dat (il w), .un] = some (.nx, [.dat (KD k n), .dat (il u), .dat (il w), .dat (il u), .dat (il w), .dat (il (fls k w))]) := by
    simp [e_fls z h]
  refine fn_rt (ρ' := [.dat (KD k n), .dat (il u), .dat (il w), .dat (il (snk k u (lrw hd0 k (crs k w).toNat w))), .dat (il (stW k n)), .dat (il [])]) ?_
  show b_is_below [.dat (KD k n), .dat (il u), .dat (il w), .un, .un, .un] = _
  unfold b_is_below
  rw [seq_nx e1, seq_nx e2]
  show mSeq (mWhl ibC ibB 5000) _ _ = _
  rw [seq_nx e0]
  simp [e_sta z, oEq_il, ler]
  try exact decide_eq_decide.mpr Iff.rfl
/-! ### part_of -/
def kpi (k : Kd) (x : List Int) : List Int → Nat → List Int
  | [], _ => []
  | s :: row, i => if xd k (snk k x row) s then (i : Int) :: kpi k x row (i + 1) else kpi k x row (i + 1)
theorem kpi_app (x : List Int) : ∀ (a b : List Int) (i : Nat), kpi k x (a ++ b) i = kpi k (snk k x b) a i ++ kpi k x b (i + a.length)
  | [], b, i => rfl
  | s :: a, b, i => by
    have e1 : kpi k x (s :: (a ++ b)) i = if xd k (snk k x (a ++ b)) s then (i : Int) :: kpi k x (a ++ b) (i + 1) else kpi k x (a ++ b) (i + 1) := rfl
    have e2 : kpi k (snk k x b) (s :: a) i = if xd k (snk k (snk k x b) a) s then (i : Int) :: kpi k (snk k x b) a (i + 1) else kpi k (snk k x b) a (i + 1) := rfl
    rw [List.cons_append, e1, e2, snk_app, kpi_app x a b, List.length_cons, show i + 1 + a.length = i + (a.length + 1) by omega]
    split <;> rfl
theorem kpi_rng (x : List Int) : ∀ (row : List Int) (i : Nat), ∀ j ∈ kpi k x row i, (i : Int) ≤ j ∧ j < i + row.length
  | [], i, j, m => by cases m
  | s :: row, i, j, m => by
    have ih := kpi_rng x row (i + 1) j
    rw [List.length_cons]
    unfold kpi at m
    split at m
    · rcases List.mem_cons.mp m with rfl | m
      · omega
      · have := ih m; omega
    · have := ih m; omega
theorem kpi_map (x : List Int) : ∀ (row pre : List Int), (kpi k x row pre.length).map (gt (pre ++ row)) = kp k x row
  | [], pre => rfl
  | s :: row, pre => by
    have ih := kpi_map x row (pre ++ [s])
    rw [List.length_append, List.length_singleton, List.append_assoc] at ih
    have ih : (kpi k x row (pre.length + 1)).map (gt (pre ++ s :: row)) = kp k x row := ih
    have e : gt (pre ++ s :: row) (pre.length : Int) = s := by
      rw [gt_nat, List.getD_eq_getElem?_getD, List.getElem?_append_right (Nat.le_refl _), Nat.sub_self]; rfl
    unfold kpi kp
    split
    · rw [List.map_cons, e, ih]
    · exact ih
def poB : MS := mIf (asB (mC (nA m_is_crossed 3) (aCons (fz (vr 0)) (aCons (fz (vr 4)) (aCons (mIx oIx (vr 2) (fz (vr 5))) aNil))))) (mSeq (mApp (vr 3) (fz (vr 5)))
    (mSet 4 (upE (mC (nA m_by_step 3) (aCons (fz (vr 0)) (aCons (fz (vr 4)) (aCons (mIx oIx (vr 2) (fz (vr 5))) aNil))))))) mNil
theorem po_loop (z : Sz k n) (h : Od k n x) (hw : isW k n row) (hl : row.length ≤ 5000) : ∃ t, mForL (gNm 5) poB (rcD ((row.length : Nat) - 1 : Int) (-1) row.length) [.dat (KD k n), .dat (il x), .dat (il row), .own (il []), .dat (il x), .un] =
    some (.nx, [.dat (KD k n), .dat (il x), .dat (il row), .own (il (kpi k x row 0).reverse), .dat (il (snk k x row)), t]) := by
  obtain ⟨ρ', e, t, f, e2⟩ := for_ind (s := gNm 5) (b := poB) (ds := rcD ((row.length : Nat) - 1 : Int) (-1) row.length)
    (fun i ρ => ∃ t, M.free t = true ∧ ρ = [.dat (KD k n), .dat (il x), .dat (il row), .own (il (kpi k x (row.drop (row.length - i)) (row.length - i)).reverse), .dat (il (snk k x (row.drop (row.length - i)))), t])
    (fun i d ρ hd ⟨t, f, e⟩ => by
      obtain ⟨hi, rfl⟩ := rcD_get hd
      subst e
      obtain ⟨j, hj⟩ : ∃ j, row.length - i = j + 1 := ⟨row.length - i - 1, by omega⟩
      have hjl : j < row.length := by omega
      have e1 : row.length - (i + 1) = j := by omega
      have ed : row.drop j = gt row (j : Int) :: row.drop (j + 1) := by
        rw [List.drop_eq_getElem_cons hjl, gt_nat, List.getD_eq_getElem?_getD, List.getElem?_eq_getElem hjl]; rfl
      have ei : ((row.length : Nat) - 1 : Int) + (i : Nat) * (-1) = (j : Int) := by omega
      rw [hj, e1, ei]
      have hs : isS k n (gt row (j : Int)) := hw _ (gt_mem hjl)
      have ho := Od.snk h (row := row.drop (j + 1)) (isW.sub hw (List.drop_sublist _ _))
      have ha := at_il (w := row) (i := (j : Int)) (by omega) (by omega)
      refine ⟨[.dat (KD k n), .dat (il x), .dat (il row), .own (il (kpi k x (row.drop (j + 1)) (j + 1)).reverse), .dat (il (snk k x (row.drop (j + 1)))), .dat (.int j)], [.dat (KD k n), .dat (il x), .dat (il row), .own (il (kpi k x (row.drop j) j).reverse), .dat (il (snk k x (row.drop j))), .dat (.int j)], by simp [f], ?_, _, rfl, rfl⟩
      have hlen : (kpi k x (row.drop (j + 1)) (j + 1)).reverse.length ≤ 100000 := by
        have : ∀ (r : List Int) (i : Nat), (kpi k x r i).length ≤ r.length := by
          intro r
          induction r with
          | nil => intro i; exact Nat.le_refl _
          | cons s r ih =>
            intro i
            have := ih (i + 1)
            unfold kpi
            split <;> simp only [List.length_cons] <;> omega
        have := this (row.drop (j + 1)) (j + 1)
        rw [List.length_drop] at this
        rw [List.length_reverse]; omega
      rw [ed]
      have k1 : kpi k x (gt row (j : Int) :: row.drop (j + 1)) j = if xd k (snk k x (row.drop (j + 1))) (gt row (j : Int)) then (j : Int) :: kpi k x (row.drop (j + 1)) (j + 1) else kpi k x (row.drop (j + 1)) (j + 1) := rfl
      rw [k1, snk_cons]
      cases q : xd k (snk k x (row.drop (j + 1))) (gt row (j : Int)) with
      | true => simp [poB, ha, e_xd z ho hs, e_stp z ho hs, q, lR_t, app_il hlen]
      | false => simp [poB, ha, e_xd z ho hs, q, lR_f])
    (ρ := [.dat (KD k n), .dat (il x), .dat (il row), .own (il []), .dat (il x), .un]) ⟨.un, rfl, by simp [kpi, snk]⟩
  rw [rcD_len, Nat.sub_self] at e2
  refine ⟨t, ?_⟩
  rw [e, e2]
  rfl
theorem small_nat {m : Nat} (h : m ≤ 100000) : small (m : Int) = true := small_ok (by omega) (by omega)
end
end
end M
/-! W4: what is told of orders and rows. -/
namespace M
open PySem PySem.Spec PyProof.Rows L2
noncomputable section
section
variable {k : Kd} {n : Nat} {u v w x o r g : List Int} {row ss : List Int} {s : Int}
/-- no item is taken -/
theorem cmp_none {i : MI} {s : MG} {t : MB} {f : MD} {vs : List Nat} {ρ ρ0 ρ1 : Rho} {ds : List D} (hi : i ρ0 = some (ds, ρ1)) (hw : wipeR ρ1 vs = ρ)
    (hd : ∀ d ∈ ds, ∃ r p, s d ρ = some r ∧ t r = some (false, p) ∧ wipeR p vs = ρ) (hl : ds.length ≤ 100000) :
    mCmp i s t f vs ρ0 = some (.new (il []), ρ) := by
  have := cmp_if (f := f) (keep := fun _ => false) (h := id) hi hw (fun d m => by
    obtain ⟨r, p, e1, e2, e3⟩ := hd d m
    exact ⟨r, p, e1, e2, (fun z => by cases z), fun _ => e3⟩) hl
  rw [this]
  have e : ds.filter (fun _ => false) = [] := by simp
  rw [e]; rfl
theorem e_two (z : Sz k n) (hu : Od k n u) (hw : Od k n w) (c1 : crs k u ≤ 60) (c2 : crs k w ≤ 60) : m_check_two_orders [KD k n, il u, il w] = some .non := by
  rw [m_check_two_orders_eq]
  simp [b_check_two_orders, e_check_kind, e_chk z hu c1, e_chk z hw c2]
theorem e_is_beneath (z : Sz k n) (hu : Od k n u) (hw : Od k n w) (c1 : crs k u ≤ 60) (c2 : crs k w ≤ 60) : m_is_beneath [KD k n, il u, il w] = some (.bl (decide (snk k u (ler hd0 k w) = stW k n))) := by
  rw [m_is_beneath_eq]
  simp [b_is_beneath, e_two z hu hw c1 c2, e_is_below z hu hw (by omega)]
instance {k : Kd} {u w : List Int} : Decidable (bg k u w) := by unfold bg; infer_instance
theorem okl2 {a b : D} : okLen [a, b] = true := ev_okLen2
theorem e_product (z : Sz k n) (hu : Od k n u) (hw : Od k n w) (c1 : crs k u ≤ 60) (c2 : crs k w ≤ 60) : m_product [KD k n, il u, il w] = some (il (prd k u w)) := by
  rw [m_product_eq]
  have e1 : m_check_orders [KD k n, .lst [il u, il w]] = some .non := by
    rw [m_check_orders_eq]
    have a : mForL (gNm 2) (mDrop (mC (nA m_check_order 2) (aCons (fz (vr 0)) (aCons (fz (vr 2)) aNil)))) [il u, il w] [.dat (KD k n), .dat (.lst [il u, il w]), .un] = some (.nx, [.dat (KD k n), .dat (.lst [il u, il w]), .dat (il w)]) := by
      simp [mForL, e_chk z hu c1, e_chk z hw c2]
    simp [b_check_orders, e_check_kind, a]
  simp [b_product, e1, e_prd z hu hw (by omega)]
/-! ### factors -/
end
end
end M
/-! W5: the law's own steps. -/
namespace M
open PySem PySem.Spec PyProof.Rows L2
noncomputable section
abbrev tld (k : Kd) (n : Nat) : D := .tup [.str k.nm, .int n]
@[simp] theorem ix_t0 {a b : D} : oIx (.tup [a, b]) (.int 0) = some a := Eq.trans rfl rfl
@[simp] theorem ix_t1 {a b : D} : oIx (.tup [a, b]) (.int 1) = some b := Eq.trans rfl rfl
section
variable {k : Kd} {n : Nat} {u v w x o r g : List Int} {row ss : List Int} {s : Int}
/-! ### the law's least rows -/
theorem at_last {l : List Int} (h : l ≠ []) : oIx (il l) (.int ((l.length : Int) - 1)) = some (.int (ls0 l)) := by
  have hl : 0 < l.length := List.length_pos_iff.mpr h
  rw [at_il (by omega) (by omega)]
  congr 2
  unfold gt ls0
  rw [show ((l.length : Int) - 1).toNat = l.length - 1 by omega, List.getD_eq_getElem?_getD, List.getLastD_eq_getLast?, List.getLast?_eq_getElem?]
end
end
end M
/-! W7: the law's draws. -/
namespace M
open PySem PySem.Spec PyProof.Rows L2
noncomputable section
theorem mul_med {x y : Int} (h1 : -(2 ^ 64) < x) (h2 : x < 2 ^ 64) (h3 : -(2 ^ 64) < y) (h4 : y < 2 ^ 64) : oMul (.int x) (.int y) = some (.int (x * y)) := by
  have a := PySem.intBits_le_64 h1 h2
  have b := PySem.intBits_le_64 h3 h4
  have c : CMulX x y := by unfold CMulX; omega
  show (if CMulX x y then some (D.int (x * y)) else none) = _
  rw [if_pos c]
theorem div_med {x n : Int} (h1 : 1 ≤ n) (h2 : n ≤ 8000) : oDiv (.int x) (.int n) = some (.int (x / n)) := by
  have c : CDivW x n := ⟨by omega, Nat.lt_of_le_of_lt (Nat.log2_le_self _) (by omega)⟩
  show (if CDivW x n then some (D.int (x / n)) else none) = _
  rw [if_pos c]
theorem mod_ok {x n : Int} (h : 0 < n) : oMod (.int x) (.int n) = some (.int (x % n)) := by
  show (if 0 < n then some (D.int (x % n)) else none) = _
  rw [if_pos h]
theorem add_ok {x y : Int} : oAdd (.int x) (.int y) = some (.int (x + y)) := rfl
/-- an operation of two, where the parts are known -/
theorem m2_ok {op : D → D → Option D} {fa fb : MD} {ρ : Rho} {x y d : D} (h1 : fa ρ = some (x, ρ)) (h2 : fb ρ = some (y, ρ)) (h : op x y = some d) : m2 op fa fb ρ = some (d, ρ) := by
  rw [ev_m2, h1, Option.bind_some, h2, Option.bind_some, h]; rfl
theorem int_ok {f : MD} {ρ : Rho} {x : Int} (h : f ρ = some (.int x, ρ)) : m1 oInt (upE f) ρ = some (.int x, ρ) := by
  rw [ev_m1, ev_upE, h]; rfl
theorem cst_ok {d : D} {ρ : Rho} : cst d ρ = some (d, ρ) := rfl
theorem set_ok {i : Nat} {f : MD} {ρ : Rho} {d : D} {s : Sl} (h : f ρ = some (d, ρ)) (hi : ρ[i]? = some s) (hf : M.free s = true) : mSet i (upE f) ρ = some (.nx, ρ.set i (.dat d)) := by
  rw [ev_mSet, ev_upE, h, Option.map_some, Option.bind_some, ev_asg, hi]
  simp [hf]
theorem bd64 {m : Int} (h1 : -(2 ^ 64) < m) (h2 : m < 2 ^ 64) : -(2 ^ 64) < m ∧ m < 2 ^ 64 := ⟨h1, h2⟩
def hs1 (s i : Int) : Int := (s * 1140671 + 27644437 * i * i + 131 * i + 19) % 2147483629
def hs2 (s i : Int) : Int := (hs1 s i * hs1 s i + 62089 * i + 32416187) % 2147483587
def hsh (s i : Int) : Int := (hs2 s i * 48271) % 2147483647
theorem e__law_hash {s i : Int} (h1 : 0 ≤ s) (h2 : s < 2147483647) (h3 : 0 ≤ i) (h4 : i ≤ 100000) : m__law_hash [.int s, .int i] = some (.int (hsh s i)) := by
  have a0 : ∀ x : Sl, fz (vr 0) [.dat (.int s), .dat (.int i), x] = some (.int s, [.dat (.int s), .dat (.int i), x]) := fun x => by simp
  have a1 : ∀ x : Sl, fz (vr 1) [.dat (.int s), .dat (.int i), x] = some (.int i, [.dat (.int s), .dat (.int i), x]) := fun x => by simp
  have a2 : ∀ y : Int, fz (vr 2) [.dat (.int s), .dat (.int i), .dat (.int y)] = some (.int y, [.dat (.int s), .dat (.int i), .dat (.int y)]) := fun y => by simp
  have b1 : 0 ≤ hs1 s i ∧ hs1 s i < 2147483629 := ⟨Int.emod_nonneg _ (by omega), Int.emod_lt_of_pos _ (by omega)⟩
  have b2 : 0 ≤ hs2 s i ∧ hs2 s i < 2147483587 := ⟨Int.emod_nonneg _ (by omega), Int.emod_lt_of_pos _ (by omega)⟩
  have e1 : mSet 2 (upE (m2 oMod (m1 oInt (upE (m2 oAdd (m2 oAdd (m2 oAdd (m2 oMul (fz (vr 0)) (cst (.int 1140671))) (m2 oMul (m2 oMul (cst (.int 27644437)) (fz (vr 1))) (fz (vr 1)))) (m2 oMul (cst (.int 131)) (fz (vr 1)))) (cst (.int 19))))) (cst (.int 2147483629)))) [.dat (.int s), .dat (.int i), .un] = some (.nx, [.dat (.int s), .dat (.int i), .dat (.int (hs1 s i))]) :=
    set_ok (m2_ok (int_ok (m2_ok (m2_ok (m2_ok (m2_ok (a0 _) cst_ok (mul_med (by omega) (by omega) (by omega) (by omega))) (m2_ok (m2_ok cst_ok (a1 _) (mul_med (by omega) (by omega) (by omega) (by omega))) (a1 _) (mul_med (by omega) (by omega) (by omega) (by omega))) add_ok) (m2_ok cst_ok (a1 _) (mul_med (by omega) (by omega) (by omega) (by omega))) add_ok) cst_ok add_ok)) cst_ok (mod_ok (by omega))) rfl rfl
  have e2 : mSet 2 (upE (m2 oMod (m1 oInt (upE (m2 oAdd (m2 oAdd (m2 oMul (fz (vr 2)) (fz (vr 2))) (m2 oMul (cst (.int 62089)) (fz (vr 1)))) (cst (.int 32416187))))) (cst (.int 2147483587)))) [.dat (.int s), .dat (.int i), .dat (.int (hs1 s i))] = some (.nx, [.dat (.int s), .dat (.int i), .dat (.int (hs2 s i))]) :=
    set_ok (m2_ok (int_ok (m2_ok (m2_ok (m2_ok (a2 _) (a2 _) (mul_med (by omega) (by omega) (by omega) (by omega))) (m2_ok cst_ok (a1 _) (mul_med (by omega) (by omega) (by omega) (by omega))) add_ok) cst_ok add_ok)) cst_ok (mod_ok (by omega))) rfl rfl
  have e3 : m2 oMod (m1 oInt (upE (m2 oMul (fz (vr 2)) (cst (.int 48271))))) (cst (.int 2147483647)) [.dat (.int s), .dat (.int i), .dat (.int (hs2 s i))] = some (.int (hsh s i), [.dat (.int s), .dat (.int i), .dat (.int (hs2 s i))]) :=
    m2_ok (int_ok (m2_ok (a2 _) cst_ok (mul_med (by omega) (by omega) (by omega) (by omega)))) cst_ok (mod_ok (by omega))
  rw [m__law_hash_eq]
  refine fn_rt (ρ' := [.dat (.int s), .dat (.int i), .dat (.int (hs2 s i))]) ?_
  show b__law_hash [.dat (.int s), .dat (.int i), .un] = _
  unfold b__law_hash
  rw [seq_nx e1, seq_nx e2, ev_mRet, ev_upE, e3]
  rfl
theorem hsh_rg (s i : Int) : 0 ≤ hsh s i ∧ hsh s i < 2147483647 := ⟨Int.emod_nonneg _ (by omega), Int.emod_lt_of_pos _ (by omega)⟩
/-- a generator -/
def GOK (B : Int) (g : D) : Prop := ∃ a b c : Int, g = il [a, b, c] ∧ 0 ≤ a ∧ 0 ≤ b ∧ b < 2147483647 ∧ 0 ≤ c ∧ c ≤ B
theorem bits_8 {x : Int} (h1 : 1 ≤ x) (h2 : x ≤ 64) : ((Builtin.Int.intBits x : Nat) : Int) / 30 = 0 := by
  have hb : Builtin.Int.intBits x ≤ 7 := by
    have : ∀ m : Nat, m ≤ 64 → Builtin.Int.intBits (m : Int) ≤ 7 := by decide +kernel
    have := this x.toNat (by omega)
    rw [show ((x.toNat : Nat) : Int) = x by omega] at this
    exact this
  omega
theorem ix3 {a b c : Int} : oIx (il [a, b, c]) (.int 0) = some (.int a) ∧ oIx (il [a, b, c]) (.int 1) = some (.int b) ∧ oIx (il [a, b, c]) (.int 2) = some (.int c) := ⟨rfl, rfl, rfl⟩
theorem st3 {a b c x : Int} : oSet (.int 0) (.int x) (il [a, b, c]) = some (il [x, b, c]) ∧ oSet (.int 2) (.int x) (il [a, b, c]) = some (il [a, b, x]) := ⟨rfl, rfl⟩
def rnB (mh : List D → Option D) : MS := mSeq (mIf (asB (m2 oGt (mIx oIx (vr 0) (cst (.int 0))) (cst (.int 0)))) (mSeq (mSet 2 (upE (m2 oMod (m1 oInt (upE (mIx oIx (vr 0) (cst (.int 0))))) (fz (vr 1)))))
    (mSeq (mAsg (m2 oDiv (mIx oIx (vr 0) (cst (.int 0))) (fz (vr 1))) (gSubL (vr 0) (cst (.int 0))))
    (mRet (vr 2)))) mNil)
    (mSeq (mSet 2 (upE (cst (.int 0))))
    (mSeq (mFor (iRg1 (aCons (m2 oAdd (cst (.int 1)) (m2 oDiv (m1 oBits (vr 1)) (cst (.int 30)))) aNil)) (gNm 3) (mSeq (mAsg (m2 oAdd (mIx oIx (vr 0) (cst (.int 2))) (cst (.int 1))) (gSubL (vr 0) (cst (.int 2))))
    (mSet 2 (upE (m2 oAdd (m2 oMul (fz (vr 2)) (cst (.int 2147483587))) (mC (nA mh 2) (aCons (mIx oIx (vr 0) (cst (.int 1))) (aCons (mIx oIx (vr 0) (cst (.int 2))) aNil))))))))
    (mRet (upE (m2 oMod (m1 oInt (vr 2)) (fz (vr 1)))))))
theorem rn_def : m__law_random = fnG 2 (rnB m__law_hash) := m__law_random_eq
theorem fg_rt {n : Nat} {f : MS} {g g' d : D} {ds : List D} {ρ : Rho} (h : f (.io g :: argR ds n) = some (.rt (.dat d), .io g' :: ρ)) : fnG n f g ds = some (d, g') := by
  unfold fnG
  rw [h]
  rfl
theorem fg_rn {n : Nat} {f : MS} {g g' d : D} {ds : List D} {ρ : Rho} (h : f (.io g :: argR ds n) = some (.rt (.new d), .io g' :: ρ)) : fnG n f g ds = some (d, g') := by
  unfold fnG
  rw [h]
  rfl
theorem e__law_random {B : Int} {g : D} {x : Int} (hg : GOK B g) (hB : B ≤ 90000) (h1 : 1 ≤ x) (h2 : x ≤ 64) : ∃ (y : Int) (g' : D), m__law_random g [.int x] = some (.int y, g') ∧ 0 ≤ y ∧ y < x ∧ GOK (B + 1) g' := by
  obtain ⟨a, b, c, rfl, ha, hb, hb2, hc, hc2⟩ := hg
  obtain ⟨i0, i1, i2⟩ := ix3 (a := a) (b := b) (c := c)
  rw [rn_def]
  have hx : 0 < x := by omega
  by_cases h : 0 < a
  · have hd := div_med (x := a) (n := x) h1 (by omega)
    have s0 := (st3 (a := a) (b := b) (c := c) (x := a / x)).1
    refine ⟨a % x, il [a / x, b, c], ?_, Int.emod_nonneg _ (by omega), Int.emod_lt_of_pos _ (by omega), a / x, b, c, rfl, Int.ediv_nonneg ha (by omega), hb, hb2, hc, by omega⟩
    refine fg_rt (ρ := [.dat (.int x), .dat (.int (a % x)), .un]) ?_
    show rnB m__law_hash [.io (il [a, b, c]), .dat (.int x), .un, .un] = _
    unfold rnB
    refine seq_rt ?_
    simp [i0, h, hx, hd, s0]
  · have j0 := (ix3 (a := a) (b := b) (c := c + 1))
    have s2 := (st3 (a := a) (b := b) (c := c) (x := c + 1)).2
    have hh := e__law_hash (s := b) (i := c + 1) hb hb2 (by omega) (by omega)
    have hr := hsh_rg b (c + 1)
    generalize m__law_hash = mh at hh
    generalize hsh b (c + 1) = q at hh hr
    refine ⟨q % x, il [a, b, c + 1], ?_, Int.emod_nonneg _ (by omega), Int.emod_lt_of_pos _ (by omega), a, b, c + 1, rfl, ha, hb, hb2, by omega, by omega⟩
    have e1 : mIf (asB (m2 oGt (mIx oIx (vr 0) (cst (.int 0))) (cst (.int 0)))) (mSeq (mSet 2 (upE (m2 oMod (m1 oInt (upE (mIx oIx (vr 0) (cst (.int 0))))) (fz (vr 1)))))
    (mSeq (mAsg (m2 oDiv (mIx oIx (vr 0) (cst (.int 0))) (fz (vr 1))) (gSubL (vr 0) (cst (.int 0))))
    (mRet (vr 2)))) mNil [.io (il [a, b, c]), .dat (.int x), .un, .un] = some (.nx, [.io (il [a, b, c]), .dat (.int x), .un, .un]) := by
      simp [i0, h]
    have e2 : mSet 2 (upE (cst (.int 0))) [.io (il [a, b, c]), .dat (.int x), .un, .un] = some (.nx, [.io (il [a, b, c]), .dat (.int x), .dat (.int 0), .un]) := by simp
    have r1 : iRg1 (aCons (m2 oAdd (cst (.int 1)) (m2 oDiv (m1 oBits (vr 1)) (cst (.int 30)))) aNil) [.io (il [a, b, c]), .dat (.int x), .dat (.int 0), .un] = some ([.int 0], [.io (il [a, b, c]), .dat (.int x), .dat (.int 0), .un]) := by
      have b8 := bits_8 h1 h2
      have f1 : m1 oBits (vr 1) [.io (il [a, b, c]), .dat (.int x), .dat (.int 0), .un] = some (.int (Builtin.Int.intBits x : Nat), [.io (il [a, b, c]), .dat (.int x), .dat (.int 0), .un]) := by
        have : oBits (.int x) = some (.int (Builtin.Int.intBits x : Nat)) := rfl
        simp [this]
      have f2 : m2 oDiv (m1 oBits (vr 1)) (cst (.int 30)) [.io (il [a, b, c]), .dat (.int x), .dat (.int 0), .un] = some (.int 0, [.io (il [a, b, c]), .dat (.int x), .dat (.int 0), .un]) := by
        refine m2_ok f1 cst_ok ?_
        rw [div_med (by omega) (by omega), b8]
      have f3 := m2_ok (op := oAdd) (fa := cst (.int 1)) (ρ := [.io (il [a, b, c]), .dat (.int x), .dat (.int 0), .un]) cst_ok f2 add_ok
      have f4 : aCons (m2 oAdd (cst (.int 1)) (m2 oDiv (m1 oBits (vr 1)) (cst (.int 30)))) aNil [.io (il [a, b, c]), .dat (.int x), .dat (.int 0), .un] = some ([.int 1], [.io (il [a, b, c]), .dat (.int x), .dat (.int 0), .un]) := by
        rw [ev_aCons, f3]; rfl
      exact rg1_ok f4 (small_ok (by omega) (by omega))
    have t1 : mSeq (mAsg (m2 oAdd (mIx oIx (vr 0) (cst (.int 2))) (cst (.int 1))) (gSubL (vr 0) (cst (.int 2)))) (mSet 2 (upE (m2 oAdd (m2 oMul (fz (vr 2)) (cst (.int 2147483587))) (mC (nA mh 2) (aCons (mIx oIx (vr 0) (cst (.int 1))) (aCons (mIx oIx (vr 0) (cst (.int 2))) aNil)))))) [.io (il [a, b, c]), .dat (.int x), .dat (.int 0), .dat (.int 0)] = some (.nx, [.io (il [a, b, c + 1]), .dat (.int x), .dat (.int q), .dat (.int 0)]) := by
      have u1 : mAsg (m2 oAdd (mIx oIx (vr 0) (cst (.int 2))) (cst (.int 1))) (gSubL (vr 0) (cst (.int 2))) [.io (il [a, b, c]), .dat (.int x), .dat (.int 0), .dat (.int 0)] = some (.nx, [.io (il [a, b, c + 1]), .dat (.int x), .dat (.int 0), .dat (.int 0)]) := by
        simp [i2, s2]
      have u2 : m2 oMul (fz (vr 2)) (cst (.int 2147483587)) [.io (il [a, b, c + 1]), .dat (.int x), .dat (.int 0), .dat (.int 0)] = some (.int (0 * 2147483587), [.io (il [a, b, c + 1]), .dat (.int x), .dat (.int 0), .dat (.int 0)]) :=
        m2_ok (by simp) cst_ok (mul_med (by omega) (by omega) (by omega) (by omega))
      have u3 : mC (nA mh 2) (aCons (mIx oIx (vr 0) (cst (.int 1))) (aCons (mIx oIx (vr 0) (cst (.int 2))) aNil)) [.io (il [a, b, c + 1]), .dat (.int x), .dat (.int 0), .dat (.int 0)] = some (.int q, [.io (il [a, b, c + 1]), .dat (.int x), .dat (.int 0), .dat (.int 0)]) := by
        simp [j0.2.1, j0.2.2, hh]
      rw [seq_nx u1, set_ok (m2_ok u2 u3 add_ok) rfl rfl]
      rw [show (0 : Int) * 2147483587 + q = q by omega]
      rfl
    have e3 : mFor (iRg1 (aCons (m2 oAdd (cst (.int 1)) (m2 oDiv (m1 oBits (vr 1)) (cst (.int 30)))) aNil)) (gNm 3) (mSeq (mAsg (m2 oAdd (mIx oIx (vr 0) (cst (.int 2))) (cst (.int 1))) (gSubL (vr 0) (cst (.int 2))))
    (mSet 2 (upE (m2 oAdd (m2 oMul (fz (vr 2)) (cst (.int 2147483587))) (mC (nA mh 2) (aCons (mIx oIx (vr 0) (cst (.int 1))) (aCons (mIx oIx (vr 0) (cst (.int 2))) aNil))))))) [.io (il [a, b, c]), .dat (.int x), .dat (.int 0), .un] = some (.nx, [.io (il [a, b, c + 1]), .dat (.int x), .dat (.int q), .dat (.int 0)]) := by
      unfold mFor
      rw [r1]
      have g1 : gNm 3 (.int 0) [.io (il [a, b, c]), .dat (.int x), .dat (.int 0), .un] = some [.io (il [a, b, c]), .dat (.int x), .dat (.int 0), .dat (.int 0)] := by simp
      rw [Option.bind_some, mForL, g1, Option.bind_some, t1]
      rfl
    refine fg_rt (ρ := [.dat (.int x), .dat (.int q), .dat (.int 0)]) ?_
    show rnB mh [.io (il [a, b, c]), .dat (.int x), .un, .un] = _
    unfold rnB
    rw [seq_nx e1, seq_nx e2, seq_nx e3]
    simp [hx]
end
end M
/-! W8: rows, orders drawn. -/
namespace M
open PySem PySem.Spec PyProof.Rows L2
noncomputable section
@[simp] theorem ev_mCG {m : D → List D → Option (D × D)} {f0 : ME} {fr : MA} {ρ : Rho} : mCG m f0 fr ρ = (f0 ρ).bind fun p => (fr p.2).bind fun q => match p.1 with
  | .bor i => (q.2[i]?).bind fun s => (mutS s).bind fun g => (m g q.1).map fun r => (r.1, q.2.set i (putS s r.2))
  | .new g => (m g q.1).map fun r => (r.1, q.2)
  | _ => none := Eq.trans rfl rfl
@[simp] theorem ev_nAG {m : D → List D → Option (D × D)} {n : Nat} {g : D} {ds : List D} : nAG m n g ds = if ds.length + 1 = n then m g ds else none := Eq.trans rfl rfl
/-- a kind that is drawn -/
structure Kz (k : Kd) (n : Nat) : Prop where
  z : Sz k n
  hi : nst k n ≤ 6
section
variable {k : Kd} {n : Nat} {u v w o r : List Int} {s p B : Int} {g : D}
theorem GOK.mono {B C : Int} (h : GOK B g) (hc : B ≤ C) : GOK C g := by
  obtain ⟨a, b, c, e, h1, h2, h3, h4, h5⟩ := h
  exact ⟨a, b, c, e, h1, h2, h3, h4, by omega⟩
end
end
end M
/-! W9: cells, generators, kinds, orders risen. -/
namespace M
open PySem PySem.Spec PyProof.Rows L2
noncomputable section
theorem cut_il (w : List Int) (lo hi : Option Int) : ∃ v : List Int, cutD (w.map D.int) lo hi = v.map D.int := by
  unfold cutD
  exact ⟨(w.drop _).take _, by rw [List.map_take, List.map_drop]⟩
theorem e__law_cell (w : List Int) {i : Int} (h0 : 0 ≤ i) : ∃ c : Int, m__law_cell [il w, .int i] = some (.int c) := by
  obtain ⟨v, hv⟩ := cut_il w none (some 1)
  by_cases h : i < w.length
  · have := at_il (w := w) h0 h
    exact ⟨gt w i, by simp [m__law_cell_eq, b__law_cell, h, this]⟩
  · have e1 : m1 oSum (mSl (vr 0) oNo (oYes (cst (.int 1)))) [.dat (il w), .dat (.int i)] = some (.int v.sum, [.dat (il w), .dat (.int i)]) := by
      have : mSl (vr 0) oNo (oYes (cst (.int 1))) [.dat (il w), .dat (.int i)] = some (.new (il v), [.dat (il w), .dat (.int i)]) := by
        simp [mSl, oYes, oNo, hv]
      rw [ev_m1, this, Option.bind_some, ev_look_new, Option.bind_some, oSum_il]; rfl
    refine ⟨v.sum % 1000003, ?_⟩
    have e2 : mIf (asB (m2 oLt (fz (vr 1)) (m1 oLen (vr 0)))) (mRet (upE (mIx oIx (vr 0) (fz (vr 1))))) mNil [.dat (il w), .dat (.int i)] = some (.nx, [.dat (il w), .dat (.int i)]) := by
      simp [h]
    have e3 := m2_ok (op := oMod) e1 (fb := cst (.int 1000003)) cst_ok (mod_ok (x := v.sum) (n := 1000003) (by omega))
    rw [m__law_cell_eq]
    refine fn_rt (ρ' := [.dat (il w), .dat (.int i)]) ?_
    show b__law_cell [.dat (il w), .dat (.int i)] = _
    unfold b__law_cell
    rw [seq_nx e2, ev_mRet, ev_upE, e3]
    rfl
theorem pow_ok {x j : Int} (h : CPowB x j) : oPow (.int x) (.int j) = some (.int (x ^ j.toNat)) := by
  show (if CPowB x j then some (D.int (x ^ j.toNat)) else none) = _
  rw [if_pos h]
def geB (mc : List D → Option D) : MS := mSeq (mSet 2 (upE (mC (nA mc 2) (aCons (fz (vr 0)) (aCons (fz (vr 1)) aNil)))))
    (mRet (mLst (aCons (m2 oMod (m1 oInt (upE (mC oMax2 (aCons (m2 oSub (fz (vr 2)) (m2 oPow (cst (.int 10)) (cst (.int 18)))) (aCons (cst (.int 0)) aNil))))) (m2 oPow (m2 oPow (cst (.int 10)) (cst (.int 60))) (cst (.int 10)))) (aCons (m2 oMod (m1 oInt (vr 2)) (cst (.int 2147483647))) (aCons (m2 oMul (cst (.int 1000)) (fz (vr 1))) aNil)))))
theorem ge_def : m__law_generator = fnN 1 (geB m__law_cell) := m__law_generator_eq
theorem e__law_generator (w : List Int) {i : Int} (h0 : 0 ≤ i) (h1 : i ≤ 10) : ∃ g : D, m__law_generator [il w, .int i] = some g ∧ GOK 10000 g := by
  rw [ge_def]
  obtain ⟨c, hc⟩ := e__law_cell w h0
  generalize m__law_cell = mc at hc
  obtain ⟨P, hP, hPd⟩ : ∃ P : Int, P = (10 : Int) ^ (18 : Int).toNat ∧ oPow (.int 10) (.int 18) = some (.int P) := ⟨_, rfl, pow_ok (by decide +kernel)⟩
  obtain ⟨Q, hQ, hQd⟩ : ∃ Q : Int, Q = (10 : Int) ^ (60 : Int).toNat ∧ oPow (.int 10) (.int 60) = some (.int Q) := ⟨_, rfl, pow_ok (by decide +kernel)⟩
  have hQp : CPowB Q 10 := by rw [hQ]; decide +kernel
  obtain ⟨R, hR, hRd⟩ : ∃ R : Int, R = Q ^ (10 : Int).toNat ∧ oPow (.int Q) (.int 10) = some (.int R) := ⟨_, rfl, pow_ok hQp⟩
  have hRp : 0 < R := by
    rw [hR, hQ]
    exact Int.pow_pos (Int.pow_pos (by omega))
  have a0 : fz (vr 2) [.dat (il w), .dat (.int i), .dat (.int c)] = some (.int c, [.dat (il w), .dat (.int i), .dat (.int c)]) := by simp
  have a1 : fz (vr 1) [.dat (il w), .dat (.int i), .dat (.int c)] = some (.int i, [.dat (il w), .dat (.int i), .dat (.int c)]) := by simp
  have e1 : m2 oSub (fz (vr 2)) (m2 oPow (cst (.int 10)) (cst (.int 18))) [.dat (il w), .dat (.int i), .dat (.int c)] = some (.int (c - P), [.dat (il w), .dat (.int i), .dat (.int c)]) := m2_ok a0 (m2_ok cst_ok cst_ok hPd) rfl
  have e2 : mC oMax2 (aCons (m2 oSub (fz (vr 2)) (m2 oPow (cst (.int 10)) (cst (.int 18)))) (aCons (cst (.int 0)) aNil)) [.dat (il w), .dat (.int i), .dat (.int c)] = some (.int (if 0 > c - P then 0 else c - P), [.dat (il w), .dat (.int i), .dat (.int c)]) := by
    rw [ev_mC, ev_aCons, e1, Option.bind_some]
    rfl
  generalize hm : (if 0 > c - P then 0 else c - P) = m at e2
  have e3 := m2_ok (op := oMod) (int_ok e2) (m2_ok (op := oPow) (m2_ok (op := oPow) (fa := cst (.int 10)) (fb := cst (.int 60)) cst_ok cst_ok hQd) (fb := cst (.int 10)) cst_ok hRd) (mod_ok (x := m) hRp)
  have e4 : m2 oMod (m1 oInt (vr 2)) (cst (.int 2147483647)) [.dat (il w), .dat (.int i), .dat (.int c)] = some (.int (c % 2147483647), [.dat (il w), .dat (.int i), .dat (.int c)]) := m2_ok (by simp) cst_ok (mod_ok (by omega))
  have e5 : m2 oMul (cst (.int 1000)) (fz (vr 1)) [.dat (il w), .dat (.int i), .dat (.int c)] = some (.int (1000 * i), [.dat (il w), .dat (.int i), .dat (.int c)]) := m2_ok cst_ok a1 (mul_med (by omega) (by omega) (by omega) (by omega))
  refine ⟨il [m % R, c % 2147483647, 1000 * i], ?_, m % R, c % 2147483647, 1000 * i, rfl, Int.emod_nonneg _ (by omega), Int.emod_nonneg _ (by omega), Int.emod_lt_of_pos _ (by omega), by omega, by omega⟩
  have f1 : mSet 2 (upE (mC (nA mc 2) (aCons (fz (vr 0)) (aCons (fz (vr 1)) aNil)))) [.dat (il w), .dat (.int i), .un] = some (.nx, [.dat (il w), .dat (.int i), .dat (.int c)]) := by simp [hc]
  have o3 : okLen [D.int (m % R), .int (c % 2147483647), .int (1000 * i)] = true := by
    unfold okLen; rw [sizeLine_eq]; rfl
  have f2 : mLst (aCons (m2 oMod (m1 oInt (upE (mC oMax2 (aCons (m2 oSub (fz (vr 2)) (m2 oPow (cst (.int 10)) (cst (.int 18)))) (aCons (cst (.int 0)) aNil))))) (m2 oPow (m2 oPow (cst (.int 10)) (cst (.int 60))) (cst (.int 10)))) (aCons (m2 oMod (m1 oInt (vr 2)) (cst (.int 2147483647))) (aCons (m2 oMul (cst (.int 1000)) (fz (vr 1))) aNil))) [.dat (il w), .dat (.int i), .dat (.int c)] = some (.new (il [m % R, c % 2147483647, 1000 * i]), [.dat (il w), .dat (.int i), .dat (.int c)]) := by
    rw [ev_mLst, ev_aCons, e3, Option.bind_some, ev_aCons, e4, Option.bind_some, ev_aCons, e5, Option.bind_some, ev_aNil, Option.map_some, Option.map_some, Option.map_some, Option.bind_some]
    show (if okLen [D.int (m % R), .int (c % 2147483647), .int (1000 * i)] = true then _ else _) = _
    rw [o3, if_pos rfl]
    rfl
  have f3 : geB mc [.dat (il w), .dat (.int i), .un] = some (.rt (.new (il [m % R, c % 2147483647, 1000 * i])), [.dat (il w), .dat (.int i), .dat (.int c)]) := by
    unfold geB
    rw [seq_nx f1, ev_mRet, f2]
    rfl
  show ((geB mc [.dat (il w), .dat (.int i), .un]).bind fun p => match p.1 with | .rt (.new d) => some d | _ => none) = _
  rw [f3]
  rfl
theorem okl_le {ds : List D} (h : ds.length ≤ 1000) : okLen ds = true := by
  unfold okLen
  exact decide_eq_true (by rw [sizeLine_eq]; omega)
section
variable {k : Kd} {n : Nat} {u v w o r : List Int} {s p B : Int} {g : D}
theorem kz_of {k : Kd} {n : Nat} (h : (k = .plain ∧ 1 ≤ n ∧ n ≤ 7) ∨ (k = .mirror ∧ 1 ≤ n ∧ n ≤ 5) ∨ (k = .ring ∧ 2 ≤ n ∧ n ≤ 5)) : Kz k n := by
  rcases h with ⟨rfl, a, b⟩ | ⟨rfl, a, b⟩ | ⟨rfl, a, b⟩
  · exact ⟨⟨⟨a, fun z => by cases z⟩, by omega⟩, by simp only [nst]; omega⟩
  · exact ⟨⟨⟨a, fun z => by cases z⟩, by omega⟩, by simp only [nst]; omega⟩
  · exact ⟨⟨⟨by omega, fun _ => a⟩, by omega⟩, by simp only [nst]; omega⟩
end
end
end M
/-! W10: standings. -/
namespace M
open PySem PySem.Spec PyProof.Rows L2
noncomputable section
section
variable {k : Kd} {n : Nat} {u v w x o r g : List Int} {row ss : List Int} {s : Int} {ls : List (List Int)}
abbrev ils (R : List (List Int)) : D := .lst (R.map il)
theorem at_ils {i : Nat} (h : ls[i]? = some u) : oIx (ils ls) (.int i) = some (il u) := ix_nat (by rw [List.getElem?_map, h]; rfl)
theorem at_neg {ds : List D} {d : D} : oIx (.lst (ds ++ [d])) (.int (-1)) = some d := by
  show L2.atI (ds ++ [d]) (-1) = _
  unfold L2.atI L2.ixN
  rw [if_neg (by omega), if_pos (by rw [List.length_append, List.length_singleton]; omega), Option.bind_some]
  have : (-1 + (((ds ++ [d]).length : Nat) : Int)).toNat = ds.length := by rw [List.length_append, List.length_singleton]; omega
  rw [this, List.getElem?_append_right (Nat.le_refl _), Nat.sub_self]
  rfl
end
end
end M
/-! W20: the parts beneath the layers. -/
namespace M
open PySem PySem.Spec PyProof.Rows L2
noncomputable section
section
variable {k : Kd} {n : Nat} {u v w x o r : List Int} {row ss : List Int} {s B : Int} {g : D} {ls : List (List Int)}
theorem getD_get {i : Nat} (h : i < ls.length) : ls[i]? = some (ls.getD i []) := by
  rw [List.getD_eq_getElem?_getD, List.getElem?_eq_getElem h]; rfl
theorem take_snoc {i : Nat} (h : i < ls.length) : ls.take (i + 1) = ls.take i ++ [ls.getD i []] := by
  rw [List.take_succ, getD_get h]; rfl
theorem cut_take {ds : List D} {i : Nat} (h : i ≤ ds.length) : cutD ds none (some (i : Int)) = ds.take i := by
  unfold cutD
  rw [HT.sIx_none, HT.sIx_nat, List.drop_zero, Nat.sub_zero, Nat.min_eq_left h]
theorem cut_drop {ds : List D} {i : Nat} (h : i ≤ ds.length) : cutD ds (some (i : Int)) none = ds.drop i := by
  unfold cutD
  rw [HT.sIx_none, HT.sIx_nat, Nat.min_eq_left h]
  exact List.take_of_length_le (by rw [List.length_drop]; exact Nat.le_refl _)
theorem take_ils {i : Nat} : (ls.map il).take i = (ls.take i).map il := by rw [List.map_take]
@[simp] theorem ev_isN_tup {ds : List D} : oIsN (.tup ds) .non = some (.bl false) := Eq.trans rfl rfl
theorem tup2 {a b : D} : oIx (.tup [a, b]) (.int 0) = some a ∧ oIx (.tup [a, b]) (.int 1) = some b := ⟨rfl, rfl⟩
end
end
end M
/-! W21: lists of lists compared, their texts; bools compared, their texts. -/
namespace M
open PySem PySem.Spec PyProof.Rows L2
noncomputable section
theorem pyL_ils : ∀ F : List (List Int), pyL (F.map il) = some (F.map fun w => PyData.list (w.map PyData.int))
  | [] => rfl
  | w :: F => by
    rw [List.map_cons, pyL, py_il, Option.bind_some, pyL_ils F]
    rfl
theorem lay_ils : ∀ F : List (List Int), PyData.canLayAll0 (F.map fun w => PyData.list (w.map PyData.int)) = true
  | [] => by rw [List.map_nil, PyData.canLayAll0]
  | w :: F => by rw [List.map_cons, PyData.canLayAll0, lay_ils F, PyData.canLay0, lay_ints]; rfl
theorem dep_ils : ∀ F : List (List Int), PyData.depthAll (F.map fun w => PyData.list (w.map PyData.int)) ≤ 1
  | [] => by rw [List.map_nil, PyData.depthAll]; omega
  | w :: F => by
    have := dep_ils F
    rw [List.map_cons, PyData.depthAll, PyData.depth, dep_ints]
    omega
theorem eqv_ils : ∀ F G : List (List Int), PyData.eqvAll (F.map fun w => PyData.list (w.map PyData.int)) (G.map fun w => PyData.list (w.map PyData.int)) = decide (F = G)
  | [], [] => by simp [PyData.eqvAll]
  | [], y :: w => by simp [PyData.eqvAll]
  | x :: u, [] => by simp [PyData.eqvAll]
  | x :: u, y :: w => by
    rw [List.map_cons, List.map_cons, PyData.eqvAll, eqv_ils u w, PyData.eqv, eqv_ints]
    by_cases h1 : x = y <;> by_cases h2 : u = w <;> simp [h1, h2]
theorem py_ils (F : List (List Int)) : py (ils F) = some (.list (F.map fun w => PyData.list (w.map PyData.int))) := by
  show (pyL (F.map il)).map PyData.list = _
  rw [pyL_ils]; rfl
theorem sh_ils (F : List (List Int)) : SeqAt.shaped (.list (F.map fun w => PyData.list (w.map PyData.int))) = true := by
  have := dep_ils F
  unfold SeqAt.shaped
  rw [PyData.canLay0, lay_ils, PyData.depth]
  simp; omega
theorem eqD_ils (F G : List (List Int)) : eqD (ils F) (ils G) = some (decide (F = G)) := by
  unfold eqD
  rw [py_ils, Option.bind_some, py_ils, Option.bind_some, sh_ils, sh_ils]
  show some (PyData.eqv (.list _) (.list _)) = _
  rw [PyData.eqv, eqv_ils]
theorem oEq_ils (F G : List (List Int)) : oEq (ils F) (ils G) = some (.bl (decide (F = G))) := by unfold oEq; rw [eqD_ils]; rfl
theorem oNe_ils (F G : List (List Int)) : oNe (ils F) (ils G) = some (.bl (!decide (F = G))) := by unfold oNe; rw [eqD_ils]; rfl
theorem ok_app {a b : Str} (h1 : PyData.strOk a = true) (h2 : PyData.strOk b = true) : PyData.strOk (a ++ b) = true := by
  unfold PyData.strOk at *
  show (a.cps ++ b.cps).all _ = true
  rw [Array.all_append, h1, h2]
  rfl
theorem ok_ofString (s : String) : PyData.strOk (Str.ofString s) = true := by
  unfold PyData.strOk
  rw [Str.ofString_eq_toList]
  show (s.toList.map Char.toNat).toArray.all _ = true
  rw [List.all_toArray, List.all_eq_true]
  intro c hc
  obtain ⟨d, _, rfl⟩ := List.mem_map.mp hc
  have := d.valid
  have h : d.toNat < 0x110000 := by
    rcases this with h | h
    · exact Nat.lt_trans h (by decide)
    · exact h.2
  exact decide_eq_true h
theorem ok_text : ∀ (ts : List Str) (k : Nat) (acc : Str), PyData.strOk acc = true → (∀ t ∈ ts, PyData.strOk t = true) → PyData.strOk (textFrom k acc ts) = true
  | [], k, acc, h, _ => h
  | t :: ts, k, acc, h, ht => by
    refine ok_text ts (k + 1) _ (ok_app (ok_app h ?_) (ht t (List.mem_cons_self ..))) fun x m => ht x (List.mem_cons_of_mem _ m)
    split
    · exact ok_ofString _
    · exact ok_ofString _
theorem ok_shown (w : List Int) : PyData.strOk (PyData.list (w.map PyData.int)).shown = true := by
  rw [PyData.shown, PyData.shownAll_ints]
  refine ok_app (ok_text _ _ _ (ok_ofString _) fun t ht => ?_) (ok_ofString _)
  obtain ⟨i, _, rfl⟩ := List.mem_map.mp ht
  exact ok_ofString _
theorem ok_shownAll : ∀ (F : List (List Int)), ∀ t ∈ PyData.shownAll (F.map fun w => PyData.list (w.map PyData.int)), PyData.strOk t = true
  | [], t, h => by rw [List.map_nil, PyData.shownAll] at h; cases h
  | w :: F, t, h => by
    rw [List.map_cons, PyData.shownAll] at h
    rcases List.mem_cons.mp h with rfl | h
    · exact ok_shown w
    · exact ok_shownAll F t h
theorem ok_shown_ils (F : List (List Int)) : PyData.strOk (PyData.list (F.map fun w => PyData.list (w.map PyData.int))).shown = true := by
  rw [PyData.shown]
  exact ok_app (ok_text _ _ _ (ok_ofString _) (ok_shownAll F)) (ok_ofString _)
theorem showable_ints : ∀ w : List Int, (∀ x ∈ w, x.natAbs < 10 ^ 12) → PyData.showableAll (w.map PyData.int) = true
  | [], _ => by rw [List.map_nil, PyData.showableAll]
  | x :: w, h => by
    rw [List.map_cons, PyData.showableAll, showable_ints w fun y m => h y (List.mem_cons_of_mem _ m), PyData.showable]
    have := h x (List.mem_cons_self ..)
    have h2 : x.natAbs.log2 < 1920 := by
      by_cases h0 : x.natAbs = 0
      · rw [h0]; decide
      · refine (Nat.log2_lt h0).mpr (Nat.lt_trans this ?_)
        decide +kernel
    rw [decide_eq_true h2]
    rfl
theorem weight_ints : ∀ w : List Int, (∀ x ∈ w, x.natAbs < 10 ^ 12) → PyData.weightAll (w.map PyData.int) ≤ w.length * 64
  | [], _ => by rw [List.map_nil, PyData.weightAll]; omega
  | x :: w, h => by
    have ih := weight_ints w fun y m => h y (List.mem_cons_of_mem _ m)
    have hx := h x (List.mem_cons_self ..)
    rw [List.map_cons, PyData.weightAll, PyData.weight, List.length_cons]
    have h2 : x.natAbs.log2 < 60 := by
      by_cases h0 : x.natAbs = 0
      · rw [h0]; decide
      · refine (Nat.log2_lt h0).mpr (Nat.lt_trans hx ?_)
        decide +kernel
    split <;> omega
theorem showable_ils : ∀ F : List (List Int), (∀ w ∈ F, ∀ x ∈ w, x.natAbs < 10 ^ 12) → PyData.showableAll (F.map fun w => PyData.list (w.map PyData.int)) = true
  | [], _ => by rw [List.map_nil, PyData.showableAll]
  | w :: F, h => by
    rw [List.map_cons, PyData.showableAll, showable_ils F fun v m => h v (List.mem_cons_of_mem _ m), PyData.showable, showable_ints w (h w (List.mem_cons_self ..))]
    rfl
theorem weight_ils : ∀ F : List (List Int), (∀ w ∈ F, (∀ x ∈ w, x.natAbs < 10 ^ 12) ∧ w.length ≤ 100) → PyData.weightAll (F.map fun w => PyData.list (w.map PyData.int)) ≤ F.length * 6401
  | [], _ => by rw [List.map_nil, PyData.weightAll]; omega
  | w :: F, h => by
    have ih := weight_ils F fun y m => h y (List.mem_cons_of_mem _ m)
    obtain ⟨hx, hl⟩ := h w (List.mem_cons_self ..)
    have := weight_ints w hx
    rw [List.map_cons, PyData.weightAll, PyData.weight, List.length_cons]
    omega
theorem short_ils : ∀ F : List (List Int), (∀ w ∈ F, ∀ x ∈ w, x.natAbs < 10 ^ 12) → PyData.intsShortAll 13 (F.map fun w => PyData.list (w.map PyData.int)) = true
  | [], _ => by rw [List.map_nil, PyData.intsShortAll]
  | w :: F, h => by
    rw [List.map_cons, PyData.intsShortAll, short_ils F fun v m => h v (List.mem_cons_of_mem _ m), PyData.intsShort, PyData.intsShortAll_ints w (h w (List.mem_cons_self ..))]
    rfl
theorem repr_ils {F : List (List Int)} (h : ∀ w ∈ F, (∀ x ∈ w, x.natAbs < 10 ^ 12) ∧ w.length ≤ 100) (hl : F.length ≤ 100) : ∃ t, PyData.strOk t = true ∧ oRepr (ils F) = some (.str t) := by
  refine ⟨_, ok_shown_ils F, ?_⟩
  show ((pyL (F.map il)).bind fun q => if (SeqAt.shaped (.list q) && (PyData.list q).showable && !(PyData.list q).hasDict && decide ((PyData.list q).shown.length ≤ sizeLine)) = true then some (D.str (PyData.list q).shown) else none) = _
  rw [pyL_ils, Option.bind_some]
  have hi := fun w m => (h w m).1
  have c1 := sh_ils F
  have c2 : (PyData.list (F.map fun w => PyData.list (w.map PyData.int))).showable = true := by rw [PyData.showable]; exact showable_ils F hi
  have c3 : (PyData.list (F.map fun w => PyData.list (w.map PyData.int))).hasDict = false := PyData.hasDict_of_canLay _ (by rw [PyData.canLay0]; exact lay_ils F)
  have c4 : (PyData.list (F.map fun w => PyData.list (w.map PyData.int))).shown.length ≤ sizeLine := by
    refine PyData.shown_fits_of_layable0 (B := 13) (by decide) (by decide) ?_ ?_
    · unfold PyData.layable0
      have hw := weight_ils F h
      have hd := dep_ils F
      rw [PyData.canLay0, lay_ils, PyData.depth, PyData.weight]
      simp; omega
    · rw [PyData.intsShort]
      exact short_ils F hi
  rw [c1, c2, c3, decide_eq_true c4]
  rfl
theorem sh_str {t : Str} (h : PyData.strOk t = true) : SeqAt.shaped (.str t) = true := by
  unfold SeqAt.shaped
  rw [PyData.canLay0, h, PyData.depth]
  rfl
theorem oEq_str {t : Str} (h : PyData.strOk t = true) : oEq (.str t) (.str t) = some (.bl true) := by
  have c := sh_str h
  have e : PyData.eqv (.str t) (.str t) = true := by rw [PyData.eqv]; simp
  unfold oEq eqD
  rw [show py (.str t) = some (.str t) from rfl, Option.bind_some, Option.bind_some, c]
  show (if (true && true) = true then some (PyData.eqv (.str t) (.str t)) else none).map _ = _
  rw [e]
  rfl
theorem sh_bl (b : Bool) : SeqAt.shaped (.bool b) = true := by
  unfold SeqAt.shaped
  rw [PyData.canLay0, PyData.depth]
  rfl
@[simp] theorem oNe_bl (a b : Bool) : oNe (.bl a) (.bl b) = some (.bl (!decide (a = b))) := by
  unfold oNe eqD
  rw [show py (.bl a) = some (.bool a) from rfl, show py (.bl b) = some (.bool b) from rfl, Option.bind_some, Option.bind_some, sh_bl, sh_bl]
  show (if (true && true) = true then some (PyData.eqv (.bool a) (.bool b)) else none).map _ = _
  rw [PyData.eqv]
  cases a <;> cases b <;> rfl
@[simp] theorem ev_reprB (b : Bool) : oReprB (.bl b) = some (.str (reprB b)) := Eq.trans rfl rfl
theorem reprB_ok (b : Bool) : PyData.strOk (reprB b) = true := by cases b <;> decide +kernel
theorem reprB_eq (a b : Bool) : (reprB a == reprB b) = decide (a = b) := by cases a <;> cases b <;> decide +kernel
@[simp] theorem oNe_rB (a b : Bool) : oNe (.str (reprB a)) (.str (reprB b)) = some (.bl (!decide (a = b))) := by
  unfold oNe eqD
  rw [show py (.str (reprB a)) = some (.str (reprB a)) from rfl, show py (.str (reprB b)) = some (.str (reprB b)) from rfl, Option.bind_some, Option.bind_some, sh_str (reprB_ok a), sh_str (reprB_ok b)]
  show (if (true && true) = true then some (PyData.eqv (.str (reprB a)) (.str (reprB b))) else none).map _ = _
  rw [PyData.eqv, reprB_eq]
  rfl
@[simp] theorem ev_notB (a b : Bool) : oNotB (.bl a) (.bl b) = some (.bl (!decide (a = b))) := Eq.trans rfl rfl
section
variable {k : Kd} {n : Nat} {u v w x o r : List Int} {row ss : List Int} {s B : Int} {g : D} {ls : List (List Int)}
theorem od_small (z : Sz k n) (h : Od k n w) (hc : crs k w ≤ 800) : (∀ x ∈ w, x.natAbs < 10 ^ 12) ∧ w.length ≤ 100 := by
  have hs := h.sml z hc
  have hl := h.len z.g
  have := z.n100
  refine ⟨fun x m => ?_, by omega⟩
  obtain ⟨i, hi, e⟩ := List.mem_iff_getElem.mp m
  have := hs (i : Int)
  rw [gt_nat, List.getD_eq_getElem?_getD, List.getElem?_eq_getElem hi, Option.getD_some, e] at this
  omega
end
end
end M
/-! W22: the law's look at what is lacking: one turn. -/
namespace M
open PySem PySem.Spec PyProof.Rows L2
noncomputable section
theorem for_cons {s : MG} {b : MS} {d : D} {ds : List D} {ρ r ρ' : Rho} (h1 : s d ρ = some r) (h2 : b r = some (.nx, ρ')) : mForL s b (d :: ds) ρ = mForL s b ds ρ' := by
  rw [mForL, h1, Option.bind_some, h2]; rfl
theorem set_ok2 {i : Nat} {f : MD} {ρ ρ' : Rho} {d : D} {s : Sl} (h : f ρ = some (d, ρ')) (hi : ρ'[i]? = some s) (hf : M.free s = true) : mSet i (upE f) ρ = some (.nx, ρ'.set i (.dat d)) := by
  rw [ev_mSet, ev_upE, h]
  simp [hi, hf]
section
variable {k : Kd} {n : Nat} {u v w x y o r : List Int} {row ss ru rv ry : List Int} {s B : Int} {g Du R : D} {ls : List (List Int)}
variable {a5 a6 a7 a8 a9 a10 a11 a12 a13 a14 a15 a16 a17 a18 : Sl}
/-! ### another order -/
/-! ### one top -/
end
end
end M
/-! W25: towards the law's look at standings: loops, rows put together, deeds compared. -/
namespace M
open PySem PySem.Spec PyProof.Rows L2
noncomputable section
theorem fold_loopL {α : Type} {tg : MG} {b : MS} {F : α → List Int → α} {P : Nat → α → Prop} {Q : List Int → Prop} {N : Nat} (St : α → Sl → Rho)
    (ht : ∀ x t s, M.free t = true → tg (il s) (St x t) = some (St x (.dat (il s))))
    (hb : ∀ i x s, i < N → P i x → Q s → b (St x (.dat (il s))) = some (.nx, St (F x s) (.dat (il s))))
    (hP : ∀ i x s, i < N → P i x → Q s → P (i + 1) (F x s)) : ∀ (ls : List (List Int)) {i : Nat} {x : α} {t : Sl}, i + ls.length ≤ N → P i x → M.free t = true → (∀ s ∈ ls, Q s) →
    ∃ t', M.free t' = true ∧ mForL tg b (ls.map il) (St x t) = some (.nx, St (ls.foldl F x) t')
  | [], i, x, t, _, _, f, _ => ⟨t, f, rfl⟩
  | s :: ls, i, x, t, hl, p, f, q => by
    rw [List.length_cons] at hl
    have qs := q s (List.mem_cons_self ..)
    obtain ⟨t', f', e⟩ := fold_loopL St ht hb hP ls (i := i + 1) (x := F x s) (t := .dat (il s)) (by omega) (hP i x s (by omega) p qs) rfl fun s m => q s (List.mem_cons_of_mem _ m)
    refine ⟨t', f', ?_⟩
    rw [List.map_cons, mForL, ht x t s f, Option.bind_some, hb i x s (by omega) p qs]
    exact e
section
variable {k : Kd} {n : Nat} {u v w x o r : List Int} {row ss : List Int} {s B : Int} {g : D} {ls F : List (List Int)}
theorem eqD_nil {ds : List D} {qs : List PyData} (h1 : pyL ds = some qs) (h2 : PyData.canLayAll0 qs = true) (h3 : PyData.depthAll qs ≤ 10) : eqD (.lst ds) (il []) = some (decide (ds = [])) := by
  have e1 : py (.lst ds) = some (.list qs) := by show (pyL ds).map PyData.list = _; rw [h1]; rfl
  have e2 : SeqAt.shaped (.list qs) = true := by
    unfold SeqAt.shaped
    rw [PyData.canLay0, h2, PyData.depth]
    simp; omega
  unfold eqD
  rw [e1, Option.bind_some, py_il, Option.bind_some, e2, sh_il]
  show some (PyData.eqv (.list _) (.list _)) = _
  rw [PyData.eqv]
  cases ds with
  | nil => cases h1; simp [PyData.eqvAll]
  | cons d ds =>
    rw [pyL] at h1
    obtain ⟨p, _, h1⟩ := bnd h1
    obtain ⟨q, _, h1⟩ := mpp h1
    subst h1
    simp [PyData.eqvAll]
/-! ### draws in a comprehension -/
variable {T K : D} {a3 a4 a5 a6 a7 a8 a9 a10 a11 a12 a13 a14 a15 : Sl}
end
end
end M
/-! W26: the law's look at standings: one turn. -/
namespace M
open PySem PySem.Spec PyProof.Rows L2
noncomputable section
section
variable {k : Kd} {n : Nat} {u v w x o r top row0 : List Int} {row ss : List Int} {s B : Int} {g : D} {ls F : List (List Int)}
variable {T K : D} {a3 a4 a5 a6 a7 a8 a9 a10 a11 a12 a13 a14 a15 : Sl}
theorem ne_no {mm : ME} {ρ : Rho} (e : mm ρ = some (.new (il []), ρ)) : asB (m2 oNe (fz mm) (fz (mLst aNil))) ρ = some (false, ρ) := by
  simp [e, okl0, oNe_nil]
theorem or_no {A C : MB} {ρ : Rho} (h1 : A ρ = some (false, ρ)) (h2 : C ρ = some (false, ρ)) : mOr A C ρ = some (false, ρ) := by simp [h1, h2]
theorem if_no {A : MB} {R : MS} {ρ : Rho} (h : A ρ = some (false, ρ)) : mIf A R mNil ρ = some (.nx, ρ) := by simp [h]
theorem len_at {i : Nat} (h : i < ls.length) : oIx (ils ls) (.int i) = some (il (ls.getD i [])) := at_ils (getD_get h)
theorem rg_len {j : Nat} (hj : j < 19) {ρ : Rho} (h : ρ[j]? = some (.dat (ils ls))) (hl : ls.length ≤ 1000) : iRg1 (aCons (m1 oLen (vr j)) aNil) ρ = some ((ups ls.length).map D.int, ρ) :=
  rg1_len (by simp [h]) (by omega)
theorem ne_no2 {mm : ME} {ρ ρ1 : Rho} (e : mm ρ = some (.new (il []), ρ1)) : asB (m2 oNe (fz mm) (fz (mLst aNil))) ρ = some (false, ρ1) := by
  simp [e, okl0, oNe_nil]
theorem or_no2 {A C : MB} {ρ ρ1 ρ2 : Rho} (h1 : A ρ = some (false, ρ1)) (h2 : C ρ1 = some (false, ρ2)) : mOr A C ρ = some (false, ρ2) := by simp [h1, h2]
theorem if_no2 {A : MB} {R : MS} {ρ ρ1 : Rho} (h : A ρ = some (false, ρ1)) : mIf A R mNil ρ = some (.nx, ρ1) := by simp [h]
end
end
end M
/-! Y0: what is reckoned at given values. -/
namespace M
open PySem PySem.Spec PyProof.Rows L2
def isT : Option D → Bool
  | some (.bl b) => b
  | _ => false
theorem isT_ok {x : Option D} (h : isT x = true) : x = some (.bl true) := by
  cases x with
  | none => cases h
  | some d =>
    cases d with
    | bl b => cases b with
      | true => rfl
      | false => cases h
    | _ => cases h
def isNo : Option D → Bool
  | some .non => true
  | _ => false
theorem isNo_ok {x : Option D} (h : isNo x = true) : x = some .non := by
  cases x with
  | none => cases h
  | some d => cases d with
    | non => rfl
    | _ => cases h
def eqIs : List D → List Int → Bool
  | [], [] => true
  | .int a :: ds, b :: l => (a == b) && eqIs ds l
  | _, _ => false
theorem eqIs_ok : ∀ {ds : List D} {l : List Int}, eqIs ds l = true → ds = l.map D.int
  | [], [], _ => rfl
  | .int a :: ds, b :: l, h => by
    have h : ((a == b) && eqIs ds l) = true := h
    rw [Bool.and_eq_true, beq_iff_eq] at h
    rw [List.map_cons, h.1, eqIs_ok h.2]
  | [], _ :: _, h => by cases h
  | .int _ :: _, [], h => by cases h
  | .non :: _, _, h => by cases h
  | .bl _ :: _, _, h => by cases h
  | .str _ :: _, _, h => by cases h
  | .lst _ :: _, _, h => by cases h
  | .tup _ :: _, _, h => by cases h
  | .dk _ :: _, _, h => by cases h
  | .dt _ :: _, _, h => by cases h
  | .dn _ :: _, _, h => by cases h
  | .kd _ _ :: _, _, h => by cases h
def isIl (l : List Int) : Option D → Bool
  | some (.lst ds) => eqIs ds l
  | _ => false
theorem isIl_ok {x : Option D} {l : List Int} (h : isIl l x = true) : x = some (il l) := by
  cases x with
  | none => cases h
  | some d => cases d with
    | lst ds => rw [eqIs_ok (ds := ds) (l := l) h]
    | _ => cases h
noncomputable section
theorem fo_1 : m_folded [il [0, 1, 2, 4, 3, 5], .int 3] = some .non := isNo_ok (by
  rw [m_folded_eq]
  simp only [b_folded, m_is_let_order_eq, b_is_let_order, m_is_order_list_eq, b_is_order_list, m_crossings_of_eq, b_crossings_of, m_crossings_between_eq, b_crossings_between]
  decide +kernel)
theorem fo_2 : m_folded [il [5, 4, 2, 3, 1, 0], .int 3] = some (il [1, -2, -3]) := isIl_ok (by
  rw [m_folded_eq]
  simp only [b_folded, m_is_let_order_eq, b_is_let_order, m_is_order_list_eq, b_is_order_list, m_crossings_of_eq, b_crossings_of, m_crossings_between_eq, b_crossings_between]
  decide +kernel)
theorem fo_3 : m_folded [il [2, 0, 3, 1], .int 2] = some (il [2, -1]) := isIl_ok (by
  rw [m_folded_eq]
  simp only [b_folded, m_is_let_order_eq, b_is_let_order, m_is_order_list_eq, b_is_order_list, m_crossings_of_eq, b_crossings_of, m_crossings_between_eq, b_crossings_between]
  decide +kernel)
theorem fo_4 : m_folded [il [1, 0, 2, 3], .int 2] = some .non := isNo_ok (by
  rw [m_folded_eq]
  simp only [b_folded, m_is_let_order_eq, b_is_let_order, m_is_order_list_eq, b_is_order_list, m_crossings_of_eq, b_crossings_of, m_crossings_between_eq, b_crossings_between]
  decide +kernel)
theorem un_1 : m_unfolded [il [-2, 1], .int 2] = some (il [1, 3, 0, 2]) := isIl_ok (by
  rw [m_unfolded_eq]
  simp only [b_unfolded, m_is_let_order_eq, b_is_let_order, m_is_order_list_eq, b_is_order_list, m_crossings_of_eq, b_crossings_of, m_crossings_between_eq, b_crossings_between]
  decide +kernel)
theorem un_2 : m_unfolded [il [-1], .int 1] = some (il [1, 0]) := isIl_ok (by
  rw [m_unfolded_eq]
  simp only [b_unfolded, m_is_let_order_eq, b_is_let_order, m_is_order_list_eq, b_is_order_list, m_crossings_of_eq, b_crossings_of, m_crossings_between_eq, b_crossings_between]
  decide +kernel)
theorem un_3 : m_unfolded [il [1, 2, 3], .int 3] = some (il [0, 1, 2, 3, 4, 5]) := isIl_ok (by
  rw [m_unfolded_eq]
  simp only [b_unfolded, m_is_let_order_eq, b_is_let_order, m_is_order_list_eq, b_is_order_list, m_crossings_of_eq, b_crossings_of, m_crossings_between_eq, b_crossings_between]
  decide +kernel)
theorem af_1 : m__law_all_folded [.int 1] = some (.bl true) := isT_ok (by
  rw [m__law_all_folded_eq]
  simp only [b__law_all_folded, m_orders_with_eq, b_orders_with, m_how_many_orders_eq, b_how_many_orders, m_numbers_to_eq, b_numbers_to, m_multiplied_eq, b_multiplied, m_is_crossed_eq, b_is_crossed, m_by_step_eq, b_by_step, m_folded_eq, b_folded, m_unfolded_eq, b_unfolded, m_is_let_order_eq, b_is_let_order, m_is_order_list_eq, b_is_order_list, m_crossings_of_eq, b_crossings_of, m_crossings_between_eq, b_crossings_between]
  decide +kernel)
theorem af_2 : m__law_all_folded [.int 2] = some (.bl true) := isT_ok (by
  rw [m__law_all_folded_eq]
  simp only [b__law_all_folded, m_orders_with_eq, b_orders_with, m_how_many_orders_eq, b_how_many_orders, m_numbers_to_eq, b_numbers_to, m_multiplied_eq, b_multiplied, m_is_crossed_eq, b_is_crossed, m_by_step_eq, b_by_step, m_folded_eq, b_folded, m_unfolded_eq, b_unfolded, m_is_let_order_eq, b_is_let_order, m_is_order_list_eq, b_is_order_list, m_crossings_of_eq, b_crossings_of, m_crossings_between_eq, b_crossings_between]
  decide +kernel)
end
end M
/-! Y1: what is told of orders. -/
namespace M
open PySem PySem.Spec PyProof.Rows L2
noncomputable section
section
variable {k : Kd} {n : Nat} {u v w x o r : List Int} {row ss : List Int} {s B : Int} {g : D} {ls : List (List Int)}
theorem cat_ok {a b : List D} (h : a.length + b.length ≤ 100000) : oCat (.lst a) (.lst b) = some (.lst (a ++ b)) := by
  show (if decide (a.length + b.length ≤ sizeLine) = true then some (D.lst (a ++ b)) else none) = _
  rw [if_pos (decide_eq_true (by rw [sizeLine_eq]; omega))]
theorem ne_yes {mm : ME} {ρ ρ1 : Rho} {l : List Int} (e : mm ρ = some (.new (il l), ρ1)) (h : l ≠ []) : asB (m2 oNe (fz mm) (fz (mLst aNil))) ρ = some (true, ρ1) := by
  simp [e, okl0, oNe_nil, h]
theorem e_chk1 (z : Sz k n) (hu : Od k n u) (c : crs k u ≤ 60) : m_check_orders [KD k n, .lst [il u]] = some .non := by
  rw [m_check_orders_eq]
  have e := e_chk z hu c
  have ek := e_check_kind k.nm n
  simp [b_check_orders, ek, mForL, e]
theorem e_crossings (z : Sz k n) (hu : Od k n u) (c : crs k u ≤ 60) : m_crossings [KD k n, il u] = some (.int (crs k u)) := by
  rw [m_crossings_eq]
  have e1 := e_chk1 z hu c
  have e2 := e_crs z hu
  simp [b_crossings, e1, e2]
theorem e_falls (z : Sz k n) (hu : Od k n u) (c : crs k u ≤ 60) : m_falls [KD k n, il u] = some (il (fls k u)) := by
  rw [m_falls_eq]
  have e1 := e_chk1 z hu c
  have e2 := e_fls z hu
  simp [b_falls, e1, e2]
theorem e_opposite (z : Sz k n) (hu : Od k n u) (c : crs k u ≤ 60) : m_opposite [KD k n, il u] = some (il (opp k u)) := by
  rw [m_opposite_eq]
  have e1 := e_chk1 z hu c
  have e2 := e_opp z hu
  simp [b_opposite, e1, e2]
theorem e_one (z : Sz k n) (hu : Od k n u) (c : crs k u ≤ 60) : m_check_one [KD k n, il u] = some .non := by
  rw [m_check_one_eq]
  have e := e_chk z hu c
  have ek := e_check_kind k.nm n
  simp [b_check_one, ek, e]
theorem e_greedy (z : Sz k n) (hu : Od k n u) (hw : Od k n w) (c1 : crs k u ≤ 60) (c2 : crs k w ≤ 60) : m_greedy [KD k n, il u, il w] = some (il (run k u (ler hd0 k w))) := by
  rw [m_greedy_eq]
  have e1 := e_one z hu c1
  have e2 := e_chk z hw c2
  have e3 : m_check_two [KD k n, il u, il w] = some .non := by
    rw [m_check_two_eq]
    simp [b_check_two, e1, e2]
  have e4 := e_greedy_of z hu hw (by omega)
  simp [b_greedy, e3, e4]
/-- one turn of a power -/
def pwB : MS := (mSeq (mSet 5 (upE (mC (nA m_greedy_of 3) (aCons (fz (vr 0)) (aCons (fz (vr 3)) (aCons (fz (vr 1)) aNil))))))
    (mSeq (mIf (asB (m2 oEq (fz (vr 5)) (fz (vr 3)))) (mRet (vr 3)) mNil)
    (mSet 3 (vr 5))))
theorem pw_loop (z : Sz k n) (hw : Od k n w) (c2 : crs k w ≤ 60) {C : Sl} : ∀ (ds : List D) {x : List Int} {t4 t5 : Sl}, Od k n x → M.free t4 = true → M.free t5 = true →
    (∃ t4' t5', M.free t4' = true ∧ M.free t5' = true ∧ mForL (gNm 4) pwB ds [.dat (KD k n), .dat (il w), C, .dat (il x), t4, t5] = some (.nx, [.dat (KD k n), .dat (il w), C, .dat (il (pwr k (ler hd0 k w) ds.length x)), t4', t5'])) ∨
    ∃ ρ', mForL (gNm 4) pwB ds [.dat (KD k n), .dat (il w), C, .dat (il x), t4, t5] = some (.rt (.dat (il (pwr k (ler hd0 k w) ds.length x))), ρ')
  | [], x, t4, t5, _, f4, f5 => .inl ⟨t4, t5, f4, f5, rfl⟩
  | d :: ds, x, t4, t5, hx, f4, f5 => by
    have e1 := e_greedy_of z hx hw (by omega)
    have o1 := Od.run hx (ler_Lr pk_hd z.g hw).1
    have g4 : gNm 4 d [.dat (KD k n), .dat (il w), C, .dat (il x), t4, t5] = some [.dat (KD k n), .dat (il w), C, .dat (il x), .dat d, t5] := by simp [f4]
    by_cases q : run k x (ler hd0 k w) = x
    · refine .inr ⟨[.dat (KD k n), .dat (il w), C, .dat (il x), .dat d, .dat (il x)], ?_⟩
      have e2 : pwB [.dat (KD k n), .dat (il w), C, .dat (il x), .dat d, t5] = some (.rt (.dat (il x)), [.dat (KD k n), .dat (il w), C, .dat (il x), .dat d, .dat (il x)]) := by
        rw [q] at e1
        simp [pwB, e1, f5, oEq_il]
      rw [mForL, g4, Option.bind_some, e2, pw_fix q]
      rfl
    · have e2 : pwB [.dat (KD k n), .dat (il w), C, .dat (il x), .dat d, t5] = some (.nx, [.dat (KD k n), .dat (il w), C, .dat (il (run k x (ler hd0 k w))), .dat d, .dat (il (run k x (ler hd0 k w)))]) := by
        simp [pwB, e1, f5, oEq_il, q]
      have e3 : mForL (gNm 4) pwB (d :: ds) [.dat (KD k n), .dat (il w), C, .dat (il x), t4, t5] = mForL (gNm 4) pwB ds [.dat (KD k n), .dat (il w), C, .dat (il (run k x (ler hd0 k w))), .dat d, .dat (il (run k x (ler hd0 k w)))] := for_cons g4 e2
      rw [e3, List.length_cons, pwr]
      exact pw_loop z hw c2 ds o1 rfl rfl
theorem e_power (z : Sz k n) (hw : Od k n w) (c2 : crs k w ≤ 60) {m : Nat} (hm : m ≤ 1000) : m_power [KD k n, il w, .int m] = some (il (pwr k (ler hd0 k w) m (stW k n))) := by
  rw [m_power_eq]
  have e1 := e_one z hw c2
  have e2 : m_check_number [.int m, .int 0, .int 1000] = some .non := e_check_number (by omega) (by omega)
  have e3 := e_sta z
  have h := pw_loop z hw c2 (C := .dat (.int m)) (rgD 0 m) (x := stW k n) (t4 := .un) (t5 := .un) Od.start rfl rfl
  rw [rgD_len] at h
  have c1 : aCons (fz (vr 2)) aNil [.dat (KD k n), .dat (il w), .dat (.int m), .dat (il (stW k n)), .un, .un] = some ([.int m], [.dat (KD k n), .dat (il w), .dat (.int m), .dat (il (stW k n)), .un, .un]) := rfl
  have c3 := rg1_ok c1 (small_ok (by omega) (by omega))
  rw [Int.toNat_natCast] at c3
  have s1 : mDrop (mC (nA m_check_one 2) (aCons (fz (vr 0)) (aCons (fz (vr 1)) aNil))) [.dat (KD k n), .dat (il w), .dat (.int m), .un, .un, .un] = some (.nx, [.dat (KD k n), .dat (il w), .dat (.int m), .un, .un, .un]) := by simp [e1]
  have s2 : mDrop (mC (nA m_check_number 3) (aCons (fz (vr 2)) (aCons (cst (.int 0)) (aCons (cst (.int 1000)) aNil)))) [.dat (KD k n), .dat (il w), .dat (.int m), .un, .un, .un] = some (.nx, [.dat (KD k n), .dat (il w), .dat (.int m), .un, .un, .un]) := by simp [e2]
  have s3 : mSet 3 (upE (mMeth m_Kind_start (fz (vr 0)))) [.dat (KD k n), .dat (il w), .dat (.int m), .un, .un, .un] = some (.nx, [.dat (KD k n), .dat (il w), .dat (.int m), .dat (il (stW k n)), .un, .un]) := by simp [e3]
  rcases h with ⟨t4', t5', _, _, h⟩ | ⟨ρ', h⟩
  · refine fn_rt (ρ' := [.dat (KD k n), .dat (il w), .dat (.int m), .dat (il (pwr k (ler hd0 k w) m (stW k n))), t4', t5']) ?_
    show b_power [.dat (KD k n), .dat (il w), .dat (.int m), .un, .un, .un] = _
    unfold b_power
    rw [seq_nx s1, seq_nx s2, seq_nx s3]
    show mSeq (mFor _ (gNm 4) pwB) _ _ = _
    have s4 : mFor (iRg1 (aCons (fz (vr 2)) aNil)) (gNm 4) pwB [.dat (KD k n), .dat (il w), .dat (.int m), .dat (il (stW k n)), .un, .un] = some (.nx, [.dat (KD k n), .dat (il w), .dat (.int m), .dat (il (pwr k (ler hd0 k w) m (stW k n))), t4', t5']) := by
      rw [ev_mFor, c3]; exact h
    rw [seq_nx s4]
    simp
  · refine fn_rt (ρ' := ρ') ?_
    show b_power [.dat (KD k n), .dat (il w), .dat (.int m), .un, .un, .un] = _
    unfold b_power
    rw [seq_nx s1, seq_nx s2, seq_nx s3]
    show mSeq (mFor _ (gNm 4) pwB) _ _ = _
    have s4 : mFor (iRg1 (aCons (fz (vr 2)) aNil)) (gNm 4) pwB [.dat (KD k n), .dat (il w), .dat (.int m), .dat (il (stW k n)), .un, .un] = some (.rt (.dat (il (pwr k (ler hd0 k w) m (stW k n)))), ρ') := by
      rw [ev_mFor, c3]; exact h
    rw [seq_rt s4]
/-! ### unfolding -/
theorem fq_new {n : Nat} {s : MS} {ds : List D} {d : D} {ρ' : Rho} (h : s (argR ds n) = some (.rt (.new d), ρ')) : fnQ n s ds = some d := by
  unfold fnQ; rw [h]; rfl
theorem fq_non {n : Nat} {s : MS} {ds : List D} {ρ' : Rho} (h : s (argR ds n) = some (.rt (.dat .non), ρ')) : fnQ n s ds = some .non := by
  unfold fnQ; rw [h]; rfl
theorem kd_ok {m : Nat} (hk : kindOk k.nm m = true) : oKind [.str k.nm, .int m] = some (KD k m) := by
  show (if kindOk k.nm m = true then some (D.kd k.nm m) else none) = _
  rw [if_pos hk]
theorem e_unfolded (z : Sz .mirror n) (h3 : n ≤ 3) (hk : kindOk "mirror" n = true) (hw : Od .mirror n w) (c : crs .mirror w ≤ 60) : m_unfolded [il w, .int n] = some (il (unf n w)) := by
  rw [m_unfolded_eq]
  have z1 := z.n1
  have hl := hw.len z.g
  have e1 : m_check_number [.int n, .int 1, .int 3] = some .non := e_check_number (by omega) (by omega)
  have e2 : m_is_let_order [.kd "mirror" n, il w] = some (.bl true) := e_let z hw c
  have ek : oKind [.str "mirror", .int n] = some (.kd "mirror" n) := kd_ok (k := .mirror) hk
  have c1 : mCmp (iRvL (fz (vr 0))) (gNm 3) yes (m1 (o1I fun i => -i) (vr 3)) [3] [.dat (il w), .dat (.int n), .un, .un] = some (.new (il (w.reverse.map fun x => -x)), [.dat (il w), .dat (.int n), .un, .un]) := by
    rw [cmp_all (h := iDo fun x => -x) (ds := (w.map D.int).reverse) (ρ1 := [.dat (il w), .dat (.int n), .un, .un]) (ρ := [.dat (il w), .dat (.int n), .un, .un]) (by simp) rfl (fun d m => ?_) (by rw [List.length_reverse, List.length_map]; omega)]
    · rw [← List.map_reverse, map_iDo]
    · rw [List.mem_reverse] at m
      obtain ⟨i, _, rfl⟩ := List.mem_map.mp m
      exact ⟨[.dat (il w), .dat (.int n), .un, .dat (.int i)], [.dat (il w), .dat (.int n), .un, .dat (.int i)], by simp, by simp [iDo], rfl⟩
  have e4 : oCat (il (w.reverse.map fun x => -x)) (il w) = some (il ((w.reverse.map fun x => -x) ++ w)) := by
    have : ((w.reverse.map fun x => -x).map D.int).length + (w.map D.int).length ≤ 100000 := by
      simp only [List.length_map, List.length_reverse]; omega
    have := cat_ok this
    rw [this, ← List.map_append]
  have e5 : mCmp (iLst (fz (vr 2))) (gNm 3) yes (m2 oSub (m2 oAdd (fz (vr 3)) (fz (vr 1))) (m1 oInt (upE (m2 oGt (fz (vr 3)) (cst (.int 0)))))) [3] [.dat (il w), .dat (.int n), .own (il ((w.reverse.map fun x => -x) ++ w)), .un] = some (.new (il (unf n w)), [.dat (il w), .dat (.int n), .dat (il ((w.reverse.map fun x => -x) ++ w)), .un]) := by
    generalize hA : (w.reverse.map fun x => -x) ++ w = A
    have hAl : A.length ≤ 1000 := by rw [← hA, List.length_append, List.length_map, List.length_reverse]; omega
    rw [cmp_all (h := iDo (rk n)) (ds := A.map D.int) (ρ1 := [.dat (il w), .dat (.int n), .dat (il A), .un]) (ρ := [.dat (il w), .dat (.int n), .dat (il A), .un]) (by simp) rfl (fun d m => ?_) (by rw [List.length_map]; omega)]
    · rw [map_iDo, ← hA]; rfl
    · obtain ⟨i, _, rfl⟩ := List.mem_map.mp m
      exact ⟨[.dat (il w), .dat (.int n), .dat (il A), .dat (.int i)], [.dat (il w), .dat (.int n), .dat (il A), .dat (.int i)], by simp, by simp [iDo, rk], rfl⟩
  refine fN_rn (ρ' := [.dat (il w), .dat (.int n), .dat (il ((w.reverse.map fun x => -x) ++ w)), .un]) ?_
  show b_unfolded [.dat (il w), .dat (.int n), .un, .un] = _
  have s3 : mSet 2 (mCatL (mCmp (iRvL (fz (vr 0))) (gNm 3) yes (m1 (o1I fun i => -i) (vr 3)) [3]) (n1 oList (vr 0))) [.dat (il w), .dat (.int n), .un, .un] = some (.nx, [.dat (il w), .dat (.int n), .own (il ((w.reverse.map fun x => -x) ++ w)), .un]) := by
    generalize (w.reverse.map fun x => -x) = A at *
    rw [ev_mSet, ev_mCatL, c1]
    simp [e4]
  unfold b_unfolded
  have s1 : mDrop (mC (nA m_check_number 3) (aCons (fz (vr 1)) (aCons (cst (.int 1)) (aCons (cst (.int 3)) aNil)))) [.dat (il w), .dat (.int n), .un, .un] = some (.nx, [.dat (il w), .dat (.int n), .un, .un]) := by simp [e1]
  have s2 : mIf (mNot (asB (mC (nA m_is_let_order 2) (aCons (mC oKind (aCons (cst (.str "mirror")) (aCons (fz (vr 1)) aNil))) (aCons (fz (vr 0)) aNil))))) mNever mNil [.dat (il w), .dat (.int n), .un, .un] = some (.nx, [.dat (il w), .dat (.int n), .un, .un]) := by simp [ek, e2]
  rw [seq_nx s1, seq_nx s2, seq_nx s3, ev_mRet, e5]
  rfl
/-- which places bar the folding -/
def asy (n : Nat) (U : List Int) : List Int := (ups n).filter fun a => !decide (gt U a + gt U (2 * (n : Int) - 1 - a) = 2 * (n : Int) - 1)
def fld (n : Nat) (U : List Int) : List Int := (U.drop n).map (rf n)
theorem e_folded {U : List Int} (z : Sz .plain (2 * n)) (h1 : 1 ≤ n) (h3 : n ≤ 3) (hk : kindOk "plain" ((2 * n : Nat) : Int) = true) (hU : Od .plain (2 * n) U) (c : crs .plain U ≤ 60) : m_folded [il U, .int n] = some (if asy n U = [] then il (fld n U) else .non) := by
  rw [m_folded_eq]
  have hl := hU.len z.g
  have e1 : m_check_number [.int n, .int 1, .int 3] = some .non := e_check_number (by omega) (by omega)
  have e2 : m_is_let_order [.kd "plain" ((2 * n : Nat) : Int), il U] = some (.bl true) := e_let z hU c
  have ek : oKind [.str "plain", .int ((2 * n : Nat) : Int)] = some (.kd "plain" ((2 * n : Nat) : Int)) := kd_ok (k := .plain) hk
  have en : ((2 * n : Nat) : Int) = 2 * (n : Int) := by omega
  rw [en] at e2 ek
  have em : oMul (.int 2) (.int n) = some (.int (2 * (n : Int))) := mul_med (by omega) (by omega) (by omega) (by omega)
  have c1 : mCmp (iRg1 (aCons (fz (vr 1)) aNil)) (gNm 2) (asB (m2 oNe (m2 oAdd (mIx oIx (vr 0) (fz (vr 2))) (mIx oIx (vr 0) (m2 oSub (m2 oSub (m2 oMul (cst (.int 2)) (fz (vr 1))) (cst (.int 1))) (fz (vr 2))))) (m2 oSub (m2 oMul (cst (.int 2)) (fz (vr 1))) (cst (.int 1))))) (fz (vr 2)) [2] [.dat (il U), .dat (.int n), .un, .un] =
      some (.new (il (asy n U)), [.dat (il U), .dat (.int n), .un, .un]) := by
    rw [cmp_if (keep := keepI fun a => !decide (gt U a + gt U (2 * (n : Int) - 1 - a) = 2 * (n : Int) - 1)) (h := id) (ds := (ups n).map D.int) (ρ1 := [.dat (il U), .dat (.int n), .un, .un]) (ρ := [.dat (il U), .dat (.int n), .un, .un]) (rg1_len (by simp) (by omega)) rfl (fun d m => ?_) (by rw [List.length_map, len_ups]; omega)]
    · rw [filter_int _ (fun a => !decide (gt U a + gt U (2 * (n : Int) - 1 - a) = 2 * (n : Int) - 1)) _ (fun _ => rfl), List.map_id]; rfl
    · obtain ⟨a, ha, rfl⟩ := List.mem_map.mp m
      rw [mem_ups] at ha
      have i1 := at_il (w := U) (i := a) (by omega) (by omega)
      have i2 := at_il (w := U) (i := 2 * (n : Int) - 1 - a) (by omega) (by omega)
      exact ⟨[.dat (il U), .dat (.int n), .dat (.int a), .un], [.dat (il U), .dat (.int n), .dat (.int a), .un], by simp, by simp [em, i1, i2, keepI], fun _ => ⟨[.dat (il U), .dat (.int n), .dat (.int a), .un], by simp, rfl⟩, fun _ => rfl⟩
  have s1 : mDrop (mC (nA m_check_number 3) (aCons (fz (vr 1)) (aCons (cst (.int 1)) (aCons (cst (.int 3)) aNil)))) [.dat (il U), .dat (.int n), .un, .un] = some (.nx, [.dat (il U), .dat (.int n), .un, .un]) := by simp [e1]
  have s2 : mIf (mNot (asB (mC (nA m_is_let_order 2) (aCons (mC oKind (aCons (cst (.str "plain")) (aCons (m2 oMul (cst (.int 2)) (fz (vr 1))) aNil))) (aCons (fz (vr 0)) aNil))))) mNever mNil [.dat (il U), .dat (.int n), .un, .un] = some (.nx, [.dat (il U), .dat (.int n), .un, .un]) := by simp [em, ek, e2]
  have cc : cutD (U.map D.int) (some (n : Int)) none = (U.drop n).map D.int := by rw [cut_drop (by rw [List.length_map]; omega), List.map_drop]
  have c3 : mCmp (iLst (fz (mSl (vr 0) (oYes (fz (vr 1))) oNo))) (gNm 3) yes (m2 oAdd (m2 oSub (fz (vr 3)) (fz (vr 1))) (m1 oInt (upE (m2 oGe (fz (vr 3)) (fz (vr 1)))))) [3] [.dat (il U), .dat (.int n), .un, .un] = some (.new (il (fld n U)), [.dat (il U), .dat (.int n), .un, .un]) := by
    rw [cmp_all (h := iDo (rf n)) (ds := (U.drop n).map D.int) (ρ1 := [.dat (il U), .dat (.int n), .un, .un]) (ρ := [.dat (il U), .dat (.int n), .un, .un]) (by simp [mSl, oYes, oNo, cc]) rfl (fun d m => ?_) (by rw [List.length_map, List.length_drop]; omega)]
    · rw [map_iDo]; rfl
    · obtain ⟨a, _, rfl⟩ := List.mem_map.mp m
      exact ⟨[.dat (il U), .dat (.int n), .un, .dat (.int a)], [.dat (il U), .dat (.int n), .un, .dat (.int a)], by simp, by simp [iDo, rf], rfl⟩
  by_cases q : asy n U = []
  · rw [if_pos q]
    rw [q] at c1
    refine fq_new (ρ' := [.dat (il U), .dat (.int n), .un, .un]) ?_
    show b_folded [.dat (il U), .dat (.int n), .un, .un] = _
    unfold b_folded
    rw [seq_nx s1, seq_nx s2, seq_nx (if_no (ne_no c1)), ev_mRet, c3]
    rfl
  · rw [if_neg q]
    refine fq_non (ρ' := [.dat (il U), .dat (.int n), .un, .un]) ?_
    show b_folded [.dat (il U), .dat (.int n), .un, .un] = _
    unfold b_folded
    rw [seq_nx s1, seq_nx s2]
    refine seq_rt ?_
    rw [ev_mIf, ne_yes c1 q]
    rfl
end
end
end M
/-! Y2: the law's own steps, rows, orders. -/
namespace M
open PySem PySem.Spec PyProof.Rows L2
noncomputable section
section
variable {k : Kd} {n : Nat} {u v w x o r : List Int} {row ss : List Int} {s B : Int} {g : D} {ls : List (List Int)}
theorem e__law_start (z : Sz k n) : m__law_start [tld k n] = some (il (stW k n)) := by
  rw [m__law_start_eq]
  have h := z.n100
  have hr : rgOk (st0 k) ((n : Int) + st0 k) = true := by unfold st0; split <;> exact rgOk_small (by omega) (by omega) (by omega) (by omega)
  have e1 : mAsg (fz (vr 0)) (gPr (gNm 1) (gNm 2)) [.dat (tld k n), .un, .un] = some (.nx, [.dat (tld k n), .dat (.str k.nm), .dat (.int n)]) := by simp
  have e2 : m1 oInt (upE (m2 oEq (fz (vr 1)) (cst (.str "mirror")))) [.dat (tld k n), .dat (.str k.nm), .dat (.int n)] = some (.int (st0 k), [.dat (tld k n), .dat (.str k.nm), .dat (.int n)]) := by
    cases k <;> simp [st0]
  have e3 : m2 oAdd (fz (vr 2)) (m1 oInt (upE (m2 oEq (fz (vr 1)) (cst (.str "mirror"))))) [.dat (tld k n), .dat (.str k.nm), .dat (.int n)] = some (.int ((n : Int) + st0 k), [.dat (tld k n), .dat (.str k.nm), .dat (.int n)]) := by
    cases k <;> simp [st0]
  refine fn_rn (ρ' := [.dat (tld k n), .dat (.str k.nm), .dat (.int n)]) ?_
  show b__law_start [.dat (tld k n), .un, .un] = _
  unfold b__law_start
  rw [seq_nx e1, ev_mRet, lr2_ok e2 e3 hr, Option.bind_some, ev_hold_new, Option.map_some, show (n : Int) + st0 k - st0 k = n by omega, Int.toNat_natCast, rgD_stW]
theorem e__law_steps : m__law_steps [tld k n] = some (.int (nst k n)) := by
  rw [m__law_steps_eq]
  cases k <;> simp [b__law_steps, nst, ev_eqP]
/-- what stands where a step exchanges -/
def two (k : Kd) (w : List Int) (s : Int) : Int × Int := if k = .mirror then (if s = 0 then (-gt w 0, gt w 0) else (gt w (s - 1), gt w s)) else (gt w s, gt w (s + 1))
theorem isS_rng (h : isS k n s) : 0 ≤ s ∧ s < n := by
  refine ⟨h.1, ?_⟩
  have := h.2
  cases k with
  | plain => have : s < (n : Int) - 1 := this; omega
  | mirror => exact this
  | ring => exact this
theorem e__law_two (hk : k ≠ .ring) (hl : w.length = n) (hs : isS k n s) : m__law_two [tld k n, il w, .int s] = some (.tup [.int (two k w s).1, .int (two k w s).2]) := by
  rw [m__law_two_eq]
  obtain ⟨h0, h1⟩ := isS_rng hs
  have ok2 : ∀ {a b : D}, okLen [a, b] = true := okl2
  have i0 := at_il (w := w) (i := 0) (by omega) (by omega)
  have i1 := at_il (w := w) (i := s) h0 (by omega)
  cases k with
  | ring => exact absurd rfl hk
  | plain =>
    have hb : s < (n : Int) - 1 := hs.2
    have i2 := at_il (w := w) (i := s + 1) (by omega) (by omega)
    have e := ev_eqM .plain
    have e2 := ev_eqR .plain
    simp [b__law_two, e, e2, i1, i2, ok2, two]
  | mirror =>
    have e := ev_eqM .mirror
    by_cases q : s = 0
    · subst q
      simp [b__law_two, e, i0, ok2, two]
    · have i2 := at_il (w := w) (i := s - 1) (by omega) (by omega)
      simp [b__law_two, e, q, i1, i2, ok2, two]
theorem two_xd (hk : k ≠ .ring) : decide ((two k w s).2 < (two k w s).1) = xd k w s := by
  cases k with
  | ring => exact absurd rfl hk
  | plain => rfl
  | mirror =>
    unfold two xd
    simp only [if_true]
    by_cases q : s = 0
    · rw [if_pos q, if_pos q]
      exact decide_eq_decide.mpr (by show gt w 0 < -gt w 0 ↔ _; omega)
    · rw [if_neg q, if_neg q]
theorem e__law_crossed (hk : k ≠ .ring) (hl : w.length = n) (hs : isS k n s) : m__law_crossed [tld k n, il w, .int s] = some (.bl (xd k w s)) := by
  rw [m__law_crossed_eq, ← two_xd hk]
  have e := e__law_two hk hl hs
  generalize two k w s = t at *
  simp [b__law_crossed, e]
theorem swp_td {i : Nat} (h : i + 1 < w.length) : swp w i = (w.take i ++ [gt w (i + 1 : Nat), gt w i]) ++ w.drop (i + 2) := by
  obtain ⟨u, v, hu, hw, hs⟩ := swp_eq h
  have h1 : w.take i = u := by
    have := List.take_left' (l₁ := u) (l₂ := gt w i :: gt w (i + 1 : Nat) :: v) hu
    rw [← hw] at this; exact this
  have h2 : w.drop (i + 2) = v := by
    have : w.drop (i + 2) = (u ++ gt w i :: gt w (i + 1 : Nat) :: v).drop (i + 2) := by rw [← hw]
    rw [this, List.drop_append, List.drop_of_length_le (by omega), hu, show i + 2 - i = 2 by omega]
    rfl
  rw [h1, h2, hs]
  simp
theorem e__law_stepped (z : Sz k n) (hk : k ≠ .ring) (hl : w.length = n) (hs : isS k n s) : m__law_stepped [tld k n, il w, .int s] = some (il (stp k w s)) := by
  rw [m__law_stepped_eq]
  have h100 := z.n100
  obtain ⟨h0, h1⟩ := isS_rng hs
  have e := e__law_two hk hl hs
  obtain ⟨t, rfl⟩ : ∃ t : Nat, s = t := ⟨s.toNat, by omega⟩
  have l3 : ∀ {a b c : List Int}, a.length ≤ 1000 → b.length ≤ 1000 → oCat (il a) (il b) = some (il (a ++ b)) := fun ha hb => by
    rw [cat_ok (by rw [List.length_map, List.length_map]; omega), ← List.map_append]
  have ok1 : ∀ {a : D}, okLen [a] = true := fun {a} => ev_okLen1
  have ok2 : ∀ {a b : D}, okLen [a, b] = true := okl2
  have lt1 : (w.take t).length ≤ 1000 := by rw [List.length_take]; omega
  have ld : ∀ j : Nat, (w.drop j).length ≤ 1000 := fun j => by rw [List.length_drop]; omega
  have ct : ∀ j : Nat, j ≤ n → cutD (w.map D.int) none (some (j : Int)) = (w.take j).map D.int := fun j hj => by rw [cut_take (by rw [List.length_map]; omega), List.map_take]
  have cd : ∀ j : Nat, j ≤ n → cutD (w.map D.int) (some (j : Int)) none = (w.drop j).map D.int := fun j hj => by rw [cut_drop (by rw [List.length_map]; omega), List.map_drop]
  have c2 : ∀ a b : Int, D.lst [.int a, .int b] = il [a, b] := fun a b => rfl
  have c1 : ∀ a : Int, D.lst [.int a] = il [a] := fun a => rfl
  cases k with
  | ring => exact absurd rfl hk
  | plain =>
    have hb : (t : Int) < (n : Int) - 1 := hs.2
    have e0 := ev_eqM .plain
    have e2 := ev_eqR .plain
    have d1 := ct t (by omega)
    have d2 := cd (t + 2) (by omega)
    rw [show ((t + 2 : Nat) : Int) = (t : Int) + 2 by omega] at d2
    have q1 := l3 (a := w.take t) (b := [gt w ((t : Int) + 1), gt w t]) (c := []) lt1 (by simp)
    have q2 := l3 (a := w.take t ++ [gt w ((t : Int) + 1), gt w t]) (b := w.drop (t + 2)) (c := []) (by rw [List.length_append]; simp; omega) (ld _)
    have es : stp .plain w (t : Int) = (w.take t ++ [gt w ((t : Int) + 1), gt w t]) ++ w.drop (t + 2) := swp_td (by omega)
    rw [es]
    have e : m__law_two [tld .plain n, il w, .int t] = some (.tup [.int (gt w t), .int (gt w ((t : Int) + 1))]) := e
    generalize gt w ((t : Int) + 1) = A at *
    generalize gt w (t : Int) = A2 at *
    generalize w.take t = T at *
    generalize w.drop (t + 2) = T2 at *
    generalize T ++ [A, A2] = T3 at *
    generalize T3 ++ T2 = T4 at *
    have q1 : oCat (il T) (.lst [.int A, .int A2]) = some (il T3) := q1
    simp [b__law_stepped, e, e0, e2, mSl, oYes, oNo, d1, d2, ok2, q1, q2]
  | mirror =>
    have e0 := ev_eqM .mirror
    by_cases q : t = 0
    · subst q
      have d2 := cd 1 (by omega)
      have e : m__law_two [tld .mirror n, il w, .int 0] = some (.tup [.int (-gt w 0), .int (gt w 0)]) := e
      have q1 := l3 (a := [-gt w 0]) (b := w.drop 1) (c := []) (by simp) (ld _)
      have es : stp .mirror w ((0 : Nat) : Int) = [-gt w 0] ++ w.drop 1 := by
        show w.set 0 (-gt w 0) = _
        cases w with
        | nil => simp at hl; omega
        | cons a w => rfl
      rw [es]
      generalize gt w 0 = A at *
      generalize w.drop 1 = T2 at *
      generalize hT4 : [-A] ++ T2 = T4 at *
      have q1 : oCat (.lst [.int (-A)]) (il T2) = some (il T4) := q1
      have d2 : cutD (w.map D.int) (some 1) none = T2.map D.int := d2
      simp [b__law_stepped, e, e0, mSl, oYes, oNo, d2, ok1, q1]
    · have e : m__law_two [tld .mirror n, il w, .int t] = some (.tup [.int (gt w ((t : Int) - 1)), .int (gt w t)]) := by
        rw [e]; unfold two; rw [if_pos rfl, if_neg (by omega)]
      have d1 := ct (t - 1) (by omega)
      have d2 := cd (t + 1) (by omega)
      rw [show ((t - 1 : Nat) : Int) = (t : Int) - 1 by omega] at d1
      rw [show ((t + 1 : Nat) : Int) = (t : Int) + 1 by omega] at d2
      have q1 := l3 (a := w.take (t - 1)) (b := [gt w t, gt w ((t : Int) - 1)]) (c := []) (by rw [List.length_take]; omega) (by simp)
      have q2 := l3 (a := w.take (t - 1) ++ [gt w t, gt w ((t : Int) - 1)]) (b := w.drop (t + 1)) (c := []) (by rw [List.length_append, List.length_take]; simp; omega) (ld _)
      have es : stp .mirror w (t : Int) = (w.take (t - 1) ++ [gt w t, gt w ((t : Int) - 1)]) ++ w.drop (t + 1) := by
        have : stp .mirror w (t : Int) = swp w ((t : Int) - 1) := by unfold stp; simp only; rw [if_neg (by omega)]
        rw [this, show (t : Int) - 1 = ((t - 1 : Nat) : Int) by omega, swp_td (by omega), show t - 1 + 1 = t by omega, show t - 1 + 2 = t + 1 by omega]
      rw [es]
      have q' : ¬ (t : Int) = 0 := by omega
      generalize gt w ((t : Int) - 1) = A at *
      generalize gt w (t : Int) = A2 at *
      generalize w.take (t - 1) = T at *
      generalize w.drop (t + 1) = T2 at *
      generalize T ++ [A2, A] = T3 at *
      generalize T3 ++ T2 = T4 at *
      have q1 : oCat (il T) (.lst [.int A2, .int A]) = some (il T3) := q1
      simp [b__law_stepped, e, e0, q, mSl, oYes, oNo, d1, d2, ok2, q1, q2]
theorem e__law_gains (z : Sz k n) (hk : k ≠ .ring) (h : Od k n w) (hw : isW k n row) : m__law_gains [tld k n, il w, il row] = some (il (run k w row)) := by
  rw [m__law_gains_eq]
  obtain ⟨t', f', e⟩ := fold_loop (tg := gNm 4) (b := mIf (mNot (asB (mC (nA m__law_crossed 3) (aCons (fz (vr 0)) (aCons (fz (vr 3)) (aCons (fz (vr 4)) aNil)))))) (mSet 3 (upE (mC (nA m__law_stepped 3) (aCons (fz (vr 0)) (aCons (fz (vr 3)) (aCons (fz (vr 4)) aNil)))))) mNil) (F := gR k) (P := Od k n) (Q := isS k n)
    (fun x t => [.dat (tld k n), .dat (il w), .dat (il row), .dat (il x), t])
    (fun x t s f => by simp [f])
    (fun x s hx hs => by
      have hl := hx.len z.g
      have e1 := e__law_crossed hk hl hs
      have e2 := e__law_stepped z hk hl hs
      cases q : xd k x s with
      | true => rw [gR_t q]; simp [e1, q]
      | false => rw [gR_f q]; simp [e1, e2, q])
    (fun x s hx hs => hx.gR hs) row (x := w) (t := .un) h rfl hw
  refine fn_rt (ρ' := [.dat (tld k n), .dat (il w), .dat (il row), .dat (il (run k w row)), t']) ?_
  show b__law_gains [.dat (tld k n), .dat (il w), .dat (il row), .un, .un] = _
  have s1 : mSet 3 (upE (fz (n1 oList (vr 1)))) [.dat (tld k n), .dat (il w), .dat (il row), .un, .un] = some (.nx, [.dat (tld k n), .dat (il w), .dat (il row), .dat (il w), .un]) := by simp
  have s2 : mFor (iLst (fz (vr 2))) (gNm 4) (mIf (mNot (asB (mC (nA m__law_crossed 3) (aCons (fz (vr 0)) (aCons (fz (vr 3)) (aCons (fz (vr 4)) aNil)))))) (mSet 3 (upE (mC (nA m__law_stepped 3) (aCons (fz (vr 0)) (aCons (fz (vr 3)) (aCons (fz (vr 4)) aNil)))))) mNil) [.dat (tld k n), .dat (il w), .dat (il row), .dat (il w), .un] = some (.nx, [.dat (tld k n), .dat (il w), .dat (il row), .dat (il (run k w row)), t']) := by
    rw [ev_mFor]
    exact e
  unfold b__law_gains
  rw [seq_nx s1, seq_nx s2]
  simp
end
end
end M
/-! Y3: rows, orders drawn; the law's unfolding. -/
namespace M
open PySem PySem.Spec PyProof.Rows L2
noncomputable section
section
variable {k : Kd} {n : Nat} {u v w x o r : List Int} {row ss : List Int} {s B q : Int} {g T Mo : D} {ls : List (List Int)} {a3 : Sl}
theorem rw_loop (hq : 1 ≤ q) (hq2 : q ≤ 64) : ∀ (ds : List D) {acc : List Int} {g : D} {B : Int}, GOK B g → B + ds.length ≤ 90000 → acc.length + ds.length ≤ 1000 →
    ∃ (vs : List Int) (g' : D), mCmpL (gNm 5) yes (mCG (nAG m__law_random 2) (vr 0) (aCons (fz (vr 4)) aNil)) [5] ds (acc.map D.int) [.io g, .dat T, .dat Mo, a3, .dat (.int q), .un] = some ((acc ++ vs).map D.int, [.io g', .dat T, .dat Mo, a3, .dat (.int q), .un]) ∧ vs.length = ds.length ∧ (∀ v ∈ vs, 0 ≤ v ∧ v < q) ∧ GOK (B + ds.length) g'
  | [], acc, g, B, hg, _, _ => ⟨[], g, by rw [List.append_nil]; rfl, rfl, fun v h => (nomatch h), by simpa using hg⟩
  | d :: ds, acc, g, B, hg, hB, ha => by
    rw [List.length_cons] at hB ha
    obtain ⟨y, g1, e1, y0, y1, h1⟩ := e__law_random (x := q) hg (by omega) hq hq2
    obtain ⟨vs, g2, e2, hl, hv, h2⟩ := rw_loop hq hq2 ds (acc := acc ++ [y]) h1 (by omega) (by rw [List.length_append, List.length_singleton]; omega)
    refine ⟨y :: vs, g2, ?_, by rw [List.length_cons, List.length_cons, hl], fun v hv' => ?_, by rw [List.length_cons, show B + ((ds.length + 1 : Nat) : Int) = B + 1 + ds.length by omega]; exact h2⟩
    · have hz : decide ((acc.map D.int).length < sizeLine) = true := lt_line (by rw [List.length_map]; omega)
      have t1 : gNm 5 d [.io g, .dat T, .dat Mo, a3, .dat (.int q), .un] = some [.io g, .dat T, .dat Mo, a3, .dat (.int q), .dat d] := by simp
      have t2 : mCG (nAG m__law_random 2) (vr 0) (aCons (fz (vr 4)) aNil) [.io g, .dat T, .dat Mo, a3, .dat (.int q), .dat d] = some (.int y, [.io g1, .dat T, .dat Mo, a3, .dat (.int q), .dat d]) := by simp [e1]
      have t3 : wipeR [.io g1, .dat T, .dat Mo, a3, .dat (.int q), .dat d] [5] = [.io g1, .dat T, .dat Mo, a3, .dat (.int q), .un] := rfl
      rw [mCmpL, t1, Option.bind_some]
      show ((some (true, _)).bind _) = _
      rw [Option.bind_some, if_pos rfl, t2, Option.bind_some, hz, if_pos rfl, t3]
      rw [List.map_append, List.append_assoc] at e2
      exact e2
    · rcases List.mem_cons.mp hv' with rfl | hv'
      · exact ⟨y0, y1⟩
      · exact hv v hv'
theorem e__law_row (z : Kz k n) {most : Nat} (hm : most ≤ 60) (hg : GOK B g) (hB : B ≤ 80000) : ∃ (ss : List Int) (g' : D), m__law_row g [tld k n, .int most] = some (il ss, g') ∧ isW k n ss ∧ ss.length ≤ most ∧ GOK (B + 70) g' := by
  have lo := nst_range z.z
  have hi := z.hi
  have em := e__law_steps (k := k) (n := n)
  rw [m__law_row_eq]
  obtain ⟨y, g1, e1, y0, y1, h1⟩ := e__law_random (x := (most : Int) + 1) hg (by omega) (by omega) (by omega)
  have s1 : mPar 3 4 (upE (mCG (nAG m__law_random 2) (vr 0) (aCons (m2 oAdd (fz (vr 2)) (cst (.int 1))) aNil))) (upE (mC (nA m__law_steps 1) (aCons (fz (vr 1)) aNil))) [.io g, .dat (tld k n), .dat (.int most), .un, .un, .un] = some (.nx, [.io g1, .dat (tld k n), .dat (.int most), .dat (.int y), .dat (.int (nst k n)), .un]) := by
    simp [e1, em]
  have key : ∃ (vs : List Int) (g' : D), mCmp (iRg1 (aCons (m2 oMul (fz (vr 3)) (m1 oInt (upE (m2 oGt (fz (vr 4)) (cst (.int 0)))))) aNil)) (gNm 5) yes (mCG (nAG m__law_random 2) (vr 0) (aCons (fz (vr 4)) aNil)) [5] [.io g1, .dat (tld k n), .dat (.int most), .dat (.int y), .dat (.int (nst k n)), .un] = some (.new (il vs), [.io g', .dat (tld k n), .dat (.int most), .dat (.int y), .dat (.int (nst k n)), .un]) ∧ isW k n vs ∧ vs.length ≤ most ∧ GOK (B + 70) g' := by
    by_cases q0 : 0 < nst k n
    · obtain ⟨vs, g2, e2, hl, hv, h2⟩ := rw_loop (q := nst k n) (T := tld k n) (Mo := .int most) (a3 := .dat (.int y)) (by omega) (by omega) (rgD 0 y.toNat) (acc := []) h1 (by rw [rgD_len]; omega) (by rw [rgD_len, List.length_nil]; omega)
      rw [rgD_len] at hl h2
      refine ⟨vs, g2, ?_, fun s hs => hv s hs, by omega, h2.mono (by omega)⟩
      have c2 : aCons (m2 oMul (fz (vr 3)) (m1 oInt (upE (m2 oGt (fz (vr 4)) (cst (.int 0)))))) aNil [.io g1, .dat (tld k n), .dat (.int most), .dat (.int y), .dat (.int (nst k n)), .un] = some ([.int y], [.io g1, .dat (tld k n), .dat (.int most), .dat (.int y), .dat (.int (nst k n)), .un]) := by
        have em : oMul (.int y) (.int 1) = some (.int y) := by rw [mul_med (by omega) (by omega) (by omega) (by omega), Int.mul_one]
        simp [q0, em]
      have c3 := rg1_ok c2 (small_ok y0 (by omega))
      unfold mCmp
      rw [c3, Option.bind_some]
      have e2 : mCmpL (gNm 5) yes (mCG (nAG m__law_random 2) (vr 0) (aCons (fz (vr 4)) aNil)) [5] (rgD 0 y.toNat) [] (wipeR [.io g1, .dat (tld k n), .dat (.int most), .dat (.int y), .dat (.int (nst k n)), .un] [5]) = _ := e2
      rw [e2]
      rfl
    · refine ⟨[], g1, ?_, isW.nil, Nat.zero_le _, h1.mono (by omega)⟩
      have c2 : aCons (m2 oMul (fz (vr 3)) (m1 oInt (upE (m2 oGt (fz (vr 4)) (cst (.int 0)))))) aNil [.io g1, .dat (tld k n), .dat (.int most), .dat (.int y), .dat (.int (nst k n)), .un] = some ([.int 0], [.io g1, .dat (tld k n), .dat (.int most), .dat (.int y), .dat (.int (nst k n)), .un]) := by
        have em : oMul (.int y) (.int 0) = some (.int 0) := by rw [mul_med (by omega) (by omega) (by omega) (by omega), Int.mul_zero]
        simp [q0, em]
      have c3 := rg1_ok c2 (small_ok (Int.le_refl _) (by omega))
      unfold mCmp
      rw [c3]
      rfl
  obtain ⟨vs, g2, e2, hw, hl, hg2⟩ := key
  refine ⟨vs, g2, ?_, hw, hl, hg2⟩
  refine fg_rn (ρ := [.dat (tld k n), .dat (.int most), .dat (.int y), .dat (.int (nst k n)), .un]) ?_
  show b__law_row [.io g, .dat (tld k n), .dat (.int most), .un, .un, .un] = _
  unfold b__law_row
  rw [seq_nx s1, ev_mRet, e2]
  rfl
theorem e__law_order (z : Kz k n) (hk : k ≠ .ring) {most : Nat} (hm : most ≤ 60) (hg : GOK B g) (hB : B ≤ 80000) : ∃ (w : List Int) (g' : D), m__law_order g [tld k n, .int most] = some (il w, g') ∧ Od k n w ∧ crs k w ≤ most ∧ GOK (B + 70) g' := by
  obtain ⟨ss, g1, e1, hw, hl, h1⟩ := e__law_row z hm hg hB
  have e2 := e__law_start z.z
  have e3 := e__law_gains z.z hk (Od.start (k := k) (n := n)) hw
  have c := crs_run z.z.g (Od.start (k := k)) hw
  rw [crs_start] at c
  rw [m__law_order_eq]
  refine ⟨run k (stW k n) ss, g1, ?_, Od.run Od.start hw, by omega, h1⟩
  refine fg_rt (ρ := [.dat (tld k n), .dat (.int most)]) ?_
  show b__law_order [.io g, .dat (tld k n), .dat (.int most)] = _
  simp [b__law_order, e1, e2, e3]
/-! ### the law's unfolding -/
theorem findP_at {x : Int} : ∀ {l : List Int} {i j : Nat}, l[j]? = some x → (∀ m, m < j → l[m]? ≠ some x) → findP (.int x) (l.map PyData.int) i = some (i + j)
  | [], _, _, h, _ => by cases h
  | a :: l, i, 0, h, _ => by
    rw [List.getElem?_cons_zero] at h
    cases h
    rw [List.map_cons, findP, PyData.eqv]
    simp
  | a :: l, i, j + 1, h, hn => by
    have ha : a ≠ x := fun e => hn 0 (by omega) (by rw [e]; rfl)
    rw [List.map_cons, findP, PyData.eqv, if_neg (by simpa using ha), findP_at (l := l) (i := i + 1) (j := j) (by simpa using h) (fun m hm => by
      have := hn (m + 1) (by omega)
      simpa using this)]
    congr 1; omega
theorem oIndex_il {x : Int} {l : List Int} {j : Nat} (h : l[j]? = some x) (hn : ∀ m, m < j → l[m]? ≠ some x) : oIndex (il l) (.int x) = some (.int j) := by
  show ((pyL (l.map D.int)).bind fun qs => (py (.int x)).bind fun q => if (SeqAt.shaped (.list qs) && SeqAt.shaped q) = true then (findP q qs 0).map fun j => D.int (j : Nat) else none) = _
  have s : SeqAt.shaped (.int x) = true := by
    unfold SeqAt.shaped
    rw [PyData.canLay0, PyData.depth]
    rfl
  rw [pyL_ints, Option.bind_some, show py (.int x) = some (.int x) from rfl, Option.bind_some, sh_il, s, findP_at h hn]
  simp
theorem ups_get' {m i : Nat} (h : i < m) : (ups m)[i]? = some (i : Int) := by
  unfold ups
  rw [List.getElem?_map, List.getElem?_range h]
  rfl
theorem e__law_unfolded {U : List Int} (hn : 1 ≤ n) (h3 : n ≤ 50) (hl : w.length = n) (hU : U.Perm (ups (2 * n))) (hi : (w.reverse.map fun x => -x) ++ w = U.map (rf n)) : m__law_unfolded [il w] = some (il U) := by
  rw [m__law_unfolded_eq]
  have lU : U.length = 2 * n := by rw [hU.length_eq, len_ups]
  have c1 : mCmp (iLst (fz (mRev (vr 0)))) (gNm 2) yes (m2 oSub (cst (.int 0)) (fz (vr 2))) [2] [.dat (il w), .un, .un] = some (.new (il (w.reverse.map fun x => -x)), [.dat (il w), .un, .un]) := by
    rw [cmp_all (h := iDo fun x => -x) (ds := (w.map D.int).reverse) (ρ1 := [.dat (il w), .un, .un]) (ρ := [.dat (il w), .un, .un]) (by simp) rfl (fun d m => ?_) (by rw [List.length_reverse, List.length_map]; omega)]
    · rw [← List.map_reverse, map_iDo]
    · rw [List.mem_reverse] at m
      obtain ⟨i, _, rfl⟩ := List.mem_map.mp m
      exact ⟨[.dat (il w), .un, .dat (.int i)], [.dat (il w), .un, .dat (.int i)], by simp, by simp [iDo], rfl⟩
  have e4 : oCat (il (w.reverse.map fun x => -x)) (il w) = some (il (U.map (rf n))) := by
    rw [cat_ok (by simp only [List.length_map, List.length_reverse]; omega), ← List.map_append, hi]
  have s1 : mSet 1 (mCatL (mCmp (iLst (fz (mRev (vr 0)))) (gNm 2) yes (m2 oSub (cst (.int 0)) (fz (vr 2))) [2]) (n1 oList (vr 0))) [.dat (il w), .un, .un] = some (.nx, [.dat (il w), .own (il (U.map (rf n))), .un]) := by
    generalize (w.reverse.map fun x => -x) = A at *
    rw [ev_mSet, ev_mCatL, c1]
    simp only [Option.bind_some, ev_n1, ev_vr, List.getElem?_cons_zero, ev_look_dat, ev_look_new, ev_oListL, Option.map_some, e4]
    rfl
  have srt : sortI (U.map (rf n)) = (ups (2 * n)).map (rf n) := by
    refine sorted_unique ((sortI_perm _).trans (hU.map _)) (sortI_sorted _) ?_
    refine List.pairwise_map.mpr (List.Pairwise.imp (fun {a b} h => ?_) (ups_sorted (2 * n)))
    by_cases q : a = b
    · rw [q]; exact Int.le_refl _
    · exact Int.le_of_lt (rf_lt (by omega))
  have c2 : mCmp (iLst (fz (vr 1))) (gNm 2) yes (mIndex (fz (n1 oSortI (vr 1))) (fz (vr 2))) [2] [.dat (il w), .own (il (U.map (rf n))), .un] = some (.new (il U), [.dat (il w), .dat (il (U.map (rf n))), .un]) := by
    have eS : oSortI (il (U.map (rf n))) = some (il ((ups (2 * n)).map (rf n))) := by rw [oSort_il, srt]
    have eU : ((U.map (rf n)).map D.int).map (iDo (rk n)) = U.map D.int := by
      have e : (U.map (rf n)).map (rk n) = U := by
        rw [List.map_map]
        have : (U.map (rk n ∘ rf n)) = U.map id := List.map_congr_left fun r _ => rk_rf r
        rw [this, List.map_id]
      rw [map_iDo, e]
    show _ = some (Rv.new (D.lst (U.map D.int)), _)
    rw [← eU]
    refine cmp_all (h := iDo (rk n)) (ds := (U.map (rf n)).map D.int) (ρ1 := [.dat (il w), .dat (il (U.map (rf n))), .un]) (ρ := [.dat (il w), .dat (il (U.map (rf n))), .un]) ?_ rfl (fun d m => ?_) (by rw [List.length_map, List.length_map]; omega)
    · generalize U.map (rf n) = A
      simp
    · obtain ⟨y, hy, rfl⟩ := List.mem_map.mp m
      obtain ⟨r, hr, rfl⟩ := List.mem_map.mp hy
      have hr' := mem_ups.mp (hU.mem_iff.mp hr)
      obtain ⟨j, rfl⟩ : ∃ j : Nat, r = j := ⟨r.toNat, by omega⟩
      have hj : j < 2 * n := by omega
      have ei : oIndex (il ((ups (2 * n)).map (rf n))) (.int (rf n j)) = some (.int j) := oIndex_il (by rw [List.getElem?_map, ups_get' hj]; rfl) (fun m hm e => by
        rw [List.getElem?_map, ups_get' (by omega)] at e
        have e : rf n (m : Int) = rf n (j : Int) := by simpa using e
        have := rf_lt (n := n) (a := (m : Int)) (b := (j : Int)) (by omega)
        omega)
      have er : iDo (rk n) (.int (rf n j)) = .int (j : Int) := by show D.int (rk n (rf n j)) = _; rw [rk_rf]
      rw [er]
      refine ⟨[.dat (il w), .dat (il (U.map (rf n))), .dat (.int (rf n j))], [.dat (il w), .dat (il (U.map (rf n))), .dat (.int (rf n j))], ?_, ?_, rfl⟩
      · generalize U.map (rf n) = A; simp
      · generalize U.map (rf n) = A at *
        generalize (ups (2 * n)).map (rf n) = A2 at *
        simp [mIndex, eS, ei]
  refine fn_rn (ρ' := [.dat (il w), .dat (il (U.map (rf n))), .un]) ?_
  show b__law_unfolded [.dat (il w), .un, .un] = _
  unfold b__law_unfolded
  rw [seq_nx s1, ev_mRet, c2]
  rfl
/-- of a mirror order, of a plain one that can be folded -/
theorem its_unf (gg : gd .mirror n) (h : Od .mirror n w) : (w.reverse.map fun x => -x) ++ w = (unf n w).map (rf n) := by
  have it := mi_items gg h
  have hl := h.len gg
  unfold unf
  rw [List.map_map]
  have : ∀ x ∈ (w.reverse.map fun x => -x) ++ w, (rf n ∘ rk n) x = id x := fun x m => by
    refine rf_rk ?_
    rcases List.mem_append.mp m with m | m
    · obtain ⟨y, hy, rfl⟩ := List.mem_map.mp m
      obtain ⟨i, hi, rfl⟩ := mem_gt (List.mem_reverse.mp hy)
      have := (it i (by omega)).1
      omega
    · obtain ⟨i, hi, rfl⟩ := mem_gt m
      exact (it i (by omega)).1
  rw [List.map_congr_left this, List.map_id]
theorem perm_pl {U : List Int} {m : Nat} (gg : gd .plain m) (h : Od .plain m U) : U.Perm (ups m) := by
  have v := h.vd gg
  have e : U.map (oix .plain m) = U := by
    have : ∀ x ∈ U, oix .plain m x = id x := fun x hx => by
      have := v.pl rfl x hx
      show x % m = x
      exact Int.emod_eq_of_lt this.1 this.2
    rw [List.map_congr_left this, List.map_id]
  have := v.res
  rw [e] at this
  exact this
theorem e_lunf (z : Sz .mirror n) (h3 : n ≤ 50) (h : Od .mirror n w) : m__law_unfolded [il w] = some (il (unf n w)) :=
  e__law_unfolded z.n1 h3 (h.len z.g) (perm_pl (gd_un z.g) (h.unf z.g)) (its_unf z.g h)
end
end
end M
/-! Y4: mirror orders unfolded, as the law looks at it. -/
namespace M
open PySem PySem.Spec PyProof.Rows L2
noncomputable section
@[simp] theorem ev_mPar3 {i j l : Nat} {f g h : ME} {ρ : Rho} : mPar3 i j l f g h ρ = (hM f ρ).bind fun p => (hM g p.2).bind fun q => (hM h q.2).bind fun o => (asg l o.1 o.2).bind fun r => (asg j q.1 r).bind fun r => (asg i p.1 r).map fun z => (.nx, z) := Eq.trans rfl rfl
@[simp] theorem ev_mCq {o : List D → Option D} {fr : MA} {ρ : Rho} : mCq o fr ρ = (fr ρ).bind fun p => (o p.1).map fun d => (rvQ d, p.2) := Eq.trans rfl rfl
@[simp] theorem ev_oRv {m : List D → Option D} {ds : List D} : oRv m ds = m ds.reverse := Eq.trans rfl rfl
@[simp] theorem rvQ_lst {ds : List D} : rvQ (.lst ds) = .new (.lst ds) := Eq.trans rfl rfl
@[simp] theorem rvQ_non : rvQ .non = .dat .non := Eq.trans rfl rfl
theorem oNe_bb (a b c d : Bool) : oNe (.lst [.bl a, .bl b]) (.lst [.bl c, .bl d]) = some (.bl (!decide (a = c ∧ b = d))) := by
  cases a <;> cases b <;> cases c <;> cases d <;> rfl
theorem rep_rule {z : Int} {f : ME} {fb : MD} {ρ ρ1 ρ2 : Rho} {ds : List D} (h1 : f ρ = some (.new (.lst ds), ρ1)) (h2 : fb ρ1 = some (.int z, ρ2)) (h3 : repOk ds z = true) : mRep f fb ρ = some (.new (.lst (List.replicate z.toNat ds).flatten), ρ2) := by
  rw [ev_mRep, h1, Option.bind_some, h2, Option.bind_some]
  show (if repOk ds z = true then some (Rv.new (D.lst (List.replicate z.toNat ds).flatten), ρ2) else none) = _
  rw [if_pos h3]
theorem inI_il (x : Int) (l : List Int) : oInI false (.int x) (il l) = some (.bl (l.contains x)) := by
  show (intsOf (l.map D.int)).map (fun ns => D.bl (if false = true then !ns.contains x else ns.contains x)) = _
  rw [intsOf_ints]
  rfl
section
variable {k : Kd} {n : Nat} {u v w x o r U V : List Int} {row ss : List Int} {s B q : Int} {g T Mo : D} {ls : List (List Int)}
variable {a1 a2 a3 a4 a5 a6 a7 a8 a9 a10 a11 a12 a13 a14 : Sl}
theorem crs_pwr (gg : gd k n) (hw : isW k n row) : ∀ (m : Nat) {x : List Int}, Od k n x → crs k (pwr k row m x) ≤ crs k x + m * row.length
  | 0, x, _ => by simp [pwr]
  | m + 1, x, hx => by
    have := crs_pwr gg hw m (Od.run hx hw)
    have := crs_run gg hx hw
    rw [pwr, show ((m + 1 : Nat) : Int) * row.length = m * row.length + row.length by rw [Int.natCast_add, Int.add_mul]; simp]
    omega
theorem asy_unf (gg : gd .mirror n) (h : Od .mirror n w) : asy n (unf n w) = [] := by
  have it := mi_items gg h
  have hl := h.len gg
  unfold asy
  rw [List.filter_eq_nil_iff]
  intro a ha
  rw [mem_ups] at ha
  obtain ⟨i, hi⟩ : ∃ i : Nat, a = (n - 1 - i : Nat) ∧ i < n := ⟨n - 1 - a.toNat, by omega, by omega⟩
  obtain ⟨rfl, hi⟩ := hi
  rw [gt_unf_l hl hi, gp _ (a := 2 * (n : Int) - 1 - ((n - 1 - i : Nat) : Int)) (i := n + i) (by omega), gt_unf_r hl hi]
  have := (it i hi).1
  have e : rk n (-gt w i) + rk n (gt w i) = 2 * (n : Int) - 1 := by
    unfold rk
    split <;> split <;> omega
  simp [e]
theorem fld_unf (gg : gd .mirror n) (h : Od .mirror n w) : fld n (unf n w) = w := by
  have it := mi_items gg h
  have hl := h.len gg
  have e : (unf n w).drop n = w.map (rk n) := by
    unfold unf
    rw [List.map_append]
    exact List.drop_left' (by rw [List.length_map, List.length_map, List.length_reverse, hl])
  unfold fld
  rw [e, List.map_map]
  have : ∀ x ∈ w, (rf n ∘ rk n) x = id x := fun x m => by
    obtain ⟨i, hi, rfl⟩ := mem_gt m
    exact rf_rk (it i (by omega)).1
  rw [List.map_congr_left this, List.map_id]
theorem contains_fls (hl : w.length = n) (h : isS k n s) : (fls k w).contains s = xd k w s := by
  have := mem_fls (k := k) (n := n) (w := w) (s := s) hl
  cases q : xd k w s with
  | true => rw [List.contains_iff_mem]; exact this.mpr ⟨h, q⟩
  | false =>
    rw [Bool.eq_false_iff]
    intro e
    rw [List.contains_iff_mem] at e
    have := (this.mp e).2
    rw [q] at this; cases this
def rm (g : D) (a1 a2 a3 a4 a5 a6 a7 a8 a9 a10 a11 a12 a13 a14 : Sl) : Rho := [.io g, a1, a2, a3, a4, a5, a6, a7, a8, a9, a10, a11, a12, a13, a14]
/-- one step's falls -/
def rmB : MS := (mSeq (mSet 10 (mLst (aCons (m2 oSub (m2 oSub (fz (vr 1)) (cst (.int 1))) (fz (vr 9))) (aCons (m2 oAdd (m2 oSub (fz (vr 1)) (cst (.int 1))) (fz (vr 9))) aNil))))
    (mIf (asB (m2 oNe (fz (mRep (mLst (aCons (m2 (oInI false) (fz (vr 9)) (mC (nA m_falls 2) (aCons (fz (vr 2)) (aCons (fz (vr 5)) aNil)))) aNil)) (cst (.int 2)))) (fz (mCmp (iLst (fz (vr 10))) (gNm 14) yes (m2 (oInI false) (fz (vr 14)) (mC (nA m_falls 2) (aCons (fz (vr 3)) (aCons (fz (vr 7)) aNil)))) [14])))) (mRet (upE (cst (.bl false)))) mNil))
theorem rm_turn (z : Sz .mirror n) (z2 : Sz .plain (2 * n)) (hw : Od .mirror n w) (c : crs .mirror w ≤ 60) (c2 : crs .plain (unf n w) ≤ 60) {t : Nat} (ht : t < n) (f10 : M.free a10 = true) :
    rmB (rm g (.dat (.int n)) (.dat (.kd "mirror" n)) (.dat (.kd "plain" ((2 * n : Nat) : Int))) a4 (.dat (il w)) a6 (.dat (il (unf n w))) a8 (.dat (.int t)) a10 a11 a12 a13 .un) =
      some (.nx, rm g (.dat (.int n)) (.dat (.kd "mirror" n)) (.dat (.kd "plain" ((2 * n : Nat) : Int))) a4 (.dat (il w)) a6 (.dat (il (unf n w))) a8 (.dat (.int t)) (.dat (il [(n : Int) - 1 - t, (n : Int) - 1 + t])) a11 a12 a13 .un) := by
  have n100 := z.n100
  have hl := hw.len z.g
  have ou := hw.unf z.g
  have hs : isS .mirror n (t : Int) := ⟨by omega, by show (t : Int) < n; omega⟩
  have e1 : m_falls [.kd "mirror" n, il w] = some (il (fls .mirror w)) := e_falls z hw c
  have e2 : m_falls [.kd "plain" ((2 * n : Nat) : Int), il (unf n w)] = some (il (fls .plain (unf n w))) := e_falls z2 ou c2
  have i1 : oInI false (.int t) (il (fls .mirror w)) = some (.bl (xd .mirror w t)) := by rw [inI_il, contains_fls hl hs]
  have hx : ∀ p : Int, p = (n : Int) - 1 - t ∨ p = (n : Int) - 1 + t → oInI false (.int p) (il (fls .plain (unf n w))) = some (.bl (xd .mirror w t)) := fun p hp => by
    have hpS : isS .plain (2 * n) p := by
      rcases hp with rfl | rfl
      · exact ⟨by omega, by show _ < ((2 * n : Nat) : Int) - 1; omega⟩
      · exact ⟨by omega, by show _ < ((2 * n : Nat) : Int) - 1; omega⟩
    rw [inI_il, contains_fls (ou.len z2.g) hpS]
    refine congrArg (fun b => some (D.bl b)) (xd_unf z.g hw hs p ?_)
    unfold us
    split
    · rename_i h0
      rw [List.mem_singleton]
      rcases hp with rfl | rfl <;> omega
    · simp only [List.mem_cons, List.not_mem_nil, or_false]
      exact hp
  have j1 := hx _ (.inl rfl)
  have j2 := hx _ (.inr rfl)
  generalize fls .mirror w = F1 at *
  generalize fls .plain (unf n w) = F2 at *
  generalize xd .mirror w (t : Int) = b at *
  have ok2 : ∀ {a b : D}, okLen [a, b] = true := okl2
  have s1 : mSet 10 (mLst (aCons (m2 oSub (m2 oSub (fz (vr 1)) (cst (.int 1))) (fz (vr 9))) (aCons (m2 oAdd (m2 oSub (fz (vr 1)) (cst (.int 1))) (fz (vr 9))) aNil))) (rm g (.dat (.int n)) (.dat (.kd "mirror" n)) (.dat (.kd "plain" ((2 * n : Nat) : Int))) a4 (.dat (il w)) a6 (.dat (il (unf n w))) a8 (.dat (.int t)) a10 a11 a12 a13 .un) =
      some (.nx, rm g (.dat (.int n)) (.dat (.kd "mirror" n)) (.dat (.kd "plain" ((2 * n : Nat) : Int))) a4 (.dat (il w)) a6 (.dat (il (unf n w))) a8 (.dat (.int t)) (.own (il [(n : Int) - 1 - t, (n : Int) - 1 + t])) a11 a12 a13 .un) := by
    unfold rm; simp [ok2, f10]
  have s2 : mRep (mLst (aCons (m2 (oInI false) (fz (vr 9)) (mC (nA m_falls 2) (aCons (fz (vr 2)) (aCons (fz (vr 5)) aNil)))) aNil)) (cst (.int 2)) (rm g (.dat (.int n)) (.dat (.kd "mirror" n)) (.dat (.kd "plain" ((2 * n : Nat) : Int))) a4 (.dat (il w)) a6 (.dat (il (unf n w))) a8 (.dat (.int t)) (.own (il [(n : Int) - 1 - t, (n : Int) - 1 + t])) a11 a12 a13 .un) =
      some (.new (.lst [.bl b, .bl b]), rm g (.dat (.int n)) (.dat (.kd "mirror" n)) (.dat (.kd "plain" ((2 * n : Nat) : Int))) a4 (.dat (il w)) a6 (.dat (il (unf n w))) a8 (.dat (.int t)) (.own (il [(n : Int) - 1 - t, (n : Int) - 1 + t])) a11 a12 a13 .un) := by
    have h1 : mLst (aCons (m2 (oInI false) (fz (vr 9)) (mC (nA m_falls 2) (aCons (fz (vr 2)) (aCons (fz (vr 5)) aNil)))) aNil) (rm g (.dat (.int n)) (.dat (.kd "mirror" n)) (.dat (.kd "plain" ((2 * n : Nat) : Int))) a4 (.dat (il w)) a6 (.dat (il (unf n w))) a8 (.dat (.int t)) (.own (il [(n : Int) - 1 - t, (n : Int) - 1 + t])) a11 a12 a13 .un) =
        some (.new (.lst [.bl b]), rm g (.dat (.int n)) (.dat (.kd "mirror" n)) (.dat (.kd "plain" ((2 * n : Nat) : Int))) a4 (.dat (il w)) a6 (.dat (il (unf n w))) a8 (.dat (.int t)) (.own (il [(n : Int) - 1 - t, (n : Int) - 1 + t])) a11 a12 a13 .un) := by
      unfold rm; simp [e1, i1]
    have := rep_rule (z := 2) (fb := cst (.int 2)) h1 rfl (repOk_iff.mpr ⟨by omega, by omega, by rw [sizeLine_eq]; simp⟩)
    exact this
  have s3 : mCmp (iLst (fz (vr 10))) (gNm 14) yes (m2 (oInI false) (fz (vr 14)) (mC (nA m_falls 2) (aCons (fz (vr 3)) (aCons (fz (vr 7)) aNil)))) [14] (rm g (.dat (.int n)) (.dat (.kd "mirror" n)) (.dat (.kd "plain" ((2 * n : Nat) : Int))) a4 (.dat (il w)) a6 (.dat (il (unf n w))) a8 (.dat (.int t)) (.own (il [(n : Int) - 1 - t, (n : Int) - 1 + t])) a11 a12 a13 .un) =
      some (.new (.lst [.bl b, .bl b]), rm g (.dat (.int n)) (.dat (.kd "mirror" n)) (.dat (.kd "plain" ((2 * n : Nat) : Int))) a4 (.dat (il w)) a6 (.dat (il (unf n w))) a8 (.dat (.int t)) (.dat (il [(n : Int) - 1 - t, (n : Int) - 1 + t])) a11 a12 a13 .un) := by
    have := cmp_all (i := iLst (fz (vr 10))) (s := gNm 14) (f := m2 (oInI false) (fz (vr 14)) (mC (nA m_falls 2) (aCons (fz (vr 3)) (aCons (fz (vr 7)) aNil)))) (vs := [14]) (h := fun _ => .bl b) (ds := [.int ((n : Int) - 1 - t), .int ((n : Int) - 1 + t)])
      (ρ0 := rm g (.dat (.int n)) (.dat (.kd "mirror" n)) (.dat (.kd "plain" ((2 * n : Nat) : Int))) a4 (.dat (il w)) a6 (.dat (il (unf n w))) a8 (.dat (.int t)) (.own (il [(n : Int) - 1 - t, (n : Int) - 1 + t])) a11 a12 a13 .un)
      (ρ1 := rm g (.dat (.int n)) (.dat (.kd "mirror" n)) (.dat (.kd "plain" ((2 * n : Nat) : Int))) a4 (.dat (il w)) a6 (.dat (il (unf n w))) a8 (.dat (.int t)) (.dat (il [(n : Int) - 1 - t, (n : Int) - 1 + t])) a11 a12 a13 .un)
      (ρ := rm g (.dat (.int n)) (.dat (.kd "mirror" n)) (.dat (.kd "plain" ((2 * n : Nat) : Int))) a4 (.dat (il w)) a6 (.dat (il (unf n w))) a8 (.dat (.int t)) (.dat (il [(n : Int) - 1 - t, (n : Int) - 1 + t])) a11 a12 a13 .un)
      rfl rfl (fun d m => by
        simp only [List.mem_cons, List.not_mem_nil, or_false] at m
        rcases m with rfl | rfl
        · exact ⟨rm g (.dat (.int n)) (.dat (.kd "mirror" n)) (.dat (.kd "plain" ((2 * n : Nat) : Int))) a4 (.dat (il w)) a6 (.dat (il (unf n w))) a8 (.dat (.int t)) (.dat (il [(n : Int) - 1 - t, (n : Int) - 1 + t])) a11 a12 a13 (.dat (.int ((n : Int) - 1 - t))), rm g (.dat (.int n)) (.dat (.kd "mirror" n)) (.dat (.kd "plain" ((2 * n : Nat) : Int))) a4 (.dat (il w)) a6 (.dat (il (unf n w))) a8 (.dat (.int t)) (.dat (il [(n : Int) - 1 - t, (n : Int) - 1 + t])) a11 a12 a13 (.dat (.int ((n : Int) - 1 - t))), by unfold rm; simp, by unfold rm; simp at e2; simp [e2, j1], rfl⟩
        · exact ⟨rm g (.dat (.int n)) (.dat (.kd "mirror" n)) (.dat (.kd "plain" ((2 * n : Nat) : Int))) a4 (.dat (il w)) a6 (.dat (il (unf n w))) a8 (.dat (.int t)) (.dat (il [(n : Int) - 1 - t, (n : Int) - 1 + t])) a11 a12 a13 (.dat (.int ((n : Int) - 1 + t))), rm g (.dat (.int n)) (.dat (.kd "mirror" n)) (.dat (.kd "plain" ((2 * n : Nat) : Int))) a4 (.dat (il w)) a6 (.dat (il (unf n w))) a8 (.dat (.int t)) (.dat (il [(n : Int) - 1 - t, (n : Int) - 1 + t])) a11 a12 a13 (.dat (.int ((n : Int) - 1 + t))), by unfold rm; simp, by unfold rm; simp at e2; simp [e2, j2], rfl⟩) (by simp)
    exact this
  unfold rmB
  rw [seq_nx s1]
  refine if_no2 ?_
  have h1 : fz (mRep (mLst (aCons (m2 (oInI false) (fz (vr 9)) (mC (nA m_falls 2) (aCons (fz (vr 2)) (aCons (fz (vr 5)) aNil)))) aNil)) (cst (.int 2))) (rm g (.dat (.int n)) (.dat (.kd "mirror" n)) (.dat (.kd "plain" ((2 * n : Nat) : Int))) a4 (.dat (il w)) a6 (.dat (il (unf n w))) a8 (.dat (.int t)) (.own (il [(n : Int) - 1 - t, (n : Int) - 1 + t])) a11 a12 a13 .un) =
      some (.lst [.bl b, .bl b], rm g (.dat (.int n)) (.dat (.kd "mirror" n)) (.dat (.kd "plain" ((2 * n : Nat) : Int))) a4 (.dat (il w)) a6 (.dat (il (unf n w))) a8 (.dat (.int t)) (.own (il [(n : Int) - 1 - t, (n : Int) - 1 + t])) a11 a12 a13 .un) := by
    rw [ev_fz, s2]; rfl
  rw [ev_asB, ev_m2, h1, Option.bind_some, ev_fz, s3]
  show ((((some (D.lst [.bl b, .bl b], _)).bind fun q => (oNe (D.lst [.bl b, .bl b]) q.1).map fun d => (d, q.2))).bind _) = _
  rw [Option.bind_some, oNe_bb]
  simp
end
end
end M
/-! Y5: mirror orders unfolded, as the law looks at it: the whole. -/
namespace M
open PySem PySem.Spec PyProof.Rows L2
noncomputable section
section
variable {k : Kd} {n : Nat} {u v w x o r U V : List Int} {row ss : List Int} {s B q : Int} {g T Mo : D} {ls : List (List Int)}
variable {a1 a2 a3 a4 a5 a6 a7 a8 a9 a10 a11 a12 a13 a14 : Sl}
theorem rm_loop (z : Sz .mirror n) (z2 : Sz .plain (2 * n)) (hw : Od .mirror n w) (c : crs .mirror w ≤ 60) (c2 : crs .plain (unf n w) ≤ 60) :
    ∃ b9 b10 : Sl, mFor (iRg1 (aCons (fz (vr 1)) aNil)) (gNm 9) rmB (rm g (.dat (.int n)) (.dat (.kd "mirror" n)) (.dat (.kd "plain" ((2 * n : Nat) : Int))) a4 (.dat (il w)) a6 (.dat (il (unf n w))) a8 .un .un a11 a12 a13 .un) =
      some (.nx, rm g (.dat (.int n)) (.dat (.kd "mirror" n)) (.dat (.kd "plain" ((2 * n : Nat) : Int))) a4 (.dat (il w)) a6 (.dat (il (unf n w))) a8 b9 b10 a11 a12 a13 .un) := by
  have n100 := z.n100
  obtain ⟨ρ', e, b9, b10, f9, f10, e2⟩ := for_ind (s := gNm 9) (b := rmB) (ds := rgD 0 n)
    (fun i ρ => ∃ b9 b10 : Sl, M.free b9 = true ∧ M.free b10 = true ∧ ρ = rm g (.dat (.int n)) (.dat (.kd "mirror" n)) (.dat (.kd "plain" ((2 * n : Nat) : Int))) a4 (.dat (il w)) a6 (.dat (il (unf n w))) a8 b9 b10 a11 a12 a13 .un)
    (fun i d ρ hd ⟨b9, b10, f9, f10, e⟩ => by
      obtain ⟨hi, rfl⟩ := rgD_get hd
      subst e
      rw [Int.zero_add]
      exact ⟨rm g (.dat (.int n)) (.dat (.kd "mirror" n)) (.dat (.kd "plain" ((2 * n : Nat) : Int))) a4 (.dat (il w)) a6 (.dat (il (unf n w))) a8 (.dat (.int i)) b10 a11 a12 a13 .un, _, by unfold rm; simp [f9], rm_turn z z2 hw c c2 hi f10, _, _, rfl, rfl, rfl⟩)
    (ρ := rm g (.dat (.int n)) (.dat (.kd "mirror" n)) (.dat (.kd "plain" ((2 * n : Nat) : Int))) a4 (.dat (il w)) a6 (.dat (il (unf n w))) a8 .un .un a11 a12 a13 .un) ⟨_, _, rfl, rfl, rfl⟩
  refine ⟨b9, b10, ?_⟩
  have c1 : aCons (fz (vr 1)) aNil (rm g (.dat (.int n)) (.dat (.kd "mirror" n)) (.dat (.kd "plain" ((2 * n : Nat) : Int))) a4 (.dat (il w)) a6 (.dat (il (unf n w))) a8 .un .un a11 a12 a13 .un) = some ([.int n], rm g (.dat (.int n)) (.dat (.kd "mirror" n)) (.dat (.kd "plain" ((2 * n : Nat) : Int))) a4 (.dat (il w)) a6 (.dat (il (unf n w))) a8 .un .un a11 a12 a13 .un) := rfl
  rw [ev_mFor, rg1_ok c1 (small_ok (by omega) (by omega)), Option.bind_some, Int.toNat_natCast]
  rw [e2] at e
  exact e
theorem kd_mp {n : Nat} (h1 : 1 ≤ n) (h3 : n ≤ 3) : Kz .mirror n ∧ Sz .plain (2 * n) ∧ kindOk "mirror" n = true ∧ kindOk "plain" ((2 * n : Nat) : Int) = true := by
  refine ⟨⟨⟨⟨h1, fun h => by cases h⟩, by omega⟩, by show (n : Int) ≤ 6; omega⟩, ⟨⟨by omega, fun h => by cases h⟩, by omega⟩, ?_, ?_⟩
  · have : n = 1 ∨ n = 2 ∨ n = 3 := by omega
    rcases this with rfl | rfl | rfl <;> decide +kernel
  · have : n = 1 ∨ n = 2 ∨ n = 3 := by omega
    rcases this with rfl | rfl | rfl <;> decide +kernel
theorem or_cut {A C : MB} {ρ : Rho} (h1 : A ρ = some (false, ρ)) (h2 : C ρ = some (false, ρ)) : mOr A C ρ = some (false, ρ) := or_no h1 h2
theorem e__law_mirror_right (hg : GOK B g) (hB : B ≤ 40000) : ∃ g', m__law_mirror_right g [] = some (.bl true, g') := by
  obtain ⟨y, g1, e1, y0, y1, hg1⟩ := e__law_random (x := 3) hg (by omega) (by omega) (by omega)
  obtain ⟨n, hn⟩ : ∃ n : Nat, (1 : Int) + y = n := ⟨(1 + y).toNat, by omega⟩
  have hn1 : 1 ≤ n := by omega
  have hn3 : n ≤ 3 := by omega
  obtain ⟨kz, z2, k1, k2⟩ := kd_mp hn1 hn3
  have z := kz.z
  have en : ((2 * n : Nat) : Int) = 2 * (n : Int) := by omega
  obtain ⟨w, g2, e2, ow, cw, hg2⟩ := e__law_order kz (by decide) (most := 9) (by omega) hg1 (by omega)
  have e2 : m__law_order g1 [.tup [.str "mirror", .int n], .int 9] = some (il w, g2) := e2
  obtain ⟨v, g3, e3, ov, cv, hg3⟩ := e__law_order kz (by decide) (most := 9) (by omega) hg2 (by omega)
  have e3 : m__law_order g2 [.tup [.str "mirror", .int n], .int 9] = some (il v, g3) := e3
  have lu1 := e_lunf z (by omega) ow
  have lu2 := e_lunf z (by omega) ov
  have ucr : ∀ {x : List Int}, Od .mirror n x → crs .plain (unf n x) = 2 * crs .mirror x - neg x := fun hx => by
    obtain ⟨ss, h1, rfl⟩ := hx
    exact unf_crs z.g ss h1
  have uw := ucr ow
  have uv := ucr ov
  have ouw := ow.unf z.g
  have ouv := ov.unf z.g
  have un1 := e_unfolded z hn3 k1 ow (by omega)
  have un2 := e_unfolded z hn3 k1 ov (by omega)
  have fo1 := e_folded z2 hn1 hn3 k2 ouw (by omega)
  rw [asy_unf z.g ow, if_pos rfl, fld_unf z.g ow] at fo1
  have fo2 := e_folded z2 hn1 hn3 k2 ouv (by omega)
  rw [asy_unf z.g ov, if_pos rfl, fld_unf z.g ov] at fo2
  have lrw := ler_Lr pk_hd z.g ow
  have lrv := ler_Lr pk_hd z.g ov
  have lw2 := lrw.2.2
  have lv2 := lrv.2.2
  -- crossings
  have cr1 : m_crossings [.kd "plain" ((2 * n : Nat) : Int), il (unf n w)] = some (.int (crs .plain (unf n w))) := e_crossings z2 ouw (by omega)
  have cr2 : m_crossings [.kd "mirror" n, il w] = some (.int (crs .mirror w)) := e_crossings z ow (by omega)
  -- greedy products
  have gr1 : m_greedy [.kd "mirror" n, il w, il v] = some (il (run .mirror w (ler hd0 .mirror v))) := e_greedy z ow ov (by omega) (by omega)
  have gr2 : m_greedy [.kd "plain" ((2 * n : Nat) : Int), il (unf n w), il (unf n v)] = some (il (run .plain (unf n w) (ler hd0 .plain (unf n v)))) := e_greedy z2 ouw ouv (by omega) (by omega)
  rw [unf_greedy z.g ow ov] at gr2
  have og := Od.run ow lrv.1
  have cg := crs_run z.g ow lrv.1
  have un3 := e_unfolded z hn3 k1 og (by omega)
  -- products
  have pr1 : m_product [.kd "mirror" n, il w, il v] = some (il (prd .mirror w v)) := e_product z ow ov (by omega) (by omega)
  have pr2 : m_product [.kd "plain" ((2 * n : Nat) : Int), il (unf n w), il (unf n v)] = some (il (prd .plain (unf n w) (unf n v))) := e_product z2 ouw ouv (by omega) (by omega)
  rw [unf_prd z.g ow ov] at pr2
  have cp := crs_prd z.g ow ov
  have un4 := e_unfolded z hn3 k1 (ow.prd z.g ov) (by omega)
  -- opposites
  have op1 : m_opposite [.kd "mirror" n, il w] = some (il (opp .mirror w)) := e_opposite z ow (by omega)
  have op2 : m_opposite [.kd "plain" ((2 * n : Nat) : Int), il (unf n w)] = some (il (opp .plain (unf n w))) := e_opposite z2 ouw (by omega)
  rw [unf_opp z.g ow] at op2
  have co := crs_opp z.g ow
  have un5 := e_unfolded z hn3 k1 (ow.opp z.g) (by omega)
  -- powers
  have pw1 : m_power [.kd "mirror" n, il w, .int 3] = some (il (pwr .mirror (ler hd0 .mirror w) 3 (stW .mirror n))) := e_power z ow (by omega) (m := 3) (by omega)
  have pw2 : m_power [.kd "plain" ((2 * n : Nat) : Int), il (unf n w), .int 3] = some (il (pwr .plain (ler hd0 .plain (unf n w)) 3 (stW .plain (2 * n)))) := e_power z2 ouw (by omega) (m := 3) (by omega)
  rw [← unf_start, unf_pw z.g ow 3 Od.start] at pw2
  have cpw := crs_pwr z.g lrw.1 3 (Od.start (k := .mirror) (n := n))
  rw [crs_start] at cpw
  have un6 := e_unfolded z hn3 k1 (Od.pwr lrw.1 3 (Od.start (k := .mirror) (n := n))) (by omega)
  -- beneath
  have be1 : m_is_beneath [.kd "mirror" n, il w, il v] = some (.bl (decide (snk .mirror w (ler hd0 .mirror v) = stW .mirror n))) := e_is_beneath z ow ov (by omega) (by omega)
  have be2 : m_is_beneath [.kd "plain" ((2 * n : Nat) : Int), il (unf n w), il (unf n v)] = some (.bl (decide (snk .plain (unf n w) (ler hd0 .plain (unf n v)) = stW .plain (2 * n)))) := e_is_beneath z2 ouw ouv (by omega) (by omega)
  rw [decide_eq_decide.mpr (unf_below z.g ow ov)] at be2
  generalize decide (snk .mirror w (ler hd0 .mirror v) = stW .mirror n) = bb at *
  have lp := fun (a11 a12 : Sl) => rm_loop (g := g3) (a4 := .dat (.tup [.str "mirror", .int n])) (a6 := .dat (il v)) (a8 := .dat (il (unf n v))) (a11 := a11) (a12 := a12) (a13 := .un) z z2 ow (by omega) (by omega)
  have hl := ow.len z.g
  have hlv := ov.len z.g
  have lU := len_unf hl
  -- the steps
  have em : oMul (.int 2) (.int n) = some (.int ((2 * n : Nat) : Int)) := by rw [mul_med (by omega) (by omega) (by omega) (by omega), en]
  have ek1 : oKind [.str "mirror", .int n] = some (.kd "mirror" n) := kd_ok (k := .mirror) k1
  have ek2 : oKind [.str "plain", .int ((2 * n : Nat) : Int)] = some (.kd "plain" ((2 * n : Nat) : Int)) := kd_ok (k := .plain) k2
  have ok2 : ∀ {a b : D}, okLen [a, b] = true := okl2
  have s1 : mSet 1 (upE (m2 oAdd (cst (.int 1)) (mCG (nAG m__law_random 2) (vr 0) (aCons (cst (.int 3)) aNil)))) (rm g .un .un .un .un .un .un .un .un .un .un .un .un .un .un) = some (.nx, rm g1 (.dat (.int n)) .un .un .un .un .un .un .un .un .un .un .un .un .un) := by
    unfold rm; simp [e1, hn]
  generalize hN : ((2 * n : Nat) : Int) = N at *
  have s2 : mPar3 2 3 4 (upE (mC oKind (aCons (cst (.str "mirror")) (aCons (fz (vr 1)) aNil)))) (upE (mC oKind (aCons (cst (.str "plain")) (aCons (m2 oMul (cst (.int 2)) (fz (vr 1))) aNil)))) (upE (mTup (aCons (cst (.str "mirror")) (aCons (fz (vr 1)) aNil)))) (rm g1 (.dat (.int n)) .un .un .un .un .un .un .un .un .un .un .un .un .un) =
      some (.nx, rm g1 (.dat (.int n)) (.dat (.kd "mirror" n)) (.dat (.kd "plain" N)) (.dat (.tup [.str "mirror", .int n])) .un .un .un .un .un .un .un .un .un .un) := by
    unfold rm; simp [ek1, em, ek2, ok2]
  have s3 : mPar 5 6 (upE (mCG (nAG m__law_order 3) (vr 0) (aCons (fz (vr 4)) (aCons (cst (.int 9)) aNil)))) (upE (mCG (nAG m__law_order 3) (vr 0) (aCons (fz (vr 4)) (aCons (cst (.int 9)) aNil)))) (rm g1 (.dat (.int n)) (.dat (.kd "mirror" n)) (.dat (.kd "plain" N)) (.dat (.tup [.str "mirror", .int n])) .un .un .un .un .un .un .un .un .un .un) =
      some (.nx, rm g3 (.dat (.int n)) (.dat (.kd "mirror" n)) (.dat (.kd "plain" N)) (.dat (.tup [.str "mirror", .int n])) (.dat (il w)) (.dat (il v)) .un .un .un .un .un .un .un .un) := by
    unfold rm; simp [e2, e3]
  have s4 : mPar 7 8 (upE (mC (nA m__law_unfolded 1) (aCons (fz (vr 5)) aNil))) (upE (mC (nA m__law_unfolded 1) (aCons (fz (vr 6)) aNil))) (rm g3 (.dat (.int n)) (.dat (.kd "mirror" n)) (.dat (.kd "plain" N)) (.dat (.tup [.str "mirror", .int n])) (.dat (il w)) (.dat (il v)) .un .un .un .un .un .un .un .un) =
      some (.nx, rm g3 (.dat (.int n)) (.dat (.kd "mirror" n)) (.dat (.kd "plain" N)) (.dat (.tup [.str "mirror", .int n])) (.dat (il w)) (.dat (il v)) (.dat (il (unf n w))) (.dat (il (unf n v))) .un .un .un .un .un .un) := by
    unfold rm; simp [lu1, lu2]
  have s5 : mIf (mOr (asB (m2 oNe (fz (mCn (nA m_unfolded 2) (aCons (fz (vr 5)) (aCons (fz (vr 1)) aNil)))) (fz (vr 7)))) (mOr (asB (m2 oNe (fz (mCn (oRv (nA m_unfolded 2)) (aCons (fz (vr 1)) (aCons (fz (vr 6)) aNil)))) (fz (vr 8)))) (mOr (asB (m2 oNe (fz (mCq (nA m_folded 2) (aCons (fz (vr 7)) (aCons (fz (vr 1)) aNil)))) (fz (vr 5)))) (asB (m2 oNe (fz (mCq (oRv (nA m_folded 2)) (aCons (fz (vr 1)) (aCons (fz (vr 8)) aNil)))) (fz (vr 6))))))) (mRet (upE (cst (.bl false)))) mNil (rm g3 (.dat (.int n)) (.dat (.kd "mirror" n)) (.dat (.kd "plain" N)) (.dat (.tup [.str "mirror", .int n])) (.dat (il w)) (.dat (il v)) (.dat (il (unf n w))) (.dat (il (unf n v))) .un .un .un .un .un .un) =
      some (.nx, rm g3 (.dat (.int n)) (.dat (.kd "mirror" n)) (.dat (.kd "plain" N)) (.dat (.tup [.str "mirror", .int n])) (.dat (il w)) (.dat (il v)) (.dat (il (unf n w))) (.dat (il (unf n v))) .un .un .un .un .un .un) := by
    refine if_no (or_no ?_ (or_no ?_ (or_no ?_ ?_)))
    · unfold rm; simp [un1, oNe_il]
    · unfold rm; simp [un2, oNe_il]
    · unfold rm; simp [fo1, oNe_il]
    · unfold rm; simp [fo2, oNe_il]
  have ec : mCmp (iLst (fz (vr 5))) (gNm 13) (asB (m2 oLt (fz (vr 13)) (cst (.int 0)))) (fz (vr 13)) [13] (rm g3 (.dat (.int n)) (.dat (.kd "mirror" n)) (.dat (.kd "plain" N)) (.dat (.tup [.str "mirror", .int n])) (.dat (il w)) (.dat (il v)) (.dat (il (unf n w))) (.dat (il (unf n v))) .un .un .un .un .un .un) =
      some (.new (il (w.filter fun x => decide (x < 0))), rm g3 (.dat (.int n)) (.dat (.kd "mirror" n)) (.dat (.kd "plain" N)) (.dat (.tup [.str "mirror", .int n])) (.dat (il w)) (.dat (il v)) (.dat (il (unf n w))) (.dat (il (unf n v))) .un .un .un .un .un .un) := by
    rw [cmp_if (keep := keepI fun x => decide (x < 0)) (h := id) (ds := w.map D.int) (ρ1 := rm g3 (.dat (.int n)) (.dat (.kd "mirror" n)) (.dat (.kd "plain" N)) (.dat (.tup [.str "mirror", .int n])) (.dat (il w)) (.dat (il v)) (.dat (il (unf n w))) (.dat (il (unf n v))) .un .un .un .un .un .un) (ρ := rm g3 (.dat (.int n)) (.dat (.kd "mirror" n)) (.dat (.kd "plain" N)) (.dat (.tup [.str "mirror", .int n])) (.dat (il w)) (.dat (il v)) (.dat (il (unf n w))) (.dat (il (unf n v))) .un .un .un .un .un .un) rfl rfl (fun d m => ?_) (by rw [List.length_map]; omega)]
    · rw [filter_int _ (fun x => decide (x < 0)) _ (fun _ => rfl), List.map_id]
    · obtain ⟨i, _, rfl⟩ := List.mem_map.mp m
      exact ⟨rm g3 (.dat (.int n)) (.dat (.kd "mirror" n)) (.dat (.kd "plain" N)) (.dat (.tup [.str "mirror", .int n])) (.dat (il w)) (.dat (il v)) (.dat (il (unf n w))) (.dat (il (unf n v))) .un .un .un .un (.dat (.int i)) .un, rm g3 (.dat (.int n)) (.dat (.kd "mirror" n)) (.dat (.kd "plain" N)) (.dat (.tup [.str "mirror", .int n])) (.dat (il w)) (.dat (il v)) (.dat (il (unf n w))) (.dat (il (unf n v))) .un .un .un .un (.dat (.int i)) .un, by unfold rm; simp, by unfold rm; simp [keepI], fun _ => ⟨rm g3 (.dat (.int n)) (.dat (.kd "mirror" n)) (.dat (.kd "plain" N)) (.dat (.tup [.str "mirror", .int n])) (.dat (il w)) (.dat (il v)) (.dat (il (unf n w))) (.dat (il (unf n v))) .un .un .un .un (.dat (.int i)) .un, by unfold rm; simp, rfl⟩, fun _ => rfl⟩
  have s6 : mIf (asB (m2 oNe (mC (nA m_crossings 2) (aCons (fz (vr 3)) (aCons (fz (vr 7)) aNil))) (m2 oSub (m2 oMul (cst (.int 2)) (mC (nA m_crossings 2) (aCons (fz (vr 2)) (aCons (fz (vr 5)) aNil)))) (m1 oLen (mCmp (iLst (fz (vr 5))) (gNm 13) (asB (m2 oLt (fz (vr 13)) (cst (.int 0)))) (fz (vr 13)) [13]))))) (mRet (upE (cst (.bl false)))) mNil (rm g3 (.dat (.int n)) (.dat (.kd "mirror" n)) (.dat (.kd "plain" N)) (.dat (.tup [.str "mirror", .int n])) (.dat (il w)) (.dat (il v)) (.dat (il (unf n w))) (.dat (il (unf n v))) .un .un .un .un .un .un) =
      some (.nx, rm g3 (.dat (.int n)) (.dat (.kd "mirror" n)) (.dat (.kd "plain" N)) (.dat (.tup [.str "mirror", .int n])) (.dat (il w)) (.dat (il v)) (.dat (il (unf n w))) (.dat (il (unf n v))) .un .un .un .un .un .un) := by
    refine if_no ?_
    have em2 : oMul (.int 2) (.int (crs .mirror w)) = some (.int (2 * crs .mirror w)) := mul_med (by omega) (by omega) (by have := crs_nonneg .mirror w; omega) (by omega)
    have en2 : ((w.filter fun x => decide (x < 0)).length : Int) = neg w := rfl
    generalize mCmp (iLst (fz (vr 5))) (gNm 13) (asB (m2 oLt (fz (vr 13)) (cst (.int 0)))) (fz (vr 13)) [13] = mm at *
    generalize (w.filter fun x => decide (x < 0)) = fw at *
    unfold rm at *
    simp [cr1, cr2, em2, ec, en2, uw]
  have s7 : mIf (mOr (asB (m2 oNe (fz (mCn (nA m_unfolded 2) (aCons (mC (nA m_greedy 3) (aCons (fz (vr 2)) (aCons (fz (vr 5)) (aCons (fz (vr 6)) aNil)))) (aCons (fz (vr 1)) aNil)))) (mC (nA m_greedy 3) (aCons (fz (vr 3)) (aCons (fz (vr 7)) (aCons (fz (vr 8)) aNil)))))) (asB (m2 oNe (fz (mCn (nA m_unfolded 2) (aCons (mC (nA m_product 3) (aCons (fz (vr 2)) (aCons (fz (vr 5)) (aCons (fz (vr 6)) aNil)))) (aCons (fz (vr 1)) aNil)))) (mC (nA m_product 3) (aCons (fz (vr 3)) (aCons (fz (vr 7)) (aCons (fz (vr 8)) aNil))))))) (mRet (upE (cst (.bl false)))) mNil (rm g3 (.dat (.int n)) (.dat (.kd "mirror" n)) (.dat (.kd "plain" N)) (.dat (.tup [.str "mirror", .int n])) (.dat (il w)) (.dat (il v)) (.dat (il (unf n w))) (.dat (il (unf n v))) .un .un .un .un .un .un) =
      some (.nx, rm g3 (.dat (.int n)) (.dat (.kd "mirror" n)) (.dat (.kd "plain" N)) (.dat (.tup [.str "mirror", .int n])) (.dat (il w)) (.dat (il v)) (.dat (il (unf n w))) (.dat (il (unf n v))) .un .un .un .un .un .un) := by
    refine if_no (or_no ?_ ?_)
    · unfold rm; simp [gr1, gr2, un3, oNe_il]
    · unfold rm; simp [pr1, pr2, un4, oNe_il]
  have s8 : mIf (mOr (asB (m2 oNe (fz (mCn (nA m_unfolded 2) (aCons (mC (nA m_opposite 2) (aCons (fz (vr 2)) (aCons (fz (vr 5)) aNil))) (aCons (fz (vr 1)) aNil)))) (mC (nA m_opposite 2) (aCons (fz (vr 3)) (aCons (fz (vr 7)) aNil))))) (asB (m2 oNe (fz (mCn (nA m_unfolded 2) (aCons (mC (nA m_power 3) (aCons (fz (vr 2)) (aCons (fz (vr 5)) (aCons (cst (.int 3)) aNil)))) (aCons (fz (vr 1)) aNil)))) (mC (nA m_power 3) (aCons (fz (vr 3)) (aCons (fz (vr 7)) (aCons (cst (.int 3)) aNil))))))) (mRet (upE (cst (.bl false)))) mNil (rm g3 (.dat (.int n)) (.dat (.kd "mirror" n)) (.dat (.kd "plain" N)) (.dat (.tup [.str "mirror", .int n])) (.dat (il w)) (.dat (il v)) (.dat (il (unf n w))) (.dat (il (unf n v))) .un .un .un .un .un .un) =
      some (.nx, rm g3 (.dat (.int n)) (.dat (.kd "mirror" n)) (.dat (.kd "plain" N)) (.dat (.tup [.str "mirror", .int n])) (.dat (il w)) (.dat (il v)) (.dat (il (unf n w))) (.dat (il (unf n v))) .un .un .un .un .un .un) := by
    refine if_no (or_no ?_ ?_)
    · unfold rm; simp [op1, op2, un5, oNe_il]
    · generalize pwr .mirror (ler hd0 .mirror w) 3 (stW .mirror n) = P at *
      unfold rm; simp [pw1, pw2, un6, oNe_il]
  have s9 : mIf (asB (m2 oNe (mC (nA m_is_beneath 3) (aCons (fz (vr 2)) (aCons (fz (vr 5)) (aCons (fz (vr 6)) aNil)))) (mC (nA m_is_beneath 3) (aCons (fz (vr 3)) (aCons (fz (vr 7)) (aCons (fz (vr 8)) aNil)))))) (mRet (upE (cst (.bl false)))) mNil (rm g3 (.dat (.int n)) (.dat (.kd "mirror" n)) (.dat (.kd "plain" N)) (.dat (.tup [.str "mirror", .int n])) (.dat (il w)) (.dat (il v)) (.dat (il (unf n w))) (.dat (il (unf n v))) .un .un .un .un .un .un) =
      some (.nx, rm g3 (.dat (.int n)) (.dat (.kd "mirror" n)) (.dat (.kd "plain" N)) (.dat (.tup [.str "mirror", .int n])) (.dat (il w)) (.dat (il v)) (.dat (il (unf n w))) (.dat (il (unf n v))) .un .un .un .un .un .un) := by
    refine if_no ?_
    unfold rm; simp [be1, be2]
  obtain ⟨b9, b10, s10⟩ := lp .un .un
  have hz : ∀ l : List Int, l.length ≤ 100 → decide ((l.map D.int).length < sizeLine) = true := fun l h => lt_line (by rw [List.length_map]; omega)
  have s11 : mAppN (mCn (nA m_unfolded 2) (aCons (fz (vr 5)) (aCons (fz (vr 1)) aNil))) (cst (.int 7)) (rm g3 (.dat (.int n)) (.dat (.kd "mirror" n)) (.dat (.kd "plain" N)) (.dat (.tup [.str "mirror", .int n])) (.dat (il w)) (.dat (il v)) (.dat (il (unf n w))) (.dat (il (unf n v))) b9 b10 .un .un .un .un) =
      some (.nx, rm g3 (.dat (.int n)) (.dat (.kd "mirror" n)) (.dat (.kd "plain" N)) (.dat (.tup [.str "mirror", .int n])) (.dat (il w)) (.dat (il v)) (.dat (il (unf n w))) (.dat (il (unf n v))) b9 b10 .un .un .un .un) := by
    have e : mCn (nA m_unfolded 2) (aCons (fz (vr 5)) (aCons (fz (vr 1)) aNil)) (rm g3 (.dat (.int n)) (.dat (.kd "mirror" n)) (.dat (.kd "plain" N)) (.dat (.tup [.str "mirror", .int n])) (.dat (il w)) (.dat (il v)) (.dat (il (unf n w))) (.dat (il (unf n v))) b9 b10 .un .un .un .un) = some (.new (il (unf n w)), rm g3 (.dat (.int n)) (.dat (.kd "mirror" n)) (.dat (.kd "plain" N)) (.dat (.tup [.str "mirror", .int n])) (.dat (il w)) (.dat (il v)) (.dat (il (unf n w))) (.dat (il (unf n v))) b9 b10 .un .un .un .un) := by
      unfold rm; simp [un1]
    unfold mAppN
    rw [e]
    show (if decide (((unf n w).map D.int).length < sizeLine) = true then _ else _) = _
    rw [hz _ (by omega)]; rfl
  have s12 : mAppN (mCq (nA m_folded 2) (aCons (fz (vr 7)) (aCons (fz (vr 1)) aNil))) (cst (.int 7)) (rm g3 (.dat (.int n)) (.dat (.kd "mirror" n)) (.dat (.kd "plain" N)) (.dat (.tup [.str "mirror", .int n])) (.dat (il w)) (.dat (il v)) (.dat (il (unf n w))) (.dat (il (unf n v))) b9 b10 .un .un .un .un) =
      some (.nx, rm g3 (.dat (.int n)) (.dat (.kd "mirror" n)) (.dat (.kd "plain" N)) (.dat (.tup [.str "mirror", .int n])) (.dat (il w)) (.dat (il v)) (.dat (il (unf n w))) (.dat (il (unf n v))) b9 b10 .un .un .un .un) := by
    have e : mCq (nA m_folded 2) (aCons (fz (vr 7)) (aCons (fz (vr 1)) aNil)) (rm g3 (.dat (.int n)) (.dat (.kd "mirror" n)) (.dat (.kd "plain" N)) (.dat (.tup [.str "mirror", .int n])) (.dat (il w)) (.dat (il v)) (.dat (il (unf n w))) (.dat (il (unf n v))) b9 b10 .un .un .un .un) = some (.new (il w), rm g3 (.dat (.int n)) (.dat (.kd "mirror" n)) (.dat (.kd "plain" N)) (.dat (.tup [.str "mirror", .int n])) (.dat (il w)) (.dat (il v)) (.dat (il (unf n w))) (.dat (il (unf n v))) b9 b10 .un .un .un .un) := by
      unfold rm; simp [fo1]
    unfold mAppN
    rw [e]
    show (if decide ((w.map D.int).length < sizeLine) = true then _ else _) = _
    rw [hz _ (by omega)]; rfl
  have s13 : mPar 11 12 (n1 oList (vr 5)) (mLst (aCons (fz (mCn (nA m_unfolded 2) (aCons (fz (vr 5)) (aCons (fz (vr 1)) aNil)))) aNil)) (rm g3 (.dat (.int n)) (.dat (.kd "mirror" n)) (.dat (.kd "plain" N)) (.dat (.tup [.str "mirror", .int n])) (.dat (il w)) (.dat (il v)) (.dat (il (unf n w))) (.dat (il (unf n v))) b9 b10 .un .un .un .un) =
      some (.nx, rm g3 (.dat (.int n)) (.dat (.kd "mirror" n)) (.dat (.kd "plain" N)) (.dat (.tup [.str "mirror", .int n])) (.dat (il w)) (.dat (il v)) (.dat (il (unf n w))) (.dat (il (unf n v))) b9 b10 (.own (il w)) (.own (.lst [il (unf n w)])) .un .un) := by
    unfold rm; simp [un1]
  have bor : ∀ (x : List Int) (a12 : Sl), m_unfolded [il x, .int n] = some (il (unf n x)) → mCnB 11 (nA m_unfolded 2) (aCons (fz (vr 1)) aNil) (rm g3 (.dat (.int n)) (.dat (.kd "mirror" n)) (.dat (.kd "plain" N)) (.dat (.tup [.str "mirror", .int n])) (.dat (il w)) (.dat (il v)) (.dat (il (unf n w))) (.dat (il (unf n v))) b9 b10 (.own (il x)) a12 .un .un) =
      some (.new (il (unf n x)), rm g3 (.dat (.int n)) (.dat (.kd "mirror" n)) (.dat (.kd "plain" N)) (.dat (.tup [.str "mirror", .int n])) (.dat (il w)) (.dat (il v)) (.dat (il (unf n w))) (.dat (il (unf n v))) b9 b10 (.own (il x)) a12 .un .un) := fun x a12 h => by
    have hf : flatI (il (unf n x)) = true := by
      show (intsOf ((unf n x).map D.int)).isSome = true
      rw [intsOf_ints]; rfl
    unfold mCnB
    show ((aCons (fz (vr 1)) aNil (rm g3 (.dat (.int n)) (.dat (.kd "mirror" n)) (.dat (.kd "plain" N)) (.dat (.tup [.str "mirror", .int n])) (.dat (il w)) (.dat (il v)) (.dat (il (unf n w))) (.dat (il (unf n v))) b9 b10 (.own (il x)) a12 .un .un)).bind _) = _
    have e : aCons (fz (vr 1)) aNil (rm g3 (.dat (.int n)) (.dat (.kd "mirror" n)) (.dat (.kd "plain" N)) (.dat (.tup [.str "mirror", .int n])) (.dat (il w)) (.dat (il v)) (.dat (il (unf n w))) (.dat (il (unf n v))) b9 b10 (.own (il x)) a12 .un .un) = some ([.int n], rm g3 (.dat (.int n)) (.dat (.kd "mirror" n)) (.dat (.kd "plain" N)) (.dat (.tup [.str "mirror", .int n])) (.dat (il w)) (.dat (il v)) (.dat (il (unf n w))) (.dat (il (unf n v))) b9 b10 (.own (il x)) a12 .un .un) := rfl
    rw [e, Option.bind_some]
    show (nA m_unfolded 2 [il x, .int n]).bind _ = _
    rw [show nA m_unfolded 2 [il x, .int n] = m_unfolded [il x, .int n] from rfl, h, Option.bind_some, if_pos hf]
  have s14 : mDrop (fz (mCnB 11 (nA m_unfolded 2) (aCons (fz (vr 1)) aNil))) (rm g3 (.dat (.int n)) (.dat (.kd "mirror" n)) (.dat (.kd "plain" N)) (.dat (.tup [.str "mirror", .int n])) (.dat (il w)) (.dat (il v)) (.dat (il (unf n w))) (.dat (il (unf n v))) b9 b10 (.own (il w)) (.own (.lst [il (unf n w)])) .un .un) =
      some (.nx, rm g3 (.dat (.int n)) (.dat (.kd "mirror" n)) (.dat (.kd "plain" N)) (.dat (.tup [.str "mirror", .int n])) (.dat (il w)) (.dat (il v)) (.dat (il (unf n w))) (.dat (il (unf n v))) b9 b10 (.own (il w)) (.own (.lst [il (unf n w)])) .un .un) := by
    rw [ev_mDrop, ev_fz, bor w _ un1]; rfl
  have s15 : mAsg (fz (vr 6)) (gAll (vr 11)) (rm g3 (.dat (.int n)) (.dat (.kd "mirror" n)) (.dat (.kd "plain" N)) (.dat (.tup [.str "mirror", .int n])) (.dat (il w)) (.dat (il v)) (.dat (il (unf n w))) (.dat (il (unf n v))) b9 b10 (.own (il w)) (.own (.lst [il (unf n w)])) .un .un) =
      some (.nx, rm g3 (.dat (.int n)) (.dat (.kd "mirror" n)) (.dat (.kd "plain" N)) (.dat (.tup [.str "mirror", .int n])) (.dat (il w)) (.dat (il v)) (.dat (il (unf n w))) (.dat (il (unf n v))) b9 b10 (.own (il v)) (.own (.lst [il (unf n w)])) .un .un) := by
    have e : oAll (il v) (il w) = some (il v) := by
      show (if decide ((w.map D.int).length + (v.map D.int).length ≤ sizeLine) = true then some (D.lst (v.map D.int)) else none) = _
      rw [if_pos (decide_eq_true (by rw [List.length_map, List.length_map, sizeLine_eq]; omega))]
    have e2 : gAll (vr 11) (il v) (rm g3 (.dat (.int n)) (.dat (.kd "mirror" n)) (.dat (.kd "plain" N)) (.dat (.tup [.str "mirror", .int n])) (.dat (il w)) (.dat (il v)) (.dat (il (unf n w))) (.dat (il (unf n v))) b9 b10 (.own (il w)) (.own (.lst [il (unf n w)])) .un .un) = some (rm g3 (.dat (.int n)) (.dat (.kd "mirror" n)) (.dat (.kd "plain" N)) (.dat (.tup [.str "mirror", .int n])) (.dat (il w)) (.dat (il v)) (.dat (il (unf n w))) (.dat (il (unf n v))) b9 b10 (.own (il v)) (.own (.lst [il (unf n w)])) .un .un) := by
      show ((oAll (il v) (il w)).map fun d' => (rm g3 (.dat (.int n)) (.dat (.kd "mirror" n)) (.dat (.kd "plain" N)) (.dat (.tup [.str "mirror", .int n])) (.dat (il w)) (.dat (il v)) (.dat (il (unf n w))) (.dat (il (unf n v))) b9 b10 (.own (il w)) (.own (.lst [il (unf n w)])) .un .un).set 11 (putS (.own (il w)) d')) = _
      rw [e]; rfl
    show (gAll (vr 11) (il v) (rm g3 (.dat (.int n)) (.dat (.kd "mirror" n)) (.dat (.kd "plain" N)) (.dat (.tup [.str "mirror", .int n])) (.dat (il w)) (.dat (il v)) (.dat (il (unf n w))) (.dat (il (unf n v))) b9 b10 (.own (il w)) (.own (.lst [il (unf n w)])) .un .un)).map (fun r => (Fl.nx, r)) = _
    rw [e2]; rfl
  have s16 : mSet 12 (mCatL (vr 12) (mLst (aCons (fz (mCnB 11 (nA m_unfolded 2) (aCons (fz (vr 1)) aNil))) (aCons (fz (mCq (nA m_folded 2) (aCons (fz (vr 7)) (aCons (fz (vr 1)) aNil)))) aNil)))) (rm g3 (.dat (.int n)) (.dat (.kd "mirror" n)) (.dat (.kd "plain" N)) (.dat (.tup [.str "mirror", .int n])) (.dat (il w)) (.dat (il v)) (.dat (il (unf n w))) (.dat (il (unf n v))) b9 b10 (.own (il v)) (.own (.lst [il (unf n w)])) .un .un) =
      some (.nx, rm g3 (.dat (.int n)) (.dat (.kd "mirror" n)) (.dat (.kd "plain" N)) (.dat (.tup [.str "mirror", .int n])) (.dat (il w)) (.dat (il v)) (.dat (il (unf n w))) (.dat (il (unf n v))) b9 b10 (.own (il v)) (.own (.lst [il (unf n w), il (unf n v), il w])) .un .un) := by
    have e0 := bor v (.own (.lst [il (unf n w)])) un2
    have ecat : oCat (.lst [il (unf n w)]) (.lst [il (unf n v), il w]) = some (.lst [il (unf n w), il (unf n v), il w]) := cat_ok (by simp)
    generalize mCnB 11 (nA m_unfolded 2) (aCons (fz (vr 1)) aNil) = mb at *
    unfold rm at *
    simp [e0, fo1, ok2, ecat]
  refine ⟨g3, ?_⟩
  rw [m__law_mirror_right_eq]
  refine fg_rt (ρ := (rm g3 (.dat (.int n)) (.dat (.kd "mirror" n)) (.dat (.kd "plain" N)) (.dat (.tup [.str "mirror", .int n])) (.dat (il w)) (.dat (il v)) (.dat (il (unf n w))) (.dat (il (unf n v))) b9 b10 (.own (il v)) (.dat (.lst [il (unf n w), il (unf n v), il w])) .un .un).tail) ?_
  show b__law_mirror_right (rm g .un .un .un .un .un .un .un .un .un .un .un .un .un .un) = _
  unfold b__law_mirror_right
  rw [seq_nx s1, seq_nx s2, seq_nx s3, seq_nx s4, seq_nx s5, seq_nx s6, seq_nx s7, seq_nx s8, seq_nx s9]
  show mSeq (mFor (iRg1 (aCons (fz (vr 1)) aNil)) (gNm 9) rmB) _ _ = _
  rw [seq_nx s10, seq_nx s11, seq_nx s12, seq_nx s13, seq_nx s14, seq_nx s15, seq_nx s16]
  have ok3 : okLen [il (unf n w), il (unf n v), il w] = true := okl_le (by simp)
  have eq1 : oEq (.lst [il (unf n w), il (unf n v), il w]) (.lst [il (unf n w), il (unf n v), il w]) = some (.bl true) := by
    have := oEq_ils [unf n w, unf n v, w] [unf n w, unf n v, w]
    rw [decide_eq_true rfl] at this
    exact this
  unfold rm
  simp [lu1, lu2, ok3, eq1, oEq_il]
end
end
end M
/-! Y6: plain orders as ring orders, as the law looks at it; the law. -/
namespace M
open PySem PySem.Spec PyProof.Rows L2
noncomputable section
section
variable {k : Kd} {n : Nat} {u v w x o r U V : List Int} {row ss : List Int} {s B q : Int} {g S : D} {ls : List (List Int)}
variable {a1 a2 a3 a4 a5 a6 a7 : Sl}
def rp (g : D) (a1 a2 a3 a4 a5 a6 : Sl) : Rho := [.io g, a1, a2, a3, a4, a5, a6]
theorem kd_pr {n : Nat} (h2 : 2 ≤ n) (h5 : n ≤ 5) : Kz .plain n ∧ Sz .ring n ∧ kindOk "plain" n = true ∧ kindOk "ring" n = true := by
  refine ⟨⟨⟨gd_p h2, by omega⟩, by show (n : Int) - 1 ≤ 6; omega⟩, ⟨gd_r h2, by omega⟩, ?_, ?_⟩
  · have : n = 2 ∨ n = 3 ∨ n = 4 ∨ n = 5 := by omega
    rcases this with rfl | rfl | rfl | rfl <;> decide +kernel
  · have : n = 2 ∨ n = 3 ∨ n = 4 ∨ n = 5 := by omega
    rcases this with rfl | rfl | rfl | rfl <;> decide +kernel
theorem e__law_plain_right (hg : GOK B g) (hB : B ≤ 40000) : ∃ g', m__law_plain_right g [] = some (.bl true, g') := by
  obtain ⟨y, g1, e1, y0, y1, hg1⟩ := e__law_random (x := 4) hg (by omega) (by omega) (by omega)
  obtain ⟨n, hn⟩ : ∃ n : Nat, (2 : Int) + y = n := ⟨(2 + y).toNat, by omega⟩
  have h2 : 2 ≤ n := by omega
  have h5 : n ≤ 5 := by omega
  obtain ⟨kz, zr, k1, k2⟩ := kd_pr h2 h5
  have z := kz.z
  obtain ⟨w, g2, e2, ow, cw, hg2⟩ := e__law_order kz (by decide) (most := 12) (by omega) hg1 (by omega)
  have e2 : m__law_order g1 [.tup [.str "plain", .int n], .int 12] = some (il w, g2) := e2
  obtain ⟨v, g3, e3, ov, cv, hg3⟩ := e__law_order kz (by decide) (most := 12) (by omega) hg2 (by omega)
  have e3 : m__law_order g2 [.tup [.str "plain", .int n], .int 12] = some (il v, g3) := e3
  have crw := crs_pr' h2 ow
  have crv := crs_pr' h2 ov
  have c1 : m_crossings [.kd "plain" n, il w] = some (.int (crs .plain w)) := e_crossings z ow (by omega)
  have c2 : m_crossings [.kd "ring" n, il w] = some (.int (crs .ring w)) := e_crossings zr ow.pr (by omega)
  rw [crw] at c2
  have f1 : m_falls [.kd "plain" n, il w] = some (il (fls .plain w)) := e_falls z ow (by omega)
  have f2 : m_falls [.kd "ring" n, il w] = some (il (fls .ring w)) := e_falls zr ow.pr (by omega)
  rw [fls_pr h2 ow] at f2
  have o1 : m_opposite [.kd "plain" n, il w] = some (il (opp .plain w)) := e_opposite z ow (by omega)
  have o2 : m_opposite [.kd "ring" n, il w] = some (il (opp .ring w)) := e_opposite zr ow.pr (by omega)
  rw [opp_pr h2 ow] at o2
  have p1 : m_product [.kd "plain" n, il w, il v] = some (il (prd .plain w v)) := e_product z ow ov (by omega) (by omega)
  have p2 : m_product [.kd "ring" n, il w, il v] = some (il (prd .ring w v)) := e_product zr ow.pr ov.pr (by omega) (by omega)
  rw [prd_pr h2 ow ov] at p2
  have r1 : m_greedy [.kd "plain" n, il w, il v] = some (il (run .plain w (ler hd0 .plain v))) := e_greedy z ow ov (by omega) (by omega)
  have r2 : m_greedy [.kd "ring" n, il w, il v] = some (il (run .ring w (ler hd0 .ring v))) := e_greedy zr ow.pr ov.pr (by omega) (by omega)
  rw [greedy_pr h2 ow ov] at r2
  have b1 : m_is_beneath [.kd "plain" n, il w, il v] = some (.bl (decide (snk .plain w (ler hd0 .plain v) = stW .plain n))) := e_is_beneath z ow ov (by omega) (by omega)
  have b2 : m_is_beneath [.kd "ring" n, il w, il v] = some (.bl (decide (snk .ring w (ler hd0 .ring v) = stW .ring n))) := e_is_beneath zr ow.pr ov.pr (by omega) (by omega)
  rw [below_pr h2 ow ov, stW_pr] at b2
  have w1 : m_power [.kd "plain" n, il w, .int 4] = some (il (pwr .plain (ler hd0 .plain w) 4 (stW .plain n))) := e_power z ow (by omega) (m := 4) (by omega)
  have w2 : m_power [.kd "ring" n, il w, .int 4] = some (il (pwr .ring (ler hd0 .ring w) 4 (stW .ring n))) := e_power zr ow.pr (by omega) (m := 4) (by omega)
  rw [stW_pr, pw_pr h2 ow 4 Od.start] at w2
  generalize decide (snk .plain w (ler hd0 .plain v) = stW .plain n) = bb at *
  generalize pwr .plain (ler hd0 .plain w) 4 (stW .plain n) = P at *
  generalize run .plain w (ler hd0 .plain v) = R at *
  generalize prd .plain w v = PR at *
  generalize opp .plain w = OP at *
  generalize fls .plain w = FL at *
  generalize crs .plain w = CR at *
  have ek1 : oKind [.str "plain", .int n] = some (.kd "plain" n) := kd_ok (k := .plain) k1
  have ek2 : oKind [.str "ring", .int n] = some (.kd "ring" n) := kd_ok (k := .ring) k2
  have ok2 : ∀ {a b : D}, okLen [a, b] = true := okl2
  have s1 : mSet 1 (upE (m2 oAdd (cst (.int 2)) (mCG (nAG m__law_random 2) (vr 0) (aCons (cst (.int 4)) aNil)))) (rp g .un .un .un .un .un .un) = some (.nx, rp g1 (.dat (.int n)) .un .un .un .un .un) := by
    unfold rp; simp [e1, hn]
  have s2 : mPar3 2 3 4 (upE (mC oKind (aCons (cst (.str "plain")) (aCons (fz (vr 1)) aNil)))) (upE (mC oKind (aCons (cst (.str "ring")) (aCons (fz (vr 1)) aNil)))) (upE (mTup (aCons (cst (.str "plain")) (aCons (fz (vr 1)) aNil)))) (rp g1 (.dat (.int n)) .un .un .un .un .un) =
      some (.nx, rp g1 (.dat (.int n)) (.dat (.kd "plain" n)) (.dat (.kd "ring" n)) (.dat (.tup [.str "plain", .int n])) .un .un) := by
    unfold rp; simp [ek1, ek2, ok2]
  have s3 : mPar 5 6 (upE (mCG (nAG m__law_order 3) (vr 0) (aCons (fz (vr 4)) (aCons (cst (.int 12)) aNil)))) (upE (mCG (nAG m__law_order 3) (vr 0) (aCons (fz (vr 4)) (aCons (cst (.int 12)) aNil)))) (rp g1 (.dat (.int n)) (.dat (.kd "plain" n)) (.dat (.kd "ring" n)) (.dat (.tup [.str "plain", .int n])) .un .un) =
      some (.nx, rp g3 (.dat (.int n)) (.dat (.kd "plain" n)) (.dat (.kd "ring" n)) (.dat (.tup [.str "plain", .int n])) (.dat (il w)) (.dat (il v))) := by
    unfold rp; simp [e2, e3]
  refine ⟨g3, ?_⟩
  rw [m__law_plain_right_eq]
  refine fg_rt (ρ := (rp g3 (.dat (.int n)) (.dat (.kd "plain" n)) (.dat (.kd "ring" n)) (.dat (.tup [.str "plain", .int n])) (.dat (il w)) (.dat (il v))).tail) ?_
  show b__law_plain_right (rp g .un .un .un .un .un .un) = _
  unfold b__law_plain_right
  rw [seq_nx s1, seq_nx s2, seq_nx s3]
  have t1 : asB (m2 oNe (mC (nA m_crossings 2) (aCons (fz (vr 2)) (aCons (fz (vr 5)) aNil))) (mC (nA m_crossings 2) (aCons (fz (vr 3)) (aCons (fz (vr 5)) aNil)))) (rp g3 (.dat (.int n)) (.dat (.kd "plain" n)) (.dat (.kd "ring" n)) (.dat (.tup [.str "plain", .int n])) (.dat (il w)) (.dat (il v))) = some (false, rp g3 (.dat (.int n)) (.dat (.kd "plain" n)) (.dat (.kd "ring" n)) (.dat (.tup [.str "plain", .int n])) (.dat (il w)) (.dat (il v))) := by
    unfold rp; simp [c1, c2]
  have t2 : asB (m2 oNe (mC (nA m_falls 2) (aCons (fz (vr 2)) (aCons (fz (vr 5)) aNil))) (mC (nA m_falls 2) (aCons (fz (vr 3)) (aCons (fz (vr 5)) aNil)))) (rp g3 (.dat (.int n)) (.dat (.kd "plain" n)) (.dat (.kd "ring" n)) (.dat (.tup [.str "plain", .int n])) (.dat (il w)) (.dat (il v))) = some (false, rp g3 (.dat (.int n)) (.dat (.kd "plain" n)) (.dat (.kd "ring" n)) (.dat (.tup [.str "plain", .int n])) (.dat (il w)) (.dat (il v))) := by
    unfold rp; simp [f1, f2, oNe_il]
  have t3 : asB (m2 oNe (mC (nA m_opposite 2) (aCons (fz (vr 2)) (aCons (fz (vr 5)) aNil))) (mC (nA m_opposite 2) (aCons (fz (vr 3)) (aCons (fz (vr 5)) aNil)))) (rp g3 (.dat (.int n)) (.dat (.kd "plain" n)) (.dat (.kd "ring" n)) (.dat (.tup [.str "plain", .int n])) (.dat (il w)) (.dat (il v))) = some (false, rp g3 (.dat (.int n)) (.dat (.kd "plain" n)) (.dat (.kd "ring" n)) (.dat (.tup [.str "plain", .int n])) (.dat (il w)) (.dat (il v))) := by
    unfold rp; simp [o1, o2, oNe_il]
  have t4 : asB (m2 oNe (mC (nA m_product 3) (aCons (fz (vr 2)) (aCons (fz (vr 5)) (aCons (fz (vr 6)) aNil)))) (mC (nA m_product 3) (aCons (fz (vr 3)) (aCons (fz (vr 5)) (aCons (fz (vr 6)) aNil))))) (rp g3 (.dat (.int n)) (.dat (.kd "plain" n)) (.dat (.kd "ring" n)) (.dat (.tup [.str "plain", .int n])) (.dat (il w)) (.dat (il v))) = some (false, rp g3 (.dat (.int n)) (.dat (.kd "plain" n)) (.dat (.kd "ring" n)) (.dat (.tup [.str "plain", .int n])) (.dat (il w)) (.dat (il v))) := by
    unfold rp; simp [p1, p2, oNe_il]
  have t5 : asB (m2 oNe (mC (nA m_greedy 3) (aCons (fz (vr 2)) (aCons (fz (vr 5)) (aCons (fz (vr 6)) aNil)))) (mC (nA m_greedy 3) (aCons (fz (vr 3)) (aCons (fz (vr 5)) (aCons (fz (vr 6)) aNil))))) (rp g3 (.dat (.int n)) (.dat (.kd "plain" n)) (.dat (.kd "ring" n)) (.dat (.tup [.str "plain", .int n])) (.dat (il w)) (.dat (il v))) = some (false, rp g3 (.dat (.int n)) (.dat (.kd "plain" n)) (.dat (.kd "ring" n)) (.dat (.tup [.str "plain", .int n])) (.dat (il w)) (.dat (il v))) := by
    unfold rp; simp [r1, r2, oNe_il]
  have t6 : asB (m2 oNe (mC (nA m_is_beneath 3) (aCons (fz (vr 2)) (aCons (fz (vr 5)) (aCons (fz (vr 6)) aNil)))) (mC (nA m_is_beneath 3) (aCons (fz (vr 3)) (aCons (fz (vr 5)) (aCons (fz (vr 6)) aNil))))) (rp g3 (.dat (.int n)) (.dat (.kd "plain" n)) (.dat (.kd "ring" n)) (.dat (.tup [.str "plain", .int n])) (.dat (il w)) (.dat (il v))) = some (false, rp g3 (.dat (.int n)) (.dat (.kd "plain" n)) (.dat (.kd "ring" n)) (.dat (.tup [.str "plain", .int n])) (.dat (il w)) (.dat (il v))) := by
    unfold rp; simp [b1, b2]
  rw [seq_nx (if_no (or_no t1 (or_no t2 t3))), seq_nx (if_no (or_no t4 t5)), seq_nx (if_no t6)]
  unfold rp
  simp [w1, w2, oEq_il]
/-! ### what can be folded -/
theorem its_fld (hl : U.length = 2 * n) (ha : asy n U = []) : ((fld n U).reverse.map fun x => -x) ++ fld n U = U.map (rf n) := by
  have lf : (fld n U).length = n := by unfold fld; rw [List.length_map, List.length_drop]; omega
  have ga : ∀ i : Nat, i < n → gt U (n - 1 - i : Nat) + gt U (n + i : Nat) = 2 * (n : Int) - 1 := fun i hi => by
    unfold asy at ha
    rw [List.filter_eq_nil_iff] at ha
    have := ha ((n - 1 - i : Nat) : Int) (mem_ups.mpr ⟨by omega, by omega⟩)
    rw [gp U (a := 2 * (n : Int) - 1 - ((n - 1 - i : Nat) : Int)) (i := n + i) (by omega)] at this
    simpa using this
  have gf : ∀ i : Nat, i < n → gt (fld n U) i = rf n (gt U (n + i : Nat)) := fun i hi => by
    unfold fld
    rw [gt_map (by rw [List.length_drop]; omega)]
    refine congrArg (rf n) ?_
    rw [gt_nat, gt_nat, List.getD_eq_getElem?_getD, List.getD_eq_getElem?_getD, List.getElem?_drop]
  refine ext_gt (by simp only [List.length_append, List.length_map, List.length_reverse]; omega) fun m hm => ?_
  rw [List.length_append, List.length_map, List.length_reverse, lf] at hm
  rw [gt_map (by omega)]
  rcases two_ways (n := n) (m := m) (by omega) with ⟨i, hi, rfl⟩ | ⟨i, hi, rfl⟩
  · have := gt_app_r (u := (fld n U).reverse.map fun x => -x) (v := fld n U) (i := i)
    rw [List.length_map, List.length_reverse, lf] at this
    rw [this, gf i hi]
  · rw [gt_app_l (by rw [List.length_map, List.length_reverse]; omega), gt_map (by rw [List.length_reverse]; omega)]
    have := gt_rev (w := fld n U) (i := i) (by omega)
    rw [lf] at this
    rw [this, gf i hi]
    have := ga i hi
    generalize gt U ((n + i : Nat) : Int) = r at *
    rw [show gt U ((n - 1 - i : Nat) : Int) = 2 * (n : Int) - 1 - r by omega]
    unfold rf
    split <;> split <;> omega
def lz (S : D) (a1 : Sl) (g : D) (a3 a4 a5 a6 a7 : Sl) : Rho := [.dat S, a1, .own g, a3, a4, a5, a6, a7]
def fdB : MS := (mSeq (mSet 4 (upE (m2 oAdd (cst (.int 2)) (mCG (nAG m__law_random 2) (vr 2) (aCons (cst (.int 2)) aNil)))))
    (mSeq (mSet 5 (upE (mCG (nAG m__law_order 3) (vr 2) (aCons (mTup (aCons (cst (.str "plain")) (aCons (m2 oMul (cst (.int 2)) (fz (vr 4))) aNil))) (aCons (cst (.int 12)) aNil)))))
    (mSeq (mSet 6 (mCq (nA m_folded 2) (aCons (fz (vr 5)) (aCons (fz (vr 4)) aNil))))
    (mSeq (mIf (asB (m2 oNe (m2 oIsN (fz (vr 6)) (cst .non)) (m2 oNe (fz (mCmp (iRg1 (aCons (fz (vr 4)) aNil)) (gNm 7) (asB (m2 oNe (m2 oAdd (mIx oIx (vr 5) (fz (vr 7))) (mIx oIx (vr 5) (m2 oSub (m2 oSub (m2 oMul (cst (.int 2)) (fz (vr 4))) (cst (.int 1))) (fz (vr 7))))) (m2 oSub (m2 oMul (cst (.int 2)) (fz (vr 4))) (cst (.int 1))))) (fz (vr 7)) [7])) (fz (mLst aNil))))) (mRet (upE (cst (.bl false)))) mNil)
    (mIf (mAnd (asB (m2 oNotN (fz (vr 6)) (cst .non))) (asB (m2 oNe (mC (nA m__law_unfolded 1) (aCons (fz (vr 6)) aNil)) (fz (vr 5))))) (mRet (upE (cst (.bl false)))) mNil)))))
theorem fd_turn (hg : GOK B g) (hB : B ≤ 60000) (f4 : M.free a4 = true) (f5 : M.free a5 = true) (f6 : M.free a6 = true) :
    ∃ (g' : D) (b4 b5 b6 : Sl), M.free b4 = true ∧ M.free b5 = true ∧ M.free b6 = true ∧ GOK (B + 71) g' ∧ fdB (lz S a1 g a3 a4 a5 a6 .un) = some (.nx, lz S a1 g' a3 b4 b5 b6 .un) := by
  obtain ⟨y, g1, e1, y0, y1, hg1⟩ := e__law_random (x := 2) hg (by omega) (by omega) (by omega)
  obtain ⟨n, hn⟩ : ∃ n : Nat, (2 : Int) + y = n := ⟨(2 + y).toNat, by omega⟩
  have h2 : 2 ≤ n := by omega
  have h3 : n ≤ 3 := by omega
  obtain ⟨kz0, z2, k1, k2⟩ := kd_mp (n := n) (by omega) h3
  have kz : Kz .plain (2 * n) := ⟨z2, by show ((2 * n : Nat) : Int) - 1 ≤ 6; omega⟩
  have en : ((2 * n : Nat) : Int) = 2 * (n : Int) := by omega
  obtain ⟨U, g2, e2, oU, cU, hg2⟩ := e__law_order kz (by decide) (most := 12) (by omega) hg1 (by omega)
  have e2 : m__law_order g1 [.tup [.str "plain", .int ((2 * n : Nat) : Int)], .int 12] = some (il U, g2) := e2
  rw [en] at e2
  have lU := oU.len z2.g
  have fo := e_folded z2 (by omega) h3 k2 oU (by omega)
  have em : oMul (.int 2) (.int n) = some (.int (2 * (n : Int))) := mul_med (by omega) (by omega) (by omega) (by omega)
  have ok2 : ∀ {a b : D}, okLen [a, b] = true := okl2
  have s1 : mSet 4 (upE (m2 oAdd (cst (.int 2)) (mCG (nAG m__law_random 2) (vr 2) (aCons (cst (.int 2)) aNil)))) (lz S a1 g a3 a4 a5 a6 .un) = some (.nx, lz S a1 g1 a3 (.dat (.int n)) a5 a6 .un) := by
    unfold lz; simp [e1, hn, f4]
  have s2 : mSet 5 (upE (mCG (nAG m__law_order 3) (vr 2) (aCons (mTup (aCons (cst (.str "plain")) (aCons (m2 oMul (cst (.int 2)) (fz (vr 4))) aNil))) (aCons (cst (.int 12)) aNil)))) (lz S a1 g1 a3 (.dat (.int n)) a5 a6 .un) = some (.nx, lz S a1 g2 a3 (.dat (.int n)) (.dat (il U)) a6 .un) := by
    unfold lz; simp [em, ok2, e2, f5]
  have cc : ∀ a6 : Sl, mCmp (iRg1 (aCons (fz (vr 4)) aNil)) (gNm 7) (asB (m2 oNe (m2 oAdd (mIx oIx (vr 5) (fz (vr 7))) (mIx oIx (vr 5) (m2 oSub (m2 oSub (m2 oMul (cst (.int 2)) (fz (vr 4))) (cst (.int 1))) (fz (vr 7))))) (m2 oSub (m2 oMul (cst (.int 2)) (fz (vr 4))) (cst (.int 1))))) (fz (vr 7)) [7] (lz S a1 g2 a3 (.dat (.int n)) (.dat (il U)) a6 .un) =
      some (.new (il (asy n U)), lz S a1 g2 a3 (.dat (.int n)) (.dat (il U)) a6 .un) := fun a6 => by
    rw [cmp_if (keep := keepI fun a => !decide (gt U a + gt U (2 * (n : Int) - 1 - a) = 2 * (n : Int) - 1)) (h := id) (ds := (ups n).map D.int) (ρ1 := lz S a1 g2 a3 (.dat (.int n)) (.dat (il U)) a6 .un) (ρ := lz S a1 g2 a3 (.dat (.int n)) (.dat (il U)) a6 .un) (rg1_len (by unfold lz; simp) (by omega)) rfl (fun d m => ?_) (by rw [List.length_map, len_ups]; omega)]
    · rw [filter_int _ (fun a => !decide (gt U a + gt U (2 * (n : Int) - 1 - a) = 2 * (n : Int) - 1)) _ (fun _ => rfl), List.map_id]; rfl
    · obtain ⟨a, ha, rfl⟩ := List.mem_map.mp m
      rw [mem_ups] at ha
      have i1 := at_il (w := U) (i := a) (by omega) (by omega)
      have i2 := at_il (w := U) (i := 2 * (n : Int) - 1 - a) (by omega) (by omega)
      exact ⟨lz S a1 g2 a3 (.dat (.int n)) (.dat (il U)) a6 (.dat (.int a)), lz S a1 g2 a3 (.dat (.int n)) (.dat (il U)) a6 (.dat (.int a)), by unfold lz; simp, by unfold lz; simp [em, i1, i2, keepI], fun _ => ⟨lz S a1 g2 a3 (.dat (.int n)) (.dat (il U)) a6 (.dat (.int a)), by unfold lz; simp, rfl⟩, fun _ => rfl⟩
  generalize hmm : mCmp (iRg1 (aCons (fz (vr 4)) aNil)) (gNm 7) (asB (m2 oNe (m2 oAdd (mIx oIx (vr 5) (fz (vr 7))) (mIx oIx (vr 5) (m2 oSub (m2 oSub (m2 oMul (cst (.int 2)) (fz (vr 4))) (cst (.int 1))) (fz (vr 7))))) (m2 oSub (m2 oMul (cst (.int 2)) (fz (vr 4))) (cst (.int 1))))) (fz (vr 7)) [7] = mm at *
  by_cases hq : asy n U = []
  · rw [if_pos hq] at fo
    rw [hq] at cc
    have eu := e__law_unfolded (w := fld n U) (n := n) (U := U) (by omega) (by omega) (by unfold fld; rw [List.length_map, List.length_drop]; omega) (perm_pl z2.g oU) (its_fld lU hq)
    generalize fld n U = W at *
    have s3 : mSet 6 (mCq (nA m_folded 2) (aCons (fz (vr 5)) (aCons (fz (vr 4)) aNil))) (lz S a1 g2 a3 (.dat (.int n)) (.dat (il U)) a6 .un) = some (.nx, lz S a1 g2 a3 (.dat (.int n)) (.dat (il U)) (.own (il W)) .un) := by
      unfold lz; simp [fo, f6]
    have s4 : mIf (asB (m2 oNe (m2 oIsN (fz (vr 6)) (cst .non)) (m2 oNe (fz mm) (fz (mLst aNil))))) (mRet (upE (cst (.bl false)))) mNil (lz S a1 g2 a3 (.dat (.int n)) (.dat (il U)) (.own (il W)) .un) = some (.nx, lz S a1 g2 a3 (.dat (.int n)) (.dat (il U)) (.dat (il W)) .un) := by
      refine if_no2 ?_
      have q1 : m2 oIsN (fz (vr 6)) (cst .non) (lz S a1 g2 a3 (.dat (.int n)) (.dat (il U)) (.own (il W)) .un) = some (.bl false, lz S a1 g2 a3 (.dat (.int n)) (.dat (il U)) (.dat (il W)) .un) := by unfold lz; simp
      have q2 : m2 oNe (fz mm) (fz (mLst aNil)) (lz S a1 g2 a3 (.dat (.int n)) (.dat (il U)) (.dat (il W)) .un) = some (.bl false, lz S a1 g2 a3 (.dat (.int n)) (.dat (il U)) (.dat (il W)) .un) := by
        have := cc (.dat (il W))
        simp [this, okl0, oNe_nil]
      rw [ev_asB, ev_m2, q1, Option.bind_some, q2]
      simp
    have s5 : mIf (mAnd (asB (m2 oNotN (fz (vr 6)) (cst .non))) (asB (m2 oNe (mC (nA m__law_unfolded 1) (aCons (fz (vr 6)) aNil)) (fz (vr 5))))) (mRet (upE (cst (.bl false)))) mNil (lz S a1 g2 a3 (.dat (.int n)) (.dat (il U)) (.dat (il W)) .un) = some (.nx, lz S a1 g2 a3 (.dat (.int n)) (.dat (il U)) (.dat (il W)) .un) := by
      unfold lz; simp [eu, oNe_il]
    refine ⟨g2, .dat (.int n), .dat (il U), .dat (il W), rfl, rfl, rfl, hg2.mono (by omega), ?_⟩
    unfold fdB
    rw [seq_nx s1, seq_nx s2, seq_nx s3, hmm, seq_nx s4]
    exact s5
  · rw [if_neg hq] at fo
    have s3 : mSet 6 (mCq (nA m_folded 2) (aCons (fz (vr 5)) (aCons (fz (vr 4)) aNil))) (lz S a1 g2 a3 (.dat (.int n)) (.dat (il U)) a6 .un) = some (.nx, lz S a1 g2 a3 (.dat (.int n)) (.dat (il U)) (.dat .non) .un) := by
      unfold lz; simp [fo, f6]
    have s4 : mIf (asB (m2 oNe (m2 oIsN (fz (vr 6)) (cst .non)) (m2 oNe (fz mm) (fz (mLst aNil))))) (mRet (upE (cst (.bl false)))) mNil (lz S a1 g2 a3 (.dat (.int n)) (.dat (il U)) (.dat .non) .un) = some (.nx, lz S a1 g2 a3 (.dat (.int n)) (.dat (il U)) (.dat .non) .un) := by
      refine if_no2 ?_
      have q1 : m2 oIsN (fz (vr 6)) (cst .non) (lz S a1 g2 a3 (.dat (.int n)) (.dat (il U)) (.dat .non) .un) = some (.bl true, lz S a1 g2 a3 (.dat (.int n)) (.dat (il U)) (.dat .non) .un) := by unfold lz; simp
      have q2 : m2 oNe (fz mm) (fz (mLst aNil)) (lz S a1 g2 a3 (.dat (.int n)) (.dat (il U)) (.dat .non) .un) = some (.bl true, lz S a1 g2 a3 (.dat (.int n)) (.dat (il U)) (.dat .non) .un) := by
        have := cc (.dat .non)
        simp [this, okl0, oNe_nil, hq]
      rw [ev_asB, ev_m2, q1, Option.bind_some, q2]
      simp
    have s5 : mIf (mAnd (asB (m2 oNotN (fz (vr 6)) (cst .non))) (asB (m2 oNe (mC (nA m__law_unfolded 1) (aCons (fz (vr 6)) aNil)) (fz (vr 5))))) (mRet (upE (cst (.bl false)))) mNil (lz S a1 g2 a3 (.dat (.int n)) (.dat (il U)) (.dat .non) .un) = some (.nx, lz S a1 g2 a3 (.dat (.int n)) (.dat (il U)) (.dat .non) .un) := by
      unfold lz; simp
    refine ⟨g2, .dat (.int n), .dat (il U), .dat .non, rfl, rfl, rfl, hg2.mono (by omega), ?_⟩
    unfold fdB
    rw [seq_nx s1, seq_nx s2, seq_nx s3, hmm, seq_nx s4]
    exact s5
end
end
end M
/-! Y7: the law holds. -/
namespace M
open PySem PySem.Spec PyProof.Rows L2
noncomputable section
section
variable {n : Nat} {S : D} {a1 a3 a4 a5 a6 : Sl}
def lx (S : D) (a1 a2 a3 a4 a5 a6 a7 : Sl) : Rho := [.dat S, a1, a2, a3, a4, a5, a6, a7]
def mpB : MS := (mIf (mOr (mNot (asB (mCG (nAG m__law_mirror_right 1) (mCn (nA m__law_generator 2) (aCons (fz (vr 0)) (aCons (fz (vr 1)) aNil))) aNil))) (mNot (asB (mCG (nAG m__law_plain_right 1) (mCn (nA m__law_generator 2) (aCons (fz (vr 0)) (aCons (m2 oAdd (fz (vr 1)) (cst (.int 3))) aNil))) aNil)))) (mRet (upE (cst (.bl false)))) mNil)
theorem lw_first (w : List Int) : ∃ b1, mFor (iRg1 (aCons (cst (.int 3)) aNil)) (gNm 1) mpB (lx (il w) .un .un .un .un .un .un .un) = some (.nx, lx (il w) b1 .un .un .un .un .un .un) := by
  obtain ⟨ρ', e, b1, f1, e2⟩ := for_ind (s := gNm 1) (b := mpB) (ds := rgD 0 3)
    (fun i ρ => ∃ b1, M.free b1 = true ∧ ρ = lx (il w) b1 .un .un .un .un .un .un)
    (fun i d ρ hd ⟨b1, f1, e⟩ => by
      obtain ⟨hi, rfl⟩ := rgD_get hd
      subst e
      rw [Int.zero_add]
      obtain ⟨g1, e1, h1⟩ := e__law_generator w (i := (i : Int)) (by omega) (by omega)
      obtain ⟨g2, e2, h2⟩ := e__law_generator w (i := (i : Int) + 3) (by omega) (by omega)
      obtain ⟨g3, e3⟩ := e__law_mirror_right h1 (by omega)
      obtain ⟨g4, e4⟩ := e__law_plain_right h2 (by omega)
      refine ⟨lx (il w) (.dat (.int i)) .un .un .un .un .un .un, lx (il w) (.dat (.int i)) .un .un .un .un .un .un, by unfold lx; simp [f1], ?_, _, rfl, rfl⟩
      unfold mpB
      refine if_no (or_no ?_ ?_)
      · unfold lx; simp [e1, e3]
      · unfold lx; simp [e2, e4])
    (ρ := lx (il w) .un .un .un .un .un .un .un) ⟨_, rfl, rfl⟩
  refine ⟨b1, ?_⟩
  have c1 : aCons (cst (.int 3)) aNil (lx (il w) .un .un .un .un .un .un .un) = some ([.int 3], lx (il w) .un .un .un .un .un .un .un) := rfl
  rw [ev_mFor, rg1_ok c1 (small_ok (by omega) (by omega)), Option.bind_some]
  rw [e2] at e
  exact e
theorem lw_second {g : D} (hg : GOK 10000 g) : ∃ (g' : D) (b3 b4 b5 b6 : Sl), mFor (iRg1 (aCons (cst (.int 4)) aNil)) (gNm 3) fdB (lz S a1 g .un .un .un .un .un) = some (.nx, lz S a1 g' b3 b4 b5 b6 .un) := by
  obtain ⟨ρ', e, g', b3, b4, b5, b6, f3, f4, f5, f6, hg', e2⟩ := for_ind (s := gNm 3) (b := fdB) (ds := rgD 0 4)
    (fun i ρ => ∃ (g' : D) (b3 b4 b5 b6 : Sl), M.free b3 = true ∧ M.free b4 = true ∧ M.free b5 = true ∧ M.free b6 = true ∧ GOK (10000 + 71 * i) g' ∧ ρ = lz S a1 g' b3 b4 b5 b6 .un)
    (fun i d ρ hd ⟨g', b3, b4, b5, b6, f3, f4, f5, f6, hg', e⟩ => by
      obtain ⟨hi, rfl⟩ := rgD_get hd
      subst e
      obtain ⟨g2, c4, c5, c6, f4, f5, f6, hg2, e2⟩ := fd_turn hg' (by omega) f4 f5 f6 (S := S) (a1 := a1) (a3 := .dat (.int (0 + (i : Nat))))
      exact ⟨lz S a1 g' (.dat (.int (0 + (i : Nat)))) b4 b5 b6 .un, _, by unfold lz; simp [f3], e2, g2, _, _, _, _, rfl, f4, f5, f6, by rw [show (10000 : Int) + 71 * ((i + 1 : Nat) : Int) = 10000 + 71 * i + 71 by omega]; exact hg2, rfl⟩)
    (ρ := lz S a1 g .un .un .un .un .un) ⟨g, _, _, _, _, rfl, rfl, rfl, rfl, by simpa using hg, rfl⟩
  refine ⟨g', b3, b4, b5, b6, ?_⟩
  have c1 : aCons (cst (.int 4)) aNil (lz S a1 g .un .un .un .un .un) = some ([.int 4], lz S a1 g .un .un .un .un .un) := rfl
  rw [ev_mFor, rg1_ok c1 (small_ok (by omega) (by omega)), Option.bind_some]
  rw [e2] at e
  exact e
theorem lst_ev (ρ : Rho) : ∀ (l : List Int) {fr : MA}, fr ρ = some (l.map D.int, ρ) → l.length ≤ 1000 → fz (mLst fr) ρ = some (il l, ρ) := fun l {fr} h hl => by
  rw [ev_fz, ev_mLst, h, Option.bind_some, if_pos (okl_le (by rw [List.length_map]; exact hl))]
  rfl
theorem law_holds (w : List Int) : m_law [il w] = some (.bl true) := by
  obtain ⟨b1, s1⟩ := lw_first w
  obtain ⟨g0, e0, hg0⟩ := e__law_generator w (i := 6) (by omega) (by omega)
  obtain ⟨g', b3, b4, b5, b6, s3⟩ := lw_second (S := il w) (a1 := b1) hg0
  have s2 : mSet 2 (mCn (nA m__law_generator 2) (aCons (fz (vr 0)) (aCons (cst (.int 6)) aNil))) (lx (il w) b1 .un .un .un .un .un .un) = some (.nx, lz (il w) b1 g0 .un .un .un .un .un) := by
    unfold lx lz; simp [e0]
  have fo1 : m_folded [.lst [.int 0, .int 1, .int 2, .int 4, .int 3, .int 5], .int 3] = some .non := fo_1
  have fo2 : m_folded [.lst [.int 5, .int 4, .int 2, .int 3, .int 1, .int 0], .int 3] = some (il [1, -2, -3]) := fo_2
  have fo3 : m_folded [.lst [.int 2, .int 0, .int 3, .int 1], .int 2] = some (il [2, -1]) := fo_3
  have fo4 : m_folded [.lst [.int 1, .int 0, .int 2, .int 3], .int 2] = some .non := fo_4
  have un1 : m_unfolded [.lst [.int (-2), .int 1], .int 2] = some (il [1, 3, 0, 2]) := un_1
  have un2 : m_unfolded [.lst [.int (-1)], .int 1] = some (il [1, 0]) := un_2
  have un3 : m_unfolded [.lst [.int 1, .int 2, .int 3], .int 3] = some (il [0, 1, 2, 3, 4, 5]) := un_3
  generalize hρ : lz (il w) b1 g' b3 b4 b5 b6 .un = ρ at *
  have ok : ∀ ds : List D, ds.length ≤ 10 → okLen ds = true := fun ds h => okl_le (by omega)
  have n2 : oNe (.lst [.int 1, .int (-2), .int (-3)]) (.lst [.int 1, .int (-2), .int (-3)]) = some (.bl false) := (oNe_il [1, -2, -3] [1, -2, -3]).trans (by simp)
  have n3 : oNe (.lst [.int 2, .int (-1)]) (.lst [.int 2, .int (-1)]) = some (.bl false) := (oNe_il [2, -1] [2, -1]).trans (by simp)
  have n4 : oNe (il [1, 3, 0, 2]) (.lst [.int 1, .int 3, .int 0, .int 2]) = some (.bl false) := (oNe_il [1, 3, 0, 2] [1, 3, 0, 2]).trans (by simp)
  have n5 : oEq (il [1, 0]) (.lst [.int 1, .int 0]) = some (.bl true) := (oEq_il [1, 0] [1, 0]).trans (by simp)
  have n6 : oEq (il [0, 1, 2, 3, 4, 5]) (.lst [.int 0, .int 1, .int 2, .int 3, .int 4, .int 5]) = some (.bl true) := (oEq_il [0, 1, 2, 3, 4, 5] [0, 1, 2, 3, 4, 5]).trans (by simp)
  rw [m_law_eq]
  refine fn_rt (ρ' := ρ) ?_
  show b_law (lx (il w) .un .un .un .un .un .un .un) = _
  unfold b_law
  show mSeq (mFor (iRg1 (aCons (cst (.int 3)) aNil)) (gNm 1) mpB) _ _ = _
  rw [seq_nx s1, seq_nx s2]
  show mSeq (mFor (iRg1 (aCons (cst (.int 4)) aNil)) (gNm 3) fdB) _ _ = _
  rw [seq_nx s3]
  have o2 : ∀ {a b : D}, okLen [a, b] = true := fun {a b} => ok _ (by simp)
  have o3 : ∀ {a b c : D}, okLen [a, b, c] = true := fun {a b c} => ok _ (by simp)
  have o4 : ∀ {a b c d : D}, okLen [a, b, c, d] = true := fun {a b c d} => ok _ (by simp)
  have o6 : ∀ {a b c d e f : D}, okLen [a, b, c, d, e, f] = true := fun {a b c d e f} => ok _ (by simp)
  have t1 : asB (m2 oNotN (fz (mCq (nA m_folded 2) (aCons (fz (mLst (aCons (cst (.int 0)) (aCons (cst (.int 1)) (aCons (cst (.int 2)) (aCons (cst (.int 4)) (aCons (cst (.int 3)) (aCons (cst (.int 5)) aNil)))))))) (aCons (cst (.int 3)) aNil)))) (cst .non)) ρ = some (false, ρ) := by
    simp [o6, fo1]
  have t2 : asB (m2 oNe (fz (mCq (nA m_folded 2) (aCons (fz (mLst (aCons (cst (.int 5)) (aCons (cst (.int 4)) (aCons (cst (.int 2)) (aCons (cst (.int 3)) (aCons (cst (.int 1)) (aCons (cst (.int 0)) aNil)))))))) (aCons (cst (.int 3)) aNil)))) (fz (mLst (aCons (cst (.int 1)) (aCons (m1 (o1I fun i => -i) (upE (cst (.int 2)))) (aCons (m1 (o1I fun i => -i) (upE (cst (.int 3)))) aNil)))))) ρ = some (false, ρ) := by
    simp [o6, o3, fo2, n2]
  have t3 : mNot (asB (mC (nA m__law_all_folded 1) (aCons (cst (.int 1)) aNil))) ρ = some (false, ρ) := by simp [af_1]
  have t4 : mNot (asB (mC (nA m__law_all_folded 1) (aCons (cst (.int 2)) aNil))) ρ = some (false, ρ) := by simp [af_2]
  have t5 : asB (m2 oNe (fz (mCn (nA m_unfolded 2) (aCons (fz (mLst (aCons (m1 (o1I fun i => -i) (upE (cst (.int 2)))) (aCons (cst (.int 1)) aNil)))) (aCons (cst (.int 2)) aNil)))) (fz (mLst (aCons (cst (.int 1)) (aCons (cst (.int 3)) (aCons (cst (.int 0)) (aCons (cst (.int 2)) aNil))))))) ρ = some (false, ρ) := by
    simp [o2, o4, un1, n4]
  have t6 : asB (m2 oNe (fz (mCq (nA m_folded 2) (aCons (fz (mLst (aCons (cst (.int 2)) (aCons (cst (.int 0)) (aCons (cst (.int 3)) (aCons (cst (.int 1)) aNil)))))) (aCons (cst (.int 2)) aNil)))) (fz (mLst (aCons (cst (.int 2)) (aCons (m1 (o1I fun i => -i) (upE (cst (.int 1)))) aNil))))) ρ = some (false, ρ) := by
    simp [o2, o4, fo3, n3]
  have t7 : asB (m2 oNotN (fz (mCq (nA m_folded 2) (aCons (fz (mLst (aCons (cst (.int 1)) (aCons (cst (.int 0)) (aCons (cst (.int 2)) (aCons (cst (.int 3)) aNil)))))) (aCons (cst (.int 2)) aNil)))) (cst .non)) ρ = some (false, ρ) := by
    simp [o4, fo4]
  rw [seq_nx (if_no (or_no t1 t2)), seq_nx (if_no (or_no t3 t4)), seq_nx (if_no (or_no t5 (or_no t6 t7)))]
  simp [o2, o3, o6, un2, un3, n5, n6]
theorem law_true : ∀ ns : List Int, ns.length ≤ 63 → (∀ z ∈ ns, Builtin.Int.intBits z ≤ 1048576) → m_law [.lst (ns.map D.int)] = some (.bl true) := fun ns _ _ => law_holds ns
end
end
end M
open PySem PySem.W PyProof.Rows
set_option maxRecDepth 100000 in
set_option maxHeartbeats 0 in
theorem PySem.Challenge.cw_looseseams_k94_whole_kinds_in_one_anothe_holds : PySem.Challenge.rw_looseseams_k94_whole_kinds_in_one_anothe.Holds := by
  w_on; o_law; k_head; (case hw => w_witness2)
  k_fill
  refine M.walkA (l := PySem.Challenge.rw_looseseams_k94_whole_kinds_in_one_anothe) (k := 10) (x := "script") (m := M.m_law) rfl (by decide) rfl ⟨rfl, by decide, by decide⟩ (fun w h Y => PySem.W.kIn_of Y) ?F M.law_true
  case F =>
    intro w mg fa h KX G hmg
    refine' M.all_of KX G hmg ?a_law ?l_law ?c_law ?k_law ?d_is_whole ?d_is_between ?d_check_number ?d_check_kind ?d_is_crossed ?d_by_step ?d_item_at ?d_product_of ?d_opposite_of ?d_falls_of ?d_crossings_between ?d_crossings_of ?d_is_order_list ?d_is_let_order ?d_check_order ?d_unfolded ?d_folded ?d_least_row_of ?d_check_two_orders ?d_lesser ?d_check_orders ?d_falls ?d_is_below ?d_is_beneath ?d_check_one ?d_check_two ?d_gain ?d_gained_all ?d_greedy_of ?d_greedy ?d_power ?d_crossings ?d_opposite ?d_product ?d_multiplied ?d_numbers_to ?d_how_many_orders ?d_orders_with ?d__law_hash ?d__law_random ?d__law_cell ?d__law_generator ?d__law_start ?d__law_steps ?d__law_two ?d__law_crossed ?d__law_stepped ?d__law_gains ?d__law_row ?d__law_order ?d__law_unfolded ?d__law_mirror_right ?d__law_all_folded ?d__law_plain_right ?d_Kind___init__ ?d_Kind_name ?d_Kind_size ?d_Kind_steps ?d_Kind_start ?a_Kind ?pg ?hd ?po ?sa ?n1 ?n2 ?q1 ?q2 ?q3 ?q4 ?mk ?kc ?a_B ?bnd ?z_abs ?z_bool ?z_enumerate ?z_int ?z_isinstance ?z_len ?z_list ?z_max ?z_range ?z_reversed ?z_sorted ?z_str ?z_sum ?z_tuple ?c_MOST_CROSSINGS ?c_MOST_SIZE ?c_MOST_COUNT ?c_MOST_ASKED ?c_MOST_LISTED
    (case a_Kind => k_is); (case a_law => k_is); (case l_law => k_is); (case c_law => k_is); (case k_law => k_is)
    (case d_is_whole => (refine' M.DefAt.mk ?a ?l ?c ?k; (case a => k_is); (case l => k_is); (case c => k_is); (case k => k_is)))
    (case d_is_between => (refine' M.DefAt.mk ?a ?l ?c ?k; (case a => k_is); (case l => k_is); (case c => k_is); (case k => k_is)))
    (case d_check_number => (refine' M.DefAt.mk ?a ?l ?c ?k; (case a => k_is); (case l => k_is); (case c => k_is); (case k => k_is)))
    (case d_check_kind => (refine' M.DefAt.mk ?a ?l ?c ?k; (case a => k_is); (case l => k_is); (case c => k_is); (case k => k_is)))
    (case d_is_crossed => (refine' M.DefAt.mk ?a ?l ?c ?k; (case a => k_is); (case l => k_is); (case c => k_is); (case k => k_is)))
    (case d_by_step => (refine' M.DefAt.mk ?a ?l ?c ?k; (case a => k_is); (case l => k_is); (case c => k_is); (case k => k_is)))
    (case d_item_at => (refine' M.DefAt.mk ?a ?l ?c ?k; (case a => k_is); (case l => k_is); (case c => k_is); (case k => k_is)))
    (case d_product_of => (refine' M.DefAt.mk ?a ?l ?c ?k; (case a => k_is); (case l => k_is); (case c => k_is); (case k => k_is)))
    (case d_opposite_of => (refine' M.DefAt.mk ?a ?l ?c ?k; (case a => k_is); (case l => k_is); (case c => k_is); (case k => k_is)))
    (case d_falls_of => (refine' M.DefAt.mk ?a ?l ?c ?k; (case a => k_is); (case l => k_is); (case c => k_is); (case k => k_is)))
    (case d_crossings_between => (refine' M.DefAt.mk ?a ?l ?c ?k; (case a => k_is); (case l => k_is); (case c => k_is); (case k => k_is)))
    (case d_crossings_of => (refine' M.DefAt.mk ?a ?l ?c ?k; (case a => k_is); (case l => k_is); (case c => k_is); (case k => k_is)))
    (case d_is_order_list => (refine' M.DefAt.mk ?a ?l ?c ?k; (case a => k_is); (case l => k_is); (case c => k_is); (case k => k_is)))
    (case d_is_let_order => (refine' M.DefAt.mk ?a ?l ?c ?k; (case a => k_is); (case l => k_is); (case c => k_is); (case k => k_is)))
    (case d_check_order => (refine' M.DefAt.mk ?a ?l ?c ?k; (case a => k_is); (case l => k_is); (case c => k_is); (case k => k_is)))
    (case d_unfolded => (refine' M.DefAt.mk ?a ?l ?c ?k; (case a => k_is); (case l => k_is); (case c => k_is); (case k => k_is)))
    (case d_folded => (refine' M.DefAt.mk ?a ?l ?c ?k; (case a => k_is); (case l => k_is); (case c => k_is); (case k => k_is)))
    (case d_least_row_of => (refine' M.DefAt.mk ?a ?l ?c ?k; (case a => k_is); (case l => k_is); (case c => k_is); (case k => k_is)))
    (case d_check_two_orders => (refine' M.DefAt.mk ?a ?l ?c ?k; (case a => k_is); (case l => k_is); (case c => k_is); (case k => k_is)))
    (case d_lesser => (refine' M.DefAt.mk ?a ?l ?c ?k; (case a => k_is); (case l => k_is); (case c => k_is); (case k => k_is)))
    (case d_check_orders => (refine' M.DefAt.mk ?a ?l ?c ?k; (case a => k_is); (case l => k_is); (case c => k_is); (case k => k_is)))
    (case d_falls => (refine' M.DefAt.mk ?a ?l ?c ?k; (case a => k_is); (case l => k_is); (case c => k_is); (case k => k_is)))
    (case d_is_below => (refine' M.DefAt.mk ?a ?l ?c ?k; (case a => k_is); (case l => k_is); (case c => k_is); (case k => k_is)))
    (case d_is_beneath => (refine' M.DefAt.mk ?a ?l ?c ?k; (case a => k_is); (case l => k_is); (case c => k_is); (case k => k_is)))
    (case d_check_one => (refine' M.DefAt.mk ?a ?l ?c ?k; (case a => k_is); (case l => k_is); (case c => k_is); (case k => k_is)))
    (case d_check_two => (refine' M.DefAt.mk ?a ?l ?c ?k; (case a => k_is); (case l => k_is); (case c => k_is); (case k => k_is)))
    (case d_gain => (refine' M.DefAt.mk ?a ?l ?c ?k; (case a => k_is); (case l => k_is); (case c => k_is); (case k => k_is)))
    (case d_gained_all => (refine' M.DefAt.mk ?a ?l ?c ?k; (case a => k_is); (case l => k_is); (case c => k_is); (case k => k_is)))
    (case d_greedy_of => (refine' M.DefAt.mk ?a ?l ?c ?k; (case a => k_is); (case l => k_is); (case c => k_is); (case k => k_is)))
    (case d_greedy => (refine' M.DefAt.mk ?a ?l ?c ?k; (case a => k_is); (case l => k_is); (case c => k_is); (case k => k_is)))
    (case d_power => (refine' M.DefAt.mk ?a ?l ?c ?k; (case a => k_is); (case l => k_is); (case c => k_is); (case k => k_is)))
    (case d_crossings => (refine' M.DefAt.mk ?a ?l ?c ?k; (case a => k_is); (case l => k_is); (case c => k_is); (case k => k_is)))
    (case d_opposite => (refine' M.DefAt.mk ?a ?l ?c ?k; (case a => k_is); (case l => k_is); (case c => k_is); (case k => k_is)))
    (case d_product => (refine' M.DefAt.mk ?a ?l ?c ?k; (case a => k_is); (case l => k_is); (case c => k_is); (case k => k_is)))
    (case d_multiplied => (refine' M.DefAt.mk ?a ?l ?c ?k; (case a => k_is); (case l => k_is); (case c => k_is); (case k => k_is)))
    (case d_numbers_to => (refine' M.DefAt.mk ?a ?l ?c ?k; (case a => k_is); (case l => k_is); (case c => k_is); (case k => k_is)))
    (case d_how_many_orders => (refine' M.DefAt.mk ?a ?l ?c ?k; (case a => k_is); (case l => k_is); (case c => k_is); (case k => k_is)))
    (case d_orders_with => (refine' M.DefAt.mk ?a ?l ?c ?k; (case a => k_is); (case l => k_is); (case c => k_is); (case k => k_is)))
    (case d__law_hash => (refine' M.DefAt.mk ?a ?l ?c ?k; (case a => k_is); (case l => k_is); (case c => k_is); (case k => k_is)))
    (case d__law_random => (refine' M.DefAt.mk ?a ?l ?c ?k; (case a => k_is); (case l => k_is); (case c => k_is); (case k => k_is)))
    (case d__law_cell => (refine' M.DefAt.mk ?a ?l ?c ?k; (case a => k_is); (case l => k_is); (case c => k_is); (case k => k_is)))
    (case d__law_generator => (refine' M.DefAt.mk ?a ?l ?c ?k; (case a => k_is); (case l => k_is); (case c => k_is); (case k => k_is)))
    (case d__law_start => (refine' M.DefAt.mk ?a ?l ?c ?k; (case a => k_is); (case l => k_is); (case c => k_is); (case k => k_is)))
    (case d__law_steps => (refine' M.DefAt.mk ?a ?l ?c ?k; (case a => k_is); (case l => k_is); (case c => k_is); (case k => k_is)))
    (case d__law_two => (refine' M.DefAt.mk ?a ?l ?c ?k; (case a => k_is); (case l => k_is); (case c => k_is); (case k => k_is)))
    (case d__law_crossed => (refine' M.DefAt.mk ?a ?l ?c ?k; (case a => k_is); (case l => k_is); (case c => k_is); (case k => k_is)))
    (case d__law_stepped => (refine' M.DefAt.mk ?a ?l ?c ?k; (case a => k_is); (case l => k_is); (case c => k_is); (case k => k_is)))
    (case d__law_gains => (refine' M.DefAt.mk ?a ?l ?c ?k; (case a => k_is); (case l => k_is); (case c => k_is); (case k => k_is)))
    (case d__law_row => (refine' M.DefAt.mk ?a ?l ?c ?k; (case a => k_is); (case l => k_is); (case c => k_is); (case k => k_is)))
    (case d__law_order => (refine' M.DefAt.mk ?a ?l ?c ?k; (case a => k_is); (case l => k_is); (case c => k_is); (case k => k_is)))
    (case d__law_unfolded => (refine' M.DefAt.mk ?a ?l ?c ?k; (case a => k_is); (case l => k_is); (case c => k_is); (case k => k_is)))
    (case d__law_mirror_right => (refine' M.DefAt.mk ?a ?l ?c ?k; (case a => k_is); (case l => k_is); (case c => k_is); (case k => k_is)))
    (case d__law_all_folded => (refine' M.DefAt.mk ?a ?l ?c ?k; (case a => k_is); (case l => k_is); (case c => k_is); (case k => k_is)))
    (case d__law_plain_right => (refine' M.DefAt.mk ?a ?l ?c ?k; (case a => k_is); (case l => k_is); (case c => k_is); (case k => k_is)))
    (case d_Kind___init__ => (refine' M.MethAt.mk ?a ?i ?l ?c ?k; (case a => k_is); (case i => k_is); (case l => k_is); (case c => k_is); (case k => k_is)))
    (case d_Kind_name => (refine' M.MethAt.mk ?a ?i ?l ?c ?k; (case a => k_is); (case i => k_is); (case l => k_is); (case c => k_is); (case k => k_is)))
    (case d_Kind_size => (refine' M.MethAt.mk ?a ?i ?l ?c ?k; (case a => k_is); (case i => k_is); (case l => k_is); (case c => k_is); (case k => k_is)))
    (case d_Kind_steps => (refine' M.MethAt.mk ?a ?i ?l ?c ?k; (case a => k_is); (case i => k_is); (case l => k_is); (case c => k_is); (case k => k_is)))
    (case d_Kind_start => (refine' M.MethAt.mk ?a ?i ?l ?c ?k; (case a => k_is); (case i => k_is); (case l => k_is); (case c => k_is); (case k => k_is)))
    (case pg => k_is); (case hd => k_is); (case po => k_is); (case sa => k_is); (case n1 => k_is); (case n2 => k_is); (case q1 => k_is); (case q2 => k_is); (case q3 => k_is); (case q4 => k_is); (case mk => k_is); (case kc => k_is)
    (case a_B => k_is)
    (case bnd => (refine' M.bnds_mk ?l ?k ?w ?e1 ?e2 ?e3 ?l1 ?l2 ?l3; (case l => k_is); (case k => k_keys); (case w => decide); (case e1 => k_is); (case e2 => k_is); (case e3 => k_is); (case l1 => k_is); (case l2 => k_is); (case l3 => k_is)))
    (case z_abs => k_is)
    (case z_bool => k_is)
    (case z_enumerate => k_is)
    (case z_int => k_is)
    (case z_isinstance => k_is)
    (case z_len => k_is)
    (case z_list => k_is)
    (case z_max => k_is)
    (case z_range => k_is)
    (case z_reversed => k_is)
    (case z_sorted => k_is)
    (case z_str => k_is)
    (case z_sum => k_is)
    (case z_tuple => k_is)
    (case c_MOST_CROSSINGS => k_is)
    (case c_MOST_SIZE => k_is)
    (case c_MOST_COUNT => k_is)
    (case c_MOST_ASKED => k_is)
    (case c_MOST_LISTED => k_is)
