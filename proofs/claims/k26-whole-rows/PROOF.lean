import PyProof.Rows.All
import Wide.All
import OpenK.AllK
import Wide.FinOn
import PySem.Challenge.RW_latchdoors_k26_whole_rows
import HandS.ForMost
import HandS.Walk
import HandS.IsInst
import HandS.Deep
import HandS.CallLocal
import HandS.SortInts
import HandS.Sort
import HandS.Style
import HandS.DictTup
import HandS.Conv
import KE.GoesEnum
import KE.LtData
import KE.SortData
import KE.KDictSum
import KE.KDictDisplayH
set_option Elab.async false
set_option linter.all false
set_option maxRecDepth 100000
set_option maxHeartbeats 4000000
/-! The mirror: every def of the text as a plain function of lists of naturals; the plain law, by one kernel run over all rows and rings. -/
namespace KR
abbrev S := List Nat
/-- insertion into an ascending list -/
def ins (k : Nat) : S → S
  | [] => [k]
  | x :: r => if k ≤ x then k :: x :: r else x :: ins k r
def isort : S → S
  | [] => []
  | x :: r => ins x (isort r)
/-! ### the program -/
/-- the turns' pieces of cold_in: door k and its near one -/
def coldAt (n : Nat) (one : S) (k : Nat) : S := if k ∈ one ∧ (k + 1) % n ∉ one then [k, (k + 1) % n] else []
def turns (r : Bool) (n : Nat) : Nat := if r = true then n else n - 1
def coldRaw (n : Nat) (one : S) (m : Nat) : S := ((List.range m).map (coldAt n one)).flatten
def cold (r : Bool) (n : Nat) (one : S) : S := isort (coldRaw n one (turns r n))
def fresh (one other : S) : S := other.filter fun k => decide (k ∉ one)
def old (one other : S) : S := one.filter fun k => decide (k ∉ other)
def comes (r : Bool) (n : Nat) (one other : S) : Bool :=
  (fresh one other ++ old one other).all (fun k => decide (k ∉ cold r n one)) && (!r || (decide ((fresh one other).length < n) && decide ((old one other).length < n)))
def few (r : Bool) (n : Nat) (one other : S) : Option Nat := if comes r n one other = true then some ((fresh one other).length + (old one other).length) else none
/-- the while loop's test at a size -/
def runGo (r : Bool) (n : Nat) (ds : S) (k size : Nat) : Bool := decide ((k + size) % n ∈ ds) && (r || decide (k + size < n))
/-- the size at which the while stops, with fuel -/
def runEnd (r : Bool) (n : Nat) (ds : S) (k : Nat) : Nat → Nat → Nat
  | 0, size => size
  | f + 1, size => if runGo r n ds k size = true then runEnd r n ds k f (size + 1) else size
/-- is there a door of ds ahead of k -/
def hasBefore (r : Bool) (n : Nat) (ds : S) (k : Nat) : Bool := if r = true then decide ((k + n - 1) % n ∈ ds) else (decide (0 < k) && decide (k - 1 ∈ ds))
def runAt (r : Bool) (n : Nat) (ds : S) (k : Nat) : S := if hasBefore r n ds k = true then [] else [runEnd r n ds k n 1]
def runs (r : Bool) (n : Nat) (ds : S) : S := (ds.map (runAt r n ds)).flatten
/-- one turn of the innermost loop of orders_of: (found, turn) at k -/
def ordStep (p : Nat × Nat) (k : Nat) : Nat × Nat := (p.1 * (p.2 + 1) / (k + 1), p.2 + 1)
def ordRun (p : Nat × Nat) (size : Nat) : Nat × Nat := (List.range size).foldl ordStep p
def ordDoors (r : Bool) (n : Nat) (p : Nat × Nat) (ds : S) : Nat × Nat := (runs r n ds).foldl ordRun p
def orders (r : Bool) (n : Nat) (one other : S) : Nat := (ordDoors r n (ordDoors r n (1, 0) (fresh one other)) (old one other)).1
def ways (r : Bool) (n : Nat) (one other : S) : Nat := if comes r n one other = true then orders r n one other else 0
/-! ### the law -/
def arrows (r : Bool) (n : Nat) : List (Nat × Nat) := (List.range (n - 1)).map (fun k => (k, k + 1)) ++ (if r = true then [(n - 1, 0)] else [])
def lfrozen (r : Bool) (n : Nat) (s : S) : S := (List.range n).filter fun k => (arrows r n).any fun p => decide (p.1 ∈ s) && decide (p.2 ∉ s) && (decide (p.1 = k) || decide (p.2 = k))
def changed (s : S) (k : Nat) : S := if k ∈ s then s.filter (fun j => decide (j ≠ k)) else isort (s ++ [k])
def canOpen (r : Bool) (n : Nat) (s : S) : S := (List.range n).filter fun k => decide (k ∉ s) && s.all fun j => decide ((j, k) ∉ arrows r n)
def canShut (r : Bool) (n : Nat) (s : S) : S := s.filter fun k => (List.range n).all fun j => !(decide (j ∉ s) && decide ((k, j) ∈ arrows r n))
def doors (r : Bool) (n : Nat) (s : S) : S := isort (canOpen r n s ++ canShut r n s)
def after (r : Bool) (n : Nat) (s : S) : List S := (doors r n s).map (changed s)
abbrev D := List (S × Nat)
def get (d : D) (k : S) : Option Nat := (d.find? fun p => decide (p.1 = k)).map (·.2)
def put (d : D) (k : S) (v : Nat) : D := if (d.any fun p => decide (p.1 = k)) = true then d.map (fun p => if p.1 = k then (p.1, v) else p) else d ++ [(k, v)]
/-- one deed of _law_from: (found, more) -/
def fromDeed (here : S) (p : D × List S) (there : S) : D × List S :=
  match get p.1 there with
  | some _ => p
  | none => (put p.1 there ((get p.1 here).getD 0 + 1), p.2 ++ [there])
def fromHere (r : Bool) (n : Nat) (p : D × List S) (here : S) : D × List S := (after r n here).foldl (fromDeed here) p
/-- one level: (found, rows) -/
def fromLevel (r : Bool) (n : Nat) (p : D × List S) : D × List S := p.2.foldl (fromHere r n) (p.1, [])
def fromN (r : Bool) (n : Nat) (one : S) : Nat → D × List S
  | 0 => ([(one, 0)], [one])
  | m + 1 => fromLevel r n (fromN r n one m)
def known (r : Bool) (n : Nat) (one : S) : D := (fromN r n one 7).1
/-- one deed of the counting: (counts, more) -/
def cntDeed (kn : D) (here : S) (p : D × List S) (there : S) : D × List S :=
  if get kn there = some ((get kn here).getD 0 + 1) then
    (put p.1 there ((get p.1 there).getD 0 + (get p.1 here).getD 0), p.2 ++ (match get p.1 there with | some _ => [] | none => [there]))
  else p
def cntHere (r : Bool) (n : Nat) (kn : D) (p : D × List S) (here : S) : D × List S := (after r n here).foldl (cntDeed kn here) p
def cntLevel (r : Bool) (n : Nat) (kn : D) (p : D × List S) : D × List S := p.2.foldl (cntHere r n kn) (p.1, [])
def cntN (r : Bool) (n : Nat) (kn : D) (one : S) : Nat → D × List S
  | 0 => ([(one, 1)], [one])
  | m + 1 => cntLevel r n kn (cntN r n kn one m)
def counts (r : Bool) (n : Nat) (one : S) : D := (cntN r n (known r n one) one 7).1
/-- all ascending parts of a list -/
def subs : List Nat → List S
  | [] => [[]]
  | x :: r => subs r ++ (subs r).map (x :: ·)
def stands (n : Nat) : List S := subs (List.range n)
/-- what is asked of one standing -/
def check1 (r : Bool) (n : Nat) (one : S) : Bool :=
  decide (cold r n one = lfrozen r n one) &&
  (let f := fromN r n one 7
   let c := cntN r n f.1 one 7
   f.2.isEmpty && c.2.isEmpty && decide (f.1.length ≤ 1000) && decide (c.1.length ≤ 1000) && (get f.1 one).isSome &&
     (f.1.all fun p => decide (p.1 ∈ stands n) && (after r n p.1).all fun t => (get f.1 t).isSome) && (stands n).all fun other =>
     decide (few r n one other = get f.1 other) && decide (ways r n one other = (get c.1 other).getD 0))
def check (r : Bool) (n : Nat) : Bool := (stands n).all (check1 r n)
end KR
namespace KR
theorem all_parts {A : Type} {p : A → Bool} {l : List A} {k m : Nat} (hk : 0 < k) (hl : l.length ≤ k * m) (h : ∀ i, i < m → ((l.drop (k * i)).take k).all p = true) : l.all p = true := by
  refine List.all_eq_true.mpr fun x hx => ?_
  obtain ⟨j, hj⟩ := List.mem_iff_getElem?.mp hx
  have hjl : j < l.length := by
    rcases Nat.lt_or_ge j l.length with h | h
    · exact h
    · rw [List.getElem?_eq_none h] at hj
      cases hj
  have hi : j / k < m := Nat.div_lt_of_lt_mul (by omega)
  have hm : j % k < k := Nat.mod_lt _ hk
  refine List.all_eq_true.mp (h (j / k) hi) x (List.mem_iff_getElem?.mpr ⟨j % k, ?_⟩)
  rw [List.getElem?_take, if_pos hm, List.getElem?_drop, Nat.div_add_mod]
  exact hj
theorem ev_f1 : check false 1 = true := by decide +kernel
theorem ev_f2 : check false 2 = true := by decide +kernel
theorem ev_f3 : check false 3 = true := by decide +kernel
theorem ev_f4 : check false 4 = true := by decide +kernel
theorem ev_f5_0 : (((stands 5).drop (4 * 0)).take 4).all (check1 false 5) = true := by decide +kernel
theorem ev_f5_1 : (((stands 5).drop (4 * 1)).take 4).all (check1 false 5) = true := by decide +kernel
theorem ev_f5_2 : (((stands 5).drop (4 * 2)).take 4).all (check1 false 5) = true := by decide +kernel
theorem ev_f5_3 : (((stands 5).drop (4 * 3)).take 4).all (check1 false 5) = true := by decide +kernel
theorem ev_f5_4 : (((stands 5).drop (4 * 4)).take 4).all (check1 false 5) = true := by decide +kernel
theorem ev_f5_5 : (((stands 5).drop (4 * 5)).take 4).all (check1 false 5) = true := by decide +kernel
theorem ev_f5_6 : (((stands 5).drop (4 * 6)).take 4).all (check1 false 5) = true := by decide +kernel
theorem ev_f5_7 : (((stands 5).drop (4 * 7)).take 4).all (check1 false 5) = true := by decide +kernel
theorem ev_f5 : check false 5 = true := by
  refine all_parts (k := 4) (m := 8) (by decide) (by decide) fun i hi => ?_
  match i, hi with
  | 0, _ => exact ev_f5_0
  | 1, _ => exact ev_f5_1
  | 2, _ => exact ev_f5_2
  | 3, _ => exact ev_f5_3
  | 4, _ => exact ev_f5_4
  | 5, _ => exact ev_f5_5
  | 6, _ => exact ev_f5_6
  | 7, _ => exact ev_f5_7
  | j + 8, h => exact absurd h (by omega)
theorem ev_f6_0 : (((stands 6).drop (2 * 0)).take 2).all (check1 false 6) = true := by decide +kernel
theorem ev_f6_1 : (((stands 6).drop (2 * 1)).take 2).all (check1 false 6) = true := by decide +kernel
theorem ev_f6_2 : (((stands 6).drop (2 * 2)).take 2).all (check1 false 6) = true := by decide +kernel
theorem ev_f6_3 : (((stands 6).drop (2 * 3)).take 2).all (check1 false 6) = true := by decide +kernel
theorem ev_f6_4 : (((stands 6).drop (2 * 4)).take 2).all (check1 false 6) = true := by decide +kernel
theorem ev_f6_5 : (((stands 6).drop (2 * 5)).take 2).all (check1 false 6) = true := by decide +kernel
theorem ev_f6_6 : (((stands 6).drop (2 * 6)).take 2).all (check1 false 6) = true := by decide +kernel
theorem ev_f6_7 : (((stands 6).drop (2 * 7)).take 2).all (check1 false 6) = true := by decide +kernel
theorem ev_f6_8 : (((stands 6).drop (2 * 8)).take 2).all (check1 false 6) = true := by decide +kernel
theorem ev_f6_9 : (((stands 6).drop (2 * 9)).take 2).all (check1 false 6) = true := by decide +kernel
theorem ev_f6_10 : (((stands 6).drop (2 * 10)).take 2).all (check1 false 6) = true := by decide +kernel
theorem ev_f6_11 : (((stands 6).drop (2 * 11)).take 2).all (check1 false 6) = true := by decide +kernel
theorem ev_f6_12 : (((stands 6).drop (2 * 12)).take 2).all (check1 false 6) = true := by decide +kernel
theorem ev_f6_13 : (((stands 6).drop (2 * 13)).take 2).all (check1 false 6) = true := by decide +kernel
theorem ev_f6_14 : (((stands 6).drop (2 * 14)).take 2).all (check1 false 6) = true := by decide +kernel
theorem ev_f6_15 : (((stands 6).drop (2 * 15)).take 2).all (check1 false 6) = true := by decide +kernel
theorem ev_f6_16 : (((stands 6).drop (2 * 16)).take 2).all (check1 false 6) = true := by decide +kernel
theorem ev_f6_17 : (((stands 6).drop (2 * 17)).take 2).all (check1 false 6) = true := by decide +kernel
theorem ev_f6_18 : (((stands 6).drop (2 * 18)).take 2).all (check1 false 6) = true := by decide +kernel
theorem ev_f6_19 : (((stands 6).drop (2 * 19)).take 2).all (check1 false 6) = true := by decide +kernel
theorem ev_f6_20 : (((stands 6).drop (2 * 20)).take 2).all (check1 false 6) = true := by decide +kernel
theorem ev_f6_21 : (((stands 6).drop (2 * 21)).take 2).all (check1 false 6) = true := by decide +kernel
theorem ev_f6_22 : (((stands 6).drop (2 * 22)).take 2).all (check1 false 6) = true := by decide +kernel
theorem ev_f6_23 : (((stands 6).drop (2 * 23)).take 2).all (check1 false 6) = true := by decide +kernel
theorem ev_f6_24 : (((stands 6).drop (2 * 24)).take 2).all (check1 false 6) = true := by decide +kernel
theorem ev_f6_25 : (((stands 6).drop (2 * 25)).take 2).all (check1 false 6) = true := by decide +kernel
theorem ev_f6_26 : (((stands 6).drop (2 * 26)).take 2).all (check1 false 6) = true := by decide +kernel
theorem ev_f6_27 : (((stands 6).drop (2 * 27)).take 2).all (check1 false 6) = true := by decide +kernel
theorem ev_f6_28 : (((stands 6).drop (2 * 28)).take 2).all (check1 false 6) = true := by decide +kernel
theorem ev_f6_29 : (((stands 6).drop (2 * 29)).take 2).all (check1 false 6) = true := by decide +kernel
theorem ev_f6_30 : (((stands 6).drop (2 * 30)).take 2).all (check1 false 6) = true := by decide +kernel
theorem ev_f6_31 : (((stands 6).drop (2 * 31)).take 2).all (check1 false 6) = true := by decide +kernel
theorem ev_f6 : check false 6 = true := by
  refine all_parts (k := 2) (m := 32) (by decide) (by decide) fun i hi => ?_
  match i, hi with
  | 0, _ => exact ev_f6_0
  | 1, _ => exact ev_f6_1
  | 2, _ => exact ev_f6_2
  | 3, _ => exact ev_f6_3
  | 4, _ => exact ev_f6_4
  | 5, _ => exact ev_f6_5
  | 6, _ => exact ev_f6_6
  | 7, _ => exact ev_f6_7
  | 8, _ => exact ev_f6_8
  | 9, _ => exact ev_f6_9
  | 10, _ => exact ev_f6_10
  | 11, _ => exact ev_f6_11
  | 12, _ => exact ev_f6_12
  | 13, _ => exact ev_f6_13
  | 14, _ => exact ev_f6_14
  | 15, _ => exact ev_f6_15
  | 16, _ => exact ev_f6_16
  | 17, _ => exact ev_f6_17
  | 18, _ => exact ev_f6_18
  | 19, _ => exact ev_f6_19
  | 20, _ => exact ev_f6_20
  | 21, _ => exact ev_f6_21
  | 22, _ => exact ev_f6_22
  | 23, _ => exact ev_f6_23
  | 24, _ => exact ev_f6_24
  | 25, _ => exact ev_f6_25
  | 26, _ => exact ev_f6_26
  | 27, _ => exact ev_f6_27
  | 28, _ => exact ev_f6_28
  | 29, _ => exact ev_f6_29
  | 30, _ => exact ev_f6_30
  | 31, _ => exact ev_f6_31
  | j + 32, h => exact absurd h (by omega)
theorem ev_t3 : check true 3 = true := by decide +kernel
theorem ev_t4 : check true 4 = true := by decide +kernel
theorem ev_t5_0 : (((stands 5).drop (4 * 0)).take 4).all (check1 true 5) = true := by decide +kernel
theorem ev_t5_1 : (((stands 5).drop (4 * 1)).take 4).all (check1 true 5) = true := by decide +kernel
theorem ev_t5_2 : (((stands 5).drop (4 * 2)).take 4).all (check1 true 5) = true := by decide +kernel
theorem ev_t5_3 : (((stands 5).drop (4 * 3)).take 4).all (check1 true 5) = true := by decide +kernel
theorem ev_t5_4 : (((stands 5).drop (4 * 4)).take 4).all (check1 true 5) = true := by decide +kernel
theorem ev_t5_5 : (((stands 5).drop (4 * 5)).take 4).all (check1 true 5) = true := by decide +kernel
theorem ev_t5_6 : (((stands 5).drop (4 * 6)).take 4).all (check1 true 5) = true := by decide +kernel
theorem ev_t5_7 : (((stands 5).drop (4 * 7)).take 4).all (check1 true 5) = true := by decide +kernel
theorem ev_t5 : check true 5 = true := by
  refine all_parts (k := 4) (m := 8) (by decide) (by decide) fun i hi => ?_
  match i, hi with
  | 0, _ => exact ev_t5_0
  | 1, _ => exact ev_t5_1
  | 2, _ => exact ev_t5_2
  | 3, _ => exact ev_t5_3
  | 4, _ => exact ev_t5_4
  | 5, _ => exact ev_t5_5
  | 6, _ => exact ev_t5_6
  | 7, _ => exact ev_t5_7
  | j + 8, h => exact absurd h (by omega)
theorem ev_t6_0 : (((stands 6).drop (2 * 0)).take 2).all (check1 true 6) = true := by decide +kernel
theorem ev_t6_1 : (((stands 6).drop (2 * 1)).take 2).all (check1 true 6) = true := by decide +kernel
theorem ev_t6_2 : (((stands 6).drop (2 * 2)).take 2).all (check1 true 6) = true := by decide +kernel
theorem ev_t6_3 : (((stands 6).drop (2 * 3)).take 2).all (check1 true 6) = true := by decide +kernel
theorem ev_t6_4 : (((stands 6).drop (2 * 4)).take 2).all (check1 true 6) = true := by decide +kernel
theorem ev_t6_5 : (((stands 6).drop (2 * 5)).take 2).all (check1 true 6) = true := by decide +kernel
theorem ev_t6_6 : (((stands 6).drop (2 * 6)).take 2).all (check1 true 6) = true := by decide +kernel
theorem ev_t6_7 : (((stands 6).drop (2 * 7)).take 2).all (check1 true 6) = true := by decide +kernel
theorem ev_t6_8 : (((stands 6).drop (2 * 8)).take 2).all (check1 true 6) = true := by decide +kernel
theorem ev_t6_9 : (((stands 6).drop (2 * 9)).take 2).all (check1 true 6) = true := by decide +kernel
theorem ev_t6_10 : (((stands 6).drop (2 * 10)).take 2).all (check1 true 6) = true := by decide +kernel
theorem ev_t6_11 : (((stands 6).drop (2 * 11)).take 2).all (check1 true 6) = true := by decide +kernel
theorem ev_t6_12 : (((stands 6).drop (2 * 12)).take 2).all (check1 true 6) = true := by decide +kernel
theorem ev_t6_13 : (((stands 6).drop (2 * 13)).take 2).all (check1 true 6) = true := by decide +kernel
theorem ev_t6_14 : (((stands 6).drop (2 * 14)).take 2).all (check1 true 6) = true := by decide +kernel
theorem ev_t6_15 : (((stands 6).drop (2 * 15)).take 2).all (check1 true 6) = true := by decide +kernel
theorem ev_t6_16 : (((stands 6).drop (2 * 16)).take 2).all (check1 true 6) = true := by decide +kernel
theorem ev_t6_17 : (((stands 6).drop (2 * 17)).take 2).all (check1 true 6) = true := by decide +kernel
theorem ev_t6_18 : (((stands 6).drop (2 * 18)).take 2).all (check1 true 6) = true := by decide +kernel
theorem ev_t6_19 : (((stands 6).drop (2 * 19)).take 2).all (check1 true 6) = true := by decide +kernel
theorem ev_t6_20 : (((stands 6).drop (2 * 20)).take 2).all (check1 true 6) = true := by decide +kernel
theorem ev_t6_21 : (((stands 6).drop (2 * 21)).take 2).all (check1 true 6) = true := by decide +kernel
theorem ev_t6_22 : (((stands 6).drop (2 * 22)).take 2).all (check1 true 6) = true := by decide +kernel
theorem ev_t6_23 : (((stands 6).drop (2 * 23)).take 2).all (check1 true 6) = true := by decide +kernel
theorem ev_t6_24 : (((stands 6).drop (2 * 24)).take 2).all (check1 true 6) = true := by decide +kernel
theorem ev_t6_25 : (((stands 6).drop (2 * 25)).take 2).all (check1 true 6) = true := by decide +kernel
theorem ev_t6_26 : (((stands 6).drop (2 * 26)).take 2).all (check1 true 6) = true := by decide +kernel
theorem ev_t6_27 : (((stands 6).drop (2 * 27)).take 2).all (check1 true 6) = true := by decide +kernel
theorem ev_t6_28 : (((stands 6).drop (2 * 28)).take 2).all (check1 true 6) = true := by decide +kernel
theorem ev_t6_29 : (((stands 6).drop (2 * 29)).take 2).all (check1 true 6) = true := by decide +kernel
theorem ev_t6_30 : (((stands 6).drop (2 * 30)).take 2).all (check1 true 6) = true := by decide +kernel
theorem ev_t6_31 : (((stands 6).drop (2 * 31)).take 2).all (check1 true 6) = true := by decide +kernel
theorem ev_t6 : check true 6 = true := by
  refine all_parts (k := 2) (m := 32) (by decide) (by decide) fun i hi => ?_
  match i, hi with
  | 0, _ => exact ev_t6_0
  | 1, _ => exact ev_t6_1
  | 2, _ => exact ev_t6_2
  | 3, _ => exact ev_t6_3
  | 4, _ => exact ev_t6_4
  | 5, _ => exact ev_t6_5
  | 6, _ => exact ev_t6_6
  | 7, _ => exact ev_t6_7
  | 8, _ => exact ev_t6_8
  | 9, _ => exact ev_t6_9
  | 10, _ => exact ev_t6_10
  | 11, _ => exact ev_t6_11
  | 12, _ => exact ev_t6_12
  | 13, _ => exact ev_t6_13
  | 14, _ => exact ev_t6_14
  | 15, _ => exact ev_t6_15
  | 16, _ => exact ev_t6_16
  | 17, _ => exact ev_t6_17
  | 18, _ => exact ev_t6_18
  | 19, _ => exact ev_t6_19
  | 20, _ => exact ev_t6_20
  | 21, _ => exact ev_t6_21
  | 22, _ => exact ev_t6_22
  | 23, _ => exact ev_t6_23
  | 24, _ => exact ev_t6_24
  | 25, _ => exact ev_t6_25
  | 26, _ => exact ev_t6_26
  | 27, _ => exact ev_t6_27
  | 28, _ => exact ev_t6_28
  | 29, _ => exact ev_t6_29
  | 30, _ => exact ev_t6_30
  | 31, _ => exact ev_t6_31
  | j + 32, h => exact absurd h (by omega)
end KR
namespace KR
open PySem PySem.Spec PyProof.Rows L2
/-! ### the text -/
def topS (i : Nat) : Stmt := PySem.Challenge.pw_latchdoors_k26_whole_rows.main.body.getD i (.Pass ⟨0, 0, 0, 0⟩)
abbrev s_is_in : Stmt := topS 5
abbrev N_is_in : List PySem.Str := ["value", "least", "most"]
theorem sc_is_in : FnScope N_is_in ["value", "least", "most"] (defScope s_is_in) := ⟨rfl, rfl, rfl, by decide +kernel, rfl, by decide +kernel, by decide +kernel⟩
abbrev s_need_many : Stmt := topS 8
abbrev N_need_many : List PySem.Str := ["many", "least"]
theorem sc_need_many : FnScope N_need_many ["many", "least"] (defScope s_need_many) := ⟨rfl, rfl, rfl, by decide +kernel, rfl, by decide +kernel, by decide +kernel⟩
abbrev s_need_opened : Stmt := topS 9
abbrev N_need_opened : List PySem.Str := ["many", "opened", "index", "one"]
theorem sc_need_opened : FnScope N_need_opened ["many", "opened"] (defScope s_need_opened) := ⟨rfl, rfl, rfl, by decide +kernel, rfl, by decide +kernel, by decide +kernel⟩
abbrev s_cold_in : Stmt := topS 10
abbrev N_cold_in : List PySem.Str := ["many", "is_ring", "opened", "found", "k", "near"]
theorem sc_cold_in : FnScope N_cold_in ["many", "is_ring", "opened"] (defScope s_cold_in) := ⟨rfl, rfl, rfl, by decide +kernel, rfl, by decide +kernel, by decide +kernel⟩
abbrev s_need_both : Stmt := topS 11
abbrev N_need_both : List PySem.Str := ["many", "least", "opened"]
theorem sc_need_both : FnScope N_need_both ["many", "least", "opened"] (defScope s_need_both) := ⟨rfl, rfl, rfl, by decide +kernel, rfl, by decide +kernel, by decide +kernel⟩
abbrev s_row_frozen : Stmt := topS 12
abbrev N_row_frozen : List PySem.Str := ["many", "opened"]
theorem sc_row_frozen : FnScope N_row_frozen ["many", "opened"] (defScope s_row_frozen) := ⟨rfl, rfl, rfl, by decide +kernel, rfl, by decide +kernel, by decide +kernel⟩
abbrev s_ring_frozen : Stmt := topS 13
abbrev N_ring_frozen : List PySem.Str := ["many", "opened"]
theorem sc_ring_frozen : FnScope N_ring_frozen ["many", "opened"] (defScope s_ring_frozen) := ⟨rfl, rfl, rfl, by decide +kernel, rfl, by decide +kernel, by decide +kernel⟩
abbrev s_differ_in : Stmt := topS 14
abbrev N_differ_in : List PySem.Str := ["one", "other", "k"]
theorem sc_differ_in : FnScope N_differ_in ["one", "other"] (defScope s_differ_in) := ⟨rfl, rfl, rfl, by decide +kernel, rfl, by decide +kernel, by decide +kernel⟩
abbrev s_comes_in : Stmt := topS 15
abbrev N_comes_in : List PySem.Str := ["many", "is_ring", "one", "other", "fresh", "old", "cold", "k"]
theorem sc_comes_in : FnScope N_comes_in ["many", "is_ring", "one", "other"] (defScope s_comes_in) := ⟨rfl, rfl, rfl, by decide +kernel, rfl, by decide +kernel, by decide +kernel⟩
abbrev s_need_two : Stmt := topS 16
abbrev N_need_two : List PySem.Str := ["many", "least", "one", "other"]
theorem sc_need_two : FnScope N_need_two ["many", "least", "one", "other"] (defScope s_need_two) := ⟨rfl, rfl, rfl, by decide +kernel, rfl, by decide +kernel, by decide +kernel⟩
abbrev s_row_fewest : Stmt := topS 17
abbrev N_row_fewest : List PySem.Str := ["many", "one", "other", "fresh", "old"]
theorem sc_row_fewest : FnScope N_row_fewest ["many", "one", "other"] (defScope s_row_fewest) := ⟨rfl, rfl, rfl, by decide +kernel, rfl, by decide +kernel, by decide +kernel⟩
abbrev s_ring_fewest : Stmt := topS 18
abbrev N_ring_fewest : List PySem.Str := ["many", "one", "other", "fresh", "old"]
theorem sc_ring_fewest : FnScope N_ring_fewest ["many", "one", "other"] (defScope s_ring_fewest) := ⟨rfl, rfl, rfl, by decide +kernel, rfl, by decide +kernel, by decide +kernel⟩
abbrev s_runs_of : Stmt := topS 19
abbrev N_runs_of : List PySem.Str := ["many", "is_ring", "doors", "found", "k", "before", "size"]
theorem sc_runs_of : FnScope N_runs_of ["many", "is_ring", "doors"] (defScope s_runs_of) := ⟨rfl, rfl, rfl, by decide +kernel, rfl, by decide +kernel, by decide +kernel⟩
abbrev s_orders_of : Stmt := topS 20
abbrev N_orders_of : List PySem.Str := ["many", "is_ring", "one", "other", "found", "turn", "doors", "size", "k"]
theorem sc_orders_of : FnScope N_orders_of ["many", "is_ring", "one", "other"] (defScope s_orders_of) := ⟨rfl, rfl, rfl, by decide +kernel, rfl, by decide +kernel, by decide +kernel⟩
abbrev s_row_ways : Stmt := topS 21
abbrev N_row_ways : List PySem.Str := ["many", "one", "other"]
theorem sc_row_ways : FnScope N_row_ways ["many", "one", "other"] (defScope s_row_ways) := ⟨rfl, rfl, rfl, by decide +kernel, rfl, by decide +kernel, by decide +kernel⟩
abbrev s_ring_ways : Stmt := topS 22
abbrev N_ring_ways : List PySem.Str := ["many", "one", "other"]
theorem sc_ring_ways : FnScope N_ring_ways ["many", "one", "other"] (defScope s_ring_ways) := ⟨rfl, rfl, rfl, by decide +kernel, rfl, by decide +kernel, by decide +kernel⟩
abbrev s_law_taken : Stmt := topS 24
abbrev N_law_taken : List PySem.Str := ["_law_row", "_law_many", "_law_found", "_law_cell"]
theorem sc_law_taken : FnScope N_law_taken ["_law_row", "_law_many"] (defScope s_law_taken) := ⟨rfl, rfl, rfl, by decide +kernel, rfl, by decide +kernel, by decide +kernel⟩
abbrev s_law_row_standing : Stmt := topS 25
abbrev N_law_row_standing : List PySem.Str := ["_law_row", "_law_many", "_law_way", "_law_found", "_law_k", "_law_same"]
theorem sc_law_row_standing : FnScope N_law_row_standing ["_law_row", "_law_many"] (defScope s_law_row_standing) := ⟨rfl, rfl, rfl, by decide +kernel, rfl, by decide +kernel, by decide +kernel⟩
abbrev s_law_alike : Stmt := topS 26
abbrev N_law_alike : List PySem.Str := ["_law_found", "_law_due", "_law_k"]
theorem sc_law_alike : FnScope N_law_alike ["_law_found", "_law_due"] (defScope s_law_alike) := ⟨rfl, rfl, rfl, by decide +kernel, rfl, by decide +kernel, by decide +kernel⟩
abbrev s_law_frozen : Stmt := topS 27
abbrev N_law_frozen : List PySem.Str := ["_law_web", "_law_opened", "_law_some", "_law_arrow", "_law_k"]
theorem sc_law_frozen : FnScope N_law_frozen ["_law_web", "_law_opened"] (defScope s_law_frozen) := ⟨rfl, rfl, rfl, by decide +kernel, rfl, by decide +kernel, by decide +kernel⟩
abbrev s_law_changed : Stmt := topS 28
abbrev N_law_changed : List PySem.Str := ["_law_opened", "_law_door", "_law_k"]
theorem sc_law_changed : FnScope N_law_changed ["_law_opened", "_law_door"] (defScope s_law_changed) := ⟨rfl, rfl, rfl, by decide +kernel, rfl, by decide +kernel, by decide +kernel⟩
abbrev s_law_open : Stmt := topS 29
abbrev N_law_open : List PySem.Str := ["_law_web", "_law_opened", "_law_k", "_law_one"]
theorem sc_law_open : FnScope N_law_open ["_law_web", "_law_opened"] (defScope s_law_open) := ⟨rfl, rfl, rfl, by decide +kernel, rfl, by decide +kernel, by decide +kernel⟩
abbrev s_law_shut : Stmt := topS 30
abbrev N_law_shut : List PySem.Str := ["_law_web", "_law_opened", "_law_k", "_law_j"]
theorem sc_law_shut : FnScope N_law_shut ["_law_web", "_law_opened"] (defScope s_law_shut) := ⟨rfl, rfl, rfl, by decide +kernel, rfl, by decide +kernel, by decide +kernel⟩
abbrev s_law_after : Stmt := topS 31
abbrev N_law_after : List PySem.Str := ["_law_web", "_law_opened", "_law_k"]
theorem sc_law_after : FnScope N_law_after ["_law_web", "_law_opened"] (defScope s_law_after) := ⟨rfl, rfl, rfl, by decide +kernel, rfl, by decide +kernel, by decide +kernel⟩
abbrev s_law_from : Stmt := topS 32
abbrev N_law_from : List PySem.Str := ["_law_web", "_law_opened", "_law_found", "_law_rows", "_law_more", "_law_here", "_law_door", "_law_there"]
theorem sc_law_from : FnScope N_law_from ["_law_web", "_law_opened"] (defScope s_law_from) := ⟨rfl, rfl, rfl, by decide +kernel, rfl, by decide +kernel, by decide +kernel⟩
abbrev s_law_row_frozen : Stmt := topS 33
abbrev N_law_row_frozen : List PySem.Str := ["_law_many", "_law_is_ring", "_law_opened", "_law_found", "_law_k", "_law_near"]
theorem sc_law_row_frozen : FnScope N_law_row_frozen ["_law_many", "_law_is_ring", "_law_opened"] (defScope s_law_row_frozen) := ⟨rfl, rfl, rfl, by decide +kernel, rfl, by decide +kernel, by decide +kernel⟩
abbrev s_law_row_near : Stmt := topS 34
abbrev N_law_row_near : List PySem.Str := ["_law_row", "_law_many", "_law_is_ring", "_law_one", "_law_cold", "_law_found", "_law_k", "_law_j"]
theorem sc_law_row_near : FnScope N_law_row_near ["_law_row", "_law_many", "_law_is_ring", "_law_one"] (defScope s_law_row_near) := ⟨rfl, rfl, rfl, by decide +kernel, rfl, by decide +kernel, by decide +kernel⟩
abbrev s_law_pick : Stmt := topS 35
abbrev N_law_pick : List PySem.Str := ["_law_row", "_law_things"]
theorem sc_law_pick : FnScope N_law_pick ["_law_row", "_law_things"] (defScope s_law_pick) := ⟨rfl, rfl, rfl, by decide +kernel, rfl, by decide +kernel, by decide +kernel⟩
abbrev s_law : Stmt := topS 36
abbrev N_law : List PySem.Str := ["_law_script", "_law_row", "_law_is_ring", "_law_many", "_law_web", "_law_one", "_law_cold", "_law_few", "_law_ways", "_law_known", "_law_counts", "_law_rows", "_law_more", "_law_here", "_law_door", "_law_there", "_law_other", "_law_k"]
theorem sc_law : FnScope N_law ["_law_script"] (defScope s_law) := ⟨rfl, rfl, rfl, by decide +kernel, rfl, by decide +kernel, by decide +kernel⟩
/-! ### bundles -/
/-- the built-ins are not hidden by the text -/
structure Blt (mg : Str → Option Value) : Prop where
  m_len : mg "len" = none
  m_range : mg "range" = none
  m_sorted : mg "sorted" = none
  m_tuple : mg "tuple" = none
  m_list : mg "list" = none
  m_isinstance : mg "isinstance" = none
  m_int : mg "int" = none
  m_bool : mg "bool" = none
  m_str : mg "str" = none
  m_enumerate : mg "enumerate" = none
/-- a def that can be called by its name: its promise -/
def Cal (P : Program) (w : World) (K : PySem.W.Frag) (mg : Str → Option Value) (base : Heap) (k : Nat) (x : Str) (sp : Sp) : Prop :=
  ∃ (f : Addr) (fd : FuncData) (ps : List Str), FnOk P w K mg base CX0 k f fd ps sp ∧ mg x = some (.ref f) ∧ PySem.W.keepIn K (.ref f) = true ∧ Binds K fd ps []
def tCal (sp : Sp) (t : TA) : TE := fun σ H Q => t σ H fun vs H1 => sp vs H1 Q E0
theorem pe_callC {X : Cx} {k : Nat} {x : Str} {sp : Sp} {p pos : Pos} {e : Expr} {es : List Expr} {t : TA} (c : Cal X.prog X.w X.K X.mg X.base k x sp) (hr : Room k X.A) (hg : Gl X x) (ha : PA X (e :: es) t)
    (hdb : (x == ("__debug__" : Str)) = false := by decide) (he : starEach (e :: es) X.env = (false, eval e X.env) :: starEach es X.env := by rfl) (hpl : (backTo pos (starEach es X.env)).any (·.1) = false := by rfl) :
    PE X (.Call (.Name x p) (e :: es) [] pos) (tCal sp t) := by
  obtain ⟨f, fd, ps, F, hm, hk, hb⟩ := c
  refine ⟨fun pins s σ H Q I h => (pe_call F hr hg hm hk hb .nil pass0 ha hdb he hpl).run pins s σ H Q I ?_⟩
  show t σ H fun vs H1 => sp (vs ++ []) H1 Q E0
  have e0 : (fun (vs : List V) (H1 : Hp) => sp (vs ++ []) H1 Q E0) = fun vs H1 => sp vs H1 Q E0 := by
    funext vs H1
    rw [List.append_nil]
  rw [e0]
  exact h
/-- a def of the text as it stands: its body, its name, how it binds -/
def Df (K : PySem.W.Frag) (mg : Str → Option Value) (x : Str) (st : Stmt) (ps : List Str) (f : Addr) (fd : FuncData) : Prop :=
  Fun K x x st f fd ∧ mg x = some (.ref f) ∧ Binds K fd ps []
section
variable {P : Program} {w : World} {K : PySem.W.Frag} {mg : Str → Option Value} {base : Heap}
theorem Df.cal {x : Str} {st : Stmt} {ps : List Str} {f : Addr} {fd : FuncData} {k : Nat} {sp : Sp} (d : Df K mg x st ps f fd) (h : FnOk P w K mg base CX0 k f fd ps sp) : Cal P w K mg base k x sp :=
  ⟨f, fd, ps, h, d.2.1, d.1.kp, d.2.2⟩
theorem Df.ok {x : Str} {st : Stmt} {N ps : List Str} {f : Addr} {fd : FuncData} {k : Nat} {sp : Sp} (d : Df K mg x st ps f fd) (S : FnScope N ps (defScope st)) (len : ∀ vs H Q E, sp vs H Q E → vs.length = ps.length)
    (hbody : ∀ (cdv : Value) (A : Around) (outer : List Env) (s : Shared) (H : Hp) (vs : List V) (Q : VK) (E : XK), Room k (A.deeper (envOfC x (defScope st) s.heap.objs.size f cdv)) → sp vs H Q E →
      ∃ t, PSs (cxOf CX0 P w K mg base N x (defScope st) f cdv A outer s H E).nox (defBody st) t ∧ t { nx := fun _ H' => Q .non H', rt := Q } (start N vs) H) : Cal P w K mg base (k + 1) x sp :=
  d.cal (d.1.ok S len hbody)
end
/-! ### naturals, lists of naturals -/
abbrev nI (k : Nat) : V := .int (k : Int)
/-- a tuple, a list of naturals -/
abbrev Tp (H : Hp) (a : Addr) (s : List Nat) : Prop := H a = some (.tup (s.map nI))
abbrev Ls (H : Hp) (a : Addr) (s : List Nat) : Prop := H a = some (.lst (s.map nI))
theorem Tp.sq {K : PySem.W.Frag} {H : Hp} {a : Addr} {xs : List V} (h : H a = some (.tup xs)) : SqT K H a xs := .inl (.inl h)
theorem Ls.sq {K : PySem.W.Frag} {H : Hp} {a : Addr} {xs : List V} (h : H a = some (.lst xs)) : SqL K H a xs := .inl (.inl h)
/-- a flat sequence of naturals, list or tuple -/
def NS (H : Hp) (a : Addr) (s : List Nat) : Prop := Ls H a s ∨ Tp H a s
/-- tuples are kept -/
def Tups (H H' : Hp) : Prop := ∀ b xs, H b = some (.tup xs) → H' b = some (.tup xs)
theorem Tups.refl (H : Hp) : Tups H H := fun _ _ h => h
theorem Tups.trans {H H1 H2 : Hp} (a : Tups H H1) (b : Tups H1 H2) : Tups H H2 := fun c o h => b c o (a c o h)
theorem Tups.of {H H' : Hp} (h : Same H H') : Tups H H' := fun b xs e => h b _ e
theorem Tups.lst {H : Hp} {a : Addr} {xs ys : List V} (h : H a = some (.lst xs)) : Tups H (upd H a (.lst ys)) := fun b zs e => by
  rw [upd_ne (ne_of e h (by intro z; cases z))]
  exact e
theorem same_upd {H : Hp} {p : Addr} {o : HO} (h : H p = none) : Same H (upd H p o) := fun b x e => by
  rw [upd_ne (ne_of_none e h)]
  exact e
/-- what was tracked ahead of p's making stands behind a change of p -/
theorem Same.atNew {H H1 : Hp} {p : Addr} {o : HO} (s : Same H H1) (h : H p = none) : Same H (upd H1 p o) := fun b x e => by
  rw [upd_ne (ne_of_none e h)]
  exact s b x e
theorem flat_nI : ∀ s : List Nat, (s.map nI).all flatV = true
  | [] => rfl
  | _ :: r => flat_nI r
theorem nI_inj {a b : Nat} (h : nI a = nI b) : a = b := by
  injection h with h
  exact Int.ofNat.inj h
theorem nIs_inj : ∀ {a b : List Nat}, a.map nI = b.map nI → a = b
  | [], [], _ => rfl
  | [], _ :: _, h => by cases h
  | _ :: _, [], h => by cases h
  | x :: r, y :: q, h => by
    injection h with h1 h2
    rw [nI_inj h1, nIs_inj h2]
theorem inV_nI (k : Nat) (s : List Nat) : inV (nI k) (s.map nI) = decide (k ∈ s) := by
  induction s with
  | nil => rfl
  | cons x r ih =>
    have e : inV (nI k) ((x :: r).map nI) = (eqV (nI x) (nI k) || inV (nI k) (r.map nI)) := rfl
    have e2 : eqV (nI x) (nI k) = decide (x = k) := by
      show eqV (V.int (x : Int)) (V.int (k : Int)) = _
      first
        | (show decide ((x : Int) = (k : Int)) = decide (x = k); rw [decide_eq_decide]; omega)
        | (show ((x : Int) == (k : Int)) = decide (x = k); rw [Bool.eq_iff_iff]; simp)
        | (rw [Bool.eq_iff_iff]; simp [eqV]; try omega)
    rw [e, ih, e2]
    rw [Bool.eq_iff_iff]
    simp only [Bool.or_eq_true, decide_eq_true_eq, List.mem_cons]
    constructor
    · rintro (h | h)
      · exact .inl h.symm
      · exact .inr h
    · rintro (h | h)
      · exact .inl h.symm
      · exact .inr h
theorem NS.at {K : PySem.W.Frag} {H : Hp} {a : Addr} {s : List Nat} (h : NS H a s) : SqL K H a (s.map nI) ∨ SqT K H a (s.map nI) := by
  rcases h with h | h
  · exact .inl (.inl (.inl h))
  · exact .inr (.inl (.inl h))
/-- k in s, k not in s -/
def rInN : R2 := fun x y H Q => ∃ (k : Nat) (a : Addr) (s : List Nat), x = nI k ∧ y = .ref a ∧ NS H a s ∧ Q (.bl (decide (k ∈ s))) H
def rNotInN : R2 := fun x y H Q => ∃ (k : Nat) (a : Addr) (s : List Nat), x = nI k ∧ y = .ref a ∧ NS H a s ∧ Q (.bl (decide (k ∉ s))) H
theorem op_inN {X : Cx} : OpR X (compareOp .In) rInN := by
  intro pins s σ H x y v u Q I rx ry h
  obtain ⟨k, a, l, rfl, rfl, hl, q⟩ := h
  refine op_in_seq pins s σ H _ _ v u Q I rx ry ⟨a, l.map nI, rfl, hl.at, rfl, flat_nI l, ?_⟩
  rw [inV_nI]
  exact q
theorem op_notInN {X : Cx} : OpR X (compareOp .NotIn) rNotInN := by
  intro pins s σ H x y v u Q I rx ry h
  obtain ⟨k, a, l, rfl, rfl, hl, q⟩ := h
  refine op_notIn_seq pins s σ H _ _ v u Q I rx ry ⟨a, l.map nI, rfl, hl.at, rfl, flat_nI l, ?_⟩
  rw [inV_nI, if_pos rfl, ← decide_not]
  exact q
/-! ### comprehensions that only add to the heap -/
theorem filter_take {α : Type} {p : α → Bool} {xs : List α} {i : Nat} {x : α} (h : xs[i]? = some x) : (xs.take (i + 1)).filter p = (xs.take i).filter p ++ (if p x = true then [x] else []) := by
  rw [List.take_add_one, h, List.filter_append]
  show _ ++ ([x].filter p) = _
  rw [List.filter_cons]
  cases p x <;> rfl
theorem pairSnoc {α β : Type} {F : α → β → Prop} : ∀ {xs : List α} {ys : List β} {x : α} {y : β}, Paired F xs ys → F x y → Paired F (xs ++ [x]) (ys ++ [y])
  | _, _, _, _, .nil, h => .cons h .nil
  | _, _, _, _, .cons r t, h => .cons r (pairSnoc t h)
theorem pairMono {α β : Type} {F G : α → β → Prop} {l₁ : List α} {l₂ : List β} (h : Paired F l₁ l₂) (f : ∀ a b, F a b → G a b) : Paired G l₁ l₂ := L2.Paired.mapP h f
theorem lc_gen {J : It} {xs : List V} {G : Hp → Prop} (wk : Walk J xs.length G (YAt xs)) {i : Nat} {tt : TT} {te : TE} {vs : List Nat} {σ : L2.St} {H1 : Hp} {D : Addr} {Qd : Hp → Prop}
    (hD : H1 D = none) (hG : ∀ H, Same H1 H → G H) (p : V → Bool) (rel : V → V → Hp → Prop) (mono : ∀ x y H H', Tups H H' → rel x y H → rel x y H')
    (hw : ∀ x : V, wipe ((wipe σ vs).set i (some x)) vs = wipe σ vs) (hlen : xs.length ≤ 1000)
    (ht : ∀ x H (Kt : Bool → Hp → Prop), x ∈ xs → Same H1 H → (∀ H', Same H H' → Kt (p x) H') → tt ((wipe σ vs).set i (some x)) H Kt)
    (he : ∀ x H (Ke : VK), x ∈ xs → p x = true → Same H1 H → (∀ y H', Same H H' → rel x y H' → Ke y H') → te ((wipe σ vs).set i (some x)) H Ke)
    (hd : ∀ H ys, Same H1 H → H D = some (.lst ys) → Paired (fun x y => rel x y H) (xs.filter p) ys → Qd H) :
    ∃ W : Nat → Nat → Hp → Prop, (∃ m, W 0 m (upd H1 D (.lst []))) ∧ ∀ i' m H, W i' m H →
      (J.stop i' H ∧ Qd H) ∨ (J.go i' H ∧ ∃ Nx : Hp → Prop, (∀ H', Nx H' → ∃ m', m' < m ∧ W (i' + 1) m' H') ∧ ∀ x H', J.yld i' H x H' → gName i x (wipe σ vs) H' fun σ2 H2 => wipe σ2 vs = wipe σ vs ∧ tt σ2 H2 fun b H3 =>
        if b = true then te σ2 H3 fun y H4 => ∃ acc, H4 D = some (.lst acc) ∧ acc.length < sizeLine ∧ Nx (upd H4 D (.lst (acc ++ [y]))) else Nx H3) := by
  refine lc_it wk (fun j H => Same H1 H ∧ ∃ ys, H D = some (.lst ys) ∧ ys.length ≤ j ∧ Paired (fun x y => rel x y H) ((xs.take j).filter p) ys) ⟨same_upd hD, [], upd_same, Nat.le_refl _, .nil⟩
    (fun j H _ h => hG H h.1) (fun j x H H' hj h y => ?_) (fun H h => ?_)
  · obtain ⟨sm, ys, hys, hl, hp⟩ := h
    obtain ⟨rfl, hx⟩ := y
    have hm : x ∈ xs := List.mem_of_getElem? hx
    refine ⟨hw x, ht x H' _ hm sm fun H3 s3 => ?_⟩
    cases hb : p x with
    | false =>
      refine iteF ⟨sm.trans s3, ys, s3 _ _ hys, by omega, ?_⟩
      rw [filter_take hx, if_neg (by rw [hb]; exact Bool.false_ne_true), List.append_nil]
      exact pairMono hp fun a b r => mono _ _ _ _ (.of s3) r
    | true =>
      refine iteT (he x H3 _ hm hb (sm.trans s3) fun y H4 s4 hr => ?_)
      have hD4 : H4 D = some (.lst ys) := s4 _ _ (s3 _ _ hys)
      refine ⟨ys, hD4, small1000 (by omega), (Same.atNew ((sm.trans s3).trans s4) hD), ys ++ [y], upd_same, ?_, ?_⟩
      · rw [List.length_append]
        exact Nat.add_le_add hl (Nat.le_refl _)
      · rw [filter_take hx, if_pos hb]
        have tk : Tups H4 (upd H4 D (.lst (ys ++ [y]))) := Tups.lst hD4
        refine pairSnoc (pairMono hp fun a b r => mono _ _ _ _ (((Tups.of s3).trans (.of s4)).trans tk) r) (mono _ _ _ _ tk hr)
  · obtain ⟨sm, ys, hys, hl, hp⟩ := h
    rw [List.take_length] at hp
    exact hd H ys sm hys hp
theorem isSome_lt {α : Type} {l : List α} {i : Nat} (h : (l[i]?).isSome = true) : i < l.length := by
  by_cases e : i < l.length
  · exact e
  · rw [List.getElem?_eq_none (by omega)] at h
    cases h
theorem paired_eq {α : Type} : ∀ {xs ys : List α}, Paired (fun x y => y = x) xs ys → ys = xs
  | _, _, .nil => rfl
  | _, _, .cons r t => by rw [r, paired_eq t]
/-- [x for x in xs if ..] -/
theorem lc_sel {J : It} {xs : List V} {G : Hp → Prop} (wk : Walk J xs.length G (YAt xs)) {i : Nat} {tt : TT} {vs : List Nat} {σ : L2.St} {H1 : Hp} {D : Addr} {Qd : Hp → Prop}
    (hD : H1 D = none) (hG : ∀ H, Same H1 H → G H) (p : V → Bool)
    (hi : (σ[i]?).isSome = true) (hw : ∀ x : V, wipe ((wipe σ vs).set i (some x)) vs = wipe σ vs) (hlen : xs.length ≤ 1000)
    (ht : ∀ x H (Kt : Bool → Hp → Prop), x ∈ xs → Same H1 H → (∀ H', Same H H' → Kt (p x) H') → tt ((wipe σ vs).set i (some x)) H Kt)
    (hd : ∀ H, Same H1 H → H D = some (.lst (xs.filter p)) → Qd H) :
    ∃ W : Nat → Nat → Hp → Prop, (∃ m, W 0 m (upd H1 D (.lst []))) ∧ ∀ i' m H, W i' m H →
      (J.stop i' H ∧ Qd H) ∨ (J.go i' H ∧ ∃ Nx : Hp → Prop, (∀ H', Nx H' → ∃ m', m' < m ∧ W (i' + 1) m' H') ∧ ∀ x H', J.yld i' H x H' → gName i x (wipe σ vs) H' fun σ2 H2 => wipe σ2 vs = wipe σ vs ∧ tt σ2 H2 fun b H3 =>
        if b = true then tVar i σ2 H3 fun y H4 => ∃ acc, H4 D = some (.lst acc) ∧ acc.length < sizeLine ∧ Nx (upd H4 D (.lst (acc ++ [y]))) else Nx H3) := by
  refine lc_gen wk hD hG p (fun x y _ => y = x) (fun _ _ _ _ _ h => h) hw hlen ht (fun x H Ke hm hb sm h => ⟨x, ?_, h x H (Same.refl H) rfl⟩) fun H ys sm hys hp => ?_
  · rw [List.getElem?_set_self (by rw [wipe_length]; exact (isSome_lt hi))]
  · rw [paired_eq hp] at hys
    exact hd H sm hys
theorem filter_nI (q : Nat → Bool) (p : V → Bool) (h : ∀ k, p (nI k) = q k) (s : List Nat) : (s.map nI).filter p = (s.filter q).map nI := by
  rw [List.filter_map]
  congr 1
  refine List.filter_congr fun k _ => h k
/-- the number of a value -/
def vN : V → Nat
  | .int i => i.toNat
  | _ => 0
theorem vN_nI (k : Nat) : vN (nI k) = k := rfl
/-- [k for k in s if q k] over naturals, the sequence told by xs = s.map nI -/
theorem lc_selN {J : It} {s : List Nat} {G : Hp → Prop} (wk : Walk J (s.map nI).length G (YAt (s.map nI))) {i : Nat} {tt : TT} {vs : List Nat} {σ : L2.St} {H1 : Hp} {D : Addr} {Qd : Hp → Prop}
    (hD : H1 D = none) (hG : ∀ H, Same H1 H → G H) (q : Nat → Bool)
    (hi : (σ[i]?).isSome = true) (hw : ∀ x : V, wipe ((wipe σ vs).set i (some x)) vs = wipe σ vs) (hlen : s.length ≤ 1000)
    (ht : ∀ k H (Kt : Bool → Hp → Prop), k ∈ s → Same H1 H → (∀ H', Same H H' → Kt (q k) H') → tt ((wipe σ vs).set i (some (nI k))) H Kt)
    (hd : ∀ H, Same H1 H → Ls H D (s.filter q) → Qd H) :
    ∃ W : Nat → Nat → Hp → Prop, (∃ m, W 0 m (upd H1 D (.lst []))) ∧ ∀ i' m H, W i' m H →
      (J.stop i' H ∧ Qd H) ∨ (J.go i' H ∧ ∃ Nx : Hp → Prop, (∀ H', Nx H' → ∃ m', m' < m ∧ W (i' + 1) m' H') ∧ ∀ x H', J.yld i' H x H' → gName i x (wipe σ vs) H' fun σ2 H2 => wipe σ2 vs = wipe σ vs ∧ tt σ2 H2 fun b H3 =>
        if b = true then tVar i σ2 H3 fun y H4 => ∃ acc, H4 D = some (.lst acc) ∧ acc.length < sizeLine ∧ Nx (upd H4 D (.lst (acc ++ [y]))) else Nx H3) := by
  refine lc_sel wk hD hG (fun x => q (vN x)) hi hw (by rw [List.length_map]; exact hlen) (fun x H Kt hm sm h => ?_) fun H sm hy => ?_
  · obtain ⟨k, hk, rfl⟩ := List.mem_map.mp hm
    exact ht k H Kt hk sm h
  · rw [filter_nI q _ (fun k => rfl)] at hy
    exact hd H sm hy
/-- range(n) as a walk over naturals -/
theorem walk_rangeN {n : Nat} : Walk (Itr 0 n) ((List.range n).map nI).length (fun _ => True) (YAt ((List.range n).map nI)) := by
  have e : ((List.range n).map nI).length = n := by rw [List.length_map, List.length_range]
  rw [e]
  refine ⟨fun _ _ hi _ => hi, fun _ _ => Nat.le_refl _, fun i H x H' hi _ y => ?_⟩
  obtain ⟨h1, h2⟩ := y
  refine ⟨h1, ?_⟩
  rw [h2, List.getElem?_map, List.getElem?_range hi, Int.zero_add]
  rfl
theorem walk_listN {K : PySem.W.Frag} {a : Addr} {s : List Nat} : Walk (Itl K a) (s.map nI).length (fun H => SqL K H a (s.map nI)) (YAt (s.map nI)) := walk_list
theorem walk_tupN {K : PySem.W.Frag} {a : Addr} {s : List Nat} : Walk (Itt K a) (s.map nI).length (fun H => SqT K H a (s.map nI)) (YAt (s.map nI)) := walk_tup
end KR
namespace KR
open PySem PySem.Spec PyProof.Rows L2
/-! ### sorted lists -/
theorem ins_perm (k : Nat) : ∀ s : List Nat, (ins k s).Perm (k :: s)
  | [] => .refl _
  | x :: r => by
    unfold ins
    split
    · exact .refl _
    · exact ((ins_perm k r).cons x).trans (.swap k x r)
theorem isort_perm : ∀ s : List Nat, (isort s).Perm s
  | [] => .refl _
  | x :: r => (ins_perm x (isort r)).trans ((isort_perm r).cons x)
theorem ins_pw (k : Nat) : ∀ s : List Nat, s.Pairwise (· ≤ ·) → (ins k s).Pairwise (· ≤ ·)
  | [], _ => List.pairwise_singleton _ _
  | x :: r, h => by
    obtain ⟨h1, h2⟩ := List.pairwise_cons.mp h
    unfold ins
    split
    · rename_i hk
      refine List.pairwise_cons.mpr ⟨fun y hy => ?_, h⟩
      rcases List.mem_cons.mp hy with rfl | hy
      · exact hk
      · exact Nat.le_trans hk (h1 y hy)
    · rename_i hk
      refine List.pairwise_cons.mpr ⟨fun y hy => ?_, ins_pw k r h2⟩
      rcases List.mem_cons.mp ((ins_perm k r).mem_iff.mp hy) with rfl | hy
      · omega
      · exact h1 y hy
theorem isort_pw : ∀ s : List Nat, (isort s).Pairwise (· ≤ ·)
  | [] => .nil
  | x :: r => ins_pw x _ (isort_pw r)
theorem isort_unique {s : List Nat} {l : List Int} (hp : l.Perm (s.map Int.ofNat)) (hs : l.Pairwise (· ≤ ·)) : l = (isort s).map Int.ofNat := by
  refine List.Perm.eq_of_pairwise (le := (· ≤ ·)) (fun a b _ _ h1 h2 => Int.le_antisymm h1 h2) hs ?_ (hp.trans ((isort_perm s).map _).symm)
  rw [List.pairwise_map]
  exact (isort_pw s).imp fun h => Int.ofNat_le.mpr h
theorem map_int (s : List Nat) : (s.map Int.ofNat).map V.int = s.map nI := by
  rw [List.map_map]
  rfl
/-! ### rules over naturals -/
section
variable {X : Cx}
theorem cr_sortedN : CallR X (.builtin "sorted") (fun vs H Q => ∃ (a : Addr) (s : List Nat), vs = [V.ref a] ∧ Ls H a s ∧ ∀ p, H p = none → Q (.ref p) (upd H p (.lst ((isort s).map nI)))) := by
  intro pins s σ H vs us Q I r h
  obtain ⟨a, l, rfl, hl, q⟩ := h
  refine cr_sortedI pins s σ H _ us Q I r ⟨a, l.map Int.ofNat, rfl, by rw [map_int]; exact Ls.sq hl, fun ns' p hp hs hn => ?_⟩
  rw [isort_unique hp hs, map_int]
  exact q p hn
theorem call_lenN : CallR X (.builtin "len") (fun vs H Q => ∃ (a : Addr) (s : List Nat), vs = [V.ref a] ∧ NS H a s ∧ Q (nI s.length) H) := by
  intro pins s σ H vs us Q I r h
  obtain ⟨a, l, rfl, hl, q⟩ := h
  refine call_len_seq pins s σ H _ us Q I r ⟨a, l.map nI, rfl, hl.at, ?_⟩
  rw [List.length_map]
  exact q
/-- s + t -/
def rCatN : R2 := fun x y H Q => ∃ (a b : Addr) (s t : List Nat), x = .ref a ∧ y = .ref b ∧ Ls H a s ∧ Ls H b t ∧ s.length + t.length ≤ 1000 ∧ ∀ p, H p = none → Q (.ref p) (upd H p (.lst ((s ++ t).map nI)))
theorem op_catN : OpR X (binaryOp .Add) rCatN := by
  intro pins s σ H x y v u Q I rx ry h
  obtain ⟨a, b, l, t, rfl, rfl, hl, ht, hz, q⟩ := h
  refine op_cat pins s σ H _ _ v u Q I rx ry ⟨a, b, l.map nI, t.map nI, rfl, rfl, hl, ht, ?_, fun p hp => ?_⟩
  · rw [List.length_map, List.length_map]
    exact Nat.le_of_lt (small1000 hz)
  · rw [← List.map_append]
    exact q p hp
theorem inV_Z (i : Int) (s : List Nat) : inV (.int i) (s.map nI) = s.any fun k => decide ((k : Int) = i) := by
  induction s with
  | nil => rfl
  | cons x r ih =>
    have e : inV (.int i) ((x :: r).map nI) = (eqV (nI x) (.int i) || inV (.int i) (r.map nI)) := rfl
    have e2 : eqV (nI x) (.int i) = decide ((x : Int) = i) := by
      show eqV (V.int (x : Int)) (V.int i) = _
      first
        | rfl
        | (show ((x : Int) == i) = decide ((x : Int) = i); rw [Bool.eq_iff_iff]; simp)
        | (rw [Bool.eq_iff_iff]; simp [eqV]; try omega)
    rw [e, ih, e2]
    rfl
/-- i not in s, i an int of any sign -/
def rNotInZ : R2 := fun x y H Q => ∃ (i : Int) (a : Addr) (s : List Nat), x = .int i ∧ y = .ref a ∧ NS H a s ∧ Q (.bl (!(s.any fun k => decide ((k : Int) = i)))) H
theorem op_notInZ : OpR X (compareOp .NotIn) rNotInZ := by
  intro pins s σ H x y v u Q I rx ry h
  obtain ⟨k, a, l, rfl, rfl, hl, q⟩ := h
  refine op_notIn_seq pins s σ H _ _ v u Q I rx ry ⟨a, l.map nI, rfl, hl.at, rfl, flat_nI l, ?_⟩
  rw [inV_Z]
  exact q
/-- a % b, a + b of naturals -/
theorem op_modN' : OpR X (binaryOp .Mod) (fun x y H Q => ∃ a b : Nat, x = nI a ∧ y = nI b ∧ 0 < b ∧ Q (nI (a % b)) H) := by
  intro pins s σ H x y v u Q I rx ry h
  obtain ⟨a, b, rfl, rfl, hb, q⟩ := h
  exact op_mod pins s σ H _ _ v u Q I rx ry ⟨a, b, rfl, rfl, by show (0 : Int) < (b : Int); omega, q⟩
theorem op_addN' : OpR X (binaryOp .Add) (fun x y H Q => ∃ a b : Nat, x = nI a ∧ y = nI b ∧ Q (nI (a + b)) H) := by
  intro pins s σ H x y v u Q I rx ry h
  obtain ⟨a, b, rfl, rfl, q⟩ := h
  exact op_add pins s σ H _ _ v u Q I rx ry ⟨a, b, rfl, rfl, q⟩
/-- l == [], l != [] : only the length counts -/
def DpL (K : PySem.W.Frag) (H : Hp) (x : V) : List PyData → Prop := fun ds => Dp K H x (.list ds) ∧ SeqAt.shaped (.list ds) = true
theorem eqv_nil (ds : List PyData) : PyData.eqv (.list ds) (.list []) = ds.isEmpty := by
  cases ds <;> simp [PyData.eqv, PyData.eqvAll]
theorem dp_nil {K : PySem.W.Frag} {H : Hp} {a : Addr} (h : H a = some (.lst [])) : Dp K H (.ref a) (.list []) := .lst (Ls.sq h) .nil
def rEqNil (K : PySem.W.Frag) : R2 := fun x y H Q => ∃ (ds : List PyData) (b : Addr), DpL K H x ds ∧ y = .ref b ∧ H b = some (.lst []) ∧ Q (.bl ds.isEmpty) H
def rNeNil (K : PySem.W.Frag) : R2 := fun x y H Q => ∃ (ds : List PyData) (b : Addr), DpL K H x ds ∧ y = .ref b ∧ H b = some (.lst []) ∧ Q (.bl (!ds.isEmpty)) H
theorem shaped_nil : SeqAt.shaped (.list []) = true := by
  first | rfl | decide +kernel
theorem op_eqNil (hu : X.A.units + 64 < cLine) : OpR X (compareOp .Eq) (rEqNil X.K) := by
  intro pins s σ H x y v u Q I rx ry h
  obtain ⟨ds, b, ⟨hd, hs⟩, rfl, hb, q⟩ := h
  refine op_eqD hu pins s σ H _ _ v u Q I rx ry ⟨.list ds, .list [], hd, dp_nil hb, hs, shaped_nil, ?_⟩
  rw [eqv_nil]
  exact q
theorem op_neNil (hu : X.A.units + 64 < cLine) : OpR X (compareOp .NotEq) (rNeNil X.K) := by
  intro pins s σ H x y v u Q I rx ry h
  obtain ⟨ds, b, ⟨hd, hs⟩, rfl, hb, q⟩ := h
  refine op_neD hu pins s σ H _ _ v u Q I rx ry ⟨.list ds, .list [], hd, dp_nil hb, hs, shaped_nil, ?_⟩
  rw [eqv_nil]
  exact q
abbrev pdI (k : Nat) : PyData := .int (k : Int)
theorem dpAll_nI {K : PySem.W.Frag} {H : Hp} : ∀ s : List Nat, DpAll K H (s.map nI) (s.map pdI)
  | [] => .nil
  | k :: r => .cons (.int _) (dpAll_nI r)
theorem lay_ints : ∀ s : List Nat, PyData.canLayAll0 (s.map pdI) = true
  | [] => by simp [PyData.canLayAll0]
  | k :: r => by simp [PyData.canLayAll0, PyData.canLay0, lay_ints r]
theorem dep_ints : ∀ s : List Nat, PyData.depthAll (s.map pdI) = 0
  | [] => by simp [PyData.depthAll]
  | k :: r => by simp [PyData.depthAll, PyData.depth, dep_ints r]
theorem shaped_ints (s : List Nat) : SeqAt.shaped (.list (s.map pdI)) = true := by
  have h1 := dep_ints s
  have h2 : PyData.depth (.list (s.map pdI)) ≤ 64 := by
    simp only [PyData.depth]
    omega
  show (PyData.canLay0 (.list (s.map pdI)) && decide (PyData.depth (.list (s.map pdI)) ≤ 64)) = true
  rw [Bool.and_eq_true]
  exact ⟨by simp only [PyData.canLay0]; exact lay_ints s, decide_eq_true h2⟩
theorem dpl_ints {K : PySem.W.Frag} {H : Hp} {a : Addr} {s : List Nat} (h : Ls H a s) : DpL K H (.ref a) (s.map pdI) := ⟨.lst (Ls.sq h) (dpAll_nI s), shaped_ints s⟩
theorem isEmpty_map {α β : Type} (f : α → β) (l : List α) : (l.map f).isEmpty = l.isEmpty := by cases l <;> rfl
end
/-- both branches of an if-expression give x -/
theorem tif_val {r : Bool} {σ : L2.St} {H : Hp} {ta tb : TE} {Q : VK} (x : V) (ha : r = true → ∀ Q : VK, Q x H → ta σ H Q) (hb : r = false → ∀ Q : VK, Q x H → tb σ H Q) (q : Q x H) :
    if r = true then ta σ H Q else tb σ H Q := by
  cases r with
  | true => exact iteT (ha rfl Q q)
  | false => exact iteF (hb rfl Q q)
theorem int62 {n : Nat} (h : n ≤ 1000) : -(2 ^ 62) ≤ (n : Int) ∧ (n : Int) < 2 ^ 62 := by
  have h1 : (n : Int) ≤ 1000 := by omega
  have h2 : (1000 : Int) < 2 ^ 62 := by decide
  have h3 : -(2 ^ 62) ≤ (0 : Int) := by decide
  omega
end KR
/-! ### enumerate(tuple) -/
namespace PySem
open Sem (wp)
set_option maxHeartbeats 1000000 in
theorem kr_meets_enum1 {v : Value} {o : Obj} {H : Heap → Prop} (B : Begins v o H) :
    Meets (Builtin.«enumerate.__new__» ⟨[.type "enumerate", v], []⟩) (fun _ R s => H s.heap ∧
      R (.ok (.ret (.ref (s.heap.push o).objs.size))) { s with heap := (s.heap.push o).push { cls := .type "enumerate", data := .fields #[.none, .bool false, .ref s.heap.objs.size, rawInt 0, .none, .none] } }) :=
  .of_wp fun prog w A R s h => by
    obtain ⟨hp, g, d, tk, os⟩ := s; obtain ⟨h1, h⟩ := h
    have hsub := sub_enumerate
    have q1 : ∀ {A' : Around} {E : Value → Shared → Prop} {Q : Value → Shared → Prop}, Q (.ref hp.objs.size) ⟨hp.push o, g, d, tk, os⟩ → wpAny (model prog w) A' (pyIter v) Q E ⟨hp, g, d, tk, os⟩ :=
      fun q => B.iter prog w _ _ ⟨hp, g, d, tk, os⟩ _ h1 q
    wp_walk using q1
    refine wpAny_stack_any fun st => wpAny_pure ?_
    split
    · rename_i c _ _ _ _ _
      cases (c == Value.type "enumerate")
      · wp_walk using q1
        exact ⟨_, rfl, h⟩
      · wp_walk using q1
        exact ⟨_, rfl, h⟩
    · wp_walk using q1
      exact ⟨_, rfl, h⟩
section
variable {prog : Program} {w : World} {A : Around} {E : Value → Shared → Prop} {s : Shared}
theorem kr_enum_begins {v : Value} {o : Obj} {H : Heap → Prop} {Q : Value → Shared → Prop} (B : Begins v o H) (h1 : H s.heap)
    (h : ∀ h', IsEnum h' (s.heap.objs.size + 1) s.heap.objs.size 0 .none → h'.get? s.heap.objs.size = some o → h'.objs.size = s.heap.objs.size + 2 →
      (∀ b o, s.heap.get? b = some o → h'.get? b = some o) → Q (.ref (s.heap.objs.size + 1)) { s with heap := h' }) :
    wpAny (model prog w) A (call (.type "enumerate") [v]) Q E s := by
  refine callType_new F.called_enumerate (by decide) (F.typeCall_enumerate_1 _) (F.newCall_enumerate_1 _) (fun obj => F.args_object_init_2 obj _) F.entry_enumerate_new
    (kr_meets_enum1 B) ⟨h1, ?_⟩
  have hz : (s.heap.push o).objs.size = s.heap.objs.size + 1 := Heap.size_push ..
  show _ ∧ _
  rw [hz]
  have he : IsEnum ((s.heap.push o).push { cls := .type "enumerate", data := .fields #[.none, .bool false, .ref s.heap.objs.size, rawInt 0, .none, .none] }) (s.heap.objs.size + 1) s.heap.objs.size 0 .none := by
    have := Heap.get?_push_size (s.heap.push o) (o := { cls := .type "enumerate", data := .fields #[.none, .bool false, .ref s.heap.objs.size, rawInt 0, .none, .none] }) rfl
    rw [hz] at this; exact this
  refine ⟨⟨_, he, rfl⟩, h _ he (Heap.get?_push_of_some _ (Heap.get?_push_size _ B.free)) (by rw [Heap.size_push, hz]) fun b o x => Heap.get?_push_of_some _ (Heap.get?_push_of_some _ x)⟩
end
end PySem
namespace KR
open PySem PySem.Spec PyProof.Rows L2
/-- the tuple at a, each item in a new pair -/
def Itet (K : PySem.W.Frag) (a : Addr) : It :=
  ⟨fun i H => ∃ (xs : List V) (x : V), SqT K H a xs ∧ xs[i]? = some x, fun i H v H' => ∃ T x, v = .ref T ∧ H T = none ∧ H' = upd H T (.tup [.int (i : Nat), x]) ∧ ∀ xs, SqT K H a xs → xs[i]? = some x, fun i H => ∃ xs : List V, SqT K H a xs ∧ xs.length ≤ i⟩
theorem turn_enumT {P : Program} {w : World} {K : PySem.W.Frag} {elts : List Expr} {kk : Nat} {tpos : Pos} (a e it : Addr) :
    Turn P w K (.Tuple elts kk tpos) (Itet K a) [e, it] e (fun i h => (∃ old, IsEnum h e it ((i : Nat) : Int) old) ∧ h.IsTupleIter it a i ∧ e ≠ it) where
  mem := by simp
  obj := fun i h st b hb => by
    obtain ⟨⟨old, he⟩, ⟨o, ho, hc, hd⟩, _⟩ := st
    have e' : b = e ∨ b = it := by simpa using hb
    rcases e' with z | z
    · rw [z]; exact ⟨_, he, fun v q => nomatch q⟩
    · rw [z]; exact ⟨o, ho, fun v q => by rw [hd] at q; cases q⟩
  keep := fun i h h' st k => let ⟨⟨old, he⟩, hi, hne⟩ := st; ⟨⟨old, k e (by simp) _ he⟩, hi.at fun o q => k it (by simp) o q, hne⟩
  item := by
    intro X hP hw hK hc i pins s σ H E I hf st hg
    subst hP hw hK
    obtain ⟨⟨old, he⟩, hit, hne⟩ := st
    obtain ⟨xs, x, hq, hx⟩ := hg
    obtain ⟨its, rv, p, hz⟩ := I.tuple hq
    have p : s.heap.IsTuple a its.toArray := p
    have hel : e < s.heap.objs.size := Heap.lt_size he
    have hil : it < s.heap.objs.size := by obtain ⟨_, q, _⟩ := hit; exact Heap.lt_size q
    have hai : a ≠ it := fun z => by
      subst z
      obtain ⟨o1, g1, c1, _⟩ := id hit
      obtain ⟨o2, g2, c2, _⟩ := id p
      rw [g1] at g2
      cases g2
      rw [c1] at c2
      exact absurd c2 (by decide)
    have hae : e ≠ a := fun z => by
      subst z
      obtain ⟨o2, g2, c2, _⟩ := id p
      have g1 := he
      unfold IsEnum at g1
      rw [g1] at g2
      cases g2
      exact absurd (show Value.type "enumerate" = Value.type "tuple" from c2) (by decide)
    have hi : i < its.toArray.size := by
      obtain ⟨h1, _⟩ := List.getElem?_eq_some_iff.mp hx
      have := rv.length
      simp
      omega
    refine wpAny_pyNext_enum_itemC (Draws.tuple (A := X.A.in1) (show X.A.in1.handled = none from I.ok.hd hc) it a hai its.toArray) he ⟨hit, p⟩ hi hne (by simp [hne, hae]) fun u h' tk hu ho hst' hT hsz hk => ?_
    have ru : RelV x u := by
      obtain ⟨u', h1, h2⟩ := rv.get hx
      have h3 : its[i]? = some u := by simpa using hu
      rw [h3] at h1
      cases h1
      exact h2
    refine ⟨_, rfl, wpAny_letOwnedTupleGo_enum (s := { s with heap := h', toks := tk + 1 }) ho fun h'' he' sb => ?_⟩
    have hT2 : h''.get? s.heap.objs.size = some { cls := .type "tuple", data := .seq #[.int i tk, u] } := (sb.2 _ (Nat.ne_of_gt hel)).trans hT
    have new : ObjOk X.prog X.w (upd H s.heap.objs.size (.tup [.int (i : Nat), x])) h'' s.heap.objs.size (.tup [.int (i : Nat), x]) :=
      ⟨by show 2 ≤ sizeLine; decide, [.int i tk, u], .cons ⟨_, rfl⟩ (.cons ru .nil), ⟨_, hT2, rfl, _, rfl⟩⟩
    have I1 : Inv X pins σ (upd H s.heap.objs.size (.tup [.int (i : Nat), x])) { s with heap := h'', toks := tk + 1 } :=
      I.turnedNew (ch := [e, it]) (fun b ob hb q => (sb.2 b (fun z => hb (by simp [z]))).trans (hk b ob (fun z => hb (by simp [z])) (fun z => hb (by simp [z])) q)) hf (Nat.le_refl _) new
    refine ⟨.ref s.heap.objs.size, _, I1, rfl, ⟨_, x, rfl, I.hok.fresh (Nat.le_refl _), rfl, fun ys hy => by rw [I.tuple_inj hy hq]; exact hx⟩, ⟨⟨u, ?_⟩, hst'.1.at fun o q => (sb.2 it (Ne.symm hne)).trans q, hne⟩, fun b hb => ?_⟩
    · have e1 : ((i + 1 : Nat) : Int) = (i : Int) + 1 := by omega
      rw [e1]; exact he'
    · have hb' : b < s.heap.objs.size := by
        have e' : b = e ∨ b = it := by simpa using hb
        rcases e' with z | z
        · rw [z]; exact hel
        · rw [z]; exact hil
      rw [upd_ne (Nat.ne_of_lt hb')]
      exact (hf b hb).1
  done := by
    intro X hP hw hK hc i pins s σ H E I hf st hg
    subst hP hw hK
    obtain ⟨⟨old, he⟩, hit, hne⟩ := st
    obtain ⟨xs, hq, hx⟩ := hg
    obtain ⟨its, rv, p, hz⟩ := I.tuple hq
    have p : s.heap.IsTuple a its.toArray := p
    obtain ⟨f0, f1, f2, f3, f4, f5⟩ := hf it (by simp)
    have hl := rv.length
    have hai : a ≠ it := fun z => by
      subst z
      obtain ⟨o1, g1, c1, _⟩ := id hit
      obtain ⟨o2, g2, c2, _⟩ := id p
      rw [g1] at g2
      cases g2
      rw [c1] at c2
      exact absurd c2 (by decide)
    have D' : Draws X.prog X.w X.A.in1 it [it, a] i (fun _ _ => True) (fun j h => j = i ∧ h.IsTupleIter it a i ∧ h.IsTuple a its.toArray) :=
      ⟨fun j h st => let ⟨o, ho, _⟩ := st.2.1; ⟨o, ho⟩, fun j h h' st hk => ⟨st.1, st.2.1.at fun o e => hk it (by simp) o e, st.2.2.at fun o e => hk a (by simp) o e⟩,
        fun j s Q E hj st hQ => absurd st.1 (Nat.ne_of_lt hj), fun s Q E st hE => wpAny_nextOf_tuple_end (show X.A.in1.handled = none from I.ok.hd hc) st.2.1 st.2.2 (by simp; omega) hE⟩
    exact wpAny_pyNext_enum_endD D' he ⟨rfl, hit, p⟩ fun h' eb => ⟨rfl, I.turned (t' := s.toks) (fun b o hb q => eb b o hb q) f0 f1 f3 f4 f5⟩
  self := fun A i s Q E st h => let ⟨⟨_, he⟩, _⟩ := st; wpAny_pyIter_enum he h
def iEnumT (K : PySem.W.Frag) (ta : TA) : TI := fun σ H R => ta σ H fun vs H1 => ∃ a xs, vs = [.ref a] ∧ SqT K H1 a xs ∧ R (Itet K a) H1
theorem pi_enumT {X : Cx} {e : Expr} {ta : TA} {p pos tpos : Pos} {elts : List Expr} {kk : Nat} (hg : Gl X "enumerate") (hm : X.mg "enumerate" = none) (ha : PA X [e] ta) (hs : starEach [e] X.env = [(false, eval e X.env)] := by rfl) :
    PI X (.Tuple elts kk tpos) (.Call (.Name "enumerate" p) [e] [] pos) (iEnumT X.K ta) := by
  refine ⟨fun pins s σ H R I h => ?_⟩
  refine Call_ (ld_blt I hg hm boot_enumerate (PyProof.Rows.callWith_type1 (thn (ha.run pos pins s σ H _ I h) fun us s1 ⟨vs, H1, I1, r1, q1⟩ => ?_) hs rfl))
  obtain ⟨a, xs, ex, hq, q⟩ := q1
  subst ex
  cases r1 with
  | cons r rr =>
    cases rr
    cases r
    obtain ⟨its, rv, p', hz⟩ := I1.tuple hq
    refine kr_enum_begins (begins_tuple a its.toArray) (show s1.heap.IsTuple a its.toArray from p') fun h' he hit hsz hk => wpAny_pyIter_enum he ?_
    have I2 : Inv X pins σ H1 { s1 with heap := h' } := I1.kept (t' := s1.toks) hk
    refine ⟨s1.heap.objs.size + 1, [s1.heap.objs.size + 1, s1.heap.objs.size], _, _, H1, rfl, I2, turn_enumT a (s1.heap.objs.size + 1) s1.heap.objs.size, ⟨⟨.none, he⟩, ⟨_, hit, rfl, rfl⟩, Nat.succ_ne_self _⟩, fun b hb => ?_, q⟩
    have e' : b = s1.heap.objs.size + 1 ∨ b = s1.heap.objs.size := by simpa using hb
    have hle : s1.heap.objs.size ≤ b := by
      rcases e' with z | z
      · rw [z]; exact Nat.le_add_right _ _
      · rw [z]; exact Nat.le_refl _
    exact I1.fpOk hle (I1.hok.fresh hle)
theorem walk_enumT {K : PySem.W.Frag} {a : Addr} {xs : List V} : Walk (Itet K a) xs.length (fun H => SqT K H a xs) (YPair (fun i => some (.int (i : Nat))) (fun i => xs[i]?)) := by
  refine ⟨fun i _ hi q => ⟨xs, xs[i], q, by simp [hi]⟩, fun _ q => ⟨xs, q, Nat.le_refl _⟩, fun i H v H' _ q y => ?_⟩
  obtain ⟨T, x, h1, h2, h3, h4⟩ := y
  exact ⟨T, .int (i : Nat), x, h1, h2, h3, rfl, h4 xs q⟩
end KR
namespace KR
open PySem PySem.Spec PyProof.Rows L2
/-! ### pairs in a tuple of pairs -/
theorem hu65 {k : Nat} {A : Around} (hr : Room k A) : A.units + 65 < cLine := by
  have := hr.un
  omega
def rInTD (K : PySem.W.Frag) : R2 := fun x y H Q => ∃ (d : PyData) (ds : List PyData), Dp K H x d ∧ Dp K H y (.tuple ds) ∧ SeqAt.shaped d = true ∧ SeqAt.shaped (.tuple ds) = true ∧ Q (.bl (ds.any fun z => PyData.eqv z d)) H
theorem op_inTD {X : Cx} (hu : X.A.units + 65 < cLine) : OpR X (compareOp .In) (rInTD X.K) := by
  intro pins s σ H x y v u Q I rx ry h
  obtain ⟨d, ds, hd, he, sd, se, q⟩ := h
  obtain ⟨as, r1⟩ := Dp.reads I d x v hd rx
  obtain ⟨bs, r2⟩ := Dp.reads I (.tuple ds) y u he ry
  exact SeqAt.in_tuple_reads r2 r1 (SeqAt.canLay_of_shaped se) (SeqAt.canLay_of_shaped sd) (room_in_shaped sd hu) ⟨.bl _, H, I, rfl, q⟩
abbrev pdP (e : Nat × Nat) : PyData := .tuple [pdI e.1, pdI e.2]
/-- the pair of two naturals at p -/
abbrev PrAt (H : Hp) (p : Addr) (e : Nat × Nat) : Prop := H p = some (.tup [nI e.1, nI e.2])
abbrev Prs (H : Hp) (ps : List Addr) (es : List (Nat × Nat)) : Prop := Paired (fun p e => PrAt H p e) ps es
theorem Prs.mono {H H' : Hp} {ps : List Addr} {es : List (Nat × Nat)} (h : Prs H ps es) (t : Tups H H') : Prs H' ps es := L2.Paired.mapP h fun p e q => t _ _ q
theorem dp_pair {K : PySem.W.Frag} {H : Hp} {p : Addr} {e : Nat × Nat} (h : PrAt H p e) : Dp K H (.ref p) (pdP e) := .tup (Tp.sq h) (.cons (.int _) (.cons (.int _) .nil))
theorem dp_pairs {K : PySem.W.Frag} {H : Hp} : ∀ {ps : List Addr} {es : List (Nat × Nat)}, Prs H ps es → DpAll K H (ps.map V.ref) (es.map pdP)
  | _, _, .nil => .nil
  | _, _, .cons r t => .cons (dp_pair r) (dp_pairs t)
theorem lay_pairs : ∀ es : List (Nat × Nat), PyData.canLayAll0 (es.map pdP) = true
  | [] => by simp [PyData.canLayAll0]
  | e :: r => by
    have h : (pdP e).canLay0 = true := by simp [PyData.canLay0, PyData.canLayAll0]
    simp [PyData.canLayAll0, h, lay_pairs r]
theorem dep_pair (e : Nat × Nat) : (pdP e).depth = 1 := by simp [PyData.depth, PyData.depthAll]
theorem dep_pairs : ∀ es : List (Nat × Nat), PyData.depthAll (es.map pdP) ≤ 1
  | [] => by simp [PyData.depthAll]
  | e :: r => by
    have h1 := dep_pairs r
    have h2 := dep_pair e
    simp only [List.map_cons, PyData.depthAll]
    omega
theorem shaped_pair (e : Nat × Nat) : SeqAt.shaped (pdP e) = true := by
  have h := dep_pair e
  show ((pdP e).canLay0 && decide ((pdP e).depth ≤ 64)) = true
  rw [Bool.and_eq_true]
  exact ⟨by simp [PyData.canLay0, PyData.canLayAll0], decide_eq_true (by omega)⟩
theorem shaped_pairsT (es : List (Nat × Nat)) : SeqAt.shaped (.tuple (es.map pdP)) = true := by
  have h1 := dep_pairs es
  have h2 : PyData.depth (.tuple (es.map pdP)) ≤ 64 := by
    simp only [PyData.depth]
    omega
  show (PyData.canLay0 (.tuple (es.map pdP)) && decide (PyData.depth (.tuple (es.map pdP)) ≤ 64)) = true
  rw [Bool.and_eq_true]
  exact ⟨by simp only [PyData.canLay0]; exact lay_pairs es, decide_eq_true h2⟩
theorem eqv_pair (a b : Nat × Nat) : PyData.eqv (pdP a) (pdP b) = decide (a = b) := by
  obtain ⟨a1, a2⟩ := a
  obtain ⟨b1, b2⟩ := b
  have e : PyData.eqv (pdP (a1, a2)) (pdP (b1, b2)) = (((a1 : Int) == (b1 : Int)) && (((a2 : Int) == (b2 : Int)) && true)) := by simp only [PyData.eqv, PyData.eqvAll]
  rw [e, Bool.eq_iff_iff]
  simp
  omega
theorem any_pair (a : Nat × Nat) : ∀ es : List (Nat × Nat), ((es.map pdP).any fun z => PyData.eqv z (pdP a)) = decide (a ∈ es)
  | [] => rfl
  | e :: r => by
    rw [List.map_cons, List.any_cons, any_pair a r, eqv_pair, Bool.eq_iff_iff]
    simp only [Bool.or_eq_true, decide_eq_true_eq, List.mem_cons]
    constructor
    · rintro (h | h)
      · exact .inl h.symm
      · exact .inr h
    · rintro (h | h)
      · exact .inl h.symm
      · exact .inr h
def rInT : R2 := fun x y H Q => ∃ (p b : Addr) (e : Nat × Nat) (ps : List Addr) (es : List (Nat × Nat)), x = .ref p ∧ y = .ref b ∧ PrAt H p e ∧ H b = some (.tup (ps.map V.ref)) ∧ Prs H ps es ∧ Q (.bl (decide (e ∈ es))) H
theorem op_inT {X : Cx} (hu : X.A.units + 65 < cLine) : OpR X (compareOp .In) rInT := by
  intro pins s σ H x y v u Q I rx ry h
  obtain ⟨p, b, e, ps, es, rfl, rfl, hp, hb, hs, q⟩ := h
  refine op_inTD hu pins s σ H _ _ v u Q I rx ry ⟨pdP e, es.map pdP, dp_pair hp, .tup (Tp.sq hb) (dp_pairs hs), shaped_pair e, shaped_pairsT es, ?_⟩
  rw [any_pair]
  exact q
/-! ### a list of tuples of naturals, as data -/
abbrev pdT (s : List Nat) : PyData := .tuple (s.map pdI)
theorem dep_T (s : List Nat) : (pdT s).depth = 1 := by
  have := dep_ints s
  simp only [PyData.depth]
  omega
theorem lay_Ts : ∀ l : List (List Nat), PyData.canLayAll0 (l.map pdT) = true
  | [] => by simp [PyData.canLayAll0]
  | s :: r => by
    have h : (pdT s).canLay0 = true := by
      simp only [PyData.canLay0]
      exact lay_ints s
    simp [PyData.canLayAll0, h, lay_Ts r]
theorem dep_Ts : ∀ l : List (List Nat), PyData.depthAll (l.map pdT) ≤ 1
  | [] => by simp [PyData.depthAll]
  | s :: r => by
    have h1 := dep_Ts r
    have h2 := dep_T s
    simp only [List.map_cons, PyData.depthAll]
    omega
theorem shaped_Ts (l : List (List Nat)) : SeqAt.shaped (.list (l.map pdT)) = true := by
  have h1 := dep_Ts l
  have h2 : PyData.depth (.list (l.map pdT)) ≤ 64 := by
    simp only [PyData.depth]
    omega
  show (PyData.canLay0 (.list (l.map pdT)) && decide (PyData.depth (.list (l.map pdT)) ≤ 64)) = true
  rw [Bool.and_eq_true]
  exact ⟨by simp only [PyData.canLay0]; exact lay_Ts l, decide_eq_true h2⟩
/-- the values are tuples of these lists -/
abbrev Sts (H : Hp) (xs : List V) (l : List (List Nat)) : Prop := Paired (fun v s => ∃ a, v = .ref a ∧ Tp H a s) xs l
theorem Sts.mono {H H' : Hp} {xs : List V} {l : List (List Nat)} (h : Sts H xs l) (t : Tups H H') : Sts H' xs l := L2.Paired.mapP h fun v s ⟨a, e, q⟩ => ⟨a, e, t _ _ q⟩
theorem dp_Ts {K : PySem.W.Frag} {H : Hp} : ∀ {xs : List V} {l : List (List Nat)}, Sts H xs l → DpAll K H xs (l.map pdT)
  | _, _, .nil => .nil
  | _, _, .cons ⟨a, e, h⟩ t => by
    subst e
    exact .cons (.tup (Tp.sq h) (dpAll_nI _)) (dp_Ts t)
theorem dpl_Ts {K : PySem.W.Frag} {H : Hp} {a : Addr} {xs : List V} {l : List (List Nat)} (h : H a = some (.lst xs)) (hs : Sts H xs l) : DpL K H (.ref a) (l.map pdT) := ⟨.lst (Ls.sq h) (dp_Ts hs), shaped_Ts l⟩
theorem Sts.len {H : Hp} {xs : List V} {l : List (List Nat)} (h : Sts H xs l) : xs.length = l.length := Paired.length h
theorem sts_of {H : Hp} : ∀ {xs : List V}, (∀ x ∈ xs, ∃ a s, x = .ref a ∧ Tp H a s) → ∃ l, Sts H xs l
  | [], _ => ⟨[], .nil⟩
  | x :: r, h => by
    obtain ⟨a, s, e, q⟩ := h x List.mem_cons_self
    obtain ⟨l, hl⟩ := sts_of fun y hy => h y (List.mem_cons_of_mem _ hy)
    exact ⟨s :: l, .cons ⟨a, e, q⟩ hl⟩
theorem isEmpty_len {α β : Type} {l : List α} {m : List β} (h : l.length = m.length) : l.isEmpty = m.isEmpty := by
  cases l <;> cases m <;> first | rfl | cases h
/-! ### the web -/
/-- the web of a row or ring: its number of doors, the tuple of its arrows (in some order) -/
def WebAt (H : Hp) (a : Addr) (r : Bool) (n : Nat) : Prop := ∃ (b : Addr) (ps : List Addr) (es : List (Nat × Nat)), H a = some (.tup [nI n, .ref b]) ∧ H b = some (.tup (ps.map V.ref)) ∧ Prs H ps es ∧ (∀ e, e ∈ es ↔ e ∈ arrows r n) ∧ ps.length ≤ 100
theorem WebAt.mono {H H' : Hp} {a : Addr} {r : Bool} {n : Nat} (h : WebAt H a r n) (t : Tups H H') : WebAt H' a r n := by
  obtain ⟨b, ps, es, h1, h2, h3, h4, h5⟩ := h
  exact ⟨b, ps, es, t _ _ h1, t _ _ h2, h3.mono t, h4, h5⟩
end KR
/-! ### sorting tuples of ints of any length, the empty one too: some arrangement -/
namespace KRS
open PySem PySem.W PySem.Calls PyProof.Rows
/-- v is a tuple of ints in the heap -/
def TupI (h : Heap) (v : Value) (ns : List Int) : Prop := ∃ (a : Addr) (o : Obj) (its : Array Value) (n : Nat), v = .ref a ∧ h.get? a = some o ∧ o.cls = .type "tuple" ∧ o.data = .seq its n ∧ IntsAre its.toList ns
theorem TupI.keeps {h h' : Heap} {v : Value} {ns : List Int} (p : TupI h v ns) (k : ∀ b o, h.get? b = some o → o.cls = .type "tuple" → h'.get? b = some o) : TupI h' v ns := by
  obtain ⟨a, o, its, n, e, ho, hc, hd, hi⟩ := p
  exact ⟨a, o, its, n, e, k _ _ ho hc, hc, hd, hi⟩
section
variable {prog : Program} {w : World} {A : Around} {E : Value → Shared → Prop} {s : Shared}
theorem ints_reads {h : Heap} : ∀ {vs : List Value} {ns : List Int}, IntsAre vs ns → ∃ as, ReadsAll h vs (ns.map .int) as
  | _, _, .nil => ⟨[], .nil⟩
  | _, _, .cons n t r => by
    obtain ⟨as, q⟩ := ints_reads (h := h) r
    exact ⟨[] ++ as, .cons (.int n t) q⟩
/-- the question of one tuple against another one, whatever the sort's kind -/
theorem one_lt {f : Bool} {v u : Value} {ns ms : List Int} {Q : Bool → Shared → Prop} (hv : TupI s.heap v ns) (hu' : TupI s.heap u ms) (hu : A.units < cLine) (h : Q (HT.lexLt ns ms) s) : wpAny (model prog w) A (oneLt' f v u) Q E s := by
  obtain ⟨a, o, its, n, rfl, ho, hc, hd, hi⟩ := hv
  obtain ⟨b, o2, its2, n2, rfl, ho2, hc2, hd2, hi2⟩ := hu'
  obtain ⟨cls, dd, data, sl⟩ := o
  obtain ⟨cls2, dd2, data2, sl2⟩ := o2
  simp only at hc hd hc2 hd2
  subst hc hd hc2 hd2
  rw [oneLt'_eq]
  cases f with
  | false =>
    simp only [Bool.false_eq_true, if_false]
    exact wpAny_bind (HT.lt_tupInts ⟨_, ho, rfl, n, rfl⟩ ⟨_, ho2, rfl, n2, rfl⟩ hi hi2 hu (wpAny_truthy_bool h))
  | true =>
    simp only [if_true]
    refine wpAny_bind (wpAny_cRoomFor hu ?_)
    refine wpAny_bind (wpAny_callSpecialIfBound?_slot (T := "tuple") ⟨_, ho, rfl⟩ PySem.F.slot_tuple_lt (call_meets PySem.F.slot_tuple_lt ⟨_, ho, rfl⟩ PySem.F.entry_tuple_lt (PySem.F.args_tuple_lt_2 _ _) (HT.tuple_lt_ints a b its its2 n n2 dd dd2 sl sl2 ns ms hi hi2) ⟨ho, ho2, ?_⟩))
    exact wpAny_truthy_bool h
theorem tot_one {f : Bool} {κ : SortKind} (hk : ∀ x y, keyLt' κ x y = oneLt' f x y) {vs : List Value} (hp : ∀ v ∈ vs, ∃ ns, TupI s.heap v ns) (hu : A.units < cLine) : Srt.Tot prog w A s κ (fun p => p.1 ∈ vs) := by
  intro p q hm hm'
  obtain ⟨ns, h1⟩ := hp _ hm
  obtain ⟨ms, h2⟩ := hp _ hm'
  refine ⟨HT.lexLt ns ms, ?_⟩
  rw [hk]
  exact one_lt h1 h2 hu ⟨rfl, rfl⟩
theorem tot_tup {vs : List Value} (hp : ∀ v ∈ vs, ∃ ns, TupI s.heap v ns) (hu : A.units < cLine) : Srt.Tot prog w A s (tuples' true) (fun p => p.1 ∈ vs) := by
  intro p q hm hm'
  obtain ⟨ns, a, o, its, n, e1, ho, hc, hd, hi⟩ := hp _ hm
  obtain ⟨ms, b, o2, its2, n2, e2, ho2, hc2, hd2, hi2⟩ := hp _ hm'
  obtain ⟨as, ra⟩ := ints_reads (h := s.heap) hi
  obtain ⟨bs, rb⟩ := ints_reads (h := s.heap) hi2
  refine ⟨PyProof.Rows.lexLt itemOrd (keyToksAll (ns.map .int)) (keyToksAll (ms.map .int)), ?_⟩
  rw [e1, e2]
  refine kat_lt ho hd ho2 hd2 ?_
  have hl1 : its.size = (ns.map PyData.int).length := by
    have := hi.length
    rw [List.length_map]
    simpa using this
  have hl2 : its2.size = (ms.map PyData.int).length := by
    have := hi2.length
    rw [List.length_map]
    simpa using this
  refine katLex_alike (ns.map .int) (ms.map .int) 0 _ _ as bs ra rb (alike_ints ns ms) ?_ (fun _ _ x r t e => ?_) (by rw [hl1, hl2]) ⟨rfl, rfl⟩
  · rw [depth_ints]
    omega
  · cases ns with
    | nil => cases e
    | cons y ys =>
      rw [List.map_cons] at e
      injection e with e3 _
      rw [← e3]
      intro z
      cases z
/-- the first items -/
theorem firsts_any : ∀ (vs : List Value) (fs : List (Option Value)) {M : Model} {A : Around} {E : Value → Shared → Prop} {Q : List (Option Value) → Shared → Prop},
    Paired (fun v f => ∃ (a : Addr) (o : Obj) (its : Array Value) (n : Nat), v = .ref a ∧ s.heap.get? a = some o ∧ o.cls = .type "tuple" ∧ o.data = .seq its n ∧ its[0]? = f) vs fs → Q fs s → wpAny M A (vs.mapM firstOfTuple') Q E s
  | _, _, _, _, _, _, .nil, h => by rw [List.mapM_nil]; exact wpAny_pure h
  | _, _, M, A, E, Q, .cons (l₁ := vs) (l₂ := fs) (a := v) (b := f) ⟨a, o, its, n, e, ho, hc, hd, hf⟩ t, h => by
    subst e
    rw [List.mapM_cons]
    refine wpAny_bind ?_
    rw [kas_first_eq]
    refine wpAny_bind (Looks.here (show Looks M s.heap (typeOf (.ref a)) o.cls from (Looks.ld ho).andThen .now) ?_)
    rw [hc, if_neg (by first | decide | simp)]
    refine wpAny_bind (listItems_at ho hd (wpAny_pure ?_))
    rw [hf]
    exact wpAny_bind (firsts_any vs fs (Q := fun bs s' => wpAny M A (pure (f :: bs)) Q E s') t (wpAny_pure h))
theorem firsts_of : ∀ {vs : List Value}, (∀ v ∈ vs, ∃ ns, TupI s.heap v ns) → ∃ fs : List (Option Value), Paired (fun v f => ∃ (a : Addr) (o : Obj) (its : Array Value) (n : Nat), v = .ref a ∧ s.heap.get? a = some o ∧ o.cls = .type "tuple" ∧ o.data = .seq its n ∧ its[0]? = f) vs fs ∧
    ∀ f ∈ fs, ∀ x, f = some x → ∃ i t, x = Value.int i t
  | [], _ => ⟨[], .nil, fun _ h => nomatch h⟩
  | v :: vs, hp => by
    obtain ⟨fs, h1, h2⟩ := firsts_of (vs := vs) fun u hu => hp u (List.mem_cons_of_mem _ hu)
    obtain ⟨ns, a, o, its, n, e, ho, hc, hd, hi⟩ := hp v List.mem_cons_self
    refine ⟨its[0]? :: fs, .cons ⟨a, o, its, n, e, ho, hc, hd, rfl⟩ h1, fun f hf x ex => ?_⟩
    rcases List.mem_cons.mp hf with rfl | hf
    · cases hl : its.toList with
      | nil =>
        have : its[0]? = none := by
          rw [← Array.getElem?_toList, hl]
          rfl
        rw [this] at ex
        cases ex
      | cons y ys =>
        have h0 : its[0]? = some y := by
          rw [← Array.getElem?_toList, hl]
          rfl
        rw [h0] at ex
        cases ex
        rw [hl] at hi
        cases hi with
        | cons i t r => exact ⟨i, t, rfl⟩
    · exact h2 f hf x ex
/-- the kind that the sort finds -/
theorem kind_any {vs : List Value} (h2 : 2 ≤ vs.length) (hp : ∀ v ∈ vs, ∃ ns, TupI s.heap v ns) : ∃ κ, (κ = tuples' true ∨ κ = general' ∨ κ = oneType') ∧
    ∀ (Q : SortKind → Shared → Prop) (E : Value → Shared → Prop), Q κ s → wpAny (model prog w) A (keyKind' vs.toArray) Q E s := by
  obtain ⟨fs, h1, h3⟩ := firsts_of hp
  have hl : vs.length = fs.length := Paired.length h1
  by_cases hall : (fs.toArray.all fun x => x.isSome) = true
  · refine ⟨tuples' true, .inl rfl, fun Q E h => ?_⟩
    rw [kat_kind_eq, List.mapM_toArray, map_eq_pure_bind]
    refine wpAny_bind (wpAny_bind (firsts_any vs fs h1 (wpAny_pure ?_)))
    rw [if_pos hall]
    refine wpAny_bind (wpAny_rule ?_)
    have hsome : ∀ f ∈ fs, ∃ i t, f = some (Value.int i t) := fun f hf => by
      have hx : f.isSome = true := by
        simp only [List.all_toArray, List.all_eq_true] at hall
        exact hall f hf
      obtain ⟨x, rfl⟩ := Option.isSome_iff_exists.mp hx
      obtain ⟨i, t, e⟩ := h3 _ hf x rfl
      exact ⟨i, t, by rw [e]⟩
    have hfm : ∃ l : List Value, fs.toArray.filterMap id = l.toArray ∧ 0 < l.length ∧ ∀ v ∈ l, ∃ i t, v = Value.int i t := by
      refine ⟨fs.filterMap id, by simp, ?_, fun v hv => ?_⟩
      · cases fs with
        | nil =>
          have e0 : vs.length = 0 := hl
          omega
        | cons f r =>
          obtain ⟨i, t, e⟩ := hsome f List.mem_cons_self
          rw [e]
          simp
      · obtain ⟨f, hf, e⟩ := List.mem_filterMap.mp hv
        obtain ⟨i, t, e2⟩ := hsome f hf
        rw [e2] at e
        exact ⟨i, t, (Option.some.inj e).symm⟩
    obtain ⟨l, e, hpos, hint⟩ := hfm
    rw [e, oneTypeOnly'_eq, List.mapM_toArray, map_eq_pure_bind]
    refine wpAny_bind (wpAny_bind (wpAny_bind (kas_mapM (r := Value.type "int") _ (fun v hv Q' hq => ?_) (wpAny_pure ?_))))
    · obtain ⟨i, t, rfl⟩ := hint v hv
      exact (Looks.now : Looks _ s.heap (typeOf (.int i t)) (.type "int")).here hq
    · have hall2 : ((List.map (fun _ => Value.type "int") l).toArray.all fun x => x == Value.type "int") = true := by
        simp only [List.all_toArray, List.all_map, List.all_eq_true]
        intro _ _
        rfl
      have h0 : (List.map (fun _ => Value.type "int") l).toArray[0]? = some (Value.type "int") := by
        cases l with
        | nil => cases hpos
        | cons x r => simp
      rw [h0]
      simp only [hall2, if_true]
      exact wpAny_pure (wpAny_pure h)
  · by_cases hf : (fs.toArray[0]?.bind id).isSome = true
    · refine ⟨general', .inr (.inl rfl), fun Q E h => ?_⟩
      rw [kat_kind_eq, List.mapM_toArray, map_eq_pure_bind]
      refine wpAny_bind (wpAny_bind (firsts_any vs fs h1 (wpAny_pure ?_)))
      rw [if_neg hall, if_pos hf]
      exact wpAny_pure h
    · refine ⟨oneType', .inr (.inr rfl), fun Q E h => ?_⟩
      rw [kat_kind_eq, List.mapM_toArray, map_eq_pure_bind]
      refine wpAny_bind (wpAny_bind (firsts_any vs fs h1 (wpAny_pure ?_)))
      rw [if_neg hall, if_neg hf, oneTypeOnly'_eq, List.mapM_toArray, map_eq_pure_bind]
      refine wpAny_bind (wpAny_bind (wpAny_bind (kas_mapM (r := Value.type "tuple") _ (fun v hv Q' hq => ?_) (wpAny_pure ?_))))
      · obtain ⟨ns, a, o, its, n, rfl, ho, hc, _⟩ := hp v hv
        rw [← hc] at hq
        exact (show Looks _ s.heap (typeOf (.ref a)) o.cls from (Looks.ld ho).andThen .now).here hq
      · have hall2 : ((List.map (fun _ => Value.type "tuple") vs).toArray.all fun x => x == Value.type "tuple") = true := by
          simp only [List.all_toArray, List.all_map, List.all_eq_true]
          intro _ _
          rfl
        have h0 : (List.map (fun _ => Value.type "tuple") vs).toArray[0]? = some (Value.type "tuple") := by
          cases vs with
          | nil => cases h2
          | cons x r => simp
        rw [h0]
        simp only [hall2, if_true]
        exact wpAny_pure (wpAny_pure h)
theorem sortable {a : Addr} {vs : List Value} (h2 : 2 ≤ vs.length) (hu : A.units < cLine) (hp : ∀ v ∈ vs, ∃ ns, TupI s.heap v ns) (ha : ∀ o, s.heap.get? a = some o → o.cls ≠ .type "tuple") : Srt.Sortable prog w A s a vs := by
  intro h' keep
  have hp' : ∀ v ∈ vs, ∃ ns, TupI h' v ns := fun v hm => by
    obtain ⟨ns, p⟩ := hp v hm
    exact ⟨ns, p.keeps fun b o e c => keep b o (fun z => by subst z; exact ha o e c) e⟩
  obtain ⟨κ, hκ, hk⟩ := kind_any (prog := prog) (w := w) (A := A) (s := { s with heap := h' }) h2 hp'
  refine ⟨κ, hk, ?_⟩
  rcases hκ with rfl | rfl | rfl
  · exact tot_tup (s := { s with heap := h' }) hp' hu
  · exact tot_one (s := { s with heap := h' }) (f := false) (fun _ _ => rfl) hp' hu
  · exact tot_one (s := { s with heap := h' }) (f := true) (fun _ _ => rfl) hp' hu
end
end KRS
/-! ### d.keys() of a dict with tuple keys, sorted -/
namespace KRS
open PySem PySem.W PySem.Calls PyProof.Rows PyProof.V PySem.Spec
section
variable {prog : Program} {w : World} {A : Around} {E : Value → Shared → Prop} {s : Shared}
theorem meets_keys {d : Addr} {es : Array DictEntry} {ep : Nat} (hd : (d == sysModules) = false) :
    MeetsIn prog w (Builtin.«dict.keys» ⟨[.ref d], []⟩) (fun _ R s => DT.Raw s.heap d es ep ∧
      R (.ok (.ret (.ref s.heap.objs.size))) { s with heap := s.heap.push { cls := .type "dict_keys", data := .fields #[.ref d] } }) :=
  .of_wp fun A R s ⟨hm, h⟩ => by
    refine wpAny_bind ?_
    unfold Builtin.Dict.noArgs
    refine wpAny_bind (wpAny_notOrdered_dict hm.typeIs ?_)
    show wpAny _ _ (pure d) _ _ s
    refine wpAny_pure ?_
    show wpAny _ _ (Builtin.Dict.showsAll d >>= _) _ _ s
    unfold Builtin.Dict.showsAll
    rw [if_neg (by rw [hd]; exact Bool.false_ne_true)]
    refine wpAny_bind (wpAny_pure ?_)
    exact wpAny_bind (wpAny_newObj_type (wpAny_pure ⟨_, rfl, h⟩))
theorem call_keys {d : Addr} {es : Array DictEntry} {ep : Nat} {Q : Value → Shared → Prop} (hd : (d == sysModules) = false) (hm : DT.Raw s.heap d es ep)
    (h : Q (.ref s.heap.objs.size) { s with heap := s.heap.push { cls := .type "dict_keys", data := .fields #[.ref d] } }) : wpAny (model prog w) A (call (.builtin "dict.keys") [.ref d]) Q E s :=
  call_meetsIn PySem.F.slot_dict_keys hm.typeIs PySem.F.entry_dict_keys (PySem.F.args_dict_keys_1 _) (meets_keys (es := es) (ep := ep) hd) ⟨hm, h⟩
theorem iter_view {v d : Addr} {o : Obj} {es : Array DictEntry} {ep : Nat} {Q : Value → Shared → Prop} (hv : KdlKeysView s.heap v d) (ho : s.heap.get? d = some o) (hdat : o.data = .dict es ep)
    (hQ : Q (.ref s.heap.objs.size) { s with heap := s.heap.push { cls := .type "dict_keyiterator", data := .fields #[.ref d, .int 0 0, .int es.size 0, .int ep 0] } }) :
    wpAny (model prog w) A (pyIter (.ref v)) Q E s := by
  obtain ⟨ov, hov, hcv, hdv⟩ := id hv
  refine wpAny_pyIter_slot hv.typeIs kdl_slot_keys_iter (wpAny_call_entry kdl_slot_keys_iter hv.typeIs kdl_entry_keys_iter ?_ (kdl_args_keys_iter _))
  unfold Builtin.«dict_keys.__iter__»
  refine wpAny_bind (wpAny_pure ?_)
  refine wpAny_bind ?_
  unfold Builtin.Dict_items.dictOf
  refine wpAny_bind (wpAny_field hov hdv (x := .ref d) rfl (wpAny_pure ?_))
  refine wpAny_bind ?_
  unfold Builtin.Dict_items.newIterator
  refine wpAny_bind (wpAny_dictEntries ho hdat ?_)
  refine wpAny_bind (wpAny_dictEpoch ho hdat ?_)
  have hown : Builtin.Dict_items.ownsTuple "dict_keyiterator" = false := by decide
  simp only [hown, Bool.false_eq_true, if_false]
  refine wpAny_newObj_type (wpAny_pure ⟨_, rfl, "dict_keyiterator", _, ⟨_, Heap.get?_push_size _ rfl, rfl⟩, PySem.F.slot_dict_keyiterator_next.lookup, ?_⟩)
  simpa [rawInt] using hQ
theorem src_keys {r d : Addr} {o : Obj} {es : Array DictEntry} {ep : Nat} (hd : o.data = .dict es ep) :
    KdlSrc prog w "dict_keys" r d es.size (fun i v => ∃ en : DictEntry, es[i]? = some en ∧ v = en.key) (fun h => KdlKeysView h r d ∧ h.get? d = some o) where
  type := fun _ hm => hm.1.typeIs
  there := fun _ hm => ⟨let ⟨_, ho, _⟩ := hm.1; Heap.lt_size ho, Heap.lt_size hm.2⟩
  keep := fun _ _ hm hk => ⟨let ⟨o, ho, x⟩ := hm.1; ⟨o, hk r (.inl rfl) o ho, x⟩, hk d (.inr rfl) _ hm.2⟩
  notList := by decide
  notTuple := by decide
  hint := fun _ _ _ _ hm hq => kdl_hint_keys hm.1.typeIs hq
  iter := fun _ s hh hm => ⟨_, _, (fun _ _ hq => iter_view hm.1 hm.2 hd hq), L2.walks_raw hh _ d (Nat.ne_of_lt (Heap.lt_size hm.2)) hd, ⟨⟨_, Heap.get?_push_size _ rfl, rfl, rfl⟩, Heap.get?_push_of_some _ hm.2⟩⟩
end
end KRS
namespace KR
open PySem PySem.Spec PyProof.Rows L2
/-- the view of the keys of the dict at d -/
def keysO (p d : Addr) : HO := .ext fun h => PySem.W.KdlKeysView h p d
theorem keysO_ok {P : Program} {w : World} {H : Hp} {h : Heap} {p d : Addr} (e : h.get? p = some { cls := .type "dict_keys", data := .fields #[.ref d] }) : ObjOk P w H h p (keysO p d) :=
  ⟨⟨_, e, rfl, rfl⟩, ⟨_, e⟩, fun h1 h2 x k => let ⟨o, ho, r⟩ := x; ⟨o, k o ho, r⟩⟩
/-- the dict's keys: tuples of naturals -/
abbrev kI (k : Nat) : L2.Key := Sum.inl (k : Int)
abbrev kN (s : List Nat) : List L2.Key := s.map kI
theorem kN_V (s : List Nat) : (kN s).map kV = s.map nI := by
  rw [List.map_map]
  rfl
theorem kN_inj {a b : List Nat} (h : kN a = kN b) : a = b := by
  have h2 := congrArg (List.map kV) h
  rw [kN_V, kN_V] at h2
  exact nIs_inj h2
section
variable {X : Cx}
def rKeysT : V → List V → Hp → VK → Prop := fun x xs H Q => ∃ (a : Addr) (kvs : List (List L2.Key × V)), x = .ref a ∧ xs = [] ∧ H a = some (.dT kvs) ∧ ∀ p, H p = none → Q (.ref p) (upd H p (keysO p a))
theorem mt_keysT : MtR X "dict.keys" rKeysT := by
  intro pins s σ H x xs v us Q I rx rxs h
  obtain ⟨a, kvs, rfl, rfl, ha, q⟩ := h
  cases rx
  cases rxs
  obtain ⟨z, hd, xs', rel, o, es, ep, ho, hx, hdat, _⟩ := dt_of I.hok ha
  refine KRS.call_keys (es := es) (ep := ep) hd ⟨o, ho, hx, hdat⟩ ?_
  have hf : H s.heap.objs.size = none := I.hok.fresh (Nat.le_refl _)
  exact ⟨.ref s.heap.objs.size, upd H s.heap.objs.size (keysO s.heap.objs.size a), I.laid (t' := s.toks) (fun b u e => Heap.get?_push_of_some _ e) (Nat.le_refl _) (keysO_ok (Heap.get?_push_size _ rfl)), rfl, q _ hf⟩
/-- sorted(d.keys()): a new list of the keys' own tuples in some order -/
def rSortK : List V → Hp → VK → Prop := fun vs H Q => ∃ (p a : Addr) (l : List (List Nat × V)), vs = [.ref p] ∧ H p = some (keysO p a) ∧ H a = some (.dT (l.map fun e => (kN e.1, e.2))) ∧
  ∀ (q : Addr) (xs : List V), H q = none → xs.length = l.length → (∀ x ∈ xs, ∃ (b : Addr) (e : List Nat × V), e ∈ l ∧ x = .ref b ∧ Tp H b e.1) → Q (.ref q) (upd H q (.lst xs))
theorem cr_sortedK (hc : X.calm = true) (hu : X.A.units + 64 < cLine) : CallR X (.builtin "sorted") rSortK := by
  intro pins s σ H xs us Q I r h
  obtain ⟨p, a, l, rfl, hp, ha, q⟩ := h
  obtain rfl := Vals.ref1 r
  have view : PySem.W.KdlKeysView s.heap p a := (show ObjOk X.prog X.w H s.heap p (keysO p a) from I.hok p _ hp).1
  obtain ⟨z, hd, xs', rel, o, es, ep, ho, hx, hdat, hes, his, hn⟩ := dt_of I.hok ha
  have l1 : (l.map fun e => (kN e.1, e.2)).length = xs'.length := Paired.length rel
  rw [List.length_map] at l1
  rw [List.length_map] at z
  have l2 : es.size = xs'.length := size_of_entries hes
  have hh : X.A.handled = none := I.ok.hd hc
  refine Calls.call_function_entry PyProof.Rows.kind_sorted PyProof.Rows.plain_sorted PyProof.Rows.entry_sorted (PyProof.Rows.args_sorted1 _) ?_
  unfold Builtin.«sorted»
  refine wpAny_bind (m := checkCount "sorted" 1 1 _) (wpAny_pure ?_)
  refine wpAny_bind (PySem.W.kdu_collect (A := X.A.in1) (KRS.src_keys hdat) hh ⟨view, ho⟩ (by rw [l2, ← l1]; exact z) fun h' tk acc hk hacc => ?_)
  have hal : acc.toList.length = l.length := by rw [Array.length_toList, hacc.1, l2, l1]
  -- each item is a key's tuple
  have it : ∀ v ∈ acc.toList, ∃ (b : Addr) (e : List Nat × V), e ∈ l ∧ v = .ref b ∧ Tp H b e.1 := by
    intro v hv
    obtain ⟨j, hj⟩ := List.mem_iff_getElem?.mp hv
    obtain ⟨en, hen, ev⟩ := hacc.2 j v (by rw [← Array.getElem?_toList]; exact hj)
    rw [entry_at hes j] at hen
    cases hxj : xs'[j]? with
    | none =>
      rw [hxj] at hen
      exact nomatch (show (none : Option DictEntry) = some en from hen)
    | some x =>
      rw [hxj] at hen
      have een : entryOfKey (tupleKind (mixKind X.prog X.w)) x = en := Option.some.inj hen
      obtain ⟨e0, he0, r1, r2, r3⟩ := L2.DX.pget rel hxj
      obtain ⟨e, hel, rfl⟩ := List.mem_map.mp (List.mem_of_getElem? he0)
      refine ⟨x.2.1, e, hel, ?_, ?_⟩
      · rw [ev, ← een]
        rfl
      · have r2' : H x.2.1 = some (.tup ((kN e.1).map kV)) := r2
        rw [kN_V] at r2'
        exact r2'
  have I1 : Inv X pins σ H { s with heap := h', toks := tk } := I.kept hk
  refine wpAny_bind (wpAny_newList ?_ (by rw [hal]; exact z))
  have hoL : (h'.push (seqObj "list" acc.toList.toArray 0)).get? h'.objs.size = some (seqObj "list" acc.toList.toArray 0) := Heap.get?_push_size _ rfl
  show wpAny _ _ _ _ _ { s with heap := h'.push (seqObj "list" acc.toList.toArray 0), toks := tk }
  have tups : ∀ v ∈ acc.toList, ∃ ns, KRS.TupI (h'.push (seqObj "list" acc.toList.toArray 0)) v ns := by
    intro v hv
    obtain ⟨b, e, _, rfl, hb⟩ := it v hv
    obtain ⟨_, its, rv, ot, hot, hct, nt, hdt⟩ := (show ObjOk X.prog X.w H h' b (.tup (e.1.map nI)) from I1.hok b _ hb)
    refine ⟨e.1.map Int.ofNat, b, ot, its.toArray, nt, rfl, Heap.get?_push_of_some _ hot, hct, hdt, ?_⟩
    rw [← map_int] at rv
    simpa using rv.ints
  refine wpAny_bind (wpAny_holding (wpAny_call_entry PyProof.Rows.slot_list_sort ⟨_, hoL, rfl⟩ PyProof.Rows.entry_list_sort
    (Srt.list_sort_any (s := { s with heap := h'.push (seqObj "list" acc.toList.toArray 0), toks := tk }) hoL (by rw [hal]; exact z)
      (fun h2 => KRS.sortable (s := { s with heap := h'.push (seqObj "list" acc.toList.toArray 0), toks := tk }) h2 (by show X.A.units + 1 + 1 < cLine; omega) tups fun o e => ?_) fun out hp => ⟨_, rfl, ?_⟩)
    (PyProof.Rows.args_list_sort _)))
  · have e' : some o = some (seqObj "list" acc.toList.toArray 0) := e.symm.trans hoL
    cases e'
    intro c
    exact absurd (Value.type.inj c) (by decide)
  · obtain ⟨e', he'⟩ := PyProof.Rows.sortedHeap_at (vs := acc.toList) (out := out.toArray) hoL
    have hback : ∀ v ∈ out, ∃ b, v = Value.ref b := fun v hv => by
      obtain ⟨b, _, _, e, _⟩ := it v (hp.mem_iff.mp hv)
      exact ⟨b, e⟩
    have hlen : (out.map backV).length = l.length := by rw [List.length_map, hp.length_eq, hal]
    have hf : H h'.objs.size = none := I1.hok.fresh (Nat.le_refl _)
    refine wpAny_pure ⟨_, rfl, .ref h'.objs.size, upd H h'.objs.size (.lst (out.map backV)), I1.laid (t' := tk) (fun b u e => ?_) (Nat.le_refl _) ⟨by rw [hlen]; exact z, out, e', vals_back hback, he'⟩, rfl, q _ _ hf hlen fun x hx => ?_⟩
    · have hb : b ≠ h'.objs.size := Nat.ne_of_lt (Heap.lt_size e)
      have e2 : (h'.push (seqObj "list" acc.toList.toArray 0)).get? b = some u := Heap.get?_push_of_some _ e
      exact (PyProof.Rows.sortedHeap_old hb (Heap.lt_size e2)).trans e2
    · obtain ⟨v, hv, rfl⟩ := List.mem_map.mp hx
      obtain ⟨b, e, he, rfl, hb⟩ := it v (hp.mem_iff.mp hv)
      exact ⟨b, e, he, rfl, hb⟩
end
end KR
namespace KR
open PySem PySem.Spec PyProof.Rows L2
/-! ### {k: v}, k a tuple -/
/-- one pair, its key a tuple that stands; the new dict stands empty while the pair is made -/
def tDispT (tk tv : TE) : TE := fun σ H Q => ∀ p, H p = none → tk σ (upd H p (.dT [])) fun x H1 => tv σ H1 fun y H2 => H2 p = some (.dT []) ∧ ∃ (b : Addr) (ks : List L2.Key), x = .ref b ∧ H2 b = some (.tup (ks.map kV)) ∧ Q (.ref p) (upd H2 p (.dT [(ks, y)]))
theorem pe_dispT {X : Cx} {pos : Pos} {k v : Expr} {tk tv : TE} (hu : X.A.units + 1 < cLine) (hk : PE X k tk) (hv : PE X v tv) : PE X (.Dict [some k] [v] pos) (tDispT tk tv) := by
  refine ⟨fun pins s σ H Q I q => ?_⟩
  have hn := I.hok.fresh (Nat.le_refl s.heap.objs.size)
  have I1 := I.laid (a := s.heap.objs.size) (o := .dT []) (h' := s.heap.push { cls := .type "dict", data := .dict #[] }) (t' := s.toks) (fun _ _ q => Heap.get?_push_of_some _ q) (Nat.le_refl _) (dt_empty s.heap I.big)
  have hpl := pairTrees_length [some k] [v] X.env pos rfl rfl
  have h0 : pairTrees [some k] [v] X.env pos ≠ [] := fun z => by
    rw [z] at hpl
    cases hpl
  rw [arm_eval_Dict, zip_pairTrees [some k] [v] X.env pos rfl rfl, dictDisplay_pairs _ h0 (by rw [hpl]; show 1 < 17; decide)]
  refine wpAny_bind (wpAny_standAt (wpAny_bind (wpAny_subDictH (knd := tupleKind (mixKind X.prog X.w)) (Q := fun d s' => wpAny (model X.prog X.w) X.A (pure (Value.ref d)) (EP X pins σ Q) X.xe s') (show X.A.units < cLine by omega) (by rw [hpl]; show 1 ≤ 15; decide) ?_)))
  refine thn ((pps_cons hk hv pps_nil).run pins _ σ _ (fun ps H2 => ∃ x y, ps = [(x, y)] ∧ H2 s.heap.objs.size = some (.dT []) ∧ ∃ (b : Addr) (ks : List L2.Key), x = .ref b ∧ H2 b = some (.tup (ks.map kV)) ∧ Q (.ref s.heap.objs.size) (upd H2 s.heap.objs.size (.dT [(ks, y)]))) I1 ?_) fun ws s2 hq => ?_
  · have h1 := q _ hn
    refine (?_ : tPairs [(tk, tv)] σ _ _)
    show tk σ _ fun x H1 => tv σ H1 fun y H2 => ∃ x' y', [(x, y)] = [(x', y')] ∧ _
    have e : (fun (x : V) (H1 : Hp) => tv σ H1 fun y H2 => ∃ x' y', [(x, y)] = [(x', y')] ∧ H2 s.heap.objs.size = some (.dT []) ∧ ∃ (b : Addr) (ks : List L2.Key), x' = .ref b ∧ H2 b = some (.tup (ks.map kV)) ∧ Q (.ref s.heap.objs.size) (upd H2 s.heap.objs.size (.dT [(ks, y')]))) =
        fun x H1 => tv σ H1 fun y H2 => H2 s.heap.objs.size = some (.dT []) ∧ ∃ (b : Addr) (ks : List L2.Key), x = .ref b ∧ H2 b = some (.tup (ks.map kV)) ∧ Q (.ref s.heap.objs.size) (upd H2 s.heap.objs.size (.dT [(ks, y)])) := by
      funext x H1
      congr 1
      funext y H2
      apply propext
      constructor
      · rintro ⟨x', y', e, h⟩
        cases e
        exact h
      · intro h
        exact ⟨x, y, rfl, h⟩
    rw [e]
    exact h1
  obtain ⟨ps, H2, I2, rel, x, y, rfl, hd, b, ks, rfl, hb, qq⟩ := hq
  cases rel with
  | cons r0 rt =>
    rename_i p0 ws0
    cases rt
    obtain ⟨u, v'⟩ := p0
    obtain ⟨ru, rv⟩ := r0
    cases (show u = Value.ref b from ru)
    obtain ⟨z, hs, xs0, r00, dd⟩ := dt_of I2.hok hd
    cases r00
    refine ⟨[(ks, b, v')], ⟨rfl, rfl, key_of I2.hok hb, trivial⟩, dd, fun h' tk' dd' hs' => wpAny_pure ⟨.ref s.heap.objs.size, _, ?_, rfl, qq⟩⟩
    have e1 : storedAllH ([] : List (List L2.Key × Addr × Value)) [(ks, b, v')] = [(ks, b, v')] := rfl
    rw [e1] at dd'
    obtain ⟨q0, es, ep, hq0, h2, h3, h4, _, h5⟩ := dd'
    refine d_write I2 (by rw [hd]; exact True.intro) hs' ⟨q0, hq0⟩ ⟨by show 1 ≤ sizeLine; decide, hs, [(ks, b, v')], .cons ⟨rfl, ?_, rv⟩ .nil, q0, es, ep, hq0, h2, h3, h4, h5⟩
    rw [upd_ne (ne_of hb hd (fun z => nomatch z))]
    exact hb
/-! ### a call of a local name that holds a def -/
def tCallH (P : Program) (w : World) (K : PySem.W.Frag) (mg : Str → Option Value) (base : Heap) (k i : Nat) (t : TA) : TE := fun σ H Q => ∃ (f : Addr) (sp : Sp), σ[i]? = some (some (.ref f)) ∧ Held P w K mg base k f sp ∧ t σ H fun vs H1 => sp vs H1 Q E0
theorem pe_callH {X : Cx} {k i : Nat} {x : Str} {p pos : Pos} {e : Expr} {es : List Expr} {t : TA} (hr : Room k X.A) (hN : X.N[i]? = some x) (hv : Vis X.env.scope x) (ha : PA X (e :: es) t)
    (hdb : (x == ("__debug__" : Str)) = false := by decide) (hcd : (x == ("__classdict__" : Str)) = false := by decide)
    (he : starEach (e :: es) X.env = (false, eval e X.env) :: starEach es X.env := by rfl) (hpl : (backTo pos (starEach es X.env)).any (·.1) = false := by rfl) :
    PE X (.Call (.Name x p) (e :: es) [] pos) (tCallH X.prog X.w X.K X.mg X.base k i t) := by
  refine ⟨fun pins s σ H Q I h => ?_⟩
  obtain ⟨f, sp, hs, hH, ht⟩ := h
  obtain ⟨fd, ps, F, hk, hb⟩ := hH.ex
  refine (pe_callL (i := i) (f := f) (sp := sp) (dvs := []) (E := E0) F hr hN hv hk hb .nil pass0 ha hdb hcd he hpl).run pins s σ H Q I ⟨hs, ?_⟩
  have e0 : (fun (vs : List V) (H1 : Hp) => sp (vs ++ []) H1 Q E0) = fun vs H1 => sp vs H1 Q E0 := by
    funext vs H1
    rw [List.append_nil]
  rw [e0]
  exact ht
theorem held_of {P : Program} {w : World} {K : PySem.W.Frag} {mg : Str → Option Value} {base : Heap} {k : Nat} {x : Str} {sp : Sp} {f : Addr} (c : Cal P w K mg base k x sp) (hm : mg x = some (.ref f)) : Held P w K mg base k f sp := by
  obtain ⟨g, fd, ps, F, h1, h2, h3⟩ := c
  rw [hm] at h1
  cases h1
  exact ⟨fd, ps, F, h2, h3⟩
theorem glob_of {P : Program} {w : World} {K : PySem.W.Frag} {mg : Str → Option Value} {base : Heap} {k : Nat} {x : Str} {sp : Sp} (c : Cal P w K mg base k x sp) : ∃ f, mg x = some (.ref f) := by
  obtain ⟨g, fd, ps, F, h1, h2, h3⟩ := c
  exact ⟨g, h1⟩
end KR
namespace KR
open PySem PySem.Spec PyProof.Rows L2
/-! ### the dicts: their pairs as plain data -/
abbrev emb (e : List Nat × Nat) : List L2.Key × V := (kN e.1, nI e.2)
theorem Tp.key {H : Hp} {b : Addr} {s : List Nat} (h : Tp H b s) : H b = some (.tup ((kN s).map kV)) := by
  rw [kN_V]
  exact h
theorem get_nil (k : List Nat) : KR.get [] k = none := rfl
theorem get_pos {p : List Nat × Nat} {r : D} {k : List Nat} (e : p.1 = k) : KR.get (p :: r) k = some p.2 := by simp [KR.get, List.find?_cons, e]
theorem get_neg {p : List Nat × Nat} {r : D} {k : List Nat} (e : ¬ p.1 = k) : KR.get (p :: r) k = KR.get r k := by simp [KR.get, List.find?_cons, e]
theorem get_emb (k : List Nat) : ∀ d : D, valV (d.map emb) (kN k) = (KR.get d k).map nI
  | [] => rfl
  | p :: r => by
    by_cases e : p.1 = k
    · rw [get_pos e, List.map_cons, valV_pos (show (emb p).1 = kN k by show kN p.1 = kN k; rw [e])]
      rfl
    · rw [get_neg e, List.map_cons, valV_neg (show ¬ (emb p).1 = kN k from fun z => e (kN_inj z)), get_emb k r]
theorem any_emb (k : List Nat) : ∀ d : D, ((d.map emb).any fun kv => decide (kv.1 = kN k)) = d.any fun p => decide (p.1 = k)
  | [] => rfl
  | p :: r => by
    rw [List.map_cons, List.any_cons, List.any_cons, any_emb k r]
    congr 1
    rw [decide_eq_decide]
    constructor
    · intro z
      exact kN_inj z
    · intro z
      show kN p.1 = kN k
      rw [z]
theorem put_emb (d : D) (k : List Nat) (v : Nat) : putK (d.map emb) (kN k) (nI v) = (KR.put d k v).map emb := by
  unfold putK KR.put
  rw [any_emb]
  split
  · rw [List.map_map, List.map_map]
    refine List.map_congr_left fun p _ => ?_
    show (if kN p.1 = kN k then (kN p.1, nI v) else emb p) = emb (if p.1 = k then (p.1, v) else p)
    by_cases e : p.1 = k
    · rw [if_pos e, if_pos (by rw [e])]
    · rw [if_neg e, if_neg (fun z => e (kN_inj z))]
  · rw [List.map_append]
    rfl
theorem omap_inj {a b : Option Nat} (h : a.map nI = b.map nI) : a = b := by
  cases a <;> cases b
  · rfl
  · cases h
  · cases h
  · rw [nI_inj (Option.some.inj h)]
theorem get_put (d : D) (k j : List Nat) (v : Nat) : KR.get (KR.put d k v) j = if j = k then some v else KR.get d j := by
  apply omap_inj
  rw [← get_emb, ← put_emb, valV_put]
  by_cases e : j = k
  · rw [if_pos e, if_pos (by rw [e])]
    rfl
  · rw [if_neg e, if_neg (fun z => e (kN_inj z)), get_emb]
theorem put_len (d : D) (k : List Nat) (v : Nat) : d.length ≤ (KR.put d k v).length := by
  unfold KR.put
  split
  · rw [List.length_map]
    exact Nat.le_refl _
  · rw [List.length_append]
    omega
theorem isSome_put {d : D} {k j : List Nat} {v : Nat} (h : (KR.get d j).isSome = true) : (KR.get (KR.put d k v) j).isSome = true := by
  rw [get_put]
  split
  · rfl
  · exact h
/-! ### folds -/
theorem fold_mono {α β : Type} {f : β → α → β} {m : β → Nat} (h : ∀ p x, m p ≤ m (f p x)) : ∀ (l : List α) (p : β), m p ≤ m (l.foldl f p)
  | [], p => Nat.le_refl _
  | x :: l, p => Nat.le_trans (h p x) (fold_mono h l (f p x))
theorem fold_split {α β : Type} (f : β → α → β) (l : List α) (i : Nat) (p : β) : l.foldl f p = (l.drop i).foldl f ((l.take i).foldl f p) := by
  rw [← List.foldl_append, List.take_append_drop]
theorem fold_part {α β : Type} {f : β → α → β} {m : β → Nat} (h : ∀ p x, m p ≤ m (f p x)) (l : List α) (i : Nat) (p : β) : m ((l.take i).foldl f p) ≤ m (l.foldl f p) := by
  rw [fold_split f l i p]
  exact fold_mono h _ _
theorem fold_inv {α β : Type} {f : β → α → β} {I : β → Prop} : ∀ (l : List α) (p : β), I p → (∀ p x, x ∈ l → I p → I (f p x)) → I (l.foldl f p)
  | [], _, h, _ => h
  | x :: l, p, h, hs => fold_inv l (f p x) (hs p x List.mem_cons_self h) fun p y hy => hs p y (List.mem_cons_of_mem _ hy)
/-! ### _law_from, plain -/
theorem fromDeed_len (here : List Nat) (p : D × List (List Nat)) (t : List Nat) : p.1.length ≤ (fromDeed here p t).1.length := by
  unfold fromDeed
  split
  · exact Nat.le_refl _
  · exact put_len _ _ _
theorem fromHere_len (r : Bool) (n : Nat) (p : D × List (List Nat)) (here : List Nat) : p.1.length ≤ (fromHere r n p here).1.length :=
  fold_mono (m := fun p : D × List (List Nat) => p.1.length) (fromDeed_len here) _ _
theorem fromLevel_len (r : Bool) (n : Nat) (p : D × List (List Nat)) : p.1.length ≤ (fromLevel r n p).1.length :=
  fold_mono (m := fun p : D × List (List Nat) => p.1.length) (fromHere_len r n) _ (p.1, [])
theorem fromN_len (r : Bool) (n : Nat) (one : List Nat) (m : Nat) : ∀ j, (fromN r n one m).1.length ≤ (fromN r n one (m + j)).1.length
  | 0 => Nat.le_refl _
  | j + 1 => Nat.le_trans (fromN_len r n one m j) (fromLevel_len r n _)
theorem fromN_end {r : Bool} {n : Nat} {one : List Nat} {m : Nat} (h : (fromN r n one m).2 = []) : ∀ j, fromN r n one (m + j) = ((fromN r n one m).1, [])
  | 0 => by
    rw [← h]
    rfl
  | j + 1 => by
    show fromLevel r n (fromN r n one (m + j)) = _
    rw [fromN_end h j]
    rfl
end KR
namespace KR
open PySem PySem.Spec PyProof.Rows L2
section
variable {P : Program} {w : World} {K : PySem.W.Frag} {mg : Str → Option Value} {base : Heap}
/-! ### is_in -/
def sp_is_in : Sp := fun vs H Q _ => ∃ v lo hi : Int, vs = [.int v, .int lo, .int hi] ∧ Q (.bl (decide (lo ≤ v) && decide (v ≤ hi))) H
theorem ok_is_in {f : Addr} {fd : FuncData} (d : Df K mg "is_in" s_is_in ["value", "least", "most"] f fd) (B : Blt mg) : Cal P w K mg base 1 "is_in" sp_is_in := by
  refine d.ok sc_is_in (fun vs H Q E h => ?_) (fun cdv A outer s H vs Q E hr h => ?_)
  · obtain ⟨v, lo, hi, rfl, _⟩ := h
    rfl
  · obtain ⟨v, lo, hi, rfl, q⟩ := h
-- is_in: slots 0 value 1 least 2 most
    refine ⟨_, (pss_one (ps_ret (pe_and (pe_callB call_isi (by rfl) B.m_isinstance (by decide +kernel) (pa_cons (pv 0) (pa_cons (pe_bltn (v := .ty "int") (by rfl) B.m_int (by decide +kernel) rfl) pa_nil))) (pe_and (pe_not (pe_callB call_isi (by rfl) B.m_isinstance (by decide +kernel) (pa_cons (pv 0) (pa_cons (pe_bltn (v := .ty "bool") (by rfl) B.m_bool (by decide +kernel) rfl) pa_nil)))) (pe_one (pe_chain op_le op_le (pv 1) (pv 0) (pv 2))))))), ?_⟩
    refine ⟨.int v, rfl, _, _, _, _, true, rfl, .ty "int", .base (.int v), kit_ty (by decide +kernel), true, rfl, iteT ?_⟩
    refine ⟨.int v, rfl, _, _, _, _, false, rfl, .ty "bool", .base (.int v), kit_ty (by decide +kernel), false, rfl, true, rfl, iteT ?_⟩
    refine ⟨.int lo, rfl, .int v, rfl, lo, v, rfl, rfl, _, rfl, ite2 (fun e => ?_) (fun e => ?_)⟩
    · refine ⟨.int hi, rfl, v, hi, rfl, rfl, ?_⟩
      rw [e, Bool.true_and] at q
      exact q
    · rw [Bool.not_eq_true _ |>.mp e, Bool.false_and] at q
      exact q
/-! ### need_many -/
def sp_need_many : Sp := fun vs H Q _ => ∃ v lo : Int, vs = [.int v, .int lo] ∧ lo ≤ v ∧ v ≤ 40 ∧ Q .non H
theorem ok_need_many {f : Addr} {fd : FuncData} {t : Tok} (d : Df K mg "need_many" s_need_many ["many", "least"] f fd) (hmost : mg "MOST_ROW" = some (.int 40 t)) (c_is_in : Cal P w K mg base 1 "is_in" sp_is_in) : Cal P w K mg base 2 "need_many" sp_need_many := by
  refine d.ok sc_need_many (fun vs H Q E h => ?_) (fun cdv A outer s H vs Q E hr h => ?_)
  · obtain ⟨v, lo, rfl, _⟩ := h
    rfl
  · obtain ⟨v, lo, rfl, h1, h2, q⟩ := h
-- need_many: slots 0 many 1 least
    refine ⟨_, (pss_one (ps_if (pt_not (pt_val (pe_callC c_is_in (hr.mono (by decide)) (by rfl) (pa_cons (pv 0) (pa_cons (pv 1) (pa_cons (pe_glob (v := .int 40) (by rfl) hmost ⟨_, rfl⟩) pa_nil)))))) 
        (pss_one ps_never) pss_nil)), ?_⟩
    refine ⟨.int v, rfl, .int lo, rfl, v, lo, 40, rfl, _, rfl, ?_⟩
    rw [decide_eq_true h1, decide_eq_true h2]
    exact iteF q
/-! ### differ_in -/
def sp_differ_in : Sp := fun vs H Q _ => ∃ (a b : Addr) (s t : List Nat), vs = [.ref a, .ref b] ∧ Tp H a s ∧ Tp H b t ∧ s.length ≤ 100 ∧ t.length ≤ 100 ∧
  ∀ H' p f o, Same H H' → H' p = some (.tup [.ref f, .ref o]) → Ls H' f (fresh s t) → Ls H' o (old s t) → Q (.ref p) H'
theorem ok_differ_in {f : Addr} {fd : FuncData} (d : Df K mg "differ_in" s_differ_in ["one", "other"] f fd) : Cal P w K mg base 1 "differ_in" sp_differ_in := by
  refine d.ok sc_differ_in (fun vs H Q E h => ?_) (fun cdv A outer s H vs Q E hr h => ?_)
  · obtain ⟨a, b, s, t, rfl, _⟩ := h
    rfl
  · obtain ⟨a, b, s, t, rfl, ha, hb, hs, ht, q⟩ := h
-- differ_in: slots 0 one 1 other 2 k
    refine ⟨_, (pss_one (ps_ret (pe_tup (pa_cons (pe_lc (own := [("k", 2)]) (g := gName 2) rfl sc_differ_in.nd (pi_tup (pv 1)) (blkOk_by (own := [("k", 2)]) (N := N_differ_in) (sc := (defScope s_differ_in)) (by decide +kernel)) (fun _ _ _ _ _ => pg_name (i := 2) sc_differ_in.nd rfl (.inl rfl)) (fun _ _ _ _ _ => (pts_one (pt_cmpR op_notInN (pv 2) (pv 0) (by rfl)))) (fun _ _ _ _ _ => (pv 2))) (pa_cons (pe_lc (own := [("k", 2)]) (g := gName 2) rfl sc_differ_in.nd (pi_tup (pv 0)) (blkOk_by (own := [("k", 2)]) (N := N_differ_in) (sc := (defScope s_differ_in)) (by decide +kernel)) (fun _ _ _ _ _ => pg_name (i := 2) sc_differ_in.nd rfl (.inl rfl)) (fun _ _ _ _ _ => (pts_one (pt_cmpR op_notInN (pv 2) (pv 1) (by rfl)))) (fun _ _ _ _ _ => (pv 2))) pa_nil))))), ?_⟩
    refine ⟨.ref b, rfl, b, rfl, ⟨_, Tp.sq hb⟩, fun D nD => lc_selN (walk_tupN (K := K) (a := b) (s := t)) nD (fun H1 s1 => Tp.sq (s1 _ _ hb)) (fun k => decide (k ∉ s)) rfl (fun _ => rfl) (by omega)
      (fun k H1 Kt hk s1 h => ⟨nI k, rfl, .ref a, rfl, k, a, s, rfl, rfl, .inr (s1 _ _ ha), _, rfl, ?_⟩) fun H1 s1 hL1 => ?_⟩
    · exact h H1 (Same.refl H1)
    refine ⟨.ref a, rfl, a, rfl, ⟨_, Tp.sq (s1 _ _ ha)⟩, fun D2 nD2 => lc_selN (walk_tupN (K := K) (a := a) (s := s)) nD2 (fun H2 s2 => Tp.sq (s2 _ _ (s1 _ _ ha))) (fun k => decide (k ∉ t)) rfl (fun _ => rfl) (by omega)
      (fun k H2 Kt hk s2 h => ⟨nI k, rfl, .ref b, rfl, k, b, t, rfl, rfl, .inr (s2 _ _ (s1 _ _ hb)), _, rfl, ?_⟩) fun H2 s2 hL2 => ?_⟩
    · exact h H2 (Same.refl H2)
    refine ⟨by show 2 ≤ sizeLine; decide, fun p np => ?_⟩
    have s3 : Same H2 (upd H2 p (.tup [.ref D, .ref D2])) := same_upd np
    exact q _ p D D2 ((s1.trans s2).trans s3) upd_same (s3 _ _ (s2 _ _ hL1)) (s3 _ _ hL2)
end
end KR
namespace KR
open PySem PySem.Spec PyProof.Rows L2
section
variable {P : Program} {w : World} {K : PySem.W.Frag} {mg : Str → Option Value} {base : Heap}
/-! ### cold_in -/
def sp_cold_in : Sp := fun vs H Q _ => ∃ (n : Nat) (r : Bool) (a : Addr) (s : List Nat), vs = [nI n, .bl r, .ref a] ∧ Tp H a s ∧ 1 ≤ n ∧ n ≤ 100 ∧ ∀ H' p, Same H H' → Ls H' p (cold r n s) → Q (.ref p) H'
theorem coldRaw_succ (n : Nat) (s : List Nat) (i : Nat) : coldRaw n s (i + 1) = coldRaw n s i ++ coldAt n s i := by
  unfold coldRaw
  rw [List.range_succ, List.map_append, List.flatten_append]
  simp
theorem coldRaw_len (n : Nat) (s : List Nat) : ∀ i, (coldRaw n s i).length ≤ 2 * i
  | 0 => Nat.le_refl _
  | i + 1 => by
    have h := coldRaw_len n s i
    rw [coldRaw_succ, List.length_append]
    have h2 : (coldAt n s i).length ≤ 2 := by
      unfold coldAt
      split <;> simp
    omega
theorem turns_le (r : Bool) (n : Nat) : turns r n ≤ n := by
  unfold turns
  split <;> omega
theorem ok_cold_in {f : Addr} {fd : FuncData} (d : Df K mg "cold_in" s_cold_in ["many", "is_ring", "opened"] f fd) (B : Blt mg) : Cal P w K mg base 1 "cold_in" sp_cold_in := by
  refine d.ok sc_cold_in (fun vs H Q E h => ?_) (fun cdv A outer s H vs Q E hr h => ?_)
  · obtain ⟨n, r, a, s, rfl, _⟩ := h
    rfl
  · obtain ⟨n, r, a, s, rfl, ha, hn, hn2, q⟩ := h
-- cold_in: slots 0 many 1 is_ring 2 opened 3 found 4 k 5 near
    refine ⟨_, (pss_cons (ps_set (i := 3) sc_cold_in.nd rfl (.inl rfl) (pe_lst pa_nil))
      (pss_cons (ps_for PassesOwn.never rfl (pi_range1 (by rfl) B.m_range (pa_cons (pe_ifExp (pt_val (pv 1)) (pv 0) (pe_op op_sub (pv 0) pe_int)) pa_nil)) (pg_name (i := 4) sc_cold_in.nd rfl (.inl rfl)) 
        (pss_cons (ps_set (i := 5) sc_cold_in.nd rfl (.inl rfl) (pe_op op_modN' (pe_op op_addN' (pv 4) pe_int) (pv 0)))
        (pss_one (ps_if (PW.pt (pw_and (pt_cmpR op_inN (pv 4) (pv 2) (by rfl)) (pw_and1 (pt_cmpR op_notInN (pv 5) (pv 2) (by rfl))))) 
          (pss_one (ps_set (i := 3) sc_cold_in.nd rfl (.inl rfl) (pe_op op_catN (pv 3) (pe_lst (pa_cons (pv 4) (pa_cons (pv 5) pa_nil)))))) pss_nil))))
      (pss_one (ps_ret (pe_callB cr_sortedN (by rfl) B.m_sorted (by decide +kernel) (pa_cons (pv 3) pa_nil)))))), ?_⟩
    have htl := turns_le r n
    refine ⟨Nat.zero_le _, fun o no => ?_⟩
    refine ⟨.bl r, rfl, r, rfl, tif_val (nI (turns r n)) (fun e Q q => ⟨nI n, rfl, ?_⟩) (fun e Q q => ⟨nI n, rfl, n, 1, rfl, rfl, ?_⟩) ?_⟩
    · rw [e] at q
      exact q
    · rw [e] at q
      have e2 : ((n : Int) - 1) = ((n - 1 : Nat) : Int) := by omega
      show Q (.int ((n : Int) - 1)) _
      rw [e2]
      exact q
    refine ⟨(turns r n : Int), rfl, (int62 (by omega)).1, (int62 (by omega)).2, ?_⟩
    refine for_it (walk_rangeN (n := turns r n)) (fun i σ H' => ∃ fp y4 y5, σ = [some (nI n), some (.bl r), some (.ref a), some (.ref fp), y4, y5] ∧ Same H H' ∧ Ls H' fp (coldRaw n s i))
      ⟨o, none, none, rfl, same_upd no, upd_same⟩ (fun _ _ _ _ _ => trivial) (fun i x σ H1 H1' hi hP y => ?_) (fun σ H1 hP => ?_)
    · obtain ⟨fp, y4, y5, rfl, sm, hL⟩ := hP
      obtain ⟨rfl, hx⟩ := y
      rw [List.length_map, List.length_range] at hi
      rw [List.getElem?_map, List.getElem?_range hi] at hx
      obtain rfl : nI i = x := Option.some.inj hx
      have hA : Tp H1' a s := sm _ _ ha
      refine ⟨nI i, rfl, i, 1, rfl, rfl, nI n, rfl, i + 1, n, rfl, rfl, hn, ?_⟩
      refine ⟨nI i, rfl, .ref a, rfl, i, a, s, rfl, rfl, .inr hA, _, rfl, ite2 (fun e1 => ⟨nI ((i + 1) % n), rfl, .ref a, rfl, (i + 1) % n, a, s, rfl, rfl, .inr hA, _, rfl, ite2 (fun e2 => ?_) (fun e2 => ?_)⟩) (fun e1 => ?_)⟩
      · refine ⟨.ref fp, rfl, nI i, rfl, nI ((i + 1) % n), rfl, by show 2 ≤ sizeLine; decide, fun p np => ?_⟩
        have s2 : Same H1' (upd H1' p (.lst [nI i, nI ((i + 1) % n)])) := same_upd np
        have hl := coldRaw_len n s i
        refine ⟨fp, p, coldRaw n s i, [i, (i + 1) % n], rfl, rfl, s2 _ _ hL, upd_same, by show _ + 2 ≤ 1000; omega, fun p2 np2 => ⟨p2, some (nI i), some (nI ((i + 1) % n)), rfl, (sm.trans s2).trans (same_upd np2), ?_⟩⟩
        rw [coldRaw_succ, coldAt, if_pos ⟨of_decide_eq_true e1, of_decide_eq_true e2⟩]
        exact upd_same
      · refine ⟨fp, _, _, rfl, sm, ?_⟩
        rw [coldRaw_succ, coldAt, if_neg (fun h => e2 (decide_eq_true h.2)), List.append_nil]
        exact hL
      · refine iteF ⟨fp, _, _, rfl, sm, ?_⟩
        rw [coldRaw_succ, coldAt, if_neg (fun h => e1 (decide_eq_true h.1)), List.append_nil]
        exact hL
    · obtain ⟨fp, y4, y5, rfl, sm, hL⟩ := hP
      rw [List.length_map, List.length_range] at hL
      exact ⟨.ref fp, rfl, fp, coldRaw n s (turns r n), rfl, hL, fun p np => q _ p (sm.trans (same_upd np)) upd_same⟩
/-! ### comes_in -/
def sp_comes_in : Sp := fun vs H Q _ => ∃ (n : Nat) (r : Bool) (a b : Addr) (s t : List Nat), vs = [nI n, .bl r, .ref a, .ref b] ∧ Tp H a s ∧ Tp H b t ∧ s.length ≤ 100 ∧ t.length ≤ 100 ∧ 1 ≤ n ∧ n ≤ 100 ∧
  ∀ H', Same H H' → Q (.bl (comes r n s t)) H'
theorem filter_len {α : Type} (p : α → Bool) (s : List α) {n : Nat} (h : s.length ≤ n) : (s.filter p).length ≤ n := Nat.le_trans (List.length_filter_le _ _) h
theorem isEmpty_filter (l c : List Nat) : (l.filter fun k => decide (k ∈ c)).isEmpty = l.all fun k => decide (k ∉ c) := by
  induction l with
  | nil => rfl
  | cons x r ih =>
    rw [List.filter_cons, List.all_cons, ← ih]
    by_cases h : x ∈ c <;> simp [h]
theorem ok_comes_in {f : Addr} {fd : FuncData} (d : Df K mg "comes_in" s_comes_in ["many", "is_ring", "one", "other"] f fd) (B : Blt mg) (c_differ_in : Cal P w K mg base 1 "differ_in" sp_differ_in) (c_cold_in : Cal P w K mg base 1 "cold_in" sp_cold_in) : Cal P w K mg base 2 "comes_in" sp_comes_in := by
  refine d.ok sc_comes_in (fun vs H Q E h => ?_) (fun cdv A outer s H vs Q E hr h => ?_)
  · obtain ⟨n, r, a, b, s, t, rfl, _⟩ := h
    rfl
  · obtain ⟨n, r, a, b, s, t, rfl, ha, hb, hs, ht, hn, hn2, q⟩ := h
-- comes_in: slots 0 many 1 is_ring 2 one 3 other 4 fresh 5 old 6 cold 7 k
    refine ⟨_, (pss_cons (ps_asg (pe_callC c_differ_in (hr.mono (by decide)) (by rfl) (pa_cons (pv 2) (pa_cons (pv 3) pa_nil))) (pg_tup rfl (pgs_cons (pg_name (i := 4) sc_comes_in.nd rfl (.inl rfl)) (pgs_cons (pg_name (i := 5) sc_comes_in.nd rfl (.inl rfl)) pgs_nil))))
      (pss_cons (ps_set (i := 6) sc_comes_in.nd rfl (.inr rfl) (pe_callC c_cold_in (hr.mono (by decide)) (by rfl) (pa_cons (pv 0) (pa_cons (pv 1) (pa_cons (pv 2) pa_nil)))))
      (pss_cons (ps_if (pt_cmpR (op_neNil hr.units) (pe_lc (own := [("k", 7)]) (g := gName 7) rfl sc_comes_in.nd (pi_list (pe_op op_catN (pv 4) (pv 5))) (blkOk_by (own := [("k", 7)]) (N := N_comes_in) (sc := (defScope s_comes_in)) (by decide +kernel)) (fun _ _ _ _ _ => pg_name (i := 7) sc_comes_in.nd rfl (.inl rfl)) (fun _ _ _ _ _ => (pts_one (pt_cmpR op_inN (pv 7) (pv 6) (by rfl)))) (fun _ _ _ _ _ => (pv 7))) (pe_lst pa_nil) (nomark _)) 
        (pss_one (ps_ret pe_bl)) pss_nil)
      (pss_one (ps_ret (pe_or (pe_not (pv 1)) (pe_one (pe_and (pe_cmpR op_lt (pe_callB call_lenN (by rfl) B.m_len (by decide +kernel) (pa_cons (pv 4) pa_nil)) (pv 0) (nomark _)) (pe_one (pe_cmpR op_lt (pe_callB call_lenN (by rfl) B.m_len (by decide +kernel) (pa_cons (pv 5) pa_nil)) (pv 0) (nomark _))))))))))), ?_⟩
    refine ⟨.ref a, rfl, .ref b, rfl, a, b, s, t, rfl, ha, hb, hs, ht, fun H1 p f o s1 hp hf ho => ?_⟩
    refine ⟨p, _, rfl, Tp.sq hp, rfl, .ref f, [.ref o], rfl, .ref o, [], rfl, rfl, ?_⟩
    refine ⟨nI n, rfl, .bl r, rfl, .ref a, rfl, n, r, a, s, rfl, s1 _ _ ha, hn, hn2, fun H2 c s2 hc => ?_⟩
    have hfl : (fresh s t).length ≤ 100 := filter_len _ _ ht
    have hol : (old s t).length ≤ 100 := filter_len _ _ hs
    refine ⟨.ref f, rfl, .ref o, rfl, f, o, fresh s t, old s t, rfl, rfl, s2 _ _ hf, s2 _ _ ho, by omega, fun l nl => ?_⟩
    have s3 : Same H2 (upd H2 l (.lst ((fresh s t ++ old s t).map nI))) := same_upd nl
    refine ⟨l, rfl, ⟨_, Ls.sq upd_same⟩, fun D nD => lc_selN (walk_listN (K := K) (a := l) (s := fresh s t ++ old s t)) nD (fun H4 s4 => Ls.sq (s4 _ _ upd_same)) (fun k => decide (k ∈ cold r n s)) rfl (fun _ => rfl) (by rw [List.length_append]; omega)
      (fun k H4 Kt hk s4 h => ⟨nI k, rfl, .ref c, rfl, k, c, cold r n s, rfl, rfl, .inl (s4 _ _ (s3 _ _ hc)), _, rfl, h H4 (Same.refl H4)⟩) fun H4 s4 hL => ?_⟩
    refine ⟨Nat.zero_le _, fun e ne => ?_⟩
    have s5 : Same H4 (upd H4 e (.lst [])) := same_upd ne
    have sm : Same H (upd H4 e (.lst [])) := (((s1.trans s2).trans s3).trans s4).trans s5
    refine ⟨_, e, dpl_ints (s5 _ _ hL), rfl, upd_same, _, rfl, ?_⟩
    rw [isEmpty_map, isEmpty_filter]
    have hq := q _ sm
    unfold comes at hq
    cases hall : (fresh s t ++ old s t).all fun k => decide (k ∉ cold r n s) with
    | false =>
      rw [hall, Bool.false_and] at hq
      exact iteT hq
    | true =>
      rw [hall, Bool.true_and] at hq
      refine iteF ⟨.bl r, rfl, r, rfl, _, rfl, ?_⟩
      cases r with
      | false => exact iteT hq
      | true =>
        have hf5 : Ls (upd H4 e (.lst [])) f (fresh s t) := s5 _ _ (s4 _ _ (s3 _ _ (s2 _ _ hf)))
        have ho5 : Ls (upd H4 e (.lst [])) o (old s t) := s5 _ _ (s4 _ _ (s3 _ _ (s2 _ _ ho)))
        refine iteF ⟨.ref f, rfl, f, fresh s t, rfl, .inl hf5, nI n, rfl, _, _, rfl, rfl, _, rfl, ite2 (fun e1 => ?_) (fun e1 => ?_)⟩
        · refine ⟨.ref o, rfl, o, old s t, rfl, .inl ho5, nI n, rfl, _, _, rfl, rfl, ?_⟩
          rw [Bool.not_true, Bool.false_or, decide_eq_true (Int.ofNat_lt.mp (of_decide_eq_true e1)), Bool.true_and] at hq
          have e3 : decide (((old s t).length : Int) < (n : Int)) = decide ((old s t).length < n) := by
            rw [decide_eq_decide]
            exact Int.ofNat_lt
          show Q (.bl (decide (((old s t).length : Int) < (n : Int)))) _
          rw [e3]
          exact hq
        · have e2 : ¬ (fresh s t).length < n := fun h => e1 (decide_eq_true (Int.ofNat_lt.mpr h))
          rw [Bool.not_true, Bool.false_or, decide_eq_false e2, Bool.false_and] at hq
          exact hq
end
end KR
namespace KR
open PySem PySem.Spec PyProof.Rows L2
section
variable {P : Program} {w : World} {K : PySem.W.Frag} {mg : Str → Option Value} {base : Heap}
/-- an ascending list of doors below n -/
def Asc (n : Nat) (s : List Nat) : Prop := s.Pairwise (· < ·) ∧ ∀ k ∈ s, k < n
theorem asc_sub : ∀ {l s : List Nat}, l.Pairwise (· < ·) → s.Pairwise (· < ·) → (∀ k ∈ s, k ∈ l) → s.Sublist l
  | l, [], _, _, _ => List.nil_sublist l
  | [], x :: r, _, _, h => by
    have := h x List.mem_cons_self
    simp at this
  | y :: l, x :: r, hl, hs, h => by
    obtain ⟨l1, l2⟩ := List.pairwise_cons.mp hl
    obtain ⟨s1, s2⟩ := List.pairwise_cons.mp hs
    by_cases e : x = y
    · subst e
      refine List.Sublist.cons_cons x (asc_sub l2 s2 fun k hk => ?_)
      rcases List.mem_cons.mp (h k (List.mem_cons_of_mem _ hk)) with rfl | q
      · exact absurd (s1 _ hk) (Nat.lt_irrefl _)
      · exact q
    · refine List.Sublist.cons y (asc_sub l2 hs fun k hk => ?_)
      have hx : y < x := by
        rcases List.mem_cons.mp (h x List.mem_cons_self) with q | q
        · exact absurd q e
        · exact l1 _ q
      rcases List.mem_cons.mp (h k hk) with rfl | q
      · rcases List.mem_cons.mp hk with q | q
        · omega
        · have := s1 _ q
          omega
      · exact q
theorem Asc.sub {n : Nat} {s : List Nat} (h : Asc n s) : s.Sublist (List.range n) := asc_sub List.pairwise_lt_range h.1 fun k hk => List.mem_range.mpr (h.2 k hk)
theorem Asc.len {n : Nat} {s : List Nat} (h : Asc n s) : s.length ≤ n := by
  have := h.sub.length_le
  rw [List.length_range] at this
  exact this
/-! ### need_opened -/
def sp_need_opened : Sp := fun vs H Q _ => ∃ (n : Nat) (a : Addr) (s : List Nat), vs = [nI n, .ref a] ∧ Tp H a s ∧ 1 ≤ n ∧ Asc n s ∧ ∀ H', Same H H' → Q .non H'
theorem ok_need_opened {f : Addr} {fd : FuncData} (d : Df K mg "need_opened" s_need_opened ["many", "opened"] f fd) (B : Blt mg) (c_is_in : Cal P w K mg base 1 "is_in" sp_is_in) : Cal P w K mg base 2 "need_opened" sp_need_opened := by
  refine d.ok sc_need_opened (fun vs H Q E h => ?_) (fun cdv A outer s H vs Q E hr h => ?_)
  · obtain ⟨n, a, s, rfl, _⟩ := h
    rfl
  · obtain ⟨n, a, s, rfl, ha, hn, hs, q⟩ := h
-- need_opened: slots 0 many 1 opened 2 index 3 one
    refine ⟨_, (pss_cons (ps_if (pt_not (pt_val (pe_callB call_isi (by rfl) B.m_isinstance (by decide +kernel) (pa_cons (pv 1) (pa_cons (pe_bltn (v := .ty "tuple") (by rfl) B.m_tuple (by decide +kernel) rfl) pa_nil))))) 
        (pss_one ps_never) pss_nil)
      (pss_one (ps_for PassesOwn.never rfl (pi_enumT (by rfl) B.m_enumerate (pa_cons (pv 1) pa_nil)) (pg_tup rfl (pgs_cons (pg_name (i := 2) sc_need_opened.nd rfl (.inl rfl)) (pgs_cons (pg_name (i := 3) sc_need_opened.nd rfl (.inl rfl)) pgs_nil))) 
        (pss_one (ps_if (PW.pt (pw_or (pt_not (pt_val (pe_callC c_is_in (hr.mono (by decide)) (by rfl) (pa_cons (pv 3) (pa_cons pe_int (pa_cons (pe_op op_sub (pv 0) pe_int) pa_nil)))))) (pw_or1 (PW.pt (pw_and (pt_cmpR op_gt (pv 2) pe_int (nomark _)) (pw_and1 (pt_cmpR op_le (pv 3) (pe_ix ix_tup (pv 1) (pe_op op_sub (pv 2) pe_int) (fun _ _ => rfl)) (nomark _)))))))) 
          (pss_one ps_never) pss_nil))))), ?_⟩
    refine ⟨.ref a, rfl, _, _, _, _, true, rfl, .ty "tuple", .base (.tup ha), kit_ty (by decide +kernel), true, rfl, iteF ?_⟩
    refine ⟨.ref a, rfl, a, s.map nI, rfl, Tp.sq ha, for_it (walk_enumT (xs := s.map nI)) (fun i σ H' => ∃ y2 y3, σ = [some (nI n), some (.ref a), y2, y3] ∧ Same H H') ⟨none, none, rfl, Same.refl H⟩
      (fun i σ H' _ hP => ?_) (fun i x σ H1 H1' hi hP y => ?_) (fun σ H1 hP => ?_)⟩
    · obtain ⟨_, _, _, sm⟩ := hP
      exact Tp.sq (sm _ _ ha)
    · obtain ⟨y2, y3, rfl, sm⟩ := hP
      obtain ⟨T, x1, x2, rfl, nT, rfl, e1, e2⟩ := y
      obtain rfl : V.int (i : Nat) = x1 := Option.some.inj e1
      replace e2 : (s.map nI)[i]? = some x2 := e2
      rw [List.getElem?_map] at e2
      rw [List.length_map] at hi
      rw [List.getElem?_eq_getElem hi] at e2
      obtain rfl : nI s[i] = x2 := Option.some.inj e2
      have s2 : Same H1 (upd H1 T (.tup [.int (i : Nat), nI s[i]])) := same_upd nT
      have hA : Tp (upd H1 T (.tup [.int (i : Nat), nI s[i]])) a s := s2 _ _ (sm _ _ ha)
      refine ⟨T, [.int (i : Nat), nI s[i]], rfl, Tp.sq upd_same, rfl, _, [_], rfl, _, [], rfl, rfl, ?_⟩
      have hk : s[i] < n := hs.2 _ (List.getElem_mem hi)
      refine ⟨nI s[i], rfl, nI n, rfl, n, 1, rfl, rfl, (s[i] : Int), 0, (n : Int) - 1, rfl, _, rfl, ?_⟩
      rw [decide_eq_true (show (0 : Int) ≤ (s[i] : Int) by omega), decide_eq_true (show (s[i] : Int) ≤ (n : Int) - 1 by omega)]
      refine iteF ⟨.int (i : Nat), rfl, _, _, rfl, rfl, _, rfl, ite2 (fun e3 => ?_) (fun e3 => ?_)⟩
      · have h0 : 0 < i := by
          have := of_decide_eq_true e3
          omega
        have hi2 : i - 1 < s.length := by omega
        have hlt : s[i - 1] < s[i] := List.pairwise_iff_getElem.mp hs.1 _ _ hi2 hi (by omega)
        have hat : atI (s.map nI) ((i : Int) - 1) = some (nI s[i - 1]) := at_of (j := i - 1) (by omega) (by rw [List.getElem?_map, List.getElem?_eq_getElem hi2]; rfl)
        refine ⟨nI s[i], rfl, .ref a, rfl, .int (i : Nat), rfl, i, 1, rfl, rfl, a, _, (i : Int) - 1, nI s[i - 1], rfl, rfl, Tp.sq hA, hat, _, _, rfl, rfl, _, rfl, ?_⟩
        rw [decide_eq_false (show ¬ (s[i] : Int) ≤ (s[i - 1] : Int) by omega)]
        exact iteF ⟨_, _, rfl, sm.trans s2⟩
      · exact iteF ⟨_, _, rfl, sm.trans s2⟩
    · obtain ⟨y2, y3, rfl, sm⟩ := hP
      exact q _ sm
/-! ### need_both, need_two -/
def sp_need_both : Sp := fun vs H Q _ => ∃ (n lo : Nat) (a : Addr) (s : List Nat), vs = [nI n, nI lo, .ref a] ∧ Tp H a s ∧ 1 ≤ n ∧ lo ≤ n ∧ n ≤ 40 ∧ Asc n s ∧ ∀ H', Same H H' → Q .non H'
theorem ok_need_both {f : Addr} {fd : FuncData} (d : Df K mg "need_both" s_need_both ["many", "least", "opened"] f fd) (c_need_many : Cal P w K mg base 2 "need_many" sp_need_many) (c_need_opened : Cal P w K mg base 2 "need_opened" sp_need_opened) : Cal P w K mg base 3 "need_both" sp_need_both := by
  refine d.ok sc_need_both (fun vs H Q E h => ?_) (fun cdv A outer s H vs Q E hr h => ?_)
  · obtain ⟨n, lo, a, s, rfl, _⟩ := h
    rfl
  · obtain ⟨n, lo, a, s, rfl, ha, hn, hlo, h40, hs, q⟩ := h
-- need_both: slots 0 many 1 least 2 opened
    refine ⟨_, (pss_cons (ps_expr (pe_callC c_need_many (hr.mono (by decide)) (by rfl) (pa_cons (pv 0) (pa_cons (pv 1) pa_nil))))
      (pss_one (ps_expr (pe_callC c_need_opened (hr.mono (by decide)) (by rfl) (pa_cons (pv 0) (pa_cons (pv 2) pa_nil)))))), ?_⟩
    exact ⟨nI n, rfl, nI lo, rfl, n, lo, rfl, by omega, by omega, nI n, rfl, .ref a, rfl, n, a, s, rfl, ha, hn, hs, q⟩
def sp_need_two : Sp := fun vs H Q _ => ∃ (n lo : Nat) (a b : Addr) (s t : List Nat), vs = [nI n, nI lo, .ref a, .ref b] ∧ Tp H a s ∧ Tp H b t ∧ 1 ≤ n ∧ lo ≤ n ∧ n ≤ 40 ∧ Asc n s ∧ Asc n t ∧ ∀ H', Same H H' → Q .non H'
theorem ok_need_two {f : Addr} {fd : FuncData} (d : Df K mg "need_two" s_need_two ["many", "least", "one", "other"] f fd) (c_need_both : Cal P w K mg base 3 "need_both" sp_need_both) (c_need_opened : Cal P w K mg base 2 "need_opened" sp_need_opened) : Cal P w K mg base 4 "need_two" sp_need_two := by
  refine d.ok sc_need_two (fun vs H Q E h => ?_) (fun cdv A outer s H vs Q E hr h => ?_)
  · obtain ⟨n, lo, a, b, s, t, rfl, _⟩ := h
    rfl
  · obtain ⟨n, lo, a, b, s, t, rfl, ha, hb, hn, hlo, h40, hs, ht, q⟩ := h
-- need_two: slots 0 many 1 least 2 one 3 other
    refine ⟨_, (pss_cons (ps_expr (pe_callC c_need_both (hr.mono (by decide)) (by rfl) (pa_cons (pv 0) (pa_cons (pv 1) (pa_cons (pv 2) pa_nil)))))
      (pss_one (ps_expr (pe_callC c_need_opened (hr.mono (by decide)) (by rfl) (pa_cons (pv 0) (pa_cons (pv 3) pa_nil)))))), ?_⟩
    exact ⟨nI n, rfl, nI lo, rfl, .ref a, rfl, n, lo, a, s, rfl, ha, hn, hlo, h40, hs, fun H1 s1 => ⟨nI n, rfl, .ref b, rfl, n, b, t, rfl, s1 _ _ hb, hn, ht, fun H2 s2 => q _ (s1.trans s2)⟩⟩
/-! ### row_frozen, ring_frozen -/
def sp_frozen (r : Bool) : Sp := fun vs H Q _ => ∃ (n : Nat) (a : Addr) (s : List Nat), vs = [nI n, .ref a] ∧ Tp H a s ∧ (if r = true then 3 else 1) ≤ n ∧ n ≤ 40 ∧ Asc n s ∧ ∀ H' p, Same H H' → Tp H' p (cold r n s) → Q (.ref p) H'
theorem ok_row_frozen {f : Addr} {fd : FuncData} (d : Df K mg "row_frozen" s_row_frozen ["many", "opened"] f fd) (B : Blt mg) (c_need_both : Cal P w K mg base 3 "need_both" sp_need_both) (c_cold_in : Cal P w K mg base 1 "cold_in" sp_cold_in) : Cal P w K mg base 4 "row_frozen" (sp_frozen false) := by
  refine d.ok sc_row_frozen (fun vs H Q E h => ?_) (fun cdv A outer s H vs Q E hr h => ?_)
  · obtain ⟨n, a, s, rfl, _⟩ := h
    rfl
  · obtain ⟨n, a, s, rfl, ha, hn, h40, hs, q⟩ := h
    have hn : 1 ≤ n := hn
-- row_frozen: slots 0 many 1 opened
    refine ⟨_, (pss_cons (ps_expr (pe_callC c_need_both (hr.mono (by decide)) (by rfl) (pa_cons (pv 0) (pa_cons pe_int (pa_cons (pv 1) pa_nil)))))
      (pss_one (ps_ret (pe_callTy call_tuple_of (by rfl) B.m_tuple (by decide +kernel) (pa_cons (pe_callC c_cold_in (hr.mono (by decide)) (by rfl) (pa_cons (pv 0) (pa_cons pe_bl (pa_cons (pv 1) pa_nil)))) pa_nil))))), ?_⟩
    refine ⟨nI n, rfl, .ref a, rfl, n, 1, a, s, rfl, ha, by omega, hn, h40, hs, fun H1 s1 => ?_⟩
    refine ⟨nI n, rfl, .ref a, rfl, n, false, a, s, rfl, s1 _ _ ha, by omega, by omega, fun H2 p s2 hp => ?_⟩
    exact ⟨p, _, rfl, .inl ⟨Ls.sq hp, fun l nl => q _ l ((s1.trans s2).trans (same_upd nl)) upd_same⟩⟩
theorem ok_ring_frozen {f : Addr} {fd : FuncData} (d : Df K mg "ring_frozen" s_ring_frozen ["many", "opened"] f fd) (B : Blt mg) (c_need_both : Cal P w K mg base 3 "need_both" sp_need_both) (c_cold_in : Cal P w K mg base 1 "cold_in" sp_cold_in) : Cal P w K mg base 4 "ring_frozen" (sp_frozen true) := by
  refine d.ok sc_ring_frozen (fun vs H Q E h => ?_) (fun cdv A outer s H vs Q E hr h => ?_)
  · obtain ⟨n, a, s, rfl, _⟩ := h
    rfl
  · obtain ⟨n, a, s, rfl, ha, hn, h40, hs, q⟩ := h
    have hn : 3 ≤ n := hn
-- ring_frozen: slots 0 many 1 opened
    refine ⟨_, (pss_cons (ps_expr (pe_callC c_need_both (hr.mono (by decide)) (by rfl) (pa_cons (pv 0) (pa_cons pe_int (pa_cons (pv 1) pa_nil)))))
      (pss_one (ps_ret (pe_callTy call_tuple_of (by rfl) B.m_tuple (by decide +kernel) (pa_cons (pe_callC c_cold_in (hr.mono (by decide)) (by rfl) (pa_cons (pv 0) (pa_cons pe_bl (pa_cons (pv 1) pa_nil)))) pa_nil))))), ?_⟩
    refine ⟨nI n, rfl, .ref a, rfl, n, 3, a, s, rfl, ha, by omega, hn, h40, hs, fun H1 s1 => ?_⟩
    refine ⟨nI n, rfl, .ref a, rfl, n, true, a, s, rfl, s1 _ _ ha, by omega, by omega, fun H2 p s2 hp => ?_⟩
    exact ⟨p, _, rfl, .inl ⟨Ls.sq hp, fun l nl => q _ l ((s1.trans s2).trans (same_upd nl)) upd_same⟩⟩
/-! ### row_fewest, ring_fewest -/
/-- None, or an int -/
def oV : Option Nat → V
  | none => .non
  | some k => nI k
def sp_fewest (r : Bool) : Sp := fun vs H Q _ => ∃ (n : Nat) (a b : Addr) (s t : List Nat), vs = [nI n, .ref a, .ref b] ∧ Tp H a s ∧ Tp H b t ∧ (if r = true then 3 else 1) ≤ n ∧ n ≤ 40 ∧ Asc n s ∧ Asc n t ∧ ∀ H', Same H H' → Q (oV (few r n s t)) H'
theorem ok_row_fewest {f : Addr} {fd : FuncData} (d : Df K mg "row_fewest" s_row_fewest ["many", "one", "other"] f fd) (B : Blt mg) (c_need_two : Cal P w K mg base 4 "need_two" sp_need_two) (c_comes_in : Cal P w K mg base 2 "comes_in" sp_comes_in)
    (c_differ_in : Cal P w K mg base 1 "differ_in" sp_differ_in) : Cal P w K mg base 5 "row_fewest" (sp_fewest false) := by
  refine d.ok sc_row_fewest (fun vs H Q E h => ?_) (fun cdv A outer s H vs Q E hr h => ?_)
  · obtain ⟨n, a, b, s, t, rfl, _⟩ := h
    rfl
  · obtain ⟨n, a, b, s, t, rfl, ha, hb, hn, h40, hs, ht, q⟩ := h
    have hn : 1 ≤ n := hn
    have hsl := hs.len
    have htl := ht.len
-- row_fewest: slots 0 many 1 one 2 other 3 fresh 4 old
    refine ⟨_, (pss_cons (ps_expr (pe_callC c_need_two (hr.mono (by decide)) (by rfl) (pa_cons (pv 0) (pa_cons pe_int (pa_cons (pv 1) (pa_cons (pv 2) pa_nil))))))
      (pss_cons (ps_if (pt_not (pt_val (pe_callC c_comes_in (hr.mono (by decide)) (by rfl) (pa_cons (pv 0) (pa_cons pe_bl (pa_cons (pv 1) (pa_cons (pv 2) pa_nil))))))) 
        (pss_one (ps_ret pe_non)) pss_nil)
      (pss_cons (ps_asg (pe_callC c_differ_in (hr.mono (by decide)) (by rfl) (pa_cons (pv 1) (pa_cons (pv 2) pa_nil))) (pg_tup rfl (pgs_cons (pg_name (i := 3) sc_row_fewest.nd rfl (.inl rfl)) (pgs_cons (pg_name (i := 4) sc_row_fewest.nd rfl (.inl rfl)) pgs_nil))))
      (pss_one (ps_ret (pe_op op_add (pe_callB call_lenN (by rfl) B.m_len (by decide +kernel) (pa_cons (pv 3) pa_nil)) (pe_callB call_lenN (by rfl) B.m_len (by decide +kernel) (pa_cons (pv 4) pa_nil)))))))), ?_⟩
    refine ⟨nI n, rfl, .ref a, rfl, .ref b, rfl, n, 1, a, b, s, t, rfl, ha, hb, by omega, hn, h40, hs, ht, fun H1 s1 => ?_⟩
    refine ⟨nI n, rfl, .ref a, rfl, .ref b, rfl, n, false, a, b, s, t, rfl, s1 _ _ ha, s1 _ _ hb, by omega, by omega, by omega, by omega, fun H2 s2 => ?_⟩
    unfold few at q
    refine ⟨_, rfl, ?_⟩
    cases hc : comes false n s t with
    | false =>
      rw [hc, if_neg Bool.false_ne_true] at q
      exact iteT (q _ (s1.trans s2))
    | true =>
      rw [hc, if_pos rfl] at q
      have s12 := s1.trans s2
      refine iteF ⟨.ref a, rfl, .ref b, rfl, a, b, s, t, rfl, s12 _ _ ha, s12 _ _ hb, by omega, by omega, fun H3 p f o s3 hp hf ho => ?_⟩
      refine ⟨p, _, rfl, Tp.sq hp, rfl, .ref f, [.ref o], rfl, .ref o, [], rfl, rfl, ?_⟩
      exact ⟨.ref f, rfl, f, fresh s t, rfl, .inl hf, .ref o, rfl, o, old s t, rfl, .inl ho, _, _, rfl, rfl, q _ (s12.trans s3)⟩
theorem ok_ring_fewest {f : Addr} {fd : FuncData} (d : Df K mg "ring_fewest" s_ring_fewest ["many", "one", "other"] f fd) (B : Blt mg) (c_need_two : Cal P w K mg base 4 "need_two" sp_need_two) (c_comes_in : Cal P w K mg base 2 "comes_in" sp_comes_in)
    (c_differ_in : Cal P w K mg base 1 "differ_in" sp_differ_in) : Cal P w K mg base 5 "ring_fewest" (sp_fewest true) := by
  refine d.ok sc_ring_fewest (fun vs H Q E h => ?_) (fun cdv A outer s H vs Q E hr h => ?_)
  · obtain ⟨n, a, b, s, t, rfl, _⟩ := h
    rfl
  · obtain ⟨n, a, b, s, t, rfl, ha, hb, hn, h40, hs, ht, q⟩ := h
    have hn : 3 ≤ n := hn
    have hsl := hs.len
    have htl := ht.len
-- ring_fewest: slots 0 many 1 one 2 other 3 fresh 4 old
    refine ⟨_, (pss_cons (ps_expr (pe_callC c_need_two (hr.mono (by decide)) (by rfl) (pa_cons (pv 0) (pa_cons pe_int (pa_cons (pv 1) (pa_cons (pv 2) pa_nil))))))
      (pss_cons (ps_if (pt_not (pt_val (pe_callC c_comes_in (hr.mono (by decide)) (by rfl) (pa_cons (pv 0) (pa_cons pe_bl (pa_cons (pv 1) (pa_cons (pv 2) pa_nil))))))) 
        (pss_one (ps_ret pe_non)) pss_nil)
      (pss_cons (ps_asg (pe_callC c_differ_in (hr.mono (by decide)) (by rfl) (pa_cons (pv 1) (pa_cons (pv 2) pa_nil))) (pg_tup rfl (pgs_cons (pg_name (i := 3) sc_ring_fewest.nd rfl (.inl rfl)) (pgs_cons (pg_name (i := 4) sc_ring_fewest.nd rfl (.inl rfl)) pgs_nil))))
      (pss_one (ps_ret (pe_op op_add (pe_callB call_lenN (by rfl) B.m_len (by decide +kernel) (pa_cons (pv 3) pa_nil)) (pe_callB call_lenN (by rfl) B.m_len (by decide +kernel) (pa_cons (pv 4) pa_nil)))))))), ?_⟩
    refine ⟨nI n, rfl, .ref a, rfl, .ref b, rfl, n, 3, a, b, s, t, rfl, ha, hb, by omega, hn, h40, hs, ht, fun H1 s1 => ?_⟩
    refine ⟨nI n, rfl, .ref a, rfl, .ref b, rfl, n, true, a, b, s, t, rfl, s1 _ _ ha, s1 _ _ hb, by omega, by omega, by omega, by omega, fun H2 s2 => ?_⟩
    unfold few at q
    refine ⟨_, rfl, ?_⟩
    cases hc : comes true n s t with
    | false =>
      rw [hc, if_neg Bool.false_ne_true] at q
      exact iteT (q _ (s1.trans s2))
    | true =>
      rw [hc, if_pos rfl] at q
      have s12 := s1.trans s2
      refine iteF ⟨.ref a, rfl, .ref b, rfl, a, b, s, t, rfl, s12 _ _ ha, s12 _ _ hb, by omega, by omega, fun H3 p f o s3 hp hf ho => ?_⟩
      refine ⟨p, _, rfl, Tp.sq hp, rfl, .ref f, [.ref o], rfl, .ref o, [], rfl, rfl, ?_⟩
      exact ⟨.ref f, rfl, f, fresh s t, rfl, .inl hf, .ref o, rfl, o, old s t, rfl, .inl ho, _, _, rfl, rfl, q _ (s12.trans s3)⟩
end
end KR
namespace KR
open PySem PySem.Spec PyProof.Rows L2
section
variable {P : Program} {w : World} {K : PySem.W.Frag} {mg : Str → Option Value} {base : Heap}
/-! ### runs_of -/
/-- the door ahead of k, as an int -/
def bI (r : Bool) (n k : Nat) : Int := if r = true then ((k : Int) - 1) % (n : Int) else (k : Int) - 1
theorem any_eq (ds : List Nat) (j : Nat) : (ds.any fun i => decide ((i : Int) = (j : Int))) = decide (j ∈ ds) := by
  rw [Bool.eq_iff_iff, List.any_eq_true, decide_eq_true_eq]
  constructor
  · rintro ⟨x, hx, e⟩
    have : x = j := by
      have := of_decide_eq_true e
      omega
    exact this ▸ hx
  · intro h
    exact ⟨j, h, decide_eq_true rfl⟩
theorem any_bI {r : Bool} {n k : Nat} {ds : List Nat} (hn : 1 ≤ n) : (ds.any fun i => decide ((i : Int) = bI r n k)) = hasBefore r n ds k := by
  unfold bI hasBefore
  cases r with
  | true =>
    rw [if_pos rfl, if_pos rfl]
    have e : ((k + n - 1 : Nat) : Int) = ((k : Int) - 1) + n := by omega
    have e2 : ((k : Int) - 1) % n = ((k + n - 1) % n : Nat) := by rw [Int.natCast_emod, e, Int.add_emod_right]
    rw [e2, any_eq]
  | false =>
    rw [if_neg Bool.false_ne_true, if_neg Bool.false_ne_true]
    by_cases h : 0 < k
    · have e : (k : Int) - 1 = ((k - 1 : Nat) : Int) := by omega
      rw [e, any_eq, decide_eq_true h, Bool.true_and]
    · rw [decide_eq_false h, Bool.false_and]
      rw [List.any_eq_false]
      intro x _
      rw [decide_eq_true_eq]
      omega
theorem runEnd_le (r : Bool) (n : Nat) (ds : List Nat) (k : Nat) : ∀ f size, runEnd r n ds k f size ≤ size + f
  | 0, size => Nat.le_refl _
  | f + 1, size => by
    unfold runEnd
    split
    · have := runEnd_le r n ds k f (size + 1)
      omega
    · omega
theorem runEnd_succ (r : Bool) (n : Nat) (ds : List Nat) (k f size : Nat) : runEnd r n ds k (f + 1) size = if runGo r n ds k size = true then runEnd r n ds k f (size + 1) else size := rfl
/-- the while stops by n -/
theorem run_stops {r : Bool} {n k : Nat} {ds : List Nat} (hn : 1 ≤ n) (h3 : r = true → 3 ≤ n) (hb : hasBefore r n ds k = false) : ∃ m, 1 ≤ m ∧ m ≤ n ∧ runGo r n ds k m = false := by
  unfold hasBefore at hb
  cases r with
  | true =>
    have h3 := h3 rfl
    rw [if_pos rfl] at hb
    refine ⟨n - 1, by omega, by omega, ?_⟩
    unfold runGo
    rw [show k + (n - 1) = k + n - 1 by omega, hb, Bool.false_and]
  | false =>
    refine ⟨n, hn, Nat.le_refl _, ?_⟩
    unfold runGo
    rw [Bool.false_or, decide_eq_false (show ¬ k + n < n by omega), Bool.and_false]
theorem runs_take {r : Bool} {n : Nat} {ds : List Nat} {i k : Nat} (h : ds[i]? = some k) : ((ds.take (i + 1)).map (runAt r n ds)).flatten = ((ds.take i).map (runAt r n ds)).flatten ++ runAt r n ds k := by
  rw [List.take_add_one, h, List.map_append, List.flatten_append]
  simp
theorem runAt_len (r : Bool) (n : Nat) (ds : List Nat) (k : Nat) : (runAt r n ds k).length ≤ 1 := by
  unfold runAt
  split <;> simp
theorem runs_len (r : Bool) (n : Nat) (ds : List Nat) : ∀ l : List Nat, ((l.map (runAt r n ds)).flatten).length ≤ l.length
  | [] => Nat.le_refl _
  | k :: l => by
    have h1 := runs_len r n ds l
    have h2 := runAt_len r n ds k
    rw [List.map_cons, List.flatten_cons, List.length_append, List.length_cons]
    omega
def sp_runs_of : Sp := fun vs H Q _ => ∃ (n : Nat) (r : Bool) (c : Addr) (ds : List Nat), vs = [nI n, .bl r, .ref c] ∧ Ls H c ds ∧ 1 ≤ n ∧ n ≤ 100 ∧ (r = true → 3 ≤ n) ∧ ds.length ≤ 100 ∧
  ∀ H' p, Same H H' → Ls H' p (runs r n ds) → Q (.ref p) H'
theorem ok_runs_of {f : Addr} {fd : FuncData} (d : Df K mg "runs_of" s_runs_of ["many", "is_ring", "doors"] f fd) : Cal P w K mg base 1 "runs_of" sp_runs_of := by
  refine d.ok sc_runs_of (fun vs H Q E h => ?_) (fun cdv A outer s H vs Q E hr h => ?_)
  · obtain ⟨n, r, c, ds, rfl, _⟩ := h
    rfl
  · obtain ⟨n, r, c, ds, rfl, hc, hn, hn2, h3, hds, q⟩ := h
-- runs_of: slots 0 many 1 is_ring 2 doors 3 found 4 k 5 before 6 size
    refine ⟨_, (pss_cons (ps_set (i := 3) sc_runs_of.nd rfl (.inl rfl) (pe_lst pa_nil))
      (pss_cons (ps_for PassesOwn.never rfl (pi_list (pv 2)) (pg_name (i := 4) sc_runs_of.nd rfl (.inl rfl)) 
        (pss_cons (ps_set (i := 5) sc_runs_of.nd rfl (.inl rfl) (pe_ifExp (pt_val (pv 1)) (pe_op op_mod (pe_op op_sub (pv 4) pe_int) (pv 0)) (pe_op op_sub (pv 4) pe_int)))
        (pss_one (ps_if (pt_cmpR op_notInZ (pv 5) (pv 2) (by rfl)) 
          (pss_cons (ps_set (i := 6) sc_runs_of.nd rfl (.inl rfl) pe_int)
          (pss_cons (ps_while PassesOwn.never (PW.pt (pw_and (pt_cmpR op_inN (pe_op op_modN' (pe_op op_addN' (pv 4) (pv 6)) (pv 0)) (pv 2) (by rfl)) (pw_and1 (PW.pt (pw_or (pt_val (pv 1)) (pw_or1 (pt_cmpR op_lt (pe_op op_addN' (pv 4) (pv 6)) (pv 0) (nomark _)))))))) 
            (pss_one (ps_aug (i := 6) sc_runs_of.nd rfl (.inl rfl) pe_int ip_add)))
          (pss_one (ps_expr (pe_bm PySem.F.plainAttrs_list PySem.F.slot_list_append PySem.F.type_list_append mt_append (pv 3) (pa_cons (pv 6) pa_nil)))))) pss_nil))))
      (pss_one (ps_ret (pv 3))))), ?_⟩
    refine ⟨Nat.zero_le _, fun o no => ?_⟩
    refine ⟨.ref c, rfl, c, rfl, ⟨_, Ls.sq ((same_upd no) _ _ hc)⟩, for_it (walk_listN (K := K) (a := c) (s := ds)) (fun i σ H' => ∃ y4 y5 y6, σ = [some (nI n), some (.bl r), some (.ref c), some (.ref o), y4, y5, y6] ∧ Same H H' ∧ Ls H' o ((ds.take i).map (runAt r n ds)).flatten)
      ⟨none, none, none, rfl, same_upd no, upd_same⟩ (fun i σ H' _ hP => ?_) (fun i x σ H1 H1' hi hP y => ?_) (fun σ H1 hP => ?_)⟩
    · obtain ⟨_, _, _, _, sm, _⟩ := hP
      exact Ls.sq (sm _ _ hc)
    · obtain ⟨y4, y5, y6, rfl, sm, hL⟩ := hP
      obtain ⟨rfl, hx⟩ := y
      rw [List.length_map] at hi
      rw [List.getElem?_map] at hx
      rw [List.getElem?_eq_getElem hi] at hx
      obtain rfl : nI ds[i] = x := Option.some.inj hx
      have hgi : ds[i]? = some ds[i] := List.getElem?_eq_getElem hi
      have hC : Ls H1' c ds := sm _ _ hc
      refine ⟨.bl r, rfl, r, rfl, tif_val (.int (bI r n ds[i])) (fun e Q q => ⟨nI ds[i], rfl, _, _, rfl, rfl, nI n, rfl, _, _, rfl, rfl, ?_⟩) (fun e Q q => ⟨nI ds[i], rfl, _, _, rfl, rfl, ?_⟩) ?_⟩
      · refine ⟨by show (0 : Int) < (n : Int); omega, ?_⟩
        unfold bI at q
        rw [e, if_pos rfl] at q
        exact q
      · unfold bI at q
        rw [e, if_neg Bool.false_ne_true] at q
        exact q
      refine ⟨.int (bI r n ds[i]), rfl, .ref c, rfl, bI r n ds[i], c, ds, rfl, rfl, .inl hC, _, rfl, ?_⟩
      rw [any_bI hn]
      cases hb : hasBefore r n ds ds[i] with
      | true =>
        refine iteF ⟨_, _, _, rfl, sm, ?_⟩
        rw [runs_take hgi, runAt, if_pos hb, List.append_nil]
        exact hL
      | false =>
        refine iteT ?_
        obtain ⟨m, hm1, hm2, hm3⟩ := run_stops hn h3 hb
        refine ⟨fun mm σ' H' => ∃ size, mm = n + 1 - size ∧ σ' = [some (nI n), some (.bl r), some (.ref c), some (.ref o), some (nI ds[i]), some (.int (bI r n ds[i])), some (nI size)] ∧ H' = H1' ∧ 1 ≤ size ∧ size ≤ m ∧ runEnd r n ds ds[i] (n + 1 - size) size = runEnd r n ds ds[i] n 1,
          ⟨n, 1, rfl, rfl, rfl, Nat.le_refl _, hm1, rfl⟩, ?_⟩
        rintro mm σ' H' ⟨size, rfl, rfl, rfl, hs1, hs2, he⟩
        have hfu : n + 1 - size = (n - size) + 1 := by omega
        have hgo : runGo r n ds ds[i] size = (decide ((ds[i] + size) % n ∈ ds) && (r || decide (ds[i] + size < n))) := rfl
        rw [hfu] at he
        -- one turn more
        have more : runGo r n ds ds[i] size = true → ∃ m', m' < n + 1 - size ∧ ∃ size', m' = n + 1 - size' ∧ [some (nI n), some (V.bl r), some (V.ref c), some (V.ref o), some (nI ds[i]), some (V.int (bI r n ds[i])), some (nI (size + 1))] = [some (nI n), some (V.bl r), some (V.ref c), some (V.ref o), some (nI ds[i]), some (V.int (bI r n ds[i])), some (nI size')] ∧ H' = H' ∧ 1 ≤ size' ∧ size' ≤ m ∧ runEnd r n ds ds[i] (n + 1 - size') size' = runEnd r n ds ds[i] n 1 := fun hg => by
          have hne : size ≠ m := fun e => by
            rw [e, hm3] at hg
            cases hg
          refine ⟨n + 1 - (size + 1), by omega, size + 1, rfl, rfl, rfl, by omega, by omega, ?_⟩
          rw [runEnd_succ, if_pos hg] at he
          rw [show n + 1 - (size + 1) = n - size by omega]
          exact he
        have stop : runGo r n ds ds[i] size = false → runAt r n ds ds[i] = [size] := fun hg => by
          rw [runEnd_succ, if_neg (by rw [hg]; exact Bool.false_ne_true)] at he
          unfold runAt
          rw [if_neg (by rw [hb]; exact Bool.false_ne_true), ← he]
        have go : runGo r n ds ds[i] size = true → ∃ N : L2.St → Hp → Prop, (∀ σ' H'', N σ' H'' → ∃ m', m' < n + 1 - size ∧ ∃ size', m' = n + 1 - size' ∧ σ' = [some (nI n), some (V.bl r), some (V.ref c), some (V.ref o), some (nI ds[i]), some (V.int (bI r n ds[i])), some (nI size')] ∧ H'' = H' ∧ 1 ≤ size' ∧ size' ≤ m ∧ runEnd r n ds ds[i] (n + 1 - size') size' = runEnd r n ds ds[i] n 1) ∧
            N [some (nI n), some (V.bl r), some (V.ref c), some (V.ref o), some (nI ds[i]), some (V.int (bI r n ds[i])), some (nI (size + 1))] H' := fun hg =>
          ⟨fun σ' H'' => σ' = [some (nI n), some (V.bl r), some (V.ref c), some (V.ref o), some (nI ds[i]), some (V.int (bI r n ds[i])), some (nI (size + 1))] ∧ H'' = H', fun σ' H'' h => by obtain ⟨rfl, rfl⟩ := h; exact more hg, rfl, rfl⟩
        have hend : runGo r n ds ds[i] size = false → ∀ (xs : List V), xs = (((ds.take i).map (runAt r n ds)).flatten).map nI ++ [nI size] → ∃ y4 y5 y6, [some (nI n), some (V.bl r), some (V.ref c), some (V.ref o), some (nI ds[i]), some (V.int (bI r n ds[i])), some (nI size)] = [some (nI n), some (V.bl r), some (V.ref c), some (V.ref o), y4, y5, y6] ∧ Same H (upd H' o (.lst xs)) ∧ Ls (upd H' o (.lst xs)) o ((ds.take (i + 1)).map (runAt r n ds)).flatten := fun hg xs e => by
          refine ⟨_, _, _, rfl, Same.atNew sm no, ?_⟩
          rw [runs_take hgi, stop hg]
          show upd H' o _ o = _
          rw [upd_same, e, List.map_append]
          rfl
        have app : runGo r n ds ds[i] size = false → (((ds.take i).map (runAt r n ds)).flatten.map nI).length < sizeLine := fun _ => by
          have h1 := runs_len r n ds (ds.take i)
          rw [List.length_take] at h1
          rw [List.length_map]
          exact small1000 (by omega)
        refine ⟨nI ds[i], rfl, nI size, rfl, _, _, rfl, rfl, nI n, rfl, _, _, rfl, rfl, hn, .ref c, rfl, (ds[i] + size) % n, c, ds, rfl, rfl, .inl hC, _, rfl, ite2 (fun e1 => ⟨.bl r, rfl, r, rfl, ite2 (fun e2 => ?_) (fun e2 => ?_)⟩) (fun e1 => ?_)⟩
        · have hg : runGo r n ds ds[i] size = true := by rw [hgo, e1, e2]; rfl
          obtain ⟨N, hN, hn0⟩ := go hg
          exact iteT ⟨N, hN, nI size, rfl, _, _, rfl, rfl, hn0⟩
        · refine ⟨nI ds[i], rfl, nI size, rfl, _, _, rfl, rfl, nI n, rfl, _, _, rfl, rfl, _, rfl, ite2 (fun e3 => ?_) (fun e3 => ?_)⟩
          · have e4 : ds[i] + size < n := Int.ofNat_lt.mp (of_decide_eq_true e3)
            have hg : runGo r n ds ds[i] size = true := by rw [hgo, e1, decide_eq_true e4, Bool.or_true]; rfl
            obtain ⟨N, hN, hn0⟩ := go hg
            exact ⟨N, hN, nI size, rfl, _, _, rfl, rfl, hn0⟩
          · have e4 : ¬ ds[i] + size < n := fun h => e3 (decide_eq_true (Int.ofNat_lt.mpr h))
            have hg : runGo r n ds ds[i] size = false := by rw [hgo, decide_eq_false e4, Bool.not_eq_true _ |>.mp e2]; simp
            exact ⟨.ref o, rfl, .inl ⟨rfl, _, Ls.sq hL⟩, nI size, rfl, o, _, _, rfl, rfl, hL, app hg, hend hg _ rfl⟩
        · have hg : runGo r n ds ds[i] size = false := by rw [hgo, Bool.not_eq_true _ |>.mp e1, Bool.false_and]
          exact iteF ⟨.ref o, rfl, .inl ⟨rfl, _, Ls.sq hL⟩, nI size, rfl, o, _, _, rfl, rfl, hL, app hg, hend hg _ rfl⟩
    · obtain ⟨y4, y5, y6, rfl, sm, hL⟩ := hP
      rw [List.length_map, List.take_length] at hL
      exact ⟨.ref o, rfl, q _ o sm hL⟩
end
end KR
namespace KR
open PySem PySem.Spec PyProof.Rows L2
section
variable {P : Program} {w : World} {K : PySem.W.Frag} {mg : Str → Option Value} {base : Heap}
/-! ### orders_of -/
theorem runs_mem {r : Bool} {n : Nat} {ds : List Nat} {x : Nat} (h : x ∈ runs r n ds) : x ≤ n + 1 := by
  unfold runs at h
  obtain ⟨l, hl, hx⟩ := List.mem_flatten.mp h
  obtain ⟨k, _, rfl⟩ := List.mem_map.mp hl
  unfold runAt at hx
  split at hx
  · cases hx
  · have := runEnd_le r n ds k n 1
    rw [List.mem_singleton.mp hx]
    omega
theorem ord_take (p : Nat × Nat) (size i : Nat) : ((List.range (i + 1)).foldl ordStep p) = ordStep ((List.range i).foldl ordStep p) i := by
  rw [List.range_succ, List.foldl_append]
  rfl
theorem ord_turn (p : Nat × Nat) : ∀ i : Nat, ((List.range i).foldl ordStep p).2 = p.2 + i
  | 0 => rfl
  | i + 1 => by
    rw [ord_take p 0 i]
    show ((List.range i).foldl ordStep p).2 + 1 = _
    rw [ord_turn p i]
    omega
theorem ordRuns_turn (b : Nat) : ∀ (l : List Nat) (p : Nat × Nat), (∀ x ∈ l, x ≤ b) → (l.foldl ordRun p).2 ≤ p.2 + l.length * b
  | [], p, _ => by simp
  | x :: l, p, h => by
    have ih := ordRuns_turn b l (ordRun p x) fun y hy => h y (List.mem_cons_of_mem _ hy)
    have h1 : (ordRun p x).2 = p.2 + x := ord_turn p x
    have h2 := h x List.mem_cons_self
    rw [List.foldl_cons, List.length_cons, Nat.succ_mul]
    omega
theorem fold_take {α β : Type} (f : β → α → β) (b : β) {l : List α} {i : Nat} {x : α} (h : l[i]? = some x) : (l.take (i + 1)).foldl f b = f ((l.take i).foldl f b) x := by
  rw [List.take_add_one, h, List.foldl_append]
  rfl
/-- the turn of a long product stays small -/
theorem ordRuns_small {r : Bool} {n : Nat} {ds : List Nat} {p : Nat × Nat} (hn : n ≤ 100) (hd : ds.length ≤ 100) (i : Nat) : (((runs r n ds).take i).foldl ordRun p).2 ≤ p.2 + 10100 := by
  have h1 := ordRuns_turn (n + 1) ((runs r n ds).take i) p fun x hx => runs_mem (List.mem_of_mem_take hx)
  have h2 : ((runs r n ds).take i).length ≤ 100 := by
    have := runs_len r n ds ds
    rw [List.length_take]
    have h3 : (runs r n ds).length ≤ ds.length := this
    omega
  have h3 : ((runs r n ds).take i).length * (n + 1) ≤ 100 * 101 := Nat.mul_le_mul h2 (by omega)
  omega
theorem two_at {f o : Addr} {x : V} {A B : List Nat} : ∀ {i : Nat}, [V.ref f, .ref o][i]? = some x → ∃ c ds, x = .ref c ∧ [A, B][i]? = some ds ∧ ((c = f ∧ ds = A) ∨ (c = o ∧ ds = B)) ∧ i < 2
  | 0, h => ⟨f, A, (Option.some.inj h).symm, rfl, .inl ⟨rfl, rfl⟩, by omega⟩
  | 1, h => ⟨o, B, (Option.some.inj h).symm, rfl, .inr ⟨rfl, rfl⟩, by omega⟩
  | i + 2, h => by simp at h
def sp_orders_of : Sp := fun vs H Q _ => ∃ (n : Nat) (r : Bool) (a b : Addr) (s t : List Nat), vs = [nI n, .bl r, .ref a, .ref b] ∧ Tp H a s ∧ Tp H b t ∧ s.length ≤ 100 ∧ t.length ≤ 100 ∧ 1 ≤ n ∧ n ≤ 100 ∧ (r = true → 3 ≤ n) ∧
  ∀ H', Same H H' → Q (nI (orders r n s t)) H'
theorem ok_orders_of {f : Addr} {fd : FuncData} (d : Df K mg "orders_of" s_orders_of ["many", "is_ring", "one", "other"] f fd) (B : Blt mg) (c_differ_in : Cal P w K mg base 1 "differ_in" sp_differ_in) (c_runs_of : Cal P w K mg base 1 "runs_of" sp_runs_of) : Cal P w K mg base 2 "orders_of" sp_orders_of := by
  refine d.ok sc_orders_of (fun vs H Q E h => ?_) (fun cdv A outer s H vs Q E hr h => ?_)
  · obtain ⟨n, r, a, b, s, t, rfl, _⟩ := h
    rfl
  · obtain ⟨n, r, a, b, s, t, rfl, ha, hb, hs, ht, hn, hn2, h3, q⟩ := h
-- orders_of: slots 0 many 1 is_ring 2 one 3 other 4 found 5 turn 6 doors 7 size 8 k
    refine ⟨_, (pss_cons (ps_asg (pe_tup (pa_cons pe_int (pa_cons pe_int pa_nil))) (pg_tup rfl (pgs_cons (pg_name (i := 4) sc_orders_of.nd rfl (.inl rfl)) (pgs_cons (pg_name (i := 5) sc_orders_of.nd rfl (.inl rfl)) pgs_nil))))
      (pss_cons (ps_for PassesOwn.never rfl (pi_tup (pe_callC c_differ_in (hr.mono (by decide)) (by rfl) (pa_cons (pv 2) (pa_cons (pv 3) pa_nil)))) (pg_name (i := 6) sc_orders_of.nd rfl (.inl rfl)) 
        (pss_one (ps_for PassesOwn.never rfl (pi_list (pe_callC c_runs_of (hr.mono (by decide)) (by rfl) (pa_cons (pv 0) (pa_cons (pv 1) (pa_cons (pv 6) pa_nil))))) (pg_name (i := 7) sc_orders_of.nd rfl (.inl rfl)) 
          (pss_one (ps_for PassesOwn.never rfl (pi_range1 (by rfl) B.m_range (pa_cons (pv 7) pa_nil)) (pg_name (i := 8) sc_orders_of.nd rfl (.inl rfl)) 
            (pss_cons (ps_aug (i := 5) sc_orders_of.nd rfl (.inl rfl) pe_int ip_add)
            (pss_one (ps_set (i := 4) sc_orders_of.nd rfl (.inl rfl) (pe_op op_fdiv (pe_op op_mul (pv 4) (pv 5)) (pe_op op_add (pv 8) pe_int))))))))))
      (pss_one (ps_ret (pv 4))))), ?_⟩
    have hfl : (fresh s t).length ≤ 100 := filter_len _ _ ht
    have hol : (old s t).length ≤ 100 := filter_len _ _ hs
    refine ⟨by show 2 ≤ sizeLine; decide, fun p0 np0 => ⟨p0, _, rfl, Tp.sq upd_same, rfl, _, [_], rfl, _, [], rfl, rfl, ?_⟩⟩
    have s0 : Same H (upd H p0 (.tup [.int 1, .int 0])) := same_upd np0
    refine ⟨.ref a, rfl, .ref b, rfl, a, b, s, t, rfl, s0 _ _ ha, s0 _ _ hb, hs, ht, fun H1 p f o s1 hp hf ho => ?_⟩
    refine ⟨p, rfl, ⟨_, Tp.sq hp⟩, for_it (walk_tup (K := K) (a := p) (xs := [.ref f, .ref o])) (fun i σ H' => ∃ pr y6 y7 y8, σ = [some (nI n), some (.bl r), some (.ref a), some (.ref b), some (nI pr.1), some (nI pr.2), y6, y7, y8] ∧ Same H1 H' ∧
        pr = (([fresh s t, old s t].take i).foldl (ordDoors r n) ((1, 0) : Nat × Nat)) ∧ pr.2 ≤ i * 10100)
      ⟨((1, 0) : Nat × Nat), none, none, none, rfl, Same.refl H1, rfl, Nat.zero_le _⟩ (fun i σ H' _ hP => ?_) (fun i x σ H2 H2' hi hP y => ?_) (fun σ H2 hP => ?_)⟩
    · obtain ⟨_, _, _, _, _, sm, _⟩ := hP
      exact Tp.sq (sm _ _ hp)
    · obtain ⟨pr, y6, y7, y8, rfl, sm, hpr, htn⟩ := hP
      obtain ⟨rfl, hx⟩ := y
      -- which doors
      obtain ⟨c, ds, rfl, hget, hds, hi2⟩ := two_at (A := fresh s t) (B := old s t) hx
      have hc : Ls H2' c ds := by
        rcases hds with ⟨rfl, rfl⟩ | ⟨rfl, rfl⟩
        · exact sm _ _ hf
        · exact sm _ _ ho
      have hdl : ds.length ≤ 100 := by
        rcases hds with ⟨_, rfl⟩ | ⟨_, rfl⟩
        · exact hfl
        · exact hol
      refine ⟨nI n, rfl, .bl r, rfl, .ref c, rfl, n, r, c, ds, rfl, hc, hn, hn2, h3, hdl, fun H3 l s3 hl => ?_⟩
      refine ⟨l, rfl, ⟨_, Ls.sq hl⟩, for_it (walk_listN (K := K) (a := l) (s := runs r n ds)) (fun j σ H' => ∃ pq y7 y8, σ = [some (nI n), some (.bl r), some (.ref a), some (.ref b), some (nI pq.1), some (nI pq.2), some (.ref c), y7, y8] ∧ Same H3 H' ∧ pq = ((runs r n ds).take j).foldl ordRun pr)
        ⟨pr, y7, y8, rfl, Same.refl H3, rfl⟩ (fun j σ H' _ hP => ?_) (fun j x σ H4 H4' hj hP y => ?_) (fun σ H4 hP => ?_)⟩
      · obtain ⟨_, _, _, _, sm, _⟩ := hP
        exact Ls.sq (sm _ _ hl)
      · obtain ⟨pq, y7, y8, rfl, sm4, hpq⟩ := hP
        obtain ⟨rfl, hx⟩ := y
        rw [List.length_map] at hj
        rw [List.getElem?_map, List.getElem?_eq_getElem hj] at hx
        obtain rfl : nI (runs r n ds)[j] = x := Option.some.inj hx
        have hgj : (runs r n ds)[j]? = some (runs r n ds)[j] := List.getElem?_eq_getElem hj
        have hsz : (runs r n ds)[j] ≤ n + 1 := runs_mem (List.getElem_mem hj)
        have hpq2 : pq.2 ≤ pr.2 + 10100 := hpq ▸ ordRuns_small hn2 hdl j
        refine ⟨nI (runs r n ds)[j], rfl, ((runs r n ds)[j] : Int), rfl, (int62 (by omega)).1, (int62 (by omega)).2, ?_⟩
        refine for_it (walk_rangeN (n := (runs r n ds)[j])) (fun k σ H' => ∃ pk y8, σ = [some (nI n), some (.bl r), some (.ref a), some (.ref b), some (nI pk.1), some (nI pk.2), some (.ref c), some (nI (runs r n ds)[j]), y8] ∧ H' = H4' ∧ pk = (List.range k).foldl ordStep pq)
          ⟨pq, y8, rfl, rfl, rfl⟩ (fun _ _ _ _ _ => trivial) (fun k x σ H5 H5' hk hP y => ?_) (fun σ H5 hP => ?_)
        · obtain ⟨pk, y8, rfl, rfl, hpk⟩ := hP
          obtain ⟨rfl, hx⟩ := y
          rw [List.length_map, List.length_range] at hk
          rw [List.getElem?_map, List.getElem?_range hk] at hx
          obtain rfl : nI k = x := Option.some.inj hx
          have hpk2 : pk.2 = pq.2 + k := hpk ▸ ord_turn pq k
          refine ⟨nI pk.2, rfl, _, _, rfl, rfl, nI pk.1, rfl, .int ((pk.2 : Int) + 1), rfl, _, _, rfl, rfl, .inr ?_, nI k, rfl, _, _, rfl, rfl, _, _, rfl, rfl, ?_, ordStep pk k, _, rfl, rfl, ?_⟩
          · have h2 : (2 : Int) ^ 64 = 18446744073709551616 := by decide
            rw [h2]
            have : (pk.2 : Int) ≤ 100000 := by omega
            omega
          · show (0 : Int) < (k : Int) + 1 ∧ (k : Int) + 1 < 1073741824
            omega
          · rw [ord_take pq 0 k, ← hpk]
        · obtain ⟨pk, y8, rfl, rfl, hpk⟩ := hP
          rw [List.length_map, List.length_range] at hpk
          refine ⟨pk, _, _, rfl, sm4, ?_⟩
          rw [fold_take ordRun pr hgj, ← hpq]
          exact hpk
      · obtain ⟨pq, y7, y8, rfl, sm4, hpq⟩ := hP
        rw [List.length_map, List.take_length] at hpq
        refine ⟨pq, _, _, _, rfl, (sm.trans s3).trans sm4, ?_, ?_⟩
        · rw [fold_take (ordDoors r n) _ hget, ← hpr, hpq]
          rfl
        · have := ordRuns_small (r := r) (p := pr) hn2 hdl (runs r n ds).length
          rw [List.take_length, ← hpq] at this
          rw [Nat.succ_mul]
          omega
    · obtain ⟨pr, y6, y7, y8, rfl, sm, hpr, htn⟩ := hP
      have e : pr.1 = orders r n s t := by rw [hpr]; rfl
      refine ⟨nI pr.1, rfl, ?_⟩
      rw [e]
      exact q _ ((s0.trans s1).trans sm)
/-! ### row_ways, ring_ways -/
def sp_ways (r : Bool) : Sp := fun vs H Q _ => ∃ (n : Nat) (a b : Addr) (s t : List Nat), vs = [nI n, .ref a, .ref b] ∧ Tp H a s ∧ Tp H b t ∧ (if r = true then 3 else 1) ≤ n ∧ n ≤ 40 ∧ Asc n s ∧ Asc n t ∧ ∀ H', Same H H' → Q (nI (ways r n s t)) H'
theorem ok_row_ways {f : Addr} {fd : FuncData} (d : Df K mg "row_ways" s_row_ways ["many", "one", "other"] f fd) (c_need_two : Cal P w K mg base 4 "need_two" sp_need_two) (c_comes_in : Cal P w K mg base 2 "comes_in" sp_comes_in)
    (c_orders_of : Cal P w K mg base 2 "orders_of" sp_orders_of) : Cal P w K mg base 5 "row_ways" (sp_ways false) := by
  refine d.ok sc_row_ways (fun vs H Q E h => ?_) (fun cdv A outer s H vs Q E hr h => ?_)
  · obtain ⟨n, a, b, s, t, rfl, _⟩ := h
    rfl
  · obtain ⟨n, a, b, s, t, rfl, ha, hb, hn, h40, hs, ht, q⟩ := h
    have hn : 1 ≤ n := hn
    have hsl := hs.len
    have htl := ht.len
-- row_ways: slots 0 many 1 one 2 other
    refine ⟨_, (pss_cons (ps_expr (pe_callC c_need_two (hr.mono (by decide)) (by rfl) (pa_cons (pv 0) (pa_cons pe_int (pa_cons (pv 1) (pa_cons (pv 2) pa_nil))))))
      (pss_one (ps_ret (pe_ifExp (pt_val (pe_callC c_comes_in (hr.mono (by decide)) (by rfl) (pa_cons (pv 0) (pa_cons pe_bl (pa_cons (pv 1) (pa_cons (pv 2) pa_nil)))))) (pe_callC c_orders_of (hr.mono (by decide)) (by rfl) (pa_cons (pv 0) (pa_cons pe_bl (pa_cons (pv 1) (pa_cons (pv 2) pa_nil))))) pe_int)))), ?_⟩
    refine ⟨nI n, rfl, .ref a, rfl, .ref b, rfl, n, 1, a, b, s, t, rfl, ha, hb, by omega, hn, h40, hs, ht, fun H1 s1 => ?_⟩
    refine ⟨nI n, rfl, .ref a, rfl, .ref b, rfl, n, false, a, b, s, t, rfl, s1 _ _ ha, s1 _ _ hb, by omega, by omega, by omega, by omega, fun H2 s2 => ?_⟩
    have s12 := s1.trans s2
    unfold ways at q
    refine ⟨_, rfl, ?_⟩
    cases hc : comes false n s t with
    | false =>
      rw [hc, if_neg Bool.false_ne_true] at q
      exact iteF (q _ s12)
    | true =>
      rw [hc, if_pos rfl] at q
      exact iteT ⟨nI n, rfl, .ref a, rfl, .ref b, rfl, n, false, a, b, s, t, rfl, s12 _ _ ha, s12 _ _ hb, by omega, by omega, hn, by omega, (fun e => by cases e), fun H3 s3 => q _ (s12.trans s3)⟩
theorem ok_ring_ways {f : Addr} {fd : FuncData} (d : Df K mg "ring_ways" s_ring_ways ["many", "one", "other"] f fd) (c_need_two : Cal P w K mg base 4 "need_two" sp_need_two) (c_comes_in : Cal P w K mg base 2 "comes_in" sp_comes_in)
    (c_orders_of : Cal P w K mg base 2 "orders_of" sp_orders_of) : Cal P w K mg base 5 "ring_ways" (sp_ways true) := by
  refine d.ok sc_ring_ways (fun vs H Q E h => ?_) (fun cdv A outer s H vs Q E hr h => ?_)
  · obtain ⟨n, a, b, s, t, rfl, _⟩ := h
    rfl
  · obtain ⟨n, a, b, s, t, rfl, ha, hb, hn, h40, hs, ht, q⟩ := h
    have hn : 3 ≤ n := hn
    have hsl := hs.len
    have htl := ht.len
-- ring_ways: slots 0 many 1 one 2 other
    refine ⟨_, (pss_cons (ps_expr (pe_callC c_need_two (hr.mono (by decide)) (by rfl) (pa_cons (pv 0) (pa_cons pe_int (pa_cons (pv 1) (pa_cons (pv 2) pa_nil))))))
      (pss_one (ps_ret (pe_ifExp (pt_val (pe_callC c_comes_in (hr.mono (by decide)) (by rfl) (pa_cons (pv 0) (pa_cons pe_bl (pa_cons (pv 1) (pa_cons (pv 2) pa_nil)))))) (pe_callC c_orders_of (hr.mono (by decide)) (by rfl) (pa_cons (pv 0) (pa_cons pe_bl (pa_cons (pv 1) (pa_cons (pv 2) pa_nil))))) pe_int)))), ?_⟩
    refine ⟨nI n, rfl, .ref a, rfl, .ref b, rfl, n, 3, a, b, s, t, rfl, ha, hb, by omega, hn, h40, hs, ht, fun H1 s1 => ?_⟩
    refine ⟨nI n, rfl, .ref a, rfl, .ref b, rfl, n, true, a, b, s, t, rfl, s1 _ _ ha, s1 _ _ hb, by omega, by omega, by omega, by omega, fun H2 s2 => ?_⟩
    have s12 := s1.trans s2
    unfold ways at q
    refine ⟨_, rfl, ?_⟩
    cases hc : comes true n s t with
    | false =>
      rw [hc, if_neg Bool.false_ne_true] at q
      exact iteF (q _ s12)
    | true =>
      rw [hc, if_pos rfl] at q
      exact iteT ⟨nI n, rfl, .ref a, rfl, .ref b, rfl, n, true, a, b, s, t, rfl, s12 _ _ ha, s12 _ _ hb, by omega, by omega, by omega, by omega, (fun _ => hn), fun H3 s3 => q _ (s12.trans s3)⟩
end
end KR
namespace KR
open PySem PySem.Spec PyProof.Rows L2
section
variable {P : Program} {w : World} {K : PySem.W.Frag} {mg : Str → Option Value} {base : Heap}
/-! ### the law's draws -/
/-- all but a is as it was -/
def SameB (a : Addr) (H H' : Hp) : Prop := ∀ b o, b ≠ a → H b = some o → H' b = some o
theorem SameB.refl (a : Addr) (H : Hp) : SameB a H H := fun _ _ _ h => h
theorem SameB.trans {a : Addr} {H H1 H2 : Hp} (x : SameB a H H1) (y : SameB a H1 H2) : SameB a H H2 := fun b o hb h => y b o hb (x b o hb h)
theorem SameB.of {a : Addr} {H H1 : Hp} (x : Same H H1) : SameB a H H1 := fun b o _ h => x b o h
theorem SameB.upd {a : Addr} {H : Hp} {o : HO} : SameB a H (L2.upd H a o) := fun b x hb h => by
  rw [upd_ne hb]
  exact h
def RowIs (K : PySem.W.Frag) (H : Hp) (a scr : Addr) (ns : List Int) (i x y : Int) : Prop := H a = some (.lst [.ref scr, .int i, .int x, .int y]) ∧ SqL K H scr (ns.map V.int) ∧ 0 ≤ i
/-- the draw's list at a -/
def RowAt (K : PySem.W.Frag) (H : Hp) (a : Addr) : Prop := ∃ (scr : Addr) (ns : List Int) (i x y : Int), RowIs K H a scr ns i x y
theorem scr_upd {K : PySem.W.Frag} {H : Hp} {a scr : Addr} {ns : List Int} {l : List V} {q : Addr} {o : HO} (h : H a = some (.lst (.ref q :: l))) (hs : SqL K H scr (ns.map V.int)) : SqL K (upd H a o) scr (ns.map V.int) := by
  rcases hs with (hs | ⟨ob, hs⟩) | hs
  · refine .inl (.inl ?_)
    rw [upd_ne (ne_of hs h fun z => ?_)]
    · exact hs
    · cases ns with
      | nil => cases z
      | cons n r => cases z
  · refine .inl (.inr ⟨ob, ?_⟩)
    rw [upd_ne (ne_of hs h fun z => by cases z)]
    exact hs
  · exact .inr hs
theorem RowIs.set {K : PySem.W.Frag} {H : Hp} {a scr : Addr} {ns : List Int} {i x y i' x' y' : Int} (h : RowIs K H a scr ns i x y) (h0 : 0 ≤ i') : RowIs K (upd H a (.lst [.ref scr, .int i', .int x', .int y'])) a scr ns i' x' y' :=
  ⟨upd_same, scr_upd h.1 h.2.1, h0⟩
theorem RowIs.same {K : PySem.W.Frag} {H H' : Hp} {a scr : Addr} {ns : List Int} {i x y : Int} (h : RowIs K H a scr ns i x y) (s : Same H H') : RowIs K H' a scr ns i x y := ⟨s _ _ h.1, s.seq h.2.1, h.2.2⟩
theorem RowAt.same {K : PySem.W.Frag} {H H' : Hp} {a : Addr} (h : RowAt K H a) (s : Same H H') : RowAt K H' a := by
  obtain ⟨scr, ns, i, x, y, h⟩ := h
  exact ⟨scr, ns, i, x, y, h.same s⟩
/-- a change elsewhere -/
theorem RowAt.at {K : PySem.W.Frag} {H : Hp} {a p : Addr} {o : HO} {s : List Nat} (h : RowAt K H a) (hp : Ls H p s) (hne : a ≠ p) (hs : ∀ (ns : List Int), s.map nI = ns.map V.int → False) : RowAt K (upd H p o) a := by
  obtain ⟨scr, ns, i, x, y, h1, h2, h3⟩ := h
  refine ⟨scr, ns, i, x, y, by rw [upd_ne hne]; exact h1, ?_, h3⟩
  rcases h2 with (h2 | ⟨ob, h2⟩) | h2
  · refine .inl (.inl ?_)
    rw [upd_ne (ne_of h2 hp fun z => ?_)]
    · exact h2
    · injection z with z
      exact hs ns z.symm
  · refine .inl (.inr ⟨ob, ?_⟩)
    rw [upd_ne (ne_of h2 hp fun z => by cases z)]
    exact h2
  · exact .inr h2
theorem mod_nI {z : Int} {m : Nat} (hm : 1 ≤ m) : ∃ k : Nat, k < m ∧ V.int (z % (m : Int)) = nI k := by
  have h1 : 0 ≤ z % (m : Int) := Int.emod_nonneg _ (by omega)
  have h2 : z % (m : Int) < (m : Int) := Int.emod_lt_of_pos _ (by omega)
  refine ⟨(z % (m : Int)).toNat, by omega, ?_⟩
  show V.int (z % (m : Int)) = V.int (((z % (m : Int)).toNat : Nat) : Int)
  rw [Int.toNat_of_nonneg h1]
def sp_taken (K : PySem.W.Frag) : Sp := fun vs H Q _ => ∃ (a : Addr) (m : Nat), vs = [.ref a, nI m] ∧ RowAt K H a ∧ 1 ≤ m ∧ m ≤ 1000 ∧ ∀ H' k, k < m → SameB a H H' → RowAt K H' a → Q (nI k) H'
theorem ok_taken {f : Addr} {fd : FuncData} (d : Df K mg "_law_taken" s_law_taken ["_law_row", "_law_many"] f fd) (B : Blt mg) : Cal P w K mg base 1 "_law_taken" (sp_taken K) := by
  refine d.ok sc_law_taken (fun vs H Q E h => ?_) (fun cdv A outer s H vs Q E hr h => ?_)
  · obtain ⟨a, m, rfl, _⟩ := h
    rfl
  · obtain ⟨a, m, rfl, ⟨scr, ns, i, x, y, h⟩, hm, hm2, q⟩ := h
    have hm0 : (0 : Int) < (m : Int) := by omega
    have hdv : (0 : Int) < (m : Int) ∧ (m : Int) < 1073741824 := by omega
-- _law_taken: slots 0 _law_row 1 _law_many 2 _law_found 3 _law_cell
    refine ⟨_, (pss_cons (ps_if (pt_cmpR op_gt (pe_ix ix_list (pv 0) pe_int (fun _ _ => rfl)) pe_int (nomark _)) 
        (pss_cons (ps_set (i := 2) sc_law_taken.nd rfl (.inl rfl) (pe_op op_mod (pe_callTy call_int1 (by rfl) B.m_int (by decide +kernel) (pa_cons (pe_ix ix_list (pv 0) pe_int (fun _ _ => rfl)) pa_nil)) (pv 1)))
        (pss_cons (ps_asg (pe_op op_fdiv (pe_ix ix_list (pv 0) pe_int (fun _ _ => rfl)) (pv 1)) (pg_sub (pv 0) pe_int set_list))
        (pss_one (ps_ret (pv 2))))) pss_nil)
      (pss_cons (ps_asg (pe_op op_add (pe_ix ix_list (pv 0) pe_int (fun _ _ => rfl)) pe_int) (pg_sub (pv 0) pe_int set_list))
      (pss_cons (ps_if (pt_cmpR op_gt (pe_ix ix_list (pv 0) pe_int (fun _ _ => rfl)) (pe_callB call_len_seq (by rfl) B.m_len (by decide +kernel) (pa_cons (pe_ix ix_list (pv 0) pe_int (fun _ _ => rfl)) pa_nil)) (nomark _)) 
        (pss_cons (ps_asg (pe_op op_mod (pe_callTy call_int1 (by rfl) B.m_int (by decide +kernel) (pa_cons (pe_op op_add (pe_op op_mul (pe_ix ix_list (pv 0) pe_int (fun _ _ => rfl)) pe_int) pe_int) pa_nil)) pe_int) (pg_sub (pv 0) pe_int set_list))
        (pss_one (ps_ret (pe_op op_mod (pe_callTy call_int1 (by rfl) B.m_int (by decide +kernel) (pa_cons (pe_op op_fdiv (pe_ix ix_list (pv 0) pe_int (fun _ _ => rfl)) pe_int) pa_nil)) (pv 1))))) pss_nil)
      (pss_cons (ps_set (i := 3) sc_law_taken.nd rfl (.inl rfl) (pe_ix ix_list (pe_ix ix_list (pv 0) pe_int (fun _ _ => rfl)) (pe_op op_sub (pe_ix ix_list (pv 0) pe_int (fun _ _ => rfl)) pe_int) (fun _ _ => rfl)))
      (pss_cons (ps_asg (pe_op op_mod (pe_callTy call_int1 (by rfl) B.m_int (by decide +kernel) (pa_cons (pe_op op_add (pe_op op_add (pe_op op_mul (pe_ix ix_list (pv 0) pe_int (fun _ _ => rfl)) pe_int) (pv 3)) pe_int) pa_nil)) pe_int) (pg_sub (pv 0) pe_int set_list))
      (pss_cons (ps_if (pt_cmpR op_ge (pv 3) (pe_op op_pow pe_int pe_int) (nomark _)) 
        (pss_one (ps_asg (pe_op op_fdiv (pv 3) (pv 1)) (pg_sub (pv 0) pe_int set_list))) pss_nil)
      (pss_one (ps_ret (pe_op op_mod (pe_callTy call_int1 (by rfl) B.m_int (by decide +kernel) (pa_cons (pv 3) pa_nil)) (pv 1)))))))))), ?_⟩
    have at3 : ∀ {i x y : Int}, atI [V.ref scr, .int i, .int x, .int y] 3 = some (.int y) := fun {i x y} => rfl
    have at2 : ∀ {i x y : Int}, atI [V.ref scr, .int i, .int x, .int y] 2 = some (.int x) := fun {i x y} => rfl
    have at1 : ∀ {i x y : Int}, atI [V.ref scr, .int i, .int x, .int y] 1 = some (.int i) := fun {i x y} => rfl
    have at0 : ∀ {i x y : Int}, atI [V.ref scr, .int i, .int x, .int y] 0 = some (.ref scr) := fun {i x y} => rfl
    refine ⟨.ref a, rfl, a, _, 3, _, rfl, rfl, Ls.sq h.1, at3, _, _, rfl, rfl, _, rfl, ite2 (fun e => ?_) (fun e => ?_)⟩
    · refine ⟨.ref a, rfl, a, _, 3, _, rfl, rfl, Ls.sq h.1, at3, .inl ⟨_, rfl, nI m, rfl, _, _, rfl, rfl, hm0, ?_⟩⟩
      refine ⟨.ref a, rfl, a, _, 3, _, rfl, rfl, Ls.sq h.1, at3, nI m, rfl, _, _, rfl, rfl, hdv, ?_⟩
      refine ⟨.ref a, rfl, a, _, 3, 3, rfl, rfl, h.1, rfl, _, rfl, ?_⟩
      obtain ⟨k, hk, ek⟩ := mod_nI (z := y) hm
      have ek' : ((fun (i j : Int) => V.int (i % j)) y (m : Int)) = nI k := ek
      rw [ek']
      exact q _ k hk .upd ⟨scr, ns, i, x, _, h.set h.2.2⟩
    · refine ⟨.ref a, rfl, a, _, 1, _, rfl, rfl, Ls.sq h.1, at1, _, _, rfl, rfl, .ref a, rfl, a, _, 1, 1, rfl, rfl, h.1, rfl, ?_⟩
      have h1 : RowIs K (upd H a (.lst [.ref scr, .int (i + 1), .int x, .int y])) a scr ns (i + 1) x y := h.set (by have := h.2.2; omega)
      have sB : SameB a H (upd H a (.lst [.ref scr, .int (i + 1), .int x, .int y])) := .upd
      show tSeq _ _ _ _ (upd H a (.lst [.ref scr, .int (i + 1), .int x, .int y]))
      generalize upd H a (.lst [.ref scr, .int (i + 1), .int x, .int y]) = H1 at h1 sB ⊢
      refine ⟨.ref a, rfl, a, _, 1, _, rfl, rfl, Ls.sq h1.1, at1, .ref a, rfl, a, _, 0, _, rfl, rfl, Ls.sq h1.1, at0, scr, _, rfl, .inl h1.2.1, _, _, rfl, rfl, _, rfl, ite2 (fun e1 => ?_) (fun e1 => ?_)⟩
      · refine ⟨.ref a, rfl, a, _, 2, _, rfl, rfl, Ls.sq h1.1, at2, _, _, rfl, rfl, .inr (by decide), _, _, rfl, rfl, .inl ⟨_, rfl, _, _, rfl, rfl, (by show (0 : Int) < 2147483647; decide), ?_⟩⟩
        refine ⟨.ref a, rfl, a, _, 2, 2, rfl, rfl, h1.1, rfl, ?_⟩
        have h2 : RowIs K (upd H1 a (.lst [.ref scr, .int (i + 1), .int ((x * 48271 + 11) % 2147483647), .int y])) a scr ns (i + 1) ((x * 48271 + 11) % 2147483647) y := h1.set h1.2.2
        refine ⟨.ref a, rfl, a, _, 2, _, rfl, rfl, Ls.sq h2.1, at2, _, _, rfl, rfl, (by show (0 : Int) < 7 ∧ (7 : Int) < 1073741824; decide), .inl ⟨_, rfl, nI m, rfl, _, _, rfl, rfl, hm0, ?_⟩⟩
        obtain ⟨k, hk, ek⟩ := mod_nI (z := (x * 48271 + 11) % 2147483647 / 7) hm
        have ek' : ((fun (i j : Int) => V.int (i % j)) ((x * 48271 + 11) % 2147483647 / 7) (m : Int)) = nI k := ek
        rw [ek']
        exact q _ k hk (sB.trans .upd) ⟨scr, ns, _, _, _, h2⟩
      · have hlt : i.toNat < ns.length := by
          have h3 : ¬ ((i + 1) > ((ns.map V.int).length : Int)) := fun z => e1 (decide_eq_true z)
          rw [List.length_map] at h3
          have := h.2.2
          omega
        have hat : atI (ns.map V.int) (i + 1 - 1) = some (.int ns[i.toNat]) := at_of (j := i.toNat) (by have := h.2.2; omega) (by rw [List.getElem?_map, List.getElem?_eq_getElem hlt]; rfl)
        refine ⟨.ref a, rfl, a, _, 0, _, rfl, rfl, Ls.sq h1.1, at0, .ref a, rfl, a, _, 1, _, rfl, rfl, Ls.sq h1.1, at1, _, _, rfl, rfl, scr, _, _, _, rfl, rfl, h1.2.1, hat, ?_⟩
        generalize ns[i.toNat] = c
        refine ⟨.ref a, rfl, a, _, 2, _, rfl, rfl, Ls.sq h1.1, at2, _, _, rfl, rfl, .inr (by decide), .int c, rfl, _, _, rfl, rfl, _, _, rfl, rfl, .inl ⟨_, rfl, _, _, rfl, rfl, (by show (0 : Int) < 2147483647; decide), ?_⟩⟩
        refine ⟨.ref a, rfl, a, _, 2, 2, rfl, rfl, h1.1, rfl, ?_⟩
        have h2 : RowIs K (upd H1 a (.lst [.ref scr, .int (i + 1), .int ((x * 48271 + c + 11) % 2147483647), .int y])) a scr ns (i + 1) ((x * 48271 + c + 11) % 2147483647) y := h1.set h1.2.2
        have s2 := sB.trans (SameB.upd (a := a) (H := H1) (o := .lst [.ref scr, .int (i + 1), .int ((x * 48271 + c + 11) % 2147483647), .int y]))
        obtain ⟨k, hk, ek⟩ := mod_nI (z := c) hm
        have ek' : ((fun (i j : Int) => V.int (i % j)) c (m : Int)) = nI k := ek
        refine ⟨.int c, rfl, _, _, rfl, rfl, ⟨by decide, by decide, by decide⟩, _, _, rfl, rfl, _, rfl, ite2 (fun e2 => ?_) (fun e2 => ?_)⟩
        · refine ⟨.int c, rfl, nI m, rfl, _, _, rfl, rfl, hdv, .ref a, rfl, a, _, 3, 3, rfl, rfl, h2.1, rfl, ?_⟩
          refine ⟨.int c, rfl, .inl ⟨_, rfl, nI m, rfl, _, _, rfl, rfl, hm0, ?_⟩⟩
          rw [ek']
          exact q _ k hk (s2.trans .upd) ⟨scr, ns, _, _, _, h2.set h2.2.2⟩
        · refine ⟨.int c, rfl, .inl ⟨_, rfl, nI m, rfl, _, _, rfl, rfl, hm0, ?_⟩⟩
          rw [ek']
          exact q _ k hk s2 ⟨scr, ns, _, _, _, h2⟩
end
end KR
namespace KR
open PySem PySem.Spec PyProof.Rows L2
section
variable {P : Program} {w : World} {K : PySem.W.Frag} {mg : Str → Option Value} {base : Heap}
/-! ### _law_row_standing -/
theorem tand_val {c : Bool} {σ : L2.St} {H : Hp} {ta tb : TE} {Q : VK} (ca : ∀ Q : VK, Q (.bl c) H → ta σ H Q) (cb : c = true → ∀ Q : VK, (∀ b, Q (.bl b) H) → tb σ H Q) (h : ∀ b, Q (.bl b) H) : tAndV ta tb σ H Q :=
  ca _ ⟨c, rfl, ite2 (fun e => cb e Q h) (fun _ => h false)⟩
theorem Asc.snoc {i : Nat} {s : List Nat} (h : Asc i s) : Asc (i + 1) (s ++ [i]) := by
  refine ⟨List.pairwise_append.mpr ⟨h.1, List.pairwise_singleton _ _, fun x hx y hy => ?_⟩, fun k hk => ?_⟩
  · rw [List.mem_singleton.mp hy]
    exact h.2 x hx
  · rcases List.mem_append.mp hk with q | q
    · have := h.2 k q
      omega
    · rw [List.mem_singleton.mp q]
      omega
theorem Asc.mono {i : Nat} {s : List Nat} (h : Asc i s) : Asc (i + 1) s := ⟨h.1, fun k hk => by have := h.2 k hk; omega⟩
theorem row_ne {K : PySem.W.Frag} {H : Hp} {a c : Addr} {s : List Nat} (h : RowAt K H a) (hc : Ls H c s) : c ≠ a := by
  obtain ⟨scr, ns, i, x, y, h, _⟩ := h
  refine ne_of hc h fun z => ?_
  injection z with z
  cases s with
  | nil => cases z
  | cons k r => cases z
theorem draw259 {w : Nat} (h : w < 3) : ∃ m, 1 ≤ m ∧ m ≤ 1000 ∧ atI [V.int 2, .int 5, .int 9] (w : Int) = some (nI m) := by
  match w, h with
  | 0, _ => exact ⟨2, by decide, by decide, rfl⟩
  | 1, _ => exact ⟨5, by decide, by decide, rfl⟩
  | 2, _ => exact ⟨9, by decide, by decide, rfl⟩
def sp_row_standing (K : PySem.W.Frag) : Sp := fun vs H Q _ => ∃ (a : Addr) (n : Nat), vs = [.ref a, nI n] ∧ RowAt K H a ∧ 1 ≤ n ∧ n ≤ 100 ∧ ∀ H' p s, Asc n s → SameB a H H' → RowAt K H' a → Tp H' p s → Q (.ref p) H'
theorem ok_row_standing {f : Addr} {fd : FuncData} (d : Df K mg "_law_row_standing" s_law_row_standing ["_law_row", "_law_many"] f fd) (B : Blt mg) (c__law_taken : Cal P w K mg base 1 "_law_taken" (sp_taken K)) : Cal P w K mg base 2 "_law_row_standing" (sp_row_standing K) := by
  refine d.ok sc_law_row_standing (fun vs H Q E h => ?_) (fun cdv A outer s H vs Q E hr h => ?_)
  · obtain ⟨a, n, rfl, _⟩ := h
    rfl
  · obtain ⟨a, n, rfl, hrow, hn, hn2, q⟩ := h
-- _law_row_standing: slots 0 _law_row 1 _law_many 2 _law_way 3 _law_found 4 _law_k 5 _law_same
    refine ⟨_, (pss_cons (ps_par (i := 2) (j := 3) (by rfl) sc_law_row_standing.nd rfl rfl (by decide) rfl rfl (pa_cons (pe_callC c__law_taken (hr.mono (by decide)) (by rfl) (pa_cons (pv 0) (pa_cons pe_int pa_nil))) (pa_cons (pe_lst pa_nil) pa_nil)) (by rfl))
      (pss_cons (ps_for PassesOwn.never rfl (pi_range1 (by rfl) B.m_range (pa_cons (pv 1) pa_nil)) (pg_name (i := 4) sc_law_row_standing.nd rfl (.inl rfl)) 
        (pss_cons (ps_set (i := 5) sc_law_row_standing.nd rfl (.inl rfl) (pe_and (pe_cmpR op_gt (pv 4) pe_int (nomark _)) (pe_one (pe_cmpR op_inN (pe_op op_sub (pv 4) pe_int) (pv 3) (by rfl)))))
        (pss_cons (ps_if (pt_cmpR op_eq (pe_callC c__law_taken (hr.mono (by decide)) (by rfl) (pa_cons (pv 0) (pa_cons (pe_ix ix_list (pe_lst (pa_cons pe_int (pa_cons pe_int (pa_cons pe_int pa_nil)))) (pv 2) (fun _ _ => rfl)) pa_nil))) pe_int (nomark _)) 
          (pss_one (ps_set (i := 5) sc_law_row_standing.nd rfl (.inl rfl) (pe_not (pv 5)))) pss_nil)
        (pss_one (ps_set (i := 3) sc_law_row_standing.nd rfl (.inl rfl) (pe_op op_catN (pv 3) (pe_ifExp (pt_val (pv 5)) (pe_lst (pa_cons (pv 4) pa_nil)) (pe_lst pa_nil))))))))
      (pss_one (ps_ret (pe_callTy call_tuple_of (by rfl) B.m_tuple (by decide +kernel) (pa_cons (pv 3) pa_nil)))))), ?_⟩
    refine ⟨.ref a, rfl, a, 3, rfl, hrow, by decide, by decide, fun H1 way hway sb1 hrow1 => ?_⟩
    refine ⟨Nat.zero_le _, fun l0 nl0 => ⟨_, _, rfl, nI n, rfl, (n : Int), rfl, (int62 (by omega)).1, (int62 (by omega)).2, ?_⟩⟩
    have s1 : Same H1 (upd H1 l0 (.lst [])) := same_upd nl0
    refine for_it (walk_rangeN (n := n)) (fun i σ H' => ∃ fp y4 y5 s, σ = [some (.ref a), some (nI n), some (nI way), some (.ref fp), y4, y5] ∧ SameB a H H' ∧ RowAt K H' a ∧ Ls H' fp s ∧ Asc i s)
      ⟨l0, none, none, [], rfl, sb1.trans (.of s1), hrow1.same s1, upd_same, .nil, fun _ h => by cases h⟩ (fun _ _ _ _ _ => trivial) (fun i x σ H2 H2' hi hP y => ?_) (fun σ H2 hP => ?_)
    · obtain ⟨fp, y4, y5, s, rfl, sb2, hrow2, hL, hA⟩ := hP
      obtain ⟨rfl, hx⟩ := y
      rw [List.length_map, List.length_range] at hi
      rw [List.getElem?_map, List.getElem?_range hi] at hx
      obtain rfl : nI i = x := Option.some.inj hx
      refine tand_val (c := decide ((0 : Int) < (i : Int))) (fun Q q => ⟨nI i, rfl, _, _, rfl, rfl, q⟩) (fun e Q q => ?_) (fun b => ?_)
      · have h0 : 0 < i := by
          have := of_decide_eq_true e
          omega
        exact ⟨nI i, rfl, _, _, rfl, rfl, .ref fp, rfl, i - 1, fp, s, congrArg V.int (by omega), rfl, .inl hL, q _⟩
      · obtain ⟨m, hm1, hm2, hat⟩ := draw259 hway
        have hsl := hA.len
        refine ⟨.ref a, rfl, by show 3 ≤ sizeLine; decide, fun l nl => ?_⟩
        have s3 : Same H2' (upd H2' l (.lst [.int 2, .int 5, .int 9])) := same_upd nl
        refine ⟨nI way, rfl, l, _, _, _, rfl, rfl, Ls.sq upd_same, hat, a, m, rfl, hrow2.same s3, hm1, hm2, fun H4 k4 _ sb4 hrow4 => ?_⟩
        have hne : fp ≠ a := row_ne hrow2 hL
        have hL4 : Ls H4 fp s := sb4 _ _ hne (s3 _ _ hL)
        have sb : SameB a H H4 := (sb2.trans (.of s3)).trans sb4
        have fin : ∀ (b : Bool) (tt : TS) (Dn : Ends), True := fun _ _ _ => trivial
        refine ⟨rfl, _, rfl, ite2 (fun e3 => ⟨.bl b, rfl, b, rfl, ?_⟩) (fun e3 => ?_)⟩
        all_goals refine ⟨.ref fp, rfl, .bl _, rfl, _, rfl, ite2 (fun e4 => ⟨nI i, rfl, by show 1 ≤ sizeLine; decide, fun p np => ?_⟩) (fun e4 => ⟨Nat.zero_le _, fun p np => ?_⟩)⟩
        all_goals have s5 := same_upd (o := .lst [nI i]) np
        all_goals have s5' := same_upd (o := .lst []) np
        all_goals first
          | exact ⟨fp, p, s, [i], rfl, rfl, s5 _ _ hL4, upd_same, by show _ + 1 ≤ 1000; omega, fun p2 np2 => ⟨p2, _, _, s ++ [i], rfl, sb.trans (.of (s5.trans (same_upd np2))), (hrow4.same s5).same (same_upd np2), upd_same, hA.snoc⟩⟩
          | exact ⟨fp, p, s, [], rfl, rfl, s5' _ _ hL4, upd_same, by show _ + 0 ≤ 1000; omega, fun p2 np2 => ⟨p2, _, _, s ++ [], rfl, sb.trans (.of (s5'.trans (same_upd np2))), (hrow4.same s5').same (same_upd np2), upd_same, by rw [List.append_nil]; exact hA.mono⟩⟩
    · obtain ⟨fp, y4, y5, s, rfl, sb2, hrow2, hL, hA⟩ := hP
      rw [List.length_map, List.length_range] at hA
      exact ⟨.ref fp, rfl, fp, _, rfl, .inl ⟨Ls.sq hL, fun l nl => q _ l s hA (sb2.trans (.of (same_upd nl))) (hrow2.same (same_upd nl)) upd_same⟩⟩
/-! ### _law_row_frozen -/
def sp_lrow_frozen : Sp := fun vs H Q _ => ∃ (n : Nat) (r : Bool) (a : Addr) (s : List Nat), vs = [nI n, .bl r, .ref a] ∧ Tp H a s ∧ 1 ≤ n ∧ n ≤ 100 ∧ ∀ H' p c, Same H H' → Ls H' p c → Q (.ref p) H'
theorem ok_lrow_frozen {f : Addr} {fd : FuncData} (d : Df K mg "_law_row_frozen" s_law_row_frozen ["_law_many", "_law_is_ring", "_law_opened"] f fd) (B : Blt mg) : Cal P w K mg base 1 "_law_row_frozen" sp_lrow_frozen := by
  refine d.ok sc_law_row_frozen (fun vs H Q E h => ?_) (fun cdv A outer s H vs Q E hr h => ?_)
  · obtain ⟨n, r, a, s, rfl, _⟩ := h
    rfl
  · obtain ⟨n, r, a, s, rfl, ha, hn, hn2, q⟩ := h
-- _law_row_frozen: slots 0 _law_many 1 _law_is_ring 2 _law_opened 3 _law_found 4 _law_k 5 _law_near
    refine ⟨_, (pss_cons (ps_set (i := 3) sc_law_row_frozen.nd rfl (.inl rfl) (pe_lst pa_nil))
      (pss_cons (ps_for PassesOwn.never rfl (pi_range1 (by rfl) B.m_range (pa_cons (pe_ifExp (pt_val (pv 1)) (pv 0) (pe_op op_sub (pv 0) pe_int)) pa_nil)) (pg_name (i := 4) sc_law_row_frozen.nd rfl (.inl rfl)) 
        (pss_cons (ps_set (i := 5) sc_law_row_frozen.nd rfl (.inl rfl) (pe_op op_modN' (pe_callTy call_int1 (by rfl) B.m_int (by decide +kernel) (pa_cons (pe_op op_addN' (pv 4) pe_int) pa_nil)) (pv 0)))
        (pss_one (ps_set (i := 3) sc_law_row_frozen.nd rfl (.inl rfl) (pe_op op_catN (pv 3) (pe_ifExp (PW.pt (pw_and (pt_cmpR op_inN (pv 4) (pv 2) (by rfl)) (pw_and1 (pt_cmpR op_notInN (pv 5) (pv 2) (by rfl))))) (pe_lst (pa_cons (pv 4) (pa_cons (pv 5) pa_nil))) (pe_lst pa_nil)))))))
      (pss_one (ps_ret (pe_callB cr_sortedN (by rfl) B.m_sorted (by decide +kernel) (pa_cons (pv 3) pa_nil)))))), ?_⟩
    have htl := turns_le r n
    refine ⟨Nat.zero_le _, fun o no => ?_⟩
    refine ⟨.bl r, rfl, r, rfl, tif_val (nI (turns r n)) (fun e Q q => ⟨nI n, rfl, ?_⟩) (fun e Q q => ⟨nI n, rfl, n, 1, rfl, rfl, ?_⟩) ?_⟩
    · rw [e] at q
      exact q
    · rw [e] at q
      have e2 : ((n : Int) - 1) = ((n - 1 : Nat) : Int) := by omega
      show Q (.int ((n : Int) - 1)) _
      rw [e2]
      exact q
    refine ⟨(turns r n : Int), rfl, (int62 (by omega)).1, (int62 (by omega)).2, ?_⟩
    refine for_it (walk_rangeN (n := turns r n)) (fun i σ H' => ∃ fp y4 y5 l, σ = [some (nI n), some (.bl r), some (.ref a), some (.ref fp), y4, y5] ∧ Same H H' ∧ Ls H' fp l ∧ l.length ≤ 2 * i)
      ⟨o, none, none, [], rfl, same_upd no, upd_same, Nat.le_refl _⟩ (fun _ _ _ _ _ => trivial) (fun i x σ H1 H1' hi hP y => ?_) (fun σ H1 hP => ?_)
    · obtain ⟨fp, y4, y5, l, rfl, sm, hL, hl⟩ := hP
      obtain ⟨rfl, hx⟩ := y
      rw [List.length_map, List.length_range] at hi
      rw [List.getElem?_map, List.getElem?_range hi] at hx
      obtain rfl : nI i = x := Option.some.inj hx
      have hA : Tp H1' a s := sm _ _ ha
      refine ⟨nI i, rfl, i, 1, rfl, rfl, .inl ⟨_, rfl, nI n, rfl, i + 1, n, rfl, rfl, hn, ?_⟩⟩
      refine ⟨.ref fp, rfl, nI i, rfl, .ref a, rfl, i, a, s, rfl, rfl, .inr hA, _, rfl, ite2 (fun e1 => ⟨nI ((i + 1) % n), rfl, .ref a, rfl, (i + 1) % n, a, s, rfl, rfl, .inr hA, _, rfl, ite2 (fun e2 => ?_) (fun e2 => ?_)⟩) (fun e1 => iteF ?_)⟩
      · refine ⟨nI i, rfl, nI ((i + 1) % n), rfl, by show 2 ≤ sizeLine; decide, fun p np => ?_⟩
        have s2 : Same H1' (upd H1' p (.lst [nI i, nI ((i + 1) % n)])) := same_upd np
        exact ⟨fp, p, l, [i, (i + 1) % n], rfl, rfl, s2 _ _ hL, upd_same, by show _ + 2 ≤ 1000; omega, fun p2 np2 => ⟨p2, _, _, l ++ [i, (i + 1) % n], rfl, (sm.trans s2).trans (same_upd np2), upd_same, by rw [List.length_append]; show _ + 2 ≤ _; omega⟩⟩
      all_goals
        refine ⟨Nat.zero_le _, fun p np => ?_⟩
        have s2 : Same H1' (upd H1' p (.lst [])) := same_upd np
        exact ⟨fp, p, l, [], rfl, rfl, s2 _ _ hL, upd_same, by show _ + 0 ≤ 1000; omega, fun p2 np2 => ⟨p2, _, _, l ++ [], rfl, (sm.trans s2).trans (same_upd np2), upd_same, by rw [List.append_nil]; omega⟩⟩
    · obtain ⟨fp, y4, y5, l, rfl, sm, hL, hl⟩ := hP
      exact ⟨.ref fp, rfl, fp, l, rfl, hL, fun p np => q _ p _ (sm.trans (same_upd np)) upd_same⟩
end
end KR
namespace KR
open PySem PySem.Spec PyProof.Rows L2
section
variable {P : Program} {w : World} {K : PySem.W.Frag} {mg : Str → Option Value} {base : Heap}
/-! ### _law_row_near -/
/-- doors below n, each once -/
def Few (n : Nat) (s : List Nat) : Prop := s.Nodup ∧ ∀ k ∈ s, k < n
theorem Few.sorted {n : Nat} {s : List Nat} (h : Few n s) : Asc n (isort s) := by
  have hp := isort_perm s
  have hn : (isort s).Nodup := hp.nodup_iff.mpr h.1
  refine ⟨?_, fun k hk => h.2 k (hp.mem_iff.mp hk)⟩
  have h2 := List.Pairwise.and (isort_pw s) hn
  exact h2.imp fun x => Nat.lt_of_le_of_ne x.1 x.2
theorem Few.len {n : Nat} {s : List Nat} (h : Few n s) : s.length ≤ n := by
  rw [← (isort_perm s).length_eq]
  exact h.sorted.len
theorem Asc.few {n : Nat} {s : List Nat} (h : Asc n s) : Few n s := ⟨h.1.imp fun x => Nat.ne_of_lt x, h.2⟩
theorem Few.drop {n : Nat} {s : List Nat} (h : Few n s) (p : Nat → Bool) : Few n (s.filter p) := ⟨h.1.filter p, fun k hk => h.2 k (List.mem_filter.mp hk).1⟩
theorem Few.snoc {n k : Nat} {s : List Nat} (h : Few n s) (hk : k < n) (hm : k ∉ s) : Few n (s ++ [k]) := by
  refine ⟨?_, fun j hj => ?_⟩
  · exact nd_snoc h.1 hm
  · rcases List.mem_append.mp hj with q | q
    · exact h.2 j q
    · rw [List.mem_singleton.mp q]
      exact hk
theorem ne_nI (j k : Nat) : (!decide (nI j = nI k)) = decide (j ≠ k) := by
  rw [← decide_not]
  rw [decide_eq_decide]
  constructor
  · intro h e
    exact h (by rw [e])
  · intro h e
    exact h (nI_inj e)
/-- a door toggled in a list -/
def toggled (s : List Nat) (k : Nat) : List Nat := if k ∈ s then s.filter (fun j => decide (j ≠ k)) else s ++ [k]
theorem Few.toggled {n k : Nat} {s : List Nat} (h : Few n s) (hk : k < n) : Few n (toggled s k) := by
  unfold KR.toggled
  by_cases e : k ∈ s
  · rw [if_pos e]
    exact h.drop _
  · rw [if_neg e]
    exact h.snoc hk e
def sp_row_near (K : PySem.W.Frag) : Sp := fun vs H Q _ => ∃ (a : Addr) (n : Nat) (r : Bool) (b : Addr) (s : List Nat), vs = [.ref a, nI n, .bl r, .ref b] ∧ RowAt K H a ∧ Tp H b s ∧ 1 ≤ n ∧ n ≤ 100 ∧ Asc n s ∧
  ∀ H' p s, Asc n s → SameB a H H' → RowAt K H' a → Tp H' p s → Q (.ref p) H'
theorem ok_row_near {f : Addr} {fd : FuncData} (d : Df K mg "_law_row_near" s_law_row_near ["_law_row", "_law_many", "_law_is_ring", "_law_one"] f fd) (B : Blt mg) (c__law_taken : Cal P w K mg base 1 "_law_taken" (sp_taken K))
    (c__law_row_frozen : Cal P w K mg base 1 "_law_row_frozen" sp_lrow_frozen) : Cal P w K mg base 2 "_law_row_near" (sp_row_near K) := by
  refine d.ok sc_law_row_near (fun vs H Q E h => ?_) (fun cdv A outer s H vs Q E hr h => ?_)
  · obtain ⟨a, n, r, b, s, rfl, _⟩ := h
    rfl
  · obtain ⟨a, n, r, b, s, rfl, hrow, hb, hn, hn2, hs, q⟩ := h
-- _law_row_near: slots 0 _law_row 1 _law_many 2 _law_is_ring 3 _law_one 4 _law_cold 5 _law_found 6 _law_k 7 _law_j
    refine ⟨_, (pss_cons (ps_par (i := 4) (j := 5) (by rfl) sc_law_row_near.nd rfl rfl (by decide) rfl rfl (pa_cons (pe_callC c__law_row_frozen (hr.mono (by decide)) (by rfl) (pa_cons (pv 1) (pa_cons (pv 2) (pa_cons (pv 3) pa_nil)))) (pa_cons (pe_callTy call_list_of (by rfl) B.m_list (by decide +kernel) (pa_cons (pv 3) pa_nil)) pa_nil)) (by rfl))
      (pss_cons (ps_for PassesOwn.never rfl (pi_range1 (by rfl) B.m_range (pa_cons (pv 1) pa_nil)) (pg_name (i := 6) sc_law_row_near.nd rfl (.inr rfl)) 
        (pss_one (ps_if (PW.pt (pw_and (pt_cmpR op_notInN (pv 6) (pv 4) (by rfl)) (pw_and1 (pt_cmpR op_eq (pe_callC c__law_taken (hr.mono (by decide)) (by rfl) (pa_cons (pv 0) (pa_cons pe_int pa_nil))) pe_int (nomark _))))) 
          (pss_one (ps_set (i := 5) sc_law_row_near.nd rfl (.inl rfl) (pe_ifExp (pt_cmpR op_inN (pv 6) (pv 5) (by rfl)) (pe_lc (own := [("_law_j", 7)]) (g := gName 7) rfl sc_law_row_near.nd (pi_list (pv 5)) (blkOk_by (own := [("_law_j", 7)]) (N := N_law_row_near) (sc := (defScope s_law_row_near)) (by decide +kernel)) (fun _ _ _ _ _ => pg_name (i := 7) sc_law_row_near.nd rfl (.inl rfl)) (fun _ _ _ _ _ => (pts_one (pt_cmpR op_ne (pv 7) (pv 6) (nomark _)))) (fun _ _ _ _ _ => (pv 7))) (pe_op op_catN (pv 5) (pe_lst (pa_cons (pv 6) pa_nil)))))) pss_nil)))
      (pss_cons (ps_if (pt_cmpR op_eq (pe_callC c__law_taken (hr.mono (by decide)) (by rfl) (pa_cons (pv 0) (pa_cons pe_int pa_nil))) pe_int (nomark _)) 
        (pss_cons (ps_set (i := 6) sc_law_row_near.nd rfl (.inr rfl) (pe_callC c__law_taken (hr.mono (by decide)) (by rfl) (pa_cons (pv 0) (pa_cons (pv 1) pa_nil))))
        (pss_one (ps_set (i := 5) sc_law_row_near.nd rfl (.inl rfl) (pe_ifExp (pt_cmpR op_inN (pv 6) (pv 5) (by rfl)) (pe_lc (own := [("_law_j", 7)]) (g := gName 7) rfl sc_law_row_near.nd (pi_list (pv 5)) (blkOk_by (own := [("_law_j", 7)]) (N := N_law_row_near) (sc := (defScope s_law_row_near)) (by decide +kernel)) (fun _ _ _ _ _ => pg_name (i := 7) sc_law_row_near.nd rfl (.inl rfl)) (fun _ _ _ _ _ => (pts_one (pt_cmpR op_ne (pv 7) (pv 6) (nomark _)))) (fun _ _ _ _ _ => (pv 7))) (pe_op op_catN (pv 5) (pe_lst (pa_cons (pv 6) pa_nil))))))) pss_nil)
      (pss_one (ps_ret (pe_callTy call_tuple_of (by rfl) B.m_tuple (by decide +kernel) (pa_cons (pe_callB cr_sortedN (by rfl) B.m_sorted (by decide +kernel) (pa_cons (pv 5) pa_nil)) pa_nil))))))), ?_⟩
    refine ⟨nI n, rfl, .bl r, rfl, .ref b, rfl, n, r, b, s, rfl, hb, hn, hn2, fun H1 c cl s1 hc => ?_⟩
    refine ⟨.ref b, rfl, b, _, rfl, .inr (Tp.sq (s1 _ _ hb)), fun l nl => ⟨_, _, rfl, ?_⟩⟩
    have s2 : Same H1 (upd H1 l (.lst (s.map nI))) := same_upd nl
    have hrow2 : RowAt K (upd H1 l (.lst (s.map nI))) a := (hrow.same s1).same s2
    have hc2 : Ls (upd H1 l (.lst (s.map nI))) c cl := s2 _ _ hc
    have hca : c ≠ a := row_ne hrow2 hc2
    refine ⟨nI n, rfl, (n : Int), rfl, (int62 (by omega)).1, (int62 (by omega)).2, ?_⟩
    refine for_it (walk_rangeN (n := n)) (fun i σ H' => ∃ fp y6 t, σ = [some (.ref a), some (nI n), some (.bl r), some (.ref b), some (.ref c), some (.ref fp), y6, none] ∧ SameB a H H' ∧ RowAt K H' a ∧ Ls H' c cl ∧ Ls H' fp t ∧ Few n t)
      ⟨l, none, s, rfl, .of (s1.trans s2), hrow2, hc2, upd_same, hs.few⟩ (fun _ _ _ _ _ => trivial) (fun i x σ H3 H3' hi hP y => ?_) (fun σ H3 hP => ?_)
    · obtain ⟨fp, y6, t, rfl, sb3, hrow3, hc3, hL3, hF⟩ := hP
      obtain ⟨rfl, hx⟩ := y
      rw [List.length_map, List.length_range] at hi
      rw [List.getElem?_map, List.getElem?_range hi] at hx
      obtain rfl : nI i = x := Option.some.inj hx
      refine ⟨nI i, rfl, .ref c, rfl, i, c, cl, rfl, rfl, .inl hc3, _, rfl, ite2 (fun e => ?_) (fun e => iteF ⟨fp, _, t, rfl, sb3, hrow3, hc3, hL3, hF⟩)⟩
      refine ⟨.ref a, rfl, a, 3, rfl, hrow3, by decide, by decide, fun H4 k4 _ sb4 hrow4 => ⟨rfl, _, rfl, ite2 (fun e1 => ?_) (fun e1 => ?_)⟩⟩
      · have hfa : fp ≠ a := row_ne hrow3 hL3
        have hL4 : Ls H4 fp t := sb4 _ _ hfa hL3
        have hc4 : Ls H4 c cl := sb4 _ _ hca hc3
        have sb := sb3.trans sb4
        have htl := hF.len
        have hT := hF.toggled hi
        refine ⟨nI i, rfl, .ref fp, rfl, i, fp, t, rfl, rfl, .inl hL4, _, rfl, ite2 (fun e2 => ?_) (fun e2 => ?_)⟩
        · refine ⟨.ref fp, rfl, fp, rfl, ⟨_, Ls.sq hL4⟩, fun D nD => lc_selN (walk_listN (K := K) (a := fp) (s := t)) nD (fun H5 s5 => Ls.sq (s5 _ _ hL4)) (fun j => decide (j ≠ i)) rfl (fun _ => rfl) (by omega)
            (fun j H5 Kt hj s5 h => ⟨nI j, rfl, nI i, rfl, rfl, _, rfl, ?_⟩) fun H5 s5 hD => ?_⟩
          · rw [ne_nI]
            exact h H5 (Same.refl H5)
          · rw [toggled, if_pos (of_decide_eq_true e2)] at hT
            exact ⟨D, _, _, rfl, sb.trans (.of s5), hrow4.same s5, s5 _ _ hc4, hD, hT⟩
        · refine ⟨.ref fp, rfl, nI i, rfl, by show 1 ≤ sizeLine; decide, fun p np => ?_⟩
          have s5 : Same H4 (upd H4 p (.lst [nI i])) := same_upd np
          rw [toggled, if_neg (fun z => e2 (decide_eq_true z))] at hT
          exact ⟨fp, p, t, [i], rfl, rfl, s5 _ _ hL4, upd_same, by show _ + 1 ≤ 1000; omega, fun p2 np2 => ⟨p2, _, _, rfl, sb.trans (.of (s5.trans (same_upd np2))), (hrow4.same s5).same (same_upd np2), (same_upd np2) _ _ (s5 _ _ hc4), upd_same, hT⟩⟩
      · have hfa : fp ≠ a := row_ne hrow3 hL3
        exact ⟨fp, _, t, rfl, sb3.trans sb4, hrow4, sb4 _ _ hca hc3, sb4 _ _ hfa hL3, hF⟩
    · obtain ⟨fp, y6, t, rfl, sb3, hrow3, hc3, hL3, hF⟩ := hP
      have hfa : fp ≠ a := row_ne hrow3 hL3
      have htl := hF.len
      -- the end: tuple(sorted(found))
      refine ⟨.ref a, rfl, a, 8, rfl, hrow3, by decide, by decide, fun H4 k4 _ sb4 hrow4 => ⟨rfl, _, rfl, ite2 (fun e1 => ?_) (fun e1 => ?_)⟩⟩
      · refine ⟨.ref a, rfl, nI n, rfl, a, n, rfl, hrow4, hn, by omega, fun H5 k5 hk5 sb5 hrow5 => ?_⟩
        have hL5 : Ls H5 fp t := sb5 _ _ hfa (sb4 _ _ hfa hL3)
        have sb := (sb3.trans sb4).trans sb5
        have hT := hF.toggled hk5
        refine ⟨nI k5, rfl, .ref fp, rfl, k5, fp, t, rfl, rfl, .inl hL5, _, rfl, ite2 (fun e2 => ?_) (fun e2 => ?_)⟩
        · refine ⟨.ref fp, rfl, fp, rfl, ⟨_, Ls.sq hL5⟩, fun D nD => lc_selN (walk_listN (K := K) (a := fp) (s := t)) nD (fun H6 s6 => Ls.sq (s6 _ _ hL5)) (fun j => decide (j ≠ k5)) rfl (fun _ => rfl) (by omega)
            (fun j H6 Kt hj s6 h => ⟨nI j, rfl, nI k5, rfl, rfl, _, rfl, ?_⟩) fun H6 s6 hD => ?_⟩
          · rw [ne_nI]
            exact h H6 (Same.refl H6)
          · rw [toggled, if_pos (of_decide_eq_true e2)] at hT
            refine ⟨.ref D, rfl, D, _, rfl, hD, fun p np => ?_⟩
            have s7 := same_upd (o := .lst ((isort (t.filter fun j => decide (j ≠ k5))).map nI)) np
            exact ⟨p, _, rfl, .inl ⟨Ls.sq upd_same, fun z nz => q _ z _ hT.sorted (sb.trans (.of ((s6.trans s7).trans (same_upd nz)))) (((hrow5.same s6).same s7).same (same_upd nz)) upd_same⟩⟩
        · refine ⟨.ref fp, rfl, nI k5, rfl, by show 1 ≤ sizeLine; decide, fun p np => ?_⟩
          have s6 : Same H5 (upd H5 p (.lst [nI k5])) := same_upd np
          rw [toggled, if_neg (fun z => e2 (decide_eq_true z))] at hT
          refine ⟨fp, p, t, [k5], rfl, rfl, s6 _ _ hL5, upd_same, by show _ + 1 ≤ 1000; omega, fun p2 np2 => ?_⟩
          have s7 := s6.trans (same_upd (o := .lst ((t ++ [k5]).map nI)) np2)
          refine ⟨.ref p2, rfl, p2, _, rfl, upd_same, fun p3 np3 => ?_⟩
          have s8 := s7.trans (same_upd (o := .lst ((isort (t ++ [k5])).map nI)) np3)
          exact ⟨p3, _, rfl, .inl ⟨Ls.sq upd_same, fun z nz => q _ z _ hT.sorted (sb.trans (.of (s8.trans (same_upd nz)))) ((hrow5.same s8).same (same_upd nz)) upd_same⟩⟩
      · refine ⟨.ref fp, rfl, fp, _, rfl, sb4 _ _ hfa hL3, fun p np => ?_⟩
        have s7 := same_upd (o := .lst ((isort t).map nI)) np
        exact ⟨p, _, rfl, .inl ⟨Ls.sq upd_same, fun z nz => q _ z _ hF.sorted ((sb3.trans sb4).trans (.of (s7.trans (same_upd nz)))) ((hrow4.same s7).same (same_upd nz)) upd_same⟩⟩
/-! ### _law_pick -/
def sp_pick (K : PySem.W.Frag) : Sp := fun vs H Q _ => ∃ (a t : Addr) (xs : List V), vs = [.ref a, .ref t] ∧ RowAt K H a ∧ H t = some (.lst xs) ∧ t ≠ a ∧ 1 ≤ xs.length ∧ xs.length ≤ 1000 ∧ ∀ H' x, x ∈ xs → SameB a H H' → RowAt K H' a → Q x H'
theorem ok_pick {f : Addr} {fd : FuncData} (d : Df K mg "_law_pick" s_law_pick ["_law_row", "_law_things"] f fd) (B : Blt mg) (c__law_taken : Cal P w K mg base 1 "_law_taken" (sp_taken K)) : Cal P w K mg base 2 "_law_pick" (sp_pick K) := by
  refine d.ok sc_law_pick (fun vs H Q E h => ?_) (fun cdv A outer s H vs Q E hr h => ?_)
  · obtain ⟨a, t, xs, rfl, _⟩ := h
    rfl
  · obtain ⟨a, t, xs, rfl, hrow, ht, hta, h1, h2, q⟩ := h
-- _law_pick: slots 0 _law_row 1 _law_things
    refine ⟨_, (pss_one (ps_ret (pe_ix ix_list (pv 1) (pe_callC c__law_taken (hr.mono (by decide)) (by rfl) (pa_cons (pv 0) (pa_cons (pe_callB call_len_seq (by rfl) B.m_len (by decide +kernel) (pa_cons (pv 1) pa_nil)) pa_nil))) (fun _ _ => rfl)))), ?_⟩
    refine ⟨.ref t, rfl, .ref a, rfl, .ref t, rfl, t, xs, rfl, .inl (Ls.sq ht), a, xs.length, rfl, hrow, h1, h2, fun H1 k hk sb hrow1 => ?_⟩
    have hg : xs[k]? = some xs[k] := List.getElem?_eq_getElem hk
    exact ⟨t, xs, (k : Int), xs[k], rfl, rfl, Ls.sq (sb _ _ hta ht), atI_nat hg, q H1 _ (List.getElem_mem hk) sb hrow1⟩
end
end KR
namespace KR
open PySem PySem.Spec PyProof.Rows L2
section
variable {P : Program} {w : World} {K : PySem.W.Frag} {mg : Str → Option Value} {base : Heap}
/-! ### _law_changed -/
def sp_changed : Sp := fun vs H Q _ => ∃ (a : Addr) (k : Nat) (s : List Nat), vs = [.ref a, nI k] ∧ Tp H a s ∧ s.length ≤ 100 ∧ ∀ H' p, Same H H' → Tp H' p (changed s k) → Q (.ref p) H'
theorem ok_changed {f : Addr} {fd : FuncData} (d : Df K mg "_law_changed" s_law_changed ["_law_opened", "_law_door"] f fd) (B : Blt mg) : Cal P w K mg base 1 "_law_changed" sp_changed := by
  refine d.ok sc_law_changed (fun vs H Q E h => ?_) (fun cdv A outer s H vs Q E hr h => ?_)
  · obtain ⟨a, k, s, rfl, _⟩ := h
    rfl
  · obtain ⟨a, k, s, rfl, ha, hs, q⟩ := h
-- _law_changed: slots 0 _law_opened 1 _law_door 2 _law_k
    refine ⟨_, (pss_cons (ps_if (pt_cmpR op_inN (pv 1) (pv 0) (by rfl)) 
        (pss_one (ps_ret (pe_callTy call_tuple_of (by rfl) B.m_tuple (by decide +kernel) (pa_cons (pe_lc (own := [("_law_k", 2)]) (g := gName 2) rfl sc_law_changed.nd (pi_tup (pv 0)) (blkOk_by (own := [("_law_k", 2)]) (N := N_law_changed) (sc := (defScope s_law_changed)) (by decide +kernel)) (fun _ _ _ _ _ => pg_name (i := 2) sc_law_changed.nd rfl (.inl rfl)) (fun _ _ _ _ _ => (pts_one (pt_cmpR op_ne (pv 2) (pv 1) (nomark _)))) (fun _ _ _ _ _ => (pv 2))) pa_nil)))) pss_nil)
      (pss_one (ps_ret (pe_callTy call_tuple_of (by rfl) B.m_tuple (by decide +kernel) (pa_cons (pe_callB cr_sortedN (by rfl) B.m_sorted (by decide +kernel) (pa_cons (pe_op op_catN (pe_callTy call_list_of (by rfl) B.m_list (by decide +kernel) (pa_cons (pv 0) pa_nil)) (pe_lst (pa_cons (pv 1) pa_nil))) pa_nil)) pa_nil))))), ?_⟩
    unfold changed at q
    refine ⟨nI k, rfl, .ref a, rfl, k, a, s, rfl, rfl, .inr ha, _, rfl, ite2 (fun e => ?_) (fun e => ?_)⟩
    · rw [if_pos (of_decide_eq_true e)] at q
      refine ⟨.ref a, rfl, a, rfl, ⟨_, Tp.sq ha⟩, fun D nD => lc_selN (walk_tupN (K := K) (a := a) (s := s)) nD (fun H1 s1 => Tp.sq (s1 _ _ ha)) (fun j => decide (j ≠ k)) rfl (fun _ => rfl) (by omega)
        (fun j H1 Kt hj s1 h => ⟨nI j, rfl, nI k, rfl, rfl, _, rfl, ?_⟩) fun H1 s1 hD => ?_⟩
      · rw [ne_nI]
        exact h H1 (Same.refl H1)
      · exact ⟨D, _, rfl, .inl ⟨Ls.sq hD, fun l nl => q _ l (s1.trans (same_upd nl)) upd_same⟩⟩
    · rw [if_neg (fun z => e (decide_eq_true z))] at q
      refine ⟨.ref a, rfl, a, _, rfl, .inr (Tp.sq ha), fun l nl => ?_⟩
      have s1 := same_upd (o := .lst (s.map nI)) nl
      refine ⟨nI k, rfl, by show 1 ≤ sizeLine; decide, fun p np => ?_⟩
      have s2 := same_upd (o := .lst [nI k]) np
      refine ⟨l, p, s, [k], rfl, rfl, s2 _ _ upd_same, upd_same, by show _ + 1 ≤ 1000; omega, fun p2 np2 => ?_⟩
      have s3 := same_upd (o := .lst ((s ++ [k]).map nI)) np2
      refine ⟨p2, _, rfl, upd_same, fun p3 np3 => ?_⟩
      have s4 := same_upd (o := .lst ((isort (s ++ [k])).map nI)) np3
      exact ⟨p3, _, rfl, .inl ⟨Ls.sq upd_same, fun z nz => q _ z ((((s1.trans s2).trans s3).trans s4).trans (same_upd nz)) upd_same⟩⟩
/-! ### _law_frozen -/
/-- the arrow that a value names -/
def arr (H : Hp) : V → Nat × Nat
  | .ref q => match H q with
    | some (.tup [.int i, .int j]) => (i.toNat, j.toNat)
    | _ => (0, 0)
  | _ => (0, 0)
theorem arr_at {H : Hp} {q : Addr} {e : Nat × Nat} (h : PrAt H q e) : arr H (.ref q) = e := by
  have h' : H q = some (.tup [nI e.1, nI e.2]) := h
  show (match H q with
    | some (.tup [.int i, .int j]) => (i.toNat, j.toNat)
    | _ => (0, 0)) = e
  rw [h']
  rfl
theorem prs_mem {H : Hp} : ∀ {ps : List Addr} {es : List (Nat × Nat)} {x : V}, Prs H ps es → x ∈ ps.map V.ref → ∃ q e, x = .ref q ∧ PrAt H q e ∧ e ∈ es
  | _, _, _, .nil, h => by cases h
  | _, _, _, .cons r t, h => by
    rcases List.mem_cons.mp h with rfl | h
    · exact ⟨_, _, rfl, r, List.mem_cons_self⟩
    · obtain ⟨q, e, h1, h2, h3⟩ := prs_mem t h
      exact ⟨q, e, h1, h2, List.mem_cons_of_mem _ h3⟩
theorem prs_has {H : Hp} : ∀ {ps : List Addr} {es : List (Nat × Nat)} {e : Nat × Nat}, Prs H ps es → e ∈ es → ∃ q, V.ref q ∈ ps.map V.ref ∧ PrAt H q e
  | _, _, _, .nil, h => by cases h
  | _, _, _, .cons r t, h => by
    rcases List.mem_cons.mp h with rfl | h
    · exact ⟨_, List.mem_cons_self, r⟩
    · obtain ⟨q, h1, h2⟩ := prs_has t h
      exact ⟨q, List.mem_cons_of_mem _ h1, h2⟩
def sp_lfrozen : Sp := fun vs H Q _ => ∃ (a b : Addr) (r : Bool) (n : Nat) (s : List Nat), vs = [.ref a, .ref b] ∧ WebAt H a r n ∧ Tp H b s ∧ n ≤ 100 ∧ ∀ H' p, Same H H' → Ls H' p (lfrozen r n s) → Q (.ref p) H'
theorem frozen_any {H : Hp} {ps : List Addr} {es : List (Nat × Nat)} {r : Bool} {n : Nat} {s : List Nat} {k : Nat} (hp : Prs H ps es) (he : ∀ e, e ∈ es ↔ e ∈ arrows r n) :
    (!(((ps.map V.ref).filter fun x => decide ((arr H x).1 ∈ s) && decide ((arr H x).2 ∉ s)).filter fun x => decide ((arr H x).1 = k) || decide ((arr H x).2 = k)).isEmpty) =
      (arrows r n).any fun p => decide (p.1 ∈ s) && decide (p.2 ∉ s) && (decide (p.1 = k) || decide (p.2 = k)) := by
  rw [Bool.eq_iff_iff, List.any_eq_true]
  constructor
  · intro h
    have hne : (((ps.map V.ref).filter fun x => decide ((arr H x).1 ∈ s) && decide ((arr H x).2 ∉ s)).filter fun x => decide ((arr H x).1 = k) || decide ((arr H x).2 = k)) ≠ [] := fun z => by
      rw [z] at h
      cases h
    obtain ⟨x, hx⟩ := List.exists_mem_of_ne_nil _ hne
    obtain ⟨h1, h2⟩ := List.mem_filter.mp hx
    obtain ⟨h3, h4⟩ := List.mem_filter.mp h1
    obtain ⟨q, e, rfl, hq, hm⟩ := prs_mem hp h3
    rw [arr_at hq] at h2 h4
    exact ⟨e, (he e).mp hm, by rw [h4, h2]; rfl⟩
  · rintro ⟨e, hm, h⟩
    obtain ⟨q, h1, h2⟩ := prs_has hp ((he e).mpr hm)
    rw [Bool.and_eq_true] at h
    have hx : V.ref q ∈ (((ps.map V.ref).filter fun x => decide ((arr H x).1 ∈ s) && decide ((arr H x).2 ∉ s)).filter fun x => decide ((arr H x).1 = k) || decide ((arr H x).2 = k)) := by
      refine List.mem_filter.mpr ⟨List.mem_filter.mpr ⟨h1, ?_⟩, ?_⟩
      · rw [arr_at h2]
        exact h.1
      · rw [arr_at h2]
        exact h.2
    cases hl : (((ps.map V.ref).filter fun x => decide ((arr H x).1 ∈ s) && decide ((arr H x).2 ∉ s)).filter fun x => decide ((arr H x).1 = k) || decide ((arr H x).2 = k)) with
    | nil =>
      rw [hl] at hx
      cases hx
    | cons _ _ => rfl
theorem mem_two (k i j : Nat) : decide (k ∈ [i, j]) = (decide (i = k) || decide (j = k)) := by
  rw [Bool.eq_iff_iff]
  simp only [Bool.or_eq_true, decide_eq_true_eq, List.mem_cons, List.not_mem_nil, or_false]
  constructor
  · rintro (h | h)
    · exact .inl h.symm
    · exact .inr h.symm
  · rintro (h | h)
    · exact .inl h.symm
    · exact .inr h.symm
theorem ok_lfrozen {f : Addr} {fd : FuncData} (d : Df K mg "_law_frozen" s_law_frozen ["_law_web", "_law_opened"] f fd) (B : Blt mg) : Cal P w K mg base 1 "_law_frozen" sp_lfrozen := by
  refine d.ok sc_law_frozen (fun vs H Q E h => ?_) (fun cdv A outer s H vs Q E hr h => ?_)
  · obtain ⟨a, b, r, n, s, rfl, _⟩ := h
    rfl
  · obtain ⟨a, b, r, n, s, rfl, ⟨c, ps, es, hw1, hw2, hw3, hw4, hw5⟩, hb, hn, q⟩ := h
-- _law_frozen: slots 0 _law_web 1 _law_opened 2 _law_some 3 _law_arrow 4 _law_k
    refine ⟨_, (pss_cons (ps_set (i := 2) sc_law_frozen.nd rfl (.inr rfl) (pe_lc (own := [("_law_arrow", 3)]) (g := gName 3) rfl sc_law_frozen.nd (pi_tup (pe_ix ix_tup (pv 0) pe_int (fun _ _ => rfl))) (blkOk_by (own := [("_law_arrow", 3)]) (N := N_law_frozen) (sc := (defScope s_law_frozen)) (by decide +kernel)) (fun _ _ _ _ _ => pg_name (i := 3) sc_law_frozen.nd rfl (.inl rfl)) (fun _ _ _ _ _ => (pts_one (PW.pt (pw_and (pt_cmpR op_inN (pe_ix (show IxR _ (rIxT K) from ix_tup) (pv 3) pe_int (fun _ _ => rfl)) (pv 1) (by rfl)) (pw_and1 (pt_cmpR op_notInN (pe_ix (show IxR _ (rIxT K) from ix_tup) (pv 3) pe_int (fun _ _ => rfl)) (pv 1) (by rfl))))))) (fun _ _ _ _ _ => (pv 3))))
      (pss_one (ps_ret (pe_lc (own := [("_law_k", 4)]) (g := gName 4) rfl sc_law_frozen.nd (pi_range1 (by rfl) B.m_range (pa_cons (pe_ix ix_tup (pv 0) pe_int (fun _ _ => rfl)) pa_nil)) (blkOk_by (own := [("_law_k", 4)]) (N := N_law_frozen) (sc := (defScope s_law_frozen)) (by decide +kernel)) (fun _ _ _ _ _ => pg_name (i := 4) sc_law_frozen.nd rfl (.inr rfl)) (fun _ _ _ _ _ => (pts_one (pt_cmpR (show OpR _ _ (rNeNil K) from op_neNil hr.units) (pe_lc (own := [("_law_arrow", 3)]) (g := gName 3) rfl sc_law_frozen.nd (show PI _ _ _ (iList K _) from pi_list (pv 2)) (blkOk_by (own := [("_law_arrow", 3)]) (N := N_law_frozen) (sc := (relS _ (defScope s_law_frozen))) (by decide +kernel)) (fun _ _ _ _ _ => pg_name (i := 3) sc_law_frozen.nd rfl (.inl rfl)) (fun _ _ _ _ _ => (pts_one (pt_cmpR op_inN (pv 4) (pv 3) (by rfl)))) (fun _ _ _ _ _ => (pv 3))) (pe_lst pa_nil) (nomark _)))) (fun _ _ _ _ _ => (pv 4)))))), ?_⟩
    have hwl : (ps.map V.ref).length ≤ 1000 := by
      rw [List.length_map]
      omega
    refine ⟨.ref a, rfl, a, _, 1, .ref c, rfl, rfl, Tp.sq hw1, rfl, c, rfl, ⟨_, Tp.sq hw2⟩, fun D nD => lc_sel (walk_tup (K := K) (a := c) (xs := ps.map V.ref)) nD (fun H1 s1 => Tp.sq (s1 _ _ hw2))
      (fun x => decide ((arr H x).1 ∈ s) && decide ((arr H x).2 ∉ s)) rfl (fun _ => rfl) hwl (fun x H1 Kt hx s1 h => ?_) fun H1 s1 hD => ?_⟩
    · obtain ⟨p, e, rfl, hp, _⟩ := prs_mem hw3 hx
      rw [arr_at hp] at h
      have hp1 : PrAt H1 p e := s1 _ _ hp
      have hb1 : Tp H1 b s := s1 _ _ hb
      refine ⟨.ref p, rfl, p, _, 0, nI e.1, rfl, rfl, Tp.sq hp1, rfl, .ref b, rfl, e.1, b, s, rfl, rfl, .inr hb1, _, rfl, ite2 (fun e1 => ?_) (fun e1 => ?_)⟩
      · refine ⟨.ref p, rfl, p, _, 1, nI e.2, rfl, rfl, Tp.sq hp1, rfl, .ref b, rfl, e.2, b, s, rfl, rfl, .inr hb1, _, rfl, ?_⟩
        have h2 := h H1 (Same.refl H1)
        rw [e1, Bool.true_and] at h2
        exact h2
      · have h2 := h H1 (Same.refl H1)
        rw [Bool.not_eq_true _ |>.mp e1, Bool.false_and] at h2
        exact h2
    · have hw1' : H1 a = some (.tup [nI n, .ref c]) := s1 _ _ hw1
      refine ⟨.ref a, rfl, a, _, 0, nI n, rfl, rfl, Tp.sq hw1', rfl, (n : Int), rfl, (int62 (by omega)).1, (int62 (by omega)).2, ?_⟩
      refine fun D2 nD2 => lc_selN (walk_rangeN (n := n)) nD2 (fun _ _ => trivial) (fun k => (arrows r n).any fun p => decide (p.1 ∈ s) && decide (p.2 ∉ s) && (decide (p.1 = k) || decide (p.2 = k))) rfl (fun _ => rfl) (by rw [List.length_range]; omega)
        (fun k H2 Kt hk s2 h => ?_) fun H2 s2 hD2 => q H2 D2 (s1.trans s2) hD2
      have hD' : H2 D = some (.lst ((ps.map V.ref).filter fun x => decide ((arr H x).1 ∈ s) && decide ((arr H x).2 ∉ s))) := s2 _ _ hD
      refine ⟨.ref D, rfl, D, rfl, ⟨_, Ls.sq hD'⟩, fun D3 nD3 => lc_sel (walk_list (K := K) (a := D) (xs := (ps.map V.ref).filter fun x => decide ((arr H x).1 ∈ s) && decide ((arr H x).2 ∉ s))) nD3 (fun H3 s3 => Ls.sq (s3 _ _ hD'))
        (fun x => decide ((arr H x).1 = k) || decide ((arr H x).2 = k)) rfl (fun _ => rfl) (filter_len _ _ hwl) (fun x H3 Kt' hx s3 h' => ?_) fun H3 s3 hD3 => ?_⟩
      · obtain ⟨hx, _⟩ := List.mem_filter.mp hx
        obtain ⟨p, e, rfl, hp, _⟩ := prs_mem hw3 hx
        rw [arr_at hp] at h'
        have hp3 : PrAt H3 p e := s3 _ _ (s2 _ _ (s1 _ _ hp))
        refine ⟨nI k, rfl, .ref p, rfl, k, p, [e.1, e.2], rfl, rfl, .inr hp3, _, rfl, ?_⟩
        rw [mem_two]
        exact h' H3 (Same.refl H3)
      · refine ⟨Nat.zero_le _, fun z nz => ?_⟩
        have s4 := same_upd (o := .lst []) nz
        have sm := (s2.trans s3).trans s4
        have hel : ∃ l, Sts (upd H3 z (.lst [])) (((ps.map V.ref).filter fun x => decide ((arr H x).1 ∈ s) && decide ((arr H x).2 ∉ s)).filter fun x => decide ((arr H x).1 = k) || decide ((arr H x).2 = k)) l := by
          refine sts_of fun x hx => ?_
          obtain ⟨p, e, rfl, hp, _⟩ := prs_mem hw3 (List.mem_filter.mp (List.mem_filter.mp hx).1).1
          exact ⟨p, [e.1, e.2], rfl, sm _ _ (s1 _ _ hp)⟩
        obtain ⟨l, hl⟩ := hel
        refine ⟨_, z, dpl_Ts (s4 _ _ hD3) hl, rfl, upd_same, _, rfl, ?_⟩
        rw [isEmpty_map, ← isEmpty_len hl.len, frozen_any hw3 hw4]
        exact h _ ((s3.trans s4))
/-! ### _law_open, _law_shut -/
def sp_open : Sp := fun vs H Q _ => ∃ (a b : Addr) (r : Bool) (n : Nat) (s : List Nat), vs = [.ref a, .ref b] ∧ WebAt H a r n ∧ Tp H b s ∧ n ≤ 100 ∧ s.length ≤ 100 ∧ ∀ H' p, Same H H' → Ls H' p (canOpen r n s) → Q (.ref p) H'
theorem empty_filter (l : List Nat) (p : Nat → Bool) : (l.filter p).isEmpty = l.all fun j => !p j := by
  induction l with
  | nil => rfl
  | cons x r ih =>
    rw [List.filter_cons, List.all_cons, ← ih]
    cases p x <;> simp
theorem ok_open {f : Addr} {fd : FuncData} (d : Df K mg "_law_open" s_law_open ["_law_web", "_law_opened"] f fd) (B : Blt mg) : Cal P w K mg base 1 "_law_open" sp_open := by
  refine d.ok sc_law_open (fun vs H Q E h => ?_) (fun cdv A outer s H vs Q E hr h => ?_)
  · obtain ⟨a, b, r, n, s, rfl, _⟩ := h
    rfl
  · obtain ⟨a, b, r, n, s, rfl, ⟨c, ps, es, hw1, hw2, hw3, hw4, hw5⟩, hb, hn, hs, q⟩ := h
-- _law_open: slots 0 _law_web 1 _law_opened 2 _law_k 3 _law_one
    refine ⟨_, (pss_one (ps_ret (pe_lc (own := [("_law_k", 2)]) (g := gName 2) rfl sc_law_open.nd (pi_range1 (by rfl) B.m_range (pa_cons (pe_ix ix_tup (pv 0) pe_int (fun _ _ => rfl)) pa_nil)) (blkOk_by (own := [("_law_k", 2)]) (N := N_law_open) (sc := (defScope s_law_open)) (by decide +kernel)) (fun _ _ _ _ _ => pg_name (i := 2) sc_law_open.nd rfl (.inr rfl)) (fun _ _ _ _ _ => (pts_one (PW.pt (pw_and (pt_cmpR op_notInN (pv 2) (pv 1) (by rfl)) (pw_and1 (pt_cmpR (show OpR _ _ (rEqNil K) from op_eqNil hr.units) (pe_lc (own := [("_law_one", 3)]) (g := gName 3) rfl sc_law_open.nd (show PI _ _ _ (iTup K _) from pi_tup (pv 1)) (blkOk_by (own := [("_law_one", 3)]) (N := N_law_open) (sc := (relS _ (defScope s_law_open))) (by decide +kernel)) (fun _ _ _ _ _ => pg_name (i := 3) sc_law_open.nd rfl (.inl rfl)) (fun _ _ _ _ _ => (pts_one (pt_cmpR (op_inT (hu65 hr)) (pe_tup (pa_cons (pv 3) (pa_cons (pv 2) pa_nil))) (pe_ix (show IxR _ (rIxT K) from ix_tup) (pv 0) pe_int (fun _ _ => rfl)) (by rfl)))) (fun _ _ _ _ _ => (pv 3))) (pe_lst pa_nil) (nomark _))))))) (fun _ _ _ _ _ => (pv 2))))), ?_⟩
    refine ⟨.ref a, rfl, a, _, 0, nI n, rfl, rfl, Tp.sq hw1, rfl, (n : Int), rfl, (int62 (by omega)).1, (int62 (by omega)).2, ?_⟩
    refine fun D nD => lc_selN (walk_rangeN (n := n)) nD (fun _ _ => trivial) (fun k => decide (k ∉ s) && s.all fun j => decide ((j, k) ∉ arrows r n)) rfl (fun _ => rfl) (by rw [List.length_range]; omega)
      (fun k H1 Kt hk s1 h => ?_) fun H1 s1 hD => q H1 D s1 hD
    have hb1 : Tp H1 b s := s1 _ _ hb
    refine ⟨nI k, rfl, .ref b, rfl, k, b, s, rfl, rfl, .inr hb1, _, rfl, ite2 (fun e1 => ?_) (fun e1 => ?_)⟩
    · refine ⟨.ref b, rfl, b, rfl, ⟨_, Tp.sq hb1⟩, fun D2 nD2 => lc_selN (walk_tupN (K := K) (a := b) (s := s)) nD2 (fun H2 s2 => Tp.sq (s2 _ _ hb1)) (fun j => decide ((j, k) ∈ arrows r n)) rfl (fun _ => rfl) (by omega)
        (fun j H2 Kt' hj s2 h' => ?_) fun H2 s2 hD2 => ?_⟩
      · refine ⟨nI j, rfl, nI k, rfl, by show 2 ≤ sizeLine; decide, fun p np => ?_⟩
        have s3 := same_upd (o := .tup [nI j, nI k]) np
        have sm := (s1.trans s2).trans s3
        refine ⟨.ref a, rfl, a, _, 1, .ref c, rfl, rfl, Tp.sq (sm _ _ hw1), rfl, p, c, (j, k), ps, es, rfl, rfl, upd_same, sm _ _ hw2, hw3.mono (.of sm), _, rfl, ?_⟩
        rw [show decide ((j, k) ∈ es) = decide ((j, k) ∈ arrows r n) from by rw [decide_eq_decide]; exact hw4 _]
        exact h' _ s3
      · refine ⟨Nat.zero_le _, fun z nz => ?_⟩
        have s4 := same_upd (o := .lst []) nz
        refine ⟨_, z, dpl_ints (s4 _ _ hD2), rfl, upd_same, _, rfl, ?_⟩
        rw [isEmpty_map, empty_filter]
        have h2 := h _ (s2.trans s4)
        rw [e1, Bool.true_and] at h2
        simp only [← decide_not]
        exact h2
    · have h2 := h H1 (Same.refl H1)
      rw [Bool.not_eq_true _ |>.mp e1, Bool.false_and] at h2
      exact h2
def sp_shut : Sp := fun vs H Q _ => ∃ (a b : Addr) (r : Bool) (n : Nat) (s : List Nat), vs = [.ref a, .ref b] ∧ WebAt H a r n ∧ Tp H b s ∧ n ≤ 100 ∧ s.length ≤ 100 ∧ ∀ H' p, Same H H' → Ls H' p (canShut r n s) → Q (.ref p) H'
theorem ok_shut {f : Addr} {fd : FuncData} (d : Df K mg "_law_shut" s_law_shut ["_law_web", "_law_opened"] f fd) (B : Blt mg) : Cal P w K mg base 1 "_law_shut" sp_shut := by
  refine d.ok sc_law_shut (fun vs H Q E h => ?_) (fun cdv A outer s H vs Q E hr h => ?_)
  · obtain ⟨a, b, r, n, s, rfl, _⟩ := h
    rfl
  · obtain ⟨a, b, r, n, s, rfl, ⟨c, ps, es, hw1, hw2, hw3, hw4, hw5⟩, hb, hn, hs, q⟩ := h
-- _law_shut: slots 0 _law_web 1 _law_opened 2 _law_k 3 _law_j
    refine ⟨_, (pss_one (ps_ret (pe_lc (own := [("_law_k", 2)]) (g := gName 2) rfl sc_law_shut.nd (pi_tup (pv 1)) (blkOk_by (own := [("_law_k", 2)]) (N := N_law_shut) (sc := (defScope s_law_shut)) (by decide +kernel)) (fun _ _ _ _ _ => pg_name (i := 2) sc_law_shut.nd rfl (.inr rfl)) (fun _ _ _ _ _ => (pts_one (pt_cmpR (show OpR _ _ (rEqNil K) from op_eqNil hr.units) (pe_lc (own := [("_law_j", 3)]) (g := gName 3) rfl sc_law_shut.nd (pi_range1 (by rfl) B.m_range (pa_cons (pe_ix (show IxR _ (rIxT K) from ix_tup) (pv 0) pe_int (fun _ _ => rfl)) pa_nil)) (blkOk_by (own := [("_law_j", 3)]) (N := N_law_shut) (sc := (relS _ (defScope s_law_shut))) (by decide +kernel)) (fun _ _ _ _ _ => pg_name (i := 3) sc_law_shut.nd rfl (.inl rfl)) (fun _ _ _ _ _ => (pts_one (PW.pt (pw_and (pt_cmpR op_notInN (pv 3) (pv 1) (by rfl)) (pw_and1 (pt_cmpR (op_inT (hu65 hr)) (pe_tup (pa_cons (pv 2) (pa_cons (pv 3) pa_nil))) (pe_ix (show IxR _ (rIxT K) from ix_tup) (pv 0) pe_int (fun _ _ => rfl)) (by rfl))))))) (fun _ _ _ _ _ => (pv 3))) (pe_lst pa_nil) (nomark _)))) (fun _ _ _ _ _ => (pv 2))))), ?_⟩
    refine ⟨.ref b, rfl, b, rfl, ⟨_, Tp.sq hb⟩, fun D nD => lc_selN (walk_tupN (K := K) (a := b) (s := s)) nD (fun H1 s1 => Tp.sq (s1 _ _ hb)) (fun k => (List.range n).all fun j => !(decide (j ∉ s) && decide ((k, j) ∈ arrows r n))) rfl (fun _ => rfl) (by omega)
      (fun k H1 Kt hk s1 h => ?_) fun H1 s1 hD => q H1 D s1 hD⟩
    refine ⟨.ref a, rfl, a, _, 0, nI n, rfl, rfl, Tp.sq (s1 _ _ hw1), rfl, (n : Int), rfl, (int62 (by omega)).1, (int62 (by omega)).2, ?_⟩
    refine fun D2 nD2 => lc_selN (walk_rangeN (n := n)) nD2 (fun _ _ => trivial) (fun j => decide (j ∉ s) && decide ((k, j) ∈ arrows r n)) rfl (fun _ => rfl) (by rw [List.length_range]; omega)
      (fun j H2 Kt' hj s2 h' => ?_) fun H2 s2 hD2 => ?_
    · have hb2 : Tp H2 b s := s2 _ _ (s1 _ _ hb)
      refine ⟨nI j, rfl, .ref b, rfl, j, b, s, rfl, rfl, .inr hb2, _, rfl, ite2 (fun e1 => ?_) (fun e1 => ?_)⟩
      · refine ⟨nI k, rfl, nI j, rfl, by show 2 ≤ sizeLine; decide, fun p np => ?_⟩
        have s3 := same_upd (o := .tup [nI k, nI j]) np
        have sm := (s1.trans s2).trans s3
        refine ⟨.ref a, rfl, a, _, 1, .ref c, rfl, rfl, Tp.sq (sm _ _ hw1), rfl, p, c, (k, j), ps, es, rfl, rfl, upd_same, sm _ _ hw2, hw3.mono (.of sm), _, rfl, ?_⟩
        rw [show decide ((k, j) ∈ es) = decide ((k, j) ∈ arrows r n) from by rw [decide_eq_decide]; exact hw4 _]
        have h2 := h' _ s3
        rw [e1, Bool.true_and] at h2
        exact h2
      · have h2 := h' H2 (Same.refl H2)
        rw [Bool.not_eq_true _ |>.mp e1, Bool.false_and] at h2
        exact h2
    · refine ⟨Nat.zero_le _, fun z nz => ?_⟩
      have s4 := same_upd (o := .lst []) nz
      refine ⟨_, z, dpl_ints (s4 _ _ hD2), rfl, upd_same, _, rfl, ?_⟩
      rw [isEmpty_map, empty_filter]
      exact h _ (s2.trans s4)
end
end KR
namespace KR
open PySem PySem.Spec PyProof.Rows L2
section
variable {P : Program} {w : World} {K : PySem.W.Frag} {mg : Str → Option Value} {base : Heap}
/-! ### _law_after -/
theorem pairedMap {α β γ : Type} {F : β → γ → Prop} {f : α → β} : ∀ {l : List α} {m : List γ}, Paired F (l.map f) m → Paired (fun a c => F (f a) c) l m
  | [], [], .nil => .nil
  | _ :: _, _ :: _, .cons r t => .cons r (pairedMap t)
/-- the pairs (door, standing behind its deed) -/
def Deeds (H : Hp) (s : List Nat) (ks : List Nat) (ys : List V) : Prop := Paired (fun k y => ∃ q t, y = .ref q ∧ H q = some (.tup [nI k, .ref t]) ∧ Tp H t (changed s k)) ks ys
theorem Deeds.mono {H H' : Hp} {s ks : List Nat} {ys : List V} (h : Deeds H s ks ys) (t : Tups H H') : Deeds H' s ks ys := L2.Paired.mapP h fun k y ⟨q, u, e, h1, h2⟩ => ⟨q, u, e, t _ _ h1, t _ _ h2⟩
def sp_after : Sp := fun vs H Q _ => ∃ (a b : Addr) (r : Bool) (n : Nat) (s : List Nat), vs = [.ref a, .ref b] ∧ WebAt H a r n ∧ Tp H b s ∧ n ≤ 50 ∧ s.length ≤ 50 ∧
  ∀ H' p ys, H p = none → Same H H' → H' p = some (.lst ys) → Deeds H' s (doors r n s) ys → Q (.ref p) H'
theorem open_len (r : Bool) (n : Nat) (s : List Nat) : (canOpen r n s).length ≤ n := by
  refine filter_len _ _ ?_
  rw [List.length_range]
  exact Nat.le_refl _
theorem doors_len (r : Bool) (n : Nat) (s : List Nat) : (doors r n s).length ≤ n + s.length := by
  unfold doors
  rw [(isort_perm _).length_eq, List.length_append]
  have h1 := open_len r n s
  have h2 : (canShut r n s).length ≤ s.length := filter_len _ _ (Nat.le_refl _)
  omega
theorem filter_true {α : Type} (l : List α) : l.filter (fun _ => true) = l := List.filter_eq_self.mpr fun _ _ => rfl
theorem ok_after {f : Addr} {fd : FuncData} (d : Df K mg "_law_after" s_law_after ["_law_web", "_law_opened"] f fd) (B : Blt mg) (c__law_open : Cal P w K mg base 1 "_law_open" sp_open) (c__law_shut : Cal P w K mg base 1 "_law_shut" sp_shut)
    (c__law_changed : Cal P w K mg base 1 "_law_changed" sp_changed) : Cal P w K mg base 2 "_law_after" sp_after := by
  refine d.ok sc_law_after (fun vs H Q E h => ?_) (fun cdv A outer s H vs Q E hr h => ?_)
  · obtain ⟨a, b, r, n, s, rfl, _⟩ := h
    rfl
  · obtain ⟨a, b, r, n, s, rfl, hw, hb, hn, hs, q⟩ := h
-- _law_after: slots 0 _law_web 1 _law_opened 2 _law_k
    refine ⟨_, (pss_one (ps_ret (pe_lc (own := [("_law_k", 2)]) (g := gName 2) (tt := tYes) rfl sc_law_after.nd (pi_list (pe_callB cr_sortedN (by rfl) B.m_sorted (by decide +kernel) (pa_cons (pe_op op_catN (pe_callC c__law_open (hr.mono (by decide)) (by rfl) (pa_cons (pv 0) (pa_cons (pv 1) pa_nil))) (pe_callC c__law_shut (hr.mono (by decide)) (by rfl) (pa_cons (pv 0) (pa_cons (pv 1) pa_nil)))) pa_nil))) (blkOk_by (own := [("_law_k", 2)]) (N := N_law_after) (sc := (defScope s_law_after)) (by decide +kernel)) (fun _ _ _ _ _ => pg_name (i := 2) sc_law_after.nd rfl (.inl rfl)) (fun _ _ _ _ _ => pts_nil) (fun _ _ _ _ _ => (pe_tup (pa_cons (pv 2) (pa_cons (pe_callC c__law_changed (hr.mono (by decide)) (by rfl) (pa_cons (pv 1) (pa_cons (pv 2) pa_nil))) pa_nil))))))), ?_⟩
    have hol := open_len r n s
    have hsl : (canShut r n s).length ≤ s.length := filter_len _ _ (Nat.le_refl _)
    have hdl := doors_len r n s
    refine ⟨.ref a, rfl, .ref b, rfl, a, b, r, n, s, rfl, hw, hb, by omega, by omega, fun H1 p1 s1 hp1 => ?_⟩
    refine ⟨.ref a, rfl, .ref b, rfl, a, b, r, n, s, rfl, hw.mono (.of s1), s1 _ _ hb, by omega, by omega, fun H2 p2 s2 hp2 => ?_⟩
    refine ⟨p1, p2, canOpen r n s, canShut r n s, rfl, rfl, s2 _ _ hp1, hp2, by omega, fun p3 np3 => ?_⟩
    have s3 := same_upd (o := .lst ((canOpen r n s ++ canShut r n s).map nI)) np3
    refine ⟨p3, _, rfl, upd_same, fun p4 np4 => ?_⟩
    have s4 := same_upd (o := .lst ((isort (canOpen r n s ++ canShut r n s)).map nI)) np4
    have s0 := ((s1.trans s2).trans s3).trans s4
    refine ⟨p4, rfl, ⟨_, Ls.sq upd_same⟩, fun D nD => lc_gen (walk_listN (K := K) (a := p4) (s := doors r n s)) nD (fun H5 s5 => Ls.sq (s5 _ _ upd_same)) (fun _ => true)
      (fun x y H => ∃ k q t, x = nI k ∧ y = .ref q ∧ H q = some (.tup [nI k, .ref t]) ∧ Tp H t (changed s k)) (fun x y H H' t ⟨k, q, u, e1, e2, h1, h2⟩ => ⟨k, q, u, e1, e2, t _ _ h1, t _ _ h2⟩) (fun _ => rfl)
      (by rw [List.length_map]; omega) (fun x H5 Kt hx s5 h => h H5 (Same.refl H5)) (fun x H5 Ke hx _ s5 h => ?_) fun H5 ys s5 hD hp => ?_⟩
    · obtain ⟨k, hk, rfl⟩ := List.mem_map.mp hx
      refine ⟨nI k, rfl, .ref b, rfl, nI k, rfl, b, k, s, rfl, s5 _ _ (s0 _ _ hb), by omega, fun H6 t s6 ht => ⟨by show 2 ≤ sizeLine; decide, fun q nq => ?_⟩⟩
      have s7 := same_upd (o := .tup [nI k, .ref t]) nq
      exact h _ _ (s6.trans s7) ⟨k, q, t, rfl, rfl, upd_same, s7 _ _ ht⟩
    · rw [filter_true] at hp
      refine q H5 D ys (s0.free nD) (s0.trans s5) hD (pairMono (pairedMap hp) ?_)
      rintro k y ⟨k', q', t, e1, e2, h1, h2⟩
      have e := nI_inj e1
      subst e
      exact ⟨q', t, e2, h1, h2⟩
/-! ### _law_alike -/
def sp_alike0 : Sp := fun vs H Q _ => ∃ o p : Option Nat, vs = [oV o, oV p] ∧ ∀ H', Same H H' → Q (.bl (decide (o = p))) H'
theorem ty_oV {K : PySem.W.Frag} {H : Hp} (o : Option Nat) : TyX K H (oV o) (.type (match o with | none => "NoneType" | some _ => "int")) := by
  cases o with
  | none => exact .base .non
  | some k => exact .base (.int _)
abbrev tyO (o : Option Nat) : String := match o with | none => "NoneType" | some _ => "int"
theorem kit_o {K : PySem.W.Frag} (o : Option Nat) {c : String} {b : Bool} (h1 : kitB "NoneType" c = some b) (h2 : kitB "int" c = some b) : PySem.W.kitOne K (.type (tyO o)) (.type c) = some b := by
  cases o with
  | none => exact kit_ty h1
  | some k => exact kit_ty h2
theorem kit_seq {K : PySem.W.Frag} (o : Option Nat) : PySem.W.kitAny K (.type (tyO o)) [.type "tuple", .type "list"] = some false :=
  kitAny_cons (b := false) (kit_o o (by decide +kernel) (by decide +kernel)) (fun _ => kitAny_cons (b := false) (kit_o o (by decide +kernel) (by decide +kernel)) (fun _ => kitAny_nil) (fun z => nomatch z)) (fun z => nomatch z)
theorem ok_alike0 {f : Addr} {fd : FuncData} (d : Df K mg "_law_alike" s_law_alike ["_law_found", "_law_due"] f fd) (B : Blt mg) : Cal P w K mg base 1 "_law_alike" sp_alike0 := by
  refine d.ok sc_law_alike (fun vs H Q E h => ?_) (fun cdv A outer s H vs Q E hr h => ?_)
  · obtain ⟨o, p, rfl, _⟩ := h
    rfl
  · obtain ⟨o, p, rfl, q⟩ := h
-- _law_alike: slots 0 _law_found 1 _law_due 2 _law_k
    refine ⟨_, (pss_cons (ps_if (pt_val (pe_callB call_isiT (by rfl) B.m_isinstance (by decide +kernel) (pa_cons (pv 1) (pa_cons (pe_tup (pa_cons (pe_bltn (v := .ty "tuple") (by rfl) B.m_tuple (by decide +kernel) rfl) (pa_cons (pe_bltn (v := .ty "list") (by rfl) B.m_list (by decide +kernel) rfl) pa_nil))) pa_nil)))) pss_never pss_nil)
      (pss_cons (ps_if (PW.pt (pw_or (pt_cmpR op_isN (pv 1) pe_non (nomark _)) (pw_or1 (pt_val (pe_callB call_isi (by rfl) B.m_isinstance (by decide +kernel) (pa_cons (pv 1) (pa_cons (pe_bltn (v := .ty "str") (by rfl) B.m_str (by decide +kernel) rfl) pa_nil))))))) 
        (pss_one (ps_ret (pe_and (pe_cmpR op_eq (pv 0) (pv 1) (nomark _)) (pe_one (pe_cmpR op_eq (pe_callB call_isi (by rfl) B.m_isinstance (by decide +kernel) (pa_cons (pv 0) (pa_cons (pe_bltn (v := .ty "str") (by rfl) B.m_str (by decide +kernel) rfl) pa_nil))) (pe_callB call_isi (by rfl) B.m_isinstance (by decide +kernel) (pa_cons (pv 1) (pa_cons (pe_bltn (v := .ty "str") (by rfl) B.m_str (by decide +kernel) rfl) pa_nil))) (nomark _)))))) pss_nil)
      (pss_one (ps_ret (pe_and (pe_callB call_isi (by rfl) B.m_isinstance (by decide +kernel) (pa_cons (pv 0) (pa_cons (pe_bltn (v := .ty "int") (by rfl) B.m_int (by decide +kernel) rfl) pa_nil))) (pe_and (pe_cmpR op_eq (pe_callB call_isi (by rfl) B.m_isinstance (by decide +kernel) (pa_cons (pv 0) (pa_cons (pe_bltn (v := .ty "bool") (by rfl) B.m_bool (by decide +kernel) rfl) pa_nil))) (pe_callB call_isi (by rfl) B.m_isinstance (by decide +kernel) (pa_cons (pv 1) (pa_cons (pe_bltn (v := .ty "bool") (by rfl) B.m_bool (by decide +kernel) rfl) pa_nil))) (nomark _)) (pe_one (pe_cmpR op_eq (pv 0) (pv 1) (nomark _))))))))), ?_⟩
    refine ⟨oV p, rfl, by show 2 ≤ sizeLine; decide, fun t nt => ?_⟩
    have s1 := same_upd (o := .tup [.ty "tuple", .ty "list"]) nt
    refine ⟨_, t, _, _, _, false, rfl, upd_same, .cons (.ty _) (.cons (.ty _) .nil), ty_oV p, kit_seq p, false, rfl, iteF ?_⟩
    have q1 := q _ s1
    cases p with
    | none =>
      refine ⟨.non, rfl, rfl, _, rfl, iteT ⟨oV o, rfl, .non, rfl, ?_⟩⟩
      cases o with
      | none => exact ⟨rfl, _, rfl, iteT ⟨.non, rfl, _, _, _, _, false, rfl, .ty "str", .base .non, kit_ty (by decide +kernel), .non, rfl, _, _, _, _, false, rfl, .ty "str", .base .non, kit_ty (by decide +kernel), rfl, q1⟩⟩
      | some k => exact ⟨rfl, _, rfl, iteF q1⟩
    | some j =>
      refine ⟨nI j, rfl, rfl, _, rfl, iteF ⟨nI j, rfl, _, _, _, _, false, rfl, .ty "str", .base (.int _), kit_ty (by decide +kernel), false, rfl, iteF ?_⟩⟩
      refine ⟨oV o, rfl, _, _, _, _, o.isSome, rfl, .ty "int", ty_oV o, ?_, _, rfl, ?_⟩
      · cases o with
        | none => exact kit_ty (a := "NoneType") (b := "int") (r := false) (by decide +kernel)
        | some k => exact kit_ty (a := "int") (b := "int") (r := true) (by decide +kernel)
      cases o with
      | none => exact iteF q1
      | some k =>
        refine iteT ⟨nI k, rfl, _, _, _, _, false, rfl, .ty "bool", .base (.int _), kit_ty (by decide +kernel), nI j, rfl, _, _, _, _, false, rfl, .ty "bool", .base (.int _), kit_ty (by decide +kernel), rfl, _, rfl, iteT ?_⟩
        refine ⟨nI k, rfl, nI j, rfl, rfl, ?_⟩
        have e : decide (nI k = nI j) = decide (some k = some j) := by
          rw [decide_eq_decide]
          constructor
          · intro h
            rw [nI_inj h]
          · intro h
            rw [Option.some.inj h]
        rw [e]
        exact q1
def sp_alike1 : Sp := fun vs H Q _ => ∃ (a b : Addr) (s t : List Nat), vs = [.ref a, .ref b] ∧ Tp H a s ∧ Tp H b t ∧ s.length ≤ 100 ∧ t.length ≤ 100 ∧ ∀ H', Same H H' → Q (.bl (decide (s = t))) H'
theorem all_same (s t : List Nat) (h : s.length = t.length) : ((List.range t.length).filter fun k => !decide (s[k]? = t[k]?)).isEmpty = decide (s = t) := by
  rw [empty_filter, Bool.eq_iff_iff, List.all_eq_true, decide_eq_true_eq]
  constructor
  · intro hk
    refine List.ext_getElem? fun k => ?_
    by_cases hlt : k < t.length
    · have := hk k (List.mem_range.mpr hlt)
      simpa using this
    · rw [List.getElem?_eq_none (by omega), List.getElem?_eq_none (by omega)]
  · rintro rfl k _
    simp
theorem ok_alike1 {f : Addr} {fd : FuncData} (d : Df K mg "_law_alike" s_law_alike ["_law_found", "_law_due"] f fd) (B : Blt mg) (c__law_alike : Cal P w K mg base 1 "_law_alike" sp_alike0) : Cal P w K mg base 2 "_law_alike" sp_alike1 := by
  refine d.ok sc_law_alike (fun vs H Q E h => ?_) (fun cdv A outer s H vs Q E hr h => ?_)
  · obtain ⟨a, b, s, t, rfl, _⟩ := h
    rfl
  · obtain ⟨a, b, s, t, rfl, ha, hb, hs, ht, q⟩ := h
-- _law_alike: slots 0 _law_found 1 _law_due 2 _law_k
    refine ⟨_, (pss_cons (ps_if (pt_val (pe_callB call_isiT (by rfl) B.m_isinstance (by decide +kernel) (pa_cons (pv 1) (pa_cons (pe_tup (pa_cons (pe_bltn (v := .ty "tuple") (by rfl) B.m_tuple (by decide +kernel) rfl) (pa_cons (pe_bltn (v := .ty "list") (by rfl) B.m_list (by decide +kernel) rfl) pa_nil))) pa_nil)))) 
        (pss_cons (ps_if (PW.pt (pw_or (pt_not (pt_val (pe_callB call_isiT (by rfl) B.m_isinstance (by decide +kernel) (pa_cons (pv 0) (pa_cons (pe_tup (pa_cons (pe_bltn (v := .ty "tuple") (by rfl) B.m_tuple (by decide +kernel) rfl) (pa_cons (pe_bltn (v := .ty "list") (by rfl) B.m_list (by decide +kernel) rfl) pa_nil))) pa_nil))))) (pw_or1 (pt_cmpR op_ne (pe_callB call_isi (by rfl) B.m_isinstance (by decide +kernel) (pa_cons (pv 0) (pa_cons (pe_bltn (v := .ty "list") (by rfl) B.m_list (by decide +kernel) rfl) pa_nil))) (pe_callB call_isi (by rfl) B.m_isinstance (by decide +kernel) (pa_cons (pv 1) (pa_cons (pe_bltn (v := .ty "list") (by rfl) B.m_list (by decide +kernel) rfl) pa_nil))) (nomark _))))) 
          (pss_one (ps_ret pe_bl)) pss_nil)
        (pss_cons (ps_if (pt_cmpR op_ne (pe_callB call_lenN (by rfl) B.m_len (by decide +kernel) (pa_cons (pv 0) pa_nil)) (pe_callB call_lenN (by rfl) B.m_len (by decide +kernel) (pa_cons (pv 1) pa_nil)) (nomark _)) 
          (pss_one (ps_ret pe_bl)) pss_nil)
        (pss_one (ps_ret (pe_cmpR (op_eqNil hr.units) (pe_lc (own := [("_law_k", 2)]) (g := gName 2) rfl sc_law_alike.nd (pi_range1 (by rfl) B.m_range (pa_cons (pe_callB call_lenN (by rfl) B.m_len (by decide +kernel) (pa_cons (pv 1) pa_nil)) pa_nil)) (blkOk_by (own := [("_law_k", 2)]) (N := N_law_alike) (sc := (defScope s_law_alike)) (by decide +kernel)) (fun _ _ _ _ _ => pg_name (i := 2) sc_law_alike.nd rfl (.inl rfl)) (fun _ _ _ _ _ => (pts_one (pt_not (pt_val (pe_callC c__law_alike (hr.mono (by decide)) (by rfl) (pa_cons (pe_ix (show IxR _ (rIxT K) from ix_tup) (pv 0) (pv 2) (fun _ _ => rfl)) (pa_cons (pe_ix (show IxR _ (rIxT K) from ix_tup) (pv 1) (pv 2) (fun _ _ => rfl)) pa_nil))))))) (fun _ _ _ _ _ => (pv 2))) (pe_lst pa_nil) (nomark _)))))) pss_nil) pss_never), ?_⟩
    refine ⟨.ref b, rfl, by show 2 ≤ sizeLine; decide, fun z nz => ?_⟩
    have s1 := same_upd (o := .tup [.ty "tuple", .ty "list"]) nz
    have kt : ∀ {K : PySem.W.Frag}, PySem.W.kitAny K (.type "tuple") [.type "tuple", .type "list"] = some true := fun {K} =>
      kitAny_cons (b := true) (kit_ty (by decide +kernel)) (fun e => nomatch e) (fun _ => rfl)
    refine ⟨_, z, _, _, _, true, rfl, upd_same, .cons (.ty _) (.cons (.ty _) .nil), .base (.tup (s1 _ _ hb)), kt, true, rfl, iteT ?_⟩
    refine ⟨.ref a, rfl, by show 2 ≤ sizeLine; decide, fun z2 nz2 => ?_⟩
    have s2 := s1.trans (same_upd (o := .tup [.ty "tuple", .ty "list"]) nz2)
    refine ⟨_, z2, _, _, _, true, rfl, upd_same, .cons (.ty _) (.cons (.ty _) .nil), .base (.tup (s2 _ _ ha)), kt, true, rfl, iteF ?_⟩
    refine ⟨.ref a, rfl, _, _, _, _, false, rfl, .ty "list", .base (.tup (s2 _ _ ha)), kit_ty (by decide +kernel), .ref b, rfl, _, _, _, _, false, rfl, .ty "list", .base (.tup (s2 _ _ hb)), kit_ty (by decide +kernel), rfl, _, rfl, iteF ?_⟩
    refine ⟨.ref a, rfl, a, s, rfl, .inr (s2 _ _ ha), .ref b, rfl, b, t, rfl, .inr (s2 _ _ hb), rfl, _, rfl, ?_⟩
    rw [ne_nI]
    refine ite2 (fun e => ?_) (fun e => ?_)
    · have h2 := q _ s2
      rw [decide_eq_false (show ¬ s = t from fun z => of_decide_eq_true e (by rw [z]))] at h2
      exact h2
    · have hl : s.length = t.length := by
        rcases Nat.decEq s.length t.length with h | h
        · exact absurd (decide_eq_true h) e
        · exact h
      refine ⟨.ref b, rfl, b, t, rfl, .inr (s2 _ _ hb), (t.length : Int), rfl, (int62 (by omega)).1, (int62 (by omega)).2, ?_⟩
      refine fun D nD => lc_selN (walk_rangeN (n := t.length)) nD (fun _ _ => trivial) (fun k => !decide (s[k]? = t[k]?)) rfl (fun _ => rfl) (by rw [List.length_range]; omega)
        (fun k H3 Kt hk s3 h => ?_) fun H3 s3 hD => ?_
      · have hk' : k < t.length := List.mem_range.mp hk
        have hgs : s[k]? = some s[k] := List.getElem?_eq_getElem (by omega)
        have hgt : t[k]? = some t[k] := List.getElem?_eq_getElem hk'
        have sm := s2.trans s3
        refine ⟨.ref a, rfl, nI k, rfl, a, _, (k : Int), nI s[k], rfl, rfl, Tp.sq (sm _ _ ha), atI_nat (by rw [List.getElem?_map, hgs]; rfl), .ref b, rfl, nI k, rfl, b, _, (k : Int), nI t[k], rfl, rfl, Tp.sq (sm _ _ hb), atI_nat (by rw [List.getElem?_map, hgt]; rfl),
          some s[k], some t[k], rfl, fun H4 s4 => ⟨_, rfl, ?_⟩⟩
        have h2 := h H4 s4
        rw [hgs, hgt] at h2
        exact h2
      · refine ⟨Nat.zero_le _, fun y ny => ?_⟩
        have s4 := same_upd (o := .lst []) ny
        refine ⟨_, y, dpl_ints (s4 _ _ hD), rfl, upd_same, ?_⟩
        rw [isEmpty_map, all_same s t hl]
        exact q _ ((s2.trans s3).trans s4)
end
end KR
namespace KR
open PySem PySem.Spec PyProof.Rows L2
section
variable {P : Program} {w : World} {K : PySem.W.Frag} {mg : Str → Option Value} {base : Heap}
/-! ### _law_from: plain -/
theorem doors_lt {r : Bool} {n : Nat} {s : List Nat} (h : Asc n s) {k : Nat} (hk : k ∈ doors r n s) : k < n := by
  have hm := (isort_perm _).mem_iff.mp hk
  rcases List.mem_append.mp hm with q | q
  · exact List.mem_range.mp (List.mem_filter.mp q).1
  · exact h.2 k (List.mem_filter.mp q).1
theorem changed_asc {n : Nat} {s : List Nat} (h : Asc n s) {k : Nat} (hk : k < n) : Asc n (changed s k) := by
  unfold changed
  by_cases e : k ∈ s
  · rw [if_pos e]
    exact ⟨h.1.filter _, fun j hj => h.2 j (List.mem_filter.mp hj).1⟩
  · rw [if_neg e]
    exact (h.few.snoc hk e).sorted
/-- the rows and what is to come are known -/
structure Good (n : Nat) (rows : List (List Nat)) (p : D × List (List Nat)) : Prop where
  old : ∀ s ∈ rows, Asc n s ∧ (KR.get p.1 s).isSome = true
  new : ∀ s ∈ p.2, Asc n s ∧ (KR.get p.1 s).isSome = true
  len : p.2.length ≤ p.1.length
theorem get_some_any {k : List Nat} : ∀ {d : D}, (d.any fun p => decide (p.1 = k)) = (KR.get d k).isSome
  | [] => rfl
  | p :: r => by
    rw [List.any_cons, get_some_any (d := r)]
    by_cases e : p.1 = k
    · rw [get_pos e, decide_eq_true e, Bool.true_or]
      rfl
    · rw [get_neg e, decide_eq_false e, Bool.false_or]
theorem put_new {d : D} {k : List Nat} {v : Nat} (h : KR.get d k = none) : KR.put d k v = d ++ [(k, v)] := by
  unfold KR.put
  rw [get_some_any, h]
  rfl
theorem Good.deed {n : Nat} {rows : List (List Nat)} {p : D × List (List Nat)} (g : Good n rows p) (here : List Nat) {t : List Nat} (ht : Asc n t) : Good n rows (fromDeed here p t) := by
  unfold fromDeed
  cases e : KR.get p.1 t with
  | some _ => exact g
  | none =>
    refine ⟨fun s hs => ⟨(g.old s hs).1, isSome_put (g.old s hs).2⟩, fun s hs => ?_, ?_⟩
    · rcases List.mem_append.mp hs with q | q
      · exact ⟨(g.new s q).1, isSome_put (g.new s q).2⟩
      · rw [List.mem_singleton.mp q]
        refine ⟨ht, ?_⟩
        show (KR.get (KR.put p.1 t _) t).isSome = true
        rw [get_put, if_pos rfl]
        rfl
    · have := g.len
      show (p.2 ++ [t]).length ≤ (KR.put p.1 t _).length
      rw [put_new e, List.length_append, List.length_append]
      exact Nat.add_le_add_right this 1
theorem Sts.get {H : Hp} : ∀ {xs : List V} {l : List (List Nat)} {i : Nat} {x : V}, Sts H xs l → xs[i]? = some x → ∃ a s, l[i]? = some s ∧ x = .ref a ∧ Tp H a s
  | _, _, _, _, .nil, h => by simp at h
  | _, _, 0, _, .cons ⟨a, e, q⟩ _, h => by
    cases (Option.some.inj h)
    exact ⟨a, _, rfl, e, q⟩
  | _, _, i + 1, _, .cons _ t, h => Sts.get (i := i) t (by simpa using h)
theorem Deeds.get {H : Hp} {s : List Nat} : ∀ {ks : List Nat} {ys : List V} {i : Nat} {y : V}, Deeds H s ks ys → ys[i]? = some y → ∃ k q t, ks[i]? = some k ∧ y = .ref q ∧ H q = some (.tup [nI k, .ref t]) ∧ Tp H t (changed s k)
  | _, _, _, _, .nil, h => by simp at h
  | _, _, 0, _, .cons ⟨q, t, e, h1, h2⟩ _, h => by
    cases (Option.some.inj h)
    exact ⟨_, q, t, rfl, e, h1, h2⟩
  | _, _, i + 1, _, .cons _ t, h => Deeds.get (i := i) t (by simpa using h)
theorem Deeds.len {H : Hp} {s ks : List Nat} {ys : List V} (h : Deeds H s ks ys) : ks.length = ys.length := Paired.length h
theorem Sts.snoc {H : Hp} {xs : List V} {l : List (List Nat)} {a : Addr} {s : List Nat} (h : Sts H xs l) (ha : Tp H a s) : Sts H (xs ++ [.ref a]) (l ++ [s]) := pairSnoc h ⟨a, rfl, ha⟩
theorem Tups.dT {H : Hp} {a : Addr} {x : List (List L2.Key × V)} {o : HO} (h : H a = some (.dT x)) : Tups H (upd H a o) := fun b zs e => by
  rw [upd_ne (ne_of e h (by intro z; cases z))]
  exact e
theorem Tups.lst' {H : Hp} {a : Addr} {x : List V} {o : HO} (h : H a = some (.lst x)) : Tups H (upd H a o) := fun b zs e => by
  rw [upd_ne (ne_of e h (by intro z; cases z))]
  exact e
theorem lst_dT {H : Hp} {a b : Addr} {x : List V} {y : List (List L2.Key × V)} (h : H a = some (.lst x)) (h' : H b = some (.dT y)) : a ≠ b := ne_of h h' (by intro z; cases z)
/-! ### _law_from -/
def sp_from : Sp := fun vs H Q _ => ∃ (a b : Addr) (r : Bool) (n : Nat) (one : List Nat), vs = [.ref a, .ref b] ∧ WebAt H a r n ∧ Tp H b one ∧ n ≤ 50 ∧ Asc n one ∧ (fromN r n one 7).2 = [] ∧ (fromN r n one 7).1.length ≤ 1000 ∧
  ∀ H' d, Same H H' → H' d = some (.dT ((known r n one).map emb)) → Q (.ref d) H'
/-- the state between two levels -/
def FromAt (H : Hp) (a b d : Addr) (r : Bool) (n : Nat) (one : List Nat) (m : Nat) (σ' : L2.St) (H' : Hp) : Prop := ∃ (lp : Addr) (xs : List V) (y4 y5 y6 y7 : Option V), σ' = [some (.ref a), some (.ref b), some (.ref d), some (.ref lp), y4, y5, y6, y7] ∧ Same H H' ∧
  H' d = some (.dT ((fromN r n one m).1.map emb)) ∧ H' lp = some (.lst xs) ∧ Sts H' xs (fromN r n one m).2 ∧ ∀ s ∈ (fromN r n one m).2, Asc n s ∧ (KR.get (fromN r n one m).1 s).isSome = true
theorem ok_from {f : Addr} {fd : FuncData} (d : Df K mg "_law_from" s_law_from ["_law_web", "_law_opened"] f fd) (c__law_after : Cal P w K mg base 2 "_law_after" sp_after) : Cal P w K mg base 3 "_law_from" sp_from := by
  refine d.ok sc_law_from (fun vs H Q E h => ?_) (fun cdv A outer s H vs Q E hr h => ?_)
  · obtain ⟨a, b, r, n, one, rfl, _⟩ := h
    rfl
  · obtain ⟨a, b, r, n, one, rfl, hw, hb, hn, hone, hfin, hlen, q⟩ := h
-- _law_from: slots 0 _law_web 1 _law_opened 2 _law_found 3 _law_rows 4 _law_more 5 _law_here 6 _law_door 7 _law_there
    refine ⟨_, (pss_cons (ps_par (i := 2) (j := 3) (by rfl) sc_law_from.nd rfl rfl (by decide) rfl rfl (pa_cons (pe_dispT (hu_of hr) (pv 1) pe_int) (pa_cons (pe_lst (pa_cons (pv 1) pa_nil)) pa_nil)) (by rfl))
      (pss_cons (ps_while PassesOwn.never (pt_cmpR (op_neNil hr.units) (pv 3) (pe_lst pa_nil) (nomark _)) 
        (pss_cons (ps_set (i := 4) sc_law_from.nd rfl (.inl rfl) (pe_lst pa_nil))
        (pss_cons (ps_for PassesOwn.never rfl (pi_list (pv 3)) (pg_name (i := 5) sc_law_from.nd rfl (.inl rfl)) 
          (pss_one (ps_for PassesOwn.never rfl (pi_list (pe_callC c__law_after (hr.mono (by decide)) (by rfl) (pa_cons (pv 0) (pa_cons (pv 5) pa_nil)))) (pg_tup rfl (pgs_cons (pg_name (i := 6) sc_law_from.nd rfl (.inl rfl)) (pgs_cons (pg_name (i := 7) sc_law_from.nd rfl (.inl rfl)) pgs_nil))) 
            (pss_one (ps_if (pt_cmp (pc_dnotin (hu_of hr) (pv 7) (pv 2))) 
              (pss_cons (ps_dput (hu_of hr) (pv 2) (pv 7) (pe_op op_add (pe_dget (hu_of hr) (pv 2) (pv 5) (fun _ _ => rfl)) pe_int) rfl)
              (pss_one (ps_expr (pe_bm PySem.F.plainAttrs_list PySem.F.slot_list_append PySem.F.type_list_append mt_append (pv 4) (pa_cons (pv 7) pa_nil))))) pss_nil)))))
        (pss_one (ps_set (i := 3) sc_law_from.nd rfl (.inl rfl) (pv 4))))))
      (pss_one (ps_ret (pv 2))))), ?_⟩
    refine fun d nd => ⟨.ref b, rfl, upd_same, b, kN one, rfl, Tp.key ((same_upd nd) _ _ hb), .ref b, rfl, by show 1 ≤ sizeLine; decide, fun l nl => ⟨_, _, rfl, ?_⟩⟩
    rw [upd_upd] at nl ⊢
    have s1 : Same H (upd H d (.dT [(kN one, .int 0)])) := same_upd nd
    have s2 : Same (upd H d (.dT [(kN one, .int 0)])) (upd (upd H d (.dT [(kN one, .int 0)])) l (.lst [.ref b])) := same_upd nl
    refine ⟨fun mm σ' H' => ∃ m, mm = 7 - m ∧ m ≤ 7 ∧ FromAt H a b d r n one m σ' H', ⟨7, 0, rfl, by omega, l, [.ref b], none, none, none, none, rfl, s1.trans s2, s2 _ _ upd_same, upd_same, .cons ⟨b, rfl, (s1.trans s2) _ _ hb⟩ .nil, fun t ht => ?_⟩, ?_⟩
    · have e : t = one := List.mem_singleton.mp ht
      subst e
      refine ⟨hone, ?_⟩
      show (KR.get [(t, 0)] t).isSome = true
      rw [get_pos rfl]
      rfl
    clear s1 s2 nl l
    rintro mm σ' H1 ⟨m, rfl, hm, lp, xs, y4, y5, y6, y7, rfl, sm, hd, hlp, hxs, hrows⟩
    refine ⟨.ref lp, rfl, Nat.zero_le _, fun z nz => ⟨_, z, dpl_Ts ((same_upd nz) _ _ hlp) (hxs.mono (.of (same_upd nz))), rfl, upd_same, _, rfl, ?_⟩⟩
    rw [isEmpty_map]
    by_cases hrn : (fromN r n one m).2 = []
    · rw [hrn]
      refine iteF ⟨.ref d, rfl, q _ d (sm.trans (same_upd nz)) ?_⟩
      have e := fromN_end hrn (7 - m)
      rw [show m + (7 - m) = 7 by omega] at e
      unfold known
      rw [e]
      exact (same_upd nz) _ _ hd
    · have hm7 : m < 7 := by
        rcases Nat.lt_or_ge m 7 with h | h
        · exact h
        · have : m = 7 := by omega
          rw [this] at hrn
          exact absurd hfin hrn
      have hne : (!(fromN r n one m).2.isEmpty) = true := by
        cases he : (fromN r n one m).2 with
        | nil => exact absurd he hrn
        | cons _ _ => rfl
      rw [hne]
      refine iteT ⟨FromAt H a b d r n one (m + 1), fun σ' H' h => ⟨7 - (m + 1), by omega, m + 1, rfl, by omega, h⟩, ?_⟩
      -- the level's rows
      have s3 : Same H1 (upd H1 z (.lst [])) := same_upd nz
      refine ⟨Nat.zero_le _, fun l2 nl2 => ?_⟩
      have s4 : Same H1 (upd (upd H1 z (.lst [])) l2 (.lst [])) := s3.trans (same_upd nl2)
      have hH2 : H l2 = none := (sm.trans s3).free nl2
      have hlp2 : lp ≠ l2 := ne_of_none (s3 _ _ hlp) nl2
      have hN1 : (fromN r n one (m + 1)).1.length ≤ 1000 := by
        have := fromN_len r n one (m + 1) (7 - (m + 1))
        rw [show m + 1 + (7 - (m + 1)) = 7 by omega] at this
        omega
      generalize hrw : (fromN r n one m).2 = rows at *
      generalize hfd : (fromN r n one m).1 = found at *
      have hnext : fromN r n one (m + 1) = rows.foldl (fromHere r n) (found, []) := by
        show fromLevel r n (fromN r n one m) = _
        unfold fromLevel
        rw [hrw, hfd]
      refine ⟨.ref lp, rfl, lp, rfl, ⟨_, Ls.sq (s4 _ _ hlp)⟩, for_it (walk_list (K := K) (a := lp) (xs := xs)) (fun i σ' H' => ∃ y5 y6 y7, σ' = [some (.ref a), some (.ref b), some (.ref d), some (.ref lp), some (.ref l2), y5, y6, y7] ∧ Same H H' ∧
          ∃ pr ys, pr = (rows.take i).foldl (fromHere r n) (found, []) ∧ H' d = some (.dT (pr.1.map emb)) ∧ H' lp = some (.lst xs) ∧ H' l2 = some (.lst ys) ∧ Sts H' ys pr.2 ∧ Sts H' xs rows ∧ Good n rows pr)
        ⟨y5, y6, y7, rfl, sm.trans s4, (found, []), [], rfl, s4 _ _ hd, s4 _ _ hlp, upd_same, .nil, hxs.mono (.of s4), hrows, (fun _ h => by cases h), Nat.zero_le _⟩
        (fun i σ' H' _ hP => ?_) (fun i x σ' H2 H2' hi hP y => ?_) (fun σ' H2 hP => ?_)⟩
      · obtain ⟨_, _, _, _, _, pr, ys, _, _, h, _⟩ := hP
        exact Ls.sq h
      · obtain ⟨y5, y6, y7, rfl, sm2, pr, ys, hpr, hd2, hlp2', hl2, hys, hxs2, hgood⟩ := hP
        obtain ⟨rfl, hx⟩ := y
        obtain ⟨hq, s, hsi, rfl, hs⟩ := hxs2.get hx
        have hsm : s ∈ rows := List.mem_of_getElem? hsi
        have hsA := (hgood.old s hsm).1
        have hslen := hsA.len
        refine ⟨.ref a, rfl, .ref hq, rfl, a, hq, r, n, s, rfl, hw.mono (.of sm2), hs, hn, by omega, fun H3 p zs np s5 hp hds => ⟨p, rfl, ⟨_, Ls.sq hp⟩, ?_⟩⟩
        have hpd : d ≠ p := ne_of_none hd2 np
        have hplp : lp ≠ p := ne_of_none hlp2' np
        have hpl2 : l2 ≠ p := ne_of_none hl2 np
        have hlen2 : ∀ j, (((after r n s).take j).foldl (fromDeed s) pr).1.length ≤ 1000 := fun j => by
          have h1 := fold_part (m := fun p : D × List (List Nat) => p.1.length) (fromDeed_len s) (after r n s) j pr
          have h2 : (fromHere r n pr s).1.length = ((rows.take (i + 1)).foldl (fromHere r n) (found, [])).1.length := by rw [fold_take _ _ hsi, ← hpr]
          have h3 := fold_part (m := fun p : D × List (List Nat) => p.1.length) (fromHere_len r n) rows (i + 1) (found, [])
          rw [← hnext] at h3
          have h4 : (fromHere r n pr s) = (after r n s).foldl (fromDeed s) pr := rfl
          rw [← h4] at h1
          omega
        refine for_it (walk_list (K := K) (a := p) (xs := zs)) (fun j σ' H' => ∃ y6 y7, σ' = [some (.ref a), some (.ref b), some (.ref d), some (.ref lp), some (.ref l2), some (.ref hq), y6, y7] ∧ Same H H' ∧
            ∃ pj vs, pj = ((after r n s).take j).foldl (fromDeed s) pr ∧ H' d = some (.dT (pj.1.map emb)) ∧ H' lp = some (.lst xs) ∧ H' l2 = some (.lst vs) ∧ Sts H' vs pj.2 ∧ Sts H' xs rows ∧ Good n rows pj ∧ H' p = some (.lst zs) ∧ Deeds H' s (doors r n s) zs ∧ Tp H' hq s)
          ⟨y6, y7, rfl, sm2.trans s5, pr, ys, rfl, s5 _ _ hd2, s5 _ _ hlp2', s5 _ _ hl2, hys.mono (.of s5), hxs2.mono (.of s5), hgood, hp, hds, s5 _ _ hs⟩
          (fun j σ' H' _ hP => ?_) (fun j x σ' H4 H4' hj hP y => ?_) (fun σ' H4 hP => ?_)
        · obtain ⟨_, _, _, _, pj, vs, _, _, _, _, _, _, _, h, _⟩ := hP
          exact Ls.sq h
        · obtain ⟨y6, y7, rfl, sm4, pj, vs, hpj, hd4, hlp4, hl4, hvs, hxs4, hg4, hp4, hds4, hs4⟩ := hP
          obtain ⟨rfl, hx⟩ := y
          obtain ⟨k, t0, t, hk, rfl, ht0, ht⟩ := hds4.get hx
          have hkn : k < n := doors_lt hsA (List.mem_of_getElem? hk)
          have htA : Asc n (changed s k) := changed_asc hsA hkn
          have haj : (after r n s)[j]? = some (changed s k) := by
            unfold after
            rw [List.getElem?_map, hk]
            rfl
          have hnx : ((after r n s).take (j + 1)).foldl (fromDeed s) pr = fromDeed s pj (changed s k) := by rw [fold_take _ _ haj, ← hpj]
          have hgj := hg4.deed s htA
          refine ⟨t0, _, rfl, Tp.sq ht0, rfl, _, [_], rfl, _, [], rfl, rfl, ?_⟩
          refine ⟨.ref t, rfl, .ref d, rfl, d, _, rfl, DGet.t hd4 (Tp.key ht), _, rfl, ?_⟩
          rw [get_emb]
          cases hget : KR.get pj.1 (changed s k) with
          | some g =>
            refine iteF ⟨_, _, rfl, sm4, pj, vs, ?_, hd4, hlp4, hl4, hvs, hxs4, hg4, hp4, hds4, hs4⟩
            rw [hnx, fromDeed, hget]
          | none =>
            have e0 : fromDeed s pj (changed s k) = (KR.put pj.1 (changed s k) ((KR.get pj.1 s).getD 0 + 1), pj.2 ++ [changed s k]) := by
              unfold fromDeed
              rw [hget]
            obtain ⟨g, hg⟩ := Option.isSome_iff_exists.mp (hg4.old s hsm).2
            have hl1 := hlen2 j
            rw [← hpj] at hl1
            have gs : valV (pj.1.map emb) (kN s) = some (nI g) := by
              rw [get_emb, hg]
              rfl
            have hput := put_emb pj.1 (changed s k) (g + 1)
            refine iteT ⟨.ref d, rfl, .ref hq, rfl, d, nI g, rfl, by rw [← gs]; exact DGet.t hd4 (Tp.key hs4), g, 1, rfl, rfl, .ref d, rfl, .ref t, rfl, d, _, rfl, DPut.t hd4 (Tp.key ht) (by rw [List.length_map]; exact small1000 hl1), ?_⟩
            have e1 : putK (pj.1.map emb) (kN (changed s k)) (.int ((g : Int) + 1)) = (KR.put pj.1 (changed s k) (g + 1)).map emb := hput
            have tk1 : Tups H4' (upd H4' d (.dT (putK (pj.1.map emb) (kN (changed s k)) (.int ((g : Int) + 1))))) := Tups.dT hd4
            have hl5 : (upd H4' d (.dT (putK (pj.1.map emb) (kN (changed s k)) (.int ((g : Int) + 1))))) l2 = some (.lst vs) := by rw [upd_ne (lst_dT hl4 hd4)]; exact hl4
            refine ⟨.ref l2, rfl, .inl ⟨rfl, _, Ls.sq hl5⟩, .ref t, rfl, l2, _, _, rfl, rfl, hl5, ?_, ?_⟩
            · have h1 := hg4.len
              have h2 := hvs.len
              exact small1000 (by omega)
            have tk2 := tk1.trans (Tups.lst' (o := .lst (vs ++ [.ref t])) hl5)
            rw [e1] at tk1 tk2 hl5 ⊢
            have hdl : d ≠ l2 := (lst_dT hl4 hd4).symm
            refine ⟨_, _, rfl, Same.atNew (Same.atNew sm4 nd) hH2, fromDeed s pj (changed s k), vs ++ [.ref t], hnx.symm, ?_, ?_, upd_same, ?_, hxs4.mono tk2, hgj, ?_, hds4.mono tk2, tk2 _ _ hs4⟩
            · rw [upd_ne hdl, upd_same, e0, hg]
              rfl
            · rw [upd_ne hlp2, upd_ne (lst_dT hlp4 hd4)]
              exact hlp4
            · rw [e0]
              exact (hvs.mono tk2).snoc (tk2 _ _ ht)
            · rw [upd_ne hpl2.symm, upd_ne hpd.symm]
              exact hp4
        · obtain ⟨y6, y7, rfl, sm4, pj, vs, hpj, hd4, hlp4, hl4, hvs, hxs4, hg4, hp4, hds4, hs4⟩ := hP
          refine ⟨_, _, _, rfl, sm4, pj, vs, ?_, hd4, hlp4, hl4, hvs, hxs4, hg4⟩
          rw [fold_take _ _ hsi, ← hpr, hpj]
          have hle : (after r n s).length ≤ zs.length := by
            unfold after
            rw [List.length_map, hds4.len]
            exact Nat.le_refl _
          rw [List.take_of_length_le hle]
          rfl
      · obtain ⟨y5, y6, y7, rfl, sm2, pr, ys, hpr, hd2, hlp2', hl2, hys, hxs2, hgood⟩ := hP
        have hle : rows.length ≤ xs.length := by
          rw [hxs2.len]
          exact Nat.le_refl _
        rw [List.take_of_length_le hle, ← hnext] at hpr
        subst hpr
        exact ⟨.ref l2, rfl, l2, ys, _, _, _, _, rfl, sm2, hd2, hl2, hys, hgood.new⟩
end
end KR
namespace KR
open PySem PySem.Spec PyProof.Rows L2
section
variable {P : Program} {w : World} {K : PySem.W.Frag} {mg : Str → Option Value} {base : Heap}
/-! ### the plain law's facts -/
theorem subs_mem : ∀ {l s : List Nat}, s.Sublist l → s ∈ subs l
  | [], s, h => by
    rw [List.sublist_nil.mp h]
    exact List.mem_singleton.mpr rfl
  | x :: r, s, h => by
    unfold subs
    cases h with
    | cons _ h => exact List.mem_append.mpr (.inl (subs_mem h))
    | cons_cons _ h => exact List.mem_append.mpr (.inr (List.mem_map.mpr ⟨_, subs_mem h, rfl⟩))
theorem subs_sub : ∀ {l s : List Nat}, s ∈ subs l → s.Sublist l
  | [], s, h => by
    rw [List.mem_singleton.mp h]
    exact List.Sublist.refl _
  | x :: r, s, h => by
    unfold subs at h
    rcases List.mem_append.mp h with q | q
    · exact List.Sublist.cons x (subs_sub q)
    · obtain ⟨t, ht, rfl⟩ := List.mem_map.mp q
      exact List.Sublist.cons_cons x (subs_sub ht)
theorem asc_of_stands {n : Nat} {s : List Nat} (h : s ∈ stands n) : Asc n s := by
  have hs := subs_sub h
  exact ⟨List.pairwise_lt_range.sublist hs, fun k hk => List.mem_range.mp (hs.subset hk)⟩
structure Facts (r : Bool) (n : Nat) (one : List Nat) : Prop where
  cold : KR.cold r n one = lfrozen r n one
  fin : (fromN r n one 7).2 = []
  len : (fromN r n one 7).1.length ≤ 1000
  fin2 : (cntN r n (known r n one) one 7).2 = []
  len2 : (cntN r n (known r n one) one 7).1.length ≤ 1000
  has : (KR.get (known r n one) one).isSome = true
  keys : ∀ p ∈ known r n one, Asc n p.1
  closed : ∀ s, (KR.get (known r n one) s).isSome = true → ∀ t ∈ after r n s, (KR.get (known r n one) t).isSome = true
  few : ∀ other, Asc n other → KR.few r n one other = KR.get (known r n one) other
  ways : ∀ other, Asc n other → KR.ways r n one other = (KR.get (counts r n one) other).getD 0
theorem get_mem {k : List Nat} : ∀ {d : D}, (KR.get d k).isSome = true → ∃ p ∈ d, p.1 = k
  | [], h => by cases h
  | p :: r, h => by
    by_cases e : p.1 = k
    · exact ⟨p, List.mem_cons_self, e⟩
    · rw [get_neg e] at h
      obtain ⟨q, hq, e2⟩ := get_mem h
      exact ⟨q, List.mem_cons_of_mem _ hq, e2⟩
theorem facts_of {r : Bool} {n : Nat} {one : List Nat} (h : check r n = true) (h1 : Asc n one) : Facts r n one := by
  have h2 := List.all_eq_true.mp h one (subs_mem h1.sub)
  unfold check1 at h2
  simp only [Bool.and_eq_true, decide_eq_true_eq, List.isEmpty_iff, List.all_eq_true] at h2
  obtain ⟨a1, ⟨⟨⟨⟨⟨a2, a3⟩, a4⟩, a5⟩, a6⟩, a7⟩, a8⟩ := h2
  refine ⟨a1, a2, a4, a3, a5, a6, fun p hp => asc_of_stands (a7 p hp).1, fun s hs t ht => ?_, fun other ho => (a8 other (subs_mem ho.sub)).1, fun other ho => (a8 other (subs_mem ho.sub)).2⟩
  obtain ⟨p, hp, rfl⟩ := get_mem hs
  exact (a7 p hp).2 t ht
/-! ### the counting: plain -/
theorem cntDeed_len (kn : D) (here : List Nat) (p : D × List (List Nat)) (t : List Nat) : p.1.length ≤ (cntDeed kn here p t).1.length := by
  unfold cntDeed
  split
  · exact put_len _ _ _
  · exact Nat.le_refl _
theorem cntHere_len (r : Bool) (n : Nat) (kn : D) (p : D × List (List Nat)) (here : List Nat) : p.1.length ≤ (cntHere r n kn p here).1.length :=
  fold_mono (m := fun p : D × List (List Nat) => p.1.length) (cntDeed_len kn here) _ _
theorem cntLevel_len (r : Bool) (n : Nat) (kn : D) (p : D × List (List Nat)) : p.1.length ≤ (cntLevel r n kn p).1.length :=
  fold_mono (m := fun p : D × List (List Nat) => p.1.length) (cntHere_len r n kn) _ (p.1, [])
theorem cntN_len (r : Bool) (n : Nat) (kn : D) (one : List Nat) (m : Nat) : ∀ j, (cntN r n kn one m).1.length ≤ (cntN r n kn one (m + j)).1.length
  | 0 => Nat.le_refl _
  | j + 1 => Nat.le_trans (cntN_len r n kn one m j) (cntLevel_len r n kn _)
theorem cntN_end {r : Bool} {n : Nat} {kn : D} {one : List Nat} {m : Nat} (h : (cntN r n kn one m).2 = []) : ∀ j, cntN r n kn one (m + j) = ((cntN r n kn one m).1, [])
  | 0 => by
    rw [← h]
    rfl
  | j + 1 => by
    show cntLevel r n kn (cntN r n kn one (m + j)) = _
    rw [cntN_end h j]
    rfl
structure GoodC (n : Nat) (kn : D) (rows : List (List Nat)) (p : D × List (List Nat)) : Prop where
  old : ∀ s ∈ rows, Asc n s ∧ (KR.get kn s).isSome = true ∧ (KR.get p.1 s).isSome = true
  new : ∀ s ∈ p.2, Asc n s ∧ (KR.get kn s).isSome = true ∧ (KR.get p.1 s).isSome = true
  len : p.2.length ≤ p.1.length
theorem GoodC.deed {n : Nat} {kn : D} {rows : List (List Nat)} {p : D × List (List Nat)} (g : GoodC n kn rows p) (here : List Nat) {t : List Nat} (ht : Asc n t) (hk : (KR.get kn t).isSome = true) : GoodC n kn rows (cntDeed kn here p t) := by
  unfold cntDeed
  by_cases e : KR.get kn t = some ((KR.get kn here).getD 0 + 1)
  · rw [if_pos e]
    have here' : ∀ s, (KR.get p.1 s).isSome = true → ∀ v, (KR.get (KR.put p.1 t v) s).isSome = true := fun s hs v => isSome_put hs
    refine ⟨fun s hs => ⟨(g.old s hs).1, (g.old s hs).2.1, here' s (g.old s hs).2.2 _⟩, fun s hs => ?_, ?_⟩
    · rcases List.mem_append.mp hs with q | q
      · exact ⟨(g.new s q).1, (g.new s q).2.1, here' s (g.new s q).2.2 _⟩
      · have e2 : s = t := by
          cases h : KR.get p.1 t with
          | some _ =>
            rw [h] at q
            cases q
          | none =>
            rw [h] at q
            exact List.mem_singleton.mp q
        subst e2
        refine ⟨ht, hk, ?_⟩
        show (KR.get (KR.put p.1 s _) s).isSome = true
        rw [get_put, if_pos rfl]
        rfl
    · have hl := g.len
      show (p.2 ++ _).length ≤ (KR.put p.1 t _).length
      cases h : KR.get p.1 t with
      | some _ =>
        rw [List.append_nil]
        exact Nat.le_trans hl (put_len _ _ _)
      | none =>
        rw [put_new h, List.length_append, List.length_append]
        exact Nat.add_le_add_right hl 1
  · rw [if_neg e]
    exact g
/-- the two ways of a made standing -/
theorem SameB.tups {K : PySem.W.Frag} {a : Addr} {H H' : Hp} (hr : RowAt K H a) (h : SameB a H H') : Tups H H' := fun b xs e => by
  obtain ⟨scr, ns, i, x, y, h1, _⟩ := hr
  exact h b _ (ne_of e h1 (by intro z; cases z)) e
theorem tif_join {r : Bool} {ta tb : TE} {σ : L2.St} {H : Hp} {Q : VK} (G : V → Hp → Prop) (ha : r = true → ∀ Q : VK, (∀ x H', G x H' → Q x H') → ta σ H Q) (hb : r = false → ∀ Q : VK, (∀ x H', G x H' → Q x H') → tb σ H Q) (q : ∀ x H', G x H' → Q x H') :
    if r = true then ta σ H Q else tb σ H Q := by
  cases r with
  | true => exact iteT (ha rfl Q q)
  | false => exact iteF (hb rfl Q q)
theorem prs_of {H : Hp} {W : Nat × Nat → Prop} : ∀ {ys : List V}, (∀ x ∈ ys, ∃ q e, x = .ref q ∧ PrAt H q e ∧ W e) → ∃ ps es, ys = ps.map V.ref ∧ Prs H ps es ∧ ∀ e ∈ es, W e
  | [], _ => ⟨[], [], rfl, .nil, fun _ h => by cases h⟩
  | x :: r, h => by
    obtain ⟨q, e, e1, h1, h2⟩ := h x List.mem_cons_self
    obtain ⟨ps, es, e2, h3, h4⟩ := prs_of fun y hy => h y (List.mem_cons_of_mem _ hy)
    refine ⟨q :: ps, e :: es, by rw [e1, e2]; rfl, .cons h1 h3, fun e' he' => ?_⟩
    rcases List.mem_cons.mp he' with rfl | q'
    · exact h2
    · exact h4 e' q'
theorem pr_inj {H : Hp} {q : Addr} {e e' : Nat × Nat} (h : PrAt H q e) (h' : PrAt H q e') : e = e' := by
  have z := h.symm.trans h'
  injection z with z
  injection z with z
  injection z with z1 z2
  injection z2 with z2 _
  obtain ⟨a, b⟩ := e
  obtain ⟨c, d⟩ := e'
  have e1 : a = c := nI_inj z1
  have e2 : b = d := nI_inj z2
  rw [e1, e2]
/-- the web is made: a list of the arrows' pairs, in any order -/
theorem web_of {H : Hp} {r : Bool} {n : Nat} {ys : List V} (h1 : ∀ x ∈ ys, ∃ q e, x = .ref q ∧ PrAt H q e ∧ e ∈ arrows r n) (h2 : ∀ e ∈ arrows r n, ∃ q, V.ref q ∈ ys ∧ PrAt H q e) :
    ∃ ps es, ys = ps.map V.ref ∧ Prs H ps es ∧ ∀ e, e ∈ es ↔ e ∈ arrows r n := by
  obtain ⟨ps, es, e1, h3, h4⟩ := prs_of h1
  refine ⟨ps, es, e1, h3, fun e => ⟨h4 e, fun he => ?_⟩⟩
  obtain ⟨q, hq, hp⟩ := h2 e he
  rw [e1] at hq
  obtain ⟨q', e', e2, hp', hm⟩ := prs_mem h3 hq
  injection e2 with e2
  subst e2
  rw [pr_inj hp hp']
  exact hm
end
end KR
namespace KR
open PySem PySem.Spec PyProof.Rows L2
section
variable {P : Program} {w : World} {K : PySem.W.Frag} {mg : Str → Option Value} {base : Heap}
/-! ### the law -/
theorem Cal.mono {j k : Nat} {x : Str} {sp : Sp} (c : Cal P w K mg base j x sp) (h : j ≤ k) : Cal P w K mg base k x sp := by
  obtain ⟨f, fd, ps, F, h1, h2, h3⟩ := c
  exact ⟨f, fd, ps, F.mono h, h1, h2, h3⟩
theorem paired_r {α β : Type} {F : α → β → Prop} : ∀ {xs : List α} {ys : List β}, Paired F xs ys → ∀ y ∈ ys, ∃ x ∈ xs, F x y
  | _, _, .nil, _, h => by cases h
  | _, _, .cons r t, y, h => by
    rcases List.mem_cons.mp h with rfl | h
    · exact ⟨_, List.mem_cons_self, r⟩
    · obtain ⟨x, hx, q⟩ := paired_r t y h
      exact ⟨x, List.mem_cons_of_mem _ hx, q⟩
theorem paired_l {α β : Type} {F : α → β → Prop} : ∀ {xs : List α} {ys : List β}, Paired F xs ys → ∀ x ∈ xs, ∃ y ∈ ys, F x y
  | _, _, .nil, _, h => by cases h
  | _, _, .cons r t, x, h => by
    rcases List.mem_cons.mp h with rfl | h
    · exact ⟨_, List.mem_cons_self, r⟩
    · obtain ⟨y, hy, q⟩ := paired_l t x h
      exact ⟨y, List.mem_cons_of_mem _ hy, q⟩
/-- the arrows' pairs, as they are made -/
def Made (H : Hp) (n : Nat) (ys : List V) : Prop := Paired (fun x y => ∃ k q, x = nI k ∧ y = .ref q ∧ PrAt H q (k, k + 1)) ((List.range (n - 1)).map nI) ys
def Last (H : Hp) (r : Bool) (n : Nat) (zs : List V) : Prop := (r = true ∧ ∃ z, zs = [.ref z] ∧ PrAt H z (n - 1, 0)) ∨ (r = false ∧ zs = [])
theorem Made.mono {H H' : Hp} {n : Nat} {ys : List V} (h : Made H n ys) (t : Tups H H') : Made H' n ys := L2.Paired.mapP h fun x y ⟨k, q, e1, e2, h1⟩ => ⟨k, q, e1, e2, t _ _ h1⟩
theorem Last.mono {H H' : Hp} {r : Bool} {n : Nat} {zs : List V} (h : Last H r n zs) (t : Tups H H') : Last H' r n zs := by
  rcases h with ⟨e, z, e2, h⟩ | h
  · exact .inl ⟨e, z, e2, t _ _ h⟩
  · exact .inr h
theorem Last.len {H : Hp} {r : Bool} {n : Nat} {zs : List V} (h : Last H r n zs) : zs.length ≤ 1 := by
  rcases h with ⟨_, z, rfl, _⟩ | ⟨_, rfl⟩
  · exact Nat.le_refl _
  · exact Nat.zero_le _
theorem Made.len {H : Hp} {n : Nat} {ys : List V} (h : Made H n ys) : ys.length = n - 1 := by
  have := Paired.length h
  rw [List.length_map, List.length_range] at this
  exact this.symm
theorem made_r {H : Hp} {r : Bool} {n : Nat} {ys zs : List V} (hy : Made H n ys) (hz : Last H r n zs) : ∀ x ∈ ys ++ zs, ∃ q e, x = .ref q ∧ PrAt H q e ∧ e ∈ arrows r n := by
  intro x hx
  rcases List.mem_append.mp hx with h | h
  · obtain ⟨v, hv, k, q, rfl, e, hp⟩ := paired_r hy x h
    obtain ⟨k', hk, ek⟩ := List.mem_map.mp hv
    rw [nI_inj ek] at hk
    exact ⟨q, _, e, hp, List.mem_append.mpr (.inl (List.mem_map.mpr ⟨k, hk, rfl⟩))⟩
  · rcases hz with ⟨e, z, rfl, hp⟩ | ⟨e, rfl⟩
    · rw [List.mem_singleton.mp h]
      refine ⟨z, _, rfl, hp, List.mem_append.mpr (.inr ?_)⟩
      rw [if_pos e]
      exact List.mem_singleton.mpr rfl
    · cases h
theorem made_l {H : Hp} {r : Bool} {n : Nat} {ys zs : List V} (hy : Made H n ys) (hz : Last H r n zs) : ∀ e ∈ arrows r n, ∃ q, V.ref q ∈ ys ++ zs ∧ PrAt H q e := by
  intro e he
  rcases List.mem_append.mp he with h | h
  · obtain ⟨k, hk, rfl⟩ := List.mem_map.mp h
    obtain ⟨y, hy', k', q, ek, rfl, hp⟩ := paired_l hy (nI k) (List.mem_map.mpr ⟨k, hk, rfl⟩)
    rw [← nI_inj ek] at hp
    exact ⟨q, List.mem_append.mpr (.inl hy'), hp⟩
  · rcases hz with ⟨er, z, rfl, hp⟩ | ⟨er, rfl⟩
    · rw [if_pos er] at h
      rw [List.mem_singleton.mp h]
      exact ⟨z, List.mem_append.mpr (.inr (List.mem_singleton.mpr rfl)), hp⟩
    · rw [er, if_neg Bool.false_ne_true] at h
      cases h
/-- the law's web, of the sorted pairs -/
theorem web_at {H : Hp} {r : Bool} {n : Nat} {ys zs l : List V} {a b : Addr} (hy : Made H n ys) (hz : Last H r n zs) (hl : l.Perm (ys ++ zs)) (hn : n ≤ 50) (hb : H b = some (.tup l)) (ha : H a = some (.tup [nI n, .ref b])) : WebAt H a r n := by
  obtain ⟨ps, es, e, h1, h2⟩ := web_of (r := r) (n := n) (fun x hx => made_r hy hz x (hl.mem_iff.mp hx)) fun e he => by
    obtain ⟨q, hq, hp⟩ := made_l hy hz e he
    exact ⟨q, hl.mem_iff.mpr hq, hp⟩
  refine ⟨b, ps, es, ha, by rw [← e]; exact hb, h1, h2, ?_⟩
  have := hl.length_eq
  rw [e, List.length_map, List.length_append, hy.len] at this
  have := hz.len
  omega
theorem facts_at (ev : ∀ (r : Bool) (n : Nat), (if r = true then 3 else 1) ≤ n → n ≤ 6 → check r n = true) {r : Bool} {n : Nat} {one : List Nat} (h1 : (if r = true then 3 else 1) ≤ n) (h2 : n ≤ 6) (h : Asc n one) : Facts r n one := facts_of (ev r n h1 h2) h
theorem lfrozen_len (r : Bool) (n : Nat) (s : List Nat) : (lfrozen r n s).length ≤ n := by
  refine filter_len _ _ ?_
  rw [List.length_range]
  exact Nat.le_refl _
theorem lo_pos {r : Bool} {n : Nat} (h : (if r = true then 3 else 1) ≤ n) : 1 ≤ n := by
  cases r with
  | true => exact Nat.le_trans (by decide) h
  | false => exact h
/-- the state between two levels of the counting -/
def CntAt (H : Hp) (scr a wb b fc ff fw d c : Addr) (r : Bool) (n : Nat) (one : List Nat) (m : Nat) (σ' : L2.St) (H' : Hp) : Prop := ∃ (lp : Addr) (xs : List V) (y12 y13 y14 y15 : Option V),
  σ' = [some (.ref scr), some (.ref a), some (.bl r), some (nI n), some (.ref wb), some (.ref b), some (.ref fc), some (.ref ff), some (.ref fw), some (.ref d), some (.ref c), some (.ref lp), y12, y13, y14, y15, none, none] ∧ Same H H' ∧
  H' c = some (.dT ((cntN r n (known r n one) one m).1.map emb)) ∧ H' lp = some (.lst xs) ∧ Sts H' xs (cntN r n (known r n one) one m).2 ∧
  ∀ s ∈ (cntN r n (known r n one) one m).2, Asc n s ∧ (KR.get (known r n one) s).isSome = true ∧ (KR.get (cntN r n (known r n one) one m).1 s).isSome = true
theorem DGet.e {H : Hp} {a b : Addr} {d : D} {k : List Nat} {o : Option Nat} (e : H a = some (.dT (d.map emb))) (eb : Tp H b k) (h : KR.get d k = o) : L2.DGet H a (.ref b) (o.map nI) := by
  rw [← h, ← get_emb]
  exact DGet.t e (Tp.key eb)
theorem stsNil {H : Hp} {xs : List V} {l : List (List Nat)} (h : Sts H xs l) : Sts H (xs ++ []) (l ++ []) := by
  rw [List.append_nil, List.append_nil]
  exact h
theorem getD_oV (g : Option Nat) : (g.map nI).getD .non = oV g := by cases g <;> rfl
theorem getD_nI (g : Option Nat) : (g.map nI).getD (.int 0) = nI (g.getD 0) := by cases g <;> rfl
def sp_law (K : PySem.W.Frag) : Sp := fun vs H Q _ => ∃ (a : Addr) (ns : List Int), vs = [.ref a] ∧ SqL K H a (ns.map V.int) ∧ ∀ H', Q (.bl true) H'
theorem ok_law (ev : ∀ (r : Bool) (n : Nat), (if r = true then 3 else 1) ≤ n → n ≤ 6 → check r n = true) {f : Addr} {fd : FuncData} (D : Df K mg "law" s_law ["_law_script"] f fd) (B : Blt mg)
    (c__law_taken : Cal P w K mg base 1 "_law_taken" (sp_taken K)) (c__law_row_standing : Cal P w K mg base 2 "_law_row_standing" (sp_row_standing K)) (c__law_row_near : Cal P w K mg base 2 "_law_row_near" (sp_row_near K))
    (c__law_pick : Cal P w K mg base 2 "_law_pick" (sp_pick K)) (c_alike0 : Cal P w K mg base 1 "_law_alike" sp_alike0) (c_alike1 : Cal P w K mg base 2 "_law_alike" sp_alike1)
    (c__law_frozen : Cal P w K mg base 1 "_law_frozen" sp_lfrozen) (c__law_after : Cal P w K mg base 2 "_law_after" sp_after) (c__law_from : Cal P w K mg base 3 "_law_from" sp_from)
    (c_row_frozen : Cal P w K mg base 4 "row_frozen" (sp_frozen false)) (c_ring_frozen : Cal P w K mg base 4 "ring_frozen" (sp_frozen true))
    (c_row_fewest : Cal P w K mg base 5 "row_fewest" (sp_fewest false)) (c_ring_fewest : Cal P w K mg base 5 "ring_fewest" (sp_fewest true))
    (c_row_ways : Cal P w K mg base 5 "row_ways" (sp_ways false)) (c_ring_ways : Cal P w K mg base 5 "ring_ways" (sp_ways true)) : FnOk P w K mg base CX0 6 f fd ["_law_script"] (sp_law K) := by
  obtain ⟨a_row_frozen, g_row_frozen⟩ := glob_of c_row_frozen
  obtain ⟨a_ring_frozen, g_ring_frozen⟩ := glob_of c_ring_frozen
  obtain ⟨a_row_fewest, g_row_fewest⟩ := glob_of c_row_fewest
  obtain ⟨a_ring_fewest, g_ring_fewest⟩ := glob_of c_ring_fewest
  obtain ⟨a_row_ways, g_row_ways⟩ := glob_of c_row_ways
  obtain ⟨a_ring_ways, g_ring_ways⟩ := glob_of c_ring_ways
  have H1f := held_of (c_row_frozen.mono (k := 5) (by decide)) g_row_frozen
  have H2f := held_of (c_ring_frozen.mono (k := 5) (by decide)) g_ring_frozen
  have H1w := held_of c_row_fewest g_row_fewest
  have H2w := held_of c_ring_fewest g_ring_fewest
  have H1y := held_of c_row_ways g_row_ways
  have H2y := held_of c_ring_ways g_ring_ways
  refine D.1.ok sc_law (fun vs H Q E h => ?_) (fun cdv A outer s H vs Q E hr h => ?_)
  · obtain ⟨a, ns, rfl, _⟩ := h
    rfl
  · obtain ⟨scr, ns, rfl, hscr, q⟩ := h
-- law: slots 0 _law_script 1 _law_row 2 _law_is_ring 3 _law_many 4 _law_web 5 _law_one 6 _law_cold 7 _law_few 8 _law_ways 9 _law_known 10 _law_counts 11 _law_rows 12 _law_more 13 _law_here 14 _law_door 15 _law_there 16 _law_other 17 _law_k
    refine ⟨_, (pss_cons (ps_set (i := 1) sc_law.nd rfl (.inl rfl) (pe_lst (pa_cons (pv 0) (pa_cons pe_int (pa_cons pe_int (pa_cons pe_int pa_nil))))))
      (pss_cons (ps_set (i := 2) sc_law.nd rfl (.inl rfl) (pe_cmpR op_eq (pe_callC c__law_taken (hr.mono (by decide)) (by rfl) (pa_cons (pv 1) (pa_cons pe_int pa_nil))) pe_int (nomark _)))
      (pss_cons (ps_set (i := 3) sc_law.nd rfl (.inl rfl) (pe_ifExp (pt_val (pv 2)) (pe_op op_add pe_int (pe_callC c__law_taken (hr.mono (by decide)) (by rfl) (pa_cons (pv 1) (pa_cons pe_int pa_nil)))) (pe_op op_add pe_int (pe_callC c__law_taken (hr.mono (by decide)) (by rfl) (pa_cons (pv 1) (pa_cons pe_int pa_nil))))))
      (pss_cons (ps_set (i := 4) sc_law.nd rfl (.inl rfl) (pe_tup (pa_cons (pv 3) (pa_cons (pe_callTy call_tuple_of (by rfl) B.m_tuple (by decide +kernel) (pa_cons (pe_callB cr_sortedP (by rfl) B.m_sorted (by decide +kernel) (pa_cons (pe_op op_cat (pe_lc (own := [("_law_k", 17)]) (g := gName 17) (tt := tYes) rfl sc_law.nd (pi_range1 (by rfl) B.m_range (pa_cons (pe_op op_sub (pv 3) pe_int) pa_nil)) (blkOk_by (own := [("_law_k", 17)]) (N := N_law) (sc := (defScope s_law)) (by decide +kernel)) (fun _ _ _ _ _ => pg_name (i := 17) sc_law.nd rfl (.inl rfl)) (fun _ _ _ _ _ => pts_nil) (fun _ _ _ _ _ => (pe_tup (pa_cons (pv 17) (pa_cons (pe_op op_add (pv 17) pe_int) pa_nil))))) (pe_ifExp (pt_val (pv 2)) (pe_lst (pa_cons (pe_tup (pa_cons (pe_op op_sub (pv 3) pe_int) (pa_cons pe_int pa_nil))) pa_nil)) (pe_lst pa_nil))) pa_nil)) pa_nil)) pa_nil))))
      (pss_cons (ps_set (i := 5) sc_law.nd rfl (.inl rfl) (pe_callC c__law_row_standing (hr.mono (by decide)) (by rfl) (pa_cons (pv 1) (pa_cons (pv 3) pa_nil))))
      (pss_cons (ps_asg (pe_ifExp (pt_val (pv 2)) (pe_tup (pa_cons (pe_glob (v := .ref a_ring_frozen) (by rfl) g_ring_frozen rfl) (pa_cons (pe_glob (v := .ref a_ring_fewest) (by rfl) g_ring_fewest rfl) (pa_cons (pe_glob (v := .ref a_ring_ways) (by rfl) g_ring_ways rfl) pa_nil)))) (pe_tup (pa_cons (pe_glob (v := .ref a_row_frozen) (by rfl) g_row_frozen rfl) (pa_cons (pe_glob (v := .ref a_row_fewest) (by rfl) g_row_fewest rfl) (pa_cons (pe_glob (v := .ref a_row_ways) (by rfl) g_row_ways rfl) pa_nil))))) (pg_tup rfl (pgs_cons (pg_name (i := 6) sc_law.nd rfl (.inl rfl)) (pgs_cons (pg_name (i := 7) sc_law.nd rfl (.inl rfl)) (pgs_cons (pg_name (i := 8) sc_law.nd rfl (.inl rfl)) pgs_nil)))))
      (pss_cons (ps_if (pt_not (pt_val (pe_callC c_alike1 (hr.mono (by decide)) (by rfl) (pa_cons (pe_callH (k := 5) (hr.mono (by decide)) (i := 6) rfl (.inl rfl) (pa_cons (pv 3) (pa_cons (pv 5) pa_nil))) (pa_cons (pe_callTy call_tuple_of (by rfl) B.m_tuple (by decide +kernel) (pa_cons (pe_callC c__law_frozen (hr.mono (by decide)) (by rfl) (pa_cons (pv 4) (pa_cons (pv 5) pa_nil))) pa_nil)) pa_nil))))) 
        (pss_one (ps_ret pe_bl)) pss_nil)
      (pss_cons (ps_par3 (i := 9) (j := 10) (l := 11) (by rfl) sc_law.nd rfl rfl rfl (by decide) (by decide) (by decide) rfl rfl rfl (pa_cons (pe_callC c__law_from (hr.mono (by decide)) (by rfl) (pa_cons (pv 4) (pa_cons (pv 5) pa_nil))) (pa_cons (pe_dispT (hu_of hr) (pv 5) pe_int) (pa_cons (pe_lst (pa_cons (pv 5) pa_nil)) pa_nil))) (by rfl))
      (pss_cons (ps_while PassesOwn.never (pt_cmpR (op_neNil hr.units) (pv 11) (pe_lst pa_nil) (nomark _)) 
        (pss_cons (ps_set (i := 12) sc_law.nd rfl (.inl rfl) (pe_lst pa_nil))
        (pss_cons (ps_for PassesOwn.never rfl (pi_list (pv 11)) (pg_name (i := 13) sc_law.nd rfl (.inl rfl)) 
          (pss_one (ps_for PassesOwn.never rfl (pi_list (pe_callC c__law_after (hr.mono (by decide)) (by rfl) (pa_cons (pv 4) (pa_cons (pv 13) pa_nil)))) (pg_tup rfl (pgs_cons (pg_name (i := 14) sc_law.nd rfl (.inl rfl)) (pgs_cons (pg_name (i := 15) sc_law.nd rfl (.inl rfl)) pgs_nil))) 
            (pss_one (ps_if (pt_cmpR op_eq (pe_dget (hu_of hr) (pv 9) (pv 15) (fun _ _ => rfl)) (pe_op op_add (pe_dget (hu_of hr) (pv 9) (pv 13) (fun _ _ => rfl)) pe_int) (nomark _)) 
              (pss_cons (ps_set (i := 12) sc_law.nd rfl (.inl rfl) (pe_op op_cat (pv 12) (pe_ifExp (pt_cmp (pc_dnotin (hu_of hr) (pv 15) (pv 10))) (pe_lst (pa_cons (pv 15) pa_nil)) (pe_lst pa_nil))))
              (pss_one (ps_dput (hu_of hr) (pv 10) (pv 15) (pe_op op_add (pe_dget2 (hu_of hr) (pv 10) (pv 15) pe_int ⟨rfl, rfl, rfl, rfl⟩) (pe_dget (hu_of hr) (pv 10) (pv 13) (fun _ _ => rfl))) rfl))) pss_nil)))))
        (pss_one (ps_set (i := 11) sc_law.nd rfl (.inl rfl) (pv 12))))))
      (pss_cons (ps_for PassesOwn.never rfl (pi_list (pe_lst (pa_cons (pe_callC c__law_row_standing (hr.mono (by decide)) (by rfl) (pa_cons (pv 1) (pa_cons (pv 3) pa_nil))) (pa_cons (pe_callC c__law_row_near (hr.mono (by decide)) (by rfl) (pa_cons (pv 1) (pa_cons (pv 3) (pa_cons (pv 2) (pa_cons (pv 5) pa_nil))))) (pa_cons (pe_callC c__law_pick (hr.mono (by decide)) (by rfl) (pa_cons (pv 1) (pa_cons (pe_callB (cr_sortedK rfl hr.units) (by rfl) B.m_sorted (by decide +kernel) (pa_cons (pe_bm0 PySem.F.plainAttrs_dict PySem.F.slot_dict_keys PySem.F.type_dict_keys mt_keysT (pv 9)) pa_nil)) pa_nil))) pa_nil))))) (pg_name (i := 16) sc_law.nd rfl (.inl rfl)) 
        (pss_cons (ps_if (pt_not (pt_val (pe_callC c_alike0 (hr.mono (by decide)) (by rfl) (pa_cons (pe_callH (k := 5) (hr.mono (by decide)) (i := 7) rfl (.inl rfl) (pa_cons (pv 3) (pa_cons (pv 5) (pa_cons (pv 16) pa_nil)))) (pa_cons (pe_dget2 (hu_of hr) (pv 9) (pv 16) pe_non ⟨rfl, rfl, rfl, rfl⟩) pa_nil))))) 
          (pss_one (ps_ret pe_bl)) pss_nil)
        (pss_one (ps_if (pt_not (pt_val (pe_callC c_alike0 (hr.mono (by decide)) (by rfl) (pa_cons (pe_callH (k := 5) (hr.mono (by decide)) (i := 8) rfl (.inl rfl) (pa_cons (pv 3) (pa_cons (pv 5) (pa_cons (pv 16) pa_nil)))) (pa_cons (pe_dget2 (hu_of hr) (pv 10) (pv 16) pe_int ⟨rfl, rfl, rfl, rfl⟩) pa_nil))))) 
          (pss_one (ps_ret pe_bl)) pss_nil))))
      (pss_one (ps_ret pe_bl)))))))))))), ?_⟩
    refine ⟨.ref scr, rfl, by show 4 ≤ sizeLine; decide, fun a na => ?_⟩
    have hrow0 : RowAt K (upd H a (.lst [.ref scr, .int 0, .int 9526, .int 0])) a := ⟨scr, ns, 0, 9526, 0, upd_same, (same_upd na).seq hscr, by decide⟩
    refine ⟨.ref a, rfl, a, 2, rfl, hrow0, by decide, by decide, fun H1 k1 hk1 sb1 hrow1 => ⟨rfl, ?_⟩⟩
    have sb1 := True.intro
    generalize hr0 : decide (nI k1 = .int 0) = r
    refine ⟨.bl r, rfl, r, rfl, tif_join (fun x H' => ∃ n : Nat, x = nI n ∧ (if r = true then 3 else 1) ≤ n ∧ n ≤ 6 ∧ RowAt K H' a) (fun e Q q => ?_) (fun e Q q => ?_) ?_⟩
    · refine ⟨.ref a, rfl, a, 4, rfl, hrow1, by decide, by decide, fun H2 k hk _ hrow2 => ⟨3, k, rfl, rfl, q _ H2 ⟨3 + k, rfl, ?_, by omega, hrow2⟩⟩⟩
      rw [if_pos e]
      omega
    · refine ⟨.ref a, rfl, a, 6, rfl, hrow1, by decide, by decide, fun H2 k hk _ hrow2 => ⟨1, k, rfl, rfl, q _ H2 ⟨1 + k, rfl, ?_, by omega, hrow2⟩⟩⟩
      rw [e, if_neg Bool.false_ne_true]
      omega
    rintro x H2 ⟨n, rfl, hn, hn6, hrow2⟩
    have hn1 := lo_pos hn
    clear sb1 hr0 hk1 hrow0 hrow1
    show tSeq _ _ _ _ H2
    refine ⟨nI n, rfl, nI n, rfl, n, 1, rfl, rfl, (n : Int) - 1, rfl, by have := int62 (show n ≤ 1000 by omega); omega, by have := int62 (show n ≤ 1000 by omega); omega, fun D nD => ?_⟩
    have en : ((n : Int) - 1) = ((n - 1 : Nat) : Int) := by omega
    rw [en]
    refine lc_gen (walk_rangeN (n := n - 1)) nD (fun _ _ => trivial) (fun _ => true) (fun x y H => ∃ k q, x = nI k ∧ y = .ref q ∧ PrAt H q (k, k + 1)) (fun x y H H' t ⟨k, q, e1, e2, h1⟩ => ⟨k, q, e1, e2, t _ _ h1⟩) (fun _ => rfl)
      (by rw [List.length_map, List.length_range]; omega) (fun x H5 Kt hx s5 h => h H5 (Same.refl H5)) (fun x H5 Ke hx _ s5 h => ?_) fun H5 ys s5 hD hp => ?_
    · obtain ⟨k, hk, rfl⟩ := List.mem_map.mp hx
      exact ⟨nI k, rfl, nI k, rfl, k, 1, rfl, rfl, by show 2 ≤ sizeLine; decide, fun q nq => h _ _ (same_upd nq) ⟨k, q, rfl, rfl, upd_same⟩⟩
    rw [filter_true] at hp
    have hm5 : Made H5 n ys := hp
    have hrow5 := hrow2.same s5
    refine ⟨.bl r, rfl, r, rfl, tif_join (fun x H' => ∃ z zs, x = .ref z ∧ Same H5 H' ∧ H' z = some (.lst zs) ∧ Last H' r n zs) (fun e Q q => ?_) (fun e Q q => ?_) ?_⟩
    · refine ⟨nI n, rfl, n, 1, rfl, rfl, by show 2 ≤ sizeLine; decide, fun t nt => ⟨by show 1 ≤ sizeLine; decide, fun z nz => ?_⟩⟩
      have s6 : Same (upd H5 t (.tup [.int ((n : Int) - 1), .int 0])) (upd (upd H5 t (.tup [.int ((n : Int) - 1), .int 0])) z (.lst [.ref t])) := same_upd nz
      refine q _ _ ⟨z, [.ref t], rfl, (same_upd nt).trans s6, upd_same, .inl ⟨e, t, rfl, ?_⟩⟩
      show _ = some (HO.tup [nI (n - 1), nI 0])
      rw [s6 _ _ upd_same, en]
      rfl
    · exact ⟨Nat.zero_le _, fun z nz => q _ _ ⟨z, [], rfl, same_upd nz, upd_same, .inr ⟨e, rfl⟩⟩⟩
    rintro x H6 ⟨z, zs, rfl, s6, hz, hl6⟩
    have hy6 := hm5.mono (.of s6)
    have hlen : (ys ++ zs).length ≤ 50 := by
      have h1 := hy6.len
      have h2 := hl6.len
      rw [List.length_append]
      omega
    refine ⟨D, z, ys, zs, rfl, rfl, s6 _ _ hD, hz, by rw [← List.length_append]; exact Nat.le_of_lt (small1000 (by omega)), fun p7 np7 => ?_⟩
    have s7 := same_upd (o := .lst (ys ++ zs)) np7
    have hy7 := hy6.mono (.of s7)
    have hl7 := hl6.mono (.of s7)
    refine ⟨p7, _, rfl, Ls.sq upd_same, fun x hx => ?_, fun l p8 hl np8 => ?_⟩
    · obtain ⟨t, e, e1, e2, _⟩ := made_r hy7 hl7 x hx
      exact ⟨t, _, _, e1, e2⟩
    have s8 := same_upd (o := .lst l) np8
    refine ⟨p8, l, rfl, .inl ⟨Ls.sq upd_same, fun p9 np9 => ⟨by show 2 ≤ sizeLine; decide, fun wb nwb => ?_⟩⟩⟩
    have s9 := same_upd (o := .tup l) np9
    have s10 := same_upd (o := .tup [nI n, .ref p9]) nwb
    have sw := ((s7.trans s8).trans s9).trans s10
    have hweb : WebAt _ wb r n := web_at (hy6.mono (.of sw)) (hl6.mono (.of sw)) hl (by omega) (s10 _ _ upd_same) upd_same
    have hrow10 := (hrow5.same s6).same sw
    clear s5 hD hp hm5 hrow5 hz hl6 hy6 hlen hy7 hl7
    show tSeq _ _ _ _ (upd _ wb _)
    generalize upd _ wb (HO.tup [nI n, V.ref p9]) = H10 at hweb hrow10 ⊢
    refine ⟨.ref a, rfl, nI n, rfl, a, n, rfl, hrow10, hn1, by omega, fun H11 b one hone sb11 hrow11 hb => ?_⟩
    replace hweb := hweb.mono (sb11.tups hrow10)
    show tSeq _ _ _ _ H11
    refine ⟨.bl r, rfl, r, rfl, tif_join (fun x H' => ∃ t fc ff fw, x = .ref t ∧ Same H11 H' ∧ H' t = some (.tup [.ref fc, .ref ff, .ref fw]) ∧ Held P w K mg base 5 fc (sp_frozen r) ∧ Held P w K mg base 5 ff (sp_fewest r) ∧ Held P w K mg base 5 fw (sp_ways r)) (fun e Q q => ?_) (fun e Q q => ?_) ?_⟩
    · rw [e] at q
      exact ⟨by show 3 ≤ sizeLine; decide, fun t nt => q _ _ ⟨t, _, _, _, rfl, same_upd nt, upd_same, H2f, H2w, H2y⟩⟩
    · rw [e] at q
      exact ⟨by show 3 ≤ sizeLine; decide, fun t nt => q _ _ ⟨t, _, _, _, rfl, same_upd nt, upd_same, H1f, H1w, H1y⟩⟩
    rintro x H12 ⟨t, fc, ff, fw, rfl, s12, ht, hfc, hff, hfw⟩
    refine ⟨t, _, rfl, Tp.sq ht, rfl, _, [_, _], rfl, _, [_], rfl, _, [], rfl, rfl, ?_⟩
    replace hweb := hweb.mono (.of s12)
    replace hrow11 := hrow11.same s12
    replace hb := s12 _ _ hb
    clear ht s12 sb11 hrow10 hrow2 H1f H2f H1w H2w H1y H2y
    have F := facts_at ev hn hn6 hone
    have hol := hone.len
    have hlo := lfrozen_len r n one
    show tSeq _ _ _ _ H12
    refine ⟨fc, _, rfl, hfc, nI n, rfl, .ref b, rfl, n, b, one, rfl, hb, hn, by omega, hone, fun H13 p13 s13 hp13 => ?_⟩
    refine ⟨.ref wb, rfl, .ref b, rfl, wb, b, r, n, one, rfl, hweb.mono (.of s13), s13 _ _ hb, by omega, fun H14 p14 s14 hp14 => ?_⟩
    refine ⟨p14, _, rfl, .inl ⟨Ls.sq hp14, fun p15 np15 => ?_⟩⟩
    have s15 := same_upd (o := .tup ((lfrozen r n one).map nI)) np15
    refine ⟨p13, p15, _, _, rfl, s15 _ _ (s14 _ _ hp13), upd_same, by rw [F.cold]; omega, by omega, fun H16 s16 => ⟨_, rfl, ?_⟩⟩
    rw [decide_eq_true F.cold]
    refine iteF ?_
    have sm := ((s13.trans s14).trans s15).trans s16
    replace hweb := hweb.mono (.of sm)
    replace hrow11 := hrow11.same sm
    replace hb := sm _ _ hb
    clear hp13 hp14 s13 s14 s15 s16 sm
    show tSeq _ _ _ _ H16
    refine ⟨.ref wb, rfl, .ref b, rfl, wb, b, r, n, one, rfl, hweb, hb, by omega, hone, F.fin, F.len, fun H d s17 hd => ?_⟩
    replace hweb := hweb.mono (.of s17)
    replace hrow11 := hrow11.same s17
    replace hb := s17 _ _ hb
    clear s17
    refine fun c nc => ⟨.ref b, rfl, upd_same, b, kN one, rfl, Tp.key ((same_upd nc) _ _ hb), .ref b, rfl, by show 1 ≤ sizeLine; decide, fun l nl => ⟨_, _, _, rfl, ?_⟩⟩
    rw [upd_upd] at nl ⊢
    have s1 : Same H (upd H c (.dT [(kN one, .int 1)])) := same_upd nc
    have s2 : Same (upd H c (.dT [(kN one, .int 1)])) (upd (upd H c (.dT [(kN one, .int 1)])) l (.lst [.ref b])) := same_upd nl
    refine ⟨fun mm σ' H' => ∃ m, mm = 7 - m ∧ m ≤ 7 ∧ CntAt H scr a wb b fc ff fw d c r n one m σ' H', ⟨7, 0, rfl, by omega, l, [.ref b], none, none, none, none, rfl, s1.trans s2, s2 _ _ upd_same, upd_same, .cons ⟨b, rfl, (s1.trans s2) _ _ hb⟩ .nil, fun t ht => ?_⟩, ?_⟩
    · have e : t = one := List.mem_singleton.mp ht
      subst e
      refine ⟨hone, F.has, ?_⟩
      show (KR.get [(t, 1)] t).isSome = true
      rw [get_pos rfl]
      rfl
    clear s1 s2 nl l
    rintro mm σ' H1 ⟨m, rfl, hm, lp, xs, y12, y13, y14, y15, rfl, sm, hc, hlp, hxs, hrows⟩
    refine ⟨.ref lp, rfl, Nat.zero_le _, fun z nz => ⟨_, z, dpl_Ts ((same_upd nz) _ _ hlp) (hxs.mono (.of (same_upd nz))), rfl, upd_same, _, rfl, ?_⟩⟩
    rw [isEmpty_map]
    by_cases hrn : (cntN r n (known r n one) one m).2 = []
    · rw [hrn]
      refine iteF ?_
      have hc1 : upd H1 z (.lst []) c = some (.dT ((counts r n one).map emb)) := by
        have e := cntN_end hrn (7 - m)
        rw [show m + (7 - m) = 7 by omega] at e
        unfold counts
        rw [e]
        exact (same_upd nz) _ _ hc
      have sm1 := sm.trans (same_upd (o := .lst []) nz)
      replace hd := sm1 _ _ hd
      replace hb := sm1 _ _ hb
      replace hrow11 := hrow11.same sm1
      clear hweb hc hlp hxs hrows sm hrn nc sm1
      show tSeq _ _ _ _ (upd H1 z _)
      generalize upd H1 z (.lst []) = H2 at hd hb hrow11 hc1 ⊢
      have dne : ∀ {H : Hp} {d : Addr} {kvs : List (List L2.Key × V)}, RowAt K H a → H d = some (.dT kvs) → d ≠ a := fun h h2 => by
        obtain ⟨_, _, _, _, _, h1, _⟩ := h
        exact ne_of h2 h1 (by intro z; cases z)
      refine ⟨.ref a, rfl, nI n, rfl, a, n, rfl, hrow11, hn1, by omega, fun Ha pa sa hsa sba hrowa hpa => ?_⟩
      have hba : Tp Ha b one := sba.tups hrow11 _ _ hb
      have hda := sba d _ (dne hrow11 hd) hd
      have hca := sba c _ (dne hrow11 hc1) hc1
      clear hd hb hrow11 hc1 sba
      refine ⟨.ref a, rfl, nI n, rfl, .bl r, rfl, .ref b, rfl, a, n, r, b, one, rfl, hrowa, hba, hn1, by omega, hone, fun Hb pb sb hsb sbb hrowb hpb => ?_⟩
      have tb := sbb.tups hrowa
      have hbb : Tp Hb b one := tb _ _ hba
      have hpab : Tp Hb pa sa := tb _ _ hpa
      have hdb := sbb d _ (dne hrowa hda) hda
      have hcb := sbb c _ (dne hrowa hca) hca
      clear hda hba hrowa hca hpa sbb tb
      have hml : ((known r n one).map fun e => (e.1, nI e.2)).map (fun e : List Nat × V => (kN e.1, e.2)) = (known r n one).map emb := by
        rw [List.map_map]
        rfl
      refine ⟨.ref a, rfl, .ref d, rfl, .inr (.inr (.inl ⟨rfl, .inr ⟨_, hdb⟩⟩)), d, _, rfl, rfl, hdb, fun v nv => ?_⟩
      have s1 := same_upd (o := keysO v d) nv
      refine ⟨v, d, (known r n one).map fun e => (e.1, nI e.2), rfl, upd_same, by rw [hml]; exact s1 _ _ hdb, fun q0 xs nq hxl hxs => ?_⟩
      have s2 := s1.trans (same_upd (o := .lst xs) nq)
      have hrow2 := hrowb.same s2
      rw [List.length_map] at hxl
      have hk1 : 1 ≤ (known r n one).length := by
        obtain ⟨p, hp, _⟩ := get_mem F.has
        exact List.length_pos_of_mem hp
      have hk2 : (known r n one).length ≤ 1000 := F.len
      have hq0 : q0 ≠ a := fun z => by
        obtain ⟨_, _, _, _, _, h1, _⟩ := hrowb.same s1
        rw [z] at nq
        rw [nq] at h1
        cases h1
      refine ⟨a, q0, xs, rfl, hrow2, upd_same, hq0, by omega, by omega, fun Hc x hx sbc hrowc => ?_⟩
      have tc := sbc.tups hrow2
      obtain ⟨px, e, he, rfl, hpx⟩ := hxs x hx
      obtain ⟨⟨sx, gx⟩, hsx, rfl⟩ := List.mem_map.mp he
      have hsx2 : Asc n sx := F.keys _ hsx
      have hpxc : Tp Hc px sx := tc _ _ ((same_upd nq) _ _ hpx)
      have hpac : Tp Hc pa sa := tc _ _ (s2 _ _ hpab)
      have hpbc : Tp Hc pb sb := tc _ _ (s2 _ _ hpb)
      have hbc : Tp Hc b one := tc _ _ (s2 _ _ hbb)
      have hdc := sbc d _ (dne hrow2 (s2 _ _ hdb)) (s2 _ _ hdb)
      have hcc := sbc c _ (dne hrow2 (s2 _ _ hcb)) (s2 _ _ hcb)
      have hall : ∀ x ∈ [V.ref pa, V.ref pb, V.ref px], ∃ t s, x = .ref t ∧ Tp Hc t s ∧ Asc n s := by
        intro x hx
        rcases List.mem_cons.mp hx with rfl | hx
        · exact ⟨pa, sa, rfl, hpac, hsa⟩
        rcases List.mem_cons.mp hx with rfl | hx
        · exact ⟨pb, sb, rfl, hpbc, hsb⟩
        rw [List.mem_singleton.mp hx]
        exact ⟨px, sx, rfl, hpxc, hsx2⟩
      clear hdb hcb hpab hpb hbb hrow2 hrowb hrowc sbc tc s1 s2 hxs hpx nv nq hq0 hx he
      refine ⟨by show 3 ≤ sizeLine; decide, fun L nL => ⟨L, rfl, ⟨_, Ls.sq upd_same⟩, ?_⟩⟩
      have sL := same_upd (o := .lst [V.ref pa, V.ref pb, V.ref px]) nL
      refine for_it (walk_list (K := K) (a := L) (xs := [V.ref pa, V.ref pb, V.ref px])) (fun i σ' H' => ∃ y16, σ' = [some (.ref scr), some (.ref a), some (.bl r), some (nI n), some (.ref wb), some (.ref b), some (.ref fc), some (.ref ff), some (.ref fw), some (.ref d), some (.ref c), some (.ref lp), y12, y13, y14, y15, y16, none] ∧ Same Hc H' ∧ H' L = some (.lst [V.ref pa, V.ref pb, V.ref px]))
        ⟨none, rfl, sL, upd_same⟩ (fun i σ' H' _ hP => ?_) (fun i x σ' H5 H5' hi hP y => ?_) (fun σ' H5 hP => q _)
      · obtain ⟨_, _, _, h⟩ := hP
        exact Ls.sq h
      · obtain ⟨y16, rfl, s5, hL5⟩ := hP
        obtain ⟨rfl, hx⟩ := y
        obtain ⟨t, s, rfl, ht, hs⟩ := hall x (List.mem_of_getElem? hx)
        refine ⟨ff, _, rfl, hff, nI n, rfl, .ref b, rfl, .ref t, rfl, n, b, t, one, s, rfl, s5 _ _ hbc, s5 _ _ ht, hn, by omega, hone, hs, fun H6 s6 => ?_⟩
        have s56 := s5.trans s6
        refine ⟨.ref d, rfl, d, rfl, .inr ⟨_, .inl (s56 _ _ hdc)⟩, .ref t, rfl, _, DGet.e (s56 _ _ hdc) (s56 _ _ ht) rfl, KR.few r n one s, KR.get (known r n one) s, congrArg (fun z => [oV (KR.few r n one s), z]) (getD_oV _), fun H7 s7 => ⟨_, rfl, ?_⟩⟩
        rw [decide_eq_true (F.few s hs)]
        refine iteF ?_
        have s57 := s56.trans s7
        refine ⟨fw, _, rfl, hfw, nI n, rfl, .ref b, rfl, .ref t, rfl, n, b, t, one, s, rfl, s57 _ _ hbc, s57 _ _ ht, hn, by omega, hone, hs, fun H8 s8 => ?_⟩
        have s58 := s57.trans s8
        refine ⟨.ref c, rfl, c, rfl, .inr ⟨_, .inl (s58 _ _ hcc)⟩, .ref t, rfl, _, DGet.e (s58 _ _ hcc) (s58 _ _ ht) rfl, some (KR.ways r n one s), some ((KR.get (counts r n one) s).getD 0), congrArg (fun z => [nI (KR.ways r n one s), z]) (getD_nI _), fun H9 s9 => ⟨_, rfl, ?_⟩⟩
        rw [decide_eq_true (congrArg some (F.ways s hs))]
        exact iteF ⟨_, rfl, s58.trans s9, s9 _ _ (s8 _ _ (s7 _ _ (s6 _ _ hL5)))⟩
    · have hm7 : m < 7 := by
        rcases Nat.lt_or_ge m 7 with h | h
        · exact h
        · have : m = 7 := by omega
          rw [this] at hrn
          exact absurd F.fin2 hrn
      have hne : (!(cntN r n (known r n one) one m).2.isEmpty) = true := by
        cases he : (cntN r n (known r n one) one m).2 with
        | nil => exact absurd he hrn
        | cons _ _ => rfl
      rw [hne]
      refine iteT ⟨CntAt H scr a wb b fc ff fw d c r n one (m + 1), fun σ' H' h => ⟨7 - (m + 1), by omega, m + 1, rfl, by omega, h⟩, ?_⟩
      have s3 : Same H1 (upd H1 z (.lst [])) := same_upd nz
      refine ⟨Nat.zero_le _, fun l2 nl2 => ?_⟩
      have s4 : Same H1 (upd (upd H1 z (.lst [])) l2 (.lst [])) := s3.trans (same_upd nl2)
      have hN1 : (cntN r n (known r n one) one (m + 1)).1.length ≤ 1000 := by
        have := cntN_len r n (known r n one) one (m + 1) (7 - (m + 1))
        rw [show m + 1 + (7 - (m + 1)) = 7 by omega] at this
        exact Nat.le_trans this F.len2
      have hclosed := F.closed
      clear hne hrn hrow11 F
      unfold CntAt
      generalize known r n one = kn at *
      have hnext : cntN r n kn one (m + 1) = cntLevel r n kn (cntN r n kn one m) := rfl
      rw [hnext] at hN1 ⊢
      clear hnext
      generalize cntN r n kn one m = p0 at *
      obtain ⟨cnt, rows⟩ := p0
      replace hc : H1 c = some (.dT (cnt.map emb)) := hc
      replace hxs : Sts H1 xs rows := hxs
      replace hrows : ∀ s ∈ rows, Asc n s ∧ (KR.get kn s).isSome = true ∧ (KR.get cnt s).isSome = true := hrows
      refine ⟨.ref lp, rfl, lp, rfl, ⟨_, Ls.sq (s4 _ _ hlp)⟩, for_it (walk_list (K := K) (a := lp) (xs := xs)) (fun i σ' H' => ∃ l2 ys y13 y14 y15, σ' = [some (.ref scr), some (.ref a), some (.bl r), some (nI n), some (.ref wb), some (.ref b), some (.ref fc), some (.ref ff), some (.ref fw), some (.ref d), some (.ref c), some (.ref lp), some (.ref l2), y13, y14, y15, none, none] ∧ Same H H' ∧
          ∃ pr, pr = (rows.take i).foldl (cntHere r n kn) (cnt, []) ∧ H' c = some (.dT (pr.1.map emb)) ∧ H' lp = some (.lst xs) ∧ H' l2 = some (.lst ys) ∧ Sts H' ys pr.2 ∧ Sts H' xs rows ∧ GoodC n kn rows pr)
        ⟨l2, [], y13, y14, y15, rfl, sm.trans s4, (cnt, []), rfl, s4 _ _ hc, s4 _ _ hlp, upd_same, .nil, hxs.mono (.of s4), hrows, (fun _ h => by cases h), Nat.zero_le _⟩
        (fun i σ' H' _ hP => ?_) (fun i x σ' H2 H2' hi hP y => ?_) (fun σ' H2 hP => ?_)⟩
      · obtain ⟨_, _, _, _, _, _, _, pr, _, _, h, _⟩ := hP
        exact Ls.sq h
      · obtain ⟨l3, ys, y13, y14, y15, rfl, sm2, pr, hpr, hc2, hlp2, hl2, hys, hxs2, hgood⟩ := hP
        obtain ⟨rfl, hx⟩ := y
        obtain ⟨hq, s, hsi, rfl, hs⟩ := hxs2.get hx
        have hsm : s ∈ rows := List.mem_of_getElem? hsi
        have hsA := (hgood.old s hsm).1
        have hslen := hsA.len
        refine ⟨.ref wb, rfl, .ref hq, rfl, wb, hq, r, n, s, rfl, hweb.mono (.of sm2), hs, by omega, by omega, fun H3 p zs np s5 hp hds => ⟨p, rfl, ⟨_, Ls.sq hp⟩, ?_⟩⟩
        have hpc : c ≠ p := ne_of_none hc2 np
        have hplp : lp ≠ p := ne_of_none hlp2 np
        have hlen2 : ∀ j, (((after r n s).take j).foldl (cntDeed kn s) pr).1.length ≤ 1000 := fun j => by
          have h1 := fold_part (m := fun p : KR.D × List (List Nat) => p.1.length) (cntDeed_len kn s) (after r n s) j pr
          have h2 : (cntHere r n kn pr s).1.length = ((rows.take (i + 1)).foldl (cntHere r n kn) (cnt, [])).1.length := by rw [fold_take _ _ hsi, ← hpr]
          have h3 := fold_part (m := fun p : KR.D × List (List Nat) => p.1.length) (cntHere_len r n kn) rows (i + 1) (cnt, [])
          have h4 : (cntHere r n kn pr s) = (after r n s).foldl (cntDeed kn s) pr := rfl
          have h5 : (cntLevel r n kn (cnt, rows)) = rows.foldl (cntHere r n kn) (cnt, []) := rfl
          rw [h5] at hN1
          rw [← h4] at h1
          omega
        refine for_it (walk_list (K := K) (a := p) (xs := zs)) (fun j σ' H' => ∃ l2 vs y14 y15, σ' = [some (.ref scr), some (.ref a), some (.bl r), some (nI n), some (.ref wb), some (.ref b), some (.ref fc), some (.ref ff), some (.ref fw), some (.ref d), some (.ref c), some (.ref lp), some (.ref l2), some (.ref hq), y14, y15, none, none] ∧ Same H H' ∧
            ∃ pj, pj = ((after r n s).take j).foldl (cntDeed kn s) pr ∧ H' c = some (.dT (pj.1.map emb)) ∧ H' lp = some (.lst xs) ∧ H' l2 = some (.lst vs) ∧ Sts H' vs pj.2 ∧ Sts H' xs rows ∧ GoodC n kn rows pj ∧ H' p = some (.lst zs) ∧ Deeds H' s (doors r n s) zs ∧ Tp H' hq s)
          ⟨l3, ys, y14, y15, rfl, sm2.trans s5, pr, rfl, s5 _ _ hc2, s5 _ _ hlp2, s5 _ _ hl2, hys.mono (.of s5), hxs2.mono (.of s5), hgood, hp, hds, s5 _ _ hs⟩
          (fun j σ' H' _ hP => ?_) (fun j x σ' H4 H4' hj hP y => ?_) (fun σ' H4 hP => ?_)
        · obtain ⟨_, _, _, _, _, _, pj, _, _, _, _, _, _, _, h, _⟩ := hP
          exact Ls.sq h
        · obtain ⟨l4, vs, y14, y15, rfl, sm4, pj, hpj, hc4, hlp4, hl4, hvs, hxs4, hg4, hp4, hds4, hs4⟩ := hP
          obtain ⟨rfl, hx⟩ := y
          obtain ⟨k, t0, t, hk, rfl, ht0, ht⟩ := hds4.get hx
          have hkn : k < n := doors_lt hsA (List.mem_of_getElem? hk)
          have htA : Asc n (changed s k) := changed_asc hsA hkn
          have haj : (after r n s)[j]? = some (changed s k) := by
            unfold after
            rw [List.getElem?_map, hk]
            rfl
          have hnx : ((after r n s).take (j + 1)).foldl (cntDeed kn s) pr = cntDeed kn s pj (changed s k) := by rw [fold_take _ _ haj, ← hpj]
          have hk2 := hclosed s (hg4.old s hsm).2.1 _ (List.mem_of_getElem? haj)
          have hgj := hg4.deed s htA hk2
          have hl1 := hlen2 j
          rw [← hpj] at hl1
          have hd4 := sm4 _ _ hd
          obtain ⟨g1, hg1⟩ := Option.isSome_iff_exists.mp hk2
          obtain ⟨g2, hg2⟩ := Option.isSome_iff_exists.mp (hg4.old s hsm).2.1
          obtain ⟨g3, hg3⟩ := Option.isSome_iff_exists.mp (hg4.old s hsm).2.2
          clear hlen2 hclosed
          generalize changed s k = u at *
          refine ⟨t0, _, rfl, Tp.sq ht0, rfl, _, [_], rfl, _, [], rfl, rfl, ?_⟩
          refine ⟨.ref d, rfl, .ref t, rfl, d, nI g1, rfl, (DGet.e hd4 ht hg1 : DGet _ _ _ (some (nI g1))), .ref d, rfl, .ref hq, rfl, d, nI g2, rfl, (DGet.e hd4 hs4 hg2 : DGet _ _ _ (some (nI g2))), g2, 1, rfl, rfl, rfl, _, rfl, ite2 (fun e => ?_) (fun e => ?_)⟩
          · have e1 : g1 = g2 + 1 := nI_inj (of_decide_eq_true e)
            have ei : KR.get kn u = some ((KR.get kn s).getD 0 + 1) := by rw [hg1, hg2, e1]; rfl
            cases hgu : KR.get pj.1 u with
            | some v =>
              have e0 : cntDeed kn s pj u = (KR.put pj.1 u (v + g3), pj.2 ++ []) := by
                unfold cntDeed
                rw [if_pos ei, hgu, hg3]
                rfl
              refine ⟨.ref l4, rfl, .ref t, rfl, .ref c, rfl, c, _, rfl, DGet.e hc4 ht hgu, _, rfl, iteF ⟨Nat.zero_le _, fun z1 nz1 => ?_⟩⟩
              have t1 := same_upd (o := .lst []) nz1
              refine ⟨l4, z1, vs, [], rfl, rfl, t1 _ _ hl4, upd_same, ?_, fun z2 nz2 => ?_⟩
              · have h1 := hg4.len
                have h2 := hvs.len
                show vs.length + 0 ≤ sizeLine
                exact Nat.le_of_lt (small1000 (by omega))
              have s6 := t1.trans (same_upd (o := .lst (vs ++ [])) nz2)
              have hc6 := s6 _ _ hc4
              have ht6 : Tp _ t u := s6 _ _ ht
              have hs6 : Tp _ hq s := s6 _ _ hs4
              have e9 : putK (pj.1.map emb) (kN u) (.int ((v : Int) + (g3 : Int))) = (KR.put pj.1 u (v + g3)).map emb := put_emb pj.1 u (v + g3)
              refine ⟨.ref c, rfl, c, rfl, .inr ⟨_, .inl hc6⟩, .ref t, rfl, _, DGet.e hc6 ht6 hgu, .ref c, rfl, .ref hq, rfl, c, nI g3, rfl, (DGet.e hc6 hs6 hg3 : DGet _ _ _ (some (nI g3))), v, g3, rfl, rfl, .ref c, rfl, .ref t, rfl, c, _, rfl, DPut.t hc6 (Tp.key ht6) (by rw [List.length_map]; exact small1000 hl1), ?_⟩
              rw [e9]
              have hz2 : c ≠ z2 := ne_of_none (t1 _ _ hc4) nz2
              have tk := (Tups.of s6).trans (Tups.dT hc6 (o := .dT ((KR.put pj.1 u (v + g3)).map emb)))
              refine ⟨z2, vs ++ [], _, _, rfl, Same.atNew (sm4.trans s6) nc, cntDeed kn s pj u, hnx.symm, ?_, ?_, ?_, ?_, hxs4.mono tk, hgj, ?_, hds4.mono tk, tk _ _ hs4⟩
              · rw [upd_same, e0]
              · rw [upd_ne (lst_dT (s6 _ _ hlp4) hc6)]
                exact s6 _ _ hlp4
              · rw [upd_ne hz2.symm]
                exact upd_same
              · rw [e0]
                exact stsNil (hvs.mono tk)
              · rw [upd_ne hpc.symm]
                exact s6 _ _ hp4
            | none =>
              have e0 : cntDeed kn s pj u = (KR.put pj.1 u (0 + g3), pj.2 ++ [u]) := by
                unfold cntDeed
                rw [if_pos ei, hgu, hg3]
                rfl
              refine ⟨.ref l4, rfl, .ref t, rfl, .ref c, rfl, c, _, rfl, DGet.e hc4 ht hgu, _, rfl, iteT ⟨.ref t, rfl, by show 1 ≤ sizeLine; decide, fun z1 nz1 => ?_⟩⟩
              have t1 := same_upd (o := .lst [.ref t]) nz1
              refine ⟨l4, z1, vs, [.ref t], rfl, rfl, t1 _ _ hl4, upd_same, ?_, fun z2 nz2 => ?_⟩
              · have h1 := hg4.len
                have h2 := hvs.len
                exact small1000 (show vs.length ≤ 1000 by omega)
              have s6 := t1.trans (same_upd (o := .lst (vs ++ [.ref t])) nz2)
              have hc6 := s6 _ _ hc4
              have ht6 : Tp _ t u := s6 _ _ ht
              have hs6 : Tp _ hq s := s6 _ _ hs4
              have e9 : putK (pj.1.map emb) (kN u) (.int ((0 : Int) + (g3 : Int))) = (KR.put pj.1 u (0 + g3)).map emb := put_emb pj.1 u (0 + g3)
              refine ⟨.ref c, rfl, c, rfl, .inr ⟨_, .inl hc6⟩, .ref t, rfl, _, DGet.e hc6 ht6 hgu, .ref c, rfl, .ref hq, rfl, c, nI g3, rfl, (DGet.e hc6 hs6 hg3 : DGet _ _ _ (some (nI g3))), 0, g3, rfl, rfl, .ref c, rfl, .ref t, rfl, c, _, rfl, DPut.t hc6 (Tp.key ht6) (by rw [List.length_map]; exact small1000 hl1), ?_⟩
              rw [e9]
              have hz2 : c ≠ z2 := ne_of_none (t1 _ _ hc4) nz2
              have tk := (Tups.of s6).trans (Tups.dT hc6 (o := .dT ((KR.put pj.1 u (0 + g3)).map emb)))
              refine ⟨z2, vs ++ [.ref t], _, _, rfl, Same.atNew (sm4.trans s6) nc, cntDeed kn s pj u, hnx.symm, ?_, ?_, ?_, ?_, hxs4.mono tk, hgj, ?_, hds4.mono tk, tk _ _ hs4⟩
              · rw [upd_same, e0]
              · rw [upd_ne (lst_dT (s6 _ _ hlp4) hc6)]
                exact s6 _ _ hlp4
              · rw [upd_ne hz2.symm]
                exact upd_same
              · rw [e0]
                exact (hvs.mono tk).snoc (tk _ _ ht)
              · rw [upd_ne hpc.symm]
                exact s6 _ _ hp4
          · have e1 : ¬ KR.get kn u = some ((KR.get kn s).getD 0 + 1) := by
              rw [hg1, hg2]
              intro z
              refine e (decide_eq_true ?_)
              rw [Option.some.inj z]
              rfl
            refine ⟨l4, vs, _, _, rfl, sm4, pj, ?_, hc4, hlp4, hl4, hvs, hxs4, hg4, hp4, hds4, hs4⟩
            rw [hnx, cntDeed, if_neg e1]
        · obtain ⟨l4, vs, y14, y15, rfl, sm4, pj, hpj, hc4, hlp4, hl4, hvs, hxs4, hg4, hp4, hds4, hs4⟩ := hP
          refine ⟨_, _, _, _, _, rfl, sm4, pj, ?_, hc4, hlp4, hl4, hvs, hxs4, hg4⟩
          rw [fold_take _ _ hsi, ← hpr, hpj]
          have hle : (after r n s).length ≤ zs.length := by
            unfold after
            rw [List.length_map, hds4.len]
            exact Nat.le_refl _
          rw [List.take_of_length_le hle]
          rfl
      · obtain ⟨l3, ys, y13, y14, y15, rfl, sm2, pr, hpr, hc2, hlp2, hl2, hys, hxs2, hgood⟩ := hP
        have hle : rows.length ≤ xs.length := by
          rw [hxs2.len]
          exact Nat.le_refl _
        rw [List.take_of_length_le hle] at hpr
        subst hpr
        exact ⟨.ref l3, rfl, l3, ys, _, _, _, _, rfl, sm2, hc2, hl2, hys, hgood.new⟩
end
end KR
namespace KR
open PySem PySem.Spec PyProof.Rows L2
section
variable {P : Program} {w : World} {K : PySem.W.Frag} {mg : Str → Option Value} {base : Heap}
/-! ### what the top has written -/
/-- a def as it stands in the written part -/
structure Wh (K : PySem.W.Frag) (x : Str) (st : Stmt) (f : Addr) (oc kV dc pm cd ct : Value) (od an : Option Addr) (sl : Array (Option Value)) : Prop where
  a : PySem.W.nsIn K mainGlobals x = some (some (.ref f))
  l : K.lookup f = some ⟨oc, od, .func (PySem.W.fnOf x x (defArgs st) (defBody st) (defScope st) .none kV dc pm an cd ct), sl⟩
  c : PySem.W.codeIn K cd x = true
  k : PySem.W.keepIn K (.ref f) = true
theorem Wh.df {h : Heap} {x : Str} {st : Stmt} {f : Addr} {oc kV dc pm cd ct : Value} {od an : Option Addr} {sl : Array (Option Value)} {ps : List Str} (W : Wh K x st f oc kV dc pm cd ct od an sl) (X : K.In h) (G : h.Ns mainGlobals mg)
    (hb : ∀ (kV doc pm : Value) (an : Option Addr) (cdv ct : Value) (us : List Value), us.length = ps.length → bindArgs (PySem.W.fnOf x x (defArgs st) (defBody st) (defScope st) .none kV doc pm an cdv ct) ⟨us, []⟩ = pure (ps.zip us)) :
    Df K mg x st ps f (PySem.W.fnOf x x (defArgs st) (defBody st) (defScope st) .none kV dc pm an cd ct) := by
  have F := fun_mk W.l W.c W.k
  exact ⟨F, PySem.W.mg_of X G W.a, F.binds hb⟩
theorem ev_all (r : Bool) (n : Nat) (h1 : (if r = true then 3 else 1) ≤ n) (h2 : n ≤ 6) : check r n = true := by
  cases r with
  | true =>
    replace h1 : 3 ≤ n := h1
    match n, h1, h2 with
    | 3, _, _ => exact ev_t3
    | 4, _, _ => exact ev_t4
    | 5, _, _ => exact ev_t5
    | 6, _, _ => exact ev_t6
  | false =>
    replace h1 : 1 ≤ n := h1
    match n, h1, h2 with
    | 1, _, _ => exact ev_f1
    | 2, _, _ => exact ev_f2
    | 3, _, _ => exact ev_f3
    | 4, _, _ => exact ev_f4
    | 5, _, _ => exact ev_f5
    | 6, _, _ => exact ev_f6
theorem all_mk {h : Heap} {fa : Addr} {tk : Tok} (X : K.In h) (G : h.Ns mainGlobals mg) (hfa : mg "law" = some (.ref fa))
    {f0 : Addr} {oc0 kV0 dc0 pm0 cd0 ct0 : Value} {od0 an0 : Option Addr} {sl0 : Array (Option Value)}
    (W0 : Wh K "_law_taken" s_law_taken f0 oc0 kV0 dc0 pm0 cd0 ct0 od0 an0 sl0)
    {f1 : Addr} {oc1 kV1 dc1 pm1 cd1 ct1 : Value} {od1 an1 : Option Addr} {sl1 : Array (Option Value)}
    (W1 : Wh K "_law_row_standing" s_law_row_standing f1 oc1 kV1 dc1 pm1 cd1 ct1 od1 an1 sl1)
    {f2 : Addr} {oc2 kV2 dc2 pm2 cd2 ct2 : Value} {od2 an2 : Option Addr} {sl2 : Array (Option Value)}
    (W2 : Wh K "_law_row_frozen" s_law_row_frozen f2 oc2 kV2 dc2 pm2 cd2 ct2 od2 an2 sl2)
    {f3 : Addr} {oc3 kV3 dc3 pm3 cd3 ct3 : Value} {od3 an3 : Option Addr} {sl3 : Array (Option Value)}
    (W3 : Wh K "_law_row_near" s_law_row_near f3 oc3 kV3 dc3 pm3 cd3 ct3 od3 an3 sl3)
    {f4 : Addr} {oc4 kV4 dc4 pm4 cd4 ct4 : Value} {od4 an4 : Option Addr} {sl4 : Array (Option Value)}
    (W4 : Wh K "_law_pick" s_law_pick f4 oc4 kV4 dc4 pm4 cd4 ct4 od4 an4 sl4)
    {f5 : Addr} {oc5 kV5 dc5 pm5 cd5 ct5 : Value} {od5 an5 : Option Addr} {sl5 : Array (Option Value)}
    (W5 : Wh K "_law_alike" s_law_alike f5 oc5 kV5 dc5 pm5 cd5 ct5 od5 an5 sl5)
    {f6 : Addr} {oc6 kV6 dc6 pm6 cd6 ct6 : Value} {od6 an6 : Option Addr} {sl6 : Array (Option Value)}
    (W6 : Wh K "_law_frozen" s_law_frozen f6 oc6 kV6 dc6 pm6 cd6 ct6 od6 an6 sl6)
    {f7 : Addr} {oc7 kV7 dc7 pm7 cd7 ct7 : Value} {od7 an7 : Option Addr} {sl7 : Array (Option Value)}
    (W7 : Wh K "_law_open" s_law_open f7 oc7 kV7 dc7 pm7 cd7 ct7 od7 an7 sl7)
    {f8 : Addr} {oc8 kV8 dc8 pm8 cd8 ct8 : Value} {od8 an8 : Option Addr} {sl8 : Array (Option Value)}
    (W8 : Wh K "_law_shut" s_law_shut f8 oc8 kV8 dc8 pm8 cd8 ct8 od8 an8 sl8)
    {f9 : Addr} {oc9 kV9 dc9 pm9 cd9 ct9 : Value} {od9 an9 : Option Addr} {sl9 : Array (Option Value)}
    (W9 : Wh K "_law_changed" s_law_changed f9 oc9 kV9 dc9 pm9 cd9 ct9 od9 an9 sl9)
    {f10 : Addr} {oc10 kV10 dc10 pm10 cd10 ct10 : Value} {od10 an10 : Option Addr} {sl10 : Array (Option Value)}
    (W10 : Wh K "_law_after" s_law_after f10 oc10 kV10 dc10 pm10 cd10 ct10 od10 an10 sl10)
    {f11 : Addr} {oc11 kV11 dc11 pm11 cd11 ct11 : Value} {od11 an11 : Option Addr} {sl11 : Array (Option Value)}
    (W11 : Wh K "_law_from" s_law_from f11 oc11 kV11 dc11 pm11 cd11 ct11 od11 an11 sl11)
    {f12 : Addr} {oc12 kV12 dc12 pm12 cd12 ct12 : Value} {od12 an12 : Option Addr} {sl12 : Array (Option Value)}
    (W12 : Wh K "is_in" s_is_in f12 oc12 kV12 dc12 pm12 cd12 ct12 od12 an12 sl12)
    {f13 : Addr} {oc13 kV13 dc13 pm13 cd13 ct13 : Value} {od13 an13 : Option Addr} {sl13 : Array (Option Value)}
    (W13 : Wh K "need_many" s_need_many f13 oc13 kV13 dc13 pm13 cd13 ct13 od13 an13 sl13)
    {f14 : Addr} {oc14 kV14 dc14 pm14 cd14 ct14 : Value} {od14 an14 : Option Addr} {sl14 : Array (Option Value)}
    (W14 : Wh K "need_opened" s_need_opened f14 oc14 kV14 dc14 pm14 cd14 ct14 od14 an14 sl14)
    {f15 : Addr} {oc15 kV15 dc15 pm15 cd15 ct15 : Value} {od15 an15 : Option Addr} {sl15 : Array (Option Value)}
    (W15 : Wh K "need_both" s_need_both f15 oc15 kV15 dc15 pm15 cd15 ct15 od15 an15 sl15)
    {f16 : Addr} {oc16 kV16 dc16 pm16 cd16 ct16 : Value} {od16 an16 : Option Addr} {sl16 : Array (Option Value)}
    (W16 : Wh K "cold_in" s_cold_in f16 oc16 kV16 dc16 pm16 cd16 ct16 od16 an16 sl16)
    {f17 : Addr} {oc17 kV17 dc17 pm17 cd17 ct17 : Value} {od17 an17 : Option Addr} {sl17 : Array (Option Value)}
    (W17 : Wh K "row_frozen" s_row_frozen f17 oc17 kV17 dc17 pm17 cd17 ct17 od17 an17 sl17)
    {f18 : Addr} {oc18 kV18 dc18 pm18 cd18 ct18 : Value} {od18 an18 : Option Addr} {sl18 : Array (Option Value)}
    (W18 : Wh K "ring_frozen" s_ring_frozen f18 oc18 kV18 dc18 pm18 cd18 ct18 od18 an18 sl18)
    {f19 : Addr} {oc19 kV19 dc19 pm19 cd19 ct19 : Value} {od19 an19 : Option Addr} {sl19 : Array (Option Value)}
    (W19 : Wh K "need_two" s_need_two f19 oc19 kV19 dc19 pm19 cd19 ct19 od19 an19 sl19)
    {f20 : Addr} {oc20 kV20 dc20 pm20 cd20 ct20 : Value} {od20 an20 : Option Addr} {sl20 : Array (Option Value)}
    (W20 : Wh K "differ_in" s_differ_in f20 oc20 kV20 dc20 pm20 cd20 ct20 od20 an20 sl20)
    {f21 : Addr} {oc21 kV21 dc21 pm21 cd21 ct21 : Value} {od21 an21 : Option Addr} {sl21 : Array (Option Value)}
    (W21 : Wh K "comes_in" s_comes_in f21 oc21 kV21 dc21 pm21 cd21 ct21 od21 an21 sl21)
    {f22 : Addr} {oc22 kV22 dc22 pm22 cd22 ct22 : Value} {od22 an22 : Option Addr} {sl22 : Array (Option Value)}
    (W22 : Wh K "row_fewest" s_row_fewest f22 oc22 kV22 dc22 pm22 cd22 ct22 od22 an22 sl22)
    {f23 : Addr} {oc23 kV23 dc23 pm23 cd23 ct23 : Value} {od23 an23 : Option Addr} {sl23 : Array (Option Value)}
    (W23 : Wh K "ring_fewest" s_ring_fewest f23 oc23 kV23 dc23 pm23 cd23 ct23 od23 an23 sl23)
    {f24 : Addr} {oc24 kV24 dc24 pm24 cd24 ct24 : Value} {od24 an24 : Option Addr} {sl24 : Array (Option Value)}
    (W24 : Wh K "runs_of" s_runs_of f24 oc24 kV24 dc24 pm24 cd24 ct24 od24 an24 sl24)
    {f25 : Addr} {oc25 kV25 dc25 pm25 cd25 ct25 : Value} {od25 an25 : Option Addr} {sl25 : Array (Option Value)}
    (W25 : Wh K "orders_of" s_orders_of f25 oc25 kV25 dc25 pm25 cd25 ct25 od25 an25 sl25)
    {f26 : Addr} {oc26 kV26 dc26 pm26 cd26 ct26 : Value} {od26 an26 : Option Addr} {sl26 : Array (Option Value)}
    (W26 : Wh K "row_ways" s_row_ways f26 oc26 kV26 dc26 pm26 cd26 ct26 od26 an26 sl26)
    {f27 : Addr} {oc27 kV27 dc27 pm27 cd27 ct27 : Value} {od27 an27 : Option Addr} {sl27 : Array (Option Value)}
    (W27 : Wh K "ring_ways" s_ring_ways f27 oc27 kV27 dc27 pm27 cd27 ct27 od27 an27 sl27)
    {f28 : Addr} {oc28 kV28 dc28 pm28 cd28 ct28 : Value} {od28 an28 : Option Addr} {sl28 : Array (Option Value)}
    (W28 : Wh K "law" s_law f28 oc28 kV28 dc28 pm28 cd28 ct28 od28 an28 sl28)
    (hm : PySem.W.nsIn K mainGlobals "MOST_ROW" = some (some (.int 40 tk)))
    (z0 : PySem.W.nsIn K mainGlobals "len" = some none)
    (z1 : PySem.W.nsIn K mainGlobals "range" = some none)
    (z2 : PySem.W.nsIn K mainGlobals "sorted" = some none)
    (z3 : PySem.W.nsIn K mainGlobals "tuple" = some none)
    (z4 : PySem.W.nsIn K mainGlobals "list" = some none)
    (z5 : PySem.W.nsIn K mainGlobals "isinstance" = some none)
    (z6 : PySem.W.nsIn K mainGlobals "int" = some none)
    (z7 : PySem.W.nsIn K mainGlobals "bool" = some none)
    (z8 : PySem.W.nsIn K mainGlobals "str" = some none)
    (z9 : PySem.W.nsIn K mainGlobals "enumerate" = some none)
    : ∃ fd : FuncData, (∀ (s : Shared) (v : Value), BindsTo s fd ⟨[v], []⟩ [("_law_script", v)]) ∧ ∀ base : Heap, K.In base → base.Ns mainGlobals mg → FnOk P w K mg base CX0 6 fa fd ["_law_script"] (sp_law K) := by
  have e := hfa.symm.trans (PySem.W.mg_of X G W28.a)
  cases e
  have D0 := W0.df X G (ps := ["_law_row", "_law_many"]) fun _ _ _ _ _ _ us hl => match us, hl with | [_, _], _ => rfl
  have D1 := W1.df X G (ps := ["_law_row", "_law_many"]) fun _ _ _ _ _ _ us hl => match us, hl with | [_, _], _ => rfl
  have D2 := W2.df X G (ps := ["_law_many", "_law_is_ring", "_law_opened"]) fun _ _ _ _ _ _ us hl => match us, hl with | [_, _, _], _ => rfl
  have D3 := W3.df X G (ps := ["_law_row", "_law_many", "_law_is_ring", "_law_one"]) fun _ _ _ _ _ _ us hl => match us, hl with | [_, _, _, _], _ => rfl
  have D4 := W4.df X G (ps := ["_law_row", "_law_things"]) fun _ _ _ _ _ _ us hl => match us, hl with | [_, _], _ => rfl
  have D5 := W5.df X G (ps := ["_law_found", "_law_due"]) fun _ _ _ _ _ _ us hl => match us, hl with | [_, _], _ => rfl
  have D6 := W6.df X G (ps := ["_law_web", "_law_opened"]) fun _ _ _ _ _ _ us hl => match us, hl with | [_, _], _ => rfl
  have D7 := W7.df X G (ps := ["_law_web", "_law_opened"]) fun _ _ _ _ _ _ us hl => match us, hl with | [_, _], _ => rfl
  have D8 := W8.df X G (ps := ["_law_web", "_law_opened"]) fun _ _ _ _ _ _ us hl => match us, hl with | [_, _], _ => rfl
  have D9 := W9.df X G (ps := ["_law_opened", "_law_door"]) fun _ _ _ _ _ _ us hl => match us, hl with | [_, _], _ => rfl
  have D10 := W10.df X G (ps := ["_law_web", "_law_opened"]) fun _ _ _ _ _ _ us hl => match us, hl with | [_, _], _ => rfl
  have D11 := W11.df X G (ps := ["_law_web", "_law_opened"]) fun _ _ _ _ _ _ us hl => match us, hl with | [_, _], _ => rfl
  have D12 := W12.df X G (ps := ["value", "least", "most"]) fun _ _ _ _ _ _ us hl => match us, hl with | [_, _, _], _ => rfl
  have D13 := W13.df X G (ps := ["many", "least"]) fun _ _ _ _ _ _ us hl => match us, hl with | [_, _], _ => rfl
  have D14 := W14.df X G (ps := ["many", "opened"]) fun _ _ _ _ _ _ us hl => match us, hl with | [_, _], _ => rfl
  have D15 := W15.df X G (ps := ["many", "least", "opened"]) fun _ _ _ _ _ _ us hl => match us, hl with | [_, _, _], _ => rfl
  have D16 := W16.df X G (ps := ["many", "is_ring", "opened"]) fun _ _ _ _ _ _ us hl => match us, hl with | [_, _, _], _ => rfl
  have D17 := W17.df X G (ps := ["many", "opened"]) fun _ _ _ _ _ _ us hl => match us, hl with | [_, _], _ => rfl
  have D18 := W18.df X G (ps := ["many", "opened"]) fun _ _ _ _ _ _ us hl => match us, hl with | [_, _], _ => rfl
  have D19 := W19.df X G (ps := ["many", "least", "one", "other"]) fun _ _ _ _ _ _ us hl => match us, hl with | [_, _, _, _], _ => rfl
  have D20 := W20.df X G (ps := ["one", "other"]) fun _ _ _ _ _ _ us hl => match us, hl with | [_, _], _ => rfl
  have D21 := W21.df X G (ps := ["many", "is_ring", "one", "other"]) fun _ _ _ _ _ _ us hl => match us, hl with | [_, _, _, _], _ => rfl
  have D22 := W22.df X G (ps := ["many", "one", "other"]) fun _ _ _ _ _ _ us hl => match us, hl with | [_, _, _], _ => rfl
  have D23 := W23.df X G (ps := ["many", "one", "other"]) fun _ _ _ _ _ _ us hl => match us, hl with | [_, _, _], _ => rfl
  have D24 := W24.df X G (ps := ["many", "is_ring", "doors"]) fun _ _ _ _ _ _ us hl => match us, hl with | [_, _, _], _ => rfl
  have D25 := W25.df X G (ps := ["many", "is_ring", "one", "other"]) fun _ _ _ _ _ _ us hl => match us, hl with | [_, _, _, _], _ => rfl
  have D26 := W26.df X G (ps := ["many", "one", "other"]) fun _ _ _ _ _ _ us hl => match us, hl with | [_, _, _], _ => rfl
  have D27 := W27.df X G (ps := ["many", "one", "other"]) fun _ _ _ _ _ _ us hl => match us, hl with | [_, _, _], _ => rfl
  have D28 := W28.df X G (ps := ["_law_script"]) fun _ _ _ _ _ _ us hl => match us, hl with | [_], _ => rfl
  have B : Blt mg := ⟨PySem.W.mg_none_of X G z0, PySem.W.mg_none_of X G z1, PySem.W.mg_none_of X G z2, PySem.W.mg_none_of X G z3, PySem.W.mg_none_of X G z4, PySem.W.mg_none_of X G z5, PySem.W.mg_none_of X G z6, PySem.W.mg_none_of X G z7, PySem.W.mg_none_of X G z8, PySem.W.mg_none_of X G z9⟩
  have hmost := PySem.W.mg_of X G hm
  refine ⟨PySem.W.fnOf "law" "law" (defArgs s_law) (defBody s_law) (defScope s_law) .none kV28 dc28 pm28 an28 cd28 ct28, fun s v => .of_eq rfl, fun base _ _ => ?_⟩
  have r_ok_taken := ok_taken (P := P) (w := w) (base := base) D0 B
  have r_ok_row_standing := ok_row_standing (P := P) (w := w) (base := base) D1 B r_ok_taken
  have r_ok_lrow_frozen := ok_lrow_frozen (P := P) (w := w) (base := base) D2 B
  have r_ok_row_near := ok_row_near (P := P) (w := w) (base := base) D3 B r_ok_taken r_ok_lrow_frozen
  have r_ok_pick := ok_pick (P := P) (w := w) (base := base) D4 B r_ok_taken
  have r_ok_alike0 := ok_alike0 (P := P) (w := w) (base := base) D5 B
  have r_ok_alike1 := ok_alike1 (P := P) (w := w) (base := base) D5 B r_ok_alike0
  have r_ok_lfrozen := ok_lfrozen (P := P) (w := w) (base := base) D6 B
  have r_ok_open := ok_open (P := P) (w := w) (base := base) D7 B
  have r_ok_shut := ok_shut (P := P) (w := w) (base := base) D8 B
  have r_ok_changed := ok_changed (P := P) (w := w) (base := base) D9 B
  have r_ok_after := ok_after (P := P) (w := w) (base := base) D10 B r_ok_open r_ok_shut r_ok_changed
  have r_ok_from := ok_from (P := P) (w := w) (base := base) D11 r_ok_after
  have r_ok_is_in := ok_is_in (P := P) (w := w) (base := base) D12 B
  have r_ok_need_many := ok_need_many (P := P) (w := w) (base := base) D13 hmost r_ok_is_in
  have r_ok_need_opened := ok_need_opened (P := P) (w := w) (base := base) D14 B r_ok_is_in
  have r_ok_need_both := ok_need_both (P := P) (w := w) (base := base) D15 r_ok_need_many r_ok_need_opened
  have r_ok_cold_in := ok_cold_in (P := P) (w := w) (base := base) D16 B
  have r_ok_row_frozen := ok_row_frozen (P := P) (w := w) (base := base) D17 B r_ok_need_both r_ok_cold_in
  have r_ok_ring_frozen := ok_ring_frozen (P := P) (w := w) (base := base) D18 B r_ok_need_both r_ok_cold_in
  have r_ok_need_two := ok_need_two (P := P) (w := w) (base := base) D19 r_ok_need_both r_ok_need_opened
  have r_ok_differ_in := ok_differ_in (P := P) (w := w) (base := base) D20
  have r_ok_comes_in := ok_comes_in (P := P) (w := w) (base := base) D21 B r_ok_differ_in r_ok_cold_in
  have r_ok_row_fewest := ok_row_fewest (P := P) (w := w) (base := base) D22 B r_ok_need_two r_ok_comes_in r_ok_differ_in
  have r_ok_ring_fewest := ok_ring_fewest (P := P) (w := w) (base := base) D23 B r_ok_need_two r_ok_comes_in r_ok_differ_in
  have r_ok_runs_of := ok_runs_of (P := P) (w := w) (base := base) D24
  have r_ok_orders_of := ok_orders_of (P := P) (w := w) (base := base) D25 B r_ok_differ_in r_ok_runs_of
  have r_ok_row_ways := ok_row_ways (P := P) (w := w) (base := base) D26 r_ok_need_two r_ok_comes_in r_ok_orders_of
  have r_ok_ring_ways := ok_ring_ways (P := P) (w := w) (base := base) D27 r_ok_need_two r_ok_comes_in r_ok_orders_of
  exact ok_law (P := P) (w := w) (base := base) ev_all D28 B r_ok_taken r_ok_row_standing r_ok_row_near r_ok_pick r_ok_alike0 r_ok_alike1 r_ok_lfrozen r_ok_after r_ok_from r_ok_row_frozen r_ok_ring_frozen r_ok_row_fewest r_ok_ring_fewest r_ok_row_ways r_ok_ring_ways
end
end KR
open PySem PySem.W PyProof.Rows
set_option maxHeartbeats 0 in
theorem PySem.Challenge.cw_latchdoors_k26_whole_rows_holds : PySem.Challenge.rw_latchdoors_k26_whole_rows.Holds := by
  w_on; o_law; k_head; (case hw => w_witness2)
  k_fill
  refine L2.walk_of (l := PySem.Challenge.rw_latchdoors_k26_whole_rows) (n := 63) (k := 6) (x := "_law_script") (CX := fun _ => L2.CX0) (sp := fun w => KR.sp_law _) rfl (by decide) rfl ⟨rfl, by decide, by decide⟩ (fun w h Y => PySem.W.kIn_of Y) ?F (fun _ _ a ns hl _ hS => ⟨a, ns, rfl, hS, fun _ => rfl⟩) (fun _ _ _ _ _ h => h)
  case F =>
    intro w mg fa h KX G hmg
    refine' KR.all_mk KX G hmg ?w0 ?w1 ?w2 ?w3 ?w4 ?w5 ?w6 ?w7 ?w8 ?w9 ?w10 ?w11 ?w12 ?w13 ?w14 ?w15 ?w16 ?w17 ?w18 ?w19 ?w20 ?w21 ?w22 ?w23 ?w24 ?w25 ?w26 ?w27 ?w28 ?hm ?z0 ?z1 ?z2 ?z3 ?z4 ?z5 ?z6 ?z7 ?z8 ?z9
    case w0 =>
      refine' ⟨?a, ?l, ?c, ?k⟩
      (case a => k_is); (case l => k_is); (case c => k_is); (case k => k_is)
    case w1 =>
      refine' ⟨?a, ?l, ?c, ?k⟩
      (case a => k_is); (case l => k_is); (case c => k_is); (case k => k_is)
    case w2 =>
      refine' ⟨?a, ?l, ?c, ?k⟩
      (case a => k_is); (case l => k_is); (case c => k_is); (case k => k_is)
    case w3 =>
      refine' ⟨?a, ?l, ?c, ?k⟩
      (case a => k_is); (case l => k_is); (case c => k_is); (case k => k_is)
    case w4 =>
      refine' ⟨?a, ?l, ?c, ?k⟩
      (case a => k_is); (case l => k_is); (case c => k_is); (case k => k_is)
    case w5 =>
      refine' ⟨?a, ?l, ?c, ?k⟩
      (case a => k_is); (case l => k_is); (case c => k_is); (case k => k_is)
    case w6 =>
      refine' ⟨?a, ?l, ?c, ?k⟩
      (case a => k_is); (case l => k_is); (case c => k_is); (case k => k_is)
    case w7 =>
      refine' ⟨?a, ?l, ?c, ?k⟩
      (case a => k_is); (case l => k_is); (case c => k_is); (case k => k_is)
    case w8 =>
      refine' ⟨?a, ?l, ?c, ?k⟩
      (case a => k_is); (case l => k_is); (case c => k_is); (case k => k_is)
    case w9 =>
      refine' ⟨?a, ?l, ?c, ?k⟩
      (case a => k_is); (case l => k_is); (case c => k_is); (case k => k_is)
    case w10 =>
      refine' ⟨?a, ?l, ?c, ?k⟩
      (case a => k_is); (case l => k_is); (case c => k_is); (case k => k_is)
    case w11 =>
      refine' ⟨?a, ?l, ?c, ?k⟩
      (case a => k_is); (case l => k_is); (case c => k_is); (case k => k_is)
    case w12 =>
      refine' ⟨?a, ?l, ?c, ?k⟩
      (case a => k_is); (case l => k_is); (case c => k_is); (case k => k_is)
    case w13 =>
      refine' ⟨?a, ?l, ?c, ?k⟩
      (case a => k_is); (case l => k_is); (case c => k_is); (case k => k_is)
    case w14 =>
      refine' ⟨?a, ?l, ?c, ?k⟩
      (case a => k_is); (case l => k_is); (case c => k_is); (case k => k_is)
    case w15 =>
      refine' ⟨?a, ?l, ?c, ?k⟩
      (case a => k_is); (case l => k_is); (case c => k_is); (case k => k_is)
    case w16 =>
      refine' ⟨?a, ?l, ?c, ?k⟩
      (case a => k_is); (case l => k_is); (case c => k_is); (case k => k_is)
    case w17 =>
      refine' ⟨?a, ?l, ?c, ?k⟩
      (case a => k_is); (case l => k_is); (case c => k_is); (case k => k_is)
    case w18 =>
      refine' ⟨?a, ?l, ?c, ?k⟩
      (case a => k_is); (case l => k_is); (case c => k_is); (case k => k_is)
    case w19 =>
      refine' ⟨?a, ?l, ?c, ?k⟩
      (case a => k_is); (case l => k_is); (case c => k_is); (case k => k_is)
    case w20 =>
      refine' ⟨?a, ?l, ?c, ?k⟩
      (case a => k_is); (case l => k_is); (case c => k_is); (case k => k_is)
    case w21 =>
      refine' ⟨?a, ?l, ?c, ?k⟩
      (case a => k_is); (case l => k_is); (case c => k_is); (case k => k_is)
    case w22 =>
      refine' ⟨?a, ?l, ?c, ?k⟩
      (case a => k_is); (case l => k_is); (case c => k_is); (case k => k_is)
    case w23 =>
      refine' ⟨?a, ?l, ?c, ?k⟩
      (case a => k_is); (case l => k_is); (case c => k_is); (case k => k_is)
    case w24 =>
      refine' ⟨?a, ?l, ?c, ?k⟩
      (case a => k_is); (case l => k_is); (case c => k_is); (case k => k_is)
    case w25 =>
      refine' ⟨?a, ?l, ?c, ?k⟩
      (case a => k_is); (case l => k_is); (case c => k_is); (case k => k_is)
    case w26 =>
      refine' ⟨?a, ?l, ?c, ?k⟩
      (case a => k_is); (case l => k_is); (case c => k_is); (case k => k_is)
    case w27 =>
      refine' ⟨?a, ?l, ?c, ?k⟩
      (case a => k_is); (case l => k_is); (case c => k_is); (case k => k_is)
    case w28 =>
      refine' ⟨?a, ?l, ?c, ?k⟩
      (case a => k_is); (case l => k_is); (case c => k_is); (case k => k_is)
    (case hm => k_is)
    (case z0 => k_is)
    (case z1 => k_is)
    (case z2 => k_is)
    (case z3 => k_is)
    (case z4 => k_is)
    (case z5 => k_is)
    (case z6 => k_is)
    (case z7 => k_is)
    (case z8 => k_is)
    (case z9 => k_is)
