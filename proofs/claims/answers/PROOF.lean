import PyProof.Rows.All
import Wide.All
import OpenK.AllK
import Wide.FinOn
import Open.SpecLaws
import KE.OsGo
import HandS.ForSpec
import HandS.Comp
import HandS.Dict
import HandS.Iter
import HandS.Text
import HandS.Walk
import HandS.Style
import HandS.Conv
import HandS.ExcInit
import HandS.ExcSuper
import HandS.ExcField
import HandS.Codes
import VbndaxSpec
import PyVbndax
import PyFlatLaws
import PySem.Challenge.RW_sealedlots_s01_answers
set_option Elab.async false
set_option linter.all false
set_option maxRecDepth 100000
set_option maxHeartbeats 4000000
/-! ## M1 -/
section
set_option autoImplicit false
namespace SL
open Vbndax
/-! ## the mirror of allocations.py -/
def maxL : List Int → Int
  | [] => 0
  | x :: l => l.foldl max x
def resOut (r : List Int) (lots : Nat) : Int := (((r.zipIdx).filter fun x => !containsLot lots x.2).map (·.1)).sum
def choices (lots many : Nat) : List (Option Nat) := ((List.range many).filter fun j => !containsLot lots j).map some ++ [none]
def valWith (row : List Int) (lots : Nat) (behind : List Int) : Option Nat → Int
  | none => behind.getD lots 0
  | some j => row.getD j (-1) + behind.getD (lots + 2 ^ j) 0
def ahead (row : List Int) (many : Nat) (behind : List Int) : List Int := (List.range (2 ^ many)).map fun lots => maxL ((choices lots many).map (valWith row lots behind))
def table0 (r : List Int) : List Int := (List.range (2 ^ r.length)).map (resOut r)
def tables (r : List Int) : List (List Int) → List (List Int)
  | [] => [table0 r]
  | row :: rest => ahead row r.length ((tables r rest).headD []) :: tables r rest
def totalVal (bids : List (List Int)) (r : List Int) : Int := ((tables r bids).headD []).getD 0 0
def bestOf (many : Nat) (row : List Int) (lots : Nat) (behind here : List Int) : List (Option Nat) := (choices lots many).filter fun c => valWith row lots behind c == here.getD lots 0
def gone (lots : Nat) : Option Nat → Nat
  | none => lots
  | some j => lots + 2 ^ j
def alloc (r : List Int) : List (List Int) → Nat → List (Option Nat)
  | [], _ => []
  | row :: rest, lots =>
    let c := (bestOf r.length row lots ((tables r rest).headD []) ((tables r (row :: rest)).headD [])).headD none
    c :: alloc r rest (gone lots c)

/-! ## greatest values -/
theorem foldl_max_ge (l : List Int) : ∀ x : Int, x ≤ l.foldl max x := by
  induction l with
  | nil => intro x; exact Int.le_refl _
  | cons y l ih => intro x; exact Int.le_trans (Int.le_max_left x y) (ih (max x y))
theorem foldl_max_mem (l : List Int) : ∀ x : Int, ∀ y ∈ l, y ≤ l.foldl max x := by
  induction l with
  | nil => intro x y h; cases h
  | cons z l ih =>
    intro x y h
    rcases List.mem_cons.mp h with rfl | h
    · exact Int.le_trans (Int.le_max_right x y) (foldl_max_ge l _)
    · exact ih _ y h
theorem foldl_max_is (l : List Int) : ∀ x : Int, l.foldl max x = x ∨ l.foldl max x ∈ l := by
  induction l with
  | nil => intro x; exact .inl rfl
  | cons z l ih =>
    intro x
    rcases ih (max x z) with h | h
    · rcases (by omega : max x z = x ∨ max x z = z) with e | e
      · left; show l.foldl max (max x z) = x; rw [h, e]
      · right; show l.foldl max (max x z) ∈ z :: l; rw [h, e]; exact List.mem_cons_self ..
    · right; exact List.mem_cons_of_mem _ h
theorem maxL_mem {l : List Int} (h : 0 < l.length) : maxL l ∈ l := by
  cases l with
  | nil => exact absurd h (by decide)
  | cons x l =>
    rcases foldl_max_is l x with e | e
    · show l.foldl max x ∈ _; rw [e]; exact List.mem_cons_self ..
    · exact List.mem_cons_of_mem _ e
theorem maxL_ge {l : List Int} {y : Int} (h : y ∈ l) : y ≤ maxL l := by
  cases l with
  | nil => cases h
  | cons x l =>
    rcases List.mem_cons.mp h with rfl | h
    · exact foldl_max_ge l _
    · exact foldl_max_mem l x y h
/-- what max(..) hands over is maxL -/
theorem maxL_eq {l : List Int} {m : Int} (hm : m ∈ l) (h : ∀ y ∈ l, y ≤ m) : m = maxL l :=
  Int.le_antisymm (maxL_ge hm) (h _ (maxL_mem (List.length_pos_of_mem hm)))
theorem foldl_max_add (c : Int) (l : List Int) : ∀ x : Int, (l.map (· + c)).foldl max (x + c) = l.foldl max x + c := by
  induction l with
  | nil => intro x; rfl
  | cons y l ih =>
    intro x
    show (l.map (· + c)).foldl max (max (x + c) (y + c)) = l.foldl max (max x y) + c
    rw [← ih (max x y)]
    congr 1
    omega
theorem maxL_add (c : Int) {l : List Int} (h : 0 < l.length) : maxL (l.map (· + c)) = maxL l + c := by
  cases l with
  | nil => exact absurd h (by decide)
  | cons x l => exact foldl_max_add c l x

/-! ## the first greatest -/
abbrev pickStep (m : Option (Int × Allocation)) (x : Int × Allocation) : Option (Int × Allocation) := match m with
  | none => some x
  | some y => if y.1 < x.1 then some x else some y
theorem pick_some (L : List (Int × Allocation)) : ∀ y : Int × Allocation, L.foldl pickStep (some y) = (y :: L).find? fun x => x.1 == maxL ((y :: L).map (·.1)) := by
  induction L with
  | nil =>
    intro y
    show some y = _
    rw [List.find?_cons_of_pos]
    show (y.1 == maxL [y.1]) = true
    exact beq_self_eq_true _
  | cons x L ih =>
    intro y
    by_cases c : y.1 < x.1
    · have e : (x :: L).foldl pickStep (some y) = L.foldl pickStep (some x) := by
        show L.foldl pickStep (if y.1 < x.1 then some x else some y) = _
        rw [if_pos c]
      have em : maxL ((y :: x :: L).map (·.1)) = maxL ((x :: L).map (·.1)) := by
        show (L.map (·.1)).foldl max (max y.1 x.1) = (L.map (·.1)).foldl max x.1
        rw [show max y.1 x.1 = x.1 by omega]
      rw [e, ih x, em, List.find?_cons_of_neg (a := y)]
      have : x.1 ≤ maxL ((x :: L).map (·.1)) := maxL_ge (List.mem_cons_self ..)
      intro z
      have z := eq_of_beq z
      omega
    · have e : (x :: L).foldl pickStep (some y) = L.foldl pickStep (some y) := by
        show L.foldl pickStep (if y.1 < x.1 then some x else some y) = _
        rw [if_neg c]
      have em : maxL ((y :: x :: L).map (·.1)) = maxL ((y :: L).map (·.1)) := by
        show (L.map (·.1)).foldl max (max y.1 x.1) = (L.map (·.1)).foldl max y.1
        rw [show max y.1 x.1 = y.1 by omega]
      rw [e, ih y, em]
      by_cases d : y.1 = maxL ((y :: L).map (·.1))
      · rw [List.find?_cons_of_pos, List.find?_cons_of_pos]
        · show (y.1 == _) = true
          rw [← d]; exact beq_self_eq_true _
        · show (y.1 == _) = true
          rw [← d]; exact beq_self_eq_true _
      · have ge : y.1 ≤ maxL ((y :: L).map (·.1)) := maxL_ge (List.mem_cons_self ..)
        rw [List.find?_cons_of_neg (a := y), List.find?_cons_of_neg (a := y), List.find?_cons_of_neg (a := x)]
        · intro z; have z := eq_of_beq z; omega
        · intro z; exact d (eq_of_beq z)
        · intro z; exact d (eq_of_beq z)
theorem pick_is {L : List (Int × Allocation)} (h : 0 < L.length) : L.foldl pickStep none = L.find? fun x => x.1 == maxL (L.map (·.1)) := by
  cases L with
  | nil => exact absurd h (by decide)
  | cons y L => exact pick_some L y

/-! ## sets of lots -/
theorem bits5 : ∀ lots : Fin 32, ∀ j k : Fin 5, containsLot lots j = false → containsLot (lots + 2 ^ (j : Nat)) k = (containsLot lots k || (k : Nat) == j) := by decide +kernel
theorem grow5 : ∀ n : Fin 6, ∀ lots : Fin 32, ∀ j : Fin 5, (lots : Nat) < 2 ^ (n : Nat) → (j : Nat) < n → containsLot lots j = false → (lots : Nat) + 2 ^ (j : Nat) < 2 ^ (n : Nat) := by decide +kernel
theorem pow_le32 {n : Nat} (hn : n ≤ 5) : 2 ^ n ≤ 32 := Nat.pow_le_pow_right (by decide) hn
theorem has_add {lots j k : Nat} (hl : lots < 32) (hj : j < 5) (hk : k < 5) (h : containsLot lots j = false) : containsLot (lots + 2 ^ j) k = (containsLot lots k || k == j) :=
  bits5 ⟨lots, hl⟩ ⟨j, hj⟩ ⟨k, hk⟩ h
theorem grow {n lots j : Nat} (hn : n ≤ 5) (hl : lots < 2 ^ n) (hj : j < n) (h : containsLot lots j = false) : lots + 2 ^ j < 2 ^ n :=
  grow5 ⟨n, by omega⟩ ⟨lots, by have := pow_le32 hn; omega⟩ ⟨j, by omega⟩ hl hj h
def left (n lots : Nat) : List Nat := (List.range n).filter fun j => !containsLot lots j
theorem left_add {n lots j : Nat} (hn : n ≤ 5) (hl : lots < 2 ^ n) (hj : j < n) (h : containsLot lots j = false) : ((left n lots).filter fun k => k != j) = left n (lots + 2 ^ j) := by
  unfold left
  rw [List.filter_filter]
  refine List.filter_congr fun k hk => ?_
  have hk := List.mem_range.mp hk
  have := pow_le32 hn
  rw [has_add (by omega) (by omega) (by omega) h]
  cases containsLot lots k <;> cases e : (k == j) <;> simp_all
def sumIf (r : List Int) (k : Nat) (p : Nat → Bool) : Int := ((((r.zipIdx k)).filter fun x => p x.2).map (·.1)).sum
theorem sumIf_cons (x : Int) (r : List Int) (k : Nat) (p : Nat → Bool) : sumIf (x :: r) k p = (if p k = true then x else 0) + sumIf r (k + 1) p := by
  unfold sumIf
  rw [List.zipIdx_cons, List.filter_cons]
  by_cases c : p k = true
  · rw [if_pos c, if_pos c]; rfl
  · rw [if_neg c, if_neg c, Int.zero_add]
theorem sumIf_congr {p q : Nat → Bool} : ∀ (r : List Int) (k : Nat), (∀ i, k ≤ i → i < k + r.length → p i = q i) → sumIf r k p = sumIf r k q
  | [], _, _ => rfl
  | x :: r, k, h => by
    rw [sumIf_cons, sumIf_cons, h k (Nat.le_refl _) (by simp), sumIf_congr r (k + 1) fun i a b => h i (by omega) (by simp at b ⊢; omega)]
theorem sumIf_but {p : Nat → Bool} {j : Nat} : ∀ (r : List Int) (k : Nat), k ≤ j → j < k + r.length → p j = true → sumIf r k (fun i => p i && i != j) = sumIf r k p - r.getD (j - k) 0
  | [], k, h1, h2, _ => by simp at h2; omega
  | x :: r, k, h1, h2, hp => by
    rw [sumIf_cons, sumIf_cons]
    by_cases e : k = j
    · subst e
      rw [sumIf_congr (q := p) r (k + 1) fun i a b => by
        have : (i != k) = true := by simp; omega
        rw [this, Bool.and_true]]
      have e1 : (p k && k != k) = false := by simp
      rw [e1, hp, if_neg (by decide), if_pos rfl, Nat.sub_self]
      show 0 + sumIf r (k + 1) p = x + sumIf r (k + 1) p - x
      omega
    · rw [sumIf_but r (k + 1) (by omega) (by simp at h2 ⊢; omega) hp]
      have e1 : (p k && k != j) = p k := by
        have : (k != j) = true := by simp; exact e
        rw [this, Bool.and_true]
      rw [e1]
      have e2 : (x :: r).getD (j - k) 0 = r.getD (j - (k + 1)) 0 := by
        rw [show j - k = (j - (k + 1)) + 1 by omega]
        rfl
      rw [e2]
      omega
theorem resOut_add {r : List Int} {lots j : Nat} (hn : r.length ≤ 5) (hl : lots < 2 ^ r.length) (hj : j < r.length) (h : containsLot lots j = false) : resOut r (lots + 2 ^ j) = resOut r lots - r.getD j 0 := by
  show sumIf r 0 (fun k => !containsLot (lots + 2 ^ j) k) = sumIf r 0 (fun k => !containsLot lots k) - r.getD j 0
  have := pow_le32 hn
  rw [sumIf_congr (q := fun k => (!containsLot lots k) && k != j) r 0 fun k _ hk => by
    simp at hk
    show (!containsLot (lots + 2 ^ j) k) = _
    rw [has_add (by omega) (by omega) (by omega) h]
    cases containsLot lots k <;> cases e : (k == j) <;> simp_all]
  rw [sumIf_but (p := fun k => !containsLot lots k) r 0 (Nat.zero_le _) (by omega) (by show (!containsLot lots j) = true; rw [h]; rfl)]
  rfl
theorem resOut_all (r : List Int) : resOut r 0 = r.sum := by
  show sumIf r 0 (fun k => !containsLot 0 k) = _
  have key : ∀ (r : List Int) (k : Nat), sumIf r k (fun k => !containsLot 0 k) = r.sum := by
    intro r
    induction r with
    | nil => intro k; rfl
    | cons x r ih =>
      intro k
      rw [sumIf_cons, ih]
      have : containsLot 0 k = false := by unfold containsLot; simp
      rw [this]
      simp
  exact key r 0
theorem range_getD {α : Type} (f : Nat → α) (d : α) {n i : Nat} (h : i < n) : ((List.range n).map f).getD i d = f i := by
  simp [List.getD, h]
theorem has_zero (k : Nat) : containsLot 0 k = false := by unfold containsLot; simp

/-! ## the tables and the allocation are the specification's -/
theorem find_congr {α : Type} {p q : α → Bool} : ∀ {l : List α}, (∀ x ∈ l, p x = q x) → l.find? p = l.find? q
  | [], _ => rfl
  | x :: l, h => by
    rw [List.find?_cons, List.find?_cons, h x (List.mem_cons_self ..), find_congr fun y hy => h y (List.mem_cons_of_mem _ hy)]
theorem choices_pos (lots many : Nat) : 0 < (choices lots many).length := by unfold choices; simp
theorem core (r : List Nat) (b : Bids) (hn : r.length ≤ 5) : ∀ (rest : Bids) (i lots : Nat), b.drop i = rest → lots < 2 ^ r.length →
    ((tables (toInts r) rest).headD []).getD lots 0 = resOut (toInts r) lots + (bestAllocationFrom r b rest.length i (left r.length lots)).1 ∧
    alloc (toInts r) rest lots = (bestAllocationFrom r b rest.length i (left r.length lots)).2
  | [], i, lots, hd, hl => by
    have hlen : (toInts r).length = r.length := by unfold toInts; simp
    refine ⟨?_, rfl⟩
    show (table0 (toInts r)).getD lots 0 = resOut (toInts r) lots + 0
    unfold table0
    rw [range_getD _ _ (by rw [hlen]; exact hl)]
    omega
  | row :: rest, i, lots, hd, hl => by
    have hlen : (toInts r).length = r.length := by unfold toInts; simp
    have hdr : b.drop (i + 1) = rest := by
      have : b.drop (i + 1) = (b.drop i).drop 1 := by rw [List.drop_drop]
      rw [this, hd]; rfl
    have hrow : b.getD i [] = row := by
      have : b[i]? = some row := by
        have := congrArg (fun l => l[0]?) hd
        simpa using this
      simp [List.getD, this]
    have ih0 := core r b hn rest (i + 1) lots hdr hl
    generalize eg : (fun c : Option Nat => match c with
      | some j => (surplus r b i j + (bestAllocationFrom r b rest.length (i + 1) ((left r.length lots).filter fun k => k != j)).1, some j :: (bestAllocationFrom r b rest.length (i + 1) ((left r.length lots).filter fun k => k != j)).2)
      | none => ((bestAllocationFrom r b rest.length (i + 1) (left r.length lots)).1, none :: (bestAllocationFrom r b rest.length (i + 1) (left r.length lots)).2)) = g
    have hspec : bestAllocationFrom r b (row :: rest).length i (left r.length lots) = (((choices lots r.length).map g).foldl pickStep none).getD (0, []) := by
      subst eg
      show (List.foldl _ none _).getD (0, []) = _
      unfold choices
      rw [List.map_append, List.map_map]
      rfl
    have hg : ∀ c ∈ choices lots r.length, valWith row lots ((tables (toInts r) rest).headD []) c = (g c).1 + resOut (toInts r) lots ∧ (g c).2 = c :: alloc (toInts r) rest (gone lots c) := by
      intro c hc
      subst eg
      cases c with
      | none =>
        refine ⟨?_, ?_⟩
        · show ((tables (toInts r) rest).headD []).getD lots 0 = _
          rw [ih0.1]
          show _ = (bestAllocationFrom r b rest.length (i + 1) (left r.length lots)).1 + _
          omega
        · show none :: _ = none :: alloc (toInts r) rest lots
          rw [ih0.2]
      | some j =>
        have hj : j < r.length ∧ containsLot lots j = false := by
          unfold choices at hc
          simp at hc
          exact hc
        have ih := core r b hn rest (i + 1) (lots + 2 ^ j) hdr (grow hn hl hj.1 hj.2)
        rw [← left_add hn hl hj.1 hj.2] at ih
        refine ⟨?_, ?_⟩
        · show row.getD j (-1) + ((tables (toInts r) rest).headD []).getD (lots + 2 ^ j) 0 = _
          rw [ih.1, resOut_add (by rw [hlen]; exact hn) (by rw [hlen]; exact hl) (by rw [hlen]; exact hj.1) hj.2]
          show _ = surplus r b i j + _ + _
          unfold surplus bidOf
          rw [hrow]
          have : (toInts r).getD j 0 = ((r.getD j 0 : Nat) : Int) := by
            unfold toInts
            simp [List.getD, List.getElem?_map]
            cases r[j]? <;> rfl
          rw [this]
          omega
        · show some j :: _ = some j :: alloc (toInts r) rest (lots + 2 ^ j)
          rw [ih.2]
    have hpos : 0 < ((choices lots r.length).map fun c => (g c).1).length := by rw [List.length_map]; exact choices_pos _ _
    have hmax : maxL ((choices lots r.length).map (valWith row lots ((tables (toInts r) rest).headD []))) = maxL ((choices lots r.length).map fun c => (g c).1) + resOut (toInts r) lots := by
      rw [← maxL_add _ hpos, List.map_map]
      congr 1
      exact List.map_congr_left fun c hc => (hg c hc).1
    have hhere : ((tables (toInts r) (row :: rest)).headD []).getD lots 0 = maxL ((choices lots r.length).map (valWith row lots ((tables (toInts r) rest).headD []))) := by
      show (ahead row (toInts r).length ((tables (toInts r) rest).headD [])).getD lots 0 = _
      unfold ahead
      rw [hlen, range_getD _ _ hl]
    obtain ⟨c0, hc0, hcm, hfind⟩ : ∃ c0 ∈ choices lots r.length, (g c0).1 = maxL ((choices lots r.length).map fun c => (g c).1) ∧ (choices lots r.length).find? (fun c => (g c).1 == maxL ((choices lots r.length).map fun c => (g c).1)) = some c0 := by
      obtain ⟨c1, hc1, e1⟩ := List.mem_map.mp (maxL_mem hpos)
      cases e : (choices lots r.length).find? (fun c => (g c).1 == maxL ((choices lots r.length).map fun c => (g c).1)) with
      | none =>
        have := List.find?_eq_none.mp e c1 hc1
        exact absurd (by simpa using e1) this
      | some c0 =>
        refine ⟨c0, List.mem_of_find?_eq_some e, ?_, rfl⟩
        have := List.find?_some e
        simpa using this
    have hbest : bestAllocationFrom r b (row :: rest).length i (left r.length lots) = g c0 := by
      rw [hspec, pick_is (by rw [List.length_map]; exact choices_pos _ _), List.find?_map, List.map_map]
      show (Option.map g ((choices lots r.length).find? fun c => (g c).1 == maxL ((choices lots r.length).map fun c => (g c).1))).getD (0, []) = g c0
      rw [hfind]
      rfl
    have hpick : (bestOf (toInts r).length row lots ((tables (toInts r) rest).headD []) ((tables (toInts r) (row :: rest)).headD [])).headD none = c0 := by
      unfold bestOf
      rw [hlen, List.headD_eq_head?_getD, List.head?_filter, hhere, hmax]
      have : (choices lots r.length).find? (fun c => valWith row lots ((tables (toInts r) rest).headD []) c == maxL ((choices lots r.length).map fun c => (g c).1) + resOut (toInts r) lots) = some c0 := by
        rw [← hfind]
        refine find_congr fun c hc => ?_
        rw [(hg c hc).1]
        rw [Bool.eq_iff_iff]
        simp
      rw [this]
      rfl
    rw [hbest]
    refine ⟨?_, ?_⟩
    · rw [hhere, hmax, hcm]; omega
    · show _ :: _ = _
      rw [hpick, (hg c0 hc0).2]
theorem sumList_is (l : List Int) : sumList l = l.sum := by
  have key : ∀ (l : List Int) (a : Int), l.foldl (fun a b => a + b) a = a + l.sum := by
    intro l
    induction l with
    | nil => intro a; simp
    | cons x l ih => intro a; rw [List.foldl_cons, ih, List.sum_cons]; omega
  unfold sumList
  rw [key]; omega
theorem left_zero (n : Nat) : left n 0 = List.range n := by
  unfold left
  rw [List.filter_eq_self]
  intro j _
  rw [has_zero]; rfl
theorem totalVal_is (r : List Nat) (b : Bids) (hn : r.length ≤ 5) : totalVal b (toInts r) = Vbndax.totalValue r b := by
  have h := (core r b hn b 0 0 rfl (Nat.two_pow_pos _)).1
  unfold totalVal
  rw [h, left_zero, resOut_all]
  unfold Vbndax.totalValue
  rw [sumList_is]
  rfl
theorem alloc_is (r : List Nat) (b : Bids) (hn : r.length ≤ 5) : alloc (toInts r) b 0 = (bestAllocation r b).2 := by
  have h := (core r b hn b 0 0 rfl (Nat.two_pow_pos _)).2
  rw [h, left_zero]
  rfl
end SL
end
/-! ## M2 -/
section
set_option autoImplicit false
namespace SL
open Vbndax
/-! ## the mirror of prices.py -/
def dbl (row : List Int) (j : Nat) : List Int := row ++ [row.getD j (-1)]
def wout (row : List Int) (j : Nat) : List Int := row.take j ++ row.drop (j + 1)
def minPrice (b : List (List Int)) (r : List Int) (j : Nat) : Int := totalVal (b.map fun row => dbl row j) (dbl r j) - totalVal b r
def maxPrice (b : List (List Int)) (r : List Int) (j : Nat) : Int := totalVal b r - totalVal (b.map fun row => wout row j) (wout r j)
def minPrices (b : List (List Int)) (r : List Int) : List Int := (List.range r.length).map (minPrice b r)
def maxPrices (b : List (List Int)) (r : List Int) : List Int := (List.range r.length).map (maxPrice b r)
def pay (b : List (List Int)) (r : List Int) : Option Nat → Int
  | none => 0
  | some j => minPrice b r j
def util (row p : List Int) : Option Nat → Int
  | none => 0
  | some j => row.getD j (-1) - p.getD j 0
def every (n : Nat) : List (Option Nat) := none :: (List.range n).map some
def demand (row p : List Int) : List (Option Nat) := (every p.length).filter fun c => util row p c == maxL ((every p.length).map (util row p))
def wrong (price reserve : Int) (sold : Bool) : Bool := decide (price < reserve) || (!sold && price != reserve)
def faultA (r : List Int) (u : List (Option Nat)) (p : List Int) : Option Nat := (List.range p.length).find? fun j => wrong (p.getD j 0) (r.getD j 0) (u.contains (some j))
def faultB (b : List (List Int)) (u : List (Option Nat)) (p : List Int) : Option Nat := (List.range b.length).find? fun i => !(demand (b.getD i []) p).contains (u.getD i none)
def fault (b : List (List Int)) (r : List Int) (u : List (Option Nat)) (p : List Int) : Option (Nat × Nat) := match faultA r u p with
  | some j => some (1, j)
  | none => match faultB b u p with
    | some i => some (2, i)
    | none => none
theorem toInts_len (r : List Nat) : (toInts r).length = r.length := by unfold toInts; simp
theorem toInts_get (r : List Nat) (j : Nat) : (toInts r).getD j 0 = ((r.getD j 0 : Nat) : Int) := by
  unfold toInts
  simp [List.getD, List.getElem?_map]
  cases r[j]? <;> rfl
theorem dbl_res {r : List Nat} {j : Nat} (h : j < r.length) : dbl (toInts r) j = toInts (r ++ [r.getD j 0]) := by
  unfold dbl toInts
  rw [List.map_append]
  congr 1
  simp [List.getD, h]
theorem wout_is {α : Type} (l : List α) (j : Nat) : l.take j ++ l.drop (j + 1) = l.eraseIdx j := (List.eraseIdx_eq_take_drop_succ ..).symm
theorem wout_res (r : List Nat) (j : Nat) : wout (toInts r) j = toInts (r.eraseIdx j) := by
  rw [← wout_is r j]
  unfold wout toInts
  rw [List.map_append, List.map_take, List.map_drop]
theorem minPrice_is {r : List Nat} (b : Bids) {j : Nat} (hn : r.length ≤ 4) (h : j < r.length) : minPrice b (toInts r) j = Vbndax.minimumPrice r b j := by
  unfold minPrice Vbndax.minimumPrice
  rw [dbl_res h, totalVal_is _ _ (by simp; omega), totalVal_is _ _ (by omega)]
  rfl
theorem maxPrice_is {r : List Nat} (b : Bids) (j : Nat) (hn : r.length ≤ 4) : maxPrice b (toInts r) j = Vbndax.maximumPrice r b j := by
  unfold maxPrice Vbndax.maximumPrice Vbndax.totalWithout
  rw [wout_res, totalVal_is _ _ (by omega), totalVal_is _ _ (by rw [List.length_eraseIdx]; split <;> omega)]
  congr 2
  refine List.map_congr_left fun row _ => ?_
  exact wout_is row j
theorem minPrices_is {r : List Nat} (b : Bids) (hn : r.length ≤ 4) : minPrices b (toInts r) = Vbndax.minimumPrices r b := by
  unfold minPrices Vbndax.minimumPrices Vbndax.lotNumbers
  rw [toInts_len]
  exact List.map_congr_left fun j hj => minPrice_is b hn (List.mem_range.mp hj)
theorem maxPrices_is {r : List Nat} (b : Bids) (hn : r.length ≤ 4) : maxPrices b (toInts r) = Vbndax.maximumPrices r b := by
  unfold maxPrices Vbndax.maximumPrices Vbndax.lotNumbers
  rw [toInts_len]
  exact List.map_congr_left fun j hj => maxPrice_is b j hn
/-! ## an allocation's lots are lots -/
theorem best_mem {many : Nat} {row : List Int} {lots : Nat} {behind here : List Int} {j : Nat} (h : (bestOf many row lots behind here).headD none = some j) : j < many ∧ containsLot lots j = false := by
  have : some j ∈ bestOf many row lots behind here := by
    cases e : bestOf many row lots behind here with
    | nil => rw [e] at h; cases h
    | cons c l => rw [e] at h; have h : c = some j := h; rw [h]; exact List.mem_cons_self ..
  unfold bestOf choices at this
  have := (List.mem_filter.mp this).1
  simp at this
  exact this
theorem alloc_len (r : List Int) : ∀ (b : List (List Int)) (lots : Nat), (alloc r b lots).length = b.length
  | [], _ => rfl
  | row :: rest, lots => by
    show (_ :: alloc r rest _).length = _
    rw [List.length_cons, List.length_cons, alloc_len]
theorem alloc_lt (r : List Int) : ∀ (b : List (List Int)) (lots : Nat) (j : Nat), some j ∈ alloc r b lots → j < r.length
  | [], _, j, h => by cases h
  | row :: rest, lots, j, h => by
    have h : some j ∈ (bestOf r.length row lots ((tables r rest).headD []) ((tables r (row :: rest)).headD [])).headD none :: alloc r rest _ := h
    rcases List.mem_cons.mp h with e | h
    · exact (best_mem e.symm).1
    · exact alloc_lt r rest _ j h
theorem alloc_get_lt {r : List Int} {b : List (List Int)} {i j : Nat} (h : (alloc r b 0).getD i none = some j) : j < r.length := by
  refine alloc_lt r b 0 j ?_
  rw [List.getD_eq_getElem?_getD] at h
  cases e : (alloc r b 0)[i]? with
  | none => rw [e] at h; cases h
  | some c => rw [e] at h; have h : c = some j := h; rw [← h]; exact List.mem_of_getElem? e
/-! ## demand sets -/
theorem demand_is (b : Bids) (p : List Int) (i : Nat) : demand (b.getD i []) p = Vbndax.demandSet b p p.length i := by
  have hm : maxL ((every p.length).map (util (b.getD i []) p)) = maxUtility b p p.length i := by
    unfold every maxUtility
    rw [List.map_cons, List.map_map]
    show List.foldl max 0 _ = _
    rw [List.foldl_map]
    rfl
  unfold demand Vbndax.demandSet
  rw [hm]
  unfold every
  rw [List.filter_cons]
  have e0 : (util (b.getD i []) p none == maxUtility b p p.length i) = decide (maxUtility b p p.length i = 0) := by
    rw [Bool.eq_iff_iff]
    show ((0 : Int) == _) = true ↔ _
    simp
    exact eq_comm
  rw [e0, List.filter_map]
  have e1 : List.filter ((fun c => util (b.getD i []) p c == maxUtility b p p.length i) ∘ some) (List.range p.length) = List.filter (fun j => Vbndax.utility b p i j == maxUtility b p p.length i) (List.range p.length) := rfl
  rw [e1]
  by_cases c : maxUtility b p p.length i = 0
  · rw [if_pos c, decide_eq_true c, if_pos rfl]; rfl
  · rw [if_neg c, decide_eq_false c, if_neg (by decide)]; rfl
theorem demand_pos (row p : List Int) : 0 < (demand row p).length := by
  have hl : 0 < ((every p.length).map (util row p)).length := by unfold every; simp
  obtain ⟨c, hc, e⟩ := List.mem_map.mp (maxL_mem hl)
  have : c ∈ demand row p := by
    unfold demand
    refine List.mem_filter.mpr ⟨hc, ?_⟩
    rw [e]; exact beq_self_eq_true _
  exact List.length_pos_of_mem this
/-! ## equilibrium prices -/
theorem fault_is {r : List Nat} (b : Bids) (u : Allocation) {p : List Int} (hp : p.length = r.length) : fault b (toInts r) u p = Vbndax.priceViolation r b u p := by
  have eA : faultA (toInts r) u p = (lotNumbers r).find? fun j => decide (p.getD j 0 < (r.getD j 0 : Int)) || ((winnerOf u j).isNone && p.getD j 0 != (r.getD j 0 : Int)) := by
    unfold faultA lotNumbers
    rw [hp]
    refine find_congr fun j _ => ?_
    unfold wrong
    rw [toInts_get]
    have : (winnerOf u j).isNone = !u.contains (some j) := by
      unfold winnerOf
      rw [Bool.eq_iff_iff]
      rw [Option.isNone_iff_eq_none, List.findIdx?_eq_none_iff]
      constructor
      · intro h
        cases e : u.contains (some j) with
        | false => rfl
        | true =>
          have := h _ (by simpa using e)
          simp at this
      · intro h x hx
        cases e : (x == some j) with
        | false => rfl
        | true =>
          have : x = some j := by simpa using e
          subst this
          have : u.contains (some j) = true := by simpa using hx
          rw [this] at h
          cases h
    rw [this]
  have eB : faultB b u p = (List.range b.length).find? fun i => !(demandSet b p r.length i).contains (lotOfBidder u i) := by
    unfold faultB
    refine find_congr fun i _ => ?_
    rw [demand_is, hp]
    rfl
  unfold fault Vbndax.priceViolation
  rw [eA, eB]
  rfl
end SL
end
/-! ## M3 -/
section
set_option autoImplicit false
namespace SL
open Vbndax
/-! ## the mirror of clock.py -/
def members (lots many : Nat) : List Nat := (List.range many).filter (containsLot lots)
def inSet (lots : Nat) : Option Nat → Bool
  | none => false
  | some j => containsLot lots j
def within (d : List (Option Nat)) (lots : Nat) : Bool := d.all (inSet lots)
def over (ds : List (List (Option Nat))) (many lots : Nat) : Bool := decide ((members lots many).length < (ds.filter fun d => within d lots).length)
def overs (ds : List (List (Option Nat))) (many : Nat) : List Nat := (List.range' 1 (2 ^ many - 1)).filter (over ds many)
/-- ahead in order: fewer lots, or as many and a smaller number -/
def ltSet (n a b : Nat) : Prop := lotCount n a < lotCount n b ∨ (lotCount n a = lotCount n b ∧ a < b)
instance (n a b : Nat) : Decidable (ltSet n a b) := by unfold ltSet; infer_instance
theorem find_first {α : Type} {lt : α → α → Prop} {q : α → Bool} {m : α} : ∀ {l : List α}, l.Pairwise lt → m ∈ l → q m = true → (∀ y ∈ l, q y = true → ¬ lt y m) → l.find? q = some m
  | [], _, h, _, _ => by cases h
  | x :: l, hp, hm, hq, hy => by
    rw [List.find?_cons]
    obtain ⟨h1, h2⟩ := List.pairwise_cons.mp hp
    cases e : q x with
    | true =>
      rcases List.mem_cons.mp hm with z | z
      · rw [z]
      · exact absurd (h1 m z) (hy x (List.mem_cons_self ..) e)
    | false =>
      rcases List.mem_cons.mp hm with z | z
      · rw [z, e] at hq; cases hq
      · exact find_first h2 z hq fun y h => hy y (List.mem_cons_of_mem _ h)
theorem find_least {α : Type} {lt : α → α → Prop} (irr : ∀ a, ¬ lt a a) (asy : ∀ a b, lt a b → ¬ lt b a) {q : α → Bool} {m : α} : ∀ {l : List α}, l.Pairwise lt → l.find? q = some m → ∀ y ∈ l, q y = true → ¬ lt y m
  | [], _, h, _, _, _ => by cases h
  | x :: l, hp, hm, y, hy, hq => by
    obtain ⟨h1, h2⟩ := List.pairwise_cons.mp hp
    rw [List.find?_cons] at hm
    cases e : q x with
    | true =>
      rw [e] at hm
      have z : x = m := Option.some.inj hm
      subst z
      rcases List.mem_cons.mp hy with z | z
      · rw [z]; exact irr x
      · exact asy _ _ (h1 y z)
    | false =>
      rw [e] at hm
      rcases List.mem_cons.mp hy with z | z
      · rw [z, e] at hq; cases hq
      · exact find_least irr asy h2 hm y z hq
theorem sets_sorted : ∀ n : Fin 5, (setsBySize n).Pairwise (ltSet n) := by decide +kernel
theorem sets_all : ∀ n : Fin 5, ∀ s : Fin 16, (s : Nat) < 2 ^ (n : Nat) → (s : Nat) ∈ setsBySize n := by decide +kernel
theorem sets_lt : ∀ n : Fin 5, ∀ s ∈ setsBySize n, s < 2 ^ (n : Nat) := by decide +kernel
theorem zero_first : ∀ n : Fin 5, lotCount n 0 = 0 := by decide +kernel
theorem pow_le16 {n : Nat} (hn : n ≤ 4) : 2 ^ n ≤ 16 := Nat.pow_le_pow_right (by decide) hn
theorem mem_sets {n s : Nat} (hn : n ≤ 4) : s ∈ setsBySize n ↔ s < 2 ^ n :=
  ⟨fun h => sets_lt ⟨n, by omega⟩ s h, fun h => sets_all ⟨n, by omega⟩ ⟨s, by have := pow_le16 hn; omega⟩ h⟩
theorem ltSet_irr (n a : Nat) : ¬ ltSet n a a := by unfold ltSet; omega
theorem ltSet_asy (n a b : Nat) : ltSet n a b → ¬ ltSet n b a := by unfold ltSet; omega
theorem lotCount_is (n s : Nat) : (members s n).length = lotCount n s := rfl
/-! ## overdemanded -/
theorem count_range {α : Type} (d : α) (q : α → Bool) (l : List α) : ((List.range l.length).filter fun i => q (l.getD i d)).length = (l.filter q).length := by
  have key : l = (List.range l.length).map fun i => l.getD i d := by
    apply List.ext_getElem
    · simp
    · intro i h1 h2
      simp [List.getD, h1]
  have e : (l.filter q).length = (((List.range l.length).map fun i => l.getD i d).filter q).length := by rw [← key]
  rw [e, List.filter_map, List.length_map]
  rfl
theorem constrained_is (b : Bids) (p : List Int) (s : Nat) : ((b.map fun row => demand row p).filter fun d => within d s).length = constrainedBidders b p p.length s := by
  unfold constrainedBidders
  rw [List.filter_map, List.length_map, ← count_range [] _ b]
  congr 1
  refine List.filter_congr fun i _ => ?_
  show within (demand (b.getD i []) p) s = _
  rw [demand_is]
  unfold within
  rfl
theorem over_is (b : Bids) (p : List Int) (s : Nat) : over (b.map fun row => demand row p) p.length s = isOverdemanded b p p.length s := by
  unfold over isOverdemanded
  rw [constrained_is, lotCount_is]
theorem demand_mem {row p : List Int} {c : Option Nat} (h : c ∈ demand row p) : util row p c = maxL ((every p.length).map (util row p)) ∧ ∀ j, c = some j → j < p.length := by
  unfold demand at h
  obtain ⟨h1, h2⟩ := List.mem_filter.mp h
  refine ⟨eq_of_beq h2, ?_⟩
  rintro j rfl
  unfold every at h1
  simpa using h1
theorem util_max_nonneg (row p : List Int) : 0 ≤ maxL ((every p.length).map (util row p)) := by
  have : (0 : Int) ∈ (every p.length).map (util row p) := List.mem_map.mpr ⟨none, by unfold every; simp, rfl⟩
  exact maxL_ge this
/-- who is constrained to a set, demands a lot of it -/
theorem over_some {b : Bids} {p : List Int} {s : Nat} (h : isOverdemanded b p p.length s = true) : ∃ j, j < p.length ∧ containsLot s j = true := by
  rw [← over_is] at h
  unfold over at h
  have h := of_decide_eq_true h
  have hpos : 0 < ((b.map fun row => demand row p).filter fun d => within d s).length := by omega
  obtain ⟨d, hd⟩ := List.exists_mem_of_length_pos hpos
  obtain ⟨h1, h2⟩ := List.mem_filter.mp hd
  obtain ⟨row, _, rfl⟩ := List.mem_map.mp h1
  obtain ⟨c, hc⟩ := List.exists_mem_of_length_pos (demand_pos row p)
  have h2 : (demand row p).all (inSet s) = true := h2
  have := (List.all_eq_true.mp h2) c hc
  cases c with
  | none => cases this
  | some j => exact ⟨j, (demand_mem hc).2 j rfl, this⟩
theorem over_pos {b : Bids} {p : List Int} {s : Nat} (h : isOverdemanded b p p.length s = true) : 0 < s := by
  obtain ⟨j, _, h⟩ := over_some h
  cases s with
  | zero => rw [has_zero] at h; cases h
  | succ s => exact Nat.succ_pos _
/-- what min hands over -/
theorem first_is {b : Bids} {p : List Int} {m : Nat} (hn : p.length ≤ 4) (hm : m ∈ overs (b.map fun row => demand row p) p.length)
    (h : ∀ y ∈ overs (b.map fun row => demand row p) p.length, ¬ ltSet p.length y m) : firstOverdemanded b p p.length = some m := by
  unfold firstOverdemanded
  obtain ⟨h1, h2⟩ := List.mem_filter.mp hm
  rw [over_is] at h2
  have hp := Nat.two_pow_pos p.length
  refine find_first (sets_sorted ⟨p.length, by omega⟩) ((mem_sets hn).mpr ?_) h2 ?_
  · rw [List.mem_range'_1] at h1; omega
  · intro y hy hq
    refine h y (List.mem_filter.mpr ⟨?_, by rw [over_is]; exact hq⟩)
    have := over_pos hq
    have := (mem_sets hn).mp hy
    rw [List.mem_range'_1]; omega
theorem first_none {b : Bids} {p : List Int} (hn : p.length ≤ 4) (h : overs (b.map fun row => demand row p) p.length = []) : firstOverdemanded b p p.length = none := by
  unfold firstOverdemanded
  rw [List.find?_eq_none]
  intro y hy hq
  have h1 := over_pos hq
  have h2 := (mem_sets hn).mp hy
  have : y ∈ overs (b.map fun row => demand row p) p.length := by
    refine List.mem_filter.mpr ⟨?_, by rw [over_is]; exact hq⟩
    rw [List.mem_range'_1]; omega
  rw [h] at this
  cases this
def firstOver (b : List (List Int)) (p : List Int) : Nat := (firstOverdemanded b p p.length).getD 0
theorem firstOver_some {b : Bids} {p : List Int} {s : Nat} (h : firstOverdemanded b p p.length = some s) : firstOver b p = s ∧ 0 < s := by
  refine ⟨by unfold firstOver; rw [h]; rfl, ?_⟩
  exact over_pos (List.find?_some h)
/-! ## the clock ends -/
theorem drop16 : ∀ s : Fin 16, ∀ j k : Fin 4, containsLot s j = true → containsLot (s - 2 ^ (j : Nat)) k = (containsLot s k && (k : Nat) != j) := by decide +kernel
theorem dropCount : ∀ n : Fin 5, ∀ s : Fin 16, ∀ j : Fin 4, (s : Nat) < 2 ^ (n : Nat) → (j : Nat) < n → containsLot s j = true → lotCount n (s - 2 ^ (j : Nat)) < lotCount n s := by decide +kernel
theorem raised_low {b : Bids} {p : List Int} {s j : Nat} (hn : p.length ≤ 4) (hb : ∀ row ∈ b, ∀ x ∈ row, x ≤ 60) (h : firstOverdemanded b p p.length = some s) (hj : j < p.length) (hs : containsLot s j = true) : p.getD j 0 ≤ 60 := by
  refine Classical.byContradiction fun c => ?_
  have hc : 61 ≤ p.getD j 0 := by omega
  have ho := List.find?_some h
  have hlt : s < 2 ^ p.length := (mem_sets hn).mp (List.mem_of_find?_eq_some h)
  have h16 := pow_le16 hn
  have cnt := dropCount ⟨p.length, by omega⟩ ⟨s, by omega⟩ ⟨j, by omega⟩ hlt hj hs
  have hcnt : lotCount p.length (s - 2 ^ j) < lotCount p.length s := cnt
  have nod : ∀ row, row ∈ b ∨ row = [] → some j ∉ demand row p := by
    intro row hr hd
    have e := (demand_mem hd).1
    have g := util_max_nonneg row p
    have e : row.getD j (-1) - p.getD j 0 = maxL ((every p.length).map (util row p)) := e
    have : row.getD j (-1) ≤ 60 := by
      rw [List.getD_eq_getElem?_getD]
      cases q : row[j]? with
      | none => show (-1 : Int) ≤ 60; decide
      | some x =>
        show x ≤ 60
        rcases hr with hr | hr
        · exact hb row hr x (List.mem_of_getElem? q)
        · rw [hr] at q; simp at q
    omega
  have ho2 : isOverdemanded b p p.length (s - 2 ^ j) = true := by
    rw [← over_is] at ho ⊢
    unfold over at ho ⊢
    have ho := of_decide_eq_true ho
    refine decide_eq_true ?_
    have : ((b.map fun row => demand row p).filter fun d => within d s) = ((b.map fun row => demand row p).filter fun d => within d (s - 2 ^ j)) := by
      refine List.filter_congr fun d hd => ?_
      obtain ⟨row, hr, rfl⟩ := List.mem_map.mp hd
      unfold within
      rw [Bool.eq_iff_iff, List.all_eq_true, List.all_eq_true]
      have each : ∀ x ∈ demand row p, inSet s x = inSet (s - 2 ^ j) x := by
        intro x hx
        cases x with
        | none => rfl
        | some k =>
          have hk := (demand_mem hx).2 k rfl
          have kj : k ≠ j := fun e => nod row (.inl hr) (by rw [← e]; exact hx)
          show containsLot s k = containsLot (s - 2 ^ j) k
          have := drop16 ⟨s, by omega⟩ ⟨j, by omega⟩ ⟨k, by omega⟩ hs
          have this : containsLot (s - 2 ^ j) k = (containsLot s k && k != j) := this
          rw [this]
          have : (k != j) = true := by simp; exact kj
          rw [this, Bool.and_true]
      exact ⟨fun z x hx => by rw [← each x hx]; exact z x hx, fun z x hx => by rw [each x hx]; exact z x hx⟩
    rw [this] at ho
    rw [lotCount_is] at ho ⊢
    omega
  have := find_least (ltSet_irr p.length) (ltSet_asy p.length) (sets_sorted ⟨p.length, by omega⟩) h (s - 2 ^ j) ((mem_sets hn).mpr (Nat.lt_of_le_of_lt (Nat.sub_le s (2 ^ j)) hlt)) ho2
  exact this (.inl hcnt)
def phi (p : List Int) : Nat := (p.map fun x => (61 - x).toNat).sum
theorem phi_le : ∀ (p : List Int), (∀ x ∈ p, 0 ≤ x) → phi p ≤ p.length * 61
  | [], _ => by decide
  | x :: p, h => by
    have ih := phi_le p fun y hy => h y (List.mem_cons_of_mem _ hy)
    have hx := h x (List.mem_cons_self ..)
    show (61 - x).toNat + phi p ≤ (p.length + 1) * 61
    omega
def raiseFrom (s k : Nat) (p : List Int) : List Int := (p.zipIdx k).map fun x => if containsLot s x.2 = true then x.1 + 1 else x.1
theorem raise_cons (s k : Nat) (x : Int) (p : List Int) : raiseFrom s k (x :: p) = (if containsLot s k = true then x + 1 else x) :: raiseFrom s (k + 1) p := rfl
theorem phi_raise (s : Nat) : ∀ (p : List Int) (k : Nat), (∀ j, j < p.length → containsLot s (k + j) = true → p.getD j 0 ≤ 60) →
    phi (raiseFrom s k p) ≤ phi p ∧ ((∃ j, j < p.length ∧ containsLot s (k + j) = true) → phi (raiseFrom s k p) < phi p)
  | [], k, _ => ⟨Nat.le_refl _, fun ⟨j, h, _⟩ => by simp at h⟩
  | x :: p, k, h => by
    have ih := phi_raise s p (k + 1) fun j hj hs => h (j + 1) (by simp; omega) (by rw [show k + (j + 1) = k + 1 + j by omega]; exact hs)
    rw [raise_cons]
    show (61 - (if containsLot s k = true then x + 1 else x)).toNat + phi (raiseFrom s (k + 1) p) ≤ (61 - x).toNat + phi p ∧ _
    by_cases c : containsLot s k = true
    · have hx : x ≤ 60 := h 0 (by simp) (by rw [Nat.add_zero]; exact c)
      rw [if_pos c]
      refine ⟨by omega, fun _ => ?_⟩
      show (61 - (x + 1)).toNat + phi (raiseFrom s (k + 1) p) < (61 - x).toNat + phi p
      omega
    · rw [if_neg c]
      refine ⟨by omega, fun ⟨j, hj, hs⟩ => ?_⟩
      show (61 - x).toNat + phi (raiseFrom s (k + 1) p) < (61 - x).toNat + phi p
      have : phi (raiseFrom s (k + 1) p) < phi p := ih.2 (by
        cases j with
        | zero => exact absurd hs (by rw [Nat.add_zero]; exact c)
        | succ j => exact ⟨j, by simp at hj; omega, by rw [show k + 1 + j = k + (j + 1) by omega]; exact hs⟩)
      omega
theorem phi_turn {b : Bids} {p : List Int} {s : Nat} (hn : p.length ≤ 4) (hb : ∀ row ∈ b, ∀ x ∈ row, x ≤ 60) (h : firstOverdemanded b p p.length = some s) : phi (raisePrices p s) < phi p := by
  have e : raisePrices p s = raiseFrom s 0 p := rfl
  rw [e]
  refine (phi_raise s p 0 fun j hj hs => raised_low hn hb h hj (by rw [Nat.zero_add] at hs; exact hs)).2 ?_
  obtain ⟨j, h1, h2⟩ := over_some (List.find?_some h)
  exact ⟨j, h1, by rw [Nat.zero_add]; exact h2⟩
/-- where the clock stands: the sets so far, the prices, the rounds that are left at most -/
structure ClockAt (b : Bids) (n f0 : Nat) (p0 : List Int) (sets : List Nat) (p : List Int) (f : Nat) : Prop where
  eq : runClockFrom b n f0 p0 = (sets ++ (runClockFrom b n f p).1, (runClockFrom b n f p).2)
  fuel : phi p < f
  len : sets.length + f = f0
  plen : p.length = n
theorem clock_start (r : List Nat) (b : Bids) : ClockAt b r.length (r.length * (maxBid + 1) + 1) (toInts r) [] (toInts r) (r.length * (maxBid + 1) + 1) := by
  refine ⟨rfl, ?_, by simp, toInts_len r⟩
  have := phi_le (toInts r) fun x hx => by
    unfold toInts at hx
    obtain ⟨n, _, rfl⟩ := List.mem_map.mp hx
    exact Int.natCast_nonneg n
  rw [toInts_len] at this
  show phi (toInts r) < r.length * 61 + 1
  omega
theorem clock_turn {b : Bids} {n f0 : Nat} {p0 : List Int} {sets : List Nat} {p : List Int} {f s : Nat} (hn : n ≤ 4) (hb : ∀ row ∈ b, ∀ x ∈ row, x ≤ 60) (h : ClockAt b n f0 p0 sets p f) (hs : firstOverdemanded b p p.length = some s) :
    ∃ f', f = f' + 1 ∧ ClockAt b n f0 p0 (sets ++ [s]) (raisePrices p s) f' := by
  obtain ⟨eq, fuel, len, plen⟩ := h
  cases f with
  | zero => omega
  | succ f' =>
    have ht := phi_turn (by omega) hb hs
    rw [plen] at hs
    have e : runClockFrom b n (f' + 1) p = (s :: (runClockFrom b n f' (raisePrices p s)).1, (runClockFrom b n f' (raisePrices p s)).2) := by
      show (match firstOverdemanded b p n with
        | none => ([], p)
        | some s => let x := runClockFrom b n f' (raisePrices p s)
          (s :: x.1, x.2)) = _
      rw [hs]
    refine ⟨f', rfl, ?_, by omega, by simp; omega, ?_⟩
    · rw [eq, e]; simp
    · unfold raisePrices; simp; exact plen
theorem clock_end {b : Bids} {n f0 : Nat} {p0 : List Int} {sets : List Nat} {p : List Int} {f : Nat} (h : ClockAt b n f0 p0 sets p f) (hs : firstOverdemanded b p p.length = none) : runClockFrom b n f0 p0 = (sets, p) := by
  obtain ⟨eq, fuel, len, plen⟩ := h
  cases f with
  | zero => omega
  | succ f' =>
    rw [plen] at hs
    have e : runClockFrom b n (f' + 1) p = ([], p) := by
      show (match firstOverdemanded b p n with
        | none => ([], p)
        | some s => let x := runClockFrom b n f' (raisePrices p s)
          (s :: x.1, x.2)) = _
      rw [hs]
    rw [eq, e]; simp
end SL
end
/-! ## W0 -/
section
namespace SL
open PySem PySem.Spec PyProof.Rows L2
/-! ### the text -/
def top (i : Nat) : Stmt := PySem.Challenge.pw_sealedlots_s01_answers.main.body.getD i (.Pass ⟨0, 0, 0, 0⟩)
/-- a def of the module's own, as its callers see it -/
def Ok (P : Program) (w : World) (K : PySem.W.Frag) (mg : Str → Option Value) (base : Heap) (CX : CXT) (k : Nat) (x : Str) (ps : List Str) (sp : Sp) : Prop :=
  ∃ (f : Addr) (fd : FuncData), mg x = some (.ref f) ∧ PySem.W.keepIn K (.ref f) = true ∧ Binds K fd ps [] ∧ FnOk P w K mg base CX k f fd ps sp
/-- a def of the module's own, as the top leaves it -/
structure Def (K : PySem.W.Frag) (mg : Str → Option Value) (x qual : Str) (st : Stmt) (ps : List Str) (f : Addr) (fd : FuncData) : Prop where
  fn : Fun K x qual st f fd
  g : mg x = some (.ref f)
  b : Binds K fd ps []
theorem Def.ok {P : Program} {w : World} {K : PySem.W.Frag} {mg : Str → Option Value} {base : Heap} {CX : CXT} {k : Nat} {x qual : Str} {st : Stmt} {ps : List Str} {sp : Sp} {f : Addr} {fd : FuncData} (D : Def K mg x qual st ps f fd) (F : FnOk P w K mg base CX k f fd ps sp) :
    Ok P w K mg base CX k x ps sp := ⟨f, fd, D.g, D.fn.kp, D.b, F⟩
/-- what the top leaves of numbers, and which names are still the built-in ones -/
structure Tx (mg : Str → Option Value) : Prop where
  none : ∃ t, mg "NONE" = some (.int (-1) t)
  tooLow : ∃ t, mg "TOO_LOW" = some (.int 1 t)
  notDem : ∃ t, mg "NOT_DEMANDED" = some (.int 2 t)
  wrongA : ∃ t, mg "WRONG_ARGUMENT" = some (.int (-1) t)
  noAuc : ∃ t, mg "NO_AUCTION" = some (.int (-2) t)
  notCl : ∃ t, mg "NOT_CLOSED" = some (.int (-5) t)
  isCl : ∃ t, mg "IS_CLOSED" = some (.int (-6) t)
  wrongL : ∃ t, mg "WRONG_LENGTH" = some (.int (-7) t)
  bidders : ∃ t, mg "BIDDERS" = some (.int 5 t)
  mostL : ∃ t, mg "MOST_LOTS" = some (.int 4 t)
  mostB : ∃ t, mg "MOST_BID" = some (.int 60 t)
  mostP : ∃ t, mg "MOST_PRICE" = some (.int 1000 t)
  sum : mg "sum" = Option.none
  enumerate : mg "enumerate" = Option.none
  range : mg "range" = Option.none
  max : mg "max" = Option.none
  min : mg "min" = Option.none
  len : mg "len" = Option.none
  reversed : mg "reversed" = Option.none
  list : mg "list" = Option.none
  all : mg "all" = Option.none
  int : mg "int" = Option.none
  exc : mg "Exception" = Option.none
theorem relI (i : Int) (t : Tok) : RelV (.int i) (.int i t) := ⟨t, rfl⟩
/-! ### heaps -/
abbrev IntsAt (K : PySem.W.Frag) (H : Hp) (a : Addr) (ns : List Int) : Prop := SqL K H a (ns.map V.int)
def lotV (c : Option Nat) : V := .int (Vbndax.lotNumber c)
/-- a list of lists of ints -/
def RowsAt (K : PySem.W.Frag) (H : Hp) (a : Addr) (b : List (List Int)) : Prop := ∃ qs : List Addr, SqL K H a (qs.map V.ref) ∧ qs.length = b.length ∧ ∀ (i : Nat) (q : Addr) (row : List Int), qs[i]? = some q → b[i]? = some row → IntsAt K H q row
section
variable {K : PySem.W.Frag} {H H1 H2 H3 H' : Hp} {a p D : Addr} {o : HO}
theorem _root_.L2.Same.new (h : H p = none) (s : Same H H') : Same H (upd H' p o) := fun b x e => by
  rw [upd_ne (ne_of_none e h)]
  exact s b x e
theorem _root_.L2.Same.up (h : H p = none) : Same H (upd H p o) := L2.Same.new h (Same.refl H)
theorem _root_.L2.Same.ints (s : Same H H') {ns : List Int} (h : IntsAt K H a ns) : IntsAt K H' a ns := s.seq h
theorem _root_.L2.Same.rows (s : Same H H') {b : List (List Int)} (h : RowsAt K H a b) : RowsAt K H' a b := by
  obtain ⟨qs, h1, h2, h3⟩ := h
  exact ⟨qs, s.seq h1, h2, fun i q row e1 e2 => s.ints (h3 i q row e1 e2)⟩
theorem RowsAt.get {b : List (List Int)} (h : RowsAt K H a b) : ∃ qs : List Addr, SqL K H a (qs.map V.ref) ∧ qs.length = b.length ∧ ∀ (i : Nat) (row : List Int), b[i]? = some row → ∃ q : Addr, qs[i]? = some q ∧ (qs.map V.ref)[i]? = some (V.ref q) ∧ IntsAt K H q row := by
  obtain ⟨qs, h1, h2, h3⟩ := h
  refine ⟨qs, h1, h2, fun i row e => ?_⟩
  have hi : i < qs.length := by
    rw [h2]
    exact (List.getElem?_eq_some_iff.mp e).1
  have e1 : qs[i]? = some qs[i] := by simp [hi]
  refine ⟨qs[i], e1, ?_, h3 i _ row e1 e⟩
  rw [List.getElem?_map, e1]; rfl
theorem IntsAt.of {ns : List Int} (h : H a = some (.lst (ns.map V.int))) : IntsAt K H a ns := SqL.of h
theorem sz (n : Nat) (h : n ≤ 10000000) : n ≤ sizeLine := by rw [sizeLine_eq]; omega
theorem szl (n : Nat) (h : n ≤ 10000000) : n < sizeLine := by rw [sizeLine_eq]; omega
/-- the comprehension's list so far -/
def Made (H1 : Hp) (D : Addr) (out : Nat → List V) (i : Nat) (H : Hp) : Prop := Same H1 H ∧ H D = some (.lst (out i))
theorem Made.zero {out : Nat → List V} (hD : H1 D = none) (h0 : out 0 = []) : Made H1 D out 0 (upd H1 D (.lst [])) := ⟨L2.Same.up hD, by rw [h0]; exact upd_same⟩
theorem Made.put {out : Nat → List V} {i : Nat} {y : V} {P : Hp → Prop} (hD : H1 D = none) (m : Made H1 D out i H) (s : Same H H') (l : (out i).length ≤ 10000000) (e : out (i + 1) = out i ++ [y]) (k : ∀ H, Made H1 D out (i + 1) H → P H) :
    ∃ acc, H' D = some (.lst acc) ∧ acc.length < sizeLine ∧ P (upd H' D (.lst (acc ++ [y]))) :=
  ⟨out i, s _ _ m.2, szl _ l, k _ ⟨L2.Same.new hD (m.1.trans s), by rw [upd_same, e]⟩⟩
theorem Made.skip {out : Nat → List V} {i : Nat} (m : Made H1 D out i H) (s : Same H H') (e : out (i + 1) = out i) : Made H1 D out (i + 1) H' := ⟨m.1.trans s, by rw [e]; exact s _ _ m.2⟩
end
theorem yes_go {σ : L2.St} {H : Hp} {Q : Bool → Hp → Prop} (h : Q true H) : tYes σ H Q := h
/-- the first step of a comprehension's turn without a test -/
theorem yes_if {σ : L2.St} {H : Hp} {A B : Hp → Prop} (h : A H) : tYes σ H (fun b H3 => if b = true then A H3 else B H3) := by
  show (if true = true then A H else B H)
  rw [if_pos rfl]
  exact h
/-! ### lists by their first items -/
section
variable {α β : Type}
theorem take_next : ∀ {l : List α} {i : Nat} {x : α}, l[i]? = some x → l.take (i + 1) = l.take i ++ [x]
  | [], i, x, h => by simp at h
  | a :: l, 0, x, h => by
    have e : a = x := Option.some.inj h
    subst e
    rfl
  | a :: l, i + 1, x, h => by
    show a :: l.take (i + 1) = a :: l.take i ++ [x]
    rw [take_next (l := l) (i := i) (x := x) h]
    rfl
def outs (l : List α) (p : α → Bool) (f : α → β) (i : Nat) : List β := ((l.take i).filter p).map f
theorem outs_zero (l : List α) (p : α → Bool) (f : α → β) : outs l p f 0 = [] := by unfold outs; simp
theorem outs_yes {l : List α} {p : α → Bool} {f : α → β} {i : Nat} {x : α} (h : l[i]? = some x) (hp : p x = true) : outs l p f (i + 1) = outs l p f i ++ [f x] := by
  unfold outs
  rw [take_next h, List.filter_append, List.map_append, List.filter_cons_of_pos hp]
  rfl
theorem outs_no {l : List α} {p : α → Bool} {f : α → β} {i : Nat} {x : α} (h : l[i]? = some x) (hp : p x = false) : outs l p f (i + 1) = outs l p f i := by
  unfold outs
  rw [take_next h, List.filter_append, List.map_append, List.filter_cons_of_neg (by rw [hp]; decide)]
  simp
theorem outs_all (l : List α) (p : α → Bool) (f : α → β) : outs l p f l.length = (l.filter p).map f := by unfold outs; rw [List.take_length]
theorem outs_len (l : List α) (p : α → Bool) (f : α → β) (i : Nat) : (outs l p f i).length ≤ l.length := by
  unfold outs
  rw [List.length_map]
  refine Nat.le_trans (List.length_filter_le _ _) ?_
  rw [List.length_take]
  omega
theorem filter_yes (l : List α) : l.filter (fun _ => true) = l := by rw [List.filter_eq_self]; intros; rfl
theorem range_at {n i : Nat} (h : i < n) : (List.range n)[i]? = some i := by simp [h]
end
/-- range(n): the ints themselves -/
theorem walk_upto {n : Nat} : Walk (Itr 0 n) n (fun _ => True) (fun i H x H' => H' = H ∧ x = V.int (i : Nat)) :=
  walk_range.mono (fun _ h => h) fun i H x H' _ _ y => ⟨y.1, by rw [y.2]; show V.int (0 + (i : Int)) = _; rw [Int.zero_add]⟩
/-! ### bits -/
theorem has_int (lots lot : Nat) : Builtin.bitAnd ((lots : Int) / 2 ^ ((lot : Int)).toNat) 1 = ((lots / 2 ^ lot % 2 : Nat) : Int) := by
  have h0 : (0 : Int) ≤ (lots : Int) / 2 ^ lot := Int.ediv_nonneg (Int.natCast_nonneg _) (Int.le_of_lt (Int.pow_pos (by decide)))
  have h := Bits.bitAnd_mask (x := (lots : Int) / 2 ^ lot) 1 h0
  have e : ((2 : Int) ^ 1 - 1) = 1 := by decide
  rw [e] at h
  rw [Int.toNat_natCast, h]
  simp
theorem has_dec (lots lot : Nat) : decide (V.int (Builtin.bitAnd ((lots : Int) / 2 ^ ((lot : Int)).toNat) 1) = V.int 1) = Vbndax.containsLot lots lot := by
  rw [has_int]
  unfold Vbndax.containsLot
  rw [Bool.eq_iff_iff, decide_eq_true_iff, beq_iff_eq]
  constructor
  · intro h
    have h := V.int.inj h
    omega
  · intro h
    rw [h]; rfl
theorem shl_one (j : Nat) : (1 : Int) * 2 ^ ((j : Int)).toNat = ((2 ^ j : Nat) : Int) := by
  rw [Int.toNat_natCast]; simp
end SL
end
/-! ## W1 -/
section
namespace SL
open PySem PySem.Spec PyProof.Rows L2
section
variable {P : Program} {w : World} {K : PySem.W.Frag} {mg : Str → Option Value} {base : Heap}
/-! ### has -/
abbrev sHas : Stmt := top 2
theorem scHas : FnScope ["lots", "lot"] ["lots", "lot"] (defScope sHas) := ⟨rfl, rfl, rfl, by decide +kernel, rfl, by decide +kernel, by decide +kernel⟩
def spHas : Sp := fun vs H Q _ => ∃ lots lot : Nat, vs = [.int lots, .int lot] ∧ Q (.bl (Vbndax.containsLot lots lot)) H
theorem ok_has {f : Addr} {fd : FuncData} (D : Def K mg "has" "has" sHas ["lots", "lot"] f fd) : Ok P w K mg base CX0 1 "has" ["lots", "lot"] spHas := by
  refine D.ok (D.fn.ok scHas (fun vs H Q E h => ?_) (fun cdv A outer s H vs Q E hr h => ⟨_, pss_one (ps_ret (pe_cmpR op_eq (pe_op op_and (pe_op op_shr (pv 0) (pv 1)) pe_int) pe_int (nomark _))), ?_⟩))
  · obtain ⟨a, b, rfl, _⟩ := h
    rfl
  · obtain ⟨lots, lot, rfl, q⟩ := h
    refine ⟨_, rfl, _, rfl, _, _, rfl, rfl, Int.natCast_nonneg _, _, _, rfl, rfl, ?_⟩
    refine ⟨rfl, ?_⟩
    show Q (.bl (decide (V.int (Builtin.bitAnd ((lots : Int) / 2 ^ ((lot : Int)).toNat) 1) = V.int 1))) H
    rw [has_dec]
    exact q
/-! ### reserves_outside -/
abbrev sOut : Stmt := top 3
theorem scOut : FnScope ["reserves", "lots", "lot", "reserve"] ["reserves", "lots"] (defScope sOut) := ⟨rfl, rfl, rfl, by decide +kernel, rfl, by decide +kernel, by decide +kernel⟩
def spOut (K : PySem.W.Frag) : Sp := fun vs H Q _ => ∃ (a : Addr) (r : List Int) (lots : Nat), vs = [.ref a, .int lots] ∧ IntsAt K H a r ∧ r.length ≤ 1000 ∧ ∀ H', Same H H' → Q (.int (resOut r lots)) H'
theorem ok_out {f : Addr} {fd : FuncData} (T : Tx mg) (D : Def K mg "reserves_outside" "reserves_outside" sOut ["reserves", "lots"] f fd) (Gh : Ok P w K mg base CX0 1 "has" ["lots", "lot"] spHas) :
    Ok P w K mg base CX0 2 "reserves_outside" ["reserves", "lots"] (spOut K) := by
  obtain ⟨fh, fdh, gh, kh, bh, Fh⟩ := Gh
  refine D.ok (D.fn.ok scOut (fun vs H Q E h => ?_) (fun cdv A outer s H vs Q E hr h => ⟨_, pss_one (ps_ret (pe_callB (cr_sum rfl) (by rfl) T.sum (by decide +kernel) (pa_cons
      (pe_lc (own := [("lot", 2), ("reserve", 3)]) (g := gTup K 2 (gCons (gName 2) (gCons (gName 3) gNil))) rfl scOut.nd (pi_enum (by rfl) T.enumerate (pa_cons (pv 0) pa_nil)) (blkOk_by (N := ["reserves", "lots", "lot", "reserve"]) (sc := defScope sOut) (by decide +kernel))
        (fun _ _ _ _ _ => pg_tup rfl (pgs_cons (pg_name (i := 2) scOut.nd rfl (Or.inl rfl)) (pgs_cons (pg_name (i := 3) scOut.nd rfl (Or.inl rfl)) pgs_nil)))
        (fun _ _ _ _ _ => pts_one (pt_not (pt_val (pe_call Fh hr rfl gh kh bh .nil pass0 (pa_cons (pv 1) (pa_cons (pv 2) pa_nil))))))
        (fun _ _ _ _ _ => pv 3)) pa_nil))), ?_⟩))
  · obtain ⟨a, b, c, rfl, _⟩ := h
    rfl
  · obtain ⟨a, r, lots, rfl, hr, hl, q⟩ := h
    have hlen : ∀ i, (outs r.zipIdx (fun x => !Vbndax.containsLot lots x.2) (fun x => V.int x.1) i).length ≤ 10000000 := fun i => Nat.le_trans (outs_len _ _ _ i) (by rw [List.length_zipIdx]; omega)
    refine ⟨_, rfl, a, r.map V.int, rfl, hr, fun D hD => lc_it walk_enum (Made H D (outs r.zipIdx (fun x => !Vbndax.containsLot lots x.2) (fun x => V.int x.1))) (Made.zero hD (outs_zero _ _ _)) (fun i H' _ m => m.1.seq hr) ?_ ?_⟩
    · rintro i x H2 H3 hi m ⟨T1, x1, y1, rfl, hT, rfl, e1, e2⟩
      obtain rfl : x1 = V.int (i : Nat) := (Option.some.inj e1).symm
      rw [List.length_map] at hi
      have hri : r[i]? = some r[i] := by simp [hi]
      have hz : r.zipIdx[i]? = some (r[i], i) := by simp [hi]
      obtain rfl : y1 = V.int r[i] := by
        have e2 : (r.map V.int)[i]? = some y1 := e2
        rw [List.getElem?_map, hri] at e2
        exact (Option.some.inj e2).symm
      refine ⟨T1, _, rfl, SqT.of upd_same, rfl, _, _, rfl, _, _, rfl, rfl, rfl, _, rfl, _, rfl, lots, i, rfl, _, rfl, ?_⟩
      refine ite2 (fun c => ?_) (fun c => ?_)
      · exact ⟨_, rfl, Made.put hD m (L2.Same.up hT) (hlen i) (outs_yes hz c) fun _ z => z⟩
      · exact Made.skip m (L2.Same.up hT) (outs_no hz (by simpa using c))
    · intro H2 m
      rw [List.length_map] at m
      refine ⟨D, ((r.zipIdx.filter fun x => !Vbndax.containsLot lots x.2).map (·.1)), rfl, ?_, ?_⟩
      · refine SqL.of (m.2.trans ?_)
        have : r.length = r.zipIdx.length := by simp
        rw [this, outs_all, List.map_map]
        rfl
      · exact q _ m.1
end
end SL
end
/-! ## W2 -/
section
namespace SL
open PySem PySem.Spec PyProof.Rows L2
theorem at_int {ns : List Int} {z : Int} {j : Nat} (e : z = (j : Int)) (h : j < ns.length) (d : Int) : atI (ns.map V.int) z = some (V.int (ns.getD j d)) := by
  refine at_of e ?_
  simp [List.getD, h]
theorem lot_ne (j : Nat) : decide (lotV (some j) = V.int (-1)) = false := by
  refine decide_eq_false fun h => ?_
  have h : V.int (j : Int) = V.int (-1) := h
  have h := V.int.inj h
  omega
theorem lot_eq : decide (lotV none = V.int (-1)) = true := by
  refine decide_eq_true ?_
  rfl
theorem lot_scal (c : Option Nat) : scal (lotV c) (V.int (-1)) = true := by
  cases c <;> rfl
theorem choices_mem {lots many j : Nat} (h : some j ∈ choices lots many) : j < many ∧ Vbndax.containsLot lots j = false := by
  unfold choices at h
  simp at h
  exact h
theorem choices_len (lots many : Nat) : (choices lots many).length ≤ many + 1 := by
  unfold choices
  rw [List.length_append, List.length_map]
  have := List.length_filter_le (fun j => !Vbndax.containsLot lots j) (List.range many)
  rw [List.length_range] at this
  show _ + 1 ≤ _
  omega
theorem map_get {α β : Type} {l : List α} {f : α → β} {i : Nat} {y : β} (h : (l.map f)[i]? = some y) : ∃ x, l[i]? = some x ∧ y = f x := by
  rw [List.getElem?_map] at h
  cases e : l[i]? with
  | none => rw [e] at h; cases h
  | some x => rw [e] at h; exact ⟨x, rfl, (Option.some.inj h).symm⟩
section
variable {P : Program} {w : World} {K : PySem.W.Frag} {mg : Str → Option Value} {base : Heap}
/-! ### value_with -/
abbrev sWith : Stmt := top 4
theorem scWith : FnScope ["bids", "lots", "lot", "behind"] ["bids", "lots", "lot", "behind"] (defScope sWith) := ⟨rfl, rfl, rfl, by decide +kernel, rfl, by decide +kernel, by decide +kernel⟩
def spWith (K : PySem.W.Frag) : Sp := fun vs H Q _ => ∃ (a b : Addr) (row behind : List Int) (lots : Nat) (c : Option Nat), vs = [.ref a, .int lots, lotV c, .ref b] ∧ IntsAt K H a row ∧ IntsAt K H b behind ∧ lots < behind.length ∧
  (∀ j, c = some j → j < row.length ∧ j ≤ 1000 ∧ lots + 2 ^ j < behind.length) ∧ Q (.int (valWith row lots behind c)) H
theorem ok_with {f : Addr} {fd : FuncData} (T : Tx mg) (D : Def K mg "value_with" "value_with" sWith ["bids", "lots", "lot", "behind"] f fd) : Ok P w K mg base CX0 1 "value_with" ["bids", "lots", "lot", "behind"] (spWith K) := by
  obtain ⟨tn, hn⟩ := T.none
  refine D.ok (D.fn.ok scWith (fun vs H Q E h => ?_) (fun cdv A outer s H vs Q E hr h => ⟨_, pss_one (ps_ret (pe_ifExp (pt_cmpR op_eq (pv 2) (pe_glob rfl hn (relI _ _)) (nomark _)) (pe_ix ix_list (pv 3) (pv 1) (fun _ _ => rfl))
      (pe_op op_add (pe_ix ix_list (pv 0) (pv 2) (fun _ _ => rfl)) (pe_ix ix_list (pv 3) (pe_op op_add (pv 1) (pe_op op_shl pe_int (pv 2))) (fun _ _ => rfl))))), ?_⟩))
  · obtain ⟨_, _, _, _, _, _, rfl, _⟩ := h
    rfl
  · obtain ⟨a, b, row, behind, lots, c, rfl, ha, hb, hl, hj, q⟩ := h
    refine ⟨_, rfl, lot_scal c, _, rfl, ?_⟩
    cases c with
    | none =>
      rw [lot_eq]
      exact iteT ⟨_, rfl, _, rfl, b, _, _, _, rfl, rfl, hb, at_int rfl hl 0, q⟩
    | some j =>
      rw [lot_ne]
      obtain ⟨h1, h2, h3⟩ := hj j rfl
      refine iteF ⟨_, rfl, _, rfl, a, _, _, _, rfl, rfl, ha, at_int rfl h1 (-1), _, rfl, _, rfl, _, rfl, _, _, rfl, rfl, ⟨Int.natCast_nonneg j, by show (j : Int) ≤ 1000000; omega, by decide⟩, _, _, rfl, rfl, b, _, _, _, rfl, rfl, hb, at_int (j := lots + 2 ^ j) ?_ h3 0, _, _, rfl, rfl, q⟩
      show (lots : Int) + 1 * 2 ^ ((j : Int)).toNat = _
      rw [shl_one]; simp
/-! ### choices -/
abbrev sChoices : Stmt := top 5
theorem scChoices : FnScope ["lots", "many", "lot"] ["lots", "many"] (defScope sChoices) := ⟨rfl, rfl, rfl, by decide +kernel, rfl, by decide +kernel, by decide +kernel⟩
def spChoices : Sp := fun vs H Q _ => ∃ lots many : Nat, vs = [.int lots, .int many] ∧ many ≤ 1000 ∧ ∀ H' p, Same H H' → H p = none → H' p = some (.lst ((choices lots many).map lotV)) → Q (.ref p) H'
theorem ok_choices {f : Addr} {fd : FuncData} (T : Tx mg) (D : Def K mg "choices" "choices" sChoices ["lots", "many"] f fd) (Gh : Ok P w K mg base CX0 1 "has" ["lots", "lot"] spHas) :
    Ok P w K mg base CX0 2 "choices" ["lots", "many"] spChoices := by
  obtain ⟨fh, fdh, gh, kh, bh, Fh⟩ := Gh
  obtain ⟨tn, hn⟩ := T.none
  refine D.ok (D.fn.ok scChoices (fun vs H Q E h => ?_) (fun cdv A outer s H vs Q E hr h => ⟨_, pss_one (ps_ret (pe_op op_cat
      (pe_lc (own := [("lot", 2)]) (g := gName 2) rfl scChoices.nd (pi_range1 (by rfl) T.range (pa_cons (pv 1) pa_nil)) (blkOk_by (N := ["lots", "many", "lot"]) (sc := defScope sChoices) (by decide +kernel))
        (fun _ _ _ _ _ => pg_name (i := 2) scChoices.nd rfl (Or.inl rfl))
        (fun _ _ _ _ _ => pts_one (pt_not (pt_val (pe_call Fh hr rfl gh kh bh .nil pass0 (pa_cons (pv 0) (pa_cons (pv 2) pa_nil))))))
        (fun _ _ _ _ _ => pv 2))
      (pe_lst (pa_cons (pe_glob rfl hn (relI _ _)) pa_nil)))), ?_⟩))
  · obtain ⟨_, _, rfl, _⟩ := h
    rfl
  · obtain ⟨lots, many, rfl, hm, q⟩ := h
    have hlen : ∀ i, (outs (List.range many) (fun j => !Vbndax.containsLot lots j) (fun j => lotV (some j)) i).length ≤ 10000000 := fun i => Nat.le_trans (outs_len _ _ _ i) (by rw [List.length_range]; omega)
    refine ⟨_, rfl, (many : Int), rfl, by omega, by omega, fun D hD => lc_it walk_upto (Made H D (outs (List.range many) (fun j => !Vbndax.containsLot lots j) (fun j => lotV (some j)))) (Made.zero hD (outs_zero _ _ _)) (fun _ _ _ _ => trivial) ?_ ?_⟩
    · rintro i x H2 H3 hi m ⟨rfl, rfl⟩
      rw [Int.toNat_natCast] at hi
      have hz := range_at hi
      refine ⟨rfl, _, rfl, _, rfl, lots, i, rfl, _, rfl, ?_⟩
      refine ite2 (fun c => ?_) (fun c => ?_)
      · exact ⟨_, rfl, Made.put hD m (Same.refl _) (hlen i) (outs_yes hz c) fun _ z => z⟩
      · exact Made.skip m (Same.refl _) (outs_no hz (by simpa using c))
    · intro H2 m
      rw [Int.toNat_natCast] at m
      refine ⟨sz 1 (by decide), fun p hp => ⟨D, p, _, _, rfl, rfl, (L2.Same.up hp) _ _ m.2, upd_same, ?_, fun p2 hp2 => ?_⟩⟩
      · have := hlen many
        exact sz _ (by show _ + 1 ≤ _; have := outs_len (List.range many) (fun j => !Vbndax.containsLot lots j) (fun j => lotV (some j)) many; rw [List.length_range] at this; omega)
      · have s1 : Same H (upd H2 p (.lst [V.int (-1)])) := L2.Same.new (L2.Same.free m.1 hp) m.1
        refine q _ p2 (L2.Same.new (L2.Same.free s1 hp2) s1) (L2.Same.free s1 hp2) (upd_same.trans ?_)
        have : many = (List.range many).length := by simp
        have e : outs (List.range many) (fun j => !Vbndax.containsLot lots j) (fun j => lotV (some j)) many = ((List.range many).filter fun j => !Vbndax.containsLot lots j).map fun j => lotV (some j) := by
          have := outs_all (List.range many) (fun j => !Vbndax.containsLot lots j) (fun j => lotV (some j))
          rw [List.length_range] at this
          exact this
        rw [e]
        unfold choices
        rw [List.map_append, List.map_map]
        rfl
end
end SL
end
/-! ## W3 -/
section
namespace SL
open PySem PySem.Spec PyProof.Rows L2
theorem ahead_len (row : List Int) (many : Nat) (behind : List Int) : (ahead row many behind).length = 2 ^ many := by unfold ahead; simp
section
variable {P : Program} {w : World} {K : PySem.W.Frag} {mg : Str → Option Value} {base : Heap}
/-! ### values_ahead -/
abbrev sAhead : Stmt := top 6
theorem scAhead : FnScope ["bids", "many", "behind", "found", "lots", "lot"] ["bids", "many", "behind"] (defScope sAhead) := ⟨rfl, rfl, rfl, by decide +kernel, rfl, by decide +kernel, by decide +kernel⟩
def spAhead (K : PySem.W.Frag) : Sp := fun vs H Q _ => ∃ (a b : Addr) (row behind : List Int) (many : Nat), vs = [.ref a, .int many, .ref b] ∧ IntsAt K H a row ∧ IntsAt K H b behind ∧ many ≤ 5 ∧ many ≤ row.length ∧ behind.length = 2 ^ many ∧
  ∀ H' p, Same H H' → H p = none → H' p = some (.lst ((ahead row many behind).map V.int)) → Q (.ref p) H'
theorem ok_ahead {f : Addr} {fd : FuncData} (T : Tx mg) (D : Def K mg "values_ahead" "values_ahead" sAhead ["bids", "many", "behind"] f fd) (Gc : Ok P w K mg base CX0 2 "choices" ["lots", "many"] spChoices)
    (Gw : Ok P w K mg base CX0 1 "value_with" ["bids", "lots", "lot", "behind"] (spWith K)) : Ok P w K mg base CX0 3 "values_ahead" ["bids", "many", "behind"] (spAhead K) := by
  obtain ⟨fc, fdc, gc, kc, bc, Fc⟩ := Gc
  obtain ⟨fw, fdw, gw, kw, bw, Fw⟩ := Gw
  refine D.ok (D.fn.ok scAhead (fun vs H Q E h => ?_) (fun cdv A outer s H vs Q E hr h => ⟨_,
      pss_cons (ps_set (i := 3) scAhead.nd rfl (Or.inl rfl) (pe_lst pa_nil))
      (pss_cons (ps_for PassesOwn.never rfl (pi_range1 (by rfl) T.range (pa_cons (pe_op op_shl pe_int (pv 1)) pa_nil)) (pg_name (i := 4) scAhead.nd rfl (Or.inr rfl))
        (pss_one (ps_expr (pe_bm PySem.F.plainAttrs_list PySem.F.slot_list_append PySem.F.type_list_append mt_append (pv 3) (pa_cons
          (pe_callB (cr_max rfl) (by rfl) T.max (by decide +kernel) (pa_cons
            (pe_lc (own := [("lot", 5)]) (g := gName 5) (tt := tYes) rfl scAhead.nd (pi_list (pe_call Fc hr rfl gc kc bc .nil pass0 (pa_cons (pv 4) (pa_cons (pv 1) pa_nil)))) (blkOk_by (N := ["bids", "many", "behind", "found", "lots", "lot"]) (sc := defScope sAhead) (by decide +kernel))
              (fun _ _ _ _ _ => pg_name (i := 5) scAhead.nd rfl (Or.inl rfl))
              (fun _ _ _ _ _ => pts_nil)
              (fun _ _ _ _ _ => pe_call Fw (hr.mono (by decide)) rfl gw kw bw .nil pass0 (pa_cons (pv 0) (pa_cons (pv 4) (pa_cons (pv 5) (pa_cons (pv 2) pa_nil))))))
            pa_nil)) pa_nil)))))
      (pss_one (ps_ret (pv 3)))), ?_⟩))
  · obtain ⟨_, _, _, _, _, rfl, _⟩ := h
    rfl
  · obtain ⟨a, b, row, behind, many, rfl, ha, hb, hm, hmr, hbl, q⟩ := h
    have h32 := pow_le32 hm
    refine ⟨sz 0 (by decide), fun F hF => ?_⟩
    have hF0 : H F = none := hF
    generalize hg : (fun lots : Nat => V.int (maxL ((choices lots many).map (valWith row lots behind)))) = g
    refine ⟨_, rfl, _, _, rfl, rfl, ⟨Int.natCast_nonneg _, by omega, by decide⟩, ((2 ^ many : Nat) : Int), by rw [← shl_one], by omega, by omega, for_it walk_upto (fun i σ H' => ∃ lv : Option V, σ = [some (.ref a), some (.int many), some (.ref b), some (.ref F), lv, none] ∧ Same H H' ∧
      H' F = some (.lst (outs (List.range (2 ^ many)) (fun _ => true) g i))) ⟨none, rfl, L2.Same.up hF, by rw [outs_zero]; exact upd_same⟩ (fun _ _ _ _ _ => trivial) ?_ ?_⟩
    · rintro i x σ H1 H1' hi ⟨lv, rfl, s1, h1⟩ ⟨rfl, rfl⟩
      rw [Int.toNat_natCast] at hi
      refine ⟨_, rfl, .inl ⟨rfl, _, SqL.of h1⟩, _, rfl, _, rfl, i, many, rfl, by omega, fun H2 p s2 hp2 hq => ⟨p, rfl, ⟨_, SqL.of hq⟩, fun D hD =>
        lc_it walk_list (Made H2 D (outs (choices i many) (fun _ => true) (fun c => V.int (valWith row i behind c)))) (Made.zero hD (outs_zero _ _ _)) (fun j H' _ m => m.1.seq (SqL.of hq)) ?_ ?_⟩⟩
      · rintro j x H3 H3' hj m ⟨rfl, e⟩
        obtain ⟨c, hc, rfl⟩ := map_get e
        refine ⟨rfl, yes_if ⟨_, rfl, _, rfl, _, rfl, _, rfl, a, b, row, behind, i, c, rfl, ((s1.trans s2).trans m.1).ints ha, ((s1.trans s2).trans m.1).ints hb, by omega, fun k hk => ?_, ?_⟩⟩
        · subst hk
          obtain ⟨k1, k2⟩ := choices_mem (List.mem_of_getElem? hc)
          have := grow hm hi k1 k2
          exact ⟨by omega, by omega, by omega⟩
        · exact Made.put hD m (Same.refl _) (Nat.le_trans (outs_len _ _ _ _) (Nat.le_trans (choices_len _ _) (by omega))) (outs_yes hc rfl) fun _ z => z
      · intro H3 m
        rw [List.length_map] at m
        have e3 : H3 D = some (.lst (((choices i many).map (valWith row i behind)).map V.int)) := by
          rw [m.2, outs_all, filter_yes, List.map_map]; rfl
        refine ⟨D, (choices i many).map (valWith row i behind), rfl, SqL.of e3, by rw [List.length_map]; exact choices_pos _ _, fun v hv hle => ?_⟩
        have hlen := outs_len (List.range (2 ^ many)) (fun _ => true) g i
        rw [List.length_range] at hlen
        refine ⟨F, _, _, rfl, rfl, m.1 _ _ (s2 _ _ h1), szl _ (by omega), _, rfl, L2.Same.new hF0 ((s1.trans s2).trans m.1), ?_⟩
        rw [upd_same, outs_yes (range_at hi) rfl, maxL_eq hv hle]
        subst hg
        rfl
    · rintro σ H1 ⟨lv, rfl, s1, h1⟩
      rw [Int.toNat_natCast] at h1
      refine ⟨_, rfl, q _ F s1 hF0 ?_⟩
      have e := outs_all (List.range (2 ^ many)) (fun _ => true) g
      rw [List.length_range, filter_yes] at e
      rw [h1, e]
      subst hg
      unfold ahead
      rw [List.map_map]
      rfl
end
end SL
end
/-! ## W4 -/
section
namespace SL
open PySem PySem.Spec PyProof.Rows L2
theorem table0_len (r : List Int) : (table0 r).length = 2 ^ r.length := by unfold table0; simp
theorem tables_shape (r : List Int) : ∀ b : List (List Int), ∃ t ts, tables r b = t :: ts ∧ t.length = 2 ^ r.length
  | [] => ⟨_, _, rfl, table0_len r⟩
  | row :: rest => ⟨_, _, rfl, ahead_len _ _ _⟩
theorem tables_len (r : List Int) : ∀ b : List (List Int), (tables r b).length = b.length + 1
  | [] => rfl
  | row :: rest => congrArg (· + 1) (tables_len r rest)
theorem seq_upd {K : PySem.W.Frag} {H : Hp} {q F : Addr} {o : HO} {xs : List V} (h : SqL K H q xs) (n : q ≠ F) : SqL K (upd H F o) q xs := by
  rcases h with (h | ⟨o, h⟩) | h
  · exact .inl (.inl (by rw [upd_ne n]; exact h))
  · exact .inl (.inr ⟨o, by rw [upd_ne n]; exact h⟩)
  · exact .inr h
/-- lists at addresses, none of them F -/
def Tabs (K : PySem.W.Frag) (H : Hp) (F : Addr) (zs : List Addr) (ts : List (List Int)) : Prop := zs.length = ts.length ∧ (∀ q ∈ zs, q ≠ F) ∧ ∀ (j : Nat) (q : Addr) (t : List Int), zs[j]? = some q → ts[j]? = some t → IntsAt K H q t
theorem Tabs.cons {K : PySem.W.Frag} {H : Hp} {F z : Addr} {zs : List Addr} {t : List Int} {ts : List (List Int)} (h : Tabs K H F zs ts) (n : z ≠ F) (hz : IntsAt K H z t) : Tabs K H F (z :: zs) (t :: ts) := by
  refine ⟨by simp [h.1], fun q hq => ?_, fun j q t' e1 e2 => ?_⟩
  · rcases List.mem_cons.mp hq with rfl | hq
    · exact n
    · exact h.2.1 q hq
  · cases j with
    | zero =>
      obtain rfl : z = q := Option.some.inj e1
      obtain rfl : t = t' := Option.some.inj e2
      exact hz
    | succ j => exact h.2.2 j q t' (by simpa using e1) (by simpa using e2)
theorem Tabs.keep {K : PySem.W.Frag} {H H' : Hp} {F : Addr} {zs : List Addr} {ts : List (List Int)} (h : Tabs K H F zs ts) (s : Same H H') : Tabs K H' F zs ts := ⟨h.1, h.2.1, fun j q t e1 e2 => s.ints (h.2.2 j q t e1 e2)⟩
theorem Tabs.upd {K : PySem.W.Frag} {H : Hp} {F : Addr} {o : HO} {zs : List Addr} {ts : List (List Int)} (h : Tabs K H F zs ts) : Tabs K (upd H F o) F zs ts :=
  ⟨h.1, h.2.1, fun j q t e1 e2 => seq_upd (h.2.2 j q t e1 e2) (h.2.1 q (List.mem_of_getElem? e1))⟩
theorem Tabs.nil {K : PySem.W.Frag} {H : Hp} {F : Addr} : Tabs K H F [] [] := ⟨rfl, fun q h => (by cases h), fun j q t e => (by simp at e)⟩
section
variable {P : Program} {w : World} {K : PySem.W.Frag} {mg : Str → Option Value} {base : Heap}
/-! ### value_tables -/
abbrev sTables : Stmt := top 7
theorem scTables : FnScope ["bids", "reserves", "many", "found", "row", "lots"] ["bids", "reserves"] (defScope sTables) := ⟨rfl, rfl, rfl, by decide +kernel, rfl, by decide +kernel, by decide +kernel⟩
/-- bids and reserves that belong together, at a and c -/
structure BidsAt (K : PySem.W.Frag) (H : Hp) (a c : Addr) (b : List (List Int)) (r : List Int) : Prop where
  rows : RowsAt K H a b
  res : IntsAt K H c r
  few : r.length ≤ 5
  each : ∀ row ∈ b, row.length = r.length
  most : b.length ≤ 1000
theorem BidsAt.keep {H H' : Hp} {a c : Addr} {b : List (List Int)} {r : List Int} (B : BidsAt K H a c b r) (s : Same H H') : BidsAt K H' a c b r := ⟨s.rows B.rows, s.ints B.res, B.few, B.each, B.most⟩
def spTables (K : PySem.W.Frag) : Sp := fun vs H Q _ => ∃ (a c : Addr) (b : List (List Int)) (r : List Int), vs = [.ref a, .ref c] ∧ BidsAt K H a c b r ∧ ∀ H' p, Same H H' → RowsAt K H' p (tables r b) → Q (.ref p) H'
theorem ok_tables {f : Addr} {fd : FuncData} (T : Tx mg) (D : Def K mg "value_tables" "value_tables" sTables ["bids", "reserves"] f fd) (Go : Ok P w K mg base CX0 2 "reserves_outside" ["reserves", "lots"] (spOut K))
    (Ga : Ok P w K mg base CX0 3 "values_ahead" ["bids", "many", "behind"] (spAhead K)) : Ok P w K mg base CX0 4 "value_tables" ["bids", "reserves"] (spTables K) := by
  obtain ⟨fo, fdo, go, ko, bo, Fo⟩ := Go
  obtain ⟨fa, fda, ga, ka, ba, Fa⟩ := Ga
  refine D.ok (D.fn.ok scTables (fun vs H Q E h => ?_) (fun cdv A outer s H vs Q E hr h => ⟨_,
      pss_cons (ps_set (i := 2) scTables.nd rfl (Or.inl rfl) (pe_callB call_len_seq (by rfl) T.len PySem.boot_len (pa_cons (pv 1) pa_nil)))
      (pss_cons (ps_set (i := 3) scTables.nd rfl (Or.inl rfl) (pe_lst (pa_cons
          (pe_lc (own := [("lots", 5)]) (g := gName 5) (tt := tYes) rfl scTables.nd (pi_range1 (by rfl) T.range (pa_cons (pe_op op_shl pe_int (pv 2)) pa_nil)) (blkOk_by (N := ["bids", "reserves", "many", "found", "row", "lots"]) (sc := defScope sTables) (by decide +kernel))
            (fun _ _ _ _ _ => pg_name (i := 5) scTables.nd rfl (Or.inl rfl))
            (fun _ _ _ _ _ => pts_nil)
            (fun _ _ _ _ _ => pe_call Fo (hr.mono (by decide)) rfl go ko bo .nil pass0 (pa_cons (pv 1) (pa_cons (pv 5) pa_nil)))) pa_nil)))
      (pss_cons (ps_for PassesOwn.never rfl (pi_reversed (by rfl) T.reversed (pa_cons (pv 0) pa_nil)) (pg_name (i := 4) scTables.nd rfl (Or.inl rfl))
        (pss_one (ps_expr (pe_bm PySem.F.plainAttrs_list PySem.F.slot_list_append PySem.F.type_list_append mt_append (pv 3) (pa_cons
          (pe_call Fa hr rfl ga ka ba .nil pass0 (pa_cons (pv 4) (pa_cons (pv 2) (pa_cons (pe_ix ix_list (pv 3) (pe_un un_neg pe_int) (fun _ _ => rfl)) pa_nil)))) pa_nil)))))
      (pss_one (ps_ret (pe_revL (pv 3)))))), ?_⟩))
  · obtain ⟨_, _, _, _, rfl, _⟩ := h
    rfl
  · obtain ⟨a, c, b, r, rfl, B, q⟩ := h
    obtain ⟨qs, hqs, hql, hrow⟩ := B.rows.get
    have h32 := pow_le32 B.few
    have h00 : (0 : Int) ≤ ((2 ^ r.length : Nat) : Int) := Int.natCast_nonneg _
    refine ⟨_, rfl, c, _, rfl, .inl B.res, ?_⟩
    have hgo : ∀ i, (outs (List.range (2 ^ r.length)) (fun _ => true) (fun lots => V.int (resOut r lots)) i).length ≤ 10000000 := fun i => Nat.le_trans (outs_len _ _ _ i) (by rw [List.length_range]; omega)
    refine ⟨_, rfl, _, _, rfl, rfl, ⟨Int.natCast_nonneg _, by rw [List.length_map]; have := B.few; omega, by decide⟩, ((2 ^ r.length : Nat) : Int), by rw [← shl_one, List.length_map], by omega, by omega, fun D hD =>
      lc_it walk_upto (Made H D (outs (List.range (2 ^ r.length)) (fun _ => true) (fun lots => V.int (resOut r lots)))) (Made.zero hD (outs_zero _ _ _)) (fun _ _ _ _ => trivial) ?_ ?_⟩
    · rintro i x H2 H3 hi m ⟨rfl, rfl⟩
      rw [Int.toNat_natCast] at hi
      refine ⟨rfl, yes_if ⟨_, rfl, _, rfl, c, r, i, rfl, m.1.ints B.res, by have := B.few; omega, fun H' s' => ?_⟩⟩
      exact Made.put hD m s' (hgo i) (outs_yes (range_at hi) rfl) fun _ z => z
    · intro H2 m
      rw [Int.toNat_natCast] at m
      have e2 : H2 D = some (.lst ((table0 r).map V.int)) := by
        have e := outs_all (List.range (2 ^ r.length)) (fun _ => true) (fun lots => V.int (resOut r lots))
        rw [List.length_range, filter_yes] at e
        rw [m.2, e]
        unfold table0
        rw [List.map_map]
        rfl
      refine ⟨sz 1 (by decide), fun F hF => ?_⟩
      have hF0 : H F = none := L2.Same.free m.1 hF
      have hDF : D ≠ F := ne_of_none e2 hF
      refine ⟨_, rfl, a, _, rfl, m.1.new hF0 |>.seq hqs, for_it walk_rev (fun i σ H' => ∃ (lv : Option V) (z : Addr) (zs : List Addr), σ = [some (.ref a), some (.ref c), some (.int (r.map V.int).length), some (.ref F), lv, none] ∧ Same H H' ∧
        H' F = some (.lst ((zs.reverse ++ [z]).map V.ref)) ∧ Tabs K H' F (z :: zs) (tables r (b.drop (b.length - i)))) ⟨none, D, [], rfl, m.1.new hF0, upd_same, ?_⟩ (fun i σ H' _ ⟨_, _, _, _, s', _, _⟩ => s'.seq hqs) ?_ ?_⟩
      · rw [Nat.sub_zero, List.drop_length]
        exact Tabs.cons Tabs.nil hDF (SqL.of ((upd_ne hDF).trans e2))
      · rintro i x σ H3 H4 hi ⟨lv, z, zs, rfl, s3, h3, tb⟩ ⟨rfl, e⟩
        rw [List.length_map] at hi e
        rw [hql] at hi e
        have hk : b[b.length - 1 - i]? = some b[b.length - 1 - i] := List.getElem?_eq_getElem (by omega)
        have hd : b.drop (b.length - (i + 1)) = b[b.length - 1 - i] :: b.drop (b.length - i) := by
          rw [show b.length - (i + 1) = b.length - 1 - i by omega, show b.length - i = (b.length - 1 - i) + 1 by omega]
          exact List.drop_eq_getElem_cons (by omega)
        generalize b[b.length - 1 - i] = row at hk hd
        obtain ⟨p, e1, e2', hp⟩ := hrow _ row hk
        obtain rfl : x = V.ref p := by rw [e2'] at e; exact (Option.some.inj e).symm
        have hrl := B.each row (List.mem_of_getElem? hk)
        obtain ⟨t, ts, ht, htl⟩ := tables_shape r (b.drop (b.length - i))
        have hz : IntsAt K H4 z t := tb.2.2 0 z t rfl (by rw [ht]; rfl)
        refine ⟨_, rfl, .inl ⟨rfl, _, SqL.of h3⟩, _, rfl, _, rfl, _, rfl, _, rfl, F, _, _, _, rfl, rfl, SqL.of h3, by rw [List.map_append]; exact atI_last _ _, p, z, row, t, r.length, by rw [List.length_map]; rfl, s3.ints hp, hz, B.few, by omega, htl, fun H5 p5 s5 n5 e5 => ?_⟩
        have hm := B.most
        have hlen := tb.1
        refine ⟨F, _, _, rfl, rfl, s5 _ _ h3, ?_, ?_⟩
        · rw [tables_len] at hlen
          have h1 := List.length_drop (i := b.length - i) (l := b)
          refine szl _ ?_
          rw [List.length_map, List.length_append, List.length_reverse]
          show zs.length + 1 ≤ _
          have : (z :: zs).length = zs.length + 1 := rfl
          omega
        · refine ⟨_, p5, z :: zs, rfl, L2.Same.new hF0 (s3.trans s5), ?_, ?_⟩
          · rw [upd_same, List.reverse_cons, List.map_append (l₁ := zs.reverse ++ [z])]; rfl
          · rw [hd]
            have n1 : p5 ≠ F := Ne.symm (ne_of_none h3 n5)
            show Tabs K _ F (p5 :: z :: zs) (ahead row r.length ((tables r (b.drop (b.length - i))).headD []) :: tables r (b.drop (b.length - i)))
            rw [ht]
            rw [ht] at tb
            exact Tabs.cons ((tb.keep s5).upd) n1 (SqL.of ((upd_ne n1).trans e5))
      · rintro σ H3 ⟨lv, z, zs, rfl, s3, h3, tb⟩
        rw [List.length_map, hql, Nat.sub_self, List.drop_zero] at tb
        refine ⟨_, rfl, F, _, rfl, SqL.of h3, fun p hp => q _ p (L2.Same.new (L2.Same.free s3 hp) s3) ?_⟩
        refine ⟨z :: zs, SqL.of ?_, tb.1, fun j q' t e1 e2 => (L2.Same.up hp).ints (tb.2.2 j q' t e1 e2)⟩
        rw [upd_same, ← List.map_reverse, List.reverse_append, List.reverse_reverse]
        rfl
/-! ### total_value -/
abbrev sTotal : Stmt := top 8
theorem scTotal : FnScope ["bids", "reserves"] ["bids", "reserves"] (defScope sTotal) := ⟨rfl, rfl, rfl, by decide +kernel, rfl, by decide +kernel, by decide +kernel⟩
def spTotal (K : PySem.W.Frag) : Sp := fun vs H Q _ => ∃ (a c : Addr) (b : List (List Int)) (r : List Int), vs = [.ref a, .ref c] ∧ BidsAt K H a c b r ∧ ∀ H', Same H H' → Q (.int (totalVal b r)) H'
theorem ok_total {f : Addr} {fd : FuncData} (D : Def K mg "total_value" "total_value" sTotal ["bids", "reserves"] f fd) (Gt : Ok P w K mg base CX0 4 "value_tables" ["bids", "reserves"] (spTables K)) :
    Ok P w K mg base CX0 5 "total_value" ["bids", "reserves"] (spTotal K) := by
  obtain ⟨ft, fdt, gt, kt, bt, Ft⟩ := Gt
  refine D.ok (D.fn.ok scTotal (fun vs H Q E h => ?_) (fun cdv A outer s H vs Q E hr h => ⟨_,
      pss_one (ps_ret (pe_ix ix_list (pe_ix ix_list (pe_call Ft hr rfl gt kt bt .nil pass0 (pa_cons (pv 0) (pa_cons (pv 1) pa_nil))) pe_int (fun _ _ => rfl)) pe_int (fun _ _ => rfl))), ?_⟩))
  · obtain ⟨_, _, _, _, rfl, _⟩ := h
    rfl
  · obtain ⟨a, c, b, r, rfl, B, q⟩ := h
    refine ⟨_, rfl, _, rfl, a, c, b, r, rfl, B, fun H' p s' hp => ?_⟩
    obtain ⟨t, ts, ht, htl⟩ := tables_shape r b
    obtain ⟨qs, hqs, hql, hrow⟩ := hp.get
    obtain ⟨p1, e1, e2, h1⟩ := hrow 0 t (by rw [ht]; rfl)
    refine ⟨p, _, 0, _, rfl, rfl, hqs, at_of (j := 0) rfl e2, p1, _, 0, _, rfl, rfl, h1, at_int (j := 0) rfl (by rw [htl]; exact Nat.two_pow_pos _) 0, ?_⟩
    have e : totalVal b r = t.getD 0 0 := by unfold totalVal; rw [ht]; rfl
    rw [← e]
    exact q _ s'
end
end SL
end
/-! ## W5 -/
section
namespace SL
open PySem PySem.Spec PyProof.Rows L2
theorem tables_at (r : List Int) : ∀ (b : List (List Int)) (i : Nat), i ≤ b.length → (tables r b)[i]? = some ((tables r (b.drop i)).headD [])
  | [], i, h => by
    obtain rfl : i = 0 := by simpa using h
    rfl
  | row :: rest, 0, _ => rfl
  | row :: rest, i + 1, h => by
    show (tables r rest)[i]? = _
    rw [tables_at r rest i (by simpa using h)]
    rfl
theorem tables_head_len (r : List Int) (b : List (List Int)) : ((tables r b).headD []).length = 2 ^ r.length := by
  obtain ⟨t, ts, e, h⟩ := tables_shape r b
  rw [e]
  exact h
theorem best_pos (r row : List Int) (rest : List (List Int)) {lots : Nat} (hl : lots < 2 ^ r.length) : 0 < (bestOf r.length row lots ((tables r rest).headD []) ((tables r (row :: rest)).headD [])).length := by
  have e : ((tables r (row :: rest)).headD []).getD lots 0 = maxL ((choices lots r.length).map (valWith row lots ((tables r rest).headD []))) := by
    show (ahead row r.length ((tables r rest).headD [])).getD lots 0 = _
    unfold ahead
    rw [range_getD _ _ hl]
  obtain ⟨c, hc, he⟩ := List.mem_map.mp (maxL_mem (l := (choices lots r.length).map (valWith row lots ((tables r rest).headD []))) (by rw [List.length_map]; exact choices_pos _ _))
  refine List.length_pos_of_mem (a := c) (List.mem_filter.mpr ⟨hc, ?_⟩)
  rw [e, he]
  exact beq_self_eq_true _
section
variable {P : Program} {w : World} {K : PySem.W.Frag} {mg : Str → Option Value} {base : Heap}
/-! ### best_allocation -/
abbrev sAlloc : Stmt := top 9
theorem scAlloc : FnScope ["bids", "reserves", "tables", "lots", "found", "bidder", "row", "behind", "best", "lot"] ["bids", "reserves"] (defScope sAlloc) := ⟨rfl, rfl, rfl, by decide +kernel, rfl, by decide +kernel, by decide +kernel⟩
def spAlloc (K : PySem.W.Frag) : Sp := fun vs H Q _ => ∃ (a c : Addr) (b : List (List Int)) (r : List Int), vs = [.ref a, .ref c] ∧ BidsAt K H a c b r ∧ ∀ H' p, Same H H' → H p = none → H' p = some (.lst ((alloc r b 0).map lotV)) → Q (.ref p) H'
theorem ok_alloc {f : Addr} {fd : FuncData} (T : Tx mg) (D : Def K mg "best_allocation" "best_allocation" sAlloc ["bids", "reserves"] f fd) (Gt : Ok P w K mg base CX0 4 "value_tables" ["bids", "reserves"] (spTables K))
    (Gc : Ok P w K mg base CX0 2 "choices" ["lots", "many"] spChoices) (Gw : Ok P w K mg base CX0 1 "value_with" ["bids", "lots", "lot", "behind"] (spWith K)) : Ok P w K mg base CX0 5 "best_allocation" ["bids", "reserves"] (spAlloc K) := by
  obtain ⟨ft, fdt, gt, kt, bt, Ft⟩ := Gt
  obtain ⟨fc, fdc, gc, kc, bc, Fc⟩ := Gc
  obtain ⟨fw, fdw, gw, kw, bw, Fw⟩ := Gw
  obtain ⟨tn, hn⟩ := T.none
  refine D.ok (D.fn.ok scAlloc (fun vs H Q E h => ?_) (fun cdv A outer s H vs Q E hr h => ⟨_,
      pss_cons (ps_asg (pe_tup (pa_cons (pe_call Ft hr rfl gt kt bt .nil pass0 (pa_cons (pv 0) (pa_cons (pv 1) pa_nil))) (pa_cons pe_int (pa_cons (pe_lst pa_nil) pa_nil))))
        (pg_tup rfl (pgs_cons (pg_name (i := 2) scAlloc.nd rfl (Or.inr rfl)) (pgs_cons (pg_name (i := 3) scAlloc.nd rfl (Or.inr rfl)) (pgs_cons (pg_name (i := 4) scAlloc.nd rfl (Or.inl rfl)) pgs_nil)))))
      (pss_cons (ps_for PassesOwn.never rfl (pi_enum (by rfl) T.enumerate (pa_cons (pv 0) pa_nil)) (pg_tup rfl (pgs_cons (pg_name (i := 5) scAlloc.nd rfl (Or.inr rfl)) (pgs_cons (pg_name (i := 6) scAlloc.nd rfl (Or.inr rfl)) pgs_nil)))
        (pss_cons (ps_set (i := 7) scAlloc.nd rfl (Or.inr rfl) (pe_ix ix_list (pv 2) (pe_op op_add (pv 5) pe_int) (fun _ _ => rfl)))
        (pss_cons (ps_setLc (i := 8) (own := [("lot", 9)]) (g := gName 9) (tt := tTest (tOp rEq (tCall (spWith K) [] E0 (tCons (tVar 6) (tCons (tVar 3) (tCons (tVar 9) (tCons (tVar 7) tNil))))) (tOp (rIxL K) (tOp (rIxL K) (tVar 2) (tVar 5)) (tVar 3)))) rfl scAlloc.nd rfl rfl (sw_true rfl rfl rfl (by decide +kernel))
          (pi_list (pe_call Fc (hr.mono (by decide)) rfl gc kc bc .nil pass0 (pa_cons (pv 3) (pa_cons (pe_callB call_len_seq (by rfl) T.len PySem.boot_len (pa_cons (pv 1) pa_nil)) pa_nil)))) (blkOk_by (N := ["bids", "reserves", "tables", "lots", "found", "bidder", "row", "behind", "best", "lot"]) (sc := defScope sAlloc) (by decide +kernel))
          (fun _ _ _ _ _ => pg_name (i := 9) scAlloc.nd rfl (Or.inl rfl))
          (fun _ _ _ _ _ => pts_one (pt_cmpR op_eq (pe_call Fw (hr.mono (by decide)) rfl gw kw bw .nil pass0 (pa_cons (pv 6) (pa_cons (pv 3) (pa_cons (pv 9) (pa_cons (pv 7) pa_nil))))) (pe_ix ix_list (pe_ix ix_list (pv 2) (pv 5) (fun _ _ => rfl)) (pv 3) (fun _ _ => rfl)) (nomark _)))
          (fun _ _ _ _ _ => pv 9))
        (pss_cons (ps_expr (pe_bm PySem.F.plainAttrs_list PySem.F.slot_list_append PySem.F.type_list_append mt_append (pv 4) (pa_cons (pe_ix ix_list (pv 8) pe_int (fun _ _ => rfl)) pa_nil)))
        (pss_one (ps_if (pt_cmpR op_ne (pe_ix ix_list (pv 8) pe_int (fun _ _ => rfl)) (pe_glob rfl hn (relI _ _)) (nomark _))
          (pss_one (ps_set (i := 3) scAlloc.nd rfl (Or.inr rfl) (pe_op op_add (pv 3) (pe_op op_shl pe_int (pe_ix ix_list (pv 8) pe_int (fun _ _ => rfl)))))) pss_nil))))))
      (pss_one (ps_ret (pv 4)))), ?_⟩))
  · obtain ⟨_, _, _, _, rfl, _⟩ := h
    rfl
  · obtain ⟨a, c, b, r, rfl, B, q⟩ := h
    have h32 := pow_le32 B.few
    refine ⟨_, rfl, _, rfl, a, c, b, r, rfl, B, fun H1 tb s1 htb => ?_⟩
    refine ⟨sz 0 (by decide), fun F hF => ⟨by show 3 ≤ sizeLine; exact sz 3 (by decide), fun T0 hT0 => ?_⟩⟩
    have sF : Same H1 (upd (upd H1 F (.lst [])) T0 (.tup [.ref tb, .int 0, .ref F])) := (L2.Same.up hF).trans (L2.Same.up hT0)
    refine ⟨T0, _, rfl, SqT.of upd_same, rfl, _, _, rfl, _, _, rfl, _, _, rfl, rfl, ?_⟩
    obtain ⟨qs, hqs, hql, hrow⟩ := B.rows.get
    refine ⟨_, rfl, a, _, rfl, (s1.trans sF).seq hqs, for_it walk_enum (fun i σ H' => ∃ (bv rv hv sv : Option V) (lots : Nat) (fs : List (Option Nat)), σ = [some (.ref a), some (.ref c), some (.ref tb), some (.int lots), some (.ref F), bv, rv, hv, sv, none] ∧ Same H1 H' ∧
      H' F = some (.lst (fs.map lotV)) ∧ lots < 2 ^ r.length ∧ fs.length = i ∧ alloc r b 0 = fs ++ alloc r (b.drop i) lots) ⟨none, none, none, none, 0, [], rfl, sF, ?_, Nat.two_pow_pos _, rfl, rfl⟩ (fun i σ H' _ ⟨_, _, _, _, _, _, _, s', _⟩ => (s1.trans s').seq hqs) ?_ ?_⟩
    · exact (L2.Same.up hT0) _ _ upd_same
    · rintro i x σ H3 H4 hi ⟨bv, rv, hv, sv, lots, fs, rfl, s3, h3, hl, hfl, ha⟩ ⟨T1, x1, y1, rfl, hT1, rfl, e1, e2⟩
      obtain rfl : x1 = V.int (i : Nat) := (Option.some.inj e1).symm
      rw [List.length_map, hql] at hi
      have hk : b[i]? = some b[i] := List.getElem?_eq_getElem hi
      have hd : b.drop i = b[i] :: b.drop (i + 1) := List.drop_eq_getElem_cons hi
      generalize b[i] = row at hk hd
      obtain ⟨p, _, e3, hp⟩ := hrow i row hk
      obtain rfl : y1 = V.ref p := by
        have e2 : (qs.map V.ref)[i]? = some y1 := e2
        rw [e3] at e2
        exact (Option.some.inj e2).symm
      have s4 : Same H1 (upd H3 T1 (.tup [.int (i : Nat), .ref p])) := s3.trans (L2.Same.up hT1)
      generalize hH4 : upd H3 T1 (.tup [.int (i : Nat), .ref p]) = H4 at s4
      obtain ⟨ts, hts, htl, htab⟩ := htb.get
      obtain ⟨p0, _, e4, h40⟩ := htab i _ (tables_at r b i (by omega))
      obtain ⟨p1, _, e5, h41⟩ := htab (i + 1) _ (tables_at r b (i + 1) (by omega))
      have hF4 : H4 F = some (.lst (fs.map lotV)) := by rw [← hH4]; exact (L2.Same.up hT1) _ _ h3
      refine ⟨T1, _, rfl, SqT.of (by rw [← hH4]; exact upd_same), rfl, _, _, rfl, _, _, rfl, rfl, ?_⟩
      generalize hbh : (tables r (b.drop (i + 1))).headD [] = behind at e5 h41
      generalize hhe : (tables r (b.drop i)).headD [] = here at e4 h40
      have hbl : behind.length = 2 ^ r.length := by rw [← hbh]; exact tables_head_len _ _
      have hel : here.length = 2 ^ r.length := by rw [← hhe]; exact tables_head_len _ _
      have hrl : row.length = r.length := B.each row (List.mem_of_getElem? hk)
      have few := B.few
      refine ⟨_, rfl, _, rfl, _, _, rfl, rfl, tb, _, _, _, rfl, rfl, s4.seq hts, at_of (j := i + 1) (by simp) e5, ?_⟩
      refine ⟨_, rfl, _, rfl, c, _, rfl, .inl ((s1.trans s4).ints B.res), lots, r.length, by rw [List.length_map]; rfl, by omega, fun H5 p5 s5 n5 h5 => ⟨p5, rfl, ⟨_, SqL.of h5⟩, fun D hD =>
        lc_it walk_list (Made H5 D (outs (choices lots r.length) (fun c => valWith row lots behind c == here.getD lots 0) lotV)) (Made.zero hD (outs_zero _ _ _)) (fun j H' _ m => m.1.seq (SqL.of h5)) ?_ ?_⟩⟩
      · rintro j x H6 H7 hj m ⟨rfl, e⟩
        obtain ⟨c', hc', rfl⟩ := map_get e
        have s6 : Same H1 H7 := (s4.trans s5).trans m.1
        refine ⟨rfl, _, rfl, _, rfl, _, rfl, _, rfl, p, p1, row, behind, lots, c', rfl, (s1.trans s6).ints hp, s6.ints h41, by omega, fun k hk => ?_, _, rfl, _, rfl, tb, _, _, _, rfl, rfl, s6.seq hts, at_of rfl e4, _, rfl, p0, _, _, _, rfl, rfl, s6.ints h40, at_int rfl (by omega) 0, rfl, _, rfl, ?_⟩
        · subst hk
          obtain ⟨k1, k2⟩ := choices_mem (List.mem_of_getElem? hc')
          have := grow few hl k1 k2
          exact ⟨by omega, by omega, by omega⟩
        · rw [dec_int]
          refine ite2 (fun cc => ?_) (fun cc => ?_)
          · exact ⟨_, rfl, Made.put hD m (Same.refl _) (Nat.le_trans (outs_len _ _ _ _) (Nat.le_trans (choices_len _ _) (by omega))) (outs_yes hc' cc) fun _ z => z⟩
          · exact Made.skip m (Same.refl _) (outs_no hc' (by simpa using cc))
      · intro H6 m
        rw [List.length_map, ] at m
        have e6 : H6 D = some (.lst ((bestOf r.length row lots behind here).map lotV)) := by
          rw [m.2, outs_all]; rfl
        have s6 : Same H4 H6 := s5.trans m.1
        have hpos : 0 < (bestOf r.length row lots behind here).length := by
          rw [← hbh, ← hhe, hd]
          exact best_pos r row (b.drop (i + 1)) hl
        have hal : alloc r (b.drop i) lots = (bestOf r.length row lots behind here).headD none :: alloc r (b.drop (i + 1)) (gone lots ((bestOf r.length row lots behind here).headD none)) := by
          rw [hd, ← hbh, ← hhe, hd]
          rfl
        have hmem := fun j : Nat => best_mem (many := r.length) (row := row) (lots := lots) (behind := behind) (here := here) (j := j)
        generalize bestOf r.length row lots behind here = best at e6 hpos hal hmem
        cases best with
        | nil => exact absurd hpos (by decide)
        | cons c' more =>
          have hal : alloc r (b.drop i) lots = c' :: alloc r (b.drop (i + 1)) (gone lots c') := hal
          have hmem : ∀ {j : Nat}, c' = some j → j < r.length ∧ Vbndax.containsLot lots j = false := fun {j} z => hmem j z
          have atD : ∀ {H : Hp}, Same H6 H → SqL K H D ((c' :: more).map lotV) := fun s => s.seq (SqL.of e6)
          have hFD : F ≠ D := ne_of_none (s5 _ _ hF4) hD
          refine ⟨_, rfl, .inl ⟨rfl, _, SqL.of (s6 _ _ hF4)⟩, _, rfl, D, _, 0, _, rfl, rfl, atD (Same.refl _), at_of (j := 0) rfl rfl, F, _, _, rfl, rfl, s6 _ _ hF4, ?_, ?_⟩
          · have := B.most
            refine szl _ ?_
            rw [List.length_map]
            omega
          · have sE : Same H1 (upd H6 F (.lst (fs.map lotV ++ [lotV c']))) := by
              intro x o hx
              rw [upd_ne (ne_of_none hx hF)]
              exact s6 _ _ (s4 _ _ hx)
            have dE : (upd H6 F (.lst (fs.map lotV ++ [lotV c']))) D = some (.lst ((c' :: more).map lotV)) := (upd_ne (Ne.symm hFD)).trans e6
            have haE : alloc r b 0 = (fs ++ [c']) ++ alloc r (b.drop (i + 1)) (gone lots c') := by rw [ha, hal, List.append_assoc]; rfl
            have fE : (upd H6 F (.lst (fs.map lotV ++ [lotV c']))) F = some (.lst ((fs ++ [c']).map lotV)) := by rw [upd_same, List.map_append]; rfl
            refine ⟨_, rfl, D, _, 0, _, rfl, rfl, SqL.of dE, at_of (j := 0) rfl rfl, lot_scal c', _, rfl, ?_⟩
            cases c' with
            | none =>
              rw [lot_eq]
              refine iteF ?_
              exact ⟨_, _, _, _, lots, fs ++ [none], rfl, sE, fE, hl, by simp [hfl], haE⟩
            | some j =>
              rw [lot_ne]
              obtain ⟨k1, k2⟩ := hmem rfl
              have kg := grow few hl k1 k2
              refine iteT ⟨_, rfl, _, rfl, D, _, 0, _, rfl, rfl, SqL.of dE, at_of (j := 0) rfl rfl, _, _, rfl, rfl, ⟨Int.natCast_nonneg j, by show (j : Int) ≤ 1000000; omega, by decide⟩, _, _, rfl, rfl, ?_⟩
              refine ⟨some (.int (i : Nat)), some (.ref p), some (.ref p1), some (.ref D), lots + 2 ^ j, fs ++ [some j], ?_, sE, fE, kg, by simp [hfl], haE⟩
              have : (lots : Int) + 1 * 2 ^ ((j : Int)).toNat = ((lots + 2 ^ j : Nat) : Int) := by rw [shl_one]; simp
              show _ = [some (V.ref a), some (V.ref c), some (V.ref tb), some (V.int ((lots + 2 ^ j : Nat) : Int)), some (V.ref F), some (.int (i : Nat)), some (.ref p), some (.ref p1), some (.ref D), none]
              rw [← this]
              rfl
    · rintro σ H3 ⟨bv, rv, hv, sv, lots, fs, rfl, s3, h3, hl, hfl, ha⟩
      rw [List.length_map, hql] at hfl ha
      refine ⟨_, rfl, q _ F (s1.trans s3) (L2.Same.free s1 hF) ?_⟩
      rw [h3, ha, List.drop_length]
      show _ = some (HO.lst ((fs ++ []).map lotV))
      rw [List.append_nil]
end
end SL
end
/-! ## W6 -/
section
namespace SL
open PySem PySem.Spec PyProof.Rows L2
/-! ### lists of lists, all of them open -/
abbrev IntsL (H : Hp) (a : Addr) (ns : List Int) : Prop := H a = some (.lst (ns.map V.int))
section
variable {α : Type} {g : α → List V} {K : PySem.W.Frag} {H H1 H' : Hp} {a D p : Addr}
def RowsG (g : α → List V) (H : Hp) (a : Addr) (b : List α) : Prop := ∃ qs : List Addr, H a = some (.lst (qs.map V.ref)) ∧ qs.length = b.length ∧ ∀ (i : Nat) (q : Addr) (x : α), qs[i]? = some q → b[i]? = some x → H q = some (.lst (g x))
theorem RowsG.keep {b : List α} (h : RowsG g H a b) (s : Same H H') : RowsG g H' a b := by
  obtain ⟨qs, h1, h2, h3⟩ := h
  exact ⟨qs, s _ _ h1, h2, fun i q x e1 e2 => s _ _ (h3 i q x e1 e2)⟩
theorem RowsG.get {b : List α} (h : RowsG g H a b) : ∃ qs : List Addr, H a = some (.lst (qs.map V.ref)) ∧ qs.length = b.length ∧ ∀ (i : Nat) (x : α), b[i]? = some x → ∃ q : Addr, qs[i]? = some q ∧ (qs.map V.ref)[i]? = some (V.ref q) ∧ H q = some (.lst (g x)) := by
  obtain ⟨qs, h1, h2, h3⟩ := h
  refine ⟨qs, h1, h2, fun i x e => ?_⟩
  have hi : i < qs.length := by
    rw [h2]
    exact (List.getElem?_eq_some_iff.mp e).1
  have e1 : qs[i]? = some qs[i] := by simp [hi]
  refine ⟨qs[i], e1, ?_, h3 i _ x e1 e⟩
  rw [List.getElem?_map, e1]; rfl
/-- a comprehension's list of new lists so far -/
def MadeR (g : α → List V) (H1 : Hp) (D : Addr) (out : List α) (i : Nat) (H : Hp) : Prop := Same H1 H ∧ ∃ qs : List Addr, H D = some (.lst (qs.map V.ref)) ∧ qs.length = i ∧ (∀ q ∈ qs, q ≠ D) ∧ ∀ (k : Nat) (q : Addr) (x : α), qs[k]? = some q → out[k]? = some x → H q = some (.lst (g x))
theorem MadeR.zero {out : List α} (hD : H1 D = none) : MadeR g H1 D out 0 (upd H1 D (.lst [])) := ⟨L2.Same.up hD, [], upd_same, rfl, fun q h => (by cases h), fun k q x e => (by simp at e)⟩
theorem MadeR.put {out : List α} {i : Nat} {x : α} {P : Hp → Prop} (hD : H1 D = none) (m : MadeR g H1 D out i H) (s : Same H H') (l : i ≤ 10000000) (hx : out[i]? = some x) (hp : H' p = some (.lst (g x))) (n : p ≠ D) (k : ∀ H, MadeR g H1 D out (i + 1) H → P H) :
    ∃ acc, H' D = some (.lst acc) ∧ acc.length < sizeLine ∧ P (upd H' D (.lst (acc ++ [.ref p]))) := by
  obtain ⟨s1, qs, h1, h2, h3, h4⟩ := m
  refine ⟨qs.map V.ref, s _ _ h1, szl _ (by rw [List.length_map]; omega), k _ ⟨L2.Same.new hD (s1.trans s), qs ++ [p], ?_, by simp [h2], fun q hq => ?_, fun j q y e1 e2 => ?_⟩⟩
  · rw [upd_same, List.map_append]; rfl
  · rcases List.mem_append.mp hq with hq | hq
    · exact h3 q hq
    · rw [List.mem_singleton.mp hq]; exact n
  · by_cases hj : j < qs.length
    · rw [List.getElem?_append_left hj] at e1
      rw [upd_ne (h3 q (List.mem_of_getElem? e1))]
      exact s _ _ (h4 j q y e1 e2)
    · have hj2 : j = i := by
        have := (List.getElem?_eq_some_iff.mp e1).1
        rw [List.length_append] at this
        have t1 : [p].length = 1 := rfl
        omega
      subst hj2
      rw [List.getElem?_append_right (by omega), h2, Nat.sub_self] at e1
      obtain rfl : p = q := Option.some.inj e1
      rw [hx] at e2
      obtain rfl : x = y := Option.some.inj e2
      rw [upd_ne n]
      exact hp
theorem MadeR.done {out : List α} (m : MadeR g H1 D out out.length H) : RowsG g H D out := by
  obtain ⟨_, qs, h1, h2, _, h4⟩ := m
  exact ⟨qs, h1, h2, h4⟩
theorem MadeR.has {out : List α} {i : Nat} (m : MadeR g H1 D out i H) : ∃ xs, H D = some (.lst xs) := by
  obtain ⟨_, qs, h1, _⟩ := m
  exact ⟨_, h1⟩
end
abbrev RowsL (H : Hp) (a : Addr) (b : List (List Int)) : Prop := RowsG (fun row : List Int => row.map V.int) H a b
theorem RowsL.weak {K : PySem.W.Frag} {H : Hp} {a : Addr} {b : List (List Int)} (h : RowsL H a b) : RowsAt K H a b := by
  obtain ⟨qs, h1, h2, h3⟩ := h
  exact ⟨qs, SqL.of h1, h2, fun i q row e1 e2 => SqL.of (h3 i q row e1 e2)⟩
/-- bids and reserves of an auction, at a and c -/
structure BidsL (H : Hp) (a c : Addr) (b : List (List Int)) (r : List Int) : Prop where
  rows : RowsL H a b
  res : IntsL H c r
  few : r.length ≤ 4
  each : ∀ row ∈ b, row.length = r.length
  most : b.length ≤ 1000
theorem BidsL.weak {K : PySem.W.Frag} {H : Hp} {a c : Addr} {b : List (List Int)} {r : List Int} (B : BidsL H a c b r) : BidsAt K H a c b r := ⟨RowsL.weak B.rows, SqL.of B.res, by have := B.few; omega, B.each, B.most⟩
theorem BidsL.keep {H H' : Hp} {a c : Addr} {b : List (List Int)} {r : List Int} (B : BidsL H a c b r) (s : Same H H') : BidsL H' a c b r := ⟨B.rows.keep s, s _ _ B.res, B.few, B.each, B.most⟩
theorem cut_to (xs : List V) (j : Nat) : cutV xs none (some (j : Int)) = xs.take j := by
  unfold cutV
  rw [HT.sIx_none, HT.sIx_nat, Nat.sub_zero, List.drop_zero]
  rw [← List.take_take, List.take_length]
theorem cut_from (xs : List V) (j : Nat) : cutV xs (some (j : Int)) none = xs.drop j := by
  unfold cutV
  rw [HT.sIx_nat, HT.sIx_none]
  by_cases h : j ≤ xs.length
  · rw [Nat.min_eq_left h]
    exact List.take_of_length_le (by rw [List.length_drop]; omega)
  · rw [Nat.min_eq_right (by omega), List.drop_of_length_le (by omega : xs.length ≤ j), List.drop_length]
    exact List.take_nil
section
variable {P : Program} {w : World} {K : PySem.W.Frag} {mg : Str → Option Value} {base : Heap}
/-! ### doubled, without -/
abbrev sDbl : Stmt := top 13
theorem scDbl : FnScope ["row", "lot"] ["row", "lot"] (defScope sDbl) := ⟨rfl, rfl, rfl, by decide +kernel, rfl, by decide +kernel, by decide +kernel⟩
def spDbl : Sp := fun vs H Q _ => ∃ (a : Addr) (row : List Int) (j : Nat), vs = [.ref a, .int j] ∧ IntsL H a row ∧ j < row.length ∧ row.length ≤ 1000 ∧ ∀ H' p, Same H H' → H p = none → IntsL H' p (dbl row j) → Q (.ref p) H'
theorem ok_dbl {f : Addr} {fd : FuncData} (D : Def K mg "doubled" "doubled" sDbl ["row", "lot"] f fd) : Ok P w K mg base CX0 1 "doubled" ["row", "lot"] spDbl := by
  refine D.ok (D.fn.ok scDbl (fun vs H Q E h => ?_) (fun cdv A outer s H vs Q E hr h => ⟨_, pss_one (ps_ret (pe_op op_cat (pv 0) (pe_lst (pa_cons (pe_ix ix_list (pv 0) (pv 1) (fun _ _ => rfl)) pa_nil)))), ?_⟩))
  · obtain ⟨_, _, _, rfl, _⟩ := h
    rfl
  · obtain ⟨a, row, j, rfl, ha, hj, hl, q⟩ := h
    refine ⟨_, rfl, _, rfl, _, rfl, a, _, _, _, rfl, rfl, SqL.of ha, at_int rfl hj (-1), sz 1 (by decide), fun p hp => ⟨a, p, _, _, rfl, rfl, (L2.Same.up hp) _ _ ha, upd_same, ?_, fun p2 hp2 => ?_⟩⟩
    · rw [List.length_map]; exact sz _ (by show _ + 1 ≤ _; omega)
    · have s1 := L2.Same.up (H := H) (o := .lst [.int (row.getD j (-1))]) hp
      refine q _ p2 (s1.new (L2.Same.free s1 hp2)) (L2.Same.free s1 hp2) (upd_same.trans ?_)
      unfold dbl
      rw [List.map_append]
      rfl
abbrev sWout : Stmt := top 14
theorem scWout : FnScope ["row", "lot"] ["row", "lot"] (defScope sWout) := ⟨rfl, rfl, rfl, by decide +kernel, rfl, by decide +kernel, by decide +kernel⟩
def spWout : Sp := fun vs H Q _ => ∃ (a : Addr) (row : List Int) (j : Nat), vs = [.ref a, .int j] ∧ IntsL H a row ∧ j < row.length ∧ row.length ≤ 1000 ∧ ∀ H' p, Same H H' → H p = none → IntsL H' p (wout row j) → Q (.ref p) H'
theorem ok_wout {f : Addr} {fd : FuncData} (D : Def K mg "without" "without" sWout ["row", "lot"] f fd) : Ok P w K mg base CX0 1 "without" ["row", "lot"] spWout := by
  refine D.ok (D.fn.ok scWout (fun vs H Q E h => ?_) (fun cdv A outer s H vs Q E hr h => ⟨_, pss_one (ps_ret (pe_op op_cat (pe_slice sl_list (pv 0) po_none (po_some (pv 1))) (pe_slice sl_list (pv 0) (po_some (pe_op op_add (pv 1) pe_int)) po_none))), ?_⟩))
  · obtain ⟨_, _, _, rfl, _⟩ := h
    rfl
  · obtain ⟨a, row, j, rfl, ha, hj, hl, q⟩ := h
    refine ⟨_, rfl, _, rfl, _, rfl, a, _, rfl, SqL.of ha, fun p hp => ⟨_, rfl, _, rfl, _, _, rfl, rfl, _, rfl, a, _, rfl, SqL.of ((L2.Same.up hp) _ _ ha), fun p2 hp2 => ⟨p, p2, _, _, rfl, rfl, (L2.Same.up hp2) _ _ upd_same, upd_same, ?_, fun p3 hp3 => ?_⟩⟩⟩
    · have h1 := cutV_length (row.map V.int) none (some (j : Int))
      have h2 := cutV_length (row.map V.int) (some ((j : Int) + 1)) none
      rw [List.length_map] at h1 h2
      exact sz _ (by omega)
    · have s1 := (L2.Same.up (H := H) (o := .lst (cutV (row.map V.int) none (some (j : Int)))) hp).trans (L2.Same.up (o := .lst (cutV (row.map V.int) (some ((j : Int) + 1)) none)) hp2)
      refine q _ p3 (s1.new (L2.Same.free s1 hp3)) (L2.Same.free s1 hp3) (upd_same.trans ?_)
      have e : ((j : Int) + 1) = ((j + 1 : Nat) : Int) := by simp
      rw [e, cut_to, cut_from]
      unfold wout
      rw [List.map_append, List.map_take, List.map_drop]
end
end SL
end
/-! ## W7 -/
section
namespace SL
open PySem PySem.Spec PyProof.Rows L2
theorem dbl_len (row : List Int) (j : Nat) : (dbl row j).length = row.length + 1 := by unfold dbl; simp
theorem wout_len {row : List Int} {j : Nat} (h : j < row.length) : (wout row j).length = row.length - 1 := by
  unfold wout
  rw [List.length_append, List.length_take, List.length_drop]
  omega
section
variable {P : Program} {w : World} {K : PySem.W.Frag} {mg : Str → Option Value} {base : Heap}
/-! ### minimum_price -/
abbrev sMinP : Stmt := top 15
theorem scMinP : FnScope ["bids", "reserves", "lot", "more", "row"] ["bids", "reserves", "lot"] (defScope sMinP) := ⟨rfl, rfl, rfl, by decide +kernel, rfl, by decide +kernel, by decide +kernel⟩
def spMinP : Sp := fun vs H Q _ => ∃ (a c : Addr) (b : List (List Int)) (r : List Int) (j : Nat), vs = [.ref a, .ref c, .int j] ∧ BidsL H a c b r ∧ j < r.length ∧ ∀ H', Same H H' → Q (.int (minPrice b r j)) H'
theorem ok_minP {f : Addr} {fd : FuncData} (D : Def K mg "minimum_price" "minimum_price" sMinP ["bids", "reserves", "lot"] f fd) (Gd : Ok P w K mg base CX0 1 "doubled" ["row", "lot"] spDbl)
    (Gt : Ok P w K mg base CX0 5 "total_value" ["bids", "reserves"] (spTotal K)) : Ok P w K mg base CX0 6 "minimum_price" ["bids", "reserves", "lot"] spMinP := by
  obtain ⟨f1, fd1, g1, k1, b1, F1⟩ := Gd
  obtain ⟨ft, fdt, gt, kt, bt, Ft⟩ := Gt
  refine D.ok (D.fn.ok scMinP (fun vs H Q E h => ?_) (fun cdv A outer s H vs Q E hr h => ⟨_,
      pss_cons (ps_set (i := 3) scMinP.nd rfl (Or.inl rfl) (pe_call Ft hr rfl gt kt bt .nil pass0 (pa_cons
        (pe_lc (own := [("row", 4)]) (g := gName 4) (tt := tYes) rfl scMinP.nd (pi_list (pv 0)) (blkOk_by (N := ["bids", "reserves", "lot", "more", "row"]) (sc := defScope sMinP) (by decide +kernel))
          (fun _ _ _ _ _ => pg_name (i := 4) scMinP.nd rfl (Or.inl rfl)) (fun _ _ _ _ _ => pts_nil)
          (fun _ _ _ _ _ => pe_call F1 (hr.mono (by decide)) rfl g1 k1 b1 .nil pass0 (pa_cons (pv 4) (pa_cons (pv 2) pa_nil))))
        (pa_cons (pe_call F1 (hr.mono (by decide)) rfl g1 k1 b1 .nil pass0 (pa_cons (pv 1) (pa_cons (pv 2) pa_nil))) pa_nil))))
      (pss_one (ps_ret (pe_op op_sub (pv 3) (pe_call Ft hr rfl gt kt bt .nil pass0 (pa_cons (pv 0) (pa_cons (pv 1) pa_nil)))))), ?_⟩))
  · obtain ⟨_, _, _, _, _, rfl, _⟩ := h
    rfl
  · obtain ⟨a, c, b, r, j, rfl, B, hj, q⟩ := h
    obtain ⟨qs, hqs, hql, hrow⟩ := B.rows.get
    have few := B.few
    have most := B.most
    refine ⟨_, rfl, a, rfl, ⟨_, SqL.of hqs⟩, fun D hD => lc_it walk_list (MadeR (fun row : List Int => row.map V.int) H D (b.map fun row => dbl row j)) (MadeR.zero hD) (fun i H' _ m => SqL.of (m.1 _ _ hqs)) ?_ ?_⟩
    · rintro i x H2 H3 hi m ⟨rfl, e⟩
      rw [List.length_map, hql] at hi
      have hk : b[i]? = some b[i] := List.getElem?_eq_getElem hi
      generalize b[i] = row at hk
      have hrl := B.each row (List.mem_of_getElem? hk)
      obtain ⟨p, _, e3, hp⟩ := hrow i row hk
      obtain rfl : x = V.ref p := by rw [e3] at e; exact (Option.some.inj e).symm
      refine ⟨rfl, yes_if ⟨_, rfl, _, rfl, p, row, j, rfl, m.1 _ _ hp, by omega, by omega, fun H4 p4 s4 n4 h4 => ?_⟩⟩
      obtain ⟨xs, hxs⟩ := m.has
      exact MadeR.put hD m s4 (by omega) (by rw [List.getElem?_map, hk]; rfl) h4 (Ne.symm (ne_of_none hxs n4)) fun _ z => z
    · intro H2 m
      rw [List.length_map, hql, ← List.length_map (f := fun row => dbl row j)] at m
      refine ⟨_, rfl, _, rfl, c, r, j, rfl, m.1 _ _ B.res, hj, by omega, fun H3 p3 s3 n3 h3 => ?_⟩
      refine ⟨D, p3, b.map (fun row => dbl row j), dbl r j, rfl, ⟨RowsL.weak (m.done.keep s3), SqL.of h3, by rw [dbl_len]; omega, fun row hrw => ?_, by rw [List.length_map]; exact most⟩, fun H4 s4 => ?_⟩
      · obtain ⟨row', hr', rfl⟩ := List.mem_map.mp hrw
        rw [dbl_len, dbl_len, B.each row' hr']
      · have s' : Same H H4 := (m.1.trans s3).trans s4
        refine ⟨_, rfl, _, rfl, _, rfl, a, c, b, r, rfl, (B.keep s').weak, fun H5 s5 => ⟨_, _, rfl, rfl, q _ (s'.trans s5)⟩⟩
/-! ### maximum_price -/
abbrev sMaxP : Stmt := top 16
theorem scMaxP : FnScope ["bids", "reserves", "lot", "less", "row"] ["bids", "reserves", "lot"] (defScope sMaxP) := ⟨rfl, rfl, rfl, by decide +kernel, rfl, by decide +kernel, by decide +kernel⟩
def spMaxP : Sp := fun vs H Q _ => ∃ (a c : Addr) (b : List (List Int)) (r : List Int) (j : Nat), vs = [.ref a, .ref c, .int j] ∧ BidsL H a c b r ∧ j < r.length ∧ ∀ H', Same H H' → Q (.int (maxPrice b r j)) H'
theorem ok_maxP {f : Addr} {fd : FuncData} (D : Def K mg "maximum_price" "maximum_price" sMaxP ["bids", "reserves", "lot"] f fd) (Gd : Ok P w K mg base CX0 1 "without" ["row", "lot"] spWout)
    (Gt : Ok P w K mg base CX0 5 "total_value" ["bids", "reserves"] (spTotal K)) : Ok P w K mg base CX0 6 "maximum_price" ["bids", "reserves", "lot"] spMaxP := by
  obtain ⟨f1, fd1, g1, k1, b1, F1⟩ := Gd
  obtain ⟨ft, fdt, gt, kt, bt, Ft⟩ := Gt
  refine D.ok (D.fn.ok scMaxP (fun vs H Q E h => ?_) (fun cdv A outer s H vs Q E hr h => ⟨_,
      pss_cons (ps_set (i := 3) scMaxP.nd rfl (Or.inl rfl) (pe_call Ft hr rfl gt kt bt .nil pass0 (pa_cons
        (pe_lc (own := [("row", 4)]) (g := gName 4) (tt := tYes) rfl scMaxP.nd (pi_list (pv 0)) (blkOk_by (N := ["bids", "reserves", "lot", "less", "row"]) (sc := defScope sMaxP) (by decide +kernel))
          (fun _ _ _ _ _ => pg_name (i := 4) scMaxP.nd rfl (Or.inl rfl)) (fun _ _ _ _ _ => pts_nil)
          (fun _ _ _ _ _ => pe_call F1 (hr.mono (by decide)) rfl g1 k1 b1 .nil pass0 (pa_cons (pv 4) (pa_cons (pv 2) pa_nil))))
        (pa_cons (pe_call F1 (hr.mono (by decide)) rfl g1 k1 b1 .nil pass0 (pa_cons (pv 1) (pa_cons (pv 2) pa_nil))) pa_nil))))
      (pss_one (ps_ret (pe_op op_sub (pe_call Ft hr rfl gt kt bt .nil pass0 (pa_cons (pv 0) (pa_cons (pv 1) pa_nil))) (pv 3)))), ?_⟩))
  · obtain ⟨_, _, _, _, _, rfl, _⟩ := h
    rfl
  · obtain ⟨a, c, b, r, j, rfl, B, hj, q⟩ := h
    obtain ⟨qs, hqs, hql, hrow⟩ := B.rows.get
    have few := B.few
    have most := B.most
    refine ⟨_, rfl, a, rfl, ⟨_, SqL.of hqs⟩, fun D hD => lc_it walk_list (MadeR (fun row : List Int => row.map V.int) H D (b.map fun row => wout row j)) (MadeR.zero hD) (fun i H' _ m => SqL.of (m.1 _ _ hqs)) ?_ ?_⟩
    · rintro i x H2 H3 hi m ⟨rfl, e⟩
      rw [List.length_map, hql] at hi
      have hk : b[i]? = some b[i] := List.getElem?_eq_getElem hi
      generalize b[i] = row at hk
      have hrl := B.each row (List.mem_of_getElem? hk)
      obtain ⟨p, _, e3, hp⟩ := hrow i row hk
      obtain rfl : x = V.ref p := by rw [e3] at e; exact (Option.some.inj e).symm
      refine ⟨rfl, yes_if ⟨_, rfl, _, rfl, p, row, j, rfl, m.1 _ _ hp, by omega, by omega, fun H4 p4 s4 n4 h4 => ?_⟩⟩
      obtain ⟨xs, hxs⟩ := m.has
      exact MadeR.put hD m s4 (by omega) (by rw [List.getElem?_map, hk]; rfl) h4 (Ne.symm (ne_of_none hxs n4)) fun _ z => z
    · intro H2 m
      rw [List.length_map, hql, ← List.length_map (f := fun row => wout row j)] at m
      refine ⟨_, rfl, _, rfl, c, r, j, rfl, m.1 _ _ B.res, hj, by omega, fun H3 p3 s3 n3 h3 => ?_⟩
      refine ⟨D, p3, b.map (fun row => wout row j), wout r j, rfl, ⟨RowsL.weak (m.done.keep s3), SqL.of h3, by rw [wout_len hj]; omega, fun row hrw => ?_, by rw [List.length_map]; exact most⟩, fun H4 s4 => ?_⟩
      · obtain ⟨row', hr', rfl⟩ := List.mem_map.mp hrw
        rw [wout_len (by rw [B.each row' hr']; exact hj), wout_len hj, B.each row' hr']
      · have s' : Same H H4 := (m.1.trans s3).trans s4
        refine ⟨_, rfl, _, rfl, a, c, b, r, rfl, (B.keep s').weak, fun H5 s5 => ⟨_, rfl, _, _, rfl, rfl, q _ (s'.trans s5)⟩⟩
/-! ### minimum_prices, maximum_prices -/
abbrev sMinPs : Stmt := top 17
theorem scMinPs : FnScope ["bids", "reserves", "lot"] ["bids", "reserves"] (defScope sMinPs) := ⟨rfl, rfl, rfl, by decide +kernel, rfl, by decide +kernel, by decide +kernel⟩
def spMinPs : Sp := fun vs H Q _ => ∃ (a c : Addr) (b : List (List Int)) (r : List Int), vs = [.ref a, .ref c] ∧ BidsL H a c b r ∧ ∀ H' p, Same H H' → H p = none → IntsL H' p (minPrices b r) → Q (.ref p) H'
theorem ok_minPs {f : Addr} {fd : FuncData} (T : Tx mg) (D : Def K mg "minimum_prices" "minimum_prices" sMinPs ["bids", "reserves"] f fd) (G : Ok P w K mg base CX0 6 "minimum_price" ["bids", "reserves", "lot"] spMinP) :
    Ok P w K mg base CX0 7 "minimum_prices" ["bids", "reserves"] spMinPs := by
  obtain ⟨f1, fd1, g1, k1, b1, F1⟩ := G
  refine D.ok (D.fn.ok scMinPs (fun vs H Q E h => ?_) (fun cdv A outer s H vs Q E hr h => ⟨_,
      pss_one (ps_ret (pe_lc (own := [("lot", 2)]) (g := gName 2) (tt := tYes) rfl scMinPs.nd (pi_range1 (by rfl) T.range (pa_cons (pe_callB call_len_seq (by rfl) T.len PySem.boot_len (pa_cons (pv 1) pa_nil)) pa_nil)) (blkOk_by (N := ["bids", "reserves", "lot"]) (sc := defScope sMinPs) (by decide +kernel))
          (fun _ _ _ _ _ => pg_name (i := 2) scMinPs.nd rfl (Or.inl rfl)) (fun _ _ _ _ _ => pts_nil)
          (fun _ _ _ _ _ => pe_call F1 hr rfl g1 k1 b1 .nil pass0 (pa_cons (pv 0) (pa_cons (pv 1) (pa_cons (pv 2) pa_nil)))))), ?_⟩))
  · obtain ⟨_, _, _, _, rfl, _⟩ := h
    rfl
  · obtain ⟨a, c, b, r, rfl, B, q⟩ := h
    have few := B.few
    refine ⟨_, rfl, c, _, rfl, .inl (SqL.of B.res), _, rfl, ?_, ?_, fun D hD => lc_it walk_upto (Made H D (outs (List.range r.length) (fun _ => true) (fun j => V.int (minPrice b r j)))) (Made.zero hD (outs_zero _ _ _)) (fun _ _ _ _ => trivial) ?_ ?_⟩
    · omega
    · rw [List.length_map]; omega
    · rintro i x H2 H3 hi m ⟨rfl, rfl⟩
      rw [Int.toNat_natCast, List.length_map] at hi
      refine ⟨rfl, yes_if ⟨_, rfl, _, rfl, _, rfl, a, c, b, r, i, rfl, B.keep m.1, hi, fun H' s' => ?_⟩⟩
      exact Made.put hD m s' (Nat.le_trans (outs_len _ _ _ _) (by rw [List.length_range]; omega)) (outs_yes (range_at hi) rfl) fun _ z => z
    · intro H2 m
      rw [Int.toNat_natCast, List.length_map] at m
      refine q _ D m.1 hD ?_
      have e := outs_all (List.range r.length) (fun _ => true) (fun j => V.int (minPrice b r j))
      rw [List.length_range, filter_yes] at e
      show _ = _
      rw [m.2, e]
      unfold minPrices
      rw [List.map_map]
      rfl
abbrev sMaxPs : Stmt := top 18
theorem scMaxPs : FnScope ["bids", "reserves", "lot"] ["bids", "reserves"] (defScope sMaxPs) := ⟨rfl, rfl, rfl, by decide +kernel, rfl, by decide +kernel, by decide +kernel⟩
def spMaxPs : Sp := fun vs H Q _ => ∃ (a c : Addr) (b : List (List Int)) (r : List Int), vs = [.ref a, .ref c] ∧ BidsL H a c b r ∧ ∀ H' p, Same H H' → H p = none → IntsL H' p (maxPrices b r) → Q (.ref p) H'
theorem ok_maxPs {f : Addr} {fd : FuncData} (T : Tx mg) (D : Def K mg "maximum_prices" "maximum_prices" sMaxPs ["bids", "reserves"] f fd) (G : Ok P w K mg base CX0 6 "maximum_price" ["bids", "reserves", "lot"] spMaxP) :
    Ok P w K mg base CX0 7 "maximum_prices" ["bids", "reserves"] spMaxPs := by
  obtain ⟨f1, fd1, g1, k1, b1, F1⟩ := G
  refine D.ok (D.fn.ok scMaxPs (fun vs H Q E h => ?_) (fun cdv A outer s H vs Q E hr h => ⟨_,
      pss_one (ps_ret (pe_lc (own := [("lot", 2)]) (g := gName 2) (tt := tYes) rfl scMaxPs.nd (pi_range1 (by rfl) T.range (pa_cons (pe_callB call_len_seq (by rfl) T.len PySem.boot_len (pa_cons (pv 1) pa_nil)) pa_nil)) (blkOk_by (N := ["bids", "reserves", "lot"]) (sc := defScope sMaxPs) (by decide +kernel))
          (fun _ _ _ _ _ => pg_name (i := 2) scMaxPs.nd rfl (Or.inl rfl)) (fun _ _ _ _ _ => pts_nil)
          (fun _ _ _ _ _ => pe_call F1 hr rfl g1 k1 b1 .nil pass0 (pa_cons (pv 0) (pa_cons (pv 1) (pa_cons (pv 2) pa_nil)))))), ?_⟩))
  · obtain ⟨_, _, _, _, rfl, _⟩ := h
    rfl
  · obtain ⟨a, c, b, r, rfl, B, q⟩ := h
    have few := B.few
    refine ⟨_, rfl, c, _, rfl, .inl (SqL.of B.res), _, rfl, ?_, ?_, fun D hD => lc_it walk_upto (Made H D (outs (List.range r.length) (fun _ => true) (fun j => V.int (maxPrice b r j)))) (Made.zero hD (outs_zero _ _ _)) (fun _ _ _ _ => trivial) ?_ ?_⟩
    · omega
    · rw [List.length_map]; omega
    · rintro i x H2 H3 hi m ⟨rfl, rfl⟩
      rw [Int.toNat_natCast, List.length_map] at hi
      refine ⟨rfl, yes_if ⟨_, rfl, _, rfl, _, rfl, a, c, b, r, i, rfl, B.keep m.1, hi, fun H' s' => ?_⟩⟩
      exact Made.put hD m s' (Nat.le_trans (outs_len _ _ _ _) (by rw [List.length_range]; omega)) (outs_yes (range_at hi) rfl) fun _ z => z
    · intro H2 m
      rw [Int.toNat_natCast, List.length_map] at m
      refine q _ D m.1 hD ?_
      have e := outs_all (List.range r.length) (fun _ => true) (fun j => V.int (maxPrice b r j))
      rw [List.length_range, filter_yes] at e
      show _ = _
      rw [m.2, e]
      unfold maxPrices
      rw [List.map_map]
      rfl
/-! ### payment -/
abbrev sPay : Stmt := top 19
theorem scPay : FnScope ["bids", "reserves", "lot"] ["bids", "reserves", "lot"] (defScope sPay) := ⟨rfl, rfl, rfl, by decide +kernel, rfl, by decide +kernel, by decide +kernel⟩
def spPay : Sp := fun vs H Q _ => ∃ (a c : Addr) (b : List (List Int)) (r : List Int) (l : Option Nat), vs = [.ref a, .ref c, lotV l] ∧ BidsL H a c b r ∧ (∀ j, l = some j → j < r.length) ∧ ∀ H', Same H H' → Q (.int (pay b r l)) H'
theorem ok_pay {f : Addr} {fd : FuncData} (T : Tx mg) (D : Def K mg "payment" "payment" sPay ["bids", "reserves", "lot"] f fd) (G : Ok P w K mg base CX0 6 "minimum_price" ["bids", "reserves", "lot"] spMinP) :
    Ok P w K mg base CX0 7 "payment" ["bids", "reserves", "lot"] spPay := by
  obtain ⟨f1, fd1, g1, k1, b1, F1⟩ := G
  obtain ⟨tn, hn⟩ := T.none
  refine D.ok (D.fn.ok scPay (fun vs H Q E h => ?_) (fun cdv A outer s H vs Q E hr h => ⟨_,
      pss_one (ps_ret (pe_ifExp (pt_cmpR op_eq (pv 2) (pe_glob rfl hn (relI _ _)) (nomark _)) pe_int (pe_call F1 hr rfl g1 k1 b1 .nil pass0 (pa_cons (pv 0) (pa_cons (pv 1) (pa_cons (pv 2) pa_nil)))))), ?_⟩))
  · obtain ⟨_, _, _, _, _, rfl, _⟩ := h
    rfl
  · obtain ⟨a, c, b, r, l, rfl, B, hj, q⟩ := h
    refine ⟨_, rfl, lot_scal l, _, rfl, ?_⟩
    cases l with
    | none =>
      rw [lot_eq]
      exact iteT (q _ (Same.refl _))
    | some j =>
      rw [lot_ne]
      exact iteF ⟨_, rfl, _, rfl, _, rfl, a, c, b, r, j, rfl, B, hj j rfl, q⟩
end
end SL
end
/-! ## W8 -/
section
namespace SL
open PySem PySem.Spec PyProof.Rows L2
abbrev LotsL (H : Hp) (a : Addr) (cs : List (Option Nat)) : Prop := H a = some (.lst (cs.map lotV))
theorem every_len (n : Nat) : (every n).length = n + 1 := by unfold every; simp
theorem every_mem {n j : Nat} (h : some j ∈ every n) : j < n := by
  unfold every at h
  simpa using h
theorem every_rg (n : Nat) : [V.int (-1)] ++ rgV 0 (n : Int) = (every n).map lotV := by
  unfold rgV every
  rw [List.map_cons, List.map_map, show ((n : Int) - 0).toNat = n by omega]
  show _ :: _ = _
  congr 1
  refine List.map_congr_left fun j _ => ?_
  show V.int (0 + (j : Int)) = V.int (j : Int)
  rw [Int.zero_add]
theorem flat_lots (cs : List (Option Nat)) : (cs.map lotV).all flatV = true := by
  rw [List.all_eq_true]
  intro x hx
  obtain ⟨c, _, rfl⟩ := List.mem_map.mp hx
  rfl
theorem eq_lot (c d : Option Nat) : eqV (lotV d) (lotV c) = (d == c) := by
  rw [Bool.eq_iff_iff, beq_iff_eq]
  cases c <;> cases d <;> simp [lotV, eqV, Vbndax.lotNumber] <;> omega
theorem in_lots (c : Option Nat) (cs : List (Option Nat)) : inV (lotV c) (cs.map lotV) = cs.contains c := by
  unfold inV
  rw [List.any_map]
  show (cs.any fun d => eqV (lotV d) (lotV c)) = _
  rw [Bool.eq_iff_iff, List.any_eq_true, List.contains_iff_mem]
  constructor
  · rintro ⟨d, hd, e⟩
    rw [eq_lot] at e
    rw [← eq_of_beq e]
    exact hd
  · intro h
    exact ⟨c, h, by rw [eq_lot]; exact beq_self_eq_true _⟩
section
variable {P : Program} {w : World} {K : PySem.W.Frag} {mg : Str → Option Value} {base : Heap}
/-! ### utility -/
abbrev sUtil : Stmt := top 20
theorem scUtil : FnScope ["row", "prices", "lot"] ["row", "prices", "lot"] (defScope sUtil) := ⟨rfl, rfl, rfl, by decide +kernel, rfl, by decide +kernel, by decide +kernel⟩
def spUtil (K : PySem.W.Frag) : Sp := fun vs H Q _ => ∃ (a b : Addr) (row p : List Int) (c : Option Nat), vs = [.ref a, .ref b, lotV c] ∧ IntsAt K H a row ∧ IntsAt K H b p ∧ (∀ j, c = some j → j < row.length ∧ j < p.length) ∧ Q (.int (util row p c)) H
theorem ok_util {f : Addr} {fd : FuncData} (T : Tx mg) (D : Def K mg "utility" "utility" sUtil ["row", "prices", "lot"] f fd) : Ok P w K mg base CX0 1 "utility" ["row", "prices", "lot"] (spUtil K) := by
  obtain ⟨tn, hn⟩ := T.none
  refine D.ok (D.fn.ok scUtil (fun vs H Q E h => ?_) (fun cdv A outer s H vs Q E hr h => ⟨_, pss_one (ps_ret (pe_ifExp (pt_cmpR op_eq (pv 2) (pe_glob rfl hn (relI _ _)) (nomark _)) pe_int
      (pe_op op_sub (pe_ix ix_list (pv 0) (pv 2) (fun _ _ => rfl)) (pe_ix ix_list (pv 1) (pv 2) (fun _ _ => rfl))))), ?_⟩))
  · obtain ⟨_, _, _, _, _, rfl, _⟩ := h
    rfl
  · obtain ⟨a, b, row, p, c, rfl, ha, hb, hj, q⟩ := h
    refine ⟨_, rfl, lot_scal c, _, rfl, ?_⟩
    cases c with
    | none =>
      rw [lot_eq]
      exact iteT q
    | some j =>
      rw [lot_ne]
      obtain ⟨h1, h2⟩ := hj j rfl
      exact iteF ⟨_, rfl, _, rfl, a, _, _, _, rfl, rfl, ha, at_int rfl h1 (-1), _, rfl, _, rfl, b, _, _, _, rfl, rfl, hb, at_int rfl h2 0, _, _, rfl, rfl, q⟩
/-! ### demand_set -/
abbrev sDemand : Stmt := top 21
theorem scDemand : FnScope ["row", "prices", "every", "most", "lot"] ["row", "prices"] (defScope sDemand) := ⟨rfl, rfl, rfl, by decide +kernel, rfl, by decide +kernel, by decide +kernel⟩
def spDemand (K : PySem.W.Frag) : Sp := fun vs H Q _ => ∃ (a b : Addr) (row p : List Int), vs = [.ref a, .ref b] ∧ IntsAt K H a row ∧ IntsAt K H b p ∧ row.length = p.length ∧ p.length ≤ 1000 ∧ ∀ H' z, Same H H' → H z = none → LotsL H' z (demand row p) → Q (.ref z) H'
theorem ok_demand {f : Addr} {fd : FuncData} (T : Tx mg) (D : Def K mg "demand_set" "demand_set" sDemand ["row", "prices"] f fd) (G : Ok P w K mg base CX0 1 "utility" ["row", "prices", "lot"] (spUtil K)) :
    Ok P w K mg base CX0 2 "demand_set" ["row", "prices"] (spDemand K) := by
  obtain ⟨f1, fd1, g1, k1, b1, F1⟩ := G
  obtain ⟨tn, hn⟩ := T.none
  refine D.ok (D.fn.ok scDemand (fun vs H Q E h => ?_) (fun cdv A outer s H vs Q E hr h => ⟨_,
      pss_cons (ps_set (i := 2) scDemand.nd rfl (Or.inl rfl) (pe_op op_cat (pe_lst (pa_cons (pe_glob rfl hn (relI _ _)) pa_nil)) (pe_listRg rfl (by rfl) T.list (prg_1 (by rfl) T.range (pe_callB call_len_seq (by rfl) T.len PySem.boot_len (pa_cons (pv 1) pa_nil))))))
      (pss_cons (ps_set (i := 3) scDemand.nd rfl (Or.inr rfl) (pe_callB (cr_max rfl) (by rfl) T.max (by decide +kernel) (pa_cons
        (pe_lc (own := [("lot", 4)]) (g := gName 4) (tt := tYes) rfl scDemand.nd (pi_list (pv 2)) (blkOk_by (N := ["row", "prices", "every", "most", "lot"]) (sc := defScope sDemand) (by decide +kernel))
          (fun _ _ _ _ _ => pg_name (i := 4) scDemand.nd rfl (Or.inl rfl)) (fun _ _ _ _ _ => pts_nil)
          (fun _ _ _ _ _ => pe_call F1 hr rfl g1 k1 b1 .nil pass0 (pa_cons (pv 0) (pa_cons (pv 1) (pa_cons (pv 4) pa_nil))))) pa_nil)))
      (pss_one (ps_ret (pe_lc (own := [("lot", 4)]) (g := gName 4) rfl scDemand.nd (pi_list (pv 2)) (blkOk_by (N := ["row", "prices", "every", "most", "lot"]) (sc := defScope sDemand) (by decide +kernel))
          (fun _ _ _ _ _ => pg_name (i := 4) scDemand.nd rfl (Or.inl rfl))
          (fun _ _ _ _ _ => pts_one (pt_cmpR op_eq (pe_call F1 hr rfl g1 k1 b1 .nil pass0 (pa_cons (pv 0) (pa_cons (pv 1) (pa_cons (pv 4) pa_nil)))) (pv 3) (nomark _)))
          (fun _ _ _ _ _ => pv 4))))), ?_⟩))
  · obtain ⟨_, _, _, _, rfl, _⟩ := h
    rfl
  · obtain ⟨a, b, row, p, rfl, ha, hb, hl, hm, q⟩ := h
    refine ⟨sz 1 (by decide), fun p1 n1 => ⟨_, rfl, b, _, rfl, .inl ((L2.Same.up n1).ints hb), _, rfl, RgOk.of_le (by omega) (by rw [List.length_map]; omega) (by omega) (by omega), fun p2 n2 => ?_⟩⟩
    refine ⟨p1, p2, _, _, rfl, rfl, (L2.Same.up n2) _ _ upd_same, upd_same, ?_, fun p3 n3 => ?_⟩
    · rw [rgV_length, List.length_map]; exact sz _ (by show 1 + _ ≤ _; omega)
    · generalize hH3 : upd (upd (upd H p1 _) p2 _) p3 _ = H3
      have s0 : Same H H3 := by
        rw [← hH3]
        have s1 := (L2.Same.up (H := H) (o := .lst [.int (-1)]) n1).trans (L2.Same.up (o := .lst (rgV 0 (p.map V.int).length)) n2)
        exact s1.new (L2.Same.free s1 n3)
      have h3 : LotsL H3 p3 (every p.length) := by
        rw [← hH3]
        show _ = _
        rw [upd_same, List.length_map, every_rg]
      clear hH3
      generalize hu : maxL ((every p.length).map (util row p)) = most
      refine ⟨_, rfl, p3, rfl, ⟨_, SqL.of h3⟩, fun D hD => lc_it walk_list (Made H3 D (outs (every p.length) (fun _ => true) (fun c => V.int (util row p c)))) (Made.zero hD (outs_zero _ _ _)) (fun i H' _ m => SqL.of (m.1 _ _ h3)) ?_ ?_⟩
      · rintro i x H4 H5 hi m ⟨rfl, e⟩
        obtain ⟨c, hc, rfl⟩ := map_get e
        have s' := s0.trans m.1
        refine ⟨rfl, yes_if ⟨_, rfl, _, rfl, _, rfl, a, b, row, p, c, rfl, s'.ints ha, s'.ints hb, fun j hj => ?_, ?_⟩⟩
        · subst hj
          have := every_mem (List.mem_of_getElem? hc)
          exact ⟨by omega, this⟩
        · exact Made.put hD m (Same.refl _) (Nat.le_trans (outs_len _ _ _ _) (by rw [every_len]; omega)) (outs_yes hc rfl) fun _ z => z
      · intro H4 m
        rw [List.length_map] at m
        have e4 : H4 D = some (.lst (((every p.length).map (util row p)).map V.int)) := by
          rw [m.2, outs_all, filter_yes, List.map_map]; rfl
        have s4 := s0.trans m.1
        refine ⟨D, (every p.length).map (util row p), rfl, SqL.of e4, by rw [List.length_map, every_len]; omega, fun v hv hle => ?_⟩
        have hvm := maxL_eq hv hle
        rw [hu] at hvm
        subst hvm
        refine ⟨_, rfl, p3, rfl, ⟨_, SqL.of (m.1 _ _ h3)⟩, fun D2 hD2 => lc_it walk_list (Made H4 D2 (outs (every p.length) (fun c => util row p c == v) lotV)) (Made.zero hD2 (outs_zero _ _ _)) (fun i H' _ m' => SqL.of (m'.1 _ _ (m.1 _ _ h3))) ?_ ?_⟩
        · rintro i x H5 H6 hi m' ⟨rfl, e⟩
          obtain ⟨c, hc, rfl⟩ := map_get e
          have s' := s4.trans m'.1
          refine ⟨rfl, _, rfl, _, rfl, _, rfl, a, b, row, p, c, rfl, s'.ints ha, s'.ints hb, fun j hj => ?_, _, rfl, rfl, _, rfl, ?_⟩
          · subst hj
            have := every_mem (List.mem_of_getElem? hc)
            exact ⟨by omega, this⟩
          · rw [dec_int]
            refine ite2 (fun cc => ?_) (fun cc => ?_)
            · exact ⟨_, rfl, Made.put hD2 m' (Same.refl _) (Nat.le_trans (outs_len _ _ _ _) (by rw [every_len]; omega)) (outs_yes hc cc) fun _ z => z⟩
            · exact Made.skip m' (Same.refl _) (outs_no hc (by simpa using cc))
        · intro H5 m'
          rw [List.length_map] at m'
          refine q _ D2 (s4.trans m'.1) (L2.Same.free s4 hD2) ?_
          show _ = _
          rw [m'.2, outs_all]
          unfold demand
          rw [hu]
/-! ### is_price_wrong -/
abbrev sWrong : Stmt := top 22
theorem scWrong : FnScope ["price", "reserve", "is_sold"] ["price", "reserve", "is_sold"] (defScope sWrong) := ⟨rfl, rfl, rfl, by decide +kernel, rfl, by decide +kernel, by decide +kernel⟩
def spWrong : Sp := fun vs H Q _ => ∃ (x y : Int) (s : Bool), vs = [.int x, .int y, .bl s] ∧ Q (.bl (wrong x y s)) H
theorem ok_wrong {f : Addr} {fd : FuncData} (D : Def K mg "is_price_wrong" "is_price_wrong" sWrong ["price", "reserve", "is_sold"] f fd) : Ok P w K mg base CX0 1 "is_price_wrong" ["price", "reserve", "is_sold"] spWrong := by
  refine D.ok (D.fn.ok scWrong (fun vs H Q E h => ?_) (fun cdv A outer s H vs Q E hr h => ⟨_, pss_one (ps_ret (pe_or (pe_cmpR op_lt (pv 0) (pv 1) (nomark _)) (pe_one (pe_and (pe_not (pv 2)) (pe_one (pe_cmpR op_ne (pv 0) (pv 1) (nomark _))))))), ?_⟩))
  · obtain ⟨_, _, _, rfl, _⟩ := h
    rfl
  · obtain ⟨x, y, s, rfl, q⟩ := h
    refine ⟨_, rfl, _, rfl, _, _, rfl, rfl, _, rfl, ?_⟩
    unfold wrong at q
    refine ite2 (fun c => ?_) (fun c => ?_)
    · rw [c, Bool.true_or] at q
      exact q
    · have c : decide (x < y) = false := by simpa using c
      rw [c, Bool.false_or] at q
      refine ⟨_, rfl, _, rfl, _, rfl, ?_⟩
      cases s with
      | true => exact iteF q
      | false =>
        refine iteT ⟨_, rfl, _, rfl, rfl, ?_⟩
        rw [dec_int]
        exact q
end
end SL
end
/-! ## W9 -/
section
namespace SL
open PySem PySem.Spec PyProof.Rows L2
section
variable {P : Program} {w : World} {K : PySem.W.Frag} {mg : Str → Option Value} {base : Heap}
/-! ### price_fault -/
abbrev sFault : Stmt := top 23
theorem scFault : FnScope ["bids", "reserves", "allocation", "prices", "lot", "price", "bidder", "row"] ["bids", "reserves", "allocation", "prices"] (defScope sFault) := ⟨rfl, rfl, rfl, by decide +kernel, rfl, by decide +kernel, by decide +kernel⟩
def spFault (K : PySem.W.Frag) : Sp := fun vs H Q _ => ∃ (a c d e : Addr) (b : List (List Int)) (r : List Int) (u : List (Option Nat)) (p : List Int), vs = [.ref a, .ref c, .ref d, .ref e] ∧ BidsL H a c b r ∧ LotsL H d u ∧ IntsL H e p ∧ p.length = r.length ∧ u.length = b.length ∧
  (fault b r u p = none → ∀ H', Same H H' → Q .non H') ∧ (∀ k n : Nat, fault b r u p = some (k, n) → ∀ H' t, Same H H' → H' t = some (.tup [.int k, .int n]) → Q (.ref t) H')
theorem ok_fault {f : Addr} {fd : FuncData} (T : Tx mg) (D : Def K mg "price_fault" "price_fault" sFault ["bids", "reserves", "allocation", "prices"] f fd) (Gw : Ok P w K mg base CX0 1 "is_price_wrong" ["price", "reserve", "is_sold"] spWrong)
    (Gd : Ok P w K mg base CX0 2 "demand_set" ["row", "prices"] (spDemand K)) : Ok P w K mg base CX0 3 "price_fault" ["bids", "reserves", "allocation", "prices"] (spFault K) := by
  obtain ⟨f1, fd1, g1, k1, b1, F1⟩ := Gw
  obtain ⟨f2, fd2, g2, k2, b2, F2⟩ := Gd
  obtain ⟨t1, hn1⟩ := T.tooLow
  obtain ⟨t2, hn2⟩ := T.notDem
  refine D.ok (D.fn.ok scFault (fun vs H Q E h => ?_) (fun cdv A outer s H vs Q E hr h => ⟨_,
      pss_cons (ps_for PassesOwn.never rfl (pi_enum (by rfl) T.enumerate (pa_cons (pv 3) pa_nil)) (pg_tup rfl (pgs_cons (pg_name (i := 4) scFault.nd rfl (Or.inl rfl)) (pgs_cons (pg_name (i := 5) scFault.nd rfl (Or.inl rfl)) pgs_nil)))
        (pss_one (ps_if (pt_val (pe_call F1 (hr.mono (by decide)) rfl g1 k1 b1 .nil pass0 (pa_cons (pv 5) (pa_cons (pe_ix ix_list (pv 1) (pv 4) (fun _ _ => rfl)) (pa_cons (pe_cmpR op_in_seq (pv 4) (pv 2) (by rfl)) pa_nil)))))
          (pss_one (ps_ret (pe_tup (pa_cons (pe_glob rfl hn1 (relI _ _)) (pa_cons (pv 4) pa_nil))))) pss_nil)))
      (pss_cons (ps_for PassesOwn.never rfl (pi_enum (by rfl) T.enumerate (pa_cons (pv 0) pa_nil)) (pg_tup rfl (pgs_cons (pg_name (i := 6) scFault.nd rfl (Or.inl rfl)) (pgs_cons (pg_name (i := 7) scFault.nd rfl (Or.inl rfl)) pgs_nil)))
        (pss_one (ps_if (pt_cmpR op_notIn_seq (pe_ix ix_list (pv 2) (pv 6) (fun _ _ => rfl)) (pe_call F2 hr rfl g2 k2 b2 .nil pass0 (pa_cons (pv 7) (pa_cons (pv 3) pa_nil))) (by rfl))
          (pss_one (ps_ret (pe_tup (pa_cons (pe_glob rfl hn2 (relI _ _)) (pa_cons (pv 6) pa_nil))))) pss_nil)))
      (pss_one (ps_ret pe_non))), ?_⟩))
  · obtain ⟨_, _, _, _, _, _, _, _, rfl, _⟩ := h
    rfl
  · obtain ⟨a, c, d, e, b, r, u, p, rfl, B, hu, hp, hpl, hul, q1, q2⟩ := h
    have few := B.few
    have most := B.most
    obtain ⟨qs, hqs, hql, hrow⟩ := B.rows.get
    refine ⟨_, rfl, e, _, rfl, SqL.of hp, for_it walk_enum (fun i σ H' => ∃ lv pv : Option V, σ = [some (.ref a), some (.ref c), some (.ref d), some (.ref e), lv, pv, none, none] ∧ Same H H' ∧ ∀ j, j < i → (!wrong (p.getD j 0) (r.getD j 0) (u.contains (some j))) = true)
      ⟨none, none, rfl, Same.refl _, fun j hj => absurd hj (Nat.not_lt_zero j)⟩ (fun i σ H' _ ⟨_, _, _, s', _⟩ => s'.seq (SqL.of hp)) ?_ ?_⟩
    · rintro i x σ H1 H2 hi ⟨lv, pv, rfl, s1, hw⟩ ⟨T1, x1, y1, rfl, hT1, rfl, e1, e2⟩
      obtain rfl : x1 = V.int (i : Nat) := (Option.some.inj e1).symm
      rw [List.length_map] at hi
      obtain rfl : y1 = V.int (p.getD i 0) := by
        have e2 : (p.map V.int)[i]? = some y1 := e2
        have : (p.map V.int)[i]? = some (V.int (p.getD i 0)) := by simp [List.getD, hi]
        rw [this] at e2
        exact (Option.some.inj e2).symm
      have s2 := s1.trans (L2.Same.up (o := .tup [.int (i : Nat), .int (p.getD i 0)]) hT1)
      refine ⟨T1, _, rfl, SqT.of upd_same, rfl, _, _, rfl, _, _, rfl, rfl, ?_⟩
      refine ⟨_, rfl, _, rfl, _, rfl, c, _, _, _, rfl, rfl, SqL.of (s2 _ _ B.res), at_int rfl (by omega) 0, _, rfl, _, rfl, d, _, rfl, .inl (SqL.of (s2 _ _ hu)), rfl, flat_lots u, ?_⟩
      refine ⟨_, _, _, rfl, _, rfl, ?_⟩
      have hin : inV (V.int (i : Nat)) (u.map lotV) = u.contains (some i) := in_lots (some i) u
      refine ite2 (fun cc => ?_) (fun cc => ?_)
      · have cc : wrong (p.getD i 0) (r.getD i 0) (inV (V.int (i : Nat)) (u.map lotV)) = true := cc
        rw [hin] at cc
        refine ⟨_, rfl, sz 2 (by decide), fun t ht => q2 1 i ?_ _ t (L2.Same.new (L2.Same.free s2 ht) s2) upd_same⟩
        have eA : faultA r u p = some i := List.find?_range_eq_some.mpr ⟨cc, List.mem_range.mpr hi, hw⟩
        unfold fault
        rw [eA]
      · refine ⟨_, _, rfl, s2, fun j hj => ?_⟩
        rcases (by omega : j < i ∨ j = i) with hj | hj
        · exact hw j hj
        · subst hj
          have cc : ¬ wrong (p.getD j 0) (r.getD j 0) (inV (V.int (j : Nat)) (u.map lotV)) = true := cc
          rw [hin] at cc
          simpa using cc
    · rintro σ H1 ⟨lv, pv, rfl, s1, hw⟩
      rw [List.length_map] at hw
      have eA : faultA r u p = none := List.find?_range_eq_none.mpr hw
      refine ⟨_, rfl, a, _, rfl, SqL.of (s1 _ _ hqs), for_it walk_enum (fun i σ H' => ∃ bv rv : Option V, σ = [some (.ref a), some (.ref c), some (.ref d), some (.ref e), lv, pv, bv, rv] ∧ Same H H' ∧ ∀ j, j < i → (!!(demand (b.getD j []) p).contains (u.getD j none)) = true)
        ⟨none, none, rfl, s1, fun j hj => absurd hj (Nat.not_lt_zero j)⟩ (fun i σ H' _ ⟨_, _, _, s', _⟩ => s'.seq (SqL.of hqs)) ?_ ?_⟩
      · rintro i x σ H2 H3 hi ⟨bv, rv, rfl, s2, hd⟩ ⟨T1, x1, y1, rfl, hT1, rfl, e1, e2⟩
        obtain rfl : x1 = V.int (i : Nat) := (Option.some.inj e1).symm
        rw [List.length_map, hql] at hi
        have hk : b[i]? = some b[i] := List.getElem?_eq_getElem hi
        have hkd : b.getD i [] = b[i] := by simp [List.getD, hi]
        generalize b[i] = row at hk hkd
        have hrl := B.each row (List.mem_of_getElem? hk)
        obtain ⟨z, _, e3, hz⟩ := hrow i row hk
        obtain rfl : y1 = V.ref z := by
          have e2 : (qs.map V.ref)[i]? = some y1 := e2
          rw [e3] at e2
          exact (Option.some.inj e2).symm
        have s3 := s2.trans (L2.Same.up (o := .tup [.int (i : Nat), .ref z]) hT1)
        have hui : (u.map lotV)[i]? = some (lotV (u.getD i none)) := by
          have : i < u.length := by omega
          simp [List.getD, this]
        refine ⟨T1, _, rfl, SqT.of upd_same, rfl, _, _, rfl, _, _, rfl, rfl, ?_⟩
        refine ⟨_, rfl, _, rfl, d, _, _, _, rfl, rfl, SqL.of (s3 _ _ hu), at_of rfl hui, _, rfl, _, rfl, z, e, row, p, rfl, SqL.of (s3 _ _ hz), SqL.of (s3 _ _ hp), by omega, by omega, fun H4 z4 s4 n4 h4 => ?_⟩
        refine ⟨z4, _, rfl, .inl (SqL.of h4), ?_, flat_lots _, _, rfl, ?_⟩
        · cases u.getD i none <;> rfl
        · have hin : inV (lotV (u.getD i none)) ((demand row p).map lotV) = (demand row p).contains (u.getD i none) := in_lots _ _
          have s5 := s3.trans s4
          refine ite2 (fun cc => ?_) (fun cc => ?_)
          · have cc : (!inV (lotV (u.getD i none)) ((demand row p).map lotV)) = true := cc
            rw [hin] at cc
            refine ⟨_, rfl, sz 2 (by decide), fun t ht => q2 2 i ?_ _ t (L2.Same.new (L2.Same.free s5 ht) s5) upd_same⟩
            have eB : faultB b u p = some i := List.find?_range_eq_some.mpr ⟨by rw [hkd]; exact cc, List.mem_range.mpr hi, hd⟩
            unfold fault
            rw [eA, eB]
          · refine ⟨_, _, rfl, s5, fun j hj => ?_⟩
            rcases (by omega : j < i ∨ j = i) with hj | hj
            · exact hd j hj
            · subst hj
              have cc : ¬ (!inV (lotV (u.getD j none)) ((demand row p).map lotV)) = true := cc
              rw [hin] at cc
              rw [hkd]
              simpa using cc
      · rintro σ H2 ⟨bv, rv, rfl, s2, hd⟩
        rw [List.length_map, hql] at hd
        have eB : faultB b u p = none := List.find?_range_eq_none.mpr hd
        exact q1 (by unfold fault; rw [eA, eB]) _ s2
end
end SL
end
/-! ## Wm -/
section
/-! ## min(..) of a list of tuples of ints: the library's own way (min of ints), with what stands in the heap at each comparison -/
namespace PySem
namespace MinT
variable {pr : Program} {wo : World} {A : Around} {R : Result → Shared → Prop} {It Sl : Addr} {fp wr : List Addr} {n : Nat} {V0 : Nat → Value → Prop} {St : Nat → Heap → Prop}
/-- how two of the items compare while the heap is as G says -/
def Cmps (pr : Program) (wo : World) (A : Around) (G : Heap → Prop) (V0 : Nat → Value → Prop) (lt : Nat → Nat → Bool) : Prop :=
  ∀ (i j : Nat) (x y : Value) (sh : Shared) (Q E : Value → Shared → Prop), G sh.heap → V0 i x → V0 j y → Q (.bool (lt i j)) sh → wpAny (model pr wo) A (richCompare .Lt x y) Q E sh
theorem min_name : (toString "min" ++ toString ".loop" : String) = "min.loop" := by decide
/-- what holds of G while only the iterator and the pair of the best are written -/
def Holds (G : Heap → Prop) (wr : List Addr) (Sl : Addr) : Prop := ∀ h h' : Heap, G h → (∀ b o, b ∉ wr → b ≠ Sl → h.get? b = some o → h'.get? b = some o) → G h'
theorem turns (W : Walks pr wo A.in1 It fp wr n V0 St) {G : Heap → Prop} (hG : Holds G wr Sl) {lt : Nat → Nat → Bool} (hc : Cmps pr wo A.in1 G V0 lt) (hS : Sl ∉ fp) :
    ∀ (left at' : Nat) (sh : Shared) (best : Value) (m : Nat), n = at' + 1 + left → G sh.heap → St (at' + 1) sh.heap → V0 (argBest lt at') best →
      sh.heap.get? Sl = some { cls := .type "list", dict := none, data := .seq #[best, best] m, slots := #[] } →
      (∀ x h' tk, V0 (argBest lt (n - 1)) x → (∀ b o, b ∉ wr → b ≠ Sl → sh.heap.get? b = some o → h'.get? b = some o) → R (.ok (.ret x)) { sh with heap := h', toks := tk }) →
      codeAny (model pr wo) A (.builtin "min.loop" ⟨[.ref It, .none, .ref Sl], []⟩) R sh := by
  have hw : Sl ∉ wr := fun z => hS (W.sub _ z)
  intro left
  induction left with
  | zero =>
    intro at' sh best m hn _ st hb hs hr
    obtain rfl : n = at' + 1 := hn
    refine codeAny_builtin F.entry_min_loop ?_; rw [Around.under_plainId F.plain_min_loop _]
    show wpAny _ A.in1 (seqItems? (.ref Sl) >>= _) _ _ sh
    refine wpAny_bind (wpAny_seqItems hs rfl ?_)
    show wpAny _ A.in1 (tryCatch (pyNext (.ref It)) _ >>= _) _ _ sh
    refine wpAny_bind (wpAny_tryCatch (W.done sh _ _ st fun h1 tk k1 => ?_))
    have s1 := k1 Sl _ hw hs
    show wpAny _ A.in1 (updateSeq Sl (fun _ => #[]) >>= _) _ _ _
    refine wpAny_bind ?_
    refine wpAny_updateSeq s1 rfl (wpAny_bind (wpAny_letGo (wpAny_pure ?_)))
    exact hr best _ tk hb fun b o z1 z2 e => (Heap.get?_update_other _ _ (Ne.symm z2)).trans (k1 b o z1 e)
  | succ left ih =>
    intro at' sh best m hn g st hb hs hr
    have more : at' + 1 < n := by omega
    refine codeAny_builtin F.entry_min_loop ?_; rw [Around.under_plainId F.plain_min_loop _]
    show wpAny _ A.in1 (seqItems? (.ref Sl) >>= _) _ _ sh
    refine wpAny_bind (wpAny_seqItems hs rfl ?_)
    show wpAny _ A.in1 (tryCatch (pyNext (.ref It)) _ >>= _) _ _ sh
    refine wpAny_bind (wpAny_tryCatch (W.item (at' + 1) sh _ _ more st fun x h1 tk hx st1 k1 => ?_))
    have s1 := k1 Sl _ hw hs
    have g1 : G h1 := hG _ _ g fun b o z _ e => k1 b o z e
    show wpAny _ A.in1 (tryCatch (holding [x, x] (richCompare .Lt x best >>= _)) _ >>= _) _ _ _
    refine wpAny_bind (wpAny_tryCatch (wpAny_holding (wpAny_bind (hc (at' + 1) (argBest lt at') x best _ _ _ g1 hx hb ?_))))
    refine wpAny_bind (wpAny_holding (wpAny_truthy_bool ?_))
    refine wpAny_bind (wpAny_letGo (wpAny_pure ?_))
    cases e : lt (at' + 1) (argBest lt at') with
    | true =>
      simp only [if_true]
      refine wpAny_bind ?_
      refine wpAny_updateSeq s1 rfl (wpAny_bind (wpAny_letGo ?_))
      rw [min_name]
      refine wpAny_pure ⟨plainId_quiet F.plain_min_loop _, ih (at' + 1) _ x _ (by omega) (hG _ _ g1 fun b o _ z2 e => (Heap.get?_update_other _ _ (Ne.symm z2)).trans e) (W.frame _ _ _ st1 fun b hbf o e => ?_) (by rw [argBest, e]; exact hx) (Heap.get?_update_self _ s1 rfl) fun y h2 tk2 hy k2 => ?_⟩
      · exact (Heap.get?_update_other _ _ (fun z : Sl = b => hS (by rw [z]; exact hbf))).trans e
      · exact hr y h2 tk2 hy fun b o z1 z2 e => k2 b o z1 z2 ((Heap.get?_update_other _ _ (Ne.symm z2)).trans (k1 b o z1 e))
    | false =>
      simp only [Bool.false_eq_true, if_false]
      refine wpAny_bind (wpAny_letGo ?_)
      rw [min_name]
      refine wpAny_pure ⟨plainId_quiet F.plain_min_loop _, ih (at' + 1) _ best m (by omega) g1 st1 (by rw [argBest, e]; exact hb) s1 fun y h2 tk2 hy k2 => ?_⟩
      exact hr y h2 tk2 hy fun b o z1 z2 e => k2 b o z1 z2 (k1 b o z1 e)
theorem first_turn (W : Walks pr wo A.in1 It fp wr n V0 St) {G : Heap → Prop} (hG : Holds G wr Sl) {lt : Nat → Nat → Bool} (hc : Cmps pr wo A.in1 G V0 lt) (hS : Sl ∉ fp) (hn : 0 < n) {sh : Shared} {m : Nat} (g : G sh.heap) (st : St 0 sh.heap)
    (hs : sh.heap.get? Sl = some { cls := .type "list", dict := none, data := .seq #[] m, slots := #[] })
    (hr : ∀ x h' tk, V0 (argBest lt (n - 1)) x → (∀ b o, b ∉ wr → b ≠ Sl → sh.heap.get? b = some o → h'.get? b = some o) → R (.ok (.ret x)) { sh with heap := h', toks := tk }) :
    codeAny (model pr wo) A (.builtin "min.loop" ⟨[.ref It, .none, .ref Sl], []⟩) R sh := by
  have hw : Sl ∉ wr := fun z => hS (W.sub _ z)
  refine codeAny_builtin F.entry_min_loop ?_; rw [Around.under_plainId F.plain_min_loop _]
  show wpAny _ A.in1 (seqItems? (.ref Sl) >>= _) _ _ sh
  refine wpAny_bind (wpAny_seqItems hs rfl ?_)
  show wpAny _ A.in1 (tryCatch (pyNext (.ref It)) _ >>= _) _ _ sh
  refine wpAny_bind (wpAny_tryCatch (W.item 0 sh _ _ hn st fun x h1 tk hx st1 k1 => ?_))
  have s1 := k1 Sl _ hw hs
  have g1 : G h1 := hG _ _ g fun b o z _ e => k1 b o z e
  show wpAny _ A.in1 (updateSeq Sl (fun _ => #[x, x]) >>= _) _ _ _
  refine wpAny_bind ?_
  refine wpAny_updateSeq s1 rfl ?_
  rw [min_name]
  refine wpAny_pure ⟨plainId_quiet F.plain_min_loop _, turns W hG hc hS (n - 1) 0 _ x _ (by omega) (hG _ _ g1 fun b o _ z2 e => (Heap.get?_update_other _ _ (Ne.symm z2)).trans e) (W.frame _ _ _ st1 fun b hbf o e => ?_) hx (Heap.get?_update_self _ s1 rfl) fun y h2 tk2 hy k2 => ?_⟩
  · exact (Heap.get?_update_other _ _ (fun z : Sl = b => hS (by rw [z]; exact hbf))).trans e
  · exact hr y h2 tk2 hy fun b o z1 z2 e => k2 b o z1 z2 ((Heap.get?_update_other _ _ (Ne.symm z2)).trans (k1 b o z1 e))
/-- min of a list, the items told by V0, the comparison by what the heap of the call holds -/
theorem call_list {E : Value → Shared → Prop} {s : Shared} {l : Addr} {items : Array Value} {lt : Nat → Nat → Bool} {Q : Value → Shared → Prop} (hh : A.handled = none) (hl : s.heap.IsList l items) (hne : 0 < items.size)
    (hc : Cmps pr wo A.in1 (fun h => ∀ b o, s.heap.get? b = some o → h.get? b = some o) (fun i v => items[i]? = some v) lt)
    (hq : ∀ x h' tk, items[argBest lt (items.size - 1)]? = some x → (∀ b o, s.heap.get? b = some o → h'.get? b = some o) → Q x { s with heap := h', toks := tk }) :
    wpAny (model pr wo) A (call (.builtin "min") [.ref l]) Q E s := by
  have hlt : l < s.heap.objs.size := by
    obtain ⟨_, e, _⟩ := hl
    exact Heap.lt_size e
  refine call_function_tree F.kind_min F.plain_min F.entry_min (F.args_min1 _) ?_
  have given : Builtin.Builtins.bindParams "min" ["key", "default"] 0 ⟨[], []⟩ = pure [none, none] := rfl
  show wpAny _ A.in1 (Builtin.Builtins.bindParams "min" _ _ ⟨[], []⟩ >>= _) _ _ s
  refine wpAny_bind (wpAny_of_eq given (wpAny_bind (wpAny_pure (wpAny_bind (wpAny_pyIter_list hl (wpAny_bind (wpAny_newObj_type ?_)))))))
  rw [min_name]
  have W := Walks.list (prog := pr) (w := wo) (A := A.in1) hh s.heap.objs.size l (Nat.ne_of_lt hlt) items
  generalize hp : s.heap.push { cls := .type "list_iterator", data := .fields #[.ref l, .int 0 0] } = h1
  have sz1 : h1.objs.size = s.heap.objs.size + 1 := by rw [← hp, Heap.size_push]
  have k1 : ∀ b o, s.heap.get? b = some o → h1.get? b = some o := fun b o e => by rw [← hp]; exact Heap.get?_push_of_some _ e
  have it1 : h1.IsListIter s.heap.objs.size l 0 := by rw [← hp]; exact ⟨_, Heap.get?_push_size _ rfl, rfl, rfl⟩
  have l1 : h1.IsList l items := by rw [← hp]; exact hl.push _
  have k2 : ∀ b o, s.heap.get? b = some o → (h1.push { cls := .type "list", data := .seq #[] }).get? b = some o := fun b o e => Heap.get?_push_of_some _ (k1 b o e)
  have ne : ∀ b o, s.heap.get? b = some o → b ≠ s.heap.objs.size ∧ b ≠ h1.objs.size := fun b o e => by
    have z := Heap.lt_size e
    exact ⟨Nat.ne_of_lt z, Nat.ne_of_lt (by rw [sz1]; exact Nat.lt_succ_of_lt z)⟩
  refine wpAny_pure ⟨plainId_quiet F.plain_min_loop _, first_turn (Sl := h1.objs.size) W (G := fun h => ∀ b o, s.heap.get? b = some o → h.get? b = some o) (fun ha hb g kk b o e => kk b o (fun z => ?_) (ne b o e).2 (g b o e)) hc (fun z => ?_) hne k2 ⟨it1.at fun o e => Heap.get?_push_of_some _ e, l1.at fun o e => Heap.get?_push_of_some _ e⟩ (Heap.get?_push_size _ rfl) fun x h' tk hx kx => ?_⟩
  · rcases List.mem_cons.mp z with z | z
    · exact (ne b o e).1 z
    · cases z
  · rcases List.mem_cons.mp z with z | z
    · exact absurd (sz1.symm.trans z) (Nat.succ_ne_self _)
    · rcases List.mem_cons.mp z with z | z
      · exact absurd (sz1.symm.trans z) (Nat.ne_of_gt (Nat.lt_succ_of_lt hlt))
      · cases z
  · refine hq x h' tk hx fun b o e => kx b o (fun z => ?_) (ne b o e).2 (k2 b o e)
    rcases List.mem_cons.mp z with z | z
    · exact (ne b o e).1 z
    · cases z
end MinT
end PySem
namespace SL
open PySem PySem.Spec PyProof.Rows L2
/-- min(ts) of a list of tuples of ints, their order told by a key -/
def rMinT (K : PySem.W.Frag) : List V → Hp → VK → Prop := fun vs H Q => ∃ (a : Addr) (qs : List Addr) (pr : Nat → List Int) (key : Nat → Int), vs = [V.ref a] ∧ SqL K H a (qs.map V.ref) ∧ 0 < qs.length ∧
  (∀ (i : Nat) (q : Addr), qs[i]? = some q → SqT K H q ((pr i).map V.int)) ∧ (∀ i j, i < qs.length → j < qs.length → HT.lexLt (pr i) (pr j) = decide (key i < key j)) ∧
  ∀ (m : Nat) (q : Addr), qs[m]? = some q → (∀ j, j < qs.length → key m ≤ key j) → Q (.ref q) H
theorem cr_minT {X : Cx} (hc : X.calm = true) (hu : X.A.units + 1 < cLine) : CallR X (.builtin "min") (rMinT X.K) := by
  intro pins s σ H vs us Q I r h
  obtain ⟨a, qs, pr, key, rfl, hs, hne, ht, hk, q⟩ := h
  obtain ⟨its, rv, hl, _⟩ := I.list hs
  rw [Vals.ref1 r]
  have hlen : its.length = qs.length := by rw [← rv.length, List.length_map]
  have at_ : ∀ (i : Nat) (x : Value), its.toArray[i]? = some x → ∃ q, qs[i]? = some q ∧ x = .ref q := fun i x e => by
    have e : its[i]? = some x := by simpa using e
    have hi : i < qs.length := by rw [← hlen]; exact (List.getElem?_eq_some_iff.mp e).1
    have e1 : (qs.map V.ref)[i]? = some (.ref qs[i]) := by simp [hi]
    obtain ⟨u, e2, ru⟩ := rv.get e1
    rw [e2] at e
    obtain rfl : u = x := Option.some.inj e
    exact ⟨qs[i], by simp [hi], ru⟩
  refine MinT.call_list (lt := fun i j => decide (key i < key j)) (I.ok.hd hc) hl.isList (by simpa [hlen] using hne) (fun i j x y t Q' E' g hx hy hQ => ?_) fun x h' tk hx k => ?_
  · obtain ⟨p, hp, rfl⟩ := at_ i x hx
    obtain ⟨p', hp', rfl⟩ := at_ j y hy
    obtain ⟨is1, r1, t1, _⟩ := I.tuple (ht i p hp)
    obtain ⟨is2, r2, t2, _⟩ := I.tuple (ht j p' hp')
    obtain ⟨o1, e1, c1⟩ := t1
    obtain ⟨o2, e2, c2⟩ := t2
    have hlex := hk i j (List.getElem?_eq_some_iff.mp hp).1 (List.getElem?_eq_some_iff.mp hp').1
    have i1 : IntsAre is1.toArray.toList (pr i) := intsAre_of r1
    have i2 : IntsAre is2.toArray.toList (pr j) := intsAre_of r2
    refine HT.lt_tupInts (A := X.A.in1) ⟨o1, g _ _ e1, c1⟩ ⟨o2, g _ _ e2, c2⟩ i1 i2 ?_ ?_
    · exact hu
    · rw [hlex]; exact hQ
  · obtain ⟨b1, b2⟩ := argBest_lt key (its.toArray.size - 1)
    obtain ⟨p, hp, rfl⟩ := at_ _ x hx
    refine ⟨.ref p, H, I.kept k, rfl, q _ p hp fun j hj => b2 j ?_⟩
    have : its.toArray.size = qs.length := by simpa using hlen
    omega
end SL
end
/-! ## W10 -/
section
namespace SL
open PySem PySem.Spec PyProof.Rows L2
theorem zip_filter {α β : Type} (p : α → Bool) : ∀ (ds : List α) (qs : List β), qs.length = ds.length → ((ds.zip qs).filter fun x => p x.1).length = (ds.filter p).length
  | [], _, _ => rfl
  | d :: ds, [], h => by simp at h
  | d :: ds, q :: qs, h => by
    have ih := zip_filter p ds qs (by simpa using h)
    rw [List.zip_cons_cons, List.filter_cons, List.filter_cons]
    by_cases c : p d = true
    · rw [if_pos c, if_pos c, List.length_cons, List.length_cons, ih]
    · rw [if_neg c, if_neg c, ih]
section
variable {P : Program} {w : World} {K : PySem.W.Frag} {mg : Str → Option Value} {base : Heap}
/-! ### members -/
abbrev sMembers : Stmt := top 25
theorem scMembers : FnScope ["lots", "many", "lot"] ["lots", "many"] (defScope sMembers) := ⟨rfl, rfl, rfl, by decide +kernel, rfl, by decide +kernel, by decide +kernel⟩
def spMembers : Sp := fun vs H Q _ => ∃ lots many : Nat, vs = [.int lots, .int many] ∧ many ≤ 1000 ∧ ∀ H' p, Same H H' → H p = none → H' p = some (.lst ((members lots many).map fun j : Nat => V.int j)) → Q (.ref p) H'
theorem ok_members {f : Addr} {fd : FuncData} (T : Tx mg) (D : Def K mg "members" "members" sMembers ["lots", "many"] f fd) (Gh : Ok P w K mg base CX0 1 "has" ["lots", "lot"] spHas) :
    Ok P w K mg base CX0 2 "members" ["lots", "many"] spMembers := by
  obtain ⟨fh, fdh, gh, kh, bh, Fh⟩ := Gh
  refine D.ok (D.fn.ok scMembers (fun vs H Q E h => ?_) (fun cdv A outer s H vs Q E hr h => ⟨_, pss_one (ps_ret
      (pe_lc (own := [("lot", 2)]) (g := gName 2) rfl scMembers.nd (pi_range1 (by rfl) T.range (pa_cons (pv 1) pa_nil)) (blkOk_by (N := ["lots", "many", "lot"]) (sc := defScope sMembers) (by decide +kernel))
        (fun _ _ _ _ _ => pg_name (i := 2) scMembers.nd rfl (Or.inl rfl))
        (fun _ _ _ _ _ => pts_one (pt_val (pe_call Fh hr rfl gh kh bh .nil pass0 (pa_cons (pv 0) (pa_cons (pv 2) pa_nil)))))
        (fun _ _ _ _ _ => pv 2))), ?_⟩))
  · obtain ⟨_, _, rfl, _⟩ := h
    rfl
  · obtain ⟨lots, many, rfl, hm, q⟩ := h
    refine ⟨_, rfl, (many : Int), rfl, by omega, by omega, fun D hD => lc_it walk_upto (Made H D (outs (List.range many) (Vbndax.containsLot lots) (fun j : Nat => V.int j))) (Made.zero hD (outs_zero _ _ _)) (fun _ _ _ _ => trivial) ?_ ?_⟩
    · rintro i x H2 H3 hi m ⟨rfl, rfl⟩
      rw [Int.toNat_natCast] at hi
      have hz := range_at hi
      refine ⟨rfl, _, rfl, _, rfl, lots, i, rfl, _, rfl, ?_⟩
      refine ite2 (fun c => ?_) (fun c => ?_)
      · exact ⟨_, rfl, Made.put hD m (Same.refl _) (Nat.le_trans (outs_len _ _ _ _) (by rw [List.length_range]; omega)) (outs_yes hz c) fun _ z => z⟩
      · exact Made.skip m (Same.refl _) (outs_no hz (by simpa using c))
    · intro H2 m
      rw [Int.toNat_natCast] at m
      refine q _ D m.1 hD ?_
      have e := outs_all (List.range many) (Vbndax.containsLot lots) (fun j : Nat => V.int j)
      rw [List.length_range] at e
      rw [m.2, e]
      rfl
/-! ### is_within -/
abbrev sWithin : Stmt := top 26
theorem scWithin : FnScope ["demand", "lots", "lot"] ["demand", "lots"] (defScope sWithin) := ⟨rfl, rfl, rfl, by decide +kernel, rfl, by decide +kernel, by decide +kernel⟩
def spWithin : Sp := fun vs H Q _ => ∃ (a : Addr) (d : List (Option Nat)) (lots : Nat), vs = [.ref a, .int lots] ∧ LotsL H a d ∧ d.length ≤ 10000 ∧ ∀ H', Same H H' → Q (.bl (within d lots)) H'
theorem ok_within {f : Addr} {fd : FuncData} (T : Tx mg) (D : Def K mg "is_within" "is_within" sWithin ["demand", "lots"] f fd) (Gh : Ok P w K mg base CX0 1 "has" ["lots", "lot"] spHas) :
    Ok P w K mg base CX0 2 "is_within" ["demand", "lots"] spWithin := by
  obtain ⟨fh, fdh, gh, kh, bh, Fh⟩ := Gh
  obtain ⟨tn, hn⟩ := T.none
  refine D.ok (D.fn.ok scWithin (fun vs H Q E h => ?_) (fun cdv A outer s H vs Q E hr h => ⟨_, pss_one (ps_ret (pe_callB (cr_all rfl) (by rfl) T.all (by decide +kernel) (pa_cons
      (pe_lc (own := [("lot", 2)]) (g := gName 2) (tt := tYes) rfl scWithin.nd (pi_list (pv 0)) (blkOk_by (N := ["demand", "lots", "lot"]) (sc := defScope sWithin) (by decide +kernel))
        (fun _ _ _ _ _ => pg_name (i := 2) scWithin.nd rfl (Or.inl rfl)) (fun _ _ _ _ _ => pts_nil)
        (fun _ _ _ _ _ => pe_and (pe_cmpR op_ne (pv 2) (pe_glob rfl hn (relI _ _)) (nomark _)) (pe_one (pe_call Fh hr rfl gh kh bh .nil pass0 (pa_cons (pv 1) (pa_cons (pv 2) pa_nil)))))) pa_nil))), ?_⟩))
  · obtain ⟨_, _, _, rfl, _⟩ := h
    rfl
  · obtain ⟨a, d, lots, rfl, ha, hl, q⟩ := h
    refine ⟨_, rfl, a, rfl, ⟨_, SqL.of ha⟩, fun D hD => lc_it walk_list (Made H D (outs d (fun _ => true) (fun c => V.bl (inSet lots c)))) (Made.zero hD (outs_zero _ _ _)) (fun i H' _ m => SqL.of (m.1 _ _ ha)) ?_ ?_⟩
    · rintro i x H2 H3 hi m ⟨rfl, e⟩
      obtain ⟨c, hc, rfl⟩ := map_get e
      refine ⟨rfl, yes_if ⟨_, rfl, lot_scal c, _, rfl, ?_⟩⟩
      cases c with
      | none =>
        rw [lot_eq]
        exact iteF (Made.put hD m (Same.refl _) (Nat.le_trans (outs_len _ _ _ _) (by omega)) (outs_yes hc rfl) fun _ z => z)
      | some j =>
        rw [lot_ne]
        exact iteT ⟨_, rfl, _, rfl, lots, j, rfl, Made.put hD m (Same.refl _) (Nat.le_trans (outs_len _ _ _ _) (by omega)) (outs_yes hc rfl) fun _ z => z⟩
    · intro H2 m
      rw [List.length_map] at m
      have e2 : H2 D = some (.lst ((d.map (inSet lots)).map V.bl)) := by
        rw [m.2, outs_all, filter_yes, List.map_map]; rfl
      refine ⟨D, d.map (inSet lots), rfl, SqL.of e2, ?_⟩
      rw [List.all_map]
      exact q _ m.1
/-! ### is_overdemanded -/
abbrev sOver : Stmt := top 27
theorem scOver : FnScope ["demands", "lots", "many", "demand"] ["demands", "lots", "many"] (defScope sOver) := ⟨rfl, rfl, rfl, by decide +kernel, rfl, by decide +kernel, by decide +kernel⟩
abbrev LotRows (H : Hp) (a : Addr) (ds : List (List (Option Nat))) : Prop := RowsG (fun d : List (Option Nat) => d.map lotV) H a ds
def spOver : Sp := fun vs H Q _ => ∃ (a : Addr) (ds : List (List (Option Nat))) (lots many : Nat), vs = [.ref a, .int lots, .int many] ∧ LotRows H a ds ∧ ds.length ≤ 1000 ∧ (∀ d ∈ ds, d.length ≤ 10000) ∧ many ≤ 1000 ∧ ∀ H', Same H H' → Q (.bl (over ds many lots)) H'
theorem ok_over {f : Addr} {fd : FuncData} (T : Tx mg) (D : Def K mg "is_overdemanded" "is_overdemanded" sOver ["demands", "lots", "many"] f fd) (Gm : Ok P w K mg base CX0 2 "members" ["lots", "many"] spMembers)
    (Gw : Ok P w K mg base CX0 2 "is_within" ["demand", "lots"] spWithin) : Ok P w K mg base CX0 3 "is_overdemanded" ["demands", "lots", "many"] spOver := by
  obtain ⟨fm, fdm, gm, km, bm, Fm⟩ := Gm
  obtain ⟨fw, fdw, gw, kw, bw, Fw⟩ := Gw
  refine D.ok (D.fn.ok scOver (fun vs H Q E h => ?_) (fun cdv A outer s H vs Q E hr h => ⟨_, pss_one (ps_ret (pe_cmpR op_gt
      (pe_callB call_len_seq (by rfl) T.len PySem.boot_len (pa_cons
        (pe_lc (own := [("demand", 3)]) (g := gName 3) rfl scOver.nd (pi_list (pv 0)) (blkOk_by (N := ["demands", "lots", "many", "demand"]) (sc := defScope sOver) (by decide +kernel))
          (fun _ _ _ _ _ => pg_name (i := 3) scOver.nd rfl (Or.inl rfl))
          (fun _ _ _ _ _ => pts_one (pt_val (pe_call Fw hr rfl gw kw bw .nil pass0 (pa_cons (pv 3) (pa_cons (pv 1) pa_nil)))))
          (fun _ _ _ _ _ => pv 3)) pa_nil))
      (pe_callB call_len_seq (by rfl) T.len PySem.boot_len (pa_cons (pe_call Fm hr rfl gm km bm .nil pass0 (pa_cons (pv 1) (pa_cons (pv 2) pa_nil))) pa_nil)) (nomark _))), ?_⟩))
  · obtain ⟨_, _, _, _, rfl, _⟩ := h
    rfl
  · obtain ⟨a, ds, lots, many, rfl, ha, hl, hd, hm, q⟩ := h
    obtain ⟨qs, hqs, hql, hrow⟩ := ha.get
    have hzl : (ds.zip qs).length = ds.length := by rw [List.length_zip, hql, Nat.min_self]
    refine ⟨_, rfl, a, rfl, ⟨_, SqL.of hqs⟩, fun D hD => lc_it walk_list (Made H D (outs (ds.zip qs) (fun x => within x.1 lots) (fun x => V.ref x.2))) (Made.zero hD (outs_zero _ _ _)) (fun i H' _ m => SqL.of (m.1 _ _ hqs)) ?_ ?_⟩
    · rintro i x H2 H3 hi m ⟨rfl, e⟩
      rw [List.length_map, hql] at hi
      have hk : ds[i]? = some ds[i] := List.getElem?_eq_getElem hi
      generalize ds[i] = d at hk
      obtain ⟨p, e1, e2, hp⟩ := hrow i d hk
      obtain rfl : x = V.ref p := by rw [e2] at e; exact (Option.some.inj e).symm
      have hz : (ds.zip qs)[i]? = some (d, p) := by rw [List.getElem?_zip_eq_some]; exact ⟨hk, e1⟩
      refine ⟨rfl, _, rfl, _, rfl, p, d, lots, rfl, m.1 _ _ hp, hd d (List.mem_of_getElem? hk), fun H' s' => ⟨_, rfl, ?_⟩⟩
      refine ite2 (fun c => ?_) (fun c => ?_)
      · exact ⟨_, rfl, Made.put hD m s' (Nat.le_trans (outs_len _ _ _ _) (by omega)) (outs_yes hz c) fun _ z => z⟩
      · exact Made.skip m s' (outs_no hz (by simpa using c))
    · intro H2 m
      rw [List.length_map, hql, ← hzl] at m
      refine ⟨D, _, rfl, .inl (SqL.of m.2), _, rfl, _, rfl, lots, many, rfl, hm, fun H' p s' n' h' => ⟨p, _, rfl, .inl (SqL.of h'), _, _, rfl, rfl, ?_⟩⟩
      have e : (outs (ds.zip qs) (fun x => within x.1 lots) (fun x => V.ref x.2) (ds.zip qs).length).length = (ds.filter fun d => within d lots).length := by
        rw [outs_all, List.length_map]
        exact zip_filter (fun d => within d lots) ds qs hql
      have := q H' (m.1.trans s')
      unfold over at this
      rw [e, List.length_map]
      have e2 : decide ((((members lots many).length : Nat) : Int) < (((ds.filter fun d => within d lots).length : Nat) : Int)) = decide ((members lots many).length < (ds.filter fun d => within d lots).length) := by
        rw [Bool.eq_iff_iff, decide_eq_true_iff, decide_eq_true_iff]
        omega
      show Q (.bl (decide ((((members lots many).length : Nat) : Int) < (((ds.filter fun d => within d lots).length : Nat) : Int)))) H'
      rw [e2]
      exact this
end
end SL
end
/-! ## W11 -/
section
namespace SL
open PySem PySem.Spec PyProof.Rows L2
section
variable {α : Type} {g : α → HO} {K : PySem.W.Frag} {H H1 H' : Hp} {a D p : Addr}
/-- a comprehension's list of new objects so far -/
def MadeT (g : α → HO) (H1 : Hp) (D : Addr) (out : List α) (H : Hp) : Prop := Same H1 H ∧ ∃ qs : List Addr, H D = some (.lst (qs.map V.ref)) ∧ qs.length = out.length ∧ (∀ q ∈ qs, q ≠ D) ∧ ∀ (k : Nat) (q : Addr) (x : α), qs[k]? = some q → out[k]? = some x → H q = some (g x)
theorem MadeT.zero (hD : H1 D = none) : MadeT g H1 D [] (upd H1 D (.lst [])) := ⟨L2.Same.up hD, [], upd_same, rfl, fun q h => (by cases h), fun k q x e => (by simp at e)⟩
theorem MadeT.keep {out : List α} (m : MadeT g H1 D out H) (s : Same H H') : MadeT g H1 D out H' := by
  obtain ⟨s1, qs, h1, h2, h3, h4⟩ := m
  exact ⟨s1.trans s, qs, s _ _ h1, h2, h3, fun k q x e1 e2 => s _ _ (h4 k q x e1 e2)⟩
theorem MadeT.put {out : List α} {x : α} {P : Hp → Prop} (hD : H1 D = none) (m : MadeT g H1 D out H) (s : Same H H') (l : out.length ≤ 10000000) (hp : H' p = some (g x)) (n : p ≠ D) (k : ∀ H, MadeT g H1 D (out ++ [x]) H → P H) :
    ∃ acc, H' D = some (.lst acc) ∧ acc.length < sizeLine ∧ P (upd H' D (.lst (acc ++ [.ref p]))) := by
  obtain ⟨s1, qs, h1, h2, h3, h4⟩ := m
  refine ⟨qs.map V.ref, s _ _ h1, szl _ (by rw [List.length_map]; omega), k _ ⟨L2.Same.new hD (s1.trans s), qs ++ [p], ?_, by simp [h2], fun q hq => ?_, fun j q y e1 e2 => ?_⟩⟩
  · rw [upd_same, List.map_append]; rfl
  · rcases List.mem_append.mp hq with hq | hq
    · exact h3 q hq
    · rw [List.mem_singleton.mp hq]; exact n
  · by_cases hj : j < qs.length
    · rw [List.getElem?_append_left hj] at e1
      rw [List.getElem?_append_left (by omega)] at e2
      rw [upd_ne (h3 q (List.mem_of_getElem? e1))]
      exact s _ _ (h4 j q y e1 e2)
    · have hj2 : j = qs.length := by
        have := (List.getElem?_eq_some_iff.mp e1).1
        rw [List.length_append] at this
        have t1 : [p].length = 1 := rfl
        omega
      subst hj2
      rw [List.getElem?_append_right (by omega), Nat.sub_self] at e1
      rw [List.getElem?_append_right (by omega), h2, Nat.sub_self] at e2
      obtain rfl : p = q := Option.some.inj e1
      obtain rfl : x = y := Option.some.inj e2
      rw [upd_ne n]
      exact hp
end
theorem get_some {α : Type} {l : List α} {i : Nat} (h : i < l.length) (d : α) : l[i]? = some (l.getD i d) := by
  rw [List.getD_eq_getElem?_getD, List.getElem?_eq_getElem h]
  rfl
/-! ### pairs of ints as data -/
def pairD (f : Nat → Nat) (s : Nat) : PyData := .tuple [.int (f s), .int s]
theorem lay_pairs (f : Nat → Nat) : ∀ l : List Nat, PyData.canLayAll0 (l.map (pairD f)) = true
  | [] => by unfold PyData.canLayAll0; rfl
  | s :: l => by
    rw [List.map_cons, PyData.canLayAll0, lay_pairs f l, Bool.and_true]
    unfold pairD
    simp [PyData.canLay0, PyData.canLayAll0]
theorem deep_pairs (f : Nat → Nat) : ∀ l : List Nat, PyData.depthAll (l.map (pairD f)) ≤ 1
  | [] => by simp [PyData.depthAll]
  | s :: l => by
    rw [List.map_cons, PyData.depthAll]
    have := deep_pairs f l
    have e : PyData.depth (pairD f s) = 1 := by unfold pairD; simp [PyData.depth, PyData.depthAll]
    omega
theorem shaped_pairs (f : Nat → Nat) (l : List Nat) : SeqAt.shaped (.list (l.map (pairD f))) = true := by
  unfold SeqAt.shaped
  rw [PyData.canLay0, lay_pairs, Bool.true_and, decide_eq_true_iff, PyData.depth]
  have := deep_pairs f l
  omega
theorem eqv_pairs (f : Nat → Nat) (l : List Nat) : PyData.eqv (.list (l.map (pairD f))) (.list []) = l.isEmpty := by
  cases l <;> simp [PyData.eqv, PyData.eqvAll]
theorem dp_pairs {K : PySem.W.Frag} {H : Hp} (f : Nat → Nat) : ∀ (qs : List Addr) (l : List Nat), qs.length = l.length → (∀ (k : Nat) (q : Addr) (s : Nat), qs[k]? = some q → l[k]? = some s → H q = some (.tup [.int (f s), .int s])) → DpAll K H (qs.map V.ref) (l.map (pairD f))
  | [], [], _, _ => .nil
  | [], s :: l, h, _ => by simp at h
  | q :: qs, [], h, _ => by simp at h
  | q :: qs, s :: l, h, e => by
    refine .cons (.tup (SqT.of (e 0 q s rfl rfl)) (.cons (.int _) (.cons (.int _) .nil))) (dp_pairs f qs l (by simpa using h) fun k q' s' e1 e2 => e (k + 1) q' s' (by simpa using e1) (by simpa using e2))
theorem lex_pair (a b c d : Nat) (hb : b < 100) (hd : d < 100) : HT.lexLt [(a : Int), (b : Int)] [(c : Int), (d : Int)] = decide ((a * 100 + b : Int) < (c * 100 + d : Int)) := by
  rw [HT.lexLt_cons, HT.lexLt_cons, HT.lexLt_nil_nil]
  rw [Bool.eq_iff_iff]
  by_cases e : (a : Int) = c
  · rw [if_pos e]
    by_cases e2 : (b : Int) = d
    · rw [if_pos e2]
      simp
      omega
    · rw [if_neg e2]
      simp
      omega
  · rw [if_neg e]
    simp
    omega
theorem firstOver_none {b : List (List Int)} {p : List Int} (h : Vbndax.firstOverdemanded b p p.length = none) : firstOver b p = 0 := by unfold firstOver; rw [h]; rfl
abbrev lenR (K : PySem.W.Frag) : List V → Hp → VK → Prop := fun xs H Q => ∃ p ys, xs = [.ref p] ∧ (SqL K H p ys ∨ SqT K H p ys) ∧ Q (.int ys.length) H
section
variable {P : Program} {w : World} {K : PySem.W.Frag} {mg : Str → Option Value} {base : Heap}
/-! ### first_overdemanded -/
abbrev sFirst : Stmt := top 28
theorem scFirst : FnScope ["bids", "prices", "many", "demands", "found", "row", "lots"] ["bids", "prices"] (defScope sFirst) := ⟨rfl, rfl, rfl, by decide +kernel, rfl, by decide +kernel, by decide +kernel⟩
def spFirst : Sp := fun vs H Q _ => ∃ (a e : Addr) (b : List (List Int)) (p : List Int), vs = [.ref a, .ref e] ∧ RowsL H a b ∧ IntsL H e p ∧ p.length ≤ 4 ∧ (∀ row ∈ b, row.length = p.length) ∧ b.length ≤ 1000 ∧ ∀ H', Same H H' → Q (.int (firstOver b p)) H'
theorem ok_first {f : Addr} {fd : FuncData} (T : Tx mg) (D : Def K mg "first_overdemanded" "first_overdemanded" sFirst ["bids", "prices"] f fd) (Gd : Ok P w K mg base CX0 2 "demand_set" ["row", "prices"] (spDemand K))
    (Gm : Ok P w K mg base CX0 2 "members" ["lots", "many"] spMembers) (Go : Ok P w K mg base CX0 3 "is_overdemanded" ["demands", "lots", "many"] spOver) : Ok P w K mg base CX0 4 "first_overdemanded" ["bids", "prices"] spFirst := by
  obtain ⟨f1, fd1, g1, k1, b1, F1⟩ := Gd
  obtain ⟨fm, fdm, gm, km, bm, Fm⟩ := Gm
  obtain ⟨fo, fdo, go, ko, bo, Fo⟩ := Go
  refine D.ok (D.fn.ok scFirst (fun vs H Q E h => ?_) (fun cdv A outer s H vs Q E hr h => ⟨_,
      pss_cons (ps_asg (pe_tup (pa_cons (pe_callB call_len_seq (by rfl) T.len PySem.boot_len (pa_cons (pv 1) pa_nil)) (pa_cons
          (pe_lc (own := [("row", 5)]) (g := gName 5) (tt := tYes) rfl scFirst.nd (pi_list (pv 0)) (blkOk_by (N := ["bids", "prices", "many", "demands", "found", "row", "lots"]) (sc := defScope sFirst) (by decide +kernel))
            (fun _ _ _ _ _ => pg_name (i := 5) scFirst.nd rfl (Or.inl rfl)) (fun _ _ _ _ _ => pts_nil)
            (fun _ _ _ _ _ => pe_call F1 (hr.mono (by decide)) rfl g1 k1 b1 .nil pass0 (pa_cons (pv 5) (pa_cons (pv 1) pa_nil)))) pa_nil)))
        (pg_tup rfl (pgs_cons (pg_name (i := 2) scFirst.nd rfl (Or.inr rfl)) (pgs_cons (pg_name (i := 3) scFirst.nd rfl (Or.inr rfl)) pgs_nil))))
      (pss_cons (ps_setLc (i := 4) (own := [("lots", 6)]) (g := gName 6) (te := tTup (tCons (tCB (lenR K) (tCons (tCall spMembers [] E0 (tCons (tVar 6) (tCons (tVar 2) tNil))) tNil)) (tCons (tVar 6) tNil))) rfl scFirst.nd rfl rfl (sw_true rfl rfl rfl (by decide +kernel))
          (pi_range2 (by rfl) T.range (pa_cons pe_int (pa_cons (pe_op op_shl pe_int (pv 2)) pa_nil))) (blkOk_by (N := ["bids", "prices", "many", "demands", "found", "row", "lots"]) (sc := defScope sFirst) (by decide +kernel))
          (fun _ _ _ _ _ => pg_name (i := 6) scFirst.nd rfl (Or.inl rfl))
          (fun _ _ _ _ _ => pts_one (pt_val (pe_call Fo hr rfl go ko bo .nil pass0 (pa_cons (pv 3) (pa_cons (pv 6) (pa_cons (pv 2) pa_nil))))))
          (fun _ _ _ _ _ => pe_tup (pa_cons (pe_callB call_len_seq (by rfl) T.len PySem.boot_len (pa_cons (pe_call Fm (hr.mono (by decide)) rfl gm km bm .nil pass0 (pa_cons (pv 6) (pa_cons (pv 2) pa_nil))) pa_nil)) (pa_cons (pv 6) pa_nil))))
      (pss_one (ps_ret (pe_ifExp (pt_cmpR (op_neD hr.units) (pv 4) (pe_lst pa_nil) (nomark _)) (pe_ix ix_tup (pe_callB (cr_minT rfl (hu_of hr)) (by rfl) T.min (by decide +kernel) (pa_cons (pv 4) pa_nil)) pe_int (fun _ _ => rfl)) pe_int)))), ?_⟩))
  · obtain ⟨_, _, _, _, rfl, _⟩ := h
    rfl
  · obtain ⟨a, e, b, p, rfl, ha, hp, few, each, most, q⟩ := h
    obtain ⟨qs, hqs, hql, hrow⟩ := ha.get
    have h16 := pow_le16 few
    generalize hds : (b.map fun row => demand row p) = ds
    have hdl : ds.length = b.length := by rw [← hds, List.length_map]
    refine ⟨_, rfl, e, _, rfl, .inl (SqL.of hp), _, rfl, a, rfl, ⟨_, SqL.of hqs⟩, fun D hD => lc_it walk_list (MadeR (fun d : List (Option Nat) => d.map lotV) H D ds) (MadeR.zero hD) (fun i H' _ m => SqL.of (m.1 _ _ hqs)) ?_ ?_⟩
    · rintro i x H2 H3 hi m ⟨rfl, ex⟩
      rw [List.length_map, hql] at hi
      have hk : b[i]? = some b[i] := List.getElem?_eq_getElem hi
      generalize b[i] = row at hk
      have hrl := each row (List.mem_of_getElem? hk)
      obtain ⟨z, _, e3, hz⟩ := hrow i row hk
      obtain rfl : x = V.ref z := by rw [e3] at ex; exact (Option.some.inj ex).symm
      refine ⟨rfl, yes_if ⟨_, rfl, _, rfl, z, e, row, p, rfl, SqL.of (m.1 _ _ hz), SqL.of (m.1 _ _ hp), hrl, by omega, fun H4 z4 s4 n4 h4 => ?_⟩⟩
      obtain ⟨xs, hxs⟩ := m.has
      exact MadeR.put hD m s4 (by omega) (by rw [← hds, List.getElem?_map, hk]; rfl) h4 (Ne.symm (ne_of_none hxs n4)) fun _ z => z
    · intro H2 m
      rw [List.length_map, hql, ← hdl] at m
      refine ⟨sz 2 (by decide), fun T0 hT0 => ?_⟩
      have s3 : Same H (upd H2 T0 (.tup [.int ((p.map V.int).length : Nat), .ref D])) := m.1.trans (L2.Same.up hT0)
      have hdem : LotRows (upd H2 T0 (.tup [.int ((p.map V.int).length : Nat), .ref D])) D ds := m.done.keep (L2.Same.up hT0)
      refine ⟨T0, _, rfl, SqT.of upd_same, rfl, _, _, rfl, _, _, rfl, rfl, ?_⟩
      generalize upd H2 T0 (.tup [.int ((p.map V.int).length : Nat), .ref D]) = H3 at s3 hdem
      have hN : ((p.map V.int).length : Int) = (p.length : Int) := by rw [List.length_map]
      rw [hN]
      have hpow : (1 : Int) * 2 ^ ((p.length : Int)).toNat = ((2 ^ p.length : Nat) : Int) := shl_one _
      have hp0 := Nat.two_pow_pos p.length
      generalize hsf : (fun s : Nat => (members s p.length).length) = sf
      refine ⟨_, rfl, _, _, rfl, rfl, ⟨Int.natCast_nonneg _, by omega, by decide⟩, 1, ((2 ^ p.length : Nat) : Int), by rw [← hpow], ⟨by omega, by omega, by omega, by omega⟩, fun D2 hD2 =>
        lc_it walk_range (fun i H' => MadeT (fun s : Nat => HO.tup [.int (sf s), .int s]) H3 D2 (outs (List.range' 1 (2 ^ p.length - 1)) (over ds p.length) id i) H') (by rw [outs_zero]; exact MadeT.zero hD2) (fun _ _ _ _ => trivial) ?_ ?_⟩
      · rintro i x H4 H5 hi m4 ⟨rfl, hx⟩
        have hi2 : i < 2 ^ p.length - 1 := by omega
        have hli : (List.range' 1 (2 ^ p.length - 1))[i]? = some (1 + i) := by rw [List.getElem?_range' hi2]; simp
        obtain rfl : x = V.int ((1 + i : Nat) : Int) := by rw [hx]; show V.int (1 + (i : Int)) = _; congr 1
        refine ⟨rfl, _, rfl, _, rfl, _, rfl, D, ds, 1 + i, p.length, rfl, hdem.keep m4.1, by omega, fun d hd => ?_, by omega, fun H6 s6 => ⟨_, rfl, ?_⟩⟩
        · rw [← hds] at hd
          obtain ⟨row, _, rfl⟩ := List.mem_map.mp hd
          refine Nat.le_trans (List.length_filter_le _ _) ?_
          rw [every_len]; omega
        · have mo : (outs (List.range' 1 (2 ^ p.length - 1)) (over ds p.length) id i).length ≤ 10000000 := Nat.le_trans (outs_len _ _ _ _) (by rw [List.length_range']; omega)
          refine ite2 (fun c => ?_) (fun c => ?_)
          · refine ⟨_, rfl, _, rfl, 1 + i, p.length, rfl, by omega, fun H7 p7 s7 n7 h7 => ⟨p7, _, rfl, .inl (SqL.of h7), _, rfl, sz 2 (by decide), fun p8 n8 => ?_⟩⟩
            obtain ⟨_, qs4, hq4, _⟩ := m4
            refine MadeT.put hD2 ⟨by assumption, qs4, hq4, by assumption⟩ ((s6.trans s7).trans (L2.Same.up n8)) mo (x := 1 + i) ?_ (Ne.symm (ne_of_none (s7 _ _ (s6 _ _ hq4)) n8)) fun H' z => ?_
            · rw [upd_same, ← hsf, List.length_map]
            · rw [outs_yes hli c]; exact z
          · rw [outs_no hli (by simpa using c)]
            exact m4.keep s6
      · intro H4 m4
        have hn : (((2 ^ p.length : Nat) : Int) - 1).toNat = (List.range' 1 (2 ^ p.length - 1)).length := by rw [List.length_range']; omega
        rw [hn, outs_all, List.map_id] at m4
        have hov : (List.range' 1 (2 ^ p.length - 1)).filter (over ds p.length) = overs (b.map fun row => demand row p) p.length := by rw [hds]; rfl
        rw [hov] at m4
        obtain ⟨s4, qs4, hq4, hl4, _, h4⟩ := m4
        generalize hout : overs (b.map fun row => demand row p) p.length = out at hl4 h4
        refine ⟨_, rfl, sz 0 (by decide), fun p5 n5 => ?_⟩
        have s5 := L2.Same.up (H := H4) (o := .lst []) n5
        refine ⟨.list (out.map (pairD sf)), .list [], .lst (SqL.of (s5 _ _ hq4)) (dp_pairs sf qs4 out hl4 fun k q s e1 e2 => s5 _ _ (h4 k q s e1 e2)), .lst (SqL.of upd_same) .nil, shaped_pairs sf out, shaped_pairs sf [], _, rfl, ?_⟩
        rw [eqv_pairs]
        have sA := (s3.trans s4).trans s5
        cases out with
        | nil =>
          refine iteF ?_
          have := q _ sA
          rw [firstOver_none (first_none few hout)] at this
          exact this
        | cons s0 more =>
          have hall : ∀ j, j < (s0 :: more).length → (s0 :: more).getD j 0 < 100 := by
            intro j hj
            have hm : (s0 :: more).getD j 0 ∈ overs (b.map fun row => demand row p) p.length := by
              rw [hout]
              exact List.mem_of_getElem? (get_some hj 0)
            have := (List.mem_filter.mp hm).1
            rw [List.mem_range'_1] at this
            omega
          refine iteT ⟨_, rfl, D2, qs4, fun i => [(sf ((s0 :: more).getD i 0) : Int), (((s0 :: more).getD i 0 : Nat) : Int)], fun i => (sf ((s0 :: more).getD i 0) : Int) * 100 + (((s0 :: more).getD i 0 : Nat) : Int), rfl, SqL.of (s5 _ _ hq4), by rw [hl4]; exact Nat.succ_pos _, fun i z hz => ?_, fun i j hi hj => ?_, fun m z hz hle => ?_⟩
          · have hi : i < (s0 :: more).length := by rw [← hl4]; exact (List.getElem?_eq_some_iff.mp hz).1
            exact SqT.of (s5 _ _ (h4 i z _ hz (get_some hi 0)))
          · exact lex_pair _ _ _ _ (hall i (by omega)) (hall j (by omega))
          · have hm : m < (s0 :: more).length := by rw [← hl4]; exact (List.getElem?_eq_some_iff.mp hz).1
            have hgm : (s0 :: more)[m]? = some ((s0 :: more).getD m 0) := get_some hm 0
            refine ⟨z, _, 1, _, rfl, rfl, SqT.of (s5 _ _ (h4 m z _ hz hgm)), at_of (j := 1) rfl rfl, ?_⟩
            have hmem : (s0 :: more).getD m 0 ∈ overs (b.map fun row => demand row p) p.length := by rw [hout]; exact List.mem_of_getElem? hgm
            have hfirst := first_is few hmem (fun y hy hlt => by
              rw [hout] at hy
              obtain ⟨j, hj⟩ := List.getElem?_of_mem hy
              have hjl := (List.getElem?_eq_some_iff.mp hj).1
              have hle : (sf ((s0 :: more).getD m 0) : Int) * 100 + (((s0 :: more).getD m 0 : Nat) : Int) ≤ (sf ((s0 :: more).getD j 0) : Int) * 100 + (((s0 :: more).getD j 0 : Nat) : Int) := hle j (by omega)
              have hyj : (s0 :: more).getD j 0 = y := by simp [List.getD, hj]
              rw [hyj] at hle
              have b1 := hall m hm
              have b2 := hall j hjl
              rw [hyj] at b2
              unfold ltSet at hlt
              rw [← lotCount_is, ← lotCount_is] at hlt
              have e1 : sf y = (members y p.length).length := by rw [← hsf]
              have e2 : sf ((s0 :: more).getD m 0) = (members ((s0 :: more).getD m 0) p.length).length := by rw [← hsf]
              rw [← e1, ← e2] at hlt
              omega)
            rw [← (firstOver_some hfirst).1]
            exact q _ sA
end
end SL
end
/-! ## W12 -/
section
namespace SL
open PySem PySem.Spec PyProof.Rows L2
section
variable {P : Program} {w : World} {K : PySem.W.Frag} {mg : Str → Option Value} {base : Heap}
/-! ### raised -/
abbrev sRaised : Stmt := top 29
theorem scRaised : FnScope ["prices", "lots", "lot", "price"] ["prices", "lots"] (defScope sRaised) := ⟨rfl, rfl, rfl, by decide +kernel, rfl, by decide +kernel, by decide +kernel⟩
def spRaised : Sp := fun vs H Q _ => ∃ (a : Addr) (p : List Int) (lots : Nat), vs = [.ref a, .int lots] ∧ IntsL H a p ∧ p.length ≤ 1000 ∧ ∀ H' z, Same H H' → H z = none → IntsL H' z (Vbndax.raisePrices p lots) → Q (.ref z) H'
theorem ok_raised {f : Addr} {fd : FuncData} (T : Tx mg) (D : Def K mg "raised" "raised" sRaised ["prices", "lots"] f fd) (Gh : Ok P w K mg base CX0 1 "has" ["lots", "lot"] spHas) :
    Ok P w K mg base CX0 2 "raised" ["prices", "lots"] spRaised := by
  obtain ⟨fh, fdh, gh, kh, bh, Fh⟩ := Gh
  refine D.ok (D.fn.ok scRaised (fun vs H Q E h => ?_) (fun cdv A outer s H vs Q E hr h => ⟨_, pss_one (ps_ret
      (pe_lc (own := [("lot", 2), ("price", 3)]) (g := gTup K 2 (gCons (gName 2) (gCons (gName 3) gNil))) (tt := tYes) rfl scRaised.nd (pi_enum (by rfl) T.enumerate (pa_cons (pv 0) pa_nil)) (blkOk_by (N := ["prices", "lots", "lot", "price"]) (sc := defScope sRaised) (by decide +kernel))
        (fun _ _ _ _ _ => pg_tup rfl (pgs_cons (pg_name (i := 2) scRaised.nd rfl (Or.inl rfl)) (pgs_cons (pg_name (i := 3) scRaised.nd rfl (Or.inl rfl)) pgs_nil)))
        (fun _ _ _ _ _ => pts_nil)
        (fun _ _ _ _ _ => pe_op op_add (pv 3) (pe_callTy call_int1 (by rfl) T.int (by decide +kernel) (pa_cons (pe_call Fh hr rfl gh kh bh .nil pass0 (pa_cons (pv 1) (pa_cons (pv 2) pa_nil))) pa_nil))))), ?_⟩))
  · obtain ⟨_, _, _, rfl, _⟩ := h
    rfl
  · obtain ⟨a, p, lots, rfl, ha, hl, q⟩ := h
    refine ⟨_, rfl, a, _, rfl, SqL.of ha, fun D hD => lc_it walk_enum (Made H D (outs p.zipIdx (fun _ => true) (fun x => V.int (if Vbndax.containsLot lots x.2 = true then x.1 + 1 else x.1)))) (Made.zero hD (outs_zero _ _ _)) (fun i H' _ m => SqL.of (m.1 _ _ ha)) ?_ ?_⟩
    · rintro i x H2 H3 hi m ⟨T1, x1, y1, rfl, hT, rfl, e1, e2⟩
      obtain rfl : x1 = V.int (i : Nat) := (Option.some.inj e1).symm
      rw [List.length_map] at hi
      have hri : p[i]? = some p[i] := by simp [hi]
      have hz : p.zipIdx[i]? = some (p[i], i) := by simp [hi]
      obtain rfl : y1 = V.int p[i] := by
        have e2 : (p.map V.int)[i]? = some y1 := e2
        rw [List.getElem?_map, hri] at e2
        exact (Option.some.inj e2).symm
      refine ⟨T1, _, rfl, SqT.of upd_same, rfl, _, _, rfl, _, _, rfl, rfl, rfl, yes_if ⟨_, rfl, _, rfl, _, rfl, lots, i, rfl, .inr ⟨_, rfl, _, _, rfl, rfl, ?_⟩⟩⟩
      refine Made.put hD m (L2.Same.up hT) (Nat.le_trans (outs_len _ _ _ _) (by rw [List.length_zipIdx]; omega)) ?_ fun _ z => z
      rw [outs_yes hz rfl]
      show _ = _ ++ [V.int (p[i] + (if Vbndax.containsLot lots i = true then 1 else 0))]
      by_cases c : Vbndax.containsLot lots i = true
      · rw [if_pos c, if_pos c]
      · rw [if_neg c, if_neg c, Int.add_zero]
    · intro H2 m
      refine q _ D m.1 hD ?_
      show _ = _
      rw [m.2]
      have : (p.map V.int).length = p.zipIdx.length := by simp
      rw [this, outs_all, filter_yes]
      unfold Vbndax.raisePrices
      rw [List.map_map]
      rfl
/-! ### run_clock -/
abbrev sClock : Stmt := top 30
theorem scClock : FnScope ["bids", "reserves", "sets", "prices", "lots"] ["bids", "reserves"] (defScope sClock) := ⟨rfl, rfl, rfl, by decide +kernel, rfl, by decide +kernel, by decide +kernel⟩
def spClock : Sp := fun vs H Q _ => ∃ (a c : Addr) (b : List (List Int)) (rn : List Nat), vs = [.ref a, .ref c] ∧ BidsL H a c b (Vbndax.toInts rn) ∧ (∀ row ∈ b, ∀ x ∈ row, x ≤ 60) ∧
  ∀ H' t S pa, Same H H' → H' t = some (.tup [.ref S, .ref pa]) → IntsL H' S (Vbndax.toInts (Vbndax.runClock rn b).1) → IntsL H' pa (Vbndax.runClock rn b).2 → (Vbndax.runClock rn b).1.length ≤ 300 → (Vbndax.runClock rn b).2.length ≤ 4 → Q (.ref t) H'
theorem ok_clock {f : Addr} {fd : FuncData} (T : Tx mg) (D : Def K mg "run_clock" "run_clock" sClock ["bids", "reserves"] f fd) (Gf : Ok P w K mg base CX0 4 "first_overdemanded" ["bids", "prices"] spFirst)
    (Gr : Ok P w K mg base CX0 2 "raised" ["prices", "lots"] spRaised) : Ok P w K mg base CX0 5 "run_clock" ["bids", "reserves"] spClock := by
  obtain ⟨f1, fd1, g1, k1, b1, F1⟩ := Gf
  obtain ⟨f2, fd2, g2, k2, b2, F2⟩ := Gr
  refine D.ok (D.fn.ok scClock (fun vs H Q E h => ?_) (fun cdv A outer s H vs Q E hr h => ⟨_,
      pss_cons (ps_par (i := 2) (j := 3) rfl scClock.nd rfl rfl (by decide) rfl rfl (pa_cons (pe_lst pa_nil) (pa_cons (pv 1) pa_nil)) (by rfl))
      (pss_cons (ps_set (i := 4) scClock.nd rfl (Or.inl rfl) (pe_call F1 hr rfl g1 k1 b1 .nil pass0 (pa_cons (pv 0) (pa_cons (pv 3) pa_nil))))
      (pss_cons (ps_while PassesOwn.never (pt_cmpR op_gt (pv 4) pe_int (nomark _))
        (pss_cons (ps_expr (pe_bm PySem.F.plainAttrs_list PySem.F.slot_list_append PySem.F.type_list_append mt_append (pv 2) (pa_cons (pv 4) pa_nil)))
        (pss_cons (ps_set (i := 3) scClock.nd rfl (Or.inl rfl) (pe_call F2 (hr.mono (by decide)) rfl g2 k2 b2 .nil pass0 (pa_cons (pv 3) (pa_cons (pv 4) pa_nil))))
        (pss_one (ps_set (i := 4) scClock.nd rfl (Or.inl rfl) (pe_call F1 hr rfl g1 k1 b1 .nil pass0 (pa_cons (pv 0) (pa_cons (pv 3) pa_nil))))))))
      (pss_one (ps_ret (pe_tup (pa_cons (pv 2) (pa_cons (pv 3) pa_nil))))))), ?_⟩))
  · obtain ⟨_, _, _, _, rfl, _⟩ := h
    rfl
  · obtain ⟨a, c, b, rn, rfl, B, hb, q⟩ := h
    have few := B.few
    have hrn : rn.length ≤ 4 := by rw [toInts_len] at few; exact few
    have each := B.each
    rw [toInts_len] at each
    refine ⟨sz 0 (by decide), fun S hS => ⟨_, rfl, _, _, rfl, ?_⟩⟩
    have s0 := L2.Same.up (H := H) (o := .lst []) hS
    have B0 := B.keep s0
    refine ⟨_, rfl, _, rfl, a, c, b, Vbndax.toInts rn, rfl, B0.rows, B0.res, few, B0.each, B0.most, fun H1 s1 => ?_⟩
    generalize hf0 : rn.length * (Vbndax.maxBid + 1) + 1 = f0
    have hf0le : f0 ≤ 245 := by rw [← hf0]; show rn.length * 61 + 1 ≤ 245; omega
    refine ⟨fun m σ H' => ∃ (pa : Addr) (sets : List Nat) (p : List Int), σ = [some (.ref a), some (.ref c), some (.ref S), some (.ref pa), some (.int (firstOver b p))] ∧ Same H H' ∧ IntsL H' S (Vbndax.toInts sets) ∧ IntsL H' pa p ∧ pa ≠ S ∧ ClockAt b rn.length f0 (Vbndax.toInts rn) sets p m,
      ⟨f0, c, [], Vbndax.toInts rn, rfl, s0.trans s1, s1 _ _ upd_same, s1 _ _ B0.res, ne_of_none B.res hS, by rw [← hf0]; exact clock_start rn b⟩, ?_⟩
    rintro m σ H2 ⟨pa, sets, p, rfl, s2, hs, hp, hne, hc⟩
    have hpl := hc.plen
    have hsl := hc.len
    refine ⟨_, rfl, _, _, rfl, rfl, _, rfl, ?_⟩
    refine ite2 (fun cc => ?_) (fun cc => ?_)
    · have cc := of_decide_eq_true cc
      cases ho : Vbndax.firstOverdemanded b p p.length with
      | none => rw [firstOver_none ho] at cc; omega
      | some s =>
        have hfs := firstOver_some ho
        obtain ⟨m', hm', hc'⟩ := clock_turn hrn hb hc ho
        rw [hfs.1]
        refine ⟨fun σ' H' => ∃ (pa : Addr) (sets : List Nat) (p : List Int), σ' = [some (.ref a), some (.ref c), some (.ref S), some (.ref pa), some (.int (firstOver b p))] ∧ Same H H' ∧ IntsL H' S (Vbndax.toInts sets) ∧ IntsL H' pa p ∧ pa ≠ S ∧ ClockAt b rn.length f0 (Vbndax.toInts rn) sets p m',
          fun σ' H' z => ⟨m', by omega, z⟩, ?_⟩
        refine ⟨_, rfl, .inl ⟨rfl, _, SqL.of hs⟩, _, rfl, S, _, _, rfl, rfl, hs, szl _ ?_, ?_⟩
        · rw [List.length_map, toInts_len]; omega
        · have s3 : Same H (upd H2 S (.lst ((Vbndax.toInts sets).map V.int ++ [.int s]))) := L2.Same.new hS s2
          have hp3 : IntsL (upd H2 S (.lst ((Vbndax.toInts sets).map V.int ++ [.int s]))) pa p := (upd_ne hne).trans hp
          have hs3 : IntsL (upd H2 S (.lst ((Vbndax.toInts sets).map V.int ++ [.int s]))) S (Vbndax.toInts (sets ++ [s])) := by
            show _ = _
            rw [upd_same]
            unfold Vbndax.toInts
            rw [List.map_append, List.map_append]
            rfl
          refine ⟨_, rfl, _, rfl, pa, p, s, rfl, hp3, by omega, fun H4 z4 s4 n4 h4 => ?_⟩
          have s5 := s3.trans s4
          have B5 := B.keep s5
          have hpl' := hc'.plen
          refine ⟨_, rfl, _, rfl, a, z4, b, Vbndax.raisePrices p s, rfl, B5.rows, h4, by omega, fun row hr => by rw [each row hr]; omega, B5.most, fun H6 s6 => ?_⟩
          exact ⟨z4, sets ++ [s], Vbndax.raisePrices p s, rfl, s5.trans s6, s6 _ _ (s4 _ _ hs3), s6 _ _ h4, Ne.symm (ne_of_none hs3 n4), hc'⟩
    · have cc : ¬ ((0 : Int) < (firstOver b p : Int)) := by simpa using cc
      cases ho : Vbndax.firstOverdemanded b p p.length with
      | some s =>
        have hfs := firstOver_some ho
        rw [hfs.1] at cc
        omega
      | none =>
        have he := clock_end hc ho
        have hrc : Vbndax.runClock rn b = (sets, p) := by
          unfold Vbndax.runClock
          rw [hf0]
          exact he
        refine ⟨_, rfl, _, rfl, sz 2 (by decide), fun t ht => ?_⟩
        have sT := L2.Same.up (H := H2) (o := .tup [.ref S, .ref pa]) ht
        refine q _ t S pa (s2.trans sT) upd_same ?_ ?_ ?_ ?_
        · rw [hrc]; exact sT _ _ hs
        · rw [hrc]; exact sT _ _ hp
        · rw [hrc]; show sets.length ≤ 300; omega
        · rw [hrc]; show p.length ≤ 4; omega
end
end SL
end
/-! ## Wx -/
section
/-! ## an own error over Exception whose __init__ says Exception.__init__(self, ..) and stores one field: as HandS.ExcInit does it over ValueError -/
namespace L2
open PySem PySem.Spec PyProof.Rows
theorem typ_Exc : typeOf (.type "Exception") = pure (.type "type") := by kernel_rfl
/-- what the written part says of such a class -/
structure RefC (K : PySem.W.Frag) (C : Addr) : Prop where
  cls : ∃ nm q N bs sn sub ab col dd k0 k1 k2 k3 k5, K.lookup C = some (excClassObj nm q C N bs PySem.ESX.exTail true sn sub ab col dd k0 k1 k2 k3 k5 "Exception.__new__")
  setA : PySem.W.findIn K (Value.ref C) "__setattr__" = some (some (.builtin "object.__setattr__"))
  isE : PySem.W.subIn K (Value.ref C) (.type "BaseException") = some true
  isT : PySem.W.typeIn K (Value.ref C) = some (.type "type")
  kept : PySem.W.keepIn K (Value.ref C) = true
section
variable {X : Cx} {pins : List (Addr × Obj)} {σ : St} {H : Hp} {s : Shared} {a C dx : Addr} {f : Str} {y : V} {u : Value} {E : Value → Shared → Prop} {A : Around}
theorem ref_store {Q : Unit → Shared → Prop} (Tc : RefC X.K C) (Iv : Inv X pins σ H s) (e : H a = some (exo a C none)) (hno : PySem.W.findIn X.K (.ref C) f = some none) (ry : RelV y u)
    (h : ∀ (d : Addr) (s2 : Shared), H d = none → d ≠ a → Inv X pins σ (upd (upd H d (exd d [(f, y)])) a (exo a C (some d))) s2 → Q () s2) : wpAny (model X.prog X.w) A (setAttr (.ref a) f u) Q E s := by
  obtain ⟨nm, q, N, bs, sn, sub, ab, col, dd, k0, k1, k2, k3, k5, hC⟩ := Tc.cls
  have hcl : PySem.W.clsIn X.K C = some { name := nm, bases := bs, mro := .ref C :: PySem.ESX.exTail, ns := N, qualname := q, hasDict := true, slotNames := sn, subclasses := sub, abstract := ab, collection := col, hasDel := false } := by unfold PySem.W.clsIn; rw [hC] <;> rfl
  obtain ⟨t1, eo⟩ := exo_at Iv.hok e
  obtain ⟨hp0, g, d, t, os⟩ := s
  refine PySem.W.set_plain Iv.kIn (ox := { cls := .ref C, dict := none, data := .fields #[.ref t1, .none, .none, .none, .bool false, .none] }) (od := none) ⟨eo, rfl, rfl, trivial⟩ Tc.setA ?_
  refine PySem.ESX.osa_new Iv.kIn eo hcl rfl rfl hno (fun h' tk' dx k dn dxa hx nw => ?_)
  have free0 : H dx = none := Iv.hok.fresh dn
  have off : ∀ {b : Addr} {o : Obj}, hp0.get? b = some o → b ≠ dx := fun {b o} q => Nat.ne_of_lt (Nat.lt_of_lt_of_le (Heap.lt_size q) dn)
  have offA : ∀ {b : Addr}, H b = none → b ≠ a := fun {b} n z => by
    rw [z, e] at n
    cases n
  have U : Un X.fs [] H (upd (upd H dx (exd dx [(f, y)])) a (exo a C (some dx))) hp0 h' := {
    keep := fun b o q n _ _ => k b o (offA n) q
    slot := fun b o q n _ _ => ⟨o.slots, k b o (offA n) q⟩
    free := fun b o q n _ => by rw [upd_ne (offA n), upd_ne (off q)]; exact n
    there := fun b o q _ => by
      by_cases hB : b = a
      · exact ⟨_, by rw [hB]; exact hx⟩
      · exact ⟨o, k b o hB q⟩
    tups := fun b xs q => by rw [upd_ne (at_ne e q exo_tup), upd_ne (ne_of_none q free0)]; exact q
    frzs := fun b o v q => by rw [upd_ne (at_ne e q exo_frz), upd_ne (ne_of_none q free0)]; exact q
    tbls := fun b ps q => ⟨#[], by rw [upd_ne (at_ne e q exo_tbl), upd_ne (ne_of_none q free0), q]; simp⟩ }
  refine h dx _ free0 dxa (Iv.un (t' := tk') U fun b o q => ?_)
  by_cases hB : b = a
  · subst hB
    rw [upd_same] at q
    cases q
    exact exo_ok hx
  · rw [upd_ne hB] at q
    by_cases hd : b = dx
    · subst hd
      rw [upd_same] at q
      cases q
      exact exd_ok nw (relO_put (fs := []) ry fun g => True.intro)
    · rw [upd_ne hd] at q
      refine (Iv.hok b o q).stay (fun c v hc z => k c v ?_ z) (fun c hc => ?_) (fun c xs hc => ?_)
      · rcases hc with hc | hc
        · rw [hc]; exact hB
        · exact at_ne e hc exo_own
      · rw [upd_ne (at_ne e hc exo_own), upd_ne (ne_of_none hc free0)]; exact hc
      · rw [upd_ne (at_ne e hc exo_tup), upd_ne (ne_of_none hc free0)]; exact hc
/-- Exception.__init__(self, ..): nothing of it is told -/
theorem ref_init {us : List Value} {Q : Value → Shared → Prop} (Tc : RefC X.K C) (Iv : Inv X pins σ H s) (e : H a = some (exo a C none)) (hl : us.length ≤ sizeLine) (h : ∀ s', Inv X pins σ H s' → Q .none s') :
    wpAny (model X.prog X.w) A (call (.builtin "Exception.__init__") (.ref a :: us)) Q E s := by
  obtain ⟨nm, q, N, bs, sn, sub, ab, col, dd, k0, k1, k2, k3, k5, hC⟩ := Tc.cls
  obtain ⟨t1, eo⟩ := exo_at Iv.hok e
  obtain ⟨hp0, g, d, t, os⟩ := s
  refine wpAny_call (PySem.HandSPX.init_base F.excBase_Exception (fun _ => rfl) (Iv.kIn _ _ hC) eo hl fun h' t2 k hx => ?_)
  have J := Iv.write (t' := t) (x := a) (e := a) (o := exo a C none) (by rw [e]; exact True.intro) (.inl rfl) k ⟨_, hx⟩ (exo_ok hx)
  have eu : upd H a (exo a C none) = H := by
    funext b
    by_cases hB : b = a
    · rw [hB, upd_same, e]
    · rw [upd_ne hB]
  rw [eu] at J
  exact h _ J
end
/-! ### readings and rules -/
def tExI (K : PySem.W.Frag) (ta : TA) : TE := fun σ H Q => ta σ H fun vs H1 => ∃ (a C : Addr) (ws : List V), vs = .ref a :: ws ∧ ws.length ≤ 1000 ∧ RefC K C ∧ H1 a = some (exo a C none) ∧ Q .non H1
def tSet1 (K : PySem.W.Frag) (f : Str) (to te : TE) : TS := fun D σ H => te σ H fun y H1 => to σ H1 fun x H2 => ∃ a C : Addr, x = .ref a ∧ RefC K C ∧ PySem.W.findIn K (.ref C) f = some none ∧
  H2 a = some (exo a C none) ∧ ∀ dx, H2 dx = none → dx ≠ a → D.nx σ (upd (upd H2 dx (exd dx [(f, y)])) a (exo a C (some dx)))
def tMkR (C : Addr) (sp : Sp) (ta : TA) : St → Hp → XK → Prop := fun σ H Q => ta σ H fun vs H1 => vs.length ≤ 1000 ∧ ∀ a, H1 a = none → sp (.ref a :: vs) (upd H1 a (exo a C none))
  (fun v He => v = .non ∧ ∃ (d : Addr) (fs : List (Str × V)), He a = some (exo a C (some d)) ∧ He d = some (exd d fs) ∧ H1 d = none ∧ Q (.ref C) (some d) (upd (del He a) d (.xd fs))) (fun _ _ _ => False)
section
variable {X : Cx} {o e : Expr} {es : List Expr} {to te : TE} {ta : TA}
variable {f : Str} {p p' p1 p2 pos : Pos}
theorem pe_exinit {pl : Sem Bool} (hg : Gl X "Exception") (hm : X.mg "Exception" = none) (vV : PySem.W.findCls X.K (.type "Exception") (.type "type") "__init__" = some (.val (.builtin "Exception.__init__"))) (ha : PA X (e :: es) ta)
    (hc : eval (.Call (.Attribute (.Name "Exception" p1) "__init__" p2) (e :: es) [] pos) X.env = (do
      let cv ← eval (.Name "Exception" p1) X.env
      standAt p2.atName
      let (m0, fst0) ← holding [cv] (getMethod cv "__init__" pl)
      callWith pos m0 fst0 (backTo pos (starEach (e :: es) X.env)) (backToKw pos (keywordEach [] X.env))) := by rfl) (he : starEach (e :: es) X.env = (false, eval e X.env) :: starEach es X.env := by rfl) (hpl : (backTo pos (starEach es X.env)).any (·.1) = false := by rfl) :
    PE X (.Call (.Attribute (.Name "Exception" p1) "__init__" p2) (e :: es) [] pos) (tExI X.K ta) := by
  refine ⟨fun pins s σ H Q Iv h => ?_⟩
  refine PySem.W.methodCall_KW (ld_blt Iv hg hm PyProof.Rows.Boot.«Exception» ?_ (by decide) (by decide)) hc
  obtain ⟨m, fr⟩ := Iv.fr
  refine PySem.W.method_type fr Iv.ok.mod.kin typ_Exc (by decide +kernel) vV (by decide +kernel) ?_
  show wpAny _ _ (callWith pos (Value.builtin "Exception.__init__") [] (backTo pos (starEach (e :: es) X.env)) []) _ _ _
  refine PyProof.Rows.callWith_method1 (thn (ha.run pos pins _ σ H _ (Iv.tok _) h) fun us s1 ⟨vs, H1, Iv1, r1, a, C, ws, ev, hl, Tc, eA, q⟩ => ?_) he hpl
  subst ev
  cases r1 with
  | @cons _ u0 _ ur ra rw' =>
    obtain rfl : u0 = Value.ref a := ra
    have hlw : ur.length ≤ sizeLine := by
      rw [← Paired.length rw', sizeLine_eq]
      omega
    exact ref_init Tc Iv1 eA hlw fun s' J => ⟨.non, H1, J, rfl, q⟩
theorem ps_set1 (eo : PE X o to) (he : PE X e te) (hs : swapsWith e (some (.Attribute o f p')) pos.line X.env = pure false := by rfl) : PS X (.Assign [.Attribute o f p'] e pos) (tSet1 X.K f to te) := by
  refine ⟨fun pins s σ H D Iv h => ?_⟩
  refine plainObj_wpAny_Assign_Attribute (thn (he.run pins s σ H _ Iv h) fun v s1 ⟨y, H1, Iv1, r1, q1⟩ => thn (eo.run pins s1 σ H1 _ Iv1 q1) fun u s2 ⟨x, H2, Iv2, r2, a, C, ex, Tc, hno, eA, q⟩ => ?_) hs
  subst ex
  obtain rfl : u = Value.ref a := r2
  exact ref_store Tc Iv2 eA hno r1 fun dx s' n ne J => ⟨σ, _, J, q dx n ne⟩
theorem pmk_ref {CX : CXT} {x : Str} {C fI : Addr} {k : Nat} {fd : FuncData} {ps : List Str} {sp : Sp} (Tc : RefC X.K C) (iC : PySem.W.findIn X.K (.ref C) "__init__" = some (some (.ref fI))) (tI : PySem.W.typeIn X.K (.ref fI) = some (.type "function"))
    (F1 : FnOk X.prog X.w X.K X.mg X.base CX k fI fd ps sp) (hr : Room (k + 1) X.A) (hB : Binds X.K fd ps []) (hx : Passes CX X (fun _ _ _ => False)) (hg : Gl X x) (hm : X.mg x = some (.ref C)) (ha : PA X (e :: es) ta) (hdb : (x == ("__debug__" : Str)) = false := by decide) (he : starEach (e :: es) X.env = (false, eval e X.env) :: starEach es X.env := by rfl) (hpl : (backTo pos (starEach es X.env)).any (·.1) = false := by rfl) :
    PMk X (.Call (.Name x p) (e :: es) [] pos) (tMkR C sp ta) := by
  intro pins s σ H Q Iv h
  obtain ⟨nm, q, N, bs, sn, sub, ab, col, dd, k0, k1, k2, k3, k5, hC⟩ := Tc.cls
  refine wpAny_Call_Name_kw (ld_glob Iv hg hm ?_ hdb)
  refine PySem.W.callWith_K (h₀ := X.base) Iv.ok.mod.kin Tc.kept (thn (ha.run pos pins s σ H _ Iv h) fun us s1 ⟨vs, H1, Iv1, r1, hz, q1⟩ => ⟨Iv1.kIn, ?_⟩) he hpl
  show wpAny _ _ (call (.ref C) us) _ _ _
  obtain ⟨hp0, g, dr, tk, os⟩ := s1
  have hle : hp0.objs.size ≤ hp0.objs.size + 1 := Nat.le_succ _
  have nw : H1 (hp0.objs.size + 1) = none := Iv1.hok.fresh hle
  have spq := q1 (hp0.objs.size + 1) nw
  have old : ∀ b o, hp0.get? b = some o → ((hp0.push (PySem.W.kdv_tup us)).push (PySem.HandSPX.excO C hp0.objs.size)).get? b = some o := fun b o e => Heap.get?_push_of_some _ (Heap.get?_push_of_some _ e)
  have hnew : ((hp0.push (PySem.W.kdv_tup us)).push (PySem.HandSPX.excO C hp0.objs.size)).get? (hp0.objs.size + 1) = some (PySem.HandSPX.excO C hp0.objs.size) := by heap_get
  have Iv2 : Inv X pins σ (upd H1 (hp0.objs.size + 1) (exo (hp0.objs.size + 1) C none)) ⟨(hp0.push (PySem.W.kdv_tup us)).push (PySem.HandSPX.excO C hp0.objs.size), g, dr, tk, os⟩ :=
    Iv1.laid (t' := tk) (a := hp0.objs.size + 1) (o := exo (hp0.objs.size + 1) C none) (h' := (hp0.push (PySem.W.kdv_tup us)).push (PySem.HandSPX.excO C hp0.objs.size)) old hle (exo_ok hnew)
  have r2 : Vals (V.ref (hp0.objs.size + 1) :: vs) (Value.ref (hp0.objs.size + 1) :: us) := .cons rfl r1
  have hl : (Value.ref (hp0.objs.size + 1) :: us).length = ps.length := by
    have e := r2.length
    rw [F1.len _ _ _ _ spq] at e
    exact e.symm
  have hul : us.length ≤ sizeLine := by
    rw [← Paired.length r1, sizeLine_eq]
    omega
  have hbb := hB _ (Value.ref (hp0.objs.size + 1) :: us) Iv2.kIn (by rw [List.append_nil]; exact hl)
  rw [List.append_nil] at hbb
  refine wpAny_call (PySem.HandSPX.call_own F.excBase_Exception (fun _ => rfl) (Iv1.kIn _ _ hC) (PySem.W.looks_findIn Iv1.kIn iC) (fun self => PySem.W.bind_fn Iv1.kIn self tI) hul
    (codeAny_mono (F1.run _ X.stack _ _ ⟨Value.ref (hp0.objs.size + 1) :: us, []⟩ (Value.ref (hp0.objs.size + 1) :: us) _ _ (fun _ _ _ => False) (hr.make C us []) (Iv2.env0.make C us []) hbb r2 spq) fun r s' hq' => ?_))
  cases r with
  | error er => exact hx pins σ _ _ er s' Iv2 hq'
  | ok fl =>
    cases fl with
    | ret u =>
      obtain ⟨v, H2, os2, bare2, un2, hok2, rv, ev, d, fs, eA, ed, hd1, q2⟩ := hq'
      subst ev
      obtain ⟨h2, g2, d2, t2, os'⟩ := s'
      exact ⟨rv, mk_end (raises_own Tc.isE Tc.isT) Iv1 hle old un2 hok2 os2 bare2 eA ed hd1 q2⟩
    | next => exact False.elim hq'
    | brk => exact False.elim hq'
    | cont => exact False.elim hq'
end
end L2
end
/-! ## Wr -/
section
namespace SL
open PySem PySem.Spec PyProof.Rows L2
/-- what the written part says of Refused, at CR, and of its __init__, at fR -/
structure Tr (K : PySem.W.Frag) (mg : Str → Option Value) (CR fR : Addr) : Prop where
  cls : RefC K CR
  g : mg "Refused" = some (.ref CR)
  i : PySem.W.findIn K (.ref CR) "__init__" = some (some (.ref fR))
  t : PySem.W.typeIn K (.ref fR) = some (.type "function")
  no : PySem.W.findIn K (.ref CR) "code" = some none
  vV : PySem.W.findCls K (.type "Exception") (.type "type") "__init__" = some (.val (.builtin "Exception.__init__"))
  em : PySem.W.exmOne K (.ref CR) (.ref CR) = some true
  xf : XfC K CR
/-- what a def that refuses with a code asks of its caller -/
def Refuses (CR : Addr) (n : Int) (H : Hp) (E : XK) : Prop := ∀ (d : Addr) (H' : Hp), Same H H' → H' d = some (.xd [("code", .int n)]) → E (.ref CR) (some d) H'
theorem Refuses.keep {CR : Addr} {n : Int} {H H' : Hp} {E : XK} (r : Refuses CR n H E) (s : Same H H') : Refuses CR n H' E := fun d H2 s2 h => r d H2 (s.trans s2) h
section
variable {P : Program} {w : World} {K : PySem.W.Frag} {mg : Str → Option Value} {base : Heap} {CR fR : Addr}
/-! ### Refused.__init__ -/
abbrev sRinit : Stmt := inClass (top 37) 0
theorem scRinit : FnScope ["self", "code"] ["self", "code"] (defScope sRinit) := ⟨rfl, rfl, rfl, by decide +kernel, rfl, by decide +kernel, by decide +kernel⟩
def spRinit (CR : Addr) : Sp := fun vs H Q _ => ∃ (a : Addr) (n : Int), vs = [.ref a, .int n] ∧ H a = some (exo a CR none) ∧ ∀ d, H d = none → d ≠ a → Q .non (upd (upd H d (exd d [("code", .int n)])) a (exo a CR (some d)))
theorem ok_rinit {f : Addr} {fd : FuncData} (T : Tx mg) (R : Tr K mg CR fR) (F : Fun K "__init__" "Refused.__init__" sRinit f fd) : FnOk P w K mg base CX0 1 f fd ["self", "code"] (spRinit CR) := by
  refine F.ok scRinit (fun vs H Q E h => ?_) (fun cdv A outer s H vs Q E hr h => ⟨_, pss_cons (ps_expr (pe_exinit (by rfl) T.exc R.vV (pa_cons (pv 0) (pa_cons pe_str pa_nil)))) (pss_one (ps_set1 (pv 0) (pv 1))), ?_⟩)
  · obtain ⟨_, _, rfl, _⟩ := h
    rfl
  · obtain ⟨a, n, rfl, ha, q⟩ := h
    refine ⟨_, rfl, a, CR, _, rfl, by decide, R.cls, ha, ?_⟩
    exact ⟨_, rfl, _, rfl, a, CR, rfl, R.cls, R.no, ha, q⟩
/-! ### want -/
abbrev sWant : Stmt := top 38
theorem scWant : FnScope ["truth", "code"] ["truth", "code"] (defScope sWant) := ⟨rfl, rfl, rfl, by decide +kernel, rfl, by decide +kernel, by decide +kernel⟩
def spWant (CR : Addr) : Sp := fun vs H Q E => ∃ (b : Bool) (n : Int), vs = [.bl b, .int n] ∧ (b = true → Q .non H) ∧ (b = false → Refuses CR n H E)
theorem ok_want {f fd fd'} (R : Tr K mg CR fR) (D : Def K mg "want" "want" sWant ["truth", "code"] f fd) (FI : FnOk P w K mg base CX0 1 fR fd' ["self", "code"] (spRinit CR)) (bI : Binds K fd' ["self", "code"] []) :
    Ok P w K mg base (L2.CX P w) 3 "want" ["truth", "code"] (spWant CR) := by
  refine D.ok (D.fn.okX scWant (fun vs H Q E h => ?_) (fun cdv A outer s H vs Q E hr h => ⟨_,
      pss_one (ps_if (pt_not (pt_val (pv 0))) (pss_one (ps_raise rfl (takes_of rfl rfl rfl rfl) (pmk_ref R.cls R.i R.t FI hr bI (fun _ _ _ _ _ _ _ h => h.elim) (by rfl) R.g (by exact pa_cons (pv 1) pa_nil)))) pss_nil), ?_⟩))
  · obtain ⟨_, _, rfl, _⟩ := h
    rfl
  · obtain ⟨b, n, rfl, q1, q2⟩ := h
    refine ⟨_, rfl, _, rfl, ?_⟩
    cases b with
    | true => exact iteF (q1 rfl)
    | false =>
      refine iteT ⟨_, rfl, by show 1 ≤ 1000; decide, fun a ha => ⟨a, n, rfl, upd_same, fun d hd hda => ⟨rfl, d, [("code", .int n)], upd_same, ?_, ?_, ?_⟩⟩⟩
      · rw [upd_ne hda, upd_same]
      · rw [upd_ne hda] at hd
        exact hd
      · rw [upd_ne hda] at hd
        refine q2 rfl d _ (fun x o hx => ?_) upd_same
        rw [upd_ne (ne_of_none hx hd), del_ne (ne_of_none hx ha), upd_ne (ne_of_none hx ha), upd_ne (ne_of_none hx hd), upd_ne (ne_of_none hx ha)]
        exact hx
/-! ### check_between -/
abbrev sBetween : Stmt := top 39
theorem scBetween : FnScope ["number", "low", "high"] ["number", "low", "high"] (defScope sBetween) := ⟨rfl, rfl, rfl, by decide +kernel, rfl, by decide +kernel, by decide +kernel⟩
def spBetween (CR : Addr) : Sp := fun vs H Q E => ∃ x lo hi : Int, vs = [.int x, .int lo, .int hi] ∧ (lo ≤ x ∧ x ≤ hi → Q .non H) ∧ (¬ (lo ≤ x ∧ x ≤ hi) → Refuses CR (-1) H E)
theorem ok_between {f fd} (T : Tx mg) (D : Def K mg "check_between" "check_between" sBetween ["number", "low", "high"] f fd) (G : Ok P w K mg base (L2.CX P w) 3 "want" ["truth", "code"] (spWant CR)) :
    Ok P w K mg base (L2.CX P w) 4 "check_between" ["number", "low", "high"] (spBetween CR) := by
  obtain ⟨f1, fd1, g1, k1, b1, F1⟩ := G
  obtain ⟨t1, hn1⟩ := T.wrongA
  refine D.ok (D.fn.okX scBetween (fun vs H Q E h => ?_) (fun cdv A outer s H vs Q E hr h => ⟨_,
      pss_one (ps_expr (pe_call F1 hr rfl g1 k1 b1 .nil (passes_call (takes_of rfl rfl rfl rfl) fun _ _ _ _ h => h) (pa_cons (pe_chain op_le op_le (pv 1) (pv 0) (pv 2)) (pa_cons (pe_glob rfl hn1 (relI _ _)) pa_nil)))), ?_⟩))
  · obtain ⟨_, _, _, rfl, _⟩ := h
    rfl
  · obtain ⟨x, lo, hi, rfl, q1, q2⟩ := h
    refine ⟨_, rfl, _, rfl, _, _, rfl, rfl, _, rfl, ?_⟩
    refine ite2 (fun c => ?_) (fun c => ?_)
    · have c := of_decide_eq_true c
      refine ⟨_, rfl, _, _, rfl, rfl, _, _, rfl, fun z => q1 ⟨c, of_decide_eq_true z⟩, fun z => q2 fun z' => of_decide_eq_false z z'.2⟩
    · have c : ¬ lo ≤ x := by simpa using c
      exact ⟨_, _, rfl, fun z => Bool.noConfusion z, fun _ => q2 fun z' => c z'.1⟩
/-! ### check_list -/
abbrev sCheck : Stmt := top 40
theorem scCheck : FnScope ["row", "fewest", "most", "greatest", "number"] ["row", "fewest", "most", "greatest"] (defScope sCheck) := ⟨rfl, rfl, rfl, by decide +kernel, rfl, by decide +kernel, by decide +kernel⟩
def listOk (row : List Int) (few most great : Int) : Bool := decide (few ≤ (row.length : Int) ∧ (row.length : Int) ≤ most) && row.all fun x => decide (0 ≤ x ∧ x ≤ great)
def spCheck (K : PySem.W.Frag) (CR : Addr) : Sp := fun vs H Q E => ∃ (a : Addr) (row : List Int) (few most great : Int), vs = [.ref a, .int few, .int most, .int great] ∧ IntsAt K H a row ∧ (listOk row few most great = true → Q .non H) ∧ (listOk row few most great = false → Refuses CR (-1) H E)
theorem ok_check {f fd} (T : Tx mg) (D : Def K mg "check_list" "check_list" sCheck ["row", "fewest", "most", "greatest"] f fd) (G : Ok P w K mg base (L2.CX P w) 4 "check_between" ["number", "low", "high"] (spBetween CR)) :
    Ok P w K mg base (L2.CX P w) 5 "check_list" ["row", "fewest", "most", "greatest"] (spCheck K CR) := by
  obtain ⟨f1, fd1, g1, k1, b1, F1⟩ := G
  refine D.ok (D.fn.okX scCheck (fun vs H Q E h => ?_) (fun cdv A outer s H vs Q E hr h => ⟨_,
      pss_cons (ps_expr (pe_call F1 hr rfl g1 k1 b1 .nil (passes_call (takes_of rfl rfl rfl rfl) fun _ _ _ _ h => h) (pa_cons (pe_callB call_len_seq (by rfl) T.len PySem.boot_len (pa_cons (pv 0) pa_nil)) (pa_cons (pv 1) (pa_cons (pv 2) pa_nil)))))
      (pss_one (ps_for (passes_of rfl) rfl (pi_list (pv 0)) (pg_name (i := 4) scCheck.nd rfl (Or.inl rfl))
        (pss_one (ps_expr (pe_call F1 hr rfl g1 k1 b1 .nil (passes_call (takes_of rfl rfl rfl rfl) fun _ _ _ _ h => h) (pa_cons (pv 4) (pa_cons pe_int (pa_cons (pv 3) pa_nil)))))))), ?_⟩))
  · obtain ⟨_, _, _, _, _, rfl, _⟩ := h
    rfl
  · obtain ⟨a, row, few, most, great, rfl, ha, q1, q2⟩ := h
    refine ⟨_, rfl, a, _, rfl, .inl ha, _, rfl, _, rfl, _, few, most, rfl, fun c => ?_, fun c => q2 ?_⟩
    · rw [List.length_map] at c
      refine ⟨_, rfl, a, rfl, ⟨_, ha⟩, for_it walk_list (fun i σ H' => ∃ nv : Option V, σ = [some (.ref a), some (.int few), some (.int most), some (.int great), nv] ∧ H' = H ∧ (row.take i).all (fun x => decide (0 ≤ x ∧ x ≤ great)) = true)
        ⟨none, rfl, rfl, by simp⟩ (fun i σ H' _ ⟨_, _, e, _⟩ => by rw [e]; exact ha) ?_ ?_⟩
      · rintro i x σ H1 H2 hi ⟨nv, rfl, rfl, hal⟩ ⟨rfl, e⟩
        obtain ⟨z, hz, rfl⟩ := map_get e
        refine ⟨_, rfl, _, rfl, z, 0, great, rfl, fun c2 => ⟨_, rfl, rfl, ?_⟩, fun c2 => q2 ?_⟩
        · rw [take_next hz, List.all_append, hal, List.all_cons, List.all_nil, decide_eq_true c2]; rfl
        · unfold listOk
          have : row.all (fun x => decide (0 ≤ x ∧ x ≤ great)) = false := by
            cases q : row.all (fun x => decide (0 ≤ x ∧ x ≤ great)) with
            | false => rfl
            | true => exact absurd (of_decide_eq_true (List.all_eq_true.mp q z (List.mem_of_getElem? hz))) c2
          rw [this, Bool.and_false]
      · rintro σ H1 ⟨nv, rfl, rfl, hal⟩
        rw [List.length_map, List.take_length] at hal
        refine q1 ?_
        unfold listOk
        rw [hal, decide_eq_true c]; rfl
    · rw [List.length_map] at c
      unfold listOk
      rw [decide_eq_false c, Bool.false_and]
end
end SL
end
/-! ## Wa -/
section
namespace SL
open PySem PySem.Spec PyProof.Rows L2
/-! ### methods -/
def OkM (P : Program) (w : World) (K : PySem.W.Frag) (mg : Str → Option Value) (base : Heap) (CX : CXT) (k : Nat) (C : Addr) (m : Str) (ps : List Str) (sp : Sp) : Prop :=
  ∃ (f : Addr) (fd : FuncData), Meth K C m f ∧ Binds K fd ps [] ∧ FnOk P w K mg base CX k f fd ps sp
structure DefM (K : PySem.W.Frag) (C : Addr) (m qual : Str) (st : Stmt) (ps : List Str) (f : Addr) (fd : FuncData) : Prop where
  fn : Fun K m qual st f fd
  m : Meth K C m f
  b : Binds K fd ps []
theorem DefM.ok {P : Program} {w : World} {K : PySem.W.Frag} {mg : Str → Option Value} {base : Heap} {CX : CXT} {k : Nat} {C : Addr} {m qual : Str} {st : Stmt} {ps : List Str} {sp : Sp} {f : Addr} {fd : FuncData} (D : DefM K C m qual st ps f fd) (F : FnOk P w K mg base CX k f fd ps sp) :
    OkM P w K mg base CX k C m ps sp := ⟨f, fd, D.m, D.b, F⟩
/-! ### the auction in the heap -/
def aF (rp sp : Addr) (cl : Bool) : List (Str × V) := [("reserves", .ref rp), ("submitted", .ref sp), ("is_closed", .bl cl)]
theorem lk0 {k : Str} {v : V} {r : List (Str × V)} : List.lookup k ((k, v) :: r) = some v := by
  have e : (k == k) = true := beq_self_eq_true k
  simp only [List.lookup, e]
theorem lk1 {k g : Str} {v : V} {r : List (Str × V)} (h : (k == g) = false) : List.lookup k ((g, v) :: r) = List.lookup k r := by
  simp only [List.lookup, h]
theorem pf0 {f : Str} {v x : V} {r : List (Str × V)} : putF f v ((f, x) :: r) = (f, v) :: r := if_pos rfl
theorem pf1 {f g : Str} {v x : V} {r : List (Str × V)} (h : ¬ g = f) : putF f v ((g, x) :: r) = (g, x) :: putF f v r := if_neg h
theorem aF_res {rp sp : Addr} {cl : Bool} : (aF rp sp cl).lookup ("reserves" : Str) = some (.ref rp) := lk0
theorem aF_sub {rp sp : Addr} {cl : Bool} : (aF rp sp cl).lookup ("submitted" : Str) = some (.ref sp) := (lk1 (by decide +kernel)).trans lk0
theorem aF_cl {rp sp : Addr} {cl : Bool} : (aF rp sp cl).lookup ("is_closed" : Str) = some (.bl cl) := (lk1 (by decide +kernel)).trans ((lk1 (by decide +kernel)).trans lk0)
theorem aF_bids {rp sp : Addr} {cl : Bool} : (aF rp sp cl).lookup ("bids" : Str) = none := (lk1 (by decide +kernel)).trans ((lk1 (by decide +kernel)).trans ((lk1 (by decide +kernel)).trans rfl))
theorem aF_with {rp sp : Addr} {cl : Bool} : (aF rp sp cl).lookup ("bids_with" : Str) = none := (lk1 (by decide +kernel)).trans ((lk1 (by decide +kernel)).trans ((lk1 (by decide +kernel)).trans rfl))
theorem aF_put {rp sp : Addr} {cl b : Bool} : putF "is_closed" (.bl b) (aF rp sp cl) = aF rp sp b := (pf1 (by decide +kernel)).trans (congrArg _ ((pf1 (by decide +kernel)).trans (congrArg _ pf0)))
theorem aF_new {rp sp : Addr} {cl : Bool} : putF "is_closed" (.bl cl) (putF "submitted" (.ref sp) (putF "reserves" (.ref rp) [])) = aF rp sp cl := by
  have e : putF ("submitted" : Str) (V.ref sp) (putF ("reserves" : Str) (V.ref rp) []) = [(("reserves" : Str), V.ref rp), (("submitted" : Str), V.ref sp)] := (pf1 (by decide +kernel)).trans rfl
  rw [e]
  exact (pf1 (by decide +kernel)).trans (congrArg _ ((pf1 (by decide +kernel)).trans rfl))
/-- what an auction of the specification is like, as far as this is needed -/
structure Valid (x : Vbndax.Auction) : Prop where
  one : 1 ≤ x.reserves.length
  few : x.reserves.length ≤ 4
  five : x.sealedBids.length = 5
  rows : ∀ l, some l ∈ x.sealedBids → l.length = x.reserves.length ∧ ∀ n ∈ l, n ≤ 60
def SubOk (H : Hp) (v : V) : Option (List Nat) → Prop
  | none => v = .non
  | some l => ∃ q, v = .ref q ∧ IntsL H q (Vbndax.toInts l)
def Subs (H : Hp) (qs : List V) (bs : List (Option (List Nat))) : Prop := qs.length = bs.length ∧ ∀ (i : Nat) (v : V) (o : Option (List Nat)), qs[i]? = some v → bs[i]? = some o → SubOk H v o
structure Auc (CA : Addr) (H : Hp) (a : Addr) (x : Vbndax.Auction) (dx rp sp : Addr) (qs : List V) : Prop where
  obj : H a = some (.ins CA dx (aF rp sp x.isClosed))
  res : IntsL H rp (Vbndax.toInts x.reserves)
  lst : H sp = some (.lst qs)
  sub : Subs H qs x.sealedBids
def AucAt (CA : Addr) (H : Hp) (a : Addr) (x : Vbndax.Auction) : Prop := ∃ dx rp sp qs, Auc CA H a x dx rp sp qs
theorem SubOk.keep {H H' : Hp} {v : V} : ∀ {o : Option (List Nat)}, SubOk H v o → Same H H' → SubOk H' v o
  | none, h, _ => h
  | some l, ⟨q, e, h⟩, s => ⟨q, e, s _ _ h⟩
theorem Auc.keep {CA : Addr} {H H' : Hp} {a : Addr} {x : Vbndax.Auction} {dx rp sp : Addr} {qs : List V} (A : Auc CA H a x dx rp sp qs) (s : Same H H') : Auc CA H' a x dx rp sp qs :=
  ⟨s _ _ A.obj, s _ _ A.res, s _ _ A.lst, A.sub.1, fun i v o e1 e2 => (A.sub.2 i v o e1 e2).keep s⟩
theorem AucAt.keep {CA : Addr} {H H' : Hp} {a : Addr} {x : Vbndax.Auction} (A : AucAt CA H a x) (s : Same H H') : AucAt CA H' a x := by
  obtain ⟨dx, rp, sp, qs, A⟩ := A
  exact ⟨dx, rp, sp, qs, A.keep s⟩
def rowOf (x : Vbndax.Auction) (o : Option (List Nat)) : List Int := match o with
  | none => x.reserves.map fun _ => -1
  | some l => l.map fun n : Nat => (n : Int)
theorem bidsOf_is (x : Vbndax.Auction) : Vbndax.bidsOf x = x.sealedBids.map (rowOf x) := rfl
theorem bids_each {x : Vbndax.Auction} (v : Valid x) : ∀ row ∈ Vbndax.bidsOf x, row.length = (Vbndax.toInts x.reserves).length := by
  intro row h
  rw [bidsOf_is] at h
  obtain ⟨o, ho, rfl⟩ := List.mem_map.mp h
  rw [toInts_len]
  cases o with
  | none => unfold rowOf; simp
  | some l => unfold rowOf; simp; exact (v.rows l ho).1
theorem bids_most {x : Vbndax.Auction} (v : Valid x) : ∀ row ∈ Vbndax.bidsOf x, ∀ z ∈ row, z ≤ 60 := by
  intro row h z hz
  rw [bidsOf_is] at h
  obtain ⟨o, ho, rfl⟩ := List.mem_map.mp h
  cases o with
  | none =>
    unfold rowOf at hz
    obtain ⟨_, _, rfl⟩ := List.mem_map.mp hz
    decide
  | some l =>
    unfold rowOf at hz
    obtain ⟨n, hn, rfl⟩ := List.mem_map.mp hz
    have := (v.rows l ho).2 n hn
    omega
theorem bids_len (x : Vbndax.Auction) : (Vbndax.bidsOf x).length = x.sealedBids.length := by rw [bidsOf_is, List.length_map]
theorem bidsL {H : Hp} {a c : Addr} {x : Vbndax.Auction} (v : Valid x) (h1 : RowsL H a (Vbndax.bidsOf x)) (h2 : IntsL H c (Vbndax.toInts x.reserves)) : BidsL H a c (Vbndax.bidsOf x) (Vbndax.toInts x.reserves) :=
  ⟨h1, h2, by rw [toInts_len]; exact v.few, bids_each v, by rw [bids_len, v.five]; decide⟩
/-- facts of the class Auction -/
structure Ta (K : PySem.W.Frag) (mg : Str → Option Value) (CA fA : Addr) : Prop where
  g : mg "Auction" = some (.ref CA)
  cl : Cls K CA
  mks : Mk K CA fA
  res : NoAttr K CA "reserves"
  sub : NoAttr K CA "submitted"
  isc : NoAttr K CA "is_closed"
section
variable {P : Program} {w : World} {K : PySem.W.Frag} {mg : Str → Option Value} {base : Heap} {CA fA : Addr}
/-! ### Auction.__init__ -/
abbrev sAinit : Stmt := inClass (top 46) 0
theorem scAinit : FnScope ["self", "reserves"] ["self", "reserves"] (defScope sAinit) := ⟨rfl, rfl, rfl, by decide +kernel, rfl, by decide +kernel, by decide +kernel⟩
def spAinit (CA : Addr) : Sp := fun vs H Q _ => ∃ (a dx rp : Addr), vs = [.ref a, .ref rp] ∧ H a = some (.ins CA dx []) ∧
  ∀ H' sp, (∀ b o, H b = some o → b ≠ a → H' b = some o) → H sp = none → H' a = some (.ins CA dx (aF rp sp false)) → H' sp = some (.lst (List.replicate 5 .non)) → Q .non H'
theorem ok_ainit {f : Addr} {fd : FuncData} (T : Tx mg) (A : Ta K mg CA fA) (F : Fun K "__init__" "Auction.__init__" sAinit f fd) : FnOk P w K mg base CX0 1 f fd ["self", "reserves"] (spAinit CA) := by
  obtain ⟨t1, hn1⟩ := T.bidders
  refine F.ok scAinit (fun vs H Q E h => ?_) (fun cdv A0 outer s H vs Q E hr h => ⟨_,
      pss_cons (ps_fld (pv 0) (pv 1) rfl)
      (pss_cons (ps_fld (pv 0) (pe_op op_rep (pe_lst (pa_cons pe_non pa_nil)) (pe_glob rfl hn1 (relI _ _))) rfl)
      (pss_one (ps_fld (pv 0) pe_bl rfl))), ?_⟩)
  · obtain ⟨_, _, _, rfl, _⟩ := h
    rfl
  · obtain ⟨a, dx, rp, rfl, ha, q⟩ := h
    refine ⟨_, rfl, _, rfl, a, CA, dx, _, rfl, ha, A.cl, A.res, (by show 0 < 1000; decide), ?_⟩
    refine ⟨sz 1 (by decide), fun p1 n1 => ⟨p1, 5, _, rfl, rfl, upd_same, by decide, by decide, sz _ (by decide), fun p2 n2 => ⟨_, rfl, a, CA, dx, putF "reserves" (.ref rp) [], rfl, ?_, A.cl, A.sub, (by show 1 < 1000; decide), ?_⟩⟩⟩
    · exact (L2.Same.up n2) _ _ ((L2.Same.up n1) _ _ upd_same)
    · have e1 : a ≠ p1 := ne_of_none upd_same n1
      have n20 : H p2 = none := by
        have z := L2.Same.free (L2.Same.up n1) n2
        by_cases h2 : p2 = a
        · rw [h2, upd_same] at z; cases z
        · rw [upd_ne h2] at z; exact z
      have n10 : H p1 = none := by
        rw [upd_ne (Ne.symm e1)] at n1; exact n1
      have e2 : a ≠ p2 := ne_of_none ha n20
      refine ⟨_, rfl, a, CA, dx, _, rfl, upd_same, A.cl, A.isc, (by show 2 < 1000; decide), ?_⟩
      refine q _ p2 (fun b o hb hba => ?_) n20 ?_ ?_
      · rw [upd_ne hba, upd_ne hba, upd_ne (ne_of_none hb n20), upd_ne (ne_of_none hb n10), upd_ne hba]; exact hb
      · rw [upd_same, aF_new]
      · rw [upd_ne (Ne.symm e2), upd_ne (Ne.symm e2), upd_same]; rfl
/-! ### Auction.bids -/
abbrev sBids : Stmt := inClass (top 46) 1
theorem scBids : FnScope ["self", "row"] ["self"] (defScope sBids) := ⟨rfl, rfl, rfl, by decide +kernel, rfl, by decide +kernel, by decide +kernel⟩
def spBids (CA : Addr) : Sp := fun vs H Q _ => ∃ (a : Addr) (x : Vbndax.Auction), vs = [.ref a] ∧ AucAt CA H a x ∧ Valid x ∧ ∀ H' p, Same H H' → H p = none → RowsL H' p (Vbndax.bidsOf x) → Q (.ref p) H'
theorem ok_bids {f : Addr} {fd : FuncData} (T : Tx mg) (A : Ta K mg CA fA) (D : DefM K CA "bids" "Auction.bids" sBids ["self"] f fd) : OkM P w K mg base CX0 1 CA "bids" ["self"] (spBids CA) := by
  refine D.ok (D.fn.ok scBids (fun vs H Q E h => ?_) (fun cdv A0 outer s H vs Q E hr h => ⟨_,
      pss_one (ps_ret (pe_lc (own := [("row", 1)]) (g := gName 1) (tt := tYes)
        (te := tIf (tB (tIsN (tVar 1))) (tOp rRep (tLst (tCons (tUn (rU fun i => .int (-i)) (tC (.int 1))) tNil)) (tCB (lenR K) (tCons (tFld K (tVar 0) "reserves") tNil))) (tVar 1)) rfl scBids.nd (pi_list (pe_fld (pv 0) rfl)) (blkOk_by (N := ["self", "row"]) (sc := defScope sBids) (by decide +kernel))
        (fun _ _ _ _ _ => pg_name (i := 1) scBids.nd rfl (Or.inl rfl)) (fun _ _ _ _ _ => pts_nil)
        (fun _ _ _ _ _ => pe_ifExp (pt_cmp (pc_isN (pv 1))) (pe_op op_rep (pe_lst (pa_cons (pe_un un_neg pe_int) pa_nil)) (pe_callB call_len_seq (by rfl) T.len PySem.boot_len (pa_cons (pe_fld (pv 0) rfl) pa_nil))) (pv 1)))), ?_⟩))
  · obtain ⟨_, _, rfl, _⟩ := h
    rfl
  · obtain ⟨a, x, rfl, ⟨dx, rp, sp, qs, U⟩, v, q⟩ := h
    refine ⟨_, rfl, a, CA, dx, _, _, rfl, U.obj, A.cl, A.sub, aF_sub, sp, rfl, ⟨_, SqL.of U.lst⟩, fun D0 hD => lc_it walk_list (MadeR (fun row : List Int => row.map V.int) H D0 (Vbndax.bidsOf x)) (MadeR.zero hD) (fun i H' _ m => SqL.of (m.1 _ _ U.lst)) ?_ ?_⟩
    · rintro i y H1 H2 hi m ⟨rfl, e⟩
      have hil : i < x.sealedBids.length := by rw [← U.sub.1]; exact hi
      have hk : x.sealedBids[i]? = some x.sealedBids[i] := List.getElem?_eq_getElem hil
      generalize x.sealedBids[i] = o at hk
      have so := (U.sub.2 i y o e hk).keep m.1
      have hb : (Vbndax.bidsOf x)[i]? = some (rowOf x o) := by rw [bidsOf_is, List.getElem?_map, hk]; rfl
      have h5 := v.five
      have few := v.few
      refine ⟨rfl, yes_if ⟨_, rfl, _, rfl, ?_⟩⟩
      cases o with
      | none =>
        obtain rfl : y = .non := so
        refine iteT ⟨1, rfl, sz 1 (by decide), fun p1 n1 => ⟨_, rfl, a, CA, dx, _, _, rfl, (L2.Same.up n1) _ _ (m.1 _ _ U.obj), A.cl, A.res, aF_res, rp, _, rfl, .inl (SqL.of ((L2.Same.up n1) _ _ (m.1 _ _ U.res))), p1, _, _, rfl, rfl, upd_same, ?_, ?_, ?_, fun p2 n2 => ?_⟩⟩
        · omega
        · rw [List.length_map, toInts_len]; omega
        · rw [List.length_map, toInts_len]; exact sz _ (by show 1 * _ ≤ _; omega)
        · obtain ⟨xs, hxs⟩ := m.has
          refine MadeR.put hD m ((L2.Same.up n1).trans (L2.Same.up n2)) (by omega) hb ?_ (Ne.symm (ne_of_none ((L2.Same.up n1) _ _ hxs) n2)) fun _ z => z
          rw [upd_same, List.length_map, toInts_len, Int.toNat_natCast]
          congr 1
          congr 1
          show _ = (x.reserves.map fun _ => (-1 : Int)).map V.int
          rw [List.map_map]
          have : ∀ l : List Nat, (List.replicate l.length [V.int (-1)]).flatten = l.map (V.int ∘ fun _ => (-1 : Int)) := by
            intro l
            induction l with
            | nil => rfl
            | cons n l ih =>
              rw [List.length_cons, List.replicate_succ, List.flatten_cons, ih]
              rfl
          exact this x.reserves
      | some l =>
        obtain ⟨z, rfl, hz⟩ := so
        refine iteF ⟨_, rfl, ?_⟩
        obtain ⟨z', rz, hz0⟩ := (U.sub.2 i _ (some l) e hk)
        obtain rfl : z = z' := V.ref.inj rz
        exact MadeR.put hD m (Same.refl _) (by omega) hb hz (ne_of_none hz0 hD) fun _ z => z
    · intro H1 m
      have : qs.length = (Vbndax.bidsOf x).length := by rw [bids_len]; exact U.sub.1
      rw [this] at m
      exact q _ D0 m.1 hD m.done
/-! ### Auction.bids_with -/
abbrev sBidsW : Stmt := inClass (top 46) 2
theorem scBidsW : FnScope ["self", "bidder", "row", "found"] ["self", "bidder", "row"] (defScope sBidsW) := ⟨rfl, rfl, rfl, by decide +kernel, rfl, by decide +kernel, by decide +kernel⟩
def spBidsW (CA : Addr) : Sp := fun vs H Q _ => ∃ (a z : Addr) (x : Vbndax.Auction) (i : Nat) (row : List Int), vs = [.ref a, .int i, .ref z] ∧ AucAt CA H a x ∧ Valid x ∧ i < 5 ∧ IntsL H z row ∧ ∀ H' p, Same H H' → H p = none → RowsL H' p ((Vbndax.bidsOf x).set i row) → Q (.ref p) H'
theorem ok_bidsW {f : Addr} {fd : FuncData} (A : Ta K mg CA fA) (D : DefM K CA "bids_with" "Auction.bids_with" sBidsW ["self", "bidder", "row"] f fd) (G : OkM P w K mg base CX0 1 CA "bids" ["self"] (spBids CA)) :
    OkM P w K mg base CX0 2 CA "bids_with" ["self", "bidder", "row"] (spBidsW CA) := by
  obtain ⟨f1, fd1, m1, b1, F1⟩ := G
  refine D.ok (D.fn.ok scBidsW (fun vs H Q E h => ?_) (fun cdv A0 outer s H vs Q E hr h => ⟨_,
      pss_cons (ps_set (i := 3) scBidsW.nd rfl (Or.inl rfl) (pe_meth0 (pv 0) A.cl m1 F1 hr b1 .nil pass0))
      (pss_one (ps_ret (pe_op op_cat (pe_op op_cat (pe_slice sl_list (pv 3) po_none (po_some (pv 1))) (pe_lst (pa_cons (pv 2) pa_nil))) (pe_slice sl_list (pv 3) (po_some (pe_op op_add (pv 1) pe_int)) po_none)))), ?_⟩))
  · obtain ⟨_, _, _, _, _, rfl, _⟩ := h
    rfl
  · obtain ⟨a, z, x, i, row, rfl, U, v, hi, hz, q⟩ := h
    obtain ⟨dx, rp, sp, us, U0⟩ := id U
    refine ⟨_, rfl, a, dx, _, rfl, U0.obj, aF_bids, a, x, rfl, U, v, fun H1 p s1 n1 hp => ?_⟩
    obtain ⟨qs, hqs, hql, hrow⟩ := hp
    have h5 : qs.length = 5 := by rw [hql, bids_len, v.five]
    refine ⟨_, rfl, _, rfl, i, rfl, p, _, rfl, SqL.of hqs, fun p1 n1 => ⟨_, rfl, sz 1 (by decide), fun p2 n2 => ?_⟩⟩
    rw [cut_to] at n2 ⊢
    have sa := (L2.Same.up (H := H1) (o := .lst ((qs.map V.ref).take i)) n1)
    have sb := (L2.Same.up (o := .lst [V.ref z]) n2)
    refine ⟨p1, p2, (qs.map V.ref).take i, _, rfl, rfl, sb p1 (.lst ((qs.map V.ref).take i)) upd_same, upd_same, ?_, fun p3 n3 => ?_⟩
    · rw [List.length_take, List.length_map]; exact sz _ (by show min i _ + 1 ≤ _; omega)
    · have sc := sa.trans sb
      have sd := sc.trans (L2.Same.up (o := .lst ((qs.map V.ref).take i ++ [V.ref z])) n3)
      refine ⟨_, rfl, _, rfl, _, _, rfl, rfl, _, rfl, p, _, rfl, SqL.of (sd _ _ hqs), fun p4 n4 => ?_⟩
      have e1 : ((i : Int) + 1) = ((i + 1 : Nat) : Int) := by simp
      rw [e1, cut_from]
      have se := L2.Same.up (o := .lst ((qs.map V.ref).drop (i + 1))) n4
      refine ⟨p3, p4, (qs.map V.ref).take i ++ [V.ref z], (qs.map V.ref).drop (i + 1), rfl, rfl, se p3 (.lst ((qs.map V.ref).take i ++ [V.ref z])) upd_same, upd_same, ?_, fun p5 n5 => ?_⟩
      · rw [List.length_append, List.length_take, List.length_drop, List.length_map]
        exact sz _ (by show min i _ + 1 + _ ≤ _; omega)
      · have sf := (sd.trans se).trans (L2.Same.up (o := .lst (((qs.map V.ref).take i ++ [V.ref z]) ++ (qs.map V.ref).drop (i + 1))) n5)
        refine q _ p5 (s1.trans sf) (L2.Same.free s1 (L2.Same.free (sd.trans se) n5)) ⟨qs.set i z, ?_, by rw [List.length_set, List.length_set]; exact hql, fun j y r e2 e3 => ?_⟩
        · rw [upd_same, List.map_set, List.set_eq_take_append_cons_drop, if_pos (by rw [List.length_map]; omega)]
          congr 2
          rw [List.append_assoc]
          rfl
        · rw [List.getElem?_set] at e2 e3
          by_cases hji : i = j
          · rw [if_pos hji, if_pos (by omega)] at e2
            rw [if_pos hji, if_pos (by rw [bids_len, v.five]; omega)] at e3
            obtain rfl : z = y := Option.some.inj e2
            obtain rfl : row = r := Option.some.inj e3
            exact sf _ _ (s1 _ _ hz)
          · rw [if_neg hji] at e2 e3
            exact sf _ _ (hrow j y r e2 e3)
end
end SL
end
/-! ## Wd1 -/
section
namespace SL
open PySem PySem.Spec PyProof.Rows L2
def utilOf (l : Option Nat) (m : Int) (vals : List Int) : Int := match l with
  | none => 0
  | some j => vals.getD j (-1) - m
section
variable {P : Program} {w : World} {K : PySem.W.Frag} {mg : Str → Option Value} {base : Heap}
/-! ### counted -/
abbrev sCounted : Stmt := top 47
theorem scCounted : FnScope ["row"] ["row"] (defScope sCounted) := ⟨rfl, rfl, rfl, by decide +kernel, rfl, by decide +kernel, by decide +kernel⟩
def spCounted : Sp := fun vs H Q _ => ∃ (a : Addr) (xs : List V), vs = [.ref a] ∧ H a = some (.lst xs) ∧ xs.length ≤ 100000 ∧ ∀ H' p, Same H H' → H p = none → H' p = some (.lst (.int (xs.length : Nat) :: xs)) → Q (.ref p) H'
theorem ok_counted {f fd} (T : Tx mg) (D : Def K mg "counted" "counted" sCounted ["row"] f fd) : Ok P w K mg base CX0 1 "counted" ["row"] spCounted := by
  refine D.ok (D.fn.ok scCounted (fun vs H Q E h => ?_) (fun cdv A outer s H vs Q E hr h => ⟨_,
      pss_one (ps_ret (pe_op op_cat (pe_lst (pa_cons (pe_callB call_len_seq (by rfl) T.len PySem.boot_len (pa_cons (pv 0) pa_nil)) pa_nil)) (pv 0))), ?_⟩))
  · obtain ⟨_, _, rfl, _⟩ := h
    rfl
  · obtain ⟨a, xs, rfl, ha, hl, q⟩ := h
    refine ⟨_, rfl, a, _, rfl, .inl (SqL.of ha), sz 1 (by decide), fun p1 n1 => ⟨_, rfl, p1, a, _, _, rfl, rfl, upd_same, (L2.Same.up n1) _ _ ha, sz _ (by show 1 + _ ≤ _; omega), fun p2 n2 => ?_⟩⟩
    have s1 := L2.Same.up (H := H) (o := .lst [.int (xs.length : Nat)]) n1
    exact q _ p2 (s1.trans (L2.Same.up n2)) (L2.Same.free s1 n2) upd_same
/-! ### result_of -/
abbrev sResult : Stmt := top 48
theorem scResult : FnScope ["bids", "reserves", "bidder", "lot"] ["bids", "reserves", "bidder"] (defScope sResult) := ⟨rfl, rfl, rfl, by decide +kernel, rfl, by decide +kernel, by decide +kernel⟩
def spResult : Sp := fun vs H Q _ => ∃ (a c : Addr) (b : List (List Int)) (r : List Int) (i : Nat), vs = [.ref a, .ref c, .int i] ∧ BidsL H a c b r ∧ i < b.length ∧
  ∀ H' p, Same H H' → H p = none → H' p = some (.lst [lotV ((alloc r b 0).getD i none), .int (pay b r ((alloc r b 0).getD i none))]) → Q (.ref p) H'
theorem ok_result {f fd} (D : Def K mg "result_of" "result_of" sResult ["bids", "reserves", "bidder"] f fd) (Ga : Ok P w K mg base CX0 5 "best_allocation" ["bids", "reserves"] (spAlloc K))
    (Gp : Ok P w K mg base CX0 7 "payment" ["bids", "reserves", "lot"] spPay) : Ok P w K mg base CX0 8 "result_of" ["bids", "reserves", "bidder"] spResult := by
  obtain ⟨f1, fd1, g1, k1, b1, F1⟩ := Ga
  obtain ⟨f2, fd2, g2, k2, b2, F2⟩ := Gp
  refine D.ok (D.fn.ok scResult (fun vs H Q E h => ?_) (fun cdv A outer s H vs Q E hr h => ⟨_,
      pss_cons (ps_set (i := 3) scResult.nd rfl (Or.inl rfl) (pe_ix ix_list (pe_call F1 (hr.mono (by decide)) rfl g1 k1 b1 .nil pass0 (pa_cons (pv 0) (pa_cons (pv 1) pa_nil))) (pv 2) (fun _ _ => rfl)))
      (pss_one (ps_ret (pe_lst (pa_cons (pv 3) (pa_cons (pe_call F2 hr rfl g2 k2 b2 .nil pass0 (pa_cons (pv 0) (pa_cons (pv 1) (pa_cons (pv 3) pa_nil)))) pa_nil))))), ?_⟩))
  · obtain ⟨_, _, _, _, _, rfl, _⟩ := h
    rfl
  · obtain ⟨a, c, b, r, i, rfl, B, hi, q⟩ := h
    refine ⟨_, rfl, _, rfl, a, c, b, r, rfl, B.weak, fun H1 p1 s1 n1 h1 => ⟨_, rfl, p1, _, _, _, rfl, rfl, SqL.of h1, at_of (v := lotV ((alloc r b 0).getD i none)) rfl ?_, ?_⟩⟩
    · rw [List.getElem?_map, get_some (by rw [alloc_len]; exact hi) none]; rfl
    · refine ⟨_, rfl, _, rfl, _, rfl, _, rfl, a, c, b, r, _, rfl, B.keep s1, fun j hj => alloc_get_lt hj, fun H2 s2 => ⟨sz 2 (by decide), fun p2 n2 => ?_⟩⟩
      exact q _ p2 ((s1.trans s2).trans (L2.Same.up n2)) (L2.Same.free (s1.trans s2) n2) upd_same
/-! ### utility_of -/
abbrev sUtilOf : Stmt := top 49
theorem scUtilOf : FnScope ["result", "values"] ["result", "values"] (defScope sUtilOf) := ⟨rfl, rfl, rfl, by decide +kernel, rfl, by decide +kernel, by decide +kernel⟩
def spUtilOf : Sp := fun vs H Q _ => ∃ (a e : Addr) (l : Option Nat) (m : Int) (vals : List Int), vs = [.ref a, .ref e] ∧ H a = some (.lst [lotV l, .int m]) ∧ IntsL H e vals ∧ (∀ j, l = some j → j < vals.length) ∧ Q (.int (utilOf l m vals)) H
theorem ok_utilOf {f fd} (T : Tx mg) (D : Def K mg "utility_of" "utility_of" sUtilOf ["result", "values"] f fd) : Ok P w K mg base CX0 1 "utility_of" ["result", "values"] spUtilOf := by
  obtain ⟨tn, hn⟩ := T.none
  refine D.ok (D.fn.ok scUtilOf (fun vs H Q E h => ?_) (fun cdv A outer s H vs Q E hr h => ⟨_,
      pss_one (ps_ret (pe_ifExp (pt_cmpR op_eq (pe_ix ix_list (pv 0) pe_int (fun _ _ => rfl)) (pe_glob rfl hn (relI _ _)) (nomark _)) pe_int
        (pe_op op_sub (pe_ix ix_list (pv 1) (pe_ix ix_list (pv 0) pe_int (fun _ _ => rfl)) (fun _ _ => rfl)) (pe_ix ix_list (pv 0) pe_int (fun _ _ => rfl))))), ?_⟩))
  · obtain ⟨_, _, _, _, _, rfl, _⟩ := h
    rfl
  · obtain ⟨a, e, l, m, vals, rfl, ha, he, hj, q⟩ := h
    refine ⟨_, rfl, a, _, 0, _, rfl, rfl, SqL.of ha, at_of (j := 0) rfl rfl, lot_scal l, _, rfl, ?_⟩
    cases l with
    | none =>
      rw [lot_eq]
      exact iteT q
    | some j =>
      rw [lot_ne]
      exact iteF ⟨_, rfl, _, rfl, a, _, 0, _, rfl, rfl, SqL.of ha, at_of (j := 0) rfl rfl, e, _, _, _, rfl, rfl, SqL.of he, at_int (j := j) rfl (hj j rfl) (-1), _, rfl, a, _, 1, _, rfl, rfl, SqL.of ha, at_of (j := 1) rfl rfl, _, _, rfl, rfl, q⟩
end
/-! ### the desk in the heap -/
def dF (v : V) : List (Str × V) := [("auction", v)]
theorem dF_auc {v : V} : (dF v).lookup ("auction" : Str) = some v := lk0
theorem dF_put {v u : V} : putF "auction" u (dF v) = dF u := pf0
theorem dF_no {v : V} {m : Str} (h : (m == ("auction" : Str)) = false) : (dF v).lookup m = none := (lk1 h).trans rfl
def DeskAt (CD CA : Addr) (H : Hp) (d : Addr) (s : Vbndax.State) : Prop := match s with
  | none => ∃ dx, H d = some (.ins CD dx (dF .non))
  | some x => ∃ dx a, H d = some (.ins CD dx (dF (.ref a))) ∧ AucAt CA H a x ∧ Valid x
theorem DeskAt.keep {CD CA : Addr} {H H' : Hp} {d : Addr} : ∀ {s : Vbndax.State}, DeskAt CD CA H d s → Same H H' → DeskAt CD CA H' d s
  | none, ⟨dx, h⟩, k => ⟨dx, k _ _ h⟩
  | some x, ⟨dx, a, h, A, v⟩, k => ⟨dx, a, k _ _ h, A.keep k, v⟩
theorem DeskAt.ins {CD CA : Addr} {H : Hp} {d : Addr} : ∀ {s : Vbndax.State}, DeskAt CD CA H d s → ∃ dx v, H d = some (.ins CD dx (dF v))
  | none, ⟨dx, h⟩ => ⟨dx, _, h⟩
  | some x, ⟨dx, a, h, _, _⟩ => ⟨dx, _, h⟩
/-- facts of the class Desk -/
structure Td (K : PySem.W.Frag) (mg : Str → Option Value) (CD fD : Addr) : Prop where
  g : mg "Desk" = some (.ref CD)
  cl : Cls K CD
  mks : Mk K CD fD
  auc : NoAttr K CD "auction"
section
variable {P : Program} {w : World} {K : PySem.W.Frag} {mg : Str → Option Value} {base : Heap} {CA fA CD fD CR fR : Addr}
/-! ### Desk.__init__ -/
abbrev sDinit : Stmt := inClass (top 50) 0
theorem scDinit : FnScope ["self"] ["self"] (defScope sDinit) := ⟨rfl, rfl, rfl, by decide +kernel, rfl, by decide +kernel, by decide +kernel⟩
def spDinit (CD : Addr) : Sp := fun vs H Q _ => ∃ (d dx : Addr), vs = [.ref d] ∧ H d = some (.ins CD dx []) ∧ Q .non (upd H d (.ins CD dx (dF .non)))
theorem ok_dinit {f fd} (A : Td K mg CD fD) (F : Fun K "__init__" "Desk.__init__" sDinit f fd) : FnOk P w K mg base CX0 1 f fd ["self"] (spDinit CD) := by
  refine F.ok scDinit (fun vs H Q E h => ?_) (fun cdv A0 outer s H vs Q E hr h => ⟨_, pss_one (ps_fld (pv 0) pe_non rfl), ?_⟩)
  · obtain ⟨_, _, rfl, _⟩ := h
    rfl
  · obtain ⟨d, dx, rfl, hd, q⟩ := h
    exact ⟨_, rfl, d, CD, dx, _, rfl, hd, A.cl, A.auc, (by show 0 < 1000; decide), q⟩
/-! ### Desk.open_auction -/
abbrev sOpen : Stmt := inClass (top 50) 1
theorem scOpen : FnScope ["self"] ["self"] (defScope sOpen) := ⟨rfl, rfl, rfl, by decide +kernel, rfl, by decide +kernel, by decide +kernel⟩
def spOpen (CD CA CR : Addr) : Sp := fun vs H Q E => ∃ (d : Addr) (s : Vbndax.State), vs = [.ref d] ∧ DeskAt CD CA H d s ∧ (s = none → Refuses CR (-2) H E) ∧
  (∀ x a, s = some x → AucAt CA H a x → Valid x → (∃ dx, H d = some (.ins CD dx (dF (.ref a)))) → Q (.ref a) H)
theorem ok_open {f fd} (T : Tx mg) (A : Td K mg CD fD) (D : DefM K CD "open_auction" "Desk.open_auction" sOpen ["self"] f fd) (G : Ok P w K mg base (L2.CX P w) 3 "want" ["truth", "code"] (spWant CR)) :
    OkM P w K mg base (L2.CX P w) 4 CD "open_auction" ["self"] (spOpen CD CA CR) := by
  obtain ⟨f1, fd1, g1, k1, b1, F1⟩ := G
  obtain ⟨t1, hn1⟩ := T.noAuc
  refine D.ok (D.fn.okX scOpen (fun vs H Q E h => ?_) (fun cdv A0 outer s H vs Q E hr h => ⟨_,
      pss_cons (ps_expr (pe_call F1 hr rfl g1 k1 b1 .nil (passes_call (takes_of rfl rfl rfl rfl) fun _ _ _ _ h => h) (pa_cons (pe_cmp (pc_notN (pe_fld (pv 0) rfl))) (pa_cons (pe_glob rfl hn1 (relI _ _)) pa_nil))))
      (pss_one (ps_ret (pe_fld (pv 0) rfl))), ?_⟩))
  · obtain ⟨_, _, rfl, _⟩ := h
    rfl
  · obtain ⟨d, s, rfl, hd, q1, q2⟩ := h
    cases s with
    | none =>
      obtain ⟨dx, hd⟩ := hd
      exact ⟨_, rfl, d, CD, dx, _, _, rfl, hd, A.cl, A.auc, dF_auc, false, -2, rfl, fun z => Bool.noConfusion z, fun _ => q1 rfl⟩
    | some x =>
      obtain ⟨dx, a, hd, U, v⟩ := hd
      exact ⟨_, rfl, d, CD, dx, _, _, rfl, hd, A.cl, A.auc, dF_auc, true, -2, rfl, fun _ => ⟨_, rfl, d, CD, dx, _, _, rfl, hd, A.cl, A.auc, dF_auc, q2 x a rfl U v ⟨dx, hd⟩⟩, fun z => Bool.noConfusion z⟩
/-! ### Desk.closed_auction -/
abbrev sClosed : Stmt := inClass (top 50) 2
theorem scClosed : FnScope ["self", "found"] ["self"] (defScope sClosed) := ⟨rfl, rfl, rfl, by decide +kernel, rfl, by decide +kernel, by decide +kernel⟩
def spClosed (CD CA CR : Addr) : Sp := fun vs H Q E => ∃ (d : Addr) (s : Vbndax.State), vs = [.ref d] ∧ DeskAt CD CA H d s ∧ (s = none → Refuses CR (-2) H E) ∧ (∀ x, s = some x → x.isClosed = false → Refuses CR (-5) H E) ∧
  (∀ x a, s = some x → x.isClosed = true → AucAt CA H a x → Valid x → Q (.ref a) H)
theorem ok_closed {f fd} (T : Tx mg) (A : Td K mg CD fD) (U0 : Ta K mg CA fA) (D : DefM K CD "closed_auction" "Desk.closed_auction" sClosed ["self"] f fd) (G : Ok P w K mg base (L2.CX P w) 3 "want" ["truth", "code"] (spWant CR))
    (Go : OkM P w K mg base (L2.CX P w) 4 CD "open_auction" ["self"] (spOpen CD CA CR)) : OkM P w K mg base (L2.CX P w) 5 CD "closed_auction" ["self"] (spClosed CD CA CR) := by
  obtain ⟨f1, fd1, g1, k1, b1, F1⟩ := G
  obtain ⟨f2, fd2, m2, b2, F2⟩ := Go
  obtain ⟨t1, hn1⟩ := T.notCl
  refine D.ok (D.fn.okX scClosed (fun vs H Q E h => ?_) (fun cdv A0 outer s H vs Q E hr h => ⟨_,
      pss_cons (ps_set (i := 1) scClosed.nd rfl (Or.inl rfl) (pe_meth0 (pv 0) A.cl m2 F2 hr b2 .nil (passes_call (takes_of rfl rfl rfl rfl) fun _ _ _ _ h => h)))
      (pss_cons (ps_expr (pe_call F1 (hr.mono (by decide)) rfl g1 k1 b1 .nil (passes_call (takes_of rfl rfl rfl rfl) fun _ _ _ _ h => h) (pa_cons (pe_fld (pv 1) rfl) (pa_cons (pe_glob rfl hn1 (relI _ _)) pa_nil))))
      (pss_one (ps_ret (pv 1)))), ?_⟩))
  · obtain ⟨_, _, rfl, _⟩ := h
    rfl
  · obtain ⟨d, s, rfl, hd, q1, q2, q3⟩ := h
    obtain ⟨dx, v, hi⟩ := hd.ins
    refine ⟨_, rfl, d, dx, _, rfl, hi, dF_no (by decide +kernel), d, s, rfl, hd, q1, fun x a hx U v _ => ?_⟩
    obtain ⟨ax, rp, sp, qs, U1⟩ := id U
    refine ⟨_, rfl, a, CA, ax, _, _, rfl, U1.obj, U0.cl, U0.isc, aF_cl, x.isClosed, -5, rfl, fun c => ⟨_, rfl, q3 x a hx c U v⟩, fun c => q2 x hx c⟩
/-! ### Desk.closed_for -/
abbrev sFor : Stmt := inClass (top 50) 3
theorem scFor : FnScope ["self", "row", "found"] ["self", "row"] (defScope sFor) := ⟨rfl, rfl, rfl, by decide +kernel, rfl, by decide +kernel, by decide +kernel⟩
def spFor (K : PySem.W.Frag) (CD CA CR : Addr) : Sp := fun vs H Q E => ∃ (d e : Addr) (s : Vbndax.State) (row : List Int), vs = [.ref d, .ref e] ∧ DeskAt CD CA H d s ∧ IntsAt K H e row ∧ (s = none → Refuses CR (-2) H E) ∧ (∀ x, s = some x → x.isClosed = false → Refuses CR (-5) H E) ∧
  (∀ x, s = some x → x.isClosed = true → row.length ≠ x.reserves.length → Refuses CR (-7) H E) ∧ (∀ x a, s = some x → x.isClosed = true → row.length = x.reserves.length → AucAt CA H a x → Valid x → Q (.ref a) H)
theorem ok_for {f fd} (T : Tx mg) (A : Td K mg CD fD) (U0 : Ta K mg CA fA) (D : DefM K CD "closed_for" "Desk.closed_for" sFor ["self", "row"] f fd) (G : Ok P w K mg base (L2.CX P w) 3 "want" ["truth", "code"] (spWant CR))
    (Go : OkM P w K mg base (L2.CX P w) 5 CD "closed_auction" ["self"] (spClosed CD CA CR)) : OkM P w K mg base (L2.CX P w) 6 CD "closed_for" ["self", "row"] (spFor K CD CA CR) := by
  obtain ⟨f1, fd1, g1, k1, b1, F1⟩ := G
  obtain ⟨f2, fd2, m2, b2, F2⟩ := Go
  obtain ⟨t1, hn1⟩ := T.wrongL
  refine D.ok (D.fn.okX scFor (fun vs H Q E h => ?_) (fun cdv A0 outer s H vs Q E hr h => ⟨_,
      pss_cons (ps_set (i := 2) scFor.nd rfl (Or.inl rfl) (pe_meth0 (pv 0) A.cl m2 F2 hr b2 .nil (passes_call (takes_of rfl rfl rfl rfl) fun _ _ _ _ h => h)))
      (pss_cons (ps_expr (pe_call F1 (hr.mono (by decide)) rfl g1 k1 b1 .nil (passes_call (takes_of rfl rfl rfl rfl) fun _ _ _ _ h => h) (pa_cons
          (pe_cmpR op_eq (pe_callB call_len_seq (by rfl) T.len PySem.boot_len (pa_cons (pv 1) pa_nil)) (pe_callB call_len_seq (by rfl) T.len PySem.boot_len (pa_cons (pe_fld (pv 2) rfl) pa_nil)) (nomark _)) (pa_cons (pe_glob rfl hn1 (relI _ _)) pa_nil))))
      (pss_one (ps_ret (pv 2)))), ?_⟩))
  · obtain ⟨_, _, _, _, rfl, _⟩ := h
    rfl
  · obtain ⟨d, e, s, row, rfl, hd, he, q1, q2, q3, q4⟩ := h
    obtain ⟨dx, v, hi⟩ := hd.ins
    refine ⟨_, rfl, d, dx, _, rfl, hi, dF_no (by decide +kernel), d, s, rfl, hd, q1, q2, fun x a hx c U v => ?_⟩
    obtain ⟨ax, rp, sp, qs, U1⟩ := id U
    refine ⟨_, rfl, e, _, rfl, .inl he, _, rfl, a, CA, ax, _, _, rfl, U1.obj, U0.cl, U0.res, aF_res, rp, _, rfl, .inl (SqL.of U1.res), rfl, _, -7, rfl, fun z => ⟨_, rfl, q4 x a hx c ?_ U v⟩, fun z => q3 x hx c ?_⟩
    · rw [dec_int, List.length_map, List.length_map, toInts_len] at z
      have z := eq_of_beq z
      omega
    · rw [dec_int, List.length_map, List.length_map, toInts_len] at z
      have z : ¬ ((row.length : Int) = (x.reserves.length : Int)) := by simpa using z
      omega
end
end SL
end
/-! ## Wd2 -/
section
namespace SL
open PySem PySem.Spec PyProof.Rows L2
/-! ### what an operation does, by the specification's step -/
/-- every list of ints, and whatever is locked, stands as it was -/
structure Frame (H H' : Hp) : Prop where
  nums : ∀ (b : Addr) (ns : List Int), IntsL H b ns → IntsL H' b ns
  locked : ∀ (b : Addr) (o : Obj) (u : HO), H b = some (.frz o u) → H' b = some (.frz o u)
theorem Frame.of {H H' : Hp} (s : Same H H') : Frame H H' := ⟨fun _ _ h => s _ _ h, fun _ _ _ h => s _ _ h⟩
theorem Frame.trans {H H1 H2 : Hp} (a : Frame H H1) (b : Frame H1 H2) : Frame H H2 := ⟨fun c ns h => b.nums c ns (a.nums c ns h), fun c o u h => b.locked c o u (a.locked c o u h)⟩
/-- but one address, which held neither -/
theorem Frame.but {H H' : Hp} {p : Addr} (k : ∀ b o, H b = some o → b ≠ p → H' b = some o) (n1 : ∀ b ns, IntsL H b ns → b ≠ p) (n2 : ∀ (b : Addr) (o : Obj) (u : HO), H b = some (.frz o u) → b ≠ p) : Frame H H' :=
  ⟨fun b ns h => k b _ h (n1 b ns h), fun b o u h => k b _ h (n2 b o u h)⟩
theorem Frame.seq {K : PySem.W.Frag} {H H' : Hp} {a : Addr} {ns : List Int} (f : Frame H H') (h : IntsAt K H a ns) : IntsAt K H' a ns := by
  rcases h with (h | ⟨o, h⟩) | h
  · exact .inl (.inl (f.nums _ _ h))
  · exact .inl (.inr ⟨o, f.locked _ _ _ h⟩)
  · exact .inr h
/-- none of the desk's lists stands at F -/
def Sep (CD CA F : Addr) (H : Hp) (d : Addr) : Prop := ∀ (dx a ax rp sp : Addr) (cl : Bool) (qs : List V), H d = some (.ins CD dx (dF (.ref a))) → H a = some (.ins CA ax (aF rp sp cl)) → H sp = some (.lst qs) → rp ≠ F ∧ V.ref F ∉ qs
theorem aF_inj {rp sp rp' sp' : Addr} {cl cl' : Bool} (h : aF rp sp cl = aF rp' sp' cl') : rp = rp' ∧ sp = sp' := by
  unfold aF at h
  injection h with h1 h2
  injection h2 with h3 h4
  injection h1 with _ h5
  injection h3 with _ h6
  exact ⟨V.ref.inj h5, V.ref.inj h6⟩
theorem dF_inj {v u : V} (h : dF v = dF u) : v = u := by
  unfold dF at h
  injection h with h1 _
  injection h1
/-- the desk's lists told: F is none of them -/
theorem Sep.of {CD CA F : Addr} {H : Hp} {d dx a ax rp sp : Addr} {cl : Bool} {qs : List V} (h1 : H d = some (.ins CD dx (dF (.ref a)))) (h2 : H a = some (.ins CA ax (aF rp sp cl))) (h3 : H sp = some (.lst qs)) (n1 : rp ≠ F) (n2 : V.ref F ∉ qs) : Sep CD CA F H d := by
  intro dx' a' ax' rp' sp' cl' qs' e1 e2 e3
  rw [h1] at e1
  injection e1 with e1
  injection e1 with _ _ e1
  obtain rfl := V.ref.inj (dF_inj e1)
  rw [h2] at e2
  injection e2 with e2
  injection e2 with _ _ e2
  obtain ⟨rfl, rfl⟩ := aF_inj e2
  rw [h3] at e3
  injection e3 with e3
  injection e3 with e3
  subst e3
  exact ⟨n1, n2⟩
theorem Sep.keep {CD CA F : Addr} {H H' : Hp} {d : Addr} : ∀ {s : Vbndax.State}, DeskAt CD CA H d s → Same H H' → Sep CD CA F H d → Sep CD CA F H' d
  | none, ⟨dx, h⟩, k, _ => by
    intro dx' a' ax' rp' sp' cl' qs' e1
    rw [k _ _ h] at e1
    injection e1 with e1
    injection e1 with _ _ e1
    cases dF_inj e1
  | some x, ⟨dx, a, h, ⟨ax, rp, sp, qs, U⟩, _⟩, k, hs => by
    obtain ⟨n1, n2⟩ := hs dx a ax rp sp _ qs h U.obj U.lst
    exact Sep.of (k _ _ h) (k _ _ U.obj) (k _ _ U.lst) n1 n2
/-- what an operation on the desk at d must do (a list at e was handed to it, if any), the auction being s: the answer behind the 0, or the error -/
def Did (CD CA CR e : Addr) (d : Addr) (s : Vbndax.State) (c : Vbndax.Call) (H : Hp) (Q : VK) (E : XK) : Prop :=
  (∀ ns, (Vbndax.step s c).2 = 0 :: ns → ns.length ≤ 1000 → ∀ H' p, Frame H H' → DeskAt CD CA H' d (Vbndax.step s c).1 → (∀ (F : Addr) (fs : List Int), IntsL H F fs → F ≠ e → Sep CD CA F H d → Sep CD CA F H' d) → IntsL H' p ns → Q (.ref p) H') ∧
  ∀ n, n < 0 → (Vbndax.step s c).2 = [n] → (Vbndax.step s c).1 = s → Refuses CR n H E
theorem Did.no {CD CA CR e d : Addr} {s : Vbndax.State} {c : Vbndax.Call} {H : Hp} {Q : VK} {E : XK} (D : Did CD CA CR e d s c H Q E) {n : Int} (h : Vbndax.step s c = (s, [n])) (hn : n < 0) : Refuses CR n H E := D.2 n hn (by rw [h]) (by rw [h])
theorem Did.yes {CD CA CR e d : Addr} {s s' : Vbndax.State} {c : Vbndax.Call} {H : Hp} {Q : VK} {E : XK} (D : Did CD CA CR e d s c H Q E) {ns : List Int} (h : Vbndax.step s c = (s', 0 :: ns)) (hl : ns.length ≤ 1000) {H' : Hp} {p : Addr} (f : Frame H H') (hd : DeskAt CD CA H' d s')
    (hs : ∀ (F : Addr) (fs : List Int), IntsL H F fs → F ≠ e → Sep CD CA F H d → Sep CD CA F H' d) (hp : IntsL H' p ns) : Q (.ref p) H' := D.1 ns (by rw [h]) hl H' p f (by rw [h]; exact hd) hs hp
/-- an operation that changes nothing -/
theorem Did.same {CD CA CR e d : Addr} {s : Vbndax.State} {c : Vbndax.Call} {H : Hp} {Q : VK} {E : XK} (D : Did CD CA CR e d s c H Q E) {ns : List Int} (h : Vbndax.step s c = (s, 0 :: ns)) (hl : ns.length ≤ 1000) {H' : Hp} {p : Addr} (k : Same H H') (hd : DeskAt CD CA H d s) (hp : IntsL H' p ns) : Q (.ref p) H' :=
  D.yes h hl (Frame.of k) (hd.keep k) (fun _ _ _ _ z => Sep.keep hd k z) hp
/-! ### the specification's step, case by case -/
section
variable {s : Vbndax.State} {x : Vbndax.Auction} {c : Vbndax.Call} {l : List Int}
theorem step_bad (h : Vbndax.hasValidArguments c = false) : Vbndax.step s c = (s, [-1]) := if_pos h
theorem step_ok (h : Vbndax.hasValidArguments c = true) : Vbndax.step s c = Vbndax.execute s c := if_neg (by rw [h]; decide)
theorem open_open {f : Vbndax.Auction → Vbndax.Bids → Vbndax.State × Vbndax.Result} (h : x.isClosed = false) : Vbndax.withOpenedBids (some x) f = (some x, [-5]) := if_pos h
theorem open_done {f : Vbndax.Auction → Vbndax.Bids → Vbndax.State × Vbndax.Result} (h : x.isClosed = true) : Vbndax.withOpenedBids (some x) f = f x (Vbndax.bidsOf x) := if_neg (by rw [h]; decide)
theorem row_bad {f : Unit → Vbndax.State × Vbndax.Result} (h : l.length ≠ x.reserves.length) : Vbndax.withRowLength s x l f = (s, [-7]) := if_pos h
theorem row_ok {f : Unit → Vbndax.State × Vbndax.Result} (h : l.length = x.reserves.length) : Vbndax.withRowLength s x l f = f () := if_neg (fun z => z h)
open Vbndax in
theorem ex_get (s : State) : execute s .getResult = withOpenedBids s fun x b => (s, 0 :: (List.range bidderCount).flatMap fun i => [lotNumber (lotOfBidder (bestAllocation x.reserves b).2 i), payment x b i]) := rfl
open Vbndax in
theorem ex_min (s : State) : execute s .minimumPrices = withOpenedBids s fun x b => (s, 0 :: withLength (minimumPrices x.reserves b)) := rfl
open Vbndax in
theorem ex_max (s : State) : execute s .maximumPrices = withOpenedBids s fun x b => (s, 0 :: withLength (maximumPrices x.reserves b)) := rfl
open Vbndax in
theorem ex_total (s : State) : execute s .totalValue = withOpenedBids s fun x b => (s, [0, Vbndax.totalValue x.reserves b]) := rfl
open Vbndax in
theorem ex_check (s : State) (p : List Int) : execute s (.checkPrices p) = withOpenedBids s fun x b => withRowLength s x p fun _ => (s, match priceViolation x.reserves b (bestAllocation x.reserves b).2 p with
    | none => [0, 1]
    | some w => toInts [0, 0, w.1, w.2]) := rfl
open Vbndax in
theorem ex_demand (s : State) (i : Int) (p : List Int) : execute s (.demandSet i p) = withOpenedBids s fun x b => withRowLength s x p fun _ => (s, 0 :: withLength ((Vbndax.demandSet b p x.reserves.length i.toNat).map lotNumber)) := rfl
open Vbndax in
theorem ex_over (s : State) (p : List Int) : execute s (.overdemandedSet p) = withOpenedBids s fun x b => withRowLength s x p fun _ => (s, match firstOverdemanded b p x.reserves.length with
    | none => [0, 0]
    | some k => toInts [0, 1, k]) := rfl
open Vbndax in
theorem ex_clock (s : State) : execute s .runClock = withOpenedBids s fun x b => (s, 0 :: (withLength (toInts (Vbndax.runClock x.reserves b).1) ++ withLength (Vbndax.runClock x.reserves b).2)) := rfl
open Vbndax in
theorem ex_hyp (s : State) (i : Int) (v : List Int) : execute s (.hypotheticalResult i v) = withOpenedBids s fun x b => withRowLength s x v fun _ => (s, [0, lotNumber (lotOfBidder (bestAllocation x.reserves (replaceBid b i.toNat v)).2 i.toNat), payment x (replaceBid b i.toNat v) i.toNat]) := rfl
open Vbndax in
theorem ex_util (s : State) (i : Int) (v : List Int) : execute s (.utility i v) = withOpenedBids s fun x b => withRowLength s x v fun _ => (s, [0, utilityOfResult x b i.toNat (v.map Int.toNat)]) := rfl
open Vbndax in
theorem ex_truth (s : State) (i : Int) (v : List Int) : execute s (.truthfulUtility i v) = withOpenedBids s fun x b => withRowLength s x v fun _ => (s, [0, utilityOfResult x (replaceBid b i.toNat v) i.toNat (v.map Int.toNat)]) := rfl
open Vbndax in
theorem ex_without (s : State) (i : Int) : execute s (.totalWithout i) = withOpenedBids s fun x b => (s, [0, Vbndax.totalValue x.reserves (b.eraseIdx i.toNat)]) := rfl
open Vbndax in
theorem ex_bids (s : State) : execute s .listBids = withOpenedBids s fun x b => (s, 0 :: b.flatMap fun l => l.take x.reserves.length) := rfl
theorem range_is (z : Int) (m : Nat) : Vbndax.inRange z 0 m = decide (0 ≤ z ∧ z ≤ (m : Int)) := by
  unfold Vbndax.inRange
  rw [Bool.eq_iff_iff, Bool.and_eq_true, decide_eq_true_iff, decide_eq_true_iff, decide_eq_true_iff]
  exact Iff.rfl
theorem list_is (row : List Int) (m : Nat) : listOk row 0 4 (m : Int) = (decide (row.length ≤ 4) && row.all fun z => Vbndax.inRange z 0 m) := by
  unfold listOk
  have e1 : decide ((0 : Int) ≤ (row.length : Int) ∧ (row.length : Int) ≤ 4) = decide (row.length ≤ 4) := by
    rw [Bool.eq_iff_iff, decide_eq_true_iff, decide_eq_true_iff]
    omega
  have e2 : (fun z : Int => Vbndax.inRange z 0 m) = fun z => decide (0 ≤ z ∧ z ≤ (m : Int)) := by
    funext z
    exact range_is z m
  rw [e1, e2]
theorem list_bids (row : List Int) : listOk row 0 4 60 = Vbndax.areBids row := list_is row 60
theorem list_prices (row : List Int) : listOk row 0 4 1000 = Vbndax.arePrices row := list_is row 1000
theorem list_res (row : List Int) : listOk row 1 4 60 = (decide (1 ≤ row.length) && Vbndax.areBids row) := by
  rw [← list_bids]
  unfold listOk
  rw [← Bool.and_assoc]
  congr 1
  rw [Bool.eq_iff_iff, Bool.and_eq_true, decide_eq_true_iff, decide_eq_true_iff, decide_eq_true_iff]
  omega
theorem bidder_is (i : Int) : Vbndax.isBidder i = decide (0 ≤ i ∧ i ≤ 4) := range_is i 4
theorem bids_facts {row : List Int} (h : Vbndax.areBids row = true) : row.length ≤ 4 ∧ ∀ z ∈ row, 0 ≤ z ∧ z ≤ 60 := by
  unfold Vbndax.areBids at h
  rw [Bool.and_eq_true, decide_eq_true_iff, List.all_eq_true] at h
  refine ⟨h.1, fun z hz => ?_⟩
  have := h.2 z hz
  rw [range_is] at this
  exact of_decide_eq_true this
theorem nat_back {row : List Int} (h : ∀ z ∈ row, 0 ≤ z) : Vbndax.toInts (row.map Int.toNat) = row := by
  unfold Vbndax.toInts
  rw [List.map_map]
  conv => rhs; rw [← List.map_id row]
  refine List.map_congr_left fun z hz => ?_
  show ((z.toNat : Nat) : Int) = z
  have := h z hz
  omega
end
theorem ints_ne_ins {H : Hp} {b d C dx : Addr} {ns : List Int} {fs : List (Str × V)} (h : IntsL H b ns) (hd : H d = some (.ins C dx fs)) : b ≠ d := ne_of h hd (by intro z; cases z)
section
variable {P : Program} {w : World} {K : PySem.W.Frag} {mg : Str → Option Value} {base : Heap} {CA fA CD fD CR fR : Addr}
/-! ### Desk.new_auction -/
abbrev sNew : Stmt := inClass (top 50) 4
theorem scNew : FnScope ["self", "reserves"] ["self", "reserves"] (defScope sNew) := ⟨rfl, rfl, rfl, by decide +kernel, rfl, by decide +kernel, by decide +kernel⟩
def spNew (CD CA CR : Addr) : Sp := fun vs H Q E => ∃ (d e : Addr) (s : Vbndax.State) (row : List Int), vs = [.ref d, .ref e] ∧ DeskAt CD CA H d s ∧ IntsL H e row ∧ Did CD CA CR e d s (.newAuction row) H Q E
theorem ok_new {f fd fd'} (T : Tx mg) (A : Td K mg CD fD) (U0 : Ta K mg CA fA) (D : DefM K CD "new_auction" "Desk.new_auction" sNew ["self", "reserves"] f fd) (G : Ok P w K mg base (L2.CX P w) 5 "check_list" ["row", "fewest", "most", "greatest"] (spCheck K CR))
    (FA : FnOk P w K mg base CX0 1 fA fd' ["self", "reserves"] (spAinit CA)) (bA : Binds K fd' ["self", "reserves"] []) : OkM P w K mg base (L2.CX P w) 6 CD "new_auction" ["self", "reserves"] (spNew CD CA CR) := by
  obtain ⟨f1, fd1, g1, k1, b1, F1⟩ := G
  obtain ⟨t1, hn1⟩ := T.mostL
  obtain ⟨t2, hn2⟩ := T.mostB
  refine D.ok (D.fn.okX scNew (fun vs H Q E h => ?_) (fun cdv A0 outer s H vs Q E hr h => ⟨_,
      pss_cons (ps_expr (pe_call F1 hr rfl g1 k1 b1 .nil (passes_call (takes_of rfl rfl rfl rfl) fun _ _ _ _ h => h) (pa_cons (pv 1) (pa_cons pe_int (pa_cons (pe_glob rfl hn1 (relI _ _)) (pa_cons (pe_glob rfl hn2 (relI _ _)) pa_nil))))))
      (pss_cons (ps_fld (pv 0) (pe_make U0.mks FA (hr.mono (by decide)) (by rfl) U0.g bA .nil pass0 (pa_cons (pv 1) pa_nil)) rfl)
      (pss_one (ps_ret (pe_lst pa_nil)))), ?_⟩))
  · obtain ⟨_, _, _, _, rfl, _⟩ := h
    rfl
  · obtain ⟨d, e, s, row, rfl, hd, he, R⟩ := h
    refine ⟨_, rfl, e, row, 1, 4, 60, rfl, SqL.of he, fun c => ?_, fun c => R.no (step_bad (by rw [list_res] at c; exact c)) (by decide)⟩
    rw [list_res] at c
    have hst : Vbndax.step s (.newAuction row) = (some { reserves := row.map Int.toNat, sealedBids := List.replicate Vbndax.bidderCount none, isClosed := false }, [0]) := step_ok c
    rw [Bool.and_eq_true, decide_eq_true_iff] at c
    obtain ⟨c1, c2⟩ := bids_facts c.2
    obtain ⟨dxd, v, hi⟩ := hd.ins
    refine ⟨_, rfl, fun x dx nx ndx nex => ⟨x, dx, e, rfl, upd_same, fun H1 sp kp nsp ho hl => ⟨rfl, ?_⟩⟩⟩
    have k0 : Same H H1 := fun b o hb => kp b o (by rw [upd_ne (ne_of_none hb nx), upd_ne (ne_of_none hb ndx)]; exact hb) (ne_of_none hb nx)
    have dx_ne : d ≠ x := ne_of_none hi nx
    have nsp0 : H sp = none := by
      by_cases z : sp = x
      · rw [z]; exact nx
      · rw [upd_ne z] at nsp
        by_cases z2 : sp = dx
        · rw [z2]; exact ndx
        · rw [upd_ne z2] at nsp; exact nsp
    have d_ne_sp : sp ≠ d := Ne.symm (ne_of_none hi nsp0)
    refine ⟨_, rfl, d, CD, dxd, _, rfl, k0 _ _ hi, A.cl, A.auc, (by show 1 < 1000; decide), sz 0 (by decide), fun p np => ?_⟩
    rw [dF_put] at np ⊢
    have s2 := L2.Same.up (H := upd H1 d (.ins CD dxd (dF (.ref x)))) (o := .lst []) np
    have fr : Frame H (upd H1 d (.ins CD dxd (dF (.ref x)))) := Frame.but (p := d) (fun b o hb hn => (upd_ne hn).trans (k0 _ _ hb)) (fun b ns hb => ints_ne_ins hb hi) (fun b o u hb => ne_of hb hi (by intro z; cases z))
    refine R.yes hst (by decide) (fr.trans (Frame.of s2)) ?_ (fun F fs hF hFe _ => Sep.of (s2 _ _ upd_same) (s2 _ _ ((upd_ne (Ne.symm dx_ne)).trans ho)) (s2 _ _ ((upd_ne d_ne_sp).trans hl)) (Ne.symm hFe) (fun z => by cases List.eq_of_mem_replicate z)) upd_same
    refine ⟨dxd, x, s2 _ _ upd_same, ⟨dx, e, sp, List.replicate 5 .non, ⟨s2 _ _ ((upd_ne (Ne.symm dx_ne)).trans ho), s2 _ _ ?_, s2 _ _ ((upd_ne d_ne_sp).trans hl), by simp [Vbndax.bidderCount], fun i v o e1 e2 => ?_⟩⟩, ?_⟩
    · show _ = some (HO.lst ((Vbndax.toInts (row.map Int.toNat)).map V.int))
      rw [nat_back fun z hz => (c2 z hz).1]
      exact fr.nums _ _ he
    · have e2 : (List.replicate 5 (none : Option (List Nat)))[i]? = some o := e2
      rw [List.getElem?_replicate] at e1 e2
      by_cases hi5 : i < 5
      · rw [if_pos hi5] at e1 e2
        obtain rfl : none = o := Option.some.inj e2
        exact (Option.some.inj e1).symm
      · rw [if_neg hi5] at e1; cases e1
    · refine ⟨by show 1 ≤ (row.map Int.toNat).length; rw [List.length_map]; exact c.1, by show (row.map Int.toNat).length ≤ 4; rw [List.length_map]; exact c1, by simp [Vbndax.bidderCount], fun l hl => ?_⟩
      have := List.eq_of_mem_replicate hl
      cases this
end
end SL
end
/-! ## Wd3 -/
section
namespace SL
open PySem PySem.Spec PyProof.Rows L2
theorem auct_none {f : Vbndax.Auction → Vbndax.State × Vbndax.Result} : Vbndax.withAuction none f = (none, [-2]) := rfl
theorem sub_len {CA : Addr} {H : Hp} {a : Addr} {x : Vbndax.Auction} {dx rp sp : Addr} {qs : List V} (U : Auc CA H a x dx rp sp qs) (v : Valid x) : qs.length = 5 := by rw [U.sub.1, v.five]
/-- the list of what was submitted is no list of ints -/
theorem ints_ne_sub {CA : Addr} {H : Hp} {a b : Addr} {x : Vbndax.Auction} {dx rp sp : Addr} {qs : List V} (U : Auc CA H a x dx rp sp qs) (v : Valid x) {ns : List Int} (h : IntsL H b ns) : b ≠ sp := by
  refine ne_of h U.lst fun z => ?_
  have z : ns.map V.int = qs := HO.lst.inj z
  have h5 := sub_len U v
  have e0 : qs[0]? = some qs[0] := List.getElem?_eq_getElem (by omega)
  have hb0 : 0 < x.sealedBids.length := by rw [v.five]; decide
  have e1 : x.sealedBids[0]? = some x.sealedBids[0] := List.getElem?_eq_getElem hb0
  have so := U.sub.2 0 _ _ e0 e1
  have e2 : (ns.map V.int)[0]? = some qs[0] := by rw [z]; exact e0
  obtain ⟨n, _, e3⟩ := map_get e2
  rw [e3] at so
  generalize x.sealedBids[0] = o at so
  cases o with
  | none => cases so
  | some l =>
    obtain ⟨q, e4, _⟩ := so
    cases e4
section
variable {P : Program} {w : World} {K : PySem.W.Frag} {mg : Str → Option Value} {base : Heap} {CA fA CD fD CR fR : Addr}
/-! ### Desk.submit_bid -/
abbrev sSubmit : Stmt := inClass (top 50) 5
theorem scSubmit : FnScope ["self", "bidder", "bids", "auction", "replaced"] ["self", "bidder", "bids"] (defScope sSubmit) := ⟨rfl, rfl, rfl, by decide +kernel, rfl, by decide +kernel, by decide +kernel⟩
def spSubmit (CD CA CR : Addr) : Sp := fun vs H Q E => ∃ (d e : Addr) (s : Vbndax.State) (i : Int) (row : List Int), vs = [.ref d, .int i, .ref e] ∧ DeskAt CD CA H d s ∧ IntsL H e row ∧ Did CD CA CR e d s (.submitBid i row) H Q E
theorem ok_submit {f fd} (T : Tx mg) (A : Td K mg CD fD) (U0 : Ta K mg CA fA) (D : DefM K CD "submit_bid" "Desk.submit_bid" sSubmit ["self", "bidder", "bids"] f fd) (Gb : Ok P w K mg base (L2.CX P w) 4 "check_between" ["number", "low", "high"] (spBetween CR))
    (Gc : Ok P w K mg base (L2.CX P w) 5 "check_list" ["row", "fewest", "most", "greatest"] (spCheck K CR)) (Gw : Ok P w K mg base (L2.CX P w) 3 "want" ["truth", "code"] (spWant CR))
    (Go : OkM P w K mg base (L2.CX P w) 4 CD "open_auction" ["self"] (spOpen CD CA CR)) : OkM P w K mg base (L2.CX P w) 6 CD "submit_bid" ["self", "bidder", "bids"] (spSubmit CD CA CR) := by
  obtain ⟨fb, fdb, gb, kb, bb, Fb⟩ := Gb
  obtain ⟨fc, fdc, gc, kc, bc, Fc⟩ := Gc
  obtain ⟨fw, fdw, gw, kw, bw, Fw⟩ := Gw
  obtain ⟨fo, fdo, mo, bo, Fo⟩ := Go
  obtain ⟨t1, hn1⟩ := T.mostL
  obtain ⟨t2, hn2⟩ := T.mostB
  obtain ⟨t3, hn3⟩ := T.bidders
  obtain ⟨t4, hn4⟩ := T.isCl
  obtain ⟨t5, hn5⟩ := T.wrongL
  refine D.ok (D.fn.okX scSubmit (fun vs H Q E h => ?_) (fun cdv A0 outer s H vs Q E hr h => ⟨_,
      pss_cons (ps_expr (pe_call Fb (hr.mono (by decide)) rfl gb kb bb .nil (passes_call (takes_of rfl rfl rfl rfl) fun _ _ _ _ h => h) (pa_cons (pv 1) (pa_cons pe_int (pa_cons (pe_op op_sub (pe_glob rfl hn3 (relI _ _)) pe_int) pa_nil)))))
      (pss_cons (ps_expr (pe_call Fc hr rfl gc kc bc .nil (passes_call (takes_of rfl rfl rfl rfl) fun _ _ _ _ h => h) (pa_cons (pv 2) (pa_cons pe_int (pa_cons (pe_glob rfl hn1 (relI _ _)) (pa_cons (pe_glob rfl hn2 (relI _ _)) pa_nil))))))
      (pss_cons (ps_set (i := 3) scSubmit.nd rfl (Or.inl rfl) (pe_meth0 (pv 0) A.cl mo Fo (hr.mono (by decide)) bo .nil (passes_call (takes_of rfl rfl rfl rfl) fun _ _ _ _ h => h)))
      (pss_cons (ps_expr (pe_call Fw (hr.mono (by decide)) rfl gw kw bw .nil (passes_call (takes_of rfl rfl rfl rfl) fun _ _ _ _ h => h) (pa_cons (pe_not (pe_fld (pv 3) rfl)) (pa_cons (pe_glob rfl hn4 (relI _ _)) pa_nil))))
      (pss_cons (ps_expr (pe_call Fw (hr.mono (by decide)) rfl gw kw bw .nil (passes_call (takes_of rfl rfl rfl rfl) fun _ _ _ _ h => h) (pa_cons
          (pe_cmpR op_eq (pe_callB call_len_seq (by rfl) T.len PySem.boot_len (pa_cons (pv 2) pa_nil)) (pe_callB call_len_seq (by rfl) T.len PySem.boot_len (pa_cons (pe_fld (pv 3) rfl) pa_nil)) (nomark _)) (pa_cons (pe_glob rfl hn5 (relI _ _)) pa_nil))))
      (pss_cons (ps_set (i := 4) scSubmit.nd rfl (Or.inl rfl) (pe_callTy call_int1 (by rfl) T.int (by decide +kernel) (pa_cons (pe_cmp (pc_notN (pe_ix ix_list (pe_fld (pv 3) rfl) (pv 1) (fun _ _ => rfl)))) pa_nil)))
      (pss_cons (ps_asg (pv 2) (pg_sub (pe_fld (pv 3) rfl) (pv 1) set_list))
      (pss_one (ps_ret (pe_lst (pa_cons (pv 4) pa_nil)))))))))), ?_⟩))
  · obtain ⟨_, _, _, _, _, rfl, _⟩ := h
    rfl
  · obtain ⟨d, e, s, i, row, rfl, hd, he, R⟩ := h
    refine ⟨_, rfl, _, _, rfl, rfl, i, 0, 5 - 1, rfl, fun cb => ?_, fun cb => R.no (step_bad ?_) (by decide)⟩
    · have cb' : Vbndax.isBidder i = true := by rw [bidder_is]; exact decide_eq_true cb
      refine ⟨_, rfl, e, row, 0, 4, 60, rfl, SqL.of he, fun c => ?_, fun c => R.no (step_bad ?_) (by decide)⟩
      · rw [list_bids] at c
        have hok : Vbndax.hasValidArguments (.submitBid i row) = true := by show (Vbndax.isBidder i && Vbndax.areBids row) = true; rw [cb', c]; rfl
        have hst := step_ok (s := s) hok
        obtain ⟨dxd, v0, hi⟩ := hd.ins
        obtain ⟨j, rfl⟩ : ∃ j : Nat, i = (j : Int) := ⟨i.toNat, by omega⟩
        refine ⟨_, rfl, d, dxd, _, rfl, hi, dF_no (by decide +kernel), d, s, rfl, hd, fun hs => ?_, fun x a hs U v hda => ?_⟩
        · subst hs
          exact R.no hst (by decide)
        · subst hs
          obtain ⟨ax, rp, sp, qs, U1⟩ := id U
          refine ⟨_, rfl, a, CA, ax, _, _, rfl, U1.obj, U0.cl, U0.isc, aF_cl, _, rfl, _, -6, rfl, fun c2 => ?_, fun c2 => ?_⟩
          · have c2 : x.isClosed = false := by simpa using c2
            refine ⟨_, rfl, e, _, rfl, .inl (SqL.of he), _, rfl, a, CA, ax, _, _, rfl, U1.obj, U0.cl, U0.res, aF_res, rp, _, rfl, .inl (SqL.of U1.res), rfl, _, -7, rfl, fun c3 => ?_, fun c3 => ?_⟩
            · rw [dec_int, List.length_map, List.length_map, toInts_len] at c3
              have c3 : row.length = x.reserves.length := by have c3 := eq_of_beq c3; omega
              have h5 := sub_len U1 v
              have hj : j < qs.length := by omega
              have hjb : j < x.sealedBids.length := by rw [v.five]; omega
              have e0 : qs[j]? = some qs[j] := List.getElem?_eq_getElem hj
              have e1 : x.sealedBids[j]? = some x.sealedBids[j] := List.getElem?_eq_getElem hjb
              have so := U1.sub.2 j _ _ e0 e1
              have eo : x.sealedBids.getD j none = x.sealedBids[j] := by simp [List.getD, hjb]
              generalize x.sealedBids[j] = o at e1 so eo
              generalize qs[j] = q0 at e0 so
              have hst2 : Vbndax.step (some x) (.submitBid (j : Int) row) = (some { x with sealedBids := x.sealedBids.set j (some (row.map Int.toNat)) }, [0, if o.isSome = true then 1 else 0]) := by
                rw [hst]
                show (if x.isClosed = true then _ else _) = _
                rw [if_neg (by rw [c2]; decide), row_ok c3]
                show (some { x with sealedBids := x.sealedBids.set ((j : Int)).toNat (some (row.map Int.toNat)) }, Vbndax.toInts [0, if ((x.sealedBids.getD ((j : Int)).toNat none).isSome) = true then 1 else 0]) = _
                rw [Int.toNat_natCast, eo]
                cases o <;> rfl
              refine ⟨_, rfl, a, CA, ax, _, _, rfl, U1.obj, U0.cl, U0.sub, aF_sub, _, rfl, sp, _, _, _, rfl, rfl, SqL.of U1.lst, atI_nat e0, .inr ⟨_, rfl, ?_⟩⟩
              refine ⟨_, rfl, _, rfl, a, CA, ax, _, _, rfl, U1.obj, U0.cl, U0.sub, aF_sub, _, rfl, sp, qs, _, j, rfl, rfl, U1.lst, ?_, ?_⟩
              · unfold ixN
                rw [if_pos (by omega), if_pos (by omega), Int.toNat_natCast]
              · refine ⟨_, rfl, sz 1 (by decide), fun p np => ?_⟩
                generalize hH : upd H sp (.lst (qs.set j (.ref e))) = H1 at np
                have kp : ∀ b o, H b = some o → b ≠ sp → H1 b = some o := fun b o hb hn => by rw [← hH, upd_ne hn]; exact hb
                have fr : Frame H H1 := Frame.but kp (fun b ns hb => ints_ne_sub U1 v hb) (fun b o u hb => ne_of hb U1.lst (by intro z; cases z))
                have s2 := L2.Same.up (H := H1) (o := .lst [.int (if (!decide (q0 = .non)) = true then 1 else 0)]) np
                obtain ⟨b1, b2⟩ := bids_facts c
                have a_ne : a ≠ sp := ne_of U1.obj U1.lst (by intro z; cases z)
                obtain ⟨dx2, hd2⟩ := hda
                have hd3 := s2 _ _ (kp _ _ hd2 (ne_of hd2 U1.lst (by intro z; cases z)))
                have ha3 := s2 _ _ (kp _ _ U1.obj a_ne)
                have hs3 : (upd H1 p (.lst [.int (if (!decide (q0 = .non)) = true then 1 else 0)])) sp = some (.lst (qs.set j (.ref e))) := s2 _ _ (by rw [← hH]; exact upd_same)
                refine R.yes hst2 (by show 1 ≤ 1000; decide) (fr.trans (Frame.of s2)) ?_ (fun F fs hF hFe hS => ?_) ?_
                · have _ := hd3
                  refine ⟨dx2, a, s2 _ _ (kp _ _ hd2 (ne_of hd2 U1.lst (by intro z; cases z))), ⟨ax, rp, sp, qs.set j (.ref e), ⟨s2 _ _ (kp _ _ U1.obj a_ne), s2 _ _ (fr.nums _ _ U1.res), s2 _ _ (by rw [← hH]; exact upd_same), by rw [List.length_set, List.length_set]; exact U1.sub.1, fun k y o' e2 e3 => ?_⟩⟩, ?_⟩
                  · have e3 : (x.sealedBids.set j (some (row.map Int.toNat)))[k]? = some o' := e3
                    rw [List.getElem?_set] at e2 e3
                    by_cases hk : j = k
                    · rw [if_pos hk, if_pos (by omega)] at e2
                      rw [if_pos hk, if_pos (by omega)] at e3
                      obtain rfl := Option.some.inj e2
                      obtain rfl := Option.some.inj e3
                      refine ⟨e, rfl, ?_⟩
                      show _ = _
                      rw [nat_back fun z hz => (b2 z hz).1]
                      exact s2 _ _ (fr.nums _ _ he)
                    · rw [if_neg hk] at e2 e3
                      have so' := U1.sub.2 k y o' e2 e3
                      cases o' with
                      | none => exact so'
                      | some l =>
                        obtain ⟨q, e4, h4⟩ := so'
                        exact ⟨q, e4, s2 _ _ (fr.nums _ _ h4)⟩
                  · refine ⟨v.one, v.few, by show (x.sealedBids.set j _).length = 5; rw [List.length_set]; exact v.five, fun l hl => ?_⟩
                    have hl : some l ∈ x.sealedBids.set j (some (row.map Int.toNat)) := hl
                    rcases List.mem_or_eq_of_mem_set hl with hl | hl
                    · exact v.rows l hl
                    · obtain rfl := Option.some.inj hl
                      refine ⟨by rw [List.length_map]; exact c3, fun n hn => ?_⟩
                      obtain ⟨z, hz, rfl⟩ := List.mem_map.mp hn
                      have := b2 z hz
                      omega
                · obtain ⟨w1, w2⟩ := hS _ _ _ _ _ _ _ hd2 U1.obj U1.lst
                  refine Sep.of hd3 ha3 hs3 w1 fun z => ?_
                  rcases List.mem_or_eq_of_mem_set z with z | z
                  · exact w2 z
                  · exact hFe (V.ref.inj z)
                · show _ = _
                  rw [upd_same]
                  cases o with
                  | none =>
                    obtain rfl : q0 = .non := so
                    rfl
                  | some l =>
                    obtain ⟨q, rfl, _⟩ := so
                    rfl
            · rw [dec_int, List.length_map, List.length_map, toInts_len] at c3
              have c3 : row.length ≠ x.reserves.length := by
                have c3 : ¬ ((row.length : Int) = (x.reserves.length : Int)) := by simpa using c3
                omega
              refine R.no ?_ (by decide)
              rw [hst]
              show (if x.isClosed = true then _ else _) = _
              rw [if_neg (by rw [c2]; decide)]
              exact row_bad c3
          · have c2 : x.isClosed = true := by simpa using c2
            refine R.no ?_ (by decide)
            rw [hst]
            exact if_pos c2
      · show (Vbndax.isBidder i && Vbndax.areBids row) = false
        rw [← list_bids, c, Bool.and_false]
    · show (Vbndax.isBidder i && Vbndax.areBids row) = false
      rw [bidder_is, decide_eq_false (show ¬ (0 ≤ i ∧ i ≤ 4) from cb), Bool.false_and]
end
end SL
end
/-! ## Wd4 -/
section
namespace SL
open PySem PySem.Spec PyProof.Rows L2
theorem sub_count {H : Hp} : ∀ (qs : List V) (bs : List (Option (List Nat))), Subs H qs bs → (qs.filter fun v => !decide (v = V.non)).length = (bs.filter fun y => y.isSome).length
  | [], [], _ => rfl
  | [], b :: bs, h => by have := h.1; simp at this
  | q :: qs, [], h => by have := h.1; simp at this
  | q :: qs, b :: bs, h => by
    have ih := sub_count qs bs ⟨by have := h.1; simpa using this, fun i v o e1 e2 => h.2 (i + 1) v o (by simpa using e1) (by simpa using e2)⟩
    have so := h.2 0 q b rfl rfl
    cases b with
    | none =>
      obtain rfl : q = .non := so
      rw [List.filter_cons_of_neg (by decide), List.filter_cons_of_neg (by decide), ih]
    | some l =>
      obtain ⟨z, rfl, _⟩ := so
      rw [List.filter_cons_of_pos (by rfl), List.filter_cons_of_pos (by rfl), List.length_cons, List.length_cons, ih]
def payS (r : List Nat) (b : Vbndax.Bids) : Option Nat → Int
  | none => 0
  | some j => Vbndax.minimumPrice r b j
theorem payment_is (x : Vbndax.Auction) (b : Vbndax.Bids) (i : Nat) : Vbndax.payment x b i = payS x.reserves b (Vbndax.lotOfBidder (Vbndax.bestAllocation x.reserves b).2 i) := by
  unfold Vbndax.payment
  cases Vbndax.lotOfBidder (Vbndax.bestAllocation x.reserves b).2 i <;> rfl
theorem pay_is {r : List Nat} (b : Vbndax.Bids) {l : Option Nat} (hn : r.length ≤ 4) (hl : ∀ j, l = some j → j < r.length) : pay b (Vbndax.toInts r) l = payS r b l := by
  cases l with
  | none => rfl
  | some j => exact minPrice_is b hn (hl j rfl)
theorem lot_of {r : List Nat} (b : Vbndax.Bids) (hn : r.length ≤ 4) (i : Nat) : (alloc (Vbndax.toInts r) b 0).getD i none = Vbndax.lotOfBidder (Vbndax.bestAllocation r b).2 i := by
  rw [alloc_is _ _ (by omega)]
  rfl
theorem lot_lt {r : List Nat} {b : Vbndax.Bids} {i j : Nat} (hn : r.length ≤ 4) (h : Vbndax.lotOfBidder (Vbndax.bestAllocation r b).2 i = some j) : j < r.length := by
  rw [← lot_of b hn] at h
  have := alloc_get_lt h
  rw [toInts_len] at this
  exact this
theorem pay_of {x : Vbndax.Auction} (v : Valid x) (b : Vbndax.Bids) (i : Nat) : pay b (Vbndax.toInts x.reserves) ((alloc (Vbndax.toInts x.reserves) b 0).getD i none) = Vbndax.payment x b i := by
  rw [lot_of b v.few, pay_is b v.few fun j hj => lot_lt v.few hj, payment_is]
section
variable {P : Program} {w : World} {K : PySem.W.Frag} {mg : Str → Option Value} {base : Heap} {CA fA CD fD CR fR : Addr}
/-! ### Desk.close_auction -/
abbrev sClose : Stmt := inClass (top 50) 6
theorem scClose : FnScope ["self", "auction", "row"] ["self"] (defScope sClose) := ⟨rfl, rfl, rfl, by decide +kernel, rfl, by decide +kernel, by decide +kernel⟩
def spOp (CD CA CR : Addr) (c : Vbndax.Call) : Sp := fun vs H Q E => ∃ (d : Addr) (s : Vbndax.State), vs = [.ref d] ∧ DeskAt CD CA H d s ∧ Did CD CA CR d d s c H Q E
theorem ok_close {f fd} (T : Tx mg) (A : Td K mg CD fD) (U0 : Ta K mg CA fA) (D : DefM K CD "close_auction" "Desk.close_auction" sClose ["self"] f fd) (Gw : Ok P w K mg base (L2.CX P w) 3 "want" ["truth", "code"] (spWant CR))
    (Go : OkM P w K mg base (L2.CX P w) 4 CD "open_auction" ["self"] (spOpen CD CA CR)) : OkM P w K mg base (L2.CX P w) 5 CD "close_auction" ["self"] (spOp CD CA CR .closeAuction) := by
  obtain ⟨fw, fdw, gw, kw, bw, Fw⟩ := Gw
  obtain ⟨fo, fdo, mo, bo, Fo⟩ := Go
  obtain ⟨t4, hn4⟩ := T.isCl
  refine D.ok (D.fn.okX scClose (fun vs H Q E h => ?_) (fun cdv A0 outer s H vs Q E hr h => ⟨_,
      pss_cons (ps_set (i := 1) scClose.nd rfl (Or.inl rfl) (pe_meth0 (pv 0) A.cl mo Fo hr bo .nil (passes_call (takes_of rfl rfl rfl rfl) fun _ _ _ _ h => h)))
      (pss_cons (ps_expr (pe_call Fw (hr.mono (by decide)) rfl gw kw bw .nil (passes_call (takes_of rfl rfl rfl rfl) fun _ _ _ _ h => h) (pa_cons (pe_not (pe_fld (pv 1) rfl)) (pa_cons (pe_glob rfl hn4 (relI _ _)) pa_nil))))
      (pss_cons (ps_fld (pv 1) pe_bl rfl)
      (pss_one (ps_ret (pe_lst (pa_cons (pe_callB call_len_seq (by rfl) T.len PySem.boot_len (pa_cons
        (pe_lc (own := [("row", 2)]) (g := gName 2) rfl scClose.nd (pi_list (pe_fld (pv 1) rfl)) (blkOk_by (N := ["self", "auction", "row"]) (sc := defScope sClose) (by decide +kernel))
          (fun _ _ _ _ _ => pg_name (i := 2) scClose.nd rfl (Or.inl rfl)) (fun _ _ _ _ _ => pts_one (pt_cmp (pc_notN (pv 2)))) (fun _ _ _ _ _ => pv 2)) pa_nil)) pa_nil)))))), ?_⟩))
  · obtain ⟨_, _, rfl, _⟩ := h
    rfl
  · obtain ⟨d, s, rfl, hd, R⟩ := h
    obtain ⟨dxd, v0, hi⟩ := hd.ins
    refine ⟨_, rfl, d, dxd, _, rfl, hi, dF_no (by decide +kernel), d, s, rfl, hd, fun hs => ?_, fun x a hs U v hda => ?_⟩
    · subst hs
      exact R.no rfl (by decide)
    · subst hs
      obtain ⟨ax, rp, sp, qs, U1⟩ := id U
      obtain ⟨dx2, hd2⟩ := hda
      refine ⟨_, rfl, a, CA, ax, _, _, rfl, U1.obj, U0.cl, U0.isc, aF_cl, _, rfl, _, -6, rfl, fun c2 => ?_, fun c2 => ?_⟩
      · have c2 : x.isClosed = false := by simpa using c2
        have hst : Vbndax.step (some x) .closeAuction = (some { x with isClosed := true }, Vbndax.toInts [0, (x.sealedBids.filter fun y => y.isSome).length]) := by
          show (if x.isClosed = true then _ else _) = _
          rw [if_neg (by rw [c2]; decide)]
        refine ⟨_, rfl, a, CA, ax, _, rfl, U1.obj, U0.cl, U0.isc, (by show 3 < 1000; decide), ?_⟩
        rw [aF_put]
        generalize hH : upd H a (.ins CA ax (aF rp sp true)) = H1
        have kp : ∀ b o, H b = some o → b ≠ a → H1 b = some o := fun b o hb hn => by rw [← hH, upd_ne hn]; exact hb
        have ha1 : H1 a = some (.ins CA ax (aF rp sp true)) := by rw [← hH]; exact upd_same
        have hs1 : H1 sp = some (.lst qs) := kp _ _ U1.lst (ne_of U1.lst U1.obj (by intro z; cases z))
        have fr : Frame H H1 := Frame.but kp (fun b ns hb => ints_ne_ins hb U1.obj) (fun b o u hb => ne_of hb U1.obj (by intro z; cases z))
        have hl5 := sub_len U1 v
        refine ⟨_, rfl, a, CA, ax, _, _, rfl, ha1, U0.cl, U0.sub, aF_sub, sp, rfl, ⟨_, SqL.of hs1⟩, fun D0 hD => lc_it walk_list (Made H1 D0 (outs qs (fun y => !decide (y = V.non)) id)) (Made.zero hD (outs_zero _ _ _)) (fun i H' _ m => SqL.of (m.1 _ _ hs1)) ?_ ?_⟩
        · rintro i y H2 H3 hi2 m ⟨rfl, e⟩
          refine ⟨rfl, _, rfl, _, rfl, ?_⟩
          refine ite2 (fun c => ?_) (fun c => ?_)
          · exact ⟨_, rfl, Made.put hD m (Same.refl _) (Nat.le_trans (outs_len _ _ _ _) (by omega)) (outs_yes e c) fun _ z => z⟩
          · exact Made.skip m (Same.refl _) (outs_no e (by simpa using c))
        · intro H2 m
          refine ⟨D0, _, rfl, .inl (SqL.of m.2), sz 1 (by decide), fun p np => ?_⟩
          have s2 := m.1.trans (L2.Same.up (o := .lst [.int ((outs qs (fun y => !decide (y = V.non)) id qs.length).length : Nat)]) np)
          have d_ne : d ≠ a := by
            refine ne_of hd2 U1.obj fun z => ?_
            injection z with z1 z2 z3
            cases z3
          refine R.yes hst (by show 1 ≤ 1000; decide) (fr.trans (Frame.of s2)) ?_ (fun F fs hF hFe hS => ?_) ?_
          · refine ⟨dx2, a, s2 _ _ (kp _ _ hd2 d_ne), ⟨ax, rp, sp, qs, ⟨s2 _ _ ha1, s2 _ _ (fr.nums _ _ U1.res), s2 _ _ hs1, U1.sub.1, fun k y o e1 e2 => ?_⟩⟩, ⟨v.one, v.few, v.five, v.rows⟩⟩
            have so := U1.sub.2 k y o e1 e2
            cases o with
            | none => exact so
            | some l =>
              obtain ⟨q, e4, h4⟩ := so
              exact ⟨q, e4, s2 _ _ (fr.nums _ _ h4)⟩
          · obtain ⟨w1, w2⟩ := hS _ _ _ _ _ _ _ hd2 U1.obj U1.lst
            exact Sep.of (s2 _ _ (kp _ _ hd2 d_ne)) (s2 _ _ ha1) (s2 _ _ hs1) w1 w2
          · show _ = _
            rw [upd_same, outs_all, List.length_map, sub_count qs x.sealedBids U1.sub]
            rfl
      · have c2 : x.isClosed = true := by simpa using c2
        exact R.no (if_pos c2) (by decide)
/-! ### Desk.get_result -/
abbrev sGet : Stmt := inClass (top 50) 7
theorem scGet : FnScope ["self", "auction", "bids", "found", "bidder"] ["self"] (defScope sGet) := ⟨rfl, rfl, rfl, by decide +kernel, rfl, by decide +kernel, by decide +kernel⟩
theorem ok_get {f fd} (T : Tx mg) (A : Td K mg CD fD) (U0 : Ta K mg CA fA) (D : DefM K CD "get_result" "Desk.get_result" sGet ["self"] f fd) (Go : OkM P w K mg base (L2.CX P w) 5 CD "closed_auction" ["self"] (spClosed CD CA CR))
    (Gb : OkM P w K mg base CX0 1 CA "bids" ["self"] (spBids CA)) (Gr : Ok P w K mg base CX0 8 "result_of" ["bids", "reserves", "bidder"] spResult) : OkM P w K mg base (L2.CX P w) 9 CD "get_result" ["self"] (spOp CD CA CR .getResult) := by
  obtain ⟨fo, fdo, mo, bo, Fo⟩ := Go
  obtain ⟨fb, fdb, mb, bb, Fb⟩ := Gb
  obtain ⟨fr, fdr, gr, kr, br, Fr⟩ := Gr
  obtain ⟨t3, hn3⟩ := T.bidders
  refine D.ok (D.fn.okX scGet (fun vs H Q E h => ?_) (fun cdv A0 outer s H vs Q E hr h => ⟨_,
      pss_cons (ps_set (i := 1) scGet.nd rfl (Or.inl rfl) (pe_meth0 (pv 0) A.cl mo Fo (hr.mono (by decide)) bo .nil (passes_call (takes_of rfl rfl rfl rfl) fun _ _ _ _ h => h)))
      (pss_cons (ps_par (i := 2) (j := 3) rfl scGet.nd rfl rfl (by decide) rfl rfl (pa_cons (pe_meth0 (pv 1) U0.cl mb Fb (hr.mono (by decide)) bb .nil pass0) (pa_cons (pe_lst pa_nil) pa_nil)) (by rfl))
      (pss_cons (ps_for (passes_of rfl) rfl (pi_range1 (by rfl) T.range (pa_cons (pe_glob rfl hn3 (relI _ _)) pa_nil)) (pg_name (i := 4) scGet.nd rfl (Or.inl rfl))
        (pss_one (ps_expr (pe_bm PySem.F.plainAttrs_list PySem.F.slot_list_extend PySem.F.type_list_extend mt_extend (pv 3) (pa_cons (pe_call Fr hr rfl gr kr br .nil pass0 (pa_cons (pv 2) (pa_cons (pe_fld (pv 1) rfl) (pa_cons (pv 4) pa_nil)))) pa_nil)))))
      (pss_one (ps_ret (pv 3))))), ?_⟩))
  · obtain ⟨_, _, rfl, _⟩ := h
    rfl
  · obtain ⟨d, s, rfl, hd, R⟩ := h
    obtain ⟨dxd, v0, hi⟩ := hd.ins
    refine ⟨_, rfl, d, dxd, _, rfl, hi, dF_no (by decide +kernel), d, s, rfl, hd, fun hs => ?_, fun x hs c => ?_, fun x a hs c U v => ?_⟩
    · subst hs
      exact R.no rfl (by decide)
    · subst hs
      exact R.no ((step_ok rfl).trans ((ex_get _).trans (open_open c))) (by decide)
    · subst hs
      obtain ⟨ax, rp, sp, qs, U1⟩ := id U
      have hst : Vbndax.step (some x) .getResult = (some x, 0 :: (List.range 5).flatMap fun i => [Vbndax.lotNumber (Vbndax.lotOfBidder (Vbndax.bestAllocation x.reserves (Vbndax.bidsOf x)).2 i), Vbndax.payment x (Vbndax.bidsOf x) i]) := (step_ok rfl).trans ((ex_get _).trans (open_done c))
      generalize hf : (fun i => [Vbndax.lotNumber (Vbndax.lotOfBidder (Vbndax.bestAllocation x.reserves (Vbndax.bidsOf x)).2 i), Vbndax.payment x (Vbndax.bidsOf x) i]) = f0 at hst
      have h2 : ∀ i, (f0 i).length = 2 := fun i => by rw [← hf]; rfl
      have hfl : ∀ n, ((List.range n).flatMap f0).length = 2 * n := by
        intro n
        induction n with
        | zero => rfl
        | succ n ih => rw [List.range_succ, List.flatMap_append, List.length_append, ih, List.flatMap_cons, List.flatMap_nil, List.append_nil, h2]; omega
      refine ⟨_, rfl, a, ax, _, rfl, U1.obj, aF_bids, a, x, rfl, U, v, fun H1 p1 s1 n1 h1 => ⟨sz 0 (by decide), fun F hF => ⟨_, _, rfl, ?_⟩⟩⟩
      have s2 := s1.trans (L2.Same.up (o := .lst []) hF)
      have B0 := bidsL v (h1.keep (L2.Same.up (o := .lst []) hF)) (s2 _ _ U1.res)
      refine ⟨5, rfl, by decide, by decide, for_it walk_upto (fun i σ H' => ∃ lv : Option V, σ = [some (.ref d), some (.ref a), some (.ref p1), some (.ref F), lv] ∧ Same H1 H' ∧ IntsL H' F ((List.range i).flatMap f0)) ⟨none, rfl, L2.Same.up hF, upd_same⟩ (fun _ _ _ _ _ => trivial) ?_ ?_⟩
      · rintro i y σ H3 H4 hi5 ⟨lv, rfl, s3, h3⟩ ⟨rfl, rfl⟩
        have hi5 : i < 5 := hi5
        have B := bidsL v (h1.keep s3) ((s1.trans s3) _ _ U1.res)
        refine ⟨_, rfl, .inl ⟨rfl, _, SqL.of h3⟩, _, rfl, _, rfl, a, CA, ax, _, _, rfl, (s1.trans s3) _ _ U1.obj, U0.cl, U0.res, aF_res, _, rfl, p1, rp, _, _, i, rfl, B, by rw [bids_len, v.five]; exact hi5, fun H5 p5 s5 n5 h5 => ?_⟩
        have e5 : IntsL H5 p5 (f0 i) := by
          show _ = _
          rw [h5, ← hf, pay_of v, lot_of _ v.few]
          rfl
        refine ⟨F, p5, _, _, rfl, rfl, s5 _ _ h3, e5, ?_, ?_⟩
        · rw [List.length_map, List.length_map, hfl, h2]; exact sz _ (by omega)
        · refine ⟨_, rfl, L2.Same.new hF (s3.trans s5), ?_⟩
          show _ = _
          rw [upd_same, List.range_succ, List.flatMap_append, List.map_append]
          show _ = some (HO.lst (_ ++ ((f0 i ++ []).map V.int)))
          rw [List.append_nil]
      · rintro σ H3 ⟨lv, rfl, s3, h3⟩
        have sA := s1.trans s3
        exact ⟨_, rfl, R.same hst (by rw [hfl]; decide) sA hd h3⟩
end
end SL
end
/-! ## Wd5 -/
section
namespace SL
open PySem PySem.Spec PyProof.Rows L2
section
variable {P : Program} {w : World} {K : PySem.W.Frag} {mg : Str → Option Value} {base : Heap} {CA fA CD fD CR fR : Addr}
/-! ### Desk.minimum, maximum, total -/
abbrev sMinimum : Stmt := inClass (top 50) 8
theorem scMinimum : FnScope ["self", "auction"] ["self"] (defScope sMinimum) := ⟨rfl, rfl, rfl, by decide +kernel, rfl, by decide +kernel, by decide +kernel⟩
theorem ok_minimum {f fd} (A : Td K mg CD fD) (U0 : Ta K mg CA fA) (D : DefM K CD "minimum" "Desk.minimum" sMinimum ["self"] f fd) (Go : OkM P w K mg base (L2.CX P w) 5 CD "closed_auction" ["self"] (spClosed CD CA CR))
    (Gb : OkM P w K mg base CX0 1 CA "bids" ["self"] (spBids CA)) (Gm : Ok P w K mg base CX0 7 "minimum_prices" ["bids", "reserves"] spMinPs) (Gc : Ok P w K mg base CX0 1 "counted" ["row"] spCounted) :
    OkM P w K mg base (L2.CX P w) 8 CD "minimum" ["self"] (spOp CD CA CR .minimumPrices) := by
  obtain ⟨fo, fdo, mo, bo, Fo⟩ := Go
  obtain ⟨fb, fdb, mb, bb, Fb⟩ := Gb
  obtain ⟨fm, fdm, gm, km, bm, Fm⟩ := Gm
  obtain ⟨fc, fdc, gc, kc, bc, Fc⟩ := Gc
  refine D.ok (D.fn.okX scMinimum (fun vs H Q E h => ?_) (fun cdv A0 outer s H vs Q E hr h => ⟨_,
      pss_cons (ps_set (i := 1) scMinimum.nd rfl (Or.inl rfl) (pe_meth0 (pv 0) A.cl mo Fo (hr.mono (by decide)) bo .nil (passes_call (takes_of rfl rfl rfl rfl) fun _ _ _ _ h => h)))
      (pss_one (ps_ret (pe_call Fc (hr.mono (by decide)) rfl gc kc bc .nil pass0 (pa_cons (pe_call Fm hr rfl gm km bm .nil pass0 (pa_cons (pe_meth0 (pv 1) U0.cl mb Fb (hr.mono (by decide)) bb .nil pass0) (pa_cons (pe_fld (pv 1) rfl) pa_nil))) pa_nil)))), ?_⟩))
  · obtain ⟨_, _, rfl, _⟩ := h
    rfl
  · obtain ⟨d, s, rfl, hd, R⟩ := h
    obtain ⟨dxd, v0, hi⟩ := hd.ins
    refine ⟨_, rfl, d, dxd, _, rfl, hi, dF_no (by decide +kernel), d, s, rfl, hd, fun hs => ?_, fun x hs c => ?_, fun x a hs c U v => ?_⟩
    · subst hs
      exact R.no rfl (by decide)
    · subst hs
      exact R.no ((step_ok rfl).trans ((ex_min _).trans (open_open c))) (by decide)
    · subst hs
      obtain ⟨ax, rp, sp, qs, U1⟩ := id U
      have few := v.few
      refine ⟨_, rfl, a, ax, _, rfl, U1.obj, aF_bids, a, x, rfl, U, v, fun H1 p1 s1 n1 h1 => ?_⟩
      refine ⟨_, rfl, a, CA, ax, _, _, rfl, s1 _ _ U1.obj, U0.cl, U0.res, aF_res, p1, rp, _, _, rfl, bidsL v h1 (s1 _ _ U1.res), fun H2 p2 s2 n2 h2 => ?_⟩
      rw [minPrices_is _ few] at h2
      have hl : (Vbndax.minimumPrices x.reserves (Vbndax.bidsOf x)).length = x.reserves.length := by unfold Vbndax.minimumPrices Vbndax.lotNumbers; simp
      refine ⟨p2, _, rfl, h2, by rw [List.length_map, hl]; omega, fun H3 p3 s3 n3 h3 => ?_⟩
      have sA := (s1.trans s2).trans s3
      refine R.same ((step_ok rfl).trans ((ex_min _).trans (open_done c))) (by show (_ :: _).length ≤ _; rw [List.length_cons, hl]; omega) sA hd ?_
      show _ = _
      rw [h3, List.length_map]
      rfl
abbrev sMaximum : Stmt := inClass (top 50) 9
theorem scMaximum : FnScope ["self", "auction"] ["self"] (defScope sMaximum) := ⟨rfl, rfl, rfl, by decide +kernel, rfl, by decide +kernel, by decide +kernel⟩
theorem ok_maximum {f fd} (A : Td K mg CD fD) (U0 : Ta K mg CA fA) (D : DefM K CD "maximum" "Desk.maximum" sMaximum ["self"] f fd) (Go : OkM P w K mg base (L2.CX P w) 5 CD "closed_auction" ["self"] (spClosed CD CA CR))
    (Gb : OkM P w K mg base CX0 1 CA "bids" ["self"] (spBids CA)) (Gm : Ok P w K mg base CX0 7 "maximum_prices" ["bids", "reserves"] spMaxPs) (Gc : Ok P w K mg base CX0 1 "counted" ["row"] spCounted) :
    OkM P w K mg base (L2.CX P w) 8 CD "maximum" ["self"] (spOp CD CA CR .maximumPrices) := by
  obtain ⟨fo, fdo, mo, bo, Fo⟩ := Go
  obtain ⟨fb, fdb, mb, bb, Fb⟩ := Gb
  obtain ⟨fm, fdm, gm, km, bm, Fm⟩ := Gm
  obtain ⟨fc, fdc, gc, kc, bc, Fc⟩ := Gc
  refine D.ok (D.fn.okX scMaximum (fun vs H Q E h => ?_) (fun cdv A0 outer s H vs Q E hr h => ⟨_,
      pss_cons (ps_set (i := 1) scMaximum.nd rfl (Or.inl rfl) (pe_meth0 (pv 0) A.cl mo Fo (hr.mono (by decide)) bo .nil (passes_call (takes_of rfl rfl rfl rfl) fun _ _ _ _ h => h)))
      (pss_one (ps_ret (pe_call Fc (hr.mono (by decide)) rfl gc kc bc .nil pass0 (pa_cons (pe_call Fm hr rfl gm km bm .nil pass0 (pa_cons (pe_meth0 (pv 1) U0.cl mb Fb (hr.mono (by decide)) bb .nil pass0) (pa_cons (pe_fld (pv 1) rfl) pa_nil))) pa_nil)))), ?_⟩))
  · obtain ⟨_, _, rfl, _⟩ := h
    rfl
  · obtain ⟨d, s, rfl, hd, R⟩ := h
    obtain ⟨dxd, v0, hi⟩ := hd.ins
    refine ⟨_, rfl, d, dxd, _, rfl, hi, dF_no (by decide +kernel), d, s, rfl, hd, fun hs => ?_, fun x hs c => ?_, fun x a hs c U v => ?_⟩
    · subst hs
      exact R.no rfl (by decide)
    · subst hs
      exact R.no ((step_ok rfl).trans ((ex_max _).trans (open_open c))) (by decide)
    · subst hs
      obtain ⟨ax, rp, sp, qs, U1⟩ := id U
      have few := v.few
      refine ⟨_, rfl, a, ax, _, rfl, U1.obj, aF_bids, a, x, rfl, U, v, fun H1 p1 s1 n1 h1 => ?_⟩
      refine ⟨_, rfl, a, CA, ax, _, _, rfl, s1 _ _ U1.obj, U0.cl, U0.res, aF_res, p1, rp, _, _, rfl, bidsL v h1 (s1 _ _ U1.res), fun H2 p2 s2 n2 h2 => ?_⟩
      rw [maxPrices_is _ few] at h2
      have hl : (Vbndax.maximumPrices x.reserves (Vbndax.bidsOf x)).length = x.reserves.length := by unfold Vbndax.maximumPrices Vbndax.lotNumbers; simp
      refine ⟨p2, _, rfl, h2, by rw [List.length_map, hl]; omega, fun H3 p3 s3 n3 h3 => ?_⟩
      have sA := (s1.trans s2).trans s3
      refine R.same ((step_ok rfl).trans ((ex_max _).trans (open_done c))) (by show (_ :: _).length ≤ _; rw [List.length_cons, hl]; omega) sA hd ?_
      show _ = _
      rw [h3, List.length_map]
      rfl
abbrev sTot : Stmt := inClass (top 50) 10
theorem scTot : FnScope ["self", "auction"] ["self"] (defScope sTot) := ⟨rfl, rfl, rfl, by decide +kernel, rfl, by decide +kernel, by decide +kernel⟩
theorem ok_tot {f fd} (A : Td K mg CD fD) (U0 : Ta K mg CA fA) (D : DefM K CD "total" "Desk.total" sTot ["self"] f fd) (Go : OkM P w K mg base (L2.CX P w) 5 CD "closed_auction" ["self"] (spClosed CD CA CR))
    (Gb : OkM P w K mg base CX0 1 CA "bids" ["self"] (spBids CA)) (Gt : Ok P w K mg base CX0 5 "total_value" ["bids", "reserves"] (spTotal K)) :
    OkM P w K mg base (L2.CX P w) 6 CD "total" ["self"] (spOp CD CA CR .totalValue) := by
  obtain ⟨fo, fdo, mo, bo, Fo⟩ := Go
  obtain ⟨fb, fdb, mb, bb, Fb⟩ := Gb
  obtain ⟨fm, fdm, gm, km, bm, Fm⟩ := Gt
  refine D.ok (D.fn.okX scTot (fun vs H Q E h => ?_) (fun cdv A0 outer s H vs Q E hr h => ⟨_,
      pss_cons (ps_set (i := 1) scTot.nd rfl (Or.inl rfl) (pe_meth0 (pv 0) A.cl mo Fo hr bo .nil (passes_call (takes_of rfl rfl rfl rfl) fun _ _ _ _ h => h)))
      (pss_one (ps_ret (pe_lst (pa_cons (pe_call Fm hr rfl gm km bm .nil pass0 (pa_cons (pe_meth0 (pv 1) U0.cl mb Fb (hr.mono (by decide)) bb .nil pass0) (pa_cons (pe_fld (pv 1) rfl) pa_nil))) pa_nil)))), ?_⟩))
  · obtain ⟨_, _, rfl, _⟩ := h
    rfl
  · obtain ⟨d, s, rfl, hd, R⟩ := h
    obtain ⟨dxd, v0, hi⟩ := hd.ins
    refine ⟨_, rfl, d, dxd, _, rfl, hi, dF_no (by decide +kernel), d, s, rfl, hd, fun hs => ?_, fun x hs c => ?_, fun x a hs c U v => ?_⟩
    · subst hs
      exact R.no rfl (by decide)
    · subst hs
      exact R.no ((step_ok rfl).trans ((ex_total _).trans (open_open c))) (by decide)
    · subst hs
      obtain ⟨ax, rp, sp, qs, U1⟩ := id U
      have few := v.few
      refine ⟨_, rfl, a, ax, _, rfl, U1.obj, aF_bids, a, x, rfl, U, v, fun H1 p1 s1 n1 h1 => ?_⟩
      refine ⟨_, rfl, a, CA, ax, _, _, rfl, s1 _ _ U1.obj, U0.cl, U0.res, aF_res, p1, rp, _, _, rfl, (bidsL v h1 (s1 _ _ U1.res)).weak, fun H2 s2 => ⟨sz 1 (by decide), fun p np => ?_⟩⟩
      have sA := (s1.trans s2).trans (L2.Same.up (o := .lst [.int (totalVal (Vbndax.bidsOf x) (Vbndax.toInts x.reserves))]) np)
      refine R.same ((step_ok rfl).trans ((ex_total _).trans (open_done c))) (by show 1 ≤ 1000; decide) sA hd ?_
      show _ = _
      rw [upd_same, totalVal_is _ _ (by omega)]
      rfl
/-! ### Desk.check_prices -/
abbrev sChk : Stmt := inClass (top 50) 11
theorem scChk : FnScope ["self", "prices", "auction", "bids", "found"] ["self", "prices"] (defScope sChk) := ⟨rfl, rfl, rfl, by decide +kernel, rfl, by decide +kernel, by decide +kernel⟩
def spOpL (CD CA CR : Addr) (c : List Int → Vbndax.Call) : Sp := fun vs H Q E => ∃ (d e : Addr) (s : Vbndax.State) (row : List Int), vs = [.ref d, .ref e] ∧ DeskAt CD CA H d s ∧ IntsL H e row ∧ Did CD CA CR e d s (c row) H Q E
theorem ok_chk {f fd} (T : Tx mg) (A : Td K mg CD fD) (U0 : Ta K mg CA fA) (D : DefM K CD "check_prices" "Desk.check_prices" sChk ["self", "prices"] f fd) (Gc : Ok P w K mg base (L2.CX P w) 5 "check_list" ["row", "fewest", "most", "greatest"] (spCheck K CR))
    (Go : OkM P w K mg base (L2.CX P w) 6 CD "closed_for" ["self", "row"] (spFor K CD CA CR)) (Gb : OkM P w K mg base CX0 1 CA "bids" ["self"] (spBids CA)) (Gf : Ok P w K mg base CX0 3 "price_fault" ["bids", "reserves", "allocation", "prices"] (spFault K))
    (Ga : Ok P w K mg base CX0 5 "best_allocation" ["bids", "reserves"] (spAlloc K)) : OkM P w K mg base (L2.CX P w) 7 CD "check_prices" ["self", "prices"] (spOpL CD CA CR .checkPrices) := by
  obtain ⟨fc, fdc, gc, kc, bc, Fc⟩ := Gc
  obtain ⟨fo, fdo, mo, bo, Fo⟩ := Go
  obtain ⟨fb, fdb, mb, bb, Fb⟩ := Gb
  obtain ⟨ff, fdf, gf, kf, bf, Ff⟩ := Gf
  obtain ⟨fa, fda, ga, ka, ba, Fa⟩ := Ga
  obtain ⟨t1, hn1⟩ := T.mostL
  obtain ⟨t2, hn2⟩ := T.mostP
  refine D.ok (D.fn.okX scChk (fun vs H Q E h => ?_) (fun cdv A0 outer s H vs Q E hr h => ⟨_,
      pss_cons (ps_expr (pe_call Fc (hr.mono (by decide)) rfl gc kc bc .nil (passes_call (takes_of rfl rfl rfl rfl) fun _ _ _ _ h => h) (pa_cons (pv 1) (pa_cons pe_int (pa_cons (pe_glob rfl hn1 (relI _ _)) (pa_cons (pe_glob rfl hn2 (relI _ _)) pa_nil))))))
      (pss_cons (ps_set (i := 2) scChk.nd rfl (Or.inl rfl) (pe_meth (pv 0) A.cl mo Fo hr bo .nil (passes_call (takes_of rfl rfl rfl rfl) fun _ _ _ _ h => h) (pa_cons (pv 1) pa_nil)))
      (pss_cons (ps_set (i := 3) scChk.nd rfl (Or.inl rfl) (pe_meth0 (pv 2) U0.cl mb Fb (hr.mono (by decide)) bb .nil pass0))
      (pss_cons (ps_set (i := 4) scChk.nd rfl (Or.inl rfl) (pe_call Ff (hr.mono (by decide)) rfl gf kf bf .nil pass0 (pa_cons (pv 3) (pa_cons (pe_fld (pv 2) rfl) (pa_cons (pe_call Fa (hr.mono (by decide)) rfl ga ka ba .nil pass0 (pa_cons (pv 3) (pa_cons (pe_fld (pv 2) rfl) pa_nil))) (pa_cons (pv 1) pa_nil))))))
      (pss_one (ps_ret (pe_ifExp (pt_cmp (pc_isN (pv 4))) (pe_lst (pa_cons pe_int pa_nil)) (pe_lst (pa_cons pe_int (pa_cons (pe_ix ix_tup (pv 4) pe_int (fun _ _ => rfl)) (pa_cons (pe_ix ix_tup (pv 4) pe_int (fun _ _ => rfl)) pa_nil))))))))))
      , ?_⟩))
  · obtain ⟨_, _, _, _, rfl, _⟩ := h
    rfl
  · obtain ⟨d, e, s, row, rfl, hd, he, R⟩ := h
    refine ⟨_, rfl, e, row, 0, 4, 1000, rfl, SqL.of he, fun c => ?_, fun c => R.no (step_bad (by rw [list_prices] at c; exact c)) (by decide)⟩
    rw [list_prices] at c
    have hst := step_ok (s := s) (c := .checkPrices row) c
    obtain ⟨dxd, v0, hi⟩ := hd.ins
    refine ⟨_, rfl, d, dxd, _, rfl, hi, dF_no (by decide +kernel), _, rfl, d, e, s, row, rfl, hd, SqL.of he, fun hs => ?_, fun x hs c1 => ?_, fun x hs c1 c2 => ?_, fun x a hs c1 c2 U v => ?_⟩
    · subst hs
      exact R.no hst (by decide)
    · subst hs
      exact R.no (hst.trans ((ex_check _ _).trans (open_open c1))) (by decide)
    · subst hs
      exact R.no (hst.trans ((ex_check _ _).trans ((open_done c1).trans (row_bad c2)))) (by decide)
    · subst hs
      have hst2 := hst.trans ((ex_check _ _).trans ((open_done c1).trans (row_ok c2)))
      obtain ⟨ax, rp, sp, qs, U1⟩ := id U
      have few := v.few
      refine ⟨_, rfl, a, ax, _, rfl, U1.obj, aF_bids, a, x, rfl, U, v, fun H1 p1 s1 n1 h1 => ?_⟩
      have B1 := bidsL v h1 (s1 _ _ U1.res)
      refine ⟨_, rfl, _, rfl, a, CA, ax, _, _, rfl, s1 _ _ U1.obj, U0.cl, U0.res, aF_res, _, rfl, _, rfl, a, CA, ax, _, _, rfl, s1 _ _ U1.obj, U0.cl, U0.res, aF_res, p1, rp, _, _, rfl, B1.weak, fun H2 p2 s2 n2 h2 => ?_⟩
      refine ⟨_, rfl, p1, rp, p2, e, _, _, alloc (Vbndax.toInts x.reserves) (Vbndax.bidsOf x) 0, row, rfl, B1.keep s2, h2, s2 _ _ (s1 _ _ he), by rw [toInts_len]; exact c2, by rw [alloc_len], ?_, ?_⟩
      · intro hf H3 s3
        rw [fault_is _ _ c2, alloc_is _ _ (by omega)] at hf
        have hst3 : Vbndax.step (some x) (.checkPrices row) = (some x, [0, 1]) := by rw [hst2, hf]
        refine ⟨_, rfl, true, rfl, iteT ⟨sz 1 (by decide), fun p np => ?_⟩⟩
        have sA := ((s1.trans s2).trans s3).trans (L2.Same.up (o := .lst [.int 1]) np)
        exact R.same hst3 (by decide) sA hd upd_same
      · intro k n hf H3 t s3 ht
        rw [fault_is _ _ c2, alloc_is _ _ (by omega)] at hf
        have hst3 : Vbndax.step (some x) (.checkPrices row) = (some x, [0, 0, (k : Int), (n : Int)]) := by rw [hst2, hf]; rfl
        refine ⟨_, rfl, false, rfl, iteF ⟨_, rfl, t, _, 0, _, rfl, rfl, SqT.of ht, at_of (j := 0) rfl rfl, _, rfl, t, _, 1, _, rfl, rfl, SqT.of ht, at_of (j := 1) rfl rfl, sz 3 (by decide), fun p np => ?_⟩⟩
        have sA := ((s1.trans s2).trans s3).trans (L2.Same.up (o := .lst [.int 0, .int k, .int n]) np)
        exact R.same hst3 (by show 3 ≤ 1000; decide) sA hd upd_same
end
end SL
end
/-! ## Wd6 -/
section
namespace SL
open PySem PySem.Spec PyProof.Rows L2
theorem withLen (l : List Int) : (Vbndax.withLength l).map V.int = .int (l.length : Nat) :: l.map V.int := rfl
theorem bids_row {H : Hp} {p : Addr} {x : Vbndax.Auction} (v : Valid x) (h : RowsL H p (Vbndax.bidsOf x)) {i : Nat} (hi : i < 5) :
    ∃ (qs : List Addr) (q : Addr), H p = some (.lst (qs.map V.ref)) ∧ (qs.map V.ref)[i]? = some (V.ref q) ∧ IntsL H q ((Vbndax.bidsOf x).getD i []) := by
  obtain ⟨qs, h1, h2, h3⟩ := h.get
  obtain ⟨q, _, e2, hq⟩ := h3 i _ (get_some (by rw [bids_len, v.five]; exact hi) [])
  exact ⟨qs, q, h1, e2, hq⟩
section
variable {P : Program} {w : World} {K : PySem.W.Frag} {mg : Str → Option Value} {base : Heap} {CA fA CD fD CR fR : Addr}
def spOpIL (CD CA CR : Addr) (c : Int → List Int → Vbndax.Call) : Sp := fun vs H Q E => ∃ (d e : Addr) (s : Vbndax.State) (i : Int) (row : List Int), vs = [.ref d, .int i, .ref e] ∧ DeskAt CD CA H d s ∧ IntsL H e row ∧ Did CD CA CR e d s (c i row) H Q E
/-! ### Desk.demand -/
abbrev sDem : Stmt := inClass (top 50) 12
theorem scDem : FnScope ["self", "bidder", "prices", "auction"] ["self", "bidder", "prices"] (defScope sDem) := ⟨rfl, rfl, rfl, by decide +kernel, rfl, by decide +kernel, by decide +kernel⟩
theorem ok_dem {f fd} (T : Tx mg) (A : Td K mg CD fD) (U0 : Ta K mg CA fA) (D : DefM K CD "demand" "Desk.demand" sDem ["self", "bidder", "prices"] f fd) (Gb : Ok P w K mg base (L2.CX P w) 4 "check_between" ["number", "low", "high"] (spBetween CR))
    (Gc : Ok P w K mg base (L2.CX P w) 5 "check_list" ["row", "fewest", "most", "greatest"] (spCheck K CR)) (Go : OkM P w K mg base (L2.CX P w) 6 CD "closed_for" ["self", "row"] (spFor K CD CA CR)) (Gi : OkM P w K mg base CX0 1 CA "bids" ["self"] (spBids CA))
    (Gd : Ok P w K mg base CX0 2 "demand_set" ["row", "prices"] (spDemand K)) (Gn : Ok P w K mg base CX0 1 "counted" ["row"] spCounted) : OkM P w K mg base (L2.CX P w) 7 CD "demand" ["self", "bidder", "prices"] (spOpIL CD CA CR .demandSet) := by
  obtain ⟨fb, fdb, gb, kb, bb, Fb⟩ := Gb
  obtain ⟨fc, fdc, gc, kc, bc, Fc⟩ := Gc
  obtain ⟨fo, fdo, mo, bo, Fo⟩ := Go
  obtain ⟨fi, fdi, mi, bi, Fi⟩ := Gi
  obtain ⟨fm, fdm, gm, km, bm, Fm⟩ := Gd
  obtain ⟨fn, fdn, gn, kn, bn, Fn⟩ := Gn
  obtain ⟨t1, hn1⟩ := T.mostL
  obtain ⟨t2, hn2⟩ := T.mostP
  obtain ⟨t3, hn3⟩ := T.bidders
  refine D.ok (D.fn.okX scDem (fun vs H Q E h => ?_) (fun cdv A0 outer s H vs Q E hr h => ⟨_,
      pss_cons (ps_expr (pe_call Fb (hr.mono (by decide)) rfl gb kb bb .nil (passes_call (takes_of rfl rfl rfl rfl) fun _ _ _ _ h => h) (pa_cons (pv 1) (pa_cons pe_int (pa_cons (pe_op op_sub (pe_glob rfl hn3 (relI _ _)) pe_int) pa_nil)))))
      (pss_cons (ps_expr (pe_call Fc (hr.mono (by decide)) rfl gc kc bc .nil (passes_call (takes_of rfl rfl rfl rfl) fun _ _ _ _ h => h) (pa_cons (pv 2) (pa_cons pe_int (pa_cons (pe_glob rfl hn1 (relI _ _)) (pa_cons (pe_glob rfl hn2 (relI _ _)) pa_nil))))))
      (pss_cons (ps_set (i := 3) scDem.nd rfl (Or.inl rfl) (pe_meth (pv 0) A.cl mo Fo hr bo .nil (passes_call (takes_of rfl rfl rfl rfl) fun _ _ _ _ h => h) (pa_cons (pv 2) pa_nil)))
      (pss_one (ps_ret (pe_call Fn (hr.mono (by decide)) rfl gn kn bn .nil pass0 (pa_cons (pe_call Fm (hr.mono (by decide)) rfl gm km bm .nil pass0 (pa_cons (pe_ix ix_list (pe_meth0 (pv 3) U0.cl mi Fi (hr.mono (by decide)) bi .nil pass0) (pv 1) (fun _ _ => rfl)) (pa_cons (pv 2) pa_nil))) pa_nil)))))), ?_⟩))
  · obtain ⟨_, _, _, _, _, rfl, _⟩ := h
    rfl
  · obtain ⟨d, e, s, i, row, rfl, hd, he, R⟩ := h
    refine ⟨_, rfl, _, _, rfl, rfl, i, 0, 5 - 1, rfl, fun cb => ?_, fun cb => R.no (step_bad ?_) (by decide)⟩
    · have cb' : Vbndax.isBidder i = true := by rw [bidder_is]; exact decide_eq_true cb
      refine ⟨_, rfl, e, row, 0, 4, 1000, rfl, SqL.of he, fun c => ?_, fun c => R.no (step_bad ?_) (by decide)⟩
      · rw [list_prices] at c
        have hst := step_ok (s := s) (c := .demandSet i row) (by show (Vbndax.isBidder i && Vbndax.arePrices row) = true; rw [cb', c]; rfl)
        obtain ⟨dxd, v0, hi⟩ := hd.ins
        obtain ⟨j, rfl⟩ : ∃ j : Nat, i = (j : Int) := ⟨i.toNat, by omega⟩
        refine ⟨_, rfl, d, dxd, _, rfl, hi, dF_no (by decide +kernel), _, rfl, d, e, s, row, rfl, hd, SqL.of he, fun hs => ?_, fun x hs c1 => ?_, fun x hs c1 c2 => ?_, fun x a hs c1 c2 U v => ?_⟩
        · subst hs
          exact R.no hst (by decide)
        · subst hs
          exact R.no (hst.trans ((ex_demand _ _ _).trans (open_open c1))) (by decide)
        · subst hs
          exact R.no (hst.trans ((ex_demand _ _ _).trans ((open_done c1).trans (row_bad c2)))) (by decide)
        · subst hs
          have hst2 := hst.trans ((ex_demand _ _ _).trans ((open_done c1).trans (row_ok c2)))
          rw [Int.toNat_natCast, ← c2, ← demand_is] at hst2
          obtain ⟨ax, rp, sp, qs, U1⟩ := id U
          have few := v.few
          refine ⟨_, rfl, a, ax, _, rfl, U1.obj, aF_bids, a, x, rfl, U, v, fun H1 p1 s1 n1 h1 => ?_⟩
          obtain ⟨us, q, hus, eq, hq⟩ := bids_row v h1 (i := j) (by omega)
          have hrow : ((Vbndax.bidsOf x).getD j []).length = row.length := by
            have := bids_each v _ (List.mem_of_getElem? (get_some (l := Vbndax.bidsOf x) (i := j) (by rw [bids_len, v.five]; omega) []))
            rw [this, toInts_len]; exact c2.symm
          refine ⟨_, rfl, p1, _, _, _, rfl, rfl, SqL.of hus, at_of rfl eq, _, rfl, q, e, _, row, rfl, SqL.of hq, SqL.of (s1 _ _ he), hrow, by omega, fun H2 p2 s2 n2 h2 => ?_⟩
          have hl : (demand ((Vbndax.bidsOf x).getD j []) row).length ≤ row.length + 1 := by
            refine Nat.le_trans (List.length_filter_le _ _) ?_
            rw [every_len]; exact Nat.le_refl _
          refine ⟨p2, _, rfl, h2, by rw [List.length_map]; omega, fun H3 p3 s3 n3 h3 => ?_⟩
          have sA := (s1.trans s2).trans s3
          refine R.same hst2 (by show (_ :: _).length ≤ _; rw [List.length_cons, List.length_map]; omega) sA hd ?_
          show _ = _
          rw [h3, withLen, List.length_map, List.length_map, List.map_map]
          rfl
      · show (Vbndax.isBidder i && Vbndax.arePrices row) = false
        rw [← list_prices, c, Bool.and_false]
    · show (Vbndax.isBidder i && Vbndax.arePrices row) = false
      rw [bidder_is, decide_eq_false (show ¬ (0 ≤ i ∧ i ≤ 4) from cb), Bool.false_and]
/-! ### Desk.overdemanded -/
abbrev sOverd : Stmt := inClass (top 50) 13
theorem scOverd : FnScope ["self", "prices", "auction", "found"] ["self", "prices"] (defScope sOverd) := ⟨rfl, rfl, rfl, by decide +kernel, rfl, by decide +kernel, by decide +kernel⟩
theorem ok_overd {f fd} (T : Tx mg) (A : Td K mg CD fD) (U0 : Ta K mg CA fA) (D : DefM K CD "overdemanded" "Desk.overdemanded" sOverd ["self", "prices"] f fd) (Gc : Ok P w K mg base (L2.CX P w) 5 "check_list" ["row", "fewest", "most", "greatest"] (spCheck K CR))
    (Go : OkM P w K mg base (L2.CX P w) 6 CD "closed_for" ["self", "row"] (spFor K CD CA CR)) (Gi : OkM P w K mg base CX0 1 CA "bids" ["self"] (spBids CA)) (Gf : Ok P w K mg base CX0 4 "first_overdemanded" ["bids", "prices"] spFirst) :
    OkM P w K mg base (L2.CX P w) 7 CD "overdemanded" ["self", "prices"] (spOpL CD CA CR .overdemandedSet) := by
  obtain ⟨fc, fdc, gc, kc, bc, Fc⟩ := Gc
  obtain ⟨fo, fdo, mo, bo, Fo⟩ := Go
  obtain ⟨fi, fdi, mi, bi, Fi⟩ := Gi
  obtain ⟨ff, fdf, gf, kf, bf, Ff⟩ := Gf
  obtain ⟨t1, hn1⟩ := T.mostL
  obtain ⟨t2, hn2⟩ := T.mostP
  refine D.ok (D.fn.okX scOverd (fun vs H Q E h => ?_) (fun cdv A0 outer s H vs Q E hr h => ⟨_,
      pss_cons (ps_expr (pe_call Fc (hr.mono (by decide)) rfl gc kc bc .nil (passes_call (takes_of rfl rfl rfl rfl) fun _ _ _ _ h => h) (pa_cons (pv 1) (pa_cons pe_int (pa_cons (pe_glob rfl hn1 (relI _ _)) (pa_cons (pe_glob rfl hn2 (relI _ _)) pa_nil))))))
      (pss_cons (ps_set (i := 2) scOverd.nd rfl (Or.inl rfl) (pe_meth (pv 0) A.cl mo Fo hr bo .nil (passes_call (takes_of rfl rfl rfl rfl) fun _ _ _ _ h => h) (pa_cons (pv 1) pa_nil)))
      (pss_cons (ps_set (i := 3) scOverd.nd rfl (Or.inl rfl) (pe_call Ff (hr.mono (by decide)) rfl gf kf bf .nil pass0 (pa_cons (pe_meth0 (pv 2) U0.cl mi Fi (hr.mono (by decide)) bi .nil pass0) (pa_cons (pv 1) pa_nil))))
      (pss_one (ps_ret (pe_ifExp (pt_cmpR op_gt (pv 3) pe_int (nomark _)) (pe_lst (pa_cons pe_int (pa_cons (pv 3) pa_nil))) (pe_lst (pa_cons pe_int pa_nil))))))), ?_⟩))
  · obtain ⟨_, _, _, _, rfl, _⟩ := h
    rfl
  · obtain ⟨d, e, s, row, rfl, hd, he, R⟩ := h
    refine ⟨_, rfl, e, row, 0, 4, 1000, rfl, SqL.of he, fun c => ?_, fun c => R.no (step_bad (by rw [list_prices] at c; exact c)) (by decide)⟩
    rw [list_prices] at c
    have hst := step_ok (s := s) (c := .overdemandedSet row) c
    obtain ⟨dxd, v0, hi⟩ := hd.ins
    refine ⟨_, rfl, d, dxd, _, rfl, hi, dF_no (by decide +kernel), _, rfl, d, e, s, row, rfl, hd, SqL.of he, fun hs => ?_, fun x hs c1 => ?_, fun x hs c1 c2 => ?_, fun x a hs c1 c2 U v => ?_⟩
    · subst hs
      exact R.no hst (by decide)
    · subst hs
      exact R.no (hst.trans ((ex_over _ _).trans (open_open c1))) (by decide)
    · subst hs
      exact R.no (hst.trans ((ex_over _ _).trans ((open_done c1).trans (row_bad c2)))) (by decide)
    · subst hs
      have hst2 := hst.trans ((ex_over _ _).trans ((open_done c1).trans (row_ok c2)))
      rw [← c2] at hst2
      obtain ⟨ax, rp, sp, qs, U1⟩ := id U
      have few := v.few
      refine ⟨_, rfl, a, ax, _, rfl, U1.obj, aF_bids, a, x, rfl, U, v, fun H1 p1 s1 n1 h1 => ?_⟩
      refine ⟨_, rfl, p1, e, _, row, rfl, h1, s1 _ _ he, by omega, fun r hr => by rw [bids_each v r hr, toInts_len]; exact c2.symm, by rw [bids_len, v.five]; decide, fun H2 s2 => ?_⟩
      refine ⟨_, rfl, _, _, rfl, rfl, _, rfl, ?_⟩
      refine ite2 (fun cc => ?_) (fun cc => ?_)
      · have cc := of_decide_eq_true cc
        cases ho : Vbndax.firstOverdemanded (Vbndax.bidsOf x) row row.length with
        | none => rw [firstOver_none ho] at cc; omega
        | some k =>
          refine ⟨_, rfl, sz 2 (by decide), fun p np => ?_⟩
          have hst3 : Vbndax.step (some x) (.overdemandedSet row) = (some x, [0, 1, (k : Int)]) := by rw [hst2, ho]; rfl
          rw [(firstOver_some ho).1]
          have sA := (s1.trans s2).trans (L2.Same.up (o := .lst [.int 1, .int k]) np)
          exact R.same hst3 (by show 2 ≤ 1000; decide) sA hd upd_same
      · have cc : ¬ ((0 : Int) < (firstOver (Vbndax.bidsOf x) row : Int)) := by simpa using cc
        cases ho : Vbndax.firstOverdemanded (Vbndax.bidsOf x) row row.length with
        | some k =>
          have hfs := firstOver_some ho
          rw [hfs.1] at cc
          omega
        | none =>
          refine ⟨sz 1 (by decide), fun p np => ?_⟩
          have hst3 : Vbndax.step (some x) (.overdemandedSet row) = (some x, [0, 0]) := by rw [hst2, ho]
          have sA := (s1.trans s2).trans (L2.Same.up (o := .lst [.int 0]) np)
          exact R.same hst3 (by decide) sA hd upd_same
/-! ### Desk.clock -/
abbrev sClk : Stmt := inClass (top 50) 14
theorem scClk : FnScope ["self", "auction", "sets", "prices"] ["self"] (defScope sClk) := ⟨rfl, rfl, rfl, by decide +kernel, rfl, by decide +kernel, by decide +kernel⟩
theorem ok_clk {f fd} (A : Td K mg CD fD) (U0 : Ta K mg CA fA) (D : DefM K CD "clock" "Desk.clock" sClk ["self"] f fd) (Go : OkM P w K mg base (L2.CX P w) 5 CD "closed_auction" ["self"] (spClosed CD CA CR))
    (Gi : OkM P w K mg base CX0 1 CA "bids" ["self"] (spBids CA)) (Gk : Ok P w K mg base CX0 5 "run_clock" ["bids", "reserves"] spClock) (Gn : Ok P w K mg base CX0 1 "counted" ["row"] spCounted) :
    OkM P w K mg base (L2.CX P w) 6 CD "clock" ["self"] (spOp CD CA CR .runClock) := by
  obtain ⟨fo, fdo, mo, bo, Fo⟩ := Go
  obtain ⟨fi, fdi, mi, bi, Fi⟩ := Gi
  obtain ⟨fk, fdk, gk, kk, bk, Fk⟩ := Gk
  obtain ⟨fn, fdn, gn, kn, bn, Fn⟩ := Gn
  refine D.ok (D.fn.okX scClk (fun vs H Q E h => ?_) (fun cdv A0 outer s H vs Q E hr h => ⟨_,
      pss_cons (ps_set (i := 1) scClk.nd rfl (Or.inl rfl) (pe_meth0 (pv 0) A.cl mo Fo hr bo .nil (passes_call (takes_of rfl rfl rfl rfl) fun _ _ _ _ h => h)))
      (pss_cons (ps_asg (pe_call Fk hr rfl gk kk bk .nil pass0 (pa_cons (pe_meth0 (pv 1) U0.cl mi Fi (hr.mono (by decide)) bi .nil pass0) (pa_cons (pe_fld (pv 1) rfl) pa_nil)))
        (pg_tup rfl (pgs_cons (pg_name (i := 2) scClk.nd rfl (Or.inl rfl)) (pgs_cons (pg_name (i := 3) scClk.nd rfl (Or.inl rfl)) pgs_nil))))
      (pss_one (ps_ret (pe_op op_cat (pe_call Fn (hr.mono (by decide)) rfl gn kn bn .nil pass0 (pa_cons (pv 2) pa_nil)) (pe_call Fn (hr.mono (by decide)) rfl gn kn bn .nil pass0 (pa_cons (pv 3) pa_nil)))))), ?_⟩))
  · obtain ⟨_, _, rfl, _⟩ := h
    rfl
  · obtain ⟨d, s, rfl, hd, R⟩ := h
    obtain ⟨dxd, v0, hi⟩ := hd.ins
    refine ⟨_, rfl, d, dxd, _, rfl, hi, dF_no (by decide +kernel), d, s, rfl, hd, fun hs => ?_, fun x hs c => ?_, fun x a hs c U v => ?_⟩
    · subst hs
      exact R.no rfl (by decide)
    · subst hs
      exact R.no ((step_ok rfl).trans ((ex_clock _).trans (open_open c))) (by decide)
    · subst hs
      have hst := (step_ok (c := .runClock) rfl).trans ((ex_clock (some x)).trans (open_done c))
      obtain ⟨ax, rp, sp, qs, U1⟩ := id U
      refine ⟨_, rfl, a, ax, _, rfl, U1.obj, aF_bids, a, x, rfl, U, v, fun H1 p1 s1 n1 h1 => ?_⟩
      refine ⟨_, rfl, a, CA, ax, _, _, rfl, s1 _ _ U1.obj, U0.cl, U0.res, aF_res, p1, rp, _, x.reserves, rfl, bidsL v h1 (s1 _ _ U1.res), bids_most v, fun H2 t S pa s2 ht hS hpa l1 l2 => ?_⟩
      generalize Vbndax.runClock x.reserves (Vbndax.bidsOf x) = rc at hst hS hpa l1 l2
      refine ⟨t, _, rfl, SqT.of ht, rfl, _, _, rfl, _, _, rfl, rfl, ?_⟩
      refine ⟨_, rfl, S, _, rfl, hS, by rw [List.length_map, toInts_len]; omega, fun H3 p3 s3 n3 h3 => ⟨_, rfl, pa, _, rfl, s3 _ _ hpa, by rw [List.length_map]; omega, fun H4 p4 s4 n4 h4 => ⟨p3, p4, _, _, rfl, rfl, s4 _ _ h3, h4, ?_, fun p np => ?_⟩⟩⟩
      · rw [List.length_cons, List.length_cons, List.length_map, List.length_map, toInts_len]; exact sz _ (by omega)
      · have sA := (((s1.trans s2).trans s3).trans s4).trans (L2.Same.up (o := .lst ((.int (((Vbndax.toInts rc.1).map V.int).length : Nat) :: (Vbndax.toInts rc.1).map V.int) ++ (.int ((rc.2.map V.int).length : Nat) :: rc.2.map V.int))) np)
        refine R.same hst ?_ sA hd ?_
        · rw [List.length_append]
          show ((_ :: _).length + (_ :: _).length) ≤ 1000
          rw [List.length_cons, List.length_cons, toInts_len]
          omega
        · show _ = _
          rw [upd_same, List.map_append, withLen, withLen, List.length_map, List.length_map]
end
end SL
end
/-! ## Wd7 -/
section
namespace SL
open PySem PySem.Spec PyProof.Rows L2
theorem bidsL_set {H : Hp} {a c : Addr} {x : Vbndax.Auction} (v : Valid x) {i : Nat} {row : List Int} (hr : row.length = x.reserves.length) (h1 : RowsL H a ((Vbndax.bidsOf x).set i row)) (h2 : IntsL H c (Vbndax.toInts x.reserves)) :
    BidsL H a c ((Vbndax.bidsOf x).set i row) (Vbndax.toInts x.reserves) := by
  refine ⟨h1, h2, by rw [toInts_len]; exact v.few, fun r hm => ?_, by rw [List.length_set, bids_len, v.five]; decide⟩
  rcases List.mem_or_eq_of_mem_set hm with hm | hm
  · exact bids_each v r hm
  · rw [hm, toInts_len]; exact hr
theorem util_is {x : Vbndax.Auction} (v : Valid x) (b : Vbndax.Bids) (i : Nat) {vals : List Int} (hl : vals.length = x.reserves.length) (h0 : ∀ z ∈ vals, 0 ≤ z) :
    utilOf (Vbndax.lotOfBidder (Vbndax.bestAllocation x.reserves b).2 i) (Vbndax.payment x b i) vals = Vbndax.utilityOfResult x b i (vals.map Int.toNat) := by
  rw [payment_is]
  unfold Vbndax.utilityOfResult
  cases e : Vbndax.lotOfBidder (Vbndax.bestAllocation x.reserves b).2 i with
  | none => rfl
  | some j =>
    have hj := lot_lt v.few e
    have hj2 : j < vals.length := by omega
    show vals.getD j (-1) - Vbndax.minimumPrice x.reserves b j = (((vals.map Int.toNat).getD j 0 : Nat) : Int) - Vbndax.minimumPrice x.reserves b j
    have e1 : vals.getD j (-1) = vals[j] := by simp [List.getD, hj2]
    have e2 : (vals.map Int.toNat).getD j 0 = vals[j].toNat := by simp [List.getD, hj2]
    rw [e1, e2]
    have := h0 vals[j] (List.getElem_mem hj2)
    omega
section
variable {P : Program} {w : World} {K : PySem.W.Frag} {mg : Str → Option Value} {base : Heap} {CA fA CD fD CR fR : Addr}
/-! ### Desk.hypothetical -/
abbrev sHyp : Stmt := inClass (top 50) 15
theorem scHyp : FnScope ["self", "bidder", "bids", "auction"] ["self", "bidder", "bids"] (defScope sHyp) := ⟨rfl, rfl, rfl, by decide +kernel, rfl, by decide +kernel, by decide +kernel⟩
def spHyp (CD CA CR : Addr) : Sp := fun vs H Q E => ∃ (d e : Addr) (s : Vbndax.State) (i : Int) (row : List Int), vs = [.ref d, .int i, .ref e] ∧ DeskAt CD CA H d s ∧ IntsL H e row ∧
  ((Vbndax.isBidder i && Vbndax.areBids row) = false → Refuses CR (-1) H E) ∧
  ((Vbndax.isBidder i && Vbndax.areBids row) = true → (s = none → Refuses CR (-2) H E) ∧ (∀ x, s = some x → x.isClosed = false → Refuses CR (-5) H E) ∧ (∀ x, s = some x → x.isClosed = true → row.length ≠ x.reserves.length → Refuses CR (-7) H E) ∧
    (∀ x, s = some x → x.isClosed = true → row.length = x.reserves.length → Valid x → ∀ H' p, Same H H' →
      H' p = some (.lst [lotV (Vbndax.lotOfBidder (Vbndax.bestAllocation x.reserves ((Vbndax.bidsOf x).set i.toNat row)).2 i.toNat), .int (Vbndax.payment x ((Vbndax.bidsOf x).set i.toNat row) i.toNat)]) → Q (.ref p) H'))
theorem ok_hyp {f fd} (T : Tx mg) (A : Td K mg CD fD) (U0 : Ta K mg CA fA) (D : DefM K CD "hypothetical" "Desk.hypothetical" sHyp ["self", "bidder", "bids"] f fd) (Gb : Ok P w K mg base (L2.CX P w) 4 "check_between" ["number", "low", "high"] (spBetween CR))
    (Gc : Ok P w K mg base (L2.CX P w) 5 "check_list" ["row", "fewest", "most", "greatest"] (spCheck K CR)) (Go : OkM P w K mg base (L2.CX P w) 6 CD "closed_for" ["self", "row"] (spFor K CD CA CR)) (Gi : OkM P w K mg base CX0 2 CA "bids_with" ["self", "bidder", "row"] (spBidsW CA))
    (Gr : Ok P w K mg base CX0 8 "result_of" ["bids", "reserves", "bidder"] spResult) : OkM P w K mg base (L2.CX P w) 9 CD "hypothetical" ["self", "bidder", "bids"] (spHyp CD CA CR) := by
  obtain ⟨fb, fdb, gb, kb, bb, Fb⟩ := Gb
  obtain ⟨fc, fdc, gc, kc, bc, Fc⟩ := Gc
  obtain ⟨fo, fdo, mo, bo, Fo⟩ := Go
  obtain ⟨fi, fdi, mi, bi, Fi⟩ := Gi
  obtain ⟨fr, fdr, gr, kr, br, Fr⟩ := Gr
  obtain ⟨t1, hn1⟩ := T.mostL
  obtain ⟨t2, hn2⟩ := T.mostB
  obtain ⟨t3, hn3⟩ := T.bidders
  refine D.ok (D.fn.okX scHyp (fun vs H Q E h => ?_) (fun cdv A0 outer s H vs Q E hr h => ⟨_,
      pss_cons (ps_expr (pe_call Fb (hr.mono (by decide)) rfl gb kb bb .nil (passes_call (takes_of rfl rfl rfl rfl) fun _ _ _ _ h => h) (pa_cons (pv 1) (pa_cons pe_int (pa_cons (pe_op op_sub (pe_glob rfl hn3 (relI _ _)) pe_int) pa_nil)))))
      (pss_cons (ps_expr (pe_call Fc (hr.mono (by decide)) rfl gc kc bc .nil (passes_call (takes_of rfl rfl rfl rfl) fun _ _ _ _ h => h) (pa_cons (pv 2) (pa_cons pe_int (pa_cons (pe_glob rfl hn1 (relI _ _)) (pa_cons (pe_glob rfl hn2 (relI _ _)) pa_nil))))))
      (pss_cons (ps_set (i := 3) scHyp.nd rfl (Or.inl rfl) (pe_meth (pv 0) A.cl mo Fo (hr.mono (by decide)) bo .nil (passes_call (takes_of rfl rfl rfl rfl) fun _ _ _ _ h => h) (pa_cons (pv 2) pa_nil)))
      (pss_one (ps_ret (pe_call Fr hr rfl gr kr br .nil pass0 (pa_cons (pe_meth (pv 3) U0.cl mi Fi (hr.mono (by decide)) bi .nil pass0 (pa_cons (pv 1) (pa_cons (pv 2) pa_nil))) (pa_cons (pe_fld (pv 3) rfl) (pa_cons (pv 1) pa_nil)))))))), ?_⟩))
  · obtain ⟨_, _, _, _, _, rfl, _⟩ := h
    rfl
  · obtain ⟨d, e, s, i, row, rfl, hd, he, q1, q2⟩ := h
    refine ⟨_, rfl, _, _, rfl, rfl, i, 0, 5 - 1, rfl, fun cb => ?_, fun cb => q1 ?_⟩
    · have cb' : Vbndax.isBidder i = true := by rw [bidder_is]; exact decide_eq_true cb
      refine ⟨_, rfl, e, row, 0, 4, 60, rfl, SqL.of he, fun c => ?_, fun c => q1 ?_⟩
      · rw [list_bids] at c
        obtain ⟨r1, r2, r3, r4⟩ := q2 (by rw [cb', c]; rfl)
        obtain ⟨dxd, v0, hi⟩ := hd.ins
        obtain ⟨j, rfl⟩ : ∃ j : Nat, i = (j : Int) := ⟨i.toNat, by omega⟩
        refine ⟨_, rfl, d, dxd, _, rfl, hi, dF_no (by decide +kernel), _, rfl, d, e, s, row, rfl, hd, SqL.of he, r1, r2, r3, fun x a hs c1 c2 U v => ?_⟩
        obtain ⟨ax, rp, sp, qs, U1⟩ := id U
        rw [Int.toNat_natCast] at r4
        refine ⟨_, rfl, a, ax, _, rfl, U1.obj, aF_with, _, rfl, _, rfl, a, e, x, j, row, rfl, U, v, by omega, he, fun H1 p1 s1 n1 h1 => ?_⟩
        refine ⟨_, rfl, a, CA, ax, _, _, rfl, s1 _ _ U1.obj, U0.cl, U0.res, aF_res, _, rfl, p1, rp, _, _, j, rfl, bidsL_set v c2 h1 (s1 _ _ U1.res), by rw [List.length_set, bids_len, v.five]; omega, fun H2 p2 s2 n2 h2 => ?_⟩
        refine r4 x hs c1 c2 v H2 p2 (s1.trans s2) ?_
        rw [h2, pay_of v, lot_of _ v.few]
      · rw [← list_bids, c, Bool.and_false]
    · rw [bidder_is, decide_eq_false (show ¬ (0 ≤ i ∧ i ≤ 4) from cb), Bool.false_and]
theorem ok_hypD (G : OkM P w K mg base (L2.CX P w) 9 CD "hypothetical" ["self", "bidder", "bids"] (spHyp CD CA CR)) : OkM P w K mg base (L2.CX P w) 9 CD "hypothetical" ["self", "bidder", "bids"] (spOpIL CD CA CR .hypotheticalResult) := by
  obtain ⟨f, fd, m, b, F⟩ := G
  refine ⟨f, fd, m, b, F.imp fun vs H Q E h => ?_⟩
  obtain ⟨d, e, s, i, row, rfl, hd, he, R⟩ := h
  refine ⟨d, e, s, i, row, rfl, hd, he, fun c => R.no (step_bad c) (by decide), fun c => ?_⟩
  have hst := step_ok (s := s) (c := .hypotheticalResult i row) c
  refine ⟨fun hs => ?_, fun x hs c1 => ?_, fun x hs c1 c2 => ?_, fun x hs c1 c2 v H' p s' hp => ?_⟩
  · subst hs
    exact R.no hst (by decide)
  · subst hs
    exact R.no (hst.trans ((ex_hyp _ _ _).trans (open_open c1))) (by decide)
  · subst hs
    exact R.no (hst.trans ((ex_hyp _ _ _).trans ((open_done c1).trans (row_bad c2)))) (by decide)
  · subst hs
    have hst2 := hst.trans ((ex_hyp _ _ _).trans ((open_done c1).trans (row_ok c2)))
    exact R.same hst2 (by show 2 ≤ 1000; decide) s' hd hp
/-! ### Desk.utility -/
abbrev sUti : Stmt := inClass (top 50) 16
theorem scUti : FnScope ["self", "bidder", "values", "auction"] ["self", "bidder", "values"] (defScope sUti) := ⟨rfl, rfl, rfl, by decide +kernel, rfl, by decide +kernel, by decide +kernel⟩
theorem ok_uti {f fd} (T : Tx mg) (A : Td K mg CD fD) (U0 : Ta K mg CA fA) (D : DefM K CD "utility" "Desk.utility" sUti ["self", "bidder", "values"] f fd) (Gb : Ok P w K mg base (L2.CX P w) 4 "check_between" ["number", "low", "high"] (spBetween CR))
    (Gc : Ok P w K mg base (L2.CX P w) 5 "check_list" ["row", "fewest", "most", "greatest"] (spCheck K CR)) (Go : OkM P w K mg base (L2.CX P w) 6 CD "closed_for" ["self", "row"] (spFor K CD CA CR)) (Gi : OkM P w K mg base CX0 1 CA "bids" ["self"] (spBids CA))
    (Gr : Ok P w K mg base CX0 8 "result_of" ["bids", "reserves", "bidder"] spResult) (Gu : Ok P w K mg base CX0 1 "utility_of" ["result", "values"] spUtilOf) : OkM P w K mg base (L2.CX P w) 9 CD "utility" ["self", "bidder", "values"] (spOpIL CD CA CR .utility) := by
  obtain ⟨fb, fdb, gb, kb, bb, Fb⟩ := Gb
  obtain ⟨fc, fdc, gc, kc, bc, Fc⟩ := Gc
  obtain ⟨fo, fdo, mo, bo, Fo⟩ := Go
  obtain ⟨fi, fdi, mi, bi, Fi⟩ := Gi
  obtain ⟨fr, fdr, gr, kr, br, Fr⟩ := Gr
  obtain ⟨fu, fdu, gu, ku, bu, Fu⟩ := Gu
  obtain ⟨t1, hn1⟩ := T.mostL
  obtain ⟨t2, hn2⟩ := T.mostB
  obtain ⟨t3, hn3⟩ := T.bidders
  refine D.ok (D.fn.okX scUti (fun vs H Q E h => ?_) (fun cdv A0 outer s H vs Q E hr h => ⟨_,
      pss_cons (ps_expr (pe_call Fb (hr.mono (by decide)) rfl gb kb bb .nil (passes_call (takes_of rfl rfl rfl rfl) fun _ _ _ _ h => h) (pa_cons (pv 1) (pa_cons pe_int (pa_cons (pe_op op_sub (pe_glob rfl hn3 (relI _ _)) pe_int) pa_nil)))))
      (pss_cons (ps_expr (pe_call Fc (hr.mono (by decide)) rfl gc kc bc .nil (passes_call (takes_of rfl rfl rfl rfl) fun _ _ _ _ h => h) (pa_cons (pv 2) (pa_cons pe_int (pa_cons (pe_glob rfl hn1 (relI _ _)) (pa_cons (pe_glob rfl hn2 (relI _ _)) pa_nil))))))
      (pss_cons (ps_set (i := 3) scUti.nd rfl (Or.inl rfl) (pe_meth (pv 0) A.cl mo Fo (hr.mono (by decide)) bo .nil (passes_call (takes_of rfl rfl rfl rfl) fun _ _ _ _ h => h) (pa_cons (pv 2) pa_nil)))
      (pss_one (ps_ret (pe_lst (pa_cons (pe_call Fu (hr.mono (by decide)) rfl gu ku bu .nil pass0 (pa_cons (pe_call Fr hr rfl gr kr br .nil pass0 (pa_cons (pe_meth0 (pv 3) U0.cl mi Fi (hr.mono (by decide)) bi .nil pass0) (pa_cons (pe_fld (pv 3) rfl) (pa_cons (pv 1) pa_nil)))) (pa_cons (pv 2) pa_nil))) pa_nil)))))), ?_⟩))
  · obtain ⟨_, _, _, _, _, rfl, _⟩ := h
    rfl
  · obtain ⟨d, e, s, i, row, rfl, hd, he, R⟩ := h
    refine ⟨_, rfl, _, _, rfl, rfl, i, 0, 5 - 1, rfl, fun cb => ?_, fun cb => R.no (step_bad ?_) (by decide)⟩
    · have cb' : Vbndax.isBidder i = true := by rw [bidder_is]; exact decide_eq_true cb
      refine ⟨_, rfl, e, row, 0, 4, 60, rfl, SqL.of he, fun c => ?_, fun c => R.no (step_bad ?_) (by decide)⟩
      · rw [list_bids] at c
        have hst := step_ok (s := s) (c := .utility i row) (by show (Vbndax.isBidder i && Vbndax.areBids row) = true; rw [cb', c]; rfl)
        obtain ⟨dxd, v0, hi⟩ := hd.ins
        obtain ⟨j, rfl⟩ : ∃ j : Nat, i = (j : Int) := ⟨i.toNat, by omega⟩
        refine ⟨_, rfl, d, dxd, _, rfl, hi, dF_no (by decide +kernel), _, rfl, d, e, s, row, rfl, hd, SqL.of he, fun hs => ?_, fun x hs c1 => ?_, fun x hs c1 c2 => ?_, fun x a hs c1 c2 U v => ?_⟩
        · subst hs
          exact R.no hst (by decide)
        · subst hs
          exact R.no (hst.trans ((ex_util _ _ _).trans (open_open c1))) (by decide)
        · subst hs
          exact R.no (hst.trans ((ex_util _ _ _).trans ((open_done c1).trans (row_bad c2)))) (by decide)
        · subst hs
          have hst2 := hst.trans ((ex_util _ _ _).trans ((open_done c1).trans (row_ok c2)))
          rw [Int.toNat_natCast] at hst2
          obtain ⟨ax, rp, sp, qs, U1⟩ := id U
          refine ⟨_, rfl, a, ax, _, rfl, U1.obj, aF_bids, a, x, rfl, U, v, fun H1 p1 s1 n1 h1 => ?_⟩
          refine ⟨_, rfl, a, CA, ax, _, _, rfl, s1 _ _ U1.obj, U0.cl, U0.res, aF_res, _, rfl, p1, rp, _, _, j, rfl, bidsL v h1 (s1 _ _ U1.res), by rw [bids_len, v.five]; omega, fun H2 p2 s2 n2 h2 => ?_⟩
          rw [pay_of v, lot_of _ v.few] at h2
          refine ⟨_, rfl, p2, e, _, _, row, rfl, h2, s2 _ _ (s1 _ _ he), fun k hk => by rw [c2]; exact lot_lt v.few hk, sz 1 (by decide), fun p np => ?_⟩
          rw [util_is v _ j c2 fun z hz => ((bids_facts c).2 z hz).1]
          have sA := (s1.trans s2).trans (L2.Same.up (o := .lst [.int (Vbndax.utilityOfResult x (Vbndax.bidsOf x) j (row.map Int.toNat))]) np)
          exact R.same hst2 (by show 1 ≤ 1000; decide) sA hd upd_same
      · show (Vbndax.isBidder i && Vbndax.areBids row) = false
        rw [← list_bids, c, Bool.and_false]
    · show (Vbndax.isBidder i && Vbndax.areBids row) = false
      rw [bidder_is, decide_eq_false (show ¬ (0 ≤ i ∧ i ≤ 4) from cb), Bool.false_and]
/-! ### Desk.truthful_utility -/
abbrev sTru : Stmt := inClass (top 50) 17
theorem scTru : FnScope ["self", "bidder", "values"] ["self", "bidder", "values"] (defScope sTru) := ⟨rfl, rfl, rfl, by decide +kernel, rfl, by decide +kernel, by decide +kernel⟩
theorem ok_tru {f fd} (A : Td K mg CD fD) (D : DefM K CD "truthful_utility" "Desk.truthful_utility" sTru ["self", "bidder", "values"] f fd) (Gh : OkM P w K mg base (L2.CX P w) 9 CD "hypothetical" ["self", "bidder", "bids"] (spHyp CD CA CR))
    (Gu : Ok P w K mg base CX0 1 "utility_of" ["result", "values"] spUtilOf) : OkM P w K mg base (L2.CX P w) 10 CD "truthful_utility" ["self", "bidder", "values"] (spOpIL CD CA CR .truthfulUtility) := by
  obtain ⟨fh, fdh, mh, bh, Fh⟩ := Gh
  obtain ⟨fu, fdu, gu, ku, bu, Fu⟩ := Gu
  refine D.ok (D.fn.okX scTru (fun vs H Q E h => ?_) (fun cdv A0 outer s H vs Q E hr h => ⟨_,
      pss_one (ps_ret (pe_lst (pa_cons (pe_call Fu (hr.mono (by decide)) rfl gu ku bu .nil pass0 (pa_cons (pe_meth (pv 0) A.cl mh Fh hr bh .nil (passes_call (takes_of rfl rfl rfl rfl) fun _ _ _ _ h => h) (pa_cons (pv 1) (pa_cons (pv 2) pa_nil))) (pa_cons (pv 2) pa_nil))) pa_nil))), ?_⟩))
  · obtain ⟨_, _, _, _, _, rfl, _⟩ := h
    rfl
  · obtain ⟨d, e, s, i, row, rfl, hd, he, R⟩ := h
    obtain ⟨dxd, v0, hi⟩ := hd.ins
    refine ⟨_, rfl, d, dxd, _, rfl, hi, dF_no (by decide +kernel), _, rfl, _, rfl, d, e, s, i, row, rfl, hd, he, fun c => R.no (step_bad c) (by decide), fun c => ?_⟩
    have hst := step_ok (s := s) (c := .truthfulUtility i row) c
    rw [Bool.and_eq_true] at c
    refine ⟨fun hs => ?_, fun x hs c1 => ?_, fun x hs c1 c2 => ?_, fun x hs c1 c2 v H' p s' hp => ?_⟩
    · subst hs
      exact R.no hst (by decide)
    · subst hs
      exact R.no (hst.trans ((ex_truth _ _ _).trans (open_open c1))) (by decide)
    · subst hs
      exact R.no (hst.trans ((ex_truth _ _ _).trans ((open_done c1).trans (row_bad c2)))) (by decide)
    · subst hs
      have hst2 := hst.trans ((ex_truth _ _ _).trans ((open_done c1).trans (row_ok c2)))
      refine ⟨_, rfl, p, e, _, _, row, rfl, hp, s' _ _ he, fun k hk => by rw [c2]; exact lot_lt v.few hk, sz 1 (by decide), fun p2 np => ?_⟩
      rw [util_is v _ _ c2 fun z hz => ((bids_facts c.2).2 z hz).1]
      have sA := s'.trans (L2.Same.up (o := .lst [.int (Vbndax.utilityOfResult x ((Vbndax.bidsOf x).set i.toNat row) i.toNat (row.map Int.toNat))]) np)
      exact R.same hst2 (by show 1 ≤ 1000; decide) sA hd upd_same
end
end SL
end
/-! ## Wd8 -/
section
namespace SL
open PySem PySem.Spec PyProof.Rows L2
theorem flat_rows (n : Nat) : ∀ b : List (List Int), (∀ row ∈ b, row.length = n) → (b.flatMap fun l => l.take n) = b.flatten
  | [], _ => rfl
  | r :: b, h => by
    rw [List.flatMap_cons, List.flatten_cons, flat_rows n b fun row hr => h row (List.mem_cons_of_mem _ hr), List.take_of_length_le (by rw [h r (List.mem_cons_self ..)]; exact Nat.le_refl _)]
theorem flat_len (n : Nat) : ∀ b : List (List Int), (∀ row ∈ b, row.length = n) → b.flatten.length = n * b.length
  | [], _ => rfl
  | r :: b, h => by
    rw [List.flatten_cons, List.length_append, flat_len n b fun row hr => h row (List.mem_cons_of_mem _ hr), h r (List.mem_cons_self ..), List.length_cons, Nat.mul_succ]
    omega
section
variable {P : Program} {w : World} {K : PySem.W.Frag} {mg : Str → Option Value} {base : Heap} {CA fA CD fD CR fR : Addr}
/-! ### Desk.total_without -/
abbrev sWo : Stmt := inClass (top 50) 18
theorem scWo : FnScope ["self", "bidder", "auction", "bids"] ["self", "bidder"] (defScope sWo) := ⟨rfl, rfl, rfl, by decide +kernel, rfl, by decide +kernel, by decide +kernel⟩
def spOpI (CD CA CR : Addr) (c : Int → Vbndax.Call) : Sp := fun vs H Q E => ∃ (d : Addr) (s : Vbndax.State) (i : Int), vs = [.ref d, .int i] ∧ DeskAt CD CA H d s ∧ Did CD CA CR d d s (c i) H Q E
theorem ok_wo {f fd} (T : Tx mg) (A : Td K mg CD fD) (U0 : Ta K mg CA fA) (D : DefM K CD "total_without" "Desk.total_without" sWo ["self", "bidder"] f fd) (Gb : Ok P w K mg base (L2.CX P w) 4 "check_between" ["number", "low", "high"] (spBetween CR))
    (Go : OkM P w K mg base (L2.CX P w) 5 CD "closed_auction" ["self"] (spClosed CD CA CR)) (Gi : OkM P w K mg base CX0 1 CA "bids" ["self"] (spBids CA)) (Gt : Ok P w K mg base CX0 5 "total_value" ["bids", "reserves"] (spTotal K)) :
    OkM P w K mg base (L2.CX P w) 6 CD "total_without" ["self", "bidder"] (spOpI CD CA CR .totalWithout) := by
  obtain ⟨fb, fdb, gb, kb, bb, Fb⟩ := Gb
  obtain ⟨fo, fdo, mo, bo, Fo⟩ := Go
  obtain ⟨fi, fdi, mi, bi, Fi⟩ := Gi
  obtain ⟨ft, fdt, gt, kt, bt, Ft⟩ := Gt
  obtain ⟨t3, hn3⟩ := T.bidders
  refine D.ok (D.fn.okX scWo (fun vs H Q E h => ?_) (fun cdv A0 outer s H vs Q E hr h => ⟨_,
      pss_cons (ps_expr (pe_call Fb (hr.mono (by decide)) rfl gb kb bb .nil (passes_call (takes_of rfl rfl rfl rfl) fun _ _ _ _ h => h) (pa_cons (pv 1) (pa_cons pe_int (pa_cons (pe_op op_sub (pe_glob rfl hn3 (relI _ _)) pe_int) pa_nil)))))
      (pss_cons (ps_set (i := 2) scWo.nd rfl (Or.inl rfl) (pe_meth0 (pv 0) A.cl mo Fo hr bo .nil (passes_call (takes_of rfl rfl rfl rfl) fun _ _ _ _ h => h)))
      (pss_cons (ps_set (i := 3) scWo.nd rfl (Or.inl rfl) (pe_meth0 (pv 2) U0.cl mi Fi (hr.mono (by decide)) bi .nil pass0))
      (pss_one (ps_ret (pe_lst (pa_cons (pe_call Ft hr rfl gt kt bt .nil pass0 (pa_cons (pe_op op_cat (pe_slice sl_list (pv 3) po_none (po_some (pv 1))) (pe_slice sl_list (pv 3) (po_some (pe_op op_add (pv 1) pe_int)) po_none)) (pa_cons (pe_fld (pv 2) rfl) pa_nil))) pa_nil)))))), ?_⟩))
  · obtain ⟨_, _, _, rfl, _⟩ := h
    rfl
  · obtain ⟨d, s, i, rfl, hd, R⟩ := h
    refine ⟨_, rfl, _, _, rfl, rfl, i, 0, 5 - 1, rfl, fun cb => ?_, fun cb => R.no (step_bad ?_) (by decide)⟩
    · have cb' : Vbndax.isBidder i = true := by rw [bidder_is]; exact decide_eq_true cb
      have hst := step_ok (s := s) (c := .totalWithout i) cb'
      obtain ⟨dxd, v0, hi⟩ := hd.ins
      obtain ⟨j, rfl⟩ : ∃ j : Nat, i = (j : Int) := ⟨i.toNat, by omega⟩
      refine ⟨_, rfl, d, dxd, _, rfl, hi, dF_no (by decide +kernel), d, s, rfl, hd, fun hs => ?_, fun x hs c1 => ?_, fun x a hs c1 U v => ?_⟩
      · subst hs
        exact R.no hst (by decide)
      · subst hs
        exact R.no (hst.trans ((ex_without _ _).trans (open_open c1))) (by decide)
      · subst hs
        have hst2 := hst.trans ((ex_without _ _).trans (open_done c1))
        rw [Int.toNat_natCast] at hst2
        obtain ⟨ax, rp, sp, qs, U1⟩ := id U
        have few := v.few
        refine ⟨_, rfl, a, ax, _, rfl, U1.obj, aF_bids, a, x, rfl, U, v, fun H1 p1 s1 n1 h1 => ?_⟩
        obtain ⟨us, hus, hul, hrow⟩ := h1
        refine ⟨_, rfl, _, rfl, j, rfl, p1, _, rfl, SqL.of hus, fun p2 n2 => ⟨_, rfl, _, rfl, _, _, rfl, rfl, _, rfl, p1, _, rfl, SqL.of ((L2.Same.up n2) _ _ hus), fun p3 n3 => ?_⟩⟩
        have e1 : ((j : Int) + 1) = ((j + 1 : Nat) : Int) := by simp
        rw [cut_to] at n3 ⊢
        rw [e1, cut_from]
        have sa := L2.Same.up (H := H1) (o := .lst ((us.map V.ref).take j)) n2
        have sb := L2.Same.up (o := .lst ((us.map V.ref).drop (j + 1))) n3
        refine ⟨p2, p3, (us.map V.ref).take j, (us.map V.ref).drop (j + 1), rfl, rfl, sb p2 (.lst ((us.map V.ref).take j)) upd_same, upd_same, ?_, fun p4 n4 => ?_⟩
        · rw [List.length_take, List.length_drop, List.length_map, hul, bids_len, v.five]; exact sz _ (by omega)
        · have sc := (sa.trans sb).trans (L2.Same.up (o := .lst ((us.map V.ref).take j ++ (us.map V.ref).drop (j + 1))) n4)
          have hH : (upd (upd (upd H1 p2 (.lst ((us.map V.ref).take j))) p3 (.lst ((us.map V.ref).drop (j + 1)))) p4 (.lst ((us.map V.ref).take j ++ (us.map V.ref).drop (j + 1)))) p4 = some (.lst ((us.take j ++ us.drop (j + 1)).map V.ref)) := by
            rw [upd_same, List.map_append, List.map_take, List.map_drop]
          generalize upd (upd (upd H1 p2 (.lst ((us.map V.ref).take j))) p3 (.lst ((us.map V.ref).drop (j + 1)))) p4 (.lst ((us.map V.ref).take j ++ (us.map V.ref).drop (j + 1))) = H4 at sc hH ⊢
          have B : BidsAt K H4 p4 rp ((Vbndax.bidsOf x).eraseIdx j) (Vbndax.toInts x.reserves) := by
            refine ⟨RowsL.weak ⟨us.take j ++ us.drop (j + 1), hH, ?_, fun k q r e2 e3 => ?_⟩, SqL.of (sc _ _ (s1 _ _ U1.res)), by rw [toInts_len]; omega, fun r hr => bids_each v r (List.mem_of_mem_eraseIdx hr), ?_⟩
            · rw [wout_is, List.length_eraseIdx, List.length_eraseIdx, hul]
            · rw [wout_is, List.getElem?_eraseIdx] at e2
              rw [List.getElem?_eraseIdx] at e3
              by_cases hk : k < j
              · rw [if_pos hk] at e2 e3
                exact sc _ _ (hrow k q r e2 e3)
              · rw [if_neg hk] at e2 e3
                exact sc _ _ (hrow (k + 1) q r e2 e3)
            · rw [List.length_eraseIdx, bids_len, v.five]
              split <;> omega
          refine ⟨_, rfl, a, CA, ax, _, _, rfl, sc _ _ (s1 _ _ U1.obj), U0.cl, U0.res, aF_res, p4, rp, _, _, rfl, B, fun H5 s5 => ⟨sz 1 (by decide), fun p np => ?_⟩⟩
          have sA := ((s1.trans sc).trans s5).trans (L2.Same.up (o := .lst [.int (totalVal ((Vbndax.bidsOf x).eraseIdx j) (Vbndax.toInts x.reserves))]) np)
          refine R.same hst2 (by show 1 ≤ 1000; decide) sA hd ?_
          show _ = _
          rw [upd_same, totalVal_is _ _ (by omega)]
          rfl
    · show Vbndax.isBidder i = false
      rw [bidder_is, decide_eq_false (show ¬ (0 ≤ i ∧ i ≤ 4) from cb)]
/-! ### Desk.list_submitted -/
abbrev sLs : Stmt := inClass (top 50) 19
theorem scLs : FnScope ["self", "row"] ["self"] (defScope sLs) := ⟨rfl, rfl, rfl, by decide +kernel, rfl, by decide +kernel, by decide +kernel⟩
def flagOf (o : Option (List Nat)) : Nat := if o.isSome = true then 1 else 0
theorem ok_ls {f fd} (T : Tx mg) (A : Td K mg CD fD) (U0 : Ta K mg CA fA) (D : DefM K CD "list_submitted" "Desk.list_submitted" sLs ["self"] f fd) (Go : OkM P w K mg base (L2.CX P w) 4 CD "open_auction" ["self"] (spOpen CD CA CR)) :
    OkM P w K mg base (L2.CX P w) 5 CD "list_submitted" ["self"] (spOp CD CA CR .listSubmitted) := by
  obtain ⟨fo, fdo, mo, bo, Fo⟩ := Go
  refine D.ok (D.fn.okX scLs (fun vs H Q E h => ?_) (fun cdv A0 outer s H vs Q E hr h => ⟨_,
      pss_one (ps_ret (pe_lc (own := [("row", 1)]) (g := gName 1) (tt := tYes) rfl scLs.nd (pi_list (pe_fld (pe_meth0 (pv 0) A.cl mo Fo hr bo .nil (passes_call (takes_of rfl rfl rfl rfl) fun _ _ _ _ h => h)) rfl)) (blkOk_by (N := ["self", "row"]) (sc := defScope sLs) (by decide +kernel))
          (fun _ _ _ _ _ => pg_name (i := 1) scLs.nd rfl (Or.inl rfl)) (fun _ _ _ _ _ => pts_nil) (fun _ _ _ _ _ => pe_callTy call_int1 (by rfl) T.int (by decide +kernel) (pa_cons (pe_cmp (pc_notN (pv 1))) pa_nil)))), ?_⟩))
  · obtain ⟨_, _, rfl, _⟩ := h
    rfl
  · obtain ⟨d, s, rfl, hd, R⟩ := h
    obtain ⟨dxd, v0, hi⟩ := hd.ins
    refine ⟨_, rfl, d, dxd, _, rfl, hi, dF_no (by decide +kernel), d, s, rfl, hd, fun hs => ?_, fun x a hs U v hda => ?_⟩
    · subst hs
      exact R.no rfl (by decide)
    · subst hs
      obtain ⟨ax, rp, sp, qs, U1⟩ := id U
      have h5 := sub_len U1 v
      have hst : Vbndax.step (some x) .listSubmitted = (some x, 0 :: Vbndax.toInts (x.sealedBids.map flagOf)) := rfl
      refine ⟨a, CA, ax, _, _, rfl, U1.obj, U0.cl, U0.sub, aF_sub, sp, rfl, ⟨_, SqL.of U1.lst⟩, fun D0 hD => lc_it walk_list (Made H D0 (outs x.sealedBids (fun _ => true) (fun o => V.int (flagOf o : Nat)))) (Made.zero hD (outs_zero _ _ _)) (fun i H' _ m => SqL.of (m.1 _ _ U1.lst)) ?_ ?_⟩
      · rintro i y H2 H3 hi2 m ⟨rfl, e⟩
        have hib : i < x.sealedBids.length := by rw [← U1.sub.1]; exact hi2
        have hk : x.sealedBids[i]? = some x.sealedBids[i] := List.getElem?_eq_getElem hib
        generalize x.sealedBids[i] = o at hk
        have so := U1.sub.2 i y o e hk
        refine ⟨rfl, yes_if ⟨_, rfl, .inr ⟨_, rfl, Made.put hD m (Same.refl _) (Nat.le_trans (outs_len _ _ _ _) (by rw [v.five]; decide)) ?_ fun _ z => z⟩⟩⟩
        rw [outs_yes hk rfl]
        cases o with
        | none =>
          obtain rfl : y = .non := so
          rfl
        | some l =>
          obtain ⟨q, rfl, _⟩ := so
          rfl
      · intro H2 m
        rw [U1.sub.1] at m
        refine R.same hst ?_ m.1 hd ?_
        · rw [toInts_len, List.length_map, v.five]; decide
        · show _ = _
          rw [m.2, outs_all, filter_yes]
          unfold Vbndax.toInts
          rw [List.map_map, List.map_map]
          rfl
/-! ### Desk.list_bids -/
abbrev sLb : Stmt := inClass (top 50) 20
theorem scLb : FnScope ["self", "found", "row"] ["self"] (defScope sLb) := ⟨rfl, rfl, rfl, by decide +kernel, rfl, by decide +kernel, by decide +kernel⟩
theorem ok_lb {f fd} (A : Td K mg CD fD) (U0 : Ta K mg CA fA) (D : DefM K CD "list_bids" "Desk.list_bids" sLb ["self"] f fd) (Go : OkM P w K mg base (L2.CX P w) 5 CD "closed_auction" ["self"] (spClosed CD CA CR))
    (Gi : OkM P w K mg base CX0 1 CA "bids" ["self"] (spBids CA)) : OkM P w K mg base (L2.CX P w) 6 CD "list_bids" ["self"] (spOp CD CA CR .listBids) := by
  obtain ⟨fo, fdo, mo, bo, Fo⟩ := Go
  obtain ⟨fi, fdi, mi, bi, Fi⟩ := Gi
  refine D.ok (D.fn.okX scLb (fun vs H Q E h => ?_) (fun cdv A0 outer s H vs Q E hr h => ⟨_,
      pss_cons (ps_set (i := 1) scLb.nd rfl (Or.inl rfl) (pe_lst pa_nil))
      (pss_cons (ps_for (passes_of rfl) rfl (pi_list (pe_meth0 (pe_meth0 (pv 0) A.cl mo Fo hr bo .nil (passes_call (takes_of rfl rfl rfl rfl) fun _ _ _ _ h => h)) U0.cl mi Fi (hr.mono (by decide)) bi .nil pass0)) (pg_name (i := 2) scLb.nd rfl (Or.inl rfl))
        (pss_one (ps_expr (pe_bm PySem.F.plainAttrs_list PySem.F.slot_list_extend PySem.F.type_list_extend mt_extend (pv 1) (pa_cons (pv 2) pa_nil)))))
      (pss_one (ps_ret (pv 1)))), ?_⟩))
  · obtain ⟨_, _, rfl, _⟩ := h
    rfl
  · obtain ⟨d, s, rfl, hd, R⟩ := h
    obtain ⟨dxd, v0, hi⟩ := hd.ins
    refine ⟨sz 0 (by decide), fun F hF => ?_⟩
    have s0 := L2.Same.up (H := H) (o := .lst []) hF
    have hd0 := hd.keep s0
    refine ⟨_, rfl, d, dxd, _, rfl, s0 _ _ hi, dF_no (by decide +kernel), d, s, rfl, hd0, fun hs => ?_, fun x hs c => ?_, fun x a hs c U v => ?_⟩
    · subst hs
      exact (R.no rfl (by decide)).keep s0
    · subst hs
      exact (R.no ((step_ok rfl).trans ((ex_bids _).trans (open_open c))) (by decide)).keep s0
    · subst hs
      have hst := (step_ok (c := .listBids) rfl).trans ((ex_bids (some x)).trans (open_done c))
      have each : ∀ row ∈ Vbndax.bidsOf x, row.length = x.reserves.length := fun row hr => (bids_each v row hr).trans (toInts_len _)
      rw [flat_rows _ _ each] at hst
      have few := v.few
      obtain ⟨ax, rp, sp, qs, U1⟩ := id U
      refine ⟨a, ax, _, rfl, U1.obj, aF_bids, a, x, rfl, U, v, fun H1 p1 s1 n1 h1 => ?_⟩
      obtain ⟨us, hus, hul, hrow⟩ := h1.get
      have hb5 : (Vbndax.bidsOf x).length = 5 := by rw [bids_len, v.five]
      refine ⟨p1, rfl, ⟨_, SqL.of hus⟩, for_it walk_list (fun i σ H' => ∃ rv : Option V, σ = [some (.ref d), some (.ref F), rv] ∧ (∀ b o, H1 b = some o → b ≠ F → H' b = some o) ∧ IntsL H' F ((Vbndax.bidsOf x).take i).flatten) ⟨none, rfl, fun _ _ h _ => h, s1 _ _ upd_same⟩
        (fun i σ H' _ ⟨_, _, k, _⟩ => SqL.of (k _ _ hus (Ne.symm (ne_of_none (upd_same (H := H)) n1)))) ?_ ?_⟩
      · rintro i y σ H2 H3 hi2 ⟨rv, rfl, k, hf⟩ ⟨rfl, e⟩
        rw [List.length_map, hul] at hi2
        have hk : (Vbndax.bidsOf x)[i]? = some (Vbndax.bidsOf x)[i] := List.getElem?_eq_getElem hi2
        generalize (Vbndax.bidsOf x)[i] = row at hk
        obtain ⟨z, _, e3, hz⟩ := hrow i row hk
        obtain rfl : y = V.ref z := by rw [e3] at e; exact (Option.some.inj e).symm
        have hrl := each row (List.mem_of_getElem? hk)
        have hzF : z ≠ F := by
          refine ne_of hz (s1 _ _ upd_same) fun q => ?_
          have q : row.map V.int = [] := HO.lst.inj q
          have q := congrArg List.length q
          rw [List.length_map, hrl] at q
          have q0 : x.reserves.length = 0 := q
          have h1 := v.one
          omega
        have htl := flat_len x.reserves.length ((Vbndax.bidsOf x).take i) fun r hr => each r (List.mem_of_mem_take hr)
        have hti : ((Vbndax.bidsOf x).take i).length ≤ 5 := by rw [List.length_take]; omega
        have hmul : x.reserves.length * ((Vbndax.bidsOf x).take i).length ≤ 4 * 5 := Nat.mul_le_mul few hti
        refine ⟨_, rfl, .inl ⟨rfl, _, SqL.of hf⟩, _, rfl, F, z, _, _, rfl, rfl, hf, k _ _ hz hzF, ?_, ?_⟩
        · rw [List.length_map, List.length_map, htl]; exact sz _ (by omega)
        · refine ⟨_, rfl, fun b o hb hbF => (upd_ne hbF).trans (k b o hb hbF), ?_⟩
          show _ = _
          rw [upd_same, take_next hk, List.flatten_append, List.map_append]
          show _ = some (HO.lst (_ ++ ((row ++ []).map V.int)))
          rw [List.append_nil]
      · rintro σ H2 ⟨rv, rfl, k, hf⟩
        rw [List.length_map, hul, List.take_length] at hf
        have sA : Same H H2 := fun b o hb => k b o (s1 _ _ (s0 _ _ hb)) (ne_of_none hb hF)
        have hfl := flat_len x.reserves.length (Vbndax.bidsOf x) each
        rw [hb5] at hfl
        exact ⟨_, rfl, R.same hst (by rw [hfl]; omega) sA hd hf⟩
/-! ### Desk.summary -/
abbrev sSum : Stmt := inClass (top 50) 21
theorem scSum : FnScope ["self", "auction"] ["self"] (defScope sSum) := ⟨rfl, rfl, rfl, by decide +kernel, rfl, by decide +kernel, by decide +kernel⟩
theorem ok_sum {f fd} (T : Tx mg) (A : Td K mg CD fD) (U0 : Ta K mg CA fA) (D : DefM K CD "summary" "Desk.summary" sSum ["self"] f fd) (Go : OkM P w K mg base (L2.CX P w) 4 CD "open_auction" ["self"] (spOpen CD CA CR))
    (Gn : Ok P w K mg base CX0 1 "counted" ["row"] spCounted) : OkM P w K mg base (L2.CX P w) 5 CD "summary" ["self"] (spOp CD CA CR .summary) := by
  obtain ⟨fo, fdo, mo, bo, Fo⟩ := Go
  obtain ⟨fn, fdn, gn, kn, bn, Fn⟩ := Gn
  refine D.ok (D.fn.okX scSum (fun vs H Q E h => ?_) (fun cdv A0 outer s H vs Q E hr h => ⟨_,
      pss_cons (ps_set (i := 1) scSum.nd rfl (Or.inl rfl) (pe_meth0 (pv 0) A.cl mo Fo hr bo .nil (passes_call (takes_of rfl rfl rfl rfl) fun _ _ _ _ h => h)))
      (pss_one (ps_ret (pe_op op_cat (pe_call Fn (hr.mono (by decide)) rfl gn kn bn .nil pass0 (pa_cons (pe_fld (pv 1) rfl) pa_nil)) (pe_lst (pa_cons (pe_callTy call_int1 (by rfl) T.int (by decide +kernel) (pa_cons (pe_fld (pv 1) rfl) pa_nil)) pa_nil))))), ?_⟩))
  · obtain ⟨_, _, rfl, _⟩ := h
    rfl
  · obtain ⟨d, s, rfl, hd, R⟩ := h
    obtain ⟨dxd, v0, hi⟩ := hd.ins
    refine ⟨_, rfl, d, dxd, _, rfl, hi, dF_no (by decide +kernel), d, s, rfl, hd, fun hs => ?_, fun x a hs U v hda => ?_⟩
    · subst hs
      exact R.no rfl (by decide)
    · subst hs
      obtain ⟨ax, rp, sp, qs, U1⟩ := id U
      have few := v.few
      have hst : Vbndax.step (some x) .summary = (some x, Vbndax.toInts ([0, x.reserves.length] ++ x.reserves ++ [if x.isClosed = true then 1 else 0])) := rfl
      refine ⟨_, rfl, a, CA, ax, _, _, rfl, U1.obj, U0.cl, U0.res, aF_res, rp, _, rfl, U1.res, by rw [List.length_map, toInts_len]; omega, fun H1 p1 s1 n1 h1 => ?_⟩
      refine ⟨_, rfl, a, CA, ax, _, _, rfl, s1 _ _ U1.obj, U0.cl, U0.isc, aF_cl, .inr ⟨_, rfl, sz 1 (by decide), fun p2 n2 => ⟨p1, p2, _, _, rfl, rfl, (L2.Same.up n2) _ _ h1, upd_same, ?_, fun p3 n3 => ?_⟩⟩⟩
      · rw [List.length_cons, List.length_map, toInts_len]; exact sz _ (by show _ + 1 + 1 ≤ _; omega)
      · have sA := (s1.trans (L2.Same.up n2)).trans (L2.Same.up (o := .lst ((.int (((Vbndax.toInts x.reserves).map V.int).length : Nat) :: (Vbndax.toInts x.reserves).map V.int) ++ [.int (if x.isClosed = true then 1 else 0)])) n3)
        have e : Vbndax.toInts ([0, x.reserves.length] ++ x.reserves ++ [if x.isClosed = true then 1 else 0]) = 0 :: ((x.reserves.length : Int) :: (Vbndax.toInts x.reserves ++ [if x.isClosed = true then 1 else 0])) := by
          unfold Vbndax.toInts
          rw [List.map_append, List.map_append]
          cases x.isClosed <;> rfl
        rw [e] at hst
        refine R.same hst ?_ sA hd ?_
        · rw [List.length_cons, List.length_append, toInts_len]; show _ + 1 + 1 ≤ 1000; omega
        · show _ = _
          rw [upd_same, List.length_map, toInts_len, List.map_cons, List.map_append]
          rfl
end
end SL
end
/-! ## Wt -/
section
namespace SL
open PySem PySem.Spec PyProof.Rows L2
def callL (k : Nat) (i : Int) (row : List Int) : Option Vbndax.Call := match k with
  | 0 => some (.newAuction row)
  | 1 => some (.submitBid i row)
  | 7 => some (.checkPrices row)
  | 8 => some (.demandSet i row)
  | 9 => some (.overdemandedSet row)
  | 11 => some (.hypotheticalResult i row)
  | 12 => some (.utility i row)
  | 13 => some (.truthfulUtility i row)
  | _ => none
def callA (k : Nat) (i : Int) : Option Vbndax.Call := match k with
  | 2 => some (.closeAuction)
  | 3 => some (.getResult)
  | 4 => some (.minimumPrices)
  | 5 => some (.maximumPrices)
  | 6 => some (.totalValue)
  | 10 => some (.runClock)
  | 14 => some (.totalWithout i)
  | 15 => some (.listSubmitted)
  | 16 => some (.listBids)
  | 17 => some (.summary)
  | _ => none
section
variable {P : Program} {w : World} {K : PySem.W.Frag} {mg : Str → Option Value} {base : Heap} {CA fA CD fD CR fR : Addr}
/-! ### told_by_list -/
abbrev sTl : Stmt := top 54
theorem scTl : FnScope ["desk", "deed", "bidder", "row"] ["desk", "deed", "bidder", "row"] (defScope sTl) := ⟨rfl, rfl, rfl, by decide +kernel, rfl, by decide +kernel, by decide +kernel⟩
def spTl (CD CA CR : Addr) : Sp := fun vs H Q E => ∃ (d e : Addr) (s : Vbndax.State) (k : Nat) (i : Int) (row : List Int) (c : Vbndax.Call), vs = [.ref d, .int k, .int i, .ref e] ∧ DeskAt CD CA H d s ∧ IntsL H e row ∧ callL k i row = some c ∧ Did CD CA CR e d s c H Q E
/-- the operations with a list -/
structure ByList (P : Program) (w : World) (K : PySem.W.Frag) (mg : Str → Option Value) (base : Heap) (CD CA CR : Addr) : Prop where
  m0 : OkM P w K mg base (L2.CX P w) 6 CD "new_auction" ["self", "reserves"] (spNew CD CA CR)
  m1 : OkM P w K mg base (L2.CX P w) 6 CD "submit_bid" ["self", "bidder", "bids"] (spSubmit CD CA CR)
  m7 : OkM P w K mg base (L2.CX P w) 7 CD "check_prices" ["self", "prices"] (spOpL CD CA CR .checkPrices)
  m8 : OkM P w K mg base (L2.CX P w) 7 CD "demand" ["self", "bidder", "prices"] (spOpIL CD CA CR .demandSet)
  m9 : OkM P w K mg base (L2.CX P w) 7 CD "overdemanded" ["self", "prices"] (spOpL CD CA CR .overdemandedSet)
  m11 : OkM P w K mg base (L2.CX P w) 9 CD "hypothetical" ["self", "bidder", "bids"] (spOpIL CD CA CR .hypotheticalResult)
  m12 : OkM P w K mg base (L2.CX P w) 9 CD "utility" ["self", "bidder", "values"] (spOpIL CD CA CR .utility)
  m13 : OkM P w K mg base (L2.CX P w) 10 CD "truthful_utility" ["self", "bidder", "values"] (spOpIL CD CA CR .truthfulUtility)
theorem ok_tl {f fd} (A : Td K mg CD fD) (D : Def K mg "told_by_list" "told_by_list" sTl ["desk", "deed", "bidder", "row"] f fd) (B : ByList P w K mg base CD CA CR) : Ok P w K mg base (L2.CX P w) 11 "told_by_list" ["desk", "deed", "bidder", "row"] (spTl CD CA CR) := by
  obtain ⟨f0, fd0, m0, b0, F0⟩ := B.m0
  obtain ⟨f1, fd1, m1, b1, F1⟩ := B.m1
  obtain ⟨f7, fd7, m7, b7, F7⟩ := B.m7
  obtain ⟨f8, fd8, m8, b8, F8⟩ := B.m8
  obtain ⟨f9, fd9, m9, b9, F9⟩ := B.m9
  obtain ⟨f11, fd11, m11, b11, F11⟩ := B.m11
  obtain ⟨f12, fd12, m12, b12, F12⟩ := B.m12
  obtain ⟨f13, fd13, m13, b13, F13⟩ := B.m13
  refine D.ok (D.fn.okX scTl (fun vs H Q E h => ?_) (fun cdv A0 outer s H vs Q E hr h => ⟨_,
      (pss_cons (ps_if (pt_cmpR op_eq (pv 1) pe_int (nomark _)) (pss_one (ps_ret (pe_meth (pv 0) A.cl m0 F0 (hr.mono (by decide)) b0 .nil (passes_call (takes_of rfl rfl rfl rfl) fun _ _ _ _ h => h) (pa_cons (pv 3) pa_nil)))) pss_nil)
      (pss_cons (ps_if (pt_cmpR op_eq (pv 1) pe_int (nomark _)) (pss_one (ps_ret (pe_meth (pv 0) A.cl m1 F1 (hr.mono (by decide)) b1 .nil (passes_call (takes_of rfl rfl rfl rfl) fun _ _ _ _ h => h) (pa_cons (pv 2) (pa_cons (pv 3) pa_nil))))) pss_nil)
      (pss_cons (ps_if (pt_cmpR op_eq (pv 1) pe_int (nomark _)) (pss_one (ps_ret (pe_meth (pv 0) A.cl m7 F7 (hr.mono (by decide)) b7 .nil (passes_call (takes_of rfl rfl rfl rfl) fun _ _ _ _ h => h) (pa_cons (pv 3) pa_nil)))) pss_nil)
      (pss_cons (ps_if (pt_cmpR op_eq (pv 1) pe_int (nomark _)) (pss_one (ps_ret (pe_meth (pv 0) A.cl m8 F8 (hr.mono (by decide)) b8 .nil (passes_call (takes_of rfl rfl rfl rfl) fun _ _ _ _ h => h) (pa_cons (pv 2) (pa_cons (pv 3) pa_nil))))) pss_nil)
      (pss_cons (ps_if (pt_cmpR op_eq (pv 1) pe_int (nomark _)) (pss_one (ps_ret (pe_meth (pv 0) A.cl m9 F9 (hr.mono (by decide)) b9 .nil (passes_call (takes_of rfl rfl rfl rfl) fun _ _ _ _ h => h) (pa_cons (pv 3) pa_nil)))) pss_nil)
      (pss_cons (ps_if (pt_cmpR op_eq (pv 1) pe_int (nomark _)) (pss_one (ps_ret (pe_meth (pv 0) A.cl m11 F11 (hr.mono (by decide)) b11 .nil (passes_call (takes_of rfl rfl rfl rfl) fun _ _ _ _ h => h) (pa_cons (pv 2) (pa_cons (pv 3) pa_nil))))) pss_nil)
      (pss_one (ps_ret (pe_ifExp (pt_cmpR op_eq (pv 1) pe_int (nomark _)) (pe_meth (pv 0) A.cl m12 F12 (hr.mono (by decide)) b12 .nil (passes_call (takes_of rfl rfl rfl rfl) fun _ _ _ _ h => h) (pa_cons (pv 2) (pa_cons (pv 3) pa_nil))) (pe_meth (pv 0) A.cl m13 F13 (hr.mono (by decide)) b13 .nil (passes_call (takes_of rfl rfl rfl rfl) fun _ _ _ _ h => h) (pa_cons (pv 2) (pa_cons (pv 3) pa_nil)))))))))))), ?_⟩))
  · obtain ⟨_, _, _, _, _, _, _, rfl, _⟩ := h
    rfl
  · obtain ⟨d, e, s, k, i, row, c, rfl, hd, he, hc, R⟩ := h
    obtain ⟨dxd, v0, hi⟩ := hd.ins
    match k, hc with
    | 0, hc =>
      obtain rfl := Option.some.inj hc
      refine ⟨_, rfl, rfl, true, rfl, iteT ?_⟩
      exact ⟨_, rfl, d, dxd, _, rfl, hi, dF_no (by decide +kernel), _, rfl, d, e, s, row, rfl, hd, he, R⟩
    | 1, hc =>
      obtain rfl := Option.some.inj hc
      refine ⟨_, rfl, rfl, false, rfl, iteF ?_⟩
      refine ⟨_, rfl, rfl, true, rfl, iteT ?_⟩
      exact ⟨_, rfl, d, dxd, _, rfl, hi, dF_no (by decide +kernel), _, rfl, _, rfl, d, e, s, i, row, rfl, hd, he, R⟩
    | 7, hc =>
      obtain rfl := Option.some.inj hc
      refine ⟨_, rfl, rfl, false, rfl, iteF ?_⟩
      refine ⟨_, rfl, rfl, false, rfl, iteF ?_⟩
      refine ⟨_, rfl, rfl, true, rfl, iteT ?_⟩
      exact ⟨_, rfl, d, dxd, _, rfl, hi, dF_no (by decide +kernel), _, rfl, d, e, s, row, rfl, hd, he, R⟩
    | 8, hc =>
      obtain rfl := Option.some.inj hc
      refine ⟨_, rfl, rfl, false, rfl, iteF ?_⟩
      refine ⟨_, rfl, rfl, false, rfl, iteF ?_⟩
      refine ⟨_, rfl, rfl, false, rfl, iteF ?_⟩
      refine ⟨_, rfl, rfl, true, rfl, iteT ?_⟩
      exact ⟨_, rfl, d, dxd, _, rfl, hi, dF_no (by decide +kernel), _, rfl, _, rfl, d, e, s, i, row, rfl, hd, he, R⟩
    | 9, hc =>
      obtain rfl := Option.some.inj hc
      refine ⟨_, rfl, rfl, false, rfl, iteF ?_⟩
      refine ⟨_, rfl, rfl, false, rfl, iteF ?_⟩
      refine ⟨_, rfl, rfl, false, rfl, iteF ?_⟩
      refine ⟨_, rfl, rfl, false, rfl, iteF ?_⟩
      refine ⟨_, rfl, rfl, true, rfl, iteT ?_⟩
      exact ⟨_, rfl, d, dxd, _, rfl, hi, dF_no (by decide +kernel), _, rfl, d, e, s, row, rfl, hd, he, R⟩
    | 11, hc =>
      obtain rfl := Option.some.inj hc
      refine ⟨_, rfl, rfl, false, rfl, iteF ?_⟩
      refine ⟨_, rfl, rfl, false, rfl, iteF ?_⟩
      refine ⟨_, rfl, rfl, false, rfl, iteF ?_⟩
      refine ⟨_, rfl, rfl, false, rfl, iteF ?_⟩
      refine ⟨_, rfl, rfl, false, rfl, iteF ?_⟩
      refine ⟨_, rfl, rfl, true, rfl, iteT ?_⟩
      exact ⟨_, rfl, d, dxd, _, rfl, hi, dF_no (by decide +kernel), _, rfl, _, rfl, d, e, s, i, row, rfl, hd, he, R⟩
    | 12, hc =>
      obtain rfl := Option.some.inj hc
      refine ⟨_, rfl, rfl, false, rfl, iteF ?_⟩
      refine ⟨_, rfl, rfl, false, rfl, iteF ?_⟩
      refine ⟨_, rfl, rfl, false, rfl, iteF ?_⟩
      refine ⟨_, rfl, rfl, false, rfl, iteF ?_⟩
      refine ⟨_, rfl, rfl, false, rfl, iteF ?_⟩
      refine ⟨_, rfl, rfl, false, rfl, iteF ?_⟩
      refine ⟨_, rfl, rfl, true, rfl, iteT ?_⟩
      exact ⟨_, rfl, d, dxd, _, rfl, hi, dF_no (by decide +kernel), _, rfl, _, rfl, d, e, s, i, row, rfl, hd, he, R⟩
    | 13, hc =>
      obtain rfl := Option.some.inj hc
      refine ⟨_, rfl, rfl, false, rfl, iteF ?_⟩
      refine ⟨_, rfl, rfl, false, rfl, iteF ?_⟩
      refine ⟨_, rfl, rfl, false, rfl, iteF ?_⟩
      refine ⟨_, rfl, rfl, false, rfl, iteF ?_⟩
      refine ⟨_, rfl, rfl, false, rfl, iteF ?_⟩
      refine ⟨_, rfl, rfl, false, rfl, iteF ?_⟩
      refine ⟨_, rfl, rfl, false, rfl, iteF ?_⟩
      exact ⟨_, rfl, d, dxd, _, rfl, hi, dF_no (by decide +kernel), _, rfl, _, rfl, d, e, s, i, row, rfl, hd, he, R⟩
/-! ### told_alone -/
abbrev sTa : Stmt := top 55
theorem scTa : FnScope ["desk", "deed", "bidder"] ["desk", "deed", "bidder"] (defScope sTa) := ⟨rfl, rfl, rfl, by decide +kernel, rfl, by decide +kernel, by decide +kernel⟩
def spTa (CD CA CR : Addr) : Sp := fun vs H Q E => ∃ (d : Addr) (s : Vbndax.State) (k : Nat) (i : Int) (c : Vbndax.Call), vs = [.ref d, .int k, .int i] ∧ DeskAt CD CA H d s ∧ callA k i = some c ∧ Did CD CA CR d d s c H Q E
/-- the operations without a list -/
structure Alone (P : Program) (w : World) (K : PySem.W.Frag) (mg : Str → Option Value) (base : Heap) (CD CA CR : Addr) : Prop where
  m2 : OkM P w K mg base (L2.CX P w) 5 CD "close_auction" ["self"] (spOp CD CA CR .closeAuction)
  m3 : OkM P w K mg base (L2.CX P w) 9 CD "get_result" ["self"] (spOp CD CA CR .getResult)
  m4 : OkM P w K mg base (L2.CX P w) 8 CD "minimum" ["self"] (spOp CD CA CR .minimumPrices)
  m5 : OkM P w K mg base (L2.CX P w) 8 CD "maximum" ["self"] (spOp CD CA CR .maximumPrices)
  m6 : OkM P w K mg base (L2.CX P w) 6 CD "total" ["self"] (spOp CD CA CR .totalValue)
  m10 : OkM P w K mg base (L2.CX P w) 6 CD "clock" ["self"] (spOp CD CA CR .runClock)
  m14 : OkM P w K mg base (L2.CX P w) 6 CD "total_without" ["self", "bidder"] (spOpI CD CA CR .totalWithout)
  m15 : OkM P w K mg base (L2.CX P w) 5 CD "list_submitted" ["self"] (spOp CD CA CR .listSubmitted)
  m16 : OkM P w K mg base (L2.CX P w) 6 CD "list_bids" ["self"] (spOp CD CA CR .listBids)
  m17 : OkM P w K mg base (L2.CX P w) 5 CD "summary" ["self"] (spOp CD CA CR .summary)
theorem ok_ta {f fd} (A : Td K mg CD fD) (D : Def K mg "told_alone" "told_alone" sTa ["desk", "deed", "bidder"] f fd) (B : Alone P w K mg base CD CA CR) : Ok P w K mg base (L2.CX P w) 10 "told_alone" ["desk", "deed", "bidder"] (spTa CD CA CR) := by
  obtain ⟨f2, fd2, m2, b2, F2⟩ := B.m2
  obtain ⟨f3, fd3, m3, b3, F3⟩ := B.m3
  obtain ⟨f4, fd4, m4, b4, F4⟩ := B.m4
  obtain ⟨f5, fd5, m5, b5, F5⟩ := B.m5
  obtain ⟨f6, fd6, m6, b6, F6⟩ := B.m6
  obtain ⟨f10, fd10, m10, b10, F10⟩ := B.m10
  obtain ⟨f14, fd14, m14, b14, F14⟩ := B.m14
  obtain ⟨f15, fd15, m15, b15, F15⟩ := B.m15
  obtain ⟨f16, fd16, m16, b16, F16⟩ := B.m16
  obtain ⟨f17, fd17, m17, b17, F17⟩ := B.m17
  refine D.ok (D.fn.okX scTa (fun vs H Q E h => ?_) (fun cdv A0 outer s H vs Q E hr h => ⟨_,
      (pss_cons (ps_if (pt_cmpR op_eq (pv 1) pe_int (nomark _)) (pss_one (ps_ret (pe_meth0 (pv 0) A.cl m2 F2 (hr.mono (by decide)) b2 .nil (passes_call (takes_of rfl rfl rfl rfl) fun _ _ _ _ h => h)))) pss_nil)
      (pss_cons (ps_if (pt_cmpR op_eq (pv 1) pe_int (nomark _)) (pss_one (ps_ret (pe_meth0 (pv 0) A.cl m3 F3 (hr.mono (by decide)) b3 .nil (passes_call (takes_of rfl rfl rfl rfl) fun _ _ _ _ h => h)))) pss_nil)
      (pss_cons (ps_if (pt_cmpR op_eq (pv 1) pe_int (nomark _)) (pss_one (ps_ret (pe_meth0 (pv 0) A.cl m4 F4 (hr.mono (by decide)) b4 .nil (passes_call (takes_of rfl rfl rfl rfl) fun _ _ _ _ h => h)))) pss_nil)
      (pss_cons (ps_if (pt_cmpR op_eq (pv 1) pe_int (nomark _)) (pss_one (ps_ret (pe_meth0 (pv 0) A.cl m5 F5 (hr.mono (by decide)) b5 .nil (passes_call (takes_of rfl rfl rfl rfl) fun _ _ _ _ h => h)))) pss_nil)
      (pss_cons (ps_if (pt_cmpR op_eq (pv 1) pe_int (nomark _)) (pss_one (ps_ret (pe_meth0 (pv 0) A.cl m6 F6 (hr.mono (by decide)) b6 .nil (passes_call (takes_of rfl rfl rfl rfl) fun _ _ _ _ h => h)))) pss_nil)
      (pss_cons (ps_if (pt_cmpR op_eq (pv 1) pe_int (nomark _)) (pss_one (ps_ret (pe_meth0 (pv 0) A.cl m10 F10 (hr.mono (by decide)) b10 .nil (passes_call (takes_of rfl rfl rfl rfl) fun _ _ _ _ h => h)))) pss_nil)
      (pss_cons (ps_if (pt_cmpR op_eq (pv 1) pe_int (nomark _)) (pss_one (ps_ret (pe_meth (pv 0) A.cl m14 F14 (hr.mono (by decide)) b14 .nil (passes_call (takes_of rfl rfl rfl rfl) fun _ _ _ _ h => h) (pa_cons (pv 2) pa_nil)))) pss_nil)
      (pss_cons (ps_if (pt_cmpR op_eq (pv 1) pe_int (nomark _)) (pss_one (ps_ret (pe_meth0 (pv 0) A.cl m15 F15 (hr.mono (by decide)) b15 .nil (passes_call (takes_of rfl rfl rfl rfl) fun _ _ _ _ h => h)))) pss_nil)
      (pss_one (ps_ret (pe_ifExp (pt_cmpR op_eq (pv 1) pe_int (nomark _)) (pe_meth0 (pv 0) A.cl m16 F16 (hr.mono (by decide)) b16 .nil (passes_call (takes_of rfl rfl rfl rfl) fun _ _ _ _ h => h)) (pe_meth0 (pv 0) A.cl m17 F17 (hr.mono (by decide)) b17 .nil (passes_call (takes_of rfl rfl rfl rfl) fun _ _ _ _ h => h))))))))))))), ?_⟩))
  · obtain ⟨_, _, _, _, _, rfl, _⟩ := h
    rfl
  · obtain ⟨d, s, k, i, c, rfl, hd, hc, R⟩ := h
    obtain ⟨dxd, v0, hi⟩ := hd.ins
    match k, hc with
    | 2, hc =>
      obtain rfl := Option.some.inj hc
      refine ⟨_, rfl, rfl, true, rfl, iteT ?_⟩
      exact ⟨_, rfl, d, dxd, _, rfl, hi, dF_no (by decide +kernel), d, s, rfl, hd, R⟩
    | 3, hc =>
      obtain rfl := Option.some.inj hc
      refine ⟨_, rfl, rfl, false, rfl, iteF ?_⟩
      refine ⟨_, rfl, rfl, true, rfl, iteT ?_⟩
      exact ⟨_, rfl, d, dxd, _, rfl, hi, dF_no (by decide +kernel), d, s, rfl, hd, R⟩
    | 4, hc =>
      obtain rfl := Option.some.inj hc
      refine ⟨_, rfl, rfl, false, rfl, iteF ?_⟩
      refine ⟨_, rfl, rfl, false, rfl, iteF ?_⟩
      refine ⟨_, rfl, rfl, true, rfl, iteT ?_⟩
      exact ⟨_, rfl, d, dxd, _, rfl, hi, dF_no (by decide +kernel), d, s, rfl, hd, R⟩
    | 5, hc =>
      obtain rfl := Option.some.inj hc
      refine ⟨_, rfl, rfl, false, rfl, iteF ?_⟩
      refine ⟨_, rfl, rfl, false, rfl, iteF ?_⟩
      refine ⟨_, rfl, rfl, false, rfl, iteF ?_⟩
      refine ⟨_, rfl, rfl, true, rfl, iteT ?_⟩
      exact ⟨_, rfl, d, dxd, _, rfl, hi, dF_no (by decide +kernel), d, s, rfl, hd, R⟩
    | 6, hc =>
      obtain rfl := Option.some.inj hc
      refine ⟨_, rfl, rfl, false, rfl, iteF ?_⟩
      refine ⟨_, rfl, rfl, false, rfl, iteF ?_⟩
      refine ⟨_, rfl, rfl, false, rfl, iteF ?_⟩
      refine ⟨_, rfl, rfl, false, rfl, iteF ?_⟩
      refine ⟨_, rfl, rfl, true, rfl, iteT ?_⟩
      exact ⟨_, rfl, d, dxd, _, rfl, hi, dF_no (by decide +kernel), d, s, rfl, hd, R⟩
    | 10, hc =>
      obtain rfl := Option.some.inj hc
      refine ⟨_, rfl, rfl, false, rfl, iteF ?_⟩
      refine ⟨_, rfl, rfl, false, rfl, iteF ?_⟩
      refine ⟨_, rfl, rfl, false, rfl, iteF ?_⟩
      refine ⟨_, rfl, rfl, false, rfl, iteF ?_⟩
      refine ⟨_, rfl, rfl, false, rfl, iteF ?_⟩
      refine ⟨_, rfl, rfl, true, rfl, iteT ?_⟩
      exact ⟨_, rfl, d, dxd, _, rfl, hi, dF_no (by decide +kernel), d, s, rfl, hd, R⟩
    | 14, hc =>
      obtain rfl := Option.some.inj hc
      refine ⟨_, rfl, rfl, false, rfl, iteF ?_⟩
      refine ⟨_, rfl, rfl, false, rfl, iteF ?_⟩
      refine ⟨_, rfl, rfl, false, rfl, iteF ?_⟩
      refine ⟨_, rfl, rfl, false, rfl, iteF ?_⟩
      refine ⟨_, rfl, rfl, false, rfl, iteF ?_⟩
      refine ⟨_, rfl, rfl, false, rfl, iteF ?_⟩
      refine ⟨_, rfl, rfl, true, rfl, iteT ?_⟩
      exact ⟨_, rfl, d, dxd, _, rfl, hi, dF_no (by decide +kernel), _, rfl, d, s, i, rfl, hd, R⟩
    | 15, hc =>
      obtain rfl := Option.some.inj hc
      refine ⟨_, rfl, rfl, false, rfl, iteF ?_⟩
      refine ⟨_, rfl, rfl, false, rfl, iteF ?_⟩
      refine ⟨_, rfl, rfl, false, rfl, iteF ?_⟩
      refine ⟨_, rfl, rfl, false, rfl, iteF ?_⟩
      refine ⟨_, rfl, rfl, false, rfl, iteF ?_⟩
      refine ⟨_, rfl, rfl, false, rfl, iteF ?_⟩
      refine ⟨_, rfl, rfl, false, rfl, iteF ?_⟩
      refine ⟨_, rfl, rfl, true, rfl, iteT ?_⟩
      exact ⟨_, rfl, d, dxd, _, rfl, hi, dF_no (by decide +kernel), d, s, rfl, hd, R⟩
    | 16, hc =>
      obtain rfl := Option.some.inj hc
      refine ⟨_, rfl, rfl, false, rfl, iteF ?_⟩
      refine ⟨_, rfl, rfl, false, rfl, iteF ?_⟩
      refine ⟨_, rfl, rfl, false, rfl, iteF ?_⟩
      refine ⟨_, rfl, rfl, false, rfl, iteF ?_⟩
      refine ⟨_, rfl, rfl, false, rfl, iteF ?_⟩
      refine ⟨_, rfl, rfl, false, rfl, iteF ?_⟩
      refine ⟨_, rfl, rfl, false, rfl, iteF ?_⟩
      refine ⟨_, rfl, rfl, false, rfl, iteF ?_⟩
      refine ⟨_, rfl, rfl, true, rfl, iteT ?_⟩
      exact ⟨_, rfl, d, dxd, _, rfl, hi, dF_no (by decide +kernel), d, s, rfl, hd, R⟩
    | 17, hc =>
      obtain rfl := Option.some.inj hc
      refine ⟨_, rfl, rfl, false, rfl, iteF ?_⟩
      refine ⟨_, rfl, rfl, false, rfl, iteF ?_⟩
      refine ⟨_, rfl, rfl, false, rfl, iteF ?_⟩
      refine ⟨_, rfl, rfl, false, rfl, iteF ?_⟩
      refine ⟨_, rfl, rfl, false, rfl, iteF ?_⟩
      refine ⟨_, rfl, rfl, false, rfl, iteF ?_⟩
      refine ⟨_, rfl, rfl, false, rfl, iteF ?_⟩
      refine ⟨_, rfl, rfl, false, rfl, iteF ?_⟩
      refine ⟨_, rfl, rfl, false, rfl, iteF ?_⟩
      exact ⟨_, rfl, d, dxd, _, rfl, hi, dF_no (by decide +kernel), d, s, rfl, hd, R⟩
end
end SL
end
/-! ## Wv -/
section
namespace SL
open PySem PySem.Spec PyProof.Rows L2
def hasBidder : List Int := [0, 1, 0, 0, 0, 0, 0, 0, 1, 0, 0, 1, 1, 1, 1, 0, 0, 0]
def hasList : List Int := [1, 1, 0, 0, 0, 0, 0, 1, 1, 1, 0, 1, 1, 1, 0, 0, 0, 0]
/-- the two written tuples -/
structure Th (K : PySem.W.Frag) (mg : Str → Option Value) : Prop where
  bid : ∃ a, mg "HAS_BIDDER" = some (.ref a) ∧ ∀ H, SqT K H a (hasBidder.map V.int)
  row : ∃ a, mg "HAS_LIST" = some (.ref a) ∧ ∀ H, SqT K H a (hasList.map V.int)
def callOf (k : Nat) (i : Int) (row : List Int) : Option Vbndax.Call := if hasList.getD k 0 = 1 then callL k i row else callA k i
section
variable {P : Program} {w : World} {K : PySem.W.Frag} {mg : Str → Option Value} {base : Heap} {CA fA CD fD CR fR : Addr}
/-! ### answer -/
abbrev sAns : Stmt := top 56
theorem scAns : FnScope ["desk", "deed", "bidder", "row", "found", "e"] ["desk", "deed", "bidder", "row"] (defScope sAns) := ⟨rfl, rfl, rfl, by decide +kernel, rfl, by decide +kernel, by decide +kernel⟩
def spAns (CD CA : Addr) : Sp := fun vs H Q _ => ∃ (d e : Addr) (s : Vbndax.State) (k : Nat) (i : Int) (row : List Int) (c : Vbndax.Call), vs = [.ref d, .int k, .int i, .ref e] ∧ DeskAt CD CA H d s ∧ IntsL H e row ∧ k < 18 ∧ callOf k i row = some c ∧
  ∀ H' p, Frame H H' → DeskAt CD CA H' d (Vbndax.step s c).1 → (∀ (F : Addr) (fs : List Int), IntsL H F fs → F ≠ e → Sep CD CA F H d → Sep CD CA F H' d) → (∀ (F : Addr) (fs : List Int), IntsL H F fs → F ≠ p) →
    IntsL H' p (Vbndax.step s c).2 → (Vbndax.step s c).2.length ≤ 1001 → Q (.ref p) H'
theorem ok_ans {f fd} (A : Td K mg CD fD) (R : Tr K mg CR fR) (Q0 : Th K mg) (D : Def K mg "answer" "answer" sAns ["desk", "deed", "bidder", "row"] f fd) (Gl : Ok P w K mg base (L2.CX P w) 11 "told_by_list" ["desk", "deed", "bidder", "row"] (spTl CD CA CR))
    (Ga : Ok P w K mg base (L2.CX P w) 10 "told_alone" ["desk", "deed", "bidder"] (spTa CD CA CR)) : Ok P w K mg base CX0 12 "answer" ["desk", "deed", "bidder", "row"] (spAns CD CA) := by
  obtain ⟨f1, fd1, g1, k1, b1, F1⟩ := Gl
  obtain ⟨f2, fd2, g2, k2, b2, F2⟩ := Ga
  obtain ⟨aL, hL, tL⟩ := Q0.row
  refine D.ok (D.fn.ok scAns (fun vs H Q E h => ?_) (fun cdv A0 outer s H vs Q E hr h => ⟨_,
      pss_cons (ps_try_as (i := 5) (tb := fun W => tAsg (tIf (tTest (tOp rEq (tOp (rIxT K) (tC (.ref aL)) (tVar 1)) (tC (.int 1)))) (tCallS (spTl CD CA CR) (WE W) (tCons (tVar 0) (tCons (tVar 1) (tCons (tVar 2) (tCons (tVar 3) tNil))))) (tCallS (spTa CD CA CR) (WE W) (tCons (tVar 0) (tCons (tVar 1) (tCons (tVar 2) tNil))))) (gName 4))
          (ts := fun a cls d => tRet (tLst (tCons (tXf a cls d CR "code" (tVar 5)) tNil))) (Wout := fun _ _ _ _ => False) rfl rfl scAns.nd rfl rfl ⟨rfl, by decide, Or.inl R.g⟩ takes0
          (fun W pn xe tk _ => pss_one (ps_set (i := 4) scAns.nd rfl (Or.inl rfl) (by exact (pe_ifExp (pt_cmpR op_eq (pe_ix ix_tup (pe_glob rfl hL rfl) (pv 1) (fun _ _ => rfl)) pe_int (nomark _))
            (pe_callS F1 hr rfl g1 k1 b1 (fun σ => passAt tk σ) (by exact (pa_cons (pv 0) (pa_cons (pv 1) (pa_cons (pv 2) (pa_cons (pv 3) pa_nil)))))) (pe_callS F2 (hr.mono (by decide)) rfl g2 k2 b2 (fun σ => passAt tk σ) (by exact (pa_cons (pv 0) (pa_cons (pv 1) (pa_cons (pv 2) pa_nil)))))))))
          (fun a oe cls d pn hz hf => pss_one (ps_ret (by exact pe_lst (pa_cons (pe_xf R.xf R.no hz hf (pv 5)) pa_nil)))))
      (pss_one (ps_ret (pe_op op_cat (pe_lst (pa_cons pe_int pa_nil)) (pv 4)))), ?_⟩))
  · obtain ⟨_, _, _, _, _, _, _, rfl, _⟩ := h
    rfl
  · obtain ⟨d, e, s, k, i, row, c, rfl, hd, he, hk, hc, q⟩ := h
    have hat : atI (hasList.map V.int) (k : Int) = some (V.int (hasList.getD k 0)) := at_int rfl (by show k < 18; exact hk) 0
    refine ⟨_, rfl, aL, _, _, _, rfl, rfl, tL H, hat, rfl, _, rfl, ?_⟩
    rw [dec_int]
    unfold callOf at hc
    refine ite2 (fun cc => ?_) (fun cc => ?_)
    · rw [if_pos (eq_of_beq cc)] at hc
      refine ⟨_, rfl, _, rfl, _, rfl, _, rfl, d, e, s, k, i, row, c, rfl, hd, he, hc, fun ns e1 hl H1 p fr hd1 hS hp => ?_, fun n hn e1 e2 dd H1 s1 hx => ?_⟩
      · have st : (Vbndax.step s c).2 = 0 :: ns := e1
        refine ⟨sz 1 (by decide), fun p1 n1 => ⟨_, rfl, p1, p, _, _, rfl, rfl, upd_same, (L2.Same.up n1) _ _ hp, ?_, fun p2 n2 => ?_⟩⟩
        · rw [List.length_map]; exact sz _ (by show 1 + _ ≤ _; omega)
        · have s2 := (L2.Same.up (o := .lst [.int 0]) n1).trans (L2.Same.up (o := .lst ([.int 0] ++ ns.map V.int)) n2)
          refine q _ p2 (fr.trans (Frame.of s2)) (hd1.keep s2) (fun F fs hF hFe z => Sep.keep hd1 s2 (hS F fs hF hFe z)) (fun F fs hF => ne_of_none ((L2.Same.up n1) _ _ (fr.nums _ _ hF)) n2) ?_ ?_
          · show _ = _
            rw [upd_same, st]
            rfl
          · rw [st, List.length_cons]; omega
      · refine ⟨true, R.em, fun _ a0 ha0 => ?_, fun z => Bool.noConfusion z⟩
        refine ⟨_, rfl, rfl, rfl, dd, _, _, rfl, hx, lk0, sz 1 (by decide), fun p np => ?_⟩
        have s2 := s1.trans (L2.Same.up (o := .lst [.int n]) np)
        refine q _ p (Frame.of s2) (by rw [e2]; exact hd.keep s2) (fun F fs _ _ z => Sep.keep hd s2 z) (fun F fs hF => ne_of_none (s1 _ _ hF) np) ?_ ?_
        · show _ = _
          rw [upd_same, e1]
          rfl
        · rw [e1]; show 1 ≤ 1001; decide
    · rw [if_neg (fun z => cc (by rw [z]; rfl))] at hc
      refine ⟨_, rfl, _, rfl, _, rfl, d, s, k, i, c, rfl, hd, hc, fun ns e1 hl H1 p fr hd1 hS hp => ?_, fun n hn e1 e2 dd H1 s1 hx => ?_⟩
      · have st : (Vbndax.step s c).2 = 0 :: ns := e1
        refine ⟨sz 1 (by decide), fun p1 n1 => ⟨_, rfl, p1, p, _, _, rfl, rfl, upd_same, (L2.Same.up n1) _ _ hp, ?_, fun p2 n2 => ?_⟩⟩
        · rw [List.length_map]; exact sz _ (by show 1 + _ ≤ _; omega)
        · have s2 := (L2.Same.up (o := .lst [.int 0]) n1).trans (L2.Same.up (o := .lst ([.int 0] ++ ns.map V.int)) n2)
          refine q _ p2 (fr.trans (Frame.of s2)) (hd1.keep s2) (fun F fs hF hFe z => Sep.keep hd1 s2 (hS F fs hF (by obtain ⟨dx9, v9, h9⟩ := hd.ins; exact ints_ne_ins hF h9) z)) (fun F fs hF => ne_of_none ((L2.Same.up n1) _ _ (fr.nums _ _ hF)) n2) ?_ ?_
          · show _ = _
            rw [upd_same, st]
            rfl
          · rw [st, List.length_cons]; omega
      · refine ⟨true, R.em, fun _ a0 ha0 => ?_, fun z => Bool.noConfusion z⟩
        refine ⟨_, rfl, rfl, rfl, dd, _, _, rfl, hx, lk0, sz 1 (by decide), fun p np => ?_⟩
        have s2 := s1.trans (L2.Same.up (o := .lst [.int n]) np)
        refine q _ p (Frame.of s2) (by rw [e2]; exact hd.keep s2) (fun F fs _ _ z => Sep.keep hd s2 z) (fun F fs hF => ne_of_none (s1 _ _ hF) np) ?_ ?_
        · show _ = _
          rw [upd_same, e1]
          rfl
        · rw [e1]; show 1 ≤ 1001; decide
end
end SL
end
/-! ## Wq -/
section
namespace SL
open PySem PySem.Spec PyProof.Rows L2
/-! ## the calls, as they stand in the list -/
/-- a call's numbers, as they are handed in -/
def flatOf (k : Nat) (i : Int) (row : List Int) : List Int := (k : Int) :: ((if hasBidder.getD k 0 = 1 then [i] else []) ++ (if hasList.getD k 0 = 1 then (row.length : Int) :: row else []))
structure RawIs (r : List (List Int)) (k : Nat) (i : Int) (row : List Int) (c : Vbndax.Call) : Prop where
  lt : k < 18
  call : callOf k i row = some c
  dec : Vbndax.decodeCall (PyVbndax.whole r) = some c
  flat : PyFlat.put1 r = flatOf k i row
  noB : hasBidder.getD k 0 ≠ 1 → i = 0
  noL : hasList.getD k 0 ≠ 1 → row = []
theorem raw_is {r : List (List Int)} (h : PyFlat.okCall PyVbndax.shape r) : ∃ k i row c, RawIs r k i row c := by
  obtain ⟨p, a, xs, rfl, hs⟩ := h
  unfold PyVbndax.shape at hs
  have two : ∀ {α : Type} {l : List α}, l.length = 1 → ∃ y, l = [y] := fun {α l} e => by
    match l, e with
    | [y], _ => exact ⟨y, rfl⟩
  have none_ : ∀ {α : Type} {l : List α}, l.length = 0 → l = [] := fun {α l} e => List.length_eq_zero_iff.mp e
  have flatL : ∀ row : List Int, PyFlat.putRows [row] = (row.length : Int) :: row := fun row => by
    show (row.length : Int) :: row ++ [] = _
    rw [List.append_nil]
  by_cases h0 : p = 0
  · rw [if_pos h0] at hs
    subst h0
    obtain ⟨e1, e2⟩ := Prod.mk.inj (Option.some.inj hs)
    obtain rfl := none_ e1.symm
    obtain ⟨row, rfl⟩ := two e2.symm
    exact ⟨0, 0, row, _, by decide, rfl, rfl, by show 0 :: PyFlat.putRows [row] = _; rw [flatL]; rfl, fun _ => rfl, fun z => absurd rfl z⟩
  rw [if_neg h0] at hs
  by_cases h1 : p = 1
  · rw [if_pos h1] at hs
    subst h1
    obtain ⟨e1, e2⟩ := Prod.mk.inj (Option.some.inj hs)
    obtain ⟨i, rfl⟩ := two e1.symm
    obtain ⟨row, rfl⟩ := two e2.symm
    exact ⟨1, i, row, _, by decide, rfl, rfl, by show 1 :: i :: PyFlat.putRows [row] = _; rw [flatL]; rfl, fun z => absurd rfl z, fun z => absurd rfl z⟩
  rw [if_neg h1] at hs
  by_cases h2 : p = 2
  · rw [if_pos h2] at hs
    subst h2
    obtain ⟨e1, e2⟩ := Prod.mk.inj (Option.some.inj hs)
    obtain rfl := none_ e1.symm
    obtain rfl := none_ e2.symm
    exact ⟨2, 0, [], _, by decide, rfl, rfl, rfl, fun _ => rfl, fun _ => rfl⟩
  rw [if_neg h2] at hs
  by_cases h3 : p = 3
  · rw [if_pos h3] at hs
    subst h3
    obtain ⟨e1, e2⟩ := Prod.mk.inj (Option.some.inj hs)
    obtain rfl := none_ e1.symm
    obtain rfl := none_ e2.symm
    exact ⟨3, 0, [], _, by decide, rfl, rfl, rfl, fun _ => rfl, fun _ => rfl⟩
  rw [if_neg h3] at hs
  by_cases h4 : p = 4
  · rw [if_pos h4] at hs
    subst h4
    obtain ⟨e1, e2⟩ := Prod.mk.inj (Option.some.inj hs)
    obtain rfl := none_ e1.symm
    obtain rfl := none_ e2.symm
    exact ⟨4, 0, [], _, by decide, rfl, rfl, rfl, fun _ => rfl, fun _ => rfl⟩
  rw [if_neg h4] at hs
  by_cases h5 : p = 5
  · rw [if_pos h5] at hs
    subst h5
    obtain ⟨e1, e2⟩ := Prod.mk.inj (Option.some.inj hs)
    obtain rfl := none_ e1.symm
    obtain rfl := none_ e2.symm
    exact ⟨5, 0, [], _, by decide, rfl, rfl, rfl, fun _ => rfl, fun _ => rfl⟩
  rw [if_neg h5] at hs
  by_cases h6 : p = 6
  · rw [if_pos h6] at hs
    subst h6
    obtain ⟨e1, e2⟩ := Prod.mk.inj (Option.some.inj hs)
    obtain rfl := none_ e1.symm
    obtain rfl := none_ e2.symm
    exact ⟨6, 0, [], _, by decide, rfl, rfl, rfl, fun _ => rfl, fun _ => rfl⟩
  rw [if_neg h6] at hs
  by_cases h7 : p = 7
  · rw [if_pos h7] at hs
    subst h7
    obtain ⟨e1, e2⟩ := Prod.mk.inj (Option.some.inj hs)
    obtain rfl := none_ e1.symm
    obtain ⟨row, rfl⟩ := two e2.symm
    exact ⟨7, 0, row, _, by decide, rfl, rfl, by show 7 :: PyFlat.putRows [row] = _; rw [flatL]; rfl, fun _ => rfl, fun z => absurd rfl z⟩
  rw [if_neg h7] at hs
  by_cases h8 : p = 8
  · rw [if_pos h8] at hs
    subst h8
    obtain ⟨e1, e2⟩ := Prod.mk.inj (Option.some.inj hs)
    obtain ⟨i, rfl⟩ := two e1.symm
    obtain ⟨row, rfl⟩ := two e2.symm
    exact ⟨8, i, row, _, by decide, rfl, rfl, by show 8 :: i :: PyFlat.putRows [row] = _; rw [flatL]; rfl, fun z => absurd rfl z, fun z => absurd rfl z⟩
  rw [if_neg h8] at hs
  by_cases h9 : p = 9
  · rw [if_pos h9] at hs
    subst h9
    obtain ⟨e1, e2⟩ := Prod.mk.inj (Option.some.inj hs)
    obtain rfl := none_ e1.symm
    obtain ⟨row, rfl⟩ := two e2.symm
    exact ⟨9, 0, row, _, by decide, rfl, rfl, by show 9 :: PyFlat.putRows [row] = _; rw [flatL]; rfl, fun _ => rfl, fun z => absurd rfl z⟩
  rw [if_neg h9] at hs
  by_cases h10 : p = 10
  · rw [if_pos h10] at hs
    subst h10
    obtain ⟨e1, e2⟩ := Prod.mk.inj (Option.some.inj hs)
    obtain rfl := none_ e1.symm
    obtain rfl := none_ e2.symm
    exact ⟨10, 0, [], _, by decide, rfl, rfl, rfl, fun _ => rfl, fun _ => rfl⟩
  rw [if_neg h10] at hs
  by_cases h11 : p = 11
  · rw [if_pos h11] at hs
    subst h11
    obtain ⟨e1, e2⟩ := Prod.mk.inj (Option.some.inj hs)
    obtain ⟨i, rfl⟩ := two e1.symm
    obtain ⟨row, rfl⟩ := two e2.symm
    exact ⟨11, i, row, _, by decide, rfl, rfl, by show 11 :: i :: PyFlat.putRows [row] = _; rw [flatL]; rfl, fun z => absurd rfl z, fun z => absurd rfl z⟩
  rw [if_neg h11] at hs
  by_cases h12 : p = 12
  · rw [if_pos h12] at hs
    subst h12
    obtain ⟨e1, e2⟩ := Prod.mk.inj (Option.some.inj hs)
    obtain ⟨i, rfl⟩ := two e1.symm
    obtain ⟨row, rfl⟩ := two e2.symm
    exact ⟨12, i, row, _, by decide, rfl, rfl, by show 12 :: i :: PyFlat.putRows [row] = _; rw [flatL]; rfl, fun z => absurd rfl z, fun z => absurd rfl z⟩
  rw [if_neg h12] at hs
  by_cases h13 : p = 13
  · rw [if_pos h13] at hs
    subst h13
    obtain ⟨e1, e2⟩ := Prod.mk.inj (Option.some.inj hs)
    obtain ⟨i, rfl⟩ := two e1.symm
    obtain ⟨row, rfl⟩ := two e2.symm
    exact ⟨13, i, row, _, by decide, rfl, rfl, by show 13 :: i :: PyFlat.putRows [row] = _; rw [flatL]; rfl, fun z => absurd rfl z, fun z => absurd rfl z⟩
  rw [if_neg h13] at hs
  by_cases h14 : p = 14
  · rw [if_pos h14] at hs
    subst h14
    obtain ⟨e1, e2⟩ := Prod.mk.inj (Option.some.inj hs)
    obtain ⟨i, rfl⟩ := two e1.symm
    obtain rfl := none_ e2.symm
    exact ⟨14, i, [], _, by decide, rfl, rfl, rfl, fun z => absurd rfl z, fun _ => rfl⟩
  rw [if_neg h14] at hs
  by_cases h15 : p = 15
  · rw [if_pos h15] at hs
    subst h15
    obtain ⟨e1, e2⟩ := Prod.mk.inj (Option.some.inj hs)
    obtain rfl := none_ e1.symm
    obtain rfl := none_ e2.symm
    exact ⟨15, 0, [], _, by decide, rfl, rfl, rfl, fun _ => rfl, fun _ => rfl⟩
  rw [if_neg h15] at hs
  by_cases h16 : p = 16
  · rw [if_pos h16] at hs
    subst h16
    obtain ⟨e1, e2⟩ := Prod.mk.inj (Option.some.inj hs)
    obtain rfl := none_ e1.symm
    obtain rfl := none_ e2.symm
    exact ⟨16, 0, [], _, by decide, rfl, rfl, rfl, fun _ => rfl, fun _ => rfl⟩
  rw [if_neg h16] at hs
  by_cases h17 : p = 17
  · rw [if_pos h17] at hs
    subst h17
    obtain ⟨e1, e2⟩ := Prod.mk.inj (Option.some.inj hs)
    obtain rfl := none_ e1.symm
    obtain rfl := none_ e2.symm
    exact ⟨17, 0, [], _, by decide, rfl, rfl, rfl, fun _ => rfl, fun _ => rfl⟩
  rw [if_neg h17] at hs
  cases hs
theorem step_of {r : List (List Int)} {c : Vbndax.Call} (h : Vbndax.decodeCall (PyVbndax.whole r) = some c) (s : Vbndax.State) : VbndaxNeutral.step s (PyVbndax.whole r) = Vbndax.step s c := by
  show Vbndax.stepLists s (PyVbndax.whole r) = _
  unfold Vbndax.stepLists
  rw [h]
/-- all answers behind a state -/
def toldFrom (s : Vbndax.State) (rs : List (List (List Int))) : List Int := PyFlat.told (PyFlat.played VbndaxNeutral.step s (rs.map PyVbndax.whole))
theorem told_nil (s : Vbndax.State) : toldFrom s [] = [] := rfl
theorem told_cons {r : List (List Int)} {c : Vbndax.Call} (h : Vbndax.decodeCall (PyVbndax.whole r) = some c) (s : Vbndax.State) (rs : List (List (List Int))) :
    toldFrom s (r :: rs) = ((Vbndax.step s c).2.length : Int) :: (Vbndax.step s c).2 ++ toldFrom (Vbndax.step s c).1 rs := by
  unfold toldFrom
  rw [List.map_cons]
  show PyFlat.told ((VbndaxNeutral.step s (PyVbndax.whole r)).2 :: PyFlat.played VbndaxNeutral.step (VbndaxNeutral.step s (PyVbndax.whole r)).1 (rs.map PyVbndax.whole)) = _
  rw [step_of h]
  rfl
/-- what is asked of the list -/
theorem asked_is {l : List Int} (h : PyVbndax.answers_asked l = true) : ∃ rs, l = PyFlat.put rs ∧ (∀ r ∈ rs, PyFlat.okCall PyVbndax.shape r) ∧ PyVbndax.answers l = toldFrom none rs ∧ (toldFrom none rs).length ≤ 10000000 := by
  unfold PyVbndax.answers_asked at h
  cases e : PyFlat.calls PyVbndax.shape l.length l with
  | none => rw [e] at h; cases h
  | some rs =>
    rw [e] at h
    obtain ⟨h1, h2⟩ := PyFlat.put_calls _ _ _ e
    have ha : PyVbndax.answers l = toldFrom none rs := by
      unfold PyVbndax.answers PyVbndax.calls
      rw [e]
      rfl
    have h : (!rs.isEmpty && PyFlat.atMost 60 rs && PyInside.calls PyVbndax.bound rs && VbndaxNeutral.asked (rs.map PyVbndax.whole) && PyFlat.short 10000000 (PyVbndax.answers l)) = true := h
    rw [Bool.and_eq_true] at h
    have h5 : PyFlat.short 10000000 (PyVbndax.answers l) = true := h.2
    unfold PyFlat.short at h5
    rw [ha] at h5
    exact ⟨rs, h1, h2, ha, of_decide_eq_true h5⟩
end SL
end
/-! ## Wz -/
section
namespace SL
open PySem PySem.Spec PyProof.Rows L2
/-- the answers' list grows: the desk stands -/
theorem DeskAt.grown {CD CA F : Addr} {H : Hp} {d : Addr} {fs : List Int} {ys : List V} (hF : IntsL H F fs) : ∀ {s : Vbndax.State}, DeskAt CD CA H d s → Sep CD CA F H d → DeskAt CD CA (upd H F (.lst ys)) d s ∧ Sep CD CA F (upd H F (.lst ys)) d
  | none, ⟨dx, h⟩, _ => by
    have h' := (upd_ne (o := .lst ys) (Ne.symm (ints_ne_ins hF h))).trans h
    refine ⟨⟨dx, h'⟩, fun dx' a' ax' rp' sp' cl' qs' e1 => ?_⟩
    rw [h'] at e1
    injection e1 with e1
    injection e1 with _ _ e1
    cases dF_inj e1
  | some x, ⟨dx, a, h, ⟨ax, rp, sp, qs, U⟩, v⟩, hs => by
    obtain ⟨n1, n2⟩ := hs dx a ax rp sp _ qs h U.obj U.lst
    have h' := (upd_ne (o := .lst ys) (Ne.symm (ints_ne_ins hF h))).trans h
    have ha := (upd_ne (o := .lst ys) (Ne.symm (ints_ne_ins hF U.obj))).trans U.obj
    have hsp := (upd_ne (o := .lst ys) (Ne.symm (ints_ne_sub U v hF))).trans U.lst
    refine ⟨⟨dx, a, h', ⟨ax, rp, sp, qs, ⟨ha, (upd_ne n1).trans U.res, hsp, U.sub.1, fun i y o e1 e2 => ?_⟩⟩, v⟩, Sep.of h' ha hsp n1 n2⟩
    have so := U.sub.2 i y o e1 e2
    cases o with
    | none => exact so
    | some l =>
      obtain ⟨q, rfl, hq⟩ := so
      exact ⟨q, rfl, (upd_ne (fun z => n2 (by rw [← z]; exact List.mem_of_getElem? e1))).trans hq⟩
theorem drop_cons {α : Type} {l : List α} {n : Nat} {x : α} {r : List α} (h : l.drop n = x :: r) : l[n]? = some x ∧ l.drop (n + 1) = r ∧ n < l.length := by
  have e1 : l[n]? = some x := by
    have := congrArg (fun l => l[0]?) h
    simpa using this
  refine ⟨e1, ?_, (List.getElem?_eq_some_iff.mp e1).1⟩
  have : l.drop (n + 1) = (l.drop n).drop 1 := by rw [List.drop_drop]
  rw [this, h]
  rfl
theorem drop_app {α : Type} {l : List α} {n : Nat} {x r : List α} (h : l.drop n = x ++ r) : (l.drop n).take x.length = x ∧ l.drop (n + x.length) = r ∧ x.length ≤ l.length - n := by
  refine ⟨by rw [h, List.take_left'] ; rfl, ?_, ?_⟩
  · rw [← List.drop_drop, h, List.drop_left']; rfl
  · have := congrArg List.length h
    rw [List.length_drop, List.length_append] at this
    omega
theorem cut_mid (xs : List V) (p n : Nat) (h : p + n ≤ xs.length) : cutV xs (some (p : Int)) (some ((p + n : Nat) : Int)) = (xs.drop p).take n := by
  unfold cutV
  rw [HT.sIx_nat, HT.sIx_nat, Nat.min_eq_left (by omega : p ≤ xs.length), Nat.min_eq_left h, Nat.add_sub_cancel_left]
theorem relR (a : Addr) : RelV (.ref a) (Value.ref a) := rfl
theorem int_at {ns : List Int} {n : Nat} {x : Int} (h : ns[n]? = some x) : atI (ns.map V.int) (n : Int) = some (V.int x) := by
  refine atI_nat ?_
  rw [List.getElem?_map, h]; rfl
section
variable {P : Program} {w : World} {K : PySem.W.Frag} {mg : Str → Option Value} {base : Heap} {CA fA CD fD CR fR : Addr}
/-! ### answers -/
abbrev sAll : Stmt := top 57
theorem scAll : FnScope ["calls", "desk", "found", "at", "deed", "bidder", "row", "told"] ["calls"] (defScope sAll) := ⟨rfl, rfl, rfl, by decide +kernel, rfl, by decide +kernel, by decide +kernel⟩
def spAll (K : PySem.W.Frag) : Sp := fun vs H Q _ => ∃ (a : Addr) (ns : List Int), vs = [.ref a] ∧ SqL K H a (ns.map V.int) ∧ ns.length ≤ 800 ∧ PyVbndax.answers_asked ns = true ∧ ∀ H' p, H' p = some (.lst ((PyVbndax.answers ns).map V.int)) → Q (.ref p) H'
theorem ok_all {f fd fd'} (T : Tx mg) (A : Td K mg CD fD) (Q0 : Th K mg) (D : Def K mg "answers" "answers" sAll ["calls"] f fd) (FD : FnOk P w K mg base CX0 1 fD fd' ["self"] (spDinit CD)) (bD : Binds K fd' ["self"] [])
    (Ga : Ok P w K mg base CX0 12 "answer" ["desk", "deed", "bidder", "row"] (spAns CD CA)) : FnOk P w K mg base CX0 13 f fd ["calls"] (spAll K) := by
  obtain ⟨f1, fd1, g1, k1, b1, F1⟩ := Ga
  obtain ⟨aB, hB, tB⟩ := Q0.bid
  obtain ⟨aL, hL, tL⟩ := Q0.row
  refine D.fn.ok scAll (fun vs H Q E h => ?_) (fun cdv A0 outer s H vs Q E hr h => ⟨_,
      pss_cons (ps_par3 (i := 1) (j := 2) (l := 3) rfl scAll.nd rfl rfl rfl (by decide) (by decide) (by decide) rfl rfl rfl (pa_cons (pe_make0 A.mks FD (hr.mono (by decide)) (by rfl) A.g bD .nil pass0) (pa_cons (pe_lst pa_nil) (pa_cons pe_int pa_nil))) (by rfl))
      (pss_cons (ps_while PassesOwn.never (pt_cmpR op_lt (pv 3) (pe_callB call_len_seq (by rfl) T.len PySem.boot_len (pa_cons (pv 0) pa_nil)) (nomark _))
        (pss_cons (ps_par3 (i := 4) (j := 5) (l := 6) rfl scAll.nd rfl rfl rfl (by decide) (by decide) (by decide) rfl rfl rfl (pa_cons (pe_ix ix_list (pv 0) (pv 3) (fun _ _ => rfl)) (pa_cons pe_int (pa_cons (pe_lst pa_nil) pa_nil))) (by rfl))
        (pss_cons (ps_aug (i := 3) scAll.nd rfl (Or.inl rfl) pe_int ip_add)
        (C8.pss_cut (ps_if (pt_cmpR op_eq (pe_ix ix_tup (pe_glob rfl hB (relR _)) (pv 4) (fun _ _ => rfl)) pe_int (nomark _))
          (pss_cons (ps_set (i := 5) scAll.nd rfl (Or.inl rfl) (pe_ix ix_list (pv 0) (pv 3) (fun _ _ => rfl))) (pss_one (ps_aug (i := 3) scAll.nd rfl (Or.inl rfl) pe_int ip_add))) pss_nil)
        (C8.pss_cut (ps_if (pt_cmpR op_eq (pe_ix ix_tup (pe_glob rfl hL (relR _)) (pv 4) (fun _ _ => rfl)) pe_int (nomark _))
          (pss_cons (ps_set (i := 6) scAll.nd rfl (Or.inl rfl) (pe_slice sl_list (pv 0) (po_some (pe_op op_add (pv 3) pe_int)) (po_some (pe_op op_add (pe_op op_add (pv 3) pe_int) (pe_ix ix_list (pv 0) (pv 3) (fun _ _ => rfl))))))
          (pss_one (ps_aug (i := 3) scAll.nd rfl (Or.inl rfl) (pe_op op_add pe_int (pe_callB call_len_seq (by rfl) T.len PySem.boot_len (pa_cons (pv 6) pa_nil))) ip_add))) pss_nil)
        (pss_cons (ps_set (i := 7) scAll.nd rfl (Or.inl rfl) (pe_call F1 hr rfl g1 k1 b1 .nil pass0 (pa_cons (pv 1) (pa_cons (pv 4) (pa_cons (pv 5) (pa_cons (pv 6) pa_nil))))))
        (pss_cons (ps_expr (pe_bm PySem.F.plainAttrs_list PySem.F.slot_list_append PySem.F.type_list_append mt_append (pv 2) (pa_cons (pe_callB call_len_seq (by rfl) T.len PySem.boot_len (pa_cons (pv 7) pa_nil)) pa_nil)))
        (pss_one (ps_expr (pe_bm PySem.F.plainAttrs_list PySem.F.slot_list_extend PySem.F.type_list_extend mt_extend (pv 2) (pa_cons (pv 7) pa_nil)))))))))))
      (pss_one (ps_ret (pv 2)))), ?_⟩)
  · obtain ⟨_, _, rfl, _⟩ := h
    rfl
  · obtain ⟨a, ns, rfl, hc0, hlen, hask, q⟩ := h
    obtain ⟨rs0, hput, hok0, hans, hsz⟩ := asked_is hask
    refine fun d dx nd ndx nex => ⟨d, dx, rfl, upd_same, ⟨rfl, ⟨sz 0 (by decide), fun F hF => ⟨_, _, _, rfl, ?_⟩⟩⟩⟩
    have hd1 : (upd (upd (upd H dx (.own d)) d (.ins CD dx [])) d (.ins CD dx (dF .non))) d = some (.ins CD dx (dF .non)) := upd_same
    have s1 : Same H (upd (upd (upd H dx (.own d)) d (.ins CD dx [])) d (.ins CD dx (dF .non))) := fun b o hb => by rw [upd_ne (ne_of_none hb nd), upd_ne (ne_of_none hb nd), upd_ne (ne_of_none hb ndx)]; exact hb
    generalize upd (upd (upd H dx (.own d)) d (.ins CD dx [])) d (.ins CD dx (dF .non)) = H1 at hF hd1 s1
    have s2 := L2.Same.up (o := .lst []) hF
    have hcal : a ≠ F ∨ ∀ H', SqL K H' a (ns.map V.int) := by
      have hF0 : H F = none := L2.Same.free s1 hF
      rcases hc0 with (h | ⟨o, h⟩) | h
      · exact .inl (ne_of_none h hF0)
      · exact .inl (ne_of_none h hF0)
      · exact .inr fun H' => .inr h
    refine ⟨fun m σ H' => ∃ (pos : Nat) (rs : List (List (List Int))) (s : Vbndax.State) (fnd : List Int) (v4 v5 v6 v7 : Option V), σ = [some (.ref a), some (.ref d), some (.ref F), some (.int pos), v4, v5, v6, v7] ∧ rs.length = m ∧ ns.drop pos = PyFlat.put rs ∧ (∀ r ∈ rs, PyFlat.okCall PyVbndax.shape r) ∧
      SqL K H' a (ns.map V.int) ∧ DeskAt CD CA H' d s ∧ Sep CD CA F H' d ∧ IntsL H' F fnd ∧ toldFrom none rs0 = fnd ++ toldFrom s rs,
      ⟨rs0.length, 0, rs0, none, [], none, none, none, none, rfl, rfl, hput, hok0, (s1.trans s2).seq hc0, ⟨dx, s2 _ _ hd1⟩, fun dx' a' ax' rp' sp' cl' qs' e1 => ?_, upd_same, rfl⟩, ?_⟩
    · rw [s2 _ _ hd1] at e1
      injection e1 with e1
      injection e1 with _ _ e1
      cases dF_inj e1
    · rintro m σ H2 ⟨pos, rs, s, fnd, v4, v5, v6, v7, rfl, hm, hdrop, hok, hc, hd, hS, hf, htot⟩
      refine ⟨_, rfl, _, rfl, a, _, rfl, .inl hc, _, _, rfl, rfl, _, rfl, ?_⟩
      rw [List.length_map]
      refine ite2 (fun cc => ?_) (fun cc => ?_)
      · have cc := of_decide_eq_true cc
        cases rs with
        | nil =>
          have := congrArg List.length hdrop
          rw [List.length_drop] at this
          have e0 : (PyFlat.put []).length = 0 := rfl
          omega
        | cons r rs =>
          obtain ⟨k, i, row, c, hr⟩ := raw_is (hok r (List.mem_cons_self ..))
          have hlt := hr.lt
          have e : ns.drop pos = PyFlat.put1 r ++ PyFlat.put rs := hdrop
          rw [hr.flat] at e
          obtain ⟨e0, e1, _⟩ := drop_cons (show ns.drop pos = (k : Int) :: (((if hasBidder.getD k 0 = 1 then [i] else []) ++ (if hasList.getD k 0 = 1 then (row.length : Int) :: row else [])) ++ PyFlat.put rs) from e)
          rw [List.append_assoc] at e1
          rw [told_cons hr.dec] at htot
          have hsz' : fnd.length + ((Vbndax.step s c).2.length + 1) ≤ 10000000 := by
            rw [htot, List.length_append, List.length_append] at hsz
            have : (((Vbndax.step s c).2.length : Int) :: (Vbndax.step s c).2).length = (Vbndax.step s c).2.length + 1 := rfl
            omega
          refine ⟨fun σ' H' => ∃ (pos : Nat) (s : Vbndax.State) (fnd : List Int) (v4 v5 v6 v7 : Option V), σ' = [some (.ref a), some (.ref d), some (.ref F), some (.int pos), v4, v5, v6, v7] ∧ ns.drop pos = PyFlat.put rs ∧
            SqL K H' a (ns.map V.int) ∧ DeskAt CD CA H' d s ∧ Sep CD CA F H' d ∧ IntsL H' F fnd ∧ toldFrom none rs0 = fnd ++ toldFrom s rs,
            fun σ' H' ⟨p', s', f', w4, w5, w6, w7, z1, z2, z4, z5, z6, z7, z8⟩ => ⟨rs.length, by rw [← hm]; exact Nat.lt_succ_self _, p', rs, s', f', w4, w5, w6, w7, z1, rfl, z2, fun r' hr' => hok r' (List.mem_cons_of_mem _ hr'), z4, z5, z6, z7, z8⟩, ?_⟩
          refine ⟨_, rfl, _, rfl, a, _, _, _, rfl, rfl, hc, int_at e0, sz 0 (by decide), fun R0 hR0 => ⟨_, _, _, rfl, ?_⟩⟩
          have s3 := L2.Same.up (o := .lst []) hR0
          have hR0' : upd H2 R0 (.lst []) R0 = some (.lst []) := upd_same
          have hR0F : R0 ≠ F := Ne.symm (ne_of_none hf hR0)
          generalize upd H2 R0 (.lst []) = H3 at s3 hR0' ⊢
          have hc3 := s3.seq hc
          have hatB : atI (hasBidder.map V.int) (k : Int) = some (V.int (hasBidder.getD k 0)) := at_int rfl (by show k < 18; exact hlt) 0
          have hatL : atI (hasList.map V.int) (k : Int) = some (V.int (hasList.getD k 0)) := at_int rfl (by show k < 18; exact hlt) 0
          refine ⟨_, rfl, _, _, rfl, rfl, ?_⟩
          -- the bidder
          refine ⟨fun σ' H' => ∃ pos1 : Nat, σ' = [some (.ref a), some (.ref d), some (.ref F), some (.int pos1), some (.int k), some (.int i), some (.ref R0), v7] ∧ H' = H3 ∧ ns.drop pos1 = (if hasList.getD k 0 = 1 then (row.length : Int) :: row else []) ++ PyFlat.put rs, ?_, ?_⟩
          · refine ⟨_, rfl, aB, _, _, _, rfl, rfl, tB H3, hatB, rfl, _, rfl, ?_⟩
            rw [dec_int]
            refine ite2 (fun cb => ?_) (fun cb => ?_)
            · have cb := eq_of_beq cb
              rw [if_pos cb] at e1
              obtain ⟨e2, e3, _⟩ := drop_cons (show ns.drop (pos + 1) = i :: _ from e1)
              refine ⟨_, rfl, _, rfl, a, _, _, _, rfl, rfl, hc3, int_at e2, _, rfl, _, _, rfl, rfl, ?_⟩
              exact ⟨pos + 1 + 1, rfl, rfl, e3⟩
            · have cb : hasBidder.getD k 0 ≠ 1 := fun z => cb (by rw [z]; rfl)
              rw [if_neg cb] at e1
              exact ⟨pos + 1, by rw [hr.noB cb]; rfl, rfl, e1⟩
          · rintro σ' H' ⟨pos1, rfl, rfl, e2⟩
            -- the list
            refine ⟨fun σ' H' => ∃ (pos2 : Nat) (e : Addr), σ' = [some (.ref a), some (.ref d), some (.ref F), some (.int pos2), some (.int k), some (.int i), some (.ref e), v7] ∧ Same H2 H' ∧ IntsL H' e row ∧ e ≠ F ∧ ns.drop pos2 = PyFlat.put rs, ?_, ?_⟩
            · refine ⟨_, rfl, aL, _, _, _, rfl, rfl, tL _, hatL, rfl, _, rfl, ?_⟩
              rw [dec_int]
              refine ite2 (fun cl => ?_) (fun cl => ?_)
              · have cl := eq_of_beq cl
                rw [if_pos cl] at e2
                obtain ⟨e3, e4, e4l⟩ := drop_cons (show ns.drop pos1 = (row.length : Int) :: (row ++ PyFlat.put rs) from e2)
                obtain ⟨e5, e6, e7⟩ := drop_app e4
                refine ⟨_, rfl, _, rfl, _, _, rfl, rfl, _, rfl, _, rfl, _, _, rfl, rfl, _, rfl, _, rfl, a, _, _, _, rfl, rfl, hc3, int_at e3, _, _, rfl, rfl, _, rfl, a, _, rfl, hc3, fun p np => ?_⟩
                have hcut : cutV (ns.map V.int) (some ((pos1 : Int) + 1)) (some ((pos1 : Int) + 1 + (row.length : Int))) = row.map V.int := by
                  have h1 : ((pos1 : Int) + 1) = ((pos1 + 1 : Nat) : Int) := by simp
                  have h2 : ((pos1 : Int) + 1 + (row.length : Int)) = ((pos1 + 1 + row.length : Nat) : Int) := by simp
                  rw [h2, h1, cut_mid _ _ _ (by rw [List.length_map]; omega), ← List.map_drop, ← List.map_take, e5]
                rw [hcut]
                refine ⟨_, rfl, _, rfl, p, _, rfl, .inl (SqL.of upd_same), _, _, rfl, rfl, _, _, rfl, rfl, ?_⟩
                refine ⟨pos1 + 1 + row.length, p, ?_, s3.trans (L2.Same.up np), upd_same, ?_, e6⟩
                · have h2 : ((pos1 : Int) + (1 + ((row.map V.int).length : Int))) = ((pos1 + 1 + row.length : Nat) : Int) := by rw [List.length_map]; omega
                  rw [← h2]
                  rfl
                · exact Ne.symm (ne_of_none (s3 _ _ hf) np)
              · have cl : hasList.getD k 0 ≠ 1 := fun z => cl (by rw [z]; rfl)
                rw [if_neg cl] at e2
                exact ⟨pos1, R0, rfl, s3, by rw [hr.noL cl]; exact hR0', hR0F, e2⟩
            · rintro σ' H4 ⟨pos2, e, rfl, s4, he, heF, e3⟩
              -- the call
              refine ⟨_, rfl, _, rfl, _, rfl, _, rfl, d, e, s, k, i, row, c, rfl, hd.keep s4, he, hlt, hr.call, fun H5 p fr hd5 hS5 hpF hp hpl => ?_⟩
              have hf4 : IntsL H4 F fnd := s4 _ _ hf
              have hf5 := fr.nums _ _ hf4
              have hS5 := hS5 F fnd hf4 (Ne.symm heF) (Sep.keep hd s4 hS)
              have hpF := hpF F fnd hf4
              have hc5 : SqL K H5 a (ns.map V.int) := fr.seq (s4.seq hc)
              refine ⟨_, rfl, .inl ⟨rfl, _, SqL.of hf5⟩, _, rfl, p, _, rfl, .inl (SqL.of hp), F, _, _, rfl, rfl, hf5, ?_, ?_⟩
              · rw [List.length_map]; exact szl _ (by omega)
              · have g1 := DeskAt.grown (ys := fnd.map V.int ++ [.int (((Vbndax.step s c).2.map V.int).length : Nat)]) hf5 hd5 hS5
                refine ⟨_, rfl, .inl ⟨rfl, _, SqL.of upd_same⟩, _, rfl, F, p, _, _, rfl, rfl, upd_same, (upd_ne (Ne.symm hpF)).trans hp, ?_, ?_⟩
                · rw [List.length_append, List.length_map, List.length_map]; exact sz _ (by show _ + 1 + _ ≤ _; omega)
                · rw [upd_upd]
                  have g2 := DeskAt.grown (ys := (fnd.map V.int ++ [.int (((Vbndax.step s c).2.map V.int).length : Nat)]) ++ (Vbndax.step s c).2.map V.int) hf5 hd5 hS5
                  refine ⟨pos2, (Vbndax.step s c).1, fnd ++ ((Vbndax.step s c).2.length : Int) :: (Vbndax.step s c).2, some (.int k), some (.int i), some (.ref e), some (.ref p), rfl, e3, ?_, g2.1, g2.2, ?_, ?_⟩
                  · rcases hcal with z | z
                    · exact seq_upd hc5 z
                    · exact z _
                  · show _ = _
                    rw [upd_same, List.length_map, List.map_append, List.append_assoc]
                    rfl
                  · rw [htot, List.append_assoc]
      · have cc : ¬ ((pos : Int) < (ns.length : Int)) := by simpa using cc
        cases rs with
        | cons r rs =>
          obtain ⟨k, i, row, c, hr⟩ := raw_is (hok r (List.mem_cons_self ..))
          have e : ns.drop pos = PyFlat.put1 r ++ PyFlat.put rs := hdrop
          rw [hr.flat] at e
          have := (drop_cons (show ns.drop pos = (k : Int) :: _ from e)).2.2
          omega
        | nil =>
          rw [told_nil, List.append_nil] at htot
          refine ⟨_, rfl, q _ F ?_⟩
          rw [hans, htot]
          exact hf
end
end SL
end
/-! ## We -/
section
namespace SL
open PySem PySem.Spec PyProof.Rows L2
/-! ### the end: what the top leaves, in bundles -/
/-- an error of the class at S is what «except S» names -/
theorem refused_self {K : PySem.W.Frag} {S : Addr} (h1 : PySem.W.subIn K (.ref S) (.type "BaseException") = some true) (h2 : PySem.W.isClsIn K S = true) (h3 : PySem.W.typeIn K (.ref S) = some (.type "type")) (h4 : PySem.W.subIn K (.ref S) (.ref S) = some true) :
    PySem.W.exmOne K (.ref S) (.ref S) = some true := by
  have i1 : (PySem.W.clsIn K S).isSome = true := h2
  unfold PySem.W.exmOne PySem.W.kitCls
  simp only [h1, h2, h3, h4, i1, beq_self_eq_true, Bool.and_self, if_true]
section
variable {K : PySem.W.Frag} {h : Heap} {mg : Str → Option Value}
def DefE (K : PySem.W.Frag) (mg : Str → Option Value) (x : Str) (st : Stmt) (ps : List Str) : Prop := ∃ f fd, Def K mg x x st ps f fd
def DefME (K : PySem.W.Frag) (C : Addr) (m qual : Str) (st : Stmt) (ps : List Str) : Prop := ∃ f fd, DefM K C m qual st ps f fd
def FunE (K : PySem.W.Frag) (f : Addr) (qual : Str) (st : Stmt) (ps : List Str) : Prop := ∃ fd, Fun K "__init__" qual st f fd ∧ Binds K fd ps []
/-- the object of a def -/
abbrev fnAt (x qual : Str) (st : Stmt) (oc : Value) (od : Option Addr) (kV dc pm : Value) (an : Option Addr) (cd ct : Value) (sl : Array (Option Value)) : Option Obj := some ⟨oc, od, .func (PySem.W.fnOf x qual (defArgs st) (defBody st) (defScope st) .none kV dc pm an cd ct), sl⟩
/-- how the given ones are bound -/
abbrev Bnd (x qual : Str) (st : Stmt) (ps : List Str) : Prop := ∀ (kV doc pm : Value) (an : Option Addr) (cdv ct : Value) (us : List Value), us.length = ps.length → bindArgs (PySem.W.fnOf x qual (defArgs st) (defBody st) (defScope st) .none kV doc pm an cdv ct) ⟨us, []⟩ = pure (ps.zip us)
theorem de_of {x : Str} {st : Stmt} {ps : List Str} (b : Bnd x x st ps) {f : Addr} {oc kV dc pm cd ct : Value} {od an : Option Addr} {sl : Array (Option Value)} (X : K.In h) (G : h.Ns mainGlobals mg)
    (a : PySem.W.nsIn K mainGlobals x = some (some (.ref f))) (l : K.lookup f = fnAt x x st oc od kV dc pm an cd ct sl) (c : PySem.W.codeIn K cd x = true) (k : PySem.W.keepIn K (.ref f) = true) : DefE K mg x st ps :=
  have F := fun_mk (st := st) l c k
  ⟨f, _, F, PySem.W.mg_of X G a, F.binds b⟩
theorem dm_of {m qual : Str} {st : Stmt} {ps : List Str} (b : Bnd m qual st ps) {C f : Addr} {oc kV dc pm cd ct : Value} {od an : Option Addr} {sl : Array (Option Value)}
    (a : PySem.W.findIn K (.ref C) m = some (some (.ref f))) (i : PySem.W.isFn K (.ref f) = true) (l : K.lookup f = fnAt m qual st oc od kV dc pm an cd ct sl) (c : PySem.W.codeIn K cd qual = true) (k : PySem.W.keepIn K (.ref f) = true) : DefME K C m qual st ps :=
  have F := fun_mk (st := st) l c k
  ⟨f, _, F, ⟨a, i, k⟩, F.binds b⟩
theorem fe_of {qual : Str} {st : Stmt} {ps : List Str} (b : Bnd "__init__" qual st ps) {f : Addr} {oc kV dc pm cd ct : Value} {od an : Option Addr} {sl : Array (Option Value)}
    (l : K.lookup f = fnAt "__init__" qual st oc od kV dc pm an cd ct sl) (c : PySem.W.codeIn K cd qual = true) (k : PySem.W.keepIn K (.ref f) = true) : FunE K f qual st ps :=
  have F := fun_mk (st := st) l c k
  ⟨_, F, F.binds b⟩
theorem b_has : Bnd "has" "has" sHas ["lots", "lot"] := fun _ _ _ _ _ _ us hl => match us, hl with | [_, _], _ => rfl
theorem b_out : Bnd "reserves_outside" "reserves_outside" sOut ["reserves", "lots"] := fun _ _ _ _ _ _ us hl => match us, hl with | [_, _], _ => rfl
theorem b_with : Bnd "value_with" "value_with" sWith ["bids", "lots", "lot", "behind"] := fun _ _ _ _ _ _ us hl => match us, hl with | [_, _, _, _], _ => rfl
theorem b_choices : Bnd "choices" "choices" sChoices ["lots", "many"] := fun _ _ _ _ _ _ us hl => match us, hl with | [_, _], _ => rfl
theorem b_ahead : Bnd "values_ahead" "values_ahead" sAhead ["bids", "many", "behind"] := fun _ _ _ _ _ _ us hl => match us, hl with | [_, _, _], _ => rfl
theorem b_tables : Bnd "value_tables" "value_tables" sTables ["bids", "reserves"] := fun _ _ _ _ _ _ us hl => match us, hl with | [_, _], _ => rfl
theorem b_total : Bnd "total_value" "total_value" sTotal ["bids", "reserves"] := fun _ _ _ _ _ _ us hl => match us, hl with | [_, _], _ => rfl
theorem b_alloc : Bnd "best_allocation" "best_allocation" sAlloc ["bids", "reserves"] := fun _ _ _ _ _ _ us hl => match us, hl with | [_, _], _ => rfl
theorem b_dbl : Bnd "doubled" "doubled" sDbl ["row", "lot"] := fun _ _ _ _ _ _ us hl => match us, hl with | [_, _], _ => rfl
theorem b_wout : Bnd "without" "without" sWout ["row", "lot"] := fun _ _ _ _ _ _ us hl => match us, hl with | [_, _], _ => rfl
theorem b_minP : Bnd "minimum_price" "minimum_price" sMinP ["bids", "reserves", "lot"] := fun _ _ _ _ _ _ us hl => match us, hl with | [_, _, _], _ => rfl
theorem b_maxP : Bnd "maximum_price" "maximum_price" sMaxP ["bids", "reserves", "lot"] := fun _ _ _ _ _ _ us hl => match us, hl with | [_, _, _], _ => rfl
theorem b_minPs : Bnd "minimum_prices" "minimum_prices" sMinPs ["bids", "reserves"] := fun _ _ _ _ _ _ us hl => match us, hl with | [_, _], _ => rfl
theorem b_maxPs : Bnd "maximum_prices" "maximum_prices" sMaxPs ["bids", "reserves"] := fun _ _ _ _ _ _ us hl => match us, hl with | [_, _], _ => rfl
theorem b_pay : Bnd "payment" "payment" sPay ["bids", "reserves", "lot"] := fun _ _ _ _ _ _ us hl => match us, hl with | [_, _, _], _ => rfl
theorem b_util : Bnd "utility" "utility" sUtil ["row", "prices", "lot"] := fun _ _ _ _ _ _ us hl => match us, hl with | [_, _, _], _ => rfl
theorem b_demand : Bnd "demand_set" "demand_set" sDemand ["row", "prices"] := fun _ _ _ _ _ _ us hl => match us, hl with | [_, _], _ => rfl
theorem b_wrong : Bnd "is_price_wrong" "is_price_wrong" sWrong ["price", "reserve", "is_sold"] := fun _ _ _ _ _ _ us hl => match us, hl with | [_, _, _], _ => rfl
theorem b_fault : Bnd "price_fault" "price_fault" sFault ["bids", "reserves", "allocation", "prices"] := fun _ _ _ _ _ _ us hl => match us, hl with | [_, _, _, _], _ => rfl
theorem b_members : Bnd "members" "members" sMembers ["lots", "many"] := fun _ _ _ _ _ _ us hl => match us, hl with | [_, _], _ => rfl
theorem b_within : Bnd "is_within" "is_within" sWithin ["demand", "lots"] := fun _ _ _ _ _ _ us hl => match us, hl with | [_, _], _ => rfl
theorem b_over : Bnd "is_overdemanded" "is_overdemanded" sOver ["demands", "lots", "many"] := fun _ _ _ _ _ _ us hl => match us, hl with | [_, _, _], _ => rfl
theorem b_first : Bnd "first_overdemanded" "first_overdemanded" sFirst ["bids", "prices"] := fun _ _ _ _ _ _ us hl => match us, hl with | [_, _], _ => rfl
theorem b_raised : Bnd "raised" "raised" sRaised ["prices", "lots"] := fun _ _ _ _ _ _ us hl => match us, hl with | [_, _], _ => rfl
theorem b_clock : Bnd "run_clock" "run_clock" sClock ["bids", "reserves"] := fun _ _ _ _ _ _ us hl => match us, hl with | [_, _], _ => rfl
theorem b_want : Bnd "want" "want" sWant ["truth", "code"] := fun _ _ _ _ _ _ us hl => match us, hl with | [_, _], _ => rfl
theorem b_between : Bnd "check_between" "check_between" sBetween ["number", "low", "high"] := fun _ _ _ _ _ _ us hl => match us, hl with | [_, _, _], _ => rfl
theorem b_check : Bnd "check_list" "check_list" sCheck ["row", "fewest", "most", "greatest"] := fun _ _ _ _ _ _ us hl => match us, hl with | [_, _, _, _], _ => rfl
theorem b_counted : Bnd "counted" "counted" sCounted ["row"] := fun _ _ _ _ _ _ us hl => match us, hl with | [_], _ => rfl
theorem b_result : Bnd "result_of" "result_of" sResult ["bids", "reserves", "bidder"] := fun _ _ _ _ _ _ us hl => match us, hl with | [_, _, _], _ => rfl
theorem b_utilOf : Bnd "utility_of" "utility_of" sUtilOf ["result", "values"] := fun _ _ _ _ _ _ us hl => match us, hl with | [_, _], _ => rfl
theorem b_tl : Bnd "told_by_list" "told_by_list" sTl ["desk", "deed", "bidder", "row"] := fun _ _ _ _ _ _ us hl => match us, hl with | [_, _, _, _], _ => rfl
theorem b_ta : Bnd "told_alone" "told_alone" sTa ["desk", "deed", "bidder"] := fun _ _ _ _ _ _ us hl => match us, hl with | [_, _, _], _ => rfl
theorem b_ans : Bnd "answer" "answer" sAns ["desk", "deed", "bidder", "row"] := fun _ _ _ _ _ _ us hl => match us, hl with | [_, _, _, _], _ => rfl
theorem b_all : Bnd "answers" "answers" sAll ["calls"] := fun _ _ _ _ _ _ us hl => match us, hl with | [_], _ => rfl
theorem b_bids : Bnd "bids" "Auction.bids" sBids ["self"] := fun _ _ _ _ _ _ us hl => match us, hl with | [_], _ => rfl
theorem b_bidsW : Bnd "bids_with" "Auction.bids_with" sBidsW ["self", "bidder", "row"] := fun _ _ _ _ _ _ us hl => match us, hl with | [_, _, _], _ => rfl
theorem b_open : Bnd "open_auction" "Desk.open_auction" sOpen ["self"] := fun _ _ _ _ _ _ us hl => match us, hl with | [_], _ => rfl
theorem b_closed : Bnd "closed_auction" "Desk.closed_auction" sClosed ["self"] := fun _ _ _ _ _ _ us hl => match us, hl with | [_], _ => rfl
theorem b_for : Bnd "closed_for" "Desk.closed_for" sFor ["self", "row"] := fun _ _ _ _ _ _ us hl => match us, hl with | [_, _], _ => rfl
theorem b_new : Bnd "new_auction" "Desk.new_auction" sNew ["self", "reserves"] := fun _ _ _ _ _ _ us hl => match us, hl with | [_, _], _ => rfl
theorem b_submit : Bnd "submit_bid" "Desk.submit_bid" sSubmit ["self", "bidder", "bids"] := fun _ _ _ _ _ _ us hl => match us, hl with | [_, _, _], _ => rfl
theorem b_close : Bnd "close_auction" "Desk.close_auction" sClose ["self"] := fun _ _ _ _ _ _ us hl => match us, hl with | [_], _ => rfl
theorem b_get : Bnd "get_result" "Desk.get_result" sGet ["self"] := fun _ _ _ _ _ _ us hl => match us, hl with | [_], _ => rfl
theorem b_minimum : Bnd "minimum" "Desk.minimum" sMinimum ["self"] := fun _ _ _ _ _ _ us hl => match us, hl with | [_], _ => rfl
theorem b_maximum : Bnd "maximum" "Desk.maximum" sMaximum ["self"] := fun _ _ _ _ _ _ us hl => match us, hl with | [_], _ => rfl
theorem b_tot : Bnd "total" "Desk.total" sTot ["self"] := fun _ _ _ _ _ _ us hl => match us, hl with | [_], _ => rfl
theorem b_chk : Bnd "check_prices" "Desk.check_prices" sChk ["self", "prices"] := fun _ _ _ _ _ _ us hl => match us, hl with | [_, _], _ => rfl
theorem b_dem : Bnd "demand" "Desk.demand" sDem ["self", "bidder", "prices"] := fun _ _ _ _ _ _ us hl => match us, hl with | [_, _, _], _ => rfl
theorem b_overd : Bnd "overdemanded" "Desk.overdemanded" sOverd ["self", "prices"] := fun _ _ _ _ _ _ us hl => match us, hl with | [_, _], _ => rfl
theorem b_clk : Bnd "clock" "Desk.clock" sClk ["self"] := fun _ _ _ _ _ _ us hl => match us, hl with | [_], _ => rfl
theorem b_hyp : Bnd "hypothetical" "Desk.hypothetical" sHyp ["self", "bidder", "bids"] := fun _ _ _ _ _ _ us hl => match us, hl with | [_, _, _], _ => rfl
theorem b_uti : Bnd "utility" "Desk.utility" sUti ["self", "bidder", "values"] := fun _ _ _ _ _ _ us hl => match us, hl with | [_, _, _], _ => rfl
theorem b_tru : Bnd "truthful_utility" "Desk.truthful_utility" sTru ["self", "bidder", "values"] := fun _ _ _ _ _ _ us hl => match us, hl with | [_, _, _], _ => rfl
theorem b_wo : Bnd "total_without" "Desk.total_without" sWo ["self", "bidder"] := fun _ _ _ _ _ _ us hl => match us, hl with | [_, _], _ => rfl
theorem b_ls : Bnd "list_submitted" "Desk.list_submitted" sLs ["self"] := fun _ _ _ _ _ _ us hl => match us, hl with | [_], _ => rfl
theorem b_lb : Bnd "list_bids" "Desk.list_bids" sLb ["self"] := fun _ _ _ _ _ _ us hl => match us, hl with | [_], _ => rfl
theorem b_sum : Bnd "summary" "Desk.summary" sSum ["self"] := fun _ _ _ _ _ _ us hl => match us, hl with | [_], _ => rfl
theorem b_initR : Bnd "__init__" "Refused.__init__" sRinit ["self", "code"] := fun _ _ _ _ _ _ us hl => match us, hl with | [_, _], _ => rfl
theorem b_initA : Bnd "__init__" "Auction.__init__" sAinit ["self", "reserves"] := fun _ _ _ _ _ _ us hl => match us, hl with | [_, _], _ => rfl
theorem b_initD : Bnd "__init__" "Desk.__init__" sDinit ["self"] := fun _ _ _ _ _ _ us hl => match us, hl with | [_], _ => rfl
theorem tx_of {t0 t1 t2 t3 t4 t5 t6 t7 t8 t9 t10 t11 : Tok} (X : K.In h) (G : h.Ns mainGlobals mg)
    (n0 : PySem.W.nsIn K mainGlobals "NONE" = some (some (.int (-1) t0)))
    (n1 : PySem.W.nsIn K mainGlobals "TOO_LOW" = some (some (.int (1) t1)))
    (n2 : PySem.W.nsIn K mainGlobals "NOT_DEMANDED" = some (some (.int (2) t2)))
    (n3 : PySem.W.nsIn K mainGlobals "WRONG_ARGUMENT" = some (some (.int (-1) t3)))
    (n4 : PySem.W.nsIn K mainGlobals "NO_AUCTION" = some (some (.int (-2) t4)))
    (n5 : PySem.W.nsIn K mainGlobals "NOT_CLOSED" = some (some (.int (-5) t5)))
    (n6 : PySem.W.nsIn K mainGlobals "IS_CLOSED" = some (some (.int (-6) t6)))
    (n7 : PySem.W.nsIn K mainGlobals "WRONG_LENGTH" = some (some (.int (-7) t7)))
    (n8 : PySem.W.nsIn K mainGlobals "BIDDERS" = some (some (.int (5) t8)))
    (n9 : PySem.W.nsIn K mainGlobals "MOST_LOTS" = some (some (.int (4) t9)))
    (n10 : PySem.W.nsIn K mainGlobals "MOST_BID" = some (some (.int (60) t10)))
    (n11 : PySem.W.nsIn K mainGlobals "MOST_PRICE" = some (some (.int (1000) t11)))
    (u0 : PySem.W.nsIn K mainGlobals "sum" = some none)
    (u1 : PySem.W.nsIn K mainGlobals "enumerate" = some none)
    (u2 : PySem.W.nsIn K mainGlobals "range" = some none)
    (u3 : PySem.W.nsIn K mainGlobals "max" = some none)
    (u4 : PySem.W.nsIn K mainGlobals "min" = some none)
    (u5 : PySem.W.nsIn K mainGlobals "len" = some none)
    (u6 : PySem.W.nsIn K mainGlobals "reversed" = some none)
    (u7 : PySem.W.nsIn K mainGlobals "list" = some none)
    (u8 : PySem.W.nsIn K mainGlobals "all" = some none)
    (u9 : PySem.W.nsIn K mainGlobals "int" = some none)
    (u10 : PySem.W.nsIn K mainGlobals "Exception" = some none)
    : Tx mg :=
  { none := ⟨_, PySem.W.mg_of X G n0⟩, tooLow := ⟨_, PySem.W.mg_of X G n1⟩, notDem := ⟨_, PySem.W.mg_of X G n2⟩, wrongA := ⟨_, PySem.W.mg_of X G n3⟩, noAuc := ⟨_, PySem.W.mg_of X G n4⟩, notCl := ⟨_, PySem.W.mg_of X G n5⟩, isCl := ⟨_, PySem.W.mg_of X G n6⟩, wrongL := ⟨_, PySem.W.mg_of X G n7⟩, bidders := ⟨_, PySem.W.mg_of X G n8⟩, mostL := ⟨_, PySem.W.mg_of X G n9⟩, mostB := ⟨_, PySem.W.mg_of X G n10⟩, mostP := ⟨_, PySem.W.mg_of X G n11⟩, sum := PySem.W.mg_none_of X G u0, enumerate := PySem.W.mg_none_of X G u1, range := PySem.W.mg_none_of X G u2, max := PySem.W.mg_none_of X G u3, min := PySem.W.mg_none_of X G u4, len := PySem.W.mg_none_of X G u5, reversed := PySem.W.mg_none_of X G u6, list := PySem.W.mg_none_of X G u7, all := PySem.W.mg_none_of X G u8, int := PySem.W.mg_none_of X G u9, exc := PySem.W.mg_none_of X G u10 }
theorem tr_of {CR fR : Addr} {nm q : Str} {N : Addr} {bs : List Value} {sn : List Str} {sub : List Value} {ab : Bool} {col : Option Bool} {dd : Option Addr} {m0 m1 m2 m3 m5 : Option Value} (X : K.In h) (G : h.Ns mainGlobals mg)
    (g : PySem.W.nsIn K mainGlobals "Refused" = some (some (.ref CR)))
    (l : K.lookup CR = some (excClassObj nm q CR N bs [.type "Exception", .type "BaseException", .type "object"] true sn sub ab col dd m0 m1 m2 m3 m5 "Exception.__new__"))
    (sa : PySem.W.findIn K (.ref CR) "__setattr__" = some (some (.builtin "object.__setattr__"))) (ex : PySem.W.subIn K (.ref CR) (.type "BaseException") = some true) (ty : PySem.W.typeIn K (.ref CR) = some (.type "type")) (kp : PySem.W.keepIn K (.ref CR) = true)
    (i : PySem.W.findIn K (.ref CR) "__init__" = some (some (.ref fR))) (t : PySem.W.typeIn K (.ref fR) = some (.type "function")) (no : PySem.W.findIn K (.ref CR) "code" = some none)
    (vV : PySem.W.findCls K (.type "Exception") (.type "type") "__init__" = some (.val (.builtin "Exception.__init__"))) (ic : PySem.W.isClsIn K CR = true) (su : PySem.W.subIn K (.ref CR) (.ref CR) = some true)
    (ga : PySem.W.findIn K (.ref CR) "__getattribute__" = some (some (.builtin "BaseException.__getattribute__"))) (gg : PySem.W.findIn K (.ref CR) "__getattr__" = some none) (hd : PySem.W.hasDictIn K CR = true) : Tr K mg CR fR :=
  ⟨⟨⟨_, _, _, _, _, _, _, _, _, _, _, _, _, _, l⟩, sa, ex, ty, kp⟩, PySem.W.mg_of X G g, i, t, no, vV, refused_self ex ic ty su, ga, gg, ex, hd⟩
theorem tu_of {CA fA : Addr} (X : K.In h) (G : h.Ns mainGlobals mg) (g : PySem.W.nsIn K mainGlobals "Auction" = some (some (.ref CA)))
    (pg : PySem.W.plainGet K CA Str.empty = true) (hd : PySem.W.hasDictIn K CA = true) (po : PySem.W.plainOver K CA = true) (sa : PySem.W.findIn K (.ref CA) "__setattr__" = some (some (.builtin "object.__setattr__")))
    (mk : PySem.W.makesIn K CA = true) (i : PySem.W.findIn K (.ref CA) "__init__" = some (some (.ref fA))) (fn : PySem.W.isFn K (.ref fA) = true) (kp : PySem.W.keepIn K (.ref CA) = true)
    (o0 : PySem.W.findIn K (.ref CA) "reserves" = some none) (o1 : PySem.W.findIn K (.ref CA) "submitted" = some none) (o2 : PySem.W.findIn K (.ref CA) "is_closed" = some none) : Ta K mg CA fA :=
  ⟨PySem.W.mg_of X G g, ⟨pg, hd, po, sa⟩, ⟨mk, i, fn, kp⟩, o0, o1, o2⟩
theorem td_of {CD fD : Addr} (X : K.In h) (G : h.Ns mainGlobals mg) (g : PySem.W.nsIn K mainGlobals "Desk" = some (some (.ref CD)))
    (pg : PySem.W.plainGet K CD Str.empty = true) (hd : PySem.W.hasDictIn K CD = true) (po : PySem.W.plainOver K CD = true) (sa : PySem.W.findIn K (.ref CD) "__setattr__" = some (some (.builtin "object.__setattr__")))
    (mk : PySem.W.makesIn K CD = true) (i : PySem.W.findIn K (.ref CD) "__init__" = some (some (.ref fD))) (fn : PySem.W.isFn K (.ref fD) = true) (kp : PySem.W.keepIn K (.ref CD) = true)
    (o0 : PySem.W.findIn K (.ref CD) "auction" = some none) : Td K mg CD fD :=
  ⟨PySem.W.mg_of X G g, ⟨pg, hd, po, sa⟩, ⟨mk, i, fn, kp⟩, o0⟩
theorem tup_at {a : Addr} {o : Obj} {its : Array Value} {n : Nat} {xs : List V} (l : K.lookup a = some o) (c : o.cls = .type "tuple") (d : o.data = .seq its n) (s : its.size ≤ sizeLine) (r : Vals xs its.toList) : ∀ H, SqT K H a xs := fun _ => .inr ⟨o, its, n, l, c, d, s, r⟩
theorem th_of {a1 a2 : Addr} {od1 od2 : Option Addr} {sl1 sl2 : Array (Option Value)} {n1 n2 : Nat} {s0 s1 s2 s3 s4 s5 s6 s7 s8 s9 s10 s11 s12 s13 s14 s15 s16 s17 t0 t1 t2 t3 t4 t5 t6 t7 t8 t9 t10 t11 t12 t13 t14 t15 t16 t17 : Tok} (X : K.In h) (G : h.Ns mainGlobals mg)
    (g1 : PySem.W.nsIn K mainGlobals "HAS_BIDDER" = some (some (.ref a1))) (l1 : K.lookup a1 = some ⟨.type "tuple", od1, .seq #[.int 0 s0, .int 1 s1, .int 0 s2, .int 0 s3, .int 0 s4, .int 0 s5, .int 0 s6, .int 0 s7, .int 1 s8, .int 0 s9, .int 0 s10, .int 1 s11, .int 1 s12, .int 1 s13, .int 1 s14, .int 0 s15, .int 0 s16, .int 0 s17] n1, sl1⟩)
    (g2 : PySem.W.nsIn K mainGlobals "HAS_LIST" = some (some (.ref a2))) (l2 : K.lookup a2 = some ⟨.type "tuple", od2, .seq #[.int 1 t0, .int 1 t1, .int 0 t2, .int 0 t3, .int 0 t4, .int 0 t5, .int 0 t6, .int 1 t7, .int 1 t8, .int 1 t9, .int 0 t10, .int 1 t11, .int 1 t12, .int 1 t13, .int 0 t14, .int 0 t15, .int 0 t16, .int 0 t17] n2, sl2⟩) : Th K mg :=
  ⟨⟨a1, PySem.W.mg_of X G g1, tup_at l1 rfl rfl (by rw [sizeLine_eq]; show 18 ≤ 16777216; decide) (.cons (relI _ _) (.cons (relI _ _) (.cons (relI _ _) (.cons (relI _ _) (.cons (relI _ _) (.cons (relI _ _) (.cons (relI _ _) (.cons (relI _ _) (.cons (relI _ _) (.cons (relI _ _) (.cons (relI _ _) (.cons (relI _ _) (.cons (relI _ _) (.cons (relI _ _) (.cons (relI _ _) (.cons (relI _ _) (.cons (relI _ _) (.cons (relI _ _) .nil))))))))))))))))))⟩,
   ⟨a2, PySem.W.mg_of X G g2, tup_at l2 rfl rfl (by rw [sizeLine_eq]; show 18 ≤ 16777216; decide) (.cons (relI _ _) (.cons (relI _ _) (.cons (relI _ _) (.cons (relI _ _) (.cons (relI _ _) (.cons (relI _ _) (.cons (relI _ _) (.cons (relI _ _) (.cons (relI _ _) (.cons (relI _ _) (.cons (relI _ _) (.cons (relI _ _) (.cons (relI _ _) (.cons (relI _ _) (.cons (relI _ _) (.cons (relI _ _) (.cons (relI _ _) (.cons (relI _ _) .nil))))))))))))))))))⟩⟩
end
theorem all_mk {P : Program} {w : World} {K : PySem.W.Frag} {h : Heap} {mg : Str → Option Value} {fa CR CA CD fR fA fD : Addr} (X : K.In h) (G : h.Ns mainGlobals mg) (hfa : mg "answers" = some (.ref fa))
    (R : Tr K mg CR fR) (U : Ta K mg CA fA) (A : Td K mg CD fD) (T : Tx mg) (Q0 : Th K mg)
    (iR : FunE K fR "Refused.__init__" sRinit ["self", "code"])
    (iA : FunE K fA "Auction.__init__" sAinit ["self", "reserves"])
    (iD : FunE K fD "Desk.__init__" sDinit ["self"])
    (d_has : DefE K mg "has" sHas ["lots", "lot"])
    (d_out : DefE K mg "reserves_outside" sOut ["reserves", "lots"])
    (d_with : DefE K mg "value_with" sWith ["bids", "lots", "lot", "behind"])
    (d_choices : DefE K mg "choices" sChoices ["lots", "many"])
    (d_ahead : DefE K mg "values_ahead" sAhead ["bids", "many", "behind"])
    (d_tables : DefE K mg "value_tables" sTables ["bids", "reserves"])
    (d_total : DefE K mg "total_value" sTotal ["bids", "reserves"])
    (d_alloc : DefE K mg "best_allocation" sAlloc ["bids", "reserves"])
    (d_dbl : DefE K mg "doubled" sDbl ["row", "lot"])
    (d_wout : DefE K mg "without" sWout ["row", "lot"])
    (d_minP : DefE K mg "minimum_price" sMinP ["bids", "reserves", "lot"])
    (d_maxP : DefE K mg "maximum_price" sMaxP ["bids", "reserves", "lot"])
    (d_minPs : DefE K mg "minimum_prices" sMinPs ["bids", "reserves"])
    (d_maxPs : DefE K mg "maximum_prices" sMaxPs ["bids", "reserves"])
    (d_pay : DefE K mg "payment" sPay ["bids", "reserves", "lot"])
    (d_util : DefE K mg "utility" sUtil ["row", "prices", "lot"])
    (d_demand : DefE K mg "demand_set" sDemand ["row", "prices"])
    (d_wrong : DefE K mg "is_price_wrong" sWrong ["price", "reserve", "is_sold"])
    (d_fault : DefE K mg "price_fault" sFault ["bids", "reserves", "allocation", "prices"])
    (d_members : DefE K mg "members" sMembers ["lots", "many"])
    (d_within : DefE K mg "is_within" sWithin ["demand", "lots"])
    (d_over : DefE K mg "is_overdemanded" sOver ["demands", "lots", "many"])
    (d_first : DefE K mg "first_overdemanded" sFirst ["bids", "prices"])
    (d_raised : DefE K mg "raised" sRaised ["prices", "lots"])
    (d_clock : DefE K mg "run_clock" sClock ["bids", "reserves"])
    (d_want : DefE K mg "want" sWant ["truth", "code"])
    (d_between : DefE K mg "check_between" sBetween ["number", "low", "high"])
    (d_check : DefE K mg "check_list" sCheck ["row", "fewest", "most", "greatest"])
    (d_counted : DefE K mg "counted" sCounted ["row"])
    (d_result : DefE K mg "result_of" sResult ["bids", "reserves", "bidder"])
    (d_utilOf : DefE K mg "utility_of" sUtilOf ["result", "values"])
    (d_tl : DefE K mg "told_by_list" sTl ["desk", "deed", "bidder", "row"])
    (d_ta : DefE K mg "told_alone" sTa ["desk", "deed", "bidder"])
    (d_ans : DefE K mg "answer" sAns ["desk", "deed", "bidder", "row"])
    (d_all : DefE K mg "answers" sAll ["calls"])
    (d_bids : DefME K CA "bids" "Auction.bids" sBids ["self"])
    (d_bidsW : DefME K CA "bids_with" "Auction.bids_with" sBidsW ["self", "bidder", "row"])
    (d_open : DefME K CD "open_auction" "Desk.open_auction" sOpen ["self"])
    (d_closed : DefME K CD "closed_auction" "Desk.closed_auction" sClosed ["self"])
    (d_for : DefME K CD "closed_for" "Desk.closed_for" sFor ["self", "row"])
    (d_new : DefME K CD "new_auction" "Desk.new_auction" sNew ["self", "reserves"])
    (d_submit : DefME K CD "submit_bid" "Desk.submit_bid" sSubmit ["self", "bidder", "bids"])
    (d_close : DefME K CD "close_auction" "Desk.close_auction" sClose ["self"])
    (d_get : DefME K CD "get_result" "Desk.get_result" sGet ["self"])
    (d_minimum : DefME K CD "minimum" "Desk.minimum" sMinimum ["self"])
    (d_maximum : DefME K CD "maximum" "Desk.maximum" sMaximum ["self"])
    (d_tot : DefME K CD "total" "Desk.total" sTot ["self"])
    (d_chk : DefME K CD "check_prices" "Desk.check_prices" sChk ["self", "prices"])
    (d_dem : DefME K CD "demand" "Desk.demand" sDem ["self", "bidder", "prices"])
    (d_overd : DefME K CD "overdemanded" "Desk.overdemanded" sOverd ["self", "prices"])
    (d_clk : DefME K CD "clock" "Desk.clock" sClk ["self"])
    (d_hyp : DefME K CD "hypothetical" "Desk.hypothetical" sHyp ["self", "bidder", "bids"])
    (d_uti : DefME K CD "utility" "Desk.utility" sUti ["self", "bidder", "values"])
    (d_tru : DefME K CD "truthful_utility" "Desk.truthful_utility" sTru ["self", "bidder", "values"])
    (d_wo : DefME K CD "total_without" "Desk.total_without" sWo ["self", "bidder"])
    (d_ls : DefME K CD "list_submitted" "Desk.list_submitted" sLs ["self"])
    (d_lb : DefME K CD "list_bids" "Desk.list_bids" sLb ["self"])
    (d_sum : DefME K CD "summary" "Desk.summary" sSum ["self"])
    : ∃ fd : FuncData, (∀ (s : Shared) (us : List Value), us.length = (["calls"] : List Str).length → BindsTo s fd ⟨us, []⟩ ((["calls"] : List Str).zip us)) ∧ ∀ base : Heap, K.In base → base.Ns mainGlobals mg → FnOk P w K mg base CX0 13 fa fd ["calls"] (spAll K) := by
  obtain ⟨fdR, FR, BR⟩ := iR
  obtain ⟨fdA, FA, BA⟩ := iA
  obtain ⟨fdD, FD, BD⟩ := iD
  obtain ⟨f_has, fd_has, D_has⟩ := d_has
  obtain ⟨f_out, fd_out, D_out⟩ := d_out
  obtain ⟨f_with, fd_with, D_with⟩ := d_with
  obtain ⟨f_choices, fd_choices, D_choices⟩ := d_choices
  obtain ⟨f_ahead, fd_ahead, D_ahead⟩ := d_ahead
  obtain ⟨f_tables, fd_tables, D_tables⟩ := d_tables
  obtain ⟨f_total, fd_total, D_total⟩ := d_total
  obtain ⟨f_alloc, fd_alloc, D_alloc⟩ := d_alloc
  obtain ⟨f_dbl, fd_dbl, D_dbl⟩ := d_dbl
  obtain ⟨f_wout, fd_wout, D_wout⟩ := d_wout
  obtain ⟨f_minP, fd_minP, D_minP⟩ := d_minP
  obtain ⟨f_maxP, fd_maxP, D_maxP⟩ := d_maxP
  obtain ⟨f_minPs, fd_minPs, D_minPs⟩ := d_minPs
  obtain ⟨f_maxPs, fd_maxPs, D_maxPs⟩ := d_maxPs
  obtain ⟨f_pay, fd_pay, D_pay⟩ := d_pay
  obtain ⟨f_util, fd_util, D_util⟩ := d_util
  obtain ⟨f_demand, fd_demand, D_demand⟩ := d_demand
  obtain ⟨f_wrong, fd_wrong, D_wrong⟩ := d_wrong
  obtain ⟨f_fault, fd_fault, D_fault⟩ := d_fault
  obtain ⟨f_members, fd_members, D_members⟩ := d_members
  obtain ⟨f_within, fd_within, D_within⟩ := d_within
  obtain ⟨f_over, fd_over, D_over⟩ := d_over
  obtain ⟨f_first, fd_first, D_first⟩ := d_first
  obtain ⟨f_raised, fd_raised, D_raised⟩ := d_raised
  obtain ⟨f_clock, fd_clock, D_clock⟩ := d_clock
  obtain ⟨f_want, fd_want, D_want⟩ := d_want
  obtain ⟨f_between, fd_between, D_between⟩ := d_between
  obtain ⟨f_check, fd_check, D_check⟩ := d_check
  obtain ⟨f_counted, fd_counted, D_counted⟩ := d_counted
  obtain ⟨f_result, fd_result, D_result⟩ := d_result
  obtain ⟨f_utilOf, fd_utilOf, D_utilOf⟩ := d_utilOf
  obtain ⟨f_tl, fd_tl, D_tl⟩ := d_tl
  obtain ⟨f_ta, fd_ta, D_ta⟩ := d_ta
  obtain ⟨f_ans, fd_ans, D_ans⟩ := d_ans
  obtain ⟨f_all, fd_all, D_all⟩ := d_all
  obtain ⟨f_bids, fd_bids, D_bids⟩ := d_bids
  obtain ⟨f_bidsW, fd_bidsW, D_bidsW⟩ := d_bidsW
  obtain ⟨f_open, fd_open, D_open⟩ := d_open
  obtain ⟨f_closed, fd_closed, D_closed⟩ := d_closed
  obtain ⟨f_for, fd_for, D_for⟩ := d_for
  obtain ⟨f_new, fd_new, D_new⟩ := d_new
  obtain ⟨f_submit, fd_submit, D_submit⟩ := d_submit
  obtain ⟨f_close, fd_close, D_close⟩ := d_close
  obtain ⟨f_get, fd_get, D_get⟩ := d_get
  obtain ⟨f_minimum, fd_minimum, D_minimum⟩ := d_minimum
  obtain ⟨f_maximum, fd_maximum, D_maximum⟩ := d_maximum
  obtain ⟨f_tot, fd_tot, D_tot⟩ := d_tot
  obtain ⟨f_chk, fd_chk, D_chk⟩ := d_chk
  obtain ⟨f_dem, fd_dem, D_dem⟩ := d_dem
  obtain ⟨f_overd, fd_overd, D_overd⟩ := d_overd
  obtain ⟨f_clk, fd_clk, D_clk⟩ := d_clk
  obtain ⟨f_hyp, fd_hyp, D_hyp⟩ := d_hyp
  obtain ⟨f_uti, fd_uti, D_uti⟩ := d_uti
  obtain ⟨f_tru, fd_tru, D_tru⟩ := d_tru
  obtain ⟨f_wo, fd_wo, D_wo⟩ := d_wo
  obtain ⟨f_ls, fd_ls, D_ls⟩ := d_ls
  obtain ⟨f_lb, fd_lb, D_lb⟩ := d_lb
  obtain ⟨f_sum, fd_sum, D_sum⟩ := d_sum
  have e := hfa.symm.trans D_all.g
  cases e
  refine ⟨fd_all, ?_, fun base _ _ => ?_⟩
  · obtain ⟨oc, od, kV, doc, pm, an, cdv, ct, osl, rfl, lk, hcd⟩ := D_all.fn.ex
    exact fun s us hu => .of_eq (b_all kV doc pm an cdv ct us hu)
  have KR := ok_rinit (P := P) (w := w) (base := base) T R FR
  have KA := ok_ainit (P := P) (w := w) (base := base) T U FA
  have KD := ok_dinit (P := P) (w := w) (base := base) A FD
  have k_has := ok_has (P := P) (w := w) (base := base) D_has
  have k_out := ok_out (P := P) (w := w) (base := base) T D_out k_has
  have k_with := ok_with (P := P) (w := w) (base := base) T D_with
  have k_choices := ok_choices (P := P) (w := w) (base := base) T D_choices k_has
  have k_ahead := ok_ahead (P := P) (w := w) (base := base) T D_ahead k_choices k_with
  have k_tables := ok_tables (P := P) (w := w) (base := base) T D_tables k_out k_ahead
  have k_total := ok_total (P := P) (w := w) (base := base) D_total k_tables
  have k_alloc := ok_alloc (P := P) (w := w) (base := base) T D_alloc k_tables k_choices k_with
  have k_dbl := ok_dbl (P := P) (w := w) (base := base) D_dbl
  have k_wout := ok_wout (P := P) (w := w) (base := base) D_wout
  have k_minP := ok_minP (P := P) (w := w) (base := base) D_minP k_dbl k_total
  have k_maxP := ok_maxP (P := P) (w := w) (base := base) D_maxP k_wout k_total
  have k_minPs := ok_minPs (P := P) (w := w) (base := base) T D_minPs k_minP
  have k_maxPs := ok_maxPs (P := P) (w := w) (base := base) T D_maxPs k_maxP
  have k_pay := ok_pay (P := P) (w := w) (base := base) T D_pay k_minP
  have k_util := ok_util (P := P) (w := w) (base := base) T D_util
  have k_demand := ok_demand (P := P) (w := w) (base := base) T D_demand k_util
  have k_wrong := ok_wrong (P := P) (w := w) (base := base) D_wrong
  have k_fault := ok_fault (P := P) (w := w) (base := base) T D_fault k_wrong k_demand
  have k_members := ok_members (P := P) (w := w) (base := base) T D_members k_has
  have k_within := ok_within (P := P) (w := w) (base := base) T D_within k_has
  have k_over := ok_over (P := P) (w := w) (base := base) T D_over k_members k_within
  have k_first := ok_first (P := P) (w := w) (base := base) T D_first k_demand k_members k_over
  have k_raised := ok_raised (P := P) (w := w) (base := base) T D_raised k_has
  have k_clock := ok_clock (P := P) (w := w) (base := base) T D_clock k_first k_raised
  have k_want := ok_want (P := P) (w := w) (base := base) R D_want KR BR
  have k_between := ok_between (P := P) (w := w) (base := base) T D_between k_want
  have k_check := ok_check (P := P) (w := w) (base := base) T D_check k_between
  have k_bids := ok_bids (P := P) (w := w) (base := base) T U D_bids
  have k_bidsW := ok_bidsW (P := P) (w := w) (base := base) U D_bidsW k_bids
  have k_counted := ok_counted (P := P) (w := w) (base := base) T D_counted
  have k_result := ok_result (P := P) (w := w) (base := base) D_result k_alloc k_pay
  have k_utilOf := ok_utilOf (P := P) (w := w) (base := base) T D_utilOf
  have k_open := ok_open (CA := CA) (P := P) (w := w) (base := base) T A D_open k_want
  have k_closed := ok_closed (P := P) (w := w) (base := base) T A U D_closed k_want k_open
  have k_for := ok_for (P := P) (w := w) (base := base) T A U D_for k_want k_closed
  have k_new := ok_new (P := P) (w := w) (base := base) T A U D_new k_check KA BA
  have k_submit := ok_submit (P := P) (w := w) (base := base) T A U D_submit k_between k_check k_want k_open
  have k_close := ok_close (P := P) (w := w) (base := base) T A U D_close k_want k_open
  have k_get := ok_get (P := P) (w := w) (base := base) T A U D_get k_closed k_bids k_result
  have k_minimum := ok_minimum (P := P) (w := w) (base := base) A U D_minimum k_closed k_bids k_minPs k_counted
  have k_maximum := ok_maximum (P := P) (w := w) (base := base) A U D_maximum k_closed k_bids k_maxPs k_counted
  have k_tot := ok_tot (P := P) (w := w) (base := base) A U D_tot k_closed k_bids k_total
  have k_chk := ok_chk (P := P) (w := w) (base := base) T A U D_chk k_check k_for k_bids k_fault k_alloc
  have k_dem := ok_dem (P := P) (w := w) (base := base) T A U D_dem k_between k_check k_for k_bids k_demand k_counted
  have k_overd := ok_overd (P := P) (w := w) (base := base) T A U D_overd k_check k_for k_bids k_first
  have k_clk := ok_clk (P := P) (w := w) (base := base) A U D_clk k_closed k_bids k_clock k_counted
  have k_hyp := ok_hyp (P := P) (w := w) (base := base) T A U D_hyp k_between k_check k_for k_bidsW k_result
  have k_uti := ok_uti (P := P) (w := w) (base := base) T A U D_uti k_between k_check k_for k_bids k_result k_utilOf
  have k_tru := ok_tru (P := P) (w := w) (base := base) A D_tru k_hyp k_utilOf
  have k_wo := ok_wo (P := P) (w := w) (base := base) T A U D_wo k_between k_closed k_bids k_total
  have k_ls := ok_ls (P := P) (w := w) (base := base) T A U D_ls k_open
  have k_lb := ok_lb (P := P) (w := w) (base := base) A U D_lb k_closed k_bids
  have k_sum := ok_sum (P := P) (w := w) (base := base) T A U D_sum k_open k_counted
  have BL : ByList P w K mg base CD CA CR := ⟨k_new, k_submit, k_chk, k_dem, k_overd, ok_hypD k_hyp, k_uti, k_tru⟩
  have AL : Alone P w K mg base CD CA CR := ⟨k_close, k_get, k_minimum, k_maximum, k_tot, k_clk, k_wo, k_ls, k_lb, k_sum⟩
  have k_tl := ok_tl (P := P) (w := w) (base := base) A D_tl BL
  have k_ta := ok_ta (P := P) (w := w) (base := base) A D_ta AL
  have k_ans := ok_ans (P := P) (w := w) (base := base) A R Q0 D_ans k_tl k_ta
  exact ok_all (P := P) (w := w) (base := base) T A Q0 D_all KD BD k_ans
theorem len_of {l : List Int} {p : Int → Bool} {b : Bool} (h : ((PySem.W.Codec.inLen 0 800 l && l.all p) && b) = true) : l.length ≤ 800 := by
  obtain ⟨h, _⟩ := Bool.and_eq_true_iff.mp h
  obtain ⟨h, _⟩ := Bool.and_eq_true_iff.mp h
  have z : PySem.W.Codec.inNat 0 800 l.length = true := h
  unfold PySem.W.Codec.inNat at z
  simp at z
  omega
end SL
end
/-! ## End -/
open PySem PySem.W PyProof.Rows
set_option maxRecDepth 100000 in
set_option maxHeartbeats 16000000 in
theorem PySem.Challenge.cw_sealedlots_s01_answers_holds : PySem.Challenge.rw_sealedlots_s01_answers.Holds := by
  w_on; k_headS; (case hw => exact ⟨[.list [.int 2]], by decide +kernel, by decide +kernel⟩)
  k_fillS
  refine L2.walk_specK (r := PySem.Challenge.rw_sealedlots_s01_answers) (k := 13) (CX := L2.CX0) (ps := ["calls"]) (sp := SL.spAll) (by decide +kernel) rfl rfl ⟨rfl, by decide, by decide⟩ (fun w h Y => PySem.W.kIn_of Y) ?F ?S (fun _ _ _ _ z => z)
  case F =>
    intro w mg fa h Y KX G hmg
    refine' SL.all_mk KX G hmg ?R ?U ?A ?T ?Q0 ?iR ?iA ?iD ?d_has ?d_out ?d_with ?d_choices ?d_ahead ?d_tables ?d_total ?d_alloc ?d_dbl ?d_wout ?d_minP ?d_maxP ?d_minPs ?d_maxPs ?d_pay ?d_util ?d_demand ?d_wrong ?d_fault ?d_members ?d_within ?d_over ?d_first ?d_raised ?d_clock ?d_want ?d_between ?d_check ?d_counted ?d_result ?d_utilOf ?d_tl ?d_ta ?d_ans ?d_all ?d_bids ?d_bidsW ?d_open ?d_closed ?d_for ?d_new ?d_submit ?d_close ?d_get ?d_minimum ?d_maximum ?d_tot ?d_chk ?d_dem ?d_overd ?d_clk ?d_hyp ?d_uti ?d_tru ?d_wo ?d_ls ?d_lb ?d_sum
    (case R => refine' SL.tr_of KX G ?g ?l ?sa ?ex ?ty ?kp ?i ?t ?no ?vV ?ic ?su ?ga ?gg ?hd; (case g => k_is); (case l => k_is); (case sa => k_is); (case ex => k_is); (case ty => k_is); (case kp => k_is); (case i => k_is); (case t => k_is); (case no => k_is); (case vV => k_is); (case ic => k_is); (case su => k_is); (case ga => k_is); (case gg => k_is); (case hd => k_is))
    (case U => refine' SL.tu_of KX G ?g ?pg ?hd ?po ?sa ?mk ?i ?fn ?kp ?o0 ?o1 ?o2; (case g => k_is); (case pg => k_is); (case hd => k_is); (case po => k_is); (case sa => k_is); (case mk => k_is); (case i => k_is); (case fn => k_is); (case kp => k_is); (case o0 => k_is); (case o1 => k_is); (case o2 => k_is))
    (case A => refine' SL.td_of KX G ?g ?pg ?hd ?po ?sa ?mk ?i ?fn ?kp ?o0; (case g => k_is); (case pg => k_is); (case hd => k_is); (case po => k_is); (case sa => k_is); (case mk => k_is); (case i => k_is); (case fn => k_is); (case kp => k_is); (case o0 => k_is))
    (case T => refine' SL.tx_of KX G ?n0 ?n1 ?n2 ?n3 ?n4 ?n5 ?n6 ?n7 ?n8 ?n9 ?n10 ?n11 ?u0 ?u1 ?u2 ?u3 ?u4 ?u5 ?u6 ?u7 ?u8 ?u9 ?u10; (case n0 => k_is); (case n1 => k_is); (case n2 => k_is); (case n3 => k_is); (case n4 => k_is); (case n5 => k_is); (case n6 => k_is); (case n7 => k_is); (case n8 => k_is); (case n9 => k_is); (case n10 => k_is); (case n11 => k_is); (case u0 => k_is); (case u1 => k_is); (case u2 => k_is); (case u3 => k_is); (case u4 => k_is); (case u5 => k_is); (case u6 => k_is); (case u7 => k_is); (case u8 => k_is); (case u9 => k_is); (case u10 => k_is))
    (case Q0 => refine' SL.th_of KX G ?g1 ?l1 ?g2 ?l2; (case g1 => k_is); (case l1 => k_is); (case g2 => k_is); (case l2 => k_is))
    (case iR => refine' SL.fe_of SL.b_initR ?l ?c ?k; (case l => k_is); (case c => k_is); (case k => k_is))
    (case iA => refine' SL.fe_of SL.b_initA ?l ?c ?k; (case l => k_is); (case c => k_is); (case k => k_is))
    (case iD => refine' SL.fe_of SL.b_initD ?l ?c ?k; (case l => k_is); (case c => k_is); (case k => k_is))
    (case d_has => refine' SL.de_of SL.b_has KX G ?a ?l ?c ?k; (case a => k_is); (case l => k_is); (case c => k_is); (case k => k_is))
    (case d_out => refine' SL.de_of SL.b_out KX G ?a ?l ?c ?k; (case a => k_is); (case l => k_is); (case c => k_is); (case k => k_is))
    (case d_with => refine' SL.de_of SL.b_with KX G ?a ?l ?c ?k; (case a => k_is); (case l => k_is); (case c => k_is); (case k => k_is))
    (case d_choices => refine' SL.de_of SL.b_choices KX G ?a ?l ?c ?k; (case a => k_is); (case l => k_is); (case c => k_is); (case k => k_is))
    (case d_ahead => refine' SL.de_of SL.b_ahead KX G ?a ?l ?c ?k; (case a => k_is); (case l => k_is); (case c => k_is); (case k => k_is))
    (case d_tables => refine' SL.de_of SL.b_tables KX G ?a ?l ?c ?k; (case a => k_is); (case l => k_is); (case c => k_is); (case k => k_is))
    (case d_total => refine' SL.de_of SL.b_total KX G ?a ?l ?c ?k; (case a => k_is); (case l => k_is); (case c => k_is); (case k => k_is))
    (case d_alloc => refine' SL.de_of SL.b_alloc KX G ?a ?l ?c ?k; (case a => k_is); (case l => k_is); (case c => k_is); (case k => k_is))
    (case d_dbl => refine' SL.de_of SL.b_dbl KX G ?a ?l ?c ?k; (case a => k_is); (case l => k_is); (case c => k_is); (case k => k_is))
    (case d_wout => refine' SL.de_of SL.b_wout KX G ?a ?l ?c ?k; (case a => k_is); (case l => k_is); (case c => k_is); (case k => k_is))
    (case d_minP => refine' SL.de_of SL.b_minP KX G ?a ?l ?c ?k; (case a => k_is); (case l => k_is); (case c => k_is); (case k => k_is))
    (case d_maxP => refine' SL.de_of SL.b_maxP KX G ?a ?l ?c ?k; (case a => k_is); (case l => k_is); (case c => k_is); (case k => k_is))
    (case d_minPs => refine' SL.de_of SL.b_minPs KX G ?a ?l ?c ?k; (case a => k_is); (case l => k_is); (case c => k_is); (case k => k_is))
    (case d_maxPs => refine' SL.de_of SL.b_maxPs KX G ?a ?l ?c ?k; (case a => k_is); (case l => k_is); (case c => k_is); (case k => k_is))
    (case d_pay => refine' SL.de_of SL.b_pay KX G ?a ?l ?c ?k; (case a => k_is); (case l => k_is); (case c => k_is); (case k => k_is))
    (case d_util => refine' SL.de_of SL.b_util KX G ?a ?l ?c ?k; (case a => k_is); (case l => k_is); (case c => k_is); (case k => k_is))
    (case d_demand => refine' SL.de_of SL.b_demand KX G ?a ?l ?c ?k; (case a => k_is); (case l => k_is); (case c => k_is); (case k => k_is))
    (case d_wrong => refine' SL.de_of SL.b_wrong KX G ?a ?l ?c ?k; (case a => k_is); (case l => k_is); (case c => k_is); (case k => k_is))
    (case d_fault => refine' SL.de_of SL.b_fault KX G ?a ?l ?c ?k; (case a => k_is); (case l => k_is); (case c => k_is); (case k => k_is))
    (case d_members => refine' SL.de_of SL.b_members KX G ?a ?l ?c ?k; (case a => k_is); (case l => k_is); (case c => k_is); (case k => k_is))
    (case d_within => refine' SL.de_of SL.b_within KX G ?a ?l ?c ?k; (case a => k_is); (case l => k_is); (case c => k_is); (case k => k_is))
    (case d_over => refine' SL.de_of SL.b_over KX G ?a ?l ?c ?k; (case a => k_is); (case l => k_is); (case c => k_is); (case k => k_is))
    (case d_first => refine' SL.de_of SL.b_first KX G ?a ?l ?c ?k; (case a => k_is); (case l => k_is); (case c => k_is); (case k => k_is))
    (case d_raised => refine' SL.de_of SL.b_raised KX G ?a ?l ?c ?k; (case a => k_is); (case l => k_is); (case c => k_is); (case k => k_is))
    (case d_clock => refine' SL.de_of SL.b_clock KX G ?a ?l ?c ?k; (case a => k_is); (case l => k_is); (case c => k_is); (case k => k_is))
    (case d_want => refine' SL.de_of SL.b_want KX G ?a ?l ?c ?k; (case a => k_is); (case l => k_is); (case c => k_is); (case k => k_is))
    (case d_between => refine' SL.de_of SL.b_between KX G ?a ?l ?c ?k; (case a => k_is); (case l => k_is); (case c => k_is); (case k => k_is))
    (case d_check => refine' SL.de_of SL.b_check KX G ?a ?l ?c ?k; (case a => k_is); (case l => k_is); (case c => k_is); (case k => k_is))
    (case d_counted => refine' SL.de_of SL.b_counted KX G ?a ?l ?c ?k; (case a => k_is); (case l => k_is); (case c => k_is); (case k => k_is))
    (case d_result => refine' SL.de_of SL.b_result KX G ?a ?l ?c ?k; (case a => k_is); (case l => k_is); (case c => k_is); (case k => k_is))
    (case d_utilOf => refine' SL.de_of SL.b_utilOf KX G ?a ?l ?c ?k; (case a => k_is); (case l => k_is); (case c => k_is); (case k => k_is))
    (case d_tl => refine' SL.de_of SL.b_tl KX G ?a ?l ?c ?k; (case a => k_is); (case l => k_is); (case c => k_is); (case k => k_is))
    (case d_ta => refine' SL.de_of SL.b_ta KX G ?a ?l ?c ?k; (case a => k_is); (case l => k_is); (case c => k_is); (case k => k_is))
    (case d_ans => refine' SL.de_of SL.b_ans KX G ?a ?l ?c ?k; (case a => k_is); (case l => k_is); (case c => k_is); (case k => k_is))
    (case d_all => refine' SL.de_of SL.b_all KX G ?a ?l ?c ?k; (case a => k_is); (case l => k_is); (case c => k_is); (case k => k_is))
    (case d_bids => refine' SL.dm_of SL.b_bids ?a ?i ?l ?c ?k; (case a => k_is); (case i => k_is); (case l => k_is); (case c => k_is); (case k => k_is))
    (case d_bidsW => refine' SL.dm_of SL.b_bidsW ?a ?i ?l ?c ?k; (case a => k_is); (case i => k_is); (case l => k_is); (case c => k_is); (case k => k_is))
    (case d_open => refine' SL.dm_of SL.b_open ?a ?i ?l ?c ?k; (case a => k_is); (case i => k_is); (case l => k_is); (case c => k_is); (case k => k_is))
    (case d_closed => refine' SL.dm_of SL.b_closed ?a ?i ?l ?c ?k; (case a => k_is); (case i => k_is); (case l => k_is); (case c => k_is); (case k => k_is))
    (case d_for => refine' SL.dm_of SL.b_for ?a ?i ?l ?c ?k; (case a => k_is); (case i => k_is); (case l => k_is); (case c => k_is); (case k => k_is))
    (case d_new => refine' SL.dm_of SL.b_new ?a ?i ?l ?c ?k; (case a => k_is); (case i => k_is); (case l => k_is); (case c => k_is); (case k => k_is))
    (case d_submit => refine' SL.dm_of SL.b_submit ?a ?i ?l ?c ?k; (case a => k_is); (case i => k_is); (case l => k_is); (case c => k_is); (case k => k_is))
    (case d_close => refine' SL.dm_of SL.b_close ?a ?i ?l ?c ?k; (case a => k_is); (case i => k_is); (case l => k_is); (case c => k_is); (case k => k_is))
    (case d_get => refine' SL.dm_of SL.b_get ?a ?i ?l ?c ?k; (case a => k_is); (case i => k_is); (case l => k_is); (case c => k_is); (case k => k_is))
    (case d_minimum => refine' SL.dm_of SL.b_minimum ?a ?i ?l ?c ?k; (case a => k_is); (case i => k_is); (case l => k_is); (case c => k_is); (case k => k_is))
    (case d_maximum => refine' SL.dm_of SL.b_maximum ?a ?i ?l ?c ?k; (case a => k_is); (case i => k_is); (case l => k_is); (case c => k_is); (case k => k_is))
    (case d_tot => refine' SL.dm_of SL.b_tot ?a ?i ?l ?c ?k; (case a => k_is); (case i => k_is); (case l => k_is); (case c => k_is); (case k => k_is))
    (case d_chk => refine' SL.dm_of SL.b_chk ?a ?i ?l ?c ?k; (case a => k_is); (case i => k_is); (case l => k_is); (case c => k_is); (case k => k_is))
    (case d_dem => refine' SL.dm_of SL.b_dem ?a ?i ?l ?c ?k; (case a => k_is); (case i => k_is); (case l => k_is); (case c => k_is); (case k => k_is))
    (case d_overd => refine' SL.dm_of SL.b_overd ?a ?i ?l ?c ?k; (case a => k_is); (case i => k_is); (case l => k_is); (case c => k_is); (case k => k_is))
    (case d_clk => refine' SL.dm_of SL.b_clk ?a ?i ?l ?c ?k; (case a => k_is); (case i => k_is); (case l => k_is); (case c => k_is); (case k => k_is))
    (case d_hyp => refine' SL.dm_of SL.b_hyp ?a ?i ?l ?c ?k; (case a => k_is); (case i => k_is); (case l => k_is); (case c => k_is); (case k => k_is))
    (case d_uti => refine' SL.dm_of SL.b_uti ?a ?i ?l ?c ?k; (case a => k_is); (case i => k_is); (case l => k_is); (case c => k_is); (case k => k_is))
    (case d_tru => refine' SL.dm_of SL.b_tru ?a ?i ?l ?c ?k; (case a => k_is); (case i => k_is); (case l => k_is); (case c => k_is); (case k => k_is))
    (case d_wo => refine' SL.dm_of SL.b_wo ?a ?i ?l ?c ?k; (case a => k_is); (case i => k_is); (case l => k_is); (case c => k_is); (case k => k_is))
    (case d_ls => refine' SL.dm_of SL.b_ls ?a ?i ?l ?c ?k; (case a => k_is); (case i => k_is); (case l => k_is); (case c => k_is); (case k => k_is))
    (case d_lb => refine' SL.dm_of SL.b_lb ?a ?i ?l ?c ?k; (case a => k_is); (case i => k_is); (case l => k_is); (case c => k_is); (case k => k_is))
    (case d_sum => refine' SL.dm_of SL.b_sum ?a ?i ?l ?c ?k; (case a => k_is); (case i => k_is); (case l => k_is); (case c => k_is); (case k => k_is))
  case S =>
    intro K H xs a hO hwi hask hx
    cases hx with
    | cons h1 h2 =>
      cases h2
      cases h1 with
      | lst hs ha =>
        have e := L2.ints_dw a.1 _ ha
        subst e
        have hlen : a.1.length ≤ 800 := SL.len_of hwi
        exact ⟨_, a.1, rfl, hs, hlen, hask, fun H' p hp => .lst (L2.SqL.of hp) (L2.dw_ints _)⟩
