import PyProof.Rows.All
import Wide.All
import OpenK.AllK
import Wide.FinOn
import HandS.ForMost
import HandS.IsInst
import HandS.Gcd
import HandS.WideBits
import HandS.TupAny
import PyProof.SeqIndex
import KE.KIndexOf
import HandS.SetFor
import PySem.Challenge.RW_sharewell_k27_whole_schemes_of_orders
set_option Elab.async false
set_option linter.all false
set_option maxRecDepth 100000
/-! The plain mathematics: orders, groups as numbers, what members add, bent tables. Core Lean alone. -/
namespace Shr
/-- the group with a number, below 32 -/
def grp (m : Nat) : List Nat := (List.range 5).filter fun i => m.testBit i
/-- the numbers of the groups within a group, in its own numbering -/
def marksOf (g : List Nat) : List Nat := g.foldl (fun ms i => ms ++ ms.map (· + 2 ^ i)) [0]
/-- the places of a group's members in an order -/
def names (o g : List Nat) : List Nat := (o.filter fun i => g.contains i).map fun i => g.idxOf i
def mStep (f : Nat → Int) (p : List Int × Nat) (i : Nat) : List Int × Nat := (p.1.set i (f (p.2 + 2 ^ i) - f p.2), p.2 + 2 ^ i)
/-- what each member adds -/
def marg (t : List Int) (o : List Nat) : List Int := (o.foldl (mStep fun k => t.getD k 0) (List.replicate o.length 0, 0)).1
def partOf (t : List Int) (g : List Nat) : List Int := (marksOf g).map fun k => t.getD k 0
def oRow (t : List Int) (o : List Nat) (m : Nat) : List Int := marg (partOf t (grp m)) (names o (grp m))
def osch (n : Nat) (t : List Int) (o : List Nat) : List (List Int) := (List.range (2 ^ n)).map (oRow t o)
def ordStep (n : Nat) (L : List (List Nat)) : List (List Nat) := L.flatMap fun o => ((List.range n).filter fun i => !o.contains i).map fun i => o ++ [i]
def ordK (n : Nat) : Nat → List (List Nat)
  | 0 => [[]]
  | k + 1 => ordStep n (ordK n k)
def orders (n : Nat) : List (List Nat) := ordK n n
def bent (n : Nat) (t : List Int) : Bool := (List.range (2 ^ n)).all fun S => (List.range n).all fun i => (List.range i).all fun j =>
  S.testBit i || S.testBit j || decide (t.getD (S + 2 ^ i + 2 ^ j) 0 + t.getD S 0 ≤ t.getD (S + 2 ^ i) 0 + t.getD (S + 2 ^ j) 0)
def stepsAt (n m : Nat) : List (Nat × Nat × Nat) := ((List.range n).filter fun j => !m.testBit j).flatMap fun j => (grp m).map fun i => (m, j, i)
def steps (n : Nat) : List (Nat × Nat × Nat) := (List.range' 1 (2 ^ n - 1)).flatMap (stepsAt n)
def rise (S : List (List Int)) (p : Nat × Nat × Nat) : Bool :=
  decide ((S.getD p.1 []).getD ((grp p.1).idxOf p.2.2) 0 < (S.getD (p.1 + 2 ^ p.2.1) []).getD ((grp (p.1 + 2 ^ p.2.1)).idxOf p.2.2) 0)
def flaw (n : Nat) (S : List (List Int)) : Option (Nat × Nat × Nat) := (steps n).find? (rise S)

/-! ### by pairs of places -/
def iStep (f : Nat → Nat) (p : List (Nat × Nat) × Nat) (i : Nat) : List (Nat × Nat) × Nat := (p.1.set i (f (p.2 + 2 ^ i), f p.2), p.2 + 2 ^ i)
def ix (o : List Nat) (m : Nat) : List (Nat × Nat) := ((names o (grp m)).foldl (iStep fun k => (marksOf (grp m)).getD k 0) (List.replicate (names o (grp m)).length (0, 0), 0)).1
def dif (f : Nat → Int) (p : Nat × Nat) : Int := f p.1 - f p.2

theorem fold_ix (t : Nat → Int) (g : Nat → Nat) (f : Nat → Int) (h : ∀ k, f k = t (g k)) : ∀ (l : List Nat) (a : List (Nat × Nat)) (k : Nat),
    (l.foldl (mStep f) (a.map (dif t), k)).1 = (l.foldl (iStep g) (a, k)).1.map (dif t)
  | [], _, _ => rfl
  | i :: l, a, k => by
    rw [List.foldl_cons, List.foldl_cons]
    have e : mStep f (a.map (dif t), k) i = ((a.set i (g (k + 2 ^ i), g k)).map (dif t), k + 2 ^ i) := by
      show ((a.map (dif t)).set i (f (k + 2 ^ i) - f k), k + 2 ^ i) = _
      rw [List.map_set, h, h]
      rfl
    rw [e]
    exact fold_ix t g f h l _ _
theorem oRow_ix {t : List Int} (h0 : t.getD 0 0 = 0) (o : List Nat) (m : Nat) : oRow t o m = (ix o m).map (dif fun k => t.getD k 0) := by
  unfold oRow marg ix
  have e : List.replicate (names o (grp m)).length (0 : Int) = (List.replicate (names o (grp m)).length (0, 0)).map (dif fun k => t.getD k 0) := by
    rw [List.map_replicate]
    congr 1
    show (0 : Int) = t.getD 0 0 - t.getD 0 0
    omega
  rw [e]
  refine fold_ix (fun k => t.getD k 0) (fun k => (marksOf (grp m)).getD k 0) _ (fun k => ?_) _ _ _
  unfold partOf
  by_cases hk : k < (marksOf (grp m)).length
  · simp [List.getD_eq_getElem?_getD, hk]
  · have hk : (marksOf (grp m)).length ≤ k := Nat.le_of_not_lt hk
    have e1 : ((marksOf (grp m)).map fun k => t.getD k 0).getD k 0 = 0 := by
      rw [List.getD_eq_getElem?_getD, List.getElem?_eq_none (by rw [List.length_map]; exact hk)]
      rfl
    have e2 : (marksOf (grp m)).getD k 0 = 0 := by
      rw [List.getD_eq_getElem?_getD, List.getElem?_eq_none hk]
      rfl
    show ((marksOf (grp m)).map fun k => t.getD k 0).getD k 0 = t.getD ((marksOf (grp m)).getD k 0) 0
    rw [e1, e2, h0]
theorem osch_at {n m : Nat} {t : List Int} {o : List Nat} (h0 : t.getD 0 0 = 0) (hm : m < 2 ^ n) : (osch n t o).getD m [] = (ix o m).map (dif fun k => t.getD k 0) := by
  rw [← oRow_ix h0]
  unfold osch
  simp [List.getD_eq_getElem?_getD, hm]
theorem dif_sum (f : Nat → Int) : ∀ l : List (Nat × Nat), (l.map (dif f)).sum = ((l.map Prod.fst).map f).sum - ((l.map Prod.snd).map f).sum
  | [] => rfl
  | p :: l => by
    have ih := dif_sum f l
    simp only [List.map_cons, List.sum_cons, ih, dif]
    omega

/-! ### finite checks -/
/-- the number of those of a group who stand ahead of a member -/
def pre (o : List Nat) (m i : Nat) : Nat := (o.takeWhile fun k => k != i).foldl (fun a k => if m.testBit k then a + 2 ^ k else a) 0
def ixG (o : List Nat) (m : Nat) : List (Nat × Nat) := (grp m).map fun i => (pre o m i + 2 ^ i, pre o m i)
def okSum (o : List Nat) (m : Nat) : Bool := (((ixG o m).map Prod.fst) ++ [0]).isPerm (((ixG o m).map Prod.snd) ++ [m])
def okEq (o : List Nat) (m : Nat) : Bool := decide (ix o m = ixG o m)
def okRise (n : Nat) (o : List Nat) (p : Nat × Nat × Nat) : Bool :=
  let m := p.1; let j := p.2.1; let i := p.2.2
  let a := pre o m i
  let b := pre o (m + 2 ^ j) i
  decide (m + 2 ^ j < 2 ^ n) && (grp (m + 2 ^ j)).contains i && (decide (a = b) || (decide (b = a + 2 ^ j) && !a.testBit i && !a.testBit j && decide (i ≠ j) && decide (i < n) && decide (j < n) && decide (a < 2 ^ n)))
def okAll (n : Nat) : Bool := (orders n).all fun o => ((List.range (2 ^ n)).all fun m => okEq o m && okSum o m) && ((steps n).all fun p => okRise n o p)
def hit (o : List Nat) (S i j : Nat) : Bool := pre o (S + 2 ^ i) i == S && pre o (S + 2 ^ i + 2 ^ j) i == S + 2 ^ j
def okHit (n : Nat) : Bool := (List.range (2 ^ n)).all fun S => (List.range n).all fun i => (List.range i).all fun j =>
  S.testBit i || S.testBit j || (decide (S + 2 ^ i + 2 ^ j < 2 ^ n) && (grp (S + 2 ^ i + 2 ^ j)).contains i && (steps n).contains (S + 2 ^ i, j, i) && (orders n).any fun o => hit o S i j)
end Shr
namespace Shr
theorem okAll_4 : okAll 1 = true ∧ okAll 2 = true ∧ okAll 3 = true ∧ okAll 4 = true := ⟨by decide +kernel, by decide +kernel, by decide +kernel, by decide +kernel⟩
theorem okAll_5 : okAll 5 = true := by decide +kernel
theorem okAll_n {n : Nat} (h1 : 1 ≤ n) (h5 : n ≤ 5) : okAll n = true := by
  have h : n = 1 ∨ n = 2 ∨ n = 3 ∨ n = 4 ∨ n = 5 := by omega
  obtain ⟨a, b, c, d⟩ := okAll_4
  rcases h with rfl | rfl | rfl | rfl | rfl
  · exact a
  · exact b
  · exact c
  · exact d
  · exact okAll_5
theorem okHit_n {n : Nat} (h1 : 1 ≤ n) (h4 : n ≤ 4) : okHit n = true := by
  have h : n = 1 ∨ n = 2 ∨ n = 3 ∨ n = 4 := by omega
  rcases h with rfl | rfl | rfl | rfl <;> decide +kernel
theorem perm_sum {l r : List Int} (h : l.Perm r) : l.sum = r.sum := by
  induction h with
  | nil => rfl
  | cons x _ ih => rw [List.sum_cons, List.sum_cons, ih]
  | swap x y l =>
    rw [List.sum_cons, List.sum_cons, List.sum_cons, List.sum_cons]
    omega
  | trans _ _ a b => exact a.trans b
theorem okSum_at {n m : Nat} {o : List Nat} (h1 : 1 ≤ n) (h5 : n ≤ 5) (ho : o ∈ orders n) (hm : m < 2 ^ n) : ix o m = ixG o m ∧ okSum o m = true := by
  have h := okAll_n h1 h5
  unfold okAll at h
  have h2 := List.all_eq_true.mp h o ho
  rw [Bool.and_eq_true] at h2
  have h3 := List.all_eq_true.mp h2.1 m (List.mem_range.mpr hm)
  rw [Bool.and_eq_true] at h3
  exact ⟨of_decide_eq_true h3.1, h3.2⟩
theorem okRise_at {n : Nat} {o : List Nat} {p : Nat × Nat × Nat} (h1 : 1 ≤ n) (h5 : n ≤ 5) (ho : o ∈ orders n) (hp : p ∈ steps n) : okRise n o p = true := by
  have h := okAll_n h1 h5
  unfold okAll at h
  have h2 := List.all_eq_true.mp h o ho
  rw [Bool.and_eq_true] at h2
  exact List.all_eq_true.mp h2.2 p hp
theorem osch_len (n : Nat) (t : List Int) (o : List Nat) : (osch n t o).length = 2 ^ n := by simp [osch]
theorem osch_ix {n m : Nat} {t : List Int} {o : List Nat} (h1 : 1 ≤ n) (h5 : n ≤ 5) (h0 : t.getD 0 0 = 0) (ho : o ∈ orders n) (hm : m < 2 ^ n) :
    (osch n t o).getD m [] = (grp m).map fun i => t.getD (pre o m i + 2 ^ i) 0 - t.getD (pre o m i) 0 := by
  rw [osch_at h0 hm, (okSum_at h1 h5 ho hm).1]
  unfold ixG
  rw [List.map_map]
  rfl
/-- a row sums to the table's entry, and is as long as the group -/
theorem osch_sum {n m : Nat} {t : List Int} {o : List Nat} (h1 : 1 ≤ n) (h5 : n ≤ 5) (h0 : t.getD 0 0 = 0) (ho : o ∈ orders n) (hm : m < 2 ^ n) :
    ((osch n t o).getD m []).sum = t.getD m 0 ∧ ((osch n t o).getD m []).length = (grp m).length := by
  obtain ⟨he, h⟩ := okSum_at h1 h5 ho hm
  unfold okSum at h
  have hp := List.isPerm_iff.mp h
  refine ⟨?_, by rw [osch_ix h1 h5 h0 ho hm, List.length_map]⟩
  rw [osch_at h0 hm, he, dif_sum]
  have hs := perm_sum (hp.map fun k => t.getD k 0)
  rw [List.map_append, List.map_append, List.sum_append, List.sum_append] at hs
  simp only [List.map_cons, List.map_nil, List.sum_cons, List.sum_nil] at hs
  omega
theorem getD_idx {l : List Nat} {i : Nat} (f : Nat → Int) (h : i ∈ l) : (l.map f).getD (l.idxOf i) 0 = f i := by
  have hl := List.idxOf_lt_length_of_mem h
  rw [List.getD_eq_getElem?_getD, List.getElem?_map, List.getElem?_eq_getElem hl, List.getElem_idxOf]
  rfl
theorem mem_steps {n : Nat} {p : Nat × Nat × Nat} (h : p ∈ steps n) : p.1 < 2 ^ n ∧ 1 ≤ p.1 ∧ p.2.1 < n ∧ p.1.testBit p.2.1 = false ∧ p.2.2 ∈ grp p.1 := by
  unfold steps at h
  obtain ⟨m, hm, h⟩ := List.mem_flatMap.mp h
  unfold stepsAt at h
  obtain ⟨j, hj, h⟩ := List.mem_flatMap.mp h
  obtain ⟨i, hi, rfl⟩ := List.mem_map.mp h
  obtain ⟨hj1, hj2⟩ := List.mem_filter.mp hj
  have hm := List.mem_range'_1.mp hm
  refine ⟨?_, hm.1, List.mem_range.mp hj1, ?_, hi⟩
  · show m < 2 ^ n
    have := Nat.one_le_two_pow (n := n)
    omega
  · show m.testBit j = false
    cases e : m.testBit j with
    | false => rfl
    | true => rw [e] at hj2; cases hj2
theorem bent_at {n S i j : Nat} {t : List Int} (h : bent n t = true) (hS : S < 2 ^ n) (hi : i < n) (hj : j < n) (hij : i ≠ j) (bi : S.testBit i = false) (bj : S.testBit j = false) :
    t.getD (S + 2 ^ i + 2 ^ j) 0 + t.getD S 0 ≤ t.getD (S + 2 ^ i) 0 + t.getD (S + 2 ^ j) 0 := by
  unfold bent at h
  have h1 := List.all_eq_true.mp h S (List.mem_range.mpr hS)
  by_cases hlt : j < i
  · have h2 := List.all_eq_true.mp (List.all_eq_true.mp h1 i (List.mem_range.mpr hi)) j (List.mem_range.mpr hlt)
    rw [bi, bj] at h2
    simpa using h2
  · have h2 := List.all_eq_true.mp (List.all_eq_true.mp h1 j (List.mem_range.mpr hj)) i (List.mem_range.mpr (by omega))
    rw [bi, bj] at h2
    have h3 : t.getD (S + 2 ^ j + 2 ^ i) 0 + t.getD S 0 ≤ t.getD (S + 2 ^ j) 0 + t.getD (S + 2 ^ i) 0 := by simpa using h2
    have e : S + 2 ^ i + 2 ^ j = S + 2 ^ j + 2 ^ i := by omega
    rw [e]
    omega
theorem not_bent {n : Nat} {t : List Int} (h : bent n t = false) : ∃ S i j, S < 2 ^ n ∧ i < n ∧ j < i ∧ S.testBit i = false ∧ S.testBit j = false ∧
    t.getD (S + 2 ^ i) 0 + t.getD (S + 2 ^ j) 0 < t.getD (S + 2 ^ i + 2 ^ j) 0 + t.getD S 0 := by
  unfold bent at h
  obtain ⟨S, hS, h⟩ := List.all_eq_false.mp h
  have h : ((List.range n).all fun i => (List.range i).all fun j =>
    S.testBit i || S.testBit j || decide (t.getD (S + 2 ^ i + 2 ^ j) 0 + t.getD S 0 ≤ t.getD (S + 2 ^ i) 0 + t.getD (S + 2 ^ j) 0)) = false := by simpa using h
  obtain ⟨i, hi, h⟩ := List.all_eq_false.mp h
  have h : ((List.range i).all fun j =>
    S.testBit i || S.testBit j || decide (t.getD (S + 2 ^ i + 2 ^ j) 0 + t.getD S 0 ≤ t.getD (S + 2 ^ i) 0 + t.getD (S + 2 ^ j) 0)) = false := by simpa using h
  obtain ⟨j, hj, h⟩ := List.all_eq_false.mp h
  have h := Bool.eq_false_iff.mpr h
  rw [Bool.or_eq_false_iff, Bool.or_eq_false_iff] at h
  obtain ⟨⟨b1, b2⟩, h3⟩ := h
  refine ⟨S, i, j, List.mem_range.mp hS, List.mem_range.mp hi, List.mem_range.mp hj, b1, b2, ?_⟩
  have := of_decide_eq_false h3
  omega
/-- what a step compares -/
theorem rise_ix {n : Nat} {t : List Int} {o : List Nat} {p : Nat × Nat × Nat} (h1 : 1 ≤ n) (h5 : n ≤ 5) (h0 : t.getD 0 0 = 0) (ho : o ∈ orders n) (hm : p.1 < 2 ^ n) (hm2 : p.1 + 2 ^ p.2.1 < 2 ^ n)
    (hi : p.2.2 ∈ grp p.1) (hi2 : p.2.2 ∈ grp (p.1 + 2 ^ p.2.1)) :
    rise (osch n t o) p = decide (t.getD (pre o p.1 p.2.2 + 2 ^ p.2.2) 0 - t.getD (pre o p.1 p.2.2) 0 < t.getD (pre o (p.1 + 2 ^ p.2.1) p.2.2 + 2 ^ p.2.2) 0 - t.getD (pre o (p.1 + 2 ^ p.2.1) p.2.2) 0) := by
  unfold rise
  rw [osch_ix h1 h5 h0 ho hm, osch_ix h1 h5 h0 ho hm2, getD_idx _ hi, getD_idx _ hi2]
/-- a bent table: nobody's share rises, whatever the order -/
theorem bent_none {n : Nat} {t : List Int} {o : List Nat} (h1 : 1 ≤ n) (h5 : n ≤ 5) (h0 : t.getD 0 0 = 0) (hb : bent n t = true) (ho : o ∈ orders n) : flaw n (osch n t o) = none := by
  unfold flaw
  refine List.find?_eq_none.mpr fun p hp => ?_
  have hk := okRise_at h1 h5 ho hp
  obtain ⟨hm, _, _, _, hi0⟩ := mem_steps hp
  unfold okRise at hk
  simp only [Bool.and_eq_true, Bool.or_eq_true, decide_eq_true_eq, Bool.not_eq_true'] at hk
  obtain ⟨⟨hm2, hi2⟩, hk⟩ := hk
  rw [rise_ix h1 h5 h0 ho hm hm2 hi0 (List.contains_iff_mem.mp hi2), decide_eq_true_eq]
  rcases hk with hk | ⟨⟨⟨⟨⟨⟨e2, b1⟩, b2⟩, hij⟩, hi⟩, hj⟩, hS⟩
  · rw [← hk]
    exact Int.lt_irrefl _
  · have hbt := bent_at hb hS hi hj hij b1 b2
    rw [e2]
    generalize pre o p.1 p.2.2 = X at *
    have e : X + 2 ^ p.2.1 + 2 ^ p.2.2 = X + 2 ^ p.2.2 + 2 ^ p.2.1 := by omega
    rw [e]
    omega
/-- of up to four members: a table that is not bent has an order in which a share rises -/
theorem none_bent {n : Nat} {t : List Int} (h1 : 1 ≤ n) (h4 : n ≤ 4) (h0 : t.getD 0 0 = 0) (h : ∀ o ∈ orders n, flaw n (osch n t o) = none) : bent n t = true := by
  cases hb : bent n t with
  | true => rfl
  | false =>
    exfalso
    obtain ⟨S, i, j, hS, hi, hj, bi, bj, hlt⟩ := not_bent hb
    have hk := okHit_n h1 h4
    unfold okHit at hk
    have hk := List.all_eq_true.mp (List.all_eq_true.mp (List.all_eq_true.mp hk S (List.mem_range.mpr hS)) i (List.mem_range.mpr hi)) j (List.mem_range.mpr hj)
    rw [bi, bj] at hk
    simp only [Bool.false_or, Bool.and_eq_true, decide_eq_true_eq] at hk
    obtain ⟨⟨⟨hS2, hi2⟩, hst⟩, hor⟩ := hk
    have hst : (S + 2 ^ i, j, i) ∈ steps n := List.contains_iff_mem.mp hst
    obtain ⟨o, ho, hh⟩ := List.any_eq_true.mp hor
    unfold hit at hh
    simp only [Bool.and_eq_true] at hh
    obtain ⟨e1, e2⟩ := hh
    have e1 := eq_of_beq e1
    have e2 := eq_of_beq e2
    have hf := h o ho
    unfold flaw at hf
    have hr := List.find?_eq_none.mp hf _ hst
    obtain ⟨hm, _, _, _, hi0⟩ := mem_steps hst
    rw [rise_ix h1 (by omega) h0 ho hm hS2 hi0 (List.contains_iff_mem.mp hi2)] at hr
    apply hr
    rw [decide_eq_true_eq]
    show t.getD (pre o (S + 2 ^ i) i + 2 ^ i) 0 - t.getD (pre o (S + 2 ^ i) i) 0 < t.getD (pre o (S + 2 ^ i + 2 ^ j) i + 2 ^ i) 0 - t.getD (pre o (S + 2 ^ i + 2 ^ j) i) 0
    rw [e1, e2]
    have e : S + 2 ^ j + 2 ^ i = S + 2 ^ i + 2 ^ j := by omega
    rw [e]
    omega
end Shr


namespace Shr
open PySem PySem.Spec L2

/-! ### data: what a value is worth -/
/-- a tuple whose object is known: it has no dict (so that its methods are the built-in ones) -/
def TupF (H : Hp) (a : Addr) (xs : List V) : Prop := ∃ o : Obj, H a = some (.frz o (.tup xs)) ∧ o.dict = Option.none
theorem TupF.sq {K : PySem.W.Frag} {H : Hp} {a : Addr} {xs : List V} (h : TupF H a xs) : SqT K H a xs := let ⟨o, e, _⟩ := h; .inl (.inr ⟨o, e⟩)
theorem TupF.new {H : Hp} {a : Addr} {xs : List V} {o : Obj} (h : o.dict = Option.none) : TupF (upd H a (.frz o (.tup xs))) a xs := ⟨o, upd_same, h⟩
mutual
/-- a value that never changes -/
inductive Im (H : Hp) : V → PyData → Prop where
  | non : Im H .non .none
  | bl (b : Bool) : Im H (.bl b) (.bool b)
  | int (i : Int) : Im H (.int i) (.int i)
  | str (x : Str) : Im H (.str x) (.str x)
  | tup {a : Addr} {xs : List V} {ds : List PyData} : TupF H a xs → ImAll H xs ds → Im H (.ref a) (.tuple ds)
inductive ImAll (H : Hp) : List V → List PyData → Prop where
  | nil : ImAll H [] []
  | cons {v : V} {vs : List V} {d : PyData} {ds : List PyData} : Im H v d → ImAll H vs ds → ImAll H (v :: vs) (d :: ds)
end
/-- the tuples stay -/
def TSt (H H' : Hp) : Prop := ∀ b o xs, H b = some (.frz o (.tup xs)) → H' b = some (.frz o (.tup xs))
theorem ts_of {H H' : Hp} (h : Same H H') : TSt H H' := fun b _ _ e => h b _ e
theorem TupF.mono {H H' : Hp} (e : TSt H H') {a : Addr} {xs : List V} (h : TupF H a xs) : TupF H' a xs := let ⟨o, q, d⟩ := h; ⟨o, e _ _ _ q, d⟩
mutual
theorem Im.mono {H H' : Hp} (e : TSt H H') : ∀ {d : PyData} {v : V}, Im H v d → Im H' v d
  | _, _, .non => .non
  | _, _, .bl b => .bl b
  | _, _, .int i => .int i
  | _, _, .str x => .str x
  | _, _, .tup h hs => .tup (h.mono e) (ImAll.mono e hs)
theorem ImAll.mono {H H' : Hp} (e : TSt H H') : ∀ {ds : List PyData} {vs : List V}, ImAll H vs ds → ImAll H' vs ds
  | _, _, .nil => .nil
  | _, _, .cons h hs => .cons (Im.mono e h) (ImAll.mono e hs)
end
theorem ImAll.len {H : Hp} : ∀ {vs : List V} {ds : List PyData}, ImAll H vs ds → vs.length = ds.length
  | _, _, .nil => rfl
  | _, _, .cons _ t => by rw [List.length_cons, List.length_cons, ImAll.len t]
theorem ImAll.get {H : Hp} : ∀ {vs : List V} {ds : List PyData} {i : Nat} {d : PyData}, ImAll H vs ds → ds[i]? = some d → ∃ v, vs[i]? = some v ∧ Im H v d
  | _, _, _, _, .nil, h => by simp at h
  | _, _, 0, _, .cons h _, e => ⟨_, rfl, by cases e; exact h⟩
  | _, _, i + 1, _, .cons _ t, e => ImAll.get (i := i) t e
theorem ImAll.get' {H : Hp} : ∀ {vs : List V} {ds : List PyData} {i : Nat} {v : V}, ImAll H vs ds → vs[i]? = some v → ∃ d, ds[i]? = some d ∧ Im H v d
  | _, _, _, _, .nil, h => by simp at h
  | _, _, 0, _, .cons h _, e => ⟨_, rfl, by cases e; exact h⟩
  | _, _, i + 1, _, .cons _ t, e => ImAll.get' (i := i) t e
theorem ImAll.append {H : Hp} : ∀ {vs ws : List V} {ds es : List PyData}, ImAll H vs ds → ImAll H ws es → ImAll H (vs ++ ws) (ds ++ es)
  | _, _, _, _, .nil, h => h
  | _, _, _, _, .cons h t, g => .cons h (ImAll.append t g)
theorem ImAll.snoc {H : Hp} {vs : List V} {v : V} {ds : List PyData} {d : PyData} (h : ImAll H vs ds) (g : Im H v d) : ImAll H (vs ++ [v]) (ds ++ [d]) := h.append (.cons g .nil)
theorem ImAll.set {H : Hp} {v : V} {d : PyData} (g : Im H v d) : ∀ {vs : List V} {ds : List PyData} (i : Nat), ImAll H vs ds → ImAll H (vs.set i v) (ds.set i d)
  | _, _, _, .nil => .nil
  | _, _, 0, .cons _ t => .cons g t
  | _, _, i + 1, .cons h t => .cons h (ImAll.set g i t)
theorem ImAll.ints {H : Hp} : ∀ (l : List Int), ImAll H (l.map V.int) (l.map PyData.int)
  | [] => .nil
  | x :: l => .cons (.int x) (ImAll.ints l)
theorem Im.int_eq {H : Hp} {v : V} {i : Int} (h : Im H v (.int i)) : v = .int i := by cases h; rfl
theorem Im.bl_eq {H : Hp} {v : V} {b : Bool} (h : Im H v (.bool b)) : v = .bl b := by cases h; rfl
theorem Im.non_eq {H : Hp} {v : V} (h : Im H v .none) : v = .non := by cases h; rfl
theorem ImAll.int_eq {H : Hp} : ∀ {vs : List V} {l : List Int}, ImAll H vs (l.map PyData.int) → vs = l.map V.int
  | _, [], .nil => rfl
  | _, x :: l, .cons h t => by rw [List.map_cons, h.int_eq, ImAll.int_eq t]
theorem ImAll.bl_eq {H : Hp} : ∀ {vs : List V} {l : List Bool}, ImAll H vs (l.map PyData.bool) → vs = l.map V.bl
  | _, [], .nil => rfl
  | _, x :: l, .cons h t => by rw [List.map_cons, h.bl_eq, ImAll.bl_eq t]
/-- a value: it never changes, or is a list of such -/
inductive Ar (H : Hp) : V → PyData → Prop where
  | im {v : V} {d : PyData} (h : Im H v d) : Ar H v d
  | lst {p : Addr} {xs : List V} {ds : List PyData} (e : H p = some (.lst xs)) (h : ImAll H xs ds) : Ar H (.ref p) (.list ds)
theorem Ar.mono {H H' : Hp} (e : Same H H') {v : V} {d : PyData} : Ar H v d → Ar H' v d
  | .im h => .im (h.mono (ts_of e))
  | .lst q h => .lst (e _ _ q) (h.mono (ts_of e))
def notL : PyData → Bool
  | .list _ => false
  | _ => true
theorem Ar.toIm {H : Hp} {v : V} {d : PyData} (h : Ar H v d) (n : notL d = true) : Im H v d := by
  cases h with
  | im h => exact h
  | lst _ _ => cases n
theorem Ar.int {H : Hp} {v : V} {i : Int} (h : Ar H v (.int i)) : v = .int i := (h.toIm rfl).int_eq
theorem Ar.bl {H : Hp} {v : V} {b : Bool} (h : Ar H v (.bool b)) : v = .bl b := (h.toIm rfl).bl_eq
theorem Ar.non {H : Hp} {v : V} (h : Ar H v .none) : v = .non := (h.toIm rfl).non_eq
theorem Im.tupE {H : Hp} {v : V} {ds : List PyData} (h : Im H v (.tuple ds)) : ∃ a xs, v = .ref a ∧ TupF H a xs ∧ ImAll H xs ds := by
  cases h with
  | tup e hs => exact ⟨_, _, rfl, e, hs⟩
theorem Ar.tupE {H : Hp} {v : V} {ds : List PyData} (h : Ar H v (.tuple ds)) : ∃ a xs, v = .ref a ∧ TupF H a xs ∧ ImAll H xs ds := (h.toIm rfl).tupE
theorem Ar.lstE {H : Hp} {v : V} {ds : List PyData} (h : Ar H v (.list ds)) : ∃ a xs, v = .ref a ∧ H a = some (.lst xs) ∧ ImAll H xs ds := by
  cases h with
  | im h => cases h
  | lst e hs => exact ⟨_, _, rfl, e, hs⟩
abbrev ArAll (H : Hp) (vs : List V) (ds : List PyData) : Prop := Paired (Ar H) vs ds
theorem ArAll.mono {H H' : Hp} (e : Same H H') : ∀ {vs : List V} {ds : List PyData}, ArAll H vs ds → ArAll H' vs ds
  | _, _, .nil => .nil
  | _, _, .cons h t => .cons (h.mono e) (ArAll.mono e t)
theorem ArAll.toIm {H : Hp} : ∀ {vs : List V} {ds : List PyData}, ArAll H vs ds → ds.all notL = true → ImAll H vs ds
  | _, _, .nil, _ => .nil
  | _, _, .cons h t, n => by
    rw [List.all_cons, Bool.and_eq_true] at n
    exact .cons (h.toIm n.1) (ArAll.toIm t n.2)
theorem ArAll.len {H : Hp} : ∀ {vs : List V} {ds : List PyData}, ArAll H vs ds → vs.length = ds.length
  | _, _, .nil => rfl
  | _, _, .cons _ t => by rw [List.length_cons, List.length_cons, ArAll.len t]
mutual
theorem Im.dp {K : PySem.W.Frag} {H : Hp} : ∀ {d : PyData} {v : V}, Im H v d → Dp K H v d
  | _, _, .non => .non
  | _, _, .bl b => .bl b
  | _, _, .int i => .int i
  | _, _, .str x => .str x
  | _, _, .tup h hs => .tup h.sq (ImAll.dp hs)
theorem ImAll.dp {K : PySem.W.Frag} {H : Hp} : ∀ {ds : List PyData} {vs : List V}, ImAll H vs ds → DpAll K H vs ds
  | _, _, .nil => .nil
  | _, _, .cons h hs => .cons (Im.dp h) (ImAll.dp hs)
end
theorem Ar.dp {K : PySem.W.Frag} {H : Hp} {v : V} {d : PyData} : Ar H v d → Dp K H v d
  | .im h => h.dp
  | .lst e h => .lst (SqL.of e) h.dp
theorem same_new {H : Hp} {p : Addr} (h : H p = none) (o : HO) : Same H (upd H p o) := fun b u q => by rw [upd_ne (ne_of_none q h)]; exact q
/-- a list of our own is written: what stood before it was made stays -/
theorem same_own {H H' : Hp} {p : Addr} (s : Same H H') (h : H p = none) (o : HO) : Same H (upd H' p o) := fun b u q => by rw [upd_ne (ne_of_none q h)]; exact s b u q
theorem ts_lst {H : Hp} {p : Addr} {xs : List V} (h : H p = some (.lst xs)) (o : HO) : TSt H (upd H p o) := fun b ob ys q => by rw [upd_ne (ne_of q h (by intro z; cases z))]; exact q

/-! ### what evaluates to what -/
section
variable {ι : Type} {X : ι → Cx} {σ : St} {H H' : Hp} {e a b c : Expr} {d da db : PyData} {pos : Pos}
/-- e evaluates to data d, whatever the heap has become -/
def CE (X : ι → Cx) (σ : St) (H : Hp) (e : Expr) (d : PyData) : Prop := ∃ te : TE, (∀ j, PE (X j) e te) ∧ ∀ H1, Same H H1 → ∀ Q : VK, (∀ v H2, Same H1 H2 → Ar H2 v d → Q v H2) → te σ H1 Q
/-- .. to a new list -/
def CN (X : ι → Cx) (σ : St) (H : Hp) (e : Expr) (ds : List PyData) : Prop := ∃ te : TE, (∀ j, PE (X j) e te) ∧ ∀ H1, Same H H1 → ∀ Q : VK, (∀ p xs H2, H1 p = none → Same H1 H2 → H2 p = some (.lst xs) → ImAll H2 xs ds → Q (.ref p) H2) → te σ H1 Q
def CT (X : ι → Cx) (σ : St) (H : Hp) (e : Expr) (b : Bool) : Prop := ∃ tt : TT, (∀ j, PT (X j) e tt) ∧ ∀ H1, Same H H1 → ∀ Q : Bool → Hp → Prop, (∀ H2, Same H1 H2 → Q b H2) → tt σ H1 Q
def CW (X : ι → Cx) (σ : St) (H : Hp) (e : Expr) (b : Bool) : Prop := ∃ tt : TT, (∀ j, PW (X j) e tt) ∧ ∀ H1, Same H H1 → ∀ Q : Bool → Hp → Prop, (∀ H2, Same H1 H2 → Q b H2) → tt σ H1 Q
def CA (X : ι → Cx) (σ : St) (H : Hp) (es : List Expr) (ds : List PyData) : Prop := ∃ ta : TA, (∀ j, PA (X j) es ta) ∧ ∀ H1, Same H H1 → ∀ Q : List V → Hp → Prop, (∀ vs H2, Same H1 H2 → ArAll H2 vs ds → Q vs H2) → ta σ H1 Q
theorem CE.mono (h : CE X σ H e d) (s : Same H H') : CE X σ H' e d := let ⟨te, p, r⟩ := h; ⟨te, p, fun H1 q => r H1 (s.trans q)⟩
theorem CT.mono {k : Bool} (h : CT X σ H e k) (s : Same H H') : CT X σ H' e k := let ⟨te, p, r⟩ := h; ⟨te, p, fun H1 q => r H1 (s.trans q)⟩
theorem CE.eq (h : CE X σ H e d) (q : d = da) : CE X σ H e da := q ▸ h
theorem CT.eq {k l : Bool} (h : CT X σ H e k) (q : k = l) : CT X σ H e l := q ▸ h
theorem CN.ce {ds : List PyData} (h : CN X σ H e ds) : CE X σ H e (.list ds) := let ⟨te, p, r⟩ := h; ⟨te, p, fun H1 s Q q => r H1 s Q fun p xs H2 _ s2 e2 im => q _ _ s2 (.lst e2 im)⟩
theorem CN.eq {ds es : List PyData} (h : CN X σ H e ds) (q : ds = es) : CN X σ H e es := q ▸ h
theorem CW.ct {k : Bool} (h : CW X σ H e k) : CT X σ H e k := let ⟨te, p, r⟩ := h; ⟨te, fun j => (p j).pt, r⟩

theorem ce_v (i : Nat) {x : Str} {v : V} (hs : σ[i]? = some (some v)) (h : Ar H v d) (hN : ∀ j, (X j).N[i]? = some x := by intro _; rfl) (hv : ∀ j, Vis (X j).env.scope x := by intro _; first | exact Or.inl rfl | exact Or.inr (Or.inl rfl) | exact Or.inr (Or.inr rfl))
    (hd : (x == ("__debug__" : Str)) = false := by decide) (hcd : (x == ("__classdict__" : Str)) = false := by decide) : CE X σ H (.Name x pos) d :=
  ⟨_, fun j => pe_var (hN j) (hv j) hd hcd, fun H1 s Q q => ⟨v, hs, q v H1 (Same.refl _) (h.mono s)⟩⟩
theorem ce_int {i : Int} {k : Nat} : CE X σ H (.Constant (.int i) k pos) (.int i) := ⟨_, fun _ => pe_int, fun H1 _ Q q => q _ H1 (Same.refl _) (.im (.int i))⟩
theorem ce_none {k : Nat} : CE X σ H (.Constant .none k pos) .none := ⟨_, fun _ => pe_non, fun H1 _ Q q => q _ H1 (Same.refl _) (.im .non)⟩
theorem ce_bool {i : Bool} {k : Nat} : CE X σ H (.Constant (.bool i) k pos) (.bool i) := ⟨_, fun _ => pe_bl, fun H1 _ Q q => q _ H1 (Same.refl _) (.im (.bl i))⟩
theorem ce_str {i : Str} {k : Nat} : CE X σ H (.Constant (.str i) k pos) (.str i) := ⟨_, fun _ => pe_str, fun H1 _ Q q => q _ H1 (Same.refl _) (.im (.str i))⟩
theorem ce_glI {x : Str} {i : Int} {t : Tok} (hm : ∀ j, (X j).mg x = some (.int i t)) (hg : ∀ j, Gl (X j) x := by intro _; rfl) (hd : (x == ("__debug__" : Str)) = false := by decide) : CE X σ H (.Name x pos) (.int i) :=
  ⟨_, fun j => pe_glob (hg j) (hm j) (v := .int i) ⟨t, rfl⟩ hd, fun H1 _ Q q => q _ H1 (Same.refl _) (.im (.int i))⟩

/-- a two-place operation on two pieces of data -/
theorem ce_bin {op : Operator} {r : R2} (ho : ∀ j, OpR (X j) (binaryOp op) r) (ha : CE X σ H a da) (hb : CE X σ H b db)
    (hr : ∀ H1 x y, Same H H1 → Ar H1 x da → Ar H1 y db → ∀ Q : VK, (∀ v H2, Same H1 H2 → Ar H2 v d → Q v H2) → r x y H1 Q) : CE X σ H (.BinOp a op b pos) d := by
  obtain ⟨ta, pa, qa⟩ := ha
  obtain ⟨tb, pb, qb⟩ := hb
  refine ⟨_, fun j => pe_op (ho j) (pa j) (pb j), fun H1 s Q q => ?_⟩
  refine qa H1 s _ fun x H2 s2 ax => ?_
  refine qb H2 (s.trans s2) _ fun y H3 s3 ay => ?_
  exact hr H3 x y ((s.trans s2).trans s3) (ax.mono s3) ay Q fun v H4 s4 av => q v H4 ((s2.trans s3).trans s4) av
theorem ce_cmp {op : CmpOp} {r : R2} (ho : ∀ j, OpR (X j) (compareOp op) r) (ha : CE X σ H a da) (hb : CE X σ H b db) (hm : behindInMarks op b = false)
    (hr : ∀ H1 x y, Same H H1 → Ar H1 x da → Ar H1 y db → ∀ Q : VK, (∀ v H2, Same H1 H2 → Ar H2 v d → Q v H2) → r x y H1 Q) : CE X σ H (.Compare a [op] [b] pos) d := by
  obtain ⟨ta, pa, qa⟩ := ha
  obtain ⟨tb, pb, qb⟩ := hb
  refine ⟨_, fun j => pe_cmpR (ho j) (pa j) (pb j) hm, fun H1 s Q q => ?_⟩
  refine qa H1 s _ fun x H2 s2 ax => ?_
  refine qb H2 (s.trans s2) _ fun y H3 s3 ay => ?_
  exact hr H3 x y ((s.trans s2).trans s3) (ax.mono s3) ay Q fun v H4 s4 av => q v H4 ((s2.trans s3).trans s4) av
theorem ct_cmp {op : CmpOp} {r : R2} {k : Bool} (ho : ∀ j, OpR (X j) (compareOp op) r) (ha : CE X σ H a da) (hb : CE X σ H b db) (hm : behindInMarks op b = false)
    (hr : ∀ H1 x y, Same H H1 → Ar H1 x da → Ar H1 y db → ∀ Q : VK, (∀ H2, Same H1 H2 → Q (.bl k) H2) → r x y H1 Q) : CT X σ H (.Compare a [op] [b] pos) k := by
  obtain ⟨ta, pa, qa⟩ := ha
  obtain ⟨tb, pb, qb⟩ := hb
  refine ⟨_, fun j => pt_cmpR (ho j) (pa j) (pb j) hm, fun H1 s Q q => ?_⟩
  refine qa H1 s _ fun x H2 s2 ax => ?_
  refine qb H2 (s.trans s2) _ fun y H3 s3 ay => ?_
  exact hr H3 x y ((s.trans s2).trans s3) (ax.mono s3) ay _ fun H4 s4 => ⟨k, rfl, q H4 ((s2.trans s3).trans s4)⟩
theorem rI0_ok {g : Int → Int → V} {i j : Int} {H1 : Hp} {x y : V} (ax : Ar H1 x (.int i)) (ay : Ar H1 y (.int j)) {Q : VK} (q : Q (g i j) H1) : rI0 g x y H1 Q := ⟨i, j, ax.int, ay.int, q⟩
theorem rI_ok {C : Int → Int → Prop} {g : Int → Int → V} {i j : Int} {H1 : Hp} {x y : V} (ax : Ar H1 x (.int i)) (ay : Ar H1 y (.int j)) (hc : C i j) {Q : VK} (q : Q (g i j) H1) : rI C g x y H1 Q := ⟨i, j, ax.int, ay.int, hc, q⟩
variable {i j : Int}
theorem ce_add (ha : CE X σ H a (.int i)) (hb : CE X σ H b (.int j)) : CE X σ H (.BinOp a .Add b pos) (.int (i + j)) := ce_bin (fun _ => op_add) ha hb fun H1 _ _ _ ax ay Q q => rI0_ok ax ay (q _ H1 (Same.refl _) (.im (.int _)))
theorem ce_sub (ha : CE X σ H a (.int i)) (hb : CE X σ H b (.int j)) : CE X σ H (.BinOp a .Sub b pos) (.int (i - j)) := ce_bin (fun _ => op_sub) ha hb fun H1 _ _ _ ax ay Q q => rI0_ok ax ay (q _ H1 (Same.refl _) (.im (.int _)))
theorem ce_mul (ha : CE X σ H a (.int i)) (hb : CE X σ H b (.int j)) (hc : CMul i j) : CE X σ H (.BinOp a .Mult b pos) (.int (i * j)) := ce_bin (fun _ => op_mul) ha hb fun H1 _ _ _ ax ay Q q => rI_ok ax ay hc (q _ H1 (Same.refl _) (.im (.int _)))
theorem ce_fdiv (ha : CE X σ H a (.int i)) (hb : CE X σ H b (.int j)) (hc : CDiv i j) : CE X σ H (.BinOp a .FloorDiv b pos) (.int (i / j)) := ce_bin (fun _ => op_fdiv) ha hb fun H1 _ _ _ ax ay Q q => rI_ok ax ay hc (q _ H1 (Same.refl _) (.im (.int _)))
theorem ce_mod (ha : CE X σ H a (.int i)) (hb : CE X σ H b (.int j)) (hc : 0 < j) : CE X σ H (.BinOp a .Mod b pos) (.int (i % j)) := ce_bin (fun _ => op_mod) ha hb fun H1 _ _ _ ax ay Q q => rI_ok ax ay hc (q _ H1 (Same.refl _) (.im (.int _)))
theorem ce_pow (ha : CE X σ H a (.int i)) (hb : CE X σ H b (.int j)) (hc : CPow i j) : CE X σ H (.BinOp a .Pow b pos) (.int (i ^ j.toNat)) := ce_bin (fun _ => op_pow) ha hb fun H1 _ _ _ ax ay Q q => rI_ok ax ay hc (q _ H1 (Same.refl _) (.im (.int _)))
theorem ce_shl (ha : CE X σ H a (.int i)) (hb : CE X σ H b (.int j)) (hc : CPow i j) : CE X σ H (.BinOp a .LShift b pos) (.int (i * 2 ^ j.toNat)) := ce_bin (fun _ => op_shl) ha hb fun H1 _ _ _ ax ay Q q => rI_ok ax ay hc (q _ H1 (Same.refl _) (.im (.int _)))
theorem ce_shr (ha : CE X σ H a (.int i)) (hb : CE X σ H b (.int j)) (hc : 0 ≤ j) : CE X σ H (.BinOp a .RShift b pos) (.int (i / 2 ^ j.toNat)) := ce_bin (fun _ => op_shr) ha hb fun H1 _ _ _ ax ay Q q => rI_ok ax ay hc (q _ H1 (Same.refl _) (.im (.int _)))
theorem ce_band (ha : CE X σ H a (.int i)) (hb : CE X σ H b (.int j)) : CE X σ H (.BinOp a .BitAnd b pos) (.int (Builtin.bitAnd i j)) := ce_bin (fun _ => op_and) ha hb fun H1 _ _ _ ax ay Q q => rI0_ok ax ay (q _ H1 (Same.refl _) (.im (.int _)))
theorem ce_bor (ha : CE X σ H a (.int i)) (hb : CE X σ H b (.int j)) : CE X σ H (.BinOp a .BitOr b pos) (.int (Builtin.bitOr i j)) := ce_bin (fun _ => op_or) ha hb fun H1 _ _ _ ax ay Q q => rI0_ok ax ay (q _ H1 (Same.refl _) (.im (.int _)))
theorem ct_lt (ha : CE X σ H a (.int i)) (hb : CE X σ H b (.int j)) : CT X σ H (.Compare a [.Lt] [b] pos) (decide (i < j)) := ct_cmp (fun _ => op_lt) ha hb (nomark _) fun H1 _ _ _ ax ay Q q => rI0_ok ax ay (q H1 (Same.refl _))
theorem ct_le (ha : CE X σ H a (.int i)) (hb : CE X σ H b (.int j)) : CT X σ H (.Compare a [.LtE] [b] pos) (decide (i ≤ j)) := ct_cmp (fun _ => op_le) ha hb (nomark _) fun H1 _ _ _ ax ay Q q => rI0_ok ax ay (q H1 (Same.refl _))
theorem ct_gt (ha : CE X σ H a (.int i)) (hb : CE X σ H b (.int j)) : CT X σ H (.Compare a [.Gt] [b] pos) (decide (j < i)) := ct_cmp (fun _ => op_gt) ha hb (nomark _) fun H1 _ _ _ ax ay Q q => rI0_ok ax ay (q H1 (Same.refl _))
theorem ct_ge (ha : CE X σ H a (.int i)) (hb : CE X σ H b (.int j)) : CT X σ H (.Compare a [.GtE] [b] pos) (decide (j ≤ i)) := ct_cmp (fun _ => op_ge) ha hb (nomark _) fun H1 _ _ _ ax ay Q q => rI0_ok ax ay (q H1 (Same.refl _))
theorem ce_lt (ha : CE X σ H a (.int i)) (hb : CE X σ H b (.int j)) : CE X σ H (.Compare a [.Lt] [b] pos) (.bool (decide (i < j))) := ce_cmp (fun _ => op_lt) ha hb (nomark _) fun H1 _ _ _ ax ay Q q => rI0_ok ax ay (q _ H1 (Same.refl _) (.im (.bl _)))
theorem ce_gt (ha : CE X σ H a (.int i)) (hb : CE X σ H b (.int j)) : CE X σ H (.Compare a [.Gt] [b] pos) (.bool (decide (j < i))) := ce_cmp (fun _ => op_gt) ha hb (nomark _) fun H1 _ _ _ ax ay Q q => rI0_ok ax ay (q _ H1 (Same.refl _) (.im (.bl _)))
/-- scalars compared -/
def vOf : PyData → V
  | .none => .non
  | .bool b => .bl b
  | .int i => .int i
  | .str x => .str x
  | _ => .non
def flatD : PyData → Bool
  | .none => true
  | .bool _ => true
  | .int _ => true
  | .str _ => true
  | _ => false
theorem Ar.flat {H1 : Hp} {x : V} (h : Ar H1 x d) (f : flatD d = true) : x = vOf d := by
  cases h with
  | im h => cases h <;> first | rfl | cases f
  | lst _ _ => cases f
theorem ct_eqS (ha : CE X σ H a da) (hb : CE X σ H b db) (fa : flatD da = true := by rfl) (fb : flatD db = true := by rfl) (hs : scal (vOf da) (vOf db) = true := by rfl) : CT X σ H (.Compare a [.Eq] [b] pos) (decide (vOf da = vOf db)) :=
  ct_cmp (fun _ => op_eq) ha hb (nomark _) fun H1 x y _ ax ay Q q => by rw [ax.flat fa, ay.flat fb]; exact ⟨hs, q H1 (Same.refl _)⟩
theorem ct_neS (ha : CE X σ H a da) (hb : CE X σ H b db) (fa : flatD da = true := by rfl) (fb : flatD db = true := by rfl) (hs : scal (vOf da) (vOf db) = true := by rfl) : CT X σ H (.Compare a [.NotEq] [b] pos) (!decide (vOf da = vOf db)) :=
  ct_cmp (fun _ => op_ne) ha hb (nomark _) fun H1 x y _ ax ay Q q => by rw [ax.flat fa, ay.flat fb]; exact ⟨hs, q H1 (Same.refl _)⟩
theorem ce_eqS (ha : CE X σ H a da) (hb : CE X σ H b db) (fa : flatD da = true := by rfl) (fb : flatD db = true := by rfl) (hs : scal (vOf da) (vOf db) = true := by rfl) : CE X σ H (.Compare a [.Eq] [b] pos) (.bool (decide (vOf da = vOf db))) :=
  ce_cmp (fun _ => op_eq) ha hb (nomark _) fun H1 x y _ ax ay Q q => by rw [ax.flat fa, ay.flat fb]; exact ⟨hs, q _ H1 (Same.refl _) (.im (.bl _))⟩
theorem vInt {n m : Int} : decide (V.int n = V.int m) = decide (n = m) := by
  by_cases h : n = m
  · subst h; simp
  · rw [decide_eq_false h, decide_eq_false fun e => h (V.int.inj e)]
theorem ct_eqI (ha : CE X σ H a (.int i)) (hb : CE X σ H b (.int j)) : CT X σ H (.Compare a [.Eq] [b] pos) (decide (i = j)) := (ct_eqS ha hb).eq vInt
theorem ce_eqI (ha : CE X σ H a (.int i)) (hb : CE X σ H b (.int j)) : CE X σ H (.Compare a [.Eq] [b] pos) (.bool (decide (i = j))) := (ce_eqS ha hb).eq (congrArg PyData.bool vInt)
theorem ct_neI (ha : CE X σ H a (.int i)) (hb : CE X σ H b (.int j)) : CT X σ H (.Compare a [.NotEq] [b] pos) (!decide (i = j)) := (ct_neS ha hb).eq (congrArg (!·) vInt)
/-- nested data compared -/
def rEqA : R2 := fun x y H Q => ∃ d e, Ar H x d ∧ Ar H y e ∧ SeqAt.shaped d = true ∧ SeqAt.shaped e = true ∧ Q (.bl (PyData.eqv d e)) H
def rNeA : R2 := fun x y H Q => ∃ d e, Ar H x d ∧ Ar H y e ∧ SeqAt.shaped d = true ∧ SeqAt.shaped e = true ∧ Q (.bl (!PyData.eqv d e)) H
theorem op_eqA {X : Cx} (hu : X.A.units + 64 < cLine) : OpR X (compareOp .Eq) rEqA := fun pins s σ H x y v u Q I rx ry ⟨d, e, h1, h2, s1, s2, q⟩ => op_eqD hu pins s σ H x y v u Q I rx ry ⟨d, e, h1.dp, h2.dp, s1, s2, q⟩
theorem op_neA {X : Cx} (hu : X.A.units + 64 < cLine) : OpR X (compareOp .NotEq) rNeA := fun pins s σ H x y v u Q I rx ry ⟨d, e, h1, h2, s1, s2, q⟩ => op_neD hu pins s σ H x y v u Q I rx ry ⟨d, e, h1.dp, h2.dp, s1, s2, q⟩
theorem ct_eqD (hu : ∀ j, (X j).A.units + 64 < cLine) (ha : CE X σ H a da) (hb : CE X σ H b db) (fa : SeqAt.shaped da = true) (fb : SeqAt.shaped db = true) : CT X σ H (.Compare a [.Eq] [b] pos) (PyData.eqv da db) :=
  ct_cmp (fun j => op_eqA (hu j)) ha hb (nomark _) fun H1 x y _ ax ay Q q => ⟨da, db, ax, ay, fa, fb, q H1 (Same.refl _)⟩
theorem ce_eqD (hu : ∀ j, (X j).A.units + 64 < cLine) (ha : CE X σ H a da) (hb : CE X σ H b db) (fa : SeqAt.shaped da = true) (fb : SeqAt.shaped db = true) : CE X σ H (.Compare a [.Eq] [b] pos) (.bool (PyData.eqv da db)) :=
  ce_cmp (fun j => op_eqA (hu j)) ha hb (nomark _) fun H1 x y _ ax ay Q q => ⟨da, db, ax, ay, fa, fb, q _ H1 (Same.refl _) (.im (.bl _))⟩
theorem ct_neD (hu : ∀ j, (X j).A.units + 64 < cLine) (ha : CE X σ H a da) (hb : CE X σ H b db) (fa : SeqAt.shaped da = true) (fb : SeqAt.shaped db = true) : CT X σ H (.Compare a [.NotEq] [b] pos) (!PyData.eqv da db) :=
  ct_cmp (fun j => op_neA (hu j)) ha hb (nomark _) fun H1 x y _ ax ay Q q => ⟨da, db, ax, ay, fa, fb, q H1 (Same.refl _)⟩
/-- in, not in: an int among the ints of a list or tuple -/
def rInA (neg : Bool) : R2 := fun x y H Q => ∃ p xs, y = .ref p ∧ (H p = some (.lst xs) ∨ TupF H p xs) ∧ flatV x = true ∧ xs.all flatV = true ∧ Q (.bl (if neg then !inV x xs else inV x xs)) H
theorem op_inA {X : Cx} : OpR X (compareOp .In) (rInA false) := fun pins s σ H x y v u Q I rx ry ⟨p, xs, e, h, f, g, q⟩ => op_in_seq pins s σ H x y v u Q I rx ry ⟨p, xs, e, h.imp SqL.of TupF.sq, f, g, q⟩
theorem op_notInA {X : Cx} : OpR X (compareOp .NotIn) (rInA true) := fun pins s σ H x y v u Q I rx ry ⟨p, xs, e, h, f, g, q⟩ => op_notIn_seq pins s σ H x y v u Q I rx ry ⟨p, xs, e, h.imp SqL.of TupF.sq, f, g, q⟩
theorem flat_ints (l : List Int) : (l.map V.int).all flatV = true := by
  rw [List.all_map]
  exact List.all_eq_true.mpr fun _ _ => rfl
theorem inV_ints (i : Int) (l : List Int) : inV (.int i) (l.map V.int) = l.contains i := by
  unfold inV
  rw [List.any_map, List.contains_eq_any_beq]
  congr 1
  funext y
  show (y == i) = (i == y)
  exact Bool.eq_iff_iff.mpr ⟨fun h => beq_iff_eq.mpr (eq_of_beq h).symm, fun h => beq_iff_eq.mpr (eq_of_beq h).symm⟩
abbrev tI (l : List Int) : PyData := .tuple (l.map .int)
abbrev lI (l : List Int) : PyData := .list (l.map .int)
theorem Ar.tI {H1 : Hp} {x : V} {l : List Int} (h : Ar H1 x (tI l)) : ∃ p, x = .ref p ∧ TupF H1 p (l.map V.int) := by
  obtain ⟨p, xs, rfl, e, im⟩ := h.tupE
  exact ⟨p, rfl, by rw [← im.int_eq]; exact e⟩
theorem Ar.lI {H1 : Hp} {x : V} {l : List Int} (h : Ar H1 x (lI l)) : ∃ p, x = .ref p ∧ H1 p = some (.lst (l.map V.int)) := by
  obtain ⟨p, xs, rfl, e, im⟩ := h.lstE
  exact ⟨p, rfl, by rw [← im.int_eq]; exact e⟩
theorem ct_inT {l : List Int} (ha : CE X σ H a (.int i)) (hb : CE X σ H b (tI l)) (hm : behindInMarks .In b = false := by rfl) : CT X σ H (.Compare a [.In] [b] pos) (l.contains i) :=
  ct_cmp (fun _ => op_inA) ha hb hm fun H1 x y _ ax ay Q q => by
    obtain ⟨p, rfl, e⟩ := ay.tI
    rw [ax.int]
    refine ⟨p, _, rfl, .inr e, rfl, flat_ints l, ?_⟩
    rw [inV_ints]
    exact q H1 (Same.refl _)
theorem ct_notInT {l : List Int} (ha : CE X σ H a (.int i)) (hb : CE X σ H b (tI l)) (hm : behindInMarks .NotIn b = false := by rfl) : CT X σ H (.Compare a [.NotIn] [b] pos) (!l.contains i) :=
  ct_cmp (fun _ => op_notInA) ha hb hm fun H1 x y _ ax ay Q q => by
    obtain ⟨p, rfl, e⟩ := ay.tI
    rw [ax.int]
    refine ⟨p, _, rfl, .inr e, rfl, flat_ints l, ?_⟩
    rw [inV_ints]
    exact q H1 (Same.refl _)
/-- is None -/
def isN : PyData → Bool
  | .none => true
  | _ => false
theorem Ar.isN {H1 : Hp} {x : V} (h : Ar H1 x da) : decide (x = V.non) = isN da := by
  cases h with
  | im h => cases h <;> rfl
  | lst _ _ => rfl
theorem ce_isN (ha : CE X σ H a da) (hb : CE X σ H b .none) : CE X σ H (.Compare a [.Is] [b] pos) (.bool (isN da)) :=
  ce_cmp (fun _ => op_isN) ha hb (nomark _) fun H1 x y _ ax ay Q q => ⟨ay.non, by
    rw [ax.isN]
    exact q _ H1 (Same.refl _) (.im (.bl _))⟩
theorem ct_isN (ha : CE X σ H a da) (hb : CE X σ H b .none) : CT X σ H (.Compare a [.Is] [b] pos) (isN da) :=
  ct_cmp (fun _ => op_isN) ha hb (nomark _) fun H1 x y _ ax ay Q q => ⟨ay.non, by
    rw [ax.isN]
    exact q H1 (Same.refl _)⟩
/-- a bool as a test -/
theorem ct_val {k : Bool} (h : CE X σ H e (.bool k)) (he : ∀ j whole, isTrue e (X j).env whole = (do let v ← whole; standAt e.pos; holding [v] (truthy v)) := by intro _ _; rfl) : CT X σ H e k := by
  obtain ⟨te, p, r⟩ := h
  exact ⟨_, fun j => pt_val (p j) (he j), fun H1 s Q q => r H1 s _ fun v H2 s2 av => ⟨k, av.bl, q H2 s2⟩⟩
theorem ct_not {k : Bool} (h : CT X σ H e k) : CT X σ H (.UnaryOp .Not e pos) (!k) := by
  obtain ⟨te, p, r⟩ := h
  exact ⟨_, fun j => pt_not (p j), fun H1 s Q q => r H1 s _ fun H2 s2 => q H2 s2⟩
theorem cw_and1 {k : Bool} (h : CT X σ H a k) : CW X σ H (.BoolOp .And [a] pos) k := let ⟨t, p, r⟩ := h; ⟨t, fun j => pw_and1 (p j), r⟩
theorem cw_or1 {k : Bool} (h : CT X σ H a k) : CW X σ H (.BoolOp .Or [a] pos) k := let ⟨t, p, r⟩ := h; ⟨t, fun j => pw_or1 (p j), r⟩
/-- an and, an or: the second part is asked where it is reached; where it is not, any reading will do -/
theorem cw_and {rest : List Expr} {k l : Bool} (h : CT X σ H a k) (g : CW X σ H (.BoolOp .And (b :: rest) pos) l) : CW X σ H (.BoolOp .And (a :: b :: rest) pos) (k && l) := by
  obtain ⟨ta, pa, ra⟩ := h
  obtain ⟨tb, pb, rb⟩ := g
  refine ⟨_, fun j => pw_and (pa j) (pb j), fun H1 s Q q => ra H1 s _ fun H2 s2 => ?_⟩
  cases k with
  | true => exact rb H2 (s.trans s2) Q fun H3 s3 => q H3 (s2.trans s3)
  | false => exact q H2 s2
theorem cw_or {rest : List Expr} {k l : Bool} (h : CT X σ H a k) (g : CW X σ H (.BoolOp .Or (b :: rest) pos) l) : CW X σ H (.BoolOp .Or (a :: b :: rest) pos) (k || l) := by
  obtain ⟨ta, pa, ra⟩ := h
  obtain ⟨tb, pb, rb⟩ := g
  refine ⟨_, fun j => pw_or (pa j) (pb j), fun H1 s Q q => ra H1 s _ fun H2 s2 => ?_⟩
  cases k with
  | true => exact q H2 s2
  | false => exact rb H2 (s.trans s2) Q fun H3 s3 => q H3 (s2.trans s3)
theorem ce_one {op : BoolOp} (h : CE X σ H a d) : CE X σ H (.BoolOp op [a] pos) d := let ⟨t, p, r⟩ := h; ⟨t, fun j => pe_one (p j), r⟩
theorem ce_and {rest : List Expr} {k l : Bool} (h : CE X σ H a (.bool k)) (g : CE X σ H (.BoolOp .And (b :: rest) pos) (.bool l)) : CE X σ H (.BoolOp .And (a :: b :: rest) pos) (.bool (k && l)) := by
  obtain ⟨ta, pa, ra⟩ := h
  obtain ⟨tb, pb, rb⟩ := g
  refine ⟨_, fun j => pe_and (pa j) (pb j), fun H1 s Q q => ra H1 s _ fun v H2 s2 av => ⟨k, av.bl, ?_⟩⟩
  cases k with
  | true => exact rb H2 (s.trans s2) Q fun v H3 s3 a3 => q v H3 (s2.trans s3) a3
  | false => exact q _ H2 s2 (.im (.bl false))
theorem ce_or {rest : List Expr} {k l : Bool} (h : CE X σ H a (.bool k)) (g : CE X σ H (.BoolOp .Or (b :: rest) pos) (.bool l)) : CE X σ H (.BoolOp .Or (a :: b :: rest) pos) (.bool (k || l)) := by
  obtain ⟨ta, pa, ra⟩ := h
  obtain ⟨tb, pb, rb⟩ := g
  refine ⟨_, fun j => pe_or (pa j) (pb j), fun H1 s Q q => ra H1 s _ fun v H2 s2 av => ⟨k, av.bl, ?_⟩⟩
  cases k with
  | true => exact q _ H2 s2 (.im (.bl true))
  | false => exact rb H2 (s.trans s2) Q fun v H3 s3 a3 => q v H3 (s2.trans s3) a3
theorem ce_not {k : Bool} (h : CE X σ H a (.bool k)) : CE X σ H (.UnaryOp .Not a pos) (.bool (!k)) := by
  obtain ⟨te, p, r⟩ := h
  exact ⟨_, fun j => pe_not (p j), fun H1 s Q q => r H1 s _ fun v H2 s2 av => ⟨k, av.bl, q _ H2 s2 (.im (.bl _))⟩⟩
/-- a chain of two comparisons of ints by <= -/
theorem ce_chainLe {k : Int} (ha : CE X σ H a (.int i)) (hb : CE X σ H b (.int j)) (hc : CE X σ H c (.int k)) (hm : lastMarks [.LtE, .LtE] [b, c] = false := by with_unfolding_all rfl) : CE X σ H (.Compare a [.LtE, .LtE] [b, c] pos) (.bool (decide (i ≤ j ∧ j ≤ k))) := by
  obtain ⟨ta, pa, qa⟩ := ha
  obtain ⟨tb, pb, qb⟩ := hb
  obtain ⟨tc, pc, qc⟩ := hc
  refine ⟨_, fun j => pe_chain op_le op_le (pa j) (pb j) (pc j) hm, fun H1 s Q q => ?_⟩
  refine qa H1 s _ fun x H2 s2 ax => ?_
  refine qb H2 (s.trans s2) _ fun y H3 s3 ay => ?_
  refine rI0_ok (ax.mono s3) ay ⟨_, rfl, ?_⟩
  refine ite2 (fun h => ?_) (fun h => ?_)
  · refine qc H3 ((s.trans s2).trans s3) _ fun z H4 s4 az => ?_
    refine rI0_ok (ay.mono s4) az ?_
    have e : decide (j ≤ k) = decide (i ≤ j ∧ j ≤ k) := by
      have h1 : i ≤ j := of_decide_eq_true h
      by_cases h2 : j ≤ k
      · rw [decide_eq_true h2, decide_eq_true ⟨h1, h2⟩]
      · rw [decide_eq_false h2, decide_eq_false fun z => h2 z.2]
    rw [e]
    exact q _ H4 ((s2.trans s3).trans s4) (.im (.bl _))
  · have h1 : ¬ i ≤ j := of_decide_eq_false (Bool.eq_false_iff.mpr h)
    have e : decide (i ≤ j ∧ j ≤ k) = false := decide_eq_false fun z => h1 z.1
    rw [e] at q
    exact q _ H3 (s2.trans s3) (.im (.bl _))
/-- a if t else b -/
theorem ce_if {t : Expr} {k : Bool} (h : CT X σ H t k) (ha : CE X σ H a da) (hb : CE X σ H b db) : CE X σ H (.IfExp t a b pos) (if k = true then da else db) := by
  obtain ⟨tt, pt, qt⟩ := h
  obtain ⟨ta, pa, qa⟩ := ha
  obtain ⟨tb, pb, qb⟩ := hb
  refine ⟨_, fun j => pe_ifExp (pt j) (pa j) (pb j), fun H1 s Q q => ?_⟩
  refine qt H1 s _ fun H2 s2 => ?_
  cases k with
  | true => exact qa H2 (s.trans s2) Q fun v H3 s3 a3 => q v H3 (s2.trans s3) a3
  | false => exact qb H2 (s.trans s2) Q fun v H3 s3 a3 => q v H3 (s2.trans s3) a3

/-! ### arguments, displays, items -/
theorem ca_nil : CA X σ H [] [] := ⟨_, fun _ => pa_nil, fun H1 s Q q => q [] H1 (Same.refl _) .nil⟩
theorem ca_cons {es : List Expr} {ds : List PyData} (h : CE X σ H e d) (g : CA X σ H es ds) (hs : ∀ j, starEach (e :: es) (X j).env = (false, eval e (X j).env) :: starEach es (X j).env := by intro _; rfl) : CA X σ H (e :: es) (d :: ds) := by
  obtain ⟨te, p, r⟩ := h
  obtain ⟨ta, pa, ra⟩ := g
  refine ⟨_, fun j => pa_cons (p j) (pa j) (hs j), fun H1 s Q q => ?_⟩
  refine r H1 s _ fun v H2 s2 av => ?_
  exact ra H2 (s.trans s2) _ fun vs H3 s3 as => q _ H3 (s2.trans s3) (.cons (av.mono s3) as)
/-- a display of a tuple -/
def tTupF (t : TA) : TE := fun σ H Q => t σ H fun xs H1 => xs.length ≤ sizeLine ∧ ∀ (p : Addr) (o : Obj), H1 p = Option.none → o.dict = Option.none → Q (.ref p) (upd H1 p (.frz o (.tup xs)))
theorem pe_tupF {X : Cx} {es : List Expr} {t : TA} {x1 : Nat} {pos : Pos} (h : PA X es t) : PE X (.Tuple es x1 pos) (tTupF t) := by
  refine ⟨fun pins s σ H Q I hq => ?_⟩
  refine wpAny_Tuple_spliced (thn (h.run pos pins s σ H _ I hq) fun us s1 ⟨xs, H1, I1, r, z, q⟩ => ⟨by rw [← r.length]; exact z, ?_⟩)
  have hf : H1 s1.heap.objs.size = Option.none := I1.hok.fresh (Nat.le_refl _)
  refine ⟨.ref s1.heap.objs.size, upd H1 s1.heap.objs.size (.frz { cls := .type "tuple", data := .seq us.toArray } (.tup xs)), I1.laid (t' := s1.toks) (fun b u e => Heap.get?_push_of_some _ e) (Nat.le_refl _) ?_, rfl, q _ _ hf rfl⟩
  exact ⟨Heap.get?_push_size _ rfl, z, us, r, ⟨_, Heap.get?_push_size _ rfl, rfl, _, rfl⟩⟩
theorem ce_tup {es : List Expr} {ds : List PyData} {k : Nat} (h : CA X σ H es ds) (n : ds.all notL = true := by rfl) (hl : ds.length ≤ sizeLine := by first | decide | (simp only [List.length_cons, List.length_nil]; decide)) : CE X σ H (.Tuple es k pos) (.tuple ds) := by
  obtain ⟨ta, pa, ra⟩ := h
  refine ⟨_, fun j => pe_tupF (pa j), fun H1 s Q q => ra H1 s _ fun vs H2 s2 as => ⟨by rw [as.len]; exact hl, fun p o hp ho => ?_⟩⟩
  exact q _ _ (s2.trans (same_new hp _)) (.im (.tup (.new ho) ((as.toIm n).mono (ts_of (same_new hp _)))))
theorem cn_lst {es : List Expr} {ds : List PyData} (h : CA X σ H es ds) (n : ds.all notL = true := by rfl) (hl : ds.length ≤ sizeLine := by first | decide | (simp only [List.length_cons, List.length_nil]; decide)) : CN X σ H (.List es pos) ds := by
  obtain ⟨ta, pa, ra⟩ := h
  refine ⟨_, fun j => pe_lst (pa j), fun H1 s Q q => ra H1 s _ fun vs H2 s2 as => ⟨by rw [as.len]; exact hl, fun p hp => ?_⟩⟩
  exact q p vs _ (s2.free hp) (s2.trans (same_new hp _)) upd_same ((as.toIm n).mono (ts_of (same_new hp _)))
/-- a subscript of a tuple or list of ours -/
def rIxA : R2 := fun x y H Q => ∃ p xs i v, x = .ref p ∧ y = .int i ∧ (H p = some (.lst xs) ∨ TupF H p xs) ∧ atI xs i = some v ∧ Q v H
theorem ix_A {X : Cx} : IxR X rIxA := fun value slice pins s σ H x y v u Q I rx ry ⟨p, xs, i, w, e1, e2, h, ha, q⟩ hs => by
  rcases h with h | h
  · exact ix_list value slice pins s σ H x y v u Q I rx ry ⟨p, xs, i, w, e1, e2, SqL.of h, ha, q⟩ hs
  · exact ix_tup value slice pins s σ H x y v u Q I rx ry ⟨p, xs, i, w, e1, e2, h.sq, ha, q⟩ hs
theorem ce_ixT {ds : List PyData} {k : Nat} (ha : CE X σ H a (.tuple ds)) (hb : CE X σ H b (.int (k : Int))) (hk : ds[k]? = some d) (hp : PlainIx b := by intro _ _; rfl) : CE X σ H (.Subscript a b pos) d := by
  obtain ⟨ta, pa, qa⟩ := ha
  obtain ⟨tb, pb, qb⟩ := hb
  refine ⟨_, fun j => pe_ix ix_A (pa j) (pb j) hp, fun H1 s Q q => ?_⟩
  refine qa H1 s _ fun x H2 s2 ax => ?_
  refine qb H2 (s.trans s2) _ fun y H3 s3 ay => ?_
  obtain ⟨p, xs, rfl, e, im⟩ := (ax.mono s3).tupE
  obtain ⟨v, hv, iv⟩ := im.get hk
  exact ⟨p, xs, _, v, rfl, ay.int, .inr e, atI_nat hv, q v H3 (s2.trans s3) (.im iv)⟩
theorem ce_ixL {ds : List PyData} {k : Nat} (ha : CE X σ H a (.list ds)) (hb : CE X σ H b (.int (k : Int))) (hk : ds[k]? = some d) (hp : PlainIx b := by intro _ _; rfl) : CE X σ H (.Subscript a b pos) d := by
  obtain ⟨ta, pa, qa⟩ := ha
  obtain ⟨tb, pb, qb⟩ := hb
  refine ⟨_, fun j => pe_ix ix_A (pa j) (pb j) hp, fun H1 s Q q => ?_⟩
  refine qa H1 s _ fun x H2 s2 ax => ?_
  refine qb H2 (s.trans s2) _ fun y H3 s3 ay => ?_
  obtain ⟨p, xs, rfl, e, im⟩ := (ax.mono s3).lstE
  obtain ⟨v, hv, iv⟩ := im.get hk
  exact ⟨p, xs, _, v, rfl, ay.int, .inl e, atI_nat hv, q v H3 (s2.trans s3) (.im iv)⟩
/-- an item of a tuple of ints -/
theorem ce_ixI {l : List Int} {k : Nat} (ha : CE X σ H a (tI l)) (hb : CE X σ H b (.int (k : Int))) (hk : k < l.length) (hp : PlainIx b := by intro _ _; rfl) : CE X σ H (.Subscript a b pos) (.int (l.getD k 0)) :=
  ce_ixT ha hb (by rw [List.getElem?_map, List.getD_eq_getElem?_getD, List.getElem?_eq_getElem hk]; rfl) hp

/-! ### calls of built-ins -/
theorem ce_callB {x : Str} {p : Pos} {es : List Expr} {id : String} {r : List V → Hp → VK → Prop} {ds : List PyData} (hc : ∀ j, CallR (X j) (.builtin id) r) (hm : ∀ j, (X j).mg x = none) (hv : bootBuiltins x = some (.builtin id)) (ha : CA X σ H (e :: es) ds)
    (hr : ∀ H1 vs, Same H H1 → ArAll H1 vs ds → ∀ Q : VK, (∀ v H2, Same H1 H2 → Ar H2 v d → Q v H2) → r vs H1 Q) (hg : ∀ j, Gl (X j) x := by intro _; rfl) (hn : x ≠ "__name__" := by decide) (hdb : (x == ("__debug__" : Str)) = false := by decide)
    (he : ∀ j, starEach (e :: es) (X j).env = (false, eval e (X j).env) :: starEach es (X j).env := by intro _; rfl) (hpl : ∀ j, (backTo pos (starEach es (X j).env)).any (·.1) = false := by intro _; rfl) : CE X σ H (.Call (.Name x p) (e :: es) [] pos) d := by
  obtain ⟨ta, pa, ra⟩ := ha
  refine ⟨_, fun j => pe_callB (hc j) (hg j) (hm j) hv (pa j) hn hdb (he j) (hpl j), fun H1 s Q q => ?_⟩
  refine ra H1 s _ fun vs H2 s2 as => ?_
  exact hr H2 vs (s.trans s2) as Q fun v H3 s3 av => q v H3 (s2.trans s3) av
theorem ce_callTy {x : Str} {p : Pos} {es : List Expr} {T : String} {r : List V → Hp → VK → Prop} {ds : List PyData} (hc : ∀ j, CallR (X j) (.type T) r) (hm : ∀ j, (X j).mg x = none) (hv : bootBuiltins x = some (.type T)) (ha : CA X σ H (e :: es) ds)
    (hr : ∀ H1 vs, Same H H1 → ArAll H1 vs ds → ∀ Q : VK, (∀ v H2, Same H1 H2 → Ar H2 v d → Q v H2) → r vs H1 Q) (hg : ∀ j, Gl (X j) x := by intro _; rfl) (hn : x ≠ "__name__" := by decide) (hdb : (x == ("__debug__" : Str)) = false := by decide)
    (he : ∀ j, starEach (e :: es) (X j).env = (false, eval e (X j).env) :: starEach es (X j).env := by intro _; rfl) (hpl : ∀ j, (backTo pos (starEach es (X j).env)).any (·.1) = false := by intro _; rfl) : CE X σ H (.Call (.Name x p) (e :: es) [] pos) d := by
  obtain ⟨ta, pa, ra⟩ := ha
  refine ⟨_, fun j => pe_callTy (hc j) (hg j) (hm j) hv (pa j) hn hdb (he j) (hpl j), fun H1 s Q q => ?_⟩
  refine ra H1 s _ fun vs H2 s2 as => ?_
  exact hr H2 vs (s.trans s2) as Q fun v H3 s3 av => q v H3 (s2.trans s3) av
theorem ArAll.one {H1 : Hp} {vs : List V} (h : ArAll H1 vs [d]) : ∃ v, vs = [v] ∧ Ar H1 v d := by
  cases h with
  | cons h t => cases t; exact ⟨_, rfl, h⟩
theorem ArAll.two {H1 : Hp} {vs : List V} (h : ArAll H1 vs [da, db]) : ∃ v w, vs = [v, w] ∧ Ar H1 v da ∧ Ar H1 w db := by
  cases h with
  | cons h t =>
    obtain ⟨w, rfl, g⟩ := ArAll.one t
    exact ⟨_, w, rfl, h, g⟩
def rLenA : List V → Hp → VK → Prop := fun xs H Q => ∃ p ys, xs = [.ref p] ∧ (H p = some (.lst ys) ∨ TupF H p ys) ∧ Q (.int ys.length) H
theorem call_lenA {X : Cx} : CallR X (.builtin "len") rLenA := fun pins s σ H xs us Q I r ⟨p, ys, e, h, q⟩ => call_len_seq pins s σ H xs us Q I r ⟨p, ys, e, h.imp SqL.of TupF.sq, q⟩
theorem ce_lenT {p q : Pos} {ds : List PyData} (hm : ∀ j, (X j).mg "len" = none) (ha : CE X σ H a (.tuple ds)) (hg : ∀ j, Gl (X j) "len" := by intro _; rfl) (hs : ∀ j, starEach [a] (X j).env = (false, eval a (X j).env) :: starEach [] (X j).env := by intro _; rfl) :
    CE X σ H (.Call (.Name "len" p) [a] [] q) (.int (ds.length : Nat)) :=
  ce_callB (fun _ => call_lenA) hm PySem.boot_len (ca_cons ha ca_nil hs) (fun H1 vs _ as Q k => by
    obtain ⟨v, rfl, av⟩ := as.one
    obtain ⟨p, xs, rfl, e, im⟩ := av.tupE
    refine ⟨p, xs, rfl, .inr e, ?_⟩
    rw [im.len]
    exact k _ H1 (Same.refl _) (.im (.int _))) hg (by decide) (by decide) hs
theorem ce_lenL {p q : Pos} {ds : List PyData} (hm : ∀ j, (X j).mg "len" = none) (ha : CE X σ H a (.list ds)) (hg : ∀ j, Gl (X j) "len" := by intro _; rfl) (hs : ∀ j, starEach [a] (X j).env = (false, eval a (X j).env) :: starEach [] (X j).env := by intro _; rfl) :
    CE X σ H (.Call (.Name "len" p) [a] [] q) (.int (ds.length : Nat)) :=
  ce_callB (fun _ => call_lenA) hm PySem.boot_len (ca_cons ha ca_nil hs) (fun H1 vs _ as Q k => by
    obtain ⟨v, rfl, av⟩ := as.one
    obtain ⟨p, xs, rfl, e, im⟩ := av.lstE
    refine ⟨p, xs, rfl, .inl e, ?_⟩
    rw [im.len]
    exact k _ H1 (Same.refl _) (.im (.int _))) hg (by decide) (by decide) hs
/-- tuple(a list) -/
def rTupA : List V → Hp → VK → Prop := fun xs H Q => ∃ p ys, xs = [.ref p] ∧ H p = some (.lst ys) ∧ ∀ (l : Addr) (o : Obj), H l = Option.none → o.dict = Option.none → Q (.ref l) (upd H l (.frz o (.tup ys)))
theorem call_tupA {X : Cx} : CallR X (.type "tuple") rTupA := by
  intro pins s σ H xs us Q I r h
  obtain ⟨p, ys, rfl, hq, q⟩ := h
  obtain ⟨u, rfl, rx⟩ := vals1 r
  cases rx
  obtain ⟨its, r', pl, hz⟩ := I.list (SqL.of hq)
  have hlen := r'.length
  refine call_tuple_list pl.isList (fun h' kp => ?_) (by simp only [List.size_toArray] <;> omega)
  have I1 : Inv X pins σ H { s with heap := h' } := I.kept (t' := s.toks) kp
  have I2 : Inv X pins σ (upd H h'.objs.size (.frz { cls := .type "tuple", data := .seq its.toArray } (.tup ys))) { s with heap := h'.push { cls := .type "tuple", data := .seq its.toArray } } :=
    I1.laid (t' := s.toks) (fun b o e => Heap.get?_push_of_some _ e) (Nat.le_refl _) (show ObjOk X.prog X.w _ _ _ (.frz _ (.tup ys)) from ⟨Heap.get?_push_size _ rfl, hz, its, r', ⟨_, Heap.get?_push_size _ rfl, rfl, _, rfl⟩⟩)
  exact ⟨.ref h'.objs.size, _, I2, rfl, q _ _ (I1.hok.fresh (Nat.le_refl _)) rfl⟩
theorem boot_tuple : bootBuiltins "tuple" = some (.type "tuple") := by decide +kernel
theorem ce_tupleL {p q : Pos} {ds : List PyData} (hm : ∀ j, (X j).mg "tuple" = none) (ha : CE X σ H a (.list ds)) (hg : ∀ j, Gl (X j) "tuple" := by intro _; rfl) (hs : ∀ j, starEach [a] (X j).env = (false, eval a (X j).env) :: starEach [] (X j).env := by intro _; rfl) :
    CE X σ H (.Call (.Name "tuple" p) [a] [] q) (.tuple ds) :=
  ce_callTy (fun _ => call_tupA) hm boot_tuple (ca_cons ha ca_nil hs) (fun H1 vs _ as Q k => by
    obtain ⟨v, rfl, av⟩ := as.one
    obtain ⟨p, xs, rfl, e, im⟩ := av.lstE
    exact ⟨p, xs, rfl, e, fun l o hl ho => k _ _ (same_new hl _) (.im (.tup (.new ho) (im.mono (ts_of (same_new hl _)))))⟩) hg (by decide) (by decide) hs
/-- int(an int) -/
theorem boot_int1 : bootBuiltins "int" = some (.type "int") := by decide +kernel
theorem ce_intI {p q : Pos} (hm : ∀ j, (X j).mg "int" = none) (ha : CE X σ H a (.int i)) (hg : ∀ j, Gl (X j) "int" := by intro _; rfl) (hs : ∀ j, starEach [a] (X j).env = (false, eval a (X j).env) :: starEach [] (X j).env := by intro _; rfl) :
    CE X σ H (.Call (.Name "int" p) [a] [] q) (.int i) :=
  ce_callTy (fun _ => call_int1) hm boot_int1 (ca_cons ha ca_nil hs) (fun H1 vs _ as Q k => by
    obtain ⟨v, rfl, av⟩ := as.one
    exact .inl ⟨i, by rw [av.int], k _ H1 (Same.refl _) (.im (.int _))⟩) hg (by decide) (by decide) hs
/-- isinstance against a built-in class -/
def tyD : PyData → String
  | .none => "NoneType"
  | .bool _ => "bool"
  | .int _ => "int"
  | .str _ => "str"
  | .list _ => "list"
  | .tuple _ => "tuple"
  | .dict _ => "dict"
theorem Ar.ty {K : PySem.W.Frag} {H1 : Hp} {x : V} (h : Ar H1 x d) : TyX K H1 x (.type (tyD d)) := by
  cases h with
  | im h =>
    cases h with
    | non => exact .base .non
    | bl b => exact .base (.bl b)
    | int i => exact .base (.int i)
    | str x => exact .base (.str x)
    | tup e _ => obtain ⟨o, e, _⟩ := e; exact .fTuple e
  | lst e _ => exact .base (.lst e)
theorem boot_isi : bootBuiltins "isinstance" = some (.builtin "isinstance") := by decide +kernel
def rIsiA : List V → Hp → VK → Prop := fun xs H Q => ∃ (x : V) (T : String) (d : PyData) (b : Bool), xs = [x, .ty T] ∧ Ar H x d ∧ kitB (tyD d) T = some b ∧ Q (.bl b) H
theorem call_isiA {X : Cx} : CallR X (.builtin "isinstance") rIsiA := fun pins s σ H xs us Q I r ⟨x, T, d, b, e, h, k, q⟩ => call_isi pins s σ H xs us Q I r ⟨x, .ty T, _, _, b, e, .ty T, h.ty, kit_ty k, q⟩
def rIsiA2 : List V → Hp → VK → Prop := fun xs H Q => ∃ (x : V) (tp : Addr) (T U : String) (d : PyData) (b c : Bool), xs = [x, .ref tp] ∧ H tp = some (.tup [.ty T, .ty U]) ∧ Ar H x d ∧ kitB (tyD d) T = some b ∧ kitB (tyD d) U = some c ∧ Q (.bl (b || c)) H
theorem call_isiA2 {X : Cx} : CallR X (.builtin "isinstance") rIsiA2 := fun pins s σ H xs us Q I r ⟨x, tp, T, U, d, b, c, e, hT, h, k1, k2, q⟩ =>
  call_isiT pins s σ H xs us Q I r ⟨x, tp, _, _, [.type T, .type U], b || c, e, hT, .cons (.ty T) (.cons (.ty U) .nil), h.ty, by
    refine kitAny_cons (kit_ty k1) (fun hb => ?_) fun hb => by rw [hb]; rfl
    rw [hb]
    refine kitAny_cons (kit_ty k2) (fun hc => ?_) fun hc => by rw [hc]; rfl
    rw [hc]
    rfl, q⟩
theorem ce_isi {p q p2 : Pos} {x : Str} {T : String} {k : Bool} (hm : ∀ j, (X j).mg "isinstance" = none) (hT : ∀ j, (X j).mg x = none) (hv : bootBuiltins x = some (.type T)) (ha : CE X σ H a da) (hk : kitB (tyD da) T = some k)
    (hg : ∀ j, Gl (X j) "isinstance" := by intro _; rfl) (hgT : ∀ j, Gl (X j) x := by intro _; rfl) (hn : x ≠ "__name__" := by decide) (hdb : (x == ("__debug__" : Str)) = false := by decide)
    (hs : ∀ j, starEach [a, .Name x p2] (X j).env = (false, eval a (X j).env) :: starEach [.Name x p2] (X j).env := by intro _; rfl) (hs2 : ∀ j, starEach [.Name x p2] (X j).env = (false, eval (.Name x p2) (X j).env) :: starEach [] (X j).env := by intro _; rfl)
    (hpl : ∀ j, (backTo q (starEach [.Name x p2] (X j).env)).any (·.1) = false := by intro _; rfl) : CE X σ H (.Call (.Name "isinstance" p) [a, .Name x p2] [] q) (.bool k) := by
  obtain ⟨ta, pa, ra⟩ := ha
  refine ⟨_, fun j => pe_callB call_isiA (hg j) (hm j) boot_isi (pa_cons (pa j) (pa_cons (pe_bltn (v := .ty T) (hgT j) (hT j) hv rfl hn hdb) pa_nil (hs2 j)) (hs j)) (by decide) (by decide) (hs j) (hpl j), fun H1 s Q q => ?_⟩
  exact ra H1 s _ fun v H2 s2 av => ⟨v, T, da, k, rfl, av, hk, q _ H2 s2 (.im (.bl k))⟩
theorem ce_isi2 {p q p2 p3 p4 : Pos} {x y : Str} {T U : String} {k l : Bool} {kk : Nat} (hm : ∀ j, (X j).mg "isinstance" = none) (hT : ∀ j, (X j).mg x = none) (hU : ∀ j, (X j).mg y = none) (hv : bootBuiltins x = some (.type T)) (hw : bootBuiltins y = some (.type U)) (ha : CE X σ H a da) (hk : kitB (tyD da) T = some k) (hl : kitB (tyD da) U = some l)
    (hg : ∀ j, Gl (X j) "isinstance" := by intro _; rfl) (hgT : ∀ j, Gl (X j) x := by intro _; rfl) (hgU : ∀ j, Gl (X j) y := by intro _; rfl) (hn : x ≠ "__name__" := by decide) (hdb : (x == ("__debug__" : Str)) = false := by decide) (hn' : y ≠ "__name__" := by decide) (hdb' : (y == ("__debug__" : Str)) = false := by decide)
    (hs : ∀ j, starEach [a, .Tuple [.Name x p2, .Name y p3] kk p4] (X j).env = (false, eval a (X j).env) :: starEach [.Tuple [.Name x p2, .Name y p3] kk p4] (X j).env := by intro _; rfl)
    (hs2 : ∀ j, starEach [.Tuple [.Name x p2, .Name y p3] kk p4] (X j).env = (false, eval (.Tuple [.Name x p2, .Name y p3] kk p4) (X j).env) :: starEach [] (X j).env := by intro _; rfl)
    (hs3 : ∀ j, starEach [.Name x p2, .Name y p3] (X j).env = (false, eval (.Name x p2) (X j).env) :: starEach [.Name y p3] (X j).env := by intro _; rfl) (hs4 : ∀ j, starEach [.Name y p3] (X j).env = (false, eval (.Name y p3) (X j).env) :: starEach [] (X j).env := by intro _; rfl)
    (hpl : ∀ j, (backTo q (starEach [.Tuple [.Name x p2, .Name y p3] kk p4] (X j).env)).any (·.1) = false := by intro _; rfl) : CE X σ H (.Call (.Name "isinstance" p) [a, .Tuple [.Name x p2, .Name y p3] kk p4] [] q) (.bool (k || l)) := by
  obtain ⟨ta, pa, ra⟩ := ha
  refine ⟨_, fun j => pe_callB call_isiA2 (hg j) (hm j) boot_isi (pa_cons (pa j) (pa_cons (pe_tup (pa_cons (pe_bltn (v := .ty T) (hgT j) (hT j) hv rfl hn hdb) (pa_cons (pe_bltn (v := .ty U) (hgU j) (hU j) hw rfl hn' hdb') pa_nil (hs4 j)) (hs3 j))) pa_nil (hs2 j)) (hs j)) (by decide) (by decide) (hs j) (hpl j), fun H1 s Q q => ?_⟩
  refine ra H1 s _ fun v H2 s2 av => ⟨(by show 2 ≤ sizeLine; decide), fun t ht => ?_⟩
  exact ⟨v, t, T, U, da, k, l, rfl, upd_same, av.mono (same_new ht _), hk, hl, q _ _ (s2.trans (same_new ht _)) (.im (.bl _))⟩

/-- all(a list of bools), sum(a list of ints) -/
def rAllA : List V → Hp → VK → Prop := fun vs H Q => ∃ (a : Addr) (bs : List Bool), vs = [V.ref a] ∧ H a = some (.lst (bs.map V.bl)) ∧ Q (.bl (bs.all id)) H
theorem call_allA {X : Cx} (hc : X.calm = true) : CallR X (.builtin "all") rAllA := fun pins s σ H xs us Q I r ⟨a, bs, e, h, q⟩ => cr_all hc pins s σ H xs us Q I r ⟨a, bs, e, SqL.of h, q⟩
def rSumA : List V → Hp → VK → Prop := fun vs H Q => ∃ (a : Addr) (ns : List Int), vs = [V.ref a] ∧ H a = some (.lst (ns.map V.int)) ∧ Q (.int ns.sum) H
theorem call_sumA {X : Cx} (hc : X.calm = true) : CallR X (.builtin "sum") rSumA := fun pins s σ H xs us Q I r ⟨a, bs, e, h, q⟩ => cr_sum hc pins s σ H xs us Q I r ⟨a, bs, e, SqL.of h, q⟩
theorem boot_all1 : bootBuiltins "all" = some (.builtin "all") := by decide +kernel
theorem boot_sum1 : bootBuiltins "sum" = some (.builtin "sum") := by decide +kernel
theorem boot_abs1 : bootBuiltins "abs" = some (.builtin "abs") := by decide +kernel
theorem ce_all {p q : Pos} {bs : List Bool} (hm : ∀ j, (X j).mg "all" = none) (ha : CE X σ H a (.list (bs.map .bool))) (hc : ∀ j, (X j).calm = true := by intro _; rfl) (hg : ∀ j, Gl (X j) "all" := by intro _; rfl) (hs : ∀ j, starEach [a] (X j).env = (false, eval a (X j).env) :: starEach [] (X j).env := by intro _; rfl) :
    CE X σ H (.Call (.Name "all" p) [a] [] q) (.bool (bs.all id)) :=
  ce_callB (fun j => call_allA (hc j)) hm boot_all1 (ca_cons ha ca_nil hs) (fun H1 vs _ as Q k => by
    obtain ⟨v, rfl, av⟩ := as.one
    obtain ⟨p, xs, rfl, e, im⟩ := av.lstE
    exact ⟨p, bs, rfl, by rw [← im.bl_eq]; exact e, k _ H1 (Same.refl _) (.im (.bl _))⟩) hg (by decide) (by decide) hs
theorem ce_sum {p q : Pos} {ns : List Int} (hm : ∀ j, (X j).mg "sum" = none) (ha : CE X σ H a (lI ns)) (hc : ∀ j, (X j).calm = true := by intro _; rfl) (hg : ∀ j, Gl (X j) "sum" := by intro _; rfl) (hs : ∀ j, starEach [a] (X j).env = (false, eval a (X j).env) :: starEach [] (X j).env := by intro _; rfl) :
    CE X σ H (.Call (.Name "sum" p) [a] [] q) (.int ns.sum) :=
  ce_callB (fun j => call_sumA (hc j)) hm boot_sum1 (ca_cons ha ca_nil hs) (fun H1 vs _ as Q k => by
    obtain ⟨v, rfl, av⟩ := as.one
    obtain ⟨p, rfl, e⟩ := av.lI
    exact ⟨p, ns, rfl, e, k _ H1 (Same.refl _) (.im (.int _))⟩) hg (by decide) (by decide) hs
theorem ce_abs {p q : Pos} (hm : ∀ j, (X j).mg "abs" = none) (ha : CE X σ H a (.int i)) (hg : ∀ j, Gl (X j) "abs" := by intro _; rfl) (hs : ∀ j, starEach [a] (X j).env = (false, eval a (X j).env) :: starEach [] (X j).env := by intro _; rfl) :
    CE X σ H (.Call (.Name "abs" p) [a] [] q) (.int (if i < 0 then -i else i)) :=
  ce_callB (fun j => call_abs) hm boot_abs1 (ca_cons ha ca_nil hs) (fun H1 vs _ as Q k => by
    obtain ⟨v, rfl, av⟩ := as.one
    exact ⟨i, by rw [av.int], k _ H1 (Same.refl _) (.im (.int _))⟩) hg (by decide) (by decide) hs
/-- gcd(a, b), the module's name for math.gcd -/
theorem ce_gcd {p q : Pos} (hm : ∀ j, (X j).mg "gcd" = some (.builtin "math.gcd")) (ha : CE X σ H a (.int i)) (hb : CE X σ H b (.int j)) (hg : ∀ j, Gl (X j) "gcd" := by intro _; rfl)
    (hs : ∀ j, starEach [a, b] (X j).env = (false, eval a (X j).env) :: starEach [b] (X j).env := by intro _; rfl) (hs2 : ∀ j, starEach [b] (X j).env = (false, eval b (X j).env) :: starEach [] (X j).env := by intro _; rfl)
    (hpl : ∀ j, (backTo q (starEach [b] (X j).env)).any (·.1) = false := by intro _; rfl) : CE X σ H (.Call (.Name "gcd" p) [a, b] [] q) (.int ((Nat.gcd i.natAbs j.natAbs : Nat) : Int)) := by
  obtain ⟨ta, pa, ra⟩ := ca_cons ha (ca_cons hb ca_nil hs2) hs
  refine ⟨_, fun j => pe_callBfun cr_gcd (hg j) (hm j) (pa j) (by decide) (hs j) (hpl j), fun H1 s Q q => ?_⟩
  refine ra H1 s _ fun vs H2 s2 as => ?_
  obtain ⟨v, w, rfl, av, aw⟩ := as.two
  exact ⟨i, j, by rw [av.int, aw.int], q _ H2 s2 (.im (.int _))⟩
/-- n.bit_length() -/
theorem ce_bits {apos : Pos} (ha : CE X σ H a (.int i)) (hbase : ∀ j, attributeBase a "bit_length" (X j).env (eval a (X j).env) = eval a (X j).env := by intro _; rfl) (hline : (apos.endLine == pos.line) = true := by rfl) : CE X σ H (.Call (.Attribute a "bit_length" apos) [] [] pos) (.int (Builtin.Int.intBits i : Nat)) := by
  obtain ⟨ta, pa, ra⟩ := ha
  exact ⟨_, fun j => pe_bits (pa j) (hbase j) hline, fun H1 s Q q => ra H1 s _ fun v H2 s2 av => ⟨i, av.int, q _ H2 s2 (.im (.int _))⟩⟩
theorem intsEq : ∀ {l : List Int} {us : List Value}, Vals (l.map V.int) us → PyProof.Rows.IntsAre us l
  | [], _, .nil => .nil
  | n :: ns, _, .cons r t => by
    obtain ⟨k, rfl⟩ := r
    exact .cons n k (intsEq t)
/-- t.index(n), n there -/
def tIdx (to te : TE) : TE := fun σ H Q => to σ H fun x H1 => ∃ (p : Addr) (l : List Int), x = .ref p ∧ TupF H1 p (l.map V.int) ∧ te σ H1 fun y H2 => ∃ k : Int, y = .int k ∧ k ∈ l ∧ TupF H2 p (l.map V.int) ∧ Q (.int (l.idxOf k : Nat)) H2
theorem pe_idx {X : Cx} {to te : TE} {o e : Expr} {apos pos : Pos} (ho : PE X o to) (he : PE X e te) (hs : starEach [e] X.env = [(false, eval e X.env)] := by rfl) (hbase : attributeBase o "index" X.env (eval o X.env) = eval o X.env := by rfl) (hline : (apos.endLine == pos.line) = true := by rfl) :
    PE X (.Call (.Attribute o "index" apos) [e] [] pos) (tIdx to te) := by
  refine ⟨fun pins s σ H Q I h => ?_⟩
  refine PySem.Call_method1 hbase hs hline (thn (ho.run pins s σ H _ I h) fun v s1 ⟨x, H1, I1, r1, q1⟩ => ?_)
  obtain ⟨p, l, rfl, ⟨ob, hob, hdn⟩, q1⟩ := q1
  cases (show v = Value.ref p from r1)
  obtain ⟨hget, _, _, _, o2, h1, h2, _⟩ := (show ObjOk X.prog X.w H1 s1.heap p (.frz ob (.tup (l.map V.int))) from I1.hok p _ hob)
  rw [hget] at h1
  cases h1
  refine ⟨"tuple", _, PySem.F.plainAttrs_tuple, PySem.F.slot_tuple_index, PySem.F.type_tuple_index, ⟨ob, hget, h2⟩, (fun a e => by cases e; exact ⟨ob, hget, hdn⟩), Calls.callWith_builtin rfl (Calls.evalArgs_plain (Calls.spliced_cons ?_))⟩
  refine thn (he.run pins s1 σ H1 _ I1 q1) fun u s2 ⟨y, H2, I2, r2, q2⟩ => Calls.spliced_nil ?_
  obtain ⟨k, rfl, hk, hT, q2⟩ := q2
  obtain ⟨t, rfl⟩ := r2
  obtain ⟨its, rv, pl, hz⟩ := I2.tuple (hT.sq)
  exact PySem.SeqAt.call_tuple_index (ks := l) pl (.ints (intsEq rv)) hk ⟨.int _, H2, I2.tok _, ⟨_, rfl⟩, q2⟩
theorem ce_idx {apos : Pos} {l : List Int} (ha : CE X σ H a (tI l)) (hb : CE X σ H b (.int i)) (hk : i ∈ l) (hs : ∀ j, starEach [b] (X j).env = [(false, eval b (X j).env)] := by intro _; rfl)
    (hbase : ∀ j, attributeBase a "index" (X j).env (eval a (X j).env) = eval a (X j).env := by intro _; rfl) (hline : (apos.endLine == pos.line) = true := by rfl) : CE X σ H (.Call (.Attribute a "index" apos) [b] [] pos) (.int (l.idxOf i : Nat)) := by
  obtain ⟨ta, pa, ra⟩ := ha
  obtain ⟨tb, pb, rb⟩ := hb
  refine ⟨_, fun j => pe_idx (pa j) (pb j) (hs j) (hbase j) hline, fun H1 s Q q => ?_⟩
  refine ra H1 s _ fun v H2 s2 av => ?_
  obtain ⟨p, rfl, e⟩ := av.tI
  refine ⟨p, l, rfl, e, rb H2 (s.trans s2) _ fun w H3 s3 aw => ?_⟩
  exact ⟨i, aw.int, hk, e.mono (ts_of s3), q _ H3 (s2.trans s3) (.im (.int _))⟩

/-! ### calls of the text's own defs -/
end
/-- a def of the text that keeps a promise -/
structure Fn (P : Program) (w : World) (K : PySem.W.Frag) (mg : Str → Option Value) (base : Heap) (k : Nat) (x : Str) (ps : List Str) (sp : Sp) : Prop where
  ex : ∃ (f : Addr) (fd : FuncData), FnOk P w K mg base CX0 k f fd ps sp ∧ mg x = some (.ref f) ∧ PySem.W.keepIn K (.ref f) = true ∧ Binds K fd ps []
theorem Fn.mono {P : Program} {w : World} {K : PySem.W.Frag} {mg : Str → Option Value} {base : Heap} {k l : Nat} {x : Str} {ps : List Str} {sp : Sp} (F : Fn P w K mg base k x ps sp) (h : k ≤ l) : Fn P w K mg base l x ps sp :=
  let ⟨f, fd, a, b, c, d⟩ := F.ex; ⟨f, fd, a.mono h, b, c, d⟩
/-- the promise of a def that changes nothing: data in, data out, the heap may grow -/
def spF (R : List PyData → PyData → Prop) : Sp := fun vs H Q _ => ∃ ds d, ArAll H vs ds ∧ R ds d ∧ ∀ r H', Same H H' → Ar H' r d → Q r H'
theorem spF_len {R : List PyData → PyData → Prop} {n : Nat} (h : ∀ ds d, R ds d → ds.length = n) : ∀ vs H Q E, spF R vs H Q E → vs.length = n := fun vs H Q E ⟨ds, d, a, r, _⟩ => a.len.trans (h ds d r)
section
variable {ι : Type} {X : ι → Cx} {σ : L2.St} {H H' : Hp} {e a b c : Expr} {d da db : PyData} {pos : Pos} {i j : Int}
variable {P : Program} {w : World} {K : PySem.W.Frag} {mg : Str → Option Value} {base : Heap}
theorem ce_call {x : Str} {p : Pos} {es : List Expr} {ds : List PyData} {k : Nat} {ps : List Str} {R : List PyData → PyData → Prop} (F : Fn P w K mg base k x ps (spF R)) (hX : ∀ j, (X j).prog = P ∧ (X j).w = w ∧ (X j).K = K ∧ (X j).mg = mg ∧ (X j).base = base) (hr : ∀ j, Room k (X j).A)
    (ha : CA X σ H (e :: es) ds) (hR : R ds d) (hg : ∀ j, Gl (X j) x := by intro _; rfl) (hdb : (x == ("__debug__" : Str)) = false := by decide)
    (he : ∀ j, starEach (e :: es) (X j).env = (false, eval e (X j).env) :: starEach es (X j).env := by intro _; rfl) (hpl : ∀ j, (backTo pos (starEach es (X j).env)).any (·.1) = false := by intro _; rfl) : CE X σ H (.Call (.Name x p) (e :: es) [] pos) d := by
  obtain ⟨f, fd, G, gm, gk, gb⟩ := F.ex
  obtain ⟨ta, pa, ra⟩ := ha
  refine ⟨tCall (spF R) [] E0 ta, fun j => ?_, fun H1 s Q q => ?_⟩
  · obtain ⟨e1, e2, e3, e4, e5⟩ := hX j
    exact pe_call (f := f) (fd := fd) (k := k) (ps := ps) (by rw [e1, e2, e3, e4, e5]; exact G) (hr j) (hg j) (by rw [e4]; exact gm) (by rw [e3]; exact gk) (by rw [e3]; exact gb) .nil pass0 (pa j) hdb (he j) (hpl j)
  · refine ra H1 s _ fun vs H2 s2 as => ?_
    refine ⟨ds, d, by rw [List.append_nil]; exact as, hR, fun r H3 s3 ar => q r H3 (s2.trans s3) ar⟩

/-! ### lists made anew -/
theorem CN.mono {ds : List PyData} (h : CN X σ H e ds) (s : Same H H') : CN X σ H' e ds := let ⟨te, p, r⟩ := h; ⟨te, p, fun H1 q => r H1 (s.trans q)⟩
/-- a list + a list -/
theorem cn_cat {ds es : List PyData} (ha : CE X σ H a (.list ds)) (hb : CE X σ H b (.list es)) (hl : ds.length + es.length ≤ sizeLine) : CN X σ H (.BinOp a .Add b pos) (ds ++ es) := by
  obtain ⟨ta, pa, qa⟩ := ha
  obtain ⟨tb, pb, qb⟩ := hb
  refine ⟨_, fun j => pe_op op_cat (pa j) (pb j), fun H1 s Q q => ?_⟩
  refine qa H1 s _ fun x H2 s2 ax => ?_
  refine qb H2 (s.trans s2) _ fun y H3 s3 ay => ?_
  obtain ⟨p, xs, rfl, e1, i1⟩ := (ax.mono s3).lstE
  obtain ⟨r, ys, rfl, e2, i2⟩ := ay.lstE
  refine ⟨p, r, xs, ys, rfl, rfl, e1, e2, by rw [i1.len, i2.len]; exact hl, fun t ht => ?_⟩
  exact q t _ _ (s2.free (s3.free ht)) ((s2.trans s3).trans (same_new ht _)) upd_same ((i1.append i2).mono (ts_of (same_new ht _)))
/-- [x] * n -/
theorem cn_rep (ha : CE X σ H a (.list [d])) (hb : CE X σ H b (.int i)) (h0 : 0 ≤ i) (h1 : i ≤ 1000) : CN X σ H (.BinOp a .Mult b pos) (List.replicate i.toNat d) := by
  obtain ⟨ta, pa, qa⟩ := ha
  obtain ⟨tb, pb, qb⟩ := hb
  refine ⟨_, fun j => pe_op op_rep (pa j) (pb j), fun H1 s Q q => ?_⟩
  refine qa H1 s _ fun x H2 s2 ax => ?_
  refine qb H2 (s.trans s2) _ fun y H3 s3 ay => ?_
  obtain ⟨p, xs, rfl, e1, i1⟩ := (ax.mono s3).lstE
  have hsl : sizeLine = 16777216 := sizeLine_eq
  refine ⟨p, i, xs, rfl, ay.int, e1, by omega, by omega, by rw [i1.len]; show 1 * i.toNat ≤ _; omega, fun t ht => ?_⟩
  obtain ⟨v, rfl, iv⟩ : ∃ v, xs = [v] ∧ Im H3 v d := by
    cases i1 with
    | cons h t => cases t; exact ⟨_, rfl, h⟩
  have e3 : ∀ n : Nat, (List.replicate n [v]).flatten = List.replicate n v := fun n => by
    induction n with
    | zero => rfl
    | succ n ih => rw [List.replicate_succ, List.flatten_cons, ih, List.replicate_succ]; rfl
  have e4 : ∀ n : Nat, ImAll H3 (List.replicate n v) (List.replicate n d) := fun n => by
    induction n with
    | zero => exact .nil
    | succ n ih => exact .cons iv ih
  refine q t _ _ (s2.free (s3.free ht)) ((s2.trans s3).trans (same_new ht _)) ?_ ((e4 i.toNat).mono (ts_of (same_new ht _)))
  rw [upd_same, e3]
/-- what a comprehension or a for walks: the items' data, one by one, while Gd holds of the heap -/
structure ItG (J : It) (Gd : Hp → Prop) (ds : List PyData) : Prop where
  stop : ∀ i H3, Gd H3 → ds.length ≤ i → J.stop i H3
  go : ∀ i H3, Gd H3 → i < ds.length → J.go i H3 ∧ ∀ x H4, J.yld i H3 x H4 → H4 = H3 ∧ ∃ d, ds[i]? = some d ∧ Ar H3 x d
inductive IK where
  | rng | tup | lst
  | at_ (q : Addr)
def GK (k : IK) (H2 : Hp) (Gd : Hp → Prop) : Prop := match k with
  | .rng => ∀ H3, Gd H3
  | .tup => ∀ H3, TSt H2 H3 → Gd H3
  | .lst => ∃ a xs, H2 a = some (.lst xs) ∧ ∀ H3, TSt H2 H3 → H3 a = some (.lst xs) → Gd H3
  | .at_ q => ∃ xs, H2 q = some (.lst xs) ∧ ∀ H3, TSt H2 H3 → H3 q = some (.lst xs) → Gd H3
theorem GK.same {k : IK} {H2 H3 : Hp} {Gd : Hp → Prop} (h : GK k H2 Gd) (s : Same H2 H3) : Gd H3 := by
  cases k with
  | rng => exact h H3
  | tup => exact h H3 (ts_of s)
  | lst =>
    obtain ⟨a, xs, e, g⟩ := h
    exact g H3 (ts_of s) (s _ _ e)
  | at_ q =>
    obtain ⟨xs, e, g⟩ := h
    exact g H3 (ts_of s) (s _ _ e)
def CI (X : ι → Cx) (σ : L2.St) (H : Hp) (tg iter : Expr) (k : IK) (ds : List PyData) : Prop := ∃ wi : TI, (∀ j, PI (X j) tg iter wi) ∧ ∀ H1, Same H H1 → ∀ R : It → Hp → Prop,
  (∀ (J : It) (H2 : Hp) (Gd : Hp → Prop), Same H1 H2 → ItG J Gd ds → GK k H2 Gd → R J H2) → wi σ H1 R
theorem ci_tup {tg l : Expr} {ds : List PyData} (h : CE X σ H l (.tuple ds)) (hX : ∀ j, (X j).K = K) : CI X σ H tg l .tup ds := by
  obtain ⟨te, p, r⟩ := h
  refine ⟨iTup K te, fun j => by rw [← hX j]; exact pi_tup (p j), fun H1 s R k => r H1 s _ fun v H2 s2 av => ?_⟩
  obtain ⟨a, xs, rfl, e, im⟩ := av.tupE
  refine ⟨a, rfl, ⟨xs, e.sq⟩, k _ H2 (fun H3 => TupF H3 a xs ∧ ImAll H3 xs ds) s2 ⟨fun i H3 ⟨e3, i3⟩ hi => ⟨xs, e3.sq, by rw [i3.len]; exact hi⟩, fun i H3 ⟨e3, i3⟩ hi => ?_⟩ fun H3 t => ⟨e.mono t, im.mono t⟩⟩
  obtain ⟨v, hv, iv⟩ := i3.get (List.getElem?_eq_getElem hi)
  refine ⟨⟨xs, v, e3.sq, hv⟩, fun x H4 y => ?_⟩
  obtain ⟨rfl, g⟩ := y
  have ex := (g xs e3.sq).symm.trans hv
  cases ex
  exact ⟨rfl, _, List.getElem?_eq_getElem hi, .im iv⟩
theorem ci_lst {tg l : Expr} {ds : List PyData} (h : CE X σ H l (.list ds)) (hX : ∀ j, (X j).K = K) : CI X σ H tg l .lst ds := by
  obtain ⟨te, p, r⟩ := h
  refine ⟨iList K te, fun j => by rw [← hX j]; exact pi_list (p j), fun H1 s R k => r H1 s _ fun v H2 s2 av => ?_⟩
  obtain ⟨a, xs, rfl, e, im⟩ := av.lstE
  refine ⟨a, rfl, ⟨xs, SqL.of e⟩, k _ H2 (fun H3 => H3 a = some (.lst xs) ∧ ImAll H3 xs ds) s2 ⟨fun i H3 ⟨e3, i3⟩ hi => ⟨xs, SqL.of e3, by rw [i3.len]; exact hi⟩, fun i H3 ⟨e3, i3⟩ hi => ?_⟩ ⟨a, xs, e, fun H3 t q => ⟨q, im.mono t⟩⟩⟩
  obtain ⟨v, hv, iv⟩ := i3.get (List.getElem?_eq_getElem hi)
  refine ⟨⟨xs, v, SqL.of e3, hv⟩, fun x H4 y => ?_⟩
  obtain ⟨rfl, g⟩ := y
  have ex := (g xs (SqL.of e3)).symm.trans hv
  cases ex
  exact ⟨rfl, _, List.getElem?_eq_getElem hi, .im iv⟩
/-- a name that holds the list at q -/
theorem ci_at {tg : Expr} {x : Str} {q : Addr} {xs : List V} {ds : List PyData} (k : Nat) (h : σ[k]? = some (some (.ref q))) (e : H q = some (.lst xs)) (im : ImAll H xs ds) (hX : ∀ j, (X j).K = K) (hN : ∀ j, (X j).N[k]? = some x := by intro _; rfl)
    (hv : ∀ j, Vis (X j).env.scope x := by intro _; first | exact Or.inl rfl | exact Or.inr (Or.inl rfl) | exact Or.inr (Or.inr rfl)) (hd : (x == ("__debug__" : Str)) = false := by decide) (hcd : (x == ("__classdict__" : Str)) = false := by decide) : CI X σ H tg (.Name x pos) (.at_ q) ds := by
  refine ⟨iList K (tVar k), fun j => by rw [← hX j]; exact pi_list (pe_var (hN j) (hv j) hd hcd), fun H1 s R kk => ?_⟩
  refine ⟨_, h, q, rfl, ⟨xs, SqL.of (s _ _ e)⟩, kk _ H1 (fun H3 => H3 q = some (.lst xs) ∧ ImAll H3 xs ds) (Same.refl _) ⟨fun i H3 ⟨e3, i3⟩ hi => ⟨xs, SqL.of e3, by rw [i3.len]; exact hi⟩, fun i H3 ⟨e3, i3⟩ hi => ?_⟩ ⟨xs, s _ _ e, fun H3 t g => ⟨g, (im.mono (ts_of s)).mono t⟩⟩⟩
  obtain ⟨v, hv, iv⟩ := i3.get (List.getElem?_eq_getElem hi)
  refine ⟨⟨xs, v, SqL.of e3, hv⟩, fun x H4 y => ?_⟩
  obtain ⟨rfl, g⟩ := y
  have ex := (g xs (SqL.of e3)).symm.trans hv
  cases ex
  exact ⟨rfl, _, List.getElem?_eq_getElem hi, .im iv⟩
/-- the ints lo, lo + 1, .. -/
def rgD (lo : Int) (n : Nat) : List PyData := (List.range n).map fun i => .int (lo + (i : Nat))
theorem rgD_len (lo : Int) (n : Nat) : (rgD lo n).length = n := by simp [rgD]
theorem rgD_at {lo : Int} {n k : Nat} (h : k < n) : (rgD lo n)[k]? = some (.int (lo + (k : Nat))) := by simp [rgD, h]
theorem ci_rng1 {tg : Expr} {n : Nat} {p : Pos} (hm : ∀ j, (X j).mg "range" = none) (ha : CE X σ H a (.int (n : Int))) (hn : n < 2 ^ 60) (hg : ∀ j, Gl (X j) "range" := by intro _; rfl) (hs : ∀ j, starEach [a] (X j).env = [(false, eval a (X j).env)] := by intro _; rfl) :
    CI X σ H tg (.Call (.Name "range" p) [a] [] pos) .rng (rgD 0 n) := by
  obtain ⟨ta, pa, ra⟩ := ca_cons ha ca_nil hs
  refine ⟨_, fun j => pi_range1 (hg j) (hm j) (pa j) (hs j), fun H1 s R k => ra H1 s _ fun vs H2 s2 as => ?_⟩
  obtain ⟨v, rfl, av⟩ := as.one
  refine ⟨(n : Int), by rw [av.int], by omega, by omega, k _ H2 (fun _ => True) s2 ⟨fun i H3 _ hi => ?_, fun i H3 _ hi => ?_⟩ fun _ => True.intro⟩
  · rw [rgD_len] at hi
    show (n : Int).toNat ≤ i
    omega
  · rw [rgD_len] at hi
    refine ⟨by show i < (n : Int).toNat; omega, fun x H4 y => ?_⟩
    obtain ⟨rfl, rfl⟩ := y
    exact ⟨rfl, _, rgD_at hi, .im (.int _)⟩
theorem ci_rng2 {tg : Expr} {lo : Int} {n : Nat} {p : Pos} (hm : ∀ j, (X j).mg "range" = none) (ha : CE X σ H a (.int lo)) (hb : CE X σ H b (.int (lo + (n : Int)))) (hn : n < 2 ^ 60) (h0 : 0 ≤ lo) (h1 : lo < 2 ^ 60) (hg : ∀ j, Gl (X j) "range" := by intro _; rfl)
    (hs : ∀ j, starEach [a, b] (X j).env = [(false, eval a (X j).env), (false, eval b (X j).env)] := by intro _; rfl) (hs2 : ∀ j, starEach [b] (X j).env = [(false, eval b (X j).env)] := by intro _; rfl) :
    CI X σ H tg (.Call (.Name "range" p) [a, b] [] pos) .rng (rgD lo n) := by
  obtain ⟨ta, pa, ra⟩ := ca_cons ha (ca_cons hb ca_nil hs2) (fun j => by rw [hs j, hs2 j])
  refine ⟨_, fun j => pi_range2 (hg j) (hm j) (pa j) (hs j) (hs2 j), fun H1 s R k => ra H1 s _ fun vs H2 s2 as => ?_⟩
  obtain ⟨v, w, rfl, av, aw⟩ := as.two
  refine ⟨lo, lo + (n : Int), by rw [av.int, aw.int], ⟨by omega, by omega, by omega, by omega⟩, k _ H2 (fun _ => True) s2 ⟨fun i H3 _ hi => ?_, fun i H3 _ hi => ?_⟩ fun _ => True.intro⟩
  · rw [rgD_len] at hi
    show (lo + (n : Int) - lo).toNat ≤ i
    omega
  · rw [rgD_len] at hi
    refine ⟨by show i < (lo + (n : Int) - lo).toNat; omega, fun x H4 y => ?_⟩
    obtain ⟨rfl, rfl⟩ := y
    exact ⟨rfl, _, rgD_at hi, .im (.int _)⟩
/-- the context of a comprehension's block -/
abbrev blkAt (X : ι → Cx) (scope : Scope) : ι × Shared × Hp × Addr × List (Str × Addr) × List Addr → Cx := fun q => (X q.1).blk q.2.1 q.2.2.1 scope (compEnvC scope q.2.2.2.2.1 q.2.2.2.1 (X q.1).env) q.2.2.2.2.2
/-- the tests of a clause -/
def CP (X : ι → Cx) (σ : L2.St) (H : Hp) (ifs : List Expr) (b : Bool) : Prop := ∃ tt : TT, (∀ j, PTs (X j) ifs tt) ∧ ∀ H1, Same H H1 → ∀ Q : Bool → Hp → Prop, (∀ H2, Same H1 H2 → Q b H2) → tt σ H1 Q
theorem cp_nil : CP X σ H [] true := ⟨_, fun _ => pts_nil, fun H1 _ Q q => q H1 (Same.refl _)⟩
theorem cp_one {k : Bool} (h : CT X σ H c k) : CP X σ H [c] k := let ⟨tt, p, r⟩ := h; ⟨tt, fun j => pts_one (p j), r⟩
/-- any reading of e, of tests -/
def uE (X : ι → Cx) (e : Expr) : TE := fun σ H Q => ∃ te : TE, (∀ j, PE (X j) e te) ∧ te σ H Q
theorem uE_pe (e : Expr) (j : ι) : PE (X j) e (uE X e) := ⟨fun pins s σ H Q I ⟨_, p, h⟩ => (p j).run pins s σ H Q I h⟩
def uP (X : ι → Cx) (ifs : List Expr) : TT := fun σ H Q => ∃ tt : TT, (∀ j, PTs (X j) ifs tt) ∧ tt σ H Q
theorem uP_pts (ifs : List Expr) (j : ι) : PTs (X j) ifs (uP X ifs) := ⟨fun pins s σ H Q I ⟨_, p, h⟩ => (p j).run pins s σ H Q I h⟩
/-- the reading of a comprehension that changes nothing: g says what an item gives, or that it is left out -/
theorem lc_read {elt : Expr} {ifs : List Expr} {scope : Scope} {k : Nat} {ik : IK} {ds : List PyData} {g : PyData → Option PyData} {wi : TI} {H1 : Hp} {Q : VK}
    (hw : ∀ R : It → Hp → Prop, (∀ (J : It) (H2 : Hp) (Gd : Hp → Prop), Same H1 H2 → ItG J Gd ds → GK ik H2 Gd → R J H2) → wi σ H1 R) (hlen : ds.length ≤ 100000)
    (step : ∀ (i : Nat) d v H2, ds[i]? = some d → Same H1 H2 → Ar H2 v d → (∃ e, g d = some e ∧ notL e = true ∧ CP (blkAt X scope) ((σ.set k none).set k (some v)) H2 ifs true ∧ CE (blkAt X scope) ((σ.set k none).set k (some v)) H2 elt e) ∨ (g d = none ∧ CP (blkAt X scope) ((σ.set k none).set k (some v)) H2 ifs false))
    (fin : ∀ p xs H2, H1 p = none → Same H1 H2 → H2 p = some (.lst xs) → ImAll H2 xs (ds.filterMap g) → Q (.ref p) H2) : tLc wi (gName k) (uP (blkAt X scope) ifs) (uE (blkAt X scope) elt) [k] σ H1 Q := by
  refine hw _ fun J H2 Gd s2 IG gk D hD => ?_
  refine ⟨fun i m H => i + m = ds.length ∧ Same H2 H ∧ ∃ xs, H D = some (.lst xs) ∧ ImAll H xs ((ds.take i).filterMap g), ⟨ds.length, by omega, same_new hD _, [], upd_same, by simpa using ImAll.nil⟩, ?_⟩
  rintro i m H ⟨hm, sm, xs, hx, im⟩
  have hG : Gd H := gk.same sm
  by_cases hi : i < ds.length
  · obtain ⟨hgo, hy⟩ := IG.go i H hG hi
    refine .inr ⟨hgo, fun H' => Same H2 H' ∧ ∃ xs, H' D = some (.lst xs) ∧ ImAll H' xs ((ds.take (i + 1)).filterMap g), fun H' ⟨a, b⟩ => ⟨m - 1, by omega, by omega, a, b⟩, fun x H' y => ?_⟩
    obtain ⟨rfl, d, hd, ax⟩ := hy x H' y
    have et : ∀ r, g d = r → (ds.take (i + 1)).filterMap g = (ds.take i).filterMap g ++ r.toList := fun r hr => by
      rw [List.take_add_one, hd]
      show ((ds.take i) ++ [d]).filterMap g = _
      rw [List.filterMap_append]
      congr 1
      cases r with
      | none => simp [hr]
      | some z => simp [hr]
    have hxl : xs.length < sizeLine := by
      have h1 := im.len
      have h2 := List.length_filterMap_le g (ds.take i)
      rw [List.length_take] at h2
      have h3 : sizeLine = 16777216 := sizeLine_eq
      omega
    have ew : wipe ((wipe σ [k]).set k (some x)) [k] = wipe σ [k] := by
      show (((σ.set k none).set k (some x)).set k none) = σ.set k none
      rw [List.set_set, List.set_set]
    refine ⟨ew, ?_⟩
    rcases step i d x H' hd (s2.trans sm) ax with ⟨e, ge, ne, ⟨tt, pt, rt⟩, te, pe, re⟩ | ⟨ge, tt, pt, rt⟩
    · refine ⟨tt, pt, rt H' (Same.refl _) _ fun H3 s3 => ?_⟩
      refine iteT ⟨te, pe, re H3 s3 _ fun v H4 s4 av => ?_⟩
      have hx4 : H4 D = some (.lst xs) := (s3.trans s4) _ _ hx
      refine ⟨xs, hx4, hxl, same_own (sm.trans (s3.trans s4)) hD _, xs ++ [v], upd_same, ?_⟩
      rw [et _ ge]
      exact ((im.mono (ts_of (s3.trans s4))).snoc (av.toIm ne)).mono (ts_lst hx4 _)
    · refine ⟨tt, pt, rt H' (Same.refl _) _ fun H3 s3 => ?_⟩
      refine iteF ⟨sm.trans s3, xs, s3 _ _ hx, ?_⟩
      rw [et _ ge, Option.toList_none, List.append_nil]
      exact im.mono (ts_of s3)
  · refine .inl ⟨IG.stop i H hG (by omega), ?_⟩
    rw [List.take_of_length_le (by omega)] at im
    exact fin D xs H (s2.free hD) (s2.trans sm) hx im
/-- [elt for x in iter if ..] -/
theorem cn_lc {x : Str} {elt iter : Expr} {ifs : List Expr} {scope : Scope} {tpos : Pos} (k : Nat) {ik : IK} {ds : List PyData} (g : PyData → Option PyData) (hi : CI X σ H (.Name x tpos) iter ik ds) (hlen : ds.length ≤ 100000)
    (step : ∀ (i : Nat) d v H2, ds[i]? = some d → Same H H2 → Ar H2 v d → (∃ e, g d = some e ∧ notL e = true ∧ CP (blkAt X scope) ((σ.set k none).set k (some v)) H2 ifs true ∧ CE (blkAt X scope) ((σ.set k none).set k (some v)) H2 elt e) ∨ (g d = none ∧ CP (blkAt X scope) ((σ.set k none).set k (some v)) H2 ifs false))
    (nd : ∀ j, (X j).N.Nodup) (ok : ∀ j, BlkOk (X j).N (X j).env.scope scope [(x, k)]) (hgk : ∀ j, (X j).N[k]? = some x := by intro _; rfl) (hgl : ∀ q, Loc (blkAt X scope q).env.scope x := by intro _; exact Or.inl rfl) (hgf : ∀ q, (blkAt X scope q).env.scope.names.lookup x = some .local := by intro _; rfl)
    (hc : ∀ j, (X j).calm = true := by intro _; rfl) (hs : ∀ j x, foldedSetIterable iter (X j).env x = pure x := by intro _ _; rfl) : CN X σ H (.ListComp elt [⟨.Name x tpos, iter, ifs, 0⟩] scope pos) (ds.filterMap g) := by
  obtain ⟨wi, pw, rw'⟩ := hi
  refine ⟨tLc wi (gName k) (uP (blkAt X scope) ifs) (uE (blkAt X scope) elt) [k], fun j => ?_, fun H1 s Q q => ?_⟩
  · exact pe_lc (own := [(x, k)]) (hc j) (nd j) (pw j) (ok j) (fun s H C cl fp => pg_name (i := k) (nd j) (hgk j) (hgl (j, s, H, C, cl, fp)) (.inr (hgf (j, s, H, C, cl, fp)))) (fun s H C cl fp => uP_pts (X := blkAt X scope) ifs (j, s, H, C, cl, fp)) (fun s H C cl fp => uE_pe (X := blkAt X scope) elt (j, s, H, C, cl, fp)) (hs j)
  · exact lc_read (X := X) (scope := scope) (k := k) (ds := ds) (g := g) (fun R h => rw' H1 s R h) hlen (fun i d v H2 hd s2 av => step i d v H2 hd (s.trans s2) av) q
/-- [elt for x in iter] -/
theorem cn_map {x : Str} {elt iter : Expr} {scope : Scope} {tpos : Pos} (k : Nat) {ik : IK} {ds : List PyData} (F : PyData → PyData) (hi : CI X σ H (.Name x tpos) iter ik ds) (hlen : ds.length ≤ 100000)
    (step : ∀ (i : Nat) d v H2, ds[i]? = some d → Same H H2 → Ar H2 v d → notL (F d) = true ∧ CE (blkAt X scope) ((σ.set k none).set k (some v)) H2 elt (F d))
    (nd : ∀ j, (X j).N.Nodup) (ok : ∀ j, BlkOk (X j).N (X j).env.scope scope [(x, k)]) (hgk : ∀ j, (X j).N[k]? = some x := by intro _; rfl) (hgl : ∀ q, Loc (blkAt X scope q).env.scope x := by intro _; exact Or.inl rfl) (hgf : ∀ q, (blkAt X scope q).env.scope.names.lookup x = some .local := by intro _; rfl)
    (hc : ∀ j, (X j).calm = true := by intro _; rfl) (hs : ∀ j x, foldedSetIterable iter (X j).env x = pure x := by intro _ _; rfl) : CN X σ H (.ListComp elt [⟨.Name x tpos, iter, [], 0⟩] scope pos) (ds.map F) := by
  have h := cn_lc (pos := pos) k (fun d => some (F d)) hi hlen (fun i d v H2 hd s2 av => .inl ⟨F d, rfl, (step i d v H2 hd s2 av).1, cp_nil, (step i d v H2 hd s2 av).2⟩) nd ok hgk hgl hgf hc hs
  rw [List.filterMap_eq_map'] at h
  exact h
end

/-! ### statements -/
section
variable {X : Cx} {σ : L2.St} {H H' : Hp} {e a b c : Expr} {d da db : PyData} {pos : Pos} {i j : Int} {rest : List Stmt} {D : Ends}
abbrev U (X : Cx) : Unit → Cx := fun _ => X
def CS (X : Cx) (sts : List Stmt) (D : Ends) (σ : L2.St) (H : Hp) : Prop := ∃ t : TS, PSs X sts t ∧ t D σ H
theorem cs_pss (sts : List Stmt) : PSs X sts (CS X sts) := ⟨fun pins s σ H D I ⟨_, p, h⟩ => p.run pins s σ H D I h⟩
theorem cs_nil (h : D.nx σ H) : CS X [] D σ H := ⟨_, pss_nil, h⟩
/-- name = e -/
theorem cs_set (k : Nat) {x : Str} {pos' : Pos} (nd : X.N.Nodup) (he : CE (U X) σ H e d) (hk : ∀ v H1, Same H H1 → Ar H1 v d → CS X rest D (σ.set k (some v)) H1) (hi : X.N[k]? = some x := by rfl) (hx : Loc X.env.scope x := by first | exact Or.inl rfl | exact Or.inr rfl)
    (hs : swapsWith e (some (.Name x pos')) pos.line X.env = pure false := by rfl) (hf : X.fn x = true ∨ X.env.scope.names.lookup x = some .local := by first | exact .inl rfl | exact .inr rfl) : CS X (.Assign [.Name x pos'] e pos :: rest) D σ H := by
  obtain ⟨te, p, r⟩ := he
  exact ⟨_, pss_cons (ps_set (i := k) nd hi hx (p ()) hs hf) (cs_pss rest), r H (Same.refl _) _ fun v H1 s1 av => hk v H1 s1 av⟩
theorem cs_setN (k : Nat) {x : Str} {pos' : Pos} {ds : List PyData} (nd : X.N.Nodup) (he : CN (U X) σ H e ds) (hk : ∀ p xs H1, H p = none → Same H H1 → H1 p = some (.lst xs) → ImAll H1 xs ds → CS X rest D (σ.set k (some (.ref p))) H1) (hi : X.N[k]? = some x := by rfl) (hx : Loc X.env.scope x := by first | exact Or.inl rfl | exact Or.inr rfl)
    (hs : swapsWith e (some (.Name x pos')) pos.line X.env = pure false := by rfl) (hf : X.fn x = true ∨ X.env.scope.names.lookup x = some .local := by first | exact .inl rfl | exact .inr rfl) : CS X (.Assign [.Name x pos'] e pos :: rest) D σ H := by
  obtain ⟨te, p, r⟩ := he
  exact ⟨_, pss_cons (ps_set (i := k) nd hi hx (p ()) hs hf) (cs_pss rest), r H (Same.refl _) _ fun q xs H1 hq s1 h1 im => hk q xs H1 hq s1 h1 im⟩
/-- name = [elt for x in iter if ..], the name a local on the same line -/
theorem cs_setLc {y x : Str} {elt iter : Expr} {ifs : List Expr} {scope : Scope} {tpos py spos : Pos} (n k : Nat) {ik : IK} {ds : List PyData} (g : PyData → Option PyData) (nd : X.N.Nodup) (hi : CI (U X) σ H (.Name x tpos) iter ik ds) (hlen : ds.length ≤ 100000)
    (step : ∀ (i : Nat) d v H2, ds[i]? = some d → Same H H2 → Ar H2 v d → (∃ e, g d = some e ∧ notL e = true ∧ CP (blkAt (U X) scope) ((σ.set k none).set k (some v)) H2 ifs true ∧ CE (blkAt (U X) scope) ((σ.set k none).set k (some v)) H2 elt e) ∨ (g d = none ∧ CP (blkAt (U X) scope) ((σ.set k none).set k (some v)) H2 ifs false))
    (ok : BlkOk X.N X.env.scope scope [(x, k)]) (hk : ∀ p xs H1, H p = none → Same H H1 → H1 p = some (.lst xs) → ImAll H1 xs (ds.filterMap g) → CS X rest D (σ.set n (some (.ref p))) H1)
    (hsw : swapsWith (.ListComp elt [⟨.Name x tpos, iter, ifs, 0⟩] scope pos) (some (.Name y py)) spos.line X.env = pure true)
    (hn : X.N[n]? = some y := by rfl) (hyl : X.env.scope.names.lookup y = some .local := by rfl) (hgk : X.N[k]? = some x := by rfl) (hgl : ∀ q, Loc (blkAt (U X) scope q).env.scope x := by intro _; exact Or.inl rfl) (hgf : ∀ q, (blkAt (U X) scope q).env.scope.names.lookup x = some .local := by intro _; rfl)
    (hc : X.calm = true := by rfl) (hs : ∀ x, foldedSetIterable iter X.env x = pure x := by intro _; rfl) : CS X (.Assign [.Name y py] (.ListComp elt [⟨.Name x tpos, iter, ifs, 0⟩] scope pos) spos :: rest) D σ H := by
  obtain ⟨wi, pw, rw'⟩ := hi
  refine ⟨_, pss_cons (ps_setLc (i := n) (own := [(x, k)]) (g := gName k) (tt := uP (blkAt (U X) scope) ifs) (te := uE (blkAt (U X) scope) elt) hc nd hn hyl hsw (pw ()) ok (fun s H C cl fp => pg_name (i := k) nd hgk (hgl ((), s, H, C, cl, fp)) (.inr (hgf ((), s, H, C, cl, fp)))) (fun s H C cl fp => uP_pts (X := blkAt (U X) scope) ifs ((), s, H, C, cl, fp)) (fun s H C cl fp => uE_pe (X := blkAt (U X) scope) elt ((), s, H, C, cl, fp)) hs) (cs_pss rest), ?_⟩
  exact lc_read (X := U X) (scope := scope) (k := k) (ds := ds) (g := g) (Q := fun v H1 => CS X rest D (σ.set n (some v)) H1) (fun R h => rw' H (Same.refl _) R h) hlen step hk
theorem cs_ret (he : CE (U X) σ H e d) (hk : ∀ v H1, Same H H1 → Ar H1 v d → D.rt v H1) : CS X (.Return (some e) pos :: rest) D σ H := by
  obtain ⟨te, p, r⟩ := he
  exact ⟨_, pss_cons (ps_ret (p ())) (cs_pss rest), r H (Same.refl _) _ hk⟩
/-- an expression as a statement -/
theorem cs_expr (he : CE (U X) σ H e d) (hk : ∀ H1, Same H H1 → CS X rest D σ H1) (hs : swapsWith e none pos.line X.env = pure false := by rfl) : CS X (.Expr e pos :: rest) D σ H := by
  obtain ⟨te, p, r⟩ := he
  exact ⟨_, pss_cons (ps_expr (p ()) hs) (cs_pss rest), r H (Same.refl _) _ fun v H1 s1 _ => hk H1 s1⟩
theorem cs_if {A B : List Stmt} {k : Bool} (ht : CT (U X) σ H c k) (h1 : k = true → ∀ H1, Same H H1 → CS X A { D with nx := CS X rest D } σ H1) (h2 : k = false → ∀ H1, Same H H1 → CS X B { D with nx := CS X rest D } σ H1) : CS X (.If c A B pos :: rest) D σ H := by
  obtain ⟨tt, p, r⟩ := ht
  refine ⟨_, pss_cons (ps_if (p ()) (cs_pss A) (cs_pss B)) (cs_pss rest), r H (Same.refl _) _ fun H1 s1 => ?_⟩
  cases k with
  | true => exact iteT (h1 rfl H1 s1)
  | false => exact iteF (h2 rfl H1 s1)
theorem CS.nx {sts : List Stmt} {N N' : L2.St → Hp → Prop} {r : VK} {bk ct : L2.St → Hp → Prop} (h : CS X sts ⟨N, r, bk, ct⟩ σ H) (hN : ∀ σ' H', N σ' H' → N' σ' H') : CS X sts ⟨N', r, bk, ct⟩ σ H := by
  obtain ⟨t, p, q⟩ := h
  refine ⟨fun D σ H => ∃ N0 : L2.St → Hp → Prop, t { D with nx := N0 } σ H ∧ ∀ σ' H', N0 σ' H' → D.nx σ' H', ⟨fun pins s σ H D I ⟨N0, h, hn⟩ => ?_⟩, N, q, hN⟩
  refine thn (p.run pins s σ H _ I h) fun fl s1 q1 => ?_
  cases fl with
  | next =>
    obtain ⟨σ', H', I', q1⟩ := q1
    exact ⟨σ', H', I', hn _ _ q1⟩
  | brk => exact q1
  | cont => exact q1
  | ret v => exact q1
/-- an if whose ways meet: M holds behind it -/
theorem cs_ifM {A B : List Stmt} {k : Bool} (M : L2.St → Hp → Prop) (ht : CT (U X) σ H c k) (h1 : k = true → ∀ H1, Same H H1 → CS X A { D with nx := M } σ H1) (h2 : k = false → ∀ H1, Same H H1 → CS X B { D with nx := M } σ H1)
    (hM : ∀ σ' H', M σ' H' → CS X rest D σ' H') : CS X (.If c A B pos :: rest) D σ H :=
  cs_if ht (fun e H1 s1 => (h1 e H1 s1).nx hM) fun e H1 s1 => (h2 e H1 s1).nx hM
/-- a, b = e1, e2 with plain local names -/
theorem cs_par (k l : Nat) {x y : Str} {px py pt pt2 : Pos} {kt k2 : Nat} (nd : X.N.Nodup) (ha : CE (U X) σ H a da) (hb : CE (U X) σ H b db) (hk : ∀ v w H1, Same H H1 → Ar H1 v da → Ar H1 w db → CS X rest D ((σ.set k (some v)).set l (some w)) H1)
    (hkl : k ≠ l := by decide) (hi : X.N[k]? = some x := by rfl) (hj : X.N[l]? = some y := by rfl) (hx : X.env.scope.names.lookup x = some .local := by rfl) (hy : X.env.scope.names.lookup y = some .local := by rfl) (hc : X.calm = true := by rfl)
    (hw : swappedStores [.Tuple [.Name x px, .Name y py] kt pt] (.Tuple [a, b] k2 pt2) X.env = pure (some [x, y]) := by rfl) (hs : swapsWithSole [.Tuple [.Name x px, .Name y py] kt pt] (.Tuple [a, b] k2 pt2) pos.line X.env = pure false := by rfl)
    (hs1 : starEach [a, b] X.env = (false, eval a X.env) :: starEach [b] X.env := by rfl) (hs2 : starEach [b] X.env = (false, eval b X.env) :: starEach [] X.env := by rfl) : CS X (.Assign [.Tuple [.Name x px, .Name y py] kt pt] (.Tuple [a, b] k2 pt2) pos :: rest) D σ H := by
  obtain ⟨ta, pa, ra⟩ := ca_cons ha (ca_cons hb ca_nil fun _ => hs2) fun _ => hs1
  refine ⟨_, pss_cons (ps_par (i := k) (j := l) hc nd hi hj hkl hx hy (pa ()) hw hs) (cs_pss rest), ra H (Same.refl _) _ fun vs H1 s1 as => ?_⟩
  obtain ⟨v, w, rfl, av, aw⟩ := as.two
  exact ⟨v, w, rfl, hk v w H1 s1 av aw⟩
/-- x, xs = e, [..]: the second one a list of our own -/
theorem cs_parLN (k l : Nat) {x y : Str} {px py pt pt2 : Pos} {kt k2 : Nat} {ds : List PyData} (nd : X.N.Nodup) (ha : CN (U X) σ H a ds) (hb : CE (U X) σ H b db) (hk : ∀ p xs w H1, H p = none → Same H H1 → H1 p = some (.lst xs) → ImAll H1 xs ds → Ar H1 w db → CS X rest D ((σ.set k (some (.ref p))).set l (some w)) H1)
    (hkl : k ≠ l := by decide) (hi : X.N[k]? = some x := by rfl) (hj : X.N[l]? = some y := by rfl) (hx : X.env.scope.names.lookup x = some .local := by rfl) (hy : X.env.scope.names.lookup y = some .local := by rfl) (hc : X.calm = true := by rfl)
    (hw : swappedStores [.Tuple [.Name x px, .Name y py] kt pt] (.Tuple [a, b] k2 pt2) X.env = pure (some [x, y]) := by rfl) (hs : swapsWithSole [.Tuple [.Name x px, .Name y py] kt pt] (.Tuple [a, b] k2 pt2) pos.line X.env = pure false := by rfl)
    (hs1 : starEach [a, b] X.env = (false, eval a X.env) :: starEach [b] X.env := by rfl) (hs2 : starEach [b] X.env = (false, eval b X.env) :: starEach [] X.env := by rfl) : CS X (.Assign [.Tuple [.Name x px, .Name y py] kt pt] (.Tuple [a, b] k2 pt2) pos :: rest) D σ H := by
  obtain ⟨ta, pa, ra⟩ := ha
  obtain ⟨tb, pb, rb⟩ := hb
  refine ⟨_, pss_cons (ps_par (i := k) (j := l) hc nd hi hj hkl hx hy (pa_cons (pa ()) (pa_cons (pb ()) pa_nil hs2) hs1) hw hs) (cs_pss rest), ?_⟩
  refine ra H (Same.refl _) _ fun p xs H1 hp s1 h1 im => rb H1 s1 _ fun w H2 s2 aw => ?_
  exact ⟨_, _, rfl, hk p xs w H2 hp (s1.trans s2) (s2 _ _ h1) (im.mono (ts_of s2)) aw⟩
/-- xs.append(e), xs a list of our own -/
theorem cs_append {p : Addr} {xs : List V} {apos cpos : Pos} (ho : ∃ te : TE, PE X a te ∧ ∀ Q : VK, Q (.ref p) H → te σ H Q) (hp : H p = some (.lst xs)) (hb : CE (U X) σ H b d) (hl : xs.length < 100000)
    (hk : ∀ v H1, Same H H1 → Ar H1 v d → CS X rest D σ (upd H1 p (.lst (xs ++ [v]))))
    (hsw : swapsWith (.Call (.Attribute a "append" apos) [b] [] cpos) none pos.line X.env = pure false := by rfl) (hbase : attributeBase a "append" X.env (eval a X.env) = eval a X.env := by rfl)
    (hfew : ((backTo cpos (starEach [b] X.env)).all (fun x => !x.1) && (backToKw cpos (keywordEach [] X.env)).all (fun x => x.1.isSome) && decide ([b].length + ([] : List Keyword).length + (if ([] : List Keyword).isEmpty then 0 else 1) < 30)) = true := by rfl)
    (hline : (apos.endLine == cpos.line) = true := by rfl) (hs : starEach [b] X.env = (false, eval b X.env) :: starEach [] X.env := by rfl) : CS X (.Expr (.Call (.Attribute a "append" apos) [b] [] cpos) pos :: rest) D σ H := by
  obtain ⟨to, po, ro⟩ := ho
  obtain ⟨tb, pb, rb⟩ := hb
  refine ⟨_, pss_cons (ps_expr (pe_bm PySem.F.plainAttrs_list PySem.F.slot_list_append PySem.F.type_list_append mt_append po (pa_cons (pb ()) pa_nil hs) hbase hfew hline hs rfl) hsw) (cs_pss rest), ?_⟩
  refine ro _ ⟨.inl ⟨rfl, xs, SqL.of hp⟩, rb H (Same.refl _) _ fun v H1 s1 av => ?_⟩
  exact ⟨p, xs, v, rfl, rfl, s1 _ _ hp, Nat.lt_trans hl (by decide), hk v H1 s1 av⟩
/-- a slot that holds the list at p -/
theorem own_v (k : Nat) {x : Str} {p : Addr} (h : σ[k]? = some (some (.ref p))) (hN : X.N[k]? = some x := by rfl) (hv : Vis X.env.scope x := by first | exact Or.inl rfl | exact Or.inr (Or.inl rfl) | exact Or.inr (Or.inr rfl))
    (hd : (x == ("__debug__" : Str)) = false := by decide) (hcd : (x == ("__classdict__" : Str)) = false := by decide) : ∃ te : TE, PE X (.Name x pos) te ∧ ∀ Q : VK, Q (.ref p) H → te σ H Q := ⟨_, pe_var (i := k) hN hv hd hcd, fun Q q => ⟨_, h, q⟩⟩
/-- xs[i] = e, xs a list of our own -/
theorem cs_item {p : Addr} {xs : List V} {n : Nat} {spos : Pos} (hb : CE (U X) σ H b d) (ho : ∀ H1, Same H H1 → ∃ te : TE, PE X a te ∧ ∀ Q : VK, Q (.ref p) H1 → te σ H1 Q) (hp : H p = some (.lst xs)) (hc : CE (U X) σ H c (.int (n : Int))) (hn : n < xs.length)
    (hk : ∀ v H1, Same H H1 → Ar H1 v d → CS X rest D σ (upd H1 p (.lst (xs.set n v))))
    (hs : swapsWithSole [.Subscript a c spos] b pos.line X.env = pure false := by rfl) (hw : swappedStores [.Subscript a c spos] b X.env = pure none := by rfl) (h1 : (assignEach [.Subscript a c spos] X.env).map (·.2) = [assign (.Subscript a c spos) X.env] := by rfl)
    (ha : ∀ v, assign (.Subscript a c spos) X.env v = (do
      let ov ← holding [v] (eval a X.env)
      let iv ← holding [v, ov] (eval c X.env)
      standAt spos
      holding [v, ov, iv] (setItem ov iv v)
      release [v, ov, iv] []) := by intro _; rfl) : CS X (.Assign [.Subscript a c spos] b pos :: rest) D σ H := by
  obtain ⟨tb, pb, rb⟩ := hb
  obtain ⟨tc, pc, rc⟩ := hc
  have ho' : ∃ te : TE, PE X a te ∧ ∀ H1, Same H H1 → ∀ Q : VK, Q (.ref p) H1 → te σ H1 Q := ⟨uE (U X) a, uE_pe (X := U X) a (), fun H1 s Q q => let ⟨te, pe, re⟩ := ho H1 s; ⟨te, fun _ => pe, re Q q⟩⟩
  obtain ⟨to, po, ro⟩ := ho'
  refine ⟨_, pss_cons (ps_asg (pb ()) (pg_sub po (pc ()) set_list ha) hs hw h1) (cs_pss rest), ?_⟩
  refine rb H (Same.refl _) _ fun v H1 s1 av => ro H1 s1 _ (rc H1 s1 _ fun w H2 s2 aw => ?_)
  refine ⟨p, xs, (n : Int), n, rfl, aw.int, (s1.trans s2) _ _ hp, ?_, hk v H2 (s1.trans s2) (av.mono s2)⟩
  unfold ixN
  rw [if_pos (by omega), if_pos (by omega)]
  simp
/-- for over what is walked; Gd: what keeps the walked thing as it is -/
theorem cs_for {tg iter : Expr} {body : List Stmt} {g : TG} {ik : IK} {ds : List PyData} (hi : CI (U X) σ H tg iter ik ds) (hg : PG X tg g) (hp : PassesOwn (model X.prog X.w) X.A X.env X.xe)
    (hk : ∀ (H2 : Hp) (Gd : Hp → Prop), Same H H2 → GK ik H2 Gd → ∃ Pv : Nat → L2.St → Hp → Prop, Pv 0 σ H2 ∧ (∀ i σ' H', Pv i σ' H' → Gd H') ∧
      (∀ (i : Nat) d x σ' H', ds[i]? = some d → Pv i σ' H' → Ar H' x d → g x σ' H' fun σ2 H3 => CS X body { D with nx := Pv (i + 1), ct := Pv (i + 1), bk := CS X rest D } σ2 H3) ∧ (∀ σ' H', Pv ds.length σ' H' → CS X rest D σ' H'))
    (hc : X.calm = true := by rfl) (hs : ∀ x, foldedSetIterable iter X.env x = pure x := by intro _; rfl) : CS X (.For tg iter body [] pos :: rest) D σ H := by
  obtain ⟨wi, pw, rw'⟩ := hi
  refine ⟨_, pss_cons (ps_for hp hc (pw ()) hg (cs_pss body) hs) (cs_pss rest), ?_⟩
  refine rw' H (Same.refl _) _ fun J H2 Gd s2 IG gk => ?_
  obtain ⟨Pv, p0, pg, ps, pd⟩ := hk H2 Gd s2 gk
  refine ⟨fun i m σ H => i + m = ds.length ∧ Pv i σ H, ⟨ds.length, by omega, p0⟩, ?_⟩
  rintro i m σ' H' ⟨hm, pv⟩
  have hG := pg i σ' H' pv
  by_cases hlt : i < ds.length
  · obtain ⟨hgo, hy⟩ := IG.go i H' hG hlt
    refine .inr ⟨hgo, Pv (i + 1), fun σ3 H3 q => ⟨m - 1, by omega, by omega, q⟩, fun x H3 y => ?_⟩
    obtain ⟨rfl, d, hd, ax⟩ := hy x H3 y
    exact ps i d x σ' H3 hd pv ax
  · have e : i = ds.length := by omega
    subst e
    exact .inl ⟨IG.stop _ H' hG (Nat.le_refl _), pd σ' H' pv⟩
/-- while -/
theorem cs_while {body : List Stmt} (Pv : Nat → L2.St → Hp → Prop) (hp : PassesOwn (model X.prog X.w) X.A X.env X.xe) (h0 : ∃ m, Pv m σ H)
    (hs : ∀ m σ' H', Pv m σ' H' → ∃ k, CT (U X) σ' H' c k ∧ (k = true → ∀ H1, Same H' H1 → CS X body { D with nx := fun σ2 H2 => ∃ m', m' < m ∧ Pv m' σ2 H2, ct := fun σ2 H2 => ∃ m', m' < m ∧ Pv m' σ2 H2, bk := CS X rest D } σ' H1) ∧ (k = false → ∀ H1, Same H' H1 → CS X rest D σ' H1)) : CS X (.While c body [] pos :: rest) D σ H := by
  let tc : TT := fun σ H Q => ∃ tt : TT, PT X c tt ∧ tt σ H Q
  have pc : PT X c tc := ⟨fun pins s σ H Q I ⟨_, p, h⟩ => p.run pins s σ H Q I h⟩
  refine ⟨_, pss_cons (ps_while hp pc (cs_pss body)) (cs_pss rest), Pv, h0, fun m σ' H' pv => ?_⟩
  obtain ⟨k, ⟨tt, pt, rt⟩, h1, h2⟩ := hs m σ' H' pv
  refine ⟨tt, pt (), rt H' (Same.refl _) _ fun H1 s1 => ?_⟩
  cases k with
  | true => exact iteT ⟨fun σ2 H2 => ∃ m', m' < m ∧ Pv m' σ2 H2, fun _ _ h => h, h1 rfl H1 s1⟩
  | false => exact iteF (h2 rfl H1 s1)
theorem cs_break (h : D.bk σ H) : CS X (.Break pos :: rest) D σ H := ⟨_, pss_cons ps_break (cs_pss rest), h⟩
end
end Shr


namespace Shr
open PySem PySem.Spec L2
/-! ### len(set(a tuple of unlike ints)) -/
def tLenSetF (ta : TE) : TE := fun σ H Q => ta σ H fun x H1 => ∃ (l : Addr) (ns : List Int), x = .ref l ∧ TupF H1 l (ns.map V.int) ∧ ns.Nodup ∧ ns.length ≤ 1000 ∧ Q (.int (ns.length : Nat)) H1
theorem boot_set1 : bootBuiltins "set" = some (.type "set") := by decide +kernel
theorem pe_lenSetF {X : Cx} {a : Expr} {ta : TE} {p p2 q pos : Pos} (hg : Gl X "len") (hm : X.mg "len" = none) (hg2 : Gl X "set") (hm2 : X.mg "set" = none) (ha : PE X a ta) (hc : X.calm = true := by rfl)
    (na : starEach [a] X.env = (false, eval a X.env) :: starEach [] X.env := by rfl) : PE X (.Call (.Name "len" p) [.Call (.Name "set" p2) [a] [] q] [] pos) (tLenSetF ta) := by
  refine ⟨fun pins s σ H Q I h => ?_⟩
  refine PyProof.Rows.Call_ (ld_blt I hg hm boot_len ?_)
  refine PyProof.Rows.callWith_builtin1 (PyProof.Rows.args_cons ?_ rfl) rfl rfl
  refine PyProof.Rows.Call_ (ld_blt I hg2 hm2 boot_set1 ?_)
  refine PyProof.Rows.callWith_type1 (PyProof.Rows.args_cons (thn (ha.run pins s σ H _ I h) fun v s1 ⟨x, H1, I1, r1, q1⟩ => PyProof.Rows.args_nil ?_) na) na rfl
  obtain ⟨l, ns, rfl, hq, hnd, hl, q1⟩ := q1
  cases (show v = Value.ref l from r1)
  obtain ⟨its, rv, pt, hz⟩ := I1.tuple hq.sq
  have hd := I1.ok.hd hc
  have hsb : scanBound = 4096 := by decide
  refine call_set_tupI ns hd (show s1.heap.IsTuple l its.toArray from pt) (by simpa using ints_of_vals rv) (by omega) fun h' tk c R1 hcn k => ?_
  obtain ⟨o, es, ep, t, ho, hex, hdt, g, nd, hm2, hb, hf, hn, hr, hl2⟩ := R1
  refine PyProof.Rows.args_nil ?_
  have hp : (es.toList.map keyOf).Perm ns := (List.perm_ext_iff_of_nodup nd hnd).mpr fun z => by rw [← hm2 z, decide_eq_true_eq]
  have he : es.size = ns.length := by
    have z := hp.length_eq
    rw [List.length_map, Array.length_toList] at z
    exact z
  have I2 : L2.Inv X pins σ H1 { s1 with heap := h', toks := tk } := I1.kept k
  exact call_len_set ho hex hdt hf (by rw [he] <;> omega) ⟨.int (ns.length : Nat), H1, I2.tok _, ⟨_, by rw [he]⟩, q1⟩
theorem ce_lenSet {ι : Type} {X : ι → Cx} {σ : L2.St} {H : Hp} {a : Expr} {p p2 q pos : Pos} {ns : List Int} (hm : ∀ j, (X j).mg "len" = none) (hm2 : ∀ j, (X j).mg "set" = none) (ha : CE X σ H a (tI ns)) (nd : ns.Nodup) (hl : ns.length ≤ 1000)
    (hg : ∀ j, Gl (X j) "len" := by intro _; rfl) (hg2 : ∀ j, Gl (X j) "set" := by intro _; rfl) (hc : ∀ j, (X j).calm = true := by intro _; rfl) (na : ∀ j, starEach [a] (X j).env = (false, eval a (X j).env) :: starEach [] (X j).env := by intro _; rfl) :
    CE X σ H (.Call (.Name "len" p) [.Call (.Name "set" p2) [a] [] q] [] pos) (.int (ns.length : Nat)) := by
  obtain ⟨ta, pa, ra⟩ := ha
  refine ⟨_, fun j => pe_lenSetF (hg j) (hm j) (hg2 j) (hm2 j) (pa j) (hc j) (na j), fun H1 s Q q => ra H1 s _ fun v H2 s2 av => ?_⟩
  obtain ⟨p, rfl, e⟩ := av.tI
  exact ⟨p, ns, rfl, e, nd, hl, q _ H2 s2 (.im (.int _))⟩
end Shr


namespace Shr
open PySem PySem.Spec L2
/-! ### the text by places -/
def topS (i : Nat) : Stmt := PySem.Challenge.pw_sharewell_k27_whole_schemes_of_orders.main.body.getD i (.Pass ⟨0, 0, 0, 0⟩)
abbrev s_whole : Stmt := topS 6
abbrev s_within : Stmt := topS 7
abbrev s_tuple_of : Stmt := topS 8
abbrev s_is_ratio : Stmt := topS 9
abbrev s_low : Stmt := topS 10
abbrev s_plus : Stmt := topS 11
abbrev s_is_less : Stmt := topS 12
abbrev s_sum_of : Stmt := topS 13
abbrev s_is_order : Stmt := topS 14
abbrev s_need_order : Stmt := topS 15
abbrev s_group_of : Stmt := topS 16
abbrev s_members_of : Stmt := topS 19
abbrev s_is_table : Stmt := topS 20
abbrev s_need_table : Stmt := topS 21
abbrev s_part_of : Stmt := topS 22
abbrev s_marginals : Stmt := topS 24
abbrev s_steps_of : Stmt := topS 26
abbrev s_scheme_flaw : Stmt := topS 27
abbrev s_order_scheme : Stmt := topS 28
abbrev s_takenL : Stmt := topS 30
abbrev s_membersL : Stmt := topS 31
abbrev s_pickL : Stmt := topS 32
abbrev s_touchedL : Stmt := topS 33
abbrev s_groupL : Stmt := topS 34
abbrev s_tableL : Stmt := topS 35
abbrev s_ordersL : Stmt := topS 36
abbrev s_alikeL : Stmt := topS 37
abbrev s_addedL : Stmt := topS 38
abbrev s_markL : Stmt := topS 39
abbrev s_partL : Stmt := topS 40
abbrev s_scheme_ofL : Stmt := topS 41
abbrev s_sizeL : Stmt := topS 42
abbrev s_bentL : Stmt := topS 43
abbrev s_lowL : Stmt := topS 44
abbrev s_ratioL : Stmt := topS 45
abbrev s_are_ratiosL : Stmt := topS 46
abbrev s_plusL : Stmt := topS 47
abbrev s_sumL : Stmt := topS 48
abbrev s_lessL : Stmt := topS 49
abbrev s_flawL : Stmt := topS 50
abbrev s_law : Stmt := topS 51
/-- a def of the top as it stands behind it -/
structure Def (K : PySem.W.Frag) (mg : Str → Option Value) (x : Str) (st : Stmt) (ps : List Str) : Prop where
  ex : ∃ (f : Addr) (fd : FuncData), Fun K x x st f fd ∧ mg x = some (.ref f) ∧ Binds K fd ps []
/-- what the walk asks of the top -/
structure Txt (K : PySem.W.Frag) (mg : Str → Option Value) : Prop where
  b_isinstance : mg "isinstance" = none
  b_int : mg "int" = none
  b_bool : mg "bool" = none
  b_tuple : mg "tuple" = none
  b_list : mg "list" = none
  b_str : mg "str" = none
  b_len : mg "len" = none
  b_all : mg "all" = none
  b_set : mg "set" = none
  b_range : mg "range" = none
  b_sum : mg "sum" = none
  b_abs : mg "abs" = none
  b_max : mg "max" = none
  gcd : mg "gcd" = some (.builtin "math.gcd")
  most : ∃ t, mg "MOST_COST" = some (.int 9999 t)
  d_whole : Def K mg "whole" s_whole ["value"]
  d_within : Def K mg "within" s_within ["value", "low", "high"]
  d_tuple_of : Def K mg "tuple_of" s_tuple_of ["value", "low", "high"]
  d_is_ratio : Def K mg "is_ratio" s_is_ratio ["value"]
  d_low : Def K mg "low" s_low ["top", "bottom"]
  d_plus : Def K mg "plus" s_plus ["one", "other"]
  d_is_less : Def K mg "is_less" s_is_less ["one", "other"]
  d_sum_of : Def K mg "sum_of" s_sum_of ["some"]
  d_is_order : Def K mg "is_order" s_is_order ["many", "value"]
  d_need_order : Def K mg "need_order" s_need_order ["many", "value"]
  d_group_of : Def K mg "group_of" s_group_of ["mark"]
  d_members_of : Def K mg "members_of" s_members_of ["table"]
  d_is_table : Def K mg "is_table" s_is_table ["value"]
  d_need_table : Def K mg "need_table" s_need_table ["value"]
  d_part_of : Def K mg "part_of" s_part_of ["table", "group"]
  d_marginals : Def K mg "marginals" s_marginals ["table", "order"]
  d_steps_of : Def K mg "steps_of" s_steps_of ["many"]
  d_scheme_flaw : Def K mg "scheme_flaw" s_scheme_flaw ["table", "value"]
  d_order_scheme : Def K mg "order_scheme" s_order_scheme ["table", "order"]
  d_takenL : Def K mg "_law_taken" s_takenL ["_law_row", "_law_many"]
  d_membersL : Def K mg "_law_members" s_membersL ["_law_row", "_law_most"]
  d_pickL : Def K mg "_law_pick" s_pickL ["_law_row", "_law_things"]
  d_touchedL : Def K mg "_law_touched" s_touchedL ["_law_row", "_law_many", "_law_most"]
  d_groupL : Def K mg "_law_group" s_groupL ["_law_mark_here"]
  d_tableL : Def K mg "_law_table" s_tableL ["_law_row", "_law_many"]
  d_ordersL : Def K mg "_law_orders" s_ordersL ["_law_many"]
  d_alikeL : Def K mg "_law_alike" s_alikeL ["_law_found", "_law_due"]
  d_addedL : Def K mg "_law_added" s_addedL ["_law_table_here", "_law_order"]
  d_markL : Def K mg "_law_mark" s_markL ["_law_group_here"]
  d_partL : Def K mg "_law_part" s_partL ["_law_table_here", "_law_group_here"]
  d_scheme_ofL : Def K mg "_law_scheme_of" s_scheme_ofL ["_law_table_here", "_law_order"]
  d_sizeL : Def K mg "_law_size" s_sizeL ["_law_table_here"]
  d_bentL : Def K mg "_law_bent" s_bentL ["_law_table_here"]
  d_lowL : Def K mg "_law_low" s_lowL ["_law_top", "_law_bottom"]
  d_ratioL : Def K mg "_law_ratio" s_ratioL ["_law_value"]
  d_are_ratiosL : Def K mg "_law_are_ratios" s_are_ratiosL ["_law_value", "_law_many"]
  d_plusL : Def K mg "_law_plus" s_plusL ["_law_one", "_law_other"]
  d_sumL : Def K mg "_law_sum" s_sumL ["_law_some"]
  d_lessL : Def K mg "_law_less" s_lessL ["_law_one", "_law_other"]
  d_flawL : Def K mg "_law_flaw" s_flawL ["_law_table_here", "_law_value"]
abbrev N_whole : List Str := ["value"]
theorem sc_whole : FnScope N_whole ["value"] (defScope s_whole) := ⟨rfl, rfl, rfl, by decide +kernel, rfl, by decide +kernel, by decide +kernel⟩
abbrev N_within : List Str := ["value", "low", "high"]
theorem sc_within : FnScope N_within ["value", "low", "high"] (defScope s_within) := ⟨rfl, rfl, rfl, by decide +kernel, rfl, by decide +kernel, by decide +kernel⟩
abbrev N_tuple_of : List Str := ["value", "low", "high"]
theorem sc_tuple_of : FnScope N_tuple_of ["value", "low", "high"] (defScope s_tuple_of) := ⟨rfl, rfl, rfl, by decide +kernel, rfl, by decide +kernel, by decide +kernel⟩
abbrev N_is_ratio : List Str := ["value"]
theorem sc_is_ratio : FnScope N_is_ratio ["value"] (defScope s_is_ratio) := ⟨rfl, rfl, rfl, by decide +kernel, rfl, by decide +kernel, by decide +kernel⟩
abbrev N_low : List Str := ["top", "bottom", "shared"]
theorem sc_low : FnScope N_low ["top", "bottom"] (defScope s_low) := ⟨rfl, rfl, rfl, by decide +kernel, rfl, by decide +kernel, by decide +kernel⟩
abbrev N_plus : List Str := ["one", "other"]
theorem sc_plus : FnScope N_plus ["one", "other"] (defScope s_plus) := ⟨rfl, rfl, rfl, by decide +kernel, rfl, by decide +kernel, by decide +kernel⟩
abbrev N_is_less : List Str := ["one", "other"]
theorem sc_is_less : FnScope N_is_less ["one", "other"] (defScope s_is_less) := ⟨rfl, rfl, rfl, by decide +kernel, rfl, by decide +kernel, by decide +kernel⟩
abbrev N_sum_of : List Str := ["some", "found", "told"]
theorem sc_sum_of : FnScope N_sum_of ["some"] (defScope s_sum_of) := ⟨rfl, rfl, rfl, by decide +kernel, rfl, by decide +kernel, by decide +kernel⟩
abbrev N_is_order : List Str := ["many", "value", "told"]
theorem sc_is_order : FnScope N_is_order ["many", "value"] (defScope s_is_order) := ⟨rfl, rfl, rfl, by decide +kernel, rfl, by decide +kernel, by decide +kernel⟩
abbrev N_need_order : List Str := ["many", "value"]
theorem sc_need_order : FnScope N_need_order ["many", "value"] (defScope s_need_order) := ⟨rfl, rfl, rfl, by decide +kernel, rfl, by decide +kernel, by decide +kernel⟩
abbrev N_group_of : List Str := ["mark", "found", "told"]
theorem sc_group_of : FnScope N_group_of ["mark"] (defScope s_group_of) := ⟨rfl, rfl, rfl, by decide +kernel, rfl, by decide +kernel, by decide +kernel⟩
abbrev N_members_of : List Str := ["table"]
theorem sc_members_of : FnScope N_members_of ["table"] (defScope s_members_of) := ⟨rfl, rfl, rfl, by decide +kernel, rfl, by decide +kernel, by decide +kernel⟩
abbrev N_is_table : List Str := ["value", "cost"]
theorem sc_is_table : FnScope N_is_table ["value"] (defScope s_is_table) := ⟨rfl, rfl, rfl, by decide +kernel, rfl, by decide +kernel, by decide +kernel⟩
abbrev N_need_table : List Str := ["value"]
theorem sc_need_table : FnScope N_need_table ["value"] (defScope s_need_table) := ⟨rfl, rfl, rfl, by decide +kernel, rfl, by decide +kernel, by decide +kernel⟩
abbrev N_part_of : List Str := ["table", "group", "marks", "told", "mark"]
theorem sc_part_of : FnScope N_part_of ["table", "group"] (defScope s_part_of) := ⟨rfl, rfl, rfl, by decide +kernel, rfl, by decide +kernel, by decide +kernel⟩
abbrev N_marginals : List Str := ["table", "order", "found", "mark", "told"]
theorem sc_marginals : FnScope N_marginals ["table", "order"] (defScope s_marginals) := ⟨rfl, rfl, rfl, by decide +kernel, rfl, by decide +kernel, by decide +kernel⟩
abbrev N_steps_of : List Str := ["many", "found", "mark", "joining", "told"]
theorem sc_steps_of : FnScope N_steps_of ["many"] (defScope s_steps_of) := ⟨rfl, rfl, rfl, by decide +kernel, rfl, by decide +kernel, by decide +kernel⟩
abbrev N_scheme_flaw : List Str := ["table", "value", "many", "mark", "size", "joining", "told", "more", "before", "share"]
theorem sc_scheme_flaw : FnScope N_scheme_flaw ["table", "value"] (defScope s_scheme_flaw) := ⟨rfl, rfl, rfl, by decide +kernel, rfl, by decide +kernel, by decide +kernel⟩
abbrev N_order_scheme : List Str := ["table", "order", "found", "mark", "group", "names", "told", "part"]
theorem sc_order_scheme : FnScope N_order_scheme ["table", "order"] (defScope s_order_scheme) := ⟨rfl, rfl, rfl, by decide +kernel, rfl, by decide +kernel, by decide +kernel⟩
abbrev N_takenL : List Str := ["_law_row", "_law_many", "_law_found", "_law_cell"]
theorem sc_takenL : FnScope N_takenL ["_law_row", "_law_many"] (defScope s_takenL) := ⟨rfl, rfl, rfl, by decide +kernel, rfl, by decide +kernel, by decide +kernel⟩
abbrev N_membersL : List Str := ["_law_row", "_law_most"]
theorem sc_membersL : FnScope N_membersL ["_law_row", "_law_most"] (defScope s_membersL) := ⟨rfl, rfl, rfl, by decide +kernel, rfl, by decide +kernel, by decide +kernel⟩
abbrev N_pickL : List Str := ["_law_row", "_law_things"]
theorem sc_pickL : FnScope N_pickL ["_law_row", "_law_things"] (defScope s_pickL) := ⟨rfl, rfl, rfl, by decide +kernel, rfl, by decide +kernel, by decide +kernel⟩
abbrev N_touchedL : List Str := ["_law_row", "_law_many", "_law_most", "_law_found", "_law_turn", "_law_users", "_law_cost", "_law_told", "_law_mark_here"]
theorem sc_touchedL : FnScope N_touchedL ["_law_row", "_law_many", "_law_most"] (defScope s_touchedL) := ⟨rfl, rfl, rfl, by decide +kernel, rfl, by decide +kernel, by decide +kernel⟩
abbrev N_groupL : List Str := ["_law_mark_here", "_law_told"]
theorem sc_groupL : FnScope N_groupL ["_law_mark_here"] (defScope s_groupL) := ⟨rfl, rfl, rfl, by decide +kernel, rfl, by decide +kernel, by decide +kernel⟩
abbrev N_tableL : List Str := ["_law_row", "_law_many", "_law_way", "_law_most", "_law_costs", "_law_found", "_law_turn", "_law_mark_here", "_law_step", "_law_size_here"]
theorem sc_tableL : FnScope N_tableL ["_law_row", "_law_many"] (defScope s_tableL) := ⟨rfl, rfl, rfl, by decide +kernel, rfl, by decide +kernel, by decide +kernel⟩
abbrev N_ordersL : List Str := ["_law_many", "_law_found", "_law_turn", "_law_longer", "_law_order", "_law_told"]
theorem sc_ordersL : FnScope N_ordersL ["_law_many"] (defScope s_ordersL) := ⟨rfl, rfl, rfl, by decide +kernel, rfl, by decide +kernel, by decide +kernel⟩
abbrev N_alikeL : List Str := ["_law_found", "_law_due", "_law_k"]
theorem sc_alikeL : FnScope N_alikeL ["_law_found", "_law_due"] (defScope s_alikeL) := ⟨rfl, rfl, rfl, by decide +kernel, rfl, by decide +kernel, by decide +kernel⟩
abbrev N_addedL : List Str := ["_law_table_here", "_law_order", "_law_found", "_law_mark_here", "_law_told"]
theorem sc_addedL : FnScope N_addedL ["_law_table_here", "_law_order"] (defScope s_addedL) := ⟨rfl, rfl, rfl, by decide +kernel, rfl, by decide +kernel, by decide +kernel⟩
abbrev N_markL : List Str := ["_law_group_here", "_law_told"]
theorem sc_markL : FnScope N_markL ["_law_group_here"] (defScope s_markL) := ⟨rfl, rfl, rfl, by decide +kernel, rfl, by decide +kernel, by decide +kernel⟩
abbrev N_partL : List Str := ["_law_table_here", "_law_group_here", "_law_found", "_law_mark_here", "_law_place"]
theorem sc_partL : FnScope N_partL ["_law_table_here", "_law_group_here"] (defScope s_partL) := ⟨rfl, rfl, rfl, by decide +kernel, rfl, by decide +kernel, by decide +kernel⟩
abbrev N_scheme_ofL : List Str := ["_law_table_here", "_law_order", "_law_found", "_law_mark_here", "_law_group_here", "_law_added_here", "_law_told", "_law_part_here"]
theorem sc_scheme_ofL : FnScope N_scheme_ofL ["_law_table_here", "_law_order"] (defScope s_scheme_ofL) := ⟨rfl, rfl, rfl, by decide +kernel, rfl, by decide +kernel, by decide +kernel⟩
abbrev N_sizeL : List Str := ["_law_table_here"]
theorem sc_sizeL : FnScope N_sizeL ["_law_table_here"] (defScope s_sizeL) := ⟨rfl, rfl, rfl, by decide +kernel, rfl, by decide +kernel, by decide +kernel⟩
abbrev N_bentL : List Str := ["_law_table_here", "_law_many", "_law_mark_here", "_law_one", "_law_other", "_law_both", "_law_apart"]
theorem sc_bentL : FnScope N_bentL ["_law_table_here"] (defScope s_bentL) := ⟨rfl, rfl, rfl, by decide +kernel, rfl, by decide +kernel, by decide +kernel⟩
abbrev N_lowL : List Str := ["_law_top", "_law_bottom", "_law_one", "_law_other", "_law_turn"]
theorem sc_lowL : FnScope N_lowL ["_law_top", "_law_bottom"] (defScope s_lowL) := ⟨rfl, rfl, rfl, by decide +kernel, rfl, by decide +kernel, by decide +kernel⟩
abbrev N_ratioL : List Str := ["_law_value", "_law_part_here"]
theorem sc_ratioL : FnScope N_ratioL ["_law_value"] (defScope s_ratioL) := ⟨rfl, rfl, rfl, by decide +kernel, rfl, by decide +kernel, by decide +kernel⟩
abbrev N_are_ratiosL : List Str := ["_law_value", "_law_many", "_law_part_here"]
theorem sc_are_ratiosL : FnScope N_are_ratiosL ["_law_value", "_law_many"] (defScope s_are_ratiosL) := ⟨rfl, rfl, rfl, by decide +kernel, rfl, by decide +kernel, by decide +kernel⟩
abbrev N_plusL : List Str := ["_law_one", "_law_other"]
theorem sc_plusL : FnScope N_plusL ["_law_one", "_law_other"] (defScope s_plusL) := ⟨rfl, rfl, rfl, by decide +kernel, rfl, by decide +kernel, by decide +kernel⟩
abbrev N_sumL : List Str := ["_law_some", "_law_found", "_law_told"]
theorem sc_sumL : FnScope N_sumL ["_law_some"] (defScope s_sumL) := ⟨rfl, rfl, rfl, by decide +kernel, rfl, by decide +kernel, by decide +kernel⟩
abbrev N_lessL : List Str := ["_law_one", "_law_other"]
theorem sc_lessL : FnScope N_lessL ["_law_one", "_law_other"] (defScope s_lessL) := ⟨rfl, rfl, rfl, by decide +kernel, rfl, by decide +kernel, by decide +kernel⟩
abbrev N_flawL : List Str := ["_law_table_here", "_law_value", "_law_many", "_law_mark_here", "_law_group_here", "_law_joining", "_law_more", "_law_told", "_law_after"]
theorem sc_flawL : FnScope N_flawL ["_law_table_here", "_law_value"] (defScope s_flawL) := ⟨rfl, rfl, rfl, by decide +kernel, rfl, by decide +kernel, by decide +kernel⟩
abbrev N_law : List Str := ["_law_script", "_law_row", "_law_many", "_law_table_here", "_law_order", "_law_found", "_law_flaws", "_law_told"]
theorem sc_law : FnScope N_law ["_law_script"] (defScope s_law) := ⟨rfl, rfl, rfl, by decide +kernel, rfl, by decide +kernel, by decide +kernel⟩
end Shr


namespace Shr
open PySem PySem.Spec L2
section
variable {P : Program} {w : World} {K : PySem.W.Frag} {mg : Str → Option Value} {base : Heap}
/-- a def of the text keeps a promise: its body, step by step -/
theorem def_fn {x : Str} {st : Stmt} {ps N : List Str} {k : Nat} {sp : Sp} (F : Def K mg x st ps) (S : FnScope N ps (defScope st)) (len : ∀ vs H Q E, sp vs H Q E → vs.length = ps.length)
    (hbody : ∀ (f : Addr) (cdv : Value) (A : Around) (outer : List Env) (s : Shared) (H : Hp) (vs : List V) (Q : VK) (E : XK), Room k (A.deeper (PyProof.Rows.envOfC x (defScope st) s.heap.objs.size f cdv)) → sp vs H Q E →
      CS (cxOf CX0 P w K mg base N x (defScope st) f cdv A outer s H E).nox (defBody st) { nx := fun _ H' => Q .non H', rt := Q } (start N vs) H) : Fn P w K mg base (k + 1) x ps sp := by
  obtain ⟨f, fd, F, gm, gb⟩ := F.ex
  exact ⟨f, fd, F.ok S len fun cdv A outer s H vs Q E hr h => hbody f cdv A outer s H vs Q E hr h, gm, F.kp, gb⟩
/-- .. that changes nothing -/
theorem def_fnF {x : Str} {st : Stmt} {ps N : List Str} {k : Nat} {R : List PyData → PyData → Prop} (F : Def K mg x st ps) (S : FnScope N ps (defScope st)) (len : ∀ ds d, R ds d → ds.length = ps.length)
    (hbody : ∀ (f : Addr) (cdv : Value) (A : Around) (outer : List Env) (s : Shared) (H : Hp) (vs : List V) (Q : VK) (E : XK) (ds : List PyData) (d : PyData), Room k (A.deeper (PyProof.Rows.envOfC x (defScope st) s.heap.objs.size f cdv)) → ArAll H vs ds → R ds d → (∀ r H', Same H H' → Ar H' r d → Q r H') →
      CS (cxOf CX0 P w K mg base N x (defScope st) f cdv A outer s H E).nox (defBody st) { nx := fun _ H' => Q .non H', rt := Q } (start N vs) H) : Fn P w K mg base (k + 1) x ps (spF R) :=
  def_fn F S (spF_len len) fun f cdv A outer s H vs Q E hr ⟨ds, d, a, r, q⟩ => hbody f cdv A outer s H vs Q E ds d hr a r q
theorem ArAll.three {H1 : Hp} {vs : List V} {a b c : PyData} (h : ArAll H1 vs [a, b, c]) : ∃ x y z, vs = [x, y, z] ∧ Ar H1 x a ∧ Ar H1 y b ∧ Ar H1 z c := by
  cases h with
  | cons h t =>
    obtain ⟨y, z, rfl, g, k⟩ := ArAll.two t
    exact ⟨_, y, z, rfl, h, g, k⟩
theorem bt_int : bootBuiltins "int" = some (.type "int") := by decide +kernel
theorem bt_bool : bootBuiltins "bool" = some (.type "bool") := by decide +kernel
theorem bt_list : bootBuiltins "list" = some (.type "list") := by decide +kernel
theorem bt_str : bootBuiltins "str" = some (.type "str") := by decide +kernel

theorem kt_int_int : kitB "int" "int" = some true := by decide +kernel
theorem kt_int_bool : kitB "int" "bool" = some false := by decide +kernel

/-! ### checks -/
def Rwhole : List PyData → PyData → Prop := fun ds d => ∃ i, ds = [.int i] ∧ d = .bool true
theorem fn_whole (T : Txt K mg) : Fn P w K mg base 1 "whole" ["value"] (spF Rwhole) := by
  refine def_fnF T.d_whole sc_whole (fun ds d ⟨i, e, _⟩ => by rw [e]; rfl) fun f cdv A outer s H vs Q E ds d hr a r q => ?_
  obtain ⟨i, rfl, rfl⟩ := r
  obtain ⟨v, rfl, av⟩ := a.one
  exact cs_ret (ce_and (k := true) (l := true) (ce_isi (fun _ => T.b_isinstance) (fun _ => T.b_int) bt_int (ce_v 0 rfl av) kt_int_int)
    (ce_one (ce_not (k := false) (ce_isi (fun _ => T.b_isinstance) (fun _ => T.b_bool) bt_bool (ce_v 0 rfl av) kt_int_bool)))) q
def Rwithin : List PyData → PyData → Prop := fun ds d => ∃ i lo hi : Int, ds = [.int i, .int lo, .int hi] ∧ d = .bool (decide (lo ≤ i ∧ i ≤ hi))
theorem fn_within (T : Txt K mg) : Fn P w K mg base 2 "within" ["value", "low", "high"] (spF Rwithin) := by
  refine def_fnF T.d_within sc_within (fun ds d ⟨i, _, _, e, _⟩ => by rw [e]; rfl) fun f cdv A outer s H vs Q E ds d hr a r q => ?_
  obtain ⟨i, lo, hi, rfl, rfl⟩ := r
  obtain ⟨x, y, z, rfl, ax, ay, az⟩ := a.three
  exact cs_ret ((ce_and (k := true) (ce_call (fn_whole T) (fun _ => ⟨rfl, rfl, rfl, rfl, rfl⟩) (fun _ => hr) (ca_cons (ce_v 0 rfl ax) ca_nil) ⟨i, rfl, rfl⟩)
    (ce_one (ce_chainLe (ce_v 1 rfl ay) (ce_v 0 rfl ax) (ce_v 2 rfl az)))).eq (by rw [Bool.true_and])) q
theorem kt_tup_tup : kitB "tuple" "tuple" = some true := by decide +kernel
def Rtuple_of : List PyData → PyData → Prop := fun ds d => ∃ (es : List PyData) (lo hi : Int), ds = [.tuple es, .int lo, .int hi] ∧ d = .bool (decide (lo ≤ (es.length : Nat) ∧ ((es.length : Nat) : Int) ≤ hi))
theorem fn_tuple_of (T : Txt K mg) : Fn P w K mg base 1 "tuple_of" ["value", "low", "high"] (spF Rtuple_of) := by
  refine def_fnF T.d_tuple_of sc_tuple_of (fun ds d ⟨i, _, _, e, _⟩ => by rw [e]; rfl) fun f cdv A outer s H vs Q E ds d hr a r q => ?_
  obtain ⟨es, lo, hi, rfl, rfl⟩ := r
  obtain ⟨x, y, z, rfl, ax, ay, az⟩ := a.three
  exact cs_ret ((ce_and (k := true) (ce_isi (fun _ => T.b_isinstance) (fun _ => T.b_tuple) boot_tuple (ce_v 0 rfl ax) kt_tup_tup)
    (ce_one (ce_chainLe (ce_v 1 rfl ay) (ce_lenT (fun _ => T.b_len) (ce_v 0 rfl ax)) (ce_v 2 rfl az)))).eq (by rw [Bool.true_and])) q
/-- a ratio over 1 -/
abbrev pr (x : Int) : PyData := .tuple [.int x, .int 1]
abbrev row (l : List Int) : PyData := .tuple (l.map pr)
abbrev sch (S : List (List Int)) : PyData := .tuple (S.map row)
def Ris_ratio : List PyData → PyData → Prop := fun ds d => ∃ x : Int, ds = [pr x] ∧ d = .bool true
theorem gcd_one (x : Int) : Nat.gcd x.natAbs (1 : Int).natAbs = 1 := Nat.gcd_one_right _
theorem fn_is_ratio (T : Txt K mg) : Fn P w K mg base 2 "is_ratio" ["value"] (spF Ris_ratio) := by
  refine def_fnF T.d_is_ratio sc_is_ratio (fun ds d ⟨i, e, _⟩ => by rw [e]; rfl) fun f cdv A outer s H vs Q E ds d hr a r q => ?_
  obtain ⟨x, rfl, rfl⟩ := r
  obtain ⟨v, rfl, av⟩ := a.one
  refine cs_if (k := false) (cw_or (k := false) (l := false) (ct_not (k := true) (ct_val (ce_call (fn_tuple_of T) (fun _ => ⟨rfl, rfl, rfl, rfl, rfl⟩) (fun _ => hr) (ca_cons (ce_v 0 rfl av) (ca_cons ce_int (ca_cons ce_int ca_nil))) ⟨_, 2, 2, rfl, rfl⟩)))
    (cw_or (k := false) (l := false) (ct_not (k := true) (ct_val (ce_call (fn_whole T) (fun _ => ⟨rfl, rfl, rfl, rfl, rfl⟩) (fun _ => hr) (ca_cons (ce_ixT (k := 0) (ce_v 0 rfl av) ce_int rfl) ca_nil) ⟨_, rfl, rfl⟩)))
      (cw_or1 (ct_not (k := true) (ct_val (ce_call (fn_whole T) (fun _ => ⟨rfl, rfl, rfl, rfl, rfl⟩) (fun _ => hr) (ca_cons (ce_ixT (k := 1) (ce_v 0 rfl av) ce_int rfl) ca_nil) ⟨_, rfl, rfl⟩)))))).ct (fun h => by cases h) fun _ H1 s1 => cs_nil ?_
  have av := av.mono s1
  refine cs_ret (d := .bool true) ((ce_and (k := true) (l := true) (ce_gt (ce_ixT (k := 1) (ce_v 0 rfl av) ce_int rfl) ce_int) (ce_one ((ce_eqI (ce_gcd (fun _ => T.gcd) (ce_ixT (k := 0) (ce_v 0 rfl av) ce_int rfl) (ce_ixT (k := 1) (ce_v 0 rfl av) ce_int rfl)) ce_int).eq ?_)))) fun v H2 s2 a2 => q v H2 (s1.trans s2) a2
  rw [gcd_one]
  rfl
def Rlow : List PyData → PyData → Prop := fun ds d => ∃ x : Int, ds = [.int x, .int 1] ∧ d = pr x
theorem fn_low (T : Txt K mg) : Fn P w K mg base 1 "low" ["top", "bottom"] (spF Rlow) := by
  refine def_fnF T.d_low sc_low (fun ds d ⟨i, e, _⟩ => by rw [e]; rfl) fun f cdv A outer s H vs Q E ds d hr a r q => ?_
  obtain ⟨x, rfl, rfl⟩ := r
  obtain ⟨v, y, rfl, av, ay⟩ := a.two
  refine cs_set 2 sc_low.nd (d := .int 1) ((ce_gcd (fun _ => T.gcd) (ce_v 0 rfl av) (ce_v 1 rfl ay)).eq (by rw [gcd_one]; rfl)) fun g H1 s1 ag => ?_
  refine cs_if (k := false) (ct_lt (ce_v 1 rfl (ay.mono s1)) ce_int) (fun h => by cases h) fun _ H2 s2 => cs_nil ?_
  have ag := ag.mono s2
  have s3 := s1.trans s2
  refine cs_ret (d := pr x) (ce_tup (ca_cons ((ce_fdiv (ce_v 0 rfl (av.mono s3)) (ce_v 2 rfl ag) ⟨by decide, by decide⟩).eq (by rw [Int.ediv_one])) (ca_cons ((ce_fdiv (ce_v 1 rfl (ay.mono s3)) (ce_v 2 rfl ag) ⟨by decide, by decide⟩).eq rfl) ca_nil))) fun v H4 s4 a4 => q v H4 (s3.trans s4) a4
theorem mul1 {i : Int} : CMul i 1 := .inr ⟨by decide, by decide⟩
def Rplus : List PyData → PyData → Prop := fun ds d => ∃ x y : Int, ds = [pr x, pr y] ∧ d = pr (x + y)
theorem fn_plus (T : Txt K mg) : Fn P w K mg base 2 "plus" ["one", "other"] (spF Rplus) := by
  refine def_fnF T.d_plus sc_plus (fun ds d ⟨i, _, e, _⟩ => by rw [e]; rfl) fun f cdv A outer s H vs Q E ds d hr a r q => ?_
  obtain ⟨x, y, rfl, rfl⟩ := r
  obtain ⟨v, u, rfl, av, au⟩ := a.two
  have c00 : CE (U (cxOf CX0 P w K mg base N_plus "plus" (defScope s_plus) f cdv A outer s H E).nox) (start N_plus [v, u]) H (.Name "one" ⟨0, 0, 0, 0⟩) (pr x) := ce_v 0 rfl av
  refine cs_ret (d := pr (x + y)) (ce_call (fn_low T) (fun _ => ⟨rfl, rfl, rfl, rfl, rfl⟩) (fun _ => hr) (ca_cons (ce_add (ce_mul (ce_ixT (k := 0) (ce_v 0 rfl av) ce_int rfl) (ce_ixT (k := 1) (ce_v 1 rfl au) ce_int rfl) mul1) (ce_mul (ce_ixT (k := 0) (ce_v 1 rfl au) ce_int rfl) (ce_ixT (k := 1) (ce_v 0 rfl av) ce_int rfl) mul1))
    (ca_cons (ce_mul (ce_ixT (k := 1) (ce_v 0 rfl av) ce_int rfl) (ce_ixT (k := 1) (ce_v 1 rfl au) ce_int rfl) mul1) ca_nil)) ⟨x + y, by rw [Int.mul_one, Int.mul_one]; rfl, rfl⟩) q
def Ris_less : List PyData → PyData → Prop := fun ds d => ∃ x y : Int, ds = [pr x, pr y] ∧ d = .bool (decide (x < y))
theorem fn_is_less (T : Txt K mg) : Fn P w K mg base 1 "is_less" ["one", "other"] (spF Ris_less) := by
  refine def_fnF T.d_is_less sc_is_less (fun ds d ⟨i, _, e, _⟩ => by rw [e]; rfl) fun f cdv A outer s H vs Q E ds d hr a r q => ?_
  obtain ⟨x, y, rfl, rfl⟩ := r
  obtain ⟨v, u, rfl, av, au⟩ := a.two
  exact cs_ret ((ce_lt (ce_mul (ce_ixT (k := 0) (ce_v 0 rfl av) ce_int rfl) (ce_ixT (k := 1) (ce_v 1 rfl au) ce_int rfl) mul1) (ce_mul (ce_ixT (k := 0) (ce_v 1 rfl au) ce_int rfl) (ce_ixT (k := 1) (ce_v 0 rfl av) ce_int rfl) mul1)).eq (by rw [Int.mul_one, Int.mul_one])) q
def Rsum_of : List PyData → PyData → Prop := fun ds d => ∃ l : List Int, ds = [row l] ∧ d = pr l.sum
theorem fn_sum_of (T : Txt K mg) : Fn P w K mg base 3 "sum_of" ["some"] (spF Rsum_of) := by
  refine def_fnF T.d_sum_of sc_sum_of (fun ds d ⟨i, e, _⟩ => by rw [e]; rfl) fun f cdv A outer s H vs Q E ds d hr a r q => ?_
  obtain ⟨l, rfl, rfl⟩ := r
  obtain ⟨v, rfl, av⟩ := a.one
  refine cs_set 1 sc_sum_of.nd (d := pr 0) (ce_tup (ca_cons ce_int (ca_cons ce_int ca_nil))) fun g H1 s1 ag => ?_
  refine cs_for (ci_tup (K := K) (ce_v 0 rfl (av.mono s1)) fun _ => rfl) (pg_name (i := 2) sc_sum_of.nd rfl (Or.inl rfl)) PassesOwn.never fun H2 Gd s2 gk => ?_
  refine ⟨fun i σ' H' => ∃ x y, σ' = [some v, some x, y] ∧ Ar H' x (pr (l.take i).sum) ∧ Same H2 H', ⟨g, none, rfl, ag.mono s2, Same.refl _⟩, fun i σ' H' ⟨_, _, _, _, sm⟩ => gk.same sm, fun i d x σ' H' hd hp ax => ?_, fun σ' H' hp => ?_⟩
  · obtain ⟨g, y, rfl, ag, sm⟩ := hp
    rw [List.getElem?_map, Option.map_eq_some_iff] at hd
    obtain ⟨z, hz, rfl⟩ := hd
    refine cs_set 1 sc_sum_of.nd (d := pr (l.take (i + 1)).sum) (ce_call (fn_plus T) (fun _ => ⟨rfl, rfl, rfl, rfl, rfl⟩) (fun _ => hr) (ca_cons (ce_v 1 rfl ag) (ca_cons (ce_v 2 rfl ax) ca_nil)) ⟨_, z, rfl, by rw [sum_take hz]⟩) fun u H4 s4 au => cs_nil ?_
    exact ⟨u, some x, rfl, au, sm.trans s4⟩
  · obtain ⟨g, y, rfl, ag, sm⟩ := hp
    rw [List.length_map, List.take_length] at ag
    exact cs_ret (ce_v 1 rfl ag) fun v H4 s4 a4 => q v H4 (((s1.trans s2).trans sm).trans s4) a4
end
end Shr


namespace Shr
open PySem PySem.Spec L2
/-- numbers of members or groups as data -/
abbrev nI (g : List Nat) : PyData := tI (g.map fun k => ((k : Nat) : Int))
/-- the bits of a number that stand from a place on -/
def bitsF : Nat → Nat → Nat → List Nat
  | 0, _, _ => []
  | f + 1, t, m => (if m % 2 = 1 then [t] else []) ++ bitsF f (t + 1) (m / 2)
theorem bitsF_zero : ∀ f t, bitsF f t 0 = []
  | 0, _ => rfl
  | f + 1, t => by
    show [] ++ bitsF f (t + 1) (0 / 2) = []
    rw [List.nil_append]
    exact bitsF_zero f (t + 1)
theorem bitsF_grp : ∀ m, m < 32 → bitsF 5 0 m = grp m := by decide +kernel
theorem grp_lt {m i : Nat} (h : i ∈ grp m) : i < 5 := List.mem_range.mp (List.mem_filter.mp h).1
theorem grp_len {m : Nat} : (grp m).length ≤ 5 := List.length_filter_le _ _
theorem ImAll.nats {H : Hp} : ∀ (l : List Nat), ImAll H (l.map fun k => V.int ((k : Nat) : Int)) ((l.map fun k => ((k : Nat) : Int)).map PyData.int)
  | [] => .nil
  | _ :: l => .cons (.int _) (ImAll.nats l)
section
variable {P : Program} {w : World} {K : PySem.W.Frag} {mg : Str → Option Value} {base : Heap}
def Rgroup : List PyData → PyData → Prop := fun ds d => ∃ m : Nat, m < 32 ∧ ds = [.int (m : Nat)] ∧ d = nI (grp m)
theorem ofInt {H : Hp} (i : Int) : Ar H (.int i) (.int i) := .im (.int i)
theorem int_of {H : Hp} {v : V} {i j : Int} (h : Ar H v (.int i)) (e : i = j) : v = .int j := by rw [h.int, e]
theorem fn_group_of (T : Txt K mg) : Fn P w K mg base 1 "group_of" ["mark"] (spF Rgroup) := by
  refine def_fnF T.d_group_of sc_group_of (fun ds d ⟨i, _, e, _⟩ => by rw [e]; rfl) fun f cdv A outer s H vs Q E ds d hr a r q => ?_
  obtain ⟨m, hm, rfl, rfl⟩ := r
  obtain ⟨v, rfl, av⟩ := a.one
  have ev := av.int
  subst ev
  refine cs_parLN 1 2 sc_group_of.nd (cn_lst ca_nil) ce_int fun p xs t H1 hp s1 h1 im at_ => ?_
  cases im
  have et := at_.int
  subst et
  refine cs_while (fun n σ' H' => ∃ (t mk : Nat) (acc : List Nat), σ' = [some (.int (mk : Nat)), some (.ref p), some (.int (t : Nat))] ∧ mk < 2 ^ n ∧ acc.length + n ≤ 5 ∧ Same H H' ∧ H' p = some (.lst (acc.map fun k => V.int ((k : Nat) : Int))) ∧ acc ++ bitsF n t mk = grp m)
    PassesOwn.never ⟨5, 0, m, [], rfl, hm, by decide, s1, h1, bitsF_grp m hm⟩ fun n σ' H' hp2 => ?_
  obtain ⟨t, mk, acc, rfl, hmk, hla, sm, hl, hb⟩ := hp2
  refine ⟨decide (0 < (mk : Int)), ct_gt (ce_v 0 rfl (ofInt _)) ce_int, fun hk H2 s2 => ?_, fun hk H2 s2 => ?_⟩
  · have hpos : 0 < (mk : Int) := of_decide_eq_true hk
    obtain ⟨n, rfl⟩ : ∃ n', n = n' + 1 := by
      cases n with
      | zero => have : mk < 1 := hmk; omega
      | succ n => exact ⟨n, rfl⟩
    have hl2 := s2 _ _ hl
    refine cs_ifM (k := decide ((mk : Int) % 2 = 1)) (fun σ3 H3 => σ3 = [some (.int (mk : Nat)), some (.ref p), some (.int (t : Nat))] ∧ Same H H3 ∧ H3 p = some (.lst ((acc ++ (if mk % 2 = 1 then [t] else [])).map fun k => V.int ((k : Nat) : Int))))
      (ct_eqI (ce_mod (ce_v 0 rfl (ofInt _)) ce_int (by decide)) ce_int) (fun h1 H3 s3 => ?_) (fun h1 H3 s3 => cs_nil ?_) fun σ3 H3 hM => ?_
    · have ho : (mk : Int) % 2 = 1 := of_decide_eq_true h1
      have hl3 := s3 _ _ hl2
      refine cs_append (own_v 1 rfl) hl3 (ce_v 2 rfl (ofInt _)) (by rw [List.length_map]; omega) fun v H4 s4 av => cs_nil ?_
      have e4 := av.int
      subst e4
      refine ⟨rfl, same_own ((sm.trans (s2.trans s3)).trans s4) hp _, ?_⟩
      rw [upd_same, if_pos (by omega), List.map_append]
      rfl
    · have ho : ¬ (mk : Int) % 2 = 1 := of_decide_eq_false h1
      refine ⟨rfl, sm.trans (s2.trans s3), ?_⟩
      rw [if_neg (by omega), List.append_nil]
      exact s3 _ _ hl2
    · obtain ⟨rfl, s3, h3⟩ := hM
      refine cs_par 0 2 sc_group_of.nd (ce_fdiv (ce_v 0 rfl (ofInt _)) ce_int ⟨by decide, by decide⟩) (ce_add (ce_v 2 rfl (ofInt _)) ce_int) fun v u H4 s4 av au => cs_nil ?_
      refine ⟨n, Nat.lt_succ_self n, t + 1, mk / 2, _, ?_, by omega, ?_, s3.trans s4, s4 _ _ h3, ?_⟩
      · rw [int_of (j := ((mk / 2 : Nat) : Int)) av (by omega), int_of (j := ((t + 1 : Nat) : Int)) au (by omega)]
        rfl
      · rw [List.length_append]
        split <;> simp <;> omega
      · rw [List.append_assoc]
        exact hb
  · have hz : ¬ 0 < (mk : Int) := of_decide_eq_false hk
    have hz : mk = 0 := by omega
    subst hz
    rw [bitsF_zero, List.append_nil] at hb
    subst hb
    have hl2 := s2 _ _ hl
    have im : ImAll H2 ((grp m).map fun k => V.int ((k : Nat) : Int)) (((grp m).map fun k => ((k : Nat) : Int)).map PyData.int) := by
      exact ImAll.nats _
    exact cs_ret (ce_tupleL (fun _ => T.b_tuple) (ce_v 1 rfl (.lst hl2 im))) fun v H4 s4 a4 => q v H4 (sm.trans (s2.trans s4)) a4
theorem bits_pow : ∀ n, n ≤ 5 → Builtin.Int.intBits ((2 ^ n : Nat) : Int) = n + 1 := by decide +kernel
def Rmembers : List PyData → PyData → Prop := fun ds d => ∃ (t : List Int) (n : Nat), n ≤ 5 ∧ t.length = 2 ^ n ∧ ds = [tI t] ∧ d = .int (n : Nat)
theorem fn_members_of (T : Txt K mg) : Fn P w K mg base 1 "members_of" ["table"] (spF Rmembers) := by
  refine def_fnF T.d_members_of sc_members_of (fun ds d ⟨_, _, _, _, e, _⟩ => by rw [e]; rfl) fun f cdv A outer s H vs Q E ds d hr a r q => ?_
  obtain ⟨t, n, hn, hl, rfl, rfl⟩ := r
  obtain ⟨v, rfl, av⟩ := a.one
  refine cs_ret ((ce_sub (ce_bits (ce_lenT (fun _ => T.b_len) (ce_v 0 rfl av))) ce_int).eq ?_) q
  rw [List.length_map, hl, bits_pow n hn]
  congr 1
  omega
/-- a table of n members -/
structure Tab (n : Nat) (t : List Int) : Prop where
  n1 : 1 ≤ n
  n5 : n ≤ 5
  len : t.length = 2 ^ n
  bd : ∀ x ∈ t, 0 ≤ x ∧ x ≤ 9999
  zero : t.getD 0 0 = 0
theorem Tab.pos {n : Nat} {t : List Int} (h : Tab n t) : 0 < t.length := by
  rw [h.len]
  exact Nat.two_pow_pos n
theorem pow32 : ∀ {n : Nat}, n ≤ 5 → 2 ^ n ≤ 32 := fun {n} h => Nat.pow_le_pow_right (by decide) h
theorem Tab.le {n : Nat} {t : List Int} (h : Tab n t) : t.length ≤ 32 := by
  rw [h.len]
  exact pow32 h.n5
theorem pow_mem : ∀ n, n ≤ 5 → 1 ≤ n → ([2, 4, 8, 16, 32] : List Int).contains ((2 ^ n : Nat) : Int) = true := by decide +kernel
def Ris_table : List PyData → PyData → Prop := fun ds d => ∃ (t : List Int) (n : Nat), Tab n t ∧ ds = [tI t] ∧ d = .bool true
theorem fn_is_table (T : Txt K mg) : Fn P w K mg base 3 "is_table" ["value"] (spF Ris_table) := by
  refine def_fnF T.d_is_table sc_is_table (fun ds d ⟨_, _, _, e, _⟩ => by rw [e]; rfl) fun f cdv A outer s H vs Q E ds d hr a r q => ?_
  obtain ⟨t, n, ht, rfl, rfl⟩ := r
  obtain ⟨v, rfl, av⟩ := a.one
  obtain ⟨tk, hmost⟩ := T.most
  refine cs_if (k := false) (cw_or (k := false) (l := false) (ct_not (k := true) (ct_val (ce_isi (fun _ => T.b_isinstance) (fun _ => T.b_tuple) boot_tuple (ce_v 0 rfl av) kt_tup_tup)))
    (cw_or1 ((ct_notInT (l := [2, 4, 8, 16, 32]) (ce_lenT (fun _ => T.b_len) (ce_v 0 rfl av)) (ce_tup (ca_cons ce_int (ca_cons ce_int (ca_cons ce_int (ca_cons ce_int (ca_cons ce_int ca_nil))))))).eq (by rw [List.length_map, ht.len, pow_mem n ht.n5 ht.n1]; rfl)))).ct (fun h => by cases h) fun _ H1 s1 => cs_nil ?_
  have av := av.mono s1
  have hz : (tI t) = .tuple (t.map .int) := rfl
  refine cs_ret (d := .bool true) (ce_and (k := true) (l := true) ((ce_all (bs := t.map fun _ => true) (fun _ => T.b_all) ((cn_map 1 (fun _ => .bool true) (ci_tup (K := K) (ce_v 0 rfl av) fun _ => rfl) (by rw [List.length_map]; have := ht.le; omega) (fun i d v H2 hd s2 a2 => ⟨rfl, ?_⟩) (fun _ => sc_is_table.nd) (fun _ => blkOk_by (N := N_is_table) (sc := defScope s_is_table) (by decide +kernel))).eq ?_).ce).eq ?_)
    (ce_one ((ce_eqI (ce_ixI (k := 0) (ce_v 0 rfl av) ce_int ht.pos) ce_int).eq (by rw [ht.zero]; rfl)))) fun v H2 s2 a2 => q v H2 (s1.trans s2) a2
  · rw [List.getElem?_map, Option.map_eq_some_iff] at hd
    obtain ⟨z, hz, rfl⟩ := hd
    refine ce_call (fn_within T) (fun _ => ⟨rfl, rfl, rfl, rfl, rfl⟩) (fun _ => hr) (ca_cons (ce_v 1 rfl a2) (ca_cons ce_int (ca_cons (ce_glI fun _ => hmost) ca_nil))) ⟨z, 0, 9999, rfl, ?_⟩
    rw [decide_eq_true (ht.bd z (List.mem_of_getElem? hz))]
  · rw [List.map_map, List.map_map]
    rfl
  · congr 1
    rw [List.all_map]
    exact List.all_eq_true.mpr fun x hx => rfl
end
end Shr


namespace Shr
open PySem PySem.Spec L2
/-! ### bits, by looking at all of them -/
def bitC (k m i : Nat) : Bool := m.testBit i || (decide (m + 2 ^ i < 2 ^ k) && decide (Builtin.bitOr (m : Int) (1 * 2 ^ i) = ((m + 2 ^ i : Nat) : Int)) && (List.range 5).all fun j => (m + 2 ^ i).testBit j == (m.testBit j || decide (j = i)))
theorem bitC_all : ((List.range 6).all fun k => (List.range (2 ^ k)).all fun m => (List.range k).all fun i => bitC k m i) = true := by decide +kernel
theorem bitstep (k : Nat) (hk : k ≤ 5) (m : Nat) (hm : m < 2 ^ k) (i : Nat) (hi : i < k) (hb : m.testBit i = false) : m + 2 ^ i < 2 ^ k ∧ Builtin.bitOr (m : Int) (1 * 2 ^ i) = ((m + 2 ^ i : Nat) : Int) ∧ ∀ j : Nat, j < 5 → (m + 2 ^ i).testBit j = (m.testBit j || decide (j = i)) := by
  have h := List.all_eq_true.mp (List.all_eq_true.mp (List.all_eq_true.mp bitC_all k (List.mem_range.mpr (by omega))) m (List.mem_range.mpr hm)) i (List.mem_range.mpr hi)
  unfold bitC at h
  rw [hb, Bool.false_or, Bool.and_eq_true, Bool.and_eq_true] at h
  obtain ⟨⟨h1, h2⟩, h3⟩ := h
  exact ⟨of_decide_eq_true h1, of_decide_eq_true h2, fun j hj => eq_of_beq (List.all_eq_true.mp h3 j (List.mem_range.mpr hj))⟩
theorem bit_and1 : ∀ m : Nat, m < 32 → ∀ j : Nat, j < 5 → Builtin.bitAnd ((m : Int) / 2 ^ j) 1 = if m.testBit j then 1 else 0 := by decide +kernel
theorem shl_toNat (i : Nat) : (1 : Int) * 2 ^ ((i : Nat) : Int).toNat = 1 * 2 ^ i := rfl
theorem cpow {i : Nat} (h : i < 100) : CPow 1 ((i : Nat) : Int) := ⟨by omega, by omega, by decide⟩
/-! ### orders -/
theorem ordK_facts (n : Nat) : ∀ (k : Nat) (o : List Nat), o ∈ ordK n k → o.length = k ∧ o.Nodup ∧ ∀ x ∈ o, x < n
  | 0, o, h => by
    have e : o = [] := by simpa [ordK] using h
    subst e
    exact ⟨rfl, List.nodup_nil, fun x hx => nomatch hx⟩
  | k + 1, o, h => by
    unfold ordK ordStep at h
    obtain ⟨o', h', h⟩ := List.mem_flatMap.mp h
    obtain ⟨i, hi, rfl⟩ := List.mem_map.mp h
    obtain ⟨hi1, hi2⟩ := List.mem_filter.mp hi
    obtain ⟨a, b, c⟩ := ordK_facts n k o' h'
    have hn : i ∉ o' := fun hm => by
      rw [List.contains_iff_mem.mpr hm] at hi2
      cases hi2
    refine ⟨by rw [List.length_append, a]; rfl, List.nodup_append.mpr ⟨b, by simp, fun x hx y hy e => ?_⟩, fun x hx => ?_⟩
    · have : y = i := by simpa using hy
      subst this
      subst e
      exact hn hx
    · rcases List.mem_append.mp hx with hx | hx
      · exact c x hx
      · have : x = i := by simpa using hx
        subst this
        exact List.mem_range.mp hi1
theorem nodup_cast {l : List Nat} (h : l.Nodup) : (l.map fun k => ((k : Nat) : Int)).Nodup := by
  induction l with
  | nil => exact List.nodup_nil
  | cons x l ih =>
    obtain ⟨h1, h2⟩ := List.nodup_cons.mp h
    refine List.nodup_cons.mpr ⟨fun hm => ?_, ih h2⟩
    obtain ⟨y, hy, e⟩ := List.mem_map.mp hm
    have e : ((y : Nat) : Int) = ((x : Nat) : Int) := e
    have : y = x := by omega
    subst this
    exact h1 hy
theorem contains_cast (l : List Nat) (i : Nat) : (l.map fun k => ((k : Nat) : Int)).contains ((i : Nat) : Int) = l.contains i := by
  rw [Bool.eq_iff_iff, List.contains_iff_mem, List.contains_iff_mem, List.mem_map]
  refine ⟨fun ⟨a, h, e⟩ => ?_, fun h => ⟨i, h, rfl⟩⟩
  have : a = i := by omega
  subst this
  exact h
theorem idxOf_cast : ∀ (l : List Nat) (i : Nat), (l.map fun k => ((k : Nat) : Int)).idxOf ((i : Nat) : Int) = l.idxOf i
  | [], _ => rfl
  | x :: l, i => by
    rw [List.map_cons, List.idxOf_cons, List.idxOf_cons, idxOf_cast l i]
    have e : (((x : Nat) : Int) == ((i : Nat) : Int)) = (x == i) := by
      rw [Bool.eq_iff_iff, beq_iff_eq, beq_iff_eq]
      omega
    show (bif (((x : Nat) : Int) == ((i : Nat) : Int)) then _ else _) = _
    rw [e]
theorem nI_at {l : List Nat} {i : Nat} {d : PyData} (h : ((l.map fun k => ((k : Nat) : Int)).map PyData.int)[i]? = some d) : ∃ k, l[i]? = some k ∧ d = .int ((k : Nat) : Int) := by
  rw [List.getElem?_map, List.getElem?_map, Option.map_map, Option.map_eq_some_iff] at h
  obtain ⟨k, h1, h2⟩ := h
  exact ⟨k, h1, h2.symm⟩
abbrev nL (l : List Nat) : PyData := lI (l.map fun k => ((k : Nat) : Int))
section
variable {P : Program} {w : World} {K : PySem.W.Frag} {mg : Str → Option Value} {base : Heap}
def Rneed_table : List PyData → PyData → Prop := fun ds d => ∃ (t : List Int) (n : Nat), Tab n t ∧ ds = [tI t] ∧ d = .none
theorem fn_need_table (T : Txt K mg) : Fn P w K mg base 4 "need_table" ["value"] (spF Rneed_table) := by
  refine def_fnF T.d_need_table sc_need_table (fun ds d ⟨_, _, _, e, _⟩ => by rw [e]; rfl) fun f cdv A outer s H vs Q E ds d hr a r q => ?_
  obtain ⟨t, n, ht, rfl, rfl⟩ := r
  obtain ⟨v, rfl, av⟩ := a.one
  exact cs_if (k := false) (ct_not (k := true) (ct_val (ce_call (fn_is_table T) (fun _ => ⟨rfl, rfl, rfl, rfl, rfl⟩) (fun _ => hr) (ca_cons (ce_v 0 rfl av) ca_nil) ⟨t, n, ht, rfl, rfl⟩))) (fun h => by cases h) fun _ H1 s1 => cs_nil (cs_nil (q _ H1 s1 (.im .non)))
def Ris_order : List PyData → PyData → Prop := fun ds d => ∃ (n : Nat) (o : List Nat), n ≤ 5 ∧ o ∈ orders n ∧ ds = [.int (n : Nat), nI o] ∧ d = .bool true
theorem fn_is_order (T : Txt K mg) : Fn P w K mg base 3 "is_order" ["many", "value"] (spF Ris_order) := by
  refine def_fnF T.d_is_order sc_is_order (fun ds d ⟨_, _, _, _, e, _⟩ => by rw [e]; rfl) fun f cdv A outer s H vs Q E ds d hr a r q => ?_
  obtain ⟨n, o, hn, ho, rfl, rfl⟩ := r
  obtain ⟨x, y, rfl, ax, ay⟩ := a.two
  obtain ⟨hl, hnd, hlt⟩ := ordK_facts n n o ho
  refine cs_if (k := false) (cw_or (k := false) (l := false) (ct_not (k := true) (ct_val ((ce_call (fn_tuple_of T) (fun _ => ⟨rfl, rfl, rfl, rfl, rfl⟩) (fun _ => hr.mono (by decide)) (ca_cons (ce_v 1 rfl ay) (ca_cons (ce_v 0 rfl ax) (ca_cons (ce_v 0 rfl ax) ca_nil))) ⟨_, _, _, rfl, rfl⟩).eq ?_)))
    (cw_or1 (ct_not (k := true) (ct_val ((ce_all (bs := o.map fun _ => true) (fun _ => T.b_all) ((cn_map 2 (fun _ => .bool true) (ci_tup (K := K) (ce_v 1 rfl ay) fun _ => rfl) (by rw [List.length_map, List.length_map, hl]; omega) (fun i d v H2 hd s2 a2 => ⟨rfl, ?_⟩) (fun _ => sc_is_order.nd) (fun _ => blkOk_by (N := N_is_order) (sc := defScope s_is_order) (by decide +kernel))).eq ?_).ce).eq ?_))))).ct (fun h => by cases h) fun _ H1 s1 => cs_nil ?_
  · congr 1
    rw [List.length_map, List.length_map, hl]
    exact decide_eq_true ⟨Int.le_refl _, Int.le_refl _⟩
  · obtain ⟨k, hk, rfl⟩ := nI_at hd
    refine ce_call (fn_within T) (fun _ => ⟨rfl, rfl, rfl, rfl, rfl⟩) (fun _ => hr) (ca_cons (ce_v 2 rfl a2) (ca_cons ce_int (ca_cons (ce_sub (ce_v 0 rfl (ax.mono s2)) ce_int) ca_nil))) ⟨_, _, _, rfl, ?_⟩
    have := hlt k (List.mem_of_getElem? hk)
    rw [decide_eq_true]
    omega
  · rw [List.map_map, List.map_map, List.map_map]
    rfl
  · congr 1
    rw [List.all_map]
    exact List.all_eq_true.mpr fun x hx => rfl
  · refine cs_ret ((ce_eqI (ce_lenSet (fun _ => T.b_len) (fun _ => T.b_set) (ce_v 1 rfl (ay.mono s1)) (nodup_cast hnd) (by rw [List.length_map, hl]; omega)) (ce_v 0 rfl (ax.mono s1))).eq ?_) fun v H2 s2 a2 => q v H2 (s1.trans s2) a2
    congr 1
    rw [List.length_map, hl]
    exact decide_eq_true rfl
def Rneed_order : List PyData → PyData → Prop := fun ds d => ∃ (n : Nat) (o : List Nat), n ≤ 5 ∧ o ∈ orders n ∧ ds = [.int (n : Nat), nI o] ∧ d = .none
theorem fn_need_order (T : Txt K mg) : Fn P w K mg base 4 "need_order" ["many", "value"] (spF Rneed_order) := by
  refine def_fnF T.d_need_order sc_need_order (fun ds d ⟨_, _, _, _, e, _⟩ => by rw [e]; rfl) fun f cdv A outer s H vs Q E ds d hr a r q => ?_
  obtain ⟨n, o, hn, ho, rfl, rfl⟩ := r
  obtain ⟨x, y, rfl, ax, ay⟩ := a.two
  exact cs_if (k := false) (ct_not (k := true) (ct_val (ce_call (fn_is_order T) (fun _ => ⟨rfl, rfl, rfl, rfl, rfl⟩) (fun _ => hr) (ca_cons (ce_v 0 rfl ax) (ca_cons (ce_v 1 rfl ay) ca_nil)) ⟨n, o, hn, ho, rfl, rfl⟩))) (fun h => by cases h) fun _ H1 s1 => cs_nil (cs_nil (q _ H1 s1 (.im .non)))
/-! ### a group's part of a table -/
def okMark (m i : Nat) : Bool := match (grp m)[i]? with
  | some k => (marksOf ((grp m).take i)).all fun a => decide (a < 32 ∧ a.testBit k = false)
  | none => true
theorem okMark_all : ∀ m, m < 32 → ∀ i, i < 5 → okMark m i = true := by decide +kernel
theorem marks_or {m i k a : Nat} (hm : m < 32) (hk : (grp m)[i]? = some k) (ha : a ∈ marksOf ((grp m).take i)) : Builtin.bitOr (a : Int) (1 * 2 ^ k) = ((a + 2 ^ k : Nat) : Int) := by
  have hi : i < (grp m).length := (List.getElem?_eq_some_iff.mp hk).1
  have h5 := grp_len (m := m)
  have h := okMark_all m hm i (by omega)
  unfold okMark at h
  rw [hk] at h
  have h2 := of_decide_eq_true (List.all_eq_true.mp h a ha)
  exact (bitstep 5 (by decide) a h2.1 k (grp_lt (List.mem_of_getElem? hk)) h2.2).2.1
theorem marks_len : ∀ m, m < 32 → ∀ i, i < 6 → (marksOf ((grp m).take i)).length ≤ 32 := by decide +kernel
theorem marks_snoc {g : List Nat} {i k : Nat} (h : g[i]? = some k) : marksOf (g.take (i + 1)) = marksOf (g.take i) ++ (marksOf (g.take i)).map (· + 2 ^ k) := by
  unfold marksOf
  rw [List.take_add_one, h]
  show ((g.take i) ++ [k]).foldl _ _ = _
  rw [List.foldl_append]
  rfl
theorem marks_lt : ∀ n, n ≤ 5 → ∀ m, m < 2 ^ n → ∀ a ∈ marksOf (grp m), a < 2 ^ n := by decide +kernel
def Rpart_of : List PyData → PyData → Prop := fun ds d => ∃ (t : List Int) (n m : Nat), Tab n t ∧ m < 2 ^ n ∧ ds = [tI t, nI (grp m)] ∧ d = tI (partOf t (grp m))
def dN : PyData → Nat
  | .int i => i.toNat
  | _ => 0
theorem fn_part_of (T : Txt K mg) : Fn P w K mg base 1 "part_of" ["table", "group"] (spF Rpart_of) := by
  refine def_fnF T.d_part_of sc_part_of (fun ds d ⟨_, _, _, _, _, e, _⟩ => by rw [e]; rfl) fun f cdv A outer s H vs Q E ds d hr a r q => ?_
  obtain ⟨t, n, m, ht, hm, rfl, rfl⟩ := r
  obtain ⟨x, y, rfl, ax, ay⟩ := a.two
  have hm32 : m < 32 := Nat.lt_of_lt_of_le hm (pow32 ht.n5)
  refine cs_set 2 sc_part_of.nd (d := nL [0]) (cn_lst (ca_cons ce_int ca_nil)).ce fun v H1 s1 av => ?_
  refine cs_for (ci_tup (K := K) (ce_v 1 rfl (ay.mono s1)) fun _ => rfl) (pg_name (i := 3) sc_part_of.nd rfl (Or.inr rfl)) PassesOwn.never fun H2 Gd s2 gk => ?_
  refine ⟨fun i σ' H' => ∃ z u, σ' = [some x, some y, some z, u, none] ∧ Ar H' z (nL (marksOf ((grp m).take i))) ∧ Same H2 H', ⟨v, none, rfl, av.mono s2, Same.refl _⟩, fun i σ' H' ⟨_, _, _, _, sm⟩ => gk.same sm, fun i d u σ' H' hd hp au => ?_, fun σ' H' hp => ?_⟩
  · obtain ⟨z, u0, rfl, az, sm⟩ := hp
    obtain ⟨k, hk, rfl⟩ := nI_at hd
    have hi : i < (grp m).length := (List.getElem?_eq_some_iff.mp hk).1
    have h5 := grp_len (m := m)
    have hlen := marks_len m hm32 i (by omega)
    have hk5 := grp_lt (List.mem_of_getElem? hk)
    have hsl : sizeLine = 16777216 := sizeLine_eq
    refine cs_set 2 sc_part_of.nd (d := nL (marksOf ((grp m).take (i + 1)))) (CN.ce ((cn_cat (ce_v 2 rfl az) (cn_map 4 (fun d => .int (((dN d) + 2 ^ k : Nat) : Int)) (ci_lst (K := K) (ce_v 2 rfl az) fun _ => rfl) (by rw [List.length_map, List.length_map]; omega) (fun j d v2 H3 hd s3 a3 => ⟨rfl, ?_⟩) (fun _ => sc_part_of.nd) (fun _ => blkOk_by (N := N_part_of) (sc := defScope s_part_of) (by decide +kernel))).ce (by rw [List.length_map, List.length_map, List.length_map, List.length_map, List.length_map]; omega)).eq ?_)) fun z2 H4 s4 a4 => cs_nil ?_
    · obtain ⟨mk, hmk, rfl⟩ := nI_at hd
      exact (ce_bor (ce_v 4 rfl a3) (ce_shl ce_int (ce_v 3 rfl (au.mono s3)) (cpow (by omega)))).eq (congrArg PyData.int (marks_or hm32 hk (List.mem_of_getElem? hmk)))
    · rw [marks_snoc hk, List.map_append, List.map_append, List.map_map, List.map_map, List.map_map, List.map_map]
      congr 1
    · exact ⟨z2, some u, rfl, a4, sm.trans s4⟩
  · obtain ⟨z, u, rfl, az, sm⟩ := hp
    rw [List.length_map, List.length_map, List.take_length] at az
    have s12 := (s1.trans s2).trans sm
    have hlen := marks_len m hm32 5 (by omega)
    rw [List.take_of_length_le (grp_len)] at hlen
    refine cs_ret (ce_tupleL (fun _ => T.b_tuple) ((cn_map 4 (fun d => .int (t.getD (dN d) 0)) (ci_lst (K := K) (ce_v 2 rfl az) fun _ => rfl) (by rw [List.length_map, List.length_map]; omega) (fun j d v2 H3 hd s3 a3 => ⟨rfl, ?_⟩) (fun _ => sc_part_of.nd) (fun _ => blkOk_by (N := N_part_of) (sc := defScope s_part_of) (by decide +kernel))).eq (es := (partOf t (grp m)).map .int) ?_).ce) fun v H4 s4 a4 => q v H4 (s12.trans s4) a4
    · obtain ⟨mk, hmk, rfl⟩ := nI_at hd
      exact ce_ixI (k := mk) (ce_v 0 rfl (ax.mono (s12.trans s3))) (ce_v 4 rfl a3) (by rw [ht.len]; exact marks_lt n ht.n5 m hm mk (List.mem_of_getElem? hmk))
    · unfold partOf
      rw [List.map_map, List.map_map, List.map_map]
      rfl
end
end Shr


namespace Shr
open PySem PySem.Spec L2
/-! ### what members add -/
/-- behind i of them -/
def margAt (t : List Int) (o : List Nat) (i : Nat) : List Int × Nat := (o.take i).foldl (mStep fun k => t.getD k 0) (List.replicate o.length 0, 0)
theorem margAt_zero (t : List Int) (o : List Nat) : margAt t o 0 = (List.replicate o.length 0, 0) := rfl
theorem margAt_succ {t : List Int} {o : List Nat} {i k : Nat} (h : o[i]? = some k) : margAt t o (i + 1) = mStep (fun k => t.getD k 0) (margAt t o i) k := by
  unfold margAt
  rw [List.take_add_one, h]
  show ((o.take i) ++ [k]).foldl _ _ = _
  rw [List.foldl_append]
  rfl
theorem margAt_all (t : List Int) (o : List Nat) : (margAt t o o.length).1 = marg t o := by
  unfold margAt marg
  rw [List.take_length]
theorem margAt_len (t : List Int) (o : List Nat) : ∀ i, i ≤ o.length → (margAt t o i).1.length = o.length
  | 0, _ => by rw [margAt_zero]; exact List.length_replicate
  | i + 1, h => by
    rw [margAt_succ (List.getElem?_eq_getElem (show i < o.length by omega))]
    show ((margAt t o i).1.set _ _).length = _
    rw [List.length_set]
    exact margAt_len t o i (by omega)
/-- an order of k members -/
structure Ord (k : Nat) (o : List Nat) : Prop where
  k5 : k ≤ 5
  len : o.length = k
  nd : o.Nodup
  lt : ∀ x ∈ o, x < k
theorem margAt_bits {k : Nat} {t : List Int} {o : List Nat} (ho : Ord k o) : ∀ i, i ≤ o.length → (margAt t o i).2 < 2 ^ k ∧ ∀ j, j < 5 → (margAt t o i).2.testBit j = (o.take i).contains j
  | 0, _ => ⟨Nat.two_pow_pos k, fun j _ => by rw [margAt_zero]; simp⟩
  | i + 1, h => by
    obtain ⟨ih1, ih2⟩ := margAt_bits (t := t) ho i (by omega)
    have hi : i < o.length := by omega
    rw [margAt_succ (List.getElem?_eq_getElem hi)]
    have hk := ho.lt o[i] (List.getElem_mem hi)
    have h5 := ho.k5
    have hb : (margAt t o i).2.testBit o[i] = false := by
      rw [ih2 _ (by omega)]
      rw [Bool.eq_false_iff]
      intro hc
      have hm := List.contains_iff_mem.mp hc
      obtain ⟨j, hj, e⟩ := List.mem_take_iff_getElem.mp hm
      have := (List.getElem_inj ho.nd).mp e
      omega
    obtain ⟨b1, b2, b3⟩ := bitstep k ho.k5 _ ih1 _ hk hb
    refine ⟨b1, fun j hj => ?_⟩
    show ((margAt t o i).2 + 2 ^ o[i]).testBit j = _
    rw [b3 j hj, ih2 j hj, List.take_add_one, List.getElem?_eq_getElem hi]
    rw [Bool.eq_iff_iff, Bool.or_eq_true, List.contains_iff_mem, List.contains_iff_mem, decide_eq_true_eq, List.mem_append]
    simp
theorem margAt_or {k : Nat} {t : List Int} {o : List Nat} {i x : Nat} (ho : Ord k o) (h : o[i]? = some x) : (margAt t o i).2 + 2 ^ x < 2 ^ k ∧ Builtin.bitOr ((margAt t o i).2 : Int) (1 * 2 ^ x) = (((margAt t o i).2 + 2 ^ x : Nat) : Int) ∧ (margAt t o i).2 < 2 ^ k := by
  obtain ⟨hi, e⟩ := List.getElem?_eq_some_iff.mp h
  obtain ⟨h1, h2⟩ := margAt_bits (t := t) ho i (by omega)
  obtain ⟨h3, _⟩ := margAt_bits (t := t) ho (i + 1) (by omega)
  have hk := ho.lt x (List.mem_of_getElem? h)
  have h5 := ho.k5
  have hb : (margAt t o i).2.testBit x = false := by
    rw [h2 _ (by omega), Bool.eq_false_iff]
    intro hc
    obtain ⟨j, hj, e2⟩ := List.mem_take_iff_getElem.mp (List.contains_iff_mem.mp hc)
    have := (List.getElem_inj ho.nd).mp (e2.trans e.symm)
    omega
  obtain ⟨b1, b2, _⟩ := bitstep k ho.k5 _ h1 _ hk hb
  exact ⟨b1, b2, h1⟩
theorem set_cast (l : List Int) (k : Nat) (x : Int) : (l.map V.int).set k (.int x) = (l.set k x).map V.int := by rw [List.map_set]
theorem reps (n : Nat) : List.replicate n (PyData.int 0) = (List.replicate n (0 : Int)).map .int := by rw [List.map_replicate]
section
variable {P : Program} {w : World} {K : PySem.W.Frag} {mg : Str → Option Value} {base : Heap}
def Rmarg : List PyData → PyData → Prop := fun ds d => ∃ (t : List Int) (o : List Nat) (k : Nat), Ord k o ∧ t.length = 2 ^ k ∧ ds = [tI t, nL o] ∧ d = lI (marg t o)
theorem fn_marginals (T : Txt K mg) : Fn P w K mg base 1 "marginals" ["table", "order"] (spF Rmarg) := by
  refine def_fnF T.d_marginals sc_marginals (fun ds d ⟨_, _, _, _, _, e, _⟩ => by rw [e]; rfl) fun f cdv A outer s H vs Q E ds d hr a r q => ?_
  obtain ⟨t, o, k, ho, hl, rfl, rfl⟩ := r
  obtain ⟨x, y, rfl, ax, ay⟩ := a.two
  obtain ⟨oq, oxs, rfl, eo, io⟩ := ay.lstE
  have h5 := ho.k5
  have hlo := ho.len
  refine cs_parLN 2 3 sc_marginals.nd (cn_rep (cn_lst (ca_cons ce_int ca_nil)).ce (ce_lenL (fun _ => T.b_len) (ce_v 1 rfl ay)) (by omega) (by rw [List.length_map, List.length_map]; omega)) ce_int fun p xs z H1 hp s1 h1 im az => ?_
  have ez := az.int
  subst ez
  have npo : oq ≠ p := ne_of_none eo hp
  have exs : xs = (margAt t o 0).1.map V.int := by
    rw [reps] at im
    rw [im.int_eq, margAt_zero, List.length_map, List.length_map]
    rfl
  subst exs
  refine cs_for (ci_at (K := K) 1 rfl (s1 _ _ eo) (io.mono (ts_of s1)) fun _ => rfl) (pg_name (i := 4) sc_marginals.nd rfl (Or.inl rfl)) PassesOwn.never fun H2 Gd s2 gk => ?_
  obtain ⟨gxs, gx, gk⟩ := gk
  have e2 := (s1.trans s2) _ _ eo
  rw [e2] at gx
  cases gx
  refine ⟨fun i σ' H' => ∃ u, σ' = [some x, some (.ref oq), some (.ref p), some (.int (((margAt t o i).2 : Nat) : Int)), u] ∧ Same H H' ∧ TSt H2 H' ∧ H' oq = some (.lst oxs) ∧ H' p = some (.lst ((margAt t o i).1.map V.int)), ⟨none, rfl, s1.trans s2, ts_of (Same.refl _), e2, s2 _ _ h1⟩,
    fun i σ' H' ⟨_, _, _, ts, h, _⟩ => gk H' ts h, fun i d u σ' H' hd hp2 au => ?_, fun σ' H' hp2 => ?_⟩
  · obtain ⟨u0, rfl, sm, ts, hoq, hpl⟩ := hp2
    obtain ⟨kk, hk, rfl⟩ := nI_at hd
    have eu := au.int
    subst eu
    obtain ⟨b1, b2, b3⟩ := margAt_or (t := t) ho hk
    have hkk := ho.lt kk (List.mem_of_getElem? hk)
    have hi : i < o.length := (List.getElem?_eq_some_iff.mp hk).1
    have hml := margAt_len t o i (by omega)
    have axm := ax.mono sm
    refine cs_item (n := kk) (ce_sub (ce_ixI (k := (margAt t o i).2 + 2 ^ kk) (ce_v 0 rfl axm) ((ce_bor (ce_v 3 rfl (ofInt _)) (ce_shl ce_int (ce_v 4 rfl (ofInt _)) (cpow (by omega)))).eq (congrArg PyData.int b2)) (by rw [hl]; exact b1)) (ce_ixI (k := (margAt t o i).2) (ce_v 0 rfl axm) (ce_v 3 rfl (ofInt _)) (by rw [hl]; exact b3)))
      (fun H1 _ => own_v 2 rfl) hpl (ce_v 4 rfl (ofInt _)) (by rw [List.length_map]; omega) fun v H3 s3 av => ?_
    have ev := av.int
    subst ev
    refine cs_set 3 sc_marginals.nd ((ce_bor (ce_v 3 rfl (ofInt _)) (ce_shl ce_int (ce_v 4 rfl (ofInt _)) (cpow (by omega)))).eq (congrArg PyData.int b2)) fun v H4 s4 av => cs_nil ?_
    have ev := av.int
    subst ev
    have hpl3 := s3 _ _ hpl
    refine ⟨_, by rw [margAt_succ hk]; rfl, (same_own (sm.trans s3) hp _).trans s4, fun b ob ys e => s4 _ _ (ts_lst hpl3 _ b ob ys (s3 _ _ (ts b ob ys e))), s4 _ _ (by rw [upd_ne npo]; exact s3 _ _ hoq), s4 _ _ ?_⟩
    rw [upd_same, set_cast, margAt_succ hk]
    rfl
  · obtain ⟨u, rfl, sm, ts, hoq, hpl⟩ := hp2
    rw [List.length_map, List.length_map, margAt_all] at hpl
    exact cs_ret (ce_v 2 rfl (.lst hpl (ImAll.ints _))) fun v H4 s4 a4 => q v H4 (sm.trans s4) a4
end
end Shr


namespace Shr
open PySem PySem.Spec L2
def trD (p : Nat × Nat × Nat) : PyData := .tuple [.int (p.1 : Nat), .int (p.2.1 : Nat), .int (p.2.2 : Nat)]
/-- the steps of a group whose joining member is below j -/
def stepsTo (m j : Nat) : List (Nat × Nat × Nat) := ((List.range j).filter fun j => !m.testBit j).flatMap fun j => (grp m).map fun i => (m, j, i)
theorem stepsTo_zero (m : Nat) : stepsTo m 0 = [] := rfl
theorem stepsTo_all (n m : Nat) : stepsTo m n = stepsAt n m := rfl
theorem stepsTo_succ (m j : Nat) : stepsTo m (j + 1) = stepsTo m j ++ (if m.testBit j then [] else (grp m).map fun i => (m, j, i)) := by
  unfold stepsTo
  rw [List.range_succ, List.filter_append, List.flatMap_append]
  congr 1
  cases h : m.testBit j <;> simp [h]
theorem flatMap_len {α β : Type} (f : α → List β) (c : Nat) : ∀ l : List α, (∀ x ∈ l, (f x).length ≤ c) → (l.flatMap f).length ≤ l.length * c
  | [], _ => by simp
  | x :: l, h => by
    rw [List.flatMap_cons, List.length_append, List.length_cons, Nat.add_mul]
    have h1 := h x (List.mem_cons_self)
    have h2 := flatMap_len f c l fun y hy => h y (List.mem_cons_of_mem _ hy)
    omega
theorem stepsTo_len (m j : Nat) (hj : j ≤ 5) : (stepsTo m j).length ≤ 25 := by
  have h := flatMap_len (fun j => (grp m).map fun i => (m, j, i)) 5 ((List.range j).filter fun j => !m.testBit j) fun x _ => by rw [List.length_map]; exact grp_len
  have h2 := List.length_filter_le (fun j => !m.testBit j) (List.range j)
  rw [List.length_range] at h2
  have h3 : ((List.range j).filter fun j => !m.testBit j).length * 5 ≤ 5 * 5 := Nat.mul_le_mul_right 5 (by omega)
  unfold stepsTo
  omega
/-- the steps of the groups below a number -/
def stepsBe (n i : Nat) : List (Nat × Nat × Nat) := (List.range' 1 i).flatMap (stepsAt n)
theorem stepsBe_succ (n i : Nat) : stepsBe n (i + 1) = stepsBe n i ++ stepsAt n (1 + i) := by
  unfold stepsBe
  rw [List.range'_concat, List.flatMap_append]
  simp
theorem stepsBe_len (n i : Nat) (hn : n ≤ 5) : (stepsBe n i).length ≤ i * 25 := by
  have h := flatMap_len (stepsAt n) 25 (List.range' 1 i) fun m _ => stepsTo_len m n hn
  rw [List.length_range'] at h
  exact h
theorem rg0_at {n i : Nat} {d : PyData} (h : (rgD 0 n)[i]? = some d) : i < n ∧ d = .int ((i : Nat) : Int) := by
  have hi : i < n := by
    have := (List.getElem?_eq_some_iff.mp h).1
    rw [rgD_len] at this
    exact this
  rw [rgD_at hi] at h
  cases h
  exact ⟨hi, by rw [Int.zero_add]⟩
theorem rg1_at {n i : Nat} {d : PyData} (h : (rgD 1 n)[i]? = some d) : i < n ∧ d = .int ((1 + i : Nat) : Int) := by
  have hi : i < n := by
    have := (List.getElem?_eq_some_iff.mp h).1
    rw [rgD_len] at this
    exact this
  rw [rgD_at hi] at h
  cases h
  exact ⟨hi, by rw [Int.natCast_add]; rfl⟩
theorem two_pow_int (n : Nat) : (1 : Int) * 2 ^ n = ((2 ^ n : Nat) : Int) := by rw [Int.one_mul, Int.natCast_pow]; rfl
section
variable {P : Program} {w : World} {K : PySem.W.Frag} {mg : Str → Option Value} {base : Heap}
def Rsteps : List PyData → PyData → Prop := fun ds d => ∃ n : Nat, n ≤ 5 ∧ ds = [.int (n : Nat)] ∧ d = .list ((steps n).map trD)
theorem fn_steps_of (T : Txt K mg) : Fn P w K mg base 2 "steps_of" ["many"] (spF Rsteps) := by
  refine def_fnF T.d_steps_of sc_steps_of (fun ds d ⟨_, _, e, _⟩ => by rw [e]; rfl) fun f cdv A outer s H vs Q E ds d hr a r q => ?_
  obtain ⟨n, hn, rfl, rfl⟩ := r
  obtain ⟨x, rfl, ax⟩ := a.one
  have ex := ax.int
  subst ex
  have hp2 : 1 ≤ 2 ^ n := Nat.two_pow_pos n
  have h32 := pow32 hn
  have hsl : sizeLine = 16777216 := sizeLine_eq
  refine cs_set 1 sc_steps_of.nd (d := .list []) (cn_lst ca_nil).ce fun v H1 s1 av => ?_
  refine cs_for (ci_rng2 (n := 2 ^ n - 1) (fun _ => T.b_range) ce_int ((ce_shl ce_int (ce_v 0 rfl (ofInt _)) (cpow (by omega))).eq (congrArg PyData.int (by rw [Int.toNat_natCast, two_pow_int]; omega))) (by omega) (by decide) (by decide)) (pg_name (i := 2) sc_steps_of.nd rfl (Or.inr rfl)) PassesOwn.never fun H2 Gd s2 gk => ?_
  refine ⟨fun i σ' H' => ∃ g u z, σ' = [some (.int (n : Nat)), some g, u, z, none] ∧ Ar H' g (.list ((stepsBe n i).map trD)) ∧ Same H H', ⟨v, none, none, rfl, av.mono s2, s1.trans s2⟩, fun i σ' H' _ => gk H', fun i d u σ' H' hd hp au => ?_, fun σ' H' hp => ?_⟩
  · obtain ⟨g, u0, z0, rfl, ag, sm⟩ := hp
    obtain ⟨hi, rfl⟩ := rg1_at hd
    have eu := au.int
    subst eu
    have hm32 : 1 + i < 32 := by omega
    have hlb := stepsBe_len n i hn
    refine cs_for (ci_rng1 (fun _ => T.b_range) (ce_v 0 rfl (ofInt _)) (by omega)) (pg_name (i := 3) sc_steps_of.nd rfl (Or.inr rfl)) PassesOwn.never fun H3 Gd3 s3 gk3 => ?_
    refine ⟨fun j σ' H' => ∃ g z, σ' = [some (.int (n : Nat)), some g, some (.int ((1 + i : Nat) : Int)), z, none] ∧ Ar H' g (.list ((stepsBe n i ++ stepsTo (1 + i) j).map trD)) ∧ Same H H', ⟨g, z0, rfl, by rw [stepsTo_zero, List.append_nil]; exact ag.mono s3, sm.trans s3⟩, fun j σ' H' _ => gk3 H', fun j d u σ' H' hd hp au => ?_, fun σ' H' hp => ?_⟩
    · obtain ⟨g, z, rfl, ag, sm⟩ := hp
      obtain ⟨hj, rfl⟩ := rg0_at hd
      have eu := au.int
      subst eu
      have hls := stepsTo_len (1 + i) j (by omega)
      refine cs_if (k := !(1 + i).testBit j) ((ct_eqI (ce_band (ce_shr (ce_v 2 rfl (ofInt _)) (ce_v 3 rfl (ofInt _)) (by omega)) ce_int) ce_int).eq ?_) (fun hb H4 s4 => ?_) fun hb H4 s4 => cs_nil (cs_nil ?_)
      · rw [Int.toNat_natCast, bit_and1 _ hm32 _ (by omega)]
        cases (1 + i).testBit j <;> rfl
      · have hb : (1 + i).testBit j = false := by simpa using hb
        refine cs_set 1 sc_steps_of.nd (d := .list ((stepsBe n i ++ stepsTo (1 + i) (j + 1)).map trD)) (CN.ce ((cn_cat (ce_v 1 rfl (ag.mono s4)) (cn_map 4 (fun d => trD (1 + i, j, dN d)) (ci_tup (K := K) (ce_call (fn_group_of T) (fun _ => ⟨rfl, rfl, rfl, rfl, rfl⟩) (fun _ => hr) (ca_cons (ce_v 2 rfl (ofInt _)) ca_nil) ⟨1 + i, hm32, rfl, rfl⟩) fun _ => rfl) (by rw [List.length_map, List.length_map]; have := grp_len (m := 1 + i); omega) (fun k d v2 H5 hd s5 a5 => ⟨rfl, ?_⟩) (fun _ => sc_steps_of.nd) (fun _ => blkOk_by (N := N_steps_of) (sc := defScope s_steps_of) (by decide +kernel))).ce ?_).eq ?_)) fun z2 H4 s4 a4 => cs_nil (cs_nil ?_)
        · obtain ⟨b, hb, rfl⟩ := nI_at hd
          exact ce_tup (ca_cons (ce_v 2 rfl (ofInt _)) (ca_cons (ce_v 3 rfl (ofInt _)) (ca_cons (ce_v 4 rfl a5) ca_nil)))
        · rw [List.length_map, List.length_map, List.length_map, List.length_map, List.length_append]
          have := grp_len (m := 1 + i)
          omega
        · rw [stepsTo_succ, hb, List.map_map, List.map_map, ← List.append_assoc, List.map_append (l₁ := stepsBe n i ++ stepsTo (1 + i) j)]
          congr 1
          rw [if_neg (by decide), List.map_map]
          rfl
        · exact ⟨z2, _, rfl, a4, (sm.trans ‹_›).trans s4⟩
      · have hb : (1 + i).testBit j = true := by simpa using hb
        refine ⟨g, _, rfl, ?_, sm.trans s4⟩
        rw [stepsTo_succ, hb, if_pos rfl, List.append_nil]
        exact ag.mono s4
    · obtain ⟨g, z, rfl, ag, sm⟩ := hp
      rw [rgD_len, stepsTo_all, Nat.add_comm 1 i, ← Nat.add_comm 1 i, ← stepsBe_succ] at ag
      exact cs_nil ⟨g, _, z, rfl, ag, sm⟩
  · obtain ⟨g, u, z, rfl, ag, sm⟩ := hp
    rw [rgD_len] at ag
    exact cs_ret (ce_v 1 rfl ag) fun v H4 s4 a4 => q v H4 (sm.trans s4) a4
end
end Shr


namespace Shr
open PySem PySem.Spec L2
/-- rows of shares, one for each group, that sum to the table -/
structure Sch (n : Nat) (t : List Int) (S : List (List Int)) : Prop where
  len : S.length = 2 ^ n
  rlen : ∀ m, m < 2 ^ n → (S.getD m []).length = (grp m).length
  sum : ∀ m, m < 2 ^ n → (S.getD m []).sum = t.getD m 0
/-- what is told of a step in which a share rises -/
def flawD : Option (Nat × Nat × Nat) → PyData
  | none => .none
  | some p => .tuple [.str "rise", nI (grp p.1), .int (p.2.1 : Nat), .int (p.2.2 : Nat)]
theorem sch_at {S : List (List Int)} {m : Nat} (h : m < S.length) : (S.map row)[m]? = some (row (S.getD m [])) := by
  rw [List.getElem?_map, List.getD_eq_getElem?_getD, List.getElem?_eq_getElem h]
  rfl
theorem row_at {l : List Int} {i : Nat} (h : i < l.length) : (l.map pr)[i]? = some (pr (l.getD i 0)) := by
  rw [List.getElem?_map, List.getD_eq_getElem?_getD, List.getElem?_eq_getElem h]
  rfl
theorem mem_cast {l : List Nat} {i : Nat} (h : i ∈ l) : ((i : Nat) : Int) ∈ l.map fun k => ((k : Nat) : Int) := List.mem_map.mpr ⟨i, h, rfl⟩
def okStep (n : Nat) (p : Nat × Nat × Nat) : Bool := decide (p.1 + 2 ^ p.2.1 < 2 ^ n) && (grp (p.1 + 2 ^ p.2.1)).contains p.2.2 && decide (Builtin.bitOr (p.1 : Int) (1 * 2 ^ p.2.1) = ((p.1 + 2 ^ p.2.1 : Nat) : Int))
theorem okStep_all : ((List.range 6).all fun n => (steps n).all (okStep n)) = true := by decide +kernel
theorem step_facts {n : Nat} {p : Nat × Nat × Nat} (hn : n ≤ 5) (h : p ∈ steps n) : p.1 + 2 ^ p.2.1 < 2 ^ n ∧ p.2.2 ∈ grp (p.1 + 2 ^ p.2.1) ∧ Builtin.bitOr (p.1 : Int) (1 * 2 ^ p.2.1) = ((p.1 + 2 ^ p.2.1 : Nat) : Int) := by
  have q := List.all_eq_true.mp (List.all_eq_true.mp okStep_all n (List.mem_range.mpr (by omega))) p h
  unfold okStep at q
  rw [Bool.and_eq_true, Bool.and_eq_true] at q
  exact ⟨of_decide_eq_true q.1.1, List.contains_iff_mem.mp q.1.2, of_decide_eq_true q.2⟩
theorem steps_len (n : Nat) (hn : n ≤ 5) : (steps n).length ≤ 1000 := by
  have h := stepsBe_len n (2 ^ n - 1) hn
  have h2 := pow32 hn
  show (stepsBe n (2 ^ n - 1)).length ≤ 1000
  omega
theorem Im.three {H : Hp} {v : V} {a b c : PyData} (h : Im H v (.tuple [a, b, c])) : ∃ p x y z, v = .ref p ∧ TupF H p [x, y, z] ∧ Im H x a ∧ Im H y b ∧ Im H z c := by
  obtain ⟨p, xs, rfl, e, im⟩ := h.tupE
  cases im with
  | cons h1 t =>
    cases t with
    | cons h2 t =>
      cases t with
      | cons h3 t => cases t; exact ⟨p, _, _, _, rfl, e, h1, h2, h3⟩
section
variable {P : Program} {w : World} {K : PySem.W.Frag} {mg : Str → Option Value} {base : Heap}
theorem eqv_pr (x : Int) : PyData.eqv (pr x) (pr x) = true := by
  show ((x == x) && (((1 : Int) == 1) && true)) = true
  rw [beq_self_eq_true]
  rfl
theorem shaped_pr (x : Int) : SeqAt.shaped (pr x) = true := rfl
/-- what a scheme's look gives -/
def Rflaw : List PyData → PyData → Prop := fun ds d => ∃ (t : List Int) (n : Nat) (S : List (List Int)), Tab n t ∧ Sch n t S ∧ ds = [tI t, sch S] ∧ d = flawD (flaw n S)
theorem find_at {α : Type} {p : α → Bool} {l : List α} {i : Nat} {x : α} (h : l[i]? = some x) (hx : p x = true) (hno : (l.take i).find? p = none) : l.find? p = some x := by
  obtain ⟨hi, e⟩ := List.getElem?_eq_some_iff.mp h
  have : l = l.take i ++ x :: l.drop (i + 1) := by
    rw [← e, ← List.drop_eq_getElem_cons hi, List.take_append_drop]
  rw [this, List.find?_append, hno, List.find?_cons, hx]
  rfl
theorem find_take_succ {α : Type} {p : α → Bool} {l : List α} {i : Nat} {x : α} (h : l[i]? = some x) (hx : p x = false) (hno : (l.take i).find? p = none) : (l.take (i + 1)).find? p = none := by
  rw [List.take_add_one, h, List.find?_append, hno]
  show (([x] : List α).find? p) = none
  rw [List.find?_cons, hx]
  rfl
theorem fn_scheme_flaw (T : Txt K mg) : Fn P w K mg base 5 "scheme_flaw" ["table", "value"] (spF Rflaw) := by
  refine def_fnF T.d_scheme_flaw sc_scheme_flaw (fun ds d ⟨_, _, _, _, _, e, _⟩ => by rw [e]; rfl) fun f cdv A outer s H vs Q E ds d hr a r q => ?_
  obtain ⟨t, n, S, ht, hS, rfl, rfl⟩ := r
  obtain ⟨x, y, rfl, ax, ay⟩ := a.two
  have hn5 := ht.n5
  have h32 := pow32 hn5
  have hlt : (t.map PyData.int).length = 2 ^ n := by rw [List.length_map, ht.len]
  have hSl : S.length = 2 ^ n := hS.len
  -- need_table(table); many = members_of(table)
  refine cs_expr (ce_call (fn_need_table T) (fun _ => ⟨rfl, rfl, rfl, rfl, rfl⟩) (fun _ => hr) (ca_cons (ce_v 0 rfl ax) ca_nil) ⟨t, n, ht, rfl, rfl⟩) fun H1 s1 => ?_
  refine cs_set 2 sc_scheme_flaw.nd (ce_call (fn_members_of T) (fun _ => ⟨rfl, rfl, rfl, rfl, rfl⟩) (fun _ => hr.mono (by decide)) (ca_cons (ce_v 0 rfl (ax.mono s1)) ca_nil) ⟨t, n, hn5, ht.len, rfl, rfl⟩) fun v H2 s2 av => ?_
  have ev := av.int
  subst ev
  have s02 := s1.trans s2
  -- if not tuple_of(value, len(table), len(table))
  refine cs_if (k := false) (ct_not (k := true) (ct_val ((ce_call (fn_tuple_of T) (fun _ => ⟨rfl, rfl, rfl, rfl, rfl⟩) (fun _ => hr.mono (by decide)) (ca_cons (ce_v 1 rfl (ay.mono s02)) (ca_cons (ce_lenT (fun _ => T.b_len) (ce_v 0 rfl (ax.mono s02))) (ca_cons (ce_lenT (fun _ => T.b_len) (ce_v 0 rfl (ax.mono s02))) ca_nil))) ⟨_, _, _, rfl, rfl⟩).eq ?_))) (fun h => by cases h) fun _ H3 s3 => cs_nil ?_
  · congr 1
    rw [hlt, List.length_map, hSl]
    exact decide_eq_true ⟨Int.le_refl _, Int.le_refl _⟩
  have s03 := s02.trans s3
  -- the form
  refine cs_for (ci_rng1 (n := 2 ^ n) (fun _ => T.b_range) ((ce_lenT (fun _ => T.b_len) (ce_v 0 rfl (ax.mono s03))).eq (by rw [hlt])) (by omega)) (pg_name (i := 3) sc_scheme_flaw.nd rfl (Or.inl rfl)) PassesOwn.never fun H4 Gd s4 gk => ?_
  refine ⟨fun i σ' H' => ∃ u z, σ' = [some x, some y, some (.int (n : Nat)), u, z, none, none, none, none, none] ∧ Same H H', ⟨none, none, rfl, s03.trans s4⟩, fun i σ' H' _ => gk H', fun i d u σ' H' hd hp au => ?_, fun σ' H' hp => ?_⟩
  · obtain ⟨u0, z0, rfl, sm⟩ := hp
    obtain ⟨hi, rfl⟩ := rg0_at hd
    have eu := au.int
    subst eu
    have hi32 : i < 32 := by omega
    refine cs_set 4 sc_scheme_flaw.nd (d := .int ((grp i).length : Nat)) ((ce_lenT (fun _ => T.b_len) (ce_call (fn_group_of T) (fun _ => ⟨rfl, rfl, rfl, rfl, rfl⟩) (fun _ => hr.mono (by decide)) (ca_cons (ce_v 3 rfl (ofInt _)) ca_nil) ⟨i, hi32, rfl, rfl⟩)).eq (by rw [List.length_map, List.length_map])) fun z H5 s5 az => ?_
    have ez := az.int
    subst ez
    have aym := ay.mono (sm.trans s5)
    have crow : ∀ {H' : Hp}, Same H' H' → True := fun _ => True.intro
    refine cs_if (k := false) (cw_or (k := false) (l := false) (ct_not (k := true) (ct_val ((ce_call (fn_tuple_of T) (fun _ => ⟨rfl, rfl, rfl, rfl, rfl⟩) (fun _ => hr.mono (by decide)) (ca_cons (ce_ixT (k := i) (ce_v 1 rfl aym) (ce_v 3 rfl (ofInt _)) (sch_at (by omega))) (ca_cons (ce_v 4 rfl (ofInt _)) (ca_cons (ce_v 4 rfl (ofInt _)) ca_nil))) ⟨_, _, _, rfl, rfl⟩).eq ?_)))
      (cw_or1 (ct_not (k := true) (ct_val ((ce_all (bs := (S.getD i []).map fun _ => true) (fun _ => T.b_all) ((cn_map 9 (fun _ => .bool true) (ci_tup (K := K) (ce_ixT (k := i) (ce_v 1 rfl aym) (ce_v 3 rfl (ofInt _)) (sch_at (by omega))) fun _ => rfl) (by rw [List.length_map, hS.rlen i hi]; have := grp_len (m := i); omega) (fun j d v H2 hd s2 a2 => ⟨rfl, ?_⟩) (fun _ => sc_scheme_flaw.nd) (fun _ => blkOk_by (N := N_scheme_flaw) (sc := defScope s_scheme_flaw) (by decide +kernel))).eq ?_).ce).eq ?_))))).ct (fun h => by cases h) fun _ H6 s6 => cs_nil (cs_nil ⟨_, _, rfl, sm.trans (s5.trans s6)⟩)
    · congr 1
      rw [List.length_map, hS.rlen i hi]
      exact decide_eq_true ⟨Int.le_refl _, Int.le_refl _⟩
    · rw [List.getElem?_map, Option.map_eq_some_iff] at hd
      obtain ⟨k, hk, rfl⟩ := hd
      exact ce_call (fn_is_ratio T) (fun _ => ⟨rfl, rfl, rfl, rfl, rfl⟩) (fun _ => hr.mono (by decide)) (ca_cons (ce_v 9 rfl a2) ca_nil) ⟨k, rfl, rfl⟩
    · rw [List.map_map, List.map_map]
      rfl
    · congr 1
      rw [List.all_map]
      exact List.all_eq_true.mpr fun x hx => rfl
  obtain ⟨u0, z0, rfl, sm⟩ := hp
  -- the sums
  refine cs_for (ci_rng1 (n := 2 ^ n) (fun _ => T.b_range) ((ce_lenT (fun _ => T.b_len) (ce_v 0 rfl (ax.mono sm))).eq (by rw [hlt])) (by omega)) (pg_name (i := 3) sc_scheme_flaw.nd rfl (Or.inl rfl)) PassesOwn.never fun H5 Gd s5 gk => ?_
  refine ⟨fun i σ' H' => ∃ u z, σ' = [some x, some y, some (.int (n : Nat)), u, z, none, none, none, none, none] ∧ Same H H', ⟨_, _, rfl, sm.trans s5⟩, fun i σ' H' _ => gk H', fun i d u σ' H' hd hp au => ?_, fun σ' H' hp => ?_⟩
  · obtain ⟨u0, z0, rfl, sm⟩ := hp
    obtain ⟨hi, rfl⟩ := rg0_at hd
    have eu := au.int
    subst eu
    refine cs_if (k := false) ((ct_neD (da := pr (t.getD i 0)) (db := pr (t.getD i 0)) (fun _ => hr.units) ((ce_call (fn_sum_of T) (fun _ => ⟨rfl, rfl, rfl, rfl, rfl⟩) (fun _ => hr.mono (by decide)) (ca_cons (ce_ixT (k := i) (ce_v 1 rfl (ay.mono sm)) (ce_v 3 rfl (ofInt _)) (sch_at (by omega))) ca_nil) ⟨_, rfl, rfl⟩).eq ?_)
      (ce_tup (ca_cons (ce_ixI (k := i) (ce_v 0 rfl (ax.mono sm)) (ce_v 3 rfl (ofInt _)) (by rw [ht.len]; exact hi)) (ca_cons ce_int ca_nil))) (shaped_pr _) (shaped_pr _)).eq (by rw [eqv_pr]; rfl)) (fun h => by cases h) fun _ H6 s6 => cs_nil (cs_nil ⟨_, _, rfl, sm.trans s6⟩)
    rw [hS.sum i hi]
  obtain ⟨u1, z1, rfl, sm2⟩ := hp
  -- the steps
  refine cs_for (ci_lst (K := K) (ce_call (fn_steps_of T) (fun _ => ⟨rfl, rfl, rfl, rfl, rfl⟩) (fun _ => hr.mono (by decide)) (ca_cons (ce_v 2 rfl (ofInt _)) ca_nil) ⟨n, hn5, rfl, rfl⟩) fun _ => rfl)
    (pg_tup rfl (pgs_cons (pg_name (i := 3) sc_scheme_flaw.nd rfl (Or.inl rfl)) (pgs_cons (pg_name (i := 5) sc_scheme_flaw.nd rfl (Or.inl rfl)) (pgs_cons (pg_name (i := 6) sc_scheme_flaw.nd rfl (Or.inl rfl)) pgs_nil)))) PassesOwn.never fun H6 Gd s6 gk => ?_
  refine ⟨fun i σ' H' => ∃ b1 b2 b3 b4 b5 b6, σ' = [some x, some y, some (.int (n : Nat)), b1, b2, b3, b4, b5, b6, none] ∧ Same H6 H' ∧ ((steps n).take i).find? (rise S) = none, ⟨_, _, _, _, _, _, rfl, Same.refl _, rfl⟩, fun i σ' H' ⟨_, _, _, _, _, _, _, sm, _⟩ => gk.same sm, fun i d u σ' H' hd hp au => ?_, fun σ' H' hp => ?_⟩
  · obtain ⟨b1, b2, b3, b4, b5, b6, rfl, sm, hno⟩ := hp
    rw [List.getElem?_map, Option.map_eq_some_iff] at hd
    obtain ⟨p, hp, rfl⟩ := hd
    obtain ⟨pa, px, py, pz, rfl, tf, ix, iy, iz⟩ := (au.toIm rfl).three
    have e1 := ix.int_eq
    have e2 := iy.int_eq
    have e3 := iz.int_eq
    subst e1 e2 e3
    refine ⟨pa, _, rfl, tf.sq, rfl, _, _, rfl, _, _, rfl, _, _, rfl, rfl, ?_⟩
    have hmem := List.mem_of_getElem? hp
    obtain ⟨f1, f2, f3⟩ := step_facts hn5 hmem
    obtain ⟨g1, g2, g3, g4, g5⟩ := mem_steps hmem
    have hm32 : p.1 < 32 := by omega
    have hm32' : p.1 + 2 ^ p.2.1 < 32 := by omega
    have s07 := (sm2.trans s6).trans sm
    refine cs_set 7 sc_scheme_flaw.nd ((ce_bor (ce_v 3 rfl (ofInt _)) (ce_shl ce_int (ce_v 5 rfl (ofInt _)) (cpow (by omega)))).eq (congrArg PyData.int f3)) fun v H7 s7 av => ?_
    have ev := av.int
    subst ev
    have s08 := s07.trans s7
    have hi1 : (grp p.1).idxOf p.2.2 < (S.getD p.1 []).length := by rw [hS.rlen _ g1]; exact List.idxOf_lt_length_of_mem g5
    have hi2 : (grp (p.1 + 2 ^ p.2.1)).idxOf p.2.2 < (S.getD (p.1 + 2 ^ p.2.1) []).length := by rw [hS.rlen _ f1]; exact List.idxOf_lt_length_of_mem f2
    refine cs_set 8 sc_scheme_flaw.nd (ce_ixT (ce_ixT (k := p.1) (ce_v 1 rfl (ay.mono s08)) (ce_v 3 rfl (ofInt _)) (sch_at (by omega))) ((ce_idx (ce_call (fn_group_of T) (fun _ => ⟨rfl, rfl, rfl, rfl, rfl⟩) (fun _ => hr.mono (by decide)) (ca_cons (ce_v 3 rfl (ofInt _)) ca_nil) ⟨p.1, hm32, rfl, rfl⟩) (ce_v 6 rfl (ofInt _)) (mem_cast g5)).eq (congrArg (fun z : Nat => PyData.int ((z : Nat) : Int)) (idxOf_cast _ _))) (row_at hi1)) fun bv H8 s8 ab => ?_
    refine cs_if (k := rise S p) ((ct_val (ce_call (fn_is_less T) (fun _ => ⟨rfl, rfl, rfl, rfl, rfl⟩) (fun _ => hr.mono (by decide)) (ca_cons (ce_v 8 rfl ab) (ca_cons (ce_ixT (ce_ixT (k := p.1 + 2 ^ p.2.1) (ce_v 1 rfl (ay.mono (s08.trans s8))) (ce_v 7 rfl (ofInt _)) (sch_at (by omega))) ((ce_idx (ce_call (fn_group_of T) (fun _ => ⟨rfl, rfl, rfl, rfl, rfl⟩) (fun _ => hr.mono (by decide)) (ca_cons (ce_v 7 rfl (ofInt _)) ca_nil) ⟨p.1 + 2 ^ p.2.1, hm32', rfl, rfl⟩) (ce_v 6 rfl (ofInt _)) (mem_cast f2)).eq (congrArg (fun z : Nat => PyData.int ((z : Nat) : Int)) (idxOf_cast _ _))) (row_at hi2)) ca_nil)) ⟨_, _, rfl, rfl⟩)).eq rfl) (fun hk H9 s9 => ?_) fun hk H9 s9 => cs_nil (cs_nil ?_)
    · refine cs_ret (d := flawD (some p)) (ce_tup (ca_cons ce_str (ca_cons (ce_call (fn_group_of T) (fun _ => ⟨rfl, rfl, rfl, rfl, rfl⟩) (fun _ => hr.mono (by decide)) (ca_cons (ce_v 3 rfl (ofInt _)) ca_nil) ⟨p.1, hm32, rfl, rfl⟩) (ca_cons (ce_v 5 rfl (ofInt _)) (ca_cons (ce_v 6 rfl (ofInt _)) ca_nil))))) fun v H10 s10 a10 => q v H10 ((s08.trans s8).trans (s9.trans s10)) ?_
      rw [show flaw n S = some p from find_at hp hk hno]
      exact a10
    · exact ⟨_, _, _, _, _, _, rfl, sm.trans (s7.trans (s8.trans s9)), find_take_succ hp hk hno⟩
  · obtain ⟨b1, b2, b3, b4, b5, b6, rfl, sm, hno⟩ := hp
    rw [List.length_map, List.take_length] at hno
    refine cs_ret (d := flawD none) ce_none fun v H7 s7 a7 => q v H7 ((sm2.trans s6).trans (sm.trans s7)) ?_
    rw [show flaw n S = none from hno]
    exact a7
end
end Shr


namespace Shr
open PySem PySem.Spec L2
theorem iFold_len (f : Nat → Nat) : ∀ (l : List Nat) (a : List (Nat × Nat)) (k : Nat), (l.foldl (iStep f) (a, k)).1.length = a.length
  | [], _, _ => rfl
  | i :: l, a, k => by
    rw [List.foldl_cons]
    show (l.foldl (iStep f) (a.set i _, k + 2 ^ i)).1.length = _
    rw [iFold_len f l, List.length_set]
theorem ix_len (o : List Nat) (m : Nat) : (ix o m).length = (names o (grp m)).length := by
  unfold ix
  rw [iFold_len, List.length_replicate]
theorem names_ord {n m : Nat} {o : List Nat} (h1 : 1 ≤ n) (h5 : n ≤ 5) (ho : o ∈ orders n) (hm : m < 2 ^ n) : Ord (grp m).length (names o (grp m)) where
  k5 := grp_len
  len := by
    rw [← ix_len, (okSum_at h1 h5 ho hm).1]
    unfold ixG
    rw [List.length_map]
  nd := by
    obtain ⟨_, hnd, _⟩ := ordK_facts n n o ho
    unfold names
    refine List.pairwise_map.mpr (List.Pairwise.imp_of_mem ?_ (hnd.filter _))
    intro a b ha hb hab e
    have ga := List.contains_iff_mem.mp (List.mem_filter.mp ha).2
    have gb := List.contains_iff_mem.mp (List.mem_filter.mp hb).2
    have e1 := List.getElem_idxOf (List.idxOf_lt_length_of_mem ga)
    have e2 := List.getElem_idxOf (List.idxOf_lt_length_of_mem gb)
    refine hab (e1.symm.trans (Eq.trans ?_ e2))
    congr 1
  lt := fun x hx => by
    unfold names at hx
    obtain ⟨i, hi, rfl⟩ := List.mem_map.mp hx
    exact List.idxOf_lt_length_of_mem (List.contains_iff_mem.mp (List.mem_filter.mp hi).2)
theorem marks_full : ∀ m : Nat, m < 32 → (marksOf (grp m)).length = 2 ^ (grp m).length := by decide +kernel
theorem partOf_len {t : List Int} {m : Nat} (hm : m < 32) : (partOf t (grp m)).length = 2 ^ (grp m).length := by
  unfold partOf
  rw [List.length_map, marks_full m hm]
def nameG (g : List Nat) (d : PyData) : Option PyData := if g.contains (dN d) then some (.int ((g.idxOf (dN d) : Nat) : Int)) else none
theorem names_map (g : List Nat) : ∀ o : List Nat, ((o.map fun k => ((k : Nat) : Int)).map PyData.int).filterMap (nameG g) = ((names o g).map fun k => ((k : Nat) : Int)).map PyData.int
  | [] => rfl
  | x :: o => by
    have ih := names_map g o
    unfold names at ih ⊢
    rw [List.map_cons, List.map_cons, List.filterMap_cons, List.filter_cons]
    have e : nameG g (.int ((x : Nat) : Int)) = if g.contains x then some (.int ((g.idxOf x : Nat) : Int)) else none := by
      unfold nameG
      rw [show dN (.int ((x : Nat) : Int)) = x from Int.toNat_natCast x]
    rw [e]
    cases h : g.contains x with
    | true =>
      rw [if_pos rfl, if_pos rfl, List.map_cons, List.map_cons, List.map_cons]
      rw [ih]
    | false =>
      rw [if_neg (by decide), if_neg (by decide)]
      exact ih
section
variable {P : Program} {w : World} {K : PySem.W.Frag} {mg : Str → Option Value} {base : Heap}
def Rosch : List PyData → PyData → Prop := fun ds d => ∃ (t : List Int) (n : Nat) (o : List Nat), Tab n t ∧ o ∈ orders n ∧ ds = [tI t, nI o] ∧ d = sch (osch n t o)
theorem osch_take {n : Nat} {t : List Int} {o : List Nat} {i : Nat} (hi : i < 2 ^ n) : (osch n t o).take (i + 1) = (osch n t o).take i ++ [oRow t o i] := by
  rw [List.take_add_one]
  congr 1
  unfold osch
  rw [List.getElem?_map, List.getElem?_range hi]
  rfl
theorem fn_order_scheme (T : Txt K mg) : Fn P w K mg base 5 "order_scheme" ["table", "order"] (spF Rosch) := by
  refine def_fnF T.d_order_scheme sc_order_scheme (fun ds d ⟨_, _, _, _, _, e, _⟩ => by rw [e]; rfl) fun f cdv A outer s H vs Q E ds d hr a r q => ?_
  obtain ⟨t, n, o, ht, ho, rfl, rfl⟩ := r
  obtain ⟨x, y, rfl, ax, ay⟩ := a.two
  have hn5 := ht.n5
  have h32 := pow32 hn5
  obtain ⟨hol, hond, holt⟩ := ordK_facts n n o ho
  have hlt : (t.map PyData.int).length = 2 ^ n := by rw [List.length_map, ht.len]
  refine cs_expr (ce_call (fn_need_table T) (fun _ => ⟨rfl, rfl, rfl, rfl, rfl⟩) (fun _ => hr) (ca_cons (ce_v 0 rfl ax) ca_nil) ⟨t, n, ht, rfl, rfl⟩) fun H1 s1 => ?_
  refine cs_expr (ce_call (fn_need_order T) (fun _ => ⟨rfl, rfl, rfl, rfl, rfl⟩) (fun _ => hr) (ca_cons (ce_call (fn_members_of T) (fun _ => ⟨rfl, rfl, rfl, rfl, rfl⟩) (fun _ => hr.mono (by decide)) (ca_cons (ce_v 0 rfl (ax.mono s1)) ca_nil) ⟨t, n, hn5, ht.len, rfl, rfl⟩) (ca_cons (ce_v 1 rfl (ay.mono s1)) ca_nil)) ⟨n, o, hn5, ho, rfl, rfl⟩) fun H2 s2 => ?_
  have s02 := s1.trans s2
  refine cs_setN 2 sc_order_scheme.nd (cn_lst ca_nil) fun p xs H3 hp s3 h3 im => ?_
  have hp0 : H p = none := s02.free hp
  refine cs_for (ci_rng1 (n := 2 ^ n) (fun _ => T.b_range) ((ce_lenT (fun _ => T.b_len) (ce_v 0 rfl (ax.mono (s02.trans s3)))).eq (by rw [hlt])) (by omega)) (pg_name (i := 3) sc_order_scheme.nd rfl (Or.inl rfl)) PassesOwn.never fun H4 Gd s4 gk => ?_
  refine ⟨fun i σ' H' => ∃ u g z xs, σ' = [some x, some y, some (.ref p), u, g, z, none, none] ∧ Same H H' ∧ H' p = some (.lst xs) ∧ ImAll H' xs (((osch n t o).take i).map row), ⟨none, none, none, xs, rfl, (s02.trans s3).trans s4, s4 _ _ h3, im.mono (ts_of s4)⟩, fun i σ' H' _ => gk H', fun i d u σ' H' hd hp2 au => ?_, fun σ' H' hp2 => ?_⟩
  · obtain ⟨u0, g0, z0, xs, rfl, sm, hpl, im⟩ := hp2
    obtain ⟨hi, rfl⟩ := rg0_at hd
    have eu := au.int
    subst eu
    have hi32 : i < 32 := by omega
    have hg5 := grp_len (m := i)
    have hord := names_ord ht.n1 hn5 ho hi
    -- group = group_of(mark)
    refine cs_set 4 sc_order_scheme.nd (ce_call (fn_group_of T) (fun _ => ⟨rfl, rfl, rfl, rfl, rfl⟩) (fun _ => hr.mono (by decide)) (ca_cons (ce_v 3 rfl (ofInt _)) ca_nil) ⟨i, hi32, rfl, rfl⟩) fun g H5 s5 ag => ?_
    -- names = [..]
    refine cs_setLc 5 6 (nameG (grp i)) sc_order_scheme.nd (ci_tup (K := K) (ce_v 1 rfl (ay.mono (sm.trans s5))) fun _ => rfl) (by rw [List.length_map, List.length_map]; omega) (fun j d v H6 hd s6 a6 => ?_) (blkOk_by (N := N_order_scheme) (sc := defScope s_order_scheme) (by decide +kernel)) (fun r ns H6 hr6 s6 h6 im6 => ?_) (sw_true rfl rfl rfl (by decide +kernel))
    · obtain ⟨k, hk, rfl⟩ := nI_at hd
      have e : dN (.int ((k : Nat) : Int)) = k := Int.toNat_natCast k
      cases hc : (grp i).contains k with
      | true =>
        refine .inl ⟨.int (((grp i).idxOf k : Nat) : Int), by unfold nameG; rw [e, hc]; rfl, rfl, cp_one ((ct_inT (ce_v 6 rfl a6) (ce_v 4 rfl (ag.mono s6))).eq (by rw [contains_cast, hc])), ?_⟩
        exact (ce_idx (ce_v 4 rfl (ag.mono s6)) (ce_v 6 rfl a6) (mem_cast (List.contains_iff_mem.mp hc))).eq (congrArg (fun z : Nat => PyData.int ((z : Nat) : Int)) (idxOf_cast _ _))
      | false =>
        exact .inr ⟨by unfold nameG; rw [e, hc]; rfl, cp_one ((ct_inT (ce_v 6 rfl a6) (ce_v 4 rfl (ag.mono s6))).eq (by rw [contains_cast, hc]))⟩
    rw [names_map] at im6
    have s06 := (sm.trans s5).trans s6
    have hpl6 := (s5.trans s6) _ _ hpl
    have hml : (marg (partOf t (grp i)) (names o (grp i))).length ≤ 5 := by
      rw [← margAt_all, margAt_len _ _ _ (Nat.le_refl _), hord.len]
      exact hg5
    -- found.append(tuple([(part, 1) for part in marginals(part_of(table, group), names)]))
    refine cs_append (own_v 2 rfl) hpl6 (ce_tupleL (fun _ => T.b_tuple) ((cn_map 7 (fun d => match d with | .int z => pr z | _ => .none) (ci_lst (K := K) (ce_call (fn_marginals T) (fun _ => ⟨rfl, rfl, rfl, rfl, rfl⟩) (fun _ => hr.mono (by decide)) (ca_cons (ce_call (fn_part_of T) (fun _ => ⟨rfl, rfl, rfl, rfl, rfl⟩) (fun _ => hr.mono (by decide)) (ca_cons (ce_v 0 rfl (ax.mono s06)) (ca_cons (ce_v 4 rfl (ag.mono s6)) ca_nil)) ⟨t, n, i, ht, hi, rfl, rfl⟩) (ca_cons (ce_v 5 rfl (.lst h6 im6)) ca_nil)) ⟨_, _, _, hord, partOf_len hi32, rfl, rfl⟩) fun _ => rfl)
      (by rw [List.length_map]; omega) (fun j d v H7 hd s7 a7 => ?_) (fun _ => sc_order_scheme.nd) (fun _ => blkOk_by (N := N_order_scheme) (sc := defScope s_order_scheme) (by decide +kernel))).eq (es := (oRow t o i).map pr) ?_).ce) ?_ fun v H7 s7 av => cs_nil ?_
    · rw [List.getElem?_map, Option.map_eq_some_iff] at hd
      obtain ⟨k, hk, rfl⟩ := hd
      exact ⟨rfl, ce_tup (ca_cons (ce_v 7 rfl a7) (ca_cons ce_int ca_nil))⟩
    · rw [List.map_map]
      rfl
    · rw [im.len, List.length_map, List.length_take]
      unfold osch
      rw [List.length_map, List.length_range]
      omega
    · have hpl7 := s7 _ _ hpl6
      refine ⟨_, _, _, _, rfl, same_own (s06.trans s7) hp0 _, upd_same, ?_⟩
      rw [osch_take hi, List.map_append]
      refine (((im.mono (ts_of (s5.trans s6))).mono (ts_of s7)).mono (ts_lst hpl7 _)).append (.cons ((av.toIm rfl).mono (ts_lst hpl7 _)) .nil)
  · obtain ⟨u0, g0, z0, xs, rfl, sm, hpl, im⟩ := hp2
    rw [rgD_len, List.take_of_length_le (by rw [osch_len] <;> omega)] at im
    exact cs_ret (ce_tupleL (fun _ => T.b_tuple) (ce_v 2 rfl (.lst hpl im))) fun v H5 s5 a5 => q v H5 (sm.trans s5) a5
end
end Shr


namespace Shr
open PySem PySem.Spec L2
/-! ### a tuple + a tuple; xs.index(n) of a list of ints -/
def rCatF : R2 := fun x y H Q => ∃ a b xs ys, x = .ref a ∧ y = .ref b ∧ TupF H a xs ∧ TupF H b ys ∧ xs.length + ys.length ≤ sizeLine ∧ ys ≠ [] ∧ (xs = [] → Q (.ref b) H) ∧ (xs ≠ [] → ∀ (p : Addr) (o : Obj), H p = none → o.dict = none → Q (.ref p) (upd H p (.frz o (.tup (xs ++ ys)))))
theorem op_catF {X : Cx} : OpR X (binaryOp .Add) rCatF := by
  intro pins s σ H x y v u Q I rx ry h
  obtain ⟨a, b, xs, ys, rfl, rfl, ha, hb, hz, hy, q0, q2⟩ := h
  cases rx
  cases ry
  obtain ⟨its, r1, p1, _⟩ := I.tuple ha.sq
  obtain ⟨its2, r2, p2, _⟩ := I.tuple hb.sq
  by_cases hx : xs = []
  · subst hx
    cases r1
    exact cat_tup0 p1 p2 ⟨.ref b, H, I, rfl, q0 rfl⟩
  · refine HT.cat_tup p1 p2 (fun z => hx (r1.nil_iff.mp z)) (fun z => absurd (r2.nil_iff.mp z) hy) (fun z => ?_) (by rw [← r1.length, ← r2.length]; exact hz)
    refine ⟨.ref s.heap.objs.size, _, I.laid (t' := s.toks) (o := .frz { cls := .type "tuple", data := .seq (its ++ its2).toArray } (.tup (xs ++ ys))) (fun b ob q => Heap.get?_push_of_some _ q) (Nat.le_refl _) ?_, rfl, q2 hx _ _ (I.hok.fresh (Nat.le_refl _)) rfl⟩
    exact ⟨Heap.get?_push_size _ rfl, by rw [List.length_append]; exact hz, _, r1.append r2, ⟨_, Heap.get?_push_size _ rfl, rfl, _, rfl⟩⟩
section
variable {ι : Type} {X : ι → Cx} {σ : L2.St} {H H' : Hp} {e a b c : Expr} {d da db : PyData} {pos : Pos} {i j : Int}
theorem ce_catT {ds es : List PyData} (ha : CE X σ H a (.tuple ds)) (hb : CE X σ H b (.tuple es)) (he : es ≠ []) (hl : ds.length + es.length ≤ 1000) : CE X σ H (.BinOp a .Add b pos) (.tuple (ds ++ es)) := by
  obtain ⟨ta, pa, qa⟩ := ha
  obtain ⟨tb, pb, qb⟩ := hb
  refine ⟨_, fun j => pe_op op_catF (pa j) (pb j), fun H1 s Q q => ?_⟩
  refine qa H1 s _ fun x H2 s2 ax => ?_
  refine qb H2 (s.trans s2) _ fun y H3 s3 ay => ?_
  obtain ⟨p, xs, rfl, e1, i1⟩ := (ax.mono s3).tupE
  obtain ⟨r, ys, rfl, e2, i2⟩ := ay.tupE
  have hsl : sizeLine = 16777216 := sizeLine_eq
  refine ⟨p, r, xs, ys, rfl, rfl, e1, e2, by rw [i1.len, i2.len]; omega, fun z => ?_, fun z => ?_, fun z t o ht hd => ?_⟩
  · subst z
    cases i2
    exact he rfl
  · subst z
    cases i1
    exact q _ H3 (s2.trans s3) (.im (.tup e2 i2))
  · exact q _ _ ((s2.trans s3).trans (same_new ht _)) (.im (.tup (.new hd) ((i1.append i2).mono (ts_of (same_new ht _)))))
/-- [..].index(n) -/
def rIdxL : V → List V → Hp → VK → Prop := fun x xs H Q => ∃ (a : Addr) (l : List Int) (k : Int) (j : Nat), x = .ref a ∧ xs = [.int k] ∧ H a = some (.lst (l.map V.int)) ∧ l[j]? = some k ∧ (∀ (m : Nat) z, m < j → l[m]? = some z → z ≠ k) ∧ Q (.int (j : Nat)) H
theorem mt_idxL {X : Cx} : MtR X "list.index" rIdxL := fun pins s σ H x xs v us Q I rx rs ⟨a, l, k, j, e1, e2, h, hj, hno, q⟩ =>
  mt_index pins s σ H x xs v us Q I rx rs ⟨a, l.map V.int, .int k, j, .int k, e1, e2, SqL.of h, rfl, flat_ints l, by rw [List.getElem?_map, hj]; rfl, by show (k == k) = true; exact beq_self_eq_true k, fun m z' hm hz => by
    rw [List.getElem?_map, Option.map_eq_some_iff] at hz
    obtain ⟨z, h1, rfl⟩ := hz
    show (z == k) = false
    exact beq_eq_false_iff_ne.mpr (hno m z hm h1), q⟩
theorem ce_idxL {K : PySem.W.Frag} {apos : Pos} {l : List Int} {n : Nat} (hK : ∀ j, (X j).K = K) (ha : CN X σ H a (l.map .int)) (hb : CE X σ H b (.int i)) (hk : l[n]? = some i) (hno : ∀ (m : Nat) z, m < n → l[m]? = some z → z ≠ i)
    (hbase : ∀ j, attributeBase a "index" (X j).env (eval a (X j).env) = eval a (X j).env := by intro _; rfl)
    (hfew : ∀ j, ((backTo pos (starEach [b] (X j).env)).all (fun x => !x.1) && (backToKw pos (keywordEach [] (X j).env)).all (fun x => x.1.isSome) && decide ([b].length + ([] : List Keyword).length + (if ([] : List Keyword).isEmpty then 0 else 1) < 30)) = true := by intro _; rfl)
    (hline : (apos.endLine == pos.line) = true := by rfl) (hs : ∀ j, starEach [b] (X j).env = (false, eval b (X j).env) :: starEach [] (X j).env := by intro _; rfl) : CE X σ H (.Call (.Attribute a "index" apos) [b] [] pos) (.int (n : Nat)) := by
  obtain ⟨ta, pa, ra⟩ := ha
  obtain ⟨tb, pb, rb⟩ := hb
  refine ⟨tBM K "list" rIdxL ta (tCons tb tNil), fun j => by rw [← hK j]; exact pe_bm PySem.F.plainAttrs_list PySem.F.slot_list_index PySem.F.type_list_index mt_idxL (pa j) (pa_cons (pb j) pa_nil (hs j)) (hbase j) (hfew j) hline (hs j) rfl, fun H1 s Q q => ?_⟩
  refine ra H1 s _ fun p xs H2 hp s2 h2 im => ?_
  have ex := im.int_eq
  subst ex
  refine ⟨.inl ⟨rfl, _, SqL.of h2⟩, rb H2 (s.trans s2) _ fun v H3 s3 av => ?_⟩
  exact ⟨p, l, i, n, rfl, by rw [av.int], s3 _ _ h2, hk, hno, q _ H3 (s2.trans s3) (.im (.int _))⟩
end
end Shr


namespace Shr
open PySem PySem.Spec L2
theorem bitC10 : ((List.range 32).all fun m => (List.range 10).all fun j => decide ((((m : Nat) : Int) / 2 ^ j) % 2 = 1) == m.testBit j) = true := by decide +kernel
theorem bit10 {m j : Nat} (hm : m < 32) (hj : j < 10) : decide ((((m : Nat) : Int) / 2 ^ j) % 2 = 1) = m.testBit j := eq_of_beq (List.all_eq_true.mp (List.all_eq_true.mp bitC10 m (List.mem_range.mpr hm)) j (List.mem_range.mpr hj))
theorem grp10 : ∀ m : Nat, m < 32 → ((List.range 10).filter fun i => m.testBit i) = grp m := by decide +kernel
def bitG (m : Nat) (d : PyData) : Option PyData := if m.testBit (dN d) then some d else none
theorem filterMap_if {α β : Type} (p : α → Bool) (f : α → β) (g : β → Option β) (h : ∀ a, g (f a) = if p a then some (f a) else none) : ∀ l : List α, (l.map f).filterMap g = (l.filter p).map f
  | [] => rfl
  | x :: l => by
    rw [List.map_cons, List.filterMap_cons, List.filter_cons, h x]
    cases hp : p x with
    | true =>
      rw [if_pos rfl, if_pos rfl, List.map_cons]
      exact congrArg _ (filterMap_if p f g h l)
    | false =>
      rw [if_neg (by decide), if_neg (by decide)]
      exact filterMap_if p f g h l
theorem rg0_map (n : Nat) : rgD 0 n = (List.range n).map fun k => PyData.int ((k : Nat) : Int) := by
  unfold rgD
  refine List.map_congr_left fun k _ => ?_
  rw [Int.zero_add]
theorem nI_eq (l : List Nat) : (l.map fun k => ((k : Nat) : Int)).map PyData.int = l.map fun k => PyData.int ((k : Nat) : Int) := by rw [List.map_map]; rfl
theorem ords_len : ∀ n : Nat, n ≤ 5 → ∀ k : Nat, k ≤ 5 → (ordK n k).length ≤ 500 := by decide +kernel
theorem ordStep_take {n : Nat} {L : List (List Nat)} {i : Nat} {o : List Nat} (h : L[i]? = some o) : ordStep n (L.take (i + 1)) = ordStep n (L.take i) ++ ((List.range n).filter fun i => !o.contains i).map fun i => o ++ [i] := by
  unfold ordStep
  rw [List.take_add_one, h, List.flatMap_append]
  simp
def ordG (o : List Nat) (d : PyData) : Option PyData := if !o.contains (dN d) then some (nI (o ++ [dN d])) else none
theorem ordG_map (o : List Nat) : ∀ l : List Nat, (l.map fun k => PyData.int ((k : Nat) : Int)).filterMap (ordG o) = ((l.filter fun i => !o.contains i).map fun i => o ++ [i]).map nI
  | [] => rfl
  | x :: l => by
    rw [List.map_cons, List.filterMap_cons, List.filter_cons]
    have e : ordG o (.int ((x : Nat) : Int)) = if !o.contains x then some (nI (o ++ [x])) else none := by
      unfold ordG
      rw [show dN (.int ((x : Nat) : Int)) = x from Int.toNat_natCast x]
    rw [e]
    cases hp : o.contains x with
    | false =>
      rw [Bool.not_false, if_pos rfl, if_pos rfl, List.map_cons, List.map_cons]
      exact congrArg _ (ordG_map o l)
    | true =>
      rw [Bool.not_true, if_neg (by decide), if_neg (by decide)]
      exact ordG_map o l
section
variable {P : Program} {w : World} {K : PySem.W.Frag} {mg : Str → Option Value} {base : Heap}
theorem fn_groupL (T : Txt K mg) : Fn P w K mg base 1 "_law_group" ["_law_mark_here"] (spF Rgroup) := by
  refine def_fnF T.d_groupL sc_groupL (fun ds d ⟨i, _, e, _⟩ => by rw [e]; rfl) fun f cdv A outer s H vs Q E ds d hr a r q => ?_
  obtain ⟨m, hm, rfl, rfl⟩ := r
  obtain ⟨v, rfl, av⟩ := a.one
  refine cs_ret (ce_tupleL (fun _ => T.b_tuple) ((cn_lc 1 (bitG m) (ci_rng1 (n := 10) (fun _ => T.b_range) ce_int (by decide)) (by rw [rgD_len]; decide) (fun i d v H2 hd s2 a2 => ?_) (fun _ => sc_groupL.nd) (fun _ => blkOk_by (N := N_groupL) (sc := defScope s_groupL) (by decide +kernel))).eq (es := ((grp m).map fun k => ((k : Nat) : Int)).map PyData.int) ?_).ce) q
  · obtain ⟨hi, rfl⟩ := rg0_at hd
    have e2 := a2.int
    subst e2
    have ct := bit10 hm hi
    have e : dN (.int ((i : Nat) : Int)) = i := Int.toNat_natCast i
    cases hb : m.testBit i with
    | true =>
      rw [hb] at ct
      exact .inl ⟨.int ((i : Nat) : Int), by unfold bitG; rw [e, hb]; rfl, rfl, cp_one ((ct_eqI (ce_mod (ce_intI (fun _ => T.b_int) (ce_shr (ce_v 0 rfl (av.mono s2)) (ce_v 1 rfl (ofInt _)) (by omega))) ce_int (by decide)) ce_int).eq (by exact ct)), ce_v 1 rfl (ofInt _)⟩
    | false =>
      rw [hb] at ct
      exact .inr ⟨by unfold bitG; rw [e, hb]; rfl, cp_one ((ct_eqI (ce_mod (ce_intI (fun _ => T.b_int) (ce_shr (ce_v 0 rfl (av.mono s2)) (ce_v 1 rfl (ofInt _)) (by omega))) ce_int (by decide)) ce_int).eq (by exact ct))⟩
  · rw [nI_eq, ← grp10 m hm, rg0_map]
    refine filterMap_if (fun i => m.testBit i) _ _ (fun k => ?_) _
    unfold bitG
    rw [show dN (.int ((k : Nat) : Int)) = k from Int.toNat_natCast k]
def Rorders : List PyData → PyData → Prop := fun ds d => ∃ n : Nat, n ≤ 5 ∧ ds = [.int (n : Nat)] ∧ d = .list ((orders n).map nI)
theorem fn_ordersL (T : Txt K mg) : Fn P w K mg base 1 "_law_orders" ["_law_many"] (spF Rorders) := by
  refine def_fnF T.d_ordersL sc_ordersL (fun ds d ⟨i, _, e, _⟩ => by rw [e]; rfl) fun f cdv A outer s H vs Q E ds d hr a r q => ?_
  obtain ⟨n, hn, rfl, rfl⟩ := r
  obtain ⟨x, rfl, ax⟩ := a.one
  have ex := ax.int
  subst ex
  have hsl : sizeLine = 16777216 := sizeLine_eq
  refine cs_set 1 sc_ordersL.nd (d := .list ((ordK n 0).map nI)) (cn_lst (ca_cons (ce_tup ca_nil) ca_nil)).ce fun v H1 s1 av => ?_
  refine cs_for (ci_rng1 (fun _ => T.b_range) (ce_v 0 rfl (ofInt _)) (by omega)) (pg_name (i := 2) sc_ordersL.nd rfl (Or.inl rfl)) PassesOwn.never fun H2 Gd s2 gk => ?_
  refine ⟨fun k σ' H' => ∃ g u z o, σ' = [some (.int (n : Nat)), some g, u, z, o, none] ∧ Ar H' g (.list ((ordK n k).map nI)) ∧ Same H H', ⟨v, none, none, none, rfl, av.mono s2, s1.trans s2⟩, fun i σ' H' _ => gk H', fun k d u σ' H' hd hp au => ?_, fun σ' H' hp => ?_⟩
  · obtain ⟨g, u0, z0, o0, rfl, ag, sm⟩ := hp
    obtain ⟨hk, rfl⟩ := rg0_at hd
    refine cs_set 3 sc_ordersL.nd (d := .list []) (cn_lst ca_nil).ce fun z H3 s3 az => ?_
    have hlk := ords_len n hn k (by omega)
    have hlk1 := ords_len n hn (k + 1) (by omega)
    refine cs_for (ci_lst (K := K) (ce_v 1 rfl (ag.mono s3)) fun _ => rfl) (pg_name (i := 4) sc_ordersL.nd rfl (Or.inr rfl)) PassesOwn.never fun H4 Gd4 s4 gk4 => ?_
    refine ⟨fun i σ' H' => ∃ z o, σ' = [some (.int (n : Nat)), some g, some u, some z, o, none] ∧ Ar H' z (.list ((ordStep n ((ordK n k).take i)).map nI)) ∧ Same H4 H', ⟨z, o0, rfl, by rw [List.take_zero]; exact az.mono s4, Same.refl _⟩, fun i σ' H' ⟨_, _, _, _, sm⟩ => gk4.same sm, fun i d w0 σ' H' hd hp aw => ?_, fun σ' H' hp => ?_⟩
    · obtain ⟨z, o1, rfl, az, sm4⟩ := hp
      rw [List.getElem?_map, Option.map_eq_some_iff] at hd
      obtain ⟨o, ho, rfl⟩ := hd
      obtain ⟨hol, _, _⟩ := ordK_facts n k o (List.mem_of_getElem? ho)
      have hst := ordStep_take (n := n) ho
      have hi : i < (ordK n k).length := (List.getElem?_eq_some_iff.mp ho).1
      have hlen : (ordStep n ((ordK n k).take i)).length ≤ 500 * 5 := by
        have h := flatMap_len (fun o => ((List.range n).filter fun i => !o.contains i).map fun i => o ++ [i]) 5 ((ordK n k).take i) fun o _ => by
          rw [List.length_map]
          have := List.length_filter_le (fun i => !o.contains i) (List.range n)
          rw [List.length_range] at this
          omega
        rw [List.length_take] at h
        have h2 : min i (ordK n k).length * 5 ≤ 500 * 5 := Nat.mul_le_mul_right 5 (by omega)
        exact Nat.le_trans h h2
      refine cs_set 3 sc_ordersL.nd (d := .list ((ordStep n ((ordK n k).take (i + 1))).map nI)) (CN.ce ((cn_cat (ce_v 3 rfl az) (cn_lc 5 (ordG o) (ci_rng1 (fun _ => T.b_range) (ce_v 0 rfl (ofInt _)) (by omega)) (by rw [rgD_len]; omega) (fun j d v H6 hd s6 a6 => ?_) (fun _ => sc_ordersL.nd) (fun _ => blkOk_by (N := N_ordersL) (sc := defScope s_ordersL) (by decide +kernel))).ce ?_).eq ?_)) fun z2 H5 s5 a5 => cs_nil ⟨z2, some w0, rfl, a5, sm4.trans s5⟩
      · obtain ⟨hj, rfl⟩ := rg0_at hd
        have e6 := a6.int
        subst e6
        have e : dN (.int ((j : Nat) : Int)) = j := Int.toNat_natCast j
        have eL : ((o.map fun k => ((k : Nat) : Int)).map PyData.int) ++ [.int ((j : Nat) : Int)] = ((o ++ [j]).map fun k => ((k : Nat) : Int)).map PyData.int := by rw [List.map_append, List.map_append]; rfl
        cases hc : o.contains j with
        | false =>
          exact .inl ⟨nI (o ++ [j]), by unfold ordG; rw [e, hc]; rfl, rfl, cp_one ((ct_notInT (ce_v 5 rfl (ofInt _)) (ce_v 4 rfl (aw.mono s6))).eq (by rw [contains_cast, hc]; rfl)),
            (ce_catT (ce_v 4 rfl (aw.mono s6)) (ce_tup (ca_cons (ce_v 5 rfl (ofInt _)) ca_nil)) (by simp) (by rw [List.length_map, List.length_map, hol]; show k + 1 ≤ _; omega)).eq (congrArg PyData.tuple eL)⟩
        | true =>
          exact .inr ⟨by unfold ordG; rw [e, hc]; rfl, cp_one ((ct_notInT (ce_v 5 rfl (ofInt _)) (ce_v 4 rfl (aw.mono s6))).eq (by rw [contains_cast, hc]; rfl))⟩
      · rw [List.length_map]
        have h1 := List.length_filterMap_le (ordG o) (rgD 0 n)
        rw [rgD_len] at h1
        omega
      · rw [hst, List.map_append, rg0_map, ordG_map]
    · obtain ⟨z, o1, rfl, az, sm4⟩ := hp
      rw [List.length_map, List.take_length] at az
      refine cs_set 1 sc_ordersL.nd (ce_v 3 rfl az) fun g2 H5 s5 a5 => cs_nil ?_
      exact ⟨g2, _, _, _, rfl, a5, (sm.trans s3).trans ((s4.trans sm4).trans s5)⟩
  · obtain ⟨g, u, z, o, rfl, ag, sm⟩ := hp
    rw [rgD_len] at ag
    exact cs_ret (ce_v 1 rfl ag) fun v H4 s4 a4 => q v H4 (sm.trans s4) a4
theorem pow_idx : ∀ n : Nat, n ≤ 5 → 1 ≤ n → ([2, 4, 8, 16, 32] : List Int)[n - 1]? = some ((2 ^ n : Nat) : Int) := by decide +kernel
theorem pow_no : ∀ n : Nat, n ≤ 5 → 1 ≤ n → ∀ m : Nat, m < n - 1 → ([2, 4, 8, 16, 32] : List Int)[m]? ≠ some ((2 ^ n : Nat) : Int) := by decide +kernel
def Rsize : List PyData → PyData → Prop := fun ds d => ∃ (t : List Int) (n : Nat), Tab n t ∧ ds = [tI t] ∧ d = .int (n : Nat)
theorem fn_sizeL (T : Txt K mg) : Fn P w K mg base 1 "_law_size" ["_law_table_here"] (spF Rsize) := by
  refine def_fnF T.d_sizeL sc_sizeL (fun ds d ⟨_, _, _, e, _⟩ => by rw [e]; rfl) fun f cdv A outer s H vs Q E ds d hr a r q => ?_
  obtain ⟨t, n, ht, rfl, rfl⟩ := r
  obtain ⟨v, rfl, av⟩ := a.one
  have h1 := ht.n1
  refine cs_ret ((ce_add (ce_idxL (K := K) (l := [2, 4, 8, 16, 32]) (n := n - 1) (i := ((2 ^ n : Nat) : Int)) (fun _ => rfl) (cn_lst (ca_cons ce_int (ca_cons ce_int (ca_cons ce_int (ca_cons ce_int (ca_cons ce_int ca_nil)))))) ((ce_lenT (fun _ => T.b_len) (ce_v 0 rfl av)).eq (by rw [List.length_map, ht.len])) (pow_idx n ht.n5 h1) (fun m z hm hz e => pow_no n ht.n5 h1 m hm (e ▸ hz))) ce_int).eq ?_) q
  congr 1
  omega
end
end Shr


namespace Shr
open PySem PySem.Spec L2
def maskS (l : List Nat) : Nat := (l.map fun k => 2 ^ k).sum
def partC (m x : Nat) : Bool := (grp x).all (fun p => decide (p < (grp m).length)) && decide (maskS ((grp x).map fun p => (grp m).getD p 0) = (marksOf (grp m)).getD x 0)
theorem partC_all : ((List.range 32).all fun m => (List.range (2 ^ (grp m).length)).all fun x => partC m x) = true := by decide +kernel
theorem part_facts {m x : Nat} (hm : m < 32) (hx : x < 2 ^ (grp m).length) : (∀ p ∈ grp x, p < (grp m).length) ∧ maskS ((grp x).map fun p => (grp m).getD p 0) = (marksOf (grp m)).getD x 0 := by
  have h := List.all_eq_true.mp (List.all_eq_true.mp partC_all m (List.mem_range.mpr hm)) x (List.mem_range.mpr hx)
  unfold partC at h
  rw [Bool.and_eq_true] at h
  exact ⟨fun p hp => of_decide_eq_true (List.all_eq_true.mp h.1 p hp), of_decide_eq_true h.2⟩
theorem castSum (l : List Nat) : (l.map fun k => (((2 ^ k : Nat)) : Int)).sum = ((maskS l : Nat) : Int) := by
  induction l with
  | nil => rfl
  | cons x l ih =>
    rw [List.map_cons, List.sum_cons, ih]
    show _ = (((2 ^ x + maskS l) : Nat) : Int)
    rw [Int.natCast_add]
theorem getD_cast (l : List Nat) (k : Nat) : (l.map fun k => ((k : Nat) : Int)).getD k 0 = ((l.getD k 0 : Nat) : Int) := by
  by_cases h : k < l.length
  · simp [List.getD_eq_getElem?_getD, h]
  · have h : l.length ≤ k := Nat.le_of_not_lt h
    rw [List.getD_eq_getElem?_getD, List.getElem?_eq_none (by rw [List.length_map]; exact h), List.getD_eq_getElem?_getD, List.getElem?_eq_none h]
    rfl
section
variable {P : Program} {w : World} {K : PySem.W.Frag} {mg : Str → Option Value} {base : Heap}
theorem fn_addedL (T : Txt K mg) : Fn P w K mg base 1 "_law_added" ["_law_table_here", "_law_order"] (spF Rmarg) := by
  refine def_fnF T.d_addedL sc_addedL (fun ds d ⟨_, _, _, _, _, e, _⟩ => by rw [e]; rfl) fun f cdv A outer s H vs Q E ds d hr a r q => ?_
  obtain ⟨t, o, k, ho, hl, rfl, rfl⟩ := r
  obtain ⟨x, y, rfl, ax, ay⟩ := a.two
  obtain ⟨oq, oxs, rfl, eo, io⟩ := ay.lstE
  have h5 := ho.k5
  have hlo := ho.len
  refine cs_parLN 2 3 sc_addedL.nd (cn_rep (cn_lst (ca_cons ce_int ca_nil)).ce (ce_lenL (fun _ => T.b_len) (ce_v 1 rfl ay)) (by omega) (by rw [List.length_map, List.length_map]; omega)) ce_int fun p xs z H1 hp s1 h1 im az => ?_
  have ez := az.int
  subst ez
  have npo : oq ≠ p := ne_of_none eo hp
  have exs : xs = (margAt t o 0).1.map V.int := by
    rw [reps] at im
    rw [im.int_eq, margAt_zero, List.length_map, List.length_map]
    rfl
  subst exs
  refine cs_for (ci_at (K := K) 1 rfl (s1 _ _ eo) (io.mono (ts_of s1)) fun _ => rfl) (pg_name (i := 4) sc_addedL.nd rfl (Or.inl rfl)) PassesOwn.never fun H2 Gd s2 gk => ?_
  obtain ⟨gxs, gx, gk⟩ := gk
  have e2 := (s1.trans s2) _ _ eo
  rw [e2] at gx
  cases gx
  refine ⟨fun i σ' H' => ∃ u, σ' = [some x, some (.ref oq), some (.ref p), some (.int (((margAt t o i).2 : Nat) : Int)), u] ∧ Same H H' ∧ TSt H2 H' ∧ H' oq = some (.lst oxs) ∧ H' p = some (.lst ((margAt t o i).1.map V.int)), ⟨none, rfl, s1.trans s2, ts_of (Same.refl _), e2, s2 _ _ h1⟩,
    fun i σ' H' ⟨_, _, _, ts, h, _⟩ => gk H' ts h, fun i d u σ' H' hd hp2 au => ?_, fun σ' H' hp2 => ?_⟩
  · obtain ⟨u0, rfl, sm, ts, hoq, hpl⟩ := hp2
    obtain ⟨kk, hk, rfl⟩ := nI_at hd
    have eu := au.int
    subst eu
    obtain ⟨b1, b2, b3⟩ := margAt_or (t := t) ho hk
    have hkk := ho.lt kk (List.mem_of_getElem? hk)
    have hi : i < o.length := (List.getElem?_eq_some_iff.mp hk).1
    have hml := margAt_len t o i (by omega)
    have axm := ax.mono sm
    have esum : (((margAt t o i).2 : Nat) : Int) + 1 * 2 ^ (((kk : Nat) : Int)).toNat = (((margAt t o i).2 + 2 ^ kk : Nat) : Int) := by rw [Int.toNat_natCast, two_pow_int, Int.natCast_add]
    refine cs_item (n := kk) (ce_sub (ce_ixI (k := (margAt t o i).2 + 2 ^ kk) (ce_v 0 rfl axm) ((ce_add (ce_v 3 rfl (ofInt _)) (ce_shl ce_int (ce_v 4 rfl (ofInt _)) (cpow (by omega)))).eq (congrArg PyData.int esum)) (by rw [hl]; exact b1)) (ce_ixI (k := (margAt t o i).2) (ce_v 0 rfl axm) (ce_v 3 rfl (ofInt _)) (by rw [hl]; exact b3)))
      (fun H1 _ => own_v 2 rfl) hpl (ce_v 4 rfl (ofInt _)) (by rw [List.length_map]; omega) fun v H3 s3 av => ?_
    have ev := av.int
    subst ev
    refine cs_set 3 sc_addedL.nd ((ce_add (ce_v 3 rfl (ofInt _)) (ce_shl ce_int (ce_v 4 rfl (ofInt _)) (cpow (by omega)))).eq (congrArg PyData.int esum)) fun v H4 s4 av => cs_nil ?_
    have ev := av.int
    subst ev
    have hpl3 := s3 _ _ hpl
    refine ⟨_, by rw [margAt_succ hk]; rfl, (same_own (sm.trans s3) hp _).trans s4, fun b ob ys e => s4 _ _ (ts_lst hpl3 _ b ob ys (s3 _ _ (ts b ob ys e))), s4 _ _ (by rw [upd_ne npo]; exact s3 _ _ hoq), s4 _ _ ?_⟩
    rw [upd_same, set_cast, margAt_succ hk]
    rfl
  · obtain ⟨u, rfl, sm, ts, hoq, hpl⟩ := hp2
    rw [List.length_map, List.length_map, margAt_all] at hpl
    exact cs_ret (ce_v 2 rfl (.lst hpl (ImAll.ints _))) fun v H4 s4 a4 => q v H4 (sm.trans s4) a4
def Rmask : List PyData → PyData → Prop := fun ds d => ∃ l : List Nat, (∀ x ∈ l, x < 100) ∧ l.length ≤ 100 ∧ ds = [nL l] ∧ d = .int ((maskS l : Nat) : Int)
theorem fn_markL (T : Txt K mg) : Fn P w K mg base 1 "_law_mark" ["_law_group_here"] (spF Rmask) := by
  refine def_fnF T.d_markL sc_markL (fun ds d ⟨_, _, _, e, _⟩ => by rw [e]; rfl) fun f cdv A outer s H vs Q E ds d hr a r q => ?_
  obtain ⟨l, hlt, hlen, rfl, rfl⟩ := r
  obtain ⟨v, rfl, av⟩ := a.one
  refine cs_ret ((ce_sum (ns := l.map fun k => (((2 ^ k : Nat)) : Int)) (fun _ => T.b_sum) ((cn_map 1 (fun d => .int ((2 ^ (dN d) : Nat) : Int)) (ci_lst (K := K) (ce_v 0 rfl av) fun _ => rfl) (by rw [List.length_map, List.length_map]; omega) (fun i d v H2 hd s2 a2 => ⟨rfl, ?_⟩) (fun _ => sc_markL.nd) (fun _ => blkOk_by (N := N_markL) (sc := defScope s_markL) (by decide +kernel))).eq ?_).ce).eq (congrArg PyData.int (castSum l))) q
  · obtain ⟨k, hk, rfl⟩ := nI_at hd
    refine (ce_shl ce_int (ce_v 1 rfl a2) (cpow (hlt k (List.mem_of_getElem? hk)))).eq (congrArg PyData.int ?_)
    rw [Int.toNat_natCast, two_pow_int]
    rfl
  · rw [List.map_map, List.map_map, List.map_map]
    rfl
theorem fn_partL (T : Txt K mg) : Fn P w K mg base 2 "_law_part" ["_law_table_here", "_law_group_here"] (spF Rpart_of) := by
  refine def_fnF T.d_partL sc_partL (fun ds d ⟨_, _, _, _, _, e, _⟩ => by rw [e]; rfl) fun f cdv A outer s H vs Q E ds d hr a r q => ?_
  obtain ⟨t, n, m, ht, hm, rfl, rfl⟩ := r
  obtain ⟨x, y, rfl, ax, ay⟩ := a.two
  have hm32 : m < 32 := Nat.lt_of_lt_of_le hm (pow32 ht.n5)
  have hg5 := grp_len (m := m)
  have hgp := pow32 hg5
  refine cs_setN 2 sc_partL.nd (cn_lst ca_nil) fun p xs H1 hp s1 h1 im => ?_
  refine cs_for (ci_rng1 (n := 2 ^ (grp m).length) (fun _ => T.b_range) ((ce_shl ce_int (ce_lenT (fun _ => T.b_len) (ce_v 1 rfl (ay.mono s1))) (cpow (by rw [List.length_map, List.length_map]; omega))).eq (congrArg PyData.int ?_)) (by omega)) (pg_name (i := 3) sc_partL.nd rfl (Or.inl rfl)) PassesOwn.never fun H2 Gd s2 gk => ?_
  · rw [Int.toNat_natCast, two_pow_int, List.length_map, List.length_map]
  refine ⟨fun i σ' H' => ∃ u xs, σ' = [some x, some y, some (.ref p), u, none] ∧ Same H H' ∧ H' p = some (.lst xs) ∧ ImAll H' xs (((partOf t (grp m)).take i).map .int), ⟨none, xs, rfl, s1.trans s2, s2 _ _ h1, im.mono (ts_of s2)⟩, fun i σ' H' _ => gk H', fun i d u σ' H' hd hp2 au => ?_, fun σ' H' hp2 => ?_⟩
  · obtain ⟨u0, xs, rfl, sm, hpl, im⟩ := hp2
    obtain ⟨hi, rfl⟩ := rg0_at hd
    have eu := au.int
    subst eu
    have hi32 : i < 32 := by omega
    obtain ⟨f1, f2⟩ := part_facts hm32 hi
    have hml := marks_full m hm32
    have hmi : (marksOf (grp m))[i]? = some ((marksOf (grp m)).getD i 0) := by
      rw [List.getD_eq_getElem?_getD, List.getElem?_eq_getElem (by omega)]
      rfl
    have hlt := marks_lt n ht.n5 m hm _ (List.mem_of_getElem? hmi)
    have hpi : (partOf t (grp m))[i]? = some (t.getD ((marksOf (grp m)).getD i 0) 0) := by
      unfold partOf
      rw [List.getElem?_map, hmi]
      rfl
    refine cs_append (own_v 2 rfl) hpl (ce_ixI (k := (marksOf (grp m)).getD i 0) (ce_v 0 rfl (ax.mono sm)) ((ce_call (fn_markL T) (fun _ => ⟨rfl, rfl, rfl, rfl, rfl⟩) (fun _ => hr) (ca_cons ((cn_map 4 (fun d => .int (((grp m).getD (dN d) 0 : Nat) : Int)) (ci_tup (K := K) (ce_call (fn_groupL T) (fun _ => ⟨rfl, rfl, rfl, rfl, rfl⟩) (fun _ => hr) (ca_cons (ce_v 3 rfl (ofInt _)) ca_nil) ⟨i, hi32, rfl, rfl⟩) fun _ => rfl) (by rw [List.length_map, List.length_map]; have := grp_len (m := i); omega) (fun j d v H6 hd s6 a6 => ⟨rfl, ?_⟩) (fun _ => sc_partL.nd) (fun _ => blkOk_by (N := N_partL) (sc := defScope s_partL) (by decide +kernel))).ce.eq (da := nL ((grp i).map fun p => (grp m).getD p 0)) ?_) ca_nil) ⟨_, ?_, ?_, rfl, rfl⟩).eq (congrArg (fun z : Nat => PyData.int ((z : Nat) : Int)) f2)) (by rw [ht.len]; exact hlt)) ?_ fun v H3 s3 av => cs_nil ?_
    · obtain ⟨k, hk, rfl⟩ := nI_at hd
      have hkl := f1 k (List.mem_of_getElem? hk)
      exact (ce_ixI (k := k) (ce_v 1 rfl (ay.mono (sm.trans s6))) (ce_v 4 rfl a6) (by rw [List.length_map]; exact hkl)).eq (congrArg PyData.int (getD_cast _ _))
    · show _ = PyData.list ((((grp i).map fun p => (grp m).getD p 0).map fun k => ((k : Nat) : Int)).map PyData.int)
      rw [List.map_map, List.map_map, List.map_map, List.map_map]
      rfl
    · intro z hz
      obtain ⟨p, hp, rfl⟩ := List.mem_map.mp hz
      have hpl := f1 p hp
      have : (grp m).getD p 0 ∈ grp m := by
        rw [List.getD_eq_getElem?_getD, List.getElem?_eq_getElem hpl]
        exact List.getElem_mem hpl
      have := grp_lt this
      omega
    · rw [List.length_map]
      have := grp_len (m := i)
      omega
    · rw [im.len, List.length_map, List.length_take]
      omega
    · have hpl3 := s3 _ _ hpl
      refine ⟨_, _, rfl, same_own (sm.trans s3) hp _, upd_same, ?_⟩
      rw [List.take_add_one, hpi, List.map_append]
      exact (((im.mono (ts_of s3)).mono (ts_lst hpl3 _))).append (.cons ((av.toIm rfl).mono (ts_lst hpl3 _)) .nil)
  · obtain ⟨u0, xs, rfl, sm, hpl, im⟩ := hp2
    rw [rgD_len, List.take_of_length_le (by rw [partOf_len hm32] <;> omega)] at im
    exact cs_ret (ce_tupleL (fun _ => T.b_tuple) (ce_v 2 rfl (.lst hpl im))) fun v H5 s5 a5 => q v H5 (sm.trans s5) a5
theorem fn_scheme_ofL (T : Txt K mg) : Fn P w K mg base 3 "_law_scheme_of" ["_law_table_here", "_law_order"] (spF Rosch) := by
  refine def_fnF T.d_scheme_ofL sc_scheme_ofL (fun ds d ⟨_, _, _, _, _, e, _⟩ => by rw [e]; rfl) fun f cdv A outer s H vs Q E ds d hr a r q => ?_
  obtain ⟨t, n, o, ht, ho, rfl, rfl⟩ := r
  obtain ⟨x, y, rfl, ax, ay⟩ := a.two
  have hn5 := ht.n5
  have h32 := pow32 hn5
  obtain ⟨hol, hond, holt⟩ := ordK_facts n n o ho
  have hlt : (t.map PyData.int).length = 2 ^ n := by rw [List.length_map, ht.len]
  refine cs_setN 2 sc_scheme_ofL.nd (cn_lst ca_nil) fun p xs H3 hp s3 h3 im => ?_
  refine cs_for (ci_rng1 (n := 2 ^ n) (fun _ => T.b_range) ((ce_lenT (fun _ => T.b_len) (ce_v 0 rfl (ax.mono s3))).eq (by rw [hlt])) (by omega)) (pg_name (i := 3) sc_scheme_ofL.nd rfl (Or.inl rfl)) PassesOwn.never fun H4 Gd s4 gk => ?_
  refine ⟨fun i σ' H' => ∃ u g z xs, σ' = [some x, some y, some (.ref p), u, g, z, none, none] ∧ Same H H' ∧ H' p = some (.lst xs) ∧ ImAll H' xs (((osch n t o).take i).map row), ⟨none, none, none, xs, rfl, s3.trans s4, s4 _ _ h3, im.mono (ts_of s4)⟩, fun i σ' H' _ => gk H', fun i d u σ' H' hd hp2 au => ?_, fun σ' H' hp2 => ?_⟩
  · obtain ⟨u0, g0, z0, xs, rfl, sm, hpl, im⟩ := hp2
    obtain ⟨hi, rfl⟩ := rg0_at hd
    have eu := au.int
    subst eu
    have hi32 : i < 32 := by omega
    have hg5 := grp_len (m := i)
    have hord := names_ord ht.n1 hn5 ho hi
    refine cs_set 4 sc_scheme_ofL.nd (ce_call (fn_groupL T) (fun _ => ⟨rfl, rfl, rfl, rfl, rfl⟩) (fun _ => hr.mono (by decide)) (ca_cons (ce_v 3 rfl (ofInt _)) ca_nil) ⟨i, hi32, rfl, rfl⟩) fun g H5 s5 ag => ?_
    have s05 := sm.trans s5
    have hml : (marg (partOf t (grp i)) (names o (grp i))).length ≤ 5 := by
      rw [← margAt_all, margAt_len _ _ _ (Nat.le_refl _), hord.len]
      exact hg5
    refine cs_set 5 sc_scheme_ofL.nd (ce_call (fn_addedL T) (fun _ => ⟨rfl, rfl, rfl, rfl, rfl⟩) (fun _ => hr.mono (by decide)) (ca_cons (ce_call (fn_partL T) (fun _ => ⟨rfl, rfl, rfl, rfl, rfl⟩) (fun _ => hr) (ca_cons (ce_v 0 rfl (ax.mono s05)) (ca_cons (ce_v 4 rfl ag) ca_nil)) ⟨t, n, i, ht, hi, rfl, rfl⟩)
      (ca_cons ((cn_lc 6 (nameG (grp i)) (ci_tup (K := K) (ce_v 1 rfl (ay.mono s05)) fun _ => rfl) (by rw [List.length_map, List.length_map]; omega) (fun j d v H6 hd s6 a6 => ?_) (fun _ => sc_scheme_ofL.nd) (fun _ => blkOk_by (N := N_scheme_ofL) (sc := defScope s_scheme_ofL) (by decide +kernel))).ce.eq (da := nL (names o (grp i))) (congrArg PyData.list (names_map _ _))) ca_nil)) ⟨_, _, _, hord, partOf_len hi32, rfl, rfl⟩) fun z H6 s6 az => ?_
    · obtain ⟨k, hk, rfl⟩ := nI_at hd
      have e : dN (.int ((k : Nat) : Int)) = k := Int.toNat_natCast k
      cases hc : (grp i).contains k with
      | true =>
        refine .inl ⟨.int (((grp i).idxOf k : Nat) : Int), by unfold nameG; rw [e, hc]; rfl, rfl, cp_one ((ct_inT (ce_v 6 rfl a6) (ce_v 4 rfl (ag.mono s6))).eq (by rw [contains_cast, hc])), ?_⟩
        exact (ce_idx (ce_v 4 rfl (ag.mono s6)) (ce_v 6 rfl a6) (mem_cast (List.contains_iff_mem.mp hc))).eq (congrArg (fun z : Nat => PyData.int ((z : Nat) : Int)) (idxOf_cast _ _))
      | false =>
        exact .inr ⟨by unfold nameG; rw [e, hc]; rfl, cp_one ((ct_inT (ce_v 6 rfl a6) (ce_v 4 rfl (ag.mono s6))).eq (by rw [contains_cast, hc]))⟩
    have s06 := s05.trans s6
    have hpl6 := (s5.trans s6) _ _ hpl
    refine cs_append (own_v 2 rfl) hpl6 (ce_tupleL (fun _ => T.b_tuple) ((cn_map 7 (fun d => match d with | .int z => pr z | _ => .none) (ci_lst (K := K) (ce_v 5 rfl az) fun _ => rfl)
      (by rw [List.length_map]; omega) (fun j d v H7 hd s7 a7 => ?_) (fun _ => sc_scheme_ofL.nd) (fun _ => blkOk_by (N := N_scheme_ofL) (sc := defScope s_scheme_ofL) (by decide +kernel))).eq (es := (oRow t o i).map pr) ?_).ce) ?_ fun v H7 s7 av => cs_nil ?_
    · rw [List.getElem?_map, Option.map_eq_some_iff] at hd
      obtain ⟨k, hk, rfl⟩ := hd
      exact ⟨rfl, ce_tup (ca_cons (ce_v 7 rfl a7) (ca_cons ce_int ca_nil))⟩
    · rw [List.map_map]
      rfl
    · rw [im.len, List.length_map, List.length_take]
      unfold osch
      rw [List.length_map, List.length_range]
      omega
    · have hpl7 := s7 _ _ hpl6
      refine ⟨_, _, _, _, rfl, same_own (s06.trans s7) hp _, upd_same, ?_⟩
      rw [osch_take hi, List.map_append]
      refine (((im.mono (ts_of (s5.trans s6))).mono (ts_of s7)).mono (ts_lst hpl7 _)).append (.cons ((av.toIm rfl).mono (ts_lst hpl7 _)) .nil)
  · obtain ⟨u0, g0, z0, xs, rfl, sm, hpl, im⟩ := hp2
    rw [rgD_len, List.take_of_length_le (by rw [osch_len] <;> omega)] at im
    exact cs_ret (ce_tupleL (fun _ => T.b_tuple) (ce_v 2 rfl (.lst hpl im))) fun v H5 s5 a5 => q v H5 (sm.trans s5) a5
end
end Shr


namespace Shr
open PySem PySem.Spec L2
def bentAt (t : List Int) (S i j : Nat) : Bool := S.testBit i || S.testBit j || decide (t.getD (S + 2 ^ i + 2 ^ j) 0 + t.getD S 0 ≤ t.getD (S + 2 ^ i) 0 + t.getD (S + 2 ^ j) 0)
theorem bent_eq (n : Nat) (t : List Int) : bent n t = (List.range (2 ^ n)).all fun S => (List.range n).all fun i => (List.range i).all fun j => bentAt t S i j := rfl
def bandC (n m i j : Nat) : Bool := (decide (Builtin.bitAnd ((m : Nat) : Int) ((2 ^ i + 2 ^ j : Nat) : Int) = 0) == !(m.testBit i || m.testBit j)) && (m.testBit i || m.testBit j || decide (m + 2 ^ i + 2 ^ j < 2 ^ n))
theorem bandC_all : ((List.range 6).all fun n => (List.range (2 ^ n)).all fun m => (List.range n).all fun i => (List.range i).all fun j => bandC n m i j) = true := by decide +kernel
theorem band_facts {n m i j : Nat} (hn : n ≤ 5) (hm : m < 2 ^ n) (hi : i < n) (hj : j < i) : decide (Builtin.bitAnd ((m : Nat) : Int) ((2 ^ i + 2 ^ j : Nat) : Int) = 0) = (!(m.testBit i || m.testBit j)) ∧ ((m.testBit i || m.testBit j) = false → m + 2 ^ i + 2 ^ j < 2 ^ n) := by
  have h := List.all_eq_true.mp (List.all_eq_true.mp (List.all_eq_true.mp (List.all_eq_true.mp bandC_all n (List.mem_range.mpr (by omega))) m (List.mem_range.mpr hm)) i (List.mem_range.mpr hi)) j (List.mem_range.mpr hj)
  unfold bandC at h
  rw [Bool.and_eq_true] at h
  refine ⟨eq_of_beq h.1, fun hb => ?_⟩
  have h2 := h.2
  rw [hb, Bool.false_or] at h2
  exact of_decide_eq_true h2
theorem all_range_succ {p : Nat → Bool} {i : Nat} (h : (List.range i).all p = true) (hi : p i = true) : (List.range (i + 1)).all p = true := by
  rw [List.range_succ, List.all_append, h]
  simpa using hi
theorem all_false_of {p : Nat → Bool} {n i : Nat} (hi : i < n) (h : p i = false) : (List.range n).all p = false := List.all_eq_false.mpr ⟨i, List.mem_range.mpr hi, by rw [h]; decide⟩
section
variable {P : Program} {w : World} {K : PySem.W.Frag} {mg : Str → Option Value} {base : Heap}
def Rbent : List PyData → PyData → Prop := fun ds d => ∃ (t : List Int) (n : Nat), Tab n t ∧ ds = [tI t] ∧ d = .bool (bent n t)
theorem fn_bentL (T : Txt K mg) : Fn P w K mg base 2 "_law_bent" ["_law_table_here"] (spF Rbent) := by
  refine def_fnF T.d_bentL sc_bentL (fun ds d ⟨_, _, _, e, _⟩ => by rw [e]; rfl) fun f cdv A outer s H vs Q E ds d hr a r q => ?_
  obtain ⟨t, n, ht, rfl, rfl⟩ := r
  obtain ⟨x, rfl, ax⟩ := a.one
  have hn5 := ht.n5
  have h32 := pow32 hn5
  have hlt : (t.map PyData.int).length = 2 ^ n := by rw [List.length_map, ht.len]
  refine cs_set 1 sc_bentL.nd (ce_call (fn_sizeL T) (fun _ => ⟨rfl, rfl, rfl, rfl, rfl⟩) (fun _ => hr) (ca_cons (ce_v 0 rfl ax) ca_nil) ⟨t, n, ht, rfl, rfl⟩) fun v H1 s1 av => ?_
  have ev := av.int
  subst ev
  refine cs_for (ci_rng1 (n := 2 ^ n) (fun _ => T.b_range) ((ce_lenT (fun _ => T.b_len) (ce_v 0 rfl (ax.mono s1))).eq (by rw [hlt])) (by omega)) (pg_name (i := 2) sc_bentL.nd rfl (Or.inl rfl)) PassesOwn.never fun H2 Gd s2 gk => ?_
  refine ⟨fun m σ' H' => ∃ b2 b3 b4 b5 b6, σ' = [some x, some (.int (n : Nat)), b2, b3, b4, b5, b6] ∧ Same H H' ∧ ((List.range m).all fun S => (List.range n).all fun i => (List.range i).all fun j => bentAt t S i j) = true, ⟨_, _, _, _, _, rfl, s1.trans s2, rfl⟩, fun i σ' H' _ => gk H', fun m d u σ' H' hd hp au => ?_, fun σ' H' hp => ?_⟩
  · obtain ⟨b2, b3, b4, b5, b6, rfl, sm, hall⟩ := hp
    obtain ⟨hm, rfl⟩ := rg0_at hd
    have eu := au.int
    subst eu
    refine cs_for (ci_rng1 (fun _ => T.b_range) (ce_v 1 rfl (ofInt _)) (by omega)) (pg_name (i := 3) sc_bentL.nd rfl (Or.inl rfl)) PassesOwn.never fun H3 Gd3 s3 gk3 => ?_
    refine ⟨fun i σ' H' => ∃ b3 b4 b5 b6, σ' = [some x, some (.int (n : Nat)), some (.int (m : Nat)), b3, b4, b5, b6] ∧ Same H H' ∧ ((List.range i).all fun i => (List.range i).all fun j => bentAt t m i j) = true, ⟨_, _, _, _, rfl, sm.trans s3, rfl⟩, fun i σ' H' _ => gk3 H', fun i d u σ' H' hd hp au => ?_, fun σ' H' hp => ?_⟩
    · obtain ⟨b3, b4, b5, b6, rfl, sm, hall3⟩ := hp
      obtain ⟨hi, rfl⟩ := rg0_at hd
      have eu := au.int
      subst eu
      refine cs_for (ci_rng1 (fun _ => T.b_range) (ce_v 3 rfl (ofInt _)) (by omega)) (pg_name (i := 4) sc_bentL.nd rfl (Or.inl rfl)) PassesOwn.never fun H4 Gd4 s4 gk4 => ?_
      refine ⟨fun j σ' H' => ∃ b4 b5 b6, σ' = [some x, some (.int (n : Nat)), some (.int (m : Nat)), some (.int (i : Nat)), b4, b5, b6] ∧ Same H H' ∧ ((List.range j).all fun j => bentAt t m i j) = true, ⟨_, _, _, rfl, sm.trans s4, rfl⟩, fun i σ' H' _ => gk4 H', fun j d u σ' H' hd hp au => ?_, fun σ' H' hp => ?_⟩
      · obtain ⟨b4, b5, b6, rfl, sm, hall4⟩ := hp
        obtain ⟨hj, rfl⟩ := rg0_at hd
        have eu := au.int
        subst eu
        obtain ⟨f1, f2⟩ := band_facts hn5 hm hi hj
        have hi5 : i < 5 := by omega
        refine cs_set 5 sc_bentL.nd (d := .int ((2 ^ i + 2 ^ j : Nat) : Int)) ((ce_add (ce_shl ce_int (ce_v 3 rfl (ofInt _)) (cpow (by omega))) (ce_shl ce_int (ce_v 4 rfl (ofInt _)) (cpow (by omega)))).eq (congrArg PyData.int (by rw [Int.toNat_natCast, Int.toNat_natCast, two_pow_int, two_pow_int, Int.natCast_add]))) fun v H5 s5 av => ?_
        have ev := av.int
        subst ev
        refine cs_if (k := !(m.testBit i || m.testBit j)) ((ct_eqI (ce_intI (fun _ => T.b_int) (ce_band (ce_v 2 rfl (ofInt _)) (ce_v 5 rfl (ofInt _)))) ce_int).eq (by exact f1)) (fun hb H6 s6 => ?_) fun hb H6 s6 => cs_nil (cs_nil ⟨_, _, _, rfl, (sm.trans s5).trans s6, all_range_succ hall4 ?_⟩)
        · have hb : (m.testBit i || m.testBit j) = false := by simpa using hb
          have hbd := f2 hb
          have hpi : 0 < 2 ^ i := Nat.two_pow_pos i
          have hpj : 0 < 2 ^ j := Nat.two_pow_pos j
          have axm := ax.mono ((sm.trans s5).trans s6)
          refine cs_set 6 sc_bentL.nd (ce_add (ce_ixI (k := m + 2 ^ i) (ce_v 0 rfl axm) ((ce_add (ce_v 2 rfl (ofInt _)) (ce_shl ce_int (ce_v 3 rfl (ofInt _)) (cpow (by omega)))).eq (congrArg PyData.int (by rw [Int.toNat_natCast, two_pow_int, Int.natCast_add]))) (by rw [ht.len]; omega))
            (ce_ixI (k := m + 2 ^ j) (ce_v 0 rfl axm) ((ce_add (ce_v 2 rfl (ofInt _)) (ce_shl ce_int (ce_v 4 rfl (ofInt _)) (cpow (by omega)))).eq (congrArg PyData.int (by rw [Int.toNat_natCast, two_pow_int, Int.natCast_add]))) (by rw [ht.len]; omega))) fun v7 H7 s7 av7 => ?_
          have ev7 := av7.int
          subst ev7
          have axm := axm.mono s7
          have hbe : bentAt t m i j = decide (t.getD (m + 2 ^ i + 2 ^ j) 0 + t.getD m 0 ≤ t.getD (m + 2 ^ i) 0 + t.getD (m + 2 ^ j) 0) := by
            unfold bentAt
            rw [hb, Bool.false_or]
          refine cs_if (k := decide (t.getD (m + 2 ^ i) 0 + t.getD (m + 2 ^ j) 0 < t.getD (m + 2 ^ i + 2 ^ j) 0 + t.getD m 0)) (ct_gt (ce_add (ce_ixI (k := m + 2 ^ i + 2 ^ j) (ce_v 0 rfl axm) ((ce_add (ce_v 2 rfl (ofInt _)) (ce_v 5 rfl (ofInt _))).eq (congrArg PyData.int (by rw [← Int.natCast_add, Nat.add_assoc]))) (by rw [ht.len]; omega)) (ce_ixI (k := m) (ce_v 0 rfl axm) (ce_v 2 rfl (ofInt _)) (by rw [ht.len]; omega))) (ce_v 6 rfl (ofInt _))) (fun hk H8 s8 => ?_) fun hk H8 s8 => cs_nil (cs_nil (cs_nil ⟨_, _, _, rfl, ((sm.trans s5).trans s6).trans (s7.trans s8), all_range_succ hall4 ?_⟩))
          · refine cs_ret (d := .bool false) ce_bool fun v H9 s9 a9 => q v H9 (((sm.trans s5).trans s6).trans ((s7.trans s8).trans s9)) ?_
            have hf : bent n t = false := by
              rw [bent_eq]
              refine all_false_of hm (all_false_of hi (all_false_of hj ?_))
              rw [hbe]
              have := of_decide_eq_true hk
              exact decide_eq_false (by omega)
            rw [hf]
            exact a9
          · rw [hbe]
            have := of_decide_eq_false hk
            exact decide_eq_true (by omega)
        · have hb : (m.testBit i || m.testBit j) = true := by
            rw [Bool.not_eq_false'] at hb
            exact hb
          unfold bentAt
          rw [hb, Bool.true_or]
      · obtain ⟨b4, b5, b6, rfl, sm, hall4⟩ := hp
        rw [rgD_len] at hall4
        exact cs_nil ⟨_, _, _, _, rfl, sm, all_range_succ hall3 hall4⟩
    · obtain ⟨b3, b4, b5, b6, rfl, sm, hall3⟩ := hp
      rw [rgD_len] at hall3
      exact cs_nil ⟨_, _, _, _, _, rfl, sm, all_range_succ hall hall3⟩
  · obtain ⟨b2, b3, b4, b5, b6, rfl, sm, hall⟩ := hp
    rw [rgD_len] at hall
    refine cs_ret (d := .bool true) ce_bool fun v H4 s4 a4 => q v H4 (sm.trans s4) ?_
    rw [bent_eq, hall]
    exact a4
theorem fn_lowL (T : Txt K mg) : Fn P w K mg base 1 "_law_low" ["_law_top", "_law_bottom"] (spF Rlow) := by
  refine def_fnF T.d_lowL sc_lowL (fun ds d ⟨i, e, _⟩ => by rw [e]; rfl) fun f cdv A outer s H vs Q E ds d hr a r q => ?_
  obtain ⟨x, rfl, rfl⟩ := r
  obtain ⟨v, y, rfl, av, ay⟩ := a.two
  have ev := av.int
  have ey := ay.int
  subst ev ey
  refine cs_par 2 3 sc_lowL.nd (ce_abs (fun _ => T.b_abs) (ce_v 0 rfl av)) (ce_v 1 rfl ay) fun v2 v3 H1 s1 a2 a3 => ?_
  have e2 := a2.int
  have e3 := a3.int
  subst e2 e3
  refine cs_for (ci_rng1 (n := 9000) (fun _ => T.b_range) ce_int (by decide)) (pg_name (i := 4) sc_lowL.nd rfl (Or.inl rfl)) PassesOwn.never fun H2 Gd s2 gk => ?_
  refine ⟨fun i σ' H' => Same H H' ∧ ((i = 0 ∧ ∃ u, σ' = [some (.int x), some (.int 1), some (.int (if x < 0 then -x else x)), some (.int 1), u]) ∨ (i = 1 ∧ ∃ u, σ' = [some (.int x), some (.int 1), some (.int 1), some (.int 0), u])), ⟨s1.trans s2, .inl ⟨rfl, none, rfl⟩⟩, fun i σ' H' _ => gk H', fun i d u σ' H' hd hp au => ?_, fun σ' H' hp => ?_⟩
  · obtain ⟨sm, ⟨rfl, u0, rfl⟩ | ⟨rfl, u0, rfl⟩⟩ := hp
    · refine cs_if (k := false) (ct_eqI (ce_v 3 rfl (ofInt 1)) ce_int) (fun h => by cases h) fun _ H3 s3 => cs_nil ?_
      refine cs_par 2 3 sc_lowL.nd (ce_v 3 rfl (ofInt _)) (ce_mod (ce_intI (fun _ => T.b_int) (ce_v 2 rfl (ofInt _))) (ce_v 3 rfl (ofInt _)) (by decide)) fun v2 v3 H4 s4 a2 a3 => cs_nil ?_
      have e2 := a2.int
      have e3 := a3.int
      rw [Int.emod_one] at e3
      subst e2 e3
      exact ⟨(sm.trans s3).trans s4, .inr ⟨rfl, _, rfl⟩⟩
    · refine cs_if (k := true) (ct_eqI (ce_v 3 rfl (ofInt 0)) ce_int) (fun _ H3 s3 => cs_break ?_) fun h => by cases h
      refine cs_ret (d := pr x) (ce_tup (ca_cons ((ce_fdiv (ce_v 0 rfl (ofInt _)) (ce_v 2 rfl (ofInt _)) ⟨by decide, by decide⟩).eq (by rw [Int.ediv_one])) (ca_cons ((ce_fdiv (ce_v 1 rfl (ofInt _)) (ce_v 2 rfl (ofInt _)) ⟨by decide, by decide⟩).eq rfl) ca_nil))) fun v H4 s4 a4 => q v H4 ((sm.trans s3).trans s4) a4
  · rw [rgD_len] at hp
    obtain ⟨_, ⟨h, _⟩ | ⟨h, _⟩⟩ := hp
    · cases h
    · cases h
theorem fn_ratioL (T : Txt K mg) : Fn P w K mg base 2 "_law_ratio" ["_law_value"] (spF Ris_ratio) := by
  refine def_fnF T.d_ratioL sc_ratioL (fun ds d ⟨i, e, _⟩ => by rw [e]; rfl) fun f cdv A outer s H vs Q E ds d hr a r q => ?_
  obtain ⟨x, rfl, rfl⟩ := r
  obtain ⟨v, rfl, av⟩ := a.one
  refine cs_if (k := false) (cw_or (k := false) (l := false) (ct_not (k := true) (ct_val (ce_isi (fun _ => T.b_isinstance) (fun _ => T.b_tuple) boot_tuple (ce_v 0 rfl av) kt_tup_tup))) (cw_or1 (ct_neI (ce_lenT (fun _ => T.b_len) (ce_v 0 rfl av)) ce_int))).ct (fun h => by cases h) fun _ H1 s1 => cs_nil ?_
  have av := av.mono s1
  refine cs_if (k := false) (cw_or (k := false) (l := false) ((ct_neD (da := .list []) (db := .list []) (fun _ => hr.units) (((cn_lc 1 (fun _ => none) (ci_tup (K := K) (ce_v 0 rfl av) fun _ => rfl) (by show 2 ≤ _; decide) (fun i d v H2 hd s2 a2 => .inr ⟨rfl, ?_⟩) (fun _ => sc_ratioL.nd) (fun _ => blkOk_by (N := N_ratioL) (sc := defScope s_ratioL) (by decide +kernel))).eq (es := []) rfl).ce) (cn_lst ca_nil).ce rfl rfl).eq rfl)
    (cw_or1 (ct_lt (ce_ixT (k := 1) (ce_v 0 rfl av) ce_int rfl) ce_int))).ct (fun h => by cases h) fun _ H3 s3 => cs_nil ?_
  · obtain ⟨z, rfl⟩ : ∃ z : Int, d = .int z := by
      match i, hd with
      | 0, hd => exact ⟨x, (Option.some.inj hd).symm⟩
      | 1, hd => exact ⟨1, (Option.some.inj hd).symm⟩
      | i + 2, hd => cases hd
    exact cp_one ((cw_or (k := false) (l := false) (ct_not (k := true) (ct_val (ce_isi (fun _ => T.b_isinstance) (fun _ => T.b_int) bt_int (ce_v 1 rfl a2) kt_int_int))) (cw_or1 (ct_val (ce_isi (fun _ => T.b_isinstance) (fun _ => T.b_bool) bt_bool (ce_v 1 rfl a2) kt_int_bool)))).ct)
  · have av := av.mono s3
    exact cs_ret ((ce_eqD (da := pr x) (db := pr x) (fun _ => hr.units) (ce_call (fn_lowL T) (fun _ => ⟨rfl, rfl, rfl, rfl, rfl⟩) (fun _ => hr) (ca_cons (ce_ixT (k := 0) (ce_v 0 rfl av) ce_int rfl) (ca_cons (ce_ixT (k := 1) (ce_v 0 rfl av) ce_int rfl) ca_nil)) ⟨x, rfl, rfl⟩) (ce_v 0 rfl av) (shaped_pr _) (shaped_pr _)).eq (congrArg PyData.bool (eqv_pr x))) fun v H4 s4 a4 => q v H4 ((s1.trans s3).trans s4) a4
def Rratios : List PyData → PyData → Prop := fun ds d => ∃ l : List Int, l.length ≤ 100 ∧ ds = [row l, .int (l.length : Nat)] ∧ d = .bool true
theorem fn_are_ratiosL (T : Txt K mg) : Fn P w K mg base 3 "_law_are_ratios" ["_law_value", "_law_many"] (spF Rratios) := by
  refine def_fnF T.d_are_ratiosL sc_are_ratiosL (fun ds d ⟨i, _, e, _⟩ => by rw [e]; rfl) fun f cdv A outer s H vs Q E ds d hr a r q => ?_
  obtain ⟨l, hl, rfl, rfl⟩ := r
  obtain ⟨v, y, rfl, av, ay⟩ := a.two
  refine cs_if (k := false) (cw_or (k := false) (l := false) (ct_not (k := true) (ct_val (ce_isi (fun _ => T.b_isinstance) (fun _ => T.b_tuple) boot_tuple (ce_v 0 rfl av) kt_tup_tup))) (cw_or1 ((ct_neI (ce_lenT (fun _ => T.b_len) (ce_v 0 rfl av)) (ce_v 1 rfl ay)).eq (by rw [List.length_map, decide_eq_true rfl]; rfl)))).ct (fun h => by cases h) fun _ H1 s1 => cs_nil ?_
  have av := av.mono s1
  refine cs_ret ((ce_eqD (da := .list []) (db := .list []) (fun _ => hr.units) (((cn_lc 2 (fun _ => none) (ci_tup (K := K) (ce_v 0 rfl av) fun _ => rfl) (by rw [List.length_map]; omega) (fun i d v H2 hd s2 a2 => .inr ⟨rfl, ?_⟩) (fun _ => sc_are_ratiosL.nd) (fun _ => blkOk_by (N := N_are_ratiosL) (sc := defScope s_are_ratiosL) (by decide +kernel))).eq (es := []) ?_).ce) (cn_lst ca_nil).ce rfl rfl).eq rfl) fun v H4 s4 a4 => q v H4 (s1.trans s4) a4
  · rw [List.getElem?_map, Option.map_eq_some_iff] at hd
    obtain ⟨z, hz, rfl⟩ := hd
    exact cp_one (ct_not (k := true) (ct_val (ce_call (fn_ratioL T) (fun _ => ⟨rfl, rfl, rfl, rfl, rfl⟩) (fun _ => hr) (ca_cons (ce_v 2 rfl a2) ca_nil) ⟨z, rfl, rfl⟩)))
  · exact List.filterMap_eq_nil_iff.mpr fun _ _ => rfl
theorem fn_plusL (T : Txt K mg) : Fn P w K mg base 2 "_law_plus" ["_law_one", "_law_other"] (spF Rplus) := by
  refine def_fnF T.d_plusL sc_plusL (fun ds d ⟨i, _, e, _⟩ => by rw [e]; rfl) fun f cdv A outer s H vs Q E ds d hr a r q => ?_
  obtain ⟨x, y, rfl, rfl⟩ := r
  obtain ⟨v, u, rfl, av, au⟩ := a.two
  refine cs_ret (d := pr (x + y)) (ce_call (fn_lowL T) (fun _ => ⟨rfl, rfl, rfl, rfl, rfl⟩) (fun _ => hr) (ca_cons (ce_add (ce_mul (ce_ixT (k := 0) (ce_v 0 rfl av) ce_int rfl) (ce_ixT (k := 1) (ce_v 1 rfl au) ce_int rfl) mul1) (ce_mul (ce_ixT (k := 0) (ce_v 1 rfl au) ce_int rfl) (ce_ixT (k := 1) (ce_v 0 rfl av) ce_int rfl) mul1))
    (ca_cons (ce_mul (ce_ixT (k := 1) (ce_v 0 rfl av) ce_int rfl) (ce_ixT (k := 1) (ce_v 1 rfl au) ce_int rfl) mul1) ca_nil)) ⟨x + y, by rw [Int.mul_one, Int.mul_one]; rfl, rfl⟩) q
theorem fn_lessL (T : Txt K mg) : Fn P w K mg base 1 "_law_less" ["_law_one", "_law_other"] (spF Ris_less) := by
  refine def_fnF T.d_lessL sc_lessL (fun ds d ⟨i, _, e, _⟩ => by rw [e]; rfl) fun f cdv A outer s H vs Q E ds d hr a r q => ?_
  obtain ⟨x, y, rfl, rfl⟩ := r
  obtain ⟨v, u, rfl, av, au⟩ := a.two
  exact cs_ret ((ce_lt (ce_mul (ce_ixT (k := 0) (ce_v 0 rfl av) ce_int rfl) (ce_ixT (k := 1) (ce_v 1 rfl au) ce_int rfl) mul1) (ce_mul (ce_ixT (k := 0) (ce_v 1 rfl au) ce_int rfl) (ce_ixT (k := 1) (ce_v 0 rfl av) ce_int rfl) mul1)).eq (by rw [Int.mul_one, Int.mul_one])) q
theorem fn_sumL (T : Txt K mg) : Fn P w K mg base 3 "_law_sum" ["_law_some"] (spF Rsum_of) := by
  refine def_fnF T.d_sumL sc_sumL (fun ds d ⟨i, e, _⟩ => by rw [e]; rfl) fun f cdv A outer s H vs Q E ds d hr a r q => ?_
  obtain ⟨l, rfl, rfl⟩ := r
  obtain ⟨v, rfl, av⟩ := a.one
  refine cs_set 1 sc_sumL.nd (d := pr 0) (ce_tup (ca_cons ce_int (ca_cons ce_int ca_nil))) fun g H1 s1 ag => ?_
  refine cs_for (ci_tup (K := K) (ce_v 0 rfl (av.mono s1)) fun _ => rfl) (pg_name (i := 2) sc_sumL.nd rfl (Or.inl rfl)) PassesOwn.never fun H2 Gd s2 gk => ?_
  refine ⟨fun i σ' H' => ∃ x y, σ' = [some v, some x, y] ∧ Ar H' x (pr (l.take i).sum) ∧ Same H2 H', ⟨g, none, rfl, ag.mono s2, Same.refl _⟩, fun i σ' H' ⟨_, _, _, _, sm⟩ => gk.same sm, fun i d x σ' H' hd hp ax => ?_, fun σ' H' hp => ?_⟩
  · obtain ⟨g, y, rfl, ag, sm⟩ := hp
    rw [List.getElem?_map, Option.map_eq_some_iff] at hd
    obtain ⟨z, hz, rfl⟩ := hd
    refine cs_set 1 sc_sumL.nd (d := pr (l.take (i + 1)).sum) (ce_call (fn_plusL T) (fun _ => ⟨rfl, rfl, rfl, rfl, rfl⟩) (fun _ => hr) (ca_cons (ce_v 1 rfl ag) (ca_cons (ce_v 2 rfl ax) ca_nil)) ⟨_, z, rfl, by rw [sum_take hz]⟩) fun u H4 s4 au => cs_nil ?_
    exact ⟨u, some x, rfl, au, sm.trans s4⟩
  · obtain ⟨g, y, rfl, ag, sm⟩ := hp
    rw [List.length_map, List.take_length] at ag
    exact cs_ret (ce_v 1 rfl ag) fun v H4 s4 a4 => q v H4 (((s1.trans s2).trans sm).trans s4) a4
end
end Shr


namespace Shr
open PySem PySem.Spec L2
theorem grp_has {m j : Nat} (hj : j < 5) : (grp m).contains j = m.testBit j := by
  rw [Bool.eq_iff_iff, List.contains_iff_mem]
  unfold grp
  rw [List.mem_filter, List.mem_range]
  exact ⟨fun h => h.2, fun h => ⟨hj, h⟩⟩
theorem pre_find {α : Type} {p : α → Bool} {q l : List α} {x : α} (h : q <+: l) (hq : q.find? p = some x) : l.find? p = some x := by
  obtain ⟨r, rfl⟩ := h
  rw [List.find?_append, hq]
  rfl
theorem stepsTo_pre (m : Nat) : ∀ {j n : Nat}, j ≤ n → stepsTo m j <+: stepsTo m n := by
  intro j n h
  induction h with
  | refl => exact List.prefix_refl _
  | step _ ih => rw [stepsTo_succ]; exact ih.trans (List.prefix_append _ _)
theorem stepsBe_pre (n : Nat) : ∀ {i k : Nat}, i ≤ k → stepsBe n i <+: stepsBe n k := by
  intro i k h
  induction h with
  | refl => exact List.prefix_refl _
  | step _ ih => rw [stepsBe_succ]; exact ih.trans (List.prefix_append _ _)
/-- the steps ahead of one -/
def stepsAhead (n i j k : Nat) : List (Nat × Nat × Nat) := stepsBe n i ++ (stepsTo (1 + i) j ++ ((grp (1 + i)).take k).map fun b => (1 + i, j, b))
theorem ahead_pre {n i j k : Nat} (hi : i < 2 ^ n - 1) (hj : j < n) (hb : (1 + i).testBit j = false) : stepsAhead n i j k <+: steps n := by
  have h1 : stepsTo (1 + i) j ++ ((grp (1 + i)).take k).map (fun b => (1 + i, j, b)) <+: stepsTo (1 + i) (j + 1) := by
    rw [stepsTo_succ, hb, if_neg (by decide)]
    exact (List.prefix_append_right_inj _).mpr ((List.take_prefix k _).map _)
  have h2 := h1.trans (stepsTo_pre (1 + i) (show j + 1 ≤ n by omega))
  have h3 : stepsAhead n i j k <+: stepsBe n (i + 1) := by
    rw [stepsBe_succ]
    exact (List.prefix_append_right_inj _).mpr h2
  exact h3.trans (stepsBe_pre n (show i + 1 ≤ 2 ^ n - 1 by omega))
theorem find_app_none {α : Type} {p : α → Bool} {l r : List α} (h1 : l.find? p = none) (h2 : r.find? p = none) : (l ++ r).find? p = none := by
  rw [List.find?_append, h1, h2]
  rfl
section
variable {P : Program} {w : World} {K : PySem.W.Frag} {mg : Str → Option Value} {base : Heap}
theorem fn_flawL (T : Txt K mg) : Fn P w K mg base 4 "_law_flaw" ["_law_table_here", "_law_value"] (spF Rflaw) := by
  refine def_fnF T.d_flawL sc_flawL (fun ds d ⟨_, _, _, _, _, e, _⟩ => by rw [e]; rfl) fun f cdv A outer s H vs Q E ds d hr a r q => ?_
  obtain ⟨t, n, S, ht, hS, rfl, rfl⟩ := r
  obtain ⟨x, y, rfl, ax, ay⟩ := a.two
  have hn5 := ht.n5
  have h32 := pow32 hn5
  have hlt : (t.map PyData.int).length = 2 ^ n := by rw [List.length_map, ht.len]
  have hSl : S.length = 2 ^ n := hS.len
  have hpn : 1 ≤ 2 ^ n := Nat.two_pow_pos n
  refine cs_set 2 sc_flawL.nd (ce_call (fn_sizeL T) (fun _ => ⟨rfl, rfl, rfl, rfl, rfl⟩) (fun _ => hr.mono (by decide)) (ca_cons (ce_v 0 rfl ax) ca_nil) ⟨t, n, ht, rfl, rfl⟩) fun v H2 s2 av => ?_
  have ev := av.int
  subst ev
  refine cs_if (k := false) (cw_or (k := false) (l := false) (ct_not (k := true) (ct_val (ce_isi (fun _ => T.b_isinstance) (fun _ => T.b_tuple) boot_tuple (ce_v 1 rfl (ay.mono s2)) kt_tup_tup))) (cw_or1 ((ct_neI (ce_lenT (fun _ => T.b_len) (ce_v 1 rfl (ay.mono s2))) (ce_lenT (fun _ => T.b_len) (ce_v 0 rfl (ax.mono s2)))).eq (by rw [hlt, List.length_map, hSl, decide_eq_true rfl]; rfl)))).ct (fun h => by cases h) fun _ H3 s3 => cs_nil ?_
  have s03 := s2.trans s3
  refine cs_for (ci_rng1 (n := 2 ^ n) (fun _ => T.b_range) ((ce_lenT (fun _ => T.b_len) (ce_v 0 rfl (ax.mono s03))).eq (by rw [hlt])) (by omega)) (pg_name (i := 3) sc_flawL.nd rfl (Or.inl rfl)) PassesOwn.never fun H4 Gd s4 gk => ?_
  refine ⟨fun i σ' H' => ∃ u, σ' = [some x, some y, some (.int (n : Nat)), u, none, none, none, none, none] ∧ Same H H', ⟨none, rfl, s03.trans s4⟩, fun i σ' H' _ => gk H', fun i d u σ' H' hd hp au => ?_, fun σ' H' hp => ?_⟩
  · obtain ⟨u0, rfl, sm⟩ := hp
    obtain ⟨hi, rfl⟩ := rg0_at hd
    have eu := au.int
    subst eu
    have hi32 : i < 32 := by omega
    refine cs_if (k := false) (ct_not (k := true) (ct_val (ce_call (fn_are_ratiosL T) (fun _ => ⟨rfl, rfl, rfl, rfl, rfl⟩) (fun _ => hr) (ca_cons (ce_ixT (k := i) (ce_v 1 rfl (ay.mono sm)) (ce_v 3 rfl (ofInt _)) (sch_at (by omega))) (ca_cons (ce_lenT (fun _ => T.b_len) (ce_call (fn_groupL T) (fun _ => ⟨rfl, rfl, rfl, rfl, rfl⟩) (fun _ => hr.mono (by decide)) (ca_cons (ce_v 3 rfl (ofInt _)) ca_nil) ⟨i, hi32, rfl, rfl⟩)) ca_nil)) ⟨S.getD i [], ?_, ?_, rfl⟩))) (fun h => by cases h) fun _ H6 s6 => cs_nil (cs_nil ⟨_, rfl, sm.trans s6⟩)
    · rw [hS.rlen i hi]
      have := grp_len (m := i)
      omega
    · rw [List.length_map, List.length_map, hS.rlen i hi]
  obtain ⟨u0, rfl, sm⟩ := hp
  refine cs_for (ci_rng1 (n := 2 ^ n) (fun _ => T.b_range) ((ce_lenT (fun _ => T.b_len) (ce_v 0 rfl (ax.mono sm))).eq (by rw [hlt])) (by omega)) (pg_name (i := 3) sc_flawL.nd rfl (Or.inl rfl)) PassesOwn.never fun H5 Gd s5 gk => ?_
  refine ⟨fun i σ' H' => ∃ u, σ' = [some x, some y, some (.int (n : Nat)), u, none, none, none, none, none] ∧ Same H H', ⟨_, rfl, sm.trans s5⟩, fun i σ' H' _ => gk H', fun i d u σ' H' hd hp au => ?_, fun σ' H' hp => ?_⟩
  · obtain ⟨u0, rfl, sm⟩ := hp
    obtain ⟨hi, rfl⟩ := rg0_at hd
    have eu := au.int
    subst eu
    refine cs_if (k := false) ((ct_neD (da := pr (t.getD i 0)) (db := pr (t.getD i 0)) (fun _ => hr.units) ((ce_call (fn_sumL T) (fun _ => ⟨rfl, rfl, rfl, rfl, rfl⟩) (fun _ => hr) (ca_cons (ce_ixT (k := i) (ce_v 1 rfl (ay.mono sm)) (ce_v 3 rfl (ofInt _)) (sch_at (by omega))) ca_nil) ⟨_, rfl, rfl⟩).eq ?_)
      (ce_tup (ca_cons (ce_ixI (k := i) (ce_v 0 rfl (ax.mono sm)) (ce_v 3 rfl (ofInt _)) (by rw [ht.len]; exact hi)) (ca_cons ce_int ca_nil))) (shaped_pr _) (shaped_pr _)).eq (by rw [eqv_pr]; rfl)) (fun h => by cases h) fun _ H6 s6 => cs_nil (cs_nil ⟨_, rfl, sm.trans s6⟩)
    rw [hS.sum i hi]
  obtain ⟨u1, rfl, sm2⟩ := hp
  refine cs_for (ci_rng2 (n := 2 ^ n - 1) (fun _ => T.b_range) ce_int ((ce_lenT (fun _ => T.b_len) (ce_v 0 rfl (ax.mono sm2))).eq (congrArg PyData.int (by rw [hlt]; omega))) (by omega) (by decide) (by decide)) (pg_name (i := 3) sc_flawL.nd rfl (Or.inl rfl)) PassesOwn.never fun H6 Gd s6 gk => ?_
  refine ⟨fun i σ' H' => ∃ b1 b2 b3 b4 b5 b6, σ' = [some x, some y, some (.int (n : Nat)), b1, b2, b3, b4, b5, b6] ∧ Same H H' ∧ (stepsBe n i).find? (rise S) = none, ⟨_, _, _, _, _, _, rfl, sm2.trans s6, rfl⟩, fun i σ' H' _ => gk H', fun i d u σ' H' hd hp au => ?_, fun σ' H' hp => ?_⟩
  · obtain ⟨b1, b2, b3, b4, b5, b6, rfl, sm, hno⟩ := hp
    obtain ⟨hi, rfl⟩ := rg1_at hd
    have eu := au.int
    subst eu
    have hm32 : 1 + i < 32 := by omega
    refine cs_set 4 sc_flawL.nd (ce_call (fn_groupL T) (fun _ => ⟨rfl, rfl, rfl, rfl, rfl⟩) (fun _ => hr.mono (by decide)) (ca_cons (ce_v 3 rfl (ofInt _)) ca_nil) ⟨1 + i, hm32, rfl, rfl⟩) fun g H7 s7 ag => ?_
    refine cs_for (ci_rng1 (fun _ => T.b_range) (ce_v 2 rfl (ofInt _)) (by omega)) (pg_name (i := 5) sc_flawL.nd rfl (Or.inl rfl)) PassesOwn.never fun H8 Gd8 s8 gk8 => ?_
    refine ⟨fun j σ' H' => ∃ b3 b4 b5 b6, σ' = [some x, some y, some (.int (n : Nat)), some (.int ((1 + i : Nat) : Int)), some g, b3, b4, b5, b6] ∧ Same H H' ∧ Same H7 H' ∧ (stepsTo (1 + i) j).find? (rise S) = none, ⟨_, _, _, _, rfl, (sm.trans s7).trans s8, s8, rfl⟩, fun i σ' H' _ => gk8 H', fun j d u σ' H' hd hp au => ?_, fun σ' H' hp => ?_⟩
    · obtain ⟨b3, b4, b5, b6, rfl, sm8, sg8, hno8⟩ := hp
      obtain ⟨hj, rfl⟩ := rg0_at hd
      have eu := au.int
      subst eu
      have hj5 : j < 5 := by omega
      refine cs_if (k := !(1 + i).testBit j) ((ct_notInT (ce_v 5 rfl (ofInt _)) (ce_v 4 rfl (ag.mono sg8))).eq (by rw [contains_cast, grp_has hj5])) (fun hb H9 s9 => ?_) fun hb H9 s9 => cs_nil (cs_nil ⟨_, _, _, _, rfl, sm8.trans s9, sg8.trans s9, ?_⟩)
      · have hb : (1 + i).testBit j = false := by simpa using hb
        have hbs := bitstep n hn5 (1 + i) (by omega) j hj hb
        refine cs_set 6 sc_flawL.nd (d := .int ((1 + i + 2 ^ j : Nat) : Int)) ((ce_add (ce_v 3 rfl (ofInt _)) (ce_shl ce_int (ce_v 5 rfl (ofInt _)) (cpow (by omega)))).eq (congrArg PyData.int (by rw [Int.toNat_natCast, two_pow_int, ← Int.natCast_add]))) fun v H10 s10 av => ?_
        have ev := av.int
        subst ev
        have ag10 := ag.mono ((sg8.trans s9).trans s10)
        refine cs_for (ci_tup (K := K) (ce_v 4 rfl ag10) fun _ => rfl) (pg_name (i := 7) sc_flawL.nd rfl (Or.inl rfl)) PassesOwn.never fun H11 Gd11 s11 gk11 => ?_
        refine ⟨fun k σ' H' => ∃ b5 b6, σ' = [some x, some y, some (.int (n : Nat)), some (.int ((1 + i : Nat) : Int)), some g, some (.int (j : Nat)), some (.int ((1 + i + 2 ^ j : Nat) : Int)), b5, b6] ∧ Same H11 H' ∧ (((grp (1 + i)).take k).map fun b => (1 + i, j, b)).find? (rise S) = none, ⟨_, _, rfl, Same.refl _, rfl⟩, fun k σ' H' ⟨_, _, _, sm, _⟩ => gk11.same sm, fun k d u σ' H' hd hp au => ?_, fun σ' H' hp => ?_⟩
        · obtain ⟨b5, b6, rfl, sm11, hno11⟩ := hp
          obtain ⟨b, hbk, rfl⟩ := nI_at hd
          have eu := au.int
          subst eu
          have hbm := List.mem_of_getElem? hbk
          have hahead : stepsAhead n i j (k + 1) <+: steps n := ahead_pre hi hj hb
          have hmem : (1 + i, j, b) ∈ steps n := by
            refine hahead.subset ?_
            unfold stepsAhead
            refine List.mem_append_right _ (List.mem_append_right _ (List.mem_map.mpr ⟨b, ?_, rfl⟩))
            rw [List.take_add_one, hbk]
            exact List.mem_append_right _ (List.mem_singleton.mpr rfl)
          obtain ⟨f1, f2, _⟩ := step_facts hn5 hmem
          have f1 : 1 + i + 2 ^ j < 2 ^ n := f1
          have f2 : b ∈ grp (1 + i + 2 ^ j) := f2
          have hi1 : (grp (1 + i)).idxOf b < (S.getD (1 + i) []).length := by rw [hS.rlen _ (by omega)]; exact List.idxOf_lt_length_of_mem hbm
          have hi2 : (grp (1 + i + 2 ^ j)).idxOf b < (S.getD (1 + i + 2 ^ j) []).length := by rw [hS.rlen _ f1]; exact List.idxOf_lt_length_of_mem f2
          have s0 := ((sm8.trans s9).trans s10).trans (s11.trans sm11)
          have hm32' : 1 + i + 2 ^ j < 32 := by omega
          refine cs_set 8 sc_flawL.nd (ce_ixT (ce_ixT (k := 1 + i + 2 ^ j) (ce_v 1 rfl (ay.mono s0)) (ce_v 6 rfl (ofInt _)) (sch_at (by omega))) ((ce_idx (ce_call (fn_groupL T) (fun _ => ⟨rfl, rfl, rfl, rfl, rfl⟩) (fun _ => hr.mono (by decide)) (ca_cons (ce_v 6 rfl (ofInt _)) ca_nil) ⟨1 + i + 2 ^ j, hm32', rfl, rfl⟩) (ce_v 7 rfl (ofInt _)) (mem_cast f2)).eq (congrArg (fun z : Nat => PyData.int ((z : Nat) : Int)) (idxOf_cast _ _))) (row_at hi2)) fun bv H12 s12 ab => ?_
          have s012 := s0.trans s12
          refine cs_if (k := rise S (1 + i, j, b)) ((ct_val (ce_call (fn_lessL T) (fun _ => ⟨rfl, rfl, rfl, rfl, rfl⟩) (fun _ => hr.mono (by decide)) (ca_cons (ce_ixT (ce_ixT (k := 1 + i) (ce_v 1 rfl (ay.mono s012)) (ce_v 3 rfl (ofInt _)) (sch_at (by omega))) ((ce_idx (ce_v 4 rfl (ag10.mono ((s11.trans sm11).trans s12))) (ce_v 7 rfl (ofInt _)) (mem_cast hbm)).eq (congrArg (fun z : Nat => PyData.int ((z : Nat) : Int)) (idxOf_cast _ _))) (row_at hi1)) (ca_cons (ce_v 8 rfl ab) ca_nil)) ⟨_, _, rfl, rfl⟩)).eq rfl) (fun hk H13 s13 => ?_) fun hk H13 s13 => cs_nil (cs_nil ?_)
          · refine cs_ret (d := flawD (some (1 + i, j, b))) (ce_tup (ca_cons ce_str (ca_cons (ce_v 4 rfl (ag10.mono (((s11.trans sm11).trans s12).trans s13))) (ca_cons (ce_v 5 rfl (ofInt _)) (ca_cons (ce_v 7 rfl (ofInt _)) ca_nil))))) fun v H14 s14 a14 => q v H14 ((s012.trans s13).trans s14) ?_
            have hf : flaw n S = some (1 + i, j, b) := by
              refine pre_find hahead ?_
              unfold stepsAhead
              rw [List.take_add_one, hbk, List.map_append, List.find?_append, hno, List.find?_append, hno8, List.find?_append, hno11]
              show (([(1 + i, j, b)] : List (Nat × Nat × Nat)).find? (rise S)) = some (1 + i, j, b)
              rw [List.find?_cons, hk]
            rw [hf]
            exact a14
          · refine ⟨_, _, rfl, (sm11.trans s12).trans s13, ?_⟩
            rw [List.take_add_one, hbk, List.map_append]
            refine find_app_none hno11 ?_
            show (([(1 + i, j, b)] : List (Nat × Nat × Nat)).find? (rise S)) = none
            rw [List.find?_cons, hk]
            rfl
        · obtain ⟨b5, b6, rfl, sm11, hno11⟩ := hp
          rw [List.length_map, List.length_map, List.take_length] at hno11
          refine cs_nil (cs_nil ⟨_, _, _, _, rfl, ((sm8.trans s9).trans s10).trans (s11.trans sm11), ((sg8.trans s9).trans s10).trans (s11.trans sm11), ?_⟩)
          rw [stepsTo_succ, hb, if_neg (by decide)]
          exact find_app_none hno8 hno11
      · have hb : (1 + i).testBit j = true := by
          rw [Bool.not_eq_false'] at hb
          exact hb
        rw [stepsTo_succ, hb, if_pos rfl, List.append_nil]
        exact hno8
    · obtain ⟨b3, b4, b5, b6, rfl, sm8, sg8, hno8⟩ := hp
      rw [rgD_len, stepsTo_all] at hno8
      refine cs_nil ⟨_, _, _, _, _, _, rfl, sm8, ?_⟩
      rw [stepsBe_succ]
      exact find_app_none hno hno8
  · obtain ⟨b1, b2, b3, b4, b5, b6, rfl, sm, hno⟩ := hp
    rw [rgD_len] at hno
    refine cs_ret (d := flawD none) ce_none fun v H7 s7 a7 => q v H7 (sm.trans s7) ?_
    rw [show flaw n S = none from hno]
    exact a7
/-! ### alike: equal data are -/
inductive AlD : Nat → PyData → Prop where
  | flat {k : Nat} {d : PyData} (h : d = .none ∨ (∃ i, d = .int i) ∨ (∃ x, d = .str x)) : AlD k d
  | tup {k : Nat} {ds : List PyData} (hl : ds.length ≤ 100) (h : ∀ d ∈ ds, AlD k d) : AlD (k + 1) (.tuple ds)
def Ralike (k : Nat) : List PyData → PyData → Prop := fun ds d => ∃ e, AlD k e ∧ ds = [e, e] ∧ d = .bool true
theorem kt_none_tup : kitB "NoneType" "tuple" = some false := by decide +kernel
theorem kt_none_list : kitB "NoneType" "list" = some false := by decide +kernel
theorem kt_int_tup : kitB "int" "tuple" = some false := by decide +kernel
theorem kt_int_list : kitB "int" "list" = some false := by decide +kernel
theorem kt_int_str : kitB "int" "str" = some false := by decide +kernel
theorem kt_str_tup : kitB "str" "tuple" = some false := by decide +kernel
theorem kt_str_list : kitB "str" "list" = some false := by decide +kernel
theorem kt_str_str : kitB "str" "str" = some true := by decide +kernel
theorem kt_none_str : kitB "NoneType" "str" = some false := by decide +kernel
theorem kt_tup_list : kitB "tuple" "list" = some false := by decide +kernel
theorem vBl {n m : Bool} : decide (V.bl n = V.bl m) = decide (n = m) := by
  by_cases h : n = m
  · subst h; simp
  · rw [decide_eq_false h, decide_eq_false fun e => h (V.bl.inj e)]
theorem rg_at {n i : Nat} {d : PyData} (h : (rgD 0 n)[i]? = some d) : i < n ∧ d = .int ((i : Nat) : Int) := rg0_at h
theorem fn_alikeL (T : Txt K mg) : ∀ k : Nat, Fn P w K mg base (k + 1) "_law_alike" ["_law_found", "_law_due"] (spF (Ralike k)) := by
  intro k
  induction k with
  | zero =>
    refine def_fnF T.d_alikeL sc_alikeL (fun ds d ⟨_, _, e, _⟩ => by rw [e]; rfl) fun f cdv A outer s H vs Q E ds d hr a r q => ?_
    obtain ⟨e, he, rfl, rfl⟩ := r
    obtain ⟨x, y, rfl, ax, ay⟩ := a.two
    cases he with
    | flat h =>
      rcases h with rfl | ⟨i, rfl⟩ | ⟨z, rfl⟩
      · refine cs_if (k := false) (ct_val (ce_isi2 (k := false) (l := false) (fun _ => T.b_isinstance) (fun _ => T.b_tuple) (fun _ => T.b_list) boot_tuple bt_list (ce_v 1 rfl ay) kt_none_tup kt_none_list)) (fun h => by cases h) fun _ H1 s1 => cs_nil ?_
        refine cs_if (k := true) (cw_or (k := true) (l := false) (ct_isN (ce_v 1 rfl (ay.mono s1)) ce_none) (cw_or1 (ct_val (ce_isi (fun _ => T.b_isinstance) (fun _ => T.b_str) bt_str (ce_v 1 rfl (ay.mono s1)) kt_none_str)))).ct (fun _ H2 s2 => ?_) fun h => by cases h
        have s := s1.trans s2
        exact cs_ret (ce_and (k := true) (l := true) ((ce_eqS (ce_v 0 rfl (ax.mono s)) (ce_v 1 rfl (ay.mono s))).eq rfl) (ce_one ((ce_eqS (da := .bool false) (db := .bool false) (ce_isi (fun _ => T.b_isinstance) (fun _ => T.b_str) bt_str (ce_v 0 rfl (ax.mono s)) kt_none_str) (ce_isi (fun _ => T.b_isinstance) (fun _ => T.b_str) bt_str (ce_v 1 rfl (ay.mono s)) kt_none_str)).eq rfl))) fun v H3 s3 a3 => q v H3 (s.trans s3) a3
      · refine cs_if (k := false) (ct_val (ce_isi2 (k := false) (l := false) (fun _ => T.b_isinstance) (fun _ => T.b_tuple) (fun _ => T.b_list) boot_tuple bt_list (ce_v 1 rfl ay) kt_int_tup kt_int_list)) (fun h => by cases h) fun _ H1 s1 => cs_nil ?_
        refine cs_if (k := false) (cw_or (k := false) (l := false) (ct_isN (ce_v 1 rfl (ay.mono s1)) ce_none) (cw_or1 (ct_val (ce_isi (fun _ => T.b_isinstance) (fun _ => T.b_str) bt_str (ce_v 1 rfl (ay.mono s1)) kt_int_str)))).ct (fun h => by cases h) fun _ H2 s2 => cs_nil ?_
        have s := s1.trans s2
        exact cs_ret (ce_and (k := true) (l := true) (ce_isi (fun _ => T.b_isinstance) (fun _ => T.b_int) bt_int (ce_v 0 rfl (ax.mono s)) kt_int_int) (ce_and (k := true) (l := true) ((ce_eqS (da := .bool false) (db := .bool false) (ce_isi (fun _ => T.b_isinstance) (fun _ => T.b_bool) bt_bool (ce_v 0 rfl (ax.mono s)) kt_int_bool) (ce_isi (fun _ => T.b_isinstance) (fun _ => T.b_bool) bt_bool (ce_v 1 rfl (ay.mono s)) kt_int_bool)).eq rfl) (ce_one ((ce_eqI (ce_v 0 rfl (ax.mono s)) (ce_v 1 rfl (ay.mono s))).eq (congrArg PyData.bool (decide_eq_true rfl)))))) fun v H3 s3 a3 => q v H3 (s.trans s3) a3
      · refine cs_if (k := false) (ct_val (ce_isi2 (k := false) (l := false) (fun _ => T.b_isinstance) (fun _ => T.b_tuple) (fun _ => T.b_list) boot_tuple bt_list (ce_v 1 rfl ay) kt_str_tup kt_str_list)) (fun h => by cases h) fun _ H1 s1 => cs_nil ?_
        refine cs_if (k := true) (cw_or (k := false) (l := true) (ct_isN (ce_v 1 rfl (ay.mono s1)) ce_none) (cw_or1 (ct_val (ce_isi (fun _ => T.b_isinstance) (fun _ => T.b_str) bt_str (ce_v 1 rfl (ay.mono s1)) kt_str_str)))).ct (fun _ H2 s2 => ?_) fun h => by cases h
        have s := s1.trans s2
        exact cs_ret (ce_and (k := true) (l := true) ((ce_eqS (ce_v 0 rfl (ax.mono s)) (ce_v 1 rfl (ay.mono s))).eq (congrArg PyData.bool (decide_eq_true rfl))) (ce_one ((ce_eqS (da := .bool true) (db := .bool true) (ce_isi (fun _ => T.b_isinstance) (fun _ => T.b_str) bt_str (ce_v 0 rfl (ax.mono s)) kt_str_str) (ce_isi (fun _ => T.b_isinstance) (fun _ => T.b_str) bt_str (ce_v 1 rfl (ay.mono s)) kt_str_str)).eq rfl))) fun v H3 s3 a3 => q v H3 (s.trans s3) a3
  | succ k ih =>
    refine def_fnF T.d_alikeL sc_alikeL (fun ds d ⟨_, _, e, _⟩ => by rw [e]; rfl) fun f cdv A outer s H vs Q E ds d hr a r q => ?_
    obtain ⟨e, he, rfl, rfl⟩ := r
    obtain ⟨x, y, rfl, ax, ay⟩ := a.two
    cases he with
    | flat h =>
      rcases h with rfl | ⟨i, rfl⟩ | ⟨z, rfl⟩
      · refine cs_if (k := false) (ct_val (ce_isi2 (k := false) (l := false) (fun _ => T.b_isinstance) (fun _ => T.b_tuple) (fun _ => T.b_list) boot_tuple bt_list (ce_v 1 rfl ay) kt_none_tup kt_none_list)) (fun h => by cases h) fun _ H1 s1 => cs_nil ?_
        refine cs_if (k := true) (cw_or (k := true) (l := false) (ct_isN (ce_v 1 rfl (ay.mono s1)) ce_none) (cw_or1 (ct_val (ce_isi (fun _ => T.b_isinstance) (fun _ => T.b_str) bt_str (ce_v 1 rfl (ay.mono s1)) kt_none_str)))).ct (fun _ H2 s2 => ?_) fun h => by cases h
        have s := s1.trans s2
        exact cs_ret (ce_and (k := true) (l := true) ((ce_eqS (ce_v 0 rfl (ax.mono s)) (ce_v 1 rfl (ay.mono s))).eq rfl) (ce_one ((ce_eqS (da := .bool false) (db := .bool false) (ce_isi (fun _ => T.b_isinstance) (fun _ => T.b_str) bt_str (ce_v 0 rfl (ax.mono s)) kt_none_str) (ce_isi (fun _ => T.b_isinstance) (fun _ => T.b_str) bt_str (ce_v 1 rfl (ay.mono s)) kt_none_str)).eq rfl))) fun v H3 s3 a3 => q v H3 (s.trans s3) a3
      · refine cs_if (k := false) (ct_val (ce_isi2 (k := false) (l := false) (fun _ => T.b_isinstance) (fun _ => T.b_tuple) (fun _ => T.b_list) boot_tuple bt_list (ce_v 1 rfl ay) kt_int_tup kt_int_list)) (fun h => by cases h) fun _ H1 s1 => cs_nil ?_
        refine cs_if (k := false) (cw_or (k := false) (l := false) (ct_isN (ce_v 1 rfl (ay.mono s1)) ce_none) (cw_or1 (ct_val (ce_isi (fun _ => T.b_isinstance) (fun _ => T.b_str) bt_str (ce_v 1 rfl (ay.mono s1)) kt_int_str)))).ct (fun h => by cases h) fun _ H2 s2 => cs_nil ?_
        have s := s1.trans s2
        exact cs_ret (ce_and (k := true) (l := true) (ce_isi (fun _ => T.b_isinstance) (fun _ => T.b_int) bt_int (ce_v 0 rfl (ax.mono s)) kt_int_int) (ce_and (k := true) (l := true) ((ce_eqS (da := .bool false) (db := .bool false) (ce_isi (fun _ => T.b_isinstance) (fun _ => T.b_bool) bt_bool (ce_v 0 rfl (ax.mono s)) kt_int_bool) (ce_isi (fun _ => T.b_isinstance) (fun _ => T.b_bool) bt_bool (ce_v 1 rfl (ay.mono s)) kt_int_bool)).eq rfl) (ce_one ((ce_eqI (ce_v 0 rfl (ax.mono s)) (ce_v 1 rfl (ay.mono s))).eq (congrArg PyData.bool (decide_eq_true rfl)))))) fun v H3 s3 a3 => q v H3 (s.trans s3) a3
      · refine cs_if (k := false) (ct_val (ce_isi2 (k := false) (l := false) (fun _ => T.b_isinstance) (fun _ => T.b_tuple) (fun _ => T.b_list) boot_tuple bt_list (ce_v 1 rfl ay) kt_str_tup kt_str_list)) (fun h => by cases h) fun _ H1 s1 => cs_nil ?_
        refine cs_if (k := true) (cw_or (k := false) (l := true) (ct_isN (ce_v 1 rfl (ay.mono s1)) ce_none) (cw_or1 (ct_val (ce_isi (fun _ => T.b_isinstance) (fun _ => T.b_str) bt_str (ce_v 1 rfl (ay.mono s1)) kt_str_str)))).ct (fun _ H2 s2 => ?_) fun h => by cases h
        have s := s1.trans s2
        exact cs_ret (ce_and (k := true) (l := true) ((ce_eqS (ce_v 0 rfl (ax.mono s)) (ce_v 1 rfl (ay.mono s))).eq (congrArg PyData.bool (decide_eq_true rfl))) (ce_one ((ce_eqS (da := .bool true) (db := .bool true) (ce_isi (fun _ => T.b_isinstance) (fun _ => T.b_str) bt_str (ce_v 0 rfl (ax.mono s)) kt_str_str) (ce_isi (fun _ => T.b_isinstance) (fun _ => T.b_str) bt_str (ce_v 1 rfl (ay.mono s)) kt_str_str)).eq rfl))) fun v H3 s3 a3 => q v H3 (s.trans s3) a3
    | @tup _ es hl hes =>
      refine cs_if (k := true) (ct_val (ce_isi2 (k := true) (l := false) (fun _ => T.b_isinstance) (fun _ => T.b_tuple) (fun _ => T.b_list) boot_tuple bt_list (ce_v 1 rfl ay) kt_tup_tup kt_tup_list)) (fun _ H1 s1 => ?_) fun h => by cases h
      refine cs_if (k := false) (cw_or (k := false) (l := false) (ct_not (k := true) (ct_val (ce_isi2 (k := true) (l := false) (fun _ => T.b_isinstance) (fun _ => T.b_tuple) (fun _ => T.b_list) boot_tuple bt_list (ce_v 0 rfl (ax.mono s1)) kt_tup_tup kt_tup_list))) (cw_or1 ((ct_neS (da := .bool false) (db := .bool false) (ce_isi (fun _ => T.b_isinstance) (fun _ => T.b_list) bt_list (ce_v 0 rfl (ax.mono s1)) kt_tup_list) (ce_isi (fun _ => T.b_isinstance) (fun _ => T.b_list) bt_list (ce_v 1 rfl (ay.mono s1)) kt_tup_list)).eq rfl))).ct (fun h => by cases h) fun _ H2 s2 => cs_nil ?_
      have s := s1.trans s2
      refine cs_if (k := false) ((ct_neI (ce_lenT (fun _ => T.b_len) (ce_v 0 rfl (ax.mono s))) (ce_lenT (fun _ => T.b_len) (ce_v 1 rfl (ay.mono s)))).eq (by rw [decide_eq_true rfl]; rfl)) (fun h => by cases h) fun _ H3 s3 => cs_nil ?_
      have s := s.trans s3
      refine cs_ret ((ce_eqD (da := .list []) (db := .list []) (fun _ => hr.units) (((cn_lc 2 (fun _ => none) (ci_rng1 (n := es.length) (fun _ => T.b_range) (ce_lenT (fun _ => T.b_len) (ce_v 1 rfl (ay.mono s))) (by omega)) (by rw [rgD_len]; omega) (fun i d v H4 hd s4 a4 => .inr ⟨rfl, ?_⟩) (fun _ => sc_alikeL.nd) (fun _ => blkOk_by (N := N_alikeL) (sc := defScope s_alikeL) (by decide +kernel))).eq (es := []) ?_).ce) (cn_lst ca_nil).ce rfl rfl).eq rfl) fun v H4 s4 a4 => q v H4 (s.trans s4) a4
      · obtain ⟨hi, rfl⟩ := rg0_at hd
        have hei : es[i]? = some es[i] := List.getElem?_eq_getElem hi
        have hal := hes es[i] (List.getElem_mem hi)
        exact cp_one (ct_not (k := true) (ct_val (ce_call ih (fun _ => ⟨rfl, rfl, rfl, rfl, rfl⟩) (fun _ => hr) (ca_cons (ce_ixT (k := i) (ce_v 0 rfl (ax.mono (s.trans s4))) (ce_v 2 rfl a4) hei) (ca_cons (ce_ixT (k := i) (ce_v 1 rfl (ay.mono (s.trans s4))) (ce_v 2 rfl a4) hei) ca_nil)) ⟨es[i], hal, rfl, rfl⟩)))
      · exact List.filterMap_eq_nil_iff.mpr fun _ _ => rfl
end
end Shr


namespace Shr
open PySem PySem.Spec L2
/-! ### readings that may change the heap: what is wanted behind an expression -/
section
variable {ι : Type} {X : ι → Cx} {σ : L2.St} {H H' : Hp} {e a b c : Expr} {d da db : PyData} {pos : Pos} {i j : Int} {Q : VK}
variable {P : Program} {w : World} {K : PySem.W.Frag} {mg : Str → Option Value} {base : Heap}
def mE (X : ι → Cx) (e : Expr) : TE := fun σ H Q => ∃ (te : TE) (Q0 : VK), (∀ j, PE (X j) e te) ∧ te σ H Q0 ∧ ∀ v H', Q0 v H' → Q v H'
theorem mE_pe (e : Expr) (j : ι) : PE (X j) e (mE X e) := ⟨fun pins s σ H Q I ⟨_, Q0, p, h, m⟩ => thn ((p j).run pins s σ H Q0 I h) fun v s' ⟨x, H', I', r, q⟩ => ⟨x, H', I', r, m _ _ q⟩⟩
def W (X : ι → Cx) (σ : L2.St) (H : Hp) (e : Expr) (Q : VK) : Prop := mE X e σ H Q
theorem W.mono {Q' : VK} (h : W X σ H e Q) (m : ∀ v H', Q v H' → Q' v H') : W X σ H e Q' := let ⟨te, Q0, p, q, n⟩ := h; ⟨te, Q0, p, q, fun v H' z => m _ _ (n _ _ z)⟩
theorem W.of {te : TE} (p : ∀ j, PE (X j) e te) (h : te σ H Q) : W X σ H e Q := ⟨te, Q, p, h, fun _ _ z => z⟩
def mA (X : ι → Cx) (es : List Expr) : TA := fun σ H Q => ∃ (ta : TA) (Q0 : List V → Hp → Prop), (∀ j, PA (X j) es ta) ∧ ta σ H Q0 ∧ ∀ v H', Q0 v H' → Q v H'
theorem mA_pa (es : List Expr) (j : ι) : PA (X j) es (mA X es) := ⟨fun pos pins s σ H Q I ⟨_, Q0, p, h, m⟩ => thn ((p j).run pos pins s σ H Q0 I h) fun v s' ⟨x, H', I', r, q⟩ => ⟨x, H', I', r, m _ _ q⟩⟩
def WA (X : ι → Cx) (σ : L2.St) (H : Hp) (es : List Expr) (Q : List V → Hp → Prop) : Prop := mA X es σ H Q
theorem WA.mono {es : List Expr} {T T' : List V → Hp → Prop} (h : WA X σ H es T) (m : ∀ v H', T v H' → T' v H') : WA X σ H es T' := let ⟨te, Q0, p, q, n⟩ := h; ⟨te, Q0, p, q, fun v H' z => m _ _ (n _ _ z)⟩
theorem WA.of {es : List Expr} {T : List V → Hp → Prop} {ta : TA} (p : ∀ j, PA (X j) es ta) (h : ta σ H T) : WA X σ H es T := ⟨ta, T, p, h, fun _ _ z => z⟩
def mT (X : ι → Cx) (e : Expr) : TT := fun σ H Q => ∃ (tt : TT) (Q0 : Bool → Hp → Prop), (∀ j, PT (X j) e tt) ∧ tt σ H Q0 ∧ ∀ v H', Q0 v H' → Q v H'
theorem mT_pt (e : Expr) (j : ι) : PT (X j) e (mT X e) := ⟨fun pins s σ H Q I ⟨_, Q0, p, h, m⟩ => thn ((p j).run pins s σ H Q0 I h) fun v s' ⟨H', I', q⟩ => ⟨H', I', m _ _ q⟩⟩
def WT (X : ι → Cx) (σ : L2.St) (H : Hp) (e : Expr) (Q : Bool → Hp → Prop) : Prop := mT X e σ H Q
theorem WT.of {T : Bool → Hp → Prop} {tt : TT} (p : ∀ j, PT (X j) e tt) (h : tt σ H T) : WT X σ H e T := ⟨tt, T, p, h, fun _ _ z => z⟩
theorem wt_ct {k : Bool} {T : Bool → Hp → Prop} (h : CT X σ H e k) (m : ∀ H2, Same H H2 → T k H2) : WT X σ H e T := let ⟨tt, p, r⟩ := h; .of p (r H (Same.refl _) T m)
theorem w_ce (h : CE X σ H e d) (k : ∀ v H2, Same H H2 → Ar H2 v d → Q v H2) : W X σ H e Q := let ⟨te, p, r⟩ := h; .of p (r H (Same.refl _) Q k)
theorem w_cn {ds : List PyData} (h : CN X σ H e ds) (k : ∀ p xs H2, H p = none → Same H H2 → H2 p = some (.lst xs) → ImAll H2 xs ds → Q (.ref p) H2) : W X σ H e Q := let ⟨te, p, r⟩ := h; .of p (r H (Same.refl _) Q k)
theorem w_v (k : Nat) {x : Str} {v : V} (hs : σ[k]? = some (some v)) (q : Q v H) (hN : ∀ j, (X j).N[k]? = some x := by intro _; rfl) (hv : ∀ j, Vis (X j).env.scope x := by intro _; first | exact Or.inl rfl | exact Or.inr (Or.inl rfl) | exact Or.inr (Or.inr rfl))
    (hd : (x == ("__debug__" : Str)) = false := by decide) (hcd : (x == ("__classdict__" : Str)) = false := by decide) : W X σ H (.Name x pos) Q := .of (fun j => pe_var (hN j) (hv j) hd hcd) ⟨v, hs, q⟩
theorem w_int {n : Int} {k : Nat} (q : Q (.int n) H) : W X σ H (.Constant (.int n) k pos) Q := .of (fun _ => pe_int) q
theorem w_bin {op : Operator} {r : R2} (ho : ∀ j, OpR (X j) (binaryOp op) r) (h : W X σ H a fun x H1 => W X σ H1 b fun y H2 => r x y H2 Q) : W X σ H (.BinOp a op b pos) Q := .of (te := tOp r (mE X a) (mE X b)) (fun j => pe_op (ho j) (mE_pe a j) (mE_pe b j)) h
theorem w_add (h : W X σ H a fun x H1 => W X σ H1 b fun y H2 => ∃ n m, x = .int n ∧ y = .int m ∧ Q (.int (n + m)) H2) : W X σ H (.BinOp a .Add b pos) Q := w_bin (fun _ => op_add) h
theorem w_mul (h : W X σ H a fun x H1 => W X σ H1 b fun y H2 => ∃ n m, x = .int n ∧ y = .int m ∧ CMul n m ∧ Q (.int (n * m)) H2) : W X σ H (.BinOp a .Mult b pos) Q := w_bin (fun _ => op_mul) h
theorem w_fdiv (h : W X σ H a fun x H1 => W X σ H1 b fun y H2 => ∃ n m, x = .int n ∧ y = .int m ∧ CDiv n m ∧ Q (.int (n / m)) H2) : W X σ H (.BinOp a .FloorDiv b pos) Q := w_bin (fun _ => op_fdiv) h
theorem op_eqI {X : Cx} : OpR X (compareOp .Eq) (rI0 fun i j => .bl (decide (i = j))) := fun pins s σ H x y v u Q I rx ry ⟨n, m, e1, e2, q⟩ => by
  subst e1 e2
  refine op_eq pins s σ H _ _ v u Q I rx ry ⟨rfl, ?_⟩
  rw [vInt]
  exact q
theorem wt_eqI {T : Bool → Hp → Prop} (h : W X σ H a fun x H1 => W X σ H1 b fun y H2 => ∃ n m, x = .int n ∧ y = .int m ∧ ∃ k, V.bl (decide (n = m)) = .bl k ∧ T k H2) : WT X σ H (.Compare a [.Eq] [b] pos) T :=
  .of (tt := tTest (tOp (rI0 fun i j => .bl (decide (i = j))) (mE X a) (mE X b))) (fun j => pt_cmpR op_eqI (mE_pe a j) (mE_pe b j) (nomark _)) h
theorem wa_nil {T : List V → Hp → Prop} (q : T [] H) : WA X σ H [] T := .of (fun _ => pa_nil) q
theorem wa_cons {es : List Expr} {T : List V → Hp → Prop} (h : W X σ H e fun v H1 => WA X σ H1 es fun vs H2 => T (v :: vs) H2) (hs : ∀ j, starEach (e :: es) (X j).env = (false, eval e (X j).env) :: starEach es (X j).env := by intro _; rfl) : WA X σ H (e :: es) T :=
  .of (ta := tCons (mE X e) (mA X es)) (fun j => pa_cons (mE_pe e j) (mA_pa es j) (hs j)) h
theorem w_call {x : Str} {p : Pos} {es : List Expr} {k : Nat} {ps : List Str} {sp : Sp} (F : Fn P w K mg base k x ps sp) (hX : ∀ j, (X j).prog = P ∧ (X j).w = w ∧ (X j).K = K ∧ (X j).mg = mg ∧ (X j).base = base) (hr : ∀ j, Room k (X j).A)
    (ha : WA X σ H (e :: es) fun vs H1 => sp (vs ++ []) H1 Q E0) (hg : ∀ j, Gl (X j) x := by intro _; rfl) (hdb : (x == ("__debug__" : Str)) = false := by decide)
    (he : ∀ j, starEach (e :: es) (X j).env = (false, eval e (X j).env) :: starEach es (X j).env := by intro _; rfl) (hpl : ∀ j, (backTo pos (starEach es (X j).env)).any (·.1) = false := by intro _; rfl) : W X σ H (.Call (.Name x p) (e :: es) [] pos) Q := by
  obtain ⟨f, fd, G, gm, gk, gb⟩ := F.ex
  refine .of (te := tCall sp [] E0 (mA X (e :: es))) (fun j => ?_) ha
  obtain ⟨e1, e2, e3, e4, e5⟩ := hX j
  exact pe_call (f := f) (fd := fd) (k := k) (ps := ps) (by rw [e1, e2, e3, e4, e5]; exact G) (hr j) (hg j) (by rw [e4]; exact gm) (by rw [e3]; exact gk) (by rw [e3]; exact gb) .nil pass0 (mA_pa _ j) hdb (he j) (hpl j)
theorem w_callB {x : Str} {p : Pos} {es : List Expr} {id : String} {r : List V → Hp → VK → Prop} (hc : ∀ j, CallR (X j) (.builtin id) r) (hm : ∀ j, (X j).mg x = none) (hv : bootBuiltins x = some (.builtin id)) (ha : WA X σ H (e :: es) fun vs H1 => r vs H1 Q)
    (hg : ∀ j, Gl (X j) x := by intro _; rfl) (hn : x ≠ "__name__" := by decide) (hdb : (x == ("__debug__" : Str)) = false := by decide)
    (he : ∀ j, starEach (e :: es) (X j).env = (false, eval e (X j).env) :: starEach es (X j).env := by intro _; rfl) (hpl : ∀ j, (backTo pos (starEach es (X j).env)).any (·.1) = false := by intro _; rfl) : W X σ H (.Call (.Name x p) (e :: es) [] pos) Q :=
  .of (te := tCB r (mA X (e :: es))) (fun j => pe_callB (hc j) (hg j) (hm j) hv (mA_pa _ j) hn hdb (he j) (hpl j)) ha
theorem w_callTy {x : Str} {p : Pos} {es : List Expr} {id : String} {r : List V → Hp → VK → Prop} (hc : ∀ j, CallR (X j) (.type id) r) (hm : ∀ j, (X j).mg x = none) (hv : bootBuiltins x = some (.type id)) (ha : WA X σ H (e :: es) fun vs H1 => r vs H1 Q)
    (hg : ∀ j, Gl (X j) x := by intro _; rfl) (hn : x ≠ "__name__" := by decide) (hdb : (x == ("__debug__" : Str)) = false := by decide)
    (he : ∀ j, starEach (e :: es) (X j).env = (false, eval e (X j).env) :: starEach es (X j).env := by intro _; rfl) (hpl : ∀ j, (backTo pos (starEach es (X j).env)).any (·.1) = false := by intro _; rfl) : W X σ H (.Call (.Name x p) (e :: es) [] pos) Q :=
  .of (te := tCB r (mA X (e :: es))) (fun j => pe_callTy (hc j) (hg j) (hm j) hv (mA_pa _ j) hn hdb (he j) (hpl j)) ha
theorem w_if {t : Expr} (h : WT X σ H t fun k H1 => if k = true then W X σ H1 a Q else W X σ H1 b Q) : W X σ H (.IfExp t a b pos) Q := .of (te := tIf (mT X t) (mE X a) (mE X b)) (fun j => pe_ifExp (mT_pt t j) (mE_pe a j) (mE_pe b j)) h
theorem w_lst {es : List Expr} (h : WA X σ H es fun vs H1 => vs.length ≤ sizeLine ∧ ∀ p, H1 p = none → Q (.ref p) (upd H1 p (.lst vs))) : W X σ H (.List es pos) Q := .of (te := tLst (mA X es)) (fun j => pe_lst (mA_pa es j)) h
theorem w_tup {es : List Expr} {k : Nat} (h : WA X σ H es fun vs H1 => vs.length ≤ sizeLine ∧ ∀ (p : Addr) (o : Obj), H1 p = none → o.dict = none → Q (.ref p) (upd H1 p (.frz o (.tup vs)))) : W X σ H (.Tuple es k pos) Q := .of (te := tTupF (mA X es)) (fun j => pe_tupF (mA_pa es j)) h
theorem w_ix (h : W X σ H a fun x H1 => W X σ H1 b fun y H2 => ∃ p xs i v, x = .ref p ∧ y = .int i ∧ (H2 p = some (.lst xs) ∨ TupF H2 p xs) ∧ atI xs i = some v ∧ Q v H2) (hp : PlainIx b := by intro _ _; rfl) : W X σ H (.Subscript a b pos) Q :=
  .of (te := tOp rIxA (mE X a) (mE X b)) (fun j => pe_ix ix_A (mE_pe a j) (mE_pe b j) hp) h
/-- [elt for x in range(n)] whose element may change the heap -/
theorem w_lcR {x : Str} {elt n : Expr} {scope : Scope} {tpos p rpos : Pos} (k : Nat) (hm : ∀ j, (X j).mg "range" = none) (h : WA X σ H [n] fun vs H1 => ∃ N : Nat, vs = [.int (N : Nat)] ∧ N ≤ 100000 ∧ ∀ D, H1 D = none → ∃ Pv : Nat → Hp → Prop, Pv 0 (upd H1 D (.lst [])) ∧
      (∀ i H2, i < N → Pv i H2 → W (blkAt X scope) ((σ.set k none).set k (some (.int ((i : Nat) : Int)))) H2 elt fun y H3 => ∃ acc, H3 D = some (.lst acc) ∧ acc.length < 100000 ∧ Pv (i + 1) (upd H3 D (.lst (acc ++ [y])))) ∧ (∀ H2, Pv N H2 → Q (.ref D) H2))
    (nd : ∀ j, (X j).N.Nodup) (ok : ∀ j, BlkOk (X j).N (X j).env.scope scope [(x, k)]) (hgk : ∀ j, (X j).N[k]? = some x := by intro _; rfl) (hgl : ∀ q, Loc (blkAt X scope q).env.scope x := by intro _; exact Or.inl rfl) (hgf : ∀ q, (blkAt X scope q).env.scope.names.lookup x = some .local := by intro _; rfl)
    (hg : ∀ j, Gl (X j) "range" := by intro _; rfl) (hs1 : ∀ j, starEach [n] (X j).env = [(false, eval n (X j).env)] := by intro _; rfl)
    (hc : ∀ j, (X j).calm = true := by intro _; rfl) (hs : ∀ j x, foldedSetIterable (.Call (.Name "range" p) [n] [] rpos) (X j).env x = pure x := by intro _ _; rfl) : W X σ H (.ListComp elt [⟨.Name x tpos, .Call (.Name "range" p) [n] [] rpos, [], 0⟩] scope pos) Q := by
  refine .of (te := tLc (iRng1 (mA X [n])) (gName k) (uP (blkAt X scope) []) (mE (blkAt X scope) elt) [k]) (fun j => ?_) ?_
  · exact pe_lc (own := [(x, k)]) (hc j) (nd j) (pi_range1 (hg j) (hm j) (mA_pa _ j) (hs1 j)) (ok j) (fun s H C cl fp => pg_name (i := k) (nd j) (hgk j) (hgl (j, s, H, C, cl, fp)) (.inr (hgf (j, s, H, C, cl, fp)))) (fun s H C cl fp => uP_pts (X := blkAt X scope) [] (j, s, H, C, cl, fp)) (fun s H C cl fp => mE_pe (X := blkAt X scope) elt (j, s, H, C, cl, fp)) (hs j)
  · refine WA.mono h fun vs H1 ⟨N, e1, hN, hD⟩ => ⟨(N : Int), e1, by omega, by omega, fun D hd => ?_⟩
    obtain ⟨Pv, p0, ps, pd⟩ := hD D hd
    refine ⟨fun i m H => i + m = N ∧ Pv i H, ⟨N, by omega, p0⟩, ?_⟩
    rintro i m H2 ⟨him, pv⟩
    by_cases hlt : i < N
    · refine .inr ⟨by show i < (N : Int).toNat; omega, Pv (i + 1), fun H' p' => ⟨m - 1, by omega, by omega, p'⟩, fun y H' hy => ?_⟩
      obtain ⟨rfl, rfl⟩ := hy
      have ew : wipe ((wipe σ [k]).set k (some (.int (0 + ((i : Nat) : Int))))) [k] = wipe σ [k] := by
        show (((σ.set k none).set k (some _)).set k none) = σ.set k none
        rw [List.set_set, List.set_set]
      refine ⟨ew, tYes, fun _ => pts_nil, iteT (B := Pv (i + 1) H') ?_⟩
      have hw := ps i H' hlt pv
      rw [← Int.zero_add ((i : Nat) : Int)] at hw
      refine W.mono hw fun y H3 ⟨acc, e3, hl, hp3⟩ => ⟨acc, e3, Nat.lt_trans hl (by decide), hp3⟩
    · have e : i = N := by omega
      subst e
      exact .inl ⟨by show (i : Int).toNat ≤ i; omega, pd H2 pv⟩
end
/-! ### statements that may draw -/
section
variable {X : Cx} {σ : L2.St} {H H' : Hp} {e a b c : Expr} {pos : Pos} {rest : List Stmt} {D : Ends}
theorem cs_setW (k : Nat) {x : Str} {pos' : Pos} (nd : X.N.Nodup) (he : W (U X) σ H e fun v H1 => CS X rest D (σ.set k (some v)) H1) (hi : X.N[k]? = some x := by rfl) (hx : Loc X.env.scope x := by first | exact Or.inl rfl | exact Or.inr rfl)
    (hs : swapsWith e (some (.Name x pos')) pos.line X.env = pure false := by rfl) (hf : X.fn x = true ∨ X.env.scope.names.lookup x = some .local := by first | exact .inl rfl | exact .inr rfl) : CS X (.Assign [.Name x pos'] e pos :: rest) D σ H :=
  ⟨tSeq (tAsg (mE (U X) e) (gName k)) (CS X rest), pss_cons (ps_set (i := k) nd hi hx (mE_pe (X := U X) e ()) hs hf) (cs_pss rest), he⟩
theorem cs_retW (he : W (U X) σ H e D.rt) : CS X (.Return (some e) pos :: rest) D σ H := ⟨tSeq (tRet (mE (U X) e)) (CS X rest), pss_cons (ps_ret (mE_pe (X := U X) e ())) (cs_pss rest), he⟩
/-- a, b = e1, e2 by way of a tuple -/
theorem cs_tup2 (k l : Nat) {x y : Str} {px py pt pt2 : Pos} {kt k2 : Nat} (nd : X.N.Nodup) (he : WA (U X) σ H [a, b] fun vs H1 => ∃ v w, vs = [v, w] ∧ ∀ (p : Addr) (o : Obj), H1 p = none → CS X rest D ((σ.set k (some v)).set l (some w)) (upd H1 p (.frz o (.tup [v, w]))))
    (hi : X.N[k]? = some x := by rfl) (hj : X.N[l]? = some y := by rfl) (hx : Loc X.env.scope x := by first | exact Or.inl rfl | exact Or.inr rfl) (hy : Loc X.env.scope y := by first | exact Or.inl rfl | exact Or.inr rfl)
    (hfx : X.fn x = true ∨ X.env.scope.names.lookup x = some .local := by first | exact .inl rfl | exact .inr rfl) (hfy : X.fn y = true ∨ X.env.scope.names.lookup y = some .local := by first | exact .inl rfl | exact .inr rfl) (hc : X.calm = true := by rfl)
    (hs : swapsWithSole [.Tuple [.Name x px, .Name y py] kt pt] (.Tuple [a, b] k2 pt2) pos.line X.env = pure false := by rfl) (hw : swappedStores [.Tuple [.Name x px, .Name y py] kt pt] (.Tuple [a, b] k2 pt2) X.env = pure none := by rfl)
    (h1 : (assignEach [.Tuple [.Name x px, .Name y py] kt pt] X.env).map (·.2) = [assign (.Tuple [.Name x px, .Name y py] kt pt) X.env] := by rfl) : CS X (.Assign [.Tuple [.Name x px, .Name y py] kt pt] (.Tuple [a, b] k2 pt2) pos :: rest) D σ H := by
  refine ⟨tSeq (tAsg (tTupF (mA (U X) [a, b])) (gTup X.K 2 (gCons (gName k) (gCons (gName l) gNil)))) (CS X rest), pss_cons (ps_asg (pe_tupF (mA_pa (X := U X) [a, b] ())) (pg_tup hc (pgs_cons (pg_name (i := k) nd hi hx hfx) (pgs_cons (pg_name (i := l) nd hj hy hfy) pgs_nil))) hs hw h1) (cs_pss rest), ?_⟩
  refine WA.mono he fun vs H1 ⟨v, w, e1, hk⟩ => ?_
  subst e1
  refine ⟨by show 2 ≤ sizeLine; decide, fun p o hp ho => ?_⟩
  exact ⟨p, [v, w], rfl, (TupF.new ho).sq, rfl, v, [w], rfl, w, [], rfl, rfl, hk p o hp⟩
/-- for x in range(n), n drawn -/
theorem cs_forW {tg n : Expr} {p rpos : Pos} {body : List Stmt} {g : TG} (hm : X.mg "range" = none) (hg : PG X tg g) (hp : PassesOwn (model X.prog X.w) X.A X.env X.xe)
    (h : WA (U X) σ H [n] fun vs H1 => ∃ N : Nat, vs = [.int (N : Nat)] ∧ N ≤ 100000 ∧ ∃ Pv : Nat → L2.St → Hp → Prop, Pv 0 σ H1 ∧
      (∀ i σ' H', i < N → Pv i σ' H' → g (.int ((i : Nat) : Int)) σ' H' fun σ2 H3 => CS X body { D with nx := Pv (i + 1), ct := Pv (i + 1), bk := CS X rest D } σ2 H3) ∧ (∀ σ' H', Pv N σ' H' → CS X rest D σ' H'))
    (hgl : Gl X "range" := by rfl) (hs1 : starEach [n] X.env = [(false, eval n X.env)] := by rfl) (hc : X.calm = true := by rfl) (hs : ∀ x, foldedSetIterable (.Call (.Name "range" p) [n] [] rpos) X.env x = pure x := by intro _; rfl) : CS X (.For tg (.Call (.Name "range" p) [n] [] rpos) body [] pos :: rest) D σ H := by
  refine ⟨tSeq (tFor (iRng1 (mA (U X) [n])) g (CS X body)) (CS X rest), pss_cons (ps_for hp hc (pi_range1 hgl hm (mA_pa (X := U X) [n] ()) hs1) hg (cs_pss body) hs) (cs_pss rest), ?_⟩
  refine WA.mono h fun vs H1 ⟨N, e1, hN, Pv, p0, ps, pd⟩ => ⟨(N : Int), e1, by omega, by omega, ?_⟩
  refine ⟨fun i m σ H => i + m = N ∧ Pv i σ H, ⟨N, by omega, p0⟩, ?_⟩
  rintro i m σ' H' ⟨him, pv⟩
  by_cases hlt : i < N
  · refine .inr ⟨by show i < (N : Int).toNat; omega, Pv (i + 1), fun σ3 H3 q => ⟨m - 1, by omega, by omega, q⟩, fun y H3 hy => ?_⟩
    obtain ⟨rfl, rfl⟩ := hy
    have hw := ps i σ' H3 hlt pv
    rw [← Int.zero_add ((i : Nat) : Int)] at hw
    exact hw
  · have e : i = N := by omega
    subst e
    exact .inl ⟨by show (i : Int).toNat ≤ i; omega, pd σ' H' pv⟩
end
end Shr


namespace Shr
open PySem PySem.Spec L2
/-! ### the row of draws -/
/-- all but what stands at r is kept -/
def Off (r : Addr) (H H' : Hp) : Prop := ∀ b o, b ≠ r → H b = some o → H' b = some o
theorem Off.refl (r : Addr) (H : Hp) : Off r H H := fun _ _ _ h => h
theorem Off.trans {r : Addr} {H H1 H2 : Hp} (a : Off r H H1) (b : Off r H1 H2) : Off r H H2 := fun c o h e => b c o h (a c o h e)
theorem Off.of {r : Addr} {H H' : Hp} (s : Same H H') : Off r H H' := fun b o _ e => s b o e
theorem Off.upd {r : Addr} {H : Hp} (o : HO) : Off r H (upd H r o) := fun b u hb e => by rw [upd_ne hb]; exact e
theorem Off.ts {r : Addr} {H H' : Hp} {xs : List V} (a : Off r H H') (h : H r = some (.lst xs)) : TSt H H' := fun b o ys e => a b _ (ne_of e h (by intro z; cases z)) e
structure RowAt (K : PySem.W.Frag) (H0 H : Hp) (r : Addr) : Prop where
  new : H0 r = none
  same : Same H0 H
  ex : ∃ (sa : Addr) (ns : List Int) (i : Nat) (st rest : Int), H r = some (.lst [.ref sa, .int (i : Nat), .int st, .int rest]) ∧ SqL K H0 sa (ns.map V.int) ∧ 0 ≤ st ∧ st < 2147483647
theorem RowAt.ts {K : PySem.W.Frag} {H0 H H' : Hp} {r : Addr} (R : RowAt K H0 H r) (a : Off r H H') : TSt H H' := let ⟨_, _, _, _, _, e, _⟩ := R.ex; a.ts e
theorem RowAt.keep {K : PySem.W.Frag} {H0 H H' : Hp} {r : Addr} (R : RowAt K H0 H r) (s : Same H H') : RowAt K H0 H' r :=
  ⟨R.new, R.same.trans s, let ⟨sa, ns, i, st, rest, e, q⟩ := R.ex; ⟨sa, ns, i, st, rest, s _ _ e, q⟩⟩
theorem RowAt.off {K : PySem.W.Frag} {H0 H H' : Hp} {r : Addr} (R : RowAt K H0 H r) (a : Off r H H') : Same H0 H' := fun b o e => a b o (ne_of_none e R.new) (R.same b o e)
theorem RowAt.ne {K : PySem.W.Frag} {H0 H : Hp} {r p : Addr} (R : RowAt K H0 H r) (h : H p = none) : r ≠ p := let ⟨_, _, _, _, _, e, _⟩ := R.ex; ne_of_none e h
/-- a number below m, whatever; the row goes on -/
def spTaken (K : PySem.W.Frag) : Sp := fun vs H Q _ => ∃ (H0 : Hp) (r : Addr) (m : Int), vs = [.ref r, .int m] ∧ 1 ≤ m ∧ m ≤ 1000 ∧ RowAt K H0 H r ∧ ∀ (v : Int) (H' : Hp), 0 ≤ v → v < m → Off r H H' → RowAt K H0 H' r → Q (.int v) H'
section
variable {ι : Type} {X : ι → Cx} {σ : L2.St} {H H' : Hp} {e a b c : Expr} {d da db : PyData} {pos : Pos} {i j : Int}
variable {P : Program} {w : World} {K : PySem.W.Frag} {mg : Str → Option Value} {base : Heap}
/-- an item of a list that stands at a slot's address -/
theorem ce_ixO (k : Nat) {x : Str} {p : Pos} {r : Addr} {xs : List V} {n : Nat} {v : V} (hs : σ[k]? = some (some (.ref r))) (e : H r = some (.lst xs)) (hb : CE X σ H b (.int (n : Nat))) (hv : xs[n]? = some v) (av : Ar H v d) (hp : PlainIx b := by intro _ _; rfl)
    (hN : ∀ j, (X j).N[k]? = some x := by intro _; rfl) (hvi : ∀ j, Vis (X j).env.scope x := by intro _; first | exact Or.inl rfl | exact Or.inr (Or.inl rfl) | exact Or.inr (Or.inr rfl))
    (hd : (x == ("__debug__" : Str)) = false := by decide) (hcd : (x == ("__classdict__" : Str)) = false := by decide) : CE X σ H (.Subscript (.Name x p) b pos) d := by
  obtain ⟨tb, pb, rb⟩ := hb
  refine ⟨tOp rIxA (tVar k) tb, fun j => pe_ix ix_A (pe_var (hN j) (hvi j) hd hcd) (pb j) hp, fun H1 s Q q => ?_⟩
  refine ⟨_, hs, rb H1 s _ fun y H2 s2 ay => ?_⟩
  exact ⟨r, xs, _, v, rfl, ay.int, .inl ((s.trans s2) _ _ e), atI_nat hv, q v H2 s2 (av.mono (s.trans s2))⟩
/-- len(row[n]), row[n] a list that is read -/
theorem ce_lenR (k : Nat) {x : Str} {p ps pl : Pos} {r sa : Addr} {xs ys : List V} {n : Nat} (hX : ∀ j, (X j).K = K) (hm : ∀ j, (X j).mg "len" = none) (hs : σ[k]? = some (some (.ref r))) (e : H r = some (.lst xs)) (hb : CE X σ H b (.int (n : Nat))) (hv : xs[n]? = some (.ref sa)) (hq : SqL K H sa ys) (hp : PlainIx b := by intro _ _; rfl)
    (hN : ∀ j, (X j).N[k]? = some x := by intro _; rfl) (hvi : ∀ j, Vis (X j).env.scope x := by intro _; first | exact Or.inl rfl | exact Or.inr (Or.inl rfl) | exact Or.inr (Or.inr rfl))
    (hg : ∀ j, Gl (X j) "len" := by intro _; rfl) (hst : ∀ j, starEach [.Subscript (.Name x p) b ps] (X j).env = (false, eval (.Subscript (.Name x p) b ps) (X j).env) :: starEach [] (X j).env := by intro _; rfl)
    (hd : (x == ("__debug__" : Str)) = false := by decide) (hcd : (x == ("__classdict__" : Str)) = false := by decide) : CE X σ H (.Call (.Name "len" pl) [.Subscript (.Name x p) b ps] [] pos) (.int (ys.length : Nat)) := by
  obtain ⟨tb, pb, rb⟩ := hb
  refine ⟨tCB (fun xs H Q => ∃ p ys, xs = [.ref p] ∧ (SqL K H p ys ∨ SqT K H p ys) ∧ Q (.int ys.length) H) (tCons (tOp rIxA (tVar k) tb) tNil), fun j => by rw [← hX j]; exact pe_callB call_len_seq (hg j) (hm j) PySem.boot_len (pa_cons (pe_ix ix_A (pe_var (hN j) (hvi j) hd hcd) (pb j) hp) pa_nil (hst j)) (by decide) (by decide) (hst j) rfl, fun H1 s Q q => ?_⟩
  refine ⟨_, hs, rb H1 s _ fun y H2 s2 ay => ?_⟩
  exact ⟨r, xs, _, _, rfl, ay.int, .inl ((s.trans s2) _ _ e), atI_nat hv, sa, ys, rfl, .inl ((s.trans s2).seq hq), q _ H2 s2 (.im (.int _))⟩
/-- row[n][c], row[n] a list of ints that is read -/
theorem ce_ixR (k : Nat) {x : Str} {p ps : Pos} {r sa : Addr} {xs : List V} {ns : List Int} {n m : Nat} {z : Int} (hX : ∀ j, (X j).K = K) (hs : σ[k]? = some (some (.ref r))) (e : H r = some (.lst xs)) (hb : CE X σ H b (.int (n : Nat))) (hv : xs[n]? = some (.ref sa)) (hq : SqL K H sa (ns.map V.int)) (hc : CE X σ H c (.int (m : Nat))) (hz : ns[m]? = some z)
    (hp : PlainIx b := by intro _ _; rfl) (hp2 : PlainIx c := by intro _ _; rfl)
    (hN : ∀ j, (X j).N[k]? = some x := by intro _; rfl) (hvi : ∀ j, Vis (X j).env.scope x := by intro _; first | exact Or.inl rfl | exact Or.inr (Or.inl rfl) | exact Or.inr (Or.inr rfl))
    (hd : (x == ("__debug__" : Str)) = false := by decide) (hcd : (x == ("__classdict__" : Str)) = false := by decide) : CE X σ H (.Subscript (.Subscript (.Name x p) b ps) c pos) (.int z) := by
  obtain ⟨tb, pb, rb⟩ := hb
  obtain ⟨tc, pc, rc⟩ := hc
  refine ⟨tOp (rIxL K) (tOp rIxA (tVar k) tb) tc, fun j => by rw [← hX j]; exact pe_ix ix_list (pe_ix ix_A (pe_var (hN j) (hvi j) hd hcd) (pb j) hp) (pc j) hp2, fun H1 s Q q => ?_⟩
  refine ⟨_, hs, rb H1 s _ fun y H2 s2 ay => ?_⟩
  refine ⟨r, xs, _, _, rfl, ay.int, .inl ((s.trans s2) _ _ e), atI_nat hv, rc H2 (s.trans s2) _ fun y H3 s3 ay3 => ?_⟩
  exact ⟨sa, _, _, .int z, rfl, ay3.int, ((s.trans s2).trans s3).seq hq, atI_nat (by rw [List.getElem?_map, hz]; rfl), q _ H3 (s2.trans s3) (.im (.int _))⟩
theorem mod_rng {a m : Int} (h : 1 ≤ m) : 0 ≤ a % m ∧ a % m < m := ⟨Int.emod_nonneg _ (by omega), Int.emod_lt_of_pos _ (by omega)⟩
theorem fn_takenL (T : Txt K mg) : Fn P w K mg base 1 "_law_taken" ["_law_row", "_law_many"] (spTaken K) := by
  refine def_fn T.d_takenL sc_takenL (fun vs H Q E ⟨_, _, _, e, _⟩ => by rw [e]; rfl) fun f cdv A outer s H vs Q E hr h => ?_
  obtain ⟨H0, r, m, rfl, hm1, hm2, R, q⟩ := h
  obtain ⟨sa, ns, i, st, rest, hrow, hsq, hst0, hst1⟩ := R.ex
  have hdiv : CDiv m m := ⟨by omega, by omega⟩
  have hsqH := R.same.seq hsq
  -- if row[3] > 0
  refine cs_if (k := decide (0 < rest)) (ct_gt (ce_ixO 0 (n := 3) rfl hrow ce_int rfl (ofInt rest)) ce_int) (fun _ H1 s1 => ?_) fun _ H1 s1 => cs_nil ?_
  · have hrow1 := s1 _ _ hrow
    refine cs_set 2 sc_takenL.nd (ce_mod (ce_intI (fun _ => T.b_int) (ce_ixO 0 (n := 3) rfl hrow1 ce_int rfl (ofInt rest))) (ce_v 1 rfl (ofInt m)) (by omega)) fun v H2 s2 av => ?_
    have ev := av.int
    subst ev
    have hrow2 := s2 _ _ hrow1
    refine cs_item (n := 3) (ce_fdiv (ce_ixO 0 (n := 3) rfl hrow2 ce_int rfl (ofInt rest)) (ce_v 1 rfl (ofInt m)) hdiv) (fun H1 _ => own_v 0 rfl) hrow2 ce_int (by show 3 < 4; decide) fun v H3 s3 av => ?_
    have ev := av.int
    subst ev
    obtain ⟨h1, h2⟩ := mod_rng (a := rest) hm1
    refine cs_ret (ce_v 2 rfl (ofInt _)) fun v H4 s4 av => ?_
    have ev := av.int
    subst ev
    have off : Off r H H4 := ((Off.of (s1.trans (s2.trans s3))).trans (Off.upd _)).trans (Off.of s4)
    exact q _ H4 h1 h2 off ⟨R.new, R.off off, sa, ns, i, st, rest / m, s4 _ _ upd_same, hsq, hst0, hst1⟩
  have hrow1 := s1 _ _ hrow
  -- row[1] = row[1] + 1
  refine cs_item (n := 1) (ce_add (ce_ixO 0 (n := 1) rfl hrow1 ce_int rfl (ofInt ((i : Nat) : Int))) ce_int) (fun H1 _ => own_v 0 rfl) hrow1 ce_int (by show 1 < 4; decide) fun v H2 s2 av => ?_
  have ev := av.int
  subst ev
  have e1 : ((i : Nat) : Int) + 1 = ((i + 1 : Nat) : Int) := by omega
  rw [e1]
  have off2 : Off r H (upd H2 r (.lst [.ref sa, .int ((i + 1 : Nat) : Int), .int st, .int rest])) := (Off.of (s1.trans s2)).trans (Off.upd _)
  have same2 := R.off off2
  generalize hH3 : upd H2 r (.lst [.ref sa, .int ((i + 1 : Nat) : Int), .int st, .int rest]) = H3 at off2 same2
  have hrow3 : H3 r = some (.lst [.ref sa, .int ((i + 1 : Nat) : Int), .int st, .int rest]) := by rw [← hH3]; exact upd_same
  have hsq3 := same2.seq hsq
  have goal : CS (cxOf CX0 P w K mg base N_takenL "_law_taken" (defScope s_takenL) f cdv A outer s H E).nox ((defBody s_takenL).drop 2) { nx := fun _ H' => Q .non H', rt := Q } (start N_takenL [.ref r, .int m]) H3 := by
    refine cs_if (k := decide ((((ns.map V.int).length : Nat) : Int) < ((i + 1 : Nat) : Int))) (ct_gt (ce_ixO 0 (n := 1) rfl hrow3 ce_int rfl (ofInt _)) (ce_lenR 0 (K := K) (n := 0) (fun _ => rfl) (fun _ => T.b_len) rfl hrow3 ce_int rfl hsq3)) (fun hk H4 s4 => ?_) fun hk H4 s4 => cs_nil ?_
    · have hrow4 := s4 _ _ hrow3
      refine cs_item (n := 2) (ce_mod (ce_intI (fun _ => T.b_int) (ce_add (ce_mul (ce_ixO 0 (n := 2) rfl hrow4 ce_int rfl (ofInt st)) ce_int (.inr ⟨by decide, by decide⟩)) ce_int)) ce_int (by decide)) (fun H1 _ => own_v 0 rfl) hrow4 ce_int (by show 2 < 4; decide) fun v H5 s5 av => ?_
      have ev := av.int
      subst ev
      obtain ⟨b1, b2⟩ := mod_rng (a := st * 48271 + 11) (m := 2147483647) (by decide)
      obtain ⟨c1, c2⟩ := mod_rng (a := (st * 48271 + 11) % 2147483647 / 7) hm1
      refine cs_ret (ce_mod (ce_intI (fun _ => T.b_int) (ce_fdiv (ce_ixO 0 (n := 2) rfl upd_same ce_int rfl (ofInt ((st * 48271 + 11) % 2147483647))) ce_int ⟨by decide, by decide⟩)) (ce_v 1 rfl (ofInt m)) (by omega)) fun v H6 s6 av => ?_
      have ev := av.int
      subst ev
      have off : Off r H H6 := (off2.trans (((Off.of (s4.trans s5)).trans (Off.upd _)).trans (Off.of s6)))
      exact q _ H6 c1 c2 off ⟨R.new, R.off off, sa, ns, i + 1, _, rest, s6 _ _ upd_same, hsq, b1, b2⟩
    · have hlt : i < ns.length := by
        have := of_decide_eq_false hk
        rw [List.length_map] at this
        omega
      obtain ⟨z, hz⟩ : ∃ z, ns[i]? = some z := ⟨_, List.getElem?_eq_getElem hlt⟩
      have hrow4 := s4 _ _ hrow3
      refine cs_set 3 sc_takenL.nd (ce_ixR 0 (K := K) (n := 0) (m := i) (fun _ => rfl) rfl hrow4 ce_int rfl (s4.seq hsq3) ((ce_sub (ce_ixO 0 (n := 1) rfl hrow4 ce_int rfl (ofInt ((i + 1 : Nat) : Int))) ce_int).eq (congrArg PyData.int (by omega))) hz) fun v H5 s5 av => ?_
      have ev := av.int
      subst ev
      have hrow5 := s5 _ _ hrow4
      refine cs_item (n := 2) (ce_mod (ce_intI (fun _ => T.b_int) (ce_add (ce_add (ce_mul (ce_ixO 0 (n := 2) rfl hrow5 ce_int rfl (ofInt st)) ce_int (.inr ⟨by decide, by decide⟩)) (ce_v 3 rfl (ofInt z))) ce_int)) ce_int (by decide)) (fun H1 _ => own_v 0 rfl) hrow5 ce_int (by show 2 < 4; decide) fun v H6 s6 av => ?_
      have ev := av.int
      subst ev
      obtain ⟨b1, b2⟩ := mod_rng (a := st * 48271 + z + 11) (m := 2147483647) (by decide)
      have off6 : Off r H (upd H6 r (.lst [.ref sa, .int ((i + 1 : Nat) : Int), .int ((st * 48271 + z + 11) % 2147483647), .int rest])) := off2.trans ((Off.of ((s4.trans s5).trans s6)).trans (Off.upd _))
      have fin : ∀ H7, Off r H H7 → (∃ rest', H7 r = some (.lst [.ref sa, .int ((i + 1 : Nat) : Int), .int ((st * 48271 + z + 11) % 2147483647), .int rest'])) → CS (cxOf CX0 P w K mg base N_takenL "_law_taken" (defScope s_takenL) f cdv A outer s H E).nox ((defBody s_takenL).drop 6) { nx := fun _ H' => Q .non H', rt := Q } ((start N_takenL [.ref r, .int m]).set 3 (some (.int z))) H7 := fun H7 off7 ⟨rest', e7⟩ => by
        obtain ⟨c1, c2⟩ := mod_rng (a := z) hm1
        refine cs_ret (ce_mod (ce_intI (fun _ => T.b_int) (ce_v 3 rfl (ofInt z))) (ce_v 1 rfl (ofInt m)) (by omega)) fun v H8 s8 av => ?_
        have ev := av.int
        subst ev
        have off8 := off7.trans (Off.of s8)
        exact q _ H8 c1 c2 off8 ⟨R.new, R.off off8, sa, ns, i + 1, _, rest', s8 _ _ e7, hsq, b1, b2⟩
      refine cs_if (k := decide ((10 : Int) ^ (18 : Int).toNat ≤ z)) (ct_ge (ce_v 3 rfl (ofInt z)) (ce_pow ce_int ce_int ⟨by decide, by decide, by decide⟩)) (fun _ H7 s7 => ?_) fun _ H7 s7 => cs_nil (fin H7 (off6.trans (Off.of s7)) ⟨rest, s7 _ _ upd_same⟩)
      refine cs_item (n := 3) (ce_fdiv (ce_v 3 rfl (ofInt z)) (ce_v 1 rfl (ofInt m)) hdiv) (fun H1 _ => own_v 0 rfl) (s7 _ _ upd_same) ce_int (by show 3 < 4; decide) fun v H8 s8 av => cs_nil (fin _ ?_ ?_)
      · exact (off6.trans (Off.of (s7.trans s8))).trans (Off.upd _)
      · have ev := av.int
        subst ev
        exact ⟨_, upd_same⟩
  exact hH3 ▸ goal
end
end Shr


namespace Shr
open PySem PySem.Spec L2
theorem Ar.off {r : Addr} {H H' : Hp} {v : V} {d : PyData} (h : Ar H v d) (a : Off r H H') (t : TSt H H') (n : notL d = true ∨ v ≠ .ref r) : Ar H' v d := by
  cases h with
  | im h => exact .im (h.mono t)
  | lst e im =>
    rcases n with n | n
    · cases n
    · exact .lst (a _ _ (fun z => n (by rw [z])) e) (im.mono t)
section
variable {ι : Type} {X : ι → Cx} {σ : L2.St} {H H' : Hp} {e a b c : Expr} {d da db : PyData} {pos : Pos} {i j : Int} {Q : VK}
variable {P : Program} {w : World} {K : PySem.W.Frag} {mg : Str → Option Value} {base : Heap}
/-- _law_taken(_law_row, e) -/
theorem w_taken (T : Txt K mg) (k : Nat) {x : Str} {p p2 : Pos} {H0 : Hp} {r : Addr} {m : Int} (hX : ∀ j, (X j).prog = P ∧ (X j).w = w ∧ (X j).K = K ∧ (X j).mg = mg ∧ (X j).base = base) (hr : ∀ j, Room 1 (X j).A) (hs : σ[k]? = some (some (.ref r))) (R : RowAt K H0 H r)
    (hb : CE X σ H b (.int m)) (h1 : 1 ≤ m) (h2 : m ≤ 1000) (q : ∀ (v : Int) (H' : Hp), 0 ≤ v → v < m → Off r H H' → RowAt K H0 H' r → Q (.int v) H')
    (hN : ∀ j, (X j).N[k]? = some x := by intro _; rfl) (hvi : ∀ j, Vis (X j).env.scope x := by intro _; first | exact Or.inl rfl | exact Or.inr (Or.inl rfl) | exact Or.inr (Or.inr rfl)) (hd : (x == ("__debug__" : Str)) = false := by decide) (hcd : (x == ("__classdict__" : Str)) = false := by decide)
    (hg : ∀ j, Gl (X j) "_law_taken" := by intro _; rfl) (he : ∀ j, starEach [.Name x p2, b] (X j).env = (false, eval (.Name x p2) (X j).env) :: starEach [b] (X j).env := by intro _; rfl) (he2 : ∀ j, starEach [b] (X j).env = (false, eval b (X j).env) :: starEach [] (X j).env := by intro _; rfl)
    (hpl : ∀ j, (backTo pos (starEach [b] (X j).env)).any (·.1) = false := by intro _; rfl) : W X σ H (.Call (.Name "_law_taken" p) [.Name x p2, b] [] pos) Q :=
  w_call (fn_takenL T (P := P) (w := w) (base := base)) hX hr (wa_cons (w_v k hs (wa_cons (w_ce hb fun v H2 s2 av => wa_nil ⟨H0, r, m, by rw [av.int]; rfl, h1, h2, R.keep s2, fun z H3 z0 z1 o3 r3 => q z H3 z0 z1 ((Off.of s2).trans o3) r3⟩) he2) hN hvi hd hcd) he) hg (by decide) he hpl
def rMaxA : List V → Hp → VK → Prop := fun xs H Q => ∃ i j, xs = [.int i, .int j] ∧ Q (.int (if j > i then j else i)) H
theorem boot_max1 : bootBuiltins "max" = some (.builtin "max") := by decide +kernel
theorem ce_max {p q : Pos} (hm : ∀ j, (X j).mg "max" = none) (ha : CE X σ H a (.int i)) (hb : CE X σ H b (.int j)) (hc : ∀ j, (X j).calm = true := by intro _; rfl) (hg : ∀ j, Gl (X j) "max" := by intro _; rfl)
    (hs : ∀ j, starEach [a, b] (X j).env = (false, eval a (X j).env) :: starEach [b] (X j).env := by intro _; rfl) (hs2 : ∀ j, starEach [b] (X j).env = (false, eval b (X j).env) :: starEach [] (X j).env := by intro _; rfl) (hpl : ∀ j, (backTo q (starEach [b] (X j).env)).any (·.1) = false := by intro _; rfl) :
    CE X σ H (.Call (.Name "max" p) [a, b] [] q) (.int (if j > i then j else i)) :=
  ce_callB (r := rMaxA) (fun j => call_max2 (hc j)) hm boot_max1 (ca_cons ha (ca_cons hb ca_nil hs2) hs) (fun H1 vs _ as Q k => by
    obtain ⟨v, w, rfl, av, aw⟩ := as.two
    exact ⟨i, j, by rw [av.int, aw.int], k _ H1 (Same.refl _) (.im (.int _))⟩) hg (by decide) (by decide) hs hpl
/-- list(a tuple) -/
def rListF : List V → Hp → VK → Prop := fun xs H Q => ∃ p ys, xs = [.ref p] ∧ TupF H p ys ∧ ∀ l, H l = none → Q (.ref l) (upd H l (.lst ys))
theorem call_listF {X : Cx} : CallR X (.type "list") rListF := fun pins s σ H xs us Q I r ⟨p, ys, e, h, q⟩ => call_list_of pins s σ H xs us Q I r ⟨p, ys, e, .inr h.sq, q⟩
def spMembersL (K : PySem.W.Frag) : Sp := fun vs H Q _ => ∃ (H0 : Hp) (r : Addr) (m : Int), vs = [.ref r, .int m] ∧ 1 ≤ m ∧ m ≤ 1000 ∧ RowAt K H0 H r ∧ ∀ (v : Int) (H' : Hp), 0 ≤ v → v < m → Off r H H' → RowAt K H0 H' r → Q (.int (1 + v)) H'
theorem fn_membersL (T : Txt K mg) : Fn P w K mg base 2 "_law_members" ["_law_row", "_law_most"] (spMembersL K) := by
  refine def_fn T.d_membersL sc_membersL (fun vs H Q E ⟨_, _, _, e, _⟩ => by rw [e]; rfl) fun f cdv A outer s H vs Q E hr h => ?_
  obtain ⟨H0, r, m, rfl, hm1, hm2, R, q⟩ := h
  exact cs_retW (w_add (w_int (w_taken T 0 (fun _ => ⟨rfl, rfl, rfl, rfl, rfl⟩) (fun _ => hr) rfl R (ce_v 1 rfl (ofInt m)) hm1 hm2 fun v H' h0 h1 o r' => ⟨1, v, rfl, rfl, q v H' h0 h1 o r'⟩)))
def spPick (K : PySem.W.Frag) : Sp := fun vs H Q _ => ∃ (H0 : Hp) (r b : Addr) (xs : List V) (ds : List PyData), vs = [.ref r, .ref b] ∧ b ≠ r ∧ H b = some (.lst xs) ∧ ImAll H xs ds ∧ 1 ≤ ds.length ∧ ds.length ≤ 1000 ∧ RowAt K H0 H r ∧
  ∀ (v : V) (d : PyData) (H' : Hp), d ∈ ds → Im H' v d → Off r H H' → RowAt K H0 H' r → Q v H'
theorem fn_pickL (T : Txt K mg) : Fn P w K mg base 2 "_law_pick" ["_law_row", "_law_things"] (spPick K) := by
  refine def_fn T.d_pickL sc_pickL (fun vs H Q E ⟨_, _, _, _, _, e, _⟩ => by rw [e]; rfl) fun f cdv A outer s H vs Q E hr h => ?_
  obtain ⟨H0, r, b, xs, ds, rfl, hbr, hb, im, hl1, hl2, R, q⟩ := h
  refine cs_retW (w_ix (w_v 1 rfl (w_taken T 0 (fun _ => ⟨rfl, rfl, rfl, rfl, rfl⟩) (fun _ => hr) rfl R (ce_lenL (fun _ => T.b_len) (ce_v 1 rfl (.lst hb im))) (by omega) (by omega) fun v H' h0 h1 o r' => ?_)))
  have hb' := o _ _ hbr hb
  obtain ⟨k, ek⟩ : ∃ k : Nat, v = (k : Int) := ⟨v.toNat, by omega⟩
  subst ek
  have hk : k < ds.length := by omega
  obtain ⟨x, hx, ix⟩ := im.get (List.getElem?_eq_getElem hk)
  exact ⟨b, xs, _, x, rfl, rfl, .inl hb', atI_nat hx, q x _ H' (List.getElem_mem hk) (ix.mono (R.ts o)) o r'⟩
/-! ### a bent table, drawn -/
structure TabB (n : Nat) (c : Int) (t : List Int) : Prop where
  len : t.length = 2 ^ n
  bd : ∀ x ∈ t, 0 ≤ x ∧ x ≤ c
  zero : t.getD 0 0 = 0
def addB (n : Nat) (t : List Int) (p : Nat → Bool) (a : Int) : List Int := (List.range (2 ^ n)).map fun k => t.getD k 0 + (if p k = true then a else 0)
theorem TabB.add {n : Nat} {c a M : Int} {t : List Int} {p : Nat → Bool} (h : TabB n c t) (h0 : 0 ≤ a) (h1 : a ≤ M) (hp : p 0 = false) : TabB n (c + M) (addB n t p a) where
  len := by unfold addB; rw [List.length_map, List.length_range]
  bd := fun x hx => by
    unfold addB at hx
    obtain ⟨k, hk, rfl⟩ := List.mem_map.mp hx
    have hk := List.mem_range.mp hk
    have hb := h.bd (t.getD k 0) (by
      rw [List.getD_eq_getElem?_getD, List.getElem?_eq_getElem (by rw [h.len]; exact hk)]
      exact List.getElem_mem _)
    split <;> omega
  zero := by
    unfold addB
    rw [List.getD_eq_getElem?_getD, List.getElem?_map, List.getElem?_range (Nat.two_pow_pos n)]
    show t.getD 0 0 + (if p 0 = true then a else 0) = 0
    rw [hp, h.zero]
    rfl
theorem TabB.tab {n : Nat} {c : Int} {t : List Int} (h : TabB n c t) (h1 : 1 ≤ n) (h5 : n ≤ 5) (hc : c ≤ 9999) : Tab n t := ⟨h1, h5, h.len, fun x hx => by have := h.bd x hx; omega, h.zero⟩
theorem TabB.start (n : Nat) : TabB n 0 (List.replicate (2 ^ n) 0) where
  len := List.length_replicate
  bd := fun x hx => by rw [List.eq_of_mem_replicate hx]; exact ⟨Int.le_refl _, Int.le_refl _⟩
  zero := by
    rw [List.getD_eq_getElem?_getD, List.getElem?_replicate]
    split <;> rfl
theorem band0 : ∀ u : Nat, u < 40 → Builtin.bitAnd 0 ((u : Nat) : Int) = 0 := by decide +kernel
def spTouched (K : PySem.W.Frag) : Sp := fun vs H Q _ => ∃ (H0 : Hp) (r : Addr) (n : Nat) (M : Int), vs = [.ref r, .int (n : Nat), .int M] ∧ 1 ≤ n ∧ n ≤ 5 ∧ 1 ≤ M ∧ M ≤ 900 ∧ RowAt K H0 H r ∧
  ∀ (v : V) (t : List Int) (H' : Hp), TabB n 8091 t → Im H' v (tI t) → Off r H H' → RowAt K H0 H' r → Q v H'
theorem lI_app (l : List Int) : lI l = .list (l.map .int) := rfl
theorem fn_touchedL (T : Txt K mg) : Fn P w K mg base 2 "_law_touched" ["_law_row", "_law_many", "_law_most"] (spTouched K) := by
  refine def_fn T.d_touchedL sc_touchedL (fun vs H Q E ⟨_, _, _, _, e, _⟩ => by rw [e]; rfl) fun f cdv A outer s H vs Q E hr h => ?_
  obtain ⟨H0, r, n, M, rfl, hn1, hn5, hM1, hM2, R, q⟩ := h
  have h32 := pow32 hn5
  have hpn : 2 ^ 1 ≤ 2 ^ n := Nat.pow_le_pow_right (by decide) hn1
  have eshl : (1 : Int) * 2 ^ (((n : Nat) : Int)).toNat = ((2 ^ n : Nat) : Int) := by rw [Int.toNat_natCast, two_pow_int]
  -- found = [0] * (1 << many)
  refine cs_setN 3 sc_touchedL.nd ((cn_rep (cn_lst (ca_cons ce_int ca_nil)).ce ((ce_shl ce_int (ce_v 1 rfl (ofInt _)) (cpow (by omega))).eq (congrArg PyData.int eshl)) (by omega) (by omega)).eq (es := (List.replicate (2 ^ n) (0 : Int)).map .int) (by rw [Int.toNat_natCast, List.map_replicate])) fun p xs H1 hp s1 h1 im => ?_
  have exs := im.int_eq
  subst exs
  have R1 := R.keep s1
  -- the bills
  refine cs_forW (T.b_range) (pg_name (i := 4) sc_touchedL.nd rfl (Or.inl rfl)) PassesOwn.never (wa_cons (w_taken T 0 (fun _ => ⟨rfl, rfl, rfl, rfl, rfl⟩) (fun _ => hr) rfl R1 ce_int (by decide) (by decide) fun v H2 v0 v5 o2 R2 => wa_nil ⟨v.toNat, by rw [Int.toNat_of_nonneg v0], by omega, ?_⟩))
  refine ⟨fun i σ' H' => ∃ (fp : Addr) (t : List Int) (b4 b5 b6 : Option V), σ' = [some (.ref r), some (.int (n : Nat)), some (.int M), some (.ref fp), b4, b5, b6, none, none] ∧ fp ≠ r ∧ H' fp = some (.lst (t.map V.int)) ∧ TabB n (((i : Nat) : Int) * (M - 1)) t ∧ Off r H H' ∧ RowAt K H0 H' r,
    ⟨p, _, none, none, none, rfl, (R.ne hp).symm, o2 _ _ (R.ne hp).symm h1, by rw [show (((0 : Nat) : Int) * (M - 1)) = 0 from Int.zero_mul _]; exact TabB.start n, (Off.of s1).trans o2, R2⟩, fun i σ' H' hi hpv => ?_, fun σ' H' hpv => ?_⟩
  · obtain ⟨fp, t, b4, b5, b6, rfl, hfr, hfp, hT, off, R'⟩ := hpv
    -- users, cost = 1 + taken(..), taken(..)
    refine cs_tup2 5 6 sc_touchedL.nd (wa_cons (w_add (w_int (w_taken T 0 (fun _ => ⟨rfl, rfl, rfl, rfl, rfl⟩) (fun _ => hr) rfl R' ((ce_sub (ce_shl ce_int (ce_v 1 rfl (ofInt _)) (cpow (by omega))) ce_int).eq (congrArg PyData.int (congrArg (fun z : Int => z - 1) eshl))) (by omega) (by omega) fun u H3 u0 u1 o3 R3 => ⟨1, u, rfl, rfl, ?_⟩)))
      ) (hx := Or.inr rfl) (hy := Or.inr rfl)
    refine wa_cons (w_taken T 0 (fun _ => ⟨rfl, rfl, rfl, rfl, rfl⟩) (fun _ => hr) rfl R3 (ce_v 2 rfl (ofInt M)) hM1 (by omega) fun c H4 c0 c1 o4 R4 => wa_nil ⟨_, _, rfl, fun tp ob htp => ?_⟩)
    have hfp4 := o4 _ _ hfr (o3 _ _ hfr hfp)
    have s5 : Same H4 (upd H4 tp (.frz ob (.tup [.int (1 + u), .int c]))) := same_new htp _
    have R5 := R4.keep s5
    have off5 := ((off.trans o3).trans o4).trans (Off.of s5)
    have hfp5 := s5 _ _ hfp4
    generalize upd H4 tp (.frz ob (.tup [.int (1 + u), .int c])) = H5 at s5 R5 off5 hfp5
    obtain ⟨un, eun⟩ : ∃ un : Nat, 1 + u = ((un : Nat) : Int) := ⟨(1 + u).toNat, by omega⟩
    rw [eun]
    have hun : un < 40 := by omega
    -- found = [..]
    refine cs_setN 3 sc_touchedL.nd ((cn_map 8 (fun d => .int (t.getD (dN d) 0 + (if decide (0 < Builtin.bitAnd ((dN d : Nat) : Int) ((un : Nat) : Int)) = true then c else 0))) (ci_rng1 (n := 2 ^ n) (fun _ => T.b_range) ((ce_shl ce_int (ce_v 1 rfl (ofInt _)) (cpow (by omega))).eq (congrArg PyData.int eshl)) (by omega)) (by rw [rgD_len]; omega) (fun j d v H6 hd s6 a6 => ⟨rfl, ?_⟩) (fun _ => sc_touchedL.nd) (fun _ => blkOk_by (N := N_touchedL) (sc := defScope s_touchedL) (by decide +kernel))).eq (es := (addB n t (fun k => decide (0 < Builtin.bitAnd ((k : Nat) : Int) ((un : Nat) : Int))) c).map .int) ?_) (fun p6 xs6 H6 hp6 s6 h6 im6 => cs_nil ?_) (hx := Or.inr rfl)
    · obtain ⟨hj, rfl⟩ := rg0_at hd
      have e6 := a6.int
      subst e6
      rw [show dN (.int ((j : Nat) : Int)) = j from Int.toNat_natCast j]
      have hft : Ar H6 (.ref fp) (lI t) := .lst (s6 _ _ hfp5) (ImAll.ints t)
      exact (ce_add (ce_ixL (k := j) (ce_v 3 rfl hft) (ce_v 8 rfl (ofInt _)) (d := .int (t.getD j 0)) (by
          rw [List.getElem?_map, List.getD_eq_getElem?_getD, List.getElem?_eq_getElem (by rw [hT.len]; exact hj)]
          rfl))
        ((ce_if (k := decide (0 < Builtin.bitAnd ((j : Nat) : Int) ((un : Nat) : Int))) (ct_gt (ce_intI (fun _ => T.b_int) (ce_band (ce_v 8 rfl (ofInt _)) (ce_v 5 rfl (ofInt _)))) ce_int) (ce_v 6 rfl (ofInt c)) ce_int).eq (da := .int (if decide (0 < Builtin.bitAnd ((j : Nat) : Int) ((un : Nat) : Int)) = true then c else 0)) (by split <;> rfl)))
    · rw [rg0_map, List.map_map]
      unfold addB
      rw [List.map_map]
      refine List.map_congr_left fun k _ => ?_
      show PyData.int (t.getD (dN (.int ((k : Nat) : Int))) 0 + _) = _
      rw [show dN (.int ((k : Nat) : Int)) = k from Int.toNat_natCast k]
      rfl
    · have e6 := im6.int_eq
      subst e6
      refine ⟨p6, _, _, _, _, rfl, (R5.ne hp6).symm, h6, ?_, off5.trans (Off.of s6), R5.keep s6⟩
      have ht := hT.add (a := c) (M := M - 1) (p := fun k => decide (0 < Builtin.bitAnd ((k : Nat) : Int) ((un : Nat) : Int))) c0 (by omega) (by
        show decide (0 < Builtin.bitAnd (((0 : Nat) : Nat) : Int) ((un : Nat) : Int)) = false
        rw [show (((0 : Nat) : Nat) : Int) = 0 from rfl, band0 un hun]
        rfl)
      have ec : (((i : Nat) : Int) * (M - 1)) + (M - 1) = (((i + 1 : Nat) : Int) * (M - 1)) := by
        rw [Int.natCast_add, Int.add_mul]
        show _ = _ + 1 * (M - 1)
        rw [Int.one_mul]
      rw [← ec]
      exact ht
  · obtain ⟨fp, t, b4, b5, b6, rfl, hfr, hfp, hT, off, R'⟩ := hpv
    -- what members cost alone
    refine cs_for (ci_rng1 (n := n) (fun _ => T.b_range) (ce_v 1 rfl (ofInt _)) (by omega)) (pg_name (i := 7) sc_touchedL.nd rfl (Or.inr rfl)) PassesOwn.never fun H3 Gd s3 gk => ?_
    refine ⟨fun i σ' H' => ∃ (fp : Addr) (t : List Int) (b4 b5 b6 b7 : Option V), σ' = [some (.ref r), some (.int (n : Nat)), some (.int M), some (.ref fp), b4, b5, b6, b7, none] ∧ fp ≠ r ∧ H' fp = some (.lst (t.map V.int)) ∧ TabB n (((v.toNat + i : Nat) : Int) * (M - 1)) t ∧ Off r H H' ∧ RowAt K H0 H' r,
      ⟨fp, t, _, _, _, _, rfl, hfr, s3 _ _ hfp, hT, off.trans (Off.of s3), R'.keep s3⟩, fun i σ' H' _ => gk H', fun i d u σ' H' hd hpv au => ?_, fun σ' H' hpv => ?_⟩
    · obtain ⟨fp, t, b4, b5, b6, b7, rfl, hfr, hfp, hT, off, R'⟩ := hpv
      obtain ⟨hi, rfl⟩ := rg0_at hd
      have eu := au.int
      subst eu
      refine cs_setW 6 sc_touchedL.nd (w_taken T 0 (fun _ => ⟨rfl, rfl, rfl, rfl, rfl⟩) (fun _ => hr) rfl R' (ce_v 2 rfl (ofInt M)) hM1 (by omega) fun c H4 c0 c1 o4 R4 => ?_) (hx := Or.inr rfl)
      have hfp4 := o4 _ _ hfr hfp
      refine cs_setN 3 sc_touchedL.nd ((cn_map 8 (fun d => .int (t.getD (dN d) 0 + (if decide (((dN d : Nat) : Int) / 2 ^ i % 2 = 1) = true then c else 0))) (ci_rng1 (n := 2 ^ n) (fun _ => T.b_range) ((ce_shl ce_int (ce_v 1 rfl (ofInt _)) (cpow (by omega))).eq (congrArg PyData.int eshl)) (by omega)) (by rw [rgD_len]; omega) (fun j d v H6 hd s6 a6 => ⟨rfl, ?_⟩) (fun _ => sc_touchedL.nd) (fun _ => blkOk_by (N := N_touchedL) (sc := defScope s_touchedL) (by decide +kernel))).eq (es := (addB n t (fun k => decide (((k : Nat) : Int) / 2 ^ i % 2 = 1)) c).map .int) ?_) (fun p6 xs6 H6 hp6 s6 h6 im6 => cs_nil ?_) (hx := Or.inr rfl)
      · obtain ⟨hj, rfl⟩ := rg0_at hd
        have e6 := a6.int
        subst e6
        rw [show dN (.int ((j : Nat) : Int)) = j from Int.toNat_natCast j]
        have hft : Ar H6 (.ref fp) (lI t) := .lst (s6 _ _ hfp4) (ImAll.ints t)
        exact (ce_add (ce_ixL (k := j) (ce_v 3 rfl hft) (ce_v 8 rfl (ofInt _)) (d := .int (t.getD j 0)) (by
            rw [List.getElem?_map, List.getD_eq_getElem?_getD, List.getElem?_eq_getElem (by rw [hT.len]; exact hj)]
            rfl))
          ((ce_if (k := decide (((j : Nat) : Int) / 2 ^ i % 2 = 1)) ((ct_eqI (ce_mod (ce_intI (fun _ => T.b_int) (ce_shr (ce_v 8 rfl (ofInt ((j : Nat) : Int))) (ce_v 7 rfl (ofInt ((i : Nat) : Int))) (by omega))) ce_int (by decide)) ce_int).eq (by rw [Int.toNat_natCast])) (ce_v 6 rfl (ofInt c)) ce_int).eq (da := .int (if decide (((j : Nat) : Int) / 2 ^ i % 2 = 1) = true then c else 0)) (by split <;> rfl)))
      · rw [rg0_map, List.map_map]
        unfold addB
        rw [List.map_map]
        refine List.map_congr_left fun k _ => ?_
        show PyData.int (t.getD (dN (.int ((k : Nat) : Int))) 0 + _) = _
        rw [show dN (.int ((k : Nat) : Int)) = k from Int.toNat_natCast k]
        rfl
      · have e6 := im6.int_eq
        subst e6
        refine ⟨p6, _, _, _, _, _, rfl, (R4.ne hp6).symm, h6, ?_, (off.trans o4).trans (Off.of s6), R4.keep s6⟩
        have ht := hT.add (a := c) (M := M - 1) (p := fun k => decide (((k : Nat) : Int) / 2 ^ i % 2 = 1)) c0 (by omega) (by
          show decide ((((0 : Nat) : Nat) : Int) / 2 ^ i % 2 = 1) = false
          rw [show (((0 : Nat) : Nat) : Int) = 0 from rfl, Int.zero_ediv]
          rfl)
        have ec : (((v.toNat + i : Nat) : Int) * (M - 1)) + (M - 1) = (((v.toNat + (i + 1) : Nat) : Int) * (M - 1)) := by
          rw [← Nat.add_assoc, Int.natCast_add (v.toNat + i) 1, Int.add_mul]
          show _ = _ + 1 * (M - 1)
          rw [Int.one_mul]
        rw [← ec]
        exact ht
    · obtain ⟨fp, t, b4, b5, b6, b7, rfl, hfr, hfp, hT, off, R'⟩ := hpv
      rw [rgD_len] at hT
      refine cs_ret (ce_tupleL (fun _ => T.b_tuple) (ce_v 3 rfl (.lst hfp (ImAll.ints t)))) fun z H4 s4 a4 => ?_
      refine q z t H4 ⟨hT.len, fun x hx => ?_, hT.zero⟩ (a4.toIm rfl) (off.trans (Off.of s4)) (R'.keep s4)
      have hb := hT.bd x hx
      refine ⟨hb.1, Int.le_trans hb.2 ?_⟩
      have h9 : ((v.toNat + n : Nat) : Int) ≤ 9 := by omega
      have h899 : M - 1 ≤ 899 := by omega
      exact Int.le_trans (Int.mul_le_mul_of_nonneg_right h9 (by omega)) (Int.mul_le_mul_of_nonneg_left h899 (by decide))
end
end Shr


namespace Shr
open PySem PySem.Spec L2
section
variable {ι : Type} {X : ι → Cx} {σ : L2.St} {H H' : Hp} {e a b c : Expr} {d da db : PyData} {pos : Pos} {i j : Int} {Q : VK}
variable {P : Program} {w : World} {K : PySem.W.Frag} {mg : Str → Option Value} {base : Heap}
/-- _law_pick(_law_row, e), e a list that is not the row -/
theorem w_pick (T : Txt K mg) (k : Nat) {x : Str} {p p2 : Pos} {H0 : Hp} {r : Addr} {ds : List PyData} (hX : ∀ j, (X j).prog = P ∧ (X j).w = w ∧ (X j).K = K ∧ (X j).mg = mg ∧ (X j).base = base) (hr : ∀ j, Room 2 (X j).A) (hs : σ[k]? = some (some (.ref r)))
    (hb : W X σ H b fun v H1 => ∃ b xs, v = .ref b ∧ b ≠ r ∧ H1 b = some (.lst xs) ∧ ImAll H1 xs ds ∧ Off r H H1 ∧ RowAt K H0 H1 r) (h1 : 1 ≤ ds.length) (h2 : ds.length ≤ 1000) (q : ∀ (v : V) (d : PyData) (H' : Hp), d ∈ ds → Im H' v d → Off r H H' → RowAt K H0 H' r → Q v H')
    (hN : ∀ j, (X j).N[k]? = some x := by intro _; rfl) (hvi : ∀ j, Vis (X j).env.scope x := by intro _; first | exact Or.inl rfl | exact Or.inr (Or.inl rfl) | exact Or.inr (Or.inr rfl)) (hd : (x == ("__debug__" : Str)) = false := by decide) (hcd : (x == ("__classdict__" : Str)) = false := by decide)
    (hg : ∀ j, Gl (X j) "_law_pick" := by intro _; rfl) (he : ∀ j, starEach [.Name x p2, b] (X j).env = (false, eval (.Name x p2) (X j).env) :: starEach [b] (X j).env := by intro _; rfl) (he2 : ∀ j, starEach [b] (X j).env = (false, eval b (X j).env) :: starEach [] (X j).env := by intro _; rfl)
    (hpl : ∀ j, (backTo pos (starEach [b] (X j).env)).any (·.1) = false := by intro _; rfl) : W X σ H (.Call (.Name "_law_pick" p) [.Name x p2, b] [] pos) Q :=
  w_call (fn_pickL T (P := P) (w := w) (base := base)) hX hr (wa_cons (w_v k hs (wa_cons (hb.mono fun v H1 ⟨b, xs, e1, hbr, hb, im, o1, R1⟩ => wa_nil ⟨H0, r, b, xs, ds, by rw [e1]; rfl, hbr, hb, im, h1, h2, R1, fun v d H2 hd iv o2 R2 => q v d H2 hd iv (o1.trans o2) R2⟩) he2) hN hvi hd hcd) he) hg (by decide) he hpl
/-- tuple(e), e a list -/
theorem w_tupL {p q : Pos} (hm : ∀ j, (X j).mg "tuple" = none) (ha : W X σ H a fun v H1 => ∃ b xs ds, v = .ref b ∧ H1 b = some (.lst xs) ∧ ImAll H1 xs ds ∧ ∀ w H2, Same H1 H2 → Im H2 w (.tuple ds) → Q w H2)
    (hg : ∀ j, Gl (X j) "tuple" := by intro _; rfl) (hs : ∀ j, starEach [a] (X j).env = (false, eval a (X j).env) :: starEach [] (X j).env := by intro _; rfl) (hpl : ∀ j, (backTo q (starEach [] (X j).env)).any (·.1) = false := by intro _; rfl) : W X σ H (.Call (.Name "tuple" p) [a] [] q) Q :=
  w_callTy (fun _ => call_tupA) hm boot_tuple (wa_cons (ha.mono fun v H1 ⟨b, xs, ds, e1, hb, im, k⟩ => wa_nil ⟨b, xs, by rw [e1], hb, fun l o hl ho => k _ _ (same_new hl _) (.tup (.new ho) (im.mono (ts_of (same_new hl _))))⟩) hs) hg (by decide) (by decide) hs hpl
/-- [a drawn int for x in range(n)] -/
theorem w_draws {x : Str} {elt n : Expr} {scope : Scope} {tpos p rpos : Pos} {N : Nat} {M : Int} {H0 : Hp} {r : Addr} (k : Nat) (hm : ∀ j, (X j).mg "range" = none) (R : RowAt K H0 H r) (hn : CE X σ H n (.int (N : Nat))) (hN : N ≤ 1000)
    (he : ∀ i H2, RowAt K H0 H2 r → W (blkAt X scope) ((σ.set k none).set k (some (.int ((i : Nat) : Int)))) H2 elt fun y H3 => ∃ z, y = .int z ∧ 0 ≤ z ∧ z < M ∧ Off r H2 H3 ∧ RowAt K H0 H3 r)
    (q : ∀ (b : Addr) (l : List Int) (H' : Hp), l.length = N → (∀ z ∈ l, 0 ≤ z ∧ z < M) → b ≠ r → H' b = some (.lst (l.map V.int)) → Off r H H' → RowAt K H0 H' r → Q (.ref b) H')
    (nd : ∀ j, (X j).N.Nodup) (ok : ∀ j, BlkOk (X j).N (X j).env.scope scope [(x, k)]) (hgk : ∀ j, (X j).N[k]? = some x := by intro _; rfl) (hgl : ∀ q, Loc (blkAt X scope q).env.scope x := by intro _; exact Or.inl rfl) (hgf : ∀ q, (blkAt X scope q).env.scope.names.lookup x = some .local := by intro _; rfl)
    (hg : ∀ j, Gl (X j) "range" := by intro _; rfl) (hs1 : ∀ j, starEach [n] (X j).env = (false, eval n (X j).env) :: starEach [] (X j).env := by intro _; rfl)
    (hc : ∀ j, (X j).calm = true := by intro _; rfl) (hs : ∀ j x, foldedSetIterable (.Call (.Name "range" p) [n] [] rpos) (X j).env x = pure x := by intro _ _; rfl) : W X σ H (.ListComp elt [⟨.Name x tpos, .Call (.Name "range" p) [n] [] rpos, [], 0⟩] scope pos) Q := by
  refine w_lcR k hm (wa_cons (w_ce hn fun v H1 s1 av => wa_nil ⟨N, by rw [av.int], by omega, fun D hD => ?_⟩) hs1) nd ok hgk hgl hgf hg hs1 hc hs
  have R1 := R.keep s1
  have hDr : D ≠ r := (R1.ne hD).symm
  have sD : Same H1 (upd H1 D (.lst [])) := same_new hD _
  refine ⟨fun i H2 => ∃ l : List Int, l.length = i ∧ (∀ z ∈ l, 0 ≤ z ∧ z < M) ∧ H2 D = some (.lst (l.map V.int)) ∧ (∀ b o, b ≠ r → b ≠ D → H1 b = some o → H2 b = some o) ∧ RowAt K H0 H2 r,
    ⟨[], rfl, (fun z hz => nomatch hz), upd_same, fun b o hb hb2 e => sD _ _ e, R1.keep sD⟩, fun i H2 hi ⟨l, hl, hz, hd, hk, R2⟩ => ?_, fun H2 ⟨l, hl, hz, hd, hk, R2⟩ => ?_⟩
  · refine (he i H2 R2).mono fun y H3 ⟨z, e1, z0, z1, o3, R3⟩ => ?_
    subst e1
    have hd3 := o3 _ _ hDr hd
    refine ⟨l.map V.int, hd3, by rw [List.length_map, hl]; omega, l ++ [z], by rw [List.length_append, hl]; rfl, fun u hu => ?_, by rw [List.map_append]; exact upd_same, fun b o hb hb2 e => by rw [upd_ne hb2]; exact o3 _ _ hb (hk b o hb hb2 e), ?_⟩
    · rcases List.mem_append.mp hu with hu | hu
      · exact hz u hu
      · rw [List.mem_singleton.mp hu]; exact ⟨z0, z1⟩
    · obtain ⟨sa, ns, i', st, rest, e, hsq, b1, b2⟩ := R3.ex
      refine ⟨R3.new, fun b o e => ?_, sa, ns, i', st, rest, by rw [upd_ne hDr.symm]; exact e, hsq, b1, b2⟩
      have hbD : b ≠ D := fun z => by
        subst z
        rw [R1.same _ _ e] at hD
        cases hD
      rw [upd_ne hbD]
      exact R3.same _ _ e
  · refine q D l H2 hl hz hDr hd (fun b o hb e => ?_) R2
    have e1 := s1 _ _ e
    exact hk b o hb (ne_of_none e1 hD) e1
end
section
variable {P : Program} {w : World} {K : PySem.W.Frag} {mg : Str → Option Value} {base : Heap}
theorem grp_size : ∀ n, n ≤ 5 → ∀ m, m < 2 ^ n → 1 ≤ m → 1 ≤ (grp m).length ∧ (grp m).length ≤ n := by
  have h : ∀ n, n < 6 → ∀ m, m < 32 → m < 2 ^ n → 1 ≤ m → 1 ≤ (grp m).length ∧ (grp m).length ≤ n := by decide +kernel
  exact fun n hn m hm h1 => h n (by omega) m (Nat.lt_of_lt_of_le hm (pow32 hn)) hm h1
theorem TabB.set {n k : Nat} {c c' z : Int} {t : List Int} (h : TabB n c t) (hc : c ≤ c') (h0 : 0 ≤ z) (h1 : z ≤ c') (hk : k ≠ 0) : TabB n c' (t.set k z) where
  len := by rw [List.length_set]; exact h.len
  bd := fun x hx => by
    rcases List.mem_or_eq_of_mem_set hx with hx | hx
    · have := h.bd x hx
      omega
    · rw [hx]; exact ⟨h0, h1⟩
  zero := by
    have := h.zero
    rw [List.getD_eq_getElem?_getD] at this ⊢
    rw [List.getElem?_set_ne hk]
    exact this
theorem Tab.cons {n : Nat} {l : List Int} (h1 : 1 ≤ n) (h5 : n ≤ 5) (hl : l.length = 2 ^ n - 1) (hb : ∀ z ∈ l, 0 ≤ z ∧ z < 900) : Tab n (0 :: l) where
  n1 := h1
  n5 := h5
  len := by
    have := Nat.two_pow_pos n
    rw [List.length_cons, hl]
    omega
  bd := fun x hx => by
    rcases List.mem_cons.mp hx with e | hx
    · rw [e]; decide
    · have := hb x hx
      omega
  zero := rfl
theorem boot_list1 : bootBuiltins "list" = some (.type "list") := by decide +kernel
def spTable (K : PySem.W.Frag) : Sp := fun vs H Q _ => ∃ (H0 : Hp) (r : Addr) (n : Nat), vs = [.ref r, .int (n : Nat)] ∧ 1 ≤ n ∧ n ≤ 5 ∧ RowAt K H0 H r ∧
  ∀ (v : V) (t : List Int) (H' : Hp), Tab n t → Im H' v (tI t) → Off r H H' → RowAt K H0 H' r → Q v H'
theorem fn_tableL (T : Txt K mg) : Fn P w K mg base 3 "_law_table" ["_law_row", "_law_many"] (spTable K) := by
  refine def_fn T.d_tableL sc_tableL (fun vs H Q E ⟨_, _, _, e, _⟩ => by rw [e]; rfl) fun f cdv A outer s H vs Q E hr h => ?_
  obtain ⟨H0, r, n, rfl, hn1, hn5, R, q⟩ := h
  have h32 := pow32 hn5
  have hpn : 2 ^ 1 ≤ 2 ^ n := Nat.pow_le_pow_right (by decide) hn1
  have eshl : (1 : Int) * 2 ^ (((n : Nat) : Int)).toNat = ((2 ^ n : Nat) : Int) := by rw [Int.toNat_natCast, two_pow_int]
  have eshl1 : (1 : Int) * 2 ^ (((n : Nat) : Int)).toNat - 1 = ((2 ^ n - 1 : Nat) : Int) := by rw [eshl]; omega
  have hr1 : ∀ {A : Around}, Room 2 A → Room 1 A := fun h => h.mono (by decide)
  -- way, most = taken(row, 6), pick(row, [3, 12, 100, 900])
  refine cs_tup2 2 3 sc_tableL.nd (wa_cons (w_taken T 0 (fun _ => ⟨rfl, rfl, rfl, rfl, rfl⟩) (fun _ => hr1 hr) rfl R ce_int (by decide) (by decide) fun way H1 w0 w6 o1 R1 => ?_)) (hx := Or.inl rfl) (hy := Or.inr rfl)
  refine wa_cons (w_pick T 0 (ds := [.int 3, .int 12, .int 100, .int 900]) (fun _ => ⟨rfl, rfl, rfl, rfl, rfl⟩) (fun _ => hr) rfl (w_cn (cn_lst (ca_cons ce_int (ca_cons ce_int (ca_cons ce_int (ca_cons ce_int ca_nil))))) fun b xs H2 hb s2 h2 im => ⟨b, xs, rfl, (R1.ne hb).symm, h2, im, Off.of s2, R1.keep s2⟩) (by decide) (by decide) fun mv md H3 hmd imd o3 R3 => wa_nil ⟨_, _, rfl, fun tp ob htp => ?_⟩)
  obtain ⟨M, rfl, hM1, hM2⟩ : ∃ M : Int, mv = .int M ∧ 1 ≤ M ∧ M ≤ 900 := by
    rcases List.mem_cons.mp hmd with e | hmd
    · subst e; exact ⟨3, imd.int_eq, by decide, by decide⟩
    · rcases List.mem_cons.mp hmd with e | hmd
      · subst e; exact ⟨12, imd.int_eq, by decide, by decide⟩
      · rcases List.mem_cons.mp hmd with e | hmd
        · subst e; exact ⟨100, imd.int_eq, by decide, by decide⟩
        · rw [List.mem_singleton] at hmd
          subst hmd; exact ⟨900, imd.int_eq, by decide, by decide⟩
  have s4 : Same H3 (upd H3 tp (.frz ob (.tup [.int way, .int M]))) := same_new htp _
  have R4 := R3.keep s4
  have o4 := (o1.trans o3).trans (Off.of s4)
  generalize upd H3 tp (.frz ob (.tup [.int way, .int M])) = H4 at s4 R4 o4
  -- way 0
  refine cs_if (k := decide (way = 0)) (ct_eqI (ce_v 2 rfl (ofInt way)) ce_int) (fun _ H5 s5 => ?_) fun _ H5 s5 => cs_nil ?_
  · have R5 := R4.keep s5
    refine cs_retW (w_bin (fun _ => op_catF) (w_ce (ce_tup (ca_cons ce_int ca_nil)) fun x H6 s6 ax => w_tupL (fun _ => T.b_tuple) (w_draws 7 (M := M) (N := 2 ^ n - 1) (fun _ => T.b_range) (R5.keep s6) ((ce_sub (ce_shl ce_int (ce_v 1 rfl (ofInt _)) (cpow (by omega))) ce_int).eq (congrArg PyData.int eshl1)) (by omega) (fun i H7 R7 => w_taken T 0 (fun _ => ⟨rfl, rfl, rfl, rfl, rfl⟩) (fun _ => hr1 hr) rfl R7 (ce_v 3 rfl (ofInt M)) hM1 (by omega) fun z H8 z0 z1 o8 R8 => ⟨z, rfl, z0, z1, o8, R8⟩) (fun b l H7 hl hz hbr hb o7 R7 => ⟨b, _, _, rfl, hb, ImAll.ints l, fun y H8 s8 iy => ?_⟩) (fun _ => sc_tableL.nd) (fun _ => blkOk_by (N := N_tableL) (sc := defScope s_tableL) (by decide +kernel)))))
    have o8 := ((o4.trans (Off.of (s5.trans s6))).trans o7).trans (Off.of s8)
    have R8 := R7.keep s8
    obtain ⟨p1, xs1, rfl, e1, i1⟩ := (ax.toIm rfl).tupE
    obtain ⟨p2, xs2, rfl, e2, i2⟩ := iy.tupE
    have t18 : TSt H6 H8 := (R5.keep s6).ts (o7.trans (Off.of s8))
    have exs1 := (i1.mono t18).int_eq (l := [0])
    have exs2 := i2.int_eq
    subst exs1 exs2
    have hsl : sizeLine = 16777216 := sizeLine_eq
    refine ⟨p1, p2, _, _, rfl, rfl, (let ⟨o1, e1, d1⟩ := e1; ⟨o1, t18 _ _ _ e1, d1⟩), e2, ?_, ?_, (fun z => nomatch z), fun _ p o hp ho => ?_⟩
    · rw [List.length_map, List.length_map, hl]
      show 1 + (2 ^ n - 1) ≤ _
      omega
    · intro z
      have := congrArg List.length z
      rw [List.length_map, hl] at this
      have : 2 ^ n - 1 = 0 := this
      omega
    · have s9 := same_new hp (.frz o (.tup (List.map V.int [0] ++ l.map V.int)))
      refine q (.ref p) (0 :: l) _ (Tab.cons hn1 hn5 hl fun z hz' => by have := hz z hz'; omega) ?_ (o8.trans (Off.of s9)) (R8.keep s9)
      exact .tup (.new ho) (ImAll.ints (0 :: l))
  -- ways 1 and 2
  have R5 := R4.keep s5
  have o5 := o4.trans (Off.of s5)
  refine cs_if (k := decide (way < 3)) (ct_lt (ce_v 2 rfl (ofInt way)) ce_int) (fun _ H6 s6 => ?_) fun _ H6 s6 => cs_nil ?_
  · have R6 := R5.keep s6
    refine cs_retW (w_call (fn_touchedL T (P := P) (w := w) (base := base)) (fun _ => ⟨rfl, rfl, rfl, rfl, rfl⟩) (fun _ => hr) (wa_cons (w_v 0 rfl (wa_cons (w_v 1 rfl (wa_cons (w_v 3 rfl (wa_nil ⟨H0, r, n, M, rfl, hn1, hn5, hM1, hM2, R6, fun v t H7 ht it o7 R7 => ?_⟩))))))))
    exact q v t H7 (ht.tab hn1 hn5 (by decide)) it ((o5.trans (Off.of s6)).trans o7) R7
  have R6 := R5.keep s6
  have o6 := o5.trans (Off.of s6)
  refine cs_if (k := decide (way = 3)) (ct_eqI (ce_v 2 rfl (ofInt way)) ce_int) (fun _ H7 s7 => ?_) fun _ H7 s7 => cs_nil ?_
  · have R7 := R6.keep s7
    refine cs_setW 4 sc_tableL.nd (w_draws 9 (M := M) (N := n) (fun _ => T.b_range) R7 (ce_v 1 rfl (ofInt _)) (by omega) (fun i H7 R7 => w_taken T 0 (fun _ => ⟨rfl, rfl, rfl, rfl, rfl⟩) (fun _ => hr1 hr) rfl R7 (ce_v 3 rfl (ofInt M)) hM1 (by omega) fun z H8 z0 z1 o8 R8 => ⟨z, rfl, z0, z1, o8, R8⟩) (fun b l H8 hl hz hbr hb o8 R8 => ?_) (fun _ => sc_tableL.nd) (fun _ => blkOk_by (N := N_tableL) (sc := defScope s_tableL) (by decide +kernel))) (hx := Or.inr rfl)
    have ecosts : ∀ m, m < 2 ^ n → 1 ≤ m → 0 ≤ l.getD ((grp m).length - 1) 0 ∧ l.getD ((grp m).length - 1) 0 < 900 ∧ (grp m).length - 1 < l.length := fun m hm hm1 => by
      obtain ⟨g1, g2⟩ := grp_size n hn5 m hm hm1
      have hk : (grp m).length - 1 < l.length := by omega
      have := hz (l.getD ((grp m).length - 1) 0) (by
        rw [List.getD_eq_getElem?_getD, List.getElem?_eq_getElem hk]
        exact List.getElem_mem _)
      exact ⟨by omega, by omega, hk⟩
    refine cs_ret (ce_catT (ce_tup (ca_cons ce_int ca_nil)) (ce_tupleL (fun _ => T.b_tuple) ((cn_map 7 (fun d => .int (l.getD ((grp (dN d)).length - 1) 0)) (ci_rng2 (lo := 1) (n := 2 ^ n - 1) (fun _ => T.b_range) ce_int ((ce_shl ce_int (ce_v 1 rfl (ofInt _)) (cpow (by omega))).eq (congrArg PyData.int (by rw [eshl]; omega))) (by omega) (by decide) (by decide)) (by rw [rgD_len]; omega) (fun j d v H9 hd s9 a9 => ⟨rfl, ?_⟩) (fun _ => sc_tableL.nd) (fun _ => blkOk_by (N := N_tableL) (sc := defScope s_tableL) (by decide +kernel))).eq (es := (((List.range (2 ^ n - 1)).map fun k => l.getD ((grp (1 + k)).length - 1) 0)).map .int) ?_).ce) ?_ ?_) fun v H9 s9 a9 => ?_
    · obtain ⟨hj, rfl⟩ := rg1_at hd
      have e9 := a9.int
      subst e9
      rw [show dN (.int ((1 + j : Nat) : Int)) = 1 + j from Int.toNat_natCast _]
      obtain ⟨c0, c1, c2⟩ := ecosts (1 + j) (by omega) (by omega)
      obtain ⟨g1, g2⟩ := grp_size n hn5 (1 + j) (by omega) (by omega)
      have hlt : Ar H9 (.ref b) (lI l) := .lst (s9 _ _ hb) (ImAll.ints l)
      exact ce_ixL (k := (grp (1 + j)).length - 1) (ce_v 4 rfl hlt) ((ce_sub (ce_lenT (fun _ => T.b_len) (ce_call (fn_groupL T (P := P) (w := w) (base := base)) (fun _ => ⟨rfl, rfl, rfl, rfl, rfl⟩) (fun _ => hr1 hr) (ca_cons (ce_v 7 rfl (ofInt _)) ca_nil) ⟨1 + j, by omega, rfl, rfl⟩)) ce_int).eq (congrArg PyData.int (by rw [List.length_map, List.length_map]; omega))) (by
        rw [List.getElem?_map, List.getD_eq_getElem?_getD, List.getElem?_eq_getElem c2]
        rfl)
    · unfold rgD
      rw [List.map_map, List.map_map]
      refine List.map_congr_left fun k _ => ?_
      show PyData.int (l.getD ((grp (dN (.int (1 + ((k : Nat) : Int))))).length - 1) 0) = PyData.int (l.getD ((grp (1 + k)).length - 1) 0)
      rw [show dN (.int (1 + ((k : Nat) : Int))) = 1 + k from by show (1 + ((k : Nat) : Int)).toNat = 1 + k; omega]
    · intro z
      have := congrArg List.length z
      rw [List.length_map, List.length_map, List.length_range] at this
      have : 2 ^ n - 1 = 0 := this
      omega
    · rw [List.length_map, List.length_map, List.length_range]
      show 1 + (2 ^ n - 1) ≤ 1000
      omega
    · refine q v (0 :: (List.range (2 ^ n - 1)).map fun k => l.getD ((grp (1 + k)).length - 1) 0) H9 (Tab.cons hn1 hn5 (by rw [List.length_map, List.length_range]) fun z hz' => ?_) (a9.toIm rfl) (((o6.trans (Off.of s7)).trans o8).trans (Off.of s9)) (R8.keep s9)
      obtain ⟨k, hk, rfl⟩ := List.mem_map.mp hz'
      have hk := List.mem_range.mp hk
      obtain ⟨c0, c1, c2⟩ := ecosts (1 + k) (by omega) (by omega)
      exact ⟨c0, c1⟩
  -- a bent table, then some of it moved
  have R7 := R6.keep s7
  have o7 := o6.trans (Off.of s7)
  refine cs_setW 5 sc_tableL.nd (w_callTy (fun _ => call_listF) (fun _ => T.b_list) boot_list1 (wa_cons (w_call (fn_touchedL T (P := P) (w := w) (base := base)) (fun _ => ⟨rfl, rfl, rfl, rfl, rfl⟩) (fun _ => hr) (wa_cons (w_v 0 rfl (wa_cons (w_v 1 rfl (wa_cons (w_v 3 rfl (wa_nil ⟨H0, r, n, M, rfl, hn1, hn5, hM1, hM2, R7, fun v t H8 ht it o8 R8 => wa_nil ?_⟩))))))))))
  obtain ⟨p1, xs1, rfl, e1, i1⟩ := it.tupE
  have exs := i1.int_eq
  subst exs
  refine ⟨p1, _, rfl, e1, fun fp hfp => ?_⟩
  have hfr : fp ≠ r := (R8.ne hfp).symm
  have hfn : H fp = none := by
    cases hc : H fp with
    | none => rfl
    | some o =>
      rw [(o7.trans o8) _ _ hfr hc] at hfp
      cases hfp
  have hf0 : H0 fp = none := by
    cases hc : H0 fp with
    | none => rfl
    | some o =>
      rw [R8.same _ _ hc] at hfp
      cases hfp
  have s9 := same_new hfp (.lst (t.map V.int))
  have R9 := R8.keep s9
  have o9 := (o7.trans o8).trans (Off.of s9)
  have h9 : upd H8 fp (.lst (t.map V.int)) fp = some (.lst (t.map V.int)) := upd_same
  generalize upd H8 fp (.lst (t.map V.int)) = H9 at s9 R9 o9 h9
  refine cs_forW (T.b_range) (pg_name (i := 6) sc_tableL.nd rfl (Or.inl rfl)) PassesOwn.never (wa_cons (w_add (w_int (w_taken T 0 (fun _ => ⟨rfl, rfl, rfl, rfl, rfl⟩) (fun _ => hr1 hr) rfl R9 ce_int (by decide) (by decide) fun u H10 u0 u3 o10 R10 => ⟨1, u, rfl, rfl, wa_nil ⟨(1 + u).toNat, by rw [Int.toNat_of_nonneg (by omega)], by omega, ?_⟩⟩))))
  refine ⟨fun i σ' H' => ∃ (t : List Int) (b6 b7 b8 : Option V), σ' = [some (.ref r), some (.int (n : Nat)), some (.int way), some (.int M), none, some (.ref fp), b6, b7, b8, none] ∧ H' fp = some (.lst (t.map V.int)) ∧ TabB n (8091 + ((i : Nat) : Int) * 450) t ∧ Off r H H' ∧ RowAt K H0 H' r,
    ⟨t, none, none, none, rfl, o10 _ _ hfr h9, (by rw [show (8091 : Int) + ((0 : Nat) : Int) * 450 = 8091 from rfl]; exact ht), o9.trans o10, R10⟩, fun i σ' H' hi hpv => ?_, fun σ' H' hpv => ?_⟩
  · obtain ⟨t, b6, b7, b8, rfl, hf, ht, off, R'⟩ := hpv
    refine cs_setW 7 sc_tableL.nd (w_add (w_int (w_taken T 0 (fun _ => ⟨rfl, rfl, rfl, rfl, rfl⟩) (fun _ => hr1 hr) rfl R' ((ce_sub (ce_shl ce_int (ce_v 1 rfl (ofInt _)) (cpow (by omega))) ce_int).eq (congrArg PyData.int eshl1)) (by omega) (by omega) fun mk H11 m0 m1 o11 R11 => ⟨1, mk, rfl, rfl, ?_⟩))) (hx := Or.inl rfl)
    obtain ⟨m, em⟩ : ∃ m : Nat, 1 + mk = ((m : Nat) : Int) := ⟨(1 + mk).toNat, by omega⟩
    rw [em]
    have hm1 : 1 ≤ m := by omega
    have hm2 : m < 2 ^ n := by omega
    refine cs_setW 8 sc_tableL.nd (w_mul (w_pick T 0 (ds := [.int 1, .int (0 - 1), .int 2, .int (0 - 3)]) (fun _ => ⟨rfl, rfl, rfl, rfl, rfl⟩) (fun _ => hr) rfl (w_cn (cn_lst (ca_cons ce_int (ca_cons (ce_sub ce_int ce_int) (ca_cons ce_int (ca_cons (ce_sub ce_int ce_int) ca_nil))))) fun b xs H12 hb s12 h12 im => ⟨b, xs, rfl, (R11.ne hb).symm, h12, im, Off.of s12, R11.keep s12⟩) (by decide) (by decide) fun sv sd H12 hsd isd o12 R12 => ?_)) (hx := Or.inl rfl)
    obtain ⟨S, rfl, hS1, hS2⟩ : ∃ S : Int, sv = .int S ∧ -3 ≤ S ∧ S ≤ 2 := by
      rcases List.mem_cons.mp hsd with e | hsd
      · subst e; exact ⟨1, isd.int_eq, by decide, by decide⟩
      · rcases List.mem_cons.mp hsd with e | hsd
        · subst e; exact ⟨_, isd.int_eq, by decide, by decide⟩
        · rcases List.mem_cons.mp hsd with e | hsd
          · subst e; exact ⟨2, isd.int_eq, by decide, by decide⟩
          · rw [List.mem_singleton] at hsd
            subst hsd; exact ⟨_, isd.int_eq, by decide, by decide⟩
    refine w_add (w_int (w_fdiv (w_taken T 0 (fun _ => ⟨rfl, rfl, rfl, rfl, rfl⟩) (fun _ => hr1 hr) rfl R12 (ce_v 3 rfl (ofInt M)) hM1 (by omega) fun z H13 z0 z1 o13 R13 => w_int ⟨z, 4, rfl, rfl, ⟨by decide, by decide⟩, 1, z / 4, rfl, rfl, S, 1 + z / 4, rfl, rfl, .inl ⟨by omega, by omega⟩, ?_⟩)))
    have o13' : Off r H' H13 := (o11.trans o12).trans o13
    have hf13 := o13' _ _ hfr hf
    obtain ⟨y, hy⟩ : ∃ y : Int, y = S * (1 + z / 4) := ⟨_, rfl⟩
    rw [← hy]
    have hy2 : y ≤ 450 := by
      have h1 : (1 + z / 4) ≤ 225 := by omega
      have h2 : S * (1 + z / 4) ≤ 2 * (1 + z / 4) := Int.mul_le_mul_of_nonneg_right hS2 (by omega)
      omega
    have hmt : m < t.length := by rw [ht.len]; exact hm2
    have hb := ht.bd (t.getD m 0) (by
      rw [List.getD_eq_getElem?_getD, List.getElem?_eq_getElem hmt]
      exact List.getElem_mem _)
    refine cs_item (n := m) (ce_max (fun _ => T.b_max) ce_int (ce_add (ce_ixL (k := m) (d := .int (t.getD m 0)) (ce_v 5 rfl (.lst hf13 (ImAll.ints t))) (ce_v 7 rfl (ofInt _)) (by
        rw [List.getElem?_map, List.getD_eq_getElem?_getD, List.getElem?_eq_getElem hmt]
        rfl)) (ce_v 8 rfl (ofInt y)))) (fun H1 _ => own_v 5 rfl) hf13 (ce_v 7 rfl (ofInt _)) (by rw [List.length_map]; exact hmt) fun v H14 s14 a14 => cs_nil ?_
    have e14 := a14.int
    subst e14
    rw [← List.map_set (f := V.int)]
    have R14 := R13.keep s14
    refine ⟨_, _, _, _, rfl, upd_same, ht.set (k := m) (by omega) ?_ ?_ (by omega), ?_, ?_⟩
    · split <;> omega
    · split <;> omega
    · intro b o hbr e
      rw [upd_ne (ne_of_none e hfn)]
      exact s14 _ _ (o13' b o hbr (off b o hbr e))
    · obtain ⟨sa, ns, i', st, rest, e, hsq, b1, b2⟩ := R14.ex
      exact ⟨R14.new, fun b o e => by rw [upd_ne (ne_of_none e hf0)]; exact R14.same _ _ e, sa, ns, i', st, rest, by rw [upd_ne hfr.symm]; exact e, hsq, b1, b2⟩
  · obtain ⟨t, b6, b7, b8, rfl, hf, ht, off, R'⟩ := hpv
    refine cs_ret (ce_tupleL (fun _ => T.b_tuple) (ce_v 5 rfl (.lst hf (ImAll.ints t)))) fun z H4 s4 a4 => ?_
    exact q z t H4 (ht.tab hn1 hn5 (by omega)) (a4.toIm rfl) (off.trans (Off.of s4)) (R'.keep s4)
end
end Shr


namespace Shr
open PySem PySem.Spec L2
/-! ### the mathematics the law asks for -/
theorem sch_osch {n : Nat} {t : List Int} {o : List Nat} (ht : Tab n t) (ho : o ∈ orders n) : Sch n t (osch n t o) where
  len := osch_len n t o
  rlen := fun m hm => (osch_sum ht.n1 ht.n5 ht.zero ho hm).2
  sum := fun m hm => (osch_sum ht.n1 ht.n5 ht.zero ho hm).1
theorem ald_int {k : Nat} (i : Int) : AlD k (.int i) := .flat (.inr (.inl ⟨i, rfl⟩))
theorem ald_pr (x : Int) : AlD 1 (pr x) := .tup (by show 2 ≤ 100; decide) fun d hd => by
  rcases List.mem_cons.mp hd with e | hd
  · rw [e]; exact ald_int _
  · rw [List.mem_singleton.mp hd]; exact ald_int _
theorem ald_row {l : List Int} (h : l.length ≤ 100) : AlD 2 (row l) := .tup (by rw [List.length_map]; exact h) fun d hd => by
  obtain ⟨x, _, rfl⟩ := List.mem_map.mp hd
  exact ald_pr x
theorem ald_sch {n : Nat} {t : List Int} {S : List (List Int)} (hn : n ≤ 5) (h : Sch n t S) : AlD 3 (sch S) := .tup (by
    have := pow32 hn
    rw [List.length_map, h.len]
    omega) fun d hd => by
  obtain ⟨l, hl, rfl⟩ := List.mem_map.mp hd
  obtain ⟨m, hm, e⟩ := List.getElem_of_mem hl
  have hm2 : m < 2 ^ n := by rw [← h.len]; exact hm
  have e2 : S.getD m [] = l := by rw [List.getD_eq_getElem?_getD, List.getElem?_eq_getElem hm, e]; rfl
  have hr := h.rlen m hm2
  rw [e2] at hr
  have := grp_len (m := m)
  exact ald_row (by omega)
theorem ald_nI (g : List Nat) (h : g.length ≤ 100) : AlD 1 (nI g) := .tup (by rw [List.length_map, List.length_map]; exact h) fun d hd => by
  obtain ⟨x, _, rfl⟩ := List.mem_map.mp hd
  exact ald_int x
theorem AlD.up {k : Nat} {d : PyData} (h : AlD k d) : AlD (k + 1) d := by
  induction h with
  | flat h => exact .flat h
  | tup hl _ ih => exact .tup hl ih
theorem ald_flaw : ∀ o : Option (Nat × Nat × Nat), AlD 2 (flawD o)
  | none => .flat (.inl rfl)
  | some p => .tup (by show 4 ≤ 100; decide) fun d hd => by
    rcases List.mem_cons.mp hd with e | hd
    · rw [e]; exact .flat (.inr (.inr ⟨_, rfl⟩))
    · rcases List.mem_cons.mp hd with e | hd
      · rw [e]
        have := grp_len (m := p.1)
        exact ald_nI _ (by omega)
      · rcases List.mem_cons.mp hd with e | hd
        · rw [e]; exact ald_int _
        · rw [List.mem_singleton.mp hd]; exact ald_int _
theorem lay_ints : ∀ l : List Int, PyData.canLayAll0 (l.map PyData.int) = true
  | [] => rfl
  | _ :: l => lay_ints l
theorem deep_ints : ∀ l : List Int, PyData.depthAll (l.map PyData.int) = 0
  | [] => rfl
  | _ :: l => by
    show max 0 (PyData.depthAll (l.map PyData.int)) = 0
    rw [deep_ints l]
    rfl
theorem lay_flaw : ∀ o : Option (Nat × Nat × Nat), PyData.canLay0 (flawD o) = true
  | none => rfl
  | some p => by
    show (PyData.strOk "rise" && (PyData.canLayAll0 (((grp p.1).map fun k => ((k : Nat) : Int)).map PyData.int) && true)) = true
    rw [lay_ints]
    decide +kernel
theorem deep_flaw : ∀ o : Option (Nat × Nat × Nat), PyData.depth (flawD o) ≤ 2
  | none => Nat.zero_le _
  | some p => by
    show max 0 (max (PyData.depthAll (((grp p.1).map fun k => ((k : Nat) : Int)).map PyData.int) + 1) 0) + 1 ≤ 2
    rw [deep_ints]
    decide
theorem lay_flaws : ∀ l : List (Option (Nat × Nat × Nat)), PyData.canLayAll0 (l.map flawD) = true
  | [] => rfl
  | o :: l => by
    show (PyData.canLay0 (flawD o) && PyData.canLayAll0 (l.map flawD)) = true
    rw [lay_flaw, lay_flaws l]
    rfl
theorem deep_flaws : ∀ l : List (Option (Nat × Nat × Nat)), PyData.depthAll (l.map flawD) ≤ 2
  | [] => Nat.zero_le _
  | o :: l => Nat.max_le.mpr ⟨deep_flaw o, deep_flaws l⟩
theorem shaped_flaws (l : List (Option (Nat × Nat × Nat))) : SeqAt.shaped (.list (l.map flawD)) = true := by
  show (PyData.canLayAll0 (l.map flawD) && decide (PyData.depthAll (l.map flawD) + 1 ≤ 64)) = true
  have := deep_flaws l
  rw [lay_flaws, decide_eq_true (by omega)]
  rfl
theorem nones (k : Nat) : List.replicate k PyData.none = (List.replicate k (none : Option (Nat × Nat × Nat))).map flawD := by rw [List.map_replicate]; rfl
theorem eqv_flaws : ∀ l : List (Option (Nat × Nat × Nat)), PyData.eqvAll (l.map flawD) (List.replicate l.length PyData.none) = l.all fun o => o.isNone
  | [] => rfl
  | none :: l => eqv_flaws l
  | some _ :: _ => rfl
theorem all_bent {n : Nat} {t : List Int} (ht : Tab n t) (h4 : n ≤ 4) : (((orders n).map fun o => flaw n (osch n t o)).all fun o => o.isNone) = bent n t := by
  cases hb : bent n t with
  | true =>
    refine List.all_eq_true.mpr fun x hx => ?_
    obtain ⟨o, ho, rfl⟩ := List.mem_map.mp hx
    rw [bent_none ht.n1 ht.n5 ht.zero hb ho]
    rfl
  | false =>
    refine Bool.eq_false_iff.mpr fun h => ?_
    have := none_bent ht.n1 h4 ht.zero fun o ho => Option.isNone_iff_eq_none.mp (List.all_eq_true.mp h _ (List.mem_map.mpr ⟨o, ho, rfl⟩))
    rw [this] at hb
    cases hb
theorem orders_len : ∀ n, n < 6 → (orders n).length ≠ 4 ∧ 1 ≤ (orders n).length ∧ (orders n).length ≤ 1000 := by decide +kernel
def oD : PyData → List Nat
  | .tuple ds => ds.map dN
  | _ => []
theorem oD_nI (o : List Nat) : oD (nI o) = o := by
  show ((o.map fun k => ((k : Nat) : Int)).map PyData.int).map dN = o
  rw [List.map_map, List.map_map]
  exact (List.map_congr_left fun k _ => Int.toNat_natCast k).trans (List.map_id o)
section
variable {P : Program} {w : World} {K : PySem.W.Frag} {mg : Str → Option Value} {base : Heap}
def spLaw (K : PySem.W.Frag) : Sp := fun vs H Q _ => ∃ (a : Addr) (ns : List Int), vs = [.ref a] ∧ SqL K H a (ns.map V.int) ∧ ∀ H', Q (.bl true) H'
theorem law_body (T : Txt K mg) (f : Addr) (cdv : Value) (A : Around) (outer : List Env) (s : Shared) (H : Hp) (vs : List V) (Q : VK) (E : XK) (hr : Room 5 (A.deeper (PyProof.Rows.envOfC "law" (defScope s_law) s.heap.objs.size f cdv))) (h : spLaw K vs H Q E) :
    CS (cxOf CX0 P w K mg base N_law "law" (defScope s_law) f cdv A outer s H E).nox (defBody s_law) { nx := fun _ H' => Q .non H', rt := Q } (start N_law vs) H := by
  obtain ⟨a, ns, rfl, hS, q⟩ := h
  have hm : ∀ {k : Nat} {A : Around}, k ≤ 5 → Room 5 A → Room k A := fun h r => r.mono h
  -- row = [script, 0, 5227, 0]
  refine cs_setW 1 sc_law.nd (w_lst (wa_cons (w_v 0 rfl (wa_cons (w_int (wa_cons (w_int (wa_cons (w_int (wa_nil ⟨by show 4 ≤ sizeLine; decide, fun r hrn => ?_⟩)))))))))) (hx := Or.inl rfl)
  have s1 := same_new hrn (.lst [.ref a, .int 0, .int 5227, .int 0])
  have R1 : RowAt K H (upd H r (.lst [.ref a, .int 0, .int 5227, .int 0])) r := ⟨hrn, s1, a, ns, 0, 5227, 0, upd_same, hS, by decide, by decide⟩
  generalize upd H r (.lst [.ref a, .int 0, .int 5227, .int 0]) = H1 at R1
  -- many
  refine cs_setW 2 sc_law.nd (w_call (fn_membersL T (P := P) (w := w) (base := base)) (fun _ => ⟨rfl, rfl, rfl, rfl, rfl⟩) (fun _ => hm (by decide) hr) (wa_cons (w_v 1 rfl (wa_cons (w_int (wa_nil ⟨H, r, 5, rfl, by decide, by decide, R1, fun v H2 v0 v5 o2 R2 => ?_⟩)))))) (hx := Or.inl rfl)
  obtain ⟨n, en⟩ : ∃ n : Nat, 1 + v = ((n : Nat) : Int) := ⟨(1 + v).toNat, by omega⟩
  rw [en]
  have hn1 : 1 ≤ n := by omega
  have hn5 : n ≤ 5 := by omega
  have key : ∀ (z : V) (t : List Int) (H3 : Hp), Tab n t → Im H3 z (tI t) → RowAt K H H3 r → CS (cxOf CX0 P w K mg base N_law "law" (defScope s_law) f cdv A outer s H E).nox ((defBody s_law).drop 3) { nx := fun _ H' => Q .non H', rt := Q } ((((start N_law [.ref a]).set 1 (some (.ref r))).set 2 (some (.int (n : Nat)))).set 3 (some z)) H3 := by
    intro z t H3 ht iz R3
    -- order
    refine cs_setW 4 sc_law.nd (w_pick T 1 (H0 := H) (r := r) (ds := (orders n).map nI) (fun _ => ⟨rfl, rfl, rfl, rfl, rfl⟩) (fun _ => hm (by decide) hr) rfl (w_ce (ce_call (fn_ordersL T (P := P) (w := w) (base := base)) (fun _ => ⟨rfl, rfl, rfl, rfl, rfl⟩) (fun _ => hm (by decide) hr) (ca_cons (ce_v 2 rfl (ofInt _)) ca_nil) ⟨n, hn5, rfl, rfl⟩) fun y H4 s4 ay => ?_) (by rw [List.length_map]; exact (orders_len n (by omega)).2.1) (by rw [List.length_map]; exact (orders_len n (by omega)).2.2) fun y d H4 hd iy o4 R4 => ?_) (hx := Or.inl rfl)
    · obtain ⟨b, xs, rfl, hb, im⟩ := ay.lstE
      refine ⟨b, xs, rfl, fun e => ?_, hb, im, Off.of s4, R3.keep s4⟩
      subst e
      obtain ⟨sa, ns', i, st, rest, e, _⟩ := (R3.keep s4).ex
      rw [e] at hb
      cases hb
      have := im.len
      rw [List.length_map] at this
      exact (orders_len n (by omega)).1 this.symm
    obtain ⟨o, ho, rfl⟩ := List.mem_map.mp hd
    have it : Ar H4 z (tI t) := .im (iz.mono (R3.ts o4))
    have io : Ar H4 y (nI o) := .im iy
    -- found
    refine cs_set 5 sc_law.nd (ce_call (fn_order_scheme T (P := P) (w := w) (base := base)) (fun _ => ⟨rfl, rfl, rfl, rfl, rfl⟩) (fun _ => hr) (ca_cons (ce_v 3 rfl it) (ca_cons (ce_v 4 rfl io) ca_nil)) ⟨t, n, o, ht, ho, rfl, rfl⟩) (fun x H5 s5 ax => ?_) (hx := Or.inl rfl)
    have hs := sch_osch ht ho
    -- alike
    refine cs_if (k := false) ((ct_not (ct_val (ce_call (fn_alikeL T 3 (P := P) (w := w) (base := base)) (fun _ => ⟨rfl, rfl, rfl, rfl, rfl⟩) (fun _ => hm (by decide) hr) (ca_cons (ce_v 5 rfl ax) (ca_cons (ce_call (fn_scheme_ofL T (P := P) (w := w) (base := base)) (fun _ => ⟨rfl, rfl, rfl, rfl, rfl⟩) (fun _ => hm (by decide) hr) (ca_cons (ce_v 3 rfl (it.mono s5)) (ca_cons (ce_v 4 rfl (io.mono s5)) ca_nil)) ⟨t, n, o, ht, ho, rfl, rfl⟩) ca_nil)) ⟨_, ald_sch hn5 hs, rfl, rfl⟩))).eq rfl) (fun h => by cases h) fun _ H6 s6 => cs_nil ?_
    have s56 := s5.trans s6
    -- five members
    refine cs_if (k := decide (((n : Nat) : Int) = 5)) (ct_eqI (ce_v 2 rfl (ofInt _)) ce_int) (fun _ H7 s7 => ?_) fun hne H7 s7 => cs_nil ?_
    · have s57 := s56.trans s7
      refine cs_ret (d := .bool true) ((ce_or (ce_not (ce_call (fn_bentL T (P := P) (w := w) (base := base)) (fun _ => ⟨rfl, rfl, rfl, rfl, rfl⟩) (fun _ => hm (by decide) hr) (ca_cons (ce_v 3 rfl (it.mono s57)) ca_nil) ⟨t, n, ht, rfl, rfl⟩)) (ce_one (ce_isN (ce_call (fn_scheme_flaw T (P := P) (w := w) (base := base)) (fun _ => ⟨rfl, rfl, rfl, rfl, rfl⟩) (fun _ => hr) (ca_cons (ce_v 3 rfl (it.mono s57)) (ca_cons (ce_v 5 rfl (ax.mono (s6.trans s7))) ca_nil)) ⟨t, n, _, ht, hs, rfl, rfl⟩) ce_none))).eq ?_) fun v H8 s8 av => ?_
      · cases hb : bent n t with
        | false => rfl
        | true =>
          rw [bent_none ht.n1 ht.n5 ht.zero hb ho]
          rfl
      · have e := av.bl
        subst e
        exact q H8
    have h4 : n ≤ 4 := by
      have := of_decide_eq_false hne
      omega
    have s57 := s56.trans s7
    -- the flaws
    refine cs_setLc 6 7 (fun d => some (flawD (flaw n (osch n t (oD d))))) sc_law.nd (ci_lst (K := K) (ce_call (fn_ordersL T (P := P) (w := w) (base := base)) (fun _ => ⟨rfl, rfl, rfl, rfl, rfl⟩) (fun _ => hm (by decide) hr) (ca_cons (ce_v 2 rfl (ofInt _)) ca_nil) ⟨n, hn5, rfl, rfl⟩) fun _ => rfl) (by
        have := (orders_len n (by omega)).2.2
        rw [List.length_map]
        omega) (fun j d v H8 hd s8 a8 => .inl ⟨_, rfl, ?_, cp_nil, ?_⟩) (blkOk_by (N := N_law) (sc := defScope s_law) (by decide +kernel)) (fun fp fs H8 hfp s8 h8 im8 => ?_) (sw_true rfl rfl rfl (by decide +kernel))
    · cases flaw n (osch n t (oD d)) <;> rfl
    · have hdm : d ∈ (orders n).map nI := List.mem_of_getElem? hd
      obtain ⟨o', ho', rfl⟩ := List.mem_map.mp hdm
      rw [oD_nI]
      have s58 := s57.trans s8
      exact ce_call (fn_flawL T (P := P) (w := w) (base := base)) (fun _ => ⟨rfl, rfl, rfl, rfl, rfl⟩) (fun _ => hm (by decide) hr) (ca_cons (ce_v 3 rfl (it.mono s58)) (ca_cons (ce_call (fn_scheme_ofL T (P := P) (w := w) (base := base)) (fun _ => ⟨rfl, rfl, rfl, rfl, rfl⟩) (fun _ => hm (by decide) hr) (ca_cons (ce_v 3 rfl (it.mono s58)) (ca_cons (ce_v 7 rfl a8) ca_nil)) ⟨t, n, o', ht, ho', rfl, rfl⟩) ca_nil)) ⟨t, n, _, ht, sch_osch ht ho', rfl, rfl⟩
    have efs : ((orders n).map nI).filterMap (fun d => some (flawD (flaw n (osch n t (oD d))))) = ((orders n).map fun o => flaw n (osch n t o)).map flawD := by
      rw [List.filterMap_eq_map', List.map_map, List.map_map]
      refine List.map_congr_left fun o _ => ?_
      show flawD (flaw n (osch n t (oD (nI o)))) = _
      rw [oD_nI]
      rfl
    rw [efs] at im8
    have s58 := s57.trans s8
    have af : Ar H8 (.ref fp) (.list (((orders n).map fun o => flaw n (osch n t o)).map flawD)) := .lst h8 im8
    -- flaws are none where the table is bent, and only there
    refine cs_if (k := false) ((ct_neS (da := .bool (bent n t)) (db := .bool (bent n t)) ((ce_eqD (fun _ => hr.units) (ce_v 6 rfl af) (cn_rep (d := .none) (cn_lst (ca_cons ce_none ca_nil)).ce (ce_lenL (fun _ => T.b_len) (ce_v 6 rfl af)) (by omega) ?_).ce (shaped_flaws _) ?_).eq ?_) (ce_call (fn_bentL T (P := P) (w := w) (base := base)) (fun _ => ⟨rfl, rfl, rfl, rfl, rfl⟩) (fun _ => hm (by decide) hr) (ca_cons (ce_v 3 rfl (it.mono s58)) ca_nil) ⟨t, n, ht, rfl, rfl⟩)).eq ?_) (fun h => by cases h) fun _ H9 s9 => cs_nil ?_
    · have := (orders_len n (by omega)).2.2
      rw [List.length_map, List.length_map]
      omega
    · rw [nones]
      exact shaped_flaws _
    · rw [Int.toNat_natCast, List.length_map]
      exact congrArg PyData.bool ((eqv_flaws _).trans (all_bent ht h4))
    · show (!decide (V.bl (bent n t) = V.bl (bent n t))) = false
      rw [decide_eq_true rfl]
      rfl
    -- both looks tell the same
    have s59 := s58.trans s9
    refine cs_ret (ce_call (fn_alikeL T 2 (P := P) (w := w) (base := base)) (fun _ => ⟨rfl, rfl, rfl, rfl, rfl⟩) (fun _ => hm (by decide) hr) (ca_cons (ce_call (fn_scheme_flaw T (P := P) (w := w) (base := base)) (fun _ => ⟨rfl, rfl, rfl, rfl, rfl⟩) (fun _ => hr) (ca_cons (ce_v 3 rfl (it.mono s59)) (ca_cons (ce_v 5 rfl (ax.mono (((s6.trans s7).trans s8).trans s9))) ca_nil)) ⟨t, n, _, ht, hs, rfl, rfl⟩) (ca_cons (ce_call (fn_flawL T (P := P) (w := w) (base := base)) (fun _ => ⟨rfl, rfl, rfl, rfl, rfl⟩) (fun _ => hm (by decide) hr) (ca_cons (ce_v 3 rfl (it.mono s59)) (ca_cons (ce_v 5 rfl (ax.mono (((s6.trans s7).trans s8).trans s9))) ca_nil)) ⟨t, n, _, ht, hs, rfl, rfl⟩) ca_nil)) ⟨_, ald_flaw _, rfl, rfl⟩) fun v H10 s10 av => ?_
    have e := av.bl
    subst e
    exact q H10
  -- the table
  refine cs_setW 3 sc_law.nd (w_if (wt_eqI (w_taken T 1 (fun _ => ⟨rfl, rfl, rfl, rfl, rfl⟩) (fun _ => hm (by decide) hr) rfl R2 ce_int (by decide) (by decide) fun u H3 u0 u2 o3 R3 => w_int ⟨u, 0, rfl, rfl, decide (u = 0), rfl, ?_⟩))) (hx := Or.inr rfl)
  split
  · exact w_call (fn_tableL T (P := P) (w := w) (base := base)) (fun _ => ⟨rfl, rfl, rfl, rfl, rfl⟩) (fun _ => hm (by decide) hr) (wa_cons (w_v 1 rfl (wa_cons (w_v 2 rfl (wa_nil ⟨H, r, n, rfl, hn1, hn5, R3, fun z t H4 ht iz o4 R4 => key z t H4 ht iz R4⟩)))))
  · exact w_call (fn_touchedL T (P := P) (w := w) (base := base)) (fun _ => ⟨rfl, rfl, rfl, rfl, rfl⟩) (fun _ => hm (by decide) hr) (wa_cons (w_v 1 rfl (wa_cons (w_v 2 rfl (wa_cons (w_int (wa_nil ⟨H, r, n, 40, rfl, hn1, hn5, by decide, by decide, R3, fun z t H4 ht iz o4 R4 => key z t H4 (ht.tab hn1 hn5 (by decide)) iz R4⟩)))))))
end
end Shr


namespace Shr
open PySem PySem.Spec PyProof.Rows L2
/-! ### the join -/
theorem def_of {K : PySem.W.Frag} {h : Heap} {mg : Str → Option Value} {x : Str} {st : Stmt} {f : Addr} {oc : Value} {od an : Option Addr} {osl : Array (Option Value)} {kV doc pm cdv ct : Value} {ps : List Str} (X : K.In h) (G : h.Ns mainGlobals mg) (a : PySem.W.nsIn K mainGlobals x = some (some (.ref f)))
    (l : K.lookup f = some ⟨oc, od, .func (PySem.W.fnOf x x (defArgs st) (defBody st) (defScope st) .none kV doc pm an cdv ct), osl⟩) (c : PySem.W.codeIn K cdv x = true) (k : PySem.W.keepIn K (.ref f) = true)
    (hb : ∀ (kV doc pm : Value) (an : Option Addr) (cdv ct : Value) (us : List Value), us.length = ps.length → bindArgs (PySem.W.fnOf x x (defArgs st) (defBody st) (defScope st) .none kV doc pm an cdv ct) ⟨us, []⟩ = pure (ps.zip us)) : Def K mg x st ps :=
  ⟨_, _, fun_mk l c k, PySem.W.mg_of X G a, (fun_mk (st := st) l c k).binds hb⟩
theorem law_ok {P : Program} {w : World} {K : PySem.W.Frag} {mg : Str → Option Value} {base : Heap} {f : Addr} {fd : FuncData} (F : Fun K "law" "law" s_law f fd) (T : Txt K mg) : FnOk P w K mg base CX0 6 f fd ["_law_script"] (spLaw K) :=
  F.ok sc_law (fun vs H Q E ⟨_, _, e, _⟩ => by rw [e]; rfl) fun cdv A outer s H vs Q E hr h => law_body T f cdv A outer s H vs Q E hr h
set_option maxHeartbeats 0 in
theorem all_mk {l : PySem.W.OpenLaw} {w : World} {K : PySem.W.Frag} {h : Heap} {mg : Str → Option Value} {fa f1 f2 f3 f4 f5 f6 f7 f8 f9 f10 f11 f12 f13 f14 f15 f16 f17 f18 f19 f20 f21 f22 f23 f24 f25 f26 f27 f28 f29 f30 f31 f32 f33 f34 f35 f36 f37 f38 f39 f40 f41 : Addr} (X : K.In h) (G : h.Ns mainGlobals mg) (hfa : mg "law" = some (.ref fa))
    {od1 an1 od2 an2 od3 an3 od4 an4 od5 an5 od6 an6 od7 an7 od8 an8 od9 an9 od10 an10 od11 an11 od12 an12 od13 an13 od14 an14 od15 an15 od16 an16 od17 an17 od18 an18 od19 an19 od20 an20 od21 an21 od22 an22 od23 an23 od24 an24 od25 an25 od26 an26 od27 an27 od28 an28 od29 an29 od30 an30 od31 an31 od32 an32 od33 an33 od34 an34 od35 an35 od36 an36 od37 an37 od38 an38 od39 an39 od40 an40 od41 an41 : Option Addr} {sl1 sl2 sl3 sl4 sl5 sl6 sl7 sl8 sl9 sl10 sl11 sl12 sl13 sl14 sl15 sl16 sl17 sl18 sl19 sl20 sl21 sl22 sl23 sl24 sl25 sl26 sl27 sl28 sl29 sl30 sl31 sl32 sl33 sl34 sl35 sl36 sl37 sl38 sl39 sl40 sl41 : Array (Option Value)} {oc1 kV1 dc1 pm1 cd1 ct1 oc2 kV2 dc2 pm2 cd2 ct2 oc3 kV3 dc3 pm3 cd3 ct3 oc4 kV4 dc4 pm4 cd4 ct4 oc5 kV5 dc5 pm5 cd5 ct5 oc6 kV6 dc6 pm6 cd6 ct6 oc7 kV7 dc7 pm7 cd7 ct7 oc8 kV8 dc8 pm8 cd8 ct8 oc9 kV9 dc9 pm9 cd9 ct9 oc10 kV10 dc10 pm10 cd10 ct10 oc11 kV11 dc11 pm11 cd11 ct11 oc12 kV12 dc12 pm12 cd12 ct12 oc13 kV13 dc13 pm13 cd13 ct13 oc14 kV14 dc14 pm14 cd14 ct14 oc15 kV15 dc15 pm15 cd15 ct15 oc16 kV16 dc16 pm16 cd16 ct16 oc17 kV17 dc17 pm17 cd17 ct17 oc18 kV18 dc18 pm18 cd18 ct18 oc19 kV19 dc19 pm19 cd19 ct19 oc20 kV20 dc20 pm20 cd20 ct20 oc21 kV21 dc21 pm21 cd21 ct21 oc22 kV22 dc22 pm22 cd22 ct22 oc23 kV23 dc23 pm23 cd23 ct23 oc24 kV24 dc24 pm24 cd24 ct24 oc25 kV25 dc25 pm25 cd25 ct25 oc26 kV26 dc26 pm26 cd26 ct26 oc27 kV27 dc27 pm27 cd27 ct27 oc28 kV28 dc28 pm28 cd28 ct28 oc29 kV29 dc29 pm29 cd29 ct29 oc30 kV30 dc30 pm30 cd30 ct30 oc31 kV31 dc31 pm31 cd31 ct31 oc32 kV32 dc32 pm32 cd32 ct32 oc33 kV33 dc33 pm33 cd33 ct33 oc34 kV34 dc34 pm34 cd34 ct34 oc35 kV35 dc35 pm35 cd35 ct35 oc36 kV36 dc36 pm36 cd36 ct36 oc37 kV37 dc37 pm37 cd37 ct37 oc38 kV38 dc38 pm38 cd38 ct38 oc39 kV39 dc39 pm39 cd39 ct39 oc40 kV40 dc40 pm40 cd40 ct40 oc41 kV41 dc41 pm41 cd41 ct41 : Value} {tM : Tok}
    (a1 : PySem.W.nsIn K mainGlobals "whole" = some (some (.ref f1))) (l1 : K.lookup f1 = some ⟨oc1, od1, .func (PySem.W.fnOf "whole" "whole" (defArgs s_whole) (defBody s_whole) (defScope s_whole) .none kV1 dc1 pm1 an1 cd1 ct1), sl1⟩) (c1 : PySem.W.codeIn K cd1 "whole" = true) (k1 : PySem.W.keepIn K (.ref f1) = true)
    (a2 : PySem.W.nsIn K mainGlobals "within" = some (some (.ref f2))) (l2 : K.lookup f2 = some ⟨oc2, od2, .func (PySem.W.fnOf "within" "within" (defArgs s_within) (defBody s_within) (defScope s_within) .none kV2 dc2 pm2 an2 cd2 ct2), sl2⟩) (c2 : PySem.W.codeIn K cd2 "within" = true) (k2 : PySem.W.keepIn K (.ref f2) = true)
    (a3 : PySem.W.nsIn K mainGlobals "tuple_of" = some (some (.ref f3))) (l3 : K.lookup f3 = some ⟨oc3, od3, .func (PySem.W.fnOf "tuple_of" "tuple_of" (defArgs s_tuple_of) (defBody s_tuple_of) (defScope s_tuple_of) .none kV3 dc3 pm3 an3 cd3 ct3), sl3⟩) (c3 : PySem.W.codeIn K cd3 "tuple_of" = true) (k3 : PySem.W.keepIn K (.ref f3) = true)
    (a4 : PySem.W.nsIn K mainGlobals "is_ratio" = some (some (.ref f4))) (l4 : K.lookup f4 = some ⟨oc4, od4, .func (PySem.W.fnOf "is_ratio" "is_ratio" (defArgs s_is_ratio) (defBody s_is_ratio) (defScope s_is_ratio) .none kV4 dc4 pm4 an4 cd4 ct4), sl4⟩) (c4 : PySem.W.codeIn K cd4 "is_ratio" = true) (k4 : PySem.W.keepIn K (.ref f4) = true)
    (a5 : PySem.W.nsIn K mainGlobals "low" = some (some (.ref f5))) (l5 : K.lookup f5 = some ⟨oc5, od5, .func (PySem.W.fnOf "low" "low" (defArgs s_low) (defBody s_low) (defScope s_low) .none kV5 dc5 pm5 an5 cd5 ct5), sl5⟩) (c5 : PySem.W.codeIn K cd5 "low" = true) (k5 : PySem.W.keepIn K (.ref f5) = true)
    (a6 : PySem.W.nsIn K mainGlobals "plus" = some (some (.ref f6))) (l6 : K.lookup f6 = some ⟨oc6, od6, .func (PySem.W.fnOf "plus" "plus" (defArgs s_plus) (defBody s_plus) (defScope s_plus) .none kV6 dc6 pm6 an6 cd6 ct6), sl6⟩) (c6 : PySem.W.codeIn K cd6 "plus" = true) (k6 : PySem.W.keepIn K (.ref f6) = true)
    (a7 : PySem.W.nsIn K mainGlobals "is_less" = some (some (.ref f7))) (l7 : K.lookup f7 = some ⟨oc7, od7, .func (PySem.W.fnOf "is_less" "is_less" (defArgs s_is_less) (defBody s_is_less) (defScope s_is_less) .none kV7 dc7 pm7 an7 cd7 ct7), sl7⟩) (c7 : PySem.W.codeIn K cd7 "is_less" = true) (k7 : PySem.W.keepIn K (.ref f7) = true)
    (a8 : PySem.W.nsIn K mainGlobals "sum_of" = some (some (.ref f8))) (l8 : K.lookup f8 = some ⟨oc8, od8, .func (PySem.W.fnOf "sum_of" "sum_of" (defArgs s_sum_of) (defBody s_sum_of) (defScope s_sum_of) .none kV8 dc8 pm8 an8 cd8 ct8), sl8⟩) (c8 : PySem.W.codeIn K cd8 "sum_of" = true) (k8 : PySem.W.keepIn K (.ref f8) = true)
    (a9 : PySem.W.nsIn K mainGlobals "is_order" = some (some (.ref f9))) (l9 : K.lookup f9 = some ⟨oc9, od9, .func (PySem.W.fnOf "is_order" "is_order" (defArgs s_is_order) (defBody s_is_order) (defScope s_is_order) .none kV9 dc9 pm9 an9 cd9 ct9), sl9⟩) (c9 : PySem.W.codeIn K cd9 "is_order" = true) (k9 : PySem.W.keepIn K (.ref f9) = true)
    (a10 : PySem.W.nsIn K mainGlobals "need_order" = some (some (.ref f10))) (l10 : K.lookup f10 = some ⟨oc10, od10, .func (PySem.W.fnOf "need_order" "need_order" (defArgs s_need_order) (defBody s_need_order) (defScope s_need_order) .none kV10 dc10 pm10 an10 cd10 ct10), sl10⟩) (c10 : PySem.W.codeIn K cd10 "need_order" = true) (k10 : PySem.W.keepIn K (.ref f10) = true)
    (a11 : PySem.W.nsIn K mainGlobals "group_of" = some (some (.ref f11))) (l11 : K.lookup f11 = some ⟨oc11, od11, .func (PySem.W.fnOf "group_of" "group_of" (defArgs s_group_of) (defBody s_group_of) (defScope s_group_of) .none kV11 dc11 pm11 an11 cd11 ct11), sl11⟩) (c11 : PySem.W.codeIn K cd11 "group_of" = true) (k11 : PySem.W.keepIn K (.ref f11) = true)
    (a12 : PySem.W.nsIn K mainGlobals "members_of" = some (some (.ref f12))) (l12 : K.lookup f12 = some ⟨oc12, od12, .func (PySem.W.fnOf "members_of" "members_of" (defArgs s_members_of) (defBody s_members_of) (defScope s_members_of) .none kV12 dc12 pm12 an12 cd12 ct12), sl12⟩) (c12 : PySem.W.codeIn K cd12 "members_of" = true) (k12 : PySem.W.keepIn K (.ref f12) = true)
    (a13 : PySem.W.nsIn K mainGlobals "is_table" = some (some (.ref f13))) (l13 : K.lookup f13 = some ⟨oc13, od13, .func (PySem.W.fnOf "is_table" "is_table" (defArgs s_is_table) (defBody s_is_table) (defScope s_is_table) .none kV13 dc13 pm13 an13 cd13 ct13), sl13⟩) (c13 : PySem.W.codeIn K cd13 "is_table" = true) (k13 : PySem.W.keepIn K (.ref f13) = true)
    (a14 : PySem.W.nsIn K mainGlobals "need_table" = some (some (.ref f14))) (l14 : K.lookup f14 = some ⟨oc14, od14, .func (PySem.W.fnOf "need_table" "need_table" (defArgs s_need_table) (defBody s_need_table) (defScope s_need_table) .none kV14 dc14 pm14 an14 cd14 ct14), sl14⟩) (c14 : PySem.W.codeIn K cd14 "need_table" = true) (k14 : PySem.W.keepIn K (.ref f14) = true)
    (a15 : PySem.W.nsIn K mainGlobals "part_of" = some (some (.ref f15))) (l15 : K.lookup f15 = some ⟨oc15, od15, .func (PySem.W.fnOf "part_of" "part_of" (defArgs s_part_of) (defBody s_part_of) (defScope s_part_of) .none kV15 dc15 pm15 an15 cd15 ct15), sl15⟩) (c15 : PySem.W.codeIn K cd15 "part_of" = true) (k15 : PySem.W.keepIn K (.ref f15) = true)
    (a16 : PySem.W.nsIn K mainGlobals "marginals" = some (some (.ref f16))) (l16 : K.lookup f16 = some ⟨oc16, od16, .func (PySem.W.fnOf "marginals" "marginals" (defArgs s_marginals) (defBody s_marginals) (defScope s_marginals) .none kV16 dc16 pm16 an16 cd16 ct16), sl16⟩) (c16 : PySem.W.codeIn K cd16 "marginals" = true) (k16 : PySem.W.keepIn K (.ref f16) = true)
    (a17 : PySem.W.nsIn K mainGlobals "steps_of" = some (some (.ref f17))) (l17 : K.lookup f17 = some ⟨oc17, od17, .func (PySem.W.fnOf "steps_of" "steps_of" (defArgs s_steps_of) (defBody s_steps_of) (defScope s_steps_of) .none kV17 dc17 pm17 an17 cd17 ct17), sl17⟩) (c17 : PySem.W.codeIn K cd17 "steps_of" = true) (k17 : PySem.W.keepIn K (.ref f17) = true)
    (a18 : PySem.W.nsIn K mainGlobals "scheme_flaw" = some (some (.ref f18))) (l18 : K.lookup f18 = some ⟨oc18, od18, .func (PySem.W.fnOf "scheme_flaw" "scheme_flaw" (defArgs s_scheme_flaw) (defBody s_scheme_flaw) (defScope s_scheme_flaw) .none kV18 dc18 pm18 an18 cd18 ct18), sl18⟩) (c18 : PySem.W.codeIn K cd18 "scheme_flaw" = true) (k18 : PySem.W.keepIn K (.ref f18) = true)
    (a19 : PySem.W.nsIn K mainGlobals "order_scheme" = some (some (.ref f19))) (l19 : K.lookup f19 = some ⟨oc19, od19, .func (PySem.W.fnOf "order_scheme" "order_scheme" (defArgs s_order_scheme) (defBody s_order_scheme) (defScope s_order_scheme) .none kV19 dc19 pm19 an19 cd19 ct19), sl19⟩) (c19 : PySem.W.codeIn K cd19 "order_scheme" = true) (k19 : PySem.W.keepIn K (.ref f19) = true)
    (a20 : PySem.W.nsIn K mainGlobals "_law_taken" = some (some (.ref f20))) (l20 : K.lookup f20 = some ⟨oc20, od20, .func (PySem.W.fnOf "_law_taken" "_law_taken" (defArgs s_takenL) (defBody s_takenL) (defScope s_takenL) .none kV20 dc20 pm20 an20 cd20 ct20), sl20⟩) (c20 : PySem.W.codeIn K cd20 "_law_taken" = true) (k20 : PySem.W.keepIn K (.ref f20) = true)
    (a21 : PySem.W.nsIn K mainGlobals "_law_members" = some (some (.ref f21))) (l21 : K.lookup f21 = some ⟨oc21, od21, .func (PySem.W.fnOf "_law_members" "_law_members" (defArgs s_membersL) (defBody s_membersL) (defScope s_membersL) .none kV21 dc21 pm21 an21 cd21 ct21), sl21⟩) (c21 : PySem.W.codeIn K cd21 "_law_members" = true) (k21 : PySem.W.keepIn K (.ref f21) = true)
    (a22 : PySem.W.nsIn K mainGlobals "_law_pick" = some (some (.ref f22))) (l22 : K.lookup f22 = some ⟨oc22, od22, .func (PySem.W.fnOf "_law_pick" "_law_pick" (defArgs s_pickL) (defBody s_pickL) (defScope s_pickL) .none kV22 dc22 pm22 an22 cd22 ct22), sl22⟩) (c22 : PySem.W.codeIn K cd22 "_law_pick" = true) (k22 : PySem.W.keepIn K (.ref f22) = true)
    (a23 : PySem.W.nsIn K mainGlobals "_law_touched" = some (some (.ref f23))) (l23 : K.lookup f23 = some ⟨oc23, od23, .func (PySem.W.fnOf "_law_touched" "_law_touched" (defArgs s_touchedL) (defBody s_touchedL) (defScope s_touchedL) .none kV23 dc23 pm23 an23 cd23 ct23), sl23⟩) (c23 : PySem.W.codeIn K cd23 "_law_touched" = true) (k23 : PySem.W.keepIn K (.ref f23) = true)
    (a24 : PySem.W.nsIn K mainGlobals "_law_group" = some (some (.ref f24))) (l24 : K.lookup f24 = some ⟨oc24, od24, .func (PySem.W.fnOf "_law_group" "_law_group" (defArgs s_groupL) (defBody s_groupL) (defScope s_groupL) .none kV24 dc24 pm24 an24 cd24 ct24), sl24⟩) (c24 : PySem.W.codeIn K cd24 "_law_group" = true) (k24 : PySem.W.keepIn K (.ref f24) = true)
    (a25 : PySem.W.nsIn K mainGlobals "_law_table" = some (some (.ref f25))) (l25 : K.lookup f25 = some ⟨oc25, od25, .func (PySem.W.fnOf "_law_table" "_law_table" (defArgs s_tableL) (defBody s_tableL) (defScope s_tableL) .none kV25 dc25 pm25 an25 cd25 ct25), sl25⟩) (c25 : PySem.W.codeIn K cd25 "_law_table" = true) (k25 : PySem.W.keepIn K (.ref f25) = true)
    (a26 : PySem.W.nsIn K mainGlobals "_law_orders" = some (some (.ref f26))) (l26 : K.lookup f26 = some ⟨oc26, od26, .func (PySem.W.fnOf "_law_orders" "_law_orders" (defArgs s_ordersL) (defBody s_ordersL) (defScope s_ordersL) .none kV26 dc26 pm26 an26 cd26 ct26), sl26⟩) (c26 : PySem.W.codeIn K cd26 "_law_orders" = true) (k26 : PySem.W.keepIn K (.ref f26) = true)
    (a27 : PySem.W.nsIn K mainGlobals "_law_alike" = some (some (.ref f27))) (l27 : K.lookup f27 = some ⟨oc27, od27, .func (PySem.W.fnOf "_law_alike" "_law_alike" (defArgs s_alikeL) (defBody s_alikeL) (defScope s_alikeL) .none kV27 dc27 pm27 an27 cd27 ct27), sl27⟩) (c27 : PySem.W.codeIn K cd27 "_law_alike" = true) (k27 : PySem.W.keepIn K (.ref f27) = true)
    (a28 : PySem.W.nsIn K mainGlobals "_law_added" = some (some (.ref f28))) (l28 : K.lookup f28 = some ⟨oc28, od28, .func (PySem.W.fnOf "_law_added" "_law_added" (defArgs s_addedL) (defBody s_addedL) (defScope s_addedL) .none kV28 dc28 pm28 an28 cd28 ct28), sl28⟩) (c28 : PySem.W.codeIn K cd28 "_law_added" = true) (k28 : PySem.W.keepIn K (.ref f28) = true)
    (a29 : PySem.W.nsIn K mainGlobals "_law_mark" = some (some (.ref f29))) (l29 : K.lookup f29 = some ⟨oc29, od29, .func (PySem.W.fnOf "_law_mark" "_law_mark" (defArgs s_markL) (defBody s_markL) (defScope s_markL) .none kV29 dc29 pm29 an29 cd29 ct29), sl29⟩) (c29 : PySem.W.codeIn K cd29 "_law_mark" = true) (k29 : PySem.W.keepIn K (.ref f29) = true)
    (a30 : PySem.W.nsIn K mainGlobals "_law_part" = some (some (.ref f30))) (l30 : K.lookup f30 = some ⟨oc30, od30, .func (PySem.W.fnOf "_law_part" "_law_part" (defArgs s_partL) (defBody s_partL) (defScope s_partL) .none kV30 dc30 pm30 an30 cd30 ct30), sl30⟩) (c30 : PySem.W.codeIn K cd30 "_law_part" = true) (k30 : PySem.W.keepIn K (.ref f30) = true)
    (a31 : PySem.W.nsIn K mainGlobals "_law_scheme_of" = some (some (.ref f31))) (l31 : K.lookup f31 = some ⟨oc31, od31, .func (PySem.W.fnOf "_law_scheme_of" "_law_scheme_of" (defArgs s_scheme_ofL) (defBody s_scheme_ofL) (defScope s_scheme_ofL) .none kV31 dc31 pm31 an31 cd31 ct31), sl31⟩) (c31 : PySem.W.codeIn K cd31 "_law_scheme_of" = true) (k31 : PySem.W.keepIn K (.ref f31) = true)
    (a32 : PySem.W.nsIn K mainGlobals "_law_size" = some (some (.ref f32))) (l32 : K.lookup f32 = some ⟨oc32, od32, .func (PySem.W.fnOf "_law_size" "_law_size" (defArgs s_sizeL) (defBody s_sizeL) (defScope s_sizeL) .none kV32 dc32 pm32 an32 cd32 ct32), sl32⟩) (c32 : PySem.W.codeIn K cd32 "_law_size" = true) (k32 : PySem.W.keepIn K (.ref f32) = true)
    (a33 : PySem.W.nsIn K mainGlobals "_law_bent" = some (some (.ref f33))) (l33 : K.lookup f33 = some ⟨oc33, od33, .func (PySem.W.fnOf "_law_bent" "_law_bent" (defArgs s_bentL) (defBody s_bentL) (defScope s_bentL) .none kV33 dc33 pm33 an33 cd33 ct33), sl33⟩) (c33 : PySem.W.codeIn K cd33 "_law_bent" = true) (k33 : PySem.W.keepIn K (.ref f33) = true)
    (a34 : PySem.W.nsIn K mainGlobals "_law_low" = some (some (.ref f34))) (l34 : K.lookup f34 = some ⟨oc34, od34, .func (PySem.W.fnOf "_law_low" "_law_low" (defArgs s_lowL) (defBody s_lowL) (defScope s_lowL) .none kV34 dc34 pm34 an34 cd34 ct34), sl34⟩) (c34 : PySem.W.codeIn K cd34 "_law_low" = true) (k34 : PySem.W.keepIn K (.ref f34) = true)
    (a35 : PySem.W.nsIn K mainGlobals "_law_ratio" = some (some (.ref f35))) (l35 : K.lookup f35 = some ⟨oc35, od35, .func (PySem.W.fnOf "_law_ratio" "_law_ratio" (defArgs s_ratioL) (defBody s_ratioL) (defScope s_ratioL) .none kV35 dc35 pm35 an35 cd35 ct35), sl35⟩) (c35 : PySem.W.codeIn K cd35 "_law_ratio" = true) (k35 : PySem.W.keepIn K (.ref f35) = true)
    (a36 : PySem.W.nsIn K mainGlobals "_law_are_ratios" = some (some (.ref f36))) (l36 : K.lookup f36 = some ⟨oc36, od36, .func (PySem.W.fnOf "_law_are_ratios" "_law_are_ratios" (defArgs s_are_ratiosL) (defBody s_are_ratiosL) (defScope s_are_ratiosL) .none kV36 dc36 pm36 an36 cd36 ct36), sl36⟩) (c36 : PySem.W.codeIn K cd36 "_law_are_ratios" = true) (k36 : PySem.W.keepIn K (.ref f36) = true)
    (a37 : PySem.W.nsIn K mainGlobals "_law_plus" = some (some (.ref f37))) (l37 : K.lookup f37 = some ⟨oc37, od37, .func (PySem.W.fnOf "_law_plus" "_law_plus" (defArgs s_plusL) (defBody s_plusL) (defScope s_plusL) .none kV37 dc37 pm37 an37 cd37 ct37), sl37⟩) (c37 : PySem.W.codeIn K cd37 "_law_plus" = true) (k37 : PySem.W.keepIn K (.ref f37) = true)
    (a38 : PySem.W.nsIn K mainGlobals "_law_sum" = some (some (.ref f38))) (l38 : K.lookup f38 = some ⟨oc38, od38, .func (PySem.W.fnOf "_law_sum" "_law_sum" (defArgs s_sumL) (defBody s_sumL) (defScope s_sumL) .none kV38 dc38 pm38 an38 cd38 ct38), sl38⟩) (c38 : PySem.W.codeIn K cd38 "_law_sum" = true) (k38 : PySem.W.keepIn K (.ref f38) = true)
    (a39 : PySem.W.nsIn K mainGlobals "_law_less" = some (some (.ref f39))) (l39 : K.lookup f39 = some ⟨oc39, od39, .func (PySem.W.fnOf "_law_less" "_law_less" (defArgs s_lessL) (defBody s_lessL) (defScope s_lessL) .none kV39 dc39 pm39 an39 cd39 ct39), sl39⟩) (c39 : PySem.W.codeIn K cd39 "_law_less" = true) (k39 : PySem.W.keepIn K (.ref f39) = true)
    (a40 : PySem.W.nsIn K mainGlobals "_law_flaw" = some (some (.ref f40))) (l40 : K.lookup f40 = some ⟨oc40, od40, .func (PySem.W.fnOf "_law_flaw" "_law_flaw" (defArgs s_flawL) (defBody s_flawL) (defScope s_flawL) .none kV40 dc40 pm40 an40 cd40 ct40), sl40⟩) (c40 : PySem.W.codeIn K cd40 "_law_flaw" = true) (k40 : PySem.W.keepIn K (.ref f40) = true)
    (a41 : PySem.W.nsIn K mainGlobals "law" = some (some (.ref f41))) (l41 : K.lookup f41 = some ⟨oc41, od41, .func (PySem.W.fnOf "law" "law" (defArgs s_law) (defBody s_law) (defScope s_law) .none kV41 dc41 pm41 an41 cd41 ct41), sl41⟩) (c41 : PySem.W.codeIn K cd41 "law" = true) (k41 : PySem.W.keepIn K (.ref f41) = true)
    (z1 : PySem.W.nsIn K mainGlobals "isinstance" = some none)
    (z2 : PySem.W.nsIn K mainGlobals "int" = some none)
    (z3 : PySem.W.nsIn K mainGlobals "bool" = some none)
    (z4 : PySem.W.nsIn K mainGlobals "tuple" = some none)
    (z5 : PySem.W.nsIn K mainGlobals "list" = some none)
    (z6 : PySem.W.nsIn K mainGlobals "str" = some none)
    (z7 : PySem.W.nsIn K mainGlobals "len" = some none)
    (z8 : PySem.W.nsIn K mainGlobals "all" = some none)
    (z9 : PySem.W.nsIn K mainGlobals "set" = some none)
    (z10 : PySem.W.nsIn K mainGlobals "range" = some none)
    (z11 : PySem.W.nsIn K mainGlobals "sum" = some none)
    (z12 : PySem.W.nsIn K mainGlobals "abs" = some none)
    (z13 : PySem.W.nsIn K mainGlobals "max" = some none)
    (zG : PySem.W.nsIn K mainGlobals "gcd" = some (some (.builtin "math.gcd"))) (zM : PySem.W.nsIn K mainGlobals "MOST_COST" = some (some (.int 9999 tM))) :
    ∃ fd : FuncData, (∀ (s : Shared) (v : Value), BindsTo s fd ⟨[v], []⟩ [("_law_script", v)]) ∧ ∀ base : Heap, K.In base → base.Ns mainGlobals mg → FnOk l.prog w K mg base CX0 6 fa fd ["_law_script"] (spLaw K) := by
  have e := hfa.symm.trans (PySem.W.mg_of X G a41)
  cases e
  have T : Txt K mg := {
    b_isinstance := PySem.W.mg_none_of X G z1
    b_int := PySem.W.mg_none_of X G z2
    b_bool := PySem.W.mg_none_of X G z3
    b_tuple := PySem.W.mg_none_of X G z4
    b_list := PySem.W.mg_none_of X G z5
    b_str := PySem.W.mg_none_of X G z6
    b_len := PySem.W.mg_none_of X G z7
    b_all := PySem.W.mg_none_of X G z8
    b_set := PySem.W.mg_none_of X G z9
    b_range := PySem.W.mg_none_of X G z10
    b_sum := PySem.W.mg_none_of X G z11
    b_abs := PySem.W.mg_none_of X G z12
    b_max := PySem.W.mg_none_of X G z13
    gcd := PySem.W.mg_of X G zG
    most := ⟨tM, PySem.W.mg_of X G zM⟩
    d_whole := def_of X G a1 l1 c1 k1 fun _ _ _ _ _ _ us hl => match us, hl with | [_], _ => rfl
    d_within := def_of X G a2 l2 c2 k2 fun _ _ _ _ _ _ us hl => match us, hl with | [_, _, _], _ => rfl
    d_tuple_of := def_of X G a3 l3 c3 k3 fun _ _ _ _ _ _ us hl => match us, hl with | [_, _, _], _ => rfl
    d_is_ratio := def_of X G a4 l4 c4 k4 fun _ _ _ _ _ _ us hl => match us, hl with | [_], _ => rfl
    d_low := def_of X G a5 l5 c5 k5 fun _ _ _ _ _ _ us hl => match us, hl with | [_, _], _ => rfl
    d_plus := def_of X G a6 l6 c6 k6 fun _ _ _ _ _ _ us hl => match us, hl with | [_, _], _ => rfl
    d_is_less := def_of X G a7 l7 c7 k7 fun _ _ _ _ _ _ us hl => match us, hl with | [_, _], _ => rfl
    d_sum_of := def_of X G a8 l8 c8 k8 fun _ _ _ _ _ _ us hl => match us, hl with | [_], _ => rfl
    d_is_order := def_of X G a9 l9 c9 k9 fun _ _ _ _ _ _ us hl => match us, hl with | [_, _], _ => rfl
    d_need_order := def_of X G a10 l10 c10 k10 fun _ _ _ _ _ _ us hl => match us, hl with | [_, _], _ => rfl
    d_group_of := def_of X G a11 l11 c11 k11 fun _ _ _ _ _ _ us hl => match us, hl with | [_], _ => rfl
    d_members_of := def_of X G a12 l12 c12 k12 fun _ _ _ _ _ _ us hl => match us, hl with | [_], _ => rfl
    d_is_table := def_of X G a13 l13 c13 k13 fun _ _ _ _ _ _ us hl => match us, hl with | [_], _ => rfl
    d_need_table := def_of X G a14 l14 c14 k14 fun _ _ _ _ _ _ us hl => match us, hl with | [_], _ => rfl
    d_part_of := def_of X G a15 l15 c15 k15 fun _ _ _ _ _ _ us hl => match us, hl with | [_, _], _ => rfl
    d_marginals := def_of X G a16 l16 c16 k16 fun _ _ _ _ _ _ us hl => match us, hl with | [_, _], _ => rfl
    d_steps_of := def_of X G a17 l17 c17 k17 fun _ _ _ _ _ _ us hl => match us, hl with | [_], _ => rfl
    d_scheme_flaw := def_of X G a18 l18 c18 k18 fun _ _ _ _ _ _ us hl => match us, hl with | [_, _], _ => rfl
    d_order_scheme := def_of X G a19 l19 c19 k19 fun _ _ _ _ _ _ us hl => match us, hl with | [_, _], _ => rfl
    d_takenL := def_of X G a20 l20 c20 k20 fun _ _ _ _ _ _ us hl => match us, hl with | [_, _], _ => rfl
    d_membersL := def_of X G a21 l21 c21 k21 fun _ _ _ _ _ _ us hl => match us, hl with | [_, _], _ => rfl
    d_pickL := def_of X G a22 l22 c22 k22 fun _ _ _ _ _ _ us hl => match us, hl with | [_, _], _ => rfl
    d_touchedL := def_of X G a23 l23 c23 k23 fun _ _ _ _ _ _ us hl => match us, hl with | [_, _, _], _ => rfl
    d_groupL := def_of X G a24 l24 c24 k24 fun _ _ _ _ _ _ us hl => match us, hl with | [_], _ => rfl
    d_tableL := def_of X G a25 l25 c25 k25 fun _ _ _ _ _ _ us hl => match us, hl with | [_, _], _ => rfl
    d_ordersL := def_of X G a26 l26 c26 k26 fun _ _ _ _ _ _ us hl => match us, hl with | [_], _ => rfl
    d_alikeL := def_of X G a27 l27 c27 k27 fun _ _ _ _ _ _ us hl => match us, hl with | [_, _], _ => rfl
    d_addedL := def_of X G a28 l28 c28 k28 fun _ _ _ _ _ _ us hl => match us, hl with | [_, _], _ => rfl
    d_markL := def_of X G a29 l29 c29 k29 fun _ _ _ _ _ _ us hl => match us, hl with | [_], _ => rfl
    d_partL := def_of X G a30 l30 c30 k30 fun _ _ _ _ _ _ us hl => match us, hl with | [_, _], _ => rfl
    d_scheme_ofL := def_of X G a31 l31 c31 k31 fun _ _ _ _ _ _ us hl => match us, hl with | [_, _], _ => rfl
    d_sizeL := def_of X G a32 l32 c32 k32 fun _ _ _ _ _ _ us hl => match us, hl with | [_], _ => rfl
    d_bentL := def_of X G a33 l33 c33 k33 fun _ _ _ _ _ _ us hl => match us, hl with | [_], _ => rfl
    d_lowL := def_of X G a34 l34 c34 k34 fun _ _ _ _ _ _ us hl => match us, hl with | [_, _], _ => rfl
    d_ratioL := def_of X G a35 l35 c35 k35 fun _ _ _ _ _ _ us hl => match us, hl with | [_], _ => rfl
    d_are_ratiosL := def_of X G a36 l36 c36 k36 fun _ _ _ _ _ _ us hl => match us, hl with | [_, _], _ => rfl
    d_plusL := def_of X G a37 l37 c37 k37 fun _ _ _ _ _ _ us hl => match us, hl with | [_, _], _ => rfl
    d_sumL := def_of X G a38 l38 c38 k38 fun _ _ _ _ _ _ us hl => match us, hl with | [_], _ => rfl
    d_lessL := def_of X G a39 l39 c39 k39 fun _ _ _ _ _ _ us hl => match us, hl with | [_, _], _ => rfl
    d_flawL := def_of X G a40 l40 c40 k40 fun _ _ _ _ _ _ us hl => match us, hl with | [_, _], _ => rfl
  }
  exact ⟨PySem.W.fnOf "law" "law" (defArgs s_law) (defBody s_law) (defScope s_law) .none kV41 dc41 pm41 an41 cd41 ct41, fun s v => .of_eq rfl, fun base _ _ => law_ok (fun_mk (st := s_law) l41 c41 k41) T⟩
end Shr
open PySem PySem.W PyProof.Rows in
set_option maxHeartbeats 0 in
theorem PySem.Challenge.cw_sharewell_k27_whole_schemes_of_orders_holds : PySem.Challenge.rw_sharewell_k27_whole_schemes_of_orders.Holds := by
  w_on; o_law; k_head; (case hw => w_witness2)
  k_fill
  refine L2.walk_of (l := PySem.Challenge.rw_sharewell_k27_whole_schemes_of_orders) (n := 63) (k := 6) (x := "_law_script") (CX := fun _ => L2.CX0) (sp := fun w => Shr.spLaw _) rfl (by decide) rfl ⟨rfl, by decide, by decide⟩ (fun w h Y => PySem.W.kIn_of Y) ?F (fun _ _ a ns hl _ hS => ⟨a, ns, rfl, hS, fun _ => rfl⟩) (fun _ _ _ _ _ h => h)
  case F =>
    intro w mg fa h KX G hmg
    refine' Shr.all_mk KX G hmg ?a1 ?l1 ?c1 ?k1 ?a2 ?l2 ?c2 ?k2 ?a3 ?l3 ?c3 ?k3 ?a4 ?l4 ?c4 ?k4 ?a5 ?l5 ?c5 ?k5 ?a6 ?l6 ?c6 ?k6 ?a7 ?l7 ?c7 ?k7 ?a8 ?l8 ?c8 ?k8 ?a9 ?l9 ?c9 ?k9 ?a10 ?l10 ?c10 ?k10 ?a11 ?l11 ?c11 ?k11 ?a12 ?l12 ?c12 ?k12 ?a13 ?l13 ?c13 ?k13 ?a14 ?l14 ?c14 ?k14 ?a15 ?l15 ?c15 ?k15 ?a16 ?l16 ?c16 ?k16 ?a17 ?l17 ?c17 ?k17 ?a18 ?l18 ?c18 ?k18 ?a19 ?l19 ?c19 ?k19 ?a20 ?l20 ?c20 ?k20 ?a21 ?l21 ?c21 ?k21 ?a22 ?l22 ?c22 ?k22 ?a23 ?l23 ?c23 ?k23 ?a24 ?l24 ?c24 ?k24 ?a25 ?l25 ?c25 ?k25 ?a26 ?l26 ?c26 ?k26 ?a27 ?l27 ?c27 ?k27 ?a28 ?l28 ?c28 ?k28 ?a29 ?l29 ?c29 ?k29 ?a30 ?l30 ?c30 ?k30 ?a31 ?l31 ?c31 ?k31 ?a32 ?l32 ?c32 ?k32 ?a33 ?l33 ?c33 ?k33 ?a34 ?l34 ?c34 ?k34 ?a35 ?l35 ?c35 ?k35 ?a36 ?l36 ?c36 ?k36 ?a37 ?l37 ?c37 ?k37 ?a38 ?l38 ?c38 ?k38 ?a39 ?l39 ?c39 ?k39 ?a40 ?l40 ?c40 ?k40 ?a41 ?l41 ?c41 ?k41 ?z1 ?z2 ?z3 ?z4 ?z5 ?z6 ?z7 ?z8 ?z9 ?z10 ?z11 ?z12 ?z13 ?zG ?zM
    (case a1 => k_is); (case l1 => k_is); (case c1 => k_is); (case k1 => k_is)
    (case a2 => k_is); (case l2 => k_is); (case c2 => k_is); (case k2 => k_is)
    (case a3 => k_is); (case l3 => k_is); (case c3 => k_is); (case k3 => k_is)
    (case a4 => k_is); (case l4 => k_is); (case c4 => k_is); (case k4 => k_is)
    (case a5 => k_is); (case l5 => k_is); (case c5 => k_is); (case k5 => k_is)
    (case a6 => k_is); (case l6 => k_is); (case c6 => k_is); (case k6 => k_is)
    (case a7 => k_is); (case l7 => k_is); (case c7 => k_is); (case k7 => k_is)
    (case a8 => k_is); (case l8 => k_is); (case c8 => k_is); (case k8 => k_is)
    (case a9 => k_is); (case l9 => k_is); (case c9 => k_is); (case k9 => k_is)
    (case a10 => k_is); (case l10 => k_is); (case c10 => k_is); (case k10 => k_is)
    (case a11 => k_is); (case l11 => k_is); (case c11 => k_is); (case k11 => k_is)
    (case a12 => k_is); (case l12 => k_is); (case c12 => k_is); (case k12 => k_is)
    (case a13 => k_is); (case l13 => k_is); (case c13 => k_is); (case k13 => k_is)
    (case a14 => k_is); (case l14 => k_is); (case c14 => k_is); (case k14 => k_is)
    (case a15 => k_is); (case l15 => k_is); (case c15 => k_is); (case k15 => k_is)
    (case a16 => k_is); (case l16 => k_is); (case c16 => k_is); (case k16 => k_is)
    (case a17 => k_is); (case l17 => k_is); (case c17 => k_is); (case k17 => k_is)
    (case a18 => k_is); (case l18 => k_is); (case c18 => k_is); (case k18 => k_is)
    (case a19 => k_is); (case l19 => k_is); (case c19 => k_is); (case k19 => k_is)
    (case a20 => k_is); (case l20 => k_is); (case c20 => k_is); (case k20 => k_is)
    (case a21 => k_is); (case l21 => k_is); (case c21 => k_is); (case k21 => k_is)
    (case a22 => k_is); (case l22 => k_is); (case c22 => k_is); (case k22 => k_is)
    (case a23 => k_is); (case l23 => k_is); (case c23 => k_is); (case k23 => k_is)
    (case a24 => k_is); (case l24 => k_is); (case c24 => k_is); (case k24 => k_is)
    (case a25 => k_is); (case l25 => k_is); (case c25 => k_is); (case k25 => k_is)
    (case a26 => k_is); (case l26 => k_is); (case c26 => k_is); (case k26 => k_is)
    (case a27 => k_is); (case l27 => k_is); (case c27 => k_is); (case k27 => k_is)
    (case a28 => k_is); (case l28 => k_is); (case c28 => k_is); (case k28 => k_is)
    (case a29 => k_is); (case l29 => k_is); (case c29 => k_is); (case k29 => k_is)
    (case a30 => k_is); (case l30 => k_is); (case c30 => k_is); (case k30 => k_is)
    (case a31 => k_is); (case l31 => k_is); (case c31 => k_is); (case k31 => k_is)
    (case a32 => k_is); (case l32 => k_is); (case c32 => k_is); (case k32 => k_is)
    (case a33 => k_is); (case l33 => k_is); (case c33 => k_is); (case k33 => k_is)
    (case a34 => k_is); (case l34 => k_is); (case c34 => k_is); (case k34 => k_is)
    (case a35 => k_is); (case l35 => k_is); (case c35 => k_is); (case k35 => k_is)
    (case a36 => k_is); (case l36 => k_is); (case c36 => k_is); (case k36 => k_is)
    (case a37 => k_is); (case l37 => k_is); (case c37 => k_is); (case k37 => k_is)
    (case a38 => k_is); (case l38 => k_is); (case c38 => k_is); (case k38 => k_is)
    (case a39 => k_is); (case l39 => k_is); (case c39 => k_is); (case k39 => k_is)
    (case a40 => k_is); (case l40 => k_is); (case c40 => k_is); (case k40 => k_is)
    (case a41 => k_is); (case l41 => k_is); (case c41 => k_is); (case k41 => k_is)
    (case z1 => k_is); (case z2 => k_is); (case z3 => k_is); (case z4 => k_is)
    (case z5 => k_is); (case z6 => k_is); (case z7 => k_is); (case z8 => k_is)
    (case z9 => k_is); (case z10 => k_is); (case z11 => k_is); (case z12 => k_is)
    (case z13 => k_is); (case zG => k_is); (case zM => k_is)
#print axioms PySem.Challenge.cw_sharewell_k27_whole_schemes_of_orders_holds


