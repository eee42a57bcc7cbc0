import PyProof.Rows.All
import Wide.All
import OpenK.AllK
import Wide.FinOn
import KE.GoesEnum
import KE.LtSeq
import KE.KDictKeyed
import KE.KDictLaw
import HandS.ForMost
import HandS.TupAny
import HandS.Star
import HandS.Conv
import HandS.IsInst
import HandS.Strs
import HandS.SortInts
import HandS.Sort
import HandS.SetFor
import HandS.Style
import HandS.Walk
import KE.DataMinMax
import PySem.Challenge.RW_overtake_k73_whole_gains_of_orders
set_option linter.all false
/-! Lines as lists of ints: calls, wrong pairs, gains, all orders, the count with memory. Plain Lean, no program in sight. -/
namespace Ov
/-- the ints from 0 below n -/
def rangeI (n : Nat) : List Int := (List.range n).map fun i : Nat => (i : Int)
theorem rangeI_length (n : Nat) : (rangeI n).length = n := by simp [rangeI]
theorem mem_rangeI {n : Nat} {p : Int} : p ∈ rangeI n ↔ 0 ≤ p ∧ p < (n : Int) := by
  unfold rangeI
  simp only [List.mem_map, List.mem_range]
  constructor
  · rintro ⟨i, h, rfl⟩; omega
  · rintro ⟨h0, h1⟩; exact ⟨p.toNat, by omega, by omega⟩
theorem rangeI_nodup (n : Nat) : (rangeI n).Nodup := by
  unfold rangeI
  refine List.Pairwise.map _ ?_ (List.nodup_range (n := n))
  intro a b h e
  exact h (by omega)
/-- a line of n people -/
structure IsLine (n : Nat) (l : List Int) : Prop where
  len : l.length = n
  nd : l.Nodup
  mem : ∀ p, p ∈ l ↔ 0 ≤ p ∧ p < (n : Int)
theorem IsLine.of_perm {n : Nat} {l : List Int} (h : l.Perm (rangeI n)) : IsLine n l :=
  ⟨by rw [h.length_eq, rangeI_length], h.nodup_iff.mpr (rangeI_nodup n), fun p => by rw [h.mem_iff, mem_rangeI]⟩
theorem IsLine.perm {n : Nat} {l m : List Int} (h : IsLine n l) (e : m.Perm l) : IsLine n m :=
  ⟨by rw [e.length_eq, h.len], e.nodup_iff.mpr h.nd, fun p => by rw [e.mem_iff, h.mem]⟩
/-! ### a call -/
def back (l : List Int) (p : Int) : Nat → Nat
  | 0 => 0
  | k + 1 => if l.getD k 0 < p then back l p k else k + 1
def goal (l : List Int) (p : Int) : Nat := back l p (l.idxOf p)
def callL (l : List Int) (p : Int) : List Int :=
  l.take (goal l p) ++ p :: ((l.drop (goal l p)).take (l.idxOf p - goal l p) ++ l.drop (l.idxOf p + 1))
theorem back_le (l : List Int) (p : Int) : ∀ k, back l p k ≤ k
  | 0 => Nat.le_refl 0
  | k + 1 => by
    unfold back
    split
    · exact Nat.le_succ_of_le (back_le l p k)
    · exact Nat.le_refl _
theorem back_lt (l : List Int) (p : Int) : ∀ k i, back l p k ≤ i → i < k → l.getD i 0 < p
  | 0, _, _, h => absurd h (Nat.not_lt_zero _)
  | k + 1, i, h1, h2 => by
    unfold back at h1
    split at h1
    · rename_i hk
      by_cases e : i = k
      · subst e; exact hk
      · exact back_lt l p k i h1 (by omega)
    · omega
theorem back_stop (l : List Int) (p : Int) : ∀ k, back l p k ≠ 0 → ¬ l.getD (back l p k - 1) 0 < p
  | 0, h => absurd rfl h
  | k + 1, h => by
    unfold back at h ⊢
    split
    · rename_i hk
      rw [if_pos hk] at h
      exact back_stop l p k h
    · rename_i hk
      exact hk
theorem goal_le (l : List Int) (p : Int) : goal l p ≤ l.idxOf p := back_le _ _ _
theorem getD_eq {l : List Int} {i : Nat} (h : i < l.length) : l.getD i 0 = l[i] := by
  rw [List.getD_eq_getElem?_getD, List.getElem?_eq_getElem h]
  rfl
theorem idxOf_split {l : List Int} {p : Int} (h : p ∈ l) : l.idxOf p < l.length ∧ l = l.take (l.idxOf p) ++ p :: l.drop (l.idxOf p + 1) ∧ p ∉ l.take (l.idxOf p) := by
  have h1 : l.idxOf p < l.length := List.idxOf_lt_length_of_mem h
  have h2 : l[l.idxOf p] = p := List.getElem_idxOf h1
  refine ⟨h1, ?_, ?_⟩
  · have e := List.drop_eq_getElem_cons h1
    rw [h2] at e
    rw [← e, List.take_append_drop]
  · intro hm
    obtain ⟨i, hi, e⟩ := List.mem_take_iff_getElem.mp hm
    have : l.idxOf p ≤ i := by
      have hi' : i < l.length := by omega
      apply Nat.le_of_not_lt
      intro hlt
      have := List.not_of_lt_findIdx (p := (· == p)) (xs := l) (i := i) hlt
      simp [e] at this
    omega
/-- how a call moves: B, all shorter, is passed -/
structure Split (l : List Int) (p : Int) (A B C : List Int) : Prop where
  eq : l = A ++ (B ++ p :: C)
  noA : p ∉ A
  noB : p ∉ B
  low : ∀ b ∈ B, b < p
  top : A = [] ∨ ∃ A' a, A = A' ++ [a] ∧ p ≤ a
  goal : goal l p = A.length
  idx : l.idxOf p = A.length + B.length
  call : callL l p = A ++ p :: (B ++ C)
theorem split_of {l : List Int} {p : Int} (h : p ∈ l) : ∃ A B C, Split l p A B C := by
  obtain ⟨h1, h2, h3⟩ := idxOf_split h
  have hg := goal_le l p
  refine ⟨l.take (goal l p), (l.drop (goal l p)).take (l.idxOf p - goal l p), l.drop (l.idxOf p + 1), ?_, ?_, ?_, ?_, ?_, ?_, ?_, rfl⟩
  · have e : l.take (goal l p) ++ (l.drop (goal l p)).take (l.idxOf p - goal l p) = l.take (l.idxOf p) := by
      rw [← List.take_add]
      congr 1
      omega
    rw [← List.append_assoc, e]
    exact h2
  · intro hm
    exact h3 ((List.take_subset_take_left l hg) hm)
  · intro hm
    refine h3 ?_
    rw [List.take_drop] at hm
    have := List.mem_of_mem_drop hm
    rwa [show goal l p + (l.idxOf p - goal l p) = l.idxOf p by omega] at this
  · intro b hb
    obtain ⟨i, hi, e⟩ := List.mem_take_iff_getElem.mp hb
    rw [List.getElem_drop] at e
    have hi1 : i < l.idxOf p - goal l p := by omega
    have := back_lt l p (l.idxOf p) (goal l p + i) (Nat.le_add_right _ _) (by omega)
    rw [getD_eq (by omega)] at this
    rw [← e]; exact this
  · by_cases e : goal l p = 0
    · left; rw [e]; rfl
    · right
      have hs := back_stop l p (l.idxOf p) e
      have hlt : goal l p - 1 < l.length := by omega
      refine ⟨l.take (goal l p - 1), l[goal l p - 1], ?_, ?_⟩
      · have := List.take_concat_get (l := l) (i := goal l p - 1) hlt
        rw [List.concat_eq_append, show goal l p - 1 + 1 = goal l p by omega] at this
        exact this.symm
      · change ¬ l.getD (goal l p - 1) 0 < p at hs
        rw [getD_eq hlt] at hs
        omega
  · rw [List.length_take]; omega
  · rw [List.length_take, List.length_take, List.length_drop]; omega
theorem Split.perm {l : List Int} {p : Int} {A B C : List Int} (s : Split l p A B C) : (callL l p).Perm l := by
  rw [s.call, s.eq]
  exact List.Perm.append_left A (List.perm_middle.symm)
theorem call_perm {l : List Int} {p : Int} (h : p ∈ l) : (callL l p).Perm l := by
  obtain ⟨A, B, C, s⟩ := split_of h
  exact s.perm
theorem IsLine.call {n : Nat} {l : List Int} {p : Int} (h : IsLine n l) (hp : 0 ≤ p ∧ p < (n : Int)) : IsLine n (callL l p) :=
  h.perm (call_perm ((h.mem p).mpr hp))
theorem Split.idxCall {l : List Int} {p : Int} {A B C : List Int} (s : Split l p A B C) : (callL l p).idxOf p = A.length := by
  rw [s.call, List.idxOf_append, if_neg s.noA, List.idxOf_cons_self, Nat.zero_add]
/-! ### wrong pairs -/
def inv : List Int → Nat
  | [] => 0
  | x :: r => r.countP (fun y => decide (x < y)) + inv r
theorem inv_pre {X Y : List Int} (h : X.Perm Y) : ∀ A : List Int, inv (A ++ X) + inv Y = inv (A ++ Y) + inv X
  | [] => Nat.add_comm _ _
  | a :: A => by
    have ih := inv_pre h A
    have e : (A ++ X).countP (fun y => decide (a < y)) = (A ++ Y).countP (fun y => decide (a < y)) := (h.append_left A).countP_eq _
    show (A ++ X).countP _ + inv (A ++ X) + inv Y = (A ++ Y).countP _ + inv (A ++ Y) + inv X
    rw [e]
    omega
theorem inv_move {p : Int} {C : List Int} : ∀ B : List Int, (∀ b ∈ B, b < p) → inv (B ++ p :: C) = B.length + inv (p :: (B ++ C))
  | [], _ => by simp
  | b :: B, h => by
    have ih := inv_move (p := p) (C := C) B fun x hx => h x (List.mem_cons_of_mem _ hx)
    have hb : b < p := h b (List.mem_cons_self ..)
    have hnp : ¬ p < b := by omega
    show (B ++ p :: C).countP (fun y => decide (b < y)) + inv (B ++ p :: C) = (B.length + 1) + (((b :: (B ++ C)).countP (fun y => decide (p < y))) + ((B ++ C).countP (fun y => decide (b < y)) + inv (B ++ C)))
    rw [ih]
    show _ + (B.length + ((B ++ C).countP (fun y => decide (p < y)) + inv (B ++ C))) = _
    rw [List.countP_append, List.countP_cons_of_pos (by simpa using hb), List.countP_cons_of_neg (by simpa using hnp), List.countP_append (p := fun y => decide (b < y))]
    omega
theorem Split.inv {l : List Int} {p : Int} {A B C : List Int} (s : Split l p A B C) : inv (callL l p) + B.length = inv l := by
  have e1 := inv_move (p := p) (C := C) B s.low
  have e2 := inv_pre (X := B ++ p :: C) (Y := p :: (B ++ C)) List.perm_middle A
  rw [s.call]
  conv => rhs; rw [s.eq]
  omega
theorem inv_zero_iff : ∀ l : List Int, inv l = 0 ↔ l.Pairwise (fun x y => ¬ x < y)
  | [] => by simp [inv]
  | x :: r => by
    have ih := inv_zero_iff r
    unfold inv
    rw [List.pairwise_cons, Nat.add_eq_zero_iff, List.countP_eq_zero, ih]
    simp
/-! ### what the program counts, and what the law counts -/
/-- the pairs (shorter, taller) of one taller, as the program finds them -/
def shorter (l : List Int) (p : Int) : List Int := (l.take (l.idxOf p)).filter fun o => decide (o < p)
def wrongP (l : List Int) : List (Int × Int) := l.flatMap fun p => (shorter l p).map fun o => (o, p)
theorem idxOf_mid {A C : List Int} {p : Int} (h : p ∉ A) : (A ++ p :: C).idxOf p = A.length := by
  rw [List.idxOf_append, if_neg h, List.idxOf_cons_self, Nat.zero_add]
theorem take_mid {A C : List Int} {p : Int} (h : p ∉ A) : (A ++ p :: C).take ((A ++ p :: C).idxOf p) = A := by
  rw [idxOf_mid h, List.take_left]
theorem sum_cross (A : List Int) (p : Int) : ∀ r : List Int, (r.map fun q => (A ++ [p]).countP (fun o => decide (o < q))).sum = (r.map fun q => A.countP (fun o => decide (o < q))).sum + r.countP (fun y => decide (p < y))
  | [] => rfl
  | q :: r => by
    have ih := sum_cross A p r
    rw [List.map_cons, List.sum_cons, List.map_cons, List.sum_cons, ih, List.countP_append, List.countP_cons, List.countP_cons]
    simp only [List.countP_nil, Nat.zero_add]
    omega
theorem wrong_aux : ∀ (r A : List Int), (A ++ r).Nodup →
    (r.map fun p => (shorter (A ++ r) p).length).sum = (r.map fun q => A.countP (fun o => decide (o < q))).sum + inv r
  | [], A, _ => rfl
  | p :: r, A, h => by
    have hA : p ∉ A := by
      intro hm
      have := (List.nodup_append.mp h).2.2 p hm p (List.mem_cons_self ..)
      exact this rfl
    have ih := wrong_aux r (A ++ [p]) (by rw [List.append_assoc]; exact h)
    rw [List.append_assoc] at ih
    change (r.map fun p_1 => (shorter (A ++ p :: r) p_1).length).sum = _ at ih
    rw [List.map_cons, List.sum_cons, ih, sum_cross, List.map_cons, List.sum_cons]
    have e : (shorter (A ++ p :: r) p).length = A.countP (fun o => decide (o < p)) := by
      unfold shorter
      rw [take_mid hA, List.countP_eq_length_filter]
    rw [e]
    show _ = _ + _ + (r.countP (fun y => decide (p < y)) + inv r)
    omega
theorem wrongP_length {l : List Int} (h : l.Nodup) : (wrongP l).length = inv l := by
  have := wrong_aux l [] h
  unfold wrongP
  rw [List.length_flatMap]
  simp only [List.length_map]
  rw [List.nil_append] at this
  rw [this]
  have z : ∀ r : List Int, (r.map fun q => ([] : List Int).countP (fun o => decide (o < q))).sum = 0 := fun r => by
    induction r with
    | nil => rfl
    | cons a r ih => rw [List.map_cons, List.sum_cons, ih]; rfl
  rw [z, Nat.zero_add]
/-- somebody shorter stands ahead of p -/
theorem shorter_ne_nil {l : List Int} {p : Int} : shorter l p ≠ [] ↔ ∃ o, o ∈ l.take (l.idxOf p) ∧ o < p := by
  unfold shorter
  constructor
  · intro h
    obtain ⟨o, ho⟩ := List.exists_mem_of_ne_nil _ h
    rw [List.mem_filter] at ho
    exact ⟨o, ho.1, of_decide_eq_true ho.2⟩
  · rintro ⟨o, h1, h2⟩ e
    have : o ∈ (l.take (l.idxOf p)).filter fun o => decide (o < p) := List.mem_filter.mpr ⟨h1, decide_eq_true h2⟩
    rw [e] at this
    cases this
/-! ### gains -/
def gainsGo : List Int → List Int → List Int → List Int
  | [], _, g => g
  | p :: os, h, g => gainsGo os (callL h p) (g.set p.toNat ((h.idxOf p : Int) - ((callL h p).idxOf p : Int)))
theorem gain_eq {l : List Int} {p : Int} (h : p ∈ l) : ((l.idxOf p : Int) - ((callL l p).idxOf p : Int)) = (inv l : Int) - (inv (callL l p) : Int) := by
  obtain ⟨A, B, C, s⟩ := split_of h
  have e1 := s.idx
  have e2 := s.idxCall
  have e3 := s.inv
  omega
theorem sum_set : ∀ (g : List Int) (i : Nat) (v : Int), g[i]? = some 0 → (g.set i v).sum = g.sum + v
  | [], _, _, h => by simp at h
  | a :: g, 0, v, h => by
    have e : a = 0 := by simpa using h
    rw [List.set_cons_zero, List.sum_cons, List.sum_cons, e]; omega
  | a :: g, i + 1, v, h => by
    rw [List.set_cons_succ, List.sum_cons, List.sum_cons, sum_set g i v (by simpa using h)]; omega
theorem gains_sum : ∀ (os h g : List Int), os.Nodup → (∀ p ∈ os, p ∈ h ∧ 0 ≤ p ∧ g[p.toNat]? = some 0) →
    (gainsGo os h g).sum = g.sum + (inv h : Int) - (inv (os.foldl callL h) : Int)
  | [], h, g, _, _ => by
    show g.sum = g.sum + (inv h : Int) - (inv h : Int)
    omega
  | p :: os, h, g, nd, hm => by
    obtain ⟨h1, h2, h3⟩ := hm p (List.mem_cons_self ..)
    obtain ⟨hn, nd'⟩ := List.nodup_cons.mp nd
    show (gainsGo os (callL h p) _).sum = g.sum + (inv h : Int) - (inv (os.foldl callL (callL h p)) : Int)
    rw [gains_sum os _ _ nd' fun q hq => ?_, sum_set g _ _ h3, gain_eq h1]
    · omega
    · obtain ⟨q1, q2, q3⟩ := hm q (List.mem_cons_of_mem _ hq)
      refine ⟨(call_perm h1).mem_iff.mpr q1, q2, ?_⟩
      have hne : p.toNat ≠ q.toNat := fun e => hn (by
        have : p = q := by omega
        rw [this]; exact hq)
      rw [List.getElem?_set_ne hne]
      exact q3
theorem gainsGo_length : ∀ (os h g : List Int), (gainsGo os h g).length = g.length
  | [], _, _ => rfl
  | p :: os, h, g => by
    show (gainsGo os _ _).length = _
    rw [gainsGo_length, List.length_set]
/-! ### all lines, all orders -/
def fit (n : Nat) (r : List Int) : List Int := (rangeI n).filter fun p => !r.contains p
def ext (n : Nat) (r : List Int) : List (List Int) := (fit n r).map fun p => r ++ [p]
def linesN (n : Nat) : Nat → List (List Int)
  | 0 => [[]]
  | k + 1 => (linesN n k).flatMap (ext n)
theorem mem_fit {n : Nat} {r : List Int} {p : Int} : p ∈ fit n r ↔ (0 ≤ p ∧ p < (n : Int)) ∧ p ∉ r := by
  unfold fit
  rw [List.mem_filter, mem_rangeI]
  simp
theorem mem_linesN {n : Nat} : ∀ (k : Nat) (r : List Int), r ∈ linesN n k ↔ r.length = k ∧ r.Nodup ∧ ∀ p ∈ r, 0 ≤ p ∧ p < (n : Int)
  | 0, r => by
    unfold linesN
    rw [List.mem_singleton]
    constructor
    · rintro rfl; exact ⟨rfl, List.nodup_nil, fun p h => nomatch h⟩
    · rintro ⟨h, _⟩; exact List.eq_nil_of_length_eq_zero h
  | k + 1, r => by
    unfold linesN
    rw [List.mem_flatMap]
    constructor
    · rintro ⟨q, hq, hr⟩
      obtain ⟨l, nd, m⟩ := (mem_linesN k q).mp hq
      unfold ext at hr
      obtain ⟨p, hp, rfl⟩ := List.mem_map.mp hr
      obtain ⟨h1, h2⟩ := mem_fit.mp hp
      refine ⟨by simp [l], ?_, ?_⟩
      · rw [List.nodup_append]
        exact ⟨nd, by simp, fun a ha b hb => by
          rw [List.mem_singleton] at hb
          rintro rfl
          exact h2 (hb ▸ ha)⟩
      · intro a ha
        rcases List.mem_append.mp ha with ha | ha
        · exact m a ha
        · rw [List.mem_singleton] at ha; rw [ha]; exact h1
    · rintro ⟨l, nd, m⟩
      have hne : r ≠ [] := by rintro rfl; cases l
      refine ⟨r.dropLast, (mem_linesN k _).mpr ⟨by rw [List.length_dropLast, l]; rfl, nd.sublist (List.dropLast_sublist r), fun p hp => m p ((List.dropLast_sublist r).subset hp)⟩, ?_⟩
      unfold ext
      refine List.mem_map.mpr ⟨r.getLast hne, mem_fit.mpr ⟨m _ (List.getLast_mem hne), ?_⟩, List.dropLast_concat_getLast hne⟩
      intro hm
      have e := List.dropLast_concat_getLast hne
      rw [← e, List.nodup_append] at nd
      exact nd.2.2 _ hm _ (List.mem_singleton_self _) rfl
theorem isLine_iff {n : Nat} {l : List Int} (h : IsLine n l) : l ∈ linesN n n := (mem_linesN n l).mpr ⟨h.len, h.nd, fun p hp => (h.mem p).mp hp⟩
end Ov
set_option linter.all false
/-! The count with memory is the count over all orders; the least and the greatest number left. -/
namespace Ov
/-- who has somebody shorter ahead -/
def callersL (l : List Int) : List Int := (rangeI l.length).filter fun p => decide (shorter l p ≠ [])
/-- the done ones and one more, ascending -/
def put (d : List Int) (p : Int) : List Int := (d ++ [p]).mergeSort (fun a b => decide (a ≤ b))
theorem put_perm (d : List Int) (p : Int) : (put d p).Perm (d ++ [p]) := List.mergeSort_perm _ _
theorem put_sorted (d : List Int) (p : Int) : (put d p).Pairwise (· ≤ ·) := by
  have h := List.pairwise_mergeSort (le := fun a b : Int => decide (a ≤ b)) (fun a b c h1 h2 => by simp at *; omega) (fun a b => by simp; omega) (d ++ [p])
  exact h.imp fun h => by simpa using h
theorem put_unique {d ns : List Int} {p : Int} (h1 : ns.Perm (d ++ [p])) (h2 : ns.Pairwise (· ≤ ·)) : ns = put d p :=
  List.Perm.eq_of_pairwise (le := (· ≤ ·)) (fun a b _ _ h3 h4 => by omega) h2 (put_sorted d p) (h1.trans (put_perm d p).symm)
/-- the count with memory, without the memory: so deep at most -/
def cf : Nat → List Int → List Int → Int
  | 0, _, _ => 0
  | k + 1, l, d =>
    if (callersL l).any (fun p => d.contains p) then 0
    else if d.length = l.length then 1
    else ((fit l.length d).map fun p => cf k (callL l p) (put d p)).sum
/-- of all ways to call the others, one by one: how many end with nobody wrong -/
def ways (n : Nat) : Nat → List Int → List Int → Nat
  | 0, l, _ => if inv l = 0 then 1 else 0
  | k + 1, l, r => ((fit n r).map fun p => ways n k (callL l p) (r ++ [p])).sum
theorem countP_ext (P : List Int → Bool) (n : Nat) : ∀ (L : List (List Int)), (L.flatMap (ext n)).countP P = (L.map fun r => (ext n r).countP P).sum
  | [] => rfl
  | r :: L => by rw [List.flatMap_cons, List.countP_append, countP_ext P n L, List.map_cons, List.sum_cons]
/-- from a list of beginnings, k more -/
def grow (n : Nat) : Nat → List (List Int) → List (List Int)
  | 0, L => L
  | k + 1, L => grow n k (L.flatMap (ext n))
theorem grow_succ (n : Nat) : ∀ (k : Nat) (L : List (List Int)), grow n (k + 1) L = (grow n k L).flatMap (ext n)
  | 0, L => rfl
  | k + 1, L => grow_succ n k (L.flatMap (ext n))
theorem linesN_grow (n : Nat) : ∀ k, linesN n k = grow n k [[]]
  | 0 => rfl
  | k + 1 => by rw [grow_succ, ← linesN_grow n k]; rfl
theorem grow_count (P : List Int → Bool) (n : Nat) : ∀ (k : Nat) (L : List (List Int)), (grow n k L).countP P = (L.map fun r => (grow n k [r]).countP P).sum
  | 0, L => by
    show L.countP P = (L.map fun r => [r].countP P).sum
    induction L with
    | nil => rfl
    | cons r L ih => rw [List.map_cons, List.sum_cons, ← ih, ← List.countP_append]; rfl
  | k + 1, L => by
    show (grow n k (L.flatMap (ext n))).countP P = (L.map fun r => (grow n k ([r].flatMap (ext n))).countP P).sum
    induction L with
    | nil =>
      rw [grow_count P n k]; rfl
    | cons r L ih =>
      rw [List.map_cons, List.sum_cons, ← ih, grow_count P n k, List.flatMap_cons, List.map_append, List.sum_append, ← grow_count P n k, ← grow_count P n k]
      simp [List.flatMap_cons]
theorem foldl_snoc (l : List Int) (r : List Int) (p : Int) : (r ++ [p]).foldl callL l = callL (r.foldl callL l) p := by
  rw [List.foldl_append]; rfl
theorem ways_grow (n : Nat) (l0 : List Int) : ∀ (k : Nat) (r : List Int), (grow n k [r]).countP (fun o => decide (inv (o.foldl callL l0) = 0)) = ways n k (r.foldl callL l0) r
  | 0, r => by
    show [r].countP (fun o => decide (inv (o.foldl callL l0) = 0)) = if inv (r.foldl callL l0) = 0 then 1 else 0
    rw [List.countP_cons, List.countP_nil, Nat.zero_add]
    simp
  | k + 1, r => by
    show (grow n k ([r].flatMap (ext n))).countP _ = ((fit n r).map fun p => ways n k (callL (r.foldl callL l0) p) (r ++ [p])).sum
    rw [grow_count]
    have e : [r].flatMap (ext n) = ext n r := by simp [List.flatMap_cons]
    rw [e]
    unfold ext
    rw [List.map_map]
    congr 1
    refine List.map_congr_left fun p _ => ?_
    show (grow n k [r ++ [p]]).countP _ = _
    rw [ways_grow n l0 k (r ++ [p]), foldl_snoc]
theorem ways_lines (n : Nat) (l0 : List Int) : (linesN n n).countP (fun o => decide (inv (o.foldl callL l0) = 0)) = ways n n l0 [] := by
  rw [linesN_grow]
  exact ways_grow n l0 n []
/-- somebody shorter ahead stays ahead while one is not called -/
theorem shorter_stays {l : List Int} {p q : Int} (nd : l.Nodup) (hq : q ∈ l) (hp : p ∈ l) (hne : q ≠ p) (h : shorter l p ≠ []) : shorter (callL l q) p ≠ [] := by
  obtain ⟨o, ho, hop⟩ := shorter_ne_nil.mp h
  obtain ⟨A, B, C, s⟩ := split_of hq
  refine shorter_ne_nil.mpr ⟨o, ?_, hop⟩
  have hs := idxOf_split hp
  have hs' := idxOf_split ((s.perm.mem_iff).mpr hp)
  -- o stands ahead of p in l: (take ..) = X, l = X ++ p :: Y
  have key : ∀ (m X Y : List Int), m = X ++ p :: Y → p ∉ X → m.take (m.idxOf p) = X := fun m X Y e hX => by
    rw [e]; exact take_mid hX
  have hbA : p ∈ A ∨ p ∈ B ∨ p ∈ C := by
    have hm := hp
    rw [s.eq] at hm
    rcases List.mem_append.mp hm with hm | hm
    · exact .inl hm
    · rcases List.mem_append.mp hm with hm | hm
      · exact .inr (.inl hm)
      · rcases List.mem_cons.mp hm with hm | hm
        · exact absurd hm.symm hne
        · exact .inr (.inr hm)
  have hndl := nd
  rw [s.eq] at hndl
  have hlow := s.low
  rcases hbA with hA | hB | hC
  · obtain ⟨A1, A2, rfl, hA1⟩ := List.append_of_mem hA |> fun ⟨x, y, e⟩ => (List.eq_append_cons_of_mem hA)
    rw [key l A1 (A2 ++ (B ++ q :: C)) (by rw [s.eq]; simp) hA1] at ho
    rw [key (callL l q) A1 (A2 ++ q :: (B ++ C)) (by rw [s.call]; simp) hA1]
    exact ho
  · obtain ⟨B1, B2, rfl, hB1⟩ := List.eq_append_cons_of_mem hB
    have hpA : p ∉ A := fun hm => (List.nodup_append.mp hndl).2.2 p hm p (by simp) rfl
    rw [key l (A ++ B1) (B2 ++ q :: C) (by rw [s.eq]; simp) (by simp [hpA, hB1])] at ho
    rw [key (callL l q) (A ++ q :: B1) (B2 ++ C) (by rw [s.call]; simp) (by simp [hpA, hB1, hne.symm])]
    rcases List.mem_append.mp ho with ho | ho
    · exact List.mem_append_left _ ho
    · exact List.mem_append_right _ (List.mem_cons_of_mem _ ho)
  · obtain ⟨C1, C2, rfl, hC1⟩ := List.eq_append_cons_of_mem hC
    have hpA : p ∉ A := fun hm => (List.nodup_append.mp hndl).2.2 p hm p (by simp) rfl
    have hpB : p ∉ B := fun hm => by
      have h2 := (List.nodup_append.mp hndl).2.1
      exact (List.nodup_append.mp h2).2.2 p hm p (by simp) rfl
    rw [key l (A ++ (B ++ q :: C1)) C2 (by rw [s.eq]; simp) (by simp [hpA, hpB, hC1, hne.symm])] at ho
    rw [key (callL l q) (A ++ q :: (B ++ C1)) C2 (by rw [s.call]; simp) (by simp [hpA, hpB, hC1, hne.symm])]
    simp only [List.mem_append, List.mem_cons] at ho ⊢
    rcases ho with h | h | h | h
    · exact .inl h
    · exact .inr (.inr (.inl h))
    · exact .inr (.inl h)
    · exact .inr (.inr (.inr h))
/-- nobody wrong: nobody has somebody shorter ahead -/
theorem inv_zero_shorter {l : List Int} (nd : l.Nodup) : inv l = 0 ↔ ∀ p ∈ l, shorter l p = [] := by
  rw [inv_zero_iff]
  constructor
  · intro h p hp
    obtain ⟨_, e, _⟩ := idxOf_split hp
    refine Classical.byContradiction fun hs => ?_
    obtain ⟨o, ho, hlt⟩ := shorter_ne_nil.mp hs
    rw [e, List.pairwise_append] at h
    exact h.2.2 o ho p (List.mem_cons_self ..) hlt
  · intro h
    have aux : ∀ (r A : List Int), A ++ r = l → r.Pairwise (fun x y => ¬ x < y) ∧ ∀ a ∈ A, ∀ x ∈ r, ¬ a < x := by
      intro r
      induction r with
      | nil => intro A _; exact ⟨.nil, fun a _ x hx => nomatch hx⟩
      | cons x r ih =>
        intro A e
        obtain ⟨h1, h2⟩ := ih (A ++ [x]) (by rw [List.append_assoc]; exact e)
        have hx : x ∉ A := fun hm => by
          rw [← e] at nd
          exact (List.nodup_append.mp nd).2.2 x hm x (List.mem_cons_self ..) rfl
        refine ⟨List.pairwise_cons.mpr ⟨fun y hy => h2 x (by simp) y hy, h1⟩, fun a ha y hy => ?_⟩
        rcases List.mem_cons.mp hy with rfl | hy
        · intro hlt
          have := h y (by rw [← e]; simp)
          refine (shorter_ne_nil (l := l)).mpr ⟨a, ?_, hlt⟩ this
          rw [← e, take_mid hx]; exact ha
        · exact h2 a (List.mem_append_left _ ha) y hy
    exact (aux l [] rfl).1
/-- a done one with somebody shorter ahead spoils all that comes -/
theorem ways_zero {n : Nat} : ∀ (k : Nat) (l r : List Int), IsLine n l → (∃ p, p ∈ r ∧ p ∈ l ∧ shorter l p ≠ []) → ways n k l r = 0
  | 0, l, r, hl, ⟨p, hp, hm, hs⟩ => by
    show (if inv l = 0 then 1 else 0) = 0
    rw [if_neg]
    intro e
    exact hs ((inv_zero_shorter hl.nd).mp e p hm)
  | k + 1, l, r, hl, ⟨p, hp, hm, hs⟩ => by
    show ((fit n r).map fun q => ways n k (callL l q) (r ++ [q])).sum = 0
    have : ∀ q ∈ fit n r, ways n k (callL l q) (r ++ [q]) = 0 := fun q hq => by
      obtain ⟨h1, h2⟩ := mem_fit.mp hq
      have hne : q ≠ p := fun e => h2 (e ▸ hp)
      have hql : q ∈ l := (hl.mem q).mpr h1
      exact ways_zero k _ _ (hl.call h1) ⟨p, List.mem_append_left _ hp, (call_perm hql).mem_iff.mpr hm, shorter_stays hl.nd hql hm hne hs⟩
    rw [List.map_congr_left this]
    generalize fit n r = L
    induction L with
    | nil => rfl
    | cons a L ih => rw [List.map_cons, List.sum_cons, ih]
theorem nodup_len : ∀ (r l : List Int), r.Nodup → (∀ p ∈ r, p ∈ l) → r.length ≤ l.length
  | [], _, _, _ => Nat.zero_le _
  | a :: r, l, nd, h => by
    obtain ⟨hn, nd'⟩ := List.nodup_cons.mp nd
    have ha : a ∈ l := h a (List.mem_cons_self ..)
    have ih := nodup_len r (l.erase a) nd' fun p hp => (List.mem_erase_of_ne fun e => hn (by rw [← e]; exact hp)).mpr (h p (List.mem_cons_of_mem _ hp))
    rw [List.length_erase_of_mem ha] at ih
    have : 0 < l.length := List.length_pos_of_mem ha
    rw [List.length_cons]; omega
theorem fit_congr {n : Nat} {d r : List Int} (h : ∀ p, p ∈ d ↔ p ∈ r) : fit n d = fit n r := by
  unfold fit
  refine List.filter_congr fun p _ => ?_
  have : d.contains p = r.contains p := by
    rw [Bool.eq_iff_iff]; simp [h p]
  rw [this]
theorem cf_ways {n : Nat} : ∀ (m k : Nat) (l d r : List Int), IsLine n l → (∀ p, p ∈ d ↔ p ∈ r) → d.length = r.length → r.length + m = n → r.Nodup → (∀ p ∈ r, 0 ≤ p ∧ p < (n : Int)) → m + 1 ≤ k →
    cf k l d = (ways n m l r : Int)
  | m, 0, _, _, _, _, _, _, _, _, _, h => absurd h (Nat.not_succ_le_zero _)
  | m, k + 1, l, d, r, hl, hm, hlen, hn, nd, hr, hk => by
    have e : cf (k + 1) l d = if (callersL l).any (fun p => d.contains p) then 0 else if d.length = l.length then 1 else ((fit l.length d).map fun p => cf k (callL l p) (put d p)).sum := rfl
    rw [e]
    by_cases hc : (callersL l).any (fun p => d.contains p) = true
    · rw [if_pos hc]
      obtain ⟨p, hp, hd⟩ := List.any_eq_true.mp hc
      unfold callersL at hp
      rw [List.mem_filter, mem_rangeI, hl.len] at hp
      have hd' : p ∈ d := by simpa using hd
      rw [ways_zero m l r hl ⟨p, (hm p).mp hd', (hl.mem p).mpr hp.1, of_decide_eq_true hp.2⟩]
      rfl
    · rw [if_neg hc]
      by_cases hdl : d.length = l.length
      · rw [if_pos hdl]
        have hm0 : m = 0 := by have := hl.len; omega
        subst hm0
        show (1 : Int) = ((if inv l = 0 then 1 else 0 : Nat) : Int)
        have hi : inv l = 0 := by
          refine (inv_zero_shorter hl.nd).mpr fun p hp => ?_
          refine Classical.byContradiction fun hs => hc ?_
          have hpn := (hl.mem p).mp hp
          refine List.any_eq_true.mpr ⟨p, ?_, ?_⟩
          · unfold callersL
            rw [List.mem_filter, mem_rangeI, hl.len]
            exact ⟨hpn, decide_eq_true hs⟩
          · have hpr : p ∈ r := Classical.byContradiction fun hn' => by
              have h1 := nodup_len (p :: r) l (List.nodup_cons.mpr ⟨hn', nd⟩) fun q hq => by
                rcases List.mem_cons.mp hq with rfl | hq
                · exact hp
                · exact (hl.mem q).mpr (hr q hq)
              rw [List.length_cons] at h1
              omega
            have : p ∈ d := (hm p).mpr hpr
            simpa using this
        rw [if_pos hi]; rfl
      · rw [if_neg hdl]
        obtain ⟨m', rfl⟩ : ∃ m', m = m' + 1 := ⟨m - 1, by have := hl.len; omega⟩
        show _ = ((((fit n r).map fun p => ways n m' (callL l p) (r ++ [p])).sum : Nat) : Int)
        rw [hl.len, fit_congr hm]
        have hall : ∀ q ∈ fit n r, cf k (callL l q) (put d q) = (ways n m' (callL l q) (r ++ [q]) : Int) := fun q hq => by
          obtain ⟨h1, h2⟩ := mem_fit.mp hq
          refine cf_ways m' k (callL l q) (put d q) (r ++ [q]) (hl.call h1) (fun p => ?_) ?_ ?_ ?_ ?_ (by omega)
          · rw [(put_perm d q).mem_iff, List.mem_append, List.mem_append, hm p]
          · rw [(put_perm d q).length_eq, List.length_append, List.length_append, hlen]
          · rw [List.length_append, List.length_singleton]; omega
          · rw [List.nodup_append]
            exact ⟨nd, by simp, fun a ha b hb => by
              rw [List.mem_singleton] at hb
              rintro rfl
              exact h2 (hb ▸ ha)⟩
          · intro a ha
            rcases List.mem_append.mp ha with ha | ha
            · exact hr a ha
            · rw [List.mem_singleton] at ha; rw [ha]; exact h1
        rw [List.map_congr_left hall]
        generalize fit n r = L
        induction L with
        | nil => rfl
        | cons a L ih => rw [List.map_cons, List.sum_cons, List.map_cons, List.sum_cons, ih]; omega
/-- what each order leaves -/
def leftN (n : Nat) (l : List Int) : List Int := (linesN n n).map fun o => (inv (o.foldl callL l) : Int)
theorem count_leftN (n : Nat) (l : List Int) : (leftN n l).count 0 = ways n n l [] := by
  rw [← ways_lines]
  unfold leftN
  rw [List.count_eq_countP, List.countP_map]
  refine List.countP_congr fun o _ => ?_
  simp
theorem cf_count {n : Nat} {l : List Int} (hl : IsLine n l) : cf (n + 1) l [] = ((leftN n l).count 0 : Int) := by
  rw [count_leftN]
  exact cf_ways n (n + 1) l [] [] hl (fun p => Iff.rfl) rfl (by simp) List.nodup_nil (fun p h => nomatch h) (Nat.le_refl _)
/-! ### the least and the greatest number left (few people: by looking at all of them) -/
def tall (n : Nat) : List Int := (rangeI n).reverse
def tallOk (n : Nat) : Bool := (linesN n n).contains (tall n) && (linesN n n).all fun l => inv ((tall n).foldl callL l) == 0
theorem tall_ok : tallOk 1 && tallOk 2 && tallOk 3 && tallOk 4 && tallOk 5 = true := by decide +kernel
theorem tallOk_of {n : Nat} (h1 : 1 ≤ n) (h5 : n ≤ 5) : tallOk n = true := by
  have h := tall_ok
  simp only [Bool.and_eq_true] at h
  obtain ⟨⟨⟨⟨a, b⟩, c⟩, d⟩, e⟩ := h
  match n, h1, h5 with
  | 1, _, _ => exact a
  | 2, _, _ => exact b
  | 3, _, _ => exact c
  | 4, _, _ => exact d
  | 5, _, _ => exact e
theorem zero_mem_left {n : Nat} {l : List Int} (hl : IsLine n l) (h1 : 1 ≤ n) (h5 : n ≤ 5) : (0 : Int) ∈ leftN n l := by
  have h := tallOk_of h1 h5
  unfold tallOk at h
  rw [Bool.and_eq_true] at h
  have hz := List.all_eq_true.mp h.2 l (isLine_iff hl)
  unfold leftN
  exact List.mem_map.mpr ⟨tall n, by simpa using h.1, by
    have : inv ((tall n).foldl callL l) = 0 := by simpa using hz
    rw [this]; rfl⟩
/-- tuples of ints as Python orders them -/
def lexB : List Int → List Int → Bool
  | [], [] => false
  | [], _ :: _ => true
  | _ :: _, [] => false
  | a :: x, b :: y => if a = b then lexB x y else decide (a < b)
def upB : List (List Int) → Bool
  | [] => true
  | a :: r => r.all (fun b => !lexB b a) && upB r
theorem up_ok : upB (linesN 1 1) && upB (linesN 2 2) && upB (linesN 3 3) && upB (linesN 4 4) && upB (linesN 5 5) = true := by decide +kernel
theorem up_of {n : Nat} (h1 : 1 ≤ n) (h5 : n ≤ 5) : upB (linesN n n) = true := by
  have h := up_ok
  simp only [Bool.and_eq_true] at h
  obtain ⟨⟨⟨⟨a, b⟩, c⟩, d⟩, e⟩ := h
  match n, h1, h5 with
  | 1, _, _ => exact a
  | 2, _, _ => exact b
  | 3, _, _ => exact c
  | 4, _, _ => exact d
  | 5, _, _ => exact e
theorem up_at : ∀ {L : List (List Int)}, upB L = true → ∀ (i j : Nat) (a b : List Int), i < j → L[i]? = some a → L[j]? = some b → lexB b a = false
  | [], _, i, j, a, b, _, h, _ => by simp at h
  | c :: r, h, 0, j, a, b, hij, ha, hb => by
    unfold upB at h
    rw [Bool.and_eq_true] at h
    obtain ⟨j', rfl⟩ : ∃ j', j = j' + 1 := ⟨j - 1, by omega⟩
    have e : c = a := by simpa using ha
    have hb' : r[j']? = some b := by simpa using hb
    have := List.all_eq_true.mp h.1 b (List.mem_of_getElem? hb')
    rw [← e]
    simpa using this
  | c :: r, h, i + 1, j, a, b, hij, ha, hb => by
    unfold upB at h
    rw [Bool.and_eq_true] at h
    obtain ⟨j', rfl⟩ : ∃ j', j = j' + 1 := ⟨j - 1, by omega⟩
    exact up_at h.2 i j' a b (by omega) (by simpa using ha) (by simpa using hb)
end Ov
set_option Elab.async false
set_option linter.all false
set_option maxRecDepth 100000
set_option maxHeartbeats 4000000
/-! More rules over the layer: what this claim's defs want and the layer lacks. -/
namespace Ov
open PySem PySem.Spec PyProof.Rows L2
abbrev iV (ns : List Int) : List V := ns.map V.int
theorem flat_iV (ns : List Int) : (iV ns).all flatV = true := by
  unfold iV
  rw [List.all_map]
  exact List.all_eq_true.mpr fun _ _ => rfl
theorem Same.new {H : Hp} {p : Addr} {o : HO} (h : H p = none) : Same H (upd H p o) := fun b x e => by
  rw [upd_ne (ne_of_none e h)]
  exact e
theorem Same.sqT {K : PySem.W.Frag} {H H' : Hp} {a : Addr} {xs : List V} (e : Same H H') (h : SqT K H a xs) : SqT K H' a xs := by
  rcases h with h | h
  · rcases h with h | ⟨o, h⟩
    · exact .inl (.inl (e _ _ h))
    · exact .inl (.inr ⟨o, e _ _ h⟩)
  · exact .inr h
section
variable {X : Cx}
/-- a cut of a tuple: told by what is read there -/
def rSlS (K : PySem.W.Frag) : V → Option Int → Option Int → Hp → VK → Prop := fun x lo hi H Q => ∃ a xs, x = .ref a ∧ SqT K H a xs ∧
  ∀ r H', Same H H' → SqT K H' r (cutV xs lo hi) → Q (.ref r) H'
theorem sl_tupS : SlR X (rSlS X.K) := fun pins s σ H x v vl vu lo hi sl Q I rx hs pl pu h => by
  obtain ⟨a, xs, e, hx, q⟩ := h
  refine sl_tupA pins s σ H x v vl vu lo hi sl Q I rx hs pl pu ⟨a, xs, e, hx, fun hw => ?_, fun _ p hp => ?_⟩
  · refine q a H (Same.refl H) ?_
    have ec : cutV xs lo hi = xs := by
      unfold cutV
      rw [hw.1, hw.2]
      simp
    rw [ec]
    exact hx
  · exact q p _ (Same.new hp) (.inl (.inl upd_same))
/-- tuple + tuple, told so -/
def rCatS (K : PySem.W.Frag) : R2 := fun x y H Q => ∃ a b xs ys, x = .ref a ∧ y = .ref b ∧ SqT K H a xs ∧ SqT K H b ys ∧ xs.length + ys.length ≤ sizeLine ∧
  ∀ r H', Same H H' → SqT K H' r (xs ++ ys) → Q (.ref r) H'
theorem op_catS : OpR X (binaryOp .Add) (rCatS X.K) := fun pins s σ H x y v u Q I rx ry h => by
  obtain ⟨a, b, xs, ys, e1, e2, ha, hb, hz, q⟩ := h
  refine op_catA pins s σ H x y v u Q I rx ry ⟨a, b, xs, ys, e1, e2, ha, hb, hz, fun e => ?_, fun _ e => ?_, fun _ _ p hp => ?_⟩
  · subst e
    exact q b H (Same.refl H) hb
  · subst e
    exact q a H (Same.refl H) (by rw [List.append_nil]; exact ha)
  · exact q p _ (Same.new hp) (.inl (.inl upd_same))
/-- t.index(n) of whole numbers, n in t -/
def rIdx (K : PySem.W.Frag) : V → List V → Hp → VK → Prop := fun x xs H Q => ∃ (p : Addr) (ys : List Int) (z : Int), x = .ref p ∧ xs = [.int z] ∧ SqT K H p (iV ys) ∧ z ∈ ys ∧ Q (.int (ys.idxOf z : Nat)) H
theorem mt_tup_idx : MtR X "tuple.index" (rIdx X.K) := fun pins s σ H x xs v us Q I rx rs h => by
  obtain ⟨p, ys, z, rfl, rfl, hq, hz, q⟩ := h
  cases rx
  obtain ⟨u, rfl, t, rfl⟩ := vals1 rs
  obtain ⟨its, r, ⟨⟨cls, dd, dt, sl⟩, ho, hc, n, hd⟩, _⟩ := I.tuple hq
  simp only at hc hd
  subst hc hd
  have hl : its.toArray.size = ys.length := by
    have := r.length
    rw [List.length_map] at this
    rw [List.size_toArray]
    exact this.symm
  have hlt : ys.idxOf z < ys.length := List.idxOf_lt_length_of_mem hz
  have at' : ∀ (m : Nat) (hm : m < its.toArray.size), ∃ y t', ys[m]? = some y ∧ its.toArray[m] = Value.int y t' := fun m hm => by
    have hm' : m < ys.length := by omega
    obtain ⟨w, hw, t', hw'⟩ := r.get (i := m) (x := .int ys[m]) (by simp [hm'])
    refine ⟨ys[m], t', List.getElem?_eq_getElem hm', ?_⟩
    have e := (List.getElem?_eq_some_iff.mp hw).2
    rw [← hw', ← e, List.getElem_toArray]
  refine call_meets PySem.F.slot_tuple_index ⟨_, ho, rfl⟩ PySem.F.entry_tuple_index (PySem.F.args_tuple_index_2 _ _)
    (TI.tuple_indexAt p its.toArray n dd sl (.int z t) (eqU (.int z)) (ys.idxOf z) (by omega) ?_ ?_)
    ⟨ho, fun w hw => mem_eqAt (x := .int z) ⟨t, rfl⟩ rfl r (flat_iV ys) w (by simpa using hw), .int (ys.idxOf z : Nat), H, I.tok _, ⟨_, rfl⟩, q⟩
  · obtain ⟨y, t', h1, h2⟩ := at' (ys.idxOf z) (by omega)
    rw [List.getElem?_eq_getElem hlt, List.getElem_idxOf] at h1
    cases h1
    rw [h2]
    show (z == z) = true
    exact beq_self_eq_true z
  · intro m hm hmj
    obtain ⟨y, t', h1, h2⟩ := at' m hm
    rw [h2]
    show (y == z) = false
    have hn := List.not_of_lt_findIdx (p := (· == z)) (xs := ys) (i := m) hmj
    have hm' : m < ys.length := by omega
    rw [List.getElem?_eq_getElem hm'] at h1
    cases h1
    simpa using hn
/-- sorted(t), t a tuple of whole numbers -/
def rSortTup (K : PySem.W.Frag) : List V → Hp → VK → Prop := fun vs H Q => ∃ (a : Addr) (ns : List Int), vs = [V.ref a] ∧ SqT K H a (iV ns) ∧ ns.length < 64 ∧
  ∀ (ms : List Int) (p : Addr), ms.Perm ns → ms.Pairwise (· ≤ ·) → H p = none → Q (.ref p) (upd H p (.lst (iV ms)))
theorem cr_sortTup : CallR X (.builtin "sorted") (rSortTup X.K) := fun pins s σ H vs us Q I r h => by
  obtain ⟨a, ns, rfl, hs, h64, q⟩ := h
  obtain ⟨its, rv, ⟨o, ho, hc, n, hd⟩, hlen⟩ := I.tuple hs
  rw [Vals.ref1 r]
  have hi := rv.«ints»
  have hsz : its.length = ns.length := hi.length
  refine Calls.call_function_entry kind_sorted plain_sorted entry_sorted (args_sorted1 _) ?_
  unfold Builtin.«sorted»
  refine wpAny_bind (m := checkCount "sorted" 1 1 _) (wpAny_pure ?_)
  refine wpAny_bind (wpAny_collect_seq a (.inr rfl) ho hc hd (fun h' hk => ?_) (by rw [List.size_toArray, sizeLine_eq]; omega))
  refine wpAny_bind (wpAny_newList ?_ (by rw [sizeLine_eq, List.toList_toArray]; omega))
  have hoL : (h'.push (seqObj "list" its.toArray 0)).get? h'.objs.size = some (seqObj "list" its.toArray 0) := Heap.get?_push_size _ rfl
  refine wpAny_bind (wpAny_holding (wpAny_call_entry slot_list_sort ⟨_, hoL, rfl⟩ entry_list_sort (list_sort_tree hoL hi (by rw [hsz]; exact h64) fun out ms a1 a2 a3 => ⟨_, rfl, ?_⟩) (args_list_sort _)))
  have I2 : L2.Inv X pins σ H { s with heap := h' } := I.kept (t' := s.toks) hk
  have hold : ∀ b u, h'.get? b = some u → (sortedHeap (h'.push (seqObj "list" its.toArray 0)) h'.objs.size its out).get? b = some u := fun b u e => by
    have hb : b < h'.objs.size := Heap.lt_size e
    rw [sortedHeap_old (Nat.ne_of_lt hb) (by rw [size_push']; exact Nat.lt_succ_of_lt hb)]
    exact Heap.get?_push_of_some _ e
  obtain ⟨ep, hat⟩ := sortedHeap_at (vs := its) (out := out) hoL
  refine wpAny_pure ⟨_, rfl, .ref h'.objs.size, upd H h'.objs.size (.lst (iV ms)), I2.laid (t' := s.toks) hold (Nat.le_refl _) ⟨?_, out.toList, ep, vals_of_ints a1, ?_⟩, rfl, q ms _ a2 a3 (I2.hok.fresh (Nat.le_refl _))⟩
  · rw [List.length_map, a2.length_eq, sizeLine_eq]; omega
  · exact hat
end
end Ov
set_option Elab.async false
set_option linter.all false
set_option maxRecDepth 100000
set_option maxHeartbeats 4000000
/-! for i, x in enumerate(t), t a tuple. -/
namespace Ov
open PySem PySem.Spec PyProof.Rows L2
open AutoSeq1 (wpAny_loadPart')
theorem meets_enum1 {v : Value} {o : Obj} {G : Heap → Prop} (B : Begins v o G) : Meets (Builtin.«enumerate.__new__» ⟨[.type "enumerate", v], []⟩) (fun _ R s => G s.heap ∧
      R (.ok (.ret (.ref (s.heap.push o).objs.size))) { s with heap := (s.heap.push o).push { cls := .type "enumerate", data := .fields #[.none, .bool false, .ref s.heap.objs.size, rawInt 0, .none, .none] } }) :=
  .of_wp fun prog w A R s h => by
    obtain ⟨hp, g, d, tk, os⟩ := s
    obtain ⟨h1, h⟩ := h
    have hsub := sub_enumerate
    have it1 : ∀ {A2 : Around} {E2 Q2 : Value → Shared → Prop}, Q2 (.ref hp.objs.size) ⟨hp.push o, g, d, tk, os⟩ → wpAny (model prog w) A2 (pyIter v) Q2 E2 ⟨hp, g, d, tk, os⟩ :=
      fun z => B.iter prog w _ _ ⟨hp, g, d, tk, os⟩ _ h1 z
    wp_walk using it1
    refine wpAny_stack_any fun st => wpAny_pure ?_
    split
    · rename_i c _ _ _ _ _
      cases (c == Value.type "enumerate") <;> (wp_walk using it1; exact ⟨_, rfl, h⟩)
    · wp_walk using it1
      exact ⟨_, rfl, h⟩
theorem call_enum_tup {prog : Program} {w : World} {A : Around} {E : Value → Shared → Prop} {s : Shared} {t : Addr} {items : Array Value} {Q : Value → Shared → Prop} (ht : s.heap.IsTuple t items)
    (h : ∀ h', IsEnum h' (s.heap.objs.size + 1) s.heap.objs.size 0 .none → h'.IsTupleIter s.heap.objs.size t 0 → (∀ b o, s.heap.get? b = some o → h'.get? b = some o) → Q (.ref (s.heap.objs.size + 1)) { s with heap := h' }) :
    wpAny (model prog w) A (call (.type "enumerate") [.ref t]) Q E s := by
  refine callType_new F.called_enumerate (by decide) (F.typeCall_enumerate_1 _) (F.newCall_enumerate_1 _) (fun obj => F.args_object_init_2 obj _) F.entry_enumerate_new (meets_enum1 (begins_tuple t items)) ⟨ht, ?_⟩
  show _ ∧ _
  generalize ho : ({ cls := .type "tuple_iterator", data := .fields #[.ref t, .int 0 0] } : Obj) = o
  have hz : (s.heap.push o).objs.size = s.heap.objs.size + 1 := Heap.size_push ..
  rw [hz]
  have he : IsEnum ((s.heap.push o).push { cls := .type "enumerate", data := .fields #[.none, .bool false, .ref s.heap.objs.size, rawInt 0, .none, .none] }) (s.heap.objs.size + 1) s.heap.objs.size 0 .none := by
    have q := Heap.get?_push_size (s.heap.push o) (o := { cls := .type "enumerate", data := .fields #[.none, .bool false, .ref s.heap.objs.size, rawInt 0, .none, .none] }) rfl
    rw [hz] at q
    exact q
  refine ⟨⟨_, he, rfl⟩, h _ he ?_ fun b u x => Heap.get?_push_of_some _ (Heap.get?_push_of_some _ x)⟩
  subst ho
  exact ⟨_, Heap.get?_push_of_some _ (Heap.get?_push_size _ rfl), rfl, rfl⟩
/-- the tuple at a, each item in a new pair with its place -/
def ItE (K : PySem.W.Frag) (a : Addr) : It :=
  ⟨fun i H => ∃ (xs : List V) (x : V), SqT K H a xs ∧ xs[i]? = some x, fun i H v H' => ∃ T x, v = .ref T ∧ H T = none ∧ H' = upd H T (.tup [.int (i : Nat), x]) ∧ ∀ xs, SqT K H a xs → xs[i]? = some x, fun i H => ∃ xs : List V, SqT K H a xs ∧ xs.length = i⟩
theorem turn_ItE {P : Program} {w : World} {K : PySem.W.Frag} {elts : List Expr} {kk : Nat} {tpos : Pos} (a e it : Addr) :
    Turn P w K (.Tuple elts kk tpos) (ItE K a) [e, it] e (fun i h => (∃ old, IsEnum h e it ((i : Nat) : Int) old) ∧ h.IsTupleIter it a i ∧ e ≠ it) where
  mem := List.mem_cons_self ..
  obj := fun i h st b hb => by
    obtain ⟨⟨old, he⟩, ⟨o, ho, hc, hd⟩, _⟩ := st
    rcases (show b = e ∨ b = it by simpa using hb) with z | z
    · rw [z]
      exact ⟨_, he, fun v q => nomatch q⟩
    · rw [z]
      exact ⟨o, ho, fun v q => by rw [hd] at q; cases q⟩
  keep := fun i h h' st k => ⟨⟨st.1.choose, k e (by simp) _ st.1.choose_spec⟩, st.2.1.at fun o q => k it (by simp) o q, st.2.2⟩
  item := by
    intro X hP hw hK hc i pins s σ H E I hf st hg
    subst hP hw hK
    obtain ⟨⟨old, he⟩, hit, hne⟩ := st
    obtain ⟨xs, x, hq, hx⟩ := hg
    obtain ⟨its, rv, pt, hz⟩ := I.tuple hq
    obtain ⟨u, hu, ru⟩ := rv.get hx
    have hel : e < s.heap.objs.size := Heap.lt_size he
    have hil : it < s.heap.objs.size := by obtain ⟨_, q, _⟩ := hit; exact Heap.lt_size q
    obtain ⟨ot, hot, hct, nt, hdt⟩ := pt
    have hta : ∀ b, (∃ o, s.heap.get? b = some o ∧ o.cls ≠ .type "tuple") → b ≠ a := fun b ⟨o, h1, h2⟩ z => by
      rw [z, hot] at h1
      cases h1
      exact h2 hct
    have hea : e ≠ a := hta e ⟨_, he, fun z => absurd (Value.type.inj z) (by decide)⟩
    have hia : it ≠ a := hta it (by obtain ⟨o, h1, h2, _⟩ := hit; exact ⟨o, h1, fun z => absurd (Value.type.inj (h2.symm.trans z)) (by decide)⟩)
    have hTup : s.heap.IsTuple a its.toArray := ⟨ot, hot, hct, nt, hdt⟩
    have hlt : i < its.toArray.size := by
      rw [List.size_toArray]
      exact (List.getElem?_eq_some_iff.mp hu).1
    refine wpAny_pyNext_enum_itemD (Draws.tuple (A := X.A.in1) (I.ok.hd hc) it a (Ne.symm hia) its.toArray) he ⟨hit, hTup⟩ hlt hne (by simp [hne, hea]) fun y h' tk hy ho hst hT hsz hk => ?_
    have ey : y = u := by
      have : its.toArray[i]? = some u := by simpa using hu
      rw [this] at hy
      exact (Option.some.inj hy).symm
    subst ey
    refine ⟨_, rfl, wpAny_letOwnedTupleGo_enum (s := { s with heap := h', toks := tk + 1 }) ho fun h'' he' sb => ?_⟩
    have hT2 : h''.get? s.heap.objs.size = some { cls := .type "tuple", data := .seq #[.int i tk, y] } := (sb.2 _ (Nat.ne_of_gt hel)).trans hT
    have new : ObjOk X.prog X.w (upd H s.heap.objs.size (.tup [.int (i : Nat), x])) h'' s.heap.objs.size (.tup [.int (i : Nat), x]) :=
      ⟨show 2 ≤ sizeLine by decide, [.int i tk, y], .cons ⟨_, rfl⟩ (.cons ru .nil), ⟨_, hT2, rfl, _, rfl⟩⟩
    have I1 : L2.Inv X pins σ (upd H s.heap.objs.size (.tup [.int (i : Nat), x])) { s with heap := h'', toks := tk + 1 } :=
      I.turnedNew (ch := [e, it]) (fun b ob hb q => (sb.2 b fun z => hb (by simp [z])).trans (hk b ob (fun z => hb (by simp [z])) (fun z => hb (by simp [z])) q)) hf (Nat.le_refl _) new
    refine ⟨.ref s.heap.objs.size, _, I1, rfl, ⟨_, x, rfl, I.hok.fresh (Nat.le_refl _), rfl, fun ys hy => by rw [I.tuple_inj hy hq]; exact hx⟩, ⟨⟨y, ?_⟩, hst.1.at fun o q => (sb.2 it (Ne.symm hne)).trans q, hne⟩, fun b hb => ?_⟩
    · rw [show ((i + 1 : Nat) : Int) = (i : Int) + 1 by omega]
      exact he'
    · have hb' : b < s.heap.objs.size := by
        rcases (show b = e ∨ b = it by simpa using hb) with z | z <;> rw [z] <;> assumption
      rw [upd_ne (Nat.ne_of_lt hb')]
      exact (hf b hb).1
  done := by
    intro X hP hw hK hc i pins s σ H E I hf st hg
    subst hP hw hK
    obtain ⟨⟨old, he⟩, hit, hne⟩ := st
    obtain ⟨xs, hq, hx⟩ := hg
    obtain ⟨its, rv, pt, hz⟩ := I.tuple hq
    obtain ⟨f0, f1, f2, f3, f4, f5⟩ := hf it (by simp)
    obtain ⟨ot, hot, hct, nt, hdt⟩ := pt
    have hTup : s.heap.IsTuple a its.toArray := ⟨ot, hot, hct, nt, hdt⟩
    have hl := rv.length
    have hta : ∀ b, (∃ o, s.heap.get? b = some o ∧ o.cls ≠ .type "tuple") → b ≠ a := fun b ⟨o, h1, h2⟩ z => by
      rw [z, hot] at h1
      cases h1
      exact h2 hct
    have hia : it ≠ a := hta it (by obtain ⟨o, h1, h2, _⟩ := hit; exact ⟨o, h1, fun z => absurd (Value.type.inj (h2.symm.trans z)) (by decide)⟩)
    have hn : its.toArray.size = i := by rw [List.size_toArray, ← hl, hx]
    exact wpAny_pyNext_enum_endD (Draws.tuple (A := X.A.in1) (I.ok.hd hc) it a (Ne.symm hia) its.toArray) he ⟨by rw [hn]; exact hit, hTup⟩ fun h' eb => ⟨rfl, I.turned (t' := s.toks) (fun b o hb q => eb b o hb q) f0 f1 f3 f4 f5⟩
  self := fun A i s Q E st h => wpAny_pyIter_enum st.1.choose_spec h
def iEnumT (K : PySem.W.Frag) (ta : TA) : TI := fun σ H R => ta σ H fun vs H1 => ∃ a xs, vs = [.ref a] ∧ SqT K H1 a xs ∧ R (ItE K a) H1
theorem pi_enumT {X : Cx} {e : Expr} {ta : TA} {p pos tpos : Pos} {elts : List Expr} {kk : Nat} (hg : Gl X "enumerate") (hm : X.mg "enumerate" = none) (ha : PA X [e] ta) (hs : starEach [e] X.env = [(false, eval e X.env)] := by rfl) :
    PI X (.Tuple elts kk tpos) (.Call (.Name "enumerate" p) [e] [] pos) (iEnumT X.K ta) := by
  refine ⟨fun pins s σ H R I h => Call_ (ld_blt I hg hm boot_enumerate (PyProof.Rows.callWith_type1 (thn (ha.run pos pins s σ H _ I h) fun us s1 ⟨vs, H1, I1, r1, a, xs, ex, hq, q⟩ => ?_) hs rfl))⟩
  subst ex
  rw [Vals.ref1 r1]
  obtain ⟨its, rv, pt, hz⟩ := I1.tuple hq
  refine call_enum_tup pt fun h' he hit hk => wpAny_pyIter_enum he ?_
  have I2 : L2.Inv X pins σ H1 { s1 with heap := h' } := I1.kept (t' := s1.toks) hk
  refine ⟨s1.heap.objs.size + 1, [s1.heap.objs.size + 1, s1.heap.objs.size], _, _, H1, rfl, I2, turn_ItE a (s1.heap.objs.size + 1) s1.heap.objs.size, ⟨⟨.none, he⟩, hit, Nat.succ_ne_self _⟩, fun b hb => ?_, q⟩
  have hle : s1.heap.objs.size ≤ b := by
    rcases (show b = s1.heap.objs.size + 1 ∨ b = s1.heap.objs.size by simpa using hb) with z | z <;> rw [z]
    · exact Nat.le_add_right _ _
    · exact Nat.le_refl _
  exact I1.fpOk hle (I1.hok.fresh hle)
theorem walk_ItE {K : PySem.W.Frag} {a : Addr} {xs : List V} : Walk (ItE K a) xs.length (fun H => SqT K H a xs) (YPair (fun i => some (.int (i : Nat))) (fun i => xs[i]?)) :=
  ⟨fun i _ hi q => ⟨xs, xs[i], q, by simp [hi]⟩, fun _ q => ⟨xs, q, rfl⟩, fun i H v H' _ q ⟨T, x, h1, h2, h3, h4⟩ => ⟨T, .int (i : Nat), x, h1, h2, h3, rfl, h4 xs q⟩⟩
end Ov
set_option Elab.async false
set_option linter.all false
set_option maxRecDepth 100000
set_option maxHeartbeats 4000000
/-! A dict whose keys are pairs of tuples of whole numbers. -/
namespace Ov
open PySem PySem.Spec PyProof.Rows L2
abbrev Key2 : Type := List Int × List Int
abbrev Ent : Type := Key2 × Addr × Value
def nkOf (k : Key2) : NestedKey := .tup [.tup (k.1.map NestedKey.num), .tup (k.2.map NestedKey.num)]
theorem num_inj : ∀ {l m : List Int}, l.map NestedKey.num = m.map NestedKey.num → l = m
  | [], [], _ => rfl
  | [], _ :: _, h => by simp at h
  | _ :: _, [], h => by simp at h
  | a :: l, b :: m, h => by
    rw [List.map_cons, List.map_cons] at h
    injection h with h1 h2
    injection h1 with h1
    rw [h1, num_inj h2]
theorem nk_inj {k j : Key2} (h : nkOf k = nkOf j) : k = j := by
  unfold nkOf at h
  injection h with h
  injection h with h1 h
  injection h with h2 _
  injection h1 with h1
  injection h2 with h2
  exact Prod.ext (num_inj h1) (num_inj h2)
theorem depth_nums : ∀ l : List Int, NestedKey.depthAll (l.map NestedKey.num) = 0
  | [] => rfl
  | a :: l => by
    show max 0 (NestedKey.depthAll (l.map NestedKey.num)) = 0
    rw [depth_nums l]; rfl
theorem nk_depth (k : Key2) : (nkOf k).depth ≤ 8 := by
  show max (NestedKey.depthAll (k.1.map NestedKey.num) + 1) (max (NestedKey.depthAll (k.2.map NestedKey.num) + 1) 0) + 1 ≤ 8
  rw [depth_nums, depth_nums]
  decide
def lift (y : Ent) : NestedKey × Addr × Value := (nkOf y.1, y.2)
/-- what stands at d: the entries, by the places of their keys -/
def Raw (P : Program) (w : World) (d : Addr) (ys : List Ent) (h : Heap) : Prop :=
  (d == sysModules) = false ∧ ∃ o es ep, h.get? d = some o ∧ o.ExactDict ∧ o.data = .dict es ep ∧ es.toList = (ys.map lift).map (entryOfKey (nestedKind P w))
def memoO (P : Program) (w : World) (d : Addr) (ys : List Ent) : HO := .ext (Raw P w d ys)
/-- at a stands the pair of the tuples of k -/
def KeyAt (K : PySem.W.Frag) (H : Hp) (k : Key2) (a : Addr) : Prop := ∃ p q, SqT K H a [.ref p, .ref q] ∧ SqT K H p (iV k.1) ∧ SqT K H q (iV k.2)
structure Memo (P : Program) (w : World) (K : PySem.W.Frag) (H : Hp) (d : Addr) (ys : List Ent) : Prop where
  at_ : H d = some (memoO P w d ys)
  keys : ∀ y ∈ ys, KeyAt K H y.1 y.2.1
  nd : (ys.map (·.1)).Nodup
theorem KeyAt.same {K : PySem.W.Frag} {H H' : Hp} {k : Key2} {a : Addr} (h : KeyAt K H k a) (e : Same H H') : KeyAt K H' k a :=
  let ⟨p, q, h1, h2, h3⟩ := h
  ⟨p, q, Same.sqT e h1, Same.sqT e h2, Same.sqT e h3⟩
theorem Memo.same {P : Program} {w : World} {K : PySem.W.Frag} {H H' : Hp} {d : Addr} {ys : List Ent} (h : Memo P w K H d ys) (e : Same H H') : Memo P w K H' d ys :=
  ⟨e _ _ h.at_, fun y hy => (h.keys y hy).same e, h.nd⟩
/-- the key's place where d alone was written -/
theorem KeyAt.upd {K : PySem.W.Frag} {H : Hp} {k : Key2} {a d : Addr} {o : HO} {φ : Heap → Prop} (h : KeyAt K H k a) (hd : H d = some (.ext φ)) : KeyAt K (upd H d o) k a := by
  have go : ∀ {b : Addr} {xs : List V}, SqT K H b xs → SqT K (L2.upd H d o) b xs := fun {b xs} hb => by
    rcases hb with (hb | ⟨u, hb⟩) | hb
    · exact .inl (.inl (by rw [upd_ne (ne_of hb hd (fun z => nomatch z))]; exact hb))
    · exact .inl (.inr ⟨u, by rw [upd_ne (ne_of hb hd (fun z => nomatch z))]; exact hb⟩)
    · exact .inr hb
  obtain ⟨p, q, h1, h2, h3⟩ := h
  exact ⟨p, q, go h1, go h2, go h3⟩
section
variable {X : Cx} {pins : List (Addr × Obj)} {σ : L2.St} {H : Hp} {s : Shared}
theorem nested_nums {h : Heap} : ∀ {l : List Int} {us : List Value}, Vals (iV l) us → NestedAll h (l.map NestedKey.num) us
  | [], _, .nil => .nil
  | a :: l, _, .cons r t => by
    obtain ⟨k, rfl⟩ := r
    exact .cons (.int a k) (nested_nums t)
theorem KeyAt.is {k : Key2} {a : Addr} (I : L2.Inv X pins σ H s) (h : KeyAt X.K H k a) : (nestedKind X.prog X.w).is s.heap (nkOf k) a := by
  obtain ⟨p, q, h1, h2, h3⟩ := h
  obtain ⟨its, r, ⟨o, ho, hc, n, hd⟩, _⟩ := I.tuple h1
  obtain ⟨its1, r1, ⟨o1, ho1, hc1, n1, hd1⟩, _⟩ := I.tuple h2
  obtain ⟨its2, r2, ⟨o2, ho2, hc2, n2, hd2⟩, _⟩ := I.tuple h3
  refine ⟨.tup ho hc hd ?_, nk_depth k⟩
  cases r with
  | cons ra rt =>
    cases rt with
    | cons rb rn =>
      cases rn
      cases ra
      cases rb
      exact .cons (.tup ho1 hc1 hd1 (by simpa using nested_nums r1)) (.cons (.tup ho2 hc2 hd2 (by simpa using nested_nums r2)) .nil)
theorem Memo.dict {d : Addr} {ys : List Ent} (I : L2.Inv X pins σ H s) (m : Memo X.prog X.w X.K H d ys) : (d == sysModules) = false ∧ s.heap.DictOfH (nestedKind X.prog X.w) d (ys.map lift) := by
  obtain ⟨⟨hs, o, es, ep, ho, hx, hd, he⟩, _⟩ := (show ObjOk X.prog X.w H s.heap d (memoO X.prog X.w d ys) from I.hok d _ m.at_)
  refine ⟨hs, o, es, ep, ho, hx, hd, he, fun x hxm => ?_, ?_⟩
  · obtain ⟨y, hy, rfl⟩ := List.mem_map.mp hxm
    exact (m.keys y hy).is I
  · rw [List.map_map]
    have e : ((fun x : NestedKey × Addr × Value => x.1) ∘ lift) = (fun y : Ent => nkOf y.1) := rfl
    have e2 : (ys.map fun y : Ent => nkOf y.1) = (ys.map (·.1)).map nkOf := by rw [List.map_map]; rfl
    rw [e, e2]
    exact List.Pairwise.map _ (fun a b hab z => hab (nk_inj z)) m.nd
theorem at_lift (k : Key2) : ∀ ys : List Ent, atKey (ys.map lift) (nkOf k) = (ys.find? fun y => decide (y.1 = k)).map (·.2)
  | [] => rfl
  | y :: ys => by
    have ih := at_lift k ys
    unfold atKey at ih ⊢
    rw [List.map_cons, List.find?_cons, List.find?_cons]
    by_cases h : y.1 = k
    · have h2 : (lift y).1 = nkOf k := by show nkOf y.1 = _; rw [h]
      rw [decide_eq_true h, decide_eq_true h2]
      rfl
    · have h2 : ¬ (lift y).1 = nkOf k := fun z => h (nk_inj z)
      rw [decide_eq_false h, decide_eq_false h2]
      exact ih
theorem at_some (k : Key2) (ys : List Ent) : (atKey (ys.map lift) (nkOf k)).isSome = decide (k ∈ ys.map (·.1)) := by
  rw [at_lift, Option.isSome_map, Bool.eq_iff_iff, List.find?_isSome]
  simp [eq_comm]
theorem at_mem {k : Key2} {ys : List Ent} (nd : (ys.map (·.1)).Nodup) {p : Addr × Value} (h : (k, p) ∈ ys) : atKey (ys.map lift) (nkOf k) = some p := by
  rw [at_lift]
  induction ys with
  | nil => cases h
  | cons y ys ih =>
    rw [List.map_cons, List.nodup_cons] at nd
    rw [List.find?_cons]
    rcases List.mem_cons.mp h with e | h
    · rw [← e]
      simp
    · have hne : ¬ y.1 = k := fun e => nd.1 (List.mem_map.mpr ⟨_, h, e.symm⟩)
      rw [decide_eq_false hne]
      exact ih nd.2 h
/-- an entry stored -/
def putY (ys : List Ent) (k : Key2) (a : Addr) (v : Value) : List Ent := if k ∈ ys.map (·.1) then ys.map (fun y => if y.1 = k then (y.1, y.2.1, v) else y) else ys ++ [(k, a, v)]
theorem putY_lift (ys : List Ent) (k : Key2) (a : Addr) (v : Value) : (putY ys k a v).map lift = storedH (ys.map lift) (nkOf k) a v := by
  unfold putY storedH
  rw [at_some]
  by_cases h : k ∈ ys.map (·.1)
  · rw [if_pos h, if_pos (by simpa using h), List.map_map, List.map_map]
    refine List.map_congr_left fun y _ => ?_
    show lift (if y.1 = k then (y.1, y.2.1, v) else y) = putAt (nkOf k) v (lift y)
    unfold putAt
    by_cases e : y.1 = k
    · have e2 : (lift y).1 = nkOf k := by show nkOf y.1 = _; rw [e]
      rw [if_pos e, if_pos e2]; rfl
    · have e2 : ¬ (lift y).1 = nkOf k := fun z => e (nk_inj z)
      rw [if_neg e, if_neg e2]
  · rw [if_neg h, if_neg (by simpa using h), List.map_append]
    rfl
theorem putY_keys (ys : List Ent) (k : Key2) (a : Addr) (v : Value) : (putY ys k a v).map (·.1) = if k ∈ ys.map (·.1) then ys.map (·.1) else ys.map (·.1) ++ [k] := by
  unfold putY
  split
  · rw [List.map_map]
    refine List.map_congr_left fun y _ => ?_
    show (if y.1 = k then (y.1, y.2.1, v) else y).1 = y.1
    split <;> rfl
  · rw [List.map_append]; rfl
theorem putY_nd {ys : List Ent} {k : Key2} {a : Addr} {v : Value} (nd : (ys.map (·.1)).Nodup) : ((putY ys k a v).map (·.1)).Nodup := by
  rw [putY_keys]
  split
  · exact nd
  · rename_i h
    rw [List.nodup_append]
    exact ⟨nd, by simp, fun x hx y hy e => h (by rw [List.mem_singleton] at hy; rw [← hy, ← e]; exact hx)⟩
theorem putY_length (ys : List Ent) (k : Key2) (a : Addr) (v : Value) : (putY ys k a v).length ≤ ys.length + 1 := by
  unfold putY
  split
  · rw [List.length_map]; exact Nat.le_succ _
  · rw [List.length_append]; exact Nat.le_refl _
theorem putY_mem {ys : List Ent} {k : Key2} {a : Addr} {v : Value} {y : Ent} (h : y ∈ putY ys k a v) : y ∈ ys ∨ (y.1 = k ∧ y.2.2 = v ∧ (y.2.1 = a ∨ ∃ z ∈ ys, z.1 = k ∧ z.2.1 = y.2.1)) := by
  unfold putY at h
  split at h
  · obtain ⟨z, hz, e⟩ := List.mem_map.mp h
    split at e
    · rename_i hk
      subst e
      exact .inr ⟨hk, rfl, .inr ⟨z, hz, hk, rfl⟩⟩
    · subst e
      exact .inl hz
  · rcases List.mem_append.mp h with h | h
    · exact .inl h
    · rw [List.mem_singleton] at h
      subst h
      exact .inr ⟨rfl, rfl, .inl rfl⟩
theorem putY_has (ys : List Ent) (k : Key2) (a : Addr) (v : Value) : ∃ q, (k, q, v) ∈ putY ys k a v := by
  unfold putY
  split
  · rename_i h
    obtain ⟨z, hz, e⟩ := List.mem_map.mp h
    exact ⟨z.2.1, List.mem_map.mpr ⟨z, hz, by rw [if_pos e, e]⟩⟩
  · exact ⟨a, by simp⟩
end
section
variable {X : Cx}
theorem room_nested (hu : X.A.units + 64 < cLine) : (nestedKind X.prog X.w).room X.A.in1 := by
  show X.A.units + 1 + 8 < cLine
  omega
/-- k not in d -/
def rMemoNot (P : Program) (w : World) (K : PySem.W.Frag) : R2 := fun x y H Q => ∃ (p d : Addr) (k : Key2) (ys : List Ent), x = .ref p ∧ y = .ref d ∧ KeyAt K H k p ∧ Memo P w K H d ys ∧ Q (.bl (!decide (k ∈ ys.map (·.1)))) H
theorem op_memoNot (hu : X.A.units + 64 < cLine) : OpR X (compareOp .NotIn) (rMemoNot X.prog X.w X.K) := fun pins s σ H x y v u Q I rx ry h => by
  obtain ⟨p, d, k, ys, rfl, rfl, hk, hm, q⟩ := h
  cases rx
  cases ry
  obtain ⟨hs, hd⟩ := hm.dict I
  refine notIn_keyed (room_nested hu) (hk.is I) hs ⟨_, hd, rfl⟩ ⟨.bl (!decide (k ∈ ys.map (·.1))), H, I.tok _, ?_, q⟩
  show Value.bool _ = Value.bool _
  rw [valueAt_pairsH, Option.isSome_map, at_some]
/-- d[k], k there -/
def rMemoGet (P : Program) (w : World) (K : PySem.W.Frag) : R2 := fun x y H Q => ∃ (d p q : Addr) (k : Key2) (ys : List Ent) (i : Int) (t : Tok), x = .ref d ∧ y = .ref p ∧ KeyAt K H k p ∧ Memo P w K H d ys ∧ (k, q, Value.int i t) ∈ ys ∧ Q (.int i) H
theorem ix_memo (hu : X.A.units + 64 < cLine) : IxR X (rMemoGet X.prog X.w X.K) := fun value slice pins s σ H x y v u Q I rx ry h hs => by
  obtain ⟨d, p, q', k, ys, i, t, rfl, rfl, hk, hm, hmem, q⟩ := h
  cases rx
  cases ry
  obtain ⟨_, hd⟩ := hm.dict I
  have e := at_mem hm.nd hmem
  exact subscriptTail_builtinR (x := .int i t) hd.typeIs PySem.F.slot_dict_getitem.lookup (wpAny_getItem_heap (room_nested hu) (hk.is I) hd e ⟨rfl, .int i, H, I.tok _, ⟨t, rfl⟩, q⟩) hs
/-- d[k] = i -/
def rMemoPut (P : Program) (w : World) (K : PySem.W.Frag) : TSet := fun o i v H Q => ∃ (d p : Addr) (k : Key2) (ys : List Ent) (n : Int), o = .ref d ∧ i = .ref p ∧ v = .int n ∧ KeyAt K H k p ∧ Memo P w K H d ys ∧ ys.length ≤ sizeLine ∧
  ∀ t H', Memo P w K H' d (putY ys k p (.int n t)) → (∀ b, b ≠ d → H' b = H b) → Q H'
theorem set_memo (hu : X.A.units + 64 < cLine) : PSet X (rMemoPut X.prog X.w X.K) := fun pins s σ H o i v ov iv u Q I ro ri rv h => by
  obtain ⟨d, p, k, ys, n, rfl, rfl, rfl, hk, hm, hl, q⟩ := h
  cases ro
  cases ri
  obtain ⟨t, rfl⟩ := rv
  obtain ⟨hs, hd⟩ := hm.dict I
  refine wpAny_setItem_heap (hsz := by rw [List.length_map]; exact hl) (room_nested hu) (hk.is I) hd fun h' hd' hb => ?_
  have hR : Raw X.prog X.w d (putY ys k p (.int n t)) h' := by
    obtain ⟨ob, es, ep, ho, hx, hdt, he, _⟩ := hd'
    exact ⟨hs, ob, es, ep, ho, hx, hdt, by rw [he, putY_lift]⟩
  have ex : ∃ ob, h'.get? d = some ob := let ⟨_, ob, _, _, ho, _⟩ := hR; ⟨ob, ho⟩
  have hKs : ∀ y ∈ putY ys k p (.int n t), KeyAt X.K H y.1 y.2.1 := fun y hy => by
    rcases putY_mem hy with hy | ⟨e1, _, e3 | ⟨z, hz, e4, e5⟩⟩
    · exact hm.keys y hy
    · rw [e1, e3]; exact hk
    · have := hm.keys z hz
      rw [e4, e5] at this
      rw [e1]; exact this
  have hm' : Memo X.prog X.w X.K (upd H d (memoO X.prog X.w d (putY ys k p (.int n t)))) d (putY ys k p (.int n t)) :=
    ⟨upd_same, fun y hy => (hKs y hy).upd hm.at_, putY_nd hm.nd⟩
  refine ⟨upd H d (memoO X.prog X.w d (putY ys k p (.int n t))), I.write (x := d) (e := d) (t' := s.toks + _) (by rw [hm.at_]; trivial) (.inl rfl) (fun b ob hne e => (hb.2 b hne).trans e) ex ⟨hR, ex, ?_⟩, q t _ hm' fun b hne => upd_ne hne⟩
  rintro h1 h2 ⟨a1, ob, es, ep, ho, r⟩ hk2
  exact ⟨a1, ob, es, ep, hk2 _ ho, r⟩
/-- {} -/
def tMemoNew (P : Program) (w : World) : TE := fun _ H Q => ∀ d, H d = none → Q (.ref d) (upd H d (memoO P w d []))
theorem pe_memoNew {pos : Pos} : PE X (.Dict [] [] pos) (tMemoNew X.prog X.w) := ⟨fun pins s σ H Q I h => by
  refine wpAny_Dict_empty ⟨.ref s.heap.objs.size, _, I.laid (a := s.heap.objs.size) (o := memoO X.prog X.w s.heap.objs.size []) (t' := s.toks) (fun _ _ q => Heap.get?_push_of_some _ q) (Nat.le_refl _) ⟨?_, ⟨_, Heap.get?_push_size _ rfl⟩, ?_⟩, rfl, h _ (I.hok.fresh (Nat.le_refl _))⟩
  · exact ⟨beq_eq_false_iff_ne.mpr (Ne.symm (Nat.ne_of_lt I.big)), _, #[], 0, Heap.get?_push_size _ rfl, ⟨rfl, rfl, rfl⟩, rfl, rfl⟩
  · rintro h1 h2 ⟨a1, ob, es, ep, ho, r⟩ hk2
    exact ⟨a1, ob, es, ep, hk2 _ ho, r⟩⟩
theorem Memo.new {P : Program} {w : World} {K : PySem.W.Frag} {H : Hp} {d : Addr} : Memo P w K (upd H d (memoO P w d [])) d [] := ⟨upd_same, (fun _ h => nomatch h), List.nodup_nil⟩
end
end Ov
set_option Elab.async false
set_option linter.all false
set_option maxRecDepth 100000
set_option maxHeartbeats 4000000
/-! min of a list of pairs (whole number, tuple of whole numbers). -/
namespace Ov
open PySem PySem.Spec PyProof.Rows L2
abbrev Pr : Type := Int × List Int
def dNums (o : List Int) : List PyData := o.map PyData.int
def dPr (p : Pr) : PyData := .tuple [.int p.1, .tuple (dNums p.2)]
def ltPr (p q : Pr) : Bool := if p.1 = q.1 then lexB p.2 q.2 else decide (p.1 < q.1)
def minPr (p : Pr) (L : List Pr) : Pr := L.foldl (fun a y => if ltPr y a = true then y else a) p
theorem eqv_int (a b : Int) : PyData.eqv (.int a) (.int b) = decide (a = b) := by
  by_cases h : a = b
  · subst h; simp [PyData.eqv]
  · simp [PyData.eqv, h]
theorem toks_nums : ∀ o u : List Int, PyProof.Rows.lexLt itemOrd (PySem.W.keyToksAll (dNums o)) (PySem.W.keyToksAll (dNums u)) = lexB o u
  | [], [] => by unfold lexB; exact lex_irrefl _
  | [], y :: u => by
    show PyProof.Rows.lexLt itemOrd (PySem.W.keyToksAll []) (PySem.W.keyToksAll (PyData.int y :: dNums u)) = true
    rw [PySem.W.toks_all_cons]
    simp only [PySem.W.keyToksAll]
    rw [lex_diff (O := itemOrd) (by simp)]
    simp [itemLt]
  | x :: o, [] => by
    show PyProof.Rows.lexLt itemOrd (PySem.W.keyToksAll (PyData.int x :: dNums o)) (PySem.W.keyToksAll []) = false
    rw [PySem.W.toks_all_cons]
    simp only [PySem.W.keyToksAll]
    rw [lex_diff (O := itemOrd) (by simp)]
    simp [itemLt]
  | x :: o, y :: u => by
    have ih := toks_nums o u
    show PyProof.Rows.lexLt itemOrd (PySem.W.keyToksAll (PyData.int x :: dNums o)) (PySem.W.keyToksAll (PyData.int y :: dNums u)) = if x = y then lexB o u else decide (x < y)
    by_cases h : x = y
    · rw [if_pos h, PySem.W.dataLt_all_yes rfl (by rw [eqv_int, decide_eq_true h]), ih]
    · rw [if_neg h, PySem.W.dataLt_all_no rfl (by rw [eqv_int, decide_eq_false h]), PySem.W.dataLt_int]
theorem eqv_nums : ∀ o u : List Int, PyData.eqvAll (dNums o) (dNums u) = decide (o = u)
  | [], [] => by simp [dNums, PyData.eqvAll]
  | [], y :: u => by simp [dNums, PyData.eqvAll]
  | x :: o, [] => by simp [dNums, PyData.eqvAll]
  | x :: o, y :: u => by
    have ih := eqv_nums o u
    show PyData.eqvAll (PyData.int x :: dNums o) (PyData.int y :: dNums u) = decide (x :: o = y :: u)
    rw [PySem.W.eqv_all_cons, ih, eqv_int, Bool.eq_iff_iff]
    simp
theorem alike_nums : ∀ o u : List Int, PySem.W.alikeAll (dNums o) (dNums u) = true
  | [], _ => by unfold dNums; simp [PySem.W.alikeAll]
  | _ :: _, [] => by unfold dNums; simp [PySem.W.alikeAll]
  | x :: o, y :: u => by
    show PySem.W.alikeAll (PyData.int x :: dNums o) (PyData.int y :: dNums u) = true
    rw [PySem.W.alikeAll, alike_nums o u]
    rfl
theorem alike_pr (p q : Pr) : PySem.W.alike (dPr p) (dPr q) = true := by
  unfold dPr
  simp [PySem.W.alike, PySem.W.alikeAll, alike_nums]
theorem dataLt_pr (p q : Pr) : PySem.W.dataLt (dPr p) (dPr q) = ltPr p q := by
  unfold dPr ltPr
  rw [PySem.W.dataLt_tuple]
  by_cases h : p.1 = q.1
  · rw [if_pos h, PySem.W.dataLt_all_yes rfl (by rw [eqv_int, decide_eq_true h])]
    have ha : PySem.W.alike (.tuple (dNums p.2)) (.tuple (dNums q.2)) = true := by simp [PySem.W.alike, alike_nums]
    by_cases h2 : p.2 = q.2
    · rw [PySem.W.dataLt_all_yes ha (by simp [PyData.eqv, eqv_nums, h2]), ← toks_nums p.2 q.2, h2, lex_irrefl, lex_irrefl]
    · rw [PySem.W.dataLt_all_no ha (by simp [PyData.eqv, eqv_nums, h2]), PySem.W.dataLt_tuple, toks_nums]
  · rw [if_neg h, PySem.W.dataLt_all_no rfl (by rw [eqv_int, decide_eq_false h]), PySem.W.dataLt_int]
theorem minD_pr (p : Pr) (L : List Pr) : PySem.W.minD (dPr p) (L.map dPr) = dPr (minPr p L) := by
  unfold PySem.W.minD minPr
  induction L generalizing p with
  | nil => rfl
  | cons q L ih =>
    rw [List.map_cons, List.foldl_cons, List.foldl_cons, ← ih, dataLt_pr]
    split <;> rfl
/-- the first of the greatest: over ascending orders, Python's min of (- number, order) -/
theorem minPr_take (ws : List Int) (os : List (List Int)) (hl : ws.length = os.length) (up : ∀ (i j : Nat) (a b : List Int), i < j → os[i]? = some a → os[j]? = some b → lexB b a = false) (w0 : Int) (o0 : List Int) (h0 : ws[0]? = some w0) (g0 : os[0]? = some o0) :
    ∀ k, k + 1 ≤ ws.length → ∃ i w o, i ≤ k ∧ ws[i]? = some w ∧ os[i]? = some o ∧ minPr (- w0, o0) (((ws.zip os).map fun p => ((- p.1, p.2) : Pr)).drop 1 |>.take k) = (- w, o) ∧ (∀ j v, j ≤ k → ws[j]? = some v → v ≤ w) ∧ (∀ j v, j < i → ws[j]? = some v → v < w)
  | 0, _ => ⟨0, w0, o0, Nat.le_refl _, h0, g0, by rw [List.take_zero]; rfl, fun j v hj hv => by
      have : j = 0 := by omega
      subst this; rw [h0] at hv; cases hv; exact Int.le_refl _, fun j v hj _ => absurd hj (Nat.not_lt_zero _)⟩
  | k + 1, hk => by
    obtain ⟨i, w, o, hi, hw, ho, e, h1, h2⟩ := minPr_take ws os hl up w0 o0 h0 g0 k (by omega)
    have hk1 : k + 1 < ws.length := by omega
    have hk2 : k + 1 < os.length := by omega
    have ew : ws[k + 1]? = some ws[k + 1] := List.getElem?_eq_getElem hk1
    have eo : os[k + 1]? = some os[k + 1] := List.getElem?_eq_getElem hk2
    have ez : (((ws.zip os).map fun p => ((- p.1, p.2) : Pr)).drop 1)[k]? = some (- ws[k + 1], os[k + 1]) := by
      have ep : (ws.zip os)[k + 1]? = some (ws[k + 1], os[k + 1]) := List.getElem?_zip_eq_some.mpr ⟨ew, eo⟩
      rw [List.getElem?_drop, Nat.add_comm 1 k, List.getElem?_map, ep]
      rfl
    have et : minPr (- w0, o0) ((((ws.zip os).map fun p => ((- p.1, p.2) : Pr)).drop 1).take (k + 1)) = if ltPr (- ws[k + 1], os[k + 1]) (- w, o) = true then (- ws[k + 1], os[k + 1]) else (- w, o) := by
      rw [List.take_add_one, ez]
      unfold minPr at e ⊢
      rw [Option.toList_some, List.foldl_append, e]
      rfl
    by_cases hlt : w < ws[k + 1]
    · refine ⟨k + 1, ws[k + 1], os[k + 1], Nat.le_refl _, ew, eo, ?_, fun j v hj hv => ?_, fun j v hj hv => ?_⟩
      · rw [et, if_pos]
        show (if - ws[k + 1] = - w then _ else decide (- ws[k + 1] < - w)) = true
        rw [if_neg (by omega)]
        exact decide_eq_true (by omega)
      · by_cases ej : j = k + 1
        · subst ej; rw [ew] at hv; cases hv; exact Int.le_refl _
        · have := h1 j v (by omega) hv; omega
      · have := h1 j v (by omega) hv; omega
    · refine ⟨i, w, o, by omega, hw, ho, ?_, fun j v hj hv => ?_, h2⟩
      · rw [et, if_neg]
        show ¬ (if - ws[k + 1] = - w then lexB os[k + 1] o else decide (- ws[k + 1] < - w)) = true
        by_cases h : - ws[k + 1] = - w
        · rw [if_pos h, up i (k + 1) o os[k + 1] (by omega) ho eo]
          exact Bool.false_ne_true
        · rw [if_neg h]
          simp
          omega
      · by_cases ej : j = k + 1
        · subst ej; rw [ew] at hv; cases hv; omega
        · exact h1 j v (by omega) hv
section
variable {X : Cx}
/-- min(xs) of a list of such pairs -/
def rMinPr (K : PySem.W.Frag) : List V → Hp → VK → Prop := fun vs H Q => ∃ (a : Addr) (xs : List V) (p : Pr) (L : List Pr), vs = [V.ref a] ∧ SqL K H a xs ∧ DpAll K H xs ((p :: L).map dPr) ∧
  ∀ (i : Nat) (x : V), xs[i]? = some x → (p :: L)[i]? = some (minPr p L) → Q x H
theorem dPr_inj {p q : Pr} (h : dPr p = dPr q) : p = q := by
  unfold dPr at h
  injection h with h
  injection h with h1 h
  injection h with h2 _
  injection h1 with h1
  injection h2 with h2
  refine Prod.ext h1 ?_
  have : ∀ o u : List Int, dNums o = dNums u → o = u := fun o u e => of_decide_eq_true (by rw [← eqv_nums, e, eqv_nums]; exact decide_eq_true rfl)
  exact this _ _ h2
theorem depth_nums2 : ∀ o : List Int, PyData.depthAll (dNums o) = 0
  | [] => rfl
  | x :: o => by
    show PyData.depthAll (PyData.int x :: dNums o) = 0
    rw [PyData.depthAll, depth_nums2 o]
    rfl
theorem depth_pr (p : Pr) : (dPr p).depth ≤ 3 := by
  unfold dPr
  simp only [PyData.depth, PyData.depthAll, depth_nums2]
  omega
theorem depth_prs : ∀ L : List Pr, PyData.depthAll (L.map dPr) ≤ 3
  | [] => Nat.zero_le _
  | p :: L => by
    rw [List.map_cons, PyData.depthAll]
    exact Nat.max_le.mpr ⟨depth_pr p, depth_prs L⟩
theorem cr_minPr (hc : X.calm = true) (hu : X.A.units + 64 < cLine) : CallR X (.builtin "min") (rMinPr X.K) := fun pins s σ H vs us Q I r h => by
  obtain ⟨a, xs, p, L, rfl, hs, hd, q⟩ := h
  obtain ⟨its, rv, hl, _⟩ := I.list hs
  rw [Vals.ref1 r]
  obtain ⟨as, hr⟩ := Dp.readsAll I _ _ _ hd rv
  have hr2 : ReadsAll s.heap its.toArray.toList (dPr p :: L.map dPr) as := by
    rw [List.toList_toArray]
    exact hr
  have ha : PySem.W.AlikeAll (dPr p :: L.map dPr) := by
    refine ⟨fun x hx y hy => ?_, fun x hx => ?_⟩
    · rw [← List.map_cons] at hx hy
      obtain ⟨p1, _, rfl⟩ := List.mem_map.mp hx
      obtain ⟨p2, _, rfl⟩ := List.mem_map.mp hy
      exact alike_pr p1 p2
    · rw [← List.map_cons] at hx
      obtain ⟨p1, _, rfl⟩ := List.mem_map.mp hx
      exact fun z => nomatch z
  refine PySem.W.min_list_data (I.ok.hd hc) hl.isList hr2 ha (by have := depth_prs (p :: L); rw [List.map_cons] at this; omega) fun i v h' tk bs hv hrd hk => ?_
  rw [minD_pr] at hrd
  have hv' : its[i]? = some v := by simpa using hv
  obtain ⟨bs2, hr3, hi, _, _⟩ := PySem.W.readsAll_at hr i v hv'
  have hr4 := PySem.W.reads_keeps hk hr3
  have ed := (hrd.unique _ _ hr4).1
  have hi' : i < (p :: L).length := by rw [List.length_map] at hi; exact hi
  have hlen : xs.length = its.length := rv.length
  have hix : i < xs.length := by rw [hlen]; exact (List.getElem?_eq_some_iff.mp hv').1
  obtain ⟨u, hu1, hu2⟩ := rv.get (List.getElem?_eq_getElem hix)
  rw [hv'] at hu1
  cases hu1
  refine ⟨xs[i], H, I.kept hk, hu2, q i xs[i] (List.getElem?_eq_getElem hix) ?_⟩
  rw [List.getElem?_eq_getElem hi']
  have eg : ((p :: L).map dPr).getD i .none = dPr (p :: L)[i] := by
    rw [List.getD_eq_getElem?_getD, List.getElem?_map, List.getElem?_eq_getElem hi']
    rfl
  rw [eg] at ed
  rw [← dPr_inj ed]
end
end Ov
set_option Elab.async false
set_option linter.all false
set_option maxRecDepth 100000
set_option maxHeartbeats 4000000
/-! The text by places, what the top has left, small facts about heaps. -/
namespace Ov
open PySem PySem.Spec PyProof.Rows L2
def top (i : Nat) : Stmt := PySem.Challenge.pw_overtake_k73_whole_gains_of_orders.main.body.getD i (.Pass ⟨0, 0, 0, 0⟩)
/-- the built-ins' names that the module leaves alone; its two numbers -/
structure Txt (mg : Str → Option Value) : Prop where
  len : mg "len" = none
  range : mg "range" = none
  isi : mg "isinstance" = none
  tint : mg "int" = none
  tbool : mg "bool" = none
  ttup : mg "tuple" = none
  tlist : mg "list" = none
  tstr : mg "str" = none
  enum : mg "enumerate" = none
  srt : mg "sorted" = none
  all : mg "all" = none
  any : mg "any" = none
  min : mg "min" = none
  max : mg "max" = none
  sum : mg "sum" = none
  mp : ∃ t, mg "MOST_PEOPLE" = some (.int 8 t)
  mo : ∃ t, mg "MOST_ORDERS" = some (.int 720 t)
/-- a def as it stands behind the top -/
structure DefK (K : PySem.W.Frag) (mg : Str → Option Value) (x : Str) (st : Stmt) (ps : List Str) (f : Addr) (fd : FuncData) : Prop where
  F : Fun K x x st f fd
  b : Binds K fd ps []
  g : mg x = some (.ref f)
theorem pe_k {X : Cx} {k : Nat} {x : Str} {st : Stmt} {ps : List Str} {f : Addr} {fd : FuncData} {sp : Sp} {e : Expr} {es : List Expr} {t : TA} {p pos : Pos} (G : FnOk X.prog X.w X.K X.mg X.base CX0 k f fd ps sp) (D : DefK X.K X.mg x st ps f fd) (hr : Room k X.A) (ha : PA X (e :: es) t)
    (hg : Gl X x := by rfl) (hdb : (x == ("__debug__" : Str)) = false := by decide) (he : starEach (e :: es) X.env = (false, eval e X.env) :: starEach es X.env := by rfl) (hpl : (backTo pos (starEach es X.env)).any (·.1) = false := by rfl) :
    PE X (.Call (.Name x p) (e :: es) [] pos) (tCall sp [] E0 t) := pe_call G hr hg D.g D.F.kp D.b .nil pass0 ha hdb he hpl
theorem b_int : bootBuiltins "int" = some (.type "int") := by decide +kernel
theorem b_bool : bootBuiltins "bool" = some (.type "bool") := by decide +kernel
theorem b_str : bootBuiltins "str" = some (.type "str") := by decide +kernel
theorem b_list : bootBuiltins "list" = some (.type "list") := by decide +kernel
theorem b_tup : bootBuiltins "tuple" = some (.type "tuple") := by decide +kernel
theorem b_isi : bootBuiltins "isinstance" = some (.builtin "isinstance") := by decide +kernel
theorem b_srt : bootBuiltins "sorted" = some (.builtin "sorted") := by decide +kernel
theorem b_all : bootBuiltins "all" = some (.builtin "all") := by decide +kernel
theorem b_any : bootBuiltins "any" = some (.builtin "any") := by decide +kernel
theorem b_min : bootBuiltins "min" = some (.builtin "min") := by decide +kernel
theorem b_max : bootBuiltins "max" = some (.builtin "max") := by decide +kernel
theorem b_sum : bootBuiltins "sum" = some (.builtin "sum") := by decide +kernel
section
variable {X : Cx}
theorem pe_ty {x : Str} {n : String} {pos : Pos} (hv : bootBuiltins x = some (.type n)) (hm : X.mg x = none) (hg : Gl X x := by rfl) (hn : x ≠ "__name__" := by decide) (hd : (x == ("__debug__" : Str)) = false := by decide) : PE X (.Name x pos) (tC (.ty n)) := pe_bltn hg hm hv rfl hn hd
end
/-! ### heaps -/
theorem Same.upL {H0 H : Hp} {l : Addr} {o : HO} (e : Same H0 H) (h : H0 l = none) : Same H0 (upd H l o) := fun b x q => by
  rw [upd_ne (ne_of_none q h)]
  exact e b x q
theorem sqT_upd {K : PySem.W.Frag} {H : Hp} {a l : Addr} {xs ys : List V} {o : HO} (h : SqT K H a xs) (hl : H l = some (.lst ys)) : SqT K (upd H l o) a xs := by
  rcases h with (h | ⟨u, h⟩) | h
  · exact .inl (.inl (by rw [upd_ne (ne_of h hl fun z => nomatch z)]; exact h))
  · exact .inl (.inr ⟨u, by rw [upd_ne (ne_of h hl fun z => nomatch z)]; exact h⟩)
  · exact .inr h
theorem SqT.is {K : PySem.W.Frag} {H : Hp} {a : Addr} {xs : List V} (h : SqT K H a xs) : TyX K H (.ref a) (.type "tuple") := by
  rcases h with (h | ⟨u, h⟩) | ⟨o, its, n, h, hc, _⟩
  · exact .base (.tup h)
  · exact .fTuple h
  · exact .kTuple h hc
theorem SqT.new {K : PySem.W.Frag} {H : Hp} {p : Addr} {xs : List V} : SqT K (upd H p (.tup xs)) p xs := .inl (.inl upd_same)
/-- tuples of whole numbers, by their places -/
abbrev Tups (K : PySem.W.Frag) (H : Hp) : List Addr → List (List Int) → Prop := Paired fun a o => SqT K H a (iV o)
theorem Tups.mono {K : PySem.W.Frag} {H H' : Hp} (f : ∀ a xs, SqT K H a xs → SqT K H' a xs) : ∀ {as : List Addr} {os : List (List Int)}, Tups K H as os → Tups K H' as os
  | _, _, .nil => .nil
  | _, _, .cons h t => .cons (f _ _ h) (Tups.mono f t)
theorem Tups.get {K : PySem.W.Frag} {H : Hp} : ∀ {as : List Addr} {os : List (List Int)} {i : Nat} {a : Addr}, Tups K H as os → as[i]? = some a → ∃ o, os[i]? = some o ∧ SqT K H a (iV o)
  | _, _, _, _, .nil, h => by simp at h
  | _, _, 0, a, .cons h t, e => by
    simp only [List.getElem?_cons_zero, Option.some.injEq] at e
    subst e
    exact ⟨_, rfl, h⟩
  | _, _, i + 1, a, .cons h t, e => by
    obtain ⟨o, h1, h2⟩ := Tups.get (i := i) (a := a) t (by simpa using e)
    exact ⟨o, by simpa using h1, h2⟩
theorem Tups.append {K : PySem.W.Frag} {H : Hp} : ∀ {as bs : List Addr} {os us : List (List Int)}, Tups K H as os → Tups K H bs us → Tups K H (as ++ bs) (os ++ us)
  | _, _, _, _, .nil, s => s
  | _, _, _, _, .cons h t, s => .cons h (Tups.append t s)
theorem Tups.length {K : PySem.W.Frag} {H : Hp} {as : List Addr} {os : List (List Int)} (h : Tups K H as os) : as.length = os.length := Paired.length h
/-! ### cuts -/
theorem cut_take {l : List Int} {i : Nat} (h : i ≤ l.length) : cutV (iV l) none (some (i : Int)) = iV (l.take i) := by
  unfold cutV
  rw [HT.sIx_none, HT.sIx_nat, List.length_map, Nat.min_eq_left h, List.drop_zero, Nat.sub_zero, ← List.map_take]
theorem cut_drop {l : List Int} {i : Nat} (h : i ≤ l.length) : cutV (iV l) (some (i : Int)) none = iV (l.drop i) := by
  unfold cutV
  rw [HT.sIx_none, HT.sIx_nat, List.length_map, Nat.min_eq_left h, ← List.map_drop, ← List.map_take, List.take_of_length_le (by rw [List.length_drop]; exact Nat.le_refl _)]
theorem cut_mid {l : List Int} {i j : Nat} (h : i ≤ j) (hj : j ≤ l.length) : cutV (iV l) (some (i : Int)) (some (j : Int)) = iV ((l.drop i).take (j - i)) := by
  unfold cutV
  rw [HT.sIx_nat, HT.sIx_nat, List.length_map, Nat.min_eq_left (Nat.le_trans h hj), Nat.min_eq_left hj, ← List.map_drop, ← List.map_take]
theorem iV_get {l : List Int} {i : Nat} (h : i < l.length) : (iV l)[i]? = some (.int l[i]) := by
  rw [List.getElem?_map, List.getElem?_eq_getElem h]; rfl
theorem sl_small {n : Nat} (h : n ≤ 10000) : n ≤ sizeLine := by rw [sizeLine_eq]; omega
theorem sl_lt {n : Nat} (h : n ≤ 10000) : n < sizeLine := by rw [sizeLine_eq]; omega
theorem inV_iV (p : Int) (l : List Int) : inV (.int p) (iV l) = l.contains p := by
  unfold inV
  rw [List.any_map, Bool.eq_iff_iff, List.any_eq_true]
  simp [eqV]
end Ov
set_option Elab.async false
set_option linter.all false
set_option maxRecDepth 100000
set_option maxHeartbeats 4000000
/-! Tuples told with their object (no dict of its own): so that their methods may be called. -/
namespace Ov
open PySem PySem.Spec PyProof.Rows L2
def SqF (H : Hp) (a : Addr) (xs : List V) : Prop := ∃ o : Obj, H a = some (.frz o (.tup xs)) ∧ o.dict = none
theorem SqF.t {K : PySem.W.Frag} {H : Hp} {a : Addr} {xs : List V} (h : SqF H a xs) : SqT K H a xs := let ⟨o, e, _⟩ := h; .inl (.inr ⟨o, e⟩)
theorem SqF.same {H H' : Hp} {a : Addr} {xs : List V} (h : SqF H a xs) (e : Same H H') : SqF H' a xs := let ⟨o, q, d⟩ := h; ⟨o, e _ _ q, d⟩
theorem SqF.upd {H : Hp} {a l : Addr} {xs ys : List V} {o : HO} (h : SqF H a xs) (hl : H l = some (.lst ys)) : SqF (L2.upd H l o) a xs := by
  obtain ⟨u, q, d⟩ := h
  exact ⟨u, by rw [upd_ne (ne_of q hl fun z => nomatch z)]; exact q, d⟩
abbrev tupOf (its : List Value) : Obj := { cls := .type "tuple", data := .seq its.toArray }
section
variable {X : Cx} {pins : List (Addr × Obj)} {σ : L2.St} {H : Hp} {s : Shared}
theorem Inv.newF (I : L2.Inv X pins σ H s) {xs : List V} {its : List Value} (r : Vals xs its) (hz : xs.length ≤ sizeLine) :
    L2.Inv X pins σ (upd H s.heap.objs.size (.frz (tupOf its) (.tup xs))) { s with heap := s.heap.push (tupOf its) } ∧ Same H (upd H s.heap.objs.size (.frz (tupOf its) (.tup xs))) ∧ SqF (upd H s.heap.objs.size (.frz (tupOf its) (.tup xs))) s.heap.objs.size xs := by
  refine ⟨I.laid (t' := s.toks) (o := .frz (tupOf its) (.tup xs)) (fun b ob q => Heap.get?_push_of_some _ q) (Nat.le_refl _) ⟨Heap.get?_push_size _ rfl, hz, its, r, ⟨_, Heap.get?_push_size _ rfl, rfl, _, rfl⟩⟩, Same.new (I.hok.fresh (Nat.le_refl _)), ⟨_, upd_same, rfl⟩⟩
end
section
variable {X : Cx}
/-- (a, *b, ..) -/
def tTupF (t : TA) : TE := fun σ H Q => t σ H fun xs H1 => xs.length ≤ sizeLine ∧ ∀ r H', Same H1 H' → H1 r = none → SqF H' r xs → Q (.ref r) H'
theorem pe_tupF {es : List Expr} {t : TA} {x1} {pos : Pos} (h : PA X es t) : PE X (.Tuple es x1 pos) (tTupF t) := ⟨fun pins s σ H Q I hq => by
  refine wpAny_Tuple_spliced (thn (h.run pos pins s σ H _ I hq) fun us s1 ⟨xs, H1, I1, r, z, q⟩ => ⟨by rw [← r.length]; exact z, ?_⟩)
  obtain ⟨I2, e2, f2⟩ := Inv.newF I1 r z
  exact ⟨.ref s1.heap.objs.size, _, I2, rfl, q _ _ e2 (I1.hok.fresh (Nat.le_refl _)) f2⟩⟩
/-- t[lo:hi] -/
def rSlF : V → Option Int → Option Int → Hp → VK → Prop := fun x lo hi H Q => ∃ a xs, x = .ref a ∧ SqF H a xs ∧ ∀ r H', Same H H' → SqF H' r (cutV xs lo hi) → Q (.ref r) H'
theorem sl_tupF : SlR X rSlF := fun pins s σ H x v vl vu lo hi sl Q I rx hs pl pu h => by
  obtain ⟨a, xs, rfl, hx, q⟩ := h
  cases rx
  obtain ⟨its, r, ht, hz⟩ := I.tuple (SqF.t hx)
  have hlen : its.toArray.size = xs.length := by rw [List.size_toArray]; exact r.length.symm
  refine ⟨"tuple", _, PyProof.Rows.slot_tuple_getitem.lookup, ht.typeIs, ?_⟩
  by_cases hw : HT.sIx xs.length 0 lo = 0 ∧ HT.sIx xs.length xs.length hi = xs.length
  · refine getItem_tuple_whole ht hs pl pu (by rw [hlen]; exact hw) ⟨.ref a, H, I, rfl, q a H (Same.refl H) ?_⟩
    have ec : cutV xs lo hi = xs := by
      unfold cutV
      rw [hw.1, hw.2]
      simp
    rw [ec]
    exact hx
  · refine HT.getItem_tuple_cut ht hs pl pu (by rw [hlen]; exact hw) ?_ (by rw [hlen]; exact hz)
    rw [hlen]
    obtain ⟨I2, e2, f2⟩ := Inv.newF I ((r.drop (HT.sIx xs.length 0 lo)).take (HT.sIx xs.length xs.length hi - HT.sIx xs.length 0 lo)) (Nat.le_trans (cutV_length xs lo hi) hz)
    exact ⟨.ref s.heap.objs.size, _, I2, rfl, q _ _ e2 f2⟩
/-- t + u -/
def rCatF : R2 := fun x y H Q => ∃ a b xs ys, x = .ref a ∧ y = .ref b ∧ SqF H a xs ∧ SqF H b ys ∧ xs.length + ys.length ≤ sizeLine ∧ ∀ r H', Same H H' → SqF H' r (xs ++ ys) → Q (.ref r) H'
theorem op_catF : OpR X (binaryOp .Add) rCatF := fun pins s σ H x y v u Q I rx ry h => by
  obtain ⟨a, b, xs, ys, rfl, rfl, ha, hb, hz, q⟩ := h
  cases rx
  cases ry
  obtain ⟨its, r1, p1, _⟩ := I.tuple (SqF.t ha)
  obtain ⟨its2, r2, p2, _⟩ := I.tuple (SqF.t hb)
  by_cases hx : xs = []
  · subst hx
    cases r1
    exact cat_tup0 p1 p2 ⟨.ref b, H, I, rfl, q b H (Same.refl H) hb⟩
  · refine HT.cat_tup p1 p2 (fun z => hx (r1.nil_iff.mp z)) (fun z => ?_) (fun z => ?_) (by rw [← r1.length, ← r2.length]; exact hz)
    · have hy := r2.nil_iff.mp z
      subst hy
      exact ⟨.ref a, H, I, rfl, q a H (Same.refl H) (by rw [List.append_nil]; exact ha)⟩
    · obtain ⟨I2, e2, f2⟩ := Inv.newF I (r1.append r2) (by rw [List.length_append]; exact hz)
      exact ⟨.ref s.heap.objs.size, _, I2, rfl, q _ _ e2 f2⟩
/-- tuple(xs) of a list -/
def rTupF (K : PySem.W.Frag) : List V → Hp → VK → Prop := fun xs H Q => ∃ p ys, xs = [.ref p] ∧ SqL K H p ys ∧ ∀ r H', Same H H' → SqF H' r ys → Q (.ref r) H'
theorem call_tupF : CallR X (.type "tuple") (rTupF X.K) := fun pins s σ H xs us Q I r h => by
  obtain ⟨p, ys, rfl, hq, q⟩ := h
  rw [Vals.ref1 r]
  obtain ⟨its, r', pl, hz⟩ := I.list hq
  have hlen := r'.length
  refine call_tuple_list pl.isList (fun h' kp => ?_) (by simp only [List.size_toArray]; omega)
  have I1 : L2.Inv X pins σ H { s with heap := h' } := I.kept (t' := s.toks) kp
  obtain ⟨I2, e2, f2⟩ := Inv.newF I1 r' hz
  exact ⟨.ref h'.objs.size, _, I2, rfl, q _ _ e2 f2⟩
/-- t.index(n) -/
def tIdxF (K : PySem.W.Frag) (to : TE) (t : TA) : TE := fun σ H Q => to σ H fun x H1 => (∃ p xs, x = .ref p ∧ SqF H1 p xs) ∧ t σ H1 fun vs H2 => rIdx K x vs H2 Q
theorem pe_idxF {o e : Expr} {to : TE} {t : TA} {apos cpos : Pos} (ho : PE X o to) (ha : PA X [e] t)
    (hbase : attributeBase o (Str.ofString "index") X.env (eval o X.env) = eval o X.env := by rfl)
    (hfew : ((backTo cpos (starEach [e] X.env)).all (fun x => !x.1) && (backToKw cpos (keywordEach [] X.env)).all (fun x => x.1.isSome) && decide ([e].length + ([] : List Keyword).length + (if ([] : List Keyword).isEmpty then 0 else 1) < 30)) = true := by rfl)
    (hline : (apos.endLine == cpos.line) = true := by rfl) (hs : starEach [e] X.env = (false, eval e X.env) :: starEach [] X.env := by rfl) (hplain : (backTo cpos (starEach [] X.env)).any (·.1) = false := by rfl) :
    PE X (.Call (.Attribute o (Str.ofString "index") apos) [e] [] cpos) (tIdxF X.K to t) := ⟨fun pins s σ H Q I h => by
  refine wpAny_Call_method_late hbase hfew hline rfl (thn (ho.run pins s σ H _ I h) fun v s1 ⟨x, H1, I1, r1, ⟨p, xs, ex, hp⟩, q1⟩ => ?_)
  subst ex
  cases r1
  obtain ⟨ob, hob, hdict⟩ := hp
  obtain ⟨hget, _⟩ := (show ObjOk X.prog X.w H1 s1.heap p (.frz ob (.tup xs)) from I1.hok p _ hob)
  obtain ⟨_, _, pt, _⟩ := I1.tuple (SqF.t (K := X.K) ⟨ob, hob, hdict⟩)
  refine ⟨"tuple", _, PySem.F.plainAttrs_tuple, PySem.F.slot_tuple_index, PySem.F.type_tuple_index, pt.typeIs, fun a ea => ?_, ?_⟩
  · cases ea
    exact ⟨ob, hget, hdict⟩
  · have hA := ha.run cpos pins s1 σ H1 _ I1 q1
    rw [hs] at hA ⊢
    refine Calls.callWith_builtin (by show (false || (backTo cpos (starEach [] X.env)).any (·.1)) = false; rw [hplain] <;> rfl) (Calls.evalArgs_plain ?_)
    exact thn hA fun us s2 ⟨vs, H2, I2, r2, q2⟩ => mt_tup_idx pins s2 σ H2 (.ref p) vs (.ref p) us Q I2 rfl r2 q2⟩
end
end Ov
set_option Elab.async false
set_option linter.all false
set_option maxRecDepth 100000
set_option maxHeartbeats 4000000
namespace Ov
open PySem PySem.Spec PyProof.Rows L2
section
variable {P : Program} {w : World} {K : PySem.W.Frag} {mg : Str → Option Value} {base : Heap}
/-! ### is_integer, is_in, is_list, factorial -/
abbrev st_isInt : Stmt := top 1
theorem sc_isInt : FnScope ["value"] ["value"] (defScope st_isInt) := ⟨rfl, rfl, rfl, by decide +kernel, rfl, by decide +kernel, by decide +kernel⟩
def sp_isInt : Sp := fun vs H Q _ => ∃ i : Int, vs = [.int i] ∧ Q (.bl true) H
theorem ok_isInt {f : Addr} {fd : FuncData} (D : DefK K mg "is_integer" st_isInt ["value"] f fd) (T : Txt mg) : FnOk P w K mg base CX0 1 f fd ["value"] sp_isInt := by
  refine D.F.ok sc_isInt (fun vs H Q E h => ?_) (fun cdv A outer s H vs Q E hr h => ?_)
  · obtain ⟨i, rfl, _⟩ := h
    rfl
  · obtain ⟨i, rfl, q⟩ := h
    refine ⟨_, pss_one (ps_ret (pe_and (pe_callB call_isi (by rfl) T.isi b_isi (pa_cons (pv 0) (pa_cons (pe_ty b_int T.tint) pa_nil)))
      (pe_one (pe_not (pe_callB call_isi (by rfl) T.isi b_isi (pa_cons (pv 0) (pa_cons (pe_ty b_bool T.tbool) pa_nil))))))), ?_⟩
    refine ⟨_, rfl, .int i, .ty "int", .type "int", .type "int", true, rfl, .ty _, .base (.int i), kit_ty (by decide +kernel), true, rfl, iteT ?_⟩
    exact ⟨_, rfl, .int i, .ty "bool", .type "int", .type "bool", false, rfl, .ty _, .base (.int i), kit_ty (by decide +kernel), false, rfl, q⟩
abbrev st_isIn : Stmt := top 2
theorem sc_isIn : FnScope ["value", "least", "most"] ["value", "least", "most"] (defScope st_isIn) := ⟨rfl, rfl, rfl, by decide +kernel, rfl, by decide +kernel, by decide +kernel⟩
def sp_isIn : Sp := fun vs H Q _ => ∃ i lo hi : Int, vs = [.int i, .int lo, .int hi] ∧ Q (.bl (decide (lo ≤ i ∧ i ≤ hi))) H
theorem ok_isIn {f g : Addr} {fd gd : FuncData} (D : DefK K mg "is_in" st_isIn ["value", "least", "most"] f fd) (T : Txt mg) (D1 : DefK K mg "is_integer" st_isInt ["value"] g gd) : FnOk P w K mg base CX0 2 f fd ["value", "least", "most"] sp_isIn := by
  have G1 : FnOk P w K mg base CX0 1 g gd ["value"] sp_isInt := ok_isInt D1 T
  refine D.F.ok sc_isIn (fun vs H Q E h => ?_) (fun cdv A outer s H vs Q E hr h => ?_)
  · obtain ⟨i, lo, hi, rfl, _⟩ := h
    rfl
  · obtain ⟨i, lo, hi, rfl, q⟩ := h
    refine ⟨_, pss_one (ps_ret (pe_and (pe_k G1 D1 hr (pa_cons (pv 0) pa_nil)) (pe_one (pe_chain op_le op_le (pv 1) (pv 0) (pv 2))))), ?_⟩
    refine ⟨_, rfl, i, rfl, true, rfl, iteT ⟨_, rfl, _, rfl, _, _, rfl, rfl, decide (lo ≤ i), rfl, ?_⟩⟩
    by_cases h1 : lo ≤ i
    · rw [decide_eq_true h1]
      refine iteT ⟨_, rfl, _, _, rfl, rfl, ?_⟩
      have e : decide (lo ≤ i ∧ i ≤ hi) = decide (i ≤ hi) := by simp [h1]
      rw [e] at q
      exact q
    · rw [decide_eq_false h1]
      refine iteF ?_
      have e : decide (lo ≤ i ∧ i ≤ hi) = false := decide_eq_false fun z => h1 z.1
      rw [e] at q
      exact q
abbrev st_isList : Stmt := top 3
theorem sc_isList : FnScope ["value", "least", "most"] ["value", "least", "most"] (defScope st_isList) := ⟨rfl, rfl, rfl, by decide +kernel, rfl, by decide +kernel, by decide +kernel⟩
def sp_isList (K : PySem.W.Frag) : Sp := fun vs H Q _ => ∃ (a : Addr) (xs : List V) (lo hi : Int), vs = [.ref a, .int lo, .int hi] ∧ SqT K H a xs ∧ Q (.bl (decide (lo ≤ (xs.length : Int) ∧ (xs.length : Int) ≤ hi))) H
theorem ok_isList {f : Addr} {fd : FuncData} (D : DefK K mg "is_list" st_isList ["value", "least", "most"] f fd) (T : Txt mg) : FnOk P w K mg base CX0 1 f fd ["value", "least", "most"] (sp_isList K) := by
  refine D.F.ok sc_isList (fun vs H Q E h => ?_) (fun cdv A outer s H vs Q E hr h => ?_)
  · obtain ⟨a, xs, lo, hi, rfl, _⟩ := h
    rfl
  · obtain ⟨a, xs, lo, hi, rfl, hS, q⟩ := h
    refine ⟨_, pss_one (ps_ret (pe_and (pe_callB call_isi (by rfl) T.isi b_isi (pa_cons (pv 0) (pa_cons (pe_ty b_tup T.ttup) pa_nil)))
      (pe_one (pe_chain op_le op_le (pv 1) (pe_callB call_len_seq (by rfl) T.len PySem.boot_len (pa_cons (pv 0) pa_nil)) (pv 2))))), ?_⟩
    refine ⟨_, rfl, .ref a, .ty "tuple", .type "tuple", .type "tuple", true, rfl, .ty _, SqT.is hS, kit_ty (by decide +kernel), true, rfl, iteT ?_⟩
    refine ⟨_, rfl, _, rfl, a, xs, rfl, .inr hS, _, _, rfl, rfl, decide (lo ≤ (xs.length : Int)), rfl, ?_⟩
    by_cases h1 : lo ≤ (xs.length : Int)
    · rw [decide_eq_true h1]
      refine iteT ⟨_, rfl, _, _, rfl, rfl, ?_⟩
      have e : decide (lo ≤ (xs.length : Int) ∧ (xs.length : Int) ≤ hi) = decide ((xs.length : Int) ≤ hi) := by simp [h1]
      rw [e] at q
      exact q
    · rw [decide_eq_false h1]
      refine iteF ?_
      have e : decide (lo ≤ (xs.length : Int) ∧ (xs.length : Int) ≤ hi) = false := decide_eq_false fun z => h1 z.1
      rw [e] at q
      exact q
end
end Ov
set_option Elab.async false
set_option linter.all false
set_option maxRecDepth 100000
set_option maxHeartbeats 4000000
namespace Ov
open PySem PySem.Spec PyProof.Rows L2
section
variable {P : Program} {w : World} {K : PySem.W.Frag} {mg : Str → Option Value} {base : Heap}
/-! ### factorial -/
def facI : Nat → Int
  | 0 => 1
  | i + 1 => facI i * ((i : Int) + 2)
theorem facI_le : ∀ i, i ≤ 7 → -(2 ^ 64) < facI i ∧ facI i < 2 ^ 64 ∧ (i ≤ 4 → facI i ≤ 720)
  | 0, _ => by decide
  | 1, _ => by decide
  | 2, _ => by decide
  | 3, _ => by decide
  | 4, _ => by decide
  | 5, _ => by decide
  | 6, _ => by decide
  | 7, _ => by decide
  | _ + 8, h => by omega
abbrev st_fac : Stmt := top 12
theorem sc_fac : FnScope ["many", "found", "number"] ["many"] (defScope st_fac) := ⟨rfl, rfl, rfl, by decide +kernel, rfl, by decide +kernel, by decide +kernel⟩
def sp_fac : Sp := fun vs H Q _ => ∃ n : Nat, vs = [.int n] ∧ 1 ≤ n ∧ n ≤ 8 ∧ Q (.int (facI (n - 1))) H
theorem ok_fac {f : Addr} {fd : FuncData} (D : DefK K mg "factorial" st_fac ["many"] f fd) (T : Txt mg) : FnOk P w K mg base CX0 1 f fd ["many"] sp_fac := by
  refine D.F.ok sc_fac (fun vs H Q E h => ?_) (fun cdv A outer s H vs Q E hr h => ?_)
  · obtain ⟨n, rfl, _⟩ := h
    rfl
  · obtain ⟨n, rfl, h1, h8, q⟩ := h
    refine ⟨_, pss_cons (ps_set (i := 1) sc_fac.nd rfl (.inl rfl) pe_int)
      (pss_cons (ps_for PassesOwn.never rfl (pi_range2 (by rfl) T.range (pa_cons pe_int (pa_cons (pe_op op_add (pv 0) pe_int) pa_nil))) (pg_name (i := 2) sc_fac.nd rfl (.inl rfl))
        (pss_one (ps_set (i := 1) sc_fac.nd rfl (.inl rfl) (pe_op op_mul (pv 1) (pv 2)))))
      (pss_one (ps_ret (pv 1)))), ?_⟩
    refine ⟨_, rfl, _, _, rfl, rfl, _, _, rfl, ⟨by omega, by omega, by omega, by omega⟩, for_range (lo := 2) (n := ((n : Int) + 1 - 2).toNat)
      (fun i σ H' => ∃ y, σ = [some (.int n), some (.int (facI i)), y] ∧ H' = H) ⟨none, rfl, rfl⟩ ?_ ?_⟩
    · rintro i σ H' hi ⟨y, rfl, rfl⟩
      have hb := facI_le i (by omega)
      refine ⟨_, rfl, _, rfl, _, _, rfl, rfl, .inl ⟨hb.1, hb.2.1⟩, some (.int (2 + (i : Int))), ?_, rfl⟩
      show _ = [some (V.int n), some (V.int (facI i * ((i : Int) + 2))), some (V.int (2 + (i : Int)))]
      rw [Int.add_comm (i : Int) 2]
      rfl
    · rintro σ H' ⟨y, rfl, rfl⟩
      have e : ((n : Int) + 1 - 2).toNat = n - 1 := by omega
      rw [e]
      exact ⟨_, rfl, q⟩
/-! ### need_line -/
abbrev st_needLine : Stmt := top 11
theorem sc_needLine : FnScope ["line", "index", "person"] ["line"] (defScope st_needLine) := ⟨rfl, rfl, rfl, by decide +kernel, rfl, by decide +kernel, by decide +kernel⟩
/-- a line of one to eight people stands at a -/
structure LineAt (H : Hp) (a : Addr) (n : Nat) (ns : List Int) : Prop where
  f : SqF H a (iV ns)
  l : IsLine n ns
  lo : 1 ≤ n
  hi : n ≤ 8
theorem LineAt.same {H H' : Hp} {a : Addr} {n : Nat} {ns : List Int} (h : LineAt H a n ns) (e : Same H H') : LineAt H' a n ns := ⟨h.f.same e, h.l, h.lo, h.hi⟩
theorem LineAt.t {K : PySem.W.Frag} {H : Hp} {a : Addr} {n : Nat} {ns : List Int} (h : LineAt H a n ns) : SqT K H a (iV ns) := SqF.t h.f
def sp_needLine : Sp := fun vs H Q _ => ∃ (a : Addr) (n : Nat) (ns : List Int), vs = [.ref a] ∧ LineAt H a n ns ∧ ∀ H', Same H H' → Q .non H'
theorem ok_needLine {f f1 f2 f3 : Addr} {fd d1 d2 d3 : FuncData} (D : DefK K mg "need_line" st_needLine ["line"] f fd) (T : Txt mg) (D1 : DefK K mg "is_integer" st_isInt ["value"] f1 d1)
    (D2 : DefK K mg "is_in" st_isIn ["value", "least", "most"] f2 d2) (D3 : DefK K mg "is_list" st_isList ["value", "least", "most"] f3 d3) : FnOk P w K mg base CX0 3 f fd ["line"] sp_needLine := by
  have G2 : FnOk P w K mg base CX0 2 f2 d2 ["value", "least", "most"] sp_isIn := ok_isIn D2 T D1
  have G3 : FnOk P w K mg base CX0 1 f3 d3 ["value", "least", "most"] (sp_isList K) := ok_isList D3 T
  obtain ⟨t8, h8⟩ := T.mp
  refine D.F.ok sc_needLine (fun vs H Q E h => ?_) (fun cdv A outer s H vs Q E hr h => ?_)
  · obtain ⟨a, n, ns, rfl, _⟩ := h
    rfl
  · obtain ⟨a, n, ns, rfl, ⟨hF, hl, h1, hn8⟩, q⟩ := h
    have hS : SqT K H a (iV ns) := SqF.t hF
    have hlen := hl.len
    refine ⟨_, pss_cons (ps_if (pt_not (pt_val (pe_k G3 D3 (hr.mono (by decide)) (pa_cons (pv 0) (pa_cons pe_int (pa_cons (pe_glob (v := .int 8) rfl h8 ⟨_, rfl⟩) pa_nil)))))) (pss_one ps_never) pss_nil)
      (pss_one (ps_for PassesOwn.never rfl (pi_enumT (by rfl) T.enum (pa_cons (pv 0) pa_nil)) (pg_tup rfl (pgs_cons (pg_name (i := 1) sc_needLine.nd rfl (.inl rfl)) (pgs_cons (pg_name (i := 2) sc_needLine.nd rfl (.inl rfl)) pgs_nil)))
        (pss_one (ps_if (PW.pt (pw_or (pt_not (pt_val (pe_k G2 D2 hr (pa_cons (pv 2) (pa_cons pe_int (pa_cons (pe_op op_sub (pe_callB call_len_seq (by rfl) T.len PySem.boot_len (pa_cons (pv 0) pa_nil)) pe_int) pa_nil))))))
          (pw_or1 (pt_cmpR op_in_seq (pv 2) (pe_slice sl_tupS (pv 0) po_none (po_some (pv 1))) (by rfl))))) (pss_one ps_never) pss_nil)))), ?_⟩
    refine ⟨_, rfl, a, iV ns, 1, 8, rfl, hS, _, rfl, iteNS ?_ ?_⟩
    · rw [List.length_map, hlen]; omega
    refine ⟨_, rfl, a, iV ns, rfl, hS, for_it walk_ItE (fun i σ H' => ∃ y1 y2, σ = [some (.ref a), y1, y2] ∧ Same H H') ⟨none, none, rfl, Same.refl H⟩ (fun i σ H' _ ⟨_, _, _, e⟩ => Same.sqT e hS) ?_ ?_⟩
    · rintro i x σ H1 H' hi ⟨y1, y2, rfl, e1⟩ ⟨Tp, x1, x2, rfl, nT, rfl, ex1, ex2⟩
      cases ex1
      have hi' : i < ns.length := by rw [List.length_map] at hi; exact hi
      cases (iV_get hi').symm.trans ex2
      have e2 : Same H (upd H1 Tp (.tup [.int (i : Nat), .int ns[i]])) := e1.trans (Same.new nT)
      have hS2 := Same.sqT e2 hS
      have hm : ns[i] ∈ ns := List.getElem_mem hi'
      refine ⟨Tp, _, rfl, SqT.new, rfl, _, _, rfl, _, _, rfl, rfl, ?_⟩
      refine ⟨_, rfl, _, rfl, a, iV ns, rfl, .inr hS2, _, _, rfl, rfl, _, _, _, rfl, _, rfl, ite2 (fun c => ?_) (fun _ => ?_)⟩
      · exfalso
        have hin := (hl.mem _).mp hm
        rw [decide_eq_true (by rw [List.length_map, hlen]; omega)] at c
        cases c
      · refine ⟨_, rfl, _, rfl, _, rfl, _, rfl, a, iV ns, rfl, hS2, fun r H3 e3 hr3 => ?_⟩
        rw [cut_take (Nat.le_of_lt hi')] at hr3
        refine ⟨r, _, rfl, .inr hr3, rfl, flat_iV _, _, rfl, ite2 (fun c => ?_) (fun _ => ?_)⟩
        · exfalso
          have c' : inV (.int ns[i]) (iV (ns.take i)) = true := c
          rw [inV_iV] at c'
          have hmem : ns[i] ∈ ns.take i := by simpa using c'
          obtain ⟨j, hj, ej⟩ := List.mem_take_iff_getElem.mp hmem
          have := (List.getElem_inj hl.nd).mp ej
          omega
        · exact ⟨_, _, rfl, e2.trans e3⟩
    · rintro σ H' ⟨y1, y2, rfl, e⟩
      exact q H' e
end
end Ov
set_option Elab.async false
set_option linter.all false
set_option maxRecDepth 100000
set_option maxHeartbeats 4000000
namespace Ov
open PySem PySem.Spec PyProof.Rows L2
theorem filt_step {α : Type} (P : α → Bool) {t : List α} {i : Nat} (h : i < t.length) : (t.take (i + 1)).filter P = (t.take i).filter P ++ (if P t[i] = true then [t[i]] else []) := by
  rw [List.take_add_one, List.getElem?_eq_getElem h, Option.toList_some, List.filter_append]
  congr 1
  by_cases hp : P t[i] = true
  · rw [if_pos hp, List.filter_cons_of_pos hp]; rfl
  · rw [if_neg hp, List.filter_cons_of_neg hp]; rfl
theorem filt_len {α : Type} (P : α → Bool) (t : List α) (i : Nat) : ((t.take i).filter P).length ≤ t.length :=
  Nat.le_trans (List.length_filter_le _ _) (by rw [List.length_take]; omega)
section
variable {J : It} {n : Nat} {G : Hp → Prop} {Y : Nat → Hp → V → Hp → Prop}
/-- the outer for of two in a comprehension -/
theorem lc2_out (w : Walk J n G Y) {g : TG} {tt : TT} {Z : (Hp → Prop) → L2.St → Hp → Prop} {vs : List Nat} {σ : L2.St} {H1 : Hp} {D : Addr} {Qd : Hp → Prop} (Pv : Nat → Hp → Prop) (h0 : Pv 0 (upd H1 D (.lst []))) (hG : ∀ i H, i ≤ n → Pv i H → G H)
    (hs : ∀ i x H H', i < n → Pv i H → Y i H x H' → g x (wipe σ vs) H' fun σ2 H2 => wipe σ2 vs = wipe σ vs ∧ tt σ2 H2 fun b H3 => if b = true then Z (Pv (i + 1)) σ2 H3 else Pv (i + 1) H3) (hd : ∀ H, Pv n H → Qd H) :
    ∃ W : Nat → Nat → Hp → Prop, (∃ m, W 0 m (upd H1 D (.lst []))) ∧ ∀ i m H, W i m H →
      (J.stop i H ∧ Qd H) ∨ (J.go i H ∧ ∃ Nx : Hp → Prop, (∀ H', Nx H' → ∃ m', m' < m ∧ W (i + 1) m' H') ∧ ∀ x H', J.yld i H x H' → g x (wipe σ vs) H' fun σ2 H2 => wipe σ2 vs = wipe σ vs ∧ tt σ2 H2 fun b H3 => if b = true then Z Nx σ2 H3 else Nx H3) := by
  refine ⟨fun i m H => m = n - i ∧ i ≤ n ∧ Pv i H, ⟨n, by simp, Nat.zero_le _, h0⟩, ?_⟩
  rintro i m H ⟨rfl, hi, p⟩
  by_cases hlt : i < n
  · exact .inr ⟨w.goes i H hlt (hG i H hi p), Pv (i + 1), fun H' p' => ⟨n - (i + 1), by omega, rfl, hlt, p'⟩, fun x H' y => hs i x H H' hlt p (w.yields i H x H' hlt (hG i H hi p) y)⟩
  · have e : i = n := by omega
    subst e
    exact .inl ⟨w.stops H (hG _ H hi p), hd H p⟩
/-- the inner one -/
theorem lc2_in (w : Walk J n G Y) {Z : V → Hp → (Hp → Prop) → Prop} {H4 : Hp} {Nx : Hp → Prop} (Pv : Nat → Hp → Prop) (h0 : Pv 0 H4) (hG : ∀ i H, i ≤ n → Pv i H → G H)
    (hs : ∀ i x H H', i < n → Pv i H → Y i H x H' → Z x H' (Pv (i + 1))) (hd : ∀ H, Pv n H → Nx H) :
    ∃ W : Nat → Nat → Hp → Prop, (∃ m, W 0 m H4) ∧ ∀ i m H, W i m H →
      (J.stop i H ∧ Nx H) ∨ (J.go i H ∧ ∃ N1 : Hp → Prop, (∀ H', N1 H' → ∃ m', m' < m ∧ W (i + 1) m' H') ∧ ∀ x H', J.yld i H x H' → Z x H' N1) := by
  refine ⟨fun i m H => m = n - i ∧ i ≤ n ∧ Pv i H, ⟨n, by simp, Nat.zero_le _, h0⟩, ?_⟩
  rintro i m H ⟨rfl, hi, p⟩
  by_cases hlt : i < n
  · exact .inr ⟨w.goes i H hlt (hG i H hi p), Pv (i + 1), fun H' p' => ⟨n - (i + 1), by omega, rfl, hlt, p'⟩, fun x H' y => hs i x H H' hlt p (w.yields i H x H' hlt (hG i H hi p) y)⟩
  · have e : i = n := by omega
    subst e
    exact .inl ⟨w.stops H (hG _ H hi p), hd H p⟩
end
section
variable {P : Program} {w : World} {K : PySem.W.Frag} {mg : Str → Option Value} {base : Heap}
/-! ### shorter_in -/
abbrev st_shorter : Stmt := top 14
theorem sc_shorter : FnScope ["line", "person", "other"] ["line", "person"] (defScope st_shorter) := ⟨rfl, rfl, rfl, by decide +kernel, rfl, by decide +kernel, by decide +kernel⟩
def sp_shorter : Sp := fun vs H Q _ => ∃ (a : Addr) (ns : List Int) (p : Int), vs = [.ref a, .int p] ∧ SqF H a (iV ns) ∧ ns.length ≤ 8 ∧ p ∈ ns ∧
  ∀ r H', Same H H' → H r = none → H' r = some (.lst (iV (shorter ns p))) → Q (.ref r) H'
theorem ok_shorter {f : Addr} {fd : FuncData} (D : DefK K mg "shorter_in" st_shorter ["line", "person"] f fd) : FnOk P w K mg base CX0 1 f fd ["line", "person"] sp_shorter := by
  refine D.F.ok sc_shorter (fun vs H Q E h => ?_) (fun cdv A outer s H vs Q E hr h => ?_)
  · obtain ⟨a, ns, p, rfl, _⟩ := h
    rfl
  · obtain ⟨a, ns, p, rfl, hF, h8, hp, q⟩ := h
    refine ⟨_, pss_one (ps_ret (pe_lc (own := [("other", 2)]) (g := gName 2) (by rfl) sc_shorter.nd (pi_tup (pe_slice sl_tupF (pv 0) po_none (po_some (pe_idxF (pv 0) (pa_cons (pv 1) pa_nil)))))
      (blkOk_by (own := [("other", 2)]) (N := ["line", "person", "other"]) (sc := defScope st_shorter) (by decide +kernel)) (fun _ _ _ _ _ => pg_name (i := 2) sc_shorter.nd rfl (Or.inl rfl))
      (fun _ _ _ _ _ => pts_one (pt_cmpR op_lt (pv 2) (pv 1) (nomark _))) (fun _ _ _ _ _ => pv 2))), ?_⟩
    have hix : ns.idxOf p < ns.length := List.idxOf_lt_length_of_mem hp
    refine ⟨_, rfl, _, rfl, ⟨a, _, rfl, hF⟩, _, rfl, a, ns, p, rfl, rfl, SqF.t hF, hp, _, rfl, a, iV ns, rfl, hF, fun r H1 e1 hr1 => ?_⟩
    rw [cut_take (Nat.le_of_lt hix)] at hr1
    refine ⟨r, rfl, ⟨_, SqF.t hr1⟩, fun L hL => ?_⟩
    refine lc_tup (K := K) (a := r) (xs := iV (ns.take (ns.idxOf p))) (fun i H' => Same H1 H' ∧ H' L = some (.lst (iV (((ns.take (ns.idxOf p)).take i).filter fun o => decide (o < p)))))
      ⟨Same.new hL, upd_same⟩ (fun i H' _ ⟨e, _⟩ => SqF.t (hr1.same e)) ?_ ?_
    · rintro i x H2 hx ⟨e2, hL2⟩
      have hi : i < (ns.take (ns.idxOf p)).length := by
        have := (List.getElem?_eq_some_iff.mp hx).1
        rwa [List.length_map] at this
      cases (iV_get hi).symm.trans hx
      have fs := filt_step (fun o => decide (o < p)) hi
      refine ⟨rfl, _, rfl, _, rfl, _, _, rfl, rfl, _, rfl, ite2 (fun c => ?_) (fun c => ?_)⟩
      · rw [if_pos c] at fs
        refine ⟨_, rfl, _, hL2, ?_, Same.upL e2 hL, ?_⟩
        · rw [List.length_map]
          have h1 := filt_len (fun o => decide (o < p)) (ns.take (ns.idxOf p)) i
          rw [List.length_take] at h1
          exact sl_lt (by omega)
        · rw [upd_same, fs]
          unfold iV
          rw [List.map_append]
          rfl
      · rw [if_neg c, List.append_nil] at fs
        exact ⟨e2, by rw [fs]; exact hL2⟩
    · rintro H' ⟨e, hL'⟩
      have e3 : Same H H' := e1.trans e
      refine q L H' e3 (e1.free hL) ?_
      rw [hL', List.length_map, List.take_length]
      rfl
/-! ### wrong_in, count_wrong -/
/-- pairs of whole numbers, by their places -/
abbrev Prs (H : Hp) : List Addr → List (Int × Int) → Prop := Paired fun a o => H a = some (.tup [.int o.1, .int o.2])
theorem Prs.same {H H' : Hp} (e : Same H H') : ∀ {as : List Addr} {os : List (Int × Int)}, Prs H as os → Prs H' as os
  | _, _, .nil => .nil
  | _, _, .cons h t => .cons (e _ _ h) (Prs.same e t)
theorem Prs.append {H : Hp} : ∀ {as bs : List Addr} {os us : List (Int × Int)}, Prs H as os → Prs H bs us → Prs H (as ++ bs) (os ++ us)
  | _, _, _, _, .nil, s => s
  | _, _, _, _, .cons h t, s => .cons h (Prs.append t s)
theorem Prs.at {H : Hp} : ∀ {as : List Addr} {os : List (Int × Int)}, Prs H as os → ∀ x ∈ as.map V.ref, ∃ t i j, x = V.ref t ∧ H t = some (.tup [.int i, .int j])
  | _, _, .nil, x, hx => nomatch hx
  | _, _, .cons h t, x, hx => by
    rw [List.map_cons] at hx
    rcases List.mem_cons.mp hx with e | hx
    · exact ⟨_, _, _, e, h⟩
    · exact Prs.at t x hx
/-- the list of the pairs at L grows by a pair -/
theorem Prs.snoc {H : Hp} {as : List Addr} {os : List (Int × Int)} {L p : Addr} {o : HO} {i j : Int} (h : Prs H as os) (hp : H p = none) (hl : H L = some (.lst (as.map V.ref))) : Prs (upd (upd H p (.tup [.int i, .int j])) L o) (as ++ [p]) (os ++ [(i, j)]) := by
  have hne : p ≠ L := fun e => by rw [e, hl] at hp; cases hp
  have go : ∀ {as : List Addr} {os : List (Int × Int)}, Prs H as os → Prs (upd (upd H p (.tup [.int i, .int j])) L o) as os := fun {as os} h => by
    induction h with
    | nil => exact .nil
    | cons h t ih => exact .cons (by rw [upd_ne (ne_of h hl fun z => nomatch z), upd_ne (ne_of_none h hp)]; exact h) ih
  exact Prs.append (go h) (.cons (by rw [upd_ne hne, upd_same]) .nil)
abbrev st_wrong : Stmt := top 15
theorem sc_wrong : FnScope ["line", "person", "other"] ["line"] (defScope st_wrong) := ⟨rfl, rfl, rfl, by decide +kernel, rfl, by decide +kernel, by decide +kernel⟩
def sp_wrong : Sp := fun vs H Q _ => ∃ (a : Addr) (n : Nat) (ns : List Int), vs = [.ref a] ∧ LineAt H a n ns ∧
  ∀ r H' xs, Same H H' → H r = none → H' r = some (.lst xs) → xs.length = inv ns → Q (.ref r) H'
theorem pre_mem {α : Type} {l : List α} {i : Nat} (h : i < l.length) : l.take (i + 1) = l.take i ++ [l[i]] := by
  rw [List.take_add_one, List.getElem?_eq_getElem h]; rfl
theorem inv_le : ∀ l : List Int, inv l ≤ l.length * l.length
  | [] => Nat.zero_le _
  | x :: r => by
    have ih := inv_le r
    have h := List.countP_le_length (p := fun y => decide (x < y)) (l := r)
    show r.countP _ + inv r ≤ (r.length + 1) * (r.length + 1)
    rw [Nat.add_mul, Nat.mul_add]
    omega
/-- the pairs found before the i-th turn -/
def wrongTo (l : List Int) (i : Nat) : List (Int × Int) := (l.take i).flatMap fun p => (shorter l p).map fun o => (o, p)
theorem wrongTo_step {l : List Int} {i : Nat} (h : i < l.length) : wrongTo l (i + 1) = wrongTo l i ++ (shorter l l[i]).map fun o => (o, l[i]) := by
  unfold wrongTo
  rw [pre_mem h, List.flatMap_append]
  simp
theorem shorter_len (l : List Int) (p : Int) : (shorter l p).length ≤ l.length := by
  unfold shorter
  exact Nat.le_trans (List.length_filter_le _ _) (by rw [List.length_take]; omega)
theorem wrongTo_len (l : List Int) : ∀ i, (wrongTo l i).length ≤ i * l.length
  | 0 => by simp [wrongTo]
  | i + 1 => by
    by_cases h : i < l.length
    · have h1 := wrongTo_len l i
      have h2 := shorter_len l l[i]
      rw [wrongTo_step h, List.length_append, List.length_map, Nat.add_mul]
      omega
    · have : wrongTo l (i + 1) = wrongTo l i := by
        unfold wrongTo
        rw [List.take_of_length_le (by omega), List.take_of_length_le (by omega)]
      rw [this, Nat.add_mul]
      have := wrongTo_len l i
      omega
theorem ok_wrong {f f1 : Addr} {fd d1 : FuncData} (D : DefK K mg "wrong_in" st_wrong ["line"] f fd) (T : Txt mg) (D1 : DefK K mg "shorter_in" st_shorter ["line", "person"] f1 d1) : FnOk P w K mg base CX0 2 f fd ["line"] sp_wrong := by
  have G1 : FnOk P w K mg base CX0 1 f1 d1 ["line", "person"] sp_shorter := ok_shorter D1
  refine D.F.ok sc_wrong (fun vs H Q E h => ?_) (fun cdv A outer s H vs Q E hr h => ?_)
  · obtain ⟨a, n, ns, rfl, _⟩ := h
    rfl
  · obtain ⟨a, n, ns, rfl, hL, q⟩ := h
    have hlen := hL.l.len
    have hn8 := hL.hi
    refine ⟨_, pss_one (ps_ret (pe_callB cr_sortedP (by rfl) T.srt b_srt (pa_cons (pe_lc2 (own := [("person", 1), ("other", 2)]) (vs1 := [2]) (g := gName 1) (g1 := gName 2) (wi1 := iList K (tCall sp_shorter [] E0 (tCons (tVar 0) (tCons (tVar 1) tNil)))) (by rfl) sc_wrong.nd (pi_tup (pv 0))
      (blkOk_by (own := [("person", 1), ("other", 2)]) (N := ["line", "person", "other"]) (sc := defScope st_wrong) (by decide +kernel)) (by decide)
      (fun _ _ _ _ _ => pg_name (i := 1) sc_wrong.nd rfl (Or.inl rfl)) (fun _ _ _ _ _ => pts_nil)
      (fun _ _ _ _ _ => pi_list (pe_k G1 D1 hr (pa_cons (pv 0) (pa_cons (pv 1) pa_nil))))
      (fun _ _ _ _ _ => pg_name (i := 2) sc_wrong.nd rfl (Or.inl rfl)) (fun _ _ _ _ _ => pts_nil)
      (fun _ _ _ _ _ => pe_tup (pa_cons (pv 2) (pa_cons (pv 1) pa_nil)))) pa_nil))), ?_⟩
    refine ⟨_, rfl, a, rfl, ⟨_, hL.t⟩, fun L hLn => ?_⟩
    have hmem : ∀ i (h : i < ns.length), ns[i] ∈ ns := fun i h => List.getElem_mem h
    refine lc2_out (walk_tup (K := K) (a := a) (xs := iV ns)) (fun i H' => ∃ as, Same H H' ∧ H' L = some (.lst (as.map V.ref)) ∧ Prs H' as (wrongTo ns i))
      ⟨[], Same.new hLn, upd_same, .nil⟩ (fun i H' _ ⟨as, e, _⟩ => Same.sqT e hL.t) ?_ ?_
    · rintro i x H1 H1' hi ⟨as, e1, hL1, hP1⟩ ⟨rfl, hx⟩
      have hi' : i < ns.length := by rw [List.length_map] at hi; exact hi
      cases (iV_get hi').symm.trans hx
      refine ⟨rfl, ?_⟩
      refine ⟨_, rfl, _, rfl, a, ns, ns[i], rfl, hL.f.same e1, by omega, hmem i hi', fun r H2 e2 nr hr2 => ?_⟩
      refine ⟨r, rfl, ⟨_, .inl (.inl hr2)⟩, ?_⟩
      have nLr : L ≠ r := ne_of_none hL1 nr
      refine lc2_in (walk_list (K := K) (a := r) (xs := iV (shorter ns ns[i]))) (fun j H' => ∃ bs, Same H H' ∧ H' r = some (.lst (iV (shorter ns ns[i]))) ∧ H' L = some (.lst (bs.map V.ref)) ∧ Prs H' bs (wrongTo ns i ++ ((shorter ns ns[i]).take j).map fun o => (o, ns[i])))
        ⟨as, e1.trans e2, hr2, e2 _ _ hL1, by rw [List.take_zero, List.map_nil, List.append_nil]; exact hP1.same e2⟩ (fun j H' _ ⟨_, _, h, _⟩ => .inl (.inl h)) ?_ ?_
      · rintro j y H3 H3' hj ⟨bs, e3, hr3, hL3, hP3⟩ ⟨rfl, hy⟩
        have hj' : j < (shorter ns ns[i]).length := by rw [List.length_map] at hj; exact hj
        cases (iV_get hj').symm.trans hy
        refine ⟨rfl, ?_⟩
        refine ⟨_, rfl, _, rfl, by show 2 ≤ sizeLine; decide, fun p hp => ?_⟩
        have npL : L ≠ p := ne_of_none hL3 hp
        refine ⟨_, by rw [upd_ne npL]; exact hL3, ?_, bs ++ [p], ?_, ?_, ?_, ?_⟩
        · have h1 := Paired.length hP3
          have h2 := wrongTo_len ns i
          have h3 := shorter_len ns ns[i]
          rw [List.length_append, List.length_map, List.length_take] at h1
          rw [List.length_map]
          have h4 : i * ns.length ≤ 8 * 8 := Nat.mul_le_mul (by omega) (by omega)
          exact sl_lt (by omega)
        · exact Same.upL (e3.trans (Same.new hp)) hLn
        · rw [upd_ne nLr.symm, upd_ne (ne_of_none hr3 hp)]
          exact hr3
        · rw [upd_same, List.map_append]
          rfl
        · rw [pre_mem hj', List.map_append, ← List.append_assoc]
          exact hP3.snoc hp hL3
      · rintro H3 ⟨bs, e3, hr3, hL3, hP3⟩
        refine ⟨bs, e3, hL3, ?_⟩
        rw [List.length_map, List.take_length] at hP3
        rw [wrongTo_step hi']
        exact hP3
    · rintro H1 ⟨as, e1, hL1, hP1⟩
      refine ⟨L, as.map V.ref, rfl, .inl (.inl hL1), hP1.at, fun ys p hp hnew => ?_⟩
      refine q p _ ys (e1.trans (Same.new hnew)) (e1.free hnew) upd_same ?_
      rw [hp.length_eq, List.length_map, Paired.length hP1, List.length_map]
      unfold wrongTo
      rw [List.take_length]
      exact wrongP_length hL.l.nd
abbrev st_cw : Stmt := top 16
theorem sc_cw : FnScope ["line"] ["line"] (defScope st_cw) := ⟨rfl, rfl, rfl, by decide +kernel, rfl, by decide +kernel, by decide +kernel⟩
def sp_cw : Sp := fun vs H Q _ => ∃ (a : Addr) (n : Nat) (ns : List Int), vs = [.ref a] ∧ LineAt H a n ns ∧ ∀ H', Same H H' → Q (.int (inv ns)) H'
theorem ok_cw {f f1 f2 : Addr} {fd d1 d2 : FuncData} (D : DefK K mg "count_wrong" st_cw ["line"] f fd) (T : Txt mg) (D1 : DefK K mg "need_line" st_needLine ["line"] f1 d1) (G1 : FnOk P w K mg base CX0 3 f1 d1 ["line"] sp_needLine)
    (D2 : DefK K mg "wrong_in" st_wrong ["line"] f2 d2) (G2 : FnOk P w K mg base CX0 2 f2 d2 ["line"] sp_wrong) : FnOk P w K mg base CX0 4 f fd ["line"] sp_cw := by
  refine D.F.ok sc_cw (fun vs H Q E h => ?_) (fun cdv A outer s H vs Q E hr h => ?_)
  · obtain ⟨a, n, ns, rfl, _⟩ := h
    rfl
  · obtain ⟨a, n, ns, rfl, hL, q⟩ := h
    refine ⟨_, pss_cons (ps_expr (pe_k G1 D1 hr (pa_cons (pv 0) pa_nil))) (pss_one (ps_ret (pe_callB call_len_seq (by rfl) T.len PySem.boot_len (pa_cons (pe_k G2 D2 (hr.mono (by decide)) (pa_cons (pv 0) pa_nil)) pa_nil)))), ?_⟩
    refine ⟨_, rfl, a, n, ns, rfl, hL, fun H1 e1 => ?_⟩
    refine ⟨_, rfl, a, n, ns, rfl, hL.same e1, fun r H2 xs e2 nr hr2 hx => ?_⟩
    refine ⟨r, xs, rfl, .inl (.inl (.inl hr2)), ?_⟩
    rw [hx]
    exact q H2 (e1.trans e2)
end
end Ov
set_option Elab.async false
set_option linter.all false
set_option maxRecDepth 100000
set_option maxHeartbeats 4000000
namespace Ov
open PySem PySem.Spec PyProof.Rows L2
theorem canLay_nums : ∀ o : List Int, PyData.canLayAll0 (dNums o) = true
  | [] => rfl
  | x :: o => by
    show PyData.canLayAll0 (PyData.int x :: dNums o) = true
    rw [PyData.canLayAll0, canLay_nums o]
    rfl
theorem shaped_list (o : List Int) : SeqAt.shaped (.list (dNums o)) = true := by
  unfold SeqAt.shaped
  simp [PyData.canLay0, canLay_nums, PyData.depth, depth_nums2]
theorem shaped_tup (o : List Int) : SeqAt.shaped (.tuple (dNums o)) = true := by
  unfold SeqAt.shaped
  simp [PyData.canLay0, canLay_nums, PyData.depth, depth_nums2]
theorem dp_nums {K : PySem.W.Frag} {H : Hp} : ∀ o : List Int, DpAll K H (iV o) (dNums o)
  | [] => .nil
  | x :: o => .cons (.int x) (dp_nums o)
theorem dp_list {K : PySem.W.Frag} {H : Hp} {a : Addr} {o : List Int} (h : SqL K H a (iV o)) : Dp K H (.ref a) (.list (dNums o)) := .lst h (dp_nums o)
theorem dp_tup {K : PySem.W.Frag} {H : Hp} {a : Addr} {o : List Int} (h : SqT K H a (iV o)) : Dp K H (.ref a) (.tuple (dNums o)) := .tup h (dp_nums o)
section
variable {P : Program} {w : World} {K : PySem.W.Frag} {mg : Str → Option Value} {base : Heap}
/-! ### goal_in -/
abbrev st_goal : Stmt := top 18
theorem sc_goal : FnScope ["line", "person", "place"] ["line", "person"] (defScope st_goal) := ⟨rfl, rfl, rfl, by decide +kernel, rfl, by decide +kernel, by decide +kernel⟩
def sp_goal : Sp := fun vs H Q _ => ∃ (a : Addr) (ns : List Int) (p : Int), vs = [.ref a, .int p] ∧ SqF H a (iV ns) ∧ p ∈ ns ∧ Q (.int (goal ns p)) H
theorem ok_goal {f : Addr} {fd : FuncData} (D : DefK K mg "goal_in" st_goal ["line", "person"] f fd) : FnOk P w K mg base CX0 1 f fd ["line", "person"] sp_goal := by
  refine D.F.ok sc_goal (fun vs H Q E h => ?_) (fun cdv A outer s H vs Q E hr h => ?_)
  · obtain ⟨a, ns, p, rfl, _⟩ := h
    rfl
  · obtain ⟨a, ns, p, rfl, hF, hp, q⟩ := h
    refine ⟨_, pss_cons (ps_set (i := 2) sc_goal.nd rfl (.inl rfl) (pe_idxF (pv 0) (pa_cons (pv 1) pa_nil)))
      (pss_cons (ps_while PassesOwn.never (PW.pt (pw_and (pt_cmpR op_gt (pv 2) pe_int (nomark _)) (pw_and1 (pt_cmpR op_lt (pe_ix ix_tup (pv 0) (pe_op op_sub (pv 2) pe_int) (fun _ _ => rfl)) (pv 1) (nomark _)))))
        (pss_one (ps_aug (i := 2) sc_goal.nd rfl (.inl rfl) pe_int ip_sub)))
      (pss_one (ps_ret (pv 2)))), ?_⟩
    have hix : ns.idxOf p < ns.length := List.idxOf_lt_length_of_mem hp
    refine ⟨_, rfl, ⟨a, _, rfl, hF⟩, _, rfl, a, ns, p, rfl, rfl, SqF.t hF, hp, ?_⟩
    refine ⟨fun m σ H' => m ≤ ns.idxOf p ∧ σ = [some (.ref a), some (.int p), some (.int (m : Nat))] ∧ H' = H ∧ back ns p m = goal ns p, ⟨ns.idxOf p, Nat.le_refl _, rfl, rfl, rfl⟩, ?_⟩
    rintro m σ H' ⟨hm, rfl, rfl, hb⟩
    cases m with
    | zero =>
      refine ⟨_, rfl, _, _, rfl, rfl, _, rfl, ?_⟩
      rw [decide_eq_false (show ¬ ((0 : Nat) : Int) > 0 by decide)]
      refine iteF ?_
      refine iteF ?_
      refine ⟨_, rfl, ?_⟩
      have e : goal ns p = 0 := hb.symm
      rw [e] at q
      exact q
    | succ m =>
      have hml : m < ns.length := by omega
      have e1 : ((m + 1 : Nat) : Int) - 1 = (m : Int) := by omega
      refine ⟨_, rfl, _, _, rfl, rfl, _, rfl, ?_⟩
      rw [decide_eq_true (show ((m + 1 : Nat) : Int) > 0 by omega)]
      refine iteT ⟨_, rfl, _, rfl, _, _, rfl, rfl, a, iV ns, _, .int ns[m], rfl, rfl, SqF.t hF, ?_, _, rfl, _, _, rfl, rfl, _, rfl, ?_⟩
      · rw [e1]
        exact atI_nat (iV_get hml)
      · have eg : ns.getD m 0 = ns[m] := getD_eq hml
        unfold back at hb
        rw [eg] at hb
        by_cases hlt : ns[m] < p
        · rw [decide_eq_true hlt]
          rw [if_pos hlt] at hb
          refine iteT ?_
          refine ⟨fun σ' H2 => σ' = [some (.ref a), some (.int p), some (.int (m : Nat))] ∧ H2 = H', fun σ' H2 ⟨e2, e3⟩ => ⟨m, Nat.lt_succ_self _, by omega, e2, e3, hb⟩, _, rfl, _, _, rfl, rfl, ?_, rfl⟩
          show [some (V.ref a), some (V.int p), some (V.int (((m + 1 : Nat) : Int) - 1))] = _
          rw [e1]
        · rw [decide_eq_false hlt]
          rw [if_neg hlt] at hb
          refine iteF ?_
          refine ⟨_, rfl, ?_⟩
          rw [hb]
          exact q
/-! ### call_in -/
abbrev st_call : Stmt := top 19
theorem sc_call : FnScope ["line", "person", "old", "new"] ["line", "person"] (defScope st_call) := ⟨rfl, rfl, rfl, by decide +kernel, rfl, by decide +kernel, by decide +kernel⟩
def sp_call : Sp := fun vs H Q _ => ∃ (a : Addr) (n : Nat) (ns : List Int) (p : Int), vs = [.ref a, .int p] ∧ LineAt H a n ns ∧ (0 ≤ p ∧ p < (n : Int)) ∧ ∀ r H', Same H H' → LineAt H' r n (callL ns p) → Q (.ref r) H'
theorem ok_call {f f1 : Addr} {fd d1 : FuncData} (D : DefK K mg "call_in" st_call ["line", "person"] f fd) (D1 : DefK K mg "goal_in" st_goal ["line", "person"] f1 d1) : FnOk P w K mg base CX0 2 f fd ["line", "person"] sp_call := by
  have G1 : FnOk P w K mg base CX0 1 f1 d1 ["line", "person"] sp_goal := ok_goal D1
  refine D.F.ok sc_call (fun vs H Q E h => ?_) (fun cdv A outer s H vs Q E hr h => ?_)
  · obtain ⟨a, n, ns, p, rfl, _⟩ := h
    rfl
  · obtain ⟨a, n, ns, p, rfl, hL, hpn, q⟩ := h
    have hF := hL.f
    have hp : p ∈ ns := (hL.l.mem p).mpr hpn
    refine ⟨_, pss_cons (ps_par (i := 2) (j := 3) rfl sc_call.nd rfl rfl (by decide) rfl rfl (pa_cons (pe_idxF (pv 0) (pa_cons (pv 1) pa_nil)) (pa_cons (pe_k G1 D1 hr (pa_cons (pv 0) (pa_cons (pv 1) pa_nil))) pa_nil)) (by rfl))
      (pss_one (ps_ret (pe_tupF (StX.pa_star (pe_slice sl_tupF (pv 0) po_none (po_some (pv 3))) (pa_cons (pv 1) (StX.pa_star (pe_slice sl_tupF (pv 0) (po_some (pv 3)) (po_some (pv 2)))
        (StX.pa_star (pe_slice sl_tupF (pv 0) (po_some (pe_op op_add (pv 2) pe_int)) po_none) pa_nil))))))), ?_⟩
    have hix : ns.idxOf p < ns.length := List.idxOf_lt_length_of_mem hp
    have hg := goal_le ns p
    have hlen := hL.l.len
    have hn8 := hL.hi
    refine ⟨_, rfl, ⟨a, _, rfl, hF⟩, _, rfl, a, ns, p, rfl, rfl, SqF.t hF, hp, _, rfl, _, rfl, a, ns, p, rfl, hF, hp, _, _, rfl, ?_⟩
    -- line[:new]
    refine ⟨_, rfl, _, rfl, _, rfl, a, iV ns, rfl, hF, fun r1 H1 e1 h1 => ⟨r1, _, rfl, .inl (SqF.t h1), ?_⟩⟩
    -- person; line[new:old]
    refine ⟨_, rfl, _, rfl, _, rfl, _, rfl, _, rfl, _, rfl, a, iV ns, rfl, hF.same e1, fun r2 H2 e2 h2 => ⟨r2, _, rfl, .inl (SqF.t h2), ?_⟩⟩
    -- line[old + 1:]
    refine ⟨_, rfl, _, rfl, _, _, rfl, rfl, _, rfl, a, iV ns, rfl, hF.same (e1.trans e2), fun r3 H3 e3 h3 => ⟨r3, _, rfl, .inl (SqF.t h3), ?_⟩⟩
    have ec : cutV (iV ns) none (some ((goal ns p : Nat) : Int)) ++ V.int p :: (cutV (iV ns) (some ((goal ns p : Nat) : Int)) (some ((ns.idxOf p : Nat) : Int)) ++ (cutV (iV ns) (some (((ns.idxOf p : Nat) : Int) + 1)) none ++ [])) = iV (callL ns p) := by
      rw [cut_take (by omega), cut_mid hg (by omega), show ((ns.idxOf p : Nat) : Int) + 1 = ((ns.idxOf p + 1 : Nat) : Int) by omega, cut_drop (by omega), List.append_nil]
      unfold callL iV
      rw [List.map_append, List.map_cons, List.map_append]
    have hLc : IsLine n (callL ns p) := hL.l.call hpn
    refine ⟨?_, fun r H4 e4 _ h4 => ?_⟩
    · have := congrArg List.length ec
      refine Nat.le_trans (Nat.le_of_eq this) ?_
      rw [List.length_map, hLc.len]
      exact sl_small (by omega)
    · refine q r H4 (e1.trans (e2.trans (e3.trans e4))) ⟨?_, hLc, hL.lo, hL.hi⟩
      rw [← ec]
      exact h4
end
end Ov
set_option Elab.async false
set_option linter.all false
set_option maxRecDepth 100000
set_option maxHeartbeats 4000000
namespace Ov
open PySem PySem.Spec PyProof.Rows L2
theorem IsLine.after {n : Nat} : ∀ (os : List Int) {ns : List Int}, IsLine n ns → (∀ p ∈ os, 0 ≤ p ∧ p < (n : Int)) → IsLine n (os.foldl callL ns)
  | [], _, h, _ => h
  | p :: os, ns, h, hp => IsLine.after os (h.call (hp p (List.mem_cons_self ..))) fun q hq => hp q (List.mem_cons_of_mem _ hq)
theorem after_snoc (ns os : List Int) {i : Nat} (h : i < os.length) : (os.take (i + 1)).foldl callL ns = callL ((os.take i).foldl callL ns) os[i] := by
  rw [pre_mem h, foldl_snoc]
section
variable {P : Program} {w : World} {K : PySem.W.Frag} {mg : Str → Option Value} {base : Heap}
/-! ### story_in, round_in -/
abbrev st_story : Stmt := top 20
theorem sc_story : FnScope ["line", "calls", "found", "person"] ["line", "calls"] (defScope st_story) := ⟨rfl, rfl, rfl, by decide +kernel, rfl, by decide +kernel, by decide +kernel⟩
def sp_story (K : PySem.W.Frag) : Sp := fun vs H Q _ => ∃ (a b : Addr) (n : Nat) (ns os : List Int), vs = [.ref a, .ref b] ∧ LineAt H a n ns ∧ SqT K H b (iV os) ∧ os.length ≤ 8 ∧ (∀ p ∈ os, 0 ≤ p ∧ p < (n : Int)) ∧
  ∀ r H' xs l, Same H H' → H r = none → H' r = some (.lst (xs ++ [V.ref l])) → LineAt H' l n (os.foldl callL ns) → Q (.ref r) H'
theorem ok_story {f f1 : Addr} {fd d1 : FuncData} (D : DefK K mg "story_in" st_story ["line", "calls"] f fd) (D1 : DefK K mg "call_in" st_call ["line", "person"] f1 d1) (G1 : FnOk P w K mg base CX0 2 f1 d1 ["line", "person"] sp_call) : FnOk P w K mg base CX0 3 f fd ["line", "calls"] (sp_story K) := by
  refine D.F.ok sc_story (fun vs H Q E h => ?_) (fun cdv A outer s H vs Q E hr h => ?_)
  · obtain ⟨a, b, n, ns, os, rfl, _⟩ := h
    rfl
  · obtain ⟨a, b, n, ns, os, rfl, hL, hO, ho8, hp, q⟩ := h
    refine ⟨_, pss_cons (ps_set (i := 2) sc_story.nd rfl (.inl rfl) (pe_lst (pa_cons (pv 0) pa_nil)))
      (pss_cons (ps_for PassesOwn.never rfl (pi_tup (pv 1)) (pg_name (i := 3) sc_story.nd rfl (.inl rfl))
        (pss_one (ps_expr (pe_bm PySem.F.plainAttrs_list PySem.F.slot_list_append PySem.F.type_list_append mt_append (pv 2) (pa_cons (pe_k G1 D1 hr (pa_cons (pe_ix ix_list (pv 2) (pe_un un_neg pe_int) (fun _ _ => rfl)) (pa_cons (pv 3) pa_nil))) pa_nil)))))
      (pss_one (ps_ret (pv 2)))), ?_⟩
    refine ⟨_, rfl, by show 1 ≤ sizeLine; decide, fun L hLn => ?_⟩
    refine ⟨_, rfl, b, rfl, ⟨_, Same.sqT (Same.new hLn) hO⟩, for_tup (K := K) (a := b) (xs := iV os) (fun i σ H' => ∃ y xs l, σ = [some (.ref a), some (.ref b), some (.ref L), y] ∧ Same H H' ∧ xs.length ≤ i ∧ H' L = some (.lst (xs ++ [V.ref l])) ∧ LineAt H' l n ((os.take i).foldl callL ns))
      ⟨none, [], a, rfl, Same.new hLn, Nat.zero_le _, upd_same, hL.same (Same.new hLn)⟩ (fun i σ H' _ ⟨_, _, _, _, e, _⟩ => Same.sqT e hO) ?_ ?_⟩
    · rintro i x σ H1 hx ⟨y, xs, l, rfl, e1, hxs, hL1, hl⟩
      have hi : i < os.length := by
        have := (List.getElem?_eq_some_iff.mp hx).1
        rwa [List.length_map] at this
      cases (iV_get hi).symm.trans hx
      refine ⟨_, rfl, .inl ⟨rfl, _, .inl (.inl hL1)⟩, _, rfl, _, rfl, L, _, _, .ref l, rfl, rfl, .inl (.inl hL1), atI_last _ _, _, rfl, l, n, _, os[i], rfl, hl, hp _ (List.getElem_mem hi), fun r H2 e2 hr2 => ?_⟩
      refine ⟨L, _, _, rfl, rfl, e2 _ _ hL1, ?_, ?_⟩
      · rw [List.length_append]
        exact sl_lt (by show xs.length + 1 ≤ 10000; omega)
      · refine ⟨_, xs ++ [V.ref l], r, rfl, Same.upL (e1.trans e2) hLn, by rw [List.length_append]; show xs.length + 1 ≤ i + 1; omega, upd_same, ?_⟩
        rw [after_snoc ns os hi]
        exact ⟨hr2.f.upd (e2 _ _ hL1), hr2.l, hr2.lo, hr2.hi⟩
    · rintro σ H' ⟨y, xs, l, rfl, e, _, hL', hl⟩
      rw [List.length_map, List.take_length] at hl
      exact ⟨_, rfl, q L H' xs l e hLn hL' hl⟩
abbrev st_round : Stmt := top 26
theorem sc_round : FnScope ["line", "order"] ["line", "order"] (defScope st_round) := ⟨rfl, rfl, rfl, by decide +kernel, rfl, by decide +kernel, by decide +kernel⟩
def sp_round (K : PySem.W.Frag) : Sp := fun vs H Q _ => ∃ (a b : Addr) (n : Nat) (ns os : List Int), vs = [.ref a, .ref b] ∧ LineAt H a n ns ∧ SqT K H b (iV os) ∧ os.length ≤ 8 ∧ (∀ p ∈ os, 0 ≤ p ∧ p < (n : Int)) ∧
  ∀ l H', Same H H' → LineAt H' l n (os.foldl callL ns) → Q (.ref l) H'
theorem ok_round {f f1 : Addr} {fd d1 : FuncData} (D : DefK K mg "round_in" st_round ["line", "order"] f fd) (D1 : DefK K mg "story_in" st_story ["line", "calls"] f1 d1) (G1 : FnOk P w K mg base CX0 3 f1 d1 ["line", "calls"] (sp_story K)) : FnOk P w K mg base CX0 4 f fd ["line", "order"] (sp_round K) := by
  refine D.F.ok sc_round (fun vs H Q E h => ?_) (fun cdv A outer s H vs Q E hr h => ?_)
  · obtain ⟨a, b, n, ns, os, rfl, _⟩ := h
    rfl
  · obtain ⟨a, b, n, ns, os, rfl, hL, hO, ho8, hp, q⟩ := h
    refine ⟨_, pss_one (ps_ret (pe_ix ix_list (pe_k G1 D1 hr (pa_cons (pv 0) (pa_cons (pv 1) pa_nil))) (pe_un un_neg pe_int) (fun _ _ => rfl))), ?_⟩
    refine ⟨_, rfl, _, rfl, a, b, n, ns, os, rfl, hL, hO, ho8, hp, fun r H1 xs l e1 _ hr1 hl => ?_⟩
    exact ⟨_, rfl, r, _, _, .ref l, rfl, rfl, .inl (.inl hr1), atI_last _ _, q l H1 e1 hl⟩
/-! ### callers_in -/
abbrev st_callers : Stmt := top 22
theorem sc_callers : FnScope ["line", "person"] ["line"] (defScope st_callers) := ⟨rfl, rfl, rfl, by decide +kernel, rfl, by decide +kernel, by decide +kernel⟩
def sp_callers : Sp := fun vs H Q _ => ∃ (a : Addr) (n : Nat) (ns : List Int), vs = [.ref a] ∧ LineAt H a n ns ∧ ∀ r H', Same H H' → H r = none → H' r = some (.lst (iV (callersL ns))) → Q (.ref r) H'
theorem rangeI_get {n i : Nat} (h : i < n) : (rangeI n)[i]? = some (i : Int) := by
  unfold rangeI
  rw [List.getElem?_map, List.getElem?_range h]
  rfl
theorem rangeI_at {n i : Nat} (h : i < (rangeI n).length) : (rangeI n)[i] = (i : Int) := by
  have h' : i < n := by rwa [rangeI_length] at h
  have := rangeI_get h'
  rw [List.getElem?_eq_getElem h] at this
  exact Option.some.inj this
theorem eqv_nil (o : List Int) : PyData.eqv (.list (dNums o)) (.list (dNums [])) = decide (o = []) := by
  rw [← eqv_nums o []]
  simp [PyData.eqv]
theorem ok_callers {f f1 : Addr} {fd d1 : FuncData} (D : DefK K mg "callers_in" st_callers ["line"] f fd) (T : Txt mg) (D1 : DefK K mg "shorter_in" st_shorter ["line", "person"] f1 d1) (G1 : FnOk P w K mg base CX0 1 f1 d1 ["line", "person"] sp_shorter) : FnOk P w K mg base CX0 2 f fd ["line"] sp_callers := by
  refine D.F.ok sc_callers (fun vs H Q E h => ?_) (fun cdv A outer s H vs Q E hr h => ?_)
  · obtain ⟨a, n, ns, rfl, _⟩ := h
    rfl
  · obtain ⟨a, n, ns, rfl, hL, q⟩ := h
    have hlen := hL.l.len
    have hn8 := hL.hi
    refine ⟨_, pss_one (ps_ret (pe_lc (own := [("person", 1)]) (g := gName 1) (tt := tTest (tOp (rNeD K) (tCall sp_shorter [] E0 (tCons (tVar 0) (tCons (tVar 1) tNil))) (tLst tNil))) (by rfl) sc_callers.nd (pi_range1 (by rfl) T.range (pa_cons (pe_callB call_len_seq (by rfl) T.len PySem.boot_len (pa_cons (pv 0) pa_nil)) pa_nil))
      (blkOk_by (own := [("person", 1)]) (N := ["line", "person"]) (sc := defScope st_callers) (by decide +kernel)) (fun _ _ _ _ _ => pg_name (i := 1) sc_callers.nd rfl (Or.inl rfl))
      (fun _ _ _ _ _ => pts_one (pt_cmpR (op_neD hr.units) (pe_k G1 D1 hr (pa_cons (pv 0) (pa_cons (pv 1) pa_nil))) (pe_lst pa_nil) (nomark _))) (fun _ _ _ _ _ => pv 1))), ?_⟩
    refine ⟨_, rfl, a, _, rfl, .inr hL.t, _, rfl, ?_, ?_, fun L hLn => ?_⟩
    · rw [List.length_map]; omega
    · rw [List.length_map]; omega
    · have eN : (((iV ns).length : Nat) : Int).toNat = ns.length := by rw [List.length_map]; omega
      rw [eN]
      refine lc_range (lo := 0) (n := ns.length) (fun i H' => Same H H' ∧ H' L = some (.lst (iV (((rangeI ns.length).take i).filter fun p => decide (shorter ns p ≠ []))))) ⟨Same.new hLn, upd_same⟩ ?_ ?_
      · rintro i H1 hi ⟨e1, hL1⟩
        have hi' : i < (rangeI ns.length).length := by rw [rangeI_length]; exact hi
        have fs := filt_step (fun p => decide (shorter ns p ≠ [])) hi'
        rw [rangeI_at hi'] at fs
        have ez : (0 : Int) + (i : Int) = (i : Int) := Int.zero_add _
        rw [ez]
        have hm : (i : Int) ∈ ns := (hL.l.mem _).mpr ⟨by omega, by omega⟩
        refine ⟨rfl, _, rfl, _, rfl, a, ns, i, rfl, hL.f.same e1, by omega, hm, fun r H2 e2 nr hr2 => ?_⟩
        refine ⟨Nat.zero_le _, fun z hz => ?_⟩
        have e3 : Same H2 (upd H2 z (.lst [])) := Same.new hz
        refine ⟨_, _, dp_list (.inl (.inl (e3 _ _ hr2))), dp_list (o := []) (.inl (.inl upd_same)), shaped_list _, shaped_list _, _, rfl, ?_⟩
        rw [eqv_nil]
        by_cases hc : shorter ns (i : Int) = []
        · rw [decide_eq_true hc]
          rw [if_neg (by simp [hc]), List.append_nil] at fs
          refine iteF ⟨e1.trans (e2.trans e3), ?_⟩
          rw [fs]
          exact e3 _ _ (e2 _ _ hL1)
        · rw [decide_eq_false hc]
          rw [if_pos (by simp [hc])] at fs
          refine iteT ⟨_, rfl, _, e3 _ _ (e2 _ _ hL1), ?_, Same.upL (e1.trans (e2.trans e3)) hLn, ?_⟩
          · rw [List.length_map]
            have h1 := filt_len (fun p => decide (shorter ns p ≠ [])) (rangeI ns.length) i
            rw [rangeI_length] at h1
            exact sl_lt (by omega)
          · rw [upd_same, fs]
            unfold iV
            rw [List.map_append]
            rfl
      · rintro H' ⟨e, hL'⟩
        refine q L H' e hLn ?_
        rw [hL']
        unfold callersL
        rw [List.take_of_length_le (by rw [rangeI_length]; exact Nat.le_refl _)]
end
end Ov
set_option Elab.async false
set_option linter.all false
set_option maxRecDepth 100000
set_option maxHeartbeats 4000000
namespace Ov
open PySem PySem.Spec PyProof.Rows L2
theorem rangeI_sorted (n : Nat) : (rangeI n).Pairwise (· ≤ ·) := by
  unfold rangeI
  refine List.Pairwise.map _ ?_ (List.pairwise_lt_range (n := n))
  intro a b h
  omega
theorem IsLine.perm_range {n : Nat} {l : List Int} (h : IsLine n l) : l.Perm (rangeI n) :=
  (List.perm_ext_iff_of_nodup h.nd (rangeI_nodup n)).mpr fun p => by rw [h.mem, mem_rangeI]
theorem sorted_line {n : Nat} {l m : List Int} (h : IsLine n l) (hp : m.Perm l) (hs : m.Pairwise (· ≤ ·)) : m = rangeI n :=
  List.Perm.eq_of_pairwise (le := (· ≤ ·)) (fun a b _ _ h3 h4 => by omega) hs (rangeI_sorted n) (hp.trans h.perm_range)
theorem rgV_range (n : Nat) : rgV 0 (n : Int) = iV (rangeI n) := by
  unfold rgV iV rangeI
  rw [List.map_map, Int.sub_zero, Int.toNat_natCast]
  refine List.map_congr_left fun i _ => ?_
  show V.int (0 + (i : Int)) = V.int (i : Int)
  rw [Int.zero_add]
theorem eqv_lists (o u : List Int) : PyData.eqv (.list (dNums o)) (.list (dNums u)) = decide (o = u) := by
  rw [← eqv_nums o u]
  simp [PyData.eqv]
theorem rep_zero (n : Nat) : (List.replicate n ([.int 0] : List V)).flatten = iV (List.replicate n 0) := by
  induction n with
  | zero => rfl
  | succ n ih =>
    rw [List.replicate_succ, List.flatten_cons, ih]
    rfl
section
variable {P : Program} {w : World} {K : PySem.W.Frag} {mg : Str → Option Value} {base : Heap}
/-! ### need_order, round_line -/
abbrev st_needOrder : Stmt := top 25
theorem sc_needOrder : FnScope ["line", "order", "people", "person"] ["line", "order"] (defScope st_needOrder) := ⟨rfl, rfl, rfl, by decide +kernel, rfl, by decide +kernel, by decide +kernel⟩
def sp_needOrder (K : PySem.W.Frag) : Sp := fun vs H Q _ => ∃ (a b : Addr) (n : Nat) (ns os : List Int), vs = [.ref a, .ref b] ∧ LineAt H a n ns ∧ SqT K H b (iV os) ∧ IsLine n os ∧ ∀ H', Same H H' → Q .non H'
theorem ok_needOrder {f f1 f2 : Addr} {fd d1 d2 : FuncData} (D : DefK K mg "need_order" st_needOrder ["line", "order"] f fd) (T : Txt mg) (D1 : DefK K mg "is_list" st_isList ["value", "least", "most"] f1 d1) (G1 : FnOk P w K mg base CX0 1 f1 d1 ["value", "least", "most"] (sp_isList K))
    (D2 : DefK K mg "is_in" st_isIn ["value", "least", "most"] f2 d2) (G2 : FnOk P w K mg base CX0 2 f2 d2 ["value", "least", "most"] sp_isIn) : FnOk P w K mg base CX0 3 f fd ["line", "order"] (sp_needOrder K) := by
  refine D.F.ok sc_needOrder (fun vs H Q E h => ?_) (fun cdv A outer s H vs Q E hr h => ?_)
  · obtain ⟨a, b, n, ns, os, rfl, _⟩ := h
    rfl
  · obtain ⟨a, b, n, ns, os, rfl, hL, hO, hl, q⟩ := h
    have hlen := hL.l.len
    have hol := hl.len
    have hn8 := hL.hi
    refine ⟨_, pss_cons (ps_set (i := 2) sc_needOrder.nd rfl (.inr rfl) (pe_callB call_len_seq (by rfl) T.len PySem.boot_len (pa_cons (pv 0) pa_nil)))
      (pss_cons (ps_if (PW.pt (pw_or (pt_not (pt_val (pe_k G1 D1 (hr.mono (by decide)) (pa_cons (pv 1) (pa_cons (pv 2) (pa_cons (pv 2) pa_nil))))))
        (pw_or1 (pt_not (pt_val (pe_callB (cr_all rfl) (by rfl) T.all b_all (pa_cons (pe_lc (own := [("person", 3)]) (g := gName 3) (by rfl) sc_needOrder.nd (pi_tup (pv 1))
          (blkOk_by (own := [("person", 3)]) (N := ["line", "order", "people", "person"]) (sc := defScope st_needOrder) (by decide +kernel)) (fun _ _ _ _ _ => pg_name (i := 3) sc_needOrder.nd rfl (Or.inl rfl)) (fun _ _ _ _ _ => pts_nil)
          (fun _ _ _ _ _ => pe_k G2 D2 hr (pa_cons (pv 3) (pa_cons pe_int (pa_cons (pe_op op_sub (pv 2) pe_int) pa_nil))))) pa_nil))))))) (pss_one ps_never) pss_nil)
      (pss_one (ps_if (pt_cmpR (op_neD hr.units) (pe_callB cr_sortTup (by rfl) T.srt b_srt (pa_cons (pv 1) pa_nil)) (pe_listRg rfl (by rfl) T.tlist (prg_1 (by rfl) T.range (pv 2))) (nomark _)) (pss_one ps_never) pss_nil))), ?_⟩
    refine ⟨_, rfl, a, _, rfl, .inr hL.t, ?_⟩
    have e0 : (((iV ns).length : Nat) : Int) = (n : Int) := by rw [List.length_map, hlen]
    rw [e0]
    refine ⟨_, rfl, _, rfl, _, rfl, b, iV os, n, n, rfl, hO, _, rfl, ?_⟩
    rw [decide_eq_true (by rw [List.length_map]; omega)]
    refine iteF ?_
    refine ⟨_, rfl, b, rfl, ⟨_, hO⟩, fun L hLn => ?_⟩
    refine lc_tup (K := K) (a := b) (xs := iV os) (fun i H' => Same H H' ∧ H' L = some (.lst ((List.replicate i true).map V.bl))) ⟨Same.new hLn, upd_same⟩ (fun i H' _ ⟨e, _⟩ => Same.sqT e hO) ?_ ?_
    · rintro i x H1 hx ⟨e1, hL1⟩
      have hi : i < os.length := by
        have := (List.getElem?_eq_some_iff.mp hx).1
        rwa [List.length_map] at this
      cases (iV_get hi).symm.trans hx
      refine ⟨rfl, ?_⟩
      refine ⟨_, rfl, _, rfl, _, _, rfl, rfl, os[i], 0, _, rfl, ?_⟩
      have hin := (hl.mem _).mp (List.getElem_mem hi)
      rw [decide_eq_true (by constructor; exact hin.1; show os[i] ≤ (n : Int) - 1; omega)]
      refine ⟨_, hL1, ?_, Same.upL e1 hLn, ?_⟩
      · rw [List.length_map, List.length_replicate]
        exact sl_lt (by omega)
      · rw [upd_same, List.replicate_succ', List.map_append]
        rfl
    · rintro H1 ⟨e1, hL1⟩
      refine ⟨L, _, rfl, .inl (.inl hL1), _, rfl, ?_⟩
      have ea : (List.replicate (iV os).length true).all id = true := by simp
      rw [ea]
      refine iteF ?_
      refine ⟨_, rfl, b, os, rfl, Same.sqT e1 hO, by omega, fun ms p hp hs nP => ?_⟩
      refine ⟨_, rfl, _, rfl, RgOk.of_le (by omega) (by omega) (by omega) (by omega), fun z hz => ?_⟩
      have e3 : Same (upd H1 p (.lst (iV ms))) (upd (upd H1 p (.lst (iV ms))) z (.lst (rgV 0 (n : Int)))) := Same.new hz
      have hms := sorted_line hl hp hs
      refine ⟨_, _, dp_list (o := ms) (.inl (.inl (e3 _ _ upd_same))), dp_list (o := rangeI n) (.inl (.inl (by rw [← rgV_range]; exact upd_same))), shaped_list _, shaped_list _, _, rfl, ?_⟩
      rw [eqv_lists, decide_eq_true hms]
      refine iteF ?_
      exact q _ (e1.trans ((Same.new nP).trans e3))
abbrev st_roundLine : Stmt := top 27
theorem sc_roundLine : FnScope ["line", "order"] ["line", "order"] (defScope st_roundLine) := ⟨rfl, rfl, rfl, by decide +kernel, rfl, by decide +kernel, by decide +kernel⟩
def sp_roundLine (K : PySem.W.Frag) : Sp := fun vs H Q _ => ∃ (a b : Addr) (n : Nat) (ns os : List Int), vs = [.ref a, .ref b] ∧ LineAt H a n ns ∧ SqT K H b (iV os) ∧ IsLine n os ∧
  ∀ l H', Same H H' → LineAt H' l n (os.foldl callL ns) → Q (.ref l) H'
theorem ok_roundLine {f f1 f2 f3 : Addr} {fd d1 d2 d3 : FuncData} (D : DefK K mg "round_line" st_roundLine ["line", "order"] f fd) (D1 : DefK K mg "need_line" st_needLine ["line"] f1 d1) (G1 : FnOk P w K mg base CX0 3 f1 d1 ["line"] sp_needLine)
    (D2 : DefK K mg "need_order" st_needOrder ["line", "order"] f2 d2) (G2 : FnOk P w K mg base CX0 3 f2 d2 ["line", "order"] (sp_needOrder K))
    (D3 : DefK K mg "round_in" st_round ["line", "order"] f3 d3) (G3 : FnOk P w K mg base CX0 4 f3 d3 ["line", "order"] (sp_round K)) : FnOk P w K mg base CX0 5 f fd ["line", "order"] (sp_roundLine K) := by
  refine D.F.ok sc_roundLine (fun vs H Q E h => ?_) (fun cdv A outer s H vs Q E hr h => ?_)
  · obtain ⟨a, b, n, ns, os, rfl, _⟩ := h
    rfl
  · obtain ⟨a, b, n, ns, os, rfl, hL, hO, hl, q⟩ := h
    have hn8 := hL.hi
    have hol := hl.len
    refine ⟨_, pss_cons (ps_expr (pe_k G1 D1 (hr.mono (by decide)) (pa_cons (pv 0) pa_nil))) (pss_cons (ps_expr (pe_k G2 D2 (hr.mono (by decide)) (pa_cons (pv 0) (pa_cons (pv 1) pa_nil))))
      (pss_one (ps_ret (pe_k G3 D3 hr (pa_cons (pv 0) (pa_cons (pv 1) pa_nil)))))), ?_⟩
    refine ⟨_, rfl, a, n, ns, rfl, hL, fun H1 e1 => ?_⟩
    refine ⟨_, rfl, _, rfl, a, b, n, ns, os, rfl, hL.same e1, Same.sqT e1 hO, hl, fun H2 e2 => ?_⟩
    refine ⟨_, rfl, _, rfl, a, b, n, ns, os, rfl, hL.same (e1.trans e2), Same.sqT (e1.trans e2) hO, by omega, fun p hp => (hl.mem p).mp hp, fun l H3 e3 h3 => ?_⟩
    exact q l H3 (e1.trans (e2.trans e3)) h3
/-! ### need_few -/
abbrev st_needFew : Stmt := top 28
theorem sc_needFew : FnScope ["line"] ["line"] (defScope st_needFew) := ⟨rfl, rfl, rfl, by decide +kernel, rfl, by decide +kernel, by decide +kernel⟩
def sp_needFew : Sp := fun vs H Q _ => ∃ (a : Addr) (n : Nat) (ns : List Int), vs = [.ref a] ∧ LineAt H a n ns ∧ n ≤ 5 ∧ ∀ H', Same H H' → Q .non H'
theorem ok_needFew {f f1 f2 : Addr} {fd d1 d2 : FuncData} (D : DefK K mg "need_few" st_needFew ["line"] f fd) (T : Txt mg) (D1 : DefK K mg "need_line" st_needLine ["line"] f1 d1) (G1 : FnOk P w K mg base CX0 3 f1 d1 ["line"] sp_needLine)
    (D2 : DefK K mg "factorial" st_fac ["many"] f2 d2) (G2 : FnOk P w K mg base CX0 1 f2 d2 ["many"] sp_fac) : FnOk P w K mg base CX0 4 f fd ["line"] sp_needFew := by
  obtain ⟨t7, h7⟩ := T.mo
  refine D.F.ok sc_needFew (fun vs H Q E h => ?_) (fun cdv A outer s H vs Q E hr h => ?_)
  · obtain ⟨a, n, ns, rfl, _⟩ := h
    rfl
  · obtain ⟨a, n, ns, rfl, hL, h5, q⟩ := h
    have hlen := hL.l.len
    have h1 := hL.lo
    refine ⟨_, pss_cons (ps_expr (pe_k G1 D1 hr (pa_cons (pv 0) pa_nil))) (pss_one (ps_if (pt_cmpR op_gt (pe_k G2 D2 (hr.mono (by decide)) (pa_cons (pe_callB call_len_seq (by rfl) T.len PySem.boot_len (pa_cons (pv 0) pa_nil)) pa_nil)) (pe_glob (v := .int 720) rfl h7 ⟨_, rfl⟩) (nomark _)) (pss_one ps_never) pss_nil)), ?_⟩
    refine ⟨_, rfl, a, n, ns, rfl, hL, fun H1 e1 => ?_⟩
    refine ⟨_, rfl, a, _, rfl, .inr (Same.sqT e1 hL.t), n, by rw [List.length_map, hlen]; rfl, h1, by omega, _, _, rfl, rfl, _, rfl, ?_⟩
    have hf := (facI_le (n - 1) (by omega)).2.2 (by omega)
    rw [decide_eq_false (show ¬ facI (n - 1) > 720 by omega)]
    exact iteF (q H1 e1)
end
end Ov
set_option Elab.async false
set_option linter.all false
set_option maxRecDepth 100000
set_option maxHeartbeats 4000000
namespace Ov
open PySem PySem.Spec PyProof.Rows L2
theorem ext_len (n : Nat) (r : List Int) : (ext n r).length ≤ n := by
  unfold ext fit
  rw [List.length_map]
  exact Nat.le_trans (List.length_filter_le _ _) (Nat.le_of_eq (rangeI_length n))
theorem flat_len (n : Nat) : ∀ L : List (List Int), (L.flatMap (ext n)).length ≤ L.length * n
  | [] => by simp
  | r :: L => by
    have h1 := flat_len n L
    have h2 := ext_len n r
    rw [List.flatMap_cons, List.length_append, List.length_cons, Nat.add_mul]
    omega
theorem linesN_len (n : Nat) (hn : n ≤ 5) : ∀ k, k ≤ 5 → (linesN n k).length ≤ 5 ^ k
  | 0, _ => by unfold linesN; simp
  | k + 1, hk => by
    have h1 := linesN_len n hn k (by omega)
    have h2 := flat_len n (linesN n k)
    show ((linesN n k).flatMap (ext n)).length ≤ 5 ^ (k + 1)
    rw [Nat.pow_succ]
    exact Nat.le_trans h2 (Nat.mul_le_mul h1 hn)
theorem linesN_small (n : Nat) (hn : n ≤ 5) (k : Nat) (hk : k ≤ 5) : (linesN n k).length ≤ 3125 :=
  Nat.le_trans (linesN_len n hn k hk) (Nat.le_trans (Nat.pow_le_pow_right (by decide) hk) (by decide))
theorem Tups.snoc {K : PySem.W.Frag} {H : Hp} {as : List Addr} {os : List (List Int)} {L p : Addr} {xs : List V} {o : HO} {u : List Int} (h : Tups K H as os) (hp : H p = none) (hl : H L = some (.lst xs)) :
    Tups K (upd (upd H p (.tup (iV u))) L o) (as ++ [p]) (os ++ [u]) := by
  have hl2 : (upd H p (.tup (iV u))) L = some (.lst xs) := by rw [upd_ne (ne_of_none hl hp)]; exact hl
  refine Tups.append (Tups.mono (fun a ys q => sqT_upd (Same.sqT (Same.new hp) q) hl2) h) (.cons (sqT_upd SqT.new hl2) .nil)
section
variable {P : Program} {w : World} {K : PySem.W.Frag} {mg : Str → Option Value} {base : Heap}
/-! ### all_lines -/
abbrev st_allLines : Stmt := top 13
theorem sc_allLines : FnScope ["size", "found", "turn", "row", "person"] ["size"] (defScope st_allLines) := ⟨rfl, rfl, rfl, by decide +kernel, rfl, by decide +kernel, by decide +kernel⟩
def sp_allLines (K : PySem.W.Frag) : Sp := fun vs H Q _ => ∃ n : Nat, vs = [.int n] ∧ n ≤ 5 ∧ ∀ r H' as, Same H H' → H r = none → H' r = some (.lst (as.map V.ref)) → Tups K H' as (linesN n n) → Q (.ref r) H'
theorem ok_allLines {f : Addr} {fd : FuncData} (D : DefK K mg "all_lines" st_allLines ["size"] f fd) (T : Txt mg) : FnOk P w K mg base CX0 1 f fd ["size"] (sp_allLines K) := by
  refine D.F.ok sc_allLines (fun vs H Q E h => ?_) (fun cdv A outer s H vs Q E hr h => ?_)
  · obtain ⟨n, rfl, _⟩ := h
    rfl
  · obtain ⟨n, rfl, h5, q⟩ := h
    refine ⟨_, pss_cons (ps_set (i := 1) sc_allLines.nd rfl (.inl rfl) (pe_lst (pa_cons (pe_tup pa_nil) pa_nil)))
      (pss_cons (ps_for PassesOwn.never rfl (pi_range1 (by rfl) T.range (pa_cons (pv 0) pa_nil)) (pg_name (i := 2) sc_allLines.nd rfl (.inl rfl))
        (pss_one (ps_setLc2 (i := 1) (own := [("row", 3), ("person", 4)]) (vs1 := [4]) (g := gName 3) (g1 := gName 4) (tt1 := tTest (tOp (rIn K true) (tVar 4) (tVar 3))) (te := tTup (StX.tStar K (tVar 3) (tCons (tVar 4) tNil)))
          (by rfl) sc_allLines.nd rfl rfl (sw_true rfl rfl rfl (by decide +kernel)) (pi_list (pv 1))
          (blkOk_by (own := [("row", 3), ("person", 4)]) (N := ["size", "found", "turn", "row", "person"]) (sc := defScope st_allLines) (by decide +kernel)) (by decide)
          (fun _ _ _ _ _ => pg_name (i := 3) sc_allLines.nd rfl (Or.inl rfl)) (fun _ _ _ _ _ => pts_nil)
          (fun _ _ _ _ _ => pi_range1 (by rfl) T.range (pa_cons (pv 0) pa_nil))
          (fun _ _ _ _ _ => pg_name (i := 4) sc_allLines.nd rfl (Or.inl rfl)) (fun _ _ _ _ _ => pts_one (pt_cmpR op_notIn_seq (pv 4) (pv 3) (by rfl)))
          (fun _ _ _ _ _ => pe_tup (StX.pa_star (pv 3) (pa_cons (pv 4) pa_nil))))))
      (pss_one (ps_ret (pv 1)))), ?_⟩
    refine ⟨Nat.zero_le _, fun z hz => ⟨by show 1 ≤ sizeLine; decide, fun L hLn => ?_⟩⟩
    have hLH : H L = none := (Same.new hz).free hLn
    refine ⟨_, rfl, n, rfl, by omega, by omega, for_range (lo := 0) (n := (n : Int).toNat) (fun k σ H' => ∃ y Lk as, σ = [some (.int n), some (.ref Lk), y, none, none] ∧ Same H H' ∧ H Lk = none ∧ H' Lk = some (.lst (as.map V.ref)) ∧ Tups K H' as (linesN n k))
      ⟨none, L, [z], rfl, (Same.new hz).trans (Same.new hLn), hLH, upd_same, .cons (Same.sqT (Same.new hLn) SqT.new) .nil⟩ ?_ ?_⟩
    · rintro k σ H1 hk ⟨y, Lk, as, rfl, e1, nL, hL1, hT1⟩
      have hk5 : k ≤ 5 := by omega
      have hlen := hT1.length
      have hsm := linesN_small n h5 k hk5
      refine ⟨_, rfl, Lk, rfl, ⟨_, .inl (.inl hL1)⟩, fun R hR => ?_⟩
      have nRL : Lk ≠ R := ne_of_none hL1 hR
      refine lc2_out (walk_list (K := K) (a := Lk) (xs := as.map V.ref)) (fun i H' => ∃ bs, Same H1 H' ∧ H' R = some (.lst (bs.map V.ref)) ∧ Tups K H' bs (((linesN n k).take i).flatMap (ext n)))
        ⟨[], Same.new hR, upd_same, .nil⟩ (fun i H' _ ⟨bs, e, _⟩ => .inl (.inl (e _ _ hL1))) ?_ ?_
      · rintro i x H2 H2' hi ⟨bs, e2, hR2, hT2⟩ ⟨rfl, hx⟩
        have hi1 : i < as.length := by rwa [List.length_map] at hi
        have hi2 : i < (linesN n k).length := by omega
        rw [List.getElem?_map, List.getElem?_eq_getElem hi1] at hx
        cases hx
        obtain ⟨row, hrow, hsq⟩ := hT1.get (List.getElem?_eq_getElem hi1)
        rw [List.getElem?_eq_getElem hi2] at hrow
        have hrow' := Option.some.inj hrow
        have hsq2 : SqT K H2' as[i] (iV row) := Same.sqT e2 hsq
        have hfl := flat_len n ((linesN n k).take i)
        have hrl : row.length ≤ 5 := by
          have hm : row ∈ linesN n k := by rw [← hrow']; exact List.getElem_mem hi2
          have := ((mem_linesN k row).mp hm).1
          omega
        refine ⟨rfl, ?_⟩
        refine ⟨_, rfl, n, rfl, by omega, by omega, ?_⟩
        refine lc2_in (walk_range (lo := 0) (n := (n : Int).toNat)) (fun j H' => ∃ cs, Same H1 H' ∧ H' R = some (.lst (cs.map V.ref)) ∧ Tups K H' cs (((linesN n k).take i).flatMap (ext n) ++ (((rangeI n).take j).filter fun p => !row.contains p).map fun p => row ++ [p]))
          ⟨bs, e2, hR2, by rw [List.take_zero]; simpa using hT2⟩ (fun _ _ _ _ => trivial) ?_ ?_
        · rintro j v H3 H3' hj ⟨cs, e3, hR3, hT3⟩ ⟨rfl, rfl⟩
          have hj' : j < (rangeI n).length := by rw [rangeI_length]; omega
          have fs := filt_step (fun p => !row.contains p) hj'
          rw [rangeI_at hj'] at fs
          have ez : (0 : Int) + (j : Int) = (j : Int) := Int.zero_add _
          show gName 4 (V.int (0 + (j : Int))) _ _ _
          rw [ez]
          have hsq3 : SqT K H3' as[i] (iV row) := Same.sqT e3 hsq
          refine ⟨rfl, _, rfl, _, rfl, as[i], iV row, rfl, .inr hsq3, rfl, flat_iV _, _, rfl, ?_⟩
          rw [if_pos rfl, inV_iV]
          by_cases hc : row.contains (j : Int) = true
          · rw [hc]
            rw [if_neg (by rw [hc]; decide), List.append_nil] at fs
            refine iteF ⟨cs, e3, hR3, ?_⟩
            rw [fs]
            exact hT3
          · have hc' : row.contains (j : Int) = false := by simpa using hc
            rw [hc']
            rw [if_pos (by rw [hc']; decide)] at fs
            refine iteT ⟨_, rfl, as[i], iV row, rfl, .inl hsq3, _, rfl, ?_, fun p hp => ?_⟩
            · rw [List.length_append, List.length_map]
              exact sl_small (by show row.length + 1 ≤ 10000; omega)
            · have npR : R ≠ p := ne_of_none hR3 hp
              refine ⟨_, by rw [upd_ne npR]; exact hR3, ?_, cs ++ [p], ?_, ?_, ?_⟩
              · have h1 := hT3.length
                rw [List.length_append, List.length_map] at h1
                have h2 := filt_len (fun p => !row.contains p) (rangeI n) j
                rw [rangeI_length] at h2
                rw [List.length_take] at hfl
                have h3 : min i (linesN n k).length * n ≤ 3125 * 5 := Nat.mul_le_mul (by omega) h5
                rw [List.length_map, sizeLine_eq]
                omega
              · exact Same.upL (e3.trans (Same.new hp)) hR
              · rw [upd_same, List.map_append]
                rfl
              · rw [fs, List.map_append, ← List.append_assoc]
                have et : iV row ++ [V.int (j : Int)] = iV (row ++ [(j : Int)]) := by unfold iV; rw [List.map_append]; rfl
                rw [et]
                exact hT3.snoc hp hR3
        · rintro H3 ⟨cs, e3, hR3, hT3⟩
          refine ⟨cs, e3, hR3, ?_⟩
          have er : (rangeI n).take (n : Int).toNat = rangeI n := List.take_of_length_le (by rw [rangeI_length]; omega)
          rw [er] at hT3
          rw [pre_mem hi2, List.flatMap_append, hrow']
          simpa [ext, fit] using hT3
      · rintro H2 ⟨bs, e2, hR2, hT2⟩
        rw [List.length_map, hlen, List.take_length] at hT2
        exact ⟨_, R, bs, rfl, e1.trans e2, e1.free hR, hR2, hT2⟩
    · rintro σ H1 ⟨y, Lk, as, rfl, e1, nL, hL1, hT1⟩
      rw [Int.toNat_natCast] at hT1
      exact ⟨_, rfl, q Lk H1 as e1 nL hL1 hT1⟩
end
end Ov
set_option Elab.async false
set_option linter.all false
set_option maxRecDepth 100000
set_option maxHeartbeats 4000000
namespace Ov
open PySem PySem.Spec PyProof.Rows L2
abbrev rLenSeq (K : PySem.W.Frag) : List V → Hp → VK → Prop := fun xs H Q => ∃ p ys, xs = [.ref p] ∧ (SqL K H p ys ∨ SqT K H p ys) ∧ Q (.int ys.length) H
/-- what the program's worst_orders answers -/
def Worst (n : Nat) (ns : List Int) (w : Int) (o : List Int) : Prop := ∃ i, (leftN n ns)[i]? = some w ∧ (linesN n n)[i]? = some o ∧ (∀ (j : Nat) v, (leftN n ns)[j]? = some v → v ≤ w) ∧ (∀ (j : Nat) v, j < i → (leftN n ns)[j]? = some v → v < w)
theorem leftN_len (n : Nat) (ns : List Int) : (leftN n ns).length = (linesN n n).length := by unfold leftN; rw [List.length_map]
def prsOf (n : Nat) (ns : List Int) : List Pr := (linesN n n).map fun o => (- (inv (o.foldl callL ns) : Int), o)
theorem zip_self {α β : Type} (f : α → β) : ∀ l : List α, (l.map f).zip l = l.map fun x => (f x, x)
  | [] => rfl
  | x :: l => by rw [List.map_cons, List.zip_cons_cons, List.map_cons, zip_self f l]
theorem prs_zip (n : Nat) (ns : List Int) : ((leftN n ns).zip (linesN n n)).map (fun p => ((- p.1, p.2) : Pr)) = prsOf n ns := by
  unfold leftN prsOf
  rw [zip_self, List.map_map]
  rfl
theorem worst_of {n : Nat} {ns : List Int} (h1 : 1 ≤ n) (h5 : n ≤ 5) : ∃ p L, prsOf n ns = p :: L ∧ Worst n ns (- (minPr p L).1) (minPr p L).2 := by
  have hm : rangeI n ∈ linesN n n := (mem_linesN n _).mpr ⟨rangeI_length n, rangeI_nodup n, fun p hp => mem_rangeI.mp hp⟩
  have hpos : 0 < (linesN n n).length := List.length_pos_of_mem hm
  have hl := leftN_len n ns
  have w0 : (leftN n ns)[0]? = some (leftN n ns)[0] := List.getElem?_eq_getElem (by omega)
  have o0 : (linesN n n)[0]? = some (linesN n n)[0] := List.getElem?_eq_getElem hpos
  obtain ⟨i, w, o, hi, hw, ho, e, g1, g2⟩ := minPr_take (leftN n ns) (linesN n n) hl (fun i j a b hij ha hb => up_at (up_of h1 h5) i j a b hij ha hb) _ _ w0 o0 ((linesN n n).length - 1) (by omega)
  rw [prs_zip] at e
  have hpl : (prsOf n ns).length = (linesN n n).length := by unfold prsOf; rw [List.length_map]
  obtain ⟨p, L, eL⟩ : ∃ p L, prsOf n ns = p :: L := by
    cases hq : prsOf n ns with
    | nil => rw [hq] at hpl; simp at hpl; omega
    | cons p L => exact ⟨p, L, rfl⟩
  have ep : p = (- (leftN n ns)[0], (linesN n n)[0]) := by
    have h2 : (prsOf n ns)[0]? = some (- (leftN n ns)[0], (linesN n n)[0]) := by
      rw [← prs_zip, List.getElem?_map, List.getElem?_zip_eq_some.mpr (⟨w0, o0⟩ : (leftN n ns)[0]? = some ((leftN n ns)[0], (linesN n n)[0]).1 ∧ (linesN n n)[0]? = some ((leftN n ns)[0], (linesN n n)[0]).2)]
      rfl
    rw [eL] at h2
    exact Option.some.inj h2
  rw [eL, List.drop_one, List.tail_cons, List.take_of_length_le (by rw [eL] at hpl; rw [List.length_cons] at hpl; omega), ← ep] at e
  refine ⟨p, L, eL, ?_⟩
  rw [e]
  refine ⟨i, ?_, ho, fun j v hv => ?_, fun j v hj hv => ?_⟩
  · show (leftN n ns)[i]? = some (- - w)
    rw [Int.neg_neg]
    exact hw
  · show v ≤ - - w
    rw [Int.neg_neg]
    have := (List.getElem?_eq_some_iff.mp hv).1
    exact g1 j v (by omega) hv
  · show v < - - w
    rw [Int.neg_neg]
    exact g2 j v hj hv
section
variable {P : Program} {w : World} {K : PySem.W.Frag} {mg : Str → Option Value} {base : Heap}
/-! ### best_orders -/
abbrev st_best : Stmt := top 32
theorem sc_best : FnScope ["line", "some", "order"] ["line"] (defScope st_best) := ⟨rfl, rfl, rfl, by decide +kernel, rfl, by decide +kernel, by decide +kernel⟩
def sp_best : Sp := fun vs H Q _ => ∃ (a : Addr) (n : Nat) (ns : List Int), vs = [.ref a] ∧ LineAt H a n ns ∧ n ≤ 5 ∧
  ∀ r H' m, Same H H' → m ∈ leftN n ns → (∀ y, y ∈ leftN n ns → m ≤ y) → H' r = some (.tup [.int m, .int ((leftN n ns).count m : Nat)]) → Q (.ref r) H'
theorem leftN_pos {n : Nat} {ns : List Int} (hl : IsLine n ns) (h1 : 1 ≤ n) (h5 : n ≤ 5) : 0 < (leftN n ns).length := List.length_pos_of_mem (zero_mem_left hl h1 h5)
theorem ok_best {f f1 f2 f3 f4 : Addr} {fd d1 d2 d3 d4 : FuncData} (D : DefK K mg "best_orders" st_best ["line"] f fd) (T : Txt mg) (D1 : DefK K mg "need_few" st_needFew ["line"] f1 d1) (G1 : FnOk P w K mg base CX0 4 f1 d1 ["line"] sp_needFew)
    (D2 : DefK K mg "all_lines" st_allLines ["size"] f2 d2) (G2 : FnOk P w K mg base CX0 1 f2 d2 ["size"] (sp_allLines K)) (D3 : DefK K mg "round_in" st_round ["line", "order"] f3 d3) (G3 : FnOk P w K mg base CX0 4 f3 d3 ["line", "order"] (sp_round K))
    (D4 : DefK K mg "wrong_in" st_wrong ["line"] f4 d4) (G4 : FnOk P w K mg base CX0 2 f4 d4 ["line"] sp_wrong) : FnOk P w K mg base CX0 5 f fd ["line"] sp_best := by
  refine D.F.ok sc_best (fun vs H Q E h => ?_) (fun cdv A outer s H vs Q E hr h => ?_)
  · obtain ⟨a, n, ns, rfl, _⟩ := h
    rfl
  · obtain ⟨a, n, ns, rfl, hL, h5, q⟩ := h
    have hlen := hL.l.len
    refine ⟨_, pss_cons (ps_expr (pe_k G1 D1 hr (pa_cons (pv 0) pa_nil)))
      (pss_cons (ps_setLc (i := 1) (own := [("order", 2)]) (g := gName 2) (te := tCB (rLenSeq K) (tCons (tCall sp_wrong [] E0 (tCons (tCall (sp_round K) [] E0 (tCons (tVar 0) (tCons (tVar 2) tNil))) tNil)) tNil)) (by rfl) sc_best.nd rfl rfl (sw_true rfl rfl rfl (by decide +kernel))
        (pi_list (pe_k G2 D2 (hr.mono (by decide)) (pa_cons (pe_callB call_len_seq (by rfl) T.len PySem.boot_len (pa_cons (pv 0) pa_nil)) pa_nil)))
        (blkOk_by (own := [("order", 2)]) (N := ["line", "some", "order"]) (sc := defScope st_best) (by decide +kernel)) (fun _ _ _ _ _ => pg_name (i := 2) sc_best.nd rfl (Or.inl rfl)) (fun _ _ _ _ _ => pts_nil)
        (fun _ _ _ _ _ => pe_callB call_len_seq (by rfl) T.len PySem.boot_len (pa_cons (pe_k G4 D4 (hr.mono (by decide)) (pa_cons (pe_k G3 D3 hr (pa_cons (pv 0) (pa_cons (pv 2) pa_nil))) pa_nil)) pa_nil)))
      (pss_one (ps_ret (pe_tup (pa_cons (pe_callB (cr_min rfl) (by rfl) T.min b_min (pa_cons (pv 1) pa_nil))
        (pa_cons (pe_bm PySem.F.plainAttrs_list PySem.F.slot_list_count PySem.F.type_list_count mt_lcount (pv 1) (pa_cons (pe_callB (cr_min rfl) (by rfl) T.min b_min (pa_cons (pv 1) pa_nil)) pa_nil)) pa_nil)))))), ?_⟩
    refine ⟨_, rfl, a, n, ns, rfl, hL, h5, fun H1 e1 => ?_⟩
    refine ⟨_, rfl, a, _, rfl, .inr (Same.sqT e1 hL.t), n, by rw [List.length_map, hlen]; rfl, h5, fun r H2 as e2 _ hr2 hT => ?_⟩
    have hlen2 := hT.length
    have hsm := linesN_small n h5 n h5
    refine ⟨r, rfl, ⟨_, .inl (.inl hr2)⟩, fun L hLn => ?_⟩
    have e12 := e1.trans e2
    refine lc_list (K := K) (a := r) (xs := as.map V.ref) (fun i H' => Same H2 H' ∧ H' L = some (.lst (iV ((leftN n ns).take i)))) ⟨Same.new hLn, upd_same⟩ (fun i H' _ ⟨e, _⟩ => .inl (.inl (e _ _ hr2))) ?_ ?_
    · rintro i x H3 hx ⟨e3, hL3⟩
      have hi : i < as.length := by
        have := (List.getElem?_eq_some_iff.mp hx).1
        rwa [List.length_map] at this
      have hi2 : i < (linesN n n).length := by omega
      rw [List.getElem?_map, List.getElem?_eq_getElem hi] at hx
      cases hx
      obtain ⟨o, ho, hsq⟩ := hT.get (List.getElem?_eq_getElem hi)
      have hom := (mem_linesN n o).mp (List.mem_of_getElem? ho)
      refine ⟨rfl, ?_⟩
      refine ⟨_, rfl, _, rfl, a, as[i], n, ns, o, rfl, hL.same (e12.trans e3), Same.sqT e3 hsq, by omega, hom.2.2, fun l H4 e4 hl4 => ?_⟩
      refine ⟨l, n, _, rfl, hl4, fun z H5 xs e5 _ hz5 hxs => ?_⟩
      refine ⟨z, xs, rfl, .inl (.inl (.inl hz5)), ?_⟩
      refine ⟨_, e5 _ _ (e4 _ _ hL3), ?_, Same.upL (e3.trans (e4.trans e5)) hLn, ?_⟩
      · rw [List.length_map, List.length_take, sizeLine_eq]
        omega
      · have hil : i < (leftN n ns).length := by rw [leftN_len]; exact hi2
        have ev : (leftN n ns)[i] = (xs.length : Int) := by
          have h2 : (leftN n ns)[i]? = some (inv (o.foldl callL ns) : Int) := by
            unfold leftN
            rw [List.getElem?_map, ho]
            rfl
          rw [List.getElem?_eq_getElem hil] at h2
          rw [hxs]
          exact Option.some.inj h2
        rw [upd_same, pre_mem hil, ev]
        unfold iV
        rw [List.map_append]
        rfl
    · rintro H3 ⟨e3, hL3⟩
      have hts : (leftN n ns).take (as.map V.ref).length = leftN n ns := List.take_of_length_le (by rw [List.length_map, leftN_len]; omega)
      rw [hts] at hL3
      have hSL : SqL K H3 L (iV (leftN n ns)) := .inl (.inl hL3)
      have hpos := leftN_pos hL.l hL.lo h5
      refine ⟨_, rfl, L, _, rfl, hSL, hpos, fun m hm1 hm2 => ?_⟩
      refine ⟨_, rfl, .inl ⟨rfl, _, hSL⟩, _, rfl, L, _, rfl, hSL, hpos, fun m' hm1' hm2' => ?_⟩
      refine ⟨L, _, m', rfl, rfl, hSL, by show 2 ≤ sizeLine; decide, fun p hp => ?_⟩
      have em : m' = m := by
        have := hm2 m' hm1'
        have := hm2' m hm1
        omega
      subst em
      exact q p _ m' ((e12.trans e3).trans (Same.new hp)) hm1 hm2 upd_same
end
end Ov
set_option Elab.async false
set_option linter.all false
set_option maxRecDepth 100000
set_option maxHeartbeats 4000000
namespace Ov
open PySem PySem.Spec PyProof.Rows L2
/-- pairs (number, tuple), by their places -/
abbrev PrT (K : PySem.W.Frag) (H : Hp) : List Addr → List Pr → Prop := Paired fun b p => ∃ q, H b = some (.tup [.int p.1, .ref q]) ∧ SqT K H q (iV p.2)
theorem PrT.dp {K : PySem.W.Frag} {H : Hp} : ∀ {bs : List Addr} {L : List Pr}, PrT K H bs L → DpAll K H (bs.map V.ref) (L.map dPr)
  | _, _, .nil => .nil
  | _, _, .cons ⟨q, h1, h2⟩ t => .cons (.tup (.inl (.inl h1)) (.cons (.int _) (.cons (dp_tup h2) .nil))) (PrT.dp t)
theorem PrT.same {K : PySem.W.Frag} {H H' : Hp} (e : Same H H') : ∀ {bs : List Addr} {L : List Pr}, PrT K H bs L → PrT K H' bs L
  | _, _, .nil => .nil
  | _, _, .cons ⟨q, h1, h2⟩ t => .cons ⟨q, e _ _ h1, Same.sqT e h2⟩ (PrT.same e t)
theorem PrT.up {K : PySem.W.Frag} {H : Hp} {D : Addr} {xs : List V} {o : HO} (hD : H D = some (.lst xs)) : ∀ {bs : List Addr} {L : List Pr}, PrT K H bs L → PrT K (upd H D o) bs L
  | _, _, .nil => .nil
  | _, _, .cons ⟨q, h1, h2⟩ t => .cons ⟨q, by rw [upd_ne (ne_of h1 hD fun z => nomatch z)]; exact h1, sqT_upd h2 hD⟩ (PrT.up hD t)
theorem PrT.append {K : PySem.W.Frag} {H : Hp} : ∀ {as bs : List Addr} {L M : List Pr}, PrT K H as L → PrT K H bs M → PrT K H (as ++ bs) (L ++ M)
  | _, _, _, _, .nil, s => s
  | _, _, _, _, .cons h t, s => .cons h (PrT.append t s)
theorem PrT.get {K : PySem.W.Frag} {H : Hp} : ∀ {bs : List Addr} {L : List Pr} {i : Nat} {b : Addr}, PrT K H bs L → bs[i]? = some b → ∃ p q, L[i]? = some p ∧ H b = some (.tup [.int p.1, .ref q]) ∧ SqT K H q (iV p.2)
  | _, _, _, _, .nil, h => by simp at h
  | _, _, 0, b, .cons ⟨q, h1, h2⟩ t, e => by
    simp only [List.getElem?_cons_zero, Option.some.injEq] at e
    subst e
    exact ⟨_, q, rfl, h1, h2⟩
  | _, _, i + 1, b, .cons _ t, e => by
    obtain ⟨p, q, h1, h2⟩ := PrT.get (i := i) (b := b) t (by simpa using e)
    exact ⟨p, q, by simpa using h1, h2⟩
section
variable {P : Program} {w : World} {K : PySem.W.Frag} {mg : Str → Option Value} {base : Heap}
/-! ### worst_orders -/
abbrev st_worst : Stmt := top 33
theorem sc_worst : FnScope ["line", "order", "many"] ["line"] (defScope st_worst) := ⟨rfl, rfl, rfl, by decide +kernel, rfl, by decide +kernel, by decide +kernel⟩
def sp_worst (K : PySem.W.Frag) : Sp := fun vs H Q _ => ∃ (a : Addr) (n : Nat) (ns : List Int), vs = [.ref a] ∧ LineAt H a n ns ∧ n ≤ 5 ∧
  ∀ r H' q v o, Same H H' → H' r = some (.tup [.int v, .ref q]) → SqT K H' q (iV o) → Worst n ns v o → Q (.ref r) H'
theorem ok_worst {f f1 f2 f3 f4 : Addr} {fd d1 d2 d3 d4 : FuncData} (D : DefK K mg "worst_orders" st_worst ["line"] f fd) (T : Txt mg) (D1 : DefK K mg "need_few" st_needFew ["line"] f1 d1) (G1 : FnOk P w K mg base CX0 4 f1 d1 ["line"] sp_needFew)
    (D2 : DefK K mg "all_lines" st_allLines ["size"] f2 d2) (G2 : FnOk P w K mg base CX0 1 f2 d2 ["size"] (sp_allLines K)) (D3 : DefK K mg "round_in" st_round ["line", "order"] f3 d3) (G3 : FnOk P w K mg base CX0 4 f3 d3 ["line", "order"] (sp_round K))
    (D4 : DefK K mg "wrong_in" st_wrong ["line"] f4 d4) (G4 : FnOk P w K mg base CX0 2 f4 d4 ["line"] sp_wrong) : FnOk P w K mg base CX0 5 f fd ["line"] (sp_worst K) := by
  refine D.F.ok sc_worst (fun vs H Q E h => ?_) (fun cdv A outer s H vs Q E hr h => ?_)
  · obtain ⟨a, n, ns, rfl, _⟩ := h
    rfl
  · obtain ⟨a, n, ns, rfl, hL, h5, q⟩ := h
    have hlen := hL.l.len
    refine ⟨_, pss_cons (ps_expr (pe_k G1 D1 hr (pa_cons (pv 0) pa_nil)))
      (pss_cons (ps_asg (pe_callB (cr_minPr rfl hr.units) (by rfl) T.min b_min (pa_cons (pe_lc (own := [("order", 1)]) (g := gName 1)
        (te := tTup (tCons (tUn (rU fun i => .int (-i)) (tCB (rLenSeq K) (tCons (tCall sp_wrong [] E0 (tCons (tCall (sp_round K) [] E0 (tCons (tVar 0) (tCons (tVar 1) tNil))) tNil)) tNil))) (tCons (tVar 1) tNil))) (by rfl) sc_worst.nd
        (pi_list (pe_k G2 D2 (hr.mono (by decide)) (pa_cons (pe_callB call_len_seq (by rfl) T.len PySem.boot_len (pa_cons (pv 0) pa_nil)) pa_nil)))
        (blkOk_by (own := [("order", 1)]) (N := ["line", "order", "many"]) (sc := defScope st_worst) (by decide +kernel)) (fun _ _ _ _ _ => pg_name (i := 1) sc_worst.nd rfl (Or.inl rfl)) (fun _ _ _ _ _ => pts_nil)
        (fun _ _ _ _ _ => pe_tup (pa_cons (pe_un un_neg (pe_callB call_len_seq (by rfl) T.len PySem.boot_len (pa_cons (pe_k G4 D4 (hr.mono (by decide)) (pa_cons (pe_k G3 D3 hr (pa_cons (pv 0) (pa_cons (pv 1) pa_nil))) pa_nil)) pa_nil))) (pa_cons (pv 1) pa_nil)))) pa_nil))
        (pg_tup rfl (pgs_cons (pg_name (i := 2) sc_worst.nd rfl (.inl rfl)) (pgs_cons (pg_name (i := 1) sc_worst.nd rfl (.inl rfl)) pgs_nil))))
      (pss_one (ps_ret (pe_tup (pa_cons (pe_un un_neg (pv 2)) (pa_cons (pv 1) pa_nil)))))), ?_⟩
    refine ⟨_, rfl, a, n, ns, rfl, hL, h5, fun H1 e1 => ?_⟩
    refine ⟨_, rfl, a, _, rfl, .inr (Same.sqT e1 hL.t), n, by rw [List.length_map, hlen]; rfl, h5, fun r H2 as e2 _ hr2 hT => ?_⟩
    have hlen2 := hT.length
    have hsm := linesN_small n h5 n h5
    have hpl : (prsOf n ns).length = (linesN n n).length := by unfold prsOf; rw [List.length_map]
    refine ⟨r, rfl, ⟨_, .inl (.inl hr2)⟩, fun L hLn => ?_⟩
    have e12 := e1.trans e2
    refine lc_list (K := K) (a := r) (xs := as.map V.ref) (fun i H' => ∃ bs, Same H2 H' ∧ H' L = some (.lst (bs.map V.ref)) ∧ PrT K H' bs ((prsOf n ns).take i)) ⟨[], Same.new hLn, upd_same, .nil⟩ (fun i H' _ ⟨_, e, _⟩ => .inl (.inl (e _ _ hr2))) ?_ ?_
    · rintro i x H3 hx ⟨bs, e3, hL3, hP3⟩
      have hi : i < as.length := by
        have := (List.getElem?_eq_some_iff.mp hx).1
        rwa [List.length_map] at this
      have hi2 : i < (linesN n n).length := by omega
      rw [List.getElem?_map, List.getElem?_eq_getElem hi] at hx
      cases hx
      obtain ⟨o, ho, hsq⟩ := hT.get (List.getElem?_eq_getElem hi)
      have hom := (mem_linesN n o).mp (List.mem_of_getElem? ho)
      refine ⟨rfl, ?_⟩
      refine ⟨_, rfl, _, rfl, a, as[i], n, ns, o, rfl, hL.same (e12.trans e3), Same.sqT e3 hsq, by omega, hom.2.2, fun l H4 e4 hl4 => ?_⟩
      refine ⟨l, n, _, rfl, hl4, fun z H5 xs e5 _ hz5 hxs => ?_⟩
      refine ⟨z, xs, rfl, .inl (.inl (.inl hz5)), _, rfl, _, rfl, by show 2 ≤ sizeLine; decide, fun p hp => ?_⟩
      have e35 := e4.trans e5
      have hL5 := e35 _ _ hL3
      refine ⟨_, by rw [upd_ne (ne_of_none hL5 hp)]; exact hL5, ?_, bs ++ [p], Same.upL (e3.trans (e35.trans (Same.new hp))) hLn, ?_, ?_⟩
      · have h1 := Paired.length hP3
        rw [List.length_take] at h1
        rw [List.length_map, sizeLine_eq]
        omega
      · rw [upd_same, List.map_append]
        rfl
      · have hip : i < (prsOf n ns).length := by omega
        have ep : (prsOf n ns)[i] = (- (xs.length : Int), o) := by
          have h2 : (prsOf n ns)[i]? = some (- (inv (o.foldl callL ns) : Int), o) := by
            unfold prsOf
            rw [List.getElem?_map, ho]
            rfl
          rw [List.getElem?_eq_getElem hip] at h2
          rw [hxs]
          exact Option.some.inj h2
        have hL6 : (upd H5 p (.tup [.int (- (xs.length : Int)), .ref as[i]])) L = some (.lst (bs.map V.ref)) := by rw [upd_ne (ne_of_none hL5 hp)]; exact hL5
        rw [pre_mem hip, ep]
        refine PrT.append (PrT.up hL6 (PrT.same (e35.trans (Same.new hp)) hP3)) (.cons ⟨as[i], ?_, ?_⟩ .nil)
        · rw [upd_ne (ne_of_none hL5 hp).symm, upd_same]
        · exact sqT_upd (Same.sqT (e3.trans (e35.trans (Same.new hp))) hsq) hL6
    · rintro H3 ⟨bs, e3, hL3, hP3⟩
      have hts : (prsOf n ns).take (as.map V.ref).length = prsOf n ns := List.take_of_length_le (by rw [List.length_map]; omega)
      rw [hts] at hP3
      obtain ⟨p, M, eM, hW⟩ := worst_of (ns := ns) hL.lo h5
      rw [eM] at hP3
      refine ⟨L, bs.map V.ref, p, M, rfl, .inl (.inl hL3), hP3.dp, fun i x hx hm => ?_⟩
      obtain ⟨b, hb, rfl⟩ : ∃ b, bs[i]? = some b ∧ V.ref b = x := by
        rw [List.getElem?_map] at hx
        exact Option.map_eq_some_iff.mp hx
      obtain ⟨p2, qa, h1, h2, h3⟩ := hP3.get hb
      rw [hm] at h1
      cases h1
      refine ⟨b, _, rfl, .inl (.inl h2), rfl, _, _, rfl, _, _, rfl, rfl, ?_⟩
      refine ⟨_, rfl, _, rfl, _, rfl, by show 2 ≤ sizeLine; decide, fun z hz => ?_⟩
      exact q z _ qa _ _ ((e12.trans e3).trans (Same.new hz)) upd_same (Same.sqT (Same.new hz) h3) hW
/-! ### order_gains -/
abbrev st_gains : Stmt := top 31
theorem sc_gains : FnScope ["line", "order", "found", "person", "there"] ["line", "order"] (defScope st_gains) := ⟨rfl, rfl, rfl, by decide +kernel, rfl, by decide +kernel, by decide +kernel⟩
def sp_gains (K : PySem.W.Frag) : Sp := fun vs H Q _ => ∃ (a b : Addr) (n : Nat) (ns os : List Int), vs = [.ref a, .ref b] ∧ LineAt H a n ns ∧ SqT K H b (iV os) ∧ IsLine n os ∧
  ∀ r H', Same H H' → SqT K H' r (iV (gainsGo os ns (List.replicate n 0))) → Q (.ref r) H'
theorem ixN_nat {n : Nat} {i : Int} (h0 : 0 ≤ i) (h : i < (n : Int)) : ixN n i = some i.toNat := by
  unfold ixN
  rw [if_pos h0, if_pos h]
theorem ok_gains {f f1 f2 f3 : Addr} {fd d1 d2 d3 : FuncData} (D : DefK K mg "order_gains" st_gains ["line", "order"] f fd) (T : Txt mg) (D1 : DefK K mg "need_line" st_needLine ["line"] f1 d1) (G1 : FnOk P w K mg base CX0 3 f1 d1 ["line"] sp_needLine)
    (D2 : DefK K mg "need_order" st_needOrder ["line", "order"] f2 d2) (G2 : FnOk P w K mg base CX0 3 f2 d2 ["line", "order"] (sp_needOrder K))
    (D3 : DefK K mg "call_in" st_call ["line", "person"] f3 d3) (G3 : FnOk P w K mg base CX0 2 f3 d3 ["line", "person"] sp_call) : FnOk P w K mg base CX0 4 f fd ["line", "order"] (sp_gains K) := by
  refine D.F.ok sc_gains (fun vs H Q E h => ?_) (fun cdv A outer s H vs Q E hr h => ?_)
  · obtain ⟨a, b, n, ns, os, rfl, _⟩ := h
    rfl
  · obtain ⟨a, b, n, ns, os, rfl, hL, hO, hl, q⟩ := h
    have hlen := hL.l.len
    have hn8 := hL.hi
    refine ⟨_, pss_cons (ps_expr (pe_k G1 D1 hr (pa_cons (pv 0) pa_nil))) (pss_cons (ps_expr (pe_k G2 D2 hr (pa_cons (pv 0) (pa_cons (pv 1) pa_nil))))
      (pss_cons (ps_set (i := 2) sc_gains.nd rfl (.inl rfl) (pe_op op_rep (pe_lst (pa_cons pe_int pa_nil)) (pe_callB call_len_seq (by rfl) T.len PySem.boot_len (pa_cons (pv 0) pa_nil))))
      (pss_cons (ps_for PassesOwn.never rfl (pi_tup (pv 1)) (pg_name (i := 3) sc_gains.nd rfl (.inl rfl))
        (pss_cons (ps_set (i := 4) sc_gains.nd rfl (.inl rfl) (pe_k G3 D3 (hr.mono (by decide)) (pa_cons (pv 0) (pa_cons (pv 3) pa_nil))))
        (pss_cons (ps_asg (pe_op op_sub (pe_idxF (pv 0) (pa_cons (pv 3) pa_nil)) (pe_idxF (pv 4) (pa_cons (pv 3) pa_nil))) (pg_sub (pv 2) (pv 3) set_list))
        (pss_one (ps_set (i := 0) sc_gains.nd rfl (.inl rfl) (pv 4))))))
      (pss_one (ps_ret (pe_callTy call_tupF (by rfl) T.ttup b_tup (pa_cons (pv 2) pa_nil))))))), ?_⟩
    refine ⟨_, rfl, a, n, ns, rfl, hL, fun H1 e1 => ?_⟩
    refine ⟨_, rfl, _, rfl, a, b, n, ns, os, rfl, hL.same e1, Same.sqT e1 hO, hl, fun H2 e2 => ?_⟩
    have e12 := e1.trans e2
    refine ⟨by show 1 ≤ sizeLine; decide, fun z hz => ?_⟩
    have e3 : Same H2 (upd H2 z (.lst [.int 0])) := Same.new hz
    refine ⟨_, rfl, a, _, rfl, .inr (Same.sqT (e12.trans e3) hL.t), z, _, _, rfl, rfl, upd_same, by omega, by rw [List.length_map]; omega, ?_, fun L hLn => ?_⟩
    · rw [List.length_map, Int.toNat_natCast, hlen]
      exact sl_small (by show 1 * n ≤ 10000; omega)
    · have e4 := (e12.trans e3).trans (Same.new (o := .lst (List.replicate (((iV ns).length : Nat) : Int).toNat ([.int 0] : List V)).flatten) hLn)
      have hLH : H L = none := (e12.trans e3).free hLn
      refine ⟨_, rfl, b, rfl, ⟨_, Same.sqT e4 hO⟩, for_tup (K := K) (a := b) (xs := iV os) (fun i σ H' => ∃ y3 y4 la g, σ = [some (.ref la), some (.ref b), some (.ref L), y3, y4] ∧ Same H H' ∧ LineAt H' la n ((os.take i).foldl callL ns) ∧ H' L = some (.lst (iV g)) ∧ g.length = n ∧
        gainsGo (os.drop i) ((os.take i).foldl callL ns) g = gainsGo os ns (List.replicate n 0))
        ⟨none, none, a, List.replicate n 0, rfl, e4, hL.same e4, ?_, List.length_replicate, rfl⟩ (fun i σ H' _ ⟨_, _, _, _, _, e, _⟩ => Same.sqT e hO) ?_ ?_⟩
      · rw [upd_same, List.length_map, Int.toNat_natCast, hlen, rep_zero]
      · rintro i x σ H3 hx ⟨y3, y4, la, g, rfl, e5, hla, hg, hgl, eg⟩
        have hi : i < os.length := by
          have := (List.getElem?_eq_some_iff.mp hx).1
          rwa [List.length_map] at this
        cases (iV_get hi).symm.trans hx
        have hp := (hl.mem _).mp (List.getElem_mem hi)
        refine ⟨_, rfl, _, rfl, la, n, _, os[i], rfl, hla, hp, fun r H4 e6 hr4 => ?_⟩
        have hla4 := hla.same e6
        refine ⟨_, rfl, ⟨la, _, rfl, hla4.f⟩, _, rfl, la, _, os[i], rfl, rfl, hla4.t, (hla.l.mem _).mpr hp, ?_⟩
        refine ⟨_, rfl, ⟨r, _, rfl, hr4.f⟩, _, rfl, r, _, os[i], rfl, rfl, hr4.t, (hr4.l.mem _).mpr hp, _, _, rfl, rfl, ?_⟩
        refine ⟨_, rfl, _, rfl, L, iV g, os[i], os[i].toNat, rfl, rfl, e6 _ _ hg, by rw [List.length_map, hgl]; exact ixN_nat hp.1 hp.2, ?_⟩
        refine ⟨_, rfl, _, _, r, g.set os[i].toNat ((((os.take i).foldl callL ns).idxOf os[i] : Int) - ((callL ((os.take i).foldl callL ns) os[i]).idxOf os[i] : Int)), rfl, Same.upL (e5.trans e6) hLH, ?_, ?_, ?_, ?_⟩
        · rw [after_snoc ns os hi]
          exact ⟨hr4.f.upd (e6 _ _ hg), hr4.l, hr4.lo, hr4.hi⟩
        · rw [upd_same]
          unfold iV
          rw [List.map_set]
        · rw [List.length_set]
          exact hgl
        · rw [← eg, List.drop_eq_getElem_cons hi, after_snoc ns os hi]
          rfl
      · rintro σ H3 ⟨y3, y4, la, g, rfl, e5, hla, hg, hgl, eg⟩
        rw [List.length_map, List.drop_length] at eg
        refine ⟨_, rfl, L, _, rfl, .inl (.inl hg), fun r H4 e6 hr4 => ?_⟩
        refine q r H4 (e5.trans e6) ?_
        rw [← eg]
        exact SqF.t hr4
end
end Ov
set_option Elab.async false
set_option linter.all false
set_option maxRecDepth 100000
set_option maxHeartbeats 4000000
namespace Ov
open PySem PySem.Spec PyProof.Rows L2
/-! ### the count by its own turns -/
structure Done (n : Nat) (d : List Int) : Prop where
  nd : d.Nodup
  mem : ∀ p ∈ d, 0 ≤ p ∧ p < (n : Int)
def cfV (l d : List Int) : Int := cf 9 l d
theorem Done.put {n : Nat} {d : List Int} {p : Int} (h : Done n d) (hp : p ∈ fit n d) : Done n (put d p) := by
  obtain ⟨h1, h2⟩ := mem_fit.mp hp
  refine ⟨(put_perm d p).nodup_iff.mpr ?_, fun q hq => ?_⟩
  · rw [List.nodup_append]
    exact ⟨h.nd, by simp, fun a ha b hb => by
      rw [List.mem_singleton] at hb
      rintro rfl
      exact h2 (hb ▸ ha)⟩
  · rw [(put_perm d p).mem_iff] at hq
    rcases List.mem_append.mp hq with hq | hq
    · exact h.mem q hq
    · rw [List.mem_singleton] at hq; rw [hq]; exact h1
theorem put_len (d : List Int) (p : Int) : (put d p).length = d.length + 1 := by rw [(put_perm d p).length_eq, List.length_append]; rfl
theorem cf_any {n m k : Nat} {l d : List Int} (hl : IsLine n l) (hd : Done n d) (hn : d.length + m = n) (h8 : n ≤ 7) (hk : m + 1 ≤ k) : cf k l d = cfV l d := by
  unfold cfV
  rw [cf_ways m k l d d hl (fun _ => Iff.rfl) rfl hn hd.nd hd.mem hk, cf_ways m 9 l d d hl (fun _ => Iff.rfl) rfl hn hd.nd hd.mem (by omega)]
theorem cfV_any {l d : List Int} (h : (callersL l).any (fun p => d.contains p) = true) : cfV l d = 0 := by
  show (if (callersL l).any (fun p => d.contains p) then 0 else _) = (0 : Int)
  rw [if_pos h]
theorem cfV_full {l d : List Int} (h : ¬ (callersL l).any (fun p => d.contains p) = true) (e : d.length = l.length) : cfV l d = 1 := by
  show (if (callersL l).any (fun p => d.contains p) then 0 else if d.length = l.length then 1 else _) = (1 : Int)
  rw [if_neg h, if_pos e]
/-- the sum over the first i people -/
def sumTo (n : Nat) (l d : List Int) (i : Nat) : Int := ((((rangeI n).take i).filter fun p => !d.contains p).map fun p => cfV (callL l p) (put d p)).sum
theorem cfV_sum {n m : Nat} {l d : List Int} (hl : IsLine n l) (hd : Done n d) (hn : d.length + (m + 1) = n) (h8 : n ≤ 7) (h : ¬ (callersL l).any (fun p => d.contains p) = true) : cfV l d = sumTo n l d n := by
  show (if (callersL l).any (fun p => d.contains p) then 0 else if d.length = l.length then 1 else ((fit l.length d).map fun p => cf 8 (callL l p) (put d p)).sum) = _
  rw [if_neg h, if_neg (by rw [hl.len]; omega), hl.len]
  unfold sumTo
  rw [List.take_of_length_le (by rw [rangeI_length]; exact Nat.le_refl _)]
  show ((fit n d).map _).sum = ((fit n d).map _).sum
  rw [List.map_congr_left fun p hp => ?_]
  exact cf_any (m := m) (hl.call (mem_fit.mp hp).1) (hd.put hp) (by rw [put_len]; omega) h8 (by omega)
theorem sumTo_step {n i : Nat} {l d : List Int} (h : i < n) : sumTo n l d (i + 1) = sumTo n l d i + (if d.contains (i : Int) = true then 0 else cfV (callL l i) (put d i)) := by
  have h' : i < (rangeI n).length := by rw [rangeI_length]; exact h
  have fs := filt_step (fun p => !d.contains p) h'
  rw [rangeI_at h'] at fs
  unfold sumTo
  rw [fs, List.map_append, List.sum_append]
  congr 1
  by_cases hc : d.contains (i : Int) = true
  · rw [if_pos hc, if_neg (by rw [hc]; decide)]; rfl
  · have hc' : d.contains (i : Int) = false := by simpa using hc
    rw [if_neg hc, if_pos (by rw [hc']; decide)]
    simp
/-! ### heaps in which d alone may have changed -/
def But (d : Addr) (H H' : Hp) : Prop := ∀ b o, b ≠ d → H b = some o → H' b = some o
theorem But.of {d : Addr} {H H' : Hp} (h : Same H H') : But d H H' := fun b o _ e => h b o e
theorem But.trans {d : Addr} {H H1 H2 : Hp} (a : But d H H1) (b : But d H1 H2) : But d H H2 := fun c o hc e => b c o hc (a c o hc e)
theorem But.sqT {K : PySem.W.Frag} {d b : Addr} {H H' : Hp} {φ : Heap → Prop} {xs : List V} (e : But d H H') (hd : H d = some (.ext φ)) (h : SqT K H b xs) : SqT K H' b xs := by
  rcases h with (h | ⟨u, h⟩) | h
  · exact .inl (.inl (e _ _ (ne_of h hd fun z => nomatch z) h))
  · exact .inl (.inr ⟨u, e _ _ (ne_of h hd fun z => nomatch z) h⟩)
  · exact .inr h
theorem But.line {d a : Addr} {H H' : Hp} {φ : Heap → Prop} {n : Nat} {ns : List Int} (e : But d H H') (hd : H d = some (.ext φ)) (h : LineAt H a n ns) : LineAt H' a n ns := by
  obtain ⟨⟨o, h1, h2⟩, hl, lo, hi⟩ := h
  exact ⟨⟨o, e _ _ (ne_of h1 hd fun z => nomatch z) h1, h2⟩, hl, lo, hi⟩
/-- the memory holds the counts -/
def Fine (ys : List Ent) : Prop := ∀ y ∈ ys, ∃ t, y.2.2 = Value.int (cfV y.1.1 y.1.2) t
theorem Fine.put {ys : List Ent} {l d : List Int} {a : Addr} {t : Tok} (h : Fine ys) : Fine (putY ys (l, d) a (.int (cfV l d) t)) := fun y hy => by
  rcases putY_mem hy with hy | ⟨e1, e2, _⟩
  · exact h y hy
  · rw [e1, e2]
    exact ⟨t, rfl⟩
def bnd : Nat → Nat
  | 0 => 0
  | m + 1 => 5 * bnd m + 1
section
variable {P : Program} {w : World} {K : PySem.W.Frag} {mg : Str → Option Value} {base : Heap}
/-! ### count_from -/
abbrev st_cf : Stmt := top 30
theorem sc_cf : FnScope ["line", "done", "known", "person", "found"] ["line", "done", "known"] (defScope st_cf) := ⟨rfl, rfl, rfl, by decide +kernel, rfl, by decide +kernel, by decide +kernel⟩
/-- with m - 1 more people to be called -/
def sp_cf (P : Program) (w : World) (K : PySem.W.Frag) : Nat → Sp
  | 0 => fun _ _ _ _ => False
  | m + 1 => fun vs H Q _ => ∃ (a b d : Addr) (n : Nat) (ns ds : List Int) (ys : List Ent), vs = [.ref a, .ref b, .ref d] ∧ LineAt H a n ns ∧ n ≤ 5 ∧ SqT K H b (iV ds) ∧ Done n ds ∧ ds.length + m = n ∧ Memo P w K H d ys ∧ Fine ys ∧ ys.length + bnd m ≤ 10000 ∧
    ∀ H' zs, But d H H' → Memo P w K H' d zs → Fine zs → zs.length ≤ ys.length + bnd m → Q (.int (cfV ns ds)) H'
theorem cf_none {f : Addr} {fd : FuncData} : FnOk P w K mg base CX0 3 f fd ["line", "done", "known"] (sp_cf P w K 0) :=
  ⟨fun _ _ _ _ h => h.elim, fun _ _ _ _ _ _ _ _ _ _ _ _ _ h => h.elim⟩
theorem cf_step {m : Nat} {f f1 f2 : Addr} {fd d1 d2 : FuncData} (D : DefK K mg "count_from" st_cf ["line", "done", "known"] f fd) (T : Txt mg) (G : FnOk P w K mg base CX0 (m + 3) f fd ["line", "done", "known"] (sp_cf P w K m))
    (D1 : DefK K mg "callers_in" st_callers ["line"] f1 d1) (G1 : FnOk P w K mg base CX0 2 f1 d1 ["line"] sp_callers) (D2 : DefK K mg "call_in" st_call ["line", "person"] f2 d2) (G2 : FnOk P w K mg base CX0 2 f2 d2 ["line", "person"] sp_call) :
    FnOk P w K mg base CX0 (m + 4) f fd ["line", "done", "known"] (sp_cf P w K (m + 1)) := by
  refine D.F.ok sc_cf (fun vs H Q E h => ?_) (fun cdv A outer s H vs Q E hr h => ?_)
  · obtain ⟨a, b, d, n, ns, ds, ys, rfl, _⟩ := h
    rfl
  · obtain ⟨a, b, d, n, ns, ds, ys, rfl, hL, h5, hb, hD, hdn, hM, hF, hY, q⟩ := h
    have hlen := hL.l.len
    have hn8 := hL.hi
    refine ⟨_, pss_cons (ps_if (pt_val (pe_callB (cr_any rfl) (by rfl) T.any b_any (pa_cons (pe_lc (own := [("person", 3)]) (g := gName 3) (te := tOp (rIn K false) (tVar 3) (tVar 1)) (by rfl) sc_cf.nd (pi_list (pe_k G1 D1 (hr.mono (by omega)) (pa_cons (pv 0) pa_nil)))
        (blkOk_by (own := [("person", 3)]) (N := ["line", "done", "known", "person", "found"]) (sc := defScope st_cf) (by decide +kernel)) (fun _ _ _ _ _ => pg_name (i := 3) sc_cf.nd rfl (Or.inl rfl)) (fun _ _ _ _ _ => pts_nil)
        (fun _ _ _ _ _ => pe_cmpR op_in_seq (pv 3) (pv 1) (by rfl))) pa_nil))) (pss_one (ps_ret pe_int)) pss_nil)
      (pss_cons (ps_if (pt_cmpR op_eq (pe_callB call_len_seq (by rfl) T.len PySem.boot_len (pa_cons (pv 1) pa_nil)) (pe_callB call_len_seq (by rfl) T.len PySem.boot_len (pa_cons (pv 0) pa_nil)) (nomark _)) (pss_one (ps_ret pe_int)) pss_nil)
      (pss_cons (ps_if (pt_cmpR (op_memoNot hr.units) (pe_tup (pa_cons (pv 0) (pa_cons (pv 1) pa_nil))) (pv 2) (by rfl))
        (pss_cons (ps_set (i := 4) sc_cf.nd rfl (.inl rfl) pe_int)
        (pss_cons (ps_for PassesOwn.never rfl (pi_range1 (by rfl) T.range (pa_cons (pe_callB call_len_seq (by rfl) T.len PySem.boot_len (pa_cons (pv 0) pa_nil)) pa_nil)) (pg_name (i := 3) sc_cf.nd rfl (.inl rfl))
          (pss_one (ps_if (pt_cmpR op_notIn_seq (pv 3) (pv 1) (by rfl)) (pss_one (ps_aug (i := 4) sc_cf.nd rfl (.inl rfl) (pe_k G D hr (pa_cons (pe_k G2 D2 (hr.mono (by omega)) (pa_cons (pv 0) (pa_cons (pv 3) pa_nil)))
            (pa_cons (pe_callTy call_tupF (by rfl) T.ttup b_tup (pa_cons (pe_callB cr_sorted (by rfl) T.srt b_srt (pa_cons (pe_lst (StX.pa_star (pv 1) (pa_cons (pv 3) pa_nil))) pa_nil)) pa_nil)) (pa_cons (pv 2) pa_nil)))) ip_add)) pss_nil)))
        (pss_one (ps_asg (pv 4) (pg_sub (pv 2) (pe_tup (pa_cons (pv 0) (pa_cons (pv 1) pa_nil))) (set_memo hr.units)))))) pss_nil)
      (pss_one (ps_ret (pe_ix (ix_memo hr.units) (pv 2) (pe_tup (pa_cons (pv 0) (pa_cons (pv 1) pa_nil))) (fun _ _ => rfl)))))), ?_⟩
    -- the answer out of the memory, wherever it is asked
    have fromMemo : ∀ (H' : Hp) (zs : List Ent) (y3 y4 : Option V), But d H H' → Memo P w K H' d zs → Fine zs → zs.length ≤ ys.length + bnd m → (ns, ds) ∈ zs.map (·.1) →
        tRet (tOp (rMemoGet P w K) (tVar 2) (tTup (tCons (tVar 0) (tCons (tVar 1) tNil)))) { nx := fun _ H' => Q .non H', rt := Q } [some (.ref a), some (.ref b), some (.ref d), y3, y4] H' := by
      intro H' zs y3 y4 e hMz hFz hlz hmem
      obtain ⟨y, hy, ek⟩ := List.mem_map.mp hmem
      obtain ⟨t, ht⟩ := hFz y hy
      have hLz := But.line e hM.at_ hL
      have hbz := But.sqT e hM.at_ hb
      refine ⟨_, rfl, _, rfl, _, rfl, by show 2 ≤ sizeLine; decide, fun p hp => ?_⟩
      have e2 : Same H' (upd H' p (.tup [.ref a, .ref b])) := Same.new hp
      refine ⟨d, p, y.2.1, (ns, ds), zs, cfV ns ds, t, rfl, rfl, ⟨a, b, SqT.new, Same.sqT e2 hLz.t, Same.sqT e2 hbz⟩, hMz.same e2, ?_, ?_⟩
      · rw [ek] at ht
        have : y = ((ns, ds), y.2.1, Value.int (cfV ns ds) t) := by
          rw [← ek, ← ht]
        rw [← this]
        exact hy
      · exact q _ zs (e.trans (But.of e2)) (hMz.same e2) hFz hlz
    -- any(..)
    refine ⟨_, rfl, a, n, ns, rfl, hL, fun r H1 e1 _ hr1 => ?_⟩
    refine ⟨r, rfl, ⟨_, .inl (.inl hr1)⟩, fun L hLn => ?_⟩
    have hcl : (callersL ns).length ≤ 8 := by
      unfold callersL
      exact Nat.le_trans (List.length_filter_le _ _) (by rw [rangeI_length]; omega)
    refine lc_list (K := K) (a := r) (xs := iV (callersL ns)) (fun i H' => Same H1 H' ∧ H' L = some (.lst ((((callersL ns).take i).map fun p => ds.contains p).map V.bl))) ⟨Same.new hLn, upd_same⟩ (fun i H' _ ⟨e, _⟩ => .inl (.inl (e _ _ hr1))) ?_ ?_
    · rintro i x H2 hx ⟨e2, hL2⟩
      have hi : i < (callersL ns).length := by
        have := (List.getElem?_eq_some_iff.mp hx).1
        rwa [List.length_map] at this
      cases (iV_get hi).symm.trans hx
      refine ⟨rfl, ?_⟩
      refine ⟨_, rfl, _, rfl, b, iV ds, rfl, .inr (Same.sqT (e1.trans e2) hb), rfl, flat_iV _, _, hL2, ?_, Same.upL e2 hLn, ?_⟩
      · rw [List.length_map, List.length_map, List.length_take]
        exact sl_lt (by omega)
      · rw [upd_same, if_neg Bool.false_ne_true, inV_iV, pre_mem hi, List.map_append, List.map_append]
        rfl
    rintro H2 ⟨e2, hL2⟩
    rw [List.length_map, List.take_length] at hL2
    have e12 := e1.trans e2
    have hb2 := Same.sqT e12 hb
    have hLn2 := hL.same e12
    have hM2 := hM.same e12
    refine ⟨L, _, rfl, .inl (.inl hL2), _, rfl, ?_⟩
    rw [List.any_map]
    refine ite2 (fun c => ?_) (fun c => ?_)
    · -- return 0
      have hz := cfV_any (l := ns) (d := ds) c
      have := q H2 ys (But.of e12) hM2 hF (Nat.le_add_right _ _)
      rw [hz] at this
      exact this
    have hno : ¬ (callersL ns).any (fun p => ds.contains p) = true := c
    -- len(done) == len(line)
    refine ⟨_, rfl, b, iV ds, rfl, .inr hb2, _, rfl, a, iV ns, rfl, .inr hLn2.t, rfl, _, rfl, ite2 (fun c => ?_) (fun c => ?_)⟩
    · have ce : ds.length = ns.length := by
        have := V.int.inj (of_decide_eq_true c)
        rw [List.length_map, List.length_map] at this
        omega
      have := q H2 ys (But.of e12) hM2 hF (Nat.le_add_right _ _)
      rw [cfV_full hno ce] at this
      exact this
    have hne : ds.length ≠ n := fun z => c (by
      rw [List.length_map, List.length_map, hlen, z]
      exact decide_eq_true rfl)
    obtain ⟨m', rfl⟩ : ∃ m', m = m' + 1 := ⟨m - 1, by omega⟩
    have hB : bnd (m' + 1) = 5 * bnd m' + 1 := rfl
    -- (line, done) not in known
    refine ⟨_, rfl, _, rfl, by show 2 ≤ sizeLine; decide, fun p hp => ?_⟩
    have e3 : Same H2 (upd H2 p (.tup [.ref a, .ref b])) := Same.new hp
    refine ⟨_, rfl, p, d, (ns, ds), ys, rfl, rfl, ⟨a, b, SqT.new, Same.sqT e3 hLn2.t, Same.sqT e3 hb2⟩, hM2.same e3, _, rfl, ?_⟩
    have e123 := e12.trans e3
    by_cases hk : (ns, ds) ∈ ys.map (·.1)
    · rw [decide_eq_true hk]
      exact iteF (fromMemo _ ys none none (But.of e123) (hM.same e123) hF (Nat.le_add_right _ _) hk)
    rw [decide_eq_false hk]
    refine iteT ?_
    -- the loop over all people
    refine ⟨_, rfl, a, _, rfl, .inr (Same.sqT e3 hLn2.t), _, rfl, by rw [List.length_map]; omega, by rw [List.length_map]; omega, ?_⟩
    have eN : (((iV ns).length : Nat) : Int).toNat = n := by rw [List.length_map, hlen]; omega
    rw [eN]
    refine for_range (lo := 0) (n := n) (fun i σ H' => ∃ y3 zs, σ = [some (.ref a), some (.ref b), some (.ref d), y3, some (.int (sumTo n ns ds i))] ∧ But d H H' ∧ Memo P w K H' d zs ∧ Fine zs ∧ zs.length ≤ ys.length + i * bnd m')
      ⟨none, ys, rfl, But.of e123, hM.same e123, hF, by omega⟩ ?_ ?_
    · rintro i σ H3 hi ⟨y3, zs, rfl, e4, hM3, hF3, hl3⟩
      have ez : (0 : Int) + (i : Int) = (i : Int) := Int.zero_add _
      rw [ez]
      have hL3 := But.line e4 hM.at_ hL
      have hb3 := But.sqT e4 hM.at_ hb
      have hib : i * bnd m' ≤ 5 * bnd m' := Nat.mul_le_mul_right _ (by omega)
      have hib1 : (i + 1) * bnd m' = i * bnd m' + bnd m' := Nat.succ_mul _ _
      have hib2 : (i + 1) * bnd m' ≤ 5 * bnd m' := Nat.mul_le_mul_right _ (by omega)
      have hst := sumTo_step (l := ns) (d := ds) hi
      refine ⟨_, rfl, _, rfl, b, iV ds, rfl, .inr hb3, rfl, flat_iV _, _, rfl, ?_⟩
      rw [if_pos rfl, inV_iV]
      by_cases hc : ds.contains (i : Int) = true
      · rw [hc]
        rw [if_pos hc, Int.add_zero] at hst
        refine iteF ?_
        exact ⟨_, zs, by rw [hst]; rfl, e4, hM3, hF3, by omega⟩
      · have hc' : ds.contains (i : Int) = false := by simpa using hc
        rw [hc']
        rw [if_neg hc] at hst
        have hfit : (i : Int) ∈ fit n ds := mem_fit.mpr ⟨⟨by omega, by omega⟩, by simpa using hc'⟩
        refine iteT ⟨_, rfl, ?_⟩
        -- call_in(line, person)
        refine ⟨_, rfl, _, rfl, a, n, ns, i, rfl, hL3, ⟨by omega, by omega⟩, fun r1 H4 e5 hr1 => ?_⟩
        -- tuple(sorted([*done, person]))
        refine ⟨_, rfl, b, iV ds, rfl, .inl (Same.sqT e5 hb3), _, rfl, ?_, fun p1 hp1 => ?_⟩
        · rw [List.length_append, List.length_map]
          exact sl_small (by show ds.length + 1 ≤ 10000; omega)
        have ei : iV ds ++ [V.int (i : Int)] = iV (ds ++ [(i : Int)]) := by unfold iV; rw [List.map_append]; rfl
        refine ⟨p1, ds ++ [(i : Int)], rfl, .inl (.inl (by rw [upd_same, ei])), by rw [List.length_append]; show ds.length + 1 < 64; omega, fun ms p2 hp2 hs2 np2 => ?_⟩
        refine ⟨p2, _, rfl, .inl (.inl upd_same), fun r2 H5 e6 hr2 => ?_⟩
        have hms := put_unique hp2 hs2
        subst hms
        have e45 : Same H3 H5 := e5.trans ((Same.new hp1).trans ((Same.new np2).trans e6))
        have e56 : Same H4 H5 := (Same.new hp1).trans ((Same.new np2).trans e6)
        refine ⟨_, rfl, r1, r2, d, n, _, _, zs, rfl, hr1.same e56, h5, SqF.t hr2, hD.put hfit, by rw [put_len]; omega, hM3.same e45, hF3, by omega, fun H6 us e7 hM6 hF6 hl6 => ?_⟩
        refine ⟨_, _, rfl, rfl, _, us, by rw [hst]; rfl, (e4.trans (But.of e45)).trans e7, hM6, hF6, by omega⟩
    · rintro σ H3 ⟨y3, zs, rfl, e4, hM3, hF3, hl3⟩
      have hL3 := But.line e4 hM.at_ hL
      have hb3 := But.sqT e4 hM.at_ hb
      have hib : n * bnd m' ≤ 5 * bnd m' := Nat.mul_le_mul_right _ h5
      have hsum := cfV_sum hL.l hD hdn (by omega) hno
      rw [← hsum]
      refine ⟨_, rfl, _, rfl, _, rfl, _, rfl, by show 2 ≤ sizeLine; decide, fun p1 hp1 => ?_⟩
      have e5 : Same H3 (upd H3 p1 (.tup [.ref a, .ref b])) := Same.new hp1
      refine ⟨d, p1, (ns, ds), zs, cfV ns ds, rfl, rfl, rfl, ⟨a, b, SqT.new, Same.sqT e5 hL3.t, Same.sqT e5 hb3⟩, hM3.same e5, sl_small (by omega), fun t H4 hM4 hb4 => ?_⟩
      have e6 : But d (upd H3 p1 (.tup [.ref a, .ref b])) H4 := fun b' o hne' he => by rw [hb4 b' hne']; exact he
      have hpl := putY_length zs (ns, ds) p1 (.int (cfV ns ds) t)
      refine fromMemo H4 _ _ _ ((e4.trans (But.of e5)).trans e6) hM4 hF3.put (by omega) ?_
      obtain ⟨qa, hqa⟩ := putY_has zs (ns, ds) p1 (.int (cfV ns ds) t)
      exact List.mem_map.mpr ⟨_, hqa, rfl⟩
end
end Ov
set_option Elab.async false
set_option linter.all false
set_option maxRecDepth 100000
set_option maxHeartbeats 4000000
namespace Ov
open PySem PySem.Spec PyProof.Rows L2
section
variable {P : Program} {w : World} {K : PySem.W.Frag} {mg : Str → Option Value} {base : Heap}
/-! ### count_from at all depths; count_sorting -/
def sp_cfAny (P : Program) (w : World) (K : PySem.W.Frag) : Sp := fun vs H Q E => ∃ m, m ≤ 6 ∧ sp_cf P w K m vs H Q E
theorem cf_all {f f1 f2 : Addr} {fd d1 d2 : FuncData} (D : DefK K mg "count_from" st_cf ["line", "done", "known"] f fd) (T : Txt mg)
    (D1 : DefK K mg "callers_in" st_callers ["line"] f1 d1) (G1 : FnOk P w K mg base CX0 2 f1 d1 ["line"] sp_callers) (D2 : DefK K mg "call_in" st_call ["line", "person"] f2 d2) (G2 : FnOk P w K mg base CX0 2 f2 d2 ["line", "person"] sp_call) :
    FnOk P w K mg base CX0 9 f fd ["line", "done", "known"] (sp_cfAny P w K) := by
  have go : ∀ m, FnOk P w K mg base CX0 (m + 3) f fd ["line", "done", "known"] (sp_cf P w K m) := fun m => by
    induction m with
    | zero => exact cf_none
    | succ m ih => exact cf_step D T ih D1 G1 D2 G2
  refine ⟨fun vs H Q E ⟨m, _, h⟩ => (go m).len vs H Q E h, fun A outer s H args us vs Q E hr e0 hb hv ⟨m, hm, h⟩ => ?_⟩
  exact (go m).run A outer s H args us vs Q E (hr.mono (by omega)) e0 hb hv h
abbrev st_cs : Stmt := top 29
theorem sc_cs : FnScope ["line"] ["line"] (defScope st_cs) := ⟨rfl, rfl, rfl, by decide +kernel, rfl, by decide +kernel, by decide +kernel⟩
def sp_cs : Sp := fun vs H Q _ => ∃ (a : Addr) (n : Nat) (ns : List Int), vs = [.ref a] ∧ LineAt H a n ns ∧ n ≤ 5 ∧ ∀ H', Same H H' → Q (.int ((leftN n ns).count 0 : Nat)) H'
theorem bnd_le : ∀ n, n ≤ 5 → bnd n ≤ 10000
  | 0, _ => by decide
  | 1, _ => by decide
  | 2, _ => by decide
  | 3, _ => by decide
  | 4, _ => by decide
  | 5, _ => by decide
  | _ + 6, h => by omega
theorem ok_cs {f f1 f2 : Addr} {fd d1 d2 : FuncData} (D : DefK K mg "count_sorting" st_cs ["line"] f fd) (D1 : DefK K mg "need_line" st_needLine ["line"] f1 d1) (G1 : FnOk P w K mg base CX0 3 f1 d1 ["line"] sp_needLine)
    (D2 : DefK K mg "count_from" st_cf ["line", "done", "known"] f2 d2) (G2 : FnOk P w K mg base CX0 9 f2 d2 ["line", "done", "known"] (sp_cfAny P w K)) : FnOk P w K mg base CX0 10 f fd ["line"] sp_cs := by
  refine D.F.ok sc_cs (fun vs H Q E h => ?_) (fun cdv A outer s H vs Q E hr h => ?_)
  · obtain ⟨a, n, ns, rfl, _⟩ := h
    rfl
  · obtain ⟨a, n, ns, rfl, hL, h5, q⟩ := h
    refine ⟨_, pss_cons (ps_expr (pe_k G1 D1 (hr.mono (by decide)) (pa_cons (pv 0) pa_nil))) (pss_one (ps_ret (pe_k G2 D2 hr (pa_cons (pv 0) (pa_cons (pe_tup pa_nil) (pa_cons pe_memoNew pa_nil)))))), ?_⟩
    refine ⟨_, rfl, a, n, ns, rfl, hL, fun H1 e1 => ?_⟩
    refine ⟨_, rfl, Nat.zero_le _, fun p hp => fun d hd => ?_⟩
    have e2 : Same H1 (upd H1 p (.tup [])) := Same.new hp
    have e3 := e2.trans (Same.new (o := memoO P w d []) hd)
    have hdn : Done n [] := ⟨List.nodup_nil, fun p h => nomatch h⟩
    refine ⟨n + 1, by omega, a, p, d, n, ns, [], [], rfl, hL.same (e1.trans e3), h5, Same.sqT (Same.new hd) SqT.new, hdn, by simp, Memo.new, (fun y h => nomatch h), by have := bnd_le n h5; simpa using this, fun H' zs hb _ _ _ => ?_⟩
    have e4 : Same H H' := fun b o e => by
      have e' := (e1.trans e3) b o e
      refine hb b o (fun z => ?_) e'
      have := (e1.trans e2) b o e
      rw [z, hd] at this
      cases this
    have hv := q H' e4
    rw [← cf_count hL.l, cf_any (m := n) hL.l hdn (by simp) (by omega) (Nat.le_refl _)] at hv
    exact hv
/-! ### _law_taken -/
abbrev st_taken : Stmt := top 35
theorem sc_taken : FnScope ["_law_row", "_law_many", "_law_found", "_law_cell"] ["_law_row", "_law_many"] (defScope st_taken) := ⟨rfl, rfl, rfl, by decide +kernel, rfl, by decide +kernel, by decide +kernel⟩
/-- the drawing row at R: the script, how many cells were read, the mixed number, a great cell's rest -/
def RowC (H : Hp) (R sa : Addr) : Prop := ∃ i s c : Int, H R = some (.lst [.ref sa, .int i, .int s, .int c]) ∧ 0 ≤ i ∧ 0 ≤ s ∧ s < 2147483647
/-- the script stands at sa, apart from R (or in the written part) -/
def Scr (K : PySem.W.Frag) (H : Hp) (sa R : Addr) : Prop := ∃ ns, (Rd H sa (.lst (iV ns)) ∧ sa ≠ R) ∨ ∃ (o : Obj) (its : Array Value) (n : Nat), K.lookup sa = some o ∧ o.cls = .type "list" ∧ o.dict = none ∧ o.data = .seq its n ∧ its.size ≤ sizeLine ∧ Vals (iV ns) its.toList
def Row (K : PySem.W.Frag) (H : Hp) (R sa : Addr) : Prop := RowC H R sa ∧ Scr K H sa R
theorem Scr.but {H H' : Hp} {R sa : Addr} (h : Scr K H sa R) (e : But R H H') : Scr K H' sa R := by
  obtain ⟨ns, ⟨h | ⟨u, h⟩, hne⟩ | h⟩ := h
  · exact ⟨ns, .inl ⟨.inl (e _ _ hne h), hne⟩⟩
  · exact ⟨ns, .inl ⟨.inr ⟨u, e _ _ hne h⟩, hne⟩⟩
  · exact ⟨ns, .inr h⟩
theorem Scr.sq {H : Hp} {R sa : Addr} (h : Scr K H sa R) : ∃ ns, SqL K H sa (iV ns) := by
  obtain ⟨ns, ⟨h, _⟩ | h⟩ := h
  · exact ⟨ns, .inl h⟩
  · exact ⟨ns, .inr h⟩
theorem RowC.same {H H' : Hp} {R sa : Addr} (h : RowC H R sa) (e : Same H H') : RowC H' R sa :=
  let ⟨i, s, c, h1, h2⟩ := h
  ⟨i, s, c, e _ _ h1, h2⟩
theorem RowC.up {H : Hp} {R sa L : Addr} {o : HO} (h : RowC H R sa) (hne : R ≠ L) : RowC (upd H L o) R sa :=
  let ⟨i, s, c, h1, h2⟩ := h
  ⟨i, s, c, by rw [upd_ne hne]; exact h1, h2⟩
theorem sqL_upd {H : Hp} {a R : Addr} {xs : List V} {o : HO} (h : SqL K H a xs) (hne : a ≠ R) : SqL K (upd H R o) a xs := by
  rcases h with (h | ⟨u, h⟩) | h
  · exact .inl (.inl (by rw [upd_ne hne]; exact h))
  · exact .inl (.inr ⟨u, by rw [upd_ne hne]; exact h⟩)
  · exact .inr h
theorem But.up {d : Addr} {H : Hp} {o : HO} : But d H (upd H d o) := fun b x hb e => by rw [upd_ne hb]; exact e
def sp_taken (K : PySem.W.Frag) : Sp := fun vs H Q _ => ∃ (R sa : Addr) (k : Nat), vs = [.ref R, .int k] ∧ Row K H R sa ∧ 1 ≤ k ∧ k ≤ 8 ∧ ∀ (v : Nat) H', v < k → But R H H' → Row K H' R sa → Q (.int v) H'
theorem mod_nat (i : Int) (k : Nat) (h : 1 ≤ k) : ∃ v : Nat, v < k ∧ i.fmod (k : Int) = (v : Int) := by
  have h0 := Int.fmod_nonneg_of_pos i (show (0 : Int) < (k : Int) by omega)
  have h1 := Int.fmod_lt_of_pos i (show (0 : Int) < (k : Int) by omega)
  exact ⟨(i.fmod (k : Int)).toNat, by omega, by omega⟩
theorem ok_taken {f : Addr} {fd : FuncData} (D : DefK K mg "_law_taken" st_taken ["_law_row", "_law_many"] f fd) (T : Txt mg) : FnOk P w K mg base CX0 1 f fd ["_law_row", "_law_many"] (sp_taken K) := by
  refine D.F.ok sc_taken (fun vs H Q E h => ?_) (fun cdv A outer s H vs Q E hr h => ?_)
  · obtain ⟨R, sa, k, rfl, _⟩ := h
    rfl
  · obtain ⟨R, sa, k, rfl, ⟨⟨i, sd, c, hR, hi, hs0, hs1⟩, hScr⟩, hk1, hk8, q⟩ := h
    refine ⟨_, pss_cons (ps_if (pt_cmpR op_gt (pe_ix ix_list (pv 0) pe_int (fun _ _ => rfl)) pe_int (nomark _))
        (pss_cons (ps_set (i := 2) sc_taken.nd rfl (.inl rfl) (pe_op op_modN (pe_callTy call_int1 (by rfl) T.tint b_int (pa_cons (pe_ix ix_list (pv 0) pe_int (fun _ _ => rfl)) pa_nil)) (pv 1)))
        (pss_cons (ps_asg (pe_op op_fdivN (pe_ix ix_list (pv 0) pe_int (fun _ _ => rfl)) (pv 1)) (pg_sub (pv 0) pe_int set_list))
        (pss_one (ps_ret (pv 2))))) pss_nil)
      (pss_cons (ps_asg (pe_op op_add (pe_ix ix_list (pv 0) pe_int (fun _ _ => rfl)) pe_int) (pg_sub (pv 0) pe_int set_list))
      (pss_cons (ps_if (pt_cmpR op_gt (pe_ix ix_list (pv 0) pe_int (fun _ _ => rfl)) (pe_callB call_len_seq (by rfl) T.len PySem.boot_len (pa_cons (pe_ix ix_list (pv 0) pe_int (fun _ _ => rfl)) pa_nil)) (nomark _))
        (pss_cons (ps_asg (pe_op op_modN (pe_callTy call_int1 (by rfl) T.tint b_int (pa_cons (pe_op op_add (pe_op op_mul (pe_ix ix_list (pv 0) pe_int (fun _ _ => rfl)) pe_int) pe_int) pa_nil)) pe_int) (pg_sub (pv 0) pe_int set_list))
        (pss_one (ps_ret (pe_op op_modN (pe_callTy call_int1 (by rfl) T.tint b_int (pa_cons (pe_op op_fdivN (pe_ix ix_list (pv 0) pe_int (fun _ _ => rfl)) pe_int) pa_nil)) (pv 1))))) pss_nil)
      (pss_cons (ps_set (i := 3) sc_taken.nd rfl (.inl rfl) (pe_ix ix_list (pe_ix ix_list (pv 0) pe_int (fun _ _ => rfl)) (pe_op op_sub (pe_ix ix_list (pv 0) pe_int (fun _ _ => rfl)) pe_int) (fun _ _ => rfl)))
      (pss_cons (ps_asg (pe_op op_modN (pe_callTy call_int1 (by rfl) T.tint b_int (pa_cons (pe_op op_add (pe_op op_add (pe_op op_mul (pe_ix ix_list (pv 0) pe_int (fun _ _ => rfl)) pe_int) (pv 3)) pe_int) pa_nil)) pe_int) (pg_sub (pv 0) pe_int set_list))
      (pss_cons (ps_if (pt_cmpR op_ge (pv 3) (pe_op op_pow pe_int pe_int) (nomark _)) (pss_one (ps_asg (pe_op op_fdivN (pv 3) (pv 1)) (pg_sub (pv 0) pe_int set_list))) pss_nil)
      (pss_one (ps_ret (pe_op op_modN (pe_callTy call_int1 (by rfl) T.tint b_int (pa_cons (pv 3) pa_nil)) (pv 1))))))))), ?_⟩
    refine ⟨_, rfl, R, _, 3, .int c, rfl, rfl, .inl (.inl hR), at_of (j := 3) rfl rfl, _, _, rfl, rfl, _, rfl, ite2 (fun _ => ?_) (fun _ => ?_)⟩
    · -- the rest of a great cell
      obtain ⟨v, hv, ev⟩ := mod_nat c k hk1
      refine ⟨_, rfl, R, _, 3, .int c, rfl, rfl, .inl (.inl hR), at_of (j := 3) rfl rfl, .inl ⟨c, rfl, _, rfl, _, _, rfl, rfl, by omega, ?_⟩⟩
      refine ⟨_, rfl, R, _, 3, .int c, rfl, rfl, .inl (.inl hR), at_of (j := 3) rfl rfl, _, rfl, _, _, rfl, rfl, ⟨by omega, by omega⟩, ?_⟩
      refine ⟨_, rfl, R, _, 3, 3, rfl, rfl, hR, rfl, ?_⟩
      have hq := q v _ hv But.up ⟨⟨i, sd, c.fdiv k, upd_same, hi, hs0, hs1⟩, hScr.but But.up⟩
      rw [← ev] at hq
      exact ⟨_, rfl, hq⟩
    · -- the next cell
      refine ⟨_, rfl, R, _, 1, .int i, rfl, rfl, .inl (.inl hR), at_of (j := 1) rfl rfl, _, _, rfl, rfl, ?_⟩
      refine ⟨_, rfl, R, _, 1, 1, rfl, rfl, hR, rfl, ?_⟩
      have b1 : But R H (upd H R (.lst [.ref sa, .int (i + 1), .int sd, .int c])) := But.up
      obtain ⟨ns, hS1⟩ := (hScr.but b1).sq
      have hR1 : (upd H R (.lst [.ref sa, .int (i + 1), .int sd, .int c])) R = some (.lst [.ref sa, .int (i + 1), .int sd, .int c]) := upd_same
      refine ⟨_, rfl, R, _, 1, .int (i + 1), rfl, rfl, .inl (.inl hR1), at_of (j := 1) rfl rfl, _, rfl, R, _, 0, .ref sa, rfl, rfl, .inl (.inl hR1), at_of (j := 0) rfl rfl, sa, _, rfl, .inl hS1, _, _, rfl, rfl, _, rfl, ite2 (fun _ => ?_) (fun c1 => ?_)⟩
      · -- no cell is left
        have m0 := Int.fmod_nonneg_of_pos (sd * 48271 + 11) (show (0 : Int) < 2147483647 by decide)
        have m1 := Int.fmod_lt_of_pos (sd * 48271 + 11) (show (0 : Int) < 2147483647 by decide)
        obtain ⟨v, hv, ev⟩ := mod_nat (Int.fdiv (Int.fmod (sd * 48271 + 11) 2147483647) 7) k hk1
        refine ⟨_, rfl, R, _, 2, .int sd, rfl, rfl, .inl (.inl hR1), at_of (j := 2) rfl rfl, _, _, rfl, rfl, .inl ⟨by omega, by omega⟩, _, _, rfl, rfl, .inl ⟨_, rfl, _, _, rfl, rfl, (by show (2147483647 : Int) ≠ 0; decide), ?_⟩⟩
        refine ⟨_, rfl, R, _, 2, 2, rfl, rfl, hR1, rfl, ?_⟩
        have hR2 : (upd (upd H R (.lst [.ref sa, .int (i + 1), .int sd, .int c])) R (.lst [.ref sa, .int (i + 1), .int (Int.fmod (sd * 48271 + 11) 2147483647), .int c])) R = some (.lst [.ref sa, .int (i + 1), .int (Int.fmod (sd * 48271 + 11) 2147483647), .int c]) := upd_same
        refine ⟨_, rfl, R, _, 2, .int (Int.fmod (sd * 48271 + 11) 2147483647), rfl, rfl, .inl (.inl hR2), at_of (j := 2) rfl rfl, _, _, rfl, rfl, ⟨by decide, by decide⟩, .inl ⟨_, rfl, _, rfl, _, _, rfl, rfl, by omega, ?_⟩⟩
        have hq := q v _ hv (b1.trans But.up) ⟨⟨i + 1, _, c, hR2, by omega, m0, m1⟩, hScr.but (b1.trans But.up)⟩
        rw [← ev] at hq
        exact hq
      · -- a cell
        have c2 : ¬ ((iV ns).length : Int) < i + 1 := of_decide_eq_false (Bool.eq_false_iff.mpr c1)
        rw [List.length_map] at c2
        have hil : i.toNat < ns.length := by omega
        obtain ⟨cell, hcell⟩ : ∃ cell, (iV ns)[i.toNat]? = some (.int cell) := ⟨_, iV_get hil⟩
        have m0 := Int.fmod_nonneg_of_pos (sd * 48271 + cell + 11) (show (0 : Int) < 2147483647 by decide)
        have m1 := Int.fmod_lt_of_pos (sd * 48271 + cell + 11) (show (0 : Int) < 2147483647 by decide)
        obtain ⟨v, hv, ev⟩ := mod_nat cell k hk1
        refine ⟨_, rfl, R, _, 0, .ref sa, rfl, rfl, .inl (.inl hR1), at_of (j := 0) rfl rfl, _, rfl, R, _, 1, .int (i + 1), rfl, rfl, .inl (.inl hR1), at_of (j := 1) rfl rfl, _, _, rfl, rfl, sa, iV ns, _, .int cell, rfl, rfl, hS1, at_of (j := i.toNat) (show i + 1 - 1 = ((i.toNat : Nat) : Int) by omega) hcell, ?_⟩
        refine ⟨_, rfl, R, _, 2, .int sd, rfl, rfl, .inl (.inl hR1), at_of (j := 2) rfl rfl, _, _, rfl, rfl, .inl ⟨by omega, by omega⟩, _, rfl, _, _, rfl, rfl, _, _, rfl, rfl, .inl ⟨_, rfl, _, _, rfl, rfl, (by show (2147483647 : Int) ≠ 0; decide), ?_⟩⟩
        refine ⟨_, rfl, R, _, 2, 2, rfl, rfl, hR1, rfl, ?_⟩
        have hR2 : (upd (upd H R (.lst [.ref sa, .int (i + 1), .int sd, .int c])) R (.lst [.ref sa, .int (i + 1), .int (Int.fmod (sd * 48271 + cell + 11) 2147483647), .int c])) R = some (.lst [.ref sa, .int (i + 1), .int (Int.fmod (sd * 48271 + cell + 11) 2147483647), .int c]) := upd_same
        have b2 : But R (upd H R (.lst [.ref sa, .int (i + 1), .int sd, .int c])) (upd (upd H R (.lst [.ref sa, .int (i + 1), .int sd, .int c])) R (.lst [.ref sa, .int (i + 1), .int (Int.fmod (sd * 48271 + cell + 11) 2147483647), .int c])) := But.up
        refine ⟨_, rfl, _, _, rfl, rfl, ⟨by decide, by decide, by decide⟩, _, _, rfl, rfl, _, rfl, ite2 (fun _ => ?_) (fun _ => ?_)⟩
        · refine ⟨_, rfl, _, rfl, _, _, rfl, rfl, ⟨by omega, by omega⟩, ?_⟩
          refine ⟨_, rfl, R, _, 3, 3, rfl, rfl, hR2, rfl, ?_⟩
          refine ⟨_, rfl, .inl ⟨_, rfl, _, rfl, _, _, rfl, rfl, by omega, ?_⟩⟩
          have hq := q v _ hv ((b1.trans b2).trans But.up) ⟨⟨i + 1, _, cell.fdiv k, upd_same, by omega, m0, m1⟩, hScr.but ((b1.trans b2).trans But.up)⟩
          rw [← ev] at hq
          exact hq
        · refine ⟨_, rfl, .inl ⟨_, rfl, _, rfl, _, _, rfl, rfl, by omega, ?_⟩⟩
          have hq := q v _ hv (b1.trans But.up) ⟨⟨i + 1, _, c, hR2, by omega, m0, m1⟩, hScr.but (b1.trans But.up)⟩
          rw [← ev] at hq
          exact hq
end
end Ov
set_option Elab.async false
set_option linter.all false
set_option maxRecDepth 100000
set_option maxHeartbeats 4000000
namespace Ov
open PySem PySem.Spec PyProof.Rows L2
/-- equal data, so deep at most -/
def Eqv (K : PySem.W.Frag) : Nat → Hp → V → V → Prop
  | 0 => fun _ x y => ∃ i : Int, x = .int i ∧ y = .int i
  | m + 1 => fun H x y => (∃ i : Int, x = .int i ∧ y = .int i) ∨ ∃ (a b : Addr) (xs ys : List V), x = .ref a ∧ y = .ref b ∧ SqT K H a xs ∧ SqT K H b ys ∧ xs.length = ys.length ∧ xs.length ≤ 100 ∧ ∀ (j : Nat) (u v : V), xs[j]? = some u → ys[j]? = some v → Eqv K m H u v
theorem Eqv.same {K : PySem.W.Frag} : ∀ {m : Nat} {H H' : Hp} {x y : V}, Eqv K m H x y → Same H H' → Eqv K m H' x y
  | 0, _, _, _, _, h, _ => h
  | m + 1, _, _, _, _, .inl h, _ => .inl h
  | m + 1, _, _, _, _, .inr ⟨a, b, xs, ys, h1, h2, h3, h4, h5, h6, h7⟩, e => .inr ⟨a, b, xs, ys, h1, h2, Same.sqT e h3, Same.sqT e h4, h5, h6, fun j u v hu hv => (h7 j u v hu hv).same e⟩
theorem Eqv.cases {K : PySem.W.Frag} {m : Nat} {H : Hp} {x y : V} (h : Eqv K m H x y) : (∃ i : Int, x = .int i ∧ y = .int i) ∨ ∃ m', m = m' + 1 ∧ ∃ (a b : Addr) (xs ys : List V), x = .ref a ∧ y = .ref b ∧ SqT K H a xs ∧ SqT K H b ys ∧ xs.length = ys.length ∧ xs.length ≤ 100 ∧ ∀ (j : Nat) (u v : V), xs[j]? = some u → ys[j]? = some v → Eqv K m' H u v := by
  cases m with
  | zero => exact .inl h
  | succ m =>
    rcases h with h | h
    · exact .inl h
    · exact .inr ⟨m, rfl, h⟩
section
variable {P : Program} {w : World} {K : PySem.W.Frag} {mg : Str → Option Value} {base : Heap}
/-! ### _law_alike -/
abbrev st_alike : Stmt := top 36
theorem sc_alike : FnScope ["_law_found", "_law_due", "_law_k"] ["_law_found", "_law_due"] (defScope st_alike) := ⟨rfl, rfl, rfl, by decide +kernel, rfl, by decide +kernel, by decide +kernel⟩
def sp_alike (K : PySem.W.Frag) : Nat → Sp
  | 0 => fun _ _ _ _ => False
  | m + 1 => fun vs H Q _ => ∃ x y : V, vs = [x, y] ∧ Eqv K m H x y ∧ ∀ H', Same H H' → Q (.bl true) H'
theorem alike_none {f : Addr} {fd : FuncData} : FnOk P w K mg base CX0 0 f fd ["_law_found", "_law_due"] (sp_alike K 0) :=
  ⟨fun _ _ _ _ h => h.elim, fun _ _ _ _ _ _ _ _ _ _ _ _ _ h => h.elim⟩
theorem kit2 {t : String} {b1 b2 : Bool} {c1 c2 : String} (h1 : kitB t c1 = some b1) (h2 : kitB t c2 = some b2) : PySem.W.kitAny K (.type t) [.type c1, .type c2] = some (b1 || b2) :=
  kitAny_cons (kit_ty h1) (fun e => by
    subst e
    exact kitAny_cons (kit_ty h2) (fun e => by subst e; exact kitAny_nil) (fun e => by subst e; rfl)) (fun e => by subst e; rfl)
theorem alike_step {m : Nat} {f : Addr} {fd : FuncData} (D : DefK K mg "_law_alike" st_alike ["_law_found", "_law_due"] f fd) (T : Txt mg) (G : FnOk P w K mg base CX0 m f fd ["_law_found", "_law_due"] (sp_alike K m)) :
    FnOk P w K mg base CX0 (m + 1) f fd ["_law_found", "_law_due"] (sp_alike K (m + 1)) := by
  refine D.F.ok sc_alike (fun vs H Q E h => ?_) (fun cdv A outer s H vs Q E hr h => ?_)
  · obtain ⟨x, y, rfl, _⟩ := h
    rfl
  · obtain ⟨x, y, rfl, he, q⟩ := h
    refine ⟨_, pss_cons (ps_if (pt_val (pe_callB call_isiT (by rfl) T.isi b_isi (pa_cons (pv 1) (pa_cons (pe_tup (pa_cons (pe_ty b_tup T.ttup) (pa_cons (pe_ty b_list T.tlist) pa_nil))) pa_nil))))
        (pss_cons (ps_if (PW.pt (pw_or (pt_not (pt_val (pe_callB call_isiT (by rfl) T.isi b_isi (pa_cons (pv 0) (pa_cons (pe_tup (pa_cons (pe_ty b_tup T.ttup) (pa_cons (pe_ty b_list T.tlist) pa_nil))) pa_nil)))))
          (pw_or1 (pt_cmpR op_ne (pe_callB call_isi (by rfl) T.isi b_isi (pa_cons (pv 0) (pa_cons (pe_ty b_list T.tlist) pa_nil))) (pe_callB call_isi (by rfl) T.isi b_isi (pa_cons (pv 1) (pa_cons (pe_ty b_list T.tlist) pa_nil))) (nomark _))))) (pss_one ps_never) pss_nil)
        (pss_cons (ps_if (pt_cmpR op_ne (pe_callB call_len_seq (by rfl) T.len PySem.boot_len (pa_cons (pv 0) pa_nil)) (pe_callB call_len_seq (by rfl) T.len PySem.boot_len (pa_cons (pv 1) pa_nil)) (nomark _)) (pss_one ps_never) pss_nil)
        (pss_one (ps_ret (pe_cmpR (op_eqD hr.units) (pe_lc (own := [("_law_k", 2)]) (g := gName 2) (tt := tNot (tB (tCall (sp_alike K m) [] E0 (tCons (tOp (rIxT K) (tVar 0) (tVar 2)) (tCons (tOp (rIxT K) (tVar 1) (tVar 2)) tNil))))) (by rfl) sc_alike.nd
          (pi_range1 (by rfl) T.range (pa_cons (pe_callB call_len_seq (by rfl) T.len PySem.boot_len (pa_cons (pv 1) pa_nil)) pa_nil))
          (blkOk_by (own := [("_law_k", 2)]) (N := ["_law_found", "_law_due", "_law_k"]) (sc := defScope st_alike) (by decide +kernel)) (fun _ _ _ _ _ => pg_name (i := 2) sc_alike.nd rfl (Or.inl rfl))
          (fun _ _ _ _ _ => pts_one (pt_not (pt_val (pe_k G D hr (pa_cons (pe_ix ix_tup (pv 0) (pv 2) (fun _ _ => rfl)) (pa_cons (pe_ix ix_tup (pv 1) (pv 2) (fun _ _ => rfl)) pa_nil)))))) (fun _ _ _ _ _ => pv 2)) (pe_lst pa_nil) (nomark _)))))) pss_nil)
      (pss_cons (ps_if (PW.pt (pw_or (pt_cmpR op_isN (pv 1) pe_non (nomark _)) (pw_or1 (pt_val (pe_callB call_isi (by rfl) T.isi b_isi (pa_cons (pv 1) (pa_cons (pe_ty b_str T.tstr) pa_nil))))))) (pss_one ps_never) pss_nil)
      (pss_one (ps_ret (pe_and (pe_callB call_isi (by rfl) T.isi b_isi (pa_cons (pv 0) (pa_cons (pe_ty b_int T.tint) pa_nil)))
        (pe_and (pe_cmpR op_eq (pe_callB call_isi (by rfl) T.isi b_isi (pa_cons (pv 0) (pa_cons (pe_ty b_bool T.tbool) pa_nil))) (pe_callB call_isi (by rfl) T.isi b_isi (pa_cons (pv 1) (pa_cons (pe_ty b_bool T.tbool) pa_nil))) (nomark _))
        (pe_one (pe_cmpR op_eq (pv 0) (pv 1) (nomark _)))))))), ?_⟩
    have tl : PySem.W.kitAny K (.type "tuple") [.type "tuple", .type "list"] = some true := kit2 (b1 := true) (b2 := false) (by decide +kernel) (by decide +kernel)
    have il : PySem.W.kitAny K (.type "int") [.type "tuple", .type "list"] = some false := kit2 (b1 := false) (b2 := false) (by decide +kernel) (by decide +kernel)
    have cls : Paired ClsV [V.ty "tuple", V.ty "list"] [Value.type "tuple", Value.type "list"] := .cons (.ty _) (.cons (.ty _) .nil)
    refine ⟨_, rfl, by show 2 ≤ sizeLine; decide, fun p hp => ?_⟩
    have e1 : Same H (upd H p (.tup [V.ty "tuple", V.ty "list"])) := Same.new hp
    rcases he.cases with ⟨i, rfl, rfl⟩ | ⟨m', rfl, a, b, xs, ys, rfl, rfl, ha, hb, hxy, h100, hall⟩
    · refine ⟨.int i, p, _, .type "int", _, false, rfl, upd_same, cls, .base (.int i), il, false, rfl, iteF ?_⟩
      refine ⟨_, rfl, rfl, _, rfl, iteF ⟨_, rfl, .int i, .ty "str", .type "int", .type "str", false, rfl, .ty _, .base (.int i), kit_ty (by decide +kernel), false, rfl, iteF ?_⟩⟩
      refine ⟨_, rfl, .int i, .ty "int", .type "int", .type "int", true, rfl, .ty _, .base (.int i), kit_ty (by decide +kernel), true, rfl, iteT ?_⟩
      refine ⟨_, rfl, .int i, .ty "bool", .type "int", .type "bool", false, rfl, .ty _, .base (.int i), kit_ty (by decide +kernel), _, rfl, .int i, .ty "bool", .type "int", .type "bool", false, rfl, .ty _, .base (.int i), kit_ty (by decide +kernel), rfl, true, rfl, iteT ?_⟩
      refine ⟨_, rfl, _, rfl, rfl, ?_⟩
      rw [decide_eq_true rfl]
      exact q _ e1
    · have ha1 := Same.sqT e1 ha
      have hb1 := Same.sqT e1 hb
      refine ⟨.ref b, p, _, .type "tuple", _, true, rfl, upd_same, cls, SqT.is hb1, tl, true, rfl, iteT ?_⟩
      refine ⟨_, rfl, by show 2 ≤ sizeLine; decide, fun p2 hp2 => ?_⟩
      have e2 : Same (upd H p (.tup [V.ty "tuple", V.ty "list"])) (upd (upd H p (.tup [V.ty "tuple", V.ty "list"])) p2 (.tup [V.ty "tuple", V.ty "list"])) := Same.new hp2
      have ha2 := Same.sqT e2 ha1
      have hb2 := Same.sqT e2 hb1
      have e12 := e1.trans e2
      refine ⟨.ref a, p2, _, .type "tuple", _, true, rfl, upd_same, cls, SqT.is ha2, tl, true, rfl, iteF ?_⟩
      refine ⟨_, rfl, .ref a, .ty "list", .type "tuple", .type "list", false, rfl, .ty _, SqT.is ha2, kit_ty (by decide +kernel), _, rfl, .ref b, .ty "list", .type "tuple", .type "list", false, rfl, .ty _, SqT.is hb2, kit_ty (by decide +kernel), rfl, _, rfl, ?_⟩
      refine iteNS rfl ?_
      refine ⟨_, rfl, a, xs, rfl, .inr ha2, _, rfl, b, ys, rfl, .inr hb2, rfl, _, rfl, iteNS (by rw [hxy]) ?_⟩
      refine ⟨_, rfl, b, ys, rfl, .inr hb2, _, rfl, by omega, by omega, fun L hLn => ?_⟩
      rw [Int.toNat_natCast]
      refine lc_range (lo := 0) (n := ys.length) (fun _ H' => Same H H' ∧ H' L = some (.lst [])) ⟨e12.trans (Same.new hLn), upd_same⟩ ?_ ?_
      · rintro j H3 hj ⟨e3, hL3⟩
        have hj1 : j < xs.length := by omega
        have ez : (0 : Int) + (j : Int) = (j : Int) := Int.zero_add _
        refine ⟨rfl, ?_⟩
        refine ⟨_, rfl, _, rfl, a, xs, _, xs[j], rfl, rfl, Same.sqT e3 ha, at_of (j := j) ez (List.getElem?_eq_getElem hj1), ?_⟩
        refine ⟨_, rfl, _, rfl, b, ys, _, ys[j], rfl, rfl, Same.sqT e3 hb, at_of (j := j) ez (List.getElem?_eq_getElem hj), ?_⟩
        refine ⟨xs[j], ys[j], rfl, (hall j _ _ (List.getElem?_eq_getElem hj1) (List.getElem?_eq_getElem hj)).same e3, fun H4 e4 => ⟨true, rfl, ?_⟩⟩
        exact iteF ⟨e3.trans e4, e4 _ _ hL3⟩
      · rintro H3 ⟨e3, hL3⟩
        refine ⟨Nat.zero_le _, fun z hz => ?_⟩
        have e4 : Same H3 (upd H3 z (.lst [])) := Same.new hz
        refine ⟨_, _, dp_list (o := []) (.inl (.inl (e4 _ _ hL3))), dp_list (o := []) (.inl (.inl upd_same)), shaped_list _, shaped_list _, ?_⟩
        rw [eqv_nil, decide_eq_true rfl]
        exact q _ (e3.trans e4)
theorem ok_alike {f : Addr} {fd : FuncData} (D : DefK K mg "_law_alike" st_alike ["_law_found", "_law_due"] f fd) (T : Txt mg) : ∀ m, FnOk P w K mg base CX0 m f fd ["_law_found", "_law_due"] (sp_alike K m)
  | 0 => alike_none
  | m + 1 => alike_step D T (ok_alike D T m)
end
end Ov
set_option Elab.async false
set_option linter.all false
set_option maxRecDepth 100000
set_option maxHeartbeats 4000000
namespace Ov
open PySem PySem.Spec PyProof.Rows L2
theorem erase_perm {α : Type} : ∀ (l : List α) (i : Nat) (h : i < l.length), (l[i] :: l.eraseIdx i).Perm l
  | [], _, h => absurd h (Nat.not_lt_zero _)
  | a :: l, 0, _ => .refl _
  | a :: l, i + 1, h => by
    have hl : i < l.length := by simpa using h
    have ih := erase_perm l i hl
    show (l[i] :: a :: l.eraseIdx i).Perm (a :: l)
    exact (List.Perm.swap a l[i] (l.eraseIdx i)).trans (ih.cons a)
theorem map_erase {α β : Type} (f : α → β) : ∀ (l : List α) (i : Nat), (l.map f).eraseIdx i = (l.eraseIdx i).map f
  | [], _ => rfl
  | a :: l, 0 => rfl
  | a :: l, i + 1 => by
    show f a :: (l.map f).eraseIdx i = f a :: (l.eraseIdx i).map f
    rw [map_erase f l i]
theorem draw_perm {f l m : List Int} {u : Nat} (h : u < l.length) (hp : (f ++ l).Perm m) : ((f ++ [l[u]]) ++ l.eraseIdx u).Perm m := by
  rw [List.append_assoc]
  exact ((erase_perm l u h).append_left f).trans hp
theorem But.upL {R L : Addr} {H H' : Hp} {o : HO} (e : But R H H') (h : H L = none) : But R H (upd H' L o) := fun b x hb q => by
  rw [upd_ne (ne_of_none q h)]
  exact e b x hb q
theorem But.sqF {R a : Addr} {H H' : Hp} {xs ys : List V} (e : But R H H') (hR : H R = some (.lst ys)) (h : SqF H a xs) : SqF H' a xs :=
  let ⟨o, h1, h2⟩ := h
  ⟨o, e _ _ (ne_of h1 hR fun z => nomatch z) h1, h2⟩
theorem But.lineR {R a : Addr} {H H' : Hp} {n : Nat} {ns : List Int} {ys : List V} (e : But R H H') (hR : H R = some (.lst ys)) (h : LineAt H a n ns) : LineAt H' a n ns := ⟨e.sqF hR h.f, h.l, h.lo, h.hi⟩
theorem But.sqTR {K : PySem.W.Frag} {R a : Addr} {H H' : Hp} {xs ys : List V} (e : But R H H') (hR : H R = some (.lst ys)) (h : SqT K H a xs) : SqT K H' a xs := by
  rcases h with (h | ⟨u, h⟩) | h
  · exact .inl (.inl (e _ _ (ne_of h hR fun z => nomatch z) h))
  · exact .inl (.inr ⟨u, e _ _ (ne_of h hR fun z => nomatch z) h⟩)
  · exact .inr h
section
variable {P : Program} {w : World} {K : PySem.W.Frag} {mg : Str → Option Value} {base : Heap}
/-! ### _law_line, _law_same -/
abbrev st_lline : Stmt := top 37
theorem sc_lline : FnScope ["_law_row", "_law_most", "_law_size", "_law_left", "_law_found", "_law_turn"] ["_law_row", "_law_most"] (defScope st_lline) := ⟨rfl, rfl, rfl, by decide +kernel, rfl, by decide +kernel, by decide +kernel⟩
def sp_lline (K : PySem.W.Frag) : Sp := fun vs H Q _ => ∃ (R sa : Addr) (k : Nat), vs = [.ref R, .int k] ∧ Row K H R sa ∧ 1 ≤ k ∧ k ≤ 8 ∧ ∀ r H' n ms, But R H H' → Row K H' R sa → SqF H' r (iV ms) → IsLine n ms → 1 ≤ n → n ≤ k → Q (.ref r) H'
/-- what holds between two draws -/
structure Draw (K : PySem.W.Frag) (H H' : Hp) (R sa Lf Fd : Addr) (n i : Nat) : Prop where
  b : But R H H'
  r : RowC H' R sa
  ex : ∃ l f : List Int, H' Lf = some (.lst (iV l)) ∧ H' Fd = some (.lst (iV f)) ∧ (f ++ l).Perm (rangeI n) ∧ f.length = i
theorem ok_lline {f f1 : Addr} {fd d1 : FuncData} (D : DefK K mg "_law_line" st_lline ["_law_row", "_law_most"] f fd) (T : Txt mg) (D1 : DefK K mg "_law_taken" st_taken ["_law_row", "_law_many"] f1 d1) (G1 : FnOk P w K mg base CX0 1 f1 d1 ["_law_row", "_law_many"] (sp_taken K)) : FnOk P w K mg base CX0 2 f fd ["_law_row", "_law_most"] (sp_lline K) := by
  refine D.F.ok sc_lline (fun vs H Q E h => ?_) (fun cdv A outer s H vs Q E hr h => ?_)
  · obtain ⟨R, sa, k, rfl, _⟩ := h
    rfl
  · obtain ⟨R, sa, k, rfl, hRow, hk1, hk8, q⟩ := h
    have hScr := hRow.2
    refine ⟨_, pss_cons (ps_set (i := 2) sc_lline.nd rfl (.inl rfl) (pe_op op_add pe_int (pe_k G1 D1 hr (pa_cons (pv 0) (pa_cons (pv 1) pa_nil)))))
      (pss_cons (ps_par (i := 3) (j := 4) rfl sc_lline.nd rfl rfl (by decide) rfl rfl (pa_cons (pe_listRg rfl (by rfl) T.tlist (prg_1 (by rfl) T.range (pv 2))) (pa_cons (pe_lst pa_nil) pa_nil)) (by rfl))
      (pss_cons (ps_for PassesOwn.never rfl (pi_range1 (by rfl) T.range (pa_cons (pv 2) pa_nil)) (pg_name (i := 5) sc_lline.nd rfl (.inl rfl))
        (pss_one (ps_expr (pe_bm PySem.F.plainAttrs_list PySem.F.slot_list_append PySem.F.type_list_append mt_append (pv 4)
          (pa_cons (pe_bm PySem.F.plainAttrs_list PySem.F.slot_list_pop PySem.F.type_list_pop mt_popAt (pv 3) (pa_cons (pe_k G1 D1 hr (pa_cons (pv 0) (pa_cons (pe_callB call_len_seq (by rfl) T.len PySem.boot_len (pa_cons (pv 3) pa_nil)) pa_nil))) pa_nil)) pa_nil)))))
      (pss_one (ps_ret (pe_callTy call_tupF (by rfl) T.ttup b_tup (pa_cons (pv 4) pa_nil)))))), ?_⟩
    refine ⟨_, rfl, _, rfl, R, sa, k, rfl, hRow, hk1, hk8, fun v H1 hv b1 r1 => ?_⟩
    have en : (1 : Int) + (v : Int) = ((v + 1 : Nat) : Int) := by omega
    refine ⟨_, _, rfl, rfl, ?_⟩
    refine ⟨_, rfl, _, rfl, RgOk.of_le (by omega) (show (1 : Int) + (v : Int) ≤ 16777216 by omega) (by omega) (show (0 : Int) ≤ 1 + (v : Int) by omega), fun Lf hLf => ?_⟩
    refine ⟨Nat.zero_le _, fun Fd hFd => ⟨_, _, rfl, ?_⟩⟩
    obtain ⟨ci, cs, cc, hR1, _⟩ := id r1.1
    have nRL : R ≠ Lf := ne_of_none hR1 hLf
    have nLF : Lf ≠ Fd := ne_of_none upd_same hFd
    have hFd1 : H1 Fd = none := by rw [upd_ne nLF.symm] at hFd; exact hFd
    have nRF : R ≠ Fd := ne_of_none hR1 hFd1
    refine ⟨_, rfl, _, rfl, (show -(2 ^ 62) ≤ 1 + (v : Int) by omega), (show 1 + (v : Int) < 2 ^ 62 by omega), ?_⟩
    have eN : ((1 : Int) + (v : Int)).toNat = v + 1 := by omega
    refine for_range (lo := 0) (n := ((1 : Int) + (v : Int)).toNat) (fun i σ H' => ∃ y, σ = [some (.ref R), some (.int k), some (.int (1 + (v : Int))), some (.ref Lf), some (.ref Fd), y] ∧ Draw K H1 H' R sa Lf Fd (v + 1) i)
      ⟨none, rfl, ?_, (r1.1.up nRL).up nRF, rangeI (v + 1), [], ?_, upd_same, .refl _, rfl⟩ ?_ ?_
    · exact But.upL (But.upL (But.of (Same.refl _)) hLf) hFd1
    · rw [upd_ne nLF, upd_same, ← rgV_range, ← en]
    · rintro i σ H2 hi ⟨y, rfl, b2, r2, l, fo, hl, hf, hp, hfl⟩
      rw [eN] at hi
      have hlen : l.length = v + 1 - i := by
        have := hp.length_eq
        rw [List.length_append, rangeI_length] at this
        omega
      refine ⟨_, rfl, .inl ⟨rfl, _, .inl (.inl hf)⟩, _, rfl, .inl ⟨rfl, _, .inl (.inl hl)⟩, _, rfl, _, rfl, Lf, _, rfl, .inl (.inl (.inl hl)), R, sa, l.length, by rw [List.length_map]; rfl, ⟨r2, r1.2.but b2⟩, by omega, by omega, fun u H3 hu b3 r3 => ?_⟩
      have hl3 := b3 _ _ nRL.symm hl
      have hf3 := b3 _ _ nRF.symm hf
      refine ⟨Lf, iV l, (u : Int), u, .int l[u], rfl, rfl, hl3, by omega, by omega, by rw [List.length_map]; exact seqIndex_of (by omega) (by omega), iV_get hu, ?_⟩
      refine ⟨Fd, _, _, rfl, rfl, by rw [upd_ne nLF.symm]; exact hf3, ?_, ?_⟩
      · rw [List.length_map]
        exact sl_lt (by omega)
      · refine ⟨_, rfl, But.upL (But.upL (b2.trans b3) hLf) hFd1, (r3.1.up nRL).up nRF, l.eraseIdx u, fo ++ [l[u]], ?_, ?_, draw_perm hu hp, by rw [List.length_append, hfl]; rfl⟩
        · rw [upd_ne nLF, upd_same]
          unfold iV
          rw [map_erase]
        · rw [upd_same]
          unfold iV
          rw [List.map_append]
          rfl
    · rintro σ H2 ⟨y, rfl, b2, r2, l, fo, hl, hf, hp, hfl⟩
      rw [eN] at hfl
      have hl0 : l = [] := by
        have := hp.length_eq
        rw [List.length_append, rangeI_length] at this
        exact List.eq_nil_of_length_eq_zero (by omega)
      subst hl0
      rw [List.append_nil] at hp
      refine ⟨_, rfl, Fd, _, rfl, .inl (.inl hf), fun r H3 e3 hr3 => ?_⟩
      exact q r H3 (v + 1) fo ((b1.trans b2).trans (But.of e3)) ⟨r2.same e3, hScr.but ((b1.trans b2).trans (But.of e3))⟩ hr3 (IsLine.of_perm hp) (by omega) (by omega)
abbrev st_lsame : Stmt := top 38
theorem sc_lsame : FnScope ["_law_row", "_law_line_here", "_law_left", "_law_found", "_law_turn"] ["_law_row", "_law_line_here"] (defScope st_lsame) := ⟨rfl, rfl, rfl, by decide +kernel, rfl, by decide +kernel, by decide +kernel⟩
def sp_lsame (K : PySem.W.Frag) : Sp := fun vs H Q _ => ∃ (R sa a : Addr) (n : Nat) (ns : List Int), vs = [.ref R, .ref a] ∧ Row K H R sa ∧ LineAt H a n ns ∧ ∀ r H' ms, But R H H' → Row K H' R sa → SqF H' r (iV ms) → IsLine n ms → Q (.ref r) H'
theorem ok_lsame {f f1 : Addr} {fd d1 : FuncData} (D : DefK K mg "_law_same" st_lsame ["_law_row", "_law_line_here"] f fd) (T : Txt mg) (D1 : DefK K mg "_law_taken" st_taken ["_law_row", "_law_many"] f1 d1) (G1 : FnOk P w K mg base CX0 1 f1 d1 ["_law_row", "_law_many"] (sp_taken K)) : FnOk P w K mg base CX0 2 f fd ["_law_row", "_law_line_here"] (sp_lsame K) := by
  refine D.F.ok sc_lsame (fun vs H Q E h => ?_) (fun cdv A outer s H vs Q E hr h => ?_)
  · obtain ⟨R, sa, a, n, ns, rfl, _⟩ := h
    rfl
  · obtain ⟨R, sa, a, n, ns, rfl, hRow, hL, q⟩ := h
    have hScr := hRow.2
    have hlen0 := hL.l.len
    have hn8 := hL.hi
    have hn1 := hL.lo
    refine ⟨_, pss_cons (ps_par (i := 2) (j := 3) rfl sc_lsame.nd rfl rfl (by decide) rfl rfl (pa_cons (pe_listRg rfl (by rfl) T.tlist (prg_1 (by rfl) T.range (pe_callB call_len_seq (by rfl) T.len PySem.boot_len (pa_cons (pv 1) pa_nil)))) (pa_cons (pe_lst pa_nil) pa_nil)) (by rfl))
      (pss_cons (ps_for PassesOwn.never rfl (pi_range1 (by rfl) T.range (pa_cons (pe_callB call_len_seq (by rfl) T.len PySem.boot_len (pa_cons (pv 1) pa_nil)) pa_nil)) (pg_name (i := 4) sc_lsame.nd rfl (.inl rfl))
        (pss_one (ps_expr (pe_bm PySem.F.plainAttrs_list PySem.F.slot_list_append PySem.F.type_list_append mt_append (pv 3)
          (pa_cons (pe_bm PySem.F.plainAttrs_list PySem.F.slot_list_pop PySem.F.type_list_pop mt_popAt (pv 2) (pa_cons (pe_k G1 D1 hr (pa_cons (pv 0) (pa_cons (pe_callB call_len_seq (by rfl) T.len PySem.boot_len (pa_cons (pv 2) pa_nil)) pa_nil))) pa_nil)) pa_nil)))))
      (pss_one (ps_ret (pe_callTy call_tupF (by rfl) T.ttup b_tup (pa_cons (pv 3) pa_nil))))), ?_⟩
    have eN : ((iV ns).length : Int) = (n : Int) := by rw [List.length_map, hlen0]
    refine ⟨_, rfl, a, iV ns, rfl, .inr hL.t, _, rfl, RgOk.of_le (by omega) (by omega) (by omega) (by omega), fun Lf hLf => ?_⟩
    refine ⟨Nat.zero_le _, fun Fd hFd => ⟨_, _, rfl, ?_⟩⟩
    obtain ⟨ci, cs, cc, hR1, _⟩ := id hRow.1
    have nRL : R ≠ Lf := ne_of_none hR1 hLf
    have nLF : Lf ≠ Fd := ne_of_none upd_same hFd
    have hFd1 : H Fd = none := by rw [upd_ne nLF.symm] at hFd; exact hFd
    have nRF : R ≠ Fd := ne_of_none hR1 hFd1
    refine ⟨_, rfl, a, iV ns, rfl, .inr (Same.sqT ((Same.new hLf).trans (Same.new hFd)) hL.t), _, rfl, by omega, by omega, ?_⟩
    have eN2 : (((iV ns).length : Nat) : Int).toNat = n := by omega
    rw [eN2]
    refine for_range (lo := 0) (n := n) (fun i σ H' => ∃ y, σ = [some (.ref R), some (.ref a), some (.ref Lf), some (.ref Fd), y] ∧ Draw K H H' R sa Lf Fd n i)
      ⟨none, rfl, ?_, (hRow.1.up nRL).up nRF, rangeI n, [], ?_, upd_same, .refl _, rfl⟩ ?_ ?_
    · exact But.upL (But.upL (But.of (Same.refl _)) hLf) hFd1
    · rw [upd_ne nLF, upd_same, ← rgV_range, ← eN]
    · rintro i σ H2 hi ⟨y, rfl, b2, r2, l, fo, hl, hf, hp, hfl⟩
      have hlen : l.length = n - i := by
        have := hp.length_eq
        rw [List.length_append, rangeI_length] at this
        omega
      refine ⟨_, rfl, .inl ⟨rfl, _, .inl (.inl hf)⟩, _, rfl, .inl ⟨rfl, _, .inl (.inl hl)⟩, _, rfl, _, rfl, Lf, _, rfl, .inl (.inl (.inl hl)), R, sa, l.length, by rw [List.length_map]; rfl, ⟨r2, hScr.but b2⟩, by omega, by omega, fun u H3 hu b3 r3 => ?_⟩
      have hl3 := b3 _ _ nRL.symm hl
      have hf3 := b3 _ _ nRF.symm hf
      refine ⟨Lf, iV l, (u : Int), u, .int l[u], rfl, rfl, hl3, by omega, by omega, by rw [List.length_map]; exact seqIndex_of (by omega) (by omega), iV_get hu, ?_⟩
      refine ⟨Fd, _, _, rfl, rfl, by rw [upd_ne nLF.symm]; exact hf3, ?_, ?_⟩
      · rw [List.length_map]
        exact sl_lt (by omega)
      · refine ⟨_, rfl, But.upL (But.upL (b2.trans b3) hLf) hFd1, (r3.1.up nRL).up nRF, l.eraseIdx u, fo ++ [l[u]], ?_, ?_, draw_perm hu hp, by rw [List.length_append, hfl]; rfl⟩
        · rw [upd_ne nLF, upd_same]
          unfold iV
          rw [map_erase]
        · rw [upd_same]
          unfold iV
          rw [List.map_append]
          rfl
    · rintro σ H2 ⟨y, rfl, b2, r2, l, fo, hl, hf, hp, hfl⟩
      have hl0 : l = [] := by
        have := hp.length_eq
        rw [List.length_append, rangeI_length] at this
        exact List.eq_nil_of_length_eq_zero (by omega)
      subst hl0
      rw [List.append_nil] at hp
      refine ⟨_, rfl, Fd, _, rfl, .inl (.inl hf), fun r H3 e3 hr3 => ?_⟩
      exact q r H3 fo (b2.trans (But.of e3)) ⟨r2.same e3, hScr.but (b2.trans (But.of e3))⟩ hr3 (IsLine.of_perm hp)
end
end Ov
set_option Elab.async false
set_option linter.all false
set_option maxRecDepth 100000
set_option maxHeartbeats 4000000
namespace Ov
open PySem PySem.Spec PyProof.Rows L2
/-! ### the law's own call is the program's -/
def tallTo (l : List Int) (p : Int) (k : Nat) : List Int := (rangeI k).filter fun i => decide (p < l.getD i.toNat 0)
theorem rangeI_succ (k : Nat) : rangeI (k + 1) = rangeI k ++ [(k : Int)] := by
  unfold rangeI
  rw [List.range_succ, List.map_append]
  rfl
theorem tallTo_succ (l : List Int) (p : Int) (k : Nat) : tallTo l p (k + 1) = tallTo l p k ++ (if p < l.getD k 0 then [(k : Int)] else []) := by
  unfold tallTo
  rw [rangeI_succ, List.filter_append]
  congr 1
  by_cases h : p < l.getD k 0
  · rw [if_pos h, List.filter_cons_of_pos (by rw [Int.toNat_natCast]; exact decide_eq_true h)]; rfl
  · rw [if_neg h, List.filter_cons_of_neg (by rw [Int.toNat_natCast, decide_eq_false h]; decide)]; rfl
theorem tall_back (l : List Int) (p : Int) : ∀ k, (∀ i, i < k → l.getD i 0 ≠ p) → (tallTo l p k = [] → back l p k = 0) ∧ ∀ t x, tallTo l p k = t ++ [x] → ((back l p k : Nat) : Int) = x + 1
  | 0, _ => ⟨fun _ => rfl, fun t x h => by
      have : ([] : List Int) = t ++ [x] := h
      simp at this⟩
  | k + 1, hne => by
    obtain ⟨h1, h2⟩ := tall_back l p k fun i hi => hne i (by omega)
    have hk := hne k (Nat.lt_succ_self k)
    rw [tallTo_succ]
    unfold back
    by_cases h : p < l.getD k 0
    · rw [if_pos h, if_neg (by omega)]
      refine ⟨fun e => by simp at e, fun t x e => ?_⟩
      have := (List.append_inj' e rfl).2
      simp at this
      omega
    · rw [if_neg h, if_pos (by omega), List.append_nil]
      exact ⟨h1, h2⟩
theorem before_ne {l : List Int} {p : Int} (hp : p ∈ l) : ∀ i, i < l.idxOf p → l.getD i 0 ≠ p := fun i hi e => by
  have hn := List.not_of_lt_findIdx (p := (· == p)) (xs := l) (i := i) hi
  have hlt : i < l.length := Nat.lt_trans hi (List.idxOf_lt_length_of_mem hp)
  rw [getD_eq hlt] at e
  rw [e] at hn
  simp at hn
theorem tallTo_len (l : List Int) (p : Int) (k : Nat) : (tallTo l p k).length ≤ k := by
  unfold tallTo
  exact Nat.le_trans (List.length_filter_le _ _) (Nat.le_of_eq (rangeI_length k))
section
variable {P : Program} {w : World} {K : PySem.W.Frag} {mg : Str → Option Value} {base : Heap}
abbrev st_lcall : Stmt := top 39
abbrev nm_lcall : List Str := ["_law_line_here", "_law_person", "_law_old", "_law_tall", "_law_new", "_law_place"]
theorem sc_lcall : FnScope nm_lcall ["_law_line_here", "_law_person"] (defScope st_lcall) := ⟨rfl, rfl, rfl, by decide +kernel, rfl, by decide +kernel, by decide +kernel⟩
theorem ok_lcall {f : Addr} {fd : FuncData} (D : DefK K mg "_law_call" st_lcall ["_law_line_here", "_law_person"] f fd) (T : Txt mg) : FnOk P w K mg base CX0 1 f fd ["_law_line_here", "_law_person"] sp_call := by
  refine D.F.ok sc_lcall (fun vs H Q E h => ?_) (fun cdv A outer s H vs Q E hr h => ?_)
  · obtain ⟨a, n, ns, p, rfl, _⟩ := h
    rfl
  · obtain ⟨a, n, ns, p, rfl, hL, hpn, q⟩ := h
    have hF := hL.f
    have hp : p ∈ ns := (hL.l.mem p).mpr hpn
    refine ⟨_, pss_cons (ps_set (i := 2) sc_lcall.nd rfl (.inl rfl) (pe_idxF (pv 0) (pa_cons (pv 1) pa_nil)))
      (pss_cons (ps_setLc (i := 3) (own := [("_law_place", 5)]) (g := gName 5) (tt := tTest (tOp (rI0 fun i j => .bl (decide (j < i))) (tOp (rIxT K) (tVar 0) (tVar 5)) (tVar 1))) (by rfl) sc_lcall.nd rfl rfl (sw_true rfl rfl rfl (by decide +kernel))
        (pi_range1 (by rfl) T.range (pa_cons (pv 2) pa_nil)) (blkOk_by (own := [("_law_place", 5)]) (N := nm_lcall) (sc := defScope st_lcall) (by decide +kernel)) (fun _ _ _ _ _ => pg_name (i := 5) sc_lcall.nd rfl (Or.inl rfl))
        (fun _ _ _ _ _ => pts_one (pt_cmpR op_gt (pe_ix ix_tup (pv 0) (pv 5) (fun _ _ => rfl)) (pv 1) (nomark _))) (fun _ _ _ _ _ => pv 5))
      (pss_cons (ps_set (i := 4) sc_lcall.nd rfl (.inl rfl) (pe_ifExp (pt_cmpR (op_neD hr.units) (pv 3) (pe_lst pa_nil) (nomark _)) (pe_op op_add (pe_ix ix_list (pv 3) (pe_un un_neg pe_int) (fun _ _ => rfl)) pe_int) pe_int))
      (pss_one (ps_ret (pe_op op_catF (pe_op op_catF (pe_op op_catF (pe_slice sl_tupF (pv 0) po_none (po_some (pv 4))) (pe_tupF (pa_cons (pv 1) pa_nil))) (pe_slice sl_tupF (pv 0) (po_some (pv 4)) (po_some (pv 2))))
        (pe_slice sl_tupF (pv 0) (po_some (pe_op op_add (pv 2) pe_int)) po_none)))))), ?_⟩
    have hix : ns.idxOf p < ns.length := List.idxOf_lt_length_of_mem hp
    have hg := goal_le ns p
    have hlen := hL.l.len
    have hn8 := hL.hi
    obtain ⟨tb0, tb1⟩ := tall_back ns p (ns.idxOf p) (before_ne hp)
    have hgoal : goal ns p = back ns p (ns.idxOf p) := rfl
    refine ⟨_, rfl, ⟨a, _, rfl, hF⟩, _, rfl, a, ns, p, rfl, rfl, SqF.t hF, hp, ?_⟩
    refine ⟨_, rfl, _, rfl, by omega, by omega, fun L hLn => ?_⟩
    have eN : (((ns.idxOf p : Nat) : Int)).toNat = ns.idxOf p := Int.toNat_natCast _
    rw [eN]
    refine lc_range (lo := 0) (n := ns.idxOf p) (fun i H' => Same H H' ∧ H' L = some (.lst (iV (tallTo ns p i)))) ⟨Same.new hLn, upd_same⟩ ?_ ?_
    · rintro i H1 hi ⟨e1, hL1⟩
      have ez : (0 : Int) + (i : Int) = (i : Int) := Int.zero_add _
      have hil : i < ns.length := by omega
      have hts := tallTo_succ ns p i
      have egd : ns.getD i 0 = ns[i] := getD_eq hil
      rw [egd] at hts
      refine ⟨rfl, _, rfl, _, rfl, a, iV ns, _, .int ns[i], rfl, rfl, SqF.t (hF.same e1), at_of (j := i) ez (iV_get hil), _, rfl, _, _, rfl, rfl, _, rfl, ?_⟩
      by_cases hc : p < ns[i]
      · rw [decide_eq_true hc]
        rw [if_pos hc] at hts
        refine iteT ⟨_, rfl, _, hL1, ?_, Same.upL e1 hLn, ?_⟩
        · have := tallTo_len ns p i
          rw [List.length_map]
          exact sl_lt (by omega)
        · rw [upd_same, hts, ez]
          unfold iV
          rw [List.map_append]
          rfl
      · rw [decide_eq_false hc]
        rw [if_neg hc, List.append_nil] at hts
        refine iteF ⟨e1, ?_⟩
        rw [hts]
        exact hL1
    · rintro H1 ⟨e1, hL1⟩
      -- what stands behind the new place
      have rest : ∀ (H2 : Hp) (g : Int), Same H H2 → g = ((goal ns p : Nat) : Int) →
          tRet (tOp rCatF (tOp rCatF (tOp rCatF (tSl rSlF (tVar 0) tNoPart (tPart (tVar 4))) (tTupF (tCons (tVar 1) tNil))) (tSl rSlF (tVar 0) (tPart (tVar 4)) (tPart (tVar 2)))) (tSl rSlF (tVar 0) (tPart (tOp (rI0 fun i j => V.int (i + j)) (tVar 2) (tC (V.int 1)))) tNoPart))
            { nx := fun _ H' => Q .non H', rt := Q } [some (.ref a), some (.int p), some (.int (ns.idxOf p : Nat)), some (.ref L), some (.int g), none] H2 := by
        intro H2 g e2 eg
        subst eg
        refine ⟨_, rfl, _, rfl, _, rfl, a, iV ns, rfl, hF.same e2, fun r1 H3 e3 h1 => ?_⟩
        refine ⟨_, rfl, by show 1 ≤ sizeLine; decide, fun r2 H4 e4 _ h2 => ?_⟩
        have l1 := congrArg List.length (cut_take (l := ns) (i := goal ns p) (by omega))
        have l2 := congrArg List.length (cut_mid (l := ns) (i := goal ns p) (j := ns.idxOf p) hg (by omega))
        have l3 := congrArg List.length (cut_drop (l := ns) (i := ns.idxOf p + 1) (by omega))
        rw [List.length_map, List.length_take] at l1
        rw [List.length_map, List.length_take, List.length_drop] at l2
        rw [List.length_map, List.length_drop] at l3
        refine ⟨r1, r2, _, _, rfl, rfl, h1.same e4, h2, sl_small (by rw [l1]; show _ + 1 ≤ 10000; omega), fun r3 H5 e5 h3 => ?_⟩
        refine ⟨_, rfl, _, rfl, _, rfl, _, rfl, _, rfl, a, iV ns, rfl, hF.same (e2.trans (e3.trans (e4.trans e5))), fun r4 H6 e6 h4 => ?_⟩
        refine ⟨r3, r4, _, _, rfl, rfl, h3.same e6, h4, sl_small (by rw [List.length_append, l1, l2]; show _ + 1 + _ ≤ 10000; omega), fun r5 H7 e7 h5 => ?_⟩
        refine ⟨_, rfl, _, rfl, _, _, rfl, rfl, _, rfl, a, iV ns, rfl, hF.same (e2.trans (e3.trans (e4.trans (e5.trans (e6.trans e7))))), fun r6 H8 e8 h6 => ?_⟩
        have en : ((ns.idxOf p : Nat) : Int) + 1 = ((ns.idxOf p + 1 : Nat) : Int) := by omega
        have h6' : SqF H8 r6 (cutV (iV ns) (some ((ns.idxOf p + 1 : Nat) : Int)) none) := by rw [← en]; exact h6
        refine ⟨r5, r6, _, _, rfl, rfl, h5.same e8, h6', sl_small (by rw [List.length_append, List.length_append, l1, l2, l3]; show _ + 1 + _ + _ ≤ 10000; omega), fun r7 H9 e9 h7 => ?_⟩
        refine q r7 H9 (e2.trans (e3.trans (e4.trans (e5.trans (e6.trans (e7.trans (e8.trans e9))))))) ⟨?_, hL.l.call hpn, hL.lo, hL.hi⟩
        have ec : ((cutV (iV ns) none (some ((goal ns p : Nat) : Int)) ++ [V.int p]) ++ cutV (iV ns) (some ((goal ns p : Nat) : Int)) (some ((ns.idxOf p : Nat) : Int))) ++ cutV (iV ns) (some ((ns.idxOf p + 1 : Nat) : Int)) none = iV (callL ns p) := by
          rw [cut_take (by omega), cut_mid hg (by omega), cut_drop (by omega), List.append_assoc, List.append_assoc]
          unfold callL iV
          rw [List.map_append, List.map_cons, List.map_append]
          rfl
        rw [← ec]
        exact h7
      refine ⟨_, rfl, Nat.zero_le _, fun z hz => ?_⟩
      have e2 : Same H1 (upd H1 z (.lst [])) := Same.new hz
      refine ⟨_, _, dp_list (.inl (.inl (e2 _ _ hL1))), dp_list (o := []) (.inl (.inl upd_same)), shaped_list _, shaped_list _, _, rfl, ?_⟩
      rw [eqv_nil]
      by_cases ht : tallTo ns p (ns.idxOf p) = []
      · rw [decide_eq_true ht]
        refine iteF ?_
        exact rest _ 0 (e1.trans e2) (by rw [hgoal, tb0 ht]; rfl)
      · rw [decide_eq_false ht]
        refine iteT ?_
        have es := (List.dropLast_concat_getLast ht).symm
        have hgl := tb1 _ _ es
        refine ⟨_, rfl, _, rfl, L, _, _, .int ((tallTo ns p (ns.idxOf p)).getLast ht), rfl, rfl, .inl (.inl (e2 _ _ hL1)), ?_, _, _, rfl, rfl, ?_⟩
        · have : iV (tallTo ns p (ns.idxOf p)) = iV (tallTo ns p (ns.idxOf p)).dropLast ++ [.int ((tallTo ns p (ns.idxOf p)).getLast ht)] := by
            conv => lhs; rw [es]
            unfold iV
            rw [List.map_append]
            rfl
          rw [this]
          exact atI_last _ _
        · exact rest _ _ (e1.trans e2) (by rw [hgoal, hgl])
/-! ### _law_done -/
abbrev st_ldone : Stmt := top 40
theorem sc_ldone : FnScope ["_law_line_here", "_law_calls", "_law_person"] ["_law_line_here", "_law_calls"] (defScope st_ldone) := ⟨rfl, rfl, rfl, by decide +kernel, rfl, by decide +kernel, by decide +kernel⟩
theorem ok_ldone {f f1 : Addr} {fd d1 : FuncData} (D : DefK K mg "_law_done" st_ldone ["_law_line_here", "_law_calls"] f fd) (D1 : DefK K mg "_law_call" st_lcall ["_law_line_here", "_law_person"] f1 d1) (G1 : FnOk P w K mg base CX0 1 f1 d1 ["_law_line_here", "_law_person"] sp_call) : FnOk P w K mg base CX0 2 f fd ["_law_line_here", "_law_calls"] (sp_round K) := by
  refine D.F.ok sc_ldone (fun vs H Q E h => ?_) (fun cdv A outer s H vs Q E hr h => ?_)
  · obtain ⟨a, b, n, ns, os, rfl, _⟩ := h
    rfl
  · obtain ⟨a, b, n, ns, os, rfl, hL, hO, ho8, hp, q⟩ := h
    refine ⟨_, pss_cons (ps_for PassesOwn.never rfl (pi_tup (pv 1)) (pg_name (i := 2) sc_ldone.nd rfl (.inl rfl)) (pss_one (ps_set (i := 0) sc_ldone.nd rfl (.inl rfl) (pe_k G1 D1 hr (pa_cons (pv 0) (pa_cons (pv 2) pa_nil))))))
      (pss_one (ps_ret (pv 0))), ?_⟩
    refine ⟨_, rfl, b, rfl, ⟨_, hO⟩, for_tup (K := K) (a := b) (xs := iV os) (fun i σ H' => ∃ y l, σ = [some (.ref l), some (.ref b), y] ∧ Same H H' ∧ LineAt H' l n ((os.take i).foldl callL ns))
      ⟨none, a, rfl, Same.refl H, hL⟩ (fun i σ H' _ ⟨_, _, _, e, _⟩ => Same.sqT e hO) ?_ ?_⟩
    · rintro i x σ H1 hx ⟨y, l, rfl, e1, hl⟩
      have hi : i < os.length := by
        have := (List.getElem?_eq_some_iff.mp hx).1
        rwa [List.length_map] at this
      cases (iV_get hi).symm.trans hx
      refine ⟨_, rfl, _, rfl, l, n, _, os[i], rfl, hl, hp _ (List.getElem_mem hi), fun r H2 e2 hr2 => ?_⟩
      refine ⟨_, r, rfl, e1.trans e2, ?_⟩
      rw [after_snoc ns os hi]
      exact hr2
    · rintro σ H' ⟨y, l, rfl, e, hl⟩
      rw [List.length_map, List.take_length] at hl
      exact ⟨_, rfl, q l H' e hl⟩
end
end Ov
set_option Elab.async false
set_option linter.all false
set_option maxRecDepth 100000
set_option maxHeartbeats 4000000
namespace Ov
open PySem PySem.Spec PyProof.Rows L2
/-! ### the pairs as the law finds them -/
def rowL (l : List Int) (i : Nat) : List (Int × Int) := ((l.drop (i + 1)).filter fun o => decide (l.getD i 0 < o)).map fun o => (l.getD i 0, o)
def lwTo (l : List Int) (i : Nat) : List (Int × Int) := (List.range i).flatMap (rowL l)
theorem lwTo_succ (l : List Int) (i : Nat) : lwTo l (i + 1) = lwTo l i ++ rowL l i := by
  unfold lwTo
  rw [List.range_succ, List.flatMap_append]
  simp
theorem lwTo_len (l : List Int) : ∀ i, i ≤ l.length → (lwTo l i).length + inv (l.drop i) = inv l
  | 0, _ => by simp [lwTo]
  | i + 1, h => by
    have ih := lwTo_len l i (by omega)
    have hi : i < l.length := by omega
    rw [List.drop_eq_getElem_cons hi] at ih
    have e : inv (l[i] :: l.drop (i + 1)) = (l.drop (i + 1)).countP (fun y => decide (l[i] < y)) + inv (l.drop (i + 1)) := rfl
    rw [e] at ih
    rw [lwTo_succ, List.length_append]
    have er : (rowL l i).length = (l.drop (i + 1)).countP (fun y => decide (l[i] < y)) := by
      unfold rowL
      rw [List.length_map, getD_eq hi, List.countP_eq_length_filter]
    rw [er]
    omega
theorem lwTo_all (l : List Int) : (lwTo l l.length).length = inv l := by
  have := lwTo_len l l.length (Nat.le_refl _)
  rw [List.drop_length] at this
  exact this
theorem lwTo_le (l : List Int) (i : Nat) (h : i ≤ l.length) : (lwTo l i).length ≤ inv l := by
  have := lwTo_len l i h
  omega
theorem Prs.upd {H : Hp} {D : Addr} {xs : List V} {o : HO} (hD : H D = some (.lst xs)) : ∀ {as : List Addr} {os : List (Int × Int)}, Prs H as os → Prs (L2.upd H D o) as os
  | _, _, .nil => .nil
  | _, _, .cons h t => .cons (by rw [upd_ne (ne_of h hD fun z => nomatch z)]; exact h) (Prs.upd hD t)
section
variable {P : Program} {w : World} {K : PySem.W.Frag} {mg : Str → Option Value} {base : Heap}
abbrev st_lwrong : Stmt := top 41
abbrev nm_lwrong : List Str := ["_law_line_here", "_law_found", "_law_place", "_law_other"]
theorem sc_lwrong : FnScope nm_lwrong ["_law_line_here"] (defScope st_lwrong) := ⟨rfl, rfl, rfl, by decide +kernel, rfl, by decide +kernel, by decide +kernel⟩
theorem ok_lwrong {f : Addr} {fd : FuncData} (D : DefK K mg "_law_wrong" st_lwrong ["_law_line_here"] f fd) (T : Txt mg) : FnOk P w K mg base CX0 1 f fd ["_law_line_here"] sp_wrong := by
  refine D.F.ok sc_lwrong (fun vs H Q E h => ?_) (fun cdv A outer s H vs Q E hr h => ?_)
  · obtain ⟨a, n, ns, rfl, _⟩ := h
    rfl
  · obtain ⟨a, n, ns, rfl, hL, q⟩ := h
    have hlen := hL.l.len
    have hn8 := hL.hi
    refine ⟨_, pss_cons (ps_set (i := 1) sc_lwrong.nd rfl (.inl rfl) (pe_lst pa_nil))
      (pss_cons (ps_for PassesOwn.never rfl (pi_range1 (by rfl) T.range (pa_cons (pe_callB call_len_seq (by rfl) T.len PySem.boot_len (pa_cons (pv 0) pa_nil)) pa_nil)) (pg_name (i := 2) sc_lwrong.nd rfl (.inr rfl))
        (pss_one (ps_set (i := 1) sc_lwrong.nd rfl (.inl rfl) (pe_op op_cat (pv 1) (pe_lc (own := [("_law_other", 3)]) (g := gName 3)
          (tt := tTest (tOp (rI0 fun i j => .bl (decide (j < i))) (tVar 3) (tOp (rIxT K) (tVar 0) (tVar 2)))) (te := tTup (tCons (tOp (rIxT K) (tVar 0) (tVar 2)) (tCons (tVar 3) tNil))) (by rfl) sc_lwrong.nd
          (pi_tup (pe_slice sl_tupF (pv 0) (po_some (pe_op op_add (pv 2) pe_int)) po_none))
          (blkOk_by (own := [("_law_other", 3)]) (N := nm_lwrong) (sc := defScope st_lwrong) (by decide +kernel)) (fun _ _ _ _ _ => pg_name (i := 3) sc_lwrong.nd rfl (Or.inl rfl))
          (fun _ _ _ _ _ => pts_one (pt_cmpR op_gt (pv 3) (pe_ix ix_tup (pv 0) (pv 2) (fun _ _ => rfl)) (nomark _))) (fun _ _ _ _ _ => pe_tup (pa_cons (pe_ix ix_tup (pv 0) (pv 2) (fun _ _ => rfl)) (pa_cons (pv 3) pa_nil))))))))
      (pss_one (ps_ret (pe_callB cr_sortedP (by rfl) T.srt b_srt (pa_cons (pv 1) pa_nil))))), ?_⟩
    have hinv : inv ns ≤ 64 := by
      have := inv_le ns
      have h2 : ns.length * ns.length ≤ 8 * 8 := Nat.mul_le_mul (by omega) (by omega)
      omega
    refine ⟨Nat.zero_le _, fun F0 hF0 => ?_⟩
    refine ⟨_, rfl, a, _, rfl, .inr (Same.sqT (Same.new hF0) hL.t), _, rfl, by rw [List.length_map]; omega, by rw [List.length_map]; omega, ?_⟩
    have eN : (((iV ns).length : Nat) : Int).toNat = ns.length := by rw [List.length_map]; omega
    rw [eN]
    refine for_range (lo := 0) (n := ns.length) (fun i σ H' => ∃ y Fk as, σ = [some (.ref a), some (.ref Fk), y, none] ∧ Same H H' ∧ H' Fk = some (.lst (as.map V.ref)) ∧ Prs H' as (lwTo ns i))
      ⟨none, F0, [], rfl, Same.new hF0, upd_same, .nil⟩ ?_ ?_
    · rintro i σ H1 hi ⟨y, Fk, as, rfl, e1, hFk, hP⟩
      have ez : (0 : Int) + (i : Int) = (i : Int) := Int.zero_add _
      have hx : ns.getD i 0 = ns[i] := getD_eq hi
      have hat : atI (iV ns) ((0 : Int) + (i : Int)) = some (.int ns[i]) := at_of (j := i) ez (iV_get hi)
      refine ⟨_, rfl, ?_⟩
      refine ⟨_, rfl, _, rfl, _, _, rfl, rfl, _, rfl, a, iV ns, rfl, hL.f.same e1, fun r H2 e2 hr2 => ?_⟩
      have hr2' : SqF H2 r (iV (ns.drop (i + 1))) := by
        rw [← cut_drop (l := ns) (i := i + 1) (by omega)]
        have : (0 : Int) + (i : Int) + 1 = ((i + 1 : Nat) : Int) := by omega
        rw [← this]
        exact hr2
      refine ⟨r, rfl, ⟨_, SqF.t hr2'⟩, fun D hD => ?_⟩
      refine lc_tup (K := K) (a := r) (xs := iV (ns.drop (i + 1))) (fun j H' => ∃ bs, Same H2 H' ∧ H' D = some (.lst (bs.map V.ref)) ∧ Prs H' bs ((((ns.drop (i + 1)).take j).filter fun o => decide (ns[i] < o)).map fun o => (ns[i], o)))
        ⟨[], Same.new hD, upd_same, .nil⟩ (fun j H' _ ⟨_, e, _⟩ => SqF.t (hr2'.same e)) ?_ ?_
      · rintro j z H3 hz ⟨bs, e3, hD3, hP3⟩
        have hj : j < (ns.drop (i + 1)).length := by
          have := (List.getElem?_eq_some_iff.mp hz).1
          rwa [List.length_map] at this
        cases (iV_get hj).symm.trans hz
        have fs := filt_step (fun o => decide (ns[i] < o)) hj
        have hS3 : SqT K H3 a (iV ns) := SqF.t (hL.f.same (e1.trans (e2.trans e3)))
        refine ⟨rfl, _, rfl, _, rfl, _, rfl, a, iV ns, _, .int ns[i], rfl, rfl, hS3, hat, _, _, rfl, rfl, _, rfl, ?_⟩
        by_cases hc : ns[i] < (ns.drop (i + 1))[j]
        · rw [decide_eq_true hc]
          rw [if_pos (decide_eq_true hc)] at fs
          refine iteT ⟨_, rfl, _, rfl, a, iV ns, _, .int ns[i], rfl, rfl, hS3, hat, _, rfl, by show 2 ≤ sizeLine; decide, fun p hp => ?_⟩
          refine ⟨_, by rw [upd_ne (ne_of_none hD3 hp)]; exact hD3, ?_, bs ++ [p], Same.upL (e3.trans (Same.new hp)) hD, ?_, ?_⟩
          · have h1 := Paired.length hP3
            have h2 := filt_len (fun o => decide (ns[i] < o)) (ns.drop (i + 1)) j
            rw [List.length_map] at h1
            rw [List.length_drop] at h2
            rw [List.length_map]
            exact sl_lt (by omega)
          · rw [upd_same, List.map_append]
            rfl
          · rw [fs, List.map_append]
            exact hP3.snoc hp hD3
        · rw [decide_eq_false hc]
          rw [if_neg (by rw [decide_eq_false hc]; decide), List.append_nil] at fs
          refine iteF ⟨bs, e3, hD3, ?_⟩
          rw [fs]
          exact hP3
      · rintro H3 ⟨bs, e3, hD3, hP3⟩
        rw [List.length_map, List.take_length] at hP3
        have e123 := e1.trans (e2.trans e3)
        have hFk3 := (e2.trans e3) _ _ hFk
        have h1 := Paired.length hP
        have h2 := Paired.length hP3
        have h3 := lwTo_le ns (i + 1) (by omega)
        rw [lwTo_succ, List.length_append] at h3
        have h4 : (rowL ns i).length = bs.length := by
          rw [h2]
          unfold rowL
          rw [hx]
        refine ⟨Fk, D, _, _, rfl, rfl, hFk3, hD3, ?_, fun z hz => ?_⟩
        · rw [List.length_map, List.length_map]
          exact sl_small (by omega)
        · refine ⟨_, z, as ++ bs, rfl, e123.trans (Same.new hz), ?_, ?_⟩
          · rw [upd_same, List.map_append]
          · rw [lwTo_succ]
            unfold rowL
            rw [hx]
            exact Prs.append (Prs.same ((e2.trans e3).trans (Same.new hz)) hP) (Prs.same (Same.new hz) hP3)
    · rintro σ H1 ⟨y, Fk, as, rfl, e1, hFk, hP⟩
      refine ⟨_, rfl, Fk, as.map V.ref, rfl, .inl (.inl hFk), hP.at, fun ys p hp hnew => ?_⟩
      refine q p _ ys (e1.trans (Same.new hnew)) (e1.free hnew) upd_same ?_
      rw [hp.length_eq, List.length_map, Paired.length hP]
      exact lwTo_all ns
/-! ### _law_lines -/
abbrev st_llines : Stmt := top 42
abbrev nm_llines : List Str := ["_law_size", "_law_found", "_law_turn", "_law_longer", "_law_part", "_law_person"]
theorem sc_llines : FnScope nm_llines ["_law_size"] (defScope st_llines) := ⟨rfl, rfl, rfl, by decide +kernel, rfl, by decide +kernel, by decide +kernel⟩
theorem ok_llines {f : Addr} {fd : FuncData} (D : DefK K mg "_law_lines" st_llines ["_law_size"] f fd) (T : Txt mg) : FnOk P w K mg base CX0 1 f fd ["_law_size"] (sp_allLines K) := by
  refine D.F.ok sc_llines (fun vs H Q E h => ?_) (fun cdv A outer s H vs Q E hr h => ?_)
  · obtain ⟨n, rfl, _⟩ := h
    rfl
  · obtain ⟨n, rfl, h5, q⟩ := h
    refine ⟨_, pss_cons (ps_set (i := 1) sc_llines.nd rfl (.inl rfl) (pe_lst (pa_cons (pe_tup pa_nil) pa_nil)))
      (pss_cons (ps_for PassesOwn.never rfl (pi_range1 (by rfl) T.range (pa_cons (pv 0) pa_nil)) (pg_name (i := 2) sc_llines.nd rfl (.inl rfl))
        (pss_cons (ps_set (i := 3) sc_llines.nd rfl (.inl rfl) (pe_lst pa_nil))
        (pss_cons (ps_for PassesOwn.never rfl (pi_list (pv 1)) (pg_name (i := 4) sc_llines.nd rfl (.inr rfl))
          (pss_one (ps_set (i := 3) sc_llines.nd rfl (.inl rfl) (pe_op op_cat (pv 3) (pe_lc (own := [("_law_person", 5)]) (g := gName 5) (tt := tTest (tOp (rIn K true) (tVar 5) (tVar 4))) (te := tOp (rCatS K) (tVar 4) (tTup (tCons (tVar 5) tNil))) (by rfl) sc_llines.nd
            (pi_range1 (by rfl) T.range (pa_cons (pv 0) pa_nil)) (blkOk_by (own := [("_law_person", 5)]) (N := nm_llines) (sc := defScope st_llines) (by decide +kernel)) (fun _ _ _ _ _ => pg_name (i := 5) sc_llines.nd rfl (Or.inl rfl))
            (fun _ _ _ _ _ => pts_one (pt_cmpR op_notIn_seq (pv 5) (pv 4) (by rfl))) (fun _ _ _ _ _ => pe_op op_catS (pv 4) (pe_tup (pa_cons (pv 5) pa_nil))))))))
        (pss_one (ps_set (i := 1) sc_llines.nd rfl (.inl rfl) (pv 3))))))
      (pss_one (ps_ret (pv 1)))), ?_⟩
    refine ⟨Nat.zero_le _, fun z hz => ⟨by show 1 ≤ sizeLine; decide, fun L hLn => ?_⟩⟩
    have hLH : H L = none := (Same.new hz).free hLn
    refine ⟨_, rfl, n, rfl, by omega, by omega, for_range (lo := 0) (n := (n : Int).toNat) (fun k σ H' => ∃ y Lk y3 y4 as, σ = [some (.int n), some (.ref Lk), y, y3, y4, none] ∧ Same H H' ∧ H Lk = none ∧ H' Lk = some (.lst (as.map V.ref)) ∧ Tups K H' as (linesN n k))
      ⟨none, L, none, none, [z], rfl, (Same.new hz).trans (Same.new hLn), hLH, upd_same, .cons (Same.sqT (Same.new hLn) SqT.new) .nil⟩ ?_ ?_⟩
    · rintro k σ H1 hk ⟨y, Lk, y3, y4, as, rfl, e1, nL, hL1, hT1⟩
      have hk5 : k ≤ 5 := by omega
      have hlen := hT1.length
      have hsm := linesN_small n h5 k hk5
      refine ⟨Nat.zero_le _, fun G0 hG0 => ?_⟩
      have eG : Same H1 (upd H1 G0 (.lst [])) := Same.new hG0
      refine ⟨_, rfl, Lk, rfl, ⟨_, .inl (.inl (eG _ _ hL1))⟩, ?_⟩
      refine for_list (K := K) (a := Lk) (xs := as.map V.ref) (fun i σ H' => ∃ yp Gk bs, σ = [some (.int n), some (.ref Lk), some (.int (0 + (k : Int))), some (.ref Gk), yp, none] ∧ Same H1 H' ∧ H1 Gk = none ∧ H' Gk = some (.lst (bs.map V.ref)) ∧ Tups K H' bs (((linesN n k).take i).flatMap (ext n)))
        ⟨y4, G0, [], rfl, eG, hG0, upd_same, .nil⟩ (fun i σ H' _ ⟨_, _, _, _, e, _⟩ => .inl (.inl (e _ _ hL1))) ?_ ?_
      · rintro i x σ H2 hx ⟨yp, Gk, bs, rfl, e2, nG, hG2, hT2⟩
        have hi1 : i < as.length := by
          have := (List.getElem?_eq_some_iff.mp hx).1
          rwa [List.length_map] at this
        have hi2 : i < (linesN n k).length := by omega
        rw [List.getElem?_map, List.getElem?_eq_getElem hi1] at hx
        cases hx
        obtain ⟨row, hrow, hsq⟩ := hT1.get (List.getElem?_eq_getElem hi1)
        rw [List.getElem?_eq_getElem hi2] at hrow
        have hrow' := Option.some.inj hrow
        have hrl : row.length ≤ 5 := by
          have hm : row ∈ linesN n k := by rw [← hrow']; exact List.getElem_mem hi2
          have := ((mem_linesN k row).mp hm).1
          omega
        refine ⟨_, rfl, _, rfl, n, rfl, by omega, by omega, fun D hD => ?_⟩
        refine lc_range (lo := 0) (n := (n : Int).toNat) (fun j H' => ∃ cs, Same H2 H' ∧ H' D = some (.lst (cs.map V.ref)) ∧ Tups K H' cs ((((rangeI n).take j).filter fun p => !row.contains p).map fun p => row ++ [p]))
          ⟨[], Same.new hD, upd_same, .nil⟩ ?_ ?_
        · rintro j H3 hj ⟨cs, e3, hD3, hT3⟩
          have hj' : j < (rangeI n).length := by rw [rangeI_length]; omega
          have fs := filt_step (fun p => !row.contains p) hj'
          rw [rangeI_at hj'] at fs
          have ez : (0 : Int) + (j : Int) = (j : Int) := Int.zero_add _
          rw [ez]
          have hsq3 : SqT K H3 as[i] (iV row) := Same.sqT (e2.trans e3) hsq
          refine ⟨rfl, _, rfl, _, rfl, as[i], iV row, rfl, .inr hsq3, rfl, flat_iV _, _, rfl, ?_⟩
          rw [if_pos rfl, inV_iV]
          by_cases hc : row.contains (j : Int) = true
          · rw [hc]
            rw [if_neg (by rw [hc]; decide), List.append_nil] at fs
            refine iteF ⟨cs, e3, hD3, ?_⟩
            rw [fs]
            exact hT3
          · have hc' : row.contains (j : Int) = false := by simpa using hc
            rw [hc']
            rw [if_pos (by rw [hc']; decide)] at fs
            refine iteT ⟨_, rfl, _, rfl, by show 1 ≤ sizeLine; decide, fun p hp => ?_⟩
            have e4 : Same H3 (upd H3 p (.tup [.int (j : Int)])) := Same.new hp
            refine ⟨as[i], p, iV row, _, rfl, rfl, Same.sqT e4 hsq3, SqT.new, sl_small (by rw [List.length_map]; show row.length + 1 ≤ 10000; omega), fun r H5 e5 hr5 => ?_⟩
            have e45 := e4.trans e5
            have hD5 := e45 _ _ hD3
            refine ⟨_, hD5, ?_, cs ++ [r], Same.upL (e3.trans e45) hD, ?_, ?_⟩
            · have h1 := hT3.length
              rw [List.length_map] at h1
              have h2 := filt_len (fun p => !row.contains p) (rangeI n) j
              rw [rangeI_length] at h2
              rw [List.length_map]
              exact sl_lt (by omega)
            · rw [upd_same, List.map_append]
              rfl
            · rw [fs, List.map_append]
              have et : iV row ++ [V.int (j : Int)] = iV (row ++ [(j : Int)]) := by unfold iV; rw [List.map_append]; rfl
              refine Tups.append (Tups.mono (fun a ys h => sqT_upd (Same.sqT e45 h) hD5) hT3) (.cons (sqT_upd ?_ hD5) .nil)
              rw [← et]
              exact hr5
        · rintro H3 ⟨cs, e3, hD3, hT3⟩
          have er : (rangeI n).take (n : Int).toNat = rangeI n := List.take_of_length_le (by rw [rangeI_length]; omega)
          rw [er] at hT3
          have hG3 := e3 _ _ hG2
          have h1 := hT2.length
          have h2 := flat_len n ((linesN n k).take i)
          have h3 := hT3.length
          have h4 := ext_len n row
          unfold ext fit at h4
          rw [List.length_take] at h2
          have h6 : min i (linesN n k).length * n ≤ 3125 * 5 := Nat.mul_le_mul (by omega) h5
          refine ⟨Gk, D, _, _, rfl, rfl, hG3, hD3, ?_, fun z hz => ?_⟩
          · rw [List.length_map, List.length_map, sizeLine_eq]
            omega
          · have e4 : Same H3 (upd H3 z (.lst (bs.map V.ref ++ cs.map V.ref))) := Same.new hz
            refine ⟨_, z, bs ++ cs, rfl, e2.trans (e3.trans e4), (e2.trans e3).free hz, ?_, ?_⟩
            · rw [upd_same, List.map_append]
            · rw [pre_mem hi2, List.flatMap_append, hrow']
              have eo : ([row] : List (List Int)).flatMap (ext n) = ((rangeI n).filter fun p => !row.contains p).map fun p => row ++ [p] := by simp [ext, fit]
              rw [eo]
              exact Tups.append (Tups.mono (fun a ys h => Same.sqT (e3.trans e4) h) hT2) (Tups.mono (fun a ys h => Same.sqT e4 h) hT3)
      · rintro σ H2 ⟨yp, Gk, bs, rfl, e2, nG, hG2, hT2⟩
        rw [List.length_map, hlen, List.take_length] at hT2
        refine ⟨_, rfl, _, Gk, _, _, bs, rfl, e1.trans e2, e1.free nG, hG2, hT2⟩
    · rintro σ H1 ⟨y, Lk, y3, y4, as, rfl, e1, nL, hL1, hT1⟩
      rw [Int.toNat_natCast] at hT1
      exact ⟨_, rfl, q Lk H1 as e1 nL hL1 hT1⟩
end
end Ov
set_option Elab.async false
set_option linter.all false
set_option maxRecDepth 100000
set_option maxHeartbeats 8000000
namespace Ov
open PySem PySem.Spec PyProof.Rows L2
theorem Eqv.int {K : PySem.W.Frag} {H : Hp} (i : Int) : ∀ m, Eqv K m H (.int i) (.int i)
  | 0 => ⟨i, rfl, rfl⟩
  | _ + 1 => .inl ⟨i, rfl, rfl⟩
theorem Eqv.nums {K : PySem.W.Frag} {H : Hp} {a b : Addr} {o : List Int} (m : Nat) (ha : SqT K H a (iV o)) (hb : SqT K H b (iV o)) (hl : o.length ≤ 100) : Eqv K (m + 1) H (.ref a) (.ref b) := by
  refine .inr ⟨a, b, iV o, iV o, rfl, rfl, ha, hb, rfl, by rw [List.length_map]; exact hl, fun j u v hu hv => ?_⟩
  rw [hu] at hv
  cases hv
  rw [List.getElem?_map] at hu
  obtain ⟨i, _, rfl⟩ := Option.map_eq_some_iff.mp hu
  exact Eqv.int i m
theorem RowC.at {H : Hp} {R sa : Addr} (h : RowC H R sa) : ∃ ys, H R = some (.lst ys) := let ⟨_, _, _, e, _⟩ := h; ⟨_, e⟩
theorem leftN_nonneg {n : Nat} {ns : List Int} {m : Int} (h : m ∈ leftN n ns) : 0 ≤ m := by
  unfold leftN at h
  obtain ⟨o, _, rfl⟩ := List.mem_map.mp h
  omega
theorem rep_get {n i : Nat} (h : i < n) : (List.replicate n (0 : Int))[i]? = some 0 := by
  rw [List.getElem?_replicate, if_pos h]
section
variable {P : Program} {w : World} {K : PySem.W.Frag} {mg : Str → Option Value} {base : Heap}
abbrev st_law : Stmt := top 43
abbrev nm_law : List Str := ["_law_script", "_law_row", "_law_line_here", "_law_order", "_law_here", "_law_gains", "_law_person", "_law_there", "_law_small", "_law_some", "_law_left", "_law_one"]
theorem sc_law : FnScope nm_law ["_law_script"] (defScope st_law) := ⟨rfl, rfl, rfl, by decide +kernel, rfl, by decide +kernel, by decide +kernel⟩
def spLaw (K : PySem.W.Frag) : Sp := fun vs H Q _ => ∃ (a : Addr) (ns : List Int), vs = [.ref a] ∧ SqL K H a (ns.map V.int) ∧ ns.length ≤ 63 ∧ ∀ H', Q (.bl true) H'
theorem ok_law {f f1 f2 f3 f4 f5 f6 f7 f8 f9 g1 g2 g3 g4 : Addr} {fd d1 d2 d3 d4 d5 d6 d7 d8 d9 c1 c2 c3 c4 : FuncData} (D : DefK K mg "law" st_law ["_law_script"] f fd) (T : Txt mg)
    (D1 : DefK K mg "_law_line" st_lline ["_law_row", "_law_most"] f1 d1) (G1 : FnOk P w K mg base CX0 2 f1 d1 ["_law_row", "_law_most"] (sp_lline K))
    (D2 : DefK K mg "_law_same" st_lsame ["_law_row", "_law_line_here"] f2 d2) (G2 : FnOk P w K mg base CX0 2 f2 d2 ["_law_row", "_law_line_here"] (sp_lsame K))
    (D3 : DefK K mg "_law_call" st_lcall ["_law_line_here", "_law_person"] f3 d3) (G3 : FnOk P w K mg base CX0 1 f3 d3 ["_law_line_here", "_law_person"] sp_call)
    (D4 : DefK K mg "_law_alike" st_alike ["_law_found", "_law_due"] f4 d4) (G4 : FnOk P w K mg base CX0 3 f4 d4 ["_law_found", "_law_due"] (sp_alike K 3))
    (D5 : DefK K mg "order_gains" st_gains ["line", "order"] f5 d5) (G5 : FnOk P w K mg base CX0 4 f5 d5 ["line", "order"] (sp_gains K))
    (D6 : DefK K mg "count_wrong" st_cw ["line"] f6 d6) (G6 : FnOk P w K mg base CX0 4 f6 d6 ["line"] sp_cw)
    (D7 : DefK K mg "round_line" st_roundLine ["line", "order"] f7 d7) (G7 : FnOk P w K mg base CX0 5 f7 d7 ["line", "order"] (sp_roundLine K))
    (D8 : DefK K mg "_law_lines" st_llines ["_law_size"] f8 d8) (G8 : FnOk P w K mg base CX0 1 f8 d8 ["_law_size"] (sp_allLines K))
    (D9 : DefK K mg "_law_wrong" st_lwrong ["_law_line_here"] f9 d9) (G9 : FnOk P w K mg base CX0 1 f9 d9 ["_law_line_here"] sp_wrong)
    (E1 : DefK K mg "_law_done" st_ldone ["_law_line_here", "_law_calls"] g1 c1) (J1 : FnOk P w K mg base CX0 2 g1 c1 ["_law_line_here", "_law_calls"] (sp_round K))
    (E2 : DefK K mg "best_orders" st_best ["line"] g2 c2) (J2 : FnOk P w K mg base CX0 5 g2 c2 ["line"] sp_best)
    (E3 : DefK K mg "worst_orders" st_worst ["line"] g3 c3) (J3 : FnOk P w K mg base CX0 5 g3 c3 ["line"] (sp_worst K))
    (E4 : DefK K mg "count_sorting" st_cs ["line"] g4 c4) (J4 : FnOk P w K mg base CX0 10 g4 c4 ["line"] sp_cs) : FnOk P w K mg base CX0 11 f fd ["_law_script"] (spLaw K) := by
  refine D.F.ok sc_law (fun vs H Q E h => ?_) (fun cdv A outer s H vs Q E hr h => ?_)
  · obtain ⟨a, ns, rfl, _⟩ := h
    rfl
  · obtain ⟨a, sn, rfl, hS, _, q⟩ := h
    refine ⟨_, pss_cons (ps_set (i := 1) sc_law.nd rfl (.inl rfl) (pe_lst (pa_cons (pv 0) (pa_cons pe_int (pa_cons pe_int (pa_cons pe_int pa_nil))))))
      (pss_cons (ps_set (i := 2) sc_law.nd rfl (.inl rfl) (pe_k G1 D1 (hr.mono (by decide)) (pa_cons (pv 1) (pa_cons pe_int pa_nil))))
      (pss_cons (ps_par3 (i := 3) (j := 4) (l := 5) rfl sc_law.nd rfl rfl rfl (by decide) (by decide) (by decide) rfl rfl rfl (pa_cons (pe_k G2 D2 (hr.mono (by decide)) (pa_cons (pv 1) (pa_cons (pv 2) pa_nil)))
        (pa_cons (pv 2) (pa_cons (pe_op op_rep (pe_lst (pa_cons pe_int pa_nil)) (pe_callB call_len_seq (by rfl) T.len PySem.boot_len (pa_cons (pv 2) pa_nil))) pa_nil))) (by rfl))
      (pss_cons (ps_for PassesOwn.never rfl (pi_tup (pv 3)) (pg_name (i := 6) sc_law.nd rfl (.inl rfl))
        (pss_cons (ps_set (i := 7) sc_law.nd rfl (.inl rfl) (pe_k G3 D3 (hr.mono (by decide)) (pa_cons (pv 4) (pa_cons (pv 6) pa_nil))))
        (pss_cons (ps_asg (pe_op op_sub (pe_idxF (pv 4) (pa_cons (pv 6) pa_nil)) (pe_idxF (pv 7) (pa_cons (pv 6) pa_nil))) (pg_sub (pv 5) (pv 6) set_list))
        (pss_one (ps_set (i := 4) sc_law.nd rfl (.inl rfl) (pv 7))))))
      (pss_cons (ps_if (pt_not (pt_val (pe_k G4 D4 (hr.mono (by decide)) (pa_cons (pe_k G5 D5 (hr.mono (by decide)) (pa_cons (pv 2) (pa_cons (pv 3) pa_nil))) (pa_cons (pe_callTy call_tupF (by rfl) T.ttup b_tup (pa_cons (pv 5) pa_nil)) pa_nil))))) (pss_one ps_never) pss_nil)
      (pss_cons (ps_if (pt_cmpR op_ne (pe_callB (cr_sum rfl) (by rfl) T.sum b_sum (pa_cons (pv 5) pa_nil)) (pe_op op_sub (pe_k G6 D6 (hr.mono (by decide)) (pa_cons (pv 2) pa_nil))
        (pe_k G6 D6 (hr.mono (by decide)) (pa_cons (pe_k G7 D7 (hr.mono (by decide)) (pa_cons (pv 2) (pa_cons (pv 3) pa_nil))) pa_nil))) (nomark _)) (pss_one ps_never) pss_nil)
      (pss_cons (ps_set (i := 8) sc_law.nd rfl (.inr rfl) (pe_k G1 D1 (hr.mono (by decide)) (pa_cons (pv 1) (pa_cons pe_int pa_nil))))
      (pss_cons (ps_set (i := 9) sc_law.nd rfl (.inl rfl) (pe_k G8 D8 (hr.mono (by decide)) (pa_cons (pe_callB call_len_seq (by rfl) T.len PySem.boot_len (pa_cons (pv 8) pa_nil)) pa_nil)))
      (pss_cons (ps_setLc (i := 10) (own := [("_law_one", 11)]) (g := gName 11) (te := tCB (rLenSeq K) (tCons (tCall sp_wrong [] E0 (tCons (tCall (sp_round K) [] E0 (tCons (tVar 8) (tCons (tVar 11) tNil))) tNil)) tNil)) (by rfl) sc_law.nd rfl rfl (sw_true rfl rfl rfl (by decide +kernel))
        (pi_list (pv 9)) (blkOk_by (own := [("_law_one", 11)]) (N := nm_law) (sc := defScope st_law) (by decide +kernel)) (fun _ _ _ _ _ => pg_name (i := 11) sc_law.nd rfl (Or.inl rfl)) (fun _ _ _ _ _ => pts_nil)
        (fun _ _ _ _ _ => pe_callB call_len_seq (by rfl) T.len PySem.boot_len (pa_cons (pe_k G9 D9 (hr.mono (by decide)) (pa_cons (pe_k J1 E1 (hr.mono (by decide)) (pa_cons (pv 8) (pa_cons (pv 11) pa_nil))) pa_nil)) pa_nil)))
      (pss_cons (ps_if (pt_not (pt_val (pe_k G4 D4 (hr.mono (by decide)) (pa_cons (pe_k J2 E2 (hr.mono (by decide)) (pa_cons (pv 8) pa_nil)) (pa_cons (pe_tup (pa_cons (pe_callB (cr_min rfl) (by rfl) T.min b_min (pa_cons (pv 10) pa_nil))
        (pa_cons (pe_bm PySem.F.plainAttrs_list PySem.F.slot_list_count PySem.F.type_list_count mt_lcount (pv 10) (pa_cons (pe_callB (cr_min rfl) (by rfl) T.min b_min (pa_cons (pv 10) pa_nil)) pa_nil)) pa_nil))) pa_nil))))) (pss_one ps_never) pss_nil)
      (pss_cons (ps_if (pt_not (pt_val (pe_k G4 D4 (hr.mono (by decide)) (pa_cons (pe_k J3 E3 (hr.mono (by decide)) (pa_cons (pv 8) pa_nil)) (pa_cons (pe_tup (pa_cons (pe_callB (cr_max rfl) (by rfl) T.max b_max (pa_cons (pv 10) pa_nil))
        (pa_cons (pe_ix ix_list (pv 9) (pe_bm PySem.F.plainAttrs_list PySem.F.slot_list_index PySem.F.type_list_index mt_index (pv 10) (pa_cons (pe_callB (cr_max rfl) (by rfl) T.max b_max (pa_cons (pv 10) pa_nil)) pa_nil)) (fun _ _ => rfl)) pa_nil))) pa_nil))))) (pss_one ps_never) pss_nil)
      (pss_one (ps_ret (pe_and (pe_cmpR op_eq (pe_callB (cr_min rfl) (by rfl) T.min b_min (pa_cons (pv 10) pa_nil)) pe_int (nomark _))
        (pe_one (pe_cmpR op_eq (pe_ix ix_tup (pe_k J2 E2 (hr.mono (by decide)) (pa_cons (pv 8) pa_nil)) pe_int (fun _ _ => rfl)) (pe_k J4 E4 hr (pa_cons (pv 8) pa_nil)) (nomark _)))))))))))))))), ?_⟩
    refine ⟨_, rfl, by show 4 ≤ sizeLine; decide, fun R hRn => ?_⟩
    have e0 : Same H (upd H R (.lst [.ref a, .int 0, .int 9573, .int 0])) := Same.new hRn
    have hScr : Scr K (upd H R (.lst [.ref a, .int 0, .int 9573, .int 0])) a R := by
      rcases hS with (h | ⟨u, h⟩) | h
      · exact ⟨sn, .inl ⟨.inl (e0 _ _ h), ne_of_none h hRn⟩⟩
      · exact ⟨sn, .inl ⟨.inr ⟨u, e0 _ _ h⟩, ne_of_none h hRn⟩⟩
      · exact ⟨sn, .inr h⟩
    have hRow : Row K (upd H R (.lst [.ref a, .int 0, .int 9573, .int 0])) R a := ⟨⟨0, 9573, 0, upd_same, by decide, by decide, by decide⟩, hScr⟩
    refine ⟨_, rfl, R, a, 8, rfl, hRow, by decide, by decide, fun l2 H2 n ns b2 r2 hF2 hl2 h1 h8 => ?_⟩
    have hL2 : LineAt H2 l2 n ns := ⟨hF2, hl2, h1, h8⟩
    have hlen := hl2.len
    refine ⟨_, rfl, _, rfl, R, a, l2, n, ns, rfl, r2, hL2, fun lo H3 os b3 r3 hF3 hl3 => ?_⟩
    obtain ⟨_, hR2⟩ := r2.1.at
    have hL3 := b3.lineR hR2 hL2
    refine ⟨_, rfl, by show 1 ≤ sizeLine; decide, fun z hz => ?_⟩
    have e4 : Same H3 (upd H3 z (.lst [.int 0])) := Same.new hz
    refine ⟨_, rfl, l2, _, rfl, .inr (Same.sqT e4 hL3.t), z, _, _, rfl, rfl, upd_same, by omega, by rw [List.length_map]; omega, ?_, fun G hGn => ?_⟩
    · rw [List.length_map, Int.toNat_natCast, hlen]
      exact sl_small (by show 1 * n ≤ 10000; omega)
    have e5 := e4.trans (Same.new (o := .lst (List.replicate (((iV ns).length : Nat) : Int).toNat ([.int 0] : List V)).flatten) hGn)
    have hGH : H3 G = none := e4.free hGn
    refine ⟨_, _, _, rfl, ?_⟩
    refine ⟨_, rfl, lo, rfl, ⟨_, SqF.t (hF3.same e5)⟩, for_tup (K := K) (a := lo) (xs := iV os) (fun i σ H' => ∃ y6 y7 la g, σ = [some (.ref a), some (.ref R), some (.ref l2), some (.ref lo), some (.ref la), some (.ref G), y6, y7, none, none, none, none] ∧ Same H3 H' ∧ LineAt H' la n ((os.take i).foldl callL ns) ∧ H' G = some (.lst (iV g)) ∧ g.length = n ∧
      gainsGo (os.drop i) ((os.take i).foldl callL ns) g = gainsGo os ns (List.replicate n 0))
      ⟨none, none, l2, List.replicate n 0, rfl, e5, hL3.same e5, ?_, List.length_replicate, rfl⟩ (fun i σ H' _ ⟨_, _, _, _, _, e, _⟩ => SqF.t (hF3.same e)) ?_ ?_⟩
    · rw [upd_same, List.length_map, Int.toNat_natCast, hlen, rep_zero]
    · rintro i x σ H4 hx ⟨y6, y7, la, g, rfl, e6, hla, hg, hgl, eg⟩
      have hi : i < os.length := by
        have := (List.getElem?_eq_some_iff.mp hx).1
        rwa [List.length_map] at this
      cases (iV_get hi).symm.trans hx
      have hp := (hl3.mem _).mp (List.getElem_mem hi)
      refine ⟨_, rfl, _, rfl, la, n, _, os[i], rfl, hla, hp, fun r H5 e7 hr5 => ?_⟩
      have hla5 := hla.same e7
      refine ⟨_, rfl, ⟨la, _, rfl, hla5.f⟩, _, rfl, la, _, os[i], rfl, rfl, hla5.t, (hla.l.mem _).mpr hp, ?_⟩
      refine ⟨_, rfl, ⟨r, _, rfl, hr5.f⟩, _, rfl, r, _, os[i], rfl, rfl, hr5.t, (hr5.l.mem _).mpr hp, _, _, rfl, rfl, ?_⟩
      refine ⟨_, rfl, _, rfl, G, iV g, os[i], os[i].toNat, rfl, rfl, e7 _ _ hg, by rw [List.length_map, hgl]; exact ixN_nat hp.1 hp.2, ?_⟩
      refine ⟨_, rfl, _, _, r, g.set os[i].toNat ((((os.take i).foldl callL ns).idxOf os[i] : Int) - ((callL ((os.take i).foldl callL ns) os[i]).idxOf os[i] : Int)), rfl, Same.upL (e6.trans e7) hGH, ?_, ?_, ?_, ?_⟩
      · rw [after_snoc ns os hi]
        exact ⟨hr5.f.upd (e7 _ _ hg), hr5.l, hr5.lo, hr5.hi⟩
      · rw [upd_same]
        unfold iV
        rw [List.map_set]
      · rw [List.length_set]
        exact hgl
      · rw [← eg, List.drop_eq_getElem_cons hi, after_snoc ns os hi]
        rfl
    rintro σ H4 ⟨y6, y7, la, g, rfl, e6, hla, hg, hgl, eg⟩
    rw [List.length_map, List.drop_length] at eg
    have eg' : g = gainsGo os ns (List.replicate n 0) := eg
    have hL4 := hL3.same e6
    have hO4 := hF3.same e6
    have r4 := r3.1.same e6
    have b4 : But R (upd H R (.lst [.ref a, .int 0, .int 9573, .int 0])) H4 := (b2.trans b3).trans (But.of e6)
    -- the gains
    refine ⟨_, rfl, _, rfl, l2, lo, n, ns, os, rfl, hL4, SqF.t hO4, hl3, fun rg H5 e7 hrg => ?_⟩
    refine ⟨_, rfl, G, _, rfl, .inl (.inl (e7 _ _ hg)), fun rt H6 e8 hrt => ?_⟩
    rw [eg'] at hrt hg hgl
    refine ⟨.ref rg, .ref rt, rfl, Eqv.nums 1 (Same.sqT e8 hrg) (SqF.t hrt) (by rw [hgl]; omega), fun H7 e9 => ⟨true, rfl, iteF ?_⟩⟩
    have e79 := e7.trans (e8.trans e9)
    -- the sum
    have hG7 := e79 _ _ hg
    refine ⟨_, rfl, G, _, rfl, .inl (.inl hG7), ?_⟩
    have hsum : (gainsGo os ns (List.replicate n 0)).sum = (inv ns : Int) - (inv (os.foldl callL ns) : Int) := by
      rw [gains_sum os ns _ hl3.nd fun p hp => ?_]
      · have : (List.replicate n (0 : Int)).sum = 0 := by simp
        omega
      · have hp' := (hl3.mem p).mp hp
        exact ⟨(hl2.mem p).mpr hp', hp'.1, rep_get (by omega)⟩
    refine ⟨_, rfl, l2, n, ns, rfl, hL4.same e79, fun H8 e10 => ?_⟩
    refine ⟨_, rfl, _, rfl, l2, lo, n, ns, os, rfl, hL4.same (e79.trans e10), SqF.t (hO4.same (e79.trans e10)), hl3, fun l3 H9 e11 hL9 => ?_⟩
    refine ⟨l3, n, _, rfl, hL9, fun H10 e12 => ?_⟩
    refine ⟨_, _, rfl, rfl, rfl, _, rfl, iteNS (by rw [hsum]) ?_⟩
    have e410 := e79.trans (e10.trans (e11.trans e12))
    have b10 := b4.trans (But.of e410)
    -- the small line
    refine ⟨_, rfl, R, a, 5, rfl, ⟨r4.same e410, hScr.but b10⟩, by decide, by decide, fun l5 H11 n5 ss b5 r5 hF5 hl5 h51 h55 => ?_⟩
    have hL5 : LineAt H11 l5 n5 ss := ⟨hF5, hl5, h51, by omega⟩
    have hlen5 := hl5.len
    refine ⟨_, rfl, l5, _, rfl, .inr hL5.t, n5, by rw [List.length_map, hlen5]; rfl, h55, fun rs H12 as e13 _ hrs hT => ?_⟩
    have hlen2 := hT.length
    have hsm := linesN_small n5 h55 n5 h55
    refine ⟨_, rfl, rs, rfl, ⟨_, .inl (.inl hrs)⟩, fun L hLn => ?_⟩
    refine lc_list (K := K) (a := rs) (xs := as.map V.ref) (fun i H' => Same H12 H' ∧ H' L = some (.lst (iV ((leftN n5 ss).take i)))) ⟨Same.new hLn, upd_same⟩ (fun i H' _ ⟨e, _⟩ => .inl (.inl (e _ _ hrs))) ?_ ?_
    · rintro i x H3 hx ⟨e3, hL3⟩
      have hi : i < as.length := by
        have := (List.getElem?_eq_some_iff.mp hx).1
        rwa [List.length_map] at this
      have hi2 : i < (linesN n5 n5).length := by omega
      rw [List.getElem?_map, List.getElem?_eq_getElem hi] at hx
      cases hx
      obtain ⟨o, ho, hsq⟩ := hT.get (List.getElem?_eq_getElem hi)
      have hom := (mem_linesN n5 o).mp (List.mem_of_getElem? ho)
      refine ⟨rfl, ?_⟩
      refine ⟨_, rfl, _, rfl, l5, as[i], n5, ss, o, rfl, hL5.same (e13.trans e3), Same.sqT e3 hsq, by omega, hom.2.2, fun l H4 e4 hl4 => ?_⟩
      refine ⟨l, n5, _, rfl, hl4, fun z H5 xs e5 _ hz5 hxs => ?_⟩
      refine ⟨z, xs, rfl, .inl (.inl (.inl hz5)), ?_⟩
      refine ⟨_, e5 _ _ (e4 _ _ hL3), ?_, Same.upL (e3.trans (e4.trans e5)) hLn, ?_⟩
      · rw [List.length_map, List.length_take, sizeLine_eq]
        omega
      · have hil : i < (leftN n5 ss).length := by rw [leftN_len]; exact hi2
        have ev : (leftN n5 ss)[i] = (xs.length : Int) := by
          have h2 : (leftN n5 ss)[i]? = some (inv (o.foldl callL ss) : Int) := by
            unfold leftN
            rw [List.getElem?_map, ho]
            rfl
          rw [List.getElem?_eq_getElem hil] at h2
          rw [hxs]
          exact Option.some.inj h2
        rw [upd_same, pre_mem hil, ev]
        unfold iV
        rw [List.map_append]
        rfl
    rintro H13 ⟨e14, hL13⟩
    have hts : (leftN n5 ss).take (as.map V.ref).length = leftN n5 ss := List.take_of_length_le (by rw [List.length_map, leftN_len]; omega)
    rw [hts] at hL13
    have hSL : ∀ {H'}, Same H13 H' → SqL K H' L (iV (leftN n5 ss)) := fun e => .inl (.inl (e _ _ hL13))
    have hpos := leftN_pos hl5 h51 h55
    have hL13' := hL5.same (e13.trans e14)
    -- the best
    refine ⟨_, rfl, l5, n5, ss, rfl, hL13', h55, fun rb H14 m e15 hm1 hm2 hrb => ?_⟩
    refine ⟨_, rfl, L, _, rfl, hSL e15, hpos, fun m' hm1' hm2' => ?_⟩
    refine ⟨_, rfl, .inl ⟨rfl, _, hSL e15⟩, _, rfl, L, _, rfl, hSL e15, hpos, fun m'' hm1'' hm2'' => ?_⟩
    refine ⟨L, _, m'', rfl, rfl, hSL e15, by show 2 ≤ sizeLine; decide, fun p hp => ?_⟩
    have ea : m' = m := by
      have := hm2 m' hm1'
      have := hm2' m hm1
      omega
    have eb : m'' = m := by
      have := hm2 m'' hm1''
      have := hm2'' m hm1
      omega
    subst ea
    subst eb
    have e16 : Same H14 (upd H14 p (.tup [.int m'', .int ((leftN n5 ss).count m'' : Nat)])) := Same.new hp
    refine ⟨.ref rb, .ref p, rfl, Eqv.nums (o := [m'', (((leftN n5 ss).count m'' : Nat) : Int)]) 1 (.inl (.inl (e16 _ _ hrb))) SqT.new (by show 2 ≤ 100; decide), fun H15 e17 => ⟨true, rfl, iteF ?_⟩⟩
    have e1315 := e15.trans (e16.trans e17)
    -- the worst
    refine ⟨_, rfl, l5, n5, ss, rfl, hL13'.same e1315, h55, fun rw_ H16 q_ v o e18 hrw hq hW => ?_⟩
    have e1316 := e1315.trans e18
    refine ⟨_, rfl, L, _, rfl, hSL e1316, hpos, fun v' hv1 hv2 => ?_⟩
    obtain ⟨i, hwi, hoi, hw1, hw2⟩ := hW
    have ec : v' = v := by
      have h1 := hv2 v (List.mem_of_getElem? hwi)
      obtain ⟨j, hj⟩ := List.getElem?_of_mem hv1
      have h2 := hw1 j _ hj
      omega
    have hil : i < as.length := by
      have := (List.getElem?_eq_some_iff.mp hoi).1
      omega
    obtain ⟨o2, ho2, hsq⟩ := hT.get (List.getElem?_eq_getElem hil)
    rw [hoi] at ho2
    have eo := Option.some.inj ho2
    refine ⟨_, rfl, _, rfl, .inl ⟨rfl, _, hSL e1316⟩, _, rfl, L, _, rfl, hSL e1316, hpos, fun v'' hv1' hv2' => ?_⟩
    have ed : v'' = v := by
      have h1 := hv2' v (List.mem_of_getElem? hwi)
      obtain ⟨j, hj⟩ := List.getElem?_of_mem hv1'
      have h2 := hw1 j _ hj
      omega
    subst ec
    subst ed
    refine ⟨L, _, _, i, .int v'', rfl, rfl, hSL e1316, rfl, flat_iV _, by rw [List.getElem?_map, hwi]; rfl, decide_eq_true rfl, ?_, ?_⟩
    · intro j z' hj hz'
      have hjl : j < (leftN n5 ss).length := by
        have := (List.getElem?_eq_some_iff.mp hz').1
        rwa [List.length_map] at this
      cases (iV_get hjl).symm.trans hz'
      have := hw2 j _ hj (List.getElem?_eq_getElem hjl)
      exact decide_eq_false (fun e => by
        have e' := e
        omega)
    have hrs16 : SqL K H16 rs (as.map V.ref) := .inl (.inl ((e14.trans e1316) _ _ hrs))
    refine ⟨rs, _, _, .ref as[i], rfl, rfl, hrs16, at_of (j := i) rfl (by rw [List.getElem?_map, List.getElem?_eq_getElem hil]; rfl), by show 2 ≤ sizeLine; decide, fun p2 hp2 => ?_⟩
    have e19 : Same H16 (upd H16 p2 (.tup [.int v'', .ref as[i]])) := Same.new hp2
    refine ⟨.ref rw_, .ref p2, rfl, .inr ⟨rw_, p2, _, _, rfl, rfl, .inl (.inl (e19 _ _ hrw)), SqT.new, rfl, by show 2 ≤ 100; decide, fun j x y hx hy => ?_⟩, fun H17 e20 => ⟨true, rfl, iteF ?_⟩⟩
    · match j, hx, hy with
      | 0, hx, hy =>
        cases hx
        cases hy
        exact Eqv.int _ 1
      | 1, hx, hy =>
        cases hx
        cases hy
        refine Eqv.nums (o := o) 0 (Same.sqT e19 hq) (Same.sqT ((e14.trans e1316).trans e19) (eo ▸ hsq)) ?_
        have := ((mem_linesN n5 o).mp (List.mem_of_getElem? hoi)).1
        omega
      | j + 2, hx, hy => exact nomatch hx
    have e1317 := e1316.trans (e19.trans e20)
    have hz0 := zero_mem_left hl5 h51 h55
    -- the least is 0; so many orders sort
    refine ⟨_, rfl, L, _, rfl, hSL e1317, hpos, fun m hm1 hm2 => ?_⟩
    have em : m = 0 := by
      have := hm2 0 hz0
      have := leftN_nonneg hm1
      omega
    subst em
    refine ⟨rfl, true, rfl, iteT ?_⟩
    refine ⟨_, rfl, l5, n5, ss, rfl, hL13'.same e1317, h55, fun rb2 H18 m2 e21 hm21 hm22 hrb2 => ?_⟩
    have em2 : m2 = 0 := by
      have := hm22 0 hz0
      have := leftN_nonneg hm21
      omega
    subst em2
    refine ⟨rb2, _, _, _, rfl, rfl, .inl (.inl hrb2), at_of (j := 1) rfl rfl, ?_⟩
    refine ⟨_, rfl, l5, n5, ss, rfl, hL13'.same (e1317.trans e21), h55, fun H19 e22 => ⟨rfl, ?_⟩⟩
    have hfin := q H19
    have et : decide (V.int (((leftN n5 ss).count 0 : Nat) : Int) = V.int (((leftN n5 ss).count 0 : Nat) : Int)) = true := decide_eq_true rfl
    show Q (V.bl (decide (V.int (((leftN n5 ss).count 0 : Nat) : Int) = V.int (((leftN n5 ss).count 0 : Nat) : Int)))) H19
    rw [et]
    exact hfin
end
end Ov
set_option Elab.async false
set_option linter.all false
set_option maxRecDepth 100000
set_option maxHeartbeats 8000000
namespace Ov
open PySem PySem.Spec PyProof.Rows L2
/-! ### what the top has written -/
theorem all_mk {l : PySem.W.OpenLaw} {w : World} {K : PySem.W.Frag} {h : Heap} {mg : Str → Option Value} {fa f1 f2 f3 f4 f5 f6 f7 f8 f9 f10 f11 f12 f13 f14 f15 f16 f17 f18 f19 f20 f21 f22 f23 f24 f25 f26 f27 f28 f29 f30 f31 : Addr} (X : K.In h) (G : h.Ns mainGlobals mg) (hfa : mg "law" = some (.ref fa))
    {od1 an1 od2 an2 od3 an3 od4 an4 od5 an5 od6 an6 od7 an7 od8 an8 od9 an9 od10 an10 od11 an11 od12 an12 od13 an13 od14 an14 od15 an15 od16 an16 od17 an17 od18 an18 od19 an19 od20 an20 od21 an21 od22 an22 od23 an23 od24 an24 od25 an25 od26 an26 od27 an27 od28 an28 od29 an29 od30 an30 od31 an31 : Option Addr} {sl1 sl2 sl3 sl4 sl5 sl6 sl7 sl8 sl9 sl10 sl11 sl12 sl13 sl14 sl15 sl16 sl17 sl18 sl19 sl20 sl21 sl22 sl23 sl24 sl25 sl26 sl27 sl28 sl29 sl30 sl31 : Array (Option Value)} {oc1 kV1 dc1 pm1 cd1 ct1 oc2 kV2 dc2 pm2 cd2 ct2 oc3 kV3 dc3 pm3 cd3 ct3 oc4 kV4 dc4 pm4 cd4 ct4 oc5 kV5 dc5 pm5 cd5 ct5 oc6 kV6 dc6 pm6 cd6 ct6 oc7 kV7 dc7 pm7 cd7 ct7 oc8 kV8 dc8 pm8 cd8 ct8 oc9 kV9 dc9 pm9 cd9 ct9 oc10 kV10 dc10 pm10 cd10 ct10 oc11 kV11 dc11 pm11 cd11 ct11 oc12 kV12 dc12 pm12 cd12 ct12 oc13 kV13 dc13 pm13 cd13 ct13 oc14 kV14 dc14 pm14 cd14 ct14 oc15 kV15 dc15 pm15 cd15 ct15 oc16 kV16 dc16 pm16 cd16 ct16 oc17 kV17 dc17 pm17 cd17 ct17 oc18 kV18 dc18 pm18 cd18 ct18 oc19 kV19 dc19 pm19 cd19 ct19 oc20 kV20 dc20 pm20 cd20 ct20 oc21 kV21 dc21 pm21 cd21 ct21 oc22 kV22 dc22 pm22 cd22 ct22 oc23 kV23 dc23 pm23 cd23 ct23 oc24 kV24 dc24 pm24 cd24 ct24 oc25 kV25 dc25 pm25 cd25 ct25 oc26 kV26 dc26 pm26 cd26 ct26 oc27 kV27 dc27 pm27 cd27 ct27 oc28 kV28 dc28 pm28 cd28 ct28 oc29 kV29 dc29 pm29 cd29 ct29 oc30 kV30 dc30 pm30 cd30 ct30 oc31 kV31 dc31 pm31 cd31 ct31 : Value} {t1 t2 : Tok}
    (a1 : PySem.W.nsIn K mainGlobals "is_integer" = some (some (.ref f1))) (l1 : K.lookup f1 = some ⟨oc1, od1, .func (PySem.W.fnOf "is_integer" "is_integer" (defArgs st_isInt) (defBody st_isInt) (defScope st_isInt) .none kV1 dc1 pm1 an1 cd1 ct1), sl1⟩) (c1 : PySem.W.codeIn K cd1 "is_integer" = true) (k1 : PySem.W.keepIn K (.ref f1) = true)
    (a2 : PySem.W.nsIn K mainGlobals "is_in" = some (some (.ref f2))) (l2 : K.lookup f2 = some ⟨oc2, od2, .func (PySem.W.fnOf "is_in" "is_in" (defArgs st_isIn) (defBody st_isIn) (defScope st_isIn) .none kV2 dc2 pm2 an2 cd2 ct2), sl2⟩) (c2 : PySem.W.codeIn K cd2 "is_in" = true) (k2 : PySem.W.keepIn K (.ref f2) = true)
    (a3 : PySem.W.nsIn K mainGlobals "is_list" = some (some (.ref f3))) (l3 : K.lookup f3 = some ⟨oc3, od3, .func (PySem.W.fnOf "is_list" "is_list" (defArgs st_isList) (defBody st_isList) (defScope st_isList) .none kV3 dc3 pm3 an3 cd3 ct3), sl3⟩) (c3 : PySem.W.codeIn K cd3 "is_list" = true) (k3 : PySem.W.keepIn K (.ref f3) = true)
    (a4 : PySem.W.nsIn K mainGlobals "need_line" = some (some (.ref f4))) (l4 : K.lookup f4 = some ⟨oc4, od4, .func (PySem.W.fnOf "need_line" "need_line" (defArgs st_needLine) (defBody st_needLine) (defScope st_needLine) .none kV4 dc4 pm4 an4 cd4 ct4), sl4⟩) (c4 : PySem.W.codeIn K cd4 "need_line" = true) (k4 : PySem.W.keepIn K (.ref f4) = true)
    (a5 : PySem.W.nsIn K mainGlobals "factorial" = some (some (.ref f5))) (l5 : K.lookup f5 = some ⟨oc5, od5, .func (PySem.W.fnOf "factorial" "factorial" (defArgs st_fac) (defBody st_fac) (defScope st_fac) .none kV5 dc5 pm5 an5 cd5 ct5), sl5⟩) (c5 : PySem.W.codeIn K cd5 "factorial" = true) (k5 : PySem.W.keepIn K (.ref f5) = true)
    (a6 : PySem.W.nsIn K mainGlobals "all_lines" = some (some (.ref f6))) (l6 : K.lookup f6 = some ⟨oc6, od6, .func (PySem.W.fnOf "all_lines" "all_lines" (defArgs st_allLines) (defBody st_allLines) (defScope st_allLines) .none kV6 dc6 pm6 an6 cd6 ct6), sl6⟩) (c6 : PySem.W.codeIn K cd6 "all_lines" = true) (k6 : PySem.W.keepIn K (.ref f6) = true)
    (a7 : PySem.W.nsIn K mainGlobals "shorter_in" = some (some (.ref f7))) (l7 : K.lookup f7 = some ⟨oc7, od7, .func (PySem.W.fnOf "shorter_in" "shorter_in" (defArgs st_shorter) (defBody st_shorter) (defScope st_shorter) .none kV7 dc7 pm7 an7 cd7 ct7), sl7⟩) (c7 : PySem.W.codeIn K cd7 "shorter_in" = true) (k7 : PySem.W.keepIn K (.ref f7) = true)
    (a8 : PySem.W.nsIn K mainGlobals "wrong_in" = some (some (.ref f8))) (l8 : K.lookup f8 = some ⟨oc8, od8, .func (PySem.W.fnOf "wrong_in" "wrong_in" (defArgs st_wrong) (defBody st_wrong) (defScope st_wrong) .none kV8 dc8 pm8 an8 cd8 ct8), sl8⟩) (c8 : PySem.W.codeIn K cd8 "wrong_in" = true) (k8 : PySem.W.keepIn K (.ref f8) = true)
    (a9 : PySem.W.nsIn K mainGlobals "count_wrong" = some (some (.ref f9))) (l9 : K.lookup f9 = some ⟨oc9, od9, .func (PySem.W.fnOf "count_wrong" "count_wrong" (defArgs st_cw) (defBody st_cw) (defScope st_cw) .none kV9 dc9 pm9 an9 cd9 ct9), sl9⟩) (c9 : PySem.W.codeIn K cd9 "count_wrong" = true) (k9 : PySem.W.keepIn K (.ref f9) = true)
    (a10 : PySem.W.nsIn K mainGlobals "goal_in" = some (some (.ref f10))) (l10 : K.lookup f10 = some ⟨oc10, od10, .func (PySem.W.fnOf "goal_in" "goal_in" (defArgs st_goal) (defBody st_goal) (defScope st_goal) .none kV10 dc10 pm10 an10 cd10 ct10), sl10⟩) (c10 : PySem.W.codeIn K cd10 "goal_in" = true) (k10 : PySem.W.keepIn K (.ref f10) = true)
    (a11 : PySem.W.nsIn K mainGlobals "call_in" = some (some (.ref f11))) (l11 : K.lookup f11 = some ⟨oc11, od11, .func (PySem.W.fnOf "call_in" "call_in" (defArgs st_call) (defBody st_call) (defScope st_call) .none kV11 dc11 pm11 an11 cd11 ct11), sl11⟩) (c11 : PySem.W.codeIn K cd11 "call_in" = true) (k11 : PySem.W.keepIn K (.ref f11) = true)
    (a12 : PySem.W.nsIn K mainGlobals "story_in" = some (some (.ref f12))) (l12 : K.lookup f12 = some ⟨oc12, od12, .func (PySem.W.fnOf "story_in" "story_in" (defArgs st_story) (defBody st_story) (defScope st_story) .none kV12 dc12 pm12 an12 cd12 ct12), sl12⟩) (c12 : PySem.W.codeIn K cd12 "story_in" = true) (k12 : PySem.W.keepIn K (.ref f12) = true)
    (a13 : PySem.W.nsIn K mainGlobals "callers_in" = some (some (.ref f13))) (l13 : K.lookup f13 = some ⟨oc13, od13, .func (PySem.W.fnOf "callers_in" "callers_in" (defArgs st_callers) (defBody st_callers) (defScope st_callers) .none kV13 dc13 pm13 an13 cd13 ct13), sl13⟩) (c13 : PySem.W.codeIn K cd13 "callers_in" = true) (k13 : PySem.W.keepIn K (.ref f13) = true)
    (a14 : PySem.W.nsIn K mainGlobals "need_order" = some (some (.ref f14))) (l14 : K.lookup f14 = some ⟨oc14, od14, .func (PySem.W.fnOf "need_order" "need_order" (defArgs st_needOrder) (defBody st_needOrder) (defScope st_needOrder) .none kV14 dc14 pm14 an14 cd14 ct14), sl14⟩) (c14 : PySem.W.codeIn K cd14 "need_order" = true) (k14 : PySem.W.keepIn K (.ref f14) = true)
    (a15 : PySem.W.nsIn K mainGlobals "round_in" = some (some (.ref f15))) (l15 : K.lookup f15 = some ⟨oc15, od15, .func (PySem.W.fnOf "round_in" "round_in" (defArgs st_round) (defBody st_round) (defScope st_round) .none kV15 dc15 pm15 an15 cd15 ct15), sl15⟩) (c15 : PySem.W.codeIn K cd15 "round_in" = true) (k15 : PySem.W.keepIn K (.ref f15) = true)
    (a16 : PySem.W.nsIn K mainGlobals "round_line" = some (some (.ref f16))) (l16 : K.lookup f16 = some ⟨oc16, od16, .func (PySem.W.fnOf "round_line" "round_line" (defArgs st_roundLine) (defBody st_roundLine) (defScope st_roundLine) .none kV16 dc16 pm16 an16 cd16 ct16), sl16⟩) (c16 : PySem.W.codeIn K cd16 "round_line" = true) (k16 : PySem.W.keepIn K (.ref f16) = true)
    (a17 : PySem.W.nsIn K mainGlobals "need_few" = some (some (.ref f17))) (l17 : K.lookup f17 = some ⟨oc17, od17, .func (PySem.W.fnOf "need_few" "need_few" (defArgs st_needFew) (defBody st_needFew) (defScope st_needFew) .none kV17 dc17 pm17 an17 cd17 ct17), sl17⟩) (c17 : PySem.W.codeIn K cd17 "need_few" = true) (k17 : PySem.W.keepIn K (.ref f17) = true)
    (a18 : PySem.W.nsIn K mainGlobals "count_sorting" = some (some (.ref f18))) (l18 : K.lookup f18 = some ⟨oc18, od18, .func (PySem.W.fnOf "count_sorting" "count_sorting" (defArgs st_cs) (defBody st_cs) (defScope st_cs) .none kV18 dc18 pm18 an18 cd18 ct18), sl18⟩) (c18 : PySem.W.codeIn K cd18 "count_sorting" = true) (k18 : PySem.W.keepIn K (.ref f18) = true)
    (a19 : PySem.W.nsIn K mainGlobals "count_from" = some (some (.ref f19))) (l19 : K.lookup f19 = some ⟨oc19, od19, .func (PySem.W.fnOf "count_from" "count_from" (defArgs st_cf) (defBody st_cf) (defScope st_cf) .none kV19 dc19 pm19 an19 cd19 ct19), sl19⟩) (c19 : PySem.W.codeIn K cd19 "count_from" = true) (k19 : PySem.W.keepIn K (.ref f19) = true)
    (a20 : PySem.W.nsIn K mainGlobals "order_gains" = some (some (.ref f20))) (l20 : K.lookup f20 = some ⟨oc20, od20, .func (PySem.W.fnOf "order_gains" "order_gains" (defArgs st_gains) (defBody st_gains) (defScope st_gains) .none kV20 dc20 pm20 an20 cd20 ct20), sl20⟩) (c20 : PySem.W.codeIn K cd20 "order_gains" = true) (k20 : PySem.W.keepIn K (.ref f20) = true)
    (a21 : PySem.W.nsIn K mainGlobals "best_orders" = some (some (.ref f21))) (l21 : K.lookup f21 = some ⟨oc21, od21, .func (PySem.W.fnOf "best_orders" "best_orders" (defArgs st_best) (defBody st_best) (defScope st_best) .none kV21 dc21 pm21 an21 cd21 ct21), sl21⟩) (c21 : PySem.W.codeIn K cd21 "best_orders" = true) (k21 : PySem.W.keepIn K (.ref f21) = true)
    (a22 : PySem.W.nsIn K mainGlobals "worst_orders" = some (some (.ref f22))) (l22 : K.lookup f22 = some ⟨oc22, od22, .func (PySem.W.fnOf "worst_orders" "worst_orders" (defArgs st_worst) (defBody st_worst) (defScope st_worst) .none kV22 dc22 pm22 an22 cd22 ct22), sl22⟩) (c22 : PySem.W.codeIn K cd22 "worst_orders" = true) (k22 : PySem.W.keepIn K (.ref f22) = true)
    (a23 : PySem.W.nsIn K mainGlobals "_law_taken" = some (some (.ref f23))) (l23 : K.lookup f23 = some ⟨oc23, od23, .func (PySem.W.fnOf "_law_taken" "_law_taken" (defArgs st_taken) (defBody st_taken) (defScope st_taken) .none kV23 dc23 pm23 an23 cd23 ct23), sl23⟩) (c23 : PySem.W.codeIn K cd23 "_law_taken" = true) (k23 : PySem.W.keepIn K (.ref f23) = true)
    (a24 : PySem.W.nsIn K mainGlobals "_law_alike" = some (some (.ref f24))) (l24 : K.lookup f24 = some ⟨oc24, od24, .func (PySem.W.fnOf "_law_alike" "_law_alike" (defArgs st_alike) (defBody st_alike) (defScope st_alike) .none kV24 dc24 pm24 an24 cd24 ct24), sl24⟩) (c24 : PySem.W.codeIn K cd24 "_law_alike" = true) (k24 : PySem.W.keepIn K (.ref f24) = true)
    (a25 : PySem.W.nsIn K mainGlobals "_law_line" = some (some (.ref f25))) (l25 : K.lookup f25 = some ⟨oc25, od25, .func (PySem.W.fnOf "_law_line" "_law_line" (defArgs st_lline) (defBody st_lline) (defScope st_lline) .none kV25 dc25 pm25 an25 cd25 ct25), sl25⟩) (c25 : PySem.W.codeIn K cd25 "_law_line" = true) (k25 : PySem.W.keepIn K (.ref f25) = true)
    (a26 : PySem.W.nsIn K mainGlobals "_law_same" = some (some (.ref f26))) (l26 : K.lookup f26 = some ⟨oc26, od26, .func (PySem.W.fnOf "_law_same" "_law_same" (defArgs st_lsame) (defBody st_lsame) (defScope st_lsame) .none kV26 dc26 pm26 an26 cd26 ct26), sl26⟩) (c26 : PySem.W.codeIn K cd26 "_law_same" = true) (k26 : PySem.W.keepIn K (.ref f26) = true)
    (a27 : PySem.W.nsIn K mainGlobals "_law_call" = some (some (.ref f27))) (l27 : K.lookup f27 = some ⟨oc27, od27, .func (PySem.W.fnOf "_law_call" "_law_call" (defArgs st_lcall) (defBody st_lcall) (defScope st_lcall) .none kV27 dc27 pm27 an27 cd27 ct27), sl27⟩) (c27 : PySem.W.codeIn K cd27 "_law_call" = true) (k27 : PySem.W.keepIn K (.ref f27) = true)
    (a28 : PySem.W.nsIn K mainGlobals "_law_done" = some (some (.ref f28))) (l28 : K.lookup f28 = some ⟨oc28, od28, .func (PySem.W.fnOf "_law_done" "_law_done" (defArgs st_ldone) (defBody st_ldone) (defScope st_ldone) .none kV28 dc28 pm28 an28 cd28 ct28), sl28⟩) (c28 : PySem.W.codeIn K cd28 "_law_done" = true) (k28 : PySem.W.keepIn K (.ref f28) = true)
    (a29 : PySem.W.nsIn K mainGlobals "_law_wrong" = some (some (.ref f29))) (l29 : K.lookup f29 = some ⟨oc29, od29, .func (PySem.W.fnOf "_law_wrong" "_law_wrong" (defArgs st_lwrong) (defBody st_lwrong) (defScope st_lwrong) .none kV29 dc29 pm29 an29 cd29 ct29), sl29⟩) (c29 : PySem.W.codeIn K cd29 "_law_wrong" = true) (k29 : PySem.W.keepIn K (.ref f29) = true)
    (a30 : PySem.W.nsIn K mainGlobals "_law_lines" = some (some (.ref f30))) (l30 : K.lookup f30 = some ⟨oc30, od30, .func (PySem.W.fnOf "_law_lines" "_law_lines" (defArgs st_llines) (defBody st_llines) (defScope st_llines) .none kV30 dc30 pm30 an30 cd30 ct30), sl30⟩) (c30 : PySem.W.codeIn K cd30 "_law_lines" = true) (k30 : PySem.W.keepIn K (.ref f30) = true)
    (a31 : PySem.W.nsIn K mainGlobals "law" = some (some (.ref f31))) (l31 : K.lookup f31 = some ⟨oc31, od31, .func (PySem.W.fnOf "law" "law" (defArgs st_law) (defBody st_law) (defScope st_law) .none kV31 dc31 pm31 an31 cd31 ct31), sl31⟩) (c31 : PySem.W.codeIn K cd31 "law" = true) (k31 : PySem.W.keepIn K (.ref f31) = true)
    (z1 : PySem.W.nsIn K mainGlobals "len" = some none)
    (z2 : PySem.W.nsIn K mainGlobals "range" = some none)
    (z3 : PySem.W.nsIn K mainGlobals "isinstance" = some none)
    (z4 : PySem.W.nsIn K mainGlobals "int" = some none)
    (z5 : PySem.W.nsIn K mainGlobals "bool" = some none)
    (z6 : PySem.W.nsIn K mainGlobals "tuple" = some none)
    (z7 : PySem.W.nsIn K mainGlobals "list" = some none)
    (z8 : PySem.W.nsIn K mainGlobals "str" = some none)
    (z9 : PySem.W.nsIn K mainGlobals "enumerate" = some none)
    (z10 : PySem.W.nsIn K mainGlobals "sorted" = some none)
    (z11 : PySem.W.nsIn K mainGlobals "all" = some none)
    (z12 : PySem.W.nsIn K mainGlobals "any" = some none)
    (z13 : PySem.W.nsIn K mainGlobals "min" = some none)
    (z14 : PySem.W.nsIn K mainGlobals "max" = some none)
    (z15 : PySem.W.nsIn K mainGlobals "sum" = some none)
    (m1 : PySem.W.nsIn K mainGlobals "MOST_PEOPLE" = some (some (.int 8 t1))) (m2 : PySem.W.nsIn K mainGlobals "MOST_ORDERS" = some (some (.int 720 t2))) :
    ∃ fd : FuncData, (∀ (s : Shared) (v : Value), BindsTo s fd ⟨[v], []⟩ [("_law_script", v)]) ∧ ∀ base : Heap, K.In base → base.Ns mainGlobals mg → FnOk l.prog w K mg base CX0 11 fa fd ["_law_script"] (spLaw K) := by
  have e := hfa.symm.trans (PySem.W.mg_of X G a31)
  cases e
  have T : Txt mg := ⟨PySem.W.mg_none_of X G z1, PySem.W.mg_none_of X G z2, PySem.W.mg_none_of X G z3, PySem.W.mg_none_of X G z4, PySem.W.mg_none_of X G z5, PySem.W.mg_none_of X G z6, PySem.W.mg_none_of X G z7, PySem.W.mg_none_of X G z8, PySem.W.mg_none_of X G z9, PySem.W.mg_none_of X G z10, PySem.W.mg_none_of X G z11, PySem.W.mg_none_of X G z12, PySem.W.mg_none_of X G z13, PySem.W.mg_none_of X G z14, PySem.W.mg_none_of X G z15, ⟨_, PySem.W.mg_of X G m1⟩, ⟨_, PySem.W.mg_of X G m2⟩⟩
  have F1 := fun_mk (st := st_isInt) l1 c1 k1
  have D_isInt : DefK K mg "is_integer" st_isInt ["value"] _ (PySem.W.fnOf "is_integer" "is_integer" (defArgs st_isInt) (defBody st_isInt) (defScope st_isInt) .none kV1 dc1 pm1 an1 cd1 ct1) := ⟨F1, F1.binds (ps := ["value"]) fun _ _ _ _ _ _ us hl => match us, hl with | [_], _ => rfl, PySem.W.mg_of X G a1⟩
  have F2 := fun_mk (st := st_isIn) l2 c2 k2
  have D_isIn : DefK K mg "is_in" st_isIn ["value", "least", "most"] _ (PySem.W.fnOf "is_in" "is_in" (defArgs st_isIn) (defBody st_isIn) (defScope st_isIn) .none kV2 dc2 pm2 an2 cd2 ct2) := ⟨F2, F2.binds (ps := ["value", "least", "most"]) fun _ _ _ _ _ _ us hl => match us, hl with | [_, _, _], _ => rfl, PySem.W.mg_of X G a2⟩
  have F3 := fun_mk (st := st_isList) l3 c3 k3
  have D_isList : DefK K mg "is_list" st_isList ["value", "least", "most"] _ (PySem.W.fnOf "is_list" "is_list" (defArgs st_isList) (defBody st_isList) (defScope st_isList) .none kV3 dc3 pm3 an3 cd3 ct3) := ⟨F3, F3.binds (ps := ["value", "least", "most"]) fun _ _ _ _ _ _ us hl => match us, hl with | [_, _, _], _ => rfl, PySem.W.mg_of X G a3⟩
  have F4 := fun_mk (st := st_needLine) l4 c4 k4
  have D_needLine : DefK K mg "need_line" st_needLine ["line"] _ (PySem.W.fnOf "need_line" "need_line" (defArgs st_needLine) (defBody st_needLine) (defScope st_needLine) .none kV4 dc4 pm4 an4 cd4 ct4) := ⟨F4, F4.binds (ps := ["line"]) fun _ _ _ _ _ _ us hl => match us, hl with | [_], _ => rfl, PySem.W.mg_of X G a4⟩
  have F5 := fun_mk (st := st_fac) l5 c5 k5
  have D_fac : DefK K mg "factorial" st_fac ["many"] _ (PySem.W.fnOf "factorial" "factorial" (defArgs st_fac) (defBody st_fac) (defScope st_fac) .none kV5 dc5 pm5 an5 cd5 ct5) := ⟨F5, F5.binds (ps := ["many"]) fun _ _ _ _ _ _ us hl => match us, hl with | [_], _ => rfl, PySem.W.mg_of X G a5⟩
  have F6 := fun_mk (st := st_allLines) l6 c6 k6
  have D_allLines : DefK K mg "all_lines" st_allLines ["size"] _ (PySem.W.fnOf "all_lines" "all_lines" (defArgs st_allLines) (defBody st_allLines) (defScope st_allLines) .none kV6 dc6 pm6 an6 cd6 ct6) := ⟨F6, F6.binds (ps := ["size"]) fun _ _ _ _ _ _ us hl => match us, hl with | [_], _ => rfl, PySem.W.mg_of X G a6⟩
  have F7 := fun_mk (st := st_shorter) l7 c7 k7
  have D_shorter : DefK K mg "shorter_in" st_shorter ["line", "person"] _ (PySem.W.fnOf "shorter_in" "shorter_in" (defArgs st_shorter) (defBody st_shorter) (defScope st_shorter) .none kV7 dc7 pm7 an7 cd7 ct7) := ⟨F7, F7.binds (ps := ["line", "person"]) fun _ _ _ _ _ _ us hl => match us, hl with | [_, _], _ => rfl, PySem.W.mg_of X G a7⟩
  have F8 := fun_mk (st := st_wrong) l8 c8 k8
  have D_wrong : DefK K mg "wrong_in" st_wrong ["line"] _ (PySem.W.fnOf "wrong_in" "wrong_in" (defArgs st_wrong) (defBody st_wrong) (defScope st_wrong) .none kV8 dc8 pm8 an8 cd8 ct8) := ⟨F8, F8.binds (ps := ["line"]) fun _ _ _ _ _ _ us hl => match us, hl with | [_], _ => rfl, PySem.W.mg_of X G a8⟩
  have F9 := fun_mk (st := st_cw) l9 c9 k9
  have D_cw : DefK K mg "count_wrong" st_cw ["line"] _ (PySem.W.fnOf "count_wrong" "count_wrong" (defArgs st_cw) (defBody st_cw) (defScope st_cw) .none kV9 dc9 pm9 an9 cd9 ct9) := ⟨F9, F9.binds (ps := ["line"]) fun _ _ _ _ _ _ us hl => match us, hl with | [_], _ => rfl, PySem.W.mg_of X G a9⟩
  have F10 := fun_mk (st := st_goal) l10 c10 k10
  have D_goal : DefK K mg "goal_in" st_goal ["line", "person"] _ (PySem.W.fnOf "goal_in" "goal_in" (defArgs st_goal) (defBody st_goal) (defScope st_goal) .none kV10 dc10 pm10 an10 cd10 ct10) := ⟨F10, F10.binds (ps := ["line", "person"]) fun _ _ _ _ _ _ us hl => match us, hl with | [_, _], _ => rfl, PySem.W.mg_of X G a10⟩
  have F11 := fun_mk (st := st_call) l11 c11 k11
  have D_call : DefK K mg "call_in" st_call ["line", "person"] _ (PySem.W.fnOf "call_in" "call_in" (defArgs st_call) (defBody st_call) (defScope st_call) .none kV11 dc11 pm11 an11 cd11 ct11) := ⟨F11, F11.binds (ps := ["line", "person"]) fun _ _ _ _ _ _ us hl => match us, hl with | [_, _], _ => rfl, PySem.W.mg_of X G a11⟩
  have F12 := fun_mk (st := st_story) l12 c12 k12
  have D_story : DefK K mg "story_in" st_story ["line", "calls"] _ (PySem.W.fnOf "story_in" "story_in" (defArgs st_story) (defBody st_story) (defScope st_story) .none kV12 dc12 pm12 an12 cd12 ct12) := ⟨F12, F12.binds (ps := ["line", "calls"]) fun _ _ _ _ _ _ us hl => match us, hl with | [_, _], _ => rfl, PySem.W.mg_of X G a12⟩
  have F13 := fun_mk (st := st_callers) l13 c13 k13
  have D_callers : DefK K mg "callers_in" st_callers ["line"] _ (PySem.W.fnOf "callers_in" "callers_in" (defArgs st_callers) (defBody st_callers) (defScope st_callers) .none kV13 dc13 pm13 an13 cd13 ct13) := ⟨F13, F13.binds (ps := ["line"]) fun _ _ _ _ _ _ us hl => match us, hl with | [_], _ => rfl, PySem.W.mg_of X G a13⟩
  have F14 := fun_mk (st := st_needOrder) l14 c14 k14
  have D_needOrder : DefK K mg "need_order" st_needOrder ["line", "order"] _ (PySem.W.fnOf "need_order" "need_order" (defArgs st_needOrder) (defBody st_needOrder) (defScope st_needOrder) .none kV14 dc14 pm14 an14 cd14 ct14) := ⟨F14, F14.binds (ps := ["line", "order"]) fun _ _ _ _ _ _ us hl => match us, hl with | [_, _], _ => rfl, PySem.W.mg_of X G a14⟩
  have F15 := fun_mk (st := st_round) l15 c15 k15
  have D_round : DefK K mg "round_in" st_round ["line", "order"] _ (PySem.W.fnOf "round_in" "round_in" (defArgs st_round) (defBody st_round) (defScope st_round) .none kV15 dc15 pm15 an15 cd15 ct15) := ⟨F15, F15.binds (ps := ["line", "order"]) fun _ _ _ _ _ _ us hl => match us, hl with | [_, _], _ => rfl, PySem.W.mg_of X G a15⟩
  have F16 := fun_mk (st := st_roundLine) l16 c16 k16
  have D_roundLine : DefK K mg "round_line" st_roundLine ["line", "order"] _ (PySem.W.fnOf "round_line" "round_line" (defArgs st_roundLine) (defBody st_roundLine) (defScope st_roundLine) .none kV16 dc16 pm16 an16 cd16 ct16) := ⟨F16, F16.binds (ps := ["line", "order"]) fun _ _ _ _ _ _ us hl => match us, hl with | [_, _], _ => rfl, PySem.W.mg_of X G a16⟩
  have F17 := fun_mk (st := st_needFew) l17 c17 k17
  have D_needFew : DefK K mg "need_few" st_needFew ["line"] _ (PySem.W.fnOf "need_few" "need_few" (defArgs st_needFew) (defBody st_needFew) (defScope st_needFew) .none kV17 dc17 pm17 an17 cd17 ct17) := ⟨F17, F17.binds (ps := ["line"]) fun _ _ _ _ _ _ us hl => match us, hl with | [_], _ => rfl, PySem.W.mg_of X G a17⟩
  have F18 := fun_mk (st := st_cs) l18 c18 k18
  have D_cs : DefK K mg "count_sorting" st_cs ["line"] _ (PySem.W.fnOf "count_sorting" "count_sorting" (defArgs st_cs) (defBody st_cs) (defScope st_cs) .none kV18 dc18 pm18 an18 cd18 ct18) := ⟨F18, F18.binds (ps := ["line"]) fun _ _ _ _ _ _ us hl => match us, hl with | [_], _ => rfl, PySem.W.mg_of X G a18⟩
  have F19 := fun_mk (st := st_cf) l19 c19 k19
  have D_cf : DefK K mg "count_from" st_cf ["line", "done", "known"] _ (PySem.W.fnOf "count_from" "count_from" (defArgs st_cf) (defBody st_cf) (defScope st_cf) .none kV19 dc19 pm19 an19 cd19 ct19) := ⟨F19, F19.binds (ps := ["line", "done", "known"]) fun _ _ _ _ _ _ us hl => match us, hl with | [_, _, _], _ => rfl, PySem.W.mg_of X G a19⟩
  have F20 := fun_mk (st := st_gains) l20 c20 k20
  have D_gains : DefK K mg "order_gains" st_gains ["line", "order"] _ (PySem.W.fnOf "order_gains" "order_gains" (defArgs st_gains) (defBody st_gains) (defScope st_gains) .none kV20 dc20 pm20 an20 cd20 ct20) := ⟨F20, F20.binds (ps := ["line", "order"]) fun _ _ _ _ _ _ us hl => match us, hl with | [_, _], _ => rfl, PySem.W.mg_of X G a20⟩
  have F21 := fun_mk (st := st_best) l21 c21 k21
  have D_best : DefK K mg "best_orders" st_best ["line"] _ (PySem.W.fnOf "best_orders" "best_orders" (defArgs st_best) (defBody st_best) (defScope st_best) .none kV21 dc21 pm21 an21 cd21 ct21) := ⟨F21, F21.binds (ps := ["line"]) fun _ _ _ _ _ _ us hl => match us, hl with | [_], _ => rfl, PySem.W.mg_of X G a21⟩
  have F22 := fun_mk (st := st_worst) l22 c22 k22
  have D_worst : DefK K mg "worst_orders" st_worst ["line"] _ (PySem.W.fnOf "worst_orders" "worst_orders" (defArgs st_worst) (defBody st_worst) (defScope st_worst) .none kV22 dc22 pm22 an22 cd22 ct22) := ⟨F22, F22.binds (ps := ["line"]) fun _ _ _ _ _ _ us hl => match us, hl with | [_], _ => rfl, PySem.W.mg_of X G a22⟩
  have F23 := fun_mk (st := st_taken) l23 c23 k23
  have D_taken : DefK K mg "_law_taken" st_taken ["_law_row", "_law_many"] _ (PySem.W.fnOf "_law_taken" "_law_taken" (defArgs st_taken) (defBody st_taken) (defScope st_taken) .none kV23 dc23 pm23 an23 cd23 ct23) := ⟨F23, F23.binds (ps := ["_law_row", "_law_many"]) fun _ _ _ _ _ _ us hl => match us, hl with | [_, _], _ => rfl, PySem.W.mg_of X G a23⟩
  have F24 := fun_mk (st := st_alike) l24 c24 k24
  have D_alike : DefK K mg "_law_alike" st_alike ["_law_found", "_law_due"] _ (PySem.W.fnOf "_law_alike" "_law_alike" (defArgs st_alike) (defBody st_alike) (defScope st_alike) .none kV24 dc24 pm24 an24 cd24 ct24) := ⟨F24, F24.binds (ps := ["_law_found", "_law_due"]) fun _ _ _ _ _ _ us hl => match us, hl with | [_, _], _ => rfl, PySem.W.mg_of X G a24⟩
  have F25 := fun_mk (st := st_lline) l25 c25 k25
  have D_lline : DefK K mg "_law_line" st_lline ["_law_row", "_law_most"] _ (PySem.W.fnOf "_law_line" "_law_line" (defArgs st_lline) (defBody st_lline) (defScope st_lline) .none kV25 dc25 pm25 an25 cd25 ct25) := ⟨F25, F25.binds (ps := ["_law_row", "_law_most"]) fun _ _ _ _ _ _ us hl => match us, hl with | [_, _], _ => rfl, PySem.W.mg_of X G a25⟩
  have F26 := fun_mk (st := st_lsame) l26 c26 k26
  have D_lsame : DefK K mg "_law_same" st_lsame ["_law_row", "_law_line_here"] _ (PySem.W.fnOf "_law_same" "_law_same" (defArgs st_lsame) (defBody st_lsame) (defScope st_lsame) .none kV26 dc26 pm26 an26 cd26 ct26) := ⟨F26, F26.binds (ps := ["_law_row", "_law_line_here"]) fun _ _ _ _ _ _ us hl => match us, hl with | [_, _], _ => rfl, PySem.W.mg_of X G a26⟩
  have F27 := fun_mk (st := st_lcall) l27 c27 k27
  have D_lcall : DefK K mg "_law_call" st_lcall ["_law_line_here", "_law_person"] _ (PySem.W.fnOf "_law_call" "_law_call" (defArgs st_lcall) (defBody st_lcall) (defScope st_lcall) .none kV27 dc27 pm27 an27 cd27 ct27) := ⟨F27, F27.binds (ps := ["_law_line_here", "_law_person"]) fun _ _ _ _ _ _ us hl => match us, hl with | [_, _], _ => rfl, PySem.W.mg_of X G a27⟩
  have F28 := fun_mk (st := st_ldone) l28 c28 k28
  have D_ldone : DefK K mg "_law_done" st_ldone ["_law_line_here", "_law_calls"] _ (PySem.W.fnOf "_law_done" "_law_done" (defArgs st_ldone) (defBody st_ldone) (defScope st_ldone) .none kV28 dc28 pm28 an28 cd28 ct28) := ⟨F28, F28.binds (ps := ["_law_line_here", "_law_calls"]) fun _ _ _ _ _ _ us hl => match us, hl with | [_, _], _ => rfl, PySem.W.mg_of X G a28⟩
  have F29 := fun_mk (st := st_lwrong) l29 c29 k29
  have D_lwrong : DefK K mg "_law_wrong" st_lwrong ["_law_line_here"] _ (PySem.W.fnOf "_law_wrong" "_law_wrong" (defArgs st_lwrong) (defBody st_lwrong) (defScope st_lwrong) .none kV29 dc29 pm29 an29 cd29 ct29) := ⟨F29, F29.binds (ps := ["_law_line_here"]) fun _ _ _ _ _ _ us hl => match us, hl with | [_], _ => rfl, PySem.W.mg_of X G a29⟩
  have F30 := fun_mk (st := st_llines) l30 c30 k30
  have D_llines : DefK K mg "_law_lines" st_llines ["_law_size"] _ (PySem.W.fnOf "_law_lines" "_law_lines" (defArgs st_llines) (defBody st_llines) (defScope st_llines) .none kV30 dc30 pm30 an30 cd30 ct30) := ⟨F30, F30.binds (ps := ["_law_size"]) fun _ _ _ _ _ _ us hl => match us, hl with | [_], _ => rfl, PySem.W.mg_of X G a30⟩
  have F31 := fun_mk (st := st_law) l31 c31 k31
  have D_law : DefK K mg "law" st_law ["_law_script"] _ (PySem.W.fnOf "law" "law" (defArgs st_law) (defBody st_law) (defScope st_law) .none kV31 dc31 pm31 an31 cd31 ct31) := ⟨F31, F31.binds (ps := ["_law_script"]) fun _ _ _ _ _ _ us hl => match us, hl with | [_], _ => rfl, PySem.W.mg_of X G a31⟩
  refine ⟨PySem.W.fnOf "law" "law" (defArgs st_law) (defBody st_law) (defScope st_law) .none kV31 dc31 pm31 an31 cd31 ct31, fun s v => .of_eq rfl, fun base _ _ => ?_⟩
  have G_isInt : FnOk l.prog w K mg base CX0 1 f1 _ ["value"] sp_isInt := ok_isInt D_isInt T
  have G_isIn : FnOk l.prog w K mg base CX0 2 f2 _ ["value", "least", "most"] sp_isIn := ok_isIn D_isIn T D_isInt
  have G_isList : FnOk l.prog w K mg base CX0 1 f3 _ ["value", "least", "most"] (sp_isList K) := ok_isList D_isList T
  have G_fac : FnOk l.prog w K mg base CX0 1 f5 _ ["many"] sp_fac := ok_fac D_fac T
  have G_needLine : FnOk l.prog w K mg base CX0 3 f4 _ ["line"] sp_needLine := ok_needLine D_needLine T D_isInt D_isIn D_isList
  have G_shorter : FnOk l.prog w K mg base CX0 1 f7 _ ["line", "person"] sp_shorter := ok_shorter D_shorter
  have G_wrong : FnOk l.prog w K mg base CX0 2 f8 _ ["line"] sp_wrong := ok_wrong D_wrong T D_shorter
  have G_cw : FnOk l.prog w K mg base CX0 4 f9 _ ["line"] sp_cw := ok_cw D_cw T D_needLine G_needLine D_wrong G_wrong
  have G_goal : FnOk l.prog w K mg base CX0 1 f10 _ ["line", "person"] sp_goal := ok_goal D_goal
  have G_call : FnOk l.prog w K mg base CX0 2 f11 _ ["line", "person"] sp_call := ok_call D_call D_goal
  have G_story : FnOk l.prog w K mg base CX0 3 f12 _ ["line", "calls"] (sp_story K) := ok_story D_story D_call G_call
  have G_round : FnOk l.prog w K mg base CX0 4 f15 _ ["line", "order"] (sp_round K) := ok_round D_round D_story G_story
  have G_callers : FnOk l.prog w K mg base CX0 2 f13 _ ["line"] sp_callers := ok_callers D_callers T D_shorter G_shorter
  have G_needOrder : FnOk l.prog w K mg base CX0 3 f14 _ ["line", "order"] (sp_needOrder K) := ok_needOrder D_needOrder T D_isList G_isList D_isIn G_isIn
  have G_roundLine : FnOk l.prog w K mg base CX0 5 f16 _ ["line", "order"] (sp_roundLine K) := ok_roundLine D_roundLine D_needLine G_needLine D_needOrder G_needOrder D_round G_round
  have G_needFew : FnOk l.prog w K mg base CX0 4 f17 _ ["line"] sp_needFew := ok_needFew D_needFew T D_needLine G_needLine D_fac G_fac
  have G_allLines : FnOk l.prog w K mg base CX0 1 f6 _ ["size"] (sp_allLines K) := ok_allLines D_allLines T
  have G_best : FnOk l.prog w K mg base CX0 5 f21 _ ["line"] sp_best := ok_best D_best T D_needFew G_needFew D_allLines G_allLines D_round G_round D_wrong G_wrong
  have G_worst : FnOk l.prog w K mg base CX0 5 f22 _ ["line"] (sp_worst K) := ok_worst D_worst T D_needFew G_needFew D_allLines G_allLines D_round G_round D_wrong G_wrong
  have G_gains : FnOk l.prog w K mg base CX0 4 f20 _ ["line", "order"] (sp_gains K) := ok_gains D_gains T D_needLine G_needLine D_needOrder G_needOrder D_call G_call
  have G_cf : FnOk l.prog w K mg base CX0 9 f19 _ ["line", "done", "known"] (sp_cfAny l.prog w K) := cf_all D_cf T D_callers G_callers D_call G_call
  have G_cs : FnOk l.prog w K mg base CX0 10 f18 _ ["line"] sp_cs := ok_cs D_cs D_needLine G_needLine D_cf G_cf
  have G_taken : FnOk l.prog w K mg base CX0 1 f23 _ ["_law_row", "_law_many"] (sp_taken K) := ok_taken D_taken T
  have G_alike : FnOk l.prog w K mg base CX0 3 f24 _ ["_law_found", "_law_due"] (sp_alike K 3) := ok_alike D_alike T 3
  have G_lline : FnOk l.prog w K mg base CX0 2 f25 _ ["_law_row", "_law_most"] (sp_lline K) := ok_lline D_lline T D_taken G_taken
  have G_lsame : FnOk l.prog w K mg base CX0 2 f26 _ ["_law_row", "_law_line_here"] (sp_lsame K) := ok_lsame D_lsame T D_taken G_taken
  have G_lcall : FnOk l.prog w K mg base CX0 1 f27 _ ["_law_line_here", "_law_person"] sp_call := ok_lcall D_lcall T
  have G_ldone : FnOk l.prog w K mg base CX0 2 f28 _ ["_law_line_here", "_law_calls"] (sp_round K) := ok_ldone D_ldone D_lcall G_lcall
  have G_lwrong : FnOk l.prog w K mg base CX0 1 f29 _ ["_law_line_here"] sp_wrong := ok_lwrong D_lwrong T
  have G_llines : FnOk l.prog w K mg base CX0 1 f30 _ ["_law_size"] (sp_allLines K) := ok_llines D_llines T
  exact ok_law D_law T D_lline G_lline D_lsame G_lsame D_lcall G_lcall D_alike G_alike D_gains G_gains D_cw G_cw D_roundLine G_roundLine D_llines G_llines D_lwrong G_lwrong D_ldone G_ldone D_best G_best D_worst G_worst D_cs G_cs
end Ov
open PySem PySem.W PyProof.Rows in
set_option maxRecDepth 100000 in
set_option maxHeartbeats 0 in
theorem PySem.Challenge.cw_overtake_k73_whole_gains_of_orders_holds : PySem.Challenge.rw_overtake_k73_whole_gains_of_orders.Holds := by
  w_on; o_law; k_head; (case hw => w_witness2)
  k_fill
  refine L2.walk_of (l := PySem.Challenge.rw_overtake_k73_whole_gains_of_orders) (n := 63) (k := 11) (x := "_law_script") (CX := fun _ => L2.CX0) (sp := fun w => Ov.spLaw _) rfl (by decide) rfl ⟨rfl, by decide, by decide⟩ (fun w h Y => PySem.W.kIn_of Y) ?F (fun _ _ a ns hl _ hS => ⟨a, ns, rfl, hS, hl, fun _ => rfl⟩) (fun _ _ _ _ _ h => h)
  case F =>
    intro w mg fa h KX G hmg
    refine' Ov.all_mk KX G hmg ?a1 ?l1 ?c1 ?k1 ?a2 ?l2 ?c2 ?k2 ?a3 ?l3 ?c3 ?k3 ?a4 ?l4 ?c4 ?k4 ?a5 ?l5 ?c5 ?k5 ?a6 ?l6 ?c6 ?k6 ?a7 ?l7 ?c7 ?k7 ?a8 ?l8 ?c8 ?k8 ?a9 ?l9 ?c9 ?k9 ?a10 ?l10 ?c10 ?k10 ?a11 ?l11 ?c11 ?k11 ?a12 ?l12 ?c12 ?k12 ?a13 ?l13 ?c13 ?k13 ?a14 ?l14 ?c14 ?k14 ?a15 ?l15 ?c15 ?k15 ?a16 ?l16 ?c16 ?k16 ?a17 ?l17 ?c17 ?k17 ?a18 ?l18 ?c18 ?k18 ?a19 ?l19 ?c19 ?k19 ?a20 ?l20 ?c20 ?k20 ?a21 ?l21 ?c21 ?k21 ?a22 ?l22 ?c22 ?k22 ?a23 ?l23 ?c23 ?k23 ?a24 ?l24 ?c24 ?k24 ?a25 ?l25 ?c25 ?k25 ?a26 ?l26 ?c26 ?k26 ?a27 ?l27 ?c27 ?k27 ?a28 ?l28 ?c28 ?k28 ?a29 ?l29 ?c29 ?k29 ?a30 ?l30 ?c30 ?k30 ?a31 ?l31 ?c31 ?k31 ?z1 ?z2 ?z3 ?z4 ?z5 ?z6 ?z7 ?z8 ?z9 ?z10 ?z11 ?z12 ?z13 ?z14 ?z15 ?m1 ?m2
    (case a1 => k_is); (case l1 => k_is); (case c1 => k_is); (case k1 => k_is)
    (case a2 => k_is); (case l2 => k_is); (case c2 => k_is); (case k2 => k_is)
    (case a3 => k_is); (case l3 => k_is); (case c3 => k_is); (case k3 => k_is)
    (case a4 => k_is); (case l4 => k_is); (case c4 => k_is); (case k4 => k_is)
    (case a5 => k_is); (case l5 => k_is); (case c5 => k_is); (case k5 => k_is)
    (case a6 => k_is); (case l6 => k_is); (case c6 => k_is); (case k6 => k_is)
    (case a7 => k_is); (case l7 => k_is); (case c7 => k_is); (case k7 => k_is)
    (case a8 => k_is); (case l8 => k_is); (case c8 => k_is); (case k8 => k_is)
    (case a9 => k_is); (case l9 => k_is); (case c9 => k_is); (case k9 => k_is)
    (case a10 => k_is); (case l10 => k_is); (case c10 => k_is); (case k10 => k_is)
    (case a11 => k_is); (case l11 => k_is); (case c11 => k_is); (case k11 => k_is)
    (case a12 => k_is); (case l12 => k_is); (case c12 => k_is); (case k12 => k_is)
    (case a13 => k_is); (case l13 => k_is); (case c13 => k_is); (case k13 => k_is)
    (case a14 => k_is); (case l14 => k_is); (case c14 => k_is); (case k14 => k_is)
    (case a15 => k_is); (case l15 => k_is); (case c15 => k_is); (case k15 => k_is)
    (case a16 => k_is); (case l16 => k_is); (case c16 => k_is); (case k16 => k_is)
    (case a17 => k_is); (case l17 => k_is); (case c17 => k_is); (case k17 => k_is)
    (case a18 => k_is); (case l18 => k_is); (case c18 => k_is); (case k18 => k_is)
    (case a19 => k_is); (case l19 => k_is); (case c19 => k_is); (case k19 => k_is)
    (case a20 => k_is); (case l20 => k_is); (case c20 => k_is); (case k20 => k_is)
    (case a21 => k_is); (case l21 => k_is); (case c21 => k_is); (case k21 => k_is)
    (case a22 => k_is); (case l22 => k_is); (case c22 => k_is); (case k22 => k_is)
    (case a23 => k_is); (case l23 => k_is); (case c23 => k_is); (case k23 => k_is)
    (case a24 => k_is); (case l24 => k_is); (case c24 => k_is); (case k24 => k_is)
    (case a25 => k_is); (case l25 => k_is); (case c25 => k_is); (case k25 => k_is)
    (case a26 => k_is); (case l26 => k_is); (case c26 => k_is); (case k26 => k_is)
    (case a27 => k_is); (case l27 => k_is); (case c27 => k_is); (case k27 => k_is)
    (case a28 => k_is); (case l28 => k_is); (case c28 => k_is); (case k28 => k_is)
    (case a29 => k_is); (case l29 => k_is); (case c29 => k_is); (case k29 => k_is)
    (case a30 => k_is); (case l30 => k_is); (case c30 => k_is); (case k30 => k_is)
    (case a31 => k_is); (case l31 => k_is); (case c31 => k_is); (case k31 => k_is)
    (case z1 => k_is); (case z2 => k_is); (case z3 => k_is); (case z4 => k_is); (case z5 => k_is); (case z6 => k_is); (case z7 => k_is); (case z8 => k_is); (case z9 => k_is); (case z10 => k_is); (case z11 => k_is); (case z12 => k_is); (case z13 => k_is); (case z14 => k_is); (case z15 => k_is); (case m1 => k_is); (case m2 => k_is)
