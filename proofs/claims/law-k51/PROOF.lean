import PyProof.Rows.All
import Wide.All
import OpenK.AllK
import Wide.FinOn
import KE.SortData
import HandS.ForMost
import HandS.IsInst
import HandS.Walk
import HandS.Star
import HandS.Style
import HandS.Conv
import HandS.Sort
import HandS.DictComp
import HandS.TupLen
import KE.SortKeyHeap
import HandS.Lambda
import HandS.Nested
import HandS.Deep
import HandS.Wide
import HandS.TupAny
import HandS.Set
import HandS.SetTxt0
import HandS.Strs
import HandS.SetFor
import HandS.More
import PyProof.ReprRoads
import PyProof.ReprLen
import HandS.EndTab
import PySem.Challenge.RW_forkkinds_k51_whole_orders_and_runs
set_option Elab.async false
set_option linter.all false
set_option maxRecDepth 100000
/-! Runs as trees: what they are as data, their order, joining, what makes one well-formed. -/
namespace Fk
open PySem PySem.W PyProof.Rows

/-- a run: nothing, a step, a row (false) or a bag (true) -/
inductive R where
  | nothing
  | step (n : Str)
  | node (b : Bool) (rs : List R)

def word (b : Bool) : Str := if b = true then Str.ofString "bag" else Str.ofString "row"

mutual
def enc : R → PyData
  | .nothing => .tuple [.str (Str.ofString "nothing")]
  | .step n => .tuple [.str (Str.ofString "step"), .str n]
  | .node b rs => .tuple (.str (word b) :: encL rs)
def encL : List R → List PyData
  | [] => []
  | r :: rs => enc r :: encL rs
end
theorem encL_map : ∀ rs : List R, encL rs = rs.map enc
  | [] => by rw [encL]; rfl
  | r :: rs => by rw [encL, encL_map rs]; rfl

mutual
def size : R → Nat
  | .nothing => 0
  | .step _ => 1
  | .node _ rs => sizeL rs
def sizeL : List R → Nat
  | [] => 0
  | r :: rs => size r + sizeL rs
end
mutual
def depth : R → Nat
  | .nothing => 1
  | .step _ => 1
  | .node _ rs => depthL rs + 1
def depthL : List R → Nat
  | [] => 0
  | r :: rs => max (depth r) (depthL rs)
end
mutual
def names : R → List Str
  | .nothing => []
  | .step n => [n]
  | .node _ rs => namesL rs
def namesL : List R → List Str
  | [] => []
  | r :: rs => names r ++ namesL rs
end
theorem sizeL_append : ∀ xs ys : List R, sizeL (xs ++ ys) = sizeL xs + sizeL ys
  | [], ys => by simp [sizeL]
  | x :: xs, ys => by
    rw [List.cons_append, sizeL, sizeL, sizeL_append xs ys]
    omega
theorem namesL_append : ∀ xs ys : List R, namesL (xs ++ ys) = namesL xs ++ namesL ys
  | [], ys => by simp [namesL]
  | x :: xs, ys => by
    rw [List.cons_append, namesL, namesL, namesL_append xs ys, List.append_assoc]
theorem sizeL_perm {xs ys : List R} (h : xs.Perm ys) : sizeL xs = sizeL ys := by
  induction h with
  | nil => rfl
  | cons x _ ih => rw [sizeL, sizeL, ih]
  | swap x y l =>
    rw [sizeL, sizeL, sizeL, sizeL]
    omega
  | trans _ _ a b => rw [a, b]
theorem sizeL_le {r : R} : ∀ {rs : List R}, r ∈ rs → size r ≤ sizeL rs
  | x :: xs, h => by
    rw [sizeL]
    rcases List.mem_cons.mp h with e | h
    · rw [e]
      omega
    · have := sizeL_le h
      omega
theorem depthL_le {r : R} : ∀ {rs : List R}, r ∈ rs → depth r ≤ depthL rs
  | x :: xs, h => by
    rw [depthL]
    rcases List.mem_cons.mp h with e | h
    · rw [e]
      omega
    · have := depthL_le h
      omega
theorem depthL_of {n : Nat} : ∀ {rs : List R}, (∀ r ∈ rs, depth r ≤ n) → depthL rs ≤ n
  | [], _ => by simp [depthL]
  | x :: xs, h => by
    have h1 := h x List.mem_cons_self
    have h2 := depthL_of (n := n) (rs := xs) fun r hr => h r (List.mem_cons_of_mem _ hr)
    rw [depthL]
    omega
theorem depth_pos : ∀ r : R, 1 ≤ depth r
  | .nothing => by simp [depth]
  | .step _ => by simp [depth]
  | .node _ rs => by
    rw [depth]
    omega

mutual
theorem names_len : ∀ r : R, (names r).length = size r
  | .nothing => by simp [names, size]
  | .step _ => by simp [names, size]
  | .node _ rs => by
    rw [names, size]
    exact namesL_len rs
theorem namesL_len : ∀ rs : List R, (namesL rs).length = sizeL rs
  | [] => by simp [namesL, sizeL]
  | r :: rs => by
    rw [namesL, sizeL, List.length_append, names_len r, namesL_len rs]
end

/-! ### data -/
mutual
theorem enc_depth : ∀ r : R, (enc r).depth ≤ depth r
  | .nothing => by simp [enc, PyData.depth, PyData.depthAll, depth]
  | .step _ => by simp [enc, PyData.depth, PyData.depthAll, depth]
  | .node b rs => by
    have h := encL_depth rs
    simp only [enc, PyData.depth, PyData.depthAll, depth]
    omega
theorem encL_depth : ∀ rs : List R, PyData.depthAll (encL rs) ≤ depthL rs
  | [] => by simp [encL, PyData.depthAll, depthL]
  | r :: rs => by
    have h1 := enc_depth r
    have h2 := encL_depth rs
    simp only [encL, PyData.depthAll, depthL]
    omega
end
mutual
theorem enc_eqv : ∀ r : R, PyData.eqv (enc r) (enc r) = true
  | .nothing => by simp [enc, PyData.eqv, PyData.eqvAll]
  | .step _ => by simp [enc, PyData.eqv, PyData.eqvAll]
  | .node b rs => by
    have h := encL_eqv rs
    simp [enc, PyData.eqv, PyData.eqvAll, h]
theorem encL_eqv : ∀ rs : List R, PyData.eqvAll (encL rs) (encL rs) = true
  | [] => by simp [encL, PyData.eqvAll]
  | r :: rs => by
    have h1 := enc_eqv r
    have h2 := encL_eqv rs
    simp [encL, PyData.eqvAll, h1, h2]
end

/-! ### the order of runs -/
def tk (r : R) : List (Int ⊕ List Nat) := keyToks (enc r)
theorem tk_nothing : tk .nothing = [.inl 1, .inr (Str.ofString "nothing").cps.toList, .inl 0] := by
  simp only [tk, enc, keyToks, keyToksAll]
  rfl
theorem tk_step (n : Str) : tk (.step n) = [.inl 1, .inr (Str.ofString "step").cps.toList, .inl 1, .inr n.cps.toList, .inl 0] := by
  simp only [tk, enc, keyToks, keyToksAll]
  rfl
theorem tk_node (b : Bool) (rs : List R) : tk (.node b rs) = .inl 1 :: .inr (word b).cps.toList :: keyToksAll (encL rs) := by
  simp only [tk, enc, keyToks, keyToksAll]
  rfl
theorem word_cps : ∀ b : Bool, (word b).cps.toList ≠ (Str.ofString "nothing").cps.toList ∧ (word b).cps.toList ≠ (Str.ofString "step").cps.toList
  | true => by decide +kernel
  | false => by decide +kernel
theorem word_inj : ∀ b c : Bool, (word b).cps.toList = (word c).cps.toList → b = c
  | true, true, _ => rfl
  | false, false, _ => rfl
  | true, false, h => absurd h (by decide +kernel)
  | false, true, h => absurd h (by decide +kernel)
theorem nothing_step : (Str.ofString "nothing").cps.toList ≠ (Str.ofString "step").cps.toList := by decide +kernel
theorem sum_inr {a b : List Nat} {l m : List (Int ⊕ List Nat)} (h : (Sum.inr a : Int ⊕ List Nat) :: l = Sum.inr b :: m) : a = b ∧ l = m := by
  injection h with h1 h2
  injection h1 with h1
  exact ⟨h1, h2⟩
theorem sum_inl {a b : Int} {l m : List (Int ⊕ List Nat)} (h : (Sum.inl a : Int ⊕ List Nat) :: l = Sum.inl b :: m) : a = b ∧ l = m := by
  injection h with h1 h2
  injection h1 with h1
  exact ⟨h1, h2⟩
mutual
/-- the row of signs of a run tells the run, whatever follows -/
theorem tk_inj : ∀ (a b : R) (l m : List (Int ⊕ List Nat)), tk a ++ l = tk b ++ m → a = b ∧ l = m
  | .nothing, b, l, m, h => by
    cases b with
    | nothing => exact ⟨rfl, List.append_cancel_left h⟩
    | step n =>
      rw [tk_nothing, tk_step] at h
      simp only [List.cons_append] at h
      exact absurd (sum_inr (sum_inl h).2).1 nothing_step
    | node c rs =>
      rw [tk_nothing, tk_node] at h
      simp only [List.cons_append] at h
      exact absurd (sum_inr (sum_inl h).2).1.symm (word_cps c).1
  | .step n, b, l, m, h => by
    cases b with
    | nothing =>
      rw [tk_nothing, tk_step] at h
      simp only [List.cons_append] at h
      exact absurd (sum_inr (sum_inl h).2).1.symm nothing_step
    | step k =>
      rw [tk_step, tk_step] at h
      simp only [List.cons_append, List.nil_append] at h
      have h1 := (sum_inl (sum_inr (sum_inl h).2).2).2
      obtain ⟨e, h2⟩ := sum_inr h1
      exact ⟨by rw [str_of_cps e], (sum_inl h2).2⟩
    | node c rs =>
      rw [tk_step, tk_node] at h
      simp only [List.cons_append] at h
      exact absurd (sum_inr (sum_inl h).2).1.symm (word_cps c).2
  | .node c rs, b, l, m, h => by
    cases b with
    | nothing =>
      rw [tk_nothing, tk_node] at h
      simp only [List.cons_append] at h
      exact absurd (sum_inr (sum_inl h).2).1 (word_cps c).1
    | step k =>
      rw [tk_step, tk_node] at h
      simp only [List.cons_append] at h
      exact absurd (sum_inr (sum_inl h).2).1 (word_cps c).2
    | node c' rs' =>
      rw [tk_node, tk_node] at h
      simp only [List.cons_append] at h
      obtain ⟨e, h1⟩ := sum_inr (sum_inl h).2
      obtain ⟨e1, e2⟩ := tkL_inj rs rs' l m h1
      exact ⟨by rw [word_inj _ _ e, e1], e2⟩
theorem tkL_inj : ∀ (as bs : List R) (l m : List (Int ⊕ List Nat)), keyToksAll (encL as) ++ l = keyToksAll (encL bs) ++ m → as = bs ∧ l = m
  | [], [], l, m, h => ⟨rfl, List.append_cancel_left h⟩
  | [], b :: bs, l, m, h => by
    simp only [encL, keyToksAll, List.cons_append] at h
    exact absurd (sum_inl h).1 (by decide)
  | a :: as, [], l, m, h => by
    simp only [encL, keyToksAll, List.cons_append] at h
    exact absurd (sum_inl h).1 (by decide)
  | a :: as, b :: bs, l, m, h => by
    simp only [encL, keyToksAll, List.cons_append, List.append_assoc] at h
    obtain ⟨e, h1⟩ := tk_inj a b _ _ (sum_inl h).2
    obtain ⟨e1, e2⟩ := tkL_inj as bs l m h1
    exact ⟨by rw [e, e1], e2⟩
end
theorem tk_eq {a b : R} (h : tk a = tk b) : a = b := (tk_inj a b [] [] (by rw [List.append_nil, List.append_nil]; exact h)).1

/-- at most, in Python's order of the tuples -/
def leR : R → R → Bool := sortLe (listOrd itemOrd) false tk
theorem leR_total : TotalLe leR := sortLe_total _ _ _
theorem leR_def (a b : R) : leR a b = !(listOrd itemOrd).blt (tk b) (tk a) := rfl
theorem leR_anti {a b : R} (h1 : leR a b = true) (h2 : leR b a = true) : a = b := by
  rw [leR_def] at h1 h2
  refine tk_eq ((listOrd itemOrd).total _ _ ?_ ?_)
  · simpa using h2
  · simpa using h1
def sortR (rs : List R) : List R := rs.mergeSort leR
theorem sortR_perm (rs : List R) : (sortR rs).Perm rs := List.mergeSort_perm rs leR
theorem sortR_sorted (rs : List R) : (sortR rs).Pairwise (fun a b => leR a b = true) := sort_pairwise leR_total rs
theorem sortR_of {rs ts : List R} (hp : ts.Perm rs) (hs : ts.Pairwise (fun a b => leR a b = true)) : sortR rs = ts :=
  List.Perm.eq_of_pairwise (fun a b _ _ h1 h2 => leR_anti h1 h2) (sortR_sorted rs) hs ((sortR_perm rs).trans hp.symm)
theorem sortR_perm_eq {rs ts : List R} (hp : ts.Perm rs) : sortR ts = sortR rs := sortR_of ((sortR_perm rs).trans hp.symm) (sortR_sorted rs)
theorem sortR_idem (rs : List R) : sortR (sortR rs) = sortR rs := sortR_perm_eq (sortR_perm rs)

/-! ### joining -/
/-- what a run stands for within a row (a bag) -/
def parts (b : Bool) : R → List R
  | .nothing => []
  | .step n => [.step n]
  | .node c rs => if c = b then rs else [.node c rs]
theorem parts_node (b c : Bool) (rs : List R) : parts b (.node c rs) = if c = b then rs else [.node c rs] := rfl
def finish (b : Bool) : List R → R
  | [] => .nothing
  | [x] => x
  | x :: y :: r => .node b (x :: y :: r)
def ordered (b : Bool) (rs : List R) : List R := if b = true then sortR rs else rs
theorem ordered_perm (b : Bool) (rs : List R) : (ordered b rs).Perm rs := by
  unfold ordered
  split
  · exact sortR_perm rs
  · exact List.Perm.refl _
def joined (b : Bool) (rs : List R) : R := finish b (ordered b (rs.flatMap (parts b)))
theorem finish_many {b : Bool} {rs : List R} (h : 2 ≤ rs.length) : finish b rs = .node b rs := by
  match rs, h with
  | x :: y :: r, _ => rfl

/-- a part of a row (a bag): a step or a bag (a row) -/
def isPart (b : Bool) : R → Bool
  | .nothing => false
  | .step _ => true
  | .node c _ => c != b

def letters : Str := Str.ofString "abcdefghijklmnopqrstuvwxyz"
def isName (n : Str) : Prop := 1 ≤ n.length ∧ n.length ≤ 6 ∧ ∀ c ∈ n.cps.toList, c ∈ letters.cps.toList

mutual
/-- well-formed -/
def Ok : R → Prop
  | .nothing => True
  | .step n => isName n
  | .node b rs => 2 ≤ rs.length ∧ OkL b rs ∧ (b = true → sortR rs = rs)
def OkL (b : Bool) : List R → Prop
  | [] => True
  | r :: rs => (Ok r ∧ isPart b r = true) ∧ OkL b rs
end
theorem okL_iff {b : Bool} : ∀ {rs : List R}, OkL b rs ↔ ∀ r ∈ rs, Ok r ∧ isPart b r = true
  | [] => by simp [OkL]
  | r :: rs => by
    rw [OkL, okL_iff (b := b) (rs := rs)]
    simp only [List.mem_cons, forall_eq_or_imp]
theorem parts_ok {b : Bool} : ∀ {r : R}, Ok r → ∀ p ∈ parts b r, Ok p ∧ isPart b p = true
  | .nothing, _, p, hp => by simp [parts] at hp
  | .step n, h, p, hp => by
    simp [parts] at hp
    subst hp
    exact ⟨h, rfl⟩
  | .node c rs, h, p, hp => by
    rw [parts_node] at hp
    by_cases e : c = b
    · rw [if_pos e] at hp
      rw [Ok] at h
      rw [e] at h
      exact okL_iff.mp h.2.1 p hp
    · rw [if_neg e] at hp
      rw [List.mem_singleton] at hp
      rw [hp]
      exact ⟨h, by simpa [isPart] using e⟩
theorem joined_ok {b : Bool} {rs : List R} (h : ∀ r ∈ rs, Ok r) : Ok (joined b rs) := by
  unfold joined
  have hm : ∀ p ∈ ordered b (rs.flatMap (parts b)), Ok p ∧ isPart b p = true := fun p hp => by
    have hp' := (ordered_perm b _).mem_iff.mp hp
    obtain ⟨r, hr, hpr⟩ := List.mem_flatMap.mp hp'
    exact parts_ok (h r hr) p hpr
  generalize hf : ordered b (rs.flatMap (parts b)) = found at hm
  match found, hf, hm with
  | [], _, _ => rw [finish, Ok]; trivial
  | [x], _, hm => exact (hm x List.mem_cons_self).1
  | x :: y :: r, hf, hm =>
    rw [finish, Ok]
    refine ⟨by simp, okL_iff.mpr hm, fun hb => ?_⟩
    rw [← hf]
    unfold ordered
    rw [if_pos hb]
    exact sortR_idem _
theorem parts_self {b : Bool} : ∀ {r : R}, isPart b r = true → parts b r = [r]
  | .nothing, h => by simp [isPart] at h
  | .step n, _ => rfl
  | .node c rs, h => by
    rw [parts_node]
    exact if_neg (by simpa [isPart] using h)
theorem flat_self {b : Bool} : ∀ {rs : List R}, (∀ r ∈ rs, isPart b r = true) → rs.flatMap (parts b) = rs
  | [], _ => rfl
  | r :: rs, h => by
    rw [List.flatMap_cons, parts_self (h r List.mem_cons_self), flat_self fun x hx => h x (List.mem_cons_of_mem _ hx)]
    rfl
/-- a well-formed row or bag is joined of its parts, in any order where it is a bag -/
theorem joined_self {b : Bool} {rs ts : List R} (h : Ok (.node b rs)) (hp : ts.Perm rs) (he : b = false → ts = rs) : joined b ts = .node b rs := by
  rw [Ok] at h
  have hq : ∀ r ∈ ts, isPart b r = true := fun r hr => (okL_iff.mp h.2.1 r (hp.mem_iff.mp hr)).2
  have e : ordered b ts = rs := by
    unfold ordered
    cases b with
    | true => rw [if_pos rfl, sortR_perm_eq hp, h.2.2 rfl]
    | false => rw [if_neg Bool.false_ne_true, he rfl]
  unfold joined
  rw [flat_self hq, e]
  exact finish_many h.1

theorem sizeL_parts {b : Bool} : ∀ r : R, sizeL (parts b r) = size r
  | .nothing => by simp [parts, sizeL, size]
  | .step n => by simp [parts, sizeL, size]
  | .node c rs => by
    rw [parts_node]
    split
    · rw [size]
    · simp [sizeL]
theorem sizeL_flat {b : Bool} : ∀ rs : List R, sizeL (rs.flatMap (parts b)) = sizeL rs
  | [] => rfl
  | r :: rs => by rw [List.flatMap_cons, sizeL_append, sizeL_parts, sizeL_flat rs, sizeL]
theorem size_finish {b : Bool} : ∀ rs : List R, size (finish b rs) = sizeL rs
  | [] => by simp [finish, size, sizeL]
  | [x] => by simp [finish, sizeL]
  | x :: y :: r => by rw [finish, size]
theorem size_joined (b : Bool) (rs : List R) : size (joined b rs) = sizeL rs := by
  unfold joined
  rw [size_finish, sizeL_perm (ordered_perm b _), sizeL_flat]

mutual
theorem size_pos : ∀ {r : R}, Ok r → r ≠ .nothing → 1 ≤ size r
  | .nothing, _, h => absurd rfl h
  | .step _, _, _ => by simp [size]
  | .node b rs, h, _ => by
    rw [Ok] at h
    rw [size]
    have := sizeL_ge h.2.1
    omega
theorem sizeL_ge {b : Bool} : ∀ {rs : List R}, OkL b rs → rs.length ≤ sizeL rs
  | [], _ => by simp [sizeL]
  | r :: rs, h => by
    rw [OkL] at h
    have h1 := size_pos h.1.1 (fun e => by rw [e] at h; simp [isPart] at h)
    have h2 := sizeL_ge h.2
    rw [sizeL, List.length_cons]
    omega
end
mutual
/-- nesting needs steps -/
theorem depth_le_size : ∀ {r : R}, Ok r → depth r ≤ size r + 1
  | .nothing, _ => by simp [depth]
  | .step _, _ => by simp [depth]
  | .node b rs, h => by
    rw [Ok] at h
    rw [depth, size]
    have h1 := depthL_le_size h.2.1
    have h2 := h.1
    omega
theorem depthL_le_size {b : Bool} : ∀ {rs : List R}, OkL b rs → depthL rs + rs.length ≤ sizeL rs + 2
  | [], _ => by simp [depthL]
  | r :: rs, h => by
    rw [OkL] at h
    have h1 := depth_le_size h.1.1
    have h2 := depthL_le_size h.2
    have h3 := sizeL_ge h.2
    have h4 := size_pos h.1.1 (fun e => by rw [e] at h; simp [isPart] at h)
    rw [depthL, sizeL, List.length_cons]
    omega
end
end Fk

set_option Elab.async false
set_option linter.all false
set_option maxRecDepth 100000
/-! The order of a run, what fits it, and how drawing finds it again. -/
namespace Fk
open PySem PySem.W PyProof.Rows

theorem name_strOk {n : Str} (h : isName n) : PyData.strOk n = true := by
  have hl : ∀ c ∈ letters.cps.toList, c < 0x110000 := by decide +kernel
  show n.cps.all (· < 0x110000) = true
  rw [← Array.all_toList, List.all_eq_true]
  intro c hc
  exact decide_eq_true (hl c (h.2.2 c hc))
theorem word_strOk : ∀ b : Bool, PyData.strOk (word b) = true
  | true => by decide +kernel
  | false => by decide +kernel
mutual
theorem enc_lay : ∀ r : R, Ok r → (enc r).canLay0 = true
  | .nothing, _ => by decide +kernel
  | .step n, h => by
    have h1 := name_strOk h
    have h2 : PyData.strOk (Str.ofString "step") = true := by decide +kernel
    simp [enc, PyData.canLay0, PyData.canLayAll0, h1, h2]
  | .node b rs, h => by
    rw [Ok] at h
    have h1 := encL_lay (b := b) rs h.2.1
    simp [enc, PyData.canLay0, PyData.canLayAll0, h1, word_strOk]
theorem encL_lay {b : Bool} : ∀ rs : List R, OkL b rs → PyData.canLayAll0 (encL rs) = true
  | [], _ => by simp [encL, PyData.canLayAll0]
  | r :: rs, h => by
    rw [OkL] at h
    have h1 := enc_lay r h.1.1
    have h2 := encL_lay (b := b) rs h.2
    simp [encL, PyData.canLayAll0, h1, h2]
end

/-! ### the pairs of a run's order -/
def across (k p n : Nat) : List (Nat × Nat) := (List.range' k (p - k)).flatMap fun i => (List.range' p n).map fun j => (i, j)
mutual
/-- the steps being numbered from k on -/
def prs : R → Nat → List (Nat × Nat)
  | .nothing, _ => []
  | .step _, _ => []
  | .node b rs, k => prsL b rs k k
def prsL (b : Bool) : List R → Nat → Nat → List (Nat × Nat)
  | [], _, _ => []
  | r :: rs, k, p => (if b = true then [] else across k p (size r)) ++ (prs r p ++ prsL b rs k (p + size r))
end
theorem mem_across {k p n i j : Nat} (h : k ≤ p) : (i, j) ∈ across k p n ↔ (k ≤ i ∧ i < p) ∧ p ≤ j ∧ j < p + n := by
  unfold across
  simp only [List.mem_flatMap, List.mem_map, List.mem_range'_1, Prod.mk.injEq]
  constructor
  · rintro ⟨a, ha, c, hc, rfl, rfl⟩
    omega
  · intro q
    exact ⟨i, by omega, j, by omega, rfl, rfl⟩
mutual
theorem prs_bd : ∀ (r : R) (k i j : Nat), (i, j) ∈ prs r k → (k ≤ i ∧ i < k + size r) ∧ k ≤ j ∧ j < k + size r
  | .nothing, _, _, _, h => by simp [prs] at h
  | .step _, _, _, _, h => by simp [prs] at h
  | .node b rs, k, i, j, h => by
    rw [prs] at h
    rw [size]
    exact prsL_bd b rs k k i j (Nat.le_refl k) h
theorem prsL_bd (b : Bool) : ∀ (rs : List R) (k p i j : Nat), k ≤ p → (i, j) ∈ prsL b rs k p → (k ≤ i ∧ i < p + sizeL rs) ∧ p ≤ j ∧ j < p + sizeL rs
  | [], _, _, _, _, _, h => by simp [prsL] at h
  | r :: rs, k, p, i, j, hk, h => by
    rw [prsL, List.mem_append, List.mem_append] at h
    rw [sizeL]
    rcases h with h | h | h
    · split at h
      · simp at h
      · have := (mem_across hk).mp h
        omega
    · have := prs_bd r p i j h
      omega
    · have := prsL_bd b rs k (p + size r) i j (by omega) h
      omega
end

/-! ### what fits a run -/
/-- the steps at S stand behind (beside) those at T -/
def cross (rel : Nat → Nat → Bool) (b : Bool) (S T : List Nat) : Prop := ∀ x ∈ S, ∀ y ∈ T, rel x y = !b ∧ rel y x = false
mutual
def Fits (rel : Nat → Nat → Bool) (lab : Nat → Str) : R → List Nat → Prop
  | .nothing, S => S = []
  | .step n, S => ∃ i, S = [i] ∧ lab i = n
  | .node b rs, S => ∃ Ss : List (List Nat), S.Perm Ss.flatten ∧ FitsL rel lab rs Ss ∧ Ss.Pairwise (cross rel b)
def FitsL (rel : Nat → Nat → Bool) (lab : Nat → Str) : List R → List (List Nat) → Prop
  | [], Ss => Ss = []
  | r :: rs, Ss => ∃ S T, Ss = S :: T ∧ Fits rel lab r S ∧ FitsL rel lab rs T
end
section
variable {rel : Nat → Nat → Bool} {lab : Nat → Str}
theorem Fits.perm {r : R} {S T : List Nat} (h : Fits rel lab r S) (p : S.Perm T) : Fits rel lab r T := by
  cases r with
  | nothing =>
    rw [Fits] at h ⊢
    rw [h] at p
    exact p.nil_eq.symm
  | step n =>
    rw [Fits] at h ⊢
    obtain ⟨i, e, hl⟩ := h
    rw [e] at p
    exact ⟨i, (List.singleton_perm.mp p).symm, hl⟩
  | node b rs =>
    rw [Fits] at h ⊢
    obtain ⟨Ss, h1, h2⟩ := h
    exact ⟨Ss, p.symm.trans h1, h2⟩
mutual
theorem fits_len : ∀ (r : R) (S : List Nat), Fits rel lab r S → S.length = size r
  | .nothing, S, h => by
    rw [Fits] at h
    rw [h, size]
    rfl
  | .step n, S, h => by
    rw [Fits] at h
    obtain ⟨i, e, _⟩ := h
    rw [e, size]
    rfl
  | .node b rs, S, h => by
    rw [Fits] at h
    obtain ⟨Ss, h1, h2, _⟩ := h
    rw [h1.length_eq, size, fitsL_len rs Ss h2]
theorem fitsL_len : ∀ (rs : List R) (Ss : List (List Nat)), FitsL rel lab rs Ss → Ss.flatten.length = sizeL rs
  | [], Ss, h => by
    rw [FitsL] at h
    rw [h, sizeL]
    rfl
  | r :: rs, Ss, h => by
    rw [FitsL] at h
    obtain ⟨S, T, e, h1, h2⟩ := h
    rw [e, List.flatten_cons, List.length_append, fits_len r S h1, fitsL_len rs T h2, sizeL]
end
theorem fitsL_count : ∀ {rs : List R} {Ss : List (List Nat)}, FitsL rel lab rs Ss → Ss.length = rs.length
  | [], Ss, h => by
    rw [FitsL] at h
    rw [h]
    rfl
  | r :: rs, Ss, h => by
    rw [FitsL] at h
    obtain ⟨S, T, e, _, h2⟩ := h
    rw [e, List.length_cons, List.length_cons, fitsL_count h2]
theorem fitsL_append : ∀ {rs ts : List R} {Ss Ts : List (List Nat)}, FitsL rel lab rs Ss → FitsL rel lab ts Ts → FitsL rel lab (rs ++ ts) (Ss ++ Ts)
  | [], ts, Ss, Ts, h, k => by
    rw [FitsL] at h
    rw [h]
    exact k
  | r :: rs, ts, Ss, Ts, h, k => by
    rw [FitsL] at h
    obtain ⟨S, T, e, h1, h2⟩ := h
    rw [e, List.cons_append, List.cons_append, FitsL]
    exact ⟨S, T ++ Ts, rfl, h1, fitsL_append h2 k⟩
theorem fitsL_perm {rs ts : List R} (p : rs.Perm ts) : ∀ {Ss : List (List Nat)}, FitsL rel lab rs Ss → ∃ Ts, Ss.Perm Ts ∧ FitsL rel lab ts Ts := by
  induction p with
  | nil => exact fun {Ss} h => ⟨Ss, List.Perm.refl _, h⟩
  | @cons x l1 l2 _ ih =>
    intro Ss h
    rw [FitsL] at h
    obtain ⟨S, T, e, h1, h2⟩ := h
    obtain ⟨Ts, q1, q2⟩ := ih h2
    refine ⟨S :: Ts, by rw [e]; exact q1.cons S, ?_⟩
    rw [FitsL]
    exact ⟨S, Ts, rfl, h1, q2⟩
  | swap x y l =>
    intro Ss h
    rw [FitsL] at h
    obtain ⟨S, T, e, h1, h2⟩ := h
    rw [FitsL] at h2
    obtain ⟨S2, T2, e2, h3, h4⟩ := h2
    refine ⟨S2 :: S :: T2, by rw [e, e2]; exact List.Perm.swap _ _ _, ?_⟩
    rw [FitsL]
    refine ⟨S2, S :: T2, rfl, h3, ?_⟩
    rw [FitsL]
    exact ⟨S, T2, rfl, h1, h4⟩
  | trans _ _ ih1 ih2 =>
    intro Ss h
    obtain ⟨Ts, q1, q2⟩ := ih1 h
    obtain ⟨Us, q3, q4⟩ := ih2 q2
    exact ⟨Us, q1.trans q3, q4⟩

/-! ### joining -/
theorem fits_parts {b : Bool} : ∀ {rs : List R} {Ss : List (List Nat)}, FitsL rel lab rs Ss → Ss.Pairwise (cross rel b) →
    ∃ Ts, FitsL rel lab (rs.flatMap (parts b)) Ts ∧ Ss.flatten.Perm Ts.flatten ∧ Ts.Pairwise (cross rel b)
  | [], Ss, h, _ => by
    rw [FitsL] at h
    refine ⟨[], ?_, by rw [h], List.Pairwise.nil⟩
    show FitsL rel lab [] []
    rw [FitsL]
  | r :: rs, Ss, h, hc => by
    rw [FitsL] at h
    obtain ⟨S, T, e, h1, h2⟩ := h
    rw [e] at hc ⊢
    obtain ⟨hc1, hc2⟩ := List.pairwise_cons.mp hc
    obtain ⟨Ts, q1, q2, q3⟩ := fits_parts (b := b) h2 hc2
    -- the pieces of r, then those of the others
    have fin : ∀ Us : List (List Nat), FitsL rel lab (parts b r) Us → S.Perm Us.flatten → Us.Pairwise (cross rel b) → ∃ Vs, FitsL rel lab ((r :: rs).flatMap (parts b)) Vs ∧ (S :: T).flatten.Perm Vs.flatten ∧ Vs.Pairwise (cross rel b) := by
      intro Us u1 u2 u3
      refine ⟨Us ++ Ts, ?_, ?_, ?_⟩
      · rw [List.flatMap_cons]
        exact fitsL_append u1 q1
      · rw [List.flatten_cons, List.flatten_append]
        exact u2.append q2
      · refine List.pairwise_append.mpr ⟨u3, q3, fun U hU V hV x hx y hy => ?_⟩
        have hxS : x ∈ S := u2.mem_iff.mpr (List.mem_flatten.mpr ⟨U, hU, hx⟩)
        obtain ⟨W, hW, hyW⟩ := List.mem_flatten.mp (q2.mem_iff.mpr (List.mem_flatten.mpr ⟨V, hV, hy⟩))
        exact hc1 W hW x hxS y hyW
    have alone : parts b r = [r] → ∃ Vs, FitsL rel lab ((r :: rs).flatMap (parts b)) Vs ∧ (S :: T).flatten.Perm Vs.flatten ∧ Vs.Pairwise (cross rel b) := by
      intro hp
      refine fin [S] ?_ (by simp) (List.pairwise_singleton _ _)
      rw [hp, FitsL]
      exact ⟨S, [], rfl, h1, by rw [FitsL]⟩
    cases r with
    | nothing =>
      rw [Fits] at h1
      refine fin [] ?_ (by rw [h1]; exact List.Perm.refl _) List.Pairwise.nil
      show FitsL rel lab [] []
      rw [FitsL]
    | step n => exact alone rfl
    | node c rs' =>
      by_cases hcb : c = b
      · rw [Fits] at h1
        obtain ⟨Us, u1, u2, u3⟩ := h1
        refine fin Us ?_ u1 (by rw [← hcb]; exact u3)
        rw [parts_node, if_pos hcb]
        exact u2
      · exact alone (by rw [parts_node, if_neg hcb])
theorem cross_sym {S T : List Nat} (h : cross rel true S T) : cross rel true T S := fun x hx y hy => ⟨(h y hy x hx).2, (h y hy x hx).1⟩
theorem fits_finish {b : Bool} : ∀ {rs : List R} {Ss : List (List Nat)}, FitsL rel lab rs Ss → Ss.Pairwise (cross rel b) → Fits rel lab (finish b rs) Ss.flatten
  | [], Ss, h, _ => by
    rw [FitsL] at h
    rw [h, finish, Fits]
    rfl
  | [x], Ss, h, _ => by
    rw [FitsL] at h
    obtain ⟨S, T, e, h1, h2⟩ := h
    rw [FitsL] at h2
    rw [e, h2, finish]
    simpa using h1
  | x :: y :: r, Ss, h, hc => by
    rw [finish, Fits]
    exact ⟨Ss, List.Perm.refl _, h, hc⟩
theorem fits_joined {b : Bool} {rs : List R} {Ss : List (List Nat)} (h : FitsL rel lab rs Ss) (hc : Ss.Pairwise (cross rel b)) : Fits rel lab (joined b rs) Ss.flatten := by
  obtain ⟨Ts, q1, q2, q3⟩ := fits_parts h hc
  have key : ∃ Us, Ts.Perm Us ∧ FitsL rel lab (ordered b (rs.flatMap (parts b))) Us ∧ Us.Pairwise (cross rel b) := by
    cases b with
    | true =>
      obtain ⟨Us, p1, p2⟩ := fitsL_perm (ordered_perm true (rs.flatMap (parts true))).symm q1
      exact ⟨Us, p1, p2, p1.pairwise q3 fun {_ _} => cross_sym⟩
    | false => exact ⟨Ts, List.Perm.refl _, q1, q3⟩
  obtain ⟨Us, p1, p2, p3⟩ := key
  exact (fits_finish p2 p3).perm (p1.symm.flatten.trans q2.symm)

/-! ### turning -/
mutual
def turned : R → R
  | .nothing => .nothing
  | .step n => .step n
  | .node b rs => joined b (turnedL rs).reverse
def turnedL : List R → List R
  | [] => []
  | r :: rs => turned r :: turnedL rs
end
theorem fitsL_reverse : ∀ {rs : List R} {Ss : List (List Nat)}, FitsL rel lab rs Ss → FitsL rel lab rs.reverse Ss.reverse
  | [], Ss, h => by
    rw [FitsL] at h
    rw [h]
    show FitsL rel lab [] []
    rw [FitsL]
  | r :: rs, Ss, h => by
    rw [FitsL] at h
    obtain ⟨S, T, e, h1, h2⟩ := h
    rw [e, List.reverse_cons, List.reverse_cons]
    refine fitsL_append (fitsL_reverse h2) ?_
    rw [FitsL]
    exact ⟨S, [], rfl, h1, by rw [FitsL]⟩
mutual
theorem fits_turned : ∀ (r : R) (S : List Nat), Fits rel lab r S → Fits (fun x y => rel y x) lab (turned r) S
  | .nothing, S, h => by
    rw [Fits] at h
    rw [turned, Fits]
    exact h
  | .step n, S, h => by
    rw [Fits] at h
    rw [turned, Fits]
    exact h
  | .node b rs, S, h => by
    rw [Fits] at h
    obtain ⟨Ss, h1, h2, h3⟩ := h
    rw [turned]
    have q := fitsL_reverse (fits_turnedL rs Ss h2)
    refine (fits_joined q ?_).perm ((List.reverse_perm Ss).flatten.trans h1.symm)
    rw [List.pairwise_reverse]
    refine h3.imp fun {A B} hc x hx y hy => ?_
    exact hc y hy x hx
theorem fits_turnedL : ∀ (rs : List R) (Ss : List (List Nat)), FitsL rel lab rs Ss → FitsL (fun x y => rel y x) lab (turnedL rs) Ss
  | [], Ss, h => by
    rw [FitsL] at h
    rw [turnedL, FitsL]
    exact h
  | r :: rs, Ss, h => by
    rw [FitsL] at h
    obtain ⟨S, T, e, h1, h2⟩ := h
    rw [turnedL, FitsL]
    exact ⟨S, T, e, fits_turned r S h1, fits_turnedL rs T h2⟩
end

/-! ### the order of a run fits the run -/
mutual
theorem fits_prs : ∀ (r : R) (k : Nat), (∀ i j, (k ≤ i ∧ i < k + size r) → (k ≤ j ∧ j < k + size r) → (rel i j = true ↔ (i, j) ∈ prs r k)) → (∀ i, i < size r → (names r)[i]? = some (lab (k + i))) → Fits rel lab r (List.range' k (size r))
  | .nothing, k, _, _ => by
    rw [Fits, size]
    rfl
  | .step n, k, _, hl => by
    rw [Fits, size]
    have q := hl 0 (by rw [size]; omega)
    rw [names] at q
    exact ⟨k, rfl, (Option.some.inj q).symm⟩
  | .node b rs, k, hr, hl => by
    rw [Fits, size]
    obtain ⟨Ss, h1, h2, h3, _⟩ := fits_prsL b rs k k (Nat.le_refl k) (fun i j hi hj _ => by
      have q := hr i j (by rw [size]; exact hi) (by rw [size]; exact hj)
      rw [prs] at q
      exact q) (fun i hi => by
      have q := hl i (by rw [size]; exact hi)
      rw [names] at q
      exact q)
    exact ⟨Ss, by rw [h1], h2, h3⟩
theorem fits_prsL (b : Bool) : ∀ (rs : List R) (k p : Nat), k ≤ p → (∀ i j, (k ≤ i ∧ i < p + sizeL rs) → (k ≤ j ∧ j < p + sizeL rs) → (p ≤ i ∨ p ≤ j) → (rel i j = true ↔ (i, j) ∈ prsL b rs k p)) → (∀ i, i < sizeL rs → (namesL rs)[i]? = some (lab (p + i))) →
    ∃ Ss : List (List Nat), Ss.flatten = List.range' p (sizeL rs) ∧ FitsL rel lab rs Ss ∧ Ss.Pairwise (cross rel b) ∧ cross rel b (List.range' k (p - k)) (List.range' p (sizeL rs))
  | [], k, p, _, _, _ => ⟨[], by rw [sizeL]; rfl, by rw [FitsL], List.Pairwise.nil, fun x _ y hy => by rw [sizeL] at hy; cases hy⟩
  | r :: rs, k, p, hk, hr, hl => by
    have hs : sizeL (r :: rs) = size r + sizeL rs := by rw [sizeL]
    have mem : ∀ i j, (i, j) ∈ prsL b (r :: rs) k p ↔ (b = false ∧ (k ≤ i ∧ i < p) ∧ p ≤ j ∧ j < p + size r) ∨ (i, j) ∈ prs r p ∨ (i, j) ∈ prsL b rs k (p + size r) := fun i j => by
      rw [prsL, List.mem_append, List.mem_append]
      cases b with
      | true => simp
      | false =>
        rw [if_neg Bool.false_ne_true, mem_across hk]
        simp
    have h1 := fits_prs r p (fun i j hi hj => by
      rw [hr i j (by omega) (by omega) (by omega), mem]
      constructor
      · rintro (q | q | q)
        · omega
        · exact q
        · have := prsL_bd b rs k (p + size r) i j (by omega) q
          omega
      · exact fun q => .inr (.inl q)) (fun i hi => by
      have q := hl i (by omega)
      rw [namesL, List.getElem?_append_left (by rw [names_len]; exact hi)] at q
      exact q)
    obtain ⟨Ts, t1, t2, t3, t4⟩ := fits_prsL b rs k (p + size r) (by omega) (fun i j hi hj hij => by
      rw [hr i j (by omega) (by omega) (by omega), mem]
      constructor
      · rintro (q | q | q)
        · omega
        · have := prs_bd r p i j q
          omega
        · exact q
      · exact fun q => .inr (.inr q)) (fun i hi => by
      have q := hl (size r + i) (by omega)
      rw [namesL, List.getElem?_append_right (by rw [names_len]; omega), names_len, Nat.add_sub_cancel_left] at q
      rw [q, Nat.add_assoc])
    have c0 : cross rel b (List.range' k (p - k)) (List.range' p (size r)) := fun x hx y hy => by
      rw [List.mem_range'_1] at hx hy
      have e1 := (hr x y (by omega) (by omega) (by omega)).trans (mem x y)
      have e2 := (hr y x (by omega) (by omega) (by omega)).trans (mem y x)
      have n2 : rel y x = false := by
        cases hv : rel y x with
        | false => rfl
        | true =>
          rcases e2.mp hv with q | q | q
          · omega
          · have := prs_bd r p y x q
            omega
          · have := prsL_bd b rs k (p + size r) y x (by omega) q
            omega
      refine ⟨?_, n2⟩
      cases b with
      | false => exact e1.mpr (.inl ⟨rfl, by omega, by omega, by omega⟩)
      | true =>
        cases hv : rel x y with
        | false => rfl
        | true =>
          rcases e1.mp hv with q | q | q
          · exact absurd q.1 (by simp)
          · have := prs_bd r p x y q
            omega
          · have := prsL_bd true rs k (p + size r) x y (by omega) q
            omega
    have cut : List.range' k (p + size r - k) = List.range' k (p - k) ++ List.range' p (size r) := by
      rw [show p + size r - k = (p - k) + size r by omega, ← List.range'_append_1, show k + (p - k) = p by omega]
    refine ⟨List.range' p (size r) :: Ts, ?_, ?_, ?_, ?_⟩
    · rw [List.flatten_cons, t1, hs, List.range'_append_1]
    · rw [FitsL]
      exact ⟨_, Ts, rfl, h1, t2⟩
    · refine List.pairwise_cons.mpr ⟨fun T hT x hx y hy => ?_, t3⟩
      refine t4 x (by rw [cut]; exact List.mem_append_right _ hx) y ?_
      rw [← t1]
      exact List.mem_flatten.mpr ⟨T, hT, hy⟩
    · intro x hx y hy
      rw [hs, ← List.range'_append_1] at hy
      rcases List.mem_append.mp hy with hy | hy
      · exact c0 x hx y hy
      · exact t4 x (by rw [cut]; exact List.mem_append_left _ hx) y hy
end
end
end Fk

set_option Elab.async false
set_option linter.all false
set_option maxRecDepth 100000
/-! Groups that hang together, and their order. -/
namespace Fk
open PySem PySem.W PyProof.Rows

/-! ### what is come to -/
inductive Reach (nbr : Nat → List Nat) : Nat → Nat → Prop where
  | one {x y : Nat} : y ∈ nbr x → Reach nbr x y
  | more {x y z : Nat} : Reach nbr x y → z ∈ nbr y → Reach nbr x z
theorem Reach.trans {nbr : Nat → List Nat} {x y z : Nat} (h : Reach nbr x y) (k : Reach nbr y z) : Reach nbr x z := by
  induction k with
  | one q => exact h.more q
  | more _ q ih => exact ih.more q

/-- the groups, one after the other: g x y tells that x and y hang together -/
def groupsM (g : Nat → Nat → Bool) (some : List Nat) : Nat → List Nat → List (List Nat)
  | 0, _ => []
  | _ + 1, [] => []
  | n + 1, x :: l => some.filter (g x) :: groupsM g some n ((x :: l).filter fun y => !g x y)

theorem mem_any {rem : List (List Nat)} {y : Nat} : rem.any (·.contains y) = true ↔ ∃ B ∈ rem, y ∈ B := by
  simp
theorem filter_same {S : List Nat} {p q : Nat → Bool} (h : ∀ y ∈ S, p y = q y) : S.filter p = S.filter q := List.filter_congr h
theorem groups_blocks {g : Nat → Nat → Bool} {S : List Nat} : ∀ (n : Nat) (rem : List (List Nat)), (∀ B ∈ rem, B ≠ [] ∧ ∀ x ∈ B, x ∈ S ∧ ∀ y ∈ S, (g x y = true ↔ y ∈ B)) → rem.Pairwise (fun A B => ∀ x ∈ A, x ∉ B) →
    (S.filter fun y => rem.any (·.contains y)).length ≤ n → (groupsM g S n (S.filter fun y => rem.any (·.contains y))).Perm (rem.map fun B => S.filter (B.contains ·))
  | n, rem, hb, hd, hn => by
    match hl : S.filter (fun y => rem.any (·.contains y)) with
    | [] =>
      have e : rem = [] := by
        cases rem with
        | nil => rfl
        | cons B t =>
          obtain ⟨ne, hx⟩ := hb B List.mem_cons_self
          obtain ⟨x, r, e⟩ := List.exists_cons_of_ne_nil ne
          have m : x ∈ S.filter (fun y => (B :: t).any (·.contains y)) := List.mem_filter.mpr ⟨(hx x (by rw [e]; exact List.mem_cons_self)).1, mem_any.mpr ⟨B, List.mem_cons_self, by rw [e]; exact List.mem_cons_self⟩⟩
          rw [hl] at m
          cases m
      rw [e]
      cases n <;> exact List.Perm.refl _
    | x :: l =>
      rw [hl] at hn
      cases n with
      | zero => simp at hn
      | succ n =>
        have hx : x ∈ S.filter (fun y => rem.any (·.contains y)) := by
          rw [hl]
          exact List.mem_cons_self
        obtain ⟨hxS, hxr⟩ := List.mem_filter.mp hx
        obtain ⟨B, hB, hxB⟩ := mem_any.mp hxr
        obtain ⟨s, t, er⟩ := List.append_of_mem hB
        have pr : rem.Perm (B :: (s ++ t)) := by
          rw [er]
          exact List.perm_middle
        obtain ⟨_, hbx⟩ := hb B hB
        have hd2 : (B :: (s ++ t)).Pairwise (fun A C => ∀ z ∈ A, z ∉ C) := pr.pairwise hd fun {A C} h z hz hz2 => h z hz2 hz
        obtain ⟨hd3, hd4⟩ := List.pairwise_cons.mp hd2
        have e1 : S.filter (g x) = S.filter (B.contains ·) := filter_same fun y hy => by
          have q := (hbx x hxB).2 y hy
          have q2 : B.contains y = true ↔ y ∈ B := by simp
          exact Bool.eq_iff_iff.mpr (q.trans q2.symm)
        have e2 : (x :: l).filter (fun y => !g x y) = S.filter (fun y => (s ++ t).any (·.contains y)) := by
          rw [← hl, List.filter_filter]
          refine filter_same fun y hy => ?_
          have q := (hbx x hxB).2 y hy
          rw [Bool.eq_iff_iff, Bool.and_eq_true, mem_any, mem_any]
          constructor
          · rintro ⟨h1, C, hC, hyC⟩
            rcases List.mem_cons.mp (pr.mem_iff.mp hC) with e | h2
            · rw [e] at hyC
              rw [q.mpr hyC] at h1
              cases h1
            · exact ⟨C, h2, hyC⟩
          · rintro ⟨C, hC, hyC⟩
            refine ⟨?_, C, pr.mem_iff.mpr (List.mem_cons_of_mem _ hC), hyC⟩
            cases hg : g x y with
            | false => rfl
            | true => exact absurd hyC (hd3 C hC y (q.mp hg))
        have hlen : (S.filter (fun y => (s ++ t).any (·.contains y))).length ≤ n := by
          rw [← e2]
          have h0 : g x x = true := ((hbx x hxB).2 x hxS).mpr hxB
          have h1 : (x :: l).filter (fun y => !g x y) = l.filter (fun y => !g x y) := List.filter_cons_of_neg (by rw [h0]; simp)
          rw [h1]
          have := List.length_filter_le (fun y => !g x y) l
          simp only [List.length_cons] at hn
          omega
        have ih := groups_blocks n (s ++ t) (fun C hC => hb C (pr.mem_iff.mpr (List.mem_cons_of_mem _ hC))) hd4 hlen
        rw [groupsM, e1, e2]
        refine (ih.cons _).trans ?_
        exact (pr.symm.map fun B : List Nat => S.filter fun x => B.contains x)
  termination_by n => n

section
variable {rel : Nat → Nat → Bool} {lab : Nat → Str} {S : List Nat}
/-- whether two steps stand behind one another -/
def cmp (rel : Nat → Nat → Bool) (x y : Nat) : Bool := rel y x || rel x y
/-- the ways that a step has for a word: b tells the word bag -/
def waysM (rel : Nat → Nat → Bool) (b : Bool) (S : List Nat) (x : Nat) : List Nat := S.filter fun y => (y != x) && (cmp rel x y == b)
theorem mem_ways {b : Bool} {x y : Nat} : y ∈ waysM rel b S x ↔ y ∈ S ∧ y ≠ x ∧ cmp rel x y = b := by
  unfold waysM
  simp [and_assoc]
theorem cross_cmp {b : Bool} {A B : List Nat} (h : cross rel b A B) {x y : Nat} (hx : x ∈ A) (hy : y ∈ B) : cmp rel x y = !b ∧ cmp rel y x = !b := by
  obtain ⟨h1, h2⟩ := h x hx y hy
  unfold cmp
  rw [h1, h2]
  simp
/-- steps of different pieces of a row (of a bag) hang together by the word bag (row) -/
theorem conn_pieces {b : Bool} {rs : List R} {Us : List (List Nat)} {T : List Nat} (hok : OkL (!b) rs) (h2 : 2 ≤ rs.length) (hf : FitsL rel lab rs Us) (hc : Us.Pairwise (cross rel (!b))) (hp : T.Perm Us.flatten) (hn : T.Nodup) (hT : ∀ x ∈ T, x ∈ S) :
    ∀ x ∈ T, ∀ y ∈ T, y = x ∨ Reach (waysM rel b S) x y := by
  have hnf : Us.flatten.Nodup := hp.nodup_iff.mp hn
  have edge : ∀ (i j : Nat) (hi : i < Us.length) (hj : j < Us.length), i ≠ j → ∀ x ∈ Us[i], ∀ y ∈ Us[j], y ∈ waysM rel b S x := by
    intro i j hi hj hij x hx y hy
    have hxT : x ∈ T := hp.mem_iff.mpr (List.mem_flatten.mpr ⟨_, List.getElem_mem hi, hx⟩)
    have hyT : y ∈ T := hp.mem_iff.mpr (List.mem_flatten.mpr ⟨_, List.getElem_mem hj, hy⟩)
    have hcm : cmp rel x y = b := by
      rcases Nat.lt_or_gt_of_ne hij with q | q
      · have z := (cross_cmp (List.pairwise_iff_getElem.mp hc i j hi hj q) hx hy).1
        rw [z, Bool.not_not]
      · have z := (cross_cmp (List.pairwise_iff_getElem.mp hc j i hj hi q) hy hx).2
        rw [z, Bool.not_not]
    refine mem_ways.mpr ⟨hT y hyT, fun e => ?_, hcm⟩
    have dj := (List.pairwise_flatten.mp hnf).2
    rcases Nat.lt_or_gt_of_ne hij with q | q
    · exact List.pairwise_iff_getElem.mp dj i j hi hj q x hx y hy e.symm
    · exact List.pairwise_iff_getElem.mp dj j i hj hi q y hy x hx e
  have hcount : Us.length = rs.length := fitsL_count hf
  have full : ∀ (i : Nat) (hi : i < Us.length), ∃ z, z ∈ Us[i] := by
    have aux : ∀ {rs : List R} {Us : List (List Nat)}, OkL (!b) rs → FitsL rel lab rs Us → ∀ U ∈ Us, ∃ z, z ∈ U := by
      intro rs
      induction rs with
      | nil =>
        intro Us _ h U hU
        rw [FitsL] at h
        rw [h] at hU
        cases hU
      | cons r rs ih =>
        intro Us ho h U hU
        rw [FitsL] at h
        obtain ⟨A, B, e, h1, h3⟩ := h
        rw [OkL] at ho
        rw [e] at hU
        rcases List.mem_cons.mp hU with e2 | hU
        · have q := fits_len r A h1
          have q2 := size_pos ho.1.1 (fun e => by rw [e] at ho; simp [isPart] at ho)
          rw [e2]
          cases A with
          | nil =>
            simp at q
            omega
          | cons z _ => exact ⟨z, List.mem_cons_self⟩
        · exact ih ho.2 h3 U hU
    exact fun i hi => aux hok hf _ (List.getElem_mem hi)
  intro x hx y hy
  obtain ⟨A, hA, hxA⟩ := List.mem_flatten.mp (hp.mem_iff.mp hx)
  obtain ⟨B, hB, hyB⟩ := List.mem_flatten.mp (hp.mem_iff.mp hy)
  obtain ⟨i, hi, rfl⟩ := List.getElem_of_mem hA
  obtain ⟨j, hj, rfl⟩ := List.getElem_of_mem hB
  by_cases hij : i = j
  · subst hij
    -- by a step of another piece
    obtain ⟨m, hm, hmi⟩ : ∃ m, m < Us.length ∧ m ≠ i := by
      by_cases h0 : i = 0
      · exact ⟨1, by omega, by omega⟩
      · exact ⟨0, by omega, by omega⟩
    obtain ⟨z, hz⟩ := full m hm
    exact .inr ((Reach.one (edge i m hi hm (Ne.symm hmi) x hxA z hz)).more (edge m i hm hi hmi z hz y hyB))
  · exact .inr (.one (edge i j hi hj hij x hxA y hyB))
theorem conn_part {b : Bool} {r : R} {T : List Nat} (hok : Ok r) (hp : isPart b r = true) (hf : Fits rel lab r T) (hn : T.Nodup) (hT : ∀ x ∈ T, x ∈ S) : ∀ x ∈ T, ∀ y ∈ T, y = x ∨ Reach (waysM rel b S) x y := by
  cases r with
  | nothing => simp [isPart] at hp
  | step n =>
    rw [Fits] at hf
    obtain ⟨i, e, _⟩ := hf
    intro x hx y hy
    rw [e, List.mem_singleton] at hx hy
    exact .inl (hy.trans hx.symm)
  | node c rs =>
    have hcb : c = !b := by
      have : c ≠ b := by simpa [isPart] using hp
      revert this
      cases c <;> cases b <;> simp
    rw [Ok] at hok
    rw [Fits] at hf
    obtain ⟨Us, u1, u2, u3⟩ := hf
    rw [hcb] at hok u3
    exact conn_pieces hok.2.1 hok.1 u2 u3 u1 hn hT
/-- the groups for a word are the parts' steps -/
theorem groups_parts {b : Bool} {rs : List R} {Ss : List (List Nat)} {g : Nat → Nat → Bool} (hok : OkL b rs) (hf : FitsL rel lab rs Ss) (hc : Ss.Pairwise (cross rel b)) (hp : S.Perm Ss.flatten) (hn : S.Nodup)
    (hg : ∀ x ∈ S, ∀ y ∈ S, (g x y = true ↔ y = x ∨ Reach (waysM rel b S) x y)) : (groupsM g S S.length S).Perm (Ss.map fun B => S.filter (B.contains ·)) := by
  have hnf : Ss.flatten.Nodup := hp.nodup_iff.mp hn
  have dj := (List.pairwise_flatten.mp hnf).2
  have inS : ∀ B ∈ Ss, ∀ x ∈ B, x ∈ S := fun B hB x hx => hp.mem_iff.mpr (List.mem_flatten.mpr ⟨B, hB, hx⟩)
  -- no way leads out of a part
  have stay : ∀ (i : Nat) (hi : i < Ss.length), ∀ x ∈ Ss[i], ∀ y, Reach (waysM rel b S) x y → y ∈ Ss[i] := by
    intro i hi
    have one : ∀ x ∈ Ss[i], ∀ y ∈ waysM rel b S x, y ∈ Ss[i] := by
      intro x hx y hy
      obtain ⟨hyS, _, hcm⟩ := mem_ways.mp hy
      obtain ⟨B, hB, hyB⟩ := List.mem_flatten.mp (hp.mem_iff.mp hyS)
      obtain ⟨j, hj, rfl⟩ := List.getElem_of_mem hB
      by_cases hij : i = j
      · subst hij
        exact hyB
      · exfalso
        have z : cmp rel x y = !b := by
          rcases Nat.lt_or_gt_of_ne hij with q | q
          · exact (cross_cmp (List.pairwise_iff_getElem.mp hc i j hi hj q) hx hyB).1
          · exact (cross_cmp (List.pairwise_iff_getElem.mp hc j i hj hi q) hyB hx).2
        rw [hcm] at z
        cases b <;> simp at z
    intro x hx y hy
    induction hy with
    | one q => exact one _ hx _ q
    | more _ q ih => exact one _ ih _ q
  have conn : ∀ B ∈ Ss, B ≠ [] ∧ ∀ x ∈ B, ∀ y ∈ B, y = x ∨ Reach (waysM rel b S) x y := by
    have aux : ∀ {rs : List R} {Us : List (List Nat)}, OkL b rs → FitsL rel lab rs Us → (∀ U ∈ Us, U.Nodup ∧ ∀ x ∈ U, x ∈ S) → ∀ B ∈ Us, B ≠ [] ∧ ∀ x ∈ B, ∀ y ∈ B, y = x ∨ Reach (waysM rel b S) x y := by
      intro rs
      induction rs with
      | nil =>
        intro Us _ h _ U hU
        rw [FitsL] at h
        rw [h] at hU
        cases hU
      | cons r rs ih =>
        intro Us ho h hU B hB
        rw [FitsL] at h
        obtain ⟨A, C, e, h1, h3⟩ := h
        rw [OkL] at ho
        rw [e] at hU hB
        rcases List.mem_cons.mp hB with e2 | hB
        · obtain ⟨n1, n2⟩ := hU A List.mem_cons_self
          have q := fits_len r A h1
          have q2 := size_pos ho.1.1 (fun e => by rw [e] at ho; simp [isPart] at ho)
          rw [e2]
          refine ⟨fun e0 => ?_, conn_part ho.1.1 ho.1.2 h1 n1 n2⟩
          rw [e0] at q
          simp at q
          omega
        · exact ih ho.2 h3 (fun U h4 => hU U (List.mem_cons_of_mem _ h4)) B hB
    exact aux hok hf fun U hU => ⟨(List.pairwise_flatten.mp hnf).1 U hU, inS U hU⟩
  have all : S.filter (fun y => Ss.any (·.contains y)) = S := List.filter_eq_self.mpr fun y hy => mem_any.mpr (List.mem_flatten.mp (hp.mem_iff.mp hy))
  have k := groups_blocks (g := g) (S := S) S.length Ss (fun B hB => ⟨(conn B hB).1, fun x hx => ⟨inS B hB x hx, fun y hy => ?_⟩⟩) (dj.imp fun {A B} h x hx hx2 => h x hx x hx2 rfl) (by rw [all]; exact Nat.le_refl _)
  · rw [all] at k
    exact k
  · rw [hg x (inS B hB x hx) y hy]
    obtain ⟨i, hi, rfl⟩ := List.getElem_of_mem hB
    constructor
    · rintro (q | q)
      · rw [q]
        exact hx
      · exact stay i hi x hx y q
    · exact fun q => (conn _ hB).2 x hx y q
/-- for a word, a run's parts and their steps -/
theorem fits_cut {b : Bool} {r : R} (hok : Ok r) (hr : r ≠ .nothing) (hf : Fits rel lab r S) : ∃ Ss, OkL b (parts b r) ∧ FitsL rel lab (parts b r) Ss ∧ Ss.Pairwise (cross rel b) ∧ S.Perm Ss.flatten := by
  have alone : parts b r = [r] → isPart b r = true → ∃ Ss, OkL b (parts b r) ∧ FitsL rel lab (parts b r) Ss ∧ Ss.Pairwise (cross rel b) ∧ S.Perm Ss.flatten := fun e h => by
    rw [e]
    refine ⟨[S], okL_iff.mpr fun x hx => ?_, ?_, List.pairwise_singleton _ _, by simp⟩
    · rw [List.mem_singleton.mp hx]
      exact ⟨hok, h⟩
    · rw [FitsL]
      exact ⟨S, [], rfl, hf, by rw [FitsL]⟩
  cases r with
  | nothing => exact absurd rfl hr
  | step n => exact alone rfl rfl
  | node c rs =>
    by_cases e : c = b
    · rw [Ok] at hok
      rw [Fits] at hf
      obtain ⟨Ss, h1, h2, h3⟩ := hf
      rw [parts_node, if_pos e]
      rw [e] at hok h3
      exact ⟨Ss, hok.2.1, h2, h3, h1⟩
    · exact alone (by rw [parts_node, if_neg e]) (by simpa [isPart] using e)

/-! ### the groups' order -/
def cnt (rel : Nat → Nat → Bool) (S : List Nat) (x : Nat) : Nat := (S.filter (rel x)).length
def keyM (rel : Nat → Nat → Bool) (S : List Nat) (g : List Nat) : Int := -(cnt rel S (g.headD 0) : Int)
theorem filter_short {p q : Nat → Bool} {z : Nat} (h : ∀ y ∈ S, p y = true → q y = true) (hz : z ∈ S) (h1 : p z = false) (h2 : q z = true) : (S.filter p).length < (S.filter q).length := by
  have e : (S.filter q).filter p = S.filter p := by
    rw [List.filter_filter]
    refine filter_same fun y hy => ?_
    cases hp : p y with
    | false => rfl
    | true => rw [h y hy hp]; rfl
  have sub : (S.filter p).Sublist (S.filter q) := by
    rw [← e]
    exact List.filter_sublist
  have le := sub.length_le
  refine Nat.lt_of_le_of_ne le fun eq => ?_
  have eq2 := sub.eq_of_length eq
  have m : z ∈ S.filter p := by
    rw [eq2]
    exact List.mem_filter.mpr ⟨hz, h2⟩
  rw [(List.mem_filter.mp m).2] at h1
  cases h1
theorem key_row {Ss : List (List Nat)} (hc : Ss.Pairwise (cross rel false)) (hp : S.Perm Ss.flatten) (hi : ∀ x, rel x x = false) {i j : Nat} (h1 : i < Ss.length) (h2 : j < Ss.length) (h : i < j) {x y : Nat} (hx : x ∈ Ss[i]) (hy : y ∈ Ss[j]) : cnt rel S y < cnt rel S x := by
  have hyS : y ∈ S := hp.mem_iff.mpr (List.mem_flatten.mpr ⟨_, List.getElem_mem h2, hy⟩)
  refine filter_short (fun z hz hyz => ?_) hyS (hi y) (List.pairwise_iff_getElem.mp hc i j h1 h2 h x hx y hy).1
  obtain ⟨B, hB, hzB⟩ := List.mem_flatten.mp (hp.mem_iff.mp hz)
  obtain ⟨m, hm, rfl⟩ := List.getElem_of_mem hB
  rcases Nat.lt_or_ge m j with q | q
  · have := (List.pairwise_iff_getElem.mp hc m j hm h2 q z hzB y hy).2
    rw [hyz] at this
    cases this
  · exact (List.pairwise_iff_getElem.mp hc i m h1 hm (by omega) x hx z hzB).1
theorem head_mem {B : List Nat} (hne : ∃ x ∈ B, x ∈ S) : (S.filter (B.contains ·)).headD 0 ∈ B := by
  obtain ⟨x, h1, h2⟩ := hne
  have m : x ∈ S.filter (B.contains ·) := List.mem_filter.mpr ⟨h2, by simpa using h1⟩
  match hl : S.filter (B.contains ·) with
  | [] =>
    rw [hl] at m
    cases m
  | y :: t =>
    have my : y ∈ S.filter (B.contains ·) := by
      rw [hl]
      exact List.mem_cons_self
    have := (List.mem_filter.mp my).2
    simpa using this
def leK (rel : Nat → Nat → Bool) (S : List Nat) (a b : List Nat) : Bool := decide (keyM rel S a ≤ keyM rel S b)
theorem leK_total : TotalLe (leK rel S) where
  trans := fun a b c h1 h2 => by
    unfold leK at *
    rw [decide_eq_true_eq] at *
    omega
  total := fun a b => by
    unfold leK
    rw [decide_eq_true_eq, decide_eq_true_eq]
    omega
/-- the groups of a row, sorted, are its parts' steps in their order -/
theorem row_sorted {Ss : List (List Nat)} {gs : List (List Nat)} (hc : Ss.Pairwise (cross rel false)) (hp : S.Perm Ss.flatten) (hi : ∀ x, rel x x = false) (hne : ∀ B ∈ Ss, B ≠ []) (hg : gs.Perm (Ss.map fun B => S.filter (B.contains ·))) :
    gs.mergeSort (leK rel S) = Ss.map fun B => S.filter (B.contains ·) := by
  have hd : ∀ B ∈ Ss, (S.filter (B.contains ·)).headD 0 ∈ B := fun B hB => by
    obtain ⟨x, t, e⟩ := List.exists_cons_of_ne_nil (hne B hB)
    have hx : x ∈ B := by
      rw [e]
      exact List.mem_cons_self
    exact head_mem ⟨x, hx, hp.mem_iff.mpr (List.mem_flatten.mpr ⟨B, hB, hx⟩)⟩
  have key : ∀ (i j : Nat) (h1 : i < Ss.length) (h2 : j < Ss.length), i < j → keyM rel S (S.filter (Ss[i].contains ·)) < keyM rel S (S.filter (Ss[j].contains ·)) := fun i j h1 h2 h => by
    have q := key_row hc hp hi h1 h2 h (hd _ (List.getElem_mem h1)) (hd _ (List.getElem_mem h2))
    unfold keyM
    omega
  have sorted : (Ss.map fun B => S.filter (B.contains ·)).Pairwise (fun a b => leK rel S a b = true) := by
    rw [List.pairwise_iff_getElem]
    intro i j h1 h2 h
    rw [List.length_map] at h1 h2
    rw [List.getElem_map, List.getElem_map]
    exact decide_eq_true (Int.le_of_lt (key i j h1 h2 h))
  refine List.Perm.eq_of_pairwise (fun a c ha hc' h1 h2 => ?_) (sort_pairwise leK_total gs) sorted ((List.mergeSort_perm gs _).trans hg)
  have ha2 := hg.mem_iff.mp ((List.mergeSort_perm gs _).mem_iff.mp ha)
  obtain ⟨A, hA, rfl⟩ := List.mem_map.mp ha2
  obtain ⟨C, hC, rfl⟩ := List.mem_map.mp hc'
  obtain ⟨i, hi', rfl⟩ := List.getElem_of_mem hA
  obtain ⟨j, hj', rfl⟩ := List.getElem_of_mem hC
  unfold leK at h1 h2
  rw [decide_eq_true_eq] at h1 h2
  rcases Nat.lt_trichotomy i j with q | q | q
  · have := key i j hi' hj' q
    omega
  · subst q
    rfl
  · have := key j i hj' hi' q
    omega
/-- the parts, from their steps -/
theorem fitsL_filter {rs : List R} : ∀ {Ss : List (List Nat)}, FitsL rel lab rs Ss → (∀ B ∈ Ss, B.Nodup ∧ ∀ x ∈ B, x ∈ S) → S.Nodup → FitsL rel lab rs (Ss.map fun B => S.filter (B.contains ·)) := by
  induction rs with
  | nil =>
    intro Ss h _ _
    rw [FitsL] at h
    rw [h]
    show FitsL rel lab [] []
    rw [FitsL]
  | cons r rs ih =>
    intro Ss h hB hS
    rw [FitsL] at h
    obtain ⟨A, C, e, h1, h2⟩ := h
    rw [e] at hB ⊢
    rw [List.map_cons, FitsL]
    obtain ⟨n1, n2⟩ := hB A List.mem_cons_self
    refine ⟨_, _, rfl, h1.perm ?_, ih h2 (fun B h4 => hB B (List.mem_cons_of_mem _ h4)) hS⟩
    refine (List.perm_ext_iff_of_nodup n1 (hS.filter _)).mpr fun y => ?_
    simp only [List.mem_filter, List.contains_iff_mem]
    exact ⟨fun h => ⟨n2 y h, h⟩, fun h => h.2⟩
end
end Fk

set_option Elab.async false
set_option linter.all false
/-! Turning twice. -/
namespace Fk
open PySem
theorem turnedL_map : ∀ rs : List R, turnedL rs = rs.map turned
  | [] => by rw [turnedL]; rfl
  | r :: rs => by rw [turnedL, turnedL_map rs]; rfl
theorem ordered_len (b : Bool) (rs : List R) : (ordered b rs).length = rs.length := (ordered_perm b rs).length_eq
mutual
theorem turned_part : ∀ (r : R), Ok r → Ok (turned r) ∧ (∀ b, isPart b r = true → isPart b (turned r) = true) ∧ size (turned r) = size r
  | .nothing, h => by
    rw [turned]
    exact ⟨h, fun _ h => h, rfl⟩
  | .step n, h => by
    rw [turned]
    exact ⟨h, fun _ h => h, rfl⟩
  | .node b rs, h => by
    rw [turned]
    have h' := h
    rw [Ok] at h'
    obtain ⟨h1, h2⟩ := turnedL_part b rs h'.2.1
    have h3 : ∀ r ∈ (turnedL rs).reverse, isPart b r = true := fun r hr => (h1 r (List.mem_reverse.mp hr)).2
    have h4 : ∀ r ∈ (turnedL rs).reverse, Ok r := fun r hr => (h1 r (List.mem_reverse.mp hr)).1
    refine ⟨joined_ok h4, fun c hc => ?_, ?_⟩
    · unfold joined
      rw [flat_self h3, finish_many (by rw [ordered_len, List.length_reverse, turnedL_map, List.length_map]; exact h'.1)]
      exact hc
    · rw [size_joined, sizeL_perm (List.reverse_perm _), h2, size]
theorem turnedL_part (b : Bool) : ∀ (rs : List R), OkL b rs → (∀ r ∈ turnedL rs, Ok r ∧ isPart b r = true) ∧ sizeL (turnedL rs) = sizeL rs
  | [], _ => by
    rw [turnedL]
    exact ⟨fun r h => by simp at h, rfl⟩
  | r :: rs, h => by
    rw [OkL] at h
    obtain ⟨⟨h1, h2⟩, h3⟩ := h
    obtain ⟨k1, k2, k3⟩ := turned_part r h1
    obtain ⟨l1, l2⟩ := turnedL_part b rs h3
    rw [turnedL]
    refine ⟨fun x hx => ?_, by rw [sizeL, sizeL, k3, l2]⟩
    rcases List.mem_cons.mp hx with rfl | hx
    · exact ⟨k1, k2 b h2⟩
    · exact l1 x hx
end
theorem turned_node {b : Bool} {rs : List R} (h : Ok (.node b rs)) : turned (.node b rs) = .node b (ordered b (rs.map turned).reverse) := by
  have h' := h
  rw [Ok] at h'
  rw [turned]
  obtain ⟨h1, h2⟩ := turnedL_part b rs h'.2.1
  have h3 : ∀ r ∈ (turnedL rs).reverse, isPart b r = true := fun r hr => (h1 r (List.mem_reverse.mp hr)).2
  unfold joined
  rw [flat_self h3, finish_many (by rw [ordered_len, List.length_reverse, turnedL_map, List.length_map]; exact h'.1), turnedL_map]
mutual
theorem turned_twice : ∀ (r : R), Ok r → turned (turned r) = r
  | .nothing, _ => by rw [turned, turned]
  | .step n, _ => by rw [turned, turned]
  | .node b rs, h => by
    have h' := h
    rw [Ok] at h'
    have e := turnedL_twice b rs h'.2.1
    rw [turned_node h, turned, turnedL_map]
    refine joined_self h ?_ fun hb => ?_
    · refine (List.reverse_perm _).trans (((ordered_perm b _).map turned).trans ?_)
      rw [List.map_reverse]
      refine (List.reverse_perm _).trans ?_
      rw [e]
    · subst hb
      show (((rs.map turned).reverse).map turned).reverse = rs
      rw [List.map_reverse, List.reverse_reverse, e]
theorem turnedL_twice (b : Bool) : ∀ (rs : List R), OkL b rs → (rs.map turned).map turned = rs
  | [], _ => rfl
  | r :: rs, h => by
    rw [OkL] at h
    rw [List.map_cons, List.map_cons, turned_twice r h.1.1, turnedL_twice b rs h.2]
end
end Fk

set_option Elab.async false
set_option linter.all false
set_option maxRecDepth 100000
/-! The text by its places; how values stand for runs. -/
namespace Fk
open PySem PySem.Spec PyProof.Rows L2

def topS (i : Nat) : Stmt := PySem.Challenge.pw_forkkinds_k51_whole_orders_and_runs.main.body.getD i (.Pass ⟨0, 0, 0, 0⟩)

/-! ### built-ins -/
theorem bt_isinstance : bootBuiltins "isinstance" = some (.builtin "isinstance") := by decide +kernel
theorem bt_int : bootBuiltins "int" = some (.type "int") := by decide +kernel
theorem bt_bool : bootBuiltins "bool" = some (.type "bool") := by decide +kernel
theorem bt_list : bootBuiltins "list" = some (.type "list") := by decide +kernel
theorem bt_tuple : bootBuiltins "tuple" = some (.type "tuple") := by decide +kernel
theorem bt_str : bootBuiltins "str" = some (.type "str") := by decide +kernel
theorem bt_dict : bootBuiltins "dict" = some (.type "dict") := by decide +kernel
theorem bt_set : bootBuiltins "set" = some (.type "set") := by decide +kernel
theorem bt_enumerate : bootBuiltins "enumerate" = some (.type "enumerate") := by decide +kernel
theorem bt_range : bootBuiltins "range" = some (.type "range") := by decide +kernel
theorem bt_len : bootBuiltins "len" = some (.builtin "len") := by decide +kernel
theorem bt_all : bootBuiltins "all" = some (.builtin "all") := by decide +kernel
theorem bt_any : bootBuiltins "any" = some (.builtin "any") := by decide +kernel
theorem bt_sum : bootBuiltins "sum" = some (.builtin "sum") := by decide +kernel
theorem bt_sorted : bootBuiltins "sorted" = some (.builtin "sorted") := by decide +kernel
theorem bt_abs : bootBuiltins "abs" = some (.builtin "abs") := by decide +kernel
theorem bt_min : bootBuiltins "min" = some (.builtin "min") := by decide +kernel
theorem bt_repr : bootBuiltins "repr" = some (.builtin "repr") := by decide +kernel
/-- the built-ins that the text uses are not bound anew -/
structure Blt (mg : Str → Option Value) : Prop where
  zisinstance : mg "isinstance" = none
  zint : mg "int" = none
  zbool : mg "bool" = none
  zlist : mg "list" = none
  ztuple : mg "tuple" = none
  zstr : mg "str" = none
  zdict : mg "dict" = none
  zset : mg "set" = none
  zenumerate : mg "enumerate" = none
  zrange : mg "range" = none
  zlen : mg "len" = none
  zall : mg "all" = none
  zany : mg "any" = none
  zsum : mg "sum" = none
  zsorted : mg "sorted" = none
  zabs : mg "abs" = none
  zmin : mg "min" = none
  zrepr : mg "repr" = none
  /-- the constants -/
  cletters : ∃ t, mg "LETTERS" = some (.str letters t)
  cmost : ∃ t, mg "MOST_LETTERS" = some (.int 6 t)
  clabels : ∃ t, mg "MOST_LABELS" = some (.int 30 t)
/-- a def of the text, as it stands behind the top -/
structure Dn (K : PySem.W.Frag) (mg : Str → Option Value) (x : Str) (st : Stmt) (ps : List Str) (f : Addr) (fd : FuncData) : Prop where
  F : Fun K x x st f fd
  b : Binds K fd ps []
  g : mg x = some (.ref f)
/-- what is known of a def that may be called by its name -/
structure Kn (P : Program) (w : World) (K : PySem.W.Frag) (mg : Str → Option Value) (base : Heap) (k : Nat) (x : Str) (sp : Sp) : Prop where
  ex : ∃ (f : Addr) (fd : FuncData) (ps : List Str), FnOk P w K mg base CX0 k f fd ps sp ∧ mg x = some (.ref f) ∧ PySem.W.keepIn K (.ref f) = true ∧ Binds K fd ps []
theorem Dn.kn {P : Program} {w : World} {K : PySem.W.Frag} {mg : Str → Option Value} {base : Heap} {k : Nat} {x : Str} {st : Stmt} {ps : List Str} {f : Addr} {fd : FuncData} {sp : Sp} (D : Dn K mg x st ps f fd) (h : FnOk P w K mg base CX0 k f fd ps sp) :
    Kn P w K mg base k x sp := ⟨f, fd, ps, h, D.g, D.F.kp, D.b⟩
theorem Kn.mono {P : Program} {w : World} {K : PySem.W.Frag} {mg : Str → Option Value} {base : Heap} {j k : Nat} {x : Str} {sp : Sp} (c : Kn P w K mg base j x sp) (h : j ≤ k) : Kn P w K mg base k x sp := by
  obtain ⟨f, fd, ps, F, g⟩ := c.ex
  exact ⟨f, fd, ps, F.mono h, g⟩
/-- a call of it -/
theorem pe_kn {X : Cx} {k j : Nat} {x : Str} {sp : Sp} {p pos : Pos} {e : Expr} {es : List Expr} {t : TA} (c : Kn X.prog X.w X.K X.mg X.base k x sp) (hr : Room j X.A) (hk : k ≤ j) (hg : Gl X x) (ha : PA X (e :: es) t)
    (hdb : (x == ("__debug__" : Str)) = false := by decide) (he : starEach (e :: es) X.env = (false, eval e X.env) :: starEach es X.env := by rfl) (hpl : (backTo pos (starEach es X.env)).any (·.1) = false := by rfl) :
    PE X (.Call (.Name x p) (e :: es) [] pos) (tCall sp [] E0 t) := by
  obtain ⟨f, fd, ps, F, hm, kp, b⟩ := c.ex
  exact pe_call F (hr.mono hk) hg hm kp b .nil pass0 ha hdb he hpl

/-! ### heaps -/
/-- tuples and what is locked stay -/
structure TK (H H' : Hp) : Prop where
  tup : ∀ a xs, H a = some (.tup xs) → H' a = some (.tup xs)
  frz : ∀ a o u, H a = some (.frz o u) → H' a = some (.frz o u)
theorem TK.refl (H : Hp) : TK H H := ⟨fun _ _ h => h, fun _ _ _ h => h⟩
theorem TK.trans {H H1 H2 : Hp} (a : TK H H1) (b : TK H1 H2) : TK H H2 := ⟨fun c xs h => b.tup c xs (a.tup c xs h), fun c o u h => b.frz c o u (a.frz c o u h)⟩
theorem TK.of {H H' : Hp} (e : Same H H') : TK H H' := ⟨fun _ _ h => e _ _ h, fun _ _ _ h => e _ _ h⟩
theorem same_new {H : Hp} {p : Addr} {o : HO} (h : H p = none) : Same H (upd H p o) := fun b u q => by
  rw [upd_ne (ne_of_none q h)]
  exact q
/-- a list, a dict is written -/
theorem tk_lst {H : Hp} {p : Addr} {xs : List V} {o : HO} (h : H p = some (.lst xs)) : TK H (upd H p o) :=
  ⟨fun a ys e => by rw [upd_ne (ne_of e h (fun z => nomatch z))]; exact e, fun a ob u e => by rw [upd_ne (ne_of e h (fun z => nomatch z))]; exact e⟩
theorem tk_dK {H : Hp} {p : Addr} {xs : List (Key × V)} {o : HO} (h : H p = some (.dK xs)) : TK H (upd H p o) :=
  ⟨fun a ys e => by rw [upd_ne (ne_of e h (fun z => nomatch z))]; exact e, fun a ob u e => by rw [upd_ne (ne_of e h (fun z => nomatch z))]; exact e⟩
theorem tk_new {H : Hp} {p : Addr} {o : HO} (h : H p = none) : TK H (upd H p o) := .of (same_new h)
/-- written at a place that was free in H -/
theorem same_mut {H H' : Hp} {p : Addr} {o : HO} (e : Same H H') (h : H p = none) : Same H (upd H' p o) := fun b u q => by
  rw [upd_ne (ne_of_none q h)]
  exact e b u q
theorem SqT.tk {K : PySem.W.Frag} {H H' : Hp} {a : Addr} {xs : List V} (h : SqT K H a xs) (e : TK H H') : SqT K H' a xs := by
  rcases h with (h | ⟨o, h⟩) | h
  · exact .inl (.inl (e.tup _ _ h))
  · exact .inl (.inr ⟨o, e.frz _ _ _ h⟩)
  · exact .inr h
theorem SqT.sm {K : PySem.W.Frag} {H H' : Hp} {a : Addr} {xs : List V} (h : SqT K H a xs) (e : Same H H') : SqT K H' a xs := SqT.tk h (.of e)
theorem SqT.ty {K : PySem.W.Frag} {H : Hp} {a : Addr} {xs : List V} (h : SqT K H a xs) : TyX K H (.ref a) (.type "tuple") := by
  rcases h with (h | ⟨o, h⟩) | ⟨o, its, n, h, c, _⟩
  · exact .base (.tup h)
  · exact .fTuple h
  · exact .kTuple h c
theorem SqL.ty {K : PySem.W.Frag} {H : Hp} {a : Addr} {xs : List V} (h : SqL K H a xs) : TyX K H (.ref a) (.type "list") := by
  rcases h with (h | ⟨o, h⟩) | ⟨o, its, n, h, c, _⟩
  · exact .base (.lst h)
  · exact .base (.frz h)
  · exact .kList h c

/-! ### values that stand for runs -/
abbrev At (K : PySem.W.Frag) (H : Hp) (v : V) (r : R) : Prop := Dp K H v (enc r)
abbrev AtL (K : PySem.W.Frag) (H : Hp) (vs : List V) (rs : List R) : Prop := Paired (At K H) vs rs
theorem atL_of {K : PySem.W.Frag} {H : Hp} : ∀ {rs : List R} {vs : List V}, DpAll K H vs (encL rs) → AtL K H vs rs
  | [], _, h => by
    rw [encL] at h
    cases h
    exact .nil
  | r :: rs, _, h => by
    rw [encL] at h
    cases h with
    | cons h1 h2 => exact .cons h1 (atL_of h2)
theorem of_atL {K : PySem.W.Frag} {H : Hp} : ∀ {rs : List R} {vs : List V}, AtL K H vs rs → DpAll K H vs (encL rs)
  | [], _, h => by
    cases h
    rw [encL]
    exact .nil
  | r :: rs, _, h => by
    cases h with
    | cons h1 h2 =>
      rw [encL]
      exact .cons h1 (of_atL h2)
/-- the word at a run's head -/
def hd : R → Str
  | .nothing => Str.ofString "nothing"
  | .step _ => Str.ofString "step"
  | .node b _ => word b
/-- what stands behind it -/
def Tl (K : PySem.W.Frag) (H : Hp) : R → List V → Prop
  | .nothing, vs => vs = []
  | .step n, vs => vs = [.str n]
  | .node _ rs, vs => AtL K H vs rs
theorem at_iff {K : PySem.W.Frag} {H : Hp} {v : V} {r : R} : At K H v r ↔ ∃ a vs, v = .ref a ∧ SqT K H a (.str (hd r) :: vs) ∧ Tl K H r vs := by
  cases r with
  | nothing =>
    unfold At
    rw [enc]
    constructor
    · intro h
      cases h with
      | tup h1 h2 =>
        cases h2 with
        | cons h3 h4 =>
          cases h3
          cases h4
          exact ⟨_, [], rfl, h1, rfl⟩
    · rintro ⟨a, vs, rfl, h1, rfl⟩
      exact .tup h1 (.cons (.str _) .nil)
  | step n =>
    unfold At
    rw [enc]
    constructor
    · intro h
      cases h with
      | tup h1 h2 =>
        cases h2 with
        | cons h3 h4 =>
          cases h3
          cases h4 with
          | cons h5 h6 =>
            cases h5
            cases h6
            exact ⟨_, _, rfl, h1, rfl⟩
    · rintro ⟨a, vs, rfl, h1, rfl⟩
      exact .tup h1 (.cons (.str _) (.cons (.str _) .nil))
  | node b rs =>
    unfold At
    rw [enc]
    constructor
    · intro h
      cases h with
      | tup h1 h2 =>
        cases h2 with
        | cons h3 h4 =>
          cases h3
          exact ⟨_, _, rfl, h1, atL_of h4⟩
    · rintro ⟨a, vs, rfl, h1, h2⟩
      exact .tup h1 (.cons (.str _) (of_atL h2))
mutual
theorem At.tk {K : PySem.W.Frag} {H H' : Hp} (e : TK H H') : ∀ (r : R) (v : V), At K H v r → At K H' v r
  | .nothing, v, h => by
    obtain ⟨a, vs, h1, h2, h3⟩ := at_iff.mp h
    exact at_iff.mpr ⟨a, vs, h1, SqT.tk h2 e, h3⟩
  | .step n, v, h => by
    obtain ⟨a, vs, h1, h2, h3⟩ := at_iff.mp h
    exact at_iff.mpr ⟨a, vs, h1, SqT.tk h2 e, h3⟩
  | .node b rs, v, h => by
    obtain ⟨a, vs, h1, h2, h3⟩ := at_iff.mp h
    exact at_iff.mpr ⟨a, vs, h1, SqT.tk h2 e, AtL.tk e rs vs h3⟩
theorem AtL.tk {K : PySem.W.Frag} {H H' : Hp} (e : TK H H') : ∀ (rs : List R) (vs : List V), AtL K H vs rs → AtL K H' vs rs
  | [], _, h => by
    cases h
    exact .nil
  | r :: rs, _, h => by
    cases h with
    | cons h1 h2 => exact .cons (At.tk e r _ h1) (AtL.tk e rs _ h2)
end
theorem paired_get {α β : Type} {F : α → β → Prop} : ∀ {xs : List α} {ys : List β} {i : Nat} {x : α}, Paired F xs ys → xs[i]? = some x → ∃ y, ys[i]? = some y ∧ F x y
  | _, _, _, _, .nil, h => by simp at h
  | _, _, 0, _, .cons h t, e => by
    simp at e
    subst e
    exact ⟨_, rfl, h⟩
  | _, _, i + 1, _, .cons h t, e => by
    obtain ⟨y, h1, h2⟩ := paired_get (i := i) t (by simpa using e)
    exact ⟨y, by simpa using h1, h2⟩
theorem paired_append {α β : Type} {F : α → β → Prop} : ∀ {xs xs' : List α} {ys ys' : List β}, Paired F xs ys → Paired F xs' ys' → Paired F (xs ++ xs') (ys ++ ys')
  | _, _, _, _, .nil, k => k
  | _, _, _, _, .cons h t, k => .cons h (paired_append t k)
theorem paired_take {α β : Type} {F : α → β → Prop} : ∀ (n : Nat) {xs : List α} {ys : List β}, Paired F xs ys → Paired F (xs.take n) (ys.take n)
  | 0, _, _, _ => .nil
  | _ + 1, _, _, .nil => .nil
  | n + 1, _, _, .cons h t => .cons h (paired_take n t)

/-! ### small steps of readings -/
theorem cut_one (xs : List V) : cutV xs (some 1) none = xs.drop 1 := by
  unfold cutV
  rw [show HT.sIx xs.length 0 (some 1) = min 1 xs.length from HT.sIx_nat xs.length 0 1, HT.sIx_none]
  cases xs with
  | nil => rfl
  | cons x r =>
    rw [show min 1 (x :: r).length = 1 by rw [List.length_cons]; omega]
    show List.take ((x :: r).length - 1) r = r
    rw [List.length_cons, Nat.add_sub_cancel]
    exact List.take_length
theorem one_not (x : V) (xs : List V) : ¬ (HT.sIx (x :: xs).length 0 (some 1) = 0 ∧ HT.sIx (x :: xs).length (x :: xs).length none = (x :: xs).length) := fun h => by
  have e : HT.sIx (x :: xs).length 0 (some 1) = min 1 (x :: xs).length := HT.sIx_nat _ 0 1
  rw [e] at h
  have := h.1
  rw [List.length_cons] at this
  omega
theorem at_zero {α : Type} (x : α) (xs : List α) : atI (x :: xs) 0 = some x := atI_nat (j := 0) rfl
theorem at_first {α : Type} (x y : α) (xs : List α) : atI (x :: y :: xs) 1 = some y := atI_nat (j := 1) rfl
theorem small {n : Nat} (h : n ≤ 100000) : n ≤ sizeLine := Nat.le_trans h (by decide)
theorem small_lt {n : Nat} (h : n < 100000) : n < sizeLine := Nat.lt_of_lt_of_le h (by decide)
end Fk

set_option Elab.async false
set_option linter.all false
set_option maxRecDepth 100000
/-! Comprehensions and loops that keep what stood. -/
namespace Fk
open PySem PySem.Spec PyProof.Rows L2

section
variable {J : It} {n : Nat} {G : Hp → Prop} {Y : Nat → Hp → V → Hp → Prop} {g : TG} {tt : TT} {te : TE} {vs : List Nat} {σ : L2.St} {H1 : Hp} {D : Addr} {Qd : Hp → Prop}
/-- C i acc H: what is known behind i turns of the list made so far -/
theorem lcx (w : Walk J n G Y) (hD : H1 D = none) (hn : n ≤ 100000) (C : Nat → List V → Hp → Prop) (h0 : C 0 [] (upd H1 D (.lst []))) (hG : ∀ H, Same H1 H → G H)
    (hs : ∀ i acc x H H' (Kt : VK) (Kf : Hp → Prop), i < n → Same H1 H → H D = some (.lst acc) → acc.length ≤ i → C i acc H → (∀ y H4, Same H H4 → C (i + 1) (acc ++ [y]) (upd H4 D (.lst (acc ++ [y]))) → Kt y H4) → (∀ H3, Same H H3 → C (i + 1) acc H3 → Kf H3) →
      Y i H x H' → g x (wipe σ vs) H' fun σ2 H2 => wipe σ2 vs = wipe σ vs ∧ tt σ2 H2 fun b H3 => if b = true then te σ2 H3 Kt else Kf H3)
    (hd : ∀ acc H, Same H1 H → H D = some (.lst acc) → acc.length ≤ n → C n acc H → Qd H) :
    ∃ W : Nat → Nat → Hp → Prop, (∃ m, W 0 m (upd H1 D (.lst []))) ∧ ∀ i m H, W i m H →
      (J.stop i H ∧ Qd H) ∨ (J.go i H ∧ ∃ Nx : Hp → Prop, (∀ H', Nx H' → ∃ m', m' < m ∧ W (i + 1) m' H') ∧ ∀ x H', J.yld i H x H' → g x (wipe σ vs) H' fun σ2 H2 => wipe σ2 vs = wipe σ vs ∧ tt σ2 H2 fun b H3 =>
        if b = true then te σ2 H3 fun y H4 => ∃ acc, H4 D = some (.lst acc) ∧ acc.length < sizeLine ∧ Nx (upd H4 D (.lst (acc ++ [y]))) else Nx H3) := by
  refine lc_it w (fun i H => ∃ acc, H D = some (.lst acc) ∧ Same H1 H ∧ acc.length ≤ i ∧ C i acc H) ⟨[], upd_same, same_new hD, Nat.le_refl _, h0⟩ (fun i H _ ⟨_, _, s, _⟩ => hG H s) ?_ fun H ⟨acc, e, s, l, c⟩ => hd acc H s e l c
  rintro i x H H' hi ⟨acc, e, s, l, c⟩ y
  refine hs i acc x H H' _ _ hi s e l c (fun z H4 s4 c4 => ?_) (fun H3 s3 c3 => ?_) y
  · refine ⟨acc, s4 _ _ e, small_lt (by omega), acc ++ [z], upd_same, same_mut (s.trans s4) hD, ?_, c4⟩
    rw [List.length_append, List.length_singleton]
    omega
  · exact ⟨acc, s3 _ _ e, s.trans s3, by omega, c3⟩
/-- every element is the one truth value -/
theorem lcb (c : Bool) (w : Walk J n G Y) (hD : H1 D = none) (hn : n ≤ 100000) (hG : ∀ H, Same H1 H → G H)
    (hs : ∀ i x H H' (Kt : VK), i < n → Same H1 H → (∀ H4, Same H H4 → Kt (.bl c) H4) → Y i H x H' → g x (wipe σ vs) H' fun σ2 H2 => wipe σ2 vs = wipe σ vs ∧ te σ2 H2 Kt)
    (hd : ∀ H, Same H1 H → H D = some (.lst ((List.replicate n c).map V.bl)) → Qd H) :
    ∃ W : Nat → Nat → Hp → Prop, (∃ m, W 0 m (upd H1 D (.lst []))) ∧ ∀ i m H, W i m H →
      (J.stop i H ∧ Qd H) ∨ (J.go i H ∧ ∃ Nx : Hp → Prop, (∀ H', Nx H' → ∃ m', m' < m ∧ W (i + 1) m' H') ∧ ∀ x H', J.yld i H x H' → g x (wipe σ vs) H' fun σ2 H2 => wipe σ2 vs = wipe σ vs ∧ tYes σ2 H2 fun b H3 =>
        if b = true then te σ2 H3 fun y H4 => ∃ acc, H4 D = some (.lst acc) ∧ acc.length < sizeLine ∧ Nx (upd H4 D (.lst (acc ++ [y]))) else Nx H3) := by
  refine lcx w hD hn (fun i acc _ => acc = (List.replicate i c).map V.bl) rfl hG (fun i acc x H H' Kt Kf hi s e l ec ht hf y => ?_) fun acc H s e l ec => hd H s (by rw [← ec]; exact e)
  refine hs i x H H' _ hi s (fun H4 s4 => ?_) y
  refine ht _ _ s4 ?_
  rw [ec, List.replicate_succ']
  simp
theorem all_rep (n : Nat) : (List.replicate n true).all id = true := by
  induction n with
  | zero => rfl
  | succ n ih => rw [List.replicate_succ, List.all_cons, ih] <;> rfl
theorem any_rep (n : Nat) : (List.replicate n false).any id = false := by
  induction n with
  | zero => rfl
  | succ n ih => rw [List.replicate_succ, List.any_cons, ih] <;> rfl
end
end Fk

set_option Elab.async false
set_option linter.all false
set_option maxRecDepth 100000
/-! A loop of any kind; strings in order. -/
namespace Fk
open PySem PySem.Spec PyProof.Rows L2

/-- any loop that takes each member of a walk in turn: what a turn does is Bd -/
theorem lc_any {J : It} {n : Nat} {G : Hp → Prop} {Y : Nat → Hp → V → Hp → Prop} (w : Walk J n G Y) {H0 : Hp} {Bd : V → Hp → (Hp → Prop) → Prop} {Qd : Hp → Prop} (Pv : Nat → Hp → Prop) (h0 : Pv 0 H0) (hG : ∀ i H, i ≤ n → Pv i H → G H)
    (hs : ∀ i x H H', i < n → Pv i H → Y i H x H' → Bd x H' (Pv (i + 1))) (hd : ∀ H, Pv n H → Qd H) :
    ∃ W : Nat → Nat → Hp → Prop, (∃ m, W 0 m H0) ∧ ∀ i m H, W i m H → (J.stop i H ∧ Qd H) ∨ (J.go i H ∧ ∃ Nx : Hp → Prop, (∀ H', Nx H' → ∃ m', m' < m ∧ W (i + 1) m' H') ∧ ∀ x H', J.yld i H x H' → Bd x H' Nx) := by
  refine ⟨fun i m H => m = n - i ∧ i ≤ n ∧ Pv i H, ⟨n, by simp, Nat.zero_le _, h0⟩, ?_⟩
  rintro i m H ⟨rfl, hi, p⟩
  have q := hG i H hi p
  by_cases hlt : i < n
  · exact .inr ⟨w.goes i H hlt q, Pv (i + 1), fun H' p' => ⟨n - (i + 1), by omega, rfl, hlt, p'⟩, fun x H' y => hs i x H H' hlt p (w.yields i H x H' hlt q y)⟩
  · have e : i = n := by omega
    subst e
    exact .inl ⟨w.stops H q, hd H p⟩

theorem yes_t {σ : L2.St} {H : Hp} {A B : Hp → Prop} (h : A H) : tYes σ H fun b H3 => if b = true then A H3 else B H3 := by
  show if true = true then A H else B H
  rw [if_pos rfl]
  exact h

/-! ### strings in order -/
def leS (x y : Str) : Prop := ¬ y.cps.toList < x.cps.toList
theorem leS_trans {x y z : Str} (h : leS x y) (k : leS y z) : leS x z := fun c => by
  have h' : x.cps.toList ≤ y.cps.toList := h
  have k' : y.cps.toList ≤ z.cps.toList := k
  have : x.cps.toList ≤ z.cps.toList := List.le_trans h' k'
  exact this c
theorem leS_anti {x y : Str} (h : leS x y) (k : leS y x) : x = y := by
  have h' : x.cps.toList ≤ y.cps.toList := h
  have k' : y.cps.toList ≤ x.cps.toList := k
  have e := List.le_antisymm h' k'
  have : x.cps = y.cps := Array.toList_inj.mp e
  cases x
  cases y
  cases this
  rfl
theorem rising_pw : ∀ (l : List Str) (p : Str), risingS p l = true → (p :: l).Pairwise leS
  | [], p, _ => List.pairwise_singleton _ _
  | x :: r, p, h => by
    have h' : (!ltCps x.cps.toList p.cps.toList && risingS x r) = true := h
    rw [Bool.and_eq_true, ltCps_eq] at h'
    have ih := rising_pw r x h'.2
    have hx : leS p x := of_decide_eq_false (by simpa only [Bool.not_eq_true'] using h'.1)
    refine List.pairwise_cons.mpr ⟨fun y hy => ?_, ih⟩
    rcases List.mem_cons.mp hy with rfl | hy
    · exact hx
    · exact leS_trans hx (List.rel_of_pairwise_cons ih hy)
theorem sorted_pw : ∀ (l : List Str), sortedS l = true → l.Pairwise leS
  | [], _ => .nil
  | x :: r, h => rising_pw r x h
theorem sorted_uniq {l m : List Str} (p : l.Perm m) (hl : l.Pairwise leS) (hm : m.Pairwise leS) : l = m :=
  List.Perm.eq_of_pairwise (fun a b _ _ h k => leS_anti h k) hl hm p
/-! ### tables by name -/
theorem nodup_len {α : Type} [DecidableEq α] : ∀ {ds ns : List α}, ds.Nodup → (∀ n ∈ ds, n ∈ ns) → ds.length ≤ ns.length
  | [], _, _, _ => Nat.zero_le _
  | d :: ds, ns, h, k => by
    have hd : d ∈ ns := k d List.mem_cons_self
    have h1 := nodup_len (ds := ds) (ns := ns.erase d) (List.nodup_cons.mp h).2 fun n hn => (List.mem_erase_of_ne (fun e => (List.nodup_cons.mp h).1 (by rw [← e]; exact hn) : n ≠ d)).mpr (k n (List.mem_cons_of_mem _ hn))
    have h2 := List.length_erase_of_mem hd
    have h3 : 1 ≤ ns.length := List.length_pos_of_mem hd
    rw [List.length_cons]
    omega
def tab (f : Str → V) (ds : List Str) : List (Key × V) := ds.map fun n => (.inr n, f n)
theorem tab_get (f : Str → V) (x : Str) : ∀ ds : List Str, valV (tab f ds) (.inr x) = if x ∈ ds then some (f x) else none
  | [] => rfl
  | d :: ds => by
    show valV ((Sum.inr d, f d) :: tab f ds) (.inr x) = _
    by_cases e : d = x
    · subst e
      rw [valV_pos (p := ((Sum.inr d : Key), f d)) rfl, if_pos List.mem_cons_self]
    · rw [valV_neg (p := ((Sum.inr d : Key), f d)) (fun z => e (Sum.inr.inj z)), tab_get f x ds]
      by_cases m : x ∈ ds
      · rw [if_pos m, if_pos (List.mem_cons_of_mem _ m)]
      · rw [if_neg m, if_neg (fun z => (List.mem_cons.mp z).elim (fun z => e z.symm) m)]
theorem tab_put_new (f g : Str → V) {x : Str} {ds : List Str} (h : x ∉ ds) (e : ∀ n ∈ ds, g n = f n) : putK (tab f ds) (.inr x) (g x) = tab g (ds ++ [x]) := by
  unfold putK
  rw [valV_any, tab_get, if_neg h]
  show (tab f ds ++ [(.inr x, g x)]) = _
  unfold tab
  rw [List.map_append]
  congr 1
  exact List.map_congr_left fun n hn => by rw [e n hn]
theorem tab_put_old (f g : Str → V) {x : Str} {ds : List Str} (h : x ∈ ds) (e : ∀ n ∈ ds, n ≠ x → g n = f n) : putK (tab f ds) (.inr x) (g x) = tab g ds := by
  unfold putK
  rw [valV_any, tab_get, if_pos h]
  show (List.map _ (tab f ds)) = _
  unfold tab
  rw [List.map_map]
  refine List.map_congr_left fun n hn => ?_
  show (if (Sum.inr n : Key) = Sum.inr x then ((Sum.inr n : Key), g x) else (Sum.inr n, f n)) = (Sum.inr n, g n)
  by_cases k : n = x
  · subst k
    rw [if_pos rfl]
  · rw [if_neg (fun z => k (Sum.inr.inj z)), e n hn k]
/-- how often each name stands there, by the names in order -/
def Tally (ns : List Str) (kvs : List (Key × V)) : Prop := ∃ ds : List Str, ds.Nodup ∧ ds.Pairwise leS ∧ (∀ n, n ∈ ds ↔ n ∈ ns) ∧ kvs = tab (fun n => .int (ns.count n : Nat)) ds
theorem Tally.uniq {ns : List Str} {k l : List (Key × V)} (h : Tally ns k) (h' : Tally ns l) : k = l := by
  obtain ⟨d, a1, a2, a3, rfl⟩ := h
  obtain ⟨e, b1, b2, b3, rfl⟩ := h'
  rw [sorted_uniq ((List.perm_ext_iff_of_nodup a1 b1).mpr fun n => (a3 n).trans (b3 n).symm) a2 b2]
theorem Tally.perm {ns ms : List Str} {k : List (Key × V)} (h : Tally ns k) (p : ns.Perm ms) : Tally ms k := by
  obtain ⟨d, a1, a2, a3, rfl⟩ := h
  refine ⟨d, a1, a2, fun n => (a3 n).trans p.mem_iff, ?_⟩
  have e : (fun n => V.int (ns.count n : Nat)) = fun n => V.int (ms.count n : Nat) := funext fun n => by rw [p.count_eq]
  rw [e]
theorem Tally.len {ns : List Str} {k : List (Key × V)} (h : Tally ns k) : k.length ≤ ns.length := by
  obtain ⟨d, a1, a2, a3, rfl⟩ := h
  unfold tab
  rw [List.length_map]
  exact nodup_len a1 fun n hn => (a3 n).mp hn
theorem Tally.nil : Tally [] [] := ⟨[], .nil, .nil, fun n => Iff.rfl, rfl⟩
/-- one more name at the end -/
theorem Tally.snoc {ns : List Str} {x : Str} {k : List (Key × V)} (h : Tally ns k) (hx : ∀ n ∈ ns, leS n x) : valV k (.inr x) = (if x ∈ ns then some (V.int (ns.count x : Nat)) else none) ∧ Tally (ns ++ [x]) (putK k (.inr x) (.int ((ns.count x : Nat) + 1))) := by
  obtain ⟨d, a1, a2, a3, rfl⟩ := h
  have hc : ∀ n, n ≠ x → (ns ++ [x]).count n = ns.count n := fun n hn => by
    rw [List.count_append, List.count_singleton]
    simp [Ne.symm hn]
  have hcx : (ns ++ [x]).count x = ns.count x + 1 := by
    rw [List.count_append, List.count_singleton]
    simp
  have ev : (V.int ((ns.count x : Nat) + 1)) = (fun n => V.int ((ns ++ [x]).count n : Nat)) x := by
    show _ = V.int (((ns ++ [x]).count x : Nat) : Int)
    rw [hcx]
    rfl
  constructor
  · rw [tab_get]
    by_cases m : x ∈ ns
    · rw [if_pos m, if_pos ((a3 x).mpr m)]
    · rw [if_neg m, if_neg (fun z => m ((a3 x).mp z))]
  · rw [ev]
    by_cases m : x ∈ d
    · refine ⟨d, a1, a2, fun n => ?_, tab_put_old (fun n => V.int (ns.count n : Nat)) (fun n => V.int ((ns ++ [x]).count n : Nat)) m fun n _ hn => congrArg (fun z : Nat => V.int z) (hc n hn)⟩
      rw [a3 n, List.mem_append, List.mem_singleton]
      exact ⟨.inl, fun z => z.elim id fun e => e ▸ (a3 x).mp m⟩
    · refine ⟨d ++ [x], ?_, ?_, fun n => ?_, tab_put_new (fun n => V.int (ns.count n : Nat)) (fun n => V.int ((ns ++ [x]).count n : Nat)) m fun n hn => congrArg (fun z : Nat => V.int z) (hc n (fun e => m (e ▸ hn)))⟩
      · rw [List.nodup_append]
        exact ⟨a1, List.pairwise_singleton _ _, fun a ha b hb e => m (List.mem_singleton.mp hb ▸ e ▸ ha)⟩
      · rw [List.pairwise_append]
        exact ⟨a2, List.pairwise_singleton _ _, fun a ha b hb => List.mem_singleton.mp hb ▸ hx a ((a3 a).mp ha)⟩
      · rw [List.mem_append, List.mem_append, a3 n]
end Fk

set_option Elab.async false
set_option linter.all false
set_option maxRecDepth 100000
/-! The small looks of runs.py. -/
namespace Fk
open PySem PySem.Spec PyProof.Rows L2

abbrev s_is_number : Stmt := topS 10
abbrev s_is_list : Stmt := topS 11
abbrev s_is_name : Stmt := topS 12
abbrev s_has_word : Stmt := topS 13
theorem sc_is_number : FnScope ["thing"] ["thing"] (defScope s_is_number) := ⟨rfl, rfl, rfl, by decide +kernel, rfl, by decide +kernel, by decide +kernel⟩
theorem sc_is_list : FnScope ["thing"] ["thing"] (defScope s_is_list) := ⟨rfl, rfl, rfl, by decide +kernel, rfl, by decide +kernel, by decide +kernel⟩
theorem sc_is_name : FnScope ["thing", "letter"] ["thing"] (defScope s_is_name) := ⟨rfl, rfl, rfl, by decide +kernel, rfl, by decide +kernel, by decide +kernel⟩
theorem sc_has_word : FnScope ["thing"] ["thing"] (defScope s_has_word) := ⟨rfl, rfl, rfl, by decide +kernel, rfl, by decide +kernel, by decide +kernel⟩

section
variable {P : Program} {w : World} {K : PySem.W.Frag} {mg : Str → Option Value} {base : Heap} {f : Addr} {fd : FuncData} {k : Nat}
def sp_is_number : Sp := fun vs H Q _ => ∃ i, vs = [.int i] ∧ Q (.bl true) H
theorem ok_is_number (D : Dn K mg "is_number" s_is_number ["thing"] f fd) (B : Blt mg) : Kn P w K mg base (k + 1) "is_number" sp_is_number := by
  refine D.kn (D.F.ok sc_is_number (fun vs H Q E h => ?_) (fun cdv A outer s H vs Q E hr h => ?_))
  · obtain ⟨i, rfl, _⟩ := h
    rfl
  obtain ⟨i, rfl, q⟩ := h
  refine ⟨_, pss_one (ps_ret (pe_and (pe_callB call_isi (by rfl) B.zisinstance bt_isinstance (pa_cons (pv 0) (pa_cons (pe_bltn (v := .ty "int") (by rfl) B.zint bt_int rfl) pa_nil)))
    (pe_one (pe_not (pe_callB call_isi (by rfl) B.zisinstance bt_isinstance (pa_cons (pv 0) (pa_cons (pe_bltn (v := .ty "bool") (by rfl) B.zbool bt_bool rfl) pa_nil))))))), ?_⟩
  refine ⟨_, rfl, _, _, _, _, true, rfl, .ty _, .base (.int i), kit_ty (by decide +kernel), true, rfl, iteT ?_⟩
  exact ⟨_, rfl, _, _, _, _, false, rfl, .ty _, .base (.int i), kit_ty (by decide +kernel), false, rfl, q⟩

theorem kit_lt : PySem.W.kitAny K (.type "list") [.type "list", .type "tuple"] = some true := kitAny_cons (b := true) (kit_ty (by decide +kernel)) (fun z => Bool.noConfusion z) (fun _ => rfl)
theorem kit_tt : PySem.W.kitAny K (.type "tuple") [.type "list", .type "tuple"] = some true :=
  kitAny_cons (b := false) (kit_ty (by decide +kernel)) (fun _ => kitAny_cons (b := true) (kit_ty (by decide +kernel)) (fun z => Bool.noConfusion z) (fun _ => rfl)) (fun z => Bool.noConfusion z)
/-- a list or a tuple -/
def Sq (K : PySem.W.Frag) (H : Hp) (a : Addr) (xs : List V) : Prop := SqL K H a xs ∨ SqT K H a xs
theorem Sq.sm {H H' : Hp} {a : Addr} {xs : List V} (h : Sq K H a xs) (e : Same H H') : Sq K H' a xs := h.elim (fun h => .inl (e.seq h)) fun h => .inr (SqT.sm h e)
def sp_is_list (K : PySem.W.Frag) : Sp := fun vs H Q _ => ∃ a xs, vs = [.ref a] ∧ Sq K H a xs ∧ ∀ H', Same H H' → Q (.bl true) H'
theorem ok_is_list (D : Dn K mg "is_list" s_is_list ["thing"] f fd) (B : Blt mg) : Kn P w K mg base (k + 1) "is_list" (sp_is_list K) := by
  refine D.kn (D.F.ok sc_is_list (fun vs H Q E h => ?_) (fun cdv A outer s H vs Q E hr h => ?_))
  · obtain ⟨a, xs, rfl, _⟩ := h
    rfl
  obtain ⟨a, xs, rfl, hs, q⟩ := h
  refine ⟨_, pss_one (ps_ret (pe_callB call_isiT (by rfl) B.zisinstance bt_isinstance (pa_cons (pv 0) (pa_cons (pe_tup (pa_cons (pe_bltn (v := .ty "list") (by rfl) B.zlist bt_list rfl) (pa_cons (pe_bltn (v := .ty "tuple") (by rfl) B.ztuple bt_tuple rfl) pa_nil))) pa_nil)))), ?_⟩
  refine ⟨_, rfl, small (show 2 ≤ 100000 by decide), fun p hp => ?_⟩
  have s1 := same_new (o := .tup [.ty "list", .ty "tuple"]) hp
  rcases hs with hs | hs
  · exact ⟨_, p, _, _, [.type "list", .type "tuple"], true, rfl, upd_same, .cons (.ty _) (.cons (.ty _) .nil), SqL.ty (s1.seq hs), kit_lt, q _ s1⟩
  · exact ⟨_, p, _, _, [.type "list", .type "tuple"], true, rfl, upd_same, .cons (.ty _) (.cons (.ty _) .nil), SqT.ty (SqT.sm hs s1), kit_tt, q _ s1⟩

def sp_is_name : Sp := fun vs H Q _ => ∃ n, vs = [.str n] ∧ isName n ∧ ∀ H', Same H H' → Q (.bl true) H'
theorem ok_is_name (D : Dn K mg "is_name" s_is_name ["thing"] f fd) (B : Blt mg) : Kn P w K mg base (k + 1) "is_name" sp_is_name := by
  refine D.kn (D.F.ok sc_is_name (fun vs H Q E h => ?_) (fun cdv A outer s H vs Q E hr h => ?_))
  · obtain ⟨n, rfl, _⟩ := h
    rfl
  obtain ⟨n, rfl, ⟨h1, h2, h3⟩, q⟩ := h
  obtain ⟨_, gl⟩ := B.cletters
  obtain ⟨_, gm⟩ := B.cmost
  refine ⟨_, pss_cons (ps_if (pw_or (pt_not (pt_val (pe_callB call_isi (by rfl) B.zisinstance bt_isinstance (pa_cons (pv 0) (pa_cons (pe_bltn (v := .ty "str") (by rfl) B.zstr bt_str rfl) pa_nil)))))
      (pw_or1 (pt_not (pt_chain op_le op_le pe_int (pe_callB call_len_str (by rfl) B.zlen bt_len (pa_cons (pv 0) pa_nil)) (pe_glob (v := .int 6) (by rfl) gm ⟨_, rfl⟩))))).pt pss_never pss_nil)
    (pss_one (ps_ret (pe_callB (cr_all rfl) (by rfl) B.zall bt_all (pa_cons (pe_lc (own := [("letter", 1)]) (g := gName 1) (tt := tYes) rfl sc_is_name.nd (pi_str (pv 0)) (blkOk_by (N := ["thing", "letter"]) (sc := defScope s_is_name) (by decide +kernel))
      (fun _ _ _ _ _ => pg_name (i := 1) sc_is_name.nd rfl (Or.inl rfl)) (fun _ _ _ _ _ => pts_nil)
      (fun _ _ _ _ _ => pe_cmpR op_in_sign (pv 1) (pe_glob (v := .str letters) (by rfl) gl ⟨_, rfl⟩) (by with_unfolding_all rfl))) pa_nil)))), ?_⟩
  refine ⟨_, rfl, _, _, _, _, true, rfl, .ty _, .base (.str n), kit_ty (by decide +kernel), true, rfl, iteF ?_⟩
  refine ⟨_, rfl, n, rfl, small (by omega), _, _, rfl, rfl, true, congrArg V.bl (decide_eq_true (by omega)), iteT ?_⟩
  refine ⟨_, _, rfl, rfl, true, congrArg V.bl (decide_eq_true (by omega)), iteF ?_⟩
  -- all letters
  refine ⟨_, rfl, n, rfl, fun D hD => ?_⟩
  refine lcb true (walk_str (z := n)) hD (show n.length ≤ 100000 by omega) (fun _ _ => True.intro) (fun i x H0 H' Kt hi s0 fin y => ?_) (fun H2 s2 e => ?_)
  · obtain ⟨rfl, c, hc, rfl⟩ := y
    refine ⟨rfl, _, rfl, c, letters, rfl, rfl, ?_⟩
    have m : c ∈ letters.cps.toList := h3 c (Array.mem_toList_iff.mpr (Array.mem_of_getElem? hc))
    rw [decide_eq_true m]
    exact fin _ (Same.refl _)
  · refine ⟨D, _, rfl, SqL.of e, ?_⟩
    rw [all_rep]
    exact q _ s2

def sp_has_word (K : PySem.W.Frag) : Sp := fun vs H Q _ => ∃ a x xs, vs = [.ref a] ∧ SqT K H a (.str x :: xs) ∧ Q (.bl true) H
theorem ok_has_word (D : Dn K mg "has_word" s_has_word ["thing"] f fd) (B : Blt mg) : Kn P w K mg base (k + 1) "has_word" (sp_has_word K) := by
  refine D.kn (D.F.ok sc_has_word (fun vs H Q E h => ?_) (fun cdv A outer s H vs Q E hr h => ?_))
  · obtain ⟨a, x, xs, rfl, _⟩ := h
    rfl
  obtain ⟨a, x, xs, rfl, hs, q⟩ := h
  refine ⟨_, pss_one (ps_ret (pe_and (pe_callB call_isi (by rfl) B.zisinstance bt_isinstance (pa_cons (pv 0) (pa_cons (pe_bltn (v := .ty "tuple") (by rfl) B.ztuple bt_tuple rfl) pa_nil)))
    (pe_and (pe_cmpR op_gt (pe_callB call_len_seq (by rfl) B.zlen bt_len (pa_cons (pv 0) pa_nil)) pe_int (nomark _))
    (pe_one (pe_callB call_isi (by rfl) B.zisinstance bt_isinstance (pa_cons (pe_ix ix_tup (pv 0) pe_int (fun _ _ => rfl)) (pa_cons (pe_bltn (v := .ty "str") (by rfl) B.zstr bt_str rfl) pa_nil))))))), ?_⟩
  refine ⟨_, rfl, _, _, _, _, true, rfl, .ty _, SqT.ty hs, kit_ty (by decide +kernel), true, rfl, iteT ?_⟩
  refine ⟨_, rfl, a, _, rfl, .inr hs, _, _, rfl, rfl, true, congrArg V.bl (decide_eq_true (by rw [List.length_cons]; omega)), iteT ?_⟩
  exact ⟨_, rfl, a, _, _, _, rfl, rfl, hs, at_zero _ _, _, _, _, _, true, rfl, .ty _, .base (.str x), kit_ty (by decide +kernel), q⟩
end
end Fk

set_option Elab.async false
set_option linter.all false
set_option maxRecDepth 100000
/-! sorted(..) of runs: tuples whose places are of one kind only up to where they differ. -/
namespace Fk
open PySem PySem.Spec PySem.W PySem.SeqAt
open AutoSeq1 (wpAny_loadPart')
open MeetsSeq MeetsSeq2 MeetsSeq3 SeqRoads2

/-- the first pair that differs decides; fin where none does -/
inductive LexR (A : Around) (s : Shared) (fin : Bool) : List (Value × Value) → Bool → Prop
  | nil : LexR A s fin [] fin
  | eq {x y : Value} {r : List (Value × Value)} {b : Bool} : EqAt A s x y true → LexR A s fin r b → LexR A s fin ((x, y) :: r) b
  | ne {x y : Value} {r : List (Value × Value)} {b : Bool} : EqAt A s x y false → RcLt A s x y b → LexR A s fin ((x, y) :: r) b

theorem tup_ltR (l m : Addr) (xs ys : Array Value) (n n2 : Nat) (d1 d2 : Option Addr) (sl sl2 : Array (Option Value)) (k : Bool) :
    Meets (Builtin.«tuple.__lt__» ⟨[.ref l, .ref m], []⟩)
      (fun A R s => (s.heap.get? l = some { cls := .type "tuple", dict := d1, data := .seq xs n, slots := sl } ∧ s.heap.get? m = some { cls := .type "tuple", dict := d2, data := .seq ys n2, slots := sl2 }) ∧
        LexR A.in1 s (decide (xs.size < ys.size)) (xs.toList.zip ys.toList) k ∧ R (.ok (.ret (.bool k))) s) :=
  .of_wp fun prog w A R s h => by
    obtain ⟨hp, g, d, tk, os⟩ := s
    obtain ⟨⟨hl, hb⟩, hlex, hR⟩ := h
    have sub := AutoSeq1.sub_tuple_tuple
    wp_walk using wpAny_loadPart' hl, wpAny_loadPart' hb, wpAny_forIn_list _ (fun rest b s' => b.1 = none ∧ s' = ⟨hp, g, d, tk, os⟩ ∧ LexR A.in1 ⟨hp, g, d, tk, os⟩ (decide (xs.size < ys.size)) rest k) _
    case turn =>
      rintro ⟨y, x⟩ rest b s' ⟨_, rfl, hx⟩
      cases hx with
      | eq he hr =>
        refine wpAny_bind (he prog w _ _ ?_)
        wp_walk
        exact ⟨rfl, rfl, hr⟩
      | ne he hr =>
        have hq : ∀ (Q E : Value → Shared → Prop), Q (.bool k) ⟨hp, g, d, tk, os⟩ → wpAny (model prog w) A.in1 (richCompare .Lt y x) Q E ⟨hp, g, d, tk, os⟩ := fun Q E => hr prog w E Q
        refine wpAny_bind (he prog w _ _ ?_)
        wp_walk using hq _ _
        exact ⟨_, rfl, hR⟩
    case fin =>
      rintro ⟨b1, b2⟩ s' ⟨hn, rfl, hx⟩
      simp only at hn
      subst hn
      cases hx
      wp_walk
      exact ⟨_, rfl, by simpa [Builtin.Tuple.tupleCompareSizes] using hR⟩
    case h => exact ⟨rfl, rfl, hlex⟩

theorem rcLtR {A : Around} {s : Shared} {l m : Addr} {xs ys : Array Value} {k : Bool} (hl : s.heap.IsTuple l xs) (hm : s.heap.IsTuple m ys) (hu : A.units < cLine)
    (h : LexR A.in1 s (decide (xs.size < ys.size)) (xs.toList.zip ys.toList) k) : RcLt A s (.ref l) (.ref m) k := fun prog w E Q hq => by
  obtain ⟨⟨c1, d1, e1, sl1⟩, h1, rfl, n1, rfl⟩ := hl
  obtain ⟨⟨c2, d2, e2, sl2⟩, h2, rfl, n2, rfl⟩ := hm
  exact richCompare_meets_room (op := .Lt) ⟨_, h1, rfl⟩ ⟨_, h2, rfl⟩ F.slot_tuple_lt F.entry_tuple_lt (F.args_tuple_lt_2 _ _) (tup_ltR l m xs ys n1 n2 d1 d2 sl1 sl2 k)
    ⟨⟨h1, h2⟩, h, show Value.bool k ≠ Value.notImplemented ∧ Q (.bool k) s from ⟨fun x => (nomatch x), hq⟩⟩ hu

/-! ### runs as the order sees them -/
section
open PyProof.Rows
/-- a run's data behind its word -/
def tlD : R → List PyData
  | .nothing => []
  | .step n => [.str n]
  | .node _ rs => encL rs
theorem enc_hd (r : R) : enc r = .tuple (.str (hd r) :: tlD r) := by
  cases r with
  | nothing => rw [enc]; rfl
  | step n => rw [enc]; rfl
  | node b rs => rw [enc]; rfl
theorem tk_hd (r : R) : tk r = .inl 1 :: .inr (hd r).cps.toList :: keyToksAll (tlD r) := by
  unfold tk
  rw [enc_hd]
  simp only [keyToks, keyToksAll]
  rfl
theorem lex_apart : ∀ {p q : List (Int ⊕ List Nat)} (l m : List (Int ⊕ List Nat)), (∀ z, q ≠ p ++ z) → (∀ z, p ≠ q ++ z) → lexLt itemOrd (p ++ l) (q ++ m) = lexLt itemOrd p q
  | [], q, _, _, h, _ => absurd rfl (h q)
  | x :: p, [], _, _, _, h => absurd rfl (h (x :: p))
  | x :: p, y :: q, l, m, h, k => by
    by_cases e : x = y
    · subst e
      rw [List.cons_append, List.cons_append]
      refine (lex_self (O := itemOrd) x _ _).trans (Eq.trans ?_ (lex_self (O := itemOrd) x _ _).symm)
      exact lex_apart l m (fun z q => h z (by rw [q]; rfl)) fun z q => k z (by rw [q]; rfl)
    · rw [List.cons_append, List.cons_append]
      exact (lex_diff (O := itemOrd) e).trans (lex_diff (O := itemOrd) e).symm
theorem tk_apart {a b : R} (h : a ≠ b) (l m : List (Int ⊕ List Nat)) : lexLt itemOrd (tk a ++ l) (tk b ++ m) = lexLt itemOrd (tk a) (tk b) :=
  lex_apart l m (fun z e => h (tk_inj a b z [] (by rw [← e, List.append_nil])).1) fun z e => h (tk_inj b a z [] (by rw [← e, List.append_nil])).1.symm
theorem toks_cons (r : R) (rs : List R) : keyToksAll (encL (r :: rs)) = .inl 1 :: (tk r ++ keyToksAll (encL rs)) := by
  rw [encL]
  simp only [keyToksAll]
  rfl
theorem lex_same (r : R) (l m : List (Int ⊕ List Nat)) : lexLt itemOrd (.inl 1 :: (tk r ++ l)) (.inl 1 :: (tk r ++ m)) = lexLt itemOrd l m :=
  (lex_self (O := itemOrd) _ _ _).trans (lex_pre _ _ _)
theorem lex_other {a b : R} (h : a ≠ b) (l m : List (Int ⊕ List Nat)) : lexLt itemOrd (.inl 1 :: (tk a ++ l)) (.inl 1 :: (tk b ++ m)) = lexLt itemOrd (tk a) (tk b) :=
  (lex_self (O := itemOrd) _ _ _).trans (tk_apart h l m)
mutual
theorem eqv_run : ∀ a b : R, PyData.eqv (enc a) (enc b) = true → a = b
  | .nothing, b, h => by
    cases b with
    | nothing => rfl
    | step n => simp [enc, PyData.eqv, PyData.eqvAll] at h
    | node c rs =>
      simp only [enc, PyData.eqv, PyData.eqvAll, Bool.and_eq_true] at h
      exact absurd (congrArg (fun x : Str => x.cps.toList) (eq_of_beq h.1)) (word_cps c).1.symm
  | .step n, b, h => by
    cases b with
    | nothing => simp [enc, PyData.eqv, PyData.eqvAll] at h
    | step k =>
      simp only [enc, PyData.eqv, PyData.eqvAll, Bool.and_eq_true] at h
      rw [eq_of_beq h.2.1]
    | node c rs =>
      simp only [enc, PyData.eqv, PyData.eqvAll, Bool.and_eq_true] at h
      exact absurd (congrArg (fun x : Str => x.cps.toList) (eq_of_beq h.1)) (word_cps c).2.symm
  | .node c rs, b, h => by
    cases b with
    | nothing =>
      simp only [enc, PyData.eqv, PyData.eqvAll, Bool.and_eq_true] at h
      exact absurd (congrArg (fun x : Str => x.cps.toList) (eq_of_beq h.1)) (word_cps c).1
    | step k =>
      simp only [enc, PyData.eqv, PyData.eqvAll, Bool.and_eq_true] at h
      exact absurd (congrArg (fun x : Str => x.cps.toList) (eq_of_beq h.1)) (word_cps c).2
    | node c' rs' =>
      simp only [enc, PyData.eqv, PyData.eqvAll, Bool.and_eq_true] at h
      rw [eqvL_run rs rs' h.2, word_inj c c' (congrArg (fun x : Str => x.cps.toList) (eq_of_beq h.1))]
theorem eqvL_run : ∀ as bs : List R, PyData.eqvAll (encL as) (encL bs) = true → as = bs
  | [], [], _ => rfl
  | [], _ :: _, h => by simp [encL, PyData.eqvAll] at h
  | _ :: _, [], h => by simp [encL, PyData.eqvAll] at h
  | a :: as, b :: bs, h => by
    simp only [encL, PyData.eqvAll, Bool.and_eq_true] at h
    rw [eqv_run a b h.1, eqvL_run as bs h.2]
end
theorem eqv_dec (a b : R) [Decidable (a = b)] : PyData.eqv (enc a) (enc b) = decide (a = b) := by
  by_cases h : a = b
  · subst h
    rw [enc_eqv, decide_eq_true rfl]
  · rw [decide_eq_false h]
    cases q : PyData.eqv (enc a) (enc b) with
    | false => rfl
    | true => exact absurd (eqv_run a b q) h

/-! ### how runs compare -/
theorem eqAt_run {A : Around} {s : Shared} {x y : Value} {a b : R} {as bs : List Addr} (ra : Reads s.heap x (enc a) as) (rb : Reads s.heap y (enc b) bs) (ha : Ok a) (hb : Ok b) (hu : A.units + depth a < cLine) : (a = b → EqAt A s x y true) ∧ (a ≠ b → EqAt A s x y false) := by
  have q := eqAt_reads _ _ A s x y as bs ra rb (enc_lay a ha) (enc_lay b hb) (Nat.lt_of_le_of_lt (Nat.add_le_add_left (Nat.le_trans (Nat.min_le_left _ _) (enc_depth a)) _) hu)
  constructor
  · intro e
    rw [e, enc_eqv] at q
    exact q
  · intro e
    have z : PyData.eqv (enc a) (enc b) = false := by
      cases z : PyData.eqv (enc a) (enc b) with
      | false => rfl
      | true => exact absurd (eqv_run a b z) e
    rw [z] at q
    exact q
theorem eqAt_strs {A : Around} {s : Shared} {x y : Str} {t u : Tok} : (x = y → EqAt A s (.str x t) (.str y u) true) ∧ (x ≠ y → EqAt A s (.str x t) (.str y u) false) := by
  constructor
  · intro e prog w E Q q
    refine wpAny_eqBool_str ?_
    rw [decide_eq_true e]
    exact q
  · intro e prog w E Q q
    refine wpAny_eqBool_str ?_
    rw [decide_eq_false e]
    exact q
theorem rcLt_strs {A : Around} {s : Shared} {x y : Str} {t u : Tok} : RcLt A s (.str x t) (.str y u) (decide (x.cps.toList < y.cps.toList)) := fun prog w E Q q => P.lt_str q
theorem lex_strs {x y : Str} (h : x ≠ y) (l m : List (Int ⊕ List Nat)) : lexLt itemOrd (.inl 1 :: .inr x.cps.toList :: l) (.inl 1 :: .inr y.cps.toList :: m) = decide (x.cps.toList < y.cps.toList) := by
  refine (lex_self (O := itemOrd) _ _ _).trans ((lex_diff (O := itemOrd) fun e => h (str_of_cps (Sum.inr.inj e))).trans ?_)
  rfl
theorem lexR_open {a b : R} {A : Around} {s : Shared} {lx ly : List Value} {as bs : List Addr} {fin : Bool} (ra : ReadsAll s.heap lx (.str (hd a) :: tlD a) as) (rb : ReadsAll s.heap ly (.str (hd b) :: tlD b) bs) (hf : fin = decide (lx.length < ly.length))
    (H : hd a = hd b → ∀ (vr wr : List Value) (as bs : List Addr), ReadsAll s.heap vr (tlD a) as → ReadsAll s.heap wr (tlD b) bs → fin = decide ((tlD a).length < (tlD b).length) → LexR A s fin (vr.zip wr) (lexLt itemOrd (keyToksAll (tlD a)) (keyToksAll (tlD b)))) :
    LexR A s fin (lx.zip ly) (lexLt itemOrd (tk a) (tk b)) := by
  have n1 := SeqAt.ReadsAll.length _ _ _ ra
  have n2 := SeqAt.ReadsAll.length _ _ _ rb
  rw [List.length_cons] at n1 n2
  have ef : fin = decide ((tlD a).length < (tlD b).length) := by
    rw [hf, n1, n2]
    exact decide_eq_decide.mpr (by omega)
  rw [tk_hd, tk_hd]
  cases ra with
  | cons r1 r2 =>
    cases rb with
    | cons q1 q2 =>
      cases r1
      cases q1
      rw [List.zip_cons_cons]
      by_cases e : hd a = hd b
      · have e2 : lexLt itemOrd (.inl 1 :: .inr (hd a).cps.toList :: keyToksAll (tlD a)) (.inl 1 :: .inr (hd b).cps.toList :: keyToksAll (tlD b)) = lexLt itemOrd (keyToksAll (tlD a)) (keyToksAll (tlD b)) := by
          rw [e]
          exact (lex_self (O := itemOrd) _ _ _).trans (lex_self (O := itemOrd) _ _ _)
        rw [e2]
        exact .eq (eqAt_strs.1 e) (H e _ _ _ _ r2 q2 ef)
      · rw [lex_strs e]
        exact .ne (eqAt_strs.2 e) rcLt_strs
theorem hd_step_word (c : Bool) : Str.ofString "step" ≠ word c := fun e => (word_cps c).2 (congrArg (fun x : Str => x.cps.toList) e).symm
theorem hd_nothing_word (c : Bool) : Str.ofString "nothing" ≠ word c := fun e => (word_cps c).1 (congrArg (fun x : Str => x.cps.toList) e).symm
theorem hd_nothing_step : Str.ofString "nothing" ≠ Str.ofString "step" := fun e => nothing_step (congrArg (fun x : Str => x.cps.toList) e)
/-- a < b of runs, from their places -/
theorem rcLt_of {a b : R} {A : Around} {s : Shared} {x y : Value} {as bs : List Addr} (ra : Reads s.heap x (enc a) as) (rb : Reads s.heap y (enc b) bs) (hu : A.units < cLine)
    (H : ∀ (lx ly : List Value) (as bs : List Addr), ReadsAll s.heap lx (.str (hd a) :: tlD a) as → ReadsAll s.heap ly (.str (hd b) :: tlD b) bs → LexR A.in1 s (decide (lx.length < ly.length)) (lx.zip ly) (lexLt itemOrd (tk a) (tk b))) :
    RcLt A s x y (lexLt itemOrd (tk a) (tk b)) := by
  rw [enc_hd] at ra rb
  cases ra with
  | @tuple l o xs n _ _ h1 h2 h3 h4 =>
    cases rb with
    | @tuple m o' ys n' _ _ k1 k2 k3 k4 =>
      have q := H _ _ _ _ h4 k4
      rw [Array.length_toList, Array.length_toList] at q
      exact rcLtR ⟨_, h1, h2, _, h3⟩ ⟨_, k1, k2, _, k3⟩ hu q
mutual
/-- behind equal words -/
theorem lexR_tail : ∀ (a b : R) (A : Around) (s : Shared) (fin : Bool) (vr wr : List Value) (as' bs' : List Addr), hd a = hd b → ReadsAll s.heap vr (tlD a) as' → ReadsAll s.heap wr (tlD b) bs' → Ok a → Ok b → A.units + depth a < cLine → fin = decide ((tlD a).length < (tlD b).length) →
    LexR A s fin (vr.zip wr) (lexLt itemOrd (keyToksAll (tlD a)) (keyToksAll (tlD b)))
  | .nothing, b, A, s, fin, vr, wr, as', bs', e, q1, q2, ha, hb, hu, hf => by
    cases b with
    | nothing =>
      cases (show ReadsAll s.heap vr [] as' from q1)
      rw [lex_irrefl, show fin = false by rw [hf]; exact decide_eq_false (Nat.lt_irrefl _)]
      exact .nil
    | step n => exact absurd e hd_nothing_step
    | node c rs => exact absurd e (hd_nothing_word c)
  | .step n, b, A, s, fin, vr, wr, as', bs', e, q1, q2, ha, hb, hu, hf => by
    cases b with
    | nothing => exact absurd e.symm hd_nothing_step
    | step k =>
      have ef : fin = false := by
        rw [hf]
        exact decide_eq_false (Nat.lt_irrefl _)
      cases (show ReadsAll s.heap vr [.str n] as' from q1) with
      | cons r1 r2 =>
        cases (show ReadsAll s.heap wr [.str k] bs' from q2) with
        | cons k1 k2 =>
          cases r1
          cases k1
          cases r2
          cases k2
          show LexR A s fin [(_, _)] (lexLt itemOrd (keyToksAll [.str n]) (keyToksAll [.str k]))
          simp only [keyToksAll, keyToks, List.cons_append, List.nil_append]
          by_cases q : n = k
          · subst q
            rw [lex_irrefl, ef]
            exact .eq (eqAt_strs.1 rfl) .nil
          · rw [lex_strs q]
            exact .ne (eqAt_strs.2 q) rcLt_strs
    | node c rs => exact absurd e (hd_step_word c)
  | .node c rs, b, A, s, fin, vr, wr, as', bs', e, q1, q2, ha, hb, hu, hf => by
    rw [depth] at hu
    cases b with
    | nothing => exact absurd e.symm (hd_nothing_word c)
    | step k => exact absurd e.symm (hd_step_word c)
    | node c' rs' =>
      rw [Ok] at ha hb
      refine lexR_runs rs rs' A s fin vr wr as' bs' q1 q2 (fun r h => (okL_iff.mp ha.2.1 r h).1) (fun r h => (okL_iff.mp hb.2.1 r h).1) (by omega) ?_
      rw [hf]
      simp only [tlD, encL_map, List.length_map]
theorem lexR_runs : ∀ (xs ys : List R) (A : Around) (s : Shared) (fin : Bool) (vs ws : List Value) (as bs : List Addr), ReadsAll s.heap vs (encL xs) as → ReadsAll s.heap ws (encL ys) bs → (∀ r ∈ xs, Ok r) → (∀ r ∈ ys, Ok r) → A.units + depthL xs + 1 < cLine → fin = decide (xs.length < ys.length) →
    LexR A s fin (vs.zip ws) (lexLt itemOrd (keyToksAll (encL xs)) (keyToksAll (encL ys)))
  | [], [], A, s, fin, _, _, _, _, ra, rb, _, _, _, hf => by
    rw [encL] at ra rb
    cases ra
    cases rb
    rw [show lexLt itemOrd (keyToksAll (encL [])) (keyToksAll (encL [])) = fin by rw [lex_irrefl, hf]; rfl]
    exact .nil
  | [], y :: ys, A, s, fin, _, _, _, _, ra, rb, _, _, _, hf => by
    rw [encL] at ra
    cases ra
    rw [show lexLt itemOrd (keyToksAll (encL [])) (keyToksAll (encL (y :: ys))) = fin by
      rw [hf, toks_cons, encL]
      simp only [keyToksAll]
      exact (lex_diff (O := itemOrd) (by simp)).trans (by simp [itemLt])]
    rw [List.zip_nil_left]
    exact .nil
  | x :: xs, [], A, s, fin, _, _, _, _, ra, rb, _, _, _, hf => by
    rw [show encL [] = [] by rw [encL]] at rb
    cases rb
    rw [show lexLt itemOrd (keyToksAll (encL (x :: xs))) (keyToksAll (encL [])) = fin by
      rw [hf, toks_cons, show encL [] = [] by rw [encL]]
      simp only [keyToksAll]
      exact (lex_diff (O := itemOrd) (by simp)).trans (by simp [itemLt])]
    rw [List.zip_nil_right]
    exact .nil
  | x :: xs, y :: ys, A, s, fin, _, _, _, _, ra, rb, hx, hy, hu, hf => by
    rw [toks_cons, toks_cons]
    rw [encL] at ra rb
    rw [depthL] at hu
    cases ra with
    | cons r1 r2 =>
      cases rb with
      | cons k1 k2 =>
        rw [List.zip_cons_cons]
        have ox := hx x List.mem_cons_self
        have oy := hy y List.mem_cons_self
        by_cases e : x = y
        · have q := (eqAt_run (A := A) r1 k1 ox oy (by omega)).1 e
          subst e
          rw [lex_same]
          refine .eq q (lexR_runs xs ys A s fin _ _ _ _ r2 k2 (fun r h => hx r (List.mem_cons_of_mem _ h)) (fun r h => hy r (List.mem_cons_of_mem _ h)) (by omega) ?_)
          rw [hf]
          simp only [List.length_cons, Nat.add_lt_add_iff_right]
        · rw [lex_other e]
          exact .ne ((eqAt_run (A := A) r1 k1 ox oy (by omega)).2 e) (rcLt_of r1 k1 (by omega) fun lx ly as bs m1 m2 => lexR_open m1 m2 rfl fun e vr wr as bs t1 t2 hf => lexR_tail x y A.in1 s _ vr wr as bs e t1 t2 ox oy (by show A.units + 1 + depth x < cLine; omega) hf)
end

/-! ### the sort -/
/-- the keys that runs make in the heap h -/
noncomputable def runKind (h : Heap) : PyProof.Rows.KeyKind where
  toKeyOrd := listOrd itemOrd
  keyOf v := open Classical in if q : ∃ r, (Ok r ∧ depth r ≤ 60) ∧ ∃ as, Reads h v (enc r) as then some (tk q.choose) else none
  dflt := ([] : List (Int ⊕ List Nat))
theorem reads_one {h : Heap} {v : Value} {a b : R} {as bs : List Addr} (ra : Reads h v (enc a) as) (rb : Reads h v (enc b) bs) (ha : Ok a) (hb : Ok b) : a = b := by
  have e1 := SeqAt.readOf_eq (enc_lay a ha) ra
  have e2 := SeqAt.readOf_eq (enc_lay b hb) rb
  refine eqv_run a b ?_
  rw [← e1, e2]
  exact enc_eqv b
theorem runKind_some {h : Heap} {v : Value} {r : R} {as : List Addr} (ho : Ok r) (hd : depth r ≤ 60) (hr : Reads h v (enc r) as) : (runKind h).keyOf v = some (tk r) := by
  have q : ∃ r, (Ok r ∧ depth r ≤ 60) ∧ ∃ as, Reads h v (enc r) as := ⟨r, ⟨ho, hd⟩, as, hr⟩
  have e : (runKind h).keyOf v = some (tk q.choose) := by
    show (open Classical in if q : ∃ r, (Ok r ∧ depth r ≤ 60) ∧ ∃ as, Reads h v (enc r) as then some (tk q.choose) else none) = _
    rw [dif_pos q]
  obtain ⟨h1, as', h2⟩ := q.choose_spec
  rw [e, reads_one h2 hr h1.1 ho]
theorem runKind_inv {h : Heap} {v : Value} {k : List (Int ⊕ List Nat)} (e : (runKind h).keyOf v = some k) : ∃ r as, (Ok r ∧ depth r ≤ 60) ∧ Reads h v (enc r) as ∧ k = tk r := by
  by_cases q : ∃ r, (Ok r ∧ depth r ≤ 60) ∧ ∃ as, Reads h v (enc r) as
  · obtain ⟨r, ⟨ho, hd⟩, as, hr⟩ := q
    rw [runKind_some ho hd hr] at e
    exact ⟨r, as, ⟨ho, hd⟩, hr, (Option.some.inj e).symm⟩
  · have z : (runKind h).keyOf v = none := by
      show (open Classical in if q : ∃ r, (Ok r ∧ depth r ≤ 60) ∧ ∃ as, Reads h v (enc r) as then some (tk q.choose) else none) = _
      rw [dif_neg q]
      rfl
    rw [z] at e
    cases e
section
variable {prog : Program} {w : World} {A : Around} {s : Shared} {b fin : Bool} {Q : Bool → Shared → Prop}
theorem kat_later {zs : List (Value × Value)} {k : Bool} (h : LexR A s fin zs k) : ∀ i : Nat, i ≠ 0 → Q k s → KatLex prog w A b fin Q zs i s := by
  induction h with
  | nil => exact fun i _ q => kat_nil q
  | eq he _ ih => exact fun i _ q => kat_cons (he prog w _ _ (kat_yes (ih (i + 1) (by omega) q)))
  | ne he hr =>
    intro i hi q
    refine kat_cons (he prog w _ _ (kat_no ?_))
    rw [show (b && i == 0) = false by rw [show (i == 0) = false from beq_eq_false_iff_ne.mpr hi, Bool.and_false], oneLt'_eq]
    simp only [Bool.false_eq_true, if_false]
    exact wpAny_bind (hr prog w _ _ (wpAny_truthy_bool q))
theorem kat_runs {x y : R} {lx ly : List Value} {as bs : List Addr} (ra : ReadsAll s.heap lx (.str (hd x) :: tlD x) as) (rb : ReadsAll s.heap ly (.str (hd y) :: tlD y) bs) (ox : Ok x) (oy : Ok y) (hu : A.units + depth x < cLine) (hf : fin = decide (lx.length < ly.length))
    (q : Q (lexLt itemOrd (tk x) (tk y)) s) : KatLex prog w A true fin Q (lx.zip ly) 0 s := by
  have n1 := SeqAt.ReadsAll.length _ _ _ ra
  have n2 := SeqAt.ReadsAll.length _ _ _ rb
  rw [List.length_cons] at n1 n2
  have ef : fin = decide ((tlD x).length < (tlD y).length) := by
    rw [hf, n1, n2]
    exact decide_eq_decide.mpr (by omega)
  rw [tk_hd, tk_hd] at q
  cases ra with
  | cons r1 r2 =>
    cases rb with
    | cons q1 q2 =>
      cases r1
      cases q1
      rw [List.zip_cons_cons]
      by_cases e : hd x = hd y
      · refine kat_cons (eqAt_strs.1 e prog w _ _ (kat_yes (kat_later (lexR_tail x y A s fin _ _ _ _ e r2 q2 ox oy hu ef) 1 (by decide) ?_)))
        rw [e] at q
        rw [(lex_self (O := itemOrd) _ _ _).trans (lex_self (O := itemOrd) _ _ _)] at q
        exact q
      · refine kat_cons (eqAt_strs.2 e prog w _ _ (kat_no (PyProof.Rows.oneLt_str ?_)))
        rw [lex_strs e] at q
        exact q
end
section
variable {prog : Program} {w : World} {A : Around} {s : Shared}
theorem runs_tups {h : Heap} : ∀ {vs : List Value} {rs : List R}, EachIs (fun v r => ∃ as, Reads h v (enc r) as) vs rs → ∃ fs, KatTups h vs fs ∧ fs.length = vs.length ∧ ∀ f ∈ fs, ∃ x t, f = .str x t
  | _, _, .nil => ⟨[], KatTups.nil, rfl, fun f hf => nomatch hf⟩
  | _, _, .cons (b := r) ⟨as, hr⟩ t => by
    obtain ⟨fs, t1, t2, t3⟩ := runs_tups t
    rw [enc_hd] at hr
    cases hr with
    | @tuple a o xs n _ _ h1 h2 h3 h4 =>
      cases hl : xs.toList with
      | nil =>
        rw [hl] at h4
        cases h4
      | cons f fr =>
        rw [hl] at h4
        cases h4 with
        | cons r1 r2 =>
          cases r1
          refine ⟨_, KatTups.cons h1 h2 h3 (by rw [← Array.getElem?_toList, hl]; rfl) t1, by rw [List.length_cons, List.length_cons, t2], fun g hg => ?_⟩
          rcases List.mem_cons.mp hg with e | hg
          · exact ⟨_, _, e⟩
          · exact t3 g hg
theorem sorts_runs {vs : List Value} {rs : List R} (e : EachIs (fun v r => ∃ as, Reads s.heap v (enc r) as) vs rs) (ho : ∀ r ∈ rs, Ok r ∧ depth r ≤ 60) (hu : A.units + 64 < cLine) : SortsAt prog w A s (runKind s.heap) vs := by
  refine ⟨fun v hv => ?_, tuples' true, ?_, fun h2 E Q hq => ?_⟩
  · obtain ⟨r, hr, as, h⟩ := e.left v hv
    exact ⟨_, runKind_some (ho r hr).1 (ho r hr).2 h⟩
  · intro E x y a b Q ha hb hq
    obtain ⟨r, as, ⟨o1, d1⟩, h1, rfl⟩ := runKind_inv ha
    obtain ⟨r', as', ⟨o2, d2⟩, h2, rfl⟩ := runKind_inv hb
    rw [enc_hd] at h1 h2
    cases h1 with
    | @tuple l o xs n _ _ g1 g2 g3 g4 =>
      cases h2 with
      | @tuple m o' ys n' _ _ k1 k2 k3 k4 =>
        refine kat_lt g1 g3 k1 k3 (kat_runs g4 k4 o1 o2 (by omega) (by rw [Array.length_toList, Array.length_toList]) hq)
  · obtain ⟨fs, t1, t2, t3⟩ := runs_tups e
    refine kat_kind (T := Value.type "str") t1 (by omega) (fun f hf => ?_) (beq_self_eq_true _) hq
    obtain ⟨x, t, rfl⟩ := t3 f hf
    exact Looks.of_pure rfl
/-- the sorted values stand for the sorted runs -/
theorem sorted_each {h : Heap} {vs : List Value} {rs : List R} {F : Value → R → Prop} (f : EachIs F vs rs) (e : EachIs (fun v r => ∃ as, Reads h v (enc r) as) vs rs) (ho : ∀ r ∈ rs, Ok r ∧ depth r ≤ 60) :
    EachIs F (sortVals (runKind h) false vs vs) (sortR rs) := by
  refine sortVals_each (κ := runKind h) tk f ?_
  have m := each_mem e
  exact m.mono fun v r ⟨⟨as, hr⟩, hm⟩ => runKind_some (ho r hm).1 (ho r hm).2 hr
end
end
end Fk

set_option Elab.async false
set_option linter.all false
set_option maxRecDepth 100000
/-! Rules: sorted of runs; extending by a tuple; .. -/
namespace Fk
open PySem PySem.Spec PySem.W PySem.Calls PyProof.Rows L2

section
variable {prog : Program} {w : World} {A : Around} {E : Value → Shared → Prop} {s : Shared}
/-- sorted(v), whatever is collected of it -/
theorem sorted_gen {a : Addr} {Q : Value → Shared → Prop} (hc : wpAny (model prog w) A.in1 (collect (.ref a)) (fun vs s1 => vs.length ≤ sizeLine ∧ ∃ κ : PyProof.Rows.KeyKind,
      SortsAt prog w A.in1.in1 { s1 with heap := sortingHeap (s1.heap.push (seqObj "list" vs.toArray 0)) s1.heap.objs.size vs } κ vs ∧
      Q (.ref s1.heap.objs.size) { s1 with heap := sortedHeap (s1.heap.push (seqObj "list" vs.toArray 0)) s1.heap.objs.size vs (sortVals κ false vs vs).toArray }) E s) :
    wpAny (model prog w) A (call (.builtin "sorted") [.ref a]) Q E s := by
  refine Calls.call_function_entry kind_sorted plain_sorted entry_sorted (args_sorted1 _) ?_
  unfold Builtin.«sorted»
  refine wpAny_bind (m := checkCount "sorted" 1 1 _) (wpAny_pure ?_)
  refine wpAny_bind (wpAny_mono hc (fun vs s1 hq => ?_) fun _ _ e => e)
  obtain ⟨hL, κ, S, q⟩ := hq
  refine wpAny_bind (wpAny_newList ?_ hL)
  have hoL : (s1.heap.push (seqObj "list" vs.toArray 0)).get? s1.heap.objs.size = some (seqObj "list" vs.toArray 0) := Heap.get?_push_size _ rfl
  show wpAny (model prog w) A.in1 _ _ E { s1 with heap := s1.heap.push (seqObj "list" vs.toArray 0) }
  refine wpAny_bind (wpAny_holding (wpAny_call_entry slot_list_sort ⟨_, hoL, rfl⟩ entry_list_sort (list_sort_vals (s := { s1 with heap := s1.heap.push (seqObj "list" vs.toArray 0) }) hoL S hL ⟨_, rfl, ?_⟩) (args_list_sort _)))
  exact wpAny_pure ⟨_, rfl, q⟩
end
section
variable {X : Cx} {pins : List (Addr × Obj)} {σ : L2.St} {H : Hp} {s : Shared}
theorem each_of {F : V → R → Prop} : ∀ {xs : List V} {us : List Value} {rs : List R}, Vals xs us → Paired F xs rs → EachIs (fun u r => ∃ x, RelV x u ∧ F x r) us rs
  | _, _, _, .nil, .nil => .nil
  | _, _, _, .cons h t, .cons k u => .cons ⟨_, h, k⟩ (each_of t u)
theorem of_each {F : V → R → Prop} : ∀ {us : List Value} {rs : List R}, EachIs (fun u r => ∃ x, RelV x u ∧ F x r) us rs → ∃ xs, Vals xs us ∧ Paired F xs rs
  | _, _, .nil => ⟨[], .nil, .nil⟩
  | _, _, .cons ⟨x, h, k⟩ t => by
    obtain ⟨xs, h1, h2⟩ := of_each t
    exact ⟨x :: xs, .cons h h1, .cons k h2⟩
theorem seq_of {a : Addr} {xs : List V} (I : Inv X pins σ H s) (h : (SqL X.K H a xs ∨ SqT X.K H a xs)) : ∃ (T : String) (o : Obj) (its : List Value) (n : Nat), (T = "list" ∨ T = "tuple") ∧ s.heap.get? a = some o ∧ o.cls = .type T ∧ o.data = .seq its.toArray n ∧ Vals xs its ∧ xs.length ≤ sizeLine := by
  rcases h with h | h
  · obtain ⟨its, rv, pl, hz⟩ := I.list h
    obtain ⟨o, ho, hc, n, hd⟩ := pl.isList
    exact ⟨_, o, its, n, .inl rfl, ho, hc, hd, rv, hz⟩
  · obtain ⟨its, rv, ⟨o, ho, hc, n, hd⟩, hz⟩ := I.tuple h
    exact ⟨_, o, its, n, .inr rfl, ho, hc, hd, rv, hz⟩
/-- the new list of a sort is laid -/
theorem laid_sorted {vs out : List Value} {ys : List V} {s1 : Shared} (I : Inv X pins σ H s1) (rv : Vals ys out) (hz : ys.length ≤ sizeLine) :
    H s1.heap.objs.size = none ∧ Inv X pins σ (upd H s1.heap.objs.size (.lst ys)) { s1 with heap := sortedHeap (s1.heap.push (seqObj "list" vs.toArray 0)) s1.heap.objs.size vs out.toArray } := by
  have hoL : (s1.heap.push (seqObj "list" vs.toArray 0)).get? s1.heap.objs.size = some (seqObj "list" vs.toArray 0) := Heap.get?_push_size _ rfl
  obtain ⟨e, he⟩ := sortedHeap_at (out := out.toArray) hoL
  refine ⟨I.hok.fresh (Nat.le_refl _), I.laid (t' := s1.toks) (fun b u q => ?_) (Nat.le_refl _) ⟨hz, out, e, rv, he⟩⟩
  have hlt := Heap.lt_size q
  rw [sortedHeap_old (Nat.ne_of_lt hlt) (by rw [Heap.size_push]; exact Nat.lt_succ_of_lt hlt)]
  exact Heap.get?_push_of_some _ q
end
/-- sorted(runs), a list or a tuple of them -/
def rSortedR (K : PySem.W.Frag) : List V → Hp → VK → Prop := fun vs H Q => ∃ (a : Addr) (xs : List V) (rs : List R), vs = [.ref a] ∧ (SqL K H a xs ∨ SqT K H a xs) ∧ AtL K H xs rs ∧ (∀ r ∈ rs, Ok r ∧ depth r ≤ 60) ∧
  ∀ (p : Addr) (ys : List V), H p = none → AtL K (upd H p (.lst ys)) ys (sortR rs) → Q (.ref p) (upd H p (.lst ys))
theorem cr_sortedR {X : Cx} (hu : X.A.units + 70 < cLine) : CallR X (.builtin "sorted") (rSortedR X.K) := by
  intro pins s σ H vs us Q I r h
  obtain ⟨a, xs, rs, rfl, hs, ha, ho, q⟩ := h
  obtain rfl := Vals.ref1 r
  obtain ⟨T, o, its, n, hT, h1, h2, h3, rv, hz⟩ := seq_of I hs
  have hl := rv.length
  refine sorted_gen (wpAny_collect_seq a hT h1 h2 h3 (fun h' hk => ?_) (by rw [List.size_toArray]; omega))
  rw [show its.toArray.toList = its by simp]
  have I1 : Inv X pins σ H { s with heap := h' } := I.kept (t' := s.toks) hk
  have I2 := laid_sorted (vs := its) (out := its) (ys := xs) I1 rv hz
  -- the runs read off every later heap
  have rd : ∀ (g : Heap), (∀ b u, h'.get? b = some u → g.get? b = some u) → EachIs (fun v r => ∃ as, Reads g v (enc r) as) its rs := fun g hg => by
    have J : Inv X pins σ H { s with heap := g } := I1.kept (t' := s.toks) hg
    refine (each_of rv ha).mono fun u r ⟨x, rx, hx⟩ => Dp.reads J (enc r) x u hx rx
  have keepS : ∀ b u, h'.get? b = some u → (sortingHeap (h'.push (seqObj "list" its.toArray 0)) h'.objs.size its).get? b = some u := fun b u q =>
    sortingHeap_old (Nat.ne_of_lt (Heap.lt_size q)) (Heap.get?_push_of_some _ q)
  refine ⟨by omega, runKind _, sorts_runs (rd _ keepS) ho (by show X.A.units + 1 + 1 + 64 < cLine; omega), ?_⟩
  have f := sorted_each (each_of rv ha) (rd _ keepS) ho
  obtain ⟨ys, y1, y2⟩ := of_each f
  have hys : ys.length ≤ sizeLine := by
    rw [y2.length, (sortR_perm rs).length_eq, ← ha.length]
    exact hz
  obtain ⟨hn, J⟩ := laid_sorted (vs := its) I1 y1 hys
  refine ⟨.ref _, _, J, rfl, q _ ys hn ?_⟩
  exact AtL.tk (tk_new hn) _ _ y2
end Fk

set_option Elab.async false
set_option linter.all false
set_option maxRecDepth 100000
/-! Rules: extending by a list or a tuple. -/
namespace Fk
open PySem PySem.Spec PyProof.Rows L2
open AutoSeq1 (wpAny_loadPart')
open MeetsSeq MeetsSeq2 MeetsSeq3 SeqRoads2

theorem ext_meets (T : String) (hT : T = "list" ∨ T = "tuple") (l b : Addr) (xs ys : Array Value) (n n2 : Nat) (d : Option Addr) (sl : Array (Option Value)) (h0 : ¬ (!xs.isEmpty && Builtin.List.listTooLong (xs.size + ys.size)) = true) (h1 : xs.size ≤ sizeLine) (h2 : xs.size + ys.size ≤ sizeLine + 1) :
    Meets (Builtin.«list.extend» ⟨[.ref l, .ref b], []⟩) (fun _ R s => (s.heap.get? l = some { cls := .type "list", dict := none, data := .seq xs n, slots := #[] } ∧ s.heap.get? b = some { cls := .type T, dict := d, data := .seq ys n2, slots := sl }) ∧
      R (.ok (.ret Value.none)) { s with heap := s.heap.update l (Obj.mapSeq fun x => x ++ ys), toks := s.toks }) :=
  .of_wp fun prog w A R s h => by
    obtain ⟨hp, g, dr, tk, os⟩ := s
    obtain ⟨⟨hl, hb⟩, h⟩ := h
    have f1 := AutoSeq1.sub_tuple_tuple
    have f2 := AutoSeq1.sub_list_list
    have hz : (xs ++ ys).size ≤ sizeLine + 1 := by
      rw [Array.size_append]
      exact h2
    rcases hT with rfl | rfl
    · wp_walk using (wpAny_updateSeq hl rfl (hz := h1) (_hz' := hz)), wpAny_loadPart' hl, wpAny_loadPart' hb
      exact ⟨_, rfl, h⟩
    · wp_walk using (wpAny_updateSeq hl rfl (hz := h1) (_hz' := hz)), wpAny_loadPart' hl, wpAny_loadPart' hb
      exact ⟨_, rfl, h⟩

section
variable {X : Cx}
/-- xs.extend(ys), ys a list or a tuple -/
def rExt (K : PySem.W.Frag) : V → List V → Hp → VK → Prop := fun x vs H Q => ∃ l b xs ys, x = .ref l ∧ vs = [.ref b] ∧ H l = some (.lst xs) ∧ (SqL K H b ys ∨ SqT K H b ys) ∧ xs.length + ys.length ≤ sizeLine ∧ Q .non (upd H l (.lst (xs ++ ys)))
theorem mt_ext : MtM X "list.extend" (rExt X.K) := by
  intro pins s σ H x vs v us Q I rx rv h
  obtain ⟨l, b, xs, ys, rfl, rfl, hH, hB, hz, q⟩ := h
  cases rx
  obtain ⟨u, rfl, ru⟩ := rv.one
  cases ru
  obtain ⟨z, its, n, r, hl, e⟩ := I.lstM hH
  obtain ⟨T, ⟨c2, d2, e2, sl2⟩, its2, n2, hT, h1, h2, h3, r2, z2⟩ := seq_of I hB
  simp only at h2 h3
  subst h2 h3
  have hl2 := r2.length
  have hl1 := r.length
  have hsz : its.toArray.size + its2.toArray.size ≤ sizeLine := by
    rw [List.size_toArray, List.size_toArray]
    omega
  have hlong : ¬ (!its.toArray.isEmpty && Builtin.List.listTooLong (its.toArray.size + its2.toArray.size)) = true := by
    rw [notLongL hsz, Bool.and_false]
    exact Bool.false_ne_true
  refine call_meets F.slot_list_extend ⟨_, e, rfl⟩ F.entry_list_extend (F.args_list_extend_2 _ _) (ext_meets T hT l b its.toArray its2.toArray n n2 d2 sl2 hlong (by omega) (by omega)) ⟨⟨e, h1⟩, ?_⟩
  refine ⟨.non, _, I.lset (its' := its ++ its2) hH e (by simp) (r.append r2) ?_, rfl, q⟩
  rw [List.length_append]
  omega
end
end Fk

set_option Elab.async false
set_option linter.all false
set_option maxRecDepth 100000
/-! is_run, need_run, need_runs. -/
namespace Fk
open PySem PySem.Spec PyProof.Rows L2

abbrev s_are_parts : Stmt := topS 14
abbrev s_is_run : Stmt := topS 15
abbrev s_need_run : Stmt := topS 16
abbrev s_need_runs : Stmt := topS 17
theorem sc_are_parts : FnScope ["things", "word", "thing"] ["things", "word"] (defScope s_are_parts) := ⟨rfl, rfl, rfl, by decide +kernel, rfl, by decide +kernel, by decide +kernel⟩
theorem sc_is_run : FnScope ["thing", "word"] ["thing"] (defScope s_is_run) := ⟨rfl, rfl, rfl, by decide +kernel, rfl, by decide +kernel, by decide +kernel⟩
theorem sc_need_run : FnScope ["run"] ["run"] (defScope s_need_run) := ⟨rfl, rfl, rfl, by decide +kernel, rfl, by decide +kernel, by decide +kernel⟩
theorem sc_need_runs : FnScope ["runs", "at", "run"] ["runs"] (defScope s_need_runs) := ⟨rfl, rfl, rfl, by decide +kernel, rfl, by decide +kernel, by decide +kernel⟩

section
variable {P : Program} {w : World} {K : PySem.W.Frag} {mg : Str → Option Value} {base : Heap} {f g : Addr} {fd gd : FuncData} {k : Nat}
def sp_is_run (K : PySem.W.Frag) (d : Nat) : Sp := fun vs H Q _ => ∃ v r, vs = [v] ∧ At K H v r ∧ Ok r ∧ depth r ≤ d ∧ size r ≤ 1000 ∧ ∀ H', Same H H' → Q (.bl true) H'
def sp_are_parts (K : PySem.W.Frag) (d : Nat) : Sp := fun vs H Q _ => ∃ a b xs rs, vs = [.ref a, .str (word (!b))] ∧ SqT K H a xs ∧ AtL K H xs rs ∧ OkL b rs ∧ 2 ≤ rs.length ∧ depthL rs ≤ d ∧ sizeL rs ≤ 1000 ∧ ∀ H', Same H H' → Q (.bl true) H'

theorem hd_in {b : Bool} {r : R} (h : isPart b r = true) : inV (.str (hd r)) [.str (Str.ofString "step"), .str (word (!b))] = true := by
  cases r with
  | nothing => simp [isPart] at h
  | step n => rfl
  | node c rs =>
    have : c = !b := by
      revert h
      cases b <;> cases c <;> simp [isPart]
    subst this
    show ((Str.ofString "step" == word (!b)) || ((word (!b) == word (!b)) || false)) = true
    rw [beq_self_eq_true]
    simp
theorem ok_are_parts {d j : Nat} (D : Dn K mg "are_parts" s_are_parts ["things", "word"] f fd) (B : Blt mg) (C : Kn P w K mg base j "is_run" (sp_is_run K d)) (hj : j ≤ k) : Kn P w K mg base (k + 1) "are_parts" (sp_are_parts K d) := by
  refine D.kn (D.F.ok sc_are_parts (fun vs H Q E h => ?_) (fun cdv A outer s H vs Q E hr h => ?_))
  · obtain ⟨a, b, xs, rs, rfl, _⟩ := h
    rfl
  obtain ⟨a, b, xs, rs, rfl, hs, ha, ho, h2, hd', hz, q⟩ := h
  have hl := ha.length
  have hlen := sizeL_ge ho
  refine ⟨_, pss_cons (ps_if (pw_or (pt_cmpR op_lt (pe_callB call_len_seq (by rfl) B.zlen bt_len (pa_cons (pv 0) pa_nil)) pe_int (nomark _))
      (pw_or1 (pt_not (pt_val (pe_callB (cr_all rfl) (by rfl) B.zall bt_all (pa_cons (pe_lc (own := [("thing", 2)]) (g := gName 2) (tt := tYes) rfl sc_are_parts.nd (pi_tup (pv 0)) (blkOk_by (N := ["things", "word", "thing"]) (sc := defScope s_are_parts) (by decide +kernel))
        (fun _ _ _ _ _ => pg_name (i := 2) sc_are_parts.nd rfl (Or.inl rfl)) (fun _ _ _ _ _ => pts_nil) (fun _ _ _ _ _ => pe_kn C hr hj (by rfl) (pa_cons (pv 2) pa_nil))) pa_nil)))))).pt pss_never pss_nil)
    (pss_one (ps_ret (pe_callB (cr_all rfl) (by rfl) B.zall bt_all (pa_cons (pe_lc (own := [("thing", 2)]) (g := gName 2) (tt := tYes) rfl sc_are_parts.nd (pi_tup (pv 0)) (blkOk_by (N := ["things", "word", "thing"]) (sc := defScope s_are_parts) (by decide +kernel))
        (fun _ _ _ _ _ => pg_name (i := 2) sc_are_parts.nd rfl (Or.inl rfl)) (fun _ _ _ _ _ => pts_nil)
        (fun _ _ _ _ _ => pe_cmpR (r := rIn K false) op_in_seq (pe_ix (r := rIxT K) ix_tup (pv 2) pe_int (fun _ _ => rfl)) (pe_tup (pa_cons pe_str (pa_cons (pv 1) pa_nil))) (by with_unfolding_all rfl))) pa_nil)))), ?_⟩
  refine ⟨_, rfl, a, xs, rfl, .inr hs, _, _, rfl, rfl, false, congrArg V.bl (decide_eq_false (by omega)), iteF ?_⟩
  refine ⟨_, rfl, a, rfl, ⟨xs, hs⟩, fun D1 hD1 => ?_⟩
  refine lcb true walk_tup hD1 (by omega) (fun H' s' => SqT.sm hs s') (fun i x H0 H' Kt hi s0 fin y => ?_) (fun H2 s2 e2 => ?_)
  · obtain ⟨rfl, hx⟩ := y
    obtain ⟨r, hr', hxr⟩ := paired_get ha hx
    have hm := List.mem_of_getElem? hr'
    have dm := depthL_le hm
    have sm := sizeL_le hm
    exact ⟨rfl, x, rfl, x, r, rfl, At.tk (.of s0) r x hxr, (okL_iff.mp ho r hm).1, by omega, by omega, fin⟩
  refine ⟨D1, _, rfl, SqL.of e2, true, congrArg V.bl (all_rep _), iteF ?_⟩
  refine ⟨_, rfl, a, rfl, ⟨xs, SqT.sm hs s2⟩, fun D2 hD2 => ?_⟩
  refine lcb true walk_tup hD2 (by omega) (fun H' s' => SqT.sm hs (s2.trans s')) (fun i x H0 H' Kt hi s0 fin y => ?_) (fun H3 s3 e3 => ?_)
  · obtain ⟨rfl, hx⟩ := y
    obtain ⟨r, hr', hxr⟩ := paired_get ha hx
    have hm := List.mem_of_getElem? hr'
    obtain ⟨p, ys, rfl, hp, _⟩ := at_iff.mp (At.tk (.of (s2.trans s0)) r x hxr)
    refine ⟨rfl, .ref p, rfl, p, _, _, _, rfl, rfl, hp, at_zero _ _, .str (word (!b)), rfl, small (show 2 ≤ 100000 by decide), fun t ht => ?_⟩
    refine ⟨t, _, rfl, .inr (SqT.of upd_same), rfl, rfl, ?_⟩
    have e : (if false = true then !inV (.str (hd r)) [.str (Str.ofString "step"), .str (word (!b))] else inV (.str (hd r)) [.str (Str.ofString "step"), .str (word (!b))]) = true := hd_in (okL_iff.mp ho r hm).2
    have fin' := fin _ (same_new (o := .tup [.str (Str.ofString "step"), .str (word (!b))]) ht)
    rw [← e] at fin'
    exact fin'
  refine ⟨D2, _, rfl, SqL.of e3, ?_⟩
  rw [all_rep]
  exact q _ (s2.trans s3)

theorem room70 {k : Nat} {A : Around} (hr : Room k A) : A.units + 70 < cLine := by
  have := hr.un
  omega
theorem dec_ne {x y : Str} (h : x ≠ y) : decide (V.str x = V.str y) = false := decide_eq_false fun e => h (V.str.inj e)
theorem iteNe {A B : Prop} {x y : Str} (h : x ≠ y) (b : B) : if decide (V.str x = V.str y) = true then A else B := by
  rw [dec_ne h]
  exact iteF b
theorem word_ne : word true ≠ Str.ofString "row" := fun e => by
  have h := word_inj true false (congrArg (fun x : Str => x.cps.toList) e)
  cases h
theorem shaped_list {b : Bool} {rs : List R} (ho : OkL b rs) (hd : depthL rs ≤ 60) : SeqAt.shaped (.list (encL rs)) = true := by
  have h1 := encL_depth rs
  show (PyData.canLay0 (.list (encL rs)) && decide (PyData.depth (.list (encL rs)) ≤ 64)) = true
  rw [Bool.and_eq_true]
  refine ⟨by simp only [PyData.canLay0]; exact encL_lay rs ho, decide_eq_true ?_⟩
  simp only [PyData.depth]
  omega
theorem shaped_run {r : R} (ho : Ok r) (hd : depth r ≤ 60) : SeqAt.shaped (enc r) = true := by
  have h1 := enc_depth r
  show ((enc r).canLay0 && decide ((enc r).depth ≤ 64)) = true
  rw [Bool.and_eq_true]
  exact ⟨enc_lay r ho, decide_eq_true (by omega)⟩
theorem ok_is_run {d j : Nat} (D : Dn K mg "is_run" s_is_run ["thing"] f fd) (B : Blt mg) (C1 : Kn P w K mg base 1 "has_word" (sp_has_word K)) (C2 : Kn P w K mg base 1 "is_name" sp_is_name) (C : Kn P w K mg base j "are_parts" (sp_are_parts K d)) (hj : j ≤ k) (h1k : 1 ≤ k) (hd60 : d ≤ 58) :
    Kn P w K mg base (k + 1) "is_run" (sp_is_run K (d + 1)) := by
  refine D.kn (D.F.ok sc_is_run (fun vs H Q E h => ?_) (fun cdv A outer s H vs Q E hr h => ?_))
  · obtain ⟨v, r, rfl, _⟩ := h
    rfl
  obtain ⟨v, r, rfl, ha, ho, hdr, hz, q⟩ := h
  obtain ⟨a, vs, rfl, hs, ht⟩ := at_iff.mp ha
  refine ⟨_, pss_cons (ps_if (pt_not (pt_val (pe_kn C1 hr h1k (by rfl) (pa_cons (pv 0) pa_nil)))) pss_never pss_nil)
    (pss_cons (ps_set (i := 1) sc_is_run.nd rfl (Or.inl rfl) (pe_ix ix_tup (pv 0) pe_int (fun _ _ => rfl)))
    (pss_cons (ps_if (pt_cmpR op_eq (pv 1) pe_str (nomark _)) (pss_one (ps_ret (pe_cmpR op_eq (pe_callB call_len_seq (by rfl) B.zlen bt_len (pa_cons (pv 0) pa_nil)) pe_int (nomark _)))) pss_nil)
    (pss_cons (ps_if (pt_cmpR op_eq (pv 1) pe_str (nomark _)) (pss_one (ps_ret (pe_and (pe_cmpR op_eq (pe_callB call_len_seq (by rfl) B.zlen bt_len (pa_cons (pv 0) pa_nil)) pe_int (nomark _))
        (pe_one (pe_kn C2 hr h1k (by rfl) (pa_cons (pe_ix ix_tup (pv 0) pe_int (fun _ _ => rfl)) pa_nil)))))) pss_nil)
    (pss_cons (ps_if (pt_cmpR op_eq (pv 1) pe_str (nomark _)) (pss_one (ps_ret (pe_kn C hr hj (by rfl) (pa_cons (pe_slice sl_tup (pv 0) (po_some pe_int) po_none) (pa_cons pe_str pa_nil))))) pss_nil)
    (pss_one (ps_ret (pe_and (pe_cmpR op_eq (pv 1) pe_str (nomark _)) (pe_and (pe_kn C hr hj (by rfl) (pa_cons (pe_slice sl_tup (pv 0) (po_some pe_int) po_none) (pa_cons pe_str pa_nil)))
      (pe_one (pe_cmpR (op_eqD hr.units) (pe_callTy call_list_of (by rfl) B.zlist bt_list (pa_cons (pe_slice sl_tup (pv 0) (po_some pe_int) po_none) pa_nil))
        (pe_callB (cr_sortedR (room70 hr)) (by rfl) B.zsorted bt_sorted (pa_cons (pe_slice sl_tup (pv 0) (po_some pe_int) po_none) pa_nil)) (nomark _))))))))))), ?_⟩
  -- the word
  refine ⟨_, rfl, a, hd r, vs, rfl, hs, true, rfl, iteF ?_⟩
  refine ⟨_, rfl, a, _, 0, _, rfl, rfl, hs, at_zero _ _, ?_⟩
  refine ⟨_, rfl, rfl, _, rfl, ?_⟩
  cases r with
  | nothing =>
    cases (show vs = [] from ht)
    refine iteT ?_
    exact ⟨_, rfl, a, _, rfl, .inr hs, rfl, q H (Same.refl H)⟩
  | step n =>
    cases (show vs = [.str n] from ht)
    refine iteNe (fun e => hd_nothing_step e.symm) ⟨_, rfl, rfl, _, rfl, iteT ?_⟩
    refine ⟨_, rfl, a, _, rfl, .inr hs, rfl, _, rfl, iteT ?_⟩
    exact ⟨_, rfl, a, _, 1, _, rfl, rfl, hs, at_first _ _ _, n, rfl, ho, q⟩
  | node b rs =>
    rw [Ok] at ho
    rw [depth] at hdr
    rw [size] at hz
    have hal : AtL K H vs rs := ht
    have hd1 : depthL rs ≤ d := by omega
    refine iteNe (fun e => hd_nothing_word b e.symm) ⟨_, rfl, rfl, _, rfl, ?_⟩
    refine iteNe (fun e => hd_step_word b e.symm) ⟨_, rfl, rfl, _, rfl, ?_⟩
    cases b with
    | false =>
      refine iteT ?_
      refine ⟨_, rfl, 1, rfl, a, _, rfl, hs, one_not _ _, fun p hp => ?_⟩
      rw [cut_one]
      have s1 := same_new (o := .tup vs) hp
      exact ⟨p, false, vs, rs, rfl, SqT.of upd_same, AtL.tk (.of s1) _ _ hal, ho.2.1, ho.1, hd1, hz, fun H' s' => q _ (s1.trans s')⟩
    | true =>
      refine iteNe word_ne ⟨_, rfl, rfl, _, rfl, iteT ?_⟩
      refine ⟨_, rfl, 1, rfl, a, _, rfl, hs, one_not _ _, fun p hp => ?_⟩
      rw [cut_one]
      have s1 := same_new (o := .tup vs) hp
      refine ⟨p, true, vs, rs, rfl, SqT.of upd_same, AtL.tk (.of s1) _ _ hal, ho.2.1, ho.1, hd1, hz, fun H1 s2 => ⟨true, rfl, iteT ?_⟩⟩
      -- list(..) == sorted(..)
      refine ⟨_, rfl, 1, rfl, a, _, rfl, SqT.sm hs (s1.trans s2), one_not _ _, fun p2 hp2 => ?_⟩
      rw [cut_one]
      have s3 := same_new (o := .tup vs) hp2
      refine ⟨p2, vs, rfl, .inr (SqT.of upd_same), fun l hl => ?_⟩
      have s4 := same_new (o := .lst vs) hl
      refine ⟨_, rfl, 1, rfl, a, _, rfl, SqT.sm hs (s1.trans (s2.trans (s3.trans s4))), one_not _ _, fun p3 hp3 => ?_⟩
      rw [cut_one]
      have s5 := same_new (o := .tup vs) hp3
      have hal5 := AtL.tk (.of (s1.trans (s2.trans (s3.trans (s4.trans s5))))) _ _ hal
      refine ⟨p3, vs, rs, rfl, .inr (SqT.of upd_same), hal5, fun r hr' => ⟨(okL_iff.mp ho.2.1 r hr').1, ?_⟩, fun p4 ys hp4 hys => ?_⟩
      · have := depthL_le hr'
        omega
      have s6 := same_new (o := .lst ys) hp4
      rw [ho.2.2 rfl] at hys
      refine ⟨.list (encL rs), .list (encL rs), .lst (SqL.of ?_) (of_atL (AtL.tk (.of s6) _ _ hal5)), .lst (SqL.of upd_same) (of_atL hys), shaped_list ho.2.1 (by omega), shaped_list ho.2.1 (by omega), ?_⟩
      · exact s6 _ _ (s5 _ _ upd_same)
      · have e : PyData.eqv (.list (encL rs)) (.list (encL rs)) = true := by
          simp only [PyData.eqv]
          exact encL_eqv rs
        rw [e]
        exact q _ (s1.trans (s2.trans (s3.trans (s4.trans (s5.trans s6)))))
/-- is_run and are_parts, at any depth -/
theorem both_is_run (D1 : Dn K mg "is_run" s_is_run ["thing"] f fd) (D2 : Dn K mg "are_parts" s_are_parts ["things", "word"] g gd) (B : Blt mg) (C1 : Kn P w K mg base 1 "has_word" (sp_has_word K)) (C2 : Kn P w K mg base 1 "is_name" sp_is_name) :
    ∀ d : Nat, d ≤ 59 → Kn P w K mg base (2 * d + 2) "is_run" (sp_is_run K d)
  | 0, _ => by
    have no : ∀ vs H Q E, ¬ sp_is_run K 0 vs H Q E := fun vs H Q E h => by
      obtain ⟨v, r, _, _, _, h, _⟩ := h
      have := depth_pos r
      omega
    exact D1.kn ⟨fun vs H Q E h => absurd h (no vs H Q E), fun A outer s H args us vs Q E _ _ _ _ h => absurd h (no vs H Q E)⟩
  | d + 1, hd => by
    have ih := both_is_run D1 D2 B C1 C2 d (by omega)
    have h2 := ok_are_parts (k := 2 * d + 2) D2 B ih (Nat.le_refl _)
    exact ok_is_run (k := 2 * d + 3) D1 B C1 C2 h2 (Nat.le_refl _) (by omega) (by omega)

def sp_need_run (K : PySem.W.Frag) : Sp := fun vs H Q _ => ∃ v r, vs = [v] ∧ At K H v r ∧ Ok r ∧ depth r ≤ 40 ∧ size r ≤ 1000 ∧ ∀ H', Same H H' → Q .non H'
theorem ok_need_run {j : Nat} (D : Dn K mg "need_run" s_need_run ["run"] f fd) (C : Kn P w K mg base j "is_run" (sp_is_run K 40)) (hj : j ≤ k) : Kn P w K mg base (k + 1) "need_run" (sp_need_run K) := by
  refine D.kn (D.F.ok sc_need_run (fun vs H Q E h => ?_) (fun cdv A outer s H vs Q E hr h => ?_))
  · obtain ⟨v, r, rfl, _⟩ := h
    rfl
  obtain ⟨v, r, rfl, ha, ho, hdr, hz, q⟩ := h
  refine ⟨_, pss_one (ps_if (pt_not (pt_val (pe_kn C hr hj (by rfl) (pa_cons (pv 0) pa_nil)))) pss_never pss_nil), ?_⟩
  exact ⟨_, rfl, v, r, rfl, ha, ho, hdr, hz, fun H' s' => ⟨true, rfl, iteF (q H' s')⟩⟩
def sp_need_runs (K : PySem.W.Frag) : Sp := fun vs H Q _ => ∃ a xs rs, vs = [.ref a] ∧ SqL K H a xs ∧ AtL K H xs rs ∧ (∀ r ∈ rs, Ok r ∧ depth r ≤ 40 ∧ size r ≤ 1000) ∧ ∀ H', Same H H' → Q .non H'
theorem ok_need_runs {j i : Nat} (D : Dn K mg "need_runs" s_need_runs ["runs"] f fd) (B : Blt mg) (C : Kn P w K mg base j "is_run" (sp_is_run K 40)) (C0 : Kn P w K mg base i "is_list" (sp_is_list K)) (hj : j ≤ k) (hi : i ≤ k) : Kn P w K mg base (k + 1) "need_runs" (sp_need_runs K) := by
  refine D.kn (D.F.ok sc_need_runs (fun vs H Q E h => ?_) (fun cdv A outer s H vs Q E hr h => ?_))
  · obtain ⟨a, xs, rs, rfl, _⟩ := h
    rfl
  obtain ⟨a, xs, rs, rfl, hs, ha, ho, q⟩ := h
  refine ⟨_, pss_cons (ps_if (pt_not (pt_val (pe_kn C0 hr hi (by rfl) (pa_cons (pv 0) pa_nil)))) pss_never pss_nil)
    (pss_one (ps_for PassesOwn.never rfl (pi_enum (by rfl) B.zenumerate (pa_cons (pv 0) pa_nil)) (pg_tup rfl (pgs_cons (pg_name (i := 1) sc_need_runs.nd rfl (Or.inl rfl)) (pgs_cons (pg_name (i := 2) sc_need_runs.nd rfl (Or.inl rfl)) pgs_nil)))
      (pss_one (ps_if (pt_not (pt_val (pe_kn C hr hj (by rfl) (pa_cons (pv 2) pa_nil)))) pss_never pss_nil)))), ?_⟩
  refine ⟨_, rfl, a, xs, rfl, .inl hs, fun H1 s1 => ⟨true, rfl, iteF ?_⟩⟩
  refine ⟨_, rfl, a, xs, rfl, s1.seq hs, ?_⟩
  refine for_it walk_enum (fun i σ H2 => ∃ y1 y2, σ = [some (.ref a), y1, y2] ∧ Same H H2) ⟨none, none, rfl, s1⟩ (fun i σ H2 _ ⟨_, _, _, s⟩ => s.seq hs) ?_ (fun σ H2 ⟨_, _, _, s⟩ => q H2 s)
  rintro i x σ H2 H3 hi2 ⟨y1, y2, rfl, s2⟩ ⟨T, n, v, rfl, hT, rfl, e1, e2⟩
  have s3 := same_new (o := .tup [n, v]) hT
  obtain ⟨r, hr', hxr⟩ := paired_get ha e2
  obtain ⟨o1, o2, o3⟩ := ho r (List.mem_of_getElem? hr')
  refine ⟨T, _, rfl, SqT.of upd_same, rfl, n, [v], rfl, v, [], rfl, rfl, ?_⟩
  exact ⟨v, rfl, v, r, rfl, At.tk (.of (s2.trans s3)) r v hxr, o1, o2, o3, fun H4 s4 => ⟨true, rfl, iteF ⟨_, _, rfl, s2.trans (s3.trans s4)⟩⟩⟩
end
end Fk

set_option Elab.async false
set_option linter.all false
set_option maxRecDepth 100000
/-! joined. -/
namespace Fk
open PySem PySem.Spec PyProof.Rows L2

abbrev s_joined : Stmt := topS 18
theorem sc_joined : FnScope ["word", "parts", "found", "part"] ["word", "parts"] (defScope s_joined) := ⟨rfl, rfl, rfl, by decide +kernel, rfl, by decide +kernel, by decide +kernel⟩

theorem parts_depth {b : Bool} : ∀ {r p : R}, p ∈ parts b r → depth p ≤ depth r
  | .nothing, p, h => by simp [parts] at h
  | .step n, p, h => by
    simp [parts] at h
    rw [h]
    exact Nat.le_refl _
  | .node c rs, p, h => by
    rw [parts_node] at h
    split at h
    · have := depthL_le h
      rw [depth]
      omega
    · rw [List.mem_singleton.mp h]
      exact Nat.le_refl _
theorem parts_len {b : Bool} : ∀ {r : R}, Ok r → (parts b r).length ≤ size r
  | .nothing, _ => by simp [parts]
  | .step n, _ => by simp [parts, size]
  | .node c rs, h => by
    rw [parts_node]
    have h' := h
    rw [Ok] at h
    rw [size]
    have h1 := sizeL_ge h.2.1
    split
    · exact h1
    · rw [List.length_singleton]
      have := h.1
      omega
theorem flat_len {b : Bool} : ∀ {rs : List R}, (∀ r ∈ rs, Ok r) → (rs.flatMap (parts b)).length ≤ sizeL rs
  | [], _ => by simp [sizeL]
  | r :: rs, h => by
    have h1 := parts_len (b := b) (h r List.mem_cons_self)
    have h2 := flat_len (b := b) (rs := rs) fun x hx => h x (List.mem_cons_of_mem _ hx)
    rw [List.flatMap_cons, List.length_append, sizeL]
    omega
theorem take_snoc {α : Type} {xs : List α} {i : Nat} {x : α} (h : xs[i]? = some x) : xs.take (i + 1) = xs.take i ++ [x] := by
  rw [List.take_add_one, h]
  rfl
theorem sizeL_take (rs : List R) (i : Nat) : sizeL (rs.take i) ≤ sizeL rs := by
  have e : sizeL rs = sizeL (rs.take i) + sizeL (rs.drop i) := by rw [← sizeL_append, List.take_append_drop]
  omega

section
variable {P : Program} {w : World} {K : PySem.W.Frag} {mg : Str → Option Value} {base : Heap} {f g : Addr} {fd gd : FuncData} {k : Nat}
/-- NOTHING stands behind the top as the run without steps -/
def Ntg (K : PySem.W.Frag) (mg : Str → Option Value) : Prop := ∃ a, mg "NOTHING" = some (.ref a) ∧ ∀ H, SqT K H a [.str (Str.ofString "nothing")]
def sp_joined (K : PySem.W.Frag) : Sp := fun vs H Q _ => ∃ b a xs rs, vs = [.str (word b), .ref a] ∧ SqL K H a xs ∧ AtL K H xs rs ∧ (∀ r ∈ rs, Ok r ∧ depth r ≤ 40) ∧ sizeL rs ≤ 1000 ∧ rs.length ≤ 1000 ∧ ∀ v H', Same H H' → At K H' v (joined b rs) → Q v H'
theorem eq_word {b : Bool} {r : R} : decide (V.str (hd r) = V.str (word b)) = (match r with | .node c _ => decide (c = b) | _ => false) := by
  cases r with
  | nothing => exact dec_ne (hd_nothing_word b)
  | step n => exact dec_ne (hd_step_word b)
  | node c rs =>
    show decide (V.str (word c) = V.str (word b)) = decide (c = b)
    exact decide_eq_decide.mpr ⟨fun e => word_inj c b (congrArg (fun x : Str => x.cps.toList) (V.str.inj e)), fun e => by rw [e]⟩
theorem kinds (b : Bool) (r : R) : (∃ rs, r = .node b rs) ∨ r = .nothing ∨ (parts b r = [r] ∧ r ≠ .nothing ∧ decide (V.str (hd r) = V.str (word b)) = false) := by
  cases r with
  | nothing => exact .inr (.inl rfl)
  | step n => exact .inr (.inr ⟨rfl, (fun e => by cases e), dec_ne (hd_step_word b)⟩)
  | node c rs =>
    by_cases h : c = b
    · subst h
      exact .inl ⟨rs, rfl⟩
    · refine .inr (.inr ⟨by rw [parts_node, if_neg h], (fun e => by cases e), ?_⟩)
      rw [eq_word]
      exact decide_eq_false h
theorem ok_joined (D : Dn K mg "joined" s_joined ["word", "parts"] f fd) (B : Blt mg) (N : Ntg K mg) : Kn P w K mg base (k + 1) "joined" (sp_joined K) := by
  refine D.kn (D.F.ok sc_joined (fun vs H Q E h => ?_) (fun cdv A outer s H vs Q E hr h => ?_))
  · obtain ⟨b, a, xs, rs, rfl, _⟩ := h
    rfl
  obtain ⟨b, a, xs, rs, rfl, hs, ha, ho, hz, hln, q⟩ := h
  obtain ⟨an, gn, hn⟩ := N
  have hl := ha.length
  have at0 : ∀ H, At K H (.ref an) .nothing := fun H => at_iff.mpr ⟨an, [], rfl, hn H, rfl⟩
  refine ⟨_, pss_cons (ps_set (i := 2) sc_joined.nd rfl (Or.inl rfl) (pe_lst pa_nil))
    (pss_cons (ps_for PassesOwn.never rfl (pi_list (pv 1)) (pg_name (i := 3) sc_joined.nd rfl (Or.inl rfl))
      (pss_one (ps_if (pt_cmpR op_eq (pe_ix ix_tup (pv 3) pe_int (fun _ _ => rfl)) (pv 0) (nomark _))
        (pss_one (ps_expr (pe_bm PySem.F.plainAttrs_list PySem.F.slot_list_extend PySem.F.type_list_extend mt_ext (pv 2) (pa_cons (pe_slice sl_tup (pv 3) (po_some pe_int) po_none) pa_nil))))
        (pss_one (ps_if (pt_cmpR (op_neD hr.units) (pv 3) (pe_glob (v := .ref an) (by rfl) gn rfl) (nomark _))
          (pss_one (ps_expr (pe_bm PySem.F.plainAttrs_list PySem.F.slot_list_append PySem.F.type_list_append mt_append (pv 2) (pa_cons (pv 3) pa_nil)))) pss_nil)))))
    (pss_cons (ps_if (pt_cmpR op_lt (pe_callB call_len_seq (by rfl) B.zlen bt_len (pa_cons (pv 2) pa_nil)) pe_int (nomark _))
      (pss_one (ps_ret (pe_ifExp (pt_cmpR op_eq (pe_callB call_len_seq (by rfl) B.zlen bt_len (pa_cons (pv 2) pa_nil)) pe_int (nomark _)) (pe_ix ix_list (pv 2) pe_int (fun _ _ => rfl)) (pe_glob (v := .ref an) (by rfl) gn rfl)))) pss_nil)
    (pss_one (ps_ret (pe_tup (pa_cons (pv 0) (StX.pa_star (pe_ifExp (pt_cmpR op_eq (pv 0) pe_str (nomark _)) (pe_callB (cr_sortedR (room70 hr)) (by rfl) B.zsorted bt_sorted (pa_cons (pv 2) pa_nil)) (pv 2)) pa_nil))))))), ?_⟩
  refine ⟨Nat.zero_le _, fun F hF => ?_⟩
  have s1 := same_new (o := .lst []) hF
  refine ⟨_, rfl, a, rfl, ⟨xs, s1.seq hs⟩, ?_⟩
  refine for_it walk_list (fun i σ H2 => ∃ y acc, σ = [some (.str (word b)), some (.ref a), some (.ref F), y] ∧ Same H H2 ∧ H2 F = some (.lst acc) ∧ AtL K H2 acc ((rs.take i).flatMap (parts b)))
    ⟨none, [], rfl, s1, upd_same, .nil⟩ (fun i σ H2 _ ⟨_, _, _, s, _⟩ => s.seq hs) ?_ ?_
  · rintro i x σ H2 H3 hi ⟨y, acc, rfl, s2, hF2, hacc⟩ ⟨rfl, hx⟩
    obtain ⟨r, hr', hxr⟩ := paired_get ha hx
    have hxr2 := At.tk (.of s2) r x hxr
    obtain ⟨o1, o2⟩ := ho r (List.mem_of_getElem? hr')
    have ek := take_snoc hr'
    have hlen : acc.length ≤ sizeL rs := by
      rw [hacc.length]
      exact Nat.le_trans (flat_len fun z hz => (ho z (List.mem_of_mem_take hz)).1) (sizeL_take rs i)
    have hsz := sizeL_le (List.mem_of_getElem? hr')
    obtain ⟨p, vs, rfl, hp, ht⟩ := at_iff.mp hxr2
    refine ⟨_, rfl, p, _, 0, _, rfl, rfl, hp, at_zero _ _, .str (word b), rfl, rfl, _, rfl, ?_⟩
    rcases kinds b r with ⟨rs', rfl⟩ | rfl | ⟨k1, k2, k3⟩
    · rw [show decide (V.str (hd (.node b rs')) = V.str (word b)) = true from decide_eq_true rfl]
      refine iteT ?_
      refine ⟨_, rfl, .inl ⟨rfl, _, SqL.of hF2⟩, _, rfl, 1, rfl, p, _, rfl, hp, one_not _ _, fun p2 hp2 => ?_⟩
      rw [cut_one]
      have s3 := same_new (o := .tup vs) hp2
      have hal : AtL K H3 vs rs' := ht
      have hvl := hal.length
      have h2 : rs'.length ≤ sizeL rs' := by
        rw [Ok] at o1
        exact sizeL_ge o1.2.1
      rw [size] at hsz
      refine ⟨F, p2, acc, vs, rfl, rfl, s3 _ _ hF2, .inr (SqT.of upd_same), small (by show acc.length + vs.length ≤ _; omega), ?_⟩
      have tk4 := (TK.of s3).trans (tk_lst (o := .lst (acc ++ vs)) (s3 _ _ hF2))
      refine ⟨_, acc ++ vs, rfl, same_mut (s2.trans s3) hF, upd_same, ?_⟩
      rw [ek, List.flatMap_append]
      refine paired_append (AtL.tk tk4 _ _ hacc) ?_
      show AtL K _ _ (parts b (.node b rs') ++ [])
      rw [List.append_nil, parts_node, if_pos rfl]
      exact AtL.tk tk4 _ _ hal
    · rw [show decide (V.str (hd .nothing) = V.str (word b)) = false from dec_ne (hd_nothing_word b)]
      refine iteF ?_
      refine ⟨_, rfl, enc .nothing, enc .nothing, hxr2, at0 _, shaped_run o1 (by omega), shaped_run o1 (by omega), ?_⟩
      rw [enc_eqv]
      refine ⟨false, rfl, iteF ?_⟩
      refine ⟨_, acc, rfl, s2, hF2, ?_⟩
      rw [ek, List.flatMap_append]
      show AtL K _ _ (_ ++ ([] ++ []))
      rw [List.append_nil, List.append_nil]
      exact hacc
    · rw [k3]
      refine iteF ?_
      refine ⟨_, rfl, enc r, enc .nothing, hxr2, at0 _, shaped_run o1 (by omega), shaped_run (by rw [Ok]; trivial) (by rw [depth]; omega), ?_⟩
      have z : PyData.eqv (enc r) (enc .nothing) = false := by
        cases z : PyData.eqv (enc r) (enc .nothing) with
        | false => rfl
        | true => exact absurd (eqv_run _ _ z) k2
      rw [z]
      refine ⟨true, rfl, iteT ?_⟩
      refine ⟨_, rfl, .inl ⟨rfl, _, SqL.of hF2⟩, _, rfl, F, acc, .ref p, rfl, rfl, hF2, small_lt (by omega), ?_⟩
      have tk4 := tk_lst (o := .lst (acc ++ [.ref p])) hF2
      refine ⟨_, acc ++ [.ref p], rfl, same_mut s2 hF, upd_same, ?_⟩
      rw [ek, List.flatMap_append]
      refine paired_append (AtL.tk tk4 _ _ hacc) ?_
      show AtL K _ _ (parts b r ++ [])
      rw [List.append_nil, k1]
      exact .cons (At.tk tk4 _ _ hxr2) .nil
  · -- behind the loop
    rintro σ H2 ⟨y, acc, rfl, s2, hF2, hacc⟩
    rw [hl, List.take_length] at hacc
    have hok : ∀ r ∈ rs.flatMap (parts b), Ok r ∧ depth r ≤ 60 := fun r hr' => by
      obtain ⟨r0, h1, h2⟩ := List.mem_flatMap.mp hr'
      have := parts_depth h2
      have := (ho r0 h1).2
      exact ⟨(parts_ok (ho r0 h1).1 r h2).1, by omega⟩
    have hlen : acc.length ≤ sizeL rs := by
      rw [hacc.length]
      exact flat_len fun z hz => (ho z hz).1
    refine ⟨_, rfl, F, acc, rfl, .inl (SqL.of hF2), _, _, rfl, rfl, _, rfl, ?_⟩
    generalize hfl : rs.flatMap (parts b) = fl at hacc hok
    have hj : joined b rs = finish b (ordered b fl) := by
      unfold joined
      rw [hfl]
    have lf := hacc.length
    match acc, fl, hacc with
    | [], _, hacc =>
      cases hacc
      refine iteT ⟨_, rfl, F, _, rfl, .inl (SqL.of hF2), rfl, _, rfl, iteF ?_⟩
      refine q _ H2 s2 ?_
      rw [hj]
      have e : ordered b ([] : List R) = [] := by
        unfold ordered sortR
        split <;> simp
      rw [e]
      exact at0 H2
    | [v], _, .cons h1 .nil =>
      refine iteT ⟨_, rfl, F, _, rfl, .inl (SqL.of hF2), rfl, _, rfl, iteT ?_⟩
      refine ⟨_, rfl, F, _, 0, v, rfl, rfl, SqL.of hF2, at_zero _ _, q v H2 s2 ?_⟩
      rw [hj]
      have e : ∀ r : R, ordered b [r] = [r] := fun r => by
        unfold ordered sortR
        split <;> simp
      rw [e]
      exact h1
    | v1 :: v2 :: vr, r1 :: r2 :: rr, hacc =>
      have hc : decide ((((v1 :: v2 :: vr).length : Nat) : Int) < 2) = false := decide_eq_false (by rw [List.length_cons, List.length_cons]; omega)
      rw [hc]
      refine iteF ?_
      have fin : ∀ H3 (ys : List V) (l : Addr), Same H2 H3 → SqL K H3 l ys → AtL K H3 ys (ordered b (r1 :: r2 :: rr)) → ∃ p xs, V.ref l = V.ref p ∧ (SqT K H3 p xs ∨ SqL K H3 p xs) ∧ (xs ++ ([] : List V)).length + 1 ≤ sizeLine ∧ ∀ t, H3 t = none → Q (.ref t) (upd H3 t (.tup (.str (word b) :: (xs ++ [])))) := by
        intro H3 ys l s3 hl3 hys
        have yl := hys.length
        rw [(ordered_perm b (r1 :: r2 :: rr)).length_eq] at yl
        refine ⟨l, ys, rfl, .inr hl3, small (by rw [List.append_nil]; omega), fun t ht => ?_⟩
        have s4 := same_new (o := .tup (.str (word b) :: (ys ++ []))) ht
        refine q _ _ (s2.trans (s3.trans s4)) ?_
        rw [hj, finish_many (by rw [(ordered_perm b _).length_eq]; simp)]
        refine at_iff.mpr ⟨t, ys ++ [], rfl, SqT.of upd_same, ?_⟩
        show AtL K _ (ys ++ []) _
        have z := AtL.tk (.of s4) _ _ hys
        rw [List.append_nil] at z ⊢
        exact z
      refine ⟨_, rfl, _, rfl, rfl, _, rfl, ?_⟩
      cases b with
      | true =>
        refine iteT ⟨_, rfl, F, _, _, rfl, .inl (SqL.of hF2), hacc, hok, fun l ys hl3 hys => ?_⟩
        exact fin _ ys l (same_new hl3) (SqL.of upd_same) hys
      | false =>
        refine iteNe (fun e => word_ne e.symm) ⟨_, rfl, ?_⟩
        exact fin H2 _ F (Same.refl H2) (SqL.of hF2) hacc
end
end Fk

set_option Elab.async false
set_option linter.all false
set_option maxRecDepth 100000
/-! size_of, size, names_along, steps, behind, beside, turned_of, turned. -/
namespace Fk
open PySem PySem.Spec PyProof.Rows L2

abbrev s_size_of : Stmt := topS 19
abbrev s_size : Stmt := topS 20
abbrev s_names_along : Stmt := topS 21
abbrev s_steps : Stmt := topS 22
abbrev s_behind : Stmt := topS 23
abbrev s_beside : Stmt := topS 24
abbrev s_turned_of : Stmt := topS 25
abbrev s_turned : Stmt := topS 26
theorem sc_size_of : FnScope ["run", "part"] ["run"] (defScope s_size_of) := ⟨rfl, rfl, rfl, by decide +kernel, rfl, by decide +kernel, by decide +kernel⟩
theorem sc_size : FnScope ["run"] ["run"] (defScope s_size) := ⟨rfl, rfl, rfl, by decide +kernel, rfl, by decide +kernel, by decide +kernel⟩
theorem sc_names_along : FnScope ["run", "part", "name"] ["run"] (defScope s_names_along) := ⟨rfl, rfl, rfl, by decide +kernel, rfl, by decide +kernel, by decide +kernel⟩
theorem sc_steps : FnScope ["run", "found", "name"] ["run"] (defScope s_steps) := ⟨rfl, rfl, rfl, by decide +kernel, rfl, by decide +kernel, by decide +kernel⟩
theorem sc_behind : FnScope ["runs"] ["runs"] (defScope s_behind) := ⟨rfl, rfl, rfl, by decide +kernel, rfl, by decide +kernel, by decide +kernel⟩
theorem sc_beside : FnScope ["runs"] ["runs"] (defScope s_beside) := ⟨rfl, rfl, rfl, by decide +kernel, rfl, by decide +kernel, by decide +kernel⟩
theorem sc_turned_of : FnScope ["run", "part"] ["run"] (defScope s_turned_of) := ⟨rfl, rfl, rfl, by decide +kernel, rfl, by decide +kernel, by decide +kernel⟩
theorem sc_turned : FnScope ["run"] ["run"] (defScope s_turned) := ⟨rfl, rfl, rfl, by decide +kernel, rfl, by decide +kernel, by decide +kernel⟩

section
variable {P : Program} {w : World} {K : PySem.W.Frag} {mg : Str → Option Value} {base : Heap} {f g : Addr} {fd gd : FuncData} {k : Nat}
def sp_size_of (K : PySem.W.Frag) (d : Nat) : Sp := fun vs H Q _ => ∃ v r, vs = [v] ∧ At K H v r ∧ Ok r ∧ depth r ≤ d ∧ size r ≤ 1000 ∧ ∀ H', Same H H' → Q (.int (size r : Nat)) H'
/-- the parts behind a run's word -/
def rest : R → List R
  | .nothing => []
  | .step _ => []
  | .node _ rs => rs
theorem step_or (r : R) : (∃ n, r = .step n) ∨ (hd r ≠ Str.ofString "step" ∧ ∀ (vs : List V) (K : PySem.W.Frag) (H : Hp), Tl K H r vs → Ok r → ∃ rs, AtL K H vs rs ∧ (∀ p ∈ rs, Ok p ∧ depth p + 1 ≤ depth r) ∧ size r = sizeL rs ∧ rs.length ≤ size r ∧ names r = namesL rs) := by
  cases r with
  | step n => exact .inl ⟨n, rfl⟩
  | nothing =>
    refine .inr ⟨hd_nothing_step, fun vs K H h _ => ⟨[], ?_, fun p h => by simp at h, rfl, Nat.zero_le _, rfl⟩⟩
    cases (show vs = [] from h)
    exact .nil
  | node b rs =>
    refine .inr ⟨fun e => hd_step_word b e.symm, fun vs K H h ho => ⟨rs, h, fun p hp => ?_, by rw [size], ?_, by rw [names]⟩⟩
    · rw [Ok] at ho
      have := depthL_le hp
      rw [depth]
      exact ⟨(okL_iff.mp ho.2.1 p hp).1, by omega⟩
    · rw [Ok] at ho
      rw [size]
      exact sizeL_ge ho.2.1
theorem sum_sizes : ∀ rs : List R, ((rs.map fun r => ((size r : Nat) : Int)).sum) = ((sizeL rs : Nat) : Int)
  | [] => rfl
  | r :: rs => by
    rw [List.map_cons, List.sum_cons, sum_sizes rs, sizeL]
    omega
theorem map_snoc {α β : Type} (f : α → β) {xs : List α} {i : Nat} {x : α} (h : xs[i]? = some x) : (xs.take (i + 1)).map f = (xs.take i).map f ++ [f x] := by
  rw [take_snoc h, List.map_append]
  rfl
theorem ok_size_of {d j : Nat} (D : Dn K mg "size_of" s_size_of ["run"] f fd) (B : Blt mg) (C : Kn P w K mg base j "size_of" (sp_size_of K d)) (hj : j ≤ k) : Kn P w K mg base (k + 1) "size_of" (sp_size_of K (d + 1)) := by
  refine D.kn (D.F.ok sc_size_of (fun vs H Q E h => ?_) (fun cdv A outer s H vs Q E hr h => ?_))
  · obtain ⟨v, r, rfl, _⟩ := h
    rfl
  obtain ⟨v, r, rfl, ha, ho, hd', hz, q⟩ := h
  obtain ⟨a, vs, rfl, hs, ht⟩ := at_iff.mp ha
  refine ⟨_, pss_cons (ps_if (pt_cmpR op_eq (pe_ix ix_tup (pv 0) pe_int (fun _ _ => rfl)) pe_str (nomark _)) (pss_one (ps_ret pe_int)) pss_nil)
    (pss_one (ps_ret (pe_callB (cr_sum rfl) (by rfl) B.zsum bt_sum (pa_cons (pe_lc (own := [("part", 1)]) (g := gName 1) (tt := tYes) rfl sc_size_of.nd (pi_tup (pe_slice sl_tup (pv 0) (po_some pe_int) po_none)) (blkOk_by (N := ["run", "part"]) (sc := defScope s_size_of) (by decide +kernel))
      (fun _ _ _ _ _ => pg_name (i := 1) sc_size_of.nd rfl (Or.inl rfl)) (fun _ _ _ _ _ => pts_nil) (fun _ _ _ _ _ => pe_kn C hr hj (by rfl) (pa_cons (pv 1) pa_nil))) pa_nil)))), ?_⟩
  refine ⟨_, rfl, a, _, 0, _, rfl, rfl, hs, at_zero _ _, rfl, _, rfl, ?_⟩
  rcases step_or r with ⟨n, rfl⟩ | ⟨hne, hrest⟩
  · exact iteT (q H (Same.refl H))
  obtain ⟨rs, hal, hok, hsz, hln, _⟩ := hrest vs K H ht ho
  have hl := hal.length
  refine iteNe hne ⟨_, rfl, 1, rfl, a, _, rfl, hs, one_not _ _, fun p hp => ?_⟩
  rw [cut_one]
  have s1 := same_new (o := .tup vs) hp
  refine ⟨p, rfl, ⟨vs, SqT.of upd_same⟩, fun D2 hD2 => ?_⟩
  refine lcx (walk_tup (xs := vs)) hD2 (by omega) (fun i acc _ => acc = (rs.take i).map fun r => V.int (size r : Nat)) rfl (fun H' s' => SqT.sm (SqT.of upd_same) s') ?_ ?_
  · rintro i acc x H0 H' Kt Kf hi s0 hF hlen rfl fin _ ⟨rfl, hx⟩
    obtain ⟨r', hr', hxr⟩ := paired_get hal hx
    have hm := List.mem_of_getElem? hr'
    obtain ⟨o1, o2⟩ := hok r' hm
    have sm := sizeL_le hm
    refine ⟨rfl, yes_t ⟨x, rfl, x, r', rfl, At.tk (.of (s1.trans s0)) r' x hxr, o1, by omega, by omega, fun H4 s4 => fin _ H4 s4 (map_snoc (fun r => V.int (size r : Nat)) hr').symm⟩⟩
  · rintro acc H2 s2 hD _ rfl
    refine ⟨D2, rs.map (fun r => ((size r : Nat) : Int)), rfl, SqL.of ?_, ?_⟩
    · rw [hD, hl, List.take_length, List.map_map]
      rfl
    · rw [sum_sizes, ← hsz]
      exact q H2 (s1.trans s2)
theorem Kn.zero {x : Str} {sp : Sp} {st : Stmt} {ps : List Str} (D : Dn K mg x st ps f fd) (no : ∀ vs H Q E, ¬ sp vs H Q E) : Kn P w K mg base 0 x sp :=
  D.kn ⟨fun vs H Q E h => absurd h (no vs H Q E), fun A outer s H args us vs Q E _ _ _ _ h => absurd h (no vs H Q E)⟩
theorem no_zero {r : R} (h : depth r ≤ 0) : False := by
  have := depth_pos r
  omega
theorem all_size_of (D : Dn K mg "size_of" s_size_of ["run"] f fd) (B : Blt mg) : ∀ d : Nat, Kn P w K mg base d "size_of" (sp_size_of K d)
  | 0 => Kn.zero D fun vs H Q E ⟨v, r, _, _, _, h, _⟩ => no_zero h
  | d + 1 => ok_size_of D B (all_size_of D B d) (Nat.le_refl _)
def sp_size (K : PySem.W.Frag) : Sp := fun vs H Q _ => ∃ v r, vs = [v] ∧ At K H v r ∧ Ok r ∧ depth r ≤ 40 ∧ size r ≤ 1000 ∧ ∀ H', Same H H' → Q (.int (size r : Nat)) H'
theorem ok_size {i j : Nat} (D : Dn K mg "size" s_size ["run"] f fd) (C0 : Kn P w K mg base i "need_run" (sp_need_run K)) (C : Kn P w K mg base j "size_of" (sp_size_of K 40)) (hi : i ≤ k) (hj : j ≤ k) : Kn P w K mg base (k + 1) "size" (sp_size K) := by
  refine D.kn (D.F.ok sc_size (fun vs H Q E h => ?_) (fun cdv A outer s H vs Q E hr h => ?_))
  · obtain ⟨v, r, rfl, _⟩ := h
    rfl
  obtain ⟨v, r, rfl, ha, ho, hd', hz, q⟩ := h
  refine ⟨_, pss_cons (ps_expr (pe_kn C0 hr hi (by rfl) (pa_cons (pv 0) pa_nil))) (pss_one (ps_ret (pe_kn C hr hj (by rfl) (pa_cons (pv 0) pa_nil)))), ?_⟩
  exact ⟨_, rfl, v, r, rfl, ha, ho, hd', hz, fun H1 s1 => ⟨_, rfl, v, r, rfl, At.tk (.of s1) r v ha, ho, hd', hz, fun H2 s2 => q H2 (s1.trans s2)⟩⟩

def sp_names (K : PySem.W.Frag) (d : Nat) : Sp := fun vs H Q _ => ∃ v r, vs = [v] ∧ At K H v r ∧ Ok r ∧ depth r ≤ d ∧ size r ≤ 1000 ∧ ∀ p H', Same H H' → H p = none → H' p = some (.lst ((names r).map V.str)) → Q (.ref p) H'
theorem namesL_take (rs : List R) (i : Nat) : (namesL (rs.take i)).length ≤ sizeL rs := by
  rw [namesL_len]
  exact sizeL_take rs i
theorem namesL_snoc {rs : List R} {i : Nat} {r : R} (h : rs[i]? = some r) : namesL (rs.take (i + 1)) = namesL (rs.take i) ++ names r := by
  rw [take_snoc h, namesL_append, namesL, namesL, List.append_nil]
theorem ok_names {d j : Nat} (D : Dn K mg "names_along" s_names_along ["run"] f fd) (B : Blt mg) (C : Kn P w K mg base j "names_along" (sp_names K d)) (hj : j ≤ k) : Kn P w K mg base (k + 1) "names_along" (sp_names K (d + 1)) := by
  refine D.kn (D.F.ok sc_names_along (fun vs H Q E h => ?_) (fun cdv A outer s H vs Q E hr h => ?_))
  · obtain ⟨v, r, rfl, _⟩ := h
    rfl
  obtain ⟨v, r, rfl, ha, ho, hd', hz, q⟩ := h
  obtain ⟨a, vs, rfl, hs, ht⟩ := at_iff.mp ha
  refine ⟨_, pss_cons (ps_if (pt_cmpR op_eq (pe_ix ix_tup (pv 0) pe_int (fun _ _ => rfl)) pe_str (nomark _)) (pss_one (ps_ret (pe_lst (pa_cons (pe_ix ix_tup (pv 0) pe_int (fun _ _ => rfl)) pa_nil)))) pss_nil)
    (pss_one (ps_ret (pe_lc2 (own := [("part", 1), ("name", 2)]) (vs1 := [2]) (wi1 := iList K (tCall (sp_names K d) [] E0 (tCons (tVar 1) tNil))) (g := gName 1) (tt := tYes) (g1 := gName 2) (tt1 := tYes) rfl sc_names_along.nd (pi_tup (pe_slice sl_tup (pv 0) (po_some pe_int) po_none)) (blkOk_by (N := ["run", "part", "name"]) (sc := defScope s_names_along) (by decide +kernel)) (by decide)
      (fun _ _ _ _ _ => pg_name (i := 1) sc_names_along.nd rfl (Or.inl rfl)) (fun _ _ _ _ _ => pts_nil) (fun _ _ _ _ _ => pi_list (pe_kn C hr hj (by rfl) (pa_cons (pv 1) pa_nil)))
      (fun _ _ _ _ _ => pg_name (i := 2) sc_names_along.nd rfl (Or.inl rfl)) (fun _ _ _ _ _ => pts_nil) (fun _ _ _ _ _ => pv 2)))), ?_⟩
  refine ⟨_, rfl, a, _, 0, _, rfl, rfl, hs, at_zero _ _, rfl, _, rfl, ?_⟩
  rcases step_or r with ⟨n, rfl⟩ | ⟨hne, hrest⟩
  · cases (show vs = [.str n] from ht)
    refine iteT ⟨_, rfl, a, _, 1, _, rfl, rfl, hs, at_first _ _ _, small (show 1 ≤ 100000 by decide), fun l hl => ?_⟩
    exact q l _ (same_new hl) hl (by rw [names]; exact upd_same)
  obtain ⟨rs, hal, hok, hsz, hln, hnm⟩ := hrest vs K H ht ho
  have hl := hal.length
  refine iteNe hne ⟨_, rfl, 1, rfl, a, _, rfl, hs, one_not _ _, fun p hp => ?_⟩
  rw [cut_one]
  have s1 := same_new (o := .tup vs) hp
  refine ⟨p, rfl, ⟨vs, SqT.of upd_same⟩, fun D2 hD2 => ?_⟩
  refine lc_any (walk_tup (xs := vs)) (fun i H2 => Same (upd H p (.tup vs)) H2 ∧ H2 D2 = some (.lst ((namesL (rs.take i)).map V.str))) ⟨same_new hD2, upd_same⟩ (fun i H2 _ ⟨s2, _⟩ => SqT.sm (SqT.of upd_same) s2) ?_ ?_
  · rintro i x H2 H3 hi ⟨s2, hD⟩ ⟨rfl, hx⟩
    obtain ⟨r', hr', hxr⟩ := paired_get hal hx
    have hm := List.mem_of_getElem? hr'
    obtain ⟨o1, o2⟩ := hok r' hm
    have sm := sizeL_le hm
    have ne := namesL_snoc hr'
    have nl := namesL_take rs (i + 1)
    refine ⟨rfl, yes_t ⟨_, rfl, x, r', rfl, At.tk (.of (s1.trans s2)) r' x hxr, o1, by omega, by omega, fun l H4 s4 hln0 hl4 => ?_⟩⟩
    refine ⟨l, rfl, ⟨_, SqL.of hl4⟩, ?_⟩
    refine lc_any (walk_list (xs := (names r').map V.str)) (fun j H5 => Same (upd H p (.tup vs)) H5 ∧ H5 l = some (.lst ((names r').map V.str)) ∧ H5 D2 = some (.lst ((namesL (rs.take i) ++ (names r').take j).map V.str)))
      ⟨s2.trans s4, hl4, by rw [List.take_zero, List.append_nil]; exact s4 _ _ hD⟩ (fun j H5 _ ⟨_, e, _⟩ => SqL.of e) ?_ ?_
    · rintro j y H5 H6 hj' ⟨s5, e5, hD5⟩ ⟨rfl, hy⟩
      rw [List.getElem?_map] at hy
      obtain ⟨n, hn, rfl⟩ := Option.map_eq_some_iff.mp hy
      refine ⟨rfl, yes_t ⟨_, rfl, _, hD5, ?_, ?_⟩⟩
      · rw [List.length_map, List.length_append, List.length_take]
        rw [ne, List.length_append] at nl
        exact small_lt (by omega)
      · have hld : D2 ≠ l := fun e => by
          rw [e, hln0] at hD
          cases hD
        refine ⟨same_mut s5 hD2, by rw [upd_ne hld.symm]; exact e5, ?_⟩
        rw [upd_same, take_snoc hn, ← List.append_assoc, List.map_append (l₂ := [n])]
        rfl
    · rintro H5 ⟨s5, e5, hD5⟩
      rw [List.length_map, List.take_length] at hD5
      exact ⟨s5, by rw [ne]; exact hD5⟩
  · rintro H2 ⟨s2, hD⟩
    rw [hl, List.take_length] at hD
    refine q D2 H2 (s1.trans s2) ?_ (by rw [hnm]; exact hD)
    have : D2 ≠ p := fun e => by
      rw [e, upd_same] at hD2
      cases hD2
    rw [upd_ne this] at hD2
    exact hD2
theorem all_names (D : Dn K mg "names_along" s_names_along ["run"] f fd) (B : Blt mg) : ∀ d : Nat, Kn P w K mg base d "names_along" (sp_names K d)
  | 0 => Kn.zero D fun vs H Q E ⟨v, r, _, _, _, h, _⟩ => no_zero h
  | d + 1 => ok_names D B (all_names D B d) (Nat.le_refl _)
end
end Fk

set_option Elab.async false
set_option linter.all false
set_option maxRecDepth 100000
/-! steps, behind, beside, turned_of, turned. -/
namespace Fk
open PySem PySem.Spec PyProof.Rows L2
section
variable {P : Program} {w : World} {K : PySem.W.Frag} {mg : Str → Option Value} {base : Heap} {f g : Addr} {fd gd : FuncData} {k : Nat}
theorem room1 {k : Nat} {A : Around} (hr : Room k A) : A.units + 1 < cLine := by
  have := hr.un
  omega
theorem none_old {H H' : Hp} {p : Addr} (e : Same H H') (h : H' p = none) : H p = none := by
  cases z : H p with
  | none => rfl
  | some o =>
    rw [e p o z] at h
    cases h
theorem paired_reverse {α β : Type} {F : α → β → Prop} {xs : List α} {ys : List β} (h : Paired F xs ys) : Paired F xs.reverse ys.reverse := by
  induction h with
  | nil => exact .nil
  | cons h _ ih =>
    rw [List.reverse_cons, List.reverse_cons]
    exact paired_append ih (.cons h .nil)
def sp_steps (K : PySem.W.Frag) : Sp := fun vs H Q _ => ∃ v r, vs = [v] ∧ At K H v r ∧ Ok r ∧ depth r ≤ 40 ∧ size r < 64 ∧ ∀ p H' kvs, Same H H' → H p = none → H' p = some (.dK kvs) → Tally (names r) kvs → Q (.ref p) H'
theorem ok_steps {i j : Nat} (D : Dn K mg "steps" s_steps ["run"] f fd) (B : Blt mg) (C0 : Kn P w K mg base i "need_run" (sp_need_run K)) (C : Kn P w K mg base j "names_along" (sp_names K 40)) (hi : i ≤ k) (hj : j ≤ k) : Kn P w K mg base (k + 1) "steps" (sp_steps K) := by
  refine D.kn (D.F.ok sc_steps (fun vs H Q E h => ?_) (fun cdv A outer s H vs Q E hr h => ?_))
  · obtain ⟨v, r, rfl, _⟩ := h
    rfl
  obtain ⟨v, r, rfl, ha, ho, hd', hz, q⟩ := h
  refine ⟨_, pss_cons (ps_expr (pe_kn C0 hr hi (by rfl) (pa_cons (pv 0) pa_nil)))
    (pss_cons (ps_set (i := 1) sc_steps.nd rfl (Or.inl rfl) pe_dnewK)
    (pss_cons (ps_for PassesOwn.never rfl (pi_list (pe_callB cr_sortedS (by rfl) B.zsorted bt_sorted (pa_cons (pe_kn C hr hj (by rfl) (pa_cons (pv 0) pa_nil)) pa_nil))) (pg_name (i := 2) sc_steps.nd rfl (Or.inl rfl))
      (pss_one (ps_dput (room1 hr) (pv 1) (pv 2) (pe_op op_add (pe_dget2 (room1 hr) (pv 1) (pv 2) pe_int ⟨by rfl, by rfl, by rfl, by rfl⟩) pe_int) (by rfl))))
    (pss_one (ps_ret (pv 1))))), ?_⟩
  refine ⟨_, rfl, v, r, rfl, ha, ho, hd', by omega, fun H1 s1 => ?_⟩
  intro F hF
  have s2 := same_new (o := .dK []) hF
  have hF1 : H F = none := none_old s1 hF
  refine ⟨_, rfl, v, r, rfl, At.tk (.of (s1.trans s2)) r v ha, ho, hd', by omega, fun l H3 s3 hl0 hl => ?_⟩
  have nl := names_len r
  refine ⟨l, names r, rfl, SqL.of hl, by omega, fun ys p hp hs hp0 => ?_⟩
  have s4 := same_new (o := .lst (ys.map V.str)) hp0
  have hle := hp.length_eq
  have pw := sorted_pw ys hs
  refine ⟨p, rfl, ⟨_, SqL.of upd_same⟩, ?_⟩
  have hFp : F ≠ p := fun e => by
    have := s3 F _ upd_same
    rw [e, hp0] at this
    cases this
  refine for_it (walk_list (xs := ys.map V.str)) (fun i σ H4 => ∃ y kvs, σ = [some v, some (.ref F), y] ∧ Same H H4 ∧ H4 p = some (.lst (ys.map V.str)) ∧ H4 F = some (.dK kvs) ∧ Tally (ys.take i) kvs)
    ⟨none, [], rfl, s1.trans (s2.trans (s3.trans s4)), upd_same, s4 _ _ (s3 _ _ upd_same), by rw [List.take_zero]; exact Tally.nil⟩ (fun i σ H4 _ ⟨_, _, _, _, e, _⟩ => SqL.of e) ?_ ?_
  · rintro i x σ H4 H5 hi' ⟨y, kvs, rfl, s5, e5, eF, T⟩ ⟨rfl, hx⟩
    rw [List.getElem?_map] at hx
    obtain ⟨n, hn, rfl⟩ := Option.map_eq_some_iff.mp hx
    have hin : ∀ m ∈ ys.take i, leS m n := fun m hm => by
      have := List.pairwise_append.mp ((take_snoc hn) ▸ pw.sublist (List.take_sublist (i + 1) ys))
      exact this.2.2 m hm n (List.mem_singleton.mpr rfl)
    obtain ⟨t1, t2⟩ := T.snoc hin
    have tl := T.len
    refine ⟨.ref F, rfl, F, rfl, .inl ⟨_, .inl eF⟩, .str n, rfl, valV kvs (.inr n), .inl ⟨kvs, .inr n, .inl eF, rfl, rfl⟩, ?_⟩
    have ev : (valV kvs (.inr n)).getD (.int 0) = .int ((ys.take i).count n : Nat) := by
      rw [t1]
      by_cases m : n ∈ ys.take i
      · rw [if_pos m]
        rfl
      · rw [if_neg m, List.count_eq_zero_of_not_mem m]
        rfl
    refine ⟨_, _, ev, rfl, .ref F, rfl, .str n, rfl, F, _, rfl, .inl ⟨kvs, .inr n, eF, rfl, ?_, rfl⟩, ?_⟩
    · rw [List.length_take] at tl
      exact small_lt (by omega)
    · refine ⟨_, _, rfl, same_mut s5 hF1, by rw [upd_ne hFp.symm]; exact e5, upd_same, ?_⟩
      rw [take_snoc hn]
      exact t2
  · rintro σ H4 ⟨y, kvs, rfl, s5, e5, eF, T⟩
    rw [List.length_map, List.take_length] at T
    exact ⟨_, rfl, q F H4 kvs s5 hF1 eF (T.perm hp)⟩

def sp_behind (K : PySem.W.Frag) (b : Bool) : Sp := fun vs H Q _ => ∃ a xs rs, vs = [.ref a] ∧ SqL K H a xs ∧ AtL K H xs rs ∧ (∀ r ∈ rs, Ok r ∧ depth r ≤ 40) ∧ sizeL rs ≤ 1000 ∧ rs.length ≤ 1000 ∧ ∀ v H', Same H H' → At K H' v (joined b rs) → Q v H'
theorem ok_behind {i j : Nat} (D : Dn K mg "behind" s_behind ["runs"] f fd) (C0 : Kn P w K mg base i "need_runs" (sp_need_runs K)) (C : Kn P w K mg base j "joined" (sp_joined K)) (hi : i ≤ k) (hj : j ≤ k) : Kn P w K mg base (k + 1) "behind" (sp_behind K false) := by
  refine D.kn (D.F.ok sc_behind (fun vs H Q E h => ?_) (fun cdv A outer s H vs Q E hr h => ?_))
  · obtain ⟨a, xs, rs, rfl, _⟩ := h
    rfl
  obtain ⟨a, xs, rs, rfl, hs, ha, ho, hz, hl, q⟩ := h
  refine ⟨_, pss_cons (ps_expr (pe_kn C0 hr hi (by rfl) (pa_cons (pv 0) pa_nil))) (pss_one (ps_ret (pe_kn C hr hj (by rfl) (pa_cons pe_str (pa_cons (pv 0) pa_nil))))), ?_⟩
  refine ⟨_, rfl, a, xs, rs, rfl, hs, ha, fun r hr' => ⟨(ho r hr').1, (ho r hr').2, Nat.le_trans (sizeL_le hr') hz⟩, fun H1 s1 => ?_⟩
  exact ⟨_, rfl, false, a, xs, rs, rfl, s1.seq hs, AtL.tk (.of s1) _ _ ha, ho, hz, hl, fun v H2 s2 av => q v H2 (s1.trans s2) av⟩
theorem ok_beside {i j : Nat} (D : Dn K mg "beside" s_beside ["runs"] f fd) (C0 : Kn P w K mg base i "need_runs" (sp_need_runs K)) (C : Kn P w K mg base j "joined" (sp_joined K)) (hi : i ≤ k) (hj : j ≤ k) : Kn P w K mg base (k + 1) "beside" (sp_behind K true) := by
  refine D.kn (D.F.ok sc_beside (fun vs H Q E h => ?_) (fun cdv A outer s H vs Q E hr h => ?_))
  · obtain ⟨a, xs, rs, rfl, _⟩ := h
    rfl
  obtain ⟨a, xs, rs, rfl, hs, ha, ho, hz, hl, q⟩ := h
  refine ⟨_, pss_cons (ps_expr (pe_kn C0 hr hi (by rfl) (pa_cons (pv 0) pa_nil))) (pss_one (ps_ret (pe_kn C hr hj (by rfl) (pa_cons pe_str (pa_cons (pv 0) pa_nil))))), ?_⟩
  refine ⟨_, rfl, a, xs, rs, rfl, hs, ha, fun r hr' => ⟨(ho r hr').1, (ho r hr').2, Nat.le_trans (sizeL_le hr') hz⟩, fun H1 s1 => ?_⟩
  exact ⟨_, rfl, true, a, xs, rs, rfl, s1.seq hs, AtL.tk (.of s1) _ _ ha, ho, hz, hl, fun v H2 s2 av => q v H2 (s1.trans s2) av⟩

theorem in_word (b : Bool) : inV (.str (word b)) [.str (Str.ofString "nothing"), .str (Str.ofString "step")] = false := by
  cases b <;> decide +kernel
theorem inT {c : Bool} {A B : Prop} (h : c = true) (a : A) : if (if false = true then !c else c) = true then A else B := by
  subst h
  exact a
theorem inF {c : Bool} {A B : Prop} (h : c = false) (a : B) : if (if false = true then !c else c) = true then A else B := by
  subst h
  exact a
def sp_turned (K : PySem.W.Frag) (d : Nat) : Sp := fun vs H Q _ => ∃ v r, vs = [v] ∧ At K H v r ∧ Ok r ∧ depth r ≤ d ∧ size r ≤ 39 ∧ ∀ v' H', Same H H' → At K H' v' (turned r) → Q v' H'
theorem ok_turned_of {i j : Nat} {d : Nat} (D : Dn K mg "turned_of" s_turned_of ["run"] f fd) (C0 : Kn P w K mg base i "joined" (sp_joined K)) (C : Kn P w K mg base j "turned_of" (sp_turned K d)) (hi : i ≤ k) (hj : j ≤ k) : Kn P w K mg base (k + 1) "turned_of" (sp_turned K (d + 1)) := by
  refine D.kn (D.F.ok sc_turned_of (fun vs H Q E h => ?_) (fun cdv A outer s H vs Q E hr h => ?_))
  · obtain ⟨v, r, rfl, _⟩ := h
    rfl
  obtain ⟨v, r, rfl, ha, ho, hd', hz, q⟩ := h
  obtain ⟨a, vs, rfl, hs, ht⟩ := at_iff.mp ha
  refine ⟨_, pss_cons (ps_if (pt_cmpR op_in_seq (pe_ix ix_tup (pv 0) pe_int (fun _ _ => rfl)) (pe_tup (pa_cons pe_str (pa_cons pe_str pa_nil))) (by with_unfolding_all rfl)) (pss_one (ps_ret (pv 0))) pss_nil)
    (pss_one (ps_ret (pe_kn C0 hr hi (by rfl) (pa_cons (pe_ix ix_tup (pv 0) pe_int (fun _ _ => rfl)) (pa_cons (pe_revL (pe_lc (own := [("part", 1)]) (g := gName 1) (tt := tYes) rfl sc_turned_of.nd (pi_tup (pe_slice sl_tup (pv 0) (po_some pe_int) po_none)) (blkOk_by (N := ["run", "part"]) (sc := defScope s_turned_of) (by decide +kernel))
      (fun _ _ _ _ _ => pg_name (i := 1) sc_turned_of.nd rfl (Or.inl rfl)) (fun _ _ _ _ _ => pts_nil) (fun _ _ _ _ _ => pe_kn C hr hj (by rfl) (pa_cons (pv 1) pa_nil)))) pa_nil))))), ?_⟩
  refine ⟨_, rfl, a, _, 0, _, rfl, rfl, hs, at_zero _ _, small (show 2 ≤ 100000 by decide), fun t ht0 => ?_⟩
  have s0 := same_new (o := .tup [.str (Str.ofString "nothing"), .str (Str.ofString "step")]) ht0
  refine ⟨t, _, rfl, .inr (SqT.of upd_same), rfl, rfl, _, rfl, ?_⟩
  cases r with
  | nothing =>
    refine inT rfl ⟨_, rfl, q _ _ s0 ?_⟩
    rw [turned]
    exact At.tk (.of s0) _ _ ha
  | step n =>
    refine inT rfl ⟨_, rfl, q _ _ s0 ?_⟩
    rw [turned]
    exact At.tk (.of s0) _ _ ha
  | node b rs =>
    have hal : AtL K H vs rs := ht
    have hl := hal.length
    have ho' := ho
    rw [Ok] at ho'
    rw [depth] at hd'
    rw [size] at hz
    have hln := sizeL_ge ho'.2.1
    refine inF (in_word b) ?_
    refine ⟨_, rfl, a, _, 0, _, rfl, rfl, SqT.sm hs s0, at_zero _ _, _, rfl, 1, rfl, a, _, rfl, SqT.sm hs s0, one_not _ _, fun p hp => ?_⟩
    rw [cut_one]
    have s1 := same_new (o := .tup vs) hp
    refine ⟨p, rfl, ⟨vs, SqT.of upd_same⟩, fun D2 hD2 => ?_⟩
    obtain ⟨tk1, tk2⟩ := turnedL_part b rs ho'.2.1
    have hsl : ∀ i, sizeL ((turnedL rs).take i) ≤ sizeL rs := fun i => by
      have := sizeL_take (turnedL rs) i
      omega
    refine lcx (walk_tup (xs := vs)) hD2 (by omega) (fun i acc H2 => AtL K H2 acc ((rs.take i).map turned)) .nil (fun H' s' => SqT.sm (SqT.of upd_same) s') ?_ ?_
    · rintro i acc x H0 H' Kt Kf hi' s2 hF hlen hacc fin _ ⟨rfl, hx⟩
      obtain ⟨r', hr', hxr⟩ := paired_get hal hx
      have hm := List.mem_of_getElem? hr'
      have sm := sizeL_le hm
      have dm := depthL_le hm
      refine ⟨rfl, yes_t ⟨_, rfl, x, r', rfl, At.tk (.of (s0.trans (s1.trans s2))) r' x hxr, (okL_iff.mp ho'.2.1 r' hm).1, by omega, by omega, fun v' H4 s4 hv' => fin v' H4 s4 ?_⟩⟩
      rw [map_snoc turned hr']
      have tk4 := (TK.of s4).trans (tk_lst (o := .lst (acc ++ [v'])) (s4 _ _ hF))
      exact paired_append (AtL.tk tk4 _ _ hacc) (.cons (At.tk (tk_lst (s4 _ _ hF)) _ _ hv') .nil)
    · rintro acc H2 s2 hD hlen hacc
      rw [hl, List.take_length, ← turnedL_map] at hacc
      refine ⟨D2, acc, rfl, SqL.of hD, fun l hl2 => ?_⟩
      have s3 := same_new (o := .lst acc.reverse) hl2
      have al := hacc.length
      have tl : (turnedL rs).length = rs.length := by rw [turnedL_map, List.length_map]
      refine ⟨b, l, acc.reverse, (turnedL rs).reverse, rfl, SqL.of upd_same, paired_reverse (AtL.tk (.of s3) _ _ hacc), fun r' hr' => ?_, ?_, ?_, fun v' H4 s4 hv' => ?_⟩
      · have hm := List.mem_reverse.mp hr'
        have h1 := (tk1 r' hm).1
        have h2 := depth_le_size h1
        have h3 := sizeL_le hm
        exact ⟨h1, by omega⟩
      · rw [sizeL_perm (List.reverse_perm _)]
        omega
      · rw [List.length_reverse]
        omega
      · refine q v' H4 (s0.trans (s1.trans (s2.trans (s3.trans s4)))) ?_
        rw [turned]
        exact hv'
theorem all_turned {i : Nat} (D : Dn K mg "turned_of" s_turned_of ["run"] f fd) (C0 : Kn P w K mg base i "joined" (sp_joined K)) : ∀ d : Nat, Kn P w K mg base (i + d) "turned_of" (sp_turned K d)
  | 0 => by
    have z : Kn P w K mg base 0 "turned_of" (sp_turned K 0) := Kn.zero D fun vs H Q E ⟨v, r, _, _, _, h, _⟩ => no_zero h
    exact z.mono (Nat.zero_le _)
  | d + 1 => ok_turned_of D C0 (all_turned D C0 d) (Nat.le_add_right _ _) (Nat.le_refl _)
theorem ok_turned {i j : Nat} (D : Dn K mg "turned" s_turned ["run"] f fd) (C0 : Kn P w K mg base i "need_run" (sp_need_run K)) (C : Kn P w K mg base j "turned_of" (sp_turned K 40)) (hi : i ≤ k) (hj : j ≤ k) : Kn P w K mg base (k + 1) "turned" (sp_turned K 40) := by
  refine D.kn (D.F.ok sc_turned (fun vs H Q E h => ?_) (fun cdv A outer s H vs Q E hr h => ?_))
  · obtain ⟨v, r, rfl, _⟩ := h
    rfl
  obtain ⟨v, r, rfl, ha, ho, hd', hz, q⟩ := h
  refine ⟨_, pss_cons (ps_expr (pe_kn C0 hr hi (by rfl) (pa_cons (pv 0) pa_nil))) (pss_one (ps_ret (pe_kn C hr hj (by rfl) (pa_cons (pv 0) pa_nil)))), ?_⟩
  exact ⟨_, rfl, v, r, rfl, ha, ho, hd', by omega, fun H1 s1 => ⟨_, rfl, v, r, rfl, At.tk (.of s1) r v ha, ho, hd', hz, fun v' H2 s2 hv' => q v' H2 (s1.trans s2) hv'⟩⟩
end
end Fk

set_option Elab.async false
set_option linter.all false
set_option maxRecDepth 100000
/-! is_index, need_labels. -/
namespace Fk
open PySem PySem.Spec PyProof.Rows L2
abbrev s_is_index : Stmt := topS 29
abbrev s_need_labels : Stmt := topS 30
theorem sc_is_index : FnScope ["thing", "many"] ["thing", "many"] (defScope s_is_index) := ⟨rfl, rfl, rfl, by decide +kernel, rfl, by decide +kernel, by decide +kernel⟩
theorem sc_need_labels : FnScope ["labels", "label"] ["labels"] (defScope s_need_labels) := ⟨rfl, rfl, rfl, by decide +kernel, rfl, by decide +kernel, by decide +kernel⟩
section
variable {P : Program} {w : World} {K : PySem.W.Frag} {mg : Str → Option Value} {base : Heap} {f g : Addr} {fd gd : FuncData} {k : Nat}
def sp_is_index : Sp := fun vs H Q _ => ∃ i m : Int, vs = [.int i, .int m] ∧ 0 ≤ i ∧ i < m ∧ Q (.bl true) H
theorem ok_is_index {i : Nat} (D : Dn K mg "is_index" s_is_index ["thing", "many"] f fd) (C0 : Kn P w K mg base i "is_number" sp_is_number) (hi : i ≤ k) : Kn P w K mg base (k + 1) "is_index" sp_is_index := by
  refine D.kn (D.F.ok sc_is_index (fun vs H Q E h => ?_) (fun cdv A outer s H vs Q E hr h => ?_))
  · obtain ⟨i, m, rfl, _⟩ := h
    rfl
  obtain ⟨n, m, rfl, h1, h2, q⟩ := h
  refine ⟨_, pss_one (ps_ret (pe_and (pe_kn C0 hr hi (by rfl) (pa_cons (pv 0) pa_nil)) (pe_one (pe_chain op_le op_lt pe_int (pv 0) (pv 1))))), ?_⟩
  refine ⟨.int n, rfl, n, rfl, true, rfl, iteT ?_⟩
  refine ⟨_, rfl, _, _, rfl, rfl, true, congrArg V.bl (decide_eq_true h1), iteT ⟨.int m, rfl, _, _, rfl, rfl, ?_⟩⟩
  show Q (V.bl (decide (n < m))) H
  rw [decide_eq_true h2]
  exact q
def sp_need_labels (K : PySem.W.Frag) : Sp := fun vs H Q _ => ∃ a ns, vs = [.ref a] ∧ SqT K H a (List.map V.str ns) ∧ (∀ n ∈ ns, isName n) ∧ ns.length ≤ 30 ∧ ∀ H', Same H H' → Q .non H'
theorem ok_need_labels {i j : Nat} (D : Dn K mg "need_labels" s_need_labels ["labels"] f fd) (B : Blt mg) (C0 : Kn P w K mg base i "is_list" (sp_is_list K)) (C : Kn P w K mg base j "is_name" sp_is_name) (hi : i ≤ k) (hj : j ≤ k) : Kn P w K mg base (k + 1) "need_labels" (sp_need_labels K) := by
  refine D.kn (D.F.ok sc_need_labels (fun vs H Q E h => ?_) (fun cdv A outer s H vs Q E hr h => ?_))
  · obtain ⟨a, ns, rfl, _⟩ := h
    rfl
  obtain ⟨a, ns, rfl, hs, hn, hl, q⟩ := h
  obtain ⟨_, gm⟩ := B.clabels
  refine ⟨_, pss_one (ps_if (pw_or (pt_not (pt_val (pe_kn C0 hr hi (by rfl) (pa_cons (pv 0) pa_nil))))
      (pw_or (pt_cmpR op_gt (pe_callB call_len_seq (by rfl) B.zlen bt_len (pa_cons (pv 0) pa_nil)) (pe_glob (v := .int 30) (by rfl) gm ⟨_, rfl⟩) (nomark _))
      (pw_or1 (pt_not (pt_val (pe_callB (cr_all rfl) (by rfl) B.zall bt_all (pa_cons (pe_lc (own := [("label", 1)]) (g := gName 1) (tt := tYes) rfl sc_need_labels.nd (pi_tup (pv 0)) (blkOk_by (N := ["labels", "label"]) (sc := defScope s_need_labels) (by decide +kernel))
        (fun _ _ _ _ _ => pg_name (i := 1) sc_need_labels.nd rfl (Or.inl rfl)) (fun _ _ _ _ _ => pts_nil) (fun _ _ _ _ _ => pe_kn C hr hj (by rfl) (pa_cons (pv 1) pa_nil))) pa_nil))))))).pt pss_never pss_nil), ?_⟩
  refine ⟨_, rfl, a, _, rfl, .inr hs, fun H1 s1 => ⟨true, rfl, iteF ?_⟩⟩
  refine ⟨_, rfl, a, _, rfl, .inr (SqT.sm hs s1), _, _, rfl, rfl, false, congrArg V.bl (decide_eq_false (by rw [List.length_map]; omega)), iteF ?_⟩
  refine ⟨_, rfl, a, rfl, ⟨_, SqT.sm hs s1⟩, fun D1 hD1 => ?_⟩
  refine lcb true walk_tup hD1 (by rw [List.length_map]; omega) (fun H' s' => SqT.sm hs (s1.trans s')) (fun i x H0 H' Kt hi' s0 fin y => ?_) (fun H2 s2 e2 => ?_)
  · obtain ⟨rfl, hx⟩ := y
    rw [List.getElem?_map] at hx
    obtain ⟨n, hn', rfl⟩ := Option.map_eq_some_iff.mp hx
    exact ⟨rfl, _, rfl, n, rfl, hn n (List.mem_of_getElem? hn'), fin⟩
  refine ⟨D1, _, rfl, SqL.of e2, true, congrArg V.bl (all_rep _), iteF ?_⟩
  exact q _ (s1.trans s2)
end
end Fk

set_option Elab.async false
set_option linter.all false
set_option maxRecDepth 100000
/-! Items of lists and dicts alike; x != []. -/
namespace Fk
open PySem PySem.Spec PyProof.Rows L2
def rIxDd : R2 := fun x y H Q => ∃ a v, x = .ref a ∧ DGet H a y (some v) ∧ Q v H
section
variable {X : Cx}
theorem ix_dict (hu : X.A.units + 1 < cLine) : IxR X rIxDd := by
  intro value slice pins s σ H x y v u Q I rx ry h hs
  obtain ⟨a, z, rfl, g, q⟩ := h
  obtain rfl : v = Value.ref a := rx
  exact tail_any (dict_typeIs I g) slot_dict_getitem.lookup (d_getItem hu I g ry fun w' s' I' rw' => ⟨z, H, I', rw', q⟩) hs
end
/-- x[y], x a list or a dict -/
def rIxW (K : PySem.W.Frag) : R2 := fun x y H Q => rIxL K x y H Q ∨ rIxDd x y H Q
/-- numbers as values -/
def iv (ns : List Nat) : List V := ns.map fun n => V.int (n : Nat)
theorem iv_len (ns : List Nat) : (iv ns).length = ns.length := by
  unfold iv
  rw [List.length_map]
theorem iv_app (xs ys : List Nat) : iv (xs ++ ys) = iv xs ++ iv ys := by
  unfold iv
  rw [List.map_append]
theorem iv_get {ns : List Nat} {i : Nat} {v : V} (h : (iv ns)[i]? = some v) : ∃ n : Nat, ns[i]? = some n ∧ v = .int (n : Nat) := by
  unfold iv at h
  rw [List.getElem?_map] at h
  obtain ⟨n, h1, rfl⟩ := Option.map_eq_some_iff.mp h
  exact ⟨n, h1, rfl⟩
/-- the item at i of x is the list p of the numbers ns -/
def ItW (K : PySem.W.Frag) (H : Hp) (x : V) (i : Nat) (ns : List Nat) : Prop :=
  ∃ p, SqL K H p (iv ns) ∧ ((∃ a xs, x = .ref a ∧ SqL K H a xs ∧ xs[i]? = some (.ref p)) ∨ ∃ a, x = .ref a ∧ DGet H a (.int (i : Nat)) (some (.ref p)))
theorem rd_sm {H H' : Hp} {a : Addr} {u : HO} (h : Rd H a u) (e : Same H H') : Rd H' a u := h.elim (fun h => .inl (e _ _ h)) fun ⟨o, h⟩ => .inr ⟨o, e _ _ h⟩
theorem dget_sm {H H' : Hp} {a : Addr} {y : V} {o : Option V} (g : DGet H a y o) (e : Same H H') : DGet H' a y o := by
  rcases g with ⟨kvs, k, h, h1, h2⟩ | ⟨kvs, k, b, h, h1, h2, h3⟩
  · exact .inl ⟨kvs, k, rd_sm h e, h1, h2⟩
  · exact .inr ⟨kvs, k, b, rd_sm h e, h1, e _ _ h2, h3⟩
theorem ItW.sm {K : PySem.W.Frag} {H H' : Hp} {x : V} {i : Nat} {ns : List Nat} (h : ItW K H x i ns) (e : Same H H') : ItW K H' x i ns := by
  obtain ⟨p, h1, h2⟩ := h
  refine ⟨p, e.seq h1, ?_⟩
  rcases h2 with ⟨a, xs, rfl, h3, h4⟩ | ⟨a, rfl, h3⟩
  · exact .inl ⟨a, xs, rfl, e.seq h3, h4⟩
  · exact .inr ⟨a, rfl, dget_sm h3 e⟩
theorem ItW.rd {K : PySem.W.Frag} {H : Hp} {x : V} {i : Nat} {ns : List Nat} (h : ItW K H x i ns) : ∃ p, SqL K H p (iv ns) ∧ ∀ Q : VK, Q (.ref p) H → rIxW K x (.int (i : Nat)) H Q := by
  obtain ⟨p, h1, h2⟩ := h
  refine ⟨p, h1, fun Q q => ?_⟩
  rcases h2 with ⟨a, xs, rfl, h3, h4⟩ | ⟨a, rfl, h3⟩
  · exact .inl ⟨a, xs, (i : Nat), .ref p, rfl, rfl, h3, atI_nat h4, q⟩
  · exact .inr ⟨a, .ref p, rfl, h3, q⟩
/-! ### x != [] -/
theorem dp_ints {K : PySem.W.Frag} {H : Hp} : ∀ ns : List Int, DpAll K H (ns.map V.int) (ns.map PyData.int)
  | [] => .nil
  | n :: ns => .cons (.int n) (dp_ints ns)
theorem lay_ints : ∀ ns : List Int, PyData.canLayAll0 (ns.map PyData.int) = true ∧ PyData.depthAll (ns.map PyData.int) ≤ 1
  | [] => ⟨rfl, by simp [PyData.depthAll]⟩
  | n :: ns => by
    obtain ⟨h1, h2⟩ := lay_ints ns
    rw [List.map_cons]
    refine ⟨?_, ?_⟩
    · simp only [PyData.canLayAll0, PyData.canLay0, Bool.true_and]
      exact h1
    · simp only [PyData.depthAll, PyData.depth]
      omega
theorem shaped_ints (ns : List Int) : SeqAt.shaped (.list (ns.map PyData.int)) = true := by
  obtain ⟨h1, h2⟩ := lay_ints ns
  show (PyData.canLay0 (.list _) && decide (PyData.depth (.list _) ≤ 64)) = true
  rw [Bool.and_eq_true]
  refine ⟨by simp only [PyData.canLay0]; exact h1, decide_eq_true ?_⟩
  simp only [PyData.depth]
  omega
theorem eqv_nil : ∀ ds : List PyData, PyData.eqv (.list ds) (.list []) = ds.isEmpty
  | [] => by simp [PyData.eqv, PyData.eqvAll]
  | d :: ds => by simp [PyData.eqv, PyData.eqvAll]
/-- any list of values that compare, held against the empty list -/
theorem rd_ne {K : PySem.W.Frag} {H : Hp} {p q : Addr} {xs : List V} {ds : List PyData} {Q : VK} (h : SqL K H p xs) (hd : DpAll K H xs ds) (hs : SeqAt.shaped (.list ds) = true) (h0 : SqL K H q []) (k : Q (.bl (!ds.isEmpty)) H) : rNeD K (.ref p) (.ref q) H Q := by
  refine ⟨.list ds, .list [], .lst h hd, .lst h0 .nil, hs, by rfl, ?_⟩
  rw [eqv_nil]
  exact k
theorem rd_neI {K : PySem.W.Frag} {H : Hp} {p q : Addr} {ns : List Int} {Q : VK} (h : SqL K H p (ns.map V.int)) (h0 : SqL K H q []) (k : Q (.bl (!ns.isEmpty)) H) : rNeD K (.ref p) (.ref q) H Q := by
  refine rd_ne h (dp_ints ns) (shaped_ints ns) h0 ?_
  cases ns <;> exact k
theorem rd_neN {K : PySem.W.Frag} {H : Hp} {p q : Addr} {ns : List Nat} {Q : VK} (h : SqL K H p (iv ns)) (h0 : SqL K H q []) (k : Q (.bl (!ns.isEmpty)) H) : rNeD K (.ref p) (.ref q) H Q := by
  have e : iv ns = (ns.map fun n => ((n : Nat) : Int)).map V.int := by
    unfold iv
    rw [List.map_map]
    rfl
  rw [e] at h
  refine rd_neI h h0 ?_
  cases ns <;> exact k
end Fk

set_option Elab.async false
set_option linter.all false
set_option maxRecDepth 100000
/-! reached_from. -/
namespace Fk
open PySem PySem.Spec PyProof.Rows L2
abbrev s_reached_from : Stmt := topS 32
theorem sc_reached_from : FnScope ["start", "ways", "found", "line", "at"] ["start", "ways"] (defScope s_reached_from) := ⟨rfl, rfl, rfl, by decide +kernel, rfl, by decide +kernel, by decide +kernel⟩
/-- the ways from those that are not yet found -/
def left (nbr : Nat → List Nat) : List Nat → List Nat → Nat
  | [], _ => 0
  | x :: S, fd => (if x ∈ fd then 0 else (nbr x).length) + left nbr S fd
theorem left_same {nbr : Nat → List Nat} {a : Nat} : ∀ {S fd : List Nat}, a ∉ S → left nbr S (fd ++ [a]) = left nbr S fd
  | [], _, _ => rfl
  | x :: S, fd, h => by
    have h1 : x ≠ a := fun e => h (e ▸ List.mem_cons_self)
    rw [left, left, left_same fun m => h (List.mem_cons_of_mem _ m)]
    congr 1
    by_cases m : x ∈ fd
    · rw [if_pos m, if_pos (List.mem_append_left _ m)]
    · rw [if_neg m, if_neg (fun z => (List.mem_append.mp z).elim m fun z => h1 (List.mem_singleton.mp z))]
theorem left_put {nbr : Nat → List Nat} {a : Nat} : ∀ {S fd : List Nat}, S.Nodup → a ∈ S → a ∉ fd → left nbr S fd = (nbr a).length + left nbr S (fd ++ [a])
  | [], _, _, h, _ => by simp at h
  | x :: S, fd, hn, h, hf => by
    obtain ⟨n1, n2⟩ := List.nodup_cons.mp hn
    rw [left, left]
    by_cases e : x = a
    · subst e
      rw [left_same n1, if_neg hf, if_pos (List.mem_append_right _ (List.mem_singleton.mpr rfl))]
      omega
    · have h' : a ∈ S := (List.mem_cons.mp h).resolve_left fun z => e z.symm
      rw [left_put n2 h' hf]
      by_cases m : x ∈ fd
      · rw [if_pos m, if_pos (List.mem_append_left _ m)]
        omega
      · rw [if_neg m, if_neg (fun z => (List.mem_append.mp z).elim m fun z => e (List.mem_singleton.mp z))]
        omega
theorem left_le {nbr : Nat → List Nat} {b : Nat} : ∀ {S fd : List Nat}, (∀ x ∈ S, (nbr x).length ≤ b) → left nbr S fd ≤ S.length * b
  | [], _, _ => by simp [left]
  | x :: S, fd, h => by
    rw [left, List.length_cons, Nat.succ_mul]
    have h1 := h x List.mem_cons_self
    have h2 := left_le (fd := fd) fun y hy => h y (List.mem_cons_of_mem _ hy)
    split <;> omega
/-- indexes as the keys of a dict -/
def kd (ks : List Nat) : List (Key × V) := ks.map fun i => (.inl (i : Nat), .bl true)
theorem kd_get (x : Nat) : ∀ ks : List Nat, valV (kd ks) (.inl (x : Nat)) = if x ∈ ks then some (.bl true) else none
  | [] => rfl
  | d :: ks => by
    show valV ((Sum.inl (d : Int), V.bl true) :: kd ks) (.inl (x : Nat)) = _
    by_cases e : d = x
    · subst e
      rw [valV_pos (p := ((Sum.inl (d : Int) : Key), V.bl true)) rfl, if_pos List.mem_cons_self]
    · rw [valV_neg (p := ((Sum.inl (d : Int) : Key), V.bl true)) (fun z => e (Int.ofNat.inj (Sum.inl.inj z : (d : Int) = (x : Int)))), kd_get x ks]
      by_cases m : x ∈ ks
      · rw [if_pos m, if_pos (List.mem_cons_of_mem _ m)]
      · rw [if_neg m, if_neg (fun z => (List.mem_cons.mp z).elim (fun z => e z.symm) m)]
theorem kd_some (x : Nat) (ks : List Nat) : (valV (kd ks) (.inl (x : Nat))).isSome = decide (x ∈ ks) := by
  rw [kd_get]
  by_cases m : x ∈ ks
  · rw [if_pos m, decide_eq_true m]
    rfl
  · rw [if_neg m, decide_eq_false m]
    rfl
theorem kd_put {x : Nat} {ks : List Nat} (h : x ∉ ks) : putK (kd ks) (.inl (x : Nat)) (.bl true) = kd (ks ++ [x]) := by
  unfold putK
  rw [valV_any, kd_get, if_neg h]
  show kd ks ++ [(.inl (x : Nat), .bl true)] = _
  unfold kd
  rw [List.map_append]
  rfl
theorem kd_len (ks : List Nat) : (kd ks).length = ks.length := by
  unfold kd
  rw [List.length_map]
theorem last_get {xs : List Nat} (h : xs ≠ []) : (iv xs)[(iv xs).length - 1]? = some (.int ((xs.getLast h : Nat) : Int)) := by
  unfold iv
  rw [List.length_map, List.getElem?_map, ← List.getLast?_eq_getElem?, List.getLast?_eq_getLast h]
  rfl
theorem iv_dropLast (xs : List Nat) : (iv xs).dropLast = iv xs.dropLast := by
  unfold iv
  rw [List.map_dropLast]

section
variable {P : Program} {w : World} {K : PySem.W.Frag} {mg : Str → Option Value} {base : Heap} {f g : Addr} {fd gd : FuncData} {k : Nat}
/-- the ways among the steps S -/
structure Ways (K : PySem.W.Frag) (H : Hp) (x : V) (nbr : Nat → List Nat) (S : List Nat) : Prop where
  it : ∀ i ∈ S, ItW K H x i (nbr i)
  cl : ∀ i ∈ S, ∀ j ∈ nbr i, j ∈ S
  nd : S.Nodup
  le : S.length ≤ 64
  ln : ∀ i ∈ S, (nbr i).length ≤ 64
theorem Ways.sm {H H' : Hp} {x : V} {nbr : Nat → List Nat} {S : List Nat} (h : Ways K H x nbr S) (e : Same H H') : Ways K H' x nbr S := ⟨fun i hi => (h.it i hi).sm e, h.cl, h.nd, h.le, h.ln⟩
def sp_reached (K : PySem.W.Frag) : Sp := fun vs H Q _ => ∃ (s : Nat) (x : V) (nbr : Nat → List Nat) (S : List Nat), vs = [.int (s : Nat), x] ∧ s ∈ S ∧ Ways K H x nbr S ∧
  ∀ p H' ks, Same H H' → H p = none → H' p = some (.dK (kd ks)) → ks.Nodup → (∀ y, y ∈ ks ↔ Reach nbr s y) → (∀ y ∈ ks, y ∈ S) → Q (.ref p) H'
theorem ok_reached (D : Dn K mg "reached_from" s_reached_from ["start", "ways"] f fd) (B : Blt mg) : Kn P w K mg base (k + 1) "reached_from" (sp_reached K) := by
  refine D.kn (D.F.ok sc_reached_from (fun vs H Q E h => ?_) (fun cdv A outer s H vs Q E hr h => ?_))
  · obtain ⟨s, x, nbr, S, rfl, _⟩ := h
    rfl
  obtain ⟨s0, x, nbr, S, rfl, hs, W, q⟩ := h
  refine ⟨_, pss_cons (ps_par (i := 2) (j := 3) rfl sc_reached_from.nd rfl rfl (by decide) rfl rfl (pa_cons pe_dnewK (pa_cons (pe_callTy call_list_of (by rfl) B.zlist bt_list (pa_cons (pe_ix ((ix_list).or (ix_dict (room1 hr))) (pv 1) (pv 0) (fun _ _ => rfl)) pa_nil)) pa_nil)) (by rfl))
    (pss_cons (ps_while PassesOwn.never (pt_cmpR (op_neD hr.units) (pv 3) (pe_lst pa_nil) (nomark _))
      (pss_cons (ps_set (i := 4) sc_reached_from.nd rfl (Or.inl rfl) (pe_bm0 PySem.F.plainAttrs_list PySem.F.slot_list_pop PySem.F.type_list_pop mt_pop (pv 3)))
      (pss_one (ps_if (pt_cmp (pc_dnotin (room1 hr) (pv 4) (pv 2)))
        (pss_cons (ps_dput (room1 hr) (pv 2) (pv 4) pe_bl (by rfl))
        (pss_one (ps_expr (pe_bm PySem.F.plainAttrs_list PySem.F.slot_list_extend PySem.F.type_list_extend mt_ext (pv 3) (pa_cons (pe_ix ((ix_list).or (ix_dict (room1 hr))) (pv 1) (pv 4) (fun _ _ => rfl)) pa_nil))))) pss_nil))))
    (pss_one (ps_ret (pv 2)))), ?_⟩
  intro F hF
  have s1 := same_new (o := .dK []) hF
  obtain ⟨p0, hp0, rd0⟩ := ((W.it s0 hs).sm s1).rd
  refine ⟨_, rfl, _, rfl, rd0 _ ⟨p0, iv (nbr s0), rfl, .inl hp0, fun L hL => ?_⟩⟩
  have s2 := same_new (o := .lst (iv (nbr s0))) hL
  have hFL : F ≠ L := fun e => by
    rw [← e, upd_same] at hL
    cases hL
  have hL0 : H L = none := none_old s1 hL
  refine ⟨_, _, rfl, ?_⟩
  refine ⟨fun m σ H3 => ∃ y fd ln, σ = [some (.int (s0 : Nat)), some x, some (.ref F), some (.ref L), y] ∧ Same H H3 ∧ H3 F = some (.dK (kd fd)) ∧ H3 L = some (.lst (iv ln)) ∧ fd.Nodup ∧ (∀ z ∈ fd, z ∈ S ∧ Reach nbr s0 z) ∧ (∀ z ∈ ln, z ∈ S ∧ Reach nbr s0 z) ∧
    (∀ z ∈ nbr s0, z ∈ fd ∨ z ∈ ln) ∧ (∀ z ∈ fd, ∀ u ∈ nbr z, u ∈ fd ∨ u ∈ ln) ∧ m = ln.length + left nbr S fd ∧ m ≤ 64 + 64 * 64,
    ⟨_, none, [], nbr s0, rfl, s1.trans s2, s2 _ _ upd_same, upd_same, .nil, fun z h => by simp at h, fun z h => ⟨W.cl s0 hs z h, .one h⟩, fun z h => .inr h, fun z h => by simp at h, rfl, ?_⟩, ?_⟩
  · have h1 := left_le (fd := []) W.ln
    have h2 := W.ln s0 hs
    have h3 := Nat.mul_le_mul_right 64 W.le
    omega
  rintro m σ H3 ⟨y, fd, ln, rfl, s3, hF3, hL3, nd, rf, rl, c0, c1, hm, hb⟩
  refine ⟨_, rfl, Nat.zero_le _, fun p hp => ?_⟩
  have s4 := same_new (o := .lst []) hp
  have hF0 : H F = none := hF
  refine rd_neN (SqL.of (s4 _ _ hL3)) (SqL.of upd_same) ⟨_, rfl, ?_⟩
  by_cases hln : ln = []
  · subst hln
    refine iteF ⟨_, rfl, q F _ fd (s3.trans s4) hF (s4 _ _ hF3) nd (fun y => ⟨fun h => (rf y h).2, fun h => ?_⟩) fun y h => (rf y h).1⟩
    have c0' : ∀ z ∈ nbr s0, z ∈ fd := fun z hz => (c0 z hz).resolve_right (by simp)
    induction h with
    | one h => exact c0' _ h
    | more _ h ih => exact (c1 _ ih _ h).resolve_right (by simp)
  have hne : (!ln.isEmpty) = true := by
    cases ln with
    | nil => exact absurd rfl hln
    | cons a b => rfl
  rw [hne]
  refine iteT ⟨_, fun σ' H' w' => w', ?_⟩
  have eln : ln.dropLast ++ [ln.getLast hln] = ln := List.dropLast_concat_getLast hln
  generalize ha : ln.getLast hln = a at eln
  have hlen : ln.length = ln.dropLast.length + 1 := by
    rw [← eln]
    simp
  generalize hd : ln.dropLast = ln' at eln hlen
  have haS : a ∈ S ∧ Reach nbr s0 a := rl a (by rw [← eln]; exact List.mem_append_right _ (List.mem_singleton.mpr rfl))
  refine ⟨_, rfl, .inl ⟨rfl, _, SqL.of (s4 _ _ hL3)⟩, L, _, _, rfl, rfl, s4 _ _ hL3, last_get hln, ?_⟩
  rw [ha, iv_dropLast, hd]
  have s5 : Same H (upd (upd H3 p (.lst [])) L (.lst (iv ln'))) := same_mut (s3.trans s4) hL0
  have hF5 : (upd (upd H3 p (.lst [])) L (.lst (iv ln'))) F = some (.dK (kd fd)) := by rw [upd_ne hFL]; exact s4 _ _ hF3
  have hL5 : (upd (upd H3 p (.lst [])) L (.lst (iv ln'))) L = some (.lst (iv ln')) := upd_same
  generalize (upd (upd H3 p (.lst [])) L (.lst (iv ln'))) = H5 at s5 hF5 hL5
  refine ⟨.int (a : Nat), rfl, .ref F, rfl, F, _, rfl, DGet.k (k := .inl (a : Nat)) hF5, _, rfl, ?_⟩
  rw [kd_some]
  have rl' : ∀ z ∈ ln', z ∈ S ∧ Reach nbr s0 z := fun z hz => rl z (by rw [← eln]; exact List.mem_append_left _ hz)
  by_cases hfd : a ∈ fd
  · rw [decide_eq_true hfd]
    refine iteF ⟨_, ?_, _, fd, ln', rfl, s5, hF5, hL5, nd, rf, rl', fun z hz => ?_, fun z hz u hu => ?_, rfl, ?_⟩
    · omega
    · rcases c0 z hz with h | h
      · exact .inl h
      · rw [← eln] at h
        rcases List.mem_append.mp h with h | h
        · exact .inr h
        · exact .inl (List.mem_singleton.mp h ▸ hfd)
    · rcases c1 z hz u hu with h | h
      · exact .inl h
      · rw [← eln] at h
        rcases List.mem_append.mp h with h | h
        · exact .inr h
        · exact .inl (List.mem_singleton.mp h ▸ hfd)
    · omega
  · rw [decide_eq_false hfd]
    have fl : fd.length ≤ S.length := nodup_len nd fun z hz => (rf z hz).1
    have sl := W.le
    refine iteT ⟨.ref F, rfl, .int (a : Nat), rfl, F, _, rfl, DPut.k (k := .inl (a : Nat)) hF5 (by rw [kd_len]; exact small_lt (by omega)), ?_⟩
    rw [kd_put hfd]
    have s6 : Same H (upd H5 F (.dK (kd (fd ++ [a])))) := same_mut s5 hF0
    obtain ⟨pa, hpa, rda⟩ := ((W.it a haS.1).sm s6).rd
    have hL6 : (upd H5 F (.dK (kd (fd ++ [a])))) L = some (.lst (iv ln')) := by rw [upd_ne hFL.symm]; exact hL5
    have nl := W.ln a haS.1
    have ep := left_put (nbr := nbr) W.nd haS.1 hfd
    refine ⟨_, rfl, .inl ⟨rfl, _, SqL.of hL6⟩, _, rfl, _, rfl, rda _ ⟨L, pa, _, _, rfl, rfl, hL6, .inl hpa, ?_, ?_⟩⟩
    · rw [iv_len, iv_len]
      exact small (by omega)
    refine ⟨_, ?_, _, fd ++ [a], ln' ++ nbr a, rfl, same_mut s6 hL0, by rw [upd_ne hFL]; exact upd_same, by rw [upd_same, iv_app], ?_, fun z hz => ?_, fun z hz => ?_, fun z hz => ?_, fun z hz u hu => ?_, rfl, ?_⟩
    · rw [List.length_append]
      omega
    · rw [List.nodup_append]
      exact ⟨nd, List.pairwise_singleton _ _, fun x hx y hy e => hfd (List.mem_singleton.mp hy ▸ e ▸ hx)⟩
    · rcases List.mem_append.mp hz with h | h
      · exact rf z h
      · rw [List.mem_singleton.mp h]
        exact haS
    · rcases List.mem_append.mp hz with h | h
      · exact rl' z h
      · exact ⟨W.cl a haS.1 z h, haS.2.more h⟩
    · rcases c0 z hz with h | h
      · exact .inl (List.mem_append_left _ h)
      · rw [← eln] at h
        rcases List.mem_append.mp h with h | h
        · exact .inr (List.mem_append_left _ h)
        · exact .inl (List.mem_append_right _ h)
    · rcases List.mem_append.mp hz with hz | hz
      · rcases c1 z hz u hu with h | h
        · exact .inl (List.mem_append_left _ h)
        · rw [← eln] at h
          rcases List.mem_append.mp h with h | h
          · exact .inr (List.mem_append_left _ h)
          · exact .inl (List.mem_append_right _ h)
      · rw [List.mem_singleton.mp hz] at hu
        exact .inr (List.mem_append_right _ hu)
    · rw [List.length_append]
      omega
end
end Fk

set_option Elab.async false
set_option linter.all false
set_option maxRecDepth 100000
/-! pairs_of. -/
namespace Fk
open PySem PySem.Spec PyProof.Rows L2
abbrev s_pairs_of : Stmt := topS 34
theorem sc_pairs_of : FnScope ["run", "begun", "found", "groups", "at", "part", "many", "pairs", "group", "one", "other"] ["run", "begun"] (defScope s_pairs_of) := ⟨rfl, rfl, rfl, by decide +kernel, rfl, by decide +kernel, by decide +kernel⟩
/-- pairs as tuples -/
abbrev PrA (H : Hp) : V → Nat × Nat → Prop := fun v p => ∃ b, v = .ref b ∧ H b = some (.tup [.int (p.1 : Nat), .int (p.2 : Nat)])
abbrev PrL (H : Hp) (vs : List V) (ps : List (Nat × Nat)) : Prop := Paired (PrA H) vs ps
theorem PrL.tk {H H' : Hp} {vs : List V} {ps : List (Nat × Nat)} (h : PrL H vs ps) (e : TK H H') : PrL H' vs ps := by
  induction h with
  | nil => exact .nil
  | cons h _ ih =>
    obtain ⟨b, h1, h2⟩ := h
    exact .cons ⟨b, h1, e.tup _ _ h2⟩ ih
theorem across_len (k p n : Nat) : (across k p n).length = (p - k) * n := by
  unfold across
  rw [List.length_flatMap]
  simp [List.length_range', List.sum_replicate_nat, List.map_const']
mutual
theorem prs_len : ∀ (r : R) (k : Nat), (prs r k).length ≤ size r * size r
  | .nothing, _ => by simp [prs]
  | .step _, _ => by simp [prs]
  | .node b rs, k => by
    rw [prs, size]
    have := prsL_len b rs k k (Nat.le_refl _)
    rw [Nat.sub_self, Nat.zero_mul, Nat.zero_add] at this
    exact this
theorem prsL_len (b : Bool) : ∀ (rs : List R) (k p : Nat), k ≤ p → (prsL b rs k p).length ≤ (p - k) * sizeL rs + sizeL rs * sizeL rs
  | [], _, _, _ => by simp [prsL]
  | r :: rs, k, p, h => by
    rw [prsL, sizeL, List.length_append, List.length_append]
    have h1 := prs_len r p
    have h2 := prsL_len b rs k (p + size r) (by omega)
    have h3 : (if b = true then ([] : List (Nat × Nat)) else across k p (size r)).length ≤ (p - k) * size r := by
      split
      · simp
      · rw [across_len]
        exact Nat.le_refl _
    have e1 : p + size r - k = (p - k) + size r := by omega
    rw [e1, Nat.add_mul] at h2
    rw [Nat.mul_add, Nat.add_mul, Nat.mul_add, Nat.mul_add]
    have e2 : sizeL rs * size r = size r * sizeL rs := Nat.mul_comm _ _
    omega
end
theorem iteEq {A B : Prop} {x y : Str} (h : x = y) (a : A) : if decide (V.str x = V.str y) = true then A else B := by
  rw [h, decide_eq_true rfl]
  exact iteT a
theorem nsn {H : Hp} {p q : Addr} {o : HO} (h : H p = some o) (h' : H q = none) : p ≠ q := fun e => by
  rw [e, h'] at h
  cases h
theorem rgV_iv (n m : Nat) : rgV ((n : Nat) : Int) ((n : Nat) + (m : Nat)) = iv (List.range' n m) := by
  unfold rgV iv
  rw [List.range'_eq_map_range, List.map_map]
  have e : (((n : Nat) : Int) + (m : Nat) - (n : Nat)).toNat = m := by omega
  rw [e]
  refine List.map_congr_left fun i _ => ?_
  show V.int ((n : Int) + (i : Nat)) = V.int ((n + i : Nat) : Int)
  rw [Int.natCast_add]
theorem prsL_snoc (b : Bool) (r : R) : ∀ (rs : List R) (k p : Nat), prsL b (rs ++ [r]) k p = prsL b rs k p ++ ((if b = true then [] else across k (p + sizeL rs) (size r)) ++ prs r (p + sizeL rs))
  | [], k, p => by
    rw [List.nil_append, prsL, prsL, prsL, sizeL, Nat.add_zero, List.nil_append, List.append_nil]
  | x :: rs, k, p => by
    rw [List.cons_append, prsL, prsL_snoc b r rs, prsL, sizeL, ← Nat.add_assoc]
    simp only [List.append_assoc]
/-- all but F and G stay -/
def Kp (F G : Addr) (H H' : Hp) : Prop := ∀ p o, p ≠ F → p ≠ G → H p = some o → H' p = some o
theorem Kp.of {F G : Addr} {H H' : Hp} (e : Same H H') : Kp F G H H' := fun p o _ _ h => e p o h
theorem Kp.trans {F G : Addr} {H H1 H2 : Hp} (a : Kp F G H H1) (b : Kp F G H1 H2) : Kp F G H H2 := fun p o h1 h2 h => b p o h1 h2 (a p o h1 h2 h)
theorem Kp.fst {F G : Addr} {H : Hp} {o : HO} : Kp F G H (upd H F o) := fun p u h1 _ h => by rw [upd_ne h1]; exact h
theorem Kp.snd {F G : Addr} {H : Hp} {o : HO} : Kp F G H (upd H G o) := fun p u _ h2 h => by rw [upd_ne h2]; exact h
abbrev GrA (F G : Addr) (H : Hp) : V → List Nat → Prop := fun v ns => ∃ p, v = .ref p ∧ p ≠ F ∧ p ≠ G ∧ H p = some (.lst (iv ns))
abbrev GrL (F G : Addr) (H : Hp) (vs : List V) (Ns : List (List Nat)) : Prop := Paired (GrA F G H) vs Ns
theorem GrL.kp {F G : Addr} {H H' : Hp} {vs : List V} {Ns : List (List Nat)} (h : GrL F G H vs Ns) (e : Kp F G H H') : GrL F G H' vs Ns := by
  induction h with
  | nil => exact .nil
  | cons h _ ih =>
    obtain ⟨p, h1, h2, h3, h4⟩ := h
    exact .cons ⟨p, h1, h2, h3, e p _ h2 h3 h4⟩ ih
theorem step_or2 (r : R) : (∃ n, r = .step n) ∨ (hd r ≠ Str.ofString "step" ∧ ∃ b rs, (rs = [] ∨ hd r = word b) ∧ (∀ k, prs r k = prsL b rs k k) ∧ ∀ (vs : List V) (K : PySem.W.Frag) (H : Hp), Tl K H r vs → Ok r → AtL K H vs rs ∧ (∀ p ∈ rs, Ok p ∧ depth p + 1 ≤ depth r) ∧ size r = sizeL rs ∧ rs.length ≤ size r) := by
  cases r with
  | step n => exact .inl ⟨n, rfl⟩
  | nothing =>
    refine .inr ⟨hd_nothing_step, true, [], .inl rfl, fun k => by rw [prs, prsL], fun vs K H h _ => ⟨?_, fun p h => by simp at h, rfl, Nat.zero_le _⟩⟩
    cases (show vs = [] from h)
    exact .nil
  | node b rs =>
    refine .inr ⟨fun e => hd_step_word b e.symm, b, rs, .inr rfl, fun k => by rw [prs], fun vs K H h ho => ⟨h, fun p hp => ?_, by rw [size], ?_⟩⟩
    · rw [Ok] at ho
      have := depthL_le hp
      rw [depth]
      exact ⟨(okL_iff.mp ho.2.1 p hp).1, by omega⟩
    · rw [Ok] at ho
      rw [size]
      exact sizeL_ge ho.2.1
theorem PrL.len {H : Hp} {vs : List V} {ps : List (Nat × Nat)} (h : PrL H vs ps) : vs.length = ps.length := h.length
def rowOf (at' m : Nat) (i : Nat) : List (Nat × Nat) := (List.range' at' m).map fun j => (i, j)
theorem rowOf_len (at' m i : Nat) : (rowOf at' m i).length = m := by
  unfold rowOf
  rw [List.length_map, List.length_range']
theorem rows_len (at' m : Nat) (ns : List Nat) : (ns.flatMap (rowOf at' m)).length = ns.length * m := by
  induction ns with
  | nil => simp
  | cons n ns ih =>
    rw [List.flatMap_cons, List.length_append, rowOf_len, ih, List.length_cons, Nat.succ_mul]
    omega
theorem flat_snoc {α β : Type} (f : α → List β) {xs : List α} {i : Nat} {x : α} (h : xs[i]? = some x) : (xs.take (i + 1)).flatMap f = (xs.take i).flatMap f ++ f x := by
  rw [take_snoc h, List.flatMap_append]
  simp
theorem flat_take {Ns : List (List Nat)} {i : Nat} {ns : List Nat} (h : Ns[i]? = some ns) : (Ns.take (i + 1)).flatten = (Ns.take i).flatten ++ ns := by
  rw [take_snoc h, List.flatten_append, List.flatten_singleton]
theorem comp_across {K : PySem.W.Frag} {H : Hp} {Q : VK} {x0 x1 x2 x3 x5 x7 x9 x10 : Option V} {p : Addr} {ns : List Nat} {a m : Nat} (hp : SqL K H p (iv ns)) (h1 : ns.length ≤ 64) (h2 : m ≤ 64) (h3 : a ≤ 64)
    (q : ∀ D xs H', Same H H' → H D = none → H' D = some (.lst xs) → PrL H' xs (ns.flatMap (rowOf a m)) → Q (.ref D) H') :
    tLc2 (iList K (tVar 8)) (gName 9) tYes (iRng2 (tCons (tVar 4) (tCons (tAdd (tVar 4) (tVar 6)) tNil))) (gName 10) tYes (tTup (tCons (tVar 9) (tCons (tVar 10) tNil))) [9, 10] [10]
      [x0, x1, x2, x3, some (.int (a : Nat)), x5, some (.int (m : Nat)), x7, some (.ref p), x9, x10] H Q := by
  refine ⟨.ref p, rfl, p, rfl, ⟨_, hp⟩, fun D hD => ?_⟩
  have hm : ∀ i, (ns.take i).length ≤ 64 := fun i => by
    rw [List.length_take]
    omega
  refine lc_any (walk_list (xs := iv ns)) (fun i H2 => Same H H2 ∧ ∃ acc, H2 D = some (.lst acc) ∧ PrL H2 acc ((ns.take i).flatMap (rowOf a m))) ⟨same_new hD, [], upd_same, .nil⟩ (fun i H2 _ ⟨s2, _⟩ => s2.seq hp) ?_ ?_
  · rintro i x H2 H3 hi ⟨s2, acc, hD2, hacc⟩ ⟨rfl, hx⟩
    obtain ⟨n, hn, rfl⟩ := iv_get hx
    refine ⟨rfl, yes_t ⟨_, rfl, .int (a : Nat), rfl, .int (m : Nat), rfl, _, _, rfl, rfl, _, _, rfl, ⟨by omega, by omega, by omega, by omega⟩, ?_⟩⟩
    have en : (((a : Nat) : Int) + (m : Nat) - (a : Nat)).toNat = m := by omega
    rw [en]
    refine lc_any walk_range (fun j H4 => Same H H4 ∧ ∃ acc, H4 D = some (.lst acc) ∧ PrL H4 acc ((ns.take i).flatMap (rowOf a m) ++ (rowOf a m n).take j)) ⟨s2, acc, hD2, by rw [List.take_zero, List.append_nil]; exact hacc⟩ (fun _ _ _ _ => True.intro) ?_ ?_
    · rintro j y H4 H5 hj ⟨s4, acc4, hD4, ha4⟩ ⟨rfl, rfl⟩
      have hl4 := ha4.len
      rw [List.length_append, rows_len] at hl4
      have hj2 : ((rowOf a m n).take j).length ≤ m := by
        rw [List.length_take, rowOf_len]
        omega
      have hm1 : (ns.take i).length * m ≤ 64 * 64 := Nat.mul_le_mul (hm i) h2
      have hy : (rowOf a m n)[j]? = some (n, a + j) := by
        unfold rowOf
        rw [List.getElem?_map, List.getElem?_range' hj]
        simp
      refine ⟨rfl, yes_t ⟨.int (n : Nat), rfl, .int ((a : Nat) + (j : Nat)), rfl, small (show 2 ≤ 100000 by decide), fun t ht => ?_⟩⟩
      have s5 := same_new (o := .tup [.int (n : Nat), .int ((a : Nat) + (j : Nat))]) ht
      refine ⟨acc4, s5 _ _ hD4, small_lt (by omega), same_mut (s4.trans s5) hD, _, upd_same, ?_⟩
      rw [take_snoc hy, ← List.append_assoc]
      have tk := (TK.of s5).trans (tk_lst (o := .lst (acc4 ++ [.ref t])) (s5 _ _ hD4))
      refine paired_append (PrL.tk ha4 tk) (.cons ⟨t, rfl, (tk_lst (s5 _ _ hD4)).tup _ _ ?_⟩ .nil)
      rw [upd_same]
      rfl
    · rintro H4 ⟨s4, acc4, hD4, ha4⟩
      refine ⟨s4, acc4, hD4, ?_⟩
      rw [flat_snoc _ hn]
      have : (rowOf a m n).take m = rowOf a m n := List.take_of_length_le (by rw [rowOf_len]; exact Nat.le_refl _)
      rw [this] at ha4
      exact ha4
  · rintro H2 ⟨s2, acc, hD2, hacc⟩
    rw [iv_len, List.take_length] at hacc
    exact q D acc H2 s2 hD hD2 hacc
section
variable {P : Program} {w : World} {K : PySem.W.Frag} {mg : Str → Option Value} {base : Heap} {f g : Addr} {fd gd : FuncData} {k : Nat}
def sp_pairs (K : PySem.W.Frag) (d : Nat) : Sp := fun vs H Q _ => ∃ v r n, vs = [v, .int (n : Nat)] ∧ At K H v r ∧ Ok r ∧ depth r ≤ d ∧ n + size r ≤ 64 ∧
  ∀ t l xs H', Same H H' → H l = none → H' t = some (.tup [.int (size r : Nat), .ref l]) → H' l = some (.lst xs) → PrL H' xs (prs r n) → Q (.ref t) H'
theorem ok_pairs {d j : Nat} (D : Dn K mg "pairs_of" s_pairs_of ["run", "begun"] f fd) (B : Blt mg) (C : Kn P w K mg base j "pairs_of" (sp_pairs K d)) (hj : j ≤ k) : Kn P w K mg base (k + 1) "pairs_of" (sp_pairs K (d + 1)) := by
  refine D.kn (D.F.ok sc_pairs_of (fun vs H Q E h => ?_) (fun cdv A outer s H vs Q E hr h => ?_))
  · obtain ⟨v, r, n, rfl, _⟩ := h
    rfl
  obtain ⟨v, r, n, rfl, ha, ho, hd', hz, q⟩ := h
  obtain ⟨a, vs, rfl, hs, ht⟩ := at_iff.mp ha
  refine ⟨_, pss_cons (ps_if (pt_cmpR op_eq (pe_ix ix_tup (pv 0) pe_int (fun _ _ => rfl)) pe_str (nomark _)) (pss_one (ps_ret (pe_tup (pa_cons pe_int (pa_cons (pe_lst pa_nil) pa_nil))))) pss_nil)
    (pss_cons (ps_asg (pe_tup (pa_cons (pe_lst pa_nil) (pa_cons (pe_lst pa_nil) (pa_cons (pv 1) pa_nil)))) (pg_tup rfl (pgs_cons (pg_name (i := 2) sc_pairs_of.nd rfl (Or.inl rfl)) (pgs_cons (pg_name (i := 3) sc_pairs_of.nd rfl (Or.inl rfl)) (pgs_cons (pg_name (i := 4) sc_pairs_of.nd rfl (Or.inr rfl)) pgs_nil)))))
    (pss_cons (ps_for PassesOwn.never rfl (pi_tup (pe_slice sl_tup (pv 0) (po_some pe_int) po_none)) (pg_name (i := 5) sc_pairs_of.nd rfl (Or.inl rfl))
      (pss_cons (ps_asg (pe_kn C hr hj (by rfl) (pa_cons (pv 5) (pa_cons (pv 4) pa_nil))) (pg_tup rfl (pgs_cons (pg_name (i := 6) sc_pairs_of.nd rfl (Or.inr rfl)) (pgs_cons (pg_name (i := 7) sc_pairs_of.nd rfl (Or.inl rfl)) pgs_nil))))
      (pss_cons (ps_if (pt_cmpR op_eq (pe_ix ix_tup (pv 0) pe_int (fun _ _ => rfl)) pe_str (nomark _))
        (pss_one (ps_for PassesOwn.never rfl (pi_list (pv 3)) (pg_name (i := 8) sc_pairs_of.nd rfl (Or.inl rfl))
          (pss_one (ps_expr (pe_bm PySem.F.plainAttrs_list PySem.F.slot_list_extend PySem.F.type_list_extend mt_ext (pv 2) (pa_cons
            (pe_lc2 (own := [("one", 9), ("other", 10)]) (vs1 := [10]) (wi1 := iRng2 (tCons (tVar 4) (tCons (tAdd (tVar 4) (tVar 6)) tNil))) (te := tTup (tCons (tVar 9) (tCons (tVar 10) tNil))) (g := gName 9) (tt := tYes) (g1 := gName 10) (tt1 := tYes) rfl sc_pairs_of.nd (pi_list (pv 8))
              (blkOk_by (N := ["run", "begun", "found", "groups", "at", "part", "many", "pairs", "group", "one", "other"]) (sc := defScope s_pairs_of) (by decide +kernel)) (by decide)
              (fun _ _ _ _ _ => pg_name (i := 9) sc_pairs_of.nd rfl (Or.inl rfl)) (fun _ _ _ _ _ => pts_nil) (fun _ _ _ _ _ => pi_range2 (by rfl) B.zrange (pa_cons (pv 4) (pa_cons (pe_add (pv 4) (pv 6)) pa_nil)))
              (fun _ _ _ _ _ => pg_name (i := 10) sc_pairs_of.nd rfl (Or.inl rfl)) (fun _ _ _ _ _ => pts_nil) (fun _ _ _ _ _ => pe_tup (pa_cons (pv 9) (pa_cons (pv 10) pa_nil)))) pa_nil)))))) pss_nil)
      (pss_cons (ps_expr (pe_bm PySem.F.plainAttrs_list PySem.F.slot_list_extend PySem.F.type_list_extend mt_ext (pv 2) (pa_cons (pv 7) pa_nil)))
      (pss_cons (ps_expr (pe_bm PySem.F.plainAttrs_list PySem.F.slot_list_append PySem.F.type_list_append mt_append (pv 3) (pa_cons (pe_listRg rfl (by rfl) B.zlist (prg_2 (by rfl) B.zrange (pv 4) (pe_add (pv 4) (pv 6)))) pa_nil)))
      (pss_one (ps_aug (i := 4) sc_pairs_of.nd rfl (Or.inr rfl) (pv 6) ip_add)))))))
    (pss_one (ps_ret (pe_tup (pa_cons (pe_sub (pv 4) (pv 1)) (pa_cons (pv 2) pa_nil))))))), ?_⟩
  refine ⟨_, rfl, a, _, 0, _, rfl, rfl, hs, at_zero _ _, rfl, _, rfl, ?_⟩
  rcases step_or2 r with ⟨m, rfl⟩ | ⟨hne, b, rs, hb, hpr, hrest⟩
  · refine iteT ⟨Nat.zero_le _, fun l hl => ?_⟩
    refine ⟨small (show 2 ≤ 100000 by decide), fun t ht2 => ?_⟩
    have hlt : l ≠ t := fun e => by
      rw [← e, upd_same] at ht2
      cases ht2
    refine q t l [] _ ((same_new hl).trans (same_new ht2)) hl (by rw [upd_same]; rfl) (by rw [upd_ne hlt]; exact upd_same) ?_
    rw [prs]
    exact .nil
  obtain ⟨hal, hok, hsz, hln⟩ := hrest vs K H ht ho
  have hl := hal.length
  refine iteNe hne ?_
  refine ⟨Nat.zero_le _, fun F hF => ⟨Nat.zero_le _, fun G hG => ⟨_, rfl, ?_⟩⟩⟩
  have hFG : F ≠ G := fun e => by
    rw [← e, upd_same] at hG
    cases hG
  have s1 := same_new (o := .lst []) hF
  have s2 := same_new (o := .lst []) hG
  have hG0 : H G = none := none_old s1 hG
  refine ⟨small (show 3 ≤ 100000 by decide), fun t ht3 => ?_⟩
  have s3 := same_new (o := .tup [.ref F, .ref G, .int (n : Nat)]) ht3
  refine ⟨t, _, rfl, SqT.of upd_same, rfl, _, _, rfl, _, _, rfl, _, _, rfl, rfl, ?_⟩
  have hFt : F ≠ t := nsn (s2 F _ upd_same) ht3
  have hGt : G ≠ t := nsn upd_same ht3
  have hN : sizeL rs ≤ 64 := by omega
  refine ⟨_, rfl, 1, rfl, a, _, rfl, SqT.sm hs (s1.trans (s2.trans s3)), one_not _ _, fun u hu => ?_⟩
  rw [cut_one]
  have s4 := same_new (o := .tup vs) hu
  refine ⟨u, rfl, ⟨vs, SqT.of upd_same⟩, ?_⟩
  have S4 := s1.trans (s2.trans (s3.trans s4))
  have hF4 := s4 _ _ (s3 _ _ (s2 F _ upd_same))
  have hG4 := s4 _ _ (s3 G _ upd_same)
  refine for_it (walk_tup (xs := vs)) (fun i σ H5 => ∃ y5 y6 y7 y8 y9 y10 acc gs Ns, σ = [some (.ref a), some (.int (n : Nat)), some (.ref F), some (.ref G), some (.int ((n + sizeL (rs.take i) : Nat) : Int)), y5, y6, y7, y8, y9, y10] ∧ Same H H5 ∧ SqT K H5 u vs ∧
      H5 F = some (.lst acc) ∧ PrL H5 acc (prsL b (rs.take i) n n) ∧ H5 G = some (.lst gs) ∧ GrL F G H5 gs Ns ∧ Ns.flatten = List.range' n (sizeL (rs.take i)) ∧ gs.length ≤ i)
    ⟨none, none, none, none, none, none, [], [], [], ?_, S4, SqT.of upd_same, hF4, by rw [List.take_zero, prsL]; exact .nil, hG4, .nil, by rw [List.take_zero, sizeL]; rfl, Nat.le_refl _⟩ (fun i σ H5 _ ⟨_, _, _, _, _, _, _, _, _, _, _, e, _⟩ => e) ?_ ?_
  · rw [List.take_zero, sizeL, Nat.add_zero]
    rfl
  · rintro i x σ H5 H6 hi ⟨y5, y6, y7, y8, y9, y10, acc, gs, Ns, rfl, s5, hu5, hF5, hacc, hG5, hgs, hNs, hgl⟩ ⟨rfl, hx⟩
    obtain ⟨r', hr', hxr⟩ := paired_get hal hx
    have hm := List.mem_of_getElem? hr'
    obtain ⟨o1, o2⟩ := hok r' hm
    have sm := sizeL_le hm
    have ek := take_snoc hr'
    have es : sizeL (rs.take (i + 1)) = sizeL (rs.take i) + size r' := by
      rw [ek, sizeL_append, sizeL, sizeL, Nat.add_zero]
    have hts := sizeL_take rs (i + 1)
    generalize hz0 : n + sizeL (rs.take i) = z
    refine ⟨_, rfl, .int (z : Nat), rfl, x, r', z, rfl, At.tk (.of s5) r' x hxr, o1, by omega, by omega, fun t1 l1 xs1 H7 s7 hl1 ht1 hl7 hx7 => ?_⟩
    have hlF : l1 ≠ F := (nsn hF5 hl1).symm
    have hlG : l1 ≠ G := (nsn hG5 hl1).symm
    have S7 := s5.trans s7
    refine ⟨t1, _, rfl, SqT.of ht1, rfl, _, _, rfl, _, _, rfl, rfl, ?_⟩
    refine ⟨_, rfl, a, _, 0, _, rfl, rfl, SqT.sm hs S7, at_zero _ _, rfl, _, rfl, ?_⟩
    -- behind the test
    have go : ∀ (D0 : Ends) (H8 : Hp) (y8 y9 y10 : Option V) (acc8 : List V), Same H H8 → Kp F G H7 H8 → TK H7 H8 → H8 F = some (.lst acc8) →
        PrL H8 acc8 (prsL b (rs.take i) n n ++ (if b = true then [] else across n z (size r'))) → H8 G = some (.lst gs) →
        (∀ y5 y6 y7 y8 y9 y10 acc gs Ns H5, Same H H5 → SqT K H5 u vs → H5 F = some (.lst acc) → PrL H5 acc (prsL b (rs.take (i + 1)) n n) → H5 G = some (.lst gs) → GrL F G H5 gs Ns → Ns.flatten = List.range' n (sizeL (rs.take (i + 1))) → gs.length ≤ i + 1 →
          D0.nx [some (.ref a), some (.int (n : Nat)), some (.ref F), some (.ref G), some (.int ((n + sizeL (rs.take (i + 1)) : Nat) : Int)), y5, y6, y7, y8, y9, y10] H5) →
        tSeq (tDrop (tBM K "list" (rExt K) (tVar 2) (tCons (tVar 7) tNil))) (tSeq (tDrop (tBM K "list" rAppend (tVar 3) (tCons (tLstRg (tRg2 (tVar 4) (tAdd (tVar 4) (tVar 6)))) tNil))) (tAug 4 (tVar 6) (ipI fun i j => i + j)))
          D0 [some (.ref a), some (.int (n : Nat)), some (.ref F), some (.ref G), some (.int (z : Nat)), some x, some (.int (size r' : Nat)), some (.ref l1), y8, y9, y10] H8 := by
      intro D0 H8 y8 y9 y10 acc8 S8 K8 T8 hF8 ha8 hG8 fin
      have hl8 := K8 l1 _ hlF hlG hl7
      have hx8 := PrL.tk hx7 T8
      have b1 := ha8.len
      have b2 := hx8.len
      have b3 : (prsL b (rs.take i) n n ++ (if b = true then [] else across n z (size r'))).length ≤ 10000 := by
        have c1 := prsL_len b (rs.take i) n n (Nat.le_refl _)
        have c2 := sizeL_take rs i
        have c3 : sizeL (rs.take i) * sizeL (rs.take i) ≤ 64 * 64 := Nat.mul_le_mul (by omega) (by omega)
        rw [Nat.sub_self, Nat.zero_mul] at c1
        rw [List.length_append]
        split
        · simp
          omega
        · rw [across_len]
          have c4 : (z - n) * size r' ≤ 64 * 64 := Nat.mul_le_mul (by omega) (by omega)
          omega
      have b4 : (prs r' z).length ≤ 10000 := by
        have c1 := prs_len r' z
        have c3 : size r' * size r' ≤ 64 * 64 := Nat.mul_le_mul (by omega) (by omega)
        omega
      refine ⟨_, rfl, .inl ⟨rfl, _, SqL.of hF8⟩, .ref l1, rfl, F, l1, acc8, xs1, rfl, rfl, hF8, .inl (SqL.of hl8), small (by omega), ?_⟩
      have S9 : Same H (upd H8 F (.lst (acc8 ++ xs1))) := same_mut S8 hF
      have T9 : TK H8 (upd H8 F (.lst (acc8 ++ xs1))) := tk_lst hF8
      have hG9 : (upd H8 F (.lst (acc8 ++ xs1))) G = some (.lst gs) := by rw [upd_ne hFG.symm]; exact hG8
      have hF9 : (upd H8 F (.lst (acc8 ++ xs1))) F = some (.lst (acc8 ++ xs1)) := upd_same
      have K9 : Kp F G H8 (upd H8 F (.lst (acc8 ++ xs1))) := Kp.fst
      generalize (upd H8 F (.lst (acc8 ++ xs1))) = H9 at S9 T9 hG9 hF9 K9
      have ha9 := paired_append (PrL.tk ha8 T9) (PrL.tk hx8 T9)
      refine ⟨_, rfl, .inl ⟨rfl, _, SqL.of hG9⟩, .int (z : Nat), rfl, .int (z : Nat), rfl, .int (size r' : Nat), rfl, _, _, rfl, rfl, _, _, rfl, rfl, RgOk.of_le (by omega) (by omega) (by omega) (by omega), fun nw hnw => ?_⟩
      have s10 := same_new (o := .lst (rgV ((z : Nat) : Int) ((z : Nat) + (size r' : Nat)))) hnw
      refine ⟨G, gs, _, rfl, rfl, s10 _ _ hG9, small_lt (by omega), ?_⟩
      refine ⟨_, rfl, .int (size r' : Nat), rfl, _, _, rfl, rfl, ?_⟩
      have ez : (((z : Nat) : Int) + (size r' : Nat)) = ((n + sizeL (rs.take (i + 1)) : Nat) : Int) := by rw [es, ← hz0]; omega
      rw [← ez] at fin
      have hnF : nw ≠ F := (nsn hF9 hnw).symm
      have hnG : nw ≠ G := (nsn hG9 hnw).symm
      have S11 : Same H (upd (upd H9 nw (.lst (rgV ((z : Nat) : Int) ((z : Nat) + (size r' : Nat))))) G (.lst (gs ++ [.ref nw]))) := same_mut (S9.trans s10) hG0
      have T11 := (TK.of s10).trans (tk_lst (o := .lst (gs ++ [.ref nw])) (s10 _ _ hG9))
      refine fin _ _ _ _ _ _ (acc8 ++ xs1) (gs ++ [.ref nw]) (Ns ++ [List.range' z (size r')]) _ S11 (SqT.tk hu5 ((TK.of s7).trans (T8.trans (T9.trans T11)))) ?_ ?_ upd_same ?_ ?_ ?_
      · rw [upd_ne hFG]
        exact s10 _ _ hF9
      · rw [ek, prsL_snoc, ← List.append_assoc, hz0]
        exact PrL.tk ha9 T11
      · have k11 : Kp F G H6 (upd (upd H9 nw (.lst (rgV ((z : Nat) : Int) ((z : Nat) + (size r' : Nat))))) G (.lst (gs ++ [.ref nw]))) := (Kp.of s7).trans (K8.trans (K9.trans ((Kp.of s10).trans Kp.snd)))
        refine paired_append (GrL.kp hgs k11) (.cons ⟨nw, rfl, hnF, hnG, ?_⟩ .nil)
        rw [upd_ne hnG, upd_same, rgV_iv]
      · rw [List.flatten_append, hNs, es, List.flatten_singleton, ← hz0, List.range'_append_1]
      · rw [List.length_append, List.length_singleton]
        omega
    have Z7 : z ≤ 64 := by omega
    have kp7 : Kp F G H6 H7 := Kp.of s7
    by_cases hbw : b = true
    · subst hbw
      have hword : hd r ≠ Str.ofString "row" := by
        rcases hb with hb | hb
        · rw [hb] at hm
          simp at hm
        · rw [hb]
          exact word_ne
      refine iteNe hword ?_
      refine go _ H7 y8 y9 y10 acc S7 (fun p o _ _ h => h) (TK.refl _) (s7 _ _ hF5) ?_ (s7 _ _ hG5) ?_
      · rw [if_pos rfl, List.append_nil]
        exact PrL.tk hacc (.of s7)
      · intro y5 y6 y7 y8 y9 y10 acc gs Ns H5 h1 h2 h3 h4 h5 h6 h7 h8
        exact ⟨y5, y6, y7, y8, y9, y10, acc, gs, Ns, rfl, h1, h2, h3, h4, h5, h6, h7, h8⟩
    · have hb' : b = false := by
        cases b
        · rfl
        · exact absurd rfl hbw
      subst hb'
      have hword : hd r = Str.ofString "row" := by
        rcases hb with hb | hb
        · rw [hb] at hm
          simp at hm
        · exact hb
      refine iteEq hword ?_
      refine ⟨_, rfl, G, rfl, ⟨_, SqL.of (s7 _ _ hG5)⟩, ?_⟩
      have nlen := hgs.length
      refine for_it (walk_list (xs := gs)) (fun jj σ H8 => ∃ y8 y9 y10 acc8, σ = [some (.ref a), some (.int (n : Nat)), some (.ref F), some (.ref G), some (.int (z : Nat)), some x, some (.int (size r' : Nat)), some (.ref l1), y8, y9, y10] ∧ Same H H8 ∧ Kp F G H7 H8 ∧ TK H7 H8 ∧
          H8 F = some (.lst acc8) ∧ PrL H8 acc8 (prsL false (rs.take i) n n ++ (Ns.take jj).flatten.flatMap (rowOf z (size r'))) ∧ H8 G = some (.lst gs))
        ⟨y8, y9, y10, acc, rfl, S7, fun p o _ _ h => h, TK.refl _, s7 _ _ hF5, by rw [List.take_zero]; show PrL H7 acc (_ ++ []); rw [List.append_nil]; exact PrL.tk hacc (.of s7), s7 _ _ hG5⟩ (fun _ _ _ _ ⟨_, _, _, _, _, _, _, _, _, _, e⟩ => SqL.of e) ?_ ?_
      · rintro jj gv σ H8 H8' hjj ⟨y8, y9, y10, acc8, rfl, S8, K8, T8, hF8, ha8, hG8⟩ ⟨rfl, hgv⟩
        obtain ⟨ns, hns, p, rfl, hpF, hpG, hp5⟩ := paired_get hgs hgv
        have hp8 := K8 p _ hpF hpG (s7 _ _ hp5)
        have hin : ns.length ≤ 64 := by
          have e1 : ns.length ≤ Ns.flatten.length := (List.sublist_flatten_of_mem (List.mem_of_getElem? hns)).length_le
          rw [hNs, List.length_range'] at e1
          omega
        refine ⟨_, rfl, .inl ⟨rfl, _, SqL.of hF8⟩, ?_⟩
        refine comp_across (p := p) (ns := ns) (SqL.of hp8) hin (by omega) Z7 fun D xs H9 s9 hD0 hD9 hxs => ?_
        have b1 := ha8.len
        have b2 := hxs.len
        have b3 : (prsL false (rs.take i) n n ++ (Ns.take jj).flatten.flatMap (rowOf z (size r'))).length ≤ 10000 := by
          have c1 := prsL_len false (rs.take i) n n (Nat.le_refl _)
          have c2 := sizeL_take rs i
          have c3 : sizeL (rs.take i) * sizeL (rs.take i) ≤ 64 * 64 := Nat.mul_le_mul (by omega) (by omega)
          rw [Nat.sub_self, Nat.zero_mul] at c1
          have c6 : Ns.flatten = (Ns.take jj).flatten ++ (Ns.drop jj).flatten := by rw [← List.flatten_append, List.take_append_drop]
          have c5 := congrArg List.length c6
          rw [hNs, List.length_range', List.length_append] at c5
          have c4 : (Ns.take jj).flatten.length * size r' ≤ 64 * 64 := Nat.mul_le_mul (by omega) (by omega)
          rw [List.length_append, rows_len]
          omega
        have b4 : (ns.flatMap (rowOf z (size r'))).length ≤ 10000 := by
          have c4 : ns.length * size r' ≤ 64 * 64 := Nat.mul_le_mul hin (by omega)
          rw [rows_len]
          omega
        have hF9 := s9 _ _ hF8
        refine ⟨F, D, acc8, xs, rfl, rfl, hF9, .inl (SqL.of hD9), small (by omega), ?_⟩
        refine ⟨_, _, _, acc8 ++ xs, rfl, same_mut (S8.trans s9) hF, K8.trans ((Kp.of s9).trans Kp.fst), T8.trans ((TK.of s9).trans (tk_lst hF9)), upd_same, ?_, ?_⟩
        · rw [flat_take hns, List.flatMap_append, ← List.append_assoc]
          exact paired_append (PrL.tk ha8 ((TK.of s9).trans (tk_lst hF9))) (PrL.tk hxs (tk_lst hF9))
        · rw [upd_ne hFG.symm]
          exact s9 _ _ hG8
      · rintro σ H8 ⟨y8, y9, y10, acc8, rfl, S8, K8, T8, hF8, ha8, hG8⟩
        refine go _ H8 y8 y9 y10 acc8 S8 K8 T8 hF8 ?_ hG8 ?_
        · rw [nlen, List.take_length, hNs] at ha8
          rw [if_neg Bool.false_ne_true]
          have e : across n z (size r') = (List.range' n (sizeL (rs.take i))).flatMap (rowOf z (size r')) := by
            unfold across rowOf
            rw [← hz0, Nat.add_sub_cancel_left]
          rw [e]
          exact ha8
        · intro y5 y6 y7 y8 y9 y10 acc gs Ns H5 h1 h2 h3 h4 h5 h6 h7 h8
          exact ⟨y5, y6, y7, y8, y9, y10, acc, gs, Ns, rfl, h1, h2, h3, h4, h5, h6, h7, h8⟩
  · rintro σ H5 ⟨y5, y6, y7, y8, y9, y10, acc, gs, Ns, rfl, s5, hu5, hF5, hacc, hG5, hgs, hNs, hgl⟩
    rw [hl, List.take_length] at hacc
    rw [hl, List.take_length]
    refine ⟨_, rfl, _, rfl, _, _, rfl, rfl, _, rfl, small (show 2 ≤ 100000 by decide), fun t5 ht5 => ?_⟩
    have s6 := same_new (o := .tup [.int (((n + sizeL rs : Nat) : Int) - (n : Nat)), .ref F]) ht5
    refine q t5 F acc _ (s5.trans s6) hF ?_ (s6 _ _ hF5) ?_
    · rw [upd_same, hsz]
      have : (((n + sizeL rs : Nat) : Int) - (n : Nat)) = ((sizeL rs : Nat) : Int) := by omega
      rw [this]
    · rw [hpr]
      exact PrL.tk hacc (.of s6)
end
end Fk

set_option Elab.async false
set_option linter.all false
set_option maxRecDepth 100000
/-! tuple(list), the object known; a method of such a tuple. -/
namespace Fk
open PySem PySem.Spec PyProof.Rows L2
/-- a tuple of ours whose object is plain -/
def FzT (H : Hp) (p : Addr) (xs : List V) : Prop := ∃ o : Obj, o.cls = .type "tuple" ∧ o.dict = none ∧ H p = some (.frz o (.tup xs))
theorem FzT.tk {H H' : Hp} {p : Addr} {xs : List V} (h : FzT H p xs) (e : TK H H') : FzT H' p xs := let ⟨o, c, d, g⟩ := h; ⟨o, c, d, e.frz _ _ _ g⟩
theorem FzT.sq {K : PySem.W.Frag} {H : Hp} {p : Addr} {xs : List V} (h : FzT H p xs) : SqT K H p xs := let ⟨o, _, _, g⟩ := h; .inl (.inr ⟨o, g⟩)
section
variable {X : Cx}
theorem call_tuple_F : CallR X (.type "tuple") (fun xs H Q => ∃ p ys, xs = [.ref p] ∧ SqL X.K H p ys ∧ ∀ l o, H l = none → FzT (upd H l o) l ys → Q (.ref l) (upd H l o)) := by
  intro pins s σ H xs us Q I r h
  obtain ⟨p, ys, rfl, hq, q⟩ := h
  obtain ⟨u, rfl, rx⟩ := vals1 r
  cases rx
  obtain ⟨its, r', pl, hz⟩ := I.list hq
  have hlen := r'.length
  refine call_tuple_list pl.isList (fun h' kp => ?_) (by simp only [List.size_toArray] <;> omega)
  have I1 : Inv X pins σ H { s with heap := h' } := I.kept (t' := s.toks) kp
  have I2 : Inv X pins σ (upd H h'.objs.size (.frz { cls := .type "tuple", data := .seq its.toArray } (.tup ys))) { s with heap := h'.push { cls := .type "tuple", data := .seq its.toArray } } :=
    I1.laid (t' := s.toks) (fun b o e => Heap.get?_push_of_some _ e) (Nat.le_refl _) (show ObjOk X.prog X.w _ _ _ (.frz { cls := .type "tuple", data := .seq its.toArray } (.tup ys)) from ⟨Heap.get?_push_size _ rfl, hz, its, r', IsTup.new _ _⟩)
  exact ⟨.ref h'.objs.size, _, I2, rfl, q _ _ (I1.hok.fresh (Nat.le_refl _)) ⟨_, rfl, rfl, upd_same⟩⟩
/-- t.m(..) of such a tuple -/
def tBMT (r : V → List V → Hp → VK → Prop) (to : TE) (t : TA) : TE := fun σ H Q => to σ H fun x H1 => (∃ p xs, x = .ref p ∧ FzT H1 p xs) ∧ t σ H1 fun xs H2 => r x xs H2 Q
theorem pe_bmT {o e : Expr} {es : List Expr} {to : TE} {t : TA} {name : Str} {apos cpos : Pos} {id : String} {r : V → List V → Hp → VK → Prop} (pa : PlainAttrs "tuple") (slot : Slot "tuple" name id) (hty : typeOf (.builtin id) = pure (.type "method_descriptor")) (hm : MtR X id r) (ho : PE X o to) (ha : PA X (e :: es) t)
    (hbase : attributeBase o name X.env (eval o X.env) = eval o X.env := by rfl)
    (hfew : ((backTo cpos (starEach (e :: es) X.env)).all (fun x => !x.1) && (backToKw cpos (keywordEach [] X.env)).all (fun x => x.1.isSome)
      && decide ((e :: es).length + ([] : List Keyword).length + (if ([] : List Keyword).isEmpty then 0 else 1) < 30)) = true := by rfl)
    (hline : (apos.endLine == cpos.line) = true := by rfl) (hs : starEach (e :: es) X.env = (false, eval e X.env) :: starEach es X.env := by rfl) (hplain : (backTo cpos (starEach es X.env)).any (·.1) = false := by rfl) :
    PE X (.Call (.Attribute o name apos) (e :: es) [] cpos) (tBMT r to t) := by
  refine ⟨fun pins s σ H Q I h => ?_⟩
  refine wpAny_Call_method_late hbase hfew hline rfl (thn (ho.run pins s σ H _ I h) fun v s1 ⟨x, H1, I1, r1, ty, q1⟩ => ?_)
  obtain ⟨p, xs, rfl, o, oc, od, hp⟩ := ty
  obtain rfl : v = Value.ref p := r1
  obtain ⟨hT, _⟩ := (show ObjOk X.prog X.w H1 s1.heap p (.frz o (.tup xs)) from I1.hok p _ hp)
  refine ⟨"tuple", id, pa, slot, hty, ⟨_, hT, oc⟩, fun a ea => ?_, ?_⟩
  · cases ea
    exact ⟨_, hT, od⟩
  have hA := ha.run cpos pins s1 σ H1 _ I1 q1
  rw [hs] at hA ⊢
  refine Calls.callWith_builtin (by show (false || (backTo cpos (starEach es X.env)).any (·.1)) = false; rw [hplain] <;> rfl) (Calls.evalArgs_plain ?_)
  exact thn hA fun us s2 ⟨vs, H2, I2, r2, q2⟩ => hm pins s2 σ H2 (.ref p) vs (.ref p) us Q I2 rfl r2 q2
end
end Fk

set_option Elab.async false
set_option linter.all false
set_option maxRecDepth 100000
/-! order_of. -/
namespace Fk
open PySem PySem.Spec PyProof.Rows L2
abbrev s_order_of : Stmt := topS 35
theorem sc_order_of : FnScope ["run"] ["run"] (defScope s_order_of) := ⟨rfl, rfl, rfl, by decide +kernel, rfl, by decide +kernel, by decide +kernel⟩
theorem paired_perm {α β : Type} {F : α → β → Prop} {xs xs' : List α} (p : xs.Perm xs') : ∀ {ys : List β}, Paired F xs ys → ∃ ys', ys.Perm ys' ∧ Paired F xs' ys' := by
  induction p with
  | nil => exact fun h => ⟨_, .refl _, h⟩
  | cons x _ ih =>
    intro ys h
    cases h with
    | cons h t =>
      obtain ⟨zs, p1, p2⟩ := ih t
      exact ⟨_, p1.cons _, .cons h p2⟩
  | swap x y l =>
    intro ys h
    cases h with
    | cons h t =>
      cases t with
      | cons h2 t => exact ⟨_, List.Perm.swap _ _ _, .cons h2 (.cons h t)⟩
  | trans _ _ ih1 ih2 =>
    intro ys h
    obtain ⟨zs, p1, p2⟩ := ih1 h
    obtain ⟨us, p3, p4⟩ := ih2 p2
    exact ⟨us, p1.trans p3, p4⟩
section
variable {P : Program} {w : World} {K : PySem.W.Frag} {mg : Str → Option Value} {base : Heap} {f g : Addr} {fd gd : FuncData} {k : Nat}
theorem all_pairs (D : Dn K mg "pairs_of" s_pairs_of ["run", "begun"] f fd) (B : Blt mg) : ∀ d : Nat, Kn P w K mg base d "pairs_of" (sp_pairs K d)
  | 0 => Kn.zero D fun vs H Q E ⟨v, r, _, _, _, _, h, _⟩ => no_zero h
  | d + 1 => ok_pairs D B (all_pairs D B d) (Nat.le_refl _)
/-- an order that order_of told: labels and pairs -/
structure OrdAt (K : PySem.W.Frag) (H : Hp) (v : V) (ns : List Str) (ps : List (Nat × Nat)) : Prop where
  ex : ∃ t a b ys, v = .ref t ∧ H t = some (.tup [.ref a, .ref b]) ∧ FzT H a (ns.map V.str) ∧ H b = some (.tup ys) ∧ PrL H ys ps
theorem OrdAt.tk {H H' : Hp} {v : V} {ns : List Str} {ps : List (Nat × Nat)} (h : OrdAt K H v ns ps) (e : TK H H') : OrdAt K H' v ns ps := by
  obtain ⟨t, a, b, ys, h1, h2, h3, h4, h5⟩ := h
  exact ⟨t, a, b, ys, h1, e.tup _ _ h2, h3.tk e, e.tup _ _ h4, h5.tk e⟩
def sp_order (K : PySem.W.Frag) : Sp := fun vs H Q _ => ∃ v r, vs = [v] ∧ At K H v r ∧ Ok r ∧ depth r ≤ 40 ∧ size r ≤ 64 ∧ ∀ v' ps H', Same H H' → ps.Perm (prs r 0) → OrdAt K H' v' (names r) ps → Q v' H'
theorem ok_order {i j l : Nat} (D : Dn K mg "order_of" s_order_of ["run"] f fd) (B : Blt mg) (C0 : Kn P w K mg base i "need_run" (sp_need_run K)) (C1 : Kn P w K mg base j "names_along" (sp_names K 40)) (C2 : Kn P w K mg base l "pairs_of" (sp_pairs K 40)) (hi : i ≤ k) (hj : j ≤ k) (hl : l ≤ k) :
    Kn P w K mg base (k + 1) "order_of" (sp_order K) := by
  refine D.kn (D.F.ok sc_order_of (fun vs H Q E h => ?_) (fun cdv A outer s H vs Q E hr h => ?_))
  · obtain ⟨v, r, rfl, _⟩ := h
    rfl
  obtain ⟨v, r, rfl, ha, ho, hd', hz, q⟩ := h
  refine ⟨_, pss_cons (ps_expr (pe_kn C0 hr hi (by rfl) (pa_cons (pv 0) pa_nil))) (pss_one (ps_ret (pe_tup (pa_cons (pe_callTy call_tuple_F (by rfl) B.ztuple bt_tuple (pa_cons (pe_kn C1 hr hj (by rfl) (pa_cons (pv 0) pa_nil)) pa_nil))
    (pa_cons (pe_callTy call_tuple_of (by rfl) B.ztuple bt_tuple (pa_cons (pe_callB cr_sortedP (by rfl) B.zsorted bt_sorted (pa_cons (pe_ix ix_tup (pe_kn C2 hr hl (by rfl) (pa_cons (pv 0) (pa_cons pe_int pa_nil))) pe_int (fun _ _ => rfl)) pa_nil)) pa_nil)) pa_nil))))), ?_⟩
  refine ⟨_, rfl, v, r, rfl, ha, ho, hd', by omega, fun H1 s1 => ?_⟩
  refine ⟨_, rfl, v, r, rfl, At.tk (.of s1) r v ha, ho, hd', by omega, fun p1 H2 s2 hp10 hp1 => ?_⟩
  refine ⟨p1, _, rfl, SqL.of hp1, fun a oa ha2 hfa => ?_⟩
  have s3 := same_new (o := oa) ha2
  refine ⟨_, rfl, v, r, 0, rfl, At.tk (.of (s1.trans (s2.trans s3))) r v ha, ho, hd', by omega, fun t l xs H4 s4 hl0 ht4 hl4 hx4 => ?_⟩
  refine ⟨t, _, 1, _, rfl, rfl, SqT.of ht4, at_first _ _ _, ?_⟩
  refine ⟨l, xs, rfl, SqL.of hl4, fun x hx => ?_, fun ys p5 hp5 hn5 => ?_⟩
  · obtain ⟨i, hi⟩ := List.getElem?_of_mem hx
    obtain ⟨pr, _, b, h1, h2⟩ := paired_get hx4 hi
    exact ⟨b, _, _, h1, h2⟩
  have s5 := same_new (o := .lst ys) hn5
  refine ⟨p5, ys, rfl, .inl ⟨SqL.of upd_same, fun b hb6 => ?_⟩⟩
  have s6 := same_new (o := .tup ys) hb6
  refine ⟨small (show 2 ≤ 100000 by decide), fun t7 ht7 => ?_⟩
  have s7 := same_new (o := .tup [.ref a, .ref b]) ht7
  obtain ⟨ps, e1, e2⟩ := paired_perm hp5.symm hx4
  refine q _ ps _ (s1.trans (s2.trans (s3.trans (s4.trans (s5.trans (s6.trans s7)))))) e1.symm ⟨t7, a, b, ys, rfl, upd_same, ?_, s7 _ _ upd_same, ?_⟩
  · exact hfa.tk (.of (s4.trans (s5.trans (s6.trans s7))))
  · exact PrL.tk e2 (.of (s5.trans (s6.trans s7)))
end
end Fk

set_option Elab.async false
set_option linter.all false
set_option maxRecDepth 100000
/-! A dict made by a comprehension whose keys are tuples. -/
namespace Fk
open PySem PySem.Spec PyProof.Rows L2
section
variable {X : Cx}
/-- one more pair is stored -/
theorem dT_set {pins : List (Addr × Obj)} {σ : L2.St} {H : Hp} {s : Shared} {E : Value → Shared → Prop} {D b : Addr} {kvs : List (List L2.Key × V)} {k : List L2.Key} {v : V} {u r : Value} {Q : Unit → Shared → Prop} (hu : X.A.units + 1 < cLine) (I : Inv X pins σ H s)
    (hD : H D = some (.dT kvs)) (hz : kvs.length < sizeLine) (hb : H b = some (.tup (k.map kV))) (ry : RelV (.ref b) u) (rv : RelV v r) (h : ∀ s', Inv X pins σ (upd H D (.dT (putK kvs k v))) s' → Q () s') :
    wpAny (model X.prog X.w) X.A (dictSet D u r) Q E s := by
  obtain rfl : u = Value.ref b := ry
  obtain ⟨z, nd, xs, rel, dd⟩ := dt_of I.hok hD
  have lz : xs.length ≤ sizeLine := by rw [← Paired.length rel]; exact z
  refine wpAny_dictSet_heap (hsz := lz) (show X.A.units < cLine by omega) (key_of I.hok hb) dd fun h' dd' hs => h _ ?_
  obtain ⟨q, es, ep, hq, q2, q3, q4, _, q5⟩ := dd'
  have lk : (putK kvs k v).length ≤ sizeLine := by
    have := length_putK kvs k v
    omega
  refine d_write I (by rw [hD]; exact True.intro) hs ⟨q, hq⟩ ⟨lk, nd, _, (rel.put k hb rv).keeps fun c ys ec => ?_, q, es, ep, hq, q2, q3, q4, q5⟩
  rw [upd_ne (ne_of ec hD (fun z => nomatch z))]
  exact ec
/-- {k: v for target in iter}, keys tuples: D the new dict -/
def tDcT (wi : TI) (g : TG) (tk tv : TE) (vs : List Nat) : TE := fun σ H Q => wi σ H fun J H1 => ∀ D, H1 D = none → ∃ W : Nat → Nat → Hp → Prop, (∃ m, W 0 m (upd H1 D (.dT []))) ∧ ∀ i m H, W i m H →
  (J.stop i H ∧ Q (.ref D) H) ∨ (J.go i H ∧ ∃ Nx : Hp → Prop, (∀ H', Nx H' → ∃ m', m' < m ∧ W (i + 1) m' H') ∧ ∀ x H', J.yld i H x H' → g x (wipe σ vs) H' fun σ2 H2 => wipe σ2 vs = wipe σ vs ∧
    tk σ2 H2 fun y H4 => tv σ2 H4 fun z H5 => ∃ kvs k b, y = .ref b ∧ H5 b = some (.tup (k.map kV)) ∧ H5 D = some (.dT kvs) ∧ kvs.length < sizeLine ∧ Nx (upd H5 D (.dT (putK kvs k z))))
theorem pe_dcT {kx vx tg iter : Expr} {scope : Scope} {own : List (Str × Nat)} {pos : Pos} {wi : TI} {g : TG} {tk tv : TE} (hc : X.calm = true) (hu : X.A.units + 1 < cLine) (hN : X.N.Nodup) (hi : PI X tg iter wi) (ok : BlkOk X.N X.env.scope scope own)
    (hg : ∀ (s : Shared) (H : Hp) (C : Addr) (cl : List (Str × Addr)) (fp : List Addr), PG (X.blk s H scope (compEnvC scope cl C X.env) fp) tg g)
    (hk : ∀ (s : Shared) (H : Hp) (C : Addr) (cl : List (Str × Addr)) (fp : List Addr), PE (X.blk s H scope (compEnvC scope cl C X.env) fp) kx tk)
    (hv : ∀ (s : Shared) (H : Hp) (C : Addr) (cl : List (Str × Addr)) (fp : List Addr), PE (X.blk s H scope (compEnvC scope cl C X.env) fp) vx tv) (hs : ∀ x, foldedSetIterable iter X.env x = pure x := by intro _; rfl) :
    PE X (.DictComp kx vx [⟨tg, iter, [], 0⟩] scope pos) (tDcT wi g tk tv (own.map (·.2))) := by
  refine ⟨fun pins s σ H Q I h => ?_⟩
  rw [arm_eval_DictComp]
  have free : ∀ y ∈ scope.names, y.2 = .free → ∃ c, X.env.cells.lookup y.1 = some c := fun y hy e => I.ok.has _ (ok.free y hy e)
  refine wpAny_comprehension_free (use := none) rfl hs (closure_ok free) ok.kind (fun y hy e => by rw [ok.uniq y hy, e]) (thn (hi.run pins s σ H _ I h) fun xv s1 hx => thn hx fun itv s2 h2 => ?_)
  obtain ⟨it, fp, tn, J, H2, rfl, I2, T, st2, f2, q⟩ := h2
  refine wpAny_newObj_type (newEnv_comp ?_)
  have free2 : H2 s2.heap.objs.size = none := I2.hok.fresh (Nat.le_refl _)
  obtain ⟨W, ⟨m0, w0⟩, turn⟩ := q _ free2
  -- the dict is laid, the block begins
  have old : ∀ b ∈ fp, b < s2.heap.objs.size := fun b hb => by
    obtain ⟨o, e, _⟩ := T.obj _ _ st2 b hb
    exact Heap.lt_size e
  have I3 := I2.laid (a := s2.heap.objs.size) (o := .dT []) (t' := s2.toks) (fun b o e => Heap.get?_push_of_some { cls := .type "dict", data := .dict #[] } e) (Nat.le_refl _) (dt_empty s2.heap I2.big)
  generalize hs3 : ({ s2 with heap := s2.heap.push { cls := .type "dict", data := .dict #[] } } : Shared) = s3 at I3 ⊢
  have g3 : s3.heap = s2.heap.push { cls := .type "dict", data := .dict #[] } := by rw [← hs3]
  generalize hD : s2.heap.objs.size = D at *
  generalize hH3 : upd H2 D (.dT []) = H3 at *
  have f3 : ∀ b ∈ fp, FpOk X pins H3 b ∧ b < s3.heap.objs.size := fun b hb => by
    obtain ⟨c1, c2⟩ := f2 b hb
    refine ⟨⟨?_, c2⟩, by rw [g3, Heap.size_push, hD]; exact Nat.lt_succ_of_lt (old b hb)⟩
    rw [← hH3, upd_ne (Nat.ne_of_lt (old b hb))]
    exact c1
  have st3 : tn 0 s3.heap := T.keep _ _ _ st2 fun b _ o e => by rw [g3]; exact Heap.get?_push_of_some _ e
  have I4 := block_start I3 ok hN f3
  generalize hcl : cellsFrom (s3.heap.objs.size + 1) scope.names (cloFrom X.env.cells scope.names []) = cl at I4
  have pg := hg s3 H3 s3.heap.objs.size cl fp
  have pk := hk s3 H3 s3.heap.objs.size cl fp
  have pv := hv s3 H3 s3.heap.objs.size cl fp
  generalize hce : compEnvC scope cl s3.heap.objs.size X.env = ce at I4 pg pk pv
  have ceL : ce.locals = s3.heap.objs.size := by rw [← hce]; rfl
  have nofp : ∀ b ∈ fp, H3 b = none := fun b hb => (f3 b hb).1.1
  generalize hs4 : ({ s3 with heap := pushCells (s3.heap.push { cls := .type "dict", data := .dict #[] }) scope.names } : Shared) = s4 at I4
  have st4 : tn 0 s4.heap := T.keep _ _ _ st3 fun b _ o e => by rw [← hs4]; exact pushCells_keeps _ _ _ _ (Heap.get?_push_of_some _ e)
  show codeAny _ _ (.compStart (.DictComp kx vx [⟨tg, iter, [], 0⟩] scope pos) 0 (.ref it) (.ref D) (compEnvC scope cl s3.heap.objs.size X.env)) (compPost (model X.prog X.w) X.A X.xe none (EP X pins σ Q) (.ref D) s3.heap.objs.size) s4
  rw [hce]
  -- an iterator of the block stays as it is
  have still : ∀ {σ' : L2.St} {H' : Hp} {s' : Shared}, Inv (X.blk s3 H3 scope ce fp) [] σ' H' s' → (∀ b ∈ fp, H' b = none) → ∀ b ∈ fp, FpOk (X.blk s3 H3 scope ce fp) [] H' b := fun I' z b hb =>
    ⟨z b hb, (I'.ok.exf b hb).1, I'.ok.exfs b hb, .inl hb, fun x c e => (I'.ok.exf b hb).2 x c e, fun p hp => by cases (show p ∈ ([] : List (Addr × Obj)) from hp)⟩
  have loop : codeAny (model X.prog X.w) X.A (.compLoop (.DictComp kx vx [⟨tg, iter, [], 0⟩] scope pos) 0 (.ref it) (.ref D) ce) (compPost (model X.prog X.w) X.A X.xe none (EP X pins σ Q) (.ref D) s3.heap.objs.size) s4 := by
    refine compLoop_anyD (fun n s' => ∃ i H', Inv (X.blk s3 H3 scope ce fp) [] (wipe σ (own.map (·.2))) H' s' ∧ tn i s'.heap ∧ (∀ b ∈ fp, H' b = none) ∧ W i n H') ?_ m0 ⟨0, H3, I4, st4, nofp, w0⟩
    rintro n s5 ⟨i, H5, I5, st5, n5, w5⟩
    rcases turn i n H5 w5 with ⟨stop, fin⟩ | ⟨go, Nx, hNx, step⟩
    · refine thnF (T.done (X.blk s3 H3 scope ce fp) rfl rfl rfl hc i [] s5 _ H5 (fun _ _ => False) I5 (still I5 n5) st5 stop) fun r s6 ⟨hr, I6⟩ => ?_
      subst hr
      have I7 : Inv X pins σ H5 s6 := I3.call' (ch := fp) I6.os I6.base I6.hok I6.bare fun b hb => ⟨(f3 b hb).1.2.2.2.1, (f3 b hb).1.2.1, (f3 b hb).1.2.2.2.2.1, (f3 b hb).1.2.2.2.2.2⟩
      obtain ⟨m, hm, _⟩ := I6.loc
      have hm' : s6.heap.Ns ce.locals m := hm
      have hf : H5 ce.locals = none := I6.free
      rw [ceL] at hm' hf
      obtain ⟨c0, c1, c2, c3, c4, c5⟩ := I3.fpOk (b := s3.heap.objs.size) (Nat.le_refl _) hf
      exact ⟨m, hm', fun h'' sb => ⟨.ref D, H5, I7.turned (t' := s6.toks) (fun b o hb e => (sb.2 b hb).trans e) c0 c1 c3 c4 c5, rfl, fin⟩⟩
    · refine thnF (T.item (X.blk s3 H3 scope ce fp) rfl rfl rfl hc i [] s5 _ H5 (fun _ _ => False) I5 (still I5 n5) st5 go) fun r s6 ⟨u, hr, h6⟩ => ?_
      subst hr
      refine thnF h6 fun _ s7 ⟨x, H7, I7, r7, y7, st7, n7⟩ => ?_
      have J7 := I7.pinned (still I7 n7) (T.obj _ _ st7)
      refine thnF (pg.run _ s7 _ H7 x u _ J7 r7 (step x H7 y7)) fun _ s8 ⟨σ8, H8, I8, hw, q8⟩ => ?_
      refine thnF ((pts_nil (X := X.blk s3 H3 scope ce fp)).run _ s8 σ8 H8 (fun b H' => b = true ∧ H' = H8) I8 ⟨rfl, rfl⟩) fun bo s9 ⟨H9, I9, e1, e2⟩ => ?_
      subst e1 e2
      simp only [if_true]
      refine thnF (pk.run _ s9 σ8 H9 _ I9 q8) fun z s10 ⟨yk, H10, I10, r10, q10⟩ => thnF (pv.run _ s10 σ8 H10 _ I10 q10) fun z2 s11 ⟨yv, H11, I11, r11, kvs, k, b, ek, hb, hD11, hz, nx⟩ => ?_
      subst ek
      refine dT_set (X := X.blk s3 H3 scope ce fp) hu I11 hD11 hz hb r10 r11 fun s12 I12 => ?_
      obtain ⟨m', lt, w'⟩ := hNx _ nx
      have pin : ∀ b ∈ fp, ∀ o, s7.heap.get? b = some o → s12.heap.get? b = some o ∧ _ := fun b hb o e =>
        let z := I12.pin (b, o) (List.mem_append_right _ (List.mem_append_right _ (mem_pinsAt hb e)))
        ⟨z.1, z.2.1⟩
      refine ⟨m', lt, i + 1, _, (I12.unpinned (pins := [])).weak (by rw [← hw, wipe_length]) (fun j v e => ?_), T.keep _ _ _ st7 fun b hb o e => (pin b hb o e).1, fun b hb => ?_, w'⟩
      · rw [← hw] at e
        exact (wipe_some e).1
      · obtain ⟨o, e, _⟩ := T.obj _ _ st7 b hb
        exact (pin b hb o e).2
  exact codeAny_compStart_dict loop (T.self X.A 0 _ _ _ st4 loop)
end
end Fk

set_option Elab.async false
set_option linter.all false
set_option maxRecDepth 100000
/-! are_pairs. -/
namespace Fk
open PySem PySem.Spec PyProof.Rows L2
abbrev s_are_pairs : Stmt := topS 31
theorem sc_are_pairs : FnScope ["pairs", "many", "pair", "at", "one", "other"] ["pairs", "many"] (defScope s_are_pairs) := ⟨rfl, rfl, rfl, by decide +kernel, rfl, by decide +kernel, by decide +kernel⟩
theorem dec_nat {i j : Nat} (h : i ≠ j) : decide (V.int ((i : Nat) : Int) = V.int ((j : Nat) : Int)) = false := decide_eq_false fun e => h (Int.ofNat.inj (V.int.inj e : (i : Int) = (j : Int)))
/-- a list or a tuple is walked -/
def iSq (K : PySem.W.Frag) (te : TE) : TI := fun σ H R => iList K te σ H R ∨ iTup K te σ H R
theorem pi_sq {X : Cx} {tg l : Expr} {te : TE} (he : PE X l te) : PI X tg l (iSq X.K te) := ⟨fun pins s σ H R I h => h.elim (fun h => (pi_list he).run pins s σ H R I h) fun h => (pi_tup he).run pins s σ H R I h⟩
theorem isq_rd {K : PySem.W.Frag} {σ : L2.St} {H : Hp} {R : It → Hp → Prop} {i : Nat} {a : Addr} {xs : List V} (hσ : σ[i]? = some (some (.ref a))) (hs : Sq K H a xs) (h : ∀ J G, Walk J xs.length G (YAt xs) → (∀ H', Same H H' → G H') → R J H) : iSq K (tVar i) σ H R :=
  hs.elim (fun hs => .inl ⟨_, hσ, a, rfl, ⟨xs, hs⟩, h _ _ walk_list fun H' s' => s'.seq hs⟩) fun hs => .inr ⟨_, hσ, a, rfl, ⟨xs, hs⟩, h _ _ walk_tup fun H' s' => SqT.sm hs s'⟩
theorem pk_get {p q : Nat × Nat} : ([.inl ((p.1 : Nat) : Int), .inl ((p.2 : Nat) : Int)] : List L2.Key) = [.inl ((q.1 : Nat) : Int), .inl ((q.2 : Nat) : Int)] ↔ p = q := by
  constructor
  · intro h
    simp only [List.cons.injEq, Sum.inl.injEq, and_true] at h
    exact Prod.ext (Int.ofNat.inj h.1) (Int.ofNat.inj h.2)
  · rintro rfl
    rfl
/-- pairs as keys -/
def pk (p : Nat × Nat) : List L2.Key := [.inl ((p.1 : Nat) : Int), .inl ((p.2 : Nat) : Int)]
def pd (ps : List (Nat × Nat)) : List (List L2.Key × V) := ps.map fun p => (pk p, .bl true)
theorem pd_put {p : Nat × Nat} {ps : List (Nat × Nat)} (h : p ∉ ps) : putK (pd ps) (pk p) (.bl true) = pd (ps ++ [p]) := by
  unfold putK
  have : ((pd ps).any fun kv => decide (kv.1 = pk p)) = false := by
    rw [List.any_eq_false]
    intro kv hkv
    obtain ⟨q, hq, rfl⟩ := List.mem_map.mp hkv
    simp only [decide_eq_true_eq]
    intro e
    exact h (pk_get.mp e ▸ hq)
  rw [this]
  show pd ps ++ [(pk p, .bl true)] = _
  unfold pd
  rw [List.map_append]
  rfl
section
variable {P : Program} {w : World} {K : PySem.W.Frag} {mg : Str → Option Value} {base : Heap} {f g : Addr} {fd gd : FuncData} {k : Nat}
def sp_are_pairs (K : PySem.W.Frag) : Sp := fun vs H Q _ => ∃ a xs ps m, vs = [.ref a, .int (m : Nat)] ∧ Sq K H a xs ∧ PrL H xs ps ∧ ps.Nodup ∧ (∀ p ∈ ps, p.1 < m ∧ p.2 < m ∧ p.1 ≠ p.2) ∧ ps.length ≤ 10000 ∧ ∀ H', Same H H' → Q (.bl true) H'
theorem ok_are_pairs {i j : Nat} (D : Dn K mg "are_pairs" s_are_pairs ["pairs", "many"] f fd) (B : Blt mg) (C0 : Kn P w K mg base i "is_list" (sp_is_list K)) (C : Kn P w K mg base j "is_index" sp_is_index) (hi : i ≤ k) (hj : j ≤ k) : Kn P w K mg base (k + 1) "are_pairs" (sp_are_pairs K) := by
  refine D.kn (D.F.ok sc_are_pairs (fun vs H Q E h => ?_) (fun cdv A outer s H vs Q E hr h => ?_))
  · obtain ⟨a, xs, ps, m, rfl, _⟩ := h
    rfl
  obtain ⟨a, xs, ps, m, rfl, hs, hx, nd, hp, hl, q⟩ := h
  refine ⟨_, pss_cons (ps_if (pt_not (pt_val (pe_kn C0 hr hi (by rfl) (pa_cons (pv 0) pa_nil)))) pss_never pss_nil)
    (pss_cons (ps_for PassesOwn.never rfl (pi_sq (pv 0)) (pg_name (i := 2) sc_are_pairs.nd rfl (Or.inl rfl))
      (pss_one (ps_if (pw_or (pt_not (pt_val (pe_callB call_isi (by rfl) B.zisinstance bt_isinstance (pa_cons (pv 2) (pa_cons (pe_bltn (v := .ty "tuple") (by rfl) B.ztuple bt_tuple rfl) pa_nil)))))
        (pw_or (pt_cmpR op_ne (pe_callB call_len_seq (by rfl) B.zlen bt_len (pa_cons (pv 2) pa_nil)) pe_int (nomark _))
        (pw_or1 (pt_not (pt_val (pe_callB (cr_all rfl) (by rfl) B.zall bt_all (pa_cons (pe_lc (own := [("at", 3)]) (g := gName 3) (tt := tYes) rfl sc_are_pairs.nd (pi_tup (pv 2)) (blkOk_by (N := ["pairs", "many", "pair", "at", "one", "other"]) (sc := defScope s_are_pairs) (by decide +kernel))
          (fun _ _ _ _ _ => pg_name (i := 3) sc_are_pairs.nd rfl (Or.inl rfl)) (fun _ _ _ _ _ => pts_nil) (fun _ _ _ _ _ => pe_kn C hr hj (by rfl) (pa_cons (pv 3) (pa_cons (pv 1) pa_nil)))) pa_nil))))))).pt pss_never pss_nil)))
    (pss_one (ps_ret (pe_and (pe_cmpR op_eq (pe_callB call_len_dT (by rfl) B.zlen bt_len (pa_cons (pe_dcT (own := [("pair", 2)]) (g := gName 2) rfl (room1 hr) sc_are_pairs.nd (pi_sq (pv 0)) (blkOk_by (N := ["pairs", "many", "pair", "at", "one", "other"]) (sc := defScope s_are_pairs) (by decide +kernel))
        (fun _ _ _ _ _ => pg_name (i := 2) sc_are_pairs.nd rfl (Or.inl rfl)) (fun _ _ _ _ _ => pv 2) (fun _ _ _ _ _ => pe_bl)) pa_nil)) (pe_callB call_len_seq (by rfl) B.zlen bt_len (pa_cons (pv 0) pa_nil)) (nomark _))
      (pe_one (pe_callB (cr_all rfl) (by rfl) B.zall bt_all (pa_cons (pe_lc (own := [("one", 4), ("other", 5)]) (g := gTup K 2 (gCons (gName 4) (gCons (gName 5) gNil))) (tt := tYes) rfl sc_are_pairs.nd (pi_sq (pv 0)) (blkOk_by (N := ["pairs", "many", "pair", "at", "one", "other"]) (sc := defScope s_are_pairs) (by decide +kernel))
          (fun _ _ _ _ _ => pg_tup rfl (pgs_cons (pg_name (i := 4) sc_are_pairs.nd rfl (Or.inl rfl)) (pgs_cons (pg_name (i := 5) sc_are_pairs.nd rfl (Or.inl rfl)) pgs_nil))) (fun _ _ _ _ _ => pts_nil) (fun _ _ _ _ _ => pe_cmpR op_ne (pv 4) (pv 5) (nomark _))) pa_nil))))))), ?_⟩
  have hxl := hx.len
  refine ⟨_, rfl, a, xs, rfl, hs, fun H1 s1 => ⟨true, rfl, iteF ?_⟩⟩
  have hs1 := hs.sm s1
  have hx1 := hx.tk (.of s1)
  refine isq_rd rfl hs1 fun J G W hG => ?_
  refine for_it W (fun i σ H2 => ∃ y2 y3 y4 y5, σ = [some (.ref a), some (.int (m : Nat)), y2, y3, y4, y5] ∧ Same H1 H2) ⟨none, none, none, none, rfl, Same.refl H1⟩ (fun i σ H2 _ ⟨_, _, _, _, _, s⟩ => hG H2 s) ?_ ?_
  · rintro i x σ H2 H3 hi2 ⟨y2, y3, y4, y5, rfl, s2⟩ ⟨rfl, hxi⟩
    obtain ⟨p, hpi, b, rfl, hb⟩ := paired_get hx1 hxi
    obtain ⟨l1, l2, _⟩ := hp p (List.mem_of_getElem? hpi)
    have hb2 : SqT K _ b _ := SqT.of (s2 _ _ hb)
    refine ⟨_, rfl, _, _, _, _, true, rfl, .ty _, SqT.ty hb2, kit_ty (by decide +kernel), true, rfl, iteF ?_⟩
    refine ⟨_, rfl, b, _, rfl, .inr hb2, rfl, false, rfl, iteF ?_⟩
    refine ⟨_, rfl, b, rfl, ⟨_, hb2⟩, fun D1 hD1 => ?_⟩
    refine lcb true (walk_tup (xs := [.int (p.1 : Nat), .int (p.2 : Nat)])) hD1 (show 2 ≤ 100000 by decide) (fun H' s' => SqT.sm hb2 s') (fun jj y H0 H' Kt hj2 s0 fin y' => ?_) (fun H4 s4 e4 => ?_)
    · obtain ⟨rfl, hy⟩ := y'
      refine ⟨rfl, ?_⟩
      match jj, hj2 with
      | 0, _ =>
        simp at hy
        subst hy
        exact ⟨_, rfl, .int (m : Nat), rfl, _, _, rfl, by omega, by omega, fin _ (Same.refl _)⟩
      | 1, _ =>
        simp at hy
        subst hy
        exact ⟨_, rfl, .int (m : Nat), rfl, _, _, rfl, by omega, by omega, fin _ (Same.refl _)⟩
    · refine ⟨D1, _, rfl, SqL.of e4, true, congrArg V.bl (all_rep _), iteF ?_⟩
      exact ⟨_, _, _, _, rfl, s2.trans s4⟩
  · rintro σ H2 ⟨y2, y3, y4, y5, rfl, s2⟩
    have hs2 := hs1.sm s2
    have hx2 := hx1.tk (.of s2)
    refine isq_rd rfl hs2 fun J G W hG => fun D hD => ?_
    refine lc_any W (fun i H3 => Same H2 H3 ∧ H3 D = some (.dT (pd (ps.take i)))) ⟨same_new hD, upd_same⟩ (fun i H3 _ ⟨s3, _⟩ => hG H3 s3) ?_ ?_
    · rintro i x H3 H4 hi3 ⟨s3, hD3⟩ ⟨rfl, hxi⟩
      obtain ⟨p, hpi, b, rfl, hb⟩ := paired_get hx2 hxi
      refine ⟨rfl, _, rfl, pd (ps.take i), pk p, b, rfl, s3 _ _ hb, hD3, small_lt ?_, same_mut s3 hD, ?_⟩
      · unfold pd
        rw [List.length_map, List.length_take]
        omega
      · rw [upd_same]
        rw [take_snoc hpi]
        have : p ∉ ps.take i := fun hm => by
          have h1 := nd.sublist (List.take_sublist (i + 1) ps)
          rw [take_snoc hpi, List.nodup_append] at h1
          exact h1.2.2 p hm p (List.mem_singleton.mpr rfl) rfl
        rw [← pd_put this]
    · rintro H3 ⟨s3, hD3⟩
      rw [hxl, List.take_length] at hD3
      refine ⟨D, _, rfl, hD3, _, rfl, a, xs, rfl, hs2.sm s3, rfl, true, congrArg V.bl (decide_eq_true ?_), iteT ?_⟩
      · unfold pd
        rw [List.length_map, hxl]
      have hs3 := hs2.sm s3
      have hx3 := hx2.tk (.of s3)
      refine isq_rd rfl hs3 fun J G W hG => fun D2 hD2 => ?_
      refine lcb true W hD2 (by omega) hG (fun jj y H0 H' Kt hj2 s0 fin y' => ?_) (fun H4 s4 e4 => ?_)
      · obtain ⟨rfl, hy⟩ := y'
        obtain ⟨p, hpi, b, rfl, hb⟩ := paired_get hx3 hy
        obtain ⟨_, _, l3⟩ := hp p (List.mem_of_getElem? hpi)
        refine ⟨b, _, rfl, SqT.of (s0 _ _ hb), rfl, _, _, rfl, _, _, rfl, rfl, rfl, .int (p.1 : Nat), rfl, .int (p.2 : Nat), rfl, rfl, ?_⟩
        have e : (!decide (V.int ((p.1 : Nat) : Int) = V.int ((p.2 : Nat) : Int))) = true := by
          rw [dec_nat l3]
          rfl
        rw [e]
        exact fin _ (Same.refl _)
      · refine ⟨D2, _, rfl, SqL.of e4, ?_⟩
        rw [all_rep]
        exact q _ (s1.trans (s2.trans (s3.trans s4)))
end
end Fk

set_option Elab.async false
set_option linter.all false
set_option maxRecDepth 100000
/-! aheads. -/
namespace Fk
open PySem PySem.Spec PyProof.Rows L2
abbrev s_aheads : Stmt := topS 33
theorem sc_aheads : FnScope ["labels", "pairs", "many", "ways", "found", "other", "one", "at"] ["labels", "pairs"] (defScope s_aheads) := ⟨rfl, rfl, rfl, by decide +kernel, rfl, by decide +kernel, by decide +kernel⟩
/-- the block's scope of a name = [..] -/
def lcSc : Stmt → Scope
  | .Assign _ (.ListComp _ _ sc _) _ => sc
  | _ => defScope (.Pass ⟨0, 0, 0, 0⟩)
/-- those behind i -/
def nbrOf (ps : List (Nat × Nat)) (i : Nat) : List Nat := (ps.filter fun p => p.1 == i).map (·.2)
theorem mem_nbr {ps : List (Nat × Nat)} {i y : Nat} : y ∈ nbrOf ps i ↔ (i, y) ∈ ps := by
  unfold nbrOf
  rw [List.mem_map]
  constructor
  · rintro ⟨p, hp, rfl⟩
    obtain ⟨h1, h2⟩ := List.mem_filter.mp hp
    have : p.1 = i := by simpa using h2
    rw [← this]
    exact h1
  · intro h
    exact ⟨(i, y), List.mem_filter.mpr ⟨h, by simp⟩, rfl⟩
theorem nbr_snoc {ps : List (Nat × Nat)} {i j : Nat} {p : Nat × Nat} (h : ps[j]? = some p) : nbrOf (ps.take (j + 1)) i = if p.1 = i then nbrOf (ps.take j) i ++ [p.2] else nbrOf (ps.take j) i := by
  unfold nbrOf
  rw [take_snoc h, List.filter_append]
  by_cases e : p.1 = i
  · rw [if_pos e, List.map_append]
    simp [e]
  · rw [if_neg e]
    simp [e]
theorem nbr_len (ps : List (Nat × Nat)) (hn : ps.Nodup) (i n : Nat) (h : ∀ p ∈ ps, p.2 < n) : (nbrOf ps i).length ≤ n := by
  have h1 : (nbrOf ps i).Nodup := by
    unfold nbrOf
    rw [List.nodup_iff_pairwise_ne, List.pairwise_map]
    refine (List.nodup_iff_pairwise_ne.mp (hn.sublist (List.filter_sublist (p := fun p => p.1 == i)))).imp_of_mem fun {a b} ha hb hab e => hab ?_
    have a1 : a.1 = i := by simpa using (List.mem_filter.mp ha).2
    have b1 : b.1 = i := by simpa using (List.mem_filter.mp hb).2
    exact Prod.ext (a1.trans b1.symm) e
  have h2 := nodup_len (ns := List.range n) h1 fun y hy => List.mem_range.mpr (h (i, y) (mem_nbr.mp hy))
  rw [List.length_range] at h2
  exact h2
theorem reach_nbr {ps : List (Nat × Nat)} (tr : ∀ x y z, (x, y) ∈ ps → (y, z) ∈ ps → (x, z) ∈ ps) {x y : Nat} : Reach (nbrOf ps) x y ↔ (x, y) ∈ ps := by
  constructor
  · intro h
    induction h with
    | one h => exact mem_nbr.mp h
    | more _ h ih => exact tr _ _ _ ih (mem_nbr.mp h)
  · exact fun h => .one (mem_nbr.mpr h)
abbrev DkA (D : Addr) (H : Hp) : V → List Nat → Prop := fun v ks => ∃ p, v = .ref p ∧ p ≠ D ∧ H p = some (.dK (kd ks))
theorem DkL.kp {D : Addr} {H H' : Hp} {vs : List V} {Ks : List (List Nat)} (h : Paired (DkA D H) vs Ks) (e : Kp D D H H') : Paired (DkA D H') vs Ks := by
  induction h with
  | nil => exact .nil
  | cons h _ ih =>
    obtain ⟨p, h1, h2, h4⟩ := h
    exact .cons ⟨p, h1, h2, e p _ h2 h2 h4⟩ ih
/-- the answer of aheads -/
def Ahd (H : Hp) (v : V) (n : Nat) (rel : Nat → Nat → Bool) : Prop := ∃ a ds, v = .ref a ∧ H a = some (.lst ds) ∧ ∀ i < n, ∃ p ks, ds[i]? = some (.ref p) ∧ H p = some (.dK (kd ks)) ∧ ∀ y, y ∈ ks ↔ rel i y = true
theorem Ahd.sm {H H' : Hp} {v : V} {n : Nat} {rel : Nat → Nat → Bool} (h : Ahd H v n rel) (e : Same H H') : Ahd H' v n rel := by
  obtain ⟨a, ds, h1, h2, h3⟩ := h
  refine ⟨a, ds, h1, e _ _ h2, fun i hi => ?_⟩
  obtain ⟨p, ks, c1, c2, c3⟩ := h3 i hi
  exact ⟨p, ks, c1, e _ _ c2, c3⟩
def relOf (ps : List (Nat × Nat)) : Nat → Nat → Bool := fun x y => decide ((x, y) ∈ ps)
theorem map_range_snoc {α : Type} (f : Nat → α) (i : Nat) : (List.range (i + 1)).map f = (List.range i).map f ++ [f i] := by
  rw [List.range_succ, List.map_append]
  rfl
section
variable {P : Program} {w : World} {K : PySem.W.Frag} {mg : Str → Option Value} {base : Heap} {f g : Addr} {fd gd : FuncData} {k : Nat}
def sp_aheads (K : PySem.W.Frag) : Sp := fun vs H Q _ => ∃ la ns a xs ps, vs = [.ref la, .ref a] ∧ SqT K H la (List.map V.str ns) ∧ (∀ n ∈ ns, isName n) ∧ ns.length ≤ 30 ∧ Sq K H a xs ∧ PrL H xs ps ∧ ps.Nodup ∧ (∀ p ∈ ps, p.1 < ns.length ∧ p.2 < ns.length ∧ p.1 ≠ p.2) ∧
  (∀ x y z, (x, y) ∈ ps → (y, z) ∈ ps → (x, z) ∈ ps) ∧ ps.length ≤ 10000 ∧ ∀ v H', Same H H' → Ahd H' v ns.length (relOf ps) → Q v H'
theorem ok_aheads {i j l : Nat} (D : Dn K mg "aheads" s_aheads ["labels", "pairs"] f fd) (B : Blt mg) (C0 : Kn P w K mg base i "need_labels" (sp_need_labels K)) (C1 : Kn P w K mg base j "are_pairs" (sp_are_pairs K)) (C2 : Kn P w K mg base l "reached_from" (sp_reached K)) (hi : i ≤ k) (hj : j ≤ k) (hl : l ≤ k) :
    Kn P w K mg base (k + 1) "aheads" (sp_aheads K) := by
  refine D.kn (D.F.ok sc_aheads (fun vs H Q E h => ?_) (fun cdv A outer s H vs Q E hr h => ?_))
  · obtain ⟨la, ns, a, xs, ps, rfl, _⟩ := h
    rfl
  obtain ⟨la, ns, a, xs, ps, rfl, hla, hns, hnl, hs, hx, nd, hp, tr, hpl, q⟩ := h
  refine ⟨_, pss_cons (ps_expr (pe_kn C0 hr hi (by rfl) (pa_cons (pv 0) pa_nil)))
    (pss_cons (ps_set (i := 2) sc_aheads.nd rfl (Or.inl rfl) (pe_callB call_len_seq (by rfl) B.zlen bt_len (pa_cons (pv 0) pa_nil)))
    (pss_cons (ps_if (pt_not (pt_val (pe_kn C1 hr hj (by rfl) (pa_cons (pv 1) (pa_cons (pv 2) pa_nil))))) pss_never pss_nil)
    (pss_cons (ps_set (i := 3) sc_aheads.nd rfl (Or.inr rfl) (pe_lc (own := [("at", 7)]) (g := gName 7) (tt := tYes) (te := tLc (iSq K (tVar 1)) (gTup K 2 (gCons (gName 6) (gCons (gName 5) gNil))) (tTest (tOp rEq (tVar 6) (tVar 7))) (tVar 5) [6, 5]) rfl sc_aheads.nd
        (pi_range1 (by rfl) B.zrange (pa_cons (pv 2) pa_nil)) (blkOk_by (N := ["labels", "pairs", "many", "ways", "found", "other", "one", "at"]) (sc := defScope s_aheads) (by decide +kernel))
        (fun _ _ _ _ _ => pg_name (i := 7) sc_aheads.nd rfl (Or.inr rfl)) (fun _ _ _ _ _ => pts_nil)
        (fun _ _ _ _ _ => pe_lc (own := [("one", 6), ("other", 5)]) rfl sc_aheads.nd (pi_sq (pv 1))
          (blkOk_by (N := ["labels", "pairs", "many", "ways", "found", "other", "one", "at"]) (sc := relS (lcSc ((defBody s_aheads).getD 3 (.Pass ⟨0, 0, 0, 0⟩))) (defScope s_aheads)) (by decide +kernel))
          (fun _ _ _ _ _ => pg_tup rfl (pgs_cons (pg_name (i := 6) sc_aheads.nd rfl (Or.inl rfl)) (pgs_cons (pg_name (i := 5) sc_aheads.nd rfl (Or.inl rfl)) pgs_nil)))
          (fun _ _ _ _ _ => pts_one (pt_cmpR op_eq (pv 6) (pv 7) (nomark _))) (fun _ _ _ _ _ => pv 5))))
    (pss_cons (ps_set (i := 4) sc_aheads.nd rfl (Or.inr rfl) (pe_lc (own := [("at", 7)]) (g := gName 7) (tt := tYes) (te := tCall (sp_reached K) [] E0 (tCons (tVar 7) (tCons (tVar 3) tNil))) rfl sc_aheads.nd
        (pi_range1 (by rfl) B.zrange (pa_cons (pv 2) pa_nil)) (blkOk_by (N := ["labels", "pairs", "many", "ways", "found", "other", "one", "at"]) (sc := defScope s_aheads) (by decide +kernel))
        (fun _ _ _ _ _ => pg_name (i := 7) sc_aheads.nd rfl (Or.inl rfl)) (fun _ _ _ _ _ => pts_nil) (fun _ _ _ _ _ => pe_kn C2 hr hl (by rfl) (pa_cons (pv 7) (pa_cons (pv 3) pa_nil)))))
    (pss_cons (ps_if (pt_val (pe_callB (cr_any rfl) (by rfl) B.zany bt_any (pa_cons (pe_lc (own := [("at", 7)]) (g := gName 7) (tt := tYes) (te := tDIn (tVar 7) (tOp (rIxL K) (tVar 4) (tVar 7))) rfl sc_aheads.nd
        (pi_range1 (by rfl) B.zrange (pa_cons (pv 2) pa_nil)) (blkOk_by (N := ["labels", "pairs", "many", "ways", "found", "other", "one", "at"]) (sc := defScope s_aheads) (by decide +kernel))
        (fun _ _ _ _ _ => pg_name (i := 7) sc_aheads.nd rfl (Or.inl rfl)) (fun _ _ _ _ _ => pts_nil) (fun _ _ _ _ _ => pe_cmp (pc_din (room1 hr) (pv 7) (pe_ix ix_list (pv 4) (pv 7) (fun _ _ => rfl))))) pa_nil))) pss_never pss_nil)
    (pss_one (ps_ret (pv 4)))))))), ?_⟩
  refine ⟨_, rfl, la, ns, rfl, hla, hns, hnl, fun H1 s1 => ?_⟩
  refine ⟨_, rfl, la, _, rfl, .inr (SqT.sm hla s1), ?_⟩
  rw [List.length_map]
  generalize hn : ns.length = n at *
  refine ⟨_, rfl, .int (n : Nat), rfl, a, xs, ps, n, rfl, hs.sm s1, hx.tk (.of s1), nd, hp, hpl, fun H2 s2 => ⟨true, rfl, iteF ?_⟩⟩
  have hs2 := hs.sm (s1.trans s2)
  have hx2 := hx.tk (.of (s1.trans s2))
  have hxl := hx.len
  have hnb : ∀ i, (nbrOf ps i).length ≤ n := fun i => nbr_len ps nd i n fun p hp' => (hp p hp').2.1
  -- ways
  refine ⟨.int (n : Nat), rfl, _, rfl, by omega, by omega, fun D hD => ?_⟩
  refine lcx (walk_range (lo := 0)) hD (by omega) (fun i acc H3 => GrL D D H3 acc ((List.range i).map (nbrOf ps))) .nil (fun _ _ => True.intro) ?_ ?_
  · rintro i acc x H3 H4 Kt Kf hi3 s3 hD3 hlen hacc fin _ ⟨rfl, rfl⟩
    refine ⟨rfl, yes_t ?_⟩
    have s23 : Same H2 _ := s3
    have hs3 := hs2.sm s3
    have hx3 := hx2.tk (.of s3)
    refine isq_rd rfl hs3 fun J G W hG => fun D2 hD2 => ?_
    refine lcx W hD2 (by omega) (fun jj acc2 _ => acc2 = iv (nbrOf (ps.take jj) i)) rfl hG ?_ ?_
    · rintro jj acc2 y H5 H6 Kt2 Kf2 hj3 s5 hD5 hlen2 rfl fin2 finF ⟨rfl, hy⟩
      obtain ⟨p, hpi, b, rfl, hb⟩ := paired_get hx3 hy
      refine ⟨b, _, rfl, SqT.of (s5 _ _ hb), rfl, _, _, rfl, _, _, rfl, rfl, rfl, .int (p.1 : Nat), rfl, .int (0 + (i : Nat)), rfl, rfl, _, rfl, ?_⟩
      have ns' := nbr_snoc (i := i) hpi
      by_cases e : p.1 = i
      · rw [if_pos e] at ns'
        have e2 : decide (V.int ((p.1 : Nat) : Int) = V.int (0 + (i : Nat))) = true := decide_eq_true (by rw [e, Int.zero_add])
        rw [e2]
        refine iteT ⟨.int (p.2 : Nat), rfl, fin2 _ _ (Same.refl _) ?_⟩
        show _ = iv (nbrOf (ps.take (jj + 1)) i)
        rw [ns', iv_app]
        rfl
      · rw [if_neg e] at ns'
        have e2 : decide (V.int ((p.1 : Nat) : Int) = V.int (0 + (i : Nat))) = false := by
          rw [Int.zero_add]
          exact dec_nat e
        rw [e2]
        refine iteF (finF _ (Same.refl _) ?_)
        show _ = iv (nbrOf (ps.take (jj + 1)) i)
        rw [ns']
    · rintro acc2 H5 s5 hD5 _ rfl
      rw [hxl, List.take_length] at hD5
      refine fin _ _ s5 ?_
      rw [map_range_snoc]
      have hne : D2 ≠ D := (nsn hD3 hD2).symm
      exact paired_append (GrL.kp hacc ((Kp.of s5).trans Kp.fst)) (.cons ⟨D2, rfl, hne, hne, by rw [upd_ne hne]; exact hD5⟩ .nil)
  rintro acc H3 s3 hD3 _ hacc
  have en : ((n : Nat) : Int).toNat = n := by omega
  rw [en] at hacc
  -- found
  have W3 : Ways K H3 (.ref D) (nbrOf ps) (List.range n) := by
    refine ⟨fun i hi => ?_, fun i hi j hj => List.mem_range.mpr (hp (i, j) (mem_nbr.mp hj)).2.1, List.nodup_range, by rw [List.length_range]; omega, fun i hi => Nat.le_trans (hnb i) (by omega)⟩
    have hi' := List.mem_range.mp hi
    have hlt : i < acc.length := by
      rw [hacc.length, List.length_map, List.length_range]
      exact hi'
    obtain ⟨y, h1, p, h2, _, _, h3⟩ := paired_get hacc (List.getElem?_eq_getElem hlt)
    rw [List.getElem?_map, List.getElem?_range hi'] at h1
    cases h1
    exact ⟨p, SqL.of h3, .inl ⟨D, acc, rfl, SqL.of hD3, by rw [List.getElem?_eq_getElem hlt, h2]⟩⟩
  refine ⟨.int (n : Nat), rfl, _, rfl, by omega, by omega, fun D2 hD2 => ?_⟩
  refine lcx (walk_range (lo := 0)) hD2 (by omega) (fun i acc H4 => ∃ Ks : List (List Nat), Ks.length = i ∧ Paired (DkA D2 H4) acc Ks ∧ ∀ jj ks, Ks[jj]? = some ks → ∀ y, y ∈ ks ↔ (jj, y) ∈ ps) ⟨[], rfl, .nil, fun jj ks h => by simp at h⟩ (fun _ _ => True.intro) ?_ ?_
  · rintro i acc2 x H4 H5 Kt Kf hi3 s4 hD4 hlen ⟨Ks, k1, k2, k3⟩ fin _ ⟨rfl, rfl⟩
    have e0 : (0 : Int) + (i : Nat) = ((i : Nat) : Int) := Int.zero_add _
    refine ⟨rfl, yes_t ⟨.int ((i : Nat) : Int), congrArg (fun z => some (some (V.int z))) e0, .ref D, rfl, i, .ref D, nbrOf ps, List.range n, rfl, List.mem_range.mpr (by omega), W3.sm s4, fun p H6 ks s6 hp0 hp6 nd6 r6 _ => ?_⟩⟩
    refine fin _ _ s6 ⟨Ks ++ [ks], by rw [List.length_append, k1]; rfl, ?_, fun jj ks' hj => ?_⟩
    · have hne : p ≠ D2 := (nsn hD4 hp0).symm
      exact paired_append (DkL.kp k2 ((Kp.of s6).trans Kp.fst)) (.cons ⟨p, rfl, hne, by rw [upd_ne hne]; exact hp6⟩ .nil)
    · by_cases hlt : jj < Ks.length
      · rw [List.getElem?_append_left hlt] at hj
        exact k3 jj ks' hj
      · rw [List.getElem?_append_right (by omega)] at hj
        have : jj - Ks.length = 0 := by
          by_cases h0 : jj - Ks.length = 0
          · exact h0
          · rw [List.getElem?_eq_none (by simp; omega)] at hj
            cases hj
        rw [this] at hj
        cases hj
        have : jj = i := by omega
        subst this
        intro y
        rw [r6, reach_nbr tr]
  rintro acc2 H4 s4 hD4 _ ⟨Ks, k1, k2, k3⟩
  rw [en] at k1
  have A4 : Ahd H4 (.ref D2) n (relOf ps) := by
    refine ⟨D2, acc2, rfl, hD4, fun i hi => ?_⟩
    have hlt : i < acc2.length := by
      rw [k2.length, k1]
      exact hi
    obtain ⟨ks, h1, p, h2, _, h3⟩ := paired_get k2 (List.getElem?_eq_getElem hlt)
    refine ⟨p, ks, by rw [List.getElem?_eq_getElem hlt, h2], h3, fun y => ?_⟩
    rw [k3 i ks h1 y]
    unfold relOf
    exact decide_eq_true_iff.symm
  -- none of them reaches itself
  refine ⟨.int (n : Nat), rfl, _, rfl, by omega, by omega, fun D3 hD3 => ?_⟩
  refine lcb false (walk_range (lo := 0)) hD3 (by omega) (fun _ _ => True.intro) (fun i x H5 H6 Kt hi5 s5 fin y => ?_) (fun H5 s5 e5 => ?_)
  · obtain ⟨rfl, rfl⟩ := y
    have e0 : (0 : Int) + (i : Nat) = ((i : Nat) : Int) := Int.zero_add _
    obtain ⟨_, ds, h1, h2, h3⟩ := A4.sm s5
    cases h1
    obtain ⟨p, ks, c1, c2, c3⟩ := h3 i (by omega)
    refine ⟨rfl, .int ((i : Nat) : Int), congrArg (fun z => some (some (V.int z))) e0, .ref D2, rfl, .int ((i : Nat) : Int), congrArg (fun z => some (some (V.int z))) e0, D2, ds, _, .ref p, rfl, rfl, SqL.of h2, atI_nat c1, p, _, rfl, DGet.k (k := .inl (i : Nat)) c2, ?_⟩
    rw [kd_some]
    have : i ∉ ks := fun hm => by
      have h4 := (c3 i).mp hm
      unfold relOf at h4
      exact (hp (i, i) (of_decide_eq_true h4)).2.2 rfl
    rw [decide_eq_false this]
    exact fin _ (Same.refl _)
  · refine ⟨D3, _, rfl, SqL.of e5, false, congrArg V.bl (any_rep _), iteF ?_⟩
    exact ⟨.ref D2, rfl, q _ _ (s1.trans (s2.trans (s3.trans (s4.trans s5)))) (A4.sm s5)⟩
end
end Fk

set_option Elab.async false
set_option linter.all false
set_option maxRecDepth 100000
/-! A dict's display with another dict's pairs behind it. -/
namespace Fk
open PySem PySem.Spec PyProof.Rows L2
section
variable {prog : Program} {w : World} {κ : Type} [DecidableEq κ] {knd : PySem.KeyKind prog w κ} {A : Around} {E : Value → Shared → Prop} {s : Shared}
/-- one pair is put -/
theorem put_pairs {d : Addr} {kvs : List (κ × Value)} {k : κ} {key v : Value} {Q : Unit → Shared → Prop} (hkey : knd.is k key = true) (hm : s.heap.DictOf knd d kvs)
    (hQ : ∀ h', h'.DictOf knd d (stored kvs k v) → Heap.SameBut d s.heap h' → Q () { s with heap := h' }) (hsz : kvs.length ≤ sizeLine) : wpAny (model prog w) A (dictPut d (knd.hash k) key v) Q E s := by
  obtain ⟨o, es, ep, ho, hc, hd, hk, hp, hn⟩ := hm
  have lz : es.size ≤ sizeLine := by
    have e1 := hp.length
    rw [Array.length_toList] at e1
    omega
  have ix : (es.findIdx? fun e => knd.is k e.key) = kvs.findIdx? fun kv => decide (kv.1 = k) := by
    rw [← hp.findIdx k]
    obtain ⟨l⟩ := es
    simp
  unfold dictPut
  refine wpAny_bind (wpAny_dictFind_of hkey ho hd hk ?_)
  cases hi : es.findIdx? fun e => knd.is k e.key with
  | some i =>
    have there := any_of_findIdx_some (ix ▸ hi)
    have hl : (es.toList.findIdx? fun e => knd.is k e.key) = some i := by
      rw [← hi]
      obtain ⟨l⟩ := es
      simp
    refine wpAny_updateDict ho hd (hQ _ ⟨_, _, ep, Heap.get?_update_self _ ho (Obj.isFreed_of_dict (Obj.data_mapDict hd _)), hc.mapDict _, Obj.data_mapDict hd _, hk.modify _ _, ?_, ?_⟩ (Heap.SameBut.update ..))
    · rw [stored, if_pos there]
      have := hp.modify hn hl v
      obtain ⟨l⟩ := es
      simpa using this
    · rw [stored, if_pos there, keys_map_store]
      exact hn
  | none =>
    have out := not_mem_of_findIdx_none (ix ▸ hi)
    have none' : ¬ (kvs.any fun kv => decide (kv.1 = k)) = true := fun z => by
      obtain ⟨kv, h1, h2⟩ := List.any_eq_true.mp z
      exact out (List.mem_map.mpr ⟨kv, h1, of_decide_eq_true h2⟩)
    refine wpAny_updateDictKeys (hz := lz) ho hd (hQ _ ⟨_, _, ep + 1, Heap.get?_update_self _ ho (Obj.isFreed_of_dict (Obj.data_mapDictKeys hd _)), hc.mapDictKeys _, Obj.data_mapDictKeys hd _, hk.push hkey _, ?_, ?_⟩ (Heap.SameBut.update ..))
    · rw [stored, if_neg none']
      have := hp.append hkey (knd.hash k) v
      obtain ⟨l⟩ := es
      simpa using this
    · rw [stored, if_neg none', List.map_append, List.nodup_append]
      refine ⟨hn, List.pairwise_singleton _ _, fun a ha b hb e => ?_⟩
      rw [List.mem_singleton.mp hb] at e
      exact out ((show a = k from e) ▸ ha)
/-- all pairs of another dict are put -/
theorem merge_pairs {d o : Addr} {kvs more : List (κ × Value)} {Q : Unit → Shared → Prop} (hne : d ≠ o) (h0 : kvs ≠ []) (ho0 : (o == sysModules) = false) (hd : s.heap.DictOf knd d kvs) (ho : s.heap.DictOf knd o more)
    (hQ : ∀ h', h'.DictOf knd d (merged kvs more) → Heap.SameBut d s.heap h' → Q () { s with heap := h' }) (hsz : kvs.length + more.length ≤ sizeLine) : wpAny (model prog w) A (mergeMapping d (.ref o) false) Q E s := by
  obtain ⟨od, esd, epd, hod, hcd, hdd, hkd, hpd, hnd⟩ := id hd
  obtain ⟨oo, eso, epo, hoo, hco, hdo, hko, hpo, hno⟩ := id ho
  have ty : s.TypeIs (.ref o) "dict" := ho.typeIs
  unfold mergeMapping
  have len : more.length = eso.size := by
    rw [← hpo.length, Array.length_toList]
  have some0 : esd.isEmpty = false := by
    have e := hpd.length
    rw [Array.length_toList] at e
    cases hb : esd.isEmpty with
    | false => rfl
    | true =>
      rw [Array.isEmpty_iff.mp hb] at e
      exact absurd (List.length_eq_zero_iff.mp e.symm) h0
  refine wpAny_bind (wpAny_isInstance (U := "dict") (b := true) ty (by rfl) ?_)
  dsimp only
  rw [if_pos rfl]
  refine wpAny_bind (wpAny_specialOf ty PySem.F.slot_dict_iter.lookup ?_)
  refine wpAny_bind (wpAny_pure ?_)
  have eb : (some (Value.builtin "dict.__iter__") == some (Value.builtin "dict.__iter__")) = true := by decide +kernel
  rw [eb]
  dsimp only
  rw [if_neg (by rw [ho0]; exact Bool.false_ne_true)]
  refine wpAny_bind (wpAny_dictEntries hod hdd ?_)
  rw [some0, if_neg Bool.false_ne_true]
  refine wpAny_bind (wpAny_dictEntries hoo hdo ?_)
  refine wpAny_bind (wpAny_dictEpoch hoo hdo ?_)
  refine wpAny_bind (wpAny_forIn_list _ (fun rest _ s' => ∃ h' i, s' = { s with heap := h' } ∧ rest = List.range' i (eso.size - i) ∧ i ≤ eso.size ∧ h'.DictOf knd d (merged kvs (more.take i)) ∧ h'.get? o = some oo ∧ Heap.SameBut d s.heap h') _ ?_ ?_ _ _
    ⟨s.heap, 0, rfl, by rw [Nat.sub_zero, List.range_eq_range'], Nat.zero_le _, by simpa [merged] using hd, hoo, Heap.SameBut.refl _ _⟩)
  · rintro x rest b s' ⟨h', i, rfl, hr, hi, hd', hoo', hs'⟩
    have hlt : i < eso.size := by
      refine Nat.lt_of_not_le fun z => ?_
      rw [Nat.sub_eq_zero_of_le z] at hr
      cases hr
    rw [show eso.size - i = (eso.size - (i + 1)) + 1 by omega, List.range'_succ] at hr
    injection hr with hx hrest
    subst hx
    refine wpAny_bind (wpAny_dictEntries hoo' hdo ?_)
    rw [Array.getElem?_eq_getElem hlt]
    dsimp only
    have hlt2 : x < more.length := by rw [len]; exact hlt
    obtain ⟨kk, vv, hkv⟩ : ∃ kk vv, more[x]? = some (kk, vv) := ⟨_, _, List.getElem?_eq_getElem hlt2⟩
    obtain ⟨hkey, hval⟩ := hpo.get? (e := eso[x]) (by simp [hlt]) hkv
    obtain ⟨k', hkey', hhash⟩ := hko eso[x] (Array.getElem_mem hlt)
    obtain rfl : k' = kk := knd.inj _ _ _ hkey' hkey
    rw [if_neg Bool.false_ne_true, hhash, hval]
    have lm : (merged kvs (more.take x)).length ≤ sizeLine := by
      have e1 := merged_length_le kvs (more.take x)
      rw [List.length_take] at e1
      omega
    refine wpAny_bind (wpAny_holding (put_pairs hkey hd' (fun h'' hd'' hs'' => ?_) lm))
    have hoo'' : h''.get? o = some oo := (hs''.2 o (Ne.symm hne)).trans hoo'
    refine wpAny_bind (wpAny_dictEpoch hoo'' hdo ?_)
    rw [if_neg (by simp)]
    exact wpAny_pure ⟨h'', x + 1, rfl, hrest, hlt, by rw [merged_take_succ kvs more x (k', vv) hkv]; exact hd'', hoo'', hs'.trans hs''⟩
  · rintro b s' ⟨h', i, rfl, hr, hi, hd', hoo', hs'⟩
    have hin : i = eso.size := by
      refine Nat.le_antisymm hi (Nat.le_of_not_lt fun z => ?_)
      rw [show eso.size - i = (eso.size - (i + 1)) + 1 by omega, List.range'_succ] at hr
      cases hr
    refine wpAny_pure (hQ h' ?_ hs')
    rw [hin, ← len, List.take_length] at hd'
    exact hd'
/-- {k: v, **m} -/
theorem display2 {k v m : Sem Value} {Q : Value → Shared → Prop} (h : wpAny (model prog w) A (subDict [(k, v)]) (fun d s1 => wpAny (model prog w) A m (fun mv s2 => ∃ o kvs more, mv = .ref o ∧ d ≠ o ∧ kvs ≠ [] ∧ (o == sysModules) = false ∧ s2.heap.DictOf knd d kvs ∧ s2.heap.DictOf knd o more ∧ kvs.length + more.length ≤ sizeLine ∧
      ∀ h', h'.DictOf knd d (merged kvs more) → Heap.SameBut d s2.heap h' → Q (.ref d) { s2 with heap := h' }) E s1) E s) : wpAny (model prog w) A (dictDisplay [(some k, v), (none, m)]) Q E s := by
  unfold dictDisplay
  dsimp only
  simp only [List.forIn_cons, List.forIn_nil, pure_bind, bind_assoc, List.nil_append, List.isEmpty_nil, List.isEmpty_cons, if_pos, if_true]
  rw [if_neg (show ¬ ([(k, v)].length == 17) = true by simp)]
  refine wpAny_bind (wpAny_pure ?_)
  dsimp only
  rw [if_neg (show ¬ ([(k, v)] : List (Sem Value × Sem Value)).isEmpty = true by simp)]
  refine wpAny_bind (wpAny_bind (wpAny_bind (wpAny_mono h (fun d s1 h1 => wpAny_pure ?_) fun _ _ e => e)))
  refine wpAny_bind (wpAny_bind (wpAny_holding (wpAny_mono h1 (fun mv s2 h2 => ?_) fun _ _ e => e)))
  obtain ⟨o, kvs, more, rfl, c1, c2, c3, c4, c5, c6, q⟩ := h2
  refine wpAny_bind (wpAny_onRaise (wpAny_tryCatch (wpAny_onRaise (wpAny_holding (merge_pairs c1 c2 c3 c4 c5 (fun h' a b => ?_) c6)))))
  refine wpAny_pure (wpAny_pure (wpAny_bind ?_))
  dsimp only
  rw [if_pos (by rfl)]
  exact wpAny_pure (wpAny_pure (q h' a b))
end
section
variable {X : Cx}
/-- {k: v, **m}, keys ints or texts -/
def tDisp2 (tk tv tm : TE) : TE := fun σ H Q => ∀ p, H p = none → tk σ (upd H p (.dK [])) fun x H1 => tv σ H1 fun y H2 => H2 p = some (.dK []) ∧ ∃ key, x = kV key ∧ tm σ (upd H2 p (.dK [(key, y)])) fun z H3 => ∃ o more, z = .ref o ∧ p ≠ o ∧ H3 p = some (.dK [(key, y)]) ∧ H3 o = some (.dK more) ∧
  1 + more.length ≤ sizeLine ∧ Q (.ref p) (upd H3 p (.dK (mergeK [(key, y)] more)))
theorem pe_disp2 {pos : Pos} {k v m : Expr} {tk tv tm : TE} (hk : PE X k tk) (hv : PE X v tv) (hm : PE X m tm) : PE X (.Dict [some k, none] [v, m] pos) (tDisp2 tk tv tm) := by
  refine ⟨fun pins s σ H Q I q => ?_⟩
  rw [arm_eval_Dict]
  refine wpAny_bind (wpAny_standAt ?_)
  show wpAny _ _ (dictDisplay [(some (eval k X.env), do let x ← eval v X.env; standAt pos; pure x), (none, do let x ← eval m X.env; standAt pos; pure x)]) _ _ _
  refine display2 (knd := mixKind X.prog X.w) ?_
  have free := I.hok.fresh (Nat.le_refl s.heap.objs.size)
  have I1 := I.laid (a := s.heap.objs.size) (o := .dK []) (h' := s.heap.push { cls := .type "dict", data := .dict #[] }) (t' := s.toks) (fun _ _ q => Heap.get?_push_of_some _ q) (Nat.le_refl _) (dk_empty s.heap I.big)
  refine wpAny_subDict (knd := mixKind X.prog X.w) (by simp) (evalPairs_cons (thn (hk.run pins _ σ _ _ I1 (q _ free)) fun u s1 ⟨x, H1, I2, rx, q1⟩ => ?_))
  refine wpAny_bind (thn (hv.run pins s1 σ H1 _ I2 q1) fun u2 s2 ⟨y, H2, I3, ry, e, key, ex, q2⟩ => wpAny_bind (wpAny_standAt (wpAny_pure (evalPairs_nil ?_))))
  subst ex
  obtain ⟨z, hd, vs0, r0, dd⟩ := dk_of I3.hok e
  cases r0
  refine ⟨[(key, u2)], ⟨kV_is rx, rfl, True.intro⟩, dd, fun h' dd' hs => ?_⟩
  have ex' : ∃ q, h'.get? s.heap.objs.size = some q := let ⟨q, _, _, hq, _⟩ := dd'; ⟨q, hq⟩
  have I4 : Inv X pins σ (upd H2 s.heap.objs.size (.dK [(key, y)])) { s2 with heap := h', toks := s2.toks + [(u, u2)].length } :=
    d_write I3 (by rw [e]; exact True.intro) hs ex' (dk_new (by show 1 ≤ _; decide) hd (.cons ⟨rfl, ry⟩ .nil) dd')
  refine wpAny_bind (thn (hm.run pins _ σ _ _ I4 q2) fun u3 s3 ⟨z3, H3, I5, r3, o, more, e3, ne, hp3, ho3, lz, q3⟩ => wpAny_bind (wpAny_standAt (wpAny_pure ?_)))
  subst e3
  obtain rfl : u3 = Value.ref o := r3
  obtain ⟨z1, hd1, vs1, r1, d1⟩ := dk_of I5.hok hp3
  obtain ⟨z2, hd2, vs2, r2, d2⟩ := dk_of I5.hok ho3
  have l1 : vs1.length = 1 := by rw [← r1.length]; rfl
  have l2 := r2.length
  have hne1 : vs1 ≠ [] := fun z => by
    rw [z] at l1
    cases l1
  refine ⟨o, vs1, vs2, rfl, ne, hne1, hd2, d1, d2, by omega, fun h'' dd'' hs'' => ?_⟩
  have ex'' : ∃ q, h''.get? s.heap.objs.size = some q := let ⟨q, _, _, hq, _⟩ := dd''; ⟨q, hq⟩
  refine ⟨.ref _, _, d_write (t' := s3.toks) I5 (by rw [hp3]; exact True.intro) hs'' ex'' (dk_new ?_ hd1 (r2.merge r1) dd''), rfl, q3⟩
  have := length_mergeK more [(key, y)]
  rw [List.length_singleton] at this
  omega
end
end Fk

set_option Elab.async false
set_option linter.all false
set_option maxRecDepth 100000
/-! groups_of. -/
namespace Fk
open PySem PySem.Spec PyProof.Rows L2
abbrev s_groups_of : Stmt := topS 36
theorem sc_groups_of : FnScope ["some", "ways", "found", "left", "group", "at"] ["some", "ways"] (defScope s_groups_of) := ⟨rfl, rfl, rfl, by decide +kernel, rfl, by decide +kernel, by decide +kernel⟩
def addK (fs : List Nat) (y : Nat) : List Nat := if y ∈ fs then fs else fs ++ [y]
theorem kd_put_old {x : Nat} {ks : List Nat} (h : x ∈ ks) : putK (kd ks) (.inl (x : Nat)) (.bl true) = kd ks := by
  unfold putK
  rw [valV_any, kd_get, if_pos h]
  show List.map _ (kd ks) = kd ks
  unfold kd
  rw [List.map_map]
  refine List.map_congr_left fun i _ => ?_
  show (if (Sum.inl (i : Int) : L2.Key) = Sum.inl (x : Int) then ((Sum.inl (i : Int) : L2.Key), V.bl true) else (Sum.inl (i : Int), .bl true)) = (Sum.inl (i : Int), .bl true)
  split <;> rfl
theorem merge_kd : ∀ (ks fs : List Nat), mergeK (kd fs) (kd ks) = kd (ks.foldl addK fs)
  | [], fs => rfl
  | y :: ks, fs => by
    show mergeK (putK (kd fs) (.inl (y : Nat)) (.bl true)) (kd ks) = kd (ks.foldl addK (addK fs y))
    rw [← merge_kd ks (addK fs y)]
    unfold addK
    by_cases h : y ∈ fs
    · rw [if_pos h, kd_put_old h]
    · rw [if_neg h, kd_put h]
theorem mem_addK {z : Nat} : ∀ (ks fs : List Nat), z ∈ ks.foldl addK fs ↔ z ∈ fs ∨ z ∈ ks
  | [], fs => by simp
  | y :: ks, fs => by
    show z ∈ ks.foldl addK (addK fs y) ↔ _
    rw [mem_addK ks]
    unfold addK
    rw [List.mem_cons]
    by_cases h : y ∈ fs
    · rw [if_pos h]
      constructor
      · rintro (h1 | h1)
        · exact .inl h1
        · exact .inr (.inr h1)
      · rintro (h1 | rfl | h1)
        · exact .inl h1
        · exact .inl h
        · exact .inr h1
    · rw [if_neg h, List.mem_append, List.mem_singleton, or_assoc]
theorem filter_snoc {p : Nat → Bool} {xs : List Nat} {i x : Nat} (h : xs[i]? = some x) : (xs.take (i + 1)).filter p = if p x = true then (xs.take i).filter p ++ [x] else (xs.take i).filter p := by
  rw [take_snoc h, List.filter_append]
  by_cases e : p x = true
  · rw [if_pos e]
    simp [e]
  · rw [if_neg e]
    simp [e]
theorem groupsM_nil (g : Nat → Nat → Bool) (S : List Nat) (n : Nat) : groupsM g S n [] = [] := by
  cases n <;> rfl
section
variable {P : Program} {w : World} {K : PySem.W.Frag} {mg : Str → Option Value} {base : Heap} {f g : Addr} {fd gd : FuncData} {k : Nat}
abbrev GpA (H : Hp) : V → List Nat → Prop := fun v ns => ∃ p, v = .ref p ∧ H p = some (.lst (iv ns))
def sp_groups (K : PySem.W.Frag) : Sp := fun vs H Q _ => ∃ (sa : Addr) (x : V) (nbr : Nat → List Nat) (S : List Nat) (gg : Nat → Nat → Bool), vs = [.ref sa, x] ∧ SqL K H sa (iv S) ∧ Ways K H x nbr S ∧ (∀ x ∈ S, ∀ y ∈ S, (gg x y = true ↔ y = x ∨ Reach nbr x y)) ∧
  ∀ p H' gs, Same H H' → H p = none → H' p = some (.lst gs) → Paired (GpA H') gs (groupsM gg S S.length S) → Q (.ref p) H'
/-- [at for at in some if at in group] -/
theorem comp_in {K : PySem.W.Frag} {H : Hp} {Q : VK} {x0 x1 x2 x3 x5 : Option V} {s g : Addr} {S ks : List Nat} {p : Nat → Bool} (j : Nat) (hj : [x0, x1, x2, x3, some (.ref g), x5][j]? = some (some (.ref s))) (hs : SqL K H s (iv S)) (hg : H g = some (.dK (kd ks))) (hp : ∀ y ∈ S, p y = decide (y ∈ ks)) (hl : S.length ≤ 100000)
    (q : ∀ D H', Same H H' → H D = none → H' D = some (.lst (iv (S.filter p))) → Q (.ref D) H') :
    tLc (iList K (tVar j)) (gName 5) (tB (tDIn (tVar 5) (tVar 4))) (tVar 5) [5] [x0, x1, x2, x3, some (.ref g), x5] H Q := by
  refine ⟨_, hj, s, rfl, ⟨_, hs⟩, fun D hD => ?_⟩
  refine lcx (walk_list (xs := iv S)) hD (by rw [iv_len]; exact hl) (fun i acc _ => acc = iv ((S.take i).filter p)) rfl (fun H' s' => s'.seq hs) ?_ ?_
  · rintro i acc x H2 H3 Kt Kf hi s2 hD2 hlen rfl fin finF ⟨rfl, hx⟩
    obtain ⟨n, hn, rfl⟩ := iv_get hx
    have fs := filter_snoc (p := p) hn
    refine ⟨rfl, .int (n : Nat), rfl, .ref g, rfl, g, _, rfl, DGet.k (k := .inl (n : Nat)) (s2 _ _ hg), _, rfl, ?_⟩
    rw [kd_some, ← hp n (List.mem_of_getElem? hn)]
    by_cases e : p n = true
    · rw [if_pos e] at fs ⊢
      refine ⟨_, rfl, fin _ _ (Same.refl _) ?_⟩
      rw [fs, iv_app]
      rfl
    · rw [if_neg e] at fs ⊢
      exact finF _ (Same.refl _) (by rw [fs])
  · rintro acc H2 s2 hD2 _ rfl
    rw [iv_len, List.take_length] at hD2
    exact q D H2 s2 hD hD2
/-- [at for at in left if at not in group] -/
theorem comp_out {K : PySem.W.Frag} {H : Hp} {Q : VK} {x0 x1 x2 x3 x5 : Option V} {s g : Addr} {S ks : List Nat} {p : Nat → Bool} (j : Nat) (hj : [x0, x1, x2, x3, some (.ref g), x5][j]? = some (some (.ref s))) (hs : SqL K H s (iv S)) (hg : H g = some (.dK (kd ks))) (hp : ∀ y ∈ S, p y = !decide (y ∈ ks)) (hl : S.length ≤ 100000)
    (q : ∀ D H', Same H H' → H D = none → H' D = some (.lst (iv (S.filter p))) → Q (.ref D) H') :
    tLc (iList K (tVar j)) (gName 5) (tB (tDNotIn (tVar 5) (tVar 4))) (tVar 5) [5] [x0, x1, x2, x3, some (.ref g), x5] H Q := by
  refine ⟨_, hj, s, rfl, ⟨_, hs⟩, fun D hD => ?_⟩
  refine lcx (walk_list (xs := iv S)) hD (by rw [iv_len]; exact hl) (fun i acc _ => acc = iv ((S.take i).filter p)) rfl (fun H' s' => s'.seq hs) ?_ ?_
  · rintro i acc x H2 H3 Kt Kf hi s2 hD2 hlen rfl fin finF ⟨rfl, hx⟩
    obtain ⟨n, hn, rfl⟩ := iv_get hx
    have fs := filter_snoc (p := p) hn
    refine ⟨rfl, .int (n : Nat), rfl, .ref g, rfl, g, _, rfl, DGet.k (k := .inl (n : Nat)) (s2 _ _ hg), _, rfl, ?_⟩
    rw [kd_some, ← hp n (List.mem_of_getElem? hn)]
    by_cases e : p n = true
    · rw [if_pos e] at fs ⊢
      refine ⟨_, rfl, fin _ _ (Same.refl _) ?_⟩
      rw [fs, iv_app]
      rfl
    · rw [if_neg e] at fs ⊢
      exact finF _ (Same.refl _) (by rw [fs])
  · rintro acc H2 s2 hD2 _ rfl
    rw [iv_len, List.take_length] at hD2
    exact q D H2 s2 hD hD2
theorem ok_groups {i : Nat} (D : Dn K mg "groups_of" s_groups_of ["some", "ways"] f fd) (B : Blt mg) (C : Kn P w K mg base i "reached_from" (sp_reached K)) (hi : i ≤ k) : Kn P w K mg base (k + 1) "groups_of" (sp_groups K) := by
  refine D.kn (D.F.ok sc_groups_of (fun vs H Q E h => ?_) (fun cdv A outer s H vs Q E hr h => ?_))
  · obtain ⟨sa, x, nbr, S, gg, rfl, _⟩ := h
    rfl
  obtain ⟨sa, x, nbr, S, gg, rfl, hs, W, hgg, q⟩ := h
  refine ⟨_, pss_cons (ps_par (i := 2) (j := 3) rfl sc_groups_of.nd rfl rfl (by decide) rfl rfl (pa_cons (pe_lst pa_nil) (pa_cons (pe_callTy call_list_of (by rfl) B.zlist bt_list (pa_cons (pv 0) pa_nil)) pa_nil)) (by rfl))
    (pss_cons (ps_while PassesOwn.never (pt_cmpR (op_neD hr.units) (pv 3) (pe_lst pa_nil) (nomark _))
      (pss_cons (ps_set (i := 4) sc_groups_of.nd rfl (Or.inr rfl) (pe_disp2 (pe_ix ix_list (pv 3) pe_int (fun _ _ => rfl)) pe_bl (pe_kn C hr hi (by rfl) (pa_cons (pe_ix ix_list (pv 3) pe_int (fun _ _ => rfl)) (pa_cons (pv 1) pa_nil)))))
      (pss_cons (ps_expr (pe_bm PySem.F.plainAttrs_list PySem.F.slot_list_append PySem.F.type_list_append mt_append (pv 2) (pa_cons (pe_lc (own := [("at", 5)]) (g := gName 5) rfl sc_groups_of.nd (pi_list (pv 0)) (blkOk_by (N := ["some", "ways", "found", "left", "group", "at"]) (sc := defScope s_groups_of) (by decide +kernel))
          (fun _ _ _ _ _ => pg_name (i := 5) sc_groups_of.nd rfl (Or.inl rfl)) (fun _ _ _ _ _ => pts_one (pt_cmp (pc_din (room1 hr) (pv 5) (pv 4)))) (fun _ _ _ _ _ => pv 5)) pa_nil)))
      (pss_one (ps_setLc (i := 3) (own := [("at", 5)]) (g := gName 5) rfl sc_groups_of.nd rfl rfl (by rfl) (pi_list (pv 3)) (blkOk_by (N := ["some", "ways", "found", "left", "group", "at"]) (sc := defScope s_groups_of) (by decide +kernel))
          (fun _ _ _ _ _ => pg_name (i := 5) sc_groups_of.nd rfl (Or.inl rfl)) (fun _ _ _ _ _ => pts_one (pt_cmp (pc_dnotin (room1 hr) (pv 5) (pv 4)))) (fun _ _ _ _ _ => pv 5))))))
    (pss_one (ps_ret (pv 2)))), ?_⟩
  refine ⟨Nat.zero_le _, fun F hF => ?_⟩
  have s1 := same_new (o := .lst []) hF
  refine ⟨_, rfl, sa, iv S, rfl, .inl (s1.seq hs), fun L hL => ⟨_, _, rfl, ?_⟩⟩
  have s2 := same_new (o := .lst (iv S)) hL
  have hFL : F ≠ L := nsn upd_same hL
  refine ⟨fun m σ H3 => ∃ L y4 y5 l n gs Gs, σ = [some (.ref sa), some x, some (.ref F), some (.ref L), y4, y5] ∧ Same H H3 ∧ H3 F = some (.lst gs) ∧ L ≠ F ∧ H3 L = some (.lst (iv l)) ∧ GrL F F H3 gs Gs ∧ Gs ++ groupsM gg S n l = groupsM gg S S.length S ∧ l.length ≤ n ∧ (∀ z ∈ l, z ∈ S) ∧ gs.length + l.length ≤ S.length ∧ m = l.length,
    ⟨_, L, none, none, S, S.length, [], [], rfl, s1.trans s2, s2 _ _ upd_same, hFL.symm, upd_same, .nil, rfl, Nat.le_refl _, fun _ h => h, by simp, rfl⟩, ?_⟩
  rintro m σ H3 ⟨L, y4, y5, l, n, gs, Gs, rfl, s3, hF3, hLF, hL3, hgs, hGs, hn, hlS, hlen, rfl⟩
  refine ⟨_, rfl, Nat.zero_le _, fun p hp => ?_⟩
  have s4 := same_new (o := .lst []) hp
  refine rd_neN (SqL.of (s4 _ _ hL3)) (SqL.of upd_same) ⟨_, rfl, ?_⟩
  have S64 := W.le
  have hFp : F ≠ p := nsn hF3 hp
  have k4 : Kp F F H3 (upd H3 p (.lst [])) := Kp.of s4
  match l, n, hn, hL3, hGs, hlS, hlen with
  | [], n, hn, hL3, hGs, hlS, hlen =>
    refine iteF ⟨_, rfl, q F _ gs (s3.trans s4) hF (s4 _ _ hF3) ?_⟩
    rw [groupsM_nil, List.append_nil] at hGs
    rw [← hGs]
    have z := GrL.kp hgs k4
    exact Paired.mapP z fun _ _ ⟨p, h1, h2, h3, h4⟩ => ⟨p, h1, h4⟩
  | a :: l, 0, hn, hL3, hGs, hlS, hlen => exact absurd hn (by rw [List.length_cons]; omega)
  | a :: l, n + 1, hn, hL3, hGs, hlS, hlen =>
    refine iteT ⟨_, fun σ' H' w' => w', ?_⟩
    have haS : a ∈ S := hlS a List.mem_cons_self
    have s34 := s3.trans s4
    intro g hg
    have s5 := same_new (o := .dK []) hg
    have hL5 := s5 _ _ (s4 _ _ hL3)
    refine ⟨_, rfl, L, iv (a :: l), 0, _, rfl, rfl, SqL.of hL5, at_zero _ _, upd_same, .inl (a : Nat), rfl, ?_⟩
    have hg0 : H g = none := none_old s34 hg
    have s6 : Same H (upd (upd (upd H3 p (.lst [])) g (.dK [])) g (.dK [(.inl (a : Nat), .bl true)])) := same_mut (s34.trans s5) hg0
    have hgL : g ≠ L := (nsn (s4 _ _ hL3) hg).symm
    have hgF : g ≠ F := (nsn (s4 _ _ hF3) hg).symm
    have hL6 : (upd (upd (upd H3 p (.lst [])) g (.dK [])) g (.dK [(.inl (a : Nat), .bl true)])) L = some (.lst (iv (a :: l))) := by rw [upd_ne hgL.symm]; exact hL5
    have hF6 : (upd (upd (upd H3 p (.lst [])) g (.dK [])) g (.dK [(.inl (a : Nat), .bl true)])) F = some (.lst gs) := by rw [upd_ne hgF.symm]; exact s5 _ _ (s4 _ _ hF3)
    have hg6 : (upd (upd (upd H3 p (.lst [])) g (.dK [])) g (.dK [(.inl (a : Nat), .bl true)])) g = some (.dK [(.inl (a : Nat), .bl true)]) := upd_same
    have k6 : Paired (GrA F F (upd (upd (upd H3 p (.lst [])) g (.dK [])) g (.dK [(.inl (a : Nat), .bl true)]))) gs Gs := by
      refine GrL.kp hgs fun b o h1 _ h => ?_
      have hb := s4 b o h
      have : b ≠ g := nsn hb hg
      rw [upd_ne this, upd_ne this]
      exact hb
    generalize (upd (upd (upd H3 p (.lst [])) g (.dK [])) g (.dK [(.inl (a : Nat), .bl true)])) = H6 at s6 hL6 hF6 hg6 k6
    refine ⟨_, rfl, L, iv (a :: l), 0, _, rfl, rfl, SqL.of hL6, at_zero _ _, x, rfl, a, x, nbr, S, rfl, haS, W.sm s6, fun o H7 ks s7 ho0 ho nd7 r7 m7 => ?_⟩
    have kl : ks.length ≤ S.length := nodup_len nd7 m7
    refine ⟨o, kd ks, rfl, nsn hg6 ho0, s7 _ _ hg6, ho, by rw [kd_len]; exact small (by omega), ?_⟩
    rw [show [((.inl ((a : Nat) : Int) : L2.Key), V.bl true)] = kd [a] from rfl, merge_kd]
    generalize hks : ks.foldl addK [a] = ks'
    have hmem : ∀ y ∈ S, gg a y = decide (y ∈ ks') := fun y hy => by
      rw [Bool.eq_iff_iff, hgg a haS y hy, decide_eq_true_iff, ← hks, mem_addK, r7, List.mem_singleton]
    have s8 : Same H (upd H7 g (.dK (kd ks'))) := same_mut (s6.trans s7) hg0
    have hg8 : (upd H7 g (.dK (kd ks'))) g = some (.dK (kd ks')) := upd_same
    have hL8 : (upd H7 g (.dK (kd ks'))) L = some (.lst (iv (a :: l))) := by rw [upd_ne hgL.symm]; exact s7 _ _ hL6
    have hF8 : (upd H7 g (.dK (kd ks'))) F = some (.lst gs) := by rw [upd_ne hgF.symm]; exact s7 _ _ hF6
    have k8 : GrL F F (upd H7 g (.dK (kd ks'))) gs Gs := by
      refine Paired.mapP (GrL.kp k6 (Kp.of s7)) fun _ _ ⟨b, h1, h2, h3, h4⟩ => ⟨b, h1, h2, h3, ?_⟩
      have : b ≠ g := fun e => by
        rw [e, s7 _ _ hg6] at h4
        cases h4
      rw [upd_ne this]
      exact h4
    generalize (upd H7 g (.dK (kd ks'))) = H8 at s8 hg8 hL8 hF8 k8
    refine ⟨_, rfl, .inl ⟨rfl, _, SqL.of hF8⟩, ?_⟩
    refine comp_in (p := gg a) 0 rfl (s8.seq hs) hg8 hmem (by omega) fun D9 H9 s9 hD8 hD9 => ?_
    have hF9 := s9 _ _ hF8
    have hDF : D9 ≠ F := (nsn hF8 hD8).symm
    refine ⟨F, gs, _, rfl, rfl, hF9, small_lt (by omega), ?_⟩
    have s10 : Same H (upd H9 F (.lst (gs ++ [.ref D9]))) := same_mut (s8.trans s9) hF
    have hL10 : (upd H9 F (.lst (gs ++ [.ref D9]))) L = some (.lst (iv (a :: l))) := by rw [upd_ne hLF]; exact s9 _ _ hL8
    have hg10 : (upd H9 F (.lst (gs ++ [.ref D9]))) g = some (.dK (kd ks')) := by rw [upd_ne hgF]; exact s9 _ _ hg8
    have k10 : GrL F F (upd H9 F (.lst (gs ++ [.ref D9]))) (gs ++ [.ref D9]) (Gs ++ [S.filter (gg a)]) :=
      paired_append (GrL.kp k8 ((Kp.of s9).trans Kp.fst)) (.cons ⟨D9, rfl, hDF, hDF, by rw [upd_ne hDF]; exact hD9⟩ .nil)
    have hF10 : (upd H9 F (.lst (gs ++ [.ref D9]))) F = some (.lst (gs ++ [.ref D9])) := upd_same
    generalize (upd H9 F (.lst (gs ++ [.ref D9]))) = H10 at s10 hL10 hg10 k10 hF10
    dsimp only [tAsg]
    refine comp_out (p := fun y => !gg a y) 3 rfl (SqL.of hL10) hg10 (fun y hy => by rw [hmem y (hlS y hy)]) (by rw [List.length_cons] at *; omega) fun D11 H11 s11 hD10 hD11 => ?_
    have hDF2 : D11 ≠ F := (nsn hF10 hD10).symm
    have haa : gg a a = true := (hgg a haS a haS).mpr (.inl rfl)
    have ef : (a :: l).filter (fun y => !gg a y) = l.filter (fun y => !gg a y) := by
      rw [List.filter_cons, haa]
      rfl
    have fl := List.length_filter_le (fun y => !gg a y) l
    rw [List.length_cons] at hn hlen
    refine ⟨_, ?_, D11, _, _, (a :: l).filter (fun y => !gg a y), n, gs ++ [.ref D9], Gs ++ [S.filter (gg a)], rfl, s10.trans s11, s11 _ _ hF10, hDF2, hD11, GrL.kp k10 (Kp.of s11), ?_, ?_, ?_, ?_, rfl⟩
    · rw [ef, List.length_cons]
      omega
    · rw [← hGs, groupsM, List.append_assoc]
      rfl
    · rw [ef]
      omega
    · exact fun z hz => hlS z (List.mem_filter.mp hz).1
    · rw [ef, List.length_append, List.length_singleton]
      omega
end
end Fk

set_option Elab.async false
set_option linter.all false
/-! One level of drawing. -/
namespace Fk
open PySem
variable {rel : Nat → Nat → Bool} {lab : Nat → Str} {S : List Nat}
theorem fitsL_paired : ∀ {rs : List R} {Ss : List (List Nat)}, FitsL rel lab rs Ss ↔ Paired (fun G r => Fits rel lab r G) Ss rs
  | [], Ss => by
    rw [FitsL]
    constructor
    · rintro rfl
      exact .nil
    · intro h
      cases h
      rfl
  | r :: rs, Ss => by
    rw [FitsL]
    constructor
    · rintro ⟨S, T, rfl, h1, h2⟩
      exact .cons h1 (fitsL_paired.mp h2)
    · intro h
      cases h with
      | cons h1 h2 => exact ⟨_, _, rfl, h1, fitsL_paired.mpr h2⟩
theorem level {b : Bool} {r : R} {g : Nat → Nat → Bool} (hok : Ok r) (hr : r ≠ .nothing) (hf : Fits rel lab r S) (hn : S.Nodup) (hi : ∀ x, rel x x = false) (hg : ∀ x ∈ S, ∀ y ∈ S, (g x y = true ↔ y = x ∨ Reach (waysM rel b S) x y)) :
    (groupsM g S S.length S).length = (parts b r).length ∧ (∀ G ∈ groupsM g S S.length S, G.Nodup ∧ G ≠ [] ∧ ∀ x ∈ G, x ∈ S) ∧
    ∃ ts, Paired (fun G r => Fits rel lab r G) ((groupsM g S S.length S).mergeSort (leK rel S)) ts ∧ ts.Perm (parts b r) ∧ (b = false → ts = parts b r) := by
  obtain ⟨Ss, h1, h2, h3, h4⟩ := fits_cut (b := b) hok hr hf
  have hp := groups_parts h1 h2 h3 h4 hn hg
  have hnf : Ss.flatten.Nodup := h4.nodup_iff.mp hn
  have hB : ∀ B ∈ Ss, B.Nodup ∧ ∀ x ∈ B, x ∈ S := fun B hB => ⟨(List.pairwise_flatten.mp hnf).1 B hB, fun x hx => h4.mem_iff.mpr (List.mem_flatten.mpr ⟨B, hB, hx⟩)⟩
  have hne : ∀ B ∈ Ss, B ≠ [] := fun B hB' z => by
    obtain ⟨i, hi'⟩ := List.getElem?_of_mem hB'
    obtain ⟨q, hq, hfq⟩ := paired_get (fitsL_paired.mp h2) hi'
    have hqp := okL_iff.mp h1 q (List.mem_of_getElem? hq)
    have := fits_len q B hfq
    have hs := size_pos hqp.1 (fun e => by rw [e] at hqp; exact absurd hqp.2 (by simp [isPart]))
    rw [z, List.length_nil] at this
    omega
  have hff := fitsL_filter h2 hB hn
  refine ⟨?_, fun G hG => ?_, ?_⟩
  · rw [hp.length_eq, List.length_map, fitsL_count h2]
  · obtain ⟨B, hB', rfl⟩ := List.mem_map.mp (hp.mem_iff.mp hG)
    refine ⟨hn.sublist List.filter_sublist, fun z => ?_, fun x hx => (List.mem_filter.mp hx).1⟩
    obtain ⟨x, t, e⟩ := List.exists_cons_of_ne_nil (hne B hB')
    have hx : x ∈ S.filter (B.contains ·) := List.mem_filter.mpr ⟨(hB B hB').2 x (by rw [e]; exact List.mem_cons_self), by rw [e]; simp⟩
    rw [z] at hx
    cases hx
  · cases b with
    | false =>
      rw [row_sorted h3 h4 hi hne hp]
      exact ⟨_, fitsL_paired.mp hff, List.Perm.refl _, fun _ => rfl⟩
    | true =>
      obtain ⟨ts, p1, p2⟩ := paired_perm (hp.symm.trans (List.mergeSort_perm _ (leK rel S)).symm) (fitsL_paired.mp hff)
      exact ⟨ts, p2, p1.symm, fun z => by cases z⟩
end Fk

set_option Elab.async false
set_option linter.all false
set_option maxRecDepth 100000
/-! Readings for drawn. -/
namespace Fk
open PySem PySem.Spec PyProof.Rows L2
/-- a table by numbers -/
def tabN (f : Nat → V) (ks : List Nat) : List (L2.Key × V) := ks.map fun i => (.inl (i : Nat), f i)
theorem tabN_get (f : Nat → V) (x : Nat) : ∀ ks : List Nat, valV (tabN f ks) (.inl (x : Nat)) = if x ∈ ks then some (f x) else none
  | [] => rfl
  | d :: ks => by
    show valV ((Sum.inl (d : Int), f d) :: tabN f ks) (.inl (x : Nat)) = _
    by_cases e : d = x
    · subst e
      rw [valV_pos (p := ((Sum.inl (d : Int) : L2.Key), f d)) rfl, if_pos List.mem_cons_self]
    · rw [valV_neg (p := ((Sum.inl (d : Int) : L2.Key), f d)) (fun z => e (Int.ofNat.inj (Sum.inl.inj z : (d : Int) = (x : Int)))), tabN_get f x ks]
      by_cases m : x ∈ ks
      · rw [if_pos m, if_pos (List.mem_cons_of_mem _ m)]
      · rw [if_neg m, if_neg (fun z => (List.mem_cons.mp z).elim (fun z => e z.symm) m)]
theorem tabN_put (f g : Nat → V) {x : Nat} {ks : List Nat} (h : x ∉ ks) (e : ∀ n ∈ ks, g n = f n) : putK (tabN f ks) (.inl (x : Nat)) (g x) = tabN g (ks ++ [x]) := by
  unfold putK
  rw [valV_any, tabN_get, if_neg h]
  show tabN f ks ++ [(.inl (x : Nat), g x)] = _
  unfold tabN
  rw [List.map_append]
  congr 1
  exact List.map_congr_left fun n hn => by rw [e n hn]
theorem tabN_len (f : Nat → V) (ks : List Nat) : (tabN f ks).length = ks.length := by
  unfold tabN
  rw [List.length_map]
def told (rel : Nat → Nat → Bool) (x : Nat) : Nat → V := fun y => .bl (rel x y || rel y x)
theorem nodup_take {S : List Nat} {i x : Nat} (hn : S.Nodup) (h : S[i]? = some x) : x ∉ S.take i := fun hm => by
  have h1 := hn.sublist (List.take_sublist (i + 1) S)
  rw [take_snoc h, List.nodup_append] at h1
  exact h1.2.2 x hm x (List.mem_singleton.mpr rfl) rfl
theorem ahd_get {K : PySem.W.Frag} {H : Hp} {av : V} {n : Nat} {rel : Nat → Nat → Bool} (h : Ahd H av n rel) {i y : Nat} (hi : i < n) : ∃ p, (∀ Q : VK, Q (.ref p) H → rIxL K av (.int (i : Nat)) H Q) ∧ DGet H p (.int (y : Nat)) (valV (kd (if rel i y = true then [y] else [])) (.inl (y : Nat))) := by
  obtain ⟨a, ds, rfl, h2, h3⟩ := h
  obtain ⟨p, ks, c1, c2, c3⟩ := h3 i hi
  refine ⟨p, fun Q q => ⟨a, ds, (i : Nat), .ref p, rfl, rfl, SqL.of h2, atI_nat c1, q⟩, ?_⟩
  have e : valV (kd (if rel i y = true then [y] else [])) (.inl (y : Nat)) = valV (kd ks) (.inl (y : Nat)) := by
    rw [kd_get, kd_get]
    by_cases hr : rel i y = true
    · rw [if_pos hr, if_pos (List.mem_singleton.mpr rfl), if_pos ((c3 y).mpr hr)]
    · rw [if_neg hr, if_neg (by simp), if_neg (fun z => hr ((c3 y).mp z))]
  rw [e]
  exact DGet.k (k := .inl (y : Nat)) c2
theorem rel_isSome (rel : Nat → Nat → Bool) (i y : Nat) : (valV (kd (if rel i y = true then [y] else [])) (.inl (y : Nat))).isSome = rel i y := by
  rw [kd_some]
  cases h : rel i y <;> simp
section
variable {K : PySem.W.Frag} {H : Hp} {Q : VK} {la sa : Addr} {av : V} {n : Nat} {rel : Nat → Nat → Bool} {S : List Nat}
/-- {other: .. for other in some if other != one} -/
theorem comp_told {x0 x3 x4 x6 x7 x8 x9 x10 : Option V} {x : Nat} (hS : SqL K H sa (iv S)) (hA : Ahd H av n rel) (hnd : S.Nodup) (hlt : ∀ y ∈ S, y < n) (hx : x < n) (hl : S.length ≤ 1000)
    (q : ∀ D H', Same H H' → H D = none → H' D = some (.dK (tabN (told rel x) (S.filter (· != x)))) → Q (.ref D) H') :
    tDc (iList K (tVar 2)) (gName 9) (tTest (tOp rNe (tVar 9) (tVar 5))) (tVar 9) (tOrV (tDIn (tVar 9) (tOp (rIxL K) (tVar 1) (tVar 5))) (tDIn (tVar 5) (tOp (rIxL K) (tVar 1) (tVar 9)))) [9]
      [x0, some av, some (.ref sa), x3, x4, some (.int (x : Nat)), x6, x7, x8, x9, x10] H Q := by
  refine ⟨_, rfl, sa, rfl, ⟨_, hS⟩, fun D hD => ?_⟩
  refine lc_any (walk_list (xs := iv S)) (fun i H2 => Same H H2 ∧ H2 D = some (.dK (tabN (told rel x) ((S.take i).filter (· != x))))) ⟨same_new hD, upd_same⟩ (fun i H2 _ ⟨s, _⟩ => s.seq hS) ?_ ?_
  · rintro i v H2 H3 hi ⟨s2, hD2⟩ ⟨rfl, hv⟩
    obtain ⟨y, hy, rfl⟩ := iv_get hv
    have hym := List.mem_of_getElem? hy
    have fs := filter_snoc (p := (· != x)) hy
    refine ⟨rfl, .int (y : Nat), rfl, .int (x : Nat), rfl, rfl, _, rfl, ?_⟩
    by_cases e : y = x
    · subst e
      rw [if_neg (by simp)] at fs
      have e1 : (!decide (V.int ((y : Nat) : Int) = V.int ((y : Nat) : Int))) = false := by
        rw [decide_eq_true rfl]
        rfl
      rw [e1]
      exact iteF ⟨s2, by rw [fs]; exact hD2⟩
    · rw [if_pos (by simpa using e)] at fs
      have e1 : (!decide (V.int ((y : Nat) : Int) = V.int ((x : Nat) : Int))) = true := by
        rw [dec_nat e]
        rfl
      rw [e1]
      have hny : y ∉ (S.take i).filter (· != x) := fun hm => nodup_take hnd hy (List.mem_filter.mp hm).1
      have hA2 := hA.sm s2
      obtain ⟨p1, r1, g1⟩ := ahd_get (K := K) hA2 (i := x) (y := y) hx
      obtain ⟨p2, r2, g2⟩ := ahd_get (K := K) hA2 (i := y) (y := x) (hlt y hym)
      have hlen : ((S.take i).filter (· != x)).length ≤ S.length := Nat.le_trans (List.length_filter_le _ _) (by rw [List.length_take]; omega)
      have done : ∀ z : V, z = told rel x y → ∃ kvs k, V.int ((y : Nat) : Int) = kV k ∧ H3 D = some (.dK kvs) ∧ kvs.length < sizeLine ∧ (Same H (upd H3 D (.dK (putK kvs k z))) ∧ (upd H3 D (.dK (putK kvs k z))) D = some (.dK (tabN (told rel x) ((S.take (i + 1)).filter (· != x))))) := fun z hz => by
        refine ⟨_, .inl (y : Nat), rfl, hD2, by rw [tabN_len]; exact small_lt (by omega), same_mut s2 hD, ?_⟩
        rw [upd_same, fs, hz]
        exact congrArg (fun z => some (HO.dK z)) (tabN_put (told rel x) (told rel x) hny (fun _ _ => rfl))
      refine iteT ⟨.int (y : Nat), rfl, .int (y : Nat), rfl, av, rfl, .int (x : Nat), rfl, r1 _ ⟨p1, _, rfl, g1, _, rfl, ?_⟩⟩
      rw [rel_isSome]
      cases hr : rel x y with
      | true => exact iteT (done _ (by unfold told; rw [hr]; rfl))
      | false =>
        refine iteF ⟨.int (x : Nat), rfl, av, rfl, .int (y : Nat), rfl, r2 _ ⟨p2, _, rfl, g2, ?_⟩⟩
        rw [rel_isSome]
        exact done _ (by unfold told; rw [hr]; rfl)
  · rintro H2 ⟨s2, hD2⟩
    rw [iv_len, List.take_length] at hD2
    exact q D H2 s2 hD hD2
/-- [other for other in are_told if are_told[other] == (word == "bag")] -/
theorem comp_ways {x0 x1 x2 x4 x5 x7 x8 x9 x10 : Option V} {D : Addr} {xx : Nat} {b : Bool} {ys : List Nat} (hD : H D = some (.dK (tabN (told rel xx) ys))) (hl : ys.length ≤ 1000)
    (q : ∀ p H', Same H H' → H p = none → H' p = some (.lst (iv (ys.filter fun y => cmp rel xx y == b))) → Q (.ref p) H') :
    tLockE (tLc (iKeys (tVar 6)) (gName 9) (tTest (tOp rEq (tDGet (tVar 6) (tVar 9)) (tOp rEq (tVar 3) (tC (.str "bag"))))) (tVar 9) [9])
      [x0, x1, x2, some (.str (word b)), x4, x5, some (.ref D), x7, x8, x9, x10] H Q := by
  refine ⟨D, _, hD, True.intro, fun od => ?_⟩
  have hF : (upd H D (.frz od (.dK (tabN (told rel xx) ys)))) D = some (.frz od (.dK (tabN (told rel xx) ys))) := upd_same
  refine ⟨_, rfl, D, od, rfl, .inl ⟨_, hF, fun p hp => ?_⟩⟩
  have hpD : p ≠ D := (nsn hF hp).symm
  have hp0 : H p = none := by
    rw [upd_ne hpD] at hp
    exact hp
  refine lcx (walk_keys (kvs := tabN (told rel xx) ys)) hp (by rw [tabN_len]; omega) (fun i acc _ => acc = iv ((ys.take i).filter fun y => cmp rel xx y == b)) rfl (fun H' s' => s' _ _ hF) ?_ ?_
  · rintro i acc v H2 H3 Kt Kf hi s2 hD2 hlen rfl fin finF ⟨rfl, k, v', hkv, rfl⟩
    unfold tabN at hkv
    rw [List.getElem?_map] at hkv
    obtain ⟨y, hy, e⟩ := Option.map_eq_some_iff.mp hkv
    cases e
    have hym := List.mem_of_getElem? hy
    have fs := filter_snoc (p := fun y => cmp rel xx y == b) hy
    have g : DGet H3 D (.int (y : Nat)) (some (told rel xx y)) := by
      have e : valV (tabN (told rel xx) ys) (.inl (y : Nat)) = some (told rel xx y) := by rw [tabN_get, if_pos hym]
      rw [← e]
      exact .inl ⟨_, .inl (y : Nat), .inr ⟨od, s2 _ _ hF⟩, rfl, rfl⟩
    have ew : decide (V.str (word b) = V.str (Str.ofString "bag")) = b := by
      cases b with
      | true => exact decide_eq_true rfl
      | false => exact dec_ne (fun e => word_ne (e.symm))
    refine ⟨rfl, .ref D, rfl, .int (y : Nat), rfl, D, told rel xx y, rfl, g, .str (word b), rfl, rfl, rfl, _, rfl, ?_⟩
    rw [ew]
    have eb : decide (told rel xx y = V.bl b) = (cmp rel xx y == b) := by
      unfold told cmp
      rw [Bool.or_comm (rel xx y)]
      cases (rel y xx || rel xx y) <;> cases b <;> decide
    rw [eb]
    show if (cmp rel xx y == b) = true then _ else _
    by_cases e : (cmp rel xx y == b) = true
    · rw [if_pos e] at fs ⊢
      refine ⟨_, rfl, fin _ _ (Same.refl _) ?_⟩
      rw [fs, iv_app]
      rfl
    · rw [if_neg e] at fs ⊢
      exact finF _ (Same.refl _) (by rw [fs])
  · rintro acc H2 s2 hD2 _ rfl
    rw [tabN_len, List.take_length] at hD2
    refine ⟨s2 _ _ hF, q p _ (fun a o h => ?_) hp0 (by rw [upd_ne hpD]; exact hD2)⟩
    by_cases e : a = D
    · subst e
      rw [hD] at h
      rw [upd_same]
      exact h
    · rw [upd_ne e]
      exact s2 _ _ (by rw [upd_ne e]; exact h)
/-- -len([at for at in some if at in ahead[group[0]]]) -/
theorem key_read {pg : Addr} {G : List Nat} (hS : SqL K H sa (iv S)) (hA : Ahd H av n rel) (hG : SqL K H pg (iv G)) (hne : G ≠ []) (hlt : ∀ y ∈ G, y < n) (hl : S.length ≤ 1000) :
    tUn (rU fun i => .int (-i)) (tCB (fun xs H Q => ∃ p ys, xs = [.ref p] ∧ (SqL K H p ys ∨ SqT K H p ys) ∧ Q (.int ys.length) H) (tCons (tLc (iList K (tVar 1)) (gName 3) (tB (tDIn (tVar 3) (tOp (rIxL K) (tVar 2) (tOp (rIxL K) (tVar 0) (tC (.int 0)))))) (tVar 3) [3]) tNil))
      [some (.ref pg), some (.ref sa), some av, none] H fun w H4 => w = .int (keyM rel S G) ∧ Same H H4 := by
  obtain ⟨g0, t, rfl⟩ := List.exists_cons_of_ne_nil hne
  refine ⟨_, rfl, sa, rfl, ⟨_, hS⟩, fun D hD => ?_⟩
  refine lcx (walk_list (xs := iv S)) hD (by rw [iv_len]; omega) (fun i acc _ => acc = iv ((S.take i).filter (rel g0))) rfl (fun H' s' => s'.seq hS) ?_ ?_
  · rintro i acc v H2 H3 Kt Kf hi s2 hD2 hlen rfl fin finF ⟨rfl, hv⟩
    obtain ⟨y, hy, rfl⟩ := iv_get hv
    have fs := filter_snoc (p := rel g0) hy
    obtain ⟨p1, r1, g1⟩ := ahd_get (K := K) (hA.sm s2) (i := g0) (y := y) (hlt g0 List.mem_cons_self)
    refine ⟨rfl, .int (y : Nat), rfl, av, rfl, .ref pg, rfl, pg, iv (g0 :: t), 0, .int (g0 : Nat), rfl, rfl, s2.seq hG, at_zero _ _, r1 _ ⟨p1, _, rfl, g1, _, rfl, ?_⟩⟩
    rw [rel_isSome]
    by_cases e : rel g0 y = true
    · rw [if_pos e] at fs ⊢
      refine ⟨_, rfl, fin _ _ (Same.refl _) ?_⟩
      rw [fs, iv_app]
      rfl
    · rw [if_neg e] at fs ⊢
      exact finF _ (Same.refl _) (by rw [fs])
  · rintro acc H2 s2 hD2 _ rfl
    rw [iv_len, List.take_length] at hD2
    refine ⟨D, _, rfl, .inl (SqL.of hD2), _, rfl, ?_, s2⟩
    rw [iv_len]
    rfl
/-- the ways that were made -/
structure Made (K : PySem.W.Frag) (H : Hp) (W : Addr) (nbr : Nat → List Nat) (ks : List Nat) : Prop where
  ex : ∃ pf : Nat → Addr, H W = some (.dK (tabN (fun x => .ref (pf x)) ks)) ∧ ∀ x ∈ ks, pf x ≠ W ∧ H (pf x) = some (.lst (iv (nbr x)))
theorem Made.ways {W : Addr} {nbr : Nat → List Nat} (h : Made K H W nbr S) (cl : ∀ i ∈ S, ∀ j ∈ nbr i, j ∈ S) (nd : S.Nodup) (le : S.length ≤ 64) (ln : ∀ i ∈ S, (nbr i).length ≤ 64) : Ways K H (.ref W) nbr S := by
  obtain ⟨pf, h1, h2⟩ := h.ex
  refine ⟨fun i hi => ⟨pf i, SqL.of (h2 i hi).2, .inr ⟨W, rfl, ?_⟩⟩, cl, nd, le, ln⟩
  have e : valV (tabN (fun x => V.ref (pf x)) S) (.inl (i : Nat)) = some (.ref (pf i)) := by rw [tabN_get, if_pos hi]
  rw [← e]
  exact DGet.k (k := .inl (i : Nat)) h1
theorem Made.put {H' : Hp} {W p : Addr} {nbr : Nat → List Nat} {ks : List Nat} {x : Nat} (h : Made K H W nbr ks) (s : Same H H') (hx : x ∉ ks) (hp : H p = none) (hp' : H' p = some (.lst (iv (nbr x)))) (hl : ks.length ≤ 1000) :
    ∃ H'', DPut H' W (.int (x : Nat)) (.ref p) H'' ∧ Made K H'' W nbr (ks ++ [x]) ∧ ∀ Z : Hp, Same Z H' → Z W = none → Same Z H'' := by
  obtain ⟨pf, h1, h2⟩ := h.ex
  have hW := s _ _ h1
  have hpW : p ≠ W := (nsn h1 hp).symm
  refine ⟨_, DPut.k (k := .inl (x : Nat)) hW (by rw [tabN_len]; exact small_lt (by omega)), ⟨⟨fun y => if y = x then p else pf y, ?_, fun y hy => ?_⟩⟩, fun Z sz hz => same_mut sz hz⟩
  · rw [upd_same]
    have := tabN_put (fun y => V.ref (pf y)) (fun y => V.ref (if y = x then p else pf y)) hx (fun n hn => by
      have : n ≠ x := fun e => hx (e ▸ hn)
      rw [if_neg this])
    rw [if_pos rfl] at this
    rw [this]
  · rcases List.mem_append.mp hy with hy | hy
    · have : y ≠ x := fun e => hx (e ▸ hy)
      dsimp only
      rw [if_neg this]
      obtain ⟨a1, a2⟩ := h2 y hy
      exact ⟨a1, by rw [upd_ne a1]; exact s _ _ a2⟩
    · rw [List.mem_singleton.mp hy]
      dsimp only
      rw [if_pos rfl]
      exact ⟨hpW, by rw [upd_ne hpW]; exact hp'⟩
end
end Fk

set_option Elab.async false
set_option linter.all false
set_option maxRecDepth 100000
/-! sorted(xs, key=f), f any call that keeps what is known. -/
namespace Fk
open PySem PySem.Spec PySem.W PySem.Calls PyProof.Rows L2
/-- a heap without the object at a -/
def without (h : Heap) (a : Addr) : Heap := h.update a fun o => { o with data := .freed }
theorem without_at (h : Heap) (a : Addr) : (without h a).get? a = none := by
  unfold without Heap.get? Heap.update
  cases h
  simp only [Array.getElem?_modify, if_true]
  rename_i objs l
  cases objs[a]? <;> rfl
theorem without_ne {h : Heap} {a b : Addr} (hb : b ≠ a) : (without h a).get? b = h.get? b := Heap.get?_update_ne _ _ _ _ hb
/-- the items by their keys, stably -/
def byKey (gs : List V) (kz : List Int) : List V := ((gs.zip kz).mergeSort fun a b => decide (a.2 ≤ b.2)).map (·.1)
section
variable {X : Cx} {pins : List (Addr × Obj)} {σ : L2.St} {H : Hp} {s : Shared}
abbrev two (a kS : Addr) (oa ok : Obj) : List (Addr × Obj) := [(a, oa), (kS, ok)]
theorem repin {a kS : Addr} {oa ok : Obj} (I : Inv X pins σ H s) (fa : FpOk X pins H a) (fk : FpOk X pins H kS) (ea : s.heap.get? a = some oa) (ek : s.heap.get? kS = some ok) (da : ∀ v, oa.data ≠ .cell v) (dk : ∀ v, ok.data ≠ .cell v) : Inv X (pins ++ two a kS oa ok) σ H s :=
  I.pins_of fun p hp => by
    rcases List.mem_append.mp hp with hp | hp
    · exact I.pin p (List.mem_append_right _ hp)
    · rcases List.mem_cons.mp hp with rfl | hp
      · exact ⟨ea, fa.1, fa.2.1, fa.2.2.1, da⟩
      · rw [List.mem_singleton.mp hp]
        exact ⟨ek, fk.1, fk.2.1, fk.2.2.1, dk⟩
theorem each_zip : ∀ {gs : List V} {vs : List Value} {kz : List Int}, Vals gs vs → kz.length = gs.length → EachIs (fun (u : Value) (x : V × Int) => L2.RelV x.1 u) vs (gs.zip kz)
  | _, _, [], .nil, _ => .nil
  | _, _, [], .cons _ _, h => by cases h
  | _, _, _ :: _, .nil, h => by cases h
  | _, _, k :: kz, .cons r t, h => .cons r (each_zip t (by simpa using h))
theorem vals_each : ∀ {out : List Value} {bs : List (V × Int)}, EachIs (fun (u : Value) (x : V × Int) => L2.RelV x.1 u) out bs → Vals (bs.map (·.1)) out
  | _, _, .nil => .nil
  | _, _, .cons r t => .cons r (vals_each t)
theorem ints_read (h : Heap) : ∀ {us : List Value} {kz : List Int}, EachIs (fun (u : Value) (k : Int) => ∃ t, u = .int k t) us kz → EachIs (fun v d => ∃ as, Reads h v d as) us (kz.map PyData.int)
  | _, _, .nil => .nil
  | _, _, .cons ⟨t, e⟩ r => .cons ⟨[], by rw [e]; exact Reads.int _ _⟩ (ints_read h r)
theorem take_snoc2 {α : Type} {xs : List α} {i : Nat} {x : α} (h : xs[i]? = some x) : xs.take (i + 1) = xs.take i ++ [x] := by
  rw [List.take_add_one, h]
  rfl
theorem ints_alike (kz : List Int) : AllAlike (kz.map PyData.int) := fun d hd d' hd' => by
  obtain ⟨k, _, rfl⟩ := List.mem_map.mp hd
  obtain ⟨k', _, rfl⟩ := List.mem_map.mp hd'
  rfl
theorem ints_sortable (kz : List Int) : PySem.W.Sortable (kz.map PyData.int) := .inr fun d hd => by
  obtain ⟨k, _, rfl⟩ := List.mem_map.mp hd
  exact ⟨(fun z => by cases z), fun xs z => by cases z⟩
/-- list.sort's loop over the keys, its end -/
theorem key_loop {a kS : Addr} {f : Value} {vs : List Value} {gs : List V} {kz : List Int} {A : Around} {e1 : Nat} {P : PySem.Fin → Shared → Prop} {E : Value → Shared → Prop} (I : Inv X pins σ H s) (fa : FpOk X pins H a) (fk : FpOk X pins H kS)
    (ea : s.heap.get? a = some (seqObj "list" #[] e1)) (ek : s.heap.get? kS = some (seqObj "list" #[] 0)) (hne : kS ≠ a) (rv : Vals gs vs) (hl : kz.length = gs.length) (hz : gs.length ≤ 1000) (hu : A.units + 3 < cLine)
    (turn : ∀ (i : Nat) (v : V) (k : Int) (u : Value), gs[i]? = some v → kz[i]? = some k → L2.RelV v u → ∀ (pins' : List (Addr × Obj)) (H' : Hp) (s' : Shared), (∀ p ∈ pins, p ∈ pins') → Inv X pins' σ H' s' → Same H H' →
      wpAny (model X.prog X.w) A (call f [u]) (fun r s'' => (∃ t, r = .int k t) ∧ ∃ H'', Inv X pins' σ H'' s'' ∧ Same H' H'') (fun _ _ => False) s')
    (h : ∀ H' s', Same H H' → Inv X pins σ (upd H' a (.lst (byKey gs kz))) s' → P (.done (.ret .none)) s') :
    wpAny (model X.prog X.w) A (ksk_rest a f false vs.toArray e1 (.ref kS)) P E s := by
  have hlv := rv.length
  unfold ksk_rest
  refine wpAny_bind (wpAny_rule ?_)
  rw [List.forIn_toArray]
  refine wpAny_bind (ksk_fold (fun i s' => ∃ H' kA e, Inv X (pins ++ two a kS (seqObj "list" #[] e1) (seqObj "list" kA e)) σ H' s' ∧ Same H H' ∧ FpOk X pins H' a ∧ FpOk X pins H' kS ∧ EachIs (fun (u : Value) (k : Int) => ∃ t, u = .int k t) kA.toList (kz.take i)) vs 0 s
    ⟨H, #[], 0, repin I fa fk ea ek (fun v z => by cases z) (fun v z => by cases z), Same.refl H, fa, fk, by rw [List.take_zero]; exact .nil⟩ ?step ?done)
  case step =>
    rintro j x s' hx ⟨H', kA, e, I', s1, fa', fk', hk⟩
    simp only [Nat.zero_add] at hk ⊢
    have hj : j < vs.length := (List.getElem?_eq_some_iff.mp hx).1
    obtain ⟨k, hkj⟩ : ∃ k, kz[j]? = some k := ⟨_, List.getElem?_eq_getElem (by omega)⟩
    obtain ⟨v, hv, rvx⟩ : ∃ v, gs[j]? = some v ∧ L2.RelV v x := by
      have hg : j < gs.length := by omega
      obtain ⟨w', hw, rw'⟩ := rv.get (List.getElem?_eq_getElem hg)
      rw [hx] at hw
      cases hw
      exact ⟨_, List.getElem?_eq_getElem hg, rw'⟩
    have hsz : kA.size ≤ 1000 := by
      have h1 := hk.length
      rw [Array.length_toList, List.length_take] at h1
      omega
    refine wpAny_bind (wpAny_attempt (wpAny_mono (turn j v k x hv hkj rvx _ H' s' (fun p hp => List.mem_append_left _ hp) I' s1) (fun r s'' he => ?_) fun _ _ hF => hF.elim))
    obtain ⟨⟨t, rfl⟩, H'', I'', s2⟩ := he
    dsimp only
    obtain ⟨ea2, na2, _, _, _⟩ := I''.pin (a, seqObj "list" #[] e1) (List.mem_append_right _ (List.mem_append_right _ List.mem_cons_self))
    obtain ⟨ek2, nk2, _, _, _⟩ := I''.pin (kS, seqObj "list" kA e) (List.mem_append_right _ (List.mem_append_right _ (List.mem_cons_of_mem _ List.mem_cons_self)))
    have ea2 : s''.heap.get? a = some (seqObj "list" #[] e1) := ea2
    have ek2 : s''.heap.get? kS = some (seqObj "list" kA e) := ek2
    have fa2 : FpOk X pins H'' a := ⟨na2, fa'.2⟩
    have fk2 : FpOk X pins H'' kS := ⟨nk2, fk'.2⟩
    obtain ⟨c2, hc2⟩ : ∃ c2, (s''.heap.update kS (Obj.mapSeq (·.push (.int k t)))).get? kS = some (seqObj "list" (kA.push (.int k t)) c2) := ⟨_, get?_update_seq ek2 (·.push (.int k t))⟩
    refine wpAny_bind (listUpdate_at ek2 rfl ?_ (by show kA.size ≤ _; exact small (by omega)) (by show (kA.push _).size ≤ _; rw [Array.size_push]; have := small (n := kA.size) (by omega); omega))
    have other : ∀ b o, b ≠ kS → s''.heap.get? b = some o → (s''.heap.update kS (Obj.mapSeq (·.push (.int k t)))).get? b = some o := fun b o hb e => (Heap.get?_update_ne _ _ _ _ hb).trans e
    have J : Inv X pins σ H'' { s'' with heap := s''.heap.update kS (Obj.mapSeq (·.push (.int k t))) } := (I''.unpinned (pins := pins)).turned (t' := s''.toks) other nk2 fk'.2.1 fk'.2.2.2.1 fk'.2.2.2.2.1 fk'.2.2.2.2.2
    refine wpAny_pure ⟨rfl, H'', kA.push (.int k t), c2, repin J fa2 fk2 (other a _ (Ne.symm hne) ea2) hc2 (fun v z => by cases z) (fun v z => by cases z), s1.trans s2, fa2, fk2, ?_⟩
    rw [Array.toList_push, take_snoc2 hkj]
    exact each_snoc ⟨t, rfl⟩ hk
  case done =>
    rintro s' ⟨H', kA, e, I', s1, fa', fk', hk⟩
    obtain ⟨ea2, na2, _, _, _⟩ := I'.pin (a, seqObj "list" #[] e1) (List.mem_append_right _ (List.mem_append_right _ List.mem_cons_self))
    obtain ⟨ek2, nk2, _, _, _⟩ := I'.pin (kS, seqObj "list" kA e) (List.mem_append_right _ (List.mem_append_right _ (List.mem_cons_of_mem _ List.mem_cons_self)))
    have ea2 : s'.heap.get? a = some (seqObj "list" #[] e1) := ea2
    have ek2 : s'.heap.get? kS = some (seqObj "list" kA e) := ek2
    have hk' : EachIs (fun (u : Value) (k : Int) => ∃ t, u = .int k t) kA.toList kz := by
      rw [List.take_of_length_le (by omega)] at hk
      exact hk
    have hsz : kA.size = vs.length := by
      have h1 := hk'.length
      rw [Array.length_toList] at h1
      omega
    refine wpAny_bind (listItems_at ek2 rfl ?_)
    have kp : KeepsBut a (without s'.heap kS) s'.heap := fun b o hb q => by
      by_cases hbk : b = kS
      · rw [hbk, without_at] at q
        cases q
      · rw [without_ne hbk] at q
        exact q
    have hu' : ∀ d, d ∈ kz.map PyData.int → A.units + d.depth < cLine := fun d hd => by
      obtain ⟨k, _, rfl⟩ := List.mem_map.mp hd
      simp only [PyData.depth]
      omega
    refine keyH_end (κ := dataKind s'.heap (kz.map PyData.int)) (h₁ := without s'.heap kS) kp (without_at _ _) ek2 ea2 hne (SortsAt.data (ints_read _ hk') (ints_alike kz) (ints_sortable kz) hu') hsz (small (by omega)) fun h3 tk3 c k3 n3 => ?_
    have ez : (gs.zip kz).map (fun b => PyData.int b.2) = kz.map PyData.int := by
      show (gs.zip kz).map (PyData.int ∘ Prod.snd) = _
      rw [← List.map_map, List.map_snd_zip (by omega)]
    have out := keyedOut_each (R := fun (u : Value) (x : V × Int) => L2.RelV x.1 u) (bs := gs.zip kz) (vs := vs) (rev := false) (fun b => .int b.2)
      ⟨s'.heap, kA.toList, by rw [ez]; exact ints_alike kz, rfl, by rw [ez]; exact ints_read _ hk'⟩ (each_zip rv hl)
    rw [ez, dataLe_int] at out
    have vo : Vals (byKey gs kz) _ := vals_each out
    have na3 : h3.get? a = some (seqObj "list" (sortVals (dataKind s'.heap (kz.map PyData.int)) false kA.toList vs).toArray c) := n3
    generalize sortVals (dataKind s'.heap (kz.map PyData.int)) false kA.toList vs = ov at vo na3
    have lo : (byKey gs kz).length ≤ gs.length := by
      unfold byKey
      rw [List.length_map, (List.mergeSort_perm _ _).length_eq, List.length_zip]
      omega
    have keep : ∀ b o, b ≠ a → b ≠ kS → s'.heap.get? b = some o → h3.get? b = some o := fun b o h1 h2 q => k3 b o h1 ((without_ne h2).trans q)
    have J := I'.unpinned (pins := pins)
    have hka : ∀ b u, H' b = some u → b ≠ a ∧ b ≠ kS := fun b u q => ⟨(fun z => by rw [z] at q; exact nomatch (show (none : Option HO) = some u from na2.symm.trans q)), (fun z => by rw [z] at q; exact nomatch (show (none : Option HO) = some u from nk2.symm.trans q))⟩
    refine h H' _ s1 (J.step (ch := [a, kS]) (g' := s'.gens) (d' := s'.drawn) (fun b hb => ?_) (fun b o _ _ hc e _ => keep b o (fun z => hc (by simp [z])) (fun z => hc (by simp [z])) e)
      (fun b o _ _ hc e _ => ⟨o.slots, keep b o (fun z => hc (by simp [z])) (fun z => hc (by simp [z])) e⟩) (fun b o hc e n => by rw [upd_ne (fun z => hc (by simp [z]))]; exact n)
      (fun b o hc e => ⟨o, keep b o (fun z => hc (by simp [z])) (fun z => hc (by simp [z])) e⟩) (fun b xs e => by rw [upd_ne (hka b _ e).1]; exact e) (fun b o u e => by rw [upd_ne (hka b _ e).1]; exact e) (fun b ps e => ⟨#[], by rw [upd_ne (hka b _ e).1, e]; simp⟩)
      (fun m hm => ?_) (fun b u e => ?_) J.bare)
    · rcases List.mem_cons.mp hb with rfl | hb
      · exact ⟨fa'.2.2.2.1, fa'.2.1, fa'.2.2.2.2.1, fa'.2.2.2.2.2⟩
      · rw [List.mem_singleton.mp hb]
        exact ⟨fk'.2.2.2.1, fk'.2.1, fk'.2.2.2.2.1, fk'.2.2.2.2.2⟩
    · obtain ⟨ob, es, ep, ho, r⟩ := hm
      exact ⟨ob, es, ep, keep _ ob (Ne.symm fa'.2.1) (Ne.symm fk'.2.1) ho, r⟩
    · by_cases hb : b = a
      · subst hb
        rw [upd_same] at e
        cases e
        exact ⟨small (by omega), ov, c, vo, na3⟩
      · rw [upd_ne hb] at e
        refine (J.hok b u e).stay (fun d w hd q => keep d w ?_ ?_ q) (fun d q => by rw [upd_ne (hka d _ q).1]; exact q) fun d xs q => by rw [upd_ne (hka d _ q).1]; exact q
        · rcases hd with rfl | hd
          · exact hb
          · exact (hka d _ hd).1
        · rcases hd with rfl | hd
          · exact (hka d _ e).2
          · exact (hka d _ hd).2
/-- sorted(l, key=f) -/
theorem sorted_key {l fa : Addr} {gs : List V} {kz : List Int} {Q : Value → Shared → Prop} {E : Value → Shared → Prop} (I : Inv X pins σ H s) (hs : SqL X.K H l gs) (hl : kz.length = gs.length) (hz : gs.length ≤ 1000) (hu : X.A.units + 5 < cLine)
    (turn : ∀ (i : Nat) (v : V) (k : Int) (u : Value), gs[i]? = some v → kz[i]? = some k → L2.RelV v u → ∀ (pins' : List (Addr × Obj)) (H' : Hp) (s' : Shared), (∀ p ∈ pins, p ∈ pins') → Inv X pins' σ H' s' → Same H H' →
      wpAny (model X.prog X.w) X.A.in1.in1 (call (.ref fa) [u]) (fun r s'' => (∃ t, r = .int k t) ∧ ∃ H'', Inv X pins' σ H'' s'' ∧ Same H' H'') (fun _ _ => False) s')
    (h : ∀ p H' s', H p = none → Same H H' → Inv X pins σ (upd H' p (.lst (byKey gs kz))) s' → Q (.ref p) s') : wpAny (model X.prog X.w) X.A (call (.builtin "sorted") [.ref l] [(Str.ofString "key", .ref fa)]) Q E s := by
  obtain ⟨its, rv, pl, hz'⟩ := I.list hs
  have hlen := rv.length
  refine sorted_of_sort pl.isList (small (by omega)) (ksk_s1 _ _) (fun x => ksk_l1 _ _) fun E' => ?_
  rw [ksk_t1]
  unfold ksk_tree
  have ho := copyHeap_at s.heap its
  generalize ha : s.heap.objs.size + 1 = a at ho ⊢
  have lta : a < (copyHeap s.heap its).objs.size := Heap.lt_size ho
  obtain ⟨e1, ho1⟩ : ∃ e1, ((copyHeap s.heap its).update a (Obj.mapSeq fun _ => (#[] : Array Value))).get? a = some (seqObj "list" #[] e1) := ⟨_, get?_update_seq ho fun _ => #[]⟩
  have hkS : (((copyHeap s.heap its).update a (Obj.mapSeq fun _ => (#[] : Array Value))).push (seqObj "tuple" its.toArray 0)).objs.size = (copyHeap s.heap its).objs.size + 1 := by rw [size_push', Heap.size_update]
  refine wpAny_bind (listItems_at ho rfl ?_)
  refine wpAny_bind (listUpdate_at ho rfl ?_ (by rw [List.size_toArray]; exact small (by omega)) (Nat.zero_le _))
  refine wpAny_bind (seqEpoch_at ho1 rfl ?_)
  refine wpAny_bind (wpAny_newTuple ?_ (by show its.length ≤ _; exact small (by omega)))
  refine wpAny_bind (wpAny_newList ?_ (Nat.zero_le _))
  refine wpAny_holding ?_
  have I1 := I.kept (t' := s.toks) (h' := sortingHeap (copyHeap s.heap its) (s.heap.objs.size + 1) its) fun b o e => sorting_copy_old e
  rw [ha] at I1
  have na : H a = none := I.hok.fresh (by omega)
  have gk : s.heap.objs.size ≤ (((copyHeap s.heap its).update a (Obj.mapSeq fun _ => (#[] : Array Value))).push (seqObj "tuple" its.toArray 0)).objs.size := by omega
  have nk : H (((copyHeap s.heap its).update a (Obj.mapSeq fun _ => (#[] : Array Value))).push (seqObj "tuple" its.toArray 0)).objs.size = none := I.hok.fresh gk
  refine key_loop (pins := pins) (H := H) (s := { s with heap := sortingHeap (copyHeap s.heap its) a its }) (a := a) (kS := (((copyHeap s.heap its).update a (Obj.mapSeq fun _ => (#[] : Array Value))).push (seqObj "tuple" its.toArray 0)).objs.size) I1
    (I.fpOk (by omega) na) (I.fpOk gk nk) (Heap.get?_push_of_some _ (Heap.get?_push_of_some _ ho1)) (Heap.get?_push_size _ rfl) (by rw [hkS]; exact Nat.ne_of_gt (Nat.lt_succ_of_lt lta)) rv hl hz (by show X.A.units + 1 + 1 + 3 < cLine; omega) turn fun H' s' sm J => ⟨rfl, h a H' s' na sm J⟩
end
end Fk

set_option Elab.async false
set_option linter.all false
set_option maxRecDepth 100000
/-! The key of drawn's sort: a lambda whose parameter a comprehension captures. -/
namespace Fk
open PySem PySem.Spec PySem.W PySem.Calls PyProof.Rows L2 LamX
abbrev nG : Str := "group"
abbrev nS : Str := "some"
abbrev nA : Str := "ahead"
abbrev nT : Str := "at"
def lamNames : List (Str × NameKind) := [("group", .cell), ("ahead", .free), ("some", .free), ("len", .globalImplicit)]
/-- the scope of the lambda -/
structure LamSc (scope : Scope) : Prop where
  names : scope.names = lamNames
  kind : scope.kind = .function
  co : scope.isCoroutine = false
  gen : scope.isGenerator = false
abbrev lamEnv2 (q : Str) (scope : Scope) (cl : List (Str × Addr)) (L f c' : Addr) : Env := PySem.W.envX q scope L f (.ref c') ((("group" : Str), L + 1) :: cl)
section
variable {M : Model} {A : Around} {E : Value → Shared → Prop} {s : Shared}
theorem lam_env {scope : Scope} {q : Str} {cl : List (Str × Addr)} {f c' : Addr} {u : Value} {Q : Env → Shared → Prop} (S : LamSc scope)
    (h : ∀ h' tk, h'.Ns s.heap.objs.size (fun _ => none) → h'.IsCell (s.heap.objs.size + 1) (some u) → (∀ b o, s.heap.get? b = some o → h'.get? b = some o) → Q (lamEnv2 q scope cl s.heap.objs.size f c') { s with heap := h', toks := tk }) :
    wpAny M A (newFunctionEnv scope mainGlobals cl [("group", u)] (q ++ ".<locals>.") (some f) (.ref c') none builtinsNs) Q E s := by
  simp only [newFunctionEnv, Option.isSome_none, Bool.false_eq_true, if_false]
  refine wpAny_bind (wpAny_alloc ?_)
  refine wpAny_bind (wpAny_layCells _ (fun name kind cells => by cases hkc : kind == NameKind.cell <;> simp [hkc]) _ _ _ _ ?_)
  rw [S.names]
  rw [show ({ s with heap := s.heap.push { cls := .type "frame", data := .dict #[] } } : Shared).heap.objs.size = s.heap.objs.size + 1 from Heap.size_push ..]
  have ec : cellsFrom (s.heap.objs.size + 1) lamNames cl = (("group" : Str), s.heap.objs.size + 1) :: cl := rfl
  rw [ec, List.forIn_cons]
  have ep : pushCells (s.heap.push { cls := .type "frame", data := .dict #[] }) lamNames = (s.heap.push { cls := .type "frame", data := .dict #[] }).push { cls := .type "cell", data := .cell none } := rfl
  have sz : (s.heap.push { cls := .type "frame", data := .dict #[] }).objs.size = s.heap.objs.size + 1 := Heap.size_push ..
  have hc : ((s.heap.push { cls := .type "frame", data := .dict #[] }).push { cls := .type "cell", data := .cell none }).IsCell (s.heap.objs.size + 1) none := by
    rw [← sz]
    exact ⟨_, Heap.get?_push_size _ rfl, rfl⟩
  have hL : ((s.heap.push { cls := .type "frame", data := .dict #[] }).push { cls := .type "cell", data := .cell none }).Ns s.heap.objs.size (fun _ => none) := (Heap.Ns.new s.heap (.type "frame")).keeps fun b o e => Heap.get?_push_of_some _ e
  have keep : ∀ b o, s.heap.get? b = some o → ((s.heap.push { cls := .type "frame", data := .dict #[] }).push { cls := .type "cell", data := .cell none }).get? b = some o := fun b o e => Heap.get?_push_of_some _ (Heap.get?_push_of_some _ e)
  refine wpAny_bind (wpAny_bind (wpAny_bind (wpAny_storeName_cell (c := s.heap.objs.size + 1) (v₀ := none) S.kind ?_ ?_ hc fun h' hc' hs' => wpAny_pure ?_)))
  · show List.lookup _ scope.names = some .cell
    rw [S.names]
    rfl
  · rfl
  · dsimp only
    rw [List.forIn_nil]
    refine wpAny_pure (wpAny_pure (h h' s.toks (hL.sameBut hs' (Nat.ne_of_lt (Nat.lt_succ_self _))) hc' fun b o e => (hs'.2 b (Nat.ne_of_lt (Nat.lt_succ_of_lt (Heap.lt_size e)))).trans (keep b o e)))
end
/-- the context of the lambda's body -/
def lamCx2 (X : Cx) (A : Around) (s : Shared) (H : Hp) (q : Str) (scope : Scope) (cl : List (Str × Addr)) (f c' : Addr) : Cx where
  prog := X.prog
  w := X.w
  K := X.K
  mg := X.mg
  base := X.base
  A := A.deeper (lamEnv2 q scope cl s.heap.objs.size f c')
  N := ["group", "some", "ahead", "at"]
  s_0 := s
  H_0 := H
  env := lamEnv2 q scope cl s.heap.objs.size f c'
  outer := X.stack
  stack := lamEnv2 q scope cl s.heap.objs.size f c' :: X.stack
  ex := []
  fn := fun _ => false
  calm := true
  pn := []
  xe := fun e s' => wpAny (model X.prog X.w) (A.deeper (lamEnv2 q scope cl s.heap.objs.size f c')) (leaving (lamEnv2 q scope cl s.heap.objs.size f c') e) (fun _ _ => False) (fun _ _ => False) s'
/-- the names that the lambda captures -/
structure LamCl (X : Cx) (cl : List (Str × Addr)) (js ja : Nat) : Prop where
  ex : ∃ cs ca : Addr, cl = [(nS, cs), (nA, ca)] ∧ X.env.cells.lookup nS = some cs ∧ X.env.cells.lookup nA = some ca
  ks : X.env.scope.names.lookup nS = some .cell
  ka : X.env.scope.names.lookup nA = some .cell
  ns : X.N[js]? = some nS
  na : X.N[ja]? = some nA
theorem look3 {y : Str} {c g cs ca : Addr} (e : List.lookup y [(nG, g), (nS, cs), (nA, ca)] = some c) : (y = nG ∧ c = g) ∨ (y = nS ∧ c = cs) ∨ (y = nA ∧ c = ca) := by
  rcases List.mem_cons.mp (PySem.mem_of_lookup e) with h | h
  · exact .inl ⟨(Prod.mk.inj h).1, (Prod.mk.inj h).2⟩
  · rcases List.mem_cons.mp h with h | h
    · exact .inr (.inl ⟨(Prod.mk.inj h).1, (Prod.mk.inj h).2⟩)
    · have h := List.mem_singleton.mp h
      exact .inr (.inr ⟨(Prod.mk.inj h).1, (Prod.mk.inj h).2⟩)
section
variable {X : Cx} {pins : List (Addr × Obj)} {σ : L2.St} {H : Hp} {s : Shared}
theorem cell_val {x : Str} {c : Addr} {j : Nat} {v : V} (I : Inv X pins σ H s) (hk : X.env.scope.names.lookup x = some .cell) (hn : X.N[j]? = some x) (hc : X.env.cells.lookup x = some c) (hv : σ[j]? = some (some v)) : ∃ u, L2.RelV v u ∧ s.heap.IsCell c (some u) := by
  obtain ⟨m, _, hl⟩ := I.loc
  obtain ⟨u, r, l⟩ := hl j x v hn hv (.inr (.inl hk))
  rcases l with ⟨k, _⟩ | ⟨_, c2, e, z⟩
  · have k : X.env.scope.names.lookup x = some .local := k
    rw [hk] at k
    cases k
  · rw [hc] at e
    cases e
    exact ⟨u, r, z⟩
theorem lam_start {A : Around} {q : Str} {scope : Scope} {cl : List (Str × Addr)} {f c' : Addr} {js ja : Nat} {vs va v : V} {u : Value} {h' : Heap} {tk : Nat} (I : Inv X pins σ H s) (S : LamSc scope) (C : LamCl X cl js ja) (hd : A.handled = none) (hf : A.frames = some X.stack)
    (hs : σ[js]? = some (some vs)) (ha : σ[ja]? = some (some va)) (ru : L2.RelV v u) (hn : h'.Ns s.heap.objs.size (fun _ => none)) (hc : h'.IsCell (s.heap.objs.size + 1) (some u)) (kp : ∀ b o, s.heap.get? b = some o → h'.get? b = some o) :
    Inv (lamCx2 X A s H q scope cl f c') [] [some v, some vs, some va, none] H { s with heap := h', toks := tk } := by
  obtain ⟨cs, ca, rfl, e1, e2⟩ := C.ex
  obtain ⟨us, rs, is⟩ := cell_val I C.ks C.ns e1 hs
  obtain ⟨ua, ra, ia⟩ := cell_val I C.ka C.na e2 ha
  have cellK : ∀ {c : Addr} {v : Option Value}, s.heap.IsCell c v → h'.IsCell c v := fun {c v} ⟨o, ho, hd⟩ => ⟨o, kp _ _ ho, hd⟩
  have ltc : ∀ {c : Addr} {v : Option Value}, s.heap.IsCell c v → c < s.heap.objs.size := fun {c v} ⟨o, ho, _⟩ => Heap.lt_size ho
  have lts := ltc is
  have lta := ltc ia
  have nsa : cs ≠ ca := fun z => by
    rw [← z] at e2
    have := I.ok.inj _ _ _ e1 e2
    revert this
    decide
  have ngs : s.heap.objs.size + 1 ≠ cs := Nat.ne_of_gt (Nat.lt_succ_of_lt lts)
  have nga : s.heap.objs.size + 1 ≠ ca := Nat.ne_of_gt (Nat.lt_succ_of_lt lta)
  have e0 := I.env0
  have noA : ∀ b : Addr, b ∉ (lamCx2 X A s H q scope [(nS, cs), (nA, ca)] f c').ex := fun b z => absurd (show b ∈ ([] : List Addr) from z) (by simp)
  have lk : ∀ y c, (lamCx2 X A s H q scope [(nS, cs), (nA, ca)] f c').env.cells.lookup y = some c → (y = nG ∧ c = s.heap.objs.size + 1) ∨ (y = nS ∧ c = cs) ∨ (y = nA ∧ c = ca) := fun y c e => look3 e
  have kn : ∀ y k, scope.names.lookup y = some k → (y, k) ∈ lamNames := fun y k e => by
    rw [S.names] at e
    exact PySem.mem_of_lookup e
  refine ⟨⟨e0.mod, S.kind, rfl, rfl, Nat.le_refl _, fun y z c h1 h2 => ?_, fun y hy => ?_, fun y c z _ => ?_, fun _ => hd, Around.frames_deeper hf, .inr ⟨rfl, rfl⟩, fun b z => absurd z (noA b), e0.bs, e0.bsz, fun b _ _ => noA b,
      fun b z => absurd z (noA b), e0.funs, e0.frf⟩,
    rfl, e0.bare, Un.kept kp, ⟨_, hn, fun i y w h1 h2 h3 => ?_⟩, fun y c e => ?_, e0.hok.fresh (Nat.le_refl _), fun y c e => ?_, fun p hp => absurd (show p ∈ ([] : List (Addr × Obj)) ++ [] from hp) (by simp), e0.hok.kept kp, rfl⟩
  · rcases lk y c h1 with ⟨rfl, a1⟩ | ⟨rfl, a1⟩ | ⟨rfl, a1⟩ <;> rcases lk z c h2 with ⟨rfl, a2⟩ | ⟨rfl, a2⟩ | ⟨rfl, a2⟩ <;> first | rfl | exact absurd (a1.symm.trans a2) nsa | exact absurd (a2.symm.trans a1) nsa | exact absurd (a1.symm.trans a2) ngs | exact absurd (a2.symm.trans a1) ngs | exact absurd (a1.symm.trans a2) nga | exact absurd (a2.symm.trans a1) nga
  · have hy : scope.names.lookup y = some .cell ∨ scope.names.lookup y = some .free := hy
    have : y = nG ∨ y = nS ∨ y = nA := by
      rcases hy with hy | hy
      · have := kn _ _ hy
        simp [lamNames] at this
        exact .inl this
      · have := kn _ _ hy
        simp [lamNames] at this
        exact .inr this.symm
    rcases this with rfl | rfl | rfl
    · exact ⟨s.heap.objs.size + 1, rfl⟩
    · exact ⟨cs, rfl⟩
    · exact ⟨ca, rfl⟩
  · have z : false = true := z
    cases z
  · have l1 : scope.names.lookup nG = some .cell := by
      rw [S.names]
      rfl
    have l2 : scope.names.lookup nS = some .free := by
      rw [S.names]
      rfl
    have l3 : scope.names.lookup nA = some .free := by
      rw [S.names]
      rfl
    match i, h1, h2 with
    | 0, h1, h2 =>
      cases h1
      cases h2
      exact ⟨u, ru, .inr ⟨.inl l1, _, rfl, hc⟩⟩
    | 1, h1, h2 =>
      cases h1
      cases h2
      exact ⟨us, rs, .inr ⟨.inr l2, cs, rfl, cellK is⟩⟩
    | 2, h1, h2 =>
      cases h1
      cases h2
      exact ⟨ua, ra, .inr ⟨.inr l3, ca, rfl, cellK ia⟩⟩
    | 3, h1, h2 => cases h2
    | n + 4, h1, h2 => cases h2
  · rcases lk y c e with ⟨rfl, rfl⟩ | ⟨rfl, rfl⟩ | ⟨rfl, rfl⟩
    · exact ⟨_, hc⟩
    · exact ⟨_, cellK is⟩
    · exact ⟨_, cellK ia⟩
  · rcases lk y c e with ⟨rfl, rfl⟩ | ⟨rfl, rfl⟩ | ⟨rfl, rfl⟩
    · exact e0.hok.fresh (Nat.le_succ _)
    · exact I.freeC _ _ e1
    · exact I.freeC _ _ e2
/-- the lambda is called -/
theorem lam_call {A : Around} {q : Str} {params : Arguments} {body : Expr} {scope : Scope} {cl : List (Str × Addr)} {f c' : Addr} {pm ctv : Value} {js ja lvl : Nat} {vs va v : V} {u : Value} {tb : TE} {Q : VK} (I : Inv X pins σ H s) (S : LamSc scope) (C : LamCl X cl js ja) (hr : Room (lvl + 1) A) (hf : A.frames = some X.stack)
    (hs : σ[js]? = some (some vs)) (ha : σ[ja]? = some (some va)) (ru : L2.RelV v u) (of : s.heap.get? f = some (PySem.W.kla_obj "<lambda>" q params body scope cl pm c' ctv)) (hco : H c' = some (CodeO c' q))
    (hbind : bindArgs (PySem.W.kla_fn "<lambda>" q params body scope cl pm (.ref c') ctv) ⟨[u], []⟩ = pure [(nG, u)])
    (hbody : PE (lamCx2 X A s H q scope cl f c') body tb) (ht : tb [some v, some vs, some va, none] H Q) :
    wpAny (model X.prog X.w) A (call (.ref f) [u]) (fun r s'' => ∃ w H'', Inv X pins σ H'' s'' ∧ L2.RelV w r ∧ Q w H'') (fun _ _ => False) s := by
  obtain ⟨⟨oc, vs', t, hoc, hdc, hvc⟩, _, _⟩ := I.hok c' _ hco
  have lim := I.nolimit
  have rc : codeAny (model X.prog X.w) A (.call (.ref f) ⟨[u], []⟩) (fun r s'' => match r with
      | .ok (.ret u) => ∃ w H'', Inv X pins σ H'' s'' ∧ L2.RelV w u ∧ Q w H''
      | _ => False) s := by
    refine PySem.W.kla_callFunE hr.depth of rfl S.co S.gen rfl ⟨c', oc, vs', t, rfl, hoc, hdc, hvc⟩ ?_
    rw [hbind]
    refine wpAny_pure (lam_env S fun h' tk hn hc kp => ⟨lim.keeps kp, ?_⟩)
    have J := lam_start (A := A) (q := q) (f := f) (c' := c') (tk := tk) I S C hr.hd hf hs ha ru hn hc kp
    refine PySem.W.kla_codeExpr (wpAny_mono (hbody.run [] _ _ H Q J ht) (fun w s' hq => ?_) fun e s' hq => hq)
    obtain ⟨w', H', J', rv, q⟩ := hq
    exact ⟨w', H', I.call' (ch := []) J'.os J'.base J'.hok J'.bare (fun b z => absurd z (by simp)), rv, q⟩
  refine wpAny_call (codeAny_mono rc fun r s' hq => ?_)
  cases r with
  | error e => exact hq
  | ok fl =>
    cases fl with
    | ret u => exact hq
    | next => exact hq
    | brk => exact hq
    | cont => exact hq
theorem lam_cl {scope : Scope} {js ja : Nat} (ok : X.Ok) (S : LamSc scope) (ks : X.env.scope.names.lookup nS = some .cell) (ka : X.env.scope.names.lookup nA = some .cell) (ns : X.N[js]? = some nS) (na : X.N[ja]? = some nA) : LamCl X (cloFrom X.env.cells scope.names []) js ja := by
  obtain ⟨cs, e1⟩ := ok.has nS (.inl ks)
  obtain ⟨ca, e2⟩ := ok.has nA (.inl ka)
  refine ⟨⟨cs, ca, ?_, e1, e2⟩, ks, ka, ns, na⟩
  rw [S.names]
  show [(nS, (X.env.cells.lookup nS).getD 0), (nA, (X.env.cells.lookup nA).getD 0)] = _
  rw [e1, e2]
  rfl
/-- sorted(e, key=lambda group: ..) -/
def tSortLam (K : PySem.W.Frag) (T : List (Addr × Str)) (js ja : Nat) (te tb : TE) : TE := fun σ H Q => te σ H fun x H1 => Tabs T H1 ∧ ∀ H2, ExtN H1 H2 → Tabs T H2 → ∃ (l : Addr) (gs : List V) (kz : List Int) (vs va : V), x = .ref l ∧ SqL K H2 l gs ∧ kz.length = gs.length ∧ gs.length ≤ 1000 ∧
  σ[js]? = some (some vs) ∧ σ[ja]? = some (some va) ∧ (∀ (i : Nat) (v : V) (k : Int), gs[i]? = some v → kz[i]? = some k → ∀ H3, Same H2 H3 → tb [some v, some vs, some va, none] H3 fun w H4 => w = .int k ∧ Same H3 H4) ∧
  ∀ p H3, H2 p = none → Same H2 H3 → Q (.ref p) (upd H3 p (.lst (byKey gs kz)))
/-- what is wanted behind the list -/
def sortLamQ (K : PySem.W.Frag) (T : List (Addr × Str)) (js ja : Nat) (tb : TE) (σ : L2.St) (Q : VK) : List V → Hp → Prop
  | [x], H1 => Tabs T H1 ∧ ∀ H2, ExtN H1 H2 → Tabs T H2 → ∃ (l : Addr) (gs : List V) (kz : List Int) (vs va : V), x = .ref l ∧ SqL K H2 l gs ∧ kz.length = gs.length ∧ gs.length ≤ 1000 ∧
      σ[js]? = some (some vs) ∧ σ[ja]? = some (some va) ∧ (∀ (i : Nat) (v : V) (k : Int), gs[i]? = some v → kz[i]? = some k → ∀ H3, Same H2 H3 → tb [some v, some vs, some va, none] H3 fun w H4 => w = .int k ∧ Same H3 H4) ∧
      ∀ p H3, H2 p = none → Same H2 H3 → Q (.ref p) (upd H3 p (.lst (byKey gs kz)))
  | _, _ => False
theorem pe_sortLam {T : List (Addr × Str)} {c P : Addr} {lv : Nat} {params : Arguments} {body e : Expr} {scope : Scope} {te tb : TE} {js ja : Nat} {p lpos kpos pos : Pos} (S : LamSc scope) (hg : Gl X "sorted") (hm : X.mg "sorted" = none) (he : PE X e te)
    (TB : TabB X.base X.mg c P) (hcode : X.env.code = .ref c) (hmT : (P, X.env.qual ++ "<lambda>") ∈ T) (hu : ∀ p ∈ T, p.1 = P → p.2 = X.env.qual ++ "<lambda>") (hr : Room (lv + 3) X.A) (hdef : defaultsOf params X.env = ([], []))
    (ks : X.env.scope.names.lookup nS = some .cell) (ka : X.env.scope.names.lookup nA = some .cell) (ns : X.N[js]? = some nS) (na : X.N[ja]? = some nA)
    (hbind : ∀ (q : Str) (cl : List (Str × Addr)) (pm cv ctv u : Value), bindArgs (PySem.W.kla_fn "<lambda>" q params body scope cl pm cv ctv) ⟨[u], []⟩ = pure [(nG, u)])
    (hbody : ∀ (A : Around) (s : Shared) (H : Hp) (q : Str) (cl : List (Str × Addr)) (f c' : Addr), Room lv (A.deeper (lamEnv2 q scope cl s.heap.objs.size f c')) → PE (lamCx2 X A s H q scope cl f c') body tb)
    (hst0 : starEach [e] X.env = (false, eval e X.env) :: starEach [] X.env := by rfl) (hst : backTo pos (starEach [e] X.env) = (false, eval e X.env) :: backTo pos (starEach [] X.env) := by rfl) (hpl : (backTo pos (starEach [e] X.env)).any (·.1) = false := by rfl) : PE X (.Call (.Name "sorted" p) [e] [⟨some "key", .Lambda params body scope lpos, kpos⟩] pos) (tSortLam X.K T js ja te tb) := by
  refine ⟨fun pins s σ H Q I h => ?_⟩
  refine wpAny_Call_Name_kw (ld_blt I hg hm bt_sorted ?_)
  refine PyProof.Rows.callWith_kw ?_ hst hpl (by rfl) (by rfl)
  have hfree : ∀ y ∈ scope.names, y.2 = .free → ∃ c, X.env.cells.lookup y.1 = some c := fun y hy e => by
    rw [S.names] at hy
    simp only [lamNames, List.mem_cons, List.not_mem_nil, or_false] at hy
    rcases hy with rfl | rfl | rfl | rfl
    · cases e
    · exact I.ok.has nA (.inl ka)
    · exact I.ok.has nS (.inl ks)
    · cases e
  have hq : tCons te tNil σ H (sortLamQ X.K T js ja tb σ Q) := h
  refine thn ((pa_cons he pa_nil (hs := hst0)).run pos pins s σ H (sortLamQ X.K T js ja tb σ Q) I hq) fun us s1 ⟨vs, H1, I1, r1, q1⟩ => ?_
  rcases vs with _ | ⟨x, _ | ⟨y, r⟩⟩
  · exact q1.elim
  · obtain ⟨u0, rfl, rx⟩ := vals1 r1
    obtain ⟨hT, q1⟩ := q1
    show wpAny _ _ (evalAll [do let v ← eval (.Lambda params body scope lpos) X.env; standAt pos; pure v]) _ _ _
    refine evalAll_cons (wpAny_bind (lam_make2 I1 TB hcode hmT hu hT hdef hfree fun f c' pm ctv H2 s2 I2 eN T2 hf hfn hfr hco => wpAny_bind (wpAny_standAt (wpAny_pure (evalAll_nil ?_)))))
    obtain ⟨l, gs, kz, vS, vA, rfl, hl, hlen, hz, hs, ha, hk, q⟩ := q1 H2 eN T2
    obtain rfl : u0 = Value.ref l := rx
    have nl : f ≠ X.env.locals := fun z => by
      obtain ⟨m, ⟨o, es, ep, ho, hd, _⟩, _⟩ := I2.loc
      rw [← z, hf] at ho
      cases ho
      cases hd
    have nfs : f ∉ X.fs := fun z => hfr (by
      rcases I2.ok.stk with e | ⟨e, hfm⟩
      · rw [e]
        exact z
      · rw [e]
        unfold frs
        rw [List.filterMap_cons, hfm]
        exact List.mem_cons_of_mem _ z)
    have I3 : Inv X (pins ++ [(f, PySem.W.kla_obj "<lambda>" (X.env.qual ++ "<lambda>") params body scope (cloFrom X.env.cells scope.names []) pm c' ctv)]) σ H2 s2 := I2.pins_of fun p hp => by
      rcases List.mem_append.mp hp with hp | hp
      · exact I2.pin p (List.mem_append_right _ hp)
      · rw [List.mem_singleton.mp hp]
        exact ⟨hf, hfn, nl, nfs, fun v z => by cases z⟩
    have C := lam_cl I2.ok S ks ka ns na
    show wpAny _ _ (call (.builtin "sorted") [.ref l] [(Str.ofString "key", .ref f)]) _ _ _
    have hun := hr.un
    refine sorted_key (Q := EP X pins σ Q) I3 hl hlen hz (by omega) (fun i v k u hv hkk ru pins' H' s' sub I' sm => ?_) fun p H' s' hp sm J => ⟨.ref p, _, (J.unpinned (pins := pins)), rfl, q p H' hp sm⟩
    obtain ⟨hf', _⟩ := I'.pin (f, PySem.W.kla_obj "<lambda>" (X.env.qual ++ "<lambda>") params body scope (cloFrom X.env.cells scope.names []) pm c' ctv) (List.mem_append_right _ (sub _ (List.mem_append_right _ (List.mem_singleton.mpr rfl))))
    have hr2 : Room (lv + 1) X.A.in1.in1 := hr.in1.in1
    refine wpAny_mono (lam_call I' S C hr2 I'.ok.frames hs ha ru hf' (sm _ _ hco) (hbind _ _ _ _ _ _) (hbody _ _ _ _ _ _ _ (hr2.deeper _)) (hk i v k hv hkk H' sm)) (fun r s'' hq => ?_) fun _ _ e => e
    obtain ⟨w, H'', J, rw', rfl, sm'⟩ := hq
    exact ⟨rw', H'', J, sm'⟩
  · exact q1.elim
end
end Fk

set_option Elab.async false
set_option linter.all false
set_option maxRecDepth 100000
/-! drawn. -/
namespace Fk
open PySem PySem.Spec PyProof.Rows L2 LamX
abbrev s_drawn : Stmt := topS 37
abbrev nDrawn : List Str := ["labels", "ahead", "some", "word", "ways", "one", "are_told", "groups", "runs", "other", "group"]
theorem sc_drawn : FnScope nDrawn ["labels", "ahead", "some"] (defScope s_drawn) := ⟨rfl, rfl, rfl, by decide +kernel, rfl, by decide +kernel, by decide +kernel⟩
/-- a def whose code object is known -/
structure DnC (K : PySem.W.Frag) (mg : Str → Option Value) (x : Str) (st : Stmt) (ps : List Str) (f : Addr) (fd : FuncData) (c : Addr) : Prop where
  ex : ∃ (oc : Value) (od : Option Addr) (kV doc pm : Value) (an : Option Addr) (ct : Value) (osl : Array (Option Value)),
    fd = PySem.W.fnOf x x (defArgs st) (defBody st) (defScope st) .none kV doc pm an (.ref c) ct ∧ K.lookup f = some ⟨oc, od, .func fd, osl⟩ ∧ PySem.W.codeIn K (.ref c) x = true
  kp : PySem.W.keepIn K (.ref f) = true
  b : Binds K fd ps []
  g : mg x = some (.ref f)
section
variable {P : Program} {w : World} {K : PySem.W.Frag} {mg : Str → Option Value} {base : Heap} {f g : Addr} {fd gd : FuncData} {k : Nat}
theorem DnC.kn {x : Str} {st : Stmt} {ps : List Str} {c : Addr} {sp : Sp} (D : DnC K mg x st ps f fd c) (h : FnOk P w K mg base CX0 k f fd ps sp) : Kn P w K mg base k x sp := ⟨f, fd, ps, h, D.g, D.kp, D.b⟩
theorem DnC.ok {x : Str} {st : Stmt} {ps N : List Str} {c : Addr} {sp : Sp} (D : DnC K mg x st ps f fd c) (S : FnScope N ps (defScope st)) (len : ∀ vs H Q E, sp vs H Q E → vs.length = ps.length)
    (hbody : ∀ (A : Around) (outer : List Env) (s : Shared) (H : Hp) (vs : List V) (Q : VK) (E : XK), Room k (A.deeper (envOfC x (defScope st) s.heap.objs.size f (.ref c))) → sp vs H Q E →
      ∃ t, PSs (cxOf CX0 P w K mg base N x (defScope st) f (.ref c) A outer s H E).nox (defBody st) t ∧ t { nx := fun _ H' => Q .non H', rt := Q } (L2.start N vs) H) : FnOk P w K mg base CX0 (k + 1) f fd ps sp := by
  obtain ⟨oc, od, kV, doc, pm, an, ct, osl, rfl, lk, hcd⟩ := D.ex
  refine fn_of lk hcd S len fun A outer s H vs Q E hr hsp => ?_
  obtain ⟨t, h, q⟩ := hbody A outer s H vs Q E hr hsp
  exact ⟨t, h.nox, q⟩
theorem xt_tk {H H' : Hp} (e : ExtN H H') : TK H H' := ⟨fun a xs h => e a _ h (fun _ z => nomatch z), fun a o u h => e a _ h (fun _ z => nomatch z)⟩
theorem sqL_xt {H H' : Hp} {a : Addr} {xs : List V} (h : SqL K H a xs) (e : ExtN H H') : SqL K H' a xs := by
  rcases h with (h | ⟨o, h⟩) | h
  · exact .inl (.inl (e _ _ h (fun _ z => nomatch z)))
  · exact .inl (.inr ⟨o, e _ _ h (fun _ z => nomatch z)⟩)
  · exact .inr h
theorem Ahd.xt {H H' : Hp} {v : V} {n : Nat} {rel : Nat → Nat → Bool} (h : Ahd H v n rel) (e : ExtN H H') : Ahd H' v n rel := by
  obtain ⟨a, ds, h1, h2, h3⟩ := h
  refine ⟨a, ds, h1, e _ _ h2 (fun _ z => nomatch z), fun i hi => ?_⟩
  obtain ⟨p, ks, c1, c2, c3⟩ := h3 i hi
  exact ⟨p, ks, c1, e _ _ c2 (fun _ z => nomatch z), c3⟩
/-- the tables' list: drawn's table tells its lambda -/
structure Tbl (base : Heap) (mg : Str → Option Value) (T : List (Addr × Str)) (c P : Addr) : Prop where
  TB : TabB base mg c P
  m : (P, (Str.ofString "drawn" ++ Str.ofString ".<locals>.") ++ Str.ofString "<lambda>") ∈ T
  u : ∀ p ∈ T, p.1 = P → p.2 = (Str.ofString "drawn" ++ Str.ofString ".<locals>.") ++ Str.ofString "<lambda>"
theorem byKey_paired {F : V → List Nat → Prop} {gs : List V} {Gs : List (List Nat)} {key : List Nat → Int} (h : Paired F gs Gs) : Paired F (byKey gs (Gs.map key)) (Gs.mergeSort fun a b => decide (key a ≤ key b)) := by
  have hl := h.length
  have e1 : gs.zip (Gs.map key) = (gs.zip Gs).map fun x => (x.1, key x.2) := by
    rw [List.zip_map_right]
    rfl
  have m1 : ((gs.zip Gs).mergeSort fun a b => decide (key a.2 ≤ key b.2)).map (fun x : V × List Nat => (x.1, key x.2)) = ((gs.zip Gs).map fun x => (x.1, key x.2)).mergeSort fun a b => decide (a.2 ≤ b.2) := List.map_mergeSort fun a _ b _ => rfl
  have m2 : ((gs.zip Gs).mergeSort fun a b => decide (key a.2 ≤ key b.2)).map (·.2) = ((gs.zip Gs).map (·.2)).mergeSort fun a b => decide (key a ≤ key b) := List.map_mergeSort fun a _ b _ => rfl
  have e2 : (gs.zip Gs).map (·.2) = Gs := List.map_snd_zip (by omega)
  rw [e2] at m2
  unfold byKey
  rw [e1, ← m1, List.map_map, ← m2]
  have all : ∀ x ∈ (gs.zip Gs).mergeSort fun a b => decide (key a.2 ≤ key b.2), F x.1 x.2 := fun x hx => by
    have hx' := (List.mergeSort_perm _ _).mem_iff.mp hx
    obtain ⟨i, hi⟩ := List.getElem?_of_mem hx'
    rw [List.getElem?_zip_eq_some] at hi
    obtain ⟨y, h1, h2⟩ := paired_get h hi.1
    rw [hi.2] at h1
    cases h1
    exact h2
  generalize (gs.zip Gs).mergeSort (fun a b => decide (key a.2 ≤ key b.2)) = zs at all
  induction zs with
  | nil => exact .nil
  | cons z zs ih => exact .cons (all z List.mem_cons_self) (ih fun x hx => all x (List.mem_cons_of_mem _ hx))
theorem xt_mut {H H' : Hp} {p : Addr} {o : HO} (e : ExtN H H') (h : H p = none) : ExtN H (upd H' p o) := fun b u q n => by
  rw [upd_ne (ne_of_none q h)]
  exact e b u q n
theorem none_xt {H H' : Hp} {p : Addr} (e : Same H H') (h : H' p = none) : H p = none := none_old e h
theorem tabs_mut {T : List (Addr × Str)} {H : Hp} {p : Addr} {o : HO} (t : Tabs T H) (h : ∃ xs, H p = some (.lst xs)) : Tabs T (upd H p o) := fun q hq => by
  obtain ⟨xs, hx⟩ := h
  obtain ⟨ps, h1, h2, h3⟩ := t q hq
  refine ⟨ps, by rw [upd_ne (ne_of h1 hx (fun z => nomatch z))]; exact h1, h2, fun pos cv hc => ?_⟩
  obtain ⟨c, e1, e2⟩ := h3 pos cv hc
  exact ⟨c, e1, by rw [upd_ne (ne_of e2 hx (fun z => by unfold CodeO at z; cases z))]; exact e2⟩
theorem no_none : ∀ rs : List R, ((encL rs).any fun z => PyData.eqv z .none) = false
  | [] => by simp [encL]
  | r :: rs => by
    rw [encL, List.any_cons, no_none rs, Bool.or_false]
    cases r <;> simp [enc, PyData.eqv]
theorem LV3len {rel : Nat → Nat → Bool} {lab : Nat → Str} {Gs : List (List Nat)} {ts : List R} (h : Paired (fun G r => Fits rel lab r G) Gs ts) : Gs.length = ts.length := h.length
theorem none_xt2 {H H' : Hp} {p : Addr} (e : ExtN H H') (h : H' p = none) (ht : ∀ ps, H p ≠ some (.tbl ps)) : H p = none := by
  cases z : H p with
  | none => rfl
  | some o =>
    rw [e p o z (fun ps e => ht ps (by rw [z, e]))] at h
    cases h
/-- x and y hang together -/
noncomputable def hang (nbr : Nat → List Nat) (x y : Nat) : Bool := @decide (y = x ∨ Reach nbr x y) (Classical.propDecidable _)
theorem hang_iff {nbr : Nat → List Nat} {x y : Nat} : hang nbr x y = true ↔ y = x ∨ Reach nbr x y := by
  unfold hang
  exact @decide_eq_true_iff _ (Classical.propDecidable _)
theorem room65 {k : Nat} {A : Around} (hr : Room k A) : A.units + 65 < cLine := by
  have := hr.un
  omega
def sp_drawn (K : PySem.W.Frag) (T : List (Addr × Str)) (d : Nat) : Sp := fun vs H Q _ => ∃ (la sa : Addr) (av : V) (ns : List Str) (S : List Nat) (r : R) (rel : Nat → Nat → Bool) (lab : Nat → Str), vs = [.ref la, av, .ref sa] ∧ SqT K H la (List.map V.str ns) ∧ Ahd H av ns.length rel ∧ SqL K H sa (iv S) ∧
  S.Nodup ∧ (∀ x ∈ S, x < ns.length) ∧ ns.length ≤ 30 ∧ (∀ x, rel x x = false) ∧ Fits rel lab r S ∧ Ok r ∧ depth r ≤ d ∧ (∀ i < ns.length, ns[i]? = some (lab i)) ∧ Tabs T H ∧ ∀ v H', ExtN H H' → Tabs T H' → At K H' v r → Q v H'
def forBody : Stmt → List Stmt
  | .For _ _ b _ _ => b
  | _ => []
def ifBody : Stmt → List Stmt
  | .If _ b _ _ => b
  | _ => []
def asgVal : Stmt → Expr
  | .Assign _ e _ => e
  | _ => .Constant .none 0 ⟨0, 0, 0, 0⟩
abbrev noStmt : Stmt := .Pass ⟨0, 0, 0, 0⟩
def lamOf : Expr → Scope
  | .Call _ _ [⟨_, .Lambda _ _ sc _, _⟩] _ => sc
  | _ => defScope (.Pass ⟨0, 0, 0, 0⟩)
theorem nd_lam : (["group", "some", "ahead", "at"] : List Str).Nodup := by decide +kernel
abbrev lamScD : Scope := lamOf (asgVal ((ifBody ((forBody ((defBody s_drawn).getD 1 noStmt)).getD 3 noStmt)).getD 0 noStmt))
theorem ok_drawn {T : List (Addr × Str)} {c Pt : Addr} {d j l m : Nat} (D : DnC K mg "drawn" s_drawn ["labels", "ahead", "some"] f fd c) (B : Blt mg) (N : Ntg K mg) (TT : Tbl base mg T c Pt) (C : Kn P w K mg base j "drawn" (sp_drawn K T d)) (Cg : Kn P w K mg base l "groups_of" (sp_groups K)) (Cj : Kn P w K mg base m "joined" (sp_joined K))
    (hj : j ≤ k) (hl : l ≤ k) (hm : m ≤ k) (h3 : 3 ≤ k) (hd39 : d ≤ 39) : Kn P w K mg base (k + 1) "drawn" (sp_drawn K T (d + 1)) := by
  refine D.kn (D.ok sc_drawn (fun vs H Q E h => ?_) (fun A outer s H vs Q E hr h => ?_))
  · obtain ⟨la, sa, av, ns, S, r, rel, lab, rfl, _⟩ := h
    rfl
  obtain ⟨la, sa, av, ns, S, r, rel, lab, rfl, hla, hA, hS, hnd, hlt, hn30, hirr, hfit, hok, hdr, hlab, hT, q⟩ := h
  obtain ⟨an, gn, hn⟩ := N
  have hr3 : Room (0 + 3) (A.deeper (envOfC "drawn" (defScope s_drawn) s.heap.objs.size f (.ref c))) := hr.mono h3
  refine ⟨_, pss_cons (ps_if (pt_cmpR op_lt (pe_callB call_len_seq (by rfl) B.zlen bt_len (pa_cons (pv 2) pa_nil)) pe_int (nomark _))
      (pss_one (ps_ret (pe_ifExp (pt_cmpR (op_neD hr.units) (pv 2) (pe_lst pa_nil) (nomark _)) (pe_tup (pa_cons pe_str (pa_cons (pe_ix ix_tup (pv 0) (pe_ix ix_list (pv 2) pe_int (fun _ _ => rfl)) (fun _ _ => rfl)) pa_nil))) (pe_glob (v := .ref an) (by rfl) gn rfl)))) pss_nil)
    (pss_cons (ps_for PassesOwn.never rfl (pi_tup (pe_tup (pa_cons pe_str (pa_cons pe_str pa_nil)))) (pg_name (i := 3) sc_drawn.nd rfl (Or.inr rfl))
      (pss_cons (ps_set (i := 4) sc_drawn.nd rfl (Or.inl rfl) pe_dnewK)
      (pss_cons (ps_for PassesOwn.never rfl (pi_list (pv 2)) (pg_name (i := 5) sc_drawn.nd rfl (Or.inr rfl))
        (pss_cons (ps_set (i := 6) sc_drawn.nd rfl (Or.inr rfl) (pe_dc (own := [("other", 9)]) (g := gName 9) (tt := tTest (tOp rNe (tVar 9) (tVar 5))) (tk := tVar 9) (tv := tOrV (tDIn (tVar 9) (tOp (rIxL K) (tVar 1) (tVar 5))) (tDIn (tVar 5) (tOp (rIxL K) (tVar 1) (tVar 9)))) rfl sc_drawn.nd (pi_list (pv 2))
            (blkOk_by (N := nDrawn) (sc := defScope s_drawn) (by decide +kernel))
            (fun _ _ _ _ _ => pg_name (i := 9) sc_drawn.nd rfl (Or.inl rfl)) (fun _ _ _ _ _ => pts_one (pt_cmpR op_ne (pv 9) (pv 5) (nomark _))) (fun _ _ _ _ _ => pv 9)
            (fun _ _ _ _ _ => pe_or (pe_cmp (pc_din (room1 hr) (pv 9) (pe_ix ix_list (pv 1) (pv 5) (fun _ _ => rfl)))) (pe_one (pe_cmp (pc_din (room1 hr) (pv 5) (pe_ix ix_list (pv 1) (pv 9) (fun _ _ => rfl))))))))
        (pss_one (ps_dput (room1 hr) (pv 4) (pv 5) (pe_lock (pe_lc (own := [("other", 9)]) (g := gName 9) (tt := tTest (tOp rEq (tDGet (tVar 6) (tVar 9)) (tOp rEq (tVar 3) (tC (.str "bag"))))) (te := tVar 9) rfl sc_drawn.nd (pi_keys (pv 6))
            (blkOk_by (N := nDrawn) (sc := defScope s_drawn) (by decide +kernel))
            (fun _ _ _ _ _ => pg_name (i := 9) sc_drawn.nd rfl (Or.inl rfl)) (fun _ _ _ _ _ => pts_one (pt_cmpR op_eq (pe_dget (room1 hr) (pv 6) (pv 9) (fun _ _ => rfl)) (pe_cmpR op_eq (pv 3) pe_str (nomark _)) (by rfl))) (fun _ _ _ _ _ => pv 9))) (by rfl)))))
      (pss_cons (ps_set (i := 7) sc_drawn.nd rfl (Or.inl rfl) (pe_kn Cg hr hl (by rfl) (pa_cons (pv 2) (pa_cons (pv 4) pa_nil))))
      (pss_one (ps_if (pt_cmpR op_gt (pe_callB call_len_seq (by rfl) B.zlen bt_len (pa_cons (pv 7) pa_nil)) pe_int (nomark _))
        (pss_cons (ps_set (i := 7) sc_drawn.nd rfl (Or.inl rfl) (pe_sortLam (js := 2) (ja := 1) (lv := 0) (T := T) (tb := tUn (rU fun i => .int (-i)) (tCB (fun xs H Q => ∃ p ys, xs = [.ref p] ∧ (SqL K H p ys ∨ SqT K H p ys) ∧ Q (.int ys.length) H) (tCons (tLc (iList K (tVar 1)) (gName 3) (tB (tDIn (tVar 3) (tOp (rIxL K) (tVar 2) (tOp (rIxL K) (tVar 0) (tC (.int 0)))))) (tVar 3) [3]) tNil)))
            ⟨rfl, rfl, rfl, rfl⟩ (by rfl) B.zsorted (pv 7) TT.TB rfl TT.m TT.u hr3 rfl rfl rfl rfl rfl (fun _ _ _ _ _ _ => rfl)
            (fun A' s' H' q' cl' f' c' hr' => pe_un un_neg (pe_callB call_len_seq (by rfl) B.zlen bt_len (pa_cons (pe_lc (own := [("at", 3)]) rfl nd_lam (pi_list (pv 1)) (blkOk_by (N := ["group", "some", "ahead", "at"]) (sc := lamScD) (by decide +kernel))
              (fun _ _ _ _ _ => pg_name (i := 3) nd_lam rfl (Or.inl rfl)) (fun _ _ _ _ _ => pts_one (pt_cmp (pc_din (room1 hr') (pv 3) (pe_ix ix_list (pv 2) (pe_ix ix_list (pv 0) pe_int (fun _ _ => rfl)) (fun _ _ => rfl))))) (fun _ _ _ _ _ => pv 3)) pa_nil)))))
        (pss_cons (ps_setLc (i := 8) (own := [("group", 10)]) (g := gName 10) (tt := tYes) (te := tCall (sp_drawn K T d) [] E0 (tCons (tVar 0) (tCons (tVar 1) (tCons (tVar 10) tNil)))) rfl sc_drawn.nd rfl rfl (by rfl) (pi_list (pv 7)) (blkOk_by (N := nDrawn) (sc := defScope s_drawn) (by decide +kernel))
            (fun _ _ _ _ _ => pg_name (i := 10) sc_drawn.nd rfl (Or.inl rfl)) (fun _ _ _ _ _ => pts_nil) (fun _ _ _ _ _ => pe_kn C hr hj (by rfl) (pa_cons (pv 0) (pa_cons (pv 1) (pa_cons (pv 10) pa_nil)))))
        (pss_one (ps_ret (pe_ifExp (pt_cmpR (op_inD (room65 hr)) pe_non (pv 8) (by rfl)) pe_non (pe_kn Cj hr hm (by rfl) (pa_cons (pv 3) (pa_cons (pv 8) pa_nil)))))))) pss_nil))))))
    (pss_one (ps_ret pe_non))), ?_⟩
  have hsz := fits_len r S hfit
  refine ⟨_, rfl, sa, _, rfl, .inl hS, _, _, rfl, rfl, _, rfl, ?_⟩
  rw [iv_len]
  cases r with
  | nothing =>
    rw [Fits] at hfit
    subst hfit
    refine iteT ⟨_, rfl, Nat.zero_le _, fun p0 hp0 => ?_⟩
    have s0 := same_new (o := .lst []) hp0
    refine rd_neN (ns := []) (s0.seq hS) (SqL.of upd_same) ⟨_, rfl, iteF (q _ _ (.of s0) (hT.ext s0) ?_)⟩
    exact at_iff.mpr ⟨an, [], rfl, hn _, rfl⟩
  | step nm =>
    rw [Fits] at hfit
    obtain ⟨x, rfl, rfl⟩ := hfit
    refine iteT ⟨_, rfl, Nat.zero_le _, fun p0 hp0 => ?_⟩
    have s0 := same_new (o := .lst []) hp0
    refine rd_neN (ns := [x]) (s0.seq hS) (SqL.of upd_same) ⟨_, rfl, iteT ?_⟩
    have hx := hlt x List.mem_cons_self
    refine ⟨_, rfl, _, rfl, sa, iv [x], 0, .int (x : Nat), rfl, rfl, s0.seq hS, at_zero _ _, la, _, (x : Nat), .str (lab x), rfl, rfl, SqT.sm hla s0, atI_nat (by rw [List.getElem?_map, hlab x hx]; rfl), small (show 2 ≤ 100000 by decide), fun t ht => ?_⟩
    have s1 := same_new (o := .tup [.str (Str.ofString "step"), .str (lab x)]) ht
    exact q _ _ (.of (s0.trans s1)) (hT.ext (s0.trans s1)) (at_iff.mpr ⟨t, [.str (lab x)], rfl, SqT.of upd_same, rfl⟩)
  | node b0 rs =>
    have hok' := hok
    rw [Ok] at hok'
    rw [size] at hsz
    rw [depth] at hdr
    have h2rs := sizeL_ge hok'.2.1
    rw [decide_eq_false (show ¬ ((S.length : Nat) : Int) < 2 by have := hok'.1; omega)]
    have hS30 : S.length ≤ 30 := by
      have := nodup_len (ns := List.range ns.length) hnd fun x hx => List.mem_range.mpr (hlt x hx)
      rw [List.length_range] at this
      omega
    refine iteF ⟨small (show 2 ≤ 100000 by decide), fun t ht => ⟨t, rfl, ⟨_, SqT.of upd_same⟩, ?_⟩⟩
    have s1 := same_new (o := .tup [.str (Str.ofString "bag"), .str (Str.ofString "row")]) ht
    have ht1 : SqT K (upd H t (.tup [.str (Str.ofString "bag"), .str (Str.ofString "row")])) t [.str (Str.ofString "bag"), .str (Str.ofString "row")] := SqT.of upd_same
    generalize (upd H t (.tup [.str (Str.ofString "bag"), .str (Str.ofString "row")])) = Ht at s1 ht1
    refine for_it (walk_tup (xs := [.str (Str.ofString "bag"), .str (Str.ofString "row")])) (fun i σ H2 => ∃ y3 y4 y5 y6 y7 y8 y9 y10, σ = [some (.ref la), some av, some (.ref sa), y3, y4, y5, y6, y7, y8, y9, y10] ∧ Same Ht H2 ∧ (i = 0 ∨ (i = 1 ∧ b0 = false)))
      ⟨none, none, none, none, none, none, none, none, rfl, Same.refl Ht, .inl rfl⟩ (fun i σ H2 _ ⟨_, _, _, _, _, _, _, _, _, s, _⟩ => SqT.sm ht1 s) ?_ ?_
    · rintro i x σ H2 H2' hi ⟨y3, y4, y5, y6, y7, y8, y9, y10, rfl, s2, hib⟩ ⟨rfl, hx⟩
      obtain ⟨b, hb, hxb⟩ : ∃ b : Bool, x = .str (word b) ∧ ((b = true ∧ i = 0) ∨ (b = false ∧ i = 1 ∧ b0 = false)) := by
        rcases hib with rfl | ⟨rfl, h⟩
        · simp at hx
          exact ⟨true, hx.symm, .inl ⟨rfl, rfl⟩⟩
        · simp at hx
          exact ⟨false, hx.symm, .inr ⟨rfl, rfl, h⟩⟩
      subst hb
      intro W hW
      have s3 := same_new (o := .dK []) hW
      have hW0 : Ht W = none := none_old s2 hW
      have S3 := s2.trans s3
      refine ⟨_, rfl, sa, rfl, ⟨_, (s1.trans S3).seq hS⟩, ?_⟩
      refine for_it (walk_list (xs := iv S)) (fun jj σ H4 => ∃ y5 y6 y9, σ = [some (.ref la), some av, some (.ref sa), some (.str (word b)), some (.ref W), y5, y6, y7, y8, y9, y10] ∧ Same Ht H4 ∧ Made K H4 W (waysM rel b S) (S.take jj))
        ⟨y5, y6, y9, rfl, S3, ⟨⟨fun _ => 0, by rw [List.take_zero]; exact upd_same, fun x hx => by rw [List.take_zero] at hx; cases hx⟩⟩⟩ (fun jj σ H4 _ ⟨_, _, _, _, s4, _⟩ => (s1.trans s4).seq hS) ?_ ?_
      · rintro jj v σ H4 H4' hjj ⟨y5, y6, y9, rfl, s4, M4⟩ ⟨rfl, hv⟩
        obtain ⟨o, ho, rfl⟩ := iv_get hv
        have hom := List.mem_of_getElem? ho
        dsimp only [gName, tSeq, tAsg, List.set]
        refine comp_told (x := o) ((s1.trans s4).seq hS) (hA.sm (s1.trans s4)) hnd hlt (hlt o hom) (by omega) fun D5 H5 s5 hD4 hD5 => ?_
        have hfl : (S.filter (· != o)).length ≤ 1000 := Nat.le_trans (List.length_filter_le _ _) (by omega)
        dsimp only [gName, sDPut, List.set]
        refine comp_ways (b := b) hD5 hfl fun p6 H6 s6 hp5 hp6 => ?_
        have hw : (S.filter (· != o)).filter (fun y => cmp rel o y == b) = waysM rel b S o := by
          unfold waysM
          rw [List.filter_filter]
          exact filter_same fun y _ => Bool.and_comm _ _
        rw [hw] at hp6
        have hp4 := none_old s5 hp5
        obtain ⟨H7, pu, M7, z7⟩ := M4.put (s5.trans s6) (nodup_take hnd ho) hp4 hp6 (by rw [List.length_take]; omega)
        refine ⟨.ref W, rfl, .int (o : Nat), rfl, W, H7, rfl, pu, _, _, _, rfl, z7 Ht (s4.trans (s5.trans s6)) hW0, by rw [take_snoc ho]; exact M7⟩
      · rintro σ H4 ⟨y5, y6, y9, rfl, s4, M4⟩
        rw [iv_len, List.take_length] at M4
        have hwl : ∀ x, (waysM rel b S x).length ≤ 64 := fun x => by
          have := List.length_filter_le (fun y => (y != x) && (cmp rel x y == b)) S
          unfold waysM
          omega
        have WW := M4.ways (S := S) (fun i _ j hj => (mem_ways.mp hj).1) hnd (by omega) (fun i _ => hwl i)
        refine ⟨_, rfl, .ref W, rfl, sa, .ref W, waysM rel b S, S, (hang (waysM rel b S)), rfl, (s1.trans s4).seq hS, WW, fun x _ y _ => ?_, fun p5 H5 gs s5 hp4 hp5 hgs => ?_⟩
        · exact hang_iff
        obtain ⟨lv1, lv2, ts, lv3, lv4, lv5⟩ := level (b := b) hok (fun z => by cases z) hfit hnd hirr (g := (hang (waysM rel b S))) (fun x _ y _ => hang_iff)
        generalize groupsM (hang (waysM rel b S)) S S.length S = Gs at hgs lv1 lv2 lv3
        have hgl := hgs.length
        refine ⟨_, rfl, p5, gs, rfl, .inl (SqL.of hp5), _, _, rfl, rfl, _, rfl, ?_⟩
        rw [hgl, lv1]
        by_cases hbb : b = b0
        · subst hbb
          have e1 : parts b (.node b rs) = rs := by rw [parts_node, if_pos rfl]
          rw [e1] at lv1 lv4 lv5
          rw [e1, decide_eq_true (show ((rs.length : Nat) : Int) > 1 by have := hok'.1; omega)]
          have S5 : Same H H5 := s1.trans (s4.trans s5)
          have T5 : Tabs T H5 := hT.ext S5
          have hln : rs.length ≤ 30 := by omega
          have okp : ∀ r ∈ ts, Ok r ∧ isPart b r = true := fun r hr => okL_iff.mp hok'.2.1 r (lv4.mem_iff.mp hr)
          have dts : depthL ts ≤ d := depthL_of fun r hr => by
            have := depthL_le (lv4.mem_iff.mp hr)
            omega
          have zts := sizeL_perm lv4
          have lts := lv4.length_eq
          refine iteT ⟨.ref p5, rfl, T5, fun H6 x6 T6 => ?_⟩
          refine ⟨p5, gs, Gs.map (keyM rel S), .ref sa, av, rfl, sqL_xt (SqL.of hp5) x6, by rw [List.length_map, hgl], by omega, rfl, rfl, fun i v kk hv hk H7 s7 => ?_, fun p7 H7 hp6 s7 => ?_⟩
          · obtain ⟨G, hG, pg, rfl, hpg⟩ := paired_get hgs hv
            rw [List.getElem?_map, hG] at hk
            cases hk
            obtain ⟨_, g2, g3⟩ := lv2 G (List.mem_of_getElem? hG)
            exact key_read (s7.seq (sqL_xt (S5.seq hS) x6)) (((hA.sm S5).xt x6).sm s7) (SqL.of (s7 _ _ (x6 _ _ hpg (fun _ z => nomatch z)))) g2 (fun y hy => hlt y (g3 y hy)) (by omega)
          · have s68 : Same H6 (upd H7 p7 (.lst (byKey gs (Gs.map (keyM rel S))))) := same_mut s7 hp6
            have hp8 : (upd H7 p7 (.lst (byKey gs (Gs.map (keyM rel S))))) p7 = some (.lst (byKey gs (Gs.map (keyM rel S)))) := upd_same
            have hgs8 : Paired (GpA (upd H7 p7 (.lst (byKey gs (Gs.map (keyM rel S)))))) gs Gs := Paired.mapP hgs fun _ _ ⟨a, e1, e2⟩ => ⟨a, e1, s68 _ _ (x6 _ _ e2 (fun _ z => nomatch z))⟩
            generalize (upd H7 p7 (.lst (byKey gs (Gs.map (keyM rel S))))) = H8 at s68 hp8 hgs8
            have bp := byKey_paired (key := keyM rel S) hgs8
            have x8 : ExtN H H8 := (ExtN.of S5).trans (x6.trans (.of s68))
            have T8 : Tabs T H8 := T6.ext s68
            have bl : (byKey gs (Gs.map (keyM rel S))).length = ts.length := bp.length.trans (LV3len lv3)
            refine ⟨_, rfl, p7, rfl, ⟨_, SqL.of hp8⟩, fun D9 hD9 => ?_⟩
            refine lc_any (walk_list (xs := byKey gs (Gs.map (keyM rel S)))) (fun i H9 => ExtN H8 H9 ∧ Tabs T H9 ∧ ∃ acc, H9 D9 = some (.lst acc) ∧ AtL K H9 acc (ts.take i))
              ⟨.of (same_new hD9), T8.ext (same_new hD9), [], upd_same, by rw [List.take_zero]; exact .nil⟩ (fun i H9 _ ⟨x9, _⟩ => SqL.of (x9 _ _ hp8 (fun _ z => nomatch z))) ?_ ?_
            · rintro i v H9 H9' hi9 ⟨x9, T9, acc, hD, ha⟩ ⟨rfl, hv⟩
              obtain ⟨G, hG, pg, rfl, hpg⟩ := paired_get bp hv
              obtain ⟨ri, hri, hfi⟩ := paired_get lv3 hG
              have hGm : G ∈ Gs := (List.mergeSort_perm _ _).mem_iff.mp (List.mem_of_getElem? hG)
              obtain ⟨g1, g2, g3⟩ := lv2 G hGm
              have hrm := List.mem_of_getElem? hri
              have hacc := ha.length
              rw [List.length_take] at hacc
              have hx9 := x8.trans x9
              have hdri := depthL_le hrm
              refine ⟨rfl, yes_t ⟨_, rfl, _, rfl, _, rfl, la, pg, av, ns, G, ri, rel, lab, rfl, SqT.tk hla (xt_tk hx9), hA.xt hx9, SqL.of (x9 _ _ hpg (fun _ z => nomatch z)), g1, fun y hy => hlt y (g3 y hy), hn30, hirr, hfi, (okp ri hrm).1, by omega, hlab, T9, fun v' H10 x10 T10 hv' => ?_⟩⟩
              have hD10 := x10 _ _ hD (fun _ z => nomatch z)
              refine ⟨acc, hD10, small_lt (by omega), xt_mut (x9.trans x10) hD9, tabs_mut T10 ⟨_, hD10⟩, acc ++ [v'], upd_same, ?_⟩
              rw [take_snoc hri]
              exact paired_append (AtL.tk ((xt_tk x10).trans (tk_lst hD10)) _ _ ha) (.cons (At.tk (tk_lst hD10) _ _ hv') .nil)
            · rintro H9 ⟨x9, T9, acc, hD, ha⟩
              rw [bl, List.take_length] at ha
              have okL : OkL b ts := okL_iff.mpr okp
              refine ⟨.ref D9, rfl, .none, encL ts, .non, .lst (SqL.of hD) (of_atL ha), by rfl, shaped_list okL (by omega), _, rfl, ?_⟩
              rw [no_none]
              refine iteF ⟨.str (word b), rfl, .ref D9, rfl, b, D9, acc, ts, rfl, SqL.of hD, ha, fun r hr => ⟨(okp r hr).1, ?_⟩, by omega, by omega, fun v' H11 s11 hv' => ?_⟩
              · have := depthL_le hr
                omega
              · refine q v' H11 (x8.trans (x9.trans (.of s11))) (T9.ext s11) ?_
                rw [joined_self hok lv4 lv5] at hv'
                exact hv'
        · have e1 : parts b (.node b0 rs) = [.node b0 rs] := by rw [parts_node, if_neg (fun e => hbb e.symm)]
          rw [e1, decide_eq_false (show ¬ ((([R.node b0 rs] : List R).length : Nat) : Int) > 1 by simp)]
          refine iteF ⟨_, _, _, _, _, _, _, _, rfl, s4.trans s5, .inr ?_⟩
          rcases hxb with ⟨rfl, rfl⟩ | ⟨rfl, rfl, h⟩
          · refine ⟨rfl, ?_⟩
            cases b0
            · rfl
            · exact absurd rfl hbb
          · exact absurd h.symm hbb
    · rintro σ H2 ⟨y3, y4, y5, y6, y7, y8, y9, y10, rfl, s2, hib⟩
      rcases hib with h | ⟨h, _⟩ <;> cases h
end
end Fk

set_option Elab.async false
set_option linter.all false
set_option maxRecDepth 100000
/-! run_of. -/
namespace Fk
open PySem PySem.Spec PyProof.Rows L2 LamX
abbrev s_run_of : Stmt := topS 40
theorem sc_run_of : FnScope ["labels", "pairs", "ahead", "found"] ["labels", "pairs"] (defScope s_run_of) := ⟨rfl, rfl, rfl, by decide +kernel, rfl, by decide +kernel, by decide +kernel⟩
theorem rgV0 (n : Nat) : rgV 0 ((n : Nat) : Int) = iv (List.range n) := by
  have := rgV_iv 0 n
  rw [List.range_eq_range', ← this]
  congr 1
  omega
section
variable {P : Program} {w : World} {K : PySem.W.Frag} {mg : Str → Option Value} {base : Heap} {f g : Addr} {fd gd : FuncData} {k : Nat}
theorem DnC.zero {x : Str} {sp : Sp} {st : Stmt} {ps : List Str} {c : Addr} (D : DnC K mg x st ps f fd c) (no : ∀ vs H Q E, ¬ sp vs H Q E) : Kn P w K mg base 0 x sp :=
  D.kn ⟨fun vs H Q E h => absurd h (no vs H Q E), fun A outer s H args us vs Q E _ _ _ _ h => absurd h (no vs H Q E)⟩
theorem all_drawn {T : List (Addr × Str)} {c Pt : Addr} {l : Nat} (D : DnC K mg "drawn" s_drawn ["labels", "ahead", "some"] f fd c) (B : Blt mg) (N : Ntg K mg) (TT : Tbl base mg T c Pt) (Cg : Kn P w K mg base l "groups_of" (sp_groups K)) (Cj : Kn P w K mg base l "joined" (sp_joined K)) (hl : 3 ≤ l) :
    ∀ d : Nat, d ≤ 40 → Kn P w K mg base (l + d) "drawn" (sp_drawn K T d)
  | 0, _ => by
    have z : Kn P w K mg base 0 "drawn" (sp_drawn K T 0) := DnC.zero D fun vs H Q E ⟨_, _, _, _, _, r, _, _, _, _, _, _, _, _, _, _, _, _, h, _⟩ => no_zero h
    exact z.mono (Nat.zero_le _)
  | d + 1, hd => ok_drawn D B N TT (all_drawn D B N TT Cg Cj hl d (by omega)) Cg Cj (Nat.le_refl _) (Nat.le_add_right l d) (Nat.le_add_right l d) (Nat.le_trans hl (Nat.le_add_right l d)) (by omega)
def sp_run_of (K : PySem.W.Frag) (T : List (Addr × Str)) : Sp := fun vs H Q _ => ∃ (la a : Addr) (ns : List Str) (xs : List V) (ps : List (Nat × Nat)) (r : R) (lab : Nat → Str), vs = [.ref la, .ref a] ∧ SqT K H la (List.map V.str ns) ∧ (∀ n ∈ ns, isName n) ∧ ns.length ≤ 30 ∧ Sq K H a xs ∧ PrL H xs ps ∧ ps.Nodup ∧
  (∀ p ∈ ps, p.1 < ns.length ∧ p.2 < ns.length ∧ p.1 ≠ p.2) ∧ (∀ x y z, (x, y) ∈ ps → (y, z) ∈ ps → (x, z) ∈ ps) ∧ ps.length ≤ 10000 ∧ Fits (relOf ps) lab r (List.range ns.length) ∧ Ok r ∧ depth r ≤ 40 ∧ (∀ i < ns.length, ns[i]? = some (lab i)) ∧ Tabs T H ∧ ∀ v H', ExtN H H' → Tabs T H' → At K H' v r → Q v H'
theorem ok_run_of {T : List (Addr × Str)} {i j : Nat} (D : Dn K mg "run_of" s_run_of ["labels", "pairs"] f fd) (B : Blt mg) (C0 : Kn P w K mg base i "aheads" (sp_aheads K)) (C1 : Kn P w K mg base j "drawn" (sp_drawn K T 40)) (hi : i ≤ k) (hj : j ≤ k) : Kn P w K mg base (k + 1) "run_of" (sp_run_of K T) := by
  refine D.kn (D.F.ok sc_run_of (fun vs H Q E h => ?_) (fun cdv A outer s H vs Q E hr h => ?_))
  · obtain ⟨la, a, ns, xs, ps, r, lab, rfl, _⟩ := h
    rfl
  obtain ⟨la, a, ns, xs, ps, r, lab, rfl, hla, hns, hn30, hs, hx, nd, hp, tr, hpl, hfit, hok, hd, hlab, hT, q⟩ := h
  refine ⟨_, pss_cons (ps_set (i := 2) sc_run_of.nd rfl (Or.inl rfl) (pe_kn C0 hr hi (by rfl) (pa_cons (pv 0) (pa_cons (pv 1) pa_nil))))
    (pss_cons (ps_set (i := 3) sc_run_of.nd rfl (Or.inl rfl) (pe_kn C1 hr hj (by rfl) (pa_cons (pv 0) (pa_cons (pv 2) (pa_cons (pe_listRg rfl (by rfl) B.zlist (prg_1 (by rfl) B.zrange (pe_callB call_len_seq (by rfl) B.zlen bt_len (pa_cons (pv 0) pa_nil)))) pa_nil)))))
    (pss_cons (ps_if (pt_cmp (pc_isN (pv 3))) pss_never pss_nil)
    (pss_one (ps_ret (pv 3))))), ?_⟩
  refine ⟨_, rfl, _, rfl, la, ns, a, xs, ps, rfl, hla, hns, hn30, hs, hx, nd, hp, tr, hpl, fun av H1 s1 hA => ?_⟩
  refine ⟨_, rfl, _, rfl, _, rfl, la, _, rfl, .inr (SqT.sm hla s1), _, rfl, ?_⟩
  rw [List.length_map]
  refine ⟨RgOk.of_le (by omega) (by omega) (by omega) (by omega), fun l hl => ?_⟩
  rw [rgV0]
  have s2 := same_new (o := .lst (iv (List.range ns.length))) hl
  refine ⟨la, l, av, ns, List.range ns.length, r, relOf ps, lab, rfl, SqT.sm hla (s1.trans s2), hA.sm s2, SqL.of upd_same, List.nodup_range, fun x hx => List.mem_range.mp hx, hn30, fun x => ?_, hfit, hok, hd, hlab, hT.ext (s1.trans s2), fun v H3 x3 T3 hv => ?_⟩
  · unfold relOf
    exact decide_eq_false fun h => (hp (x, x) h).2.2 rfl
  · obtain ⟨p, vs', rfl, hp', _⟩ := at_iff.mp hv
    refine ⟨.ref p, rfl, _, rfl, ?_⟩
    refine iteF ⟨_, rfl, q _ H3 ((ExtN.of (s1.trans s2)).trans x3) T3 hv⟩
end
end Fk

set_option Elab.async false
set_option linter.all false
set_option maxRecDepth 100000
/-! The law's own small defs: what is drawn. -/
namespace Fk
open PySem PySem.Spec PyProof.Rows L2 LamX
abbrev s_begun : Stmt := topS 42
abbrev s_mixed : Stmt := topS 43
abbrev s_take : Stmt := topS 44
abbrev s_pick : Stmt := topS 45
theorem sc_begun : FnScope ["_law_script", "_law_wide", "_law_cell"] ["_law_script"] (defScope s_begun) := ⟨rfl, rfl, rfl, by decide +kernel, rfl, by decide +kernel, by decide +kernel⟩
theorem sc_mixed : FnScope ["_law_state", "_law_turn", "_law_found", "_law_prime", "_law_blend", "_law_cell"] ["_law_state"] (defScope s_mixed) := ⟨rfl, rfl, rfl, by decide +kernel, rfl, by decide +kernel, by decide +kernel⟩
theorem sc_take : FnScope ["_law_state", "_law_total", "_law_found"] ["_law_state", "_law_total"] (defScope s_take) := ⟨rfl, rfl, rfl, by decide +kernel, rfl, by decide +kernel, by decide +kernel⟩
theorem sc_pick : FnScope ["_law_state", "_law_some"] ["_law_state", "_law_some"] (defScope s_pick) := ⟨rfl, rfl, rfl, by decide +kernel, rfl, by decide +kernel, by decide +kernel⟩
/-- the state's dict -/
def stD (wl cl : Addr) (rest turn : Int) : List (L2.Key × V) := [(.inr "wide", .ref wl), (.inr "cells", .ref cl), (.inr "rest", .int rest), (.inr "turn", .int turn)]
structure StA (K : PySem.W.Frag) (H : Hp) (st wl cl : Addr) (t : Nat) : Prop where
  ne : st ≠ wl
  ex : ∃ (ws cs : List Int) (rest turn : Int), H st = some (.dK (stD wl cl rest turn)) ∧ H wl = some (.lst (ws.map V.int)) ∧ cl ≠ st ∧ cl ≠ wl ∧ H cl = some (.lst (cs.map V.int)) ∧ ws.length ≤ 63 ∧ cs.length ≤ 63 ∧ 0 ≤ turn ∧ turn ≤ t
theorem StA.sm {K : PySem.W.Frag} {H H' : Hp} {st wl cl : Addr} {t : Nat} (h : StA K H st wl cl t) (e : Same H H') : StA K H' st wl cl t := by
  obtain ⟨ws, cs, rest, turn, h1, h2, h3, h4, h5, h6⟩ := h.ex
  exact ⟨h.ne, ws, cs, rest, turn, e _ _ h1, e _ _ h2, h3, h4, e _ _ h5, h6⟩
theorem StA.xt {K : PySem.W.Frag} {H H' : Hp} {st wl cl : Addr} {t : Nat} (h : StA K H st wl cl t) (e : ExtN H H') : StA K H' st wl cl t := by
  obtain ⟨ws, cs, rest, turn, h1, h2, h3, h4, h5, h6⟩ := h.ex
  exact ⟨h.ne, ws, cs, rest, turn, e _ _ h1 (fun _ z => nomatch z), e _ _ h2 (fun _ z => nomatch z), h3, h4, e _ _ h5 (fun _ z => nomatch z), h6⟩
theorem StA.up {K : PySem.W.Frag} {H : Hp} {st wl cl : Addr} {t u : Nat} (h : StA K H st wl cl t) (e : t ≤ u) : StA K H st wl cl u := by
  obtain ⟨ws, cs, rest, turn, h1, h2, h3, h4, h5, h6, h7, h8, h9⟩ := h.ex
  exact ⟨h.ne, ws, cs, rest, turn, h1, h2, h3, h4, h5, h6, h7, h8, by omega⟩
theorem st_wide (wl cl : Addr) (r t : Int) : valV (stD wl cl r t) (.inr "wide") = some (.ref wl) := by rfl
theorem st_cells (wl cl : Addr) (r t : Int) : valV (stD wl cl r t) (.inr "cells") = some (.ref cl) := by rfl
theorem st_rest (wl cl : Addr) (r t : Int) : valV (stD wl cl r t) (.inr "rest") = some (.int r) := by rfl
theorem st_turn (wl cl : Addr) (r t : Int) : valV (stD wl cl r t) (.inr "turn") = some (.int t) := by rfl
theorem put_rest (wl cl : Addr) (r t r' : Int) : putK (stD wl cl r t) (.inr "rest") (.int r') = stD wl cl r' t := by rfl
theorem put_turn (wl cl : Addr) (r t t' : Int) : putK (stD wl cl r t) (.inr "turn") (.int t') = stD wl cl r t' := by rfl
theorem st_made (wl cl : Addr) (r t : Int) : mergeK [] [((.inr "wide" : L2.Key), V.ref wl), (.inr "cells", .ref cl), (.inr "rest", .int r), (.inr "turn", .int t)] = stD wl cl r t := by rfl
theorem int_get {ns : List Int} {i : Nat} {v : V} (h : (ns.map V.int)[i]? = some v) : ∃ n : Int, ns[i]? = some n ∧ v = .int n := by
  rw [List.getElem?_map] at h
  obtain ⟨n, h1, rfl⟩ := Option.map_eq_some_iff.mp h
  exact ⟨n, h1, rfl⟩
theorem ite_any {b : Bool} {A B : Prop} (a : A) (c : B) : if b = true then A else B := by
  cases b
  · exact c
  · exact a
theorem pow18 : CPow 10 18 := ⟨by decide, by decide, by decide⟩
section
variable {P : Program} {w : World} {K : PySem.W.Frag} {mg : Str → Option Value} {base : Heap} {f g : Addr} {fd gd : FuncData} {k : Nat}
def sp_begun (K : PySem.W.Frag) : Sp := fun vs H Q _ => ∃ (a : Addr) (ns : List Int), vs = [.ref a] ∧ SqL K H a (ns.map V.int) ∧ ns.length ≤ 63 ∧ ∀ st wl cl H', Same H H' → H st = none → H wl = none → StA K H' st wl cl 0 → Q (.ref st) H'
theorem ok_begun (D : Dn K mg "_law_begun" s_begun ["_law_script"] f fd) (B : Blt mg) : Kn P w K mg base (k + 1) "_law_begun" (sp_begun K) := by
  refine D.kn (D.F.ok sc_begun (fun vs H Q E h => ?_) (fun cdv A outer s H vs Q E hr h => ?_))
  · obtain ⟨a, ns, rfl, _⟩ := h
    rfl
  obtain ⟨a, ns, rfl, hs, hl, q⟩ := h
  refine ⟨_, pss_cons (ps_setLc (i := 1) (own := [("_law_cell", 2)]) (g := gName 2) rfl sc_begun.nd rfl rfl (by rfl) (pi_list (pv 0)) (blkOk_by (N := ["_law_script", "_law_wide", "_law_cell"]) (sc := defScope s_begun) (by decide +kernel))
      (fun _ _ _ _ _ => pg_name (i := 2) sc_begun.nd rfl (Or.inl rfl)) (fun _ _ _ _ _ => pts_one (pt_cmpR op_ge (pe_callB call_abs (by rfl) B.zabs bt_abs (pa_cons (pv 2) pa_nil)) (pe_op op_pow pe_int pe_int) (by rfl)))
      (fun _ _ _ _ _ => pe_op op_sub (pe_callB call_abs (by rfl) B.zabs bt_abs (pa_cons (pv 2) pa_nil)) (pe_op op_pow pe_int pe_int)))
    (pss_one (ps_ret (pe_disp (pps_cons pe_str (pv 1) (pps_cons pe_str (pe_lc (own := [("_law_cell", 2)]) (g := gName 2) (tt := tYes) rfl sc_begun.nd (pi_list (pv 0)) (blkOk_by (N := ["_law_script", "_law_wide", "_law_cell"]) (sc := defScope s_begun) (by decide +kernel))
        (fun _ _ _ _ _ => pg_name (i := 2) sc_begun.nd rfl (Or.inl rfl)) (fun _ _ _ _ _ => pts_nil)
        (fun _ _ _ _ _ => pe_op op_mod (pe_callTy call_int1 (by rfl) B.zint bt_int (pa_cons (pe_callB call_abs (by rfl) B.zabs bt_abs (pa_cons (pv 2) pa_nil)) pa_nil)) pe_int))
      (pps_cons pe_str pe_int (pps_cons pe_str pe_int pps_nil)))) (by rfl) (by rfl) (fun z => by cases z) (by decide)))), ?_⟩
  refine ⟨_, rfl, a, rfl, ⟨_, hs⟩, fun wl hwl => ?_⟩
  refine lcx (walk_list (xs := ns.map V.int)) hwl (by rw [List.length_map]; omega) (fun i acc _ => ∃ ws : List Int, acc = ws.map V.int) ⟨[], rfl⟩ (fun H' s' => s'.seq hs) ?_ ?_
  · rintro i acc x H2 H3 Kt Kf hi s2 hD2 hlen ⟨ws, rfl⟩ fin finF ⟨rfl, hx⟩
    obtain ⟨c, hc, rfl⟩ := int_get hx
    refine ⟨rfl, .int c, rfl, c, rfl, 10, 18, rfl, rfl, pow18, _, _, rfl, rfl, _, rfl, ?_⟩
    exact ite_any ⟨.int c, rfl, c, rfl, 10, 18, rfl, rfl, pow18, _, _, rfl, rfl, fin _ _ (Same.refl _) ⟨ws ++ [_], by rw [List.map_append]; rfl⟩⟩ (finF _ (Same.refl _) ⟨ws, rfl⟩)
  rintro acc H2 s2 hwl2 hln ⟨ws, rfl⟩
  rw [List.length_map, List.length_map] at hln
  intro st hst
  have s3 := same_new (o := .dK []) hst
  have hst0 : H st = none := none_old s2 hst
  have hws : st ≠ wl := (nsn hwl2 hst).symm
  refine ⟨.ref wl, rfl, _, rfl, a, rfl, ⟨_, (s2.trans s3).seq hs⟩, fun cl hcl => ?_⟩
  have hcs : cl ≠ st := (nsn upd_same hcl).symm
  have hcw : cl ≠ wl := (nsn (s3 _ _ hwl2) hcl).symm
  refine lcx (walk_list (xs := ns.map V.int)) hcl (by rw [List.length_map]; omega) (fun i acc _ => ∃ cs : List Int, acc = cs.map V.int) ⟨[], rfl⟩ (fun H' s' => (s2.trans (s3.trans s')).seq hs) ?_ ?_
  · rintro i acc x H4 H5 Kt Kf hi s4 hD4 hlen ⟨cs, rfl⟩ fin finF ⟨rfl, hx⟩
    obtain ⟨c, hc, rfl⟩ := int_get hx
    refine ⟨rfl, yes_t ⟨.int c, rfl, c, rfl, .inl ⟨_, rfl, _, _, rfl, rfl, by show (0 : Int) < 2147483629; decide, fin _ _ (Same.refl _) ⟨cs ++ [_], by rw [List.map_append]; rfl⟩⟩⟩⟩
  · rintro acc H4 s4 hcl4 hcn ⟨cs, rfl⟩
    rw [List.length_map, List.length_map] at hcn
    have hst4 : H4 st = some (.dK []) := s4 _ _ upd_same
    refine ⟨hst4, [(.inr "wide", .ref wl), (.inr "cells", .ref cl), (.inr "rest", .int 0), (.inr "turn", .int 0)], rfl, by show 4 ≤ 15; omega, ?_⟩
    rw [st_made]
    refine q st wl cl _ (same_mut (s2.trans (s3.trans s4)) hst0) hst0 hwl ⟨hws, ws, cs, 0, 0, upd_same, ?_, hcs, hcw, ?_, by omega, by omega, by omega, by omega⟩
    · rw [upd_ne hws.symm]
      exact s4 _ _ (s3 _ _ hwl2)
    · rw [upd_ne hcs]
      exact hcl4
def sp_mixed (K : PySem.W.Frag) : Sp := fun vs H Q _ => ∃ (st wl cl : Addr) (t : Nat), vs = [.ref st] ∧ StA K H st wl cl t ∧ t ≤ 1000000 ∧ ∀ (n : Int) (H' : Hp), Kp st wl H H' → StA K H' st wl cl (t + 1) → Q (.int n) H'
theorem ok_mixed (D : Dn K mg "_law_mixed" s_mixed ["_law_state"] f fd) (B : Blt mg) : Kn P w K mg base (k + 1) "_law_mixed" (sp_mixed K) := by
  refine D.kn (D.F.ok sc_mixed (fun vs H Q E h => ?_) (fun cdv A outer s H vs Q E hr h => ?_))
  · obtain ⟨st, wl, cl, t, rfl, _⟩ := h
    rfl
  obtain ⟨st, wl, cl, t, rfl, hA, ht, q⟩ := h
  refine ⟨_, pss_cons (ps_par (i := 1) (j := 2) rfl sc_mixed.nd rfl rfl (by decide) rfl rfl (pa_cons (pe_op op_add (pe_dget (room1 hr) (pv 0) pe_str (fun _ _ => rfl)) pe_int) (pa_cons pe_int pa_nil)) (by rfl))
    (pss_cons (ps_dput (room1 hr) (pv 0) pe_str (pv 1) (by rfl))
    (pss_cons (ps_for PassesOwn.never rfl (pi_list (pe_lst (pa_cons pe_int (pa_cons pe_int (pa_cons pe_int (pa_cons pe_int pa_nil)))))) (pg_name (i := 3) sc_mixed.nd rfl (Or.inl rfl))
      (pss_cons (ps_set (i := 4) sc_mixed.nd rfl (Or.inl rfl) (pe_op op_add (pe_op op_mul pe_int (pv 1)) (pe_op op_fdiv (pv 3) pe_int)))
      (pss_cons (ps_for PassesOwn.never rfl (pi_list (pe_dget (room1 hr) (pv 0) pe_str (fun _ _ => rfl))) (pg_name (i := 5) sc_mixed.nd rfl (Or.inl rfl))
        (pss_one (ps_set (i := 4) sc_mixed.nd rfl (Or.inl rfl) (pe_op op_mod (pe_callTy call_int1 (by rfl) B.zint bt_int (pa_cons (pe_op op_add (pe_op op_add (pe_op op_mul (pv 4) pe_int) (pv 5)) (pv 1)) pa_nil)) (pv 3)))))
      (pss_one (ps_set (i := 2) sc_mixed.nd rfl (Or.inl rfl) (pe_op op_add (pe_op op_mul (pv 2) pe_int) (pe_op op_mod (pe_callTy call_int1 (by rfl) B.zint bt_int (pa_cons (pe_op op_pow (pv 4) pe_int) pa_nil)) (pv 3))))))))
    (pss_one (ps_ret (pv 2))))), ?_⟩
  obtain ⟨ws, cs, rest, turn, h1, h2, h3, h4, h5, h6, h7, h8, h9⟩ := hA.ex
  have gt : DGet H st (.str "turn") (some (.int turn)) := by
    rw [← st_turn wl cl rest turn]
    exact DGet.k (k := .inr "turn") h1
  refine ⟨_, rfl, st, _, rfl, gt, _, _, rfl, rfl, _, _, rfl, ?_⟩
  refine ⟨_, rfl, _, rfl, st, _, rfl, DPut.k (k := .inr "turn") h1 (by show 4 < _; exact small_lt (by omega)), ?_⟩
  rw [put_turn]
  have hst1 : (upd H st (.dK (stD wl cl rest (turn + 1)))) st = some (.dK (stD wl cl rest (turn + 1))) := upd_same
  have k1 : Kp st wl H (upd H st (.dK (stD wl cl rest (turn + 1)))) := Kp.fst
  have A1 : StA K (upd H st (.dK (stD wl cl rest (turn + 1)))) st wl cl (t + 1) := ⟨hA.ne, ws, cs, rest, turn + 1, hst1, by rw [upd_ne hA.ne.symm]; exact h2, h3, h4, by rw [upd_ne h3]; exact h5, h6, h7, by omega, by omega⟩
  have hcl1 : (upd H st (.dK (stD wl cl rest (turn + 1)))) cl = some (.lst (cs.map V.int)) := by rw [upd_ne h3]; exact h5
  generalize (upd H st (.dK (stD wl cl rest (turn + 1)))) = H1 at hst1 k1 A1 hcl1
  refine ⟨small (show 4 ≤ 100000 by decide), fun l hl => ⟨l, rfl, ⟨_, SqL.of upd_same⟩, ?_⟩⟩
  have s2 := same_new (o := .lst [.int 2147483629, .int 2147483587, .int 2147483579, .int 2147483563]) hl
  have hl2 : (upd H1 l (.lst [.int 2147483629, .int 2147483587, .int 2147483579, .int 2147483563])) l = some (.lst [.int 2147483629, .int 2147483587, .int 2147483579, .int 2147483563]) := upd_same
  generalize (upd H1 l (.lst [.int 2147483629, .int 2147483587, .int 2147483579, .int 2147483563])) = H2 at s2 hl2
  refine for_it (walk_list (xs := [.int 2147483629, .int 2147483587, .int 2147483579, .int 2147483563])) (fun i σ H3 => H3 = H2 ∧ ∃ (fo : Int) (y3 y4 y5 : Option V), σ = [some (.ref st), some (.int (turn + 1)), some (.int fo), y3, y4, y5])
    ⟨rfl, 0, none, none, none, rfl⟩ (fun i σ H3 _ ⟨e, _⟩ => by rw [e]; exact SqL.of hl2) ?_ ?_
  · rintro i x σ H3 H3' hi ⟨rfl, fo, y3, y4, y5, rfl⟩ ⟨rfl, hx⟩
    obtain ⟨p, rfl, hp0, hp1⟩ : ∃ p : Int, x = .int p ∧ 0 < p ∧ p < 2147483648 := by
      have hm := List.mem_of_getElem? hx
      simp only [List.mem_cons, List.not_mem_nil, or_false] at hm
      rcases hm with rfl | rfl | rfl | rfl <;> exact ⟨_, rfl, by decide, by decide⟩
    have gc : DGet H3' st (.str "cells") (some (.ref cl)) := by
      rw [← st_cells wl cl rest (turn + 1)]
      exact DGet.k (k := .inr "cells") (s2 _ _ hst1)
    have pd : p / 29 ≤ p := Int.ediv_le_self 29 (by omega)
    have pd0 : 0 ≤ p / 29 := Int.ediv_nonneg (by omega) (by decide)
    refine ⟨_, rfl, _, _, rfl, rfl, .inl ⟨by decide, by decide⟩, .int p, rfl, _, _, rfl, rfl, ⟨by decide, by decide⟩, _, _, rfl, rfl, ?_⟩
    refine ⟨_, rfl, st, _, rfl, gc, cl, rfl, ⟨_, SqL.of (s2 _ _ hcl1)⟩, ?_⟩
    refine for_it (walk_list (xs := cs.map V.int)) (fun jj σ H4 => H4 = H3' ∧ ∃ (bl : Int) (y5 : Option V), 0 ≤ bl ∧ bl < 2 ^ 62 ∧ σ = [some (.ref st), some (.int (turn + 1)), some (.int fo), some (.int p), some (.int bl), y5])
      ⟨rfl, _, y5, ?_, ?_, rfl⟩ (fun jj σ H4 _ ⟨e, _⟩ => by rw [e]; exact SqL.of (s2 _ _ hcl1)) ?_ ?_
    · omega
    · omega
    · rintro jj v σ H4 H4' hjj ⟨rfl, bl, y5, b0, b1, rfl⟩ ⟨rfl, hv⟩
      obtain ⟨c, hc, rfl⟩ := int_get hv
      refine ⟨_, rfl, _, _, rfl, rfl, .inr ⟨by decide, by decide⟩, .int c, rfl, _, _, rfl, rfl, .int (turn + 1), rfl, _, _, rfl, rfl, .inl ⟨_, rfl, .int p, rfl, _, _, rfl, rfl, hp0, rfl, _, _, ?_, ?_, rfl⟩⟩
      · exact Int.emod_nonneg _ (by omega)
      · have := Int.emod_lt_of_pos (bl * 48271 + c + (turn + 1)) hp0
        omega
    · rintro σ H4 ⟨rfl, bl, y5, b0, b1, rfl⟩
      refine ⟨_, rfl, _, _, rfl, rfl, .inr ⟨by decide, by decide⟩, .int bl, rfl, _, _, rfl, rfl, ⟨by decide, by decide, by omega⟩, .inl ⟨_, rfl, .int p, rfl, _, _, rfl, rfl, hp0, _, _, rfl, rfl, rfl, _, _, _, _, rfl⟩⟩
  · rintro σ H3 ⟨rfl, fo, y3, y4, y5, rfl⟩
    exact ⟨_, rfl, q fo H3 (k1.trans (.of s2)) (A1.sm s2)⟩
def sp_take (K : PySem.W.Frag) : Sp := fun vs H Q _ => ∃ (st wl cl : Addr) (t m : Nat), vs = [.ref st, .int (m : Nat)] ∧ StA K H st wl cl t ∧ t ≤ 1000000 ∧ 0 < m ∧ m ≤ 1000 ∧ ∀ (n : Nat) (H' : Hp), n < m → Kp st wl H H' → StA K H' st wl cl (t + 1) → Q (.int (n : Nat)) H'
theorem ok_take {j : Nat} (D : Dn K mg "_law_take" s_take ["_law_state", "_law_total"] f fd) (B : Blt mg) (C : Kn P w K mg base j "_law_mixed" (sp_mixed K)) (hj : j ≤ k) : Kn P w K mg base (k + 1) "_law_take" (sp_take K) := by
  refine D.kn (D.F.ok sc_take (fun vs H Q E h => ?_) (fun cdv A outer s H vs Q E hr h => ?_))
  · obtain ⟨st, wl, cl, t, m, rfl, _⟩ := h
    rfl
  obtain ⟨st, wl, cl, t, m, rfl, hA, ht, hm0, hm1, q⟩ := h
  refine ⟨_, pss_cons (ps_if (pt_cmpR op_eq (pe_dget (room1 hr) (pv 0) pe_str (fun _ _ => rfl)) pe_int (nomark _))
      (pss_one (ps_dput (room1 hr) (pv 0) pe_str (pe_ifExp (pt_cmpR (op_neD hr.units) (pe_dget (room1 hr) (pv 0) pe_str (fun _ _ => rfl)) (pe_lst pa_nil) (nomark _))
        (pe_bm PySem.F.plainAttrs_list PySem.F.slot_list_pop PySem.F.type_list_pop mt_popAt (pe_dget (room1 hr) (pv 0) pe_str (fun _ _ => rfl)) (pa_cons pe_int pa_nil))
        (pe_kn C hr hj (by rfl) (pa_cons (pv 0) pa_nil))) (by rfl))) pss_nil)
    (pss_cons (ps_set (i := 2) sc_take.nd rfl (Or.inl rfl) (pe_op op_mod (pe_callTy call_int1 (by rfl) B.zint bt_int (pa_cons (pe_dget (room1 hr) (pv 0) pe_str (fun _ _ => rfl)) pa_nil)) (pv 1)))
    (pss_cons (ps_dput (room1 hr) (pv 0) pe_str (pe_op op_fdiv (pe_dget (room1 hr) (pv 0) pe_str (fun _ _ => rfl)) (pv 1)) (by rfl))
    (pss_one (ps_ret (pv 2))))), ?_⟩
  have gR : ∀ {H : Hp} {cl : Addr} {r tu : Int}, H st = some (.dK (stD wl cl r tu)) → DGet H st (.str "rest") (some (.int r)) := fun {H cl r tu} h => by
    rw [← st_rest wl cl r tu]
    exact DGet.k (k := .inr "rest") h
  have gW : ∀ {H : Hp} {cl : Addr} {r tu : Int}, H st = some (.dK (stD wl cl r tu)) → DGet H st (.str "wide") (some (.ref wl)) := fun {H cl r tu} h => by
    rw [← st_wide wl cl r tu]
    exact DGet.k (k := .inr "wide") h
  have four : ∀ (cl : Addr) (r tu : Int), (stD wl cl r tu).length < sizeLine := fun cl r tu => small_lt (by show 4 < 100000; omega)
  have hm : (0 : Int) < ((m : Nat) : Int) := by omega
  -- behind the first statement
  have go : ∀ H1 : Hp, Kp st wl H H1 → StA K H1 st wl cl (t + 1) → tSeq (tAsg (tOp (rI (fun _ j => 0 < j) fun i j => .int (i % j)) (tCB (fun xs H Q => (∃ i, xs = [.int i] ∧ Q (.int i) H) ∨ ∃ k, xs = [.bl k] ∧ Q (.int (if k then 1 else 0)) H) (tCons (tDGet (tVar 0) (tC (.str "rest"))) tNil)) (tVar 1)) (gName 2))
      (tSeq (sDPut (tVar 0) (tC (.str "rest")) (tOp (rI CDiv fun i j => .int (i / j)) (tDGet (tVar 0) (tC (.str "rest"))) (tVar 1))) (tRet (tVar 2))) { nx := fun _ H' => Q .non H', rt := Q } [some (.ref st), some (.int (m : Nat)), none] H1 := by
    intro H1 k1 A1
    obtain ⟨ws, cs, rest, turn, h1, h2, h3, h4, h5, h6, h7, h8, h9⟩ := A1.ex
    refine ⟨_, rfl, st, _, rfl, gR h1, .inl ⟨_, rfl, .int (m : Nat), rfl, _, _, rfl, rfl, hm, ?_⟩⟩
    refine ⟨_, rfl, st, _, rfl, gR h1, .int (m : Nat), rfl, _, _, rfl, rfl, ⟨hm, by omega⟩, .ref st, rfl, st, _, rfl, DPut.k (k := .inr "rest") h1 (four _ _ _), ?_⟩
    rw [put_rest]
    have e1 := Int.emod_nonneg rest (show ((m : Nat) : Int) ≠ 0 by omega)
    have e2 := Int.emod_lt_of_pos rest hm
    obtain ⟨n, hn⟩ := Int.eq_ofNat_of_zero_le e1
    refine ⟨_, rfl, ?_⟩
    show Q (.int (rest % ((m : Nat) : Int))) _
    rw [hn] at e2 ⊢
    refine q n _ (by omega) (k1.trans Kp.fst) ⟨A1.ne, ws, cs, _, turn, upd_same, by rw [upd_ne A1.ne.symm]; exact h2, h3, h4, by rw [upd_ne h3]; exact h5, h6, h7, h8, h9⟩
  obtain ⟨ws, cs, rest, turn, h1, h2, h3, h4, h5, h6, h7, h8, h9⟩ := hA.ex
  refine ⟨_, rfl, st, _, rfl, gR h1, rfl, _, rfl, ?_⟩
  by_cases hr0 : rest = 0
  · rw [decide_eq_true (congrArg V.int hr0)]
    refine iteT ⟨_, rfl, st, _, rfl, gW h1, Nat.zero_le _, fun p hp => ?_⟩
    have s1 := same_new (o := .lst []) hp
    have g1 := s1 _ _ h1
    have g2 := s1 _ _ h2
    have g5 := s1 _ _ h5
    refine rd_neI (SqL.of g2) (SqL.of upd_same) ⟨_, rfl, ?_⟩
    cases ws with
    | nil =>
      refine iteF ⟨_, rfl, st, wl, cl, t, rfl, hA.sm s1, ht, fun n H2 k2 A2 => ?_⟩
      obtain ⟨ws', cs', rest', turn', f1, f2, f3, f4, f5, f6, f7, f8, f9⟩ := A2.ex
      refine ⟨.ref st, rfl, st, _, rfl, DPut.k (k := .inr "rest") f1 (four _ _ _), go _ ((Kp.of s1).trans (k2.trans Kp.fst)) ?_⟩
      rw [put_rest]
      exact ⟨A2.ne, ws', cs', _, turn', upd_same, by rw [upd_ne A2.ne.symm]; exact f2, f3, f4, by rw [upd_ne f3]; exact f5, f6, f7, f8, f9⟩
    | cons c ws =>
      rw [List.length_cons] at h6
      refine iteT ⟨.ref st, rfl, st, _, rfl, gW g1, .inl ⟨rfl, _, SqL.of g2⟩, wl, _, 0, 0, .int c, rfl, rfl, g2, by decide, by decide, seqIndex_of (k := (0 : Int)) (by omega) (by rw [List.length_map, List.length_cons]; omega), rfl, ?_⟩
      have ews : ((c :: ws).map V.int).eraseIdx 0 = ws.map V.int := rfl
      rw [ews]
      have n1 : (upd (upd H p (.lst [])) wl (.lst (ws.map V.int))) st = some (.dK (stD wl cl rest turn)) := by rw [upd_ne hA.ne]; exact g1
      refine ⟨.ref st, rfl, st, _, rfl, DPut.k (k := .inr "rest") n1 (four _ _ _), go _ ((Kp.of s1).trans (Kp.snd.trans Kp.fst)) ?_⟩
      rw [put_rest]
      exact ⟨hA.ne, ws, cs, _, turn, upd_same, by rw [upd_ne hA.ne.symm]; exact upd_same, h3, h4, by rw [upd_ne h3, upd_ne h4]; exact g5, by omega, h7, h8, by omega⟩
  · rw [decide_eq_false (fun e => hr0 (V.int.inj e))]
    exact iteF (go H (fun p o _ _ h => h) (hA.up (by omega)))
def sp_pick (K : PySem.W.Frag) : Sp := fun vs H Q _ => ∃ (st wl cl a : Addr) (t : Nat) (xs : List V), vs = [.ref st, .ref a] ∧ StA K H st wl cl t ∧ t ≤ 1000000 ∧ H a = some (.lst xs) ∧ a ≠ st ∧ a ≠ wl ∧ 0 < xs.length ∧ xs.length ≤ 1000 ∧ ∀ (n : Nat) (x : V) (H' : Hp), xs[n]? = some x → Kp st wl H H' → StA K H' st wl cl (t + 1) → Q x H'
theorem ok_pick {j : Nat} (D : Dn K mg "_law_pick" s_pick ["_law_state", "_law_some"] f fd) (B : Blt mg) (C : Kn P w K mg base j "_law_take" (sp_take K)) (hj : j ≤ k) : Kn P w K mg base (k + 1) "_law_pick" (sp_pick K) := by
  refine D.kn (D.F.ok sc_pick (fun vs H Q E h => ?_) (fun cdv A outer s H vs Q E hr h => ?_))
  · obtain ⟨st, wl, cl, a, t, xs, rfl, _⟩ := h
    rfl
  obtain ⟨st, wl, cl, a, t, xs, rfl, hA, ht, ha, n1, n2, h0, h1, q⟩ := h
  refine ⟨_, pss_one (ps_ret (pe_ix ix_list (pv 1) (pe_kn C hr hj (by rfl) (pa_cons (pv 0) (pa_cons (pe_callB call_len_seq (by rfl) B.zlen bt_len (pa_cons (pv 1) pa_nil)) pa_nil))) (fun _ _ => rfl))), ?_⟩
  refine ⟨.ref a, rfl, .ref st, rfl, .ref a, rfl, a, xs, rfl, .inl (SqL.of ha), st, wl, cl, t, xs.length, rfl, hA, ht, h0, h1, fun n H' hn k' A' => ?_⟩
  have hx := List.getElem?_eq_getElem hn
  exact ⟨a, xs, (n : Nat), _, rfl, rfl, SqL.of (k' _ _ n1 n2 ha), atI_nat hx, q n _ H' hx k' A'⟩
end
end Fk

set_option Elab.async false
set_option linter.all false
set_option maxRecDepth 100000
/-! The law's own defs: names, runs, moved pairs. -/
namespace Fk
open PySem PySem.Spec PyProof.Rows L2 LamX
abbrev s_shuffled : Stmt := topS 46
abbrev s_names : Stmt := topS 47
abbrev s_ljoined : Stmt := topS 48
abbrev s_lrun : Stmt := topS 49
abbrev s_moved : Stmt := topS 50
theorem sc_shuffled : FnScope ["_law_state", "_law_some", "_law_left", "_law_found"] ["_law_state", "_law_some"] (defScope s_shuffled) := ⟨rfl, rfl, rfl, by decide +kernel, rfl, by decide +kernel, by decide +kernel⟩
theorem sc_names : FnScope ["_law_state", "_law_many", "_law_some"] ["_law_state", "_law_many"] (defScope s_names) := ⟨rfl, rfl, rfl, by decide +kernel, rfl, by decide +kernel, by decide +kernel⟩
theorem sc_ljoined : FnScope ["_law_way", "_law_jobs", "_law_found", "_law_job"] ["_law_way", "_law_jobs"] (defScope s_ljoined) := ⟨rfl, rfl, rfl, by decide +kernel, rfl, by decide +kernel, by decide +kernel⟩
theorem sc_lrun : FnScope ["_law_state", "_law_words", "_law_upto", "_law_first", "_law_way"] ["_law_state", "_law_words", "_law_upto"] (defScope s_lrun) := ⟨rfl, rfl, rfl, by decide +kernel, rfl, by decide +kernel, by decide +kernel⟩
theorem sc_moved : FnScope ["_law_some", "_law_many", "_law_low", "_law_high"] ["_law_some", "_law_many"] (defScope s_moved) := ⟨rfl, rfl, rfl, by decide +kernel, rfl, by decide +kernel, by decide +kernel⟩
theorem Kp.mut {F G p : Addr} {H H' : Hp} {o : HO} (e : Kp F G H H') (h : H p = none) : Kp F G H (upd H' p o) := fun b u h1 h2 q => by
  rw [upd_ne (ne_of_none q h)]
  exact e b u h1 h2 q
theorem StA.old {K : PySem.W.Frag} {H : Hp} {st wl cl p : Addr} {t : Nat} (h : StA K H st wl cl t) (hp : H p = none) : st ≠ p ∧ wl ≠ p ∧ cl ≠ p := by
  obtain ⟨ws, cs, rest, turn, h1, h2, h3, h4, h5, _⟩ := h.ex
  exact ⟨ne_of_none h1 hp, ne_of_none h2 hp, ne_of_none h5 hp⟩
/-- a list of ours is written -/
theorem StA.mut {K : PySem.W.Frag} {H H0 : Hp} {st wl cl p : Addr} {t t0 : Nat} {o : HO} (h : StA K H st wl cl t) (h0 : StA K H0 st wl cl t0) (hp : H0 p = none) : StA K (upd H p o) st wl cl t := by
  obtain ⟨ws, cs, rest, turn, h1, h2, h3, h4, h5, h6⟩ := h.ex
  obtain ⟨n1, n2, n3⟩ := h0.old hp
  exact ⟨h.ne, ws, cs, rest, turn, by rw [upd_ne n1]; exact h1, by rw [upd_ne n2]; exact h2, h3, h4, by rw [upd_ne n3]; exact h5, h6⟩
theorem none_kp {F G p : Addr} {H H' : Hp} (e : Kp F G H H') (h : H' p = none) (h1 : p ≠ F) (h2 : p ≠ G) : H p = none := by
  cases z : H p with
  | none => rfl
  | some o =>
    rw [e p o h1 h2 z] at h
    cases h
theorem tk_kp {K : PySem.W.Frag} {st wl cl : Addr} {t : Nat} {H H' : Hp} (h : StA K H st wl cl t) (e : Kp st wl H H') : TK H H' := by
  obtain ⟨ws, cs, rest, turn, h1, h2, _⟩ := h.ex
  exact ⟨fun a xs q => e a _ (ne_of q h1 (fun z => nomatch z)) (ne_of q h2 (fun z => nomatch z)) q, fun a o u q => e a _ (ne_of q h1 (fun z => nomatch z)) (ne_of q h2 (fun z => nomatch z)) q⟩
theorem erase_perm {α : Type} : ∀ {l : List α} {i : Nat} {x : α}, l[i]? = some x → (x :: l.eraseIdx i).Perm l
  | [], _, _, h => by simp at h
  | y :: l, 0, x, h => by
    simp at h
    subst h
    exact .refl _
  | y :: l, i + 1, x, h => by
    have ih := erase_perm (l := l) (i := i) (x := x) (by simpa using h)
    rw [List.eraseIdx_cons_succ]
    exact (List.Perm.swap _ _ _).trans (ih.cons y)
section
variable {P : Program} {w : World} {K : PySem.W.Frag} {mg : Str → Option Value} {base : Heap} {f g : Addr} {fd gd : FuncData} {k : Nat}
theorem str_eraseIdx (l : List Str) (i : Nat) : (l.map V.str).eraseIdx i = (l.eraseIdx i).map V.str := by
  induction l generalizing i with
  | nil => rfl
  | cons x l ih =>
    cases i with
    | zero => rfl
    | succ i =>
      rw [List.map_cons, List.eraseIdx_cons_succ, List.eraseIdx_cons_succ, List.map_cons, ih]
theorem shaped_strs : ∀ ns : List Str, (∀ n ∈ ns, isName n) → SeqAt.shaped (.list (ns.map PyData.str)) = true := fun ns h => by
  have h1 : ∀ ns : List Str, (∀ n ∈ ns, isName n) → PyData.canLayAll0 (ns.map PyData.str) = true ∧ PyData.depthAll (ns.map PyData.str) ≤ 1 := by
    intro ns
    induction ns with
    | nil => intro _; exact ⟨rfl, by simp [PyData.depthAll]⟩
    | cons n ns ih =>
      intro h
      obtain ⟨a, b⟩ := ih fun x hx => h x (List.mem_cons_of_mem _ hx)
      rw [List.map_cons]
      refine ⟨?_, ?_⟩
      · simp only [PyData.canLayAll0, PyData.canLay0, Bool.and_eq_true]
        exact ⟨name_strOk (h n List.mem_cons_self), a⟩
      · simp only [PyData.depthAll, PyData.depth]
        omega
  obtain ⟨a, b⟩ := h1 ns h
  show (PyData.canLay0 (.list _) && decide (PyData.depth (.list _) ≤ 64)) = true
  rw [Bool.and_eq_true]
  refine ⟨by simp only [PyData.canLay0]; exact a, decide_eq_true ?_⟩
  simp only [PyData.depth]
  omega
theorem dp_strs {H : Hp} : ∀ ns : List Str, DpAll K H (ns.map V.str) (ns.map PyData.str)
  | [] => .nil
  | n :: ns => .cons (.str n) (dp_strs ns)
def sp_shuffled (K : PySem.W.Frag) : Sp := fun vs H Q _ => ∃ (st wl cl a : Addr) (t : Nat) (ss : List Str), vs = [.ref st, .ref a] ∧ StA K H st wl cl t ∧ t + ss.length ≤ 1000000 ∧ SqL K H a (ss.map V.str) ∧ (∀ n ∈ ss, isName n) ∧ ss.length ≤ 50 ∧
  ∀ (p : Addr) (zs : List Str) (H' : Hp), zs.Perm ss → H p = none → H' p = some (.lst (zs.map V.str)) → Kp st wl H H' → StA K H' st wl cl (t + ss.length) → Q (.ref p) H'
theorem ok_shuffled {j : Nat} (D : Dn K mg "_law_shuffled" s_shuffled ["_law_state", "_law_some"] f fd) (B : Blt mg) (C : Kn P w K mg base j "_law_take" (sp_take K)) (hj : j ≤ k) : Kn P w K mg base (k + 1) "_law_shuffled" (sp_shuffled K) := by
  refine D.kn (D.F.ok sc_shuffled (fun vs H Q E h => ?_) (fun cdv A outer s H vs Q E hr h => ?_))
  · obtain ⟨st, wl, cl, a, t, ss, rfl, _⟩ := h
    rfl
  obtain ⟨st, wl, cl, a, t, ss, rfl, hA, ht, hs, hn, h50, q⟩ := h
  refine ⟨_, pss_cons (ps_par (i := 2) (j := 3) rfl sc_shuffled.nd rfl rfl (by decide) rfl rfl (pa_cons (pe_callTy call_list_of (by rfl) B.zlist bt_list (pa_cons (pv 1) pa_nil)) (pa_cons (pe_lst pa_nil) pa_nil)) (by rfl))
    (pss_cons (ps_while PassesOwn.never (pt_cmpR (op_neD hr.units) (pv 2) (pe_lst pa_nil) (nomark _))
      (pss_one (ps_expr (pe_bm PySem.F.plainAttrs_list PySem.F.slot_list_append PySem.F.type_list_append mt_append (pv 3) (pa_cons
        (pe_bm PySem.F.plainAttrs_list PySem.F.slot_list_pop PySem.F.type_list_pop mt_popAt (pv 2) (pa_cons (pe_kn C hr hj (by rfl) (pa_cons (pv 0) (pa_cons (pe_callB call_len_seq (by rfl) B.zlen bt_len (pa_cons (pv 2) pa_nil)) pa_nil))) pa_nil)) pa_nil)))))
    (pss_one (ps_ret (pv 3)))), ?_⟩
  refine ⟨_, rfl, a, _, rfl, .inl hs, fun L hL => ⟨Nat.zero_le _, fun F hF => ⟨_, _, rfl, ?_⟩⟩⟩
  have s1 := same_new (o := .lst (ss.map V.str)) hL
  have s2 := same_new (o := .lst []) hF
  have hF0 := none_old s1 hF
  have hLF : L ≠ F := nsn upd_same hF
  have nL := hA.old hL
  have nF := hA.old hF0
  refine ⟨fun m σ H3 => ∃ (l zs : List Str), σ = [some (.ref st), some (.ref a), some (.ref L), some (.ref F)] ∧ Kp st wl H H3 ∧ H3 L = some (.lst (l.map V.str)) ∧ H3 F = some (.lst (zs.map V.str)) ∧ (zs ++ l).Perm ss ∧ StA K H3 st wl cl (t + zs.length) ∧ m = l.length,
    ⟨_, ss, [], rfl, .of (s1.trans s2), s2 _ _ upd_same, upd_same, .refl _, (hA.sm s1).sm s2, rfl⟩, ?_⟩
  rintro m σ H3 ⟨l, zs, rfl, k3, hL3, hF3, hp, A3, rfl⟩
  have hlen := hp.length_eq
  rw [List.length_append] at hlen
  refine ⟨_, rfl, Nat.zero_le _, fun p0 hp0 => ?_⟩
  have s4 := same_new (o := .lst []) hp0
  refine rd_ne (SqL.of (s4 _ _ hL3)) (dp_strs l) (shaped_strs l fun n hn' => hn n (hp.mem_iff.mp (List.mem_append_right _ hn'))) (SqL.of upd_same) ⟨_, rfl, ?_⟩
  cases hl : l with
  | nil =>
    rw [hl] at hp hlen
    rw [List.append_nil] at hp
    have e : zs.length = ss.length := hp.length_eq
    refine iteF ⟨_, rfl, q F zs _ hp hF0 (s4 _ _ hF3) (k3.trans (.of s4)) ?_⟩
    rw [← e]
    exact A3.sm s4
  | cons x l' =>
    rw [← hl]
    have hne : (!(l.map PyData.str).isEmpty) = true := by
      rw [hl]
      rfl
    rw [hne]
    have hpos : 0 < l.length := by rw [hl]; simp
    have A4 := A3.sm s4
    have hL4 := s4 _ _ hL3
    have hF4 := s4 _ _ hF3
    have k4 := k3.trans (.of s4)
    refine iteT ⟨_, fun σ' H' w' => w', ?_⟩
    refine ⟨_, rfl, .inl ⟨rfl, _, SqL.of hF4⟩, .ref L, rfl, .inl ⟨rfl, _, SqL.of hL4⟩, .ref st, rfl, .ref L, rfl, L, _, rfl, .inl (SqL.of hL4), st, wl, cl, t + zs.length, l.length, ?_, A4, by omega, hpos, by omega, fun n H5 hn5 k5 A5 => ?_⟩
    · rw [List.length_map]
      rfl
    have hL5 := k5 _ _ nL.1.symm nL.2.1.symm hL4
    have hF5 := k5 _ _ nF.1.symm nF.2.1.symm hF4
    obtain ⟨y, hy⟩ : ∃ y, l[n]? = some y := ⟨_, List.getElem?_eq_getElem hn5⟩
    refine ⟨L, _, (n : Nat), n, .str y, rfl, rfl, hL5, by omega, by omega, seqIndex_of (k := ((n : Nat) : Int)) (by omega) (by rw [List.length_map]; omega), by rw [List.getElem?_map, hy]; rfl, ?_⟩
    have A6 : StA K (upd H5 L (.lst ((l.map V.str).eraseIdx n))) st wl cl (t + zs.length + 1) := A5.mut hA hL
    have hF6 : (upd H5 L (.lst ((l.map V.str).eraseIdx n))) F = some (.lst (zs.map V.str)) := by rw [upd_ne hLF.symm]; exact hF5
    refine ⟨F, zs.map V.str, .str y, rfl, rfl, hF6, small_lt (by rw [List.length_map]; omega), ?_⟩
    have he := erase_perm hy
    have hel := he.length_eq
    rw [List.length_cons] at hel
    refine ⟨_, ?_, l.eraseIdx n, zs ++ [y], rfl, ((k4.trans k5).mut hL).mut hF0, ?_, ?_, ?_, ?_, rfl⟩
    · omega
    · rw [upd_ne hLF, upd_same, str_eraseIdx]
    · rw [upd_same, List.map_append]
      rfl
    · rw [List.append_assoc]
      exact (he.append_left zs).trans hp
    · rw [List.length_append]
      exact A6.mut hA hF0
def names14 : List Str := ["a", "ab", "b", "ba", "c", "d", "row", "bag", "step", "again", "either", "zz", "zzzzzz", "zzzzzy"]
theorem names14_ok : ∀ n ∈ names14, isName n := by
  unfold names14 isName letters
  decide +kernel
theorem cut_to (xs : List V) (m : Nat) : cutV xs none (some ((m : Nat) : Int)) = xs.take m := by
  unfold cutV
  rw [HT.sIx_nat, HT.sIx_none]
  show List.take (min m xs.length - 0) (List.drop 0 xs) = _
  rw [List.drop_zero, Nat.sub_zero]
  by_cases h : m ≤ xs.length
  · rw [Nat.min_eq_left h]
  · rw [Nat.min_eq_right (by omega), List.take_length, List.take_of_length_le (by omega)]
def sp_lnames (K : PySem.W.Frag) : Sp := fun vs H Q _ => ∃ (st wl cl : Addr) (t m : Nat), vs = [.ref st, .int (m : Nat)] ∧ StA K H st wl cl t ∧ t ≤ 900000 ∧ 1 ≤ m ∧ m ≤ 14 ∧
  ∀ (p : Addr) (ns : List Str) (H' : Hp), ns.length = m → (∀ n ∈ ns, isName n) → H p = none → H' p = some (.lst (ns.map V.str)) → Kp st wl H H' → StA K H' st wl cl (t + 14) → Q (.ref p) H'
theorem ok_lnames {j : Nat} (D : Dn K mg "_law_names" s_names ["_law_state", "_law_many"] f fd) (B : Blt mg) (C : Kn P w K mg base j "_law_shuffled" (sp_shuffled K)) (hj : j ≤ k) : Kn P w K mg base (k + 1) "_law_names" (sp_lnames K) := by
  refine D.kn (D.F.ok sc_names (fun vs H Q E h => ?_) (fun cdv A outer s H vs Q E hr h => ?_))
  · obtain ⟨st, wl, cl, t, m, rfl, _⟩ := h
    rfl
  obtain ⟨st, wl, cl, t, m, rfl, hA, ht, h1, h14, q⟩ := h
  refine ⟨_, pss_cons (ps_set (i := 2) sc_names.nd rfl (Or.inl rfl) (pe_lst (pa_cons pe_str (pa_cons pe_str (pa_cons pe_str (pa_cons pe_str (pa_cons pe_str (pa_cons pe_str (pa_cons pe_str (pa_cons pe_str (pa_cons pe_str (pa_cons pe_str (pa_cons pe_str (pa_cons pe_str (pa_cons pe_str (pa_cons pe_str pa_nil))))))))))))))))
    (pss_one (ps_ret (pe_callB cr_sortedS (by rfl) B.zsorted bt_sorted (pa_cons (pe_slice sl_list (pe_kn C hr hj (by rfl) (pa_cons (pv 0) (pa_cons (pv 2) pa_nil))) po_none (po_some (pv 1))) pa_nil)))), ?_⟩
  refine ⟨small (show 14 ≤ 100000 by decide), fun a ha => ?_⟩
  have s1 := same_new (o := .lst (names14.map V.str)) ha
  have hl14 : names14.length = 14 := rfl
  refine ⟨_, rfl, .ref a, rfl, st, wl, cl, a, t, names14, rfl, hA.sm s1, by omega, SqL.of upd_same, names14_ok, by omega, fun p zs H2 hp hp0 hp2 k2 A2 => ?_⟩
  refine ⟨_, rfl, _, rfl, p, _, rfl, SqL.of hp2, fun p3 hp3 => ?_⟩
  rw [cut_to, ← List.map_take]
  have s3 := same_new (o := .lst ((zs.take m).map V.str)) hp3
  have hzl := hp.length_eq
  have htl : (zs.take m).length = m := by
    rw [List.length_take]
    omega
  refine ⟨p3, zs.take m, rfl, SqL.of upd_same, by omega, fun ys p4 hy hsy hp4 => ?_⟩
  have s4 := same_new (o := .lst (ys.map V.str)) hp4
  have hp40 : H p4 = none := by
    have e2 := none_old s3 hp4
    obtain ⟨n1, n2, _⟩ := A2.old e2
    exact none_old s1 (none_kp k2 e2 n1.symm n2.symm)
  refine q p4 ys _ (hy.length_eq.trans htl) (fun n hn => names14_ok n (hp.mem_iff.mp (List.mem_of_mem_take (hy.mem_iff.mp hn)))) hp40 upd_same ((Kp.of s1).trans (k2.trans ((Kp.of s3).trans (.of s4)))) ?_
  exact (A2.sm s3).sm s4
end
end Fk

set_option Elab.async false
set_option linter.all false
set_option maxRecDepth 100000
/-! The law's own joined. -/
namespace Fk
open PySem PySem.Spec PyProof.Rows L2 LamX
section
variable {P : Program} {w : World} {K : PySem.W.Frag} {mg : Str → Option Value} {base : Heap} {f g : Addr} {fd gd : FuncData} {k : Nat}
theorem ok_ljoined (D : Dn K mg "_law_joined" s_ljoined ["_law_way", "_law_jobs"] f fd) (B : Blt mg) : Kn P w K mg base (k + 1) "_law_joined" (sp_joined K) := by
  refine D.kn (D.F.ok sc_ljoined (fun vs H Q E h => ?_) (fun cdv A outer s H vs Q E hr h => ?_))
  · obtain ⟨b, a, xs, rs, rfl, _⟩ := h
    rfl
  obtain ⟨b, a, xs, rs, rfl, hs, ha, ho, hz, hln, q⟩ := h
  have hl := ha.length
  refine ⟨_, pss_cons (ps_set (i := 2) sc_ljoined.nd rfl (Or.inl rfl) (pe_lst pa_nil))
    (pss_cons (ps_for PassesOwn.never rfl (pi_list (pv 1)) (pg_name (i := 3) sc_ljoined.nd rfl (Or.inl rfl))
      (pss_one (ps_if (pt_cmpR op_eq (pe_ix ix_tup (pv 3) pe_int (fun _ _ => rfl)) (pv 0) (nomark _))
        (pss_one (ps_set (i := 2) sc_ljoined.nd rfl (Or.inl rfl) (pe_op op_cat (pv 2) (pe_callTy call_list_of (by rfl) B.zlist bt_list (pa_cons (pe_slice sl_tup (pv 3) (po_some pe_int) po_none) pa_nil)))))
        (pss_one (ps_if (pt_cmpR (op_neD hr.units) (pv 3) (pe_tup (pa_cons pe_str pa_nil)) (nomark _))
          (pss_one (ps_expr (pe_bm PySem.F.plainAttrs_list PySem.F.slot_list_append PySem.F.type_list_append mt_append (pv 2) (pa_cons (pv 3) pa_nil)))) pss_nil)))))
    (pss_cons (ps_if (pt_cmpR op_eq (pv 0) pe_str (nomark _)) (pss_one (ps_set (i := 2) sc_ljoined.nd rfl (Or.inl rfl) (pe_callB (cr_sortedR (room70 hr)) (by rfl) B.zsorted bt_sorted (pa_cons (pv 2) pa_nil)))) pss_nil)
    (pss_cons (ps_if (pt_cmpR op_lt (pe_callB call_len_seq (by rfl) B.zlen bt_len (pa_cons (pv 2) pa_nil)) pe_int (nomark _))
      (pss_one (ps_ret (pe_ifExp (pt_cmpR (op_neD hr.units) (pv 2) (pe_lst pa_nil) (nomark _)) (pe_ix ix_list (pv 2) pe_int (fun _ _ => rfl)) (pe_tup (pa_cons pe_str pa_nil))))) pss_nil)
    (pss_one (ps_ret (pe_op op_catA (pe_tup (pa_cons (pv 0) pa_nil)) (pe_callTy call_tuple_of (by rfl) B.ztuple bt_tuple (pa_cons (pv 2) pa_nil)))))))), ?_⟩
  refine ⟨Nat.zero_le _, fun F hF => ?_⟩
  have s1 := same_new (o := .lst []) hF
  refine ⟨_, rfl, a, rfl, ⟨xs, s1.seq hs⟩, ?_⟩
  have atN : ∀ {H : Hp} {p : Addr}, H p = none → At K (upd H p (.tup [.str (Str.ofString "nothing")])) (.ref p) .nothing := fun {H p} h => at_iff.mpr ⟨p, [], rfl, SqT.of upd_same, rfl⟩
  refine for_it walk_list (fun i σ H2 => ∃ (F : Addr) (y : Option V) (acc : List V), σ = [some (.str (word b)), some (.ref a), some (.ref F), y] ∧ Same H H2 ∧ H F = none ∧ H2 F = some (.lst acc) ∧ AtL K H2 acc ((rs.take i).flatMap (parts b)))
    ⟨F, none, [], rfl, s1, hF, upd_same, .nil⟩ (fun i σ H2 _ ⟨_, _, _, _, s, _⟩ => s.seq hs) ?_ ?_
  · rintro i x σ H2 H3 hi ⟨F, y, acc, rfl, s2, hF0, hF2, hacc⟩ ⟨rfl, hx⟩
    obtain ⟨r, hr', hxr⟩ := paired_get ha hx
    have hxr2 := At.tk (.of s2) r x hxr
    obtain ⟨o1, o2⟩ := ho r (List.mem_of_getElem? hr')
    have ek := take_snoc hr'
    have hlen : acc.length ≤ sizeL rs := by
      rw [hacc.length]
      exact Nat.le_trans (flat_len fun z hz => (ho z (List.mem_of_mem_take hz)).1) (sizeL_take rs i)
    have hsz := sizeL_le (List.mem_of_getElem? hr')
    obtain ⟨p, vs, rfl, hp, ht⟩ := at_iff.mp hxr2
    refine ⟨_, rfl, p, _, 0, _, rfl, rfl, hp, at_zero _ _, .str (word b), rfl, rfl, _, rfl, ?_⟩
    rcases kinds b r with ⟨rs', rfl⟩ | rfl | ⟨k1, k2, k3⟩
    · rw [show decide (V.str (hd (.node b rs')) = V.str (word b)) = true from decide_eq_true rfl]
      refine iteT ⟨.ref F, rfl, _, rfl, 1, rfl, p, _, rfl, hp, one_not _ _, fun p2 hp2 => ?_⟩
      rw [cut_one]
      have s3 := same_new (o := .tup vs) hp2
      have hal : AtL K H3 vs rs' := ht
      have hvl := hal.length
      have h2 : rs'.length ≤ sizeL rs' := by
        rw [Ok] at o1
        exact sizeL_ge o1.2.1
      rw [size] at hsz
      refine ⟨p2, vs, rfl, .inr (SqT.of upd_same), fun p4 hp4 => ?_⟩
      have s4 := same_new (o := .lst vs) hp4
      refine ⟨F, p4, acc, vs, rfl, rfl, s4 _ _ (s3 _ _ hF2), upd_same, small (by omega), fun p5 hp5 => ?_⟩
      have s5 := same_new (o := .lst (acc ++ vs)) hp5
      have s35 := s3.trans (s4.trans s5)
      refine ⟨p5, _, acc ++ vs, rfl, s2.trans s35, none_old (s2.trans (s3.trans s4)) hp5, upd_same, ?_⟩
      rw [ek, List.flatMap_append]
      refine paired_append (AtL.tk (.of s35) _ _ hacc) ?_
      show AtL K _ _ (parts b (.node b rs') ++ [])
      rw [List.append_nil, parts_node, if_pos rfl]
      exact AtL.tk (.of s35) _ _ hal
    · rw [show decide (V.str (hd .nothing) = V.str (word b)) = false from dec_ne (hd_nothing_word b)]
      refine iteF ⟨_, rfl, small (show 1 ≤ 100000 by decide), fun p2 hp2 => ?_⟩
      have s3 := same_new (o := .tup [.str (Str.ofString "nothing")]) hp2
      refine ⟨enc .nothing, enc .nothing, At.tk (.of s3) _ _ hxr2, atN hp2, shaped_run o1 (by omega), shaped_run o1 (by omega), ?_⟩
      rw [enc_eqv]
      refine ⟨false, rfl, iteF ⟨F, _, acc, rfl, s2.trans s3, hF0, s3 _ _ hF2, ?_⟩⟩
      rw [ek, List.flatMap_append]
      show AtL K _ _ (_ ++ ([] ++ []))
      rw [List.append_nil, List.append_nil]
      exact AtL.tk (.of s3) _ _ hacc
    · rw [k3]
      refine iteF ⟨_, rfl, small (show 1 ≤ 100000 by decide), fun p2 hp2 => ?_⟩
      have s3 := same_new (o := .tup [.str (Str.ofString "nothing")]) hp2
      refine ⟨enc r, enc .nothing, At.tk (.of s3) _ _ hxr2, atN hp2, shaped_run o1 (by omega), shaped_run (by rw [Ok]; trivial) (by rw [depth]; omega), ?_⟩
      have z : PyData.eqv (enc r) (enc .nothing) = false := by
        cases z : PyData.eqv (enc r) (enc .nothing) with
        | false => rfl
        | true => exact absurd (eqv_run _ _ z) k2
      rw [z]
      have hF3 := s3 _ _ hF2
      refine ⟨true, rfl, iteT ⟨_, rfl, .inl ⟨rfl, _, SqL.of hF3⟩, _, rfl, F, acc, .ref p, rfl, rfl, hF3, small_lt (by omega), ?_⟩⟩
      have tk4 := (TK.of s3).trans (tk_lst (o := .lst (acc ++ [.ref p])) hF3)
      refine ⟨F, _, acc ++ [.ref p], rfl, same_mut (s2.trans s3) hF0, hF0, upd_same, ?_⟩
      rw [ek, List.flatMap_append]
      refine paired_append (AtL.tk tk4 _ _ hacc) ?_
      show AtL K _ _ (parts b r ++ [])
      rw [List.append_nil, k1]
      exact .cons (At.tk tk4 _ _ hxr2) .nil
  · rintro σ H2 ⟨F, y, acc, rfl, s2, hF0, hF2, hacc⟩
    rw [hl, List.take_length] at hacc
    have hok : ∀ r ∈ rs.flatMap (parts b), Ok r ∧ depth r ≤ 60 ∧ isPart b r = true := fun r hr' => by
      obtain ⟨r0, h1, h2⟩ := List.mem_flatMap.mp hr'
      have := parts_depth h2
      have := (ho r0 h1).2
      exact ⟨(parts_ok (ho r0 h1).1 r h2).1, by omega, (parts_ok (ho r0 h1).1 r h2).2⟩
    have hlen : acc.length ≤ sizeL rs := by
      rw [hacc.length]
      exact flat_len fun z hz => (ho z hz).1
    generalize hfl : rs.flatMap (parts b) = fl at hacc hok
    have hj : joined b rs = finish b (ordered b fl) := by
      unfold joined
      rw [hfl]
    have lf := hacc.length
    -- behind the sorting
    have fin : ∀ (F3 : Addr) (H3 : Hp) (ys : List V), Same H H3 → H3 F3 = some (.lst ys) → AtL K H3 ys (ordered b fl) →
        tSeq (tIfS (tTest (tOp (rI0 fun i j => .bl (decide (i < j))) (tCB (fun xs H Q => ∃ p ys, xs = [.ref p] ∧ (SqL K H p ys ∨ SqT K H p ys) ∧ Q (.int ys.length) H) (tCons (tVar 2) tNil)) (tC (.int 2)))) (tRet (tIf (tTest (tOp (rNeD K) (tVar 2) (tLst tNil))) (tOp (rIxL K) (tVar 2) (tC (.int 0))) (tTup (tCons (tC (.str "nothing")) tNil)))) tNext)
          (tRet (tOp (rCatA K) (tTup (tCons (tVar 0) tNil)) (tCB (fun xs H Q => ∃ p ys, xs = [.ref p] ∧ ((SqL K H p ys ∧ ∀ l, H l = none → Q (.ref l) (upd H l (.tup ys))) ∨ (SqT K H p ys ∧ Q (.ref p) H))) (tCons (tVar 2) tNil))))
          { nx := fun _ H' => Q .non H', rt := Q } [some (.str (word b)), some (.ref a), some (.ref F3), y] H3 := by
      intro F3 H3 ys s3 hF3 hys
      have yl := hys.length
      rw [(ordered_perm b fl).length_eq] at yl
      have yok : ∀ r ∈ ordered b fl, Ok r ∧ depth r ≤ 60 ∧ isPart b r = true := fun r hr' => hok r ((ordered_perm b fl).mem_iff.mp hr')
      refine ⟨_, rfl, F3, ys, rfl, .inl (SqL.of hF3), _, _, rfl, rfl, _, rfl, ?_⟩
      generalize ordered b fl = ol at hj hys yok
      match ys, ol, hys with
      | [], _, hys =>
        cases hys
        refine iteT ⟨_, rfl, Nat.zero_le _, fun p4 hp4 => ?_⟩
        have s4 := same_new (o := .lst []) hp4
        refine rd_ne (ds := []) (SqL.of (s4 _ _ hF3)) .nil (by rfl) (SqL.of upd_same) ⟨_, rfl, iteF ⟨small (show 1 ≤ 100000 by decide), fun p5 hp5 => ?_⟩⟩
        have s5 := same_new (o := .tup [.str (Str.ofString "nothing")]) hp5
        refine q _ _ (s3.trans (s4.trans s5)) ?_
        rw [hj]
        exact atN hp5
      | [v], _, .cons h1 .nil =>
        refine iteT ⟨_, rfl, Nat.zero_le _, fun p4 hp4 => ?_⟩
        have s4 := same_new (o := .lst []) hp4
        refine rd_ne (ds := encL [_]) (SqL.of (s4 _ _ hF3)) (of_atL (AtL.tk (.of s4) _ _ (.cons h1 .nil))) (shaped_list (b := b) (okL_iff.mpr fun r hr => ⟨(yok r hr).1, (yok r hr).2.2⟩) (depthL_of fun r hr => (yok r hr).2.1)) (SqL.of upd_same) ⟨true, by rw [encL]; rfl, iteT ?_⟩
        refine ⟨_, rfl, F3, _, 0, v, rfl, rfl, SqL.of (s4 _ _ hF3), at_zero _ _, q v _ (s3.trans s4) ?_⟩
        rw [hj]
        exact At.tk (.of s4) _ _ h1
      | v1 :: v2 :: vr, r1 :: r2 :: rr, hys =>
        have hc : decide ((((v1 :: v2 :: vr).length : Nat) : Int) < 2) = false := decide_eq_false (by rw [List.length_cons, List.length_cons]; omega)
        rw [hc]
        refine iteF ⟨.str (word b), rfl, small (show 1 ≤ 100000 by decide), fun p4 hp4 => ?_⟩
        have s4 := same_new (o := .tup [.str (word b)]) hp4
        refine ⟨_, rfl, F3, _, rfl, .inl ⟨SqL.of (s4 _ _ hF3), fun p5 hp5 => ?_⟩⟩
        have s5 := same_new (o := .tup (v1 :: v2 :: vr)) hp5
        refine ⟨p4, p5, _, _, rfl, rfl, SqT.of (s5 _ _ upd_same), SqT.of upd_same, small (by show 1 + (v1 :: v2 :: vr).length ≤ _; omega), (fun z => by cases z), (fun _ z => by cases z), fun _ _ p6 hp6 => ?_⟩
        have s6 := same_new (o := .tup ([.str (word b)] ++ (v1 :: v2 :: vr))) hp6
        have s46 := s4.trans (s5.trans s6)
        refine q _ _ (s3.trans s46) ?_
        rw [hj, finish_many (by simp)]
        exact at_iff.mpr ⟨p6, v1 :: v2 :: vr, rfl, SqT.of upd_same, AtL.tk (.of s46) _ _ hys⟩
    cases b with
    | true =>
      refine ⟨.str (word true), rfl, rfl, true, rfl, iteT ⟨.ref F, rfl, F, acc, fl, rfl, .inl (SqL.of hF2), hacc, fun r hr' => ⟨(hok r hr').1, (hok r hr').2.1⟩, fun l ys hl3 hys => ?_⟩⟩
      exact fin l _ ys (s2.trans (same_new hl3)) upd_same hys
    | false =>
      refine ⟨.str (word false), rfl, rfl, false, rfl, iteF ?_⟩
      exact fin F H2 acc s2 hF2 hacc
end
end Fk

set_option Elab.async false
set_option linter.all false
set_option maxRecDepth 100000
/-! Drawn runs, moved pairs. -/
namespace Fk
open PySem PySem.Spec PyProof.Rows L2 LamX
section
variable {P : Program} {w : World} {K : PySem.W.Frag} {mg : Str → Option Value} {base : Heap} {f g : Addr} {fd gd : FuncData} {k : Nat}
def sp_lrun (K : PySem.W.Frag) (u : Nat) : Sp := fun vs H Q _ => ∃ (st wl cl wa : Addr) (t m : Nat) (ns : List Str), vs = [.ref st, .ref wa, .int (m : Nat)] ∧ StA K H st wl cl t ∧ t + 6 * m ≤ 900000 ∧ H wa = some (.lst (ns.map V.str)) ∧ wa ≠ st ∧ wa ≠ wl ∧ (∀ n ∈ ns, isName n) ∧ 1 ≤ ns.length ∧ ns.length ≤ 14 ∧ 1 ≤ m ∧ m ≤ u ∧ m ≤ 30 ∧
  ∀ (v : V) (r : R) (H' : Hp), Ok r → r ≠ .nothing → size r ≤ m → Kp st wl H H' → StA K H' st wl cl (t + 6 * m - 3) → At K H' v r → Q v H'
theorem joined_ne {b : Bool} {r1 r2 : R} (h1 : Ok r1) (h2 : Ok r2) (n1 : r1 ≠ .nothing) : joined b [r1, r2] ≠ .nothing := fun e => by
  have hs := size_joined b [r1, r2]
  rw [e] at hs
  have := size_pos h1 n1
  simp [size, sizeL] at hs
  omega
theorem ok_lrun {u j l i m' : Nat} (D : Dn K mg "_law_run" s_lrun ["_law_state", "_law_words", "_law_upto"] f fd) (B : Blt mg) (Ct : Kn P w K mg base i "_law_take" (sp_take K)) (Cp : Kn P w K mg base l "_law_pick" (sp_pick K)) (Cj : Kn P w K mg base m' "_law_joined" (sp_joined K)) (C : Kn P w K mg base j "_law_run" (sp_lrun K u))
    (hi : i ≤ k) (hl : l ≤ k) (hm : m' ≤ k) (hj : j ≤ k) : Kn P w K mg base (k + 1) "_law_run" (sp_lrun K (u + 1)) := by
  refine D.kn (D.F.ok sc_lrun (fun vs H Q E h => ?_) (fun cdv A outer s H vs Q E hr h => ?_))
  · obtain ⟨st, wl, cl, wa, t, m, ns, rfl, _⟩ := h
    rfl
  obtain ⟨st, wl, cl, wa, t, m, ns, rfl, hA, ht, hwa, nw1, nw2, hns, hn1, hn14, h1, hu, h30, q⟩ := h
  refine ⟨_, pss_cons (ps_if (pw_or (pt_cmpR op_lt (pv 2) pe_int (nomark _)) (pw_or1 (pt_cmpR op_eq (pe_kn Ct hr hi (by rfl) (pa_cons (pv 0) (pa_cons pe_int pa_nil))) pe_int (nomark _)))).pt
      (pss_one (ps_ret (pe_tup (pa_cons pe_str (pa_cons (pe_kn Cp hr hl (by rfl) (pa_cons (pv 0) (pa_cons (pv 1) pa_nil))) pa_nil))))) pss_nil)
    (pss_cons (ps_set (i := 3) sc_lrun.nd rfl (Or.inl rfl) (pe_op op_add pe_int (pe_kn Ct hr hi (by rfl) (pa_cons (pv 0) (pa_cons (pe_op op_sub (pv 2) pe_int) pa_nil)))))
    (pss_cons (ps_set (i := 4) sc_lrun.nd rfl (Or.inl rfl) (pe_kn Cp hr hl (by rfl) (pa_cons (pv 0) (pa_cons (pe_lst (pa_cons pe_str (pa_cons pe_str pa_nil))) pa_nil))))
    (pss_one (ps_ret (pe_kn Cj hr hm (by rfl) (pa_cons (pv 4) (pa_cons (pe_lst (pa_cons (pe_kn C hr hj (by rfl) (pa_cons (pv 0) (pa_cons (pv 1) (pa_cons (pv 3) pa_nil))))
      (pa_cons (pe_kn C hr hj (by rfl) (pa_cons (pv 0) (pa_cons (pv 1) (pa_cons (pe_op op_sub (pv 2) (pv 3)) pa_nil)))) pa_nil))) pa_nil))))))), ?_⟩
  -- a step
  have leaf : ∀ (H1 : Hp) (t1 : Nat) (D0 : Ends) (σ : L2.St), D0.rt = Q → σ[0]? = some (some (.ref st)) → σ[1]? = some (some (.ref wa)) → Kp st wl H H1 → StA K H1 st wl cl t1 → t1 ≤ t + 2 →
      tRet (tTup (tCons (tC (.str "step")) (tCons (tCall (sp_pick K) [] E0 (tCons (tVar 0) (tCons (tVar 1) tNil))) tNil))) D0 σ H1 := by
    intro H1 t1 D0 σ hD e0 e1 k1 A1 ht1
    refine ⟨_, e0, _, e1, st, wl, cl, wa, t1, ns.map V.str, rfl, A1, by omega, k1 _ _ nw1 nw2 hwa, nw1, nw2, by rw [List.length_map]; omega, by rw [List.length_map]; omega, fun n x H2 hx k2 A2 => ?_⟩
    rw [List.getElem?_map] at hx
    obtain ⟨nm, hnm, rfl⟩ := Option.map_eq_some_iff.mp hx
    refine ⟨small (show 2 ≤ 100000 by decide), fun p hp => ?_⟩
    have s3 := same_new (o := .tup [.str (Str.ofString "step"), .str nm]) hp
    rw [hD]
    refine q _ (.step nm) _ (by rw [Ok]; exact hns nm (List.mem_of_getElem? hnm)) (fun z => by cases z) (by rw [size]; omega) (k1.trans (k2.trans (.of s3))) ((A2.sm s3).up (by omega)) (at_iff.mpr ⟨p, [.str nm], rfl, SqT.of upd_same, rfl⟩)
  refine ⟨_, rfl, _, _, rfl, rfl, _, rfl, ?_⟩
  by_cases hm2 : m < 2
  · rw [decide_eq_true (show ((m : Nat) : Int) < 2 by omega)]
    exact iteT (leaf H t _ _ rfl rfl rfl (fun p o _ _ h => h) hA (by omega))
  · rw [decide_eq_false (show ¬ ((m : Nat) : Int) < 2 by omega)]
    refine iteF ⟨_, rfl, st, wl, cl, t, 4, rfl, hA, by omega, by omega, by omega, fun n H1 hn k1 A1 => ⟨rfl, _, rfl, ?_⟩⟩
    by_cases hn0 : n = 0
    · rw [decide_eq_true (show V.int ((n : Nat) : Int) = V.int 0 by rw [hn0]; rfl)]
      exact iteT (leaf H1 (t + 1) _ _ rfl rfl rfl k1 A1 (by omega))
    · rw [decide_eq_false (show ¬ V.int ((n : Nat) : Int) = V.int 0 from fun e => hn0 (Int.ofNat.inj (V.int.inj e : ((n : Nat) : Int) = ((0 : Nat) : Int))))]
      have em : ((m : Nat) : Int) - 1 = ((m - 1 : Nat) : Int) := by omega
      refine iteF ⟨_, rfl, .int (m : Nat), rfl, _, _, rfl, rfl, st, wl, cl, t + 1, m - 1, by show [V.ref st, V.int (((m : Nat) : Int) - 1)] = _; rw [em], A1, by omega, by omega, by omega, fun n2 H2 hn2 k2 A2 => ⟨_, _, rfl, rfl, ?_⟩⟩
      refine ⟨_, rfl, small (show 2 ≤ 100000 by decide), fun p hp => ?_⟩
      have s3 := same_new (o := .lst [.str (Str.ofString "row"), .str (Str.ofString "bag")]) hp
      have np := A2.old hp
      have k3 := k1.trans (k2.trans (.of s3))
      refine ⟨st, wl, cl, p, t + 1 + 1, _, rfl, A2.sm s3, by omega, upd_same, np.1.symm, np.2.1.symm, by show 0 < 2; omega, by show 2 ≤ 1000; omega, fun n4 x H4 hx k4 A4 => ?_⟩
      obtain ⟨b, rfl⟩ : ∃ b : Bool, x = .str (word b) := by
        have hm := List.mem_of_getElem? hx
        simp only [List.mem_cons, List.not_mem_nil, or_false] at hm
        rcases hm with rfl | rfl
        · exact ⟨false, rfl⟩
        · exact ⟨true, rfl⟩
      have k04 := k3.trans k4
      have ef : (1 : Int) + ((n2 : Nat) : Int) = ((n2 + 1 : Nat) : Int) := by omega
      refine ⟨.str (word b), rfl, .ref st, rfl, .ref wa, rfl, .int (1 + ((n2 : Nat) : Int)), rfl, st, wl, cl, wa, t + 3, n2 + 1, ns, by show [V.ref st, V.ref wa, V.int (1 + ((n2 : Nat) : Int))] = _; rw [ef], A4, by omega, k04 _ _ nw1 nw2 hwa, nw1, nw2, hns, hn1, hn14, by omega, by omega, by omega, fun v1 r1 H5 o1 ne1 z1 k5 A5 av1 => ?_⟩
      have ef2 : ((m : Nat) : Int) - (1 + ((n2 : Nat) : Int)) = ((m - (n2 + 1) : Nat) : Int) := by omega
      refine ⟨.ref st, rfl, .ref wa, rfl, .int (m : Nat), rfl, .int (1 + ((n2 : Nat) : Int)), rfl, _, _, rfl, rfl, st, wl, cl, wa, t + 3 + 6 * (n2 + 1) - 3, m - (n2 + 1), ns, by show [V.ref st, V.ref wa, V.int (((m : Nat) : Int) - (1 + ((n2 : Nat) : Int)))] = _; rw [ef2], A5, by omega, (k04.trans k5) _ _ nw1 nw2 hwa, nw1, nw2, hns, hn1, hn14, by omega, by omega, by omega, fun v2 r2 H6 o2 ne2 z2 k6 A6 av2 => ?_⟩
      have av1' := At.tk (tk_kp A5 k6) r1 v1 av1
      refine ⟨small (show 2 ≤ 100000 by decide), fun p7 hp7 => ?_⟩
      have s7 := same_new (o := .lst [v1, v2]) hp7
      have d1 := depth_le_size o1
      have d2 := depth_le_size o2
      have zz : sizeL [r1, r2] = size r1 + (size r2 + 0) := by rw [sizeL, sizeL, sizeL]
      refine ⟨b, p7, [v1, v2], [r1, r2], rfl, SqL.of upd_same, .cons (At.tk (.of s7) _ _ av1') (.cons (At.tk (.of s7) _ _ av2) .nil), fun r hr' => ?_, by omega, by show 2 ≤ 1000; omega, fun v H8 s8 hv => ?_⟩
      · rcases List.mem_cons.mp hr' with rfl | hr'
        · exact ⟨o1, by omega⟩
        · rw [List.mem_singleton.mp hr']
          exact ⟨o2, by omega⟩
      · refine q v (joined b [r1, r2]) H8 (joined_ok fun r hr' => ?_) (joined_ne o1 o2 ne1) (by rw [size_joined]; omega) (k04.trans (k5.trans (k6.trans ((Kp.of s7).trans (.of s8))))) (((A6.sm s7).sm s8).up (by omega)) hv
        rcases List.mem_cons.mp hr' with rfl | hr'
        · exact o1
        · rw [List.mem_singleton.mp hr']
          exact o2
theorem all_lrun {l : Nat} (D : Dn K mg "_law_run" s_lrun ["_law_state", "_law_words", "_law_upto"] f fd) (B : Blt mg) (Ct : Kn P w K mg base l "_law_take" (sp_take K)) (Cp : Kn P w K mg base l "_law_pick" (sp_pick K)) (Cj : Kn P w K mg base l "_law_joined" (sp_joined K)) : ∀ u : Nat, Kn P w K mg base (l + u) "_law_run" (sp_lrun K u)
  | 0 => by
    have z : Kn P w K mg base 0 "_law_run" (sp_lrun K 0) := Kn.zero D fun vs H Q E ⟨_, _, _, _, _, _, _, _, _, _, _, _, _, _, _, _, h1, h2, _⟩ => by omega
    exact z.mono (Nat.zero_le _)
  | u + 1 => ok_lrun D B Ct Cp Cj (all_lrun D B Ct Cp Cj u) (Nat.le_add_right l u) (Nat.le_add_right l u) (Nat.le_add_right l u) (Nat.le_refl _)
def shift (m : Nat) (ps : List (Nat × Nat)) : List (Nat × Nat) := ps.map fun p => (p.1 + m, p.2 + m)
def sp_moved (K : PySem.W.Frag) : Sp := fun vs H Q _ => ∃ (a : Addr) (xs : List V) (ps : List (Nat × Nat)) (m : Nat), vs = [.ref a, .int (m : Nat)] ∧ SqT K H a xs ∧ PrL H xs ps ∧ ps.length ≤ 10000 ∧ ∀ (p : Addr) (ys : List V) (H' : Hp), Same H H' → H p = none → H' p = some (.lst ys) → PrL H' ys (shift m ps) → Q (.ref p) H'
theorem ok_moved (D : Dn K mg "_law_moved" s_moved ["_law_some", "_law_many"] f fd) (B : Blt mg) : Kn P w K mg base (k + 1) "_law_moved" (sp_moved K) := by
  refine D.kn (D.F.ok sc_moved (fun vs H Q E h => ?_) (fun cdv A outer s H vs Q E hr h => ?_))
  · obtain ⟨a, xs, ps, m, rfl, _⟩ := h
    rfl
  obtain ⟨a, xs, ps, m, rfl, hs, hx, hl, q⟩ := h
  have hxl := hx.len
  refine ⟨_, pss_one (ps_ret (pe_lc (own := [("_law_low", 2), ("_law_high", 3)]) (g := gTup K 2 (gCons (gName 2) (gCons (gName 3) gNil))) (tt := tYes) (te := tTup (tCons (tOp (rI0 fun i j => .int (i + j)) (tVar 2) (tVar 1)) (tCons (tOp (rI0 fun i j => .int (i + j)) (tVar 3) (tVar 1)) tNil))) rfl sc_moved.nd (pi_tup (pv 0)) (blkOk_by (N := ["_law_some", "_law_many", "_law_low", "_law_high"]) (sc := defScope s_moved) (by decide +kernel))
      (fun _ _ _ _ _ => pg_tup rfl (pgs_cons (pg_name (i := 2) sc_moved.nd rfl (Or.inl rfl)) (pgs_cons (pg_name (i := 3) sc_moved.nd rfl (Or.inl rfl)) pgs_nil))) (fun _ _ _ _ _ => pts_nil)
      (fun _ _ _ _ _ => pe_tup (pa_cons (pe_op op_add (pv 2) (pv 1)) (pa_cons (pe_op op_add (pv 3) (pv 1)) pa_nil))))), ?_⟩
  refine ⟨_, rfl, a, rfl, ⟨_, hs⟩, fun D2 hD2 => ?_⟩
  refine lcx (walk_tup (xs := xs)) hD2 (by omega) (fun i acc H2 => PrL H2 acc ((shift m ps).take i)) .nil (fun H' s' => SqT.sm hs s') ?_ ?_
  · rintro i acc x H2 H3 Kt Kf hi s2 hD hlen hacc fin _ ⟨rfl, hxi⟩
    obtain ⟨p, hpi, b, rfl, hb⟩ := paired_get hx hxi
    have hsi : (shift m ps)[i]? = some (p.1 + m, p.2 + m) := by
      unfold shift
      rw [List.getElem?_map, hpi]
      rfl
    refine ⟨b, _, rfl, SqT.of (s2 _ _ hb), rfl, _, _, rfl, _, _, rfl, rfl, rfl, yes_t ⟨_, rfl, .int (m : Nat), rfl, _, _, rfl, rfl, .int (p.2 : Nat), rfl, .int (m : Nat), rfl, _, _, rfl, rfl, small (show 2 ≤ 100000 by decide), fun t ht => ?_⟩⟩
    have s4 := same_new (o := .tup [.int (((p.1 : Nat) : Int) + (m : Nat)), .int (((p.2 : Nat) : Int) + (m : Nat))]) ht
    refine fin _ _ s4 ?_
    rw [take_snoc hsi]
    have tk := (TK.of s4).trans (tk_lst (o := .lst (acc ++ [.ref t])) (s4 _ _ hD))
    refine paired_append (PrL.tk hacc tk) (.cons ⟨t, rfl, (tk_lst (s4 _ _ hD)).tup _ _ ?_⟩ .nil)
    rw [upd_same]
    rfl
  · rintro acc H2 s2 hD hlen hacc
    have e : (shift m ps).length = ps.length := by
      unfold shift
      rw [List.length_map]
    rw [List.take_of_length_le (by omega)] at hacc
    exact q D2 acc H2 s2 hD2 hD hacc
end
end Fk

set_option Elab.async false
set_option linter.all false
set_option maxRecDepth 100000
/-! What is handed to run_of. -/
namespace Fk
open PySem
section
variable {rel rel' : Nat → Nat → Bool} {lab lab' : Nat → Str} {f : Nat → Nat}
theorem map_flat {α β : Type} (f : α → β) : ∀ Ss : List (List α), (Ss.map (List.map f)).flatten = Ss.flatten.map f
  | [] => rfl
  | S :: Ss => by rw [List.map_cons, List.flatten_cons, List.flatten_cons, List.map_append, map_flat f Ss]
mutual
theorem fits_map : ∀ (r : R) (S : List Nat), (∀ x ∈ S, ∀ y ∈ S, rel' (f x) (f y) = rel x y) → (∀ x ∈ S, lab' (f x) = lab x) → Fits rel lab r S → Fits rel' lab' r (S.map f)
  | .nothing, S, _, _, h => by
    rw [Fits] at h ⊢
    rw [h]
    rfl
  | .step n, S, _, hl, h => by
    rw [Fits] at h ⊢
    obtain ⟨i, e, l⟩ := h
    exact ⟨f i, by rw [e]; rfl, by rw [hl i (by rw [e]; exact List.mem_singleton.mpr rfl), l]⟩
  | .node b rs, S, hr, hl, h => by
    rw [Fits] at h ⊢
    obtain ⟨Ss, p, h1, h2⟩ := h
    refine ⟨Ss.map (List.map f), by rw [map_flat]; exact p.map f, fitsL_map rs Ss (fun x hx y hy => hr x (p.mem_iff.mpr hx) y (p.mem_iff.mpr hy)) (fun x hx => hl x (p.mem_iff.mpr hx)) h1, ?_⟩
    rw [List.pairwise_map]
    refine h2.imp_of_mem fun {A B} hA hB c => ?_
    intro x hx y hy
    obtain ⟨x', hx', rfl⟩ := List.mem_map.mp hx
    obtain ⟨y', hy', rfl⟩ := List.mem_map.mp hy
    have mx : x' ∈ S := p.mem_iff.mpr (List.mem_flatten.mpr ⟨A, hA, hx'⟩)
    have my : y' ∈ S := p.mem_iff.mpr (List.mem_flatten.mpr ⟨B, hB, hy'⟩)
    rw [hr x' mx y' my, hr y' my x' mx]
    exact c x' hx' y' hy'
theorem fitsL_map : ∀ (rs : List R) (Ss : List (List Nat)), (∀ x ∈ Ss.flatten, ∀ y ∈ Ss.flatten, rel' (f x) (f y) = rel x y) → (∀ x ∈ Ss.flatten, lab' (f x) = lab x) → FitsL rel lab rs Ss → FitsL rel' lab' rs (Ss.map (List.map f))
  | [], Ss, _, _, h => by
    rw [FitsL] at h ⊢
    rw [h]
    rfl
  | r :: rs, Ss, hr, hl, h => by
    rw [FitsL] at h ⊢
    obtain ⟨S, T, rfl, h1, h2⟩ := h
    have a : ∀ x ∈ S, x ∈ (S :: T).flatten := fun x hx => by rw [List.flatten_cons]; exact List.mem_append_left _ hx
    have c : ∀ x ∈ T.flatten, x ∈ (S :: T).flatten := fun x hx => by rw [List.flatten_cons]; exact List.mem_append_right _ hx
    exact ⟨S.map f, T.map (List.map f), rfl, fits_map r S (fun x hx y hy => hr x (a x hx) y (a y hy)) (fun x hx => hl x (a x hx)) h1, fitsL_map rs T (fun x hx y hy => hr x (c x hx) y (c y hy)) (fun x hx => hl x (c x hx)) h2⟩
end
theorem fits_same {r : R} {S : List Nat} (h : Fits rel lab r S) (hr : ∀ x ∈ S, ∀ y ∈ S, rel' x y = rel x y) (hl : ∀ x ∈ S, lab' x = lab x) : Fits rel' lab' r S := by
  have q := fits_map (f := id) r S hr hl h
  rw [List.map_id] at q
  exact q
/-- what fits is transitive -/
theorem trans_blocks {b : Bool} : ∀ {Ss : List (List Nat)}, Ss.Pairwise (cross rel b) → Ss.flatten.Nodup → (∀ B ∈ Ss, ∀ x ∈ B, ∀ y ∈ B, ∀ z ∈ B, rel x y = true → rel y z = true → rel x z = true) →
    ∀ x ∈ Ss.flatten, ∀ y ∈ Ss.flatten, ∀ z ∈ Ss.flatten, rel x y = true → rel y z = true → rel x z = true
  | [], _, _, _ => fun x hx => by cases hx
  | B :: Ss, hc, nd, h => by
    obtain ⟨c1, c2⟩ := List.pairwise_cons.mp hc
    rw [List.flatten_cons] at nd ⊢
    have ih := trans_blocks c2 ((List.nodup_append.mp nd).2.1) fun C hC => h C (List.mem_cons_of_mem _ hC)
    have fw : ∀ x ∈ B, ∀ y ∈ Ss.flatten, rel x y = !b ∧ rel y x = false := fun x hx y hy => by
      obtain ⟨C, hC, hy'⟩ := List.mem_flatten.mp hy
      exact c1 C hC x hx y hy'
    intro x hx y hy z hz h1 h2
    rcases List.mem_append.mp hx with hx | hx
    · rcases List.mem_append.mp hy with hy | hy
      · rcases List.mem_append.mp hz with hz | hz
        · exact h B List.mem_cons_self x hx y hy z hz h1 h2
        · rw [(fw x hx z hz).1]
          rw [(fw y hy z hz).1] at h2
          exact h2
      · rcases List.mem_append.mp hz with hz | hz
        · rw [(fw z hz y hy).2] at h2
          cases h2
        · rw [(fw x hx z hz).1]
          rw [(fw x hx y hy).1] at h1
          exact h1
    · rcases List.mem_append.mp hy with hy | hy
      · rw [(fw y hy x hx).2] at h1
        cases h1
      · rcases List.mem_append.mp hz with hz | hz
        · rw [(fw z hz y hy).2] at h2
          cases h2
        · exact ih x hx y hy z hz h1 h2
mutual
theorem fits_trans : ∀ (r : R) (S : List Nat), S.Nodup → Fits rel lab r S → ∀ x ∈ S, ∀ y ∈ S, ∀ z ∈ S, rel x y = true → rel y z = true → rel x z = true
  | .nothing, S, _, h => by
    rw [Fits] at h
    rw [h]
    exact fun x hx => by cases hx
  | .step n, S, _, h => by
    rw [Fits] at h
    obtain ⟨i, rfl, _⟩ := h
    intro x hx y hy z hz h1 h2
    rw [List.mem_singleton] at hx hy hz
    subst hx hy hz
    exact h1
  | .node b rs, S, nd, h => by
    rw [Fits] at h
    obtain ⟨Ss, p, h1, h2⟩ := h
    have nd' := p.nodup_iff.mp nd
    have q := trans_blocks h2 nd' (fitsL_trans rs Ss nd' h1)
    exact fun x hx y hy z hz => q x (p.mem_iff.mp hx) y (p.mem_iff.mp hy) z (p.mem_iff.mp hz)
theorem fitsL_trans : ∀ (rs : List R) (Ss : List (List Nat)), Ss.flatten.Nodup → FitsL rel lab rs Ss → ∀ B ∈ Ss, ∀ x ∈ B, ∀ y ∈ B, ∀ z ∈ B, rel x y = true → rel y z = true → rel x z = true
  | [], Ss, _, h => by
    rw [FitsL] at h
    rw [h]
    exact fun B hB => by cases hB
  | r :: rs, Ss, nd, h => by
    rw [FitsL] at h
    obtain ⟨S, T, rfl, h1, h2⟩ := h
    rw [List.flatten_cons] at nd
    obtain ⟨n1, n2, _⟩ := List.nodup_append.mp nd
    intro B hB
    rcases List.mem_cons.mp hB with rfl | hB
    · exact fits_trans r B n1 h1
    · exact fitsL_trans rs T n2 h2 B hB
end
end
/-- pairs in numbers below n -/
theorem len_of_sub {α : Type} [DecidableEq α] : ∀ {l zs : List α}, l.Nodup → (∀ k ∈ l, k ∈ zs) → l.length ≤ zs.length
  | [], zs, _, _ => Nat.zero_le _
  | k :: l, zs, nd, h => by
    obtain ⟨h1, h2⟩ := List.nodup_cons.mp nd
    have hk := h k List.mem_cons_self
    have p := List.perm_cons_erase hk
    have q := len_of_sub (l := l) (zs := zs.erase k) h2 fun x hx => (List.mem_erase_of_ne (show x ≠ k from fun e => h1 (e ▸ hx))).mpr (h x (List.mem_cons_of_mem _ hx))
    have e := p.length_eq
    rw [List.length_cons] at e ⊢
    omega
theorem pairs_len {n : Nat} {ps : List (Nat × Nat)} (nd : ps.Nodup) (h : ∀ p ∈ ps, p.1 < n ∧ p.2 < n) : ps.length ≤ n * n := by
  have q : ps.length ≤ ((List.range n).flatMap fun i => (List.range n).map fun j => (i, j)).length := len_of_sub nd fun p hp => by
    obtain ⟨h1, h2⟩ := h p hp
    exact List.mem_flatMap.mpr ⟨p.1, List.mem_range.mpr h1, List.mem_map.mpr ⟨p.2, List.mem_range.mpr h2, rfl⟩⟩
  refine Nat.le_trans q (Nat.le_of_eq ?_)
  rw [List.length_flatMap]
  have e : ((List.range n).map fun a => ((List.range n).map fun j => (a, j)).length) = (List.range n).map fun _ => n := List.map_congr_left fun a _ => by rw [List.length_map, List.length_range]
  rw [e, List.map_const', List.length_range, List.sum_replicate_nat]
theorem across_nodup (k p n : Nat) : (across k p n).Nodup := by
  unfold across
  refine List.pairwise_flatMap.mpr ⟨fun a _ => ?_, ?_⟩
  · refine List.pairwise_map.mpr ((List.nodup_range' : (List.range' p n).Nodup).imp fun {x y} h e => h (Prod.mk.inj e).2)
  · refine (List.nodup_range' : (List.range' k (p - k)).Nodup).imp fun {x y} h => ?_
    intro u hu v hv e
    obtain ⟨_, _, rfl⟩ := List.mem_map.mp hu
    obtain ⟨_, _, rfl⟩ := List.mem_map.mp hv
    exact h (Prod.mk.inj e).1
mutual
theorem prs_lt : ∀ (r : R) (k i j : Nat), (i, j) ∈ prs r k → i < j
  | .nothing, k, i, j, h => by rw [prs] at h; cases h
  | .step _, k, i, j, h => by rw [prs] at h; cases h
  | .node b rs, k, i, j, h => by rw [prs] at h; exact prsL_lt b rs k k i j (Nat.le_refl _) h
theorem prsL_lt (b : Bool) : ∀ (rs : List R) (k p i j : Nat), k ≤ p → (i, j) ∈ prsL b rs k p → i < j
  | [], k, p, i, j, _, h => by rw [prsL] at h; cases h
  | r :: rs, k, p, i, j, hk, h => by
    rw [prsL] at h
    rcases List.mem_append.mp h with h | h
    · cases b with
      | true => cases h
      | false =>
        have q := (mem_across (n := size r) hk).mp h
        omega
    · rcases List.mem_append.mp h with h | h
      · exact prs_lt r p i j h
      · exact prsL_lt b rs k (p + size r) i j (by omega) h
end
mutual
theorem prs_nodup : ∀ (r : R) (k : Nat), (prs r k).Nodup
  | .nothing, k => by rw [prs]; exact .nil
  | .step _, k => by rw [prs]; exact .nil
  | .node b rs, k => by rw [prs]; exact prsL_nodup b rs k k (Nat.le_refl _)
theorem prsL_nodup (b : Bool) : ∀ (rs : List R) (k p : Nat), k ≤ p → (prsL b rs k p).Nodup
  | [], k, p, _ => by rw [prsL]; exact .nil
  | r :: rs, k, p, hk => by
    rw [prsL]
    refine List.nodup_append.mpr ⟨?_, List.nodup_append.mpr ⟨prs_nodup r p, prsL_nodup b rs k (p + size r) (by omega), ?_⟩, ?_⟩
    · cases b with
      | true => exact .nil
      | false => exact across_nodup k p (size r)
    · rintro ⟨x1, x2⟩ hx ⟨y1, y2⟩ hy e
      obtain ⟨rfl, rfl⟩ := Prod.mk.inj e
      have a := prs_bd r p _ _ hx
      have c := prsL_bd b rs k (p + size r) _ _ (by omega) hy
      omega
    · rintro ⟨x1, x2⟩ hx ⟨y1, y2⟩ hy e
      obtain ⟨rfl, rfl⟩ := Prod.mk.inj e
      cases b with
      | true => cases hx
      | false =>
        have a := (mem_across (n := size r) hk).mp hx
        rcases List.mem_append.mp hy with hy | hy
        · have c := prs_bd r p _ _ hy
          omega
        · have c := prsL_bd false rs k (p + size r) _ _ (by omega) hy
          omega
end
mutual
/-- how many pairs -/
def cR : R → Nat
  | .nothing => 0
  | .step _ => 0
  | .node b rs => cL b rs
def cL (b : Bool) : List R → Nat
  | [] => 0
  | r :: rs => cR r + cL b rs + (if b = true then 0 else size r * sizeL rs)
end
mutual
theorem prs_cnt : ∀ (r : R) (k : Nat), (prs r k).length = cR r
  | .nothing, k => by rw [prs, cR]; rfl
  | .step _, k => by rw [prs, cR]; rfl
  | .node b rs, k => by
    rw [prs, cR, prsL_cnt b rs k k (Nat.le_refl _), Nat.sub_self, Nat.zero_mul]
    cases b <;> simp
theorem prsL_cnt (b : Bool) : ∀ (rs : List R) (k p : Nat), k ≤ p → (prsL b rs k p).length = (if b = true then 0 else (p - k) * sizeL rs) + cL b rs
  | [], k, p, _ => by
    rw [prsL, cL, sizeL]
    cases b <;> rfl
  | r :: rs, k, p, hk => by
    obtain ⟨d, rfl⟩ := Nat.exists_eq_add_of_le hk
    rw [prsL, List.length_append, List.length_append, prs_cnt r (k + d), prsL_cnt b rs k (k + d + size r) (by omega), cL, sizeL]
    cases b with
    | true => simp
    | false =>
      simp only [Bool.false_eq_true, if_false]
      rw [across_len, show k + d - k = d by omega, show k + d + size r - k = d + size r by omega, Nat.add_mul, Nat.mul_add]
      omega
end
theorem cL_append (b : Bool) : ∀ xs ys : List R, cL b (xs ++ ys) = cL b xs + cL b ys + (if b = true then 0 else sizeL xs * sizeL ys)
  | [], ys => by
    rw [List.nil_append, cL, sizeL]
    cases b <;> simp
  | x :: xs, ys => by
    rw [List.cons_append, cL, cL, cL_append b xs ys, sizeL, sizeL_append]
    cases b with
    | true => simp; omega
    | false =>
      simp only [Bool.false_eq_true, if_false]
      rw [Nat.mul_add, Nat.add_mul]
      omega
theorem cL_parts (r : R) : cL false (parts false r) = cR r := by
  cases r with
  | nothing => rfl
  | step n =>
    show cL false [.step n] = _
    rw [cL, cL, sizeL]
    simp
  | node c rs =>
    rw [parts_node]
    cases c with
    | false => rw [if_pos rfl, cR]
    | true =>
      rw [if_neg (by decide), cL, cL, sizeL]
      simp
theorem cR_finish : ∀ rs : List R, cR (finish false rs) = cL false rs
  | [] => by rw [cL]; show cR .nothing = 0; rw [cR]
  | [r] => by
    rw [cL, cL, sizeL]
    show cR r = _
    simp
  | r :: t :: rs => by rw [finish_many (by simp)]; rw [cR]
theorem cR_behind (r t : R) : cR (joined false [r, t]) = cR r + cR t + size r * size t := by
  unfold joined ordered
  rw [if_neg (by decide), cR_finish]
  rw [List.flatMap_cons, List.flatMap_cons, List.flatMap_nil, List.append_nil, cL_append, cL_parts, cL_parts, sizeL_parts, sizeL_parts]
  simp
/-- n places, named by lab, and pairs ps: they lay out r -/
structure Lay (r : R) (ns : List Str) (ps : List (Nat × Nat)) : Prop where
  sz : size r = ns.length
  nd : ps.Nodup
  ok : ∀ p ∈ ps, p.1 < ns.length ∧ p.2 < ns.length ∧ p.1 ≠ p.2
  fit : Fits (relOf ps) (fun i => ns.getD i (Str.ofString "")) r (List.range ns.length)
section
variable {r t : R} {ns ms : List Str} {ps qs zs : List (Nat × Nat)}
theorem relOf_iff {x y : Nat} : relOf ps x y = true ↔ (x, y) ∈ ps := by
  unfold relOf
  exact decide_eq_true_iff
theorem Lay.tr (L : Lay r ns ps) : ∀ x y z, (x, y) ∈ ps → (y, z) ∈ ps → (x, z) ∈ ps := fun x y z h1 h2 => by
  have a := L.ok _ h1
  have c := L.ok _ h2
  exact relOf_iff.mp (fits_trans r _ List.nodup_range L.fit x (List.mem_range.mpr a.1) y (List.mem_range.mpr a.2.1) z (List.mem_range.mpr c.2.1) (relOf_iff.mpr h1) (relOf_iff.mpr h2))
theorem Lay.len (L : Lay r ns ps) (h : ns.length ≤ 30) : ps.length ≤ 900 := by
  have a := pairs_len L.nd fun p hp => ⟨(L.ok p hp).1, (L.ok p hp).2.1⟩
  have b : ns.length * ns.length ≤ 30 * 30 := Nat.mul_le_mul h h
  omega
theorem Lay.lab (_ : Lay r ns ps) : ∀ i < ns.length, ns[i]? = some (ns.getD i (Str.ofString "")) := fun i hi => by
  rw [List.getD_eq_getElem?_getD, List.getElem?_eq_getElem hi]
  rfl
theorem rel_eq {x y : Nat} (h : (x, y) ∈ zs ↔ (x, y) ∈ ps) : relOf zs x y = relOf ps x y := by
  unfold relOf
  by_cases q : (x, y) ∈ ps
  · rw [decide_eq_true q, decide_eq_true (h.mpr q)]
  · rw [decide_eq_false q, decide_eq_false fun z => q (h.mp z)]
theorem Lay.perm (L : Lay r ns ps) (p : zs.Perm ps) : Lay r ns zs :=
  ⟨L.sz, p.nodup_iff.mpr L.nd, fun q hq => L.ok q (p.mem_iff.mp hq), fits_same L.fit (fun x _ y _ => rel_eq p.mem_iff) fun _ _ => rfl⟩
/-- what order_of gives -/
theorem lay_prs (r : R) : Lay r (names r) (prs r 0) := by
  have e : (names r).length = size r := names_len r
  refine ⟨e.symm, prs_nodup r 0, ?_, ?_⟩
  · rintro ⟨i, j⟩ h
    have a := prs_bd r 0 _ _ h
    have c := prs_lt r 0 _ _ h
    rw [e]
    exact ⟨by show i < size r; omega, by show j < size r; omega, by show i ≠ j; omega⟩
  · rw [e, List.range_eq_range']
    refine fits_prs r 0 (fun i j _ _ => relOf_iff) fun i hi => ?_
    rw [Nat.zero_add, List.getD_eq_getElem?_getD, List.getElem?_eq_getElem (by omega)]
    rfl
/-- turned -/
theorem lay_turned (L : Lay r ns ps) (ok : Ok r) : Lay (turned r) ns (ps.map fun p => (p.2, p.1)) := by
  refine ⟨(turned_part r ok).2.2.trans L.sz, ?_, ?_, ?_⟩
  · refine List.pairwise_map.mpr (L.nd.imp fun {p q} h e => h ?_)
    obtain ⟨e1, e2⟩ := Prod.mk.inj e
    exact Prod.ext e2 e1
  · rintro q hq
    obtain ⟨p, hp, rfl⟩ := List.mem_map.mp hq
    obtain ⟨a, b, c⟩ := L.ok p hp
    exact ⟨b, a, c.symm⟩
  · refine fits_same (fits_turned r _ L.fit) (fun x _ y _ => ?_) fun _ _ => rfl
    unfold relOf
    by_cases q : (y, x) ∈ ps
    · rw [decide_eq_true q, decide_eq_true (List.mem_map.mpr ⟨_, q, rfl⟩)]
    · rw [decide_eq_false q, decide_eq_false fun z => ?_]
      obtain ⟨p, hp, e⟩ := List.mem_map.mp z
      obtain ⟨e1, e2⟩ := Prod.mk.inj e
      exact q (by rw [← e1, ← e2]; exact hp)
/-- two of them, behind (b = false) or beside one another -/
theorem lay_two {b : Bool} (L1 : Lay r ns ps) (L2 : Lay t ms qs) (nd : zs.Nodup)
    (hz : ∀ x y, (x, y) ∈ zs ↔ (x, y) ∈ ps ∨ (∃ p ∈ qs, x = p.1 + ns.length ∧ y = p.2 + ns.length) ∨ (b = false ∧ x < ns.length ∧ ns.length ≤ y ∧ y < ns.length + ms.length)) : Lay (joined b [r, t]) (ns ++ ms) zs := by
  have el : (ns ++ ms).length = ns.length + ms.length := List.length_append
  refine ⟨?_, nd, ?_, ?_⟩
  · rw [size_joined, sizeL, sizeL, sizeL, L1.sz, L2.sz, el]
    omega
  · rintro ⟨x, y⟩ h
    rw [el]
    rcases (hz x y).mp h with h | ⟨p, hp, rfl, rfl⟩ | ⟨_, h1, h2, h3⟩
    · obtain ⟨a, b, c⟩ := L1.ok _ h
      exact ⟨by show x < _; omega, by show y < _; omega, c⟩
    · obtain ⟨a, b, c⟩ := L2.ok _ hp
      exact ⟨by show p.1 + ns.length < _; omega, by show p.2 + ns.length < _; omega, by show p.1 + ns.length ≠ p.2 + ns.length; omega⟩
    · exact ⟨by show x < _; omega, by show y < _; omega, by show x ≠ y; omega⟩
  · have f1 : Fits (relOf zs) (fun i => (ns ++ ms).getD i (Str.ofString "")) r (List.range ns.length) := by
      refine fits_same L1.fit (fun x hx y hy => rel_eq ?_) fun x hx => ?_
      · have h1 := List.mem_range.mp hx
        have h2 := List.mem_range.mp hy
        refine (hz x y).trans ⟨fun q => ?_, .inl⟩
        rcases q with q | ⟨p, hp, e1, e2⟩ | ⟨_, _, q, _⟩
        · exact q
        · omega
        · omega
      · have h1 := List.mem_range.mp hx
        show (ns ++ ms).getD x _ = ns.getD x _
        rw [List.getD_eq_getElem?_getD, List.getD_eq_getElem?_getD, List.getElem?_append_left h1]
    have f2 : Fits (relOf zs) (fun i => (ns ++ ms).getD i (Str.ofString "")) t ((List.range ms.length).map (· + ns.length)) := by
      refine fits_map t _ (fun x hx y hy => ?_) (fun x hx => ?_) L2.fit
      · have h1 := List.mem_range.mp hx
        have h2 := List.mem_range.mp hy
        have iff1 : (x + ns.length, y + ns.length) ∈ zs ↔ (x, y) ∈ qs := by
          refine (hz _ _).trans ⟨fun q => ?_, fun q => .inr (.inl ⟨(x, y), q, rfl, rfl⟩)⟩
          rcases q with q | ⟨p, hp, e1, e2⟩ | ⟨_, q, _⟩
          · have := (L1.ok _ q).1
            dsimp only at this
            omega
          · have e : p = (x, y) := Prod.ext (by show p.1 = x; omega) (by show p.2 = y; omega)
            rw [← e]
            exact hp
          · omega
        show relOf zs (x + ns.length) (y + ns.length) = relOf qs x y
        unfold relOf
        by_cases q : (x, y) ∈ qs
        · rw [decide_eq_true q, decide_eq_true (iff1.mpr q)]
        · rw [decide_eq_false q, decide_eq_false fun z => q (iff1.mp z)]
      · show (ns ++ ms).getD (x + ns.length) _ = ms.getD x _
        rw [List.getD_eq_getElem?_getD, List.getD_eq_getElem?_getD, List.getElem?_append_right (by omega), Nat.add_sub_cancel]
    have cr : cross (relOf zs) b (List.range ns.length) ((List.range ms.length).map (· + ns.length)) := by
      intro x hx y hy
      have h1 := List.mem_range.mp hx
      obtain ⟨y', hy', rfl⟩ := List.mem_map.mp hy
      have h2 := List.mem_range.mp hy'
      have no : ¬ (y' + ns.length, x) ∈ zs := fun q => by
        rcases (hz _ _).mp q with q | ⟨p, hp, e1, e2⟩ | ⟨_, q, _⟩
        · have := (L1.ok _ q).1
          dsimp only at this
          omega
        · omega
        · omega
      refine ⟨?_, by unfold relOf; exact decide_eq_false no⟩
      cases b with
      | false => exact relOf_iff.mpr ((hz _ _).mpr (.inr (.inr ⟨rfl, h1, by omega, by omega⟩)))
      | true =>
        unfold relOf
        refine decide_eq_false fun q => ?_
        rcases (hz _ _).mp q with q | ⟨p, hp, e1, e2⟩ | ⟨q, _⟩
        · have := (L1.ok _ q).2.1
          dsimp only at this
          omega
        · omega
        · cases q
    have q := fits_joined (b := b) (rs := [r, t]) (Ss := [List.range ns.length, (List.range ms.length).map (· + ns.length)]) (by
      rw [FitsL]
      refine ⟨_, _, rfl, f1, ?_⟩
      rw [FitsL]
      refine ⟨_, _, rfl, f2, ?_⟩
      rw [FitsL]) (List.pairwise_cons.mpr ⟨fun B hB => by rw [List.mem_singleton.mp hB]; exact cr, List.pairwise_singleton _ _⟩)
    rw [el, List.range_add]
    have e : ([List.range ns.length, (List.range ms.length).map (· + ns.length)] : List (List Nat)).flatten = List.range ns.length ++ (List.range ms.length).map (ns.length + ·) := by
      rw [List.flatten_cons, List.flatten_cons, List.flatten_nil, List.append_nil]
      congr 1
      exact List.map_congr_left fun x _ => Nat.add_comm _ _
    rw [← e]
    exact q
end
end Fk

set_option Elab.async false
set_option linter.all false
set_option maxRecDepth 100000
/-! The pairs of the law. -/
namespace Fk
open PySem
section
variable {r t : R} {ns ms : List Str} {ps qs zs : List (Nat × Nat)}
theorem mem_shift {m x y : Nat} : (x, y) ∈ shift m qs ↔ ∃ p ∈ qs, x = p.1 + m ∧ y = p.2 + m := by
  unfold shift
  rw [List.mem_map]
  constructor
  · rintro ⟨p, hp, e⟩
    obtain ⟨e1, e2⟩ := Prod.mk.inj e
    exact ⟨p, hp, e1.symm, e2.symm⟩
  · rintro ⟨p, hp, rfl, rfl⟩
    exact ⟨p, hp, rfl⟩
theorem shift_len (m : Nat) (qs : List (Nat × Nat)) : (shift m qs).length = qs.length := by
  unfold shift
  rw [List.length_map]
theorem every_nodup (L1 : Lay r ns ps) (L2 : Lay t ms qs) : (ps ++ shift ns.length qs).Nodup := by
  refine List.nodup_append.mpr ⟨L1.nd, ?_, ?_⟩
  · refine List.pairwise_map.mpr (L2.nd.imp fun {p q} h e => h ?_)
    obtain ⟨e1, e2⟩ := Prod.mk.inj e
    exact Prod.ext (by omega) (by omega)
  · rintro ⟨x, y⟩ h1 ⟨x', y'⟩ h2 e
    obtain ⟨rfl, rfl⟩ := Prod.mk.inj e
    obtain ⟨p, hp, e1, _⟩ := mem_shift.mp h2
    have := (L1.ok _ h1).1
    dsimp only at this
    omega
theorem lay_beside (L1 : Lay r ns ps) (L2 : Lay t ms qs) : Lay (joined true [r, t]) (ns ++ ms) (ps ++ shift ns.length qs) :=
  lay_two L1 L2 (every_nodup L1 L2) fun x y => by
    rw [List.mem_append, mem_shift]
    exact ⟨fun h => h.elim .inl fun q => .inr (.inl q), fun h => h.elim .inl fun h => h.elim .inr fun z => absurd z.1 (by decide)⟩
theorem lay_behind (L1 : Lay r ns ps) (L2 : Lay t ms qs) : Lay (joined false [r, t]) (ns ++ ms) ((ps ++ shift ns.length qs) ++ across 0 ns.length ms.length) := by
  refine lay_two L1 L2 (List.nodup_append.mpr ⟨every_nodup L1 L2, across_nodup _ _ _, ?_⟩) fun x y => ?_
  · rintro ⟨x, y⟩ h1 ⟨x', y'⟩ h2 e
    obtain ⟨rfl, rfl⟩ := Prod.mk.inj e
    have a := (mem_across (Nat.zero_le _)).mp h2
    rcases List.mem_append.mp h1 with h1 | h1
    · have := (L1.ok _ h1).2.1
      dsimp only at this
      omega
    · obtain ⟨p, hp, e1, _⟩ := mem_shift.mp h1
      omega
  · rw [List.mem_append, List.mem_append, mem_shift, mem_across (Nat.zero_le _), or_assoc]
    refine or_congr Iff.rfl (or_congr Iff.rfl ⟨fun h => ⟨rfl, h.1.2, h.2.1, h.2.2⟩, fun h => ⟨⟨Nat.zero_le _, h.2.1⟩, h.2.2.1, h.2.2.2⟩⟩)
/-- one row of the pairs across -/
def acr (i m n : Nat) : List (Nat × Nat) := (List.range i).flatMap fun a => (List.range' m n).map fun c => (a, c)
theorem acr_succ (i m n : Nat) : acr (i + 1) m n = acr i m n ++ (List.range' m n).map fun c => (i, c) := by
  unfold acr
  rw [List.range_succ, List.flatMap_append, List.flatMap_cons, List.flatMap_nil, List.append_nil]
theorem acr_all (m n : Nat) : acr m m n = across 0 m n := by
  unfold acr across
  rw [Nat.sub_zero, List.range_eq_range']
theorem acr_len (i m n : Nat) : (acr i m n).length = i * n := by
  induction i with
  | zero => rw [Nat.zero_mul]; rfl
  | succ i ih => rw [acr_succ, List.length_append, ih, List.length_map, List.length_range', Nat.add_mul, Nat.one_mul]
end
end Fk

set_option Elab.async false
set_option linter.all false
set_option maxRecDepth 100000
/-! Rules: t.count(text); repr of a dict of counts. -/
namespace Fk
open PySem PySem.Spec PyProof.Rows L2 LamX
theorem count_eqU {k : Str} : ∀ {ys : List Str} {us : List Value}, Vals (ys.map V.str) us → us.countP (eqU (.str k)) = ys.count k
  | [], _, .nil => rfl
  | y :: ys, _, .cons r t => by
    obtain ⟨u, rfl⟩ := r
    have ih := count_eqU (k := k) t
    rw [List.countP_cons, List.count_cons, ih]
    rfl
section
variable {X : Cx}
/-- t.count(text) of a tuple of texts -/
theorem mt_tcount : MtR X "tuple.count" (fun x xs H Q => ∃ p, ∃ ys : List Str, ∃ z, x = .ref p ∧ xs = [.str z] ∧ SqT X.K H p (ys.map V.str) ∧ Q (.int (ys.count z : Nat)) H) := by
  intro pins s σ H x xs v us Q I rx rs h
  obtain ⟨p, ys, z, rfl, rfl, hq, q⟩ := h
  cases rx
  obtain ⟨u, rfl, t, rfl⟩ := vals1 rs
  obtain ⟨its, r, pl, hz⟩ := I.tuple hq
  obtain ⟨⟨cls, dd, dt, sl⟩, ho, hc, n, hd⟩ := pl
  simp only at hc hd
  subst hc
  subst hd
  refine call_meets PySem.F.slot_tuple_count ⟨_, ho, rfl⟩ PySem.F.entry_tuple_count (PySem.F.args_tuple_count_2 _ _) (SeqAt.tuple_countAt p its.toArray n dd sl (.str z t) (eqU (.str z)))
    ⟨ho, fun w hw => mem_eqAt (x := .str z) ⟨t, rfl⟩ rfl r (flat_strs ys) w (by simpa using hw), .int (ys.count z : Nat), H, I.tok _, ⟨s.toks, ?_⟩, q⟩
  show Value.int ((its.countP (eqU (.str z)) : Nat) : Int) s.toks = _
  rw [count_eqU r]
/-- a dict of counts as it is shown -/
def shownT (l : List (Str × Nat)) : PyData := .dict (l.map fun p => (.str p.1, .int (p.2 : Nat)))
theorem pairs_read {P : Program} {w : World} {h : Heap} : ∀ {l : List (Str × Nat)} {vs : List (Key × Value)} {es : List DictEntry}, KV (l.map fun p => ((.inr p.1 : Key), V.int (p.2 : Nat))) vs → Pairs (mixKind P w) es vs →
    ReadsAll h (es.map (·.key)) (l.map fun p => PyData.str p.1) [] ∧ ReadsAll h (es.map (·.val)) (l.map fun p => PyData.int (p.2 : Nat)) []
  | [], _, _, .nil, .nil => ⟨.nil, .nil⟩
  | p :: l, _, _, .cons (b := q) ⟨h1, h2⟩ t, .cons (e := e) k1 k2 k3 => by
    obtain ⟨a1, a2⟩ := pairs_read (h := h) t k3
    obtain ⟨u, hu⟩ : ∃ u, e.key = .str p.1 u := by
      have k1' : keyIs q.1 e.key = true := k1
      rw [← h1] at k1'
      exact Value.isStrOf_shape k1'
    obtain ⟨u2, hu2⟩ := h2
    refine ⟨?_, ?_⟩
    · rw [List.map_cons, List.map_cons, hu]
      exact .cons (as := []) (.str p.1 u) a1
    · rw [List.map_cons, List.map_cons, k2, hu2]
      exact .cons (as := []) (.int _ u2) a2
end
end Fk
namespace Fk
open PySem PySem.Spec PyProof.Rows L2 LamX
theorem int_short : ∀ n : Fin 65, (PyData.shown (.int (n.val : Nat))).length ≤ 8 ∧ PyData.weight (.int (n.val : Nat)) ≤ 8 := by decide +kernel
theorem shownT_small : ∀ {l : List (Str × Nat)}, (∀ p ∈ l, isName p.1 ∧ p.2 ≤ 64) → PyData.leavesShortKv 8 (l.map fun p => (PyData.str p.1, PyData.int (p.2 : Nat))) = true ∧ PyData.weightKv (l.map fun p => (PyData.str p.1, PyData.int (p.2 : Nat))) ≤ 16 * l.length ∧
    PyData.showableKv (l.map fun p => (PyData.str p.1, PyData.int (p.2 : Nat))) = true ∧ PyData.depthKv (l.map fun p => (PyData.str p.1, PyData.int (p.2 : Nat))) ≤ 1
  | [], _ => ⟨rfl, Nat.le_refl _, rfl, Nat.zero_le _⟩
  | p :: l, h => by
    obtain ⟨a1, a2, a3, a4⟩ := shownT_small (l := l) fun q hq => h q (List.mem_cons_of_mem _ hq)
    obtain ⟨⟨n1, n2, n3⟩, h2⟩ := h p List.mem_cons_self
    obtain ⟨b1, b2⟩ := int_short ⟨p.2, by omega⟩
    have c1 : PyData.leavesShort 8 (.str p.1) = true := by
      show (p.1.cps.toList.all fun c => decide (c < 16 ^ 8)) = true
      refine List.all_eq_true.mpr fun c hc => decide_eq_true ?_
      have hm := n3 c hc
      have q : ∀ c ∈ letters.cps.toList, c < 16 ^ 8 := by decide +kernel
      exact q c hm
    have c2 : PyData.leavesShort 8 (.int (p.2 : Nat)) = true := decide_eq_true b1
    have c3 : PyData.showable (.int (p.2 : Nat)) = true := by
      show decide (((p.2 : Nat) : Int).natAbs.log2 < 1920) = true
      refine decide_eq_true ?_
      have e : (((p.2 : Nat) : Int)).natAbs = p.2 := Int.natAbs_natCast _
      rw [e]
      exact Nat.lt_of_le_of_lt (Nat.log2_le_self _) (by omega)
    have c4 : PyData.weight (.str p.1) ≤ 6 := n2
    refine ⟨?_, ?_, ?_, ?_⟩
    · show (PyData.leavesShort 8 (.str p.1) && PyData.leavesShort 8 (.int (p.2 : Nat)) && PyData.leavesShortKv 8 _) = true
      rw [c1, c2, a1]
      rfl
    · show PyData.weight (.str p.1) + PyData.weight (.int (p.2 : Nat)) + 2 + PyData.weightKv _ ≤ _
      have b2' : PyData.weight (.int (p.2 : Nat)) ≤ 8 := b2
      rw [List.length_cons]
      omega
    · show (PyData.showable (.str p.1) && PyData.showable (.int (p.2 : Nat)) && PyData.showableKv _) = true
      rw [c3, a3]
      rfl
    · show max (max (PyData.depth (.str p.1)) (PyData.depth (.int (p.2 : Nat)))) (PyData.depthKv _) ≤ 1
      have e1 : PyData.depth (.str p.1) ≤ 1 := by simp [PyData.depth]
      have e2 : PyData.depth (.int (p.2 : Nat)) ≤ 1 := by simp [PyData.depth]
      omega
section
variable {X : Cx}
/-- the table of counts -/
def tabCn (l : List (Str × Nat)) : List (Key × V) := l.map fun p => ((.inr p.1 : Key), V.int (p.2 : Nat))
/-- repr of a dict of counts, fewer than 65 names -/
def rReprT : List V → Hp → VK → Prop := fun xs H Q => ∃ (a : Addr) (l : List (Str × Nat)), xs = [.ref a] ∧ Rd H a (.dK (tabCn l)) ∧ l.length ≤ 64 ∧ (∀ p ∈ l, isName p.1 ∧ p.2 ≤ 64) ∧ Q (.str (shownT l).shown) H
theorem call_reprT (hg : X.A.guards = some []) (hu : X.A.units + 4 < cLine) : CallR X (.builtin "repr") rReprT := by
  intro pins s σ H xs us Q I r h
  obtain ⟨a, l, rfl, hd, hl, hp, q⟩ := h
  obtain rfl := Vals.ref1 r
  obtain ⟨z, lo, vs, rel, o, es, ep, ho, hex, hda, hk, prs, nd⟩ := dk_rd I.hok hd
  obtain ⟨r1, r2⟩ := pairs_read (h := s.heap) rel prs
  obtain ⟨s1, s2, s3, s4⟩ := shownT_small hp
  have R : Reads s.heap (.ref a) (shownT l) (a :: [] ++ []) := by
    refine .dict ho hex.1 hda ?_ ?_
    · rw [List.map_map]
      exact r1
    · rw [List.map_map]
      exact r2
  have hlen : (shownT l).shown.length ≤ sizeLine := by
    have w1 := PyData.shown_le 8 (Nat.le_refl _) (shownT l) s1
    have w2 : (shownT l).weight ≤ 16 * l.length := s2
    rw [sizeLine_eq]
    omega
  have hdep : (shownT l).depth ≤ 2 := by
    show PyData.depthKv _ + 1 ≤ 2
    omega
  refine repr_of_reads' R s3 (fun _ hm => ?_) hg (by omega) (fun _ _ e => e) (fun h' u tk hkp => ?_) hlen
  · have e : sysModules = a := by simpa using hm
    rw [e] at lo
    simp at lo
  · exact ⟨.str (shownT l).shown, H, I.kept hkp, ⟨_, rfl⟩, q⟩
end
end Fk

set_option Elab.async false
set_option linter.all false
set_option maxRecDepth 100000
set_option maxHeartbeats 3200000
/-! Rules: set(t) of a tuple of texts, sorted(set). -/
namespace Fk
open PySem PySem.Spec PyProof.Rows L2 LamX PySem.Froz
/-- a set of the texts l at a -/
def SetS (P : Program) (w : World) (h : Heap) (a : Addr) (l : List Str) : Prop := ∃ D : SD, h.get? a = some (sObj "set" D) ∧ TxOk P w D l ∧ Ris D.2.2.place.toList ∧ (w.params.followText "set-order" = true ∨ D.2.2.led = true)
theorem SetS.at {P : Program} {w : World} {h h' : Heap} {a : Addr} {l : List Str} (S : SetS P w h a l) (k : ∀ o, h.get? a = some o → h'.get? a = some o) : SetS P w h' a l :=
  let ⟨D, ho, r⟩ := S; ⟨D, k _ ho, r⟩
theorem tailTx_ris {ep : Nat} {es1 : Array (Int × Value)} {t2 : SetTable} {wd : Bool} (r : Ris t2.place.toList) : Ris (tailTx ep es1 t2 wd).2.2.place.toList ∧ (tailTx ep es1 t2 wd).2.2.led = t2.led := by
  unfold tailTx
  split
  · exact ⟨relayAll_ris _ _ _, relayAll_led _ _ _⟩
  · exact ⟨r, rfl⟩
theorem addTx_ris {h : Int} {v : Value} {D : SD} (r : Ris D.2.2.place.toList) : Ris (addTx h v D).2.2.place.toList ∧ (addTx h v D).2.2.led = D.2.2.led := by
  unfold addTx
  have r1 := layNew_ris D.2.2 D.1 h v r
  have l1 := layNew_led D.2.2 D.1 h v
  have z : Ris (if (layNew D.2.2 D.1 h v).2.1.plain = true then { (layNew D.2.2 D.1 h v).2.1 with plain := false } else (layNew D.2.2 D.1 h v).2.1).place.toList ∧
      (if (layNew D.2.2 D.1 h v).2.1.plain = true then { (layNew D.2.2 D.1 h v).2.1 with plain := false } else (layNew D.2.2 D.1 h v).2.1).led = D.2.2.led := by
    split
    · exact ⟨r1, l1⟩
    · exact ⟨r1, l1⟩
  exact ⟨(tailTx_ris z.1).1, (tailTx_ris z.1).2.trans z.2⟩
section
variable {P : Program} {w : World} {A : Around} {E : Value → Shared → Prop} {s : Shared}
theorem hit_x {a : Addr} {T : String} {D : SD} {l : List Str} {k : Str} {u : Tok} {Q : Bool → Shared → Prop} (ho : s.heap.get? a = some (sObj T D)) (F : TxOk P w D l) (hk : k ∈ l) (hb : l.length < scanBound)
    (h : Q false s) : wpAny (model P w) A (setAddHashed a (.str k u) (hashStr w k)) Q E s := by
  obtain ⟨es, ep, t⟩ := D
  have hd : (sObj T (es, ep, t)).data = .set es ep t := rfl
  have hf : t.fits es.size = true := F.fit
  have hel : ElemsOf (strKind P w) es.toList := F.el
  have hsz : es.size = l.length := F.sz
  have hb0 : es.size < scanBound := by omega
  have hkey : (strKind P w).is k (.str k u) = true := is_str k u
  unfold setAddHashed setAddHashedIn
  refine wpAny_holding (wpAny_bind (wpAny_setState_of ho hd hf ?_))
  dsimp only
  rw [byScan_of rfl hb0 hel]
  simp only [↓reduceIte]
  unfold setAddByScan
  refine wpAny_bind ?_
  refine wpAny_bind (wpAny_rule ?_)
  refine wpAny_bind (wpAny_setScan_of (knd := strKind P w) (k := k) hkey ho hd hf hel ?_)
  cases hr : List.findIdx? (fun e => (strKind P w).is k e.2) es.toList with
  | none =>
    obtain ⟨e, he, q⟩ := (F.mem k).mp hk
    have c := List.findIdx?_eq_none_iff.mp hr e he
    rw [q] at c
    cases c
  | some j =>
    dsimp only
    exact wpAny_pure (wpAny_pure h)
/-- what is added -/
def addL (l : List Str) (k : Str) : List Str := if k ∈ l then l else k :: l
theorem setS_add {a : Addr} {l : List Str} {k : Str} {u : Tok} {Q : Bool → Shared → Prop} (S : SetS P w s.heap a l) (hb : l.length + 1 < scanBound)
    (h : ∀ h' b, Heap.SameBut a s.heap h' → SetS P w h' a (addL l k) → Q b { s with heap := h' }) : wpAny (model P w) A (setAddHashed a (.str k u) (hashStr w k)) Q E s := by
  obtain ⟨D, ho, F, r, ld⟩ := S
  by_cases hk : k ∈ l
  · refine hit_x ho F hk (by omega) ?_
    exact h s.heap false (Heap.SameBut.refl a s.heap) (by unfold addL; rw [if_pos hk]; exact ⟨D, ho, F, r, ld⟩)
  · refine add_x ho F hk hb (h _ true (Heap.SameBut.update _ a _) ?_)
    obtain ⟨r1, l1⟩ := addTx_ris (h := hashStr w k) (v := .str k u) r
    unfold addL
    rw [if_neg hk]
    exact ⟨_, get_upd _ ho rfl, add_ok u F, r1, ld.imp id fun z => by rw [l1]; exact z⟩
/-- all of them, one behind the other -/
def addAll (xs : List Str) : List Str := xs.foldl addL []
theorem addAll_take {xs : List Str} {i : Nat} {x : Str} (h : xs[i]? = some x) : addAll (xs.take (i + 1)) = addL (addAll (xs.take i)) x := by
  unfold addAll
  rw [take_snoc2 h, List.foldl_append]
  rfl
theorem addL_len (l : List Str) (x : Str) : (addL l x).length ≤ l.length + 1 := by
  unfold addL
  split
  · omega
  · exact Nat.le_refl _
theorem addAll_len (xs : List Str) : (addAll xs).length ≤ xs.length := by
  have go : ∀ (xs l : List Str), (xs.foldl addL l).length ≤ l.length + xs.length := by
    intro xs
    induction xs with
    | nil => intro l; exact Nat.le_refl _
    | cons x xs ih =>
      intro l
      have a := ih (addL l x)
      have b := addL_len l x
      rw [List.foldl_cons, List.length_cons]
      omega
  have q := go xs []
  rw [List.length_nil, Nat.zero_add] at q
  exact q
theorem addAll_mem (xs : List Str) : (addAll xs).Nodup ∧ ∀ z, z ∈ addAll xs ↔ z ∈ xs := by
  have go : ∀ (xs l : List Str), l.Nodup → (xs.foldl addL l).Nodup ∧ ∀ z, z ∈ xs.foldl addL l ↔ z ∈ l ∨ z ∈ xs := by
    intro xs
    induction xs with
    | nil => intro l h; exact ⟨h, fun z => by simp⟩
    | cons x xs ih =>
      intro l h
      have n1 : (addL l x).Nodup := by
        unfold addL
        split
        · exact h
        · rename_i hx
          exact List.nodup_cons.mpr ⟨hx, h⟩
      have m1 : ∀ z, z ∈ addL l x ↔ z ∈ l ∨ z = x := fun z => by
        unfold addL
        split
        · rename_i hx
          exact ⟨.inl, fun q => q.elim id fun e => e ▸ hx⟩
        · rw [List.mem_cons]
          exact Or.comm
      obtain ⟨a, b⟩ := ih _ n1
      refine ⟨a, fun z => (b z).trans ?_⟩
      rw [m1 z, List.mem_cons, or_assoc]
  obtain ⟨a, b⟩ := go xs [] .nil
  exact ⟨a, fun z => (b z).trans (by simp)⟩
theorem setS_fresh {h : Heap} {a : Addr} (ho : h.get? a = some { cls := .type "set", dict := none, data := .set #[] 0 (.fresh 0 0 (!w.params.followText "set-order")) }) : SetS P w h a [] :=
  ⟨(#[], 0, .fresh 0 0 (!w.params.followText "set-order")), ho, TxOk.nil (by rfl), List.Pairwise.nil, by
    show _ ∨ (!w.params.followText "set-order") = true
    cases w.params.followText "set-order"
    · exact .inr rfl
    · exact .inl rfl⟩
/-- the loop behind set(..), over texts -/
theorem set_loopS {I : Addr} {fp wr : List Addr} {G : Array GenState → Array GenState → Prop} {n : Nat} {Pv : Nat → Value → Prop} {St : Nat → Shared → Prop} {R : Result → Shared → Prop}
    (W : WalksS P w A.in1 I fp wr G n Pv St) (S : Addr) (hSf : S ∉ fp) (xs : List Str) (hn : n = xs.length) (hb : xs.length + 1 < scanBound) (hval : ∀ i v, Pv i v → ∃ k t, xs[i]? = some k ∧ v = .str k t) :
    ∀ (k i : Nat) (s : Shared), n - i = k → i ≤ n → St i s → SetS P w s.heap S (addAll (xs.take i)) →
      (∀ s', Moved (S :: wr) G s s' → SetS P w s'.heap S (addAll xs) → R (.ok (.ret .none)) s') →
      codeAny (model P w) A (.builtin "set.update.loop" ⟨[.ref S, .ref I], []⟩) R s := by
  have hSw : S ∉ wr := fun h => hSf (W.sub _ h)
  have hsub : ∀ b ∈ wr, b ∈ S :: wr := fun b hb => List.mem_cons_of_mem _ hb
  intro k
  induction k with
  | zero =>
    intro i s hk' hi hst hS hR
    refine codeAny_builtin PyProof.Rows.F.entry_set_update_loop ?_
    rw [Around.under_plainId PyProof.Rows.F.plain_set_update_loop _]
    show wpAny _ A.in1 (pyNext (.ref I) >>= _) _ _ s
    obtain rfl : i = n := by omega
    refine wpAny_bind (W.done s _ _ hst fun s' hm => ?_)
    show wpAny _ A.in1 (ret Value.none) _ _ s'
    rw [List.take_of_length_le (by omega)] at hS
    exact wpAny_pure (hR s' (hm.mono hsub) (hS.at fun o e => hm.heap S o hSw e))
  | succ k ih =>
    intro i s hk' hi hst hS hR
    have hlt : i < n := by omega
    refine codeAny_builtin PyProof.Rows.F.entry_set_update_loop ?_
    rw [Around.under_plainId PyProof.Rows.F.plain_set_update_loop _]
    show wpAny _ A.in1 (pyNext (.ref I) >>= _) _ _ s
    refine wpAny_bind (W.item i s _ _ hlt hst fun v s' hP hst' hm => ?_)
    obtain ⟨z, t, hz, rfl⟩ := hval i v hP
    have hS' := hS.at (h' := s'.heap) fun o e => hm.heap S o hSw e
    have hl := addAll_len (xs.take i)
    rw [List.length_take] at hl
    show wpAny _ A.in1 (holding [Value.str z t] (setAdd S (.str z t)) >>= _) _ _ s'
    refine wpAny_bind (wpAny_holding ?_)
    unfold setAdd
    refine wpAny_holding ?_
    refine wpAny_bind ((strKind P w).pyHash (k := z) (strKind_is _ _ _ _) ?_)
    refine setS_add (s := { s' with toks := s'.toks + 1 }) hS' (by omega) fun h' b hsb hS2 => ?_
    rw [← addAll_take hz] at hS2
    refine wpAny_pure ⟨plainId_quiet PyProof.Rows.F.plain_set_update_loop _, ih (i + 1) _ (by omega) hlt (W.frame _ s' _ _ hst' (Nat.le_succ _) fun b hb o e => ?_) hS2 fun s'' hm'' hS'' => ?_⟩
    · rw [hsb.2 b (fun h : b = S => hSf (by rw [← h]; exact hb))]; exact e
    · refine hR s'' (Moved.trans W.gtrans ((hm.mono hsub).then_heap (Nat.le_succ _) fun b o hb e => ?_) hm'') hS''
      rw [hsb.2 b (fun h : b = S => hb (by rw [h]; exact List.mem_cons_self))]; exact e
end
end Fk

set_option Elab.async false
set_option linter.all false
set_option maxRecDepth 100000
set_option maxHeartbeats 3200000
/-! Rules: set(t), sorted(set). -/
namespace Fk
open PySem PySem.Spec PyProof.Rows L2 LamX PySem.Froz
/-- the empty set as it is made -/
abbrev set0 (w : World) : Obj := { cls := .type "set", dict := none, data := .set #[] 0 (.fresh 0 0 (!w.params.followText "set-order")) }
section
variable {P : Program} {w : World} {A : Around} {E : Value → Shared → Prop} {s : Shared}
/-- what set.__init__ is to leave behind -/
def SetMade (P : Program) (w : World) (s : Shared) (l : List Str) (r : Value) (s2 : Shared) : Prop :=
  r = .none ∧ ∃ h' tk, s2 = { s with heap := h', toks := tk } ∧ SetS P w h' s.heap.objs.size l ∧ ∀ b o, s.heap.get? b = some o → h'.get? b = some o
theorem set_init_tup {l : Addr} {items : Array Value} (xs : List Str) (hh : A.handled = none) (hl : s.heap.IsTuple l items) (hit : StrsAre items.toList xs) (hb : xs.length + 1 < scanBound) :
    wpAny (model P w) A (Builtin.«set.__init__» ⟨[.ref s.heap.objs.size, .ref l], []⟩) (fun r s2 => ∃ v, r = .done (.ret v) ∧ SetMade P w s (addAll xs) v s2) E { s with heap := s.heap.push (set0 w) } := by
  have hisz : items.size = xs.length := by
    have q := StrsAre.len_eq hit
    rw [Array.length_toList] at q
    exact q
  have hS : (s.heap.push (set0 w)).get? s.heap.objs.size = some (set0 w) := Heap.get?_push_size _ rfl
  obtain ⟨⟨ocls, odict, odata, oslots⟩, hol, hcl, nl, hdl⟩ := hl
  simp only at hcl hdl
  subst hcl hdl
  have hol' : (s.heap.push (set0 w)).get? l = some { cls := .type "tuple", dict := odict, data := .seq items nl, slots := oslots } := Heap.get?_push_of_some _ hol
  have hl1 : (s.heap.push (set0 w)).IsTuple l items := ⟨_, hol', rfl, nl, rfl⟩
  have hsls := PySem.F.sub_tuple_set
  have hslf := PySem.F.sub_tuple_frozenset
  have hne : (Value.type "tuple" == Value.type "dict") = false := by decide
  unfold Builtin.«set.__init__» noKeywords Builtin.Frozenset.updateFrom
  generalize hPI : pyIter = PI
  wp_walk
  subst hPI
  refine wpAny_pyIter_tuple hl1 ?_
  refine wpAny_bind (wpAny_runValue ?_)
  have hlS : l < s.heap.objs.size := Heap.lt_size hol
  have sz : (s.heap.push (set0 w)).objs.size = s.heap.objs.size + 1 := Heap.size_push ..
  have hneI : l ≠ (s.heap.push (set0 w)).objs.size := by rw [sz]; exact Nat.ne_of_lt (Nat.lt_succ_of_lt hlS)
  have hSf : s.heap.objs.size ∉ [(s.heap.push (set0 w)).objs.size, l] := by
    rw [sz]
    simp only [List.mem_cons, List.not_mem_nil, or_false, not_or]
    exact ⟨Nat.ne_of_lt (Nat.lt_succ_self _), Nat.ne_of_gt hlS⟩
  have hval : ∀ (i : Nat) (v : Value), items[i]? = some v → ∃ k t, xs[i]? = some k ∧ v = .str k t := fun i v hv => by
    have hi : i < xs.length := by rw [← hisz]; exact (Array.getElem?_eq_some_iff.mp hv).1
    obtain ⟨t, e⟩ := SS.strs_at hit i v (by rw [Array.getElem?_toList]; exact hv)
    refine ⟨xs[i], t, List.getElem?_eq_getElem hi, ?_⟩
    rw [e, List.getD_eq_getElem?_getD, List.getElem?_eq_getElem hi] <;> rfl
  have hA : A.in1.handled = none := hh
  refine set_loopS ((Walks.tuple (by simp [hh]) _ l hneI items).toS) s.heap.objs.size hSf xs hisz hb hval (items.size - 0) 0 _ (by omega) (Nat.zero_le _) ⟨⟨_, Heap.get?_push_size _ rfl, rfl, rfl⟩, (hl1.push _)⟩ ?_ ?_
  · exact setS_fresh (Heap.get?_push_of_some _ hS)
  · rintro ⟨h', g2, d', tk', os'⟩ hm hS'
    have eg : g2 = s.gens := hm.gens
    have ed : d' = s.drawn := hm.drawn
    have eo : os' = s.os := hm.os
    subst eg ed eo
    show wpAny _ _ _ _ _ _
    refine wpAny_pure ?_
    show wpAny _ _ (ret Value.none) _ _ _
    refine wpAny_pure ⟨_, rfl, rfl, h', tk', rfl, hS', fun b o e => ?_⟩
    have hb0 : b < s.heap.objs.size := Heap.lt_size e
    refine hm.heap b o ?_ (Heap.get?_push_of_some _ (Heap.get?_push_of_some _ e))
    show b ∉ [s.heap.objs.size, (s.heap.push (set0 w)).objs.size]
    rw [sz]
    simp only [List.mem_cons, List.not_mem_nil, or_false, not_or]
    exact ⟨Nat.ne_of_lt hb0, Nat.ne_of_lt (Nat.lt_succ_of_lt hb0)⟩
end
end Fk

set_option Elab.async false
set_option linter.all false
set_option maxRecDepth 100000
set_option maxHeartbeats 3200000
/-! Rules: set(t), sorted(set), as calls. -/
namespace Fk
open PySem PySem.Spec PyProof.Rows L2 LamX PySem.Froz
section
variable {P : Program} {w : World} {A : Around} {E : Value → Shared → Prop} {s : Shared}
theorem call_setT {l : Addr} {items : Array Value} (xs : List Str) {Q : Value → Shared → Prop} (hh : A.handled = none) (hl : s.heap.IsTuple l items) (hit : StrsAre items.toList xs) (hb : xs.length + 1 < scanBound)
    (h : ∀ (h' : Heap) (tk : Nat), SetS P w h' s.heap.objs.size (addAll xs) → (∀ b o, s.heap.get? b = some o → h'.get? b = some o) → Q (.ref s.heap.objs.size) { s with heap := h', toks := tk }) :
    wpAny (model P w) A (call (.type "set") [.ref l]) Q E s := by
  obtain ⟨c, tl, hmro⟩ := PySem.F.called_set.mro
  have hmade := PySem.F.called_set.made
  have hsub := PySem.F.called_set.sub
  refine wpAny_call (codeAny_of_tree ?_)
  show wpAny _ _ (callAny (.type "set") _) _ _ _
  refine wpAny_pure ⟨Code.quiet_builtin _ (by decide +kernel), codeAny_builtin PySem.F.entry_type_call ?_⟩
  rw [Around.under_plain (weight_type_call_type "set" [.ref l] []) rfl]
  have h1 := PySem.F.called_set.notType
  have h2 := PySem.F.called_set.canCreate
  have hct := PySem.F.typeCall_set_1 (.ref l)
  repeat (any_goals (first | assumption | wp_step))
  refine codeAny_mono (code_set_led1 (.ref l) (E := E) (Q₁ := fun obj s₁ => obj = .ref s.heap.objs.size ∧ s₁ = { s with heap := s.heap.push (set0 w) }) ⟨rfl, rfl⟩) fun r s₁ hr => ?_
  cases r with
  | error e => exact hr
  | ok fl =>
    cases fl with
    | ret obj =>
      obtain ⟨rfl, rfl⟩ := hr
      have hT : Shared.TypeIs { s with heap := s.heap.push (set0 w) } (.ref s.heap.objs.size) "set" := ⟨_, Heap.get?_push_size _ rfl, rfl⟩
      have hli := PySem.F.called_set.init.lookup
      have hbi := PySem.F.called_set.init.bind (.ref s.heap.objs.size)
      repeat (any_goals (first | assumption | wp_step))
      refine codeAny_mono (codeAny_call_builtin (R := wants (SetMade P w s (addAll xs)) E) PySem.F.called_set.init.plain PySem.F.entry_set_init (check_set_init_1 hT ?_)) fun r₂ s₂ hr₂ => ?_
      · refine wpAny_mono (set_init_tup xs (by simp [hh]) hl hit hb) (fun r s2 hq => ?_) fun _ _ e => e
        obtain ⟨v, rfl, hv⟩ := hq
        exact hv
      · cases r₂ with
        | error e => exact hr₂
        | ok fl₂ =>
          cases fl₂ with
          | ret r =>
            obtain ⟨rfl, h', tk, rfl, hS', hk'⟩ := hr₂
            repeat (any_goals (first | assumption | wp_step))
            exact h _ _ hS' hk'
          | _ => exact hr₂.elim
    | _ => exact hr.elim
end
/-- such a set, as an object -/
def SetSO (P : Program) (w : World) (a : Addr) (l : List Str) : HO := .ext fun h => SetS P w h a l
theorem setSO_new {P' P : Program} {w' w : World} {H : Hp} {h : Heap} {a : Addr} {l : List Str} (S : SetS P w h a l) : ObjOk P' w' H h a (SetSO P w a l) :=
  ⟨S, let ⟨_, ho, _⟩ := S; ⟨_, ho⟩, fun h1 h2 p k => SetS.at p k⟩
section
variable {X : Cx}
/-- set(t) of a tuple of texts -/
def rSetT (P : Program) (w : World) (K : PySem.W.Frag) : List V → Hp → VK → Prop := fun vs H Q => ∃ (a : Addr) (xs : List Str), vs = [.ref a] ∧ SqT K H a (xs.map V.str) ∧ xs.length + 1 < scanBound ∧ ∀ p, H p = none → Q (.ref p) (upd H p (SetSO P w p (addAll xs)))
theorem cr_setT (hc : X.calm = true) : CallR X (.type "set") (rSetT X.prog X.w X.K) := by
  intro pins s σ H vs us Q I r h
  obtain ⟨a, xs, rfl, hs, hb, q⟩ := h
  obtain rfl := Vals.ref1 r
  obtain ⟨its, rv, pl, hz⟩ := I.tuple hs
  refine call_setT xs (I.ok.hd hc) pl (by simpa using strsAre_of rv) hb fun h' tk S k => ?_
  exact ⟨.ref s.heap.objs.size, upd H s.heap.objs.size (SetSO X.prog X.w s.heap.objs.size (addAll xs)), I.laid (t' := tk) k (Nat.le_refl _) (setSO_new S), rfl, q _ (I.hok.fresh (Nat.le_refl _))⟩
theorem set_texts {P : Program} {w : World} : ∀ {es : List (Int × Value)}, ElemsOf (strKind P w) es → ∃ zs : List Str, StrsAre (es.map (·.2)) zs ∧ ∀ k, (k ∈ zs ↔ ∃ e ∈ es, (strKind P w).is k e.2 = true)
  | [], _ => ⟨[], .nil, fun k => by simp⟩
  | e :: es, h => by
    obtain ⟨zs, h1, h2⟩ := set_texts (es := es) fun q hq => h q (List.mem_cons_of_mem _ hq)
    obtain ⟨⟨k0, hk0, _⟩, _⟩ := h e List.mem_cons_self
    obtain ⟨t, ht⟩ := Value.isStrOf_shape (x := k0) (v := e.2) hk0
    refine ⟨k0 :: zs, ?_, fun k => ?_⟩
    · rw [List.map_cons, ht]
      exact .cons _ _ h1
    · rw [List.mem_cons, h2 k]
      constructor
      · rintro (rfl | ⟨q, hq, z⟩)
        · exact ⟨e, List.mem_cons_self, hk0⟩
        · exact ⟨q, List.mem_cons_of_mem _ hq, z⟩
      · rintro ⟨q, hq, z⟩
        rcases List.mem_cons.mp hq with rfl | hq
        · exact .inl ((strKind P w).inj q.2 k k0 z hk0)
        · exact .inr ⟨q, hq, z⟩
theorem perm_of_sub : ∀ {l zs : List Str}, l.Nodup → zs.length = l.length → (∀ k ∈ l, k ∈ zs) → zs.Perm l
  | [], zs, _, hl, _ => by
    have e : zs = [] := List.eq_nil_of_length_eq_zero hl
    rw [e]
  | k :: l, zs, nd, hl, h => by
    obtain ⟨h1, h2⟩ := List.nodup_cons.mp nd
    have hk := h k List.mem_cons_self
    have p := List.perm_cons_erase hk
    have el : (zs.erase k).length = l.length := by
      have := p.length_eq
      rw [List.length_cons] at this hl
      omega
    exact p.trans ((perm_of_sub h2 el fun x hx => (List.mem_erase_of_ne (show x ≠ k from fun e => h1 (e ▸ hx))).mpr (h x (List.mem_cons_of_mem _ hx))).cons k)
theorem perm_of_same {zs l : List Str} (nd : l.Nodup) (hl : zs.length = l.length) (h : ∀ k, k ∈ l ↔ k ∈ zs) : zs.Perm l := perm_of_sub nd hl fun k hk => (h k).mp hk
theorem strs_perm : ∀ {us vs : List Value}, us.Perm vs → ∀ {xs : List Str}, StrsAre us xs → ∃ ys, StrsAre vs ys ∧ ys.Perm xs := by
  intro us vs p
  induction p with
  | nil => intro xs h; exact ⟨xs, h, .refl _⟩
  | cons x p ih =>
    intro xs h
    cases h with
    | cons n t h =>
      obtain ⟨ys, h1, h2⟩ := ih h
      exact ⟨n :: ys, .cons n t h1, h2.cons _⟩
  | swap x y l =>
    intro xs h
    cases h with
    | cons n t h =>
      cases h with
      | cons m u h => exact ⟨m :: n :: _, .cons m u (.cons n t h), .swap _ _ _⟩
  | trans p1 p2 ih1 ih2 =>
    intro xs h
    obtain ⟨ys, h1, h2⟩ := ih1 h
    obtain ⟨zs, h3, h4⟩ := ih2 h1
    exact ⟨zs, h3, h4.trans h2⟩
/-- sorted(set of texts) -/
def rSortSetS (P : Program) (w : World) : List V → Hp → VK → Prop := fun vs H Q => ∃ (a : Addr) (l : List Str), vs = [.ref a] ∧ H a = some (SetSO P w a l) ∧ l.Nodup ∧ l.length < 64 ∧
  ∀ (ys : List Str) (p : Addr), ys.Perm l → sortedS ys = true → H p = none → Q (.ref p) (upd H p (.lst (ys.map V.str)))
theorem cr_sortSetS (hc : X.calm = true) : CallR X (.builtin "sorted") (rSortSetS X.prog X.w) := by
  intro pins s σ H vs us Q I r h
  obtain ⟨a, l, rfl, ha, nd, h64, q⟩ := h
  obtain rfl := Vals.ref1 r
  obtain ⟨⟨⟨es, ep, t⟩, ho, F, rs, ld⟩, _⟩ := (show ObjOk X.prog X.w H s.heap a (SetSO X.prog X.w a l) from I.hok a _ ha)
  have hsz : es.size = l.length := F.sz
  obtain ⟨zs, hz1, hz2⟩ := set_texts (P := X.prog) (w := X.w) (es := es.toList) F.el
  have pz : zs.Perm l := perm_of_same nd (by rw [← StrsAre.len_eq hz1, List.length_map, Array.length_toList, hsz]) fun k => (F.mem k).trans (hz2 k).symm
  refine Calls.call_function_entry PyProof.Rows.kind_sorted PyProof.Rows.plain_sorted PyProof.Rows.entry_sorted (PyProof.Rows.args_sorted1 _) ?_
  unfold Builtin.«sorted»
  refine wpAny_bind (m := checkCount "sorted" 1 1 _) (wpAny_pure ?_)
  refine wpAny_bind (collect_set (A := X.A.in1) (I.ok.hd hc) ⟨_, ho, rfl, rfl⟩ F.fit (show es.size < scanBound by unfold scanBound; omega) rs ld fun s1 out k1 hs1 g1 o1 pm => ?_)
  obtain ⟨xs, hS, px⟩ := strs_perm pm.symm hz1
  have hol : out.length = l.length := by rw [StrsAre.len_eq hS, px.length_eq, pz.length_eq]
  refine wpAny_bind (wpAny_newList ?_ (by rw [hol, sizeLine_eq]; omega))
  have hoL : (s1.heap.push (seqObj "list" out.toArray 0)).get? s1.heap.objs.size = some (seqObj "list" out.toArray 0) := Heap.get?_push_size _ rfl
  refine wpAny_bind (wpAny_holding (wpAny_call_entry PyProof.Rows.slot_list_sort ⟨_, hoL, rfl⟩ PyProof.Rows.entry_list_sort
    (list_sort_treeK strKind_oneLt (s := { s1 with heap := s1.heap.push (seqObj "list" out.toArray 0) }) hoL hS.keysOf (fun v₁ v₂ rest e => keyKind_strs (by rw [← e]; exact hS)) (by rw [hol]; exact h64) fun st' hp hs => ⟨_, rfl, ?_⟩)
    (PyProof.Rows.args_list_sort _)))
  obtain ⟨ys, y1, y2, y3⟩ := sorted_out_str hS hp hs
  obtain ⟨e', he'⟩ := PyProof.Rows.sortedHeap_at (vs := out) (out := (arrOf st').map (·.2)) hoL
  have hyl : (ys.map V.str).length ≤ sizeLine := by
    rw [List.length_map, y2.length_eq, px.length_eq, pz.length_eq, sizeLine_eq]
    omega
  have keep : ∀ b u, s.heap.get? b = some u → (sortedHeap (s1.heap.push (seqObj "list" out.toArray 0)) s1.heap.objs.size out ((arrOf st').map (·.2))).get? b = some u := fun b u e => by
    have e1 := k1 b u e
    have hb := Heap.lt_size e1
    rw [PyProof.Rows.sortedHeap_old (Nat.ne_of_lt hb) (by rw [size_push']; exact Nat.lt_succ_of_lt hb)]
    exact Heap.get?_push_of_some _ e1
  have hn : H s1.heap.objs.size = none := I.hok.fresh hs1
  refine wpAny_pure ⟨_, rfl, .ref s1.heap.objs.size, upd H s1.heap.objs.size (.lst (ys.map V.str)), ?_, rfl, q ys _ (y2.trans (px.trans pz)) y3 hn⟩
  exact I.call' o1 (ch := []) (Un.laid keep hs1 hn) (I.hok.laid keep hs1 ⟨hyl, ((arrOf st').map (·.2)).toList, e', vals_of_strs y1, by rw [Array.toArray_toList]; exact he'⟩) (by show AllBare s1.gens; rw [g1]; exact I.bare) fun _ z => nomatch z
end
end Fk

set_option Elab.async false
set_option linter.all false
set_option maxRecDepth 100000
/-! dict(pairs) of names that are told apart. -/
namespace Fk
open PySem PySem.Spec PyProof.Rows L2 LamX
theorem merge_tab (f : Str → V) : ∀ (es ds : List Str), (ds ++ es).Nodup → mergeK (tab f ds) (tab f es) = tab f (ds ++ es)
  | [], ds, _ => by rw [List.append_nil]; rfl
  | e :: es, ds, nd => by
    have e1 : mergeK (tab f ds) (tab f (e :: es)) = mergeK (putK (tab f ds) (.inr e) (f e)) (tab f es) := rfl
    have h1 : e ∉ ds := fun h => (List.nodup_append.mp nd).2.2 e h e List.mem_cons_self rfl
    rw [e1, tab_put_new f f h1 (fun _ _ => rfl)]
    have nd2 : ((ds ++ [e]) ++ es).Nodup := by
      rw [List.append_assoc]
      exact nd
    rw [merge_tab f es (ds ++ [e]) nd2, List.append_assoc]
    rfl
end Fk

set_option Elab.async false
set_option linter.all false
set_option maxRecDepth 100000
/-! Heaps behind draws and runs; names. -/
namespace Fk
open PySem PySem.Spec PyProof.Rows L2 LamX
abbrev s_law : Stmt := topS 51
abbrev nLaw : List Str := ["_law_script", "_law_state", "_law_turn", "_law_names_here", "_law_first", "_law_second", "_law_marks", "_law_told", "_law_more", "_law_inner", "_law_every", "_law_across", "_law_low", "_law_counts", "_law_flat", "_law_rows", "_law_job", "_law_high", "_law_name"]
theorem sc_law : FnScope nLaw ["_law_script"] (defScope s_law) := ⟨rfl, rfl, rfl, by decide +kernel, rfl, by decide +kernel, by decide +kernel⟩
/-- all but the tables, the state and its list stay -/
def Go (st wl : Addr) (H H' : Hp) : Prop := ∀ p o, p ≠ st → p ≠ wl → H p = some o → (∀ ps, o ≠ .tbl ps) → H' p = some o
section
variable {K : PySem.W.Frag} {st wl cl : Addr} {t : Nat} {H H1 H' : Hp} {T : List (Addr × Str)}
theorem Go.refl : Go st wl H H := fun _ _ _ _ h _ => h
theorem Go.trans (a : Go st wl H H1) (b : Go st wl H1 H') : Go st wl H H' := fun p o n1 n2 h n => b p o n1 n2 (a p o n1 n2 h n) n
theorem Go.xt (e : ExtN H H') : Go st wl H H' := fun p o _ _ h n => e p o h n
theorem Go.sm (e : Same H H') : Go st wl H H' := fun p o _ _ h _ => e p o h
theorem Go.kp (e : Kp st wl H H') : Go st wl H H' := fun p o n1 n2 h _ => e p o n1 n2 h
theorem Go.tk (A : StA K H st wl cl t) (g : Go st wl H H') : TK H H' := by
  obtain ⟨ws, cs, rest, turn, h1, h2, _⟩ := A.ex
  refine ⟨fun a xs h => ?_, fun a o u h => ?_⟩
  · refine g a _ (ne_of h h1 (fun z => nomatch z)) (ne_of h h2 (fun z => nomatch z)) h (fun _ z => nomatch z)
  · refine g a _ (ne_of h h1 (fun z => nomatch z)) (ne_of h h2 (fun z => nomatch z)) h (fun _ z => nomatch z)
theorem Go.lst {a : Addr} {xs : List V} (g : Go st wl H H') (n1 : a ≠ st) (n2 : a ≠ wl) (h : H a = some (.lst xs)) : H' a = some (.lst xs) := g a _ n1 n2 h (fun _ z => nomatch z)
theorem tabs_kp (t1 : Tabs T H) (A : StA K H st wl cl t) (e : Kp st wl H H') : Tabs T H' := fun q hq => by
  obtain ⟨ws, cs, rest, turn, f1, f2, _⟩ := A.ex
  obtain ⟨ps, h1, h2, h3⟩ := t1 q hq
  refine ⟨ps, e _ _ (ne_of h1 f1 (fun z => nomatch z)) (ne_of h1 f2 (fun z => nomatch z)) h1, h2, fun pos cv hc => ?_⟩
  obtain ⟨c, e1, e2⟩ := h3 pos cv hc
  exact ⟨c, e1, e _ _ (ne_of e2 f1 (fun z => by unfold CodeO at z; cases z)) (ne_of e2 f2 (fun z => by unfold CodeO at z; cases z)) e2⟩
end
mutual
theorem names_name : ∀ (r : R), Ok r → ∀ n ∈ names r, isName n
  | .nothing, _ => fun n hn => by rw [names] at hn; cases hn
  | .step m, h => fun n hn => by
    rw [names] at hn
    rw [Ok] at h
    rw [List.mem_singleton.mp hn]
    exact h
  | .node b rs, h => fun n hn => by
    rw [names] at hn
    rw [Ok] at h
    exact namesL_name b rs h.2.1 n hn
theorem namesL_name (b : Bool) : ∀ (rs : List R), OkL b rs → ∀ n ∈ namesL rs, isName n
  | [], _ => fun n hn => by rw [namesL] at hn; cases hn
  | r :: rs, h => fun n hn => by
    rw [namesL] at hn
    obtain ⟨h1, h2⟩ := okL_iff.mp h r List.mem_cons_self
    rcases List.mem_append.mp hn with hn | hn
    · exact names_name r h1 n hn
    · exact namesL_name b rs (okL_iff.mpr fun q hq => okL_iff.mp h q (List.mem_cons_of_mem _ hq)) n hn
end
section
variable {P : Program} {w : World} {K : PySem.W.Frag} {mg : Str → Option Value} {base : Heap} {T : List (Addr × Str)}
/-- run_of, as it is called here -/
theorem run_call {Q : VK} {H : Hp} {la a : Addr} {ns : List Str} {xs : List V} {ps : List (Nat × Nat)} {r : R} (hla : SqT K H la (ns.map V.str)) (hn : ∀ n ∈ ns, isName n) (h30 : ns.length ≤ 30) (ha : Sq K H a xs) (hp : PrL H xs ps) (L : Lay r ns ps) (ok : Ok r) (hd : depth r ≤ 40) (hT : Tabs T H)
    (q : ∀ v H', ExtN H H' → Tabs T H' → At K H' v r → Q v H') : sp_run_of K T [.ref la, .ref a] H Q E0 :=
  ⟨la, a, ns, xs, ps, r, _, rfl, hla, hn, h30, ha, hp, L.nd, L.ok, L.tr, Nat.le_trans (L.len h30) (by decide), L.fit, ok, hd, L.lab, hT, q⟩
/-- two runs that are told apart by nothing -/
theorem ne_run {Q : VK} {H : Hp} {u v : V} {r : R} (hu : At K H u r) (hv : At K H v r) (ok : Ok r) (hd : depth r ≤ 60) (q : Q (.bl false) H) : rNeD K u v H Q := by
  refine ⟨enc r, enc r, hu, hv, shaped_run ok hd, shaped_run ok hd, ?_⟩
  rw [enc_eqv]
  exact q
end
end Fk

set_option Elab.async false
set_option linter.all false
set_option maxRecDepth 100000
set_option maxHeartbeats 1000000
set_option pp.maxSteps 150
/-! The law. -/
namespace Fk
open PySem PySem.Spec PyProof.Rows L2 LamX
theorem catA_rd {K : PySem.W.Frag} {H : Hp} {a b : Addr} {xs ys : List V} {Q : VK} (ha : SqT K H a xs) (hb : SqT K H b ys) (hl : xs.length + ys.length ≤ sizeLine) (q : ∀ p H', Same H H' → SqT K H' p (xs ++ ys) → Q (.ref p) H') : rCatA K (.ref a) (.ref b) H Q := by
  refine ⟨a, b, xs, ys, rfl, rfl, ha, hb, hl, fun e => ?_, fun _ e => ?_, fun _ _ p hp => q p _ (same_new hp) (SqT.of upd_same)⟩
  · refine q b H (Same.refl _) ?_
    rw [e, List.nil_append]
    exact hb
  · refine q a H (Same.refl _) ?_
    rw [e, List.append_nil]
    exact ha
theorem two_size (b : Bool) (r t : R) : size (joined b [r, t]) = size r + size t := by
  rw [size_joined, sizeL, sizeL, sizeL]
  omega
theorem two_ok {b : Bool} {r t : R} (h1 : Ok r) (h2 : Ok t) : Ok (joined b [r, t]) := joined_ok fun q hq => by
  rcases List.mem_cons.mp hq with rfl | hq
  · exact h1
  · rw [List.mem_singleton.mp hq]
    exact h2
/-- behind([first, second]), beside(..) -/
theorem two_call {K : PySem.W.Frag} {b : Bool} {H : Hp} {p : Addr} {x v : V} {r t : R} {Q : VK} (hp : H p = some (.lst [x, v])) (h1 : At K H x r) (h2 : At K H v t) (o1 : Ok r) (o2 : Ok t) (z1 : size r ≤ 4) (z2 : size t ≤ 4) (q : ∀ v' H', Same H H' → At K H' v' (joined b [r, t]) → Q v' H') : sp_behind K b [.ref p] H Q E0 := by
  have d1 := depth_le_size o1
  have d2 := depth_le_size o2
  refine ⟨p, [x, v], [r, t], rfl, SqL.of hp, .cons h1 (.cons h2 .nil), fun s hs => ?_, ?_, by show 2 ≤ 1000; omega, q⟩
  · rcases List.mem_cons.mp hs with rfl | hs
    · exact ⟨o1, by omega⟩
    · rw [List.mem_singleton.mp hs]
      exact ⟨o2, by omega⟩
  · rw [sizeL, sizeL, sizeL]
    omega
theorem step_at {K : PySem.W.Frag} {H : Hp} {p : Addr} {n : Str} (h : H p = none) : At K (upd H p (.tup [.str (Str.ofString "step"), .str n])) (.ref p) (.step n) := at_iff.mpr ⟨p, [.str n], rfl, SqT.of upd_same, rfl⟩
theorem paired_rep {α β : Type} {F : α → β → Prop} {xs : List α} {ys : List β} (h : Paired F xs ys) : ∀ n : Nat, Paired F (List.replicate n xs).flatten (List.replicate n ys).flatten
  | 0 => .nil
  | n + 1 => by
    rw [List.replicate_succ, List.replicate_succ, List.flatten_cons, List.flatten_cons]
    exact paired_append h (paired_rep h n)
theorem sizeL_rep (ys : List R) : ∀ n : Nat, sizeL (List.replicate n ys).flatten = n * sizeL ys
  | 0 => by rw [Nat.zero_mul]; show sizeL [] = 0; rw [sizeL]
  | n + 1 => by rw [List.replicate_succ, List.flatten_cons, sizeL_append, sizeL_rep ys n, Nat.add_mul, Nat.one_mul, Nat.add_comm]
theorem mem_rep {α : Type} {xs : List α} {x : α} {n : Nat} (h : x ∈ (List.replicate n xs).flatten) : x ∈ xs := by
  obtain ⟨l, hl, hx⟩ := List.mem_flatten.mp h
  rw [(List.mem_replicate.mp hl).2] at hx
  exact hx
theorem rep_len {α : Type} (xs : List α) : ∀ n : Nat, (List.replicate n xs).flatten.length = n * xs.length
  | 0 => by rw [Nat.zero_mul]; rfl
  | n + 1 => by rw [List.replicate_succ, List.flatten_cons, List.length_append, rep_len xs n, Nat.add_mul, Nat.one_mul, Nat.add_comm]
/-- runs of a list n times over -/
def repR (b : Bool) (n : Nat) (ys : List R) : R := joined b (List.replicate n ys).flatten
theorem repR_ok {b : Bool} {n : Nat} {ys : List R} (h : ∀ r ∈ ys, Ok r) : Ok (repR b n ys) := joined_ok fun r hr => h r (mem_rep hr)
theorem repR_size (b : Bool) (n : Nat) (ys : List R) : size (repR b n ys) = n * sizeL ys := by
  unfold repR
  rw [size_joined, sizeL_rep]
theorem rep_call {K : PySem.W.Frag} {b : Bool} {H : Hp} {p : Addr} {n : Nat} {xs : List V} {ys : List R} {Q : VK} (hp : H p = some (.lst (List.replicate n xs).flatten)) (h : AtL K H xs ys) (ok : ∀ r ∈ ys, Ok r ∧ depth r ≤ 40) (z : n * sizeL ys ≤ 1000) (l : n * ys.length ≤ 1000)
    (q : ∀ v' H', Same H H' → At K H' v' (repR b n ys) → Q v' H') : sp_behind K b [.ref p] H Q E0 :=
  ⟨p, _, _, rfl, SqL.of hp, paired_rep h n, fun r hr => ok r (mem_rep hr), by rw [sizeL_rep]; exact z, by rw [rep_len]; exact l, q⟩
abbrev rA : R := .step (Str.ofString "a")
abbrev rB : R := .step (Str.ofString "b")
abbrev rC : R := .step (Str.ofString "c")
theorem abc_ok : ∀ r ∈ [rA, rB, rC], Ok r ∧ depth r ≤ 40 := fun r hr => by
  simp only [List.mem_cons, List.not_mem_nil, or_false] at hr
  rcases hr with rfl | rfl | rfl
  · exact ⟨by rw [Ok]; exact names14_ok _ (by decide), by rw [depth]; omega⟩
  · exact ⟨by rw [Ok]; exact names14_ok _ (by decide), by rw [depth]; omega⟩
  · exact ⟨by rw [Ok]; exact names14_ok _ (by decide), by rw [depth]; omega⟩
abbrev rRow : R := repR false 1 [rA, rB, rC]
theorem row_ok : Ok rRow := repR_ok fun r hr => (abc_ok r hr).1
theorem row_size : size rRow = 3 := by
  rw [repR_size, sizeL, sizeL, sizeL, sizeL, size, size, size]
abbrev rTwo : R := repR true 2 [rRow]
theorem one_ok {r s : R} (h : Ok r) (hs : s ∈ [r]) : Ok s := by
  rw [List.mem_singleton.mp hs]
  exact h
theorem two_ok2 : Ok rTwo := repR_ok fun r hr => one_ok row_ok hr
theorem sizeL_one (r : R) : sizeL [r] = size r := by
  rw [sizeL, sizeL]
  omega
theorem two_size2 : size rTwo = 6 := by rw [repR_size, sizeL_one, row_size]
theorem jobs_ok : ∀ r ∈ [repR false 15 [rA, rB], repR true 10 [rRow], repR false 5 [rTwo]], Ok r ∧ size r = 30 := fun r hr => by
  simp only [List.mem_cons, List.not_mem_nil, or_false] at hr
  rcases hr with rfl | rfl | rfl
  · refine ⟨repR_ok fun r hr => (abc_ok r ?_).1, by rw [repR_size, sizeL, sizeL, sizeL, size, size]⟩
    simp only [List.mem_cons, List.not_mem_nil, or_false] at hr ⊢
    exact hr.elim .inl fun e => .inr (.inl e)
  · exact ⟨repR_ok fun r hr => one_ok row_ok hr, by rw [repR_size, sizeL_one, row_size]⟩
  · exact ⟨repR_ok fun r hr => one_ok two_ok2 hr, by rw [repR_size, sizeL_one, two_size2]⟩
/-- what the law calls -/
structure Cs (P : Program) (w : World) (K : PySem.W.Frag) (mg : Str → Option Value) (base : Heap) (k : Nat) (T : List (Addr × Str)) : Prop where
  begun : Kn P w K mg base k "_law_begun" (sp_begun K)
  take : Kn P w K mg base k "_law_take" (sp_take K)
  pick : Kn P w K mg base k "_law_pick" (sp_pick K)
  names : Kn P w K mg base k "_law_names" (sp_lnames K)
  run : Kn P w K mg base k "_law_run" (sp_lrun K 4)
  moved : Kn P w K mg base k "_law_moved" (sp_moved K)
  order : Kn P w K mg base k "order_of" (sp_order K)
  run_of : Kn P w K mg base k "run_of" (sp_run_of K T)
  behind : Kn P w K mg base k "behind" (sp_behind K false)
  beside : Kn P w K mg base k "beside" (sp_behind K true)
  turned : Kn P w K mg base k "turned" (sp_turned K 40)
  size : Kn P w K mg base k "size" (sp_size K)
  steps : Kn P w K mg base k "steps" (sp_steps K)
abbrev rTCount (K : PySem.W.Frag) : V → List V → Hp → VK → Prop := fun x xs H Q => ∃ p, ∃ ys : List Str, ∃ z, x = .ref p ∧ xs = [.str z] ∧ SqT K H p (ys.map V.str) ∧ Q (.int (ys.count z : Nat)) H
theorem room4 {k : Nat} {A : Around} (hr : Room k A) : A.units + 4 < cLine := by
  have := hr.units
  omega
theorem min_is {i j : Int} : (if j < i then j else i) ≤ j := by split <;> omega
section
variable {P : Program} {w : World} {K : PySem.W.Frag} {mg : Str → Option Value} {base : Heap} {f g : Addr} {fd gd : FuncData} {k : Nat} {T : List (Addr × Str)}
def sp_law (K : PySem.W.Frag) (T : List (Addr × Str)) : Sp := fun vs H Q _ => ∃ (a : Addr) (ns : List Int), vs = [.ref a] ∧ SqL K H a (ns.map V.int) ∧ ns.length ≤ 63 ∧ Tabs T H ∧ ∀ H', Q (.bl true) H'
theorem law_body (B : Blt mg) (C : Cs P w K mg base k T) {cdv : Value} {A : Around} {outer : List Env} {s : Shared} {H : Hp} {vs : List V} {Q : VK} {E : XK} (hgd : A.guards = some []) (hr : Room k (A.deeper (envOfC "law" (defScope s_law) s.heap.objs.size f cdv))) (h : sp_law K T vs H Q E) :
    ∃ t, PSs (cxOf CX0 P w K mg base nLaw "law" (defScope s_law) f cdv A outer s H E).nox (defBody s_law) t ∧ t { nx := fun _ H' => Q .non H', rt := Q } (L2.start nLaw vs) H := by
  obtain ⟨a, ns, rfl, hs, hl, hT, q⟩ := h
  refine ⟨_, pss_cons (ps_set (i := 1) sc_law.nd rfl (Or.inl rfl) (pe_kn C.begun hr (Nat.le_refl _) (by rfl) (pa_cons (pv 0) pa_nil)))
    (pss_cons (ps_for PassesOwn.never rfl (pi_range1 (by rfl) B.zrange (pa_cons (pe_op op_add pe_int (pe_callB (call_min2 rfl) (by rfl) B.zmin bt_min (pa_cons (pe_callB call_len_seq (by rfl) B.zlen bt_len (pa_cons (pv 0) pa_nil)) (pa_cons pe_int pa_nil)))) pa_nil)) (pg_name (i := 2) sc_law.nd rfl (Or.inl rfl))
      (pss_cons (ps_set (i := 3) sc_law.nd rfl (Or.inl rfl) (pe_kn C.names hr (Nat.le_refl _) (by rfl) (pa_cons (pv 1) (pa_cons (pe_op op_add pe_int (pe_kn C.take hr (Nat.le_refl _) (by rfl) (pa_cons (pv 1) (pa_cons pe_int pa_nil)))) pa_nil))))
      (pss_cons (ps_set (i := 4) sc_law.nd rfl (Or.inl rfl) (pe_kn C.pick hr (Nat.le_refl _) (by rfl) (pa_cons (pv 1) (pa_cons (pe_lst (pa_cons (pe_kn C.run hr (Nat.le_refl _) (by rfl) (pa_cons (pv 1) (pa_cons (pv 3) (pa_cons pe_int pa_nil)))) (pa_cons (pe_kn C.run hr (Nat.le_refl _) (by rfl) (pa_cons (pv 1) (pa_cons (pv 3) (pa_cons pe_int pa_nil)))) (pa_cons (pe_tup (pa_cons pe_str pa_nil)) pa_nil)))) pa_nil))))
      (pss_cons (ps_set (i := 5) sc_law.nd rfl (Or.inl rfl) (pe_kn C.run hr (Nat.le_refl _) (by rfl) (pa_cons (pv 1) (pa_cons (pv 3) (pa_cons pe_int pa_nil)))))
      (pss_cons (ps_asg (pe_kn C.order hr (Nat.le_refl _) (by rfl) (pa_cons (pv 4) pa_nil)) (pg_tup rfl (pgs_cons (pg_name (i := 6) sc_law.nd rfl (Or.inr rfl)) (pgs_cons (pg_name (i := 7) sc_law.nd rfl (Or.inl rfl)) pgs_nil))))
      (pss_cons (ps_asg (pe_kn C.order hr (Nat.le_refl _) (by rfl) (pa_cons (pv 5) pa_nil)) (pg_tup rfl (pgs_cons (pg_name (i := 8) sc_law.nd rfl (Or.inl rfl)) (pgs_cons (pg_name (i := 9) sc_law.nd rfl (Or.inl rfl)) pgs_nil))))
      (pss_cons (ps_set (i := 10) sc_law.nd rfl (Or.inl rfl) (pe_op op_cat (pe_callTy call_list_of (by rfl) B.zlist bt_list (pa_cons (pv 7) pa_nil)) (pe_kn C.moved hr (Nat.le_refl _) (by rfl) (pa_cons (pv 9) (pa_cons (pe_callB call_len_seq (by rfl) B.zlen bt_len (pa_cons (pv 6) pa_nil)) pa_nil)))))
      (pss_cons (ps_set (i := 11) sc_law.nd rfl (Or.inl rfl) (pe_lst pa_nil))
      (pss_cons (ps_for PassesOwn.never rfl (pi_range1 (by rfl) B.zrange (pa_cons (pe_callB call_len_seq (by rfl) B.zlen bt_len (pa_cons (pv 6) pa_nil)) pa_nil)) (pg_name (i := 12) sc_law.nd rfl (Or.inr rfl))
        (pss_one (ps_set (i := 11) sc_law.nd rfl (Or.inl rfl) (pe_op op_cat (pv 11) (pe_lc (own := [("_law_high", 17)]) (g := gName 17) (tt := tYes) (te := tTup (tCons (tVar 12) (tCons (tOp (rI0 fun i j => .int (i + j)) (tCB (fun xs H Q => ∃ p ys, xs = [.ref p] ∧ (SqL K H p ys ∨ SqT K H p ys) ∧ Q (.int ys.length) H) (tCons (tVar 6) tNil)) (tVar 17)) tNil))) rfl sc_law.nd
          (pi_range1 (by rfl) B.zrange (pa_cons (pe_callB call_len_seq (by rfl) B.zlen bt_len (pa_cons (pv 8) pa_nil)) pa_nil)) (blkOk_by (N := nLaw) (sc := defScope s_law) (by decide +kernel))
          (fun _ _ _ _ _ => pg_name (i := 17) sc_law.nd rfl (Or.inl rfl)) (fun _ _ _ _ _ => pts_nil) (fun _ _ _ _ _ => pe_tup (pa_cons (pv 12) (pa_cons (pe_op op_add (pe_callB call_len_seq (by rfl) B.zlen bt_len (pa_cons (pv 6) pa_nil)) (pv 17)) pa_nil))))))))
      (pss_cons (ps_if (pt_cmpR (op_neD hr.units) (pe_kn C.run_of hr (Nat.le_refl _) (by rfl) (pa_cons (pe_op op_catA (pv 6) (pv 8)) (pa_cons (pe_op op_cat (pv 10) (pv 11)) pa_nil))) (pe_kn C.behind hr (Nat.le_refl _) (by rfl) (pa_cons (pe_lst (pa_cons (pv 4) (pa_cons (pv 5) pa_nil))) pa_nil)) (nomark _)) pss_never pss_nil)
      (pss_cons (ps_if (pt_cmpR (op_neD hr.units) (pe_kn C.run_of hr (Nat.le_refl _) (by rfl) (pa_cons (pe_op op_catA (pv 6) (pv 8)) (pa_cons (pv 10) pa_nil))) (pe_kn C.beside hr (Nat.le_refl _) (by rfl) (pa_cons (pe_lst (pa_cons (pv 4) (pa_cons (pv 5) pa_nil))) pa_nil)) (nomark _)) pss_never pss_nil)
      (pss_cons (ps_if (pw_or (pt_cmpR (op_neD hr.units) (pe_kn C.run_of hr (Nat.le_refl _) (by rfl) (pa_cons (pv 6) (pa_cons (pe_lc (own := [("_law_low", 12), ("_law_high", 17)]) (g := gTup K 2 (gCons (gName 12) (gCons (gName 17) gNil))) (tt := tYes) (te := tTup (tCons (tVar 17) (tCons (tVar 12) tNil))) rfl sc_law.nd
          (pi_tup (pv 7)) (blkOk_by (N := nLaw) (sc := defScope s_law) (by decide +kernel)) (fun _ _ _ _ _ => pg_tup rfl (pgs_cons (pg_name (i := 12) sc_law.nd rfl (Or.inl rfl)) (pgs_cons (pg_name (i := 17) sc_law.nd rfl (Or.inl rfl)) pgs_nil))) (fun _ _ _ _ _ => pts_nil) (fun _ _ _ _ _ => pe_tup (pa_cons (pv 17) (pa_cons (pv 12) pa_nil)))) pa_nil)))
          (pe_kn C.turned hr (Nat.le_refl _) (by rfl) (pa_cons (pv 4) pa_nil)) (nomark _)) (pw_or1 (pt_cmpR (op_neD hr.units) (pe_kn C.run_of hr (Nat.le_refl _) (by rfl) (pa_cons (pv 6) (pa_cons (pv 7) pa_nil))) (pv 4) (nomark _)))).pt pss_never pss_nil)
      (pss_cons (ps_set (i := 13) sc_law.nd rfl (Or.inl rfl) (pe_callTy (call_dictP rfl) (by rfl) B.zdict bt_dict (pa_cons (pe_lc (own := [("_law_name", 18)]) (g := gName 18) (tt := tYes) (te := tTup (tCons (tVar 18) (tCons (tBMT (rTCount K) (tVar 6) (tCons (tVar 18) tNil)) tNil))) rfl sc_law.nd
          (pi_list (pe_callB (cr_sortSetS rfl) (by rfl) B.zsorted bt_sorted (pa_cons (pe_callTy (cr_setT rfl) (by rfl) B.zset bt_set (pa_cons (pv 6) pa_nil)) pa_nil))) (blkOk_by (N := nLaw) (sc := defScope s_law) (by decide +kernel)) (fun _ _ _ _ _ => pg_name (i := 18) sc_law.nd rfl (Or.inl rfl)) (fun _ _ _ _ _ => pts_nil)
          (fun _ _ _ _ _ => pe_tup (pa_cons (pv 18) (pa_cons (pe_bmT PySem.F.plainAttrs_tuple PySem.F.slot_tuple_count PySem.F.type_tuple_count mt_tcount (pv 6) (pa_cons (pv 18) pa_nil)) pa_nil)))) pa_nil)))
      (pss_cons (ps_if (pw_or (pt_cmpR op_ne (pe_callB call_len_seq (by rfl) B.zlen bt_len (pa_cons (pv 6) pa_nil)) (pe_kn C.size hr (Nat.le_refl _) (by rfl) (pa_cons (pv 4) pa_nil)) (nomark _))
          (pw_or1 (pt_cmpR op_ne (pe_callB (call_reprT hgd (room4 hr)) (by rfl) B.zrepr bt_repr (pa_cons (pe_kn C.steps hr (Nat.le_refl _) (by rfl) (pa_cons (pv 4) pa_nil)) pa_nil)) (pe_callB (call_reprT hgd (room4 hr)) (by rfl) B.zrepr bt_repr (pa_cons (pv 13) pa_nil)) (nomark _)))).pt pss_never pss_nil)
      (pss_cons (ps_set (i := 14) sc_law.nd rfl (Or.inl rfl) (pe_kn C.order hr (Nat.le_refl _) (by rfl) (pa_cons (pe_kn C.behind hr (Nat.le_refl _) (by rfl) (pa_cons (pe_lst (pa_cons (pv 4) (pa_cons (pv 5) pa_nil))) pa_nil)) pa_nil)))
      (pss_cons (ps_if (pt_cmpR op_ne (pe_callB call_len_seq (by rfl) B.zlen bt_len (pa_cons (pe_ix ix_tup (pv 14) pe_int (fun _ _ => rfl)) pa_nil))
          (pe_op op_add (pe_op op_add (pe_callB call_len_seq (by rfl) B.zlen bt_len (pa_cons (pv 7) pa_nil)) (pe_callB call_len_seq (by rfl) B.zlen bt_len (pa_cons (pv 9) pa_nil))) (pe_op op_mul (pe_callB call_len_seq (by rfl) B.zlen bt_len (pa_cons (pv 6) pa_nil)) (pe_callB call_len_seq (by rfl) B.zlen bt_len (pa_cons (pv 8) pa_nil)))) (nomark _)) pss_never pss_nil)
      (pss_one (ps_if (pw_or (pt_cmpR (op_neD hr.units) (pe_kn C.run_of hr (Nat.le_refl _) (by rfl) (pa_cons (pe_ix ix_tup (pv 14) pe_int (fun _ _ => rfl)) (pa_cons (pe_ix ix_tup (pv 14) pe_int (fun _ _ => rfl)) pa_nil))) (pe_kn C.behind hr (Nat.le_refl _) (by rfl) (pa_cons (pe_lst (pa_cons (pv 4) (pa_cons (pv 5) pa_nil))) pa_nil)) (nomark _))
          (pw_or1 (pt_cmpR (op_neD hr.units) (pe_kn C.turned hr (Nat.le_refl _) (by rfl) (pa_cons (pe_kn C.turned hr (Nat.le_refl _) (by rfl) (pa_cons (pv 5) pa_nil)) pa_nil)) (pv 5) (nomark _)))).pt pss_never pss_nil))))))))))))))))))
    (pss_cons (ps_set (i := 15) sc_law.nd rfl (Or.inl rfl) (pe_op op_rep (pe_lst (pa_cons (pe_kn C.behind hr (Nat.le_refl _) (by rfl) (pa_cons (pe_lst (pa_cons (pe_tup (pa_cons pe_str (pa_cons pe_str pa_nil))) (pa_cons (pe_tup (pa_cons pe_str (pa_cons pe_str pa_nil))) (pa_cons (pe_tup (pa_cons pe_str (pa_cons pe_str pa_nil))) pa_nil)))) pa_nil)) pa_nil)) pe_int))
    (pss_cons (ps_for PassesOwn.never rfl (pi_list (pe_lst (pa_cons (pe_kn C.behind hr (Nat.le_refl _) (by rfl) (pa_cons (pe_op op_rep (pe_lst (pa_cons (pe_tup (pa_cons pe_str (pa_cons pe_str pa_nil))) (pa_cons (pe_tup (pa_cons pe_str (pa_cons pe_str pa_nil))) pa_nil))) pe_int) pa_nil))
        (pa_cons (pe_kn C.beside hr (Nat.le_refl _) (by rfl) (pa_cons (pv 15) pa_nil))
        (pa_cons (pe_kn C.behind hr (Nat.le_refl _) (by rfl) (pa_cons (pe_op op_rep (pe_lst (pa_cons (pe_kn C.beside hr (Nat.le_refl _) (by rfl) (pa_cons (pe_slice sl_list (pv 15) po_none (po_some pe_int)) pa_nil)) pa_nil)) pe_int) pa_nil)) pa_nil))))) (pg_name (i := 16) sc_law.nd rfl (Or.inl rfl))
      (pss_cons (ps_set (i := 14) sc_law.nd rfl (Or.inl rfl) (pe_kn C.order hr (Nat.le_refl _) (by rfl) (pa_cons (pv 16) pa_nil)))
      (pss_one (ps_if (pw_or (pt_cmpR op_ne (pe_kn C.size hr (Nat.le_refl _) (by rfl) (pa_cons (pv 16) pa_nil)) pe_int (nomark _))
          (pw_or1 (pt_cmpR (op_neD hr.units) (pe_kn C.run_of hr (Nat.le_refl _) (by rfl) (pa_cons (pe_ix ix_tup (pv 14) pe_int (fun _ _ => rfl)) (pa_cons (pe_ix ix_tup (pv 14) pe_int (fun _ _ => rfl)) pa_nil))) (pv 16) (nomark _)))).pt pss_never pss_nil))))
    (pss_one (ps_ret pe_bl))))), ?_⟩
  refine ⟨_, rfl, a, ns, rfl, hs, hl, fun st wl cl H1 s1 hst0 hwl0 A1 => ?_⟩
  refine ⟨.ref a, rfl, a, _, rfl, .inl (s1.seq hs), _, _, rfl, _, _, rfl, rfl, _, rfl, ?_, ?_, ?_⟩
  · rw [List.length_map]
    split <;> omega
  · have := @min_is ((ns.map V.int).length : Nat) 20
    omega
  refine for_it (walk_range (lo := 0)) (fun i σ H2 => ∃ (t : Nat) (y2 y3 y4 y5 y6 y7 y8 y9 y10 y11 y12 y13 y14 y15 y16 y17 y18 : Option V), σ = [some (.ref a), some (.ref st), y2, y3, y4, y5, y6, y7, y8, y9, y10, y11, y12, y13, y14, y15, y16, y17, y18] ∧ StA K H2 st wl cl t ∧ t ≤ 100 * i ∧ Tabs T H2)
    ⟨0, _, _, _, _, _, _, _, _, _, _, _, _, _, _, _, _, _, rfl, A1, Nat.le_refl _, hT.ext s1⟩ (fun _ _ _ _ _ => True.intro) ?_ ?_
  · rintro i x σ H2 H2' hi ⟨t, y2, y3, y4, y5, y6, y7, y8, y9, y10, y11, y12, y13, y14, y15, y16, y17, y18, rfl, A2, ht, T2⟩ ⟨rfl, rfl⟩
    have hi24 : i < 24 := by
      have := @min_is ((ns.map V.int).length : Nat) 20
      omega
    -- the names
    refine ⟨.ref st, rfl, .ref st, rfl, st, wl, cl, t, 3, rfl, A2, by omega, by omega, by omega, fun n H3 hn k3 A3 => ⟨_, _, rfl, rfl, st, wl, cl, t + 1, 1 + n, ?_, A3, by omega, by omega, by omega, fun na nms H4 hnl hnn hna0 hna4 k4 A4 => ?_⟩⟩
    · show [V.ref st, V.int (1 + ((n : Nat) : Int))] = _
      rw [show (1 : Int) + ((n : Nat) : Int) = ((1 + n : Nat) : Int) by omega]
    obtain ⟨q1, q2, q3⟩ := A3.old hna0
    have T4 := tabs_kp (tabs_kp T2 A2 k3) A3 k4
    -- the first run
    refine ⟨.ref st, rfl, .ref st, rfl, .ref na, rfl, st, wl, cl, na, t + 15, 4, nms, rfl, A4, by omega, hna4, q1.symm, q2.symm, hnn, by omega, by omega, by omega, by omega, by omega, fun v1 r1 H5 o1 ne1 z1 k5 A5 av1 => ?_⟩
    have hna5 := k5 _ _ q1.symm q2.symm hna4
    refine ⟨.ref st, rfl, .ref na, rfl, st, wl, cl, na, t + 15 + 6 * 4 - 3, 4, nms, rfl, A5, by omega, hna5, q1.symm, q2.symm, hnn, by omega, by omega, by omega, by omega, by omega, fun v2 r2 H6 o2 ne2 z2 k6 A6 av2 => ?_⟩
    have hna6 := k6 _ _ q1.symm q2.symm hna5
    have T6 := tabs_kp (tabs_kp T4 A4 k5) A5 k6
    have av1' := At.tk (tk_kp A5 k6) r1 v1 av1
    refine ⟨small (show 1 ≤ 100000 by decide), fun pn hpn => ?_⟩
    have s7 := same_new (o := .tup [.str (Str.ofString "nothing")]) hpn
    have avn : At K (upd H6 pn (.tup [.str (Str.ofString "nothing")])) (.ref pn) .nothing := at_iff.mpr ⟨pn, [], rfl, SqT.of upd_same, rfl⟩
    have A7 := A6.sm s7
    have T7 := T6.ext s7
    have hna7 := s7 _ _ hna6
    have av1'' := At.tk (.of s7) r1 v1 av1'
    have av2'' := At.tk (.of s7) r2 v2 av2
    generalize upd H6 pn (.tup [.str (Str.ofString "nothing")]) = H7 at *
    refine ⟨small (show 3 ≤ 100000 by decide), fun pl hpl => ?_⟩
    have s8 := same_new (o := .lst [v1, v2, .ref pn]) hpl
    obtain ⟨u1, u2, u3⟩ := A7.old hpl
    refine ⟨st, wl, cl, pl, t + 15 + 6 * 4 - 3 + 6 * 4 - 3, [v1, v2, .ref pn], rfl, A7.sm s8, by omega, upd_same, u1.symm, u2.symm, by show 0 < 3; omega, by show 3 ≤ 1000; omega, fun nn x H9 hx k9 A9 => ?_⟩
    have T9 := tabs_kp (T7.ext s8) (A7.sm s8) k9
    have hna9 := k9 _ _ q1.symm q2.symm (s8 _ _ hna7)
    obtain ⟨rf, okf, zf, avf⟩ : ∃ rf, Ok rf ∧ size rf ≤ 4 ∧ At K H9 x rf := by
      have tk9 := (TK.of s8).trans (tk_kp (A7.sm s8) k9)
      have hm := List.mem_of_getElem? hx
      simp only [List.mem_cons, List.not_mem_nil, or_false] at hm
      rcases hm with rfl | rfl | rfl
      · exact ⟨r1, o1, z1, At.tk tk9 _ _ av1''⟩
      · exact ⟨r2, o2, z2, At.tk tk9 _ _ av2''⟩
      · exact ⟨.nothing, by rw [Ok]; trivial, by rw [size]; omega, At.tk tk9 _ _ avn⟩
    -- the second
    refine ⟨.ref st, rfl, .ref na, rfl, st, wl, cl, na, t + 15 + 6 * 4 - 3 + 6 * 4 - 3 + 1, 4, nms, rfl, A9, by omega, hna9, q1.symm, q2.symm, hnn, by omega, by omega, by omega, by omega, by omega, fun v rs H10 oks nes zs' k10 A10 avs => ?_⟩
    have T10 := tabs_kp T9 A9 k10
    have avf := At.tk (tk_kp A9 k10) rf x avf
    have df := depth_le_size okf
    have ds := depth_le_size oks
    have Af : ∃ t', StA K H10 st wl cl t' ∧ t' ≤ 100 * (i + 1) := ⟨_, A10, by omega⟩
    obtain ⟨t', A10', ht'⟩ := Af
    clear av1 av1' av1'' av2 av2'' avn hna4 hna5 hna6 hna7 hna9 k3 k4 k5 k6 k9 k10 A2 A3 A4 A5 A6 A7 A9 A10 T2 T4 T6 T7 T9 s7 s8
    -- their orders
    refine ⟨x, rfl, x, rf, rfl, avf, okf, by omega, by omega, fun vo1 ps1 H11 s11 pp1 oa1 => ?_⟩
    obtain ⟨t1, a1, b1, xs1, rfl, g1, g2, g3, g4⟩ := oa1
    refine ⟨t1, _, rfl, SqT.of g1, rfl, _, _, rfl, _, _, rfl, rfl, ?_⟩
    refine ⟨v, rfl, v, rs, rfl, At.tk (.of s11) rs v avs, oks, by omega, by omega, fun vo2 ps2 H12 s12 pp2 oa2 => ?_⟩
    obtain ⟨t2, a2, b2, xs2, rfl, h1, h2, h3, h4⟩ := oa2
    refine ⟨t2, _, rfl, SqT.of h1, rfl, _, _, rfl, _, _, rfl, rfl, ?_⟩
    have X12 : ExtN H10 H12 := ExtN.of (s11.trans s12)
    have T12 := T10.ext (s11.trans s12)
    have avf := At.tk (.of (s11.trans s12)) rf x avf
    have avs := At.tk (.of (s11.trans s12)) rs v avs
    have g2 := g2.tk (.of s12)
    have g3 := s12 _ _ g3
    have g4 := g4.tk (.of s12)
    have L1 := (lay_prs rf).perm pp1
    have L2 := (lay_prs rs).perm pp2
    have n1 := names_len rf
    have n2 := names_len rs
    have ln1 := L1.len (by omega)
    have ln2 := L2.len (by omega)
    have lx1 := g4.len
    have lx2 := h4.len
    have nm1 := names_name rf okf
    have nm2 := names_name rs oks
    clear s11 s12 g1 h1
    -- every
    refine ⟨.ref b1, rfl, b1, xs1, rfl, .inr (SqT.of g3), fun le hle => ?_⟩
    have s13 := same_new (o := .lst xs1) hle
    refine ⟨.ref b2, rfl, .ref a1, rfl, a1, _, rfl, .inr ((g2.tk (.of s13)).sq), b2, xs2, ps2, (names rf).length, ?_, SqT.of (s13 _ _ h3), h4.tk (.of s13), by omega, fun pm zs H14 s14 hpm0 hpm hzs => ?_⟩
    · rw [List.length_map]
      rfl
    have hle14 := s14 _ _ (upd_same : (upd H12 le (.lst xs1)) le = some (.lst xs1))
    have lz := hzs.len
    rw [shift_len] at lz
    refine ⟨le, pm, xs1, zs, rfl, rfl, hle14, hpm, small (by omega), fun ev hev => ?_⟩
    have s15 := same_new (o := .lst (xs1 ++ zs)) hev
    have pe15 : PrL (upd H14 ev (.lst (xs1 ++ zs))) (xs1 ++ zs) (ps1 ++ shift (names rf).length ps2) := paired_append (PrL.tk g4 (.of (s13.trans (s14.trans s15)))) (PrL.tk hzs (.of s15))
    have s125 := s13.trans (s14.trans s15)
    have he15 : (upd H14 ev (.lst (xs1 ++ zs))) ev = some (.lst (xs1 ++ zs)) := upd_same
    generalize upd H14 ev (.lst (xs1 ++ zs)) = H15 at *
    have g2 := g2.tk (.of s125)
    have g3 := s125 _ _ g3
    have h2 := h2.tk (.of s125)
    have h3 := s125 _ _ h3
    have g4 := g4.tk (.of s125)
    have avf := At.tk (.of s125) rf x avf
    have avs := At.tk (.of s125) rs v avs
    have X15 : ExtN H10 H15 := X12.trans (.of s125)
    have T15 := T12.ext s125
    clear s13 s14 s15 s125 hle hle14 hpm hpm0 hzs hev h4 X12 T12 T10
    -- across
    refine ⟨Nat.zero_le _, fun ac0 hac0 => ?_⟩
    have s16 := same_new (o := .lst []) hac0
    refine ⟨.ref a1, rfl, a1, _, rfl, .inr ((g2.tk (.of s16)).sq), _, rfl, by rw [List.length_map]; omega, by rw [List.length_map]; omega, ?_⟩
    rw [List.length_map, Int.toNat_natCast]
    refine for_it (walk_range (lo := 0)) (fun j σ H17 => ∃ (ac : Addr) (z12 z17 : Option V) (acc : List V), σ = [some (.ref a), some (.ref st), some (.int (0 + ((i : Nat) : Int))), some (.ref na), some x, some v, some (.ref a1), some (.ref b1), some (.ref a2), some (.ref b2), some (.ref ev), some (.ref ac), z12, y13, y14, y15, y16, z17, y18] ∧
      Same H15 H17 ∧ H17 ac = some (.lst acc) ∧ PrL H17 acc (acr j (names rf).length (names rs).length)) ⟨ac0, y12, y17, [], rfl, s16, upd_same, .nil⟩ (fun _ _ _ _ _ => True.intro) ?_ ?_
    · rintro j y σ H17 H17' hj ⟨ac, z12, z17, acc, rfl, s17, hac, hacc⟩ ⟨rfl, rfl⟩
      have la := hacc.len
      rw [acr_len] at la
      have lm : j * (names rs).length ≤ 4 * 4 := Nat.mul_le_mul (by omega) (by omega)
      refine ⟨.ref ac, rfl, .ref a2, rfl, a2, _, rfl, .inr ((h2.tk (.of s17)).sq), _, rfl, by rw [List.length_map]; omega, by rw [List.length_map]; omega, ?_⟩
      rw [List.length_map, Int.toNat_natCast]
      intro D hD
      refine lcx (walk_range (lo := 0)) hD (by omega) (fun jj ac2 H18 => PrL H18 ac2 ((List.range' (names rf).length jj).map fun c => (j, c))) .nil (fun _ _ => True.intro) ?_ ?_
      · rintro jj ac2 y2 H18 H19 Kt Kf hjj s18 hD8 hlen hac2 fin _ ⟨rfl, rfl⟩
        refine ⟨rfl, yes_t ⟨_, rfl, .ref a1, rfl, a1, _, rfl, .inr ((g2.tk (.of (s17.trans s18))).sq), _, rfl, _, _, rfl, rfl, small (show 2 ≤ 100000 by decide), fun p hp => ?_⟩⟩
        show Kt (V.ref p) (upd H19 p (.tup [.int (0 + ((j : Nat) : Int)), .int ((((names rf).map V.str).length : Nat) + (0 + ((jj : Nat) : Int)))]))
        rw [List.length_map]
        have s20 := same_new (o := .tup [.int (0 + ((j : Nat) : Int)), .int (((names rf).length : Nat) + (0 + ((jj : Nat) : Int)))]) hp
        refine fin _ _ s20 ?_
        rw [List.range'_1_concat, List.map_append]
        have tk := (TK.of s20).trans (tk_lst (o := .lst (ac2 ++ [.ref p])) (s20 _ _ hD8))
        refine paired_append (PrL.tk hac2 tk) (.cons ⟨p, rfl, (tk_lst (s20 _ _ hD8)).tup _ _ ?_⟩ .nil)
        rw [upd_same, Int.zero_add, Int.zero_add, show (((names rf).length : Nat) : Int) + ((jj : Nat) : Int) = (((names rf).length + jj : Nat) : Int) by omega]
      · rintro ac2 H18 s18 hD8 hln hac2
        have hac18 := s18 _ _ hac
        refine ⟨ac, D, acc, ac2, rfl, rfl, hac18, hD8, small (by omega), fun p hp => ?_⟩
        have s19 := same_new (o := .lst (acc ++ ac2)) hp
        refine ⟨p, _, _, acc ++ ac2, rfl, s17.trans (s18.trans s19), upd_same, ?_⟩
        rw [acr_succ]
        exact paired_append (PrL.tk hacc (.of (s18.trans s19))) (PrL.tk hac2 (.of s19))
    rintro σ H17 ⟨ac, z12, z17, acc, rfl, s17, hac, hacc⟩
    rw [acr_all] at hacc
    have lc := hacc.len
    rw [across_len] at lc
    have lm : ((names rf).length - 0) * (names rs).length ≤ 4 * 4 := Nat.mul_le_mul (by omega) (by omega)
    have he17 := s17 _ _ he15
    have pe17 := PrL.tk pe15 (.of s17)
    have g2 := g2.tk (.of s17)
    have g3 := s17 _ _ g3
    have h2 := h2.tk (.of s17)
    have h3 := s17 _ _ h3
    have g4 := g4.tk (.of s17)
    have avf := At.tk (.of s17) rf x avf
    have avs := At.tk (.of s17) rs v avs
    have X17 : ExtN H10 H17 := X15.trans (.of s17)
    have T17 := T15.ext s17
    clear s17 s16 he15 pe15 X15 T15 hac0
    have okB : ∀ b, Ok (joined b [rf, rs]) := fun b => two_ok okf oks
    have dB : ∀ b, depth (joined b [rf, rs]) ≤ 9 := fun b => by
      have q1 := depth_le_size (okB b)
      rw [two_size] at q1
      omega
    have nmB : ∀ n ∈ names rf ++ names rs, isName n := fun n hn => (List.mem_append.mp hn).elim (nm1 n) (nm2 n)
    have lnB : (names rf ++ names rs).length ≤ 30 := by
      rw [List.length_append]
      omega
    have lmm : (((names rf).map V.str).length + ((names rs).map V.str).length) ≤ sizeLine := small (by rw [List.length_map, List.length_map]; omega)
    -- behind one another
    refine ⟨.ref a1, rfl, .ref a2, rfl, catA_rd ((g2).sq) ((h2).sq) lmm fun la H18 s18 hla => ?_⟩
    rw [← List.map_append] at hla
    have hla : SqT K H18 la ((names rf ++ names rs).map V.str) := hla
    refine ⟨.ref ev, rfl, .ref ac, rfl, ev, ac, _, _, rfl, rfl, s18 _ _ he17, s18 _ _ hac, small (by rw [List.length_append]; omega), fun pr hpr => ?_⟩
    have s19 := same_new (o := .lst ((xs1 ++ zs) ++ acc)) hpr
    refine run_call (SqT.sm hla s19) nmB lnB (.inl (SqL.of upd_same)) (paired_append (PrL.tk pe17 (.of (s18.trans s19))) (PrL.tk hacc (.of (s18.trans s19)))) (lay_behind L1 L2) (okB false) (by have := dB false; omega) (T17.ext (s18.trans s19)) fun vr H20 X20 T20 avr => ?_
    have X20 : ExtN H17 H20 := (ExtN.of (s18.trans s19)).trans X20
    refine ⟨x, rfl, v, rfl, small (show 2 ≤ 100000 by decide), fun pb hpb => ?_⟩
    have s21 := same_new (o := .lst [x, v]) hpb
    refine two_call upd_same (At.tk ((xt_tk X20).trans (.of s21)) rf x avf) (At.tk ((xt_tk X20).trans (.of s21)) rs v avs) okf oks zf zs' fun vb H22 s22 avb => ?_
    refine ne_run (At.tk (.of (s21.trans s22)) _ _ avr) avb (okB false) (by have := dB false; omega) ⟨false, rfl, iteF ?_⟩
    have X22 : ExtN H17 H22 := X20.trans (.of (s21.trans s22))
    have T22 := T20.ext (s21.trans s22)
    clear X20 T20 s21 s22 s18 s19 avr avb hla hpr hpb
    -- beside one another
    refine ⟨.ref a1, rfl, .ref a2, rfl, catA_rd ((g2.tk (xt_tk X22)).sq) ((h2.tk (xt_tk X22)).sq) lmm fun la H18 s18 hla => ?_⟩
    rw [← List.map_append] at hla
    have hla : SqT K H18 la ((names rf ++ names rs).map V.str) := hla
    have X18 : ExtN H17 H18 := X22.trans (.of s18)
    refine ⟨.ref ev, rfl, run_call hla nmB lnB (.inl (sqL_xt (SqL.of he17) X18)) (PrL.tk pe17 (xt_tk X18)) (lay_beside L1 L2) (okB true) (by have := dB true; omega) (T22.ext s18) fun vr H20 X20 T20 avr => ?_⟩
    have X20 : ExtN H17 H20 := X18.trans X20
    refine ⟨x, rfl, v, rfl, small (show 2 ≤ 100000 by decide), fun pb hpb => ?_⟩
    have s21 := same_new (o := .lst [x, v]) hpb
    refine two_call upd_same (At.tk ((xt_tk X20).trans (.of s21)) rf x avf) (At.tk ((xt_tk X20).trans (.of s21)) rs v avs) okf oks zf zs' fun vb H23 s22 avb => ?_
    refine ne_run (At.tk (.of (s21.trans s22)) _ _ avr) avb (okB true) (by have := dB true; omega) ⟨false, rfl, iteF ?_⟩
    have X23 : ExtN H17 H23 := X20.trans (.of (s21.trans s22))
    have T23 := T20.ext (s21.trans s22)
    clear X20 T20 s21 s22 s18 X18 avr avb hla hpb X22 T22
    -- turned
    have g23 := (xt_tk X23).tup _ _ g3
    have g24 := PrL.tk g4 (xt_tk X23)
    refine ⟨.ref a1, rfl, .ref b1, rfl, b1, rfl, ⟨_, SqT.of g23⟩, fun D hD => ?_⟩
    refine lcx (walk_tup (xs := xs1)) hD (by omega) (fun j acc H24 => PrL H24 acc ((ps1.take j).map fun p => (p.2, p.1))) .nil (fun H' s' => SqT.of (s' _ _ g23)) ?_ ?_
    · rintro j acc2 y H24 H25 Kt Kf hj s24 hD4 hlen hac2 fin _ ⟨rfl, hy⟩
      obtain ⟨p, hpi, b, rfl, hb⟩ := paired_get (PrL.tk g24 (.of s24)) hy
      refine ⟨b, _, rfl, SqT.of hb, rfl, _, _, rfl, _, _, rfl, rfl, rfl, yes_t ⟨.int (p.2 : Nat), rfl, .int (p.1 : Nat), rfl, small (show 2 ≤ 100000 by decide), fun t ht => ?_⟩⟩
      have s26 := same_new (o := .tup [.int ((p.2 : Nat) : Int), .int ((p.1 : Nat) : Int)]) ht
      refine fin _ _ s26 ?_
      rw [take_snoc hpi, List.map_append]
      have tk := (TK.of s26).trans (tk_lst (o := .lst (acc2 ++ [.ref t])) (s26 _ _ hD4))
      refine paired_append (PrL.tk hac2 tk) (.cons ⟨t, rfl, (tk_lst (s26 _ _ hD4)).tup _ _ ?_⟩ .nil)
      rw [upd_same]
    rintro acc2 H24 s24 hD4 hln hac2
    rw [List.take_of_length_le (by omega)] at hac2
    have X24 : ExtN H17 H24 := X23.trans (.of s24)
    have tp := turned_part rf okf
    have dtp := depth_le_size tp.1
    refine run_call ((g2.tk (xt_tk X24)).sq) nm1 (by omega) (.inl (SqL.of hD4)) hac2 (lay_turned L1 okf) tp.1 (by omega) (T23.ext s24) fun vr H25 X25 T25 avr => ?_
    have X25 : ExtN H17 H25 := X24.trans X25
    refine ⟨x, rfl, x, rf, rfl, At.tk (xt_tk X25) rf x avf, okf, by omega, by omega, fun vt H26 s26 avt => ?_⟩
    refine ne_run (At.tk (.of s26) _ _ avr) avt tp.1 (by omega) ⟨false, rfl, iteF ?_⟩
    have X26 : ExtN H17 H26 := X25.trans (.of s26)
    refine ⟨.ref a1, rfl, .ref b1, rfl, run_call ((g2.tk (xt_tk X26)).sq) nm1 (by omega) (.inr (SqT.of ((xt_tk X26).tup _ _ g3))) (PrL.tk g4 (xt_tk X26)) L1 okf (by omega) (T25.ext s26) fun vr H27 X27 T27 avr => ?_⟩
    have X27 : ExtN H17 H27 := X26.trans X27
    refine ⟨x, rfl, ne_run avr (At.tk (xt_tk X27) rf x avf) okf (by omega) ⟨false, rfl, iteF ?_⟩⟩
    clear avr avt X26 X25 X24 s26 T25 s24 hD4 hac2 hD g23 g24 X23 T23
    -- the counts
    have tk27 := xt_tk X27
    have m27 := g2.tk tk27
    refine ⟨.ref a1, rfl, a1, names rf, rfl, m27.sq, by unfold scanBound; omega, fun pS hpS => ?_⟩
    have s28 := same_new (o := SetSO P w pS (addAll (names rf))) hpS
    obtain ⟨ndA, meA⟩ := addAll_mem (names rf)
    have lnA := addAll_len (names rf)
    refine ⟨pS, addAll (names rf), rfl, upd_same, ndA, by omega, fun ys pq hyp hys hpq => ?_⟩
    have s29 := same_new (o := .lst (ys.map V.str)) hpq
    have hpq2 : (upd (upd H27 pS (SetSO P w pS (addAll (names rf)))) pq (.lst (ys.map V.str))) pq = some (.lst (ys.map V.str)) := upd_same
    have X29 : ExtN H17 (upd (upd H27 pS (SetSO P w pS (addAll (names rf)))) pq (.lst (ys.map V.str))) := X27.trans (.of (s28.trans s29))
    have T29 := T27.ext (s28.trans s29)
    have lny := hyp.length_eq
    have ndY := hyp.nodup_iff.mpr ndA
    refine ⟨pq, rfl, ⟨_, SqL.of hpq2⟩, fun D hD => ?_⟩
    refine lcx (walk_list (xs := ys.map V.str)) hD (by rw [List.length_map]; omega) (fun j acc H30 => ∃ ads : List Addr, acc = ads.map V.ref ∧ Paired (fun p (kv : Key × V) => SqT K H30 p [kV kv.1, kv.2]) ads (tab (fun n => .int ((names rf).count n : Nat)) (ys.take j))) ⟨[], rfl, .nil⟩ (fun H' s' => SqL.of (s' _ _ hpq2)) ?_ ?_
    · rintro j acc3 y H30 H31 Kt Kf hj s30 hD5 hlen ⟨ads, rfl, hads⟩ fin _ ⟨rfl, hy⟩
      rw [List.getElem?_map] at hy
      obtain ⟨z, hz, rfl⟩ := Option.map_eq_some_iff.mp hy
      have m31 := g2.tk ((xt_tk X29).trans (.of s30))
      refine ⟨rfl, yes_t ⟨.str z, rfl, .ref a1, rfl, ⟨a1, _, rfl, m31⟩, .str z, rfl, a1, names rf, z, rfl, rfl, m31.sq, small (show 2 ≤ 100000 by decide), fun t ht => ?_⟩⟩
      have s32 := same_new (o := .tup [.str z, .int ((names rf).count z : Nat)]) ht
      refine fin _ _ s32 ⟨ads ++ [t], by rw [List.map_append]; rfl, ?_⟩
      have e : tab (fun n => .int ((names rf).count n : Nat)) (ys.take (j + 1)) = tab (fun n => .int ((names rf).count n : Nat)) (ys.take j) ++ [(.inr z, .int ((names rf).count z : Nat))] := by
        unfold tab
        rw [take_snoc hz, List.map_append]
        rfl
      rw [e]
      have tk := (TK.of s32).trans (tk_lst (o := .lst (ads.map V.ref ++ [.ref t])) (s32 _ _ hD5))
      refine paired_append (hads.mono fun p kv h => SqT.tk h tk) (.cons ?_ .nil)
      exact SqT.of ((tk_lst (s32 _ _ hD5)).tup _ _ upd_same)
    rintro acc3 H30 s30 hD5 hln3 ⟨ads, rfl, hads⟩
    rw [List.length_map, List.take_length] at hads
    refine ⟨D, ads, _, rfl, SqL.of hD5, hads, fun pd hpd => ?_⟩
    have em : mergeK [] (tab (fun n => .int ((names rf).count n : Nat)) ys) = tab (fun n => .int ((names rf).count n : Nat)) ys := merge_tab _ ys [] ndY
    rw [em]
    have s33 := same_new (o := .dK (tab (fun n => .int ((names rf).count n : Nat)) ys)) hpd
    have tal : Tally (names rf) (tab (fun n => .int ((names rf).count n : Nat)) ys) := ⟨ys, ndY, sorted_pw _ hys, fun n => hyp.mem_iff.trans (meA n), rfl⟩
    have hpd2 : (upd H30 pd (.dK (tab (fun n => .int ((names rf).count n : Nat)) ys))) pd = some (.dK (tab (fun n => .int ((names rf).count n : Nat)) ys)) := upd_same
    have X33 : ExtN H17 (upd H30 pd (.dK (tab (fun n => .int ((names rf).count n : Nat)) ys))) := X29.trans (.of (s30.trans s33))
    have T33 := T29.ext (s30.trans s33)
    generalize upd H30 pd (.dK (tab (fun n => .int ((names rf).count n : Nat)) ys)) = H33 at *
    clear s28 s29 s30 s33 hD hD5 hads hpq2 hpd hpS hpq X29 T29 X27 T27 tk27 m27 em
    -- are they right?
    have cond : ∀ p ∈ ys.map (fun n => (n, (names rf).count n)), isName p.1 ∧ p.2 ≤ 64 := fun p hp => by
      obtain ⟨n, hn, rfl⟩ := List.mem_map.mp hp
      refine ⟨nm1 n ((meA n).mp (hyp.mem_iff.mp hn)), ?_⟩
      have : (names rf).count n ≤ (names rf).length := List.count_le_length
      show (names rf).count n ≤ 64
      omega
    have etab : tab (fun n => .int ((names rf).count n : Nat)) ys = tabCn (ys.map (fun n => (n, (names rf).count n))) := by
      unfold tab tabCn
      rw [List.map_map]
      rfl
    refine ⟨.ref a1, rfl, a1, _, rfl, .inr (g2.tk (xt_tk X33)).sq, x, rfl, x, rf, rfl, At.tk (xt_tk X33) rf x avf, okf, by omega, by omega, fun H34 s34 => ⟨rfl, _, rfl, ?_⟩⟩
    rw [List.length_map, show decide (V.int ((names rf).length : Nat) = V.int (size rf : Nat)) = true from decide_eq_true (by rw [n1])]
    refine iteF ?_
    refine ⟨x, rfl, x, rf, rfl, At.tk ((xt_tk X33).trans (.of s34)) rf x avf, okf, by omega, by omega, fun pT H35 kvs s35 hpT0 hpT htal => ?_⟩
    have ek := htal.uniq tal
    subst ek
    refine ⟨pT, ys.map (fun n => (n, (names rf).count n)), rfl, .inl (by rw [← etab]; exact hpT), by rw [List.length_map]; omega, cond, .ref pd, rfl, pd, ys.map (fun n => (n, (names rf).count n)), rfl, .inl (by rw [← etab]; exact s35 _ _ (s34 _ _ hpd2)), by rw [List.length_map]; omega, cond, rfl, _, rfl, ?_⟩
    rw [decide_eq_true rfl]
    refine iteF ?_
    have X35 : ExtN H17 H35 := X33.trans (.of (s34.trans s35))
    have T35 := T33.ext (s34.trans s35)
    clear s34 s35 hpT hpT0 X33 T33 hpd2 tal htal cond etab
    -- the order of both
    have avx := At.tk (xt_tk X35) rf x avf
    have avv := At.tk (xt_tk X35) rs v avs
    refine ⟨x, rfl, v, rfl, small (show 2 ≤ 100000 by decide), fun pb hpb => ?_⟩
    have s36 := same_new (o := .lst [x, v]) hpb
    have zB := two_size false rf rs
    refine two_call upd_same (At.tk (.of s36) rf x avx) (At.tk (.of s36) rs v avv) okf oks zf zs' fun vb H37 s37 avb => ?_
    refine ⟨vb, joined false [rf, rs], rfl, avb, okB false, by have := dB false; omega, by omega, fun vo3 ps3 H38 s38 pp3 oa3 => ?_⟩
    obtain ⟨t3, a3, b3, xs3, rfl, e1, e2, e3, e4⟩ := oa3
    have lx3 := e4.len
    have c1 := pp1.length_eq
    have c2 := pp2.length_eq
    have c3 := pp3.length_eq
    rw [prs_cnt] at c1 c2 c3
    rw [cR_behind] at c3
    have X38 : ExtN H17 H38 := X35.trans (.of (s36.trans (s37.trans s38)))
    have T38 := T35.ext (s36.trans (s37.trans s38))
    clear s36 s37 s38 avx avv hpb avb
    refine ⟨_, rfl, t3, _, 1, _, rfl, rfl, SqT.of e1, at_first _ _ _, b3, xs3, rfl, .inr (SqT.of e3), ?_⟩
    refine ⟨.ref b1, rfl, b1, xs1, rfl, .inr (SqT.of ((xt_tk X38).tup _ _ g3)), .ref b2, rfl, b2, xs2, rfl, .inr (SqT.of ((xt_tk X38).tup _ _ h3)), _, _, rfl, rfl, ?_⟩
    refine ⟨.ref a1, rfl, a1, _, rfl, .inr (g2.tk (xt_tk X38)).sq, .ref a2, rfl, a2, _, rfl, .inr (h2.tk (xt_tk X38)).sq, _, _, rfl, rfl, ?_, ?_⟩
    · refine .inl ⟨?_, ?_⟩
      · rw [List.length_map]; omega
      · rw [List.length_map]; omega
    refine ⟨_, _, rfl, rfl, rfl, _, rfl, ?_⟩
    have enum : V.int ((xs3.length : Nat) : Int) = V.int (((xs1.length : Nat) : Int) + ((xs2.length : Nat) : Int) + ((((names rf).map V.str).length : Nat) : Int) * ((((names rs).map V.str).length : Nat) : Int)) := by
      rw [List.length_map, List.length_map, n1, n2, show xs3.length = xs1.length + xs2.length + size rf * size rs by omega]
      push_cast
      rfl
    rw [decide_eq_true enum]
    refine iteF ?_
    have L3 := (lay_prs (joined false [rf, rs])).perm pp3
    have nl3 := names_len (joined false [rf, rs])
    refine ⟨_, rfl, t3, _, 0, _, rfl, rfl, SqT.of e1, at_zero _ _, _, rfl, t3, _, 1, _, rfl, rfl, SqT.of e1, at_first _ _ _, ?_⟩
    refine run_call e2.sq (names_name _ (okB false)) (by omega) (.inr (SqT.of e3)) e4 L3 (okB false) (by have := dB false; omega) T38 fun vr H39 X39 T39 avr => ?_
    have X39 : ExtN H17 H39 := X38.trans X39
    refine ⟨x, rfl, v, rfl, small (show 2 ≤ 100000 by decide), fun pb hpb => ?_⟩
    have s40 := same_new (o := .lst [x, v]) hpb
    refine two_call upd_same (At.tk ((xt_tk X39).trans (.of s40)) rf x avf) (At.tk ((xt_tk X39).trans (.of s40)) rs v avs) okf oks zf zs' fun vb2 H41 s41 avb => ?_
    refine ne_run (At.tk (.of (s40.trans s41)) _ _ avr) avb (okB false) (by have := dB false; omega) ⟨false, rfl, iteF ?_⟩
    have X41 : ExtN H17 H41 := X39.trans (.of (s40.trans s41))
    have T41 := T39.ext (s40.trans s41)
    have tps := turned_part rs oks
    have dts := depth_le_size tps.1
    refine ⟨v, rfl, v, rs, rfl, At.tk (xt_tk X41) rs v avs, oks, by omega, by omega, fun vt H42 s42 avt => ?_⟩
    refine ⟨vt, turned rs, rfl, avt, tps.1, by omega, by omega, fun vtt H43 s43 avtt => ?_⟩
    rw [turned_twice rs oks] at avtt
    refine ⟨v, rfl, ne_run avtt (At.tk ((xt_tk X41).trans (.of (s42.trans s43))) rs v avs) oks (by omega) ⟨false, rfl, iteF ?_⟩⟩
    exact ⟨t', _, _, _, _, _, _, _, _, _, _, _, _, _, _, _, _, _, rfl, A10'.xt (X17.trans (X41.trans (.of (s42.trans s43)))), ht', T41.ext (s42.trans s43)⟩
  -- behind the turns
  rintro σ H2 ⟨t, y2, y3, y4, y5, y6, y7, y8, y9, y10, y11, y12, y13, y14, y15, y16, y17, y18, rfl, _, _, T2⟩
  refine ⟨small (show 2 ≤ 100000 by decide), fun pa hpa => ⟨small (show 2 ≤ 100000 by decide), fun pb hpb => ⟨small (show 2 ≤ 100000 by decide), fun pc hpc => ⟨small (show 3 ≤ 100000 by decide), fun pl hpl => ?_⟩⟩⟩⟩
  have sa := same_new (o := .tup [.str (Str.ofString "step"), .str (Str.ofString "a")]) hpa
  have sb := same_new (o := .tup [.str (Str.ofString "step"), .str (Str.ofString "b")]) hpb
  have sc := same_new (o := .tup [.str (Str.ofString "step"), .str (Str.ofString "c")]) hpc
  have sl := same_new (o := .lst [.ref pa, .ref pb, .ref pc]) hpl
  have aa := At.tk (.of (sb.trans (sc.trans sl))) rA _ (step_at (K := K) hpa)
  have ab := At.tk (.of (sc.trans sl)) rB _ (step_at (K := K) hpb)
  have ac := At.tk (.of sl) rC _ (step_at (K := K) hpc)
  have T3 := T2.ext (sa.trans (sb.trans (sc.trans sl)))
  refine rep_call (n := 1) (ys := [rA, rB, rC]) (upd_same : (upd _ pl (.lst [.ref pa, .ref pb, .ref pc])) pl = _) (.cons aa (.cons ab (.cons ac .nil))) abc_ok (by rw [sizeL, sizeL, sizeL, sizeL, size, size, size]; omega) (by show 3 ≤ 1000; omega) fun vR H4 s4 avR => ?_
  have T4 := T3.ext s4
  clear aa ab ac sa sb sc sl hpa hpb hpc hpl T3 s4
  refine ⟨small (show 1 ≤ 100000 by decide), fun p5 hp5 => ?_⟩
  have s5 := same_new (o := .lst [vR]) hp5
  refine ⟨p5, 10, [vR], rfl, rfl, upd_same, by decide, by decide, small (show 10 ≤ 100000 by decide), fun p6 hp6 => ?_⟩
  have s6 := same_new (o := .lst (List.replicate (10 : Int).toNat [vR]).flatten) hp6
  have avR := At.tk (.of (s5.trans s6)) rRow vR avR
  have T6 := T4.ext (s5.trans s6)
  have hp6' : (upd (upd H4 p5 (.lst [vR])) p6 (.lst (List.replicate (10 : Int).toNat [vR]).flatten)) p6 = some (.lst (List.replicate (10 : Int).toNat [vR]).flatten) := upd_same
  generalize upd (upd H4 p5 (.lst [vR])) p6 (.lst (List.replicate (10 : Int).toNat [vR]).flatten) = H6 at *
  clear s5 s6 T4 hp5 hp6
  have okA : ∀ r ∈ [rA, rB], Ok r ∧ depth r ≤ 40 := fun r hr => abc_ok r (by
    simp only [List.mem_cons, List.not_mem_nil, or_false] at hr ⊢
    exact hr.elim .inl fun e => .inr (.inl e))
  -- the first job
  refine ⟨small (show 2 ≤ 100000 by decide), fun pa hpa => ⟨small (show 2 ≤ 100000 by decide), fun pb hpb => ⟨small (show 2 ≤ 100000 by decide), fun pl hpl => ?_⟩⟩⟩
  have sa := same_new (o := .tup [.str (Str.ofString "step"), .str (Str.ofString "a")]) hpa
  have sb := same_new (o := .tup [.str (Str.ofString "step"), .str (Str.ofString "b")]) hpb
  have sl := same_new (o := .lst [.ref pa, .ref pb]) hpl
  have aa := At.tk (.of (sb.trans sl)) rA _ (step_at (K := K) hpa)
  have ab := At.tk (.of sl) rB _ (step_at (K := K) hpb)
  refine ⟨pl, 15, [.ref pa, .ref pb], rfl, rfl, upd_same, by decide, by decide, small (show 30 ≤ 100000 by decide), fun p7 hp7 => ?_⟩
  have s7 := same_new (o := .lst (List.replicate 15 [V.ref pa, .ref pb]).flatten) hp7
  refine rep_call (n := 15) (ys := [rA, rB]) (upd_same : (upd _ p7 (.lst (List.replicate 15 [V.ref pa, .ref pb]).flatten)) p7 = _) (.cons (At.tk (.of s7) _ _ aa) (.cons (At.tk (.of s7) _ _ ab) .nil)) okA (by rw [sizeL, sizeL, sizeL, size, size]; omega) (by show 15 * 2 ≤ 1000; omega) fun v1 H8 s8 av1 => ?_
  have S8 : Same H6 H8 := sa.trans (sb.trans (sl.trans (s7.trans s8)))
  clear sa sb sl aa ab s7 s8 hpa hpb hpl hp7
  -- the second
  have dR : depth rRow ≤ 40 := by
    have := depth_le_size row_ok
    rw [row_size] at this
    omega
  refine ⟨.ref p6, rfl, rep_call (n := 10) (ys := [rRow]) (S8 _ _ hp6') (.cons (At.tk (.of S8) _ _ avR) .nil) (fun r hr => by rw [List.mem_singleton.mp hr]; exact ⟨row_ok, dR⟩) (by rw [sizeL_one, row_size]; omega) (by show 10 * 1 ≤ 1000; omega) fun v2 H9 s9 av2 => ?_⟩
  have S9 := S8.trans s9
  -- the third
  refine ⟨_, rfl, 2, rfl, p6, _, rfl, SqL.of (S9 _ _ hp6'), fun p10 hp10 => ?_⟩
  have s10 := same_new (o := .lst (List.replicate 2 [vR]).flatten) hp10
  refine rep_call (n := 2) (ys := [rRow]) (upd_same : (upd H9 p10 (.lst (List.replicate 2 [vR]).flatten)) p10 = _) (.cons (At.tk (.of (S9.trans s10)) _ _ avR) .nil) (fun r hr => by rw [List.mem_singleton.mp hr]; exact ⟨row_ok, dR⟩) (by rw [sizeL_one, row_size]; omega) (by show 2 * 1 ≤ 1000; omega) fun vT H11 s11 avT => ?_
  have dT : depth rTwo ≤ 40 := by
    have := depth_le_size two_ok2
    rw [two_size2] at this
    omega
  refine ⟨small (show 1 ≤ 100000 by decide), fun p12 hp12 => ?_⟩
  have s12 := same_new (o := .lst [vT]) hp12
  refine ⟨p12, 5, [vT], rfl, rfl, upd_same, by decide, by decide, small (show 5 ≤ 100000 by decide), fun p13 hp13 => ?_⟩
  have s13 := same_new (o := .lst (List.replicate 5 [vT]).flatten) hp13
  refine rep_call (n := 5) (ys := [rTwo]) (upd_same : (upd _ p13 (.lst (List.replicate 5 [vT]).flatten)) p13 = _) (.cons (At.tk (.of (s12.trans s13)) _ _ avT) .nil) (fun r hr => by rw [List.mem_singleton.mp hr]; exact ⟨two_ok2, dT⟩) (by rw [sizeL_one, two_size2]; omega) (by show 5 * 1 ≤ 1000; omega) fun v3 H14 s14 av3 => ?_
  have S11 := s10.trans (s11.trans (s12.trans (s13.trans s14)))
  refine ⟨small (show 3 ≤ 100000 by decide), fun pj hpj => ?_⟩
  have s15 := same_new (o := .lst [v1, v2, v3]) hpj
  have jobs : AtL K (upd H14 pj (.lst [v1, v2, v3])) [v1, v2, v3] [repR false 15 [rA, rB], repR true 10 [rRow], repR false 5 [rTwo]] :=
    .cons (At.tk (.of (s9.trans (S11.trans s15))) _ _ av1) (.cons (At.tk (.of (S11.trans s15)) _ _ av2) (.cons (At.tk (.of s15) _ _ av3) .nil))
  have T15 := T6.ext (S9.trans (S11.trans s15))
  have hpj' : (upd H14 pj (.lst [v1, v2, v3])) pj = some (.lst [v1, v2, v3]) := upd_same
  generalize upd H14 pj (.lst [v1, v2, v3]) = H15 at *
  clear S9 S11 s9 s10 s11 s12 s13 s14 s15 S8 av1 av2 av3 avT avR T6 hp6' hp10 hp12 hp13 hpj
  refine ⟨pj, rfl, ⟨_, SqL.of hpj'⟩, ?_⟩
  refine for_it (walk_list (xs := [v1, v2, v3])) (fun j σ H16 => ∃ (y14 y16 : Option V) (z2 z3 z4 z5 z6 z7 z8 z9 z10 z11 z12 z13 z15 z17 z18 : Option V), σ = [some (.ref a), some (.ref st), z2, z3, z4, z5, z6, z7, z8, z9, z10, z11, z12, z13, y14, z15, y16, z17, z18] ∧ ExtN H15 H16 ∧ Tabs T H16)
    ⟨_, _, _, _, _, _, _, _, _, _, _, _, _, _, _, _, _, rfl, ExtN.refl _, T15⟩ (fun j σ H16 _ ⟨_, _, _, _, _, _, _, _, _, _, _, _, _, _, _, _, _, _, X, _⟩ => sqL_xt (SqL.of hpj') X) ?_ ?_
  · rintro j x σ H16 H16' hj ⟨y14, y16, z2, z3, z4, z5, z6, z7, z8, z9, z10, z11, z12, z13, z15, z17, z18, rfl, X16, T16⟩ ⟨rfl, hx⟩
    obtain ⟨r, hr', hxr⟩ := paired_get jobs hx
    obtain ⟨okr, szr⟩ := jobs_ok r (List.mem_of_getElem? hr')
    have dr := depth_le_size okr
    refine ⟨x, rfl, x, r, rfl, At.tk (xt_tk X16) r x hxr, okr, by omega, by omega, fun vo ps H17 s17 pp oa => ?_⟩
    obtain ⟨t3, a3, b3, xs3, rfl, e1, e2, e3, e4⟩ := oa
    have X17 : ExtN H15 H17 := X16.trans (.of s17)
    refine ⟨x, rfl, x, r, rfl, At.tk (xt_tk X17) r x hxr, okr, by omega, by omega, fun H18 s18 => ⟨rfl, _, rfl, ?_⟩⟩
    rw [szr, decide_eq_true (show V.int ((30 : Nat) : Int) = V.int 30 from rfl)]
    refine iteF ?_
    have X18 : ExtN H15 H18 := X17.trans (.of s18)
    have tk := TK.of s18
    have L3 := (lay_prs r).perm pp
    have nl3 := names_len r
    refine ⟨_, rfl, t3, _, 0, _, rfl, rfl, SqT.of (tk.tup _ _ e1), at_zero _ _, _, rfl, t3, _, 1, _, rfl, rfl, SqT.of (tk.tup _ _ e1), at_first _ _ _, ?_⟩
    refine run_call (e2.tk tk).sq (names_name _ okr) (by omega) (.inr (SqT.of (tk.tup _ _ e3))) (PrL.tk e4 tk) L3 okr (by omega) (T16.ext (s17.trans s18)) fun vr H19 X19 T19 avr => ?_
    have X19 : ExtN H15 H19 := X18.trans X19
    refine ⟨x, rfl, ne_run avr (At.tk (xt_tk X19) r x hxr) okr (by omega) ⟨false, rfl, iteF ?_⟩⟩
    exact ⟨_, _, _, _, _, _, _, _, _, _, _, _, _, _, _, _, _, rfl, X19, T19⟩
  · rintro σ H16 ⟨y14, y16, z2, z3, z4, z5, z6, z7, z8, z9, z10, z11, z12, z13, z15, z17, z18, rfl, X16, T16⟩
    exact q _
end
end Fk

set_option Elab.async false
set_option linter.all false
set_option maxRecDepth 100000
set_option maxHeartbeats 2000000
/-! The law's def run at the caller's place alone (its guards are known there), and the end from such a run. -/
namespace Fk
open PySem PySem.Spec PyProof.Rows L2 LamX
section
variable {P : Program} {w : World} {K : PySem.W.Frag} {mg : Str → Option Value} {base : Heap}
/-- the run of a def of the text at one place A -/
theorem fun_at {x qual : Str} {st : Stmt} {f : Addr} {fd : FuncData} {N ps : List Str} {k : Nat} {A : Around} {outer : List Env} {s : Shared} {H : Hp} {args : Args} {us : List Value} {vs : List V} {Q : VK} {E : XK} (F : Fun K x qual st f fd) (S : FnScope N ps (defScope st)) (hl : vs.length = ps.length)
    (hr : Room (k + 1) A) (e0 : Env0 P w K mg base A outer s H) (hb : BindsTo s fd args (ps.zip us)) (r : Vals vs us)
    (hbody : ∀ cdv : Value, Room k (A.deeper (envOfC qual (defScope st) s.heap.objs.size f cdv)) → ∃ t, PSs (cxOf CX0 P w K mg base N qual (defScope st) f cdv A outer s H E).nox (defBody st) t ∧ t { nx := fun _ H' => Q .non H', rt := Q } (L2.start N vs) H) :
    codeAny (model P w) A (.call (.ref f) args) (CR CX0 outer P w H s Q E) s := by
  obtain ⟨oc, od, kV, doc, pm, an, cdv, ct, osl, rfl, lk, hcd⟩ := F.ex
  have grow : ∀ b o, base.get? b = some o → s.heap.get? b = some o := fun b o e => (e0.bs b o e).1
  have KX : K.In s.heap := e0.mod.kin.keeps grow
  refine codeAny_call_function hr.depth (KX _ _ lk) rfl S.co S.gen rfl (PySem.W.codeRec_of KX hcd) (hb _ _ _ _ (wpAny_newFunctionEnv_cells S.kind (fun ⟨n, v⟩ hy => ?_) fun env he s1 x => ?_))
  · exact (S.par n (List.of_mem_zip hy).1).imp id fun q => ⟨q, PySem.W.cellsFrom_some _ _ _ (.inl q)⟩
  subst he
  obtain ⟨t, ht, hq⟩ := hbody cdv (hr.deeper _)
  refine ⟨(e0.mod.nolimit.keeps grow).keeps x.toInCall.keep, codeAny_func (wpAny_mono (ht.nox.run [] s1 (L2.start N vs) H _ (inv_start S hr.hd e0 hl r x) hq) (fun fl s' hs => ?_) fun e s' hs => hs)⟩
  cases fl with
  | ret u =>
    obtain ⟨v, σ', H', J, rv, q⟩ := hs
    exact ⟨v, H', J.os, J.bare, J.base, J.hok, rv, q⟩
  | next =>
    obtain ⟨σ', H', J, q⟩ := hs
    exact ⟨V.non, H', J.os, J.bare, J.base, J.hok, rfl, q⟩
  | brk => exact False.elim hs.choose_spec.choose_spec.2
  | cont => exact False.elim hs.choose_spec.choose_spec.2
end
end Fk

set_option Elab.async false
set_option linter.all false
set_option maxRecDepth 100000
set_option maxHeartbeats 2000000
/-! The end: the law's call from the caller's place, one table of code objects. -/
namespace Fk
open PySem PySem.Spec PyProof.Rows L2 LamX
/-- the script's list, the empty table -/
abbrev lstO (vs : List Value) : Obj := { cls := .type "list", data := .seq vs.toArray }
abbrev tabO : Obj := { cls := .none, data := .fields #[] }
/-- what is tracked at the start -/
structure Begin (P : Program) (w : World) (K : PySem.W.Frag) (H : Hp) (h : Heap) (a Pt : Addr) (vs : List Value) (ns : List Int) : Prop where
  tab : H Pt = some (.tbl #[])
  only : ∀ b u, H b = some u → (b = Pt) ∨ (b = a ∧ K.lookup a = none ∧ u = .frz (lstO vs) (.lst (ns.map V.int)))
  sq : SqL K H a (ns.map V.int)
  ok : HOk P w H h
section
variable {P : Program} {w : World} {K : PySem.W.Frag} {mg mb : Str → Option Value} {fa a c Pt : Addr} {s₁ : Shared} {vs : List Value} {ns : List Int} {H : Hp}
theorem begin_of (KX : K.In s₁.heap) (hT : s₁.heap.get? Pt = some tabO) (nT : K.lookup Pt = none) (ha : s₁.heap.get? a = some (lstO vs)) (hi : IntsAre vs ns) (hl : ns.length ≤ sizeLine) : ∃ H, Begin P w K H s₁.heap a Pt vs ns := by
  have rv := vals_ints hi
  have lenV := hi.length
  have na : a ≠ Pt := fun e => by
    rw [e, hT] at ha
    have z := congrArg Obj.data (Option.some.inj ha)
    cases z
  have okT : ∀ H : Hp, ObjOk P w H s₁.heap Pt (.tbl #[]) := fun _ => hT
  cases hk : K.lookup a with
  | some o =>
    have e := KX a o hk
    rw [ha] at e
    cases e
    refine ⟨upd (fun _ => none) Pt (.tbl #[]), upd_same, fun b u z => ?_, .inr ⟨_, vs.toArray, _, hk, rfl, rfl, rfl, by rw [List.size_toArray, lenV]; exact hl, by simpa using rv⟩, fun b u z => ?_⟩
    · by_cases hb : b = Pt
      · exact .inl hb
      · rw [upd_ne hb] at z
        cases z
    · by_cases hb : b = Pt
      · rw [hb, upd_same] at z
        cases z
        rw [hb]
        exact okT _
      · rw [upd_ne hb] at z
        cases z
  | none =>
    refine ⟨upd (upd (fun _ => none) a (.frz (lstO vs) (.lst (ns.map V.int)))) Pt (.tbl #[]), upd_same, fun b u z => ?_, .inl (.inr ⟨lstO vs, by rw [upd_ne na]; exact upd_same⟩), fun b u z => ?_⟩
    · by_cases hb : b = Pt
      · exact .inl hb
      · rw [upd_ne hb] at z
        by_cases hb2 : b = a
        · rw [hb2, upd_same] at z
          cases z
          exact .inr ⟨hb2, hk, rfl⟩
        · rw [upd_ne hb2] at z
          cases z
    · by_cases hb : b = Pt
      · rw [hb, upd_same] at z
        cases z
        rw [hb]
        exact okT _
      · rw [upd_ne hb] at z
        by_cases hb2 : b = a
        · rw [hb2, upd_same] at z
          cases z
          rw [hb2]
          exact ⟨ha, by rw [List.length_map]; exact hl, vs, _, rv, ha⟩
        · rw [upd_ne hb2] at z
          cases z
theorem Begin.none (B : Begin P w K H s₁.heap a Pt vs ns) (hT : s₁.heap.get? Pt = some tabO) (ha : s₁.heap.get? a = some (lstO vs)) {b : Addr} {o : Obj} (e : s₁.heap.get? b = some o) (n1 : o ≠ lstO vs) (n2 : o ≠ tabO) : H b = none := by
  cases q : H b with
  | none => rfl
  | some u =>
    rcases B.only b u q with rfl | ⟨rfl, _⟩
    · rw [hT] at e
      exact absurd (Option.some.inj e).symm n2
    · rw [ha] at e
      exact absurd (Option.some.inj e).symm n1
/-- the end -/
theorem law_callG (KX : K.In s₁.heap) (hns : s₁.heap.Ns mainGlobals mg) (hb : s₁.heap.Ns builtinsNs mb) (hbb : ∀ x : Str, x ≠ "__name__" → mb x = bootBuiltins x) (hlim : s₁.heap.NoLimit) (hg : s₁.gens = #[])
    (hT : s₁.heap.get? Pt = some tabO) (nT : K.lookup Pt = none) (C : PySem.W.CodeHd s₁.heap c Pt)
    (hbm : ∃ (bm : Addr) (ob : Obj), mg "__builtins__" = some (.ref bm) ∧ bm ≠ builtinsNs ∧ s₁.heap.get? bm = some ob ∧ ob.cls = .type "module" ∧ ob.dict = some builtinsNs ∧ ob.data = .plain)
    (ha : s₁.heap.get? a = some (lstO vs)) (hi : IntsAre vs ns) (hl : ns.length ≤ sizeLine)
    (F : ∀ (base : Heap) (H : Hp), K.In base → base.Ns mainGlobals mg → TabB base mg c Pt → Env0 P w K mg base callerA [] s₁ H → H Pt = some (.tbl #[]) → SqL K H a (ns.map V.int) →
      codeAny (model P w) callerA (.call (.ref fa) ⟨[.ref a], []⟩) (CR CX0 [] P w H s₁ (fun v _ => v = .bl true) E0) s₁) :
    codeAny (model P w) callerA (.call (.ref fa) ⟨[.ref a], []⟩) (fun r s' => r = .ok (.ret (.bool true)) ∧ OldK s₁.heap s'.heap ∧ s'.os = s₁.os ∧ AllBare s'.gens) s₁ := by
  obtain ⟨H, B⟩ := begin_of (P := P) (w := w) KX hT nT ha hi hl
  have up : ∀ {b : Addr} {o : Obj}, s₁.heap.get? b = some o → o ≠ lstO vs → o ≠ tabO → (hidT s₁.heap H).get? b = some o := fun e n1 n2 => hidT_get e (B.none hT ha e n1 n2)
  have nsK : ∀ {b : Addr} {m : Str → Option Value}, s₁.heap.Ns b m → (hidT s₁.heap H).Ns b m := fun {b m} ⟨o, es, ep, e, d, r⟩ => ⟨o, es, ep, up e (fun z => by rw [z] at d; cases d) (fun z => by rw [z] at d; cases d), d, r⟩
  have hKb : K.In (hidT s₁.heap H) := fun b o e => hidT_get (KX b o e) (by
    cases q : H b with
    | none => rfl
    | some u =>
      rcases B.only b u q with rfl | ⟨rfl, k, _⟩
      · rw [nT] at e
        cases e
      · rw [k] at e
        cases e)
  have hM : L2.Mod K mg (hidT s₁.heap H) := ⟨hKb, nsK hns, ⟨mb, nsK hb, hbb⟩, let ⟨mc, h1, h2⟩ := hlim; ⟨mc, nsK h1, h2⟩⟩
  have e0 : Env0 P w K mg (hidT s₁.heap H) callerA [] s₁ H := ⟨rfl, hM, fun b o e => of_hidT e, Nat.le_of_eq (hidT_size _ _), trivial, fun b hb => absurd (show b ∈ ([] : List Addr) from hb) (by simp), B.ok, .of_eq hg⟩
  have TB : TabB (hidT s₁.heap H) mg c Pt := by
    refine ⟨?_, ?_, fun z => ?_⟩
    · obtain ⟨o, us, file, tf, flags, tg, inF, text, tt, e1, r1, r2, r3, rest⟩ := C
      refine ⟨o, us, file, tf, flags, tg, inF, text, tt, up e1 (fun z => ?_) (fun z => ?_), r1, r2, r3, rest⟩
      · rw [z] at r2
        cases r2
      · rw [z] at r2
        cases r2
        simp at r3
    · obtain ⟨bm, ob, b1, b2, b3, b4, b5, b6⟩ := hbm
      refine ⟨bm, ob, b1, b2, fun q => ?_, fun q => ?_, up b3 (fun z => ?_) (fun z => ?_), b4, b5, b6⟩
      · obtain ⟨o, es, ep, e, hd, _⟩ := hns
        rw [q, e] at b3
        cases b3
        rw [hd] at b6
        cases b6
      · rw [q, hT] at b3
        cases b3
        cases b6
      · rw [z] at b6
        cases b6
      · rw [z] at b6
        cases b6
    · obtain ⟨o, es, ep, e, hd, _⟩ := hns
      rw [z, hT] at e
      cases e
      cases hd
  refine codeAny_mono (F _ H hKb (nsK hns) TB e0 B.tab B.sq) fun r s' h => ?_
  cases r with
  | error e => exact False.elim h
  | ok fl =>
    cases fl with
    | next => exact False.elim h
    | brk => exact False.elim h
    | cont => exact False.elim h
    | ret u =>
      obtain ⟨v, H', os, bare, un, hok', r', q⟩ := h
      obtain rfl : v = .bl true := q
      obtain rfl : u = Value.bool true := r'
      have grown : ∃ more : Array Value, s'.heap.get? Pt = some { cls := .none, data := .fields more } := by
        obtain ⟨more, z⟩ := un.tbls Pt #[] B.tab
        exact ⟨_, hok' Pt _ z⟩
      have key : ∀ b o, b ≠ Pt → s₁.heap.get? b = some o → s'.heap.get? b = some o := fun b o nb e => by
        cases q : H b with
        | none => exact un.keep b o e q (by intro z; exact absurd (show b ∈ ([] : List Addr) from z) (by simp)) (by simp)
        | some u =>
          rcases B.only b u q with z | ⟨rfl, _, rfl⟩
          · exact absurd z nb
          · obtain ⟨e1, _⟩ := B.ok b _ q
            obtain ⟨e2, _⟩ := hok' b _ (un.frzs b _ _ q)
            rw [e] at e1
            cases e1
            exact e2
      refine ⟨rfl, ⟨fun b o e => ?_, fun b o e => ?_⟩, os, bare⟩
      · by_cases hbP : b = Pt
        · obtain ⟨more, hm⟩ := grown
          rw [hbP] at e ⊢
          rw [hT] at e
          cases e
          exact .inr (.inl ⟨(C.tab hT).isCodeTable, rfl, #[], more, rfl, by rw [Array.empty_append]; exact hm⟩)
        · exact .inl (key b o hbP e)
      · by_cases hbP : b = Pt
        · obtain ⟨more, hm⟩ := grown
          rw [hbP]
          exact ⟨_, hm⟩
        · exact ⟨o, key b o hbP e⟩
end
end Fk

set_option Elab.async false
set_option linter.all false
set_option maxRecDepth 100000
set_option maxHeartbeats 2000000
/-! The walk's end, and the defs as the top leaves them. -/
namespace Fk
open PySem PySem.Spec PyProof.Rows L2 LamX
theorem walk_ofG {l : PySem.W.OpenLaw} {n : Nat} {q : Program} {loose : List Str} {XP : (Str → Option Value) → Heap → Prop} {YP : World → Heap → Prop} {d d2 : DefRec} {x : Str} {K : Params → PySem.W.Frag}
    (hn : l.most = some n) (hn2 : n ≤ sizeLine) (hdf : d.params.defaults = []) (hrec : (recsOf q).find? (fun e => e.name == x) = some d2) (hY : ∀ (w : World) (h : Heap), YP w h → (K w.params).In h)
    (F : ∀ (w : World) (mg : Str → Option Value) (fa : Addr) (h : Heap), (K w.params).In h → h.Ns mainGlobals mg → mg d.name = some (.ref fa) → ∃ (c Pt : Addr), PySem.W.tabIn (K w.params) x = some (c, Pt) ∧ (K w.params).lookup Pt = none ∧
      ∀ (s₁ : Shared) (a : Addr) (ns : List Int) (base : Heap) (H : Hp), (K w.params).In s₁.heap → ns.length ≤ n → (K w.params).In base → base.Ns mainGlobals mg → TabB base mg c Pt → Env0 l.prog w (K w.params) mg base callerA [] s₁ H → H Pt = some (.tbl #[]) → SqL (K w.params) H a (ns.map V.int) →
        codeAny (model l.prog w) callerA (.call (.ref fa) ⟨[.ref a], []⟩) (CR CX0 [] l.prog w H s₁ (fun v _ => v = .bl true) E0) s₁) :
    PySem.W.WalkO q loose XP YP l.row.toRowW d [] (fun f vs => PySem.call f vs) := by
  refine Att.attach_callB hn hdf fun w s₀ s₁ mg mb fa o pm cd doc a vs ns G Y ho hd hcd hmg hobj hints hlen hbits hg => ?_
  have KX := hY w _ Y
  obtain ⟨c, Pt, ht, nT, run⟩ := F w mg fa _ KX G.T.g hmg
  obtain ⟨C, hT⟩ := PySem.W.tab_of G.T KX hrec ht
  exact law_callG KX G.T.g G.T.b G.T.builtins G.T.nolimit hg hT nT C G.T.bmain hobj hints (Nat.le_trans hlen hn2) fun base H => run s₁ a ns base H KX hlen
/-- a def, from what is found in the fragment -/
theorem dn_mk {K : PySem.W.Frag} {h : Heap} {mg : Str → Option Value} {x : Str} {st : Stmt} {ps : List Str} {f : Addr} {oc : Value} {od an : Option Addr} {osl : Array (Option Value)} {kV doc pm cdv ct : Value} (X : K.In h) (G : h.Ns mainGlobals mg)
    (hb : ∀ (kV doc pm : Value) (an : Option Addr) (cdv ct : Value) (us : List Value), us.length = ps.length → bindArgs (PySem.W.fnOf x x (defArgs st) (defBody st) (defScope st) .none kV doc pm an cdv ct) ⟨us, []⟩ = pure (ps.zip us))
    (a : PySem.W.nsIn K mainGlobals x = some (some (.ref f))) (l : K.lookup f = some ⟨oc, od, .func (PySem.W.fnOf x x (defArgs st) (defBody st) (defScope st) .none kV doc pm an cdv ct), osl⟩) (c : PySem.W.codeIn K cdv x = true) (k : PySem.W.keepIn K (.ref f) = true) :
    ∃ f fd, Dn K mg x st ps f fd := by
  have F := fun_mk (st := st) l c k
  exact ⟨f, _, F, F.binds hb, PySem.W.mg_of X G a⟩
/-- a def whose code object is known -/
theorem dnC_mk {K : PySem.W.Frag} {h : Heap} {mg : Str → Option Value} {x : Str} {st : Stmt} {ps : List Str} {f cc Pt : Addr} {oc : Value} {od an : Option Addr} {osl : Array (Option Value)} {kV doc pm cdv ct : Value} (X : K.In h) (G : h.Ns mainGlobals mg)
    (hb : ∀ (kV doc pm : Value) (an : Option Addr) (cdv ct : Value) (us : List Value), us.length = ps.length → bindArgs (PySem.W.fnOf x x (defArgs st) (defBody st) (defScope st) .none kV doc pm an cdv ct) ⟨us, []⟩ = pure (ps.zip us))
    (a : PySem.W.nsIn K mainGlobals x = some (some (.ref f))) (l : K.lookup f = some ⟨oc, od, .func (PySem.W.fnOf x x (defArgs st) (defBody st) (defScope st) .none kV doc pm an cdv ct), osl⟩) (c : PySem.W.codeIn K cdv x = true) (k : PySem.W.keepIn K (.ref f) = true) (t : PySem.W.tabIn K x = some (cc, Pt)) :
    ∃ f fd, DnC K mg x st ps f fd cc := by
  have e : cdv = .ref cc := PySem.W.law_code X G t (PySem.W.mg_of X G a) (X _ _ l) rfl
  subst e
  have F := fun_mk (st := st) l c k
  exact ⟨f, _, ⟨oc, od, kV, doc, pm, an, ct, osl, rfl, l, c⟩, k, F.binds hb, PySem.W.mg_of X G a⟩
end Fk

set_option Elab.async false
set_option linter.all false
set_option maxRecDepth 100000
set_option maxHeartbeats 2000000
/-! The defs' promises joined. -/
namespace Fk
open PySem PySem.Spec PyProof.Rows L2 LamX
structure Tops (K : PySem.W.Frag) (mg : Str → Option Value) (c : Addr) : Prop where
  dis_number : ∃ f fd, Dn K mg "is_number" s_is_number ["thing"] f fd
  dis_list : ∃ f fd, Dn K mg "is_list" s_is_list ["thing"] f fd
  dis_name : ∃ f fd, Dn K mg "is_name" s_is_name ["thing"] f fd
  dhas_word : ∃ f fd, Dn K mg "has_word" s_has_word ["thing"] f fd
  dare_parts : ∃ f fd, Dn K mg "are_parts" s_are_parts ["things", "word"] f fd
  dis_run : ∃ f fd, Dn K mg "is_run" s_is_run ["thing"] f fd
  dneed_run : ∃ f fd, Dn K mg "need_run" s_need_run ["run"] f fd
  dneed_runs : ∃ f fd, Dn K mg "need_runs" s_need_runs ["runs"] f fd
  djoined : ∃ f fd, Dn K mg "joined" s_joined ["word", "parts"] f fd
  dsize_of : ∃ f fd, Dn K mg "size_of" s_size_of ["run"] f fd
  dsize : ∃ f fd, Dn K mg "size" s_size ["run"] f fd
  dnames_along : ∃ f fd, Dn K mg "names_along" s_names_along ["run"] f fd
  dsteps : ∃ f fd, Dn K mg "steps" s_steps ["run"] f fd
  dbehind : ∃ f fd, Dn K mg "behind" s_behind ["runs"] f fd
  dbeside : ∃ f fd, Dn K mg "beside" s_beside ["runs"] f fd
  dturned_of : ∃ f fd, Dn K mg "turned_of" s_turned_of ["run"] f fd
  dturned : ∃ f fd, Dn K mg "turned" s_turned ["run"] f fd
  dis_index : ∃ f fd, Dn K mg "is_index" s_is_index ["thing", "many"] f fd
  dneed_labels : ∃ f fd, Dn K mg "need_labels" s_need_labels ["labels"] f fd
  dare_pairs : ∃ f fd, Dn K mg "are_pairs" s_are_pairs ["pairs", "many"] f fd
  dreached_from : ∃ f fd, Dn K mg "reached_from" s_reached_from ["start", "ways"] f fd
  daheads : ∃ f fd, Dn K mg "aheads" s_aheads ["labels", "pairs"] f fd
  dpairs_of : ∃ f fd, Dn K mg "pairs_of" s_pairs_of ["run", "begun"] f fd
  dorder_of : ∃ f fd, Dn K mg "order_of" s_order_of ["run"] f fd
  dgroups_of : ∃ f fd, Dn K mg "groups_of" s_groups_of ["some", "ways"] f fd
  drun_of : ∃ f fd, Dn K mg "run_of" s_run_of ["labels", "pairs"] f fd
  d_law_begun : ∃ f fd, Dn K mg "_law_begun" s_begun ["_law_script"] f fd
  d_law_mixed : ∃ f fd, Dn K mg "_law_mixed" s_mixed ["_law_state"] f fd
  d_law_take : ∃ f fd, Dn K mg "_law_take" s_take ["_law_state", "_law_total"] f fd
  d_law_pick : ∃ f fd, Dn K mg "_law_pick" s_pick ["_law_state", "_law_some"] f fd
  d_law_shuffled : ∃ f fd, Dn K mg "_law_shuffled" s_shuffled ["_law_state", "_law_some"] f fd
  d_law_names : ∃ f fd, Dn K mg "_law_names" s_names ["_law_state", "_law_many"] f fd
  d_law_joined : ∃ f fd, Dn K mg "_law_joined" s_ljoined ["_law_way", "_law_jobs"] f fd
  d_law_run : ∃ f fd, Dn K mg "_law_run" s_lrun ["_law_state", "_law_words", "_law_upto"] f fd
  d_law_moved : ∃ f fd, Dn K mg "_law_moved" s_moved ["_law_some", "_law_many"] f fd
  dlaw : ∃ f fd, Dn K mg "law" s_law ["_law_script"] f fd
  ddrawn : ∃ f fd, DnC K mg "drawn" s_drawn ["labels", "ahead", "some"] f fd c
  B : Blt mg
  N : Ntg K mg
theorem f_mk {A B C : Addr → Addr → Prop} (h1 : ∃ c Pt, A c Pt ∧ B c Pt) (h2 : ∀ c Pt, A c Pt → B c Pt → C c Pt) : ∃ c Pt, A c Pt ∧ B c Pt ∧ C c Pt :=
  let ⟨c, Pt, a, b⟩ := h1
  ⟨c, Pt, a, b, h2 c Pt a b⟩
theorem tab_ex {K : PySem.W.Frag} {x : Str} {f c Pt : Addr} {oc oc2 : Value} {od od2 : Option Addr} {fd : FuncData} {vs : Array Value} {sl sl2 : Array (Option Value)} (a : PySem.W.nsIn K mainGlobals x = some (some (.ref f))) (l : K.lookup f = some ⟨oc, od, .func fd, sl⟩) (hc : fd.code = .ref c)
    (lc : K.lookup c = some ⟨oc2, od2, .fields vs, sl2⟩) (hP : (vs[11]? : Option Value) = some (.ref Pt)) (n : K.lookup Pt = none) : ∃ c Pt, PySem.W.tabIn K x = some (c, Pt) ∧ K.lookup Pt = none := by
  refine ⟨c, Pt, ?_, n⟩
  unfold PySem.W.tabIn
  rw [a]
  dsimp only
  rw [l]
  dsimp only
  rw [hc]
  dsimp only
  rw [lc]
  dsimp only
  rw [hP]
theorem cst_mk {K : PySem.W.Frag} {h : Heap} {mg : Str → Option Value} {x : Str} {v : Value} {F : Tok → Value} (X : K.In h) (G : h.Ns mainGlobals mg) (e : PySem.W.nsIn K mainGlobals x = some (some v)) (hv : ∃ t, v = F t) : ∃ t, mg x = some (F t) := by
  obtain ⟨t, rfl⟩ := hv
  exact ⟨t, PySem.W.mg_of X G e⟩
theorem ntg_mk {K : PySem.W.Frag} {h : Heap} {mg : Str → Option Value} {a : Addr} {dd : Option Addr} {n : Nat} {sl : Array (Option Value)} {t : Tok} (X : K.In h) (G : h.Ns mainGlobals mg) (e : PySem.W.nsIn K mainGlobals "NOTHING" = some (some (.ref a)))
    (l : K.lookup a = some ⟨.type "tuple", dd, .seq #[.str (Str.ofString "nothing") t] n, sl⟩) : Ntg K mg :=
  ⟨a, PySem.W.mg_of X G e, fun H => .inr ⟨_, _, _, l, rfl, rfl, small (show 1 ≤ 100000 by decide), .cons ⟨t, rfl⟩ .nil⟩⟩
section
variable {P : Program} {w : World} {K : PySem.W.Frag} {mg : Str → Option Value} {base : Heap} {c Pt : Addr}
theorem cs_of (D : Tops K mg c) (TB : TabB base mg c Pt) : Cs P w K mg base 95 [(Pt, (Str.ofString "drawn" ++ Str.ofString ".<locals>.") ++ Str.ofString "<lambda>")] := by
  have B := D.B
  have N := D.N
  have TT : Tbl base mg [(Pt, (Str.ofString "drawn" ++ Str.ofString ".<locals>.") ++ Str.ofString "<lambda>")] c Pt := ⟨TB, List.mem_singleton.mpr rfl, fun p hp _ => by rw [List.mem_singleton.mp hp]⟩
  obtain ⟨_, _, eis_number⟩ := D.dis_number
  obtain ⟨_, _, eis_list⟩ := D.dis_list
  obtain ⟨_, _, eis_name⟩ := D.dis_name
  obtain ⟨_, _, ehas_word⟩ := D.dhas_word
  obtain ⟨_, _, eare_parts⟩ := D.dare_parts
  obtain ⟨_, _, eis_run⟩ := D.dis_run
  obtain ⟨_, _, eneed_run⟩ := D.dneed_run
  obtain ⟨_, _, eneed_runs⟩ := D.dneed_runs
  obtain ⟨_, _, ejoined⟩ := D.djoined
  obtain ⟨_, _, esize_of⟩ := D.dsize_of
  obtain ⟨_, _, esize⟩ := D.dsize
  obtain ⟨_, _, enames_along⟩ := D.dnames_along
  obtain ⟨_, _, esteps⟩ := D.dsteps
  obtain ⟨_, _, ebehind⟩ := D.dbehind
  obtain ⟨_, _, ebeside⟩ := D.dbeside
  obtain ⟨_, _, eturned_of⟩ := D.dturned_of
  obtain ⟨_, _, eturned⟩ := D.dturned
  obtain ⟨_, _, eis_index⟩ := D.dis_index
  obtain ⟨_, _, eneed_labels⟩ := D.dneed_labels
  obtain ⟨_, _, eare_pairs⟩ := D.dare_pairs
  obtain ⟨_, _, ereached_from⟩ := D.dreached_from
  obtain ⟨_, _, eaheads⟩ := D.daheads
  obtain ⟨_, _, epairs_of⟩ := D.dpairs_of
  obtain ⟨_, _, eorder_of⟩ := D.dorder_of
  obtain ⟨_, _, egroups_of⟩ := D.dgroups_of
  obtain ⟨_, _, erun_of⟩ := D.drun_of
  obtain ⟨_, _, e_law_begun⟩ := D.d_law_begun
  obtain ⟨_, _, e_law_mixed⟩ := D.d_law_mixed
  obtain ⟨_, _, e_law_take⟩ := D.d_law_take
  obtain ⟨_, _, e_law_pick⟩ := D.d_law_pick
  obtain ⟨_, _, e_law_shuffled⟩ := D.d_law_shuffled
  obtain ⟨_, _, e_law_names⟩ := D.d_law_names
  obtain ⟨_, _, e_law_joined⟩ := D.d_law_joined
  obtain ⟨_, _, e_law_run⟩ := D.d_law_run
  obtain ⟨_, _, e_law_moved⟩ := D.d_law_moved
  obtain ⟨_, _, edrawn⟩ := D.ddrawn
  have hword : Kn P w K mg base 1 "has_word" (sp_has_word K) := ok_has_word (k := 0) ehas_word B
  have hname : Kn P w K mg base 1 "is_name" sp_is_name := ok_is_name (k := 0) eis_name B
  have hlist : Kn P w K mg base 1 "is_list" (sp_is_list K) := ok_is_list (k := 0) eis_list B
  have hnum : Kn P w K mg base 1 "is_number" sp_is_number := ok_is_number (k := 0) eis_number B
  have hrun : Kn P w K mg base 82 "is_run" (sp_is_run K 40) := both_is_run eis_run eare_parts B hword hname 40 (by omega)
  have nrun : Kn P w K mg base 83 "need_run" (sp_need_run K) := ok_need_run eneed_run hrun (Nat.le_refl _)
  have nruns : Kn P w K mg base 83 "need_runs" (sp_need_runs K) := ok_need_runs eneed_runs B hrun hlist (Nat.le_refl _) (by omega)
  have hjoin : Kn P w K mg base 1 "joined" (sp_joined K) := ok_joined (k := 0) ejoined B N
  have hsizeof : Kn P w K mg base 40 "size_of" (sp_size_of K 40) := all_size_of esize_of B 40
  have hsize : Kn P w K mg base 84 "size" (sp_size K) := ok_size esize nrun hsizeof (Nat.le_refl _) (by omega)
  have hnames : Kn P w K mg base 40 "names_along" (sp_names K 40) := all_names enames_along B 40
  have hsteps : Kn P w K mg base 84 "steps" (sp_steps K) := ok_steps esteps B nrun hnames (Nat.le_refl _) (by omega)
  have hbehind : Kn P w K mg base 84 "behind" (sp_behind K false) := ok_behind ebehind nruns hjoin (Nat.le_refl _) (by omega)
  have hbeside : Kn P w K mg base 84 "beside" (sp_behind K true) := ok_beside ebeside nruns hjoin (Nat.le_refl _) (by omega)
  have hturnedof : Kn P w K mg base (1 + 40) "turned_of" (sp_turned K 40) := all_turned eturned_of hjoin 40
  have hturned : Kn P w K mg base 84 "turned" (sp_turned K 40) := ok_turned eturned nrun hturnedof (Nat.le_refl _) (by omega)
  have hindex : Kn P w K mg base 2 "is_index" sp_is_index := ok_is_index eis_index hnum (Nat.le_refl _)
  have hlabels : Kn P w K mg base 2 "need_labels" (sp_need_labels K) := ok_need_labels eneed_labels B hlist hname (Nat.le_refl _) (Nat.le_refl _)
  have harep : Kn P w K mg base 3 "are_pairs" (sp_are_pairs K) := ok_are_pairs eare_pairs B hlist hindex (by omega) (Nat.le_refl _)
  have hreach : Kn P w K mg base 1 "reached_from" (sp_reached K) := ok_reached (k := 0) ereached_from B
  have haheads : Kn P w K mg base 4 "aheads" (sp_aheads K) := ok_aheads eaheads B hlabels harep hreach (by omega) (Nat.le_refl _) (by omega)
  have hpairs : Kn P w K mg base 40 "pairs_of" (sp_pairs K 40) := all_pairs epairs_of B 40
  have horder : Kn P w K mg base 84 "order_of" (sp_order K) := ok_order eorder_of B nrun hnames hpairs (Nat.le_refl _) (by omega) (by omega)
  have hgroups : Kn P w K mg base 4 "groups_of" (sp_groups K) := ok_groups (k := 3) egroups_of B hreach (by omega)
  have hdrawn := all_drawn (P := P) (w := w) (l := 4) edrawn B N TT hgroups (hjoin.mono (by omega)) (by omega) 40 (by omega)
  have hrunof := ok_run_of (k := 44) erun_of B haheads hdrawn (by omega) (by omega)
  have hbegun : Kn P w K mg base 1 "_law_begun" (sp_begun K) := ok_begun (k := 0) e_law_begun B
  have hmixed : Kn P w K mg base 1 "_law_mixed" (sp_mixed K) := ok_mixed (k := 0) e_law_mixed B
  have htake : Kn P w K mg base 2 "_law_take" (sp_take K) := ok_take e_law_take B hmixed (Nat.le_refl _)
  have hpick : Kn P w K mg base 3 "_law_pick" (sp_pick K) := ok_pick e_law_pick B htake (Nat.le_refl _)
  have hshuf : Kn P w K mg base 3 "_law_shuffled" (sp_shuffled K) := ok_shuffled e_law_shuffled B htake (Nat.le_refl _)
  have hlnames : Kn P w K mg base 4 "_law_names" (sp_lnames K) := ok_lnames e_law_names B hshuf (Nat.le_refl _)
  have hljoined : Kn P w K mg base 1 "_law_joined" (sp_joined K) := ok_ljoined (k := 0) e_law_joined B
  have hlrun : Kn P w K mg base (3 + 4) "_law_run" (sp_lrun K 4) := all_lrun e_law_run B (htake.mono (by omega)) hpick (hljoined.mono (by omega)) 4
  have hmoved : Kn P w K mg base 1 "_law_moved" (sp_moved K) := ok_moved (k := 0) e_law_moved B
  exact ⟨hbegun.mono (by omega), htake.mono (by omega), hpick.mono (by omega), hlnames.mono (by omega), hlrun.mono (by omega), hmoved.mono (by omega), horder.mono (by omega), hrunof.mono (by omega), hbehind.mono (by omega), hbeside.mono (by omega), hturned.mono (by omega), hsize.mono (by omega), hsteps.mono (by omega)⟩
/-- the law's run -/
theorem law_run {fa a : Addr} {s₁ : Shared} {H : Hp} {ns : List Int} (D : Tops K mg c) (hfa : mg "law" = some (.ref fa)) (X : K.In s₁.heap) (hl : ns.length ≤ 63) (TB : TabB base mg c Pt) (e0 : Env0 P w K mg base callerA [] s₁ H) (hP : H Pt = some (.tbl #[])) (hs : SqL K H a (ns.map V.int)) :
    codeAny (model P w) callerA (.call (.ref fa) ⟨[.ref a], []⟩) (CR CX0 [] P w H s₁ (fun v _ => v = .bl true) E0) s₁ := by
  obtain ⟨f, fd, L⟩ := D.dlaw
  have e := hfa.symm.trans L.g
  cases e
  have hb := L.b s₁ [.ref a] X rfl
  have C := cs_of (P := P) (w := w) D TB
  refine fun_at (k := 95) (vs := [V.ref a]) L.F sc_law rfl ⟨rfl, by decide, by decide⟩ e0 hb (.cons rfl .nil) fun cdv hr => law_body (Q := fun v _ => v = .bl true) (E := E0) (outer := []) D.B C rfl hr ⟨a, ns, rfl, hs, hl, fun p hp => ?_, fun _ => rfl⟩
  rw [List.mem_singleton.mp hp]
  exact TabS.nil hP
end
end Fk

set_option Elab.async false
set_option linter.all false
open PySem PySem.W PyProof.Rows
set_option maxRecDepth 100000 in
set_option maxHeartbeats 0 in
set_option pp.maxSteps 100 in
theorem PySem.Challenge.cw_forkkinds_k51_whole_orders_and_runs_holds : PySem.Challenge.rw_forkkinds_k51_whole_orders_and_runs.Holds := by
  w_on; o_law; k_head; (case hw => w_witness2)
  k_fill
  refine' Fk.walk_ofG (l := PySem.Challenge.rw_forkkinds_k51_whole_orders_and_runs) (n := 63) (x := "drawn") ?hn ?hn2 ?hdf ?rec (fun w h Y => PySem.W.km_in_of Y) ?F
  case hn => rfl
  case hn2 => decide
  case hdf => rfl
  case rec => first | rfl | kernel_rfl
  case F =>
    intro w mg fa h KX G hmg
    refine' Fk.f_mk ?tabs ?runs
    case tabs =>
      refine' Fk.tab_ex ?ta ?tl ?tc ?tlc ?tP ?tn
      (case ta => k_is); (case tl => k_is); (case tc => rfl); (case tlc => k_is); (case tP => rfl); (case tn => first | kernel_rfl | rfl | decide)
    case runs =>
      intro c Pt htab _ s₁ a ns base H X hl _ _ TB e0 hP hs
      refine Fk.law_run (c := c) ?_ hmg X hl TB e0 hP hs
      refine Fk.Tops.mk ?Dis_number ?Dis_list ?Dis_name ?Dhas_word ?Dare_parts ?Dis_run ?Dneed_run ?Dneed_runs ?Djoined ?Dsize_of ?Dsize ?Dnames_along ?Dsteps ?Dbehind ?Dbeside ?Dturned_of ?Dturned ?Dis_index ?Dneed_labels ?Dare_pairs ?Dreached_from ?Daheads ?Dpairs_of ?Dorder_of ?Dgroups_of ?Drun_of ?D_law_begun ?D_law_mixed ?D_law_take ?D_law_pick ?D_law_shuffled ?D_law_names ?D_law_joined ?D_law_run ?D_law_moved ?Dlaw ?Db ?Bl ?Nt
      case Dis_number =>
        refine' Fk.dn_mk KX G (fun _ _ _ _ _ _ us hl => match us, hl with | [_], _ => rfl) ?a ?l ?c ?k
        (case a => k_is); (case l => k_is); (case c => k_is); (case k => k_is)
      case Dis_list =>
        refine' Fk.dn_mk KX G (fun _ _ _ _ _ _ us hl => match us, hl with | [_], _ => rfl) ?a ?l ?c ?k
        (case a => k_is); (case l => k_is); (case c => k_is); (case k => k_is)
      case Dis_name =>
        refine' Fk.dn_mk KX G (fun _ _ _ _ _ _ us hl => match us, hl with | [_], _ => rfl) ?a ?l ?c ?k
        (case a => k_is); (case l => k_is); (case c => k_is); (case k => k_is)
      case Dhas_word =>
        refine' Fk.dn_mk KX G (fun _ _ _ _ _ _ us hl => match us, hl with | [_], _ => rfl) ?a ?l ?c ?k
        (case a => k_is); (case l => k_is); (case c => k_is); (case k => k_is)
      case Dare_parts =>
        refine' Fk.dn_mk KX G (fun _ _ _ _ _ _ us hl => match us, hl with | [_, _], _ => rfl) ?a ?l ?c ?k
        (case a => k_is); (case l => k_is); (case c => k_is); (case k => k_is)
      case Dis_run =>
        refine' Fk.dn_mk KX G (fun _ _ _ _ _ _ us hl => match us, hl with | [_], _ => rfl) ?a ?l ?c ?k
        (case a => k_is); (case l => k_is); (case c => k_is); (case k => k_is)
      case Dneed_run =>
        refine' Fk.dn_mk KX G (fun _ _ _ _ _ _ us hl => match us, hl with | [_], _ => rfl) ?a ?l ?c ?k
        (case a => k_is); (case l => k_is); (case c => k_is); (case k => k_is)
      case Dneed_runs =>
        refine' Fk.dn_mk KX G (fun _ _ _ _ _ _ us hl => match us, hl with | [_], _ => rfl) ?a ?l ?c ?k
        (case a => k_is); (case l => k_is); (case c => k_is); (case k => k_is)
      case Djoined =>
        refine' Fk.dn_mk KX G (fun _ _ _ _ _ _ us hl => match us, hl with | [_, _], _ => rfl) ?a ?l ?c ?k
        (case a => k_is); (case l => k_is); (case c => k_is); (case k => k_is)
      case Dsize_of =>
        refine' Fk.dn_mk KX G (fun _ _ _ _ _ _ us hl => match us, hl with | [_], _ => rfl) ?a ?l ?c ?k
        (case a => k_is); (case l => k_is); (case c => k_is); (case k => k_is)
      case Dsize =>
        refine' Fk.dn_mk KX G (fun _ _ _ _ _ _ us hl => match us, hl with | [_], _ => rfl) ?a ?l ?c ?k
        (case a => k_is); (case l => k_is); (case c => k_is); (case k => k_is)
      case Dnames_along =>
        refine' Fk.dn_mk KX G (fun _ _ _ _ _ _ us hl => match us, hl with | [_], _ => rfl) ?a ?l ?c ?k
        (case a => k_is); (case l => k_is); (case c => k_is); (case k => k_is)
      case Dsteps =>
        refine' Fk.dn_mk KX G (fun _ _ _ _ _ _ us hl => match us, hl with | [_], _ => rfl) ?a ?l ?c ?k
        (case a => k_is); (case l => k_is); (case c => k_is); (case k => k_is)
      case Dbehind =>
        refine' Fk.dn_mk KX G (fun _ _ _ _ _ _ us hl => match us, hl with | [_], _ => rfl) ?a ?l ?c ?k
        (case a => k_is); (case l => k_is); (case c => k_is); (case k => k_is)
      case Dbeside =>
        refine' Fk.dn_mk KX G (fun _ _ _ _ _ _ us hl => match us, hl with | [_], _ => rfl) ?a ?l ?c ?k
        (case a => k_is); (case l => k_is); (case c => k_is); (case k => k_is)
      case Dturned_of =>
        refine' Fk.dn_mk KX G (fun _ _ _ _ _ _ us hl => match us, hl with | [_], _ => rfl) ?a ?l ?c ?k
        (case a => k_is); (case l => k_is); (case c => k_is); (case k => k_is)
      case Dturned =>
        refine' Fk.dn_mk KX G (fun _ _ _ _ _ _ us hl => match us, hl with | [_], _ => rfl) ?a ?l ?c ?k
        (case a => k_is); (case l => k_is); (case c => k_is); (case k => k_is)
      case Dis_index =>
        refine' Fk.dn_mk KX G (fun _ _ _ _ _ _ us hl => match us, hl with | [_, _], _ => rfl) ?a ?l ?c ?k
        (case a => k_is); (case l => k_is); (case c => k_is); (case k => k_is)
      case Dneed_labels =>
        refine' Fk.dn_mk KX G (fun _ _ _ _ _ _ us hl => match us, hl with | [_], _ => rfl) ?a ?l ?c ?k
        (case a => k_is); (case l => k_is); (case c => k_is); (case k => k_is)
      case Dare_pairs =>
        refine' Fk.dn_mk KX G (fun _ _ _ _ _ _ us hl => match us, hl with | [_, _], _ => rfl) ?a ?l ?c ?k
        (case a => k_is); (case l => k_is); (case c => k_is); (case k => k_is)
      case Dreached_from =>
        refine' Fk.dn_mk KX G (fun _ _ _ _ _ _ us hl => match us, hl with | [_, _], _ => rfl) ?a ?l ?c ?k
        (case a => k_is); (case l => k_is); (case c => k_is); (case k => k_is)
      case Daheads =>
        refine' Fk.dn_mk KX G (fun _ _ _ _ _ _ us hl => match us, hl with | [_, _], _ => rfl) ?a ?l ?c ?k
        (case a => k_is); (case l => k_is); (case c => k_is); (case k => k_is)
      case Dpairs_of =>
        refine' Fk.dn_mk KX G (fun _ _ _ _ _ _ us hl => match us, hl with | [_, _], _ => rfl) ?a ?l ?c ?k
        (case a => k_is); (case l => k_is); (case c => k_is); (case k => k_is)
      case Dorder_of =>
        refine' Fk.dn_mk KX G (fun _ _ _ _ _ _ us hl => match us, hl with | [_], _ => rfl) ?a ?l ?c ?k
        (case a => k_is); (case l => k_is); (case c => k_is); (case k => k_is)
      case Dgroups_of =>
        refine' Fk.dn_mk KX G (fun _ _ _ _ _ _ us hl => match us, hl with | [_, _], _ => rfl) ?a ?l ?c ?k
        (case a => k_is); (case l => k_is); (case c => k_is); (case k => k_is)
      case Drun_of =>
        refine' Fk.dn_mk KX G (fun _ _ _ _ _ _ us hl => match us, hl with | [_, _], _ => rfl) ?a ?l ?c ?k
        (case a => k_is); (case l => k_is); (case c => k_is); (case k => k_is)
      case D_law_begun =>
        refine' Fk.dn_mk KX G (fun _ _ _ _ _ _ us hl => match us, hl with | [_], _ => rfl) ?a ?l ?c ?k
        (case a => k_is); (case l => k_is); (case c => k_is); (case k => k_is)
      case D_law_mixed =>
        refine' Fk.dn_mk KX G (fun _ _ _ _ _ _ us hl => match us, hl with | [_], _ => rfl) ?a ?l ?c ?k
        (case a => k_is); (case l => k_is); (case c => k_is); (case k => k_is)
      case D_law_take =>
        refine' Fk.dn_mk KX G (fun _ _ _ _ _ _ us hl => match us, hl with | [_, _], _ => rfl) ?a ?l ?c ?k
        (case a => k_is); (case l => k_is); (case c => k_is); (case k => k_is)
      case D_law_pick =>
        refine' Fk.dn_mk KX G (fun _ _ _ _ _ _ us hl => match us, hl with | [_, _], _ => rfl) ?a ?l ?c ?k
        (case a => k_is); (case l => k_is); (case c => k_is); (case k => k_is)
      case D_law_shuffled =>
        refine' Fk.dn_mk KX G (fun _ _ _ _ _ _ us hl => match us, hl with | [_, _], _ => rfl) ?a ?l ?c ?k
        (case a => k_is); (case l => k_is); (case c => k_is); (case k => k_is)
      case D_law_names =>
        refine' Fk.dn_mk KX G (fun _ _ _ _ _ _ us hl => match us, hl with | [_, _], _ => rfl) ?a ?l ?c ?k
        (case a => k_is); (case l => k_is); (case c => k_is); (case k => k_is)
      case D_law_joined =>
        refine' Fk.dn_mk KX G (fun _ _ _ _ _ _ us hl => match us, hl with | [_, _], _ => rfl) ?a ?l ?c ?k
        (case a => k_is); (case l => k_is); (case c => k_is); (case k => k_is)
      case D_law_run =>
        refine' Fk.dn_mk KX G (fun _ _ _ _ _ _ us hl => match us, hl with | [_, _, _], _ => rfl) ?a ?l ?c ?k
        (case a => k_is); (case l => k_is); (case c => k_is); (case k => k_is)
      case D_law_moved =>
        refine' Fk.dn_mk KX G (fun _ _ _ _ _ _ us hl => match us, hl with | [_, _], _ => rfl) ?a ?l ?c ?k
        (case a => k_is); (case l => k_is); (case c => k_is); (case k => k_is)
      case Dlaw =>
        refine' Fk.dn_mk KX G (fun _ _ _ _ _ _ us hl => match us, hl with | [_], _ => rfl) ?a ?l ?c ?k
        (case a => k_is); (case l => k_is); (case c => k_is); (case k => k_is)
      case Db =>
        refine' Fk.dnC_mk KX G (fun _ _ _ _ _ _ us hl => match us, hl with | [_, _, _], _ => rfl) ?a ?l ?c ?k htab
        (case a => k_is); (case l => k_is); (case c => k_is); (case k => k_is)
      case Bl =>
        refine' Fk.Blt.mk (PySem.W.mg_none_of KX G ?zisinstance) (PySem.W.mg_none_of KX G ?zint) (PySem.W.mg_none_of KX G ?zbool) (PySem.W.mg_none_of KX G ?zlist) (PySem.W.mg_none_of KX G ?ztuple) (PySem.W.mg_none_of KX G ?zstr) (PySem.W.mg_none_of KX G ?zdict) (PySem.W.mg_none_of KX G ?zset) (PySem.W.mg_none_of KX G ?zenumerate) (PySem.W.mg_none_of KX G ?zrange) (PySem.W.mg_none_of KX G ?zlen) (PySem.W.mg_none_of KX G ?zall) (PySem.W.mg_none_of KX G ?zany) (PySem.W.mg_none_of KX G ?zsum) (PySem.W.mg_none_of KX G ?zsorted) (PySem.W.mg_none_of KX G ?zabs) (PySem.W.mg_none_of KX G ?zmin) (PySem.W.mg_none_of KX G ?zrepr) (Fk.cst_mk KX G ?l1 ?l2) (Fk.cst_mk KX G ?m1 ?m2) (Fk.cst_mk KX G ?o1 ?o2)
        (case zisinstance => k_is)
        (case zint => k_is)
        (case zbool => k_is)
        (case zlist => k_is)
        (case ztuple => k_is)
        (case zstr => k_is)
        (case zdict => k_is)
        (case zset => k_is)
        (case zenumerate => k_is)
        (case zrange => k_is)
        (case zlen => k_is)
        (case zall => k_is)
        (case zany => k_is)
        (case zsum => k_is)
        (case zsorted => k_is)
        (case zabs => k_is)
        (case zmin => k_is)
        (case zrepr => k_is)
        (case l1 => k_is); (case l2 => exact ⟨_, rfl⟩); (case m1 => k_is); (case m2 => exact ⟨_, rfl⟩); (case o1 => k_is); (case o2 => exact ⟨_, rfl⟩)
      case Nt =>
        refine' Fk.ntg_mk KX G ?e ?l
        (case e => k_is); (case l => k_is)

