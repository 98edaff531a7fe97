import PyProof.Rows.All
import Wide.All
import OpenK.AllK
import Wide.FinOn
import HandS.ForMost
import HandS.Wide
import HandS.Style
import HandS.IsInst
import HandS.Conv
import HandS.Walk
import HandS.Codes
import HandS.TupAny
import HandS.RaiseMore
import HandS.Flt
import HandS.Flow
import KE.GoesMore
import HandS.TryOnly
import PySem.Challenge.RW_spoiltways_k73_price_of_a_gap
set_option Elab.async false
set_option linter.all false
set_option maxRecDepth 100000
set_option maxHeartbeats 4000000
namespace Lev
/-- the fewest changes between two lists of signs -/
def lev : List Nat → List Nat → Nat
  | [], ys => ys.length
  | _ :: xs, [] => xs.length + 1
  | x :: xs, y :: ys => min (lev xs ys + if x = y then 0 else 1) (min (lev xs (y :: ys) + 1) (lev (x :: xs) ys + 1))
termination_by xs ys => xs.length + ys.length

/-- some changes, told by their number -/
inductive Ed : List Nat → List Nat → Nat → Prop
  | nil : Ed [] [] 0
  | keep {a xs ys n} : Ed xs ys n → Ed (a :: xs) (a :: ys) n
  | swap {a b xs ys n} : Ed xs ys n → Ed (a :: xs) (b :: ys) (n + 1)
  | drop {a xs ys n} : Ed xs ys n → Ed (a :: xs) ys (n + 1)
  | add {b xs ys n} : Ed xs ys n → Ed xs (b :: ys) (n + 1)

theorem Ed.adds : ∀ ys : List Nat, Ed [] ys ys.length
  | [] => .nil
  | _ :: ys => .add (Ed.adds ys)
theorem Ed.drops : ∀ xs : List Nat, Ed xs [] xs.length
  | [] => .nil
  | _ :: xs => .drop (Ed.drops xs)
theorem Ed.refl : ∀ xs : List Nat, Ed xs xs 0
  | [] => .nil
  | _ :: xs => .keep (Ed.refl xs)
theorem Ed.symm {xs ys n} (h : Ed xs ys n) : Ed ys xs n := by
  induction h with
  | nil => exact .nil
  | keep _ ih => exact .keep ih
  | swap _ ih => exact .swap ih
  | drop _ ih => exact .add ih
  | add _ ih => exact .drop ih
theorem Ed.app {xs ys n} (h : Ed xs ys n) {us vs m} (k : Ed us vs m) : Ed (xs ++ us) (ys ++ vs) (n + m) := by
  induction h with
  | nil => simpa using k
  | keep _ ih => exact .keep ih
  | swap _ ih => have := Ed.swap (a := ‹_›) (b := ‹_›) ih; simp only [List.cons_append]; rw [Nat.add_right_comm]; exact .swap ih
  | drop _ ih => simp only [List.cons_append]; rw [Nat.add_right_comm]; exact .drop ih
  | add _ ih => simp only [List.cons_append]; rw [Nat.add_right_comm]; exact .add ih
theorem Ed.rev {xs ys n} (h : Ed xs ys n) : Ed xs.reverse ys.reverse n := by
  induction h with
  | nil => exact .nil
  | keep _ ih => simpa using ih.app (.keep .nil)
  | swap _ ih => simpa using ih.app (.swap .nil)
  | drop _ ih => simpa using ih.app (.drop .nil)
  | add _ ih => simpa using ih.app (.add .nil)
theorem Ed.lens {xs ys n} (h : Ed xs ys n) : xs.length ≤ ys.length + n ∧ ys.length ≤ xs.length + n := by
  induction h with
  | nil => simp
  | keep _ ih => simp only [List.length_cons]; omega
  | swap _ ih => simp only [List.length_cons]; omega
  | drop _ ih => simp only [List.length_cons]; omega
  | add _ ih => simp only [List.length_cons]; omega

theorem lev_ed : ∀ xs ys : List Nat, Ed xs ys (lev xs ys) := by
  intro xs ys
  fun_induction lev xs ys with
  | case1 ys => exact Ed.adds ys
  | case2 x xs => exact Ed.drops (x :: xs)
  | case3 x xs y ys i1 i2 i3 =>
    rcases Nat.le_total (lev xs ys + if x = y then 0 else 1) (min (lev xs (y :: ys) + 1) (lev (x :: xs) ys + 1)) with h | h
    · rw [Nat.min_eq_left h]
      by_cases e : x = y
      · subst e; simpa using Ed.keep i1
      · rw [if_neg e]; exact .swap i1
    · rw [Nat.min_eq_right h]
      rcases Nat.le_total (lev xs (y :: ys) + 1) (lev (x :: xs) ys + 1) with h | h
      · rw [Nat.min_eq_left h]; exact .drop i2
      · rw [Nat.min_eq_right h]; exact .add i3
theorem lev_nil (ys : List Nat) : lev [] ys = ys.length := by rw [lev]
theorem lev_nil' : ∀ xs : List Nat, lev xs [] = xs.length
  | [] => by rw [lev_nil]
  | x :: xs => by rw [lev]; rfl
theorem lev_cons (x y : Nat) (xs ys : List Nat) : lev (x :: xs) (y :: ys) = min (lev xs ys + if x = y then 0 else 1) (min (lev xs (y :: ys) + 1) (lev (x :: xs) ys + 1)) := by rw [lev]
theorem lev_drop (x : Nat) (xs ys : List Nat) : lev (x :: xs) ys ≤ lev xs ys + 1 := by
  cases ys with
  | nil => rw [lev_nil', lev_nil']; simp
  | cons y ys => rw [lev_cons]; omega
theorem lev_add (y : Nat) (xs ys : List Nat) : lev xs (y :: ys) ≤ lev xs ys + 1 := by
  cases xs with
  | nil => rw [lev_nil, lev_nil]; simp
  | cons x xs => rw [lev_cons]; omega
theorem lev_swap (x y : Nat) (xs ys : List Nat) : lev (x :: xs) (y :: ys) ≤ lev xs ys + 1 := by
  rw [lev_cons]; split <;> omega
/-- dropping a letter on one side changes the distance by at most one -/
theorem lev_undrop (x : Nat) (xs ys : List Nat) : lev xs ys ≤ lev (x :: xs) ys + 1 := by
  induction ys generalizing xs x with
  | nil => rw [lev_nil', lev_nil']; simp; omega
  | cons y ys ih =>
    have a := lev_cons x y xs ys
    have b := lev_add y xs ys
    have c := ih x xs
    rw [a]
    split <;> omega
theorem lev_unadd (y : Nat) (xs ys : List Nat) : lev xs ys ≤ lev xs (y :: ys) + 1 := by
  induction xs generalizing ys y with
  | nil => rw [lev_nil, lev_nil]; simp; omega
  | cons x xs ih =>
    have a := lev_cons x y xs ys
    have b := lev_drop x xs ys
    have c := ih y ys
    rw [a]
    split <;> omega
theorem lev_keep (a : Nat) (xs ys : List Nat) : lev (a :: xs) (a :: ys) = lev xs ys := by
  rw [lev_cons]
  have h1 := lev_unadd a xs ys
  have h2 := lev_undrop a xs ys
  simp
  omega
theorem lev_least {xs ys n} (h : Ed xs ys n) : lev xs ys ≤ n := by
  induction h with
  | nil => rw [lev_nil]; simp
  | keep _ ih => rw [lev_keep]; exact ih
  | swap _ ih => exact Nat.le_trans (lev_swap _ _ _ _) (by omega)
  | drop _ ih => exact Nat.le_trans (lev_drop _ _ _) (by omega)
  | add _ ih => exact Nat.le_trans (lev_add _ _ _) (by omega)
theorem lev_symm (xs ys : List Nat) : lev xs ys = lev ys xs :=
  Nat.le_antisymm (lev_least (lev_ed ys xs).symm) (lev_least (lev_ed xs ys).symm)
theorem lev_rev (xs ys : List Nat) : lev xs.reverse ys.reverse = lev xs ys :=
  Nat.le_antisymm (lev_least (lev_ed xs ys).rev) (by
    have h := lev_least (lev_ed xs.reverse ys.reverse).rev
    simpa using h)
theorem lev_self (xs : List Nat) : lev xs xs = 0 := Nat.le_zero.mp (lev_least (Ed.refl xs))
theorem lev_app (xs ys us vs : List Nat) : lev (xs ++ us) (ys ++ vs) ≤ lev xs ys + lev us vs := lev_least ((lev_ed xs ys).app (lev_ed us vs))
theorem lev_lens (xs ys : List Nat) : xs.length ≤ ys.length + lev xs ys ∧ ys.length ≤ xs.length + lev xs ys := (lev_ed xs ys).lens
theorem lev_le_max (xs ys : List Nat) : lev xs ys ≤ max xs.length ys.length := by
  induction xs generalizing ys with
  | nil => rw [lev_nil]; simp
  | cons x xs ih =>
    cases ys with
    | nil => rw [lev_nil']; simp
    | cons y ys =>
      have h := lev_swap x y xs ys
      have k := ih ys
      simp only [List.length_cons]
      omega
theorem lev_pre (a xs ys : List Nat) : lev (a ++ xs) (a ++ ys) = lev xs ys := by
  induction a with
  | nil => rfl
  | cons x a ih => rw [List.cons_append, List.cons_append, lev_keep, ih]
theorem lev_suf (a xs ys : List Nat) : lev (xs ++ a) (ys ++ a) = lev xs ys := by
  rw [← lev_rev, List.reverse_append, List.reverse_append, lev_pre, lev_rev]
/-- from behind -/
theorem lev_snoc (x y : Nat) (xs ys : List Nat) : lev (xs ++ [x]) (ys ++ [y]) = min (lev xs ys + if x = y then 0 else 1) (min (lev xs (ys ++ [y]) + 1) (lev (xs ++ [x]) ys + 1)) := by
  rw [← lev_rev (xs ++ [x]), ← lev_rev xs ys, ← lev_rev xs (ys ++ [y]), ← lev_rev (xs ++ [x]) ys]
  simp only [List.reverse_append, List.reverse_cons, List.reverse_nil, List.nil_append, List.singleton_append]
  rw [lev_cons]
/-- the triangle -/
theorem Ed.trans {xs ys n} (h : Ed xs ys n) : ∀ {zs m}, Ed ys zs m → ∃ k, k ≤ n + m ∧ Ed xs zs k := by
  induction h with
  | nil => exact fun {zs m} q => ⟨m, by omega, q⟩
  | @drop a xs ys n _ ih =>
    intro zs m q
    obtain ⟨k, h1, h2⟩ := ih q
    exact ⟨k + 1, by omega, .drop h2⟩
  | @keep a xs ys n p ih =>
    intro zs m q
    generalize e : a :: ys = ws at q
    induction q with
    | nil => cases e
    | keep q _ =>
      cases e
      obtain ⟨k, h1, h2⟩ := ih q
      exact ⟨k, h1, .keep h2⟩
    | swap q _ =>
      cases e
      obtain ⟨k, h1, h2⟩ := ih q
      exact ⟨k + 1, by omega, .swap h2⟩
    | drop q _ =>
      cases e
      obtain ⟨k, h1, h2⟩ := ih q
      exact ⟨k + 1, by omega, .drop h2⟩
    | add q jh =>
      obtain ⟨k, h1, h2⟩ := jh e
      exact ⟨k + 1, by omega, .add h2⟩
  | @swap a b xs ys n p ih =>
    intro zs m q
    generalize e : b :: ys = ws at q
    induction q with
    | nil => cases e
    | keep q _ =>
      cases e
      obtain ⟨k, h1, h2⟩ := ih q
      exact ⟨k + 1, by omega, .swap h2⟩
    | swap q _ =>
      cases e
      obtain ⟨k, h1, h2⟩ := ih q
      exact ⟨k + 1, by omega, .swap h2⟩
    | drop q _ =>
      cases e
      obtain ⟨k, h1, h2⟩ := ih q
      exact ⟨k + 1, by omega, .drop h2⟩
    | add q jh =>
      obtain ⟨k, h1, h2⟩ := jh e
      exact ⟨k + 1, by omega, .add h2⟩
  | @add b xs ys n p ih =>
    intro zs m q
    generalize e : b :: ys = ws at q
    induction q with
    | nil => cases e
    | keep q _ =>
      cases e
      obtain ⟨k, h1, h2⟩ := ih q
      exact ⟨k + 1, by omega, .add h2⟩
    | swap q _ =>
      cases e
      obtain ⟨k, h1, h2⟩ := ih q
      exact ⟨k + 1, by omega, .add h2⟩
    | drop q _ =>
      cases e
      obtain ⟨k, h1, h2⟩ := ih q
      exact ⟨k, by omega, h2⟩
    | add q jh =>
      obtain ⟨k, h1, h2⟩ := jh e
      exact ⟨k + 1, by omega, .add h2⟩
theorem lev_tri (xs ys zs : List Nat) : lev xs zs ≤ lev xs ys + lev ys zs := by
  obtain ⟨k, h1, h2⟩ := (lev_ed xs ys).trans (lev_ed ys zs)
  exact Nat.le_trans (lev_least h2) h1
end Lev
namespace Lev
/-- what stands at place k of the band behind at letters -/
def cell (M : Nat) (l r : List Nat) (at' k : Nat) : Int :=
  if M ≤ at' + k ∧ at' + k ≤ M + r.length then ((min (lev (l.take at') (r.take (at' + k - M))) (M + 1) : Nat) : Int) else (M : Int) + 1
def band (M : Nat) (l r : List Nat) (at' : Nat) : List Int := (List.range (2 * M + 1)).map (cell M l r at')
theorem band_len (M : Nat) (l r : List Nat) (a : Nat) : (band M l r a).length = 2 * M + 1 := by simp [band]
theorem band_get {M : Nat} {l r : List Nat} {a k : Nat} (h : k < 2 * M + 1) : (band M l r a)[k]? = some (cell M l r a k) := by
  simp [band, List.getElem?_map, List.getElem?_range h]
theorem cell_first {M : Nat} {l r : List Nat} {k : Nat} (h : k < 2 * M + 1) : cell M l r 0 k = if M ≤ k ∧ k ≤ M + r.length then (k : Int) - M else (M : Int) + 1 := by
  unfold cell
  by_cases c : M ≤ 0 + k ∧ 0 + k ≤ M + r.length
  · rw [if_pos c, if_pos (by omega), List.take_zero, lev_nil, List.length_take]
    omega
  · rw [if_neg c, if_neg (by omega)]
/-- the ways to a place -/
def ways (M : Nat) (l r : List Nat) (a : Nat) (x : Nat) (k : Nat) : List Int :=
  let place : Int := (a : Int) + 1 + k - M
  [(M : Int) + 1] ++ (if 0 < place ∧ place ≤ r.length then [cell M l r a k + (if some x = r[(place - 1).toNat]? then 0 else 1)] else [])
    ++ (if (0 < place ∧ place ≤ r.length) ∧ 0 < k then [cell M l r (a + 1) (k - 1) + 1] else [])
    ++ (if (0 ≤ place ∧ place ≤ r.length) ∧ k < 2 * M then [cell M l r a (k + 1) + 1] else [])
theorem take_snoc {l : List Nat} {a x : Nat} (h : l[a]? = some x) : l.take (a + 1) = l.take a ++ [x] := by
  rw [List.take_add_one, h]; rfl
theorem way_least {M : Nat} {l r : List Nat} {a x k : Nat} (hx : l[a]? = some x) (hk : k < 2 * M + 1) {m : Int} (hm : m ∈ ways M l r a x k) (hl : ∀ y, y ∈ ways M l r a x k → m ≤ y) :
    m = cell M l r (a + 1) k := by
  have ha : a < l.length := (List.getElem?_eq_some_iff.mp hx).1
  have el := take_snoc hx
  unfold ways at hm hl
  simp only [List.mem_append, List.mem_singleton] at hm hl
  by_cases c0 : a + 1 + k < M
  · -- left of the text
    have n1 : ¬ (0 < (a : Int) + 1 + k - M ∧ (a : Int) + 1 + k - M ≤ r.length) := by omega
    have n2 : ¬ (0 ≤ (a : Int) + 1 + k - M ∧ (a : Int) + 1 + k - M ≤ r.length) := by omega
    rw [if_neg n1, if_neg (fun z => n1 z.1), if_neg (fun z => n2 z.1)] at hm
    simp only [List.not_mem_nil, or_false] at hm
    unfold cell
    rw [if_neg (by omega)]; exact hm
  by_cases c1 : M + r.length < a + 1 + k
  · have n1 : ¬ (0 < (a : Int) + 1 + k - M ∧ (a : Int) + 1 + k - M ≤ r.length) := by omega
    have n2 : ¬ (0 ≤ (a : Int) + 1 + k - M ∧ (a : Int) + 1 + k - M ≤ r.length) := by omega
    rw [if_neg n1, if_neg (fun z => n1 z.1), if_neg (fun z => n2 z.1)] at hm
    simp only [List.not_mem_nil, or_false] at hm
    unfold cell
    rw [if_neg (by omega)]; exact hm
  have hc : cell M l r (a + 1) k = ((min (lev (l.take (a + 1)) (r.take (a + 1 + k - M))) (M + 1) : Nat) : Int) := by
    unfold cell; rw [if_pos (by omega)]
  by_cases c2 : a + 1 + k = M
  · -- ahead of the first letter
    have n1 : ¬ (0 < (a : Int) + 1 + k - M ∧ (a : Int) + 1 + k - M ≤ r.length) := by omega
    have n2 : (0 ≤ (a : Int) + 1 + k - M ∧ (a : Int) + 1 + k - M ≤ r.length) := by omega
    have n3 : k < 2 * M := by omega
    have e1 : cell M l r a (k + 1) = (a : Int) := by
      unfold cell
      rw [if_pos (by omega), show a + (k + 1) - M = 0 by omega, List.take_zero, lev_nil', List.length_take]
      omega
    have e2 : cell M l r (a + 1) k = (a : Int) + 1 := by
      rw [hc, show a + 1 + k - M = 0 by omega, List.take_zero, lev_nil', List.length_take]
      omega
    have n5 : ¬ ((0 < (a : Int) + 1 + k - M ∧ (a : Int) + 1 + k - M ≤ r.length) ∧ 0 < k) := fun z => n1 z.1
    have n6 : ((0 ≤ (a : Int) + 1 + k - M ∧ (a : Int) + 1 + k - M ≤ r.length) ∧ k < 2 * M) := ⟨n2, n3⟩
    simp only [if_neg n1, if_neg n5, if_pos n6, List.not_mem_nil, or_false, List.mem_singleton] at hm hl
    rw [e1] at hm hl
    rw [e2]
    have := hl _ (.inr rfl)
    have := hl _ (.inl rfl)
    omega
  · obtain ⟨p, hp⟩ : ∃ p, a + k = M + p := ⟨a + k - M, by omega⟩
    have hpr : p < r.length := by omega
    obtain ⟨y, hy⟩ : ∃ y, r[p]? = some y := ⟨r[p], List.getElem?_eq_getElem hpr⟩
    have er := take_snoc hy
    have n1 : (0 < (a : Int) + 1 + k - M ∧ (a : Int) + 1 + k - M ≤ r.length) := by omega
    have n2 : (0 ≤ (a : Int) + 1 + k - M ∧ (a : Int) + 1 + k - M ≤ r.length) := by omega
    have ep : ((a : Int) + 1 + k - M - 1).toNat = p := by omega
    have hsn := lev_snoc x y (l.take a) (r.take p)
    rw [← el, ← er] at hsn
    have e0 : cell M l r (a + 1) k = ((min (lev (l.take (a + 1)) (r.take (p + 1))) (M + 1) : Nat) : Int) := by
      rw [hc, show a + 1 + k - M = p + 1 by omega]
    have eA : cell M l r a k = ((min (lev (l.take a) (r.take p)) (M + 1) : Nat) : Int) := by
      unfold cell; rw [if_pos (by omega), show a + k - M = p by omega]
    have hlA := lev_lens (l.take a) (r.take (p + 1))
    have hlC := lev_lens (l.take (a + 1)) (r.take p)
    simp only [List.length_take] at hlA hlC
    have n3 : ((0 < (a : Int) + 1 + k - M ∧ (a : Int) + 1 + k - M ≤ r.length) ∧ 0 < k) = (0 < k) := propext ⟨And.right, fun z => ⟨n1, z⟩⟩
    have n4 : ((0 ≤ (a : Int) + 1 + k - M ∧ (a : Int) + 1 + k - M ≤ r.length) ∧ k < 2 * M) = (k < 2 * M) := propext ⟨And.right, fun z => ⟨n2, z⟩⟩
    simp only [if_pos n1, n3, n4, ep, hy, Option.some.injEq, List.mem_singleton] at hm hl
    rw [e0]
    have hδ : (if x = y then (0:Int) else 1) = ((if x = y then 0 else 1 : Nat) : Int) := by split <;> rfl
    rw [hδ, eA] at hm hl
    generalize (if x = y then 0 else 1 : Nat) = δ at *
    generalize lev (l.take a) (r.take p) = A at *
    by_cases k0 : 0 < k
    · have eC : cell M l r (a + 1) (k - 1) = ((min (lev (l.take (a + 1)) (r.take p)) (M + 1) : Nat) : Int) := by
        unfold cell; rw [if_pos (by omega), show a + 1 + (k - 1) - M = p by omega]
      rw [eC] at hm hl
      by_cases k1 : k < 2 * M
      · have eB : cell M l r a (k + 1) = ((min (lev (l.take a) (r.take (p + 1))) (M + 1) : Nat) : Int) := by
          unfold cell; rw [if_pos (by omega), show a + (k + 1) - M = p + 1 by omega]
        rw [eB] at hm hl
        simp only [k0, k1, if_true, List.mem_singleton] at hm hl
        have h1 := hl _ (.inl (.inl (.inl rfl)))
        have h2 := hl _ (.inl (.inl (.inr rfl)))
        have h3 := hl _ (.inl (.inr rfl))
        have h4 := hl _ (.inr rfl)
        clear hl
        rw [hsn]
        omega
      · simp only [k0, k1, if_true, if_false, List.not_mem_nil, or_false, List.mem_singleton] at hm hl
        have h1 := hl _ (.inl (.inl rfl))
        have h2 := hl _ (.inl (.inr rfl))
        have h3 := hl _ (.inr rfl)
        clear hl
        rw [hsn]
        omega
    · by_cases k1 : k < 2 * M
      · have eB : cell M l r a (k + 1) = ((min (lev (l.take a) (r.take (p + 1))) (M + 1) : Nat) : Int) := by
          unfold cell; rw [if_pos (by omega), show a + (k + 1) - M = p + 1 by omega]
        rw [eB] at hm hl
        simp only [k0, k1, if_true, if_false, List.not_mem_nil, or_false, List.mem_singleton] at hm hl
        have h1 := hl _ (.inl (.inl rfl))
        have h2 := hl _ (.inl (.inr rfl))
        have h3 := hl _ (.inr rfl)
        clear hl
        rw [hsn]
        omega
      · simp only [k0, k1, if_false, List.not_mem_nil, or_false, List.mem_singleton] at hm hl
        have h1 := hl _ (.inl rfl)
        have h2 := hl _ (.inr rfl)
        clear hl
        rw [hsn]
        omega
theorem band_last {M : Nat} {l r : List Nat} (h : l.length ≤ r.length) (h2 : r.length ≤ M + l.length) : (band M l r l.length)[r.length - l.length + M]? = some ((min (lev l r) (M + 1) : Nat) : Int) := by
  rw [band_get (by omega)]
  unfold cell
  rw [if_pos (by omega), show l.length + (r.length - l.length + M) - M = r.length by omega, List.take_length, List.take_length]
/-- the distance within most, or none -/
def within (xs ys : List Nat) (most : Nat) : Option Nat := if lev xs ys ≤ most then some (lev xs ys) else none
end Lev
namespace Sw
open PySem PySem.Spec PyProof.Rows L2

/-! ### texts as lists of signs -/
def S (l : List Nat) : Str := ⟨l.toArray⟩
theorem S_len (l : List Nat) : (S l).length = l.length := by simp [S, Str.length]
theorem S_size (l : List Nat) : (S l).cps.size = l.length := by simp [S]
theorem S_list (l : List Nat) : (S l).cps.toList = l := by simp [S]
theorem S_app (a b : List Nat) : S a ++ S b = S (a ++ b) := by
  show Str.append _ _ = _
  simp [S, Str.append]
theorem S_get (l : List Nat) (i : Nat) : (S l).cps[i]? = l[i]? := by simp [S]
theorem S_inj {a b : List Nat} : S a = S b ↔ a = b := by
  constructor
  · intro h
    have e : (S a).cps.toList = (S b).cps.toList := by rw [h]
    rwa [S_list, S_list] at e
  · rintro rfl; rfl
theorem S_dec (a b : List Nat) : decide (V.str (S a) = V.str (S b)) = decide (a = b) := by
  by_cases h : a = b
  · subst h; simp
  · rw [decide_eq_false h, decide_eq_false]
    intro e
    exact h (S_inj.mp (V.str.inj e))

/-! ### calls of own defs -/
section
variable (P : Program) (w : World) (K : PySem.W.Frag) (mg : Str → Option Value) (base : Heap)
/-- the def x of the text st stands -/
def Def (x : Str) (st : Stmt) : Prop := ∃ (f : Addr) (fd : FuncData), Fun K x x st f fd ∧ mg x = some (.ref f)
/-- the def x keeps its promise -/
def Cal (x : Str) (ps : List Str) (k : Nat) (sp : Sp) : Prop := ∃ (f : Addr) (fd : FuncData), FnOk P w K mg base CX0 k f fd ps sp ∧ mg x = some (.ref f) ∧ PySem.W.keepIn K (.ref f) = true ∧ Binds K fd ps []
end
section
variable {P : Program} {w : World} {K : PySem.W.Frag} {mg : Str → Option Value} {base : Heap}
theorem Def.cal {x : Str} {st : Stmt} {ps : List Str} {k : Nat} {sp : Sp} (d : Def K mg x st)
    (b : ∀ (kV doc pm : Value) (an : Option Addr) (cdv ct : Value) (us : List Value), us.length = ps.length → bindArgs (PySem.W.fnOf x x (defArgs st) (defBody st) (defScope st) .none kV doc pm an cdv ct) ⟨us, []⟩ = pure (ps.zip us))
    (ok : ∀ (f : Addr) (fd : FuncData), Fun K x x st f fd → FnOk P w K mg base CX0 k f fd ps sp) : Cal P w K mg base x ps k sp := by
  obtain ⟨f, fd, F, m⟩ := d
  exact ⟨f, fd, ok f fd F, m, F.kp, F.binds b⟩
end
section
variable {X : Cx} {x : Str} {ps : List Str} {k n : Nat} {sp : Sp} {e : Expr} {es : List Expr} {t : TA} {p pos : Pos}
theorem pe_cal (c : Cal X.prog X.w X.K X.mg X.base x ps k sp) (hr : Room n X.A) (ha : PA X (e :: es) t) (hg : Gl X x := by rfl) (hk : k ≤ n := by decide)
    (hdb : (x == ("__debug__" : Str)) = false := by decide) (he : starEach (e :: es) X.env = (false, eval e X.env) :: starEach es X.env := by rfl) (hpl : (backTo pos (starEach es X.env)).any (·.1) = false := by rfl) :
    PE X (.Call (.Name x p) (e :: es) [] pos) (tCall sp [] E0 t) := by
  obtain ⟨f, fd, F, m, kp, b⟩ := c
  exact pe_call F (hr.mono hk) hg m kp b .nil pass0 ha hdb he hpl
end

/-! ### answers to readings -/
section
variable {σ : L2.St} {H : Hp} {Q : VK} {D : Ends}
theorem i_seq {t u : TS} (h : t { D with nx := u D } σ H) : tSeq t u D σ H := h
theorem i_asg {te : TE} {g : TG} (h : te σ H fun x H1 => g x σ H1 D.nx) : tAsg te g D σ H := h
theorem i_name {i : Nat} {v : V} {R : L2.St → Hp → Prop} (h : R (σ.set i (some v)) H) : gName i v σ H R := h
theorem i_ret {te : TE} (h : te σ H D.rt) : tRet te D σ H := h
theorem i_var {i : Nat} {v : V} (e : σ[i]? = some (some v)) (h : Q v H) : tVar i σ H Q := ⟨v, e, h⟩
theorem i_c {v : V} (h : Q v H) : tC v σ H Q := h
theorem i_op {r : R2} {ta tb : TE} (h : ta σ H fun x H1 => tb σ H1 fun y H2 => r x y H2 Q) : tOp r ta tb σ H Q := h
theorem i_un {r : V → Hp → VK → Prop} {ta : TE} (h : ta σ H fun x H1 => r x H1 Q) : tUn r ta σ H Q := h
theorem i_rI {C : Int → Int → Prop} {g : Int → Int → V} {a b : Int} (c : C a b) (h : Q (g a b) H) : rI C g (.int a) (.int b) H Q := ⟨a, b, rfl, rfl, c, h⟩
theorem i_rI0 {g : Int → Int → V} {a b : Int} (h : Q (g a b) H) : rI0 g (.int a) (.int b) H Q := ⟨a, b, rfl, rfl, h⟩
theorem i_cb {r : List V → Hp → VK → Prop} {t : TA} (h : t σ H fun vs H1 => r vs H1 Q) : tCB r t σ H Q := h
theorem i_cons {ta : TE} {tr : TA} {R : List V → Hp → Prop} (h : ta σ H fun x H1 => tr σ H1 fun xs H2 => R (x :: xs) H2) : tCons ta tr σ H R := h
theorem i_nil {R : List V → Hp → Prop} (h : R [] H) : tNil σ H R := h
theorem i_call {sp : Sp} {dvs : List V} {E : XK} {t : TA} (h : t σ H fun vs H1 => sp (vs ++ dvs) H1 Q E) : tCall sp dvs E t σ H Q := h
theorem i_if {c : TT} {t u : TS} (h : c σ H fun b H1 => if b = true then t D σ H1 else u D σ H1) : tIfS c t u D σ H := h
theorem i_ifE {c : TT} {t u : TE} (h : c σ H fun b H1 => if b = true then t σ H1 Q else u σ H1 Q) : tIf c t u σ H Q := h
theorem i_test {t : TE} {R : Bool → Hp → Prop} (h : t σ H fun x H1 => ∃ k, x = .bl k ∧ R k H1) : tTest t σ H R := h
theorem i_bl {k : Bool} {R : Bool → Prop} (h : R k) : ∃ k', V.bl k = .bl k' ∧ R k' := ⟨k, rfl, h⟩
theorem i_and {t u : TT} {R : Bool → Hp → Prop} (h : t σ H fun c H1 => if c = true then u σ H1 R else R false H1) : tAnd t u σ H R := h
theorem i_or {t u : TT} {R : Bool → Hp → Prop} (h : t σ H fun c H1 => if c = true then R true H1 else u σ H1 R) : tOr t u σ H R := h
theorem i_not {t : TT} {R : Bool → Hp → Prop} (h : t σ H fun c H1 => R (!c) H1) : tNot t σ H R := h
theorem i_lst {t : TA} (h : t σ H fun xs H1 => xs.length ≤ sizeLine ∧ ∀ p, H1 p = none → Q (.ref p) (upd H1 p (.lst xs))) : tLst t σ H Q := h
theorem i_tup {t : TA} (h : t σ H fun xs H1 => xs.length ≤ sizeLine ∧ ∀ p, H1 p = none → Q (.ref p) (upd H1 p (.tup xs))) : tTup t σ H Q := h
theorem iteB {p : Prop} [Decidable p] {A B : Prop} (h1 : p → A) (h2 : ¬ p → B) : if decide p = true then A else B := by
  by_cases h : p
  · rw [decide_eq_true h]; exact iteT (h1 h)
  · rw [decide_eq_false h]; exact iteF (h2 h)
theorem iteC {c : Bool} {A B : Prop} (h1 : c = true → A) (h2 : c = false → B) : if c = true then A else B := by
  cases c with
  | true => exact iteT (h1 rfl)
  | false => exact iteF (h2 rfl)
/-- xs[i], xs a list of which the item is known -/
theorem i_ixL {K : PySem.W.Frag} {p : Addr} {xs : List V} {i : Int} {v : V} (h1 : SqL K H p xs) (h2 : atI xs i = some v) (h : Q v H) : rIxL K (.ref p) (.int i) H Q := ⟨p, xs, i, v, rfl, rfl, h1, h2, h⟩
theorem i_ixT {K : PySem.W.Frag} {p : Addr} {xs : List V} {i : Int} {v : V} (h1 : SqT K H p xs) (h2 : atI xs i = some v) (h : Q v H) : rIxT K (.ref p) (.int i) H Q := ⟨p, xs, i, v, rfl, rfl, h1, h2, h⟩
end

/-! ### the box of draws -/
/-- the box at b: the rest n of a great cell, whether it is one, the seed c, the draws d so far -/
structure BoxAt (H : Hp) (b : Addr) (d : Int) : Prop where
  ex : ∃ (n : Int) (g : Bool) (c e : Int), H b = some (.lst [.int n, .bl g, .int c, .int e]) ∧ 0 ≤ n ∧ 0 ≤ c ∧ c < 2147483629 ∧ 0 ≤ e ∧ e ≤ d
/-- all but the object at b is as it was -/
def SB (b : Addr) (H H' : Hp) : Prop := ∀ a o, a ≠ b → H a = some o → H' a = some o
theorem SB.refl {b : Addr} (H : Hp) : SB b H H := fun _ _ _ h => h
theorem SB.trans {b : Addr} {H H1 H2 : Hp} (x : SB b H H1) (y : SB b H1 H2) : SB b H H2 := fun a o n h => y a o n (x a o n h)
theorem SB.of {b : Addr} {H H' : Hp} (s : Same H H') : SB b H H' := fun a o _ h => s a o h
theorem SB.upd {b : Addr} {H : Hp} {o : HO} : SB b H (upd H b o) := fun a u n h => by rw [upd_ne n]; exact h
theorem BoxAt.mono {H : Hp} {b : Addr} {d d' : Int} (x : BoxAt H b d) (h : d ≤ d') : BoxAt H b d' := by
  obtain ⟨n, g, c, e, h1, h2, h3, h4, h5, h6⟩ := x.ex
  exact ⟨n, g, c, e, h1, h2, h3, h4, h5, by omega⟩
theorem BoxAt.same {H H' : Hp} {b : Addr} {d : Int} (x : BoxAt H b d) (s : Same H H') : BoxAt H' b d := by
  obtain ⟨n, g, c, e, h1, h⟩ := x.ex
  exact ⟨n, g, c, e, s _ _ h1, h⟩
theorem same_upd {H : Hp} {p : Addr} {o : HO} (h : H p = none) : Same H (upd H p o) := fun b x e => by
  rw [upd_ne (ne_of_none e h)]
  exact e
/-- _law_take(box, many): a number below many; the box is one draw further at most -/
def spTake : Sp := fun vs H Q _ => ∃ (b : Addr) (m d : Int), vs = [.ref b, .int m] ∧ BoxAt H b d ∧ d ≤ 1000000 ∧ 0 < m ∧ m < 2 ^ 64 ∧
  ∀ (r : Int) (H' : Hp), 0 ≤ r → r < m → BoxAt H' b (d + 1) → SB b H H' → Q (.int r) H'
/-- _law_box(great) -/
def spBox : Sp := fun vs H Q _ => ∃ n : Int, vs = [.int n] ∧ ∀ (b : Addr) (H' : Hp), H b = none → Same H H' → BoxAt H' b 0 → Q (.ref b) H'
/-- _law_cell(script, k) -/
def spCell (K : PySem.W.Frag) : Sp := fun vs H Q _ => ∃ (a : Addr) (ns : List Int) (k : Int), vs = [.ref a, .int k] ∧ SqL K H a (ns.map V.int) ∧ 0 ≤ k ∧ k < 1000 ∧
  ∀ (n : Int) (H' : Hp), Same H H' → Q (.int n) H'
/-! ### more answers -/
section
variable {σ : L2.St} {H : Hp} {Q : VK} {D : Ends} {K : PySem.W.Frag}
theorem i_next (h : D.nx σ H) : tNext D σ H := h
theorem i_drop {te : TE} (h : te σ H fun _ H1 => D.nx σ H1) : tDrop te D σ H := h
theorem i_sub {to ti : TE} {t : TSet} {v : V} {R : L2.St → Hp → Prop} (h : to σ H fun o H1 => ti σ H1 fun i H2 => t o i v H2 fun H3 => R σ H3) : gSub to ti t v σ H R := h
theorem i_setL {p : Addr} {xs : List V} {k : Int} {j : Nat} {v : V} {R : Hp → Prop} (h1 : H p = some (.lst xs)) (h2 : ixN xs.length k = some j) (h : R (upd H p (.lst (xs.set j v)))) : rSetL (.ref p) (.int k) v H R := ⟨p, xs, k, j, rfl, rfl, h1, h2, h⟩
theorem i_int {i : Int} (h : Q (.int i) H) : (∃ j, [V.int i] = [.int j] ∧ Q (.int j) H) ∨ ∃ k, [V.int i] = [.bl k] ∧ Q (.int (if k = true then 1 else 0)) H := .inl ⟨i, rfl, h⟩
theorem i_intB {b : Bool} (h : Q (.int (if b = true then 1 else 0)) H) : (∃ j, [V.bl b] = [.int j] ∧ Q (.int j) H) ∨ ∃ k, [V.bl b] = [.bl k] ∧ Q (.int (if k = true then 1 else 0)) H := .inr ⟨b, rfl, h⟩
theorem i_ix1 {α : Type} {P : α → Prop} {x : α} {R : α → Prop} (h : R x) : ∃ y, x = y ∧ R y := ⟨x, rfl, h⟩
theorem i_abs {i : Int} (h : Q (.int (if i < 0 then -i else i)) H) : ∃ j, [V.int i] = [.int j] ∧ Q (.int (if j < 0 then -j else j)) H := ⟨i, rfl, h⟩
theorem i_two {R : Int → Int → Prop} {i j : Int} (h : R i j) : ∃ a b, [V.int i, V.int j] = [.int a, .int b] ∧ R a b := ⟨i, j, rfl, h⟩
theorem i_one {R : Int → Prop} {i : Int} (h : R i) : ∃ a, [V.int i] = [.int a] ∧ R a := ⟨i, rfl, h⟩
theorem i_cmod {i m : Int} (h : 0 < m) : (fun (_ j : Int) => 0 < j) i m := h
theorem i_bm {T : String} {r : V → List V → Hp → VK → Prop} {to : TE} {t : TA} (h : to σ H fun x H1 => tyV K T x H1 ∧ t σ H1 fun xs H2 => r x xs H2 Q) : tBM K T r to t σ H Q := h
theorem i_tyL {p : Addr} {xs : List V} {R : Prop} (h1 : H p = some (.lst xs)) (h : R) : tyV K "list" (.ref p) H ∧ R := ⟨.inl ⟨rfl, xs, .inl (.inl h1)⟩, h⟩
theorem i_tyS {z : Str} {R : Prop} (h : R) : tyV K "str" (.str z) H ∧ R := ⟨rfl, h⟩
theorem i_append {p : Addr} {xs : List V} {y : V} (h1 : H p = some (.lst xs)) (h2 : xs.length < sizeLine) (h : Q .non (upd H p (.lst (xs ++ [y])))) : rAppend (.ref p) [y] H Q := ⟨p, xs, y, rfl, rfl, h1, h2, h⟩
theorem i_sl {r : V → Option Int → Option Int → Hp → VK → Prop} {te : TE} {tl th : TO} (h : te σ H fun x H1 => tl σ H1 fun l H2 => th σ H2 fun u H3 => r x l u H3 Q) : L2.tSl r te tl th σ H Q := h
theorem i_part {t : TE} {R : Option Int → Hp → Prop} (h : t σ H fun x H1 => ∃ i, x = .int i ∧ R (some i) H1) : tPart t σ H R := h
theorem i_nopart {R : Option Int → Hp → Prop} (h : R none H) : tNoPart σ H R := h
theorem i_exI {R : Int → Prop} {i : Int} (h : R i) : ∃ j, V.int i = .int j ∧ R j := ⟨i, rfl, h⟩
theorem i_chain {r r' : R2} {ta tb tc : TE} (h : ta σ H fun x H1 => tb σ H1 fun y H2 => r x y H2 fun z H3 => ∃ k, z = .bl k ∧ (if k = true then tc σ H3 fun w' H4 => r' y w' H4 Q else Q (.bl false) H3)) : tChain r r' ta tb tc σ H Q := h
theorem i_aug {i : Nat} {te : TE} {ti : TIp} {x : V} (e : σ[i]? = some (some x)) (h : te σ H fun y H1 => ti x y H1 fun z H2 => D.nx (σ.set i (some z)) H2) : tAug i te ti D σ H := ⟨x, e, h⟩
theorem i_ip {g : Int → Int → Int} {a b : Int} (h : Q (.int (g a b)) H) : ipI g (.int a) (.int b) H Q := ⟨a, b, rfl, rfl, h⟩
theorem i_par {i j : Nat} {ta : TA} (h : ta σ H fun vs H1 => ∃ v w, vs = [v, w] ∧ D.nx ((σ.set i (some v)).set j (some w)) H1) : tPar i j ta D σ H := h
theorem i_pair {R : V → V → Prop} {a b : V} (h : R a b) : ∃ v w, [a, b] = [v, w] ∧ R v w := ⟨a, b, rfl, h⟩
theorem i_andV {ta tb : TE} (h : ta σ H fun x H1 => ∃ c, x = .bl c ∧ if c = true then tb σ H1 Q else Q (.bl false) H1) : tAndV ta tb σ H Q := h
theorem i_orV {ta tb : TE} (h : ta σ H fun x H1 => ∃ c, x = .bl c ∧ if c = true then Q (.bl true) H1 else tb σ H1 Q) : tOrV ta tb σ H Q := h
theorem i_notV {ta : TE} (h : ta σ H fun x H1 => ∃ c, x = .bl c ∧ Q (.bl (!c)) H1) : tNotV ta σ H Q := h
theorem i_m1 {r : V → List V → Hp → VK → Prop} {to te : TE} (h : to σ H fun x H1 => (∃ a, x = .str a) ∧ te σ H1 fun y H2 => r x [y] H2 Q) : tM1 r to te σ H Q := h
theorem i_str {z : Str} {R : Prop} (h : R) : (∃ a, V.str z = .str a) ∧ R := ⟨⟨z, rfl⟩, h⟩
theorem i_len {p : Addr} {ys : List V} (h1 : SqL K H p ys ∨ SqT K H p ys) (h : Q (.int ys.length) H) : ∃ q zs, [V.ref p] = [.ref q] ∧ (SqL K H q zs ∨ SqT K H q zs) ∧ Q (.int zs.length) H := ⟨p, ys, rfl, h1, h⟩
theorem i_lenS {l : List Nat} (h1 : l.length ≤ sizeLine) (h : Q (.int (l.length : Int)) H) : ∃ z, [V.str (S l)] = [.str z] ∧ z.length ≤ sizeLine ∧ Q (.int z.length) H := ⟨S l, rfl, by rw [S_len]; exact h1, by rw [S_len]; exact h⟩
end
theorem sqL_of {K : PySem.W.Frag} {H : Hp} {a : Addr} {xs : List V} (h : H a = some (.lst xs)) : SqL K H a xs := .inl (.inl h)
theorem sqT_of {K : PySem.W.Frag} {H : Hp} {a : Addr} {xs : List V} (h : H a = some (.tup xs)) : SqT K H a xs := .inl (.inl h)
/-- the part of a text between two places -/
def cut (l : List Nat) (lo hi : Option Int) : List Nat := (l.drop (HT.sIx l.length 0 lo)).take (HT.sIx l.length l.length hi - HT.sIx l.length 0 lo)
theorem cutS_S (l : List Nat) (lo hi : Option Int) : cutS (S l) lo hi = S (cut l lo hi) := by
  unfold cutS cut
  rw [S_list, S_len]; rfl
theorem cut_from (l : List Nat) (k : Nat) : cut l (some (k : Int)) none = l.drop k := by
  unfold cut
  rw [HT.sIx_nat, HT.sIx_none]
  rcases Nat.le_total k l.length with h | h
  · rw [Nat.min_eq_left h, List.take_of_length_le (by rw [List.length_drop]; omega)]
  · rw [Nat.min_eq_right h, List.drop_length, List.drop_of_length_le h, List.take_nil]
theorem cut_to (l : List Nat) (k : Nat) : cut l none (some (k : Int)) = l.take k := by
  unfold cut
  rw [HT.sIx_nat, HT.sIx_none, List.drop_zero, Nat.sub_zero]
  rcases Nat.le_total k l.length with h | h
  · rw [Nat.min_eq_left h]
  · rw [Nat.min_eq_right h, List.take_length, List.take_of_length_le h]
theorem i_slS {l : List Nat} {lo hi : Option Int} {H : Hp} {Q : VK} (h1 : l.length ≤ sizeLine) (h : Q (.str (S (cut l lo hi))) H) : rSlS (.str (S l)) lo hi H Q := ⟨S l, rfl, by rw [S_len]; exact h1, by rw [cutS_S]; exact h⟩
theorem i_tB {t : TE} {R : Bool → Hp → Prop} {σ : L2.St} {H : Hp} (h : t σ H fun x H1 => ∃ c, x = .bl c ∧ R c H1) : tB t σ H R := h
theorem i_retN {σ : L2.St} {H : Hp} {D : Ends} (h : D.rt .non H) : tRetN D σ H := h
theorem i_par3 {i j l : Nat} {ta : TA} {σ : L2.St} {H : Hp} {D : Ends} (h : ta σ H fun vs H1 => ∃ u v w, vs = [u, v, w] ∧ D.nx (((σ.set i (some u)).set j (some v)).set l (some w)) H1) : tPar3 i j l ta D σ H := h
theorem i_trip {R : V → V → V → Prop} {a b c : V} (h : R a b c) : ∃ u v w, [a, b, c] = [u, v, w] ∧ R u v w := ⟨a, b, c, rfl, h⟩
theorem i_gTup {K : PySem.W.Frag} {n : Nat} {t : TGs} {a : Addr} {xs : List V} {σ : L2.St} {H : Hp} {R : L2.St → Hp → Prop} (h1 : SqT K H a xs) (h2 : xs.length = n) (h : t xs σ H R) : gTup K n t (.ref a) σ H R := ⟨a, xs, rfl, h1, h2, h⟩
theorem i_gCons {t : TG} {u : TGs} {v : V} {r : List V} {σ : L2.St} {H : Hp} {R : L2.St → Hp → Prop} (h : t v σ H fun σ' H' => u r σ' H' R) : gCons t u (v :: r) σ H R := ⟨v, r, rfl, h⟩
theorem i_gNil {σ : L2.St} {H : Hp} {R : L2.St → Hp → Prop} (h : R σ H) : gNil [] σ H R := ⟨rfl, h⟩
theorem i_lstRg {te : L2.St → Hp → (Int → Int → Hp → Prop) → Prop} {σ : L2.St} {H : Hp} {Q : VK} (h : te σ H fun a b H1 => RgOk a b ∧ ∀ q, H1 q = none → Q (.ref q) (upd H1 q (.lst (rgV a b)))) : tLstRg te σ H Q := h
theorem i_rg1 {ta : TE} {σ : L2.St} {H : Hp} {R : Int → Int → Hp → Prop} (h : ta σ H fun x H1 => ∃ n, x = .int n ∧ R 0 n H1) : tRg1 ta σ H R := h
theorem i_pow {g : Int → Int → V} {a b : Int} {H : Hp} {Q : VK} (h1 : 0 ≤ b) (h2 : b ≤ 1000000) (h3 : a.natAbs < 2 ^ 64) (h : Q (g a b) H) : rI CPow g (.int a) (.int b) H Q := ⟨a, b, rfl, rfl, ⟨h1, h2, h3⟩, h⟩
theorem S_le {l : List Nat} (h : l.length ≤ 100000) : (S l).length ≤ sizeLine := Nat.le_trans h (by decide)
theorem ints_get {ns : List Int} {j : Nat} {v : V} (h : (ns.map V.int)[j]? = some v) : ∃ i, ns[j]? = some i ∧ v = .int i := by
  rw [List.getElem?_map] at h
  cases e : ns[j]? with
  | none => rw [e] at h; cases h
  | some i => rw [e] at h; exact ⟨i, rfl, (Option.some.inj h).symm⟩
theorem ints_at {ns : List Int} {j : Nat} (h : j < ns.length) : (ns.map V.int)[j]? = some (.int ns[j]) := by
  rw [List.getElem?_map, List.getElem?_eq_getElem h]; rfl
theorem atI_ints {ns : List Int} {i : Int} (h0 : 0 ≤ i) (h1 : i < ns.length) : atI (ns.map V.int) i = some (.int (ns[i.toNat]'(by omega))) := by
  have h := atI_nat (xs := ns.map V.int) (ints_at (ns := ns) (show i.toNat < ns.length by omega))
  rwa [show ((i.toNat : Nat) : Int) = i by omega] at h
end Sw
namespace Sw
open PySem PySem.Spec PyProof.Rows L2
/-! ### x[::-1] of a text -/
def tRevS (te : TE) : TE := fun σ H Q => te σ H fun x H1 => ∃ l, x = .str (S l) ∧ l.length ≤ sizeLine ∧ Q (.str (S l.reverse)) H1
theorem fmap_map {α β : Type} {f : α → Option β} {g : α → β} : ∀ {l : List α}, (∀ a ∈ l, f a = some (g a)) → l.filterMap f = l.map g
  | [], _ => rfl
  | a :: l, h => by
    rw [List.filterMap_cons, h a List.mem_cons_self, List.map_cons, fmap_map fun b hb => h b (List.mem_cons_of_mem _ hb)]
theorem rev_list (l : List Nat) : ((Builtin.Str.strSliceIndices none none (-1) l.length).filterMap (l.toArray[·]?)) = l.reverse := by
  rw [PyProof.Rows.picked_rev, List.filterMap_map]
  apply List.ext_getElem?
  intro k
  have hf : List.filterMap ((fun x => l.toArray[x]?) ∘ fun k => l.length - 1 - k) (List.range l.length) = (List.range l.length).map fun k => l.getD (l.length - 1 - k) 0 := by
    refine fmap_map fun a ha => ?_
    have ha' : a < l.length := List.mem_range.mp ha
    have hb : l.length - 1 - a < l.length := by omega
    show l.toArray[l.length - 1 - a]? = some (l.getD (l.length - 1 - a) 0)
    rw [List.getElem?_toArray, List.getD_eq_getElem?_getD, List.getElem?_eq_getElem hb]
    rfl
  rw [hf, List.getElem?_map]
  by_cases hk : k < l.length
  · have hb : l.length - 1 - k < l.length := by omega
    rw [List.getElem?_range hk, List.getElem?_reverse hk]
    show some (l.getD (l.length - 1 - k) 0) = _
    rw [List.getD_eq_getElem?_getD, List.getElem?_eq_getElem hb]
    rfl
  · rw [List.getElem?_eq_none (by rw [List.length_range]; omega), List.getElem?_eq_none (by rw [List.length_reverse]; omega)]
    rfl
theorem pe_revS {X : Cx} {e : Expr} {te : TE} {k : Nat} {p1 p2 p3 pos : Pos} (he : PE X e te) :
    PE X (.Subscript e (.Slice none none (some (.UnaryOp .USub (.Constant (.int 1) k p1) p2)) p3) pos) (tRevS te) := by
  constructor
  intro pins s σ H Q I h
  refine Subscript_ (thn (he.run pins s σ H _ I h) fun v s1 ⟨x, H1, I1, r1, l, ex, hl, q⟩ => ?_)
  subst ex
  obtain ⟨tk, rfl⟩ := r1
  have st : PO X (some (.UnaryOp .USub (.Constant (.int 1) k p1) p2)) (tPart (tUn (rU fun i => .int (-i)) (tC (.int 1)))) := po_some (pe_un un_neg pe_int)
  refine wpAny_Slice (thn (po_none.run pins s1 σ H1 (fun o G => o = none ∧ G = H1) I1 ⟨rfl, rfl⟩) fun w1 s2 ⟨o1, G1, J1, z1, a1, b1⟩ => ?_)
  subst a1 b1
  refine thn (po_none.run pins s2 σ G1 (fun o G => o = none ∧ G = G1) J1 ⟨rfl, rfl⟩) fun w2 s3 ⟨o2, G2, J2, z2, a2, b2⟩ => ?_
  subst a2 b2
  refine thn (st.run pins s3 σ G2 (fun o G => o = some (-1) ∧ G = G2) J2 ⟨1, rfl, -1, rfl, rfl, rfl⟩) fun w3 s4 ⟨o3, G3, J3, z3, a3, b3⟩ => ?_
  subst a3 b3
  have J4 : Inv X pins σ G3 { s4 with heap := s4.heap.push { cls := .type "slice", data := .fields #[w1, w2, w3] } } := J3.kept (t' := s4.toks) fun b ob q => Heap.get?_push_of_some _ q
  obtain ⟨y1, rfl, f1⟩ := IsPart.raw z1
  obtain ⟨y2, rfl, f2⟩ := IsPart.raw z2
  obtain ⟨y3, rfl, f3⟩ := IsPart.raw z3
  cases y1 with
  | some y => cases f1
  | none =>
  cases y2 with
  | some y => cases f2
  | none =>
  cases y3 with
  | none => cases f3
  | some y =>
  obtain ⟨m, u⟩ := y
  have em : m = -1 := Option.some.inj f3
  subst em
  refine tail_any (T := "str") (id := _) (ops := [.str (S l) tk, .ref s4.heap.objs.size]) (typeIs_str _ _ _) F.slot_str_getitem.lookup ?_ (by with_unfolding_all rfl)
  refine wpAny_getItem_str_slice (l := none) (u := none) (st := some (-1, u)) ⟨_, Heap.get?_push_size _ rfl, rfl, rfl⟩ rfl ?_
  show Made.post (if ((-1 : Int) == 1 && (Builtin.Str.strSliceIndices none none (-1) (S l).length).length == (S l).length) = true then Made.val (.str (S l) tk)
    else Made.str ⟨((Builtin.Str.strSliceIndices none none (-1) (S l).length).filterMap ((S l).cps[·]?)).toArray⟩) (EP X pins σ Q) _
  rw [if_neg (by rw [show ((-1 : Int) == 1) = false from rfl, Bool.false_and]; exact Bool.false_ne_true)]
  have e : ((Builtin.Str.strSliceIndices none none (-1) (S l).length).filterMap ((S l).cps[·]?)) = l.reverse := by
    rw [S_len]
    exact rev_list l
  rw [e]
  refine ⟨by show (S l.reverse).length ≤ sizeLine; rw [S_len, List.length_reverse]; exact hl, .str (S l.reverse), G3, J4.tok _, ⟨_, rfl⟩, q⟩
/-! ### enumerate(text) -/
/-- a text's signs, each in a new pair with its number -/
def ItE (x : Str) : It := ⟨fun i _ => i < x.cps.size, fun i H v H' => ∃ T c, v = .ref T ∧ H T = none ∧ x.cps[i]? = some c ∧ H' = upd H T (.tup [.int (i : Nat), .str ⟨#[c]⟩]), fun i _ => i = x.cps.size⟩
theorem turn_enumS {P : Program} {w : World} {K : PySem.W.Frag} {elts : List Expr} {kk : Nat} {tpos : Pos} (x : Str) (t : Tok) (e it : Addr) (hne : e ≠ it) :
    Turn P w K (.Tuple elts kk tpos) (ItE x) [e, it] e (fun i h => (∃ old, IsEnum h e it ((i : Nat) : Int) old) ∧ h.IsStrIter it (strIterType x) x t i) := by
  refine ⟨by simp, fun i h st b hb => ?_, fun i h h' st k => ?_, ?_, ?_, fun A i s Q E st h => ?_⟩
  · obtain ⟨⟨old, he⟩, o, ho, hc, hd⟩ := st
    have e' : b = e ∨ b = it := by simpa using hb
    rcases e' with rfl | rfl
    · exact ⟨_, he, fun v q => nomatch q⟩
    · exact ⟨o, ho, fun v q => by rw [hd] at q; cases q⟩
  · obtain ⟨⟨old, he⟩, o, ho, z⟩ := st
    exact ⟨⟨old, k e (by simp) _ he⟩, o, k it (by simp) o ho, z⟩
  · rintro X rfl rfl rfl hc i pins s σ H E I hf ⟨⟨old, he⟩, hit⟩ hg
    have hh : X.A.in1.handled = none := I.ok.hd hc
    have DD := Draws.text (prog := X.prog) (w := X.w) (A := X.A.in1) hh it x t
    have l1 : e < s.heap.objs.size := Heap.lt_size he
    have l2 : it < s.heap.objs.size := by obtain ⟨_, q, _⟩ := hit; exact Heap.lt_size q
    refine wpAny_pyNext_enum_itemD DD he hit hg hne (by simpa using hne) fun v h1 tk hv ho hit' hT hsz hk => ?_
    obtain ⟨c, u, hc', rfl⟩ := hv
    refine ⟨_, rfl, wpAny_letOwnedTupleGo_enum (s := { s with heap := h1, toks := tk + 1 }) ho fun h2 he' sb => ?_⟩
    have nT := Nat.ne_of_gt l1
    have gT : h2.get? s.heap.objs.size = some { cls := .type "tuple", data := .seq #[.int i tk, .str ⟨#[c]⟩ u] } := (sb.2 _ nT).trans hT
    have fresh : H s.heap.objs.size = none := I.hok.fresh (Nat.le_refl _)
    have new : ObjOk X.prog X.w (upd H s.heap.objs.size (.tup [.int (i : Nat), .str ⟨#[c]⟩])) h2 s.heap.objs.size (.tup [.int (i : Nat), .str ⟨#[c]⟩]) :=
      ⟨Nat.le_of_ble_eq_true rfl, [.int i tk, .str ⟨#[c]⟩ u], .cons ⟨_, rfl⟩ (.cons ⟨_, rfl⟩ .nil), _, gT, rfl, _, rfl⟩
    have J : Inv X pins σ (upd H s.heap.objs.size (.tup [.int (i : Nat), .str ⟨#[c]⟩])) { s with heap := h2, toks := tk + 1 } := by
      refine I.turnedNew (ch := [e, it]) (fun b ob hb q => ?_) hf (Nat.le_refl _) new
      have n1 : b ≠ e := fun z => hb (by simp [z])
      have n2 : b ≠ it := fun z => hb (by simp [z])
      exact (sb.2 b n1).trans (hk b ob n1 n2 q)
    refine ⟨.ref s.heap.objs.size, _, J, rfl, ⟨_, c, rfl, fresh, hc', rfl⟩, ⟨⟨.str ⟨#[c]⟩ u, ?_⟩, ?_⟩, fun b hb => ?_⟩
    · rw [show ((i + 1 : Nat) : Int) = (i : Int) + 1 by omega]
      exact he'
    · obtain ⟨o, g1, g2⟩ := hit'
      exact ⟨o, (sb.2 it (Ne.symm hne)).trans g1, g2⟩
    · have lb : b < s.heap.objs.size := by
        have e' : b = e ∨ b = it := by simpa using hb
        rcases e' with rfl | rfl <;> assumption
      rw [upd_ne (Nat.ne_of_lt lb)]
      exact (hf b hb).1
  · rintro X rfl rfl rfl hc i pins s σ H E I hf ⟨⟨old, he⟩, hit⟩ hg
    have hh : X.A.in1.handled = none := I.ok.hd hc
    have DD := Draws.text (prog := X.prog) (w := X.w) (A := X.A.in1) hh it x t
    have hi : i = x.cps.size := hg
    subst hi
    obtain ⟨f0, f1, f2, f3, f4, f5⟩ := hf it (by simp)
    exact wpAny_pyNext_enum_endD DD he hit fun h1 eb => ⟨rfl, I.turned (t' := s.toks) (fun b o hb q => eb b o hb q) f0 f1 f3 f4 f5⟩
  · obtain ⟨⟨old, he⟩, _⟩ := st
    exact wpAny_pyIter_enum he h
def iEnS (ta : TA) : TI := fun σ H R => ta σ H fun vs H1 => ∃ x, vs = [.str x] ∧ R (ItE x) H1
theorem pi_enumS {X : Cx} {e : Expr} {ta : TA} {p pos tpos : Pos} {elts : List Expr} {kk : Nat} (hg : Gl X "enumerate") (hm : X.mg "enumerate" = none) (ha : PA X [e] ta) (hs : starEach [e] X.env = [(false, eval e X.env)] := by rfl) :
    PI X (.Tuple elts kk tpos) (.Call (.Name "enumerate" p) [e] [] pos) (iEnS ta) := by
  constructor
  intro pins s σ H R I h
  refine Call_ (ld_blt I hg hm boot_enumerate (PyProof.Rows.callWith_type1 (thn (ha.run pos pins s σ H _ I h) fun us s1 q1 => ?_) hs rfl))
  obtain ⟨vs, H1, I1, r1, x, rfl, q⟩ := q1
  cases r1 with
  | cons r rr =>
    cases rr
    obtain ⟨t, rfl⟩ := r
    refine call_enumerate_str fun h1 he hit hsz hk => wpAny_pyIter_enum he ?_
    have J : Inv X pins σ H1 { s1 with heap := h1 } := I1.kept (t' := s1.toks) hk
    refine ⟨s1.heap.objs.size + 1, [s1.heap.objs.size + 1, s1.heap.objs.size], _, ItE x, H1, rfl, J, turn_enumS x t _ _ (Nat.succ_ne_self _), ⟨⟨.none, he⟩, hit⟩, fun b hb => ?_, q⟩
    have lb : s1.heap.objs.size ≤ b := by
      have e' : b = s1.heap.objs.size + 1 ∨ b = s1.heap.objs.size := by simpa using hb
      rcases e' with rfl | rfl
      · exact Nat.le_succ _
      · exact Nat.le_refl _
    exact I1.fpOk lb (I1.hok.fresh lb)
theorem walk_enumS {x : Str} : Walk (ItE x) x.cps.size (fun _ => True) (fun i H v H' => ∃ T c, v = .ref T ∧ H T = none ∧ x.cps[i]? = some c ∧ H' = upd H T (.tup [.int (i : Nat), .str ⟨#[c]⟩])) :=
  ⟨fun _ _ hi _ => hi, fun _ _ => rfl, fun _ _ _ _ _ _ y => y⟩
end Sw
namespace Sw
open PySem PySem.Spec PyProof.Rows L2
/-! ### comprehensions that leave all as it was -/
theorem lc_map {J : It} {n : Nat} {G : Hp → Prop} {Y : Nat → Hp → V → Hp → Prop} {g : TG} {te : TE} {vs : List Nat} {σ : L2.St} {H1 : Hp} {D : Addr} {Qd : Hp → Prop} (w : Walk J n G Y) (f : Nat → V)
    (hn : n ≤ 1000000) (nD : H1 D = none) (hG : ∀ H, Same H1 H → G H)
    (hs : ∀ i x H H', i < n → Same H1 H → Y i H x H' → ∀ R : V → Hp → Prop, (∀ H4, Same H H4 → R (f i) H4) → g x (wipe σ vs) H' fun σ2 H2 => wipe σ2 vs = wipe σ vs ∧ te σ2 H2 R)
    (hd : ∀ H, Same H1 H → H D = some (.lst ((List.range n).map f)) → Qd H)
    (hmono : ∀ x σ H (R R' : L2.St → Hp → Prop), (∀ σ' H', R σ' H' → R' σ' H') → g x σ H R → g x σ H R') :
    ∃ W : Nat → Nat → Hp → Prop, (∃ m, W 0 m (upd H1 D (.lst []))) ∧ ∀ i m H, W i m H →
      (J.stop i H ∧ Qd H) ∨ (J.go i H ∧ ∃ Nx : Hp → Prop, (∀ H', Nx H' → ∃ m', m' < m ∧ W (i + 1) m' H') ∧ ∀ x H', J.yld i H x H' → g x (wipe σ vs) H' fun σ2 H2 => wipe σ2 vs = wipe σ vs ∧ tYes σ2 H2 fun b H3 =>
        if b = true then te σ2 H3 fun y H4 => ∃ acc, H4 D = some (.lst acc) ∧ acc.length < sizeLine ∧ Nx (upd H4 D (.lst (acc ++ [y]))) else Nx H3) := by
  refine lc_it w (fun i H => Same H1 H ∧ H D = some (.lst ((List.range i).map f))) ⟨same_upd nD, upd_same⟩ (fun i H _ p => hG H p.1) (fun i x H H' hi p y => ?_) (fun H p => hd H p.1 p.2)
  refine hmono _ _ _ _ _ (fun σ2 H2 q => ?_) (hs i x H H' hi p.1 y (fun y H4 => ∃ acc, H4 D = some (.lst acc) ∧ acc.length < sizeLine ∧ (Same H1 (upd H4 D (.lst (acc ++ [y]))) ∧ (upd H4 D (.lst (acc ++ [y]))) D = some (.lst ((List.range (i + 1)).map f)))) (fun H4 s4 => ?_))
  · refine ⟨q.1, ?_⟩
    unfold tYes
    dsimp only
    rw [if_pos rfl]
    exact q.2
  · refine ⟨_, s4 _ _ p.2, ?_, fun b o e => ?_, ?_⟩
    · rw [List.length_map, List.length_range]
      exact Nat.lt_of_lt_of_le hi (Nat.le_trans hn (by decide))
    · rw [upd_ne (ne_of_none e nD)]
      exact s4 _ _ (p.1 _ _ e)
    · rw [upd_same, List.range_succ, List.map_append]
      rfl
theorem mono_name {i : Nat} (x : V) (σ : L2.St) (H : Hp) (R R' : L2.St → Hp → Prop) (h : ∀ σ' H', R σ' H' → R' σ' H') (q : gName i x σ H R) : gName i x σ H R' := h _ _ q
theorem range_map_get {α β : Type} (l : List α) (F : Nat → β) (g : α → β) (h : ∀ i x, l[i]? = some x → F i = g x) : (List.range l.length).map F = l.map g := by
  apply List.ext_getElem?
  intro i
  rw [List.getElem?_map, List.getElem?_map]
  by_cases hi : i < l.length
  · rw [List.getElem?_range hi, List.getElem?_eq_getElem hi]
    show some (F i) = some (g l[i])
    rw [h i _ (List.getElem?_eq_getElem hi)]
  · rw [List.getElem?_eq_none (by rw [List.length_range]; omega), List.getElem?_eq_none (by omega)]; rfl
/-! ### isinstance -/
theorem i_isi {K : PySem.W.Frag} {H : Hp} {Q : VK} {x : V} {t : Value} {n : String} (b : Bool) (h1 : TyX K H x t) (h2 : PySem.W.kitOne K t (.type n) = some b) (h : Q (.bl b) H) : rIsi K [x, .ty n] H Q := ⟨x, .ty n, t, .type n, b, rfl, .ty n, h1, h2, h⟩
/-! ### texts of letters -/
def azB (l : List Nat) : Bool := l.all fun c => decide (97 ≤ c ∧ c ≤ 122)
theorem azB_app (a b : List Nat) : azB (a ++ b) = (azB a && azB b) := by simp [azB, List.all_append]
theorem azB_take {l : List Nat} (h : azB l = true) (n : Nat) : azB (l.take n) = true := by
  unfold azB at *
  rw [List.all_eq_true] at *
  exact fun x hx => h x (List.mem_of_mem_take hx)
theorem azB_drop {l : List Nat} (h : azB l = true) (n : Nat) : azB (l.drop n) = true := by
  unfold azB at *
  rw [List.all_eq_true] at *
  exact fun x hx => h x (List.mem_of_mem_drop hx)
theorem az_letters : (("abcdefghijklmnopqrstuvwxyz" : Str)).cps.toList = List.range' 97 26 := by decide +kernel
theorem az_in (c : Nat) : decide (c ∈ (("abcdefghijklmnopqrstuvwxyz" : Str)).cps.toList) = decide (97 ≤ c ∧ c ≤ 122) := by
  rw [az_letters]
  by_cases h : 97 ≤ c ∧ c ≤ 122
  · rw [decide_eq_true h, decide_eq_true]
    exact List.mem_range'_1.mpr ⟨h.1, by omega⟩
  · rw [decide_eq_false h, decide_eq_false]
    intro q
    have := List.mem_range'_1.mp q
    omega
theorem e_empty : (("" : Str)) = S [] := by decide +kernel
theorem starts_S (a b : List Nat) : Txt.startswith (S a) (S b) = decide (a.take b.length = b) := by
  unfold Txt.startswith Builtin.Str.subAt
  rw [S_len, S_len]
  show (decide (0 + b.length ≤ a.length) && ((a.toArray.extract 0 (0 + b.length)) == b.toArray)) = _
  rw [Nat.zero_add]
  have e : (a.toArray.extract 0 b.length) = (a.take b.length).toArray := by
    rw [List.extract_toArray, List.extract_eq_take_drop]
    simp
  rw [e]
  by_cases h : a.take b.length = b
  · rw [h, decide_eq_true rfl, beq_self_eq_true, Bool.and_true, decide_eq_true]
    have := congrArg List.length h
    rw [List.length_take] at this
    omega
  · rw [decide_eq_false h]
    have : ((a.take b.length).toArray == b.toArray) = false := by
      rw [beq_eq_false_iff_ne]
      intro q
      exact h (by simpa using q)
    rw [this, Bool.and_false]
/-! ### what is known of a heap stays -/
theorem Same.at {H H' : Hp} {a : Addr} {o : HO} (s : Same H H') (h : H a = some o) : H' a = some o := s a o h
theorem Same.sqT {K : PySem.W.Frag} {H H' : Hp} {a : Addr} {xs : List V} (e : Same H H') (h : SqT K H a xs) : SqT K H' a xs := by
  rcases h with (h | ⟨o, h⟩) | h
  · exact .inl (.inl (e _ _ h))
  · exact .inl (.inr ⟨o, e _ _ h⟩)
  · exact .inr h
theorem Same.sqL {K : PySem.W.Frag} {H H' : Hp} {a : Addr} {xs : List V} (e : Same H H') (h : SqL K H a xs) : SqL K H' a xs := e.seq h
theorem Same.upd_new {H H1 : Hp} {p : Addr} {o : HO} (s : Same H H1) (n : H1 p = none) : Same H (upd H1 p o) := s.trans (same_upd n)
/-- an object that is new since H is written: what was tracked at H stays -/
theorem Same.set_new {H H1 : Hp} {p : Addr} {o : HO} (s : Same H H1) (n : H p = none) : Same H (upd H1 p o) := fun b x e => by
  rw [upd_ne (ne_of_none e n)]
  exact s _ _ e
/-! ### loops and comprehensions, their source apart -/
def LcGo (J : It) (g : TG) (tt : TT) (te : TE) (vs : List Nat) (σ : L2.St) (H : Hp) (Q : VK) : Prop := tLc (fun _ H R => R J H) g tt te vs σ H Q
def ForGo (J : It) (g : TG) (tb : TS) (D : Ends) (σ : L2.St) (H : Hp) : Prop := tFor (fun _ H R => R J H) g tb D σ H
theorem i_lc {wi : TI} {g : TG} {tt : TT} {te : TE} {vs : List Nat} {σ : L2.St} {H : Hp} {Q : VK} (h : wi σ H fun J H1 => LcGo J g tt te vs σ H1 Q) : tLc wi g tt te vs σ H Q := h
theorem i_for {wi : TI} {g : TG} {tb : TS} {D : Ends} {σ : L2.St} {H : Hp} (h : wi σ H fun J H1 => ForGo J g tb D σ H1) : tFor wi g tb D σ H := h
theorem i_iList {K : PySem.W.Frag} {tl : TE} {R : It → Hp → Prop} {σ : L2.St} {H : Hp} (h : tl σ H fun x H1 => ∃ a, x = .ref a ∧ (∃ xs, SqL K H1 a xs) ∧ R (Itl K a) H1) : iList K tl σ H R := h
theorem i_iTup {K : PySem.W.Frag} {tl : TE} {R : It → Hp → Prop} {σ : L2.St} {H : Hp} (h : tl σ H fun x H1 => ∃ a, x = .ref a ∧ (∃ xs, SqT K H1 a xs) ∧ R (Itt K a) H1) : iTup K tl σ H R := h
theorem i_iStr {te : TE} {R : It → Hp → Prop} {σ : L2.St} {H : Hp} (h : te σ H fun v H1 => ∃ x, v = .str x ∧ R (Its x) H1) : iStr te σ H R := h
theorem i_iRng1 {ta : TA} {R : It → Hp → Prop} {σ : L2.St} {H : Hp} (h : ta σ H fun vs H1 => ∃ j : Int, vs = [.int j] ∧ -(2 ^ 62) ≤ j ∧ j < 2 ^ 62 ∧ R (Itr 0 j.toNat) H1) : iRng1 ta σ H R := h
theorem i_iEnS {ta : TA} {R : It → Hp → Prop} {σ : L2.St} {H : Hp} (h : ta σ H fun vs H1 => ∃ x, vs = [.str x] ∧ R (ItE x) H1) : iEnS ta σ H R := h
theorem i_rng {j : Int} {A : Prop} (h0 : 0 ≤ j) (h1 : j ≤ 1000000) (h : A) : -(2 ^ 62) ≤ j ∧ j < 2 ^ 62 ∧ A := ⟨by omega, by omega, h⟩
theorem i_sqL {K : PySem.W.Frag} {H : Hp} {a : Addr} {xs : List V} {A : Prop} (h1 : SqL K H a xs) (h : A) : (∃ xs, SqL K H a xs) ∧ A := ⟨⟨xs, h1⟩, h⟩
section
variable {J : It} {n : Nat} {G : Hp → Prop} {Y : Nat → Hp → V → Hp → Prop} {g : TG} {tt : TT} {te : TE} {tb : TS} {vs : List Nat} {σ : L2.St} {H1 : Hp} {D : Ends} {Q : VK}
theorem go_map (w : Walk J n G Y) (f : Nat → V) (hn : n ≤ 1000000) (hG : ∀ H, Same H1 H → G H)
    (hs : ∀ i x H H', i < n → Same H1 H → Y i H x H' → ∀ R : V → Hp → Prop, (∀ H4, Same H H4 → R (f i) H4) → g x (wipe σ vs) H' fun σ2 H2 => wipe σ2 vs = wipe σ vs ∧ te σ2 H2 R)
    (hmono : ∀ x σ H (R R' : L2.St → Hp → Prop), (∀ σ' H', R σ' H' → R' σ' H') → g x σ H R → g x σ H R')
    (hd : ∀ p H, H1 p = none → Same H1 H → H p = some (.lst ((List.range n).map f)) → Q (.ref p) H) : LcGo J g tYes te vs σ H1 Q :=
  fun p np => lc_map w f hn np hG hs (fun H s e => hd p H np s e) hmono
theorem go_lc (w : Walk J n G Y) (Pv : Addr → Nat → Hp → Prop) (h0 : ∀ p, H1 p = none → Pv p 0 (upd H1 p (.lst []))) (hG : ∀ p i H, i ≤ n → Pv p i H → G H)
    (hs : ∀ p, H1 p = none → ∀ i x H H', i < n → Pv p i H → Y i H x H' → g x (wipe σ vs) H' fun σ2 H2 => wipe σ2 vs = wipe σ vs ∧ tt σ2 H2 fun b H3 =>
      if b = true then te σ2 H3 fun y H4 => ∃ acc, H4 p = some (.lst acc) ∧ acc.length < sizeLine ∧ Pv p (i + 1) (upd H4 p (.lst (acc ++ [y]))) else Pv p (i + 1) H3)
    (hd : ∀ p H, H1 p = none → Pv p n H → Q (.ref p) H) : LcGo J g tt te vs σ H1 Q :=
  fun p np => lc_it w (Pv p) (h0 p np) (hG p) (hs p np) fun H q => hd p H np q
theorem go_for (w : Walk J n G Y) (Pv : Nat → L2.St → Hp → Prop) (h0 : Pv 0 σ H1) (hG : ∀ i σ H, i ≤ n → Pv i σ H → G H)
    (hs : ∀ i x σ H H', i < n → Pv i σ H → Y i H x H' → g x σ H' fun σ2 H2 => tb { D with nx := Pv (i + 1), ct := Pv (i + 1), bk := D.nx } σ2 H2) (hd : ∀ σ H, Pv n σ H → D.nx σ H) : ForGo J g tb D σ H1 :=
  for_it w Pv h0 hG hs hd
end
theorem i_all {K : PySem.W.Frag} {p : Addr} {bs : List Bool} {H : Hp} {Q : VK} (h1 : H p = some (.lst (bs.map V.bl))) (h : Q (.bl (bs.all id)) H) : rAll K [.ref p] H Q := ⟨p, bs, rfl, sqL_of h1, h⟩
theorem i_inSeq {K : PySem.W.Frag} {p : Addr} {xs : List V} {x : V} {H : Hp} {Q : VK} (h1 : SqL K H p xs ∨ SqT K H p xs) (h2 : flatV x = true) (h3 : xs.all flatV = true) (h : Q (.bl (inV x xs)) H) : rIn K false x (.ref p) H Q := ⟨p, xs, rfl, h1, h2, h3, h⟩
theorem i_ixLH {K : PySem.W.Frag} {p : Addr} {xs : List V} {i : Int} {v : V} {H : Hp} {Q : VK} (h1 : H p = some (.lst xs)) (h2 : atI xs i = some v) (h : Q v H) : rIxL K (.ref p) (.int i) H Q := i_ixL (sqL_of h1) h2 h
theorem i_ixTH {K : PySem.W.Frag} {p : Addr} {xs : List V} {i : Int} {v : V} {H : Hp} {Q : VK} (h1 : H p = some (.tup xs)) (h2 : atI xs i = some v) (h : Q v H) : rIxT K (.ref p) (.int i) H Q := i_ixT (sqT_of h1) h2 h
theorem upd_old {H : Hp} {p a : Addr} {o u : HO} (n : H p = none) (h : H a = some u) : upd H p o a = some u := by rw [upd_ne (ne_of_none h n)]; exact h
theorem upd_skip {H : Hp} {p a : Addr} {o u : HO} (n : a ≠ p) (h : H a = some u) : upd H p o a = some u := by rw [upd_ne n]; exact h
theorem iteNT {A B : Prop} (h : B) : if (!true) = true then A else B := iteF h
theorem iteNF {A B : Prop} (h : A) : if (!false) = true then A else B := iteT h
theorem iteNB {p : Prop} [Decidable p] {A B : Prop} (h1 : ¬ p → A) (h2 : p → B) : if (!decide p) = true then A else B := by
  by_cases h : p
  · rw [decide_eq_true h]; exact iteF (h2 h)
  · rw [decide_eq_false h]; exact iteT (h1 h)
theorem iteNC {c : Bool} {A B : Prop} (h1 : c = false → A) (h2 : c = true → B) : if (!c) = true then A else B := by
  cases c with
  | true => exact iteF (h2 rfl)
  | false => exact iteT (h1 rfl)
/-! ### rules whose readings have names, over texts S l -/
section
variable {X : Cx} {H : Hp} {Q : VK} {K : PySem.W.Frag}
theorem pe_strS {x : Str} {j pos} {l : List Nat} (e : x = S l) : PE X (.Constant (.str x) j pos) (tC (.str (S l))) := by rw [e]; exact pe_str
def rAddS : R2 := fun x y H Q => ∃ a b, x = .str (S a) ∧ y = .str (S b) ∧ a.length + b.length ≤ 1000000 ∧ Q (.str (S (a ++ b))) H
theorem op_addS : OpR X (binaryOp .Add) rAddS := fun pins s σ H x y v u Q I rx ry h => by
  obtain ⟨a, b, e1, e2, hz, q⟩ := h
  exact op_add_str pins s σ H x y v u Q I rx ry ⟨S a, S b, e1, e2, by rw [S_len, S_len]; exact Nat.le_trans hz (by decide), by rw [S_app]; exact q⟩
theorem i_addS {a b : List Nat} (h1 : a.length + b.length ≤ 1000000) (h : Q (.str (S (a ++ b))) H) : rAddS (.str (S a)) (.str (S b)) H Q := ⟨a, b, rfl, rfl, h1, h⟩
def rIxSS : V → V → Hp → VK → Prop := fun x y H Q => ∃ l i c, x = .str (S l) ∧ y = .int i ∧ l.length ≤ 1000000 ∧ atI l i = some c ∧ Q (.str (S [c])) H
theorem ix_S : IxR X rIxSS := fun pins s σ H x y v u b Q I rx ry hb h => by
  obtain ⟨l, i, c, e1, e2, hz, hc, q⟩ := h
  exact ix_str pins s σ H x y v u b Q I rx ry hb ⟨S l, i, c, e1, e2, by rw [S_len]; exact Nat.le_trans hz (by decide), by rw [S_list]; exact hc, q⟩
theorem i_ixSS {l : List Nat} {i : Int} {c : Nat} (h1 : l.length ≤ 1000000) (h2 : atI l i = some c) (h : Q (.str (S [c])) H) : rIxSS (.str (S l)) (.int i) H Q := ⟨l, i, c, rfl, rfl, h1, h2, h⟩
def rSlSS : V → Option Int → Option Int → Hp → VK → Prop := fun x lo hi H Q => ∃ l, x = .str (S l) ∧ l.length ≤ 1000000 ∧ Q (.str (S (cut l lo hi))) H
theorem sl_S : SlR X rSlSS := fun pins s σ H x v vl vu lo hi sl Q I rx hs pl pu h => by
  obtain ⟨l, e1, hz, q⟩ := h
  exact sl_str pins s σ H x v vl vu lo hi sl Q I rx hs pl pu ⟨S l, e1, by rw [S_len]; exact Nat.le_trans hz (by decide), by rw [cutS_S]; exact q⟩
theorem i_slFrom {l : List Nat} {k : Int} (h0 : 0 ≤ k) (h1 : l.length ≤ 1000000) (h : Q (.str (S (l.drop k.toNat))) H) : rSlSS (.str (S l)) (some k) none H Q :=
  ⟨l, rfl, h1, by rw [show k = ((k.toNat : Nat) : Int) by omega, cut_from]; exact h⟩
theorem i_slTo {l : List Nat} {k : Int} (h0 : 0 ≤ k) (h1 : l.length ≤ 1000000) (h : Q (.str (S (l.take k.toNat))) H) : rSlSS (.str (S l)) none (some k) H Q :=
  ⟨l, rfl, h1, by rw [show k = ((k.toNat : Nat) : Int) by omega, cut_to]; exact h⟩
def rLenSS : List V → Hp → VK → Prop := fun xs H Q => ∃ l, xs = [.str (S l)] ∧ l.length ≤ 1000000 ∧ Q (.int (l.length : Int)) H
theorem call_lenS : CallR X (.builtin "len") rLenSS := fun pins s σ H xs us Q I r h => by
  obtain ⟨l, e1, hz, q⟩ := h
  exact call_len_str pins s σ H xs us Q I r ⟨S l, e1, by rw [S_len]; exact Nat.le_trans hz (by decide), by rw [S_len]; exact q⟩
theorem i_lenSS {l : List Nat} (h1 : l.length ≤ 1000000) (h : Q (.int (l.length : Int)) H) : rLenSS [.str (S l)] H Q := ⟨l, rfl, h1, h⟩
def rStartS : V → List V → Hp → VK → Prop := fun x xs H Q => ∃ a b, x = .str (S a) ∧ xs = [.str (S b)] ∧ Q (.bl (decide (a.take b.length = b))) H
theorem mt_startsS : MtR X "str.startswith" rStartS := fun pins s σ H x xs v us Q I rx rv h => by
  obtain ⟨a, b, e1, e2, q⟩ := h
  exact mt_startswith pins s σ H x xs v us Q I rx rv ⟨S a, S b, e1, e2, by rw [starts_S]; exact q⟩
theorem i_startS {a b : List Nat} (h : Q (.bl (decide (a.take b.length = b))) H) : rStartS (.str (S a)) [.str (S b)] H Q := ⟨a, b, rfl, rfl, h⟩
def rInSg : R2 := fun x y H Q => ∃ (c : Nat) (z : Str), x = .str (S [c]) ∧ y = .str z ∧ Q (.bl (decide (c ∈ z.cps.toList))) H
theorem op_inSg : OpR X (compareOp .In) rInSg := op_in_sign
theorem i_inSg {c : Nat} {z : Str} (h : Q (.bl (decide (c ∈ z.cps.toList))) H) : rInSg (.str (S [c])) (.str z) H Q := ⟨c, z, rfl, rfl, h⟩
def rAbs : List V → Hp → VK → Prop := fun xs H Q => ∃ i, xs = [.int i] ∧ Q (.int (if i < 0 then -i else i)) H
theorem call_absN : CallR X (.builtin "abs") rAbs := call_abs
theorem i_absN {i : Int} (h : Q (.int (if i < 0 then -i else i)) H) : rAbs [.int i] H Q := ⟨i, rfl, h⟩
def rMin2 : List V → Hp → VK → Prop := fun xs H Q => ∃ i j, xs = [.int i, .int j] ∧ Q (.int (if j < i then j else i)) H
theorem call_min2N (hc : X.calm = true) : CallR X (.builtin "min") rMin2 := call_min2 hc
theorem i_min2 {i j : Int} (h : Q (.int (min i j)) H) : rMin2 [.int i, .int j] H Q := ⟨i, j, rfl, by
  by_cases c : j < i
  · rw [if_pos c]; rw [show min i j = j by omega] at h; exact h
  · rw [if_neg c]; rw [show min i j = i by omega] at h; exact h⟩
def rMax2 : List V → Hp → VK → Prop := fun xs H Q => ∃ i j, xs = [.int i, .int j] ∧ Q (.int (if j > i then j else i)) H
theorem call_max2N (hc : X.calm = true) : CallR X (.builtin "max") rMax2 := call_max2 hc
theorem i_max2 {i j : Int} (h : Q (.int (max i j)) H) : rMax2 [.int i, .int j] H Q := ⟨i, j, rfl, by
  by_cases c : j > i
  · rw [if_pos c]; rw [show max i j = j by omega] at h; exact h
  · rw [if_neg c]; rw [show max i j = i by omega] at h; exact h⟩
def rMin3 : List V → Hp → VK → Prop := fun xs H Q => ∃ i j k, xs = [.int i, .int j, .int k] ∧ Q (.int (min (min i j) k)) H
theorem nuMin2_int (i j : Int) : nuMin2 (.int i) (.int j) = some (.int (min i j)) := by
  show some (if decide (j < i) = true then V.int j else V.int i) = some (.int (min i j))
  by_cases c : j < i
  · rw [decide_eq_true c, if_pos rfl, show min i j = j by omega]
  · rw [decide_eq_false c, if_neg Bool.false_ne_true, show min i j = i by omega]
theorem call_min3N (hc : X.calm = true) : CallR X (.builtin "min") rMin3 := fun pins s σ H xs us Q I r h => by
  obtain ⟨i, j, k, e1, q⟩ := h
  exact call_min3Nu hc pins s σ H xs us Q I r ⟨_, _, _, _, e1, by unfold nuMin3; rw [nuMin2_int]; show nuMin2 (.int (min i j)) (.int k) = _; rw [nuMin2_int], q⟩
theorem i_min3 {i j k : Int} (h : Q (.int (min (min i j) k)) H) : rMin3 [.int i, .int j, .int k] H Q := ⟨i, j, k, rfl, h⟩
def rInt : List V → Hp → VK → Prop := fun xs H Q => (∃ i, xs = [.int i] ∧ Q (.int i) H) ∨ ∃ k, xs = [.bl k] ∧ Q (.int (if k then 1 else 0)) H
theorem call_intN : CallR X (.type "int") rInt := call_int1
theorem i_intN {i : Int} (h : Q (.int i) H) : rInt [.int i] H Q := .inl ⟨i, rfl, h⟩
theorem i_intNB {k : Bool} (h : Q (.int (if k then 1 else 0)) H) : rInt [.bl k] H Q := .inr ⟨k, rfl, h⟩
def rLenQ (K : PySem.W.Frag) : List V → Hp → VK → Prop := fun xs H Q => ∃ p ys, xs = [.ref p] ∧ (SqL K H p ys ∨ SqT K H p ys) ∧ Q (.int ys.length) H
theorem call_lenQ : CallR X (.builtin "len") (rLenQ X.K) := call_len_seq
theorem i_lenL {p : Addr} {ys : List V} (h1 : H p = some (.lst ys)) (h : Q (.int ys.length) H) : rLenQ K [.ref p] H Q := ⟨p, ys, rfl, .inl (sqL_of h1), h⟩
theorem i_lenT {p : Addr} {ys : List V} (h1 : H p = some (.tup ys)) (h : Q (.int ys.length) H) : rLenQ K [.ref p] H Q := ⟨p, ys, rfl, .inr (sqT_of h1), h⟩
theorem i_lenK {p : Addr} {ys : List V} (h1 : SqL K H p ys) (h : Q (.int ys.length) H) : rLenQ K [.ref p] H Q := ⟨p, ys, rfl, .inl h1, h⟩
theorem dec_inj {α β : Type} [DecidableEq α] [DecidableEq β] {f : α → β} (hf : ∀ a b, f a = f b → a = b) (a b : α) : decide (f a = f b) = decide (a = b) := by
  by_cases h : a = b
  · subst h; simp
  · rw [decide_eq_false h, decide_eq_false (fun e => h (hf a b e))]
theorem dec_I (a b : Int) : decide (V.int a = V.int b) = decide (a = b) := dec_inj (fun _ _ e => V.int.inj e) a b
theorem i_eqI {a b : Int} (h : Q (.bl (decide (a = b))) H) : rEq (.int a) (.int b) H Q := ⟨rfl, by rw [dec_I]; exact h⟩
theorem i_neI {a b : Int} (h : Q (.bl (!decide (a = b))) H) : rNe (.int a) (.int b) H Q := ⟨rfl, by rw [dec_I]; exact h⟩
theorem i_eqS {a b : List Nat} (h : Q (.bl (decide (a = b))) H) : rEq (.str (S a)) (.str (S b)) H Q := ⟨rfl, by rw [S_dec]; exact h⟩
theorem i_neS {a b : List Nat} (h : Q (.bl (!decide (a = b))) H) : rNe (.str (S a)) (.str (S b)) H Q := ⟨rfl, by rw [S_dec]; exact h⟩
def rIsNo : R2 := fun x y H Q => y = .non ∧ Q (.bl (decide (x = .non))) H
theorem op_isNo : OpR X (compareOp .Is) rIsNo := op_isN
theorem i_isNoI {i : Int} (h : Q (.bl false) H) : rIsNo (.int i) .non H Q := ⟨rfl, h⟩
theorem i_isNoN (h : Q (.bl true) H) : rIsNo .non .non H Q := ⟨rfl, h⟩
theorem i_isNoR {a : Addr} (h : Q (.bl false) H) : rIsNo (.ref a) .non H Q := ⟨rfl, h⟩
def rRepI : List V → Hp → VK → Prop := fun xs H Q => ∃ i, xs = [.int i] ∧ i.natAbs.log2 < 1920 ∧ Q (.str (toString i)) H
theorem call_repI : CallR X (.builtin "repr") rRepI := SkE.call_repr_int
end
theorem walk_S {l : List Nat} : Walk (Its (S l)) l.length (fun _ => True) (fun i H v H' => H' = H ∧ ∃ c, l[i]? = some c ∧ v = .str (S [c])) := by
  have w := walk_str (z := S l)
  rw [S_size] at w
  exact w.mono (fun _ _ => trivial) fun i H x H' _ _ y => by
    obtain ⟨e, c, hc, ev⟩ := y
    rw [S_get] at hc
    exact ⟨e, c, hc, ev⟩
theorem walk_eS {l : List Nat} : Walk (ItE (S l)) l.length (fun _ => True) (fun i H v H' => ∃ T c, v = .ref T ∧ H T = none ∧ l[i]? = some c ∧ H' = upd H T (.tup [.int (i : Nat), .str (S [c])])) := by
  have w := walk_enumS (x := S l)
  rw [S_size] at w
  exact w.mono (fun _ _ => trivial) fun i H x H' _ _ y => by
    obtain ⟨T, c, e, n, hc, eh⟩ := y
    rw [S_get] at hc
    exact ⟨T, c, e, n, hc, eh⟩
theorem go_while {c : TT} {tb : TS} {D : Ends} {σ : L2.St} {H : Hp} (Pv : Nat → L2.St → Hp → Prop) (m0 : Nat) (h0 : Pv m0 σ H)
    (hs : ∀ m σ H, Pv m σ H → c σ H fun b H1 => if b = true then ∃ N : L2.St → Hp → Prop, (∀ σ' H', N σ' H' → ∃ m', m' < m ∧ Pv m' σ' H') ∧ tb { D with nx := N, ct := N, bk := D.nx } σ H1 else D.nx σ H1) : tWhile c tb D σ H :=
  ⟨Pv, ⟨m0, h0⟩, hs⟩
theorem next_turn {m : Nat} {Pv : Nat → L2.St → Hp → Prop} {A : (L2.St → Hp → Prop) → Prop} (h : A fun σ' H' => ∃ m', m' < m ∧ Pv m' σ' H') : ∃ N : L2.St → Hp → Prop, (∀ σ' H', N σ' H' → ∃ m', m' < m ∧ Pv m' σ' H') ∧ A N := ⟨_, fun _ _ q => q, h⟩
def rRevS : V → Hp → VK → Prop := fun x H Q => ∃ l, x = .str (S l) ∧ l.length ≤ sizeLine ∧ Q (.str (S l.reverse)) H
theorem i_revS {te : TE} {σ : L2.St} {H : Hp} {Q : VK} (h : te σ H fun x H1 => rRevS x H1 Q) : tRevS te σ H Q := h
theorem i_revSS {l : List Nat} {H : Hp} {Q : VK} (h1 : l.length ≤ 1000000) (h : Q (.str (S l.reverse)) H) : rRevS (.str (S l)) H Q := ⟨l, rfl, Nat.le_trans h1 (by decide), h⟩
theorem i_cut {t u : TS} {D : Ends} {σ : L2.St} {H : Hp} (Mid : L2.St → Hp → Prop) (h1 : t { D with nx := Mid } σ H) (h2 : ∀ σ' H', Mid σ' H' → u D σ' H') : C8.tCut t u D σ H := ⟨Mid, h1, h2⟩
theorem i_minL {K : PySem.W.Frag} {p : Addr} {ns : List Int} {H : Hp} {Q : VK} (h1 : H p = some (.lst (ns.map V.int))) (h2 : 0 < ns.length) (h : ∀ m, m ∈ ns → (∀ y, y ∈ ns → m ≤ y) → Q (.int m) H) : rMin K [.ref p] H Q := ⟨p, ns, rfl, sqL_of h1, h2, h⟩
/-- one half of an if: what is appended, or nothing -/
theorem i_chainLL {g : Int → Int → Bool} {g' : Int → Int → Bool} {σ : L2.St} {H : Hp} {R : Bool → Hp → Prop} {i j k : Int}
    (h : R (g i j && g' j k) H) : rI0 (fun a b => .bl (g a b)) (.int i) (.int j) H fun z H3 => ∃ c, z = .bl c ∧ (if c = true then rI0 (fun a b => .bl (g' a b)) (.int j) (.int k) H3 fun x H4 => ∃ d, x = .bl d ∧ R d H4 else ∃ d, V.bl false = .bl d ∧ R d H3) := by
  refine ⟨i, j, rfl, rfl, g i j, rfl, ?_⟩
  cases e : g i j with
  | true => rw [e] at h; exact iteT ⟨j, k, rfl, rfl, g' j k, rfl, h⟩
  | false => rw [e] at h; exact iteF ⟨false, rfl, h⟩
theorem walk_rangeZ {n : Nat} : Walk (Itr 0 n) n (fun _ => True) (YFn fun i => .int (i : Int)) :=
  (walk_range (lo := 0) (n := n)).mono (fun _ h => h) fun i H x H' _ _ y => ⟨y.1, by rw [y.2]; show V.int (0 + (i : Int)) = V.int (i : Int); rw [Int.zero_add]⟩
theorem i_ixLI {K : PySem.W.Frag} {p : Addr} {ns : List Int} {i v : Int} {H : Hp} {Q : VK} (h1 : H p = some (.lst (ns.map V.int))) (h0 : 0 ≤ i) (h2 : ns[i.toNat]? = some v) (h : Q (.int v) H) : rIxL K (.ref p) (.int i) H Q := by
  refine i_ixLH h1 ?_ h
  have e := atI_nat (xs := ns.map V.int) (j := i.toNat) (v := .int v) (by rw [List.getElem?_map, h2]; rfl)
  rwa [show ((i.toNat : Nat) : Int) = i by omega] at e
theorem i_ixSI {l : List Nat} {i : Int} {c : Nat} {H : Hp} {Q : VK} (h0 : 0 ≤ i) (h2 : l[i.toNat]? = some c) (h1 : l.length ≤ 1000000) (h : Q (.str (S [c])) H) : rIxSS (.str (S l)) (.int i) H Q := by
  refine i_ixSS h1 ?_ h
  have e := atI_nat (xs := l) (j := i.toNat) (v := c) h2
  rwa [show ((i.toNat : Nat) : Int) = i by omega] at e
theorem i_appI {p : Addr} {ns : List Int} {v : Int} {H : Hp} {Q : VK} (h1 : H p = some (.lst (ns.map V.int))) (h2 : ns.length ≤ 1000000) (h : Q .non (upd H p (.lst ((ns ++ [v]).map V.int)))) : rAppend (.ref p) [.int v] H Q := by
  refine i_append h1 (by rw [List.length_map]; exact Nat.lt_of_le_of_lt h2 (by decide)) ?_
  rw [List.map_append] at h
  exact h
theorem i_gTupH {K : PySem.W.Frag} {n : Nat} {t : TGs} {a : Addr} {xs : List V} {σ : L2.St} {H : Hp} {R : L2.St → Hp → Prop} (h1 : H a = some (.tup xs)) (h2 : xs.length = n) (h : t xs σ H R) : gTup K n t (.ref a) σ H R := ⟨a, xs, rfl, sqT_of h1, h2, h⟩
theorem join_S (ws : List (List Nat)) : Txt.join (S []) (ws.map S) = S ws.flatten := by
  unfold Txt.join
  rw [StrLaws.glued_eq_join]
  induction ws with
  | nil => rfl
  | cons w ws ih =>
    cases ws with
    | nil => simp [Str.join]
    | cons v ws =>
      show S w ++ S [] ++ Str.join (S []) ((v :: ws).map S) = _
      rw [ih, S_app, S_app, List.append_nil]
      rfl
theorem sum_lens (ws : List (List Nat)) : ((ws.map S).map (·.length)).sum = ws.flatten.length := by
  induction ws with
  | nil => rfl
  | cons w ws ih =>
    rw [List.map_cons, List.map_cons, List.sum_cons, ih, List.flatten_cons, List.length_append, S_len]
def rJoinS (K : PySem.W.Frag) : V → List V → Hp → VK → Prop := fun x xs H Q => ∃ p, ∃ ws : List (List Nat), x = .str (S []) ∧ xs = [.ref p] ∧ (SqL K H p (ws.map fun l => .str (S l)) ∨ SqT K H p (ws.map fun l => .str (S l))) ∧ ws.flatten.length ≤ 1000000 ∧ Q (.str (S ws.flatten)) H
theorem mt_joinS {X : Cx} : MtR X "str.join" (rJoinS X.K) := fun pins s σ H x xs v us Q I rx rv h => by
  obtain ⟨p, ws, e1, e2, hp, hl, q⟩ := h
  have e3 : (ws.map fun l => V.str (S l)) = (ws.map S).map V.str := by rw [List.map_map]; rfl
  rw [e3] at hp
  refine mt_join pins s σ H x xs v us Q I rx rv ⟨S [], p, ws.map S, e1, e2, hp, ?_, by rw [join_S]; exact q⟩
  rw [sum_lens, show (S []).length = 0 from rfl, Nat.mul_zero, Nat.add_zero]
  omega
theorem i_joinS {K : PySem.W.Frag} {p : Addr} {ws : List (List Nat)} {H : Hp} {Q : VK} (h1 : H p = some (.lst (ws.map fun l => .str (S l)))) (h2 : ws.flatten.length ≤ 1000000) (h : Q (.str (S ws.flatten)) H) : rJoinS K (.str (S [])) [.ref p] H Q :=
  ⟨p, ws, rfl, rfl, .inl (sqL_of h1), h2, h⟩
theorem atI_neg1 {α : Type} {xs : List α} {v : α} {n : Nat} (h : xs.length = n + 1) (h2 : xs[n]? = some v) : atI xs (-1) = some v := by
  have e : xs = xs.dropLast ++ [v] := by
    have hne : xs ≠ [] := by intro z; rw [z] at h; cases h
    have := List.dropLast_concat_getLast hne
    have e2 : xs.getLast hne = v := by
      rw [List.getLast_eq_getElem]
      have := List.getElem?_eq_some_iff.mp h2
      obtain ⟨_, q⟩ := this
      simpa [h] using q
    rw [e2] at this
    exact this.symm
  rw [e]
  exact atI_last _ _
theorem i_ixLv {K : PySem.W.Frag} {p : Addr} {xs : List V} {i : Int} {v : V} {H : Hp} {Q : VK} (h1 : H p = some (.lst xs)) (h0 : 0 ≤ i) (h2 : xs[i.toNat]? = some v) (h : Q v H) : rIxL K (.ref p) (.int i) H Q := by
  refine i_ixLH h1 ?_ h
  have e := atI_nat (xs := xs) (j := i.toNat) (v := v) h2
  rwa [show ((i.toNat : Nat) : Int) = i by omega] at e
theorem i_rU {g : Int → V} {i : Int} {H : Hp} {Q : VK} (h : Q (g i) H) : rU g (.int i) H Q := ⟨i, rfl, h⟩
end Sw
namespace Sw
open PySem PySem.Spec PyProof.Rows L2
/-! ### t[::-1] of a tuple -/
theorem back_adjust (n : Nat) : Builtin.Slice.sliceAdjust none none (-1) (n : Int) = ((n : Int) - 1, -1) := by
  unfold Builtin.Slice.sliceAdjust
  simp
theorem back_places (n : Nat) : Builtin.Slice.slicePlaces ((n : Int) - 1) (-1) (-1) = n := by
  unfold Builtin.Slice.slicePlaces
  simp only [show ¬ ((-1 : Int) > 0) by decide, if_false]
  split <;> simp <;> omega
theorem fm_congr {α β : Type} {f g : α → Option β} : ∀ {l : List α}, (∀ a ∈ l, f a = g a) → l.filterMap f = l.filterMap g
  | [], _ => rfl
  | a :: l, h => by
    rw [List.filterMap_cons, List.filterMap_cons, h a List.mem_cons_self, fm_congr fun b hb => h b (List.mem_cons_of_mem _ hb)]
theorem back_pick {α : Type} (l : List α) : ((List.range l.length).filterMap fun (k : Nat) => l.toArray[(((l.length : Int) - 1) + (k : Int) * (-1)).toNat]?) = l.reverse := by
  have e : ∀ k ∈ List.range l.length, l.toArray[(((l.length : Int) - 1) + (k : Int) * (-1)).toNat]? = l.reverse[k]? := by
    intro k hk
    have hk := List.mem_range.mp hk
    rw [List.getElem?_reverse hk, List.getElem?_toArray]
    congr 1
    omega
  rw [fm_congr e]
  have h2 : ∀ m : List α, (List.range m.length).filterMap (fun k => m[k]?) = m := by
    intro m
    induction m with
    | nil => rfl
    | cons a m ih =>
      rw [List.length_cons, List.range_succ_eq_map, List.filterMap_cons, List.filterMap_map]
      show a :: List.filterMap ((fun k => (a :: m)[k]?) ∘ Nat.succ) (List.range m.length) = a :: m
      congr 1
  have := h2 l.reverse
  rwa [List.length_reverse] at this
theorem getItem_tuple_back {prog : Program} {w : World} {A : Around} {E : Value → Shared → Prop} {s : Shared} {t sl : Addr} {ys : List Value} {u : Tok} {Q : Value → Shared → Prop} (ht : IsTup s.heap t ys.toArray)
    (hs : ∃ os, s.heap.get? sl = some os ∧ os.cls = .type "slice" ∧ os.data = .fields #[.none, .none, .int (-1) u])
    (h : Q (.ref s.heap.objs.size) { s with heap := s.heap.push { cls := .type "tuple", data := .seq ys.reverse.toArray } }) (hz : ys.length ≤ sizeLine) : wpAny (model prog w) A (getItem (.ref t) (.ref sl)) Q E s := by
  have hno' : sizeOk (.seq ys.reverse.toArray) := by
    show ys.reverse.toArray.size ≤ sizeLine
    rw [List.size_toArray, List.length_reverse]
    exact hz
  obtain ⟨os, hos, hcs, hds⟩ := hs
  have hTs : s.TypeIs (.ref sl) "slice" := ⟨os, hos, hcs⟩
  unfold getItem
  try with_reducible refine wpAny_holding ?_
  first | refine wpAny_bind (wpAny_pure ?_) | skip
  refine wpAny_bind (wpAny_sequenceKey ht.typeIs (by decide) ?_)
  refine wpAny_bind (wpAny_callSpecial?_slot (name := Str.ofString "__getitem__") ht.typeIs PyProof.Rows.slot_tuple_getitem (wpAny_call_entry PyProof.Rows.slot_tuple_getitem ht.typeIs entry_tuple_getitem ?_ (args_tuple_getitem _ _)))
  show wpAny _ _ (Builtin.Tuple.tupleItemsOf (.ref t) >>= _) _ _ s
  refine wpAny_bind (tupleItemsOf_ ht ?_)
  refine wpAny_bind (wpAny_typeOf hTs ?_)
  rw [if_pos (by decide)]
  have ap : ∀ {R : Int × Int × Nat → Shared → Prop}, R (((ys.toArray.size : Nat) : Int) - 1, -1, ys.toArray.size) s → wpAny (model prog w) A.in1 (Builtin.Slice.sliceApplied (.ref sl) (pure ((ys.toArray.size : Nat) : Int))) R E s := by
    intro R hR
    unfold Builtin.Slice.sliceApplied Builtin.Slice.sliceFields
    refine wpAny_bind (wpAny_bind (wpAny_field hos hds (x := .none) rfl (wpAny_bind (wpAny_field hos hds (x := .none) rfl (wpAny_bind (wpAny_field hos hds (x := .int (-1) u) rfl (wpAny_pure ?_)))))))
    refine wpAny_bind (slicePart_int ?_)
    show wpAny _ _ (if ((-1 : Int) == 0) = true then _ else _) _ _ s
    rw [if_neg (by decide)]
    refine wpAny_bind (slicePart_none (wpAny_bind (slicePart_none (wpAny_bind (wpAny_pure ?_)))))
    show wpAny _ _ (match Builtin.Slice.sliceAdjust none none (-1) ((ys.toArray.size : Nat) : Int) with | (lo, hi) => pure (lo, (-1 : Int), Builtin.Slice.slicePlaces lo hi (-1))) _ _ s
    rw [back_adjust]
    show wpAny _ _ (pure (((ys.toArray.size : Nat) : Int) - 1, (-1 : Int), Builtin.Slice.slicePlaces (((ys.toArray.size : Nat) : Int) - 1) (-1) (-1))) _ _ s
    rw [back_places]
    exact wpAny_pure hR
  refine wpAny_bind (ap ?_)
  show wpAny _ _ (if (((ys.toArray.size : Nat) : Int) - 1 == 0 && (-1 : Int) == 1 && ys.toArray.size == ys.toArray.size) = true then _ else _) _ _ s
  rw [if_neg (by simp)]
  have e := back_pick ys
  rw [show ys.length = ys.toArray.size from List.size_toArray.symm] at e
  rw [e]
  first
    | exact wpAny_bind (m := Builtin.Tuple.tupleExact _) (wpAny_newObj_type (wpAny_pure ⟨_, rfl, wpAny_pure h⟩) hno')
    | exact wpAny_bind (m := Builtin.Tuple.tupleExact _) (wpAny_newObj_type (wpAny_bind (wpAny_pure (wpAny_pure ⟨_, rfl, wpAny_pure h⟩))) hno')
    | exact wpAny_bind (wpAny_bind (m := Builtin.Tuple.tupleExact _) (wpAny_newObj_type (wpAny_pure (wpAny_pure ⟨_, rfl, wpAny_pure h⟩)) hno'))
def tRevT (K : PySem.W.Frag) (te : TE) : TE := fun σ H Q => te σ H fun x H1 => ∃ a xs, x = .ref a ∧ SqT K H1 a xs ∧ ∀ p, H1 p = none → Q (.ref p) (upd H1 p (.tup xs.reverse))
theorem Vals.back {xs : List V} {us : List Value} (r : Vals xs us) : Vals xs.reverse us.reverse := by
  induction r with
  | nil => exact .nil
  | cons r1 _ ih =>
    rw [List.reverse_cons, List.reverse_cons]
    exact ih.append (.cons r1 .nil)
theorem pe_revT {X : Cx} {e : Expr} {te : TE} {k : Nat} {p1 p2 p3 pos : Pos} (he : PE X e te) :
    PE X (.Subscript e (.Slice none none (some (.UnaryOp .USub (.Constant (.int 1) k p1) p2)) p3) pos) (tRevT X.K te) := by
  constructor
  intro pins s σ H Q I h
  refine Subscript_ (thn (he.run pins s σ H _ I h) fun v s1 ⟨x, H1, I1, r1, a, xs, ex, hx, q⟩ => ?_)
  subst ex
  cases r1
  have st : PO X (some (.UnaryOp .USub (.Constant (.int 1) k p1) p2)) (tPart (tUn (rU fun i => .int (-i)) (tC (.int 1)))) := po_some (pe_un un_neg pe_int)
  refine wpAny_Slice (thn (po_none.run pins s1 σ H1 (fun o G => o = none ∧ G = H1) I1 ⟨rfl, rfl⟩) fun w1 s2 ⟨o1, G1, J1, z1, a1, b1⟩ => ?_)
  subst a1 b1
  refine thn (po_none.run pins s2 σ G1 (fun o G => o = none ∧ G = G1) J1 ⟨rfl, rfl⟩) fun w2 s3 ⟨o2, G2, J2, z2, a2, b2⟩ => ?_
  subst a2 b2
  refine thn (st.run pins s3 σ G2 (fun o G => o = some (-1) ∧ G = G2) J2 ⟨1, rfl, -1, rfl, rfl, rfl⟩) fun w3 s4 ⟨o3, G3, J3, z3, a3, b3⟩ => ?_
  subst a3 b3
  have J4 : Inv X pins σ G3 { s4 with heap := s4.heap.push { cls := .type "slice", data := .fields #[w1, w2, w3] } } := J3.kept (t' := s4.toks) fun b ob q => Heap.get?_push_of_some _ q
  obtain ⟨y1, rfl, f1⟩ := IsPart.raw z1
  obtain ⟨y2, rfl, f2⟩ := IsPart.raw z2
  obtain ⟨y3, rfl, f3⟩ := IsPart.raw z3
  cases y1 with
  | some y => cases f1
  | none =>
  cases y2 with
  | some y => cases f2
  | none =>
  cases y3 with
  | none => cases f3
  | some y =>
  obtain ⟨m, u⟩ := y
  have em : m = -1 := Option.some.inj f3
  subst em
  obtain ⟨its, r, ht, hz⟩ := J4.tuple hx
  refine tail_any (T := "tuple") (id := _) (ops := [.ref a, .ref s4.heap.objs.size]) ht.typeIs PyProof.Rows.slot_tuple_getitem.lookup ?_ (by with_unfolding_all rfl)
  have hz' : its.length ≤ sizeLine := by rw [← r.length]; exact hz
  refine getItem_tuple_back (u := u) ht ⟨_, Heap.get?_push_size _ rfl, rfl, rfl⟩ ?_ hz'
  refine ⟨.ref _, _, J4.laid (t' := s4.toks) (o := .tup xs.reverse) (fun b ob q => Heap.get?_push_of_some _ q) (Nat.le_refl _) ?_, rfl, q _ (J4.hok.fresh (Nat.le_refl _))⟩
  exact ⟨by rw [List.length_reverse]; exact hz, _, Vals.back r, IsTup.new _ _⟩
theorem i_revT {K : PySem.W.Frag} {te : TE} {σ : L2.St} {H : Hp} {Q : VK} (h : te σ H fun x H1 => ∃ a xs, x = .ref a ∧ SqT K H1 a xs ∧ ∀ p, H1 p = none → Q (.ref p) (upd H1 p (.tup xs.reverse))) : tRevT K te σ H Q := h
/-! ### text * int -/
def rMulS : R2 := fun x y H Q => ∃ (l : List Nat) (n : Nat), x = .str (S l) ∧ y = .int (n : Int) ∧ l.length ≤ 1000 ∧ n ≤ 1000 ∧ Q (.str (S (List.replicate n l).flatten)) H
theorem mul_S (l : List Nat) (n : Nat) : Txt.mul (S l) (n : Int) = S (List.replicate n l).flatten := by
  unfold Txt.mul
  by_cases h0 : n = 0
  · subst h0; simp [S, Str.empty]
  · rw [if_neg (by omega)]
    by_cases h1 : (((n : Int) == 1 || (S l).length == 0) = true)
    · rw [if_pos h1]
      rcases Bool.or_eq_true_iff.mp h1 with h1 | h1
      · have : n = 1 := by have := eq_of_beq h1; omega
        subst this; simp
      · have e : l = [] := by have := eq_of_beq h1; rw [S_len] at this; exact List.length_eq_zero_iff.mp this
        subst e
        simp
    · rw [if_neg h1]
      show (⟨(List.replicate n l.toArray).foldl (· ++ ·) #[]⟩ : Str) = ⟨(List.replicate n l).flatten.toArray⟩
      congr 1
      have : ∀ (m : Nat) (b : Array Nat), (List.replicate m l.toArray).foldl (· ++ ·) b = b ++ (List.replicate m l).flatten.toArray := by
        intro m
        induction m with
        | zero => intro b; simp
        | succ m ih =>
          intro b
          rw [List.replicate_succ, List.foldl_cons, ih, List.replicate_succ, List.flatten_cons]
          simp
      rw [this]
      simp
theorem op_mulS {X : Cx} : OpR X (binaryOp .Mult) rMulS := fun pins s σ H x y v u Q I rx ry h => by
  obtain ⟨l, n, rfl, rfl, h1, h2, q⟩ := h
  obtain ⟨t, rfl⟩ := rx
  obtain ⟨t', rfl⟩ := ry
  refine SB.mul ⟨?_, ?_, ?_⟩ fun t' tk => ⟨.str (S (List.replicate n l).flatten), H, I.tok _, ⟨_, by rw [mul_S]⟩, q⟩
  · rw [Bool.or_eq_false_iff]; exact ⟨decide_eq_false (by omega), decide_eq_false (by omega)⟩
  · intro hn _
    rw [S_len]
    have : (n : Int) * (l.length : Int) ≤ 2 ^ 63 - 1 := by
      have := Nat.mul_le_mul h2 h1
      have e : (n : Int) * (l.length : Int) = ((n * l.length : Nat) : Int) := by simp
      rw [e]; omega
    have := (Int.le_ediv_iff_mul_le (a := (l.length : Int)) (b := 2 ^ 63 - 1) (c := (n : Int)) (by omega)).mpr (by rw [Int.mul_comm]; exact this)
    omega
  · intro _ _
    rw [S_len, Int.toNat_natCast]
    have := Nat.mul_le_mul h1 h2
    unfold Builtin.Str.tooLong
    exact decide_eq_false (by rw [show sizeLine = 16777216 from rfl]; omega)
theorem i_mulS {l : List Nat} {n : Nat} {H : Hp} {Q : VK} (h1 : l.length ≤ 1000) (h2 : n ≤ 1000) (h : Q (.str (S (List.replicate n l).flatten)) H) : rMulS (.str (S l)) (.int (n : Int)) H Q := ⟨l, n, rfl, rfl, h1, h2, h⟩
/-! ### a def called by names alone -/
def tKw (sp : Sp) (gV : List V → List V → List V) (tk : TA) : TE := fun σ H Q => tk σ H fun zs H1 => sp (gV [] zs) H1 Q E0
section
variable (P : Program) (w : World) (K : PySem.W.Frag) (mg : Str → Option Value) (base : Heap)
def CalK (x : Str) (ps : List Str) (k : Nat) (sp : Sp) (ks : List Str) (g : List Value → List Value → List Value) (gV : List V → List V → List V) : Prop := ∃ (f : Addr) (fd : FuncData), FnOk P w K mg base CX0 k f fd ps sp ∧ mg x = some (.ref f) ∧ PySem.W.keepIn K (.ref f) = true ∧ KBinds K fd ps ks g gV
end
theorem Def.calK {P : Program} {w : World} {K : PySem.W.Frag} {mg : Str → Option Value} {base : Heap} {x : Str} {st : Stmt} {ps ks : List Str} {k : Nat} {sp : Sp} {g : List Value → List Value → List Value} {gV : List V → List V → List V} (d : Def K mg x st)
    (b : ∀ (kV doc pm : Value) (an : Option Addr) (cdv ct : Value) (us ws : List Value), (g us ws).length = ps.length → bindArgs (PySem.W.fnOf x x (defArgs st) (defBody st) (defScope st) .none kV doc pm an cdv ct) ⟨us, ks.zip ws⟩ = pure (ps.zip (g us ws)))
    (rel : ∀ {vs : List V} {us : List Value} {zs : List V} {ws : List Value}, Vals vs us → Vals zs ws → Vals (gV vs zs) (g us ws))
    (ok : ∀ (f : Addr) (fd : FuncData), Fun K x x st f fd → FnOk P w K mg base CX0 k f fd ps sp) : CalK P w K mg base x ps k sp ks g gV := by
  obtain ⟨f, fd, F, m⟩ := d
  have O := ok f fd F
  have kp := F.kp
  obtain ⟨oc, od, kV, doc, pm, an, cdv, ct, osl, rfl, lk, hcd⟩ := F.ex
  exact ⟨f, _, O, m, kp, fun s us ws _ hl => .of_eq (b kV doc pm an cdv ct us ws hl), rel⟩
section
variable {X : Cx} {x : Str} {ps ks : List Str} {k n : Nat} {sp : Sp} {g : List Value → List Value → List Value} {gV : List V → List V → List V} {kws : List Keyword} {tk : TA} {p pos : Pos}
theorem pe_calK (c : CalK X.prog X.w X.K X.mg X.base x ps k sp ks g gV) (hr : Room n X.A) (hkw : PK X kws tk) (hg : Gl X x := by rfl) (hk : k ≤ n := by decide)
    (hall : (backToKw pos (keywordEach kws X.env)).all (·.1.isSome) = true := by rfl) (hks : (backToKw pos (keywordEach kws X.env)).filterMap (·.1) = ks := by rfl) (hdb : (x == ("__debug__" : Str)) = false := by decide)
    (hpl : ((backTo pos (starEach [] X.env)).any (·.1) || (backToKw pos (keywordEach kws X.env)).any (·.1.isNone)) = false := by rfl) :
    PE X (.Call (.Name x p) [] kws pos) (tKw sp gV tk) := by
  obtain ⟨f, fd, F, m, kp, b⟩ := c
  refine ⟨fun pins s σ H Q I h => ?_⟩
  refine wpAny_Call_Name_kw (ld_glob I hg m ?_ hdb)
  refine PySem.W.callWith_KW0 (h₀ := X.base) I.ok.mod.kin kp hall (thn (hkw.run pos pins s σ H _ I h) fun ws s2 ⟨zs, H2, I2, rz, q2⟩ => ⟨I2.kIn, ?_⟩) hpl
  rw [hks]
  exact run_fnk F (hr.mono hk) b pass0 I2 .nil rz q2
theorem i_kw {σ : L2.St} {H : Hp} {Q : VK} (h : tk σ H fun zs H1 => sp (gV [] zs) H1 Q E0) : tKw sp gV tk σ H Q := h
end
end Sw
namespace Sw
open PySem PySem.Spec PyProof.Rows L2
local macro_rules | `(tactic| walk_at "hp") => `(tactic| first
  | (with_reducible assumption) | (with_reducible exact upd_same)
  | ((with_reducible refine' upd_old ?q1 ?q2); (case q1 => (with_reducible assumption)); (case q2 => walk_at "hp"))
  | ((with_reducible refine' Same.at ?q1 ?q2); (case q1 => (with_reducible assumption)); (case q2 => walk_at "hp"))
  | ((with_reducible refine' upd_skip ?q1 ?q2); (case q1 => walk_at "ne"); (case q2 => walk_at "hp"))
  | fail)
local macro_rules | `(tactic| walk_at "ne") => `(tactic| first
  | (with_reducible assumption) | (with_reducible exact Ne.symm (by assumption))
  | ((with_reducible refine' ne_of_none ?q1 ?q2); (case q2 => (with_reducible assumption)); (case q1 => walk_at "hp"))
  | fail)
local macro_rules | `(tactic| walk_at "ci") => `(tactic| first | assumption | (show (0 : Int) < _; first | decide | (with_reducible omega)) | exact ⟨by decide, by decide⟩ | exact .inl ⟨by decide, by decide⟩ | exact .inr ⟨by decide, by decide⟩)
local macro_rules | `(tactic| walk_at "ln") => `(tactic| first | (with_reducible assumption) | (with_reducible omega) | (simp only [List.length_append, List.length_take, List.length_drop, List.length_reverse, List.length_cons, List.length_nil]; with_reducible omega))
local macro_rules | `(tactic| walk_at "rd1") => `(tactic| first
  | (with_reducible refine i_seq ?_) | (with_reducible refine i_asg ?_) | (with_reducible refine i_ret ?_) | (with_reducible refine i_name ?_) | ((with_reducible refine' i_var ?q1 ?_); (case q1 => exact rfl)) | (with_reducible refine i_c ?_) | (with_reducible refine i_op ?_) | (with_reducible refine i_un ?_)
  | (with_reducible refine i_rI0 ?_) | (with_reducible refine i_cb ?_) | (with_reducible refine i_cons ?_) | (with_reducible refine i_nil ?_) | (with_reducible refine i_call ?_) | (with_reducible refine i_if ?_) | (with_reducible refine i_ifE ?_) | (with_reducible refine i_test ?_) | (with_reducible refine i_bl ?_)
  | (with_reducible refine i_and ?_) | (with_reducible refine i_or ?_) | (with_reducible refine i_not ?_) | (with_reducible refine i_lst ?_) | (with_reducible refine i_tup ?_) | (with_reducible refine i_next ?_) | (with_reducible refine i_drop ?_) | (with_reducible refine i_sub ?_)
  | (with_reducible refine i_bm ?_) | (with_reducible refine i_sl ?_) | (with_reducible refine i_part ?_) | (with_reducible refine i_nopart ?_) | (with_reducible refine i_exI ?_) | (with_reducible refine i_chain ?_) | ((with_reducible refine' i_aug ?q1 ?_); (case q1 => exact rfl)) | (with_reducible refine i_ip ?_)
  | (with_reducible refine i_par ?_) | (with_reducible refine i_pair ?_) | (with_reducible refine i_andV ?_) | (with_reducible refine i_orV ?_) | (with_reducible refine i_notV ?_) | (with_reducible refine i_m1 ?_) | (with_reducible refine i_str ?_)
  | (with_reducible refine iteF ?_) | (with_reducible refine iteT ?_) | (with_reducible refine iteNT ?_) | (with_reducible refine iteNF ?_) | (with_reducible refine i_tyS ?_) | (with_reducible refine i_tB ?_) | (with_reducible refine i_retN ?_) | (with_reducible refine i_par3 ?_) | (with_reducible refine i_trip ?_) | (with_reducible refine i_gCons ?_) | (with_reducible refine i_gNil ?_) | (with_reducible refine i_lstRg ?_) | (with_reducible refine i_rg1 ?_)
  | (with_reducible refine i_lc ?_) | (with_reducible refine i_for ?_) | (with_reducible refine i_iList ?_) | (with_reducible refine i_iTup ?_) | (with_reducible refine i_iStr ?_) | (with_reducible refine i_iRng1 ?_) | (with_reducible refine i_iEnS ?_)
  | ((with_reducible refine' i_ixTH ?q1 ?q2 ?_); (case q1 => walk_at "hp"); (case q2 => exact rfl))
  | ((with_reducible refine' i_ixLH ?q1 ?q2 ?_); (case q1 => walk_at "hp"); (case q2 => exact rfl))
  | ((with_reducible refine i_addS ?q1 ?_); (case q1 => walk_at "ln")) | ((with_reducible refine i_lenSS ?q1 ?_); (case q1 => walk_at "ln")) | ((with_reducible refine i_slFrom ?q1 ?q2 ?_); (case q1 => walk_at "ln"); (case q2 => walk_at "ln")) | ((with_reducible refine i_slTo ?q1 ?q2 ?_); (case q1 => walk_at "ln"); (case q2 => walk_at "ln"))
  | ((with_reducible refine' i_tyL ?q1 ?_); (case q1 => walk_at "hp"))
  | ((with_reducible refine' i_gTupH ?q1 ?q2 ?_); (case q1 => walk_at "hp"); (case q2 => exact rfl))
  | (with_reducible refine i_revT ?_) | (with_reducible refine i_kw ?_) | ((with_reducible refine' ⟨_, _, rfl, sqT_of ?q1, ?_⟩); (case q1 => walk_at "hp"))
  | (with_reducible refine i_revS ?_) | ((with_reducible refine i_revSS ?q1 ?_); (case q1 => walk_at "ln"))
  | (with_reducible refine i_startS ?_) | (with_reducible refine i_inSg ?_) | (with_reducible refine i_absN ?_) | (with_reducible refine i_min2 ?_) | (with_reducible refine i_max2 ?_) | (with_reducible refine i_min3 ?_) | (with_reducible refine i_intN ?_) | (with_reducible refine i_intNB ?_)
  | ((with_reducible refine' i_lenL ?q1 ?_); (case q1 => walk_at "hp")) | ((with_reducible refine' i_lenT ?q1 ?_); (case q1 => walk_at "hp"))
  | (with_reducible refine i_eqI ?_) | (with_reducible refine i_neI ?_) | (with_reducible refine i_eqS ?_) | (with_reducible refine i_neS ?_) | (with_reducible refine i_isNoI ?_) | (with_reducible refine i_isNoN ?_) | (with_reducible refine i_isNoR ?_)
  | ((with_reducible refine i_pow ?q1 ?q2 ?q3 ?_); (case q1 => decide); (case q2 => decide); (case q3 => (with_reducible omega)))
  | ((with_reducible refine i_rI ?q1 ?_); (case q1 => walk_at "ci"))
  | (with_reducible refine Or.inl ⟨_, rfl, ?_⟩) | (with_reducible refine Or.inr ⟨_, rfl, ?_⟩) | (with_reducible refine ⟨_, rfl, ?_⟩) | (with_reducible refine ⟨_, _, rfl, ?_⟩) | (with_reducible refine ⟨_, _, rfl, rfl, ?_⟩)
  | ((with_reducible refine' ⟨_, _, rfl, Or.inl (sqL_of ?q1), ?_⟩); (case q1 => walk_at "hp")) | ((with_reducible refine' ⟨_, _, rfl, Or.inr (sqT_of ?q1), ?_⟩); (case q1 => walk_at "hp")) | fail)
local macro_rules | `(tactic| walk_at "rd") => `(tactic| repeat' walk_at "rd1")

def topS (i : Nat) : Stmt := PySem.Challenge.pw_spoiltways_k73_price_of_a_gap.main.body.getD i (.Pass ⟨0, 0, 0, 0⟩)
abbrev s_is_text : Stmt := topS 5
abbrev n_is_text : List Str := ["value", "letter"]
theorem sc_is_text : FnScope n_is_text ["value"] (defScope s_is_text) := ⟨rfl, rfl, rfl, by decide +kernel, rfl, by decide +kernel, by decide +kernel⟩
abbrev s_is_lag : Stmt := topS 6
abbrev n_is_lag : List Str := ["value"]
theorem sc_is_lag : FnScope n_is_lag ["value"] (defScope s_is_lag) := ⟨rfl, rfl, rfl, by decide +kernel, rfl, by decide +kernel, by decide +kernel⟩
abbrev s_check_text : Stmt := topS 7
abbrev n_check_text : List Str := ["text"]
theorem sc_check_text : FnScope n_check_text ["text"] (defScope s_check_text) := ⟨rfl, rfl, rfl, by decide +kernel, rfl, by decide +kernel, by decide +kernel⟩
abbrev s_common_beginning : Stmt := topS 9
abbrev n_common_beginning : List Str := ["one", "other", "many"]
theorem sc_common_beginning : FnScope n_common_beginning ["one", "other"] (defScope s_common_beginning) := ⟨rfl, rfl, rfl, by decide +kernel, rfl, by decide +kernel, by decide +kernel⟩
abbrev s_without_common_ends : Stmt := topS 10
abbrev n_without_common_ends : List Str := ["one", "other", "many", "left", "right"]
theorem sc_without_common_ends : FnScope n_without_common_ends ["one", "other"] (defScope s_without_common_ends) := ⟨rfl, rfl, rfl, by decide +kernel, rfl, by decide +kernel, by decide +kernel⟩
abbrev s_next_band : Stmt := topS 11
abbrev n_next_band : List Str := ["band", "letter", "at", "other", "most", "found", "k", "place", "ways"]
theorem sc_next_band : FnScope n_next_band ["band", "letter", "at", "other"] (defScope s_next_band) := ⟨rfl, rfl, rfl, by decide +kernel, rfl, by decide +kernel, by decide +kernel⟩
abbrev s_distance_within : Stmt := topS 12
abbrev n_distance_within : List Str := ["one", "other", "most", "left", "right", "band", "k", "at", "letter", "found"]
theorem sc_distance_within : FnScope n_distance_within ["one", "other", "most"] (defScope s_distance_within) := ⟨rfl, rfl, rfl, by decide +kernel, rfl, by decide +kernel, by decide +kernel⟩
abbrev s_levenshtein : Stmt := topS 13
abbrev n_levenshtein : List Str := ["one", "other", "most", "found"]
theorem sc_levenshtein : FnScope n_levenshtein ["one", "other"] (defScope s_levenshtein) := ⟨rfl, rfl, rfl, by decide +kernel, rfl, by decide +kernel, by decide +kernel⟩
abbrev s_distance : Stmt := topS 14
abbrev n_distance : List Str := ["one", "other"]
theorem sc_distance : FnScope n_distance ["one", "other"] (defScope s_distance) := ⟨rfl, rfl, rfl, by decide +kernel, rfl, by decide +kernel, by decide +kernel⟩
abbrev s_gap_price : Stmt := topS 16
abbrev n_gap_price : List Str := ["before", "left", "right", "behind"]
theorem sc_gap_price : FnScope n_gap_price ["before", "left", "right", "behind"] (defScope s_gap_price) := ⟨rfl, rfl, rfl, by decide +kernel, rfl, by decide +kernel, by decide +kernel⟩
abbrev s__law_cell : Stmt := topS 18
abbrev n__law_cell : List Str := ["script", "k"]
theorem sc__law_cell : FnScope n__law_cell ["script", "k"] (defScope s__law_cell) := ⟨rfl, rfl, rfl, by decide +kernel, rfl, by decide +kernel, by decide +kernel⟩
abbrev s__law_box : Stmt := topS 19
abbrev n__law_box : List Str := ["great"]
theorem sc__law_box : FnScope n__law_box ["great"] (defScope s__law_box) := ⟨rfl, rfl, rfl, by decide +kernel, rfl, by decide +kernel, by decide +kernel⟩
abbrev s__law_take : Stmt := topS 20
abbrev n__law_take : List Str := ["box", "many", "digit", "mixed"]
theorem sc__law_take : FnScope n__law_take ["box", "many"] (defScope s__law_take) := ⟨rfl, rfl, rfl, by decide +kernel, rfl, by decide +kernel, by decide +kernel⟩
abbrev s__law_distance : Stmt := topS 21
abbrev n__law_distance : List Str := ["one", "other", "row", "at", "longer", "k"]
theorem sc__law_distance : FnScope n__law_distance ["one", "other"] (defScope s__law_distance) := ⟨rfl, rfl, rfl, by decide +kernel, rfl, by decide +kernel, by decide +kernel⟩
abbrev s__law_text : Stmt := topS 22
abbrev n__law_text : List Str := ["box", "letters", "most", "turn"]
theorem sc__law_text : FnScope n__law_text ["box", "letters", "most"] (defScope s__law_text) := ⟨rfl, rfl, rfl, by decide +kernel, rfl, by decide +kernel, by decide +kernel⟩
abbrev s__law_changed : Stmt := topS 23
abbrev n__law_changed : List Str := ["box", "text", "letters", "found", "turn", "at", "way", "letter"]
theorem sc__law_changed : FnScope n__law_changed ["box", "text", "letters"] (defScope s__law_changed) := ⟨rfl, rfl, rfl, by decide +kernel, rfl, by decide +kernel, by decide +kernel⟩
abbrev s__law_sides : Stmt := topS 24
abbrev n__law_sides : List Str := ["box", "alphabet", "way", "first", "both", "letters", "one", "other"]
theorem sc__law_sides : FnScope n__law_sides ["box"] (defScope s__law_sides) := ⟨rfl, rfl, rfl, by decide +kernel, rfl, by decide +kernel, by decide +kernel⟩
abbrev s__law_cut : Stmt := topS 25
abbrev n__law_cut : List Str := ["box", "one", "other", "ahead", "last", "x", "y", "left", "right", "at", "k"]
theorem sc__law_cut : FnScope n__law_cut ["box", "one", "other"] (defScope s__law_cut) := ⟨rfl, rfl, rfl, by decide +kernel, rfl, by decide +kernel, by decide +kernel⟩
abbrev s__law_holds : Stmt := topS 26
abbrev n__law_holds : List Str := ["parts", "due", "told"]
theorem sc__law_holds : FnScope n__law_holds ["parts", "due"] (defScope s__law_holds) := ⟨rfl, rfl, rfl, by decide +kernel, rfl, by decide +kernel, by decide +kernel⟩
abbrev s__law_long_holds : Stmt := topS 27
abbrev n__law_long_holds : List Str := ["box", "alphabet", "many", "word", "one", "other", "turn", "at", "sides"]
theorem sc__law_long_holds : FnScope n__law_long_holds ["box"] (defScope s__law_long_holds) := ⟨rfl, rfl, rfl, by decide +kernel, rfl, by decide +kernel, by decide +kernel⟩
abbrev s__law_wide_holds : Stmt := topS 28
abbrev n__law_wide_holds : List Str := ["box", "alphabet", "size", "letters", "turn", "one", "spot", "other", "at"]
theorem sc__law_wide_holds : FnScope n__law_wide_holds ["box"] (defScope s__law_wide_holds) := ⟨rfl, rfl, rfl, by decide +kernel, rfl, by decide +kernel, by decide +kernel⟩
abbrev s_law : Stmt := topS 29
abbrev n_law : List Str := ["script", "k", "box", "turn", "one", "other"]
theorem sc_law : FnScope n_law ["script"] (defScope s_law) := ⟨rfl, rfl, rfl, by decide +kernel, rfl, by decide +kernel, by decide +kernel⟩
/-- names that stay the built-in ones -/
structure Z (mg : Str → Option Value) : Prop where
  abs : mg "abs" = none
  all : mg "all" = none
  bool : mg "bool" = none
  enumerate : mg "enumerate" = none
  int : mg "int" = none
  isinstance : mg "isinstance" = none
  len : mg "len" = none
  list : mg "list" = none
  max_ : mg "max" = none
  min_ : mg "min" = none
  range : mg "range" = none
  repr : mg "repr" = none
  str : mg "str" = none
  sum : mg "sum" = none
  tuple : mg "tuple" = none
end Sw
namespace Sw
open PySem PySem.Spec PyProof.Rows L2
local macro_rules | `(tactic| walk_at "hp") => `(tactic| first
  | (with_reducible assumption) | (with_reducible exact upd_same)
  | ((with_reducible refine' upd_old ?q1 ?q2); (case q1 => (with_reducible assumption)); (case q2 => walk_at "hp"))
  | ((with_reducible refine' Same.at ?q1 ?q2); (case q1 => (with_reducible assumption)); (case q2 => walk_at "hp"))
  | ((with_reducible refine' upd_skip ?q1 ?q2); (case q1 => walk_at "ne"); (case q2 => walk_at "hp"))
  | fail)
local macro_rules | `(tactic| walk_at "ne") => `(tactic| first
  | (with_reducible assumption) | (with_reducible exact Ne.symm (by assumption))
  | ((with_reducible refine' ne_of_none ?q1 ?q2); (case q2 => (with_reducible assumption)); (case q1 => walk_at "hp"))
  | fail)
local macro_rules | `(tactic| walk_at "ci") => `(tactic| first | assumption | (show (0 : Int) < _; first | decide | (with_reducible omega)) | exact ⟨by decide, by decide⟩ | exact .inl ⟨by decide, by decide⟩ | exact .inr ⟨by decide, by decide⟩)
local macro_rules | `(tactic| walk_at "ln") => `(tactic| first | (with_reducible assumption) | (with_reducible omega) | (simp only [List.length_append, List.length_take, List.length_drop, List.length_reverse, List.length_cons, List.length_nil]; with_reducible omega))
local macro_rules | `(tactic| walk_at "rd1") => `(tactic| first
  | (with_reducible refine i_seq ?_) | (with_reducible refine i_asg ?_) | (with_reducible refine i_ret ?_) | (with_reducible refine i_name ?_) | ((with_reducible refine' i_var ?q1 ?_); (case q1 => exact rfl)) | (with_reducible refine i_c ?_) | (with_reducible refine i_op ?_) | (with_reducible refine i_un ?_)
  | (with_reducible refine i_rI0 ?_) | (with_reducible refine i_cb ?_) | (with_reducible refine i_cons ?_) | (with_reducible refine i_nil ?_) | (with_reducible refine i_call ?_) | (with_reducible refine i_if ?_) | (with_reducible refine i_ifE ?_) | (with_reducible refine i_test ?_) | (with_reducible refine i_bl ?_)
  | (with_reducible refine i_and ?_) | (with_reducible refine i_or ?_) | (with_reducible refine i_not ?_) | (with_reducible refine i_lst ?_) | (with_reducible refine i_tup ?_) | (with_reducible refine i_next ?_) | (with_reducible refine i_drop ?_) | (with_reducible refine i_sub ?_)
  | (with_reducible refine i_bm ?_) | (with_reducible refine i_sl ?_) | (with_reducible refine i_part ?_) | (with_reducible refine i_nopart ?_) | (with_reducible refine i_exI ?_) | (with_reducible refine i_chain ?_) | ((with_reducible refine' i_aug ?q1 ?_); (case q1 => exact rfl)) | (with_reducible refine i_ip ?_)
  | (with_reducible refine i_par ?_) | (with_reducible refine i_pair ?_) | (with_reducible refine i_andV ?_) | (with_reducible refine i_orV ?_) | (with_reducible refine i_notV ?_) | (with_reducible refine i_m1 ?_) | (with_reducible refine i_str ?_)
  | (with_reducible refine iteF ?_) | (with_reducible refine iteT ?_) | (with_reducible refine iteNT ?_) | (with_reducible refine iteNF ?_) | (with_reducible refine i_tyS ?_) | (with_reducible refine i_tB ?_) | (with_reducible refine i_retN ?_) | (with_reducible refine i_par3 ?_) | (with_reducible refine i_trip ?_) | (with_reducible refine i_gCons ?_) | (with_reducible refine i_gNil ?_) | (with_reducible refine i_lstRg ?_) | (with_reducible refine i_rg1 ?_)
  | (with_reducible refine i_lc ?_) | (with_reducible refine i_for ?_) | (with_reducible refine i_iList ?_) | (with_reducible refine i_iTup ?_) | (with_reducible refine i_iStr ?_) | (with_reducible refine i_iRng1 ?_) | (with_reducible refine i_iEnS ?_)
  | ((with_reducible refine' i_ixTH ?q1 ?q2 ?_); (case q1 => walk_at "hp"); (case q2 => exact rfl))
  | ((with_reducible refine' i_ixLH ?q1 ?q2 ?_); (case q1 => walk_at "hp"); (case q2 => exact rfl))
  | ((with_reducible refine i_addS ?q1 ?_); (case q1 => walk_at "ln")) | ((with_reducible refine i_lenSS ?q1 ?_); (case q1 => walk_at "ln")) | ((with_reducible refine i_slFrom ?q1 ?q2 ?_); (case q1 => walk_at "ln"); (case q2 => walk_at "ln")) | ((with_reducible refine i_slTo ?q1 ?q2 ?_); (case q1 => walk_at "ln"); (case q2 => walk_at "ln"))
  | ((with_reducible refine' i_tyL ?q1 ?_); (case q1 => walk_at "hp"))
  | ((with_reducible refine' i_gTupH ?q1 ?q2 ?_); (case q1 => walk_at "hp"); (case q2 => exact rfl))
  | (with_reducible refine i_revT ?_) | (with_reducible refine i_kw ?_) | ((with_reducible refine' ⟨_, _, rfl, sqT_of ?q1, ?_⟩); (case q1 => walk_at "hp"))
  | (with_reducible refine i_revS ?_) | ((with_reducible refine i_revSS ?q1 ?_); (case q1 => walk_at "ln"))
  | (with_reducible refine i_startS ?_) | (with_reducible refine i_inSg ?_) | (with_reducible refine i_absN ?_) | (with_reducible refine i_min2 ?_) | (with_reducible refine i_max2 ?_) | (with_reducible refine i_min3 ?_) | (with_reducible refine i_intN ?_) | (with_reducible refine i_intNB ?_)
  | ((with_reducible refine' i_lenL ?q1 ?_); (case q1 => walk_at "hp")) | ((with_reducible refine' i_lenT ?q1 ?_); (case q1 => walk_at "hp"))
  | (with_reducible refine i_eqI ?_) | (with_reducible refine i_neI ?_) | (with_reducible refine i_eqS ?_) | (with_reducible refine i_neS ?_) | (with_reducible refine i_isNoI ?_) | (with_reducible refine i_isNoN ?_) | (with_reducible refine i_isNoR ?_)
  | ((with_reducible refine i_pow ?q1 ?q2 ?q3 ?_); (case q1 => decide); (case q2 => decide); (case q3 => (with_reducible omega)))
  | ((with_reducible refine i_rI ?q1 ?_); (case q1 => walk_at "ci"))
  | (with_reducible refine Or.inl ⟨_, rfl, ?_⟩) | (with_reducible refine Or.inr ⟨_, rfl, ?_⟩) | (with_reducible refine ⟨_, rfl, ?_⟩) | (with_reducible refine ⟨_, _, rfl, ?_⟩) | (with_reducible refine ⟨_, _, rfl, rfl, ?_⟩)
  | ((with_reducible refine' ⟨_, _, rfl, Or.inl (sqL_of ?q1), ?_⟩); (case q1 => walk_at "hp")) | ((with_reducible refine' ⟨_, _, rfl, Or.inr (sqT_of ?q1), ?_⟩); (case q1 => walk_at "hp")) | fail)
local macro_rules | `(tactic| walk_at "rd") => `(tactic| repeat' walk_at "rd1")

section
variable {P : Program} {w : World} {K : PySem.W.Frag} {mg : Str → Option Value} {base : Heap} {f : Addr} {fd : FuncData}
theorem ok__law_take (F : Fun K "_law_take" "_law_take" s__law_take f fd) (z : Z mg) : FnOk P w K mg base CX0 1 f fd ["box", "many"] spTake := by
  refine F.ok sc__law_take (fun vs H Q E h => ?_) (fun cdv A outer s H vs Q E hr h => ?_)
  · obtain ⟨b, m, d, rfl, _⟩ := h; rfl
  · obtain ⟨b, m, d, rfl, B, hd, hm, hm2, k⟩ := h
    obtain ⟨n, g, c, e, hb, hn, hc0, hc1, he0, he1⟩ := B.ex
    have L : SqL K H b [.int n, .bl g, .int c, .int e] := .inl (.inl hb)
    refine ⟨_, (pss_cons (ps_if (PW.pt (pw_and (pt_val (pe_ix ix_list (pv 0) pe_int (fun _ _ => rfl))) (pw_and1 (pt_cmpR op_gt (pe_ix ix_list (pv 0) pe_int (fun _ _ => rfl)) pe_int (nomark _)))))
        (pss_cons (ps_set (i := 2) sc__law_take.nd rfl (.inl rfl) (pe_op op_mod (pe_callTy call_intN (by rfl) z.int (by decide +kernel) (pa_cons (pe_ix ix_list (pv 0) pe_int (fun _ _ => rfl)) pa_nil)) (pv 1)))
        (pss_cons (ps_asg (pe_op op_fdivW (pe_ix ix_list (pv 0) pe_int (fun _ _ => rfl)) (pv 1)) (pg_sub (pv 0) pe_int set_list))
        (pss_one (ps_ret (pv 2)))))
        pss_nil)
      (pss_cons (ps_asg (pe_op op_add (pe_ix ix_list (pv 0) pe_int (fun _ _ => rfl)) pe_int) (pg_sub (pv 0) pe_int set_list))
      (pss_cons (ps_set (i := 3) sc__law_take.nd rfl (.inl rfl) (pe_op op_mod (pe_callTy call_intN (by rfl) z.int (by decide +kernel) (pa_cons (pe_op op_pow (pe_op op_add (pe_op op_add (pe_ix ix_list (pv 0) pe_int (fun _ _ => rfl)) (pe_op op_mul pe_int (pe_ix ix_list (pv 0) pe_int (fun _ _ => rfl)))) pe_int) pe_int) pa_nil)) pe_int))
      (pss_one (ps_ret (pe_op op_mod (pe_op op_fdiv (pe_op op_mod (pe_callTy call_intN (by rfl) z.int (by decide +kernel) (pa_cons (pe_op op_pow (pe_op op_add (pe_op op_mul (pv 3) pe_int) (pe_op op_mul pe_int (pe_ix ix_list (pv 0) pe_int (fun _ _ => rfl)))) pe_int) pa_nil)) pe_int) pe_int) (pv 1))))))), ?_⟩
    walk_at "rd"
    refine iteC (fun hg => ?_) (fun hg => ?_)
    · walk_at "rd"
      refine iteB (fun h0 => ?_) (fun h0 => ?_)
      · walk_at "rd"
        refine i_rI (wide_div hm (by omega : m.natAbs < 2 ^ 64) (by decide) (by decide)) ?_
        walk_at "rd"
        refine i_setL hb rfl ?_
        walk_at "rd"
        refine k _ _ (Int.emod_nonneg _ (by omega)) (Int.emod_lt_of_pos _ hm) ⟨n / m, g, c, e, upd_same, Int.ediv_nonneg hn (by omega), hc0, hc1, he0, by omega⟩ SB.upd
      · walk_at "rd"
        refine i_setL hb rfl ?_
        walk_at "rd"
        exact k _ _ (Int.emod_nonneg _ (by omega)) (Int.emod_lt_of_pos _ hm) ⟨n, g, c, e + 1, upd_same, hn, hc0, hc1, by omega, by omega⟩ SB.upd
    · walk_at "rd"
      refine i_setL hb rfl ?_
      walk_at "rd"
      exact k _ _ (Int.emod_nonneg _ (by omega)) (Int.emod_lt_of_pos _ hm) ⟨n, g, c, e + 1, upd_same, hn, hc0, hc1, by omega, by omega⟩ SB.upd
theorem ok__law_box (F : Fun K "_law_box" "_law_box" s__law_box f fd) (z : Z mg) : FnOk P w K mg base CX0 1 f fd ["great"] spBox := by
  refine F.ok sc__law_box (fun vs H Q E h => ?_) (fun cdv A outer s H vs Q E hr h => ?_)
  · obtain ⟨n, rfl, _⟩ := h; rfl
  · obtain ⟨n, rfl, k⟩ := h
    refine ⟨_, (pss_one (ps_ret (pe_lst (pa_cons (pe_callB call_absN (by rfl) z.abs (by decide +kernel) (pa_cons (pv 0) pa_nil)) (pa_cons (pe_cmpR op_ge (pe_callB call_absN (by rfl) z.abs (by decide +kernel) (pa_cons (pv 0) pa_nil)) (pe_op op_pow pe_int pe_int) (nomark _)) (pa_cons (pe_op op_mod (pe_callTy call_intN (by rfl) z.int (by decide +kernel) (pa_cons (pe_callB call_absN (by rfl) z.abs (by decide +kernel) (pa_cons (pv 0) pa_nil)) pa_nil)) pe_int) (pa_cons pe_int pa_nil))))))), ?_⟩
    walk_at "rd"
    have q0 := Int.emod_nonneg (if n < 0 then -n else n) (show (2147483629 : Int) ≠ 0 by decide)
    have q1 := Int.emod_lt_of_pos (if n < 0 then -n else n) (show (0 : Int) < 2147483629 by decide)
    refine ⟨Nat.le_of_ble_eq_true rfl, fun p np => ?_⟩
    refine k p _ np (same_upd np) ⟨_, _, _, _, upd_same, by split <;> omega, q0, q1, by omega, by omega⟩
theorem ok__law_cell (F : Fun K "_law_cell" "_law_cell" s__law_cell f fd) (z : Z mg) : FnOk P w K mg base CX0 1 f fd ["script", "k"] (spCell K) := by
  refine F.ok sc__law_cell (fun vs H Q E h => ?_) (fun cdv A outer s H vs Q E hr h => ?_)
  · obtain ⟨a, ns, j, rfl, _⟩ := h; rfl
  · obtain ⟨a, ns, j, rfl, L, h0, h1, k⟩ := h
    refine ⟨_, (pss_one (ps_ret (pe_ifExp (pt_cmpR op_lt (pv 1) (pe_callB call_lenQ (by rfl) z.len PySem.boot_len (pa_cons (pv 0) pa_nil)) (nomark _)) (pe_ix ix_list (pv 0) (pv 1) (fun _ _ => rfl)) (pe_op op_add (pe_op op_mul pe_int (pv 1)) (pe_op op_mod (pe_callB (cr_sum rfl) (by rfl) z.sum (by decide +kernel) (pa_cons (pe_slice sl_list (pv 0) po_none (po_some pe_int)) pa_nil)) pe_int))))), ?_⟩
    walk_at "rd"
    refine i_lenK L ?_
    walk_at "rd"
    rw [List.length_map]
    refine iteB (fun hlt => ?_) (fun hlt => ?_)
    · walk_at "rd"
      refine i_ixL L (atI_ints h0 hlt) ?_
      exact k _ _ (Same.refl _)
    · walk_at "rd"
      refine ⟨a, _, rfl, L, fun p np => ?_⟩
      walk_at "rd"
      have e : cutV (ns.map V.int) none (some 1) = (ns.take 1).map V.int := by
        unfold cutV
        rw [show HT.sIx (ns.map V.int).length (ns.map V.int).length (some 1) = min 1 (ns.map V.int).length from HT.sIx_nat _ _ 1, HT.sIx_none, List.drop_zero, Nat.sub_zero, List.map_take]
        rcases Nat.le_total 1 (ns.map V.int).length with q | q
        · rw [Nat.min_eq_left q]
        · rw [Nat.min_eq_right q, List.take_length, List.take_of_length_le q]
      rw [e]
      refine ⟨p, ns.take 1, rfl, sqL_of upd_same, ?_⟩
      walk_at "rd"
      exact k _ _ (same_upd np)
end
end Sw
namespace Sw
open PySem PySem.Spec PyProof.Rows L2
local macro_rules | `(tactic| walk_at "hp") => `(tactic| first
  | (with_reducible assumption) | (with_reducible exact upd_same)
  | ((with_reducible refine' upd_old ?q1 ?q2); (case q1 => (with_reducible assumption)); (case q2 => walk_at "hp"))
  | ((with_reducible refine' Same.at ?q1 ?q2); (case q1 => (with_reducible assumption)); (case q2 => walk_at "hp"))
  | ((with_reducible refine' upd_skip ?q1 ?q2); (case q1 => walk_at "ne"); (case q2 => walk_at "hp"))
  | fail)
local macro_rules | `(tactic| walk_at "ne") => `(tactic| first
  | (with_reducible assumption) | (with_reducible exact Ne.symm (by assumption))
  | ((with_reducible refine' ne_of_none ?q1 ?q2); (case q2 => (with_reducible assumption)); (case q1 => walk_at "hp"))
  | fail)
local macro_rules | `(tactic| walk_at "ci") => `(tactic| first | assumption | (show (0 : Int) < _; first | decide | (with_reducible omega)) | exact ⟨by decide, by decide⟩ | exact .inl ⟨by decide, by decide⟩ | exact .inr ⟨by decide, by decide⟩)
local macro_rules | `(tactic| walk_at "ln") => `(tactic| first | (with_reducible assumption) | (with_reducible omega) | (simp only [List.length_append, List.length_take, List.length_drop, List.length_reverse, List.length_cons, List.length_nil]; with_reducible omega))
local macro_rules | `(tactic| walk_at "rd1") => `(tactic| first
  | (with_reducible refine i_seq ?_) | (with_reducible refine i_asg ?_) | (with_reducible refine i_ret ?_) | (with_reducible refine i_name ?_) | ((with_reducible refine' i_var ?q1 ?_); (case q1 => exact rfl)) | (with_reducible refine i_c ?_) | (with_reducible refine i_op ?_) | (with_reducible refine i_un ?_)
  | (with_reducible refine i_rI0 ?_) | (with_reducible refine i_cb ?_) | (with_reducible refine i_cons ?_) | (with_reducible refine i_nil ?_) | (with_reducible refine i_call ?_) | (with_reducible refine i_if ?_) | (with_reducible refine i_ifE ?_) | (with_reducible refine i_test ?_) | (with_reducible refine i_bl ?_)
  | (with_reducible refine i_and ?_) | (with_reducible refine i_or ?_) | (with_reducible refine i_not ?_) | (with_reducible refine i_lst ?_) | (with_reducible refine i_tup ?_) | (with_reducible refine i_next ?_) | (with_reducible refine i_drop ?_) | (with_reducible refine i_sub ?_)
  | (with_reducible refine i_bm ?_) | (with_reducible refine i_sl ?_) | (with_reducible refine i_part ?_) | (with_reducible refine i_nopart ?_) | (with_reducible refine i_exI ?_) | (with_reducible refine i_chain ?_) | ((with_reducible refine' i_aug ?q1 ?_); (case q1 => exact rfl)) | (with_reducible refine i_ip ?_)
  | (with_reducible refine i_par ?_) | (with_reducible refine i_pair ?_) | (with_reducible refine i_andV ?_) | (with_reducible refine i_orV ?_) | (with_reducible refine i_notV ?_) | (with_reducible refine i_m1 ?_) | (with_reducible refine i_str ?_)
  | (with_reducible refine iteF ?_) | (with_reducible refine iteT ?_) | (with_reducible refine iteNT ?_) | (with_reducible refine iteNF ?_) | (with_reducible refine i_tyS ?_) | (with_reducible refine i_tB ?_) | (with_reducible refine i_retN ?_) | (with_reducible refine i_par3 ?_) | (with_reducible refine i_trip ?_) | (with_reducible refine i_gCons ?_) | (with_reducible refine i_gNil ?_) | (with_reducible refine i_lstRg ?_) | (with_reducible refine i_rg1 ?_)
  | (with_reducible refine i_lc ?_) | (with_reducible refine i_for ?_) | (with_reducible refine i_iList ?_) | (with_reducible refine i_iTup ?_) | (with_reducible refine i_iStr ?_) | (with_reducible refine i_iRng1 ?_) | (with_reducible refine i_iEnS ?_)
  | ((with_reducible refine' i_ixTH ?q1 ?q2 ?_); (case q1 => walk_at "hp"); (case q2 => exact rfl))
  | ((with_reducible refine' i_ixLH ?q1 ?q2 ?_); (case q1 => walk_at "hp"); (case q2 => exact rfl))
  | ((with_reducible refine i_addS ?q1 ?_); (case q1 => walk_at "ln")) | ((with_reducible refine i_lenSS ?q1 ?_); (case q1 => walk_at "ln")) | ((with_reducible refine i_slFrom ?q1 ?q2 ?_); (case q1 => walk_at "ln"); (case q2 => walk_at "ln")) | ((with_reducible refine i_slTo ?q1 ?q2 ?_); (case q1 => walk_at "ln"); (case q2 => walk_at "ln"))
  | ((with_reducible refine' i_tyL ?q1 ?_); (case q1 => walk_at "hp"))
  | ((with_reducible refine' i_gTupH ?q1 ?q2 ?_); (case q1 => walk_at "hp"); (case q2 => exact rfl))
  | (with_reducible refine i_revT ?_) | (with_reducible refine i_kw ?_) | ((with_reducible refine' ⟨_, _, rfl, sqT_of ?q1, ?_⟩); (case q1 => walk_at "hp"))
  | (with_reducible refine i_revS ?_) | ((with_reducible refine i_revSS ?q1 ?_); (case q1 => walk_at "ln"))
  | (with_reducible refine i_startS ?_) | (with_reducible refine i_inSg ?_) | (with_reducible refine i_absN ?_) | (with_reducible refine i_min2 ?_) | (with_reducible refine i_max2 ?_) | (with_reducible refine i_min3 ?_) | (with_reducible refine i_intN ?_) | (with_reducible refine i_intNB ?_)
  | ((with_reducible refine' i_lenL ?q1 ?_); (case q1 => walk_at "hp")) | ((with_reducible refine' i_lenT ?q1 ?_); (case q1 => walk_at "hp"))
  | (with_reducible refine i_eqI ?_) | (with_reducible refine i_neI ?_) | (with_reducible refine i_eqS ?_) | (with_reducible refine i_neS ?_) | (with_reducible refine i_isNoI ?_) | (with_reducible refine i_isNoN ?_) | (with_reducible refine i_isNoR ?_)
  | ((with_reducible refine i_pow ?q1 ?q2 ?q3 ?_); (case q1 => decide); (case q2 => decide); (case q3 => (with_reducible omega)))
  | ((with_reducible refine i_rI ?q1 ?_); (case q1 => walk_at "ci"))
  | (with_reducible refine Or.inl ⟨_, rfl, ?_⟩) | (with_reducible refine Or.inr ⟨_, rfl, ?_⟩) | (with_reducible refine ⟨_, rfl, ?_⟩) | (with_reducible refine ⟨_, _, rfl, ?_⟩) | (with_reducible refine ⟨_, _, rfl, rfl, ?_⟩)
  | ((with_reducible refine' ⟨_, _, rfl, Or.inl (sqL_of ?q1), ?_⟩); (case q1 => walk_at "hp")) | ((with_reducible refine' ⟨_, _, rfl, Or.inr (sqT_of ?q1), ?_⟩); (case q1 => walk_at "hp")) | fail)
local macro_rules | `(tactic| walk_at "rd") => `(tactic| repeat' walk_at "rd1")

/-- is_text(value) -/
def spIsText (K : PySem.W.Frag) : Sp := fun vs H Q _ => ∃ x, vs = [x] ∧ ((∃ l, x = .str (S l) ∧ l.length ≤ 100000 ∧ ∀ H', Same H H' → Q (.bl (azB l)) H') ∨
  (∃ t, TyX K H x t ∧ PySem.W.kitOne K t (.type "str") = some false ∧ Q (.bl false) H))
/-- check_text(text), of a text -/
def spCheckText : Sp := fun vs H Q _ => ∃ l, vs = [.str (S l)] ∧ l.length ≤ 100000 ∧ azB l = true ∧ ∀ H', Same H H' → Q .non H'
/-- is_lag(value), of a lag -/
def spIsLag (K : PySem.W.Frag) : Sp := fun vs H Q _ => ∃ a l r, vs = [.ref a] ∧ H a = some (.tup [.str (S l), .str (S r)]) ∧ l.length ≤ 100000 ∧ r.length ≤ 100000 ∧ azB l = true ∧ azB r = true ∧ (l = [] ∨ r = []) ∧
  ∀ H', Same H H' → Q (.bl true) H'
section
variable {P : Program} {w : World} {K : PySem.W.Frag} {mg : Str → Option Value} {base : Heap} {f : Addr} {fd : FuncData}
theorem ok_is_text (F : Fun K "is_text" "is_text" s_is_text f fd) (z : Z mg) {t : Tok} (g_LETTERS : mg "LETTERS" = some (.str (("abcdefghijklmnopqrstuvwxyz" : Str)) t)) : FnOk P w K mg base CX0 1 f fd ["value"] (spIsText K) := by
  refine F.ok sc_is_text (fun vs H Q E h => ?_) (fun cdv A outer s H vs Q E hr h => ?_)
  · obtain ⟨x, rfl, _⟩ := h; rfl
  · obtain ⟨x, rfl, h⟩ := h
    refine ⟨_, (pss_one (ps_ret (pe_and (pe_callB call_isi (by rfl) z.isinstance (by decide +kernel) (pa_cons (pv 0) (pa_cons (pe_bltn (v := .ty "str") (by rfl) z.str (by decide +kernel) rfl) pa_nil))) (pe_one (pe_callB (cr_all rfl) (by rfl) z.all (by decide +kernel) (pa_cons (pe_lc (own := [("letter", 1)]) (g := gName 1) (tt := tYes) rfl sc_is_text.nd (pi_str (pv 0)) (blkOk_by (own := [("letter", 1)]) (N := n_is_text) (sc := defScope s_is_text) (by decide +kernel)) (fun _ _ _ _ _ => (pg_name (i := 1) sc_is_text.nd rfl (.inl rfl))) (fun _ _ _ _ _ => pts_nil) (fun _ _ _ _ _ => (pe_cmpR op_inSg (pv 1) (pe_glob (v := .str ("abcdefghijklmnopqrstuvwxyz" : Str)) rfl g_LETTERS ⟨_, rfl⟩) rfl))) pa_nil)))))), ?_⟩
    walk_at "rd"
    rcases h with ⟨l, rfl, hl, k⟩ | ⟨t, ty, kt, k⟩
    · refine i_isi true (.base (.str _)) (kit_ty (by decide +kernel)) ?_
      walk_at "rd"
      refine go_map walk_S (fun i => V.bl (decide (97 ≤ l.getD i 0 ∧ l.getD i 0 ≤ 122))) (by omega) (fun _ _ => trivial) (fun i x H2 H3 hi s2 y R hR => ?_) mono_name (fun p H2 np s2 e2 => ?_)
      · obtain ⟨rfl, c, hc, rfl⟩ := y
        have ec : l.getD i 0 = c := by rw [List.getD_eq_getElem?_getD, hc]; rfl
        walk_at "rd"
        refine ⟨rfl, ?_⟩
        walk_at "rd"
        rw [az_in, ← ec]
        exact hR _ (Same.refl _)
      · walk_at "rd"
        have e3 : H2 p = some (.lst (((List.range l.length).map fun i => decide (97 ≤ l.getD i 0 ∧ l.getD i 0 ≤ 122)).map V.bl)) := by
          rw [e2, List.map_map]
          rfl
        refine i_all e3 ?_
        rw [range_map_get l _ (fun c => decide (97 ≤ c ∧ c ≤ 122)) (fun i x hx => by rw [List.getD_eq_getElem?_getD, hx]; rfl), List.all_map]
        exact k _ s2
    · refine i_isi false ty kt ?_
      walk_at "rd"
      exact k
theorem ok_check_text (F : Fun K "check_text" "check_text" s_check_text f fd) (c_is_text : Cal P w K mg base "is_text" ["value"] 1 (spIsText K)) : FnOk P w K mg base CX0 2 f fd ["text"] spCheckText := by
  refine F.ok sc_check_text (fun vs H Q E h => ?_) (fun cdv A outer s H vs Q E hr h => ?_)
  · obtain ⟨l, rfl, _⟩ := h; rfl
  · obtain ⟨l, rfl, hl, ha, k⟩ := h
    refine ⟨_, (pss_one (ps_if (pt_not (pt_val (pe_cal c_is_text hr (pa_cons (pv 0) pa_nil))))
        (pss_one ps_never)
        pss_nil)), ?_⟩
    walk_at "rd"
    refine ⟨_, rfl, .inl ⟨l, rfl, hl, fun H' s' => ?_⟩⟩
    rw [ha]
    walk_at "rd"
    exact k _ s'
theorem ok_is_lag (F : Fun K "is_lag" "is_lag" s_is_lag f fd) (z : Z mg) (c_is_text : Cal P w K mg base "is_text" ["value"] 1 (spIsText K)) : FnOk P w K mg base CX0 2 f fd ["value"] (spIsLag K) := by
  refine F.ok sc_is_lag (fun vs H Q E h => ?_) (fun cdv A outer s H vs Q E hr h => ?_)
  · obtain ⟨a, l, r, rfl, _⟩ := h; rfl
  · obtain ⟨a, l, r, rfl, ha, hl, hr', azl, azr, he, k⟩ := h
    refine ⟨_, (pss_cons (ps_if (PW.pt (pw_or (pt_not (pt_val (pe_callB call_isi (by rfl) z.isinstance (by decide +kernel) (pa_cons (pv 0) (pa_cons (pe_bltn (v := .ty "tuple") (by rfl) z.tuple (by decide +kernel) rfl) pa_nil))))) (pw_or1 (pt_cmpR op_ne (pe_callB call_lenQ (by rfl) z.len PySem.boot_len (pa_cons (pv 0) pa_nil)) pe_int (nomark _)))))
        (pss_one (ps_ret pe_bl))
        pss_nil)
      (pss_one (ps_ret (pe_and (pe_cal c_is_text hr (pa_cons (pe_ix ix_tup (pv 0) pe_int (fun _ _ => rfl)) pa_nil)) (pe_and (pe_cal c_is_text hr (pa_cons (pe_ix ix_tup (pv 0) pe_int (fun _ _ => rfl)) pa_nil)) (pe_one (pe_cmpR op_in_seq (pe_strS (l := []) (by decide +kernel)) (pv 0) (by rfl)))))))), ?_⟩
    walk_at "rd"
    refine i_isi true (.base (.tup ha)) (kit_ty (by decide +kernel)) ?_
    walk_at "rd"
    refine iteNB (fun q => absurd rfl q) (fun _ => ?_)
    walk_at "rd"
    refine ⟨_, rfl, .inl ⟨l, rfl, hl, fun H1 s1 => ?_⟩⟩
    rw [azl]
    walk_at "rd"
    refine ⟨_, rfl, .inl ⟨r, rfl, hr', fun H2 s2 => ?_⟩⟩
    rw [azr]
    walk_at "rd"
    refine i_inSeq (xs := [.str (S l), .str (S r)]) (.inr (sqT_of (Same.at s2 (Same.at s1 ha)))) rfl rfl ?_
    have e : inV (.str (S [])) [.str (S l), .str (S r)] = true := by
      unfold inV
      rcases he with rfl | rfl <;> simp [eqV]
    rw [e]
    exact k _ (s1.trans s2)
end
end Sw
namespace Sw
open PySem PySem.Spec PyProof.Rows L2
local macro_rules | `(tactic| walk_at "hp") => `(tactic| first
  | (with_reducible assumption) | (with_reducible exact upd_same)
  | ((with_reducible refine' upd_old ?q1 ?q2); (case q1 => (with_reducible assumption)); (case q2 => walk_at "hp"))
  | ((with_reducible refine' Same.at ?q1 ?q2); (case q1 => (with_reducible assumption)); (case q2 => walk_at "hp"))
  | ((with_reducible refine' upd_skip ?q1 ?q2); (case q1 => walk_at "ne"); (case q2 => walk_at "hp"))
  | fail)
local macro_rules | `(tactic| walk_at "ne") => `(tactic| first
  | (with_reducible assumption) | (with_reducible exact Ne.symm (by assumption))
  | ((with_reducible refine' ne_of_none ?q1 ?q2); (case q2 => (with_reducible assumption)); (case q1 => walk_at "hp"))
  | fail)
local macro_rules | `(tactic| walk_at "ci") => `(tactic| first | assumption | (show (0 : Int) < _; first | decide | (with_reducible omega)) | exact ⟨by decide, by decide⟩ | exact .inl ⟨by decide, by decide⟩ | exact .inr ⟨by decide, by decide⟩)
local macro_rules | `(tactic| walk_at "ln") => `(tactic| first | (with_reducible assumption) | (with_reducible omega) | (simp only [List.length_append, List.length_take, List.length_drop, List.length_reverse, List.length_cons, List.length_nil]; with_reducible omega))
local macro_rules | `(tactic| walk_at "rd1") => `(tactic| first
  | (with_reducible refine i_seq ?_) | (with_reducible refine i_asg ?_) | (with_reducible refine i_ret ?_) | (with_reducible refine i_name ?_) | ((with_reducible refine' i_var ?q1 ?_); (case q1 => exact rfl)) | (with_reducible refine i_c ?_) | (with_reducible refine i_op ?_) | (with_reducible refine i_un ?_)
  | (with_reducible refine i_rI0 ?_) | (with_reducible refine i_cb ?_) | (with_reducible refine i_cons ?_) | (with_reducible refine i_nil ?_) | (with_reducible refine i_call ?_) | (with_reducible refine i_if ?_) | (with_reducible refine i_ifE ?_) | (with_reducible refine i_test ?_) | (with_reducible refine i_bl ?_)
  | (with_reducible refine i_and ?_) | (with_reducible refine i_or ?_) | (with_reducible refine i_not ?_) | (with_reducible refine i_lst ?_) | (with_reducible refine i_tup ?_) | (with_reducible refine i_next ?_) | (with_reducible refine i_drop ?_) | (with_reducible refine i_sub ?_)
  | (with_reducible refine i_bm ?_) | (with_reducible refine i_sl ?_) | (with_reducible refine i_part ?_) | (with_reducible refine i_nopart ?_) | (with_reducible refine i_exI ?_) | (with_reducible refine i_chain ?_) | ((with_reducible refine' i_aug ?q1 ?_); (case q1 => exact rfl)) | (with_reducible refine i_ip ?_)
  | (with_reducible refine i_par ?_) | (with_reducible refine i_pair ?_) | (with_reducible refine i_andV ?_) | (with_reducible refine i_orV ?_) | (with_reducible refine i_notV ?_) | (with_reducible refine i_m1 ?_) | (with_reducible refine i_str ?_)
  | (with_reducible refine iteF ?_) | (with_reducible refine iteT ?_) | (with_reducible refine iteNT ?_) | (with_reducible refine iteNF ?_) | (with_reducible refine i_tyS ?_) | (with_reducible refine i_tB ?_) | (with_reducible refine i_retN ?_) | (with_reducible refine i_par3 ?_) | (with_reducible refine i_trip ?_) | (with_reducible refine i_gCons ?_) | (with_reducible refine i_gNil ?_) | (with_reducible refine i_lstRg ?_) | (with_reducible refine i_rg1 ?_)
  | (with_reducible refine i_lc ?_) | (with_reducible refine i_for ?_) | (with_reducible refine i_iList ?_) | (with_reducible refine i_iTup ?_) | (with_reducible refine i_iStr ?_) | (with_reducible refine i_iRng1 ?_) | (with_reducible refine i_iEnS ?_)
  | ((with_reducible refine' i_ixTH ?q1 ?q2 ?_); (case q1 => walk_at "hp"); (case q2 => exact rfl))
  | ((with_reducible refine' i_ixLH ?q1 ?q2 ?_); (case q1 => walk_at "hp"); (case q2 => exact rfl))
  | ((with_reducible refine i_addS ?q1 ?_); (case q1 => walk_at "ln")) | ((with_reducible refine i_lenSS ?q1 ?_); (case q1 => walk_at "ln")) | ((with_reducible refine i_slFrom ?q1 ?q2 ?_); (case q1 => walk_at "ln"); (case q2 => walk_at "ln")) | ((with_reducible refine i_slTo ?q1 ?q2 ?_); (case q1 => walk_at "ln"); (case q2 => walk_at "ln"))
  | ((with_reducible refine' i_tyL ?q1 ?_); (case q1 => walk_at "hp"))
  | ((with_reducible refine' i_gTupH ?q1 ?q2 ?_); (case q1 => walk_at "hp"); (case q2 => exact rfl))
  | (with_reducible refine i_revT ?_) | (with_reducible refine i_kw ?_) | ((with_reducible refine' ⟨_, _, rfl, sqT_of ?q1, ?_⟩); (case q1 => walk_at "hp"))
  | (with_reducible refine i_revS ?_) | ((with_reducible refine i_revSS ?q1 ?_); (case q1 => walk_at "ln"))
  | (with_reducible refine i_startS ?_) | (with_reducible refine i_inSg ?_) | (with_reducible refine i_absN ?_) | (with_reducible refine i_min2 ?_) | (with_reducible refine i_max2 ?_) | (with_reducible refine i_min3 ?_) | (with_reducible refine i_intN ?_) | (with_reducible refine i_intNB ?_)
  | ((with_reducible refine' i_lenL ?q1 ?_); (case q1 => walk_at "hp")) | ((with_reducible refine' i_lenT ?q1 ?_); (case q1 => walk_at "hp"))
  | (with_reducible refine i_eqI ?_) | (with_reducible refine i_neI ?_) | (with_reducible refine i_eqS ?_) | (with_reducible refine i_neS ?_) | (with_reducible refine i_isNoI ?_) | (with_reducible refine i_isNoN ?_) | (with_reducible refine i_isNoR ?_)
  | ((with_reducible refine i_pow ?q1 ?q2 ?q3 ?_); (case q1 => decide); (case q2 => decide); (case q3 => (with_reducible omega)))
  | ((with_reducible refine i_rI ?q1 ?_); (case q1 => walk_at "ci"))
  | (with_reducible refine Or.inl ⟨_, rfl, ?_⟩) | (with_reducible refine Or.inr ⟨_, rfl, ?_⟩) | (with_reducible refine ⟨_, rfl, ?_⟩) | (with_reducible refine ⟨_, _, rfl, ?_⟩) | (with_reducible refine ⟨_, _, rfl, rfl, ?_⟩)
  | ((with_reducible refine' ⟨_, _, rfl, Or.inl (sqL_of ?q1), ?_⟩); (case q1 => walk_at "hp")) | ((with_reducible refine' ⟨_, _, rfl, Or.inr (sqT_of ?q1), ?_⟩); (case q1 => walk_at "hp")) | fail)
local macro_rules | `(tactic| walk_at "rd") => `(tactic| repeat' walk_at "rd1")


/-- common_beginning(one, other) -/
def spCommon : Sp := fun vs H Q _ => ∃ l r, vs = [.str (S l), .str (S r)] ∧ l.length ≤ 100000 ∧ r.length ≤ 100000 ∧
  ∀ m : Nat, m ≤ l.length → m ≤ r.length → l.take m = r.take m → Q (.int (m : Int)) H
/-- without_common_ends(one, other) -/
def spEnds : Sp := fun vs H Q _ => ∃ l r, vs = [.str (S l), .str (S r)] ∧ l.length ≤ 100000 ∧ r.length ≤ 100000 ∧
  ∀ (a x y b : List Nat) (p : Addr) (H' : Hp), l = a ++ x ++ b → r = a ++ y ++ b → Same H H' → H p = none → H' p = some (.tup [.str (S x), .str (S y)]) → Q (.ref p) H'
section
variable {P : Program} {w : World} {K : PySem.W.Frag} {mg : Str → Option Value} {base : Heap} {f : Addr} {fd : FuncData}
theorem ok_common (F : Fun K "common_beginning" "common_beginning" s_common_beginning f fd) (z : Z mg) : FnOk P w K mg base CX0 1 f fd ["one", "other"] spCommon := by
  refine F.ok sc_common_beginning (fun vs H Q E h => ?_) (fun cdv A outer s H vs Q E hr h => ?_)
  · obtain ⟨l, r, rfl, _⟩ := h; rfl
  · obtain ⟨l, r, rfl, hl, hr', k⟩ := h
    refine ⟨_, (pss_cons (ps_set (i := 2) sc_common_beginning.nd rfl (.inl rfl) pe_int)
      (pss_cons (ps_while PassesOwn.never (PW.pt (pw_and (pt_cmpR op_lt (pv 2) (pe_callB (call_min2N rfl) (by rfl) z.min_ (by decide +kernel) (pa_cons (pe_callB call_lenS (by rfl) z.len PySem.boot_len (pa_cons (pv 0) pa_nil)) (pa_cons (pe_callB call_lenS (by rfl) z.len PySem.boot_len (pa_cons (pv 1) pa_nil)) pa_nil))) (nomark _)) (pw_and1 (pt_cmpR op_eq (pe_ix ix_S (pv 0) (pv 2) (fun _ _ => rfl)) (pe_ix ix_S (pv 1) (pv 2) (fun _ _ => rfl)) (nomark _)))))
        (pss_one (ps_aug (i := 2) sc_common_beginning.nd rfl (.inl rfl) pe_int ip_add)))
      (pss_one (ps_ret (pv 2))))), ?_⟩
    walk_at "rd"
    refine go_while (fun n σ H2 => ∃ m : Nat, n = l.length - m ∧ σ = [some (.str (S l)), some (.str (S r)), some (.int (m : Int))] ∧ H2 = H ∧ m ≤ l.length ∧ m ≤ r.length ∧ l.take m = r.take m)
      (l.length - 0) ⟨0, rfl, rfl, rfl, Nat.zero_le _, Nat.zero_le _, rfl⟩ (fun n σ H2 h2 => ?_)
    obtain ⟨m, rfl, rfl, rfl, h1, h2, h3⟩ := h2
    walk_at "rd"
    refine iteB (fun hlt => ?_) (fun hge => ?_)
    · walk_at "rd"
      have e1 : m < l.length := by omega
      have e2 : m < r.length := by omega
      refine i_ixSS (by omega) (atI_nat (List.getElem?_eq_getElem e1)) ?_
      walk_at "rd"
      refine i_ixSS (by omega) (atI_nat (List.getElem?_eq_getElem e2)) ?_
      walk_at "rd"
      refine iteB (fun he => ?_) (fun hne => ?_)
      · refine ⟨_, fun _ _ q => q, ?_⟩
        walk_at "rd"
        refine ⟨l.length - (m + 1), by omega, m + 1, rfl, rfl, rfl, e1, e2, ?_⟩
        rw [List.take_add_one, List.take_add_one, h3, List.getElem?_eq_getElem e1, List.getElem?_eq_getElem e2, List.singleton_inj.mp he]
      · walk_at "rd"
        exact k m h1 h2 h3
    · walk_at "rd"
      exact k m h1 h2 h3
theorem ok_ends (F : Fun K "without_common_ends" "without_common_ends" s_without_common_ends f fd) (z : Z mg) (c_common_beginning : Cal P w K mg base "common_beginning" ["one", "other"] 1 spCommon) : FnOk P w K mg base CX0 2 f fd ["one", "other"] spEnds := by
  refine F.ok sc_without_common_ends (fun vs H Q E h => ?_) (fun cdv A outer s H vs Q E hr h => ?_)
  · obtain ⟨l, r, rfl, _⟩ := h; rfl
  · obtain ⟨l, r, rfl, hl, hr', k⟩ := h
    refine ⟨_, (pss_cons (ps_set (i := 2) sc_without_common_ends.nd rfl (.inl rfl) (pe_cal c_common_beginning hr (pa_cons (pv 0) (pa_cons (pv 1) pa_nil))))
      (pss_cons (ps_par (i := 3) (j := 4) rfl sc_without_common_ends.nd rfl rfl (by decide) rfl rfl (pa_cons (pe_slice sl_S (pv 0) (po_some (pv 2)) po_none) (pa_cons (pe_slice sl_S (pv 1) (po_some (pv 2)) po_none) pa_nil)) (by rfl))
      (pss_cons (ps_set (i := 2) sc_without_common_ends.nd rfl (.inl rfl) (pe_cal c_common_beginning hr (pa_cons (pe_revS (pv 3)) (pa_cons (pe_revS (pv 4)) pa_nil))))
      (pss_one (ps_ret (pe_tup (pa_cons (pe_slice sl_S (pv 3) po_none (po_some (pe_op op_sub (pe_callB call_lenS (by rfl) z.len PySem.boot_len (pa_cons (pv 3) pa_nil)) (pv 2)))) (pa_cons (pe_slice sl_S (pv 4) po_none (po_some (pe_op op_sub (pe_callB call_lenS (by rfl) z.len PySem.boot_len (pa_cons (pv 4) pa_nil)) (pv 2)))) pa_nil)))))))), ?_⟩
    walk_at "rd"
    refine ⟨l, r, rfl, hl, hr', fun m m1 m2 em => ?_⟩
    walk_at "rd"
    refine ⟨(l.drop m).reverse, (r.drop m).reverse, rfl, by walk_at "ln", by walk_at "ln", fun n n1 n2 en => ?_⟩
    walk_at "rd"
    rw [List.length_reverse] at n1 n2
    simp only [Int.toNat_natCast] at *
    refine i_slTo (by omega) (by walk_at "ln") ?_
    walk_at "rd"
    refine ⟨Nat.le_of_ble_eq_true rfl, fun p np => ?_⟩
    rw [List.take_reverse, List.take_reverse, List.reverse_inj] at en
    have t1 : (((l.drop m).length : Int) - (n : Int)).toNat = (l.drop m).length - n := by omega
    have t2 : (((r.drop m).length : Int) - (n : Int)).toNat = (r.drop m).length - n := by omega
    rw [t1, t2]
    refine k (l.take m) ((l.drop m).take ((l.drop m).length - n)) ((r.drop m).take ((r.drop m).length - n)) ((l.drop m).drop ((l.drop m).length - n)) p _ ?_ ?_ (same_upd np) np upd_same
    · rw [List.append_assoc, List.take_append_drop, List.take_append_drop]
    · rw [en, em, List.append_assoc, List.take_append_drop, List.take_append_drop]
end
end Sw
namespace Sw
open PySem PySem.Spec PyProof.Rows L2
local macro_rules | `(tactic| walk_at "hp") => `(tactic| first
  | (with_reducible assumption) | (with_reducible exact upd_same)
  | ((with_reducible refine' upd_old ?q1 ?q2); (case q1 => (with_reducible assumption)); (case q2 => walk_at "hp"))
  | ((with_reducible refine' Same.at ?q1 ?q2); (case q1 => (with_reducible assumption)); (case q2 => walk_at "hp"))
  | ((with_reducible refine' upd_skip ?q1 ?q2); (case q1 => walk_at "ne"); (case q2 => walk_at "hp"))
  | fail)
local macro_rules | `(tactic| walk_at "ne") => `(tactic| first
  | (with_reducible assumption) | (with_reducible exact Ne.symm (by assumption))
  | ((with_reducible refine' ne_of_none ?q1 ?q2); (case q2 => (with_reducible assumption)); (case q1 => walk_at "hp"))
  | fail)
local macro_rules | `(tactic| walk_at "ci") => `(tactic| first | assumption | (show (0 : Int) < _; first | decide | (with_reducible omega)) | exact ⟨by decide, by decide⟩ | exact .inl ⟨by decide, by decide⟩ | exact .inr ⟨by decide, by decide⟩)
local macro_rules | `(tactic| walk_at "ln") => `(tactic| first | (with_reducible assumption) | (with_reducible omega) | (simp only [List.length_append, List.length_take, List.length_drop, List.length_reverse, List.length_cons, List.length_nil]; with_reducible omega))
local macro_rules | `(tactic| walk_at "rd1") => `(tactic| first
  | (with_reducible refine i_seq ?_) | (with_reducible refine i_asg ?_) | (with_reducible refine i_ret ?_) | (with_reducible refine i_name ?_) | ((with_reducible refine' i_var ?q1 ?_); (case q1 => exact rfl)) | (with_reducible refine i_c ?_) | (with_reducible refine i_op ?_) | (with_reducible refine i_un ?_)
  | (with_reducible refine i_rI0 ?_) | (with_reducible refine i_cb ?_) | (with_reducible refine i_cons ?_) | (with_reducible refine i_nil ?_) | (with_reducible refine i_call ?_) | (with_reducible refine i_if ?_) | (with_reducible refine i_ifE ?_) | (with_reducible refine i_test ?_) | (with_reducible refine i_bl ?_)
  | (with_reducible refine i_and ?_) | (with_reducible refine i_or ?_) | (with_reducible refine i_not ?_) | (with_reducible refine i_lst ?_) | (with_reducible refine i_tup ?_) | (with_reducible refine i_next ?_) | (with_reducible refine i_drop ?_) | (with_reducible refine i_sub ?_)
  | (with_reducible refine i_bm ?_) | (with_reducible refine i_sl ?_) | (with_reducible refine i_part ?_) | (with_reducible refine i_nopart ?_) | (with_reducible refine i_exI ?_) | (with_reducible refine i_chain ?_) | ((with_reducible refine' i_aug ?q1 ?_); (case q1 => exact rfl)) | (with_reducible refine i_ip ?_)
  | (with_reducible refine i_par ?_) | (with_reducible refine i_pair ?_) | (with_reducible refine i_andV ?_) | (with_reducible refine i_orV ?_) | (with_reducible refine i_notV ?_) | (with_reducible refine i_m1 ?_) | (with_reducible refine i_str ?_)
  | (with_reducible refine iteF ?_) | (with_reducible refine iteT ?_) | (with_reducible refine iteNT ?_) | (with_reducible refine iteNF ?_) | (with_reducible refine i_tyS ?_) | (with_reducible refine i_tB ?_) | (with_reducible refine i_retN ?_) | (with_reducible refine i_par3 ?_) | (with_reducible refine i_trip ?_) | (with_reducible refine i_gCons ?_) | (with_reducible refine i_gNil ?_) | (with_reducible refine i_lstRg ?_) | (with_reducible refine i_rg1 ?_)
  | (with_reducible refine i_lc ?_) | (with_reducible refine i_for ?_) | (with_reducible refine i_iList ?_) | (with_reducible refine i_iTup ?_) | (with_reducible refine i_iStr ?_) | (with_reducible refine i_iRng1 ?_) | (with_reducible refine i_iEnS ?_)
  | ((with_reducible refine' i_ixTH ?q1 ?q2 ?_); (case q1 => walk_at "hp"); (case q2 => exact rfl))
  | ((with_reducible refine' i_ixLH ?q1 ?q2 ?_); (case q1 => walk_at "hp"); (case q2 => exact rfl))
  | ((with_reducible refine i_addS ?q1 ?_); (case q1 => walk_at "ln")) | ((with_reducible refine i_lenSS ?q1 ?_); (case q1 => walk_at "ln")) | ((with_reducible refine i_slFrom ?q1 ?q2 ?_); (case q1 => walk_at "ln"); (case q2 => walk_at "ln")) | ((with_reducible refine i_slTo ?q1 ?q2 ?_); (case q1 => walk_at "ln"); (case q2 => walk_at "ln"))
  | ((with_reducible refine' i_tyL ?q1 ?_); (case q1 => walk_at "hp"))
  | ((with_reducible refine' i_gTupH ?q1 ?q2 ?_); (case q1 => walk_at "hp"); (case q2 => exact rfl))
  | (with_reducible refine i_revT ?_) | (with_reducible refine i_kw ?_) | ((with_reducible refine' ⟨_, _, rfl, sqT_of ?q1, ?_⟩); (case q1 => walk_at "hp"))
  | (with_reducible refine i_revS ?_) | ((with_reducible refine i_revSS ?q1 ?_); (case q1 => walk_at "ln"))
  | (with_reducible refine i_startS ?_) | (with_reducible refine i_inSg ?_) | (with_reducible refine i_absN ?_) | (with_reducible refine i_min2 ?_) | (with_reducible refine i_max2 ?_) | (with_reducible refine i_min3 ?_) | (with_reducible refine i_intN ?_) | (with_reducible refine i_intNB ?_)
  | ((with_reducible refine' i_lenL ?q1 ?_); (case q1 => walk_at "hp")) | ((with_reducible refine' i_lenT ?q1 ?_); (case q1 => walk_at "hp"))
  | (with_reducible refine i_eqI ?_) | (with_reducible refine i_neI ?_) | (with_reducible refine i_eqS ?_) | (with_reducible refine i_neS ?_) | (with_reducible refine i_isNoI ?_) | (with_reducible refine i_isNoN ?_) | (with_reducible refine i_isNoR ?_)
  | ((with_reducible refine i_pow ?q1 ?q2 ?q3 ?_); (case q1 => decide); (case q2 => decide); (case q3 => (with_reducible omega)))
  | ((with_reducible refine i_rI ?q1 ?_); (case q1 => walk_at "ci"))
  | (with_reducible refine Or.inl ⟨_, rfl, ?_⟩) | (with_reducible refine Or.inr ⟨_, rfl, ?_⟩) | (with_reducible refine ⟨_, rfl, ?_⟩) | (with_reducible refine ⟨_, _, rfl, ?_⟩) | (with_reducible refine ⟨_, _, rfl, rfl, ?_⟩)
  | ((with_reducible refine' ⟨_, _, rfl, Or.inl (sqL_of ?q1), ?_⟩); (case q1 => walk_at "hp")) | ((with_reducible refine' ⟨_, _, rfl, Or.inr (sqT_of ?q1), ?_⟩); (case q1 => walk_at "hp")) | fail)
local macro_rules | `(tactic| walk_at "rd") => `(tactic| repeat' walk_at "rd1")


open Lev (band cell ways way_least)
/-- next_band(band, letter, at, other) -/
def spNext (K : PySem.W.Frag) : Sp := fun vs H Q _ => ∃ (b : Addr) (M at' x : Nat) (l r : List Nat), vs = [.ref b, .str (S [x]), .int (at' : Int), .str (S r)] ∧ H b = some (.lst ((band M l r at').map V.int)) ∧ l[at']? = some x ∧ l.length ≤ 10000 ∧ r.length ≤ 10000 ∧ M ≤ 10000 ∧
  ∀ (p : Addr) (H' : Hp), Same H H' → H p = none → H' p = some (.lst ((band M l r (at' + 1)).map V.int)) → Q (.ref p) H'
section
variable {P : Program} {w : World} {K : PySem.W.Frag} {mg : Str → Option Value} {base : Heap} {f : Addr} {fd : FuncData}
theorem ok_next (F : Fun K "next_band" "next_band" s_next_band f fd) (z : Z mg) : FnOk P w K mg base CX0 1 f fd ["band", "letter", "at", "other"] (spNext K) := by
  refine F.ok sc_next_band (fun vs H Q E h => ?_) (fun cdv A outer s H vs Q E hr h => ?_)
  · obtain ⟨b, M, a, x, l, r, rfl, _⟩ := h; rfl
  · obtain ⟨b, M, a, x, l, r, rfl, hb, hx, hl, hr', hM, k⟩ := h
    refine ⟨_, (pss_cons (ps_par (i := 4) (j := 5) rfl sc_next_band.nd rfl rfl (by decide) rfl rfl (pa_cons (pe_op op_fdiv (pe_callB call_lenQ (by rfl) z.len PySem.boot_len (pa_cons (pv 0) pa_nil)) pe_int) (pa_cons (pe_lst pa_nil) pa_nil)) (by rfl))
      (pss_cons (ps_for PassesOwn.never rfl (pi_range1 (by rfl) z.range (pa_cons (pe_callB call_lenQ (by rfl) z.len PySem.boot_len (pa_cons (pv 0) pa_nil)) pa_nil)) (pg_name (i := 6) sc_next_band.nd rfl (.inl rfl))
        (pss_cons (ps_set (i := 7) sc_next_band.nd rfl (.inl rfl) (pe_op op_sub (pe_op op_add (pe_op op_add (pv 2) pe_int) (pv 6)) (pv 4)))
        (pss_cons (ps_set (i := 8) sc_next_band.nd rfl (.inl rfl) (pe_lst (pa_cons (pe_op op_add (pv 4) pe_int) pa_nil)))
        (C8.pss_cut (ps_if (pt_chain op_lt op_le pe_int (pv 7) (pe_callB call_lenS (by rfl) z.len PySem.boot_len (pa_cons (pv 3) pa_nil)))
          (pss_one (ps_expr (pe_bm PySem.F.plainAttrs_list PySem.F.slot_list_append PySem.F.type_list_append mt_append (pv 8) (pa_cons (pe_op op_add (pe_ix ix_list (pv 0) (pv 6) (fun _ _ => rfl)) (pe_callTy call_intN (by rfl) z.int (by decide +kernel) (pa_cons (pe_cmpR op_ne (pv 1) (pe_ix ix_S (pv 3) (pe_op op_sub (pv 7) pe_int) (fun _ _ => rfl)) (nomark _)) pa_nil))) pa_nil))))
          pss_nil)
        (C8.pss_cut (ps_if (PW.pt (pw_and (pt_chain op_lt op_le pe_int (pv 7) (pe_callB call_lenS (by rfl) z.len PySem.boot_len (pa_cons (pv 3) pa_nil))) (pw_and1 (pt_cmpR op_gt (pv 6) pe_int (nomark _)))))
          (pss_one (ps_expr (pe_bm PySem.F.plainAttrs_list PySem.F.slot_list_append PySem.F.type_list_append mt_append (pv 8) (pa_cons (pe_op op_add (pe_ix ix_list (pv 5) (pe_op op_sub (pv 6) pe_int) (fun _ _ => rfl)) pe_int) pa_nil))))
          pss_nil)
        (C8.pss_cut (ps_if (PW.pt (pw_and (pt_chain op_le op_le pe_int (pv 7) (pe_callB call_lenS (by rfl) z.len PySem.boot_len (pa_cons (pv 3) pa_nil))) (pw_and1 (pt_cmpR op_lt (pv 6) (pe_op op_mul pe_int (pv 4)) (nomark _)))))
          (pss_one (ps_expr (pe_bm PySem.F.plainAttrs_list PySem.F.slot_list_append PySem.F.type_list_append mt_append (pv 8) (pa_cons (pe_op op_add (pe_ix ix_list (pv 0) (pe_op op_add (pv 6) pe_int) (fun _ _ => rfl)) pe_int) pa_nil))))
          pss_nil)
        (pss_one (ps_expr (pe_bm PySem.F.plainAttrs_list PySem.F.slot_list_append PySem.F.type_list_append mt_append (pv 5) (pa_cons (pe_callB (cr_min rfl) (by rfl) z.min_ (by decide +kernel) (pa_cons (pv 8) pa_nil)) pa_nil))))))))))
      (pss_one (ps_ret (pv 5))))), ?_⟩
    walk_at "rd"
    refine ⟨Nat.zero_le _, fun fo nf => ?_⟩
    walk_at "rd"
    have eM : ((((band M l r a).map V.int).length : Int)) / 2 = (M : Int) := by
      rw [List.length_map, Lev.band_len]
      omega
    rw [eM]
    have hb1 : (upd H fo (.lst [])) b = some (.lst ((band M l r a).map V.int)) := upd_old nf hb
    walk_at "rd"
    rw [List.length_map, Lev.band_len]
    refine i_rng (by omega) (by omega) ?_
    rw [show ((2 * M + 1 : Nat) : Int).toNat = 2 * M + 1 from rfl]
    refine go_for walk_rangeZ (fun i σ H2 => ∃ u6 u7 u8 : Option V, σ = [some (.ref b), some (.str (S [x])), some (.int a), some (.str (S r)), some (.int M), some (.ref fo), u6, u7, u8] ∧ Same H H2 ∧
      H2 fo = some (.lst (((band M l r (a + 1)).take i).map V.int))) ⟨none, none, none, rfl, same_upd nf, upd_same⟩ (fun _ _ _ _ _ => trivial) (fun i v σ H2 H3 hi p y => ?_) (fun σ H2 p => ?_)
    · obtain ⟨u6, u7, u8, rfl, s2, ef⟩ := p
      obtain ⟨rfl, rfl⟩ := y
      have hb2 := Same.at s2 hb
      walk_at "rd"
      refine ⟨Nat.le_of_ble_eq_true rfl, fun wa nw => ?_⟩
      walk_at "rd"
      generalize ep : (a : Int) + 1 + (i : Int) - (M : Int) = place
      generalize eW1 : ([(M : Int) + 1] ++ (if 0 < place ∧ place ≤ r.length then [cell M l r a i + (if some x = r[(place - 1).toNat]? then 0 else 1)] else []) : List Int) = W1
      have lW1 : W1.length ≤ 2 := by rw [← eW1]; split <;> simp
      refine i_cut (fun σ' H' => σ' = [some (.ref b), some (.str (S [x])), some (.int a), some (.str (S r)), some (.int M), some (.ref fo), some (.int i), some (.int place), some (.ref wa)] ∧ H' = upd H3 wa (.lst (W1.map V.int))) ?_ ?_
      · walk_at "rd"
        refine iteB (fun q1 => ?_) (fun q1 => ?_)
        · walk_at "rd"
          refine iteB (fun q2 => ?_) (fun q2 => ?_)
          · walk_at "rd"
            refine i_ixLI (by walk_at "hp") (by omega) (Lev.band_get hi) ?_
            walk_at "rd"
            have hp1 : (place - 1).toNat < r.length := by omega
            refine i_ixSI (by omega) (List.getElem?_eq_getElem hp1) (by omega) ?_
            walk_at "rd"
            refine i_appI (ns := [(M : Int) + 1]) upd_same (Nat.le_of_ble_eq_true rfl) ?_
            refine ⟨rfl, ?_⟩
            have eδ : (if (!decide ([x] = [r[(place - 1).toNat]])) = true then (1 : Int) else 0) = if some x = some r[(place - 1).toNat] then 0 else 1 := by
              by_cases c : x = r[(place - 1).toNat]
              · rw [← c]; simp
              · simp [c]
            rw [upd_upd, ← eW1, if_pos (show 0 < place ∧ place ≤ r.length from ⟨q1, q2⟩), List.getElem?_eq_getElem hp1, ← eδ]
            rfl
          · walk_at "rd"
            refine ⟨rfl, ?_⟩
            rw [← eW1, if_neg (by omega)]; rfl
        · walk_at "rd"
          refine ⟨rfl, ?_⟩
          rw [← eW1, if_neg (by omega)]; rfl
      rintro _ _ ⟨rfl, rfl⟩
      generalize eW2 : (W1 ++ (if (0 < place ∧ place ≤ r.length) ∧ 0 < i then [cell M l r (a + 1) (i - 1) + 1] else []) : List Int) = W2
      have lW2 : W2.length ≤ 3 := by rw [← eW2, List.length_append]; split <;> simp <;> omega
      refine i_cut (fun σ' H' => σ' = [some (.ref b), some (.str (S [x])), some (.int a), some (.str (S r)), some (.int M), some (.ref fo), some (.int i), some (.int place), some (.ref wa)] ∧ H' = upd H3 wa (.lst (W2.map V.int))) ?_ ?_
      · walk_at "rd"
        refine iteB (fun q1 => ?_) (fun q1 => ?_)
        · walk_at "rd"
          refine iteB (fun q2 => ?_) (fun q2 => ?_)
          · walk_at "rd"
            refine iteB (fun q3 => ?_) (fun q3 => ?_)
            · walk_at "rd"
              have ek : ((i : Int) - 1).toNat = i - 1 := by omega
              have eg : ((band M l r (a + 1)).take i)[((i : Int) - 1).toNat]? = some (cell M l r (a + 1) (i - 1)) := by
                rw [ek, List.getElem?_take, if_pos (by omega), Lev.band_get (by omega)]
              refine i_ixLI (by walk_at "hp") (by omega) eg ?_
              walk_at "rd"
              refine i_appI (ns := W1) upd_same (by omega) ?_
              refine ⟨rfl, ?_⟩
              rw [upd_upd, ← eW2, if_pos (show (_ ∧ _) ∧ _ from ⟨⟨q1, q2⟩, by omega⟩)]
            · walk_at "rd"
              refine ⟨rfl, ?_⟩
              rw [← eW2, if_neg (by omega), List.append_nil]
          · walk_at "rd"
            refine ⟨rfl, ?_⟩
            rw [← eW2, if_neg (by omega), List.append_nil]
        · walk_at "rd"
          refine ⟨rfl, ?_⟩
          rw [← eW2, if_neg (by omega), List.append_nil]
      rintro _ _ ⟨rfl, rfl⟩
      generalize eW3 : (W2 ++ (if (0 ≤ place ∧ place ≤ r.length) ∧ i < 2 * M then [cell M l r a (i + 1) + 1] else []) : List Int) = W3
      have lW3 : W3.length ≤ 4 := by rw [← eW3, List.length_append]; split <;> simp <;> omega
      refine i_cut (fun σ' H' => σ' = [some (.ref b), some (.str (S [x])), some (.int a), some (.str (S r)), some (.int M), some (.ref fo), some (.int i), some (.int place), some (.ref wa)] ∧ H' = upd H3 wa (.lst (W3.map V.int))) ?_ ?_
      · walk_at "rd"
        refine iteB (fun q1 => ?_) (fun q1 => ?_)
        · walk_at "rd"
          refine iteB (fun q2 => ?_) (fun q2 => ?_)
          · walk_at "rd"
            refine iteB (fun q3 => ?_) (fun q3 => ?_)
            · walk_at "rd"
              refine i_ixLI (by walk_at "hp") (by omega) (Lev.band_get (k := i + 1) (by omega)) ?_
              walk_at "rd"
              refine i_appI (ns := W2) upd_same (by omega) ?_
              refine ⟨rfl, ?_⟩
              rw [upd_upd, ← eW3, if_pos (show (_ ∧ _) ∧ _ from ⟨⟨q1, q2⟩, by omega⟩)]
            · walk_at "rd"
              refine ⟨rfl, ?_⟩
              rw [← eW3, if_neg (by omega), List.append_nil]
          · walk_at "rd"
            refine ⟨rfl, ?_⟩
            rw [← eW3, if_neg (by omega), List.append_nil]
        · walk_at "rd"
          refine ⟨rfl, ?_⟩
          rw [← eW3, if_neg (by omega), List.append_nil]
      rintro _ _ ⟨rfl, rfl⟩
      have eW : W3 = ways M l r a x i := by
        rw [← eW3, ← eW2, ← eW1, ← ep]
        rfl
      walk_at "rd"
      refine i_minL (ns := W3) upd_same (by rw [eW]; unfold ways; simp) (fun m hm hl' => ?_)
      rw [eW] at hm hl'
      have em := way_least hx hi hm hl'
      subst em
      walk_at "rd"
      refine i_appI (by walk_at "hp") (by rw [List.length_take, Lev.band_len]; omega) ?_
      refine ⟨_, _, _, rfl, Same.set_new (Same.upd_new s2 nw) nf, ?_⟩
      rw [upd_same, List.take_add_one, Lev.band_get hi]
      rfl
    · obtain ⟨u6, u7, u8, rfl, s2, ef⟩ := p
      walk_at "rd"
      rw [List.take_of_length_le (by rw [Lev.band_len]; exact Nat.le_refl _)] at ef
      exact k fo H2 s2 nf ef
end
end Sw
namespace Sw
open PySem PySem.Spec PyProof.Rows L2
local macro_rules | `(tactic| walk_at "hp") => `(tactic| first
  | (with_reducible assumption) | (with_reducible exact upd_same)
  | ((with_reducible refine' upd_old ?q1 ?q2); (case q1 => (with_reducible assumption)); (case q2 => walk_at "hp"))
  | ((with_reducible refine' Same.at ?q1 ?q2); (case q1 => (with_reducible assumption)); (case q2 => walk_at "hp"))
  | ((with_reducible refine' upd_skip ?q1 ?q2); (case q1 => walk_at "ne"); (case q2 => walk_at "hp"))
  | fail)
local macro_rules | `(tactic| walk_at "ne") => `(tactic| first
  | (with_reducible assumption) | (with_reducible exact Ne.symm (by assumption))
  | ((with_reducible refine' ne_of_none ?q1 ?q2); (case q2 => (with_reducible assumption)); (case q1 => walk_at "hp"))
  | fail)
local macro_rules | `(tactic| walk_at "ci") => `(tactic| first | assumption | (show (0 : Int) < _; first | decide | (with_reducible omega)) | exact ⟨by decide, by decide⟩ | exact .inl ⟨by decide, by decide⟩ | exact .inr ⟨by decide, by decide⟩)
local macro_rules | `(tactic| walk_at "ln") => `(tactic| first | (with_reducible assumption) | (with_reducible omega) | (simp only [List.length_append, List.length_take, List.length_drop, List.length_reverse, List.length_cons, List.length_nil]; with_reducible omega))
local macro_rules | `(tactic| walk_at "rd1") => `(tactic| first
  | (with_reducible refine i_seq ?_) | (with_reducible refine i_asg ?_) | (with_reducible refine i_ret ?_) | (with_reducible refine i_name ?_) | ((with_reducible refine' i_var ?q1 ?_); (case q1 => exact rfl)) | (with_reducible refine i_c ?_) | (with_reducible refine i_op ?_) | (with_reducible refine i_un ?_)
  | (with_reducible refine i_rI0 ?_) | (with_reducible refine i_cb ?_) | (with_reducible refine i_cons ?_) | (with_reducible refine i_nil ?_) | (with_reducible refine i_call ?_) | (with_reducible refine i_if ?_) | (with_reducible refine i_ifE ?_) | (with_reducible refine i_test ?_) | (with_reducible refine i_bl ?_)
  | (with_reducible refine i_and ?_) | (with_reducible refine i_or ?_) | (with_reducible refine i_not ?_) | (with_reducible refine i_lst ?_) | (with_reducible refine i_tup ?_) | (with_reducible refine i_next ?_) | (with_reducible refine i_drop ?_) | (with_reducible refine i_sub ?_)
  | (with_reducible refine i_bm ?_) | (with_reducible refine i_sl ?_) | (with_reducible refine i_part ?_) | (with_reducible refine i_nopart ?_) | (with_reducible refine i_exI ?_) | (with_reducible refine i_chain ?_) | ((with_reducible refine' i_aug ?q1 ?_); (case q1 => exact rfl)) | (with_reducible refine i_ip ?_)
  | (with_reducible refine i_par ?_) | (with_reducible refine i_pair ?_) | (with_reducible refine i_andV ?_) | (with_reducible refine i_orV ?_) | (with_reducible refine i_notV ?_) | (with_reducible refine i_m1 ?_) | (with_reducible refine i_str ?_)
  | (with_reducible refine iteF ?_) | (with_reducible refine iteT ?_) | (with_reducible refine iteNT ?_) | (with_reducible refine iteNF ?_) | (with_reducible refine i_tyS ?_) | (with_reducible refine i_tB ?_) | (with_reducible refine i_retN ?_) | (with_reducible refine i_par3 ?_) | (with_reducible refine i_trip ?_) | (with_reducible refine i_gCons ?_) | (with_reducible refine i_gNil ?_) | (with_reducible refine i_lstRg ?_) | (with_reducible refine i_rg1 ?_)
  | (with_reducible refine i_lc ?_) | (with_reducible refine i_for ?_) | (with_reducible refine i_iList ?_) | (with_reducible refine i_iTup ?_) | (with_reducible refine i_iStr ?_) | (with_reducible refine i_iRng1 ?_) | (with_reducible refine i_iEnS ?_)
  | ((with_reducible refine' i_ixTH ?q1 ?q2 ?_); (case q1 => walk_at "hp"); (case q2 => exact rfl))
  | ((with_reducible refine' i_ixLH ?q1 ?q2 ?_); (case q1 => walk_at "hp"); (case q2 => exact rfl))
  | ((with_reducible refine i_addS ?q1 ?_); (case q1 => walk_at "ln")) | ((with_reducible refine i_lenSS ?q1 ?_); (case q1 => walk_at "ln")) | ((with_reducible refine i_slFrom ?q1 ?q2 ?_); (case q1 => walk_at "ln"); (case q2 => walk_at "ln")) | ((with_reducible refine i_slTo ?q1 ?q2 ?_); (case q1 => walk_at "ln"); (case q2 => walk_at "ln"))
  | ((with_reducible refine' i_tyL ?q1 ?_); (case q1 => walk_at "hp"))
  | ((with_reducible refine' i_gTupH ?q1 ?q2 ?_); (case q1 => walk_at "hp"); (case q2 => exact rfl))
  | (with_reducible refine i_revT ?_) | (with_reducible refine i_kw ?_) | ((with_reducible refine' ⟨_, _, rfl, sqT_of ?q1, ?_⟩); (case q1 => walk_at "hp"))
  | (with_reducible refine i_revS ?_) | ((with_reducible refine i_revSS ?q1 ?_); (case q1 => walk_at "ln"))
  | (with_reducible refine i_startS ?_) | (with_reducible refine i_inSg ?_) | (with_reducible refine i_absN ?_) | (with_reducible refine i_min2 ?_) | (with_reducible refine i_max2 ?_) | (with_reducible refine i_min3 ?_) | (with_reducible refine i_intN ?_) | (with_reducible refine i_intNB ?_)
  | ((with_reducible refine' i_lenL ?q1 ?_); (case q1 => walk_at "hp")) | ((with_reducible refine' i_lenT ?q1 ?_); (case q1 => walk_at "hp"))
  | (with_reducible refine i_eqI ?_) | (with_reducible refine i_neI ?_) | (with_reducible refine i_eqS ?_) | (with_reducible refine i_neS ?_) | (with_reducible refine i_isNoI ?_) | (with_reducible refine i_isNoN ?_) | (with_reducible refine i_isNoR ?_)
  | ((with_reducible refine i_pow ?q1 ?q2 ?q3 ?_); (case q1 => decide); (case q2 => decide); (case q3 => (with_reducible omega)))
  | ((with_reducible refine i_rI ?q1 ?_); (case q1 => walk_at "ci"))
  | (with_reducible refine Or.inl ⟨_, rfl, ?_⟩) | (with_reducible refine Or.inr ⟨_, rfl, ?_⟩) | (with_reducible refine ⟨_, rfl, ?_⟩) | (with_reducible refine ⟨_, _, rfl, ?_⟩) | (with_reducible refine ⟨_, _, rfl, rfl, ?_⟩)
  | ((with_reducible refine' ⟨_, _, rfl, Or.inl (sqL_of ?q1), ?_⟩); (case q1 => walk_at "hp")) | ((with_reducible refine' ⟨_, _, rfl, Or.inr (sqT_of ?q1), ?_⟩); (case q1 => walk_at "hp")) | fail)
local macro_rules | `(tactic| walk_at "rd") => `(tactic| repeat' walk_at "rd1")


open Lev (lev band cell)
def optI : Option Nat → V
  | some n => .int (n : Int)
  | none => .non
/-- distance_within(one, other, most) -/
def spWithin : Sp := fun vs H Q _ => ∃ (a b : List Nat) (m : Nat), vs = [.str (S a), .str (S b), .int (m : Int)] ∧ a.length ≤ 2000 ∧ b.length ≤ 2000 ∧ m ≤ 100000 ∧ ∀ H', Same H H' → Q (optI (Lev.within a b m)) H'
section
variable {P : Program} {w : World} {K : PySem.W.Frag} {mg : Str → Option Value} {base : Heap} {f : Addr} {fd : FuncData}
theorem ok_within (F : Fun K "distance_within" "distance_within" s_distance_within f fd) (z : Z mg) (c_without_common_ends : Cal P w K mg base "without_common_ends" ["one", "other"] 2 spEnds)
    (c_next_band : Cal P w K mg base "next_band" ["band", "letter", "at", "other"] 1 (spNext K)) : FnOk P w K mg base CX0 3 f fd ["one", "other", "most"] spWithin := by
  refine F.ok sc_distance_within (fun vs H Q E h => ?_) (fun cdv A outer s H vs Q E hr h => ?_)
  · obtain ⟨a, b, m, rfl, _⟩ := h; rfl
  · obtain ⟨a, b, m, rfl, ha, hb, hm, k⟩ := h
    refine ⟨_, (pss_cons (ps_if (pt_cmpR op_gt (pe_callB call_absN (by rfl) z.abs (by decide +kernel) (pa_cons (pe_op op_sub (pe_callB call_lenS (by rfl) z.len PySem.boot_len (pa_cons (pv 0) pa_nil)) (pe_callB call_lenS (by rfl) z.len PySem.boot_len (pa_cons (pv 1) pa_nil))) pa_nil)) (pv 2) (nomark _))
        (pss_one (ps_ret pe_non))
        pss_nil)
      (pss_cons (ps_asg (pe_cal c_without_common_ends hr (pa_cons (pv 0) (pa_cons (pv 1) pa_nil))) (pg_tup rfl (pgs_cons (pg_name (i := 3) sc_distance_within.nd rfl (.inl rfl)) (pgs_cons (pg_name (i := 4) sc_distance_within.nd rfl (.inr rfl)) pgs_nil))))
      (C8.pss_cut (ps_if (pt_cmpR op_gt (pe_callB call_lenS (by rfl) z.len PySem.boot_len (pa_cons (pv 3) pa_nil)) (pe_callB call_lenS (by rfl) z.len PySem.boot_len (pa_cons (pv 4) pa_nil)) (nomark _))
        (pss_one (ps_asg (pe_tup (pa_cons (pv 4) (pa_cons (pv 3) pa_nil))) (pg_tup rfl (pgs_cons (pg_name (i := 3) sc_distance_within.nd rfl (.inl rfl)) (pgs_cons (pg_name (i := 4) sc_distance_within.nd rfl (.inr rfl)) pgs_nil)))))
        pss_nil)
      (pss_cons (ps_set (i := 2) sc_distance_within.nd rfl (.inr rfl) (pe_callB (call_min2N rfl) (by rfl) z.min_ (by decide +kernel) (pa_cons (pv 2) (pa_cons (pe_callB call_lenS (by rfl) z.len PySem.boot_len (pa_cons (pv 4) pa_nil)) pa_nil))))
      (pss_cons (ps_setLc (i := 5) (own := [("k", 6)]) (g := gName 6) (tt := tYes) rfl sc_distance_within.nd rfl rfl (sw_true rfl rfl rfl (by decide +kernel)) (pi_range1 (by rfl) z.range (pa_cons (pe_op op_add (pe_op op_mul pe_int (pv 2)) pe_int) pa_nil)) (blkOk_by (own := [("k", 6)]) (N := n_distance_within) (sc := defScope s_distance_within) (by decide +kernel)) (fun _ _ _ _ _ => (pg_name (i := 6) sc_distance_within.nd rfl (.inl rfl))) (fun _ _ _ _ _ => pts_nil) (fun _ _ _ _ _ => (pe_ifExp (pt_chain op_le op_le (pv 2) (pv 6) (pe_op op_add (pv 2) (pe_callB call_lenS (by rfl) z.len PySem.boot_len (pa_cons (pv 4) pa_nil)))) (pe_op op_sub (pv 6) (pv 2)) (pe_op op_add (pv 2) pe_int))))
      (pss_cons (ps_for PassesOwn.never rfl (pi_enumS (by rfl) z.enumerate (pa_cons (pv 3) pa_nil)) (pg_tup rfl (pgs_cons (pg_name (i := 7) sc_distance_within.nd rfl (.inl rfl)) (pgs_cons (pg_name (i := 8) sc_distance_within.nd rfl (.inl rfl)) pgs_nil)))
        (pss_one (ps_set (i := 5) sc_distance_within.nd rfl (.inl rfl) (pe_cal c_next_band hr (pa_cons (pv 5) (pa_cons (pv 8) (pa_cons (pv 7) (pa_cons (pv 4) pa_nil))))))))
      (pss_cons (ps_set (i := 9) sc_distance_within.nd rfl (.inl rfl) (pe_ix ix_list (pv 5) (pe_op op_add (pe_op op_sub (pe_callB call_lenS (by rfl) z.len PySem.boot_len (pa_cons (pv 4) pa_nil)) (pe_callB call_lenS (by rfl) z.len PySem.boot_len (pa_cons (pv 3) pa_nil))) (pv 2)) (fun _ _ => rfl)))
      (pss_one (ps_ret (pe_ifExp (pt_cmpR op_le (pv 9) (pv 2) (nomark _)) (pv 9) pe_non)))))))))), ?_⟩
    walk_at "rd"
    refine iteB (fun far => ?_) (fun near => ?_)
    · walk_at "rd"
      have e : Lev.within a b m = none := by
        unfold Lev.within
        have h1 := Lev.lev_lens a b
        rw [if_neg]
        split at far <;> omega
      rw [e] at k
      exact k _ (Same.refl _)
    · walk_at "rd"
      refine ⟨a, b, rfl, by omega, by omega, fun u x y v t H1 ea eb s1 nt et => ?_⟩
      walk_at "rd"
      have hlev : lev a b = lev x y := by
        rw [ea, eb, Lev.lev_suf, Lev.lev_pre]
      have lx : a.length = u.length + x.length + v.length := by rw [ea]; simp only [List.length_append]
      have ly : b.length = u.length + y.length + v.length := by rw [eb]; simp only [List.length_append]
      refine i_cut (fun σ' H' => ∃ x' y' : List Nat, σ' = [some (.str (S a)), some (.str (S b)), some (.int m), some (.str (S x')), some (.str (S y')), none, none, none, none, none] ∧ Same H H' ∧ x'.length ≤ y'.length ∧ y'.length ≤ x'.length + m ∧ lev a b = lev x' y' ∧ y'.length ≤ 2000) ?_ ?_
      · walk_at "rd"
        refine iteB (fun hgt => ?_) (fun hle => ?_)
        · walk_at "rd"
          refine ⟨Nat.le_of_ble_eq_true rfl, fun p np => ?_⟩
          walk_at "rd"
          refine ⟨Same.upd_new s1 np, by omega, ?_, by rw [hlev, Lev.lev_symm], by omega⟩
          split at near <;> omega
        · walk_at "rd"
          refine ⟨s1, by omega, ?_, hlev, by omega⟩
          split at near <;> omega
      · rintro _ H2 ⟨x', y', rfl, s2, l1, l2, hl, l3⟩
        walk_at "rd"
        rw [show min (m : Int) (y'.length : Int) = ((min m y'.length : Nat) : Int) by omega]
        generalize eM : min m y'.length = M
        refine i_rng (by omega) (by omega) ?_
        rw [show (2 * (M : Int) + 1).toNat = 2 * M + 1 by omega]
        refine go_map walk_rangeZ (fun i => V.int (cell M x' y' 0 i)) (by omega) (fun _ _ => trivial) (fun i v H3 H4 hi s3 yv R hR => ?_) mono_name (fun p H3 np s3 ep => ?_)
        · obtain ⟨rfl, rfl⟩ := yv
          have hR' := hR _ (Same.refl _)
          rw [Lev.cell_first hi] at hR'
          walk_at "rd"
          refine ⟨rfl, ?_⟩
          walk_at "rd"
          refine iteB (fun q1 => ?_) (fun q1 => ?_)
          · walk_at "rd"
            refine iteB (fun q2 => ?_) (fun q2 => ?_)
            · walk_at "rd"
              rw [if_pos (by omega)] at hR'
              exact hR'
            · walk_at "rd"
              rw [if_neg (by omega)] at hR'
              exact hR'
          · walk_at "rd"
            rw [if_neg (by omega)] at hR'
            exact hR'
        · have ep1 : H3 p = some (.lst ((band M x' y' 0).map V.int)) := by rw [ep]; unfold Lev.band; rw [List.map_map]; rfl
          have s4 : Same H H3 := s2.trans s3
          walk_at "rd"
          refine go_for walk_eS (fun i σ H4 => ∃ (pb : Addr) (u6 u7 u8 : Option V), σ = [some (.str (S a)), some (.str (S b)), some (.int M), some (.str (S x')), some (.str (S y')), some (.ref pb), u6, u7, u8, none] ∧ Same H H4 ∧
            H4 pb = some (.lst ((band M x' y' i).map V.int))) ⟨p, _, _, _, rfl, s4, ep1⟩ (fun _ _ _ _ _ => trivial) (fun i v σ H4 H5 hi pq yv => ?_) (fun σ H4 pq => ?_)
          · obtain ⟨pb, u6, u7, u8, rfl, s5, eb5⟩ := pq
            obtain ⟨T, c, rfl, nT, hc, rfl⟩ := yv
            walk_at "rd"
            refine ⟨pb, M, i, c, x', y', rfl, upd_old nT eb5, hc, by omega, by omega, by omega, fun q H6 s6 nq eq => ?_⟩
            walk_at "rd"
            exact ⟨q, _, _, _, rfl, Same.trans (Same.upd_new s5 nT) s6, eq⟩
          · obtain ⟨pb, u6, u7, u8, rfl, s5, eb5⟩ := pq
            walk_at "rd"
            have el := Lev.band_last (M := M) (l := x') (r := y') l1 (by omega)
            refine i_ixLI eb5 (by omega) (by rw [show ((y'.length : Int) - (x'.length : Int) + (M : Int)).toNat = y'.length - x'.length + M by omega]; exact el) ?_
            walk_at "rd"
            have hx1 := Lev.lev_le_max x' y'
            refine iteB (fun q1 => ?_) (fun q1 => ?_)
            · walk_at "rd"
              have k1 := k _ s5
              unfold Lev.within at k1
              rw [if_pos (by omega), hl] at k1
              rw [show min (lev x' y') (M + 1) = lev x' y' by omega]
              exact k1
            · walk_at "rd"
              have k1 := k _ s5
              unfold Lev.within at k1
              rw [if_neg (by omega)] at k1
              exact k1
end
end Sw
namespace Sw
open PySem PySem.Spec PyProof.Rows L2
local macro_rules | `(tactic| walk_at "hp") => `(tactic| first
  | (with_reducible assumption) | (with_reducible exact upd_same)
  | ((with_reducible refine' upd_old ?q1 ?q2); (case q1 => (with_reducible assumption)); (case q2 => walk_at "hp"))
  | ((with_reducible refine' Same.at ?q1 ?q2); (case q1 => (with_reducible assumption)); (case q2 => walk_at "hp"))
  | ((with_reducible refine' upd_skip ?q1 ?q2); (case q1 => walk_at "ne"); (case q2 => walk_at "hp"))
  | fail)
local macro_rules | `(tactic| walk_at "ne") => `(tactic| first
  | (with_reducible assumption) | (with_reducible exact Ne.symm (by assumption))
  | ((with_reducible refine' ne_of_none ?q1 ?q2); (case q2 => (with_reducible assumption)); (case q1 => walk_at "hp"))
  | fail)
local macro_rules | `(tactic| walk_at "ci") => `(tactic| first | assumption | (show (0 : Int) < _; first | decide | (with_reducible omega)) | exact ⟨by decide, by decide⟩ | exact .inl ⟨by decide, by decide⟩ | exact .inr ⟨by decide, by decide⟩)
local macro_rules | `(tactic| walk_at "ln") => `(tactic| first | (with_reducible assumption) | (with_reducible omega) | (simp only [List.length_append, List.length_take, List.length_drop, List.length_reverse, List.length_cons, List.length_nil]; with_reducible omega))
local macro_rules | `(tactic| walk_at "rd1") => `(tactic| first
  | (with_reducible refine i_seq ?_) | (with_reducible refine i_asg ?_) | (with_reducible refine i_ret ?_) | (with_reducible refine i_name ?_) | ((with_reducible refine' i_var ?q1 ?_); (case q1 => exact rfl)) | (with_reducible refine i_c ?_) | (with_reducible refine i_op ?_) | (with_reducible refine i_un ?_)
  | (with_reducible refine i_rI0 ?_) | (with_reducible refine i_cb ?_) | (with_reducible refine i_cons ?_) | (with_reducible refine i_nil ?_) | (with_reducible refine i_call ?_) | (with_reducible refine i_if ?_) | (with_reducible refine i_ifE ?_) | (with_reducible refine i_test ?_) | (with_reducible refine i_bl ?_)
  | (with_reducible refine i_and ?_) | (with_reducible refine i_or ?_) | (with_reducible refine i_not ?_) | (with_reducible refine i_lst ?_) | (with_reducible refine i_tup ?_) | (with_reducible refine i_next ?_) | (with_reducible refine i_drop ?_) | (with_reducible refine i_sub ?_)
  | (with_reducible refine i_bm ?_) | (with_reducible refine i_sl ?_) | (with_reducible refine i_part ?_) | (with_reducible refine i_nopart ?_) | (with_reducible refine i_exI ?_) | (with_reducible refine i_chain ?_) | ((with_reducible refine' i_aug ?q1 ?_); (case q1 => exact rfl)) | (with_reducible refine i_ip ?_)
  | (with_reducible refine i_par ?_) | (with_reducible refine i_pair ?_) | (with_reducible refine i_andV ?_) | (with_reducible refine i_orV ?_) | (with_reducible refine i_notV ?_) | (with_reducible refine i_m1 ?_) | (with_reducible refine i_str ?_)
  | (with_reducible refine iteF ?_) | (with_reducible refine iteT ?_) | (with_reducible refine iteNT ?_) | (with_reducible refine iteNF ?_) | (with_reducible refine i_tyS ?_) | (with_reducible refine i_tB ?_) | (with_reducible refine i_retN ?_) | (with_reducible refine i_par3 ?_) | (with_reducible refine i_trip ?_) | (with_reducible refine i_gCons ?_) | (with_reducible refine i_gNil ?_) | (with_reducible refine i_lstRg ?_) | (with_reducible refine i_rg1 ?_)
  | (with_reducible refine i_lc ?_) | (with_reducible refine i_for ?_) | (with_reducible refine i_iList ?_) | (with_reducible refine i_iTup ?_) | (with_reducible refine i_iStr ?_) | (with_reducible refine i_iRng1 ?_) | (with_reducible refine i_iEnS ?_)
  | ((with_reducible refine' i_ixTH ?q1 ?q2 ?_); (case q1 => walk_at "hp"); (case q2 => exact rfl))
  | ((with_reducible refine' i_ixLH ?q1 ?q2 ?_); (case q1 => walk_at "hp"); (case q2 => exact rfl))
  | ((with_reducible refine i_addS ?q1 ?_); (case q1 => walk_at "ln")) | ((with_reducible refine i_lenSS ?q1 ?_); (case q1 => walk_at "ln")) | ((with_reducible refine i_slFrom ?q1 ?q2 ?_); (case q1 => walk_at "ln"); (case q2 => walk_at "ln")) | ((with_reducible refine i_slTo ?q1 ?q2 ?_); (case q1 => walk_at "ln"); (case q2 => walk_at "ln"))
  | ((with_reducible refine' i_tyL ?q1 ?_); (case q1 => walk_at "hp"))
  | ((with_reducible refine' i_gTupH ?q1 ?q2 ?_); (case q1 => walk_at "hp"); (case q2 => exact rfl))
  | (with_reducible refine i_revT ?_) | (with_reducible refine i_kw ?_) | ((with_reducible refine' ⟨_, _, rfl, sqT_of ?q1, ?_⟩); (case q1 => walk_at "hp"))
  | (with_reducible refine i_revS ?_) | ((with_reducible refine i_revSS ?q1 ?_); (case q1 => walk_at "ln"))
  | (with_reducible refine i_startS ?_) | (with_reducible refine i_inSg ?_) | (with_reducible refine i_absN ?_) | (with_reducible refine i_min2 ?_) | (with_reducible refine i_max2 ?_) | (with_reducible refine i_min3 ?_) | (with_reducible refine i_intN ?_) | (with_reducible refine i_intNB ?_)
  | ((with_reducible refine' i_lenL ?q1 ?_); (case q1 => walk_at "hp")) | ((with_reducible refine' i_lenT ?q1 ?_); (case q1 => walk_at "hp"))
  | (with_reducible refine i_eqI ?_) | (with_reducible refine i_neI ?_) | (with_reducible refine i_eqS ?_) | (with_reducible refine i_neS ?_) | (with_reducible refine i_isNoI ?_) | (with_reducible refine i_isNoN ?_) | (with_reducible refine i_isNoR ?_)
  | ((with_reducible refine i_pow ?q1 ?q2 ?q3 ?_); (case q1 => decide); (case q2 => decide); (case q3 => (with_reducible omega)))
  | ((with_reducible refine i_rI ?q1 ?_); (case q1 => walk_at "ci"))
  | (with_reducible refine Or.inl ⟨_, rfl, ?_⟩) | (with_reducible refine Or.inr ⟨_, rfl, ?_⟩) | (with_reducible refine ⟨_, rfl, ?_⟩) | (with_reducible refine ⟨_, _, rfl, ?_⟩) | (with_reducible refine ⟨_, _, rfl, rfl, ?_⟩)
  | ((with_reducible refine' ⟨_, _, rfl, Or.inl (sqL_of ?q1), ?_⟩); (case q1 => walk_at "hp")) | ((with_reducible refine' ⟨_, _, rfl, Or.inr (sqT_of ?q1), ?_⟩); (case q1 => walk_at "hp")) | fail)
local macro_rules | `(tactic| walk_at "rd") => `(tactic| repeat' walk_at "rd1")


open Lev (lev)
/-- levenshtein(one, other); distance(one, other) -/
def spLev : Sp := fun vs H Q _ => ∃ (a b : List Nat), vs = [.str (S a), .str (S b)] ∧ a.length ≤ 2000 ∧ b.length ≤ 2000 ∧ azB a = true ∧ azB b = true ∧ ∀ H', Same H H' → Q (.int (lev a b : Nat)) H'
/-- gap_price(before, left, right, behind) -/
def spGap : Sp := fun vs H Q _ => ∃ (p q : Addr) (l r b0 b1 g0 g1 : List Nat), vs = [.ref p, .str (S l), .str (S r), .ref q] ∧ H p = some (.tup [.str (S b0), .str (S b1)]) ∧ H q = some (.tup [.str (S g0), .str (S g1)]) ∧
  (b0 = [] ∨ b1 = []) ∧ (g0 = [] ∨ g1 = []) ∧ azB b0 = true ∧ azB b1 = true ∧ azB g0 = true ∧ azB g1 = true ∧ azB l = true ∧ azB r = true ∧
  b0.length ≤ 500 ∧ b1.length ≤ 500 ∧ g0.length ≤ 500 ∧ g1.length ≤ 500 ∧ l.length ≤ 500 ∧ r.length ≤ 500 ∧
  ∀ H', Same H H' → Q (.int (lev (b0 ++ l ++ g1) (b1 ++ r ++ g0) : Nat)) H'
section
variable {P : Program} {w : World} {K : PySem.W.Frag} {mg : Str → Option Value} {base : Heap} {f : Addr} {fd : FuncData}
theorem ok_lev (F : Fun K "levenshtein" "levenshtein" s_levenshtein f fd) (z : Z mg) (c_distance_within : Cal P w K mg base "distance_within" ["one", "other", "most"] 3 spWithin) : FnOk P w K mg base CX0 4 f fd ["one", "other"] spLev := by
  refine F.ok sc_levenshtein (fun vs H Q E h => ?_) (fun cdv A outer s H vs Q E hr h => ?_)
  · obtain ⟨a, b, rfl, _⟩ := h; rfl
  · obtain ⟨a, b, rfl, ha, hb, _, _, k⟩ := h
    refine ⟨_, (pss_cons (ps_set (i := 2) sc_levenshtein.nd rfl (.inl rfl) (pe_op op_add (pe_callB call_absN (by rfl) z.abs (by decide +kernel) (pa_cons (pe_op op_sub (pe_callB call_lenS (by rfl) z.len PySem.boot_len (pa_cons (pv 0) pa_nil)) (pe_callB call_lenS (by rfl) z.len PySem.boot_len (pa_cons (pv 1) pa_nil))) pa_nil)) pe_int))
      (pss_cons (ps_set (i := 3) sc_levenshtein.nd rfl (.inl rfl) (pe_cal c_distance_within hr (pa_cons (pv 0) (pa_cons (pv 1) (pa_cons (pv 2) pa_nil)))))
      (pss_cons (ps_while PassesOwn.never (pt_cmpR op_isNo (pv 3) pe_non (nomark _))
        (pss_cons (ps_set (i := 2) sc_levenshtein.nd rfl (.inl rfl) (pe_op op_mul pe_int (pv 2)))
        (pss_one (ps_set (i := 3) sc_levenshtein.nd rfl (.inl rfl) (pe_cal c_distance_within hr (pa_cons (pv 0) (pa_cons (pv 1) (pa_cons (pv 2) pa_nil))))))))
      (pss_one (ps_ret (pv 3)))))), ?_⟩
    walk_at "rd"
    obtain ⟨m0, em0⟩ : ∃ m0 : Nat, (if (a.length : Int) - (b.length : Int) < 0 then -((a.length : Int) - (b.length : Int)) else (a.length : Int) - (b.length : Int)) + 1 = ((m0 + 1 : Nat) : Int) := by
      split
      · exact ⟨b.length - a.length, by omega⟩
      · exact ⟨a.length - b.length, by omega⟩
    have bm0 : m0 ≤ 2000 := by split at em0 <;> omega
    rw [em0]
    refine ⟨a, b, m0 + 1, rfl, by omega, by omega, by omega, fun H1 s1 => ?_⟩
    walk_at "rd"
    have lb := Lev.lev_le_max a b
    refine go_while (fun n σ H2 => ∃ m : Nat, n = 5000 - m ∧ σ = [some (.str (S a)), some (.str (S b)), some (.int (m : Int)), some (optI (Lev.within a b m))] ∧ Same H H2 ∧ 1 ≤ m ∧ m ≤ 5000 ∧ (Lev.within a b m = none → m ≤ 2000))
      (5000 - (m0 + 1)) ⟨m0 + 1, rfl, rfl, s1, by omega, by omega, fun e => ?_⟩ (fun n σ H2 h2 => ?_)
    · unfold Lev.within at e
      split at e
      · cases e
      · omega
    · obtain ⟨m, rfl, rfl, s2, h1, h5, h3⟩ := h2
      walk_at "rd"
      cases e : Lev.within a b m with
      | none =>
        have bm := h3 e
        show rIsNo .non .non H2 _
        walk_at "rd"
        refine ⟨_, fun _ _ q => q, ?_⟩
        walk_at "rd"
        refine ⟨a, b, 2 * m, by rw [show (2 : Int) * (m : Int) = ((2 * m : Nat) : Int) by omega] <;> rfl, by omega, by omega, by omega, fun H3 s3 => ?_⟩
        walk_at "rd"
        have e2 : (2 : Int) * (m : Int) = ((2 * m : Nat) : Int) := by omega
        refine ⟨5000 - 2 * m, by omega, 2 * m, rfl, ?_, s2.trans s3, by omega, by omega, fun q => ?_⟩
        · rw [e2]; rfl
        · unfold Lev.within at q
          split at q
          · cases q
          · omega
      | some v =>
        show rIsNo (.int v) .non H2 _
        walk_at "rd"
        have ev : v = lev a b := by
          unfold Lev.within at e
          split at e
          · exact (Option.some.inj e).symm
          · cases e
        rw [ev]
        exact k _ s2
theorem ok_distance (F : Fun K "distance" "distance" s_distance f fd) (c_levenshtein : Cal P w K mg base "levenshtein" ["one", "other"] 4 spLev) (c_check_text : Cal P w K mg base "check_text" ["text"] 2 spCheckText) :
    FnOk P w K mg base CX0 5 f fd ["one", "other"] spLev := by
  refine F.ok sc_distance (fun vs H Q E h => ?_) (fun cdv A outer s H vs Q E hr h => ?_)
  · obtain ⟨a, b, rfl, _⟩ := h; rfl
  · obtain ⟨a, b, rfl, ha, hb, za, zb, k⟩ := h
    refine ⟨_, (pss_cons (ps_expr (pe_cal c_check_text hr (pa_cons (pv 0) pa_nil)))
      (pss_cons (ps_expr (pe_cal c_check_text hr (pa_cons (pv 1) pa_nil)))
      (pss_one (ps_ret (pe_cal c_levenshtein hr (pa_cons (pv 0) (pa_cons (pv 1) pa_nil))))))), ?_⟩
    walk_at "rd"
    refine ⟨a, rfl, by omega, za, fun H1 s1 => ?_⟩
    walk_at "rd"
    refine ⟨b, rfl, by omega, zb, fun H2 s2 => ?_⟩
    walk_at "rd"
    refine ⟨a, b, rfl, by omega, by omega, za, zb, fun H3 s3 => ?_⟩
    exact k _ (s1.trans (s2.trans s3))
theorem ok_gap (F : Fun K "gap_price" "gap_price" s_gap_price f fd) (c_distance : Cal P w K mg base "distance" ["one", "other"] 5 spLev) (c_check_text : Cal P w K mg base "check_text" ["text"] 2 spCheckText) (c_is_lag : Cal P w K mg base "is_lag" ["value"] 2 (spIsLag K)) :
    FnOk P w K mg base CX0 6 f fd ["before", "left", "right", "behind"] spGap := by
  refine F.ok sc_gap_price (fun vs H Q E h => ?_) (fun cdv A outer s H vs Q E hr h => ?_)
  · obtain ⟨p, q, l, r, b0, b1, g0, g1, rfl, _⟩ := h; rfl
  · obtain ⟨p, q, l, r, b0, b1, g0, g1, rfl, hp, hq, eb, eg, z1, z2, z3, z4, z5, z6, n1, n2, n3, n4, n5, n6, k⟩ := h
    refine ⟨_, (pss_cons (ps_if (pt_not (pt_val (pe_cal c_is_lag hr (pa_cons (pv 0) pa_nil))))
        (pss_one ps_never)
        pss_nil)
      (pss_cons (ps_expr (pe_cal c_check_text hr (pa_cons (pv 1) pa_nil)))
      (pss_cons (ps_expr (pe_cal c_check_text hr (pa_cons (pv 2) pa_nil)))
      (pss_cons (ps_if (pt_not (pt_val (pe_cal c_is_lag hr (pa_cons (pv 3) pa_nil))))
        (pss_one ps_never)
        pss_nil)
      (pss_one (ps_ret (pe_cal c_distance hr (pa_cons (pe_op op_addS (pe_op op_addS (pe_ix ix_tup (pv 0) pe_int (fun _ _ => rfl)) (pv 1)) (pe_ix ix_tup (pv 3) pe_int (fun _ _ => rfl))) (pa_cons (pe_op op_addS (pe_op op_addS (pe_ix ix_tup (pv 0) pe_int (fun _ _ => rfl)) (pv 2)) (pe_ix ix_tup (pv 3) pe_int (fun _ _ => rfl))) pa_nil))))))))), ?_⟩
    walk_at "rd"
    refine ⟨p, b0, b1, rfl, hp, by omega, by omega, z1, z2, eb, fun H1 s1 => ?_⟩
    walk_at "rd"
    refine ⟨l, rfl, by omega, z5, fun H2 s2 => ?_⟩
    walk_at "rd"
    refine ⟨r, rfl, by omega, z6, fun H3 s3 => ?_⟩
    walk_at "rd"
    refine ⟨q, g0, g1, rfl, by walk_at "hp", by omega, by omega, z3, z4, eg, fun H4 s4 => ?_⟩
    walk_at "rd"
    refine ⟨b0 ++ l ++ g1, b1 ++ r ++ g0, rfl, by walk_at "ln", by walk_at "ln", by simp only [azB_app, z1, z4, z5, Bool.and_self], by simp only [azB_app, z2, z3, z6, Bool.and_self], fun H5 s5 => ?_⟩
    exact k _ (s1.trans (s2.trans (s3.trans (s4.trans s5))))
end
end Sw
namespace Sw
open PySem PySem.Spec PyProof.Rows L2
local macro_rules | `(tactic| walk_at "hp") => `(tactic| first
  | (with_reducible assumption) | (with_reducible exact upd_same)
  | ((with_reducible refine' upd_old ?q1 ?q2); (case q1 => (with_reducible assumption)); (case q2 => walk_at "hp"))
  | ((with_reducible refine' Same.at ?q1 ?q2); (case q1 => (with_reducible assumption)); (case q2 => walk_at "hp"))
  | ((with_reducible refine' upd_skip ?q1 ?q2); (case q1 => walk_at "ne"); (case q2 => walk_at "hp"))
  | fail)
local macro_rules | `(tactic| walk_at "ne") => `(tactic| first
  | (with_reducible assumption) | (with_reducible exact Ne.symm (by assumption))
  | ((with_reducible refine' ne_of_none ?q1 ?q2); (case q2 => (with_reducible assumption)); (case q1 => walk_at "hp"))
  | fail)
local macro_rules | `(tactic| walk_at "ci") => `(tactic| first | assumption | (show (0 : Int) < _; first | decide | (with_reducible omega)) | exact ⟨by decide, by decide⟩ | exact .inl ⟨by decide, by decide⟩ | exact .inr ⟨by decide, by decide⟩)
local macro_rules | `(tactic| walk_at "ln") => `(tactic| first | (with_reducible assumption) | (with_reducible omega) | (simp only [List.length_append, List.length_take, List.length_drop, List.length_reverse, List.length_cons, List.length_nil]; with_reducible omega))
local macro_rules | `(tactic| walk_at "rd1") => `(tactic| first
  | (with_reducible refine i_seq ?_) | (with_reducible refine i_asg ?_) | (with_reducible refine i_ret ?_) | (with_reducible refine i_name ?_) | ((with_reducible refine' i_var ?q1 ?_); (case q1 => exact rfl)) | (with_reducible refine i_c ?_) | (with_reducible refine i_op ?_) | (with_reducible refine i_un ?_)
  | (with_reducible refine i_rI0 ?_) | (with_reducible refine i_cb ?_) | (with_reducible refine i_cons ?_) | (with_reducible refine i_nil ?_) | (with_reducible refine i_call ?_) | (with_reducible refine i_if ?_) | (with_reducible refine i_ifE ?_) | (with_reducible refine i_test ?_) | (with_reducible refine i_bl ?_)
  | (with_reducible refine i_and ?_) | (with_reducible refine i_or ?_) | (with_reducible refine i_not ?_) | (with_reducible refine i_lst ?_) | (with_reducible refine i_tup ?_) | (with_reducible refine i_next ?_) | (with_reducible refine i_drop ?_) | (with_reducible refine i_sub ?_)
  | (with_reducible refine i_bm ?_) | (with_reducible refine i_sl ?_) | (with_reducible refine i_part ?_) | (with_reducible refine i_nopart ?_) | (with_reducible refine i_exI ?_) | (with_reducible refine i_chain ?_) | ((with_reducible refine' i_aug ?q1 ?_); (case q1 => exact rfl)) | (with_reducible refine i_ip ?_)
  | (with_reducible refine i_par ?_) | (with_reducible refine i_pair ?_) | (with_reducible refine i_andV ?_) | (with_reducible refine i_orV ?_) | (with_reducible refine i_notV ?_) | (with_reducible refine i_m1 ?_) | (with_reducible refine i_str ?_)
  | (with_reducible refine iteF ?_) | (with_reducible refine iteT ?_) | (with_reducible refine iteNT ?_) | (with_reducible refine iteNF ?_) | (with_reducible refine i_tyS ?_) | (with_reducible refine i_tB ?_) | (with_reducible refine i_retN ?_) | (with_reducible refine i_par3 ?_) | (with_reducible refine i_trip ?_) | (with_reducible refine i_gCons ?_) | (with_reducible refine i_gNil ?_) | (with_reducible refine i_lstRg ?_) | (with_reducible refine i_rg1 ?_)
  | (with_reducible refine i_lc ?_) | (with_reducible refine i_for ?_) | (with_reducible refine i_iList ?_) | (with_reducible refine i_iTup ?_) | (with_reducible refine i_iStr ?_) | (with_reducible refine i_iRng1 ?_) | (with_reducible refine i_iEnS ?_)
  | ((with_reducible refine' i_ixTH ?q1 ?q2 ?_); (case q1 => walk_at "hp"); (case q2 => exact rfl))
  | ((with_reducible refine' i_ixLH ?q1 ?q2 ?_); (case q1 => walk_at "hp"); (case q2 => exact rfl))
  | ((with_reducible refine i_addS ?q1 ?_); (case q1 => walk_at "ln")) | ((with_reducible refine i_lenSS ?q1 ?_); (case q1 => walk_at "ln")) | ((with_reducible refine i_slFrom ?q1 ?q2 ?_); (case q1 => walk_at "ln"); (case q2 => walk_at "ln")) | ((with_reducible refine i_slTo ?q1 ?q2 ?_); (case q1 => walk_at "ln"); (case q2 => walk_at "ln"))
  | ((with_reducible refine' i_tyL ?q1 ?_); (case q1 => walk_at "hp"))
  | ((with_reducible refine' i_gTupH ?q1 ?q2 ?_); (case q1 => walk_at "hp"); (case q2 => exact rfl))
  | (with_reducible refine i_revT ?_) | (with_reducible refine i_kw ?_) | ((with_reducible refine' ⟨_, _, rfl, sqT_of ?q1, ?_⟩); (case q1 => walk_at "hp"))
  | (with_reducible refine i_revS ?_) | ((with_reducible refine i_revSS ?q1 ?_); (case q1 => walk_at "ln"))
  | (with_reducible refine i_startS ?_) | (with_reducible refine i_inSg ?_) | (with_reducible refine i_absN ?_) | (with_reducible refine i_min2 ?_) | (with_reducible refine i_max2 ?_) | (with_reducible refine i_min3 ?_) | (with_reducible refine i_intN ?_) | (with_reducible refine i_intNB ?_)
  | ((with_reducible refine' i_lenL ?q1 ?_); (case q1 => walk_at "hp")) | ((with_reducible refine' i_lenT ?q1 ?_); (case q1 => walk_at "hp"))
  | (with_reducible refine i_eqI ?_) | (with_reducible refine i_neI ?_) | (with_reducible refine i_eqS ?_) | (with_reducible refine i_neS ?_) | (with_reducible refine i_isNoI ?_) | (with_reducible refine i_isNoN ?_) | (with_reducible refine i_isNoR ?_)
  | ((with_reducible refine i_pow ?q1 ?q2 ?q3 ?_); (case q1 => decide); (case q2 => decide); (case q3 => (with_reducible omega)))
  | ((with_reducible refine i_rI ?q1 ?_); (case q1 => walk_at "ci"))
  | (with_reducible refine Or.inl ⟨_, rfl, ?_⟩) | (with_reducible refine Or.inr ⟨_, rfl, ?_⟩) | (with_reducible refine ⟨_, rfl, ?_⟩) | (with_reducible refine ⟨_, _, rfl, ?_⟩) | (with_reducible refine ⟨_, _, rfl, rfl, ?_⟩)
  | ((with_reducible refine' ⟨_, _, rfl, Or.inl (sqL_of ?q1), ?_⟩); (case q1 => walk_at "hp")) | ((with_reducible refine' ⟨_, _, rfl, Or.inr (sqT_of ?q1), ?_⟩); (case q1 => walk_at "hp")) | fail)
local macro_rules | `(tactic| walk_at "rd") => `(tactic| repeat' walk_at "rd1")


open Lev (lev)
def row (a b : List Nat) (i : Nat) : List Int := (List.range (b.length + 1)).map fun k => (lev (a.take i) (b.take k) : Int)
theorem i_yes {σ : L2.St} {H : Hp} {R : Bool → Hp → Prop} (h : R true H) : tYes σ H R := h
theorem flat_one (ws : List Nat) : (ws.map fun c => [c]).flatten = ws := by
  induction ws with
  | nil => rfl
  | cons c ws ih => rw [List.map_cons, List.flatten_cons, ih]; rfl
theorem row_zero (a b : List Nat) : row a b 0 = (List.range (b.length + 1)).map fun (k : Nat) => (k : Int) := by
  unfold row
  refine List.map_congr_left fun k hk => ?_
  have hk := List.mem_range.mp hk
  rw [List.take_zero, Lev.lev_nil, List.length_take, Nat.min_eq_left (by omega)]
theorem row_next {a b : List Nat} {i k x y : Nat} (hx : a[i]? = some x) (hy : b[k]? = some y) :
    min (min ((lev (a.take i) (b.take k) : Nat) + (if (!decide ([x] = [y])) = true then (1 : Int) else 0)) ((lev (a.take i) (b.take (k + 1)) : Nat) + 1)) ((lev (a.take (i + 1)) (b.take k) : Nat) + 1) = ((lev (a.take (i + 1)) (b.take (k + 1)) : Nat) : Int) := by
  rw [Lev.take_snoc hx, Lev.take_snoc hy, Lev.lev_snoc]
  by_cases c : x = y
  · subst c; simp; omega
  · simp [c]; omega
theorem row_len (a b : List Nat) (i : Nat) : (row a b i).length = b.length + 1 := by simp [row]
theorem row_get {a b : List Nat} {i k : Nat} (h : k < b.length + 1) : (row a b i)[k]? = some (lev (a.take i) (b.take k) : Int) := by
  simp [row, List.getElem?_map, List.getElem?_range h]
/-- _law_distance(one, other) -/
def spDist : Sp := fun vs H Q _ => ∃ (a b : List Nat), vs = [.str (S a), .str (S b)] ∧ a.length ≤ 2000 ∧ b.length ≤ 2000 ∧ ∀ H', Same H H' → Q (.int (lev a b : Nat)) H'
/-- _law_text(box, letters, most) -/
def spText : Sp := fun vs H Q _ => ∃ (b : Addr) (L : List Nat) (m : Nat) (d : Int), vs = [.ref b, .str (S L), .int (m : Int)] ∧ BoxAt H b d ∧ d + m + 1 ≤ 1000000 ∧ L ≠ [] ∧ L.length ≤ 1000 ∧ m ≤ 1000 ∧
  ∀ (t : List Nat) (H' : Hp), t.length ≤ m → (∀ c ∈ t, c ∈ L) → BoxAt H' b (d + m + 1) → SB b H H' → Q (.str (S t)) H'
section
variable {P : Program} {w : World} {K : PySem.W.Frag} {mg : Str → Option Value} {base : Heap} {f : Addr} {fd : FuncData}
theorem ok_dist (F : Fun K "_law_distance" "_law_distance" s__law_distance f fd) (z : Z mg) : FnOk P w K mg base CX0 1 f fd ["one", "other"] spDist := by
  refine F.ok sc__law_distance (fun vs H Q E h => ?_) (fun cdv A outer s H vs Q E hr h => ?_)
  · obtain ⟨a, b, rfl, _⟩ := h; rfl
  · obtain ⟨a, b, rfl, ha, hb, k⟩ := h
    refine ⟨_, (pss_cons (ps_set (i := 2) sc__law_distance.nd rfl (.inl rfl) (pe_listRg rfl (by rfl) z.list (prg_1 (by rfl) z.range (pe_op op_add (pe_callB call_lenS (by rfl) z.len PySem.boot_len (pa_cons (pv 1) pa_nil)) pe_int))))
      (pss_cons (ps_for PassesOwn.never rfl (pi_range1 (by rfl) z.range (pa_cons (pe_callB call_lenS (by rfl) z.len PySem.boot_len (pa_cons (pv 0) pa_nil)) pa_nil)) (pg_name (i := 3) sc__law_distance.nd rfl (.inl rfl))
        (pss_cons (ps_set (i := 4) sc__law_distance.nd rfl (.inl rfl) (pe_lst (pa_cons (pe_op op_add (pv 3) pe_int) pa_nil)))
        (pss_cons (ps_for PassesOwn.never rfl (pi_range1 (by rfl) z.range (pa_cons (pe_callB call_lenS (by rfl) z.len PySem.boot_len (pa_cons (pv 1) pa_nil)) pa_nil)) (pg_name (i := 5) sc__law_distance.nd rfl (.inl rfl))
          (pss_one (ps_expr (pe_bm PySem.F.plainAttrs_list PySem.F.slot_list_append PySem.F.type_list_append mt_append (pv 4) (pa_cons (pe_callB (call_min3N rfl) (by rfl) z.min_ (by decide +kernel) (pa_cons (pe_op op_add (pe_ix ix_list (pv 2) (pv 5) (fun _ _ => rfl)) (pe_callTy call_intN (by rfl) z.int (by decide +kernel) (pa_cons (pe_cmpR op_ne (pe_ix ix_S (pv 0) (pv 3) (fun _ _ => rfl)) (pe_ix ix_S (pv 1) (pv 5) (fun _ _ => rfl)) (nomark _)) pa_nil))) (pa_cons (pe_op op_add (pe_ix ix_list (pv 2) (pe_op op_add (pv 5) pe_int) (fun _ _ => rfl)) pe_int) (pa_cons (pe_op op_add (pe_ix ix_list (pv 4) (pv 5) (fun _ _ => rfl)) pe_int) pa_nil)))) pa_nil)))))
        (pss_one (ps_set (i := 2) sc__law_distance.nd rfl (.inl rfl) (pv 4))))))
      (pss_one (ps_ret (pe_ix ix_list (pv 2) (pe_un un_neg pe_int) (fun _ _ => rfl)))))), ?_⟩
    walk_at "rd"
    refine ⟨by unfold RgOk; refine ⟨by omega, by omega, by omega, by omega, by omega⟩, fun q nq => ?_⟩
    walk_at "rd"
    have e0 : rgV 0 ((b.length : Int) + 1) = (row a b 0).map V.int := by
      rw [row_zero, List.map_map]
      unfold rgV
      rw [show ((b.length : Int) + 1 - 0).toNat = b.length + 1 by omega]
      refine List.map_congr_left fun k _ => ?_
      rw [Int.zero_add]; rfl
    rw [e0]
    refine i_rng (by omega) (by omega) ?_
    refine go_for walk_rangeZ (fun i σ H2 => ∃ (p : Addr) (u3 u4 u5 : Option V), σ = [some (.str (S a)), some (.str (S b)), some (.ref p), u3, u4, u5] ∧ Same H H2 ∧ H2 p = some (.lst ((row a b i).map V.int))) ⟨q, none, none, none, rfl, same_upd nq, upd_same⟩ (fun _ _ _ _ _ => trivial) (fun i v σ H2 H3 hi p y => ?_) (fun σ H2 p => ?_)
    · obtain ⟨p, u3, u4, u5, rfl, s2, ep⟩ := p
      obtain ⟨rfl, rfl⟩ := y
      have hi' : i < a.length := by omega
      walk_at "rd"
      refine ⟨Nat.le_of_ble_eq_true rfl, fun lo nl => ?_⟩
      walk_at "rd"
      refine i_rng (by omega) (by omega) ?_
      refine go_for walk_rangeZ (fun k σ H4 => ∃ (u5 : Option V), σ = [some (.str (S a)), some (.str (S b)), some (.ref p), some (.int i), some (.ref lo), u5] ∧ Same H3 H4 ∧ H4 lo = some (.lst (((row a b (i + 1)).take (k + 1)).map V.int))) ⟨u5, rfl, same_upd nl, ?_⟩ (fun _ _ _ _ _ => trivial) (fun k v σ H4 H5 hk p' y => ?_) (fun σ H4 p' => ?_)
      · rw [upd_same, List.take_add_one, row_get (by omega)]
        simp [Lev.lev_nil', Nat.min_eq_left (show i + 1 ≤ a.length by omega)]
      · obtain ⟨u5, rfl, s4, el⟩ := p'
        obtain ⟨rfl, rfl⟩ := y
        have hk' : k < b.length := by omega
        have ep4 := Same.at s4 ep
        walk_at "rd"
        refine i_ixLI ep4 (by omega) (by rw [Int.toNat_natCast]; exact row_get (by omega)) ?_
        walk_at "rd"
        refine i_ixSI (by omega) (by rw [Int.toNat_natCast]; exact List.getElem?_eq_getElem hi') (by omega) ?_
        walk_at "rd"
        refine i_ixSI (by omega) (by rw [Int.toNat_natCast]; exact List.getElem?_eq_getElem hk') (by omega) ?_
        walk_at "rd"
        refine i_ixLI ep4 (by omega) (by rw [show ((k : Int) + 1).toNat = k + 1 by omega]; exact row_get (by omega)) ?_
        walk_at "rd"
        refine i_ixLI el (by omega) (by rw [Int.toNat_natCast, List.getElem?_take, if_pos (by omega)]; exact row_get (by omega)) ?_
        walk_at "rd"
        rw [row_next (List.getElem?_eq_getElem hi') (List.getElem?_eq_getElem hk')]
        refine i_appI el (by rw [List.length_take, row_len]; omega) ?_
        refine ⟨_, rfl, Same.set_new s4 nl, ?_⟩
        rw [upd_same, List.take_add_one (i := k + 1), row_get (by omega)]
        rfl
      · obtain ⟨u5, rfl, s4, el⟩ := p'
        walk_at "rd"
        rw [List.take_of_length_le (by rw [row_len]; omega)] at el
        exact ⟨lo, _, _, _, rfl, s2.trans s4, el⟩
    · obtain ⟨p, u3, u4, u5, rfl, s2, ep⟩ := p
      walk_at "rd"
      have eg := row_get (a := a) (b := b) (i := a.length) (k := b.length) (by omega)
      refine i_rU ?_
      refine i_ixLH ep (atI_neg1 (by rw [List.length_map, row_len]) (by rw [List.getElem?_map, Int.toNat_natCast, eg]; rfl)) ?_
      rw [List.take_length, List.take_length]
      exact k _ s2
theorem ok_text (F : Fun K "_law_text" "_law_text" s__law_text f fd) (z : Z mg) (c__law_take : Cal P w K mg base "_law_take" ["box", "many"] 1 spTake) : FnOk P w K mg base CX0 2 f fd ["box", "letters", "most"] spText := by
  refine F.ok sc__law_text (fun vs H Q E h => ?_) (fun cdv A outer s H vs Q E hr h => ?_)
  · obtain ⟨b, L, m, d, rfl, _⟩ := h; rfl
  · obtain ⟨b, L, m, d, rfl, B, hd, hL, hL2, hm, k⟩ := h
    refine ⟨_, (pss_one (ps_ret (pe_m1 PySem.F.slot_str_join PySem.F.type_str_join mt_joinS (pe_strS (l := []) (by decide +kernel)) (pe_lc (own := [("turn", 3)]) (g := gName 3) (tt := tYes) rfl sc__law_text.nd (pi_range1 (by rfl) z.range (pa_cons (pe_cal c__law_take hr (pa_cons (pv 0) (pa_cons (pe_op op_add (pv 2) pe_int) pa_nil))) pa_nil)) (blkOk_by (own := [("turn", 3)]) (N := n__law_text) (sc := defScope s__law_text) (by decide +kernel)) (fun _ _ _ _ _ => (pg_name (i := 3) sc__law_text.nd rfl (.inl rfl))) (fun _ _ _ _ _ => pts_nil) (fun _ _ _ _ _ => (pe_ix ix_S (pv 1) (pe_cal c__law_take hr (pa_cons (pv 0) (pa_cons (pe_callB call_lenS (by rfl) z.len PySem.boot_len (pa_cons (pv 1) pa_nil)) pa_nil))) (fun _ _ => rfl))))))), ?_⟩
    walk_at "rd"
    refine ⟨b, (m : Int) + 1, d, rfl, B, by omega, by omega, by omega, fun r H1 r0 r1 B1 s1 => ?_⟩
    walk_at "rd"
    refine i_rng r0 (by omega) ?_
    refine go_lc walk_rangeZ (fun p i H2 => ∃ ws : List Nat, ws.length = i ∧ (∀ c ∈ ws, c ∈ L) ∧ H2 p = some (.lst (ws.map fun c => .str (S [c]))) ∧ BoxAt H2 b (d + 1 + i) ∧ SB b H1 H2)
      (fun p np => ⟨[], rfl, (by simp), upd_same, (BoxAt.same B1 (same_upd np)).mono (by omega), SB.of (same_upd np)⟩) (fun _ _ _ _ _ => trivial) (fun p np i v H2 H3 hi q y => ?_) (fun p H2 np q => ?_)
    · obtain ⟨ws, lw, hw, ew, B2, s2⟩ := q
      obtain ⟨rfl, rfl⟩ := y
      walk_at "rd"
      refine ⟨rfl, i_yes (iteT ?_)⟩
      walk_at "rd"
      have lL : 0 < L.length := by rcases L with _ | ⟨x, L⟩ <;> simp at hL ⊢
      refine ⟨b, (L.length : Int), d + 1 + i, rfl, B2, by omega, by omega, by omega, fun j H4 j0 j1 B4 s4 => ?_⟩
      have hj : j.toNat < L.length := by omega
      refine i_ixSI j0 (List.getElem?_eq_getElem hj) (by omega) ?_
      have npb : p ≠ b := by
        obtain ⟨n', g', c', e', hb', _⟩ := B1.ex
        exact fun q => by rw [q, hb'] at np; cases np
      refine ⟨_, s4 _ _ npb ew, by rw [List.length_map]; exact Nat.lt_of_le_of_lt (show ws.length ≤ 1000 by omega) (by decide), ws ++ [L[j.toNat]], by rw [List.length_append, lw]; rfl, fun c hc => ?_, ?_, ?_, ?_⟩
      · rcases List.mem_append.mp hc with hc | hc
        · exact hw c hc
        · rw [List.mem_singleton.mp hc]; exact List.getElem_mem hj
      · rw [upd_same, List.map_append]; rfl
      · obtain ⟨n', g', c', e', hb', hr⟩ := B4.ex
        exact ⟨n', g', c', e', by rw [upd_ne (Ne.symm npb)]; exact hb', hr.1, hr.2.1, hr.2.2.1, hr.2.2.2.1, by omega⟩
      · refine fun a o na ha => ?_
        by_cases e : a = p
        · rw [e] at ha; rw [np] at ha; cases ha
        · rw [upd_ne e]; exact (s2.trans s4) a o na ha
    · obtain ⟨ws, lw, hw, ew, B2, s2⟩ := q
      refine i_joinS (ws := ws.map fun c => [c]) (by rw [List.map_map]; exact ew) ?_ ?_
      · rw [flat_one]; omega
      · rw [flat_one]
        exact k ws H2 (by omega) hw (B2.mono (by omega)) (s1.trans s2)
end
end Sw
namespace Sw
open PySem PySem.Spec PyProof.Rows L2
local macro_rules | `(tactic| walk_at "hp") => `(tactic| first
  | (with_reducible assumption) | (with_reducible exact upd_same)
  | ((with_reducible refine' upd_old ?q1 ?q2); (case q1 => (with_reducible assumption)); (case q2 => walk_at "hp"))
  | ((with_reducible refine' Same.at ?q1 ?q2); (case q1 => (with_reducible assumption)); (case q2 => walk_at "hp"))
  | ((with_reducible refine' upd_skip ?q1 ?q2); (case q1 => walk_at "ne"); (case q2 => walk_at "hp"))
  | fail)
local macro_rules | `(tactic| walk_at "ne") => `(tactic| first
  | (with_reducible assumption) | (with_reducible exact Ne.symm (by assumption))
  | ((with_reducible refine' ne_of_none ?q1 ?q2); (case q2 => (with_reducible assumption)); (case q1 => walk_at "hp"))
  | fail)
local macro_rules | `(tactic| walk_at "ci") => `(tactic| first | assumption | (show (0 : Int) < _; first | decide | (with_reducible omega)) | exact ⟨by decide, by decide⟩ | exact .inl ⟨by decide, by decide⟩ | exact .inr ⟨by decide, by decide⟩)
local macro_rules | `(tactic| walk_at "ln") => `(tactic| first | (with_reducible assumption) | (with_reducible omega) | (simp only [List.length_append, List.length_take, List.length_drop, List.length_reverse, List.length_cons, List.length_nil]; with_reducible omega))
local macro_rules | `(tactic| walk_at "rd1") => `(tactic| first
  | (with_reducible refine i_seq ?_) | (with_reducible refine i_asg ?_) | (with_reducible refine i_ret ?_) | (with_reducible refine i_name ?_) | ((with_reducible refine' i_var ?q1 ?_); (case q1 => exact rfl)) | (with_reducible refine i_c ?_) | (with_reducible refine i_op ?_) | (with_reducible refine i_un ?_)
  | (with_reducible refine i_rI0 ?_) | (with_reducible refine i_cb ?_) | (with_reducible refine i_cons ?_) | (with_reducible refine i_nil ?_) | (with_reducible refine i_call ?_) | (with_reducible refine i_if ?_) | (with_reducible refine i_ifE ?_) | (with_reducible refine i_test ?_) | (with_reducible refine i_bl ?_)
  | (with_reducible refine i_and ?_) | (with_reducible refine i_or ?_) | (with_reducible refine i_not ?_) | (with_reducible refine i_lst ?_) | (with_reducible refine i_tup ?_) | (with_reducible refine i_next ?_) | (with_reducible refine i_drop ?_) | (with_reducible refine i_sub ?_)
  | (with_reducible refine i_bm ?_) | (with_reducible refine i_sl ?_) | (with_reducible refine i_part ?_) | (with_reducible refine i_nopart ?_) | (with_reducible refine i_exI ?_) | (with_reducible refine i_chain ?_) | ((with_reducible refine' i_aug ?q1 ?_); (case q1 => exact rfl)) | (with_reducible refine i_ip ?_)
  | (with_reducible refine i_par ?_) | (with_reducible refine i_pair ?_) | (with_reducible refine i_andV ?_) | (with_reducible refine i_orV ?_) | (with_reducible refine i_notV ?_) | (with_reducible refine i_m1 ?_) | (with_reducible refine i_str ?_)
  | (with_reducible refine iteF ?_) | (with_reducible refine iteT ?_) | (with_reducible refine iteNT ?_) | (with_reducible refine iteNF ?_) | (with_reducible refine i_tyS ?_) | (with_reducible refine i_tB ?_) | (with_reducible refine i_retN ?_) | (with_reducible refine i_par3 ?_) | (with_reducible refine i_trip ?_) | (with_reducible refine i_gCons ?_) | (with_reducible refine i_gNil ?_) | (with_reducible refine i_lstRg ?_) | (with_reducible refine i_rg1 ?_)
  | (with_reducible refine i_lc ?_) | (with_reducible refine i_for ?_) | (with_reducible refine i_iList ?_) | (with_reducible refine i_iTup ?_) | (with_reducible refine i_iStr ?_) | (with_reducible refine i_iRng1 ?_) | (with_reducible refine i_iEnS ?_)
  | ((with_reducible refine' i_ixTH ?q1 ?q2 ?_); (case q1 => walk_at "hp"); (case q2 => exact rfl))
  | ((with_reducible refine' i_ixLH ?q1 ?q2 ?_); (case q1 => walk_at "hp"); (case q2 => exact rfl))
  | ((with_reducible refine i_addS ?q1 ?_); (case q1 => walk_at "ln")) | ((with_reducible refine i_lenSS ?q1 ?_); (case q1 => walk_at "ln")) | ((with_reducible refine i_slFrom ?q1 ?q2 ?_); (case q1 => walk_at "ln"); (case q2 => walk_at "ln")) | ((with_reducible refine i_slTo ?q1 ?q2 ?_); (case q1 => walk_at "ln"); (case q2 => walk_at "ln"))
  | ((with_reducible refine' i_tyL ?q1 ?_); (case q1 => walk_at "hp"))
  | ((with_reducible refine' i_gTupH ?q1 ?q2 ?_); (case q1 => walk_at "hp"); (case q2 => exact rfl))
  | (with_reducible refine i_revT ?_) | (with_reducible refine i_kw ?_) | ((with_reducible refine' ⟨_, _, rfl, sqT_of ?q1, ?_⟩); (case q1 => walk_at "hp"))
  | (with_reducible refine i_revS ?_) | ((with_reducible refine i_revSS ?q1 ?_); (case q1 => walk_at "ln"))
  | (with_reducible refine i_startS ?_) | (with_reducible refine i_inSg ?_) | (with_reducible refine i_absN ?_) | (with_reducible refine i_min2 ?_) | (with_reducible refine i_max2 ?_) | (with_reducible refine i_min3 ?_) | (with_reducible refine i_intN ?_) | (with_reducible refine i_intNB ?_)
  | ((with_reducible refine' i_lenL ?q1 ?_); (case q1 => walk_at "hp")) | ((with_reducible refine' i_lenT ?q1 ?_); (case q1 => walk_at "hp"))
  | (with_reducible refine i_eqI ?_) | (with_reducible refine i_neI ?_) | (with_reducible refine i_eqS ?_) | (with_reducible refine i_neS ?_) | (with_reducible refine i_isNoI ?_) | (with_reducible refine i_isNoN ?_) | (with_reducible refine i_isNoR ?_)
  | ((with_reducible refine i_pow ?q1 ?q2 ?q3 ?_); (case q1 => decide); (case q2 => decide); (case q3 => (with_reducible omega)))
  | ((with_reducible refine i_rI ?q1 ?_); (case q1 => walk_at "ci"))
  | (with_reducible refine Or.inl ⟨_, rfl, ?_⟩) | (with_reducible refine Or.inr ⟨_, rfl, ?_⟩) | (with_reducible refine ⟨_, rfl, ?_⟩) | (with_reducible refine ⟨_, _, rfl, ?_⟩) | (with_reducible refine ⟨_, _, rfl, rfl, ?_⟩)
  | ((with_reducible refine' ⟨_, _, rfl, Or.inl (sqL_of ?q1), ?_⟩); (case q1 => walk_at "hp")) | ((with_reducible refine' ⟨_, _, rfl, Or.inr (sqT_of ?q1), ?_⟩); (case q1 => walk_at "hp")) | fail)
local macro_rules | `(tactic| walk_at "rd") => `(tactic| repeat' walk_at "rd1")


open Lev (lev)
theorem azB_get {l : List Nat} {i : Nat} {c : Nat} (h : azB l = true) (e : l[i]? = some c) : azB [c] = true := by
  unfold azB at *
  rw [List.all_eq_true] at *
  intro x hx
  rw [List.mem_singleton.mp hx]
  exact h c (List.mem_of_getElem? e)
abbrev AZ : List Nat := [97, 98, 99, 100, 101, 102, 103, 104, 105, 106, 107, 108, 109, 110, 111, 112, 113, 114, 115, 116, 117, 118, 119, 120, 121, 122]
theorem azAZ : azB AZ = true := by decide
theorem atAZ {i : Int} (h0 : 0 ≤ i) (h1 : i < 26) : ∃ c, AZ[i.toNat]? = some c ∧ azB [c] = true := by
  have h : i.toNat < AZ.length := by show i.toNat < 26; omega
  exact ⟨_, List.getElem?_eq_getElem h, azB_get azAZ (List.getElem?_eq_getElem h)⟩
theorem azB_of {L t : List Nat} (h : azB L = true) (ht : ∀ c ∈ t, c ∈ L) : azB t = true := by
  unfold azB at *
  rw [List.all_eq_true] at *
  exact fun c hc => h c (ht c hc)
theorem azB_rep {c n : Nat} (h : azB [c] = true) : azB (List.replicate n [c]).flatten = true := by
  induction n with
  | zero => rfl
  | succ n ih => rw [List.replicate_succ, List.flatten_cons, azB_app, h, ih]; rfl
theorem len_rep (c n : Nat) : (List.replicate n [c]).flatten.length = n := by
  induction n with
  | zero => rfl
  | succ n ih => rw [List.replicate_succ, List.flatten_cons, List.length_append, ih]; simp; omega
theorem BoxAt.ne_new {H : Hp} {b p : Addr} {d : Int} (B : BoxAt H b d) (h : H p = none) : p ≠ b := by
  obtain ⟨n, g, c, e, hb, _⟩ := B.ex
  rintro rfl
  rw [h] at hb
  cases hb
theorem iteM {p : Prop} [Decidable p] {t u : TE} {σ : L2.St} {H : Hp} {Q : VK} (Mid : V → Hp → Prop) (h1 : p → ∀ R : VK, (∀ x H', Mid x H' → R x H') → t σ H R) (h2 : ¬ p → ∀ R : VK, (∀ x H', Mid x H' → R x H') → u σ H R)
    (h3 : ∀ x H', Mid x H' → Q x H') : if decide p = true then t σ H Q else u σ H Q := iteB (fun h => h1 h Q h3) (fun h => h2 h Q h3)
/-- _law_changed(box, text, letters) -/
def spChanged : Sp := fun vs H Q _ => ∃ (b : Addr) (t L : List Nat) (d : Int), vs = [.ref b, .str (S t), .str (S L)] ∧ BoxAt H b d ∧ d + 10 ≤ 1000000 ∧ L ≠ [] ∧ L.length ≤ 1000 ∧ azB L = true ∧ azB t = true ∧ t.length ≤ 500 ∧
  ∀ (t' : List Nat) (H' : Hp), azB t' = true → t'.length ≤ t.length + 3 → BoxAt H' b (d + 10) → SB b H H' → Q (.str (S t')) H'
/-- _law_sides(box) -/
def spSides : Sp := fun vs H Q _ => ∃ (b : Addr) (d : Int), vs = [.ref b] ∧ BoxAt H b d ∧ d + 60 ≤ 1000000 ∧
  ∀ (p : Addr) (x y : List Nat) (H' : Hp), azB x = true → azB y = true → x.length ≤ 15 → y.length ≤ 15 → H' p = some (.lst [.str (S x), .str (S y)]) → BoxAt H' b (d + 60) → SB b H H' → Q (.ref p) H'
section
variable {P : Program} {w : World} {K : PySem.W.Frag} {mg : Str → Option Value} {base : Heap} {f : Addr} {fd : FuncData}
theorem ok_changed (F : Fun K "_law_changed" "_law_changed" s__law_changed f fd) (z : Z mg) (c__law_take : Cal P w K mg base "_law_take" ["box", "many"] 1 spTake) : FnOk P w K mg base CX0 2 f fd ["box", "text", "letters"] spChanged := by
  refine F.ok sc__law_changed (fun vs H Q E h => ?_) (fun cdv A outer s H vs Q E hr h => ?_)
  · obtain ⟨b, t, L, d, rfl, _⟩ := h; rfl
  · obtain ⟨b, t, L, d, rfl, B, hd, hL, hL2, hLz, ht, ht2, k⟩ := h
    refine ⟨_, (pss_cons (ps_set (i := 3) sc__law_changed.nd rfl (.inl rfl) (pv 1))
      (pss_cons (ps_for PassesOwn.never rfl (pi_range1 (by rfl) z.range (pa_cons (pe_cal c__law_take hr (pa_cons (pv 0) (pa_cons pe_int pa_nil))) pa_nil)) (pg_name (i := 4) sc__law_changed.nd rfl (.inl rfl))
        (pss_cons (ps_par (i := 5) (j := 6) rfl sc__law_changed.nd rfl rfl (by decide) rfl rfl (pa_cons (pe_cal c__law_take hr (pa_cons (pv 0) (pa_cons (pe_op op_add (pe_callB call_lenS (by rfl) z.len PySem.boot_len (pa_cons (pv 3) pa_nil)) pe_int) pa_nil))) (pa_cons (pe_cal c__law_take hr (pa_cons (pv 0) (pa_cons pe_int pa_nil))) pa_nil)) (by rfl))
        (pss_cons (ps_set (i := 7) sc__law_changed.nd rfl (.inl rfl) (pe_ix ix_S (pv 2) (pe_cal c__law_take hr (pa_cons (pv 0) (pa_cons (pe_callB call_lenS (by rfl) z.len PySem.boot_len (pa_cons (pv 2) pa_nil)) pa_nil))) (fun _ _ => rfl)))
        (pss_one (ps_set (i := 3) sc__law_changed.nd rfl (.inl rfl) (pe_op op_addS (pe_op op_addS (pe_slice sl_S (pv 3) po_none (po_some (pv 5))) (pe_op op_mulS (pv 7) (pe_callTy call_intN (by rfl) z.int (by decide +kernel) (pa_cons (pe_cmpR op_lt (pv 6) pe_int (nomark _)) pa_nil)))) (pe_slice sl_S (pv 3) (po_some (pe_op op_add (pv 5) (pe_callTy call_intN (by rfl) z.int (by decide +kernel) (pa_cons (pe_cmpR op_gt (pv 6) pe_int (nomark _)) pa_nil)))) po_none)))))))
      (pss_one (ps_ret (pv 3))))), ?_⟩
    walk_at "rd"
    refine ⟨b, 4, d, rfl, B, by omega, by omega, by omega, fun m H1 m0 m1 B1 s1 => ?_⟩
    walk_at "rd"
    refine i_rng m0 (by omega) ?_
    refine go_for walk_rangeZ (fun i σ H2 => ∃ (g : List Nat) (u4 u5 u6 u7 : Option V), σ = [some (.ref b), some (.str (S t)), some (.str (S L)), some (.str (S g)), u4, u5, u6, u7] ∧ azB g = true ∧ g.length ≤ t.length + i ∧ BoxAt H2 b (d + 1 + 3 * i) ∧ SB b H H2)
      ⟨t, none, none, none, none, rfl, ht, by omega, B1.mono (by omega), s1⟩ (fun _ _ _ _ _ => trivial) (fun i v σ H2 H3 hi p y => ?_) (fun σ H2 p => ?_)
    · obtain ⟨g, u4, u5, u6, u7, rfl, zg, lg, B2, s2⟩ := p
      obtain ⟨rfl, rfl⟩ := y
      walk_at "rd"
      refine ⟨b, (g.length : Int) + 1, _, rfl, B2, by omega, by omega, by omega, fun at' Ha a0 a1 Ba sa => ?_⟩
      walk_at "rd"
      refine ⟨b, 3, _, rfl, Ba, by omega, by omega, by omega, fun wy Hb w0 w1 Bb sb => ?_⟩
      walk_at "rd"
      have lL : 0 < L.length := by rcases L with _ | ⟨x, L⟩ <;> simp at hL ⊢
      refine ⟨b, (L.length : Int), _, rfl, Bb, by omega, by omega, by omega, fun j Hc j0 j1 Bc sc => ?_⟩
      have hj : j.toNat < L.length := by omega
      refine i_ixSI j0 (List.getElem?_eq_getElem hj) (by omega) ?_
      have zc := azB_get hLz (List.getElem?_eq_getElem hj)
      generalize L[j.toNat] = c at *
      walk_at "rd"
      have e1 : (if decide (wy < 2) = true then (1 : Int) else 0) = ((if wy < 2 then 1 else 0 : Nat) : Int) := by by_cases c : wy < 2 <;> simp [c]
      have e2 : (if decide (wy > 0) = true then (1 : Int) else 0) = ((if wy > 0 then 1 else 0 : Nat) : Int) := by by_cases c : wy > 0 <;> simp [c]
      rw [e1]
      have n1 : (if wy < 2 then 1 else 0 : Nat) ≤ 1 := by split <;> omega
      have n2 : (if wy > 0 then 1 else 0 : Nat) ≤ 1 := by split <;> omega
      refine i_mulS (Nat.le_of_ble_eq_true rfl) (by omega) ?_
      have zr := azB_rep (n := if wy < 2 then 1 else 0) zc
      have lr := len_rep c (if wy < 2 then 1 else 0)
      generalize (List.replicate (if wy < 2 then 1 else 0) [c]).flatten = r at *
      have lr' : r.length ≤ 1 := by omega
      walk_at "rd"
      have e2' : (if decide (0 < wy) = true then (1 : Int) else 0) = ((if wy > 0 then 1 else 0 : Nat) : Int) := e2
      rw [e2']
      refine ⟨_, _, _, _, _, rfl, ?_, ?_, Bc.mono (by omega), s2.trans (sa.trans (sb.trans sc))⟩
      · simp only [azB_app, azB_take zg, azB_drop zg, zr, Bool.and_self]
      · simp only [List.length_append, List.length_take, List.length_drop]; omega
    · obtain ⟨g, u4, u5, u6, u7, rfl, zg, lg, B2, s2⟩ := p
      walk_at "rd"
      exact k g H2 zg (by omega) (B2.mono (by omega)) s2
theorem ok_sides (F : Fun K "_law_sides" "_law_sides" s__law_sides f fd) (z : Z mg) (c__law_take : Cal P w K mg base "_law_take" ["box", "many"] 1 spTake) (c__law_text : Cal P w K mg base "_law_text" ["box", "letters", "most"] 2 spText)
    (c__law_changed : Cal P w K mg base "_law_changed" ["box", "text", "letters"] 2 spChanged) : FnOk P w K mg base CX0 3 f fd ["box"] spSides := by
  refine F.ok sc__law_sides (fun vs H Q E h => ?_) (fun cdv A outer s H vs Q E hr h => ?_)
  · obtain ⟨b, d, rfl, _⟩ := h; rfl
  · obtain ⟨b, d, rfl, B, hd, k⟩ := h
    refine ⟨_, (pss_cons (ps_set (i := 1) sc__law_sides.nd rfl (.inl rfl) (pe_strS (l := [97, 98, 99, 100, 101, 102, 103, 104, 105, 106, 107, 108, 109, 110, 111, 112, 113, 114, 115, 116, 117, 118, 119, 120, 121, 122]) (by decide +kernel)))
      (pss_cons (ps_par (i := 2) (j := 3) rfl sc__law_sides.nd rfl rfl (by decide) rfl rfl (pa_cons (pe_cal c__law_take hr (pa_cons (pv 0) (pa_cons pe_int pa_nil))) (pa_cons (pe_cal c__law_take hr (pa_cons (pv 0) (pa_cons pe_int pa_nil))) pa_nil)) (by rfl))
      (pss_cons (ps_set (i := 4) sc__law_sides.nd rfl (.inl rfl) (pe_op op_addS (pe_ix ix_S (pv 1) (pv 3) (fun _ _ => rfl)) (pe_ix ix_S (pv 1) (pe_op op_mod (pe_callTy call_intN (by rfl) z.int (by decide +kernel) (pa_cons (pe_op op_add (pe_op op_add (pv 3) pe_int) (pe_cal c__law_take hr (pa_cons (pv 0) (pa_cons pe_int pa_nil)))) pa_nil)) pe_int) (fun _ _ => rfl))))
      (pss_cons (ps_set (i := 5) sc__law_sides.nd rfl (.inl rfl) (pe_ix ix_list (pe_lst (pa_cons (pv 4) (pa_cons (pv 1) pa_nil))) (pe_cal c__law_take hr (pa_cons (pv 0) (pa_cons pe_int pa_nil))) (fun _ _ => rfl)))
      (pss_cons (ps_set (i := 6) sc__law_sides.nd rfl (.inl rfl) (pe_cal c__law_text hr (pa_cons (pv 0) (pa_cons (pv 5) (pa_cons pe_int pa_nil)))))
      (pss_cons (ps_if (pt_cmpR op_eq (pv 2) pe_int (nomark _))
        (pss_one (ps_ret (pe_lst (pa_cons (pv 6) (pa_cons (pe_cal c__law_text hr (pa_cons (pv 0) (pa_cons (pv 5) (pa_cons pe_int pa_nil)))) pa_nil)))))
        pss_nil)
      (pss_cons (ps_set (i := 7) sc__law_sides.nd rfl (.inl rfl) (pe_cal c__law_changed hr (pa_cons (pv 0) (pa_cons (pv 6) (pa_cons (pv 5) pa_nil)))))
      (pss_one (ps_ret (pe_ifExp (pt_cmpR op_eq (pv 2) pe_int (nomark _)) (pe_lst (pa_cons (pv 6) (pa_cons (pv 7) pa_nil))) (pe_lst (pa_cons (pv 7) (pa_cons (pv 6) pa_nil))))))))))))), ?_⟩
    walk_at "rd"
    refine ⟨b, 3, d, rfl, B, by omega, by omega, by omega, fun wy Ha w0 w1 Ba sa => ?_⟩
    walk_at "rd"
    refine ⟨b, 26, _, rfl, Ba, by omega, by omega, by omega, fun fi Hb f0 f1 Bb sb => ?_⟩
    walk_at "rd"
    obtain ⟨c1, ec1, zc1⟩ := atAZ f0 f1
    refine i_ixSI f0 ec1 (by decide) ?_
    walk_at "rd"
    refine ⟨b, 25, _, rfl, Bb, by omega, by omega, by omega, fun se Hc g0 g1 Bc sc => ?_⟩
    walk_at "rd"
    obtain ⟨c2, ec2, zc2⟩ := atAZ (i := (fi + 1 + se) % 26) (Int.emod_nonneg _ (by omega)) (Int.emod_lt_of_pos _ (by omega))
    refine i_ixSI (Int.emod_nonneg _ (by omega)) ec2 (by decide) ?_
    walk_at "rd"
    refine ⟨Nat.le_of_ble_eq_true rfl, fun p1 np1 => ?_⟩
    walk_at "rd"
    have s1 := same_upd (o := .lst [V.str (S ([c1] ++ [c2])), V.str (S AZ)]) np1
    refine ⟨b, 2, _, rfl, Bc.same s1, by omega, by omega, by omega, fun j Hd j0 j1 Bd sd => ?_⟩
    obtain ⟨L, eL, hL, hL2, hLz⟩ : ∃ L : List Nat, ([.str (S ([c1] ++ [c2])), .str (S AZ)] : List V)[j.toNat]? = some (.str (S L)) ∧ L ≠ [] ∧ L.length ≤ 26 ∧ azB L = true := by
      have hj : j = 0 ∨ j = 1 := by omega
      rcases hj with rfl | rfl
      · exact ⟨_, rfl, by simp, by simp, by rw [azB_app, zc1, zc2]; rfl⟩
      · exact ⟨_, rfl, by simp, by decide, azAZ⟩
    refine i_ixLv (sd _ _ (Bc.ne_new np1) upd_same) j0 eL ?_
    walk_at "rd"
    refine ⟨b, L, 12, _, rfl, Bd, by omega, hL, by omega, by omega, fun x He x1 x2 Be sE => ?_⟩
    have zx := azB_of hLz x2
    have sO : SB b H He := sa.trans (sb.trans (sc.trans ((SB.of s1).trans (sd.trans sE))))
    walk_at "rd"
    refine iteB (fun h0 => ?_) (fun h0 => ?_)
    · walk_at "rd"
      refine ⟨b, L, 12, _, rfl, Be, by omega, hL, by omega, by omega, fun y Hf y1 y2 Bf sf => ?_⟩
      walk_at "rd"
      refine ⟨Nat.le_of_ble_eq_true rfl, fun p np => ?_⟩
      exact k p x y _ zx (azB_of hLz y2) (by omega) (by omega) upd_same ((Bf.same (same_upd np)).mono (by omega)) (sO.trans (sf.trans (SB.of (same_upd np))))
    · walk_at "rd"
      refine ⟨b, x, L, _, rfl, Be, by omega, hL, by omega, hLz, zx, by omega, fun y Hf zy ly Bf sf => ?_⟩
      walk_at "rd"
      refine iteB (fun h1 => ?_) (fun h1 => ?_)
      · walk_at "rd"
        refine ⟨Nat.le_of_ble_eq_true rfl, fun p np => ?_⟩
        exact k p x y _ zx zy (by omega) (by omega) upd_same ((Bf.same (same_upd np)).mono (by omega)) (sO.trans (sf.trans (SB.of (same_upd np))))
      · walk_at "rd"
        refine ⟨Nat.le_of_ble_eq_true rfl, fun p np => ?_⟩
        exact k p y x _ zy zx (by omega) (by omega) upd_same ((Bf.same (same_upd np)).mono (by omega)) (sO.trans (sf.trans (SB.of (same_upd np))))
end
end Sw
namespace Sw
open PySem PySem.Spec PyProof.Rows L2
local macro_rules | `(tactic| walk_at "hp") => `(tactic| first
  | (with_reducible assumption) | (with_reducible exact upd_same)
  | ((with_reducible refine' upd_old ?q1 ?q2); (case q1 => (with_reducible assumption)); (case q2 => walk_at "hp"))
  | ((with_reducible refine' Same.at ?q1 ?q2); (case q1 => (with_reducible assumption)); (case q2 => walk_at "hp"))
  | ((with_reducible refine' upd_skip ?q1 ?q2); (case q1 => walk_at "ne"); (case q2 => walk_at "hp"))
  | fail)
local macro_rules | `(tactic| walk_at "ne") => `(tactic| first
  | (with_reducible assumption) | (with_reducible exact Ne.symm (by assumption))
  | ((with_reducible refine' ne_of_none ?q1 ?q2); (case q2 => (with_reducible assumption)); (case q1 => walk_at "hp"))
  | fail)
local macro_rules | `(tactic| walk_at "ci") => `(tactic| first | assumption | (show (0 : Int) < _; first | decide | (with_reducible omega)) | exact ⟨by decide, by decide⟩ | exact .inl ⟨by decide, by decide⟩ | exact .inr ⟨by decide, by decide⟩)
local macro_rules | `(tactic| walk_at "ln") => `(tactic| first | (with_reducible assumption) | (with_reducible omega) | (simp only [List.length_append, List.length_take, List.length_drop, List.length_reverse, List.length_cons, List.length_nil]; with_reducible omega))
local macro_rules | `(tactic| walk_at "rd1") => `(tactic| first
  | (with_reducible refine i_seq ?_) | (with_reducible refine i_asg ?_) | (with_reducible refine i_ret ?_) | (with_reducible refine i_name ?_) | ((with_reducible refine' i_var ?q1 ?_); (case q1 => exact rfl)) | (with_reducible refine i_c ?_) | (with_reducible refine i_op ?_) | (with_reducible refine i_un ?_)
  | (with_reducible refine i_rI0 ?_) | (with_reducible refine i_cb ?_) | (with_reducible refine i_cons ?_) | (with_reducible refine i_nil ?_) | (with_reducible refine i_call ?_) | (with_reducible refine i_if ?_) | (with_reducible refine i_ifE ?_) | (with_reducible refine i_test ?_) | (with_reducible refine i_bl ?_)
  | (with_reducible refine i_and ?_) | (with_reducible refine i_or ?_) | (with_reducible refine i_not ?_) | (with_reducible refine i_lst ?_) | (with_reducible refine i_tup ?_) | (with_reducible refine i_next ?_) | (with_reducible refine i_drop ?_) | (with_reducible refine i_sub ?_)
  | (with_reducible refine i_bm ?_) | (with_reducible refine i_sl ?_) | (with_reducible refine i_part ?_) | (with_reducible refine i_nopart ?_) | (with_reducible refine i_exI ?_) | (with_reducible refine i_chain ?_) | ((with_reducible refine' i_aug ?q1 ?_); (case q1 => exact rfl)) | (with_reducible refine i_ip ?_)
  | (with_reducible refine i_par ?_) | (with_reducible refine i_pair ?_) | (with_reducible refine i_andV ?_) | (with_reducible refine i_orV ?_) | (with_reducible refine i_notV ?_) | (with_reducible refine i_m1 ?_) | (with_reducible refine i_str ?_)
  | (with_reducible refine iteF ?_) | (with_reducible refine iteT ?_) | (with_reducible refine iteNT ?_) | (with_reducible refine iteNF ?_) | (with_reducible refine i_tyS ?_) | (with_reducible refine i_tB ?_) | (with_reducible refine i_retN ?_) | (with_reducible refine i_par3 ?_) | (with_reducible refine i_trip ?_) | (with_reducible refine i_gCons ?_) | (with_reducible refine i_gNil ?_) | (with_reducible refine i_lstRg ?_) | (with_reducible refine i_rg1 ?_)
  | (with_reducible refine i_lc ?_) | (with_reducible refine i_for ?_) | (with_reducible refine i_iList ?_) | (with_reducible refine i_iTup ?_) | (with_reducible refine i_iStr ?_) | (with_reducible refine i_iRng1 ?_) | (with_reducible refine i_iEnS ?_)
  | ((with_reducible refine' i_ixTH ?q1 ?q2 ?_); (case q1 => walk_at "hp"); (case q2 => exact rfl))
  | ((with_reducible refine' i_ixLH ?q1 ?q2 ?_); (case q1 => walk_at "hp"); (case q2 => exact rfl))
  | ((with_reducible refine i_addS ?q1 ?_); (case q1 => walk_at "ln")) | ((with_reducible refine i_lenSS ?q1 ?_); (case q1 => walk_at "ln")) | ((with_reducible refine i_slFrom ?q1 ?q2 ?_); (case q1 => walk_at "ln"); (case q2 => walk_at "ln")) | ((with_reducible refine i_slTo ?q1 ?q2 ?_); (case q1 => walk_at "ln"); (case q2 => walk_at "ln"))
  | ((with_reducible refine' i_tyL ?q1 ?_); (case q1 => walk_at "hp"))
  | ((with_reducible refine' i_gTupH ?q1 ?q2 ?_); (case q1 => walk_at "hp"); (case q2 => exact rfl))
  | (with_reducible refine i_revT ?_) | (with_reducible refine i_kw ?_) | ((with_reducible refine' ⟨_, _, rfl, sqT_of ?q1, ?_⟩); (case q1 => walk_at "hp"))
  | (with_reducible refine i_revS ?_) | ((with_reducible refine i_revSS ?q1 ?_); (case q1 => walk_at "ln"))
  | (with_reducible refine i_startS ?_) | (with_reducible refine i_inSg ?_) | (with_reducible refine i_absN ?_) | (with_reducible refine i_min2 ?_) | (with_reducible refine i_max2 ?_) | (with_reducible refine i_min3 ?_) | (with_reducible refine i_intN ?_) | (with_reducible refine i_intNB ?_)
  | ((with_reducible refine' i_lenL ?q1 ?_); (case q1 => walk_at "hp")) | ((with_reducible refine' i_lenT ?q1 ?_); (case q1 => walk_at "hp"))
  | (with_reducible refine i_eqI ?_) | (with_reducible refine i_neI ?_) | (with_reducible refine i_eqS ?_) | (with_reducible refine i_neS ?_) | (with_reducible refine i_isNoI ?_) | (with_reducible refine i_isNoN ?_) | (with_reducible refine i_isNoR ?_)
  | ((with_reducible refine i_pow ?q1 ?q2 ?q3 ?_); (case q1 => decide); (case q2 => decide); (case q3 => (with_reducible omega)))
  | ((with_reducible refine i_rI ?q1 ?_); (case q1 => walk_at "ci"))
  | (with_reducible refine Or.inl ⟨_, rfl, ?_⟩) | (with_reducible refine Or.inr ⟨_, rfl, ?_⟩) | (with_reducible refine ⟨_, rfl, ?_⟩) | (with_reducible refine ⟨_, _, rfl, ?_⟩) | (with_reducible refine ⟨_, _, rfl, rfl, ?_⟩)
  | ((with_reducible refine' ⟨_, _, rfl, Or.inl (sqL_of ?q1), ?_⟩); (case q1 => walk_at "hp")) | ((with_reducible refine' ⟨_, _, rfl, Or.inr (sqT_of ?q1), ?_⟩); (case q1 => walk_at "hp")) | fail)
local macro_rules | `(tactic| walk_at "rd") => `(tactic| repeat' walk_at "rd1")


open Lev (lev)
/-- _law_cut(box, one, other) -/
def spCut : Sp := fun vs H Q _ => ∃ (b : Addr) (one other : List Nat) (d : Int), vs = [.ref b, .str (S one), .str (S other)] ∧ BoxAt H b d ∧ d + 6 ≤ 1000000 ∧ one.length ≤ 1000 ∧ other.length ≤ 1000 ∧
  ∀ (pp p q : Addr) (x l l2 y r r2 : List Nat) (H' : Hp), one = x ++ l ++ l2 → other = y ++ r ++ r2 → (x = [] ∨ y = []) → (r2 = [] ∨ l2 = []) → H' pp = some (.lst [.ref p, .str (S l), .str (S r), .ref q]) →
    H' p = some (.tup [.str (S x), .str (S y)]) → H' q = some (.tup [.str (S r2), .str (S l2)]) → BoxAt H' b (d + 6) → SB b H H' → Q (.ref pp) H'
/-- _law_holds(parts, due) -/
def spHolds : Sp := fun vs H Q _ => ∃ (pp p q : Addr) (x l l2 y r r2 : List Nat), vs = [.ref pp, .int (lev (x ++ l ++ l2) (y ++ r ++ r2) : Nat)] ∧ H pp = some (.lst [.ref p, .str (S l), .str (S r), .ref q]) ∧
    H p = some (.tup [.str (S x), .str (S y)]) ∧ H q = some (.tup [.str (S r2), .str (S l2)]) ∧ (x = [] ∨ y = []) ∧ (r2 = [] ∨ l2 = []) ∧ azB (x ++ l ++ l2) = true ∧ azB (y ++ r ++ r2) = true ∧ (x ++ l ++ l2).length ≤ 500 ∧ (y ++ r ++ r2).length ≤ 500 ∧
  ∀ H', Same H H' → Q (.bl true) H'
def gapKs : List Str := ["behind", "right", "left", "before"]
def back4 {α : Type} : List α → List α → List α
  | [], [d, c, b, a] => [a, b, c, d]
  | _, _ => []
theorem back4_inv {α : Type} {us ws : List α} (h : (back4 us ws).length = 4) : us = [] ∧ ∃ d c b a, ws = [d, c, b, a] := by
  unfold back4 at h
  split at h
  · exact ⟨rfl, _, _, _, _, rfl⟩
  · cases h
theorem back4_rel {vs : List V} {us : List Value} {zs : List V} {ws : List Value} (r : Vals vs us) (r2 : Vals zs ws) : Vals (back4 vs zs) (back4 us ws) := by
  unfold back4
  cases r with
  | cons _ _ => exact .nil
  | nil =>
    cases r2 with
    | nil => exact .nil
    | cons a r2 =>
      cases r2 with
      | nil => exact .nil
      | cons b r2 =>
        cases r2 with
        | nil => exact .nil
        | cons c r2 =>
          cases r2 with
          | nil => exact .nil
          | cons d r2 =>
            cases r2 with
            | nil => exact .cons d (.cons c (.cons b (.cons a .nil)))
            | cons _ _ => exact .nil
section
variable {P : Program} {w : World} {K : PySem.W.Frag} {mg : Str → Option Value} {base : Heap} {f : Addr} {fd : FuncData}
theorem ok_cut (F : Fun K "_law_cut" "_law_cut" s__law_cut f fd) (z : Z mg) (c__law_take : Cal P w K mg base "_law_take" ["box", "many"] 1 spTake) : FnOk P w K mg base CX0 2 f fd ["box", "one", "other"] spCut := by
  refine F.ok sc__law_cut (fun vs H Q E h => ?_) (fun cdv A outer s H vs Q E hr h => ?_)
  · obtain ⟨b, x, y, d, rfl, _⟩ := h; rfl
  · obtain ⟨b, one, other, d, rfl, B, hd, l1, l2, k⟩ := h
    refine ⟨_, (pss_cons (ps_par (i := 3) (j := 4) rfl sc__law_cut.nd rfl rfl (by decide) rfl rfl (pa_cons (pe_cal c__law_take hr (pa_cons (pv 0) (pa_cons pe_int pa_nil))) (pa_cons (pe_cal c__law_take hr (pa_cons (pv 0) (pa_cons pe_int pa_nil))) pa_nil)) (by rfl))
      (pss_cons (ps_set (i := 5) sc__law_cut.nd rfl (.inl rfl) (pe_ifExp (pt_cmpR op_eq (pv 3) pe_int (nomark _)) (pe_slice sl_S (pv 1) po_none (po_some (pe_cal c__law_take hr (pa_cons (pv 0) (pa_cons (pe_op op_add (pe_callB call_lenS (by rfl) z.len PySem.boot_len (pa_cons (pv 1) pa_nil)) pe_int) pa_nil))))) (pe_strS (l := []) (by decide +kernel))))
      (pss_cons (ps_set (i := 6) sc__law_cut.nd rfl (.inl rfl) (pe_ifExp (pt_cmpR op_eq (pv 3) pe_int (nomark _)) (pe_slice sl_S (pv 2) po_none (po_some (pe_cal c__law_take hr (pa_cons (pv 0) (pa_cons (pe_op op_add (pe_callB call_lenS (by rfl) z.len PySem.boot_len (pa_cons (pv 2) pa_nil)) pe_int) pa_nil))))) (pe_strS (l := []) (by decide +kernel))))
      (pss_cons (ps_par (i := 7) (j := 8) rfl sc__law_cut.nd rfl rfl (by decide) rfl rfl (pa_cons (pe_slice sl_S (pv 1) (po_some (pe_callB call_lenS (by rfl) z.len PySem.boot_len (pa_cons (pv 5) pa_nil))) po_none) (pa_cons (pe_slice sl_S (pv 2) (po_some (pe_callB call_lenS (by rfl) z.len PySem.boot_len (pa_cons (pv 6) pa_nil))) po_none) pa_nil)) (by rfl))
      (pss_cons (ps_set (i := 9) sc__law_cut.nd rfl (.inl rfl) (pe_ifExp (pt_cmpR op_eq (pv 4) pe_int (nomark _)) (pe_cal c__law_take hr (pa_cons (pv 0) (pa_cons (pe_op op_add (pe_callB call_lenS (by rfl) z.len PySem.boot_len (pa_cons (pv 7) pa_nil)) pe_int) pa_nil))) (pe_callB call_lenS (by rfl) z.len PySem.boot_len (pa_cons (pv 7) pa_nil))))
      (pss_cons (ps_set (i := 10) sc__law_cut.nd rfl (.inl rfl) (pe_ifExp (pt_cmpR op_eq (pv 4) pe_int (nomark _)) (pe_cal c__law_take hr (pa_cons (pv 0) (pa_cons (pe_op op_add (pe_callB call_lenS (by rfl) z.len PySem.boot_len (pa_cons (pv 8) pa_nil)) pe_int) pa_nil))) (pe_callB call_lenS (by rfl) z.len PySem.boot_len (pa_cons (pv 8) pa_nil))))
      (pss_one (ps_ret (pe_lst (pa_cons (pe_tup (pa_cons (pv 5) (pa_cons (pv 6) pa_nil))) (pa_cons (pe_slice sl_S (pv 7) po_none (po_some (pv 9))) (pa_cons (pe_slice sl_S (pv 8) po_none (po_some (pv 10))) (pa_cons (pe_tup (pa_cons (pe_slice sl_S (pv 8) (po_some (pv 10)) po_none) (pa_cons (pe_slice sl_S (pv 7) (po_some (pv 9)) po_none) pa_nil))) pa_nil))))))))))))), ?_⟩
    walk_at "rd"
    refine ⟨b, 3, d, rfl, B, by omega, by omega, by omega, fun ah Ha a0 a1 Ba sa => ?_⟩
    walk_at "rd"
    refine ⟨b, 3, _, rfl, Ba, by omega, by omega, by omega, fun la Hb b0 b1 Bb sb => ?_⟩
    walk_at "rd"
    refine iteM (fun x H' => ∃ n : Nat, n ≤ one.length ∧ x = .str (S (one.take n)) ∧ (ah ≠ 1 → n = 0) ∧ BoxAt H' b (d + 3) ∧ SB b H H') (fun h1 R hR => ?_) (fun h1 R hR => ?_) (fun v H1 ⟨n, hn, ev, hn1, B1, s1⟩ => ?_)
    · walk_at "rd"
      refine ⟨b, _, _, rfl, Bb, by omega, by omega, by omega, fun j Hc j0 j1 Bc sc => ?_⟩
      walk_at "rd"
      exact hR _ _ ⟨j.toNat, by omega, rfl, fun q => absurd h1 q, Bc.mono (by omega), sa.trans (sb.trans sc)⟩
    · walk_at "rd"
      exact hR _ _ ⟨0, by omega, rfl, fun _ => rfl, Bb.mono (by omega), sa.trans sb⟩
    subst ev
    walk_at "rd"
    refine iteM (fun x H' => ∃ n : Nat, n ≤ other.length ∧ x = .str (S (other.take n)) ∧ (ah ≠ 2 → n = 0) ∧ BoxAt H' b (d + 4) ∧ SB b H H') (fun h1 R hR => ?_) (fun h1 R hR => ?_) (fun v H2 ⟨m, hm, ev, hm1, B2, s2⟩ => ?_)
    · walk_at "rd"
      refine ⟨b, _, _, rfl, B1, by omega, by omega, by omega, fun j Hc j0 j1 Bc sc => ?_⟩
      walk_at "rd"
      exact hR _ _ ⟨j.toNat, by omega, rfl, fun q => absurd h1 q, Bc.mono (by omega), s1.trans sc⟩
    · walk_at "rd"
      exact hR _ _ ⟨0, by omega, rfl, fun _ => rfl, B1.mono (by omega), s1⟩
    subst ev
    walk_at "rd"
    have en : ((one.take n).length : Int).toNat = n := by rw [Int.toNat_natCast, List.length_take, Nat.min_eq_left hn]
    have em : ((other.take m).length : Int).toNat = m := by rw [Int.toNat_natCast, List.length_take, Nat.min_eq_left hm]
    rw [en, em]
    have lL : (one.drop n).length = one.length - n := List.length_drop
    have lR : (other.drop m).length = other.length - m := List.length_drop
    refine iteM (fun x H' => ∃ u : Nat, u ≤ one.length - n ∧ x = .int (u : Nat) ∧ (la ≠ 2 → u = one.length - n) ∧ BoxAt H' b (d + 5) ∧ SB b H H') (fun h1 R hR => ?_) (fun h1 R hR => ?_) (fun v H3 ⟨u, hu, ev, hu1, B3, s3⟩ => ?_)
    · walk_at "rd"
      refine ⟨b, _, _, rfl, B2, by omega, by omega, by omega, fun j Hc j0 j1 Bc sc => ?_⟩
      obtain ⟨j, rfl⟩ : ∃ n : Nat, j = n := ⟨j.toNat, by omega⟩
      exact hR _ _ ⟨j, by omega, rfl, fun q => absurd h1 q, Bc.mono (by omega), s2.trans sc⟩
    · walk_at "rd"
      exact hR _ _ ⟨_, by omega, rfl, fun _ => by omega, B2.mono (by omega), s2⟩
    subst ev
    walk_at "rd"
    refine iteM (fun x H' => ∃ u : Nat, u ≤ other.length - m ∧ x = .int (u : Nat) ∧ (la ≠ 1 → u = other.length - m) ∧ BoxAt H' b (d + 6) ∧ SB b H H') (fun h1 R hR => ?_) (fun h1 R hR => ?_) (fun v H4 ⟨w', hw, ev, hw1, B4, s4⟩ => ?_)
    · walk_at "rd"
      refine ⟨b, _, _, rfl, B3, by omega, by omega, by omega, fun j Hc j0 j1 Bc sc => ?_⟩
      obtain ⟨j, rfl⟩ : ∃ n : Nat, j = n := ⟨j.toNat, by omega⟩
      exact hR _ _ ⟨j, by omega, rfl, fun q => absurd h1 q, Bc.mono (by omega), s3.trans sc⟩
    · walk_at "rd"
      exact hR _ _ ⟨_, by omega, rfl, fun _ => by omega, B3.mono (by omega), s3⟩
    subst ev
    walk_at "rd"
    refine ⟨Nat.le_of_ble_eq_true rfl, fun p1 np1 => ?_⟩
    walk_at "rd"
    refine ⟨Nat.le_of_ble_eq_true rfl, fun p2 np2 => ?_⟩
    walk_at "rd"
    refine ⟨Nat.le_of_ble_eq_true rfl, fun p3 np3 => ?_⟩
    simp only [Int.toNat_natCast] at *
    have s5 := Same.upd_new (o := .lst [.ref p1, .str (S ((one.drop n).take u)), .str (S ((other.drop m).take w')), .ref p2]) (Same.upd_new (same_upd np1) np2) np3
    refine k p3 p1 p2 (one.take n) ((one.drop n).take u) ((one.drop n).drop u) (other.take m) ((other.drop m).take w') ((other.drop m).drop w') _ ?_ ?_ ?_ ?_ upd_same (by walk_at "hp") (by walk_at "hp") (B4.same s5) (s4.trans (SB.of s5))
    · rw [List.append_assoc, List.take_append_drop, List.take_append_drop]
    · rw [List.append_assoc, List.take_append_drop, List.take_append_drop]
    · by_cases c : ah = 1
      · right; rw [hm1 (by omega)]; rfl
      · left; rw [hn1 c]; rfl
    · by_cases c : la = 2
      · left; rw [hw1 (by omega)]; exact List.drop_of_length_le (by omega)
      · right; rw [hu1 c]; exact List.drop_of_length_le (by omega)
theorem ok_holds (F : Fun K "_law_holds" "_law_holds" s__law_holds f fd) (z : Z mg) (c_gap_price : Cal P w K mg base "gap_price" ["before", "left", "right", "behind"] 6 spGap) (k_gap_price : CalK P w K mg base "gap_price" ["before", "left", "right", "behind"] 6 spGap gapKs back4 back4) : FnOk P w K mg base CX0 7 f fd ["parts", "due"] spHolds := by
  refine F.ok sc__law_holds (fun vs H Q E h => ?_) (fun cdv A outer s H vs Q E hr h => ?_)
  · obtain ⟨pp, p, q, x, l, l2, y, r, r2, rfl, _⟩ := h; rfl
  · obtain ⟨pp, p, q, x, l, l2, y, r, r2, rfl, hpp, hp, hq, h1, h2, z1, z2, n1, n2, k⟩ := h
    simp only [azB_app, Bool.and_eq_true] at z1 z2
    obtain ⟨⟨zx, zl⟩, zl2⟩ := z1
    obtain ⟨⟨zy, zr⟩, zr2⟩ := z2
    simp only [List.length_append] at n1 n2
    refine ⟨_, (pss_cons (ps_set (i := 2) sc__law_holds.nd rfl (.inl rfl) (pe_cal c_gap_price hr (pa_cons (pe_ix ix_list (pv 0) pe_int (fun _ _ => rfl)) (pa_cons (pe_ix ix_list (pv 0) pe_int (fun _ _ => rfl)) (pa_cons (pe_ix ix_list (pv 0) pe_int (fun _ _ => rfl)) (pa_cons (pe_ix ix_list (pv 0) pe_int (fun _ _ => rfl)) pa_nil))))))
      (pss_cons (ps_if (PW.pt (pw_or (pt_not (pt_val (pe_callB call_isi (by rfl) z.isinstance (by decide +kernel) (pa_cons (pv 2) (pa_cons (pe_bltn (v := .ty "int") (by rfl) z.int (by decide +kernel) rfl) pa_nil))))) (pw_or (pt_val (pe_callB call_isi (by rfl) z.isinstance (by decide +kernel) (pa_cons (pv 2) (pa_cons (pe_bltn (v := .ty "bool") (by rfl) z.bool (by decide +kernel) rfl) pa_nil)))) (pw_or1 (pt_cmpR op_ne (pv 2) (pv 1) (nomark _))))))
        (pss_one (ps_ret pe_bl))
        pss_nil)
      (pss_one (ps_ret (pe_cmpR op_eq (pe_callB call_repI (by rfl) z.repr (by decide +kernel) (pa_cons (pe_calK k_gap_price hr (pk_cons (pe_revT (pe_ix ix_list (pv 0) pe_int (fun _ _ => rfl))) (pk_cons (pe_ix ix_list (pv 0) pe_int (fun _ _ => rfl)) (pk_cons (pe_ix ix_list (pv 0) pe_int (fun _ _ => rfl)) (pk_cons (pe_revT (pe_ix ix_list (pv 0) pe_int (fun _ _ => rfl))) pk_nil))))) pa_nil)) (pe_callB call_repI (by rfl) z.repr (by decide +kernel) (pa_cons (pv 1) pa_nil)) (nomark _)))))), ?_⟩
    walk_at "rd"
    refine ⟨p, q, l, r, x, y, r2, l2, rfl, hp, hq, h1, h2, zx, zy, zr2, zl2, zl, zr, by omega, by omega, by omega, by omega, by omega, by omega, fun H1 s1 => ?_⟩
    walk_at "rd"
    refine i_isi true (.base (.int _)) (kit_ty (by decide +kernel)) ?_
    walk_at "rd"
    refine i_isi false (.base (.int _)) (kit_ty (by decide +kernel)) ?_
    walk_at "rd"
    refine iteNB (fun q => absurd rfl q) (fun _ => ?_)
    have hpp1 := s1 _ _ hpp
    have hp1 := s1 _ _ hp
    have hq1 := s1 _ _ hq
    walk_at "rd"
    intro p1 np1
    walk_at "rd"
    intro p2 np2
    walk_at "rd"
    have s2 := Same.upd_new (o := .tup [V.str (S x), V.str (S y)].reverse) (same_upd (o := .tup [V.str (S r2), V.str (S l2)].reverse) np1) np2
    refine ⟨p2, p1, r, l, y, x, l2, r2, rfl, upd_same, upd_old np2 upd_same, h1.symm, h2.symm, zy, zx, zl2, zr2, zr, zl, by omega, by omega, by omega, by omega, by omega, by omega, fun H2 s3 => ?_⟩
    have hl := Lev.lev_le_max (x ++ l ++ l2) (y ++ r ++ r2)
    simp only [List.length_append] at hl
    have hb : ((lev (x ++ l ++ l2) (y ++ r ++ r2) : Nat) : Int).natAbs.log2 < 1920 := by
      rw [Int.natAbs_natCast]
      exact Nat.lt_of_le_of_lt (Nat.log2_le_self _) (by omega)
    rw [Lev.lev_symm (y ++ r ++ r2)]
    walk_at "rd"
    refine ⟨_, rfl, hb, ?_⟩
    walk_at "rd"
    refine ⟨_, rfl, hb, ?_⟩
    refine ⟨rfl, ?_⟩
    rw [decide_eq_true rfl]
    exact k _ (s1.trans (s2.trans s3))
end
end Sw
namespace Sw
open PySem PySem.Spec PyProof.Rows L2
local macro_rules | `(tactic| walk_at "hp") => `(tactic| first
  | (with_reducible assumption) | (with_reducible exact upd_same)
  | ((with_reducible refine' upd_old ?q1 ?q2); (case q1 => (with_reducible assumption)); (case q2 => walk_at "hp"))
  | ((with_reducible refine' Same.at ?q1 ?q2); (case q1 => (with_reducible assumption)); (case q2 => walk_at "hp"))
  | ((with_reducible refine' upd_skip ?q1 ?q2); (case q1 => walk_at "ne"); (case q2 => walk_at "hp"))
  | fail)
local macro_rules | `(tactic| walk_at "ne") => `(tactic| first
  | (with_reducible assumption) | (with_reducible exact Ne.symm (by assumption))
  | ((with_reducible refine' ne_of_none ?q1 ?q2); (case q2 => (with_reducible assumption)); (case q1 => walk_at "hp"))
  | fail)
local macro_rules | `(tactic| walk_at "ci") => `(tactic| first | assumption | (show (0 : Int) < _; first | decide | (with_reducible omega)) | exact ⟨by decide, by decide⟩ | exact .inl ⟨by decide, by decide⟩ | exact .inr ⟨by decide, by decide⟩)
local macro_rules | `(tactic| walk_at "ln") => `(tactic| first | (with_reducible assumption) | (with_reducible omega) | (simp only [List.length_append, List.length_take, List.length_drop, List.length_reverse, List.length_cons, List.length_nil]; with_reducible omega))
local macro_rules | `(tactic| walk_at "rd1") => `(tactic| first
  | (with_reducible refine i_seq ?_) | (with_reducible refine i_asg ?_) | (with_reducible refine i_ret ?_) | (with_reducible refine i_name ?_) | ((with_reducible refine' i_var ?q1 ?_); (case q1 => exact rfl)) | (with_reducible refine i_c ?_) | (with_reducible refine i_op ?_) | (with_reducible refine i_un ?_)
  | (with_reducible refine i_rI0 ?_) | (with_reducible refine i_cb ?_) | (with_reducible refine i_cons ?_) | (with_reducible refine i_nil ?_) | (with_reducible refine i_call ?_) | (with_reducible refine i_if ?_) | (with_reducible refine i_ifE ?_) | (with_reducible refine i_test ?_) | (with_reducible refine i_bl ?_)
  | (with_reducible refine i_and ?_) | (with_reducible refine i_or ?_) | (with_reducible refine i_not ?_) | (with_reducible refine i_lst ?_) | (with_reducible refine i_tup ?_) | (with_reducible refine i_next ?_) | (with_reducible refine i_drop ?_) | (with_reducible refine i_sub ?_)
  | (with_reducible refine i_bm ?_) | (with_reducible refine i_sl ?_) | (with_reducible refine i_part ?_) | (with_reducible refine i_nopart ?_) | (with_reducible refine i_exI ?_) | (with_reducible refine i_chain ?_) | ((with_reducible refine' i_aug ?q1 ?_); (case q1 => exact rfl)) | (with_reducible refine i_ip ?_)
  | (with_reducible refine i_par ?_) | (with_reducible refine i_pair ?_) | (with_reducible refine i_andV ?_) | (with_reducible refine i_orV ?_) | (with_reducible refine i_notV ?_) | (with_reducible refine i_m1 ?_) | (with_reducible refine i_str ?_)
  | (with_reducible refine iteF ?_) | (with_reducible refine iteT ?_) | (with_reducible refine iteNT ?_) | (with_reducible refine iteNF ?_) | (with_reducible refine i_tyS ?_) | (with_reducible refine i_tB ?_) | (with_reducible refine i_retN ?_) | (with_reducible refine i_par3 ?_) | (with_reducible refine i_trip ?_) | (with_reducible refine i_gCons ?_) | (with_reducible refine i_gNil ?_) | (with_reducible refine i_lstRg ?_) | (with_reducible refine i_rg1 ?_)
  | (with_reducible refine i_lc ?_) | (with_reducible refine i_for ?_) | (with_reducible refine i_iList ?_) | (with_reducible refine i_iTup ?_) | (with_reducible refine i_iStr ?_) | (with_reducible refine i_iRng1 ?_) | (with_reducible refine i_iEnS ?_)
  | ((with_reducible refine' i_ixTH ?q1 ?q2 ?_); (case q1 => walk_at "hp"); (case q2 => exact rfl))
  | ((with_reducible refine' i_ixLH ?q1 ?q2 ?_); (case q1 => walk_at "hp"); (case q2 => exact rfl))
  | ((with_reducible refine i_addS ?q1 ?_); (case q1 => walk_at "ln")) | ((with_reducible refine i_lenSS ?q1 ?_); (case q1 => walk_at "ln")) | ((with_reducible refine i_slFrom ?q1 ?q2 ?_); (case q1 => walk_at "ln"); (case q2 => walk_at "ln")) | ((with_reducible refine i_slTo ?q1 ?q2 ?_); (case q1 => walk_at "ln"); (case q2 => walk_at "ln"))
  | ((with_reducible refine' i_tyL ?q1 ?_); (case q1 => walk_at "hp"))
  | ((with_reducible refine' i_gTupH ?q1 ?q2 ?_); (case q1 => walk_at "hp"); (case q2 => exact rfl))
  | (with_reducible refine i_revT ?_) | (with_reducible refine i_kw ?_) | ((with_reducible refine' ⟨_, _, rfl, sqT_of ?q1, ?_⟩); (case q1 => walk_at "hp"))
  | (with_reducible refine i_revS ?_) | ((with_reducible refine i_revSS ?q1 ?_); (case q1 => walk_at "ln"))
  | (with_reducible refine i_startS ?_) | (with_reducible refine i_inSg ?_) | (with_reducible refine i_absN ?_) | (with_reducible refine i_min2 ?_) | (with_reducible refine i_max2 ?_) | (with_reducible refine i_min3 ?_) | (with_reducible refine i_intN ?_) | (with_reducible refine i_intNB ?_)
  | ((with_reducible refine' i_lenL ?q1 ?_); (case q1 => walk_at "hp")) | ((with_reducible refine' i_lenT ?q1 ?_); (case q1 => walk_at "hp"))
  | (with_reducible refine i_eqI ?_) | (with_reducible refine i_neI ?_) | (with_reducible refine i_eqS ?_) | (with_reducible refine i_neS ?_) | (with_reducible refine i_isNoI ?_) | (with_reducible refine i_isNoN ?_) | (with_reducible refine i_isNoR ?_)
  | ((with_reducible refine i_pow ?q1 ?q2 ?q3 ?_); (case q1 => decide); (case q2 => decide); (case q3 => (with_reducible omega)))
  | ((with_reducible refine i_rI ?q1 ?_); (case q1 => walk_at "ci"))
  | (with_reducible refine Or.inl ⟨_, rfl, ?_⟩) | (with_reducible refine Or.inr ⟨_, rfl, ?_⟩) | (with_reducible refine ⟨_, rfl, ?_⟩) | (with_reducible refine ⟨_, _, rfl, ?_⟩) | (with_reducible refine ⟨_, _, rfl, rfl, ?_⟩)
  | ((with_reducible refine' ⟨_, _, rfl, Or.inl (sqL_of ?q1), ?_⟩); (case q1 => walk_at "hp")) | ((with_reducible refine' ⟨_, _, rfl, Or.inr (sqT_of ?q1), ?_⟩); (case q1 => walk_at "hp")) | fail)
local macro_rules | `(tactic| walk_at "rd") => `(tactic| repeat' walk_at "rd1")


open Lev (lev)
/-- _law_long_holds(box), _law_wide_holds(box) -/
def spLong : Sp := fun vs H Q _ => ∃ (b : Addr) (d : Int), vs = [.ref b] ∧ BoxAt H b d ∧ d + 200 ≤ 1000000 ∧ ∀ H', BoxAt H' b (d + 200) → SB b H H' → Q (.bl true) H'
theorem lev_put (o : List Nat) (c n : Nat) : lev o (o.take n ++ [c] ++ o.drop n) ≤ 1 := by
  have e : o.take n ++ o.drop n = o := List.take_append_drop n o
  have h := Lev.lev_pre (o.take n) (o.drop n) ([c] ++ o.drop n)
  rw [e] at h
  rw [List.append_assoc, h]
  have h2 := Lev.lev_add c (o.drop n) (o.drop n)
  rw [Lev.lev_self] at h2
  exact h2
theorem len_flat (l : List Nat) (n : Nat) : (List.replicate n l).flatten.length = n * l.length := by
  induction n with
  | zero => simp
  | succ n ih => rw [List.replicate_succ, List.flatten_cons, List.length_append, ih, Nat.succ_mul, Nat.add_comm]
theorem azB_flat {l : List Nat} (n : Nat) (h : azB l = true) : azB (List.replicate n l).flatten = true := by
  induction n with
  | zero => rfl
  | succ n ih => rw [List.replicate_succ, List.flatten_cons, azB_app, h, ih]; rfl
section
variable {P : Program} {w : World} {K : PySem.W.Frag} {mg : Str → Option Value} {base : Heap} {f : Addr} {fd : FuncData}
theorem ok_long (F : Fun K "_law_long_holds" "_law_long_holds" s__law_long_holds f fd) (z : Z mg) (c__law_take : Cal P w K mg base "_law_take" ["box", "many"] 1 spTake) (c__law_text : Cal P w K mg base "_law_text" ["box", "letters", "most"] 2 spText)
    (c__law_cut : Cal P w K mg base "_law_cut" ["box", "one", "other"] 2 spCut) (c__law_holds : Cal P w K mg base "_law_holds" ["parts", "due"] 7 spHolds) : FnOk P w K mg base CX0 8 f fd ["box"] spLong := by
  refine F.ok sc__law_long_holds (fun vs H Q E h => ?_) (fun cdv A outer s H vs Q E hr h => ?_)
  · obtain ⟨b, d, rfl, _⟩ := h; rfl
  · obtain ⟨b, d, rfl, B, hd, k⟩ := h
    refine ⟨_, (pss_cons (ps_set (i := 1) sc__law_long_holds.nd rfl (.inl rfl) (pe_strS (l := [97, 98, 99, 100, 101, 102, 103, 104, 105, 106, 107, 108, 109, 110, 111, 112, 113, 114, 115, 116, 117, 118, 119, 120, 121, 122]) (by decide +kernel)))
      (pss_cons (ps_par (i := 2) (j := 3) rfl sc__law_long_holds.nd rfl rfl (by decide) rfl rfl (pa_cons (pe_cal c__law_take hr (pa_cons (pv 0) (pa_cons pe_int pa_nil))) (pa_cons (pe_op op_addS (pe_cal c__law_text hr (pa_cons (pv 0) (pa_cons (pv 1) (pa_cons pe_int pa_nil)))) (pe_ix ix_S (pv 1) (pe_cal c__law_take hr (pa_cons (pv 0) (pa_cons pe_int pa_nil))) (fun _ _ => rfl))) pa_nil)) (by rfl))
      (pss_cons (ps_set (i := 4) sc__law_long_holds.nd rfl (.inl rfl) (pe_slice sl_S (pe_op op_mulS (pv 3) pe_int) po_none (po_some (pe_op op_sub (pe_op op_sub pe_int (pv 2)) (pe_ix ix_list (pe_lst (pa_cons pe_int (pa_cons (pe_cal c__law_take hr (pa_cons (pv 0) (pa_cons pe_int pa_nil))) pa_nil))) (pe_cal c__law_take hr (pa_cons (pv 0) (pa_cons pe_int pa_nil))) (fun _ _ => rfl))))))
      (pss_cons (ps_set (i := 5) sc__law_long_holds.nd rfl (.inl rfl) (pv 4))
      (pss_cons (ps_for PassesOwn.never rfl (pi_range1 (by rfl) z.range (pa_cons (pv 2) pa_nil)) (pg_name (i := 6) sc__law_long_holds.nd rfl (.inl rfl))
        (pss_cons (ps_set (i := 7) sc__law_long_holds.nd rfl (.inl rfl) (pe_cal c__law_take hr (pa_cons (pv 0) (pa_cons (pe_op op_add (pe_callB call_lenS (by rfl) z.len PySem.boot_len (pa_cons (pv 5) pa_nil)) pe_int) pa_nil))))
        (pss_one (ps_set (i := 5) sc__law_long_holds.nd rfl (.inl rfl) (pe_op op_addS (pe_op op_addS (pe_slice sl_S (pv 5) po_none (po_some (pv 7))) (pe_ix ix_S (pv 1) (pe_cal c__law_take hr (pa_cons (pv 0) (pa_cons pe_int pa_nil))) (fun _ _ => rfl))) (pe_slice sl_S (pv 5) (po_some (pv 7)) po_none))))))
      (pss_cons (ps_set (i := 8) sc__law_long_holds.nd rfl (.inl rfl) (pe_ix ix_list (pe_lst (pa_cons (pe_lst (pa_cons (pv 4) (pa_cons (pv 5) pa_nil))) (pa_cons (pe_lst (pa_cons (pv 5) (pa_cons (pv 4) pa_nil))) pa_nil))) (pe_cal c__law_take hr (pa_cons (pv 0) (pa_cons pe_int pa_nil))) (fun _ _ => rfl)))
      (pss_one (ps_ret (pe_cal c__law_holds hr (pa_cons (pe_cal c__law_cut hr (pa_cons (pv 0) (pa_cons (pe_ix ix_list (pv 8) pe_int (fun _ _ => rfl)) (pa_cons (pe_ix ix_list (pv 8) pe_int (fun _ _ => rfl)) pa_nil)))) (pa_cons (pv 2) pa_nil))))))))))), ?_⟩
    walk_at "rd"
    refine ⟨b, 6, d, rfl, B, by omega, by omega, by omega, fun many Ha a0 a1 Ba sa => ?_⟩
    obtain ⟨n, rfl⟩ : ∃ n : Nat, many = n := ⟨many.toNat, by omega⟩
    walk_at "rd"
    refine ⟨b, AZ, 3, _, rfl, Ba, by omega, by decide, by decide, by omega, fun x Hb x1 x2 Bb sb => ?_⟩
    have zx := azB_of azAZ x2
    walk_at "rd"
    refine ⟨b, 26, _, rfl, Bb, by omega, by omega, by omega, fun j Hc j0 j1 Bc sc => ?_⟩
    obtain ⟨c1, ec1, zc1⟩ := atAZ j0 j1
    refine i_ixSI j0 ec1 (by decide) ?_
    walk_at "rd"
    have zw : azB (x ++ [c1]) = true := by rw [azB_app, zx, zc1]; rfl
    have lw1 : 1 ≤ (x ++ [c1]).length := by simp
    have lw2 : (x ++ [c1]).length ≤ 4 := by simp only [List.length_append, List.length_cons, List.length_nil]; omega
    generalize x ++ [c1] = wd at *
    refine i_mulS (n := 400) (by omega) (by omega) ?_
    walk_at "rd"
    have lf := len_flat wd 400
    have zf := azB_flat 400 zw
    generalize (List.replicate 400 wd).flatten = fl at *
    refine ⟨b, 301, _, rfl, Bc, by omega, by omega, by omega, fun m Hd m0 m1 Bd sd => ?_⟩
    walk_at "rd"
    refine ⟨Nat.le_of_ble_eq_true rfl, fun p1 np1 => ?_⟩
    walk_at "rd"
    have s1 := same_upd (o := .lst [V.int 0, V.int m]) np1
    refine ⟨b, 2, _, rfl, Bd.same s1, by omega, by omega, by omega, fun j Hd j0 j1 Be se => ?_⟩
    obtain ⟨v, ev, v0, v1⟩ : ∃ v : Int, ([.int 0, .int m] : List V)[j.toNat]? = some (.int v) ∧ 0 ≤ v ∧ v ≤ 300 := by
      have hj : j = 0 ∨ j = 1 := by omega
      rcases hj with rfl | rfl
      · exact ⟨_, rfl, by omega, by omega⟩
      · exact ⟨_, rfl, by omega, by omega⟩
    refine i_ixLv (se _ _ (Bd.ne_new np1) upd_same) j0 ev ?_
    walk_at "rd"
    have sO : SB b H Hd := sa.trans (sb.trans (sc.trans (sd.trans ((SB.of s1).trans se))))
    generalize eo : fl.take (400 - (n : Int) - v).toNat = one
    have lone : one.length ≤ 400 := by rw [← eo, List.length_take]; omega
    have zone : azB one = true := by rw [← eo]; exact azB_take zf _
    refine i_rng (by omega) (by omega) ?_
    rw [Int.toNat_natCast]
    refine go_for walk_rangeZ (fun i σ H2 => ∃ (o : List Nat) (u6 u7 : Option V), σ = [some (.ref b), some (.str (S AZ)), some (.int n), some (.str (S wd)), some (.str (S one)), some (.str (S o)), u6, u7, none] ∧ azB o = true ∧ o.length = one.length + i ∧ lev one o ≤ i ∧ BoxAt H2 b (d + 20 + 2 * i) ∧ SB b H H2)
      ⟨one, none, none, rfl, zone, rfl, by rw [Lev.lev_self]; omega, Be.mono (by omega), sO⟩ (fun _ _ _ _ _ => trivial) (fun i v σ H2 H3 hi p y => ?_) (fun σ H2 p => ?_)
    · obtain ⟨o, u6, u7, rfl, zo, lo, le, B2, s2⟩ := p
      obtain ⟨rfl, rfl⟩ := y
      walk_at "rd"
      refine ⟨b, (o.length : Int) + 1, _, rfl, B2, by omega, by omega, by omega, fun at' Hf t0 t1 Bf sf => ?_⟩
      walk_at "rd"
      refine ⟨b, 26, _, rfl, Bf, by omega, by omega, by omega, fun j Hg j0 j1 Bg sg => ?_⟩
      obtain ⟨c, ec, zc⟩ := atAZ j0 j1
      refine i_ixSI j0 ec (by decide) ?_
      walk_at "rd"
      have h1 := Lev.lev_tri one o (o.take at'.toNat ++ [c] ++ o.drop at'.toNat)
      have h2 := lev_put o c at'.toNat
      refine ⟨_, _, _, rfl, ?_, ?_, by omega, Bg.mono (by omega), s2.trans (sf.trans sg)⟩
      · simp only [azB_app, azB_take zo, azB_drop zo, zc, Bool.and_self]
      · simp only [List.length_append, List.length_take, List.length_drop, List.length_cons, List.length_nil]; omega
    · obtain ⟨o, u6, u7, rfl, zo, lo, le, B2, s2⟩ := p
      have hlv : lev one o = n := by
        have := (Lev.lev_lens one o).2
        omega
      walk_at "rd"
      refine ⟨Nat.le_of_ble_eq_true rfl, fun pa npa => ?_⟩
      walk_at "rd"
      refine ⟨Nat.le_of_ble_eq_true rfl, fun pb npb => ?_⟩
      walk_at "rd"
      refine ⟨Nat.le_of_ble_eq_true rfl, fun pc npc => ?_⟩
      walk_at "rd"
      have s3 := Same.upd_new (o := .lst [V.ref pa, V.ref pb]) (Same.upd_new (o := .lst [V.str (S o), V.str (S one)]) (same_upd (o := .lst [V.str (S one), V.str (S o)]) npa) npb) npc
      have ba : pa ≠ b := B2.ne_new npa
      have bb : pb ≠ b := (B2.same (same_upd npa)).ne_new npb
      have bc : pc ≠ b := (B2.same (Same.upd_new (same_upd npa) npb)).ne_new npc
      refine ⟨b, 2, _, rfl, B2.same s3, by omega, by omega, by omega, fun j Hf j0 j1 Bf sf => ?_⟩
      obtain ⟨ps, X, Y, eps, eP, zX, zY, lX, lY, hXY⟩ : ∃ (ps : Addr) (X Y : List Nat), ([.ref pa, .ref pb] : List V)[j.toNat]? = some (.ref ps) ∧ Hf ps = some (.lst [.str (S X), .str (S Y)]) ∧ azB X = true ∧ azB Y = true ∧ X.length ≤ 410 ∧ Y.length ≤ 410 ∧ lev X Y = n := by
        have hj : j = 0 ∨ j = 1 := by omega
        rcases hj with rfl | rfl
        · exact ⟨pa, one, o, rfl, sf _ _ ba (by walk_at "hp"), zone, zo, by omega, by omega, hlv⟩
        · exact ⟨pb, o, one, rfl, sf _ _ bb (by walk_at "hp"), zo, zone, by omega, by omega, by rw [Lev.lev_symm]; exact hlv⟩
      refine i_ixLv (sf _ _ bc upd_same) j0 eps ?_
      walk_at "rd"
      refine ⟨b, X, Y, _, rfl, Bf, by omega, by omega, by omega, fun pp p q x l l2 y r r2 Hg e1 e2 e3 e4 e5 e6 e7 Bg sg => ?_⟩
      walk_at "rd"
      rw [← hXY]
      subst e1 e2
      refine ⟨pp, p, q, x, l, l2, y, r, r2, rfl, e5, e6, e7, e3, e4, zX, zY, by omega, by omega, fun Hh sh => ?_⟩
      exact k _ ((Bg.same sh).mono (by omega)) (s2.trans ((SB.of s3).trans (sf.trans (sg.trans (SB.of sh)))))
end
end Sw
namespace Sw
open PySem PySem.Spec PyProof.Rows L2
local macro_rules | `(tactic| walk_at "hp") => `(tactic| first
  | (with_reducible assumption) | (with_reducible exact upd_same)
  | ((with_reducible refine' upd_old ?q1 ?q2); (case q1 => (with_reducible assumption)); (case q2 => walk_at "hp"))
  | ((with_reducible refine' Same.at ?q1 ?q2); (case q1 => (with_reducible assumption)); (case q2 => walk_at "hp"))
  | ((with_reducible refine' upd_skip ?q1 ?q2); (case q1 => walk_at "ne"); (case q2 => walk_at "hp"))
  | fail)
local macro_rules | `(tactic| walk_at "ne") => `(tactic| first
  | (with_reducible assumption) | (with_reducible exact Ne.symm (by assumption))
  | ((with_reducible refine' ne_of_none ?q1 ?q2); (case q2 => (with_reducible assumption)); (case q1 => walk_at "hp"))
  | fail)
local macro_rules | `(tactic| walk_at "ci") => `(tactic| first | assumption | (show (0 : Int) < _; first | decide | (with_reducible omega)) | exact ⟨by decide, by decide⟩ | exact .inl ⟨by decide, by decide⟩ | exact .inr ⟨by decide, by decide⟩)
local macro_rules | `(tactic| walk_at "ln") => `(tactic| first | (with_reducible assumption) | (with_reducible omega) | (simp only [List.length_append, List.length_take, List.length_drop, List.length_reverse, List.length_cons, List.length_nil]; with_reducible omega))
local macro_rules | `(tactic| walk_at "rd1") => `(tactic| first
  | (with_reducible refine i_seq ?_) | (with_reducible refine i_asg ?_) | (with_reducible refine i_ret ?_) | (with_reducible refine i_name ?_) | ((with_reducible refine' i_var ?q1 ?_); (case q1 => exact rfl)) | (with_reducible refine i_c ?_) | (with_reducible refine i_op ?_) | (with_reducible refine i_un ?_)
  | (with_reducible refine i_rI0 ?_) | (with_reducible refine i_cb ?_) | (with_reducible refine i_cons ?_) | (with_reducible refine i_nil ?_) | (with_reducible refine i_call ?_) | (with_reducible refine i_if ?_) | (with_reducible refine i_ifE ?_) | (with_reducible refine i_test ?_) | (with_reducible refine i_bl ?_)
  | (with_reducible refine i_and ?_) | (with_reducible refine i_or ?_) | (with_reducible refine i_not ?_) | (with_reducible refine i_lst ?_) | (with_reducible refine i_tup ?_) | (with_reducible refine i_next ?_) | (with_reducible refine i_drop ?_) | (with_reducible refine i_sub ?_)
  | (with_reducible refine i_bm ?_) | (with_reducible refine i_sl ?_) | (with_reducible refine i_part ?_) | (with_reducible refine i_nopart ?_) | (with_reducible refine i_exI ?_) | (with_reducible refine i_chain ?_) | ((with_reducible refine' i_aug ?q1 ?_); (case q1 => exact rfl)) | (with_reducible refine i_ip ?_)
  | (with_reducible refine i_par ?_) | (with_reducible refine i_pair ?_) | (with_reducible refine i_andV ?_) | (with_reducible refine i_orV ?_) | (with_reducible refine i_notV ?_) | (with_reducible refine i_m1 ?_) | (with_reducible refine i_str ?_)
  | (with_reducible refine iteF ?_) | (with_reducible refine iteT ?_) | (with_reducible refine iteNT ?_) | (with_reducible refine iteNF ?_) | (with_reducible refine i_tyS ?_) | (with_reducible refine i_tB ?_) | (with_reducible refine i_retN ?_) | (with_reducible refine i_par3 ?_) | (with_reducible refine i_trip ?_) | (with_reducible refine i_gCons ?_) | (with_reducible refine i_gNil ?_) | (with_reducible refine i_lstRg ?_) | (with_reducible refine i_rg1 ?_)
  | (with_reducible refine i_lc ?_) | (with_reducible refine i_for ?_) | (with_reducible refine i_iList ?_) | (with_reducible refine i_iTup ?_) | (with_reducible refine i_iStr ?_) | (with_reducible refine i_iRng1 ?_) | (with_reducible refine i_iEnS ?_)
  | ((with_reducible refine' i_ixTH ?q1 ?q2 ?_); (case q1 => walk_at "hp"); (case q2 => exact rfl))
  | ((with_reducible refine' i_ixLH ?q1 ?q2 ?_); (case q1 => walk_at "hp"); (case q2 => exact rfl))
  | ((with_reducible refine i_addS ?q1 ?_); (case q1 => walk_at "ln")) | ((with_reducible refine i_lenSS ?q1 ?_); (case q1 => walk_at "ln")) | ((with_reducible refine i_slFrom ?q1 ?q2 ?_); (case q1 => walk_at "ln"); (case q2 => walk_at "ln")) | ((with_reducible refine i_slTo ?q1 ?q2 ?_); (case q1 => walk_at "ln"); (case q2 => walk_at "ln"))
  | ((with_reducible refine' i_tyL ?q1 ?_); (case q1 => walk_at "hp"))
  | ((with_reducible refine' i_gTupH ?q1 ?q2 ?_); (case q1 => walk_at "hp"); (case q2 => exact rfl))
  | (with_reducible refine i_revT ?_) | (with_reducible refine i_kw ?_) | ((with_reducible refine' ⟨_, _, rfl, sqT_of ?q1, ?_⟩); (case q1 => walk_at "hp"))
  | (with_reducible refine i_revS ?_) | ((with_reducible refine i_revSS ?q1 ?_); (case q1 => walk_at "ln"))
  | (with_reducible refine i_startS ?_) | (with_reducible refine i_inSg ?_) | (with_reducible refine i_absN ?_) | (with_reducible refine i_min2 ?_) | (with_reducible refine i_max2 ?_) | (with_reducible refine i_min3 ?_) | (with_reducible refine i_intN ?_) | (with_reducible refine i_intNB ?_)
  | ((with_reducible refine' i_lenL ?q1 ?_); (case q1 => walk_at "hp")) | ((with_reducible refine' i_lenT ?q1 ?_); (case q1 => walk_at "hp"))
  | (with_reducible refine i_eqI ?_) | (with_reducible refine i_neI ?_) | (with_reducible refine i_eqS ?_) | (with_reducible refine i_neS ?_) | (with_reducible refine i_isNoI ?_) | (with_reducible refine i_isNoN ?_) | (with_reducible refine i_isNoR ?_)
  | ((with_reducible refine i_pow ?q1 ?q2 ?q3 ?_); (case q1 => decide); (case q2 => decide); (case q3 => (with_reducible omega)))
  | ((with_reducible refine i_rI ?q1 ?_); (case q1 => walk_at "ci"))
  | (with_reducible refine Or.inl ⟨_, rfl, ?_⟩) | (with_reducible refine Or.inr ⟨_, rfl, ?_⟩) | (with_reducible refine ⟨_, rfl, ?_⟩) | (with_reducible refine ⟨_, _, rfl, ?_⟩) | (with_reducible refine ⟨_, _, rfl, rfl, ?_⟩)
  | ((with_reducible refine' ⟨_, _, rfl, Or.inl (sqL_of ?q1), ?_⟩); (case q1 => walk_at "hp")) | ((with_reducible refine' ⟨_, _, rfl, Or.inr (sqT_of ?q1), ?_⟩); (case q1 => walk_at "hp")) | fail)
local macro_rules | `(tactic| walk_at "rd") => `(tactic| repeat' walk_at "rd1")


open Lev (lev)
/-- law(script) -/
def spLaw (K : PySem.W.Frag) : Sp := fun vs H Q _ => ∃ (a : Addr) (ns : List Int), vs = [.ref a] ∧ SqL K H a (ns.map V.int) ∧ ∀ H', Same H H' → Q (.bl true) H'
section
variable {P : Program} {w : World} {K : PySem.W.Frag} {mg : Str → Option Value} {base : Heap} {f : Addr} {fd : FuncData}
theorem ok_wide (F : Fun K "_law_wide_holds" "_law_wide_holds" s__law_wide_holds f fd) (z : Z mg) (c__law_take : Cal P w K mg base "_law_take" ["box", "many"] 1 spTake) (c__law_distance : Cal P w K mg base "_law_distance" ["one", "other"] 1 spDist)
    (c__law_cut : Cal P w K mg base "_law_cut" ["box", "one", "other"] 2 spCut) (c__law_holds : Cal P w K mg base "_law_holds" ["parts", "due"] 7 spHolds) : FnOk P w K mg base CX0 8 f fd ["box"] spLong := by
  refine F.ok sc__law_wide_holds (fun vs H Q E h => ?_) (fun cdv A outer s H vs Q E hr h => ?_)
  · obtain ⟨b, d, rfl, _⟩ := h; rfl
  · obtain ⟨b, d, rfl, B, hd, k⟩ := h
    refine ⟨_, (pss_cons (ps_asg (pe_tup (pa_cons (pe_strS (l := [97, 98, 99, 100, 101, 102, 103, 104, 105, 106, 107, 108, 109, 110, 111, 112, 113, 114, 115, 116, 117, 118, 119, 120, 121, 122]) (by decide +kernel)) (pa_cons (pe_op op_add pe_int (pe_cal c__law_take hr (pa_cons (pv 0) (pa_cons pe_int pa_nil)))) pa_nil))) (pg_tup rfl (pgs_cons (pg_name (i := 1) sc__law_wide_holds.nd rfl (.inr rfl)) (pgs_cons (pg_name (i := 2) sc__law_wide_holds.nd rfl (.inl rfl)) pgs_nil))))
      (pss_cons (ps_set (i := 3) sc__law_wide_holds.nd rfl (.inr rfl) (pe_lc (own := [("turn", 4)]) (g := gName 4) (tt := tYes) rfl sc__law_wide_holds.nd (pi_range1 (by rfl) z.range (pa_cons pe_int pa_nil)) (blkOk_by (own := [("turn", 4)]) (N := n__law_wide_holds) (sc := defScope s__law_wide_holds) (by decide +kernel)) (fun _ _ _ _ _ => (pg_name (i := 4) sc__law_wide_holds.nd rfl (.inl rfl))) (fun _ _ _ _ _ => pts_nil) (fun _ _ _ _ _ => (pe_ix ix_S (pv 1) (pe_cal c__law_take hr (pa_cons (pv 0) (pa_cons pe_int pa_nil))) (fun _ _ => rfl)))))
      (pss_cons (ps_par (i := 5) (j := 6) rfl sc__law_wide_holds.nd rfl rfl (by decide) rfl rfl (pa_cons (pe_m1 PySem.F.slot_str_join PySem.F.type_str_join mt_joinS (pe_strS (l := []) (by decide +kernel)) (pe_lc (own := [("turn", 4)]) (g := gName 4) (tt := tYes) rfl sc__law_wide_holds.nd (pi_range1 (by rfl) z.range (pa_cons (pv 2) pa_nil)) (blkOk_by (own := [("turn", 4)]) (N := n__law_wide_holds) (sc := defScope s__law_wide_holds) (by decide +kernel)) (fun _ _ _ _ _ => (pg_name (i := 4) sc__law_wide_holds.nd rfl (.inl rfl))) (fun _ _ _ _ _ => pts_nil) (fun _ _ _ _ _ => (pe_ix (r := rIxL K) ix_list (pv 3) (pe_cal c__law_take hr (pa_cons (pv 0) (pa_cons pe_int pa_nil))) (fun _ _ => rfl))))) (pa_cons (pe_cal c__law_take hr (pa_cons (pv 0) (pa_cons pe_int pa_nil))) pa_nil)) (by rfl))
      (pss_cons (ps_set (i := 7) sc__law_wide_holds.nd rfl (.inl rfl) (pe_op op_addS (pe_slice sl_S (pv 5) (po_some (pv 6)) po_none) (pe_slice sl_S (pv 5) po_none (po_some (pv 6)))))
      (pss_cons (ps_for PassesOwn.never rfl (pi_range1 (by rfl) z.range (pa_cons (pe_cal c__law_take hr (pa_cons (pv 0) (pa_cons pe_int pa_nil))) pa_nil)) (pg_name (i := 4) sc__law_wide_holds.nd rfl (.inl rfl))
        (pss_cons (ps_set (i := 8) sc__law_wide_holds.nd rfl (.inl rfl) (pe_cal c__law_take hr (pa_cons (pv 0) (pa_cons (pv 2) pa_nil))))
        (pss_one (ps_set (i := 7) sc__law_wide_holds.nd rfl (.inl rfl) (pe_op op_addS (pe_op op_addS (pe_slice sl_S (pv 7) po_none (po_some (pv 8))) (pe_ix ix_list (pv 3) (pe_cal c__law_take hr (pa_cons (pv 0) (pa_cons pe_int pa_nil))) (fun _ _ => rfl))) (pe_slice sl_S (pv 7) (po_some (pe_op op_add (pv 8) pe_int)) po_none))))))
      (pss_one (ps_ret (pe_cal c__law_holds hr (pa_cons (pe_cal c__law_cut hr (pa_cons (pv 0) (pa_cons (pv 5) (pa_cons (pv 7) pa_nil)))) (pa_cons (pe_cal c__law_distance hr (pa_cons (pv 5) (pa_cons (pv 7) pa_nil))) pa_nil)))))))))), ?_⟩
    walk_at "rd"
    refine ⟨b, 66, d, rfl, B, by omega, by omega, by omega, fun si Ha a0 a1 Ba sa => ?_⟩
    obtain ⟨si, rfl⟩ : ∃ n : Nat, si = n := ⟨si.toNat, by omega⟩
    walk_at "rd"
    refine ⟨Nat.le_of_ble_eq_true rfl, fun p1 np1 => ?_⟩
    walk_at "rd"
    have s1 := same_upd (o := .tup [V.str (S AZ), V.int (25 + si)]) np1
    have B1 := Ba.same s1
    have sO := sa.trans (SB.of s1)
    generalize upd Ha p1 (.tup [V.str (S AZ), V.int (25 + si)]) = H1 at *
    refine i_rng (by omega) (by omega) ?_
    refine go_lc walk_rangeZ (fun p i H2 => ∃ ws : List Nat, ws.length = i ∧ azB ws = true ∧ H2 p = some (.lst (ws.map fun c => .str (S [c]))) ∧ BoxAt H2 b (d + 1 + i) ∧ SB b H1 H2)
      (fun p np => ⟨[], rfl, rfl, upd_same, (BoxAt.same B1 (same_upd np)).mono (by omega), SB.of (same_upd np)⟩) (fun _ _ _ _ _ => trivial) (fun p np i v H2 H3 hi q y => ?_) (fun p H2 np q => ?_)
    · obtain ⟨ws, lw, hw, ew, B2, s2⟩ := q
      obtain ⟨rfl, rfl⟩ := y
      walk_at "rd"
      refine ⟨rfl, i_yes (iteT ?_)⟩
      walk_at "rd"
      refine ⟨b, 26, _, rfl, B2, by omega, by omega, by omega, fun j H4 j0 j1 B4 s4 => ?_⟩
      obtain ⟨c, ec, zc⟩ := atAZ j0 j1
      refine i_ixSI j0 ec (by decide) ?_
      have npb : p ≠ b := B1.ne_new np
      refine ⟨_, s4 _ _ npb ew, by rw [List.length_map]; exact Nat.lt_of_le_of_lt (show ws.length ≤ 1000 by omega) (by decide), ws ++ [c], by rw [List.length_append, lw]; rfl, by rw [azB_app, hw, zc]; rfl, ?_, ?_, ?_⟩
      · rw [upd_same, List.map_append]; rfl
      · obtain ⟨n', g', c', e', hb', hr⟩ := B4.ex
        exact ⟨n', g', c', e', by rw [upd_ne (Ne.symm npb)]; exact hb', hr.1, hr.2.1, hr.2.2.1, hr.2.2.2.1, by omega⟩
      · refine fun a o na ha => ?_
        by_cases e : a = p
        · rw [e] at ha; rw [np] at ha; cases ha
        · rw [upd_ne e]; exact (s2.trans s4) a o na ha
    obtain ⟨ls, lls, zls, els, B2, s2⟩ := q
    have npb : p ≠ b := B1.ne_new np
    have sO2 := sO.trans s2
    have at3 : ∀ {j : Int}, 0 ≤ j → j < 3 → ∃ c, (ls.map fun c => V.str (S [c]))[j.toNat]? = some (.str (S [c])) ∧ azB [c] = true := by
      intro j j0 j1
      have hj : j.toNat < ls.length := by rw [lls]; have : (3 : Int).toNat = 3 := rfl; omega
      exact ⟨ls[j.toNat], by rw [List.getElem?_map, List.getElem?_eq_getElem hj]; rfl, azB_get zls (List.getElem?_eq_getElem hj)⟩
    walk_at "rd"
    refine i_rng (by omega) (by omega) ?_
    refine go_lc walk_rangeZ (fun p' i H3 => ∃ ws : List Nat, ws.length = i ∧ azB ws = true ∧ H3 p' = some (.lst (ws.map fun c => .str (S [c]))) ∧ BoxAt H3 b (d + 4 + i) ∧ SB b H2 H3)
      (fun p np => ⟨[], rfl, rfl, upd_same, (BoxAt.same B2 (same_upd np)).mono (by omega), SB.of (same_upd np)⟩) (fun _ _ _ _ _ => trivial) (fun p' np' i v H3 H3' hi q y => ?_) (fun p' H3 np' q => ?_)
    · obtain ⟨ws, lw, hw, ew, B3, s3⟩ := q
      obtain ⟨rfl, rfl⟩ := y
      walk_at "rd"
      refine ⟨rfl, i_yes (iteT ?_)⟩
      walk_at "rd"
      refine ⟨b, 3, _, rfl, B3, by omega, by omega, by omega, fun j H4 j0 j1 B4 s4 => ?_⟩
      obtain ⟨c, ec, zc⟩ := at3 j0 j1
      refine i_ixLv (s4 _ _ npb (s3 _ _ npb els)) j0 ec ?_
      have npb' : p' ≠ b := B2.ne_new np'
      refine ⟨_, s4 _ _ npb' ew, by rw [List.length_map]; exact Nat.lt_of_le_of_lt (show ws.length ≤ 1000 by omega) (by decide), ws ++ [c], by rw [List.length_append, lw]; rfl, by rw [azB_app, hw, zc]; rfl, ?_, ?_, ?_⟩
      · rw [upd_same, List.map_append]; rfl
      · obtain ⟨n', g', c', e', hb', hr⟩ := B4.ex
        exact ⟨n', g', c', e', by rw [upd_ne (Ne.symm npb')]; exact hb', hr.1, hr.2.1, hr.2.2.1, hr.2.2.2.1, by omega⟩
      · refine fun a o na ha => ?_
        by_cases e : a = p'
        · rw [e] at ha; rw [np'] at ha; cases ha
        · rw [upd_ne e]; exact (s3.trans s4) a o na ha
    obtain ⟨one, lone, zone, eone, B3, s3⟩ := q
    have els3 := s3 _ _ npb els
    refine i_joinS (ws := one.map fun c => [c]) (by rw [List.map_map]; exact eone) (by rw [flat_one]; omega) ?_
    rw [flat_one]
    have sO3 := sO2.trans s3
    walk_at "rd"
    refine ⟨b, 4, _, rfl, B3, by omega, by omega, by omega, fun sp Hb b0 b1 Bb sb => ?_⟩
    walk_at "rd"
    refine ⟨b, 5, _, rfl, Bb, by omega, by omega, by omega, fun tu Hc c0 c1 Bc sc => ?_⟩
    have els4 := sc _ _ npb (sb _ _ npb els3)
    walk_at "rd"
    refine i_rng c0 (by omega) ?_
    refine go_for walk_rangeZ (fun i σ H2 => ∃ (o : List Nat) (u4 u8 : Option V), σ = [some (.ref b), some (.str (S AZ)), some (.int (25 + si)), some (.ref p), u4, some (.str (S one)), some (.int sp), some (.str (S o)), u8] ∧ azB o = true ∧ o.length = one.length ∧ BoxAt H2 b (d + 130 + 2 * i) ∧ SB b H H2 ∧ H2 p = some (.lst (ls.map fun c => V.str (S [c]))))
      ⟨_, _, _, rfl, ?_, ?_, Bc.mono (by omega), sO3.trans (sb.trans sc), els4⟩ (fun _ _ _ _ _ => trivial) (fun i v σ H2 H3 hi p y => ?_) (fun σ H2 p => ?_)
    · simp only [azB_app, azB_take zone, azB_drop zone, Bool.and_self]
    · simp only [List.length_append, List.length_take, List.length_drop]; omega
    · obtain ⟨o, u4, u8, rfl, zo, lo, B4, s4, els5⟩ := p
      obtain ⟨rfl, rfl⟩ := y
      walk_at "rd"
      refine ⟨b, _, _, rfl, B4, by omega, by omega, by omega, fun at' Hf t0 t1 Bf sf => ?_⟩
      walk_at "rd"
      refine ⟨b, 3, _, rfl, Bf, by omega, by omega, by omega, fun j Hg j0 j1 Bg sg => ?_⟩
      obtain ⟨c, ec, zc⟩ := at3 j0 j1
      have els6 := sg _ _ npb (sf _ _ npb els5)
      refine i_ixLv els6 j0 ec ?_
      walk_at "rd"
      refine ⟨_, _, _, rfl, ?_, ?_, Bg.mono (by omega), s4.trans (sf.trans sg), els6⟩
      · simp only [azB_app, azB_take zo, azB_drop zo, zc, Bool.and_self]
      · simp only [List.length_append, List.length_take, List.length_drop, List.length_cons, List.length_nil]; omega
    · obtain ⟨o, u4, u8, rfl, zo, lo, B4, s4, els5⟩ := p
      walk_at "rd"
      refine ⟨b, one, o, _, rfl, B4, by omega, by omega, by omega, fun pp p q x l l2 y r r2 Hg e1 e2 e3 e4 e5 e6 e7 Bg sg => ?_⟩
      walk_at "rd"
      refine ⟨one, o, rfl, by omega, by omega, fun Hh sh => ?_⟩
      walk_at "rd"
      subst e1 e2
      refine ⟨pp, p, q, x, l, l2, y, r, r2, rfl, sh _ _ e5, sh _ _ e6, sh _ _ e7, e3, e4, zone, zo, by omega, by omega, fun Hi si => ?_⟩
      exact k _ ((Bg.same (sh.trans si)).mono (by omega)) (s4.trans (sg.trans (SB.of (sh.trans si))))
theorem ok_law (F : Fun K "law" "law" s_law f fd) (z : Z mg) (c__law_box : Cal P w K mg base "_law_box" ["great"] 1 spBox) (c__law_cell : Cal P w K mg base "_law_cell" ["script", "k"] 1 (spCell K)) (c__law_long_holds : Cal P w K mg base "_law_long_holds" ["box"] 8 spLong) (c__law_wide_holds : Cal P w K mg base "_law_wide_holds" ["box"] 8 spLong)
    (c__law_sides : Cal P w K mg base "_law_sides" ["box"] 3 spSides) (c__law_distance : Cal P w K mg base "_law_distance" ["one", "other"] 1 spDist)
    (c__law_cut : Cal P w K mg base "_law_cut" ["box", "one", "other"] 2 spCut) (c__law_holds : Cal P w K mg base "_law_holds" ["parts", "due"] 7 spHolds) : FnOk P w K mg base CX0 9 f fd ["script"] (spLaw K) := by
  refine F.ok sc_law (fun vs H Q E h => ?_) (fun cdv A outer s H vs Q E hr h => ?_)
  · obtain ⟨a, ns, rfl, _⟩ := h; rfl
  · obtain ⟨a, ns, rfl, L, k⟩ := h
    refine ⟨_, (pss_cons (ps_for PassesOwn.never rfl (pi_range1 (by rfl) z.range (pa_cons (pe_callB (call_max2N rfl) (by rfl) z.max_ (by decide +kernel) (pa_cons pe_int (pa_cons (pe_callB (call_min2N rfl) (by rfl) z.min_ (by decide +kernel) (pa_cons pe_int (pa_cons (pe_callB call_lenQ (by rfl) z.len PySem.boot_len (pa_cons (pv 0) pa_nil)) pa_nil))) pa_nil))) pa_nil)) (pg_name (i := 1) sc_law.nd rfl (.inl rfl))
        (pss_cons (ps_set (i := 2) sc_law.nd rfl (.inl rfl) (pe_cal c__law_box hr (pa_cons (pe_cal c__law_cell hr (pa_cons (pv 0) (pa_cons (pv 1) pa_nil))) pa_nil)))
        (C8.pss_cut (ps_if (PW.pt (pw_and (pt_cmpR op_eq (pv 1) pe_int (nomark _)) (pw_and1 (pt_not (PW.pt (pw_and (pt_val (pe_cal c__law_long_holds hr (pa_cons (pv 2) pa_nil))) (pw_and1 (pt_val (pe_cal c__law_wide_holds hr (pa_cons (pv 2) pa_nil))))))))))
          (pss_one (ps_ret pe_bl))
          pss_nil)
        (pss_one (ps_for PassesOwn.never rfl (pi_range1 (by rfl) z.range (pa_cons pe_int pa_nil)) (pg_name (i := 3) sc_law.nd rfl (.inl rfl))
          (pss_cons (ps_asg (pe_cal c__law_sides hr (pa_cons (pv 2) pa_nil)) (pg_lst rfl (pgs_cons (pg_name (i := 4) sc_law.nd rfl (.inl rfl)) (pgs_cons (pg_name (i := 5) sc_law.nd rfl (.inl rfl)) pgs_nil))))
          (pss_one (ps_if (pt_not (pt_val (pe_cal c__law_holds hr (pa_cons (pe_cal c__law_cut hr (pa_cons (pv 2) (pa_cons (pv 4) (pa_cons (pv 5) pa_nil)))) (pa_cons (pe_cal c__law_distance hr (pa_cons (pv 4) (pa_cons (pv 5) pa_nil))) pa_nil)))))
            (pss_one (ps_ret pe_bl))
            pss_nil))))))))
      (pss_one (ps_ret pe_bl))), ?_⟩
    walk_at "rd"
    refine i_lenK L ?_
    walk_at "rd"
    rw [List.length_map]
    refine i_rng (by omega) (by omega) ?_
    refine go_for walk_rangeZ (fun i σ H2 => ∃ u1 u2 u3 u4 u5, σ = [some (.ref a), u1, u2, u3, u4, u5] ∧ Same H H2) ⟨none, none, none, none, none, rfl, Same.refl _⟩ (fun _ _ _ _ _ => trivial) (fun i v σ H2 H3 hi p y => ?_) (fun σ H2 p => ?_)
    · obtain ⟨u1, u2, u3, u4, u5, rfl, s2⟩ := p
      obtain ⟨rfl, rfl⟩ := y
      walk_at "rd"
      refine ⟨a, ns, i, rfl, Same.sqL s2 L, by omega, by omega, fun v H4 s4 => ?_⟩
      walk_at "rd"
      refine ⟨v, rfl, fun b H5 nb s5 B5 => ?_⟩
      have S5 : Same H H5 := s2.trans (s4.trans s5)
      have nbH : H b = none := by
        rcases e : H b with _ | o
        · rfl
        · rw [s4 _ _ (s2 _ _ e)] at nb; cases nb
      have go : ∀ {H6 H7 : Hp}, Same H H6 → SB b H6 H7 → Same H H7 := fun s6 s7 x o e => s7 _ _ (ne_of_none e nbH) (s6 _ _ e)
      refine i_cut (fun σ' H' => σ' = [some (.ref a), some (.int i), some (.ref b), u3, u4, u5] ∧ BoxAt H' b 400 ∧ Same H H') ?_ ?_
      · walk_at "rd"
        refine iteB (fun h0 => ?_) (fun h0 => ?_)
        · walk_at "rd"
          refine ⟨b, 0, rfl, B5, by omega, fun H6 B6 s6 => ?_⟩
          walk_at "rd"
          refine ⟨b, _, rfl, B6, by omega, fun H7 B7 s7 => ?_⟩
          walk_at "rd"
          exact ⟨rfl, B7.mono (by omega), go S5 (s6.trans s7)⟩
        · walk_at "rd"
          exact ⟨rfl, B5.mono (by omega), S5⟩
      · rintro _ H6 ⟨rfl, B6, S6⟩
        walk_at "rd"
        refine i_rng (by omega) (by omega) ?_
        refine go_for walk_rangeZ (fun t σ H7 => ∃ u3 u4 u5, σ = [some (.ref a), some (.int i), some (.ref b), u3, u4, u5] ∧ BoxAt H7 b (400 + 100 * t) ∧ Same H H7) ⟨_, _, _, rfl, B6.mono (by omega), S6⟩ (fun _ _ _ _ _ => trivial) (fun t v σ H7 H8 ht p y => ?_) (fun σ H7 p => ?_)
        · obtain ⟨u3, u4, u5, rfl, B7, S7⟩ := p
          obtain ⟨rfl, rfl⟩ := y
          have ht2 : t < 2 := ht
          walk_at "rd"
          refine ⟨b, _, rfl, B7, by omega, fun ps x y H9 zx zy lx ly eps B9 s9 => ?_⟩
          refine ⟨ps, _, rfl, sqL_of eps, rfl, ?_⟩
          walk_at "rd"
          refine ⟨b, x, y, _, rfl, B9, by omega, by omega, by omega, fun pp p q x' l l2 y' r r2 Hg e1 e2 e3 e4 e5 e6 e7 Bg sg => ?_⟩
          walk_at "rd"
          refine ⟨x, y, rfl, by omega, by omega, fun Hh sh => ?_⟩
          walk_at "rd"
          subst e1 e2
          refine ⟨pp, p, q, x', l, l2, y', r, r2, rfl, sh _ _ e5, sh _ _ e6, sh _ _ e7, e3, e4, zx, zy, by omega, by omega, fun Hi si => ?_⟩
          walk_at "rd"
          exact ⟨_, _, _, rfl, (Bg.same (sh.trans si)).mono (by omega), go S7 (s9.trans (sg.trans (SB.of (sh.trans si))))⟩
        · obtain ⟨u3, u4, u5, rfl, B7, S7⟩ := p
          exact ⟨_, _, _, _, _, rfl, S7⟩
    · obtain ⟨u1, u2, u3, u4, u5, rfl, s2⟩ := p
      walk_at "rd"
      exact k _ s2
end
end Sw
namespace Sw
open PySem PySem.Spec PyProof.Rows L2
theorem def_mk {K : PySem.W.Frag} {h : Heap} {mg : Str → Option Value} {x : Str} {st : Stmt} {f : Addr} {od an : Option Addr} {sl : Array (Option Value)} {oc kV dc pm cd ct : Value} (X : K.In h) (G : h.Ns mainGlobals mg)
    (a : PySem.W.nsIn K mainGlobals x = some (some (.ref f))) (l : K.lookup f = some ⟨oc, od, .func (PySem.W.fnOf x x (defArgs st) (defBody st) (defScope st) .none kV dc pm an cd ct), sl⟩) (c : PySem.W.codeIn K cd x = true) (k : PySem.W.keepIn K (.ref f) = true) : Def K mg x st :=
  ⟨f, _, fun_mk l c k, PySem.W.mg_of X G a⟩
theorem all_mk {l : PySem.W.OpenLaw} {w : World} {K : PySem.W.Frag} {mg : Str → Option Value} {fa : Addr} (hfa : mg "law" = some (.ref fa)) (z : Z mg) {t_LETTERS : Tok} (g_LETTERS : mg "LETTERS" = some (.str (("abcdefghijklmnopqrstuvwxyz" : Str)) t_LETTERS))
    (d__law_take : Def K mg "_law_take" s__law_take) (d__law_box : Def K mg "_law_box" s__law_box) (d__law_cell : Def K mg "_law_cell" s__law_cell) (d_is_text : Def K mg "is_text" s_is_text) (d_check_text : Def K mg "check_text" s_check_text) (d_is_lag : Def K mg "is_lag" s_is_lag) (d_common_beginning : Def K mg "common_beginning" s_common_beginning) (d_without_common_ends : Def K mg "without_common_ends" s_without_common_ends) (d_next_band : Def K mg "next_band" s_next_band) (d_distance_within : Def K mg "distance_within" s_distance_within) (d_levenshtein : Def K mg "levenshtein" s_levenshtein) (d_distance : Def K mg "distance" s_distance) (d_gap_price : Def K mg "gap_price" s_gap_price) (d__law_distance : Def K mg "_law_distance" s__law_distance) (d__law_text : Def K mg "_law_text" s__law_text) (d__law_changed : Def K mg "_law_changed" s__law_changed) (d__law_sides : Def K mg "_law_sides" s__law_sides) (d__law_cut : Def K mg "_law_cut" s__law_cut) (d__law_holds : Def K mg "_law_holds" s__law_holds) (d__law_long_holds : Def K mg "_law_long_holds" s__law_long_holds) (d__law_wide_holds : Def K mg "_law_wide_holds" s__law_wide_holds) (d_law : Def K mg "law" s_law) :
    ∃ fd : FuncData, (∀ (s : Shared) (v : Value), BindsTo s fd ⟨[v], []⟩ [("script", v)]) ∧ ∀ base : Heap, K.In base → base.Ns mainGlobals mg → FnOk l.prog w K mg base CX0 9 fa fd ["script"] (spLaw K) := by
  obtain ⟨f, fd, F, e⟩ := d_law
  cases hfa.symm.trans e
  have F0 := F
  obtain ⟨oc, od, kV, doc, pm, an, cdv, ct, osl, rfl, lk, hcd⟩ := F.ex
  refine ⟨PySem.W.fnOf "law" "law" (defArgs s_law) (defBody s_law) (defScope s_law) .none kV doc pm an cdv ct, fun s v => .of_eq rfl, fun base _ _ => ?_⟩
  have c__law_take := d__law_take.cal (P := l.prog) (w := w) (base := base) (ps := ["box", "many"]) (k := 1) (sp := spTake) (fun _ _ _ _ _ _ us hl => match us, hl with | [_, _], _ => rfl) fun f fd F => ok__law_take F z
  have c__law_box := d__law_box.cal (P := l.prog) (w := w) (base := base) (ps := ["great"]) (k := 1) (sp := spBox) (fun _ _ _ _ _ _ us hl => match us, hl with | [_], _ => rfl) fun f fd F => ok__law_box F z
  have c__law_cell := d__law_cell.cal (P := l.prog) (w := w) (base := base) (ps := ["script", "k"]) (k := 1) (sp := (spCell K)) (fun _ _ _ _ _ _ us hl => match us, hl with | [_, _], _ => rfl) fun f fd F => ok__law_cell F z
  have c_is_text := d_is_text.cal (P := l.prog) (w := w) (base := base) (ps := ["value"]) (k := 1) (sp := (spIsText K)) (fun _ _ _ _ _ _ us hl => match us, hl with | [_], _ => rfl) fun f fd F => ok_is_text F z g_LETTERS
  have c_check_text := d_check_text.cal (P := l.prog) (w := w) (base := base) (ps := ["text"]) (k := 2) (sp := spCheckText) (fun _ _ _ _ _ _ us hl => match us, hl with | [_], _ => rfl) fun f fd F => ok_check_text F c_is_text
  have c_is_lag := d_is_lag.cal (P := l.prog) (w := w) (base := base) (ps := ["value"]) (k := 2) (sp := (spIsLag K)) (fun _ _ _ _ _ _ us hl => match us, hl with | [_], _ => rfl) fun f fd F => ok_is_lag F z c_is_text
  have c_common_beginning := d_common_beginning.cal (P := l.prog) (w := w) (base := base) (ps := ["one", "other"]) (k := 1) (sp := spCommon) (fun _ _ _ _ _ _ us hl => match us, hl with | [_, _], _ => rfl) fun f fd F => ok_common F z
  have c_without_common_ends := d_without_common_ends.cal (P := l.prog) (w := w) (base := base) (ps := ["one", "other"]) (k := 2) (sp := spEnds) (fun _ _ _ _ _ _ us hl => match us, hl with | [_, _], _ => rfl) fun f fd F => ok_ends F z c_common_beginning
  have c_next_band := d_next_band.cal (P := l.prog) (w := w) (base := base) (ps := ["band", "letter", "at", "other"]) (k := 1) (sp := (spNext K)) (fun _ _ _ _ _ _ us hl => match us, hl with | [_, _, _, _], _ => rfl) fun f fd F => ok_next F z
  have c_distance_within := d_distance_within.cal (P := l.prog) (w := w) (base := base) (ps := ["one", "other", "most"]) (k := 3) (sp := spWithin) (fun _ _ _ _ _ _ us hl => match us, hl with | [_, _, _], _ => rfl) fun f fd F => ok_within F z c_without_common_ends c_next_band
  have c_levenshtein := d_levenshtein.cal (P := l.prog) (w := w) (base := base) (ps := ["one", "other"]) (k := 4) (sp := spLev) (fun _ _ _ _ _ _ us hl => match us, hl with | [_, _], _ => rfl) fun f fd F => ok_lev F z c_distance_within
  have c_distance := d_distance.cal (P := l.prog) (w := w) (base := base) (ps := ["one", "other"]) (k := 5) (sp := spLev) (fun _ _ _ _ _ _ us hl => match us, hl with | [_, _], _ => rfl) fun f fd F => ok_distance F c_levenshtein c_check_text
  have c_gap_price := d_gap_price.cal (P := l.prog) (w := w) (base := base) (ps := ["before", "left", "right", "behind"]) (k := 6) (sp := spGap) (fun _ _ _ _ _ _ us hl => match us, hl with | [_, _, _, _], _ => rfl) fun f fd F => ok_gap F c_distance c_check_text c_is_lag
  have k_gap_price := d_gap_price.calK (P := l.prog) (w := w) (base := base) (ps := ["before", "left", "right", "behind"]) (ks := gapKs) (k := 6) (sp := spGap) (g := back4) (gV := back4)
    (fun kV doc pm an cdv ct us ws hl => by obtain ⟨rfl, d, c, b, a, rfl⟩ := back4_inv hl; rfl) back4_rel fun f fd F => ok_gap F c_distance c_check_text c_is_lag
  have c__law_distance := d__law_distance.cal (P := l.prog) (w := w) (base := base) (ps := ["one", "other"]) (k := 1) (sp := spDist) (fun _ _ _ _ _ _ us hl => match us, hl with | [_, _], _ => rfl) fun f fd F => ok_dist F z
  have c__law_text := d__law_text.cal (P := l.prog) (w := w) (base := base) (ps := ["box", "letters", "most"]) (k := 2) (sp := spText) (fun _ _ _ _ _ _ us hl => match us, hl with | [_, _, _], _ => rfl) fun f fd F => ok_text F z c__law_take
  have c__law_changed := d__law_changed.cal (P := l.prog) (w := w) (base := base) (ps := ["box", "text", "letters"]) (k := 2) (sp := spChanged) (fun _ _ _ _ _ _ us hl => match us, hl with | [_, _, _], _ => rfl) fun f fd F => ok_changed F z c__law_take
  have c__law_sides := d__law_sides.cal (P := l.prog) (w := w) (base := base) (ps := ["box"]) (k := 3) (sp := spSides) (fun _ _ _ _ _ _ us hl => match us, hl with | [_], _ => rfl) fun f fd F => ok_sides F z c__law_take c__law_text c__law_changed
  have c__law_cut := d__law_cut.cal (P := l.prog) (w := w) (base := base) (ps := ["box", "one", "other"]) (k := 2) (sp := spCut) (fun _ _ _ _ _ _ us hl => match us, hl with | [_, _, _], _ => rfl) fun f fd F => ok_cut F z c__law_take
  have c__law_holds := d__law_holds.cal (P := l.prog) (w := w) (base := base) (ps := ["parts", "due"]) (k := 7) (sp := spHolds) (fun _ _ _ _ _ _ us hl => match us, hl with | [_, _], _ => rfl) fun f fd F => ok_holds F z c_gap_price k_gap_price
  have c__law_long_holds := d__law_long_holds.cal (P := l.prog) (w := w) (base := base) (ps := ["box"]) (k := 8) (sp := spLong) (fun _ _ _ _ _ _ us hl => match us, hl with | [_], _ => rfl) fun f fd F => ok_long F z c__law_take c__law_text c__law_cut c__law_holds
  have c__law_wide_holds := d__law_wide_holds.cal (P := l.prog) (w := w) (base := base) (ps := ["box"]) (k := 8) (sp := spLong) (fun _ _ _ _ _ _ us hl => match us, hl with | [_], _ => rfl) fun f fd F => ok_wide F z c__law_take c__law_distance c__law_cut c__law_holds
  exact ok_law F0 z c__law_box c__law_cell c__law_long_holds c__law_wide_holds c__law_sides c__law_distance c__law_cut c__law_holds
end Sw
open PySem PySem.W PyProof.Rows
set_option maxHeartbeats 0 in
theorem PySem.Challenge.cw_spoiltways_k73_price_of_a_gap_holds : PySem.Challenge.rw_spoiltways_k73_price_of_a_gap.Holds := by
  w_on; o_law; k_head; (case hw => w_witness2)
  k_fill
  refine L2.walk_of (l := PySem.Challenge.rw_spoiltways_k73_price_of_a_gap) (n := 63) (k := 9) (x := "script") (CX := fun _ => L2.CX0) (sp := fun w => Sw.spLaw _) rfl (by decide) rfl ⟨rfl, by decide, by decide⟩ (fun w h Y => PySem.W.kIn_of Y) ?F (fun _ _ a ns hl _ hS => ⟨a, ns, rfl, hS, fun _ _ => rfl⟩) (fun _ _ _ _ _ h => h)
  case F =>
    intro w mg fa h KX G hmg
    have z : Sw.Z mg := by
      refine' ⟨PySem.W.mg_none_of KX G ?z0, PySem.W.mg_none_of KX G ?z1, PySem.W.mg_none_of KX G ?z2, PySem.W.mg_none_of KX G ?z3, PySem.W.mg_none_of KX G ?z4, PySem.W.mg_none_of KX G ?z5, PySem.W.mg_none_of KX G ?z6, PySem.W.mg_none_of KX G ?z7, PySem.W.mg_none_of KX G ?z8, PySem.W.mg_none_of KX G ?z9, PySem.W.mg_none_of KX G ?z10, PySem.W.mg_none_of KX G ?z11, PySem.W.mg_none_of KX G ?z12, PySem.W.mg_none_of KX G ?z13, PySem.W.mg_none_of KX G ?z14⟩
      (case z0 => k_is)
      (case z1 => k_is)
      (case z2 => k_is)
      (case z3 => k_is)
      (case z4 => k_is)
      (case z5 => k_is)
      (case z6 => k_is)
      (case z7 => k_is)
      (case z8 => k_is)
      (case z9 => k_is)
      (case z10 => k_is)
      (case z11 => k_is)
      (case z12 => k_is)
      (case z13 => k_is)
      (case z14 => k_is)
    obtain ⟨v_LETTERS, gv_LETTERS, t_LETTERS, rfl⟩ : ∃ v, mg "LETTERS" = some v ∧ ∃ t, v = .str (("abcdefghijklmnopqrstuvwxyz" : Str)) t := by
      refine' ⟨_, PySem.W.mg_of KX G ?a, ?b⟩
      (case a => k_is)
      (case b => first | exact ⟨_, rfl⟩ | exact ⟨_, congrArg (fun y => PySem.Value.str y _) (by decide +kernel)⟩)
    refine' Sw.all_mk hmg z gv_LETTERS ?d__law_take ?d__law_box ?d__law_cell ?d_is_text ?d_check_text ?d_is_lag ?d_common_beginning ?d_without_common_ends ?d_next_band ?d_distance_within ?d_levenshtein ?d_distance ?d_gap_price ?d__law_distance ?d__law_text ?d__law_changed ?d__law_sides ?d__law_cut ?d__law_holds ?d__law_long_holds ?d__law_wide_holds ?d_law
    case d__law_take =>
      refine' Sw.def_mk KX G ?a ?l ?c ?k
      (case a => k_is)
      (case l => k_is)
      (case c => k_is)
      (case k => k_is)
    case d__law_box =>
      refine' Sw.def_mk KX G ?a ?l ?c ?k
      (case a => k_is)
      (case l => k_is)
      (case c => k_is)
      (case k => k_is)
    case d__law_cell =>
      refine' Sw.def_mk KX G ?a ?l ?c ?k
      (case a => k_is)
      (case l => k_is)
      (case c => k_is)
      (case k => k_is)
    case d_is_text =>
      refine' Sw.def_mk KX G ?a ?l ?c ?k
      (case a => k_is)
      (case l => k_is)
      (case c => k_is)
      (case k => k_is)
    case d_check_text =>
      refine' Sw.def_mk KX G ?a ?l ?c ?k
      (case a => k_is)
      (case l => k_is)
      (case c => k_is)
      (case k => k_is)
    case d_is_lag =>
      refine' Sw.def_mk KX G ?a ?l ?c ?k
      (case a => k_is)
      (case l => k_is)
      (case c => k_is)
      (case k => k_is)
    case d_common_beginning =>
      refine' Sw.def_mk KX G ?a ?l ?c ?k
      (case a => k_is)
      (case l => k_is)
      (case c => k_is)
      (case k => k_is)
    case d_without_common_ends =>
      refine' Sw.def_mk KX G ?a ?l ?c ?k
      (case a => k_is)
      (case l => k_is)
      (case c => k_is)
      (case k => k_is)
    case d_next_band =>
      refine' Sw.def_mk KX G ?a ?l ?c ?k
      (case a => k_is)
      (case l => k_is)
      (case c => k_is)
      (case k => k_is)
    case d_distance_within =>
      refine' Sw.def_mk KX G ?a ?l ?c ?k
      (case a => k_is)
      (case l => k_is)
      (case c => k_is)
      (case k => k_is)
    case d_levenshtein =>
      refine' Sw.def_mk KX G ?a ?l ?c ?k
      (case a => k_is)
      (case l => k_is)
      (case c => k_is)
      (case k => k_is)
    case d_distance =>
      refine' Sw.def_mk KX G ?a ?l ?c ?k
      (case a => k_is)
      (case l => k_is)
      (case c => k_is)
      (case k => k_is)
    case d_gap_price =>
      refine' Sw.def_mk KX G ?a ?l ?c ?k
      (case a => k_is)
      (case l => k_is)
      (case c => k_is)
      (case k => k_is)
    case d__law_distance =>
      refine' Sw.def_mk KX G ?a ?l ?c ?k
      (case a => k_is)
      (case l => k_is)
      (case c => k_is)
      (case k => k_is)
    case d__law_text =>
      refine' Sw.def_mk KX G ?a ?l ?c ?k
      (case a => k_is)
      (case l => k_is)
      (case c => k_is)
      (case k => k_is)
    case d__law_changed =>
      refine' Sw.def_mk KX G ?a ?l ?c ?k
      (case a => k_is)
      (case l => k_is)
      (case c => k_is)
      (case k => k_is)
    case d__law_sides =>
      refine' Sw.def_mk KX G ?a ?l ?c ?k
      (case a => k_is)
      (case l => k_is)
      (case c => k_is)
      (case k => k_is)
    case d__law_cut =>
      refine' Sw.def_mk KX G ?a ?l ?c ?k
      (case a => k_is)
      (case l => k_is)
      (case c => k_is)
      (case k => k_is)
    case d__law_holds =>
      refine' Sw.def_mk KX G ?a ?l ?c ?k
      (case a => k_is)
      (case l => k_is)
      (case c => k_is)
      (case k => k_is)
    case d__law_long_holds =>
      refine' Sw.def_mk KX G ?a ?l ?c ?k
      (case a => k_is)
      (case l => k_is)
      (case c => k_is)
      (case k => k_is)
    case d__law_wide_holds =>
      refine' Sw.def_mk KX G ?a ?l ?c ?k
      (case a => k_is)
      (case l => k_is)
      (case c => k_is)
      (case k => k_is)
    case d_law =>
      refine' Sw.def_mk KX G ?a ?l ?c ?k
      (case a => k_is)
      (case l => k_is)
      (case c => k_is)
      (case k => k_is)
